import PyProof.Rows.All
import Wide.All
import OpenK.AllK
import Wide.FinOn
import HandS.ForMost
import HandS.ForExc
import HandS.Flow
import HandS.Wide
import HandS.IsInst
import HandS.Deep
import HandS.Conv
import HandS.TupAny
import HandS.TupMul
import HandS.Walk
import HandS.Zip
import HandS.CallSlots
import HandS.TryMany
import HandS.Defaults
import HandS.Lambda
import KE.GoesMore
import HandS.EndBits
import HandS.HeadEnd
import HandS.HeadHook4
import HandS.Head2
import HandS.Style
import PyProof.P3In
import PyProof.Rows.IntBool
import PyProof.CallStr
import KE.GoesEnum
import HandS.ExcInit
import HandS.ExcField
import HandS.ExcIs
import HandS.Small
import KE.KExcIs
import KE.KTupSum
import PyProof.StrLawsRepr
import HandS.TupSets
import KE.KDictPairs
import HandS.NoneIn
import KE.SortData
import PyProof.EqKinds
import PyProof.NeData
import PySem.Challenge.RW_frankmarks_k34_what_is_no_book
set_option Elab.async false
set_option linter.all false
set_option maxRecDepth 100000
namespace Fk
open PySem PySem.Spec PyProof.Rows L2

/-! ### data, cells, ends -/
inductive D where
  | non | bl (b : Bool) | int (i : Int) | str (x : Str)
  | tup (xs : List D) | lst (xs : List D) | dct (kvs : List (Key × D)) | ref (n : Nat) | scr (xs : List D) | exn (c : Str) (ns : List Str) (ds : List D)
inductive Cell where
  | lst (live : Bool) (xs : List D)
  | dK (kvs : List (Key × D))
  | dT (kvs : List (List Key × D))
  | ins (c : Str) (fs : List (Str × D))
abbrev Store := List Cell
abbrev Env := List (Option D)
inductive Out (α : Type) where
  | ok (a : α) (S : Store)
  | exc (c : Str) (fs : List (Str × D)) (S : Store)
  | stuck
namespace Out
def bind {α β : Type} : Out α → (α → Store → Out β) → Out β
  | .ok a S, f => f a S
  | .exc c fs S, _ => .exc c fs S
  | .stuck, _ => .stuck
@[simp] theorem ok_bind {α β : Type} (a : α) (S : Store) (f : α → Store → Out β) : (Out.ok a S).bind f = f a S := rfl
@[simp] theorem exc_bind {α β : Type} (c : Str) (fs : List (Str × D)) (S : Store) (f : α → Store → Out β) : (Out.exc c fs S : Out α).bind f = .exc c fs S := rfl
@[simp] theorem stuck_bind {α β : Type} (f : α → Store → Out β) : (Out.stuck : Out α).bind f = .stuck := rfl
end Out
abbrev SemE := Env → Store → Out D
abbrev SemT := Env → Store → Out Bool
abbrev SemA := Env → Store → Out (List D)
inductive OutS where
  | nx (ρ : Env) (S : Store)
  | rt (d : D) (S : Store)
  | bk (ρ : Env) (S : Store)
  | ct (ρ : Env) (S : Store)
  | exc (c : Str) (fs : List (Str × D)) (ρ : Env) (S : Store)
  | stuck
abbrev SemS := Env → Store → OutS

/-! ### which cells a value leans on -/
mutual
def closed (n : Nat) : D → Bool
  | .ref m => decide (m < n)
  | .tup xs => closedA n xs
  | .lst xs => closedA n xs
  | .scr xs => closedA n xs
  | .exn _ _ xs => closedA n xs
  | .dct kvs => closedK n kvs
  | _ => true
def closedA (n : Nat) : List D → Bool
  | [] => true
  | d :: ds => closed n d && closedA n ds
def closedK (n : Nat) : List (Key × D) → Bool
  | [] => true
  | (_, d) :: ds => closed n d && closedK n ds
end
def closedV {κ : Type} (n : Nat) (kvs : List (κ × D)) : Bool := closedA n (kvs.map (·.2))
def closedC (n : Nat) : Cell → Bool
  | .lst _ xs => closedA n xs
  | .dK kvs => closedV n kvs
  | .dT kvs => closedV n kvs
  | .ins _ fs => closedV n fs
theorem closedA_append (n : Nat) : ∀ xs ys : List D, closedA n (xs ++ ys) = (closedA n xs && closedA n ys)
  | [], ys => by simp [closedA]
  | x :: xs, ys => by rw [List.cons_append, closedA, closedA, closedA_append n xs ys, Bool.and_assoc]
theorem closedA_mem {n : Nat} : ∀ {xs : List D}, closedA n xs = true ↔ ∀ x ∈ xs, closed n x = true
  | [] => by simp [closedA]
  | x :: xs => by rw [closedA, Bool.and_eq_true, closedA_mem]; simp
mutual
theorem closed_mono {n m : Nat} (h : n ≤ m) : ∀ {d : D}, closed n d = true → closed m d = true
  | .ref k, c => by
    simp only [closed, decide_eq_true_eq] at c ⊢
    omega
  | .tup xs, c => by
    simp only [closed] at c ⊢
    exact closedA_mono h c
  | .lst xs, c => by
    simp only [closed] at c ⊢
    exact closedA_mono h c
  | .scr xs, c => by
    simp only [closed] at c ⊢
    exact closedA_mono h c
  | .exn _ _ xs, c => by
    simp only [closed] at c ⊢
    exact closedA_mono h c
  | .dct kvs, c => by
    simp only [closed] at c ⊢
    exact closedKm h c
  | .non, _ => by simp [closed]
  | .bl _, _ => by simp [closed]
  | .int _, _ => by simp [closed]
  | .str _, _ => by simp [closed]
theorem closedA_mono {n m : Nat} (h : n ≤ m) : ∀ {ds : List D}, closedA n ds = true → closedA m ds = true
  | [], _ => by simp [closedA]
  | d :: ds, c => by
    simp only [closedA, Bool.and_eq_true] at c ⊢
    exact ⟨closed_mono h c.1, closedA_mono h c.2⟩
theorem closedKm {n m : Nat} (h : n ≤ m) : ∀ {ds : List (Key × D)}, closedK n ds = true → closedK m ds = true
  | [], _ => by simp [closedK]
  | (k, d) :: ds, c => by
    simp only [closedK, Bool.and_eq_true] at c ⊢
    exact ⟨closed_mono h c.1, closedKm h c.2⟩
end
theorem closedK_eq (n : Nat) : ∀ kvs : List (Key × D), closedK n kvs = closedA n (kvs.map (·.2))
  | [] => by simp [closedK, closedA]
  | (k, d) :: r => by rw [closedK, List.map_cons, closedA, closedK_eq n r]
@[simp] theorem closed_int (n : Nat) (i : Int) : closed n (.int i) = true := by simp [closed]
@[simp] theorem closed_bl (n : Nat) (i : Bool) : closed n (.bl i) = true := by simp [closed]
@[simp] theorem closed_str (n : Nat) (i : Str) : closed n (.str i) = true := by simp [closed]
@[simp] theorem closed_non (n : Nat) : closed n .non = true := by simp [closed]
@[simp] theorem closed_tup (n : Nat) (xs : List D) : closed n (.tup xs) = closedA n xs := by simp [closed]
@[simp] theorem closed_lst (n : Nat) (xs : List D) : closed n (.lst xs) = closedA n xs := by simp [closed]
@[simp] theorem closedA_nil (n : Nat) : closedA n [] = true := by simp [closedA]
@[simp] theorem closedA_cons (n : Nat) (x : D) (xs : List D) : closedA n (x :: xs) = (closed n x && closedA n xs) := by simp [closedA]
@[simp] theorem closedA_ints (n : Nat) (ns : List Int) : closedA n (ns.map D.int) = true := closedA_mem.mpr fun x h => by
  obtain ⟨i, _, rfl⟩ := List.mem_map.mp h
  simp

/-! ### what stands for what -/
/-- at a: a caught exception of the class at C, its dict -/
def xo (a C : Addr) (d : Option Addr) : HO := .ext fun h => ∃ oe : Obj, h.get? a = some oe ∧ oe.cls = .ref C ∧ oe.dict = d ∧ ∃ vs, oe.data = .fields vs
mutual
inductive Rel (K : PySem.W.Frag) (F : Hp) (ι : List Addr) : V → D → Prop
  | non : Rel K F ι .non .non
  | bl (b : Bool) : Rel K F ι (.bl b) (.bl b)
  | int (i : Int) : Rel K F ι (.int i) (.int i)
  | str (x : Str) : Rel K F ι (.str x) (.str x)
  | tup {a : Addr} {vs : List V} {ds : List D} : F a = some (.tup vs) → RelAll K F ι vs ds → Rel K F ι (.ref a) (.tup ds)
  | lst {a : Addr} {vs : List V} {ds : List D} : F a = some (.lst vs) → RelAll K F ι vs ds → Rel K F ι (.ref a) (.lst ds)
  | scr {a : Addr} {vs : List V} {ds : List D} : SqL K F a vs → RelAll K F ι vs ds → Rel K F ι (.ref a) (.scr ds)
  | dct {a : Addr} {kvs : List (Key × V)} {kds : List (Key × D)} : F a = some (.dK kvs) → kvs.map (·.1) = kds.map (·.1) → RelAll K F ι (kvs.map (·.2)) (kds.map (·.2)) → Rel K F ι (.ref a) (.dct kds)
  | ref {n : Nat} {a : Addr} : ι[n]? = some a → Rel K F ι (.ref a) (.ref n)
  | exn0 {a C : Addr} {c : Str} : F a = some (xo a C none) → PySem.W.nsIn K mainGlobals c = some (some (.ref C)) → Rel K F ι (.ref a) (.exn c [] [])
  | exn {a C dx : Addr} {c : Str} {fv : List (Str × V)} {ns : List Str} {ds : List D} : F a = some (xo a C (some dx)) → PySem.W.nsIn K mainGlobals c = some (some (.ref C)) → F dx = some (.xd fv) → fv.map (·.1) = ns → RelAll K F ι (fv.map (·.2)) ds → Rel K F ι (.ref a) (.exn c ns ds)
inductive RelAll (K : PySem.W.Frag) (F : Hp) (ι : List Addr) : List V → List D → Prop
  | nil : RelAll K F ι [] []
  | cons {v : V} {vs : List V} {d : D} {ds : List D} : Rel K F ι v d → RelAll K F ι vs ds → RelAll K F ι (v :: vs) (d :: ds)
end
structure RelKV {κ : Type} (K : PySem.W.Frag) (F : Hp) (ι : List Addr) (kvs : List (κ × V)) (kds : List (κ × D)) : Prop where
  ks : kvs.map (·.1) = kds.map (·.1)
  vs : RelAll K F ι (kvs.map (·.2)) (kds.map (·.2))
/-- the frozen part and the cells' places have grown -/
structure Ext (F : Hp) (ι : List Addr) (F' : Hp) (ι' : List Addr) : Prop where
  same : Same F F'
  pre : ι <+: ι'
theorem Ext.refl (F : Hp) (ι : List Addr) : Ext F ι F ι := ⟨Same.refl F, List.prefix_rfl⟩
theorem Ext.trans {F F1 F2 : Hp} {ι ι1 ι2 : List Addr} (a : Ext F ι F1 ι1) (b : Ext F1 ι1 F2 ι2) : Ext F ι F2 ι2 := ⟨a.same.trans b.same, a.pre.trans b.pre⟩
theorem same_t {K : PySem.W.Frag} {F F' : Hp} {a : Addr} {xs : List V} (e : Same F F') (h : SqT K F a xs) : SqT K F' a xs := by
  rcases h with (h | ⟨o, h⟩) | h
  · exact .inl (.inl (e _ _ h))
  · exact .inl (.inr ⟨o, e _ _ h⟩)
  · exact .inr h
mutual
theorem Rel.mono0 {K : PySem.W.Frag} {F F' : Hp} {ι ι' : List Addr} (x : Ext F ι F' ι') : ∀ {v : V} {d : D}, Rel K F ι v d → Rel K F' ι' v d
  | _, _, .non => .non
  | _, _, .bl b => .bl b
  | _, _, .int i => .int i
  | _, _, .str y => .str y
  | _, _, .tup h r => .tup (x.same _ _ h) (RelAll.mono0 x r)
  | _, _, .lst h r => .lst (x.same _ _ h) (RelAll.mono0 x r)
  | _, _, .scr h r => .scr (x.same.seq h) (RelAll.mono0 x r)
  | _, _, .dct h k r => .dct (x.same _ _ h) k (RelAll.mono0 x r)
  | _, _, .exn0 h k => .exn0 (x.same _ _ h) k
  | _, _, .exn h k h2 e r => .exn (x.same _ _ h) k (x.same _ _ h2) e (RelAll.mono0 x r)
  | _, _, .ref h => .ref (by
      obtain ⟨t, rfl⟩ := x.pre
      rw [List.getElem?_append_left (List.getElem?_eq_some_iff.mp h).1]
      exact h)
theorem RelAll.mono0 {K : PySem.W.Frag} {F F' : Hp} {ι ι' : List Addr} (x : Ext F ι F' ι') : ∀ {vs : List V} {ds : List D}, RelAll K F ι vs ds → RelAll K F' ι' vs ds
  | _, _, .nil => .nil
  | _, _, .cons h r => .cons (Rel.mono0 x h) (RelAll.mono0 x r)
end
/-- what stands by itself: no tuple (such may be frozen at any time), no table of code objects (such grow) -/
def Kp : HO → Prop
  | .tup _ => False
  | .tbl _ => False
  | _ => True
/-- .. and nothing else of the heap has changed -/
structure Step (F : Hp) (ι : List Addr) (H : Hp) (F' : Hp) (ι' : List Addr) (H' : Hp) : Prop extends Ext F ι F' ι' where
  keep : ∀ b o, H b = some o → F b = none → b ∉ ι → Kp o → H' b = some o ∧ F' b = none ∧ b ∉ ι'
  dom : ∀ b, H' b = none → H b = none
theorem Step.refl (F : Hp) (ι : List Addr) (H : Hp) : Step F ι H F ι H := ⟨Ext.refl F ι, fun _ _ a b c _ => ⟨a, b, c⟩, fun _ h => h⟩
theorem Step.trans {F F1 F2 H H1 H2 : Hp} {ι ι1 ι2 : List Addr} (a : Step F ι H F1 ι1 H1) (b : Step F1 ι1 H1 F2 ι2 H2) : Step F ι H F2 ι2 H2 :=
  ⟨a.toExt.trans b.toExt, fun c o h1 h2 h3 h4 => let ⟨k1, k2, k3⟩ := a.keep c o h1 h2 h3 h4; b.keep c o k1 k2 k3 h4, fun c h => a.dom c (b.dom c h)⟩
theorem Rel.mono {K : PySem.W.Frag} {F F' H H' : Hp} {ι ι' : List Addr} (x : Step F ι H F' ι' H') {v : V} {d : D} (r : Rel K F ι v d) : Rel K F' ι' v d := r.mono0 x.toExt
theorem RelAll.mono {K : PySem.W.Frag} {F F' H H' : Hp} {ι ι' : List Addr} (x : Step F ι H F' ι' H') {v : List V} {d : List D} (r : RelAll K F ι v d) : RelAll K F' ι' v d := r.mono0 x.toExt
section
variable {K : PySem.W.Frag} {F : Hp} {ι : List Addr}
theorem RelAll.length : ∀ {vs : List V} {ds : List D}, RelAll K F ι vs ds → vs.length = ds.length
  | _, _, .nil => rfl
  | _, _, .cons _ r => by rw [List.length_cons, List.length_cons, r.length]
theorem RelAll.get : ∀ {vs : List V} {ds : List D} {i : Nat} {d : D}, RelAll K F ι vs ds → ds[i]? = some d → ∃ v, vs[i]? = some v ∧ Rel K F ι v d
  | _, _, _, _, .nil, h => by simp at h
  | _, _, 0, _, .cons r _, h => by
    simp at h
    subst h
    exact ⟨_, rfl, r⟩
  | _, _, i + 1, _, .cons _ t, h => by
    obtain ⟨v, a, b⟩ := RelAll.get (i := i) t (by simpa using h)
    exact ⟨v, by simpa using a, b⟩
theorem RelAll.getV : ∀ {vs : List V} {ds : List D} {i : Nat} {v : V}, RelAll K F ι vs ds → vs[i]? = some v → ∃ d, ds[i]? = some d ∧ Rel K F ι v d
  | _, _, _, _, .nil, h => by simp at h
  | _, _, 0, _, .cons r _, h => by
    simp at h
    subst h
    exact ⟨_, rfl, r⟩
  | _, _, i + 1, _, .cons _ t, h => by
    obtain ⟨v, a, b⟩ := RelAll.getV (i := i) t (by simpa using h)
    exact ⟨v, by simpa using a, b⟩
theorem RelAll.append : ∀ {vs ws : List V} {ds es : List D}, RelAll K F ι vs ds → RelAll K F ι ws es → RelAll K F ι (vs ++ ws) (ds ++ es)
  | _, _, _, _, .nil, s => s
  | _, _, _, _, .cons r t, s => .cons r (RelAll.append t s)
theorem RelAll.take : ∀ {vs : List V} {ds : List D} (n : Nat), RelAll K F ι vs ds → RelAll K F ι (vs.take n) (ds.take n)
  | _, _, 0, _ => .nil
  | _, _, _ + 1, .nil => .nil
  | _, _, n + 1, .cons r t => .cons r (RelAll.take n t)
theorem RelAll.drop : ∀ {vs : List V} {ds : List D} (n : Nat), RelAll K F ι vs ds → RelAll K F ι (vs.drop n) (ds.drop n)
  | _, _, 0, r => r
  | _, _, _ + 1, .nil => .nil
  | _, _, n + 1, .cons _ t => RelAll.drop n t
theorem RelAll.set {v : V} {d : D} (r : Rel K F ι v d) : ∀ {vs : List V} {ds : List D} (n : Nat), RelAll K F ι vs ds → RelAll K F ι (vs.set n v) (ds.set n d)
  | _, _, _, .nil => .nil
  | _, _, 0, .cons _ t => .cons r t
  | _, _, n + 1, .cons q t => .cons q (RelAll.set r n t)
theorem RelAll.dropLast : ∀ {vs : List V} {ds : List D}, RelAll K F ι vs ds → RelAll K F ι vs.dropLast ds.dropLast
  | _, _, .nil => .nil
  | _, _, .cons _ .nil => .nil
  | _, _, .cons r (.cons q t) => .cons r (RelAll.dropLast (.cons q t))
theorem RelAll.reverse : ∀ {vs : List V} {ds : List D}, RelAll K F ι vs ds → RelAll K F ι vs.reverse ds.reverse
  | _, _, .nil => .nil
  | _, _, .cons r t => by
    rw [List.reverse_cons, List.reverse_cons]
    exact RelAll.append (RelAll.reverse t) (.cons r .nil)
theorem RelAll.one {v : V} {d : D} (r : Rel K F ι v d) : RelAll K F ι [v] [d] := .cons r .nil
end

/-! ### tables of code objects: of the defs that make lambdas -/
def codeOf (K : PySem.W.Frag) (f : Addr) : Option Value := match K.lookup f with
  | some ⟨_, _, .func fd, _⟩ => some fd.code
  | _ => none
def tabAt (K : PySem.W.Frag) (c : Addr) : Option Addr := match K.lookup c with
  | some ⟨_, _, .fields vs, _⟩ => (match (vs[11]? : Option Value) with
    | some (Value.ref P) => (match K.lookup P with
      | none => some P
      | some _ => none)
    | _ => none)
  | _ => none
def tabOf (K : PySem.W.Frag) (x : Str) : List (Addr × Addr × Str) := match PySem.W.nsIn K mainGlobals x with
  | some (some (.ref f)) => (match codeOf K f with
    | some (.ref c) => (match tabAt K c with
      | some P => [(c, P, x ++ ".<locals>." ++ "<lambda>")]
      | none => [])
    | _ => [])
  | _ => []
def tabN : List Str := ["law", "_law_among_right"]
def tabsK (K : PySem.W.Frag) : List (Addr × Addr × Str) := tabN.flatMap (tabOf K)
/-- the tables as they are used: what they tell bears the right names -/
def Tb (K : PySem.W.Frag) (H : Hp) : Prop := ∀ p ∈ tabsK K, LamX.TabS H p.2.1 p.2.2
theorem Tb.ext {K : PySem.W.Frag} {H H' : Hp} (t : Tb K H) (e : ∀ b o, H b = some o → H' b = some o) : Tb K H' := fun p hp => (t p hp).ext e
def Cp : HO → Prop
  | .tbl _ => False
  | .ext _ => False
  | _ => True
theorem Tb.upd {K : PySem.W.Frag} {H : Hp} (t : Tb K H) {a : Addr} {o o' : HO} (h : H a = some o') (c : Cp o') : Tb K (L2.upd H a o) := fun p hp => by
  obtain ⟨ps, h1, h2, h3⟩ := t p hp
  have ne : ∀ {b u}, H b = some u → ¬ Cp u → b ≠ a := fun {b u} e n z => by
    subst z
    rw [h] at e
    cases e
    exact n c
  refine ⟨ps, by rw [upd_ne (ne h1 id)]; exact h1, h2, fun pos cv hc => ?_⟩
  obtain ⟨q, e1, e2⟩ := h3 pos cv hc
  exact ⟨q, e1, by rw [upd_ne (ne e2 id)]; exact e2⟩
/-! ### cells and stores -/
def CellOk (K : PySem.W.Frag) (mg : Str → Option Value) (F : Hp) (ι : List Addr) (H : Hp) (a : Addr) : Cell → Prop
  | .lst true ds => ∃ vs, H a = some (.lst vs) ∧ RelAll K F ι vs ds ∧ F a = none
  | .lst false ds => ∃ vs, F a = some (.lst vs) ∧ RelAll K F ι vs ds
  | .dK kds => ∃ kvs, H a = some (.dK kvs) ∧ RelKV K F ι kvs kds ∧ F a = none
  | .dT kds => ∃ kvs, H a = some (.dT kvs) ∧ RelKV K F ι kvs kds ∧ F a = none
  | .ins c fs => ∃ C dx fv, mg c = some (.ref C) ∧ H a = some (.ins C dx fv) ∧ RelKV K F ι fv fs ∧ F a = none
structure Sim (K : PySem.W.Frag) (mg : Str → Option Value) (F : Hp) (ι : List Addr) (S : Store) (H : Hp) : Prop where
  sub : Same F H
  len : ι.length = S.length
  nd : ι.Nodup
  cell : ∀ (n : Nat) (a : Addr) (c : Cell), ι[n]? = some a → S[n]? = some c → CellOk K mg F ι H a c
  cl : ∀ (n : Nat) (c : Cell), S[n]? = some c → closedC n c = true
  tab : Tb K H
  nt : ∀ b ps, F b ≠ some (.tbl ps)
  tt : ∀ b ps, H b = some (.tbl ps) → ∃ p ∈ tabsK K, p.2.1 = b
section
variable {K : PySem.W.Frag} {mg : Str → Option Value} {F F' : Hp} {ι ι' : List Addr} {S : Store} {H H' : Hp}
theorem CellOk.there {a : Addr} {c : Cell} (sub : Same F H) (h : CellOk K mg F ι H a c) : ∃ o, H a = some o := by
  cases c with
  | lst b ds =>
    cases b with
    | true => obtain ⟨vs, h, _⟩ := h; exact ⟨_, h⟩
    | false => obtain ⟨vs, h, _⟩ := h; exact ⟨_, sub _ _ h⟩
  | dK kds => obtain ⟨vs, h, _⟩ := h; exact ⟨_, h⟩
  | dT kds => obtain ⟨vs, h, _⟩ := h; exact ⟨_, h⟩
  | ins c fs => obtain ⟨_, _, _, _, h, _⟩ := h; exact ⟨_, h⟩
theorem CellOk.cp {a : Addr} {c : Cell} (sub : Same F H) (h : CellOk K mg F ι H a c) : ∃ o, H a = some o ∧ Cp o := by
  cases c with
  | lst b ds =>
    cases b with
    | true => obtain ⟨vs, h, _⟩ := h; exact ⟨_, h, trivial⟩
    | false => obtain ⟨vs, h, _⟩ := h; exact ⟨_, sub _ _ h, trivial⟩
  | dK kds => obtain ⟨vs, h, _⟩ := h; exact ⟨_, h, trivial⟩
  | dT kds => obtain ⟨vs, h, _⟩ := h; exact ⟨_, h, trivial⟩
  | ins c fs => obtain ⟨_, _, _, _, h, _⟩ := h; exact ⟨_, h, trivial⟩
theorem nt_upd {p : Addr} {o : HO} (h : ∀ b ps, F b ≠ some (.tbl ps)) (ho : ∀ ps, o ≠ .tbl ps) : ∀ b ps, upd F p o b ≠ some (.tbl ps) := fun b ps z => by
  by_cases hb : b = p
  · subst hb
    rw [upd_same] at z
    exact ho ps (Option.some.inj z)
  · rw [upd_ne hb] at z
    exact h b ps z
theorem tt_upd {p : Addr} {o : HO} (h : ∀ b ps, H b = some (.tbl ps) → ∃ p ∈ tabsK K, p.2.1 = b) (ho : ∀ ps, o ≠ .tbl ps) : ∀ b ps, upd H p o b = some (.tbl ps) → ∃ p ∈ tabsK K, p.2.1 = b := fun b ps z => by
  by_cases hb : b = p
  · subst hb
    rw [upd_same] at z
    exact (ho ps (Option.some.inj z)).elim
  · rw [upd_ne hb] at z
    exact h b ps z
theorem ext_upd {p : Addr} {o : HO} (h : H p = none) : ∀ b u, H b = some u → upd H p o b = some u := fun b u e => by
  rw [upd_ne (ne_of_none e h)]
  exact e
theorem Sim.at (s : Sim K mg F ι S H) {n : Nat} {c : Cell} (h : S[n]? = some c) : ∃ a, ι[n]? = some a ∧ CellOk K mg F ι H a c := by
  have hn : n < ι.length := by rw [s.len]; exact (List.getElem?_eq_some_iff.mp h).1
  exact ⟨ι[n], by simp [hn], s.cell n _ c (by simp [hn]) h⟩
theorem Sim.there (s : Sim K mg F ι S H) {a : Addr} (h : a ∈ ι) : ∃ o, H a = some o := by
  obtain ⟨n, hn, rfl⟩ := List.getElem_of_mem h
  have hs : n < S.length := by rw [← s.len]; exact hn
  exact (s.cell n _ S[n] (by simp [hn]) (by simp [hs])).there s.sub
theorem Sim.fresh (s : Sim K mg F ι S H) {p : Addr} (h : H p = none) : F p = none ∧ p ∉ ι := ⟨s.sub.free h, fun hp => by
  obtain ⟨o, e⟩ := s.there hp
  rw [h] at e
  cases e⟩
theorem same_upd {p : Addr} {o : HO} (h : F p = none) : Same F (upd F p o) := fun b x e => by
  rw [upd_ne (ne_of_none e h)]
  exact e
theorem same_two {p : Addr} {o : HO} (h : Same F H) : Same (upd F p o) (upd H p o) := fun b x e => by
  by_cases hb : b = p
  · subst hb
    rw [upd_same] at e ⊢
    exact e
  · rw [upd_ne hb] at e ⊢
    exact h b x e
theorem RelKV.mono0 {κ : Type} (x : Ext F ι F' ι') {kvs : List (κ × V)} {kds : List (κ × D)} (h : RelKV K F ι kvs kds) : RelKV K F' ι' kvs kds := ⟨h.ks, RelAll.mono0 x h.vs⟩
theorem RelKV.mono {κ : Type} (x : Step F ι H F' ι' H') {kvs : List (κ × V)} {kds : List (κ × D)} (h : RelKV K F ι kvs kds) : RelKV K F' ι' kvs kds := h.mono0 x.toExt
/-- a cell under more frozen things, its own object as it was -/
theorem CellOk.mono {a : Addr} {c : Cell} (x : Ext F ι F' ι') (hF : F a = none → F' a = none) (hH : ∀ o, H a = some o → H' a = some o) (h : CellOk K mg F ι H a c) : CellOk K mg F' ι' H' a c := by
  cases c with
  | lst b ds =>
    cases b with
    | true => obtain ⟨vs, h, r, f⟩ := h; exact ⟨vs, hH _ h, RelAll.mono0 x r, hF f⟩
    | false => obtain ⟨vs, h, r⟩ := h; exact ⟨vs, x.same _ _ h, RelAll.mono0 x r⟩
  | dK kds => obtain ⟨vs, h, r, f⟩ := h; exact ⟨vs, hH _ h, r.mono0 x, hF f⟩
  | dT kds => obtain ⟨vs, h, r, f⟩ := h; exact ⟨vs, hH _ h, r.mono0 x, hF f⟩
  | ins c fs => obtain ⟨C, dx, fv, m, h, r, f⟩ := h; exact ⟨C, dx, fv, m, hH _ h, r.mono0 x, hF f⟩
theorem upd_dom {p b : Addr} {o : HO} (h : upd H p o b = none) : H b = none := by
  by_cases hb : b = p
  · subst hb
    rw [upd_same] at h
    cases h
  · rw [upd_ne hb] at h
    exact h
theorem step_new {p : Addr} {o : HO} (x : Ext F ι F' ι') (h : H p = none) (k : ∀ b, b ≠ p → F' b = F b ∧ (b ∉ ι → b ∉ ι')) : Step F ι H F' ι' (upd H p o) := by
  refine ⟨x, fun b o' e1 e2 e3 _ => ?_, fun b hb => upd_dom hb⟩
  have ne : b ≠ p := ne_of_none e1 h
  exact ⟨by rw [upd_ne ne]; exact e1, by rw [(k b ne).1]; exact e2, (k b ne).2 e3⟩
/-- a new thing that is never changed -/
theorem Sim.frozen (s : Sim K mg F ι S H) {p : Addr} {o : HO} (h : H p = none) (ho : ∀ ps, o ≠ .tbl ps := by intro _ z; cases z) : Step F ι H (upd F p o) ι (upd H p o) ∧ Sim K mg (upd F p o) ι S (upd H p o) := by
  obtain ⟨hf, hi⟩ := s.fresh h
  have x : Ext F ι (upd F p o) ι := ⟨same_upd hf, List.prefix_rfl⟩
  refine ⟨step_new x h (fun _ hb => ⟨upd_ne hb, id⟩), same_two s.sub, s.len, s.nd, fun n a c ha hc => ?_, s.cl, s.tab.ext (ext_upd h), nt_upd s.nt ho, tt_upd s.tt ho⟩
  have ne : a ≠ p := fun e => hi (e ▸ List.mem_of_getElem? ha)
  exact (s.cell n a c ha hc).mono x (fun e => by rw [upd_ne ne]; exact e) fun o' e => by rw [upd_ne ne]; exact e
/-- a new thing that stays outside both -/
theorem Sim.loose (s : Sim K mg F ι S H) {p : Addr} {o : HO} (h : H p = none) (ho : ∀ ps, o ≠ .tbl ps := by intro _ z; cases z) : Step F ι H F ι (upd H p o) ∧ Sim K mg F ι S (upd H p o) := by
  obtain ⟨hf, hi⟩ := s.fresh h
  refine ⟨step_new (Ext.refl F ι) h (fun _ _ => ⟨rfl, id⟩), fun b x e => ?_, s.len, s.nd, fun n a c ha hc => ?_, s.cl, s.tab.ext (ext_upd h), s.nt, tt_upd s.tt ho⟩
  · rw [upd_ne (ne_of_none e hf)]
    exact s.sub b x e
  · have ne : a ≠ p := fun e => hi (e ▸ List.mem_of_getElem? ha)
    exact (s.cell n a c ha hc).mono (Ext.refl F ι) (fun e => e) fun o' e => by rw [upd_ne ne]; exact e
/-- a new cell -/
theorem Sim.newCell {F0 H0 : Hp} {ι0 : List Addr} (s : Sim K mg F ι S H) (st : Step F0 ι0 H0 F ι H) {p : Addr} {c : Cell} (h0 : H0 p = none) (hp : p ∉ ι) (hc : CellOk K mg F (ι ++ [p]) H p c) (hcl : closedC S.length c = true) : Step F0 ι0 H0 F (ι ++ [p]) H ∧ Sim K mg F (ι ++ [p]) (S ++ [c]) H := by
  have x : Ext F ι F (ι ++ [p]) := ⟨Same.refl F, List.prefix_append _ _⟩
  refine ⟨⟨st.toExt.trans x, fun b o e1 e2 e3 e4 => ?_, st.dom⟩, s.sub, by simp [s.len], ?_, fun n a c' ha hc' => ?_, fun n c' hc' => ?_, s.tab, s.nt, s.tt⟩
  · obtain ⟨k1, k2, k3⟩ := st.keep b o e1 e2 e3 e4
    refine ⟨k1, k2, fun hm => ?_⟩
    rcases List.mem_append.mp hm with hm | hm
    · exact k3 hm
    · have : b = p := by simpa using hm
      subst this
      rw [h0] at e1
      cases e1
  · rw [List.nodup_append]
    refine ⟨s.nd, by simp, fun a h1 b h2 e => ?_⟩
    simp at h2
    subst e
    subst h2
    exact hp h1
  · by_cases hn : n < ι.length
    · rw [List.getElem?_append_left hn] at ha
      rw [List.getElem?_append_left (by rw [← s.len]; exact hn)] at hc'
      exact (s.cell n a c' ha hc').mono x (fun e => e) fun _ e => e
    · have hl : n = ι.length := by
        have := (List.getElem?_eq_some_iff.mp ha).1
        simp at this
        omega
      subst hl
      rw [List.getElem?_append_right (Nat.le_refl _), Nat.sub_self] at ha
      rw [s.len, List.getElem?_append_right (Nat.le_refl _), Nat.sub_self] at hc'
      simp at ha hc'
      subst ha
      subst hc'
      exact hc
  · by_cases hn : n < S.length
    · rw [List.getElem?_append_left hn] at hc'
      exact s.cl n c' hc'
    · have hl : n = S.length := by
        have := (List.getElem?_eq_some_iff.mp hc').1
        simp at this
        omega
      subst hl
      rw [List.getElem?_append_right (Nat.le_refl _), Nat.sub_self] at hc'
      simp at hc'
      subst hc'
      exact hcl
/-- a live cell is written -/
theorem Sim.write (s : Sim K mg F ι S H) {n : Nat} {a : Addr} {c : Cell} {o : HO} (ha : ι[n]? = some a) (hF : F a = none) (hc : CellOk K mg F ι (upd H a o) a c) (hcl : closedC n c = true) (ho : ∀ ps, o ≠ .tbl ps := by intro _ z; cases z) : Step F ι H F ι (upd H a o) ∧ Sim K mg F ι (S.set n c) (upd H a o) := by
  have hn : n < ι.length := (List.getElem?_eq_some_iff.mp ha).1
  have hcp : ∃ o', H a = some o' ∧ Cp o' := by
    have hs : n < S.length := by rw [← s.len]; exact hn
    exact (s.cell n a S[n] ha (by simp [hs])).cp s.sub
  obtain ⟨o', ho', hcp⟩ := hcp
  refine ⟨⟨Ext.refl F ι, fun b o' e1 e2 e3 _ => ⟨by rw [upd_ne (show b ≠ a from fun z => e3 (by rw [z]; exact List.mem_of_getElem? ha))]; exact e1, e2, e3⟩, fun b hb => upd_dom hb⟩, fun b x e => ?_, by simp [s.len], s.nd, fun m b c' hb hc' => ?_, fun m c' hc' => ?_, s.tab.upd ho' hcp, s.nt, tt_upd s.tt ho⟩
  · rw [upd_ne (ne_of_none e hF)]
    exact s.sub b x e
  · by_cases hm : m = n
    · subst hm
      rw [ha] at hb
      cases hb
      rw [List.getElem?_set_self (by rw [← s.len]; exact hn)] at hc'
      cases hc'
      exact hc
    · rw [List.getElem?_set_ne (Ne.symm hm)] at hc'
      have ne : b ≠ a := fun e => hm (by
        obtain ⟨h1, e1⟩ := List.getElem?_eq_some_iff.mp hb
        obtain ⟨h2, e2⟩ := List.getElem?_eq_some_iff.mp ha
        exact (List.getElem_inj s.nd).mp (by rw [e1, e2]; exact e))
      exact (s.cell m b c' hb hc').mono (Ext.refl F ι) (fun e => e) fun o' e => by rw [upd_ne ne]; exact e
  · by_cases hm : m = n
    · subst hm
      rw [List.getElem?_set_self (by rw [← s.len]; exact hn)] at hc'
      cases hc'
      exact hcl
    · rw [List.getElem?_set_ne (Ne.symm hm)] at hc'
      exact s.cl m c' hc'
/-- a live list is frozen -/
theorem Sim.freeze (s : Sim K mg F ι S H) {n : Nat} {a : Addr} {ds : List D} {vs : List V} (ha : ι[n]? = some a) (hF : F a = none) (hH : H a = some (.lst vs)) (r : RelAll K F ι vs ds) (hcl : closedA n ds = true) :
    Step F ι H (upd F a (.lst vs)) ι H ∧ Sim K mg (upd F a (.lst vs)) ι (S.set n (.lst false ds)) H := by
  have hn : n < ι.length := (List.getElem?_eq_some_iff.mp ha).1
  have x : Ext F ι (upd F a (.lst vs)) ι := ⟨same_upd hF, List.prefix_rfl⟩
  refine ⟨⟨x, fun b o e1 e2 e3 _ => ⟨e1, by rw [upd_ne (show b ≠ a from fun z => e3 (by rw [z]; exact List.mem_of_getElem? ha))]; exact e2, e3⟩, fun _ h => h⟩, fun b o e => ?_, by simp [s.len], s.nd, fun m b c' hb hc' => ?_, fun m c' hc' => ?_, s.tab, nt_upd s.nt (by intro _ z; cases z), s.tt⟩
  · by_cases hb : b = a
    · subst hb
      rw [upd_same] at e
      rw [hH]
      exact e
    · rw [upd_ne hb] at e
      exact s.sub b o e
  · by_cases hm : m = n
    · subst hm
      rw [ha] at hb
      cases hb
      rw [List.getElem?_set_self (by rw [← s.len]; exact hn)] at hc'
      cases hc'
      exact ⟨vs, upd_same, RelAll.mono0 x r⟩
    · rw [List.getElem?_set_ne (Ne.symm hm)] at hc'
      have ne : b ≠ a := fun e => hm (by
        obtain ⟨h1, e1⟩ := List.getElem?_eq_some_iff.mp hb
        obtain ⟨h2, e2⟩ := List.getElem?_eq_some_iff.mp ha
        exact (List.getElem_inj s.nd).mp (by rw [e1, e2]; exact e))
      exact (s.cell m b c' hb hc').mono x (fun e => by rw [upd_ne ne]; exact e) fun o' e => e
  · by_cases hm : m = n
    · subst hm
      rw [List.getElem?_set_self (by rw [← s.len]; exact hn)] at hc'
      cases hc'
      exact hcl
    · rw [List.getElem?_set_ne (Ne.symm hm)] at hc'
      exact s.cl m c' hc'
/-! back at a return: the cells that were there, a value that leans on them alone -/
mutual
theorem Rel.back {n : Nat} (hn : n ≤ ι.length) : ∀ {v : V} {d : D}, Rel K F ι v d → closed n d = true → Rel K F (ι.take n) v d
  | _, _, .non, _ => .non
  | _, _, .bl b, _ => .bl b
  | _, _, .int i, _ => .int i
  | _, _, .str y, _ => .str y
  | _, _, .tup h r, c => .tup h (RelAll.back hn r (by simpa [closed] using c))
  | _, _, .lst h r, c => .lst h (RelAll.back hn r (by simpa [closed] using c))
  | _, _, .scr h r, c => .scr h (RelAll.back hn r (by simpa [closed] using c))
  | _, _, .exn0 h k, _ => .exn0 h k
  | _, _, .exn h k h2 e r, c => .exn h k h2 e (RelAll.back hn r (by simpa [closed] using c))
  | _, _, .dct h k r, c => .dct h k (RelAll.back hn r (by
      have c' := c
      simp only [closed] at c'
      exact closedK_eq _ _ ▸ c'))
  | _, _, .ref (n := m) h, c => .ref (by
      have c' : m < n := by simpa [closed] using c
      rw [List.getElem?_take_of_lt c']
      exact h)
theorem RelAll.back {n : Nat} (hn : n ≤ ι.length) : ∀ {vs : List V} {ds : List D}, RelAll K F ι vs ds → closedA n ds = true → RelAll K F (ι.take n) vs ds
  | _, _, .nil, _ => .nil
  | _, _, .cons h r, c => by
    rw [closedA_cons, Bool.and_eq_true] at c
    exact .cons (Rel.back hn h c.1) (RelAll.back hn r c.2)
end
end

/-! ### the readings that this layer uses -/
structure REnv (K : PySem.W.Frag) (F : Hp) (ι : List Addr) (σ : L2.St) (ρ : Env) : Prop where
  len : σ.length = ρ.length
  at' : ∀ (i : Nat) (d : D), ρ[i]? = some (some d) → ∃ v, σ[i]? = some (some v) ∧ Rel K F ι v d
theorem REnv.mono {K : PySem.W.Frag} {F F' H H' : Hp} {ι ι' : List Addr} {σ : L2.St} {ρ : Env} (x : Step F ι H F' ι' H') (h : REnv K F ι σ ρ) : REnv K F' ι' σ ρ := ⟨h.len, fun i d e =>
  let ⟨v, a, b⟩ := h.at' i d e
  ⟨v, a, Rel.mono x b⟩⟩
theorem REnv.set {K : PySem.W.Frag} {F : Hp} {ι : List Addr} {σ : L2.St} {ρ : Env} (h : REnv K F ι σ ρ) (i : Nat) {v : V} {d : D} (r : Rel K F ι v d) : REnv K F ι (σ.set i (some v)) (ρ.set i (some d)) := by
  refine ⟨by simp [h.len], fun j e he => ?_⟩
  by_cases hj : j = i
  · subst hj
    have hl : j < ρ.length := by simpa using (List.getElem?_eq_some_iff.mp he).1
    rw [List.getElem?_set_self hl] at he
    cases he
    exact ⟨v, List.getElem?_set_self (by rw [h.len]; exact hl), r⟩
  · rw [List.getElem?_set_ne (Ne.symm hj)] at he
    rw [List.getElem?_set_ne (Ne.symm hj)]
    exact h.at' j e he
/-- the place where the layer stands -/
structure Pl where
  K : PySem.W.Frag
  mg : Str → Option Value
  W : WX
abbrev Pl.nox (p : Pl) : Pl := { p with W := fun _ _ _ _ => False }
/-- an exception's own dict -/
def XD (K : PySem.W.Frag) (H0 : Hp) (F : Hp) (ι : List Addr) (H : Hp) (d : Option Addr) (fs : List (Str × D)) : Prop :=
  (fs = [] ∧ d = none) ∨ (fs ≠ [] ∧ ∃ dx fv, d = some dx ∧ H0 dx = none ∧ F dx = none ∧ dx ∉ ι ∧ H dx = some (.xd fv) ∧ RelKV K F ι fv fs)
theorem XD.ext {K : PySem.W.Frag} {F0 F1 H0 H1 F H : Hp} {ι0 ι1 ι : List Addr} {d : Option Addr} {fs : List (Str × D)} (x : Step F0 ι0 H0 F1 ι1 H1) (h : XD K H1 F ι H d fs) : XD K H0 F ι H d fs := by
  rcases h with h | ⟨h1, dx, fv, h2, h3, h4⟩
  · exact .inl h
  · exact .inr ⟨h1, dx, fv, h2, x.dom _ h3, h4⟩
section
variable (p : Pl)
def Post {α β : Type} (R : Hp → Hp → List Addr → Hp → β → α → Prop) (F : Hp) (ι : List Addr) (H : Hp) (σ : L2.St) (o : Out α) (Q : β → Hp → Prop) : Prop := match o with
  | .ok a S' => ∀ F' ι' v H', Step F ι H F' ι' H' → Sim p.K p.mg F' ι' S' H' → R H F' ι' H' v a → Q v H'
  | .exc c fs S' => ∀ F' ι' C d H', Step F ι H F' ι' H' → Sim p.K p.mg F' ι' S' H' → p.mg c = some (.ref C) → XD p.K H F' ι' H' d fs → p.W (.ref C) d σ H'
  | .stuck => False
def RV' (K : PySem.W.Frag) : Hp → Hp → List Addr → Hp → V → D → Prop := fun _ F ι _ v d => Rel K F ι v d
def RA' (K : PySem.W.Frag) : Hp → Hp → List Addr → Hp → List V → List D → Prop := fun _ F ι _ v d => RelAll K F ι v d
def RT' : Hp → Hp → List Addr → Hp → Bool → Bool → Prop := fun _ _ _ _ v d => v = d
/-- a new list -/
def RL' (K : PySem.W.Frag) : Hp → Hp → List Addr → Hp → V → List D → Prop := fun H0 F ι H v ds => ∃ q vs, v = .ref q ∧ H0 q = none ∧ H q = some (.lst vs) ∧ F q = none ∧ q ∉ ι ∧ RelAll K F ι vs ds
def tG {α β : Type} (R : Hp → Hp → List Addr → Hp → β → α → Prop) (f : Env → Store → Out α) (σ : L2.St) (H : Hp) (Q : β → Hp → Prop) : Prop :=
  ∃ F ι ρ S, Sim p.K p.mg F ι S H ∧ REnv p.K F ι σ ρ ∧ Post p R F ι H σ (f ρ S) Q
abbrev tE (f : SemE) : TE := tG p (RV' p.K) f
abbrev tL (f : SemA) : TE := tG p (RL' p.K) f
abbrev tA (f : SemA) : TA := tG p (RA' p.K) f
abbrev tT (f : SemT) : TT := tG p RT' f
def PostS (F : Hp) (ι : List Addr) (H : Hp) (o : OutS) (Dn : Ends) : Prop := match o with
  | .nx ρ' S' => ∀ F' ι' σ' H', Step F ι H F' ι' H' → Sim p.K p.mg F' ι' S' H' → REnv p.K F' ι' σ' ρ' → Dn.nx σ' H'
  | .rt d S' => ∀ F' ι' v H', Step F ι H F' ι' H' → Sim p.K p.mg F' ι' S' H' → Rel p.K F' ι' v d → Dn.rt v H'
  | .bk ρ' S' => ∀ F' ι' σ' H', Step F ι H F' ι' H' → Sim p.K p.mg F' ι' S' H' → REnv p.K F' ι' σ' ρ' → Dn.bk σ' H'
  | .ct ρ' S' => ∀ F' ι' σ' H', Step F ι H F' ι' H' → Sim p.K p.mg F' ι' S' H' → REnv p.K F' ι' σ' ρ' → Dn.ct σ' H'
  | .exc c fs ρ' S' => ∀ F' ι' C d σ' H', Step F ι H F' ι' H' → Sim p.K p.mg F' ι' S' H' → REnv p.K F' ι' σ' ρ' → p.mg c = some (.ref C) → XD p.K H F' ι' H' d fs → p.W (.ref C) d σ' H'
  | .stuck => False
def tS (g : SemS) : TS := fun Dn σ H => ∃ F ι ρ S, Sim p.K p.mg F ι S H ∧ REnv p.K F ι σ ρ ∧ PostS p F ι H (g ρ S) Dn
end
/-- what is told of a value does not lean on what was free ahead -/
def Stays {α β : Type} (R : Hp → Hp → List Addr → Hp → β → α → Prop) : Prop := ∀ {F F' H H' : Hp} {ι ι' : List Addr} {F2 H2 : Hp} {ι2 : List Addr} {v : β} {a : α}, Step F ι H F' ι' H' → R H' F2 ι2 H2 v a → R H F2 ι2 H2 v a
theorem Post.ext {α β : Type} {p : Pl} {R : Hp → Hp → List Addr → Hp → β → α → Prop} {F F' H H' : Hp} {ι ι' : List Addr} {σ : L2.St} {o : Out α} {Q : β → Hp → Prop} (x : Step F ι H F' ι' H') (h : Post p R F ι H σ o Q) (hR : Stays R) : Post p R F' ι' H' σ o Q := by
  cases o with
  | ok a S => exact fun F2 ι2 v H2 x2 s2 r2 => h F2 ι2 v H2 (x.trans x2) s2 (hR x r2)
  | exc c fs S => exact fun F2 ι2 C d H2 x2 s2 m xd => h F2 ι2 C d H2 (x.trans x2) s2 m (xd.ext x)
  | stuck => exact h
theorem PostS.ext {p : Pl} {F F' H H' : Hp} {ι ι' : List Addr} {o : OutS} {Dn : Ends} (x : Step F ι H F' ι' H') (h : PostS p F ι H o Dn) : PostS p F' ι' H' o Dn := by
  cases o with
  | nx ρ S => exact fun F2 ι2 v H2 x2 => h F2 ι2 v H2 (x.trans x2)
  | rt ρ S => exact fun F2 ι2 v H2 x2 => h F2 ι2 v H2 (x.trans x2)
  | bk ρ S => exact fun F2 ι2 v H2 x2 => h F2 ι2 v H2 (x.trans x2)
  | ct ρ S => exact fun F2 ι2 v H2 x2 => h F2 ι2 v H2 (x.trans x2)
  | exc c fs ρ S => exact fun F2 ι2 C d σ H2 x2 s2 r2 m xd => h F2 ι2 C d σ H2 (x.trans x2) s2 r2 m (xd.ext x)
  | stuck => exact h
def RO' : Hp → Hp → List Addr → Hp → Option Int → Option Int → Prop := fun _ _ _ _ v d => v = d
theorem stO : Stays RO' := fun _ r => r
theorem stV {K : PySem.W.Frag} : Stays (RV' K) := fun _ r => r
theorem stA {K : PySem.W.Frag} : Stays (RA' K) := fun _ r => r
theorem stT : Stays RT' := fun _ r => r
theorem stL {K : PySem.W.Frag} : Stays (RL' K) := fun x r => by
  obtain ⟨q, vs, a, b, c⟩ := r
  exact ⟨q, vs, a, x.dom _ b, c⟩
/-- the first of two: its end is met, or its exception goes on -/
theorem post_bind {α β γ δ : Type} {p : Pl} {R : Hp → Hp → List Addr → Hp → β → α → Prop} {R' : Hp → Hp → List Addr → Hp → δ → γ → Prop} {F H : Hp} {ι : List Addr} {σ : L2.St} {o : Out α} {f : α → Store → Out γ} {Q : β → Hp → Prop} {Q' : δ → Hp → Prop}
    (h : Post p R' F ι H σ (o.bind f) Q') (k : ∀ a S F' ι' v H', Step F ι H F' ι' H' → Sim p.K p.mg F' ι' S H' → R H F' ι' H' v a → Post p R' F' ι' H' σ (f a S) Q' → Q v H')
    (hR : Stays R' := by first | exact stV | exact stT | exact stA | exact stL | exact stO | assumption) : Post p R F ι H σ o Q := by
  cases o with
  | ok a S => exact fun F' ι' v H' x s r => k a S F' ι' v H' x s r (Post.ext x h hR)
  | exc c fs S => exact h
  | stuck => exact h.elim

abbrev XE (X : Cx) (W : WX) (e : Expr) (f : SemE) : Prop := PE X e (tE ⟨X.K, X.mg, W⟩ f)
abbrev XL (X : Cx) (W : WX) (e : Expr) (f : SemA) : Prop := PE X e (tL ⟨X.K, X.mg, W⟩ f)
abbrev XA (X : Cx) (W : WX) (es : List Expr) (f : SemA) : Prop := PA X es (tA ⟨X.K, X.mg, W⟩ f)
abbrev XT (X : Cx) (W : WX) (e : Expr) (f : SemT) : Prop := PT X e (tT ⟨X.K, X.mg, W⟩ f)
abbrev XW (X : Cx) (W : WX) (e : Expr) (f : SemT) : Prop := PW X e (tT ⟨X.K, X.mg, W⟩ f)
abbrev XS (X : Cx) (W : WX) (st : Stmt) (g : SemS) : Prop := PS X st (tS ⟨X.K, X.mg, W⟩ g)
abbrev XSs (X : Cx) (W : WX) (st : List Stmt) (g : SemS) : Prop := PSs X st (tS ⟨X.K, X.mg, W⟩ g)
section
variable {X : Cx} {e : Expr} {es : List Expr} {st : Stmt} {sts : List Stmt}
theorem peI {t t' : TE} (h : PE X e t) (i : ∀ σ H Q, t' σ H Q → t σ H Q) : PE X e t' := ⟨fun pins s σ H Q I q => h.run pins s σ H Q I (i _ _ _ q)⟩
theorem ptI {t t' : TT} (h : PT X e t) (i : ∀ σ H Q, t' σ H Q → t σ H Q) : PT X e t' := ⟨fun pins s σ H Q I q => h.run pins s σ H Q I (i _ _ _ q)⟩
theorem pwI {t t' : TT} (h : PW X e t) (i : ∀ σ H Q, t' σ H Q → t σ H Q) : PW X e t' := ⟨fun w pins s σ H Q I q => h.run w pins s σ H Q I (i _ _ _ q)⟩
theorem paI {t t' : TA} (h : PA X es t) (i : ∀ σ H Q, t' σ H Q → t σ H Q) : PA X es t' := ⟨fun pos pins s σ H Q I q => h.run pos pins s σ H Q I (i _ _ _ q)⟩
theorem psI {t t' : TS} (h : PS X st t) (i : ∀ Dn σ H, t' Dn σ H → t Dn σ H) : PS X st t' := ⟨fun pins s σ H Dn I q => h.run pins s σ H Dn I (i _ _ _ q)⟩
theorem pssI {t t' : TS} (h : PSs X sts t) (i : ∀ Dn σ H, t' Dn σ H → t Dn σ H) : PSs X sts t' := ⟨fun pins s σ H Dn I q => h.run pins s σ H Dn I (i _ _ _ q)⟩
end
end Fk

set_option Elab.async false
set_option linter.all false
set_option maxRecDepth 100000
namespace Fk
open PySem PySem.Spec PyProof.Rows L2
/-! ### names, constants -/
section
variable {X : Cx} {W : WX}
def eVar (i : Nat) : SemE := fun ρ S => match ρ[i]? with
  | some (some d) => .ok d S
  | _ => .stuck
def eC (d : D) : SemE := fun _ S => .ok d S
theorem tE_var {p : Pl} {i : Nat} {σ : L2.St} {H : Hp} {Q : VK} (h : tE p (eVar i) σ H Q) : tVar i σ H Q := by
  obtain ⟨F, ι, ρ, S, s, r, q⟩ := h
  unfold eVar at q
  cases e : ρ[i]? with
  | none => rw [e] at q; exact q.elim
  | some o =>
    cases o with
    | none => rw [e] at q; exact q.elim
    | some d =>
      rw [e] at q
      obtain ⟨v, hv, rv⟩ := r.at' i d e
      exact ⟨v, hv, q F ι v H (Step.refl _ _ _) s rv⟩
theorem xe_var (i : Nat) {x : Str} {pos : Pos} (hN : X.N[i]? = some x := by rfl) (hv : Vis X.env.scope x := by first | exact Or.inl rfl | exact Or.inr (Or.inl rfl) | exact Or.inr (Or.inr rfl)) (hd : (x == ("__debug__" : Str)) = false := by decide)
    (hcd : (x == ("__classdict__" : Str)) = false := by decide) : XE X W (.Name x pos) (eVar i) := peI (pe_var hN hv hd hcd) fun _ _ _ h => tE_var h
theorem xe_c {e : Expr} {v : V} {d : D} (h : PE X e (tC v)) (r : ∀ K F ι, Rel K F ι v d) : XE X W e (eC d) := peI h fun σ H Q ⟨F, ι, ρ, S, s, _, q⟩ => q F ι v H (Step.refl _ _ _) s (r _ F ι)
theorem xe_int {i j pos} : XE X W (.Constant (.int i) j pos) (eC (.int i)) := xe_c pe_int fun _ _ _ => .int i
theorem xe_bl {b j pos} : XE X W (.Constant (.bool b) j pos) (eC (.bl b)) := xe_c pe_bl fun _ _ _ => .bl b
theorem xe_non {j pos} : XE X W (.Constant .none j pos) (eC .non) := xe_c pe_non fun _ _ _ => .non
theorem xe_str {x j pos} : XE X W (.Constant (.str x) j pos) (eC (.str x)) := xe_c pe_str fun _ _ _ => .str x
/-- a constant of the module -/
theorem xe_gint {x : Str} {i : Int} {pos : Pos} (hg : Gl X x) (hm : ∃ t, X.mg x = some (.int i t)) (hd : (x == ("__debug__" : Str)) = false := by decide) : XE X W (.Name x pos) (eC (.int i)) := by
  obtain ⟨t, hm⟩ := hm
  exact xe_c (pe_glob (v := .int i) hg hm ⟨t, rfl⟩ hd) fun _ _ _ => .int i
theorem xe_gstr {x : Str} {y : Str} {pos : Pos} (hg : Gl X x) (hm : ∃ t, X.mg x = some (.str y t)) (hd : (x == ("__debug__" : Str)) = false := by decide) : XE X W (.Name x pos) (eC (.str y)) := by
  obtain ⟨t, hm⟩ := hm
  exact xe_c (pe_glob (v := .str y) hg hm ⟨t, rfl⟩ hd) fun _ _ _ => .str y
end

/-! ### operations by values -/
/-- what an operation asks and leaves: the store is only read -/
def rO {α : Type} (K : PySem.W.Frag) (mg : Str → Option Value) (R : Hp → Hp → List Addr → Hp → V → α → Prop) (op : D → D → Store → Option α) : R2 := fun x y H Q =>
  ∃ F ι S d e a, Sim K mg F ι S H ∧ Rel K F ι x d ∧ Rel K F ι y e ∧ op d e S = some a ∧ ∀ F' ι' v H', Step F ι H F' ι' H' → Sim K mg F' ι' S H' → R H F' ι' H' v a → Q v H'
def rU1 {α : Type} (K : PySem.W.Frag) (mg : Str → Option Value) (R : Hp → Hp → List Addr → Hp → V → α → Prop) (op : D → Store → Option α) : V → Hp → VK → Prop := fun x H Q =>
  ∃ F ι S d a, Sim K mg F ι S H ∧ Rel K F ι x d ∧ op d S = some a ∧ ∀ F' ι' v H', Step F ι H F' ι' H' → Sim K mg F' ι' S H' → R H F' ι' H' v a → Q v H'
def rCall {α : Type} (K : PySem.W.Frag) (mg : Str → Option Value) (R : Hp → Hp → List Addr → Hp → V → α → Prop) (op : List D → Store → Option α) : List V → Hp → VK → Prop := fun xs H Q =>
  ∃ F ι S ds a, Sim K mg F ι S H ∧ RelAll K F ι xs ds ∧ op ds S = some a ∧ ∀ F' ι' v H', Step F ι H F' ι' H' → Sim K mg F' ι' S H' → R H F' ι' H' v a → Q v H'
def lift {α : Type} : Option α → Store → Out α
  | some a, S => .ok a S
  | none, _ => .stuck
@[simp] theorem lift_some {α : Type} (a : α) (S : Store) : lift (some a) S = .ok a S := rfl
@[simp] theorem lift_none {α : Type} (S : Store) : lift (none : Option α) S = .stuck := rfl
def eBin {α : Type} (op : D → D → Store → Option α) (f g : SemE) : Env → Store → Out α := fun ρ S => (f ρ S).bind fun x S1 => (g ρ S1).bind fun y S2 => lift (op x y S2) S2
def eUn {α : Type} (op : D → Store → Option α) (f : SemE) : Env → Store → Out α := fun ρ S => (f ρ S).bind fun x S1 => lift (op x S1) S1
def eOps {α : Type} (op : List D → Store → Option α) (f : SemA) : Env → Store → Out α := fun ρ S => (f ρ S).bind fun xs S1 => lift (op xs S1) S1
abbrev OpX (X : Cx) (f : Value → Value → Sem Value) (op : D → D → Store → Option D) : Prop := OpR X f (rO X.K X.mg (RV' X.K) op)
abbrev OpXL (X : Cx) (f : Value → Value → Sem Value) (op : D → D → Store → Option (List D)) : Prop := OpR X f (rO X.K X.mg (RL' X.K) op)
abbrev UnX (X : Cx) (f : Value → Sem Value) (op : D → Store → Option D) : Prop := UnR X f (rU1 X.K X.mg (RV' X.K) op)
abbrev CallX (X : Cx) (f : Value) (op : List D → Store → Option D) : Prop := CallR X f (rCall X.K X.mg (RV' X.K) op)
abbrev CallXL (X : Cx) (f : Value) (op : List D → Store → Option (List D)) : Prop := CallR X f (rCall X.K X.mg (RL' X.K) op)
section
variable {X : Cx} {W : WX} {α : Type} {R : Hp → Hp → List Addr → Hp → V → α → Prop} {a b : Expr} {f g : SemE} {pos : Pos}
theorem post_lift {p : Pl} {F H : Hp} {ι : List Addr} {σ : L2.St} {o : Option α} {S : Store} {Q : VK} (h : Post p R F ι H σ (lift o S) Q) : ∃ a, o = some a ∧ ∀ F' ι' v H', Step F ι H F' ι' H' → Sim p.K p.mg F' ι' S H' → R H F' ι' H' v a → Q v H' := by
  cases o with
  | none => exact h.elim
  | some a => exact ⟨a, rfl, h⟩
theorem tG_bin {p : Pl} {op : D → D → Store → Option α} {σ : L2.St} {H : Hp} {Q : VK} (h : tG p R (eBin op f g) σ H Q) (hR : Stays R := by first | exact stV | exact stT | exact stA | exact stL | assumption) : tOp (rO p.K p.mg R op) (tE p f) (tE p g) σ H Q := by
  obtain ⟨F, ι, ρ, S, s, r, q⟩ := h
  refine ⟨F, ι, ρ, S, s, r, post_bind (R := RV' p.K) q fun x S1 F1 ι1 v H1 x1 s1 rv q1 => ?_⟩
  refine ⟨F1, ι1, ρ, S1, s1, r.mono x1, post_bind (R := RV' p.K) q1 fun y S2 F2 ι2 u H2 x2 s2 ru q2 => ?_⟩
  obtain ⟨z, hz, q3⟩ := post_lift q2
  exact ⟨F2, ι2, S2, x, y, z, s2, Rel.mono x2 rv, ru, hz, q3⟩
theorem tG_un {p : Pl} {op : D → Store → Option α} {σ : L2.St} {H : Hp} {Q : VK} (h : tG p R (eUn op f) σ H Q) (hR : Stays R := by first | exact stV | exact stT | exact stA | exact stL | assumption) : tUn (rU1 p.K p.mg R op) (tE p f) σ H Q := by
  obtain ⟨F, ι, ρ, S, s, r, q⟩ := h
  refine ⟨F, ι, ρ, S, s, r, post_bind (R := RV' p.K) q fun x S1 F1 ι1 v H1 x1 s1 rv q1 => ?_⟩
  obtain ⟨z, hz, q3⟩ := post_lift q1
  exact ⟨F1, ι1, S1, x, z, s1, rv, hz, q3⟩
theorem tG_ops {p : Pl} {op : List D → Store → Option α} {fa : SemA} {σ : L2.St} {H : Hp} {Q : VK} (h : tG p R (eOps op fa) σ H Q) (hR : Stays R := by first | exact stV | exact stT | exact stA | exact stL | assumption) : tCB (rCall p.K p.mg R op) (tA p fa) σ H Q := by
  obtain ⟨F, ι, ρ, S, s, r, q⟩ := h
  refine ⟨F, ι, ρ, S, s, r, post_bind (R := RA' p.K) q fun x S1 F1 ι1 v H1 x1 s1 rv q1 => ?_⟩
  obtain ⟨z, hz, q3⟩ := post_lift q1
  exact ⟨F1, ι1, S1, x, z, s1, rv, hz, q3⟩
theorem xe_bin {o : Operator} {op : D → D → Store → Option D} (ho : OpX X (binaryOp o) op) (ha : XE X W a f) (hb : XE X W b g) : XE X W (.BinOp a o b pos) (eBin op f g) := peI (pe_op ho ha hb) fun _ _ _ h => tG_bin h
theorem xl_bin {o : Operator} {op : D → D → Store → Option (List D)} (ho : OpXL X (binaryOp o) op) (ha : XE X W a f) (hb : XE X W b g) : XL X W (.BinOp a o b pos) (eBin op f g) := peI (pe_op ho ha hb) fun _ _ _ h => tG_bin h
theorem xe_un {o : UnaryOp} {op : D → Store → Option D} (ho : UnX X (unaryOp o) op) (ha : XE X W a f) : XE X W (.UnaryOp o a pos) (eUn op f) := peI (pe_un ho ha) fun _ _ _ h => tG_un h
theorem xe_cmp {o : CmpOp} {op : D → D → Store → Option D} (ho : OpX X (compareOp o) op) (ha : XE X W a f) (hb : XE X W b g) (hm : behindInMarks o b = false) : XE X W (.Compare a [o] [b] pos) (eBin op f g) := peI (pe_cmpR ho ha hb hm) fun _ _ _ h => tG_bin h
/-- a value as a test -/
def asB : D → Store → Out Bool
  | .bl b, S => .ok b S
  | _, _ => .stuck
def tOfE (f : SemE) : SemT := fun ρ S => (f ρ S).bind asB
theorem rel_bl {K : PySem.W.Frag} {F : Hp} {ι : List Addr} {v : V} {b : Bool} (h : Rel K F ι v (.bl b)) : v = .bl b := by cases h; rfl
theorem rel_int {K : PySem.W.Frag} {F : Hp} {ι : List Addr} {v : V} {i : Int} (h : Rel K F ι v (.int i)) : v = .int i := by cases h; rfl
theorem rel_str {K : PySem.W.Frag} {F : Hp} {ι : List Addr} {v : V} {i : Str} (h : Rel K F ι v (.str i)) : v = .str i := by cases h; rfl
theorem rel_non {K : PySem.W.Frag} {F : Hp} {ι : List Addr} {v : V} (h : Rel K F ι v .non) : v = .non := by cases h; rfl
theorem tT_of {p : Pl} {σ : L2.St} {H : Hp} {Q : Bool → Hp → Prop} (h : tT p (tOfE f) σ H Q) : tB (tE p f) σ H Q := by
  obtain ⟨F, ι, ρ, S, s, r, q⟩ := h
  refine ⟨F, ι, ρ, S, s, r, post_bind (R := RV' p.K) q fun x S1 F1 ι1 v H1 x1 s1 rv q1 => ?_⟩
  cases x with
  | bl b => exact ⟨b, rel_bl rv, q1 F1 ι1 b H1 (Step.refl _ _ _) s1 rfl⟩
  | _ => exact q1.elim
theorem xt_cmp {o : CmpOp} {op : D → D → Store → Option D} (ho : OpX X (compareOp o) op) (ha : XE X W a f) (hb : XE X W b g) (hm : behindInMarks o b = false) : XT X W (.Compare a [o] [b] pos) (tOfE (eBin op f g)) := by
  refine ptI (pt_cmpR ho ha hb hm) fun σ H Q h => ?_
  have h' := tT_of h
  exact tG_bin (Q := fun x H1 => ∃ c, x = .bl c ∧ Q c H1) h'
theorem xt_val (ha : XE X W a f) (he : ∀ whole, isTrue a X.env whole = (do let v ← whole; standAt a.pos; holding [v] (truthy v)) := by intro _; rfl) : XT X W a (tOfE f) := ptI (pt_val ha he) fun _ _ _ h => tT_of h
/-! ### and, or, not -/
variable {t u : SemT} {c : Expr} {rest : List Expr}
def sAnd (t u : SemT) : SemT := fun ρ S => (t ρ S).bind fun b S1 => if b then u ρ S1 else .ok false S1
def sOr (t u : SemT) : SemT := fun ρ S => (t ρ S).bind fun b S1 => if b then .ok true S1 else u ρ S1
def sNot (t : SemT) : SemT := fun ρ S => (t ρ S).bind fun b S1 => .ok (!b) S1
theorem tT_and {p : Pl} {σ : L2.St} {H : Hp} {Q : Bool → Hp → Prop} (h : tT p (sAnd t u) σ H Q) : tAnd (tT p t) (tT p u) σ H Q := by
  obtain ⟨F, ι, ρ, S, s, r, q⟩ := h
  refine ⟨F, ι, ρ, S, s, r, post_bind (R := RT') q fun x S1 F1 ι1 v H1 x1 s1 rv q1 => ?_⟩
  cases (show v = x from rv)
  cases x with
  | true => exact ⟨F1, ι1, ρ, S1, s1, r.mono x1, q1⟩
  | false => exact q1 F1 ι1 false H1 (Step.refl _ _ _) s1 rfl
theorem tT_or {p : Pl} {σ : L2.St} {H : Hp} {Q : Bool → Hp → Prop} (h : tT p (sOr t u) σ H Q) : tOr (tT p t) (tT p u) σ H Q := by
  obtain ⟨F, ι, ρ, S, s, r, q⟩ := h
  refine ⟨F, ι, ρ, S, s, r, post_bind (R := RT') q fun x S1 F1 ι1 v H1 x1 s1 rv q1 => ?_⟩
  cases (show v = x from rv)
  cases x with
  | false => exact ⟨F1, ι1, ρ, S1, s1, r.mono x1, q1⟩
  | true => exact q1 F1 ι1 true H1 (Step.refl _ _ _) s1 rfl
theorem tT_not {p : Pl} {σ : L2.St} {H : Hp} {Q : Bool → Hp → Prop} (h : tT p (sNot t) σ H Q) : tNot (tT p t) σ H Q := by
  obtain ⟨F, ι, ρ, S, s, r, q⟩ := h
  refine ⟨F, ι, ρ, S, s, r, post_bind (R := RT') q fun x S1 F1 ι1 v H1 x1 s1 rv q1 => ?_⟩
  cases (show v = x from rv)
  exact q1 F1 ι1 _ H1 (Step.refl _ _ _) s1 rfl
theorem xw_and1 (ha : XT X W a t) : XW X W (.BoolOp .And [a] pos) t := pw_and1 ha
theorem xw_or1 (ha : XT X W a t) : XW X W (.BoolOp .Or [a] pos) t := pw_or1 ha
theorem xw_and (ha : XT X W a t) (hb : XW X W (.BoolOp .And (b :: rest) pos) u) : XW X W (.BoolOp .And (a :: b :: rest) pos) (sAnd t u) := pwI (pw_and ha hb) fun _ _ _ h => tT_and h
theorem xw_or (ha : XT X W a t) (hb : XW X W (.BoolOp .Or (b :: rest) pos) u) : XW X W (.BoolOp .Or (a :: b :: rest) pos) (sOr t u) := pwI (pw_or ha hb) fun _ _ _ h => tT_or h
theorem xt_w (h : XW X W a t) : XT X W a t := h.pt
theorem xt_not (ha : XT X W a t) : XT X W (.UnaryOp .Not a pos) (sNot t) := ptI (pt_not ha) fun _ _ _ h => tT_not h
/-! .. as values -/
def vAnd (f g : SemE) : SemE := fun ρ S => (f ρ S).bind fun x S1 => (asB x S1).bind fun b S2 => if b then g ρ S2 else .ok (.bl false) S2
def vOr (f g : SemE) : SemE := fun ρ S => (f ρ S).bind fun x S1 => (asB x S1).bind fun b S2 => if b then .ok (.bl true) S2 else g ρ S2
def vNot (f : SemE) : SemE := fun ρ S => (f ρ S).bind fun x S1 => (asB x S1).bind fun b S2 => .ok (.bl (!b)) S2
theorem tE_and {p : Pl} {σ : L2.St} {H : Hp} {Q : VK} (h : tE p (vAnd f g) σ H Q) : tAndV (tE p f) (tE p g) σ H Q := by
  obtain ⟨F, ι, ρ, S, s, r, q⟩ := h
  refine ⟨F, ι, ρ, S, s, r, post_bind (R := RV' p.K) q fun x S1 F1 ι1 v H1 x1 s1 rv q1 => ?_⟩
  cases x with
  | bl b =>
    refine ⟨b, rel_bl rv, ?_⟩
    cases b with
    | true => exact ⟨F1, ι1, ρ, S1, s1, r.mono x1, q1⟩
    | false => exact q1 F1 ι1 (.bl false) H1 (Step.refl _ _ _) s1 (.bl false)
  | _ => exact q1.elim
theorem tE_or {p : Pl} {σ : L2.St} {H : Hp} {Q : VK} (h : tE p (vOr f g) σ H Q) : tOrV (tE p f) (tE p g) σ H Q := by
  obtain ⟨F, ι, ρ, S, s, r, q⟩ := h
  refine ⟨F, ι, ρ, S, s, r, post_bind (R := RV' p.K) q fun x S1 F1 ι1 v H1 x1 s1 rv q1 => ?_⟩
  cases x with
  | bl b =>
    refine ⟨b, rel_bl rv, ?_⟩
    cases b with
    | false => exact ⟨F1, ι1, ρ, S1, s1, r.mono x1, q1⟩
    | true => exact q1 F1 ι1 (.bl true) H1 (Step.refl _ _ _) s1 (.bl true)
  | _ => exact q1.elim
theorem tE_not {p : Pl} {σ : L2.St} {H : Hp} {Q : VK} (h : tE p (vNot f) σ H Q) : tNotV (tE p f) σ H Q := by
  obtain ⟨F, ι, ρ, S, s, r, q⟩ := h
  refine ⟨F, ι, ρ, S, s, r, post_bind (R := RV' p.K) q fun x S1 F1 ι1 v H1 x1 s1 rv q1 => ?_⟩
  cases x with
  | bl b => exact ⟨b, rel_bl rv, q1 F1 ι1 (.bl (!b)) H1 (Step.refl _ _ _) s1 (.bl _)⟩
  | _ => exact q1.elim
theorem xe_one {o : BoolOp} (h : XE X W a f) : XE X W (.BoolOp o [a] pos) f := pe_one h
theorem xe_and (ha : XE X W a f) (hb : XE X W (.BoolOp .And (b :: rest) pos) g) : XE X W (.BoolOp .And (a :: b :: rest) pos) (vAnd f g) := peI (pe_and ha hb) fun _ _ _ h => tE_and h
theorem xe_or (ha : XE X W a f) (hb : XE X W (.BoolOp .Or (b :: rest) pos) g) : XE X W (.BoolOp .Or (a :: b :: rest) pos) (vOr f g) := peI (pe_or ha hb) fun _ _ _ h => tE_or h
theorem xe_not (ha : XE X W a f) : XE X W (.UnaryOp .Not a pos) (vNot f) := peI (pe_not ha) fun _ _ _ h => tE_not h
/-! a if t else b -/
def eIf {α : Type} (t : SemT) (f g : Env → Store → Out α) : Env → Store → Out α := fun ρ S => (t ρ S).bind fun b S1 => if b then f ρ S1 else g ρ S1
theorem xe_if (hc : XT X W c t) (ha : XE X W a f) (hb : XE X W b g) : XE X W (.IfExp c a b pos) (eIf t f g) := by
  refine peI (pe_ifExp hc ha hb) fun σ H Q h => ?_
  obtain ⟨F, ι, ρ, S, s, r, q⟩ := h
  refine ⟨F, ι, ρ, S, s, r, post_bind (R := RT') q fun x S1 F1 ι1 v H1 x1 s1 rv q1 => ?_⟩
  cases (show v = x from rv)
  cases x with
  | true => exact ⟨F1, ι1, ρ, S1, s1, r.mono x1, q1⟩
  | false => exact ⟨F1, ι1, ρ, S1, s1, r.mono x1, q1⟩
/-! ### a chain of two comparisons -/
def eChain (op op' : D → D → Store → Option D) (f g h : SemE) : SemE := fun ρ S => (f ρ S).bind fun x S1 => (g ρ S1).bind fun y S2 => (lift (op x y S2) S2).bind fun z S3 => (asB z S3).bind fun k S4 =>
  if k then (h ρ S4).bind fun w S5 => lift (op' y w S5) S5 else .ok (.bl false) S4
/-! ### argument lists, displays -/
def aNil : SemA := fun _ S => .ok [] S
def aCons (f : SemE) (g : SemA) : SemA := fun ρ S => (f ρ S).bind fun x S1 => (g ρ S1).bind fun xs S2 => .ok (x :: xs) S2
theorem xa_nil : XA X W [] aNil := paI pa_nil fun σ H Q ⟨F, ι, ρ, S, s, r, q⟩ => q F ι [] H (Step.refl _ _ _) s .nil
theorem xa_cons {es : List Expr} {fa : SemA} (ha : XE X W a f) (hr : XA X W es fa) (hs : starEach (a :: es) X.env = (false, eval a X.env) :: starEach es X.env := by rfl) : XA X W (a :: es) (aCons f fa) := by
  refine paI (pa_cons ha hr hs) fun σ H Q h => ?_
  obtain ⟨F, ι, ρ, S, s, r, q⟩ := h
  refine ⟨F, ι, ρ, S, s, r, post_bind (R := RV' X.K) q fun x S1 F1 ι1 v H1 x1 s1 rv q1 => ?_⟩
  refine ⟨F1, ι1, ρ, S1, s1, r.mono x1, post_bind (R := RA' X.K) q1 fun y S2 F2 ι2 u H2 x2 s2 ru q2 => ?_⟩
  exact q2 F2 ι2 (v :: u) H2 (Step.refl _ _ _) s2 (.cons (Rel.mono x2 rv) ru)
def sz (n : Nat) : Bool := decide (n ≤ 4000000)
theorem sz_le {n : Nat} (h : sz n = true) : n ≤ sizeLine := Nat.le_trans (of_decide_eq_true h) (by decide)
theorem sz_lt {n : Nat} (h : sz n = true) : n < sizeLine := Nat.lt_of_le_of_lt (of_decide_eq_true h) (by decide)
def eTup (fa : SemA) : SemE := fun ρ S => (fa ρ S).bind fun xs S1 => if sz xs.length then .ok (.tup xs) S1 else .stuck
def lDisp (fa : SemA) : SemA := fun ρ S => (fa ρ S).bind fun xs S1 => if sz xs.length then .ok xs S1 else .stuck
theorem ite_stuck {p : Pl} {β : Type} {R : Hp → Hp → List Addr → Hp → β → α → Prop} {F H : Hp} {ι : List Addr} {σ : L2.St} {Q : β → Hp → Prop} {c : Bool} {o : Out α} (h : Post p R F ι H σ (if c then o else .stuck) Q) : c = true ∧ Post p R F ι H σ o Q := by
  cases c with
  | true => exact ⟨rfl, h⟩
  | false => exact h.elim
theorem xe_tup {es : List Expr} {fa : SemA} {k} (h : XA X W es fa) : XE X W (.Tuple es k pos) (eTup fa) := by
  refine peI (pe_tup h) fun σ H Q h => ?_
  obtain ⟨F, ι, ρ, S, s, r, q⟩ := h
  refine ⟨F, ι, ρ, S, s, r, post_bind (R := RA' X.K) q fun x S1 F1 ι1 v H1 x1 s1 rv q1 => ?_⟩
  obtain ⟨hz, q1⟩ := ite_stuck q1
  refine ⟨by rw [RelAll.length rv]; exact sz_le hz, fun p hp => ?_⟩
  obtain ⟨x2, s2⟩ := s1.frozen (o := .tup v) hp
  exact q1 _ _ _ _ x2 s2 (.tup upd_same (RelAll.mono x2 rv))
theorem xl_disp {es : List Expr} {fa : SemA} (h : XA X W es fa) : XL X W (.List es pos) (lDisp fa) := by
  refine peI (pe_lst h) fun σ H Q h => ?_
  obtain ⟨F, ι, ρ, S, s, r, q⟩ := h
  refine ⟨F, ι, ρ, S, s, r, post_bind (R := RA' X.K) q fun x S1 F1 ι1 v H1 x1 s1 rv q1 => ?_⟩
  obtain ⟨hz, q1⟩ := ite_stuck q1
  refine ⟨by rw [RelAll.length rv]; exact sz_le hz, fun p hp => ?_⟩
  obtain ⟨hf, hi⟩ := s1.fresh hp
  obtain ⟨x2, s2⟩ := s1.loose (o := .lst v) hp
  exact q1 _ _ _ _ x2 s2 ⟨p, v, rfl, hp, upd_same, hf, hi, rv⟩
/-! ### a new list: frozen, or a cell -/
def frz (fa : SemA) : SemE := fun ρ S => (fa ρ S).bind fun xs S1 => .ok (.lst xs) S1
def cellL (fa : SemA) : SemE := fun ρ S => (fa ρ S).bind fun xs S1 => if closedA S1.length xs then .ok (.ref S1.length) (S1 ++ [.lst true xs]) else .stuck
theorem Sim.freezeNew {K : PySem.W.Frag} {mg : Str → Option Value} {F F0 H0 : Hp} {ι ι0 : List Addr} {S : Store} {H : Hp} (s : Sim K mg F ι S H) (st : Step F0 ι0 H0 F ι H) {q : Addr} {o : HO} (h0 : H0 q = none) (hq : H q = some o) (hf : F q = none) (hi : q ∉ ι) (ho : ∀ ps, o ≠ .tbl ps := by intro _ z; cases z) :
    Ext F ι (upd F q o) ι ∧ Step F0 ι0 H0 (upd F q o) ι H ∧ Sim K mg (upd F q o) ι S H := by
  have x : Ext F ι (upd F q o) ι := ⟨same_upd hf, List.prefix_rfl⟩
  refine ⟨x, ⟨st.toExt.trans x, fun b u e1 e2 e3 e4 => ?_, st.dom⟩, fun b u e => ?_, s.len, s.nd, fun n a c ha hc => ?_, s.cl, s.tab, nt_upd s.nt ho, s.tt⟩
  · obtain ⟨k1, k2, k3⟩ := st.keep b u e1 e2 e3 e4
    exact ⟨k1, by rw [upd_ne (ne_of_none e1 h0)]; exact k2, k3⟩
  · by_cases hb : b = q
    · subst hb
      rw [upd_same] at e
      rw [hq]
      exact e
    · rw [upd_ne hb] at e
      exact s.sub b u e
  · have ne : a ≠ q := fun e => hi (e ▸ List.mem_of_getElem? ha)
    exact (s.cell n a c ha hc).mono x (fun e => by rw [upd_ne ne]; exact e) fun o' e => e
theorem xe_frz {fa : SemA} (h : XL X W a fa) : XE X W a (frz fa) := by
  refine peI h fun σ H Q h => ?_
  obtain ⟨F, ι, ρ, S, s, r, q⟩ := h
  refine ⟨F, ι, ρ, S, s, r, ?_⟩
  unfold frz at q
  cases e : fa ρ S with
  | ok x S1 =>
    rw [e] at q
    intro F1 ι1 v H1 x1 s1 rv
    obtain ⟨q', vs, rfl, h0, hq, hf, hi, rr⟩ := rv
    obtain ⟨x0, x2, s2⟩ := s1.freezeNew x1 h0 hq hf hi
    exact q _ _ _ _ x2 s2 (.lst upd_same (RelAll.mono0 x0 rr))
  | exc c fs S1 => rw [e] at q; exact q
  | stuck => rw [e] at q; exact q.elim
theorem xe_cell {fa : SemA} (h : XL X W a fa) : XE X W a (cellL fa) := by
  refine peI h fun σ H Q h => ?_
  obtain ⟨F, ι, ρ, S, s, r, q⟩ := h
  refine ⟨F, ι, ρ, S, s, r, ?_⟩
  unfold cellL at q
  cases e : fa ρ S with
  | ok x S1 =>
    rw [e] at q
    simp only [Out.ok_bind] at q
    obtain ⟨hcl, q⟩ := ite_stuck q
    intro F1 ι1 v H1 x1 s1 rv
    obtain ⟨q', vs, rfl, h0, hq, hf, hi, rr⟩ := rv
    have xx : Ext F1 ι1 F1 (ι1 ++ [q']) := ⟨Same.refl _, List.prefix_append _ _⟩
    obtain ⟨x2, s2⟩ := s1.newCell x1 (c := .lst true x) h0 hi ⟨vs, hq, RelAll.mono0 xx rr, hf⟩ hcl
    exact q _ _ _ _ x2 s2 (.ref (by rw [← s1.len]; simp))
  | exc c fs S1 => rw [e] at q; exact q
  | stuck => rw [e] at q; exact q.elim
end
end Fk

set_option Elab.async false
set_option linter.all false
set_option maxRecDepth 100000
namespace Fk
open PySem PySem.Spec PyProof.Rows L2
/-! ### reading values -/
def drc (n : Nat) : Option Cell → D
  | some (.lst _ xs) => .lst xs
  | some (.dK kvs) => .dct kvs
  | _ => .ref n
def dr (S : Store) : D → D
  | .ref n => drc n S[n]?
  | d => d
theorem dr_ref (S : Store) (n : Nat) : dr S (.ref n) = drc n S[n]? := rfl
theorem drc_no {n : Nat} {c : Option Cell} {d : D} (h : drc n c = d) : (∃ xs, d = .lst xs) ∨ (∃ xs, d = .dct xs) ∨ d = .ref n := by
  unfold drc at h
  split at h
  · exact .inl ⟨_, h.symm⟩
  · exact .inr (.inl ⟨_, h.symm⟩)
  · exact .inr (.inr h.symm)
section
variable {K : PySem.W.Frag} {mg : Str → Option Value} {F : Hp} {ι : List Addr} {S : Store} {H : Hp} {x : V} {d : D} {ds : List D}
theorem at_lst (s : Sim K mg F ι S H) (r : Rel K F ι x d) (h : dr S d = .lst ds) : ∃ a vs, x = .ref a ∧ H a = some (.lst vs) ∧ RelAll K F ι vs ds := by
  cases r with
  | lst e q =>
    cases (show D.lst _ = D.lst ds from h)
    exact ⟨_, _, rfl, s.sub _ _ e, q⟩
  | @ref n a e =>
    rw [dr_ref] at h
    cases hc : S[n]? with
    | none => rw [hc] at h; cases h
    | some c =>
      rw [hc] at h
      have ok := s.cell n a c e hc
      cases c with
      | lst b xs =>
        cases h
        cases b with
        | true => obtain ⟨vs, h1, h2, _⟩ := ok; exact ⟨_, vs, rfl, h1, h2⟩
        | false => obtain ⟨vs, h1, h2⟩ := ok; exact ⟨_, vs, rfl, s.sub _ _ h1, h2⟩
      | _ => cases h
  | _ => cases h
theorem at_tup (s : Sim K mg F ι S H) (r : Rel K F ι x d) (h : dr S d = .tup ds) : ∃ a vs, x = .ref a ∧ H a = some (.tup vs) ∧ F a = some (.tup vs) ∧ RelAll K F ι vs ds ∧ d = .tup ds := by
  cases r with
  | tup e q =>
    cases (show D.tup _ = D.tup ds from h)
    exact ⟨_, _, rfl, s.sub _ _ e, e, q, rfl⟩
  | @ref n a e =>
    rcases drc_no h with ⟨_, z⟩ | ⟨_, z⟩ | z <;> cases z
  | _ => cases h
theorem at_scr (s : Sim K mg F ι S H) (r : Rel K F ι x d) (h : dr S d = .scr ds) : ∃ a vs, x = .ref a ∧ SqL K H a vs ∧ RelAll K F ι vs ds := by
  cases r with
  | scr e q =>
    cases (show D.scr _ = D.scr ds from h)
    exact ⟨_, _, rfl, s.sub.seq e, q⟩
  | @ref n a e =>
    rcases drc_no h with ⟨_, z⟩ | ⟨_, z⟩ | z <;> cases z
  | _ => cases h
theorem at_dct (s : Sim K mg F ι S H) (r : Rel K F ι x d) {kds : List (Key × D)} (h : dr S d = .dct kds) : ∃ a kvs, x = .ref a ∧ H a = some (.dK kvs) ∧ RelKV K F ι kvs kds := by
  cases r with
  | dct e k q =>
    cases (show D.dct _ = D.dct kds from h)
    exact ⟨_, _, rfl, s.sub _ _ e, ⟨k, q⟩⟩
  | @ref n a e =>
    rw [dr_ref] at h
    cases hc : S[n]? with
    | none => rw [hc] at h; cases h
    | some c =>
      rw [hc] at h
      have ok := s.cell n a c e hc
      cases c with
      | dK kvs =>
        cases h
        obtain ⟨kvs, h1, h2, _⟩ := ok
        exact ⟨_, kvs, rfl, h1, h2⟩
      | _ => cases h
  | _ => cases h
theorem at_int (r : Rel K F ι x d) {i : Int} (h : dr S d = .int i) : x = .int i ∧ d = .int i := by
  cases r with
  | int j => cases h; exact ⟨rfl, rfl⟩
  | @ref n a e => rcases drc_no h with ⟨_, z⟩ | ⟨_, z⟩ | z <;> cases z
  | _ => cases h
theorem at_str (r : Rel K F ι x d) {i : Str} (h : dr S d = .str i) : x = .str i ∧ d = .str i := by
  cases r with
  | str j => cases h; exact ⟨rfl, rfl⟩
  | @ref n a e => rcases drc_no h with ⟨_, z⟩ | ⟨_, z⟩ | z <;> cases z
  | _ => cases h
def asInts : List D → Option (List Int)
  | [] => some []
  | .int i :: r => (asInts r).map (i :: ·)
  | _ :: _ => none
@[simp] theorem asInts_map : ∀ ns : List Int, asInts (ns.map D.int) = some ns
  | [] => rfl
  | n :: ns => by rw [List.map_cons, asInts, asInts_map ns]; rfl
theorem rel_ints : ∀ {vs : List V} {ds : List D} {ns : List Int}, RelAll K F ι vs ds → asInts ds = some ns → vs = ns.map V.int
  | _, _, _, .nil, h => by cases h; rfl
  | _, _, _, .cons (.int i) r, h => by
    simp only [asInts, Option.map_eq_some_iff] at h
    obtain ⟨m, h1, rfl⟩ := h
    rw [rel_ints r h1]
    rfl
  | _, _, _, .cons .non _, h => by cases h
  | _, _, _, .cons (.bl _) _, h => by cases h
  | _, _, _, .cons (.str _) _, h => by cases h
  | _, _, _, .cons (.tup _ _) _, h => by cases h
  | _, _, _, .cons (.lst _ _) _, h => by cases h
  | _, _, _, .cons (.scr _ _) _, h => by cases h
  | _, _, _, .cons (.dct _ _ _) _, h => by cases h
  | _, _, _, .cons (.ref _) _, h => by cases h
def asBls : List D → Option (List Bool)
  | [] => some []
  | .bl i :: r => (asBls r).map (i :: ·)
  | _ :: _ => none
@[simp] theorem asBls_map : ∀ ns : List Bool, asBls (ns.map D.bl) = some ns
  | [] => rfl
  | n :: ns => by rw [List.map_cons, asBls, asBls_map ns]; rfl
theorem rel_bls : ∀ {vs : List V} {ds : List D} {ns : List Bool}, RelAll K F ι vs ds → asBls ds = some ns → vs = ns.map V.bl
  | _, _, _, .nil, h => by cases h; rfl
  | _, _, _, .cons (.bl i) r, h => by
    simp only [asBls, Option.map_eq_some_iff] at h
    obtain ⟨m, h1, rfl⟩ := h
    rw [rel_bls r h1]
    rfl
  | _, _, _, .cons .non _, h => by cases h
  | _, _, _, .cons (.int _) _, h => by cases h
  | _, _, _, .cons (.str _) _, h => by cases h
  | _, _, _, .cons (.tup _ _) _, h => by cases h
  | _, _, _, .cons (.lst _ _) _, h => by cases h
  | _, _, _, .cons (.scr _ _) _, h => by cases h
  | _, _, _, .cons (.dct _ _ _) _, h => by cases h
  | _, _, _, .cons (.ref _) _, h => by cases h
theorem rel_at {vs : List V} {i : Int} {d : D} (r : RelAll K F ι vs ds) (h : atI ds i = some d) : ∃ v, atI vs i = some v ∧ Rel K F ι v d := by
  unfold atI at h ⊢
  rw [r.length]
  cases e : ixN ds.length i with
  | none => rw [e] at h; cases h
  | some j =>
    rw [e] at h
    exact r.get h
end
def cutD (xs : List D) (lo hi : Option Int) : List D := (xs.drop (HT.sIx xs.length 0 lo)).take (HT.sIx xs.length xs.length hi - HT.sIx xs.length 0 lo)
theorem rel_cut {K : PySem.W.Frag} {F : Hp} {ι : List Addr} {vs : List V} {ds : List D} (r : RelAll K F ι vs ds) (lo hi : Option Int) : RelAll K F ι (cutV vs lo hi) (cutD ds lo hi) := by
  unfold cutV cutD
  rw [r.length]
  exact (r.drop _).take _

/-! ### operators -/
def opAdd : D → D → Store → Option D := fun d e S => match dr S d, dr S e with
  | .int i, .int j => some (.int (i + j))
  | .str x, .str y => if sz (x.length + y.length) then some (.str (x ++ y)) else none
  | .tup xs, .tup ys => if sz (xs.length + ys.length) then some (.tup (xs ++ ys)) else none
  | .lst xs, .lst ys => if sz (xs.length + ys.length) then some (.lst (xs ++ ys)) else none
  | _, _ => none
def opCatL : D → D → Store → Option (List D) := fun d e S => match dr S d, dr S e with
  | .lst xs, .lst ys => if sz (xs.length + ys.length) then some (xs ++ ys) else none
  | _, _ => none
def opSub : D → D → Store → Option D := fun d e _ => match d, e with
  | .int i, .int j => some (.int (i - j))
  | _, _ => none
def mulOk (i j : Int) : Bool := decide (i.natAbs.log2 + j.natAbs.log2 < 1000000)
def opMul : D → D → Store → Option D := fun d e _ => match d, e with
  | .int i, .int j => if mulOk i j then some (.int (i * j)) else none
  | .tup xs, .int k => if decide (xs ≠ [] ∧ 2 ≤ k ∧ k ≤ 1000 ∧ xs.length ≤ 1000) then some (.tup (List.replicate k.toNat xs).flatten) else none
  | .lst xs, .int k => if decide (0 ≤ k ∧ k ≤ 100 ∧ xs.length ≤ 1000) then some (.lst (List.replicate k.toNat xs).flatten) else none
  | _, _ => none
def divOk (j : Int) : Bool := decide (0 < j ∧ j.natAbs.log2 < 9000)
def opDiv : D → D → Store → Option D := fun d e _ => match d, e with
  | .int i, .int j => if divOk j then some (.int (i / j)) else none
  | _, _ => none
def opMod : D → D → Store → Option D := fun d e _ => match d, e with
  | .int i, .int j => if decide (0 < j) then some (.int (i % j)) else none
  | _, _ => none
def powOk (i j : Int) : Bool := decide (0 ≤ j ∧ j ≤ 1000 ∧ i.natAbs < 2 ^ 64)
def opPow : D → D → Store → Option D := fun d e _ => match d, e with
  | .int i, .int j => if powOk i j then some (.int (i ^ j.toNat)) else none
  | _, _ => none
def opLt : D → D → Store → Option D := fun d e _ => match d, e with
  | .int i, .int j => some (.bl (decide (i < j)))
  | _, _ => none
def opLe : D → D → Store → Option D := fun d e _ => match d, e with
  | .int i, .int j => some (.bl (decide (i ≤ j)))
  | _, _ => none
def opGt : D → D → Store → Option D := fun d e _ => match d, e with
  | .int i, .int j => some (.bl (decide (j < i)))
  | _, _ => none
def opGe : D → D → Store → Option D := fun d e _ => match d, e with
  | .int i, .int j => some (.bl (decide (j ≤ i)))
  | _, _ => none
def opNeg : D → Store → Option D := fun d _ => match d with
  | .int i => some (.int (-i))
  | _ => none
section
variable {X : Cx}
theorem ox_add : OpX X (binaryOp .Add) opAdd := by
  intro pins s σ H x y v u Q I rx ry h
  obtain ⟨F, ι, S, d, e, a, sm, rd, re, ho, q⟩ := h
  unfold opAdd at ho
  split at ho
  · next i j h1 h2 =>
    cases ho
    obtain ⟨rfl, rfl⟩ := at_int rd h1
    obtain ⟨rfl, rfl⟩ := at_int re h2
    exact op_add pins s σ H _ _ v u Q I rx ry ⟨i, j, rfl, rfl, q F ι _ H (Step.refl _ _ _) sm (.int _)⟩
  · next i j h1 h2 =>
    split at ho
    · next hz =>
      cases ho
      obtain ⟨rfl, rfl⟩ := at_str rd h1
      obtain ⟨rfl, rfl⟩ := at_str re h2
      exact op_add_str pins s σ H _ _ v u Q I rx ry ⟨i, j, rfl, rfl, sz_le hz, q F ι _ H (Step.refl _ _ _) sm (.str _)⟩
    · cases ho
  · next xs ys h1 h2 =>
    split at ho
    · next hz =>
      cases ho
      obtain ⟨p1, vs, rfl, e1, f1, r1, rfl⟩ := at_tup sm rd h1
      obtain ⟨p2, ws, rfl, e2, f2, r2, rfl⟩ := at_tup sm re h2
      refine op_catA pins s σ H _ _ v u Q I rx ry ⟨p1, p2, vs, ws, rfl, rfl, SqT.of e1, SqT.of e2, ?_, fun hv => ?_, fun hv hw => ?_, fun hv hw p hp => ?_⟩
      · rw [r1.length, r2.length]; exact sz_le hz
      · subst hv
        cases r1
        exact q F ι _ H (Step.refl _ _ _) sm (.tup f2 r2)
      · subst hw
        cases r2
        rw [List.append_nil] at q
        exact q F ι _ H (Step.refl _ _ _) sm (.tup f1 r1)
      · obtain ⟨x2, s2⟩ := sm.frozen (o := .tup (vs ++ ws)) hp
        exact q _ _ _ _ x2 s2 (.tup upd_same (RelAll.mono x2 (r1.append r2)))
    · cases ho
  · next xs ys h1 h2 =>
    split at ho
    · next hz =>
      cases ho
      obtain ⟨p1, vs, rfl, e1, r1⟩ := at_lst sm rd h1
      obtain ⟨p2, ws, rfl, e2, r2⟩ := at_lst sm re h2
      refine op_cat pins s σ H _ _ v u Q I rx ry ⟨p1, p2, vs, ws, rfl, rfl, e1, e2, ?_, fun p hp => ?_⟩
      · rw [r1.length, r2.length]; exact sz_le hz
      · obtain ⟨x2, s2⟩ := sm.frozen (o := .lst (vs ++ ws)) hp
        exact q _ _ _ _ x2 s2 (.lst upd_same (RelAll.mono x2 (r1.append r2)))
    · cases ho
  · cases ho
theorem oxl_cat : OpXL X (binaryOp .Add) opCatL := by
  intro pins s σ H x y v u Q I rx ry h
  obtain ⟨F, ι, S, d, e, a, sm, rd, re, ho, q⟩ := h
  unfold opCatL at ho
  split at ho
  · next xs ys h1 h2 =>
    split at ho
    · next hz =>
      cases ho
      obtain ⟨p1, vs, rfl, e1, r1⟩ := at_lst sm rd h1
      obtain ⟨p2, ws, rfl, e2, r2⟩ := at_lst sm re h2
      refine op_cat pins s σ H _ _ v u Q I rx ry ⟨p1, p2, vs, ws, rfl, rfl, e1, e2, ?_, fun p hp => ?_⟩
      · rw [r1.length, r2.length]; exact sz_le hz
      · obtain ⟨hf, hi⟩ := sm.fresh hp
        exact q _ _ _ _ (sm.loose hp).1 (sm.loose hp).2 ⟨p, _, rfl, hp, upd_same, hf, hi, r1.append r2⟩
    · cases ho
  · cases ho
/-- an operation on two ints -/
theorem ox_int {f : Value → Value → Sem Value} {C : Int → Int → Prop} {g : Int → Int → V} {g' : Int → Int → D} {op : D → D → Store → Option D} (h : OpR X f (rI C g)) (hg : ∀ i j K F ι, Rel K F ι (g i j) (g' i j))
    (ho : ∀ d e S a, op d e S = some a → ∃ i j, d = .int i ∧ e = .int j ∧ C i j ∧ a = g' i j) : OpX X f op := by
  intro pins s σ H x y v u Q I rx ry hh
  obtain ⟨F, ι, S, d, e, a, sm, rd, re, hop, q⟩ := hh
  obtain ⟨i, j, rfl, rfl, hc, rfl⟩ := ho d e S a hop
  cases rel_int rd
  cases rel_int re
  exact h pins s σ H _ _ v u Q I rx ry ⟨i, j, rfl, rfl, hc, q F ι _ H (Step.refl _ _ _) sm (hg i j _ _ _)⟩
theorem rI_of {f : Value → Value → Sem Value} {g : Int → Int → V} (h : OpR X f (rI0 g)) : OpR X f (rI (fun _ _ => True) g) := fun pins s σ H x y v u Q I rx ry ⟨i, j, a, b, _, q⟩ => h pins s σ H x y v u Q I rx ry ⟨i, j, a, b, q⟩
theorem ox_sub : OpX X (binaryOp .Sub) opSub := ox_int (g' := fun i j => .int (i - j)) (rI_of op_sub) (fun _ _ _ _ _ => .int _) fun d e S a h => by
  unfold opSub at h
  split at h
  · cases h; exact ⟨_, _, rfl, rfl, trivial, rfl⟩
  · cases h
theorem ox_div : OpX X (binaryOp .FloorDiv) opDiv := ox_int (g' := fun i j => .int (i / j)) op_fdivW (fun _ _ _ _ _ => .int _) fun d e S a h => by
  unfold opDiv at h
  split at h
  · next i j =>
    split at h
    · next hz =>
      cases h
      have z : 0 < j ∧ j.natAbs.log2 < 9000 := of_decide_eq_true hz
      exact ⟨_, _, rfl, rfl, z, rfl⟩
    · cases h
  · cases h
theorem ox_mod : OpX X (binaryOp .Mod) opMod := ox_int (g' := fun i j => .int (i % j)) op_mod (fun _ _ _ _ _ => .int _) fun d e S a h => by
  unfold opMod at h
  split at h
  · split at h
    · next hz => cases h; exact ⟨_, _, rfl, rfl, of_decide_eq_true hz, rfl⟩
    · cases h
  · cases h
theorem ox_pow : OpX X (binaryOp .Pow) opPow := ox_int (g' := fun i j => .int (i ^ j.toNat)) op_pow (fun _ _ _ _ _ => .int _) fun d e S a h => by
  unfold opPow at h
  split at h
  · split at h
    · next hz =>
      cases h
      obtain ⟨a, b, c⟩ := of_decide_eq_true hz
      exact ⟨_, _, rfl, rfl, ⟨a, by omega, c⟩, rfl⟩
    · cases h
  · cases h
theorem ox_lt : OpX X (compareOp .Lt) opLt := ox_int (g' := fun i j => .bl (decide (i < j))) (rI_of op_lt) (fun _ _ _ _ _ => .bl _) fun d e S a h => by
  unfold opLt at h
  split at h
  · cases h; exact ⟨_, _, rfl, rfl, trivial, rfl⟩
  · cases h
theorem ox_le : OpX X (compareOp .LtE) opLe := ox_int (g' := fun i j => .bl (decide (i ≤ j))) (rI_of op_le) (fun _ _ _ _ _ => .bl _) fun d e S a h => by
  unfold opLe at h
  split at h
  · cases h; exact ⟨_, _, rfl, rfl, trivial, rfl⟩
  · cases h
theorem ox_gt : OpX X (compareOp .Gt) opGt := ox_int (g' := fun i j => .bl (decide (j < i))) (rI_of op_gt) (fun _ _ _ _ _ => .bl _) fun d e S a h => by
  unfold opGt at h
  split at h
  · cases h; exact ⟨_, _, rfl, rfl, trivial, rfl⟩
  · cases h
theorem ox_ge : OpX X (compareOp .GtE) opGe := ox_int (g' := fun i j => .bl (decide (j ≤ i))) (rI_of op_ge) (fun _ _ _ _ _ => .bl _) fun d e S a h => by
  unfold opGe at h
  split at h
  · cases h; exact ⟨_, _, rfl, rfl, trivial, rfl⟩
  · cases h
theorem ux_neg : UnX X (unaryOp .USub) opNeg := by
  intro pins s σ H x v Q I rx hh
  obtain ⟨F, ι, S, d, a, sm, rd, ho, q⟩ := hh
  unfold opNeg at ho
  split at ho
  · next i =>
    cases ho
    cases rel_int rd
    exact un_neg pins s σ H _ v Q I rx ⟨i, rfl, q F ι _ H (Step.refl _ _ _) sm (.int _)⟩
  · cases ho
theorem rel_rep {K : PySem.W.Frag} {F : Hp} {ι : List Addr} {vs : List V} {ds : List D} (r : RelAll K F ι vs ds) : ∀ n : Nat, RelAll K F ι (List.replicate n vs).flatten (List.replicate n ds).flatten
  | 0 => .nil
  | n + 1 => by
    rw [List.replicate_succ, List.replicate_succ, List.flatten_cons, List.flatten_cons]
    exact r.append (rel_rep r n)
theorem ox_mul : OpX X (binaryOp .Mult) opMul := by
  intro pins s σ H x y v u Q I rx ry h
  obtain ⟨F, ι, S, d, e, a, sm, rd, re, ho, q⟩ := h
  unfold opMul at ho
  split at ho
  · next i j =>
    split at ho
    · next hz =>
      cases ho
      cases rel_int rd
      cases rel_int re
      have z : i.natAbs.log2 + j.natAbs.log2 < 1000000 := of_decide_eq_true hz
      exact op_mulW pins s σ H _ _ v u Q I rx ry ⟨i, j, rfl, rfl, z, q F ι _ H (Step.refl _ _ _) sm (.int _)⟩
    · cases ho
  · next xs k =>
    split at ho
    · next hz =>
      cases ho
      obtain ⟨h1, h2, h3, h4⟩ := of_decide_eq_true hz
      cases rel_int re
      obtain ⟨p1, vs, rfl, e1, f1, r1, _⟩ := at_tup sm rd (show dr S (.tup xs) = .tup xs from rfl)
      refine op_repT pins s σ H _ _ v u Q I rx ry ⟨p1, k, vs, rfl, rfl, SqT.of e1, fun z => ?_, h2, h3, by rw [r1.length]; exact h4, fun p hp => ?_⟩
      · subst z
        cases r1
        exact h1 rfl
      · obtain ⟨x2, s2⟩ := sm.frozen (o := .tup (List.replicate k.toNat vs).flatten) hp
        exact q _ _ _ _ x2 s2 (.tup upd_same (RelAll.mono x2 (rel_rep r1 _)))
    · cases ho
  · next xs k =>
    split at ho
    · next hz =>
      cases ho
      obtain ⟨h1, h2, h3⟩ := of_decide_eq_true hz
      cases rel_int re
      obtain ⟨p1, vs, rfl, e1, r1⟩ := at_lst sm rd (show dr S (.lst xs) = .lst xs from rfl)
      refine op_rep pins s σ H _ _ v u Q I rx ry ⟨p1, k, vs, rfl, rfl, e1, by omega, by omega, ?_, fun p hp => ?_⟩
      · have h4 : k.toNat ≤ 100 := by omega
        have h5 : xs.length * k.toNat ≤ 1000 * 100 := Nat.mul_le_mul h3 h4
        rw [r1.length]
        exact Nat.le_trans h5 (by decide)
      · obtain ⟨x2, s2⟩ := sm.frozen (o := .lst (List.replicate k.toNat vs).flatten) hp
        exact q _ _ _ _ x2 s2 (.lst upd_same (RelAll.mono x2 (rel_rep r1 _)))
    · cases ho
  · cases ho
/-! ### items and slices -/
def opIx : D → D → Store → Option D := fun d e S => match dr S d, e with
  | .lst xs, .int i => atI xs i
  | .tup xs, .int i => atI xs i
  | .str z, .int i => if sz z.length then (atI z.cps.toList i).map fun c => .str ⟨#[c]⟩ else none
  | _, _ => none
theorem ix_any : IxR X (rO X.K X.mg (RV' X.K) opIx) := by
  intro value slice pins s σ H x y v u Q I rx ry h hs
  obtain ⟨F, ι, S, d, e, a, sm, rd, re, ho, q⟩ := h
  unfold opIx at ho
  split at ho
  · next xs i h1 =>
    cases rel_int re
    obtain ⟨p1, vs, rfl, e1, r1⟩ := at_lst sm rd h1
    obtain ⟨z, hz, rz⟩ := rel_at r1 ho
    exact ix_list value slice pins s σ H _ _ v u Q I rx ry ⟨p1, vs, i, z, rfl, rfl, SqL.of e1, hz, q F ι _ H (Step.refl _ _ _) sm rz⟩ hs
  · next xs i h1 =>
    cases rel_int re
    obtain ⟨p1, vs, rfl, e1, f1, r1, _⟩ := at_tup sm rd h1
    obtain ⟨z, hz, rz⟩ := rel_at r1 ho
    exact ix_tup value slice pins s σ H _ _ v u Q I rx ry ⟨p1, vs, i, z, rfl, rfl, SqT.of e1, hz, q F ι _ H (Step.refl _ _ _) sm rz⟩ hs
  · next z i h1 =>
    split at ho
    · next hz =>
      cases rel_int re
      obtain ⟨rfl, rfl⟩ := at_str rd h1
      obtain ⟨c, hc, rfl⟩ := Option.map_eq_some_iff.mp ho
      exact ix_str value slice pins s σ H _ _ v u Q I rx ry ⟨z, i, c, rfl, rfl, sz_le hz, hc, q F ι _ H (Step.refl _ _ _) sm (.str _)⟩ hs
    · cases ho
  · cases ho
variable {W : WX} {a b e : Expr} {f g : SemE} {pos p2 : Pos}
theorem xe_ix (ha : XE X W a f) (hb : XE X W b g) (hs : PlainIx b) : XE X W (.Subscript a b pos) (eBin opIx f g) := peI (pe_ix ix_any ha hb hs) fun _ _ _ h => tG_bin h
/-- a part of a slice -/
abbrev SemO := Env → Store → Out (Option Int)
abbrev XO (X : Cx) (W : WX) (e : Option Expr) (f : SemO) : Prop := PO X e (tG ⟨X.K, X.mg, W⟩ RO' f)
def oNone : SemO := fun _ S => .ok none S
def asI : D → Store → Out (Option Int)
  | .int i, S => .ok (some i) S
  | _, _ => .stuck
def oSome (f : SemE) : SemO := fun ρ S => (f ρ S).bind asI
theorem poI {e : Option Expr} {t t' : TO} (h : PO X e t) (i : ∀ σ H Q, t' σ H Q → t σ H Q) : PO X e t' := ⟨fun pins s σ H Q I q => h.run pins s σ H Q I (i _ _ _ q)⟩
theorem xo_none : XO X W none oNone := poI po_none fun σ H Q ⟨F, ι, ρ, S, s, r, q⟩ => q F ι none H (Step.refl _ _ _) s rfl
theorem xo_some (ha : XE X W a f) : XO X W (some a) (oSome f) := poI (po_some ha) fun σ H Q ⟨F, ι, ρ, S, s, r, q⟩ => by
  refine ⟨F, ι, ρ, S, s, r, post_bind (R := RV' X.K) q fun x S1 F1 ι1 v H1 x1 s1 rv q1 => ?_⟩
  cases x with
  | int i => exact ⟨i, rel_int rv, q1 F1 ι1 (some i) H1 (Step.refl _ _ _) s1 rfl⟩
  | _ => exact q1.elim
def opSl : D → Option Int → Option Int → Store → Option D := fun d lo hi S => match dr S d with
  | .tup xs => some (.tup (cutD xs lo hi))
  | .str z => if sz z.length then some (.str (cutS z lo hi)) else none
  | .lst xs => some (.lst (cutD xs lo hi))
  | .scr xs => some (.lst (cutD xs lo hi))
  | _ => none
def opSlL : D → Option Int → Option Int → Store → Option (List D) := fun d lo hi S => match dr S d with
  | .lst xs => some (cutD xs lo hi)
  | .scr xs => some (cutD xs lo hi)
  | _ => none
def rS {α : Type} (K : PySem.W.Frag) (mg : Str → Option Value) (R : Hp → Hp → List Addr → Hp → V → α → Prop) (op : D → Option Int → Option Int → Store → Option α) : V → Option Int → Option Int → Hp → VK → Prop := fun x lo hi H Q =>
  ∃ F ι S d a, Sim K mg F ι S H ∧ Rel K F ι x d ∧ op d lo hi S = some a ∧ ∀ F' ι' v H', Step F ι H F' ι' H' → Sim K mg F' ι' S H' → R H F' ι' H' v a → Q v H'
def eSl {α : Type} (op : D → Option Int → Option Int → Store → Option α) (f : SemE) (l h : SemO) : Env → Store → Out α := fun ρ S => (f ρ S).bind fun x S1 => (l ρ S1).bind fun lo S2 => (h ρ S2).bind fun hi S3 => lift (op x lo hi S3) S3
theorem tG_sl {α : Type} {R : Hp → Hp → List Addr → Hp → V → α → Prop} {p : Pl} {op : D → Option Int → Option Int → Store → Option α} {l h : SemO} {σ : L2.St} {H : Hp} {Q : VK} (hh : tG p R (eSl op f l h) σ H Q) (hR : Stays R := by first | exact stV | exact stT | exact stA | exact stL | assumption) :
    tSl (rS p.K p.mg R op) (tE p f) (tG p RO' l) (tG p RO' h) σ H Q := by
  obtain ⟨F, ι, ρ, S, s, r, q⟩ := hh
  refine ⟨F, ι, ρ, S, s, r, post_bind (R := RV' p.K) q fun x S1 F1 ι1 v H1 x1 s1 rv q1 => ?_⟩
  refine ⟨F1, ι1, ρ, S1, s1, r.mono x1, post_bind (R := RO') q1 fun y S2 F2 ι2 u H2 x2 s2 ru q2 => ?_⟩
  refine ⟨F2, ι2, ρ, S2, s2, r.mono (x1.trans x2), post_bind (R := RO') q2 fun z S3 F3 ι3 w H3 x3 s3 rw' q3 => ?_⟩
  obtain ⟨k, hk, q4⟩ := post_lift q3
  cases (show u = y from ru)
  cases (show w = z from rw')
  exact ⟨F3, ι3, S3, x, k, s3, Rel.mono (x2.trans x3) rv, hk, q4⟩
theorem cutV_whole {vs : List V} {lo hi : Option Int} (h : HT.sIx vs.length 0 lo = 0 ∧ HT.sIx vs.length vs.length hi = vs.length) : cutV vs lo hi = vs := by
  unfold cutV
  rw [h.1, h.2, List.drop_zero, Nat.sub_zero, List.take_length]
theorem cutD_whole {vs : List D} {lo hi : Option Int} (h : HT.sIx vs.length 0 lo = 0 ∧ HT.sIx vs.length vs.length hi = vs.length) : cutD vs lo hi = vs := by
  unfold cutD
  rw [h.1, h.2, List.drop_zero, Nat.sub_zero, List.take_length]
theorem slx : SlR X (rS X.K X.mg (RV' X.K) opSl) := by
  intro pins s σ H x v vl vu lo hi sl Q I rx hs pl pu h
  obtain ⟨F, ι, S, d, a, sm, rd, ho, q⟩ := h
  unfold opSl at ho
  split at ho
  · next xs h1 =>
    cases ho
    obtain ⟨p1, vs, rfl, e1, f1, r1, rfl⟩ := at_tup sm rd h1
    refine sl_tupA pins s σ H _ v vl vu lo hi sl Q I rx hs pl pu ⟨p1, vs, rfl, SqT.of e1, fun hw => ?_, fun hw p hp => ?_⟩
    · rw [r1.length] at hw
      rw [cutD_whole hw] at q
      exact q F ι _ H (Step.refl _ _ _) sm rd
    · obtain ⟨x2, s2⟩ := sm.frozen (o := .tup (cutV vs lo hi)) hp
      exact q _ _ _ _ x2 s2 (.tup upd_same (RelAll.mono x2 (rel_cut r1 lo hi)))
  · next z h1 =>
    split at ho
    · next hz =>
      cases ho
      obtain ⟨rfl, rfl⟩ := at_str rd h1
      exact sl_str pins s σ H _ v vl vu lo hi sl Q I rx hs pl pu ⟨z, rfl, sz_le hz, q F ι _ H (Step.refl _ _ _) sm (.str _)⟩
    · cases ho
  · next xs h1 =>
    cases ho
    obtain ⟨p1, vs, rfl, e1, r1⟩ := at_lst sm rd h1
    refine sl_list pins s σ H _ v vl vu lo hi sl Q I rx hs pl pu ⟨p1, vs, rfl, SqL.of e1, fun p hp => ?_⟩
    obtain ⟨x2, s2⟩ := sm.frozen (o := .lst (cutV vs lo hi)) hp
    exact q _ _ _ _ x2 s2 (.lst upd_same (RelAll.mono x2 (rel_cut r1 lo hi)))
  · next xs h1 =>
    cases ho
    obtain ⟨p1, vs, rfl, e1, r1⟩ := at_scr sm rd h1
    refine sl_list pins s σ H _ v vl vu lo hi sl Q I rx hs pl pu ⟨p1, vs, rfl, e1, fun p hp => ?_⟩
    obtain ⟨x2, s2⟩ := sm.frozen (o := .lst (cutV vs lo hi)) hp
    exact q _ _ _ _ x2 s2 (.lst upd_same (RelAll.mono x2 (rel_cut r1 lo hi)))
  · cases ho
theorem xe_sl {lo hi : Option Expr} {l h : SemO} (he : XE X W e f) (hl : XO X W lo l) (hu : XO X W hi h) : XE X W (.Subscript e (.Slice lo hi none p2) pos) (eSl opSl f l h) := peI (pe_slice slx he hl hu) fun _ _ _ h => tG_sl h
theorem slxl : SlR X (rS X.K X.mg (RL' X.K) opSlL) := by
  intro pins s σ H x v vl vu lo hi sl Q I rx hs pl pu h
  obtain ⟨F, ι, S, d, a, sm, rd, ho, q⟩ := h
  unfold opSlL at ho
  split at ho
  · next xs h1 =>
    cases ho
    obtain ⟨p1, vs, rfl, e1, r1⟩ := at_lst sm rd h1
    refine sl_list pins s σ H _ v vl vu lo hi sl Q I rx hs pl pu ⟨p1, vs, rfl, SqL.of e1, fun p hp => ?_⟩
    obtain ⟨hf, hi'⟩ := sm.fresh hp
    exact q _ _ _ _ (sm.loose hp).1 (sm.loose hp).2 ⟨p, _, rfl, hp, upd_same, hf, hi', rel_cut r1 lo hi⟩
  · next xs h1 =>
    cases ho
    obtain ⟨p1, vs, rfl, e1, r1⟩ := at_scr sm rd h1
    refine sl_list pins s σ H _ v vl vu lo hi sl Q I rx hs pl pu ⟨p1, vs, rfl, e1, fun p hp => ?_⟩
    obtain ⟨hf, hi'⟩ := sm.fresh hp
    exact q _ _ _ _ (sm.loose hp).1 (sm.loose hp).2 ⟨p, _, rfl, hp, upd_same, hf, hi', rel_cut r1 lo hi⟩
  · cases ho
theorem xl_sl {lo hi : Option Expr} {l h : SemO} (he : XE X W e f) (hl : XO X W lo l) (hu : XO X W hi h) : XL X W (.Subscript e (.Slice lo hi none p2) pos) (eSl opSlL f l h) := peI (pe_slice slxl he hl hu) fun _ _ _ h => tG_sl h
/-! ### chains -/
theorem tE_chain {p : Pl} {op op' : D → D → Store → Option D} {h : SemE} {σ : L2.St} {H : Hp} {Q : VK} (hh : tE p (eChain op op' f g h) σ H Q) :
    tChain (rO p.K p.mg (RV' p.K) op) (rO p.K p.mg (RV' p.K) op') (tE p f) (tE p g) (tE p h) σ H Q := by
  obtain ⟨F, ι, ρ, S, s, r, q⟩ := hh
  refine ⟨F, ι, ρ, S, s, r, post_bind (R := RV' p.K) q fun x S1 F1 ι1 v H1 x1 s1 rv q1 => ?_⟩
  refine ⟨F1, ι1, ρ, S1, s1, r.mono x1, post_bind (R := RV' p.K) q1 fun y S2 F2 ι2 u H2 x2 s2 ru q2 => ?_⟩
  cases hz : op x y S2 with
  | none => rw [hz] at q2; exact q2.elim
  | some z =>
    rw [hz] at q2
    cases z with
    | bl k =>
      refine ⟨F2, ι2, S2, x, y, .bl k, s2, Rel.mono x2 rv, ru, hz, fun F3 ι3 w H3 x3 s3 r3 => ?_⟩
      cases rel_bl r3
      refine ⟨k, rfl, ?_⟩
      have q3 := Post.ext x3 q2 stV
      cases k with
      | false => exact q3 F3 ι3 (.bl false) H3 (Step.refl _ _ _) s3 (.bl false)
      | true =>
        refine ⟨F3, ι3, ρ, S2, s3, r.mono ((x1.trans x2).trans x3), post_bind (R := RV' p.K) q3 fun z S4 F4 ι4 w H4 x4 s4 r4 q4 => ?_⟩
        obtain ⟨k, hk, q5⟩ := post_lift q4
        exact ⟨F4, ι4, S4, y, z, k, s4, Rel.mono (x3.trans x4) ru, r4, hk, q5⟩
    | _ => exact q2.elim
theorem xe_chain {o o' : CmpOp} {op op' : D → D → Store → Option D} {c : Expr} {h : SemE} (ho : OpX X (compareOp o) op) (ho' : OpX X (compareOp o') op') (ha : XE X W a f) (hb : XE X W b g) (hc : XE X W c h)
    (hm : lastMarks [o, o'] [b, c] = false := by with_unfolding_all rfl) : XE X W (.Compare a [o, o'] [b, c] pos) (eChain op op' f g h) := peI (pe_chain ho ho' ha hb hc hm) fun _ _ _ h => tE_chain h
theorem xt_chain {o o' : CmpOp} {op op' : D → D → Store → Option D} {c : Expr} {h : SemE} (ho : OpX X (compareOp o) op) (ho' : OpX X (compareOp o') op') (ha : XE X W a f) (hb : XE X W b g) (hc : XE X W c h)
    (hm : lastMarks [o, o'] [b, c] = false := by with_unfolding_all rfl) : XT X W (.Compare a [o, o'] [b, c] pos) (tOfE (eChain op op' f g h)) := ptI (pt_chain ho ho' ha hb hc hm) fun _ H Q h => tE_chain (Q := fun x H1 => ∃ c, x = .bl c ∧ Q c H1) (tT_of h)
end
end Fk

set_option Elab.async false
set_option linter.all false
set_option maxRecDepth 100000
namespace Fk
open PySem PySem.Spec PyProof.Rows L2
/-! ### data without cells -/
def keyD : Key → PyData
  | .inl i => .int i
  | .inr x => .str x
mutual
def dat : D → Option PyData
  | .non => some .none
  | .bl b => some (.bool b)
  | .int i => some (.int i)
  | .str x => some (.str x)
  | .tup xs => (datAll xs).map .tuple
  | .lst xs => (datAll xs).map .list
  | .scr xs => (datAll xs).map .list
  | .dct kvs => (datKV kvs).map .dict
  | .ref _ => none
  | .exn _ _ _ => none
def datAll : List D → Option (List PyData)
  | [] => some []
  | d :: ds => (dat d).bind fun x => (datAll ds).map (x :: ·)
def datKV : List (Key × D) → Option (List (PyData × PyData))
  | [] => some []
  | (k, d) :: ds => (dat d).bind fun x => (datKV ds).map ((keyD k, x) :: ·)
end
/-- a list of the written part -/
def K0 (X : Cx) (b : Addr) : Prop := ∃ o, X.K.lookup b = some o ∧ o.cls = .type "list"
section
variable {X : Cx} {pins : List (Addr × Obj)} {σ : L2.St} {H : Hp} {s : Shared} {F : Hp} {ι : List Addr}
theorem reads_keys {P : Program} {w : World} {h : Heap} : ∀ {es : List DictEntry} {vs : List (Key × Value)}, Pairs (mixKind P w) es vs → ReadsAll h (es.map (·.key)) (vs.map fun q => keyD q.1) [] := by
  intro es vs hp
  induction hp with
  | nil => exact .nil
  | @cons e k es vs h1 _ h2 ih =>
    refine ReadsAll.cons (as := []) (bs := []) ?_ ih
    have h1' : keyIs k.1 e.key = true := h1
    rcases keyIs_shape h1' with ⟨i, t, hk, hv⟩ | ⟨x, t, hk, hv⟩
    · show Reads h e.key (keyD k.1) []
      rw [hv, hk]
      exact Reads.int i t
    · show Reads h e.key (keyD k.1) []
      rw [hv, hk]
      exact Reads.str x t
theorem pairs_vals {P : Program} {w : World} : ∀ {es : List DictEntry} {vs : List (Key × Value)}, Pairs (mixKind P w) es vs → es.map (·.val) = vs.map (·.2) := by
  intro es vs hp
  induction hp with
  | nil => rfl
  | @cons e k es vs _ h1 h2 ih => rw [List.map_cons, List.map_cons, h1, ih]
theorem kv_vals {kvs : List (Key × V)} {vs : List (Key × Value)} (h : KV kvs vs) : kvs.map (·.1) = vs.map (·.1) ∧ Vals (kvs.map (·.2)) (vs.map (·.2)) := by
  unfold KV at h
  induction h with
  | nil => exact ⟨rfl, .nil⟩
  | @cons p q l1 l2 h1 h2 ih => exact ⟨by rw [List.map_cons, List.map_cons, h1.1, ih.1], .cons h1.2 ih.2⟩
theorem datKV_split : ∀ {kds : List (Key × D)} {ps : List (PyData × PyData)}, datKV kds = some ps → ps.map (·.1) = kds.map (fun q => keyD q.1) ∧ datAll (kds.map (·.2)) = some (ps.map (·.2))
  | [], _, h => by
    simp only [datKV, Option.some.injEq] at h
    subst h
    exact ⟨rfl, by simp [datAll]⟩
  | (k, d) :: r, ps, h => by
    simp only [datKV, Option.bind_eq_some_iff, Option.map_eq_some_iff] at h
    obtain ⟨x, hx, qs, hq, rfl⟩ := h
    obtain ⟨h1, h2⟩ := datKV_split hq
    refine ⟨by rw [List.map_cons, List.map_cons, h1], ?_⟩
    rw [List.map_cons, List.map_cons, datAll, hx, h2]
    rfl
mutual
theorem reads_of (I : Inv X pins σ H s) (sub : Same F H) : ∀ {d : D} {v : V} {u : Value} {y : PyData}, Rel X.K F ι v d → RelV v u → dat d = some y → ∃ as, Reads s.heap u y as ∧ ∀ b ∈ as, ∃ o, H b = some o ∨ K0 X b
  | _, _, _, _, .non, r, h => by
    simp only [dat, Option.some.injEq] at h
    subst h
    cases r
    exact ⟨_, Reads.none, by simp⟩
  | _, _, _, _, .bl b, r, h => by
    simp only [dat, Option.some.injEq] at h
    subst h
    cases r
    exact ⟨_, Reads.bool b, by simp⟩
  | _, _, _, _, .int i, r, h => by
    simp only [dat, Option.some.injEq] at h
    subst h
    obtain ⟨t, rfl⟩ := r
    exact ⟨_, Reads.int i t, by simp⟩
  | _, _, _, _, .str x, r, h => by
    simp only [dat, Option.some.injEq] at h
    subst h
    obtain ⟨t, rfl⟩ := r
    exact ⟨_, Reads.str x t, by simp⟩
  | _, _, _, _, .exn0 _ _, r, h => by simp [dat] at h
  | _, _, _, _, .exn _ _ _ _ _, r, h => by simp [dat] at h
  | _, _, _, _, .tup hs ha, r, h => by
    simp only [dat, Option.map_eq_some_iff] at h
    obtain ⟨ys, h, rfl⟩ := h
    cases r
    obtain ⟨its, rv, ⟨o, ho, hc, n, hd⟩, _⟩ := I.tuple (SqT.of (sub _ _ hs))
    obtain ⟨as, hr, hb⟩ := reads_all I sub ha rv h
    exact ⟨_, Reads.tuple ho hc hd hr, hb⟩
  | _, _, _, _, .lst (a := a) hs ha, r, h => by
    simp only [dat, Option.map_eq_some_iff] at h
    obtain ⟨ys, h, rfl⟩ := h
    cases r
    obtain ⟨its, rv, ⟨o, n, ho, hc, _, hd⟩, _⟩ := I.list (SqL.of (sub _ _ hs))
    obtain ⟨as, hr, hb⟩ := reads_all I sub ha rv h
    refine ⟨_, Reads.list ho hc hd hr, fun b hm => ?_⟩
    rcases List.mem_cons.mp hm with rfl | hm
    · exact ⟨_, .inl (sub _ _ hs)⟩
    · exact hb b hm
  | _, _, _, _, .scr (a := a) hs ha, r, h => by
    simp only [dat, Option.map_eq_some_iff] at h
    obtain ⟨ys, h, rfl⟩ := h
    cases r
    obtain ⟨its, rv, ⟨o, n, ho, hc, _, hd⟩, _⟩ := I.list (sub.seq hs)
    obtain ⟨as, hr, hb⟩ := reads_all I sub ha rv h
    refine ⟨_, Reads.list ho hc hd hr, fun b hm => ?_⟩
    rcases List.mem_cons.mp hm with rfl | hm
    · rcases sub.seq hs with (z | ⟨o, z⟩) | ⟨o, its, n, z, zc, _⟩
      · exact ⟨_, .inl z⟩
      · exact ⟨_, .inl z⟩
      · exact ⟨.lst [], .inr ⟨o, z, zc⟩⟩
    · exact hb b hm
  | _, _, _, _, .dct (a := a) (kvs := kvs) (kds := kds) hs hk ha, r, h => by
    simp only [dat, Option.map_eq_some_iff] at h
    obtain ⟨ys, h, rfl⟩ := h
    cases r
    obtain ⟨_, hsm, vs, hkv, o, es, ep, ho, hx, hd, _, hp, _⟩ := (show ObjOk X.prog X.w H s.heap a (.dK kvs) from I.hok a _ (sub _ _ hs))
    obtain ⟨k1, k2⟩ := kv_vals hkv
    obtain ⟨d1, d2⟩ := datKV_split h
    obtain ⟨as, hr, hb⟩ := reads_all I sub ha k2 d2
    have rk := reads_keys (h := s.heap) hp
    have e1 : (vs.map fun q => keyD q.1) = ys.map (·.1) := by
      rw [d1]
      have e2 : vs.map (·.1) = kds.map (·.1) := k1.symm.trans hk
      have e3 := congrArg (List.map keyD) e2
      rw [List.map_map, List.map_map] at e3
      exact e3
    rw [e1] at rk
    rw [← pairs_vals hp] at hr
    refine ⟨_, Reads.dict ho hx.1 hd rk hr, fun b hm => ?_⟩
    rw [List.cons_append, List.nil_append] at hm
    rcases List.mem_cons.mp hm with rfl | hm
    · exact ⟨_, .inl (sub _ _ hs)⟩
    · exact hb b hm
  | _, _, _, _, .ref _, _, h => by simp [dat] at h
theorem reads_all (I : Inv X pins σ H s) (sub : Same F H) : ∀ {ds : List D} {vs : List V} {us : List Value} {ys : List PyData}, RelAll X.K F ι vs ds → Vals vs us → datAll ds = some ys → ∃ as, ReadsAll s.heap us ys as ∧ ∀ b ∈ as, ∃ o, H b = some o ∨ K0 X b
  | _, _, _, _, .nil, r, h => by
    simp only [datAll, Option.some.injEq] at h
    subst h
    cases r
    exact ⟨_, ReadsAll.nil, by simp⟩
  | _, _, _, _, .cons h1 h2, r, h => by
    simp only [datAll, Option.bind_eq_some_iff, Option.map_eq_some_iff] at h
    obtain ⟨x, hx, qs, hq, rfl⟩ := h
    cases r with
    | cons r1 r2 =>
      obtain ⟨as, q1, b1⟩ := reads_of I sub h1 r1 hx
      obtain ⟨bs, q2, b2⟩ := reads_all I sub h2 r2 hq
      refine ⟨_, ReadsAll.cons q1 q2, fun b hm => ?_⟩
      rcases List.mem_append.mp hm with hm | hm
      · exact b1 b hm
      · exact b2 b hm
end
end

/-! ### the top of a value may be a cell -/
theorem reads_dr {X : Cx} {pins : List (Addr × Obj)} {σ : L2.St} {H : Hp} {s : Shared} {F : Hp} {ι : List Addr} {S : Store} (I : Inv X pins σ H s) (sm : Sim X.K X.mg F ι S H) {d : D} {v : V} {u : Value} {y : PyData} (rd : Rel X.K F ι v d) (r : RelV v u) (h : dat (dr S d) = some y) :
    ∃ as, Reads s.heap u y as ∧ ∀ b ∈ as, ∃ o, H b = some o ∨ K0 X b := by
  by_cases hn : ∃ n, d = .ref n
  · obtain ⟨n, rfl⟩ := hn
    have hz : dr S (.ref n) = dr S (.ref n) := rfl
    cases e : dr S (.ref n) with
    | lst ds =>
      obtain ⟨a, vs, rfl, ha, ra⟩ := at_lst sm rd e
      rw [e] at h
      simp only [dat, Option.map_eq_some_iff] at h
      obtain ⟨ys, h, rfl⟩ := h
      cases r
      obtain ⟨its, rv, ⟨o, m, ho, hc, _, hd⟩, _⟩ := I.list (SqL.of ha)
      obtain ⟨as, hr, hb⟩ := reads_all I sm.sub ra rv h
      refine ⟨_, Reads.list ho hc hd hr, fun b hm => ?_⟩
      rcases List.mem_cons.mp hm with rfl | hm
      · exact ⟨_, .inl ha⟩
      · exact hb b hm
    | dct kds =>
      obtain ⟨a, kvs, rfl, ha, ra⟩ := at_dct sm rd e
      rw [e] at h
      simp only [dat, Option.map_eq_some_iff] at h
      obtain ⟨ys, h, rfl⟩ := h
      cases r
      obtain ⟨_, hsm, vs, hkv, o, es, ep, ho, hx, hd, _, hp, _⟩ := (show ObjOk X.prog X.w H s.heap a (.dK kvs) from I.hok a _ ha)
      obtain ⟨k1, k2⟩ := kv_vals hkv
      obtain ⟨d1, d2⟩ := datKV_split h
      obtain ⟨as, hr, hb⟩ := reads_all I sm.sub ra.vs k2 d2
      have rk := reads_keys (h := s.heap) hp
      have e1 : (vs.map fun q => keyD q.1) = ys.map (·.1) := by
        rw [d1]
        have e2 : vs.map (·.1) = kds.map (·.1) := k1.symm.trans ra.ks
        have e3 := congrArg (List.map keyD) e2
        rw [List.map_map, List.map_map] at e3
        exact e3
      rw [e1] at rk
      rw [← pairs_vals hp] at hr
      refine ⟨_, Reads.dict ho hx.1 hd rk hr, fun b hm => ?_⟩
      rw [List.cons_append, List.nil_append] at hm
      rcases List.mem_cons.mp hm with rfl | hm
      · exact ⟨_, .inl ha⟩
      · exact hb b hm
    | ref m => rw [e] at h; simp [dat] at h
    | _ => rcases drc_no e with ⟨_, z⟩ | ⟨_, z⟩ | z <;> cases z
  · have e : dr S d = d := by
      cases d with
      | ref n => exact absurd ⟨n, rfl⟩ hn
      | _ => rfl
    rw [e] at h
    exact reads_of I sm.sub rd r h
/-! ### == and != -/
def eqD (d e : D) (S : Store) : Option Bool := match dr S d, dr S e with
  | .tup xs, .tup [] => some xs.isEmpty
  | x, y => (dat x).bind fun a => (dat y).bind fun b => if SeqAt.shaped a && SeqAt.shaped b then some (PyData.eqv a b) else none
def opEq : D → D → Store → Option D := fun d e S => (eqD d e S).map .bl
section
variable {X : Cx}
theorem ox_eq (hu : X.A.units + 64 < cLine) : OpX X (compareOp .Eq) opEq := by
  intro pins s σ H x y v u Q I rx ry h
  obtain ⟨F, ι, S, d, e, a, sm, rd, re, ho, q⟩ := h
  obtain ⟨b, hq, rfl⟩ := Option.map_eq_some_iff.mp ho
  clear ho
  unfold eqD at hq
  split at hq
  · next xs h1 h2 =>
    cases hq
    obtain ⟨p1, vs, rfl, e1, f1, r1, _⟩ := at_tup sm rd h1
    obtain ⟨p2, ws, rfl, e2, f2, r2, _⟩ := at_tup sm re h2
    cases r2
    cases rx
    cases ry
    obtain ⟨its, rv, t1, _⟩ := I.tuple (SqT.of e1)
    obtain ⟨its2, rv2, t2, _⟩ := I.tuple (SqT.of e2)
    cases rv2
    have hz := SeqAt.eq_tupleAt (prog := X.prog) (w := X.w) (A := X.A) (E := X.xe) (s := s) (Q := EP X pins σ Q) (l := p1) (b := p2) (items := its.toArray) (items2 := #[]) (e := fun _ => false)
    refine hz t1 t2 (by omega) (fun i h1 h2 => absurd h2 (by simp)) ?_
    have hl : xs.isEmpty = ((List.range (min its.toArray.size (#[] : Array Value).size)).all (fun _ => false) && its.toArray.size == (#[] : Array Value).size) := by
      cases r1 with
      | nil => cases rv; rfl
      | cons _ _ => cases rv; simp
    rw [← hl]
    exact ⟨.bl _, H, I, rfl, q F ι _ H (Step.refl _ _ _) sm (.bl _)⟩
  · simp only [Option.bind_eq_some_iff] at hq
    obtain ⟨da, h1, db, h2, hq⟩ := hq
    split at hq
    · next hz =>
      cases hq
      obtain ⟨z1, z2⟩ := Bool.and_eq_true_iff.mp hz
      obtain ⟨as, r1, _⟩ := reads_dr I sm rd rx h1
      obtain ⟨bs, r2, _⟩ := reads_dr I sm re ry h2
      exact SeqAt.compareEq_shaped r1 r2 z1 z2 hu ⟨.bl _, H, I, rfl, q F ι _ H (Step.refl _ _ _) sm (.bl _)⟩
    · cases hq
def neD (d e : D) (S : Store) : Option Bool := (dat (dr S d)).bind fun a => (dat (dr S e)).bind fun b => if SeqAt.shaped a && SeqAt.shaped b then some (PyData.eqv a b) else none
def opNe : D → D → Store → Option D := fun d e S => (neD d e S).map fun b => .bl (!b)
theorem ox_ne (hu : X.A.units + 64 < cLine) : OpX X (compareOp .NotEq) opNe := by
  intro pins s σ H x y v u Q I rx ry h
  obtain ⟨F, ι, S, d, e, a, sm, rd, re, ho, q⟩ := h
  obtain ⟨b, hq, rfl⟩ := Option.map_eq_some_iff.mp ho
  clear ho
  unfold neD at hq
  simp only [Option.bind_eq_some_iff] at hq
  obtain ⟨da, h1, db, h2, hq⟩ := hq
  split at hq
  · next hz =>
    cases hq
    obtain ⟨z1, z2⟩ := Bool.and_eq_true_iff.mp hz
    obtain ⟨as, r1, _⟩ := reads_dr I sm rd rx h1
    obtain ⟨bs, r2, _⟩ := reads_dr I sm re ry h2
    exact SeqAt.compareNe_shaped r1 r2 z1 z2 hu ⟨.bl _, H, I, rfl, q F ι _ H (Step.refl _ _ _) sm (.bl _)⟩
  · cases hq
/-! ### is None -/
def isNon : D → Bool
  | .non => true
  | _ => false
def opIsN : D → D → Store → Option D := fun d e _ => match e with
  | .non => some (.bl (isNon d))
  | _ => none
def opNotN : D → D → Store → Option D := fun d e _ => match e with
  | .non => some (.bl (!isNon d))
  | _ => none
theorem rel_isN {K : PySem.W.Frag} {F : Hp} {ι : List Addr} {x : V} {d : D} (r : Rel K F ι x d) : decide (x = .non) = isNon d := by
  cases r <;> rfl
theorem ox_isN : OpX X (compareOp .Is) opIsN := by
  intro pins s σ H x y v u Q I rx ry h
  obtain ⟨F, ι, S, d, e, a, sm, rd, re, ho, q⟩ := h
  unfold opIsN at ho
  split at ho
  · cases ho
    cases re
    refine op_isN pins s σ H _ _ v u Q I rx ry ⟨rfl, ?_⟩
    rw [rel_isN rd]
    exact q F ι _ H (Step.refl _ _ _) sm (.bl _)
  · cases ho
theorem ox_notN : OpX X (compareOp .IsNot) opNotN := by
  intro pins s σ H x y v u Q I rx ry h
  obtain ⟨F, ι, S, d, e, a, sm, rd, re, ho, q⟩ := h
  unfold opNotN at ho
  split at ho
  · cases ho
    cases re
    refine op_notN pins s σ H _ _ v u Q I rx ry ⟨rfl, ?_⟩
    rw [rel_isN rd]
    exact q F ι _ H (Step.refl _ _ _) sm (.bl _)
  · cases ho
/-! ### repr -/
def reprD : List D → Store → Option D
  | [d], S => (dat (dr S d)).bind fun y => if y.showable && decide (y.shown.length ≤ 16000000) && decide (y.depth ≤ 60) then some (.str y.shown) else none
  | _, _ => none
theorem long_le {n : Nat} (h : decide (n ≤ 16000000) = true) : n ≤ sizeLine := Nat.le_trans (of_decide_eq_true h) (by decide)
/-- what is known of sys.modules -/
def SM (X : Cx) : Prop := ∃ o, X.base.get? sysModules = some o ∧ o.cls ≠ .type "list"
theorem SM.out {pins : List (Addr × Obj)} {σ : L2.St} {H : Hp} {s : Shared} (h : SM X) (I : Inv X pins σ H s) {b : Addr} {o : HO} (hb : H b = some o ∨ K0 X b) : b ≠ sysModules := by
  obtain ⟨o', e, hc⟩ := h
  intro z
  subst z
  rcases hb with hb | ⟨o2, h2, c2⟩
  · rw [(I.bs _ _ e).2] at hb
    cases hb
  · have := I.ok.mod.kin _ _ h2
    rw [e] at this
    cases this
    exact hc c2
theorem cx_repr (hg : X.A.guards = some []) (hu : X.A.units + 64 < cLine) (hm : SM X) : CallX X (.builtin "repr") reprD := by
  intro pins s σ H xs us Q I r h
  obtain ⟨F, ι, S, ds, a, sm, rd, ho, q⟩ := h
  unfold reprD at ho
  split at ho
  · next d =>
    simp only [Option.bind_eq_some_iff] at ho
    obtain ⟨y, h1, ho⟩ := ho
    split at ho
    · next hz =>
      cases ho
      obtain ⟨hz, z3⟩ := Bool.and_eq_true_iff.mp hz
      obtain ⟨z1, z2⟩ := Bool.and_eq_true_iff.mp hz
      have z3 := of_decide_eq_true z3
      cases rd with
      | @cons v1 _ _ _ rd1 rd2 =>
        cases rd2
        obtain ⟨u1, rfl, ru⟩ := vals1 r
        obtain ⟨as, rr, hb⟩ := reads_dr I sm rd1 ru h1
        have fin : ∀ (h' : Heap) (t : Tok) (k : Nat), (∀ b o, s.heap.get? b = some o → h'.get? b = some o) → EP X pins σ Q (.str y.shown t) { s with heap := h', toks := k } := fun h' t k hk =>
          ⟨.str y.shown, H, I.kept hk, ⟨t, rfl⟩, q F ι _ H (Step.refl _ _ _) sm (.str _)⟩
        have hall : y.hasDict = true → sysModules ∉ as := fun _ hin => by
          obtain ⟨o, ho⟩ := hb _ hin
          exact hm.out I ho rfl
        cases rr with
        | none => exact PySem.P.repr_of_none (fin s.heap _ _ fun _ _ e => e)
        | bool b => exact PySem.P.repr_of_bool (by rw [PyData.shown_bool] at fin; exact fin s.heap _ _ fun _ _ e => e)
        | int i t =>
          have hi : i.natAbs.log2 < 1920 := by simpa [PyData.showable] using z1
          exact PySem.P.repr_of_int hi (fin s.heap _ _ fun _ _ e => e)
        | str x t => exact PySem.P.repr_of_str (fin s.heap _ _ fun _ _ e => e) (by rw [PyData.shown_str] at z2; exact long_le z2)
        | list a1 a2 a3 a4 => exact repr_of_reads' (Reads.list a1 a2 a3 a4) z1 hall hg (by omega) (fun b o e => e) (fun h' u tk hk => fin h' u tk hk) (long_le z2)
        | tuple a1 a2 a3 a4 => exact repr_of_reads' (Reads.tuple a1 a2 a3 a4) z1 hall hg (by omega) (fun b o e => e) (fun h' u tk hk => fin h' u tk hk) (long_le z2)
        | dict a1 a2 a3 a4 a5 => exact repr_of_reads' (Reads.dict a1 a2 a3 a4 a5) z1 hall hg (by omega) (fun b o e => e) (fun h' u tk hk => fin h' u tk hk) (long_le z2)
    · cases ho
  · cases ho
end
end Fk

set_option Elab.async false
set_option linter.all false
set_option maxRecDepth 100000
namespace Fk
open PySem PySem.Spec PyProof.Rows L2
/-! ### built-in functions and classes -/
def lenD : List D → Store → Option D
  | [d], S => match dr S d with
    | .lst xs => some (.int xs.length)
    | .tup xs => some (.int xs.length)
    | .scr xs => some (.int xs.length)
    | .str x => if sz x.length then some (.int x.length) else none
    | .dct kvs => some (.int kvs.length)
    | _ => none
  | _, _ => none
def absD : List D → Store → Option D
  | [.int i], _ => some (.int (if i < 0 then -i else i))
  | _, _ => none
def intD : List D → Store → Option D
  | [.int i], _ => some (.int i)
  | [.bl b], _ => some (.int (if b then 1 else 0))
  | _, _ => none
def boolD : List D → Store → Option D
  | [.int i], _ => some (.bl (i != 0))
  | [.bl b], _ => some (.bl b)
  | _, _ => none
def strD : List D → Store → Option D
  | [.int i], _ => if decide (i.natAbs.log2 < 1920) then some (.str (toString i : String)) else none
  | _, _ => none
def listOf (S : Store) (d : D) : Option (List D) := match dr S d with
  | .lst xs => some xs
  | .scr xs => some xs
  | _ => none
def sumD : List D → Store → Option D
  | [d], S => match dr S d with
    | .lst xs => (asInts xs).map fun ns => .int ns.sum
    | _ => none
  | _, _ => none
def maxL : List Int → Int
  | [] => 0
  | [x] => x
  | x :: y :: r => if maxL (y :: r) > x then maxL (y :: r) else x
def minL : List Int → Int
  | [] => 0
  | [x] => x
  | x :: y :: r => if minL (y :: r) < x then minL (y :: r) else x
theorem maxL_mem : ∀ {xs : List Int}, xs ≠ [] → maxL xs ∈ xs
  | [], h => absurd rfl h
  | [x], _ => by simp [maxL]
  | x :: y :: r, _ => by
    rw [maxL]
    split
    · exact List.mem_cons_of_mem _ (maxL_mem (by simp))
    · exact List.mem_cons_self
theorem maxL_le : ∀ {xs : List Int} {z : Int}, z ∈ xs → z ≤ maxL xs
  | [x], z, h => by simp at h; simp [maxL, h]
  | x :: y :: r, z, h => by
    rw [maxL]
    rcases List.mem_cons.mp h with rfl | h
    · split <;> omega
    · have := maxL_le (xs := y :: r) h
      split <;> omega
theorem minL_mem : ∀ {xs : List Int}, xs ≠ [] → minL xs ∈ xs
  | [], h => absurd rfl h
  | [x], _ => by simp [minL]
  | x :: y :: r, _ => by
    rw [minL]
    split
    · exact List.mem_cons_of_mem _ (minL_mem (by simp))
    · exact List.mem_cons_self
theorem minL_le : ∀ {xs : List Int} {z : Int}, z ∈ xs → minL xs ≤ z
  | [x], z, h => by simp at h; simp [minL, h]
  | x :: y :: r, z, h => by
    rw [minL]
    rcases List.mem_cons.mp h with rfl | h
    · split <;> omega
    · have := minL_le (xs := y :: r) h
      split <;> omega
theorem maxL_unique {xs : List Int} {m : Int} (h : m ∈ xs) (hm : ∀ y ∈ xs, y ≤ m) : m = maxL xs := by
  have h1 := maxL_le h
  have h2 := hm _ (maxL_mem (List.ne_nil_of_mem h))
  omega
theorem minL_unique {xs : List Int} {m : Int} (h : m ∈ xs) (hm : ∀ y ∈ xs, m ≤ y) : m = minL xs := by
  have h1 := minL_le h
  have h2 := hm _ (minL_mem (List.ne_nil_of_mem h))
  omega
def maxD : List D → Store → Option D
  | [d], S => match dr S d with
    | .lst xs => (asInts xs).bind fun ns => if ns.isEmpty then none else some (.int (maxL ns))
    | _ => none
  | [.int i, .int j], _ => some (.int (if j > i then j else i))
  | _, _ => none
def minD : List D → Store → Option D
  | [d], S => match dr S d with
    | .lst xs => (asInts xs).bind fun ns => if ns.isEmpty then none else some (.int (minL ns))
    | _ => none
  | [.int i, .int j], _ => some (.int (if j < i then j else i))
  | _, _ => none
def allD : List D → Store → Option D
  | [d], S => match dr S d with
    | .lst xs => (asBls xs).map fun bs => .bl (bs.all id)
    | _ => none
  | _, _ => none
def anyD : List D → Store → Option D
  | [d], S => match dr S d with
    | .lst xs => (asBls xs).map fun bs => .bl (bs.any id)
    | _ => none
  | _, _ => none
def tupD : List D → Store → Option D
  | [d], S => match dr S d with
    | .lst xs => some (.tup xs)
    | .tup xs => some (.tup xs)
    | _ => none
  | _, _ => none
def lstD : List D → Store → Option (List D)
  | [d], S => match dr S d with
    | .lst xs => some xs
    | .tup xs => some xs
    | .scr xs => some xs
    | _ => none
  | _, _ => none
section
variable {X : Cx}
theorem rel1 {K : PySem.W.Frag} {F : Hp} {ι : List Addr} {xs : List V} {d : D} (r : RelAll K F ι xs [d]) : ∃ x, xs = [x] ∧ Rel K F ι x d := by
  cases r with
  | cons h t => cases t; exact ⟨_, rfl, h⟩
theorem rel2 {K : PySem.W.Frag} {F : Hp} {ι : List Addr} {xs : List V} {d e : D} (r : RelAll K F ι xs [d, e]) : ∃ x y, xs = [x, y] ∧ Rel K F ι x d ∧ Rel K F ι y e := by
  cases r with
  | cons h t =>
    obtain ⟨y, rfl, h2⟩ := rel1 t
    exact ⟨_, _, rfl, h, h2⟩
theorem cx_len : CallX X (.builtin "len") lenD := by
  intro pins s σ H xs us Q I r h
  obtain ⟨F, ι, S, ds, a, sm, rd, ho, q⟩ := h
  unfold lenD at ho
  split at ho
  · obtain ⟨x, rfl, rx⟩ := rel1 rd
    split at ho
    · next xs h1 =>
      cases ho
      obtain ⟨p, vs, rfl, e1, r1⟩ := at_lst sm rx h1
      refine call_len pins s σ H _ us Q I r ⟨_, vs.length, rfl, .inl ⟨vs, SqL.of e1, rfl⟩, ?_⟩
      rw [r1.length]
      exact q F ι _ H (Step.refl _ _ _) sm (.int _)
    · next xs h1 =>
      cases ho
      obtain ⟨p, vs, rfl, e1, _, r1, _⟩ := at_tup sm rx h1
      refine call_len pins s σ H _ us Q I r ⟨_, vs.length, rfl, .inr ⟨vs, SqT.of e1, rfl⟩, ?_⟩
      rw [r1.length]
      exact q F ι _ H (Step.refl _ _ _) sm (.int _)
    · next xs h1 =>
      cases ho
      obtain ⟨p, vs, rfl, e1, r1⟩ := at_scr sm rx h1
      refine call_len pins s σ H _ us Q I r ⟨_, vs.length, rfl, .inl ⟨vs, e1, rfl⟩, ?_⟩
      rw [r1.length]
      exact q F ι _ H (Step.refl _ _ _) sm (.int _)
    · next z h1 =>
      split at ho
      · next hz =>
        cases ho
        obtain ⟨rfl, _⟩ := at_str rx h1
        exact call_len pins s σ H _ us Q I r ⟨_, z.length, rfl, ⟨sz_le hz, rfl⟩, q F ι _ H (Step.refl _ _ _) sm (.int _)⟩
      · cases ho
    · next kvs h1 =>
      cases ho
      obtain ⟨p, vs, rfl, e1, r1⟩ := at_dct sm rx h1
      refine call_lenD pins s σ H _ us Q I r ⟨_, vs, rfl, e1, ?_⟩
      have hl : vs.length = kvs.length := by
        have := congrArg List.length r1.ks
        simpa using this
      rw [hl]
      exact q F ι _ H (Step.refl _ _ _) sm (.int _)
    · cases ho
  · cases ho
theorem cx_abs : CallX X (.builtin "abs") absD := by
  intro pins s σ H xs us Q I r h
  obtain ⟨F, ι, S, ds, a, sm, rd, ho, q⟩ := h
  unfold absD at ho
  split at ho
  · next i =>
    cases ho
    obtain ⟨x, rfl, rx⟩ := rel1 rd
    cases rel_int rx
    exact call_abs pins s σ H _ us Q I r ⟨i, rfl, q F ι _ H (Step.refl _ _ _) sm (.int _)⟩
  · cases ho
theorem cx_int : CallX X (.type "int") intD := by
  intro pins s σ H xs us Q I r h
  obtain ⟨F, ι, S, ds, a, sm, rd, ho, q⟩ := h
  unfold intD at ho
  split at ho
  · next i =>
    cases ho
    obtain ⟨x, rfl, rx⟩ := rel1 rd
    cases rel_int rx
    exact call_int1 pins s σ H _ us Q I r (.inl ⟨i, rfl, q F ι _ H (Step.refl _ _ _) sm (.int _)⟩)
  · next b =>
    cases ho
    obtain ⟨x, rfl, rx⟩ := rel1 rd
    cases rel_bl rx
    exact call_int1 pins s σ H _ us Q I r (.inr ⟨b, rfl, q F ι _ H (Step.refl _ _ _) sm (.int _)⟩)
  · cases ho
theorem cx_bool : CallX X (.type "bool") boolD := by
  intro pins s σ H xs us Q I r h
  obtain ⟨F, ι, S, ds, a, sm, rd, ho, q⟩ := h
  unfold boolD at ho
  split at ho
  · next i =>
    cases ho
    obtain ⟨x, rfl, rx⟩ := rel1 rd
    cases rel_int rx
    exact call_bool1 pins s σ H _ us Q I r (.inl ⟨i, rfl, q F ι _ H (Step.refl _ _ _) sm (.bl _)⟩)
  · next b =>
    cases ho
    obtain ⟨x, rfl, rx⟩ := rel1 rd
    cases rel_bl rx
    exact call_bool1 pins s σ H _ us Q I r (.inr ⟨b, rfl, q F ι _ H (Step.refl _ _ _) sm (.bl _)⟩)
  · cases ho
theorem cx_str : CallX X (.type "str") strD := by
  intro pins s σ H xs us Q I r h
  obtain ⟨F, ι, S, ds, a, sm, rd, ho, q⟩ := h
  unfold strD at ho
  split at ho
  · next i =>
    split at ho
    · next hz =>
      cases ho
      obtain ⟨x, rfl, rx⟩ := rel1 rd
      cases rel_int rx
      exact call_str_int pins s σ H _ us Q I r ⟨i, rfl, of_decide_eq_true hz, q F ι _ H (Step.refl _ _ _) sm (.str _)⟩
    · cases ho
  · cases ho
theorem cx_sum (hc : X.calm = true) : CallX X (.builtin "sum") sumD := by
  intro pins s σ H xs us Q I r h
  obtain ⟨F, ι, S, ds, a, sm, rd, ho, q⟩ := h
  unfold sumD at ho
  split at ho
  · obtain ⟨x, rfl, rx⟩ := rel1 rd
    split at ho
    · next xs h1 =>
      obtain ⟨ns, h2, rfl⟩ := Option.map_eq_some_iff.mp ho
      obtain ⟨p, vs, rfl, e1, r1⟩ := at_lst sm rx h1
      cases rel_ints r1 h2
      exact cr_sum hc pins s σ H _ us Q I r ⟨p, ns, rfl, SqL.of e1, q F ι _ H (Step.refl _ _ _) sm (.int _)⟩
    · cases ho
  · cases ho
theorem cx_max (hc : X.calm = true) : CallX X (.builtin "max") maxD := by
  intro pins s σ H xs us Q I r h
  obtain ⟨F, ι, S, ds, a, sm, rd, ho, q⟩ := h
  unfold maxD at ho
  split at ho
  · obtain ⟨x, rfl, rx⟩ := rel1 rd
    split at ho
    · next xs h1 =>
      obtain ⟨ns, h2, ho⟩ := Option.bind_eq_some_iff.mp ho
      split at ho
      · cases ho
      · next hz =>
        cases ho
        obtain ⟨p, vs, rfl, e1, r1⟩ := at_lst sm rx h1
        cases rel_ints r1 h2
        refine cr_max hc pins s σ H _ us Q I r ⟨p, ns, rfl, SqL.of e1, ?_, fun m h1 h2 => ?_⟩
        · cases ns with
          | nil => exact absurd rfl hz
          | cons _ _ => exact Nat.succ_pos _
        · rw [maxL_unique h1 h2]
          exact q F ι _ H (Step.refl _ _ _) sm (.int _)
    · cases ho
  · next i j =>
    cases ho
    obtain ⟨x, y, rfl, rx, ry⟩ := rel2 rd
    cases rel_int rx
    cases rel_int ry
    exact call_max2 hc pins s σ H _ us Q I r ⟨i, j, rfl, q F ι _ H (Step.refl _ _ _) sm (.int _)⟩
  · cases ho
theorem cx_min (hc : X.calm = true) : CallX X (.builtin "min") minD := by
  intro pins s σ H xs us Q I r h
  obtain ⟨F, ι, S, ds, a, sm, rd, ho, q⟩ := h
  unfold minD at ho
  split at ho
  · obtain ⟨x, rfl, rx⟩ := rel1 rd
    split at ho
    · next xs h1 =>
      obtain ⟨ns, h2, ho⟩ := Option.bind_eq_some_iff.mp ho
      split at ho
      · cases ho
      · next hz =>
        cases ho
        obtain ⟨p, vs, rfl, e1, r1⟩ := at_lst sm rx h1
        cases rel_ints r1 h2
        refine cr_min hc pins s σ H _ us Q I r ⟨p, ns, rfl, SqL.of e1, ?_, fun m h1 h2 => ?_⟩
        · cases ns with
          | nil => exact absurd rfl hz
          | cons _ _ => exact Nat.succ_pos _
        · rw [minL_unique h1 h2]
          exact q F ι _ H (Step.refl _ _ _) sm (.int _)
    · cases ho
  · next i j =>
    cases ho
    obtain ⟨x, y, rfl, rx, ry⟩ := rel2 rd
    cases rel_int rx
    cases rel_int ry
    exact call_min2 hc pins s σ H _ us Q I r ⟨i, j, rfl, q F ι _ H (Step.refl _ _ _) sm (.int _)⟩
  · cases ho
theorem cx_all (hc : X.calm = true) : CallX X (.builtin "all") allD := by
  intro pins s σ H xs us Q I r h
  obtain ⟨F, ι, S, ds, a, sm, rd, ho, q⟩ := h
  unfold allD at ho
  split at ho
  · obtain ⟨x, rfl, rx⟩ := rel1 rd
    split at ho
    · next xs h1 =>
      obtain ⟨ns, h2, rfl⟩ := Option.map_eq_some_iff.mp ho
      obtain ⟨p, vs, rfl, e1, r1⟩ := at_lst sm rx h1
      cases rel_bls r1 h2
      exact cr_all hc pins s σ H _ us Q I r ⟨p, ns, rfl, SqL.of e1, q F ι _ H (Step.refl _ _ _) sm (.bl _)⟩
    · cases ho
  · cases ho
theorem cx_any (hc : X.calm = true) : CallX X (.builtin "any") anyD := by
  intro pins s σ H xs us Q I r h
  obtain ⟨F, ι, S, ds, a, sm, rd, ho, q⟩ := h
  unfold anyD at ho
  split at ho
  · obtain ⟨x, rfl, rx⟩ := rel1 rd
    split at ho
    · next xs h1 =>
      obtain ⟨ns, h2, rfl⟩ := Option.map_eq_some_iff.mp ho
      obtain ⟨p, vs, rfl, e1, r1⟩ := at_lst sm rx h1
      cases rel_bls r1 h2
      exact cr_any hc pins s σ H _ us Q I r ⟨p, ns, rfl, SqL.of e1, q F ι _ H (Step.refl _ _ _) sm (.bl _)⟩
    · cases ho
  · cases ho
theorem cx_tup : CallX X (.type "tuple") tupD := by
  intro pins s σ H xs us Q I r h
  obtain ⟨F, ι, S, ds, a, sm, rd, ho, q⟩ := h
  unfold tupD at ho
  split at ho
  · obtain ⟨x, rfl, rx⟩ := rel1 rd
    split at ho
    · next xs h1 =>
      cases ho
      obtain ⟨p, vs, rfl, e1, r1⟩ := at_lst sm rx h1
      refine call_tuple_of pins s σ H _ us Q I r ⟨p, vs, rfl, .inl ⟨SqL.of e1, fun l hl => ?_⟩⟩
      obtain ⟨x2, s2⟩ := sm.frozen (o := .tup vs) hl
      exact q _ _ _ _ x2 s2 (.tup upd_same (RelAll.mono x2 r1))
    · next xs h1 =>
      cases ho
      obtain ⟨p, vs, rfl, e1, f1, r1, _⟩ := at_tup sm rx h1
      exact call_tuple_of pins s σ H _ us Q I r ⟨p, vs, rfl, .inr ⟨SqT.of e1, q F ι _ H (Step.refl _ _ _) sm (.tup f1 r1)⟩⟩
    · cases ho
  · cases ho
theorem cxl_list : CallXL X (.type "list") lstD := by
  intro pins s σ H xs us Q I r h
  obtain ⟨F, ι, S, ds, a, sm, rd, ho, q⟩ := h
  unfold lstD at ho
  split at ho
  · obtain ⟨x, rfl, rx⟩ := rel1 rd
    split at ho
    · next xs h1 =>
      cases ho
      obtain ⟨p, vs, rfl, e1, r1⟩ := at_lst sm rx h1
      refine call_list_of pins s σ H _ us Q I r ⟨p, vs, rfl, .inl (SqL.of e1), fun l hl => ?_⟩
      obtain ⟨hf, hi⟩ := sm.fresh hl
      exact q _ _ _ _ (sm.loose hl).1 (sm.loose hl).2 ⟨l, vs, rfl, hl, upd_same, hf, hi, r1⟩
    · next xs h1 =>
      cases ho
      obtain ⟨p, vs, rfl, e1, f1, r1, _⟩ := at_tup sm rx h1
      refine call_list_of pins s σ H _ us Q I r ⟨p, vs, rfl, .inr (SqT.of e1), fun l hl => ?_⟩
      obtain ⟨hf, hi⟩ := sm.fresh hl
      exact q _ _ _ _ (sm.loose hl).1 (sm.loose hl).2 ⟨l, vs, rfl, hl, upd_same, hf, hi, r1⟩
    · next xs h1 =>
      cases ho
      obtain ⟨p, vs, rfl, e1, r1⟩ := at_scr sm rx h1
      refine call_list_of pins s σ H _ us Q I r ⟨p, vs, rfl, .inl e1, fun l hl => ?_⟩
      obtain ⟨hf, hi⟩ := sm.fresh hl
      exact q _ _ _ _ (sm.loose hl).1 (sm.loose hl).2 ⟨l, vs, rfl, hl, upd_same, hf, hi, r1⟩
    · cases ho
  · cases ho
/-! ### the calls as expressions -/
variable {W : WX} {x : Str} {p pos : Pos} {e : Expr} {es : List Expr} {fa : SemA} {id T : String}
theorem xe_callB {op : List D → Store → Option D} (hc : CallX X (.builtin id) op) (hg : Gl X x) (hm : X.mg x = none) (hv : bootBuiltins x = some (.builtin id)) (ha : XA X W (e :: es) fa) (hn : x ≠ "__name__" := by decide) (hdb : (x == ("__debug__" : Str)) = false := by decide)
    (he : starEach (e :: es) X.env = (false, eval e X.env) :: starEach es X.env := by rfl) (hpl : (backTo pos (starEach es X.env)).any (·.1) = false := by rfl) : XE X W (.Call (.Name x p) (e :: es) [] pos) (eOps op fa) := peI (pe_callB hc hg hm hv ha hn hdb he hpl) fun _ _ _ h => tG_ops h
theorem xe_callTy {op : List D → Store → Option D} (hc : CallX X (.type T) op) (hg : Gl X x) (hm : X.mg x = none) (hv : bootBuiltins x = some (.type T)) (ha : XA X W (e :: es) fa) (hn : x ≠ "__name__" := by decide) (hdb : (x == ("__debug__" : Str)) = false := by decide)
    (he : starEach (e :: es) X.env = (false, eval e X.env) :: starEach es X.env := by rfl) (hpl : (backTo pos (starEach es X.env)).any (·.1) = false := by rfl) : XE X W (.Call (.Name x p) (e :: es) [] pos) (eOps op fa) := peI (pe_callTy hc hg hm hv ha hn hdb he hpl) fun _ _ _ h => tG_ops h
theorem xl_callTy {op : List D → Store → Option (List D)} (hc : CallXL X (.type T) op) (hg : Gl X x) (hm : X.mg x = none) (hv : bootBuiltins x = some (.type T)) (ha : XA X W (e :: es) fa) (hn : x ≠ "__name__" := by decide) (hdb : (x == ("__debug__" : Str)) = false := by decide)
    (he : starEach (e :: es) X.env = (false, eval e X.env) :: starEach es X.env := by rfl) (hpl : (backTo pos (starEach es X.env)).any (·.1) = false := by rfl) : XL X W (.Call (.Name x p) (e :: es) [] pos) (eOps op fa) := peI (pe_callTy hc hg hm hv ha hn hdb he hpl) fun _ _ _ h => tG_ops h
/-! ### isinstance, a built-in class -/
def tyOf (S : Store) (d : D) : Option String := match dr S d with
  | .non => some "NoneType"
  | .bl _ => some "bool"
  | .int _ => some "int"
  | .str _ => some "str"
  | .tup _ => some "tuple"
  | .lst _ => some "list"
  | .dct _ => some "dict"
  | _ => none
def isiD (T : String) : D → Store → Option D := fun d S => (tyOf S d).bind fun t => (kitB t T).map .bl
theorem tyx_of {K : PySem.W.Frag} {mg : Str → Option Value} {F : Hp} {ι : List Addr} {S : Store} {H : Hp} {v : V} {d : D} {t : String} (sm : Sim K mg F ι S H) (r : Rel K F ι v d) (h : tyOf S d = some t) : TyX K H v (.type t) := by
  unfold tyOf at h
  split at h
  · next h1 => cases h; cases r with
    | non => exact .base .non
    | ref _ => rcases drc_no h1 with ⟨_, z⟩ | ⟨_, z⟩ | z <;> cases z
    | _ => cases h1
  · next b h1 => cases h; cases r with
    | bl b => exact .base (.bl b)
    | ref _ => rcases drc_no h1 with ⟨_, z⟩ | ⟨_, z⟩ | z <;> cases z
    | _ => cases h1
  · next i h1 => cases h; cases r with
    | int b => exact .base (.int b)
    | ref _ => rcases drc_no h1 with ⟨_, z⟩ | ⟨_, z⟩ | z <;> cases z
    | _ => cases h1
  · next i h1 => cases h; cases r with
    | str b => exact .base (.str b)
    | ref _ => rcases drc_no h1 with ⟨_, z⟩ | ⟨_, z⟩ | z <;> cases z
    | _ => cases h1
  · next xs h1 =>
    cases h
    obtain ⟨p, vs, rfl, e1, _⟩ := at_tup sm r h1
    exact .base (.tup e1)
  · next xs h1 =>
    cases h
    obtain ⟨p, vs, rfl, e1, _⟩ := at_lst sm r h1
    exact .base (.lst e1)
  · next xs h1 =>
    cases h
    obtain ⟨p, vs, rfl, e1, _⟩ := at_dct sm r h1
    exact .base (.dK e1)
  · cases h
theorem xe_isi {a : Expr} {f : SemE} {y : Str} {p1 p2 pos : Pos} (ha : XE X W a f) (hg : Gl X "isinstance") (hm : X.mg "isinstance" = none) (hg2 : Gl X y) (hm2 : X.mg y = none) (hv2 : bootBuiltins y = some (.type T))
    (hn2 : y ≠ "__name__" := by decide) (hd2 : (y == ("__debug__" : Str)) = false := by decide) (hs : starEach [a, .Name y p2] X.env = (false, eval a X.env) :: starEach [.Name y p2] X.env := by rfl) (hs2 : starEach [.Name y p2] X.env = (false, eval (.Name y p2) X.env) :: starEach [] X.env := by rfl) (hpl : (backTo pos (starEach [.Name y p2] X.env)).any (·.1) = false := by rfl) :
    XE X W (.Call (.Name "isinstance" p1) [a, .Name y p2] [] pos) (eUn (isiD T) f) := by
  refine peI (pe_callB call_isi hg hm (by decide +kernel) (pa_cons ha (pa_cons (pe_bltn (v := .ty T) hg2 hm2 hv2 rfl hn2 hd2) pa_nil hs2) hs) (by decide) (by decide) hs hpl) fun σ H Q h => ?_
  obtain ⟨F, ι, ρ, S, s, r, q⟩ := h
  refine ⟨F, ι, ρ, S, s, r, post_bind (R := RV' X.K) q fun x S1 F1 ι1 v H1 x1 s1 rv q1 => ?_⟩
  obtain ⟨z, hz, q3⟩ := post_lift q1
  unfold isiD at hz
  obtain ⟨t, h1, h2⟩ := Option.bind_eq_some_iff.mp hz
  obtain ⟨b, h3, rfl⟩ := Option.map_eq_some_iff.mp h2
  exact ⟨v, .ty T, .type t, .type T, b, rfl, .ty T, tyx_of s1 rv h1, kit_ty h3, q3 F1 ι1 _ H1 (Step.refl _ _ _) s1 (.bl _)⟩
end
end Fk

set_option Elab.async false
set_option linter.all false
set_option maxRecDepth 100000
namespace Fk
open PySem PySem.Spec PyProof.Rows L2
/-! ### statements -/
def toS {α : Type} (o : Out α) (ρ : Env) (k : α → Store → OutS) : OutS := match o with
  | .ok a S => k a S
  | .exc c fs S => .exc c fs ρ S
  | .stuck => .stuck
@[simp] theorem toS_ok {α : Type} (a : α) (S : Store) (ρ : Env) (k : α → Store → OutS) : toS (.ok a S) ρ k = k a S := rfl
@[simp] theorem toS_exc {α : Type} (c : Str) (fs : List (Str × D)) (S : Store) (ρ : Env) (k : α → Store → OutS) : toS (.exc c fs S : Out α) ρ k = .exc c fs ρ S := rfl
@[simp] theorem toS_stuck {α : Type} (ρ : Env) (k : α → Store → OutS) : toS (.stuck : Out α) ρ k = .stuck := rfl
def sNext : SemS := fun ρ S => .nx ρ S
def sAsg (i : Nat) (f : SemE) : SemS := fun ρ S => toS (f ρ S) ρ fun d S1 => .nx (ρ.set i (some d)) S1
def sExp (f : SemE) : SemS := fun ρ S => toS (f ρ S) ρ fun _ S1 => .nx ρ S1
def sRet (f : SemE) : SemS := fun ρ S => toS (f ρ S) ρ fun d S1 => .rt d S1
def sRetN : SemS := fun _ S => .rt .non S
def sSeq (g h : SemS) : SemS := fun ρ S => match g ρ S with
  | .nx ρ1 S1 => h ρ1 S1
  | o => o
def sIf (t : SemT) (g h : SemS) : SemS := fun ρ S => toS (t ρ S) ρ fun b S1 => if b then g ρ S1 else h ρ S1
section
variable {p : Pl} {α β : Type} {R : Hp → Hp → List Addr → Hp → β → α → Prop} {F H : Hp} {ι : List Addr} {σ : L2.St} {ρ : Env} {Dn : Ends}
theorem post_toS {o : Out α} {k : α → Store → OutS} {Q : β → Hp → Prop} (r : REnv p.K F ι σ ρ) (h : PostS p F ι H (toS o ρ k) Dn)
    (hk : ∀ a S F' ι' v H', Step F ι H F' ι' H' → Sim p.K p.mg F' ι' S H' → R H F' ι' H' v a → PostS p F' ι' H' (k a S) Dn → Q v H') : Post p R F ι H σ o Q := by
  cases o with
  | ok a S => exact fun F' ι' v H' x s rv => hk a S F' ι' v H' x s rv (PostS.ext x h)
  | exc c fs S => exact fun F' ι' C d H' x s m xd => h F' ι' C d σ H' x s (r.mono x) m xd
  | stuck => exact h.elim
end
section
variable {X : Cx} {W : WX} {st : Stmt} {rest : List Stmt} {g h : SemS} {e : Expr} {f : SemE} {pos : Pos}
theorem xss_nil : XSs X W [] sNext := pssI pss_nil fun Dn σ H ⟨F, ι, ρ, S, s, r, q⟩ => q F ι σ H (Step.refl _ _ _) s r
theorem tS_seq {p : Pl} {Dn : Ends} {σ : L2.St} {H : Hp} (hh : tS p (sSeq g h) Dn σ H) : tSeq (tS p g) (tS p h) Dn σ H := by
  obtain ⟨F, ι, ρ, S, s, r, q⟩ := hh
  refine ⟨F, ι, ρ, S, s, r, ?_⟩
  unfold sSeq at q
  cases e : g ρ S with
  | nx ρ1 S1 =>
    rw [e] at q
    exact fun F' ι' σ' H' x s' r' => ⟨F', ι', ρ1, S1, s', r', PostS.ext x q⟩
  | rt d S1 => rw [e] at q; exact q
  | bk ρ1 S1 => rw [e] at q; exact q
  | ct ρ1 S1 => rw [e] at q; exact q
  | exc c fs ρ1 S1 => rw [e] at q; exact q
  | stuck => rw [e] at q; exact q.elim
theorem xss_cons (h1 : XS X W st g) (h2 : XSs X W rest h) : XSs X W (st :: rest) (sSeq g h) := pssI (pss_cons h1 h2) fun _ _ _ hh => tS_seq hh
theorem xss_one (h1 : XS X W st g) : XSs X W [st] g := pss_one h1
theorem xs_pass : XS X W (.Pass pos) sNext := psI ps_pass fun Dn σ H ⟨F, ι, ρ, S, s, r, q⟩ => q F ι σ H (Step.refl _ _ _) s r
theorem xs_expr (he : XE X W e f) (hs : swapsWith e none pos.line X.env = pure false := by rfl) : XS X W (.Expr e pos) (sExp f) := by
  refine psI (ps_expr he hs) fun Dn σ H hh => ?_
  obtain ⟨F, ι, ρ, S, s, r, q⟩ := hh
  exact ⟨F, ι, ρ, S, s, r, post_toS r q fun d S1 F1 ι1 v H1 x1 s1 rv q1 => q1 F1 ι1 σ H1 (Step.refl _ _ _) s1 (r.mono x1)⟩
theorem xs_ret (he : XE X W e f) : XS X W (.Return (some e) pos) (sRet f) := by
  refine psI (ps_ret he) fun Dn σ H hh => ?_
  obtain ⟨F, ι, ρ, S, s, r, q⟩ := hh
  exact ⟨F, ι, ρ, S, s, r, post_toS r q fun d S1 F1 ι1 v H1 x1 s1 rv q1 => q1 F1 ι1 v H1 (Step.refl _ _ _) s1 rv⟩
theorem xs_retN : XS X W (.Return none pos) sRetN := psI ps_retN fun Dn σ H ⟨F, ι, ρ, S, s, r, q⟩ => q F ι .non H (Step.refl _ _ _) s .non
theorem tS_asg {p : Pl} {Dn : Ends} {σ : L2.St} {H : Hp} {i : Nat} (hh : tS p (sAsg i f) Dn σ H) : tAsg (tE p f) (gName i) Dn σ H := by
  obtain ⟨F, ι, ρ, S, s, r, q⟩ := hh
  exact ⟨F, ι, ρ, S, s, r, post_toS r q fun d S1 F1 ι1 v H1 x1 s1 rv q1 => q1 F1 ι1 _ H1 (Step.refl _ _ _) s1 ((r.mono x1).set i rv)⟩
theorem xs_set {i : Nat} {x : Str} {pos' : Pos} (hN : X.N.Nodup) (hi : X.N[i]? = some x) (hx : Loc X.env.scope x) (he : XE X W e f) (hs : swapsWith e (some (.Name x pos')) pos.line X.env = pure false := by rfl)
    (hf : X.fn x = true ∨ X.env.scope.names.lookup x = some .local := by first | exact .inl rfl | exact .inr rfl | assumption) : XS X W (.Assign [.Name x pos'] e pos) (sAsg i f) := psI (ps_set hN hi hx he hs hf) fun _ _ _ hh => tS_asg hh
theorem xs_if {c : Expr} {a b : List Stmt} {t : SemT} (hc : XT X W c t) (ha : XSs X W a g) (hb : XSs X W b h) : XS X W (.If c a b pos) (sIf t g h) := by
  refine psI (ps_if hc ha hb) fun Dn σ H hh => ?_
  obtain ⟨F, ι, ρ, S, s, r, q⟩ := hh
  refine ⟨F, ι, ρ, S, s, r, post_toS r q fun x S1 F1 ι1 v H1 x1 s1 rv q1 => ?_⟩
  cases (show v = x from rv)
  cases x with
  | true => exact ⟨F1, ι1, ρ, S1, s1, r.mono x1, q1⟩
  | false => exact ⟨F1, ι1, ρ, S1, s1, r.mono x1, q1⟩
/-! ### targets -/
abbrev SemG := D → Env → Store → Option Env
def gN (i : Nat) : SemG := fun d ρ _ => some (ρ.set i (some d))
def gT (gs : List SemG) : SemG := fun d ρ S => match d with
  | .tup ds => if ds.length = gs.length then (gs.zip ds).foldl (fun o q => o.bind fun ρ' => q.1 q.2 ρ' S) (some ρ) else none
  | _ => none
/-- a target without effects on the heap -/
theorem wipe_get (σ : L2.St) : ∀ (ws : List Nat) (j : Nat), (wipe σ ws)[j]? = if j ∈ ws then (if j < σ.length then some none else none) else σ[j]?
  | [], j => by simp [wipe]
  | w :: ws, j => by
    unfold wipe
    by_cases hj : j = w
    · subst hj
      by_cases hl : j < σ.length
      · rw [List.getElem?_set_self (by rw [wipe_length]; exact hl)]
        simp [hl]
      · rw [List.getElem?_eq_none (by rw [List.length_set, wipe_length]; omega)]
        simp [hl]
    · rw [List.getElem?_set_ne (Ne.symm hj), wipe_get σ ws j]
      simp [hj]
theorem wipe_set (σ : L2.St) {ws : List Nat} {i : Nat} (h : i ∈ ws) (x : Option V) : wipe (σ.set i x) ws = wipe σ ws := by
  apply List.ext_getElem?
  intro j
  rw [wipe_get, wipe_get, List.length_set]
  by_cases hj : j ∈ ws
  · rw [if_pos hj, if_pos hj]
  · rw [if_neg hj, if_neg hj, List.getElem?_set_ne]
    intro e
    exact hj (e ▸ h)
theorem wipe_wipe (σ : L2.St) (ws : List Nat) : wipe (wipe σ ws) ws = wipe σ ws := by
  apply List.ext_getElem?
  intro j
  rw [wipe_get, wipe_length, wipe_get]
  by_cases hj : j ∈ ws
  · rw [if_pos hj, if_pos hj]
  · rw [if_neg hj, if_neg hj]
def tPG (K : PySem.W.Frag) (mg : Str → Option Value) (g : SemG) (vs : List Nat) : TG := fun v σ H Q => ∃ F ι ρ S d ρ', Sim K mg F ι S H ∧ REnv K F ι σ ρ ∧ Rel K F ι v d ∧ g d ρ S = some ρ' ∧ ∀ σ', REnv K F ι σ' ρ' → (∀ ws, (∀ i ∈ vs, i ∈ ws) → wipe σ' ws = wipe σ ws) → Q σ' H
def PGD (X : Cx) (tg : Expr) (g : SemG) (vs : List Nat) : Prop := PG X tg (tPG X.K X.mg g vs)
theorem pgI {tg : Expr} {t t' : TG} (h : PG X tg t) (i : ∀ v σ H Q, t' v σ H Q → t v σ H Q) : PG X tg t' := ⟨fun pins s σ H v u Q I r q => h.run pins s σ H v u Q I r (i _ _ _ _ q)⟩
theorem gd_name {i : Nat} {x : Str} (hN : X.N.Nodup) (hi : X.N[i]? = some x) (hx : Loc X.env.scope x) (hf : X.fn x = true ∨ X.env.scope.names.lookup x = some .local := by first | exact .inl rfl | exact .inr rfl | assumption) : PGD X (.Name x pos) (gN i) [i] := by
  refine pgI (pg_name hN hi hx hf) fun v σ H Q ⟨F, ι, ρ, S, d, ρ', s, r, rv, hg, q⟩ => ?_
  cases hg
  exact q _ (r.set i rv) fun ws hw => wipe_set σ (hw i (by simp)) _
def PGDs (X : Cx) (ts : List Expr) (gs : List SemG) (vs' : List Nat) : Prop := PGs X ts fun vs σ H Q => ∃ F ι ρ S ds ρ', Sim X.K X.mg F ι S H ∧ REnv X.K F ι σ ρ ∧ RelAll X.K F ι vs ds ∧ ds.length = gs.length ∧ (gs.zip ds).foldl (fun o q => o.bind fun ρ' => q.1 q.2 ρ' S) (some ρ) = some ρ' ∧ ∀ σ', REnv X.K F ι σ' ρ' → (∀ ws, (∀ i ∈ vs', i ∈ ws) → wipe σ' ws = wipe σ ws) → Q σ' H
theorem pgsI {tg : List Expr} {t t' : TGs} (h : PGs X tg t) (i : ∀ v σ H Q, t' v σ H Q → t v σ H Q) : PGs X tg t' := ⟨fun pins s σ H v u Q I r q => h.run pins s σ H v u Q I r (i _ _ _ _ q)⟩
theorem fold_none {S : Store} : ∀ (l : List (SemG × D)), l.foldl (fun o q => o.bind fun ρ' => q.1 q.2 ρ' S) (none : Option Env) = none
  | [] => rfl
  | _ :: r => fold_none r
theorem gds_nil : PGDs X [] [] [] := by
  refine pgsI pgs_nil fun vs σ H Q ⟨F, ι, ρ, S, ds, ρ', s, r, rv, hl, hg, q⟩ => ?_
  cases ds with
  | nil =>
    cases rv
    cases hg
    exact ⟨rfl, q σ r fun _ _ => rfl⟩
  | cons _ _ => cases hl
theorem gds_cons {tg : Expr} {ts : List Expr} {g : SemG} {gs : List SemG} {v1 v2 : List Nat} (h1 : PGD X tg g v1) (h2 : PGDs X ts gs v2) (hs : (assignEach (tg :: ts) X.env).map (·.2) = assign tg X.env :: (assignEach ts X.env).map (·.2) := by rfl) : PGDs X (tg :: ts) (g :: gs) (v1 ++ v2) := by
  refine pgsI (pgs_cons h1 h2 hs) fun vs σ H Q ⟨F, ι, ρ, S, ds, ρ', s, r, rv, hl, hg, q⟩ => ?_
  cases ds with
  | nil => cases hl
  | cons d ds =>
    cases rv with
    | @cons v vs _ _ rv rvs =>
      rw [List.zip_cons_cons, List.foldl_cons] at hg
      cases hz : g d ρ S with
      | none =>
        have : ((some ρ : Option Env).bind fun ρ' => g d ρ' S) = none := hz
        rw [this, fold_none] at hg
        cases hg
      | some ρ1 =>
        have hz' : ((some ρ : Option Env).bind fun ρ' => g d ρ' S) = some ρ1 := hz
        rw [hz'] at hg
        refine ⟨v, vs, rfl, F, ι, ρ, S, d, ρ1, s, r, rv, hz, fun σ1 r1 w1 => ?_⟩
        exact ⟨F, ι, ρ1, S, ds, ρ', s, r1, rvs, by simpa using hl, hg, fun σ2 r2 w2 => q σ2 r2 fun ws hw => (w2 ws fun i hi => hw i (List.mem_append_right _ hi)).trans (w1 ws fun i hi => hw i (List.mem_append_left _ hi))⟩
theorem gd_tup {ts : List Expr} {gs : List SemG} {k : Nat} {vs' : List Nat} (hc : X.calm = true) (h : PGDs X ts gs vs') (hn : (assignEach ts X.env).length = gs.length := by rfl) (hst : (assignEach ts X.env).findIdx? (·.1) = none := by rfl) : PGD X (.Tuple ts k pos) (gT gs) vs' := by
  refine pgI (pg_tup hc h hn hst) fun v σ H Q ⟨F, ι, ρ, S, d, ρ', s, r, rv, hg, q⟩ => ?_
  unfold gT at hg
  split at hg
  · next ds =>
    split at hg
    · next hl =>
      obtain ⟨a, vs, rfl, e1, _, r1, _⟩ := at_tup s rv (show dr S (.tup ds) = .tup ds from rfl)
      exact ⟨a, vs, rfl, SqT.of e1, by rw [r1.length]; exact hl, F, ι, ρ, S, ds, ρ', s, r, r1, hl, hg, q⟩
    · cases hg
  · cases hg
def sAsgT (g : SemG) (f : SemE) : SemS := fun ρ S => toS (f ρ S) ρ fun d S1 => match g d ρ S1 with
  | some ρ1 => .nx ρ1 S1
  | none => .stuck
theorem xs_asgT {tg : Expr} {g : SemG} {vs' : List Nat} (he : XE X W e f) (hg : PGD X tg g vs') (hs : swapsWithSole [tg] e pos.line X.env = pure false := by rfl) (hw : swappedStores [tg] e X.env = pure none := by rfl)
    (h1 : (assignEach [tg] X.env).map (·.2) = [assign tg X.env] := by rfl) : XS X W (.Assign [tg] e pos) (sAsgT g f) := by
  refine psI (ps_asg he hg hs hw h1) fun Dn σ H hh => ?_
  obtain ⟨F, ι, ρ, S, s, r, q⟩ := hh
  refine ⟨F, ι, ρ, S, s, r, post_toS r q fun d S1 F1 ι1 v H1 x1 s1 rv q1 => ?_⟩
  cases hz : g d ρ S1 with
  | none => rw [hz] at q1; exact q1.elim
  | some ρ1 =>
    rw [hz] at q1
    exact ⟨F1, ι1, ρ, S1, d, ρ1, s1, r.mono x1, rv, hz, fun σ' r' _ => q1 F1 ι1 σ' H1 (Step.refl _ _ _) s1 r'⟩
/-- a, b = e1, e2 -/
def sPar (i j : Nat) (fa : SemA) : SemS := fun ρ S => toS (fa ρ S) ρ fun ds S1 => match ds with
  | [d, e] => .nx ((ρ.set i (some d)).set j (some e)) S1
  | _ => .stuck
theorem xs_par {i j : Nat} {x y : Str} {a b : Expr} {fa : SemA} {px py pt : Pos} {kt k2 pt2} (hc : X.calm = true) (hN : X.N.Nodup) (hi : X.N[i]? = some x) (hj : X.N[j]? = some y) (hij : i ≠ j)
    (hx : X.env.scope.names.lookup x = some .local) (hy : X.env.scope.names.lookup y = some .local) (ha : XA X W [a, b] fa)
    (hw : swappedStores [.Tuple [.Name x px, .Name y py] kt pt] (.Tuple [a, b] k2 pt2) X.env = pure (some [x, y]))
    (hs : swapsWithSole [.Tuple [.Name x px, .Name y py] kt pt] (.Tuple [a, b] k2 pt2) pos.line X.env = pure false := by rfl) :
    XS X W (.Assign [.Tuple [.Name x px, .Name y py] kt pt] (.Tuple [a, b] k2 pt2) pos) (sPar i j fa) := by
  refine psI (ps_par hc hN hi hj hij hx hy ha hw hs) fun Dn σ H hh => ?_
  obtain ⟨F, ι, ρ, S, s, r, q⟩ := hh
  refine ⟨F, ι, ρ, S, s, r, post_toS r q fun ds S1 F1 ι1 v H1 x1 s1 rv q1 => ?_⟩
  cases rv with
  | nil => exact q1.elim
  | cons r1 t1 =>
    cases t1 with
    | nil => exact q1.elim
    | cons r2 t2 =>
      cases t2 with
      | nil => exact ⟨_, _, rfl, q1 F1 ι1 _ H1 (Step.refl _ _ _) s1 (((r.mono x1).set i r1).set j r2)⟩
      | cons _ _ => exact q1.elim
/-- x += e, ints -/
def sAug (i : Nat) (op : Int → Int → Int) (f : SemE) : SemS := fun ρ S => match ρ[i]? with
  | some (some (.int a)) => toS (f ρ S) ρ fun d S1 => match d with
    | .int b => .nx (ρ.set i (some (.int (op a b)))) S1
    | _ => .stuck
  | _ => .stuck
theorem xs_aug {i : Nat} {x : Str} {o : Operator} {op : Int → Int → Int} {pos' : Pos} (hN : X.N.Nodup) (hi : X.N[i]? = some x) (hx : Loc X.env.scope x) (he : XE X W e f) (ho : PIp X o (ipI op))
    (hf : X.fn x = true ∨ X.env.scope.names.lookup x = some .local := by first | exact .inl rfl | exact .inr rfl | assumption) : XS X W (.AugAssign (.Name x pos') o e pos) (sAug i op f) := by
  refine psI (ps_aug hN hi hx he ho hf) fun Dn σ H hh => ?_
  obtain ⟨F, ι, ρ, S, s, r, q⟩ := hh
  unfold sAug at q
  split at q
  · next a ha =>
    obtain ⟨v, hv, rv⟩ := r.at' i _ ha
    cases rel_int rv
    refine ⟨_, hv, F, ι, ρ, S, s, r, post_toS r q fun d S1 F1 ι1 v H1 x1 s1 rv q1 => ?_⟩
    cases d with
    | int b =>
      cases rel_int rv
      exact ⟨a, b, rfl, rfl, q1 F1 ι1 _ H1 (Step.refl _ _ _) s1 ((r.mono x1).set i (.int _))⟩
    | _ => exact q1.elim
  · exact q.elim
end
/-! ### what is walked -/
def Yl (K : PySem.W.Frag) (F : Hp) (ι : List Addr) (H : Hp) (x : V) (H' : Hp) (d : D) : Prop :=
  (H' = H ∧ Rel K F ι x d) ∨ ∃ T vs ds, x = .ref T ∧ H T = none ∧ H' = upd H T (.tup vs) ∧ d = .tup ds ∧ RelAll K F ι vs ds
structure Walks (K : PySem.W.Frag) (F : Hp) (ι : List Addr) (J : It) (xs : List D) : Prop where
  go : ∀ H i, Same F H → i < xs.length → J.go i H
  yld : ∀ H i x H', Same F H → i < xs.length → J.yld i H x H' → ∃ d, xs[i]? = some d ∧ Yl K F ι H x H' d
  stop : ∀ H i, Same F H → xs.length ≤ i → J.stop i H
theorem Yl.sim {K : PySem.W.Frag} {mg : Str → Option Value} {F : Hp} {ι : List Addr} {S : Store} {H H' : Hp} {x : V} {d : D} (y : Yl K F ι H x H' d) {F1 H0 : Hp} {ι1 : List Addr} (e : Step F ι H0 F1 ι1 H) (s : Sim K mg F1 ι1 S H) : ∃ F2, Step F1 ι1 H F2 ι1 H' ∧ Sim K mg F2 ι1 S H' ∧ Rel K F2 ι1 x d := by
  rcases y with ⟨rfl, r⟩ | ⟨T, vs, ds, rfl, hT, rfl, rfl, r⟩
  · exact ⟨F1, Step.refl _ _ _, s, Rel.mono e r⟩
  · obtain ⟨x2, s2⟩ := s.frozen (o := .tup vs) hT
    exact ⟨_, x2, s2, .tup upd_same (RelAll.mono (e.trans x2) r)⟩
def RI' (K : PySem.W.Frag) : Hp → Hp → List Addr → Hp → It → List D → Prop := fun _ F ι _ J xs => Walks K F ι J xs
theorem stI {K : PySem.W.Frag} : Stays (RI' K) := fun _ r => r
abbrev XI (X : Cx) (W : WX) (tg e : Expr) (f : SemA) : Prop := PI X tg e (tG ⟨X.K, X.mg, W⟩ (RI' X.K) f)
/-! ### for -/
def forL (b : D → Env → Store → OutS) : List D → Env → Store → OutS
  | [], ρ, S => .nx ρ S
  | x :: xs, ρ, S => match b x ρ S with
    | .nx ρ1 S1 => forL b xs ρ1 S1
    | .ct ρ1 S1 => forL b xs ρ1 S1
    | .bk ρ1 S1 => .nx ρ1 S1
    | .rt d S1 => .rt d S1
    | .exc c fs ρ1 S1 => .exc c fs ρ1 S1
    | .stuck => .stuck
def sFor (it : SemA) (g : SemG) (b : SemS) : SemS := fun ρ S => toS (it ρ S) ρ fun xs S1 => forL (fun x ρ S => match g x ρ S with
  | some ρ1 => b ρ1 S
  | none => .stuck) xs ρ S1
section
variable {X : Cx} {W : WX} {tg iter : Expr} {body : List Stmt} {pos : Pos} {fi : SemA} {g : SemG} {b : SemS} {vs' : List Nat}
theorem xs_for (hp : PassesOwn (model X.prog X.w) X.A X.env X.xe) (hc : X.calm = true) (hi : XI X W tg iter fi) (hg : PGD X tg g vs') (hb : XSs X W body b) (hs : ∀ x, foldedSetIterable iter X.env x = pure x := by intro _; rfl) : XS X W (.For tg iter body [] pos) (sFor fi g b) := by
  refine psI (ps_for hp hc hi hg hb hs) fun Dn σ H hh => ?_
  obtain ⟨F, ι, ρ, S, s, r, q⟩ := hh
  refine ⟨F, ι, ρ, S, s, r, post_toS (R := RI' X.K) r q fun xs S1 F1 ι1 J H1 x1 s1 wk q1 => ?_⟩
  have wk : Walks X.K F1 ι1 J xs := wk
  refine ⟨fun i m σ' H' => i + m = xs.length ∧ ∃ F' ι' ρ' S', Step F1 ι1 H1 F' ι' H' ∧ Sim X.K X.mg F' ι' S' H' ∧ REnv X.K F' ι' σ' ρ' ∧ PostS ⟨X.K, X.mg, W⟩ F' ι' H' (forL (fun x ρ S => match g x ρ S with
    | some ρ1 => b ρ1 S
    | none => .stuck) (xs.drop i) ρ' S') Dn, ⟨xs.length, by omega, F1, ι1, ρ, S1, Step.refl _ _ _, s1, r.mono x1, by simpa using q1⟩, fun i m σ' H' hW => ?_⟩
  obtain ⟨hm, F2, ι2, ρ2, S2, x2, s2, r2, q2⟩ := hW
  by_cases hlt : i < xs.length
  · refine .inr ⟨wk.go H' i (x2.same.trans s2.sub) hlt, fun σ3 H3 => ∃ F' ι' ρ' S', Step F1 ι1 H1 F' ι' H3 ∧ Sim X.K X.mg F' ι' S' H3 ∧ REnv X.K F' ι' σ3 ρ' ∧ PostS ⟨X.K, X.mg, W⟩ F' ι' H3 (forL (fun x ρ S => match g x ρ S with
      | some ρ1 => b ρ1 S
      | none => .stuck) (xs.drop (i + 1)) ρ' S') Dn, fun σ3 H3 h3 => ⟨m - 1, by omega, by omega, h3⟩, fun x H3 hy => ?_⟩
    obtain ⟨d, hd, y⟩ := wk.yld H' i x H3 (x2.same.trans s2.sub) hlt hy
    obtain ⟨F3, x3, s3, r3⟩ := y.sim x2 s2
    have hdrop : xs.drop i = d :: xs.drop (i + 1) := by
      rw [List.drop_eq_getElem_cons hlt]
      congr 1
      rw [List.getElem?_eq_getElem hlt] at hd
      exact Option.some.inj hd
    rw [hdrop] at q2
    have q3 := PostS.ext x3 q2
    unfold forL at q3
    cases hz : g d ρ2 S2 with
    | none =>
      rw [hz] at q3
      exact q3.elim
    | some ρ3 =>
      rw [hz] at q3
      refine ⟨F3, ι2, ρ2, S2, d, ρ3, s3, r2.mono x3, r3, hz, fun σ4 r4 _ => ⟨F3, ι2, ρ3, S2, s3, r4, ?_⟩⟩
      dsimp only at q3
      cases hbz : b ρ3 S2 with
      | nx ρ4 S4 =>
        rw [hbz] at q3
        exact fun F4 ι4 σ5 H5 x4 s4 r5 => ⟨F4, ι4, ρ4, S4, (x2.trans x3).trans x4, s4, r5, PostS.ext x4 q3⟩
      | ct ρ4 S4 =>
        rw [hbz] at q3
        exact fun F4 ι4 σ5 H5 x4 s4 r5 => ⟨F4, ι4, ρ4, S4, (x2.trans x3).trans x4, s4, r5, PostS.ext x4 q3⟩
      | bk ρ4 S4 => rw [hbz] at q3; exact q3
      | rt d4 S4 => rw [hbz] at q3; exact q3
      | exc c fs ρ4 S4 => rw [hbz] at q3; exact q3
      | stuck => rw [hbz] at q3; exact q3.elim
  · refine .inl ⟨wk.stop H' i (x2.same.trans s2.sub) (by omega), ?_⟩
    rw [List.drop_of_length_le (by omega)] at q2
    exact q2 F2 ι2 σ' H' (Step.refl _ _ _) s2 r2
end
/-! ### while -/
def whileN (t : SemT) (b : SemS) : Nat → SemS
  | 0, _, _ => .stuck
  | n + 1, ρ, S => toS (t ρ S) ρ fun k S1 => if k then (match b ρ S1 with
    | .nx ρ1 S2 => whileN t b n ρ1 S2
    | .ct ρ1 S2 => whileN t b n ρ1 S2
    | .bk ρ1 S2 => .nx ρ1 S2
    | o => o) else .nx ρ S1
open Classical in
noncomputable def sWhile (t : SemT) (b : SemS) : SemS := fun ρ S => if h : ∃ n, whileN t b n ρ S ≠ .stuck then whileN t b (Classical.choose h) ρ S else .stuck
section
variable {t : SemT} {b : SemS}
theorem whileN_mono : ∀ {n m : Nat} {ρ : Env} {S : Store}, whileN t b n ρ S ≠ .stuck → n ≤ m → whileN t b m ρ S = whileN t b n ρ S
  | 0, _, _, _, h, _ => absurd rfl h
  | n + 1, 0, _, _, _, hm => absurd hm (by omega)
  | n + 1, m + 1, ρ, S, h, hm => by
    unfold whileN at h ⊢
    cases e : t ρ S with
    | ok k S1 =>
      rw [e] at h
      simp only [toS_ok] at h ⊢
      cases k with
      | false => rfl
      | true =>
        simp only [if_true] at h ⊢
        cases e2 : b ρ S1 with
        | nx ρ1 S2 => rw [e2] at h; exact whileN_mono h (by omega)
        | ct ρ1 S2 => rw [e2] at h; exact whileN_mono h (by omega)
        | _ => rfl
    | exc c fs S1 => rfl
    | stuck => rfl
theorem sWhile_eq {n : Nat} {ρ : Env} {S : Store} {o : OutS} (h : whileN t b n ρ S = o) (ho : o ≠ .stuck) : sWhile t b ρ S = o := by
  have hx : ∃ n, whileN t b n ρ S ≠ .stuck := ⟨n, by rw [h]; exact ho⟩
  unfold sWhile
  rw [dif_pos hx]
  have h1 := Classical.choose_spec hx
  rcases Nat.le_total n (Classical.choose hx) with hl | hl
  · rw [whileN_mono (by rw [h]; exact ho) hl, h]
  · rw [← whileN_mono h1 hl, h]
end
section
variable {X : Cx} {W : WX} {c : Expr} {body : List Stmt} {pos : Pos} {t : SemT} {b : SemS}
theorem xs_while (hp : PassesOwn (model X.prog X.w) X.A X.env X.xe) (hc : XT X W c t) (hb : XSs X W body b) : XS X W (.While c body [] pos) (sWhile t b) := by
  refine psI (ps_while hp hc hb) fun Dn σ H hh => ?_
  obtain ⟨F, ι, ρ, S, s, r, q⟩ := hh
  unfold sWhile at q
  split at q
  · next hx =>
    refine ⟨fun m σ' H' => ∃ F' ι' ρ' S', Sim X.K X.mg F' ι' S' H' ∧ REnv X.K F' ι' σ' ρ' ∧ PostS ⟨X.K, X.mg, W⟩ F' ι' H' (whileN t b m ρ' S') Dn, ⟨_, F, ι, ρ, S, s, r, q⟩, fun m σ' H' hW => ?_⟩
    obtain ⟨F1, ι1, ρ1, S1, s1, r1, q1⟩ := hW
    cases m with
    | zero => exact q1.elim
    | succ m =>
      unfold whileN at q1
      refine ⟨F1, ι1, ρ1, S1, s1, r1, post_toS r1 q1 fun k S2 F2 ι2 v H2 x2 s2 rv q2 => ?_⟩
      cases (show v = k from rv)
      cases k with
      | false => exact q2 F2 ι2 σ' H2 (Step.refl _ _ _) s2 (r1.mono x2)
      | true =>
        simp only [if_true] at q2
        refine ⟨fun σ3 H3 => ∃ F' ι' ρ' S', Sim X.K X.mg F' ι' S' H3 ∧ REnv X.K F' ι' σ3 ρ' ∧ PostS ⟨X.K, X.mg, W⟩ F' ι' H3 (whileN t b m ρ' S') Dn, fun σ3 H3 h3 => ⟨m, by omega, h3⟩, F2, ι2, ρ1, S2, s2, r1.mono x2, ?_⟩
        cases hbz : b ρ1 S2 with
        | nx ρ4 S4 =>
          rw [hbz] at q2
          exact fun F4 ι4 σ5 H5 x4 s4 r5 => ⟨F4, ι4, ρ4, S4, s4, r5, PostS.ext x4 q2⟩
        | ct ρ4 S4 =>
          rw [hbz] at q2
          exact fun F4 ι4 σ5 H5 x4 s4 r5 => ⟨F4, ι4, ρ4, S4, s4, r5, PostS.ext x4 q2⟩
        | bk ρ4 S4 => rw [hbz] at q2; exact q2
        | rt d4 S4 => rw [hbz] at q2; exact q2
        | exc c fs ρ4 S4 => rw [hbz] at q2; exact q2
        | stuck => rw [hbz] at q2; exact q2.elim
  · exact q.elim
end
end Fk

set_option Elab.async false
set_option linter.all false
set_option maxRecDepth 100000
namespace Fk
open PySem PySem.Spec PyProof.Rows L2
/-! ### sequences that are walked -/
def itC (n : Nat) (S : Store) : Option Cell → Out (List D)
  | some (.lst true xs) => .ok xs (S.set n (.lst false xs))
  | some (.lst false xs) => .ok xs S
  | _ => .stuck
def itOf : D → Store → Out (List D)
  | .lst xs, S => .ok xs S
  | .tup xs, S => .ok xs S
  | .scr xs, S => .ok xs S
  | .ref n, S => itC n S S[n]?
  | _, _ => .stuck
def itSeq (f : SemE) : SemA := fun ρ S => (f ρ S).bind itOf
section
variable {K : PySem.W.Frag} {F : Hp} {ι : List Addr}
theorem walks_list {a : Addr} {vs : List V} {ds : List D} (h : SqL K F a vs) (r : RelAll K F ι vs ds) : Walks K F ι (Itl K a) ds := by
  refine ⟨fun H i s hi => ?_, fun H i x H' s hi y => ?_, fun H i s hi => ⟨vs, s.seq h, by rw [r.length]; exact hi⟩⟩
  · have hv : i < vs.length := by rw [r.length]; exact hi
    exact ⟨vs, vs[i], s.seq h, by simp [hv]⟩
  · obtain ⟨rfl, y⟩ := y
    obtain ⟨d, hd, rd⟩ := r.getV (y vs (s.seq h))
    exact ⟨d, hd, .inl ⟨rfl, rd⟩⟩
theorem walks_tup {a : Addr} {vs : List V} {ds : List D} (h : F a = some (.tup vs)) (r : RelAll K F ι vs ds) : Walks K F ι (Itt K a) ds := by
  refine ⟨fun H i s hi => ?_, fun H i x H' s hi y => ?_, fun H i s hi => ⟨vs, SqT.of (s _ _ h), by rw [r.length]; exact hi⟩⟩
  · have hv : i < vs.length := by rw [r.length]; exact hi
    exact ⟨vs, vs[i], SqT.of (s _ _ h), by simp [hv]⟩
  · obtain ⟨rfl, y⟩ := y
    obtain ⟨d, hd, rd⟩ := r.getV (y vs (SqT.of (s _ _ h)))
    exact ⟨d, hd, .inl ⟨rfl, rd⟩⟩
end
section
variable {X : Cx} {W : WX} {tg e : Expr} {f : SemE} {pos : Pos}
theorem iter_L {pins : List (Addr × Obj)} {σ : L2.St} {H1 : Hp} {s1 : Shared} {a : Addr} {xs : List V} {R : It → Hp → Prop} (I1 : Inv X pins σ H1 s1) (hq : SqL X.K H1 a xs) (q : R (Itl X.K a) H1) : wpAny (model X.prog X.w) X.A (pyIter (.ref a)) (PIE X pins σ tg R) X.xe s1 := by
  obtain ⟨its, rv, p, hz⟩ := I1.list hq
  refine wpAny_pyIter_list p.isList ⟨s1.heap.objs.size, [s1.heap.objs.size], _, _, H1, rfl, I1.kept (t' := s1.toks) fun b o e => Heap.get?_push_of_some _ e, turn_list a _, ⟨_, Heap.get?_push_size _ rfl, rfl, rfl⟩, fun b hb => ?_, q⟩
  cases List.mem_singleton.mp hb
  exact I1.fpOk (Nat.le_refl _) (I1.hok.fresh (Nat.le_refl _))
theorem iter_T {pins : List (Addr × Obj)} {σ : L2.St} {H1 : Hp} {s1 : Shared} {a : Addr} {xs : List V} {R : It → Hp → Prop} (I1 : Inv X pins σ H1 s1) (hq : SqT X.K H1 a xs) (q : R (Itt X.K a) H1) : wpAny (model X.prog X.w) X.A (pyIter (.ref a)) (PIE X pins σ tg R) X.xe s1 := by
  obtain ⟨its, rv, p, hz⟩ := I1.tuple hq
  refine wpAny_pyIter_tuple (show s1.heap.IsTuple a its.toArray from p) ⟨s1.heap.objs.size, [s1.heap.objs.size], _, _, H1, rfl, I1.kept (t' := s1.toks) fun b o e => Heap.get?_push_of_some _ e, turn_tuple a _, ⟨_, Heap.get?_push_size _ rfl, rfl, rfl⟩, fun b hb => ?_, q⟩
  cases List.mem_singleton.mp hb
  exact I1.fpOk (Nat.le_refl _) (I1.hok.fresh (Nat.le_refl _))
theorem xi_seq (he : XE X W e f) : XI X W tg e (itSeq f) := by
  refine ⟨fun pins s σ H R I h => ?_⟩
  obtain ⟨F, ι, ρ, S, sm, r, q⟩ := h
  have key : tE ⟨X.K, X.mg, W⟩ f σ H fun x H1 => ∃ a, x = .ref a ∧ ((∃ xs, SqL X.K H1 a xs ∧ R (Itl X.K a) H1) ∨ ∃ xs, SqT X.K H1 a xs ∧ R (Itt X.K a) H1) := by
    refine ⟨F, ι, ρ, S, sm, r, post_bind (R := RV' X.K) q (fun x S1 F1 ι1 v H1 x1 s1 rv q1 => ?_) stI⟩
    have rv : Rel X.K F1 ι1 v x := rv
    cases rv with
    | @lst a vs ds h1 h2 => exact ⟨a, rfl, .inl ⟨vs, SqL.of (s1.sub _ _ h1), q1 F1 ι1 _ H1 (Step.refl _ _ _) s1 (walks_list (SqL.of h1) h2)⟩⟩
    | @scr a vs ds h1 h2 => exact ⟨a, rfl, .inl ⟨vs, s1.sub.seq h1, q1 F1 ι1 _ H1 (Step.refl _ _ _) s1 (walks_list h1 h2)⟩⟩
    | @tup a vs ds h1 h2 => exact ⟨a, rfl, .inr ⟨vs, SqT.of (s1.sub _ _ h1), q1 F1 ι1 _ H1 (Step.refl _ _ _) s1 (walks_tup h1 h2)⟩⟩
    | @ref n a h1 =>
      have q1 : Post ⟨X.K, X.mg, W⟩ (RI' X.K) F1 ι1 H1 σ (itC n S1 S1[n]?) R := q1
      cases hc : S1[n]? with
      | none => rw [hc] at q1; exact q1.elim
      | some c =>
        rw [hc] at q1
        cases c with
        | lst b xs =>
          cases b with
          | true =>
            obtain ⟨vs, g1, g2, g3⟩ := s1.cell n a _ h1 hc
            obtain ⟨x2, s2⟩ := s1.freeze h1 g3 g1 g2 (s1.cl n _ hc)
            exact ⟨a, rfl, .inl ⟨vs, SqL.of g1, q1 _ _ _ H1 x2 s2 (walks_list (SqL.of upd_same) (RelAll.mono x2 g2))⟩⟩
          | false =>
            obtain ⟨vs, g1, g2⟩ := s1.cell n a _ h1 hc
            exact ⟨a, rfl, .inl ⟨vs, SqL.of (s1.sub _ _ g1), q1 _ _ _ H1 (Step.refl _ _ _) s1 (walks_list (SqL.of g1) g2)⟩⟩
        | _ => exact q1.elim
    | _ => exact q1.elim
  refine thn (he.run pins s σ H _ I key) fun v s1 ⟨x, H1, I1, r1, q1⟩ => ?_
  obtain ⟨a, rfl, q1⟩ := q1
  cases r1
  rcases q1 with ⟨xs, h1, h2⟩ | ⟨xs, h1, h2⟩
  · exact iter_L I1 h1 h2
  · exact iter_T I1 h1 h2
/-! ### ranges -/
def rng (lo : Int) (n : Nat) : List D := (List.range n).map fun (i : Nat) => .int (lo + (i : Int))
theorem rng_length (lo : Int) (n : Nat) : (rng lo n).length = n := by simp [rng]
def okR (i : Int) : Bool := decide (-(2 ^ 62) ≤ i ∧ i < 2 ^ 62)
def itR1 (fa : SemA) : SemA := fun ρ S => (fa ρ S).bind fun ds S1 => match ds with
  | [.int j] => if okR j then .ok (rng 0 j.toNat) S1 else .stuck
  | _ => .stuck
def itR2 (fa : SemA) : SemA := fun ρ S => (fa ρ S).bind fun ds S1 => match ds with
  | [.int i, .int j] => if okR i && okR j then .ok (rng i (j - i).toNat) S1 else .stuck
  | _ => .stuck
theorem walks_rng {K : PySem.W.Frag} {F : Hp} {ι : List Addr} (lo : Int) (n : Nat) : Walks K F ι (Itr lo n) (rng lo n) := by
  refine ⟨fun H i _ hi => by rw [rng_length] at hi; exact hi, fun H i x H' _ hi y => ?_, fun H i _ hi => by rw [rng_length] at hi; exact hi⟩
  obtain ⟨rfl, rfl⟩ := y
  rw [rng_length] at hi
  exact ⟨.int (lo + i), by simp [rng, hi], .inl ⟨rfl, .int _⟩⟩
theorem piI {tg e : Expr} {t t' : TI} (h : PI X tg e t) (i : ∀ σ H Q, t' σ H Q → t σ H Q) : PI X tg e t' := ⟨fun pins s σ H Q I q => h.run pins s σ H Q I (i _ _ _ q)⟩
theorem xi_range1 {a : Expr} {fa : SemA} {p pos : Pos} (hg : Gl X "range") (hm : X.mg "range" = none) (ha : XA X W [a] fa) (hs : starEach [a] X.env = [(false, eval a X.env)] := by rfl) : XI X W tg (.Call (.Name "range" p) [a] [] pos) (itR1 fa) := by
  refine piI (pi_range1 hg hm ha hs) fun σ H R h => ?_
  obtain ⟨F, ι, ρ, S, sm, r, q⟩ := h
  refine ⟨F, ι, ρ, S, sm, r, post_bind (R := RA' X.K) q (fun x S1 F1 ι1 v H1 x1 s1 rv q1 => ?_) stI⟩
  split at q1
  · next j =>
    obtain ⟨hz, q1⟩ := ite_stuck q1
    obtain ⟨z1, z2⟩ := of_decide_eq_true hz
    obtain ⟨y, rfl, ry⟩ := rel1 rv
    cases rel_int ry
    exact ⟨j, rfl, z1, z2, q1 F1 ι1 _ H1 (Step.refl _ _ _) s1 (walks_rng _ _)⟩
  · exact q1.elim
theorem xi_range2 {a b : Expr} {fa : SemA} {p pos : Pos} (hg : Gl X "range") (hm : X.mg "range" = none) (ha : XA X W [a, b] fa) (hs : starEach [a, b] X.env = [(false, eval a X.env), (false, eval b X.env)] := by rfl) (hs2 : starEach [b] X.env = [(false, eval b X.env)] := by rfl) : XI X W tg (.Call (.Name "range" p) [a, b] [] pos) (itR2 fa) := by
  refine piI (pi_range2 hg hm ha hs hs2) fun σ H R h => ?_
  obtain ⟨F, ι, ρ, S, sm, r, q⟩ := h
  refine ⟨F, ι, ρ, S, sm, r, post_bind (R := RA' X.K) q (fun x S1 F1 ι1 v H1 x1 s1 rv q1 => ?_) stI⟩
  split at q1
  · next i j =>
    obtain ⟨hz, q1⟩ := ite_stuck q1
    obtain ⟨hz1, hz2⟩ := Bool.and_eq_true_iff.mp hz
    obtain ⟨z1, z2⟩ := of_decide_eq_true hz1
    obtain ⟨z3, z4⟩ := of_decide_eq_true hz2
    obtain ⟨y, y2, rfl, ry, ry2⟩ := rel2 rv
    cases rel_int ry
    cases rel_int ry2
    exact ⟨i, j, rfl, ⟨z1, z2, z3, z4⟩, q1 F1 ι1 _ H1 (Step.refl _ _ _) s1 (walks_rng _ _)⟩
  · exact q1.elim
/-! ### zip -/
def seqOf (S : Store) (d : D) : Option (Bool × List D) := match dr S d with
  | .lst xs => some (true, xs)
  | .tup xs => some (false, xs)
  | _ => none
def zipL (xs ys : List D) : List D := (xs.zip ys).map fun q => .tup [q.1, q.2]
/-- the lists stay as they are while they are walked: cells are frozen -/
def frzC (d : D) (S : Store) : Store := match d with
  | .ref n => match S[n]? with
    | some (.lst true xs) => S.set n (.lst false xs)
    | _ => S
  | _ => S
def itZip (fa : SemA) : SemA := fun ρ S => (fa ρ S).bind fun ds S1 => match ds with
  | [.lst xs, .lst ys] => .ok (zipL xs ys) S1
  | [.tup xs, .tup ys] => .ok (zipL xs ys) S1
  | [.lst xs, .tup ys] => .ok (zipL xs ys) S1
  | [.tup xs, .lst ys] => .ok (zipL xs ys) S1
  | _ => .stuck
theorem zipL_len (xs ys : List D) : (zipL xs ys).length = min xs.length ys.length := by simp [zipL]
end
end Fk

set_option Elab.async false
set_option linter.all false
set_option maxRecDepth 100000
namespace Fk
open PySem PySem.Spec PyProof.Rows L2
/-! ### comprehensions -/
def wipeD (ρ : Env) : List Nat → Env
  | [] => ρ
  | v :: vs => (wipeD ρ vs).set v none
theorem wipeD_length (ρ : Env) : ∀ vs : List Nat, (wipeD ρ vs).length = ρ.length
  | [] => rfl
  | v :: vs => by unfold wipeD; rw [List.length_set, wipeD_length ρ vs]
theorem wipeD_get (ρ : Env) : ∀ (ws : List Nat) (j : Nat), (wipeD ρ ws)[j]? = if j ∈ ws then (if j < ρ.length then some none else none) else ρ[j]?
  | [], j => by simp [wipeD]
  | w :: ws, j => by
    unfold wipeD
    by_cases hj : j = w
    · subst hj
      by_cases hl : j < ρ.length
      · rw [List.getElem?_set_self (by rw [wipeD_length]; exact hl)]
        simp [hl]
      · rw [List.getElem?_eq_none (by rw [List.length_set, wipeD_length]; omega)]
        simp [hl]
    · rw [List.getElem?_set_ne (Ne.symm hj), wipeD_get ρ ws j]
      simp [hj]
theorem REnv.wipe {K : PySem.W.Frag} {F : Hp} {ι : List Addr} {σ : L2.St} {ρ : Env} (r : REnv K F ι σ ρ) (ws : List Nat) : REnv K F ι (L2.wipe σ ws) (wipeD ρ ws) := by
  refine ⟨by rw [wipe_length, wipeD_length, r.len], fun i d h => ?_⟩
  rw [wipeD_get] at h
  by_cases hi : i ∈ ws
  · rw [if_pos hi] at h
    split at h <;> cases h
  · rw [if_neg hi] at h
    rw [wipe_get, if_neg hi]
    exact r.at' i d h
def noX {α : Type} : Out α → Out α
  | .ok a S => .ok a S
  | _ => .stuck
@[simp] theorem noX_ok {α : Type} (a : α) (S : Store) : noX (.ok a S) = .ok a S := rfl
def compGo (f : D → Store → Out (Option D)) : List D → List D → Store → Out (List D)
  | [], acc, S => .ok acc S
  | x :: xs, acc, S => (f x S).bind fun o S1 => match o with
    | some y => if sz acc.length then compGo f xs (acc ++ [y]) S1 else .stuck
    | none => compGo f xs acc S1
def sYes : SemT := fun _ S => .ok true S
def compStep (g : SemG) (t : SemT) (e : SemE) (ρ : Env) : D → Store → Out (Option D) := fun x S => match g x ρ S with
  | some ρ1 => (noX (t ρ1 S)).bind fun b S2 => if b then (noX (e ρ1 S2)).bind fun y S3 => .ok (some y) S3 else .ok none S2
  | none => .stuck
def lComp (it : SemA) (g : SemG) (t : SemT) (e : SemE) (vs : List Nat) : SemA := fun ρ S => (it ρ S).bind fun xs S1 => compGo (compStep g t e (wipeD ρ vs)) xs [] S1
abbrev WF : WX := fun _ _ _ _ => False
section
variable {X : Cx} {W : WX}
def XTs (X : Cx) (ifs : List Expr) (t : SemT) : Prop := PTs X ifs (tT ⟨X.K, X.mg, WF⟩ t)
theorem xts_nil : XTs X [] sYes := ⟨fun pins s σ H Q I ⟨F, ι, ρ, S, sm, r, q⟩ => (pts_nil (X := X)).run pins s σ H Q I (q F ι true H (Step.refl _ _ _) sm rfl)⟩
theorem xts_one {c : Expr} {t : SemT} (h : XT X WF c t) : XTs X [c] t := ⟨fun pins s σ H Q I q => (pts_one h).run pins s σ H Q I q⟩
theorem noX_post {p : Pl} {α β : Type} {R : Hp → Hp → List Addr → Hp → β → α → Prop} {F H : Hp} {ι : List Addr} {σ : L2.St} {o : Out α} {Q : β → Hp → Prop} (h : Post p R F ι H σ (noX o) Q) : Post ⟨p.K, p.mg, WF⟩ R F ι H σ o Q := by
  cases o with
  | ok a S => exact h
  | exc c fs S => exact h.elim
  | stuck => exact h.elim
theorem post_W {p : Pl} {W' : WX} {α β : Type} {R : Hp → Hp → List Addr → Hp → β → α → Prop} {F H : Hp} {ι : List Addr} {σ σ' : L2.St} {o : Out α} {Q : β → Hp → Prop} (h : Post p R F ι H σ (noX o) Q) : Post ⟨p.K, p.mg, W'⟩ R F ι H σ' o Q := by
  cases o with
  | ok a S => exact h
  | exc c fs S => exact h.elim
  | stuck => exact h.elim
theorem bind_noX {α β : Type} (o : Out α) (f : α → Store → Out β) : (noX o).bind f = match o with | .ok a S => f a S | _ => .stuck := by cases o <;> rfl
theorem tG_comp {p : Pl} {fi : SemA} {g : SemG} {t : SemT} {e : SemE} {vs : List Nat} {vs' : List Nat} (hvs : ∀ i ∈ vs', i ∈ vs) {σ : L2.St} {H : Hp} {Q : VK} (h : tG p (RL' p.K) (lComp fi g t e vs) σ H Q) :
    tLc (tG p (RI' p.K) fi) (tPG p.K p.mg g vs')
      (tT ⟨p.K, p.mg, WF⟩ t) (tE ⟨p.K, p.mg, WF⟩ e) vs σ H Q := by
  obtain ⟨F, ι, ρ, S, sm, r, q⟩ := h
  refine ⟨F, ι, ρ, S, sm, r, post_bind (R := RI' p.K) q fun xs S1 F1 ι1 J H1 x1 s1 wk q1 => ?_⟩
  have wk : Walks p.K F1 ι1 J xs := wk
  intro Dl hD
  refine ⟨fun i m H' => i + m = xs.length ∧ ∃ F' ι' S' acc vs1, Step F1 ι1 H1 F' ι' H' ∧ Sim p.K p.mg F' ι' S' H' ∧ H' Dl = some (.lst vs1) ∧ F' Dl = none ∧ Dl ∉ ι' ∧ RelAll p.K F' ι' vs1 acc ∧ Post p (RL' p.K) F1 ι1 H1 σ (compGo (compStep g t e (wipeD ρ vs)) (xs.drop i) acc S') Q,
    ⟨xs.length, by omega, F1, ι1, S1, [], [], (s1.loose hD).1, (s1.loose hD).2, upd_same, (s1.fresh hD).1, (s1.fresh hD).2, .nil, by simpa using q1⟩, fun i m H' hW => ?_⟩
  obtain ⟨hm, F2, ι2, S2, acc, vs1, x2, s2, hH, hF, hI, ra, q2⟩ := hW
  by_cases hlt : i < xs.length
  · refine .inr ⟨wk.go H' i (x2.same.trans s2.sub) hlt, fun H3 => ∃ F' ι' S' acc vs1, Step F1 ι1 H1 F' ι' H3 ∧ Sim p.K p.mg F' ι' S' H3 ∧ H3 Dl = some (.lst vs1) ∧ F' Dl = none ∧ Dl ∉ ι' ∧ RelAll p.K F' ι' vs1 acc ∧ Post p (RL' p.K) F1 ι1 H1 σ (compGo (compStep g t e (wipeD ρ vs)) (xs.drop (i + 1)) acc S') Q, fun H3 h3 => ⟨m - 1, by omega, by omega, h3⟩, fun x H3 hy => ?_⟩
    obtain ⟨d, hd, y⟩ := wk.yld H' i x H3 (x2.same.trans s2.sub) hlt hy
    obtain ⟨F3, x3, s3, r3⟩ := y.sim x2 s2
    have hdrop : xs.drop i = d :: xs.drop (i + 1) := by
      rw [List.drop_eq_getElem_cons hlt]
      congr 1
      rw [List.getElem?_eq_getElem hlt] at hd
      exact Option.some.inj hd
    rw [hdrop] at q2
    unfold compGo at q2
    obtain ⟨hH3, hF3, hI3⟩ := x3.keep Dl _ hH hF hI trivial
    cases hz : g d (wipeD ρ vs) S2 with
    | none =>
      unfold compStep at q2
      rw [hz] at q2
      exact q2.elim
    | some ρ1 =>
      unfold compStep at q2
      rw [hz] at q2
      refine ⟨F3, ι2, wipeD ρ vs, S2, d, ρ1, s3, ((r.mono ((x1.trans x2).trans x3)).wipe vs), r3, hz, fun σ4 r4 w4 => ⟨?_, F3, ι2, ρ1, S2, s3, r4, ?_⟩⟩
      · rw [w4 vs hvs, wipe_wipe]
      · cases ht : t ρ1 S2 with
        | exc c fs S3 =>
          simp only [ht, noX, Out.stuck_bind] at q2
          exact q2.elim
        | stuck =>
          simp only [ht, noX, Out.stuck_bind] at q2
          exact q2.elim
        | ok b S3 =>
          intro F4 ι4 b' H4 x4 s4 rb
          cases (show b' = b from rb)
          simp only [ht, noX_ok, Out.ok_bind] at q2
          obtain ⟨hH4, hF4, hI4⟩ := x4.keep Dl _ hH3 hF3 hI3 trivial
          cases b with
          | false =>
            simp only [Bool.false_eq_true, if_false, Out.ok_bind] at q2
            exact ⟨F4, ι4, S3, acc, vs1, (x2.trans x3).trans x4, s4, hH4, hF4, hI4, RelAll.mono (x3.trans x4) ra, q2⟩
          | true =>
            simp only [if_true] at q2
            refine ⟨F4, ι4, ρ1, S3, s4, r4.mono x4, ?_⟩
            cases he : e ρ1 S3 with
            | exc c fs S4 =>
              simp only [he, noX, Out.stuck_bind] at q2
              exact q2.elim
            | stuck =>
              simp only [he, noX, Out.stuck_bind] at q2
              exact q2.elim
            | ok y S4 =>
              intro F5 ι5 w H5 x5 s5 rw'
              have rw' : Rel p.K F5 ι5 w y := rw'
              simp only [he, noX_ok, Out.ok_bind] at q2
              obtain ⟨hz2, q3⟩ := ite_stuck q2
              obtain ⟨hH5, hF5, hI5⟩ := x5.keep Dl _ hH4 hF4 hI4 trivial
              have ra5 := RelAll.mono ((x3.trans x4).trans x5) ra
              refine ⟨vs1, hH5, by rw [ra5.length]; exact sz_lt hz2, F5, ι5, S4, acc ++ [y], vs1 ++ [w], ?_, ?_, upd_same, hF5, hI5, ra5.append (.cons rw' .nil), q3⟩
              · have st := ((x2.trans x3).trans x4).trans x5
                refine ⟨st.toExt, fun b o e1 e2 e3 e4 => ?_, fun b hb => st.dom b (upd_dom hb)⟩
                obtain ⟨k1, k2, k3⟩ := st.keep b o e1 e2 e3 e4
                exact ⟨by rw [upd_ne (ne_of_none e1 hD)]; exact k1, k2, k3⟩
              · refine ⟨fun b o e1 => ?_, s5.len, s5.nd, fun n a c ha hc => ?_, s5.cl, s5.tab.upd hH5 trivial, s5.nt, tt_upd s5.tt (by intro _ z; cases z)⟩
                · rw [upd_ne (ne_of_none e1 hF5)]
                  exact s5.sub b o e1
                · exact (s5.cell n a c ha hc).mono (Ext.refl _ _) (fun z => z) fun o z => by
                    rw [upd_ne (show a ≠ Dl from fun z2 => hI5 (by rw [← z2]; exact List.mem_of_getElem? ha))]
                    exact z
  · refine .inl ⟨wk.stop H' i (x2.same.trans s2.sub) (by omega), ?_⟩
    rw [List.drop_of_length_le (by omega)] at q2
    exact q2 F2 ι2 _ H' x2 s2 ⟨Dl, vs1, rfl, hD, hH, hF, hI, ra⟩
variable {elt tg iter : Expr} {ifs : List Expr} {scope : Scope} {own : List (Str × Nat)} {pos : Pos} {fi : SemA} {g : SemG} {t : SemT} {e : SemE} {vs' : List Nat}
theorem xl_comp (hc : X.calm = true) (hN : X.N.Nodup) (hi : XI X W tg iter fi) (ok : BlkOk X.N X.env.scope scope own) (hvs : ∀ i ∈ vs', i ∈ own.map (·.2))
    (hg : ∀ (s : Shared) (H : Hp) (C : Addr) (cl : List (Str × Addr)) (fp : List Addr), PGD (X.blk s H scope (compEnvC scope cl C X.env) fp) tg g vs') (ht : ∀ (s : Shared) (H : Hp) (C : Addr) (cl : List (Str × Addr)) (fp : List Addr), XTs (X.blk s H scope (compEnvC scope cl C X.env) fp) ifs t)
    (he : ∀ (s : Shared) (H : Hp) (C : Addr) (cl : List (Str × Addr)) (fp : List Addr), XE (X.blk s H scope (compEnvC scope cl C X.env) fp) WF elt e) (hs : ∀ x, foldedSetIterable iter X.env x = pure x := by intro _; rfl) :
    XL X W (.ListComp elt [⟨tg, iter, ifs, 0⟩] scope pos) (lComp fi g t e (own.map (·.2))) := peI (pe_lc (g := tPG X.K X.mg g vs') (tt := tT ⟨X.K, X.mg, WF⟩ t) (te := tE ⟨X.K, X.mg, WF⟩ e) hc hN hi ok hg ht he hs) fun _ _ _ h => tG_comp hvs h
/-- name = [..] on one line -/
theorem xs_setLc {i : Nat} {y : Str} {py spos : Pos} (hc : X.calm = true) (hN : X.N.Nodup) (hy : X.N[i]? = some y) (hyl : X.env.scope.names.lookup y = some .local)
    (hsw : swapsWith (.ListComp elt [⟨tg, iter, ifs, 0⟩] scope pos) (some (.Name y py)) spos.line X.env = pure true) (hi : XI X W tg iter fi) (ok : BlkOk X.N X.env.scope scope own) (hvs : ∀ i ∈ vs', i ∈ own.map (·.2))
    (hg : ∀ (s : Shared) (H : Hp) (C : Addr) (cl : List (Str × Addr)) (fp : List Addr), PGD (X.blk s H scope (compEnvC scope cl C X.env) fp) tg g vs') (ht : ∀ (s : Shared) (H : Hp) (C : Addr) (cl : List (Str × Addr)) (fp : List Addr), XTs (X.blk s H scope (compEnvC scope cl C X.env) fp) ifs t)
    (he : ∀ (s : Shared) (H : Hp) (C : Addr) (cl : List (Str × Addr)) (fp : List Addr), XE (X.blk s H scope (compEnvC scope cl C X.env) fp) WF elt e) (hs : ∀ x, foldedSetIterable iter X.env x = pure x := by intro _; rfl) :
    ∀ {f : SemE}, (∀ p : Pl, ∀ σ H Q, tE p f σ H Q → tL p (lComp fi g t e (own.map (·.2))) σ H Q) → XS X W (.Assign [.Name y py] (.ListComp elt [⟨tg, iter, ifs, 0⟩] scope pos) spos) (sAsg i f) := fun hf =>
  psI (ps_setLc (g := tPG X.K X.mg g vs') (tt := tT ⟨X.K, X.mg, WF⟩ t) (te := tE ⟨X.K, X.mg, WF⟩ e) hc hN hy hyl hsw hi ok hg ht he hs) fun Dn σ H hh => tG_comp hvs (hf _ _ _ _ (tS_asg hh))
/-- the two ways a new list is kept -/
theorem tE_frz {p : Pl} {fa : SemA} {σ : L2.St} {H : Hp} {Q : VK} (h : tE p (frz fa) σ H Q) : tL p fa σ H Q := by
  obtain ⟨F, ι, ρ, S, s, r, q⟩ := h
  refine ⟨F, ι, ρ, S, s, r, ?_⟩
  unfold frz at q
  cases e : fa ρ S with
  | ok x S1 =>
    rw [e] at q
    intro F1 ι1 v H1 x1 s1 rv
    obtain ⟨q', vs, rfl, h0, hq, hf, hi, rr⟩ := rv
    obtain ⟨x0, x2, s2⟩ := s1.freezeNew x1 h0 hq hf hi
    exact q _ _ _ _ x2 s2 (.lst upd_same (RelAll.mono0 x0 rr))
  | exc c fs S1 => rw [e] at q; exact q
  | stuck => rw [e] at q; exact q.elim
theorem tE_cell {p : Pl} {fa : SemA} {σ : L2.St} {H : Hp} {Q : VK} (h : tE p (cellL fa) σ H Q) : tL p fa σ H Q := by
  obtain ⟨F, ι, ρ, S, s, r, q⟩ := h
  refine ⟨F, ι, ρ, S, s, r, ?_⟩
  unfold cellL at q
  cases e : fa ρ S with
  | ok x S1 =>
    rw [e] at q
    simp only [Out.ok_bind] at q
    obtain ⟨hcl, q⟩ := ite_stuck q
    intro F1 ι1 v H1 x1 s1 rv
    obtain ⟨q', vs, rfl, h0, hq, hf, hi, rr⟩ := rv
    have xx : Ext F1 ι1 F1 (ι1 ++ [q']) := ⟨Same.refl _, List.prefix_append _ _⟩
    obtain ⟨x2, s2⟩ := s1.newCell x1 (c := .lst true x) h0 hi ⟨vs, hq, RelAll.mono0 xx rr, hf⟩ hcl
    exact q _ _ _ _ x2 s2 (.ref (by rw [← s1.len]; simp))
  | exc c fs S1 => rw [e] at q; exact q
  | stuck => rw [e] at q; exact q.elim
theorem xs_setLF {i : Nat} {y : Str} {py spos : Pos} (hc : X.calm = true) (hN : X.N.Nodup) (hy : X.N[i]? = some y) (hyl : X.env.scope.names.lookup y = some .local)
    (hsw : swapsWith (.ListComp elt [⟨tg, iter, ifs, 0⟩] scope pos) (some (.Name y py)) spos.line X.env = pure true := by rfl) (hi : XI X W tg iter fi) (ok : BlkOk X.N X.env.scope scope own) (hvs : ∀ i ∈ vs', i ∈ own.map (·.2))
    (hg : ∀ (s : Shared) (H : Hp) (C : Addr) (cl : List (Str × Addr)) (fp : List Addr), PGD (X.blk s H scope (compEnvC scope cl C X.env) fp) tg g vs') (ht : ∀ (s : Shared) (H : Hp) (C : Addr) (cl : List (Str × Addr)) (fp : List Addr), XTs (X.blk s H scope (compEnvC scope cl C X.env) fp) ifs t)
    (he : ∀ (s : Shared) (H : Hp) (C : Addr) (cl : List (Str × Addr)) (fp : List Addr), XE (X.blk s H scope (compEnvC scope cl C X.env) fp) WF elt e) (hs : ∀ x, foldedSetIterable iter X.env x = pure x := by intro _; rfl) :
    XS X W (.Assign [.Name y py] (.ListComp elt [⟨tg, iter, ifs, 0⟩] scope pos) spos) (sAsg i (frz (lComp fi g t e (own.map (·.2))))) := xs_setLc hc hN hy hyl hsw hi ok hvs hg ht he hs fun _ _ _ _ h => tE_frz h
theorem xs_setLM {i : Nat} {y : Str} {py spos : Pos} (hc : X.calm = true) (hN : X.N.Nodup) (hy : X.N[i]? = some y) (hyl : X.env.scope.names.lookup y = some .local)
    (hsw : swapsWith (.ListComp elt [⟨tg, iter, ifs, 0⟩] scope pos) (some (.Name y py)) spos.line X.env = pure true := by rfl) (hi : XI X W tg iter fi) (ok : BlkOk X.N X.env.scope scope own) (hvs : ∀ i ∈ vs', i ∈ own.map (·.2))
    (hg : ∀ (s : Shared) (H : Hp) (C : Addr) (cl : List (Str × Addr)) (fp : List Addr), PGD (X.blk s H scope (compEnvC scope cl C X.env) fp) tg g vs') (ht : ∀ (s : Shared) (H : Hp) (C : Addr) (cl : List (Str × Addr)) (fp : List Addr), XTs (X.blk s H scope (compEnvC scope cl C X.env) fp) ifs t)
    (he : ∀ (s : Shared) (H : Hp) (C : Addr) (cl : List (Str × Addr)) (fp : List Addr), XE (X.blk s H scope (compEnvC scope cl C X.env) fp) WF elt e) (hs : ∀ x, foldedSetIterable iter X.env x = pure x := by intro _; rfl) :
    XS X W (.Assign [.Name y py] (.ListComp elt [⟨tg, iter, ifs, 0⟩] scope pos) spos) (sAsg i (cellL (lComp fi g t e (own.map (·.2))))) := xs_setLc hc hN hy hyl hsw hi ok hvs hg ht he hs fun _ _ _ _ h => tE_cell h
end
end Fk

set_option Elab.async false
set_option linter.all false
set_option maxRecDepth 100000
namespace Fk
open PySem PySem.Spec PyProof.Rows L2
/-! ### cells that change -/
def isL (S : Store) (d : D) : Bool := match dr S d with
  | .lst _ => true
  | _ => false
def cellAt (S : Store) : D → Option (Nat × List D)
  | .ref n => match S[n]? with
    | some (.lst true xs) => some (n, xs)
    | _ => none
  | _ => none
theorem cellAt_eq {S : Store} {d : D} {n : Nat} {xs : List D} (h : cellAt S d = some (n, xs)) : d = .ref n ∧ S[n]? = some (.lst true xs) := by
  unfold cellAt at h
  split at h
  · split at h
    · next hc => cases h; exact ⟨rfl, hc⟩
    · cases h
  · cases h
theorem rel_ref {K : PySem.W.Frag} {F : Hp} {ι : List Addr} {v : V} {n : Nat} (h : Rel K F ι v (.ref n)) : ∃ a, v = .ref a ∧ ι[n]? = some a := by
  cases h with
  | ref e => exact ⟨_, rfl, e⟩
def appC (x y : D) (S : Store) : Out D := match cellAt S x with
  | some (n, xs) => if sz xs.length && closed n y then .ok .non (S.set n (.lst true (xs ++ [y]))) else .stuck
  | none => .stuck
def eApp (f g : SemE) : SemE := fun ρ S => (f ρ S).bind fun x S1 => if isL S1 x then (g ρ S1).bind fun y S2 => appC x y S2 else .stuck
def extC (x y : D) (S : Store) : Out D := match cellAt S x, dr S y with
  | some (n, xs), .lst ys => if sz (xs.length + ys.length) && closedA n ys then .ok .non (S.set n (.lst true (xs ++ ys))) else .stuck
  | _, _ => .stuck
def eExt (f g : SemE) : SemE := fun ρ S => (f ρ S).bind fun x S1 => if isL S1 x then (g ρ S1).bind fun y S2 => extC x y S2 else .stuck
def popC (x : D) (S : Store) : Out D := match cellAt S x with
  | some (n, xs) => match xs[xs.length - 1]? with
    | some y => .ok y (S.set n (.lst true xs.dropLast))
    | none => .stuck
  | none => .stuck
def ePop (f : SemE) : SemE := fun ρ S => (f ρ S).bind fun x S1 => popC x S1
section
variable {X : Cx} {W : WX} {o e : Expr} {f g : SemE} {apos cpos pos : Pos}
theorem isL_ty {mg : Str → Option Value} {K : PySem.W.Frag} {F : Hp} {ι : List Addr} {S : Store} {H : Hp} {v : V} {x : D} (s : Sim K mg F ι S H) (r : Rel K F ι v x) (h : isL S x = true) : tyV K "list" v H := by
  unfold isL at h
  split at h
  · next xs h1 =>
    obtain ⟨a, vs, rfl, e1, _⟩ := at_lst s r h1
    exact .inl ⟨rfl, vs, SqL.of e1⟩
  · cases h
theorem cell_isL {S : Store} {d : D} {n : Nat} {xs : List D} (h : cellAt S d = some (n, xs)) : isL S d = true := by
  obtain ⟨rfl, h2⟩ := cellAt_eq h
  unfold isL
  rw [dr_ref, h2]
  rfl
theorem xe_app (ho : XE X W o f) (he : XE X W e g) (hbase : attributeBase o "append" X.env (eval o X.env) = eval o X.env := by rfl)
    (hfew : ((backTo cpos (starEach [e] X.env)).all (fun x => !x.1) && (backToKw cpos (keywordEach [] X.env)).all (fun x => x.1.isSome) && decide ([e].length + ([] : List Keyword).length + (if ([] : List Keyword).isEmpty then 0 else 1) < 30)) = true := by rfl)
    (hline : (apos.endLine == cpos.line) = true := by rfl) (hs : starEach [e] X.env = (false, eval e X.env) :: starEach [] X.env := by rfl) (hpl : (backTo cpos (starEach [] X.env)).any (·.1) = false := by rfl) :
    XE X W (.Call (.Attribute o "append" apos) [e] [] cpos) (eApp f g) := by
  refine peI (pe_bm PySem.F.plainAttrs_list PySem.F.slot_list_append PySem.F.type_list_append mt_append ho (pa_cons he pa_nil hs) hbase hfew hline hs hpl) fun σ H Q h => ?_
  obtain ⟨F, ι, ρ, S, sm, r, q⟩ := h
  refine ⟨F, ι, ρ, S, sm, r, post_bind (R := RV' X.K) q fun x S1 F1 ι1 v H1 x1 s1 rv q1 => ?_⟩
  obtain ⟨hL, q1⟩ := ite_stuck q1
  refine ⟨isL_ty s1 rv hL, F1, ι1, ρ, S1, s1, r.mono x1, post_bind (R := RV' X.K) q1 fun y S2 F2 ι2 u H2 x2 s2 ru q2 => ?_⟩
  unfold appC at q2
  split at q2
  · next n xs hc =>
    obtain ⟨hz, q2⟩ := ite_stuck q2
    obtain ⟨rfl, hc2⟩ := cellAt_eq hc
    obtain ⟨a, rfl, ha⟩ := rel_ref (Rel.mono x2 rv)
    obtain ⟨vs, g1, g2, g3⟩ := s2.cell n a _ ha hc2
    obtain ⟨hz, hcl⟩ := Bool.and_eq_true_iff.mp hz
    refine ⟨a, vs, u, rfl, rfl, g1, by rw [g2.length]; exact sz_lt hz, ?_⟩
    obtain ⟨x3, s3⟩ := s2.write (c := .lst true (xs ++ [y])) (o := .lst (vs ++ [u])) ha g3 ⟨_, upd_same, g2.append (.cons ru .nil), g3⟩ (by
      have := s2.cl n _ hc2
      simp only [closedC] at this ⊢
      rw [closedA_append, this]
      simp [hcl])
    exact q2 F2 ι2 _ _ x3 s3 .non
  · exact q2.elim
theorem xe_ext (ho : XE X W o f) (he : XE X W e g) (hbase : attributeBase o "extend" X.env (eval o X.env) = eval o X.env := by rfl)
    (hfew : ((backTo cpos (starEach [e] X.env)).all (fun x => !x.1) && (backToKw cpos (keywordEach [] X.env)).all (fun x => x.1.isSome) && decide ([e].length + ([] : List Keyword).length + (if ([] : List Keyword).isEmpty then 0 else 1) < 30)) = true := by rfl)
    (hline : (apos.endLine == cpos.line) = true := by rfl) (hs : starEach [e] X.env = (false, eval e X.env) :: starEach [] X.env := by rfl) (hpl : (backTo cpos (starEach [] X.env)).any (·.1) = false := by rfl) :
    XE X W (.Call (.Attribute o "extend" apos) [e] [] cpos) (eExt f g) := by
  refine peI (pe_bm PySem.F.plainAttrs_list PySem.F.slot_list_extend PySem.F.type_list_extend mt_extend ho (pa_cons he pa_nil hs) hbase hfew hline hs hpl) fun σ H Q h => ?_
  obtain ⟨F, ι, ρ, S, sm, r, q⟩ := h
  refine ⟨F, ι, ρ, S, sm, r, post_bind (R := RV' X.K) q fun x S1 F1 ι1 v H1 x1 s1 rv q1 => ?_⟩
  obtain ⟨hL, q1⟩ := ite_stuck q1
  refine ⟨isL_ty s1 rv hL, F1, ι1, ρ, S1, s1, r.mono x1, post_bind (R := RV' X.K) q1 fun y S2 F2 ι2 u H2 x2 s2 ru q2 => ?_⟩
  unfold extC at q2
  split at q2
  · next n xs ys hc hy =>
    obtain ⟨hz, q2⟩ := ite_stuck q2
    obtain ⟨rfl, hc2⟩ := cellAt_eq hc
    obtain ⟨a, rfl, ha⟩ := rel_ref (Rel.mono x2 rv)
    obtain ⟨vs, g1, g2, g3⟩ := s2.cell n a _ ha hc2
    obtain ⟨b, ws, rfl, e1, e2⟩ := at_lst s2 ru hy
    obtain ⟨hz, hcl⟩ := Bool.and_eq_true_iff.mp hz
    refine ⟨a, b, vs, ws, rfl, rfl, g1, e1, by rw [g2.length, e2.length]; exact sz_le hz, ?_⟩
    obtain ⟨x3, s3⟩ := s2.write (c := .lst true (xs ++ ys)) (o := .lst (vs ++ ws)) ha g3 ⟨_, upd_same, g2.append e2, g3⟩ (by
      have := s2.cl n _ hc2
      simp only [closedC] at this ⊢
      rw [closedA_append, this, hcl]
      rfl)
    exact q2 F2 ι2 _ _ x3 s3 .non
  · exact q2.elim
theorem xe_pop (ho : XE X W o f) (hbase : attributeBase o "pop" X.env (eval o X.env) = eval o X.env := by rfl) (hline : (apos.endLine == cpos.line) = true := by rfl) : XE X W (.Call (.Attribute o "pop" apos) [] [] cpos) (ePop f) := by
  refine peI (pe_bm0 PySem.F.plainAttrs_list PySem.F.slot_list_pop PySem.F.type_list_pop mt_pop ho hbase hline) fun σ H Q h => ?_
  obtain ⟨F, ι, ρ, S, sm, r, q⟩ := h
  refine ⟨F, ι, ρ, S, sm, r, post_bind (R := RV' X.K) q fun x S1 F1 ι1 v H1 x1 s1 rv q1 => ?_⟩
  unfold popC at q1
  split at q1
  · next n xs hc =>
    split at q1
    · next y hy =>
      obtain ⟨rfl, hc2⟩ := cellAt_eq hc
      refine ⟨isL_ty s1 rv (cell_isL hc), ?_⟩
      obtain ⟨a, rfl, ha⟩ := rel_ref rv
      obtain ⟨vs, g1, g2, g3⟩ := s1.cell n a _ ha hc2
      obtain ⟨w, hw, rw'⟩ := g2.get hy
      refine ⟨a, vs, w, rfl, rfl, g1, by rw [g2.length]; exact hw, ?_⟩
      obtain ⟨x3, s3⟩ := s1.write (c := .lst true xs.dropLast) (o := .lst vs.dropLast) ha g3 ⟨_, upd_same, g2.dropLast, g3⟩ (by
        have := s1.cl n _ hc2
        simp only [closedC] at this ⊢
        exact closedA_mem.mpr fun z hz => closedA_mem.mp this z (List.dropLast_subset _ hz))
      exact q1 F1 ι1 _ _ x3 s3 rw'
    · exact q1.elim
  · exact q1.elim
/-- o[i] = e, o a list -/
def setC (x i y : D) (S : Store) : Option Store := match cellAt S x, i with
  | some (n, xs), .int k => if closed n y then (ixN xs.length k).map fun j => S.set n (.lst true (xs.set j y)) else none
  | _, _ => none
def sSetI (fo fi fe : SemE) : SemS := fun ρ S => toS (fe ρ S) ρ fun y S1 => toS (fo ρ S1) ρ fun x S2 => toS (fi ρ S2) ρ fun i S3 => match setC x i y S3 with
  | some S4 => .nx ρ S4
  | none => .stuck
theorem xs_setI {i : Expr} {fo fi fe : SemE} {pos' : Pos} (ho : XE X W o fo) (hi : XE X W i fi) (he : XE X W e fe)
    (ha : ∀ v, assign (.Subscript o i pos') X.env v = (do
      let ov ← holding [v] (eval o X.env)
      let iv ← holding [v, ov] (eval i X.env)
      standAt pos'
      holding [v, ov, iv] (setItem ov iv v)
      release [v, ov, iv] []) := by intro _; rfl)
    (hs : swapsWithSole [.Subscript o i pos'] e pos.line X.env = pure false := by rfl) (hw : swappedStores [.Subscript o i pos'] e X.env = pure none := by rfl)
    (h1 : (assignEach [.Subscript o i pos'] X.env).map (·.2) = [assign (.Subscript o i pos') X.env] := by rfl) : XS X W (.Assign [.Subscript o i pos'] e pos) (sSetI fo fi fe) := by
  refine psI (ps_asg he (pg_sub ho hi set_list ha) hs hw h1) fun Dn σ H hh => ?_
  obtain ⟨F, ι, ρ, S, s, r, q⟩ := hh
  refine ⟨F, ι, ρ, S, s, r, post_toS r q fun y S1 F1 ι1 v H1 x1 s1 rv q1 => ?_⟩
  refine ⟨F1, ι1, ρ, S1, s1, r.mono x1, post_toS (r.mono x1) q1 fun x S2 F2 ι2 u H2 x2 s2 ru q2 => ?_⟩
  refine ⟨F2, ι2, ρ, S2, s2, (r.mono x1).mono x2, post_toS ((r.mono x1).mono x2) q2 fun k S3 F3 ι3 w H3 x3 s3 rw' q3 => ?_⟩
  cases hz : setC x k y S3 with
  | none => rw [hz] at q3; exact q3.elim
  | some S4 =>
    rw [hz] at q3
    unfold setC at hz
    split at hz
    · next n xs k' hc =>
      have hcl : closed n y = true := by
        cases hq : closed n y with
        | true => rfl
        | false => rw [hq] at hz; cases hz
      rw [hcl, if_pos rfl] at hz
      obtain ⟨j, hj, rfl⟩ := Option.map_eq_some_iff.mp hz
      obtain ⟨rfl, hc2⟩ := cellAt_eq hc
      obtain ⟨a, rfl, ha'⟩ := rel_ref (Rel.mono x3 ru)
      cases rel_int rw'
      obtain ⟨vs, g1, g2, g3⟩ := s3.cell n a _ ha' hc2
      refine ⟨a, vs, k', j, rfl, rfl, g1, by rw [g2.length]; exact hj, ?_⟩
      obtain ⟨x4, s4⟩ := s3.write (c := .lst true (xs.set j y)) (o := .lst (vs.set j v)) ha' g3 ⟨_, upd_same, g2.set (Rel.mono (x2.trans x3) rv) j, g3⟩ (by
        have := s3.cl n _ hc2
        simp only [closedC] at this ⊢
        refine closedA_mem.mpr fun z hz => ?_
        rcases List.mem_or_eq_of_mem_set hz with hz | rfl
        · exact closedA_mem.mp this z hz
        · exact hcl)
      exact q3 F3 ι3 σ _ x4 s4 (((r.mono x1).mono x2).mono x3)
    · cases hz
/-! ### dicts with ints and texts as keys -/
def keyOf : D → Option Key
  | .int i => some (.inl i)
  | .str x => some (.inr x)
  | _ => none
theorem rel_key {K : PySem.W.Frag} {F : Hp} {ι : List Addr} {v : V} {d : D} {k : Key} (r : Rel K F ι v d) (h : keyOf d = some k) : v = kV k := by
  cases r <;> first | (cases h; rfl) | cases h
def lookD {κ : Type} [DecidableEq κ] (kds : List (κ × D)) (k : κ) : Option D := (kds.find? fun q => decide (q.1 = k)).map (·.2)
def putD {κ : Type} [DecidableEq κ] (kds : List (κ × D)) (k : κ) (d : D) : List (κ × D) :=
  if (kds.any fun q => decide (q.1 = k)) = true then kds.map (fun q => if q.1 = k then (q.1, d) else q) else kds ++ [(k, d)]
theorem RelKV.nil {κ : Type} {K : PySem.W.Frag} {F : Hp} {ι : List Addr} : RelKV (κ := κ) K F ι [] [] := ⟨rfl, .nil⟩
theorem RelKV.cons_inv {κ : Type} {K : PySem.W.Frag} {F : Hp} {ι : List Addr} {p : κ × V} {kvs : List (κ × V)} {kds : List (κ × D)} (h : RelKV K F ι (p :: kvs) kds) : ∃ d r, kds = (p.1, d) :: r ∧ Rel K F ι p.2 d ∧ RelKV K F ι kvs r := by
  obtain ⟨k, v⟩ := h
  cases kds with
  | nil => simp at k
  | cons q r =>
    simp only [List.map_cons, List.cons.injEq] at k v
    cases v with
    | cons h1 h2 => exact ⟨q.2, r, by rw [k.1], h1, ⟨k.2, h2⟩⟩
theorem rel_look {κ : Type} [DecidableEq κ] {K : PySem.W.Frag} {F : Hp} {ι : List Addr} {k : κ} : ∀ {kvs : List (κ × V)} {kds : List (κ × D)}, RelKV K F ι kvs kds →
    (∀ d, lookD kds k = some d → ∃ v, valV kvs k = some v ∧ Rel K F ι v d) ∧ (lookD kds k = none → valV kvs k = none)
  | [], kds, h => by
    have : kds = [] := by
      have := congrArg List.length h.ks
      simpa using this.symm
    subst this
    exact ⟨fun d e => by simp [lookD] at e, fun _ => rfl⟩
  | p :: kvs, kds, h => by
    obtain ⟨d, r, rfl, h1, h2⟩ := h.cons_inv
    obtain ⟨a, b⟩ := rel_look (k := k) h2
    unfold lookD valV at *
    by_cases hk : p.1 = k
    · simp only [List.find?_cons, hk, decide_true, Option.map_some]
      exact ⟨fun d' e => ⟨p.2, rfl, by cases e; exact h1⟩, fun e => by cases e⟩
    · simp only [List.find?_cons, hk, decide_false]
      exact ⟨a, b⟩
theorem rel_any {κ : Type} [DecidableEq κ] {K : PySem.W.Frag} {F : Hp} {ι : List Addr} (k : κ) : ∀ {kvs : List (κ × V)} {kds : List (κ × D)}, RelKV K F ι kvs kds → (kvs.any fun q => decide (q.1 = k)) = kds.any fun q => decide (q.1 = k)
  | [], kds, h => by
    have : kds = [] := by
      have := congrArg List.length h.ks
      simpa using this.symm
    subst this
    rfl
  | p :: kvs, kds, h => by
    obtain ⟨d, r, rfl, h1, h2⟩ := h.cons_inv
    simp only [List.any_cons, rel_any k h2]
theorem RelKV.cons {κ : Type} {K : PySem.W.Frag} {F : Hp} {ι : List Addr} {k : κ} {v : V} {d : D} {kvs : List (κ × V)} {kds : List (κ × D)} (r : Rel K F ι v d) (h : RelKV K F ι kvs kds) : RelKV K F ι ((k, v) :: kvs) ((k, d) :: kds) := ⟨by simp [h.ks], .cons r h.vs⟩
theorem RelKV.append {κ : Type} {K : PySem.W.Frag} {F : Hp} {ι : List Addr} {kvs kws : List (κ × V)} {kds kes : List (κ × D)} (h : RelKV K F ι kvs kds) (g : RelKV K F ι kws kes) : RelKV K F ι (kvs ++ kws) (kds ++ kes) := ⟨by simp [h.ks, g.ks], by
  rw [List.map_append, List.map_append]
  exact h.vs.append g.vs⟩
theorem rel_putmap {κ : Type} [DecidableEq κ] {K : PySem.W.Frag} {F : Hp} {ι : List Addr} {k : κ} {v : V} {d : D} (r : Rel K F ι v d) : ∀ {kvs : List (κ × V)} {kds : List (κ × D)}, RelKV K F ι kvs kds →
    RelKV K F ι (kvs.map (fun kv => if kv.1 = k then (kv.1, v) else kv)) (kds.map (fun q => if q.1 = k then (q.1, d) else q))
  | [], kds, h => by
    have : kds = [] := by
      have := congrArg List.length h.ks
      simpa using this.symm
    subst this
    exact .nil
  | p :: kvs, kds, h => by
    obtain ⟨d', r', rfl, h1, h2⟩ := h.cons_inv
    have ih := rel_putmap (k := k) r h2
    rw [List.map_cons, List.map_cons]
    by_cases hk : p.1 = k
    · rw [if_pos hk, if_pos hk]
      exact .cons r ih
    · rw [if_neg hk, if_neg hk]
      exact .cons (k := p.1) (v := p.2) h1 ih
theorem rel_put {κ : Type} [DecidableEq κ] {K : PySem.W.Frag} {F : Hp} {ι : List Addr} {k : κ} {v : V} {d : D} (r : Rel K F ι v d) {kvs : List (κ × V)} {kds : List (κ × D)} (h : RelKV K F ι kvs kds) : RelKV K F ι (putK kvs k v) (putD kds k d) := by
  unfold putK putD
  rw [rel_any k h]
  split
  · exact rel_putmap r h
  · exact h.append (.cons r .nil)
theorem closed_put {κ : Type} [DecidableEq κ] {n : Nat} {kds : List (κ × D)} {k : κ} {y : D} (h : closedV n kds = true) (hy : closed n y = true) : closedV n (putD kds k y) = true := by
  unfold closedV at h ⊢
  refine closedA_mem.mpr fun z hz => ?_
  obtain ⟨q, hq, rfl⟩ := List.mem_map.mp hz
  unfold putD at hq
  split at hq
  · obtain ⟨q', hq', rfl⟩ := List.mem_map.mp hq
    split
    · exact hy
    · exact closedA_mem.mp h _ (List.mem_map.mpr ⟨q', hq', rfl⟩)
  · rcases List.mem_append.mp hq with hq | hq
    · exact closedA_mem.mp h _ (List.mem_map.mpr ⟨q, hq, rfl⟩)
    · cases List.mem_singleton.mp hq
      exact hy
def opDget : D → D → Store → Option D := fun d e S => match dr S d, keyOf e with
  | .dct kds, some k => lookD kds k
  | _, _ => none
theorem xe_dget {i : Expr} (hu : X.A.units + 1 < cLine) (ho : XE X W o f) (hi : XE X W i g) (hs : NoSl i) : XE X W (.Subscript o i pos) (eBin opDget f g) := by
  refine peI (pe_dget hu ho hi hs) fun σ H Q h => ?_
  obtain ⟨F, ι, ρ, S, sm, r, q⟩ := h
  refine ⟨F, ι, ρ, S, sm, r, post_bind (R := RV' X.K) q fun x S1 F1 ι1 v H1 x1 s1 rv q1 => ?_⟩
  refine ⟨F1, ι1, ρ, S1, s1, r.mono x1, post_bind (R := RV' X.K) q1 fun y S2 F2 ι2 u H2 x2 s2 ru q2 => ?_⟩
  obtain ⟨z, hz, q3⟩ := post_lift q2
  unfold opDget at hz
  split at hz
  · next kds k h1 h2 =>
    obtain ⟨a, kvs, rfl, e1, e2⟩ := at_dct s2 (Rel.mono x2 rv) h1
    obtain ⟨w, hw, rw'⟩ := (rel_look e2).1 z hz
    cases rel_key ru h2
    exact ⟨a, w, rfl, by rw [← hw]; exact DGet.k e1, q3 F2 ι2 _ H2 (Step.refl _ _ _) s2 rw'⟩
  · cases hz
def dputC (x k y : D) (S : Store) : Option Store := match x, keyOf k with
  | .ref n, some k' => match S[n]? with
    | some (.dK kds) => if sz kds.length && closed n y then some (S.set n (.dK (putD kds k' y))) else none
    | _ => none
  | _, _ => none
def sDPut (fo fi fe : SemE) : SemS := fun ρ S => toS (fe ρ S) ρ fun y S1 => toS (fo ρ S1) ρ fun x S2 => toS (fi ρ S2) ρ fun i S3 => match dputC x i y S3 with
  | some S4 => .nx ρ S4
  | none => .stuck
theorem xs_dput {i : Expr} {fo fi fe : SemE} {pos' : Pos} (hu : X.A.units + 1 < cLine) (ho : XE X W o fo) (hi : XE X W i fi) (he : XE X W e fe) (hs : swapsWith e (some (.Subscript o i pos')) pos.line X.env = pure false := by rfl) :
    XS X W (.Assign [.Subscript o i pos'] e pos) (sDPut fo fi fe) := by
  refine psI (ps_dput hu ho hi he hs) fun Dn σ H hh => ?_
  obtain ⟨F, ι, ρ, S, s, r, q⟩ := hh
  refine ⟨F, ι, ρ, S, s, r, post_toS r q fun y S1 F1 ι1 v H1 x1 s1 rv q1 => ?_⟩
  refine ⟨F1, ι1, ρ, S1, s1, r.mono x1, post_toS (r.mono x1) q1 fun x S2 F2 ι2 u H2 x2 s2 ru q2 => ?_⟩
  refine ⟨F2, ι2, ρ, S2, s2, (r.mono x1).mono x2, post_toS ((r.mono x1).mono x2) q2 fun k S3 F3 ι3 w H3 x3 s3 rw' q3 => ?_⟩
  cases hz : dputC x k y S3 with
  | none => rw [hz] at q3; exact q3.elim
  | some S4 =>
    rw [hz] at q3
    unfold dputC at hz
    split at hz
    · next n k' hk =>
      split at hz
      · next kds hc =>
        split at hz
        · next hsz =>
          cases hz
          obtain ⟨a, rfl, ha'⟩ := rel_ref (Rel.mono x3 ru)
          cases rel_key rw' hk
          obtain ⟨kvs, g1, g2, g3⟩ := s3.cell n a _ ha' hc
          have hl : kvs.length = kds.length := by
            have := congrArg List.length g2.ks
            simpa using this
          obtain ⟨hsz, hcl⟩ := Bool.and_eq_true_iff.mp hsz
          refine ⟨a, _, rfl, DPut.k g1 (by rw [hl]; exact sz_lt hsz), ?_⟩
          obtain ⟨x4, s4⟩ := s3.write (c := .dK (putD kds k' y)) (o := .dK (putK kvs k' v)) ha' g3 ⟨_, upd_same, rel_put (Rel.mono (x2.trans x3) rv) g2, g3⟩ (closed_put (s3.cl n _ hc) hcl)
          exact q3 F3 ι3 σ _ x4 s4 (((r.mono x1).mono x2).mono x3)
        · cases hz
      · cases hz
    · cases hz
/-! displays -/
abbrev SemP := Env → Store → Out (List (Key × D))
def pNil : SemP := fun _ S => .ok [] S
def pCons (k : Key) (f : SemE) (g : SemP) : SemP := fun ρ S => (f ρ S).bind fun x S1 => (g ρ S1).bind fun xs S2 => .ok ((k, x) :: xs) S2
def mergeD (kds : List (Key × D)) : List (Key × D) := kds.foldl (fun acc q => putD acc q.1 q.2) []
def eDct (g : SemP) : SemE := fun ρ S => (g ρ S).bind fun kds S1 => if decide (kds.length ≤ 15) then .ok (.dct (mergeD kds)) S1 else .stuck
def eDctC (g : SemP) : SemE := fun ρ S => (g ρ S).bind fun kds S1 => if decide (kds.length ≤ 15) && closedV S1.length (mergeD kds) then .ok (.ref S1.length) (S1 ++ [.dK (mergeD kds)]) else .stuck
theorem rel_merge {K : PySem.W.Frag} {F : Hp} {ι : List Addr} : ∀ {kvs : List (Key × V)} {kds : List (Key × D)} {a : List (Key × V)} {b : List (Key × D)}, RelKV K F ι kvs kds → RelKV K F ι a b →
    RelKV K F ι (kvs.foldl (fun acc q => putK acc q.1 q.2) a) (kds.foldl (fun acc q => putD acc q.1 q.2) b)
  | [], kds, a, b, h, g => by
    have : kds = [] := by
      have := congrArg List.length h.ks
      simpa using this.symm
    subst this
    exact g
  | p :: kvs, kds, a, b, h, g => by
    obtain ⟨d', r', rfl, h1, h2⟩ := h.cons_inv
    show RelKV K F ι (kvs.foldl (fun acc q => putK acc q.1 q.2) (putK a p.1 p.2)) (r'.foldl (fun acc q => putD acc q.1 q.2) (putD b p.1 d'))
    exact rel_merge h2 (rel_put h1 g)
/-- the pairs of a display -/
structure XP (X : Cx) (W : WX) (pos : Pos) (keys : List (Option Expr)) (values : List Expr) (g : SemP) : Prop where
  pp : ∃ trs, PPs X pos keys values trs ∧ ∀ (σ : L2.St) (H : Hp) (F : Hp) (ι : List Addr) (ρ : Env) (S : Store) (Q : List (V × V) → Hp → Prop), Sim X.K X.mg F ι S H → REnv X.K F ι σ ρ →
    Post ⟨X.K, X.mg, W⟩ (fun _ F' ι' _ (ps : List (V × V)) (kds : List (Key × D)) => ∃ kvs : List (Key × V), ps = kvs.map (fun kv => (kV kv.1, kv.2)) ∧ RelKV X.K F' ι' kvs kds) F ι H σ (g ρ S) Q → tPairs trs σ H Q
theorem xp_nil : XP X W pos [] [] pNil := ⟨[], pps_nil, fun σ H F ι ρ S Q s r q => q F ι [] H (Step.refl _ _ _) s ⟨[], rfl, .nil⟩⟩
theorem xp_cons {k v : Expr} {ks : List (Option Expr)} {vs : List Expr} {key : Key} {gp : SemP} (hk : PE X k (tC (kV key))) (hv : XE X W v g) (hr : XP X W pos ks vs gp) : XP X W pos (some k :: ks) (v :: vs) (pCons key g gp) := by
  obtain ⟨trs, h1, h2⟩ := hr.pp
  refine ⟨_, pps_cons hk hv h1, fun σ H F ι ρ S Q s r q => ⟨F, ι, ρ, S, s, r, post_bind (R := RV' X.K) q (fun x S1 F1 ι1 v H1 x1 s1 rv q1 => ?_) (fun _ r => r)⟩⟩
  refine h2 σ H1 F1 ι1 ρ S1 _ s1 (r.mono x1) (post_bind (R := fun _ F' ι' _ (ps : List (V × V)) (kds : List (Key × D)) => ∃ kvs : List (Key × V), ps = kvs.map (fun kv => (kV kv.1, kv.2)) ∧ RelKV X.K F' ι' kvs kds) q1 (fun kds S2 F2 ι2 ps H2 x2 s2 rp q2 => ?_) (fun _ r => r))
  obtain ⟨kvs, rfl, rk⟩ := rp
  exact q2 F2 ι2 _ H2 (Step.refl _ _ _) s2 ⟨(key, v) :: kvs, rfl, .cons (Rel.mono x2 rv) rk⟩
theorem tE_dict {trs : List (TE × TE)} {gp : SemP} (hp : ∀ (σ : L2.St) (H : Hp) (F : Hp) (ι : List Addr) (ρ : Env) (S : Store) (Q : List (V × V) → Hp → Prop), Sim X.K X.mg F ι S H → REnv X.K F ι σ ρ →
    Post ⟨X.K, X.mg, W⟩ (fun _ F' ι' _ (ps : List (V × V)) (kds : List (Key × D)) => ∃ kvs : List (Key × V), ps = kvs.map (fun kv => (kV kv.1, kv.2)) ∧ RelKV X.K F' ι' kvs kds) F ι H σ (gp ρ S) Q → tPairs trs σ H Q)
    {σ : L2.St} {H : Hp} {Q : VK} {F : Hp} {ι : List Addr} {ρ : Env} {S : Store} (sm : Sim X.K X.mg F ι S H) (r : REnv X.K F ι σ ρ)
    (hz : ∀ kds S1, gp ρ S = .ok kds S1 → kds.length ≤ 15) (hx : ∀ c fs S1, gp ρ S ≠ .exc c fs S1) (hs : gp ρ S ≠ .stuck)
    (k : ∀ kds S1 F1 ι1 a H1 kvs, gp ρ S = .ok kds S1 → Step F ι H F1 ι1 H1 → Sim X.K X.mg F1 ι1 S1 H1 → H a = none → H1 a = some (.dK kvs) → F1 a = none → a ∉ ι1 → RelKV X.K F1 ι1 kvs (mergeD kds) → Q (.ref a) H1) : tDisp trs σ H Q := by
  intro a ha
  obtain ⟨x0, s0⟩ := sm.loose (o := .dK []) ha
  obtain ⟨hf, hi⟩ := sm.fresh ha
  refine hp σ _ F ι ρ S _ s0 r ?_
  cases e : gp ρ S with
  | exc c fs S1 => exact (hx _ _ _ e).elim
  | stuck => exact (hs e).elim
  | ok kds S1 =>
    intro F1 ι1 ps H1 x1 s1 rp
    obtain ⟨kvs, rfl, rk⟩ := rp
    obtain ⟨k1, k2, k3⟩ := x1.keep a _ upd_same hf hi trivial
    have hl : kvs.length = kds.length := by
      have := congrArg List.length rk.ks
      simpa using this
    refine ⟨k1, kvs, rfl, by rw [hl]; exact hz _ _ e, ?_⟩
    have x2 := x0.trans x1
    have hm : Sim X.K X.mg F1 ι1 S1 (upd H1 a (.dK (mergeK [] kvs))) := by
      refine ⟨fun b o e1 => ?_, s1.len, s1.nd, fun n b c hb hc => ?_, s1.cl, s1.tab.upd k1 trivial, s1.nt, tt_upd s1.tt (by intro _ z; cases z)⟩
      · rw [upd_ne (ne_of_none e1 k2)]
        exact s1.sub b o e1
      · exact (s1.cell n b c hb hc).mono (Ext.refl _ _) (fun z => z) fun o z => by
          rw [upd_ne (show b ≠ a from fun z2 => k3 (by rw [← z2]; exact List.mem_of_getElem? hb))]
          exact z
    refine k kds S1 F1 ι1 a _ (mergeK [] kvs) e ⟨x2.toExt, fun b o e1 e2 e3 e4 => ?_, fun b hb => x2.dom b (upd_dom hb)⟩ hm ha upd_same k2 k3 (rel_merge rk .nil)
    obtain ⟨z1, z2, z3⟩ := x2.keep b o e1 e2 e3 e4
    exact ⟨by rw [upd_ne (ne_of_none e1 ha)]; exact z1, z2, z3⟩
/-- only displays whose parts raise nothing -/
def noXP (g : SemP) : SemP := fun ρ S => noX (g ρ S)
theorem xe_dct {keys : List (Option Expr)} {values : List Expr} {gp : SemP} (h : XP X W pos keys values gp) (hall : keys.all (·.isSome) = true := by rfl) (hl : keys.length = values.length := by rfl) (h0 : keys ≠ [] := by intro z; cases z) (h15 : keys.length ≤ 15 := by decide) : XE X W (.Dict keys values pos) (eDct (noXP gp)) := by
  obtain ⟨trs, h1, h2⟩ := h.pp
  refine peI (pe_disp h1 hall hl h0 h15) fun σ H Q hh => ?_
  obtain ⟨F, ι, ρ, S, sm, r, q⟩ := hh
  unfold eDct noXP at q
  cases e : gp ρ S with
  | exc c fs S1 => rw [e] at q; exact q.elim
  | stuck => rw [e] at q; exact q.elim
  | ok kds S1 =>
    rw [e] at q
    simp only [noX_ok, Out.ok_bind] at q
    obtain ⟨hz, q⟩ := ite_stuck q
    refine tE_dict h2 sm r (fun _ _ e' => by rw [e] at e'; cases e'; exact of_decide_eq_true hz) (fun _ _ _ e' => by rw [e] at e'; cases e') (by rw [e]; intro z; cases z) fun kds' S1' F1 ι1 a H1 kvs e' x1 s1 ha h1 hf hi rk => ?_
    rw [e] at e'
    cases e'
    obtain ⟨x0, x2, s2⟩ := s1.freezeNew x1 ha h1 hf hi
    exact q _ _ _ _ x2 s2 (.dct upd_same rk.ks (RelAll.mono0 x0 rk.vs))
theorem xe_dctC {keys : List (Option Expr)} {values : List Expr} {gp : SemP} (h : XP X W pos keys values gp) (hall : keys.all (·.isSome) = true := by rfl) (hl : keys.length = values.length := by rfl) (h0 : keys ≠ [] := by intro z; cases z) (h15 : keys.length ≤ 15 := by decide) : XE X W (.Dict keys values pos) (eDctC (noXP gp)) := by
  obtain ⟨trs, h1, h2⟩ := h.pp
  refine peI (pe_disp h1 hall hl h0 h15) fun σ H Q hh => ?_
  obtain ⟨F, ι, ρ, S, sm, r, q⟩ := hh
  unfold eDctC noXP at q
  cases e : gp ρ S with
  | exc c fs S1 => rw [e] at q; exact q.elim
  | stuck => rw [e] at q; exact q.elim
  | ok kds S1 =>
    rw [e] at q
    simp only [noX_ok, Out.ok_bind] at q
    obtain ⟨hz, q⟩ := ite_stuck q
    refine tE_dict h2 sm r (fun _ _ e' => by rw [e] at e'; cases e'; exact of_decide_eq_true (Bool.and_eq_true_iff.mp hz).1) (fun _ _ _ e' => by rw [e] at e'; cases e') (by rw [e]; intro z; cases z) fun kds' S1' F1 ι1 a H1 kvs e' x1 s1 ha h1 hf hi rk => ?_
    rw [e] at e'
    cases e'
    have xx : Ext F1 ι1 F1 (ι1 ++ [a]) := ⟨Same.refl _, List.prefix_append _ _⟩
    obtain ⟨x2, s2⟩ := s1.newCell x1 (c := .dK (mergeD kds)) ha hi ⟨kvs, h1, rk.mono0 xx, hf⟩ (Bool.and_eq_true_iff.mp hz).2
    exact q _ _ _ _ x2 s2 (.ref (by rw [← s1.len]; simp))
/-- the empty one, frozen -/
theorem xe_dct0 : XE X W (.Dict [] [] pos) (eC (.dct [])) := by
  refine peI pe_dnewK fun σ H Q hh => ?_
  obtain ⟨F, ι, ρ, S, sm, r, q⟩ := hh
  intro a ha
  obtain ⟨x2, s2⟩ := sm.frozen (o := .dK []) ha
  exact q _ _ _ _ x2 s2 (.dct (kvs := []) upd_same rfl .nil)
end
end Fk

set_option Elab.async false
set_option linter.all false
set_option maxRecDepth 100000
namespace Fk
open PySem PySem.Spec PyProof.Rows L2
/-! ### defs -/
abbrev FSem := List D → Store → Out D
def startD (n : Nat) (ds : List D) : Env := ds.map some ++ List.replicate (n - ds.length) none
def endOf : OutS → Out D
  | .nx _ S => .ok .non S
  | .rt d S => .ok d S
  | .exc c fs _ S => .exc c fs S
  | _ => .stuck
def gc (n : Nat) : Out D → Out D
  | .ok d S => if closed n d then .ok d (S.take n) else .ok d S
  | .exc c fs S => if closedV n fs then .exc c fs (S.take n) else .exc c fs S
  | .stuck => .stuck
/-- a def of so many names, with this body -/
def fnD (n : Nat) (g : SemS) : FSem := fun ds S => gc S.length (endOf (g (startD n ds) S))
/-- its promise -/
def spD (K : PySem.W.Frag) (mg : Str → Option Value) (n : Nat) (fs : FSem) : Sp := fun vs H Q E =>
  ∃ F ι ds S, Sim K mg F ι S H ∧ RelAll K F ι vs ds ∧ ds.length = n ∧ Post ⟨K, mg, fun c d _ H => E c d H⟩ (RV' K) F ι H [] (fs ds S) Q
/-- a def that keeps its promise where no repr is under way -/
structure FnG (P : Program) (w : World) (K : PySem.W.Frag) (mg : Str → Option Value) (base : Heap) (k : Nat) (f : Addr) (fd : FuncData) (ps : List Str) (sp : Sp) : Prop where
  len : ∀ vs H Q E, sp vs H Q E → vs.length = ps.length
  run : ∀ (A : Around) (outer : List PySem.Env) (s : Shared) (H : Hp) (args : Args) (us : List Value) (vs : List V) (Q : VK) (E : XK), A.guards = some [] → Room k A → Env0 P w K mg base A outer s H → BindsTo s fd args (ps.zip us) → Vals vs us → sp vs H Q E →
    codeAny (model P w) A (.call (.ref f) args) (CR (L2.CX P w) outer P w H s Q E) s
theorem FnG.mono {P : Program} {w : World} {K : PySem.W.Frag} {mg : Str → Option Value} {base : Heap} {j k : Nat} {f : Addr} {fd : FuncData} {ps : List Str} {sp : Sp} (F : FnG P w K mg base j f fd ps sp) (h : j ≤ k) : FnG P w K mg base k f fd ps sp :=
  ⟨F.len, fun A outer s H args us vs Q E hg hr => F.run A outer s H args us vs Q E hg (hr.mono h)⟩
section
variable {P : Program} {w : World} {K : PySem.W.Frag} {mg : Str → Option Value} {base : Heap} {x qual : Str} {params : Arguments} {body : List Stmt} {scope : Scope} {dvs : List V} {kws : List (Str × V)} {f : Addr} {fd : FuncData}
/-- from a def's body to its promise -/
theorem fnG_of {N ps : List Str} {k : Nat} {sp : Sp} (F : FunD K x qual params body scope dvs kws f fd) (S : FnScope N ps scope) (len : ∀ vs H Q E, sp vs H Q E → vs.length = ps.length)
    (hb : ∀ (cdv : Value) (A : Around) (outer : List PySem.Env) (s : Shared) (H : Hp) (vs : List V) (Q : VK) (E : XK), codeOf K f = some cdv → A.guards = some [] → Room k (A.deeper (envOfC qual scope s.heap.objs.size f cdv)) → sp vs H Q E →
      ∃ t, PSs (cxOf (L2.CX P w) P w K mg base N qual scope f cdv A outer s H E) body t ∧ t { nx := fun _ H' => Q .non H', rt := Q } (start N vs) H) : FnG P w K mg base (k + 1) f fd ps sp := by
  obtain ⟨oc, od, dV, kV, doc, pm, an, cdv, ct, osl, rfl, lk, hcd, _, _⟩ := F.ex
  refine ⟨len, fun A outer s H args us vs Q E hg hr e0 hbi r hsp => ?_⟩
  have kin : K.In s.heap := e0.mod.kin.keeps fun b o e => (e0.bs b o e).1
  have free : s.heap.NoLimit := e0.mod.nolimit.keeps fun b o e => (e0.bs b o e).1
  have hkind : ∀ y ∈ ps.zip us, scope.names.lookup y.1 = some .local ∨ (scope.names.lookup y.1 = some .cell ∧ ((cellsFrom (s.heap.objs.size + 1) scope.names []).lookup y.1).isSome = true) := by
    rintro ⟨n, v⟩ hy
    rcases S.par n (List.of_mem_zip hy).1 with q | q
    · exact .inl q
    · exact .inr ⟨q, PySem.W.cellsFrom_some _ _ _ (.inl q)⟩
  refine codeAny_call_function hr.depth (kin _ _ lk) rfl S.co S.gen rfl (PySem.W.codeRec_of kin hcd) (hbi _ _ _ _ ?_)
  refine wpAny_newFunctionEnv_cells S.kind hkind fun env he s1 ic => ?_
  subst he
  refine ⟨free.keeps ic.toInCall.keep, codeAny_func ?_⟩
  obtain ⟨t, ht, hq⟩ := hb cdv A outer s H vs Q E (by unfold codeOf; rw [lk] <;> rfl) hg (hr.deeper _) hsp
  have I := inv_start (CX := L2.CX P w) (E := E) S hr.hd e0 (len _ _ _ _ hsp) r ic
  refine wpAny_mono (ht.run [] s1 (start N vs) H _ I hq) (fun fl s' hs => ?_) fun e s' hs => hs
  cases fl with
  | ret u =>
    obtain ⟨v, σ', H', J, rv, q⟩ := hs
    exact ⟨v, H', J.os, J.bare, J.base, J.hok, rv, q⟩
  | next =>
    obtain ⟨σ', H', J, q⟩ := hs
    exact ⟨.non, H', J.os, J.bare, J.base, J.hok, rfl, q⟩
  | brk => obtain ⟨_, _, _, q⟩ := hs; exact False.elim q
  | cont => obtain ⟨_, _, _, q⟩ := hs; exact False.elim q
theorem REnv.start {F : Hp} {ι : List Addr} {vs : List V} {ds : List D} (r : RelAll K F ι vs ds) (N : List Str) : REnv K F ι (start N vs) (startD N.length ds) := by
  unfold L2.start startD
  refine ⟨by simp [r.length], fun i d h => ?_⟩
  by_cases hi : i < ds.length
  · rw [List.getElem?_append_left (by simpa using hi), List.getElem?_map] at h
    rw [List.getElem?_append_left (by simpa [r.length] using hi), List.getElem?_map]
    obtain ⟨d', h1, h2⟩ := Option.map_eq_some_iff.mp h
    cases h2
    obtain ⟨v, hv, rv⟩ := r.get h1
    exact ⟨v, by rw [hv]; rfl, rv⟩
  · rw [List.getElem?_append_right (by simpa using hi), List.getElem?_replicate] at h
    split at h <;> cases h
/-- at a return the cells of the def are let go -/
theorem Sim.back {F F' H H' : Hp} {ι ι' : List Addr} {S S' : Store} (s : Sim K mg F ι S H) (x : Step F ι H F' ι' H') (s' : Sim K mg F' ι' S' H') : Step F ι H F' ι H' ∧ Sim K mg F' ι (S'.take S.length) H' ∧ ι = ι'.take S.length := by
  have e : ι = ι'.take S.length := by
    obtain ⟨t, rfl⟩ := x.pre
    rw [← s.len, List.take_left']
    rfl
  have hle : S.length ≤ ι'.length := by
    obtain ⟨t, rfl⟩ := x.pre
    rw [← s.len, List.length_append]
    exact Nat.le_add_right _ _
  have hl : S.length ≤ S'.length := by rw [← s'.len]; exact hle
  refine ⟨⟨⟨x.same, List.prefix_rfl⟩, fun b o e1 e2 e3 e4 => let ⟨k1, k2, _⟩ := x.keep b o e1 e2 e3 e4; ⟨k1, k2, e3⟩, x.dom⟩, ⟨s'.sub, by rw [s.len, List.length_take]; omega, s.nd, fun n a c ha hc => ?_, fun n c hc => ?_, s'.tab, s'.nt, s'.tt⟩, e⟩
  · have hn : n < S.length := by rw [← s.len]; exact (List.getElem?_eq_some_iff.mp ha).1
    rw [List.getElem?_take_of_lt hn] at hc
    have ha' : ι'[n]? = some a := by
      rw [e, List.getElem?_take_of_lt hn] at ha
      exact ha
    have ok := s'.cell n a c ha' hc
    have hcl := s'.cl n c hc
    have mono : ∀ {vs : List V} {ds : List D}, RelAll K F' ι' vs ds → closedA n ds = true → RelAll K F' ι vs ds := fun {vs ds} r q => by
      rw [e]
      exact r.back hle (closedA_mem.mpr fun z hz => by
        have := closedA_mem.mp q z hz
        exact closed_mono (by omega) this)
    cases c with
    | lst b ds =>
      cases b with
      | true => obtain ⟨vs, h, r, f⟩ := ok; exact ⟨vs, h, mono r hcl, f⟩
      | false => obtain ⟨vs, h, r⟩ := ok; exact ⟨vs, h, mono r hcl⟩
    | dK kds => obtain ⟨vs, h, r, f⟩ := ok; exact ⟨vs, h, ⟨r.ks, mono r.vs hcl⟩, f⟩
    | dT kds => obtain ⟨vs, h, r, f⟩ := ok; exact ⟨vs, h, ⟨r.ks, mono r.vs hcl⟩, f⟩
    | ins c fs => obtain ⟨C, dx, fv, m, h, r, f⟩ := ok; exact ⟨C, dx, fv, m, h, ⟨r.ks, mono r.vs hcl⟩, f⟩
  · by_cases hn : n < S.length
    · rw [List.getElem?_take_of_lt hn] at hc
      exact s'.cl n c hc
    · rw [List.getElem?_eq_none (by rw [List.length_take]; omega)] at hc
      cases hc
theorem gcP {Q : VK} {F1 H : Hp} {ι : List Addr} {E : XK} {n : Nat} {d : D} {S' : Store} (q : Post ⟨K, mg, fun c d _ H => E c d H⟩ (RV' K) F1 ι H [] (gc n (.ok d S')) Q) :
    if closed n d then Post ⟨K, mg, fun c d _ H => E c d H⟩ (RV' K) F1 ι H [] (.ok d (S'.take n)) Q else Post ⟨K, mg, fun c d _ H => E c d H⟩ (RV' K) F1 ι H [] (.ok d S') Q := by
  by_cases h : closed n d = true
  · rw [if_pos h]; simpa only [gc, if_pos h] using q
  · rw [if_neg h]; simpa only [gc, if_neg h] using q
theorem gcX {Q : VK} {F1 H : Hp} {ι : List Addr} {E : XK} {n : Nat} {c : Str} {fs : List (Str × D)} {S' : Store} (q : Post ⟨K, mg, fun c d _ H => E c d H⟩ (RV' K) F1 ι H [] (gc n (.exc c fs S')) Q) :
    if closedV n fs then Post ⟨K, mg, fun c d _ H => E c d H⟩ (RV' K) F1 ι H [] (.exc c fs (S'.take n)) Q else Post ⟨K, mg, fun c d _ H => E c d H⟩ (RV' K) F1 ι H [] (.exc c fs S') Q := by
  by_cases h : closedV n fs = true
  · rw [if_pos h]; simpa only [gc, if_pos h] using q
  · rw [if_neg h]; simpa only [gc, if_neg h] using q
/-- THE RULE for a def: its body as it is read by this layer -/
theorem fn_okC {N ps : List Str} {k : Nat} {g : SemS} (F : FunD K x qual params body scope dvs kws f fd) (S : FnScope N ps scope)
    (hb : ∀ (cdv : Value) (A : Around) (outer : List PySem.Env) (s : Shared) (H : Hp) (E : XK), codeOf K f = some cdv → A.guards = some [] → Room k (A.deeper (envOfC qual scope s.heap.objs.size f cdv)) →
      XSs (cxOf (L2.CX P w) P w K mg base N qual scope f cdv A outer s H E) (fun c d _ H => E c d H) body g) : FnG P w K mg base (k + 1) f fd ps (spD K mg ps.length (fnD N.length g)) := by
  refine fnG_of F S (fun vs H Q E ⟨F, ι, ds, S, s, r, hl, _⟩ => by rw [r.length]; exact hl) fun cdv A outer s H vs Q E hcc hg hr hsp => ⟨_, hb cdv A outer s H E hcc hg hr, ?_⟩
  obtain ⟨F1, ι, ds, St, sm, r, hl, q⟩ := hsp
  refine ⟨F1, ι, startD N.length ds, St, sm, REnv.start r N, ?_⟩
  unfold fnD at q
  have fin : ∀ d S', Post ⟨K, mg, fun c d _ H => E c d H⟩ (RV' K) F1 ι H [] (gc St.length (.ok d S')) Q → ∀ F' ι' v H', Step F1 ι H F' ι' H' → Sim K mg F' ι' S' H' → Rel K F' ι' v d → Q v H' := fun d S' q F' ι' v H' x s' rv => by
    have q := gcP q
    split at q
    · next hc =>
      obtain ⟨x2, s2, e2⟩ := sm.back x s'
      have hle : St.length ≤ ι'.length := by
        obtain ⟨t, rfl⟩ := x.pre
        rw [← sm.len, List.length_append]
        exact Nat.le_add_right _ _
      exact q F' ι v H' x2 s2 (by
        show Rel K F' ι v d
        rw [e2]
        exact rv.back hle hc)
    · exact q F' ι' v H' x s' rv
  cases e : g (startD N.length ds) St with
  | nx ρ S' => rw [e] at q; exact fun F' ι' σ' H' x s' _ => fin .non S' q F' ι' .non H' x s' .non
  | rt d S' => rw [e] at q; exact fin d S' q
  | bk ρ S' => rw [e] at q; exact q.elim
  | ct ρ S' => rw [e] at q; exact q.elim
  | stuck => rw [e] at q; exact q.elim
  | exc c fs ρ S' =>
    rw [e] at q
    intro F' ι' C d σ' H' x s' _ hm xd
    have q : Post ⟨K, mg, fun c d _ H => E c d H⟩ (RV' K) F1 ι H [] (gc St.length (.exc c fs S')) Q := q
    have q := gcX q
    split at q
    · next hc =>
      obtain ⟨x2, s2, e2⟩ := sm.back x s'
      have hle : St.length ≤ ι'.length := by
        obtain ⟨t, rfl⟩ := x.pre
        rw [← sm.len, List.length_append]
        exact Nat.le_add_right _ _
      refine q F' ι C d H' x2 s2 hm ?_
      rcases xd with xd | ⟨h1, dx, fv, h2, h0, hF, hi, h3, h4⟩
      · exact .inl xd
      · exact .inr ⟨h1, dx, fv, h2, h0, hF, fun z => hi (by rw [e2] at z; exact List.mem_of_mem_take z), h3, ⟨h4.ks, by
          rw [e2]
          exact h4.vs.back hle hc⟩⟩
    · exact q F' ι' C d H' x s' hm xd
theorem fn_ok {N ps : List Str} {k : Nat} {g : SemS} (F : FunD K x qual params body scope dvs kws f fd) (S : FnScope N ps scope)
    (hb : ∀ (cdv : Value) (A : Around) (outer : List PySem.Env) (s : Shared) (H : Hp) (E : XK), A.guards = some [] → Room k (A.deeper (envOfC qual scope s.heap.objs.size f cdv)) →
      XSs (cxOf (L2.CX P w) P w K mg base N qual scope f cdv A outer s H E) (fun c d _ H => E c d H) body g) : FnG P w K mg base (k + 1) f fd ps (spD K mg ps.length (fnD N.length g)) :=
  fn_okC F S fun cdv A outer s H E _ => hb cdv A outer s H E
end
/-! ### calls -/
def eCall (fs : FSem) (dd : List D) (fa : SemA) : SemE := fun ρ S => (fa ρ S).bind fun ds S1 => fs (ds ++ dd) S1
section
variable {X : Cx} {W : WX} {k : Nat} {f : Addr} {fd : FuncData} {ps : List Str} {fs : FSem} {dvs : List V} {ds : List Value} {dd : List D} {x : Str} {p pos : Pos} {e : Expr} {es : List Expr} {fa : SemA}
theorem xe_call (F : FnG X.prog X.w X.K X.mg X.base k f fd ps (spD X.K X.mg ps.length fs)) (hG : X.A.guards = some []) (hr : Room k X.A) (hg : Gl X x) (hm : X.mg x = some (.ref f)) (hk : PySem.W.keepIn X.K (.ref f) = true) (hb : Binds X.K fd ps ds) (hd : Vals dvs ds)
    (hD : ∀ K F ι, RelAll K F ι dvs dd) (tk : Takes X W) (ha : XA X W (e :: es) fa) (hl : (e :: es).length + dd.length = ps.length := by rfl) (hlen : ∀ ρ S xs S', fa ρ S = .ok xs S' → xs.length = (e :: es).length) (hdb : (x == ("__debug__" : Str)) = false := by decide)
    (he : starEach (e :: es) X.env = (false, eval e X.env) :: starEach es X.env := by rfl) (hpl : (backTo pos (starEach es X.env)).any (·.1) = false := by rfl) : XE X W (.Call (.Name x p) (e :: es) [] pos) (eCall fs dd fa) := by
  refine ⟨fun pins s σ H Q I h => ?_⟩
  refine wpAny_Call_Name_kw (ld_glob I hg hm ?_ hdb)
  obtain ⟨F0, ι0, ρ, S, sm, r, q⟩ := h
  have key : tA ⟨X.K, X.mg, W⟩ fa σ H fun vs H1 => spD X.K X.mg ps.length fs (vs ++ dvs) H1 Q fun c d H' => W c d σ H' := by
    refine ⟨F0, ι0, ρ, S, sm, r, ?_⟩
    unfold eCall at q
    cases ex : fa ρ S with
    | exc c fl S1 => rw [ex] at q; exact q
    | stuck => rw [ex] at q; exact q.elim
    | ok xs S1 =>
      rw [ex] at q
      intro F1 ι1 vs H1 x1 s1 rv
      have q1 := Post.ext x1 q stV
      simp only [Out.ok_bind] at q1
      refine ⟨F1, ι1, xs ++ dd, S1, s1, RelAll.append rv (hD _ _ _), by rw [List.length_append, hlen _ _ _ _ ex]; exact hl, ?_⟩
      cases eo : fs (xs ++ dd) S1 with
      | ok d S2 => rw [eo] at q1; exact q1
      | exc c fl S2 => rw [eo] at q1; exact q1
      | stuck => rw [eo] at q1; exact q1.elim
  refine PySem.W.callWith_K (h₀ := X.base) I.ok.mod.kin hk (thn (ha.run pos pins s σ H _ I key) fun us s1 ⟨vs, H1, I1, rv, q1⟩ => ⟨I1.kIn, ?_⟩) he hpl
  have r2 : Vals (vs ++ dvs) (us ++ ds) := rv.append hd
  have hl2 : (us ++ ds).length = ps.length := by rw [← r2.length]; exact F.len _ _ _ _ q1
  refine wpAny_call (codeAny_mono (F.run X.A X.stack s1 H1 ⟨us, []⟩ (us ++ ds) (vs ++ dvs) Q _ hG hr I1.env0 (hb s1 us I1.kIn hl2) r2 q1) fun r s' hq => ?_)
  cases r with
  | error ev => exact tk _ _ (L2.XE.of_call I1 (fun _ _ _ h => h) hq)
  | ok fl =>
    cases fl with
    | ret u => exact I1.after hq
    | next => exact False.elim hq
    | brk => exact False.elim hq
    | cont => exact False.elim hq
theorem alen_nil : ∀ ρ S xs S', aNil ρ S = .ok xs S' → xs.length = 0 := fun _ _ _ _ h => by cases h; rfl
theorem alen_cons {g : SemE} {n : Nat} (h : ∀ ρ S xs S', fa ρ S = .ok xs S' → xs.length = n) : ∀ ρ S xs S', aCons g fa ρ S = .ok xs S' → xs.length = n + 1 := fun ρ S xs S' hh => by
  unfold aCons at hh
  cases e1 : g ρ S with
  | ok d S1 =>
    rw [e1] at hh
    simp only [Out.ok_bind] at hh
    cases e2 : fa ρ S1 with
    | ok ds S2 =>
      rw [e2] at hh
      cases hh
      rw [List.length_cons, h _ _ _ _ e2]
    | exc c fl S2 => rw [e2] at hh; cases hh
    | stuck => rw [e2] at hh; cases hh
  | exc c fl S1 => rw [e1] at hh; cases hh
  | stuck => rw [e1] at hh; cases hh
end
end Fk

set_option Elab.async false
set_option linter.all false
set_option maxRecDepth 100000
namespace Fk
open PySem PySem.Spec PyProof.Rows L2
/-! ### one rule or another -/
def orE {α : Type} (f g : Env → Store → Out α) : Env → Store → Out α := fun ρ S => match f ρ S with
  | .stuck => g ρ S
  | o => o
theorem tG_or {α β : Type} {p : Pl} {R : Hp → Hp → List Addr → Hp → β → α → Prop} {f g : Env → Store → Out α} {σ : L2.St} {H : Hp} {Q : β → Hp → Prop} (h : tG p R (orE f g) σ H Q) : tG p R f σ H Q ∨ tG p R g σ H Q := by
  obtain ⟨F, ι, ρ, S, s, r, q⟩ := h
  unfold orE at q
  cases e : f ρ S with
  | stuck => rw [e] at q; exact .inr ⟨F, ι, ρ, S, s, r, q⟩
  | ok a S1 => rw [e] at q; exact .inl ⟨F, ι, ρ, S, s, r, by rw [e]; exact q⟩
  | exc c fs S1 => rw [e] at q; exact .inl ⟨F, ι, ρ, S, s, r, by rw [e]; exact q⟩
section
variable {X : Cx} {W : WX} {e : Expr} {f g : SemE}
theorem xe_orE (h1 : XE X W e f) (h2 : XE X W e g) : XE X W e (orE f g) := ⟨fun pins s σ H Q I q => (tG_or q).elim (fun q => h1.run pins s σ H Q I q) fun q => h2.run pins s σ H Q I q⟩
theorem xl_orE {f g : SemA} (h1 : XL X W e f) (h2 : XL X W e g) : XL X W e (orE f g) := ⟨fun pins s σ H Q I q => (tG_or q).elim (fun q => h1.run pins s σ H Q I q) fun q => h2.run pins s σ H Q I q⟩
theorem xi_orE {tg : Expr} {f g : SemA} (h1 : XI X W tg e f) (h2 : XI X W tg e g) : XI X W tg e (orE f g) := ⟨fun pins s σ H Q I q => (tG_or q).elim (fun q => h1.run pins s σ H Q I q) fun q => h2.run pins s σ H Q I q⟩
/-! ### a cell is let go -/
def fzC (n : Nat) (S : Store) : Option Cell → Out D
  | some (.lst true xs) => .ok (.lst xs) (S.set n (.lst false xs))
  | some (.lst false xs) => .ok (.lst xs) S
  | _ => .stuck
def fzO : D → Store → Out D
  | .ref n, S => fzC n S S[n]?
  | d, S => .ok d S
def eFz (f : SemE) : SemE := fun ρ S => (f ρ S).bind fzO
theorem xe_fz (h : XE X W e f) : XE X W e (eFz f) := by
  refine peI h fun σ H Q hh => ?_
  obtain ⟨F, ι, ρ, S, s, r, q⟩ := hh
  refine ⟨F, ι, ρ, S, s, r, post_bind (R := RV' X.K) q fun x S1 F1 ι1 v H1 x1 s1 rv q1 => ?_⟩
  have rv : Rel X.K F1 ι1 v x := rv
  have plain : fzO x S1 = .ok x S1 → Q v H1 := fun e => by
    rw [e] at q1
    exact q1 F1 ι1 v H1 (Step.refl _ _ _) s1 rv
  cases rv with
  | @ref n a h1 =>
    have q1 : Post ⟨X.K, X.mg, W⟩ (RV' X.K) F1 ι1 H1 σ (fzC n S1 S1[n]?) Q := q1
    cases hc : S1[n]? with
    | none => rw [hc] at q1; exact q1.elim
    | some c =>
      rw [hc] at q1
      cases c with
      | lst b xs =>
        cases b with
        | true =>
          obtain ⟨vs, g1, g2, g3⟩ := s1.cell n a _ h1 hc
          obtain ⟨x2, s2⟩ := s1.freeze h1 g3 g1 g2 (s1.cl n _ hc)
          exact q1 _ _ _ H1 x2 s2 (.lst upd_same (RelAll.mono x2 g2))
        | false =>
          obtain ⟨vs, g1, g2⟩ := s1.cell n a _ h1 hc
          exact q1 _ _ _ H1 (Step.refl _ _ _) s1 (.lst g1 g2)
      | _ => exact q1.elim
  | _ => exact plain rfl
end
/-! ### where the code stands -/
structure CxE (X : Cx) (W : WX) (k : Nat) : Prop where
  nd : X.N.Nodup
  calm : X.calm = true
  g : X.A.guards = some []
  room : Room k X.A
  tk : Takes X W
  sm : SM X
theorem takes_F {X : Cx} : Takes X WF := fun u s' ⟨a, B, sI, pins, σ, H, cls, d, e, I, nb, up, sky, na, os, ag, w⟩ => w.elim
theorem CxE.blk {X : Cx} {W : WX} {k : Nat} (c : CxE X W k) (s : Shared) (H : Hp) (scope : Scope) (cenv : PySem.Env) (fp : List Addr) : CxE (X.blk s H scope cenv fp) WF k := ⟨c.nd, c.calm, c.g, c.room, takes_F, c.sm⟩
theorem CxE.u64 {X : Cx} {W : WX} {k : Nat} (c : CxE X W k) : X.A.units + 64 < cLine := by have := c.room.un; omega
theorem CxE.u65 {X : Cx} {W : WX} {k : Nat} (c : CxE X W k) : X.A.units + 65 < cLine := by have := c.room.un; omega
theorem CxE.u1 {X : Cx} {W : WX} {k : Nat} (c : CxE X W k) : X.A.units + 1 < cLine := by have := c.room.un; omega
section
variable {P : Program} {w : World} {K : PySem.W.Frag} {mg : Str → Option Value} {base : Heap} {N : List Str} {qual : Str} {scope : Scope} {f : Addr} {cdv : Value} {A : Around} {outer : List PySem.Env} {s : Shared} {H : Hp} {E : XK} {k : Nat}
theorem cxe_of (hN : N.Nodup) (hg : A.guards = some []) (hr : Room k (A.deeper (envOfC qual scope s.heap.objs.size f cdv))) (hb : ∃ o, base.get? sysModules = some o ∧ o.cls ≠ .type "list") :
    CxE (cxOf (L2.CX P w) P w K mg base N qual scope f cdv A outer s H E) (fun c d _ H => E c d H) k := ⟨hN, rfl, hg, hr, takes_of rfl rfl rfl rfl, hb⟩
theorem own_of : PassesOwn (model P w) (A.deeper (envOfC qual scope s.heap.objs.size f cdv)) (envOfC qual scope s.heap.objs.size f cdv) (cxOf (L2.CX P w) P w K mg base N qual scope f cdv A outer s H E).xe := passes_of (X := cxOf (L2.CX P w) P w K mg base N qual scope f cdv A outer s H E) rfl
end
/-! ### a def that may be called by its name -/
structure Fn (P : Program) (w : World) (K : PySem.W.Frag) (mg : Str → Option Value) (base : Heap) (k : Nat) (x : Str) (ps : List Str) (dd : List D) (fs : FSem) : Prop where
  ex : ∃ (f : Addr) (fd : FuncData) (dvs : List V) (ds : List Value), mg x = some (.ref f) ∧ PySem.W.keepIn K (.ref f) = true ∧ FnG P w K mg base k f fd ps (spD K mg ps.length fs) ∧ Binds K fd ps ds ∧ Vals dvs ds ∧ ∀ K F ι, RelAll K F ι dvs dd
section
variable {X : Cx} {W : WX} {j k : Nat} {ps : List Str} {fs : FSem} {dd : List D} {x : Str} {p pos : Pos} {e : Expr} {es : List Expr} {fa : SemA}
theorem xe_fn (F : Fn X.prog X.w X.K X.mg X.base j x ps dd fs) (c : CxE X W k) (hj : j ≤ k) (hg : Gl X x) (ha : XA X W (e :: es) fa) (hlen : ∀ ρ S xs S', fa ρ S = .ok xs S' → xs.length = (e :: es).length) (hl : (e :: es).length + dd.length = ps.length := by rfl) (hdb : (x == ("__debug__" : Str)) = false := by decide)
    (he : starEach (e :: es) X.env = (false, eval e X.env) :: starEach es X.env := by rfl) (hpl : (backTo pos (starEach es X.env)).any (·.1) = false := by rfl) : XE X W (.Call (.Name x p) (e :: es) [] pos) (eCall fs dd fa) := by
  obtain ⟨f, fd, dvs, ds, hm, hk, hF, hb, hv, hd⟩ := F.ex
  exact xe_call (hF.mono hj) c.g c.room hg hm hk hb hv hd c.tk ha hl hlen hdb he hpl
end
section
variable {P : Program} {w : World} {K : PySem.W.Frag} {mg : Str → Option Value} {base : Heap} {x qual : Str} {params : Arguments} {body : List Stmt} {scope : Scope} {kws : List (Str × V)} {f : Addr} {fd : FuncData} {ps : List Str} {k : Nat} {fs : FSem}
theorem Fn.all (F : FunD K x qual params body scope [] kws f fd) (hm : mg x = some (.ref f)) (G : FnG P w K mg base k f fd ps (spD K mg ps.length fs))
    (h : ∀ (kV doc pm : Value) (an : Option Addr) (cdv ct : Value) (us : List Value), us.length = ps.length → bindArgs (PySem.W.fnOf x qual params body scope .none kV doc pm an cdv ct) ⟨us, []⟩ = pure (ps.zip us)) : Fn P w K mg base k x ps [] fs :=
  ⟨f, fd, [], [], hm, F.kp, G, F.bindsN h, .nil, fun _ _ _ => .nil⟩
end
/-! ### the end of a law -/
/-- at the law's call: the script, perhaps; the empty tables; nothing else -/
structure Begin (K : PySem.W.Frag) (h : Heap) (cs : List (Addr × Addr)) (a : Addr) (H : Hp) : Prop where
  all : ∀ b u, H b = some u → (b ∈ cs.map Prod.snd ∧ u = .tbl #[]) ∨ (b = a ∧ b ∉ cs.map Prod.snd ∧ K.lookup b = none ∧ ∃ o xs, u = .frz o (.lst xs))
  tb : ∀ b ∈ cs.map Prod.snd, H b = some (.tbl #[])
abbrev tabO : Obj := { cls := .none, data := .fields #[] }
theorem law_callG {P : Program} {w : World} {K : PySem.W.Frag} {mg mb : Str → Option Value} {k : Nat} {fa a : Addr} {fd : FuncData} {x : Str} {sp : Sp} {s₁ : Shared} {vs : List Value} {ns : List Int} {cs : List (Addr × Addr)}
    (KX : K.In s₁.heap) (hns : s₁.heap.Ns mainGlobals mg) (hb : s₁.heap.Ns builtinsNs mb) (hbb : ∀ x : Str, x ≠ "__name__" → mb x = bootBuiltins x) (hlim : s₁.heap.NoLimit) (hg : s₁.gens = #[])
    (ht : ∀ p ∈ cs, s₁.heap.get? p.2 = some tabO) (hnt : ∀ p ∈ cs, K.lookup p.2 = none) (hcd : ∀ p ∈ cs, PySem.W.CodeHd s₁.heap p.1 p.2)
    (hbm : ∃ (m : Addr) (om : Obj), mg "__builtins__" = some (.ref m) ∧ m ≠ builtinsNs ∧ s₁.heap.get? m = some om ∧ om.cls = .type "module" ∧ om.dict = some builtinsNs ∧ om.data = .plain)
    (ha : s₁.heap.get? a = some { cls := .type "list", data := .seq vs.toArray }) (hi : IntsAre vs ns) (hl : ns.length ≤ sizeLine) (hr : Room k callerA)
    (F : ∀ base : Heap, K.In base → base.Ns mainGlobals mg → (∀ p ∈ cs, LamX.TabB base mg p.1 p.2) → FnG P w K mg base k fa fd [x] sp) (hbind : ∀ (s : Shared) (u : Value), BindsTo s fd ⟨[u], []⟩ [(x, u)])
    (hsp : ∀ H : Hp, Begin K s₁.heap cs a H → SqL K H a (ns.map V.int) → sp [.ref a] H (fun v _ => v = .bl true) fun _ _ _ => False) :
    codeAny (model P w) callerA (.call (.ref fa) ⟨[.ref a], []⟩) (fun r s' => r = .ok (.ret (.bool true)) ∧ OldK s₁.heap s'.heap ∧ s'.os = s₁.os ∧ AllBare s'.gens) s₁ := by
  have rv := vals_ints hi
  have hT : ∀ b ∈ cs.map Prod.snd, s₁.heap.get? b = some tabO ∧ K.lookup b = none := fun b z => by
    obtain ⟨p, hp, rfl⟩ := List.mem_map.mp z
    exact ⟨ht p hp, hnt p hp⟩
  have naT : a ∉ cs.map Prod.snd := fun z => by
    have q := ha.symm.trans (hT a z).1
    injection q with q
    injection q with _ _ q _
    cases q
  have inT : ∀ p ∈ cs, p.2 ∈ cs.map Prod.snd := fun p hp => List.mem_map_of_mem hp
  /- an abstract heap that tells of the script, or not, and of the tables -/
  have go : ∀ H : Hp, Begin K s₁.heap cs a H → SqL K H a (ns.map V.int) → HOk P w H s₁.heap →
      codeAny (model P w) callerA (.call (.ref fa) ⟨[.ref a], []⟩) (fun r s' => r = .ok (.ret (.bool true)) ∧ OldK s₁.heap s'.heap ∧ s'.os = s₁.os ∧ AllBare s'.gens) s₁ := fun H hO hS hok => by
    /- what is neither is told of by nothing -/
    have nn : ∀ {b : Addr} {o : Obj}, s₁.heap.get? b = some o → (∀ z n, o.data ≠ .seq z n) → o.data ≠ .fields #[] → H b = none := fun {b o} e h1 h2 => Option.eq_none_iff_forall_ne_some.mpr fun u z => by
      rcases hO.all b u z with ⟨q, _⟩ | ⟨rfl, _⟩
      · rw [(hT b q).1] at e
        cases e
        exact h2 rfl
      · rw [ha] at e
        cases e
        exact h1 _ _ rfl
    have nK : ∀ {b : Addr} {o : Obj}, K.lookup b = some o → H b = none := fun {b o} e => Option.eq_none_iff_forall_ne_some.mpr fun u z => by
      rcases hO.all b u z with ⟨q, _⟩ | ⟨_, _, q, _⟩
      · rw [(hT b q).2] at e
        cases e
      · rw [q] at e
        cases e
    have nD : ∀ {b : Addr} {o : Obj} {es : Array DictEntry} {ep : Nat}, s₁.heap.get? b = some o → o.data = .dict es ep → H b = none := fun {b o es ep} e d => nn e (fun _ _ z => by rw [d] at z; cases z) (fun z => by rw [d] at z; cases z)
    have ns' : ∀ {b : Addr} {m : Str → Option Value}, s₁.heap.Ns b m → (hidT s₁.heap H).Ns b m := fun {b m} ⟨o, es, ep, e, d, r⟩ => ⟨o, es, ep, hidT_get e (nD e d), d, r⟩
    have kb : K.In (hidT s₁.heap H) := fun b o e => hidT_get (KX b o e) (nK e)
    obtain ⟨mc, l1, l2⟩ := hlim
    have tb : ∀ p ∈ cs, LamX.TabB (hidT s₁.heap H) mg p.1 p.2 := fun p hp => by
      have e2 := ht p hp
      have ng : mainGlobals ≠ p.2 := fun z => by
        obtain ⟨o, es, ep, e, d, _⟩ := hns
        rw [z, e2] at e
        cases e
        cases d
      refine ⟨?_, ?_, ng⟩
      · obtain ⟨o, us, fl, tf, gs, tg, iF, tx, tt, e1, c1, c2, c3, rest⟩ := hcd p hp
        refine ⟨o, us, fl, tf, gs, tg, iF, tx, tt, hidT_get e1 (nn e1 (fun _ _ z => by rw [c2] at z; cases z) fun z => ?_), c1, c2, c3, rest⟩
        rw [c2] at z
        cases z
        simp at c3
      · obtain ⟨m, om, b1, b2, b3, b4, b5, b6⟩ := hbm
        refine ⟨m, om, b1, b2, fun z => ?_, fun z => ?_, hidT_get b3 (nn b3 (fun _ _ z => by rw [b6] at z; cases z) fun z => by rw [b6] at z; cases z), b4, b5, b6⟩
        · obtain ⟨o, es, ep, e, d, _⟩ := hns
          rw [z, e] at b3
          cases b3
          rw [d] at b6
          cases b6
        · rw [z, e2] at b3
          cases b3
          cases b6
    have e0 : Env0 P w K mg (hidT s₁.heap H) callerA [] s₁ H := ⟨rfl, ⟨kb, ns' hns, ⟨mb, ns' hb, hbb⟩, ⟨mc, ns' l1, l2⟩⟩, fun b o e => of_hidT e, Nat.le_of_eq (hidT_size _ _), trivial, fun b hb => (List.not_mem_nil hb).elim, hok, .of_eq hg⟩
    refine codeAny_mono ((F _ kb (ns' hns) tb).run callerA [] s₁ H ⟨[.ref a], []⟩ [.ref a] [.ref a] _ _ rfl hr e0 (hbind s₁ (.ref a)) (.cons rfl .nil) (hsp H hO hS)) fun r s' h => ?_
    match r, h with
    | .error e, ⟨_, _, _, _, _, _, _, _, _, _, _, _, z⟩ => exact z.elim
    | .ok .next, h => exact False.elim h
    | .ok .brk, h => exact False.elim h
    | .ok .cont, h => exact False.elim h
    | .ok (.ret u), ⟨v, H', os, bare, un, hok', r', q⟩ =>
      have q : v = .bl true := q
      subst q
      obtain rfl : u = Value.bool true := r'
      have old : ∀ b o, b ∉ cs.map Prod.snd → s₁.heap.get? b = some o → s'.heap.get? b = some o := fun b o nb e => by
        cases z : H b with
        | none => exact un.keep b o e z (fun y => (List.not_mem_nil y).elim) (by simp)
        | some u =>
          rcases hO.all b u z with ⟨q, _⟩ | ⟨_, _, _, ob, xs, rfl⟩
          · exact absurd q nb
          · obtain ⟨e1, _⟩ := hok b _ z
            obtain ⟨e2, _⟩ := hok' b _ (un.frzs b ob _ z)
            rw [e] at e1
            cases e1
            exact e2
      have grow : ∀ b ∈ cs.map Prod.snd, ∃ m : Array Value, s'.heap.get? b = some { cls := .none, data := .fields m } := fun b nb => by
        obtain ⟨m, z⟩ := un.tbls b #[] (hO.tb b nb)
        exact ⟨_, hok' b _ z⟩
      refine ⟨rfl, ⟨fun b o e => ?_, fun b o e => ?_⟩, os, bare⟩
      · by_cases nb : b ∈ cs.map Prod.snd
        · obtain ⟨m, hm⟩ := grow b nb
          obtain ⟨p, hp, rfl⟩ := List.mem_map.mp nb
          have e3 := e.symm.trans (ht p hp)
          cases e3
          refine .inr (.inl ⟨((hcd p hp).tab (ht p hp)).isCodeTable, rfl, #[], m, rfl, ?_⟩)
          rw [Array.empty_append]
          exact hm
        · exact .inl (old b o nb e)
      · by_cases nb : b ∈ cs.map Prod.snd
        · obtain ⟨m, hm⟩ := grow b nb
          exact ⟨_, hm⟩
        · exact ⟨o, old b o nb e⟩
  have lv : vs.length ≤ sizeLine := by rw [hi.length]; exact hl
  cases hk : K.lookup a with
  | some o =>
    have e := KX a o hk
    rw [ha] at e
    cases e
    have hH : ∀ b u, (if b ∈ cs.map Prod.snd then some (HO.tbl #[]) else none) = some u → b ∈ cs.map Prod.snd ∧ u = .tbl #[] := fun b u z => by
      split at z
      · next q => cases z; exact ⟨q, rfl⟩
      · cases z
    refine go (fun b => if b ∈ cs.map Prod.snd then some (.tbl #[]) else none) ⟨fun b u z => .inl (hH b u z), fun b z => if_pos z⟩ (.inr ⟨_, vs.toArray, _, hk, rfl, rfl, rfl, by simpa using lv, by simpa using rv⟩) fun b u z => ?_
    obtain ⟨q, rfl⟩ := hH b u z
    exact (hT b q).1
  | none =>
    have hH : ∀ b u, (if b = a then some (HO.frz { cls := .type "list", data := .seq vs.toArray } (.lst (ns.map V.int))) else if b ∈ cs.map Prod.snd then some (HO.tbl #[]) else none) = some u →
        (b ∈ cs.map Prod.snd ∧ u = .tbl #[]) ∨ (b = a ∧ u = .frz { cls := .type "list", data := .seq vs.toArray } (.lst (ns.map V.int))) := fun b u z => by
      split at z
      · next e => cases z; exact .inr ⟨e, rfl⟩
      · split at z
        · next q => cases z; exact .inl ⟨q, rfl⟩
        · cases z
    refine go (fun b => if b = a then some (.frz { cls := .type "list", data := .seq vs.toArray } (.lst (ns.map V.int))) else if b ∈ cs.map Prod.snd then some (.tbl #[]) else none) ⟨fun b u z => ?_, fun b z => ?_⟩ (.inl (.inr ⟨_, if_pos rfl⟩)) fun b u z => ?_
    · rcases hH b u z with q | ⟨rfl, rfl⟩
      · exact .inl q
      · exact .inr ⟨rfl, naT, hk, _, _, rfl⟩
    · exact (if_neg (show ¬ b = a from fun e => naT (e ▸ z))).trans (if_pos z)
    · rcases hH b u z with ⟨q, rfl⟩ | ⟨rfl, rfl⟩
      · exact (hT b q).1
      · exact ⟨ha, by simpa using hl, vs, _, rv, ha⟩
def tbB (tn : List Str) (K : PySem.W.Frag) : Bool := tabN.all fun x => tn.contains x || (tabOf K x).isEmpty
theorem tabAt_ok {K : PySem.W.Frag} {c P : Addr} (h : tabAt K c = some P) : K.lookup P = none ∧ ∃ e dd vs sl, K.lookup c = some ⟨e, dd, .fields vs, sl⟩ ∧ vs[11]? = some (.ref P) := by
  unfold tabAt at h
  split at h
  · next e dd vs sl e1 =>
    split at h
    · next P' e2 =>
      split at h
      · next e3 => cases h; exact ⟨e3, _, _, _, _, e1, e2⟩
      · cases h
    · cases h
  · cases h
theorem tabOf_ok {K : PySem.W.Frag} {x : Str} {p : Addr × Addr × Str} (h : p ∈ tabOf K x) : ∃ f, PySem.W.nsIn K mainGlobals x = some (some (.ref f)) ∧ codeOf K f = some (.ref p.1) ∧ tabAt K p.1 = some p.2.1 := by
  unfold tabOf at h
  split at h
  · next f e =>
    split at h
    · next c e2 =>
      split at h
      · next P e3 =>
        cases List.mem_singleton.mp h
        exact ⟨f, e, e2, e3⟩
      · cases h
    · cases h
  · cases h
/-- one table for the lambdas of the def x, no other def's -/
def lamB (K : PySem.W.Frag) (x : Str) : Bool := tabN.contains x && match tabOf K x with
  | [p] => (tabsK K).all fun r => !decide (r.2.1 = p.2.1) || decide (r.2.2 = p.2.2)
  | _ => false
/-- the script as it lies -/
def onlyF (H : Hp) : Hp := fun b => match H b with
  | some (.tbl _) => none
  | o => o
theorem onlyF_sub (H : Hp) : Same (onlyF H) H := fun b o e => by
  unfold onlyF at e
  split at e
  · cases e
  · exact e
/-- THE END: the law's def answers True for every script of so many cells -/
theorem walk_ofG {l : PySem.W.OpenLaw} {n k : Nat} {q : Program} {loose : List Str} {XP : (Str → Option Value) → Heap → Prop} {YP : World → Heap → Prop} {d : DefRec} {x : Str} {fs : FSem} {tn : List Str}
    (hn : l.most = some n) (hn2 : n ≤ sizeLine) (hdf : d.params.defaults = []) (hr : Room k callerA) (htn : ∀ x ∈ tn, ((recsOf q).any fun e => e.name == x) = true)
    (F : ∀ (w : World) (mg : Str → Option Value) (fa : Addr) (h : Heap), YP w h → h.Ns mainGlobals mg → mg d.name = some (.ref fa) →
      ∃ (K : PySem.W.Frag) (fd : FuncData), K.In h ∧ tbB tn K = true ∧ (∀ (s : Shared) (u : Value), BindsTo s fd ⟨[u], []⟩ [(x, u)]) ∧ ∀ base : Heap, K.In base → base.Ns mainGlobals mg → (∀ p ∈ tabsK K, LamX.TabB base mg p.1 p.2.1) → FnG l.prog w K mg base k fa fd [x] (spD K mg 1 fs))
    (hf : ∀ ns : List Int, ns.length ≤ n → (∀ z ∈ ns, Builtin.Int.intBits z ≤ 1048576) → ∃ S, fs [.scr (ns.map D.int)] [] = .ok (.bl true) S) :
    PySem.W.WalkO q loose XP YP l.row.toRowW d [] (fun f vs => PySem.call f vs) := by
  refine Att.attach_callB hn hdf fun w s₀ s₁ mg mb fa o pm cd doc a vs ns G Y ho hd hcd hmg hobj hints hlen hbits hg => ?_
  obtain ⟨K, fd, KX, htb, hb, hF⟩ := F w mg fa _ Y G.T.g hmg
  have tabs : ∀ p ∈ tabsK K, s₁.heap.get? p.2.1 = some tabO ∧ K.lookup p.2.1 = none ∧ PySem.W.CodeHd s₁.heap p.1 p.2.1 := fun p hp => by
    obtain ⟨y, hy, hp⟩ := List.mem_flatMap.mp hp
    have z := List.all_eq_true.mp htb y hy
    have hy2 : y ∈ tn := by
      rcases Bool.or_eq_true_iff.mp z with z | z
      · simpa using z
      · rw [List.isEmpty_iff.mp z] at hp
        cases hp
    obtain ⟨f, e1, e2, e3⟩ := tabOf_ok hp
    obtain ⟨e4, ec, dd, vc, sl, e5, e6⟩ := tabAt_ok e3
    obtain ⟨r, hr1, hr2⟩ := List.any_eq_true.mp (htn y hy2)
    have hr2 : r.name = y := beq_iff_eq.mp hr2
    obtain ⟨f', o', fd', c', P', h1, h2, h3, h4, h5, h6⟩ := G.T.tab r hr1
    have hga : He.ga K y = f := by
      unfold He.ga
      rw [e1]
    have e1' : mg y = some (.ref f) := by
      have := He.glo_ok KX G.T.g (show (He.Fa.glo y).ok K = true by show He.eqO _ _ = true; rw [hga, e1]; simp [He.eqO])
      rw [hga] at this
      exact this
    rw [hr2, e1'] at h1
    cases h1
    unfold codeOf at e2
    split at e2
    · next a1 a2 fd1 a3 k1 =>
      rw [KX _ _ k1] at h2
      cases h2
      cases h3
      rw [h4] at e2
      cases e2
      have hh := PySem.W.CodeHd.of h5 h6
      obtain ⟨⟨oc, vc2, q1, _, q3, q4⟩, q5⟩ := h6
      rw [KX _ _ e5] at q1
      cases q1
      cases q3
      rw [e6] at q4
      cases q4
      exact ⟨q5, e4, hh⟩
    · cases e2
  have mt : ∀ {p : Addr × Addr}, p ∈ (tabsK K).map (fun p => (p.1, p.2.1)) → ∃ q ∈ tabsK K, p = (q.1, q.2.1) := fun {p} hp => by
    obtain ⟨q, h1, rfl⟩ := List.mem_map.mp hp
    exact ⟨q, h1, rfl⟩
  refine law_callG (cs := (tabsK K).map fun p => (p.1, p.2.1)) KX G.T.g G.T.b G.T.builtins G.T.nolimit hg (fun p hp => ?_) (fun p hp => ?_) (fun p hp => ?_) G.T.bmain hobj hints (Nat.le_trans hlen hn2) hr (fun base h1 h2 h3 => hF base h1 h2 fun p hp => h3 (p.1, p.2.1) (List.mem_map.mpr ⟨p, hp, rfl⟩)) hb fun H hO hS => ?_
  · obtain ⟨q, h1, rfl⟩ := mt hp
    exact (tabs q h1).1
  · obtain ⟨q, h1, rfl⟩ := mt hp
    exact (tabs q h1).2.1
  · obtain ⟨q, h1, rfl⟩ := mt hp
    exact (tabs q h1).2.2
  obtain ⟨S, hS2⟩ := hf ns hlen hbits
  have ri : ∀ ns : List Int, RelAll K (onlyF H) [] (ns.map V.int) (ns.map D.int) := fun ns => by
    induction ns with
    | nil => exact .nil
    | cons i r ih => exact .cons (.int i) ih
  have hS' : SqL K (onlyF H) a (ns.map V.int) := by
    rcases hS with (hS | ⟨o, hS⟩) | hS
    · exact .inl (.inl (by unfold onlyF; rw [hS]))
    · exact .inl (.inr ⟨o, by unfold onlyF; rw [hS]⟩)
    · exact .inr hS
  refine ⟨onlyF H, [], [.scr (ns.map D.int)], [], ⟨onlyF_sub H, rfl, List.nodup_nil, fun n a c e => (by simp at e), fun n c e => (by simp at e), fun p hp => LamX.TabS.nil (hO.tb _ (List.mem_map.mpr ⟨(p.1, p.2.1), List.mem_map.mpr ⟨p, hp, rfl⟩, rfl⟩)), fun b ps e => ?_, fun b ps e => ?_⟩, .cons (.scr hS' (ri ns)) .nil, rfl, ?_⟩
  · unfold onlyF at e
    split at e
    · cases e
    · next h => exact h _ e
  · rcases hO.all b _ e with ⟨z, _⟩ | ⟨_, _, _, _, _, z⟩
    · obtain ⟨p, hp, rfl⟩ := List.mem_map.mp z
      obtain ⟨q, hq, rfl⟩ := mt hp
      exact ⟨q, hq, rfl⟩
    · cases z
  rw [hS2]
  exact fun F' ι' v H' _ _ r => rel_bl r
end Fk

set_option Elab.async false
set_option linter.all false
set_option maxRecDepth 100000
set_option maxHeartbeats 4000000
namespace Fk
open PySem PySem.Spec PyProof.Rows L2
/-! ### one operation or another -/
def orO {α : Type} (op op' : D → D → Store → Option α) : D → D → Store → Option α := fun d e S => match op d e S with
  | some a => some a
  | none => op' d e S
section
variable {X : Cx}
theorem ox_or {f : Value → Value → Sem Value} {op op' : D → D → Store → Option D} (h1 : OpX X f op) (h2 : OpX X f op') : OpX X f (orO op op') := by
  intro pins s σ H x y v u Q I rx ry h
  obtain ⟨F, ι, S, d, e, a, sm, rd, re, ho, q⟩ := h
  unfold orO at ho
  cases e1 : op d e S with
  | some b => rw [e1] at ho; cases ho; exact h1 pins s σ H x y v u Q I rx ry ⟨F, ι, S, d, e, a, sm, rd, re, e1, q⟩
  | none => rw [e1] at ho; exact h2 pins s σ H x y v u Q I rx ry ⟨F, ι, S, d, e, a, sm, rd, re, ho, q⟩
/-! ### x in xs -/
def inD (d e : D) (S : Store) : Option Bool := match dr S e with
  | .tup xs => (dat (dr S d)).bind fun a => (datAll xs).bind fun ys => if SeqAt.shaped a && SeqAt.shaped (.tuple ys) then some (ys.any fun z => PyData.eqv z a) else none
  | .lst xs => (dat (dr S d)).bind fun a => (datAll xs).bind fun ys => if SeqAt.shaped a && SeqAt.shaped (.list ys) then some (ys.any fun z => PyData.eqv z a) else none
  | _ => none
def opIn : D → D → Store → Option D := fun d e S => (inD d e S).map .bl
def opNin : D → D → Store → Option D := fun d e S => (inD d e S).map fun b => .bl (!b)
theorem in_both {b : Bool} {pins : List (Addr × Obj)} {s : Shared} {σ : L2.St} {H : Hp} {x y : V} {v u : Value} {Q : VK} (hu : X.A.units + 65 < cLine) (I : Inv X pins σ H s) (rx : RelV x v) (ry : RelV y u) {F : Hp} {ι : List Addr} {S : Store} {d e : D} (sm : Sim X.K X.mg F ι S H) (rd : Rel X.K F ι x d) (re : Rel X.K F ι y e) (ho : inD d e S = some b) :
    (Q (.bl b) H → wpAny (model X.prog X.w) X.A (compareOp .In v u) (EP X pins σ Q) X.xe s) ∧ (Q (.bl (!b)) H → wpAny (model X.prog X.w) X.A (compareOp .NotIn v u) (EP X pins σ Q) X.xe s) := by
  unfold inD at ho
  split at ho
  · next xs h1 =>
    obtain ⟨a, ha, ho⟩ := Option.bind_eq_some_iff.mp ho
    obtain ⟨ys, hys, ho⟩ := Option.bind_eq_some_iff.mp ho
    split at ho
    · next hs =>
      cases ho
      obtain ⟨s1, s2⟩ := Bool.and_eq_true_iff.mp hs
      obtain ⟨as, r1, _⟩ := reads_dr I sm rd rx ha
      obtain ⟨bs, r2, _⟩ := reads_dr I sm re ry (show dat (dr S e) = some (.tuple ys) by rw [h1]; simp [dat, hys])
      have l2 : PyData.canLayAll0 ys = true := by simpa [PyData.canLay0] using SeqAt.canLay_of_shaped s2
      exact ⟨fun q => SeqAt.in_tuple_reads r2 r1 l2 (SeqAt.canLay_of_shaped s1) (room_in_shaped s1 hu) ⟨.bl _, H, I, rfl, q⟩, fun q => SeqAt.notIn_tuple_reads r2 r1 l2 (SeqAt.canLay_of_shaped s1) (room_in_shaped s1 hu) ⟨.bl _, H, I, rfl, q⟩⟩
    · cases ho
  · next xs h1 =>
    obtain ⟨a, ha, ho⟩ := Option.bind_eq_some_iff.mp ho
    obtain ⟨ys, hys, ho⟩ := Option.bind_eq_some_iff.mp ho
    split at ho
    · next hs =>
      cases ho
      obtain ⟨s1, s2⟩ := Bool.and_eq_true_iff.mp hs
      obtain ⟨as, r1, _⟩ := reads_dr I sm rd rx ha
      obtain ⟨bs, r2, _⟩ := reads_dr I sm re ry (show dat (dr S e) = some (.list ys) by rw [h1]; simp [dat, hys])
      have l2 : PyData.canLayAll0 ys = true := by simpa [PyData.canLay0] using SeqAt.canLay_of_shaped s2
      exact ⟨fun q => SeqAt.in_list_reads r2 r1 l2 (SeqAt.canLay_of_shaped s1) (room_in_shaped s1 hu) ⟨.bl _, H, I, rfl, q⟩, fun q => SeqAt.notIn_list_reads r2 r1 l2 (SeqAt.canLay_of_shaped s1) (room_in_shaped s1 hu) ⟨.bl _, H, I, rfl, q⟩⟩
    · cases ho
  · cases ho
theorem ox_in (hu : X.A.units + 65 < cLine) : OpX X (compareOp .In) opIn := by
  intro pins s σ H x y v u Q I rx ry h
  obtain ⟨F, ι, S, d, e, a, sm, rd, re, ho, q⟩ := h
  obtain ⟨b, hb, rfl⟩ := Option.map_eq_some_iff.mp ho
  exact (in_both hu I rx ry sm rd re hb).1 (q F ι _ H (Step.refl _ _ _) sm (.bl _))
theorem ox_nin (hu : X.A.units + 65 < cLine) : OpX X (compareOp .NotIn) opNin := by
  intro pins s σ H x y v u Q I rx ry h
  obtain ⟨F, ι, S, d, e, a, sm, rd, re, ho, q⟩ := h
  obtain ⟨b, hb, rfl⟩ := Option.map_eq_some_iff.mp ho
  exact (in_both hu I rx ry sm rd re hb).2 (q F ι _ H (Step.refl _ _ _) sm (.bl _))
/-! ### xs[::-1] -/
def opRev : D → Store → Option D := fun d S => match dr S d with
  | .tup xs => some (.tup xs.reverse)
  | .lst xs => some (.lst xs.reverse)
  | _ => none
end
section
variable {prog : Program} {w : World} {A : Around} {E : Value → Shared → Prop} {s : Shared}
theorem rev_places (n : Nat) : Builtin.Slice.slicePlaces ((n : Int) - 1) (-1) (-1) = n := by
  unfold Builtin.Slice.slicePlaces
  by_cases h : (n : Int) - 1 > -1
  · have e : ((n : Int) - 1 - -1 - 1) / (- -1) + 1 = (n : Int) := by
      rw [show (- -1 : Int) = 1 by decide, Int.ediv_one]
      omega
    simp only [show ¬ ((-1 : Int) > 0) by decide, if_false, h, if_true, e, Int.toNat_natCast]
  · have : n = 0 := by omega
    subst this
    rfl
theorem rev_pick (xs : Array Value) : ((List.range xs.size).filterMap fun (k : Nat) => xs[((((xs.size : Int) - 1) + (k : Int) * (-1))).toNat]?) = xs.toList.reverse := by
  have e : ((List.range xs.size).filterMap fun (k : Nat) => xs[((((xs.size : Int) - 1) + (k : Int) * (-1))).toNat]?) = ((List.range xs.size).map fun k => xs.size - 1 - k).filterMap (xs[·]?) := by
    rw [List.filterMap_map]
    congr 1
    funext k
    have e : ((((xs.size : Int) - 1) + (k : Int) * (-1))).toNat = xs.size - 1 - k := by omega
    simp only [Function.comp, e]
  rw [e, PySem.W.krv_range, List.filterMap_reverse, PySem.W.krv_all]
theorem sliceApplied_rev {sl : Addr} {vs : Value} {n : Nat} {Q : Int × Int × Nat → Shared → Prop} (hs : s.heap.IsSliceOf sl .none .none vs) (ps : IsPart vs (some (-1)))
    (h : Q ((n : Int) - 1, -1, n) s) : wpAny (model prog w) A (Builtin.Slice.sliceApplied (.ref sl) (pure (n : Int))) Q E s := by
  obtain ⟨os, hos, hcs, hds⟩ := id hs
  unfold Builtin.Slice.sliceApplied Builtin.Slice.sliceFields
  refine wpAny_bind (wpAny_bind (wpAny_field hos hds (x := .none) rfl (wpAny_bind (wpAny_field hos hds (x := .none) rfl (wpAny_bind (wpAny_field hos hds (x := vs) rfl (wpAny_pure ?_)))))))
  refine wpAny_bind (HT.slicePart_ ps ?_)
  show wpAny _ _ (if ((-1 : Int) == 0) = true then _ else _) _ _ s
  rw [if_neg (by decide)]
  refine wpAny_bind (PyProof.Rows.slicePart_none (wpAny_bind (PyProof.Rows.slicePart_none (wpAny_bind (wpAny_pure ?_)))))
  show wpAny _ _ (pure ((n : Int) - 1, (-1 : Int), Builtin.Slice.slicePlaces ((n : Int) - 1) (-1) (-1))) _ _ s
  rw [rev_places]
  exact wpAny_pure h
theorem getItem_tuple_rev {t sl : Addr} {items : Array Value} {vs : Value} {Q : Value → Shared → Prop} (ht : IsTup s.heap t items) (hs : s.heap.IsSliceOf sl .none .none vs) (ps : IsPart vs (some (-1)))
    (h : Q (.ref s.heap.objs.size) { s with heap := s.heap.push { cls := .type "tuple", data := .seq items.toList.reverse.toArray } })
    (hsz : items.size ≤ sizeLine) : wpAny (model prog w) A (getItem (.ref t) (.ref sl)) Q E s := by
  have htake : sizeOk (.seq items.toList.reverse.toArray) := by
    show items.toList.reverse.toArray.size ≤ sizeLine
    simpa using hsz
  obtain ⟨os, hos, hcs, hds⟩ := id hs
  have hTs : s.TypeIs (.ref sl) "slice" := ⟨os, hos, hcs⟩
  unfold getItem
  try with_reducible refine wpAny_holding ?_
  first | refine wpAny_bind (wpAny_pure ?_) | skip
  refine wpAny_bind (wpAny_sequenceKey ht.typeIs (by decide) ?_)
  refine wpAny_bind (wpAny_callSpecial?_slot (name := Str.ofString "__getitem__") ht.typeIs PyProof.Rows.slot_tuple_getitem
    (wpAny_call_entry PyProof.Rows.slot_tuple_getitem ht.typeIs PyProof.Rows.entry_tuple_getitem ?_ (PyProof.Rows.args_tuple_getitem _ _)))
  show wpAny _ _ (Builtin.Tuple.tupleItemsOf (.ref t) >>= _) _ _ s
  refine wpAny_bind (PyProof.Rows.tupleItemsOf_ ht ?_)
  refine wpAny_bind (wpAny_typeOf hTs ?_)
  rw [if_pos (by decide)]
  refine wpAny_bind (sliceApplied_rev hs ps ?_)
  have hno : ¬ (((items.size : Int) - 1 == 0 && (-1 : Int) == 1 && items.size == items.size) = true) := by simp
  show wpAny _ _ (if ((items.size : Int) - 1 == 0 && (-1 : Int) == 1 && items.size == items.size) = true then _ else _) _ _ s
  rw [if_neg hno, rev_pick]
  first
    | exact wpAny_bind (m := Builtin.Tuple.tupleExact _) (wpAny_newObj_type (wpAny_pure ⟨_, rfl, wpAny_pure h⟩) htake)
    | exact wpAny_bind (m := Builtin.Tuple.tupleExact _) (wpAny_newObj_type (wpAny_bind (wpAny_pure (wpAny_pure ⟨_, rfl, wpAny_pure h⟩))) htake)
    | exact wpAny_bind (wpAny_bind (m := Builtin.Tuple.tupleExact _) (wpAny_newObj_type (wpAny_pure (wpAny_pure ⟨_, rfl, wpAny_pure h⟩)) htake))
    | exact wpAny_bind (wpAny_bind (m := Builtin.Tuple.tupleExact _) (wpAny_newObj_type (wpAny_pure ⟨_, rfl, wpAny_pure h⟩) htake))
end
section
variable {X : Cx} {W : WX} {e : Expr} {f : SemE}
theorem xe_rev {k : Nat} {p1 p2 p3 pos : Pos} (he : XE X W e f) : XE X W (.Subscript e (.Slice none none (some (.UnaryOp .USub (.Constant (.int 1) k p1) p2)) p3) pos) (eUn opRev f) := by
  refine ⟨fun pins s σ H Q I h => ?_⟩
  refine Subscript_ (thn (he.run pins s σ H _ I (tG_un h)) fun v s1 ⟨x, H1, I1, r1, q1⟩ => ?_)
  obtain ⟨F, ι, S, d, a, sm, rd, ho, q⟩ := q1
  have hst : PO X (some (.UnaryOp .USub (.Constant (.int 1) k p1) p2)) (tPart (tUn (rU fun i => .int (-i)) (tC (.int 1)))) := po_some (pe_un un_neg pe_int)
  refine wpAny_Slice (thn (po_none.run pins s1 σ H1 (fun o H2 => o = none ∧ H2 = H1) I1 ⟨rfl, rfl⟩) fun vl s2 ⟨l, H2, I2, pl, el, e2⟩ => ?_)
  subst el e2
  refine thn (po_none.run pins s2 σ H2 (fun o H3 => o = none ∧ H3 = H2) I2 ⟨rfl, rfl⟩) fun vu s3 ⟨u, H3, I3, pu, eu, e3⟩ => ?_
  subst eu e3
  refine thn (hst.run pins s3 σ H3 (fun o H4 => o = some (-1) ∧ H4 = H3) I3 ⟨1, rfl, -1, rfl, rfl, rfl⟩) fun vs s4 ⟨o, H4, I4, ps, eo, e4⟩ => ?_
  subst eo e4
  have I5 : Inv X pins σ H4 { s4 with heap := s4.heap.push { cls := .type "slice", data := .fields #[vl, vu, vs] } } := I4.kept (t' := s4.toks) fun b ob q => Heap.get?_push_of_some _ q
  cases pl
  cases pu
  unfold opRev at ho
  split at ho
  · next xs h1 =>
    cases ho
    obtain ⟨b, ws, rfl, e1, f1, rr, rfl⟩ := at_tup sm rd h1
    cases r1
    obtain ⟨its, r, ht, hz⟩ := I5.tuple (SqT.of e1)
    have hlen := r.length
    show wpAny (model X.prog X.w) X.A (subscriptTail e (.Slice none none (some (.UnaryOp .USub (.Constant (.int 1) k p1) p2)) p3) (.ref b) (.ref s4.heap.objs.size)) (EP X pins σ Q) X.xe { s4 with heap := s4.heap.push { cls := .type "slice", data := .fields #[.none, .none, vs] } }
    refine tail_any (ops := [.ref b, .ref s4.heap.objs.size]) ht.typeIs (PyProof.Rows.slot_tuple_getitem.lookup) ?_ (by with_unfolding_all rfl)
    refine getItem_tuple_rev ht (Heap.IsSliceOf.new _ .none .none vs) ps ?_ (by rw [List.size_toArray]; omega)
    obtain ⟨x2, s2'⟩ := sm.frozen (o := .tup ws.reverse) (I5.hok.fresh (Nat.le_refl _))
    refine ⟨.ref _, _, I5.laid (t' := s4.toks) (o := .tup ws.reverse) (fun b ob q => Heap.get?_push_of_some _ q) (Nat.le_refl _) ?_, rfl, q _ _ _ _ x2 s2' (.tup upd_same (RelAll.mono x2 rr.reverse))⟩
    exact ⟨by rw [List.length_reverse]; exact hz, _, r.reverse, IsTup.new _ _⟩
  · next xs h1 =>
    cases ho
    obtain ⟨b, ws, rfl, e1, rr⟩ := at_lst sm rd h1
    cases r1
    obtain ⟨its, r, ht, hz⟩ := I5.list (SqL.of e1)
    have hlen := r.length
    show wpAny (model X.prog X.w) X.A (subscriptTail e (.Slice none none (some (.UnaryOp .USub (.Constant (.int 1) k p1) p2)) p3) (.ref b) (.ref s4.heap.objs.size)) (EP X pins σ Q) X.xe { s4 with heap := s4.heap.push { cls := .type "slice", data := .fields #[.none, .none, vs] } }
    refine tail_any (ops := [.ref b, .ref s4.heap.objs.size]) ht.isList.typeIs (PySem.slot_list_getitem.lookup) ?_ (by with_unfolding_all rfl)
    refine wpAny_getItem_list_slice ht.isList (Heap.IsSliceOf.new _ .none .none vs) .none .none ps (by decide) ?_ (by rw [List.size_toArray]; omega)
    rw [PySem.W.krv_pick]
    obtain ⟨x2, s2'⟩ := sm.frozen (o := .lst ws.reverse) (I5.hok.fresh (Nat.le_refl _))
    refine ⟨.ref _, _, I5.laid (t' := s4.toks) (o := .lst ws.reverse) (fun b ob q => Heap.get?_push_of_some _ q) (Nat.le_refl _) ?_, rfl, q _ _ _ _ x2 s2' (.lst upd_same (RelAll.mono x2 rr.reverse))⟩
    exact ⟨by rw [List.length_reverse]; exact hz, _, 0, r.reverse, Heap.get?_push_size _ rfl⟩
  · cases ho
end
/-! ### t * k, the rest -/
theorem tuple_mulS (l : Addr) (items : Array Value) (n : Nat) (dd : Option Addr) (sl : Array (Option Value)) (x : Int) (u : Tok) (c0 : (decide (x < -(2 ^ 63)) || decide (x ≥ 2 ^ 63)) = false) (c1 : (items.isEmpty || x == 1) = true) :
    Meets (Builtin.«tuple.__mul__» ⟨[.ref l, .int x u], []⟩) (fun _ R s => s.heap.get? l = some { cls := .type "tuple", dict := dd, data := .seq items n, slots := sl } ∧ R (.ok (.ret (Value.ref l))) s) :=
  .of_wp fun prog w A R s h => by
    obtain ⟨hp, g, d, tk, os⟩ := s
    obtain ⟨hl, h⟩ := h
    have f1 := AutoSeq1.idx_int
    wp_walk using wpAny_loadPart' hl
    repeat (first
      | (refine wpAny_ite_false (decide_eq_false (by rw [c0]; exact Bool.false_ne_true)) ?_; wp_walk using wpAny_loadPart' hl)
      | (refine wpAny_ite_true (decide_eq_true c1) ?_; wp_walk using wpAny_loadPart' hl))
    exact ⟨_, rfl, h⟩
/-- t * k for k <= 0 -/
theorem tuple_mulZ (l : Addr) (items : Array Value) (n : Nat) (dd : Option Addr) (sl : Array (Option Value)) (x : Int) (u : Tok) (c0 : (decide (x < -(2 ^ 63)) || decide (x ≥ 2 ^ 63)) = false) (c1 : (items.isEmpty || x == 1) = false) (c2 : (decide (x ≤ 0) || items.isEmpty) = true) :
    Meets (Builtin.«tuple.__mul__» ⟨[.ref l, .int x u], []⟩) (fun _ R s => s.heap.get? l = some { cls := .type "tuple", dict := dd, data := .seq items n, slots := sl } ∧ R (.ok (.ret (Value.ref s.heap.objs.size))) { s with heap := s.heap.push { cls := Value.type "tuple", data := Data.seq #[] }, toks := s.toks }) :=
  .of_wp fun prog w A R s h => by
    obtain ⟨hp, g, d, tk, os⟩ := s
    obtain ⟨hl, h⟩ := h
    have f1 := AutoSeq1.idx_int
    wp_walk using wpAny_loadPart' hl
    repeat (first
      | (refine wpAny_ite_false (decide_eq_false (by rw [c0]; exact Bool.false_ne_true)) ?_; wp_walk using wpAny_loadPart' hl)
      | (refine wpAny_ite_false (decide_eq_false (by rw [c1]; exact Bool.false_ne_true)) ?_; wp_walk using wpAny_loadPart' hl)
      | (refine wpAny_ite_true (decide_eq_true c2) ?_; wp_walk using wpAny_loadPart' hl)
      | (refine wpAny_ite_false (decide_eq_false (Nat.not_lt.mpr (Nat.zero_le _))) ?_; wp_walk using wpAny_loadPart' hl))
    exact ⟨_, rfl, h⟩
def opMul0 : D → D → Store → Option D := fun d e _ => match d, e with
  | .tup xs, .int k => if (xs.isEmpty || k == 1) && decide (-1000 ≤ k ∧ k ≤ 1000) then some (.tup xs) else if decide (-1000 ≤ k ∧ k ≤ 0) then some (.tup []) else none
  | _, _ => none
theorem ox_mul0 {X : Cx} : OpX X (binaryOp .Mult) opMul0 := by
  intro pins s σ H x y v u Q I rx ry h
  obtain ⟨Fz, ι, S, d, e, a, sm, rd, re, ho, q⟩ := h
  unfold opMul0 at ho
  split at ho
  · next xs k =>
    split at ho
    · next hc =>
      cases ho
      obtain ⟨c1, c2⟩ := Bool.and_eq_true_iff.mp hc
      have c2 := of_decide_eq_true c2
      obtain ⟨l, vs, rfl, e1, f1, rr, _⟩ := at_tup sm rd (show dr S (.tup xs) = .tup xs from rfl)
      cases rx
      cases rel_int re
      obtain ⟨t, rfl⟩ := ry
      obtain ⟨its, r, ⟨⟨cls, dd, data, sl⟩, ho, hc', n, hd⟩, hs⟩ := I.tuple (SqT.of e1)
      simp only at hc' hd
      subst hc' hd
      have hle : its.length = xs.length := by rw [← rr.length]; exact r.length.symm
      have h0 : (decide (k < -(2 ^ 63)) || decide (k ≥ 2 ^ 63)) = false := by
        rw [decide_eq_false (by omega), decide_eq_false (by omega)] <;> rfl
      have h1 : (its.toArray.isEmpty || k == 1) = true := by
        have : its.toArray.isEmpty = xs.isEmpty := by
          cases its <;> cases xs <;> simp_all
        rw [this]
        exact c1
      exact wpAny_binaryOp_repeat_ref (T := "tuple") (U := "int") (by decide) ⟨_, ho, rfl⟩ (fun s' => typeIs_int s' k t) noFill_tuple_mul F.fills_int_mul F.slot_int_rmul repeat_tuple F.slot_int_index.lookup
        (call_meets F.slot_int_rmul (typeIs_int s k t) F.entry_int_rmul (F.args_int_rmul_2 _ _) (int_rmul_tuple k t l its.toArray n dd sl)
          ⟨ho, rfl, ⟨_, ho, rfl⟩, call_meets F.slot_tuple_mul ⟨_, ho, rfl⟩ F.entry_tuple_mul (F.args_tuple_mul_2 _ _) (tuple_mulS l its.toArray n dd sl k t h0 h1) ⟨ho, ⟨.ref l, H, I, rfl, q Fz ι _ H (Step.refl _ _ _) sm rd⟩⟩⟩)
    · next hn =>
      split at ho
      · next hc =>
        cases ho
        have c2 := of_decide_eq_true hc
        obtain ⟨l, vs, rfl, e1, f1, rr, _⟩ := at_tup sm rd (show dr S (.tup xs) = .tup xs from rfl)
        cases rx
        cases rel_int re
        obtain ⟨t, rfl⟩ := ry
        obtain ⟨its, r, ⟨⟨cls, dd, data, sl⟩, ho, hc', n, hd⟩, hs⟩ := I.tuple (SqT.of e1)
        simp only at hc' hd
        subst hc' hd
        have hle : its.length = xs.length := by rw [← rr.length]; exact r.length.symm
        have h0 : (decide (k < -(2 ^ 63)) || decide (k ≥ 2 ^ 63)) = false := by
          rw [decide_eq_false (by omega), decide_eq_false (by omega)] <;> rfl
        have hx : xs.isEmpty = false := by
          cases q : xs.isEmpty with
          | false => rfl
          | true => exact absurd (by rw [q, decide_eq_true (show -1000 ≤ k ∧ k ≤ 1000 by omega)]; rfl) hn
        have hi : its.toArray.isEmpty = false := by
          rw [← hx]
          cases its <;> cases xs <;> simp_all
        have h1 : (its.toArray.isEmpty || k == 1) = false := by
          rw [hi, Bool.false_or]
          exact beq_eq_false_iff_ne.mpr (by omega)
        have h2 : (decide (k ≤ 0) || its.toArray.isEmpty) = true := by
          rw [decide_eq_true c2.2]; rfl
        refine wpAny_binaryOp_repeat_ref (T := "tuple") (U := "int") (by decide) ⟨_, ho, rfl⟩ (fun s' => typeIs_int s' k t) noFill_tuple_mul F.fills_int_mul F.slot_int_rmul repeat_tuple F.slot_int_index.lookup
          (call_meets F.slot_int_rmul (typeIs_int s k t) F.entry_int_rmul (F.args_int_rmul_2 _ _) (int_rmul_tuple k t l its.toArray n dd sl)
            ⟨ho, rfl, ⟨_, ho, rfl⟩, call_meets F.slot_tuple_mul ⟨_, ho, rfl⟩ F.entry_tuple_mul (F.args_tuple_mul_2 _ _) (tuple_mulZ l its.toArray n dd sl k t h0 h1 h2) ⟨ho, ?_⟩⟩)
        obtain ⟨x2, s2⟩ := sm.frozen (o := .tup []) (I.hok.fresh (Nat.le_refl _))
        refine ⟨.ref s.heap.objs.size, _, I.laid (t' := s.toks) (o := .tup []) (fun b ob q => Heap.get?_push_of_some _ q) (Nat.le_refl _) ?_, rfl, q _ _ _ _ x2 s2 (.tup upd_same .nil)⟩
        exact ⟨by simp [sizeLine_eq], _, .nil, IsTup.new _ _⟩
      · cases ho
  · cases ho
/-! ### == and != of texts, whatever their signs -/
def opEqS : D → D → Store → Option D := fun d e _ => match d, e with
  | .str x, .str y => some (.bl (decide (x = y)))
  | _, _ => none
def opNeS : D → D → Store → Option D := fun d e _ => match d, e with
  | .str x, .str y => some (.bl (!decide (x = y)))
  | _, _ => none
theorem dec_strV (x y : Str) : decide (V.str x = V.str y) = decide (x = y) := by
  by_cases h : x = y
  · subst h; simp
  · rw [decide_eq_false h, decide_eq_false (fun z => h (by cases z; rfl))]
theorem ox_eqS {X : Cx} : OpX X (compareOp .Eq) opEqS := by
  intro pins s σ H x y v u Q I rx ry h
  obtain ⟨F, ι, S, d, e, a, sm, rd, re, ho, q⟩ := h
  unfold opEqS at ho
  split at ho
  · next x y =>
    cases ho
    cases rel_str rd
    cases rel_str re
    refine op_eq pins s σ H _ _ v u Q I rx ry ⟨rfl, ?_⟩
    rw [dec_strV]
    exact q F ι _ H (Step.refl _ _ _) sm (.bl _)
  · cases ho
theorem ox_neS {X : Cx} : OpX X (compareOp .NotEq) opNeS := by
  intro pins s σ H x y v u Q I rx ry h
  obtain ⟨F, ι, S, d, e, a, sm, rd, re, ho, q⟩ := h
  unfold opNeS at ho
  split at ho
  · next x y =>
    cases ho
    cases rel_str rd
    cases rel_str re
    refine op_ne pins s σ H _ _ v u Q I rx ry ⟨rfl, ?_⟩
    rw [dec_strV]
    exact q F ι _ H (Step.refl _ _ _) sm (.bl _)
  · cases ho
def opEqA := orO opEqS opEq
def opNeA := orO opNeS opNe
theorem ox_eqA {X : Cx} (hu : X.A.units + 64 < cLine) : OpX X (compareOp .Eq) opEqA := ox_or ox_eqS (ox_eq hu)
theorem ox_neA {X : Cx} (hu : X.A.units + 64 < cLine) : OpX X (compareOp .NotEq) opNeA := ox_or ox_neS (ox_ne hu)
/-! ### bools among ints -/
def b2 (b : Bool) : Int := if b = true then 1 else 0
def opAddB : D → D → Store → Option D := fun d e _ => match d, e with
  | .bl b, .int j => some (.int (b2 b + j))
  | .int i, .bl b => some (.int (i + b2 b))
  | _, _ => none
def opSubB : D → D → Store → Option D := fun d e _ => match d, e with
  | .bl b, .int j => some (.int (b2 b - j))
  | .int i, .bl b => some (.int (i - b2 b))
  | _, _ => none
def opMulB : D → D → Store → Option D := fun d e _ => match d, e with
  | .bl b, .int j => some (.int (b2 b * j))
  | .int i, .bl b => some (.int (i * b2 b))
  | _, _ => none
section
variable {X : Cx}
theorem ox_addB : OpX X (binaryOp .Add) opAddB := by
  intro pins s σ H x y v u Q I rx ry h
  obtain ⟨F, ι, S, d, e, a, sm, rd, re, ho, q⟩ := h
  unfold opAddB at ho
  split at ho
  · cases ho
    cases rel_bl rd
    cases rel_int re
    obtain rfl : v = Value.bool _ := rx
    obtain ⟨t, rfl⟩ := ry
    exact PySem.IntBool.add_bool_int ⟨.int _, H, I.tok _, ⟨_, rfl⟩, q F ι _ H (Step.refl _ _ _) sm (.int _)⟩
  · cases ho
    cases rel_int rd
    cases rel_bl re
    obtain ⟨t, rfl⟩ := rx
    obtain rfl : u = Value.bool _ := ry
    exact PySem.add_int_bool ⟨.int _, H, I.tok _, ⟨_, rfl⟩, q F ι _ H (Step.refl _ _ _) sm (.int _)⟩
  · cases ho
theorem ox_subB : OpX X (binaryOp .Sub) opSubB := by
  intro pins s σ H x y v u Q I rx ry h
  obtain ⟨F, ι, S, d, e, a, sm, rd, re, ho, q⟩ := h
  unfold opSubB at ho
  split at ho
  · cases ho
    cases rel_bl rd
    cases rel_int re
    obtain rfl : v = Value.bool _ := rx
    obtain ⟨t, rfl⟩ := ry
    exact PySem.IntBool.sub_bool_int ⟨.int _, H, I.tok _, ⟨_, rfl⟩, q F ι _ H (Step.refl _ _ _) sm (.int _)⟩
  · cases ho
    cases rel_int rd
    cases rel_bl re
    obtain ⟨t, rfl⟩ := rx
    obtain rfl : u = Value.bool _ := ry
    exact PySem.IntBool.sub_int_bool ⟨.int _, H, I.tok _, ⟨_, rfl⟩, q F ι _ H (Step.refl _ _ _) sm (.int _)⟩
  · cases ho
theorem ox_mulB : OpX X (binaryOp .Mult) opMulB := by
  intro pins s σ H x y v u Q I rx ry h
  obtain ⟨F, ι, S, d, e, a, sm, rd, re, ho, q⟩ := h
  unfold opMulB at ho
  split at ho
  · cases ho
    cases rel_bl rd
    cases rel_int re
    obtain rfl : v = Value.bool _ := rx
    obtain ⟨t, rfl⟩ := ry
    exact PySem.IntBool.mul_bool_int ⟨.int _, H, I.tok _, ⟨_, rfl⟩, q F ι _ H (Step.refl _ _ _) sm (.int _)⟩
  · cases ho
    cases rel_int rd
    cases rel_bl re
    obtain ⟨t, rfl⟩ := rx
    obtain rfl : u = Value.bool _ := ry
    exact PySem.IntBool.mul_int_bool ⟨.int _, H, I.tok _, ⟨_, rfl⟩, q F ι _ H (Step.refl _ _ _) sm (.int _)⟩
  · cases ho
def opAddA := orO opAdd opAddB
def opSubA := orO opSub opSubB
def opMulA := orO (orO opMul opMul0) opMulB
theorem ox_addA : OpX X (binaryOp .Add) opAddA := ox_or ox_add ox_addB
theorem ox_subA : OpX X (binaryOp .Sub) opSubA := ox_or ox_sub ox_subB
theorem ox_mulA : OpX X (binaryOp .Mult) opMulA := ox_or (ox_or ox_mul ox_mul0) ox_mulB
def absDA : List D → Store → Option D
  | [.int i], _ => some (.int (if i < 0 then -i else i))
  | [.bl b], _ => some (.int (b2 b))
  | _, _ => none
def strDA : List D → Store → Option D
  | [.int i], _ => if decide (i.natAbs.log2 < 1920) then some (.str (toString i : String)) else none
  | [.bl b], _ => some (.str (if b then "True" else "False"))
  | _, _ => none
theorem call_abs_bool {prog : Program} {w : World} {A : Around} {E : Value → Shared → Prop} {s : Shared} {b : Bool} {Q : Value → Shared → Prop} (h : ∀ u tk, Q (.int (b2 b) u) { s with toks := tk }) :
    wpAny (model prog w) A (call (.builtin "abs") [.bool b]) Q E s := by
  refine PySem.Calls.call_function_entry kind_abs plain_abs entry_abs (args_abs _) ?_
  unfold Builtin.«abs»
  refine wpAny_bind (m := oneArg "abs" _) (wpAny_pure ?_)
  refine wpAny_bind (m := callSpecial? (.bool b) (Str.ofString "__abs__")) (wpAny_callSpecial?_slot (name := Str.ofString "__abs__") (show s.TypeIs (.bool b) "bool" from rfl) F.slot_bool_abs
    (wpAny_call_entry F.slot_bool_abs (show s.TypeIs (.bool b) "bool" from rfl) entry_int_abs ?_ (args_int_abs _)))
  cases b with
  | true => exact wpAny_ret_mkInt (wpAny_pure ⟨_, rfl, h _ _⟩)
  | false => exact wpAny_ret_mkInt (wpAny_pure ⟨_, rfl, h _ _⟩)
theorem cx_absA : CallX X (.builtin "abs") absDA := by
  intro pins s σ H xs us Q I r h
  obtain ⟨F, ι, S, ds, a, sm, rd, ho, q⟩ := h
  unfold absDA at ho
  split at ho
  · next i => exact cx_abs pins s σ H xs us Q I r ⟨F, ι, S, _, a, sm, rd, ho, q⟩
  · next b =>
    cases ho
    obtain ⟨x, rfl, rx⟩ := rel1 rd
    cases rel_bl rx
    cases r with
    | cons r1 r2 =>
      cases r2
      obtain rfl : _ = Value.bool _ := r1
      exact call_abs_bool fun u tk => ⟨.int _, H, I.tok _, ⟨_, rfl⟩, q F ι _ H (Step.refl _ _ _) sm (.int _)⟩
  · cases ho
theorem cx_strA : CallX X (.type "str") strDA := by
  intro pins s σ H xs us Q I r h
  obtain ⟨F, ι, S, ds, a, sm, rd, ho, q⟩ := h
  unfold strDA at ho
  split at ho
  · next i => exact cx_str pins s σ H xs us Q I r ⟨F, ι, S, _, a, sm, rd, ho, q⟩
  · next b =>
    cases ho
    obtain ⟨x, rfl, rx⟩ := rel1 rd
    cases rel_bl rx
    cases r with
    | cons r1 r2 =>
      cases r2
      obtain rfl : _ = Value.bool _ := r1
      exact PySem.P.str_of_bool ⟨.str _, H, I.tok _, ⟨_, rfl⟩, q F ι _ H (Step.refl _ _ _) sm (.str _)⟩
  · cases ho
end
end Fk

set_option Elab.async false
set_option linter.all false
set_option maxRecDepth 100000
namespace Fk
open PySem PySem.Spec PyProof.Rows L2
/-! ### the head's facts, and that sys.modules is no list -/
def smB (K : PySem.W.Frag) : Bool := match K.lookup sysModules with
  | some ⟨.type c, _, _, _⟩ => !decide (c = "list")
  | _ => false
theorem smB_ok {K : PySem.W.Frag} {base : Heap} (h : smB K = true) (X : K.In base) : ∃ o, base.get? sysModules = some o ∧ o.cls ≠ .type "list" := by
  unfold smB at h
  split at h
  · next c od dt sl e =>
    refine ⟨_, X _ _ e, fun z => ?_⟩
    have z : Value.type c = Value.type "list" := z
    cases z
    simp at h
  · cases h
/-- no table of code objects: such grow -/
def noTab (g : Addr → Option Obj) (a : Addr) : Bool := match g a with
  | some ⟨.none, _, .fields _, _⟩ => false
  | _ => true
def frM (g : Addr → Option Obj) (n : Nat) : PySem.W.Frag := He.frG g (sysModules :: (He.asD g n).filter (noTab g))
abbrev AlS : Type := He.AlD × Bool
def obsS (xb : PySem.W.Frag → Bool) (n : Nat) (fa : List He.Fa) (fn : List He.DefD) (g : Addr → Option Obj) : AlS := (He.obsD fa fn (frM g n), smB (frM g n) && xb (frM g n))
def hookS (xb : PySem.W.Frag → Bool) (n : Nat) (fa : List He.Fa) (fn : List He.DefD) : PySem.W.Hook where
  α := AlS
  obs := fun s => obsS xb n fa fn s.heap.get?
  val := fun _ => (He.valD fn, true)
  says := fun _ h => ∃ K : PySem.W.Frag, K.In h ∧ He.SaysD fa fn K ∧ (smB K && xb K) = true
  of := fun _ _ e => ⟨_, He.frG_in, congrArg Prod.fst e, congrArg Prod.snd e⟩
  keeps := fun _ _ _ ⟨K, hK, c⟩ k => ⟨K, PySem.W.Frag.In.keeps hK k, c⟩
theorem obsS_eq {xb : PySem.W.Frag → Bool} {n : Nat} {fa : List He.Fa} {fn : List He.DefD} {g : Addr → Option Obj} {s : Shared} (h : ∀ a, g a = s.heap.get? a) : obsS xb n fa fn g = (hookS xb n fa fn).obs s := by
  have e : g = s.heap.get? := funext h
  rw [e] <;> rfl
section
variable {P : Program} {w : World} {K : PySem.W.Frag} {mg : Str → Option Value} {base : Heap} {x qual : Str} {params : Arguments} {body : List Stmt} {scope : Scope} {kws : List (Str × V)} {f : Addr} {fd : FuncData} {ps : List Str} {k : Nat} {fs : FSem} {dvs : List V} {dd : List D}
/-- some parameters are left to their defaults -/
theorem Fn.some (F : FunD K x qual params body scope dvs kws f fd) (hm : mg x = some (.ref f)) (G : FnG P w K mg base k f fd ps (spD K mg ps.length fs)) (n j : Nat) (hd : dvs ≠ []) (hn : n + (dvs.length - j) = ps.length) (hdd : ∀ K F ι, RelAll K F ι (dvs.drop j) dd)
    (h : ∀ (T : Addr) (kV doc pm : Value) (an : Option Addr) (cdv ct : Value) (us its : List Value), us.length = n → its.length = dvs.length →
      ∃ k, bindArgs (PySem.W.fnOf x qual params body scope (.ref T) kV doc pm an cdv ct) ⟨us, []⟩ = seqItems? (.ref T) >>= k ∧ k (Option.some its.toArray) = pure (ps.zip (us ++ its.drop j))) : Fn P w K mg base k x ps dd fs := by
  obtain ⟨ds, hv, hb⟩ := F.binds1 n j hd hn h
  exact ⟨f, fd, _, ds, hm, F.kp, G, hb, hv, hdd⟩
theorem FnG.stuck (hl : fs = fun _ _ => .stuck) : FnG P w K mg base k f fd ps (spD K mg ps.length fs) := by
  subst hl
  exact ⟨fun vs H Q E ⟨F, ι, ds, S, s, r, hl, q⟩ => q.elim, fun A outer s H args us vs Q E _ _ _ _ _ ⟨F, ι, ds, S, s', r, hl, q⟩ => q.elim⟩
end
end Fk

set_option Elab.async false
set_option linter.all false
set_option maxRecDepth 100000
set_option maxHeartbeats 1000000
namespace Fk
open PySem PySem.Spec PyProof.Rows L2
/-! ### enumerate(tuple) -/
def IteT (K : PySem.W.Frag) (a : Addr) : It :=
  ⟨fun i H => ∃ (xs : List V) (x : V), SqT K H a xs ∧ xs[i]? = some x, fun i H v H' => ∃ T x, v = .ref T ∧ H T = none ∧ H' = upd H T (.tup [.int (i : Nat), x]) ∧ ∀ xs, SqT K H a xs → xs[i]? = some x, fun i H => ∃ xs : List V, SqT K H a xs ∧ xs.length ≤ i⟩
theorem enum_new1 {v : Value} {o : Obj} {H : Heap → Prop} (B : Begins v o H) :
    Meets (Builtin.«enumerate.__new__» ⟨[.type "enumerate", v], []⟩) (fun _ R s => H s.heap ∧
      R (.ok (.ret (.ref (s.heap.push o).objs.size))) { s with heap := (s.heap.push o).push { cls := .type "enumerate", data := .fields #[.none, .bool false, .ref s.heap.objs.size, rawInt 0, .none, .none] } }) :=
  .of_wp fun prog w A R s h => by
    obtain ⟨hp, g, d, tk, os⟩ := s; obtain ⟨h1, h⟩ := h
    have hsub := sub_enumerate
    have q1 : ∀ {A' : Around} {E : Value → Shared → Prop} {Q : Value → Shared → Prop}, Q (.ref hp.objs.size) ⟨hp.push o, g, d, tk, os⟩ → wpAny (model prog w) A' (pyIter v) Q E ⟨hp, g, d, tk, os⟩ :=
      fun q => B.iter prog w _ _ ⟨hp, g, d, tk, os⟩ _ h1 q
    wp_walk using q1
    refine wpAny_stack_any fun st => wpAny_pure ?_
    split
    · rename_i c _ _ _ _ _
      cases (c == Value.type "enumerate")
      · wp_walk using q1
        exact ⟨_, rfl, h⟩
      · wp_walk using q1
        exact ⟨_, rfl, h⟩
    · wp_walk using q1
      exact ⟨_, rfl, h⟩
section
variable {prog : Program} {w : World} {A : Around} {E : Value → Shared → Prop} {s : Shared}
theorem call_enum1 {v : Value} {o : Obj} {H : Heap → Prop} {Q : Value → Shared → Prop} (B : Begins v o H) (h1 : H s.heap)
    (h : ∀ h', IsEnum h' (s.heap.objs.size + 1) s.heap.objs.size 0 .none → h'.get? s.heap.objs.size = some o → h'.objs.size = s.heap.objs.size + 2 →
      (∀ b o, s.heap.get? b = some o → h'.get? b = some o) → Q (.ref (s.heap.objs.size + 1)) { s with heap := h' }) :
    wpAny (model prog w) A (call (.type "enumerate") [v]) Q E s := by
  refine callType_new F.called_enumerate (by decide) (F.typeCall_enumerate_1 _) (F.newCall_enumerate_1 _) (fun obj => F.args_object_init_2 obj _) F.entry_enumerate_new (enum_new1 B) ⟨h1, ?_⟩
  have hz : (s.heap.push o).objs.size = s.heap.objs.size + 1 := Heap.size_push ..
  show _ ∧ _
  rw [hz]
  have he : IsEnum ((s.heap.push o).push { cls := .type "enumerate", data := .fields #[.none, .bool false, .ref s.heap.objs.size, rawInt 0, .none, .none] }) (s.heap.objs.size + 1) s.heap.objs.size 0 .none := by
    have := Heap.get?_push_size (s.heap.push o) (o := { cls := .type "enumerate", data := .fields #[.none, .bool false, .ref s.heap.objs.size, rawInt 0, .none, .none] }) rfl
    rw [hz] at this
    exact this
  exact ⟨⟨_, he, rfl⟩, h _ he (Heap.get?_push_of_some _ (Heap.get?_push_size _ B.free)) (by rw [Heap.size_push, hz]) fun b o x => Heap.get?_push_of_some _ (Heap.get?_push_of_some _ x)⟩
theorem enum_endT {e it t : Addr} {i : Nat} {c : Int} {items : Array Value} {old : Value} {Q : Option Value → Shared → Prop} (hh : A.handled = none) (he : IsEnum s.heap e it c old) (hit : s.heap.IsTupleIter it t i) (ht : s.heap.IsTuple t items) (hx : items[i]? = none)
    (hQ : ∀ h', Heap.ExtBut it s.heap h' → Q none { s with heap := h' }) : wpAny (model prog w) A (pyNext (.ref e)) Q E s := by
  have hT : s.TypeIs (.ref e) "enumerate" := ⟨_, he, rfl⟩
  unfold pyNext
  refine wpAny_bind (wpAny_attempt (wpAny_callSpecial?_slot (name := Str.ofString "__next__") hT F.slot_enumerate_next
    (wpAny_call_entry F.slot_enumerate_next hT F.entry_enumerate_next ?_ (F.args_enumerate_next_1 _))))
  show wpAny _ _ (field (.ref e) 2 >>= _) _ _ _
  refine wpAny_bind (wpAny_field he rfl (x := .ref it) rfl ?_)
  refine wpAny_bind (wpAny_nextOf_tuple_end hh hit ht hx fun h' x he' hx' => ?_)
  obtain ⟨o, ho, hc⟩ := hx'
  refine wpAny_bind (wpAny_isInstance (T := "StopIteration") (b := true) ⟨o, ho, hc⟩ isSubtype_stop ?_)
  exact wpAny_pure (hQ _ he')
end
theorem turn_enumT {P : Program} {w : World} {K : PySem.W.Frag} {elts : List Expr} {kk : Nat} {tpos : Pos} (a e it : Addr) :
    Turn P w K (.Tuple elts kk tpos) (IteT K a) [e, it] e (fun i h => (∃ old, IsEnum h e it ((i : Nat) : Int) old) ∧ h.IsTupleIter it a i ∧ e ≠ it) where
  mem := by simp
  obj := fun i h st b hb => by
    obtain ⟨⟨old, he⟩, ⟨o, ho, hc, hd⟩, _⟩ := st
    have e' : b = e ∨ b = it := by simpa using hb
    rcases e' with z | z
    · rw [z]; exact ⟨_, he, fun v q => nomatch q⟩
    · rw [z]; exact ⟨o, ho, fun v q => by rw [hd] at q; cases q⟩
  keep := fun i h h' st k => let ⟨⟨old, he⟩, ⟨o, ho, hr⟩, hne⟩ := st; ⟨⟨old, k e (by simp) _ he⟩, ⟨o, k it (by simp) o ho, hr⟩, hne⟩
  item := by
    intro X hP hw hK hc i pins s σ H E I hf st hg
    subst hP hw hK
    obtain ⟨⟨old, he⟩, hit, hne⟩ := st
    obtain ⟨xs, x, hq, hx⟩ := hg
    obtain ⟨its, rv, p, hz⟩ := I.tuple hq
    obtain ⟨u, hu, ru⟩ := rv.get hx
    have hel : e < s.heap.objs.size := Heap.lt_size he
    have hil : it < s.heap.objs.size := by obtain ⟨_, q, _⟩ := hit; exact Heap.lt_size q
    have hai : a ≠ it := fun z => by
      obtain ⟨o1, h1, c1, _⟩ := p
      obtain ⟨o2, h2, c2, _⟩ := hit
      rw [z, h2] at h1
      cases h1
      rw [c2] at c1
      injection c1 with c1
      exact absurd c1 (by decide)
    have hae : e ≠ a := fun z => by
      obtain ⟨o1, h1, c1, _⟩ := p
      rw [← z, show s.heap.get? e = some _ from he] at h1
      cases h1
      have c1 : Value.type "enumerate" = Value.type "tuple" := c1
      injection c1 with c1
      exact absurd c1 (by decide)
    have hlt : i < its.toArray.size := by simpa using (List.getElem?_eq_some_iff.mp hu).1
    refine wpAny_pyNext_enum_itemD (Draws.tuple (A := X.A.in1) (I.ok.hd hc) it a hai its.toArray) he ⟨hit, p⟩ hlt hne (by simp [hne, hae]) fun y h' tk hy ho hst hT hsz hk => ?_
    have hy' : y = u := by
      have h1 : its.toArray[i]? = some u := by simpa using hu
      rw [show its.toArray[i]? = some y from hy] at h1
      cases h1
      rfl
    subst hy'
    refine ⟨_, rfl, wpAny_letOwnedTupleGo_enum (s := { s with heap := h', toks := tk + 1 }) ho fun h'' he' sb => ?_⟩
    have hT2 : h''.get? s.heap.objs.size = some { cls := .type "tuple", data := .seq #[.int i tk, y] } := (sb.2 _ (Nat.ne_of_gt hel)).trans hT
    have new : ObjOk X.prog X.w (upd H s.heap.objs.size (.tup [.int (i : Nat), x])) h'' s.heap.objs.size (.tup [.int (i : Nat), x]) :=
      ⟨by show 2 ≤ sizeLine; decide, [.int i tk, y], .cons ⟨_, rfl⟩ (.cons ru .nil), ⟨_, hT2, rfl, _, rfl⟩⟩
    have I1 : Inv X pins σ (upd H s.heap.objs.size (.tup [.int (i : Nat), x])) { s with heap := h'', toks := tk + 1 } :=
      I.turnedNew (ch := [e, it]) (fun b ob hb q => (sb.2 b (fun z => hb (by simp [z]))).trans (hk b ob (fun z => hb (by simp [z])) (fun z => hb (by simp [z])) q)) hf (Nat.le_refl _) new
    obtain ⟨⟨o2, ho2, hr2⟩, _⟩ := hst
    refine ⟨.ref s.heap.objs.size, _, I1, rfl, ⟨_, x, rfl, I.hok.fresh (Nat.le_refl _), rfl, fun ys hy => by rw [I.tuple_inj hy hq]; exact hx⟩, ⟨⟨y, ?_⟩, ⟨o2, (sb.2 it (Ne.symm hne)).trans ho2, hr2⟩, hne⟩, fun b hb => ?_⟩
    · have e1 : ((i + 1 : Nat) : Int) = (i : Int) + 1 := by omega
      rw [e1]; exact he'
    · have hb' : b < s.heap.objs.size := by
        have e' : b = e ∨ b = it := by simpa using hb
        rcases e' with z | z
        · rw [z]; exact hel
        · rw [z]; exact hil
      rw [upd_ne (Nat.ne_of_lt hb')]
      exact (hf b hb).1
  done := by
    intro X hP hw hK hc i pins s σ H E I hf st hg
    subst hP hw hK
    obtain ⟨⟨old, he⟩, hit, hne⟩ := st
    obtain ⟨xs, hq, hx⟩ := hg
    obtain ⟨its, rv, p, hz⟩ := I.tuple hq
    obtain ⟨f0, f1, f2, f3, f4, f5⟩ := hf it (by simp)
    have hl := rv.length
    exact enum_endT (I.ok.hd hc) he hit p (by simp; omega) fun h' eb => ⟨rfl, I.turned (t' := s.toks) (fun b o hb q => eb b o hb q) f0 f1 f3 f4 f5⟩
  self := fun A i s Q E st h => let ⟨⟨_, he⟩, _⟩ := st; wpAny_pyIter_enum he h
def enumL (xs : List D) : List D := xs.mapIdx fun i x => .tup [.int (i : Nat), x]
def itEnum (fa : SemA) : SemA := fun ρ S => (fa ρ S).bind fun ds S1 => match ds with
  | [.lst xs] => .ok (enumL xs) S1
  | [.tup xs] => .ok (enumL xs) S1
  | _ => .stuck
theorem enumL_len (xs : List D) : (enumL xs).length = xs.length := by simp [enumL]
theorem enumL_at (xs : List D) (i : Nat) : (enumL xs)[i]? = xs[i]?.map fun x => .tup [.int (i : Nat), x] := by simp [enumL]
theorem walks_enumL {K : PySem.W.Frag} {F : Hp} {ι : List Addr} {a : Addr} {vs : List V} {xs : List D} (h1 : F a = some (.lst vs)) (r1 : RelAll K F ι vs xs) : Walks K F ι (Ite K a) (enumL xs) := by
  refine ⟨fun H i s hi => ?_, fun H i x H' s hi y => ?_, fun H i s hi => ⟨vs, SqL.of (s _ _ h1), ?_⟩⟩
  · rw [enumL_len] at hi
    have hv : i < vs.length := by rw [r1.length]; omega
    exact ⟨vs, vs[i], SqL.of (s _ _ h1), by simp [hv]⟩
  · obtain ⟨T, x1, rfl, hT, rfl, e1⟩ := y
    obtain ⟨d1, hd1, rd1⟩ := r1.getV (e1 vs (SqL.of (s _ _ h1)))
    refine ⟨.tup [.int (i : Nat), d1], by rw [enumL_at, hd1]; rfl, .inr ⟨T, _, [.int (i : Nat), d1], rfl, hT, rfl, rfl, .cons (.int _) (.cons rd1 .nil)⟩⟩
  · rw [enumL_len] at hi
    rw [r1.length]
    exact hi
theorem walks_enumT {K : PySem.W.Frag} {F : Hp} {ι : List Addr} {a : Addr} {vs : List V} {xs : List D} (h1 : F a = some (.tup vs)) (r1 : RelAll K F ι vs xs) : Walks K F ι (IteT K a) (enumL xs) := by
  refine ⟨fun H i s hi => ?_, fun H i x H' s hi y => ?_, fun H i s hi => ⟨vs, SqT.of (s _ _ h1), ?_⟩⟩
  · rw [enumL_len] at hi
    have hv : i < vs.length := by rw [r1.length]; omega
    exact ⟨vs, vs[i], SqT.of (s _ _ h1), by simp [hv]⟩
  · obtain ⟨T, x1, rfl, hT, rfl, e1⟩ := y
    obtain ⟨d1, hd1, rd1⟩ := r1.getV (e1 vs (SqT.of (s _ _ h1)))
    refine ⟨.tup [.int (i : Nat), d1], by rw [enumL_at, hd1]; rfl, .inr ⟨T, _, [.int (i : Nat), d1], rfl, hT, rfl, rfl, .cons (.int _) (.cons rd1 .nil)⟩⟩
  · rw [enumL_len] at hi
    rw [r1.length]
    exact hi
section
variable {X : Cx} {W : WX}
theorem xi_enum {e : Expr} {fa : SemA} {p pos tpos : Pos} {elts : List Expr} {kk : Nat} (hg : Gl X "enumerate") (hm : X.mg "enumerate" = none) (ha : XA X W [e] fa) (hs : starEach [e] X.env = [(false, eval e X.env)] := by rfl) :
    XI X W (.Tuple elts kk tpos) (.Call (.Name "enumerate" p) [e] [] pos) (itEnum fa) := by
  refine ⟨fun pins s σ H R I h => ?_⟩
  obtain ⟨F, ι, ρ, S, sm, r, q⟩ := h
  have key : tA ⟨X.K, X.mg, W⟩ fa σ H fun vs H1 => ∃ a, vs = [.ref a] ∧ ((∃ xs, SqL X.K H1 a xs ∧ R (Ite X.K a) H1) ∨ ∃ xs, SqT X.K H1 a xs ∧ R (IteT X.K a) H1) := by
    refine ⟨F, ι, ρ, S, sm, r, post_bind (R := RA' X.K) q (fun ds S1 F1 ι1 vs H1 x1 s1 rv q1 => ?_) stI⟩
    have rv : RelAll X.K F1 ι1 vs ds := rv
    cases rv with
    | nil => exact q1.elim
    | cons r1 t1 =>
      cases t1 with
      | cons _ _ => cases r1 <;> exact q1.elim
      | nil =>
        cases r1 with
        | @lst a vs ds h1 h2 => exact ⟨a, rfl, .inl ⟨vs, SqL.of (s1.sub _ _ h1), q1 F1 ι1 _ H1 (Step.refl _ _ _) s1 (walks_enumL h1 h2)⟩⟩
        | @tup a vs ds h1 h2 => exact ⟨a, rfl, .inr ⟨vs, SqT.of (s1.sub _ _ h1), q1 F1 ι1 _ H1 (Step.refl _ _ _) s1 (walks_enumT h1 h2)⟩⟩
        | _ => exact q1.elim
  refine Call_ (ld_blt I hg hm boot_enumerate (PyProof.Rows.callWith_type1 (thn (ha.run pos pins s σ H _ I key) fun us s1 ⟨vs, H1, I1, r1, q1⟩ => ?_) hs rfl))
  obtain ⟨a, rfl, q1⟩ := q1
  cases r1 with
  | cons r rr =>
    cases rr
    cases r
    have fp : ∀ {h' : Heap}, ∀ b ∈ [s1.heap.objs.size + 1, s1.heap.objs.size], FpOk X pins H1 b := fun {h'} b hb => by
      have e' : b = s1.heap.objs.size + 1 ∨ b = s1.heap.objs.size := by simpa using hb
      have hle : s1.heap.objs.size ≤ b := by
        rcases e' with z | z
        · rw [z]; exact Nat.le_add_right _ _
        · rw [z]; exact Nat.le_refl _
      exact I1.fpOk hle (I1.hok.fresh hle)
    rcases q1 with ⟨xs, hq, q⟩ | ⟨xs, hq, q⟩
    · obtain ⟨its, rv, p', hz⟩ := I1.list hq
      refine call_enumerate_list p'.isList fun h' he hit hsz hk => wpAny_pyIter_enum he ?_
      have I2 : Inv X pins σ H1 { s1 with heap := h' } := I1.kept (t' := s1.toks) hk
      exact ⟨s1.heap.objs.size + 1, [s1.heap.objs.size + 1, s1.heap.objs.size], _, _, H1, rfl, I2, turn_enum a (s1.heap.objs.size + 1) s1.heap.objs.size, ⟨⟨.none, he⟩, hit, Nat.succ_ne_self _⟩, fp (h' := h'), q⟩
    · obtain ⟨its, rv, p', hz⟩ := I1.tuple hq
      refine call_enum1 (begins_tuple a its.toArray) p' fun h' he hit hsz hk => wpAny_pyIter_enum he ?_
      have I2 : Inv X pins σ H1 { s1 with heap := h' } := I1.kept (t' := s1.toks) hk
      exact ⟨s1.heap.objs.size + 1, [s1.heap.objs.size + 1, s1.heap.objs.size], _, _, H1, rfl, I2, turn_enumT a (s1.heap.objs.size + 1) s1.heap.objs.size, ⟨⟨.none, he⟩, ⟨_, hit, rfl, rfl⟩, Nat.succ_ne_self _⟩, fp (h' := h'), q⟩
end
/-! ### xs.index(x) -/
def idxD (d e : D) (S : Store) : Option Nat := match dr S d with
  | .lst xs => (datAll xs).bind fun ys => (dat (dr S e)).bind fun a => if SeqAt.shaped a && SeqAt.shaped (.list ys) then ys.findIdx? fun z => PyData.eqv z a else none
  | _ => none
def opIndex : D → D → Store → Option D := fun d e S => (idxD d e S).map fun j => .int (j : Nat)
def eIdx (f g : SemE) : SemE := fun ρ S => (f ρ S).bind fun x S1 => if isL S1 x then (g ρ S1).bind fun y S2 => lift (opIndex x y S2) S2 else .stuck
def rIdx (K : PySem.W.Frag) (mg : Str → Option Value) : V → List V → Hp → VK → Prop := fun x xs H Q => ∃ F ι S d e y j, Sim K mg F ι S H ∧ Rel K F ι x d ∧ xs = [y] ∧ Rel K F ι y e ∧ idxD d e S = some j ∧ Q (.int (j : Nat)) H
section
variable {X : Cx} {W : WX}
theorem mt_idx (hu : X.A.units + 65 < cLine) : MtR X "list.index" (rIdx X.K X.mg) := by
  intro pins s σ H x xs v us Q I rx rxs h
  obtain ⟨F, ι, S, d, e, y, j, sm, rd, rfl, re, hj, q⟩ := h
  unfold idxD at hj
  split at hj
  · next xs h1 =>
    obtain ⟨ds, hds, hj⟩ := Option.bind_eq_some_iff.mp hj
    obtain ⟨da, hda, hj⟩ := Option.bind_eq_some_iff.mp hj
    split at hj
    · next hz =>
      obtain ⟨z1, z2⟩ := Bool.and_eq_true_iff.mp hz
      obtain ⟨a, vs, rfl, e1, r1⟩ := at_lst sm rd h1
      cases rx
      cases rxs with
      | cons ry rt =>
        rename_i uy ut
        cases rt
        obtain ⟨bs, rr, _⟩ := reads_dr I sm re ry hda
        obtain ⟨its, rv, ⟨⟨cls, dd, data, sls⟩, n, ho, hc, hdn, hdt⟩, hlen⟩ := I.list (SqL.of e1)
        simp only at hc hdt
        subst hc hdt
        obtain ⟨as, h4, _⟩ := reads_all I sm.sub r1 rv hds
        have hxs : PyData.canLayAll0 ds = true := by simpa [PyData.canLay0] using SeqAt.canLay_of_shaped z2
        have hn : its.length = ds.length := SeqAt.ReadsAll.length ds its as h4
        have hmap : its.map (SeqAt.readOf s.heap) = ds := SeqAt.readsAll_map ds its as hxs h4
        have hvl := rv.length
        have hsl := sizeLine_eq
        obtain ⟨hjd, hjt, hjn⟩ := List.findIdx?_eq_some_iff_getElem.mp hj
        have hjl : j < its.length := by omega
        have hj' : j < its.toArray.size := by simpa using hjl
        have at_ : ∀ (m : Nat) (hm : m < its.toArray.size) (hm2 : m < ds.length), SeqAt.readOf s.heap its.toArray[m] = ds[m] := fun m hm hm2 => by
          have hml : m < its.length := by simpa using hm
          have : (its.map (SeqAt.readOf s.heap))[m]'(by simpa using hml) = ds[m] := by simp [hmap]
          simpa using this
        refine call_meets PySem.F.slot_list_index ⟨_, ho, rfl⟩ PySem.F.entry_list_index (PySem.F.args_list_index_2 _ _)
          (SeqAt.list_indexAt a its.toArray n dd sls uy (fun u => PyData.eqv (SeqAt.readOf s.heap u) da) j hj' (by omega) ?_ ?_) ⟨ho, SeqAt.items_eqAt (vs := its.toArray) (show ReadsAll s.heap its.toArray.toList ds as from h4) rr hxs (SeqAt.canLay_of_shaped z1) (room_in_shaped z1 hu), ?_⟩
        · show PyData.eqv (SeqAt.readOf s.heap its.toArray[j]) da = true
          rw [at_ j hj' hjd]
          exact hjt
        · intro m hm hmj
          show PyData.eqv (SeqAt.readOf s.heap its.toArray[m]) da = false
          rw [at_ m hm (by omega)]
          have := hjn m hmj
          simpa using this
        · exact ⟨.int (j : Nat), H, I.tok _, ⟨_, rfl⟩, q⟩
    · cases hj
  · cases hj
theorem xe_index {o e : Expr} {f g : SemE} {apos cpos : Pos} (hu : X.A.units + 65 < cLine) (ho : XE X W o f) (he : XE X W e g) (hbase : attributeBase o "index" X.env (eval o X.env) = eval o X.env := by rfl)
    (hfew : ((backTo cpos (starEach [e] X.env)).all (fun x => !x.1) && (backToKw cpos (keywordEach [] X.env)).all (fun x => x.1.isSome) && decide ([e].length + ([] : List Keyword).length + (if ([] : List Keyword).isEmpty then 0 else 1) < 30)) = true := by rfl)
    (hline : (apos.endLine == cpos.line) = true := by rfl) (hs : starEach [e] X.env = (false, eval e X.env) :: starEach [] X.env := by rfl) (hpl : (backTo cpos (starEach [] X.env)).any (·.1) = false := by rfl) :
    XE X W (.Call (.Attribute o "index" apos) [e] [] cpos) (eIdx f g) := by
  refine peI (pe_bm PySem.F.plainAttrs_list PySem.F.slot_list_index PySem.F.type_list_index (mt_idx hu) ho (pa_cons he pa_nil hs) hbase hfew hline hs hpl) fun σ H Q h => ?_
  obtain ⟨F, ι, ρ, S, sm, r, q⟩ := h
  refine ⟨F, ι, ρ, S, sm, r, post_bind (R := RV' X.K) q fun x S1 F1 ι1 v H1 x1 s1 rv q1 => ?_⟩
  obtain ⟨hL, q1⟩ := ite_stuck q1
  refine ⟨isL_ty s1 rv hL, F1, ι1, ρ, S1, s1, r.mono x1, post_bind (R := RV' X.K) q1 fun y S2 F2 ι2 u H2 x2 s2 ru q2 => ?_⟩
  obtain ⟨z, hz, q3⟩ := post_lift q2
  obtain ⟨j, hj, rfl⟩ := Option.map_eq_some_iff.mp hz
  exact ⟨F2, ι2, S2, x, y, u, j, s2, Rel.mono x2 rv, rfl, ru, hj, q3 F2 ι2 _ H2 (Step.refl _ _ _) s2 (.int _)⟩
end
end Fk

set_option Elab.async false
set_option linter.all false
set_option maxRecDepth 100000
set_option maxHeartbeats 1000000
namespace Fk
open PySem PySem.Spec PyProof.Rows L2
/-! ### try: several clauses, each with a name or without; what is caught is an object of ours -/
theorem xo_ok {P : Program} {w : World} {H : Hp} {h : Heap} {a C : Addr} {d : Option Addr} {oe : Obj} {vs : Array Value} (he : h.get? a = some oe) (hc : oe.cls = .ref C) (hd : oe.dict = d) (hv : oe.data = .fields vs) : ObjOk P w H h a (xo a C d) :=
  ⟨⟨oe, he, hc, hd, vs, hv⟩, ⟨_, he⟩, fun h1 h2 z k => by
    obtain ⟨o, q, r⟩ := z
    exact ⟨o, k _ q, r⟩⟩
theorem xo_at {P : Program} {w : World} {H : Hp} {h : Heap} {a C : Addr} {d : Option Addr} (hok : HOk P w H h) (he : H a = some (xo a C d)) : ∃ oe : Obj, h.get? a = some oe ∧ oe.cls = .ref C ∧ oe.dict = d ∧ ∃ vs, oe.data = .fields vs := by
  have x : ObjOk P w H h a (.ext fun h => ∃ oe : Obj, h.get? a = some oe ∧ oe.cls = .ref C ∧ oe.dict = d ∧ ∃ vs, oe.data = .fields vs) := hok a _ he
  exact x.1
/-- the object of a caught exception is taken into our heap -/
theorem suiteH {X : Cx} {pins : List (Addr × Obj)} {σ : L2.St} {H : Hp} {s sI : Shared} {a C : Addr} {d : Option Addr} {oe : Obj} {vs : Array Value} (I : Inv X pins σ H s) (J : Inv X pins σ H sI) (hx : X.ex = []) (ha : s.heap.get? a = some oe) (hc : oe.cls = .ref C) (hdd : oe.dict = d) (hd : oe.data = .fields vs)
    (na : H a = none) (nL : a ≠ X.env.locals) (nF : a ∉ X.fs) (nI : sI.heap.get? a = none) : Inv (X.suite a (X.pn ++ pins)) [] σ (upd H a (xo a C d)) s := by
  have n0 : ∀ b o, X.s_0.heap.get? b = some o → b ≠ a := fun b o e z => by
    obtain ⟨o', e'⟩ := J.base.there b o e (by rw [hx]; simp)
    rw [z, nI] at e'
    cases e'
  refine ⟨I.ok.suite _ _, I.os, I.bare, ⟨I.base.keep, I.base.slot, fun b o e n h => ?_, I.base.there, fun b xs e => ?_, fun b o xs e => ?_, fun b ps e => ?_⟩, I.loc, I.cell, ?_, fun x c e => ?_, fun p hp => ?_, fun b o e => ?_, I.len⟩
  · rw [upd_ne (n0 b o e)]
    exact I.base.free b o e n h
  · have z := I.base.tups b xs e
    rw [upd_ne (ne_of_none z na)]
    exact z
  · have z := I.base.frzs b o xs e
    rw [upd_ne (ne_of_none z na)]
    exact z
  · obtain ⟨m, z⟩ := I.base.tbls b ps e
    exact ⟨m, by rw [upd_ne (ne_of_none z na)]; exact z⟩
  · rw [upd_ne (Ne.symm nL)]
    exact I.free
  · have hne : c ≠ a := fun z => by
      obtain ⟨v, hv⟩ := I.cell x c e
      rw [z] at hv
      obtain ⟨o, ho, hdo⟩ := hv
      rw [ha] at ho
      cases ho
      rw [hd] at hdo
      cases hdo
    rw [upd_ne hne]
    exact I.freeC x c e
  · have hp' : p ∈ X.pn ++ pins := by simpa using hp
    have h1 := I.pin p hp'
    have h2 := J.pin p hp'
    have hne : p.1 ≠ a := fun z => by
      have := h2.1
      rw [z, nI] at this
      cases this
    exact ⟨h1.1, by rw [upd_ne hne]; exact h1.2.1, h1.2.2.1, h1.2.2.2.1, h1.2.2.2.2⟩
  · by_cases hb : b = a
    · subst hb
      rw [upd_same] at e
      cases e
      exact xo_ok ha hc hdd hd
    · rw [upd_ne hb] at e
      exact (I.hok b o e).stay (fun c v hc q => q) (fun c q => by rw [upd_ne (ne_of_none q na)]; exact q) fun c xs q => by rw [upd_ne (ne_of_none q na)]; exact q
def unD (i : Nat) (D : Ends) : Ends := { nx := fun σ' H' => D.nx (σ'.set i none) H', rt := D.rt, bk := fun σ' H' => D.bk (σ'.set i none) H', ct := fun σ' H' => D.ct (σ'.set i none) H' }
def wN (K : PySem.W.Frag) (Wout : WX) (D : Ends) : List (Value × Option Nat × TS) → WX
  | [] => Wout
  | (c, none, ts) :: r => fun cls d σ H => ∃ b C, cls = .ref C ∧ PySem.W.exmOne K cls c = some b ∧ (b = true → ∀ a, H a = none → ts D σ (upd H a (xo a C d))) ∧ (b = false → wN K Wout D r cls d σ H)
  | (c, some i, ts) :: r => fun cls d σ H => ∃ b C, cls = .ref C ∧ PySem.W.exmOne K cls c = some b ∧ (b = true → ∀ a, H a = none → ts (unD i D) (σ.set i (some (.ref a))) (upd H a (xo a C d))) ∧ (b = false → wN K Wout D r cls d σ H)
inductive HdsN (X : Cx) : List ExceptHandler → List (Value × Option Nat × TS) → Prop
  | nil : HdsN X [] []
  | cons {x : Str} {c : Value} {ts : TS} {b₀ : Stmt} {suite : List Stmt} {np pos' : Pos} {hds : List ExceptHandler} {l : List (Value × Option Nat × TS)} (hc : Names X x c)
      (hsu : ∀ (a : Addr) (pn : List (Addr × Obj)), PSs (X.suite a pn) (b₀ :: suite) ts) (r : HdsN X hds l) :
      HdsN X (.ExceptHandler (some (.Name x np)) none (b₀ :: suite) pos' :: hds) ((c, none, ts) :: l)
  | consN {x n : Str} {i : Nat} {c : Value} {ts : TS} {b₀ : Stmt} {suite : List Stmt} {np pos' : Pos} {hds : List ExceptHandler} {l : List (Value × Option Nat × TS)} (hi : X.N[i]? = some n) (hln : X.env.kindOf n = some .local) (hc : Names X x c)
      (hsu : ∀ (a : Addr) (pn : List (Addr × Obj)), PSs (X.suite a pn) (b₀ :: suite) ts) (r : HdsN X hds l) :
      HdsN X (.ExceptHandler (some (.Name x np)) (some n) (b₀ :: suite) pos' :: hds) ((c, some i, ts) :: l)
section
variable {X : Cx} {body : List Stmt} {h₀ : ExceptHandler} {hds : List ExceptHandler} {l : List (Value × Option Nat × TS)} {pos : Pos} {tb : WX → TS} {Wout : WX}
theorem ps_tryN (hs : X.stack = X.env :: X.outer) (hf : X.env.frame = some X.env.locals) (hex : X.ex = []) (hN : X.N.Nodup) (tk : Takes X Wout)
    (hb : ∀ (W : WX) (pn : List (Addr × Obj)) (xe : Value → Shared → Prop), Takes (X.tr pn xe) W → PassesOwn (model X.prog X.w) X.A X.env xe → PSs (X.tr pn xe) body (tb W))
    (hh : HdsN X (h₀ :: hds) l) : PS X (.Try body (h₀ :: hds) [] [] pos) (fun D σ H => tb (wN X.K Wout D l) D σ H) := by
  refine ⟨fun pins s σ H D I h => ?_⟩
  have ok := I.ok
  have hfr : X.A.frames = some (X.env :: X.outer) := by rw [ok.frames, hs]
  refine wpAny_Try_except ?_
  refine wpAny_mono ((hb (wN X.K Wout D l) (X.pn ++ pins) (fun e s₁ => wpAny (model X.prog X.w) X.A (noteFrame e X.env) (fun _ s₂ => wpAny (model X.prog X.w) X.A (setFlight e none) (fun _ s₃ =>
    wpAny (model X.prog X.w) X.A (handleBy e X.env (h₀ :: hds)) (SP X pins D) X.xe s₃) X.xe s₂) X.xe s₁) (fun u s' xx => ?_) PassesOwn.looking).run [] s σ H D (I.toTry _) h) (fun f s1 hsp => ?_) (fun e s1 he => he)
  · -- the catch
    obtain ⟨a, B, sI, pins', σ', H', cls, d, rfl, J', nb, up, sky, na, os, ag, w⟩ := xx
    have J : Inv X pins σ' H' sI := J'.ofTry ok
    have sky' : Sky B (X.env :: X.outer) a (Zc cls d) X.env.locals s'.heap := by rw [← hs]; exact sky
    show wpAny (model X.prog X.w) X.A (noteFrame (.ref a) X.env) _ _ _
    refine Sky.land Zc.steady hfr hf sky' fun h3 fl3 up3 => ?_
    have J3 : Inv X pins σ' H' { s' with heap := h3 } := J.landed nb fl3.1 (up.trans up3) os ag
    obtain ⟨oe3, vs3, he3, hz3, hd3⟩ := fl3.there
    have notFr : ∀ {h : Heap} {o : Obj} {vs : Array Value}, h.FunFrames B (X.env :: X.outer) → h.get? a = some o → o.data = .fields vs → a ∉ frs (X.env :: X.outer) := fun {h o vs} ff e dd hm => by
      obtain ⟨_, o', e', hnf⟩ := ff.mem hm
      rw [e] at e'; cases e'
      exact hnf _ dd
    have nfr := notFr fl3.2.2.1 he3 hd3
    have nL : a ≠ X.env.locals := fun z => nfr (List.mem_filterMap.mpr ⟨X.env, List.mem_cons_self, by rw [hf, z]⟩)
    have nF : a ∉ X.fs := fun hm => by
      obtain ⟨e, he, q⟩ := List.mem_filterMap.mp hm
      exact nfr (List.mem_filterMap.mpr ⟨e, List.mem_cons_of_mem _ he, q⟩)
    have nI : sI.heap.get? a = none := by
      cases e : sI.heap.get? a with
      | none => rfl
      | some o =>
        have z := nb a o e (by rw [hs]; exact nfr)
        rw [fl3.2.1] at z
        cases z
    have S3 := J3.suite he3 hd3 na nL nF
    have go : ∀ {hds' : List ExceptHandler} {l' : List (Value × Option Nat × TS)}, HdsN X hds' l' → wN X.K Wout D l' cls d σ' H' →
        wpAny (model X.prog X.w) X.A (handleBy (.ref a) X.env hds') (SP X pins D) X.xe { s' with heap := h3 } := by
      intro hds' l' hk
      induction hk with
      | nil =>
        intro w
        refine wpAny_handleBy_nil ?_
        obtain ⟨k1, k2, k3, oe, vs, T, oT, ts', he, hz, hd, h1, hr⟩ := id fl3
        unfold PySem.passOn
        refine wpAny_bind (wpAny_field he hd h1 ?_)
        rw [if_neg (show ¬ ((Value.ref T == Value.none) = true) from by simp)]
        have fin : wpAny (model X.prog X.w) X.A (setFlight (.ref a) X.env.frame) (fun _ s4 => wpAny (model X.prog X.w) X.A (throw (.ref a) : Sem Flow) (SP X pins D) X.xe s4) X.xe { s' with heap := h3 } := by
          rw [hf]
          refine HandSPX.setFlight_upZ fl3 fun h4 hh4 up4 => wpAny_throw (tk _ _ ?_)
          exact ⟨a, B, sI, pins, σ', H', cls, d, rfl, J, nb, (up.trans up3).trans up4, .inr (.inr (by rw [hs]; exact hh4)), na, os, ag, w⟩
        first
          | exact wpAny_bind (wpAny_pure (wpAny_bind fin))
          | exact wpAny_bind fin
      | @cons x c ts b₀ suite np pos' hds2 l2 hc hsu r ih =>
        intro w
        obtain ⟨b, C, hC, hb1, hyes, hno⟩ := w
        refine wpAny_handleBy_cons (codeAny_handlers_test ?_) (by intro q; cases q)
        have LT : PySem.W.Looks (model X.prog X.w) h3 (typeOf (.ref a)) cls := fun A Q E s k q => wpAny_typeOf_ref (k _ _ he3) (by rw [hz3.1]; exact q)
        have LM := PySem.W.exm_one (M := model X.prog X.w) (J3.kIn) LT hb1
        have test : ∀ {Q : Value → Shared → Prop} {E : Value → Shared → Prop}, Q c { s' with heap := h3 } → wpAny (model X.prog X.w) (X.A.mark (some (.ref a))) (eval (.Name x np) X.env) Q E { s' with heap := h3 } := fun {Q E} q => by
          obtain ⟨hg, hdbg, hm | ⟨hm, hv, hnn⟩⟩ := hc
          · exact ld_glob (X := X.suite a ((a, oe3) :: (X.pn ++ pins))) S3 hg hm q hdbg
          · exact ld_blt (X := X.suite a ((a, oe3) :: (X.pn ++ pins))) S3 hg hm hv q hnn hdbg
        refine test (LM.here ?_)
        cases b with
        | true =>
          refine codeAny_handlers_suite ?_
          refine HandSPX.lands_againZ fl3 fun h4 fl4 up4 => ?_
          have J4 : Inv X pins σ' H' { s' with heap := h4 } := J.landed nb fl4.1 ((up.trans up3).trans up4) os ag
          obtain ⟨oe4, vs4, he4, hz4, hd4⟩ := fl4.there
          have S4 := suiteH J4 J hex he4 (hz4.1.trans hC) hz4.2 hd4 na nL nF nI
          refine wpAny_mono ((hsu a (X.pn ++ pins)).run [] _ _ _ _ S4 (hyes rfl a na)) (fun f s6 hsp => ?_) (fun _ _ z => False.elim z)
          have un : ∀ {σ6 : L2.St} {H6 : Hp}, Inv (X.suite a (X.pn ++ pins)) [] σ6 H6 s6 → Inv X pins σ6 H6 s6 := fun {σ6 H6} S6 =>
            ⟨ok, S6.os, S6.bare, S6.base, S6.loc, S6.cell, S6.free, S6.freeC, fun p hp => S6.pin p (List.mem_append_left _ hp), S6.hok, S6.len⟩
          cases f with
          | next =>
            obtain ⟨σ6, H6, S6, q6⟩ := hsp
            exact ⟨_, _, un S6, q6⟩
          | brk =>
            obtain ⟨σ6, H6, S6, q6⟩ := hsp
            exact ⟨_, _, un S6, q6⟩
          | cont =>
            obtain ⟨σ6, H6, S6, q6⟩ := hsp
            exact ⟨_, _, un S6, q6⟩
          | ret u =>
            obtain ⟨v6, σ6, H6, S6, r6, q6⟩ := hsp
            exact ⟨_, _, _, un S6, r6, q6⟩
        | false =>
          show wpAny _ X.A (handleBy (.ref a) X.env hds2) _ _ _
          exact ih (hno rfl)
      | @consN x n i c ts b₀ suite np pos' hds2 l2 hi hln hc hsu r ih =>
        intro w
        obtain ⟨b, C, hC, hb1, hyes, hno⟩ := w
        refine wpAny_handleBy_cons (codeAny_handlers_test ?_) (by intro q; cases q)
        have LT : PySem.W.Looks (model X.prog X.w) h3 (typeOf (.ref a)) cls := fun A Q E s k q => wpAny_typeOf_ref (k _ _ he3) (by rw [hz3.1]; exact q)
        have LM := PySem.W.exm_one (M := model X.prog X.w) (J3.kIn) LT hb1
        have test : ∀ {Q : Value → Shared → Prop} {E : Value → Shared → Prop}, Q c { s' with heap := h3 } → wpAny (model X.prog X.w) (X.A.mark (some (.ref a))) (eval (.Name x np) X.env) Q E { s' with heap := h3 } := fun {Q E} q => by
          obtain ⟨hg, hdbg, hm | ⟨hm, hv, hnn⟩⟩ := hc
          · exact ld_glob (X := X.suite a ((a, oe3) :: (X.pn ++ pins))) S3 hg hm q hdbg
          · exact ld_blt (X := X.suite a ((a, oe3) :: (X.pn ++ pins))) S3 hg hm hv q hnn hdbg
        refine test (LM.here ?_)
        cases b with
        | true =>
          refine codeAny_handlers_suite_as ?_
          refine HandSPX.lands_againZ fl3 fun h4 fl4 up4 => ?_
          have J4 : Inv X pins σ' H' { s' with heap := h4 } := J.landed nb fl4.1 ((up.trans up3).trans up4) os ag
          obtain ⟨oe4, vs4, he4, hz4, hd4⟩ := fl4.there
          have S4 := suiteH J4 J hex he4 (hz4.1.trans hC) hz4.2 hd4 na nL nF nI
          refine store_ok (X := X.suite a (X.pn ++ pins)) (v := .ref a) S4 hN hi (.inl hln) rfl (fun s5 S5 => ?_) (.inr hln)
          refine wpAny_mono ((hsu a (X.pn ++ pins)).run [] s5 _ _ _ S5 (hyes rfl a na)) (fun f s6 hsp => ?_) (fun _ _ z => False.elim z)
          have un : ∀ {σ6 : L2.St} {H6 : Hp}, Inv (X.suite a (X.pn ++ pins)) [] σ6 H6 s6 → Inv X pins σ6 H6 s6 := fun {σ6 H6} S6 =>
            ⟨ok, S6.os, S6.bare, S6.base, S6.loc, S6.cell, S6.free, S6.freeC, fun p hp => S6.pin p (List.mem_append_left _ hp), S6.hok, S6.len⟩
          have end_ : ∀ {σ6 : L2.St} {H6 : Hp} {Q : Shared → Prop}, Inv (X.suite a (X.pn ++ pins)) [] σ6 H6 s6 → (∀ s7, Inv X pins (σ6.set i none) H6 s7 → Q s7) →
              wpAny (model X.prog X.w) X.A (do bindName X.env n .none; unbindBehindTheSuite X.env n pos') (fun _ s7 => Q s7) X.xe s6 := fun {σ6 H6 Q} S6 hq => gone_ok (un S6) hN hi hln hq
          cases f with
          | next =>
            obtain ⟨σ6, H6, S6, q6⟩ := hsp
            exact end_ S6 fun s7 J7 => ⟨_, _, J7, q6⟩
          | brk =>
            obtain ⟨σ6, H6, S6, q6⟩ := hsp
            exact end_ S6 fun s7 J7 => ⟨_, _, J7, q6⟩
          | cont =>
            obtain ⟨σ6, H6, S6, q6⟩ := hsp
            exact end_ S6 fun s7 J7 => ⟨_, _, J7, q6⟩
          | ret u =>
            obtain ⟨v6, σ6, H6, S6, r6, q6⟩ := hsp
            exact end_ S6 fun s7 J7 => ⟨_, _, _, J7, r6, q6⟩
        | false =>
          show wpAny _ X.A (handleBy (.ref a) X.env hds2) _ _ _
          exact ih (hno rfl)
    exact go hh w
  · cases f with
    | next =>
      obtain ⟨σ', H', J', q⟩ := hsp
      exact wpAny_execs_nil ⟨σ', H', J'.ofTry ok, q⟩
    | brk =>
      obtain ⟨σ', H', J', q⟩ := hsp
      exact ⟨σ', H', J'.ofTry ok, q⟩
    | cont =>
      obtain ⟨σ', H', J', q⟩ := hsp
      exact ⟨σ', H', J'.ofTry ok, q⟩
    | ret u =>
      obtain ⟨v, σ', H', J', r, q⟩ := hsp
      exact ⟨v, σ', H', J'.ofTry ok, r, q⟩
end
end Fk

set_option Elab.async false
set_option linter.all false
set_option maxRecDepth 100000
set_option maxHeartbeats 1000000
namespace Fk
open PySem PySem.Spec PyProof.Rows L2
/-! ### try, read by this layer -/
abbrev XTbl := List (Str × List Str)
def XTbl.at (tbl : XTbl) (c : Str) : Option (List Str) := (tbl.find? fun q => decide (q.1 = c)).map (·.2)
def unE (i : Option Nat) (ρ : Env) : Env := match i with
  | some i => ρ.set i none
  | none => ρ
def inE (i : Option Nat) (d : D) (ρ : Env) : Env := match i with
  | some i => ρ.set i (some d)
  | none => ρ
def hEnd (i : Option Nat) : OutS → OutS
  | .nx ρ S => .nx (unE i ρ) S
  | .rt d S => .rt d S
  | .bk ρ S => .bk (unE i ρ) S
  | .ct ρ S => .ct (unE i ρ) S
  | .exc _ _ _ _ => .stuck
  | .stuck => .stuck
def caught (c : Str) (fs : List (Str × D)) : D := .exn c (fs.map (·.1)) (fs.map (·.2))
def goH (c : Str) (fs : List (Str × D)) (anc : List Str) : List (Str × Option Nat × SemS) → SemS
  | [], ρ, S => .exc c fs ρ S
  | (h, i, g) :: r, ρ, S => if anc.contains h then hEnd i (g (inE i (caught c fs) ρ) S) else goH c fs anc r ρ S
def sTry (tbl : XTbl) (b : SemS) (hds : List (Str × Option Nat × SemS)) : SemS := fun ρ S => match b ρ S with
  | .exc c fs ρ1 S1 => (match tbl.at c with
    | some anc => goH c fs anc hds ρ1 S1
    | none => .stuck)
  | o => o
theorem XTbl.at_mem {tbl : XTbl} {c : Str} {anc : List Str} (h : tbl.at c = some anc) : (c, anc) ∈ tbl := by
  unfold XTbl.at at h
  obtain ⟨q, h1, h2⟩ := Option.map_eq_some_iff.mp h
  have e := List.find?_some h1
  have e : q.1 = c := by simpa using e
  have m := List.mem_of_find?_eq_some h1
  rw [← e, ← h2]
  exact m
theorem REnv.unset {K : PySem.W.Frag} {F : Hp} {ι : List Addr} {σ : L2.St} {ρ : Env} (h : REnv K F ι σ ρ) (i : Nat) : REnv K F ι (σ.set i none) (ρ.set i none) := by
  refine ⟨by simp [h.len], fun j e he => ?_⟩
  by_cases hj : j = i
  · subst hj
    have hl : j < ρ.length := by simpa using (List.getElem?_eq_some_iff.mp he).1
    rw [List.getElem?_set_self hl] at he
    cases he
  · rw [List.getElem?_set_ne (Ne.symm hj)] at he
    rw [List.getElem?_set_ne (Ne.symm hj)]
    exact h.at' j e he
/-- a thing that stands outside is frozen -/
theorem Sim.take {K : PySem.W.Frag} {mg : Str → Option Value} {F H F0 H0 : Hp} {ι ι0 : List Addr} {S : Store} (s : Sim K mg F ι S H) (st : Step F0 ι0 H0 F ι H) {p : Addr} {o : HO} (h0 : H0 p = none) (hF : F p = none) (hi : p ∉ ι) (hH : H p = some o) (ho : ∀ ps, o ≠ .tbl ps := by intro _ z; cases z) :
    Step F0 ι0 H0 (upd F p o) ι H ∧ Sim K mg (upd F p o) ι S H := by
  have x : Ext F ι (upd F p o) ι := ⟨same_upd hF, List.prefix_rfl⟩
  refine ⟨⟨st.toExt.trans x, fun b o' e1 e2 e3 e4 => ?_, st.dom⟩, fun b u e => ?_, s.len, s.nd, fun n a c ha hc => ?_, s.cl, s.tab, nt_upd s.nt ho, s.tt⟩
  · obtain ⟨k1, k2, k3⟩ := st.keep b o' e1 e2 e3 e4
    have ne : b ≠ p := ne_of_none e1 h0
    exact ⟨k1, by rw [upd_ne ne]; exact k2, k3⟩
  · by_cases hb : b = p
    · subst hb
      rw [upd_same] at e
      rw [hH]
      exact e
    · rw [upd_ne hb] at e
      exact s.sub b u e
  · have ne : a ≠ p := fun e => hi (e ▸ List.mem_of_getElem? ha)
    exact (s.cell n a c ha hc).mono x (fun e => by rw [upd_ne ne]; exact e) fun o' e => e
/-- what is caught becomes a value -/
theorem catch_step {K : PySem.W.Frag} {mg : Str → Option Value} {F0 H0 F H : Hp} {ι0 ι : List Addr} {S : Store} {σ : L2.St} {ρ : Env} {a C : Addr} {d : Option Addr} {c : Str} {fs : List (Str × D)} (st : Step F0 ι0 H0 F ι H) (s : Sim K mg F ι S H) (r : REnv K F ι σ ρ) (xd : XD K H0 F ι H d fs) (na : H a = none)
    (hC : PySem.W.nsIn K mainGlobals c = some (some (.ref C))) : ∃ F2, Step F0 ι0 H0 F2 ι (upd H a (xo a C d)) ∧ Sim K mg F2 ι S (upd H a (xo a C d)) ∧ REnv K F2 ι σ ρ ∧ Rel K F2 ι (.ref a) (caught c fs) := by
  rcases xd with ⟨rfl, rfl⟩ | ⟨h1, dx, fv, rfl, h0, hF, hi, hH, rk⟩
  · obtain ⟨x1, s1⟩ := s.frozen (o := xo a C none) na
    exact ⟨_, st.trans x1, s1, r.mono x1, .exn0 upd_same hC⟩
  · obtain ⟨x1, s1⟩ := s.take st h0 hF hi hH
    obtain ⟨x2, s2⟩ := s1.frozen (o := xo a C (some dx)) na
    have ext1 : Ext F ι (upd F dx (.xd fv)) ι := ⟨same_upd hF, List.prefix_rfl⟩
    have ext2 : Ext F ι (upd (upd F dx (.xd fv)) a (xo a C (some dx))) ι := ext1.trans x2.toExt
    have ne : dx ≠ a := ne_of_none hH na
    refine ⟨_, x1.trans x2, s2, ⟨r.len, fun i e he => ?_⟩, .exn (fv := fv) upd_same hC (by rw [upd_ne ne]; exact upd_same) rk.ks (RelAll.mono0 ext2 rk.vs)⟩
    obtain ⟨v, h3, h4⟩ := r.at' i e he
    exact ⟨v, h3, Rel.mono0 ext2 h4⟩
inductive HdsD (X : Cx) (tbl : XTbl) : List ExceptHandler → List (Str × Option Nat × SemS) → List (Value × Option Nat × TS) → Prop
  | nil : HdsD X tbl [] [] []
  | cons {x : Str} {C : Addr} {g : SemS} {b₀ : Stmt} {suite : List Stmt} {np pos' : Pos} {hds : List ExceptHandler} {l : List (Str × Option Nat × SemS)} {l' : List (Value × Option Nat × TS)} (hm : X.mg x = some (.ref C)) (hg : Gl X x) (hd : (x == ("__debug__" : Str)) = false)
      (ht : ∀ q ∈ tbl, ∀ Cq, X.mg q.1 = some (.ref Cq) → PySem.W.exmOne X.K (.ref Cq) (.ref C) = some (q.2.contains x))
      (hsu : ∀ (a : Addr) (pn : List (Addr × Obj)), XSs (X.suite a pn) WF (b₀ :: suite) g) (r : HdsD X tbl hds l l') :
      HdsD X tbl (.ExceptHandler (some (.Name x np)) none (b₀ :: suite) pos' :: hds) ((x, none, g) :: l) ((.ref C, none, tS ⟨X.K, X.mg, WF⟩ g) :: l')
  | consN {x n : Str} {i : Nat} {C : Addr} {g : SemS} {b₀ : Stmt} {suite : List Stmt} {np pos' : Pos} {hds : List ExceptHandler} {l : List (Str × Option Nat × SemS)} {l' : List (Value × Option Nat × TS)} (hi : X.N[i]? = some n) (hln : X.env.kindOf n = some .local) (hm : X.mg x = some (.ref C)) (hg : Gl X x) (hd : (x == ("__debug__" : Str)) = false)
      (ht : ∀ q ∈ tbl, ∀ Cq, X.mg q.1 = some (.ref Cq) → PySem.W.exmOne X.K (.ref Cq) (.ref C) = some (q.2.contains x))
      (hsu : ∀ (a : Addr) (pn : List (Addr × Obj)), XSs (X.suite a pn) WF (b₀ :: suite) g) (r : HdsD X tbl hds l l') :
      HdsD X tbl (.ExceptHandler (some (.Name x np)) (some n) (b₀ :: suite) pos' :: hds) ((x, some i, g) :: l) ((.ref C, some i, tS ⟨X.K, X.mg, WF⟩ g) :: l')
theorem HdsD.toN {X : Cx} {tbl : XTbl} {hds : List ExceptHandler} {l : List (Str × Option Nat × SemS)} {l' : List (Value × Option Nat × TS)} (h : HdsD X tbl hds l l') : HdsN X hds l' := by
  induction h with
  | nil => exact .nil
  | cons hm hg hd ht hsu r ih => exact .cons ⟨hg, hd, .inl hm⟩ hsu ih
  | consN hi hln hm hg hd ht hsu r ih => exact .consN hi hln ⟨hg, hd, .inl hm⟩ hsu ih
section
variable {X : Cx} {W : WX} {tbl : XTbl} {F0 H0 F H : Hp} {ι0 ι : List Addr} {S : Store} {σ : L2.St} {ρ : Env} {Dn : Ends} {C : Addr} {d : Option Addr} {c : Str} {fs : List (Str × D)} {anc : List Str}
theorem hds_wish {hds : List ExceptHandler} {l : List (Str × Option Nat × SemS)} {l' : List (Value × Option Nat × TS)} (h : HdsD X tbl hds l l') (ha : (c, anc) ∈ tbl) (hm : X.mg c = some (.ref C)) (hC : PySem.W.nsIn X.K mainGlobals c = some (some (.ref C)))
    (st : Step F0 ι0 H0 F ι H) (s : Sim X.K X.mg F ι S H) (r : REnv X.K F ι σ ρ) (xd : XD X.K H0 F ι H d fs) (q : PostS ⟨X.K, X.mg, W⟩ F0 ι0 H0 (goH c fs anc l ρ S) Dn) : wN X.K W Dn l' (.ref C) d σ H := by
  induction h with
  | nil => exact q F ι C d σ H st s r hm xd
  | @cons x Ch g b₀ suite np pos' hds l l' hmh hg hd ht hsu rr ih =>
    refine ⟨anc.contains x, C, rfl, ht (c, anc) ha C hm, fun hb a na => ?_, fun hb => ih ?_⟩
    · obtain ⟨F2, st2, s2, r2, rl⟩ := catch_step st s r xd na hC
      refine ⟨F2, ι, ρ, S, s2, r2, ?_⟩
      unfold goH at q
      rw [if_pos hb] at q
      cases e : g ρ S with
      | nx ρ3 S3 => simp only [inE, e, hEnd] at q; exact fun F3 ι3 σ3 H3 x3 => q F3 ι3 σ3 H3 (st2.trans x3)
      | rt d3 S3 => simp only [inE, e, hEnd] at q; exact fun F3 ι3 σ3 H3 x3 => q F3 ι3 σ3 H3 (st2.trans x3)
      | bk ρ3 S3 => simp only [inE, e, hEnd] at q; exact fun F3 ι3 σ3 H3 x3 => q F3 ι3 σ3 H3 (st2.trans x3)
      | ct ρ3 S3 => simp only [inE, e, hEnd] at q; exact fun F3 ι3 σ3 H3 x3 => q F3 ι3 σ3 H3 (st2.trans x3)
      | exc c3 fs3 ρ3 S3 => simp only [inE, e, hEnd] at q; exact q.elim
      | stuck => simp only [inE, e, hEnd] at q; exact q.elim
    · unfold goH at q
      rw [if_neg (by rw [hb]; simp)] at q
      exact q
  | @consN x n i Ch g b₀ suite np pos' hds l l' hi hln hmh hg hd ht hsu rr ih =>
    refine ⟨anc.contains x, C, rfl, ht (c, anc) ha C hm, fun hb a na => ?_, fun hb => ih ?_⟩
    · obtain ⟨F2, st2, s2, r2, rl⟩ := catch_step st s r xd na hC
      refine ⟨F2, ι, ρ.set i (some (caught c fs)), S, s2, r2.set i rl, ?_⟩
      unfold goH at q
      rw [if_pos hb] at q
      cases e : g (ρ.set i (some (caught c fs))) S with
      | nx ρ3 S3 => simp only [inE, e, hEnd] at q; exact fun F3 ι3 σ3 H3 x3 s3 r3 => q F3 ι3 _ H3 (st2.trans x3) s3 (r3.unset i)
      | rt d3 S3 => simp only [inE, e, hEnd] at q; exact fun F3 ι3 σ3 H3 x3 => q F3 ι3 σ3 H3 (st2.trans x3)
      | bk ρ3 S3 => simp only [inE, e, hEnd] at q; exact fun F3 ι3 σ3 H3 x3 s3 r3 => q F3 ι3 _ H3 (st2.trans x3) s3 (r3.unset i)
      | ct ρ3 S3 => simp only [inE, e, hEnd] at q; exact fun F3 ι3 σ3 H3 x3 s3 r3 => q F3 ι3 _ H3 (st2.trans x3) s3 (r3.unset i)
      | exc c3 fs3 ρ3 S3 => simp only [inE, e, hEnd] at q; exact q.elim
      | stuck => simp only [inE, e, hEnd] at q; exact q.elim
    · unfold goH at q
      rw [if_neg (by rw [hb]; simp)] at q
      exact q
def HdsE (X : Cx) (tbl : XTbl) (hds : List ExceptHandler) (l : List (Str × Option Nat × SemS)) : Prop := ∃ l', HdsD X tbl hds l l'
structure HTbl (K : PySem.W.Frag) (mg : Str → Option Value) (tbl : XTbl) (x : Str) : Prop where
  ex : ∃ C, mg x = some (.ref C) ∧ ∀ q ∈ tbl, ∀ Cq, mg q.1 = some (.ref Cq) → PySem.W.exmOne K (.ref Cq) (.ref C) = some (q.2.contains x)
theorem hd_nil : HdsE X tbl [] [] := ⟨_, .nil⟩
theorem hd_cons {x : Str} {g : SemS} {b₀ : Stmt} {suite : List Stmt} {np pos' : Pos} {hds : List ExceptHandler} {l : List (Str × Option Nat × SemS)} (T : HTbl X.K X.mg tbl x) (hg : Gl X x) (hd : (x == ("__debug__" : Str)) = false)
    (hsu : ∀ (a : Addr) (pn : List (Addr × Obj)), XSs (X.suite a pn) WF (b₀ :: suite) g) (r : HdsE X tbl hds l) : HdsE X tbl (.ExceptHandler (some (.Name x np)) none (b₀ :: suite) pos' :: hds) ((x, none, g) :: l) := by
  obtain ⟨C, hm, ht⟩ := T.ex
  obtain ⟨l', r⟩ := r
  exact ⟨_, .cons hm hg hd ht hsu r⟩
theorem hd_consN {x n : Str} {i : Nat} {g : SemS} {b₀ : Stmt} {suite : List Stmt} {np pos' : Pos} {hds : List ExceptHandler} {l : List (Str × Option Nat × SemS)} (hi : X.N[i]? = some n) (hln : X.env.kindOf n = some .local) (T : HTbl X.K X.mg tbl x) (hg : Gl X x) (hd : (x == ("__debug__" : Str)) = false)
    (hsu : ∀ (a : Addr) (pn : List (Addr × Obj)), XSs (X.suite a pn) WF (b₀ :: suite) g) (r : HdsE X tbl hds l) : HdsE X tbl (.ExceptHandler (some (.Name x np)) (some n) (b₀ :: suite) pos' :: hds) ((x, some i, g) :: l) := by
  obtain ⟨C, hm, ht⟩ := T.ex
  obtain ⟨l', r⟩ := r
  exact ⟨_, .consN hi hln hm hg hd ht hsu r⟩
structure TblOk (K : PySem.W.Frag) (mg : Str → Option Value) (tbl : XTbl) : Prop where
  ok : ∀ q ∈ tbl, ∀ C, mg q.1 = some (.ref C) → PySem.W.nsIn K mainGlobals q.1 = some (some (.ref C))
theorem xs_try {body : List Stmt} {h₀ : ExceptHandler} {hds : List ExceptHandler} {l : List (Str × Option Nat × SemS)} {pos : Pos} {k : Nat} {gb : SemS} (cx : CxE X W k) (hs : X.stack = X.env :: X.outer) (hf : X.env.frame = some X.env.locals) (hex : X.ex = []) (T : TblOk X.K X.mg tbl)
    (hb : ∀ (W' : WX) (pn : List (Addr × Obj)) (xe : Value → Shared → Prop), CxE (X.tr pn xe) W' k → PassesOwn (model X.prog X.w) X.A X.env xe → XSs (X.tr pn xe) W' body gb)
    (hh : HdsE X tbl (h₀ :: hds) l) : XS X W (.Try body (h₀ :: hds) [] [] pos) (sTry tbl gb l) := by
  obtain ⟨l', hh⟩ := hh
  refine psI (ps_tryN (tb := fun W' => tS ⟨X.K, X.mg, W'⟩ gb) hs hf hex cx.nd cx.tk (fun W' pn xe tk own => hb W' pn xe ⟨cx.nd, cx.calm, cx.g, cx.room, tk, cx.sm⟩ own) hh.toN) fun Dn σ H hq => ?_
  obtain ⟨F, ι, ρ, S, s, r, q⟩ := hq
  refine ⟨F, ι, ρ, S, s, r, ?_⟩
  unfold sTry at q
  cases e : gb ρ S with
  | nx ρ3 S3 => rw [e] at q; exact q
  | rt d3 S3 => rw [e] at q; exact q
  | bk ρ3 S3 => rw [e] at q; exact q
  | ct ρ3 S3 => rw [e] at q; exact q
  | stuck => rw [e] at q; exact q
  | exc c fs ρ1 S1 =>
    rw [e] at q
    simp only at q
    intro F1 ι1 C d σ1 H1 x1 s1 r1 hm xd
    cases ht : tbl.at c with
    | none => rw [ht] at q; exact q.elim
    | some anc =>
      rw [ht] at q
      have hmem := XTbl.at_mem ht
      have hm : X.mg c = some (.ref C) := hm
      have h1 := T.ok _ hmem C hm
      exact hds_wish hh hmem hm h1 x1 s1 r1 xd q
end
/-! ### raise -/
def sRaise (c : Str) (fl : List Str) (fa : SemA) : SemS := fun ρ S => toS (fa ρ S) ρ fun ds S1 => if ds.length = fl.length then .exc c (fl.zip ds) ρ S1 else .stuck
/-- __init__(self, f): self.f = f -/
def spI (K : PySem.W.Frag) (f : Str) : Sp := fun vs H Q _ => ∃ (a C : Addr) (v : V), vs = [.ref a, v] ∧ OexC K C ∧ PySem.W.findIn K (.ref C) f = some none ∧ H a = some (exo a C none) ∧ ∀ d, H d = none → d ≠ a → Q .non (upd (upd H d (exd d [(f, v)])) a (exo a C (some d)))
/-- an own exception class with one field -/
structure Exc1 (P : Program) (w : World) (K : PySem.W.Frag) (mg : Str → Option Value) (base : Heap) (x f : Str) : Prop where
  ex : ∃ (C fI : Addr) (fd : FuncData), mg x = some (.ref C) ∧ OexC K C ∧ PySem.W.findIn K (.ref C) f = some none ∧ PySem.W.findIn K (.ref C) "__init__" = some (some (.ref fI)) ∧ PySem.W.typeIn K (.ref fI) = some (.type "function") ∧
    FnOk P w K mg base (L2.CX P w) 1 fI fd ["self", f] (spI K f) ∧ Binds K fd ["self", f] []
section
variable {P : Program} {w : World} {K : PySem.W.Frag} {mg : Str → Option Value} {base : Heap} {qual f : Str} {params : Arguments} {scope : Scope} {fI : Addr} {fd : FuncData} {q1 q2 q3 q4 : Pos}
theorem init1 (F : FunD K "__init__" qual params [.Assign [.Attribute (.Name "self" q1) f q2] (.Name f q3) q4] scope [] [] fI fd) (S : FnScope ["self", f] ["self", f] scope) (hvs : scope.names.lookup ("self" : Str) = some .local) (hvf : scope.names.lookup f = some .local) (hd : (f == ("__debug__" : Str)) = false) (hcd : (f == ("__classdict__" : Str)) = false) : FnOk P w K mg base (L2.CX P w) 1 fI fd ["self", f] (spI K f) := by
  obtain ⟨oc, od, dV, kV, doc, pm, an, cdv, ct, osl, rfl, lk, hcdv, _, _⟩ := F.ex
  refine fn_of lk hcdv S (fun vs H Q E ⟨a, C, v, e, _⟩ => by rw [e]; rfl) fun A outer s H vs Q E hr hsp => ?_
  obtain ⟨a, C, v, rfl, T, hno, ha, q⟩ := hsp
  refine ⟨_, pss_one (ps_ost (pv 0 (hv := .inl hvs)) (pv 1 (hv := .inl hvf) (hd := hd) (hcd := hcd))), ?_⟩
  refine ⟨v, rfl, .ref a, rfl, a, C, rfl, T, hno, .inl ⟨ha, fun dx h1 h2 => q dx h1 h2⟩⟩
end
section
variable {X : Cx} {W : WX} {k : Nat} {x f : Str} {p pos pos' : Pos} {e : Expr} {fe : SemE}
theorem xs_raise1 (c : CxE X W k) (hk : 2 ≤ k) (E1 : Exc1 X.prog X.w X.K X.mg X.base x f) (hg : Gl X x) (ha : XE X W e fe) (hdb : (x == ("__debug__" : Str)) = false := by decide)
    (he : starEach [e] X.env = (false, eval e X.env) :: starEach [] X.env := by rfl) (hpl : (backTo pos (starEach [] X.env)).any (·.1) = false := by rfl) :
    XS X W (.Raise (some (.Call (.Name x p) [e] [] pos)) none pos') (sRaise x [f] (aCons fe aNil)) := by
  obtain ⟨C, fI, fd, hm, T, hno, iC, tI, F1, hb⟩ := E1.ex
  refine psI (ps_raise c.calm c.tk (pmk_oex (dvs := []) (ds := []) T iC tI F1 (c.room.mono hk) hb .nil (passes_call c.tk fun _ _ _ _ z => z.elim) hg hm (xa_cons ha xa_nil he) hdb he hpl)) fun Dn σ H hh => ?_
  obtain ⟨F, ι, ρ, S, s, r, q⟩ := hh
  refine ⟨F, ι, ρ, S, s, r, post_toS r q fun ds S1 F1 ι1 vs H1 x1 s1 rv q1 => ?_⟩
  have rv : RelAll X.K F1 ι1 vs ds := rv
  split at q1
  · next hl =>
    have hl : ds.length = 1 := hl
    match ds, rv, hl with
    | [d], .cons (v := v) rd .nil, _ =>
      refine ⟨by simp, fun a na => ⟨a, C, v, rfl, T, hno, upd_same, fun dx h1 h2 => ?_⟩⟩
      rw [upd_ne h2] at h1
      refine ⟨rfl, dx, [(f, v)], upd_same, by rw [upd_ne h2, upd_same], h1, ?_⟩
      have eH : upd (del (upd (upd (upd H1 a (exo a C none)) dx (exd dx [(f, v)])) a (exo a C (some dx))) a) dx (.xd [(f, v)]) = upd H1 dx (.xd [(f, v)]) := by
        funext b
        by_cases hb1 : b = dx
        · subst hb1; rw [upd_same, upd_same]
        · rw [upd_ne hb1, upd_ne hb1]
          by_cases hb2 : b = a
          · subst hb2; rw [del_same, na]
          · rw [del_ne hb2, upd_ne hb2, upd_ne hb1, upd_ne hb2]
      rw [eH]
      obtain ⟨x2, s2⟩ := s1.loose (o := .xd [(f, v)]) h1
      obtain ⟨hF, hi⟩ := s1.fresh h1
      exact q1 F1 ι1 C (some dx) σ _ x2 s2 ((r.mono x1).mono x2) hm (.inr ⟨by simp, dx, [(f, v)], rfl, h1, hF, hi, upd_same, ⟨rfl, .cons rd .nil⟩⟩)
  · exact q1.elim
/-- an own exception class without fields -/
structure Exc0 (K : PySem.W.Frag) (mg : Str → Option Value) (x : Str) : Prop where
  ex : ∃ C : Addr, mg x = some (.ref C) ∧ PySem.W.excIn K C He.veBase "ValueError.__new__" = true ∧ PySem.W.keepIn K (.ref C) = true ∧ PySem.W.subIn K (.ref C) (.type "BaseException") = some true ∧ PySem.W.typeIn K (.ref C) = some (.type "type")
theorem xs_raise0 (c : CxE X W k) (E0 : Exc0 X.K X.mg x) (hg : Gl X x) (hdb : (x == ("__debug__" : Str)) = false := by decide) :
    XS X W (.Raise (some (.Call (.Name x p) [] [] pos)) none pos') (sRaise x [] aNil) := by
  obtain ⟨C, hm, hE, hk, h1, h2⟩ := E0.ex
  have mk : PMk X (.Call (.Name x p) [] [] pos) (fun _ H Q => Q (.ref C) none H) := by
    intro pins s σ H Q I h
    refine wpAny_Call_Name_kw (ld_glob I hg hm ?_ hdb)
    refine PySem.W.callWith_K0 I.kIn hk ?_
    show wpAny _ _ (call (.ref C) []) _ _ _
    obtain ⟨bm, N, nm, qn, bs, hdct, sn, sub, ab, col, dd, k0, k1, k2, k3, k5, mN, hC, hN, hni, T⟩ := exc_obj I.kIn hE
    refine wpAny_call_exc_subT F.excBase_ValueError T hC hN hni (fun h' e hm => ?_) (Nat.zero_le _)
    exact mk_of I hm (raises_own h1 h2) h (I.hok.gone hm.new)
  refine psI (ps_raise c.calm c.tk mk) fun Dn σ H hh => ?_
  obtain ⟨F, ι, ρ, S, s, r, q⟩ := hh
  have q : PostS ⟨X.K, X.mg, W⟩ F ι H (.exc x [] ρ S) Dn := q
  exact q F ι C none σ H (Step.refl _ _ _) s r hm (.inl ⟨rfl, rfl⟩)
end
/-! ### the caught one is asked -/
def lookF (ns : List Str) (ds : List D) (f : Str) : Option D := ((ns.zip ds).find? fun q => decide (q.1 = f)).map (·.2)
def opXf (cs : List Str) (f : Str) : D → Store → Option D := fun d _ => match d with
  | .exn c ns ds => if cs.contains c then lookF ns ds f else none
  | _ => none
section
variable {X : Cx} {W : WX} {e : Expr} {fe : SemE} {pos : Pos} {f : Str} {cs : List Str}
theorem lookF_rel {K : PySem.W.Frag} {F : Hp} {ι : List Addr} {f : Str} {d : D} : ∀ {fv : List (Str × V)} {ds : List D}, RelAll K F ι (fv.map (·.2)) ds → lookF (fv.map (·.1)) ds f = some d → ∃ v, fv.lookup f = some v ∧ Rel K F ι v d
  | [], _, _, h => by simp [lookF] at h
  | (g, v) :: fv, _, .cons (d := d') r rr, h => by
    unfold lookF at h
    simp only [List.map_cons, List.zip_cons_cons, List.find?_cons] at h
    by_cases e : g = f
    · subst e
      simp at h
      subst h
      exact ⟨v, by simp [List.lookup], r⟩
    · simp only [e, decide_false] at h
      obtain ⟨w, h1, h2⟩ := lookF_rel rr h
      have e2 : (f == g) = false := by simpa using Ne.symm e
      exact ⟨w, by simp [List.lookup, e2, h1], h2⟩
structure XfTbl (K : PySem.W.Frag) (cs : List Str) (f : Str) : Prop where
  ok : ∀ c ∈ cs, ∀ C, PySem.W.nsIn K mainGlobals c = some (some (.ref C)) → XfC K C ∧ PySem.W.findIn K (.ref C) f = some none
theorem xe_xattr (hX : XfTbl X.K cs f) (he : XE X W e fe) (hb : attributeBase e f X.env (eval e X.env) = eval e X.env := by rfl) :
    XE X W (.Attribute e f pos) (eUn (opXf cs f) fe) := by
  refine ⟨fun pins s σ H Q I h => ?_⟩
  obtain ⟨F, ι, ρ, S, sm, r, q⟩ := h
  have key : tE ⟨X.K, X.mg, W⟩ fe σ H fun v H1 => ∃ (a C dx : Addr) (fv : List (Str × V)) (w : V), v = .ref a ∧ H1 a = some (xo a C (some dx)) ∧ H1 dx = some (.xd fv) ∧ fv.lookup f = some w ∧ XfC X.K C ∧ PySem.W.findIn X.K (.ref C) f = some none ∧ Q w H1 := by
    refine ⟨F, ι, ρ, S, sm, r, post_bind (R := RV' X.K) q fun x S1 F1 ι1 v H1 x1 s1 rv q1 => ?_⟩
    obtain ⟨z, hz, q3⟩ := post_lift q1
    have rv : Rel X.K F1 ι1 v x := rv
    cases x with
    | exn c ns ds =>
      have hz : (if cs.contains c then lookF ns ds f else none) = some z := hz
      split at hz
      · next hc =>
        have hc : c ∈ cs := by simpa using hc
        cases rv with
        | exn0 h1 h2 => simp [lookF] at hz
        | @exn a C dx _ fv _ _ h1 h2 h3 h4 h5 =>
          subst h4
          obtain ⟨w, g1, g2⟩ := lookF_rel h5 hz
          obtain ⟨k1, k2⟩ := hX.ok c hc C h2
          exact ⟨a, C, dx, fv, w, rfl, s1.sub _ _ h1, s1.sub _ _ h3, g1, k1, k2, q3 F1 ι1 w H1 (Step.refl _ _ _) s1 g2⟩
      · cases hz
    | _ => cases hz
  refine attr_of hb (thn (he.run pins s σ H _ I key) fun u s1 hh => ?_)
  obtain ⟨x, H1, I1, rx, a, C, dx, fv, v, ex, ea, ed, l, T, hno, q⟩ := hh
  subst ex
  obtain rfl : u = Value.ref a := rx
  obtain ⟨oe, ho1, hz1, hz2, vs, hd⟩ := xo_at I1.hok ea
  have hx : ObjOk X.prog X.w H1 s1.heap dx (.xd fv) := I1.hok dx _ ed
  obtain ⟨mA, hns, hr⟩ := hx
  obtain ⟨od, ho, hl⟩ := lookIn_ns hns
  obtain ⟨u, hu, ru⟩ := RelO.some_of (v := v) (o := mA f) (by rw [← l]; exact hr f)
  have J : PySem.W.InstAt s1.heap a oe C (some od) := ⟨ho1, hz1, by unfold PySem.W.notCls; rw [hd] <;> rfl, by rw [hz2]; exact ho⟩
  exact HandSPX.exc_get I1.kIn J T.ga T.gg T.exC (PySem.W.findObj_own T.hdC hno rfl (by rw [hl, hu])) (handed_of ru) ⟨v, H1, I1.tok _, ru, q⟩
/-- isinstance of a caught one -/
def rIsX (K : PySem.W.Frag) : List V → Hp → VK → Prop := fun xs H Q => ∃ (a C : Addr) (d : Option Addr) (c : V) (cv : Value) (b : Bool), xs = [.ref a, c] ∧ (∀ u, RelV c u → u = cv) ∧ H a = some (xo a C d) ∧ (d = none ∨ ∃ dx fv, d = some dx ∧ H dx = some (.xd fv)) ∧ ExcC K C ∧ PySem.W.kitOne K (.ref C) cv = some b ∧ Q (.bl b) H
theorem call_isX : CallR X (.builtin "isinstance") (rIsX X.K) := by
  intro pins s σ H xs us Q I r h
  obtain ⟨a, C, d, c, cv, b, rfl, hcv, ha, hd, T, e, q⟩ := h
  cases r with
  | cons rx rr =>
    cases rr with
    | cons rt rr =>
      cases rr
      cases rx
      have ec := hcv _ rt
      subst ec
      obtain ⟨oe, ho1, hz1, hz2, vs, hv⟩ := xo_at I.hok ha
      have hcl : (PySem.W.clsIn X.K C).isSome = true := by
        obtain ⟨cd, hc, _⟩ := PySem.W.any_some T.hd
        rw [hc]; rfl
      have J : ∃ od, PySem.W.InstAt s.heap a oe C od := by
        rcases hd with rfl | ⟨dx, fv, rfl, hx⟩
        · exact ⟨none, ho1, hz1, by unfold PySem.W.notCls; rw [hv] <;> rfl, by rw [hz2]; trivial⟩
        · have hx : ObjOk X.prog X.w H s.heap dx (.xd fv) := I.hok dx _ hx
          obtain ⟨mA, hns, hr⟩ := hx
          obtain ⟨od, ho, hl⟩ := lookIn_ns hns
          exact ⟨some od, ho1, hz1, by unfold PySem.W.notCls; rw [hv] <;> rfl, by rw [hz2]; exact ho⟩
      obtain ⟨od, J⟩ := J
      exact PySem.W.kia_one (PySem.W.kitx_exc hcl T.hg T.hk T.hs T.ha T.hn T.ht T.hm) I.kIn J e (fun z => nomatch z) fun tk => ⟨.bl b, H, I.kept (t' := tk) fun _ _ z => z, rfl, q⟩
def opIsX (tbl : XTbl) (T : Str) : D → Store → Option D := fun d _ => match d with
  | .exn c _ _ => (tbl.at c).map fun anc => .bl (anc.contains T)
  | _ => none
structure IsTbl (K : PySem.W.Frag) (mg : Str → Option Value) (tbl : XTbl) (y : Str) : Prop where
  ex : ∃ CT, mg y = some (.ref CT) ∧ ∀ q ∈ tbl, ∀ C, PySem.W.nsIn K mainGlobals q.1 = some (some (.ref C)) → ExcC K C ∧ PySem.W.kitOne K (.ref C) (.ref CT) = some (q.2.contains y)
theorem xe_isX {a : Expr} {fe : SemE} {tbl : XTbl} {y : Str} {p1 p2 pos : Pos} (T : IsTbl X.K X.mg tbl y) (ha : XE X W a fe) (hg : Gl X "isinstance") (hm : X.mg "isinstance" = none) (hg2 : Gl X y)
    (hd2 : (y == ("__debug__" : Str)) = false := by decide) (hs : starEach [a, .Name y p2] X.env = (false, eval a X.env) :: starEach [.Name y p2] X.env := by rfl) (hs2 : starEach [.Name y p2] X.env = (false, eval (.Name y p2) X.env) :: starEach [] X.env := by rfl) (hpl : (backTo pos (starEach [.Name y p2] X.env)).any (·.1) = false := by rfl) :
    XE X W (.Call (.Name "isinstance" p1) [a, .Name y p2] [] pos) (eUn (opIsX tbl y) fe) := by
  obtain ⟨CT, hm2, hT⟩ := T.ex
  refine peI (pe_callB call_isX hg hm (by decide +kernel) (pa_cons ha (pa_cons (pe_glob (v := .ref CT) hg2 hm2 rfl hd2) pa_nil hs2) hs) (by decide) (by decide) hs hpl) fun σ H Q h => ?_
  obtain ⟨F, ι, ρ, S, s, r, q⟩ := h
  refine ⟨F, ι, ρ, S, s, r, post_bind (R := RV' X.K) q fun x S1 F1 ι1 v H1 x1 s1 rv q1 => ?_⟩
  obtain ⟨z, hz, q3⟩ := post_lift q1
  have rv : Rel X.K F1 ι1 v x := rv
  cases x with
  | exn c ns ds =>
    have hz : ((tbl.at c).map fun anc => D.bl (anc.contains y)) = some z := hz
    obtain ⟨anc, h1, rfl⟩ := Option.map_eq_some_iff.mp hz
    have hmem := XTbl.at_mem h1
    have hq := q3 F1 ι1 _ H1 (Step.refl _ _ _) s1 (.bl (anc.contains y))
    cases rv with
    | @exn0 a C _ g1 g2 =>
      obtain ⟨k1, k2⟩ := hT _ hmem C g2
      exact ⟨a, C, none, .ref CT, .ref CT, _, rfl, fun u hu => hu, s1.sub _ _ g1, .inl rfl, k1, k2, hq⟩
    | @exn a C dx _ fv _ _ g1 g2 g3 g4 g5 =>
      obtain ⟨k1, k2⟩ := hT _ hmem C g2
      exact ⟨a, C, some dx, .ref CT, .ref CT, _, rfl, fun u hu => hu, s1.sub _ _ g1, .inr ⟨dx, fv, rfl, s1.sub _ _ g3⟩, k1, k2, hq⟩
  | _ => cases hz
end
end Fk

set_option Elab.async false
set_option linter.all false
set_option maxRecDepth 100000
set_option maxHeartbeats 1000000
namespace Fk
open PySem PySem.Spec PyProof.Rows L2
/-! ### what the head must tell of own exception classes -/
def oexCls (K : PySem.W.Frag) (C : Addr) : Bool := match K.lookup C with
  | some ⟨.type "type", _, .cls cd, sl⟩ => (match cd.mro, sl.toList with
    | .ref C' :: bm, [_, _, _, _, some (.builtin n), _] => C' == C && n == "ValueError.__new__" && !cd.hasDel && (cd.hasDict && PySem.HandSPX.refsVE bm)
    | _, _ => false)
  | _ => false
theorem oexCls_ok {K : PySem.W.Frag} {C : Addr} (q : oexCls K C = true) : ∃ nm q N bs bm sn sub ab col dd k0 k1 k2 k3 k5, K.lookup C = some (excClassObj nm q C N bs bm true sn sub ab col dd k0 k1 k2 k3 k5 "ValueError.__new__") ∧ PySem.HandSPX.refsVE bm = true := by
  unfold oexCls at q
  split at q
  · rename_i dd cd sl ho
    split at q
    · rename_i C' bm k0 k1 k2 k3 n k5 hm hs
      simp only [Bool.and_eq_true, beq_iff_eq, Bool.not_eq_true'] at q
      obtain ⟨⟨⟨rfl, rfl⟩, hdel⟩, hh, ht⟩ := q
      obtain ⟨nm, bs, mro, ns, qn, hd, sn, sub, ab, col, del⟩ := cd
      dsimp only at hm hdel hh
      subst hm hdel hh
      have hsl : sl = #[k0, k1, k2, k3, some (.builtin "ValueError.__new__"), k5] := by
        obtain ⟨l⟩ := sl
        simp only at hs
        rw [hs]
      subst hsl
      exact ⟨nm, qn, ns, bs, bm, sn, sub, ab, col, dd, k0, k1, k2, k3, k5, ho, ht⟩
    · cases q
  · cases q
def eqV (a b : Option Value) : Bool := decide (a = b)
inductive Xc where
  | oex (c f : Str)
  | xf (c f : Str)
  | isx (c : Str)
  | kit (c t : Str) (b : Bool)
  | exm (c t : Str) (b : Bool)
  | lam (x : Str)
def Xc.ok (K : PySem.W.Frag) : Xc → Bool
  | .oex c f => oexCls K (He.ga K c) && (He.eqO (PySem.W.findIn K (.ref (He.ga K c)) "__setattr__") (some (some (.builtin "object.__setattr__"))) && (decide (PySem.W.subIn K (.ref (He.ga K c)) (.type "BaseException") = some true) && (eqV (PySem.W.typeIn K (.ref (He.ga K c))) (some (.type "type")) &&
      (PySem.W.keepIn K (.ref (He.ga K c)) && (He.eqO (PySem.W.findIn K (.ref (He.ga K c)) f) (some none) && (He.eqO (PySem.W.findIn K (.ref (He.ga K c)) "__init__") (some (some (.ref (He.ma K (He.ga K c) "__init__")))) && eqV (PySem.W.typeIn K (.ref (He.ma K (He.ga K c) "__init__"))) (some (.type "function"))))))))
  | .xf c f => xfB K (He.ga K c) && He.eqO (PySem.W.findIn K (.ref (He.ga K c)) f) (some none)
  | .isx c => He.eqO (PySem.W.findIn K (.ref (He.ga K c)) "__getattribute__") (some (some (.builtin "BaseException.__getattribute__"))) && (He.eqO (PySem.W.findIn K (.ref (He.ga K c)) "__getattr__") (some none) && (decide (PySem.W.subIn K (.ref (He.ga K c)) (.type "BaseException") = some true) &&
      (PySem.W.hasDictIn K (He.ga K c) && (He.eqO (PySem.W.findIn K (.ref (He.ga K c)) "__class__") (some (some (.builtin "object.__class__"))) && (He.eqO (PySem.W.specialIn K (.builtin "object.__class__") "__get__") (some (some (.builtin "getset_descriptor.__get__"))) &&
      (decide (PySem.W.takesIn K (.builtin "object.__class__") = some true) && decide (PySem.W.mroIn K (He.ga K c) (.type "object") = some true)))))))
  | .kit c t b => decide (PySem.W.kitOne K (.ref (He.ga K c)) (.ref (He.ga K t)) = some b)
  | .exm c t b => decide (PySem.W.exmOne K (.ref (He.ga K c)) (.ref (He.ga K t)) = some b)
  | .lam x => lamB K x
def xcs (l : List Xc) (K : PySem.W.Frag) : Bool := l.all fun x => x.ok K
/-- .. and which defs may make lambdas -/
def xct (tn : List Str) (l : List Xc) (K : PySem.W.Frag) : Bool := tbB tn K && xcs l K
section
variable {K : PySem.W.Frag} {mg : Str → Option Value} {P : Program} {w : World} {base : Heap} {c f t : Str} {l : List Xc}
theorem xcs_at (h : xcs l K = true) (i : Nat) {x : Xc} (e : l[i]? = some x) : x.ok K = true := List.all_eq_true.mp h x (List.mem_of_getElem? e)
theorem oex_ok (h : (Xc.oex c f).ok K = true) : OexC K (He.ga K c) ∧ PySem.W.findIn K (.ref (He.ga K c)) f = some none ∧ PySem.W.findIn K (.ref (He.ga K c)) "__init__" = some (some (.ref (He.ma K (He.ga K c) "__init__"))) ∧ PySem.W.typeIn K (.ref (He.ma K (He.ga K c) "__init__")) = some (.type "function") := by
  obtain ⟨h1, h⟩ := He.ba h
  obtain ⟨h2, h⟩ := He.ba h
  obtain ⟨h3, h⟩ := He.ba h
  obtain ⟨h4, h⟩ := He.ba h
  obtain ⟨h5, h⟩ := He.ba h
  obtain ⟨h6, h⟩ := He.ba h
  obtain ⟨h7, h8⟩ := He.ba h
  exact ⟨⟨oexCls_ok h1, He.eqO_ok h2, of_decide_eq_true h3, of_decide_eq_true h4, h5⟩, He.eqO_ok h6, He.eqO_ok h7, of_decide_eq_true h8⟩
theorem isx_ok (h : (Xc.isx c).ok K = true) : ExcC K (He.ga K c) := by
  obtain ⟨h1, h⟩ := He.ba h
  obtain ⟨h2, h⟩ := He.ba h
  obtain ⟨h3, h⟩ := He.ba h
  obtain ⟨h4, h⟩ := He.ba h
  obtain ⟨h5, h⟩ := He.ba h
  obtain ⟨h6, h⟩ := He.ba h
  obtain ⟨h7, h8⟩ := He.ba h
  exact ⟨He.eqO_ok h1, He.eqO_ok h2, of_decide_eq_true h3, h4, He.eqO_ok h5, He.eqO_ok h6, of_decide_eq_true h7, of_decide_eq_true h8⟩
theorem xf_ok (h : (Xc.xf c f).ok K = true) : XfC K (He.ga K c) ∧ PySem.W.findIn K (.ref (He.ga K c)) f = some none := by
  obtain ⟨h1, h2⟩ := He.ba h
  exact ⟨xfB_ok h1, He.eqO_ok h2⟩
/-- told of a table, entry by entry -/
def AllT {α : Type} (P : α → Prop) : List α → Prop
  | [] => True
  | q :: r => P q ∧ AllT P r
theorem AllT.all {α : Type} {P : α → Prop} : ∀ {l : List α}, AllT P l → ∀ q ∈ l, P q
  | [], _, q, h => nomatch h
  | x :: r, ⟨a, b⟩, q, h => by
    rcases List.mem_cons.mp h with rfl | h
    · exact a
    · exact AllT.all b q h
theorem ga_ns (h : (He.Fa.glo c).ok K = true) : PySem.W.nsIn K mainGlobals c = some (some (.ref (He.ga K c))) := He.eqO_ok h
theorem fr_ns (h : (He.Fa.free c).ok K = true) : PySem.W.nsIn K mainGlobals c = some none := He.eqO_ok h
/-- one that is not there -/
theorem gone_m {Q : Addr → Prop} (h : mg c = none) : ∀ C, mg c = some (.ref C) → Q C := fun C e => by rw [h] at e; cases e
theorem gone_n {Q : Addr → Prop} (h : PySem.W.nsIn K mainGlobals c = some none) : ∀ C, PySem.W.nsIn K mainGlobals c = some (some (.ref C)) → Q C := fun C e => by rw [h] at e; cases e
theorem here_m {Q : Addr → Prop} (h : mg c = some (.ref (He.ga K c))) (q : Q (He.ga K c)) : ∀ C, mg c = some (.ref C) → Q C := fun C e => by rw [h] at e; cases e; exact q
theorem here_n {Q : Addr → Prop} (h : PySem.W.nsIn K mainGlobals c = some (some (.ref (He.ga K c)))) (q : Q (He.ga K c)) : ∀ C, PySem.W.nsIn K mainGlobals c = some (some (.ref C)) → Q C := fun C e => by rw [h] at e; cases e; exact q
theorem exc1_of {fI : Addr} {fd : FuncData} (hm : mg c = some (.ref (He.ga K c))) (h : (Xc.oex c f).ok K = true) (e : fI = He.ma K (He.ga K c) "__init__") (F : FnOk P w K mg base (L2.CX P w) 1 fI fd ["self", f] (spI K f)) (hb : Binds K fd ["self", f] []) : Exc1 P w K mg base c f := by
  subst e
  obtain ⟨h1, h2, h3, h4⟩ := oex_ok h
  exact ⟨_, _, fd, hm, h1, h2, h3, h4, F, hb⟩
theorem exc0_of (hm : mg c = some (.ref (He.ga K c))) (h : (He.Fa.exc c).ok K = true) : Exc0 K mg c := by
  obtain ⟨h1, h2, h3, h4⟩ := He.exc_ok h
  exact ⟨_, hm, h1, h2, h3, h4⟩
end
/-! ### the errors of the package -/
def frTbl : XTbl := [("FrankError", ["FrankError"]), ("BadAnswers", ["BadAnswers", "FrankError"]), ("BadBatch", ["BadBatch", "FrankError"]), ("BadBelief", ["BadBelief", "FrankError"]), ("BadMark", ["BadMark", "FrankError"]), ("BadMenu", ["BadMenu", "FrankError"]), ("BadNumber", ["BadNumber", "FrankError"]), ("BadRow", ["BadRow", "FrankError"]), ("BadText", ["BadText", "FrankError"]), ("Busy", ["Busy", "FrankError"]), ("LastWord", ["LastWord", "FrankError"]), ("NoAnswer", ["NoAnswer", "FrankError"]), ("NoCell", ["NoCell", "FrankError"]), ("NotFrank", ["NotFrank", "FrankError"]), ("NothingToUndo", ["NothingToUndo", "FrankError"]), ("NoVersion", ["NoVersion", "FrankError"]), ("NoWord", ["NoWord", "FrankError"]), ("Rejected", ["Rejected", "FrankError"]), ("TooFew", ["TooFew", "FrankError"]), ("TooGreat", ["TooGreat", "FrankError"]), ("TooMany", ["TooMany", "FrankError"]), ("TooManyEdits", ["TooManyEdits", "FrankError"]), ("Unlike", ["Unlike", "FrankError"])]
def csGiven : List Str := ["BadAnswers", "BadBelief", "BadMark", "BadNumber", "BadRow", "BadText", "NoAnswer", "NoVersion", "NoWord"]
def csWord : List Str := ["NoCell", "NotFrank"]
def csLimit : List Str := ["TooMany"]
def csError : List Str := ["BadMenu"]
def csIndex : List Str := ["Rejected"]
def csWeights : List Str := ["NotFrank"]
def inC (s : Stmt) (j : Nat) : Stmt := match s with
  | .ClassDef _ _ _ b _ _ _ _ _ _ _ => b.getD j (.Pass ⟨0, 0, 0, 0⟩)
  | s => s
end Fk

set_option Elab.async false
set_option linter.all false
set_option maxRecDepth 100000
set_option maxHeartbeats 1000000
namespace Fk
open PySem PySem.Spec PyProof.Rows L2
/-! ### sum of a tuple -/
def sumDA : List D → Store → Option D
  | [d], S => match dr S d with
    | .lst xs => (asInts xs).map fun ns => .int ns.sum
    | .tup xs => (asInts xs).map fun ns => .int ns.sum
    | _ => none
  | _, _ => none
section
variable {X : Cx}
theorem sum_rawT {prog : Program} {w : World} {A : Around} {E : Value → Shared → Prop} {s : Shared} {t : Addr} {its : List Value} {ns : List Int} {Q : Value → Shared → Prop} (hh : A.handled = none) (hl : s.heap.IsTuple t its.toArray) (hi : IntsAre its ns)
    (h : ∀ h' tk t', (∀ b o, s.heap.get? b = some o → h'.get? b = some o) → Q (.int ns.sum t') { s with heap := h', toks := tk }) : wpAny (model prog w) A (call (.builtin "sum") [.ref t]) Q E s := by
  obtain ⟨xs, hx⟩ := hi.allInts.items
  have hn : numsOf its.toArray.toList = ns := by rw [show its.toArray.toList = its from rfl, hi.numsOf]
  rw [hx] at hl hn
  rw [nums_intItems] at hn
  refine PySem.W.ktm_sumG hh hl fun h' tk t' hk => ?_
  have := h h' tk t' hk
  rw [preSum_eq, List.take_of_length_le (by simp), hn]
  exact this
theorem cx_sumA (hc : X.calm = true) : CallX X (.builtin "sum") sumDA := by
  intro pins s σ H xs us Q I r h
  obtain ⟨F, ι, S, ds, a, sm, rd, ho, q⟩ := h
  unfold sumDA at ho
  split at ho
  · obtain ⟨x, rfl, rx⟩ := rel1 rd
    split at ho
    · next xs h1 =>
      obtain ⟨ns, h2, rfl⟩ := Option.map_eq_some_iff.mp ho
      obtain ⟨p, vs, rfl, e1, r1⟩ := at_lst sm rx h1
      cases rel_ints r1 h2
      exact cr_sum hc pins s σ H _ us Q I r ⟨p, ns, rfl, SqL.of e1, q F ι _ H (Step.refl _ _ _) sm (.int _)⟩
    · next xs h1 =>
      obtain ⟨ns, h2, rfl⟩ := Option.map_eq_some_iff.mp ho
      obtain ⟨p, vs, rfl, e1, _, r1, _⟩ := at_tup sm rx h1
      cases rel_ints r1 h2
      obtain ⟨its, rv, hl, _⟩ := I.tuple (SqT.of e1)
      rw [Vals.ref1 r]
      exact sum_rawT (I.ok.hd hc) hl rv.ints fun h' tk t' hk => ⟨.int _, H, I.kept hk, ⟨_, rfl⟩, q F ι _ H (Step.refl _ _ _) sm (.int _)⟩
    · cases ho
  · cases ho
end
end Fk

set_option Elab.async false
set_option linter.all false
set_option maxRecDepth 100000
set_option maxHeartbeats 2000000
/-! ### zip of a list and a tuple, either way about: k tells of each side whether it is a list -/
namespace Fk.Z
open PySem PySem.Spec PyProof.Rows L2
def SqAt (k : Bool) (h : Heap) (l : Addr) (xs : Array Value) : Prop := match k with
  | true => h.IsList l xs
  | false => h.IsTuple l xs
def ItAt (k : Bool) (h : Heap) (it l : Addr) (i : Nat) : Prop := match k with
  | true => h.IsListIter it l i
  | false => h.IsTupleIter it l i
theorem SqAt.eb {k : Bool} {h h' : Heap} {a b : Addr} {xs : Array Value} (x : SqAt k h a xs) (hs : Heap.ExtBut b h h') (hab : a ≠ b) : SqAt k h' a xs := by
  cases k with
  | true => exact Heap.IsList.extBut x hs hab
  | false => exact Heap.IsTuple.extBut x hs hab
theorem ItAt.go {k : Bool} {h h' : Heap} {a l : Addr} {i : Nat} (x : ItAt k h a l i) (e : ∀ o, h.get? a = some o → h'.get? a = some o) : ItAt k h' a l i := by
  cases k with
  | true => exact Heap.IsListIter.at x e
  | false => exact Heap.IsTupleIter.at x e
theorem ItAt.eb {k : Bool} {h h' : Heap} {a b l : Addr} {i : Nat} (x : ItAt k h a l i) (hs : Heap.ExtBut b h h') (hab : a ≠ b) : ItAt k h' a l i := x.go fun o q => hs _ _ hab q
theorem ItAt.obj {k : Bool} {h : Heap} {a l : Addr} {i : Nat} (x : ItAt k h a l i) : ∃ o, h.get? a = some o ∧ ∀ v, o.data ≠ .cell v := by
  cases k with
  | true => obtain ⟨o, e, _, d⟩ := x; exact ⟨o, e, fun v q => by rw [d] at q; cases q⟩
  | false => obtain ⟨o, e, _, d⟩ := x; exact ⟨o, e, fun v q => by rw [d] at q; cases q⟩
section
variable {prog : Program} {w : World} {A : Around} {E : Value → Shared → Prop} {s : Shared}
theorem nx_item {k : Bool} {it l : Addr} {i : Nat} {items : Array Value} {x : Value} {Q : Value → Shared → Prop} (hit : ItAt k s.heap it l i) (hl : SqAt k s.heap l items) (hx : items[i]? = some x)
    (hQ : ∀ h', ItAt k h' it l (i + 1) → Heap.SameBut it s.heap h' → Q x { s with heap := h' }) : wpAny (model prog w) A (Builtin.SmallTypes.nextOf (.ref it)) Q E s := by
  cases k with
  | true => exact wpAny_nextOf_list_item hit hl hx hQ
  | false => exact RZ.nextOf_tuple_item hit hl hx hQ
theorem nx_end {k : Bool} {it l : Addr} {i : Nat} {items : Array Value} {Q : Value → Shared → Prop} (hh : A.handled = none) (hit : ItAt k s.heap it l i) (hl : SqAt k s.heap l items) (hx : items[i]? = none)
    (hE : ∀ h' e, Heap.ExtBut it s.heap h' → (∃ o, h'.get? e = some o ∧ o.cls = .type "StopIteration") → E (.ref e) { s with heap := h' }) : wpAny (model prog w) A (Builtin.SmallTypes.nextOf (.ref it)) Q E s := by
  cases k with
  | true => exact wpAny_nextOf_list_end hh hit hl hx hE
  | false => exact RZ.nextOf_tuple_end hh hit hl hx hE
variable {p q : Bool} {z TI TO i1 i2 l1 l2 : Addr} {k1 k2 : Nat} {xs ys : Array Value} {x y a b : Value}
theorem z_item {Q : Value → Shared → Prop} (D : ZipApart z TI TO i1 i2 l1 l2) (hz : IsZip s.heap z TI TO .none) (hTI : IsPair s.heap TI (.ref i1) (.ref i2)) (hTO : IsPair s.heap TO a b)
    (h1 : ItAt p s.heap i1 l1 k1) (h2 : ItAt q s.heap i2 l2 k2) (hl1 : SqAt p s.heap l1 xs) (hl2 : SqAt q s.heap l2 ys) (hx : xs[k1]? = some x) (hy : ys[k2]? = some y)
    (hQ : ∀ h', IsZip h' z TI TO (rawInt s.heap.objs.size) → IsPair h' TO x y → ItAt p h' i1 l1 (k1 + 1) → ItAt q h' i2 l2 (k2 + 1) → IsPair h' s.heap.objs.size x y → h'.objs.size = s.heap.objs.size + 1 →
      (∀ c o, c ≠ z → c ≠ TO → c ≠ i1 → c ≠ i2 → s.heap.get? c = some o → h'.get? c = some o) → Q (.ref s.heap.objs.size) { s with heap := h' }) :
    wpAny (model prog w) A (Builtin.«zip.__next__» ⟨[.ref z], []⟩) (fun fin s' => ∃ v, fin = .done (.ret v) ∧ Q v s') E s := by
  show wpAny _ _ (field (.ref z) 2 >>= _) _ _ _
  refine wpAny_bind (wpAny_field hz rfl (x := .bool false) rfl ?_)
  show wpAny _ _ (field (.ref z) 3 >>= _) _ _ _
  refine wpAny_bind (wpAny_field hz rfl (x := .ref TI) rfl (wpAny_bind (wpAny_seqItems hTI rfl ?_)))
  show wpAny _ _ (Builtin.SmallTypes.ownedTupleIsFree (.ref z) >>= _) _ _ _
  refine wpAny_bind ?_
  unfold Builtin.SmallTypes.ownedTupleIsFree
  refine wpAny_bind (wpAny_field hz rfl (x := .none) rfl (wpAny_pure ?_))
  simp only [if_true]
  refine wpAny_bind (wpAny_rule (wpAny_bind (wpAny_field hz rfl (x := .ref TO) rfl (wpAny_bind (wpAny_setField_rec hz (by simp) fun g1 z1 s1 => ?_)))))
  have z1 : IsZip g1 z TI TO .ellipsis := z1
  refine wpAny_bind ?_
  simp only [List.zipIdx_cons, List.zipIdx_nil, List.forIn_cons, List.forIn_nil]
  refine wpAny_bind (wpAny_bind (wpAny_onRaise ?_))
  show wpAny _ _ (Builtin.SmallTypes.nextOf (.ref i1) >>= _) _ _ _
  refine wpAny_bind (nx_item (h1.eb s1.extBut D.i1z) (hl1.eb s1.extBut D.l1z) hx fun g2 j1 s2 => wpAny_pure ?_)
  have t2 : IsPair g2 TO a b := s2.extBut _ _ D.TOi1 (s1.extBut _ _ D.TOz hTO)
  refine wpAny_bind (wpAny_seqItems t2 rfl (wpAny_bind (wpAny_updateSeq_pair t2 fun g3 t3 s3 => ?_)))
  have t3 : IsPair g3 TO x b := t3
  refine wpAny_bind (wpAny_letGo (wpAny_pure (wpAny_bind (wpAny_bind (wpAny_onRaise ?_)))))
  show wpAny _ _ (Builtin.SmallTypes.nextOf (.ref i2) >>= _) _ _ _
  refine wpAny_bind (nx_item (((h2.eb s1.extBut D.i2z).eb s2.extBut D.i12.symm).eb s3.extBut D.TOi2.symm) (((hl2.eb s1.extBut D.l2z).eb s2.extBut D.l2i1).eb s3.extBut D.l2TO) hy fun g4 j2 s4 => wpAny_pure ?_)
  have t4 : IsPair g4 TO x b := s4.extBut _ _ D.TOi2 t3
  refine wpAny_bind (wpAny_seqItems t4 rfl (wpAny_bind (wpAny_updateSeq_pair t4 fun g5 t5 s5 => ?_)))
  have t5 : IsPair g5 TO x y := t5
  refine wpAny_bind (wpAny_letGo (wpAny_pure (wpAny_pure ?_)))
  refine wpAny_bind (wpAny_seqItems t5 rfl (wpAny_bind (wpAny_newTuple ?_)))
  have hsz : g5.objs.size = s.heap.objs.size := by rw [s5.1, s4.1, s3.1, s2.1, s1.1]
  have z5 : IsZip g5 z TI TO .ellipsis := s5.extBut _ _ D.TOz.symm (s4.extBut _ _ D.i2z.symm (s3.extBut _ _ D.TOz.symm (s2.extBut _ _ D.i1z.symm z1)))
  have kp : ∀ c o, c ≠ z → c ≠ TO → c ≠ i1 → c ≠ i2 → s.heap.get? c = some o → g5.get? c = some o := fun c o c1 c2 c3 c4 e =>
    s5.extBut _ _ c2 (s4.extBut _ _ c4 (s3.extBut _ _ c2 (s2.extBut _ _ c3 (s1.extBut _ _ c1 e))))
  have j1' : ItAt p g5 i1 l1 (k1 + 1) := ((j1.eb s3.extBut D.TOi1.symm).eb s4.extBut D.i12).eb s5.extBut D.TOi1.symm
  have j2' : ItAt q g5 i2 l2 (k2 + 1) := j2.eb s5.extBut D.TOi2.symm
  have zlt : z < g5.objs.size := Heap.lt_size z5
  show wpAny _ _ (Builtin.SmallTypes.ownedTupleHandOut (.ref z) (.ref g5.objs.size) >>= _) _ _ _
  refine wpAny_bind ?_
  unfold Builtin.SmallTypes.ownedTupleHandOut
  have z6 : IsZip (g5.push { cls := .type "tuple", data := .seq #[x, y] }) z TI TO .ellipsis := Heap.get?_push_of_some _ z5
  refine wpAny_bind (wpAny_setField_rec z6 (by simp) fun g7 z7 s7 => ?_)
  have z7 : IsZip g7 z TI TO (rawInt g5.objs.size) := z7
  refine wpAny_setField_rec z7 (by simp) fun g8 z8 s8 => ?_
  have z8 : IsZip g8 z TI TO (rawInt g5.objs.size) := z8
  have up : ∀ c o, c ≠ z → g5.get? c = some o → g8.get? c = some o := fun c o c1 e => s8.extBut _ _ c1 (s7.extBut _ _ c1 (Heap.get?_push_of_some _ e))
  have t8 : IsPair g8 g5.objs.size x y := s8.extBut _ _ (Nat.ne_of_gt zlt) (s7.extBut _ _ (Nat.ne_of_gt zlt) (Heap.get?_push_size _ rfl))
  have n8 : g8.objs.size = g5.objs.size + 1 := by rw [s8.1, s7.1, Heap.size_push]
  rw [hsz] at z8 t8 n8
  refine wpAny_pure ⟨_, rfl, ?_⟩
  show Q (.ref g5.objs.size) _
  rw [hsz]
  exact hQ g8 z8 (up _ _ D.TOz t5) (j1'.go fun o e => up _ o D.i1z e) (j2'.go fun o e => up _ o D.i2z e) t8 n8 fun c o c1 c2 c3 c4 e => up c o c1 (kp c o c1 c2 c3 c4 e)
theorem z_end {Q : Fin → Shared → Prop} (hh : A.handled = none) (D : ZipApart z TI TO i1 i2 l1 l2) (hz : IsZip s.heap z TI TO .none) (hTI : IsPair s.heap TI (.ref i1) (.ref i2)) (hTO : IsPair s.heap TO a b)
    (h1 : ItAt p s.heap i1 l1 k1) (h2 : ItAt q s.heap i2 l2 k2) (hl1 : SqAt p s.heap l1 xs) (hl2 : SqAt q s.heap l2 ys) (hend : xs[k1]? = none ∨ ys[k2]? = none)
    (hE : ∀ h' e, (∀ c o, c ≠ z → c ≠ TO → c ≠ i1 → c ≠ i2 → s.heap.get? c = some o → h'.get? c = some o) → (∃ o, h'.get? e = some o ∧ o.cls = .type "StopIteration") → E (.ref e) { s with heap := h' }) :
    wpAny (model prog w) A (Builtin.«zip.__next__» ⟨[.ref z], []⟩) Q E s := by
  show wpAny _ _ (field (.ref z) 2 >>= _) _ _ _
  refine wpAny_bind (wpAny_field hz rfl (x := .bool false) rfl ?_)
  show wpAny _ _ (field (.ref z) 3 >>= _) _ _ _
  refine wpAny_bind (wpAny_field hz rfl (x := .ref TI) rfl (wpAny_bind (wpAny_seqItems hTI rfl ?_)))
  show wpAny _ _ (Builtin.SmallTypes.ownedTupleIsFree (.ref z) >>= _) _ _ _
  refine wpAny_bind ?_
  unfold Builtin.SmallTypes.ownedTupleIsFree
  refine wpAny_bind (wpAny_field hz rfl (x := .none) rfl (wpAny_pure ?_))
  simp only [if_true]
  refine wpAny_bind (wpAny_rule (wpAny_bind (wpAny_field hz rfl (x := .ref TO) rfl (wpAny_bind (wpAny_setField_rec hz (by simp) fun g1 z1 s1 => ?_)))))
  have z1 : IsZip g1 z TI TO .ellipsis := z1
  refine wpAny_bind ?_
  simp only [List.zipIdx_cons, List.zipIdx_nil, List.forIn_cons, List.forIn_nil]
  refine wpAny_bind (wpAny_bind (wpAny_onRaise ?_))
  show wpAny _ _ (Builtin.SmallTypes.nextOf (.ref i1) >>= _) _ _ _
  cases hx : xs[k1]? with
  | none =>
    refine wpAny_bind (nx_end hh (h1.eb s1.extBut D.i1z) (hl1.eb s1.extBut D.l1z) hx fun g2 e s2 he => ?_)
    obtain ⟨oe, hoe, hce⟩ := he
    have z2 : IsZip g2 z TI TO .ellipsis := s2 _ _ D.i1z.symm z1
    have hez : e ≠ z := fun x => by subst x; rw [z2] at hoe; cases hoe; simp at hce
    exact wpAny_setField_rec z2 (by simp) fun g3 _ s3 => hE g3 e (fun c o c1 _ c3 _ x => s3.extBut _ _ c1 (s2 _ _ c3 (s1.extBut _ _ c1 x))) ⟨oe, s3.extBut _ _ hez hoe, hce⟩
  | some x =>
    have hy : ys[k2]? = none := by rcases hend with h | h; rw [hx] at h; cases h; exact h
    refine wpAny_bind (nx_item (h1.eb s1.extBut D.i1z) (hl1.eb s1.extBut D.l1z) hx fun g2 j1 s2 => wpAny_pure ?_)
    have t2 : IsPair g2 TO a b := s2.extBut _ _ D.TOi1 (s1.extBut _ _ D.TOz hTO)
    refine wpAny_bind (wpAny_seqItems t2 rfl (wpAny_bind (wpAny_updateSeq_pair t2 fun g3 t3 s3 => ?_)))
    refine wpAny_bind (wpAny_letGo (wpAny_pure (wpAny_bind (wpAny_bind (wpAny_onRaise ?_)))))
    show wpAny _ _ (Builtin.SmallTypes.nextOf (.ref i2) >>= _) _ _ _
    refine wpAny_bind (nx_end hh (((h2.eb s1.extBut D.i2z).eb s2.extBut D.i12.symm).eb s3.extBut D.TOi2.symm) (((hl2.eb s1.extBut D.l2z).eb s2.extBut D.l2i1).eb s3.extBut D.l2TO) hy fun g4 e s4 he => ?_)
    obtain ⟨oe, hoe, hce⟩ := he
    have z4 : IsZip g4 z TI TO .ellipsis := s4 _ _ D.i2z.symm (s3.extBut _ _ D.TOz.symm (s2.extBut _ _ D.i1z.symm z1))
    have hez : e ≠ z := fun x => by subst x; rw [z4] at hoe; cases hoe; simp at hce
    exact wpAny_setField_rec z4 (by simp) fun g5 _ s5 => hE g5 e (fun c o c1 c2 c3 c4 x => s5.extBut _ _ c1 (s4 _ _ c4 (s3.extBut _ _ c2 (s2.extBut _ _ c3 (s1.extBut _ _ c1 x))))) ⟨oe, s5.extBut _ _ hez hoe, hce⟩
end
def itName (k : Bool) : String := if k then "list_iterator" else "tuple_iterator"
abbrev zh1 (p : Bool) (h : Heap) (l1 : Addr) : Heap := h.push { cls := .type (itName p), data := .fields #[.ref l1, .int 0 0] }
abbrev zh2 (p q : Bool) (h : Heap) (l1 l2 : Addr) : Heap := (zh1 p h l1).push { cls := .type (itName q), data := .fields #[.ref l2, .int 0 0] }
abbrev zh3 (p q : Bool) (h : Heap) (l1 l2 : Addr) : Heap := (zh2 p q h l1 l2).push { cls := .type "tuple", data := .seq #[.ref h.objs.size, .ref (zh1 p h l1).objs.size] }
abbrev zh4 (p q : Bool) (h : Heap) (l1 l2 : Addr) : Heap := (zh3 p q h l1 l2).push { cls := .type "tuple", data := .seq #[.none, .none] }
abbrev zh5 (p q : Bool) (h : Heap) (l1 l2 : Addr) : Heap := (zh4 p q h l1 l2).push { cls := .type "zip", data := .fields #[.none, .bool false, .bool false, .ref (zh2 p q h l1 l2).objs.size, .ref (zh3 p q h l1 l2).objs.size] }
def NewS (p q : Bool) (l1 l2 : Addr) (xs ys : Array Value) : Prop := Meets (Builtin.«zip.__new__» ⟨[.type "zip", .ref l1, .ref l2], []⟩) (fun _ R s => SqAt p s.heap l1 xs ∧ SqAt q s.heap l2 ys ∧ R (.ok (.ret (.ref (zh4 p q s.heap l1 l2).objs.size))) { s with heap := zh5 p q s.heap l1 l2 })
theorem new_M (p q : Bool) (l1 l2 : Addr) (xs ys : Array Value) : NewS p q l1 l2 xs ys :=
  .of_wp fun prog w A R s h => by
    obtain ⟨hp, g, d, tk, os⟩ := s
    obtain ⟨hl1, hl2, h⟩ := h
    have hsub := sub_zip
    cases p with
    | true =>
      have hL1 : Heap.IsList (Shared.heap ⟨hp, g, d, tk, os⟩) l1 xs := hl1
      cases q with
      | true =>
        have hL2 : Heap.IsList (Shared.heap ⟨hp.push { cls := .type "list_iterator", data := .fields #[.ref l1, .int 0 0] }, g, d, tk, os⟩) l2 ys := Heap.IsList.push hl2 _
        wp_walk using wpAny_pyIter_list hL1, wpAny_pyIter_list hL2
        exact ⟨_, rfl, h⟩
      | false =>
        have hL2 : Heap.IsTuple (Shared.heap ⟨hp.push { cls := .type "list_iterator", data := .fields #[.ref l1, .int 0 0] }, g, d, tk, os⟩) l2 ys := Heap.IsTuple.push hl2 _
        wp_walk using wpAny_pyIter_list hL1, wpAny_pyIter_tuple hL2
        exact ⟨_, rfl, h⟩
    | false =>
      have hL1 : Heap.IsTuple (Shared.heap ⟨hp, g, d, tk, os⟩) l1 xs := hl1
      cases q with
      | true =>
        have hL2 : Heap.IsList (Shared.heap ⟨hp.push { cls := .type "tuple_iterator", data := .fields #[.ref l1, .int 0 0] }, g, d, tk, os⟩) l2 ys := Heap.IsList.push hl2 _
        wp_walk using wpAny_pyIter_tuple hL1, wpAny_pyIter_list hL2
        exact ⟨_, rfl, h⟩
      | false =>
        have hL2 : Heap.IsTuple (Shared.heap ⟨hp.push { cls := .type "tuple_iterator", data := .fields #[.ref l1, .int 0 0] }, g, d, tk, os⟩) l2 ys := Heap.IsTuple.push hl2 _
        wp_walk using wpAny_pyIter_tuple hL1, wpAny_pyIter_tuple hL2
        exact ⟨_, rfl, h⟩
section
variable {prog : Program} {w : World} {A : Around} {E : Value → Shared → Prop} {s : Shared} {p q : Bool}
theorem it_new {k : Bool} {h : Heap} {a l : Addr} (e : h.get? a = some { cls := .type (itName k), data := .fields #[.ref l, .int 0 0] }) : ItAt k h a l 0 := by
  cases k with
  | true => exact ⟨_, e, rfl, rfl⟩
  | false => exact ⟨_, e, rfl, rfl⟩
theorem call_M {l1 l2 : Addr} {xs ys : Array Value} {Q : Value → Shared → Prop} (hl1 : SqAt p s.heap l1 xs) (hl2 : SqAt q s.heap l2 ys)
    (h : ∀ h', IsZip h' (s.heap.objs.size + 4) (s.heap.objs.size + 2) (s.heap.objs.size + 3) .none → IsPair h' (s.heap.objs.size + 2) (.ref s.heap.objs.size) (.ref (s.heap.objs.size + 1)) →
      IsPair h' (s.heap.objs.size + 3) .none .none → ItAt p h' s.heap.objs.size l1 0 → ItAt q h' (s.heap.objs.size + 1) l2 0 → (∀ c o, s.heap.get? c = some o → h'.get? c = some o) → Q (.ref (s.heap.objs.size + 4)) { s with heap := h' }) :
    wpAny (model prog w) A (call (.type "zip") [.ref l1, .ref l2]) Q E s := by
  refine callType_new F.called_zip (by decide) (F.typeCall_zip_2 _ _) (F.newCall_zip_2 _ _) (fun obj => F.args_object_init_3 obj _ _) F.entry_zip_new (new_M p q l1 l2 xs ys) ⟨hl1, hl2, ?_⟩
  have z1 : (zh1 p s.heap l1).objs.size = s.heap.objs.size + 1 := Heap.size_push ..
  have z2 : (zh2 p q s.heap l1 l2).objs.size = s.heap.objs.size + 2 := by rw [Heap.size_push, z1]
  have z3 : (zh3 p q s.heap l1 l2).objs.size = s.heap.objs.size + 3 := by rw [Heap.size_push, z2]
  have z4 : (zh4 p q s.heap l1 l2).objs.size = s.heap.objs.size + 4 := by rw [Heap.size_push, z3]
  have g5 : (zh5 p q s.heap l1 l2).get? (zh4 p q s.heap l1 l2).objs.size = some _ := Heap.get?_push_size _ rfl
  have g4 : (zh5 p q s.heap l1 l2).get? (zh3 p q s.heap l1 l2).objs.size = some _ := Heap.get?_push_of_some _ (Heap.get?_push_size _ rfl)
  have g3 : (zh5 p q s.heap l1 l2).get? (zh2 p q s.heap l1 l2).objs.size = some _ := Heap.get?_push_of_some _ (Heap.get?_push_of_some _ (Heap.get?_push_size _ rfl))
  have g2 : (zh5 p q s.heap l1 l2).get? (zh1 p s.heap l1).objs.size = some _ := Heap.get?_push_of_some _ (Heap.get?_push_of_some _ (Heap.get?_push_of_some _ (Heap.get?_push_size _ rfl)))
  have g1 : (zh5 p q s.heap l1 l2).get? s.heap.objs.size = some _ := Heap.get?_push_of_some _ (Heap.get?_push_of_some _ (Heap.get?_push_of_some _ (Heap.get?_push_of_some _ (Heap.get?_push_size _ rfl))))
  show _ ∧ _
  rw [z2, z3, z4] at g5
  rw [z1, z2] at g3
  rw [z3] at g4
  rw [z1] at g2
  rw [z4]
  exact ⟨⟨_, g5, rfl⟩, h _ g5 g3 g4 (it_new g1) (it_new g2) fun c o x => Heap.get?_push_of_some _ (Heap.get?_push_of_some _ (Heap.get?_push_of_some _ (Heap.get?_push_of_some _ (Heap.get?_push_of_some _ x))))⟩
theorem next_item {z TI TO i1 i2 l1 l2 : Addr} {k1 k2 : Nat} {xs ys : Array Value} {x y a b : Value} {Q : Option Value → Shared → Prop} (D : ZipApart z TI TO i1 i2 l1 l2) (hz : IsZip s.heap z TI TO .none) (hTI : IsPair s.heap TI (.ref i1) (.ref i2)) (hTO : IsPair s.heap TO a b)
    (h1 : ItAt p s.heap i1 l1 k1) (h2 : ItAt q s.heap i2 l2 k2) (hl1 : SqAt p s.heap l1 xs) (hl2 : SqAt q s.heap l2 ys) (hx : xs[k1]? = some x) (hy : ys[k2]? = some y)
    (hQ : ∀ h', IsZip h' z TI TO (rawInt s.heap.objs.size) → IsPair h' TO x y → ItAt p h' i1 l1 (k1 + 1) → ItAt q h' i2 l2 (k2 + 1) → IsPair h' s.heap.objs.size x y → h'.objs.size = s.heap.objs.size + 1 →
      (∀ c o, c ≠ z → c ≠ TO → c ≠ i1 → c ≠ i2 → s.heap.get? c = some o → h'.get? c = some o) → Q (some (.ref s.heap.objs.size)) { s with heap := h' }) : wpAny (model prog w) A (pyNext (.ref z)) Q E s := by
  have hT : s.TypeIs (.ref z) "zip" := ⟨_, hz, rfl⟩
  unfold pyNext
  exact wpAny_bind (wpAny_attempt (wpAny_callSpecial?_slot (name := Str.ofString "__next__") hT F.slot_zip_next (wpAny_call_entry F.slot_zip_next hT F.entry_zip_next (z_item D hz hTI hTO h1 h2 hl1 hl2 hx hy fun h' a1 a2 a3 a4 a5 a6 a7 => wpAny_pure (hQ h' a1 a2 a3 a4 a5 a6 a7)) (F.args_zip_next_1 _))))
theorem next_end {z TI TO i1 i2 l1 l2 : Addr} {k1 k2 : Nat} {xs ys : Array Value} {a b : Value} {Q : Option Value → Shared → Prop} (hh : A.handled = none) (D : ZipApart z TI TO i1 i2 l1 l2) (hz : IsZip s.heap z TI TO .none) (hTI : IsPair s.heap TI (.ref i1) (.ref i2)) (hTO : IsPair s.heap TO a b)
    (h1 : ItAt p s.heap i1 l1 k1) (h2 : ItAt q s.heap i2 l2 k2) (hl1 : SqAt p s.heap l1 xs) (hl2 : SqAt q s.heap l2 ys) (hend : xs[k1]? = none ∨ ys[k2]? = none)
    (hQ : ∀ h', (∀ c o, c ≠ z → c ≠ TO → c ≠ i1 → c ≠ i2 → s.heap.get? c = some o → h'.get? c = some o) → Q none { s with heap := h' }) : wpAny (model prog w) A (pyNext (.ref z)) Q E s := by
  have hT : s.TypeIs (.ref z) "zip" := ⟨_, hz, rfl⟩
  unfold pyNext
  refine wpAny_bind (wpAny_attempt (wpAny_callSpecial?_slot (name := Str.ofString "__next__") hT F.slot_zip_next (wpAny_call_entry F.slot_zip_next hT F.entry_zip_next (z_end hh D hz hTI hTO h1 h2 hl1 hl2 hend fun h' e hk he => ?_) (F.args_zip_next_1 _))))
  obtain ⟨o, ho, hc⟩ := he
  exact wpAny_bind (wpAny_isInstance (T := "StopIteration") (b := true) ⟨o, ho, hc⟩ isSubtype_stop (wpAny_pure (hQ _ hk)))
end
/-! ### the walk -/
def SqK (k : Bool) (K : PySem.W.Frag) (H : Hp) (a : Addr) (xs : List V) : Prop := match k with
  | true => SqL K H a xs
  | false => SqT K H a xs
section
variable {X : Cx} {pins : List (Addr × Obj)} {σ : L2.St} {H : Hp} {s : Shared} {k : Bool} {a : Addr} {xs ys : List V}
theorem SqK.sq (I : Inv X pins σ H s) (h : SqK k X.K H a xs) : ∃ its, Vals xs its ∧ SqAt k s.heap a its.toArray ∧ a < s.heap.objs.size := by
  cases k with
  | true =>
    obtain ⟨its, rv, p, _⟩ := I.list h
    exact ⟨its, rv, p.isList, p.lt⟩
  | false =>
    obtain ⟨its, rv, p, _⟩ := I.tuple h
    obtain ⟨o, ho, _⟩ := id p
    exact ⟨its, rv, p, Heap.lt_size ho⟩
theorem SqK.inj (I : Inv X pins σ H s) (h : SqK k X.K H a xs) (g : SqK k X.K H a ys) : xs = ys := by
  cases k with
  | true => exact I.list_inj h g
  | false => exact I.tuple_inj h g
end
def ItM (p q : Bool) (K : PySem.W.Frag) (a b : Addr) : It :=
  ⟨fun i H => ∃ (xs ys : List V) (x y : V), SqK p K H a xs ∧ SqK q K H b ys ∧ xs[i]? = some x ∧ ys[i]? = some y,
    fun i H v H' => ∃ T x y, v = .ref T ∧ H T = none ∧ H' = upd H T (.tup [x, y]) ∧ (∀ xs, SqK p K H a xs → xs[i]? = some x) ∧ ∀ ys, SqK q K H b ys → ys[i]? = some y,
    fun i H => ∃ xs ys : List V, SqK p K H a xs ∧ SqK q K H b ys ∧ (xs.length ≤ i ∨ ys.length ≤ i)⟩
theorem turn_M {P : Program} {w : World} {K : PySem.W.Frag} {elts : List Expr} {kk : Nat} {tpos : Pos} {p q : Bool} {a b z TI TO i1 i2 : Addr} (D : ZipApart z TI TO i1 i2 a b) :
    Turn P w K (.Tuple elts kk tpos) (ItM p q K a b) [z, TI, TO, i1, i2] z (fun i h => IsZip h z TI TO .none ∧ IsPair h TI (.ref i1) (.ref i2) ∧ (∃ x y, IsPair h TO x y) ∧ ItAt p h i1 a i ∧ ItAt q h i2 b i) where
  mem := by simp
  obj := fun i h st c hc => by
    obtain ⟨hz, hTI, ⟨x, y, hTO⟩, h1, h2⟩ := st
    obtain ⟨o1, e1, d1⟩ := h1.obj
    obtain ⟨o2, e2, d2⟩ := h2.obj
    have e' : c = z ∨ c = TI ∨ c = TO ∨ c = i1 ∨ c = i2 := by simpa using hc
    rcases e' with q | q | q | q | q
    · rw [q]; exact ⟨_, hz, fun v q => nomatch q⟩
    · rw [q]; exact ⟨_, hTI, fun v q => nomatch q⟩
    · rw [q]; exact ⟨_, hTO, fun v q => nomatch q⟩
    · rw [q]; exact ⟨o1, e1, d1⟩
    · rw [q]; exact ⟨o2, e2, d2⟩
  keep := fun i h h' st k => by
    obtain ⟨hz, hTI, ⟨x, y, hTO⟩, h1, h2⟩ := st
    exact ⟨k z (by simp) _ hz, k TI (by simp) _ hTI, ⟨x, y, k TO (by simp) _ hTO⟩, h1.go fun o q => k i1 (by simp) o q, h2.go fun o q => k i2 (by simp) o q⟩
  item := by
    intro X hP hw hK hc i pins s σ H E I hf st hg
    subst hP hw hK
    obtain ⟨hz, hTI, ⟨x0, y0, hTO⟩, h1, h2⟩ := st
    obtain ⟨xs, ys, x, y, hqx, hqy, hx, hy⟩ := hg
    obtain ⟨its, rv, pp, _⟩ := hqx.sq I
    obtain ⟨its2, rv2, pp2, _⟩ := hqy.sq I
    obtain ⟨u, hu, ru⟩ := rv.get hx
    obtain ⟨u2, hu2, ru2⟩ := rv2.get hy
    have hzl : z < s.heap.objs.size := Heap.lt_size hz
    refine next_item D hz hTI hTO h1 h2 pp pp2 (x := u) (y := u2) (by simpa using hu) (by simpa using hu2) fun h' z' TO' j1 j2 hT hsz hk => ?_
    refine ⟨_, rfl, wpAny_letOwnedTupleGo_zip (s := { s with heap := h' }) z' fun h'' z'' sb => ?_⟩
    have hT2 : h''.get? s.heap.objs.size = some { cls := .type "tuple", data := .seq #[u, u2] } := (sb.2 _ (Nat.ne_of_gt hzl)).trans hT
    have new : ObjOk X.prog X.w (upd H s.heap.objs.size (.tup [x, y])) h'' s.heap.objs.size (.tup [x, y]) := ⟨by show 2 ≤ sizeLine; decide, [u, u2], .cons ru (.cons ru2 .nil), ⟨_, hT2, rfl, _, rfl⟩⟩
    have I1 : Inv X pins σ (upd H s.heap.objs.size (.tup [x, y])) { s with heap := h'' } :=
      I.turnedNew (t' := s.toks) (ch := [z, TI, TO, i1, i2]) (fun c o hb q => (sb.2 c (fun q' => hb (by simp [q']))).trans (hk c o (fun q' => hb (by simp [q'])) (fun q' => hb (by simp [q'])) (fun q' => hb (by simp [q'])) (fun q' => hb (by simp [q'])) q)) hf (Nat.le_refl _) new
    refine ⟨.ref s.heap.objs.size, _, I1, rfl, ⟨_, x, y, rfl, I.hok.fresh (Nat.le_refl _), rfl, fun l hl => by rw [hl.inj I hqx]; exact hx, fun l hl => by rw [hl.inj I hqy]; exact hy⟩, ⟨z'', ?_, ⟨u, u2, ?_⟩, ?_, ?_⟩, fun c hcm => ?_⟩
    · exact (sb.2 _ D.TIz).trans (hk _ _ D.TIz D.TITO D.TIi1 D.TIi2 hTI)
    · exact (sb.2 _ D.TOz).trans TO'
    · exact j1.go fun o q => (sb.2 _ D.i1z).trans q
    · exact j2.go fun o q => (sb.2 _ D.i2z).trans q
    · have hlt : c < s.heap.objs.size := by
        have e' : c = z ∨ c = TI ∨ c = TO ∨ c = i1 ∨ c = i2 := by simpa using hcm
        rcases e' with q | q | q | q | q
        · rw [q]; exact hzl
        · rw [q]; exact Heap.lt_size hTI
        · rw [q]; exact Heap.lt_size hTO
        · rw [q]; obtain ⟨_, e1, _⟩ := h1.obj; exact Heap.lt_size e1
        · rw [q]; obtain ⟨_, e2, _⟩ := h2.obj; exact Heap.lt_size e2
      rw [upd_ne (Nat.ne_of_lt hlt)]
      exact (hf c hcm).1
  done := by
    intro X hP hw hK hc i pins s σ H E I hf st hg
    subst hP hw hK
    obtain ⟨hz, hTI, ⟨x0, y0, hTO⟩, h1, h2⟩ := st
    obtain ⟨xs, ys, hqx, hqy, hend⟩ := hg
    obtain ⟨its, rv, pp, _⟩ := hqx.sq I
    obtain ⟨its2, rv2, pp2, _⟩ := hqy.sq I
    have l1 := rv.length
    have l2 := rv2.length
    have he : its.toArray[i]? = none ∨ its2.toArray[i]? = none := by
      rcases hend with q | q
      · exact .inl (by simp; omega)
      · exact .inr (by simp; omega)
    exact next_end (I.ok.hd hc) D hz hTI hTO h1 h2 pp pp2 he fun h' hk => ⟨rfl, I.turnedL (t' := s.toks) (ch := [z, TI, TO, i1, i2]) (fun c o hb q =>
      hk c o (fun q' => hb (by simp [q'])) (fun q' => hb (by simp [q'])) (fun q' => hb (by simp [q'])) (fun q' => hb (by simp [q'])) q) hf⟩
  self := fun A i s Q E st h => wpAny_pyIter_zip st.1 h
def iZipM (K : PySem.W.Frag) (ta : TA) : TI := fun σ H R => ta σ H fun vs H1 => ∃ p q a b xs ys, vs = [.ref a, .ref b] ∧ SqK p K H1 a xs ∧ SqK q K H1 b ys ∧ R (ItM p q K a b) H1
theorem pi_zipM {X : Cx} {e e2 : Expr} {ta : TA} {p0 pos tpos : Pos} {elts : List Expr} {kk : Nat} (hg : Gl X "zip") (hm : X.mg "zip" = none) (ha : PA X [e, e2] ta)
    (hs : starEach [e, e2] X.env = (false, eval e X.env) :: starEach [e2] X.env := by rfl) (hpl : (backTo pos (starEach [e2] X.env)).any (·.1) = false := by rfl) :
    PI X (.Tuple elts kk tpos) (.Call (.Name "zip" p0) [e, e2] [] pos) (iZipM X.K ta) := by
  refine ⟨fun pins s σ H R I h => ?_⟩
  refine Call_ (ld_blt I hg hm PyProof.Rows.boot_zip (PyProof.Rows.callWith_type1 (thn (ha.run pos pins s σ H _ I h) fun us s1 ⟨vs, H1, I1, r1, q1⟩ => ?_) hs hpl))
  obtain ⟨p, q, a, b, xs, ys, ex, hqx, hqy, qq⟩ := q1
  subst ex
  cases r1 with
  | cons r rr =>
    cases rr with
    | cons r' rr =>
      cases rr
      cases r
      cases r'
      have fresh5 : ∀ c, c ∈ [s1.heap.objs.size + 4, s1.heap.objs.size + 2, s1.heap.objs.size + 3, s1.heap.objs.size, s1.heap.objs.size + 1] → FpOk X pins H1 c := fun c hcm => by
        have e' : c = s1.heap.objs.size + 4 ∨ c = s1.heap.objs.size + 2 ∨ c = s1.heap.objs.size + 3 ∨ c = s1.heap.objs.size ∨ c = s1.heap.objs.size + 1 := by simpa using hcm
        have hle : s1.heap.objs.size ≤ c := by
          rcases e' with z | z | z | z | z
          · rw [z]; exact Nat.le_add_right _ _
          · rw [z]; exact Nat.le_add_right _ _
          · rw [z]; exact Nat.le_add_right _ _
          · rw [z]; exact Nat.le_refl _
          · rw [z]; exact Nat.le_add_right _ _
        exact I1.fpOk hle (I1.hok.fresh hle)
      obtain ⟨its, rv, p1, lt1⟩ := hqx.sq I1
      obtain ⟨its2, rv2, p2, lt2⟩ := hqy.sq I1
      refine call_M p1 p2 fun h' hz hTI hTO h1 h2 hk => wpAny_pyIter_zip hz ?_
      have I2 : Inv X pins σ H1 { s1 with heap := h' } := I1.kept (t' := s1.toks) hk
      exact ⟨s1.heap.objs.size + 4, [s1.heap.objs.size + 4, s1.heap.objs.size + 2, s1.heap.objs.size + 3, s1.heap.objs.size, s1.heap.objs.size + 1], _, _, H1, rfl, I2, turn_M (PySem.W.ktu_apart s1.heap.objs.size a b lt1 lt2), ⟨hz, hTI, ⟨_, _, hTO⟩, h1, h2⟩, fresh5, qq⟩
end Fk.Z
namespace Fk
open PySem PySem.Spec PyProof.Rows L2 Fk.Z
def hoK (k : Bool) (vs : List V) : HO := match k with
  | true => .lst vs
  | false => .tup vs
theorem sqK_of {k : Bool} {K : PySem.W.Frag} {H : Hp} {a : Addr} {vs : List V} (h : H a = some (hoK k vs)) : SqK k K H a vs := by
  cases k with
  | true => exact SqL.of h
  | false => exact SqT.of h
theorem walks_M {p q : Bool} {K : PySem.W.Frag} {F : Hp} {ι : List Addr} {a b : Addr} {vs ws : List V} {xs ys : List D} (h1 : F a = some (hoK p vs)) (h2 : F b = some (hoK q ws)) (r1 : RelAll K F ι vs xs) (r2 : RelAll K F ι ws ys) : Walks K F ι (ItM p q K a b) (zipL xs ys) := by
  refine ⟨fun H i s hi => ?_, fun H i x H' s hi y => ?_, fun H i s hi => ⟨vs, ws, sqK_of (s _ _ h1), sqK_of (s _ _ h2), ?_⟩⟩
  · rw [zipL_len] at hi
    have hv : i < vs.length := by rw [r1.length]; omega
    have hw : i < ws.length := by rw [r2.length]; omega
    exact ⟨vs, ws, vs[i], ws[i], sqK_of (s _ _ h1), sqK_of (s _ _ h2), by simp [hv], by simp [hw]⟩
  · obtain ⟨T, x1, x2, rfl, hT, rfl, e1, e2⟩ := y
    obtain ⟨d1, hd1, rd1⟩ := r1.getV (e1 vs (sqK_of (s _ _ h1)))
    obtain ⟨d2, hd2, rd2⟩ := r2.getV (e2 ws (sqK_of (s _ _ h2)))
    refine ⟨.tup [d1, d2], ?_, .inr ⟨T, _, [d1, d2], rfl, hT, rfl, rfl, .cons rd1 (.cons rd2 .nil)⟩⟩
    obtain ⟨g1, rfl⟩ := List.getElem?_eq_some_iff.mp hd1
    obtain ⟨g2, rfl⟩ := List.getElem?_eq_some_iff.mp hd2
    have hz : (xs.zip ys)[i]? = some (xs[i], ys[i]) := List.getElem?_zip_eq_some.mpr ⟨hd1, hd2⟩
    rw [zipL, List.getElem?_map, hz]
    rfl
  · rw [zipL_len] at hi
    rw [r1.length, r2.length]
    omega
section
variable {X : Cx} {W : WX}
theorem xi_zip {a b : Expr} {fa : SemA} {p pos tpos : Pos} {elts : List Expr} {kk : Nat} (hg : Gl X "zip") (hm : X.mg "zip" = none) (ha : XA X W [a, b] fa)
    (hs : starEach [a, b] X.env = (false, eval a X.env) :: starEach [b] X.env := by rfl) (hpl : (backTo pos (starEach [b] X.env)).any (·.1) = false := by rfl) : XI X W (.Tuple elts kk tpos) (.Call (.Name "zip" p) [a, b] [] pos) (itZip fa) := by
  refine piI (pi_zipM hg hm ha hs hpl) fun σ H R h => ?_
  obtain ⟨F, ι, ρ, S, sm, r, q⟩ := h
  refine ⟨F, ι, ρ, S, sm, r, post_bind (R := RA' X.K) q (fun x S1 F1 ι1 v H1 x1 s1 rv q1 => ?_) stI⟩
  have fin : ∀ {p q : Bool} {a1 a2 : Addr} {vs ws : List V} {xs ys : List D}, F1 a1 = some (hoK p vs) → F1 a2 = some (hoK q ws) → RelAll X.K F1 ι1 vs xs → RelAll X.K F1 ι1 ws ys → Post ⟨X.K, X.mg, W⟩ (RI' X.K) F1 ι1 H1 σ (.ok (zipL xs ys) S1) R →
      ∃ p q a b xs ys, [V.ref a1, V.ref a2] = [.ref a, .ref b] ∧ SqK p X.K H1 a xs ∧ SqK q X.K H1 b ys ∧ R (ItM p q X.K a b) H1 := fun {p q a1 a2 vs ws xs ys} g1 g3 g2 g4 q1 =>
    ⟨p, q, a1, a2, vs, ws, rfl, sqK_of (s1.sub _ _ g1), sqK_of (s1.sub _ _ g3), q1 F1 ι1 _ H1 (Step.refl _ _ _) s1 (walks_M g1 g3 g2 g4)⟩
  split at q1
  · next xs ys =>
    obtain ⟨y, y2, rfl, ry, ry2⟩ := rel2 rv
    cases ry with
    | @lst a1 vs _ g1 g2 => cases ry2 with
      | @lst a2 ws _ g3 g4 => exact fin (p := true) (q := true) g1 g3 g2 g4 q1
  · next xs ys =>
    obtain ⟨y, y2, rfl, ry, ry2⟩ := rel2 rv
    cases ry with
    | @tup a1 vs _ g1 g2 => cases ry2 with
      | @tup a2 ws _ g3 g4 => exact fin (p := false) (q := false) g1 g3 g2 g4 q1
  · next xs ys =>
    obtain ⟨y, y2, rfl, ry, ry2⟩ := rel2 rv
    cases ry with
    | @lst a1 vs _ g1 g2 => cases ry2 with
      | @tup a2 ws _ g3 g4 => exact fin (p := true) (q := false) g1 g3 g2 g4 q1
  · next xs ys =>
    obtain ⟨y, y2, rfl, ry, ry2⟩ := rel2 rv
    cases ry with
    | @tup a1 vs _ g1 g2 => cases ry2 with
      | @lst a2 ws _ g3 g4 => exact fin (p := false) (q := true) g1 g3 g2 g4 q1
  · exact q1.elim
end
end Fk

set_option Elab.async false
set_option linter.all false
set_option maxRecDepth 100000
namespace Fk
open PySem PySem.Spec PyProof.Rows L2
/-! ### what is wanted behind a piece of the program (plain Lean) -/
abbrev EX := Str → List (Str × D) → Store → Prop
structure Out.wp {α : Type} (o : Out α) (Q : α → Store → Prop) (E : EX) : Prop where
  run : match o with
    | .ok a S => Q a S
    | .exc c fs S => E c fs S
    | .stuck => False
structure KS where
  nx : Env → Store → Prop
  rt : D → Store → Prop
  bk : Env → Store → Prop
  ct : Env → Store → Prop
  ex : Str → List (Str × D) → Env → Store → Prop
structure OutS.wp (o : OutS) (k : KS) : Prop where
  run : match o with
    | .nx ρ S => k.nx ρ S
    | .rt d S => k.rt d S
    | .bk ρ S => k.bk ρ S
    | .ct ρ S => k.ct ρ S
    | .exc c fs ρ S => k.ex c fs ρ S
    | .stuck => False
section
variable {α β : Type} {Q : α → Store → Prop} {E : EX} {ρ : Env} {S : Store} {k : KS}
theorem Out.wp.mono {o : Out α} {Q Q' : α → Store → Prop} {E E' : EX} (h : o.wp Q E) (hq : ∀ a S, Q a S → Q' a S) (he : ∀ c fs S, E c fs S → E' c fs S) : o.wp Q' E' := by
  cases o with
  | ok a S => exact ⟨hq _ _ h.run⟩
  | exc c fs S => exact ⟨he _ _ _ h.run⟩
  | stuck => exact h.run.elim
theorem Out.wp.conseq {o : Out α} {Q Q' : α → Store → Prop} {E : EX} (h : o.wp Q E) (hq : ∀ a S, Q a S → Q' a S) : o.wp Q' E := h.mono hq fun _ _ _ z => z
/-- no exception comes -/
theorem Out.wp.no {o : Out α} {Q Q' : α → Store → Prop} {E : EX} (h : o.wp Q fun _ _ _ => False) (hq : ∀ a S, Q a S → Q' a S) : o.wp Q' E := h.mono hq fun _ _ _ z => z.elim
@[simp] theorem wp_ok (a : α) : (Out.ok a S).wp Q E = Q a S := propext ⟨fun h => h.run, fun h => ⟨h⟩⟩
@[simp] theorem wp_exc (c : Str) (fs : List (Str × D)) : (Out.exc c fs S : Out α).wp Q E = E c fs S := propext ⟨fun h => h.run, fun h => ⟨h⟩⟩
@[simp] theorem wp_stuck : (Out.stuck : Out α).wp Q E = False := propext ⟨fun h => h.run, fun h => ⟨h⟩⟩
@[simp] theorem wp_bind (o : Out α) (f : α → Store → Out β) (Q : β → Store → Prop) : (o.bind f).wp Q E = o.wp (fun a S => (f a S).wp Q E) E := by cases o <;> simp
@[simp] theorem wp_lift (o : Option α) : (lift o S).wp Q E = ∃ a, o = some a ∧ Q a S := by cases o <;> simp [lift]
theorem wp_ite (c : Prop) [Decidable c] (a b : Out α) : (if c then a else b).wp Q E = if c then a.wp Q E else b.wp Q E := by split <;> rfl
@[simp] theorem wp_itestuck (c : Prop) [Decidable c] (a : Out α) : (if c then a else .stuck).wp Q E = (c ∧ a.wp Q E) := by split <;> simp_all
@[simp] theorem wpS_nx : (OutS.nx ρ S).wp k = k.nx ρ S := propext ⟨fun h => h.run, fun h => ⟨h⟩⟩
@[simp] theorem wpS_rt (d : D) : (OutS.rt d S).wp k = k.rt d S := propext ⟨fun h => h.run, fun h => ⟨h⟩⟩
@[simp] theorem wpS_bk : (OutS.bk ρ S).wp k = k.bk ρ S := propext ⟨fun h => h.run, fun h => ⟨h⟩⟩
@[simp] theorem wpS_ct : (OutS.ct ρ S).wp k = k.ct ρ S := propext ⟨fun h => h.run, fun h => ⟨h⟩⟩
@[simp] theorem wpS_exc (c : Str) (fs : List (Str × D)) : (OutS.exc c fs ρ S).wp k = k.ex c fs ρ S := propext ⟨fun h => h.run, fun h => ⟨h⟩⟩
@[simp] theorem wpS_stuck : OutS.stuck.wp k = False := propext ⟨fun h => h.run, fun h => ⟨h⟩⟩
@[simp] theorem wpS_toS (o : Out α) (f : α → Store → OutS) : (toS o ρ f).wp k = o.wp (fun a S => (f a S).wp k) (fun c fs S => k.ex c fs ρ S) := by cases o <;> simp [toS]
theorem wpS_mono {o : OutS} {k k' : KS} (h : o.wp k) (h1 : ∀ ρ S, k.nx ρ S → k'.nx ρ S) (h2 : ∀ d S, k.rt d S → k'.rt d S) (h3 : ∀ ρ S, k.bk ρ S → k'.bk ρ S) (h4 : ∀ ρ S, k.ct ρ S → k'.ct ρ S) (h5 : ∀ c fs ρ S, k.ex c fs ρ S → k'.ex c fs ρ S) : o.wp k' := by
  cases o with
  | nx ρ S => exact ⟨h1 _ _ h.run⟩
  | rt d S => exact ⟨h2 _ _ h.run⟩
  | bk ρ S => exact ⟨h3 _ _ h.run⟩
  | ct ρ S => exact ⟨h4 _ _ h.run⟩
  | exc c fs ρ S => exact ⟨h5 _ _ _ _ h.run⟩
  | stuck => exact h.run.elim
/-! statements: what is wanted behind stands under a name, so that it is looked at when it is its turn -/
def kEx (k : KS) (ρ : Env) : EX := fun c fs S => k.ex c fs ρ S
@[simp] theorem kEx_eq (c : Str) (fs : List (Str × D)) : kEx k ρ c fs S = k.ex c fs ρ S := rfl
def kSeq (h : SemS) (k : KS) : KS := { k with nx := fun ρ S => (h ρ S).wp k }
@[simp] theorem kSeq_nx (h : SemS) : (kSeq h k).nx ρ S = (h ρ S).wp k := rfl
@[simp] theorem kSeq_rt (h : SemS) : (kSeq h k).rt = k.rt := rfl
@[simp] theorem kSeq_bk (h : SemS) : (kSeq h k).bk = k.bk := rfl
@[simp] theorem kSeq_ct (h : SemS) : (kSeq h k).ct = k.ct := rfl
@[simp] theorem kSeq_ex (h : SemS) : (kSeq h k).ex = k.ex := rfl
@[simp] theorem kEx_seq (h : SemS) : kEx (kSeq h k) ρ = kEx k ρ := rfl
@[simp] theorem wp_sNext : (sNext ρ S).wp k = k.nx ρ S := wpS_nx
def kAsg (i : Nat) (ρ : Env) (k : KS) (d : D) (S : Store) : Prop := k.nx (ρ.set i (some d)) S
@[simp] theorem kAsg_eq (i : Nat) (d : D) : kAsg i ρ k d S = k.nx (ρ.set i (some d)) S := rfl
@[simp] theorem wp_sAsg (i : Nat) (f : SemE) : (sAsg i f ρ S).wp k = (f ρ S).wp (kAsg i ρ k) (kEx k ρ) := by
  simp only [sAsg, wpS_toS, wpS_nx]
  rfl
def kExp (ρ : Env) (k : KS) (_ : D) (S : Store) : Prop := k.nx ρ S
@[simp] theorem kExp_eq (d : D) : kExp ρ k d S = k.nx ρ S := rfl
@[simp] theorem wp_sExp (f : SemE) : (sExp f ρ S).wp k = (f ρ S).wp (kExp ρ k) (kEx k ρ) := by
  simp only [sExp, wpS_toS, wpS_nx]
  rfl
@[simp] theorem wp_sRet (f : SemE) : (sRet f ρ S).wp k = (f ρ S).wp k.rt (kEx k ρ) := by
  simp only [sRet, wpS_toS, wpS_rt]
  rfl
@[simp] theorem wp_sRetN : (sRetN ρ S).wp k = k.rt .non S := wpS_rt _
@[simp] theorem wp_sSeq (g h : SemS) : (sSeq g h ρ S).wp k = (g ρ S).wp (kSeq h k) := by
  unfold sSeq
  cases g ρ S <;> simp
theorem wpS_ite (c : Prop) [Decidable c] (a b : OutS) : (if c then a else b).wp k = if c then a.wp k else b.wp k := by split <;> rfl
def kIf (g h : SemS) (ρ : Env) (k : KS) (b : Bool) (S : Store) : Prop := if b then (g ρ S).wp k else (h ρ S).wp k
@[simp] theorem kIf_t (g h : SemS) : kIf g h ρ k true S = (g ρ S).wp k := rfl
@[simp] theorem kIf_f (g h : SemS) : kIf g h ρ k false S = (h ρ S).wp k := rfl
@[simp] theorem wp_sIf (t : SemT) (g h : SemS) : (sIf t g h ρ S).wp k = (t ρ S).wp (kIf g h ρ k) (kEx k ρ) := by
  simp only [sIf, wpS_toS, wpS_ite]
  rfl
def kAsgT (g : SemG) (ρ : Env) (k : KS) (d : D) (S : Store) : Prop := ∃ ρ1, g d ρ S = some ρ1 ∧ k.nx ρ1 S
@[simp] theorem kAsgT_eq (g : SemG) (d : D) : kAsgT g ρ k d S = ∃ ρ1, g d ρ S = some ρ1 ∧ k.nx ρ1 S := rfl
@[simp] theorem wp_sAsgT (g : SemG) (f : SemE) : (sAsgT g f ρ S).wp k = (f ρ S).wp (kAsgT g ρ k) (kEx k ρ) := by
  simp only [sAsgT, wpS_toS]
  congr 1
  funext d S1
  rw [kAsgT_eq]
  cases g d ρ S1 <;> simp
def kPar (i j : Nat) (ρ : Env) (k : KS) (ds : List D) (S : Store) : Prop := match ds with
  | [d, e] => k.nx ((ρ.set i (some d)).set j (some e)) S
  | _ => False
@[simp] theorem kPar_eq (i j : Nat) (d e : D) : kPar i j ρ k [d, e] S = k.nx ((ρ.set i (some d)).set j (some e)) S := rfl
@[simp] theorem wp_sPar (i j : Nat) (fa : SemA) : (sPar i j fa ρ S).wp k = (fa ρ S).wp (kPar i j ρ k) (kEx k ρ) := by
  simp only [sPar, wpS_toS]
  congr 1
  funext ds S1
  match ds with
  | [] => simp [kPar]
  | [_] => simp [kPar]
  | [d, e] => simp [kPar]
  | _ :: _ :: _ :: _ => simp [kPar]
def kAug (i : Nat) (op : Int → Int → Int) (a : Int) (ρ : Env) (k : KS) (d : D) (S : Store) : Prop := ∃ b, d = .int b ∧ k.nx (ρ.set i (some (.int (op a b)))) S
@[simp] theorem kAug_eq (i : Nat) (op : Int → Int → Int) (a : Int) (d : D) : kAug i op a ρ k d S = ∃ b, d = .int b ∧ k.nx (ρ.set i (some (.int (op a b)))) S := rfl
@[simp] theorem wp_sAug (i : Nat) (op : Int → Int → Int) (f : SemE) : (sAug i op f ρ S).wp k = ∃ a, ρ[i]? = some (some (.int a)) ∧ (f ρ S).wp (kAug i op a ρ k) (kEx k ρ) := by
  unfold sAug
  split
  · next a e =>
    simp only [wpS_toS]
    apply propext
    constructor
    · intro h
      refine ⟨a, by simp [e], h.conseq fun d S1 hd => ?_⟩
      cases d <;> simp_all
    · rintro ⟨a', e', h⟩
      rw [e] at e'
      cases e'
      refine h.conseq fun d S1 ⟨b, hb, hk⟩ => ?_
      subst hb
      simpa using hk
  · next hn =>
    simp only [wpS_stuck, false_iff, eq_iff_iff, not_exists, not_and]
    intro a e
    exact absurd e (hn a)
def kSI1 (fo fi : SemE) (ρ : Env) (k : KS) (y : D) (S : Store) : Prop := (fo ρ S).wp (fun x S2 => (fi ρ S2).wp (fun i S3 => ∃ S4, setC x i y S3 = some S4 ∧ k.nx ρ S4) (kEx k ρ)) (kEx k ρ)
def kSI2 (fi : SemE) (ρ : Env) (k : KS) (y x : D) (S : Store) : Prop := (fi ρ S).wp (fun i S3 => ∃ S4, setC x i y S3 = some S4 ∧ k.nx ρ S4) (kEx k ρ)
def kSI3 (ρ : Env) (k : KS) (y x i : D) (S : Store) : Prop := ∃ S4, setC x i y S = some S4 ∧ k.nx ρ S4
@[simp] theorem kSI1_eq (fo fi : SemE) (y : D) : kSI1 fo fi ρ k y S = (fo ρ S).wp (kSI2 fi ρ k y) (kEx k ρ) := rfl
@[simp] theorem kSI2_eq (fi : SemE) (y x : D) : kSI2 fi ρ k y x S = (fi ρ S).wp (kSI3 ρ k y x) (kEx k ρ) := rfl
@[simp] theorem kSI3_eq (y x i : D) : kSI3 ρ k y x i S = ∃ S4, setC x i y S = some S4 ∧ k.nx ρ S4 := rfl
@[simp] theorem wp_sSetI (fo fi fe : SemE) : (sSetI fo fi fe ρ S).wp k = (fe ρ S).wp (kSI1 fo fi ρ k) (kEx k ρ) := by
  simp only [sSetI, wpS_toS]
  congr 1
  funext y S1
  simp only [kSI1]
  congr 1
  funext x S2
  congr 1
  funext i S3
  cases setC x i y S3 <;> simp
def kDP1 (fo fi : SemE) (ρ : Env) (k : KS) (y : D) (S : Store) : Prop := (fo ρ S).wp (fun x S2 => (fi ρ S2).wp (fun i S3 => ∃ S4, dputC x i y S3 = some S4 ∧ k.nx ρ S4) (kEx k ρ)) (kEx k ρ)
def kDP2 (fi : SemE) (ρ : Env) (k : KS) (y x : D) (S : Store) : Prop := (fi ρ S).wp (fun i S3 => ∃ S4, dputC x i y S3 = some S4 ∧ k.nx ρ S4) (kEx k ρ)
def kDP3 (ρ : Env) (k : KS) (y x i : D) (S : Store) : Prop := ∃ S4, dputC x i y S = some S4 ∧ k.nx ρ S4
@[simp] theorem kDP1_eq (fo fi : SemE) (y : D) : kDP1 fo fi ρ k y S = (fo ρ S).wp (kDP2 fi ρ k y) (kEx k ρ) := rfl
@[simp] theorem kDP2_eq (fi : SemE) (y x : D) : kDP2 fi ρ k y x S = (fi ρ S).wp (kDP3 ρ k y x) (kEx k ρ) := rfl
@[simp] theorem kDP3_eq (y x i : D) : kDP3 ρ k y x i S = ∃ S4, dputC x i y S = some S4 ∧ k.nx ρ S4 := rfl
@[simp] theorem wp_sDPut (fo fi fe : SemE) : (sDPut fo fi fe ρ S).wp k = (fe ρ S).wp (kDP1 fo fi ρ k) (kEx k ρ) := by
  simp only [sDPut, wpS_toS]
  congr 1
  funext y S1
  simp only [kDP1]
  congr 1
  funext x S2
  congr 1
  funext i S3
  cases dputC x i y S3 <;> simp
/-! expressions -/
variable {f g h : SemE} {Q : D → Store → Prop} {x y d : D} {xs : List D} {b : Bool}
@[simp] theorem wp_eVar (i : Nat) : (eVar i ρ S).wp Q E = ∃ d, ρ[i]? = some (some d) ∧ Q d S := by
  unfold eVar
  split
  · next d e => simp only [wp_ok, e, Option.some.injEq, exists_eq_left']
  · next hn =>
    simp only [wp_stuck, eq_iff_iff, false_iff, not_exists, not_and]
    intro d e
    exact absurd e (hn d)
@[simp] theorem wp_eC (d : D) : (eC d ρ S).wp Q E = Q d S := wp_ok _
def kB1 {α : Type} (op : D → D → Store → Option α) (g : SemE) (ρ : Env) (Q : α → Store → Prop) (E : EX) (x : D) (S : Store) : Prop := (g ρ S).wp (fun y S2 => ∃ a, op x y S2 = some a ∧ Q a S2) E
def kB2 {α : Type} (op : D → D → Store → Option α) (x : D) (Q : α → Store → Prop) (y : D) (S : Store) : Prop := ∃ a, op x y S = some a ∧ Q a S
@[simp] theorem kB1_eq {α : Type} {Q : α → Store → Prop} (op : D → D → Store → Option α) : kB1 op g ρ Q E x S = (g ρ S).wp (kB2 op x Q) E := rfl
@[simp] theorem kB2_eq {α : Type} {Q : α → Store → Prop} (op : D → D → Store → Option α) : kB2 op x Q y S = ∃ a, op x y S = some a ∧ Q a S := rfl
@[simp] theorem wp_eBin {α : Type} {Q : α → Store → Prop} (op : D → D → Store → Option α) : (eBin op f g ρ S).wp Q E = (f ρ S).wp (kB1 op g ρ Q E) E := by
  simp only [eBin, wp_bind, wp_lift]
  rfl
def kU {α : Type} (op : D → Store → Option α) (Q : α → Store → Prop) (x : D) (S : Store) : Prop := ∃ a, op x S = some a ∧ Q a S
@[simp] theorem kU_eq {α : Type} {Q : α → Store → Prop} (op : D → Store → Option α) : kU op Q x S = ∃ a, op x S = some a ∧ Q a S := rfl
@[simp] theorem wp_eUn {α : Type} {Q : α → Store → Prop} (op : D → Store → Option α) : (eUn op f ρ S).wp Q E = (f ρ S).wp (kU op Q) E := by
  simp only [eUn, wp_bind, wp_lift]
  rfl
def kO {α : Type} (op : List D → Store → Option α) (Q : α → Store → Prop) (xs : List D) (S : Store) : Prop := ∃ a, op xs S = some a ∧ Q a S
@[simp] theorem kO_eq {α : Type} {Q : α → Store → Prop} (op : List D → Store → Option α) : kO op Q xs S = ∃ a, op xs S = some a ∧ Q a S := rfl
@[simp] theorem wp_eOps {α : Type} {Q : α → Store → Prop} (op : List D → Store → Option α) (fa : SemA) : (eOps op fa ρ S).wp Q E = (fa ρ S).wp (kO op Q) E := by
  simp only [eOps, wp_bind, wp_lift]
  rfl
@[simp] theorem wp_aNil {Q : List D → Store → Prop} : (aNil ρ S).wp Q E = Q [] S := wp_ok _
def kA1 (fa : SemA) (ρ : Env) (Q : List D → Store → Prop) (E : EX) (x : D) (S : Store) : Prop := (fa ρ S).wp (fun xs S2 => Q (x :: xs) S2) E
def kA2 (x : D) (Q : List D → Store → Prop) (xs : List D) (S : Store) : Prop := Q (x :: xs) S
@[simp] theorem kA1_eq (fa : SemA) {Q : List D → Store → Prop} : kA1 fa ρ Q E x S = (fa ρ S).wp (kA2 x Q) E := rfl
@[simp] theorem kA2_eq {Q : List D → Store → Prop} : kA2 x Q xs S = Q (x :: xs) S := rfl
@[simp] theorem wp_aCons (fa : SemA) {Q : List D → Store → Prop} : (aCons f fa ρ S).wp Q E = (f ρ S).wp (kA1 fa ρ Q E) E := by
  simp only [aCons, wp_bind, wp_ok]
  rfl
def kT (Q : D → Store → Prop) (xs : List D) (S : Store) : Prop := sz xs.length = true ∧ Q (.tup xs) S
@[simp] theorem kT_eq : kT Q xs S = (sz xs.length = true ∧ Q (.tup xs) S) := rfl
@[simp] theorem wp_eTup (fa : SemA) : (eTup fa ρ S).wp Q E = (fa ρ S).wp (kT Q) E := by
  simp only [eTup, wp_bind, wp_itestuck, wp_ok]
  rfl
def kD (Q : List D → Store → Prop) (xs : List D) (S : Store) : Prop := sz xs.length = true ∧ Q xs S
@[simp] theorem kD_eq {Q : List D → Store → Prop} : kD Q xs S = (sz xs.length = true ∧ Q xs S) := rfl
@[simp] theorem wp_lDisp (fa : SemA) {Q : List D → Store → Prop} : (lDisp fa ρ S).wp Q E = (fa ρ S).wp (kD Q) E := by
  simp only [lDisp, wp_bind, wp_itestuck, wp_ok]
  rfl
def kF (Q : D → Store → Prop) (xs : List D) (S : Store) : Prop := Q (.lst xs) S
@[simp] theorem kF_eq : kF Q xs S = Q (.lst xs) S := rfl
@[simp] theorem wp_frz (fa : SemA) : (frz fa ρ S).wp Q E = (fa ρ S).wp (kF Q) E := by
  simp only [frz, wp_bind, wp_ok]
  rfl
def kC (Q : D → Store → Prop) (xs : List D) (S : Store) : Prop := closedA S.length xs = true ∧ Q (.ref S.length) (S ++ [.lst true xs])
@[simp] theorem kC_eq : kC Q xs S = (closedA S.length xs = true ∧ Q (.ref S.length) (S ++ [.lst true xs])) := rfl
@[simp] theorem wp_cellL (fa : SemA) : (cellL fa ρ S).wp Q E = (fa ρ S).wp (kC Q) E := by
  simp only [cellL, wp_bind, wp_itestuck, wp_ok]
  rfl
@[simp] theorem wp_asB (d : D) {Q : Bool → Store → Prop} : (asB d S).wp Q E = ∃ b, d = .bl b ∧ Q b S := by cases d <;> simp [asB]
def kTB (Q : Bool → Store → Prop) (d : D) (S : Store) : Prop := ∃ b, d = .bl b ∧ Q b S
@[simp] theorem kTB_eq {Q : Bool → Store → Prop} : kTB Q d S = ∃ b, d = .bl b ∧ Q b S := rfl
@[simp] theorem wp_tOfE {Q : Bool → Store → Prop} : (tOfE f ρ S).wp Q E = (f ρ S).wp (kTB Q) E := by
  simp only [tOfE, wp_bind, wp_asB]
  rfl
def kAnd (u : SemT) (ρ : Env) (Q : Bool → Store → Prop) (E : EX) (b : Bool) (S : Store) : Prop := if b then (u ρ S).wp Q E else Q false S
@[simp] theorem kAnd_t (u : SemT) {Q : Bool → Store → Prop} : kAnd u ρ Q E true S = (u ρ S).wp Q E := rfl
@[simp] theorem kAnd_f (u : SemT) {Q : Bool → Store → Prop} : kAnd u ρ Q E false S = Q false S := rfl
@[simp] theorem wp_sAnd (t u : SemT) {Q : Bool → Store → Prop} : (sAnd t u ρ S).wp Q E = (t ρ S).wp (kAnd u ρ Q E) E := by
  simp only [sAnd, wp_bind, wp_ite, wp_ok]
  rfl
def kOr (u : SemT) (ρ : Env) (Q : Bool → Store → Prop) (E : EX) (b : Bool) (S : Store) : Prop := if b then Q true S else (u ρ S).wp Q E
@[simp] theorem kOr_t (u : SemT) {Q : Bool → Store → Prop} : kOr u ρ Q E true S = Q true S := rfl
@[simp] theorem kOr_f (u : SemT) {Q : Bool → Store → Prop} : kOr u ρ Q E false S = (u ρ S).wp Q E := rfl
@[simp] theorem wp_sOr (t u : SemT) {Q : Bool → Store → Prop} : (sOr t u ρ S).wp Q E = (t ρ S).wp (kOr u ρ Q E) E := by
  simp only [sOr, wp_bind, wp_ite, wp_ok]
  rfl
def kNot (Q : Bool → Store → Prop) (b : Bool) (S : Store) : Prop := Q (!b) S
@[simp] theorem kNot_eq {Q : Bool → Store → Prop} : kNot Q b S = Q (!b) S := rfl
@[simp] theorem wp_sNot (t : SemT) {Q : Bool → Store → Prop} : (sNot t ρ S).wp Q E = (t ρ S).wp (kNot Q) E := by
  simp only [sNot, wp_bind, wp_ok]
  rfl
def kVA (g : SemE) (ρ : Env) (Q : D → Store → Prop) (E : EX) (x : D) (S : Store) : Prop := match x with
  | .bl true => (g ρ S).wp Q E
  | .bl false => Q (.bl false) S
  | _ => False
@[simp] theorem kVA_t : kVA g ρ Q E (.bl true) S = (g ρ S).wp Q E := rfl
@[simp] theorem kVA_f : kVA g ρ Q E (.bl false) S = Q (.bl false) S := rfl
@[simp] theorem wp_vAnd : (vAnd f g ρ S).wp Q E = (f ρ S).wp (kVA g ρ Q E) E := by
  simp only [vAnd, wp_bind, wp_asB, wp_ite, wp_ok]
  congr 1
  funext x S1
  cases x with
  | bl b => cases b <;> simp
  | _ => simp [kVA]
def kVO (g : SemE) (ρ : Env) (Q : D → Store → Prop) (E : EX) (x : D) (S : Store) : Prop := match x with
  | .bl true => Q (.bl true) S
  | .bl false => (g ρ S).wp Q E
  | _ => False
@[simp] theorem kVO_t : kVO g ρ Q E (.bl true) S = Q (.bl true) S := rfl
@[simp] theorem kVO_f : kVO g ρ Q E (.bl false) S = (g ρ S).wp Q E := rfl
@[simp] theorem wp_vOr : (vOr f g ρ S).wp Q E = (f ρ S).wp (kVO g ρ Q E) E := by
  simp only [vOr, wp_bind, wp_asB, wp_ite, wp_ok]
  congr 1
  funext x S1
  cases x with
  | bl b => cases b <;> simp
  | _ => simp [kVO]
def kVN (Q : D → Store → Prop) (x : D) (S : Store) : Prop := ∃ b, x = .bl b ∧ Q (.bl (!b)) S
@[simp] theorem kVN_eq : kVN Q x S = ∃ b, x = .bl b ∧ Q (.bl (!b)) S := rfl
@[simp] theorem wp_vNot : (vNot f ρ S).wp Q E = (f ρ S).wp (kVN Q) E := by
  simp only [vNot, wp_bind, wp_asB, wp_ok]
  rfl
def kEI {α : Type} (f g : Env → Store → Out α) (ρ : Env) (Q : α → Store → Prop) (E : EX) (b : Bool) (S : Store) : Prop := if b then (f ρ S).wp Q E else (g ρ S).wp Q E
@[simp] theorem kEI_t {α : Type} {Q : α → Store → Prop} (f g : Env → Store → Out α) : kEI f g ρ Q E true S = (f ρ S).wp Q E := rfl
@[simp] theorem kEI_f {α : Type} {Q : α → Store → Prop} (f g : Env → Store → Out α) : kEI f g ρ Q E false S = (g ρ S).wp Q E := rfl
@[simp] theorem wp_eIf {α : Type} {Q : α → Store → Prop} (t : SemT) (f g : Env → Store → Out α) : (eIf t f g ρ S).wp Q E = (t ρ S).wp (kEI f g ρ Q E) E := by
  simp only [eIf, wp_bind, wp_ite]
  rfl
def kH1 (op op' : D → D → Store → Option D) (g h : SemE) (ρ : Env) (Q : D → Store → Prop) (E : EX) (x : D) (S : Store) : Prop := (g ρ S).wp (fun y S2 => ∃ z, op x y S2 = some z ∧ ∃ b, z = .bl b ∧ (if b then (h ρ S2).wp (fun w S5 => ∃ a, op' y w S5 = some a ∧ Q a S5) E else Q (.bl false) S2)) E
def kH2 (op op' : D → D → Store → Option D) (h : SemE) (ρ : Env) (Q : D → Store → Prop) (E : EX) (x y : D) (S : Store) : Prop := ∃ z, op x y S = some z ∧ ∃ b, z = .bl b ∧ (if b then (h ρ S).wp (kB2 op' y Q) E else Q (.bl false) S)
@[simp] theorem kH1_eq (op op' : D → D → Store → Option D) : kH1 op op' g h ρ Q E x S = (g ρ S).wp (kH2 op op' h ρ Q E x) E := rfl
@[simp] theorem kH2_eq (op op' : D → D → Store → Option D) : kH2 op op' h ρ Q E x y S = ∃ z, op x y S = some z ∧ ∃ b, z = .bl b ∧ (if b then (h ρ S).wp (kB2 op' y Q) E else Q (.bl false) S) := rfl
@[simp] theorem wp_eChain (op op' : D → D → Store → Option D) : (eChain op op' f g h ρ S).wp Q E = (f ρ S).wp (kH1 op op' g h ρ Q E) E := by
  simp only [eChain, wp_bind, wp_lift, wp_asB, wp_ite, wp_ok]
  rfl
@[simp] theorem wp_oNone {Q : Option Int → Store → Prop} : (oNone ρ S).wp Q E = Q none S := wp_ok _
def kOS (Q : Option Int → Store → Prop) (d : D) (S : Store) : Prop := ∃ i, d = .int i ∧ Q (some i) S
@[simp] theorem kOS_eq {Q : Option Int → Store → Prop} : kOS Q d S = ∃ i, d = .int i ∧ Q (some i) S := rfl
@[simp] theorem wp_oSome {Q : Option Int → Store → Prop} : (oSome f ρ S).wp Q E = (f ρ S).wp (kOS Q) E := by
  simp only [oSome, wp_bind]
  congr 1
  funext d S1
  cases d <;> simp [asI]
def kS1 {α : Type} (op : D → Option Int → Option Int → Store → Option α) (l u : SemO) (ρ : Env) (Q : α → Store → Prop) (E : EX) (x : D) (S : Store) : Prop := (l ρ S).wp (fun lo S2 => (u ρ S2).wp (fun hi S3 => ∃ a, op x lo hi S3 = some a ∧ Q a S3) E) E
def kS2 {α : Type} (op : D → Option Int → Option Int → Store → Option α) (u : SemO) (ρ : Env) (Q : α → Store → Prop) (E : EX) (x : D) (lo : Option Int) (S : Store) : Prop := (u ρ S).wp (fun hi S3 => ∃ a, op x lo hi S3 = some a ∧ Q a S3) E
def kS3 {α : Type} (op : D → Option Int → Option Int → Store → Option α) (Q : α → Store → Prop) (x : D) (lo hi : Option Int) (S : Store) : Prop := ∃ a, op x lo hi S = some a ∧ Q a S
@[simp] theorem kS1_eq {α : Type} {Q : α → Store → Prop} (op : D → Option Int → Option Int → Store → Option α) (l u : SemO) : kS1 op l u ρ Q E x S = (l ρ S).wp (kS2 op u ρ Q E x) E := rfl
@[simp] theorem kS2_eq {α : Type} {Q : α → Store → Prop} (op : D → Option Int → Option Int → Store → Option α) (u : SemO) (lo : Option Int) : kS2 op u ρ Q E x lo S = (u ρ S).wp (kS3 op Q x lo) E := rfl
@[simp] theorem kS3_eq {α : Type} {Q : α → Store → Prop} (op : D → Option Int → Option Int → Store → Option α) (lo hi : Option Int) : kS3 op Q x lo hi S = ∃ a, op x lo hi S = some a ∧ Q a S := rfl
@[simp] theorem wp_eSl {α : Type} {Q : α → Store → Prop} (op : D → Option Int → Option Int → Store → Option α) (l u : SemO) : (eSl op f l u ρ S).wp Q E = (f ρ S).wp (kS1 op l u ρ Q E) E := by
  simp only [eSl, wp_bind, wp_lift]
  rfl
def kCall (fs : FSem) (dd : List D) (Q : D → Store → Prop) (E : EX) (ds : List D) (S : Store) : Prop := (fs (ds ++ dd) S).wp Q E
@[simp] theorem kCall_eq (fs : FSem) (dd : List D) : kCall fs dd Q E xs S = (fs (xs ++ dd) S).wp Q E := rfl
@[simp] theorem wp_eCall (fs : FSem) (dd : List D) (fa : SemA) : (eCall fs dd fa ρ S).wp Q E = (fa ρ S).wp (kCall fs dd Q E) E := by
  simp only [eCall, wp_bind]
  rfl
def kFz (Q : D → Store → Prop) (E : EX) (d : D) (S : Store) : Prop := (fzO d S).wp Q E
@[simp] theorem kFz_eq : kFz Q E d S = (fzO d S).wp Q E := rfl
@[simp] theorem wp_eFz : (eFz f ρ S).wp Q E = (f ρ S).wp (kFz Q E) E := by
  simp only [eFz, wp_bind]
  rfl
def kAp1 (g : SemE) (ρ : Env) (Q : D → Store → Prop) (E : EX) (x : D) (S : Store) : Prop := isL S x = true ∧ (g ρ S).wp (fun y S2 => (appC x y S2).wp Q E) E
def kAp2 (Q : D → Store → Prop) (E : EX) (x y : D) (S : Store) : Prop := (appC x y S).wp Q E
@[simp] theorem kAp1_eq : kAp1 g ρ Q E x S = (isL S x = true ∧ (g ρ S).wp (kAp2 Q E x) E) := rfl
@[simp] theorem kAp2_eq : kAp2 Q E x y S = (appC x y S).wp Q E := rfl
@[simp] theorem wp_eApp : (eApp f g ρ S).wp Q E = (f ρ S).wp (kAp1 g ρ Q E) E := by
  simp only [eApp, wp_bind, wp_itestuck]
  rfl
def kEt1 (g : SemE) (ρ : Env) (Q : D → Store → Prop) (E : EX) (x : D) (S : Store) : Prop := isL S x = true ∧ (g ρ S).wp (fun y S2 => (extC x y S2).wp Q E) E
def kEt2 (Q : D → Store → Prop) (E : EX) (x y : D) (S : Store) : Prop := (extC x y S).wp Q E
@[simp] theorem kEt1_eq : kEt1 g ρ Q E x S = (isL S x = true ∧ (g ρ S).wp (kEt2 Q E x) E) := rfl
@[simp] theorem kEt2_eq : kEt2 Q E x y S = (extC x y S).wp Q E := rfl
@[simp] theorem wp_eExt : (eExt f g ρ S).wp Q E = (f ρ S).wp (kEt1 g ρ Q E) E := by
  simp only [eExt, wp_bind, wp_itestuck]
  rfl
def kIx1 (g : SemE) (ρ : Env) (Q : D → Store → Prop) (E : EX) (x : D) (S : Store) : Prop := isL S x = true ∧ (g ρ S).wp (fun y S2 => ∃ a, opIndex x y S2 = some a ∧ Q a S2) E
@[simp] theorem kIx1_eq : kIx1 g ρ Q E x S = (isL S x = true ∧ (g ρ S).wp (kB2 opIndex x Q) E) := rfl
@[simp] theorem wp_eIdx : (eIdx f g ρ S).wp Q E = (f ρ S).wp (kIx1 g ρ Q E) E := by
  simp only [eIdx, wp_bind, wp_itestuck, wp_lift]
  rfl
def kPop (Q : D → Store → Prop) (E : EX) (x : D) (S : Store) : Prop := (popC x S).wp Q E
@[simp] theorem kPop_eq : kPop Q E x S = (popC x S).wp Q E := rfl
@[simp] theorem wp_ePop : (ePop f ρ S).wp Q E = (f ρ S).wp (kPop Q E) E := by
  simp only [ePop, wp_bind]
  rfl
abbrev eNo : EX := fun _ _ _ => False
theorem wp_noX {α : Type} (o : Out α) {Q : α → Store → Prop} : (noX o).wp Q E = o.wp Q eNo := by cases o <;> simp [noX]
@[simp] theorem wp_pNil {Q : List (Key × D) → Store → Prop} : (pNil ρ S).wp Q E = Q [] S := wp_ok _
def kP1 (key : Key) (gp : SemP) (ρ : Env) (Q : List (Key × D) → Store → Prop) (E : EX) (x : D) (S : Store) : Prop := (gp ρ S).wp (fun xs S2 => Q ((key, x) :: xs) S2) E
def kP2 (key : Key) (x : D) (Q : List (Key × D) → Store → Prop) (kds : List (Key × D)) (S : Store) : Prop := Q ((key, x) :: kds) S
@[simp] theorem kP1_eq (key : Key) (gp : SemP) {Q : List (Key × D) → Store → Prop} : kP1 key gp ρ Q E x S = (gp ρ S).wp (kP2 key x Q) E := rfl
@[simp] theorem kP2_eq (key : Key) (kds : List (Key × D)) {Q : List (Key × D) → Store → Prop} : kP2 key x Q kds S = Q ((key, x) :: kds) S := rfl
@[simp] theorem wp_pCons (key : Key) (gp : SemP) {Q : List (Key × D) → Store → Prop} : (pCons key f gp ρ S).wp Q E = (f ρ S).wp (kP1 key gp ρ Q E) E := by
  simp only [pCons, wp_bind, wp_ok]
  rfl
@[simp] theorem wp_noXP (gp : SemP) {Q : List (Key × D) → Store → Prop} : (noXP gp ρ S).wp Q E = (gp ρ S).wp Q eNo := wp_noX _
def kDc (Q : D → Store → Prop) (kds : List (Key × D)) (S : Store) : Prop := kds.length ≤ 15 ∧ Q (.dct (mergeD kds)) S
@[simp] theorem kDc_eq (kds : List (Key × D)) : kDc Q kds S = (kds.length ≤ 15 ∧ Q (.dct (mergeD kds)) S) := rfl
@[simp] theorem wp_eDct (gp : SemP) : (eDct gp ρ S).wp Q E = (gp ρ S).wp (kDc Q) E := by
  simp only [eDct, wp_bind, wp_itestuck, wp_ok, decide_eq_true_eq]
  rfl
def kDcC (Q : D → Store → Prop) (kds : List (Key × D)) (S : Store) : Prop := (kds.length ≤ 15 ∧ closedV S.length (mergeD kds) = true) ∧ Q (.ref S.length) (S ++ [.dK (mergeD kds)])
@[simp] theorem kDcC_eq (kds : List (Key × D)) : kDcC Q kds S = ((kds.length ≤ 15 ∧ closedV S.length (mergeD kds) = true) ∧ Q (.ref S.length) (S ++ [.dK (mergeD kds)])) := rfl
@[simp] theorem wp_eDctC (gp : SemP) : (eDctC gp ρ S).wp Q E = (gp ρ S).wp (kDcC Q) E := by
  simp only [eDctC, wp_bind, wp_itestuck, wp_ok, Bool.and_eq_true, decide_eq_true_eq]
  rfl
def kIt (Q : List D → Store → Prop) (E : EX) (d : D) (S : Store) : Prop := (itOf d S).wp Q E
@[simp] theorem kIt_eq {Q : List D → Store → Prop} : kIt Q E d S = (itOf d S).wp Q E := rfl
@[simp] theorem wp_itSeq {Q : List D → Store → Prop} : (itSeq f ρ S).wp Q E = (f ρ S).wp (kIt Q E) E := by
  simp only [itSeq, wp_bind]
  rfl
def kR1 (Q : List D → Store → Prop) (ds : List D) (S : Store) : Prop := ∃ j, ds = [.int j] ∧ okR j = true ∧ Q (rng 0 j.toNat) S
@[simp] theorem kR1_eq {Q : List D → Store → Prop} : kR1 Q xs S = ∃ j, xs = [.int j] ∧ okR j = true ∧ Q (rng 0 j.toNat) S := rfl
@[simp] theorem wp_itR1 (fa : SemA) {Q : List D → Store → Prop} : (itR1 fa ρ S).wp Q E = (fa ρ S).wp (kR1 Q) E := by
  simp only [itR1, wp_bind]
  congr 1
  funext ds S1
  match ds with
  | [] => simp
  | [.int j] => simp
  | [.non] => simp
  | [.bl _] => simp
  | [.str _] => simp
  | [.tup _] => simp
  | [.lst _] => simp
  | [.dct _] => simp
  | [.ref _] => simp
  | [.scr _] => simp
  | [.exn _ _ _] => simp
  | _ :: _ :: _ => simp
def kR2 (Q : List D → Store → Prop) (ds : List D) (S : Store) : Prop := match ds with
  | [.int i, .int j] => (okR i = true ∧ okR j = true) ∧ Q (rng i (j - i).toNat) S
  | _ => False
@[simp] theorem kR2_eq {Q : List D → Store → Prop} (i j : Int) : kR2 Q [.int i, .int j] S = ((okR i = true ∧ okR j = true) ∧ Q (rng i (j - i).toNat) S) := rfl
@[simp] theorem wp_itR2 (fa : SemA) {Q : List D → Store → Prop} : (itR2 fa ρ S).wp Q E = (fa ρ S).wp (kR2 Q) E := by
  simp only [itR2, wp_bind]
  congr 1
  funext ds S1
  unfold kR2
  split <;> simp
def kZip (Q : List D → Store → Prop) (ds : List D) (S : Store) : Prop := match ds with
  | [.lst xs, .lst ys] => Q (zipL xs ys) S
  | [.tup xs, .tup ys] => Q (zipL xs ys) S
  | [.lst xs, .tup ys] => Q (zipL xs ys) S
  | [.tup xs, .lst ys] => Q (zipL xs ys) S
  | _ => False
@[simp] theorem kZip_lt {Q : List D → Store → Prop} (xs ys : List D) : kZip Q [.lst xs, .tup ys] S = Q (zipL xs ys) S := rfl
@[simp] theorem kZip_tl {Q : List D → Store → Prop} (xs ys : List D) : kZip Q [.tup xs, .lst ys] S = Q (zipL xs ys) S := rfl
@[simp] theorem kZip_l {Q : List D → Store → Prop} (xs ys : List D) : kZip Q [.lst xs, .lst ys] S = Q (zipL xs ys) S := rfl
@[simp] theorem kZip_t {Q : List D → Store → Prop} (xs ys : List D) : kZip Q [.tup xs, .tup ys] S = Q (zipL xs ys) S := rfl
@[simp] theorem wp_itZip (fa : SemA) {Q : List D → Store → Prop} : (itZip fa ρ S).wp Q E = (fa ρ S).wp (kZip Q) E := by
  simp only [itZip, wp_bind]
  congr 1
  funext ds S1
  unfold kZip
  split <;> simp
def kEn (Q : List D → Store → Prop) (ds : List D) (S : Store) : Prop := match ds with
  | [.lst xs] => Q (enumL xs) S
  | [.tup xs] => Q (enumL xs) S
  | _ => False
@[simp] theorem kEn_l {Q : List D → Store → Prop} (xs : List D) : kEn Q [.lst xs] S = Q (enumL xs) S := rfl
@[simp] theorem kEn_t {Q : List D → Store → Prop} (xs : List D) : kEn Q [.tup xs] S = Q (enumL xs) S := rfl
@[simp] theorem wp_itEnum (fa : SemA) {Q : List D → Store → Prop} : (itEnum fa ρ S).wp Q E = (fa ρ S).wp (kEn Q) E := by
  simp only [itEnum, wp_bind]
  congr 1
  funext ds S1
  unfold kEn
  split <;> simp
def kLC (gg : SemG) (t : SemT) (e : SemE) (ρ : Env) (Q : List D → Store → Prop) (E : EX) (xs : List D) (S : Store) : Prop := (compGo (compStep gg t e ρ) xs [] S).wp Q E
@[simp] theorem kLC_eq (gg : SemG) (t : SemT) (e : SemE) {Q : List D → Store → Prop} : kLC gg t e ρ Q E xs S = (compGo (compStep gg t e ρ) xs [] S).wp Q E := rfl
@[simp] theorem wp_lComp (it : SemA) (g : SemG) (t : SemT) (e : SemE) (vs : List Nat) {Q : List D → Store → Prop} : (lComp it g t e vs ρ S).wp Q E = (it ρ S).wp (kLC g t e (wipeD ρ vs) Q E) E := by
  simp only [lComp, wp_bind]
  rfl
def forB (g : SemG) (b : SemS) : D → Env → Store → OutS := fun x ρ S => match g x ρ S with
  | some ρ1 => b ρ1 S
  | none => .stuck
@[simp] theorem wp_forB (g : SemG) (b : SemS) (x : D) : (forB g b x ρ S).wp k = ∃ ρ1, g x ρ S = some ρ1 ∧ (b ρ1 S).wp k := by
  unfold forB
  cases g x ρ S <;> simp
def kFor (gg : SemG) (bb : SemS) (ρ : Env) (k : KS) (xs : List D) (S : Store) : Prop := (forL (forB gg bb) xs ρ S).wp k
@[simp] theorem kFor_eq (gg : SemG) (bb : SemS) : kFor gg bb ρ k xs S = (forL (forB gg bb) xs ρ S).wp k := rfl
@[simp] theorem wp_sFor (it : SemA) (g : SemG) (b : SemS) : (sFor it g b ρ S).wp k = (it ρ S).wp (kFor g b ρ k) (kEx k ρ) := by
  unfold sFor
  rw [wpS_toS]
  rfl
@[simp] theorem gN_eq (i : Nat) (d : D) : gN i d ρ S = some (ρ.set i (some d)) := rfl
/-! ### defs -/
def gcQ (n : Nat) (Q : D → Store → Prop) (d : D) (S : Store) : Prop := if closed n d then Q d (S.take n) else Q d S
def gcE (n : Nat) (E : EX) : EX := fun c fs S => if closedV n fs then E c fs (S.take n) else E c fs S
def KS.fn (n : Nat) (Q : D → Store → Prop) (E : EX) : KS := ⟨fun _ S => Q .non (S.take n), gcQ n Q, fun _ _ => False, fun _ _ => False, fun c fs _ S => gcE n E c fs S⟩
@[simp] theorem fn_nx (n : Nat) (Q : D → Store → Prop) (E : EX) : (KS.fn n Q E).nx ρ S = Q .non (S.take n) := rfl
@[simp] theorem fn_rt (n : Nat) (Q : D → Store → Prop) (E : EX) (d : D) : (KS.fn n Q E).rt d S = gcQ n Q d S := rfl
@[simp] theorem fn_bk (n : Nat) (Q : D → Store → Prop) (E : EX) : (KS.fn n Q E).bk ρ S = False := rfl
@[simp] theorem fn_ct (n : Nat) (Q : D → Store → Prop) (E : EX) : (KS.fn n Q E).ct ρ S = False := rfl
@[simp] theorem fn_ex (n : Nat) (Q : D → Store → Prop) (E : EX) (c : Str) (fs : List (Str × D)) : (KS.fn n Q E).ex c fs ρ S = gcE n E c fs S := rfl
theorem wp_fnD (n : Nat) (b : SemS) (ds : List D) : (fnD n b ds S).wp Q E = (b (startD n ds) S).wp (KS.fn S.length Q E) := by
  unfold fnD
  cases b (startD n ds) S with
  | nx ρ S1 => simp [endOf, gc, closed]
  | rt d S1 =>
    simp only [endOf, gc, wpS_rt, fn_rt, gcQ]
    split <;> simp
  | bk ρ S1 => simp [endOf, gc]
  | ct ρ S1 => simp [endOf, gc]
  | exc c fs ρ S1 =>
    simp only [endOf, gc, wpS_exc, fn_ex, gcE]
    split <;> simp
  | stuck => simp [endOf, gc]
theorem gcQ_cl {n : Nat} {d : D} (hc : closed n d = true) (h : Q d (S.take n)) : gcQ n Q d S := by
  unfold gcQ
  rw [if_pos hc]
  exact h
theorem rt_cl {n : Nat} {d : D} (hc : closed n d = true) (h : Q d (S.take n)) : (KS.fn n Q E).rt d S := gcQ_cl hc h
/-! ### loops -/
theorem wp_forL {b : D → Env → Store → OutS} {xs : List D} (I : List D → Env → Store → Prop) (h0 : I xs ρ S)
    (hs : ∀ x xs ρ S, I (x :: xs) ρ S → (b x ρ S).wp ⟨I xs, k.rt, k.nx, I xs, k.ex⟩) (hd : ∀ ρ S, I [] ρ S → k.nx ρ S) : (forL b xs ρ S).wp k := by
  induction xs generalizing ρ S with
  | nil => exact ⟨hd _ _ h0⟩
  | cons x xs ih =>
    have h1 := (hs x xs ρ S h0).run
    unfold forL
    cases e : b x ρ S with
    | nx ρ1 S1 => rw [e] at h1; exact ih h1
    | ct ρ1 S1 => rw [e] at h1; exact ih h1
    | bk ρ1 S1 => rw [e] at h1; exact ⟨h1⟩
    | rt d S1 => rw [e] at h1; exact ⟨h1⟩
    | exc c fs ρ1 S1 => rw [e] at h1; exact ⟨h1⟩
    | stuck => rw [e] at h1; exact h1.elim
theorem wp_whileN {t : SemT} {b : SemS} (I : Nat → Env → Store → Prop)
    (hs : ∀ n ρ S, I n ρ S → (t ρ S).wp (fun c S1 => if c then (b ρ S1).wp ⟨fun ρ' S' => ∃ m, m < n ∧ I m ρ' S', k.rt, k.nx, fun ρ' S' => ∃ m, m < n ∧ I m ρ' S', k.ex⟩ else k.nx ρ S1) (fun c fs S => k.ex c fs ρ S)) :
    ∀ (n : Nat) (ρ : Env) (S : Store), I n ρ S → ∃ N, (whileN t b N ρ S).wp k := by
  intro n
  induction n using Nat.strongRecOn with
  | ind n ih =>
    intro ρ S h
    have h1 := (hs n ρ S h).run
    cases e : t ρ S with
    | stuck => rw [e] at h1; exact h1.elim
    | exc c fs S1 =>
      rw [e] at h1
      refine ⟨1, ?_⟩
      unfold whileN
      rw [e]
      exact ⟨h1⟩
    | ok c S1 =>
      rw [e] at h1
      simp only at h1
      cases c with
      | false =>
        refine ⟨1, ?_⟩
        unfold whileN
        rw [e]
        exact ⟨h1⟩
      | true =>
        simp only [if_true] at h1
        have h1 := h1.run
        cases e2 : b ρ S1 with
        | nx ρ1 S2 =>
          rw [e2] at h1
          obtain ⟨m, hm, hI⟩ := h1
          obtain ⟨N, hN⟩ := ih m hm ρ1 S2 hI
          refine ⟨N + 1, ?_⟩
          unfold whileN
          rw [e]
          simp only [toS, if_true, e2]
          exact hN
        | ct ρ1 S2 =>
          rw [e2] at h1
          obtain ⟨m, hm, hI⟩ := h1
          obtain ⟨N, hN⟩ := ih m hm ρ1 S2 hI
          refine ⟨N + 1, ?_⟩
          unfold whileN
          rw [e]
          simp only [toS, if_true, e2]
          exact hN
        | bk ρ1 S2 =>
          rw [e2] at h1
          refine ⟨1, ?_⟩
          unfold whileN
          rw [e]
          simp only [toS, if_true, e2]
          exact ⟨h1⟩
        | rt d S2 =>
          rw [e2] at h1
          refine ⟨1, ?_⟩
          unfold whileN
          rw [e]
          simp only [toS, if_true, e2]
          exact ⟨h1⟩
        | exc c fs ρ1 S2 =>
          rw [e2] at h1
          refine ⟨1, ?_⟩
          unfold whileN
          rw [e]
          simp only [toS, if_true, e2]
          exact ⟨h1⟩
        | stuck => rw [e2] at h1; exact h1.elim
theorem wp_sWhile {t : SemT} {b : SemS} (I : Nat → Env → Store → Prop) (n : Nat) (h0 : I n ρ S)
    (hs : ∀ n ρ S, I n ρ S → (t ρ S).wp (fun c S1 => if c then (b ρ S1).wp ⟨fun ρ' S' => ∃ m, m < n ∧ I m ρ' S', k.rt, k.nx, fun ρ' S' => ∃ m, m < n ∧ I m ρ' S', k.ex⟩ else k.nx ρ S1) (fun c fs S => k.ex c fs ρ S)) : (sWhile t b ρ S).wp k := by
  obtain ⟨N, hN⟩ := wp_whileN I hs n ρ S h0
  rw [sWhile_eq rfl (fun z => by rw [z] at hN; exact hN.run)]
  exact hN
theorem wp_compGo {F : D → Store → Out (Option D)} {Q : List D → Store → Prop} (I : List D → List D → Store → Prop) {xs acc : List D} (h0 : I xs acc S)
    (hs : ∀ x xs acc S, I (x :: xs) acc S → (F x S).wp (fun o S' => match o with | some y => sz acc.length = true ∧ I xs (acc ++ [y]) S' | none => I xs acc S') E) (hd : ∀ acc S, I [] acc S → Q acc S) : (compGo F xs acc S).wp Q E := by
  induction xs generalizing acc S with
  | nil => exact ⟨hd _ _ h0⟩
  | cons x xs ih =>
    have h1 := hs x xs acc S h0
    unfold compGo
    rw [wp_bind]
    refine h1.conseq fun o S' ho => ?_
    cases o with
    | some y =>
      simp only [wp_itestuck]
      exact ⟨ho.1, ih ho.2⟩
    | none => exact ih ho
/-- a pure map -/
theorem compGo_map {F : D → Store → Out (Option D)} {h : D → D} {S : Store} : ∀ {xs acc : List D}, (∀ x ∈ xs, F x S = .ok (some (h x)) S) → acc.length + xs.length ≤ 4000000 → compGo F xs acc S = .ok (acc ++ xs.map h) S
  | [], acc, _, _ => by simp [compGo]
  | x :: xs, acc, hF, hl => by
    unfold compGo
    rw [hF x List.mem_cons_self]
    simp only [Out.ok_bind]
    rw [if_pos (show sz acc.length = true by simp [sz]; simp at hl; omega), compGo_map (fun y hy => hF y (List.mem_cons_of_mem _ hy)) (by simp at hl ⊢; omega)]
    simp
/-- a pure map with a test -/
theorem compGo_filter {F : D → Store → Out (Option D)} {p : D → Bool} {h : D → D} {S : Store} : ∀ {xs acc : List D}, (∀ x ∈ xs, F x S = .ok (if p x then some (h x) else none) S) → acc.length + xs.length ≤ 4000000 → compGo F xs acc S = .ok (acc ++ (xs.filter p).map h) S
  | [], acc, _, _ => by simp [compGo]
  | x :: xs, acc, hF, hl => by
    unfold compGo
    rw [hF x List.mem_cons_self]
    simp only [Out.ok_bind]
    cases e : p x with
    | true =>
      simp only [if_true]
      rw [if_pos (show sz acc.length = true by simp [sz]; simp at hl; omega), compGo_filter (fun y hy => hF y (List.mem_cons_of_mem _ hy)) (by simp at hl ⊢; omega)]
      simp [e]
    | false =>
      simp only [Bool.false_eq_true, if_false]
      rw [compGo_filter (fun y hy => hF y (List.mem_cons_of_mem _ hy)) (by simp at hl ⊢; omega)]
      simp [e]
def kCs (e : SemE) (ρ : Env) (Q : Option D → Store → Prop) (b : Bool) (S : Store) : Prop := if b then (e ρ S).wp (fun y S3 => Q (some y) S3) eNo else Q none S
def kCv (Q : Option D → Store → Prop) (y : D) (S : Store) : Prop := Q (some y) S
@[simp] theorem kCs_t (e : SemE) {Q : Option D → Store → Prop} : kCs e ρ Q true S = (e ρ S).wp (kCv Q) eNo := rfl
@[simp] theorem kCs_f (e : SemE) {Q : Option D → Store → Prop} : kCs e ρ Q false S = Q none S := rfl
@[simp] theorem kCv_eq {Q : Option D → Store → Prop} : kCv Q y S = Q (some y) S := rfl
@[simp] theorem wp_compStep (gg : SemG) (t : SemT) (e : SemE) (ρ : Env) (x : D) {Q : Option D → Store → Prop} : (compStep gg t e ρ x S).wp Q E = ∃ ρ1, gg x ρ S = some ρ1 ∧ (t ρ1 S).wp (kCs e ρ1 Q) eNo := by
  unfold compStep
  cases gg x ρ S with
  | none => simp
  | some ρ1 =>
    simp only [wp_bind, wp_noX, Option.some.injEq, exists_eq_left', wp_ite, wp_ok]
    rfl
@[simp] theorem wp_sYes {Q : Bool → Store → Prop} : (sYes ρ S).wp Q E = Q true S := wp_ok _
/-! ### exceptions -/
def kTry (tbl : XTbl) (hds : List (Str × Option Nat × SemS)) (k : KS) : KS := { k with ex := fun c fs ρ S => ∃ anc, tbl.at c = some anc ∧ (goH c fs anc hds ρ S).wp k }
@[simp] theorem kTry_nx (tbl : XTbl) (hds : List (Str × Option Nat × SemS)) : (kTry tbl hds k).nx = k.nx := rfl
@[simp] theorem kTry_rt (tbl : XTbl) (hds : List (Str × Option Nat × SemS)) : (kTry tbl hds k).rt = k.rt := rfl
@[simp] theorem kTry_bk (tbl : XTbl) (hds : List (Str × Option Nat × SemS)) : (kTry tbl hds k).bk = k.bk := rfl
@[simp] theorem kTry_ct (tbl : XTbl) (hds : List (Str × Option Nat × SemS)) : (kTry tbl hds k).ct = k.ct := rfl
@[simp] theorem kTry_ex (tbl : XTbl) (hds : List (Str × Option Nat × SemS)) (c : Str) (fs : List (Str × D)) : (kTry tbl hds k).ex c fs ρ S = ∃ anc, tbl.at c = some anc ∧ (goH c fs anc hds ρ S).wp k := rfl
@[simp] theorem wp_sTry (tbl : XTbl) (b : SemS) (hds : List (Str × Option Nat × SemS)) : (sTry tbl b hds ρ S).wp k = (b ρ S).wp (kTry tbl hds k) := by
  unfold sTry
  cases b ρ S with
  | exc c fs ρ1 S1 => cases h : tbl.at c <;> simp [h]
  | _ => simp
def kHd (i : Option Nat) (k : KS) : KS := ⟨fun ρ S => k.nx (unE i ρ) S, k.rt, fun ρ S => k.bk (unE i ρ) S, fun ρ S => k.ct (unE i ρ) S, fun _ _ _ _ => False⟩
@[simp] theorem kHd_nx (i : Option Nat) : (kHd i k).nx ρ S = k.nx (unE i ρ) S := rfl
@[simp] theorem kHd_rt (i : Option Nat) : (kHd i k).rt = k.rt := rfl
@[simp] theorem kHd_bk (i : Option Nat) : (kHd i k).bk ρ S = k.bk (unE i ρ) S := rfl
@[simp] theorem kHd_ct (i : Option Nat) : (kHd i k).ct ρ S = k.ct (unE i ρ) S := rfl
@[simp] theorem kHd_ex (i : Option Nat) (c : Str) (fs : List (Str × D)) : (kHd i k).ex c fs ρ S = False := rfl
@[simp] theorem unE_some (i : Nat) : unE (some i) ρ = ρ.set i none := rfl
@[simp] theorem unE_none : unE none ρ = ρ := rfl
@[simp] theorem inE_some (i : Nat) (d : D) : inE (some i) d ρ = ρ.set i (some d) := rfl
@[simp] theorem inE_none (d : D) : inE none d ρ = ρ := rfl
@[simp] theorem wp_goH_nil (c : Str) (fs : List (Str × D)) (anc : List Str) : (goH c fs anc [] ρ S).wp k = k.ex c fs ρ S := by
  unfold goH
  exact wpS_exc _ _
theorem wp_goH_yes (c : Str) (fs : List (Str × D)) (anc : List Str) (x : Str) (i : Option Nat) (g : SemS) (r : List (Str × Option Nat × SemS)) (h : anc.contains x = true) : (goH c fs anc ((x, i, g) :: r) ρ S).wp k = (g (inE i (caught c fs) ρ) S).wp (kHd i k) := by
  unfold goH
  rw [if_pos h]
  cases g (inE i (caught c fs) ρ) S <;> simp [hEnd]
theorem wp_goH_no (c : Str) (fs : List (Str × D)) (anc : List Str) (x : Str) (i : Option Nat) (g : SemS) (r : List (Str × Option Nat × SemS)) (h : anc.contains x = false) : (goH c fs anc ((x, i, g) :: r) ρ S).wp k = (goH c fs anc r ρ S).wp k := by
  conv => lhs; unfold goH
  rw [if_neg (by rw [h]; simp)]
def kRs (c : Str) (fl : List Str) (ρ : Env) (k : KS) (ds : List D) (S : Store) : Prop := ds.length = fl.length ∧ k.ex c (fl.zip ds) ρ S
@[simp] theorem kRs_eq (c : Str) (fl : List Str) (ds : List D) : kRs c fl ρ k ds S = (ds.length = fl.length ∧ k.ex c (fl.zip ds) ρ S) := rfl
@[simp] theorem wp_sRaise (c : Str) (fl : List Str) (fa : SemA) : (sRaise c fl fa ρ S).wp k = (fa ρ S).wp (kRs c fl ρ k) (kEx k ρ) := by
  simp only [sRaise, wpS_toS, wpS_ite, wpS_exc, wpS_stuck]
  congr 1
  funext ds S1
  simp
theorem gcE_cl {n : Nat} {c : Str} {fs : List (Str × D)} (hc : closedV n fs = true) (h : E c fs (S.take n)) : gcE n E c fs S := by
  unfold gcE
  rw [if_pos hc]
  exact h
end
end Fk

set_option Elab.async false
set_option linter.all false
set_option maxRecDepth 100000
namespace Fk
open PySem PySem.Spec PyProof.Rows L2
section
variable {S : Store} {P : D → Prop} {i j : Int} {xs ys : List D}
/-! ### operations on known values: what they ask, what they give -/
@[simp] theorem dr_int : dr S (.int i) = .int i := rfl
@[simp] theorem dr_bl {b : Bool} : dr S (.bl b) = .bl b := rfl
@[simp] theorem dr_non : dr S .non = .non := rfl
@[simp] theorem dr_str {x : Str} : dr S (.str x) = .str x := rfl
@[simp] theorem dr_tup : dr S (.tup xs) = .tup xs := rfl
@[simp] theorem dr_lst : dr S (.lst xs) = .lst xs := rfl
@[simp] theorem dr_dct {kvs : List (Key × D)} : dr S (.dct kvs) = .dct kvs := rfl
@[simp] theorem dr_scr : dr S (.scr xs) = .scr xs := rfl
@[simp] theorem add_int : opAddA (.int i) (.int j) S = some (.int (i + j)) := rfl
@[simp] theorem sub_int : opSubA (.int i) (.int j) S = some (.int (i - j)) := rfl
@[simp] theorem neg_int : opNeg (.int i) S = some (.int (-i)) := rfl
@[simp] theorem lt_int : opLt (.int i) (.int j) S = some (.bl (decide (i < j))) := rfl
@[simp] theorem le_int : opLe (.int i) (.int j) S = some (.bl (decide (i ≤ j))) := rfl
@[simp] theorem gt_int : opGt (.int i) (.int j) S = some (.bl (decide (j < i))) := rfl
@[simp] theorem ge_int : opGe (.int i) (.int j) S = some (.bl (decide (j ≤ i))) := rfl
@[simp] theorem int_int : Fk.intD [.int i] S = some (.int i) := rfl
@[simp] theorem int_bl {b : Bool} : Fk.intD [.bl b] S = some (.int (if b then 1 else 0)) := rfl
@[simp] theorem abs_int : absDA [.int i] S = some (.int (if i < 0 then -i else i)) := rfl
@[simp] theorem len_lst : lenD [.lst xs] S = some (.int xs.length) := rfl
@[simp] theorem len_tup : lenD [.tup xs] S = some (.int xs.length) := rfl
@[simp] theorem tup_lst : tupD [.lst xs] S = some (.tup xs) := rfl
@[simp] theorem tup_tup : tupD [.tup xs] S = some (.tup xs) := rfl
@[simp] theorem lst_lst : lstD [.lst xs] S = some xs := rfl
@[simp] theorem lst_tup : lstD [.tup xs] S = some xs := rfl
@[simp] theorem isN_eq (d : D) : opIsN d .non S = some (.bl (isNon d)) := rfl
@[simp] theorem notN_eq (d : D) : opNotN d .non S = some (.bl (!isNon d)) := rfl
@[simp] theorem isNon_non : isNon .non = true := rfl
@[simp] theorem isNon_int : isNon (.int i) = false := rfl
@[simp] theorem isNon_tup : isNon (.tup xs) = false := rfl
@[simp] theorem isNon_lst : isNon (.lst xs) = false := rfl
@[simp] theorem isNon_bl {b : Bool} : isNon (.bl b) = false := rfl
@[simp] theorem it_lst : itOf (.lst xs) S = .ok xs S := rfl
@[simp] theorem it_tup : itOf (.tup xs) S = .ok xs S := rfl
@[simp] theorem it_scr : itOf (.scr xs) S = .ok xs S := rfl
@[simp] theorem ex_mulI : (∃ a, opMulA (.int i) (.int j) S = some a ∧ P a) = (mulOk i j = true ∧ P (.int (i * j))) := by
  unfold opMulA orO opMul
  by_cases h : mulOk i j = true
  · simp [h, orO, opMul]
  · simp [h, orO, opMul, opMul0, opMulB]
@[simp] theorem ex_div : (∃ a, opDiv (.int i) (.int j) S = some a ∧ P a) = (divOk j = true ∧ P (.int (i / j))) := by
  unfold opDiv
  by_cases h : divOk j = true <;> simp [h]
@[simp] theorem ex_mod : (∃ a, opMod (.int i) (.int j) S = some a ∧ P a) = (0 < j ∧ P (.int (i % j))) := by
  unfold opMod
  by_cases h : 0 < j <;> simp [h]
@[simp] theorem ex_pow : (∃ a, opPow (.int i) (.int j) S = some a ∧ P a) = (powOk i j = true ∧ P (.int (i ^ j.toNat))) := by
  unfold opPow
  by_cases h : powOk i j = true <;> simp [h]
@[simp] theorem ex_addT : (∃ a, opAddA (.tup xs) (.tup ys) S = some a ∧ P a) = (sz (xs.length + ys.length) = true ∧ P (.tup (xs ++ ys))) := by
  unfold opAddA orO opAdd
  simp only [dr_tup]
  by_cases h : sz (xs.length + ys.length) = true <;> simp [h, opAddB]
@[simp] theorem ex_addL : (∃ a, opAddA (.lst xs) (.lst ys) S = some a ∧ P a) = (sz (xs.length + ys.length) = true ∧ P (.lst (xs ++ ys))) := by
  unfold opAddA orO opAdd
  simp only [dr_lst]
  by_cases h : sz (xs.length + ys.length) = true <;> simp [h, opAddB]
theorem shaped_int : SeqAt.shaped (.int i) = true := by simp [SeqAt.shaped, PyData.canLay0, PyData.depth]
theorem shaped_bl {b : Bool} : SeqAt.shaped (.bool b) = true := by simp [SeqAt.shaped, PyData.canLay0, PyData.depth]
theorem shaped_str {x : Str} (h : PyData.strOk x = true) : SeqAt.shaped (.str x) = true := by simp [SeqAt.shaped, PyData.canLay0, PyData.depth, h]
theorem eqA_of {d e : D} (h : opEqS d e S = none) : opEqA d e S = opEq d e S := by unfold opEqA orO; rw [h]
theorem neA_of {d e : D} (h : opNeS d e S = none) : opNeA d e S = opNe d e S := by unfold opNeA orO; rw [h]
@[simp] theorem eq_int : opEqA (.int i) (.int j) S = some (.bl (decide (i = j))) := by
  rw [eqA_of rfl]
  simp [opEq, eqD, dat, shaped_int, PyData.eqv]
  by_cases h : i = j <;> simp [h]
@[simp] theorem ne_int : opNeA (.int i) (.int j) S = some (.bl (!decide (i = j))) := by
  rw [neA_of rfl]
  simp [opNe, neD, dat, shaped_int, PyData.eqv]
  by_cases h : i = j <;> simp [h]
@[simp] theorem eq_str {x y : Str} : opEqA (.str x) (.str y) S = some (.bl (decide (x = y))) := rfl
@[simp] theorem ne_str {x y : Str} : opNeA (.str x) (.str y) S = some (.bl (!decide (x = y))) := rfl
@[simp] theorem eq_tup0 : opEqA (.tup xs) (.tup []) S = some (.bl xs.isEmpty) := rfl
theorem mulOk_of {i j : Int} (a b : Nat) (hi : i.natAbs < 2 ^ a) (hj : j.natAbs < 2 ^ b) (h : a + b ≤ 1000000) : mulOk i j = true := by
  have l : ∀ {n k : Nat}, n < 2 ^ k → n.log2 ≤ k := fun {n k} hn => by
    by_cases h0 : n = 0
    · subst h0
      simp
    · exact Nat.le_of_lt ((Nat.log2_lt h0).mpr hn)
  have l2 : ∀ {n k : Nat}, n < 2 ^ k → n.log2 < k ∨ k = 0 ∨ n = 0 := fun {n k} hn => by
    by_cases h0 : n = 0
    · exact .inr (.inr h0)
    · exact .inl ((Nat.log2_lt h0).mpr hn)
  simp only [mulOk, decide_eq_true_eq]
  have h1 := l hi
  have h2 := l hj
  rcases l2 hi with q | q | q
  · omega
  · subst q
    have : i.natAbs = 0 := by simpa using hi
    rw [this]
    rcases l2 hj with q | q | q
    · simp; omega
    · simp; omega
    · rw [q]; simp
  · rw [q]
    rcases l2 hj with q | q | q
    · simp; omega
    · subst q
      have : j.natAbs = 0 := by simpa using hj
      rw [this]
      simp
    · rw [q]; simp
@[simp] theorem pow1018 : powOk 10 18 = true := by decide
@[simp] theorem pow1020 : powOk 10 20 = true := by decide
@[simp] theorem pow106 : powOk 10 6 = true := by decide
@[simp] theorem pow1012 : powOk 10 12 = true := by decide
@[simp] theorem pow1030 : powOk 10 30 = true := by decide
@[simp] theorem pow1039 : powOk 10 39 = true := by decide
@[simp] theorem sum_ints {ns : List Int} : sumDA [.lst (ns.map D.int)] S = some (.int ns.sum) := by simp [sumDA, asInts_map]
@[simp] theorem sum_intsT {ns : List Int} : sumDA [.tup (ns.map D.int)] S = some (.int ns.sum) := by simp [sumDA, asInts_map]
@[simp] theorem max_2 : maxD [.int i, .int j] S = some (.int (if j > i then j else i)) := rfl
@[simp] theorem min_2 : minD [.int i, .int j] S = some (.int (if j < i then j else i)) := rfl
theorem max_ints {ns : List Int} (h : ns ≠ []) : maxD [.lst (ns.map D.int)] S = some (.int (maxL ns)) := by
  show ((asInts (ns.map D.int)).bind fun ns => if ns.isEmpty then none else some (D.int (maxL ns))) = _
  rw [asInts_map]
  cases ns with
  | nil => exact absurd rfl h
  | cons a r => rfl
theorem min_ints {ns : List Int} (h : ns ≠ []) : minD [.lst (ns.map D.int)] S = some (.int (minL ns)) := by
  show ((asInts (ns.map D.int)).bind fun ns => if ns.isEmpty then none else some (D.int (minL ns))) = _
  rw [asInts_map]
  cases ns with
  | nil => exact absurd rfl h
  | cons a r => rfl
/-! isinstance -/
theorem isi_eq (T : String) (d : D) (t : String) (b : Bool) (h : tyOf S d = some t) (hb : kitB t T = some b) : isiD T d S = some (.bl b) := by
  unfold isiD
  rw [h]
  simp [hb]
end
section
variable {S : Store} {i : Int} {b : Bool} {x : Str} {xs : List D} {kvs : List (Key × D)}
@[simp] theorem isi_int_non : isiD "int" .non S = some (.bl false) := isi_eq _ _ "NoneType" _ rfl (by decide +kernel)
@[simp] theorem isi_int_bl : isiD "int" (.bl b) S = some (.bl true) := isi_eq _ _ "bool" _ rfl (by decide +kernel)
@[simp] theorem isi_int_int : isiD "int" (.int i) S = some (.bl true) := isi_eq _ _ "int" _ rfl (by decide +kernel)
@[simp] theorem isi_int_str : isiD "int" (.str x) S = some (.bl false) := isi_eq _ _ "str" _ rfl (by decide +kernel)
@[simp] theorem isi_int_tup : isiD "int" (.tup xs) S = some (.bl false) := isi_eq _ _ "tuple" _ rfl (by decide +kernel)
@[simp] theorem isi_int_lst : isiD "int" (.lst xs) S = some (.bl false) := isi_eq _ _ "list" _ rfl (by decide +kernel)
@[simp] theorem isi_int_dct : isiD "int" (.dct kvs) S = some (.bl false) := isi_eq _ _ "dict" _ rfl (by decide +kernel)
@[simp] theorem isi_bool_non : isiD "bool" .non S = some (.bl false) := isi_eq _ _ "NoneType" _ rfl (by decide +kernel)
@[simp] theorem isi_bool_bl : isiD "bool" (.bl b) S = some (.bl true) := isi_eq _ _ "bool" _ rfl (by decide +kernel)
@[simp] theorem isi_bool_int : isiD "bool" (.int i) S = some (.bl false) := isi_eq _ _ "int" _ rfl (by decide +kernel)
@[simp] theorem isi_bool_str : isiD "bool" (.str x) S = some (.bl false) := isi_eq _ _ "str" _ rfl (by decide +kernel)
@[simp] theorem isi_bool_tup : isiD "bool" (.tup xs) S = some (.bl false) := isi_eq _ _ "tuple" _ rfl (by decide +kernel)
@[simp] theorem isi_bool_lst : isiD "bool" (.lst xs) S = some (.bl false) := isi_eq _ _ "list" _ rfl (by decide +kernel)
@[simp] theorem isi_bool_dct : isiD "bool" (.dct kvs) S = some (.bl false) := isi_eq _ _ "dict" _ rfl (by decide +kernel)
@[simp] theorem isi_str_non : isiD "str" .non S = some (.bl false) := isi_eq _ _ "NoneType" _ rfl (by decide +kernel)
@[simp] theorem isi_str_bl : isiD "str" (.bl b) S = some (.bl false) := isi_eq _ _ "bool" _ rfl (by decide +kernel)
@[simp] theorem isi_str_int : isiD "str" (.int i) S = some (.bl false) := isi_eq _ _ "int" _ rfl (by decide +kernel)
@[simp] theorem isi_str_str : isiD "str" (.str x) S = some (.bl true) := isi_eq _ _ "str" _ rfl (by decide +kernel)
@[simp] theorem isi_str_tup : isiD "str" (.tup xs) S = some (.bl false) := isi_eq _ _ "tuple" _ rfl (by decide +kernel)
@[simp] theorem isi_str_lst : isiD "str" (.lst xs) S = some (.bl false) := isi_eq _ _ "list" _ rfl (by decide +kernel)
@[simp] theorem isi_str_dct : isiD "str" (.dct kvs) S = some (.bl false) := isi_eq _ _ "dict" _ rfl (by decide +kernel)
@[simp] theorem isi_tuple_non : isiD "tuple" .non S = some (.bl false) := isi_eq _ _ "NoneType" _ rfl (by decide +kernel)
@[simp] theorem isi_tuple_bl : isiD "tuple" (.bl b) S = some (.bl false) := isi_eq _ _ "bool" _ rfl (by decide +kernel)
@[simp] theorem isi_tuple_int : isiD "tuple" (.int i) S = some (.bl false) := isi_eq _ _ "int" _ rfl (by decide +kernel)
@[simp] theorem isi_tuple_str : isiD "tuple" (.str x) S = some (.bl false) := isi_eq _ _ "str" _ rfl (by decide +kernel)
@[simp] theorem isi_tuple_tup : isiD "tuple" (.tup xs) S = some (.bl true) := isi_eq _ _ "tuple" _ rfl (by decide +kernel)
@[simp] theorem isi_tuple_lst : isiD "tuple" (.lst xs) S = some (.bl false) := isi_eq _ _ "list" _ rfl (by decide +kernel)
@[simp] theorem isi_tuple_dct : isiD "tuple" (.dct kvs) S = some (.bl false) := isi_eq _ _ "dict" _ rfl (by decide +kernel)
@[simp] theorem isi_list_non : isiD "list" .non S = some (.bl false) := isi_eq _ _ "NoneType" _ rfl (by decide +kernel)
@[simp] theorem isi_list_bl : isiD "list" (.bl b) S = some (.bl false) := isi_eq _ _ "bool" _ rfl (by decide +kernel)
@[simp] theorem isi_list_int : isiD "list" (.int i) S = some (.bl false) := isi_eq _ _ "int" _ rfl (by decide +kernel)
@[simp] theorem isi_list_str : isiD "list" (.str x) S = some (.bl false) := isi_eq _ _ "str" _ rfl (by decide +kernel)
@[simp] theorem isi_list_tup : isiD "list" (.tup xs) S = some (.bl false) := isi_eq _ _ "tuple" _ rfl (by decide +kernel)
@[simp] theorem isi_list_lst : isiD "list" (.lst xs) S = some (.bl true) := isi_eq _ _ "list" _ rfl (by decide +kernel)
@[simp] theorem isi_list_dct : isiD "list" (.dct kvs) S = some (.bl false) := isi_eq _ _ "dict" _ rfl (by decide +kernel)
@[simp] theorem isi_dict_non : isiD "dict" .non S = some (.bl false) := isi_eq _ _ "NoneType" _ rfl (by decide +kernel)
@[simp] theorem isi_dict_bl : isiD "dict" (.bl b) S = some (.bl false) := isi_eq _ _ "bool" _ rfl (by decide +kernel)
@[simp] theorem isi_dict_int : isiD "dict" (.int i) S = some (.bl false) := isi_eq _ _ "int" _ rfl (by decide +kernel)
@[simp] theorem isi_dict_str : isiD "dict" (.str x) S = some (.bl false) := isi_eq _ _ "str" _ rfl (by decide +kernel)
@[simp] theorem isi_dict_tup : isiD "dict" (.tup xs) S = some (.bl false) := isi_eq _ _ "tuple" _ rfl (by decide +kernel)
@[simp] theorem isi_dict_lst : isiD "dict" (.lst xs) S = some (.bl false) := isi_eq _ _ "list" _ rfl (by decide +kernel)
@[simp] theorem isi_dict_dct : isiD "dict" (.dct kvs) S = some (.bl true) := isi_eq _ _ "dict" _ rfl (by decide +kernel)
end
/-! items -/
@[simp] theorem add_blint {b : Bool} {j : Int} {S : Store} : opAddA (.bl b) (.int j) S = some (.int (b2 b + j)) := rfl
@[simp] theorem sub_blint {b : Bool} {j : Int} {S : Store} : opSubA (.bl b) (.int j) S = some (.int (b2 b - j)) := rfl
@[simp] theorem sub_intbl {b : Bool} {j : Int} {S : Store} : opSubA (.int j) (.bl b) S = some (.int (j - b2 b)) := rfl
@[simp] theorem mul_blint {b : Bool} {j : Int} {S : Store} : opMulA (.bl b) (.int j) S = some (.int (b2 b * j)) := rfl
@[simp] theorem abs_bl {b : Bool} {S : Store} : absDA [.bl b] S = some (.int (b2 b)) := rfl
@[simp] theorem str_bl {b : Bool} {S : Store} : strDA [.bl b] S = some (.str (if b then "True" else "False")) := rfl
@[simp] theorem rev_tup {xs : List D} {S : Store} : opRev (.tup xs) S = some (.tup xs.reverse) := rfl
@[simp] theorem rev_lst {xs : List D} {S : Store} : opRev (.lst xs) S = some (.lst xs.reverse) := rfl
theorem atI_of {α : Type} {xs : List α} {i : Int} (h0 : 0 ≤ i) (h1 : i < xs.length) : ∃ x, x ∈ xs ∧ atI xs i = some x := by
  have hn : i.toNat < xs.length := by omega
  refine ⟨xs[i.toNat], List.getElem_mem _, ?_⟩
  unfold atI ixN
  rw [if_pos h0, if_pos h1]
  simp
theorem ix_lst {xs : List D} {i : Int} {S : Store} (h0 : 0 ≤ i) (h1 : i < xs.length) : ∃ x, x ∈ xs ∧ opIx (.lst xs) (.int i) S = some x := atI_of h0 h1
theorem ix_tup {xs : List D} {i : Int} {S : Store} (h0 : 0 ≤ i) (h1 : i < xs.length) : ∃ x, x ∈ xs ∧ opIx (.tup xs) (.int i) S = some x := atI_of h0 h1
@[simp] theorem ix_lstE {xs : List D} {i : Int} {S : Store} : opIx (.lst xs) (.int i) S = atI xs i := rfl
@[simp] theorem ix_tupE {xs : List D} {i : Int} {S : Store} : opIx (.tup xs) (.int i) S = atI xs i := rfl
theorem atI_nat {α : Type} {xs : List α} (n : Nat) : atI xs (n : Int) = xs[n]? := by
  unfold atI ixN
  rw [if_pos (by omega)]
  by_cases h : (n : Int) < xs.length
  · rw [if_pos h]
    simp
  · rw [if_neg h, List.getElem?_eq_none (by omega)]
    rfl
@[simp] theorem atI_cons0 {α : Type} (x : α) (xs : List α) : atI (x :: xs) 0 = some x := atI_nat 0
theorem eq_of_wp {α : Type} {o : Out α} {v : α} {S : Store} (h : o.wp (fun a S' => a = v ∧ S' = S) fun _ _ _ => False) : o = .ok v S := by
  cases o with
  | ok a S1 => obtain ⟨rfl, rfl⟩ := h.run; rfl
  | exc c fs S1 => exact h.run.elim
  | stuck => exact h.run.elim
theorem wp_of_eq {α : Type} {o : Out α} {v : α} {S : Store} {Q : α → Store → Prop} {E : EX} (h : o = .ok v S) (hq : Q v S) : o.wp Q E := by rw [h]; exact ⟨hq⟩
theorem cutD_take (xs : List D) (n : Nat) : cutD xs none (some (n : Int)) = xs.take n := by
  unfold cutD
  simp [HT.sIx]
  rw [if_neg (by omega)]
  omega
theorem cutD_drop (xs : List D) (n : Nat) : cutD xs (some (n : Int)) none = xs.drop n := by
  unfold cutD
  simp [HT.sIx]
  rw [if_neg (by omega)]
  by_cases h : n ≤ xs.length
  · rw [Nat.min_eq_left h]
    exact List.take_of_length_le (by simp)
  · rw [Nat.min_eq_right (by omega)]
    simp
    omega
@[simp] theorem sl_tup {xs : List D} {lo hi : Option Int} {S : Store} : opSl (.tup xs) lo hi S = some (.tup (cutD xs lo hi)) := rfl
@[simp] theorem sl_lst {xs : List D} {lo hi : Option Int} {S : Store} : opSl (.lst xs) lo hi S = some (.lst (cutD xs lo hi)) := rfl
@[simp] theorem sl_scr {xs : List D} {lo hi : Option Int} {S : Store} : opSl (.scr xs) lo hi S = some (.lst (cutD xs lo hi)) := rfl
theorem log2_len {n : Nat} (h : n ≤ 4000000) : ((n : Int)).natAbs.log2 < 9000 := by
  simp only [Int.natAbs_natCast]
  by_cases h0 : n = 0
  · subst h0; decide
  · have : n < 2 ^ 22 := by omega
    have := (Nat.log2_lt h0).mpr this
    omega
theorem log2_of {m : Int} (k : Nat) (hk : k ≤ 9000) (h0 : m ≠ 0) (h : m.natAbs < 2 ^ k) : m.natAbs.log2 < 9000 := by
  have := (Nat.log2_lt (by omega)).mpr h
  omega
theorem cellAt_of {S : Store} {n : Nat} {xs : List D} (h : S[n]? = some (.lst true xs)) : cellAt S (.ref n) = some (n, xs) := by
  show (match S[n]? with | some (.lst true xs) => some (n, xs) | _ => none) = _
  rw [h]
theorem dr_of {S : Store} {n : Nat} {b : Bool} {xs : List D} (h : S[n]? = some (.lst b xs)) : dr S (.ref n) = .lst xs := by
  rw [dr_ref, h]
  rfl
theorem isL_of {S : Store} {n : Nat} {b : Bool} {xs : List D} (h : S[n]? = some (.lst b xs)) : isL S (.ref n) = true := by
  show (match dr S (.ref n) with | .lst _ => true | _ => false) = true
  rw [dr_of h]
theorem appC_of {S : Store} {n : Nat} {xs : List D} {y : D} (h : S[n]? = some (.lst true xs)) (hs : xs.length ≤ 4000000) (hc : closed n y = true) : appC (.ref n) y S = .ok .non (S.set n (.lst true (xs ++ [y]))) := by
  unfold appC
  rw [cellAt_of h]
  simp [sz, hs, hc]
theorem tupD_of {S : Store} {n : Nat} {b : Bool} {xs : List D} (h : S[n]? = some (.lst b xs)) : tupD [.ref n] S = some (.tup xs) := by
  show (match dr S (.ref n) with | .lst xs => _ | .tup xs => _ | _ => _) = _
  rw [dr_of h]
theorem lenD_of {S : Store} {n : Nat} {b : Bool} {xs : List D} (h : S[n]? = some (.lst b xs)) : lenD [.ref n] S = some (.int xs.length) := by
  show (match dr S (.ref n) with | .lst xs => _ | .tup xs => _ | .scr xs => _ | .str x => _ | .dct kvs => _ | _ => _) = _
  rw [dr_of h]
@[simp] theorem eq_blint {b : Bool} {j : Int} {S : Store} : opEqA (.bl b) (.int j) S = some (.bl (decide (b2 b = j))) := by
  rw [eqA_of rfl]
  simp [opEq, eqD, dat, shaped_int, shaped_bl, PyData.eqv, b2]
  by_cases h : (if b = true then (1 : Int) else 0) = j <;> simp [h]
theorem div_ok {i j : Int} {S : Store} (h : divOk j = true) : opDiv (.int i) (.int j) S = some (.int (i / j)) := by
  unfold opDiv
  simp [h]
@[simp] theorem closedA_comp {α : Type} (n : Nat) (f : α → Int) (ns : List α) : closedA n (ns.map (D.int ∘ f)) = true := closedA_mem.mpr fun x h => by
  obtain ⟨i, _, rfl⟩ := List.mem_map.mp h
  simp
@[simp] theorem closedA_fun {α : Type} (n : Nat) (f : α → Int) (ns : List α) : closedA n (ns.map fun x => D.int (f x)) = true := closedA_comp n f ns
@[simp] theorem gT2 {i j : Nat} {d e : D} {ρ : Env} {S : Store} : gT [gN i, gN j] (.tup [d, e]) ρ S = some ((ρ.set i (some d)).set j (some e)) := rfl
@[simp] theorem gT3 {i j k : Nat} {d e f : D} {ρ : Env} {S : Store} : gT [gN i, gN j, gN k] (.tup [d, e, f]) ρ S = some (((ρ.set i (some d)).set j (some e)).set k (some f)) := rfl
@[simp] theorem gT4 {i j k l : Nat} {d e f g : D} {ρ : Env} {S : Store} : gT [gN i, gN j, gN k, gN l] (.tup [d, e, f, g]) ρ S = some ((((ρ.set i (some d)).set j (some e)).set k (some f)).set l (some g)) := rfl
theorem mul_ok {i j : Int} {S : Store} (h : mulOk i j = true) : opMulA (.int i) (.int j) S = some (.int (i * j)) := by
  unfold opMulA orO opMul
  simp [h]
theorem mulT_ok {xs : List D} {k : Int} {S : Store} (h : xs ≠ [] ∧ 2 ≤ k ∧ k ≤ 1000 ∧ xs.length ≤ 1000) : opMulA (.tup xs) (.int k) S = some (.tup (List.replicate k.toNat xs).flatten) := by
  have e : opMul (.tup xs) (.int k) S = some (.tup (List.replicate k.toNat xs).flatten) := by
    show (if decide (xs ≠ [] ∧ 2 ≤ k ∧ k ≤ 1000 ∧ xs.length ≤ 1000) = true then _ else _) = _
    rw [if_pos (decide_eq_true h)]
  unfold opMulA orO
  rw [e]
end Fk

set_option Elab.async false
set_option linter.all false
set_option maxRecDepth 100000
namespace Fk
open PySem PySem.Spec PyProof.Rows L2
/-! ### plain data: no cells; its weight bounds its text -/
def keyOk : Key → Bool
  | .inl i => decide (i.natAbs.log2 < 1900)
  | .inr _ => true
mutual
def plain (b : Nat) : D → Bool
  | .int i => decide (i.natAbs.log2 < b)
  | .tup xs => plainA b xs
  | .lst xs => plainA b xs
  | .dct kvs => plainK b kvs
  | .ref _ => false
  | .scr _ => false
  | .exn _ _ _ => false
  | _ => true
def plainA (b : Nat) : List D → Bool
  | [] => true
  | x :: xs => plain b x && plainA b xs
def plainK (b : Nat) : List (Key × D) → Bool
  | [] => true
  | (k, x) :: xs => keyOk k && plain b x && plainK b xs
end
mutual
def wt : D → Nat
  | .non => 4
  | .bl _ => 5
  | .int i => 3 + i.natAbs.log2
  | .str x => (reprText x).length
  | .tup xs => 3 + wtA xs
  | .lst xs => 3 + wtA xs
  | .dct kvs => 3 + wtK kvs
  | _ => 0
def wtA : List D → Nat
  | [] => 0
  | x :: xs => wt x + 2 + wtA xs
def wtK : List (Key × D) → Nat
  | [] => 0
  | (k, x) :: xs => (PyData.shown (keyD k)).length + 2 + wt x + 2 + wtK xs
end
mutual
def dep : D → Nat
  | .tup xs => depA xs + 1
  | .lst xs => depA xs + 1
  | .dct kvs => depK kvs + 1
  | _ => 0
def depA : List D → Nat
  | [] => 0
  | x :: xs => max (dep x) (depA xs)
def depK : List (Key × D) → Nat
  | [] => 0
  | (_, x) :: xs => max (dep x) (depK xs)
end
mutual
def toP : D → PyData
  | .non => .none
  | .bl b => .bool b
  | .int i => .int i
  | .str x => .str x
  | .tup xs => .tuple (toPA xs)
  | .lst xs => .list (toPA xs)
  | .dct kvs => .dict (toPK kvs)
  | _ => .none
def toPA : List D → List PyData
  | [] => []
  | x :: xs => toP x :: toPA xs
def toPK : List (Key × D) → List (PyData × PyData)
  | [] => []
  | (k, x) :: xs => (keyD k, toP x) :: toPK xs
end
theorem key_len (k : Key) : True := trivial
theorem int_len {i : Int} (h : i.natAbs.log2 < 1900) : (PyData.shown (.int i)).length ≤ 3 + i.natAbs.log2 := by
  have := int_text_length_le (a := i) (k := i.natAbs.log2 + 1) (by omega) (by omega)
  show (Str.ofString (toString i)).length ≤ _
  have e := PySem.ofString_length (toString i)
  omega
theorem textFrom_le : ∀ (ts : List Str) (k : Nat) (acc : Str), (textFrom k acc ts).length ≤ acc.length + piled ts
  | [], k, acc => by simp [textFrom, piled]
  | t :: ts, k, acc => by
    have ih := textFrom_le ts (k + 1) (acc ++ (if k > 0 then ", " else "" : String) ++ t)
    unfold textFrom
    refine Nat.le_trans ih ?_
    rw [strLen_append, strLen_append, piled_cons]
    have : ((if k > 0 then ", " else "" : String) : Str).length ≤ 2 := by split <;> decide
    omega
theorem join_le (ts : List Str) : (Str.join ", " ts).length ≤ piled ts := by
  by_cases h : ts = []
  · subst h; decide
  · have := join_length_add ts h
    omega
theorem tupleText_le (ts : List Str) : (tupleText ts).length ≤ 3 + piled ts := by
  unfold tupleText
  rw [strLen_append, strLen_append]
  have h1 := join_le ts
  have h2 : ((if ts.length == 1 then ",)" else ")" : String) : Str).length ≤ 2 := by split <;> decide
  have h3 : ("(" : Str).length = 1 := rfl
  omega
theorem listText_le (ts : List Str) : (listText ts).length ≤ 2 + piled ts := by
  unfold listText
  rw [strLen_append]
  have h1 := textFrom_le ts 0 "["
  have h2 : ("[" : Str).length = 1 := rfl
  have h3 : ("]" : Str).length = 1 := rfl
  omega
theorem dictText_le (ts : List Str) : (dictText ts).length ≤ 2 + piled ts := by
  unfold dictText
  rw [strLen_append, strLen_append]
  have h1 := join_le ts
  have h2 : ("{" : Str).length = 1 := rfl
  have h3 : ("}" : Str).length = 1 := rfl
  omega
mutual
theorem plain_dat {b : Nat} (hb : b ≤ 1900) : ∀ {d : D}, plain b d = true → dat d = some (toP d) ∧ (toP d).showable = true ∧ (toP d).shown.length ≤ wt d ∧ (toP d).depth ≤ dep d
  | .non, _ => by simp [dat, toP, PyData.showable, wt, PyData.depth]; decide
  | .bl b, _ => by cases b <;> simp [dat, toP, PyData.showable, wt, PyData.depth] <;> decide
  | .int i, h => by
    have h' : i.natAbs.log2 < 1900 := by
      have : i.natAbs.log2 < b := by simpa [plain] using h
      omega
    refine ⟨by simp [dat, toP], by simp [toP, PyData.showable]; omega, by simpa [toP, wt] using int_len h', by simp [toP, PyData.depth]⟩
  | .str x, _ => by simp [dat, toP, PyData.showable, wt, PyData.depth, PyData.shown]
  | .tup xs, h => by
    obtain ⟨h1, h2, h3, h4⟩ := plain_datA hb (xs := xs) (by simpa [plain] using h)
    refine ⟨by simp [dat, toP, h1], by simp [toP, PyData.showable, h2], ?_, by simp [toP, PyData.depth, dep]; omega⟩
    simp only [toP, PyData.shown, wt]
    have := tupleText_le (PyData.shownAll (toPA xs))
    omega
  | .lst xs, h => by
    obtain ⟨h1, h2, h3, h4⟩ := plain_datA hb (xs := xs) (by simpa [plain] using h)
    refine ⟨by simp [dat, toP, h1], by simp [toP, PyData.showable, h2], ?_, by simp [toP, PyData.depth, dep]; omega⟩
    simp only [toP, PyData.shown, wt]
    have := listText_le (PyData.shownAll (toPA xs))
    omega
  | .dct kvs, h => by
    obtain ⟨h1, h2, h3, h4⟩ := plain_datK hb (xs := kvs) (by simpa [plain] using h)
    refine ⟨by simp [dat, toP, h1], by simp [toP, PyData.showable, h2], ?_, by simp [toP, PyData.depth, dep]; omega⟩
    simp only [toP, PyData.shown, wt]
    have := dictText_le (PyData.shownKv (toPK kvs))
    omega
  | .ref _, h => by simp [plain] at h
  | .scr _, h => by simp [plain] at h
  | .exn _ _ _, h => by simp [plain] at h
theorem plain_datA {b : Nat} (hb : b ≤ 1900) : ∀ {xs : List D}, plainA b xs = true → datAll xs = some (toPA xs) ∧ PyData.showableAll (toPA xs) = true ∧ piled (PyData.shownAll (toPA xs)) ≤ wtA xs ∧ PyData.depthAll (toPA xs) ≤ depA xs
  | [], _ => by simp [datAll, toPA, PyData.showableAll, PyData.shownAll, piled, wtA, PyData.depthAll, depA]
  | x :: xs, h => by
    have h' : plain b x = true ∧ plainA b xs = true := by simpa [plainA] using h
    obtain ⟨a1, a2, a3, a4⟩ := plain_dat hb h'.1
    obtain ⟨b1, b2, b3, b4⟩ := plain_datA hb h'.2
    refine ⟨by simp [datAll, toPA, a1, b1], by simp [toPA, PyData.showableAll, a2, b2], ?_, by simp [toPA, PyData.depthAll, depA]; omega⟩
    simp only [toPA, PyData.shownAll, piled_cons, wtA]
    omega
theorem plain_datK {b : Nat} (hb : b ≤ 1900) : ∀ {xs : List (Key × D)}, plainK b xs = true → datKV xs = some (toPK xs) ∧ PyData.showableKv (toPK xs) = true ∧ piled (PyData.shownKv (toPK xs)) ≤ wtK xs ∧ PyData.depthKv (toPK xs) ≤ depK xs
  | [], _ => by simp [datKV, toPK, PyData.showableKv, PyData.shownKv, piled, wtK, PyData.depthKv, depK]
  | (k, x) :: xs, h => by
    have h' : (keyOk k = true ∧ plain b x = true) ∧ plainK b xs = true := by simpa [plainK] using h
    obtain ⟨a1, a2, a3, a4⟩ := plain_dat hb h'.1.2
    obtain ⟨b1, b2, b3, b4⟩ := plain_datK hb h'.2
    have hk : (keyD k).showable = true ∧ (keyD k).depth = 0 := by
      cases k with
      | inl i =>
        have := h'.1.1
        simp [keyOk] at this
        exact ⟨by simp [keyD, PyData.showable]; omega, by simp [keyD, PyData.depth]⟩
      | inr y => exact ⟨by simp [keyD, PyData.showable], by simp [keyD, PyData.depth]⟩
    refine ⟨by simp [datKV, toPK, a1, b1], by simp [toPK, PyData.showableKv, a2, b2, hk.1], ?_, by simp [toPK, PyData.depthKv, depK, hk.2]; omega⟩
    simp only [toPK, PyData.shownKv, piled_cons, wtK, strLen_append]
    have : ((": " : String) : Str).length = 2 := rfl
    omega
end
/-- repr of plain data -/
theorem repr_plain {b : Nat} (hb : b ≤ 1900) {d : D} {S : Store} (h : plain b d = true) (hw : wt d ≤ 16000000) (hd : dep d ≤ 60) : reprD [d] S = some (.str (toP d).shown) := by
  obtain ⟨h1, h2, h3, h4⟩ := plain_dat hb h
  have e : dr S d = d := by cases d <;> first | rfl | simp [plain] at h
  show (dat (dr S d)).bind _ = _
  rw [e, h1]
  simp [h2]
  omega
mutual
theorem plain_closed {b : Nat} (n : Nat) : ∀ {d : D}, plain b d = true → closed n d = true
  | .non, _ => by simp
  | .bl _, _ => by simp
  | .int _, _ => by simp
  | .str _, _ => by simp
  | .tup xs, h => by simp only [closed_tup]; exact plain_closedA n (by simpa [plain] using h)
  | .lst xs, h => by simp only [closed_lst]; exact plain_closedA n (by simpa [plain] using h)
  | .dct kvs, h => by simp only [closed]; exact plain_closedK n (by simpa [plain] using h)
  | .ref _, h => by simp [plain] at h
  | .scr _, h => by simp [plain] at h
  | .exn _ _ _, h => by simp [plain] at h
theorem plain_closedA {b : Nat} (n : Nat) : ∀ {xs : List D}, plainA b xs = true → closedA n xs = true
  | [], _ => by simp
  | x :: xs, h => by
    have h' : plain b x = true ∧ plainA b xs = true := by simpa [plainA] using h
    simp [plain_closed n h'.1, plain_closedA n h'.2]
theorem plain_closedK {b : Nat} (n : Nat) : ∀ {xs : List (Key × D)}, plainK b xs = true → closedK n xs = true
  | [], _ => by simp [closedK]
  | (k, x) :: xs, h => by
    have h' : (keyOk k = true ∧ plain b x = true) ∧ plainK b xs = true := by simpa [plainK] using h
    simp [closedK, plain_closed n h'.1.2, plain_closedK n h'.2]
end
/-! lists of plain data -/
theorem plainA_iff {b : Nat} {xs : List D} : plainA b xs = true ↔ ∀ x ∈ xs, plain b x = true := by
  induction xs with
  | nil => simp [plainA]
  | cons x xs ih => simp [plainA, ih]
theorem plainA_append (b : Nat) (xs ys : List D) : plainA b (xs ++ ys) = (plainA b xs && plainA b ys) := by
  induction xs with
  | nil => simp [plainA]
  | cons x xs ih => simp [plainA, ih, Bool.and_assoc]
theorem wtA_append (xs ys : List D) : wtA (xs ++ ys) = wtA xs + wtA ys := by
  induction xs with
  | nil => simp [wtA]
  | cons x xs ih => simp [wtA, ih]; omega
theorem depA_append (xs ys : List D) : depA (xs ++ ys) = max (depA xs) (depA ys) := by
  induction xs with
  | nil => simp [depA]
  | cons x xs ih => simp only [List.cons_append, depA, ih]; omega
theorem wtA_len (xs : List D) : xs.length ≤ wtA xs := by
  induction xs with
  | nil => simp [wtA]
  | cons x xs ih => simp [wtA]; omega
theorem wtA_mem {xs : List D} {x : D} (h : x ∈ xs) : wt x + 2 ≤ wtA xs := by
  induction xs with
  | nil => cases h
  | cons y xs ih =>
    rcases List.mem_cons.mp h with rfl | h
    · simp [wtA]
    · have := ih h
      simp [wtA]
      omega
theorem depA_mem {xs : List D} {x : D} (h : x ∈ xs) : dep x ≤ depA xs := by
  induction xs with
  | nil => cases h
  | cons y xs ih =>
    rcases List.mem_cons.mp h with rfl | h
    · simp [depA]; omega
    · have := ih h
      simp [depA]
      omega
theorem wtA_sub {xs ys : List D} (h : xs.Sublist ys) : wtA xs ≤ wtA ys := by
  induction h with
  | slnil => simp
  | cons _ _ ih => simp [wtA]; omega
  | cons_cons _ _ ih => simp [wtA]; omega
theorem depA_sub {xs ys : List D} (h : xs.Sublist ys) : depA xs ≤ depA ys := by
  induction h with
  | slnil => simp
  | cons _ _ ih => simp [depA]; omega
  | cons_cons _ _ ih => simp [depA]; omega
theorem plainA_sub {b : Nat} {xs ys : List D} (h : xs.Sublist ys) (hp : plainA b ys = true) : plainA b xs = true := plainA_iff.mpr fun x hx => plainA_iff.mp hp x (h.subset hx)
theorem cutD_sub (xs : List D) (lo hi : Option Int) : (cutD xs lo hi).Sublist xs := (List.take_sublist _ _).trans (List.drop_sublist _ _)
theorem wtA_rev (xs : List D) : wtA xs.reverse = wtA xs := by
  induction xs with
  | nil => rfl
  | cons x xs ih => rw [List.reverse_cons, wtA_append, ih]; simp [wtA]; omega
theorem depA_rev (xs : List D) : depA xs.reverse = depA xs := by
  induction xs with
  | nil => rfl
  | cons x xs ih => rw [List.reverse_cons, depA_append, ih]; simp [depA]; omega
theorem plainA_rev (b : Nat) (xs : List D) : plainA b xs.reverse = plainA b xs := by
  induction xs with
  | nil => rfl
  | cons x xs ih => rw [List.reverse_cons, plainA_append, ih]; simp [plainA, Bool.and_comm]
/-- good data: plain, its ints of so many bits, so heavy, so deep -/
structure Gd (b w k : Nat) (d : D) : Prop where
  p : plain b d = true
  w : wt d ≤ w
  k : dep d ≤ k
structure GdA (b w k : Nat) (xs : List D) : Prop where
  p : plainA b xs = true
  w : wtA xs ≤ w
  k : depA xs ≤ k
mutual
theorem plain_mono {b b' : Nat} (hb : b ≤ b') : ∀ {d : D}, plain b d = true → plain b' d = true
  | .non, _ => by simp [plain]
  | .bl _, _ => by simp [plain]
  | .int i, h => by
    have : i.natAbs.log2 < b := by simpa [plain] using h
    simp [plain]
    omega
  | .str _, _ => by simp [plain]
  | .tup xs, h => by simp only [plain] at h ⊢; exact plainA_mono hb h
  | .lst xs, h => by simp only [plain] at h ⊢; exact plainA_mono hb h
  | .dct kvs, h => by simp only [plain] at h ⊢; exact plainK_mono hb h
  | .ref _, h => by simp [plain] at h
  | .scr _, h => by simp [plain] at h
  | .exn _ _ _, h => by simp [plain] at h
theorem plainA_mono {b b' : Nat} (hb : b ≤ b') : ∀ {xs : List D}, plainA b xs = true → plainA b' xs = true
  | [], _ => by simp [plainA]
  | x :: xs, h => by
    have h' : plain b x = true ∧ plainA b xs = true := by simpa [plainA] using h
    simp [plainA, plain_mono hb h'.1, plainA_mono hb h'.2]
theorem plainK_mono {b b' : Nat} (hb : b ≤ b') : ∀ {xs : List (Key × D)}, plainK b xs = true → plainK b' xs = true
  | [], _ => by simp [plainK]
  | (k, x) :: xs, h => by
    have h' : (keyOk k = true ∧ plain b x = true) ∧ plainK b xs = true := by simpa [plainK] using h
    simp [plainK, h'.1.1, plain_mono hb h'.1.2, plainK_mono hb h'.2]
end
section
variable {b b' w k w' k' n : Nat} {d : D} {xs ys : List D}
theorem Gd.mono (h : Gd b w k d) (hw : w ≤ w') (hk : k ≤ k') : Gd b w' k' d := ⟨h.p, Nat.le_trans h.w hw, Nat.le_trans h.k hk⟩
theorem Gd.bits (h : Gd b w k d) (hb : b ≤ b') : Gd b' w k d := ⟨plain_mono hb h.p, h.w, h.k⟩
theorem GdA.mono (h : GdA b w k xs) (hw : w ≤ w') (hk : k ≤ k') : GdA b w' k' xs := ⟨h.p, Nat.le_trans h.w hw, Nat.le_trans h.k hk⟩
theorem GdA.bits (h : GdA b w k xs) (hb : b ≤ b') : GdA b' w k xs := ⟨plainA_mono hb h.p, h.w, h.k⟩
theorem GdA.nil : GdA b w k [] := ⟨by simp [plainA], by simp [wtA], by simp [depA]⟩
theorem GdA.one (h : Gd b w k d) : GdA b (w + 2) k [d] := ⟨by simp [plainA, h.p], by have := h.w; simp [wtA]; omega, by have := h.k; simp [depA]; omega⟩
theorem GdA.cons (h : Gd b w k d) (g : GdA b w' k xs) : GdA b (w + 2 + w') k (d :: xs) := ⟨by simp [plainA, h.p, g.p], by have := h.w; have := g.w; simp [wtA]; omega, by have := h.k; have := g.k; simp [depA]; omega⟩
theorem GdA.append (h : GdA b w k xs) (g : GdA b w' k ys) : GdA b (w + w') k (xs ++ ys) := ⟨by rw [plainA_append, h.p, g.p]; rfl, by rw [wtA_append]; have := h.w; have := g.w; omega, by rw [depA_append]; have := h.k; have := g.k; omega⟩
theorem GdA.sub (h : GdA b w k ys) (s : xs.Sublist ys) : GdA b w k xs := ⟨plainA_sub s h.p, Nat.le_trans (wtA_sub s) h.w, Nat.le_trans (depA_sub s) h.k⟩
theorem GdA.cut (h : GdA b w k xs) (lo hi : Option Int) : GdA b w k (cutD xs lo hi) := h.sub (cutD_sub _ _ _)
theorem GdA.rev (h : GdA b w k xs) : GdA b w k xs.reverse := ⟨by rw [plainA_rev]; exact h.p, by rw [wtA_rev]; exact h.w, by rw [depA_rev]; exact h.k⟩
theorem GdA.mem (h : GdA b w k xs) {x : D} (hx : x ∈ xs) : Gd b w k x := ⟨plainA_iff.mp h.p x hx, by have := wtA_mem hx; have := h.w; omega, by have := depA_mem hx; have := h.k; omega⟩
theorem GdA.len (h : GdA b w k xs) : xs.length ≤ w := Nat.le_trans (wtA_len xs) h.w
theorem GdA.tup (h : GdA b w k xs) : Gd b (w + 3) (k + 1) (.tup xs) := ⟨by simp [plain, h.p], by have := h.w; simp [wt]; omega, by have := h.k; simp [dep]; omega⟩
theorem GdA.lst (h : GdA b w k xs) : Gd b (w + 3) (k + 1) (.lst xs) := ⟨by simp [plain, h.p], by have := h.w; simp [wt]; omega, by have := h.k; simp [dep]; omega⟩
/-- the items of a tuple lie one step deeper -/
theorem Gd.tupA (h : Gd b w (k + 1) (.tup xs)) : GdA b (w - 3) k xs := ⟨by simpa [plain] using h.p, by have := h.w; simp [wt] at this; omega, by have := h.k; simp [dep] at this; omega⟩
theorem Gd.lstA (h : Gd b w (k + 1) (.lst xs)) : GdA b (w - 3) k xs := ⟨by simpa [plain] using h.p, by have := h.w; simp [wt] at this; omega, by have := h.k; simp [dep] at this; omega⟩
theorem Gd.tup3 (h : Gd b w k (.tup xs)) : 3 ≤ w := by have := h.w; simp [wt] at this; omega
theorem Gd.repr {S : Store} (h : Gd b w k d) (hb : b ≤ 1900 := by decide) (hw : w ≤ 16000000 := by decide) (hk : k ≤ 60 := by decide) : reprD [d] S = some (.str (toP d).shown) := repr_plain hb h.p (Nat.le_trans h.w hw) (Nat.le_trans h.k hk)
theorem Gd.closed (h : Gd b w k d) : closed n d = true := plain_closed n h.p
theorem GdA.closed (h : GdA b w k xs) : closedA n xs = true := plain_closedA n h.p
theorem Gd.intI {i : Int} (h : Gd b w k (.int i)) : i.natAbs.log2 < b ∧ i.natAbs.log2 + 3 ≤ w := ⟨by simpa [plain] using h.p, by have := h.w; simp [wt] at this; omega⟩
theorem Gd.ofLog {i : Int} (h1 : i.natAbs.log2 < b) (h2 : i.natAbs.log2 + 3 ≤ w) : Gd b w k (.int i) := ⟨by simpa [plain] using h1, by simp [wt]; omega, by simp [dep]⟩
theorem Gd.int {i : Int} (hb : 0 < b) (h : i.natAbs < 2 ^ b) (hw : b + 2 ≤ w) : Gd b w k (.int i) := by
  have hl : i.natAbs.log2 < b := by
    by_cases h0 : i.natAbs = 0
    · rw [h0]; simpa using hb
    · exact (Nat.log2_lt h0).mpr h
  exact Gd.ofLog hl (by omega)
theorem Gd.bl {c : Bool} (hw : 5 ≤ w) : Gd b w k (.bl c) := ⟨by simp [plain], by simp [wt]; omega, by simp [dep]⟩
end
def gdB (b w k : Nat) (d : D) : Bool := plain b d && (decide (wt d ≤ w) && decide (dep d ≤ k))
theorem gdB_ok {b w k : Nat} {d : D} (h : gdB b w k d = true) : Gd b w k d := by
  simp only [gdB, Bool.and_eq_true, decide_eq_true_eq] at h
  exact ⟨h.1, h.2.1, h.2.2⟩
theorem gdB_all {b w k : Nat} {xs : List D} (h : xs.all (gdB b w k) = true) : ∀ x ∈ xs, Gd b w k x := fun x hx => gdB_ok (List.all_eq_true.mp h x hx)
theorem wt_ofString (s : String) : wt (.str (Str.ofString s)) ≤ 10 * s.length + 2 := by
  simp only [wt]
  have h := StrLaws.reprText_len (Str.ofString s) (by
    intro c hc
    rw [Str.ofString_eq_toList] at hc
    simp at hc
    obtain ⟨a, _, rfl⟩ := hc
    have := a.valid
    have h2 : a.toNat < 1114112 := by
      rcases this with h | h
      · have : a.toNat = a.val.toNat := rfl
        omega
      · have : a.toNat = a.val.toNat := rfl
        omega
    omega)
  rw [PySem.ofString_length] at h
  exact h
theorem Gd.strInt {i : Int} {b n k : Nat} (h : i.natAbs.log2 < n) (hn : 0 < n) : Gd b (10 * n + 12) k (.str (Str.ofString (toString i))) := by
  refine ⟨by simp [plain], ?_, by simp [dep]⟩
  have h1 := wt_ofString (toString i)
  have h2 := int_text_length_le hn h
  omega
theorem log2_le_of {a b : Nat} (h : a < 2 ^ b) (hb : 0 < b) : a.log2 < b := by
  by_cases h0 : a = 0
  · subst h0; simpa using hb
  · exact (Nat.log2_lt h0).mpr h
/-- a number next to a number of so many bits -/
theorem log2_near {a b : Int} (h : b.natAbs ≤ a.natAbs + 1) : b.natAbs.log2 ≤ a.natAbs.log2 + 1 := by
  have h1 : a.natAbs < 2 ^ (a.natAbs.log2 + 1) := Nat.lt_log2_self
  have h2 : b.natAbs < 2 ^ (a.natAbs.log2 + 2) := by
    have : (2 : Nat) ^ (a.natAbs.log2 + 2) = 2 * 2 ^ (a.natAbs.log2 + 1) := by rw [Nat.pow_succ]; omega
    omega
  have := log2_le_of h2 (by omega)
  omega
theorem mulT2 {ys : List D} {S : Store} (h : ys.length ≤ 1000) : opMulA (.tup ys) (.int 2) S = some (.tup (ys ++ ys)) := by
  unfold opMulA orO
  cases ys with
  | nil => rfl
  | cons y ys =>
    have e : opMul (.tup (y :: ys)) (.int 2) S = some (.tup (List.replicate (2 : Int).toNat (y :: ys)).flatten) := by
      show (if decide ((y :: ys) ≠ [] ∧ (2 : Int) ≤ 2 ∧ (2 : Int) ≤ 1000 ∧ (y :: ys).length ≤ 1000) = true then _ else _) = _
      rw [if_pos (decide_eq_true ⟨by simp, by decide, by decide, h⟩)]
    rw [e]
    simp
theorem cut_len {xs : List D} {lo hi : Option Int} : (cutD xs lo hi).length ≤ xs.length := (cutD_sub xs lo hi).length_le
end Fk

set_option Elab.async false
set_option linter.all false
set_option maxRecDepth 100000
set_option maxHeartbeats 1000000
namespace Fk
open PySem PySem.Spec PyProof.Rows L2
/-! ### lists of bools -/
theorem datBls : ∀ bs : List Bool, datAll (bs.map D.bl) = some (bs.map PyData.bool)
  | [] => by simp [datAll]
  | b :: bs => by simp [datAll, dat, datBls bs]
theorem layBls : ∀ bs : List Bool, PyData.canLayAll0 (bs.map PyData.bool) = true
  | [] => by simp [PyData.canLayAll0]
  | b :: bs => by simp [PyData.canLayAll0, PyData.canLay0, layBls bs]
theorem depBls : ∀ bs : List Bool, PyData.depthAll (bs.map PyData.bool) = 0
  | [] => by simp [PyData.depthAll]
  | b :: bs => by simp [PyData.depthAll, PyData.depth, depBls bs]
theorem in_bls (bs : List Bool) (S : Store) : opIn (.bl false) (.lst (bs.map D.bl)) S = some (.bl (!bs.all id)) := by
  unfold opIn inD
  simp only [dr_lst, dr_bl, dat, datBls, Option.bind_some]
  have e : SeqAt.shaped (.list (bs.map PyData.bool)) = true := by simp [SeqAt.shaped, PyData.canLay0, layBls, PyData.depth, depBls]
  rw [shaped_bl, e]
  have key : ∀ bs : List Bool, ((bs.map PyData.bool).any fun z => PyData.eqv z (.bool false)) = !bs.all id := fun bs => by
    induction bs with
    | nil => rfl
    | cons b bs ih =>
      rw [List.map_cons, List.any_cons, ih]
      cases b <;> simp [PyData.eqv]
  simp only [Bool.and_self, if_true, Option.map_some, key]
theorem all_bls (bs : List Bool) (S : Store) : allD [.lst (bs.map D.bl)] S = some (.bl (bs.all id)) := by
  show (asBls (bs.map D.bl)).map _ = _
  rw [asBls_map]
  rfl
theorem nin_bls (bs : List Bool) (S : Store) : opNin (.bl false) (.lst (bs.map D.bl)) S = some (.bl (bs.all id)) := by
  have h := in_bls bs S
  unfold opIn at h
  obtain ⟨b, hb, e⟩ := Option.map_eq_some_iff.mp h
  unfold opNin
  rw [hb]
  cases e
  simp
theorem index_bls (bs : List Bool) (S : Store) : opIndex (.lst (bs.map D.bl)) (.bl false) S = (bs.findIdx? fun b => !b).map fun j => .int (j : Nat) := by
  unfold opIndex idxD
  simp only [dr_lst, dr_bl, dat, datBls, Option.bind_some]
  have e : SeqAt.shaped (.list (bs.map PyData.bool)) = true := by simp [SeqAt.shaped, PyData.canLay0, layBls, PyData.depth, depBls]
  rw [shaped_bl, e]
  simp only [Bool.and_self, if_true]
  congr 1
  rw [List.findIdx?_map]
  congr 1
  funext b
  cases b <;> simp [PyData.eqv]
/-- a pure list of bools made of a list -/
theorem compBl {s : Nat} {e : SemE} {ρ : Env} {p : D → Bool} {xs : List D} {S : Store} (he : ∀ x ∈ xs, e (ρ.set s (some x)) S = .ok (.bl (p x)) S) (hl : xs.length ≤ 4000000) : compGo (compStep (gN s) sYes e ρ) xs [] S = .ok ((xs.map p).map D.bl) S := by
  rw [compGo_map (h := fun d => .bl (p d))]
  · simp
  · intro x hx
    exact eq_of_wp (by simp [he x hx])
  · simpa using hl
end Fk

set_option Elab.async false
set_option linter.all false
set_option maxRecDepth 100000
set_option maxHeartbeats 1000000
namespace Fk
open PySem PySem.Spec PyProof.Rows L2
/-! ### comprehensions over coded lists -/
theorem comp_map {α : Type} {enc h : α → D} {F : D → Store → Out (Option D)} {S : Store} {as : List α} (hF : ∀ a ∈ as, F (enc a) S = .ok (some (h a)) S) (hl : as.length ≤ 4000000) : compGo F (as.map enc) [] S = .ok (as.map h) S := by
  have key : ∀ (as : List α) (acc : List D), (∀ a ∈ as, F (enc a) S = .ok (some (h a)) S) → acc.length + as.length ≤ 4000000 → compGo F (as.map enc) acc S = .ok (acc ++ as.map h) S := fun as => by
    induction as with
    | nil => intro acc _ _; simp [compGo]
    | cons a r ih =>
      intro acc hF hl
      rw [List.map_cons]
      unfold compGo
      rw [hF a List.mem_cons_self]
      simp only [Out.ok_bind]
      simp only [List.length_cons] at hl
      rw [if_pos (show sz acc.length = true by simp [sz]; omega), ih _ (fun b hb => hF b (List.mem_cons_of_mem _ hb)) (by simp; omega)]
      simp
  simpa using key as [] hF (by simpa using hl)
theorem comp_filter {α : Type} {enc h : α → D} {p : α → Bool} {F : D → Store → Out (Option D)} {S : Store} {as : List α} (hF : ∀ a ∈ as, F (enc a) S = .ok (if p a then some (h a) else none) S) (hl : as.length ≤ 4000000) : compGo F (as.map enc) [] S = .ok ((as.filter p).map h) S := by
  have key : ∀ (as : List α) (acc : List D), (∀ a ∈ as, F (enc a) S = .ok (if p a then some (h a) else none) S) → acc.length + as.length ≤ 4000000 → compGo F (as.map enc) acc S = .ok (acc ++ (as.filter p).map h) S := fun as => by
    induction as with
    | nil => intro acc _ _; simp [compGo]
    | cons a r ih =>
      intro acc hF hl
      rw [List.map_cons]
      unfold compGo
      rw [hF a List.mem_cons_self]
      simp only [Out.ok_bind]
      simp only [List.length_cons] at hl
      cases e : p a with
      | true =>
        simp only [if_true]
        rw [if_pos (show sz acc.length = true by simp [sz]; omega), ih _ (fun b hb => hF b (List.mem_cons_of_mem _ hb)) (by simp; omega)]
        simp [e]
      | false =>
        simp only [Bool.false_eq_true, if_false]
        rw [ih _ (fun b hb => hF b (List.mem_cons_of_mem _ hb)) (by omega)]
        simp [e]
  simpa using key as [] hF (by simpa using hl)
theorem comp_enc {α β : Type} {enc : α → D} {enc' : β → D} {F : D → Store → Out (Option D)} {S : Store} {as : List α} (h : α → β) (hF : ∀ a ∈ as, F (enc a) S = .ok (some (enc' (h a))) S) (hl : as.length ≤ 4000000) : compGo F (as.map enc) [] S = .ok ((as.map h).map enc') S := by
  rw [Fk.comp_map (h := fun a => enc' (h a)) hF hl, List.map_map]
  rfl
theorem comp_ints {α : Type} {enc : α → D} {F : D → Store → Out (Option D)} {S : Store} {as : List α} (h : α → Int) (hF : ∀ a ∈ as, F (enc a) S = .ok (some (.int (h a))) S) (hl : as.length ≤ 4000000) : compGo F (as.map enc) [] S = .ok ((as.map h).map D.int) S := comp_enc h hF hl
/-! ### ends -/
theorem exc_of_wp {α : Type} {o : Out α} {c : Str} {fs : List (Str × D)} {S : Store} (h : o.wp (fun _ _ => False) fun c' fs' S' => c' = c ∧ fs' = fs ∧ S' = S) : o = .exc c fs S := by
  cases o with
  | ok a S1 => exact h.run.elim
  | exc c fs S1 => obtain ⟨rfl, rfl, rfl⟩ := h.run; rfl
  | stuck => exact h.run.elim
theorem take_self (S : Store) : S.take S.length = S := List.take_length
/-! ### tuples and lists of ints -/
abbrev tI (ns : List Int) : D := .tup (ns.map D.int)
abbrev lI (ns : List Int) : D := .lst (ns.map D.int)
theorem datIs : ∀ g : List Int, datAll (g.map D.int) = some (g.map PyData.int)
  | [] => by simp [datAll]
  | i :: g => by simp [datAll, dat, datIs g]
theorem layIs : ∀ g : List Int, PyData.canLayAll0 (g.map PyData.int) = true
  | [] => by simp [PyData.canLayAll0]
  | i :: g => by simp [PyData.canLayAll0, PyData.canLay0, layIs g]
theorem depIs : ∀ g : List Int, PyData.depthAll (g.map PyData.int) = 0
  | [] => by simp [PyData.depthAll]
  | i :: g => by simp [PyData.depthAll, PyData.depth, depIs g]
theorem shLI (g : List Int) : SeqAt.shaped (.list (g.map PyData.int)) = true := by simp [SeqAt.shaped, PyData.canLay0, layIs, PyData.depth, depIs]
theorem shTI (g : List Int) : SeqAt.shaped (.tuple (g.map PyData.int)) = true := by simp [SeqAt.shaped, PyData.canLay0, layIs, PyData.depth, depIs]
theorem eqvIs : ∀ xs ys : List Int, PyData.eqvAll (xs.map PyData.int) (ys.map PyData.int) = decide (xs = ys)
  | [], [] => by simp [PyData.eqvAll]
  | [], _ :: _ => by simp [PyData.eqvAll]
  | _ :: _, [] => by simp [PyData.eqvAll]
  | x :: xs, y :: ys => by
    simp [PyData.eqvAll, PyData.eqv, eqvIs xs ys]
    by_cases h : x = y <;> simp [h]
theorem dec_empty (xs : List Int) : xs.isEmpty = decide (xs = []) := by cases xs <;> simp
theorem eq_tI {xs ys : List Int} {S : Store} : opEqA (tI xs) (tI ys) S = some (.bl (decide (xs = ys))) := by
  cases ys with
  | nil => exact (eq_tup0 (xs := xs.map D.int) (S := S)).trans (by cases xs <;> simp)
  | cons y ys =>
    rw [eqA_of rfl]
    have e := eqvIs xs (y :: ys)
    have e1 := shTI xs
    have e2 := shTI (y :: ys)
    have e3 := datIs xs
    have e4 := datIs (y :: ys)
    simp only [List.map_cons] at e e2 e4
    simp [opEq, eqD, dat, e3, e4, e1, e2, PyData.eqv, e]
theorem eq_lI {xs ys : List Int} {S : Store} : opEqA (lI xs) (lI ys) S = some (.bl (decide (xs = ys))) := by
  rw [eqA_of (by cases ys <;> rfl)]
  simp [opEq, eqD, dat, datIs, shLI, PyData.eqv, eqvIs]
theorem ne_lI {xs ys : List Int} {S : Store} : opNeA (lI xs) (lI ys) S = some (.bl (!decide (xs = ys))) := by
  rw [neA_of (by cases ys <;> rfl)]
  simp [opNe, neD, dat, datIs, shLI, PyData.eqv, eqvIs]
@[simp] theorem zip_tI (xs ys : List Int) : zipL (xs.map D.int) (ys.map D.int) = (xs.zip ys).map fun p => .tup [.int p.1, .int p.2] := by
  unfold zipL
  rw [List.zip_map, List.map_map]
  rfl
theorem rng_eq (n : Nat) : rng 0 n = (List.range n).map fun (i : Nat) => D.int i := by simp [rng]
theorem natAbs_pow {i : Int} {a b : Nat} (h : i.natAbs < 2 ^ a) (hab : a ≤ b) : i.natAbs < 2 ^ b := Nat.lt_of_lt_of_le h (Nat.pow_le_pow_right (by decide) hab)
theorem mul_bits {i j : Int} {a b : Nat} (hi : i.natAbs < 2 ^ a) (hj : j.natAbs < 2 ^ b) : (i * j).natAbs < 2 ^ (a + b) := by
  rw [Int.natAbs_mul, Nat.pow_add]
  exact Nat.mul_lt_mul'' hi hj
theorem sum_bits : ∀ {ns : List Int} {a : Nat} (k : Nat), (∀ i ∈ ns, i.natAbs < 2 ^ a) → ns.length ≤ 2 ^ k → ns.sum.natAbs < 2 ^ (a + k) := fun {ns a} k h hl => by
  have key : ∀ ns : List Int, (∀ i ∈ ns, i.natAbs < 2 ^ a) → ns.sum.natAbs ≤ ns.length * (2 ^ a - 1) := fun ns => by
    induction ns with
    | nil => simp
    | cons i r ih =>
      intro h
      have h1 := h i (by simp)
      have h2 := ih fun j hj => h j (by simp [hj])
      simp only [List.sum_cons, List.length_cons, Nat.add_mul, Nat.one_mul]
      omega
  have h1 := key ns h
  have h2 : ns.length * (2 ^ a - 1) ≤ 2 ^ k * (2 ^ a - 1) := Nat.mul_le_mul_right _ hl
  have h3 : 2 ^ k * (2 ^ a - 1) < 2 ^ (a + k) := by
    rw [Nat.pow_add, Nat.mul_comm (2 ^ a)]
    have : 0 < 2 ^ a := Nat.two_pow_pos a
    exact Nat.mul_lt_mul_of_pos_left (by omega) (Nat.two_pow_pos k)
  omega
def dot (xs ys : List Int) : Int := ((xs.zip ys).map fun p => p.1 * p.2).sum
theorem dot_bits {xs ys : List Int} {a b k : Nat} (hx : ∀ i ∈ xs, i.natAbs < 2 ^ a) (hy : ∀ i ∈ ys, i.natAbs < 2 ^ b) (hl : xs.length ≤ 2 ^ k) : (dot xs ys).natAbs < 2 ^ (a + b + k) := by
  refine sum_bits k (fun i hi => ?_) (by simp; omega)
  obtain ⟨p, hp, rfl⟩ := List.mem_map.mp hi
  obtain ⟨h1, h2⟩ := List.of_mem_zip hp
  exact mul_bits (hx _ h1) (hy _ h2)
end Fk

set_option Elab.async false
set_option linter.all false
set_option maxRecDepth 100000
set_option maxHeartbeats 1000000
noncomputable section
namespace Fk
open PySem PySem.Spec PyProof.Rows L2
/-! ### a comprehension over a live cell: the cell stays, if its content is the same at every turn -/
open Classical in
def compGoK (n : Nat) (all : List D) (f : D → Store → Out (Option D)) : List D → List D → Store → Out (List D)
  | [], acc, S => if S[n]? = some (.lst true all) then .ok acc S else .stuck
  | x :: xs, acc, S => if S[n]? = some (.lst true all) then (f x S).bind fun o S1 => match o with
    | some y => if sz acc.length then compGoK n all f xs (acc ++ [y]) S1 else .stuck
    | none => compGoK n all f xs acc S1
    else .stuck
def lCKc (g : SemG) (t : SemT) (e : SemE) (vs : List Nat) (ρ : Env) (n : Nat) (S : Store) : Option Cell → Out (List D)
  | some (.lst true xs) => compGoK n xs (compStep g t e (wipeD ρ vs)) xs [] S
  | _ => .stuck
def lCK (g : SemG) (t : SemT) (e : SemE) (vs : List Nat) (ρ : Env) : D → Store → Out (List D)
  | .ref n, S => lCKc g t e vs ρ n S S[n]?
  | _, _ => .stuck
def lCompK (f : SemE) (g : SemG) (t : SemT) (e : SemE) (vs : List Nat) : SemA := fun ρ S => (f ρ S).bind (lCK g t e vs ρ)
section
variable {X : Cx} {W : WX}
/-- iterating a list object -/
def tIK (p : Pl) (f : SemE) : TI := fun σ H R => tE p f σ H fun v H1 => ∃ a vs, v = .ref a ∧ SqL p.K H1 a vs ∧ R (Itl p.K a) H1
theorem xi_k {tg e : Expr} {f : SemE} (he : XE X W e f) : PI X tg e (tIK ⟨X.K, X.mg, W⟩ f) := by
  refine ⟨fun pins s σ H R I h => ?_⟩
  refine thn (he.run pins s σ H _ I h) fun v s1 ⟨x, H1, I1, r1, q1⟩ => ?_
  obtain ⟨a, vs, rfl, h1, h2⟩ := q1
  cases r1
  exact iter_L I1 h1 h2
open Classical in
theorem ifK {n : Nat} {all : List D} {α β : Type} {p : Pl} {R : Hp → Hp → List Addr → Hp → β → α → Prop} {F H : Hp} {ι : List Addr} {σ : L2.St} {S : Store} {o : Out α} {Q : β → Hp → Prop} (h : Post p R F ι H σ (if S[n]? = some (.lst true all) then o else .stuck) Q) : S[n]? = some (.lst true all) ∧ Post p R F ι H σ o Q := by
  by_cases q : S[n]? = some (.lst true all)
  · rw [if_pos q] at h; exact ⟨q, h⟩
  · rw [if_neg q] at h; exact h.elim
theorem tG_compK {p : Pl} {f : SemE} {g : SemG} {t : SemT} {e : SemE} {vs : List Nat} {vs' : List Nat} (hvs : ∀ i ∈ vs', i ∈ vs) {σ : L2.St} {H : Hp} {Q : VK} (h : tG p (RL' p.K) (lCompK f g t e vs) σ H Q) :
    tLc (tIK p f) (tPG p.K p.mg g vs') (tT ⟨p.K, p.mg, WF⟩ t) (tE ⟨p.K, p.mg, WF⟩ e) vs σ H Q := by
  obtain ⟨F, ι, ρ, S, sm, r, q⟩ := h
  refine ⟨F, ι, ρ, S, sm, r, post_bind (R := RV' p.K) q (fun x S1 F1 ι1 v H1 x1 s1 rv q1 => ?_)⟩
  have rv : Rel p.K F1 ι1 v x := rv
  cases rv with
  | @ref n a h1 =>
    have q1 : Post p (RL' p.K) F1 ι1 H1 σ (lCKc g t e vs ρ n S1 S1[n]?) Q := q1
    cases hc : S1[n]? with
    | none => rw [hc] at q1; exact q1.elim
    | some c =>
      rw [hc] at q1
      cases c with
      | lst b xs =>
        cases b with
        | false => exact q1.elim
        | true =>
          obtain ⟨vs0, g1, g2, g3⟩ := s1.cell n a _ h1 hc
          refine ⟨a, vs0, rfl, SqL.of g1, ?_⟩
          have q1 : Post p (RL' p.K) F1 ι1 H1 σ (compGoK n xs (compStep g t e (wipeD ρ vs)) xs [] S1) Q := q1
          intro Dl hD
          refine ⟨fun i m H' => i + m = xs.length ∧ ∃ F' ι' S' acc vs1, Step F1 ι1 H1 F' ι' H' ∧ Sim p.K p.mg F' ι' S' H' ∧ H' Dl = some (.lst vs1) ∧ F' Dl = none ∧ Dl ∉ ι' ∧ RelAll p.K F' ι' vs1 acc ∧ Post p (RL' p.K) F1 ι1 H1 σ (compGoK n xs (compStep g t e (wipeD ρ vs)) (xs.drop i) acc S') Q,
            ⟨xs.length, by omega, F1, ι1, S1, [], [], (s1.loose hD).1, (s1.loose hD).2, upd_same, (s1.fresh hD).1, (s1.fresh hD).2, .nil, by simpa using q1⟩, fun i m H' hW => ?_⟩
          obtain ⟨hm, F2, ι2, S2, acc, vs1, x2, s2, hH, hF, hI, ra, q2⟩ := hW
          have hι : ι2[n]? = some a := by
            obtain ⟨tl, htl⟩ := x2.toExt.pre
            rw [← htl]
            rw [List.getElem?_append_left (List.getElem?_eq_some_iff.mp h1).1]
            exact h1
          by_cases hlt : i < xs.length
          · have hdrop : xs.drop i = xs[i] :: xs.drop (i + 1) := List.drop_eq_getElem_cons hlt
            rw [hdrop] at q2
            unfold compGoK at q2
            obtain ⟨hS2, q2⟩ := ifK q2
            obtain ⟨vs2, k1, k2, k3⟩ := s2.cell n a _ hι hS2
            have hv : i < vs2.length := by rw [k2.length]; exact hlt
            refine .inr ⟨⟨vs2, vs2[i], SqL.of k1, by simp [hv]⟩, fun H3 => ∃ F' ι' S' acc vs1, Step F1 ι1 H1 F' ι' H3 ∧ Sim p.K p.mg F' ι' S' H3 ∧ H3 Dl = some (.lst vs1) ∧ F' Dl = none ∧ Dl ∉ ι' ∧ RelAll p.K F' ι' vs1 acc ∧ Post p (RL' p.K) F1 ι1 H1 σ (compGoK n xs (compStep g t e (wipeD ρ vs)) (xs.drop (i + 1)) acc S') Q, fun H3 h3 => ⟨m - 1, by omega, by omega, h3⟩, fun x H3 hy => ?_⟩
            obtain ⟨rfl, hy⟩ := hy
            obtain ⟨d, hd, rd⟩ := k2.getV (hy vs2 (SqL.of k1))
            have hd' : d = xs[i] := by
              rw [List.getElem?_eq_getElem hlt] at hd
              exact (Option.some.inj hd).symm
            subst hd'
            cases hz : g xs[i] (wipeD ρ vs) S2 with
            | none =>
              unfold compStep at q2
              rw [hz] at q2
              exact q2.elim
            | some ρ1 =>
              unfold compStep at q2
              rw [hz] at q2
              refine ⟨F2, ι2, wipeD ρ vs, S2, xs[i], ρ1, s2, ((r.mono (x1.trans x2)).wipe vs), rd, hz, fun σ4 r4 w4 => ⟨?_, F2, ι2, ρ1, S2, s2, r4, ?_⟩⟩
              · rw [w4 vs hvs, wipe_wipe]
              · cases ht : t ρ1 S2 with
                | exc c fs S3 =>
                  simp only [ht, noX, Out.stuck_bind] at q2
                  exact q2.elim
                | stuck =>
                  simp only [ht, noX, Out.stuck_bind] at q2
                  exact q2.elim
                | ok b S3 =>
                  intro F4 ι4 b' H4 x4 s4 rb
                  cases (show b' = b from rb)
                  simp only [ht, noX_ok, Out.ok_bind] at q2
                  obtain ⟨hH4, hF4, hI4⟩ := x4.keep Dl _ hH hF hI trivial
                  cases b with
                  | false =>
                    simp only [Bool.false_eq_true, if_false, Out.ok_bind] at q2
                    exact ⟨F4, ι4, S3, acc, vs1, x2.trans x4, s4, hH4, hF4, hI4, RelAll.mono x4 ra, q2⟩
                  | true =>
                    simp only [if_true] at q2
                    refine ⟨F4, ι4, ρ1, S3, s4, r4.mono x4, ?_⟩
                    cases he : e ρ1 S3 with
                    | exc c fs S4 =>
                      simp only [he, noX, Out.stuck_bind] at q2
                      exact q2.elim
                    | stuck =>
                      simp only [he, noX, Out.stuck_bind] at q2
                      exact q2.elim
                    | ok y S4 =>
                      intro F5 ι5 w H5 x5 s5 rw'
                      have rw' : Rel p.K F5 ι5 w y := rw'
                      simp only [he, noX_ok, Out.ok_bind] at q2
                      obtain ⟨hz2, q3⟩ := ite_stuck q2
                      obtain ⟨hH5, hF5, hI5⟩ := x5.keep Dl _ hH4 hF4 hI4 trivial
                      have ra5 := RelAll.mono (x4.trans x5) ra
                      refine ⟨vs1, hH5, by rw [ra5.length]; exact sz_lt hz2, F5, ι5, S4, acc ++ [y], vs1 ++ [w], ?_, ?_, upd_same, hF5, hI5, ra5.append (.cons rw' .nil), q3⟩
                      · have st := (x2.trans x4).trans x5
                        refine ⟨st.toExt, fun b o e1 e2 e3 e4 => ?_, fun b hb => st.dom b (upd_dom hb)⟩
                        obtain ⟨k1, k2, k3⟩ := st.keep b o e1 e2 e3 e4
                        exact ⟨by rw [upd_ne (ne_of_none e1 hD)]; exact k1, k2, k3⟩
                      · refine ⟨fun b o e1 => ?_, s5.len, s5.nd, fun n a c ha hc => ?_, s5.cl, s5.tab.upd hH5 trivial, s5.nt, tt_upd s5.tt (by intro _ z; cases z)⟩
                        · rw [upd_ne (ne_of_none e1 hF5)]
                          exact s5.sub b o e1
                        · exact (s5.cell n a c ha hc).mono (Ext.refl _ _) (fun z => z) fun o z => by
                            rw [upd_ne (show a ≠ Dl from fun z2 => hI5 (by rw [← z2]; exact List.mem_of_getElem? ha))]
                            exact z
          · rw [List.drop_of_length_le (by omega)] at q2
            unfold compGoK at q2
            obtain ⟨hS2, q2⟩ := ifK q2
            obtain ⟨vs2, k1, k2, k3⟩ := s2.cell n a _ hι hS2
            refine .inl ⟨⟨vs2, SqL.of k1, by rw [k2.length]; omega⟩, ?_⟩
            exact q2 F2 ι2 _ H' x2 s2 ⟨Dl, vs1, rfl, hD, hH, hF, hI, ra⟩
      | _ => exact q1.elim
  | _ => exact q1.elim
variable {elt tg iter : Expr} {ifs : List Expr} {scope : Scope} {own : List (Str × Nat)} {pos : Pos} {f : SemE} {g : SemG} {t : SemT} {e : SemE} {vs' : List Nat}
theorem xl_compK (hc : X.calm = true) (hN : X.N.Nodup) (hi : XE X W iter f) (ok : BlkOk X.N X.env.scope scope own) (hvs : ∀ i ∈ vs', i ∈ own.map (·.2))
    (hg : ∀ (s : Shared) (H : Hp) (C : Addr) (cl : List (Str × Addr)) (fp : List Addr), PGD (X.blk s H scope (compEnvC scope cl C X.env) fp) tg g vs') (ht : ∀ (s : Shared) (H : Hp) (C : Addr) (cl : List (Str × Addr)) (fp : List Addr), XTs (X.blk s H scope (compEnvC scope cl C X.env) fp) ifs t)
    (he : ∀ (s : Shared) (H : Hp) (C : Addr) (cl : List (Str × Addr)) (fp : List Addr), XE (X.blk s H scope (compEnvC scope cl C X.env) fp) WF elt e) (hs : ∀ x, foldedSetIterable iter X.env x = pure x := by intro _; rfl) :
    XL X W (.ListComp elt [⟨tg, iter, ifs, 0⟩] scope pos) (lCompK f g t e (own.map (·.2))) := peI (pe_lc (g := tPG X.K X.mg g vs') (tt := tT ⟨X.K, X.mg, WF⟩ t) (te := tE ⟨X.K, X.mg, WF⟩ e) hc hN (xi_k hi) ok hg ht he hs) fun _ _ _ h => tG_compK hvs h
end
def kLK (g : SemG) (t : SemT) (e : SemE) (vs : List Nat) (ρ : Env) (Q : List D → Store → Prop) (E : EX) (d : D) (S : Store) : Prop := (lCK g t e vs ρ d S).wp Q E
@[simp] theorem wp_lCompK (f : SemE) (g : SemG) (t : SemT) (e : SemE) (vs : List Nat) {ρ : Env} {S : Store} {Q : List D → Store → Prop} {E : EX} : (lCompK f g t e vs ρ S).wp Q E = (f ρ S).wp (kLK g t e vs ρ Q E) E := by
  simp only [lCompK, wp_bind]
  rfl
theorem kLK_ref {g : SemG} {t : SemT} {e : SemE} {vs : List Nat} {ρ : Env} {Q : List D → Store → Prop} {E : EX} {n : Nat} {S : Store} {xs : List D} (h : S[n]? = some (.lst true xs)) : kLK g t e vs ρ Q E (.ref n) S = (compGoK n xs (compStep g t e (wipeD ρ vs)) xs [] S).wp Q E := by
  show (lCKc g t e vs ρ n S S[n]?).wp Q E = _
  rw [h]
  rfl
theorem compK_filter {α : Type} {enc h : α → D} {p : α → Bool} {F : D → Store → Out (Option D)} {n : Nat} {all : List D} {S : Store} {as : List α} (hn : S[n]? = some (.lst true all)) (hF : ∀ a ∈ as, F (enc a) S = .ok (if p a then some (h a) else none) S) (hl : as.length ≤ 4000000) : compGoK n all F (as.map enc) [] S = .ok ((as.filter p).map h) S := by
  have key : ∀ (as : List α) (acc : List D), (∀ a ∈ as, F (enc a) S = .ok (if p a then some (h a) else none) S) → acc.length + as.length ≤ 4000000 → compGoK n all F (as.map enc) acc S = .ok (acc ++ (as.filter p).map h) S := fun as => by
    induction as with
    | nil => intro acc _ _; simp [compGoK, hn]
    | cons a r ih =>
      intro acc hF hl
      rw [List.map_cons]
      unfold compGoK
      rw [if_pos hn, hF a List.mem_cons_self]
      simp only [Out.ok_bind]
      simp only [List.length_cons] at hl
      cases e : p a with
      | true =>
        simp only [if_true]
        rw [if_pos (show sz acc.length = true by simp [sz]; omega), ih _ (fun b hb => hF b (List.mem_cons_of_mem _ hb)) (by simp; omega)]
        simp [e]
      | false =>
        simp only [Bool.false_eq_true, if_false]
        rw [ih _ (fun b hb => hF b (List.mem_cons_of_mem _ hb)) (by omega)]
        simp [e]
  simpa using key as [] hF (by simpa using hl)
end Fk

set_option Elab.async false
set_option linter.all false
set_option maxRecDepth 100000
set_option maxHeartbeats 4000000
namespace Fk
open PySem PySem.Spec PyProof.Rows L2
/-! ### list(range(..)) -/
def okL (i : Int) : Bool := decide (-4000000 ≤ i ∧ i ≤ 4000000)
def lR1 (d : D) (S : Store) : Out (List D) := match d with
  | .int n => if okL n then .ok (rng 0 n.toNat) S else .stuck
  | _ => .stuck
def lRg1 (f : SemE) : SemA := fun ρ S => (f ρ S).bind lR1
def lR2 (d e : D) (S : Store) : Out (List D) := match d, e with
  | .int m, .int n => if okL m && okL n then .ok (rng m (n - m).toNat) S else .stuck
  | _, _ => .stuck
def lRg2 (f g : SemE) : SemA := fun ρ S => (f ρ S).bind fun d S1 => (g ρ S1).bind (lR2 d)
section
variable {X : Cx} {W : WX} {a b : Expr} {f g : SemE} {p p2 pos pos2 : Pos}
theorem RelAll.maps {K : PySem.W.Frag} {F : Hp} {ι : List Addr} {α : Type} {v : α → V} {d : α → D} : ∀ {l : List α}, (∀ i ∈ l, Rel K F ι (v i) (d i)) → RelAll K F ι (l.map v) (l.map d)
  | [], _ => .nil
  | a :: l, h => .cons (h a List.mem_cons_self) (RelAll.maps fun i hi => h i (List.mem_cons_of_mem _ hi))
theorem rel_rg {K : PySem.W.Frag} {F : Hp} {ι : List Addr} (m n : Int) : RelAll K F ι (rgV m n) (rng m (n - m).toNat) := RelAll.maps fun i _ => .int _
theorem xl_listRg1 (hc : X.calm = true) (hg : Gl X "list") (hm : X.mg "list" = none) (hg2 : Gl X "range") (hm2 : X.mg "range" = none) (ha : XE X W a f)
    (na : starEach [a] X.env = (false, eval a X.env) :: starEach [] X.env := by rfl)
    (nb : starEach [(.Call (.Name "range" p2) [a] [] pos2)] X.env = (false, eval (.Call (.Name "range" p2) [a] [] pos2) X.env) :: starEach [] X.env := by rfl) : XL X W (.Call (.Name "list" p) [.Call (.Name "range" p2) [a] [] pos2] [] pos) (lRg1 f) := by
  refine peI (pe_listRg hc hg hm (prg_1 hg2 hm2 ha na) nb) fun σ H Q h => ?_
  obtain ⟨F, ι, ρ, S, s, r, q⟩ := h
  refine ⟨F, ι, ρ, S, s, r, post_bind (R := RV' X.K) q fun x S1 F1 ι1 v H1 x1 s1 rv q1 => ?_⟩
  cases x with
  | int n =>
    obtain ⟨hz, q1⟩ := ite_stuck q1
    have hz := of_decide_eq_true hz
    refine ⟨n, rel_int rv, ⟨by omega, by omega, by omega, by omega, by omega⟩, fun p hp => ?_⟩
    obtain ⟨hf, hi⟩ := s1.fresh hp
    obtain ⟨x2, s2⟩ := s1.loose (o := .lst (rgV 0 n)) hp
    have rr : RelAll X.K F1 ι1 (rgV 0 n) (rng 0 n.toNat) := by
      have := rel_rg (K := X.K) (F := F1) (ι := ι1) 0 n
      rwa [Int.sub_zero] at this
    exact q1 _ _ _ _ x2 s2 ⟨p, _, rfl, hp, upd_same, hf, hi, rr⟩
  | _ => exact q1.elim
theorem xl_listRg2 (hc : X.calm = true) (hg : Gl X "list") (hm : X.mg "list" = none) (hg2 : Gl X "range") (hm2 : X.mg "range" = none) (ha : XE X W a f) (hb : XE X W b g)
    (na : starEach [a, b] X.env = (false, eval a X.env) :: starEach [b] X.env := by rfl) (nb : starEach [b] X.env = (false, eval b X.env) :: starEach [] X.env := by rfl) (hp : (backTo pos2 (starEach [b] X.env)).any (·.1) = false := by rfl)
    (nc : starEach [(.Call (.Name "range" p2) [a, b] [] pos2)] X.env = (false, eval (.Call (.Name "range" p2) [a, b] [] pos2) X.env) :: starEach [] X.env := by rfl) : XL X W (.Call (.Name "list" p) [.Call (.Name "range" p2) [a, b] [] pos2] [] pos) (lRg2 f g) := by
  refine peI (pe_listRg hc hg hm (prg_2 hg2 hm2 ha hb na nb hp) nc) fun σ H Q h => ?_
  obtain ⟨F, ι, ρ, S, s, r, q⟩ := h
  refine ⟨F, ι, ρ, S, s, r, post_bind (R := RV' X.K) q fun x S1 F1 ι1 v H1 x1 s1 rv q1 => ?_⟩
  refine ⟨F1, ι1, ρ, S1, s1, r.mono x1, post_bind (R := RV' X.K) q1 fun y S2 F2 ι2 u H2 x2 s2 ru q2 => ?_⟩
  unfold lR2 at q2
  split at q2
  · next m n =>
    obtain ⟨hz, q2⟩ := ite_stuck q2
    obtain ⟨h1, h2⟩ := Bool.and_eq_true_iff.mp hz
    have h1 := of_decide_eq_true h1
    have h2 := of_decide_eq_true h2
    refine ⟨m, n, rel_int rv, rel_int ru, ⟨by omega, by omega, by omega, by omega, by omega⟩, fun p hp => ?_⟩
    obtain ⟨hf, hi⟩ := s2.fresh hp
    obtain ⟨x3, s3⟩ := s2.loose (o := .lst (rgV m n)) hp
    exact q2 _ _ _ _ x3 s3 ⟨p, _, rfl, hp, upd_same, hf, hi, rel_rg m n⟩
  · exact q2.elim
end
section
variable {E : EX} {ρ : Env} {S : Store} {f g : SemE} {Q : List D → Store → Prop} {d e : D}
def kLg1 (Q : List D → Store → Prop) (d : D) (S : Store) : Prop := ∃ n, d = .int n ∧ okL n = true ∧ Q (rng 0 n.toNat) S
@[simp] theorem kLg1_eq : kLg1 Q d S = ∃ n, d = .int n ∧ okL n = true ∧ Q (rng 0 n.toNat) S := rfl
@[simp] theorem wp_lRg1 : (lRg1 f ρ S).wp Q E = (f ρ S).wp (kLg1 Q) E := by
  simp only [lRg1, wp_bind]
  congr 1
  funext d S1
  cases d <;> simp [lR1, kLg1]
def kLg2 (Q : List D → Store → Prop) (d e : D) (S : Store) : Prop := ∃ m n, d = .int m ∧ e = .int n ∧ (okL m && okL n) = true ∧ Q (rng m (n - m).toNat) S
@[simp] theorem kLg2_eq : kLg2 Q d e S = ∃ m n, d = .int m ∧ e = .int n ∧ (okL m && okL n) = true ∧ Q (rng m (n - m).toNat) S := rfl
def kLg3 (g : SemE) (ρ : Env) (Q : List D → Store → Prop) (E : EX) (d : D) (S : Store) : Prop := (g ρ S).wp (kLg2 Q d) E
@[simp] theorem kLg3_eq : kLg3 g ρ Q E d S = (g ρ S).wp (kLg2 Q d) E := rfl
@[simp] theorem wp_lRg2 : (lRg2 f g ρ S).wp Q E = (f ρ S).wp (kLg3 g ρ Q E) E := by
  simp only [lRg2, wp_bind]
  congr 1
  funext d S1
  rw [kLg3_eq]
  congr 1
  funext e S2
  unfold lR2 kLg2
  cases d <;> cases e <;> simp
end
/-! ### is, is not of bools -/
def opIsB : D → D → Store → Option D := fun d e _ => match d, e with
  | .bl a, .bl b => some (.bl (decide (a = b)))
  | _, _ => none
def opNotB : D → D → Store → Option D := fun d e _ => match d, e with
  | .bl a, .bl b => some (.bl (!decide (a = b)))
  | _, _ => none
section
variable {X : Cx}
theorem ox_isB : OpX X (compareOp .Is) opIsB := by
  intro pins s σ H x y v u Q I rx ry h
  obtain ⟨F, ι, S, d, e, a, sm, rd, re, ho, q⟩ := h
  unfold opIsB at ho
  split at ho
  · cases ho
    cases rel_bl rd
    cases rel_bl re
    exact op_isBl pins s σ H _ _ v u Q I rx ry ⟨_, _, rfl, rfl, q F ι _ H (Step.refl _ _ _) sm (.bl _)⟩
  · cases ho
theorem ox_notB : OpX X (compareOp .IsNot) opNotB := by
  intro pins s σ H x y v u Q I rx ry h
  obtain ⟨F, ι, S, d, e, a, sm, rd, re, ho, q⟩ := h
  unfold opNotB at ho
  split at ho
  · cases ho
    cases rel_bl rd
    cases rel_bl re
    exact op_notBl pins s σ H _ _ v u Q I rx ry ⟨_, _, rfl, rfl, q F ι _ H (Step.refl _ _ _) sm (.bl _)⟩
  · cases ho
end
@[simp] theorem isB_eq {a b : Bool} {S : Store} : opIsB (.bl a) (.bl b) S = some (.bl (decide (a = b))) := rfl
@[simp] theorem notB_eq {a b : Bool} {S : Store} : opNotB (.bl a) (.bl b) S = some (.bl (!decide (a = b))) := rfl
end Fk

set_option Elab.async false
set_option linter.all false
set_option maxRecDepth 100000
set_option maxHeartbeats 0
noncomputable section
namespace Sm
open PySem PySem.Spec PyProof.Rows L2 Fk
def g__law_deck_k28 : SemS :=
    (sRet (cellL (lDisp (aCons (cellL (lComp (itSeq (eSl opSl (eVar 0) oNone (oSome (eC (.int 63))))) (gN 1) sYes (eOps absDA (aCons (eVar 1) aNil)) [1])) (aCons (eC (.int 0)) aNil)))))
def f__law_deck_k28 : FSem := fnD 2 g__law_deck_k28
def g__law_draw_k28 : SemS :=
    (sSeq (sSetI (eVar 0) (eC (.int 1)) (eBin opAddA (eBin opIx (eVar 0) (eC (.int 1))) (eC (.int 1))))
    (sSeq (sAsgT (gT [(gN 2), (gN 3)]) (eTup (aCons (eC (.int 0)) (aCons (eUn opNeg (eC (.int 1))) aNil))))
    (sSeq (sIf (tOfE (eBin opGt (eOps lenD (aCons (eBin opIx (eVar 0) (eC (.int 0))) aNil)) (eC (.int 0)))) (sSeq (sAsg 3 (eBin opMod (eOps intD (aCons (eBin opIx (eVar 0) (eC (.int 1))) aNil)) (eOps lenD (aCons (eBin opIx (eVar 0) (eC (.int 0))) aNil))))
    (sAsg 2 (eBin opIx (eBin opIx (eVar 0) (eC (.int 0))) (eVar 3)))) sNext)
    (sSeq (sIf (tOfE (eBin opGe (eVar 2) (eBin opPow (eC (.int 10)) (eC (.int 18))))) (sSeq (sSetI (eBin opIx (eVar 0) (eC (.int 0))) (eVar 3) (eBin opDiv (eOps intD (aCons (eVar 2) aNil)) (eVar 1)))
    (sRet (eBin opMod (eOps intD (aCons (eVar 2) aNil)) (eVar 1)))) sNext)
    (sSeq (sAsg 4 (eBin opAddA (eBin opAddA (eBin opMod (eOps intD (aCons (eVar 2) aNil)) (eC (.int 2147483563))) (eBin opMulA (eC (.int 7417)) (eBin opIx (eVar 0) (eC (.int 1))))) (eC (.int 13))))
    (sRet (eBin opMod (eOps intD (aCons (eBin opMod (eOps intD (aCons (eBin opPow (eVar 4) (eC (.int 5))) aNil)) (eC (.int 2147483549))) aNil)) (eVar 1))))))))
def f__law_draw_k28 : FSem := fnD 5 g__law_draw_k28
def g__law_seats : SemS :=
    (sSeq (sAsg 1 (cellL (lDisp aNil)))
    (sSeq (sFor (itR1 (aCons (eVar 0) aNil)) (gN 2)
   (sExp (eExt (eVar 1) (frz (lComp (itR2 (aCons (eBin opAddA (eVar 2) (eC (.int 1))) (aCons (eVar 0) aNil))) (gN 3) sYes (eTup (aCons (eVar 2) (aCons (eVar 3) aNil))) [3])))))
    (sRet (eFz (eVar 1)))))
def f__law_seats : FSem := fnD 4 g__law_seats
def g__law_least_k30 : SemS :=
    (sRet (eOps minD (aCons (frz (lComp (itSeq (eVar 0)) (gN 1) sYes (eOps intD (aCons (eVar 1) aNil)) [1])) aNil)))
def f__law_least_k30 : FSem := fnD 2 g__law_least_k30
def g__law_most : SemS :=
    (sRet (eOps maxD (aCons (frz (lComp (itSeq (eVar 0)) (gN 1) sYes (eOps intD (aCons (eVar 1) aNil)) [1])) aNil)))
def f__law_most : FSem := fnD 2 g__law_most
def g__law_divisor : SemS :=
    (sSeq (sAsg 1 (eC (.int 0)))
    (sSeq (sFor (itSeq (eVar 0)) (gN 2)
   (sSeq (sAsg 3 (eOps absDA (aCons (eVar 2) aNil)))
    (sWhile (tOfE (eBin opNeA (eVar 3) (eC (.int 0))))
   (sPar 1 3 (aCons (eVar 3) (aCons (eBin opMod (eOps intD (aCons (eVar 1) aNil)) (eVar 3)) aNil))))))
    (sRet (eVar 1))))
def f__law_divisor : FSem := fnD 4 g__law_divisor
def g__law_primitive_k28 : SemS :=
    (sSeq (sAsg 1 (eCall f__law_divisor [] (aCons (eVar 0) aNil)))
    (sRet (eOps tupD (aCons (frz (lComp (itSeq (eVar 0)) (gN 2) sYes (eBin opDiv (eVar 2) (eVar 1)) [2])) aNil))))
def f__law_primitive_k28 : FSem := fnD 3 g__law_primitive_k28
def g__law_sign : SemS :=
    (sRet (eBin opSubA (eOps intD (aCons (eBin opGt (eVar 0) (eC (.int 0))) aNil)) (eOps intD (aCons (eBin opLt (eVar 0) (eC (.int 0))) aNil))))
def f__law_sign : FSem := fnD 1 g__law_sign
def g__law_border : SemS :=
    (sSeq (sIf (tOfE (eChain opLt opLt (eCall f__law_least_k30 [] (aCons (eVar 0) aNil)) (eC (.int 0)) (eCall f__law_most [] (aCons (eVar 0) aNil)))) (sRet (eCall f__law_primitive_k28 [] (aCons (eVar 0) aNil))) sNext)
    (sRet (eOps tupD (aCons (frz (lComp (itSeq (eVar 0)) (gN 1) sYes (eCall f__law_sign [] (aCons (eVar 1) aNil)) [1])) aNil))))
def f__law_border : FSem := fnD 2 g__law_border
def g__law_minus : SemS :=
    (sRet (eOps tupD (aCons (frz (lComp (itZip (aCons (eVar 0) (aCons (eVar 1) aNil))) (gT [(gN 2), (gN 3)]) sYes (eBin opSubA (eVar 2) (eVar 3)) [2, 3])) aNil)))
def f__law_minus : FSem := fnD 4 g__law_minus
def g__law_book : SemS :=
    (sRet (eOps tupD (aCons (frz (lComp (itSeq (eCall f__law_seats [] (aCons (eOps lenD (aCons (eVar 0) aNil)) aNil))) (gT [(gN 1), (gN 2)]) sYes (eTup (aCons (eVar 1) (aCons (eVar 2) (aCons (eCall f__law_border [] (aCons (eCall f__law_minus [] (aCons (eBin opIx (eVar 0) (eVar 1)) (aCons (eBin opIx (eVar 0) (eVar 2)) aNil))) aNil)) aNil)))) [1, 2])) aNil)))
def f__law_book : FSem := fnD 3 g__law_book
def g__law_one_k28 : SemS :=
    (sRet (eBin opIx (eVar 1) (eCall f__law_draw_k28 [] (aCons (eVar 0) (aCons (eOps lenD (aCons (eVar 1) aNil)) aNil)))))
def f__law_one_k28 : FSem := fnD 2 g__law_one_k28
def g__law_mixed_row : SemS :=
    (sSeq (sPar 2 3 (aCons (eCall f__law_one_k28 [] (aCons (eVar 0) (aCons (eVar 1) aNil))) (aCons (eCall f__law_one_k28 [] (aCons (eVar 0) (aCons (eVar 1) aNil))) aNil)))
    (sSeq (sAsg 4 (eCall f__law_draw_k28 [] (aCons (eVar 0) (aCons (eC (.int 3)) aNil))))
    (sSeq (sIf (tOfE (eBin opEqA (eCall f__law_draw_k28 [] (aCons (eVar 0) (aCons (eC (.int 3)) aNil))) (eC (.int 0)))) (sRet (eOps tupD (aCons (frz (lComp (itSeq (eVar 2)) (gN 5) sYes (eVar 5) [5])) aNil))) sNext)
    (sRet (eOps tupD (aCons (frz (lComp (itZip (aCons (eVar 2) (aCons (eVar 3) aNil))) (gT [(gN 5), (gN 6)]) sYes (eBin opSubA (eBin opDiv (eBin opAddA (eVar 5) (eVar 6)) (eC (.int 2))) (eVar 4)) [5, 6])) aNil))))))
def f__law_mixed_row : FSem := fnD 7 g__law_mixed_row
def g__law_mark_k28 : SemS :=
    (sSeq (sIf (tOfE (eBin opEqA (eCall f__law_draw_k28 [] (aCons (eVar 0) (aCons (eC (.int 9)) aNil))) (eC (.int 0)))) (sRet (eCall f__law_one_k28 [] (aCons (eVar 0) (aCons (frz (lDisp (aCons (eVar 1) (aCons (eBin opSubA (eC (.int 0)) (eVar 1)) (aCons (eBin opSubA (eVar 1) (eC (.int 1))) (aCons (eBin opSubA (eCall f__law_draw_k28 [] (aCons (eVar 0) (aCons (eBin opAddA (eBin opMulA (eC (.int 2)) (eVar 1)) (eC (.int 1))) aNil))) (eVar 1)) aNil)))))) aNil)))) sNext)
    (sRet (eBin opSubA (eCall f__law_draw_k28 [] (aCons (eVar 0) (aCons (eC (.int 13)) aNil))) (eC (.int 6)))))
def f__law_mark_k28 : FSem := fnD 2 g__law_mark_k28
def g__law_menu_k28 : SemS :=
    (sSeq (sPar 2 3 (aCons (eBin opAddA (eC (.int 2)) (eCall f__law_draw_k28 [] (aCons (eVar 0) (aCons (eC (.int 3)) aNil)))) (aCons (cellL (lDisp aNil)) aNil)))
    (sSeq (sAsg 4 (eCall f__law_one_k28 [] (aCons (eVar 0) (aCons (frz (lDisp (aCons (eC (.int 9)) (aCons (eC (.int 60)) (aCons (eBin opPow (eC (.int 10)) (eC (.int 6))) aNil))))) aNil))))
    (sSeq (sFor (itR1 (aCons (eBin opAddA (eC (.int 1)) (eCall f__law_draw_k28 [] (aCons (eVar 0) (aCons (eVar 1) aNil)))) aNil)) (gN 5)
   (sIf (sAnd (tOfE (eBin opNeA (eVar 3) (frz (lDisp aNil)))) (tOfE (eBin opEqA (eCall f__law_draw_k28 [] (aCons (eVar 0) (aCons (eC (.int 4)) aNil))) (eC (.int 0))))) (sSeq (sAsg 6 (eCall f__law_mixed_row [] (aCons (eVar 0) (aCons (eVar 3) aNil))))
    (sExp (eApp (eVar 3) (eOps tupD (aCons (frz (lComp (itSeq (eVar 6)) (gN 7) sYes (eOps maxD (aCons (eOps intD (aCons (eBin opSubA (eC (.int 0)) (eVar 4)) aNil)) (aCons (eOps intD (aCons (eVar 7) aNil)) aNil))) [7])) aNil))))) (sExp (eApp (eVar 3) (eOps tupD (aCons (frz (lComp (itR1 (aCons (eVar 2) aNil)) (gN 8) sYes (eCall f__law_mark_k28 [] (aCons (eVar 0) (aCons (eVar 4) aNil))) [8])) aNil))))))
    (sRet (eOps tupD (aCons (eVar 3) aNil))))))
def f__law_menu_k28 : FSem := fnD 9 g__law_menu_k28
def g__law_pair_menu : SemS :=
    (sSeq (sAsg 1 (eCall f__law_menu_k28 [] (aCons (eVar 0) (aCons (eC (.int 6)) aNil))))
    (sRet (eIf (tOfE (eBin opGt (eOps lenD (aCons (eVar 1) aNil)) (eC (.int 1)))) (eVar 1) (eBin opAddA (eVar 1) (eTup (aCons (eOps tupD (aCons (frz (lComp (itSeq (eBin opIx (eVar 1) (eC (.int 0)))) (gN 2) sYes (eCall f__law_mark_k28 [] (aCons (eVar 0) (aCons (eC (.int 9)) aNil))) [2])) aNil)) aNil))))))
def f__law_pair_menu : FSem := fnD 3 g__law_pair_menu
def g__law_some_border : SemS :=
    (sSeq (sAsg 2 (eCall f__law_draw_k28 [] (aCons (eVar 0) (aCons (eC (.int 7)) aNil))))
    (sSeq (sIf (tOfE (eBin opEqA (eVar 2) (eC (.int 0)))) (sRet (eBin opMulA (eTup (aCons (eC (.int 0)) aNil)) (eVar 1))) sNext)
    (sSeq (sIf (tOfE (eBin opEqA (eVar 2) (eC (.int 1)))) (sSeq (sAsg 3 (eCall f__law_one_k28 [] (aCons (eVar 0) (aCons (frz (lDisp (aCons (eC (.int 1)) (aCons (eUn opNeg (eC (.int 1))) aNil)))) aNil))))
    (sRet (eOps tupD (aCons (frz (lComp (itR1 (aCons (eVar 1) aNil)) (gN 4) sYes (eBin opMulA (eVar 3) (eCall f__law_draw_k28 [] (aCons (eVar 0) (aCons (eC (.int 2)) aNil)))) [4])) aNil)))) sNext)
    (sRet (eCall f__law_border [] (aCons (eOps tupD (aCons (frz (lComp (itR1 (aCons (eVar 1) aNil)) (gN 4) sYes (eBin opSubA (eCall f__law_draw_k28 [] (aCons (eVar 0) (aCons (eC (.int 9)) aNil))) (eC (.int 4))) [4])) aNil)) aNil))))))
def f__law_some_border : FSem := fnD 5 g__law_some_border
def g__law_drawn_book : SemS :=
    (sSeq (sAsgT (gT [(gN 1), (gN 2)]) (eTup (aCons (eBin opAddA (eC (.int 2)) (eCall f__law_draw_k28 [] (aCons (eVar 0) (aCons (eC (.int 4)) aNil)))) (aCons (eBin opAddA (eC (.int 2)) (eCall f__law_draw_k28 [] (aCons (eVar 0) (aCons (eC (.int 3)) aNil)))) aNil))))
    (sRet (eOps tupD (aCons (frz (lComp (itSeq (eCall f__law_seats [] (aCons (eVar 1) aNil))) (gT [(gN 3), (gN 4)]) sYes (eTup (aCons (eVar 3) (aCons (eVar 4) (aCons (eCall f__law_some_border [] (aCons (eVar 0) (aCons (eVar 2) aNil))) aNil)))) [3, 4])) aNil))))
def f__law_drawn_book : FSem := fnD 5 g__law_drawn_book
def g__law_odd_k34 : SemS :=
    (sSeq (sAsg 1 (frz (lDisp (aCons (eC .non) (aCons (eC (.bl true)) (aCons (eC (.bl false)) (aCons (eC (.int 0)) (aCons (eC (.int 1)) (aCons (eUn opNeg (eC (.int 1))) (aCons (eC (.int 2)) (aCons (eC (.str "")) (aCons (eC (.str "0")) (aCons (eTup aNil) (aCons (frz (lDisp aNil)) (aCons (eC (.dct [])) (aCons (eTup (aCons (eC (.int 1)) aNil)) (aCons (eTup (aCons (eC (.int 0)) (aCons (eC (.int 0)) aNil))) (aCons (eTup (aCons (eC (.int 1)) (aCons (eUn opNeg (eC (.int 1))) aNil))) (aCons (eTup (aCons (eC (.int 1)) (aCons (eC (.int 1)) aNil))) (aCons (eTup (aCons (eC (.int 2)) (aCons (eUn opNeg (eC (.int 2))) aNil))) (aCons (eTup (aCons (eC (.int 0)) (aCons (eC (.int 2)) aNil))) aNil)))))))))))))))))))))
    (sSeq (sAsg 1 (eBin opAddA (eVar 1) (frz (lDisp (aCons (eTup (aCons (eC (.int 0)) (aCons (eC (.int 0)) (aCons (eC (.int 0)) aNil)))) (aCons (eTup (aCons (eC (.int 1)) (aCons (eC (.int 1)) (aCons (eUn opNeg (eC (.int 1))) aNil)))) (aCons (eTup (aCons (eC (.bl true)) (aCons (eUn opNeg (eC (.int 1))) aNil))) (aCons (eTup (aCons (eC (.int 1)) (aCons (eC (.bl false)) aNil))) (aCons (eTup (aCons (eUn opNeg (eC (.int 1))) (aCons (eUn opNeg (eC (.int 1))) aNil))) (aCons (eTup (aCons (eUn opNeg (eC (.int 2))) (aCons (eUn opNeg (eC (.int 2))) aNil))) (aCons (eTup (aCons (eC (.int 0)) (aCons (eUn opNeg (eC (.int 1))) aNil))) (aCons (frz (lDisp (aCons (eC (.int 1)) (aCons (eUn opNeg (eC (.int 1))) aNil)))) (aCons (eTup (aCons (eC (.int 2)) (aCons (eC (.int 0)) aNil))) aNil)))))))))))))
    (sSeq (sAsg 1 (eBin opAddA (eVar 1) (frz (lDisp (aCons (eTup (aCons (eC (.int 0)) (aCons (eC (.int 0)) (aCons (eC (.int 0)) (aCons (eC (.int 0)) (aCons (eC (.int 0)) aNil)))))) (aCons (eTup (aCons (eC (.int 0)) aNil)) (aCons (eTup (aCons (eC (.int 3)) (aCons (eUn opNeg (eC (.int 6))) aNil))) (aCons (eTup (aCons (eC (.str "1")) (aCons (eUn opNeg (eC (.int 1))) aNil))) (aCons (eTup (aCons (eC (.int 1)) (aCons (eC .non) aNil))) (aCons (eTup (aCons (eC (.int 0)) (aCons (eC (.int 1)) (aCons (eTup (aCons (eC (.int 1)) (aCons (eUn opNeg (eC (.int 1))) aNil))) aNil)))) (aCons (eTup (aCons (eC (.int 1)) (aCons (eUn opNeg (eC (.int 1))) (aCons (eC (.int 0)) (aCons (eC (.int 0)) aNil))))) aNil)))))))))))
    (sRet (eCall f__law_one_k28 [] (aCons (eVar 0) (aCons (eBin opAddA (eVar 1) (frz (lDisp (aCons (eTup (aCons (eBin opPow (eC (.int 10)) (eC (.int 30))) (aCons (eUn opNeg (eC (.int 1))) aNil))) (aCons (eTup (aCons (eC (.int 1)) (aCons (eUn opNeg (eBin opPow (eC (.int 10)) (eC (.int 30)))) (aCons (eC (.int 0)) aNil)))) aNil))))) aNil)))))))
def f__law_odd_k34 : FSem := fnD 2 g__law_odd_k34
def g__law_bent_k34 (rec : FSem) : SemS :=
    (sSeq (sIf (sOr (tOfE (eBin opEqA (eVar 2) (eC (.int 0)))) (sOr (sNot (tOfE (eUn (isiD "tuple") (eVar 1)))) (sOr (tOfE (eBin opEqA (eVar 1) (eTup aNil))) (tOfE (eBin opEqA (eCall f__law_draw_k28 [] (aCons (eVar 0) (aCons (eC (.int 6)) aNil))) (eC (.int 0))))))) (sRet (eCall f__law_odd_k34 [] (aCons (eVar 0) aNil))) sNext)
    (sSeq (sPar 3 4 (aCons (eCall f__law_draw_k28 [] (aCons (eVar 0) (aCons (eOps lenD (aCons (eVar 1) aNil)) aNil))) (aCons (eCall f__law_draw_k28 [] (aCons (eVar 0) (aCons (eC (.int 12)) aNil))) aNil)))
    (sSeq (sIf (tOfE (eBin opEqA (eVar 4) (eC (.int 0)))) (sRet (eBin opAddA (eSl opSl (eVar 1) oNone (oSome (eVar 3))) (eSl opSl (eVar 1) (oSome (eBin opAddA (eVar 3) (eC (.int 1)))) oNone))) sNext)
    (sSeq (sIf (tOfE (eBin opEqA (eVar 4) (eC (.int 1)))) (sRet (eBin opAddA (eBin opAddA (eSl opSl (eVar 1) oNone (oSome (eVar 3))) (eSl opSl (eVar 1) (oSome (eVar 3)) (oSome (eBin opAddA (eVar 3) (eC (.int 1)))))) (eSl opSl (eVar 1) (oSome (eVar 3)) oNone))) sNext)
    (sSeq (sIf (tOfE (eBin opEqA (eVar 4) (eC (.int 2)))) (sRet (frz (eOps lstD (aCons (eVar 1) aNil)))) sNext)
    (sSeq (sIf (tOfE (eBin opEqA (eVar 4) (eC (.int 3)))) (sRet (eUn opRev (eVar 1))) sNext)
    (sRet (eBin opAddA (eBin opAddA (eSl opSl (eVar 1) oNone (oSome (eVar 3))) (eTup (aCons (eCall rec [] (aCons (eVar 0) (aCons (eBin opIx (eVar 1) (eVar 3)) (aCons (eBin opSubA (eVar 2) (eC (.int 1))) aNil)))) aNil))) (eSl opSl (eVar 1) (oSome (eBin opAddA (eVar 3) (eC (.int 1)))) oNone)))))))))
def f__law_bent_k34 : Nat → FSem
  | 0 => fun _ _ => .stuck
  | n + 1 => fnD 5 (g__law_bent_k34 (f__law_bent_k34 n))
def g__law_words : SemS :=
    (sRet (eBin opAddA (eIdx (frz (lDisp (aCons (eC (.int 1)) (aCons (eC (.int 3)) (aCons (eC (.int 6)) (aCons (eC (.int 10)) (aCons (eC (.int 15)) aNil))))))) (eOps lenD (aCons (eVar 0) aNil))) (eC (.int 2))))
def f__law_words : FSem := fnD 1 g__law_words
def g__law_whole_k34 : SemS :=
    (sRet (vAnd (eUn (isiD "int") (eVar 0)) (vNot (eUn (isiD "bool") (eVar 0)))))
def f__law_whole_k34 : FSem := fnD 1 g__law_whole_k34
def g_is_whole : SemS :=
    (sRet (vAnd (eUn (isiD "int") (eVar 0)) (vNot (eUn (isiD "bool") (eVar 0)))))
def f_is_whole : FSem := fnD 1 g_is_whole
def g_is_whole_row : SemS :=
    (sRet (vAnd (eUn (isiD "tuple") (eVar 0)) (vAnd (eBin opEqA (eOps lenD (aCons (eVar 0) aNil)) (eVar 1)) (eOps allD (aCons (frz (lComp (itSeq (eVar 0)) (gN 2) sYes (eCall f_is_whole [] (aCons (eVar 2) aNil)) [2])) aNil)))))
def f_is_whole_row : FSem := fnD 3 g_is_whole_row
def g_least_of : SemS :=
    (sRet (eOps minD (aCons (frz (lComp (itSeq (eVar 0)) (gN 1) sYes (eOps intD (aCons (eVar 1) aNil)) [1])) aNil)))
def f_least_of : FSem := fnD 2 g_least_of
def g_most_of : SemS :=
    (sRet (eOps maxD (aCons (frz (lComp (itSeq (eVar 0)) (gN 1) sYes (eOps intD (aCons (eVar 1) aNil)) [1])) aNil)))
def f_most_of : FSem := fnD 2 g_most_of
def g_is_cutting : SemS :=
    (sRet (eChain opLt opLt (eCall f_least_of [] (aCons (eVar 0) aNil)) (eC (.int 0)) (eCall f_most_of [] (aCons (eVar 0) aNil))))
def f_is_cutting : FSem := fnD 1 g_is_cutting
def g_divisor_of : SemS :=
    (sSeq (sAsg 1 (eC (.int 0)))
    (sSeq (sFor (itSeq (eVar 0)) (gN 2)
   (sSeq (sAsg 3 (eOps absDA (aCons (eVar 2) aNil)))
    (sWhile (tOfE (eBin opNeA (eVar 3) (eC (.int 0))))
   (sPar 1 3 (aCons (eVar 3) (aCons (eBin opMod (eVar 1) (eVar 3)) aNil))))))
    (sRet (eVar 1))))
def f_divisor_of : FSem := fnD 4 g_divisor_of
def g_primitive : SemS :=
    (sSeq (sAsg 1 (eCall f_divisor_of [] (aCons (eVar 0) aNil)))
    (sRet (eOps tupD (aCons (frz (lComp (itSeq (eVar 0)) (gN 2) sYes (eBin opDiv (eVar 2) (eVar 1)) [2])) aNil))))
def f_primitive : FSem := fnD 3 g_primitive
def g_border_of : SemS :=
    (sSeq (sIf (tOfE (eCall f_is_cutting [] (aCons (eVar 0) aNil))) (sRet (eCall f_primitive [] (aCons (eVar 0) aNil))) sNext)
    (sRet (eOps tupD (aCons (frz (lComp (itSeq (eVar 0)) (gN 1) sYes (eBin opSubA (eOps intD (aCons (eBin opGt (eVar 1) (eC (.int 0))) aNil)) (eOps intD (aCons (eBin opLt (eVar 1) (eC (.int 0))) aNil))) [1])) aNil))))
def f_border_of : FSem := fnD 2 g_border_of
def g__law_opened : SemS :=
    (sSeq (sAsg 1 (frz (lComp (itSeq (eSl opSl (eVar 0) oNone (oSome (eC (.int 63))))) (gN 4) sYes (eOps absDA (aCons (eVar 4) aNil)) [4])))
    (sSeq (sAsg 2 (frz (lComp (itSeq (eVar 1)) (gN 4) (tOfE (eBin opLt (eVar 4) (eBin opPow (eC (.int 10)) (eC (.int 18))))) (eVar 4) [4])))
    (sSeq (sAsg 3 (cellL (lComp (itSeq (eVar 1)) (gN 4) (tOfE (eBin opGe (eVar 4) (eBin opPow (eC (.int 10)) (eC (.int 18))))) (eVar 4) [4])))
    (sRet (eDctC (noXP (pCons (.inr "great") (eVar 3) (pCons (.inr "small") (eBin opAddA (eVar 2) (eBin opMulA (frz (lDisp (aCons (eC (.int 211)) aNil))) (eOps intD (aCons (eBin opEqA (eVar 2) (frz (lDisp aNil))) aNil)))) (pCons (.inr "turn") (eC (.int 0)) pNil)))))))))
def f__law_opened : FSem := fnD 5 g__law_opened
def g__law_draw : SemS :=
    (sSeq (sAsg 2 (eBin opDget (eVar 0) (eC (.str "great"))))
    (sSeq (sWhile (tOfE (eBin opNeA (eVar 2) (frz (lDisp aNil))))
   (sSeq (sIf (tOfE (eBin opGt (eBin opIx (eVar 2) (eUn opNeg (eC (.int 1)))) (eC (.int 0)))) (sSeq (sAsg 3 (eBin opMod (eOps intD (aCons (eBin opIx (eVar 2) (eUn opNeg (eC (.int 1)))) aNil)) (eVar 1)))
    (sSeq (sSetI (eVar 2) (eUn opNeg (eC (.int 1))) (eBin opDiv (eOps intD (aCons (eBin opIx (eVar 2) (eUn opNeg (eC (.int 1)))) aNil)) (eVar 1)))
    (sRet (eVar 3)))) sNext)
    (sExp (ePop (eVar 2)))))
    (sSeq (sDPut (eVar 0) (eC (.str "turn")) (eBin opAddA (eBin opDget (eVar 0) (eC (.str "turn"))) (eC (.int 1))))
    (sSeq (sAsg 4 (eBin opIx (eBin opDget (eVar 0) (eC (.str "small"))) (eBin opMod (eOps intD (aCons (eBin opDget (eVar 0) (eC (.str "turn"))) aNil)) (eOps lenD (aCons (eBin opDget (eVar 0) (eC (.str "small"))) aNil)))))
    (sSeq (sAsg 5 (eBin opAddA (eBin opMulA (eVar 4) (eC (.int 6364136223846793005))) (eBin opMulA (eBin opDget (eVar 0) (eC (.str "turn"))) (eC (.int 1442695040888963407)))))
    (sSeq (sAsg 5 (eBin opMod (eOps intD (aCons (eVar 5) aNil)) (eC (.int 18446744073709551557))))
    (sSeq (sAsg 5 (eBin opMod (eOps intD (aCons (eBin opMulA (eVar 5) (eBin opAddA (eBin opDiv (eVar 5) (eC (.int 4294967296))) (eC (.int 17)))) aNil)) (eC (.int 18446744073709551557))))
    (sRet (eBin opMod (eOps intD (aCons (eBin opDiv (eVar 5) (eC (.int 65536))) aNil)) (eVar 1))))))))))
def f__law_draw : FSem := fnD 6 g__law_draw
def g__law_one : SemS :=
    (sRet (eBin opIx (eVar 1) (eCall f__law_draw [] (aCons (eVar 0) (aCons (eOps lenD (aCons (eVar 1) aNil)) aNil)))))
def f__law_one : FSem := fnD 2 g__law_one
def g_is_integer : SemS :=
    (sSeq (sIf (sOr (sNot (tOfE (eUn (isiD "int") (eVar 0)))) (sOr (tOfE (eUn (isiD "bool") (eVar 0))) (tOfE (eBin opLt (eVar 0) (eVar 1))))) (sRet (eC (.bl false))) sNext)
    (sRet (vOr (eBin opIsN (eVar 2) (eC .non)) (eBin opLe (eVar 0) (eVar 2)))))
def f_is_integer : FSem := fnD 3 g_is_integer
def g__law_mark : SemS :=
    (sSeq (sAsg 1 (eCall f__law_draw [] (aCons (eVar 0) (aCons (eC (.int 8)) aNil))))
    (sSeq (sIf (tOfE (eBin opLt (eVar 1) (eC (.int 6)))) (sRet (eBin opSubA (eCall f__law_draw [] (aCons (eVar 0) (aCons (eC (.int 9)) aNil))) (eC (.int 4)))) sNext)
    (sRet (eIf (tOfE (eBin opEqA (eVar 1) (eC (.int 6)))) (eBin opSubA (eCall f__law_draw [] (aCons (eVar 0) (aCons (eBin opAddA (eBin opMulA (eC (.int 2)) (eBin opPow (eC (.int 10)) (eC (.int 6)))) (eC (.int 1))) aNil))) (eBin opPow (eC (.int 10)) (eC (.int 6)))) (eCall f__law_one [] (aCons (eVar 0) (aCons (frz (lDisp (aCons (eBin opPow (eC (.int 10)) (eC (.int 6))) (aCons (eUn opNeg (eBin opPow (eC (.int 10)) (eC (.int 6)))) aNil)))) aNil)))))))
def f__law_mark : FSem := fnD 2 g__law_mark
def g__law_row : SemS :=
    (sRet (eOps tupD (aCons (frz (lComp (itR1 (aCons (eVar 1) aNil)) (gN 2) sYes (eCall f__law_mark [] (aCons (eVar 0) aNil)) [2])) aNil)))
def f__law_row : FSem := fnD 3 g__law_row
def g__law_menu : SemS :=
    (sSeq (sPar 2 3 (aCons (eBin opAddA (eC (.int 2)) (eCall f__law_draw [] (aCons (eVar 0) (aCons (eC (.int 3)) aNil)))) (aCons (cellL (lDisp aNil)) aNil)))
    (sSeq (sFor (itR1 (aCons (eBin opAddA (eC (.int 1)) (eCall f__law_draw [] (aCons (eVar 0) (aCons (eVar 1) aNil)))) aNil)) (gN 4)
   (sExp (eApp (eVar 3) (eIf (sAnd (tOfE (eBin opNeA (eVar 3) (frz (lDisp aNil)))) (tOfE (eBin opEqA (eCall f__law_draw [] (aCons (eVar 0) (aCons (eC (.int 7)) aNil))) (eC (.int 0))))) (eCall f__law_one [] (aCons (eVar 0) (aCons (eVar 3) aNil))) (eCall f__law_row [] (aCons (eVar 0) (aCons (eVar 2) aNil)))))))
    (sRet (eOps tupD (aCons (eVar 3) aNil)))))
def f__law_menu : FSem := fnD 5 g__law_menu
def g__law_whole : SemS :=
    (sRet (vAnd (eUn (isiD "int") (eVar 0)) (vAnd (vNot (eUn (isiD "bool") (eVar 0))) (eChain opLe opLe (eVar 1) (eVar 0) (eVar 2)))))
def f__law_whole : FSem := fnD 3 g__law_whole
def g__law_odd : SemS :=
    (sSeq (sAsg 1 (frz (lDisp (aCons (eC .non) (aCons (eC (.bl true)) (aCons (eC (.bl false)) (aCons (eUn opNeg (eC (.int 1))) (aCons (eC (.int 0)) (aCons (eC (.int 1)) (aCons (eC (.int 2)) (aCons (eC (.int 7)) (aCons (eC (.int 8)) (aCons (eBin opPow (eC (.int 10)) (eC (.int 6))) (aCons (eBin opAddA (eBin opPow (eC (.int 10)) (eC (.int 6))) (eC (.int 1))) (aCons (eBin opSubA (eUn opNeg (eBin opPow (eC (.int 10)) (eC (.int 6)))) (eC (.int 1))) (aCons (eBin opPow (eC (.int 10)) (eC (.int 39))) (aCons (eC (.str "")) (aCons (eC (.str "1,2")) (aCons (eC (.str "1:2")) (aCons (eTup aNil) aNil))))))))))))))))))))
    (sSeq (sAsg 1 (eBin opAddA (eVar 1) (frz (lDisp (aCons (eTup (aCons (eC (.int 0)) aNil)) (aCons (eTup (aCons (eC (.int 0)) (aCons (eC (.int 1)) aNil))) (aCons (eTup (aCons (eC (.int 1)) (aCons (eC (.int 0)) aNil))) (aCons (eTup (aCons (eC (.int 2)) (aCons (eC (.int 2)) aNil))) (aCons (eTup (aCons (eC (.int 0)) (aCons (eC (.int 0)) aNil))) (aCons (eTup (aCons (eC (.int 1)) (aCons (eC (.int 2)) (aCons (eC (.int 3)) aNil)))) (aCons (eTup (aCons (eC (.int 1)) (aCons (eC (.int 1)) (aCons (eC (.int 1)) (aCons (eC (.int 1)) aNil))))) (aCons (eTup (aCons (eC (.int 1)) (aCons (eC (.int 2)) (aCons (eC (.int 3)) (aCons (eC (.int 4)) (aCons (eC (.int 5)) aNil)))))) (aCons (eTup (aCons (eC (.bl true)) (aCons (eC (.int 0)) aNil))) (aCons (eTup (aCons (eC (.int 0)) (aCons (eUn opNeg (eC (.int 1))) aNil))) aNil))))))))))))))
    (sSeq (sAsg 1 (eBin opAddA (eVar 1) (frz (lDisp (aCons (frz (lDisp aNil)) (aCons (frz (lDisp (aCons (eC (.int 0)) (aCons (eC (.int 1)) aNil)))) (aCons (eC (.dct [])) (aCons (eDct (noXP (pCons (.inr "0") (eTup (aCons (eC (.int 0)) (aCons (eC (.int 1)) aNil))) pNil))) (aCons (eTup (aCons (eTup aNil) aNil)) (aCons (eTup (aCons (eTup (aCons (eC (.int 1)) (aCons (eC (.int 0)) aNil))) (aCons (eTup (aCons (eC (.int 0)) (aCons (eC (.int 1)) aNil))) aNil))) (aCons (eTup (aCons (eC .non) (aCons (eC (.int 0)) aNil))) (aCons (eTup (aCons (eC (.str "1")) (aCons (eC (.str "0")) aNil))) (aCons (eTup (aCons (eTup (aCons (eC (.int 1)) (aCons (eC (.int 2)) aNil))) (aCons (eC (.int 3)) aNil))) aNil)))))))))))))
    (sRet (eCall f__law_one [] (aCons (eVar 0) (aCons (eVar 1) aNil)))))))
def f__law_odd : FSem := fnD 2 g__law_odd
def g__law_other : SemS :=
    (sSeq (sIf (sAnd (tOfE (eUn (isiD "tuple") (eVar 1))) (tOfE (eBin opGt (eCall f__law_draw [] (aCons (eVar 0) (aCons (eC (.int 3)) aNil))) (eC (.int 0))))) (sSeq (sAsg 2 (eCall f__law_draw [] (aCons (eVar 0) (aCons (eBin opAddA (eOps lenD (aCons (eVar 1) aNil)) (eC (.int 1))) aNil))))
    (sSeq (sAsg 3 (frz (lDisp (aCons (frz (eOps lstD (aCons (eVar 1) aNil))) (aCons (eSl opSl (eVar 1) oNone (oSome (eUn opNeg (eC (.int 1))))) (aCons (eSl opSl (eVar 1) (oSome (eC (.int 1))) oNone) (aCons (eBin opAddA (eVar 1) (eSl opSl (eVar 1) oNone (oSome (eC (.int 1))))) (aCons (eBin opAddA (eVar 1) (eVar 1)) (aCons (eBin opAddA (eSl opSl (eVar 1) oNone (oSome (eVar 2))) (eTup (aCons (eCall f__law_odd [] (aCons (eVar 0) aNil)) aNil))) aNil)))))))))
    (sRet (eCall f__law_one [] (aCons (eVar 0) (aCons (eBin opAddA (eVar 3) (frz (lDisp (aCons (eBin opAddA (eSl opSl (eVar 1) oNone (oSome (eVar 2))) (eSl opSl (eVar 1) (oSome (eBin opAddA (eVar 2) (eC (.int 1)))) oNone)) (aCons (eUn opRev (eVar 1)) (aCons (eBin opAddA (eSl opSl (eVar 1) oNone (oSome (eVar 2))) (eBin opMulA (eSl opSl (eSl opSl (eVar 1) (oSome (eVar 2)) oNone) oNone (oSome (eC (.int 1)))) (eC (.int 2)))) aNil)))))) aNil)))))) sNext)
    (sSeq (sIf (sAnd (tOfE (eUn (isiD "int") (eVar 1))) (tOfE (eBin opGt (eCall f__law_draw [] (aCons (eVar 0) (aCons (eC (.int 3)) aNil))) (eC (.int 0))))) (sSeq (sAsg 4 (eIf (tOfE (eBin opLt (eOps absDA (aCons (eVar 1) aNil)) (eBin opPow (eC (.int 10)) (eC (.int 12))))) (eBin opMulA (eVar 1) (eBin opPow (eC (.int 10)) (eC (.int 6)))) (eC (.int 7))))
    (sRet (eCall f__law_one [] (aCons (eVar 0) (aCons (frz (lDisp (aCons (eBin opAddA (eVar 1) (eC (.int 1))) (aCons (eBin opSubA (eVar 1) (eC (.int 1))) (aCons (eBin opSubA (eC (.int 0)) (eVar 1)) (aCons (eBin opEqA (eVar 1) (eC (.int 1))) (aCons (eOps strDA (aCons (eVar 1) aNil)) (aCons (eVar 4) (aCons (frz (lDisp (aCons (eVar 1) aNil))) aNil))))))))) aNil))))) sNext)
    (sRet (eCall f__law_odd [] (aCons (eVar 0) aNil)))))
def f__law_other : FSem := fnD 5 g__law_other
def g__law_bent (rec : FSem) : SemS :=
    (sSeq (sIf (sOr (tOfE (eBin opEqA (eVar 2) (eC (.int 0)))) (sOr (sNot (tOfE (eUn (isiD "tuple") (eVar 1)))) (sOr (tOfE (eBin opEqA (eVar 1) (eTup aNil))) (tOfE (eBin opEqA (eCall f__law_draw [] (aCons (eVar 0) (aCons (eC (.int 5)) aNil))) (eC (.int 0))))))) (sRet (eCall f__law_other [] (aCons (eVar 0) (aCons (eVar 1) aNil)))) sNext)
    (sSeq (sAsg 3 (eCall f__law_draw [] (aCons (eVar 0) (aCons (eOps lenD (aCons (eVar 1) aNil)) aNil))))
    (sRet (eBin opAddA (eBin opAddA (eSl opSl (eVar 1) oNone (oSome (eVar 3))) (eTup (aCons (eCall rec [] (aCons (eVar 0) (aCons (eBin opIx (eVar 1) (eVar 3)) (aCons (eBin opSubA (eVar 2) (eC (.int 1))) aNil)))) aNil))) (eSl opSl (eVar 1) (oSome (eBin opAddA (eVar 3) (eC (.int 1)))) oNone)))))
def f__law_bent : Nat → FSem
  | 0 => fun _ _ => .stuck
  | n + 1 => fnD 4 (g__law_bent (f__law_bent n))
def g_is_belief : SemS :=
    (sSeq (sIf (sOr (sNot (tOfE (eUn (isiD "tuple") (eVar 1)))) (tOfE (eBin opNeA (eOps lenD (aCons (eVar 1) aNil)) (eOps lenD (aCons (eBin opIx (eVar 0) (eC (.int 0))) aNil))))) (sRet (eC (.bl false))) sNext)
    (sRet (vAnd (eOps allD (aCons (frz (lComp (itSeq (eVar 1)) (gN 2) sYes (eCall f_is_integer [.non] (aCons (eVar 2) (aCons (eC (.int 0)) aNil))) [2])) aNil)) (eBin opEqA (eCall f_divisor_of [] (aCons (eVar 1) aNil)) (eC (.int 1))))))
def f_is_belief : FSem := fnD 3 g_is_belief
def g_belief_of : SemS :=
    (sRet (eCall f_primitive [] (aCons (eVar 0) aNil)))
def f_belief_of : FSem := fnD 1 g_belief_of
def g__law_least : SemS :=
    (sSeq (sAsg 1 (eC (.int 0)))
    (sSeq (sFor (itSeq (eVar 0)) (gN 2)
   (sSeq (sPar 3 4 (aCons (eVar 1) (aCons (eOps absDA (aCons (eVar 2) aNil)) aNil)))
    (sSeq (sWhile (tOfE (eBin opNeA (eVar 4) (eC (.int 0))))
   (sPar 3 4 (aCons (eVar 4) (aCons (eBin opSubA (eVar 3) (eBin opMulA (eBin opDiv (eVar 3) (eVar 4)) (eVar 4))) aNil))))
    (sAsg 1 (eVar 3)))))
    (sRet (eVar 1))))
def f__law_least : FSem := fnD 5 g__law_least
def g__law_prim : SemS :=
    (sSeq (sAsg 1 (eCall f__law_least [] (aCons (eVar 0) aNil)))
    (sRet (eOps tupD (aCons (frz (lComp (itSeq (eVar 0)) (gN 2) sYes (eBin opDiv (eVar 2) (eVar 1)) [2])) aNil))))
def f__law_prim : FSem := fnD 3 g__law_prim
def g__law_belief : SemS :=
    (sSeq (sAsg 2 (eCall f__law_draw [] (aCons (eVar 0) (aCons (eC (.int 6)) aNil))))
    (sSeq (sIf (tOfE (eBin opEqA (eVar 2) (eC (.int 0)))) (sSeq (sAsg 3 (eCall f__law_draw [] (aCons (eVar 0) (aCons (eVar 1) aNil))))
    (sRet (eOps tupD (aCons (frz (lComp (itR1 (aCons (eVar 1) aNil)) (gN 6) sYes (eOps intD (aCons (eBin opEqA (eVar 6) (eVar 3)) aNil)) [6])) aNil)))) sNext)
    (sSeq (sAsg 4 (eCall f__law_one [] (aCons (eVar 0) (aCons (frz (lDisp (aCons (eC (.int 2)) (aCons (eC (.int 4)) (aCons (eC (.int 10)) (aCons (eBin opAddA (eBin opPow (eC (.int 10)) (eC (.int 6))) (eC (.int 1))) (aCons (eBin opPow (eC (.int 10)) (eC (.int 20))) aNil))))))) aNil))))
    (sSeq (sAsg 5 (frz (lComp (itR1 (aCons (eVar 1) aNil)) (gN 6) sYes (eCall f__law_draw [] (aCons (eVar 0) (aCons (eVar 4) aNil))) [6])))
    (sRet (eCall f__law_prim [] (aCons (eIf (tOfE (eBin opGt (eOps sumDA (aCons (eVar 5) aNil)) (eC (.int 0)))) (eVar 5) (eBin opMulA (frz (lDisp (aCons (eC (.int 1)) aNil))) (eVar 1))) aNil)))))))
def f__law_belief : FSem := fnD 7 g__law_belief
def g__law_is_belief : SemS :=
    (sSeq (sIf (sOr (sNot (tOfE (eUn (isiD "tuple") (eVar 1)))) (tOfE (eBin opNeA (eOps lenD (aCons (eVar 1) aNil)) (eOps lenD (aCons (eBin opIx (eVar 0) (eC (.int 0))) aNil))))) (sRet (eC (.bl false))) sNext)
    (sSeq (sIf (tOfE (eBin opIn (eC (.bl false)) (frz (lComp (itSeq (eVar 1)) (gN 2) sYes (eCall f__law_whole [] (aCons (eVar 2) (aCons (eC (.int 0)) (aCons (eVar 2) aNil)))) [2])))) (sRet (eC (.bl false))) sNext)
    (sRet (eBin opEqA (eCall f__law_least [] (aCons (eVar 1) aNil)) (eC (.int 1))))))
def f__law_is_belief : FSem := fnD 3 g__law_is_belief
def g_fraction : SemS :=
    (sRet (eCall f_primitive [] (aCons (eTup (aCons (eVar 0) (aCons (eVar 1) aNil))) aNil)))
def f_fraction : FSem := fnD 2 g_fraction
def g_product : SemS :=
    (sRet (eOps sumDA (aCons (frz (lComp (itZip (aCons (eVar 0) (aCons (eVar 1) aNil))) (gT [(gN 2), (gN 3)]) sYes (eBin opMulA (eVar 2) (eVar 3)) [2, 3])) aNil)))
def f_product : FSem := fnD 4 g_product
def g_require_word : SemS :=
    (sIf (sNot (tOfE (eCall f_is_integer [] (aCons (eVar 1) (aCons (eC (.int 0)) (aCons (eBin opSubA (eOps lenD (aCons (eVar 0) aNil)) (eC (.int 1))) aNil)))))) (sRaise "NoWord" ["given"] (aCons (eVar 1) aNil)) sNext)
def f_require_word : FSem := fnD 2 g_require_word
def g_require_belief : SemS :=
    (sIf (sNot (tOfE (eCall f_is_belief [] (aCons (eVar 0) (aCons (eVar 1) aNil))))) (sRaise "BadBelief" ["given"] (aCons (eVar 1) aNil)) sNext)
def f_require_belief : FSem := fnD 2 g_require_belief
def g_loss_at : SemS :=
    (sSeq (sAsg 3 (eCall f_most_of [] (aCons (frz (lComp (itSeq (eVar 0)) (gN 4) sYes (eCall f_product [] (aCons (eVar 4) (aCons (eVar 2) aNil))) [4])) aNil)))
    (sRet (eCall f_fraction [] (aCons (eBin opSubA (eVar 3) (eCall f_product [] (aCons (eBin opIx (eVar 0) (eVar 1)) (aCons (eVar 2) aNil)))) (aCons (eOps sumDA (aCons (eVar 2) aNil)) aNil)))))
def f_loss_at : FSem := fnD 5 g_loss_at
def g_loss : SemS :=
    (sSeq (sExp (eCall f_require_word [] (aCons (eVar 0) (aCons (eVar 1) aNil))))
    (sSeq (sExp (eCall f_require_belief [] (aCons (eVar 0) (aCons (eVar 2) aNil))))
    (sRet (eCall f_loss_at [] (aCons (eVar 0) (aCons (eVar 1) (aCons (eVar 2) aNil)))))))
def f_loss : FSem := fnD 3 g_loss
def g__law_sum : SemS :=
    (sRet (eOps sumDA (aCons (frz (lComp (itZip (aCons (eVar 0) (aCons (eVar 1) aNil))) (gT [(gN 2), (gN 3)]) sYes (eBin opMulA (eVar 2) (eVar 3)) [2, 3])) aNil)))
def f__law_sum : FSem := fnD 4 g__law_sum
def g__law_belief_k28 : SemS :=
    (sSeq (sAsg 2 (eCall f__law_draw_k28 [] (aCons (eVar 0) (aCons (eC (.int 5)) aNil))))
    (sSeq (sIf (tOfE (eBin opEqA (eVar 2) (eC (.int 0)))) (sSeq (sAsg 3 (eCall f__law_draw_k28 [] (aCons (eVar 0) (aCons (eVar 1) aNil))))
    (sRet (eOps tupD (aCons (frz (lComp (itR1 (aCons (eVar 1) aNil)) (gN 6) sYes (eOps intD (aCons (eBin opEqA (eVar 6) (eVar 3)) aNil)) [6])) aNil)))) sNext)
    (sSeq (sAsg 4 (eIf (tOfE (eBin opLt (eVar 2) (eC (.int 4)))) (eCall f__law_one_k28 [] (aCons (eVar 0) (aCons (frz (lDisp (aCons (eC (.int 2)) (aCons (eC (.int 3)) (aCons (eC (.int 7)) aNil))))) aNil))) (eBin opPow (eC (.int 10)) (eC (.int 20)))))
    (sSeq (sAsg 5 (frz (lComp (itR1 (aCons (eVar 1) aNil)) (gN 6) sYes (eCall f__law_draw_k28 [] (aCons (eVar 0) (aCons (eVar 4) aNil))) [6])))
    (sRet (eIf (tOfE (eBin opGt (eCall f__law_most [] (aCons (eVar 5) aNil)) (eC (.int 0)))) (eCall f__law_primitive_k28 [] (aCons (eVar 5) aNil)) (eBin opMulA (eTup (aCons (eC (.int 1)) aNil)) (eVar 1))))))))
def f__law_belief_k28 : FSem := fnD 7 g__law_belief_k28
def g__law_fraction : SemS :=
    (sRet (eCall f__law_primitive_k28 [] (aCons (eTup (aCons (eVar 0) (aCons (eVar 1) aNil))) aNil)))
def f__law_fraction : FSem := fnD 2 g__law_fraction
def g__law_loss : SemS :=
    (sSeq (sAsg 3 (frz (lComp (itSeq (eVar 0)) (gN 4) sYes (eCall f__law_sum [] (aCons (eVar 4) (aCons (eVar 2) aNil))) [4])))
    (sRet (eCall f__law_fraction [] (aCons (eBin opSubA (eCall f__law_most [] (aCons (eVar 3) aNil)) (eBin opIx (eVar 3) (eVar 1))) (aCons (eOps sumDA (aCons (eVar 2) aNil)) aNil)))))
def f__law_loss : FSem := fnD 5 g__law_loss
def g_tops_of : SemS :=
    (sRet (eOps tupD (aCons (frz (lComp (itR1 (aCons (eOps lenD (aCons (eBin opIx (eVar 0) (eC (.int 0))) aNil)) aNil)) (gN 1) sYes (eCall f_most_of [] (aCons (frz (lComp (itSeq (eVar 0)) (gN 2) sYes (eBin opIx (eVar 2) (eVar 1)) [2])) aNil)) [1])) aNil)))
def f_tops_of : FSem := fnD 3 g_tops_of
def g_greatest_loss : SemS :=
    (sSeq (sExp (eCall f_require_word [] (aCons (eVar 0) (aCons (eVar 1) aNil))))
    (sSeq (sAsg 2 (frz (lComp (itZip (aCons (eCall f_tops_of [] (aCons (eVar 0) aNil)) (aCons (eBin opIx (eVar 0) (eVar 1)) aNil))) (gT [(gN 3), (gN 4)]) sYes (eBin opSubA (eVar 3) (eVar 4)) [3, 4])))
    (sRet (eTup (aCons (eCall f_most_of [] (aCons (eVar 2) aNil)) (aCons (eIdx (eVar 2) (eCall f_most_of [] (aCons (eVar 2) aNil))) aNil))))))
def f_greatest_loss : FSem := fnD 5 g_greatest_loss
def g_steady : SemS :=
    (sSeq (sAsg 1 (frz (lComp (itR1 (aCons (eOps lenD (aCons (eVar 0) aNil)) aNil)) (gN 2) sYes (eBin opIx (eCall f_greatest_loss [] (aCons (eVar 0) (aCons (eVar 2) aNil))) (eC (.int 0))) [2])))
    (sRet (eTup (aCons (eIdx (eVar 1) (eCall f_least_of [] (aCons (eVar 1) aNil))) (aCons (eCall f_least_of [] (aCons (eVar 1) aNil)) aNil)))))
def f_steady : FSem := fnD 3 g_steady
end Sm
end

set_option Elab.async false
set_option linter.all false
set_option maxRecDepth 100000
set_option maxHeartbeats 1000000
noncomputable section
namespace Sp
open PySem PySem.Spec PyProof.Rows L2 Fk Sm
/-! ### the box -/
def st (g sm : List Int) (t : Int) (T : Store) : Store := .lst true (g.map D.int) :: .dK [(.inr "great", .ref 0), (.inr "small", .lst (sm.map D.int)), (.inr "turn", .int t)] :: T
def Bx (n : Nat) (T S : Store) : Prop := ∃ g sm t, S = st g sm t T ∧ (∀ x ∈ g, 0 ≤ x) ∧ sm ≠ [] ∧ (∀ x ∈ sm, 0 ≤ x ∧ x < 10 ^ 18) ∧ 0 ≤ t ∧ t ≤ n ∧ sm.length ≤ 64
theorem Bx.mono {n m : Nat} {T S : Store} (h : Bx n T S) (hm : n ≤ m) : Bx m T S := by
  obtain ⟨g, sm, t, e, h1, h2, h3, h4, h5, h6⟩ := h
  exact ⟨g, sm, t, e, h1, h2, h3, h4, by omega, h6⟩
theorem Bx.len {n : Nat} {T S : Store} (h : Bx n T S) : S.length = T.length + 2 := by
  obtain ⟨g, sm, t, rfl, _⟩ := h
  rfl
section
variable {g sm : List Int} {t : Int} {T : Store}
theorem get_great : opDget (.ref 1) (.str "great") (st g sm t T) = some (.ref 0) := rfl
theorem get_small : opDget (.ref 1) (.str "small") (st g sm t T) = some (.lst (sm.map D.int)) := rfl
theorem get_turn : opDget (.ref 1) (.str "turn") (st g sm t T) = some (.int t) := rfl
theorem put_turn {u : Int} : dputC (.ref 1) (.str "turn") (.int u) (st g sm t T) = some (st g sm u T) := rfl
theorem datInts : ∀ g : List Int, datAll (g.map D.int) = some (g.map PyData.int)
  | [] => by simp [datAll]
  | i :: g => by simp [datAll, dat, datInts g]
theorem layInts : ∀ g : List Int, PyData.canLayAll0 (g.map PyData.int) = true
  | [] => by simp [PyData.canLayAll0]
  | i :: g => by simp [PyData.canLayAll0, PyData.canLay0, layInts g]
theorem depInts : ∀ g : List Int, PyData.depthAll (g.map PyData.int) = 0
  | [] => by simp [PyData.depthAll]
  | i :: g => by simp [PyData.depthAll, PyData.depth, depInts g]
theorem shInts (g : List Int) : SeqAt.shaped (.list (g.map PyData.int)) = true := by
  simp [SeqAt.shaped, PyData.canLay0, layInts, PyData.depth, depInts]
theorem ne_great : opNeA (.ref 0) (.lst []) (st g sm t T) = some (.bl (!g.isEmpty)) := by
  have e1 : dr (st g sm t T) (.ref 0) = .lst (g.map D.int) := rfl
  have e2 : dr (st g sm t T) (.lst []) = .lst [] := rfl
  rw [neA_of rfl]
  unfold opNe neD
  rw [e1, e2]
  simp only [dat, datInts, datAll, Option.map_some, Option.bind_some]
  have e3 : SeqAt.shaped (.list []) = true := shInts []
  rw [shInts, e3]
  simp only [Bool.and_self, if_true, Option.map_some]
  cases g <;> simp [PyData.eqv, PyData.eqvAll]
theorem ixN_last (n : Nat) : ixN (n + 1) (-1) = some n := by
  unfold ixN
  rw [if_neg (by decide), if_pos (by omega)]
  congr 1
  omega
theorem ix_great {x : Int} : opIx (.ref 0) (.int (-1)) (st (g ++ [x]) sm t T) = some (.int x) := by
  have e1 : dr (st (g ++ [x]) sm t T) (.ref 0) = .lst ((g ++ [x]).map D.int) := rfl
  unfold opIx
  rw [e1]
  simp [atI, ixN_last]
theorem set_great {x y : Int} : setC (.ref 0) (.int (-1)) (.int y) (st (g ++ [x]) sm t T) = some (st (g ++ [y]) sm t T) := by
  unfold setC
  have e1 : cellAt (st (g ++ [x]) sm t T) (.ref 0) = some (0, (g ++ [x]).map D.int) := rfl
  rw [e1]
  simp [ixN_last, st]
theorem pop_great {x : Int} : popC (.ref 0) (st (g ++ [x]) sm t T) = .ok (.int x) (st g sm t T) := by
  unfold popC
  have e1 : cellAt (st (g ++ [x]) sm t T) (.ref 0) = some (0, (g ++ [x]).map D.int) := rfl
  rw [e1]
  simp [st]
end
theorem draw {n : Nat} {T S : Store} {m : Int} {E : EX} (h : Bx n T S) (hn : n ≤ 10 ^ 30) (h1 : 1 ≤ m) (h2 : m.natAbs.log2 < 9000) : (f__law_draw [.ref 1, .int m] S).wp (fun r S' => ∃ d, r = .int d ∧ 0 ≤ d ∧ d < m ∧ Bx (n + 1) T S') E := by
  obtain ⟨g, sm, t, rfl, hg, hs, hs2, ht, htn, hl⟩ := h
  unfold f__law_draw
  rw [wp_fnD]
  simp [g__law_draw, startD, get_great]
  refine wp_sWhile (fun n ρ S => ∃ g', n = g'.length ∧ ρ = [some (.ref 1), some (.int m), some (.ref 0), none, none, none] ∧ S = st g' sm t T ∧ ∀ x ∈ g', 0 ≤ x) g.length ⟨g, rfl, rfl, rfl, hg⟩ ?_
  rintro _ _ _ ⟨g', rfl, rfl, rfl, hg'⟩
  rcases List.eq_nil_or_concat g' with rfl | ⟨g1, x, rfl⟩
  · have hp : 0 < (sm.length : Int) := by
      have : sm.length ≠ 0 := fun z => hs (List.eq_nil_of_length_eq_zero z)
      omega
    obtain ⟨y, hy, hix⟩ := atI_of (xs := sm.map D.int) (Int.emod_nonneg (t + 1) (Int.ne_of_gt hp)) (by rw [List.length_map]; exact Int.emod_lt_of_pos _ hp)
    obtain ⟨z, hz, rfl⟩ := List.mem_map.mp hy
    simp [ne_great, get_turn, put_turn, get_small, hix, sz, divOk, hp]
    have z1 := hs2 z hz
    have q0 : 0 ≤ (z * 6364136223846793005 + (t + 1) * 1442695040888963407) % 18446744073709551557 := Int.emod_nonneg _ (by decide)
    have q1 : (z * 6364136223846793005 + (t + 1) * 1442695040888963407) % 18446744073709551557 < 18446744073709551557 := Int.emod_lt_of_pos _ (by decide)
    generalize (z * 6364136223846793005 + (t + 1) * 1442695040888963407) % 18446744073709551557 = w at q0 q1 ⊢
    refine ⟨by omega, mulOk_of 64 64 (by omega) (by decide) (by decide), mulOk_of 128 64 (by omega) (by decide) (by decide), by decide +kernel, mulOk_of 65 65 (by omega) (by omega) (by decide), by decide +kernel, by omega, ?_⟩
    refine gcQ_cl (closed_int _ _) ⟨_, rfl, Int.emod_nonneg _ (by omega), Int.emod_lt_of_pos _ (by omega), ?_⟩
    refine ⟨[], sm, t + 1, by simp [st], by simp, hs, hs2, by omega, by omega, hl⟩
  · rw [List.concat_eq_append] at hg' ⊢
    have hx : 0 ≤ x := hg' x (by simp)
    have hg1 : ∀ y ∈ g1, 0 ≤ y := fun y hy => hg' y (by simp [hy])
    simp [ne_great, ix_great, pop_great, sz, divOk]
    by_cases h0 : 0 < x
    · refine .inr ⟨h0, by omega, ⟨by omega, h2⟩, _, set_great, ?_⟩
      refine gcQ_cl (closed_int _ _) ⟨_, rfl, Int.emod_nonneg _ (by omega), Int.emod_lt_of_pos _ (by omega), ?_⟩
      refine ⟨g1 ++ [x / m], sm, t, by simp [st], ?_, hs, hs2, ht, by omega, hl⟩
      intro y hy
      rcases List.mem_append.mp hy with hy | hy
      · exact hg1 y hy
      · simp at hy
        subst hy
        exact Int.ediv_nonneg hx (by omega)
    · exact .inl ⟨by omega, g1.length, by omega, g1, rfl, rfl, hg1⟩

theorem Bx.take {n : Nat} {T U S : Store} (h : Bx n (T ++ U) S) {k : Nat} (hk : k = T.length + 2) : Bx n T (S.take k) := by
  obtain ⟨g, sm, t, rfl, h1⟩ := h
  subst hk
  exact ⟨g, sm, t, by simp [st], h1⟩
theorem Bx.take0 {n : Nat} {T S : Store} (h : Bx n T S) {k : Nat} (hk : k = T.length + 2) : Bx n T (S.take k) := Bx.take (U := []) (by simpa using h) hk
theorem Bx.put {n : Nat} {T S : Store} (h : Bx n T S) (U : Store) : Bx n (T ++ U) (S ++ U) := by
  obtain ⟨g, sm, t, rfl, h1⟩ := h
  exact ⟨g, sm, t, by simp [st], h1⟩
theorem Bx.at {n : Nat} {T S : Store} (h : Bx n T S) (i : Nat) : S[i + 2]? = T[i]? := by
  obtain ⟨g, sm, t, rfl, h1⟩ := h
  rfl
theorem Bx.set {n : Nat} {T S : Store} (h : Bx n T S) (i : Nat) (c : Cell) : Bx n (T.set i c) (S.set (i + 2) c) := by
  obtain ⟨g, sm, t, rfl, h1⟩ := h
  exact ⟨g, sm, t, by simp [st], h1⟩
/-- one of a list, frozen or a cell -/
theorem oneD {n : Nat} {T S : Store} {xs : List D} {d : D} {E : EX} (h : Bx n T S) (hn : n ≤ 10 ^ 30) (hd : ∀ m S', Bx m T S' → dr S' d = .lst xs) (hx : xs ≠ []) (hl : xs.length ≤ 4000000) (hc : ∀ x ∈ xs, closed S.length x = true) : (f__law_one [.ref 1, d] S).wp (fun r S' => r ∈ xs ∧ Bx (n + 1) T S') E := by
  unfold f__law_one
  rw [wp_fnD]
  have h0 : xs.length ≠ 0 := fun z => hx (List.eq_nil_of_length_eq_zero z)
  have e1 : lenD [d] S = some (.int xs.length) := by
    show (match dr S d with | .lst xs => _ | .tup xs => _ | .scr xs => _ | .str x => _ | .dct kvs => _ | _ => _) = _
    rw [hd _ _ h]
  simp [g__law_one, startD, e1]
  refine (draw h hn (by omega) (log2_len hl)).no fun r S' ⟨i, e, d0, d1, hB⟩ => ?_
  subst e
  obtain ⟨y, hy, hix⟩ := atI_of d0 d1
  refine ⟨y, ?_, rt_cl (hc y hy) ⟨hy, ?_⟩⟩
  · unfold opIx
    rw [hd _ _ hB]
    exact hix
  · exact hB.take0 h.len
theorem one {n : Nat} {T S : Store} {xs : List D} {E : EX} (h : Bx n T S) (hn : n ≤ 10 ^ 30) (hx : xs ≠ []) (hl : xs.length ≤ 4000000) (hc : ∀ x ∈ xs, closed S.length x = true) : (f__law_one [.ref 1, .lst xs] S).wp (fun r S' => r ∈ xs ∧ Bx (n + 1) T S') E :=
  oneD h hn (fun _ _ _ => rfl) hx hl hc
theorem mulL (xs : List D) (k : Int) (S : Store) (h : 0 ≤ k ∧ k ≤ 100 ∧ xs.length ≤ 1000) : opMulA (.lst xs) (.int k) S = some (.lst (List.replicate k.toNat xs).flatten) := by
  unfold opMulA orO opMul
  simp [h]
theorem eqL0 (xs : List Int) (S : Store) : opEqA (.lst (xs.map D.int)) (.lst []) S = some (.bl xs.isEmpty) := by
  rw [eqA_of rfl]
  unfold opEq eqD
  simp only [dr_lst, dat, datInts, datAll, Option.map_some, Option.bind_some]
  have e3 : SeqAt.shaped (.list []) = true := shInts []
  rw [shInts, e3]
  simp only [Bool.and_self, if_true, Option.map_some]
  cases xs <;> simp [PyData.eqv, PyData.eqvAll]
theorem cAbs (ρ : Fk.Env) (h : 4 < ρ.length) (ns : List Int) (S : Store) (hl : ns.length ≤ 4000000) : compGo (compStep (gN 4) sYes (eOps absDA (aCons (eVar 4) aNil)) ρ) (ns.map D.int) [] S = .ok ((ns.map fun i => if i < 0 then -i else i).map D.int) S := by
  rw [compGo_map (h := fun d => match d with | .int i => .int (if i < 0 then -i else i) | d => d)]
  · simp
  · intro x hx
    obtain ⟨i, _, rfl⟩ := List.mem_map.mp hx
    exact eq_of_wp (by simp [sYes, h])
  · simpa using hl
theorem cLt (ρ : Fk.Env) (h : 4 < ρ.length) (ns : List Int) (S : Store) (hl : ns.length ≤ 4000000) : compGo (compStep (gN 4) (tOfE (eBin opLt (eVar 4) (eBin opPow (eC (.int 10)) (eC (.int 18))))) (eVar 4) ρ) (ns.map D.int) [] S = .ok ((ns.filter fun i => decide (i < 10 ^ 18)).map D.int) S := by
  rw [compGo_filter (p := fun d => match d with | .int i => decide (i < 10 ^ 18) | _ => false) (h := id)]
  · simp [List.filter_map, Function.comp_def]
  · intro x hx
    obtain ⟨i, _, rfl⟩ := List.mem_map.mp hx
    refine eq_of_wp ?_
    by_cases hi : i < 10 ^ 18 <;> simp [powOk, h, hi] <;> omega
  · simpa using hl
theorem cGe (ρ : Fk.Env) (h : 4 < ρ.length) (ns : List Int) (S : Store) (hl : ns.length ≤ 4000000) : compGo (compStep (gN 4) (tOfE (eBin opGe (eVar 4) (eBin opPow (eC (.int 10)) (eC (.int 18))))) (eVar 4) ρ) (ns.map D.int) [] S = .ok ((ns.filter fun i => decide (10 ^ 18 ≤ i)).map D.int) S := by
  rw [compGo_filter (p := fun d => match d with | .int i => decide (10 ^ 18 ≤ i) | _ => false) (h := id)]
  · simp [List.filter_map, Function.comp_def]
  · intro x hx
    obtain ⟨i, _, rfl⟩ := List.mem_map.mp hx
    refine eq_of_wp ?_
    by_cases hi : 10 ^ 18 ≤ i <;> simp [powOk, h, hi] <;> omega
  · simpa using hl
theorem opened (ns : List Int) (hl : ns.length ≤ 63) : (f__law_opened [.scr (ns.map D.int)] []).wp (fun r S' => r = .ref 1 ∧ Bx 0 [] S') fun _ _ _ => False := by
  unfold f__law_opened
  rw [wp_fnD]
  have e1 : Fk.cutD (ns.map D.int) none (some 63) = ns.map D.int := by
    rw [show (63 : Int) = ((63 : Nat) : Int) from rfl, cutD_take]
    exact List.take_of_length_le (by simpa using hl)
  generalize hm : (ns.map fun i => if i < 0 then -i else i) = ms
  have hms : ∀ i ∈ ms, 0 ≤ i := fun i hi => by
    rw [← hm] at hi
    obtain ⟨j, _, rfl⟩ := List.mem_map.mp hi
    split <;> omega
  have hml : ms.length ≤ 63 := by rw [← hm]; simpa using hl
  simp only [g__law_opened, startD, List.map, List.length, List.replicate, List.cons_append, List.nil_append]
  simp [e1]
  rw [cAbs _ (by simp [wipeD_length]) _ _ (by omega), hm]
  simp
  rw [cLt _ (by simp [wipeD_length]) _ _ (by omega)]
  generalize hb : (ms.filter fun i => decide (i < 10 ^ 18)) = sm
  have hsm : ∀ x ∈ sm, 0 ≤ x ∧ x < 10 ^ 18 := fun x hx => by
    rw [← hb] at hx
    simp at hx
    exact ⟨hms x hx.1, by simpa using hx.2⟩
  have hsl : sm.length ≤ 63 := by
    rw [← hb]
    exact Nat.le_trans (List.length_filter_le _ _) hml
  simp
  rw [cGe _ (by simp [wipeD_length]) _ _ (by omega)]
  generalize hb2 : (ms.filter fun i => decide (10 ^ 18 ≤ i)) = gr
  have hgr : ∀ x ∈ gr, 0 ≤ x := fun x hx => by
    rw [← hb2] at hx
    simp at hx
    exact hms x hx.1
  clear hb hb2 hm hms hml
  have mg : ∀ a b c : D, mergeD [(.inr "great", a), (.inr "small", b), (.inr "turn", c)] = [(.inr "great", a), (.inr "small", b), (.inr "turn", c)] := fun _ _ _ => rfl
  have big : ∃ sm' : List Int, sm' ≠ [] ∧ (∀ x ∈ sm', 0 ≤ x ∧ x < 10 ^ 18) ∧ sm'.length ≤ 64 ∧ ∃ a, opMulA (D.lst [D.int 211]) (D.int (if sm.isEmpty then 1 else 0)) [Cell.lst true (gr.map D.int)] = some a ∧ opAddA (.lst (sm.map D.int)) a [Cell.lst true (gr.map D.int)] = some (.lst (sm'.map D.int)) := by
    cases sm with
    | nil => exact ⟨[211], by simp, by simp, by simp, _, mulL _ _ _ (by simp), rfl⟩
    | cons x r => exact ⟨x :: r, by simp, hsm, by omega, _, mulL _ _ _ (by simp), by simp only [List.length_cons] at hsl; simp [opAddA, orO, opAdd, show sz (r.length + 1) = true by simp [sz]; omega]⟩
  obtain ⟨sm', hs1, hs2, hs3, a, ha, hb⟩ := big
  have ha' : opMulA (D.lst [D.int 211]) (D.int (if sm = [] then 1 else 0)) [Cell.lst true (gr.map D.int)] = some a := by simpa using ha
  simp [eqL0, mg, sz, ha', hb]
  refine ⟨by simp [closedV, closed], ?_⟩
  unfold gcQ
  simp [closed]
  exact ⟨gr, sm', 0, rfl, hgr, hs1, hs2, by decide, by decide, hs3⟩

variable {n : Nat} {T S : Store} {E : EX}
theorem mark (h : Bx n T S) (hn : n ≤ 10 ^ 29) : (f__law_mark [.ref 1] S).wp (fun r S' => ∃ i, r = .int i ∧ i.natAbs ≤ 1000000 ∧ Bx (n + 2) T S') E := by
  unfold f__law_mark
  rw [wp_fnD]
  simp [g__law_mark, startD]
  refine (draw h (by omega) (by decide) (by decide +kernel)).no fun r S' ⟨d, e, d0, d1, hB⟩ => ?_
  subst e
  by_cases h6 : d < 6
  · simp [h6]
    refine (draw hB (by omega) (by decide) (by decide +kernel)).no fun r S' ⟨d, e, d0, d1, hB⟩ => ?_
    subst e
    simp
    exact gcQ_cl (closed_int _ _) ⟨_, rfl, by omega, hB.take0 h.len⟩
  · simp [h6]
    by_cases h7 : d = 6
    · simp [h7, powOk, mulOk]
      refine ⟨by decide +kernel, (draw hB (by omega) (by decide) (by decide +kernel)).no fun r S' ⟨d, e, d0, d1, hB⟩ => ?_⟩
      subst e
      simp [powOk]
      exact gcQ_cl (closed_int _ _) ⟨_, rfl, by omega, hB.take0 h.len⟩
    · simp [h7, powOk, sz]
      refine (one hB (by omega) (by simp) (by simp) (by simp)).no fun r S' ⟨hr, hB⟩ => ?_
      simp at hr
      rcases hr with rfl | rfl
      · exact rt_cl (closed_int _ _) ⟨_, rfl, by decide, hB.take0 h.len⟩
      · exact rt_cl (closed_int _ _) ⟨_, rfl, by decide, hB.take0 h.len⟩
def rowD (is : List Int) : D := .tup (is.map D.int)
def RowOk (m : Nat) (is : List Int) : Prop := is.length = m ∧ ∀ i ∈ is, i.natAbs ≤ 1000000
theorem row (h : Bx n T S) (m : Nat) (hm : m ≤ 8) (hn : n ≤ 10 ^ 28) : (f__law_row [.ref 1, .int m] S).wp (fun r S' => ∃ is, r = rowD is ∧ RowOk m is ∧ Bx (n + 20) T S') E := by
  unfold f__law_row
  rw [wp_fnD]
  simp [g__law_row, startD, okR]
  refine ⟨by omega, wp_compGo (fun xs acc S => ∃ is : List Int, acc = is.map D.int ∧ is.length + xs.length = m ∧ (∀ i ∈ is, i.natAbs ≤ 1000000) ∧ Bx (n + 2 * is.length) T S) ⟨[], rfl, by simp [rng], by simp, by simpa using h⟩ ?_ ?_⟩
  · rintro x xs acc S ⟨is, rfl, hl, hb, hB⟩
    simp only [List.length_cons] at hl
    simp [wipeD, sYes]
    refine (mark hB (by omega)).no fun r S' ⟨i, e, hi, hB'⟩ => ?_
    subst e
    refine ⟨by simp [sz]; omega, is ++ [i], by simp, by simp; omega, ?_, hB'.mono (by simp; omega)⟩
    intro j hj
    rcases List.mem_append.mp hj with hj | hj
    · exact hb j hj
    · simp at hj; subst hj; exact hi
  · rintro acc S ⟨is, rfl, hl, hb, hB⟩
    simp at hl
    try simp
    exact gcQ_cl (by simp) ⟨is, rfl, ⟨hl, hb⟩, (hB.mono (by omega)).take0 h.len⟩
theorem datRows : ∀ rs : List (List Int), datAll (rs.map rowD) = some (rs.map fun is => PyData.tuple (is.map PyData.int))
  | [] => by simp [datAll]
  | r :: rs => by simp [datAll, dat, rowD, datInts r, datRows rs]
theorem layRows : ∀ rs : List (List Int), PyData.canLayAll0 (rs.map fun is => PyData.tuple (is.map PyData.int)) = true
  | [] => by simp [PyData.canLayAll0]
  | r :: rs => by simp [PyData.canLayAll0, PyData.canLay0, layInts, layRows rs]
theorem depRows : ∀ rs : List (List Int), PyData.depthAll (rs.map fun is => PyData.tuple (is.map PyData.int)) ≤ 1
  | [] => by simp [PyData.depthAll]
  | r :: rs => by
    have := depRows rs
    simp [PyData.depthAll, PyData.depth, depInts]
    omega
theorem ne_rows {d : D} {S : Store} {rs : List (List Int)} (hd : dr S d = .lst (rs.map rowD)) (h : opNeS d (.lst []) S = none) : opNeA d (.lst []) S = some (.bl (!rs.isEmpty)) := by
  rw [neA_of h]
  unfold opNe neD
  rw [hd]
  have e3 : SeqAt.shaped (.list []) = true := shInts []
  have e4 : SeqAt.shaped (.list (rs.map fun is => PyData.tuple (is.map PyData.int))) = true := by
    have := depRows rs
    simp [SeqAt.shaped, PyData.canLay0, layRows, PyData.depth]
    omega
  simp only [dat, datRows, datAll, dr_lst, Option.map_some, Option.bind_some, e3, e4, Bool.and_self, if_true]
  cases rs <;> simp [PyData.eqv, PyData.eqvAll]
theorem menu (h : Bx n T S) (most : Int) (hm : 1 ≤ most ∧ most ≤ 20) (hn : n ≤ 10 ^ 27) : (f__law_menu [.ref 1, .int most] S).wp (fun r S' => ∃ (m : Nat) (rs : List (List Int)), 2 ≤ m ∧ m ≤ 4 ∧ rs ≠ [] ∧ (∀ is ∈ rs, RowOk m is) ∧ rs.length ≤ 20 ∧ r = .tup (rs.map rowD) ∧ Bx (n + 1000) T S') E := by
  unfold f__law_menu
  rw [wp_fnD]
  simp [g__law_menu, startD]
  refine (draw h (by omega) (by decide) (by decide +kernel)).no fun r S1 ⟨d, e, d0, d1, hB⟩ => ?_
  subst e
  obtain ⟨m, rfl⟩ : ∃ m : Nat, d = m := ⟨d.toNat, by omega⟩
  simp [sz]
  have hB1 := hB.put [.lst true []]
  refine (draw (m := most) hB1 (by omega) (by omega) (log2_of 9 (by decide) (by omega) (by omega))).no fun r S2 ⟨q, e, q0, q1, hB2⟩ => ?_
  subst e
  obtain ⟨k, rfl⟩ : ∃ k : Nat, q = k := ⟨q.toNat, by omega⟩
  have hl1 : List.length S1 = T.length + 2 := hB.len
  simp [okR]
  refine ⟨by omega, wp_forL (fun xs ρ S => ∃ (rs : List (List Int)) (x : Option D), ρ = [some (.ref 1), some (.int most), some (.int (2 + (m : Int))), some (.ref (T.length + 2)), x] ∧ rs.length + xs.length = 1 + k ∧ (∀ is ∈ rs, RowOk (2 + m) is) ∧ Bx (n + 2 + 30 * rs.length) (T ++ [.lst true (rs.map rowD)]) S) ⟨[], none, by simp [hl1], by simp [rng]; omega, by simp, by simpa using hB2⟩ ?_ ?_⟩
  · rintro x xs ρ S ⟨rs, y, rfl, hl, hb, hB⟩
    simp only [List.length_cons] at hl
    have hc : S[T.length + 2]? = some (.lst true (rs.map rowD)) := by rw [hB.at]; simp
    have hdr : ∀ m S', Bx m (T ++ [.lst true (rs.map rowD)]) S' → dr S' (.ref (T.length + 2)) = .lst (rs.map rowD) := fun m S' hB' => by
      rw [dr_ref, hB'.at]
      simp [drc]
    have hcl : ∀ is : List Int, ∀ N, closed N (rowD is) = true := fun is N => by simp [rowD]
    have fin : ∀ (r : D) (S' : Store) (m' : Nat), m' ≤ n + 2 + 30 * (rs.length + 1) → Bx m' (T ++ [.lst true (rs.map rowD)]) S' → (∃ is, r = rowD is ∧ RowOk (2 + m) is) →
        ∃ S'', appC (.ref (T.length + 2)) r S' = .ok .non S'' ∧ ∃ rs' : List (List Int), rs'.length + xs.length = 1 + k ∧ (∀ is ∈ rs', RowOk (2 + m) is) ∧ Bx (n + 2 + 30 * rs'.length) (T ++ [.lst true (rs'.map rowD)]) S'' := fun r S' m' hm' hB' ⟨is, e, his⟩ => by
      subst e
      refine ⟨_, appC_of (xs := rs.map rowD) (by rw [hB'.at]; simp) (by simp; omega) (hcl _ _), rs ++ [is], by simp; omega, ?_, ?_⟩
      · intro js hj
        rcases List.mem_append.mp hj with hj | hj
        · exact hb js hj
        · simp at hj; subst hj; exact his
      · have q := (hB'.set T.length (.lst true ((rs ++ [is]).map rowD))).mono (m := n + 2 + 30 * (rs ++ [is]).length) (by simp; omega)
        simpa using q
    have hil : isL S (.ref (T.length + 2)) = true := isL_of hc
    have hne := ne_rows (d := .ref (T.length + 2)) (hdr _ _ hB) rfl
    have useRow : ∀ (S' : Store) (m' : Nat) (Q : D → Store → Prop) (E' : EX), m' ≤ n + 2 + 30 * rs.length + 5 → Bx m' (T ++ [.lst true (rs.map rowD)]) S' → (∀ r S'', (∃ S3, appC (.ref (T.length + 2)) r S'' = .ok .non S3 ∧ ∃ rs' : List (List Int), rs'.length + xs.length = 1 + k ∧ (∀ is ∈ rs', RowOk (2 + m) is) ∧ Bx (n + 2 + 30 * rs'.length) (T ++ [.lst true (rs'.map rowD)]) S3) → Q r S'') →
        (f__law_row [.ref 1, .int (2 + (m : Int))] S').wp Q E' := fun S' m' Q E' hm' hB' hQ => by
      have hr := row (E := fun _ _ _ => False) hB' (2 + m) (by omega) (by omega)
      rw [show (2 + (m : Int)) = ((2 + m : Nat) : Int) by omega]
      exact hr.no fun r S'' ⟨is, e, his, hB''⟩ => hQ r S'' (fin r S'' _ (by omega) hB'' ⟨is, e, his⟩)
    have done : ∀ r S'', (∃ S3, appC (.ref (T.length + 2)) r S'' = .ok .non S3 ∧ ∃ rs' : List (List Int), rs'.length + xs.length = 1 + k ∧ (∀ is ∈ rs', RowOk (2 + m) is) ∧ Bx (n + 2 + 30 * rs'.length) (T ++ [.lst true (rs'.map rowD)]) S3) → ∀ (Q : D → Store → Prop) (E' : EX), (∀ S3, (∃ rs' : List (List Int), rs'.length + xs.length = 1 + k ∧ (∀ is ∈ rs', RowOk (2 + m) is) ∧ Bx (n + 2 + 30 * rs'.length) (T ++ [.lst true (rs'.map rowD)]) S3) → Q .non S3) → (appC (.ref (T.length + 2)) r S'').wp Q E' := fun r S'' ⟨S3, e, h3⟩ Q E' hQ => by
      rw [e]
      exact ⟨hQ S3 h3⟩
    by_cases hrs : rs = []
    · simp [hil, hne, hrs, sz]
      refine useRow S _ _ _ (by omega) hB fun r S'' hr => done r S'' hr _ _ fun S3 h3 => ?_
      simpa using h3
    · simp [hil, hne, hrs, sz]
      refine (draw hB (by omega) (by decide) (by decide +kernel)).no fun r S3 ⟨d, e, d0, d1, hB3⟩ => ?_
      subst e
      by_cases hd : d = 0
      · simp [hd]
        refine (oneD hB3 (by omega) hdr (by simpa using hrs) (by simp; omega) (by intro y hy; obtain ⟨is, _, rfl⟩ := List.mem_map.mp hy; exact hcl _ _)).no fun r S4 ⟨hr, hB4⟩ => ?_
        obtain ⟨is, his, rfl⟩ := List.mem_map.mp hr
        refine done _ _ (fin _ _ _ (by omega) hB4 ⟨is, rfl, hb is his⟩) _ _ fun S3 h3 => ?_
        simpa using h3
      · simp [hd]
        refine useRow S3 _ _ _ (by omega) hB3 fun r S'' hr => done r S'' hr _ _ fun S3 h3 => ?_
        simpa using h3
  · rintro ρ S ⟨rs, y, rfl, hl, hb, hB⟩
    simp at hl
    have ht : tupD [.ref (T.length + 2)] S = some (.tup (rs.map rowD)) := tupD_of (b := true) (by rw [hB.at]; simp)
    simp [ht]
    refine gcQ_cl ?_ ⟨2 + m, by omega, by omega, rs, by intro z; subst z; simp at hl; omega, hb, by omega, rfl, (hB.mono (by omega)).take h.len⟩
    simp [closedA_mem, rowD]
theorem odd (h : Bx n T S) (hn : n ≤ 10 ^ 29) : (f__law_odd [.ref 1] S).wp (fun r S' => Gd 200 200 3 r ∧ Bx (n + 1) T S') E := by
  unfold f__law_odd
  rw [wp_fnD]
  simp [g__law_odd, startD, sz, powOk, mergeD, putD]
  have hg : ∀ {xs : List D} {E' : EX}, xs.all (gdB 200 200 3) = true → xs ≠ [] → xs.length ≤ 4000000 → (f__law_one [.ref 1, .lst xs] S).wp (KS.fn (List.length S) (fun r S' => Gd 200 200 3 r ∧ Bx (n + 1) T S') E).rt E' := fun {xs E'} ha h0 hl => by
    have hx := gdB_all ha
    exact (one h (by omega) h0 hl fun x hm => (hx x hm).closed).no fun r S' ⟨hr, hB⟩ => rt_cl (hx r hr).closed ⟨hx r hr, hB.take0 h.len⟩
  exact hg (by decide +kernel) (by simp) (by simp)
/-- what is drawn near a value -/
theorem other {b w k : Nat} {v : D} (h : Bx n T S) (hn : n ≤ 10 ^ 28) (hv : Gd b w k v) (hb : 200 ≤ b) (hb2 : b ≤ 1800) (hw : w ≤ 30000) (hk : 4 ≤ k) : (f__law_other [.ref 1, v] S).wp (fun r S' => Gd (b + 70) (10 * w + 500) k r ∧ Bx (n + 10) T S') E := by
  unfold f__law_other
  rw [wp_fnD]
  have fin : ∀ {r : D} {S' : Store} {m : Nat}, m ≤ n + 10 → Gd (b + 70) (10 * w + 500) k r → Bx m T S' → (KS.fn (List.length S) (fun r S' => Gd (b + 70) (10 * w + 500) k r ∧ Bx (n + 10) T S') E).rt r S' := fun hm hr hB => rt_cl hr.closed ⟨hr, (hB.mono hm).take0 h.len⟩
  have oddP : ∀ {S' : Store} {m : Nat} {E' : EX}, m ≤ n + 5 → Bx m T S' → (f__law_odd [.ref 1] S').wp (KS.fn (List.length S) (fun r S' => Gd (b + 70) (10 * w + 500) k r ∧ Bx (n + 10) T S') E).rt E' := fun {S' m E'} hm hB =>
    (odd hB (by omega)).no fun r S1 ⟨hr, hB1⟩ => fin (by omega) ((hr.bits (by omega)).mono (by omega) (by omega)) hB1
  have pick : ∀ {S' : Store} {m : Nat} {E' : EX} {xs : List D}, m ≤ n + 8 → Bx m T S' → xs ≠ [] → xs.length ≤ 20 → (∀ x ∈ xs, Gd (b + 70) (10 * w + 500) k x) → (f__law_one [.ref 1, .lst xs] S').wp (KS.fn (List.length S) (fun r S' => Gd (b + 70) (10 * w + 500) k r ∧ Bx (n + 10) T S') E).rt E' := fun {S' m E' xs} hm hB h0 hl hx =>
    (one hB (by omega) h0 (by omega) fun x hm => (hx x hm).closed).no fun r S1 ⟨hr, hB1⟩ => fin (by omega) (hx r hr) hB1
  cases v with
  | non =>
    simp [g__law_other, startD]
    exact oddP (by omega) h
  | str x =>
    simp [g__law_other, startD]
    exact oddP (by omega) h
  | lst xs =>
    simp [g__law_other, startD]
    exact oddP (by omega) h
  | dct kvs =>
    simp [g__law_other, startD]
    exact oddP (by omega) h
  | ref m => exact absurd hv.p (by simp [Fk.plain])
  | scr xs => exact absurd hv.p (by simp [Fk.plain])
  | exn _ _ _ => exact absurd hv.p (by simp [Fk.plain])
  | bl bb =>
    simp [g__law_other, startD]
    refine (draw h (by omega) (by decide) (by decide +kernel)).no fun r S1 ⟨d, e, d0, d1, hB1⟩ => ?_
    subst e
    have lit : ∀ {S' : Store} {m : Nat} {E' : EX} {xs : List D}, m ≤ n + 8 → Bx m T S' → xs ≠ [] → xs.length ≤ 20 → xs.all (gdB 200 500 4) = true → (f__law_one [.ref 1, .lst xs] S').wp (KS.fn (List.length S) (fun r S' => Gd (b + 70) (10 * w + 500) k r ∧ Bx (n + 10) T S') E).rt E' := fun h1 h2 h3 h4 h5 =>
      pick h1 h2 h3 h4 fun x hx => ((gdB_all h5 x hx).bits (by omega)).mono (by omega) hk
    by_cases hd : 0 < d
    · cases bb with
      | true =>
        simp [hd, powOk, sz, b2]
        exact lit (by omega) hB1 (by simp) (by simp) (by decide +kernel)
      | false =>
        simp [hd, powOk, sz, b2]
        exact lit (by omega) hB1 (by simp) (by simp) (by decide +kernel)
    · simp [hd]
      exact oddP (by omega) hB1
  | int i =>
    simp [g__law_other, startD]
    refine (draw h (by omega) (by decide) (by decide +kernel)).no fun r S1 ⟨d, e, d0, d1, hB1⟩ => ?_
    subst e
    by_cases hd : 0 < d
    · obtain ⟨hi, hi2⟩ := hv.intI
      have hs : strDA [.int i] S1 = some (.str (Str.ofString (toString i))) := by
        unfold strDA
        simp
        omega
      have common : ∀ j : Int, Gd (b + 70) (10 * w + 500) k (.int j) → ∀ x ∈ [D.int (i + 1), D.int (i - 1), D.int (-i), D.bl (decide (i = 1)), .str (Str.ofString (toString i)), D.int j, D.lst [D.int i]], Gd (b + 70) (10 * w + 500) k x := fun j hj x hx => by
        simp at hx
        have n1 := log2_near (a := i) (b := i + 1) (by omega)
        have n2 := log2_near (a := i) (b := i - 1) (by omega)
        have n3 : (-i).natAbs = i.natAbs := by omega
        rcases hx with rfl | rfl | rfl | rfl | rfl | rfl | rfl
        · exact Gd.ofLog (by omega) (by omega)
        · exact Gd.ofLog (by omega) (by omega)
        · exact Gd.ofLog (by rw [n3]; omega) (by rw [n3]; omega)
        · exact Gd.bl (by omega)
        · exact (Gd.strInt (n := i.natAbs.log2 + 1) (by omega) (by omega)).mono (by omega) (Nat.le_refl _)
        · exact hj
        · exact ((GdA.one (Gd.ofLog (b := b + 70) (w := w) (k := 0) (by omega) hi2)).lst).mono (by omega) (by omega)
      simp [hd, powOk, sz, hs]
      by_cases ha : (if i < 0 then -i else i) < 1000000000000
      · have hn : i.natAbs < 1000000000000 := by split at ha <;> omega
        refine .inr ⟨ha, mulOk_of 40 20 (by omega) (by decide) (by decide), pick (by omega) hB1 (by simp) (by simp) (common _ (((Gd.int (b := 70) (w := 72) (by decide) (by omega) (by decide)).bits (by omega)).mono (by omega) (Nat.le_refl _)))⟩
      · exact .inl ⟨by omega, pick (by omega) hB1 (by simp) (by simp) (common _ (((Gd.int (b := 70) (w := 72) (by decide) (by decide) (by decide)).bits (by omega)).mono (by omega) (Nat.le_refl _)))⟩
    · simp [hd]
      exact oddP (by omega) hB1
  | tup xs =>
    simp [g__law_other, startD]
    refine (draw h (by omega) (by decide) (by decide +kernel)).no fun r S1 ⟨d, e, d0, d1, hB1⟩ => ?_
    subst e
    obtain ⟨k', rfl⟩ : ∃ k', k = k' + 1 := ⟨k - 1, by omega⟩
    have hx := hv.tupA
    have h3 := hv.tup3
    have hxl := hx.len
    by_cases hd : 0 < d
    · simp [hd, powOk, sz]
      refine (draw (m := (xs.length : Int) + 1) hB1 (by omega) (by omega) (log2_len (n := xs.length + 1) (by omega))).no fun r S2 ⟨a, e, a0, a1, hB2⟩ => ?_
      subst e
      have cl : ∀ (ys : List D) (lo hi : Option Int), ys.length ≤ xs.length → (Fk.cutD ys lo hi).length ≤ xs.length := fun ys lo hi hy => Nat.le_trans cut_len hy
      have c1 := cl xs none (some 1) (Nat.le_refl _)
      have c2 := cl xs none (some a) (Nat.le_refl _)
      have c3 := cl xs (some (a + 1)) none (Nat.le_refl _)
      have c4 := cl (Fk.cutD xs (some a) none) none (some 1) (cl xs (some a) none (Nat.le_refl _))
      simp [sz]
      refine ⟨by omega, by omega, (odd hB2 (by omega)).no fun o S3 ⟨ho, hB3⟩ => ?_⟩
      have m2 := mulT2 (S := S3) (ys := Fk.cutD (Fk.cutD xs (some a) none) none (some 1)) (by
        have e : ((Fk.cutD (Fk.cutD xs (some a) none) none (some 1)) : List D).length ≤ 1 := by
          rw [show (1 : Int) = ((1 : Nat) : Int) from rfl, cutD_take]
          simp
          omega
        omega)
      simp [sz, m2]
      refine ⟨by omega, by omega, by omega, pick (by omega) hB3 (by simp) (by simp) fun x hm => ?_⟩
      have g1 := hx.cut none (some 1)
      have g2 := hx.cut none (some a)
      have g3 := hx.cut (some (a + 1)) none
      have g4 := (hx.cut (some a) none).cut none (some 1)
      simp at hm
      rcases hm with rfl | rfl | rfl | rfl | rfl | rfl | rfl | rfl | rfl
      · exact ((hx.lst).bits (by omega)).mono (by omega) (Nat.le_refl _)
      · exact (((hx.cut _ _).tup).bits (by omega)).mono (by omega) (Nat.le_refl _)
      · exact (((hx.cut _ _).tup).bits (by omega)).mono (by omega) (Nat.le_refl _)
      · exact (((hx.append g1).tup).bits (by omega)).mono (by omega) (Nat.le_refl _)
      · exact (((hx.append hx).tup).bits (by omega)).mono (by omega) (Nat.le_refl _)
      · exact (((g2.append (GdA.one ((ho.bits (b' := b) (by omega)).mono (k' := k') (Nat.le_refl _) (by omega)))).tup).bits (by omega)).mono (by omega) (Nat.le_refl _)
      · exact (((g2.append g3).tup).bits (by omega)).mono (by omega) (Nat.le_refl _)
      · exact ((hx.rev.tup).bits (by omega)).mono (by omega) (Nat.le_refl _)
      · exact (((g2.append (g4.append g4)).tup).bits (by omega)).mono (by omega) (Nat.le_refl _)
    · simp [hd]
      exact oddP (by omega) hB1
theorem tyTup {b w k : Nat} {v : D} {S : Store} (hv : Gd b w k v) : (∃ xs, v = .tup xs) ∨ isiD "tuple" v S = some (.bl false) := by
  cases v with
  | tup xs => exact .inl ⟨xs, rfl⟩
  | ref m => exact absurd hv.p (by simp [Fk.plain])
  | scr xs => exact absurd hv.p (by simp [Fk.plain])
  | exn _ _ _ => exact absurd hv.p (by simp [Fk.plain])
  | _ => exact .inr (by simp)
theorem bent0 {b w k : Nat} {v : D} (m : Nat) (h : Bx n T S) (hn : n ≤ 10 ^ 27) (hv : Gd b w k v) (hb : 200 ≤ b) (hb2 : b ≤ 1800) (hw : w ≤ 30000) (hk : 4 ≤ k) : (f__law_bent (m + 1) [.ref 1, v, .int 0] S).wp (fun r S' => Gd (b + 70) (10 * w + 500) k r ∧ Bx (n + 20) T S') E := by
  unfold f__law_bent
  rw [wp_fnD]
  simp [g__law_bent, startD]
  refine (other h (by omega) hv hb hb2 hw hk).no fun r S' ⟨hr, hB⟩ => rt_cl hr.closed ⟨hr, (hB.mono (by omega)).take0 h.len⟩
theorem bent1 {b w k : Nat} {v : D} (m : Nat) (h : Bx n T S) (hn : n ≤ 10 ^ 26) (hv : Gd b w k v) (hb : 200 ≤ b) (hb2 : b ≤ 1800) (hw : w ≤ 30000) (hk : 5 ≤ k) : (f__law_bent (m + 2) [.ref 1, v, .int 1] S).wp (fun r S' => Gd (b + 70) (12 * w + 600) k r ∧ Bx (n + 40) T S') E := by
  unfold f__law_bent
  rw [wp_fnD]
  have fin : ∀ {r : D} {S' : Store} {m : Nat}, m ≤ n + 40 → Gd (b + 70) (12 * w + 600) k r → Bx m T S' → (KS.fn (List.length S) (fun r S' => Gd (b + 70) (12 * w + 600) k r ∧ Bx (n + 40) T S') E).rt r S' := fun hm hr hB => rt_cl hr.closed ⟨hr, (hB.mono hm).take0 h.len⟩
  have go : ∀ {S' : Store} {m : Nat} {E' : EX}, m ≤ n + 5 → Bx m T S' → (f__law_other [.ref 1, v] S').wp (KS.fn (List.length S) (fun r S' => Gd (b + 70) (12 * w + 600) k r ∧ Bx (n + 40) T S') E).rt E' := fun {S' m E'} hm hB =>
    (other hB (by omega) hv hb hb2 hw (by omega)).no fun r S1 ⟨hr, hB1⟩ => fin (by omega) (hr.mono (by omega) (Nat.le_refl _)) hB1
  rcases tyTup (S := S) hv with ⟨xs, rfl⟩ | ht
  · obtain ⟨k', rfl⟩ : ∃ k', k = k' + 1 := ⟨k - 1, by omega⟩
    have hx := hv.tupA
    have h3 := hv.tup3
    have hxl := hx.len
    by_cases h0 : xs = []
    · subst h0
      simp [g__law_bent, startD, sz]
      exact go (by omega) h
    · have h0' : xs.length ≠ 0 := fun z => h0 (List.eq_nil_of_length_eq_zero z)
      simp [g__law_bent, startD, sz, h0]
      refine (draw h (by omega) (by decide) (by decide +kernel)).no fun r S1 ⟨d, e, d0, d1, hB1⟩ => ?_
      subst e
      by_cases hd : d = 0
      · simp [hd]
        exact go (by omega) hB1
      · simp [hd]
        refine (draw (m := (xs.length : Int)) hB1 (by omega) (by omega) (log2_len (by omega))).no fun r S2 ⟨a, e, a0, a1, hB2⟩ => ?_
        subst e
        obtain ⟨y, hy, hix⟩ := atI_of a0 a1
        simp [hix]
        refine (bent0 m hB2 (by omega) (hx.mem hy) hb hb2 (by omega) (by omega)).no fun r S3 ⟨hr, hB3⟩ => ?_
        have c2 : (Fk.cutD xs none (some a)).length ≤ xs.length := cut_len
        have c3 : (Fk.cutD xs (some (a + 1)) none).length ≤ xs.length := cut_len
        simp [sz]
        refine ⟨by omega, by omega, fin (by omega) ?_ hB3⟩
        have g2 := (hx.cut none (some a)).bits (b' := b + 70) (by omega)
        have g3 := (hx.cut (some (a + 1)) none).bits (b' := b + 70) (by omega)
        have q := ((g2.append ((GdA.one hr).append g3)).tup)
        simp only [List.cons_append, List.nil_append] at q
        exact q.mono (by omega) (Nat.le_refl _)
  · simp [g__law_bent, startD, ht]
    exact go (by omega) h

end Sp
end

set_option Elab.async false
set_option linter.all false
set_option maxRecDepth 100000
set_option maxHeartbeats 1000000
noncomputable section
namespace Sp
open PySem PySem.Spec PyProof.Rows L2 Fk Sm
variable {n : Nat} {T S : Store} {E : EX}
/-! ### greatest common divisors -/
def Gf (a : Nat) (ns : List Int) : Nat := ns.foldl (fun a n => Nat.gcd a n.natAbs) a
def G (ns : List Int) : Nat := Gf 0 ns
theorem abs_nat (i : Int) : (if i < 0 then -i else i) = (i.natAbs : Int) := by split <;> omega
theorem divisor {d : D} {ns : List Int} (hd : itOf d S = .ok (ns.map D.int) S) : f_divisor_of [d] S = .ok (.int (G ns)) S := by
  refine eq_of_wp ?_
  unfold f_divisor_of
  rw [wp_fnD]
  simp [g_divisor_of, startD, hd]
  refine wp_forL (fun xs ρ S' => ∃ (a : Nat) (ns' : List Int) (x y : Option D), xs = ns'.map D.int ∧ ρ = [some d, some (.int a), x, y] ∧ S = S' ∧ Gf a ns' = G ns) ⟨0, ns, none, none, rfl, rfl, rfl, rfl⟩ ?_ ?_
  · rintro x xs ρ S' ⟨a, ns', x', y', he, rfl, rfl, hg⟩
    cases ns' with
    | nil => cases he
    | cons i ns' =>
      simp at he
      obtain ⟨rfl, rfl⟩ := he
      simp [abs_nat]
      refine wp_sWhile (fun m ρ S' => ∃ a' b' : Nat, m = b' ∧ ρ = [some d, some (.int a'), some (.int i), some (.int b')] ∧ S = S' ∧ Nat.gcd a' b' = Nat.gcd a i.natAbs) i.natAbs ⟨a, i.natAbs, rfl, rfl, rfl, rfl⟩ ?_
      rintro b' ρ S' ⟨a', _, rfl, rfl, rfl, hab⟩
      by_cases hb : b' = 0
      · subst hb
        simp
        exact ⟨a', ns', rfl, rfl, by simp at hab; rw [hab]; exact hg⟩
      · simp [hb]
        refine ⟨by omega, a' % b', Nat.mod_lt _ (by omega), b', ⟨rfl, by simp⟩, ?_⟩
        rw [← hab, Nat.gcd_comm a' b', Nat.gcd_rec b' a', Nat.gcd_comm]
  · rintro ρ S' ⟨a, ns', x', y', he, rfl, rfl, hg⟩
    cases ns' with
    | cons i ns' => cases he
    | nil =>
      simp
      refine gcQ_cl (closed_int _ _) ⟨?_, by simp⟩
      simp [Gf] at hg
      rw [hg]
theorem least {d : D} {ns : List Int} (hd : itOf d S = .ok (ns.map D.int) S) (hb : ∀ i ∈ ns, i.natAbs < 2 ^ 2000) : f__law_least [d] S = .ok (.int (G ns)) S := by
  refine eq_of_wp ?_
  unfold f__law_least
  rw [wp_fnD]
  simp [g__law_least, startD, hd]
  refine wp_forL (fun xs ρ S' => ∃ (a : Nat) (ns' : List Int) (x y z : Option D), xs = ns'.map D.int ∧ ρ = [some d, some (.int a), x, y, z] ∧ S = S' ∧ Gf a ns' = G ns ∧ a < 2 ^ 2000 ∧ ∀ i ∈ ns', i.natAbs < 2 ^ 2000) ⟨0, ns, none, none, none, rfl, rfl, rfl, rfl, Nat.two_pow_pos _, hb⟩ ?_ ?_
  · rintro x xs ρ S' ⟨a, ns', x', y', z', he, rfl, rfl, hg, ha, hb⟩
    cases ns' with
    | nil => cases he
    | cons i ns' =>
      simp at he
      obtain ⟨rfl, rfl⟩ := he
      simp [abs_nat]
      refine wp_sWhile (fun m ρ S' => ∃ a' b' : Nat, m = b' ∧ ρ = [some d, some (.int a), some (.int i), some (.int a'), some (.int b')] ∧ S = S' ∧ Nat.gcd a' b' = Nat.gcd a i.natAbs ∧ a' < 2 ^ 2000 ∧ b' < 2 ^ 2000) i.natAbs ⟨a, i.natAbs, rfl, rfl, rfl, rfl, ha, hb i (by simp)⟩ ?_
      rintro b' ρ S' ⟨a', _, rfl, rfl, rfl, hab, ha', hb'⟩
      by_cases hz : b' = 0
      · subst hz
        simp
        refine ⟨a', ns', rfl, rfl, by simp at hab; rw [hab]; exact hg, ha', fun j hj => hb j (by simp [hj])⟩
      · simp [hz]
        have e : (a' : Int) - (a' : Int) / (b' : Int) * (b' : Int) = ((a' % b' : Nat) : Int) := by
          have := Int.emod_def (a' : Int) (b' : Int)
          rw [Int.mul_comm] at this
          omega
        refine ⟨?_, ?_, a' % b', Nat.mod_lt _ (by omega), b', ⟨rfl, e⟩, ?_, hb', Nat.lt_trans (Nat.mod_lt _ (by omega)) hb'⟩
        · simp only [divOk, decide_eq_true_eq]
          exact ⟨by omega, Nat.lt_trans (log2_le_of hb' (by decide)) (by decide)⟩
        · refine mulOk_of 2000 2000 ?_ (by simpa using hb') (by decide)
          have : (a' : Int) / (b' : Int) = ((a' / b' : Nat) : Int) := rfl
          rw [this]
          exact Nat.lt_of_le_of_lt (Nat.div_le_self _ _) ha'
        · rw [← hab, Nat.gcd_comm a' b', Nat.gcd_rec b' a', Nat.gcd_comm]
  · rintro ρ S' ⟨a, ns', x', y', z', he, rfl, rfl, hg, ha, hb⟩
    cases ns' with
    | cons i ns' => cases he
    | nil =>
      simp
      refine gcQ_cl (closed_int _ _) ⟨?_, by simp⟩
      simp [Gf] at hg
      rw [hg]
/-! ### parts -/
theorem Gf_le : ∀ (ns : List Int) (a : Nat), a < 2 ^ 2000 → (∀ i ∈ ns, i.natAbs < 2 ^ 2000) → Gf a ns < 2 ^ 2000
  | [], a, h, _ => h
  | i :: ns, a, h, hb => by
    refine Gf_le ns _ ?_ fun j hj => hb j (by simp [hj])
    by_cases ha : a = 0
    · subst ha
      simpa using hb i (by simp)
    · exact Nat.lt_of_le_of_lt (Nat.gcd_le_left _ (by omega)) h
theorem divOk_G {ns : List Int} (h0 : G ns ≠ 0) (hb : ∀ i ∈ ns, i.natAbs < 2 ^ 2000) : divOk (G ns : Int) = true := by
  have h := Gf_le ns 0 (Nat.two_pow_pos _) hb
  simp only [divOk, decide_eq_true_eq]
  exact ⟨by omega, Nat.lt_trans (log2_le_of (show (G ns : Int).natAbs < 2 ^ 2000 by rw [Int.natAbs_natCast]; exact h) (by decide)) (by decide)⟩
theorem cDiv (ρ : Fk.Env) (h : 2 < ρ.length) (g : Int) (hg : ρ[1]? = some (some (.int g))) (hd : divOk g = true) (ns : List Int) (S : Store) (hl : ns.length ≤ 4000000) : compGo (compStep (gN 2) sYes (eBin opDiv (eVar 2) (eVar 1)) ρ) (ns.map D.int) [] S = .ok ((ns.map fun i => i / g).map D.int) S := by
  rw [compGo_map (h := fun d => match d with | .int i => .int (i / g) | d => d)]
  · simp
  · intro x hx
    obtain ⟨i, _, rfl⟩ := List.mem_map.mp hx
    exact eq_of_wp (by simp [h, hg, hd, List.getElem?_set_ne, div_ok hd])
  · simpa using hl
theorem prim {d : D} {ns : List Int} (hd : itOf d S = .ok (ns.map D.int) S) (hb : ∀ i ∈ ns, i.natAbs < 2 ^ 2000) (h0 : G ns ≠ 0) (hl : ns.length ≤ 1000) : f__law_prim [d] S = .ok (.tup ((ns.map fun i => i / (G ns : Int)).map D.int)) S := by
  refine eq_of_wp ?_
  unfold f__law_prim
  rw [wp_fnD]
  simp [g__law_prim, startD, least hd hb, hd]
  rw [cDiv _ (by simp [wipeD]) (G ns) (by simp [wipeD]) (divOk_G h0 hb) _ _ (by omega)]
  simp
  exact gcQ_cl (by simp) ⟨by simp, by simp⟩
theorem primitive {d : D} {ns : List Int} (hd : itOf d S = .ok (ns.map D.int) S) (hb : ∀ i ∈ ns, i.natAbs < 2 ^ 2000) (h0 : G ns ≠ 0) (hl : ns.length ≤ 1000) : f_primitive [d] S = .ok (.tup ((ns.map fun i => i / (G ns : Int)).map D.int)) S := by
  refine eq_of_wp ?_
  unfold f_primitive
  rw [wp_fnD]
  simp [g_primitive, startD, divisor hd, hd]
  rw [cDiv _ (by simp [wipeD]) (G ns) (by simp [wipeD]) (divOk_G h0 hb) _ _ (by omega)]
  simp
  exact gcQ_cl (by simp) ⟨by simp, by simp⟩
theorem belief_of {d : D} {ns : List Int} (hd : itOf d S = .ok (ns.map D.int) S) (hb : ∀ i ∈ ns, i.natAbs < 2 ^ 2000) (h0 : G ns ≠ 0) (hl : ns.length ≤ 1000) : f_belief_of [d] S = .ok (.tup ((ns.map fun i => i / (G ns : Int)).map D.int)) S := by
  refine eq_of_wp ?_
  unfold f_belief_of
  rw [wp_fnD]
  simp [g_belief_of, startD, primitive hd hb h0 hl]
  exact gcQ_cl (by simp) ⟨by simp, by simp⟩
/-! ### judging -/
def nn : D → Bool
  | .int i => decide (0 ≤ i)
  | _ => false
theorem is_integer {b w k : Nat} {x : D} (hx : Gd b w k x) : f_is_integer [x, .int 0, .non] S = .ok (.bl (nn x)) S := by
  refine eq_of_wp ?_
  unfold f_is_integer
  rw [wp_fnD]
  cases x with
  | ref m => exact absurd hx.p (by simp [Fk.plain])
  | scr xs => exact absurd hx.p (by simp [Fk.plain])
  | exn _ _ _ => exact absurd hx.p (by simp [Fk.plain])
  | int i =>
    by_cases hi : i < 0
    · simp [g_is_integer, startD, hi, nn]
      exact gcQ_cl (by simp) ⟨by simp; omega, by simp⟩
    · simp [g_is_integer, startD, hi, nn]
      exact gcQ_cl (by simp) ⟨by simp; omega, by simp⟩
  | _ =>
    simp [g_is_integer, startD, nn]
    exact gcQ_cl (by simp) ⟨by simp, by simp⟩
theorem whole {b w k : Nat} {x : D} (hx : Gd b w k x) : f__law_whole [x, .int 0, x] S = .ok (.bl (nn x)) S := by
  refine eq_of_wp ?_
  unfold f__law_whole
  rw [wp_fnD]
  cases x with
  | ref m => exact absurd hx.p (by simp [Fk.plain])
  | scr xs => exact absurd hx.p (by simp [Fk.plain])
  | exn _ _ _ => exact absurd hx.p (by simp [Fk.plain])
  | int i =>
    by_cases hi : 0 ≤ i
    · simp [g__law_whole, startD, hi, nn]
      exact gcQ_cl (by simp) ⟨by simp, by simp⟩
    · simp [g__law_whole, startD, hi, nn]
      exact gcQ_cl (by simp) ⟨by simp, by simp⟩
  | _ =>
    simp [g__law_whole, startD, nn]
    exact gcQ_cl (by simp) ⟨by simp, by simp⟩
def inR (lo hi : Int) : D → Bool
  | .int i => decide (lo ≤ i ∧ i ≤ hi)
  | _ => false
theorem is_integer2 {b w k : Nat} {x : D} (hx : Gd b w k x) (lo hi : Int) : f_is_integer [x, .int lo, .int hi] S = .ok (.bl (inR lo hi x)) S := by
  refine eq_of_wp ?_
  unfold f_is_integer
  rw [wp_fnD]
  cases x with
  | ref m => exact absurd hx.p (by simp [Fk.plain])
  | scr xs => exact absurd hx.p (by simp [Fk.plain])
  | exn _ _ _ => exact absurd hx.p (by simp [Fk.plain])
  | int i =>
    by_cases hl : i < lo
    · simp [g_is_integer, startD, hl]
      exact gcQ_cl (by simp) ⟨by simp [inR]; omega, by simp⟩
    · simp [g_is_integer, startD, hl]
      exact gcQ_cl (by simp) ⟨by simp [inR]; omega, by simp⟩
  | _ =>
    simp [g_is_integer, startD]
    exact gcQ_cl (by simp) ⟨by simp [inR], by simp⟩
theorem law_whole2 {b w k : Nat} {x : D} (hx : Gd b w k x) (lo hi : Int) : f__law_whole [x, .int lo, .int hi] S = .ok (.bl (inR lo hi x)) S := by
  refine eq_of_wp ?_
  unfold f__law_whole
  rw [wp_fnD]
  cases x with
  | ref m => exact absurd hx.p (by simp [Fk.plain])
  | scr xs => exact absurd hx.p (by simp [Fk.plain])
  | exn _ _ _ => exact absurd hx.p (by simp [Fk.plain])
  | int i =>
    by_cases hl : lo ≤ i
    · simp [g__law_whole, startD, hl]
      exact gcQ_cl (by simp) ⟨by simp [inR]; omega, by simp⟩
    · simp [g__law_whole, startD, hl]
      exact gcQ_cl (by simp) ⟨by simp [inR]; omega, by simp⟩
  | _ =>
    simp [g__law_whole, startD]
    exact gcQ_cl (by simp) ⟨by simp [inR], by simp⟩
theorem nn_ints : ∀ {xs : List D}, xs.all nn = true → ∃ ns : List Int, xs = ns.map D.int ∧ ∀ i ∈ ns, 0 ≤ i
  | [], _ => ⟨[], rfl, by simp⟩
  | x :: xs, h => by
    simp at h
    obtain ⟨ns, rfl, hn⟩ := nn_ints (xs := xs) (by simpa using h.2)
    cases x with
    | int i => exact ⟨i :: ns, rfl, by
        have := h.1
        simp [nn] at this
        simpa [this] using hn⟩
    | _ => simp [nn] at h
def toInts (xs : List D) : List Int := xs.filterMap fun d => match d with
  | .int i => some i
  | _ => none
theorem toInts_map (ns : List Int) : toInts (ns.map D.int) = ns := by simp [toInts, List.filterMap_map, Function.comp_def]
def isB (m : Nat) : D → Bool
  | .tup xs => decide (xs.length = m) && (xs.all nn && decide (G (toInts xs) = 1))
  | _ => false
theorem cNN (F : FSem) (ρ : Fk.Env) (h : 2 < ρ.length) (e : SemE) (xs : List D) (S : Store) (he : ∀ x ∈ xs, e (ρ.set 2 (some x)) S = .ok (.bl (nn x)) S) (hl : xs.length ≤ 4000000) : compGo (compStep (gN 2) sYes e ρ) xs [] S = .ok ((xs.map nn).map D.bl) S := by
  rw [compGo_map (h := fun d => .bl (nn d))]
  · simp
  · intro x hx
    exact eq_of_wp (by simp [he x hx])
  · simpa using hl
theorem is_belief {b w k m : Nat} {v : D} {rs : List D} {is : List Int} (hv : Gd b w (k + 1) v) (hw : w ≤ 4000000) (hb : b ≤ 1900) (hr : rs ≠ []) (h0 : atI rs 0 = some (rowD is)) (hm : is.length = m) : f_is_belief [.tup rs, v] S = .ok (.bl (isB m v)) S := by
  refine eq_of_wp ?_
  unfold f_is_belief
  rw [wp_fnD]
  rcases tyTup (S := S) hv with ⟨xs, rfl⟩ | ht
  · have hx := hv.tupA
    have hxl := hx.len
    by_cases hl : xs.length = m
    · have hl' : (xs.length : Int) = is.length := by omega
      simp [g_is_belief, startD, h0, rowD, hl']
      rw [cNN f_is_integer _ (by simp [wipeD]) _ _ _ ?_ (by omega)]
      · simp only [wp_ok, kF_eq, kA1_eq, wp_aNil, kA2_eq, kO_eq, all_bls, Option.some.injEq, exists_eq_left']
        cases ha : (xs.map nn).all id with
        | true =>
          have ha' : xs.all nn = true := by simpa using ha
          obtain ⟨ns, rfl, hn⟩ := nn_ints ha'
          have hdv := divisor (S := S) (d := .tup (ns.map D.int)) (ns := ns) rfl
          simp [ha, hdv]
          refine gcQ_cl (by simp) ⟨?_, by simp⟩
          have : isB m (.tup (ns.map D.int)) = decide (G ns = 1) := by
            simp only [isB, ha', toInts_map]
            simp [hl]
            try simpa using hl
          rw [this]
          congr 1
          simp
          omega
        | false =>
          simp [ha]
          refine gcQ_cl (by simp) ⟨?_, by simp⟩
          have ha' : xs.all nn = false := by simpa using ha
          simp only [isB, ha']
          simp
      · intro x hx'
        exact eq_of_wp (by simp [wipeD, is_integer (hx.mem hx')])
    · have hl' : ¬ (xs.length : Int) = is.length := by omega
      simp [g_is_belief, startD, h0, rowD, hl']
      exact gcQ_cl (by simp) ⟨by simp [isB, hl], by simp⟩
  · simp [g_is_belief, startD, ht]
    refine gcQ_cl (by simp) ⟨?_, by simp⟩
    cases v with
    | tup xs => simp at ht
    | _ => rfl
theorem law_is_belief {b w k m : Nat} {v : D} {rs : List D} {is : List Int} (hv : Gd b w (k + 1) v) (hw : w ≤ 4000000) (hb : b ≤ 1900) (hr : rs ≠ []) (h0 : atI rs 0 = some (rowD is)) (hm : is.length = m) : f__law_is_belief [.tup rs, v] S = .ok (.bl (isB m v)) S := by
  refine eq_of_wp ?_
  unfold f__law_is_belief
  rw [wp_fnD]
  rcases tyTup (S := S) hv with ⟨xs, rfl⟩ | ht
  · have hx := hv.tupA
    have hxl := hx.len
    by_cases hl : xs.length = m
    · have hl' : (xs.length : Int) = is.length := by omega
      simp [g__law_is_belief, startD, h0, rowD, hl']
      rw [cNN f_is_integer _ (by simp [wipeD]) _ _ _ ?_ (by omega)]
      · simp only [wp_ok, kF_eq, kB2_eq, in_bls, Option.some.injEq, exists_eq_left', kTB_eq, D.bl.injEq]
        cases ha : (xs.map nn).all id with
        | true =>
          have ha' : xs.all nn = true := by simpa using ha
          obtain ⟨ns, rfl, hn⟩ := nn_ints ha'
          have hdv := least (S := S) (d := .tup (ns.map D.int)) (ns := ns) rfl (fun i hi => by
            have := (hx.mem (List.mem_map.mpr ⟨i, hi, rfl⟩)).intI.1
            have h2 : i.natAbs < 2 ^ (i.natAbs.log2 + 1) := Nat.lt_log2_self
            exact Nat.lt_of_lt_of_le h2 (Nat.pow_le_pow_right (by decide) (by omega)))
          simp [ha, hdv]
          refine gcQ_cl (by simp) ⟨?_, by simp⟩
          have : isB m (.tup (ns.map D.int)) = decide (G ns = 1) := by
            simp only [isB, ha', toInts_map]
            simp [hl]
            try simpa using hl
          rw [this]
          congr 1
          simp
          omega
        | false =>
          simp [ha]
          refine gcQ_cl (by simp) ⟨?_, by simp⟩
          have ha' : xs.all nn = false := by simpa using ha
          simp only [isB, ha']
          simp
      · intro x hx'
        exact eq_of_wp (by simp [wipeD, whole (hx.mem hx')])
    · have hl' : ¬ (xs.length : Int) = is.length := by omega
      simp [g__law_is_belief, startD, h0, rowD, hl']
      exact gcQ_cl (by simp) ⟨by simp [isB, hl], by simp⟩
  · simp [g__law_is_belief, startD, ht]
    refine gcQ_cl (by simp) ⟨?_, by simp⟩
    cases v with
    | tup xs => simp at ht
    | _ => rfl

variable {n : Nat} {T S : Store} {E : EX}
/-! ### greatest common divisors, plain -/
theorem Gf_zero : ∀ (ns : List Int) (a : Nat), Gf a ns = 0 → a = 0 ∧ ∀ i ∈ ns, i = 0
  | [], a, h => ⟨h, by simp⟩
  | i :: ns, a, h => by
    obtain ⟨h1, h2⟩ := Gf_zero ns _ h
    obtain ⟨h3, h4⟩ := Nat.gcd_eq_zero_iff.mp h1
    refine ⟨h3, fun j hj => ?_⟩
    rcases List.mem_cons.mp hj with rfl | hj
    · omega
    · exact h2 j hj
theorem Gf_dvd : ∀ (ns : List Int) (a : Nat), Gf a ns ∣ a ∧ ∀ i ∈ ns, (Gf a ns : Int) ∣ i
  | [], a => ⟨Nat.dvd_refl _, by simp⟩
  | i :: ns, a => by
    obtain ⟨h1, h2⟩ := Gf_dvd ns (Nat.gcd a i.natAbs)
    refine ⟨Nat.dvd_trans h1 (Nat.gcd_dvd_left _ _), fun j hj => ?_⟩
    rcases List.mem_cons.mp hj with rfl | hj
    · exact Int.ofNat_dvd_left.mpr (Nat.dvd_trans h1 (Nat.gcd_dvd_right _ _))
    · exact h2 j hj
theorem Gf_mul (c : Nat) : ∀ (ns : List Int) (a : Nat), Gf (c * a) (ns.map fun i => (c : Int) * i) = c * Gf a ns
  | [], a => rfl
  | i :: ns, a => by
    show Gf (Nat.gcd (c * a) ((c : Int) * i).natAbs) _ = c * Gf (Nat.gcd a i.natAbs) ns
    rw [Int.natAbs_mul, Int.natAbs_natCast, Nat.gcd_mul_left]
    exact Gf_mul c ns _
theorem G_mul (c : Nat) (ns : List Int) : G (ns.map fun i => (c : Int) * i) = c * G ns := by
  have := Gf_mul c ns 0
  simpa [G] using this
theorem G_div {ns : List Int} (h : G ns ≠ 0) : G (ns.map fun i => i / (G ns : Int)) = 1 := by
  have e : (ns.map fun i => i / (G ns : Int)).map (fun i => (G ns : Int) * i) = ns := by
    rw [List.map_map]
    conv => rhs; rw [← List.map_id ns]
    apply List.map_congr_left
    intro i hi
    exact Int.mul_ediv_cancel' ((Gf_dvd ns 0).2 i hi)
  have h2 := G_mul (G ns) (ns.map fun i => i / (G ns : Int))
  rw [e] at h2
  have h3 : G ns * 1 = G ns * G (ns.map fun i => i / (G ns : Int)) := by omega
  exact (Nat.eq_of_mul_eq_mul_left (by omega) h3).symm
theorem G_pos {ns : List Int} {i : Int} (hi : i ∈ ns) (h0 : i ≠ 0) : G ns ≠ 0 := fun h => h0 ((Gf_zero ns 0 h).2 i hi)
theorem sum_pos : ∀ {ns : List Int}, 0 < ns.sum → ∃ i ∈ ns, i ≠ 0
  | [], h => by simp at h
  | i :: ns, h => by
    by_cases h0 : i = 0
    · subst h0
      obtain ⟨j, hj, hj0⟩ := sum_pos (ns := ns) (by simpa using h)
      exact ⟨j, by simp [hj], hj0⟩
    · exact ⟨i, by simp, h0⟩
theorem unit_G : ∀ m : Fin 5, ∀ a : Fin 5, a.1 < m.1 → G ((List.range m.1).map fun (k : Nat) => if (k : Int) = (a.1 : Int) then (1 : Int) else 0) = 1 := by decide
def Bel (m : Nat) (ns : List Int) : Prop := ns.length = m ∧ (∀ i ∈ ns, 0 ≤ i ∧ i < 10 ^ 20) ∧ G ns = 1

end Sp
end

set_option Elab.async false
set_option linter.all false
set_option maxRecDepth 100000
set_option maxHeartbeats 1000000
noncomputable section
namespace Sp
open PySem PySem.Spec PyProof.Rows L2 Fk Sm
variable {n : Nat} {T S : Store} {E : EX}
theorem belief (h : Bx n T S) (m : Nat) (hm : 2 ≤ m ∧ m ≤ 4) (hn : n ≤ 10 ^ 27) : (f__law_belief [.ref 1, .int m] S).wp (fun r S' => ∃ ns, r = .tup (ns.map D.int) ∧ Bel m ns ∧ Bx (n + 20) T S') E := by
  unfold f__law_belief
  rw [wp_fnD]
  have fin : ∀ {ns : List Int} {S' : Store} {q : Nat}, q ≤ n + 20 → Bel m ns → Bx q T S' → (KS.fn (List.length S) (fun r S' => ∃ ns, r = .tup (ns.map D.int) ∧ Bel m ns ∧ Bx (n + 20) T S') E).rt (.tup (ns.map D.int)) S' := fun hq hb hB => rt_cl (by simp) ⟨_, rfl, hb, (hB.mono hq).take0 h.len⟩
  simp [g__law_belief, startD]
  refine (draw h (by omega) (by decide) (by decide +kernel)).no fun r S1 ⟨d, e, d0, d1, hB1⟩ => ?_
  subst e
  by_cases hd : d = 0
  · simp [hd]
    refine (draw (m := (m : Int)) hB1 (by omega) (by omega) (log2_len (by omega))).no fun r S2 ⟨a, e, a0, a1, hB2⟩ => ?_
    subst e
    obtain ⟨a, rfl⟩ : ∃ a' : Nat, a = a' := ⟨a.toNat, by omega⟩
    simp [okR]
    refine ⟨by omega, ?_⟩
    have ec : compGo (compStep (gN 6) sYes (eOps Fk.intD (aCons (eBin opEqA (eVar 6) (eVar 3)) aNil)) (wipeD [some (.ref 1), some (.int m), some (.int 0), some (.int a), none, none, none] [6])) (rng 0 m) [] S2 = .ok (((List.range m).map fun (k : Nat) => if (k : Int) = (a : Int) then (1 : Int) else 0).map D.int) S2 := by
      rw [compGo_map (h := fun d => match d with | .int i => .int (if i = (a : Int) then 1 else 0) | d => d)]
      · simp [rng]
      · intro x hx
        simp [rng] at hx
        obtain ⟨i, _, rfl⟩ := hx
        exact eq_of_wp (by simp [wipeD])
      · simp [rng]; omega
    rw [ec]
    simp only [wp_ok, kF_eq, kA1_eq, wp_aNil, kA2_eq, kO_eq, tup_lst, Option.some.injEq, exists_eq_left']
    refine fin (by omega) ⟨by simp, ?_, ?_⟩ hB2
    · intro i hi
      simp at hi
      obtain ⟨k, _, rfl⟩ := hi
      split <;> omega
    · exact unit_G ⟨m, by omega⟩ ⟨a, by omega⟩ (by simp; omega)
  · simp [hd, powOk, sz]
    refine (one hB1 (by omega) (by simp) (by simp) (by simp)).no fun r S2 ⟨hr, hB2⟩ => ?_
    obtain ⟨q, rfl, q1, q2⟩ : ∃ q : Int, r = .int q ∧ 1 ≤ q ∧ q ≤ 10 ^ 20 := by
      simp at hr
      rcases hr with rfl | rfl | rfl | rfl | rfl
      · exact ⟨_, rfl, by decide, by decide⟩
      · exact ⟨_, rfl, by decide, by decide⟩
      · exact ⟨_, rfl, by decide, by decide⟩
      · exact ⟨_, rfl, by decide, by decide⟩
      · exact ⟨_, rfl, by decide, by decide⟩
    simp [okR]
    refine ⟨by omega, wp_compGo (fun xs acc S => ∃ is : List Int, acc = is.map D.int ∧ is.length + xs.length = m ∧ (∀ i ∈ is, 0 ≤ i ∧ i < 10 ^ 20) ∧ Bx (n + 2 + is.length) T S) ⟨[], rfl, by simp [rng], by simp, by simpa using hB2⟩ ?_ ?_⟩
    · rintro x xs acc S ⟨is, rfl, hl, hb, hB⟩
      simp only [List.length_cons] at hl
      simp [wipeD]
      refine (draw (m := q) hB (by omega) (by omega) (log2_of 80 (by decide) (by omega) (by omega))).no fun r S' ⟨i, e, i0, i1, hB'⟩ => ?_
      subst e
      refine ⟨by simp [sz]; omega, is ++ [i], by simp, by simp; omega, ?_, hB'.mono (by simp; omega)⟩
      intro j hj
      rcases List.mem_append.mp hj with hj | hj
      · exact hb j hj
      · simp at hj; subst hj; omega
    · rintro acc S3 ⟨is, rfl, hl, hb, hB⟩
      simp at hl
      have hsum : sumD [.lst (is.map D.int)] S3 = some (.int is.sum) := by
        show (asInts (is.map D.int)).map _ = _
        rw [asInts_map]
        rfl
      have use : ∀ (d : D) (ns : List Int), itOf d S3 = .ok (ns.map D.int) S3 → ns.length = m → (∀ i ∈ ns, 0 ≤ i ∧ i < 10 ^ 20) → G ns ≠ 0 → ∀ E', (f__law_prim [d] S3).wp (KS.fn (List.length S) (fun r S' => ∃ ns, r = .tup (ns.map D.int) ∧ Bel m ns ∧ Bx (n + 20) T S') E).rt E' := fun d ns hd hl hb h0 E' => by
        rw [prim hd (fun i hi => Nat.lt_of_lt_of_le (show i.natAbs < 2 ^ 80 by have := hb i hi; omega) (Nat.pow_le_pow_right (by decide) (by decide))) h0 (by omega), wp_ok]
        refine fin (by omega) ⟨by simpa using hl, ?_, G_div h0⟩ hB
        intro i hi
        obtain ⟨j, hj, rfl⟩ := List.mem_map.mp hi
        have hj2 := hb j hj
        have hg : (0 : Int) < G ns := by omega
        exact ⟨Int.ediv_nonneg hj2.1 (by omega), Int.lt_of_le_of_lt (Int.ediv_le_self _ hj2.1) hj2.2⟩
      by_cases hs : 0 < is.sum
      · simp [hsum, hs]
        obtain ⟨i, hi, hi0⟩ := sum_pos hs
        exact use _ is rfl hl hb (G_pos hi hi0) _
      · have hm2 := mulL [D.int 1] (m : Int) S3 ⟨by omega, by omega, by simp⟩
        have e : (List.replicate ((m : Int).toNat) [D.int 1]).flatten = (List.replicate m (1 : Int)).map D.int := by
          simp [List.flatten_replicate_singleton]
        simp [hsum, hs, sz, hm2, e]
        refine use _ (List.replicate m 1) (by simp) (by simp) (by intro i hi; have := List.eq_of_mem_replicate hi; omega) (G_pos (i := 1) (by simp; omega) (by decide)) _

end Sp
end

set_option Elab.async false
set_option linter.all false
set_option maxRecDepth 100000
set_option maxHeartbeats 1000000
noncomputable section
namespace Sp
open PySem PySem.Spec PyProof.Rows L2 Fk Sm
variable {n : Nat} {T S : Store} {E : EX}
theorem two2000 {i : Int} {a : Nat} (h : i.natAbs < 2 ^ a) (ha : a ≤ 2000) : i.natAbs < 2 ^ 2000 := natAbs_pow h ha
theorem product {xs ys : List Int} (hx : ∀ i ∈ xs, i.natAbs < 2 ^ 2000) (hy : ∀ i ∈ ys, i.natAbs < 2 ^ 2000) (hl : xs.length ≤ 1000) : f_product [tI xs, tI ys] S = .ok (.int (dot xs ys)) S := by
  refine eq_of_wp ?_
  unfold f_product
  rw [wp_fnD]
  simp [g_product, startD]
  rw [comp_ints fun p : Int × Int => p.1 * p.2]
  · generalize hz : ((xs.zip ys).map fun p : Int × Int => p.1 * p.2) = zs
    simp
    exact gcQ_cl (by simp) ⟨by simp [dot, hz], by simp⟩
  · rintro ⟨a, b⟩ hp
    obtain ⟨h1, h2⟩ := List.of_mem_zip hp
    refine eq_of_wp ?_
    simp [wipeD, sYes, mul_ok (Fk.mulOk_of 2000 2000 (hx _ h1) (hy _ h2) (by decide))]
  · simp; omega
def fracL (a b : Int) : List Int := [a / (G [a, b] : Int), b / (G [a, b] : Int)]
theorem fraction {a b : Int} (ha : a.natAbs < 2 ^ 2000) (hb : b.natAbs < 2 ^ 2000) (h0 : 0 < b) : f_fraction [.int a, .int b] S = .ok (tI (fracL a b)) S := by
  refine eq_of_wp ?_
  unfold f_fraction
  rw [wp_fnD]
  have hp : f_primitive [.tup [.int a, .int b]] S = .ok (tI (fracL a b)) S := primitive (S := S) (d := tI [a, b]) (ns := [a, b]) rfl (by simp; exact ⟨ha, hb⟩) (G_pos (i := b) (by simp) (by omega)) (by simp)
  simp [g_fraction, startD, sz, hp]
  exact gcQ_cl (by simp) ⟨by simp, by simp⟩
structure Mn (m : Nat) (rs : List (List Int)) : Prop where
  m2 : 2 ≤ m
  m4 : m ≤ 4
  ne : rs ≠ []
  row : ∀ is ∈ rs, RowOk m is
  len : rs.length ≤ 20
abbrev mD (rs : List (List Int)) : D := .tup (rs.map rowD)
theorem Mn.at0 {m : Nat} {rs : List (List Int)} (h : Mn m rs) : ∃ is rest, rs = is :: rest ∧ is.length = m := by
  cases rs with
  | nil => exact absurd rfl h.ne
  | cons a r => exact ⟨a, r, rfl, (h.row a (by simp)).1⟩
theorem Mn.at0D {m : Nat} {rs : List (List Int)} (h : Mn m rs) : ∃ is, atI (rs.map rowD) 0 = some (rowD is) ∧ is.length = m := by
  obtain ⟨is, rest, rfl, hl⟩ := h.at0
  exact ⟨is, by simp, hl⟩
theorem RowOk.bits {m : Nat} {is : List Int} (h : RowOk m is) : ∀ i ∈ is, i.natAbs < 2 ^ 20 := fun i hi => by have := h.2 i hi; omega
theorem require_word {b w k : Nat} {x : D} {ds : List D} (hx : Gd b w k x) : f_require_word [.tup ds, x] S = if inR 0 (ds.length - 1) x then .ok .non S else .exc "NoWord" [("given", x)] S := by
  cases h : inR 0 (ds.length - 1) x with
  | true =>
    refine eq_of_wp ?_
    unfold f_require_word
    rw [wp_fnD]
    simp [g_require_word, startD, is_integer2 hx, h]
  | false =>
    refine exc_of_wp ?_
    unfold f_require_word
    rw [wp_fnD]
    simp [g_require_word, startD, is_integer2 hx, h]
    exact gcE_cl (by simp [closedV, hx.closed]) ⟨rfl, rfl, by simp⟩
theorem require_belief {b w k m : Nat} {v : D} {rs : List (List Int)} (hv : Gd b w (k + 1) v) (hw : w ≤ 4000000) (hb : b ≤ 1900) (hm : Mn m rs) : f_require_belief [mD rs, v] S = if isB m v then .ok .non S else .exc "BadBelief" [("given", v)] S := by
  obtain ⟨is, h0, hl⟩ := hm.at0D
  have e := is_belief (S := S) hv hw hb (rs := rs.map rowD) (by simpa using hm.ne) h0 hl
  cases h : isB m v with
  | true =>
    refine eq_of_wp ?_
    unfold f_require_belief
    rw [wp_fnD]
    simp [g_require_belief, startD, e, h]
  | false =>
    refine exc_of_wp ?_
    unfold f_require_belief
    rw [wp_fnD]
    simp [g_require_belief, startD, e, h]
    exact gcE_cl (by simp [closedV, hv.closed]) ⟨rfl, rfl, by simp⟩
/-- a belief, its items with so many bits -/
structure Bl (m : Nat) (ns : List Int) : Prop where
  len : ns.length = m
  nn : ∀ i ∈ ns, 0 ≤ i
  bits : ∀ i ∈ ns, i.natAbs < 2 ^ 1900
  g : G ns = 1
theorem isB_tI {m : Nat} {ns : List Int} : isB m (tI ns) = (decide (ns.length = m) && (ns.all (fun i => decide (0 ≤ i)) && decide (G ns = 1))) := by
  simp [isB, toInts_map, List.all_map, Function.comp_def, nn]
theorem Bl.isB {m : Nat} {ns : List Int} (h : Bl m ns) : isB m (tI ns) = true := by
  rw [isB_tI]
  simp [h.len, h.g]
  exact h.nn
theorem isB_bl {b w k m : Nat} {v : D} (hv : Gd b w k v) (hb : b ≤ 1900) (h : isB m v = true) : ∃ ns, v = tI ns ∧ Bl m ns := by
  cases v with
  | tup xs =>
    simp [Sp.isB] at h
    obtain ⟨h1, h2, h3⟩ := h
    obtain ⟨ns, rfl, h4⟩ := nn_ints (xs := xs) (by simpa using h2)
    refine ⟨ns, rfl, by simpa using h1, h4, fun i hi => ?_, by rw [toInts_map] at h3; exact h3⟩
    have hp := hv.p
    simp only [Fk.plain] at hp
    have := plainA_iff.mp hp (.int i) (List.mem_map.mpr ⟨i, hi, rfl⟩)
    have : i.natAbs.log2 < b := by simpa [Fk.plain] using this
    by_cases hz : i.natAbs = 0
    · rw [hz]; exact Nat.two_pow_pos _
    · exact (Nat.log2_lt hz).mp (by omega)
  | _ => simp [Sp.isB] at h
theorem sum_nonneg : ∀ {ns : List Int}, (∀ i ∈ ns, 0 ≤ i) → 0 ≤ ns.sum
  | [], _ => by simp
  | i :: r, h => by
    have h1 := h i (by simp)
    have h2 := sum_nonneg fun j hj => h j (List.mem_cons_of_mem _ hj)
    simp
    omega
theorem mem_le_sum : ∀ {ns : List Int}, (∀ i ∈ ns, 0 ≤ i) → ∀ i ∈ ns, i ≤ ns.sum
  | a :: r, h, i, hi => by
    have h1 := h a (by simp)
    have h2 := sum_nonneg fun j hj => h j (List.mem_cons_of_mem _ hj)
    simp only [List.sum_cons]
    rcases List.mem_cons.mp hi with rfl | hi
    · omega
    · have := mem_le_sum (fun j hj => h j (List.mem_cons_of_mem _ hj)) i hi
      omega
theorem Bl.pos {m : Nat} {ns : List Int} (h : Bl m ns) : 0 < ns.sum := by
  have h0 := sum_nonneg h.nn
  have hne : ns.sum ≠ 0 := fun z => by
    have hz : ∀ i ∈ ns, i = 0 := fun i hi => by
      have := mem_le_sum h.nn i hi
      have := h.nn i hi
      omega
    have hg : ∀ (ns : List Int), (∀ i ∈ ns, i = 0) → G ns = 0 := fun ns => by
      have key : ∀ ns : List Int, (∀ i ∈ ns, i = 0) → Gf 0 ns = 0 := fun ns => by
        induction ns with
        | nil => intro _; rfl
        | cons a r ih =>
          intro hz
          have := hz a (by simp)
          subst this
          simp only [Gf, List.foldl_cons]
          exact ih fun j hj => hz j (List.mem_cons_of_mem _ hj)
      exact key ns
    have := h.g
    rw [hg ns hz] at this
    cases this
  omega
theorem Bl.sumbits {m : Nat} {ns : List Int} (h : Bl m ns) (hm : m ≤ 4) : ns.sum.natAbs < 2 ^ 1902 := sum_bits 2 h.bits (by rw [h.len]; exact hm)
theorem dot_row {m : Nat} {is ns : List Int} (h : RowOk m is) (hm : m ≤ 4) (hb : ∀ i ∈ ns, i.natAbs < 2 ^ 1900) : (dot is ns).natAbs < 2 ^ 1922 := dot_bits (k := 2) h.bits hb (by rw [h.1]; exact hm)
def sums (rs : List (List Int)) (ns : List Int) : List Int := rs.map fun is => dot is ns
theorem max_bits {ns : List Int} {a : Nat} (h : ∀ i ∈ ns, i.natAbs < 2 ^ a) : (maxL ns).natAbs < 2 ^ a := by
  cases ns with
  | nil => exact Nat.two_pow_pos a
  | cons x r => exact h _ (maxL_mem (by simp))
theorem most_of {d : D} {ns : List Int} (hd : itOf d S = .ok (ns.map D.int) S) (h0 : ns ≠ []) (hl : ns.length ≤ 1000) : f_most_of [d] S = .ok (.int (maxL ns)) S := by
  refine eq_of_wp ?_
  unfold f_most_of
  rw [wp_fnD]
  simp [g_most_of, startD, hd]
  rw [comp_ints fun i : Int => i]
  · simp [max_ints h0]
    exact gcQ_cl (by simp) ⟨by simp, by simp⟩
  · intro i _
    exact eq_of_wp (by simp [wipeD, sYes])
  · omega
theorem law_most {d : D} {ns : List Int} (hd : itOf d S = .ok (ns.map D.int) S) (h0 : ns ≠ []) (hl : ns.length ≤ 1000) : f__law_most [d] S = .ok (.int (maxL ns)) S := by
  refine eq_of_wp ?_
  unfold f__law_most
  rw [wp_fnD]
  simp [g__law_most, startD, hd]
  rw [comp_ints fun i : Int => i]
  · simp [max_ints h0]
    exact gcQ_cl (by simp) ⟨by simp, by simp⟩
  · intro i _
    exact eq_of_wp (by simp [wipeD, sYes])
  · omega
theorem law_sum {xs ys : List Int} (hx : ∀ i ∈ xs, i.natAbs < 2 ^ 2000) (hy : ∀ i ∈ ys, i.natAbs < 2 ^ 2000) (hl : xs.length ≤ 1000) : f__law_sum [tI xs, tI ys] S = .ok (.int (dot xs ys)) S := by
  refine eq_of_wp ?_
  unfold f__law_sum
  rw [wp_fnD]
  simp [g__law_sum, startD]
  rw [comp_ints fun p : Int × Int => p.1 * p.2]
  · generalize hz : ((xs.zip ys).map fun p : Int × Int => p.1 * p.2) = zs
    simp
    exact gcQ_cl (by simp) ⟨by simp [dot, hz], by simp⟩
  · rintro ⟨a, b⟩ hp
    obtain ⟨h1, h2⟩ := List.of_mem_zip hp
    refine eq_of_wp ?_
    simp [wipeD, sYes, mul_ok (Fk.mulOk_of 2000 2000 (hx _ h1) (hy _ h2) (by decide))]
  · simp; omega
theorem law_divisor {d : D} {ns : List Int} (hd : itOf d S = .ok (ns.map D.int) S) : f__law_divisor [d] S = .ok (.int (G ns)) S := by
  refine eq_of_wp ?_
  unfold f__law_divisor
  rw [wp_fnD]
  simp [g__law_divisor, startD, hd]
  refine wp_forL (fun xs ρ S' => ∃ (a : Nat) (ns' : List Int) (x y : Option D), xs = ns'.map D.int ∧ ρ = [some d, some (.int a), x, y] ∧ S = S' ∧ Gf a ns' = G ns) ⟨0, ns, none, none, rfl, rfl, rfl, rfl⟩ ?_ ?_
  · rintro x xs ρ S' ⟨a, ns', x', y', he, rfl, rfl, hg⟩
    cases ns' with
    | nil => cases he
    | cons i ns' =>
      simp at he
      obtain ⟨rfl, rfl⟩ := he
      simp [abs_nat]
      refine wp_sWhile (fun m ρ S' => ∃ a' b' : Nat, m = b' ∧ ρ = [some d, some (.int a'), some (.int i), some (.int b')] ∧ S = S' ∧ Nat.gcd a' b' = Nat.gcd a i.natAbs) i.natAbs ⟨a, i.natAbs, rfl, rfl, rfl, rfl⟩ ?_
      rintro b' ρ S' ⟨a', _, rfl, rfl, rfl, hab⟩
      by_cases hb : b' = 0
      · subst hb
        simp
        exact ⟨a', ns', rfl, rfl, by simp at hab; rw [hab]; exact hg⟩
      · simp [hb]
        refine ⟨by omega, a' % b', Nat.mod_lt _ (by omega), b', ⟨rfl, by simp⟩, ?_⟩
        rw [← hab, Nat.gcd_comm a' b', Nat.gcd_rec b' a', Nat.gcd_comm]
  · rintro ρ S' ⟨a, ns', x', y', he, rfl, rfl, hg⟩
    cases ns' with
    | cons i ns' => cases he
    | nil =>
      simp
      refine gcQ_cl (closed_int _ _) ⟨?_, by simp⟩
      simp [Gf] at hg
      rw [hg]
theorem law_primitive28 {d : D} {ns : List Int} (hd : itOf d S = .ok (ns.map D.int) S) (hb : ∀ i ∈ ns, i.natAbs < 2 ^ 2000) (h0 : G ns ≠ 0) (hl : ns.length ≤ 1000) : f__law_primitive_k28 [d] S = .ok (tI (ns.map fun i => i / (G ns : Int))) S := by
  refine eq_of_wp ?_
  unfold f__law_primitive_k28
  rw [wp_fnD]
  simp [g__law_primitive_k28, startD, law_divisor hd, hd]
  rw [cDiv _ (by simp [wipeD]) (G ns) (by simp [wipeD]) (divOk_G h0 hb) _ _ (by omega)]
  simp
  exact gcQ_cl (by simp) ⟨by simp, by simp⟩
theorem law_fraction {a b : Int} (ha : a.natAbs < 2 ^ 2000) (hb : b.natAbs < 2 ^ 2000) (h0 : 0 < b) : f__law_fraction [.int a, .int b] S = .ok (tI (fracL a b)) S := by
  refine eq_of_wp ?_
  unfold f__law_fraction
  rw [wp_fnD]
  have hp : f__law_primitive_k28 [.tup [.int a, .int b]] S = .ok (tI (fracL a b)) S := law_primitive28 (S := S) (d := tI [a, b]) (ns := [a, b]) rfl (by simp; exact ⟨ha, hb⟩) (G_pos (i := b) (by simp) (by omega)) (by simp)
  simp [g__law_fraction, startD, sz, hp]
  exact gcQ_cl (by simp) ⟨by simp, by simp⟩
end Sp
end

set_option Elab.async false
set_option linter.all false
set_option maxRecDepth 100000
set_option maxHeartbeats 1000000
noncomputable section
namespace Sp
open PySem PySem.Spec PyProof.Rows L2 Fk Sm
variable {n : Nat} {T S : Store} {E : EX}
theorem sums_len (rs : List (List Int)) (ns : List Int) : (sums rs ns).length = rs.length := by simp [sums]
theorem sums_ne {m : Nat} {rs : List (List Int)} (h : Mn m rs) (ns : List Int) : sums rs ns ≠ [] := by
  obtain ⟨is, rest, rfl, _⟩ := h.at0
  simp [sums]
theorem sums_bits {m : Nat} {rs : List (List Int)} {ns : List Int} (h : Mn m rs) (hb : Bl m ns) : ∀ i ∈ sums rs ns, i.natAbs < 2 ^ 1922 := fun i hi => by
  obtain ⟨is, his, rfl⟩ := List.mem_map.mp hi
  exact dot_row (h.row is his) h.m4 hb.bits
/-- the loss of a word, as a fraction -/
def lossL (rs : List (List Int)) (w : Nat) (ns : List Int) : List Int := fracL (maxL (sums rs ns) - dot (rs.getD w []) ns) ns.sum
theorem sub_bits {i j : Int} {a : Nat} (hi : i.natAbs < 2 ^ a) (hj : j.natAbs < 2 ^ a) : (i - j).natAbs < 2 ^ (a + 1) := by
  rw [Nat.pow_succ]
  omega
theorem cProd {m : Nat} {rs : List (List Int)} {ns : List Int} (h : Mn m rs) (hb : Bl m ns) (ρ : Fk.Env) (i j : Nat) (hij : i ≠ j) (hi : i < ρ.length) (hj : ρ[j]? = some (some (tI ns))) : compGo (compStep (gN i) sYes (eCall f_product [] (aCons (eVar i) (aCons (eVar j) aNil))) ρ) (rs.map rowD) [] S = .ok ((sums rs ns).map D.int) S := by
  unfold sums
  rw [comp_ints fun is => dot is ns]
  · intro is his
    have e : f_product [rowD is, tI ns] S = .ok (.int (dot is ns)) S := product (fun i hi => two2000 ((h.row is his).bits i hi) (by decide)) (fun i hi => two2000 (hb.bits i hi) (by decide)) (by rw [(h.row is his).1]; have := h.m4; omega)
    exact eq_of_wp (by simp [sYes, hi, hj, List.getElem?_set_ne hij, e])
  · have := h.len; omega
theorem loss_at {m w : Nat} {rs : List (List Int)} {ns : List Int} (h : Mn m rs) (hb : Bl m ns) (hw : w < rs.length) : f_loss_at [mD rs, .int w, tI ns] S = .ok (tI (lossL rs w ns)) S := by
  refine eq_of_wp ?_
  unfold f_loss_at
  rw [wp_fnD]
  simp [g_loss_at, startD]
  rw [cProd h hb _ 4 2 (by decide) (by simp [wipeD]) (by simp [wipeD])]
  generalize hs : sums rs ns = ss
  have hne : ss ≠ [] := hs ▸ sums_ne h ns
  have hsb := hs ▸ sums_bits h hb
  have hsl : ss.length ≤ 1000 := by rw [← hs, sums_len]; have := h.len; omega
  have e1 : f_most_of [.lst (ss.map D.int)] S = .ok (.int (maxL ss)) S := most_of rfl hne hsl
  have hr := h.row _ (List.getElem_mem hw)
  have e2 : f_product [rowD rs[w], tI ns] S = .ok (.int (dot rs[w] ns)) S := product (fun i hi => two2000 (hr.bits i hi) (by decide)) (fun i hi => two2000 (hb.bits i hi) (by decide)) (by rw [hr.1]; have := h.m4; omega)
  have e3 : atI (rs.map rowD) (w : Int) = some (rowD rs[w]) := by rw [Fk.atI_nat]; simp [hw]
  have hd := dot_row hr h.m4 hb.bits
  have e4 : f_fraction [.int (maxL ss - dot rs[w] ns), .int ns.sum] S = .ok (tI (fracL (maxL ss - dot rs[w] ns) ns.sum)) S := fraction (two2000 (sub_bits (max_bits hsb) hd) (by decide)) (two2000 (hb.sumbits h.m4) (by decide)) hb.pos
  simp [e1, e3, e2, e4]
  refine gcQ_cl (by simp) ⟨?_, by simp⟩
  simp [lossL, hs, List.getD, hw]
theorem inR_nat {x : D} {l : Nat} (h : inR 0 ((l : Int) - 1) x = true) : ∃ w : Nat, x = .int w ∧ w < l := by
  cases x with
  | int i =>
    simp [inR] at h
    exact ⟨i.toNat, by simp; omega, by omega⟩
  | _ => simp [inR] at h
theorem loss_word {b w k : Nat} {rs : List (List Int)} {x v : D} (hx : Gd b w k x) (h : inR 0 ((rs.length : Int) - 1) x = false) : f_loss [mD rs, x, v] S = .exc "NoWord" [("given", x)] S := by
  have e := require_word (S := S) (ds := rs.map rowD) hx
  simp only [List.length_map, h, Bool.false_eq_true, if_false] at e
  refine exc_of_wp ?_
  unfold f_loss
  rw [wp_fnD]
  simp [g_loss, startD, e]
  exact gcE_cl (by simp [closedV, hx.closed]) ⟨rfl, rfl, by simp⟩
theorem loss_belief {b w k m : Nat} {rs : List (List Int)} {i : Nat} {v : D} (h : Mn m rs) (hi : i < rs.length) (hv : Gd b w (k + 1) v) (hw : w ≤ 4000000) (hb : b ≤ 1900) (hB : isB m v = false) : f_loss [mD rs, .int i, v] S = .exc "BadBelief" [("given", v)] S := by
  have e := require_word (S := S) (ds := rs.map rowD) (x := .int i) (Gd.ofLog (b := i.log2 + 1) (w := i.log2 + 3) (k := 0) (by simp) (by simp))
  have hin : inR 0 ((rs.length : Int) - 1) (.int i) = true := by simp [inR]; omega
  simp only [List.length_map, hin, if_true] at e
  have e2 := require_belief (S := S) hv hw hb h
  simp only [hB, Bool.false_eq_true, if_false] at e2
  refine exc_of_wp ?_
  unfold f_loss
  rw [wp_fnD]
  simp [g_loss, startD, e, e2]
  exact gcE_cl (by simp [closedV, hv.closed]) ⟨rfl, rfl, by simp⟩
theorem Bl.gd {m : Nat} {ns : List Int} (h : Bl m ns) (hm : m ≤ 4) : Gd 1900 7700 1 (tI ns) := by
  have key : ∀ ns : List Int, (∀ i ∈ ns, i.natAbs < 2 ^ 1900) → GdA 1900 (1904 * ns.length) 0 (ns.map D.int) := fun ns => by
    induction ns with
    | nil => intro _; exact GdA.nil
    | cons i ns ih =>
      intro h
      have h1 := (Gd.int (b := 1900) (w := 1902) (k := 0) (by decide) (h i (by simp)) (by decide))
      exact (GdA.cons h1 (ih fun j hj => h j (by simp [hj]))).mono (by simp; omega) (Nat.le_refl _)
  have h1 := key ns h.bits
  rw [h.len] at h1
  exact (h1.tup).mono (by omega) (by decide)
theorem loss_ok {m i : Nat} {rs : List (List Int)} {ns : List Int} (h : Mn m rs) (hi : i < rs.length) (hb : Bl m ns) : f_loss [mD rs, .int i, tI ns] S = .ok (tI (lossL rs i ns)) S := by
  have e := require_word (S := S) (ds := rs.map rowD) (x := .int i) (Gd.ofLog (b := i.log2 + 1) (w := i.log2 + 3) (k := 0) (by simp) (by simp))
  have hin : inR 0 ((rs.length : Int) - 1) (.int i) = true := by simp [inR]; omega
  simp only [List.length_map, hin, if_true] at e
  have e2 := require_belief (S := S) (hb.gd h.m4) (by decide) (by decide) h
  simp only [hb.isB, if_true] at e2
  have e3 := loss_at (S := S) h hb hi
  refine eq_of_wp ?_
  unfold f_loss
  rw [wp_fnD]
  simp [g_loss, startD, e, e2, e3]
  exact gcQ_cl (by simp) ⟨by simp, by simp⟩
theorem law_loss {m w : Nat} {rs : List (List Int)} {ns : List Int} (h : Mn m rs) (hb : Bl m ns) (hw : w < rs.length) : f__law_loss [mD rs, .int w, tI ns] S = .ok (tI (lossL rs w ns)) S := by
  refine eq_of_wp ?_
  unfold f__law_loss
  rw [wp_fnD]
  simp [g__law_loss, startD]
  have ec : ∀ ρ : Fk.Env, 4 < ρ.length → ρ[2]? = some (some (tI ns)) → compGo (compStep (gN 4) sYes (eCall f__law_sum [] (aCons (eVar 4) (aCons (eVar 2) aNil))) ρ) (rs.map rowD) [] S = .ok ((sums rs ns).map D.int) S := fun ρ h1 h2 => by
    unfold sums
    rw [comp_ints fun is => dot is ns]
    · intro is his
      have e : f__law_sum [rowD is, tI ns] S = .ok (.int (dot is ns)) S := law_sum (fun i hi => two2000 ((h.row is his).bits i hi) (by decide)) (fun i hi => two2000 (hb.bits i hi) (by decide)) (by rw [(h.row is his).1]; have := h.m4; omega)
      exact eq_of_wp (by simp [sYes, h1, h2, List.getElem?_set_ne, e])
    · have := h.len; omega
  rw [ec _ (by simp [wipeD]) (by simp [wipeD])]
  generalize hs : sums rs ns = ss
  have hne : ss ≠ [] := hs ▸ sums_ne h ns
  have hsb := hs ▸ sums_bits h hb
  have hsl : ss.length ≤ 1000 := by rw [← hs, sums_len]; have := h.len; omega
  have hwl : w < ss.length := by rw [← hs, sums_len]; exact hw
  have e1 : f__law_most [.lst (ss.map D.int)] S = .ok (.int (maxL ss)) S := law_most rfl hne hsl
  have hr := h.row _ (List.getElem_mem hw)
  have hx : ss[w] = dot rs[w] ns := by simp [← hs, sums]
  have e3 : atI (ss.map D.int) (w : Int) = some (.int (dot rs[w] ns)) := by rw [Fk.atI_nat]; simp [hwl, hx]
  have hd := dot_row hr h.m4 hb.bits
  have e4 : f__law_fraction [.int (maxL ss - dot rs[w] ns), .int ns.sum] S = .ok (tI (fracL (maxL ss - dot rs[w] ns) ns.sum)) S := law_fraction (two2000 (sub_bits (max_bits hsb) hd) (by decide)) (two2000 (hb.sumbits h.m4) (by decide)) hb.pos
  simp [e1, e3, e4]
  refine gcQ_cl (by simp) ⟨?_, by simp⟩
  simp [lossL, hs, List.getD, hw]
end Sp
end

set_option Elab.async false
set_option linter.all false
set_option maxRecDepth 100000
namespace Fk
open PySem PySem.Spec PyProof.Rows L2
/-! ### the errors' table, entry by entry -/
@[simp] theorem tb_FrankError : frTbl.at "FrankError" = some (["FrankError"] : List Str) := by decide
@[simp] theorem tb_BadAnswers : frTbl.at "BadAnswers" = some (["BadAnswers", "FrankError"] : List Str) := by decide
@[simp] theorem tb_BadBatch : frTbl.at "BadBatch" = some (["BadBatch", "FrankError"] : List Str) := by decide
@[simp] theorem tb_BadBelief : frTbl.at "BadBelief" = some (["BadBelief", "FrankError"] : List Str) := by decide
@[simp] theorem tb_BadMark : frTbl.at "BadMark" = some (["BadMark", "FrankError"] : List Str) := by decide
@[simp] theorem tb_BadMenu : frTbl.at "BadMenu" = some (["BadMenu", "FrankError"] : List Str) := by decide
@[simp] theorem tb_BadNumber : frTbl.at "BadNumber" = some (["BadNumber", "FrankError"] : List Str) := by decide
@[simp] theorem tb_BadRow : frTbl.at "BadRow" = some (["BadRow", "FrankError"] : List Str) := by decide
@[simp] theorem tb_BadText : frTbl.at "BadText" = some (["BadText", "FrankError"] : List Str) := by decide
@[simp] theorem tb_Busy : frTbl.at "Busy" = some (["Busy", "FrankError"] : List Str) := by decide
@[simp] theorem tb_LastWord : frTbl.at "LastWord" = some (["LastWord", "FrankError"] : List Str) := by decide
@[simp] theorem tb_NoAnswer : frTbl.at "NoAnswer" = some (["NoAnswer", "FrankError"] : List Str) := by decide
@[simp] theorem tb_NoCell : frTbl.at "NoCell" = some (["NoCell", "FrankError"] : List Str) := by decide
@[simp] theorem tb_NotFrank : frTbl.at "NotFrank" = some (["NotFrank", "FrankError"] : List Str) := by decide
@[simp] theorem tb_NothingToUndo : frTbl.at "NothingToUndo" = some (["NothingToUndo", "FrankError"] : List Str) := by decide
@[simp] theorem tb_NoVersion : frTbl.at "NoVersion" = some (["NoVersion", "FrankError"] : List Str) := by decide
@[simp] theorem tb_NoWord : frTbl.at "NoWord" = some (["NoWord", "FrankError"] : List Str) := by decide
@[simp] theorem tb_Rejected : frTbl.at "Rejected" = some (["Rejected", "FrankError"] : List Str) := by decide
@[simp] theorem tb_TooFew : frTbl.at "TooFew" = some (["TooFew", "FrankError"] : List Str) := by decide
@[simp] theorem tb_TooGreat : frTbl.at "TooGreat" = some (["TooGreat", "FrankError"] : List Str) := by decide
@[simp] theorem tb_TooMany : frTbl.at "TooMany" = some (["TooMany", "FrankError"] : List Str) := by decide
@[simp] theorem tb_TooManyEdits : frTbl.at "TooManyEdits" = some (["TooManyEdits", "FrankError"] : List Str) := by decide
@[simp] theorem tb_Unlike : frTbl.at "Unlike" = some (["Unlike", "FrankError"] : List Str) := by decide
@[simp] theorem xf_BadAnswers_given {x : D} {S : Store} : opXf csGiven "given" (caught "BadAnswers" [("given", x)]) S = some x := by
  show (if csGiven.contains "BadAnswers" then lookF ["given"] [x] "given" else none) = _
  rw [if_pos (by decide)]
  simp [lookF]
@[simp] theorem xf_BadBelief_given {x : D} {S : Store} : opXf csGiven "given" (caught "BadBelief" [("given", x)]) S = some x := by
  show (if csGiven.contains "BadBelief" then lookF ["given"] [x] "given" else none) = _
  rw [if_pos (by decide)]
  simp [lookF]
@[simp] theorem xf_BadMark_given {x : D} {S : Store} : opXf csGiven "given" (caught "BadMark" [("given", x)]) S = some x := by
  show (if csGiven.contains "BadMark" then lookF ["given"] [x] "given" else none) = _
  rw [if_pos (by decide)]
  simp [lookF]
@[simp] theorem xf_BadNumber_given {x : D} {S : Store} : opXf csGiven "given" (caught "BadNumber" [("given", x)]) S = some x := by
  show (if csGiven.contains "BadNumber" then lookF ["given"] [x] "given" else none) = _
  rw [if_pos (by decide)]
  simp [lookF]
@[simp] theorem xf_BadRow_given {x : D} {S : Store} : opXf csGiven "given" (caught "BadRow" [("given", x)]) S = some x := by
  show (if csGiven.contains "BadRow" then lookF ["given"] [x] "given" else none) = _
  rw [if_pos (by decide)]
  simp [lookF]
@[simp] theorem xf_BadText_given {x : D} {S : Store} : opXf csGiven "given" (caught "BadText" [("given", x)]) S = some x := by
  show (if csGiven.contains "BadText" then lookF ["given"] [x] "given" else none) = _
  rw [if_pos (by decide)]
  simp [lookF]
@[simp] theorem xf_NoAnswer_given {x : D} {S : Store} : opXf csGiven "given" (caught "NoAnswer" [("given", x)]) S = some x := by
  show (if csGiven.contains "NoAnswer" then lookF ["given"] [x] "given" else none) = _
  rw [if_pos (by decide)]
  simp [lookF]
@[simp] theorem xf_NoVersion_given {x : D} {S : Store} : opXf csGiven "given" (caught "NoVersion" [("given", x)]) S = some x := by
  show (if csGiven.contains "NoVersion" then lookF ["given"] [x] "given" else none) = _
  rw [if_pos (by decide)]
  simp [lookF]
@[simp] theorem xf_NoWord_given {x : D} {S : Store} : opXf csGiven "given" (caught "NoWord" [("given", x)]) S = some x := by
  show (if csGiven.contains "NoWord" then lookF ["given"] [x] "given" else none) = _
  rw [if_pos (by decide)]
  simp [lookF]
@[simp] theorem xf_NoCell_word {x : D} {S : Store} : opXf csWord "word" (caught "NoCell" [("word", x)]) S = some x := by
  show (if csWord.contains "NoCell" then lookF ["word"] [x] "word" else none) = _
  rw [if_pos (by decide)]
  simp [lookF]
@[simp] theorem xf_TooMany_limit {x : D} {S : Store} : opXf csLimit "limit" (caught "TooMany" [("limit", x)]) S = some x := by
  show (if csLimit.contains "TooMany" then lookF ["limit"] [x] "limit" else none) = _
  rw [if_pos (by decide)]
  simp [lookF]
@[simp] theorem xf_BadMenu_error {x : D} {S : Store} : opXf csError "error" (caught "BadMenu" [("error", x)]) S = some x := by
  show (if csError.contains "BadMenu" then lookF ["error"] [x] "error" else none) = _
  rw [if_pos (by decide)]
  simp [lookF]
@[simp] theorem xf_Rejected_index {x : D} {S : Store} : opXf csIndex "index" (caught "Rejected" [("index", x)]) S = some x := by
  show (if csIndex.contains "Rejected" then lookF ["index"] [x] "index" else none) = _
  rw [if_pos (by decide)]
  simp [lookF]
section
variable {ρ : Env} {S : Store} {k : KS} {fs : List (Str × D)} {x : Str} {i : Option Nat} {g : SemS} {r : List (Str × Option Nat × SemS)}
/-- the first clause fits -/
theorem hd_yes {c : Str} {anc : List Str} (h : anc.contains x = true := by decide) : (goH c fs anc ((x, i, g) :: r) ρ S).wp k = (g (inE i (caught c fs) ρ) S).wp (kHd i k) := wp_goH_yes _ _ _ _ _ _ _ h
theorem hd_no {c : Str} {anc : List Str} (h : anc.contains x = false := by decide) : (goH c fs anc ((x, i, g) :: r) ρ S).wp k = (goH c fs anc r ρ S).wp k := wp_goH_no _ _ _ _ _ _ _ h
end
theorem mulT_rep {d : D} {k : Nat} {S : Store} (h1 : 1 ≤ k) (h2 : k ≤ 1000) : opMulA (.tup [d]) (.int k) S = some (.tup (List.replicate k d)) := by
  by_cases h : k = 1
  · subst h
    rfl
  · rw [mulT_ok ⟨by simp, by omega, by omega, by simp⟩]
    simp [List.flatten_replicate_singleton]
theorem catL_of {S : Store} {n : Nat} {b : Bool} {xs ys : List D} (h : S[n]? = some (.lst b xs)) (hs : xs.length + ys.length ≤ 4000000) : opCatL (.ref n) (.lst ys) S = some (xs ++ ys) := by
  unfold opCatL
  rw [dr_of h]
  simp [sz, hs]
theorem itOf_of {S : Store} {n : Nat} {xs : List D} (h : S[n]? = some (.lst true xs)) : itOf (.ref n) S = .ok xs (S.set n (.lst false xs)) := by
  show itC n S S[n]? = _
  rw [h]
  rfl
end Fk

set_option Elab.async false
set_option linter.all false
set_option maxRecDepth 100000
set_option maxHeartbeats 1000000
noncomputable section
namespace Sp
open PySem PySem.Spec PyProof.Rows L2 Fk Sm
variable {n : Nat} {T S : Store} {E : EX}
/-! ### columns, greatest and least marks -/
def col (rs : List (List Int)) (a : Nat) : List Int := rs.map fun is => is.getD a 0
def tops (m : Nat) (rs : List (List Int)) : List Int := (List.range m).map fun a => maxL (col rs a)
def lossR (m : Nat) (rs : List (List Int)) (w : Nat) : List Int := ((tops m rs).zip (rs.getD w [])).map fun p => p.1 - p.2
def fi (ns : List Int) (a : Int) : Nat := ns.findIdx fun z => decide (z = a)
theorem index_ints {ns : List Int} {a : Int} (h : a ∈ ns) : opIndex (lI ns) (.int a) S = some (.int (fi ns a : Nat)) := by
  unfold opIndex idxD
  simp only [lI, dr_lst, dr_int, datIs, dat, Option.bind_some, shaped_int, shLI, Bool.and_self, if_true]
  have key : ∀ ns : List Int, a ∈ ns → (ns.map PyData.int).findIdx? (fun z => PyData.eqv z (.int a)) = some (fi ns a) := fun ns => by
    intro h
    rw [List.findIdx?_map]
    have e : ((fun z => PyData.eqv z (.int a)) ∘ PyData.int) = fun z : Int => decide (z = a) := by
      funext z
      simp [PyData.eqv]
      by_cases q : z = a <;> simp [q]
    rw [e]
    unfold fi
    rw [List.findIdx?_eq_some_iff_findIdx_eq]
    exact ⟨List.findIdx_lt_length_of_exists ⟨a, h, by simp⟩, rfl⟩
  rw [key ns h]
  rfl
theorem fi_eq {ns : List Int} {a : Int} {i : Nat} (hi : i < ns.length) (h : ns[i] = a) (hn : ∀ j (hj : j < i), ns[j] ≠ a) : fi ns a = i := by
  unfold fi
  rw [List.findIdx_eq hi]
  exact ⟨by simpa using h, fun j hj => by simpa using hn j hj⟩
theorem fi_lt_of {ns : List Int} {a : Int} (h : a ∈ ns) : fi ns a < ns.length := List.findIdx_lt_length_of_exists ⟨a, h, by simp⟩
theorem fi_at {ns : List Int} {a : Int} (h : a ∈ ns) : ns[fi ns a]'(fi_lt_of h) = a := by
  have := List.findIdx_getElem (xs := ns) (p := fun z => decide (z = a)) (w := fi_lt_of h)
  exact of_decide_eq_true this
theorem fi_ne {ns : List Int} {a : Int} {i : Nat} (hi : i < fi ns a) (hl : i < ns.length) : ns[i] ≠ a := by
  have := List.not_of_lt_findIdx (xs := ns) (p := fun z => decide (z = a)) hi
  simpa using this
theorem col_len (rs : List (List Int)) (a : Nat) : (col rs a).length = rs.length := by simp [col]
theorem col_ne {m : Nat} {rs : List (List Int)} (h : Mn m rs) (a : Nat) : col rs a ≠ [] := by
  obtain ⟨is, rest, rfl, _⟩ := h.at0
  simp [col]
theorem row_at {m : Nat} {is : List Int} (h : RowOk m is) {a : Nat} (ha : a < m) : atI (is.map D.int) (a : Int) = some (.int (is.getD a 0)) := by
  rw [Fk.atI_nat]
  have : a < is.length := by rw [h.1]; exact ha
  simp [this]
theorem cCol {m a : Nat} {rs : List (List Int)} (h : Mn m rs) (ha : a < m) (ρ : Fk.Env) (i j : Nat) (hij : i ≠ j) (hi : i < ρ.length) (hj : ρ[j]? = some (some (.int a))) : compGo (compStep (gN i) sYes (eBin opIx (eVar i) (eVar j)) ρ) (rs.map rowD) [] S = .ok ((col rs a).map D.int) S := by
  unfold col
  rw [comp_ints fun is : List Int => is.getD a 0]
  · intro is his
    have e := row_at (h.row is his) ha
    refine eq_of_wp ?_
    simp only [wp_compStep, gN_eq, Option.some.injEq, exists_eq_left', wp_sYes, kCs_t, wp_eBin, wp_eVar, kB1_eq, kB2_eq]
    refine ⟨rowD is, by simp [hi], .int a, by simp [List.getElem?_set_ne hij, hj], .int (is.getD a 0), ?_, by simp⟩
    exact e
  · have := h.len; omega
theorem tops_of {m : Nat} {rs : List (List Int)} (h : Mn m rs) : f_tops_of [mD rs] S = .ok (tI (tops m rs)) S := by
  refine eq_of_wp ?_
  unfold f_tops_of
  rw [wp_fnD]
  obtain ⟨is, hat, hil⟩ := h.at0D
  have hlen : lenD [rowD is] S = some (.int m) := by
    show some (D.int _) = _
    simp [hil]
  have m4 := h.m4
  simp [g_tops_of, startD, hat, hlen, okR, rng_eq]
  refine ⟨by omega, ?_⟩
  rw [comp_ints fun a : Nat => maxL (col rs a)]
  · show (Out.ok ((tops m rs).map D.int) S).wp _ _
    generalize tops m rs = ts
    simp
    exact gcQ_cl (by simp) ⟨by simp, by simp⟩
  · intro a ha
    have ha : a < m := by simpa using ha
    refine eq_of_wp ?_
    simp [wipeD, sYes]
    rw [cCol h ha _ 2 1 (by decide) (by simp) (by simp)]
    have e : f_most_of [.lst ((col rs a).map D.int)] S = .ok (.int (maxL (col rs a))) S := most_of rfl (col_ne h a) (by rw [col_len]; have := h.len; omega)
    simp only [wp_ok, kF_eq, kA1_eq, wp_aNil, kA2_eq, kCall_eq, List.append_nil, e]
    simp
  · simp; omega
theorem tops_len (m : Nat) (rs : List (List Int)) : (tops m rs).length = m := by simp [tops]
theorem lossR_len {m w : Nat} {rs : List (List Int)} (h : Mn m rs) (hw : w < rs.length) : (lossR m rs w).length = m := by
  have := (h.row _ (List.getElem_mem hw)).1
  simp [lossR, tops_len, List.getD, hw, this]
theorem lossR_at {m w a : Nat} {rs : List (List Int)} (h : Mn m rs) (hw : w < rs.length) (ha : a < m) : (lossR m rs w)[a]'(by rw [lossR_len h hw]; exact ha) = maxL (col rs a) - rs[w].getD a 0 := by
  have := (h.row _ (List.getElem_mem hw)).1
  have h2 : a < rs[w].length := by rw [this]; exact ha
  simp [lossR, tops, List.getD, hw, h2]
theorem lossR_ne {m w : Nat} {rs : List (List Int)} (h : Mn m rs) (hw : w < rs.length) : lossR m rs w ≠ [] := fun z => by
  have := lossR_len h hw
  rw [z] at this
  have := h.m2
  simp at *
  omega
theorem lossR_nn {m w : Nat} {rs : List (List Int)} (h : Mn m rs) (hw : w < rs.length) : ∀ i ∈ lossR m rs w, 0 ≤ i := fun i hi => by
  obtain ⟨a, ha, rfl⟩ := List.getElem_of_mem hi
  have ha' : a < m := by rw [lossR_len h hw] at ha; exact ha
  rw [lossR_at h hw ha']
  have : rs[w].getD a 0 ≤ maxL (col rs a) := maxL_le (List.mem_map.mpr ⟨rs[w], List.getElem_mem hw, rfl⟩)
  omega
theorem word_ok {i : Nat} {rs : List (List Int)} (hi : i < rs.length) : f_require_word [mD rs, .int i] S = .ok .non S := by
  have e := require_word (S := S) (ds := rs.map rowD) (x := .int i) (Gd.ofLog (b := i.log2 + 1) (w := i.log2 + 3) (k := 0) (by simp) (by simp))
  have hin : Sp.inR 0 ((rs.length : Int) - 1) (.int i) = true := by simp [Sp.inR]; omega
  simp only [List.length_map, hin, if_true] at e
  exact e
theorem row_ix {i : Nat} {rs : List (List Int)} (hi : i < rs.length) : atI (rs.map rowD) (i : Int) = some (rowD rs[i]) := by rw [Fk.atI_nat]; simp [hi]
theorem greatest_loss {m w : Nat} {rs : List (List Int)} (h : Mn m rs) (hw : w < rs.length) : f_greatest_loss [mD rs, .int w] S = .ok (.tup [.int (maxL (lossR m rs w)), .int (fi (lossR m rs w) (maxL (lossR m rs w)) : Nat)]) S := by
  refine eq_of_wp ?_
  unfold f_greatest_loss
  rw [wp_fnD]
  have hr := h.row _ (List.getElem_mem hw)
  simp [g_greatest_loss, startD, word_ok hw, tops_of h, row_ix hw, rowD]
  rw [comp_ints fun p : Int × Int => p.1 - p.2]
  · have e : (((tops m rs).zip rs[w]).map fun p : Int × Int => p.1 - p.2) = lossR m rs w := by simp [lossR, List.getD, hw]
    rw [e]
    have hne := lossR_ne h hw
    have hl := lossR_len h hw
    generalize lossR m rs w = ls at hne hl
    have em : f_most_of [.lst (ls.map D.int)] S = .ok (.int (maxL ls)) S := most_of rfl hne (by have := h.m4; omega)
    have ei := index_ints (S := S) (maxL_mem hne)
    simp [em, ei, isL, sz]
    exact gcQ_cl (by simp) ⟨by simp, by simp⟩
  · rintro ⟨a, b⟩ _
    exact eq_of_wp (by simp [wipeD, sYes])
  · simp [tops_len]; have := h.m4; omega
theorem greatest_word {b w k : Nat} {rs : List (List Int)} {x : D} (hx : Gd b w k x) (h : Sp.inR 0 ((rs.length : Int) - 1) x = false) : f_greatest_loss [mD rs, x] S = .exc "NoWord" [("given", x)] S := by
  have e := require_word (S := S) (ds := rs.map rowD) hx
  simp only [List.length_map, h, Bool.false_eq_true, if_false] at e
  refine exc_of_wp ?_
  unfold f_greatest_loss
  rw [wp_fnD]
  simp [g_greatest_loss, startD, e]
  exact gcE_cl (by simp [closedV, hx.closed]) ⟨rfl, rfl, by simp⟩
theorem least_of {d : D} {ns : List Int} (hd : itOf d S = .ok (ns.map D.int) S) (h0 : ns ≠ []) (hl : ns.length ≤ 1000) : f_least_of [d] S = .ok (.int (minL ns)) S := by
  refine eq_of_wp ?_
  unfold f_least_of
  rw [wp_fnD]
  simp [g_least_of, startD, hd]
  rw [comp_ints fun i : Int => i]
  · simp [min_ints h0]
    exact gcQ_cl (by simp) ⟨by simp, by simp⟩
  · intro i _
    exact eq_of_wp (by simp [wipeD, sYes])
  · omega
theorem law_least30 {d : D} {ns : List Int} (hd : itOf d S = .ok (ns.map D.int) S) (h0 : ns ≠ []) (hl : ns.length ≤ 1000) : f__law_least_k30 [d] S = .ok (.int (minL ns)) S := by
  refine eq_of_wp ?_
  unfold f__law_least_k30
  rw [wp_fnD]
  simp [g__law_least_k30, startD, hd]
  rw [comp_ints fun i : Int => i]
  · simp [min_ints h0]
    exact gcQ_cl (by simp) ⟨by simp, by simp⟩
  · intro i _
    exact eq_of_wp (by simp [wipeD, sYes])
  · omega
/-- the greatest losses of all words -/
def gls (m : Nat) (rs : List (List Int)) : List Int := (List.range rs.length).map fun w => maxL (lossR m rs w)
theorem steady {m : Nat} {rs : List (List Int)} (h : Mn m rs) : f_steady [mD rs] S = .ok (.tup [.int (fi (gls m rs) (minL (gls m rs)) : Nat), .int (minL (gls m rs))]) S := by
  refine eq_of_wp ?_
  unfold f_steady
  rw [wp_fnD]
  have hrl := h.len
  simp [g_steady, startD, okR, rng_eq]
  refine ⟨by omega, ?_⟩
  rw [comp_ints fun w : Nat => maxL (lossR m rs w)]
  · show (Out.ok ((gls m rs).map D.int) S).wp _ _
    have hne : gls m rs ≠ [] := fun z => by
      have : (gls m rs).length = rs.length := by simp [gls]
      rw [z] at this
      exact h.ne (List.eq_nil_of_length_eq_zero this.symm)
    have hl : (gls m rs).length ≤ 1000 := by simp [gls]; omega
    generalize gls m rs = ls at hne hl
    have em : f_least_of [.lst (ls.map D.int)] S = .ok (.int (minL ls)) S := least_of rfl hne hl
    have ei := index_ints (S := S) (minL_mem hne)
    simp [em, ei, isL, sz]
    exact gcQ_cl (by simp) ⟨by simp, by simp⟩
  · intro w hw
    have hw : w < rs.length := by simpa using hw
    exact eq_of_wp (by simp [wipeD, sYes, greatest_loss h hw])
  · simp; omega
end Sp
end

set_option Elab.async false
set_option linter.all false
set_option maxRecDepth 100000
set_option maxHeartbeats 1000000
namespace Fk
open PySem PySem.Spec PyProof.Rows L2 LamX
/-! ### a lambda handed to a def that calls it at once, in a try -/
/-- a(): a is a lambda without parameters, made at (σ, H, s) in X; the def that calls it was entered there -/
theorem pe_act2 {X : Cx} {pins : List (Addr × Obj)} {σ : L2.St} {H : Hp} {s : Shared} {Eg E : XK} {Ng : List Str} {qg : Str} {sg : Scope} {g f c' : Addr} {cdg pm ctv : Value} {params : Arguments} {body : Expr} {scope : Scope} {k i : Nat} {a : Str} {pn : List (Addr × Obj)} {xe : Value → Shared → Prop} {W : WX} {tb : TE} {p1 p2 : Pos}
    (I : Inv X pins σ H s) (L : LamS X.env.scope scope) (hf : s.heap.get? f = some (PySem.W.kla_obj "<lambda>" (X.env.qual ++ "<lambda>") params body scope (cloFrom X.env.cells scope.names []) pm c' ctv)) (hfn : H f = none) (hfr : f ∉ frs X.stack)
    (hbd : bindArgs (PySem.W.kla_fn "<lambda>" (X.env.qual ++ "<lambda>") params body scope (cloFrom X.env.cells scope.names []) pm (.ref c') ctv) ⟨[], []⟩ = pure []) (hG : X.A.guards = some [])
    (tk : Takes ((cxOf (L2.CX X.prog X.w) X.prog X.w X.K X.mg X.base Ng qg sg g cdg X.A X.stack s H Eg).tr pn xe) W) (hW : ∀ cls d σ' H', E cls d H' → W cls d σ' H') (hr : Room (k + 1) (X.A.deeper (envOfC qg sg s.heap.objs.size g cdg)))
    (hb : ∀ (A : Around) (outer : List PySem.Env) (s : Shared) (H : Hp), A.guards = some [] → Room k (A.deeper (lamEnv X scope s.heap.objs.size f c')) → PE (lamCx X A outer s H E scope f c') body tb)
    (hN : Ng[i]? = some a) (hv : Vis sg a) (hd : (a == ("__debug__" : Str)) = false := by decide) (hcd : (a == ("__classdict__" : Str)) = false := by decide) :
    PE ((cxOf (L2.CX X.prog X.w) X.prog X.w X.K X.mg X.base Ng qg sg g cdg X.A X.stack s H Eg).tr pn xe) (.Call (.Name a p1) [] [] p2)
      (fun σ1 H1 Q => (σ1[i]? = some (some (.ref f)) ∧ H1 c' = some (CodeO c' (X.env.qual ++ "<lambda>"))) ∧ tb σ H1 Q) := by
  refine ⟨fun pins1 s1 σ1 H1 Q I1 ⟨⟨hs, hc⟩, ht⟩ => wpAny_Call_Name_kw (thn ((pe_var (pos := p1) hN hv hd hcd).run pins1 s1 σ1 H1 (fun v H2 => v = .ref f ∧ H2 = H1) I1 ⟨_, hs, rfl, rfl⟩) fun u s2 ⟨v, H2, I2, r2, ev, eH⟩ => ?_)⟩
  subst ev
  subst eH
  obtain rfl : u = Value.ref f := r2
  have un : Un (frs X.stack) [] H H2 s.heap s2.heap := I2.base
  have of2 := un.keep f _ hf hfn hfr (fun z => (List.not_mem_nil z).elim)
  refine PySem.W.callWith_F0 ⟨_, _, _, _, of2⟩ ?_
  obtain ⟨⟨oc, vs, t, z1, z2, z3⟩, _, _⟩ := I2.hok c' _ hc
  have run : codeAny (model X.prog X.w) (X.A.deeper (envOfC qg sg s.heap.objs.size g cdg)) (.call (.ref f) ⟨[], []⟩) (CR (L2.CX X.prog X.w) (envOfC qg sg s.heap.objs.size g cdg :: X.stack) X.prog X.w H2 s2 Q E) s2 := by
    refine PySem.W.kla_callFunE hr.depth of2 rfl L.co L.gen rfl ⟨c', oc, vs, t, rfl, z1, z2, z3⟩ ?_
    rw [hbd]
    refine wpAny_pure (wpAny_newFunctionEnv (fun y hy => (L.own y hy).2) (fun y hy => (List.not_mem_nil hy).elim) (fun h₁ hns hsb => ⟨I2.nolimit.fresh _ hsb, ?_⟩) L.kind)
    show codeAny _ _ (.expr body (lamEnv X scope s2.heap.objs.size f c')) _ _
    have kp : ∀ b o, s2.heap.get? b = some o → h₁.get? b = some o := fun b o e => hsb.extBut b o (Nat.ne_of_lt (Heap.lt_size e)) (Heap.get?_push_of_some _ e)
    have J : Inv (lamCx X (X.A.deeper (envOfC qg sg s.heap.objs.size g cdg)) (envOfC qg sg s.heap.objs.size g cdg :: X.stack) s2 H2 E scope f c') [] σ H2 { s2 with heap := h₁, toks := s2.toks + ([] : List (Str × Value)).length } := lam_start2 I L I2.env0 hr.hd un hns kp
    refine PySem.W.kla_codeExpr (wpAny_mono ((hb (X.A.deeper (envOfC qg sg s.heap.objs.size g cdg)) _ s2 H2 hG (hr.deeper _)).run [] _ _ H2 Q J ht) (fun v s' ⟨w', H', J', rv, q⟩ => ?_) fun _ _ hq => hq)
    exact ⟨w', H', J'.os, J'.bare, J'.base, J'.hok, rv, q⟩
  have hx := passes_call tk hW
  refine wpAny_call (codeAny_mono run fun r s' hq => ?_)
  match r, hq with
  | .error e, hq => exact hx pins1 σ1 H2 s2 e s' I2 hq
  | .ok (.ret u), hq => exact I2.after hq
  | .ok .next, hq => exact False.elim hq
  | .ok .brk, hq => exact False.elim hq
  | .ok .cont, hq => exact False.elim hq
/-- what has become of the tracked heap when a lambda was made -/
def Made (H : Hp) (P c : Addr) (q : Str) (H1 : Hp) : Prop := H1 = H ∨ ∃ ps more, H P = some (.tbl ps) ∧ H c = none ∧ H1 = upd (upd H P (.tbl (ps ++ more))) c (CodeO c q)
theorem lam_mk {X : Cx} {pins : List (Addr × Obj)} {σ : L2.St} {H : Hp} {s : Shared} {c P : Addr} {ar : Arguments} {bd : Expr} {sc : Scope} {pos : Pos} {Q E : Value → Shared → Prop} (I : Inv X pins σ H s) (tb : TabB X.base X.mg c P) (hc : X.env.code = .ref c) (hT : TabS H P (X.env.qual ++ "<lambda>"))
    (hd : defaultsOf ar X.env = ([], [])) (hfr : ∀ y ∈ sc.names, y.2 = .free → ∃ c, X.env.cells.lookup y.1 = some c)
    (k : ∀ (f d : Addr) (pm ct : Value) (H1 : Hp) (s1 : Shared), Inv X pins σ H1 s1 → Made H P d (X.env.qual ++ "<lambda>") H1 → TabS H1 P (X.env.qual ++ "<lambda>") →
      s1.heap.get? f = some (PySem.W.kla_obj "<lambda>" (X.env.qual ++ "<lambda>") ar bd sc (cloFrom X.env.cells sc.names []) pm d ct) → H1 f = none → f ∉ frs X.stack → H1 d = some (CodeO d (X.env.qual ++ "<lambda>")) → Q (.ref f) s1) :
    wpAny (model X.prog X.w) X.A (eval (.Lambda ar bd sc pos) X.env) Q E s := by
  obtain ⟨ps, tP, tr, among⟩ := hT
  have gP : s.heap.get? P = some { cls := .none, data := .fields ps } := I.hok P _ tP
  have far : ∀ {b : Addr}, s.heap.objs.size ≤ b → b ∉ frs X.stack := fun {b} h z => by
    rcases List.mem_cons.mp (I.stkSub _ z) with rfl | z2
    · exact absurd (Nat.lt_of_lt_of_le I.lt h) (Nat.lt_irrefl _)
    · exact I.nofs h z2
  refine PySem.W.kla_eval hd ?_
  cases hit : codeAmong pos ps.toList with
  | some v =>
    obtain ⟨d, rfl, hdO⟩ := among pos v hit
    refine PySem.W.kla_makeFunctionHit (ps := ps) (closure_ok hfr) I.ok.glob (I.mod.glob.keeps I.bk) hc (tb.code.keeps I.bk) gP tr hit (tb.bm.keeps I.bk) fun ct h2 tk old sz => ?_
    exact k h2.objs.size d _ ct H _ (I.kept fun b o e => Heap.get?_push_of_some _ (old b o e)) (.inl rfl) ⟨ps, tP, tr, among⟩ (Heap.get?_push_size _ rfl) (I.hok.fresh sz) (far sz) hdO
  | none =>
    refine PySem.W.kla_makeFunction (ps := ps) (closure_ok hfr) I.ok.glob (I.mod.glob.keeps I.bk) hc (tb.code.keeps I.bk) gP tr hit tb.gP (tb.bm.keeps I.bk) fun d ct h2 tk old lo hi rec new => ?_
    obtain ⟨_, oc, us, t, e0, r1, r2, r3⟩ := rec
    cases e0
    have nd : H d = none := I.hok.fresh lo
    have up : s.heap.objs.size ≤ h2.objs.size := Nat.le_trans lo (Nat.le_of_lt hi)
    have L : (ps ++ #[rawInt pos.line, rawInt pos.col, .ref d]).toList = ps.toList ++ [rawInt pos.line, rawInt pos.col, .ref d] := by simp
    have J := inv_table (t' := tk) (more := #[rawInt pos.line, rawInt pos.col, .ref d]) (h' := h2.push (PySem.W.kla_obj "<lambda>" (X.env.qual ++ "<lambda>") ar bd sc (cloFrom X.env.cells sc.names []) ((X.mg "__name__").getD .none) d ct)) I tP
      (fun b o nb e => Heap.get?_push_of_some _ (old b o nb e)) (Heap.get?_push_of_some _ new) lo ⟨oc, us, t, Heap.get?_push_of_some _ r1, r2, r3⟩
    refine k h2.objs.size d _ ct _ _ J (.inr ⟨ps, _, tP, nd, rfl⟩) ⟨_, by rw [upd_ne (ne_of_none tP nd), upd_same], by rw [L]; exact PySem.TriplesOk_snoc _ _ _ _ tr, fun pos2 v hv => ?_⟩ (Heap.get?_push_size _ rfl) ?_ (far up) upd_same
    · rw [L] at hv
      rcases among_app _ tr hv with z | z
      · obtain ⟨d0, e1, e2⟩ := among pos2 v z
        refine ⟨d0, e1, ?_⟩
        rw [upd_ne (ne_of_none e2 nd), upd_ne (ne_of e2 tP (codeO_ne ps))]
        exact e2
      · exact ⟨d, z, upd_same⟩
    · rw [upd_ne (Nat.ne_of_gt hi), upd_ne (Nat.ne_of_gt (Nat.lt_of_lt_of_le (Heap.lt_size gP) up))]
      exact I.hok.fresh up
theorem Made.tab {H H1 : Hp} {P c P2 : Addr} {q q2 : Str} (m : Made H P c q H1) (hne : P2 ≠ P) (t : TabS H P2 q2) : TabS H1 P2 q2 := by
  rcases m with rfl | ⟨ps, more, tP, nc, rfl⟩
  · exact t
  · obtain ⟨ps2, a1, a2, a3⟩ := t
    refine ⟨ps2, by rw [upd_ne (ne_of_none a1 nc), upd_ne hne]; exact a1, a2, fun pos v hv => ?_⟩
    obtain ⟨d, e1, e2⟩ := a3 pos v hv
    refine ⟨d, e1, ?_⟩
    rw [upd_ne (ne_of_none e2 nc), upd_ne (ne_of e2 tP (codeO_ne ps))]
    exact e2
/-- exceptions of the act are met whatever the caller's names hold then -/
def WAll (n : Nat) (W : WX) : WX := fun c d _ H => ∀ σ : L2.St, σ.length = n → W c d σ H
theorem takes_len {X : Cx} {W : WX} (tk : Takes X W) : Takes X (fun c d σ H => σ.length = X.N.length → W c d σ H) := fun u s' ⟨a, B, sI, pins, σ, H, cls, d, e, I, nb, up, sky, na, os, ag, w⟩ => tk u s' ⟨a, B, sI, pins, σ, H, cls, d, e, I, nb, up, sky, na, os, ag, w I.len⟩
def eAct (act : Store → Out D) : SemE := fun _ S => act S
/-- the def that gets the lambda -/
def toldD (n : Nat) (g : (Store → Out D) → SemS) (act : Store → Out D) (S : Store) : Out D := gc S.length (endOf (g act (startD n []) S))
def eLam (told : (Store → Out D) → Store → Out D) (fb : SemE) : SemE := fun ρ S => told (fun S' => fb ρ S') S
/-- its body: whatever a() may mean -/
def ToldRun (Z : Cx) (W : WX) (a : Str) (body : List Stmt) (g : (Store → Out D) → SemS) : Prop :=
  ∀ tA : WX → TE, (∀ (W' : WX) (pn : List (Addr × Obj)) (xe : Value → Shared → Prop) (p1 p2 : Pos), Takes (Z.tr pn xe) W' → PE (Z.tr pn xe) (.Call (.Name a p1) [] [] p2) (tA W')) →
    ∃ t : TS, PSs Z body t ∧ ∀ (act : Store → Out D) (F : Hp) (ι : List Addr) (S : Store) (Dn : Ends) (σ : L2.St) (H : Hp), Sim Z.K Z.mg F ι S H → σ.length = Z.N.length →
      (∀ (W' : WX) (Q : VK), Post ⟨Z.K, Z.mg, WAll Z.N.length W'⟩ (RV' Z.K) F ι H σ (act S) Q → tA W' σ H Q) →
      PostS ⟨Z.K, Z.mg, W⟩ F ι H (g act (startD Z.N.length []) S) Dn → t Dn σ H
theorem renv0 {K : PySem.W.Frag} {F : Hp} {ι : List Addr} {σ : L2.St} {n : Nat} (h : σ.length = n) : REnv K F ι σ (startD n []) := by
  refine ⟨by simp [startD, h], fun i d e => ?_⟩
  simp [startD, List.getElem?_replicate] at e
def hdl (tbl : XTbl) (c : Str) (fs : List (Str × D)) (hds : List (Str × Option Nat × SemS)) (ρ : Env) (S : Store) : OutS := match tbl.at c with
  | some anc => goH c fs anc hds ρ S
  | none => .stuck
theorem sTry_exc {tbl : XTbl} {b : SemS} {hds : List (Str × Option Nat × SemS)} {ρ ρ1 : Env} {S S1 : Store} {c : Str} {fs : List (Str × D)} (h : b ρ S = .exc c fs ρ1 S1) : sTry tbl b hds ρ S = hdl tbl c fs hds ρ1 S1 := by
  unfold sTry
  rw [h]
  rfl
/-- a def's ends, its cells let go -/
theorem ends_of {K : PySem.W.Frag} {mg : Str → Option Value} {W : WX} {F1 H : Hp} {ι : List Addr} {St : Store} {σ : L2.St} {Q : VK} {o : OutS} (sm : Sim K mg F1 ι St H) (q : Post ⟨K, mg, W⟩ (RV' K) F1 ι H σ (gc St.length (endOf o)) Q) :
    PostS ⟨K, mg, fun c d _ H => W c d σ H⟩ F1 ι H o { nx := fun _ H' => Q .non H', rt := Q } := by
  have q : Post ⟨K, mg, fun c d _ H => (fun c d H => W c d σ H) c d H⟩ (RV' K) F1 ι H [] (gc St.length (endOf o)) Q := by
    cases e : gc St.length (endOf o) with
    | ok d S => rw [e] at q; exact q
    | exc c fs S => rw [e] at q; exact q
    | stuck => rw [e] at q; exact q
  have le : ∀ {F' H' : Hp} {ι' : List Addr}, Step F1 ι H F' ι' H' → St.length ≤ ι'.length := fun x => by
    obtain ⟨t, ht⟩ := x.pre
    rw [← ht, ← sm.len, List.length_append]
    exact Nat.le_add_right _ _
  have fin : ∀ d S', Post ⟨K, mg, fun c d _ H => (fun c d H => W c d σ H) c d H⟩ (RV' K) F1 ι H [] (gc St.length (.ok d S')) Q → ∀ F' ι' v H', Step F1 ι H F' ι' H' → Sim K mg F' ι' S' H' → Rel K F' ι' v d → Q v H' := fun d S' q F' ι' v H' x s' rv => by
    have q := gcP q
    split at q
    · next hc =>
      obtain ⟨x2, s2, e2⟩ := sm.back x s'
      refine q F' ι v H' x2 s2 ?_
      show Rel K F' ι v d
      rw [e2]
      exact rv.back (le x) hc
    · exact q F' ι' v H' x s' rv
  cases o with
  | nx ρ S' => exact fun F' ι' σ' H' x s' _ => fin .non S' q F' ι' .non H' x s' .non
  | rt d S' => exact fin d S' q
  | bk ρ S' => exact q.elim
  | ct ρ S' => exact q.elim
  | stuck => exact q.elim
  | exc c fs ρ S' =>
    intro F' ι' C d σ' H' x s' _ hm xd
    have q : Post ⟨K, mg, fun c d _ H => (fun c d H => W c d σ H) c d H⟩ (RV' K) F1 ι H [] (gc St.length (.exc c fs S')) Q := q
    have q := gcX q
    split at q
    · next hc =>
      obtain ⟨x2, s2, e2⟩ := sm.back x s'
      refine q F' ι C d H' x2 s2 hm ?_
      rcases xd with xd | ⟨h1, dx, fv, h2, h0, hF, hi, h3, h4⟩
      · exact .inl xd
      · refine .inr ⟨h1, dx, fv, h2, h0, hF, fun z => hi (by rw [e2] at z; exact List.mem_of_mem_take z), h3, ⟨h4.ks, ?_⟩⟩
        rw [e2]
        exact h4.vs.back (le x) hc
    · exact q F' ι' C d H' x s' hm xd
section
variable {Z : Cx} {W : WX} {tbl : XTbl} {a : Str} {k : Nat} {h₀ : ExceptHandler} {hds : List ExceptHandler} {l : List (Str × Option Nat × SemS)} {p1 p2 p3 p4 : Pos}
theorem told_exc {F0 H0 : Hp} {ι0 : List Addr} {l' : List (Value × Option Nat × TS)} {Dn : Ends} {c : Str} {fs : List (Str × D)} {S1 : Store} (T : TblOk Z.K Z.mg tbl) (hh : HdsD Z tbl (h₀ :: hds) l l')
    (q : PostS ⟨Z.K, Z.mg, W⟩ F0 ι0 H0 (hdl tbl c fs l (startD Z.N.length []) S1) Dn) :
    ∀ F' ι' C d H', Step F0 ι0 H0 F' ι' H' → Sim Z.K Z.mg F' ι' S1 H' → Z.mg c = some (.ref C) → XD Z.K H0 F' ι' H' d fs → WAll Z.N.length (wN Z.K W Dn l') (.ref C) d [] H' := by
  intro F1 ι1 C d H1 x1 s1 hm xd σ hl
  unfold hdl at q
  cases ht : tbl.at c with
  | none => rw [ht] at q; exact q.elim
  | some anc =>
    rw [ht] at q
    have hmem := XTbl.at_mem ht
    exact hds_wish hh hmem hm (T.ok _ hmem C hm) x1 s1 (renv0 hl) xd q
/-- try: return a() / except .. -/
theorem told_ret (cx : CxE Z W k) (hs : Z.stack = Z.env :: Z.outer) (hf : Z.env.frame = some Z.env.locals) (hex : Z.ex = []) (T : TblOk Z.K Z.mg tbl) (hh : HdsE Z tbl (h₀ :: hds) l) :
    ToldRun Z W a [.Try [.Return (some (.Call (.Name a p1) [] [] p2)) p3] (h₀ :: hds) [] [] p4] (fun act => sTry tbl (sRet (eAct act)) l) := by
  intro tA hA
  obtain ⟨l', hh⟩ := hh
  refine ⟨_, pss_one (ps_tryN (tb := fun W' => tRet (tA W')) hs hf hex cx.nd cx.tk (fun W' pn xe tk _ => pss_one (ps_ret (hA W' pn xe p1 p2 tk))) hh.toN), fun act F ι S Dn σ H sm hl ha q => ha _ _ ?_⟩
  cases e : act S with
  | ok d S1 => simp only [sTry, sRet, eAct, e, toS_ok] at q; exact q
  | stuck => simp only [sTry, sRet, eAct, e, toS_stuck] at q; exact q.elim
  | exc c fs S1 =>
    simp only [sTry_exc (b := sRet (eAct act)) (show sRet (eAct act) (startD Z.N.length []) S = .exc c fs (startD Z.N.length []) S1 by simp only [sRet, eAct, e, toS_exc])] at q
    exact told_exc T hh q
/-- try: a() / except .. / and the rest -/
theorem told_run {rest : List Stmt} {gr : SemS} (cx : CxE Z W k) (hs : Z.stack = Z.env :: Z.outer) (hf : Z.env.frame = some Z.env.locals) (hex : Z.ex = []) (T : TblOk Z.K Z.mg tbl) (hh : HdsE Z tbl (h₀ :: hds) l) (hr : XSs Z W rest gr)
    (hsw : ∀ pn xe, swapsWith (.Call (.Name a p1) [] [] p2) none p3.line (Z.tr pn xe).env = pure false := by intro _ _; rfl) :
    ToldRun Z W a (.Try [.Expr (.Call (.Name a p1) [] [] p2) p3] (h₀ :: hds) [] [] p4 :: rest) (fun act => sSeq (sTry tbl (sExp (eAct act)) l) gr) := by
  intro tA hA
  obtain ⟨l', hh⟩ := hh
  refine ⟨_, pss_cons (ps_tryN (tb := fun W' => tDrop (tA W')) hs hf hex cx.nd cx.tk (fun W' pn xe tk _ => pss_one (ps_expr (hA W' pn xe p1 p2 tk) (hsw pn xe))) hh.toN) hr, fun act F ι S Dn σ H sm hl ha q => ha _ _ ?_⟩
  have r0 := renv0 (K := Z.K) (F := F) (ι := ι) hl
  have rest_ : ∀ {F1 ι1 σ1 H1 ρ1 S1}, Step F ι H F1 ι1 H1 → Sim Z.K Z.mg F1 ι1 S1 H1 → REnv Z.K F1 ι1 σ1 ρ1 → PostS ⟨Z.K, Z.mg, W⟩ F ι H (gr ρ1 S1) Dn → tS ⟨Z.K, Z.mg, W⟩ gr Dn σ1 H1 := fun x1 s1 r1 q1 => ⟨_, _, _, _, s1, r1, PostS.ext x1 q1⟩
  cases e : act S with
  | ok d S1 =>
    simp only [sSeq, sTry, sExp, eAct, e, toS_ok] at q
    intro F1 ι1 v H1 x1 s1 _
    exact rest_ x1 s1 (r0.mono x1) q
  | stuck => simp only [sSeq, sTry, sExp, eAct, e, toS_stuck] at q; exact q.elim
  | exc c fs S1 =>
    unfold sSeq at q
    simp only [sTry_exc (b := sExp (eAct act)) (show sExp (eAct act) (startD Z.N.length []) S = .exc c fs (startD Z.N.length []) S1 by simp only [sExp, eAct, e, toS_exc])] at q
    refine told_exc T hh ?_
    cases e2 : hdl tbl c fs l (startD Z.N.length []) S1 with
    | nx ρ1 S2 => rw [e2] at q; exact fun F1 ι1 σ1 H1 x1 s1 r1 => rest_ x1 s1 r1 q
    | rt d S2 => rw [e2] at q; exact q
    | bk ρ1 S2 => rw [e2] at q; exact q
    | ct ρ1 S2 => rw [e2] at q; exact q
    | exc c2 fs2 ρ2 S2 => rw [e2] at q; exact q
    | stuck => rw [e2] at q; exact q
end
/-- a def that gets a lambda -/
structure Told (P : Program) (w : World) (K : PySem.W.Frag) (mg : Str → Option Value) (base : Heap) (k : Nat) (x a : Str) (n : Nat) (gt : (Store → Out D) → SemS) : Prop where
  ex : ∃ (g : Addr) (fd : FuncData) (N : List Str) (params : Arguments) (body : List Stmt) (sg : Scope), mg x = some (.ref g) ∧ FunD K x x params body sg [] [] g fd ∧ Binds K fd [a] [] ∧ FnScope N [a] sg ∧ N[0]? = some a ∧ Vis sg a ∧ N.length = n ∧
    ∀ (cdv : Value) (A : Around) (outer : List PySem.Env) (s : Shared) (H : Hp) (E : XK), A.guards = some [] → Room k (A.deeper (envOfC x sg s.heap.objs.size g cdv)) → ToldRun (cxOf (L2.CX P w) P w K mg base N x sg g cdv A outer s H E) (fun c d _ H => E c d H) a body gt
/-- where a lambda may be made -/
structure LamT (X : Cx) : Prop where
  ex : ∃ c P, X.env.code = .ref c ∧ (c, P, X.env.qual ++ "<lambda>") ∈ tabsK X.K ∧ (∀ p ∈ tabsK X.K, p.2.1 = P → p.2.2 = X.env.qual ++ "<lambda>") ∧ TabB X.base X.mg c P
/-- a table has grown, a code object has come -/
theorem Sim.made {K : PySem.W.Frag} {mg : Str → Option Value} {F H H1 : Hp} {ι : List Addr} {S : Store} {P c d : Addr} {q : Str} (s : Sim K mg F ι S H) (m : Made H P d q H1) (hm : (c, P, q) ∈ tabsK K) (hu : ∀ p ∈ tabsK K, p.2.1 = P → p.2.2 = q) (t : TabS H1 P q) : Step F ι H F ι H1 ∧ Sim K mg F ι S H1 := by
  rcases id m with rfl | ⟨ps, more, tP, nc, rfl⟩
  · exact ⟨Step.refl _ _ _, s⟩
  · obtain ⟨hF, hi⟩ := s.fresh nc
    have hFP : F P = none := by
      cases z : F P with
      | none => rfl
      | some o =>
        have := s.sub P o z
        rw [tP] at this
        cases this
        exact (s.nt P ps z).elim
    have hiP : ∀ n a, ι[n]? = some a → a ≠ P ∧ a ≠ d := fun n a ha => by
      have hn := (List.getElem?_eq_some_iff.mp ha).1
      have hs : n < S.length := by rw [← s.len]; exact hn
      obtain ⟨o, ho, cp⟩ := (s.cell n a S[n] ha (by simp [hs])).cp s.sub
      refine ⟨fun z => ?_, ne_of_none ho nc⟩
      subst z
      rw [tP] at ho
      cases ho
      exact cp
    refine ⟨⟨Ext.refl F ι, fun b o e1 e2 e3 kp => ⟨?_, e2, e3⟩, fun b hb => upd_dom (upd_dom hb)⟩, fun b o e => ?_, s.len, s.nd, fun n a cl ha hc => ?_, s.cl, fun p hp => ?_, s.nt, fun b ps2 e => ?_⟩
    · rw [upd_ne (ne_of_none e1 nc), upd_ne (fun z => by subst z; rw [tP] at e1; cases e1; exact kp)]
      exact e1
    · rw [upd_ne (ne_of_none e hF), upd_ne (ne_of_none e hFP)]
      exact s.sub b o e
    · obtain ⟨n1, n2⟩ := hiP n a ha
      exact (s.cell n a cl ha hc).mono (Ext.refl F ι) id fun o e => by rw [upd_ne n2, upd_ne n1]; exact e
    · by_cases hp2 : p.2.1 = P
      · rw [hu p hp hp2, hp2]
        exact t
      · exact m.tab hp2 (s.tab p hp)
    · by_cases hb : b = d
      · subst hb
        rw [upd_same] at e
        exact (codeO_ne ps2 (Option.some.inj e)).elim
      · rw [upd_ne hb] at e
        by_cases hb2 : b = P
        · exact ⟨_, hm, hb2.symm⟩
        · rw [upd_ne hb2] at e
          exact s.tt b ps2 e
section
variable {X : Cx} {W : WX} {j k n : Nat} {x a : Str} {gt : (Store → Out D) → SemS} {params : Arguments} {body : Expr} {scope : Scope} {fb : SemE} {p lpos pos : Pos}
/-- x(lambda: body) -/
theorem xe_lam (T : Told X.prog X.w X.K X.mg X.base j x a n gt) (c : CxE X W k) (hj : j + 2 ≤ k + 1) (hg : Gl X x) (LT : LamT X) (L : LamS X.env.scope scope) (hdef : defaultsOf params X.env = ([], []))
    (hbind : ∀ (q : Str) (cl : List (Str × Addr)) (pm cv ctv : Value), bindArgs (PySem.W.kla_fn "<lambda>" q params body scope cl pm cv ctv) ⟨[], []⟩ = pure [])
    (hbody : ∀ (A : Around) (outer : List PySem.Env) (s : Shared) (H : Hp) (E : XK) (f c' : Addr), CxE (lamCx X A outer s H E scope f c') (fun c d _ H => E c d H) (j - 1) → XE (lamCx X A outer s H E scope f c') (fun c d _ H => E c d H) body fb) (hj1 : 1 ≤ j)
    (hdb : (x == ("__debug__" : Str)) = false := by decide) (hd : (a == ("__debug__" : Str)) = false := by decide) (hcd : (a == ("__classdict__" : Str)) = false := by decide) :
    XE X W (.Call (.Name x p) [.Lambda params body scope lpos] [] pos) (eLam (toldD n gt) fb) := by
  refine ⟨fun pins s σ H Q I h => ?_⟩
  obtain ⟨F0, ι0, ρ, S, sm, r, q⟩ := h
  obtain ⟨g, fd, N, pg, bg, sg, hm, FD, hb, Sg, hN0, hva, hn, hT⟩ := T.ex
  obtain ⟨cc, P, hcode, hmem, huniq, TB⟩ := LT.ex
  obtain ⟨oc, od, dV, kV, doc, pm, an, cdv, ct, osl, rfl, lk, hcg, _, _⟩ := FD.ex
  refine wpAny_Call_Name_kw (ld_glob I hg hm ?_ hdb)
  refine PySem.W.callWith_K (h₀ := X.base) I.ok.mod.kin FD.kp ?_ (by rfl) (by rfl)
  refine Calls.spliced_cons (lam_mk I TB hcode (sm.tab _ hmem) hdef (L.has I.ok) fun f c' pm' ctv H1 s' I1 mk T1 hf hfn hfr hco => ?_)
  refine Calls.spliced_nil ⟨I1.kIn, ?_⟩
  obtain ⟨x1, s1⟩ := sm.made mk hmem huniq T1
  have r1 := r.mono x1
  have q1 := Post.ext x1 q stV
  have hr : Room (j + 1) X.A := c.room.mono (by omega)
  refine wpAny_call (codeAny_mono (run_ofS (CX := L2.CX X.prog X.w) (N := N) (ps := [a]) (us := [.ref f]) (vs := [.ref f]) (Q := Q) (E := fun c d H' => W c d σ H') lk hcg Sg hr I1.env0 (hb s' [.ref f] I1.kIn rfl) (.cons rfl .nil) rfl fun hr' => ?_) fun rr s2 hq => ?_)
  · obtain ⟨t, ht, hk⟩ := hT cdv X.A X.stack s' H1 (fun c d H' => W c d σ H') c.g hr'
      (fun W' σ2 H2 Q2 => (σ2[0]? = some (some (.ref f)) ∧ H2 c' = some (CodeO c' (X.env.qual ++ "<lambda>"))) ∧ tE ⟨X.K, X.mg, WAll N.length W'⟩ fb σ H2 Q2)
      (fun W' pn xe p1 p2 tk => peI (pe_act2 (k := j - 1) (E := fun c d H' => WAll N.length W' c d [] H') (W := fun c d σ H => σ.length = N.length → W' c d σ H) (tb := tE ⟨X.K, X.mg, WAll N.length W'⟩ fb) I1 L hf hfn hfr (hbind _ _ _ _ _) c.g (takes_len tk) (fun _ _ σ' H' h => h σ') (by rw [Nat.sub_add_cancel hj1]; exact hr')
        (fun A outer s H hA hRm => hbody A outer s H (fun c d H' => WAll N.length W' c d [] H') f c' ⟨c.nd, rfl, hA, hRm, takes_of rfl rfl rfl rfl, c.sm⟩) hN0 hva hd hcd) fun _ _ _ h => h)
    have hlen : (start N [V.ref f]).length = N.length := by
      obtain ⟨z, _⟩ := List.getElem?_eq_some_iff.mp hN0
      simp [L2.start]
      omega
    refine ⟨t, ht, hk (fun S' => fb ρ S') F0 ι0 S _ (start N [.ref f]) H1 s1 hlen (fun W' Q' hp => ⟨⟨?_, hco⟩, F0, ι0, ρ, S, s1, r1, ?_⟩) ?_⟩
    · simp [L2.start]
    · exact hp
    · subst hn
      exact ends_of s1 q1
  · match rr, hq with
    | .error ev, hq => exact c.tk _ _ (L2.XE.of_call I1 (fun _ _ _ h => h) hq)
    | .ok (.ret u), hq => exact I1.after hq
    | .ok .next, hq => exact False.elim hq
    | .ok .brk, hq => exact False.elim hq
    | .ok .cont, hq => exact False.elim hq
end
theorem lamT_of {P : Program} {w : World} {K : PySem.W.Frag} {mg : Str → Option Value} {base : Heap} {x : Str} {f : Addr} (h : (Xc.lam x).ok K = true) (hn : PySem.W.nsIn K mainGlobals x = some (some (.ref f))) (tt : ∀ p ∈ tabsK K, TabB base mg p.1 p.2.1) :
    ∀ (cdv : Value), codeOf K f = some cdv → ∀ (N : List Str) (sc : Scope) (A : Around) (outer : List PySem.Env) (s : Shared) (H : Hp) (E : XK), LamT (cxOf (L2.CX P w) P w K mg base N x sc f cdv A outer s H E) := by
  intro cdv hc N sc A outer s H E
  have h : lamB K x = true := h
  unfold lamB at h
  obtain ⟨h0, h⟩ := Bool.and_eq_true_iff.mp h
  split at h
  · next p hp =>
    have hm : p ∈ tabOf K x := by rw [hp]; exact List.mem_singleton.mpr rfl
    have hT : p ∈ tabsK K := List.mem_flatMap.mpr ⟨x, by simpa using h0, hm⟩
    obtain ⟨f', e1, e2, e3⟩ := tabOf_ok hm
    rw [hn] at e1
    cases e1
    rw [hc] at e2
    cases e2
    have hq : p.2.2 = x ++ ".<locals>." ++ "<lambda>" := by
      unfold tabOf at hm
      rw [hn] at hm
      simp only [hc, e3] at hm
      exact congrArg (fun r => r.2.2) (List.mem_singleton.mp hm)
    refine ⟨p.1, p.2.1, rfl, ?_, fun r hr e => ?_, tt p hT⟩
    · show (p.1, p.2.1, x ++ ".<locals>." ++ "<lambda>") ∈ tabsK K
      rw [← hq]
      exact hT
    · have z := List.all_eq_true.mp h r hr
      simp only [Bool.or_eq_true, Bool.not_eq_true', decide_eq_false_iff_not, decide_eq_true_eq] at z
      rcases z with z | z
      · exact (z e).elim
      · rw [z]
        exact hq
  · cases h
end Fk

set_option Elab.async false
set_option linter.all false
set_option maxRecDepth 100000
set_option maxHeartbeats 1000000
namespace Fk
open PySem PySem.Spec PyProof.Rows L2
/-! ### dicts whose keys are tuples of ints and texts -/
def asKs : List D → Option (List Key)
  | [] => some []
  | d :: r => match keyOf d, asKs r with
    | some k, some ks => some (k :: ks)
    | _, _ => none
def keyT : Key → D
  | .inl i => .int i
  | .inr x => .str x
theorem rel_ks {K : PySem.W.Frag} {F : Hp} {ι : List Addr} : ∀ {vs : List V} {ds : List D} {ks : List Key}, RelAll K F ι vs ds → asKs ds = some ks → vs = ks.map kV
  | _, _, _, .nil, h => by cases h; rfl
  | _, _, ks, .cons (d := d) (ds := ds) r t, h => by
    unfold asKs at h
    split at h
    · next k ks' e1 e2 =>
      cases h
      rw [rel_key r e1, rel_ks t e2]
      rfl
    · cases h
theorem rel_keyT {K : PySem.W.Frag} {F : Hp} {ι : List Addr} : ∀ ks : List Key, RelAll K F ι (ks.map kV) (ks.map keyT)
  | [] => .nil
  | .inl i :: r => .cons (.int i) (rel_keyT r)
  | .inr x :: r => .cons (.str x) (rel_keyT r)
theorem CellOk.nt {K : PySem.W.Frag} {mg : Str → Option Value} {F H : Hp} {ι : List Addr} {a : Addr} {c : Cell} (sub : Same F H) (h : CellOk K mg F ι H a c) : ∀ xs, H a ≠ some (.tup xs) := by
  intro xs z
  cases c with
  | lst b ds =>
    cases b with
    | true => obtain ⟨vs, h, _⟩ := h; rw [h] at z; cases z
    | false => obtain ⟨vs, h, _⟩ := h; rw [sub _ _ h] at z; cases z
  | dK kds => obtain ⟨vs, h, _⟩ := h; rw [h] at z; cases z
  | dT kds => obtain ⟨vs, h, _⟩ := h; rw [h] at z; cases z
  | ins c fs => obtain ⟨_, _, _, _, h, _⟩ := h; rw [h] at z; cases z
/-- all tuples are frozen -/
def tupF (F H : Hp) : Hp := fun b => match H b with
  | some (.tup xs) => some (.tup xs)
  | _ => F b
theorem tupF_at {F H : Hp} {b : Addr} {xs : List V} (h : H b = some (.tup xs)) : tupF F H b = some (.tup xs) := by unfold tupF; rw [h]
theorem tupF_no {F H : Hp} {b : Addr} (h : ∀ xs, H b ≠ some (.tup xs)) : tupF F H b = F b := by
  unfold tupF
  split
  · next xs e => exact (h xs e).elim
  · rfl
theorem Sim.tups {K : PySem.W.Frag} {mg : Str → Option Value} {F H : Hp} {ι : List Addr} {S : Store} (s : Sim K mg F ι S H) : Step F ι H (tupF F H) ι H ∧ Sim K mg (tupF F H) ι S H := by
  have same : Same F (tupF F H) := fun b o e => by
    by_cases h : ∃ xs, H b = some (.tup xs)
    · obtain ⟨xs, h⟩ := h
      have := s.sub b o e
      rw [h] at this
      cases this
      exact tupF_at h
    · rw [tupF_no fun xs z => h ⟨xs, z⟩]
      exact e
  have x : Ext F ι (tupF F H) ι := ⟨same, List.prefix_rfl⟩
  refine ⟨⟨x, fun b o e1 e2 e3 k => ⟨e1, ?_, e3⟩, fun _ h => h⟩, fun b o e => ?_, s.len, s.nd, fun n a c ha hc => ?_, s.cl, s.tab, fun b ps e => ?_, s.tt⟩
  · rw [tupF_no fun xs z => by rw [e1] at z; cases z; exact k]
    exact e2
  · by_cases h : ∃ xs, H b = some (.tup xs)
    · obtain ⟨xs, h⟩ := h
      rw [tupF_at h] at e
      rw [h]
      exact e
    · rw [tupF_no fun xs z => h ⟨xs, z⟩] at e
      exact s.sub b o e
  · have ok := s.cell n a c ha hc
    exact ok.mono x (fun e => by rw [tupF_no (ok.nt s.sub)]; exact e) fun _ e => e
  · by_cases h : ∃ xs, H b = some (.tup xs)
    · obtain ⟨xs, h⟩ := h
      rw [tupF_at h] at e
      cases e
    · rw [tupF_no fun xs z => h ⟨xs, z⟩] at e
      exact s.nt b ps e
section
variable {X : Cx} {W : WX} {o e : Expr} {f g : SemE} {pos : Pos}
def eNewT : SemE := fun _ S => .ok (.ref S.length) (S ++ [.dT []])
theorem xe_newT : XE X W (.Dict [] [] pos) eNewT := by
  refine peI pe_dnewT fun σ H Q h => ?_
  obtain ⟨F, ι, ρ, S, sm, r, q⟩ := h
  intro p hp
  obtain ⟨hf, hi⟩ := sm.fresh hp
  obtain ⟨x1, s1⟩ := sm.loose (o := .dT []) hp
  obtain ⟨x2, s2⟩ := s1.newCell x1 (c := .dT []) hp hi ⟨[], upd_same, RelKV.nil, hf⟩ (by simp [closedC, closedV])
  exact q _ _ _ _ x2 s2 (.ref (by rw [← sm.len]; simp))
def tputC (x k y : D) (S : Store) : Option Store := match x, k with
  | .ref n, .tup ds => (match S[n]?, asKs ds with
    | some (.dT kds), some ks => if sz kds.length && closed n y then some (S.set n (.dT (putD kds ks y))) else none
    | _, _ => none)
  | _, _ => none
def sTPut (fo fi fe : SemE) : SemS := fun ρ S => toS (fe ρ S) ρ fun y S1 => toS (fo ρ S1) ρ fun x S2 => toS (fi ρ S2) ρ fun i S3 => match tputC x i y S3 with
  | some S4 => .nx ρ S4
  | none => .stuck
theorem xs_tput {i : Expr} {fo fi fe : SemE} {pos' : Pos} (hu : X.A.units + 1 < cLine) (ho : XE X W o fo) (hi : XE X W i fi) (he : XE X W e fe) (hs : swapsWith e (some (.Subscript o i pos')) pos.line X.env = pure false := by rfl) :
    XS X W (.Assign [.Subscript o i pos'] e pos) (sTPut fo fi fe) := by
  refine psI (ps_dput hu ho hi he hs) fun Dn σ H hh => ?_
  obtain ⟨F, ι, ρ, S, s, r, q⟩ := hh
  refine ⟨F, ι, ρ, S, s, r, post_toS r q fun y S1 F1 ι1 v H1 x1 s1 rv q1 => ?_⟩
  refine ⟨F1, ι1, ρ, S1, s1, r.mono x1, post_toS (r.mono x1) q1 fun x S2 F2 ι2 u H2 x2 s2 ru q2 => ?_⟩
  refine ⟨F2, ι2, ρ, S2, s2, (r.mono x1).mono x2, post_toS ((r.mono x1).mono x2) q2 fun k S3 F3 ι3 w H3 x3 s3 rw' q3 => ?_⟩
  cases hz : tputC x k y S3 with
  | none => rw [hz] at q3; exact q3.elim
  | some S4 =>
    rw [hz] at q3
    unfold tputC at hz
    split at hz
    · next n ds =>
      split at hz
      · next kds ks hc hk =>
        split at hz
        · next hsz =>
          cases hz
          obtain ⟨a, rfl, ha'⟩ := rel_ref (Rel.mono x3 ru)
          obtain ⟨b, vs, rfl, eb, _, rvs, _⟩ := at_tup s3 rw' (S := _) (show dr _ (D.tup ds) = .tup ds from rfl)
          cases rel_ks rvs hk
          obtain ⟨kvs, g1, g2, g3⟩ := s3.cell n a _ ha' hc
          have hl : kvs.length = kds.length := by
            have := congrArg List.length g2.ks
            simpa using this
          obtain ⟨hsz, hcl⟩ := Bool.and_eq_true_iff.mp hsz
          refine ⟨a, _, rfl, DPut.t g1 eb (by rw [hl]; exact sz_lt hsz), ?_⟩
          obtain ⟨x4, s4⟩ := s3.write (c := .dT (putD kds ks y)) (o := .dT (putK kvs ks v)) ha' g3 ⟨_, upd_same, rel_put (Rel.mono (x2.trans x3) rv) g2, g3⟩ (closed_put (s3.cl n _ hc) hcl)
          exact q3 F3 ι3 σ _ x4 s4 (((r.mono x1).mono x2).mono x3)
        · cases hz
      · cases hz
    · cases hz
def opTget : D → D → Store → Option D := fun d e S => match d, e with
  | .ref n, .tup ds => (match S[n]?, asKs ds with
    | some (.dT kds), some ks => lookD kds ks
    | _, _ => none)
  | _, _ => none
theorem xe_tget {i : Expr} (hu : X.A.units + 1 < cLine) (ho : XE X W o f) (hi : XE X W i g) (hs : NoSl i) : XE X W (.Subscript o i pos) (eBin opTget f g) := by
  refine peI (pe_dget hu ho hi hs) fun σ H Q h => ?_
  obtain ⟨F, ι, ρ, S, sm, r, q⟩ := h
  refine ⟨F, ι, ρ, S, sm, r, post_bind (R := RV' X.K) q fun x S1 F1 ι1 v H1 x1 s1 rv q1 => ?_⟩
  refine ⟨F1, ι1, ρ, S1, s1, r.mono x1, post_bind (R := RV' X.K) q1 fun y S2 F2 ι2 u H2 x2 s2 ru q2 => ?_⟩
  obtain ⟨z, hz, q3⟩ := post_lift q2
  unfold opTget at hz
  split at hz
  · next n ds =>
    split at hz
    · next kds ks hc hk =>
      obtain ⟨a, rfl, ha'⟩ := rel_ref (Rel.mono x2 rv)
      obtain ⟨b, vs, rfl, eb, _, rvs, _⟩ := at_tup s2 ru (S := _) (show dr _ (D.tup ds) = .tup ds from rfl)
      cases rel_ks rvs hk
      obtain ⟨kvs, g1, g2, g3⟩ := s2.cell n a _ ha' hc
      obtain ⟨w, hw, rw'⟩ := (rel_look g2).1 z hz
      exact ⟨a, w, rfl, by rw [← hw]; exact DGet.t g1 eb, q3 F2 ι2 _ H2 (Step.refl _ _ _) s2 rw'⟩
    · cases hz
  · cases hz
/-- list(d) -/
def keysT : List D → Store → Option (List D) := fun ds S => match ds with
  | [.ref n] => (match S[n]? with
    | some (.dT kds) => some (kds.map fun q => D.tup (q.1.map keyT))
    | _ => none)
  | _ => none
theorem rel_keysT {K : PySem.W.Frag} {H F' : Hp} {ι : List Addr} (hF : ∀ b xs, H b = some (.tup xs) → F' b = some (.tup xs)) : ∀ {kvs : List (List Key × V)} {bs : List Addr} {kds : List (List Key × D)}, IsKeys H kvs bs → kvs.map (·.1) = kds.map (·.1) → RelAll K F' ι (bs.map V.ref) (kds.map fun q => D.tup (q.1.map keyT))
  | [], _, kds, .nil, h => by
    have : kds = [] := by simpa using h.symm
    subst this
    exact .nil
  | p :: kvs, _, kds, .cons h1 h2, h => by
    cases kds with
    | nil => simp at h
    | cons q kds =>
      simp only [List.map_cons, List.cons.injEq] at h
      rw [List.map_cons, List.map_cons]
      refine .cons (.tup (hF _ _ h1) ?_) (rel_keysT hF h2 h.2)
      rw [← h.1]
      exact rel_keyT _
theorem cxl_keysT (hc : X.calm = true) : CallXL X (.type "list") keysT := by
  intro pins s σ H xs us Q I r h
  obtain ⟨F, ι, S, ds, a, sm, rd, ho, q⟩ := h
  refine call_list_dT hc pins s σ H xs us Q I r ?_
  unfold keysT at ho
  split at ho
  · next n =>
    split at ho
    · next kds hcell =>
      cases ho
      cases rd with
      | cons r1 t =>
        cases t
        obtain ⟨b, rfl, hb⟩ := rel_ref r1
        obtain ⟨kvs, g1, g2, g3⟩ := sm.cell n b _ hb hcell
        refine ⟨b, kvs, rfl, .inl g1, fun p bs hp hk => ?_⟩
        obtain ⟨x1, s1⟩ := sm.tups
        obtain ⟨hf, hi⟩ := s1.fresh hp
        obtain ⟨x2, s2⟩ := s1.loose (o := .lst (bs.map V.ref)) hp
        exact q _ _ _ _ (x1.trans x2) s2 ⟨p, _, rfl, hp, upd_same, hf, hi, rel_keysT (fun b xs e => tupF_at e) hk g2.ks⟩
    · cases ho
  · cases ho
end
section
variable {ρ : Env} {S : Store} {k : KS} {Q : D → Store → Prop} {E : EX}
@[simp] theorem wp_eNewT : (eNewT ρ S).wp Q E = Q (.ref S.length) (S ++ [.dT []]) := wp_ok _
def kTP1 (fo fi : SemE) (ρ : Env) (k : KS) (y : D) (S : Store) : Prop := (fo ρ S).wp (fun x S2 => (fi ρ S2).wp (fun i S3 => ∃ S4, tputC x i y S3 = some S4 ∧ k.nx ρ S4) (kEx k ρ)) (kEx k ρ)
def kTP2 (fi : SemE) (ρ : Env) (k : KS) (y x : D) (S : Store) : Prop := (fi ρ S).wp (fun i S3 => ∃ S4, tputC x i y S3 = some S4 ∧ k.nx ρ S4) (kEx k ρ)
def kTP3 (ρ : Env) (k : KS) (y x i : D) (S : Store) : Prop := ∃ S4, tputC x i y S = some S4 ∧ k.nx ρ S4
@[simp] theorem kTP1_eq (fo fi : SemE) (y : D) : kTP1 fo fi ρ k y S = (fo ρ S).wp (kTP2 fi ρ k y) (kEx k ρ) := rfl
@[simp] theorem kTP2_eq (fi : SemE) (y x : D) : kTP2 fi ρ k y x S = (fi ρ S).wp (kTP3 ρ k y x) (kEx k ρ) := rfl
@[simp] theorem kTP3_eq (y x i : D) : kTP3 ρ k y x i S = ∃ S4, tputC x i y S = some S4 ∧ k.nx ρ S4 := rfl
@[simp] theorem wp_sTPut (fo fi fe : SemE) : (sTPut fo fi fe ρ S).wp k = (fe ρ S).wp (kTP1 fo fi ρ k) (kEx k ρ) := by
  unfold sTPut kTP1
  simp only [wpS_toS]
  congr 1
  funext y S1
  congr 1
  funext x S2
  congr 1
  funext i S3
  cases tputC x i y S3 <;> simp
theorem tput_of {n : Nat} {kds : List (List Key × D)} {ds : List D} {ks : List Key} {y : D} (h : S[n]? = some (.dT kds)) (hk : asKs ds = some ks) (hl : kds.length ≤ 4000000) (hy : closed n y = true) : tputC (.ref n) (.tup ds) y S = some (S.set n (.dT (putD kds ks y))) := by
  unfold tputC
  simp [h, hk, hy, sz, hl]
theorem tget_of {n : Nat} {kds : List (List Key × D)} {ds : List D} {ks : List Key} (h : S[n]? = some (.dT kds)) (hk : asKs ds = some ks) : opTget (.ref n) (.tup ds) S = lookD kds ks := by
  unfold opTget
  simp [h, hk]
theorem keysT_of {n : Nat} {kds : List (List Key × D)} (h : S[n]? = some (.dT kds)) : keysT [.ref n] S = some (kds.map fun q => D.tup (q.1.map keyT)) := by
  unfold keysT
  simp [h]
@[simp] theorem asKs_ints : ∀ ns : List Int, asKs (ns.map D.int) = some (ns.map Sum.inl)
  | [] => rfl
  | n :: ns => by rw [List.map_cons, asKs, asKs_ints ns]; rfl
@[simp] theorem keyT_ints (ns : List Int) : (ns.map (Sum.inl : Int → Key)).map keyT = ns.map D.int := by
  rw [List.map_map]
  rfl
end
end Fk

set_option Elab.async false
set_option linter.all false
set_option maxRecDepth 100000
set_option maxHeartbeats 4000000
namespace Fk
open PySem PySem.Spec PyProof.Rows L2
/-! ### a, b, c = e1, e2, e3 -/
theorem asgT3_eq {i j l : Nat} {fa : SemA} {ρ : Env} {S : Store} : sAsgT (gT [gN i, gN j, gN l]) (eTup fa) ρ S = toS (fa ρ S) ρ fun ds S1 => match ds with
    | [d, e, g] => .nx (((ρ.set i (some d)).set j (some e)).set l (some g)) S1
    | _ => .stuck := by
  unfold sAsgT eTup
  cases fa ρ S with
  | stuck => rfl
  | exc c fs S1 => rfl
  | ok ds S1 =>
    match ds with
    | [] => rfl
    | [_] => rfl
    | [_, _] => rfl
    | [_, _, _] => rfl
    | a :: b :: c :: d :: ds =>
      show toS (if sz (a :: b :: c :: d :: ds).length = true then _ else _) _ _ = _
      split
      · show (match gT [gN i, gN j, gN l] (.tup (a :: b :: c :: d :: ds)) ρ S1 with | some ρ1 => OutS.nx ρ1 S1 | none => .stuck) = _
        have : gT [gN i, gN j, gN l] (.tup (a :: b :: c :: d :: ds)) ρ S1 = none := by
          unfold gT
          simp
        rw [this]
        rfl
      · rfl
section
variable {X : Cx} {W : WX}
theorem xs_par3 {i j l : Nat} {x y z : Str} {a b c : Expr} {fa : SemA} {px py pz pt pos : Pos} {kt k2 pt2} (hc : X.calm = true) (hN : X.N.Nodup) (hi : X.N[i]? = some x) (hj : X.N[j]? = some y) (hl : X.N[l]? = some z) (hij : i ≠ j) (hil : i ≠ l) (hjl : j ≠ l)
    (hx : X.env.scope.names.lookup x = some .local) (hy : X.env.scope.names.lookup y = some .local) (hz : X.env.scope.names.lookup z = some .local) (ha : XA X W [a, b, c] fa)
    (hw : swappedStores [.Tuple [.Name x px, .Name y py, .Name z pz] kt pt] (.Tuple [a, b, c] k2 pt2) X.env = pure (some [x, y, z]))
    (hs : swapsWithSole [.Tuple [.Name x px, .Name y py, .Name z pz] kt pt] (.Tuple [a, b, c] k2 pt2) pos.line X.env = pure false := by rfl) :
    XS X W (.Assign [.Tuple [.Name x px, .Name y py, .Name z pz] kt pt] (.Tuple [a, b, c] k2 pt2) pos) (sAsgT (gT [gN i, gN j, gN l]) (eTup fa)) := by
  refine psI (ps_par3 hc hN hi hj hl hij hil hjl hx hy hz ha hw hs) fun Dn σ H hh => ?_
  obtain ⟨F, ι, ρ, S, s, r, q⟩ := hh
  rw [asgT3_eq] at q
  refine ⟨F, ι, ρ, S, s, r, post_toS r q fun ds S1 F1 ι1 v H1 x1 s1 rv q1 => ?_⟩
  cases rv with
  | nil => exact q1.elim
  | cons r1 t1 =>
    cases t1 with
    | nil => exact q1.elim
    | cons r2 t2 =>
      cases t2 with
      | nil => exact q1.elim
      | cons r3 t3 =>
        cases t3 with
        | nil => exact ⟨_, _, _, rfl, q1 F1 ι1 _ H1 (Step.refl _ _ _) s1 ((((r.mono x1).set i r1).set j r2).set l r3)⟩
        | cons _ _ => exact q1.elim
end
/-! ### a function called by another name -/
section
variable {P : Program} {w : World} {K : PySem.W.Frag} {mg : Str → Option Value} {base : Heap} {x y qual : Str} {params : Arguments} {body : List Stmt} {scope : Scope} {kws : List (Str × V)} {f : Addr} {fd : FuncData} {ps : List Str} {k : Nat} {fs : FSem} {dvs : List V} {dd : List D}
theorem Fn.allN (F : FunD K x qual params body scope [] kws f fd) (hm : mg y = Option.some (.ref f)) (G : FnG P w K mg base k f fd ps (spD K mg ps.length fs))
    (h : ∀ (kV doc pm : Value) (an : Option Addr) (cdv ct : Value) (us : List Value), us.length = ps.length → bindArgs (PySem.W.fnOf x qual params body scope .none kV doc pm an cdv ct) ⟨us, []⟩ = pure (ps.zip us)) : Fn P w K mg base k y ps [] fs :=
  ⟨f, fd, [], [], hm, F.kp, G, F.bindsN h, .nil, fun _ _ _ => .nil⟩
theorem Fn.someN (F : FunD K x qual params body scope dvs kws f fd) (hm : mg y = Option.some (.ref f)) (G : FnG P w K mg base k f fd ps (spD K mg ps.length fs)) (n j : Nat) (hd : dvs ≠ []) (hn : n + (dvs.length - j) = ps.length) (hdd : ∀ K F ι, RelAll K F ι (dvs.drop j) dd)
    (h : ∀ (T : Addr) (kV doc pm : Value) (an : Option Addr) (cdv ct : Value) (us its : List Value), us.length = n → its.length = dvs.length →
      ∃ k, bindArgs (PySem.W.fnOf x qual params body scope (.ref T) kV doc pm an cdv ct) ⟨us, []⟩ = seqItems? (.ref T) >>= k ∧ k (Option.some its.toArray) = pure (ps.zip (us ++ its.drop j))) : Fn P w K mg base k y ps dd fs := by
  obtain ⟨ds, hv, hb⟩ := F.binds1 n j hd hn h
  exact ⟨f, fd, _, ds, hm, F.kp, G, hb, hv, hdd⟩
end
end Fk

set_option Elab.async false
set_option linter.all false
set_option maxRecDepth 100000
set_option maxHeartbeats 4000000
namespace Fk
open PySem PySem.Spec PyProof.Rows L2
/-! ### [e for x in xs for y in ys] -/
def comp2Go (g : SemG) (t : SemT) (it1 : SemA) (g1 : SemG) (t1 : SemT) (e : SemE) (vs1 : List Nat) (ρ : Env) : List D → List D → Store → Out (List D)
  | [], acc, S => .ok acc S
  | x :: xs, acc, S => match g x ρ S with
    | some ρ1 => (noX (t ρ1 S)).bind fun b S2 => if b then (noX (it1 ρ1 S2)).bind fun ys S3 => (compGo (compStep g1 t1 e (wipeD ρ1 vs1)) ys acc S3).bind fun acc' S4 => comp2Go g t it1 g1 t1 e vs1 ρ xs acc' S4
      else comp2Go g t it1 g1 t1 e vs1 ρ xs acc S2
    | none => .stuck
def lComp2 (it : SemA) (g : SemG) (t : SemT) (it1 : SemA) (g1 : SemG) (t1 : SemT) (e : SemE) (vs vs1 : List Nat) : SemA := fun ρ S => (it ρ S).bind fun xs S1 => comp2Go g t it1 g1 t1 e vs1 (wipeD ρ vs) xs [] S1
section
variable {X : Cx} {W : WX}
theorem step0 {F F' H' : Hp} {ι ι' : List Addr} (x : Ext F ι F' ι') : Step F ι (fun _ => none) F' ι' H' := ⟨x, fun b o e1 _ _ => by simp at e1, fun b _ => rfl⟩
theorem tG_comp2 {p : Pl} {fi : SemA} {g : SemG} {t : SemT} {fi1 : SemA} {g1 : SemG} {t1 : SemT} {e : SemE} {vs vs' ws ws' : List Nat} (hvs : ∀ i ∈ vs', i ∈ vs) (hws : ∀ i ∈ ws', i ∈ ws) {σ : L2.St} {H : Hp} {Q : VK} (h : tG p (RL' p.K) (lComp2 fi g t fi1 g1 t1 e vs ws) σ H Q) :
    tLc2 (tG p (RI' p.K) fi) (tPG p.K p.mg g vs') (tT ⟨p.K, p.mg, WF⟩ t) (tG ⟨p.K, p.mg, WF⟩ (RI' p.K) fi1) (tPG p.K p.mg g1 ws') (tT ⟨p.K, p.mg, WF⟩ t1) (tE ⟨p.K, p.mg, WF⟩ e) vs ws σ H Q := by
  obtain ⟨F, ι, ρ, S, sm, r, q⟩ := h
  refine ⟨F, ι, ρ, S, sm, r, post_bind (R := RI' p.K) q fun xs S1 F1 ι1 J H1 x1 s1 wk q1 => ?_⟩
  have wk : Walks p.K F1 ι1 J xs := wk
  intro Dl hD
  -- what is known between two turns
  let In : List D → Hp → Prop := fun rest H' => ∃ F' ι' S' acc vs1, Step F1 ι1 H1 F' ι' H' ∧ Sim p.K p.mg F' ι' S' H' ∧ H' Dl = some (.lst vs1) ∧ F' Dl = none ∧ Dl ∉ ι' ∧ RelAll p.K F' ι' vs1 acc ∧ Post p (RL' p.K) F1 ι1 H1 σ (comp2Go g t fi1 g1 t1 e ws (wipeD ρ vs) rest acc S') Q
  refine ⟨fun i m H' => i + m = xs.length ∧ In (xs.drop i) H', ⟨xs.length, by omega, F1, ι1, S1, [], [], (s1.loose hD).1, (s1.loose hD).2, upd_same, (s1.fresh hD).1, (s1.fresh hD).2, .nil, by simpa using q1⟩, fun i m H' hW => ?_⟩
  obtain ⟨hm, F2, ι2, S2, acc, vs1, x2, s2, hH, hF, hI, ra, q2⟩ := hW
  by_cases hlt : i < xs.length
  · refine .inr ⟨wk.go H' i (x2.same.trans s2.sub) hlt, fun H3 => In (xs.drop (i + 1)) H3, fun H3 h3 => ⟨m - 1, by omega, by omega, h3⟩, fun x H3 hy => ?_⟩
    obtain ⟨d, hd, y⟩ := wk.yld H' i x H3 (x2.same.trans s2.sub) hlt hy
    obtain ⟨F3, x3, s3, r3⟩ := y.sim x2 s2
    have hdrop : xs.drop i = d :: xs.drop (i + 1) := by
      rw [List.drop_eq_getElem_cons hlt]
      congr 1
      rw [List.getElem?_eq_getElem hlt] at hd
      exact Option.some.inj hd
    rw [hdrop] at q2
    unfold comp2Go at q2
    obtain ⟨hH3, hF3, hI3⟩ := x3.keep Dl _ hH hF hI trivial
    cases hz : g d (wipeD ρ vs) S2 with
    | none =>
      rw [hz] at q2
      exact q2.elim
    | some ρ1 =>
      rw [hz] at q2
      refine ⟨F3, ι2, wipeD ρ vs, S2, d, ρ1, s3, ((r.mono ((x1.trans x2).trans x3)).wipe vs), r3, hz, fun σ4 r4 w4 => ⟨?_, F3, ι2, ρ1, S2, s3, r4, ?_⟩⟩
      · rw [w4 vs hvs, wipe_wipe]
      · cases ht : t ρ1 S2 with
        | exc c fs S3 =>
          simp only [ht, noX, Out.stuck_bind] at q2
          exact q2.elim
        | stuck =>
          simp only [ht, noX, Out.stuck_bind] at q2
          exact q2.elim
        | ok b S3 =>
          intro F4 ι4 b' H4 x4 s4 rb
          cases (show b' = b from rb)
          simp only [ht, noX_ok, Out.ok_bind] at q2
          obtain ⟨hH4, hF4, hI4⟩ := x4.keep Dl _ hH3 hF3 hI3 trivial
          cases b with
          | false =>
            simp only [Bool.false_eq_true, if_false] at q2
            exact ⟨F4, ι4, S3, acc, vs1, (x2.trans x3).trans x4, s4, hH4, hF4, hI4, RelAll.mono (x3.trans x4) ra, q2⟩
          | true =>
            simp only [if_true] at q2
            refine ⟨F4, ι4, ρ1, S3, s4, r4.mono x4, ?_⟩
            cases hi1 : fi1 ρ1 S3 with
            | exc c fs S4 =>
              simp only [hi1, noX, Out.stuck_bind] at q2
              exact q2.elim
            | stuck =>
              simp only [hi1, noX, Out.stuck_bind] at q2
              exact q2.elim
            | ok ys S4 =>
              intro F5 ι5 J1 H5 x5 s5 wk1
              have wk1 : Walks p.K F5 ι5 J1 ys := wk1
              simp only [hi1, noX_ok, Out.ok_bind] at q2
              obtain ⟨hH5, hF5, hI5⟩ := x5.keep Dl _ hH4 hF4 hI4 trivial
              have x25 := ((x2.trans x3).trans x4).trans x5
              let In1 : List D → Hp → Prop := fun rest H' => ∃ F' ι' S' acc vs1, Ext F5 ι5 F' ι' ∧ Step F1 ι1 H1 F' ι' H' ∧ Sim p.K p.mg F' ι' S' H' ∧ H' Dl = some (.lst vs1) ∧ F' Dl = none ∧ Dl ∉ ι' ∧ RelAll p.K F' ι' vs1 acc ∧ Post p (RL' p.K) F1 ι1 H1 σ ((compGo (compStep g1 t1 e (wipeD ρ1 ws)) rest acc S').bind fun acc' S4 => comp2Go g t fi1 g1 t1 e ws (wipeD ρ vs) (xs.drop (i + 1)) acc' S4) Q
              refine ⟨fun j k H' => j + k = ys.length ∧ In1 (ys.drop j) H', ⟨ys.length, by omega, F5, ι5, S4, acc, vs1, Ext.refl _ _, x25, s5, hH5, hF5, hI5, RelAll.mono ((x3.trans x4).trans x5) ra, by simpa using q2⟩, fun j k H6 hW1 => ?_⟩
              obtain ⟨hk, F6, ι6, S6, acc6, vs6, e6, x6, s6, hH6, hF6, hI6, ra6, q6⟩ := hW1
              by_cases hlt1 : j < ys.length
              · refine .inr ⟨wk1.go H6 j (e6.same.trans s6.sub) hlt1, fun H7 => In1 (ys.drop (j + 1)) H7, fun H7 h7 => ⟨k - 1, by omega, by omega, h7⟩, fun z H7 hy7 => ?_⟩
                obtain ⟨d7, hd7, y7⟩ := wk1.yld H6 j z H7 (e6.same.trans s6.sub) hlt1 hy7
                obtain ⟨F7, x7, s7, r7⟩ := y7.sim (step0 (H' := H6) e6) s6
                have hdrop7 : ys.drop j = d7 :: ys.drop (j + 1) := by
                  rw [List.drop_eq_getElem_cons hlt1]
                  congr 1
                  rw [List.getElem?_eq_getElem hlt1] at hd7
                  exact Option.some.inj hd7
                rw [hdrop7] at q6
                unfold compGo at q6
                obtain ⟨hH7, hF7, hI7⟩ := x7.keep Dl _ hH6 hF6 hI6 trivial
                have rρ1 : REnv p.K F7 ι6 σ4 ρ1 := ((r4.mono (x4.trans x5)).mono (step0 (H' := H6) e6)).mono x7
                cases hz1 : g1 d7 (wipeD ρ1 ws) S6 with
                | none =>
                  unfold compStep at q6
                  rw [hz1] at q6
                  exact q6.elim
                | some ρ2 =>
                  unfold compStep at q6
                  rw [hz1] at q6
                  refine ⟨F7, ι6, wipeD ρ1 ws, S6, d7, ρ2, s7, rρ1.wipe ws, r7, hz1, fun σ8 r8 w8 => ⟨?_, F7, ι6, ρ2, S6, s7, r8, ?_⟩⟩
                  · rw [w8 ws hws, wipe_wipe]
                  · cases ht1 : t1 ρ2 S6 with
                    | exc c fs S8 =>
                      simp only [ht1, noX, Out.stuck_bind] at q6
                      exact q6.elim
                    | stuck =>
                      simp only [ht1, noX, Out.stuck_bind] at q6
                      exact q6.elim
                    | ok b8 S8 =>
                      intro F8 ι8 b' H8 x8 s8 rb8
                      cases (show b' = b8 from rb8)
                      simp only [ht1, noX_ok, Out.ok_bind] at q6
                      obtain ⟨hH8, hF8, hI8⟩ := x8.keep Dl _ hH7 hF7 hI7 trivial
                      cases b8 with
                      | false =>
                        simp only [Bool.false_eq_true, if_false, Out.ok_bind] at q6
                        exact ⟨F8, ι8, S8, acc6, vs6, (e6.trans x7.toExt).trans x8.toExt, (x6.trans x7).trans x8, s8, hH8, hF8, hI8, RelAll.mono (x7.trans x8) ra6, q6⟩
                      | true =>
                        simp only [if_true] at q6
                        refine ⟨F8, ι8, ρ2, S8, s8, r8.mono x8, ?_⟩
                        cases he : e ρ2 S8 with
                        | exc c fs S9 =>
                          simp only [he, noX, Out.stuck_bind] at q6
                          exact q6.elim
                        | stuck =>
                          simp only [he, noX, Out.stuck_bind] at q6
                          exact q6.elim
                        | ok y9 S9 =>
                          intro F9 ι9 w9 H9 x9 s9 rw9
                          have rw9 : Rel p.K F9 ι9 w9 y9 := rw9
                          simp only [he, noX_ok, Out.ok_bind] at q6
                          obtain ⟨hH9, hF9, hI9⟩ := x9.keep Dl _ hH8 hF8 hI8 trivial
                          have ra9 := RelAll.mono ((x7.trans x8).trans x9) ra6
                          by_cases hz9 : sz acc6.length = true
                          · rw [if_pos hz9] at q6
                            refine ⟨vs6, hH9, by rw [ra9.length]; exact sz_lt hz9, F9, ι9, S9, acc6 ++ [y9], vs6 ++ [w9], ((e6.trans x7.toExt).trans x8.toExt).trans x9.toExt, ?_, ?_, upd_same, hF9, hI9, ra9.append (.cons rw9 .nil), q6⟩
                            · have st := ((x6.trans x7).trans x8).trans x9
                              refine ⟨st.toExt, fun b o e1 e2 e3 e4 => ?_, fun b hb => st.dom b (upd_dom hb)⟩
                              obtain ⟨k1, k2, k3⟩ := st.keep b o e1 e2 e3 e4
                              exact ⟨by rw [upd_ne (ne_of_none e1 hD)]; exact k1, k2, k3⟩
                            · refine ⟨fun b o e1 => ?_, s9.len, s9.nd, fun n a c ha hc => ?_, s9.cl, s9.tab.upd hH9 trivial, s9.nt, tt_upd s9.tt (by intro _ z; cases z)⟩
                              · rw [upd_ne (ne_of_none e1 hF9)]
                                exact s9.sub b o e1
                              · exact (s9.cell n a c ha hc).mono (Ext.refl _ _) (fun z => z) fun o z => by
                                  rw [upd_ne (show a ≠ Dl from fun z2 => hI9 (by rw [← z2]; exact List.mem_of_getElem? ha))]
                                  exact z
                          · rw [if_neg hz9] at q6
                            exact q6.elim
              · refine .inl ⟨wk1.stop H6 j (e6.same.trans s6.sub) (by omega), ?_⟩
                rw [List.drop_of_length_le (by omega)] at q6
                exact ⟨F6, ι6, S6, acc6, vs6, x6, s6, hH6, hF6, hI6, ra6, q6⟩
  · refine .inl ⟨wk.stop H' i (x2.same.trans s2.sub) (by omega), ?_⟩
    rw [List.drop_of_length_le (by omega)] at q2
    exact q2 F2 ι2 _ H' x2 s2 ⟨Dl, vs1, rfl, hD, hH, hF, hI, ra⟩
variable {elt tg iter tg1 iter1 : Expr} {ifs ifs1 : List Expr} {scope : Scope} {own : List (Str × Nat)} {pos : Pos} {fi fi1 : SemA} {g g1 : SemG} {t t1 : SemT} {e : SemE} {vs' ws ws' : List Nat}
theorem xl_comp2 (hc : X.calm = true) (hN : X.N.Nodup) (hi : XI X W tg iter fi) (ok : BlkOk X.N X.env.scope scope own) (hvs : ∀ i ∈ vs', i ∈ own.map (·.2)) (hws : ∀ i ∈ ws', i ∈ ws) (hv : ∀ i ∈ ws, i ∈ own.map (·.2))
    (hg : ∀ (s : Shared) (H : Hp) (C : Addr) (cl : List (Str × Addr)) (fp : List Addr), PGD (X.blk s H scope (compEnvC scope cl C X.env) fp) tg g vs') (ht : ∀ (s : Shared) (H : Hp) (C : Addr) (cl : List (Str × Addr)) (fp : List Addr), XTs (X.blk s H scope (compEnvC scope cl C X.env) fp) ifs t)
    (hi1 : ∀ (s : Shared) (H : Hp) (C : Addr) (cl : List (Str × Addr)) (fp : List Addr), XI (X.blk s H scope (compEnvC scope cl C X.env) fp) WF tg1 iter1 fi1)
    (hg1 : ∀ (s : Shared) (H : Hp) (C : Addr) (cl : List (Str × Addr)) (fp : List Addr), PGD (X.blk s H scope (compEnvC scope cl C X.env) fp) tg1 g1 ws') (ht1 : ∀ (s : Shared) (H : Hp) (C : Addr) (cl : List (Str × Addr)) (fp : List Addr), XTs (X.blk s H scope (compEnvC scope cl C X.env) fp) ifs1 t1)
    (he : ∀ (s : Shared) (H : Hp) (C : Addr) (cl : List (Str × Addr)) (fp : List Addr), XE (X.blk s H scope (compEnvC scope cl C X.env) fp) WF elt e) (hs : ∀ x, foldedSetIterable iter X.env x = pure x := by intro _; rfl) (hs1 : ∀ env x, foldedSetIterable iter1 env x = pure x := by intro _ _; rfl) :
    XL X W (.ListComp elt [⟨tg, iter, ifs, 0⟩, ⟨tg1, iter1, ifs1, 0⟩] scope pos) (lComp2 fi g t fi1 g1 t1 e (own.map (·.2)) ws) :=
  peI (pe_lc2 (wi1 := tG ⟨X.K, X.mg, WF⟩ (RI' X.K) fi1) (g := tPG X.K X.mg g vs') (g1 := tPG X.K X.mg g1 ws') (tt := tT ⟨X.K, X.mg, WF⟩ t) (tt1 := tT ⟨X.K, X.mg, WF⟩ t1) (te := tE ⟨X.K, X.mg, WF⟩ e) hc hN hi ok hv hg ht hi1 hg1 ht1 he hs hs1) fun _ _ _ h => tG_comp2 hvs hws h
end
/-! ### what it comes to -/
section
variable {S : Store}
def kLC2 (g : SemG) (t : SemT) (it1 : SemA) (g1 : SemG) (t1 : SemT) (e : SemE) (vs1 : List Nat) (ρ : Env) (Q : List D → Store → Prop) (E : EX) (xs : List D) (S : Store) : Prop := (comp2Go g t it1 g1 t1 e vs1 ρ xs [] S).wp Q E
@[simp] theorem kLC2_eq {g : SemG} {t : SemT} {it1 : SemA} {g1 : SemG} {t1 : SemT} {e : SemE} {vs1 : List Nat} {ρ : Env} {Q : List D → Store → Prop} {E : EX} {xs : List D} : kLC2 g t it1 g1 t1 e vs1 ρ Q E xs S = (comp2Go g t it1 g1 t1 e vs1 ρ xs [] S).wp Q E := rfl
@[simp] theorem wp_lComp2 {it : SemA} {g : SemG} {t : SemT} {it1 : SemA} {g1 : SemG} {t1 : SemT} {e : SemE} {vs vs1 : List Nat} {ρ : Env} {Q : List D → Store → Prop} {E : EX} : (lComp2 it g t it1 g1 t1 e vs vs1 ρ S).wp Q E = (it ρ S).wp (kLC2 g t it1 g1 t1 e vs1 (wipeD ρ vs) Q E) E := by
  simp only [lComp2, wp_bind]
  rfl
/-- each turn of the outer loop adds a list -/
theorem comp2_flat {α : Type} {enc : α → D} {h : α → List D} {g : SemG} {t : SemT} {it1 : SemA} {g1 : SemG} {t1 : SemT} {e : SemE} {vs1 : List Nat} {ρ : Env} : ∀ {as : List α} {acc : List D}, (∀ a ∈ as, ∃ ρ1 ys, g (enc a) ρ S = some ρ1 ∧ t ρ1 S = .ok true S ∧ it1 ρ1 S = .ok ys S ∧ ∀ acc, acc.length + (h a).length ≤ 4000000 → compGo (compStep g1 t1 e (wipeD ρ1 vs1)) ys acc S = .ok (acc ++ h a) S) →
    acc.length + ((as.map h).flatten).length ≤ 4000000 → comp2Go g t it1 g1 t1 e vs1 ρ (as.map enc) acc S = .ok (acc ++ (as.map h).flatten) S
  | [], acc, _, _ => by simp [comp2Go]
  | a :: as, acc, ha, hl => by
    obtain ⟨ρ1, ys, e1, e2, e3, e4⟩ := ha a List.mem_cons_self
    simp only [List.map_cons, List.flatten_cons, List.length_append] at hl
    rw [List.map_cons]
    unfold comp2Go
    rw [e1]
    simp only [e2, noX_ok, Out.ok_bind, if_true, e3, e4 acc (by omega)]
    rw [comp2_flat (as := as) (acc := acc ++ h a) (fun b hb => ha b (List.mem_cons_of_mem _ hb)) (by simp only [List.length_append]; omega)]
    simp
/-- the inner loop, from a list on -/
theorem comp_mapA {α : Type} {enc h : α → D} {F : D → Store → Out (Option D)} {as : List α} {acc : List D} (hF : ∀ a ∈ as, F (enc a) S = .ok (some (h a)) S) (hl : acc.length + as.length ≤ 4000000) : compGo F (as.map enc) acc S = .ok (acc ++ as.map h) S := by
  induction as generalizing acc with
  | nil => simp [compGo]
  | cons a r ih =>
    rw [List.map_cons]
    unfold compGo
    rw [hF a List.mem_cons_self]
    simp only [Out.ok_bind]
    simp only [List.length_cons] at hl
    rw [if_pos (show sz acc.length = true by simp [sz]; omega), ih (fun b hb => hF b (List.mem_cons_of_mem _ hb)) (by simp; omega)]
    simp
end
end Fk

set_option Elab.async false
set_option linter.all false
set_option maxRecDepth 100000
set_option maxHeartbeats 4000000
namespace Fk
open PySem PySem.Spec PyProof.Rows L2
/-! ### sorted lists of tuples of ints of any sign -/
def sft (c : Int) (ns : List Int) : List Int := ns.map (· + c)
def cdS (c B : Int) (ns : List Int) : Int := TS.code B (sft c ns)
def TOk (h : Heap) (d : Nat) (c B : Int) (vs : List Value) : Prop := ∀ v, v ∈ vs → ∃ ns, TS.TupInts h v ns ∧ ns.length = d ∧ TS.Bd B (sft c ns)
theorem TOk.keeps {h h' : Heap} {d : Nat} {c B : Int} {vs : List Value} (x : TOk h d c B vs) (k : ∀ b o, h.get? b = some o → o.cls = .type "tuple" → h'.get? b = some o) : TOk h' d c B vs := fun v hv =>
  let ⟨ns, t, r⟩ := x v hv; ⟨ns, t.keeps k, r⟩
section
variable {prog : Program} {w : World} {A : Around} {E : Value → Shared → Prop} {s : Shared}
theorem lex_intsS {c B : Int} {b : Bool} {xs ys : List Value} {ns ms : List Int} {Q : Bool → Shared → Prop} (i : Nat) (hx : IntsAre xs ns) (hy : IntsAre ys ms) (hl : ns.length = ms.length) (h1 : TS.Bd B (sft c ns)) (h2 : TS.Bd B (sft c ms))
    (h : Q (decide (cdS c B ns < cdS c B ms)) s) : PySem.W.KatLex prog w A b false Q (xs.zip ys) i s := by
  induction hx generalizing ys ms i with
  | nil =>
    cases hy with
    | nil =>
      have e : decide (cdS c B [] < cdS c B []) = false := decide_eq_false (Int.lt_irrefl _)
      rw [e] at h
      exact PySem.W.kat_nil h
    | cons q u hy => simp at hl
  | @cons p t xs ns hx ih =>
    cases hy with
    | nil => simp at hl
    | @cons q u ys ms hy =>
      have hl' : ns.length = ms.length := by simpa using hl
      have hl2 : (sft c ns).length = (sft c ms).length := by simpa [sft] using hl'
      show PySem.W.KatLex prog w A b false Q ((Value.int p t, Value.int q u) :: xs.zip ys) i s
      refine PySem.W.kat_cons (wpAny_eqBool_int ?_)
      by_cases e : p = q
      · subst e
        rw [beq_self_eq_true]
        have d : decide (cdS c B (p :: ns) < cdS c B (p :: ms)) = decide (cdS c B ns < cdS c B ms) := decide_eq_decide.mpr (TS.code_same (d := p + c) hl2)
        rw [d] at h
        refine PySem.W.kat_yes ?_
        first
          | exact ih (i + 1) hy hl' h1.tail h2.tail h
          | exact ih _ _ (i + 1) hy hl' h1.tail h2.tail h
      · rw [show (p == q) = false from beq_eq_false_iff_ne.mpr e]
        refine PySem.W.kat_no (TS.oneLt_ints _ ?_)
        have d : decide (cdS c B (p :: ns) < cdS c B (q :: ms)) = decide (p < q) := by
          refine decide_eq_decide.mpr ⟨fun x => ?_, fun x => TS.code_lt hl2 h1.tail h2.tail (show p + c < q + c by omega)⟩
          rcases Int.lt_trichotomy p q with y | y | y
          · exact y
          · exact absurd y e
          · have := TS.code_lt hl2.symm h2.tail h1.tail (show q + c < p + c by omega)
            have x' : TS.code B ((p + c) :: sft c ns) < TS.code B ((q + c) :: sft c ms) := x
            omega
        rw [d] at h
        exact h
theorem firstsS {h : Heap} {d : Nat} {c B : Int} (hd : 1 ≤ d) : ∀ vs : List Value, TOk h d c B vs → ∃ fs, PySem.W.KatTups h vs fs ∧ fs.length = vs.length ∧ ∀ f, f ∈ fs → ∃ n t, f = Value.int n t
  | [], _ => ⟨[], PySem.W.KatTups.nil, rfl, fun f hf => by simp at hf⟩
  | v :: vs, x => by
    obtain ⟨fs, k, hl, hi⟩ := firstsS hd vs fun u hu => x u (List.mem_cons_of_mem _ hu)
    obtain ⟨ns, ⟨a, xs, rfl, ⟨o, ho, hc, n, hdt⟩, i⟩, hn, _⟩ := x v (List.mem_cons_self ..)
    obtain ⟨y, ys, e⟩ : ∃ y ys, xs.toList = y :: ys := by
      cases q : xs.toList with
      | nil =>
        rw [q] at i
        have l := i.length
        rw [List.length_nil, hn] at l
        omega
      | cons y ys => exact ⟨y, ys, rfl⟩
    obtain ⟨m, t, hy⟩ := i.all y (by rw [e]; exact List.mem_cons_self ..)
    refine ⟨y :: fs, PySem.W.KatTups.cons ho hc hdt ?_ k, by simp [hl], ?_⟩
    · have z := congrArg (fun l : List Value => l[0]?) e
      simpa using z
    · intro f hf
      rcases List.mem_cons.mp hf with rfl | hf
      · exact ⟨m, t, hy⟩
      · exact hi f hf
theorem kindS {d : Nat} {c B : Int} {vs : List Value} (hd : 1 ≤ d) (h2 : 2 ≤ vs.length) (x : TOk s.heap d c B vs) (r : Value → Int) (hr : ∀ v, v ∈ vs → ∀ ns, TS.TupInts s.heap v ns → r v = cdS c B ns) (Q : SortKind → Shared → Prop)
    (h : ∀ κ, TS.Cmp prog w A s κ (pairsOf vs) r → Q κ s) : wpAny (model prog w) A (keyKind' vs.toArray) Q E s := by
  obtain ⟨fs, k, hl, hi⟩ := firstsS hd vs x
  refine PySem.W.kat_kind (T := Value.type "int") k (by omega) (fun f hf => ?_) rfl (h _ ?_)
  · obtain ⟨n, t, rfl⟩ := hi f hf
    exact PySem.W.Looks.of_pure rfl
  · intro p q hp hq Q' E' hQ
    rw [pairsOf_toList] at hp hq
    obtain ⟨ns, tp, lp, bp⟩ := x _ (mem_zip_self hp).2
    obtain ⟨ms, tq, lq, bq⟩ := x _ (mem_zip_self hq).2
    have ep := hr _ (mem_zip_self hp).2 _ tp
    have eq2 := hr _ (mem_zip_self hq).2 _ tq
    have hQ' : Q' (decide (cdS c B ns < cdS c B ms)) s := by
      have z : decide (r p.1 < r q.1) = decide (cdS c B ns < cdS c B ms) := by rw [ep, eq2]
      rw [← z]; exact hQ
    obtain ⟨a, xs, e1, ⟨o, ho, hc, n, hdt⟩, i⟩ := tp
    obtain ⟨a', ys, e2, ⟨o', ho', hc', n', hdt'⟩, i'⟩ := tq
    rw [e1, e2]
    refine PySem.W.kat_lt ho hdt ho' hdt' ?_
    have sz : decide (xs.size < ys.size) = false := by
      have l1 := i.length
      have l2 := i'.length
      rw [Array.length_toList] at l1 l2
      exact decide_eq_false (by omega)
    rw [sz]
    exact lex_intsS 0 i i' (by omega) bp bq hQ'
theorem sortS {a : Addr} {vs : List Value} {n d : Nat} {c B : Int} {P : PySem.Fin → Shared → Prop} (ho : s.heap.get? a = some (seqObj "list" vs.toArray n)) (h64 : vs.length < 64) (hd : 1 ≤ d) (x : TOk s.heap d c B vs)
    (r : Value → Int) (hr : ∀ v, v ∈ vs → ∀ ns, TS.TupInts s.heap v ns → r v = cdS c B ns)
    (h : ∀ out : Array Value, out.toList.Perm vs → out.toList.Pairwise (fun u v => r u ≤ r v) → P (.done (.ret .none)) { s with heap := sortedHeap s.heap a vs out }) :
    wpAny (model prog w) A (Builtin.«list.sort» ⟨[.ref a], []⟩) P E s := by
  have keep : ∀ b o, s.heap.get? b = some o → o.cls = .type "tuple" → (TS.midHeap s.heap a vs).get? b = some o := fun b o e hc => by
    refine TS.midHeap_old ?_ e
    rintro rfl
    rw [ho] at e
    have e' : seqObj "list" vs.toArray n = o := Option.some.inj e
    rw [← e'] at hc
    have c' : Value.type "list" = Value.type "tuple" := hc
    injection c' with c''
    exact absurd c'' (by decide)
  refine SK.plain_sort (r := r) ho h64 (fun h2 Q hQ => ?_) fun ps out h1 h2 h3 => ?_
  · refine kindS (s := { s with heap := TS.midHeap s.heap a vs }) hd h2 (x.keeps keep) r (fun v hv ns t => ?_) Q hQ
    obtain ⟨ns0, t0, _⟩ := x v hv
    have e : ns = ns0 := t.ints.symm.trans (t0.keeps keep).ints
    rw [e]
    exact hr v hv ns0 t0
  · obtain ⟨p, o⟩ := TS.out_rank h1 h2 h3
    exact h out p o
theorem sortedS {l : Addr} {vs : List Value} {d : Nat} {c B : Int} {Q : Value → Shared → Prop} (hl : s.heap.IsList l vs.toArray) (h64 : vs.length < 64) (hd : 1 ≤ d) (x : TOk s.heap d c B vs)
    (h : ∀ out : Array Value, out.toList.Perm vs → out.toList.Pairwise (fun u v => cdS c B (TS.intsOf s.heap u) ≤ cdS c B (TS.intsOf s.heap v)) → Q (.ref (s.heap.objs.size + 1)) { s with heap := sortedAll s.heap vs out }) :
    wpAny (model prog w) A (call (.builtin "sorted") [.ref l]) Q E s := by
  refine Calls.call_function_entry kind_sorted plain_sorted entry_sorted (args_sorted1 _) ?_
  unfold Builtin.«sorted»
  refine wpAny_bind (m := checkCount "sorted" 1 1 _) (wpAny_pure ?_)
  refine wpAny_bind (collect_list hl ?_ (by rw [sizeLine_eq]; omega))
  refine wpAny_bind (wpAny_newList ?_ (by rw [sizeLine_eq]; omega))
  have hsz : ((s.heap.push (seqObj "list" #[] 0)).update s.heap.objs.size (Obj.mapSeq (· ++ vs.toArray))).objs.size = s.heap.objs.size + 1 := by
    rw [Heap.size_update, size_push']
  have hoL : (((s.heap.push (seqObj "list" #[] 0)).update s.heap.objs.size (Obj.mapSeq (· ++ vs.toArray))).push (seqObj "list" vs.toArray 0)).get? (s.heap.objs.size + 1) = some (seqObj "list" vs.toArray 0) := by
    rw [← hsz]; exact Heap.get?_push_size _ rfl
  have keep : ∀ b o, s.heap.get? b = some o → o.cls = .type "tuple" → (((s.heap.push (seqObj "list" #[] 0)).update s.heap.objs.size (Obj.mapSeq (· ++ vs.toArray))).push (seqObj "list" vs.toArray 0)).get? b = some o := fun b o q _ => by
    have hlt : b < s.heap.objs.size := Heap.lt_size q
    rw [Heap.get?_push_ne _ _ _ (by rw [hsz]; exact Nat.ne_of_lt (Nat.lt_succ_of_lt hlt)), Heap.get?_update_ne _ _ _ _ (Nat.ne_of_lt hlt), Heap.get?_push_ne _ _ _ (Nat.ne_of_lt hlt)]
    exact q
  show wpAny _ _ _ _ _ { s with heap := ((s.heap.push (seqObj "list" #[] 0)).update s.heap.objs.size (Obj.mapSeq (· ++ vs.toArray))).push (seqObj "list" vs.toArray 0) }
  rw [hsz]
  refine wpAny_bind (wpAny_holding (wpAny_call_entry slot_list_sort ⟨_, hoL, rfl⟩ entry_list_sort (sortS hoL h64 hd (x.keeps keep) (fun v => cdS c B (TS.intsOf s.heap v)) (fun v hv ns t => ?_) fun out a1 a2 => ⟨_, rfl, ?_⟩) (args_list_sort _)))
  · obtain ⟨ns0, t0, _⟩ := x v hv
    have e : ns = ns0 := t.ints.symm.trans (t0.keeps keep).ints
    rw [e]
    show cdS c B (TS.intsOf s.heap v) = cdS c B ns0
    rw [t0.ints]
  · exact wpAny_pure ⟨_, rfl, h out a1 a2⟩
end
section
variable {X : Cx}
/-- sorted(xs), xs a list of fewer than 64 tuples of d ints -/
def rSortS (K : PySem.W.Frag) : List V → Hp → VK → Prop := fun vs H Q => ∃ (d : Nat) (c B : Int) (a : Addr) (xs : List V), 1 ≤ d ∧ vs = [V.ref a] ∧ SqL K H a xs ∧ xs.length < 64 ∧ (∀ x ∈ xs, ∃ ns, TupI K H x ns ∧ ns.length = d ∧ TS.Bd B (sft c ns)) ∧
  ∀ (ys : List V) (p : Addr), ys.Perm xs → ys.Pairwise (fun x y => ∀ n m, TupI K H x n → TupI K H y m → cdS c B n ≤ cdS c B m) → H p = none → Q (.ref p) (upd H p (.lst ys))
theorem cr_sortS : CallR X (.builtin "sorted") (rSortS X.K) := by
  intro pins s σ H vs us Q I r h
  obtain ⟨d, c, B, a, xs, hd, rfl, hs, h64, hx, q⟩ := h
  obtain ⟨its, rv, hl, hz⟩ := I.list hs
  rw [Vals.ref1 r]
  obtain ⟨e1, e2⟩ := bkV_refs rv fun x m => by
    obtain ⟨ns, ⟨t, e, _⟩, _⟩ := hx x m
    exact ⟨t, e⟩
  refine sortedS (d := d) (c := c) (B := B) hl.isList (by rw [← rv.length]; exact h64) hd (fun v hv => ?_) fun out h1 h2 => ?_
  · obtain ⟨t, rfl⟩ := e2 v hv
    have hm : V.ref t ∈ xs := by
      rw [e1]
      exact List.mem_map.mpr ⟨_, hv, rfl⟩
    obtain ⟨ns, ⟨t', e, ht⟩, hn, hb⟩ := hx _ hm
    cases e
    exact ⟨ns, tupI_raw I ht, hn, hb⟩
  · obtain ⟨ep, he'⟩ := PyProof.Rows.sortedAll_at s.heap its out
    have h3 : ∀ u ∈ out.toList, ∃ a, u = Value.ref a := fun u hu => e2 u (h1.mem_iff.mp hu)
    have hp : (out.toList.map bkV).Perm xs := by
      rw [e1]
      exact h1.map bkV
    have hlen : (out.toList.map bkV).length ≤ sizeLine := by
      rw [hp.length_eq]
      exact hz
    refine ⟨.ref _, upd H (s.heap.objs.size + 1) (.lst (out.toList.map bkV)), I.laid (t' := s.toks) (fun _ _ => PyProof.Rows.sortedAll_old) (Nat.le_succ _) ⟨hlen, out.toList, ep, bkV_vals h3, he'⟩, rfl, q _ _ hp ?_ (I.hok.fresh (Nat.le_succ _))⟩
    rw [List.pairwise_map]
    refine List.Pairwise.imp (fun {u v} huv n m hn hm => ?_) h2
    obtain ⟨t, et, ht⟩ := hn
    obtain ⟨t', et', ht'⟩ := hm
    have eu := bkV_ref et
    have ev := bkV_ref et'
    have i1 : TS.intsOf s.heap u = n := by
      rw [eu]
      exact (tupI_raw I ht).ints
    have i2 : TS.intsOf s.heap v = m := by
      rw [ev]
      exact (tupI_raw I ht').ints
    rw [← i1, ← i2]
    exact huv
end
end Fk

set_option Elab.async false
set_option linter.all false
set_option maxRecDepth 100000
set_option maxHeartbeats 4000000
namespace Fk
open PySem PySem.Spec PyProof.Rows L2
/-! ### rows -/
def rowI : D → Option (List Int)
  | .tup ds => asInts ds
  | _ => none
def rowsI : List D → Option (List (List Int))
  | [] => some []
  | d :: ds => match rowI d, rowsI ds with
    | some r, some rs => some (r :: rs)
    | _, _ => none
def leR : List Int → List Int → Bool
  | [], _ => true
  | _ :: _, [] => false
  | a :: r, b :: q => decide (a < b) || (decide (a = b) && leR r q)
theorem leR_total : ∀ a b : List Int, (leR a b || leR b a) = true
  | [], _ => by simp [leR]
  | _ :: _, [] => by simp [leR]
  | a :: r, b :: q => by
    have ih := leR_total r q
    simp only [leR, Bool.or_eq_true, decide_eq_true_eq, Bool.and_eq_true] at ih ⊢
    by_cases h : a = b
    · subst h; rcases ih with h | h <;> simp [h]
    · by_cases h2 : a < b
      · exact .inl (.inl h2)
      · exact .inr (.inl (by omega))
theorem leR_trans : ∀ a b c : List Int, leR a b = true → leR b c = true → leR a c = true
  | [], _, _, _, _ => by simp [leR]
  | _ :: _, [], _, h, _ => by simp [leR] at h
  | _ :: _, _ :: _, [], _, h => by simp [leR] at h
  | a :: r, b :: q, c :: p, h1, h2 => by
    have ih := leR_trans r q p
    simp only [leR, Bool.or_eq_true, decide_eq_true_eq, Bool.and_eq_true] at h1 h2 ⊢
    rcases h1 with h1 | ⟨h1, h1'⟩ <;> rcases h2 with h2 | ⟨h2, h2'⟩
    · exact .inl (by omega)
    · exact .inl (by omega)
    · exact .inl (by omega)
    · exact .inr ⟨by omega, ih h1' h2'⟩
theorem leR_anti : ∀ a b : List Int, leR a b = true → leR b a = true → a = b
  | [], [], _, _ => rfl
  | [], _ :: _, _, h => by simp [leR] at h
  | _ :: _, [], h, _ => by simp [leR] at h
  | a :: r, b :: q, h1, h2 => by
    have ih := leR_anti r q
    simp only [leR, Bool.or_eq_true, decide_eq_true_eq, Bool.and_eq_true] at h1 h2
    rcases h1 with h1 | ⟨h1, h1'⟩ <;> rcases h2 with h2 | ⟨h2, h2'⟩
    · omega
    · omega
    · omega
    · rw [h1, ih h1' h2']
theorem leR_code {c B : Int} : ∀ {n m : List Int}, n.length = m.length → TS.Bd B (sft c n) → TS.Bd B (sft c m) → cdS c B n ≤ cdS c B m → leR n m = true
  | [], _, _, _, _, _ => by simp [leR]
  | _ :: _, [], h, _, _, _ => by simp at h
  | a :: r, b :: q, hl, h1, h2, h => by
    have hl' : r.length = q.length := by simpa using hl
    have hl2 : (sft c r).length = (sft c q).length := by simpa [sft] using hl'
    simp only [leR, Bool.or_eq_true, decide_eq_true_eq, Bool.and_eq_true]
    rcases Int.lt_trichotomy a b with e | e | e
    · exact .inl e
    · subst e
      refine .inr ⟨rfl, leR_code hl' h1.tail h2.tail ?_⟩
      have z := (TS.code_same (B := B) (d := a + c) (r := sft c q) (q := sft c r) hl2.symm)
      have h' : ¬ TS.code B ((a + c) :: sft c q) < TS.code B ((a + c) :: sft c r) := Int.not_lt.mpr h
      rw [z] at h'
      exact Int.not_lt.mp h'
    · have z := TS.code_lt (B := B) (d := b + c) (e := a + c) hl2.symm h2.tail h1.tail (by omega)
      have h' : ¬ TS.code B ((b + c) :: sft c q) < TS.code B ((a + c) :: sft c r) := Int.not_lt.mpr h
      exact absurd z h'
def srtR (rs : List (List Int)) : List (List Int) := rs.mergeSort leR
theorem srtR_perm (rs : List (List Int)) : (srtR rs).Perm rs := List.mergeSort_perm _ _
theorem srtR_sorted (rs : List (List Int)) : (srtR rs).Pairwise (fun a b => leR a b = true) := List.pairwise_mergeSort leR_trans leR_total rs
theorem srtR_eq {rs ss : List (List Int)} (hp : ss.Perm rs) (hs : ss.Pairwise (fun a b => leR a b = true)) : ss = srtR rs :=
  List.Perm.eq_of_pairwise (le := fun a b => leR a b = true) (fun a b _ _ => leR_anti a b) hs (srtR_sorted rs) (hp.trans (srtR_perm rs).symm)
def okSrt (rs : List (List Int)) : Bool := decide (rs.length < 64) && rs.all fun q => decide (q.length = (rs.headD []).length) && decide (1 ≤ q.length)
def srtL (ds : List D) : Option (List D) := match rowsI ds with
  | some rs => if okSrt rs then some ((srtR rs).map tI) else none
  | none => none
def sortD : List D → Store → Option (List D)
  | [d], S => match dr S d with
    | .lst ds => srtL ds
    | _ => none
  | _, _ => none
theorem bounded : ∀ rs : List (List Int), ∃ M : Int, 0 ≤ M ∧ ∀ r ∈ rs, ∀ m ∈ r, -M < m ∧ m < M
  | [] => ⟨0, Int.le_refl _, fun r h => by simp at h⟩
  | r :: rs => by
    obtain ⟨M, h0, h⟩ := bounded rs
    have one : ∀ r : List Int, ∃ N : Int, 0 ≤ N ∧ ∀ m ∈ r, -N < m ∧ m < N := by
      intro r
      induction r with
      | nil => exact ⟨0, Int.le_refl _, fun m h => by simp at h⟩
      | cons a r ih =>
        obtain ⟨N, hN, ih⟩ := ih
        refine ⟨N + a.natAbs + 1, by omega, fun m hm => ?_⟩
        rcases List.mem_cons.mp hm with e | hm
        · subst e; omega
        · have := ih m hm; omega
    obtain ⟨N, hN, hr⟩ := one r
    refine ⟨M + N, by omega, fun q hq m hm => ?_⟩
    rcases List.mem_cons.mp hq with e | hq
    · subst e; have := hr m hm; omega
    · have := h q hq m hm; omega
section
variable {X : Cx} {K : PySem.W.Frag} {F : Hp} {ι : List Addr}
theorem rel_row {v : V} {d : D} {n : List Int} (r : Rel K F ι v d) (h : rowI d = some n) : d = tI n ∧ ∃ a, v = .ref a ∧ F a = some (.tup (n.map V.int)) := by
  cases r with
  | tup e q =>
    have h : asInts _ = some n := h
    have hd : ∀ {ds : List D} {ns : List Int}, asInts ds = some ns → ds = ns.map D.int := by
      intro ds
      induction ds with
      | nil => intro ns h; cases h; rfl
      | cons d ds ih =>
        intro ns h
        cases d <;> simp [asInts] at h
        obtain ⟨ms, h1, rfl⟩ := h
        rw [ih h1]; rfl
    rw [rel_ints q h] at e
    exact ⟨by rw [hd h], _, rfl, e⟩
  | _ => cases h
theorem rows_rel : ∀ {vs : List V} {ds : List D} {rs : List (List Int)}, RelAll K F ι vs ds → rowsI ds = some rs → ds = rs.map tI
  | _, _, rs, .nil, h => by
    cases (show some [] = some rs from h)
    rfl
  | _, _, rs, .cons (d := d) (ds := ds) r t, h => by
    unfold rowsI at h
    split at h
    · next r1 rs1 h1 h2 =>
      cases h
      rw [List.map_cons, ← (rel_row r h1).1, ← rows_rel t h2]
    · cases h
theorem rel_tI {v : V} {n : List Int} (r : Rel K F ι v (tI n)) : ∃ a, v = .ref a ∧ F a = some (.tup (n.map V.int)) := by
  have hz : rowI (tI n) = some n := by
    show asInts (n.map D.int) = some n
    induction n with
    | nil => rfl
    | cons a n ih =>
      have : ∀ n : List Int, asInts (n.map D.int) = some n := by
        intro n
        induction n with
        | nil => rfl
        | cons a n ih => simp [asInts, ih]
      exact this _
  exact (rel_row r hz).2
theorem rel_perm {vs ws : List V} (p : ws.Perm vs) : ∀ {rs : List (List Int)}, RelAll K F ι vs (rs.map tI) → ∃ ss : List (List Int), ss.Perm rs ∧ RelAll K F ι ws (ss.map tI) := by
  induction p with
  | nil =>
    intro rs h
    exact ⟨rs, .refl _, h⟩
  | cons x p ih =>
    intro rs h
    cases rs with
    | nil => cases h
    | cons r rs =>
      cases h with
      | cons a t =>
        obtain ⟨ss, q, z⟩ := ih t
        exact ⟨r :: ss, q.cons r, .cons a z⟩
  | swap x y l =>
    intro rs h
    match rs, h with
    | r :: q :: rs, .cons a (.cons b t) => exact ⟨q :: r :: rs, .swap _ _ _, .cons b (.cons a t)⟩
  | trans p1 p2 ih1 ih2 =>
    intro rs h
    obtain ⟨ss, q, z⟩ := ih2 h
    obtain ⟨tt, q2, z2⟩ := ih1 z
    exact ⟨tt, q2.trans q, z2⟩
theorem rel_pair {P : V → V → Prop} {R : List Int → List Int → Prop} : ∀ {vs : List V} {rs : List (List Int)}, RelAll K F ι vs (rs.map tI) → vs.Pairwise P → (∀ v u n m, n ∈ rs → m ∈ rs → Rel K F ι v (tI n) → Rel K F ι u (tI m) → P v u → R n m) → rs.Pairwise R
  | _, [], _, _, _ => .nil
  | _, r :: rs, .cons a t, hp, h => by
    obtain ⟨h1, h2⟩ := List.pairwise_cons.mp hp
    refine List.pairwise_cons.mpr ⟨fun m hm => ?_, rel_pair t h2 fun v u n m hn hm => h v u n m (List.mem_cons_of_mem _ hn) (List.mem_cons_of_mem _ hm)⟩
    have mem : ∀ {vs : List V} {rs : List (List Int)}, RelAll K F ι vs (rs.map tI) → ∀ m ∈ rs, ∃ u ∈ vs, Rel K F ι u (tI m) := by
      intro vs rs
      induction rs generalizing vs with
      | nil => intro _ m hm; simp at hm
      | cons r rs ih =>
        intro h m hm
        cases h with
        | cons a t =>
          rcases List.mem_cons.mp hm with e | hm
          · subst e; exact ⟨_, List.mem_cons_self, a⟩
          · obtain ⟨u, hu, z⟩ := ih t m hm
            exact ⟨u, List.mem_cons_of_mem _ hu, z⟩
    obtain ⟨u, hu, ru⟩ := mem t m hm
    exact h _ u r m List.mem_cons_self (List.mem_cons_of_mem _ hm) a ru (h1 u hu)
theorem cxl_sort : CallXL X (.builtin "sorted") sortD := by
  intro pins s σ H xs us Q I r h
  obtain ⟨F, ι, S, ds, a, sm, rd, ho, q⟩ := h
  unfold sortD at ho
  split at ho
  · obtain ⟨x, rfl, rx⟩ := rel1 rd
    split at ho
    · next ds h1 =>
      unfold srtL at ho
      split at ho
      · next rs h2 =>
        split at ho
        · next h3 =>
          cases ho
          obtain ⟨p, vs, rfl, e1, r1⟩ := at_lst sm rx h1
          rw [rows_rel r1 h2] at r1
          obtain ⟨h4, h5⟩ := Bool.and_eq_true_iff.mp h3
          have h4 := of_decide_eq_true h4
          have h5 : ∀ n ∈ rs, n.length = (rs.headD []).length ∧ 1 ≤ n.length := fun n hn => by
            have := List.all_eq_true.mp h5 n hn
            simpa using this
          obtain ⟨M, hM, hb⟩ := bounded rs
          have bd : ∀ n ∈ rs, TS.Bd (2 * M + 1) (sft M n) := fun n hn m hm => by
            obtain ⟨k, hk, rfl⟩ := List.mem_map.mp hm
            have := hb n hn k hk
            omega
          have tup : ∀ {v : V} {n : List Int}, Rel X.K F ι v (tI n) → TupI X.K H v n := fun rv => by
            obtain ⟨a, rfl, e⟩ := rel_tI rv
            exact ⟨a, rfl, SqT.of (sm.sub _ _ e)⟩
          refine cr_sortS pins s σ H _ us Q I r ⟨max 1 (rs.headD []).length, M, 2 * M + 1, p, vs, by omega, rfl, SqL.of e1, by have := RelAll.length r1; simp at this; omega, fun x hx => ?_, fun ys l hp hpw hl => ?_⟩
          · have mem : ∀ {vs : List V} {rs : List (List Int)}, RelAll X.K F ι vs (rs.map tI) → ∀ x ∈ vs, ∃ m ∈ rs, Rel X.K F ι x (tI m) := by
              intro vs rs
              induction rs generalizing vs with
              | nil => intro h x hx; cases h; simp at hx
              | cons r rs ih =>
                intro h x hx
                cases h with
                | cons a t =>
                  rcases List.mem_cons.mp hx with e | hx
                  · subst e; exact ⟨_, List.mem_cons_self, a⟩
                  · obtain ⟨u, hu, z⟩ := ih t x hx
                    exact ⟨u, List.mem_cons_of_mem _ hu, z⟩
            obtain ⟨n, hn, rn⟩ := mem r1 x hx
            have := h5 n hn
            exact ⟨n, tup rn, by omega, bd n hn⟩
          · obtain ⟨ss, pm, rr⟩ := rel_perm hp r1
            have hs : ss.Pairwise (fun a b => leR a b = true) := rel_pair rr hpw fun v u n m hn hm rv ru hle => by
              have hn' := pm.mem_iff.mp hn
              have hm' := pm.mem_iff.mp hm
              exact leR_code (by have := h5 n hn'; have := h5 m hm'; omega) (bd n hn') (bd m hm') (hle n m (tup rv) (tup ru))
            rw [srtR_eq pm hs] at rr
            obtain ⟨hf, hi⟩ := sm.fresh hl
            obtain ⟨x2, s2⟩ := sm.loose (o := .lst ys) hl
            exact q _ _ _ _ x2 s2 ⟨l, ys, rfl, hl, upd_same, hf, hi, rr⟩
        · cases ho
      · cases ho
    · cases ho
  · cases ho
variable {W : WX} {x : Str} {p pos : Pos} {e : Expr} {es : List Expr} {fa : SemA} {id T : String}
theorem xl_callB {op : List D → Store → Option (List D)} (hc : CallXL X (.builtin id) op) (hg : Gl X x) (hm : X.mg x = none) (hv : bootBuiltins x = some (.builtin id)) (ha : XA X W (e :: es) fa) (hn : x ≠ "__name__" := by decide) (hdb : (x == ("__debug__" : Str)) = false := by decide)
    (he : starEach (e :: es) X.env = (false, eval e X.env) :: starEach es X.env := by rfl) (hpl : (backTo pos (starEach es X.env)).any (·.1) = false := by rfl) : XL X W (.Call (.Name x p) (e :: es) [] pos) (eOps op fa) := peI (pe_callB hc hg hm hv ha hn hdb he hpl) fun _ _ _ h => tG_ops h
end
end Fk

set_option Elab.async false
set_option linter.all false
set_option maxRecDepth 100000
set_option maxHeartbeats 4000000
namespace Fk
open PySem PySem.Spec PyProof.Rows L2
/-! ### list(dict(pairs)): each first key once -/
def fsI : List (List Int) → List (List Int) → List (List Int)
  | acc, [] => acc
  | acc, k :: ks => fsI (if acc.any (fun x => decide (x = k)) then acc else acc ++ [k]) ks
def fsA : List (List Key × Addr) → List (List Key × Addr) → List (List Key × Addr)
  | acc, [] => acc
  | acc, k :: ks => fsA (if acc.any (fun x => decide (x.1 = k.1)) then acc else acc ++ [k]) ks
def kI (n : List Int) : List Key := n.map Sum.inl
theorem kI_inj : ∀ {n m : List Int}, kI n = kI m → n = m
  | [], [], _ => rfl
  | [], _ :: _, h => by simp [kI] at h
  | _ :: _, [], h => by simp [kI] at h
  | a :: n, b :: m, h => by
    simp only [kI, List.map_cons, List.cons.injEq, Sum.inl.injEq] at h
    rw [h.1, kI_inj h.2]
theorem kI_kV (n : List Int) : (kI n).map kV = n.map V.int := by
  unfold kI
  rw [List.map_map]
  rfl
theorem storedH_fst {xs : List (List Key × Addr × Value)} {k : List Key} {a : Addr} {v : Value} :
    (storedH xs k a v).map (fun x => (x.1, x.2.1)) = if (xs.map (fun x => (x.1, x.2.1))).any (fun x => decide (x.1 = k)) then xs.map (fun x => (x.1, x.2.1)) else xs.map (fun x => (x.1, x.2.1)) ++ [(k, a)] := by
  have e : (atKey xs k).isSome = (xs.map (fun x => (x.1, x.2.1))).any (fun x => decide (x.1 = k)) := by
    unfold atKey
    rw [Option.isSome_map, List.any_map]
    induction xs with
    | nil => rfl
    | cons x xs ih =>
      rw [List.find?_cons, List.any_cons]
      by_cases h : x.1 = k
      · simp [h]
      · simp only [h, decide_false]
        simpa [h] using ih
  unfold storedH
  rw [e]
  split
  · rw [List.map_map]
    refine List.map_congr_left fun x _ => ?_
    simp only [Function.comp, putAt]
    split <;> rfl
  · rw [List.map_append]; rfl
theorem storedAll_fst : ∀ (ps xs : List (List Key × Addr × Value)), (storedAllH xs ps).map (fun x => (x.1, x.2.1)) = fsA (xs.map fun x => (x.1, x.2.1)) (ps.map fun x => (x.1, x.2.1))
  | [], xs => rfl
  | p :: ps, xs => by
    show (storedAllH (storedH xs p.1 p.2.1 p.2.2) ps).map (fun x => (x.1, x.2.1)) = _
    rw [storedAll_fst ps, storedH_fst]
    rfl
theorem raw_of {h : Heap} : ∀ (ps : List (List Int × Addr × Addr)), (∀ p ∈ ps, ∃ u, IsTup h p.2.2 #[.ref p.2.1, u]) → ∃ qs : List ((List Int × Addr × Addr) × Value), qs.map (·.1) = ps ∧ ∀ q ∈ qs, IsTup h q.1.2.2 #[.ref q.1.2.1, q.2]
  | [], _ => ⟨[], rfl, fun q hq => by simp at hq⟩
  | p :: ps, hp => by
    obtain ⟨u, hu⟩ := hp p List.mem_cons_self
    obtain ⟨qs, e, hq⟩ := raw_of ps fun q hq => hp q (List.mem_cons_of_mem _ hq)
    refine ⟨(p, u) :: qs, by rw [List.map_cons, e], fun q h => ?_⟩
    rcases List.mem_cons.mp h with z | z
    · subst z; exact hu
    · exact hq q z
section
variable {X : Cx} {x : Str} {p p2 pos pos2 : Pos} {e : Expr} {t : TA}
def kLD (xs : List V) (H : Hp) (Q : VK) : Prop := ∃ (l : Addr) (ps : List (List Int × Addr × Addr)), xs = [V.ref l] ∧ H l = some (.lst (ps.map fun p => V.ref p.2.2)) ∧ (∀ p ∈ ps, (∃ v, H p.2.2 = some (.tup [.ref p.2.1, v])) ∧ H p.2.1 = some (.tup (p.1.map V.int))) ∧ ps.length ≤ 4000000 ∧
  ∀ q, H q = none → Q (.ref q) (upd H q (.lst ((fsA [] (ps.map fun p => (kI p.1, p.2.1))).map fun x => V.ref x.2)))
theorem pe_listDict (hc : X.calm = true) (hu : X.A.units + 64 < cLine) (hg : Gl X "list") (hm : X.mg "list" = none) (hg2 : Gl X "dict") (hm2 : X.mg "dict" = none) (ha : PA X [e] t)
    (he : starEach [e] X.env = (false, eval e X.env) :: starEach [] X.env := by rfl)
    (na : starEach [(.Call (.Name "dict" p2) [e] [] pos2)] X.env = (false, eval (.Call (.Name "dict" p2) [e] [] pos2) X.env) :: starEach [] X.env := by rfl) :
    PE X (.Call (.Name "list" p) [.Call (.Name "dict" p2) [e] [] pos2] [] pos) (tCB kLD t) := by
  refine ⟨fun pins s σ H Q I h => ?_⟩
  refine Call_ (ld_blt I hg hm PyProof.Rows.boot_list (PyProof.Rows.callWith_type1 (args_cons (thn (?_ : wpAny (model X.prog X.w) X.A (eval (.Call (.Name "dict" p2) [e] [] pos2) X.env) (fun v s1 => ∃ (d : Addr) (ks : List (List Key × Addr × Value)) (ps : List (List Int × Addr × Addr)) (H1 : Hp), v = .ref d ∧ (d == sysModules) = false ∧ s1.heap.DictOfH (tupleKind (mixKind X.prog X.w)) d ks ∧ ks.map (fun x => (x.1, x.2.1)) = fsA [] (ps.map fun p => (kI p.1, p.2.1)) ∧ ks.length ≤ 4000000 ∧ Inv X pins σ H1 s1 ∧ ∀ q, H1 q = none → Q (.ref q) (upd H1 q (.lst ((fsA [] (ps.map fun p => (kI p.1, p.2.1))).map fun x => V.ref x.2)))) X.xe s) fun v s1 ⟨d, ks, ps, H1, ev, hs, dd, ek, hz, I1, q⟩ => args_nil ?_) na) na))
  · refine Call_ (ld_blt I hg2 hm2 PyProof.Rows.boot_dict (PyProof.Rows.callWith_type1 (thn (ha.run pos2 pins s σ H _ I h) fun us s1 ⟨vs, H1, I1, r1, q1⟩ => ?_) he))
    obtain ⟨l, ps, rfl, hl, hp, hz, q⟩ := q1
    obtain ⟨u, rfl, ru⟩ := r1.one
    cases ru
    obtain ⟨_, its, c, rv, hL⟩ := (show ObjOk X.prog X.w H1 s1.heap l (.lst (ps.map fun p => V.ref p.2.2)) from I1.hok _ _ hl)
    obtain ⟨qs, eq, hq⟩ := raw_of (h := s1.heap) ps fun p hp' => by
      obtain ⟨⟨v, hv⟩, _⟩ := hp p hp'
      obtain ⟨_, its2, r2, ht⟩ := (show ObjOk X.prog X.w H1 s1.heap p.2.2 (.tup [.ref p.2.1, v]) from I1.hok _ _ hv)
      obtain ⟨u1, u2, e2, ra, rb⟩ := vals2 r2
      subst e2
      cases ra
      exact ⟨u2, ht⟩
    have eits : its = qs.map fun q => Value.ref q.1.2.2 := by
      have := rv
      rw [← eq, List.map_map] at this
      have all : ∀ {l : List ((List Int × Addr × Addr) × Value)} {us : List Value}, Vals (l.map ((fun p => V.ref p.2.2) ∘ fun x => x.1)) us → us = l.map fun q => Value.ref q.1.2.2 := by
        intro l
        induction l with
        | nil => intro us h; cases h; rfl
        | cons a l ih =>
          intro us h
          cases h with
          | cons r t =>
            cases r
            rw [List.map_cons, ← ih t]
      exact all this
    have key : ∀ q ∈ qs, (tupleKind (mixKind X.prog X.w)).is s1.heap (kI q.1.1) q.1.2.1 := fun q hq' => by
      have hm : q.1 ∈ ps := by rw [← eq]; exact List.mem_map.mpr ⟨q, hq', rfl⟩
      exact key_of I1.hok (by rw [kI_kV]; exact (hp _ hm).2)
    refine call_dict_pairsH (knd := tupleKind (mixKind X.prog X.w)) (ps := qs.map fun q => (kI q.1.1, q.1.2.1, q.2)) (PairArg.list l its.toArray (fun j => ((qs[j]?).map fun q => q.1.2.2).getD 0) (qs.map fun q => (Value.ref q.1.2.1, q.2))) (I1.ok.hd hc) (show X.A.units + 1 + 1 < cLine by omega) ⟨⟨_, c, hL, rfl, rfl, rfl⟩, ?_, ?_⟩ ⟨?_, ?_⟩ ?_ ?_ ?_
    · rw [eits]; simp
    · intro j k v hj
      rw [List.getElem?_map] at hj
      obtain ⟨q, hj2, ek⟩ := Option.map_eq_some_iff.mp hj
      cases ek
      refine ⟨?_, ?_⟩
      · rw [eits, List.getElem?_toArray, List.getElem?_map]
        simp only [hj2]
        rfl
      · simp only [hj2]
        obtain ⟨o, ho, hc', n, hd⟩ := hq q (List.mem_of_getElem? hj2)
        exact .inl ⟨o, ho, hc', n, hd⟩
    · simp
    · intro i key v hr
      have hr : (qs.map fun q => (Value.ref q.1.2.1, q.2))[i]? = some (key, v) := hr
      rw [List.getElem?_map] at hr
      obtain ⟨q, hj2, ek⟩ := Option.map_eq_some_iff.mp hr
      cases ek
      exact ⟨kI q.1.1, q.1.2.1, by rw [List.getElem?_map, hj2]; rfl, rfl⟩
    · intro h' hk x hx
      obtain ⟨q, hq', rfl⟩ := List.mem_map.mp hx
      obtain ⟨o, items, n, ho, hc', hd, hi⟩ := key q hq'
      exact ⟨o, items, n, hk _ o (Nat.ne_of_lt (Heap.lt_size ho)) (by simp) ho, hc', hd, hi⟩
    · rw [List.length_map, sizeLine_eq]
      have : qs.length = ps.length := by rw [← eq, List.length_map]
      omega
    · intro h' tk dd hk
      refine ⟨_, _, ps, H1, rfl, beq_eq_false_iff_ne.mpr (Nat.ne_of_gt I1.big), dd, ?_, ?_, I1.kept (t' := tk) (fun b o e => hk b o (by simp) e), q⟩
      · rw [storedAll_fst, ← eq, List.map_map, List.map_map]
        rfl
      · have := storedAllH_length (qs.map fun q => (kI q.1.1, q.1.2.1, q.2)) []
        rw [List.length_map] at this
        have e2 : qs.length = ps.length := by rw [← eq, List.length_map]
        simp only [List.length_nil] at this
        omega
  · subst ev
    obtain ⟨o, es, ep, ho, hx, hdt, hen, his, hn⟩ := dd
    have l1 : es.size = ks.length := size_of_entries hen
    refine PySem.W.kdl_call (kdl_raw hs hx hdt) (I1.ok.hd hc) ho (by rw [sizeLine_eq]; omega) fun h' tk acc' c' kp e' it => ?_
    have ea : acc'.toList = ks.map fun x => Value.ref x.2.1 := by
      have hl : acc'.toList.length = ks.length := by rw [Array.length_toList, it.1]; exact l1
      apply List.ext_getElem?
      intro j
      rw [List.getElem?_map]
      cases hj : acc'.toList[j]? with
      | none =>
        have h1 := List.getElem?_eq_none_iff.mp hj
        rw [List.getElem?_eq_none (by omega)]
        all_goals rfl
      | some v =>
        obtain ⟨en, hen', hv⟩ := it.2 j v (by rw [← Array.getElem?_toList]; exact hj)
        have qe := entry_at hen j
        rw [hen'] at qe
        cases hb : ks[j]? with
        | none =>
          rw [hb] at qe
          exact nomatch (show some en = none from qe)
        | some b =>
          rw [hb] at qe
          have e2 : en = entryOfKey (tupleKind (mixKind X.prog X.w)) b := Option.some.inj qe
          rw [hv, e2]
          all_goals rfl
    have eb : acc'.toList = ((fsA [] (ps.map fun p => (kI p.1, p.2.1))).map fun x => x.2).map Value.ref := by
      rw [ea, ← ek, List.map_map, List.map_map]
      rfl
    have rv : Vals ((fsA [] (ps.map fun p => (kI p.1, p.2.1))).map fun x => V.ref x.2) acc'.toList := by
      rw [eb, List.map_map]
      have := vals_refs ((fsA [] (ps.map fun p => (kI p.1, p.2.1))).map fun x => x.2)
      rw [List.map_map, List.map_map] at this
      exact this
    have hz2 : ((fsA [] (ps.map fun p => (kI p.1, p.2.1))).map fun x => V.ref x.2).length ≤ sizeLine := by
      rw [List.length_map, ← ek, List.length_map, sizeLine_eq]
      omega
    refine ⟨.ref s1.heap.objs.size, _, I1.laid (t' := tk) (o := .lst ((fsA [] (ps.map fun p => (kI p.1, p.2.1))).map fun x => V.ref x.2)) kp (Nat.le_refl _) ?_, rfl, q _ (I1.hok.fresh (Nat.le_refl _))⟩
    exact ⟨hz2, acc'.toList, c', rv, by rw [Array.toArray_toList]; exact e'⟩
/-! ### in the own layer -/
def pairI : D → Option (List Int)
  | .tup [k, _] => rowI k
  | _ => none
def pairsI : List D → Option (List (List Int))
  | [] => some []
  | d :: ds => match pairI d, pairsI ds with
    | some r, some rs => some (r :: rs)
    | _, _ => none
def dkL (ds : List D) : Option (List D) := match pairsI ds with
  | some rs => if decide (rs.length ≤ 4000000) then some ((fsI [] rs).map tI) else none
  | none => none
def dkD : List D → Store → Option (List D)
  | [d], S => match dr S d with
    | .lst ds => dkL ds
    | _ => none
  | _, _ => none
variable {K : PySem.W.Frag} {F : Hp} {ι : List Addr} {W : WX} {fa : SemA}
theorem pairs_rel : ∀ {vs : List V} {ds : List D} {rs : List (List Int)}, RelAll K F ι vs ds → pairsI ds = some rs → ∃ ps : List (List Int × Addr × Addr), ps.map (·.1) = rs ∧ vs = (ps.map fun p => V.ref p.2.2) ∧ ∀ p ∈ ps, (∃ v, F p.2.2 = some (.tup [.ref p.2.1, v])) ∧ F p.2.1 = some (.tup (p.1.map V.int)) ∧ Rel K F ι (.ref p.2.1) (tI p.1)
  | _, _, rs, .nil, h => by
    cases (show some [] = some rs from h)
    exact ⟨[], rfl, rfl, fun p hp => by simp at hp⟩
  | _, _, rs, .cons (d := d) (ds := ds) r t, h => by
    unfold pairsI at h
    split at h
    · next r1 rs1 h1 h2 =>
      cases h
      obtain ⟨ps, e1, e2, h3⟩ := pairs_rel t h2
      unfold pairI at h1
      split at h1
      · next k v =>
        cases r with
        | tup ef rr =>
          obtain ⟨x, y, rfl, rk, rv⟩ := rel2 rr
          obtain ⟨ek, a, ea, fa⟩ := rel_row rk h1
          subst ea
          subst ek
          refine ⟨(r1, a, _) :: ps, by rw [List.map_cons, e1], by rw [List.map_cons, e2], fun p hp => ?_⟩
          rcases List.mem_cons.mp hp with z | z
          · subst z; exact ⟨⟨_, ef⟩, fa, rk⟩
          · exact h3 p z
      · cases h1
    · cases h
theorem firsts_rel : ∀ (ps : List (List Int × Addr × Addr)) (acc : List (List Key × Addr)) (ai : List (List Int)), acc.map (·.1) = ai.map kI → RelAll K F ι (acc.map fun x => V.ref x.2) (ai.map tI) → (∀ p ∈ ps, Rel K F ι (V.ref p.2.1) (tI p.1)) →
    RelAll K F ι ((fsA acc (ps.map fun p => (kI p.1, p.2.1))).map fun x => V.ref x.2) ((fsI ai (ps.map (·.1))).map tI)
  | [], acc, ai, _, h, _ => h
  | p :: ps, acc, ai, hk, h, hp => by
    rw [List.map_cons, List.map_cons]
    unfold fsA fsI
    have e : acc.any (fun x => decide (x.1 = kI p.1)) = ai.any (fun x => decide (x = p.1)) := by
      have h1 : acc.any (fun x => decide (x.1 = kI p.1)) = (acc.map (·.1)).any (fun x => decide (x = kI p.1)) := by rw [List.any_map]; rfl
      rw [h1, hk, List.any_map]
      congr 1
      funext x
      exact decide_eq_decide.mpr ⟨fun z => kI_inj z, fun z => by rw [z]⟩
    show RelAll K F ι ((fsA (if acc.any (fun x => decide (x.1 = kI p.1)) then acc else acc ++ [(kI p.1, p.2.1)]) (ps.map fun p => (kI p.1, p.2.1))).map fun x => V.ref x.2) _
    rw [e]
    split
    · exact firsts_rel ps acc ai hk h fun q hq => hp q (List.mem_cons_of_mem _ hq)
    · refine firsts_rel ps _ _ ?_ ?_ fun q hq => hp q (List.mem_cons_of_mem _ hq)
      · rw [List.map_append, List.map_append, hk]; rfl
      · rw [List.map_append, List.map_append]
        exact h.append (.cons (hp p List.mem_cons_self) .nil)
theorem xl_listDict (hc : X.calm = true) (hu : X.A.units + 64 < cLine) (hg : Gl X "list") (hm : X.mg "list" = none) (hg2 : Gl X "dict") (hm2 : X.mg "dict" = none) (ha : XA X W [e] fa)
    (he : starEach [e] X.env = (false, eval e X.env) :: starEach [] X.env := by rfl)
    (na : starEach [(.Call (.Name "dict" p2) [e] [] pos2)] X.env = (false, eval (.Call (.Name "dict" p2) [e] [] pos2) X.env) :: starEach [] X.env := by rfl) :
    XL X W (.Call (.Name "list" p) [.Call (.Name "dict" p2) [e] [] pos2] [] pos) (eOps dkD fa) := by
  refine peI (pe_listDict hc hu hg hm hg2 hm2 ha he na) fun σ H Q h => ?_
  have h : tCB (rCall X.K X.mg (RL' X.K) dkD) (tA ⟨X.K, X.mg, W⟩ fa) σ H Q := tG_ops h
  obtain ⟨F, ι, ρ, S, s, r, q⟩ := h
  refine ⟨F, ι, ρ, S, s, r, ?_⟩
  cases hf : fa ρ S with
  | stuck => rw [hf] at q; exact q.elim
  | exc c fs S1 => rw [hf] at q; exact q
  | ok ds S1 =>
    rw [hf] at q
    intro F1 ι1 vs H1 x1 s1 rv
    obtain ⟨F2, ι2, S2, ds, a, sm, rd, ho, q2⟩ := q F1 ι1 vs H1 x1 s1 rv
    unfold dkD at ho
    split at ho
    · obtain ⟨x, rfl, rx⟩ := rel1 rd
      split at ho
      · next ds h1 =>
        unfold dkL at ho
        split at ho
        · next rs h2 =>
          split at ho
          · next h3 =>
            cases ho
            obtain ⟨l, vs, rfl, e1, r1⟩ := at_lst sm rx h1
            obtain ⟨ps, e2, rfl, hp⟩ := pairs_rel r1 h2
            have h3 := of_decide_eq_true h3
            refine ⟨l, ps, rfl, e1, fun p hp' => ?_, by rw [← e2, List.length_map] at h3; exact h3, fun l2 hl => ?_⟩
            · obtain ⟨⟨v, hv⟩, hk, _⟩ := hp p hp'
              exact ⟨⟨v, sm.sub _ _ hv⟩, sm.sub _ _ hk⟩
            · obtain ⟨hf, hi⟩ := sm.fresh hl
              obtain ⟨x2, s2⟩ := sm.loose (o := .lst ((fsA [] (ps.map fun p => (kI p.1, p.2.1))).map fun x => V.ref x.2)) hl
              refine q2 _ _ _ _ x2 s2 ⟨l2, _, rfl, hl, upd_same, hf, hi, ?_⟩
              rw [← e2]
              exact firsts_rel ps [] [] rfl .nil fun p hp' => (hp p hp').2.2
          · cases ho
        · cases ho
      · cases ho
    · cases ho
end
end Fk

set_option Elab.async false
set_option linter.all false
set_option maxRecDepth 100000
set_option maxHeartbeats 4000000
namespace Fk
open PySem PySem.Spec PyProof.Rows L2
/-! ### a, b, c = a list -/
def gU (gs : List SemG) : SemG := fun d ρ S => match d with
  | .lst ds => if ds.length = gs.length then (gs.zip ds).foldl (fun o q => o.bind fun ρ' => q.1 q.2 ρ' S) (some ρ) else none
  | _ => none
@[simp] theorem gU_lst {gs : List SemG} {ds : List D} {ρ : Env} {S : Store} : gU gs (.lst ds) ρ S = gT gs (.tup ds) ρ S := rfl
section
variable {X : Cx} {pos : Pos}
theorem gd_unl {ts : List Expr} {gs : List SemG} {k : Nat} {vs' : List Nat} (hc : X.calm = true) (h : PGDs X ts gs vs') (hn : (assignEach ts X.env).length = gs.length := by rfl) (hst : (assignEach ts X.env).findIdx? (·.1) = none := by rfl) : PGD X (.Tuple ts k pos) (gU gs) vs' := by
  refine pgI (pg_unl hc h hn hst) fun v σ H Q ⟨F, ι, ρ, S, d, ρ', s, r, rv, hg, q⟩ => ?_
  unfold gU at hg
  split at hg
  · next ds =>
    split at hg
    · next hl =>
      obtain ⟨a, vs, rfl, e1, r1⟩ := at_lst s rv (show dr S (.lst ds) = .lst ds from rfl)
      exact ⟨a, vs, rfl, SqL.of e1, by rw [r1.length]; exact hl, F, ι, ρ, S, ds, ρ', s, r, r1, hl, hg, q⟩
    · cases hg
  · cases hg
end
end Fk

set_option Elab.async false
set_option linter.all false
set_option maxRecDepth 100000
set_option maxHeartbeats 1000000
namespace Fk
open PySem PySem.Spec PyProof.Rows L2
/-! ### sorted of tuples of ints, any number of them -/
theorem leR_lt : ∀ x y : List Int, leR x y = !decide (y < x)
  | [], y => by
    have : ¬ y < [] := List.not_lt_nil y
    simp [leR]
  | a :: x, [] => by simp [leR]
  | a :: x, b :: y => by
    rw [leR, leR_lt x y]
    by_cases h : a < b
    · have h2 : ¬ (b < a ∨ b = a ∧ y < x) := by omega
      simp [h, List.cons_lt_cons_iff, h2]
    · by_cases h3 : a = b
      · subst h3
        simp [List.cons_lt_cons_iff]
      · have h4 : b < a := by omega
        simp [h, h3, List.cons_lt_cons_iff, h4]
theorem dataLe_tups {β : Type} (k : β → List Int) : PySem.W.dataLe false (fun b => PyData.tuple ((k b).map .int)) = fun p q => leR (k p) (k q) := by
  funext p q
  show (!PySem.W.dataLt (.tuple ((k q).map .int)) (.tuple ((k p).map .int))) = _
  rw [PySem.W.dataLt_tuple]
  show (!PySem.W.rowLt ((k q).map .int) ((k p).map .int)) = _
  rw [PySem.W.dataLt_ints, leR_lt]
def sortA : List D → Store → Option (List D)
  | [d], S => match dr S d with
    | .lst ds => (match rowsI ds with
      | some rs => if decide (rs.length ≤ 4000000) && rs.all (fun r => !r.isEmpty) then some ((srtR rs).map tI) else none
      | none => none)
    | _ => none
  | _, _ => none
theorem alike_ints : ∀ x y : List Int, PySem.W.alikeAll (x.map PyData.int) (y.map .int) = true
  | [], _ => by simp [PySem.W.alikeAll]
  | _ :: _, [] => by simp [PySem.W.alikeAll]
  | a :: x, b :: y => by simp [PySem.W.alikeAll, PySem.W.alike, alike_ints x y]
theorem dat_tI (r : List Int) : dat (tI r) = some (.tuple (r.map .int)) := by simp [dat, datIs]
section
variable {X : Cx}
/-- a value, what it stands for, the row that it is -/
def Row3 (K : PySem.W.Frag) (F : Hp) (ι : List Addr) (u : Value) (b : V × List Int) : Prop := RelV b.1 u ∧ Rel K F ι b.1 (tI b.2)
theorem each_row {K : PySem.W.Frag} {F : Hp} {ι : List Addr} : ∀ {vs : List V} {rs : List (List Int)} {us : List Value}, RelAll K F ι vs (rs.map tI) → Vals vs us → PySem.W.EachIs (Row3 K F ι) us (vs.zip rs)
  | _, [], _, .nil, .nil => .nil
  | _, r :: rs, _, .cons a t, .cons b q => .cons ⟨b, a⟩ (each_row t q)
theorem row_each {K : PySem.W.Frag} {F : Hp} {ι : List Addr} : ∀ {us : List Value} {bs : List (V × List Int)}, PySem.W.EachIs (Row3 K F ι) us bs → Vals (bs.map (·.1)) us ∧ RelAll K F ι (bs.map (·.1)) ((bs.map (·.2)).map tI)
  | _, _, .nil => ⟨.nil, .nil⟩
  | _, _, .cons a t => ⟨.cons a.1 (row_each t).1, .cons a.2 (row_each t).2⟩
theorem each_mono {α β : Type} {R T : α → β → Prop} (h : ∀ a b, R a b → T a b) : ∀ {as : List α} {bs : List β}, PySem.W.EachIs R as bs → PySem.W.EachIs T as bs
  | _, _, .nil => .nil
  | _, _, .cons a t => .cons (h _ _ a) (each_mono h t)
theorem cxl_sortA (hu : X.A.units + 64 < cLine) : CallXL X (.builtin "sorted") sortA := by
  intro pins s σ H xs us Q I r h
  obtain ⟨F, ι, S, ds, a, sm, rd, ho, q⟩ := h
  unfold sortA at ho
  split at ho
  · obtain ⟨x, rfl, rx⟩ := rel1 rd
    split at ho
    · next ds h1 =>
      split at ho
      · next rs h2 =>
        split at ho
        · next h3 =>
          cases ho
          obtain ⟨h4, h5⟩ := Bool.and_eq_true_iff.mp h3
          have h4 := of_decide_eq_true h4
          obtain ⟨p, vs, rfl, e1, r1⟩ := at_lst sm rx h1
          rw [rows_rel r1 h2] at r1
          obtain ⟨its, rv, hl, hz⟩ := I.list (SqL.of e1)
          rw [Vals.ref1 r]
          have hlen : vs.length = rs.length := by simpa using r1.length
          have ez := each_row r1 rv
          have hne : ∀ r ∈ rs, ∃ i t, r = i :: t := fun r hr => by
            have := List.all_eq_true.mp h5 r hr
            cases r with
            | nil => simp at this
            | cons i t => exact ⟨i, t, rfl⟩
          have mem2 : ∀ b ∈ vs.zip rs, b.2 ∈ rs := fun b hb => (List.of_mem_zip (show (b.1, b.2) ∈ vs.zip rs from hb)).2
          refine PySem.W.sorted_data (R := Row3 X.K F ι) (enc := fun b : V × List Int => PyData.tuple (b.2.map .int)) (vs := its) (bs := vs.zip rs) hl.isList ez (each_mono (fun u b hb => ?_) ez) (fun d hd d' hd' => ?_) (.inl fun d hd => ?_) (by rw [List.length_zip, hlen, Nat.min_self]; exact Nat.le_trans h4 (by decide)) (fun b hb => ?_) fun out ho he => ?_
          · obtain ⟨as, z, _⟩ := reads_of I sm.sub hb.2 hb.1 (dat_tI b.2)
            exact ⟨as, z⟩
          · obtain ⟨b, _, rfl⟩ := List.mem_map.mp hd
            obtain ⟨b', _, rfl⟩ := List.mem_map.mp hd'
            simp only [PySem.W.alike]
            exact alike_ints _ _
          · obtain ⟨b, hb, rfl⟩ := List.mem_map.mp hd
            obtain ⟨i, t, e⟩ := hne _ (mem2 b hb)
            exact ⟨.int i, t.map .int, by simp [e]⟩
          · have : (PyData.tuple (b.2.map PyData.int)).depth ≤ 1 := by
              simp [PyData.depth, depIs]
            omega
          · rw [dataLe_tups] at he
            obtain ⟨k1, k2⟩ := row_each he
            have pm : (((vs.zip rs).mergeSort fun p q => leR p.2 q.2).map (·.2)).Perm rs := by
              have := (List.mergeSort_perm (vs.zip rs) fun p q => leR p.2 q.2).map (·.2)
              rwa [List.map_snd_zip (by omega)] at this
            have ps : (((vs.zip rs).mergeSort fun p q => leR p.2 q.2).map (·.2)).Pairwise (fun a b => leR a b = true) := by
              rw [List.pairwise_map]
              exact List.pairwise_mergeSort (le := fun p q : V × List Int => leR p.2 q.2) (fun a b c => leR_trans a.2 b.2 c.2) (fun a b => leR_total a.2 b.2) _
            rw [srtR_eq pm ps] at k2
            obtain ⟨ep, he'⟩ := PyProof.Rows.sortedAll_at s.heap its out.toArray
            have hp : H (s.heap.objs.size + 1) = none := I.hok.fresh (Nat.le_succ _)
            have hk : (((vs.zip rs).mergeSort fun p q => leR p.2 q.2).map (·.1)).length ≤ sizeLine := by
              rw [List.length_map, List.length_mergeSort, List.length_zip, hlen, Nat.min_self]
              exact Nat.le_trans h4 (by decide)
            obtain ⟨hf, hi⟩ := sm.fresh hp
            obtain ⟨x2, s2⟩ := sm.loose (o := .lst (((vs.zip rs).mergeSort fun p q => leR p.2 q.2).map (·.1))) hp
            exact ⟨.ref _, upd H (s.heap.objs.size + 1) (.lst (((vs.zip rs).mergeSort fun p q => leR p.2 q.2).map (·.1))), I.laid (t' := s.toks) (fun _ _ => PyProof.Rows.sortedAll_old) (Nat.le_succ _) ⟨hk, out, ep, k1, he'⟩, rfl, q _ _ _ _ x2 s2 ⟨_, _, rfl, hp, upd_same, hf, hi, k2⟩⟩
        · cases ho
      · cases ho
    · cases ho
  · cases ho
end
theorem rowsI_tI : ∀ rs : List (List Int), rowsI (rs.map tI) = some rs
  | [] => rfl
  | r :: rs => by
    have : rowI (tI r) = some r := by
      show asInts (r.map D.int) = some r
      exact asInts_map r
    rw [List.map_cons, rowsI, this, rowsI_tI rs]
theorem sortA_rows {S : Store} {rs : List (List Int)} (hl : rs.length ≤ 4000000) (hn : ∀ r ∈ rs, r ≠ []) : sortA [.lst (rs.map tI)] S = some ((srtR rs).map tI) := by
  show (match rowsI (rs.map tI) with | some rs => _ | none => none) = _
  rw [rowsI_tI]
  have : rs.all (fun r => !r.isEmpty) = true := List.all_eq_true.mpr fun r hr => by
    have := hn r hr
    cases r with
    | nil => exact absurd rfl this
    | cons i t => rfl
  simp [hl, this]
end Fk

set_option Elab.async false
set_option linter.all false
set_option maxRecDepth 100000
namespace Fk
open PySem PySem.Spec PyProof.Rows L2
/-! ### a list is no text, whatever is in it -/
def opEqL : D → D → Store → Option D := fun d e S => match dr S d, e with
  | .lst _, .str _ => some (.bl false)
  | _, _ => none
theorem ox_eqL {X : Cx} (hu : X.A.units + 64 < cLine) : OpX X (compareOp .Eq) opEqL := by
  intro pins s σ H x y v u Q I rx ry h
  obtain ⟨F, ι, S, d, e, a, sm, rd, re, ho, q⟩ := h
  unfold opEqL at ho
  split at ho
  · next xs z h1 =>
    cases ho
    obtain ⟨p, vs, rfl, e1, r1⟩ := at_lst sm rd h1
    cases rel_str re
    obtain ⟨t, rfl⟩ : ∃ t, u = .str z t := ry
    obtain rfl : v = Value.ref p := rx
    obtain ⟨its, rv, hl, hz⟩ := I.list (SqL.of e1)
    exact PySem.SeqAt.RcAt.list_str z t hl.isList (by omega) _ _ _ _ ⟨.bl false, H, I, rfl, q F ι _ H (Step.refl _ _ _) sm (.bl _)⟩
  · cases ho
def opEqB := orO opEqL opEqA
theorem ox_eqB {X : Cx} (hu : X.A.units + 64 < cLine) : OpX X (compareOp .Eq) opEqB := ox_or (ox_eqL hu) (ox_eqA hu)
theorem eqB_A {d e : D} {S : Store} (h : opEqL d e S = none) : opEqB d e S = opEqA d e S := by unfold opEqB orO; rw [h]
end Fk

set_option Elab.async false
set_option linter.all false
set_option maxRecDepth 100000
namespace Fk
open PySem PySem.Spec PyProof.Rows L2
/-! ### [0] * n as a live list -/
def opMulL : D → D → Store → Option (List D) := fun d e _ => match d, e with
  | .lst xs, .int k => if decide (0 ≤ k ∧ k ≤ 100 ∧ xs.length ≤ 1000) then some (List.replicate k.toNat xs).flatten else none
  | _, _ => none
theorem oxl_mul {X : Cx} : OpXL X (binaryOp .Mult) opMulL := by
  intro pins s σ H x y v u Q I rx ry h
  obtain ⟨F, ι, S, d, e, a, sm, rd, re, ho, q⟩ := h
  unfold opMulL at ho
  split at ho
  · next xs k =>
    split at ho
    · next hz =>
      cases ho
      obtain ⟨h1, h2, h3⟩ := of_decide_eq_true hz
      cases rel_int re
      obtain ⟨p1, vs, rfl, e1, r1⟩ := at_lst sm rd (show dr S (.lst xs) = .lst xs from rfl)
      refine op_rep pins s σ H _ _ v u Q I rx ry ⟨p1, k, vs, rfl, rfl, e1, by omega, by omega, ?_, fun p hp => ?_⟩
      · have h4 : k.toNat ≤ 100 := by omega
        have h5 : xs.length * k.toNat ≤ 1000 * 100 := Nat.mul_le_mul h3 h4
        rw [r1.length]
        have h6 : (100000 : Nat) < sizeLine := by decide
        omega
      · obtain ⟨hf, hi⟩ := sm.fresh hp
        exact q _ _ _ _ (sm.loose hp).1 (sm.loose hp).2 ⟨p, _, rfl, hp, upd_same, hf, hi, rel_rep r1 _⟩
    · cases ho
  · cases ho
@[simp] theorem ex_mulL {xs : List D} {k : Int} {S : Store} {P : List D → Prop} : (∃ a, opMulL (.lst xs) (.int k) S = some a ∧ P a) = ((0 ≤ k ∧ k ≤ 100 ∧ xs.length ≤ 1000) ∧ P (List.replicate k.toNat xs).flatten) := by
  unfold opMulL
  by_cases h : 0 ≤ k ∧ k ≤ 100 ∧ xs.length ≤ 1000 <;> simp [h]
/-! ### o[i], p[j] = e, f: lists -/
def gSetC (fo fi : SemE) (y : D) (k : Store → OutS) : SemS := fun ρ S => toS (fo ρ S) ρ fun x S2 => toS (fi ρ S2) ρ fun i S3 => match setC x i y S3 with
  | some S4 => k S4
  | none => .stuck
def sSet2 (fo fi fo' fi' fe : SemE) : SemS := fun ρ S => toS (fe ρ S) ρ fun d S1 => match d with
  | .tup [y, z] => gSetC fo fi y (fun S2 => gSetC fo' fi' z (fun S3 => .nx ρ S3) ρ S2) ρ S1
  | _ => .stuck
section
variable {X : Cx} {W : WX} {o i o' i' e : Expr} {fo fi fo' fi' fe : SemE} {pos pos' pos2 pt : Pos} {kt : Nat}
/-- a store into a list at the model: what the target's rule asks -/
theorem gsub_of {p : Pl} {Dn : Ends} {σ : L2.St} {H : Hp} {F : Hp} {ι : List Addr} {ρ : Env} {S : Store} {v : V} {y : D} {k : Store → OutS} {Q : L2.St → Hp → Prop}
    (s : Sim p.K p.mg F ι S H) (r : REnv p.K F ι σ ρ) (rv : Rel p.K F ι v y) (q : PostS p F ι H (gSetC fo fi y k ρ S) Dn)
    (hQ : ∀ F' ι' H' S', Step F ι H F' ι' H' → Sim p.K p.mg F' ι' S' H' → PostS p F' ι' H' (k S') Dn → Q σ H') : gSub (tE p fo) (tE p fi) rSetL v σ H Q := by
  refine ⟨F, ι, ρ, S, s, r, post_toS r q fun x S2 F2 ι2 u H2 x2 s2 ru q2 => ?_⟩
  refine ⟨F2, ι2, ρ, S2, s2, r.mono x2, post_toS (r.mono x2) q2 fun k S3 F3 ι3 w H3 x3 s3 rw' q3 => ?_⟩
  cases hz : setC x k y S3 with
  | none => rw [hz] at q3; exact q3.elim
  | some S4 =>
    rw [hz] at q3
    unfold setC at hz
    split at hz
    · next n xs k' hc =>
      have hcl : closed n y = true := by
        cases hq : closed n y with
        | true => rfl
        | false => rw [hq] at hz; cases hz
      rw [hcl, if_pos rfl] at hz
      obtain ⟨j, hj, rfl⟩ := Option.map_eq_some_iff.mp hz
      obtain ⟨rfl, hc2⟩ := cellAt_eq hc
      obtain ⟨a, rfl, ha'⟩ := rel_ref (Rel.mono x3 ru)
      cases rel_int rw'
      obtain ⟨vs, g1, g2, g3⟩ := s3.cell n a _ ha' hc2
      refine ⟨a, vs, k', j, rfl, rfl, g1, by rw [g2.length]; exact hj, ?_⟩
      obtain ⟨x4, s4⟩ := s3.write (c := .lst true (xs.set j y)) (o := .lst (vs.set j v)) ha' g3 ⟨_, upd_same, g2.set (Rel.mono (x2.trans x3) rv) j, g3⟩ (by
        have := s3.cl n _ hc2
        simp only [closedC] at this ⊢
        refine closedA_mem.mpr fun z hz => ?_
        rcases List.mem_or_eq_of_mem_set hz with hz | rfl
        · exact closedA_mem.mp this z hz
        · exact hcl)
      exact hQ F3 ι3 _ _ ((x2.trans x3).trans x4) s4 (PostS.ext x4 q3)
    · cases hz
theorem xs_set2 (hc : X.calm = true) (ho : XE X W o fo) (hi : XE X W i fi) (ho' : XE X W o' fo') (hi' : XE X W i' fi') (he : XE X W e fe)
    (ha : ∀ v, assign (.Subscript o i pos') X.env v = (do
      let ov ← holding [v] (eval o X.env)
      let iv ← holding [v, ov] (eval i X.env)
      standAt pos'
      holding [v, ov, iv] (setItem ov iv v)
      release [v, ov, iv] []))
    (ha' : ∀ v, assign (.Subscript o' i' pos2) X.env v = (do
      let ov ← holding [v] (eval o' X.env)
      let iv ← holding [v, ov] (eval i' X.env)
      standAt pos2
      holding [v, ov, iv] (setItem ov iv v)
      release [v, ov, iv] []))
    (hs : swapsWithSole [.Tuple [.Subscript o i pos', .Subscript o' i' pos2] kt pt] e pos.line X.env = pure false := by rfl) (hw : swappedStores [.Tuple [.Subscript o i pos', .Subscript o' i' pos2] kt pt] e X.env = pure none := by rfl)
    (hl : (assignEach [.Subscript o i pos', .Subscript o' i' pos2] X.env).length = 2 := by rfl)
    (hst : (assignEach [.Subscript o i pos', .Subscript o' i' pos2] X.env).findIdx? (·.1) = none := by rfl)
    (g1 : (assignEach [.Subscript o i pos', .Subscript o' i' pos2] X.env).map (·.2) = assign (.Subscript o i pos') X.env :: (assignEach [.Subscript o' i' pos2] X.env).map (·.2) := by rfl)
    (g2 : (assignEach [.Subscript o' i' pos2] X.env).map (·.2) = assign (.Subscript o' i' pos2) X.env :: (assignEach [] X.env).map (·.2) := by rfl)
    (h1 : (assignEach [.Tuple [.Subscript o i pos', .Subscript o' i' pos2] kt pt] X.env).map (·.2) = [assign (.Tuple [.Subscript o i pos', .Subscript o' i' pos2] kt pt) X.env] := by rfl) :
    XS X W (.Assign [.Tuple [.Subscript o i pos', .Subscript o' i' pos2] kt pt] e pos) (sSet2 fo fi fo' fi' fe) := by
  refine psI (ps_asg he (pg_tup hc (pgs_cons (pg_sub ho hi set_list ha) (pgs_cons (pg_sub ho' hi' set_list ha') pgs_nil g2) g1) hl hst) hs hw h1) fun Dn σ H hh => ?_
  obtain ⟨F, ι, ρ, S, s, r, q⟩ := hh
  refine ⟨F, ι, ρ, S, s, r, post_toS r q fun d S1 F1 ι1 v H1 x1 s1 rv q1 => ?_⟩
  match d, rv, q1 with
  | .tup [y, z], rv, q1 =>
    obtain ⟨a, vs, rfl, e1, _, r1, _⟩ := at_tup s1 rv (show dr S1 (.tup [y, z]) = .tup [y, z] from rfl)
    refine ⟨a, vs, rfl, SqT.of e1, by rw [r1.length]; rfl, ?_⟩
    cases r1 with
    | @cons v1 vr _ _ rv1 rr =>
      cases rr with
      | @cons v2 vr2 _ _ rv2 rr2 =>
        cases rr2
        refine ⟨v1, [v2], rfl, gsub_of s1 (r.mono x1) rv1 q1 fun F2 ι2 H2 S2 x2 s2 q2 => ?_⟩
        refine ⟨v2, [], rfl, gsub_of s2 ((r.mono x1).mono x2) (Rel.mono x2 rv2) q2 fun F3 ι3 H3 S3 x3 s3 q3 => ?_⟩
        exact ⟨rfl, q3 F3 ι3 σ H3 (Step.refl _ _ _) s3 (((r.mono x1).mono x2).mono x3)⟩
end
section
variable {ρ : Env} {S : Store} {k : KS}
def kT2 (fo fi fo' fi' : SemE) (ρ : Env) (k : KS) (d : D) (S : Store) : Prop := ∃ y z, d = .tup [y, z] ∧ (fo ρ S).wp (fun x S2 => (fi ρ S2).wp (fun i S3 => ∃ S4, setC x i y S3 = some S4 ∧
  (fo' ρ S4).wp (fun x S5 => (fi' ρ S5).wp (fun i S6 => ∃ S7, setC x i z S6 = some S7 ∧ k.nx ρ S7) (kEx k ρ)) (kEx k ρ)) (kEx k ρ)) (kEx k ρ)
def kT21 (fi fo' fi' : SemE) (ρ : Env) (k : KS) (y z x : D) (S : Store) : Prop := (fi ρ S).wp (fun i S3 => ∃ S4, setC x i y S3 = some S4 ∧
  (fo' ρ S4).wp (fun x S5 => (fi' ρ S5).wp (fun i S6 => ∃ S7, setC x i z S6 = some S7 ∧ k.nx ρ S7) (kEx k ρ)) (kEx k ρ)) (kEx k ρ)
def kT22 (fo' fi' : SemE) (ρ : Env) (k : KS) (y z x i : D) (S : Store) : Prop := ∃ S4, setC x i y S = some S4 ∧
  (fo' ρ S4).wp (fun x S5 => (fi' ρ S5).wp (fun i S6 => ∃ S7, setC x i z S6 = some S7 ∧ k.nx ρ S7) (kEx k ρ)) (kEx k ρ)
def kT23 (fi' : SemE) (ρ : Env) (k : KS) (z x : D) (S : Store) : Prop := (fi' ρ S).wp (fun i S6 => ∃ S7, setC x i z S6 = some S7 ∧ k.nx ρ S7) (kEx k ρ)
@[simp] theorem kT2_eq (fo fi fo' fi' : SemE) (y z : D) : kT2 fo fi fo' fi' ρ k (.tup [y, z]) S = (fo ρ S).wp (kT21 fi fo' fi' ρ k y z) (kEx k ρ) := by
  apply propext
  constructor
  · rintro ⟨y, z, e, h⟩; cases e; exact h
  · intro h; exact ⟨y, z, rfl, h⟩
@[simp] theorem kT21_eq (fi fo' fi' : SemE) (y z x : D) : kT21 fi fo' fi' ρ k y z x S = (fi ρ S).wp (kT22 fo' fi' ρ k y z x) (kEx k ρ) := rfl
@[simp] theorem kT22_eq (fo' fi' : SemE) (y z x i : D) : kT22 fo' fi' ρ k y z x i S = ∃ S4, setC x i y S = some S4 ∧ (fo' ρ S4).wp (kT23 fi' ρ k z) (kEx k ρ) := rfl
@[simp] theorem kT23_eq (fi' : SemE) (z x : D) : kT23 fi' ρ k z x S = (fi' ρ S).wp (fun i S6 => ∃ S7, setC x i z S6 = some S7 ∧ k.nx ρ S7) (kEx k ρ) := rfl
theorem wp_gSetC (fo fi : SemE) (y : D) (g : Store → OutS) : (gSetC fo fi y g ρ S).wp k = (fo ρ S).wp (fun x S2 => (fi ρ S2).wp (fun i S3 => ∃ S4, setC x i y S3 = some S4 ∧ (g S4).wp k) (kEx k ρ)) (kEx k ρ) := by
  simp only [gSetC, wpS_toS]
  congr 1
  funext x S2
  congr 1
  funext i S3
  cases setC x i y S3 <;> simp
@[simp] theorem wp_sSet2 (fo fi fo' fi' fe : SemE) : (sSet2 fo fi fo' fi' fe ρ S).wp k = (fe ρ S).wp (kT2 fo fi fo' fi' ρ k) (kEx k ρ) := by
  simp only [sSet2, wpS_toS]
  congr 1
  funext d S1
  apply propext
  constructor
  · intro h
    match d, h with
    | .tup [y, z], h =>
      refine ⟨y, z, rfl, ?_⟩
      simpa only [wp_gSetC, wpS_nx] using h
  · rintro ⟨y, z, rfl, h⟩
    simpa only [wp_gSetC, wpS_nx] using h
end
end Fk

set_option Elab.async false
set_option linter.all false
set_option maxRecDepth 100000
set_option maxHeartbeats 0
noncomputable section
namespace Sm
open PySem PySem.Spec PyProof.Rows L2 Fk
def g_seats : SemS :=
    (sRet (frz (lComp2 (itR1 (aCons (eVar 0) aNil)) (gN 1) sYes (itR2 (aCons (eBin opAddA (eVar 1) (eC (.int 1))) (aCons (eVar 0) aNil))) (gN 2) sYes (eTup (aCons (eVar 1) (aCons (eVar 2) aNil))) [1, 2] [2])))
def f_seats : FSem := fnD 3 g_seats
end Sm
end

set_option Elab.async false
set_option linter.all false
set_option maxRecDepth 100000
set_option maxHeartbeats 1000000
namespace Fk
open PySem PySem.Spec PyProof.Rows L2
/-! ### a module's own table, ints at ints -/
def entB (e : DictEntry) (p : Int × Int) : Bool := match e.key, e.val with
  | .int k _, .int v _ => decide (k = p.1) && (decide (v = p.2) && decide (e.hash = hashInt k))
  | _, _ => false
def entsB : List DictEntry → List (Int × Int) → Bool
  | [], [] => true
  | e :: es, p :: ps => entB e p && entsB es ps
  | _, _ => false
def tabOb (tbl : List (Int × Int)) : Option Obj → Bool
  | some ⟨.type c, none, .dict es _, ⟨[]⟩⟩ => decide (c = "dict") && entsB es.toList tbl
  | _ => false
def itabB (K : PySem.W.Frag) (x : Str) (tbl : List (Int × Int)) : Bool := He.eqO (PySem.W.nsIn K mainGlobals x) (some (some (.ref (He.ga K x)))) && (!(He.ga K x == sysModules) && (tabOb tbl (K.lookup (He.ga K x)) && decide ((tbl.map (·.1)).Nodup)))
/-- what the walk needs of it -/
structure ITab (K : PySem.W.Frag) (mg : Str → Option Value) (x : Str) (tbl : List (Int × Int)) : Prop where
  ex : ∃ a, mg x = some (.ref a) ∧ (a == sysModules) = false ∧ tabOb tbl (K.lookup a) = true
  nd : (tbl.map (·.1)).Nodup
theorem itab_ok {K : PySem.W.Frag} {h : Heap} {mg : Str → Option Value} (X : K.In h) (G : h.Ns mainGlobals mg) {x : Str} {tbl : List (Int × Int)} (c : itabB K x tbl = true) : ITab K mg x tbl := by
  obtain ⟨h1, c⟩ := Bool.and_eq_true_iff.mp c
  obtain ⟨h2, c⟩ := Bool.and_eq_true_iff.mp c
  obtain ⟨h3, h4⟩ := Bool.and_eq_true_iff.mp c
  exact ⟨⟨_, PySem.W.mg_of X G (He.eqO_ok h1), by simpa using h2, h3⟩, of_decide_eq_true h4⟩
theorem ents_ok {P : Program} {w : World} : ∀ {es : List DictEntry} {tbl : List (Int × Int)}, entsB es tbl = true → (∀ e ∈ es, ∃ k, (mixKind P w).is k e.key = true ∧ e.hash = (mixKind P w).hash k) ∧ ∃ kvs : List (Key × Value), Pairs (mixKind P w) es kvs ∧ kvs.map (·.1) = tbl.map (fun p => (Sum.inl p.1 : Key)) ∧ ∀ i : Int, RelO ((tbl.find? fun p => decide (p.1 = i)).map fun p => V.int p.2) (valueAt kvs (Sum.inl i))
  | [], [], _ => ⟨fun e he => (by cases he), [], .nil, rfl, fun i => (by simp [valueAt, RelO])⟩
  | [], _ :: _, h => by simp [entsB] at h
  | _ :: _, [], h => by simp [entsB] at h
  | e :: es, p :: ps, h => by
    obtain ⟨h1, h2⟩ := Bool.and_eq_true_iff.mp (show (entB e p && entsB es ps) = true from h)
    obtain ⟨i1, kvs, i2, i3, i4⟩ := ents_ok (P := P) (w := w) h2
    obtain ⟨hash, key, val⟩ := e
    cases key <;> cases val <;> first | (exfalso; simp [entB] at h1; done) | skip
    rename_i k tk v tv
    have h1 : (decide (k = p.1) && (decide (v = p.2) && decide (hash = hashInt k))) = true := h1
    obtain ⟨q1, h1⟩ := Bool.and_eq_true_iff.mp h1
    obtain ⟨q2, q3⟩ := Bool.and_eq_true_iff.mp h1
    have q1 := of_decide_eq_true q1
    have q2 := of_decide_eq_true q2
    have q3 := of_decide_eq_true q3
    subst q3
    refine ⟨fun e he => ?_, (Sum.inl k, .int v tv) :: kvs, .cons (keyIs_int k tk) rfl i2, by rw [List.map_cons, List.map_cons, i3, q1], fun i => ?_⟩
    · rcases List.mem_cons.mp he with z | z
      · subst z; exact ⟨Sum.inl k, keyIs_int k tk, rfl⟩
      · exact i1 e z
    · have := i4 i
      unfold valueAt at this ⊢
      by_cases q : k = i
      · subst q
        rw [List.find?_cons, List.find?_cons]
        simp only [← q1, decide_true, Option.map_some]
        exact ⟨tv, by rw [q2]⟩
      · have e1 : decide (p.1 = i) = false := decide_eq_false fun z => q (q1.trans z)
        have e2 : decide ((Sum.inl k : Key) = Sum.inl i) = false := decide_eq_false fun z => q (Sum.inl.inj z)
        rw [List.find?_cons, List.find?_cons, e1]
        simp only [e2]
        exact this
def tGet (tbl : List (Int × Int)) : D → Store → Option D
  | .int i, _ => (tbl.find? fun p => decide (p.1 = i)).map fun p => .int p.2
  | _, _ => none
def tIn (tbl : List (Int × Int)) : D → Store → Option D
  | .int i, _ => some (.bl (tbl.find? fun p => decide (p.1 = i)).isSome)
  | _, _ => none
def tNin (tbl : List (Int × Int)) : D → Store → Option D
  | .int i, _ => some (.bl (!(tbl.find? fun p => decide (p.1 = i)).isSome))
  | _, _ => none
section
variable {X : Cx} {W : WX} {e : Expr} {f : SemE} {x : Str} {tbl : List (Int × Int)} {pos p : Pos}
theorem itab_at {pins : List (Addr × Obj)} {σ : L2.St} {H : Hp} {s : Shared} {a : Addr} (I : Inv X pins σ H s) (h : tabOb tbl (X.K.lookup a) = true) (nd : (tbl.map (·.1)).Nodup) :
    ∃ kvs : List (Key × Value), s.heap.DictOf (mixKind X.prog X.w) a kvs ∧ ∀ i : Int, RelO ((tbl.find? fun p => decide (p.1 = i)).map fun p => V.int p.2) (valueAt kvs (Sum.inl i)) := by
  unfold tabOb at h
  split at h
  · next c es ep hk =>
    obtain ⟨h1, h2⟩ := Bool.and_eq_true_iff.mp h
    have h1 := of_decide_eq_true h1
    subst h1
    obtain ⟨i1, kvs, i2, i3, i4⟩ := ents_ok (P := X.prog) (w := X.w) h2
    refine ⟨kvs, ⟨⟨.type "dict", none, .dict es ep, #[]⟩, es, ep, I.kIn _ _ hk, ⟨rfl, rfl, rfl⟩, rfl, fun e he => i1 e (by simpa using he), i2, ?_⟩, i4⟩
    rw [i3]
    have : (tbl.map fun p => (Sum.inl p.1 : Key)) = (tbl.map (·.1)).map Sum.inl := by rw [List.map_map]; rfl
    rw [this]
    exact List.Pairwise.map _ (fun a b hab z => hab (Sum.inl.inj z)) nd
  · cases h
theorem xe_tabGet (T : ITab X.K X.mg x tbl) (hg : Gl X x) (he : XE X W e f) (hs : NoSl e) (hd : (x == ("__debug__" : Str)) = false := by decide) : XE X W (.Subscript (.Name x p) e pos) (eUn (tGet tbl) f) := by
  obtain ⟨⟨a, hm, ha, ht⟩, nd⟩ := T
  refine ⟨fun pins s σ H Q I h => ?_⟩
  have hq : tE ⟨X.K, X.mg, W⟩ f σ H (fun y H1 => ∃ i v, y = .int i ∧ ((tbl.find? fun p => decide (p.1 = i)).map fun p => V.int p.2) = some (V.int v) ∧ Q (.int v) H1) := by
    obtain ⟨F, ι, ρ, S, sm, r, q⟩ := h
    refine ⟨F, ι, ρ, S, sm, r, post_bind (R := RV' X.K) q fun x S1 F1 ι1 v H1 x1 s1 rv q1 => ?_⟩
    obtain ⟨z, hz, q3⟩ := post_lift q1
    unfold tGet at hz
    split at hz
    · next i =>
      obtain ⟨pr, hp, rfl⟩ := Option.map_eq_some_iff.mp hz
      cases rel_int rv
      exact ⟨i, pr.2, rfl, by rw [hp]; rfl, q3 F1 ι1 _ H1 (Step.refl _ _ _) s1 (.int _)⟩
    · cases hz
  refine subD_of PySem.F.slot_dict_getitem.lookup hs (thn ((pe_glob (v := .ref a) (pos := p) hg hm rfl hd).run pins s σ H (fun x H1 => x = .ref a ∧ H1 = H) I ⟨rfl, rfl⟩) fun u s1 ⟨z, H1, I1, rz, ez, eH⟩ => ?_)
  subst ez
  subst eH
  obtain rfl : u = Value.ref a := rz
  refine thn (he.run pins s1 σ H1 _ I1 hq) fun iv s2 ⟨y, H2, I2, ry, i, v, ey, ev, q2⟩ => ?_
  subst ey
  obtain ⟨kvs, dd, look⟩ := itab_at I2 ht nd
  obtain ⟨w', hw, rw'⟩ := RelO.some_of (v := .int v) (o := valueAt kvs (Sum.inl i)) (by rw [← ev]; exact look i)
  exact ⟨dd.typeIs, wpAny_getItem_of (kV_is (k := .inl i) ry) dd.mapOf hw ⟨.int v, H2, I2.tok _, rw', q2⟩⟩
theorem tab_asked {p : Pl} {op : List (Int × Int) → D → Store → Option D} {b : Int → Bool} (hop : ∀ d S z, op tbl d S = some z → ∃ i, d = .int i ∧ z = .bl (b i)) {σ : L2.St} {H : Hp} {Q : VK} (h : tE p (eUn (op tbl) f) σ H Q) :
    tE p f σ H (fun y H1 => ∃ i, y = .int i ∧ Q (.bl (b i)) H1) := by
  obtain ⟨F, ι, ρ, S, sm, r, q⟩ := h
  refine ⟨F, ι, ρ, S, sm, r, post_bind (R := RV' p.K) q fun x S1 F1 ι1 v H1 x1 s1 rv q1 => ?_⟩
  obtain ⟨z, hz, q3⟩ := post_lift q1
  obtain ⟨i, rfl, rfl⟩ := hop _ _ _ hz
  cases rel_int rv
  exact ⟨i, rfl, q3 F1 ι1 _ H1 (Step.refl _ _ _) s1 (.bl _)⟩
theorem pc_tabIn (T : ITab X.K X.mg x tbl) (hg : Gl X x) (he : XE X W e f) (hd : (x == ("__debug__" : Str)) = false := by decide) : PC X .In e (.Name x p) (tE ⟨X.K, X.mg, W⟩ (eUn (tIn tbl) f)) := by
  obtain ⟨⟨a, hm, ha, ht⟩, nd⟩ := T
  refine ⟨fun pins s σ H Q I h => ?_⟩
  have hq := tab_asked (op := tIn) (b := fun i => (tbl.find? fun p => decide (p.1 = i)).isSome) (fun d S z hz => by
    unfold tIn at hz
    split at hz
    · cases hz; exact ⟨_, rfl, rfl⟩
    · cases hz) h
  refine thn (he.run pins s σ H _ I hq) fun iv s1 ⟨y, H1, I1, ry, i, ey, q1⟩ => ?_
  subst ey
  refine thn ((pe_glob (v := .ref a) (pos := p) hg hm rfl hd).run pins s1 σ H1 (fun x H2 => x = .ref a ∧ H2 = H1) I1 ⟨rfl, rfl⟩) fun u s2 ⟨z, H2, I2, rz, ez, eH⟩ => ?_
  subst ez
  subst eH
  obtain rfl : u = Value.ref a := rz
  obtain ⟨kvs, dd, look⟩ := itab_at I2 ht nd
  refine wpAny_in_of (kV_is (k := .inl i) ry) ha dd.mapOf ?_
  have e := (look i).isSome_eq
  rw [Option.isSome_map] at e
  rw [← e]
  exact ⟨.bl _, H2, I2.tok _, rfl, q1⟩
theorem pc_tabNin (T : ITab X.K X.mg x tbl) (hg : Gl X x) (he : XE X W e f) (hd : (x == ("__debug__" : Str)) = false := by decide) : PC X .NotIn e (.Name x p) (tE ⟨X.K, X.mg, W⟩ (eUn (tNin tbl) f)) := by
  obtain ⟨⟨a, hm, ha, ht⟩, nd⟩ := T
  refine ⟨fun pins s σ H Q I h => ?_⟩
  have hq := tab_asked (op := tNin) (b := fun i => !(tbl.find? fun p => decide (p.1 = i)).isSome) (fun d S z hz => by
    unfold tNin at hz
    split at hz
    · cases hz; exact ⟨_, rfl, rfl⟩
    · cases hz) h
  refine thn (he.run pins s σ H _ I hq) fun iv s1 ⟨y, H1, I1, ry, i, ey, q1⟩ => ?_
  subst ey
  refine thn ((pe_glob (v := .ref a) (pos := p) hg hm rfl hd).run pins s1 σ H1 (fun x H2 => x = .ref a ∧ H2 = H1) I1 ⟨rfl, rfl⟩) fun u s2 ⟨z, H2, I2, rz, ez, eH⟩ => ?_
  subst ez
  subst eH
  obtain rfl : u = Value.ref a := rz
  obtain ⟨kvs, dd, look⟩ := itab_at I2 ht nd
  refine wpAny_notIn_of (kV_is (k := .inl i) ry) ha dd.mapOf ?_
  have e := (look i).isSome_eq
  rw [Option.isSome_map] at e
  rw [← e]
  exact ⟨.bl _, H2, I2.tok _, rfl, q1⟩
theorem xe_tabIn (T : ITab X.K X.mg x tbl) (hg : Gl X x) (he : XE X W e f) (hd : (x == ("__debug__" : Str)) = false := by decide) (hb : behindInMarks .In (.Name x p) = false := by rfl) : XE X W (.Compare e [.In] [.Name x p] pos) (eUn (tIn tbl) f) := pe_cmp (pc_tabIn T hg he hd) hb
theorem xt_tabIn (T : ITab X.K X.mg x tbl) (hg : Gl X x) (he : XE X W e f) (hd : (x == ("__debug__" : Str)) = false := by decide) (hb : behindInMarks .In (.Name x p) = false := by rfl) : XT X W (.Compare e [.In] [.Name x p] pos) (tOfE (eUn (tIn tbl) f)) := ptI (pt_cmp (pc_tabIn T hg he hd) hb) fun _ _ _ h => tT_of h
theorem xe_tabNin (T : ITab X.K X.mg x tbl) (hg : Gl X x) (he : XE X W e f) (hd : (x == ("__debug__" : Str)) = false := by decide) (hb : behindInMarks .NotIn (.Name x p) = false := by rfl) : XE X W (.Compare e [.NotIn] [.Name x p] pos) (eUn (tNin tbl) f) := pe_cmp (pc_tabNin T hg he hd) hb
theorem xt_tabNin (T : ITab X.K X.mg x tbl) (hg : Gl X x) (he : XE X W e f) (hd : (x == ("__debug__" : Str)) = false := by decide) (hb : behindInMarks .NotIn (.Name x p) = false := by rfl) : XT X W (.Compare e [.NotIn] [.Name x p] pos) (tOfE (eUn (tNin tbl) f)) := ptI (pt_cmp (pc_tabNin T hg he hd) hb) fun _ _ _ h => tT_of h
end
end Fk

set_option Elab.async false
set_option linter.all false
set_option maxRecDepth 100000
set_option maxHeartbeats 1000000
namespace Fk
open PySem PySem.Spec PyProof.Rows L2
/-! ### a list against no items, whatever is in it -/
def opNeE : D → D → Store → Option D := fun d e S => match dr S d, e with
  | .lst xs, .lst [] => some (.bl (!xs.isEmpty))
  | _, _ => none
theorem ox_neE {X : Cx} (hu : X.A.units + 64 < cLine) : OpX X (compareOp .NotEq) opNeE := by
  intro pins s σ H x y v u Q I rx ry h
  obtain ⟨F, ι, S, d, e, a, sm, rd, re, ho, q⟩ := h
  unfold opNeE at ho
  split at ho
  · next xs h1 =>
    cases ho
    obtain ⟨p, vs, rfl, e1, r1⟩ := at_lst sm rd h1
    obtain ⟨p2, ws, rfl, e2, r2⟩ := at_lst sm re (show dr S (.lst []) = .lst [] from rfl)
    cases r2
    obtain rfl : v = Value.ref p := rx
    obtain rfl : u = Value.ref p2 := ry
    obtain ⟨its, rv, hl, hz⟩ := I.list (SqL.of e1)
    obtain ⟨its2, rv2, hl2, _⟩ := I.list (SqL.of e2)
    cases rv2
    have post : EP X pins σ Q (.bool (!xs.isEmpty)) s := ⟨.bl _, H, I, rfl, q F ι _ H (Step.refl _ _ _) sm (.bl _)⟩
    cases r1 with
    | nil =>
      cases rv
      have hr := SeqAt.RcNeAt.lists (A := X.A) (e := fun _ => false) hl.isList hl2.isList rfl (by omega) (fun j h1 h2 => absurd h1 (by simp))
      exact hr _ _ _ _ post
    | cons _ _ =>
      cases rv
      exact SeqAt.RcNeAt.lists_lengths (A := X.A) hl.isList hl2.isList (by simp) (by omega) _ _ _ _ post
  · cases ho
def opNeZ := orO opNeE opNeA
theorem ox_neZ {X : Cx} (hu : X.A.units + 64 < cLine) : OpX X (compareOp .NotEq) opNeZ := ox_or (ox_neE hu) (ox_neA hu)
theorem neZ_lst {xs : List D} {S : Store} : opNeZ (.lst xs) (.lst []) S = some (.bl (!xs.isEmpty)) := rfl
theorem neZ_A {d e : D} {S : Store} (h : opNeE d e S = none) : opNeZ d e S = opNeA d e S := by unfold opNeZ orO; rw [h]
/-! ### the head's word on tables -/
def xctT (tn : List Str) (l : List Xc) (tl : List (Str × List (Int × Int))) (K : PySem.W.Frag) : Bool := xct tn l K && tl.all fun p => itabB K p.1 p.2
theorem xctT_at {tl : List (Str × List (Int × Int))} {K : PySem.W.Frag} (h : (tl.all fun p => itabB K p.1 p.2) = true) (i : Nat) {p : Str × List (Int × Int)} (e : tl[i]? = some p) : itabB K p.1 p.2 = true := List.all_eq_true.mp h p (List.mem_of_getElem? e)
end Fk

set_option Elab.async false
set_option linter.all false
set_option maxRecDepth 100000
set_option maxHeartbeats 0
noncomputable section
namespace Sm
open PySem PySem.Spec PyProof.Rows L2 Fk
def g__law_swapped_book_k34 : SemS :=
    (sSeq (sAsg 1 (eBin opAddA (eC (.int 3)) (eCall f__law_draw_k28 [] (aCons (eVar 0) (aCons (eC (.int 4)) aNil)))))
    (sSeq (sAsgT (gT [(gN 2), (gN 3), (gN 4)]) (eTup (aCons (cellL (lRg1 (eVar 1))) (aCons eNewT (aCons (eCall f__law_draw_k28 [] (aCons (eVar 0) (aCons (eC (.int 9)) aNil))) aNil)))))
    (sSeq (sAsg 5 (eBin opAddA (eC (.int 1)) (eCall f__law_draw_k28 [] (aCons (eVar 0) (aCons (eC (.int 12)) aNil)))))
    (sSeq (sFor (itR1 (aCons (eBin opDiv (eBin opMulA (eVar 1) (eBin opSubA (eVar 1) (eC (.int 1)))) (eC (.int 2))) aNil)) (gN 6)
   (sSeq (sAsg 7 (frz (lComp (itR1 (aCons (eBin opSubA (eVar 1) (eC (.int 1))) aNil)) (gN 8) (tOfE (eBin opLt (eBin opIx (eVar 2) (eVar 8)) (eBin opIx (eVar 2) (eBin opAddA (eVar 8) (eC (.int 1)))))) (eVar 8) [8])))
    (sSeq (sPar 8 4 (aCons (eCall f__law_one_k28 [] (aCons (eVar 0) (aCons (eVar 7) aNil))) (aCons (eBin opAddA (eBin opAddA (eVar 4) (eC (.int 1))) (eCall f__law_draw_k28 [] (aCons (eVar 0) (aCons (eC (.int 9)) aNil)))) aNil)))
    (sSeq (sTPut (eVar 3) (eTup (aCons (eBin opIx (eVar 2) (eVar 8)) (aCons (eBin opIx (eVar 2) (eBin opAddA (eVar 8) (eC (.int 1)))) aNil))) (eCall f__law_primitive_k28 [] (aCons (eTup (aCons (eVar 4) (aCons (eBin opSubA (eC (.int 0)) (eVar 5)) aNil))) aNil)))
    (sSet2 (eVar 2) (eVar 8) (eVar 2) (eBin opAddA (eVar 8) (eC (.int 1))) (eTup (aCons (eBin opIx (eVar 2) (eBin opAddA (eVar 8) (eC (.int 1)))) (aCons (eBin opIx (eVar 2) (eVar 8)) aNil))))))))
    (sRet (eOps tupD (aCons (frz (lComp (itSeq (eCall f__law_seats [] (aCons (eVar 1) aNil))) (gT [(gN 9), (gN 10)]) sYes (eTup (aCons (eVar 9) (aCons (eVar 10) (aCons (eBin opTget (eVar 3) (eTup (aCons (eVar 9) (aCons (eVar 10) aNil)))) aNil)))) [9, 10])) aNil)))))))
def f__law_swapped_book_k34 : FSem := fnD 11 g__law_swapped_book_k34
def g__law_some_book_k34 : SemS :=
    (sSeq (sAsg 1 (eCall f__law_draw_k28 [] (aCons (eVar 0) (aCons (eC (.int 5)) aNil))))
    (sSeq (sIf (tOfE (eBin opLt (eVar 1) (eC (.int 2)))) (sRet (eCall f__law_book [] (aCons (eCall f__law_pair_menu [] (aCons (eVar 0) aNil)) aNil))) sNext)
    (sSeq (sIf (tOfE (eBin opEqA (eVar 1) (eC (.int 2)))) (sRet (eCall f__law_drawn_book [] (aCons (eVar 0) aNil))) sNext)
    (sSeq (sIf (tOfE (eBin opEqA (eVar 1) (eC (.int 3)))) (sRet (eCall f__law_swapped_book_k34 [] (aCons (eVar 0) aNil))) sNext)
    (sSeq (sAsg 2 (eCall f__law_book [] (aCons (eCall f__law_pair_menu [] (aCons (eVar 0) aNil)) aNil)))
    (sSeq (sAsg 3 (eCall f__law_draw_k28 [] (aCons (eVar 0) (aCons (eOps lenD (aCons (eVar 2) aNil)) aNil))))
    (sRet (eBin opAddA (eBin opAddA (eSl opSl (eVar 2) oNone (oSome (eVar 3))) (eTup (aCons (eBin opAddA (eSl opSl (eBin opIx (eVar 2) (eVar 3)) oNone (oSome (eC (.int 2)))) (eTup (aCons (eCall f__law_some_border [] (aCons (eVar 0) (aCons (eOps lenD (aCons (eBin opIx (eBin opIx (eVar 2) (eC (.int 0))) (eC (.int 2))) aNil)) aNil))) aNil))) aNil))) (eSl opSl (eVar 2) (oSome (eBin opAddA (eVar 3) (eC (.int 1)))) oNone)))))))))
def f__law_some_book_k34 : FSem := fnD 4 g__law_some_book_k34
def g__law_is_border_k34 : SemS :=
    (sSeq (sIf (sOr (sNot (tOfE (eUn (isiD "tuple") (eVar 0)))) (sNot (tOfE (eChain opLe opLe (eC (.int 2)) (eOps lenD (aCons (eVar 0) aNil)) (eC (.int 4)))))) (sRet (eC (.bl false))) sNext)
    (sSeq (sIf (tOfE (eBin opNeZ (frz (lComp (itSeq (eVar 0)) (gN 1) (sNot (tOfE (eCall f__law_whole_k34 [] (aCons (eVar 1) aNil)))) (eVar 1) [1])) (frz (lDisp aNil)))) (sRet (eC (.bl false))) sNext)
    (sRet (eBin opEqA (eCall f__law_border [] (aCons (eVar 0) aNil)) (eVar 0)))))
def f__law_is_border_k34 : FSem := fnD 2 g__law_is_border_k34
def g__law_error_k34 : SemS :=
    (sSeq (sIf (sOr (sNot (tOfE (eUn (isiD "tuple") (eVar 0)))) (tOfE (eBin opNin (eOps lenD (aCons (eVar 0) aNil)) (frz (lDisp (aCons (eC (.int 1)) (aCons (eC (.int 3)) (aCons (eC (.int 6)) (aCons (eC (.int 10)) (aCons (eC (.int 15)) aNil)))))))))) (sRet (eTup (aCons (eC .non) (aCons (eC (.str "book")) aNil)))) sNext)
    (sSeq (sFor (itEnum (aCons (eCall f__law_seats [] (aCons (eCall f__law_words [] (aCons (eVar 0) aNil)) aNil)) aNil)) (gT [(gN 1), (gN 2)])
   (sSeq (sAsg 3 (eBin opIx (eVar 0) (eVar 1)))
    (sSeq (sIf (sOr (sNot (tOfE (eUn (isiD "tuple") (eVar 3)))) (tOfE (eBin opNeA (eOps lenD (aCons (eVar 3) aNil)) (eC (.int 3))))) (sRet (eTup (aCons (eVar 1) (aCons (eC (.str "triple")) aNil)))) sNext)
    (sSeq (sIf (sOr (tOfE (eBin opNeZ (frz (lComp (itSeq (eSl opSl (eVar 3) oNone (oSome (eC (.int 2))))) (gN 4) (sNot (tOfE (eCall f__law_whole_k34 [] (aCons (eVar 4) aNil)))) (eVar 4) [4])) (frz (lDisp aNil)))) (tOfE (eBin opNeA (eSl opSl (eVar 3) oNone (oSome (eC (.int 2)))) (eVar 2)))) (sRet (eTup (aCons (eVar 1) (aCons (eC (.str "words")) aNil)))) sNext)
    (sSeq (sIf (sNot (tOfE (eCall f__law_is_border_k34 [] (aCons (eBin opIx (eVar 3) (eC (.int 2))) aNil)))) (sRet (eTup (aCons (eVar 1) (aCons (eC (.str "border")) aNil)))) sNext)
    (sIf (tOfE (eBin opNeA (eOps lenD (aCons (eBin opIx (eVar 3) (eC (.int 2))) aNil)) (eOps lenD (aCons (eBin opIx (eBin opIx (eVar 0) (eC (.int 0))) (eC (.int 2))) aNil)))) (sRet (eTup (aCons (eVar 1) (aCons (eC (.str "answers")) aNil)))) sNext))))))
    (sRet (eC .non))))
def f__law_error_k34 : FSem := fnD 5 g__law_error_k34
def g_is_border : SemS :=
    (sSeq (sIf (sOr (sNot (tOfE (eUn (isiD "tuple") (eVar 0)))) (sNot (tOfE (eChain opLe opLe (eC (.int 2)) (eOps lenD (aCons (eVar 0) aNil)) (eC (.int 4)))))) (sRet (eC (.bl false))) sNext)
    (sRet (vAnd (eCall f_is_whole_row [] (aCons (eVar 0) (aCons (eOps lenD (aCons (eVar 0) aNil)) aNil))) (eBin opEqA (eCall f_border_of [] (aCons (eVar 0) aNil)) (eVar 0)))))
def f_is_border : FSem := fnD 1 g_is_border
def g_book_error : SemS :=
    (sSeq (sIf (sOr (sNot (tOfE (eUn (isiD "tuple") (eVar 0)))) (tOfE (eUn (tNin [(1, 2), (3, 3), (6, 4), (10, 5), (15, 6)]) (eOps lenD (aCons (eVar 0) aNil))))) (sRet (eTup (aCons (eC .non) (aCons (eC (.str "book")) aNil)))) sNext)
    (sSeq (sFor (itEnum (aCons (eCall f_seats [] (aCons (eUn (tGet [(1, 2), (3, 3), (6, 4), (10, 5), (15, 6)]) (eOps lenD (aCons (eVar 0) aNil))) aNil)) aNil)) (gT [(gN 1), (gN 2)])
   (sSeq (sAsg 3 (eBin opIx (eVar 0) (eVar 1)))
    (sSeq (sIf (sOr (sNot (tOfE (eUn (isiD "tuple") (eVar 3)))) (tOfE (eBin opNeA (eOps lenD (aCons (eVar 3) aNil)) (eC (.int 3))))) (sRet (eTup (aCons (eVar 1) (aCons (eC (.str "triple")) aNil)))) sNext)
    (sSeq (sIf (sOr (sNot (tOfE (eCall f_is_whole_row [] (aCons (eSl opSl (eVar 3) oNone (oSome (eC (.int 2)))) (aCons (eC (.int 2)) aNil))))) (tOfE (eBin opNeA (eSl opSl (eVar 3) oNone (oSome (eC (.int 2)))) (eVar 2)))) (sRet (eTup (aCons (eVar 1) (aCons (eC (.str "words")) aNil)))) sNext)
    (sSeq (sIf (sNot (tOfE (eCall f_is_border [] (aCons (eBin opIx (eVar 3) (eC (.int 2))) aNil)))) (sRet (eTup (aCons (eVar 1) (aCons (eC (.str "border")) aNil)))) sNext)
    (sIf (tOfE (eBin opNeA (eOps lenD (aCons (eBin opIx (eVar 3) (eC (.int 2))) aNil)) (eOps lenD (aCons (eBin opIx (eBin opIx (eVar 0) (eC (.int 0))) (eC (.int 2))) aNil)))) (sRet (eTup (aCons (eVar 1) (aCons (eC (.str "answers")) aNil)))) sNext))))))
    (sRet (eC .non))))
def f_book_error : FSem := fnD 4 g_book_error
def g_is_book : SemS :=
    (sRet (eBin opIsN (eCall f_book_error [] (aCons (eVar 0) aNil)) (eC .non)))
def f_is_book : FSem := fnD 1 g_is_book
def g_law_k34 : SemS :=
    (sSeq (sAsg 1 (eCall f__law_deck_k28 [] (aCons (eVar 0) aNil)))
    (sSeq (sFor (itR1 (aCons (eC (.int 6)) aNil)) (gN 2)
   (sSeq (sAsg 3 (eCall f__law_some_book_k34 [] (aCons (eVar 1) aNil)))
    (sSeq (sAsg 4 (eCall (f__law_bent_k34 4) [] (aCons (eVar 1) (aCons (eVar 3) (aCons (eC (.int 3)) aNil)))))
    (sSeq (sAsg 5 (cellL (lDisp (aCons (eVar 3) (aCons (eVar 4) (aCons (eCall (f__law_bent_k34 4) [] (aCons (eVar 1) (aCons (eVar 4) (aCons (eC (.int 3)) aNil)))) (aCons (eCall f__law_odd_k34 [] (aCons (eVar 1) aNil)) (aCons (frz (eOps lstD (aCons (eVar 3) aNil))) (aCons (eSl opSl (eVar 3) oNone (oSome (eUn opNeg (eC (.int 1))))) (aCons (eBin opAddA (eVar 3) (eSl opSl (eVar 3) oNone (oSome (eC (.int 1))))) aNil))))))))))
    (sSeq (sExp (eApp (eVar 5) (eSl opSl (eVar 3) (oSome (eC (.int 1))) oNone)))
    (sSeq (sExp (eApp (eVar 5) (eOps tupD (aCons (frz (lComp (itSeq (eVar 3)) (gT [(gN 8), (gN 9), (gN 10)]) sYes (eTup (aCons (eVar 9) (aCons (eVar 8) (aCons (eVar 10) aNil)))) [8, 9, 10])) aNil))))
    (sSeq (sExp (eApp (eVar 5) (eBin opAddA (eSl opSl (eVar 3) oNone (oSome (eC (.int 1)))) (eOps tupD (aCons (frz (lComp (itSeq (eSl opSl (eVar 3) (oSome (eC (.int 1))) oNone)) (gT [(gN 8), (gN 9), (gN 10)]) sYes (eTup (aCons (eVar 8) (aCons (eVar 9) (aCons (eBin opAddA (eVar 10) (eTup (aCons (eC (.int 0)) aNil))) aNil)))) [8, 9, 10])) aNil)))))
    (sFor (itSeq (eBin opAddA (eVar 5) (frz (lComp (itR1 (aCons (eC (.int 5)) aNil)) (gN 11) sYes (eCall (f__law_bent_k34 4) [] (aCons (eVar 1) (aCons (eVar 3) (aCons (eC (.int 3)) aNil)))) [11])))) (gN 6)
   (sSeq (sAsg 7 (eCall f__law_error_k34 [] (aCons (eVar 6) aNil)))
    (sIf (tOfE (eBin opNeA (eOps reprD (aCons (frz (lDisp (aCons (eCall f_book_error [] (aCons (eVar 6) aNil)) (aCons (eCall f_is_book [] (aCons (eVar 6) aNil)) aNil)))) aNil)) (eOps reprD (aCons (frz (lDisp (aCons (eVar 7) (aCons (eBin opIsN (eVar 7) (eC .non)) aNil)))) aNil)))) (sRet (eC (.bl false))) sNext))))))))))
    (sRet (eBin opIsN (eCall f_book_error [] (aCons (eTup (aCons (eTup (aCons (eC (.int 0)) (aCons (eC (.int 1)) (aCons (eTup (aCons (eC (.int 0)) (aCons (eC (.int 0)) (aCons (eC (.int 0)) (aCons (eC (.int 0)) aNil))))) aNil)))) aNil)) aNil)) (eC .non)))))
def f_law_k34 : FSem := fnD 12 g_law_k34
end Sm
end

set_option Elab.async false
set_option linter.all false
set_option maxRecDepth 100000
set_option maxHeartbeats 2000000
set_option exponentiation.threshold 3000
noncomputable section
namespace Sp
open PySem PySem.Spec PyProof.Rows L2 Fk Sm
variable {n : Nat} {T S : Store} {E : EX}
/-! ### borders, seats -/
def sgI (i : Int) : Int := if 0 < i then 1 else if i < 0 then -1 else 0
def cutB (r : List Int) : Bool := decide (minL r < 0) && decide (0 < maxL r)
def brd (r : List Int) : List Int := if cutB r then r.map fun i => i / (G r : Int) else r.map sgI
theorem brd_len (r : List Int) : (brd r).length = r.length := by unfold brd; split <;> simp
theorem cut_G {r : List Int} (h0 : r ≠ []) (h : cutB r = true) : G r ≠ 0 := by
  unfold cutB at h
  rw [Bool.and_eq_true, decide_eq_true_eq, decide_eq_true_eq] at h
  have hm := maxL_mem h0
  exact G_pos hm (by omega)
theorem is_cutting {d : D} {ns : List Int} (hd : itOf d S = .ok (ns.map D.int) S) (h0 : ns ≠ []) (hl : ns.length ≤ 1000) : f_is_cutting [d] S = .ok (.bl (cutB ns)) S := by
  have e1 := least_of hd h0 hl
  have e2 := most_of hd h0 hl
  refine eq_of_wp ?_
  unfold f_is_cutting
  rw [wp_fnD]
  simp [g_is_cutting, startD, e1, e2]
  unfold cutB
  by_cases q : minL ns < 0
  · have q0 : ¬ 0 ≤ minL ns := by omega
    by_cases p : 0 < maxL ns
    · have p0 : ¬ maxL ns ≤ 0 := by omega
      simp [q, p, q0, p0]
      exact gcQ_cl (by simp) ⟨rfl, by simp⟩
    · have p' : maxL ns ≤ 0 := by omega
      simp [q, p, p', q0]
      exact gcQ_cl (by simp) ⟨rfl, by simp⟩
  · have q' : 0 ≤ minL ns := by omega
    simp [q, q']
    exact gcQ_cl (by simp) ⟨rfl, by simp⟩
theorem border_of {ns : List Int} (h0 : ns ≠ []) (hl : ns.length ≤ 1000) (hb : ∀ i ∈ ns, i.natAbs < 2 ^ 2000) : f_border_of [tI ns] S = .ok (tI (brd ns)) S := by
  have e1 := fun S => is_cutting (S := S) (d := tI ns) (ns := ns) rfl h0 hl
  refine eq_of_wp ?_
  unfold f_border_of
  rw [wp_fnD]
  unfold brd
  cases hc : cutB ns with
  | true =>
    have e2 := fun S => primitive (S := S) (d := tI ns) (ns := ns) rfl hb (cut_G h0 hc) hl
    rw [hc] at e1
    simp [-List.map_map, g_border_of, startD, e1, e2]
    exact gcQ_cl (by simp) ⟨rfl, by simp⟩
  | false =>
    rw [hc] at e1
    simp [-List.map_map, g_border_of, startD, e1]
    rw [comp_ints sgI]
    · generalize ns.map sgI = ms
      simp [-List.map_map]
      exact gcQ_cl (by simp) ⟨rfl, by simp⟩
    · intro i _
      refine eq_of_wp ?_
      simp [wipeD, sYes, sgI]
      by_cases p : 0 < i
      · have q : ¬ i < 0 := by omega
        simp [p, q]
      · by_cases q : i < 0
        · simp [p, q]
        · simp [p, q]
    · omega
theorem law_sign (i : Int) : f__law_sign [.int i] S = .ok (.int (sgI i)) S := by
  refine eq_of_wp ?_
  unfold f__law_sign
  rw [wp_fnD]
  simp [g__law_sign, startD, sgI]
  by_cases p : 0 < i
  · have q : ¬ i < 0 := by omega
    simp [p, q]
    exact gcQ_cl (by simp) ⟨rfl, by simp⟩
  · by_cases q : i < 0
    · simp [p, q]
      exact gcQ_cl (by simp) ⟨rfl, by simp⟩
    · simp [p, q]
      exact gcQ_cl (by simp) ⟨rfl, by simp⟩
theorem law_border {ns : List Int} (h0 : ns ≠ []) (hl : ns.length ≤ 1000) (hb : ∀ i ∈ ns, i.natAbs < 2 ^ 2000) : f__law_border [tI ns] S = .ok (tI (brd ns)) S := by
  have e1 := fun S => least_of (S := S) (d := tI ns) (ns := ns) rfl h0 hl
  have e1 := fun S => law_least30 (S := S) (d := tI ns) (ns := ns) rfl h0 hl
  have e2 := fun S => law_most (S := S) (d := tI ns) (ns := ns) rfl h0 hl
  refine eq_of_wp ?_
  unfold f__law_border
  rw [wp_fnD]
  unfold brd
  cases hc : cutB ns with
  | true =>
    have e3 := fun S => law_primitive28 (S := S) (d := tI ns) (ns := ns) rfl hb (cut_G h0 hc) hl
    unfold cutB at hc
    rw [Bool.and_eq_true, decide_eq_true_eq, decide_eq_true_eq] at hc
    simp [-List.map_map, g__law_border, startD, e1, e2, e3, hc.1, hc.2]
    exact gcQ_cl (by simp) ⟨rfl, by simp⟩
  | false =>
    unfold cutB at hc
    have key : (compGo (compStep (gN 1) sYes (eCall f__law_sign [] (aCons (eVar 1) aNil)) (wipeD [some (tI ns), none] [1])) (ns.map D.int) [] S) = .ok ((ns.map sgI).map D.int) S := by
      rw [comp_ints sgI]
      · intro i _
        refine eq_of_wp ?_
        simp [wipeD, sYes, law_sign]
      · omega
    by_cases p : minL ns < 0
    · have q : ¬ 0 < maxL ns := fun z => by simp [p, z] at hc
      simp [-List.map_map, g__law_border, startD, e1, e2, p, q]
      rw [key]
      generalize ns.map sgI = ms
      simp [-List.map_map]
      exact gcQ_cl (by simp) ⟨rfl, by simp⟩
    · have q' : 0 ≤ minL ns := by omega
      simp [-List.map_map, g__law_border, startD, e1, e2, p, q']
      rw [key]
      generalize ns.map sgI = ms
      simp [-List.map_map]
      exact gcQ_cl (by simp) ⟨rfl, by simp⟩
theorem extC_ofB {S : Store} {n : Nat} {xs ys : List D} (h : S[n]? = some (.lst true xs)) (hs : xs.length + ys.length ≤ 4000000) (hc : closedA n ys = true) : extC (.ref n) (.lst ys) S = .ok .non (S.set n (.lst true (xs ++ ys))) := by
  unfold extC
  rw [cellAt_of h]
  simp only [dr_lst]
  rw [if_pos]
  rw [Bool.and_eq_true]
  exact ⟨by simp [sz]; exact hs, hc⟩
/-- each two words -/
def sts (n : Nat) : List (Nat × Nat) := (List.range n).flatMap fun i => (List.range (n - (i + 1))).map fun j => (i, i + 1 + j)
def seatD (p : Nat × Nat) : D := .tup [.int (p.1 : Int), .int (p.2 : Int)]
theorem seats (hn : n ≤ 6) : f_seats [.int n] S = .ok (.lst ((sts n).map seatD)) S := by
  have key : ∀ n : Nat, n ≤ 6 → f_seats [.int n] S = .ok (.lst ((sts n).map seatD)) (S.take S.length) := fun n hn => by
    have : n = 0 ∨ n = 1 ∨ n = 2 ∨ n = 3 ∨ n = 4 ∨ n = 5 ∨ n = 6 := by omega
    rcases this with rfl | rfl | rfl | rfl | rfl | rfl | rfl <;> kernel_rfl
  rw [key n hn, List.take_length]
theorem _root_.Fk.rng_next {N j : Nat} {x : D} {xs : List D} (hj : j ≤ N) (hx : x :: xs = (rng 0 N).drop j) : j < N ∧ x = .int (j : Int) ∧ xs = (rng 0 N).drop (j + 1) := by
  have hlen : (rng 0 N).length = N := by simp [rng]
  have hj2 : j < N := by
    rcases Nat.lt_or_ge j N with z | z
    · exact z
    · rw [List.drop_of_length_le (by omega)] at hx; cases hx
  rw [List.drop_eq_getElem_cons (by omega)] at hx
  injection hx with hx1 hx2
  exact ⟨hj2, by rw [hx1]; simp [rng], hx2⟩
theorem fzO_lstB {S : Store} {n : Nat} {xs : List D} (h : S[n]? = some (.lst true xs)) : fzO (.ref n) S = .ok (.lst xs) (S.set n (.lst false xs)) := by
  show fzC n S S[n]? = _
  rw [h]
  rfl
def sI (S : Store) (n : Nat) (xs : List D) (ρ : Fk.Env) (S' : Store) : Prop := ∃ (j : Nat) (x2 : Option D), j ≤ n ∧ xs = (rng 0 n).drop j ∧ ρ = [some (.int n), some (.ref S.length), x2, none] ∧
  S' = S ++ [.lst true ((((List.range j).flatMap fun i => (List.range (n - (i + 1))).map fun j => (i, i + 1 + j)) : List (Nat × Nat)).map seatD)]
theorem law_seats (hn : n ≤ 10) : f__law_seats [.int n] S = .ok (.lst ((sts n).map seatD)) S := by
  have hcl : ∀ (k : Nat) (ps : List (Nat × Nat)), closedA k (ps.map seatD) = true := fun k ps => closedA_mem.mpr fun x hx => by
    obtain ⟨p, _, rfl⟩ := List.mem_map.mp hx
    simp [seatD]
  have hlen : ∀ j, j ≤ n → (((List.range j).flatMap fun i => (List.range (n - (i + 1))).map fun j => (i, i + 1 + j)) : List (Nat × Nat)).length ≤ 10 * j := fun j => by
    induction j with
    | zero => simp
    | succ j ih =>
      intro hj
      rw [List.range_succ, List.flatMap_append, List.length_append]
      have := ih (by omega)
      simp at this ⊢
      omega
  refine eq_of_wp ?_
  unfold f__law_seats
  rw [wp_fnD]
  simp [-List.map_map, g__law_seats, startD, okR, sz]
  refine ⟨by omega, ?_⟩
  refine wp_forL (sI S n) ⟨0, none, by omega, rfl, rfl, by simp⟩ ?_ ?_
  · rintro x xs ρ S' ⟨j, x2, hj, hx, rfl, rfl⟩
    obtain ⟨hj2, rfl, rfl⟩ := Fk.rng_next hj hx
    have fin : ∀ x, sI S n ((rng 0 n).drop (j + 1)) [some (.int n), some (.ref S.length), x, none] (S ++ [.lst true ((((List.range j).flatMap fun i => (List.range (n - (i + 1))).map fun j => (i, i + 1 + j)) : List (Nat × Nat)).map seatD ++ (((List.range (n - (j + 1))).map fun i => (j, j + 1 + i)) : List (Nat × Nat)).map seatD)]) := fun x => ⟨j + 1, x, hj2, rfl, rfl, by rw [List.range_succ, List.flatMap_append]; simp⟩
    have hl := hlen j hj
    generalize (((List.range j).flatMap fun i => (List.range (n - (i + 1))).map fun j => (i, i + 1 + j)) : List (Nat × Nat)) = ps at fin hl
    have hat : (S ++ [Cell.lst true (ps.map seatD)])[S.length]? = some (.lst true (ps.map seatD)) := by simp
    have ee := extC_ofB hat (ys := (((List.range (n - (j + 1))).map fun i => (j, j + 1 + i)) : List (Nat × Nat)).map seatD) (by simp; omega) (hcl _ _)
    have es : (S ++ [Cell.lst true (ps.map seatD)]).set S.length (.lst true (ps.map seatD ++ (((List.range (n - (j + 1))).map fun i => (j, j + 1 + i)) : List (Nat × Nat)).map seatD)) = S ++ [.lst true (ps.map seatD ++ (((List.range (n - (j + 1))).map fun i => (j, j + 1 + i)) : List (Nat × Nat)).map seatD)] := by simp
    rw [es] at ee
    have e1 : ((n : Int) - ((j : Int) + 1)).toNat = n - (j + 1) := by omega
    have e2 : rng ((j : Int) + 1) (n - (j + 1)) = (List.range (n - (j + 1))).map fun i : Nat => D.int ((j + 1 + i : Nat) : Int) := by
      unfold rng
      refine List.map_congr_left fun i _ => ?_
      congr 1
    simp [-List.map_map, isL_of hat, okR]
    refine ⟨by omega, ?_⟩
    rw [e1, e2, comp_enc (enc' := seatD) fun i : Nat => (j, j + 1 + i)]
    · generalize (((List.range (n - (j + 1))).map fun i => (j, j + 1 + i)) : List (Nat × Nat)) = qs at ee fin
      simp [-List.map_map, ee]
      exact fin _
    · intro i _
      refine eq_of_wp ?_
      simp [wipeD, sYes, seatD, sz]
    · simp; omega
  · rintro ρ S' ⟨j, x2, hj, hx, rfl, rfl⟩
    have hjn : j = n := by
      rcases Nat.lt_or_ge j n with z | z
      · have hlen : (rng 0 n).length = n := by simp [rng]
        rw [List.drop_eq_getElem_cons (by omega)] at hx
        cases hx
      · omega
    subst hjn
    have es : (((List.range j).flatMap fun i => (List.range (j - (i + 1))).map fun k => (i, i + 1 + k)) : List (Nat × Nat)) = sts j := rfl
    rw [es]
    generalize sts j = ps
    have hat : (S ++ [Cell.lst true (ps.map seatD)])[S.length]? = some (.lst true (ps.map seatD)) := by simp
    simp [-List.map_map]
    rw [fzO_lstB hat]
    simp [-List.map_map]
    exact gcQ_cl (by rw [closed_lst]; exact hcl _ _) ⟨rfl, by simp⟩
end Sp
end

set_option Elab.async false
set_option linter.all false
set_option maxRecDepth 100000
set_option maxHeartbeats 2000000
set_option exponentiation.threshold 3000
noncomputable section
namespace Sp
open PySem PySem.Spec PyProof.Rows L2 Fk Sm
variable {n : Nat} {T S : Store} {E : EX}
/-! ### what is a border, what is no book -/
def isWh : D → Bool
  | .int _ => true
  | _ => false
theorem isWh_iff {d : D} : isWh d = true ↔ ∃ i, d = .int i := by cases d <;> simp [isWh]
theorem wh_ints : ∀ {xs : List D}, xs.all isWh = true → ∃ is : List Int, xs = is.map D.int
  | [], _ => ⟨[], rfl⟩
  | x :: xs, h => by
    rw [List.all_cons, Bool.and_eq_true] at h
    obtain ⟨i, rfl⟩ := isWh_iff.mp h.1
    obtain ⟨is, rfl⟩ := wh_ints h.2
    exact ⟨i :: is, rfl⟩
theorem ints_wh (is : List Int) : (is.map D.int).all isWh = true := by
  rw [List.all_map]
  exact List.all_eq_true.mpr fun _ _ => rfl
theorem is_whole {b : Nat} {d : D} (h : plain b d = true) : f_is_whole [d] S = .ok (.bl (isWh d)) S := by
  refine eq_of_wp ?_
  unfold f_is_whole
  rw [wp_fnD]
  cases d <;> first | (simp [Fk.plain] at h; done) | (simp [g_is_whole, startD, isWh]; exact gcQ_cl (by simp) ⟨rfl, by simp⟩)
theorem law_whole {b : Nat} {d : D} (h : plain b d = true) : f__law_whole_k34 [d] S = .ok (.bl (isWh d)) S := by
  refine eq_of_wp ?_
  unfold f__law_whole_k34
  rw [wp_fnD]
  cases d <;> first | (simp [Fk.plain] at h; done) | (simp [g__law_whole_k34, startD, isWh]; exact gcQ_cl (by simp) ⟨rfl, by simp⟩)
theorem is_whole_row {b : Nat} {xs : List D} (h : ∀ x ∈ xs, plain b x = true) (hl : xs.length ≤ 1000) : f_is_whole_row [.tup xs, .int n] S = .ok (.bl (decide (xs.length = n) && xs.all isWh)) S := by
  have ha : allD [.lst ((xs.map isWh).map D.bl)] S = some (.bl (xs.all isWh)) := by
    rw [all_bls]
    congr 2
    rw [List.all_map]
    rfl
  refine eq_of_wp ?_
  unfold f_is_whole_row
  rw [wp_fnD]
  by_cases q : xs.length = n
  · subst q
    simp [-List.map_map, g_is_whole_row, startD]
    rw [compBl (p := isWh)]
    · simp [-List.map_map, ha]
      exact gcQ_cl (by simp) ⟨rfl, by simp⟩
    · intro x hx
      have := is_whole (S := S) (h x hx)
      refine eq_of_wp ?_
      simp [wipeD, this]
    · omega
  · have q' : ¬ (xs.length : Int) = (n : Int) := by omega
    simp [-List.map_map, g_is_whole_row, startD, q, q']
    exact gcQ_cl (by simp) ⟨rfl, by simp⟩
def asIs : List D → Option (List Int)
  | [] => some []
  | .int i :: xs => (asIs xs).map (i :: ·)
  | _ :: _ => none
theorem asIs_ints : ∀ is : List Int, asIs (is.map D.int) = some is
  | [] => rfl
  | i :: is => by simp [asIs, asIs_ints is]
theorem asIs_none : ∀ {xs : List D}, xs.all isWh = false → asIs xs = none
  | [], h => by simp at h
  | x :: xs, h => by
    rw [List.all_cons, Bool.and_eq_false_iff] at h
    cases x <;> first | rfl | skip
    rename_i i
    rcases h with h | h
    · simp [isWh] at h
    · simp [asIs, asIs_none h]
def brdB : D → Bool
  | .tup xs => decide (2 ≤ xs.length) && (decide (xs.length ≤ 4) && (match asIs xs with | some is => decide (brd is = is) | none => false))
  | _ => false
theorem brdB_ok {d : D} (h : brdB d = true) : ∃ is : List Int, d = tI is ∧ 2 ≤ is.length ∧ is.length ≤ 4 ∧ brd is = is := by
  unfold brdB at h
  split at h
  · next xs =>
    rw [Bool.and_eq_true, Bool.and_eq_true, decide_eq_true_eq, decide_eq_true_eq] at h
    cases hw : xs.all isWh with
    | false => rw [asIs_none hw] at h; simp at h
    | true =>
      obtain ⟨is, rfl⟩ := wh_ints hw
      rw [asIs_ints] at h
      exact ⟨is, rfl, by simpa using h.1, by simpa using h.2.1, by simpa using h.2.2⟩
  · cases h
theorem plainA_mem {b : Nat} {xs : List D} (h : plainA b xs = true) : ∀ x ∈ xs, plain b x = true := plainA_iff.mp h
theorem plain_bits {b : Nat} {is : List Int} (h : plainA b (is.map D.int) = true) (hb : b ≤ 1990) : ∀ i ∈ is, i.natAbs < 2 ^ 2000 := fun i hi => by
  have := plainA_mem h (.int i) (List.mem_map.mpr ⟨i, hi, rfl⟩)
  have : i.natAbs.log2 < b := by simpa [Fk.plain] using this
  have h2 : i.natAbs < 2 ^ (i.natAbs.log2 + 1) := Nat.lt_log2_self
  exact Nat.lt_of_lt_of_le h2 (Nat.pow_le_pow_right (by decide) (by omega))
theorem is_border {b : Nat} {d : D} (h : plain b d = true) (hb : b ≤ 1990) : f_is_border [d] S = .ok (.bl (brdB d)) S := by
  refine eq_of_wp ?_
  unfold f_is_border
  rw [wp_fnD]
  cases d with
  | tup xs =>
    have hp : plainA b xs = true := by simpa [Fk.plain] using h
    by_cases q : 2 ≤ xs.length
    · by_cases p : xs.length ≤ 4
      · have q' : (2 : Int) ≤ (xs.length : Int) := by omega
        have p' : (xs.length : Int) ≤ 4 := by omega
        have e1 := fun S => is_whole_row (n := xs.length) (S := S) (plainA_mem hp) (by omega)
        cases hw : xs.all isWh with
        | true =>
          obtain ⟨is, rfl⟩ := wh_ints hw
          have hne : is ≠ [] := by rintro rfl; simp at q
          have hl : is.length ≤ 4 := by simpa using p
          have e2 := fun S => border_of (S := S) hne (by omega) (plain_bits hp hb)
          have e3 := fun S => eq_tI (S := S) (xs := brd is) (ys := is)
          have eb : brdB (.tup (is.map D.int)) = decide (brd is = is) := by
            unfold brdB
            simp only [asIs_ints, List.length_map] at q p ⊢
            simp [q, p]
          rw [hw] at e1
          rw [eb]
          simp only [List.length_map] at q' p' e1
          generalize brd is = bs at e2 e3
          simp [-List.map_map, g_is_border, startD, q', p', e1, e2, e3]
          exact gcQ_cl (by simp) ⟨rfl, by simp⟩
        | false =>
          rw [hw] at e1
          have eb : brdB (.tup xs) = false := by simp [brdB, asIs_none hw]
          rw [eb]
          simp [-List.map_map, g_is_border, startD, q', p', e1]
          exact gcQ_cl (by simp) ⟨rfl, by simp⟩
      · have eb : brdB (.tup xs) = false := by unfold brdB; simp [p]
        have q' : (2 : Int) ≤ (xs.length : Int) := by omega
        have p' : ¬ (xs.length : Int) ≤ 4 := by omega
        rw [eb]
        simp [-List.map_map, g_is_border, startD, q', p']
        exact gcQ_cl (by simp) ⟨rfl, by simp⟩
    · have eb : brdB (.tup xs) = false := by unfold brdB; simp [q]
      have q' : ¬ (2 : Int) ≤ (xs.length : Int) := by omega
      rw [eb]
      simp [-List.map_map, g_is_border, startD, q']
      exact gcQ_cl (by simp) ⟨rfl, by simp⟩
  | _ => first | (simp [Fk.plain] at h; done) | (simp [g_is_border, startD, brdB]; exact gcQ_cl (by simp) ⟨rfl, by simp⟩)
theorem not_wh {b : Nat} {s : Nat} {ρ : Fk.Env} {xs : List D} (hρ : s < ρ.length) (h : ∀ x ∈ xs, plain b x = true) (hl : xs.length ≤ 1000) :
    compGo (compStep (gN s) (sNot (tOfE (eCall f__law_whole_k34 [] (aCons (eVar s) aNil)))) (eVar s) ρ) xs [] S = .ok (xs.filter fun x => !isWh x) S := by
  have := comp_filter (enc := id) (h := id) (p := fun x => !isWh x) (F := compStep (gN s) (sNot (tOfE (eCall f__law_whole_k34 [] (aCons (eVar s) aNil)))) (eVar s) ρ) (S := S) (as := xs) (fun x hx => by
    have e := law_whole (S := S) (h x hx)
    refine eq_of_wp ?_
    simp [hρ, e]
    cases isWh x <;> simp [List.getElem?_set, hρ]) (by omega)
  simpa using this
theorem not_wh_all {xs : List D} : (xs.filter fun x => !isWh x).isEmpty = xs.all isWh := by
  induction xs with
  | nil => rfl
  | cons x xs ih => cases hx : isWh x <;> simp [hx, ih]
theorem law_is_border {b : Nat} {d : D} (h : plain b d = true) (hb : b ≤ 1990) : f__law_is_border_k34 [d] S = .ok (.bl (brdB d)) S := by
  refine eq_of_wp ?_
  unfold f__law_is_border_k34
  rw [wp_fnD]
  cases d with
  | tup xs =>
    have hp : plainA b xs = true := by simpa [Fk.plain] using h
    by_cases q : 2 ≤ xs.length
    · by_cases p : xs.length ≤ 4
      · have q' : (2 : Int) ≤ (xs.length : Int) := by omega
        have p' : (xs.length : Int) ≤ 4 := by omega
        have e1 := fun S => not_wh (s := 1) (S := S) (ρ := wipeD [some (.tup xs), none] [1]) (by simp [wipeD]) (plainA_mem hp) (by omega)
        have e0 := fun S => neZ_lst (S := S) (xs := xs.filter fun x => !isWh x)
        rw [not_wh_all] at e0
        generalize hf : (xs.filter fun x => !isWh x) = fs at e0 e1
        cases hw : xs.all isWh with
        | true =>
          rw [hw] at e0
          obtain ⟨is, rfl⟩ := wh_ints hw
          have hne : is ≠ [] := by rintro rfl; simp at q
          have hl : is.length ≤ 4 := by simpa using p
          have e2 := fun S => law_border (S := S) hne (by omega) (plain_bits hp hb)
          have e3 := fun S => eq_tI (S := S) (xs := brd is) (ys := is)
          have eb : brdB (.tup (is.map D.int)) = decide (brd is = is) := by
            unfold brdB
            simp only [asIs_ints, List.length_map] at q p ⊢
            simp [q, p]
          rw [eb]
          generalize brd is = bs at e2 e3
          simp only [List.length_map] at q' p'
          simp [-List.map_map, g__law_is_border_k34, startD, q', p', e1, e0, sz, e2, e3]
          exact gcQ_cl (by simp) ⟨rfl, by simp⟩
        | false =>
          rw [hw] at e0
          have eb : brdB (.tup xs) = false := by simp [brdB, asIs_none hw]
          rw [eb]
          simp [-List.map_map, g__law_is_border_k34, startD, q', p', e1, e0, sz]
          exact gcQ_cl (by simp) ⟨rfl, by simp⟩
      · have eb : brdB (.tup xs) = false := by unfold brdB; simp [p]
        have q' : (2 : Int) ≤ (xs.length : Int) := by omega
        have p' : ¬ (xs.length : Int) ≤ 4 := by omega
        rw [eb]
        simp [-List.map_map, g__law_is_border_k34, startD, q', p']
        exact gcQ_cl (by simp) ⟨rfl, by simp⟩
    · have eb : brdB (.tup xs) = false := by unfold brdB; simp [q]
      have q' : ¬ (2 : Int) ≤ (xs.length : Int) := by omega
      rw [eb]
      simp [-List.map_map, g__law_is_border_k34, startD, q']
      exact gcQ_cl (by simp) ⟨rfl, by simp⟩
  | _ => first | (simp [Fk.plain] at h; done) | (simp [g__law_is_border_k34, startD, brdB]; exact gcQ_cl (by simp) ⟨rfl, by simp⟩)
end Sp
end

set_option Elab.async false
set_option linter.all false
set_option maxRecDepth 100000
set_option maxHeartbeats 2000000
set_option exponentiation.threshold 3000
noncomputable section
namespace Sp
open PySem PySem.Spec PyProof.Rows L2 Fk Sm
variable {n : Nat} {T S : Store} {E : EX}
theorem ne_tIB {xs ys : List Int} : opNeA (tI xs) (tI ys) S = some (.bl (!decide (xs = ys))) := by
  rw [neA_of (by cases ys <;> rfl)]
  simp [opNe, neD, dat, datIs, shTI, PyData.eqv, eqvIs]
def wordsB (a b : D) (s : Nat × Nat) : Bool := match a, b with
  | .int i, .int j => decide ([i, j] = [(s.1 : Int), (s.2 : Int)])
  | _, _ => false
def tupLen : D → Nat
  | .tup ys => ys.length
  | _ => 0
def tE (al : Nat) (s : Nat × Nat) (t : D) : Option Str := match t with
  | .tup [a, b, c] => if wordsB a b s = true then (if brdB c = true then (if tupLen c = al then none else some "answers") else some "border") else some "words"
  | _ => some "triple"
def bgo (xs : List D) (al : Nat) : List (Nat × Nat) → Nat → D
  | [], _ => .non
  | s :: ss, k => match tE al s (xs.getD k .non) with
    | some r => .tup [.int (k : Int), .str r]
    | none => bgo xs al ss (k + 1)
def alOf (xs : List D) : Nat := match xs.getD 0 .non with
  | .tup [_, _, c] => tupLen c
  | _ => 0
def wordsN (n : Nat) : Option Nat := if n = 1 then some 2 else if n = 3 then some 3 else if n = 6 then some 4 else if n = 10 then some 5 else if n = 15 then some 6 else none
def berr : D → D
  | .tup xs => match wordsN xs.length with
    | some w => bgo xs (alOf xs) (sts w) 0
    | none => .tup [.non, .str "book"]
  | _ => .tup [.non, .str "book"]
theorem wordsN_sts {n w : Nat} (h : wordsN n = some w) : (sts w).length = n ∧ w ≤ 6 ∧ 2 ≤ w ∧ (n = 1 ∧ w = 2 ∨ n = 3 ∧ w = 3 ∨ n = 6 ∧ w = 4 ∨ n = 10 ∧ w = 5 ∨ n = 15 ∧ w = 6) := by
  unfold wordsN at h
  repeat' split at h
  all_goals first | (cases h; done) | skip
  all_goals
    cases h
    subst_vars
    decide +kernel
theorem enum_next {l : List D} {k : Nat} {x : D} {ys : List D} (hx : x :: ys = (enumL l).drop k) : k < l.length ∧ x = .tup [.int (k : Int), l.getD k .non] ∧ ys = (enumL l).drop (k + 1) := by
  have hlen : (enumL l).length = l.length := by simp [enumL]
  have hk : k < l.length := by
    rcases Nat.lt_or_ge k l.length with z | z
    · exact z
    · rw [List.drop_of_length_le (by omega)] at hx; cases hx
  rw [List.drop_eq_getElem_cons (by omega)] at hx
  injection hx with h1 h2
  exact ⟨hk, by rw [h1]; simp [enumL, hk], h2⟩
def bI (S : Store) (xs : List D) (ss : List (Nat × Nat)) (e : List (Option D)) (rem : List D) (ρ : Fk.Env) (S' : Store) : Prop := S' = S ∧ ∃ (k : Nat) (x1 x2 x3 : Option D), k ≤ ss.length ∧ rem = (enumL (ss.map seatD)).drop k ∧
  ρ = [some (.tup xs), x1, x2, x3] ++ e ∧ bgo xs (alOf xs) (ss.drop k) k = bgo xs (alOf xs) ss 0 ∧ (k = 0 ∨ ∃ (a b : D) (ys rest : List D), xs = .tup [a, b, .tup ys] :: rest)
/-- what stands at a place: no triple, or three things -/
theorem trip_or (t : D) : (∃ a b c, t = .tup [a, b, c]) ∨ (∃ ys, t = .tup ys ∧ ys.length ≠ 3) ∨ ∀ ys, t ≠ .tup ys := by
  cases t with
  | tup ys =>
    by_cases q : ys.length = 3
    · match ys, q with
      | [a, b, c], _ => exact .inl ⟨a, b, c, rfl⟩
    · exact .inr (.inl ⟨ys, rfl, q⟩)
  | _ => exact .inr (.inr fun ys z => by cases z)
theorem tE_no {al : Nat} {s : Nat × Nat} {t : D} (h : (∃ ys, t = .tup ys ∧ ys.length ≠ 3) ∨ ∀ ys, t ≠ .tup ys) : tE al s t = some "triple" := by
  unfold tE
  split
  · next a b c =>
    rcases h with ⟨ys, e, hn⟩ | h
    · cases e; simp at hn
    · exact absurd rfl (h _)
  · rfl
theorem cut2 (a b c : D) : Fk.cutD [a, b, c] none (some 2) = [a, b] := by
  have := cutD_take [a, b, c] 2
  simpa using this
theorem tup_isi {b : Nat} {t : D} (h : plain b t = true) (hn : ∀ ys, t ≠ .tup ys) : ∀ S, isiD "tuple" t S = some (.bl false) := fun S => by
  cases t <;> first | (simp [Fk.plain] at h; done) | (simp; done) | skip
  exact absurd rfl (hn _)
theorem sizes_find (n : Nat) : ([(1, 2), (3, 3), (6, 4), (10, 5), (15, 6)] : List (Int × Int)).find? (fun p => decide (p.1 = (n : Int))) = (wordsN n).map fun w => ((n : Int), (w : Int)) := by
  unfold wordsN
  by_cases h1 : n = 1
  · subst h1; rfl
  by_cases h3 : n = 3
  · subst h3; rfl
  by_cases h6 : n = 6
  · subst h6; rfl
  by_cases h10 : n = 10
  · subst h10; rfl
  by_cases h15 : n = 15
  · subst h15; rfl
  have e1 : ¬ (1 : Int) = n := by omega
  have e3 : ¬ (3 : Int) = n := by omega
  have e6 : ¬ (6 : Int) = n := by omega
  have e10 : ¬ (10 : Int) = n := by omega
  have e15 : ¬ (15 : Int) = n := by omega
  simp [h1, h3, h6, h10, h15, e1, e3, e6, e10, e15]
theorem bgo_cons {xs : List D} {al k : Nat} {s : Nat × Nat} {ss : List (Nat × Nat)} {t : D} (ht : xs.getD k .non = t) : bgo xs al (s :: ss) k = match tE al s t with
    | some r => .tup [.int (k : Int), .str r]
    | none => bgo xs al ss (k + 1) := by
  rw [bgo, ht]
theorem words_row {b : Nat} {a c : D} (ha : plain b a = true) (hc : plain b c = true) : f_is_whole_row [.tup [a, c], .int 2] S = .ok (.bl (isWh a && isWh c)) S := by
  have := is_whole_row (n := 2) (S := S) (b := b) (xs := [a, c]) (by intro x hx; simp at hx; rcases hx with rfl | rfl <;> assumption) (by simp)
  simpa using this
theorem wordsB_wh {a c : D} {s : Nat × Nat} (h : wordsB a c s = true) : a = .int (s.1 : Int) ∧ c = .int (s.2 : Int) := by
  unfold wordsB at h
  split at h
  · have := of_decide_eq_true h
    simp at this
    exact ⟨by rw [this.1], by rw [this.2]⟩
  · cases h
/-- the first triple, once its border is one -/
theorem first_len {xs : List D} {k : Nat} {a c e : D} (ht : xs.getD k .non = .tup [a, c, e]) (he : brdB e = true) (hk : k < xs.length) (hf : k = 0 ∨ ∃ (a b : D) (ys rest : List D), xs = .tup [a, b, .tup ys] :: rest) :
    ∃ (d0 d1 : D) (ys rest : List D), xs = .tup [d0, d1, .tup ys] :: rest ∧ alOf xs = ys.length := by
  rcases hf with rfl | ⟨a', b', ys, rest, rfl⟩
  · obtain ⟨is, rfl, _⟩ := brdB_ok he
    cases xs with
    | nil => simp at hk
    | cons x rest =>
      have : x = .tup [a, c, tI is] := by simpa using ht
      subst this
      exact ⟨a, c, is.map D.int, rest, rfl, by simp [alOf, tupLen]⟩
  · exact ⟨a', b', ys, rest, rfl, by simp [alOf, tupLen]⟩
theorem book_error {b : Nat} {d : D} (h : plain b d = true) (hb : b ≤ 1990) : f_book_error [d] S = .ok (berr d) S := by
  refine eq_of_wp ?_
  unfold f_book_error
  rw [wp_fnD]
  cases d with
  | tup xs =>
    have hp : plainA b xs = true := by simpa [Fk.plain] using h
    have hin : tNin [(1, 2), (3, 3), (6, 4), (10, 5), (15, 6)] (.int (xs.length : Int)) S = some (.bl (wordsN xs.length).isNone) := by
      show some (D.bl _) = _
      rw [sizes_find]
      cases wordsN xs.length <;> rfl
    cases hw : wordsN xs.length with
    | none =>
      rw [hw] at hin
      have eb : berr (.tup xs) = .tup [.non, .str "book"] := by simp [berr, hw]
      rw [eb]
      simp [-List.map_map, g_book_error, startD, hin, sz]
      exact gcQ_cl (by simp) ⟨rfl, by simp⟩
    | some w =>
      rw [hw] at hin
      obtain ⟨hsl, w6, w2, hcases⟩ := wordsN_sts hw
      have eb : berr (.tup xs) = bgo xs (alOf xs) (sts w) 0 := by simp [berr, hw]
      have hget : tGet [(1, 2), (3, 3), (6, 4), (10, 5), (15, 6)] (.int (xs.length : Int)) S = some (.int (w : Int)) := by
        show Option.map _ _ = _
        rw [sizes_find, hw]
        rfl
      have es := fun S => seats (n := w) (S := S) (by omega)
      rw [eb]
      simp [-List.map_map, g_book_error, startD, hin, hget, es]
      generalize hss : sts w = ss at hsl es
      refine wp_forL (bI S xs ss []) ⟨rfl, 0, none, none, none, by omega, rfl, rfl, rfl, .inl rfl⟩ ?_ ?_
      · rintro x ys ρ S' ⟨rfl, k, x1, x2, x3, hk, hx, rfl, hgo, hfirst⟩
        obtain ⟨hk2, rfl, rfl⟩ := enum_next hx
        simp only [List.length_map] at hk2
        have hss2 : (ss.map seatD).getD k .non = seatD (ss.getD k (0, 0)) := by simp [hk2]
        have hat : atI xs (k : Int) = some (xs.getD k .non) := by rw [Fk.atI_nat]; simp [show k < xs.length by omega]
        have hpt : plain b (xs.getD k .non) = true := plainA_mem hp _ (by simp [show k < xs.length by omega])
        have hdrop : ss.drop k = ss.getD k (0, 0) :: ss.drop (k + 1) := by rw [List.drop_eq_getElem_cons hk2]; simp [hk2]
        rw [hdrop] at hgo
        rw [hss2]
        generalize ss.getD k (0, 0) = s at hgo
        generalize ht : xs.getD k .non = t at hat hpt
        rcases trip_or t with ⟨a, c, e, rfl⟩ | h3 | h3
        · rw [bgo_cons ht] at hgo
          obtain ⟨pa, pc, pe⟩ : plain b a = true ∧ plain b c = true ∧ plain b e = true := by simpa [Fk.plain, Fk.plainA] using hpt
          have e1 := fun S => words_row (S := S) pa pc
          have e2 := cut2 a c e
          have at2 : atI [a, c, e] 2 = some e := rfl
          have e3 := fun S => is_border (S := S) pe hb
          cases hwb : wordsB a c s with
          | false =>
            have et : tE (alOf xs) s (.tup [a, c, e]) = some "words" := by simp [tE, hwb]
            rw [et] at hgo
            have fin : gcQ S'.length (fun x S1 => x = bgo xs (alOf xs) ss 0 ∧ S1 = S') (.tup [.int (k : Int), .str "words"]) S' := gcQ_cl (by simp) ⟨hgo, by simp⟩
            cases ha : isWh a with
            | false =>
              rw [ha] at e1
              simp [-List.map_map, hat, e1, e2, sz]
              exact fin
            | true =>
              cases hc : isWh c with
              | false =>
                rw [ha, hc] at e1
                simp [-List.map_map, hat, e1, e2, sz]
                exact fin
              | true =>
                rw [ha, hc] at e1
                obtain ⟨i, rfl⟩ := isWh_iff.mp ha
                obtain ⟨j, rfl⟩ := isWh_iff.mp hc
                have en : opNeA (.tup [.int i, .int j]) (seatD s) S' = some (.bl true) := by
                  have := ne_tIB (S := S') (xs := [i, j]) (ys := [(s.1 : Int), (s.2 : Int)])
                  have hd : decide ([i, j] = [(s.1 : Int), (s.2 : Int)]) = false := hwb
                  rw [hd] at this
                  exact this
                simp [-List.map_map, hat, e1, e2, en, sz]
                exact fin
          | true =>
            obtain ⟨rfl, rfl⟩ := wordsB_wh hwb
            have en : opNeA (.tup [.int (s.1 : Int), .int (s.2 : Int)]) (seatD s) S' = some (.bl false) := by
              have := ne_tIB (S := S') (xs := [(s.1 : Int), (s.2 : Int)]) (ys := [(s.1 : Int), (s.2 : Int)])
              simp only [decide_true, Bool.not_true] at this
              exact this
            cases hbe : brdB e with
            | false =>
              have et : tE (alOf xs) s (.tup [.int (s.1 : Int), .int (s.2 : Int), e]) = some "border" := by simp [tE, hwb, hbe]
              rw [et] at hgo
              rw [hbe] at e3
              simp [-List.map_map, hat, e1, e2, en, at2, e3, isWh, sz]
              exact gcQ_cl (by simp) ⟨hgo, by simp⟩
            | true =>
              rw [hbe] at e3
              obtain ⟨d0, d1, y0, rest, hxs, hal⟩ := first_len ht hbe (by omega) hfirst
              obtain ⟨is, rfl, _⟩ := brdB_ok hbe
              have a0 : atI xs 0 = some (.tup [d0, d1, .tup y0]) := by rw [hxs]; simp
              have a2 : atI [d0, d1, .tup y0] 2 = some (.tup y0) := rfl
              by_cases hlen : is.length = y0.length
              · have et : tE (alOf xs) s (.tup [.int (s.1 : Int), .int (s.2 : Int), tI is]) = none := by simp [tE, hwb, hbe, tupLen, hal, hlen]
                rw [et] at hgo
                simp [-List.map_map, hat, e1, e2, en, at2, e3, a0, a2, isWh, sz, hlen]
                exact ⟨rfl, k + 1, _, _, _, hk2, rfl, rfl, hgo, .inr ⟨d0, d1, y0, rest, hxs⟩⟩
              · have et : tE (alOf xs) s (.tup [.int (s.1 : Int), .int (s.2 : Int), tI is]) = some "answers" := by simp [tE, hwb, hbe, tupLen, hal, hlen]
                rw [et] at hgo
                have hlen' : ¬ (is.length : Int) = (y0.length : Int) := by omega
                simp [-List.map_map, hat, e1, e2, en, at2, e3, a0, a2, isWh, sz, hlen, hlen']
                exact gcQ_cl (by simp) ⟨hgo, by simp⟩
        · rw [bgo_cons ht, tE_no (.inl h3)] at hgo
          obtain ⟨ys, rfl, hys⟩ := h3
          have hys' : ¬ (ys.length : Int) = 3 := by omega
          simp [-List.map_map, hat, hys, hys', sz]
          exact gcQ_cl (by simp) ⟨hgo, by simp⟩
        · rw [bgo_cons ht, tE_no (.inr h3)] at hgo
          have e0 := tup_isi hpt h3
          simp [-List.map_map, hat, e0, sz]
          exact gcQ_cl (by simp) ⟨hgo, by simp⟩
      · rintro ρ S' ⟨rfl, k, x1, x2, x3, hk, hx, rfl, hgo, hfirst⟩
        have hkn : k = ss.length := by
          rcases Nat.lt_or_ge k ss.length with z | z
          · have hlen : (enumL (ss.map seatD)).length = ss.length := by simp [enumL]
            rw [List.drop_eq_getElem_cons (by omega)] at hx
            cases hx
          · omega
        subst hkn
        rw [List.drop_length] at hgo
        simp
        exact gcQ_cl (by simp) ⟨hgo, by simp⟩
  | _ => first | (simp [Fk.plain] at h; done) | (simp [g_book_error, startD, berr, sz]; exact gcQ_cl (by simp) ⟨rfl, by simp⟩)
end Sp
end

set_option Elab.async false
set_option linter.all false
set_option maxRecDepth 100000
set_option maxHeartbeats 2000000
set_option exponentiation.threshold 3000
noncomputable section
namespace Sp
open PySem PySem.Spec PyProof.Rows L2 Fk Sm
variable {n : Nat} {T S : Store} {E : EX}
theorem nin_lI {ws : List Int} {a : Int} : opNin (.int a) (lI ws) S = some (.bl (!decide (a ∈ ws))) := by
  unfold opNin
  have key : inD (.int a) (lI ws) S = some (decide (a ∈ ws)) := by
    unfold inD
    have e0 : dr S (lI ws) = lI ws := rfl
    simp only [lI, dr_int, datIs, dat, Option.bind_some, shaped_int, shLI, Bool.and_self, if_true, e0]
    congr 1
    rw [List.any_map]
    have e : ((fun z => PyData.eqv z (.int a)) ∘ PyData.int) = fun z : Int => decide (z = a) := by
      funext z
      simp [PyData.eqv]
      by_cases q : z = a <;> simp [q]
    rw [e]
    by_cases q : a ∈ ws
    · rw [decide_eq_true q]
      exact List.any_eq_true.mpr ⟨a, q, by simp⟩
    · rw [decide_eq_false q]
      exact List.any_eq_false.mpr fun z hz => by simp; rintro rfl; exact q hz
  rw [key]
  rfl
theorem law_words {xs : List D} {w : Nat} (h : wordsN xs.length = some w) : f__law_words [.tup xs] S = .ok (.int w) S := by
  have hix : opIndex (.lst [.int 1, .int 3, .int 6, .int 10, .int 15]) (.int (xs.length : Int)) S = some (.int ((w : Int) - 2)) := by
    obtain ⟨_, _, _, hc⟩ := wordsN_sts h
    rcases hc with ⟨h1, h2⟩ | ⟨h1, h2⟩ | ⟨h1, h2⟩ | ⟨h1, h2⟩ | ⟨h1, h2⟩ <;> (rw [h1, h2]; kernel_rfl)
  refine eq_of_wp ?_
  unfold f__law_words
  rw [wp_fnD]
  simp [-List.map_map, g__law_words, startD, hix, sz]
  have e : (w : Int) - 2 + 2 = w := by omega
  exact ⟨rfl, gcQ_cl (by simp) ⟨rfl, by simp⟩⟩
theorem law_error {b : Nat} {d : D} (h : plain b d = true) (hb : b ≤ 1990) : f__law_error_k34 [d] S = .ok (berr d) S := by
  refine eq_of_wp ?_
  unfold f__law_error_k34
  rw [wp_fnD]
  cases d with
  | tup xs =>
    have hp : plainA b xs = true := by simpa [Fk.plain] using h
    have hin : opNin (.int (xs.length : Int)) (.lst [.int 1, .int 3, .int 6, .int 10, .int 15]) S = some (.bl (wordsN xs.length).isNone) := by
      have := nin_lI (S := S) (a := (xs.length : Int)) (ws := [1, 3, 6, 10, 15])
      have e : (!decide ((xs.length : Int) ∈ [1, 3, 6, 10, 15])) = (wordsN xs.length).isNone := by
        unfold wordsN
        by_cases h1 : xs.length = 1
        · simp [h1]
        by_cases h3 : xs.length = 3
        · simp [h3]
        by_cases h6 : xs.length = 6
        · simp [h6]
        by_cases h10 : xs.length = 10
        · simp [h10]
        by_cases h15 : xs.length = 15
        · simp [h15]
        simp [h1, h3, h6, h10, h15]
        omega
      rw [e] at this
      exact this
    cases hw : wordsN xs.length with
    | none =>
      rw [hw] at hin
      have eb : berr (.tup xs) = .tup [.non, .str "book"] := by simp [berr, hw]
      rw [eb]
      simp [-List.map_map, g__law_error_k34, startD, hin, sz]
      exact gcQ_cl (by simp) ⟨rfl, by simp⟩
    | some w =>
      rw [hw] at hin
      obtain ⟨hsl, w6, w2, hcases⟩ := wordsN_sts hw
      have eb : berr (.tup xs) = bgo xs (alOf xs) (sts w) 0 := by simp [berr, hw]
      have hget := fun S => law_words (S := S) hw
      have es := fun S => law_seats (n := w) (S := S) (by omega)
      rw [eb]
      simp [-List.map_map, g__law_error_k34, startD, hin, hget, es, sz]
      generalize hss : sts w = ss at hsl es
      refine wp_forL (bI S xs ss [none]) ⟨rfl, 0, none, none, none, by omega, rfl, rfl, rfl, .inl rfl⟩ ?_ ?_
      · rintro x ys ρ S' ⟨rfl, k, x1, x2, x3, hk, hx, rfl, hgo, hfirst⟩
        obtain ⟨hk2, rfl, rfl⟩ := enum_next hx
        simp only [List.length_map] at hk2
        have hss2 : (ss.map seatD).getD k .non = seatD (ss.getD k (0, 0)) := by simp [hk2]
        have hat : atI xs (k : Int) = some (xs.getD k .non) := by rw [Fk.atI_nat]; simp [show k < xs.length by omega]
        have hpt : plain b (xs.getD k .non) = true := plainA_mem hp _ (by simp [show k < xs.length by omega])
        have hdrop : ss.drop k = ss.getD k (0, 0) :: ss.drop (k + 1) := by rw [List.drop_eq_getElem_cons hk2]; simp [hk2]
        rw [hdrop] at hgo
        rw [hss2]
        generalize ss.getD k (0, 0) = s at hgo
        generalize ht : xs.getD k .non = t at hat hpt
        rcases trip_or t with ⟨a, c, e, rfl⟩ | h3 | h3
        · rw [bgo_cons ht] at hgo
          obtain ⟨pa, pc, pe⟩ : plain b a = true ∧ plain b c = true ∧ plain b e = true := by simpa [Fk.plain, Fk.plainA] using hpt
          have e1 := fun S => not_wh (s := 4) (S := S) (ρ := wipeD [some (.tup xs), some (.int (k : Int)), some (seatD s), some (.tup [a, c, e]), none] [4]) (xs := [a, c]) (by simp [wipeD]) (by intro x hx; simp at hx; rcases hx with rfl | rfl <;> assumption) (by simp)
          have e0 := fun S => neZ_lst (S := S) (xs := [a, c].filter fun x => !isWh x)
          rw [not_wh_all, show [a, c].all isWh = (isWh a && isWh c) by simp] at e0
          generalize ([a, c].filter fun x => !isWh x) = fs at e0 e1
          have e2 := cut2 a c e
          have at2 : atI [a, c, e] 2 = some e := rfl
          have e3 := fun S => law_is_border (S := S) pe hb
          cases hwb : wordsB a c s with
          | false =>
            have et : tE (alOf xs) s (.tup [a, c, e]) = some "words" := by simp [tE, hwb]
            rw [et] at hgo
            have fin : gcQ S'.length (fun x S1 => x = bgo xs (alOf xs) ss 0 ∧ S1 = S') (.tup [.int (k : Int), .str "words"]) S' := gcQ_cl (by simp) ⟨hgo, by simp⟩
            cases ha : isWh a with
            | false =>
              rw [ha] at e0
              simp [-List.map_map, hat, e1, e2, e0, sz]
              exact fin
            | true =>
              cases hc : isWh c with
              | false =>
                rw [ha, hc] at e0
                simp [-List.map_map, hat, e1, e2, e0, sz]
                exact fin
              | true =>
                rw [ha, hc] at e0
                obtain ⟨i, rfl⟩ := isWh_iff.mp ha
                obtain ⟨j, rfl⟩ := isWh_iff.mp hc
                have en : opNeA (.tup [.int i, .int j]) (seatD s) S' = some (.bl true) := by
                  have := ne_tIB (S := S') (xs := [i, j]) (ys := [(s.1 : Int), (s.2 : Int)])
                  have hd : decide ([i, j] = [(s.1 : Int), (s.2 : Int)]) = false := hwb
                  rw [hd] at this
                  exact this
                simp [-List.map_map, hat, e1, e2, e0, en, sz]
                exact fin
          | true =>
            obtain ⟨rfl, rfl⟩ := wordsB_wh hwb
            simp only [isWh] at e0
            have en : opNeA (.tup [.int (s.1 : Int), .int (s.2 : Int)]) (seatD s) S' = some (.bl false) := by
              have := ne_tIB (S := S') (xs := [(s.1 : Int), (s.2 : Int)]) (ys := [(s.1 : Int), (s.2 : Int)])
              simp only [decide_true, Bool.not_true] at this
              exact this
            cases hbe : brdB e with
            | false =>
              have et : tE (alOf xs) s (.tup [.int (s.1 : Int), .int (s.2 : Int), e]) = some "border" := by simp [tE, hwb, hbe]
              rw [et] at hgo
              rw [hbe] at e3
              simp [-List.map_map, hat, e1, e2, e0, en, at2, e3, isWh, sz]
              exact gcQ_cl (by simp) ⟨hgo, by simp⟩
            | true =>
              rw [hbe] at e3
              obtain ⟨d0, d1, y0, rest, hxs, hal⟩ := first_len ht hbe (by omega) hfirst
              obtain ⟨is, rfl, _⟩ := brdB_ok hbe
              have a0 : atI xs 0 = some (.tup [d0, d1, .tup y0]) := by rw [hxs]; simp
              have a2 : atI [d0, d1, .tup y0] 2 = some (.tup y0) := rfl
              by_cases hlen : is.length = y0.length
              · have et : tE (alOf xs) s (.tup [.int (s.1 : Int), .int (s.2 : Int), tI is]) = none := by simp [tE, hwb, hbe, tupLen, hal, hlen]
                rw [et] at hgo
                simp [-List.map_map, hat, e1, e2, e0, en, at2, e3, a0, a2, isWh, sz, hlen]
                exact ⟨rfl, k + 1, _, _, _, hk2, rfl, rfl, hgo, .inr ⟨d0, d1, y0, rest, hxs⟩⟩
              · have et : tE (alOf xs) s (.tup [.int (s.1 : Int), .int (s.2 : Int), tI is]) = some "answers" := by simp [tE, hwb, hbe, tupLen, hal, hlen]
                rw [et] at hgo
                have hlen' : ¬ (is.length : Int) = (y0.length : Int) := by omega
                simp [-List.map_map, hat, e1, e2, e0, en, at2, e3, a0, a2, isWh, sz, hlen, hlen']
                exact gcQ_cl (by simp) ⟨hgo, by simp⟩
        · rw [bgo_cons ht, tE_no (.inl h3)] at hgo
          obtain ⟨ys, rfl, hys⟩ := h3
          have hys' : ¬ (ys.length : Int) = 3 := by omega
          simp [-List.map_map, hat, hys, hys', sz]
          exact gcQ_cl (by simp) ⟨hgo, by simp⟩
        · rw [bgo_cons ht, tE_no (.inr h3)] at hgo
          have e0 := tup_isi hpt h3
          simp [-List.map_map, hat, e0, sz]
          exact gcQ_cl (by simp) ⟨hgo, by simp⟩
      · rintro ρ S' ⟨rfl, k, x1, x2, x3, hk, hx, rfl, hgo, hfirst⟩
        have hkn : k = ss.length := by
          rcases Nat.lt_or_ge k ss.length with z | z
          · have hlen : (enumL (ss.map seatD)).length = ss.length := by simp [enumL]
            rw [List.drop_eq_getElem_cons (by omega)] at hx
            cases hx
          · omega
        subst hkn
        rw [List.drop_length] at hgo
        simp
        exact gcQ_cl (by simp) ⟨hgo, by simp⟩
  | _ => first | (simp [Fk.plain] at h; done) | (simp [g__law_error_k34, startD, berr, sz]; exact gcQ_cl (by simp) ⟨rfl, by simp⟩)
end Sp
end

set_option Elab.async false
set_option linter.all false
set_option maxRecDepth 100000
set_option maxHeartbeats 1000000
noncomputable section
namespace DB
open PySem PySem.Spec PyProof.Rows L2 Fk Sm
/-! ### the deck of k28 .. k42 -/
def st (cs : List Int) (t : Int) (T : Store) : Store := .lst true (cs.map D.int) :: .lst true [.ref 0, .int t] :: T
def Dk (n : Nat) (T S : Store) : Prop := ∃ cs t, S = st cs t T ∧ (∀ x ∈ cs, 0 ≤ x) ∧ 0 ≤ t ∧ t ≤ n ∧ cs.length ≤ 63
theorem Dk.mono {n m : Nat} {T S : Store} (h : Dk n T S) (hm : n ≤ m) : Dk m T S := by
  obtain ⟨cs, t, e, h1, h2, h3, h4⟩ := h
  exact ⟨cs, t, e, h1, h2, by omega, h4⟩
theorem Dk.len {n : Nat} {T S : Store} (h : Dk n T S) : S.length = T.length + 2 := by
  obtain ⟨cs, t, rfl, _⟩ := h
  rfl
theorem Dk.take {n : Nat} {T U S : Store} (h : Dk n (T ++ U) S) {k : Nat} (hk : k = T.length + 2) : Dk n T (S.take k) := by
  obtain ⟨cs, t, rfl, h1⟩ := h
  subst hk
  exact ⟨cs, t, by simp [st], h1⟩
theorem Dk.take0 {n : Nat} {T S : Store} (h : Dk n T S) {k : Nat} (hk : k = T.length + 2) : Dk n T (S.take k) := Dk.take (U := []) (by simpa using h) hk
theorem Dk.put {n : Nat} {T S : Store} (h : Dk n T S) (U : Store) : Dk n (T ++ U) (S ++ U) := by
  obtain ⟨cs, t, rfl, h1⟩ := h
  exact ⟨cs, t, by simp [st], h1⟩
theorem Dk.at {n : Nat} {T S : Store} (h : Dk n T S) (i : Nat) : S[i + 2]? = T[i]? := by
  obtain ⟨cs, t, rfl, h1⟩ := h
  rfl
theorem Dk.set {n : Nat} {T S : Store} (h : Dk n T S) (i : Nat) (c : Cell) : Dk n (T.set i c) (S.set (i + 2) c) := by
  obtain ⟨cs, t, rfl, h1⟩ := h
  exact ⟨cs, t, by simp [st], h1⟩
section
variable {cs : List Int} {t : Int} {T : Store}
@[simp] theorem ix_t : opIx (.ref 1) (.int 1) (st cs t T) = some (.int t) := rfl
@[simp] theorem ix_c : opIx (.ref 1) (.int 0) (st cs t T) = some (.ref 0) := rfl
@[simp] theorem ix_n {i : Int} : opIx (.ref 0) (.int i) (st cs t T) = atI (cs.map D.int) i := rfl
@[simp] theorem len_c : lenD [.ref 0] (st cs t T) = some (.int cs.length) := by show some (D.int _) = _; simp
@[simp] theorem set_t {u : Int} : setC (.ref 1) (.int 1) (.int u) (st cs t T) = some (st cs u T) := rfl
theorem set_c {k : Nat} {u : Int} (h : k < cs.length) : setC (.ref 0) (.int k) (.int u) (st cs t T) = some (st (cs.set k u) t T) := by
  show (if closed 0 (.int u) then (ixN (cs.map D.int).length (k : Int)).map _ else none) = _
  simp only [closed_int, if_true, ixN, List.length_map]
  rw [if_pos (by omega), if_pos (by omega)]
  simp [st, List.map_set]
end
theorem draw {n : Nat} {T S : Store} {m : Int} {E : EX} (h : Dk n T S) (hn : n ≤ 10 ^ 12) (h0 : 0 < m) (hm : m.natAbs.log2 < 9000) : (f__law_draw_k28 [.ref 1, .int m] S).wp (fun r S' => ∃ i, r = .int i ∧ 0 ≤ i ∧ i < m ∧ Dk (n + 1) T S') E := by
  obtain ⟨cs, t, rfl, h1, h2, h3, h4⟩ := h
  unfold f__law_draw_k28
  rw [wp_fnD]
  have e0 : divOk m = true := by simp [divOk, h0, hm]
  have em : mulOk 7417 (t + 1) = true := mulOk_of 20 50 (by decide) (by omega) (by decide)
  have fin : ∀ (c : Int), 0 ≤ c → powOk (c % 2147483563 + 7417 * (t + 1) + 13) 5 = true := fun c hc => by
    simp [powOk]
    omega
  have bm := fun (x : Int) => Int.emod_nonneg x (show m ≠ 0 by omega)
  have bl := fun (x : Int) => Int.emod_lt_of_pos x h0
  simp [-Bool.exists_bool, g__law_draw_k28, startD, powOk, sz]
  by_cases hl : 0 < cs.length
  · have hl' : (0 : Int) < (cs.length : Int) := by omega
    have k0 := Int.emod_nonneg (t + 1) (show (cs.length : Int) ≠ 0 by omega)
    have k1 := Int.emod_lt_of_pos (t + 1) hl'
    obtain ⟨k, hk⟩ : ∃ k : Nat, (t + 1) % (cs.length : Int) = k := ⟨((t + 1) % (cs.length : Int)).toNat, by omega⟩
    have hkl : k < cs.length := by omega
    have hx : atI (cs.map D.int) (k : Int) = some (.int cs[k]) := by rw [Fk.atI_nat]; simp [hkl]
    have hc := h1 cs[k] (List.getElem_mem hkl)
    simp [-Bool.exists_bool, hl, hk, hx]
    by_cases hb : 1000000000000000000 ≤ cs[k]
    · simp [-Bool.exists_bool, hb, e0, set_c hkl, h0]
      refine gcQ_cl (by simp) ⟨_, rfl, bm _, bl _, cs.set k (cs[k] / m), t + 1, by simp [st], fun x hx => ?_, by omega, by omega, by simpa using h4⟩
      rcases List.mem_or_eq_of_mem_set hx with q | q
      · exact h1 x q
      · rw [q]
        exact Int.ediv_nonneg hc (by omega)
    · simp [-Bool.exists_bool, hb, em, h0, fin _ hc]
      exact gcQ_cl (by simp) ⟨_, rfl, bm _, bl _, cs, t + 1, by simp [st], h1, by omega, by omega, h4⟩
  · have hn : cs = [] := by cases cs with
      | nil => rfl
      | cons a r => simp at hl
    subst hn
    have := fin 0 (by omega)
    simp at this
    simp [-Bool.exists_bool, em, h0, this]
    exact gcQ_cl (by simp) ⟨_, rfl, bm _, bl _, [], t + 1, by simp [st], by simp, by omega, by omega, by simp⟩
end DB
end

set_option Elab.async false
set_option linter.all false
set_option maxRecDepth 100000
set_option maxHeartbeats 1000000
noncomputable section
namespace DB
open PySem PySem.Spec PyProof.Rows L2 Fk Sm Sp
variable {n : Nat} {T S : Store} {E : EX}
theorem oneD {xs : List D} {d : D} (h : Dk n T S) (hn : n ≤ 10 ^ 12) (hd : ∀ m S', Dk m T S' → dr S' d = .lst xs) (hx : xs ≠ []) (hl : xs.length ≤ 4000000) (hc : ∀ x ∈ xs, closed S.length x = true) : (f__law_one_k28 [.ref 1, d] S).wp (fun r S' => r ∈ xs ∧ Dk (n + 1) T S') E := by
  unfold f__law_one_k28
  rw [wp_fnD]
  have h0 : xs.length ≠ 0 := fun z => hx (List.eq_nil_of_length_eq_zero z)
  have e1 : lenD [d] S = some (.int xs.length) := by
    show (match dr S d with | .lst xs => _ | .tup xs => _ | .scr xs => _ | .str x => _ | .dct kvs => _ | _ => _) = _
    rw [hd _ _ h]
  simp [g__law_one_k28, startD, e1]
  refine (draw h hn (by omega) (log2_len hl)).no fun r S' ⟨i, e, d0, d1, hB⟩ => ?_
  subst e
  obtain ⟨y, hy, hix⟩ := atI_of d0 d1
  refine ⟨y, ?_, rt_cl (hc y hy) ⟨hy, ?_⟩⟩
  · unfold opIx
    rw [hd _ _ hB]
    exact hix
  · exact hB.take0 h.len
theorem one {xs : List D} (h : Dk n T S) (hn : n ≤ 10 ^ 12) (hx : xs ≠ []) (hl : xs.length ≤ 4000000) (hc : ∀ x ∈ xs, closed S.length x = true) : (f__law_one_k28 [.ref 1, .lst xs] S).wp (fun r S' => r ∈ xs ∧ Dk (n + 1) T S') E :=
  oneD h hn (fun _ _ _ => rfl) hx hl hc
theorem deck (ns : List Int) (hl : ns.length ≤ 63) : (f__law_deck_k28 [.scr (ns.map D.int)] []).wp (fun r S' => r = .ref 1 ∧ Dk 0 [] S') E := by
  unfold f__law_deck_k28
  rw [wp_fnD]
  have e1 : Fk.cutD (ns.map D.int) none (some 63) = ns.map D.int := by
    rw [show (63 : Int) = ((63 : Nat) : Int) from rfl, cutD_take]
    exact List.take_of_length_le (by simpa using hl)
  simp [g__law_deck_k28, startD, e1]
  rw [comp_ints fun i : Int => if i < 0 then -i else i]
  · generalize hm : (ns.map fun i : Int => if i < 0 then -i else i) = ms
    have hms : ∀ i ∈ ms, 0 ≤ i := fun i hi => by
      rw [← hm] at hi
      obtain ⟨j, _, rfl⟩ := List.mem_map.mp hi
      split <;> omega
    have hml : ms.length ≤ 63 := by rw [← hm]; simpa using hl
    simp [sz]
    refine ⟨by simp [closed], ?_⟩
    unfold gcQ
    simp [closed]
    exact ⟨ms, 0, rfl, hms, by decide, by decide, hml⟩
  · intro i _
    exact eq_of_wp (by simp [wipeD, sYes])
  · omega
theorem mark (h : Dk n T S) (hn : n ≤ 10 ^ 11) (far : Int) (hf : 6 ≤ far ∧ far ≤ 1000000) : (f__law_mark_k28 [.ref 1, .int far] S).wp (fun r S' => ∃ i, r = .int i ∧ -far ≤ i ∧ i ≤ far ∧ Dk (n + 3) T S') E := by
  unfold f__law_mark_k28
  rw [wp_fnD]
  simp [g__law_mark_k28, startD]
  refine (draw h (by omega) (by decide) (by decide +kernel)).no fun r S1 ⟨d, e, d0, d1, hB⟩ => ?_
  subst e
  by_cases h0 : d = 0
  · simp [h0]
    refine ⟨Fk.mulOk_of 5 30 (by decide) (by omega) (by decide), (draw hB (by omega) (by omega) (log2_of 30 (by decide) (by omega) (by omega))).no fun r S2 ⟨d, e, d0, d1, hB2⟩ => ?_⟩
    subst e
    simp [sz]
    refine (one hB2 (by omega) (by simp) (by simp) (by simp)).no fun r S3 ⟨hr, hB3⟩ => ?_
    simp at hr
    rcases hr with rfl | rfl | rfl | rfl
    · exact rt_cl (closed_int _ _) ⟨_, rfl, by omega, by omega, hB3.take0 h.len⟩
    · exact rt_cl (closed_int _ _) ⟨_, rfl, by omega, by omega, hB3.take0 h.len⟩
    · exact rt_cl (closed_int _ _) ⟨_, rfl, by omega, by omega, hB3.take0 h.len⟩
    · exact rt_cl (closed_int _ _) ⟨_, rfl, by omega, by omega, hB3.take0 h.len⟩
  · simp [h0]
    refine (draw hB (by omega) (by decide) (by decide +kernel)).no fun r S2 ⟨d, e, d0, d1, hB2⟩ => ?_
    subst e
    simp
    exact gcQ_cl (closed_int _ _) ⟨_, rfl, by omega, by omega, (hB2.mono (by omega)).take0 h.len⟩
/-- a row with marks in bounds -/
def RowF (m : Nat) (far : Int) (is : List Int) : Prop := is.length = m ∧ ∀ i ∈ is, -far - 2 ≤ i ∧ i ≤ far
theorem closed_row (k : Nat) (is : List Int) : closed k (rowD is) = true := by simp [rowD]
theorem mixed {d : D} {m : Nat} {far : Int} {rs : List (List Int)} (h : Dk n T S) (hn : n ≤ 10 ^ 11) (hd : ∀ m S', Dk m T S' → dr S' d = .lst (rs.map rowD)) (hne : rs ≠ []) (hl : rs.length ≤ 20) (hm : m ≤ 4) (hr : ∀ is ∈ rs, is.length = m ∧ ∀ i ∈ is, -far ≤ i ∧ i ≤ far) :
    (f__law_mixed_row [.ref 1, d] S).wp (fun r S' => ∃ is, r = rowD is ∧ RowF m far is ∧ Dk (n + 4) T S') E := by
  unfold f__law_mixed_row
  rw [wp_fnD]
  simp [g__law_mixed_row, startD]
  have hc : ∀ k : Nat, ∀ x ∈ rs.map rowD, closed k x = true := fun k x hx => by
    obtain ⟨is, _, rfl⟩ := List.mem_map.mp hx
    exact closed_row k is
  refine (oneD h (by omega) hd (by simpa using hne) (by simp; omega) (hc _)).no fun r S1 ⟨hr1, hB1⟩ => ?_
  obtain ⟨as, has, rfl⟩ := List.mem_map.mp hr1
  simp
  refine (oneD hB1 (by omega) hd (by simpa using hne) (by simp; omega) (hc _)).no fun r S2 ⟨hr2, hB2⟩ => ?_
  obtain ⟨bs, hbs, rfl⟩ := List.mem_map.mp hr2
  simp
  refine (draw hB2 (by omega) (by decide) (by decide +kernel)).no fun r S3 ⟨less, e, l0, l1, hB3⟩ => ?_
  subst e
  simp
  refine (draw hB3 (by omega) (by decide) (by decide +kernel)).no fun r S4 ⟨q, e, q0, q1, hB4⟩ => ?_
  subst e
  obtain ⟨al, ab⟩ := hr as has
  obtain ⟨bl, bb⟩ := hr bs hbs
  by_cases hq : q = 0
  · simp [hq, rowD]
    rw [comp_ints fun i : Int => i]
    · simp
      refine gcQ_cl (by simp) ⟨as, rfl, ⟨al, fun i hi => ?_⟩, hB4.take0 h.len⟩
      have := ab i hi
      omega
    · intro i _
      exact eq_of_wp (by simp [wipeD, sYes])
    · omega
  · simp [hq, rowD]
    rw [comp_ints fun p : Int × Int => (p.1 + p.2) / 2 - less]
    · generalize hz : ((as.zip bs).map fun p : Int × Int => (p.1 + p.2) / 2 - less) = zs
      simp
      refine gcQ_cl (by simp) ⟨zs, rfl, ⟨by rw [← hz]; simp [al, bl], fun i hi => ?_⟩, hB4.take0 h.len⟩
      rw [← hz] at hi
      obtain ⟨p, hp, rfl⟩ := List.mem_map.mp hi
      obtain ⟨h1, h2⟩ := List.of_mem_zip hp
      have := ab _ h1
      have := bb _ h2
      omega
    · rintro ⟨a, b⟩ _
      exact eq_of_wp (by simp [wipeD, sYes, divOk, show Nat.log2 2 < 9000 by decide])
    · simp; omega
end DB
end

set_option Elab.async false
set_option linter.all false
set_option maxRecDepth 100000
set_option maxHeartbeats 2000000
noncomputable section
namespace DB
open PySem PySem.Spec PyProof.Rows L2 Fk Sm Sp
variable {n : Nat} {T S : Store} {E : EX}
theorem one_far (h : Dk n T S) (hn : n ≤ 10 ^ 12) : (f__law_one_k28 [.ref 1, .lst [.int 9, .int 60, .int 1000000]] S).wp (fun r S' => ∃ f, r = .int f ∧ 6 ≤ f ∧ f ≤ 1000000 ∧ Dk (n + 1) T S') E := by
  refine (one h hn (by simp) (by simp) (by simp)).conseq fun r S' ⟨hr, hB⟩ => ?_
  simp at hr
  rcases hr with rfl | rfl | rfl
  · exact ⟨_, rfl, by decide, by decide, hB⟩
  · exact ⟨_, rfl, by decide, by decide, hB⟩
  · exact ⟨_, rfl, by decide, by decide, hB⟩
theorem menu (h : Dk n T S) (most : Int) (hm : 1 ≤ most ∧ most ≤ 20) (hn : n ≤ 10 ^ 10) : (f__law_menu_k28 [.ref 1, .int most] S).wp (fun r S' => ∃ (m : Nat) (rs : List (List Int)), Mn m rs ∧ rs.length ≤ most ∧ r = mD rs ∧ Dk (n + 1000) T S') E := by
  unfold f__law_menu_k28
  rw [wp_fnD]
  simp [g__law_menu_k28, startD]
  refine (draw h (by omega) (by decide) (by decide +kernel)).no fun r S1 ⟨d, e, d0, d1, hB⟩ => ?_
  subst e
  obtain ⟨m, rfl⟩ : ∃ m : Nat, d = m := ⟨d.toNat, by omega⟩
  simp [sz]
  have hB1 := hB.put [.lst true []]
  refine (one_far hB1 (by omega)).no fun r S2 ⟨far, e, f0, f1, hB2⟩ => ?_
  subst e
  simp
  refine (draw (m := most) hB2 (by omega) (by omega) (log2_of 9 (by decide) (by omega) (by omega))).no fun r S3 ⟨q, e, q0, q1, hB3⟩ => ?_
  subst e
  obtain ⟨k, rfl⟩ : ∃ k : Nat, q = k := ⟨q.toNat, by omega⟩
  have hl1 : List.length S1 = T.length + 2 := hB.len
  simp [okR]
  have hcl : ∀ is : List Int, ∀ N, closed N (rowD is) = true := fun is N => by simp [rowD]
  let RF : List Int → Prop := fun is => is.length = 2 + m ∧ ∀ i ∈ is, -far ≤ i ∧ i ≤ far
  refine ⟨by omega, wp_forL (fun xs ρ S => ∃ (rs : List (List Int)) (x y z w : Option D), ρ = [some (.ref 1), some (.int most), some (.int (2 + (m : Int))), some (.ref (T.length + 2)), some (.int far), x, y, z, w] ∧ rs.length + xs.length = 1 + k ∧ (∀ is ∈ rs, RF is) ∧ Dk (n + 3 + 30 * rs.length) (T ++ [.lst true (rs.map rowD)]) S) ⟨[], none, none, none, none, by simp [hl1], by simp [rng]; omega, by simp, by simpa using hB3⟩ ?_ ?_⟩
  · rintro x xs ρ S ⟨rs, y1, y2, y3, y4, rfl, hl, hb, hB⟩
    simp only [List.length_cons] at hl
    have hc : S[T.length + 2]? = some (.lst true (rs.map rowD)) := by rw [hB.at]; simp
    have hdr : ∀ m S', Dk m (T ++ [.lst true (rs.map rowD)]) S' → dr S' (.ref (T.length + 2)) = .lst (rs.map rowD) := fun m S' hB' => by
      rw [dr_ref, hB'.at]
      simp [drc]
    have hil : ∀ m S', Dk m (T ++ [.lst true (rs.map rowD)]) S' → isL S' (.ref (T.length + 2)) = true := fun m S' hB' => isL_of (b := true) (xs := rs.map rowD) (by rw [hB'.at]; simp)
    have fin : ∀ (is : List Int) (S' : Store) (m' : Nat), m' ≤ n + 3 + 30 * (rs.length + 1) → Dk m' (T ++ [.lst true (rs.map rowD)]) S' → RF is →
        ∃ S'', appC (.ref (T.length + 2)) (rowD is) S' = .ok .non S'' ∧ ∃ rs' : List (List Int), rs'.length + xs.length = 1 + k ∧ (∀ is ∈ rs', RF is) ∧ Dk (n + 3 + 30 * rs'.length) (T ++ [.lst true (rs'.map rowD)]) S'' := fun is S' m' hm' hB' his => by
      refine ⟨_, appC_of (xs := rs.map rowD) (by rw [hB'.at]; simp) (by simp; omega) (hcl _ _), rs ++ [is], by simp; omega, ?_, ?_⟩
      · intro js hj
        rcases List.mem_append.mp hj with hj | hj
        · exact hb js hj
        · simp at hj; subst hj; exact his
      · have q := (hB'.set T.length (.lst true ((rs ++ [is]).map rowD))).mono (m := n + 3 + 30 * (rs ++ [is]).length) (by simp; omega)
        simpa using q
    have hne := ne_rows (d := .ref (T.length + 2)) (hdr _ _ hB) rfl
    -- a row of marks
    have useRow : ∀ (S' : Store) (m' : Nat), m' ≤ n + 3 + 30 * rs.length + 5 → Dk m' (T ++ [.lst true (rs.map rowD)]) S' →
        ((sExp (eApp (eVar 3) (eOps tupD (aCons (frz (lComp (itR1 (aCons (eVar 2) aNil)) (gN 8) sYes (eCall f__law_mark_k28 [] (aCons (eVar 0) (aCons (eVar 4) aNil))) [8])) aNil)))) [some (.ref 1), some (.int most), some (.int (2 + (m : Int))), some (.ref (T.length + 2)), some (.int far), some x, y2, y3, y4] S').wp
          ⟨fun ρ S'' => ∃ (rs' : List (List Int)) (x y z w : Option D), ρ = [some (.ref 1), some (.int most), some (.int (2 + (m : Int))), some (.ref (T.length + 2)), some (.int far), x, y, z, w] ∧ rs'.length + xs.length = 1 + k ∧ (∀ is ∈ rs', RF is) ∧ Dk (n + 3 + 30 * rs'.length) (T ++ [.lst true (rs'.map rowD)]) S'', fun _ _ => False, fun _ _ => False, fun _ _ => False, fun _ _ _ _ => False⟩ := fun S' m' hm' hB' => by
      simp [hil _ _ hB', okR]
      refine ⟨by omega, wp_compGo (fun ys acc S => ∃ is : List Int, acc = is.map D.int ∧ is.length + ys.length = 2 + m ∧ (∀ i ∈ is, -far ≤ i ∧ i ≤ far) ∧ Dk (m' + 3 * is.length) (T ++ [.lst true (rs.map rowD)]) S) ⟨[], rfl, by simp [rng]; omega, by simp, by simpa using hB'⟩ ?_ ?_⟩
      · rintro y ys acc S ⟨is, rfl, hl, hb, hB⟩
        simp only [List.length_cons] at hl
        simp [wipeD, sYes]
        refine (mark hB (by omega) far ⟨f0, f1⟩).no fun r S' ⟨i, e, i0, i1, hB'⟩ => ?_
        subst e
        refine ⟨by simp [sz]; omega, is ++ [i], by simp, by simp; omega, ?_, hB'.mono (by simp; omega)⟩
        intro j hj
        rcases List.mem_append.mp hj with hj | hj
        · exact hb j hj
        · simp at hj; subst hj; exact ⟨i0, i1⟩
      · rintro acc S ⟨is, rfl, hl, hb, hB⟩
        simp at hl
        simp
        obtain ⟨S3, e3, h3⟩ := fin is S _ (by omega) hB ⟨hl, hb⟩
        have e3' : appC (.ref (T.length + 2)) (.tup (is.map D.int)) S = .ok .non S3 := e3
        rw [e3']
        simpa using h3
    by_cases hrs : rs = []
    · simp [-wp_sExp, hne, hrs, sz]
      refine wpS_mono (useRow S _ (by omega) hB) ?_ ?_ ?_ ?_ ?_
      · rintro ρ S' h
        simpa using h
      · simp
      · simp
      · simp
      · simp
    · simp [-wp_sExp, hne, hrs, sz]
      refine (draw hB (by omega) (by decide) (by decide +kernel)).no fun r S4 ⟨d, e, d0, d1, hB4⟩ => ?_
      subst e
      by_cases hd : d = 0
      · simp [hd]
        refine (mixed (m := 2 + m) (far := far) hB4 (by omega) hdr hrs (by omega) (by omega) hb).no fun r S5 ⟨js, e, hj, hB5⟩ => ?_
        subst e
        simp [hil _ _ hB5, rowD]
        rw [comp_ints fun i : Int => if i > -far then i else -far]
        · generalize hz : (js.map fun i : Int => if i > -far then i else -far) = zs
          simp
          obtain ⟨S3, e3, h3⟩ := fin zs S5 _ (by omega) hB5 ⟨by rw [← hz]; simpa using hj.1, fun i hi => by
            rw [← hz] at hi
            obtain ⟨j, hj2, rfl⟩ := List.mem_map.mp hi
            have := hj.2 j hj2
            split <;> omega⟩
          have e3' : appC (.ref (T.length + 2)) (.tup (zs.map D.int)) S5 = .ok .non S3 := e3
          rw [e3']
          simpa using h3
        · intro i _
          exact eq_of_wp (by simp [wipeD, sYes])
        · rw [hj.1]; omega
      · simp [-wp_sExp, hd]
        refine wpS_mono (useRow S4 _ (by omega) hB4) ?_ ?_ ?_ ?_ ?_
        · rintro ρ S' h
          simpa using h
        · simp
        · simp
        · simp
        · simp
  · rintro ρ S ⟨rs, y1, y2, y3, y4, rfl, hl, hb, hB⟩
    simp at hl
    have ht : tupD [.ref (T.length + 2)] S = some (.tup (rs.map rowD)) := tupD_of (b := true) (by rw [hB.at]; simp)
    simp [ht]
    refine gcQ_cl ?_ ⟨2 + m, rs, ⟨by omega, by omega, by intro z; subst z; simp at hl; omega, fun is his => ⟨(hb is his).1, fun i hi => ?_⟩, by omega⟩, by omega, rfl, (hB.mono (by omega)).take h.len⟩
    · simp [closedA_mem, rowD]
    · have := (hb is his).2 i hi
      omega
/-- a small belief -/
def Bs (m : Nat) (ns : List Int) : Prop := ns.length = m ∧ (∀ i ∈ ns, 0 ≤ i ∧ i < 10 ^ 20) ∧ G ns = 1
theorem Bs.bl {m : Nat} {ns : List Int} (h : Bs m ns) : Bl m ns := ⟨h.1, fun i hi => (h.2.1 i hi).1, fun i hi => natAbs_pow (a := 80) (by have := h.2.1 i hi; omega) (by decide), h.2.2⟩
theorem maxL_pos {ns : List Int} (h : 0 < maxL ns) : ∃ i ∈ ns, i ≠ 0 := by
  cases ns with
  | nil => simp [maxL] at h
  | cons a r => exact ⟨_, maxL_mem (by simp), by omega⟩
theorem belief (h : Dk n T S) (m : Nat) (hm : 2 ≤ m ∧ m ≤ 4) (hn : n ≤ 10 ^ 10) : (f__law_belief_k28 [.ref 1, .int m] S).wp (fun r S' => ∃ ns, r = tI ns ∧ Bs m ns ∧ Dk (n + 20) T S') E := by
  unfold f__law_belief_k28
  rw [wp_fnD]
  have fin : ∀ {ns : List Int} {S' : Store} {q : Nat}, q ≤ n + 20 → Bs m ns → Dk q T S' → (KS.fn (List.length S) (fun r S' => ∃ ns, r = tI ns ∧ Bs m ns ∧ Dk (n + 20) T S') E).rt (.tup (ns.map D.int)) S' := fun hq hb hB => rt_cl (by simp) ⟨_, rfl, hb, (hB.mono hq).take0 h.len⟩
  simp [g__law_belief_k28, startD]
  refine (draw h (by omega) (by decide) (by decide +kernel)).no fun r S1 ⟨d, e, d0, d1, hB1⟩ => ?_
  subst e
  by_cases hd : d = 0
  · simp [hd]
    refine (draw (m := (m : Int)) hB1 (by omega) (by omega) (log2_len (by omega))).no fun r S2 ⟨a, e, a0, a1, hB2⟩ => ?_
    subst e
    obtain ⟨a, rfl⟩ : ∃ a' : Nat, a = a' := ⟨a.toNat, by omega⟩
    simp [okR, rng_eq]
    refine ⟨by omega, ?_⟩
    rw [comp_ints fun k : Nat => if (k : Int) = (a : Int) then (1 : Int) else 0]
    · generalize hz : ((List.range m).map fun k : Nat => if (k : Int) = (a : Int) then (1 : Int) else 0) = zs
      simp only [wp_ok, kF_eq, kA1_eq, wp_aNil, kA2_eq, kO_eq, tup_lst, Option.some.injEq, exists_eq_left']
      refine fin (by omega) ⟨by rw [← hz]; simp, ?_, ?_⟩ hB2
      · intro i hi
        rw [← hz] at hi
        simp at hi
        obtain ⟨k, _, rfl⟩ := hi
        split <;> omega
      · rw [← hz]
        exact unit_G ⟨m, by omega⟩ ⟨a, by omega⟩ (by simp; omega)
    · intro k _
      exact eq_of_wp (by simp [wipeD, sYes])
    · simp; omega
  · simp [-Bool.exists_bool, hd]
    have rest : ∀ (q : Int) (S2 : Store) (m' : Nat), m' ≤ n + 5 → 1 ≤ q → q ≤ 10 ^ 20 → Dk m' T S2 → (kAsg 4 [some (D.ref 1), some (D.int m), some (D.int d), none, none, none, none]
          (kSeq (sSeq (sAsg 5 (frz (lComp (itR1 (aCons (eVar 1) aNil)) (gN 6) sYes (eCall f__law_draw_k28 [] (aCons (eVar 0) (aCons (eVar 4) aNil))) [6])))
              (sRet (eIf (tOfE (eBin opGt (eCall f__law_most [] (aCons (eVar 5) aNil)) (eC (.int 0)))) (eCall f__law_primitive_k28 [] (aCons (eVar 5) aNil)) (eBin opMulA (eTup (aCons (eC (.int 1)) aNil)) (eVar 1)))))
            (KS.fn (List.length S) (fun r S' => ∃ ns, r = tI ns ∧ Bs m ns ∧ Dk (n + 20) T S') E))) (.int q) S2 := fun q S2 m' hm' q1 q2 hB2 => by
      simp [okR]
      refine ⟨by omega, wp_compGo (fun xs acc S => ∃ is : List Int, acc = is.map D.int ∧ is.length + xs.length = m ∧ (∀ i ∈ is, 0 ≤ i ∧ i < 10 ^ 20) ∧ Dk (m' + is.length) T S) ⟨[], rfl, by simp [rng], by simp, by simpa using hB2⟩ ?_ ?_⟩
      · rintro x xs acc S ⟨is, rfl, hl, hb, hB⟩
        simp only [List.length_cons] at hl
        simp [wipeD, sYes]
        refine (draw (m := q) hB (by omega) (by omega) (log2_of 80 (by decide) (by omega) (by omega))).no fun r S' ⟨i, e, i0, i1, hB'⟩ => ?_
        subst e
        refine ⟨by simp [sz]; omega, is ++ [i], by simp, by simp; omega, ?_, hB'.mono (by simp; omega)⟩
        intro j hj
        rcases List.mem_append.mp hj with hj | hj
        · exact hb j hj
        · simp at hj; subst hj; omega
      · rintro acc S3 ⟨is, rfl, hl, hb, hB⟩
        simp at hl
        have hne : is ≠ [] := fun z => by subst z; simp at hl; omega
        have em : f__law_most [.lst (is.map D.int)] S3 = .ok (.int (maxL is)) S3 := law_most rfl hne (by omega)
        simp [-Bool.exists_bool, em]
        by_cases hs : 0 < maxL is
        · obtain ⟨i, hi, hi0⟩ := maxL_pos hs
          have h0 := G_pos hi hi0
          have ep : f__law_primitive_k28 [.lst (is.map D.int)] S3 = .ok (tI (is.map fun i => i / (G is : Int))) S3 := law_primitive28 rfl (fun i hi => natAbs_pow (a := 80) (by have := hb i hi; omega) (by decide)) h0 (by omega)
          simp only [hs, decide_true, kEI_t, wp_eCall, wp_aCons, wp_eVar, wp_aNil, kA1_eq, kA2_eq, kCall_eq, wipeD]
          simp [ep, -List.map_map]
          refine fin (by omega) ⟨by simpa using hl, ?_, G_div h0⟩ hB
          intro j hj
          obtain ⟨k, hk, rfl⟩ := List.mem_map.mp hj
          have hk2 := hb k hk
          exact ⟨Int.ediv_nonneg hk2.1 (by omega), Int.lt_of_le_of_lt (Int.ediv_le_self _ hk2.1) hk2.2⟩
        · have hm2 : opMulA (.tup [D.int 1]) (.int (m : Int)) S3 = some (tI (List.replicate m 1)) := by
            rw [mulT_ok ⟨by simp, by omega, by omega, by simp⟩]
            simp [List.flatten_replicate_singleton]
          simp [hs, sz, hm2]
          have hG : ∀ q : Fin 5, 2 ≤ q.1 → G (List.replicate q.1 1) = 1 := by decide
          have := fin (ns := List.replicate m 1) (q := m' + is.length) (by omega) ⟨by simp, by intro i hi; have := List.eq_of_mem_replicate hi; omega, hG ⟨m, by omega⟩ (by simp; omega)⟩ hB
          exact this
    by_cases h4 : d < 4
    · simp [-Bool.exists_bool, h4, sz]
      refine (one hB1 (by omega) (by simp) (by simp) (by simp)).no fun r S2 ⟨hr, hB2⟩ => ?_
      simp only [List.mem_cons, List.not_mem_nil, or_false] at hr
      rcases hr with rfl | rfl | rfl
      · exact rest _ _ _ (by omega) (by decide) (by decide) hB2
      · exact rest _ _ _ (by omega) (by decide) (by decide) hB2
      · exact rest _ _ _ (by omega) (by decide) (by decide) hB2
    · have r1 := rest (10 ^ 20) S1 _ (by omega) (by decide) (by decide) hB1
      simp [-Bool.exists_bool, h4] at r1 ⊢
      exact r1
end DB
end

set_option Elab.async false
set_option linter.all false
set_option maxRecDepth 100000
set_option maxHeartbeats 4000000
set_option exponentiation.threshold 3000
noncomputable section
namespace K34
open PySem PySem.Spec PyProof.Rows L2 Fk Sm Sp DB
variable {n m : Nat} {T S : Store} {E : EX}
theorem wtA_at {xs : List D} {a : Nat} (h : a < xs.length) : wtA (xs.take a) + (wt xs[a] + 2) + wtA (xs.drop (a + 1)) = wtA xs := by
  have e : xs = xs.take a ++ (xs[a] :: xs.drop (a + 1)) := by rw [← List.drop_eq_getElem_cons h, List.take_append_drop]
  have := congrArg wtA e
  rw [wtA_append] at this
  simp only [wtA] at this
  omega
theorem gdA_take {b w k : Nat} {xs : List D} (h : GdA b w k xs) (a : Nat) : GdA b (wtA (xs.take a)) k (xs.take a) := ⟨(h.sub (List.take_sublist _ _)).p, Nat.le_refl _, (h.sub (List.take_sublist _ _)).k⟩
theorem gdA_drop {b w k : Nat} {xs : List D} (h : GdA b w k xs) (a : Nat) : GdA b (wtA (xs.drop a)) k (xs.drop a) := ⟨(h.sub (List.drop_sublist _ _)).p, Nat.le_refl _, (h.sub (List.drop_sublist _ _)).k⟩
theorem cut_one {xs : List D} {a : Nat} (h : a < xs.length) : Fk.cutD xs (some (a : Int)) (some ((a : Int) + 1)) = [xs[a]] := by
  unfold Fk.cutD
  simp [HT.sIx]
  rw [if_neg (by omega), if_neg (by omega)]
  rw [Nat.min_eq_left (by omega), Nat.min_eq_left (by omega), show a + 1 - a = 1 by omega, List.drop_eq_getElem_cons h]
  rfl
theorem oneGd {xs : List D} {b w k : Nat} (h : Dk n T S) (hn : n ≤ 10 ^ 12) (hx : xs ≠ []) (hl : xs.length ≤ 4000000) (hg : ∀ x ∈ xs, Gd b w k x) : (f__law_one_k28 [.ref 1, .lst xs] S).wp (fun r S' => Gd b w k r ∧ Dk (n + 1) T S') E :=
  (one h hn hx hl fun x hq => (hg x hq).closed).conseq fun r S' ⟨hr, hB⟩ => ⟨hg r hr, hB⟩
theorem odd34 (h : Dk n T S) (hn : n ≤ 10 ^ 10) : (f__law_odd_k34 [.ref 1] S).wp (fun r S' => Gd 200 300 3 r ∧ Dk (n + 1) T S') E := by
  unfold f__law_odd_k34
  rw [wp_fnD]
  simp [-List.map_map, g__law_odd_k34, startD, sz, powOk]
  refine (oneGd (b := 200) (w := 300) (k := 3) h (by omega) (by simp) (by simp) ?_).no fun r S' ⟨hg, hB⟩ => rt_cl hg.closed ⟨hg, hB.take0 h.len⟩
  intro x hx
  simp only [List.mem_cons, List.not_mem_nil, or_false] at hx
  repeat' (rcases hx with rfl | hx)
  all_goals first
    | exact gdB_ok (by decide +kernel)
    | (subst hx; exact gdB_ok (by decide +kernel))
theorem bent34 : ∀ {N b w k n dp : Nat} {v : D} {S : Store} {E : EX}, Dk n T S → n + 4 * N ≤ 10 ^ 8 → Gd b w k v → dp < N → 200 ≤ b → w ≤ 900000 → (f__law_bent_k34 N [.ref 1, v, .int dp] S).wp (fun r S' => Gd b (2 * w + 500) (k + 3) r ∧ Dk (n + 4 * N) T S') E
  | 0, _, _, _, _, _, _, _, _, _, _, _, hk, _, _ => absurd hk (by omega)
  | N + 1, b, w, k, n, dp, v, S, E, h, hn, hv, hk, hb, hw => by
    unfold f__law_bent_k34
    rw [wp_fnD]
    have fin : ∀ {r : D} {S' : Store} {q : Nat}, q ≤ n + 4 * (N + 1) → Gd b (2 * w + 500) (k + 3) r → Dk q T S' → (KS.fn (List.length S) (fun r S' => Gd b (2 * w + 500) (k + 3) r ∧ Dk (n + 4 * (N + 1)) T S') E).rt r S' := fun hm hr hB => rt_cl hr.closed ⟨hr, (hB.mono hm).take0 h.len⟩
    have go : ∀ {S' : Store} {q : Nat} {E' : EX}, q ≤ n + 3 → Dk q T S' → (f__law_odd_k34 [.ref 1] S').wp (KS.fn (List.length S) (fun r S' => Gd b (2 * w + 500) (k + 3) r ∧ Dk (n + 4 * (N + 1)) T S') E).rt E' := fun {S' q E'} hm hB =>
      (odd34 hB (by omega)).no fun r S1 ⟨hr, hB1⟩ => fin (by omega) ((hr.bits (by omega)).mono (by omega) (by omega)) hB1
    by_cases hd0 : dp = 0
    · subst hd0
      simp [-List.map_map, g__law_bent_k34, startD, sz]
      exact go (by omega) h
    obtain ⟨dq, rfl⟩ : ∃ q, dp = q + 1 := ⟨dp - 1, by omega⟩
    have hd1 : ¬ (((dq + 1 : Nat) : Int) = 0) := by omega
    simp only [Int.natCast_add, Int.cast_ofNat_Int] at hd1
    cases v with
    | ref m => exact absurd hv.p (by simp [Fk.plain])
    | scr xs => exact absurd hv.p (by simp [Fk.plain])
    | exn _ _ _ => exact absurd hv.p (by simp [Fk.plain])
    | tup xs =>
      have hxl : xs.length ≤ w := by
        have h1 := wtA_len xs
        have h2 := hv.w
        simp [wt] at h2; omega
      by_cases hx0 : xs = []
      · subst hx0
        simp [-List.map_map, g__law_bent_k34, startD, sz, hd1]
        exact go (by omega) h
      have h0 : xs.length ≠ 0 := fun z => hx0 (List.eq_nil_of_length_eq_zero z)
      obtain ⟨k', rfl⟩ : ∃ k', k = k' + 1 := ⟨k - 1, by have := hv.k; simp [dep] at this; omega⟩
      have hA := hv.tupA
      have hwx := hv.w
      simp only [wt] at hwx
      have hemp : opEqA (.tup xs) (.tup []) S = some (.bl false) := by
        have : opEqA (.tup xs) (.tup []) S = some (.bl xs.isEmpty) := rfl
        rw [this]
        cases xs with
        | nil => exact absurd rfl hx0
        | cons a l => rfl
      simp [-List.map_map, g__law_bent_k34, startD, sz, hd1, hemp]
      refine (draw h (by omega) (by decide) (by decide)).no fun r S1 ⟨z, e, z0, z1, hB1⟩ => ?_
      subst e
      by_cases qz : z = 0
      · subst qz
        simp [-List.map_map]
        exact go (by omega) hB1
      simp [-List.map_map, qz]
      refine (draw (m := (xs.length : Int)) hB1 (by omega) (by omega) (log2_len (by omega))).no fun r S2 ⟨a, e, a0, a1, hB2⟩ => ?_
      subst e
      obtain ⟨a, rfl⟩ : ∃ c : Nat, a = c := ⟨a.toNat, by omega⟩
      simp [-List.map_map, sz]
      refine (draw hB2 (by omega) (by decide) (by decide)).no fun r S3 ⟨way, e, w0, w1, hB3⟩ => ?_
      subst e
      have ha : a < xs.length := by omega
      have hwt := wtA_at ha
      have ct : Fk.cutD xs none (some (a : Int)) = xs.take a := cutD_take _ _
      have cd : Fk.cutD xs (some (a : Int)) none = xs.drop a := cutD_drop _ _
      have cd1 : Fk.cutD xs (some ((a : Int) + 1)) none = xs.drop (a + 1) := cutD_drop _ (a + 1)
      have cm := cut_one ha
      have gt := gdA_take hA a
      have gd := gdA_drop hA a
      have gd1 := gdA_drop hA (a + 1)
      have lt : (xs.take a).length = a := by simp; omega
      have ld : (xs.drop (a + 1)).length = xs.length - (a + 1) := by simp
      have ld0 : (xs.drop a).length = xs.length - a := by simp
      have hdw : wtA (xs.drop a) = wt xs[a] + 2 + wtA (xs.drop (a + 1)) := by rw [List.drop_eq_getElem_cons ha]; simp only [wtA]
      by_cases q0 : way = 0
      · simp [-List.map_map, q0, sz, ct, cd1, -List.length_take, -List.length_drop]
        exact ⟨by omega, fin (by omega) ((gt.append gd1).tup.mono (by omega) (by omega)) hB3⟩
      by_cases q1 : way = 1
      · simp [-List.map_map, q0, q1, sz, ct, cd, cm, -List.length_take, -List.length_drop]
        have gt1 := gdA_take hA (a + 1)
        have lt1 : (xs.take (a + 1)).length = a + 1 := by simp; omega
        have hw1 : wtA (xs.take (a + 1)) = wtA (xs.take a) + (wt xs[a] + 2) := by
          rw [← List.take_append_getElem ha, wtA_append]; simp [wtA]
        exact ⟨by omega, by omega, fin (by omega) ((gt1.append gd).tup.mono (by omega) (by omega)) hB3⟩
      by_cases q2 : way = 2
      · simp [-List.map_map, q0, q1, q2, sz]
        exact fin (by omega) (hA.lst.mono (by omega) (by omega)) hB3
      by_cases q3 : way = 3
      · simp [-List.map_map, q0, q1, q2, q3, sz]
        exact fin (by omega) (hA.rev.tup.mono (by omega) (by omega)) hB3
      · have hix : atI xs (a : Int) = some xs[a] := by rw [Fk.atI_nat]; simp [ha]
        have edq : ((dq : Int) + 1 - 1) = (dq : Int) := by omega
        simp [-List.map_map, q0, q1, q2, q3, sz, ct, cd1, hix, edq, -List.length_take, -List.length_drop]
        have gi : Gd b (wt xs[a]) k' xs[a] := ⟨(hA.mem (List.getElem_mem ha)).p, Nat.le_refl _, (hA.mem (List.getElem_mem ha)).k⟩
        refine (bent34 (N := N) hB3 (by omega) gi (by omega) hb (by omega)).no fun r S4 ⟨hr, hB4⟩ => ?_
        simp [-List.map_map, sz, ct, cd1, -List.length_take, -List.length_drop]
        refine ⟨by omega, by omega, fin (by omega) ?_ hB4⟩
        have q := (gt.mono (Nat.le_refl _) (by omega : k' ≤ k' + 3) |>.append ((GdA.one hr).append (gd1.mono (Nat.le_refl _) (by omega : k' ≤ k' + 3)))).tup
        simp only [List.cons_append, List.nil_append] at q
        exact q.mono (by omega) (by omega)
    | _ =>
      simp [-List.map_map, g__law_bent_k34, startD, sz, hd1]
      exact go (by omega) h
end K34
end

set_option Elab.async false
set_option linter.all false
set_option maxRecDepth 100000
set_option maxHeartbeats 4000000
set_option exponentiation.threshold 3000
noncomputable section
namespace Sp
open Fk
theorem cut_iff {r : List Int} (h : r ≠ []) : cutB r = true ↔ (∃ i ∈ r, i < 0) ∧ ∃ i ∈ r, 0 < i := by
  unfold cutB
  rw [Bool.and_eq_true, decide_eq_true_eq, decide_eq_true_eq]
  constructor
  · rintro ⟨a, b⟩
    exact ⟨⟨_, minL_mem h, a⟩, _, maxL_mem h, b⟩
  · rintro ⟨⟨i, hi, a⟩, j, hj, b⟩
    have := minL_le hi
    have := maxL_le hj
    omega
theorem sgI_pos {i : Int} : 0 < sgI i ↔ 0 < i := by unfold sgI; split <;> (try split) <;> omega
theorem sgI_neg {i : Int} : sgI i < 0 ↔ i < 0 := by unfold sgI; split <;> (try split) <;> omega
theorem sgI_id (i : Int) : sgI (sgI i) = sgI i := by
  have h1 := sgI_pos (i := i)
  have h2 := sgI_neg (i := i)
  unfold sgI at *
  split <;> (try split) <;> simp_all <;> omega
theorem brd_brd {r : List Int} (h : r ≠ []) : brd (brd r) = brd r := by
  cases hc : cutB r with
  | true =>
    have h0 := cut_G h hc
    have e : brd r = r.map fun i => i / (G r : Int) := by unfold brd; rw [hc]; rfl
    have gp : (0 : Int) < (G r : Int) := by omega
    have hd := (Gf_dvd r 0).2
    have hne : (r.map fun i => i / (G r : Int)) ≠ [] := by simpa using h
    have hs : ∀ i ∈ r, (i < 0 → i / (G r : Int) < 0) ∧ (0 < i → 0 < i / (G r : Int)) := fun i hi => by
      obtain ⟨k, hk⟩ := hd i hi
      have hk : i = (G r : Int) * k := hk
      rw [hk, Int.mul_ediv_cancel_left _ (by omega)]
      refine ⟨fun z => ?_, fun z => ?_⟩
      · rcases Int.lt_or_le k 0 with q | q
        · exact q
        · have := Int.mul_nonneg (Int.le_of_lt gp) q; omega
      · rcases Int.lt_or_le 0 k with q | q
        · exact q
        · have := Int.mul_nonneg (Int.le_of_lt gp) (show 0 ≤ -k by omega)
          rw [Int.mul_neg] at this
          omega
    have hc2 : cutB (r.map fun i => i / (G r : Int)) = true := by
      obtain ⟨⟨i, hi, a⟩, j, hj, b⟩ := (cut_iff h).mp hc
      exact (cut_iff hne).mpr ⟨⟨_, List.mem_map.mpr ⟨i, hi, rfl⟩, (hs i hi).1 a⟩, _, List.mem_map.mpr ⟨j, hj, rfl⟩, (hs j hj).2 b⟩
    rw [e]
    have hg := G_div h0
    unfold brd
    rw [hc2]
    simp only [if_true]
    rw [hg]
    simp
  | false =>
    have e : brd r = r.map sgI := by unfold brd; rw [hc]; rfl
    have hne : r.map sgI ≠ [] := by simpa using h
    have hc2 : cutB (r.map sgI) = false := by
      cases hq : cutB (r.map sgI) with
      | false => rfl
      | true =>
        obtain ⟨⟨i, hi, a⟩, j, hj, b⟩ := (cut_iff hne).mp hq
        obtain ⟨i, hi', rfl⟩ := List.mem_map.mp hi
        obtain ⟨j, hj', rfl⟩ := List.mem_map.mp hj
        have := (cut_iff h).mpr ⟨⟨i, hi', sgI_neg.mp a⟩, j, hj', sgI_pos.mp b⟩
        rw [hc] at this
        cases this
    rw [e]
    unfold brd
    rw [hc2]
    simp [sgI_id]
theorem brd_small {r : List Int} {c : Nat} (h : ∀ i ∈ r, i.natAbs ≤ c) (hc : 1 ≤ c) : ∀ i ∈ brd r, i.natAbs ≤ c := by
  intro i hi
  unfold brd at hi
  split at hi
  · obtain ⟨j, hj, rfl⟩ := List.mem_map.mp hi
    have := h j hj
    have h2 : (j / (G r : Int)).natAbs ≤ j.natAbs := by
      obtain ⟨k, hk⟩ := (Gf_dvd r 0).2 j hj
      have hk : j = (G r : Int) * k := hk
      by_cases g0 : G r = 0
      · rw [g0]; simp
      · rw [hk, Int.mul_ediv_cancel_left _ (by omega), Int.natAbs_mul]
        have : 1 ≤ ((G r : Int)).natAbs := by omega
        exact Nat.le_mul_of_pos_left _ this
    omega
  · obtain ⟨j, hj, rfl⟩ := List.mem_map.mp hi
    unfold sgI
    split <;> (try split) <;> simp <;> omega
end Sp
namespace DB
open PySem PySem.Spec PyProof.Rows L2 Fk Sm Sp
variable {n m w : Nat} {T S : Store} {E : EX}
/-! ### books -/
abbrev tripD (p : (Nat × Nat) × List Int) : D := .tup [.int (p.1.1 : Int), .int (p.1.2 : Int), tI p.2]
abbrev bkD (ps : List ((Nat × Nat) × List Int)) : D := .tup (ps.map tripD)
structure EdOk (m : Nat) (e : List Int) : Prop where
  len : e.length = m
  small : ∀ i ∈ e, i.natAbs ≤ 2000000
  id : brd e = e
structure Bk (m w : Nat) (ps : List ((Nat × Nat) × List Int)) : Prop where
  st : ps.map Prod.fst = sts w
  w2 : 2 ≤ w
  w6 : w ≤ 6
  m2 : 2 ≤ m
  m4 : m ≤ 4
  ed : ∀ p ∈ ps, EdOk m p.2
theorem EdOk.of {e : List Int} (hl : e.length = m) (h0 : 0 < m) (hs : ∀ i ∈ e, i.natAbs ≤ 2000000) : EdOk m (brd e) := ⟨by rw [brd_len, hl], brd_small hs (by decide), brd_brd (by intro z; rw [z] at hl; simp at hl; omega)⟩
theorem EdOk.bits {e : List Int} (h : EdOk m e) : ∀ i ∈ e, i.natAbs < 2 ^ 2000 := fun i hi => natAbs_pow (a := 21) (by have := h.small i hi; omega) (by decide)
theorem sts_mem {w : Nat} {p : Nat × Nat} (h : p ∈ sts w) : p.1 < p.2 ∧ p.2 < w := by
  unfold sts at h
  obtain ⟨i, hi, hp⟩ := List.mem_flatMap.mp h
  obtain ⟨j, hj, rfl⟩ := List.mem_map.mp hp
  have hi : i < w := by simpa using hi
  have hj : j < w - (i + 1) := by simpa using hj
  constructor <;> simp <;> omega
theorem sts_len (h : w ≤ 6) : (sts w).length ≤ 15 := by
  have : ∀ w, w ≤ 6 → (sts w).length ≤ 15 := by decide +kernel
  exact this w h
def mns (a b : List Int) : List Int := (a.zip b).map fun p => p.1 - p.2
theorem law_minus {a b : List Int} (hl : a.length ≤ 1000) : f__law_minus [tI a, tI b] S = .ok (tI (mns a b)) S := by
  refine eq_of_wp ?_
  unfold f__law_minus
  rw [wp_fnD]
  simp [-List.map_map, g__law_minus, startD]
  rw [comp_ints fun p : Int × Int => p.1 - p.2]
  · have e : ((a.zip b).map fun p : Int × Int => p.1 - p.2) = mns a b := rfl
    rw [e]
    generalize mns a b = q
    simp [-List.map_map]
    exact gcQ_cl (by simp) ⟨rfl, by simp⟩
  · rintro ⟨x, y⟩ _
    refine eq_of_wp ?_
    simp [wipeD, sYes]
  · simp; omega
theorem mns_ok {a b : List Int} (ha : RowOk m a) (hb : RowOk m b) : (mns a b).length = m ∧ ∀ i ∈ mns a b, i.natAbs ≤ 2000000 := by
  refine ⟨by simp [mns, ha.1, hb.1], fun i hi => ?_⟩
  obtain ⟨⟨x, y⟩, hp, rfl⟩ := List.mem_map.mp hi
  obtain ⟨h1, h2⟩ := List.of_mem_zip hp
  have := ha.2 x h1
  have := hb.2 y h2
  simp only
  omega
/-- the book of some rows -/
def bookL (rs : List (List Int)) : List ((Nat × Nat) × List Int) := (sts rs.length).map fun p => (p, brd (mns (rs.getD p.1 []) (rs.getD p.2 [])))
theorem bookL_ok {rs : List (List Int)} (h : Mn m rs) (h2 : 2 ≤ rs.length) (h6 : rs.length ≤ 6) : Bk m rs.length (bookL rs) := by
  refine ⟨by simp [bookL, List.map_map, Function.comp_def], h2, h6, h.m2, h.m4, fun p hp => ?_⟩
  obtain ⟨q, hq, rfl⟩ := List.mem_map.mp hp
  obtain ⟨a, b⟩ := sts_mem hq
  have r1 : RowOk m (rs.getD q.1 []) := h.row _ (by simp [show q.1 < rs.length by omega])
  have r2 : RowOk m (rs.getD q.2 []) := h.row _ (by simp [b])
  obtain ⟨l, s⟩ := mns_ok r1 r2
  exact EdOk.of l (by have := h.m2; omega) s
theorem law_book {rs : List (List Int)} (h : Mn m rs) (h2 : 2 ≤ rs.length) (h6 : rs.length ≤ 6) : f__law_book [mD rs] S = .ok (bkD (bookL rs)) S := by
  have es := fun S => law_seats (n := rs.length) (S := S) (by omega)
  have hl := sts_len h6
  refine eq_of_wp ?_
  unfold f__law_book
  rw [wp_fnD]
  simp [-List.map_map, g__law_book, startD, es]
  rw [comp_enc (enc := seatD) (enc' := tripD) fun p => (p, brd (mns (rs.getD p.1 []) (rs.getD p.2 [])))]
  · have e : ((sts rs.length).map fun p => (p, brd (mns (rs.getD p.1 []) (rs.getD p.2 [])))) = bookL rs := rfl
    rw [e]
    generalize bookL rs = q
    simp [-List.map_map]
    refine gcQ_cl ?_ ⟨rfl, by simp⟩
    simp only [closed]
    exact closedA_mem.mpr fun x hx => by obtain ⟨p, _, rfl⟩ := List.mem_map.mp hx; simp [closed]
  · intro p hp
    obtain ⟨a, b⟩ := sts_mem hp
    have r1 : RowOk m (rs.getD p.1 []) := h.row _ (by simp [show p.1 < rs.length by omega])
    have r2 : RowOk m (rs.getD p.2 []) := h.row _ (by simp [b])
    have i1 : atI (rs.map rowD) (p.1 : Int) = some (rowD (rs.getD p.1 [])) := by rw [Fk.atI_nat]; simp [show p.1 < rs.length by omega]
    have i2 : atI (rs.map rowD) (p.2 : Int) = some (rowD (rs.getD p.2 [])) := by rw [Fk.atI_nat]; simp [b]
    obtain ⟨l, s⟩ := mns_ok r1 r2
    have m2 := h.m2
    have m4 := h.m4
    generalize rs.getD p.1 [] = ra at r1 i1 l s
    generalize rs.getD p.2 [] = rb at r2 i2 l s
    have e1 : ∀ S, f__law_minus [rowD ra, rowD rb] S = .ok (tI (mns ra rb)) S := fun S => law_minus (S := S) (a := ra) (b := rb) (by rw [r1.1]; omega)
    have e2 := fun S => law_border (S := S) (ns := mns ra rb) (by intro z; rw [z] at l; simp at l; omega) (by omega) (fun i hi => natAbs_pow (a := 21) (by have := s i hi; omega) (by decide))
    obtain ⟨p1, p2⟩ := p
    refine eq_of_wp ?_
    simp [-List.map_map, wipeD, sYes, seatD, i1, i2, e1, e2, sz]
  · omega
end DB
end

set_option Elab.async false
set_option linter.all false
set_option maxRecDepth 100000
set_option maxHeartbeats 4000000
set_option exponentiation.threshold 3000
noncomputable section
namespace DB
open PySem PySem.Spec PyProof.Rows L2 Fk Sm Sp
variable {n m w : Nat} {T S : Store} {E : EX}
theorem closed_bk (k : Nat) (ps : List ((Nat × Nat) × List Int)) : closedA k (ps.map tripD) = true := closedA_mem.mpr fun x hx => by
  obtain ⟨p, _, rfl⟩ := List.mem_map.mp hx
  simp [closed]
theorem pair_menu (h : Dk n T S) (hn : n ≤ 10 ^ 10) : (f__law_pair_menu [.ref 1] S).wp (fun r S' => ∃ (m : Nat) (rs : List (List Int)), Mn m rs ∧ 2 ≤ rs.length ∧ rs.length ≤ 6 ∧ r = mD rs ∧ Dk (n + 1020) T S') E := by
  unfold f__law_pair_menu
  rw [wp_fnD]
  simp [-List.map_map, g__law_pair_menu, startD]
  refine (menu h 6 (by omega) hn).no fun r S1 ⟨m, rs, hM, hl, er, hB⟩ => ?_
  subst er
  by_cases q : 1 < rs.length
  · have q' : (1 : Int) < (rs.length : Int) := by omega
    simp [-List.map_map, q']
    refine gcQ_cl ?_ ⟨m, rs, hM, by omega, by omega, rfl, (hB.mono (by omega)).take0 h.len⟩
    simp only [closed]
    exact closedA_mem.mpr fun x hx => by obtain ⟨p, _, rfl⟩ := List.mem_map.mp hx; exact closed_row _ _
  · have q' : ¬ (1 : Int) < (rs.length : Int) := by omega
    obtain ⟨is, rest, rfl, hil⟩ := hM.at0
    have m4 := hM.m4
    have m2 := hM.m2
    have hrest : rest = [] := by
      cases rest with
      | nil => rfl
      | cons a l => simp at q
    subst hrest
    have hit : ∀ S, itOf (rowD is) S = .ok (is.map D.int) S := fun _ => rfl
    simp [-List.map_map, hit]
    refine wp_compGo (fun xs acc S => ∃ is2 : List Int, acc = is2.map D.int ∧ is2.length + xs.length = m ∧ (∀ i ∈ is2, i.natAbs ≤ 9) ∧ Dk (n + 1000 + 3 * is2.length) T S) ⟨[], rfl, by simp [hil], by simp, by simpa using hB⟩ ?_ ?_
    · rintro x xs acc S ⟨is2, rfl, hl2, hb, hB2⟩
      simp only [List.length_cons] at hl2
      simp [-List.map_map, wipeD, sYes]
      refine (mark hB2 (by omega) 9 (by omega)).no fun r S' ⟨i, e, i0, i1, hB3⟩ => ?_
      subst e
      refine ⟨by simp [sz]; omega, is2 ++ [i], by simp, by simp; omega, ?_, hB3.mono (by simp; omega)⟩
      intro j hj
      rcases List.mem_append.mp hj with z | z
      · exact hb j z
      · simp at z; omega
    · rintro acc S2 ⟨is2, rfl, hl2, hb, hB2⟩
      simp at hl2
      simp [-List.map_map, sz]
      refine gcQ_cl (by simp [closed_row]) ⟨m, [is, is2], ⟨hM.m2, hM.m4, by simp, fun r hr => ?_, by simp⟩, by simp, by simp, rfl, (hB2.mono (by omega)).take0 h.len⟩
      simp at hr
      rcases hr with rfl | rfl
      · exact hM.row _ (by simp)
      · exact ⟨hl2, fun i hi => by have := hb i hi; omega⟩
theorem brd_same {e : List Int} (h0 : e ≠ []) (h : (∀ i ∈ e, i = 0 ∨ i = 1) ∨ ∀ i ∈ e, i = 0 ∨ i = -1) : brd e = e := by
  have hc : cutB e = false := by
    cases hq : cutB e with
    | false => rfl
    | true =>
      obtain ⟨⟨i, hi, a⟩, j, hj, b⟩ := (cut_iff h0).mp hq
      rcases h with h | h
      · have := h i hi; omega
      · have := h j hj; omega
  unfold brd
  rw [hc]
  have : e.map sgI = e.map id := List.map_congr_left fun i hi => by
    have : i = 0 ∨ i = 1 ∨ i = -1 := by
      rcases h with h | h
      · have := h i hi; omega
      · have := h i hi; omega
    rcases this with rfl | rfl | rfl <;> rfl
  simpa using this
theorem some_border (h : Dk n T S) (hn : n ≤ 10 ^ 10) (m2 : 2 ≤ m) (m4 : m ≤ 4) : (f__law_some_border [.ref 1, .int m] S).wp (fun r S' => ∃ e, r = tI e ∧ EdOk m e ∧ Dk (n + 7) T S') E := by
  have fin : ∀ {e : List Int} {S' : Store} {q : Nat}, q ≤ n + 7 → EdOk m e → Dk q T S' → (KS.fn (List.length S) (fun r S' => ∃ e, r = tI e ∧ EdOk m e ∧ Dk (n + 7) T S') E).rt (tI e) S' := fun {e S' q} hq he hB => rt_cl (by simp) ⟨e, rfl, he, (hB.mono hq).take0 h.len⟩
  unfold f__law_some_border
  rw [wp_fnD]
  simp [-List.map_map, g__law_some_border, startD]
  refine (draw h (by omega) (by decide) (by decide)).no fun r S1 ⟨way, e, w0, w1, hB1⟩ => ?_
  subst e
  by_cases q0 : way = 0
  · have e1 := mulT_rep (S := S1) (d := .int 0) (k := m) (by omega) (by omega)
    have er : List.replicate m (D.int 0) = (List.replicate m (0 : Int)).map D.int := by simp
    rw [er] at e1
    have hE : EdOk m (List.replicate m (0 : Int)) := ⟨by simp, fun i hi => by have := List.eq_of_mem_replicate hi; omega, brd_same (by intro z; have := congrArg List.length z; simp at this; omega) (.inl fun i hi => .inl (List.eq_of_mem_replicate hi))⟩
    generalize List.replicate m (0 : Int) = z at e1 hE
    simp [-List.map_map, q0, e1, sz]
    exact fin (by omega) hE hB1
  by_cases q1 : way = 1
  · simp [-List.map_map, q1, sz]
    refine (one hB1 (by omega) (by simp) (by simp) (by simp)).no fun r S2 ⟨hr, hB2⟩ => ?_
    obtain ⟨side, rfl, hs⟩ : ∃ s : Int, r = .int s ∧ (s = 1 ∨ s = -1) := by
      simp at hr
      rcases hr with rfl | rfl
      · exact ⟨1, rfl, .inl rfl⟩
      · exact ⟨-1, rfl, .inr rfl⟩
    simp [-List.map_map, okR]
    refine ⟨by omega, ?_⟩
    refine wp_compGo (fun xs acc S => ∃ is : List Int, acc = is.map D.int ∧ is.length + xs.length = m ∧ (∀ i ∈ is, i = 0 ∨ i = side) ∧ Dk (n + 2 + is.length) T S) ⟨[], rfl, by simp [rng], by simp, by simpa using hB2⟩ ?_ ?_
    · rintro x xs acc S ⟨is, rfl, hl2, hb, hB3⟩
      simp only [List.length_cons] at hl2
      simp [-List.map_map, wipeD, sYes]
      refine (draw hB3 (by omega) (by decide) (by decide)).no fun r S' ⟨i, e, i0, i1, hB4⟩ => ?_
      subst e
      have hm : mulOk side i = true := mulOk_of 3 3 (by omega) (by omega) (by decide)
      simp [hm]
      refine ⟨by simp [sz]; omega, is ++ [side * i], by simp, by simp; omega, ?_, hB4.mono (by simp; omega)⟩
      intro j hj
      rcases List.mem_append.mp hj with z | z
      · exact hb j z
      · simp at z
        have : i = 0 ∨ i = 1 := by omega
        rcases this with rfl | rfl <;> simp at z <;> omega
    · rintro acc S2 ⟨is, rfl, hl2, hb, hB3⟩
      simp at hl2
      simp [-List.map_map]
      have hne : is ≠ [] := by rintro rfl; simp at hl2; omega
      refine fin (q := n + 2 + is.length) (by omega) ⟨hl2, fun i hi => by have := hb i hi; omega, brd_same hne ?_⟩ hB3
      rcases hs with rfl | rfl
      · exact .inl hb
      · exact .inr hb
  · simp [-List.map_map, q0, q1, okR]
    refine ⟨by omega, ?_⟩
    refine wp_compGo (fun xs acc S => ∃ is : List Int, acc = is.map D.int ∧ is.length + xs.length = m ∧ (∀ i ∈ is, i.natAbs ≤ 4) ∧ Dk (n + 1 + is.length) T S) ⟨[], rfl, by simp [rng], by simp, by simpa using hB1⟩ ?_ ?_
    · rintro x xs acc S ⟨is, rfl, hl2, hb, hB3⟩
      simp only [List.length_cons] at hl2
      simp [-List.map_map, wipeD, sYes]
      refine (draw hB3 (by omega) (by decide) (by decide)).no fun r S' ⟨i, e, i0, i1, hB4⟩ => ?_
      subst e
      simp
      refine ⟨by simp [sz]; omega, is ++ [i - 4], by simp, by simp; omega, ?_, hB4.mono (by simp; omega)⟩
      intro j hj
      rcases List.mem_append.mp hj with z | z
      · exact hb j z
      · simp at z; omega
    · rintro acc S2 ⟨is, rfl, hl2, hb, hB3⟩
      simp at hl2
      have hne : is ≠ [] := by rintro rfl; simp at hl2; omega
      have e1 := fun S => law_border (S := S) hne (by omega) fun i hi => natAbs_pow (a := 3) (b := 2000) (by have := hb i hi; omega) (by decide)
      have hE := EdOk.of hl2 (by omega) fun i hi => by have := hb i hi; omega
      generalize brd is = bb at e1 hE
      simp [-List.map_map, e1]
      exact fin (q := n + 1 + is.length) (by omega) hE hB3
theorem drawn_book (h : Dk n T S) (hn : n ≤ 10 ^ 9) : (f__law_drawn_book [.ref 1] S).wp (fun r S' => ∃ (m w : Nat) (ps : List ((Nat × Nat) × List Int)), Bk m w ps ∧ r = bkD ps ∧ Dk (n + 120) T S') E := by
  unfold f__law_drawn_book
  rw [wp_fnD]
  simp [-List.map_map, g__law_drawn_book, startD]
  refine (draw h (by omega) (by decide) (by decide)).no fun r S1 ⟨i, e, i0, i1, hB1⟩ => ?_
  subst e
  simp [-List.map_map]
  refine (draw hB1 (by omega) (by decide) (by decide)).no fun r S2 ⟨j, e, j0, j1, hB2⟩ => ?_
  subst e
  obtain ⟨w, hw⟩ : ∃ w : Nat, (2 : Int) + i = w := ⟨(2 + i).toNat, by omega⟩
  obtain ⟨m, hm⟩ : ∃ m : Nat, (2 : Int) + j = m := ⟨(2 + j).toNat, by omega⟩
  have es := fun S => law_seats (n := w) (S := S) (by omega)
  have hl := sts_len (w := w) (by omega)
  simp [-List.map_map, hw, hm, es, sz]
  refine wp_compGo (fun xs acc S => ∃ (ps : List ((Nat × Nat) × List Int)) (ss : List (Nat × Nat)), acc = ps.map tripD ∧ xs = ss.map seatD ∧ ps.map Prod.fst ++ ss = sts w ∧ (∀ p ∈ ps, EdOk m p.2) ∧ Dk (n + 2 + 7 * ps.length) T S) ⟨[], sts w, rfl, rfl, rfl, by simp, by simpa using hB2⟩ ?_ ?_
  · rintro x xs acc S ⟨ps, ss, rfl, hx, hst, hb, hB3⟩
    cases ss with
    | nil => cases hx
    | cons s ss =>
      simp only [List.map_cons, List.cons.injEq] at hx
      obtain ⟨rfl, rfl⟩ := hx
      have hpl : ps.length + 1 ≤ 15 := by have := congrArg List.length hst; simp at this; omega
      obtain ⟨s1, s2⟩ := s
      simp [-List.map_map, wipeD, sYes, seatD]
      refine (some_border hB3 (by omega) (by omega) (by omega)).no fun r S' ⟨e, er, he, hB4⟩ => ?_
      subst er
      simp [-List.map_map, sz]
      refine ⟨by omega, ps ++ [((s1, s2), e)], by simp, ss, rfl, by rw [← hst]; simp, ?_, hB4.mono (by simp; omega)⟩
      intro a b c hp
      rcases List.mem_append.mp hp with z | z
      · exact hb _ z
      · simp at z; obtain ⟨_, rfl⟩ := z; exact he
  · rintro acc S3 ⟨ps, ss, rfl, hx, hst, hb, hB3⟩
    have : ss = [] := by simpa using hx.symm
    subst this
    rw [List.append_nil] at hst
    have hpl : ps.length ≤ 15 := by have := congrArg List.length hst; simp at this; omega
    simp [-List.map_map]
    exact gcQ_cl (by simp only [closed]; exact closed_bk _ _) ⟨m, w, ps, ⟨hst, by omega, by omega, by omega, by omega, hb⟩, rfl, (hB3.mono (by omega)).take0 h.len⟩
end DB
end

set_option Elab.async false
set_option linter.all false
set_option maxRecDepth 100000
set_option maxHeartbeats 2000000
namespace Bk0
/-! ### orders turned round by steps: pure -/
def lt' (a : Nat) (l : List Nat) : Nat := (l.filter fun x => decide (x < a)).length
def inv : List Nat → Nat
  | [] => 0
  | a :: l => lt' a l + inv l
def tri : Nat → Nat
  | 0 => 0
  | n + 1 => n + tri n
/-- the two items at k, k + 1 the other way round -/
def sw (l : List Nat) (k : Nat) : List Nat := (l.set k (l.getD (k + 1) 0)).set (k + 1) (l.getD k 0)
theorem sw_len (l : List Nat) (k : Nat) : (sw l k).length = l.length := by simp [sw]
theorem sw_cons (a : Nat) (l : List Nat) (k : Nat) : sw (a :: l) (k + 1) = a :: sw l k := by simp [sw]
theorem lt_sw : ∀ (l : List Nat) (k c : Nat), k + 1 < l.length → lt' c (sw l k) = lt' c l
  | [], k, c, h => by simp at h
  | [a], k, c, h => by simp at h
  | a :: b :: l, 0, c, h => by
    simp only [sw, lt', List.getD_cons_succ, List.getD_cons_zero, List.set_cons_zero, List.set_cons_succ]
    by_cases h1 : a < c <;> by_cases h2 : b < c <;> simp [List.filter_cons, h1, h2]
  | a :: b :: l, k + 1, c, h => by
    rw [sw_cons]
    have ih := lt_sw (b :: l) k c (by simpa using h)
    unfold lt' at ih ⊢
    rw [List.filter_cons, List.filter_cons]
    split <;> simp [ih]
theorem inv_sw : ∀ (l : List Nat) (k : Nat), k + 1 < l.length → l.getD k 0 < l.getD (k + 1) 0 → inv (sw l k) = inv l + 1
  | [], k, h, _ => by simp at h
  | [a], k, h, _ => by simp at h
  | a :: b :: l, 0, h, hlt => by
    have hlt : a < b := by simpa using hlt
    simp only [sw, List.getD_cons_succ, List.getD_cons_zero, List.set_cons_zero, List.set_cons_succ, inv]
    unfold lt'
    have : ¬ b < a := by omega
    simp [List.filter_cons, hlt, this]
    omega
  | a :: b :: l, k + 1, h, hlt => by
    rw [sw_cons]
    have ih := inv_sw (b :: l) k (by simpa using h) (by simpa using hlt)
    have e := lt_sw (b :: l) k a (by simpa using h)
    unfold inv
    rw [ih, e]
    omega
theorem desc : ∀ (l : List Nat), l.Nodup → (∀ k, k + 1 < l.length → ¬ l.getD k 0 < l.getD (k + 1) 0) → inv l = tri l.length ∧ ∀ a t, l = a :: t → ∀ x ∈ t, x < a
  | [], _, _ => ⟨rfl, fun a t h => by cases h⟩
  | [a], _, _ => ⟨by simp [inv, lt', tri], fun b t h x hx => by cases h; cases hx⟩
  | a :: b :: l, nd, h => by
    have nd2 := (List.nodup_cons.mp nd)
    obtain ⟨i1, i2⟩ := desc (b :: l) nd2.2 fun k hk => by
      have := h (k + 1) (by simpa using hk)
      simpa using this
    have hab : b < a := by
      have h0 := h 0 (by simp)
      have : ¬ a < b := by simpa using h0
      have hne : a ≠ b := fun z => nd2.1 (by simp [z])
      omega
    have all : ∀ x ∈ b :: l, x < a := fun x hx => by
      rcases List.mem_cons.mp hx with z | z
      · omega
      · have := i2 b l rfl x z; omega
    refine ⟨?_, fun c t e x hx => by cases e; exact all x hx⟩
    unfold inv
    have e : lt' a (b :: l) = (b :: l).length := by
      unfold lt'
      rw [List.filter_eq_self.mpr fun x hx => decide_eq_true (all x hx)]
    rw [e, i1]
    simp [tri]
theorem asc {l : List Nat} (nd : l.Nodup) (h : inv l < tri l.length) : ∃ k, k + 1 < l.length ∧ l.getD k 0 < l.getD (k + 1) 0 := by
  refine Classical.byContradiction fun hn => ?_
  have := (desc l nd fun k hk hl => hn ⟨k, hk, hl⟩).1
  omega
theorem inv_range : ∀ n, inv (List.range n) = 0 := by
  have key : ∀ (n s : Nat), inv (List.range' s n) = 0 := fun n => by
    induction n with
    | zero => intro s; rfl
    | succ n ih =>
      intro s
      rw [List.range'_succ]
      unfold inv
      rw [ih]
      have : lt' s (List.range' (s + 1) n) = 0 := by
        unfold lt'
        rw [List.length_eq_zero_iff, List.filter_eq_nil_iff]
        intro x hx
        have := List.mem_range'_1.mp hx
        simp
        omega
      omega
  intro n
  rw [List.range_eq_range']
  exact key n 0
theorem sw_at {l : List Nat} {k : Nat} (h : k + 1 < l.length) (u : Nat) : (sw l k).getD u 0 = if u = k then l.getD (k + 1) 0 else if u = k + 1 then l.getD k 0 else l.getD u 0 := by
  unfold sw
  by_cases h1 : u = k
  · subst h1
    simp [List.getElem?_set, show u < l.length by omega, show ¬ u + 1 = u by omega]
  · by_cases h2 : u = k + 1
    · subst h2
      simp [List.getElem?_set, h, show ¬ (k + 1 = k) by omega]
    · simp [List.getElem?_set, h1, h2, Ne.symm h1, Ne.symm h2]
theorem nodup_at {l : List Nat} (nd : l.Nodup) {u v : Nat} (hu : u < l.length) (hv : v < l.length) (h : l.getD u 0 = l.getD v 0) : u = v := by
  have e1 : l.getD u 0 = l[u] := by simp [hu]
  have e2 : l.getD v 0 = l[v] := by simp [hv]
  rw [e1, e2] at h
  have p := List.pairwise_iff_getElem.mp nd
  rcases Nat.lt_trichotomy u v with z | z | z
  · exact absurd h (p u v hu hv z)
  · exact z
  · exact absurd h.symm (p v u hv hu z)
theorem sw_perm : ∀ (l : List Nat) (k : Nat), k + 1 < l.length → (sw l k).Perm l
  | [], k, h => by simp at h
  | [a], k, h => by simp at h
  | a :: b :: l, 0, _ => by
    simp only [sw, List.getD_cons_succ, List.getD_cons_zero, List.set_cons_zero, List.set_cons_succ]
    exact List.Perm.swap a b l
  | a :: b :: l, k + 1, h => by
    rw [sw_cons]
    exact (sw_perm (b :: l) k (by simpa using h)).cons a
/-- what is kept of the order and the keys -/
structure Ok (w : Nat) (o : List Nat) (ks : List (Nat × Nat)) : Prop where
  perm : o.Perm (List.range w)
  nd : ks.Nodup
  lt : ∀ p ∈ ks, p.1 < p.2 ∧ p.2 < w
  no : ∀ u v, u < v → v < w → (o.getD u 0, o.getD v 0) ∉ ks
  cnt : inv o = ks.length
theorem Ok.len {w : Nat} {o : List Nat} {ks : List (Nat × Nat)} (h : Ok w o ks) : o.length = w := by simpa using h.perm.length_eq
theorem Ok.nod {w : Nat} {o : List Nat} {ks : List (Nat × Nat)} (h : Ok w o ks) : o.Nodup := h.perm.nodup_iff.mpr List.nodup_range
theorem Ok.start (w : Nat) : Ok w (List.range w) [] := ⟨List.Perm.refl _, List.nodup_nil, fun p hp => (by cases hp), fun u v _ _ => (by simp), (by simp [inv_range])⟩
theorem Ok.val {w : Nat} {o : List Nat} {ks : List (Nat × Nat)} (h : Ok w o ks) {u : Nat} (hu : u < w) : o.getD u 0 < w := by
  have hl := h.len
  have : o.getD u 0 ∈ o := by simp [show u < o.length by omega]
  have := h.perm.mem_iff.mp this
  simpa using this
theorem Ok.step {w : Nat} {o : List Nat} {ks : List (Nat × Nat)} (h : Ok w o ks) {k : Nat} (hk : k + 1 < w) (hlt : o.getD k 0 < o.getD (k + 1) 0) : (o.getD k 0, o.getD (k + 1) 0) ∉ ks ∧ Ok w (sw o k) (ks ++ [(o.getD k 0, o.getD (k + 1) 0)]) := by
  have hl := h.len
  have new := h.no k (k + 1) (by omega) hk
  refine ⟨new, (sw_perm o k (by omega)).trans h.perm, ?_, fun p hp => ?_, fun u v huv hv hin => ?_, by rw [inv_sw o k (by omega) hlt, h.cnt]; simp⟩
  · rw [List.nodup_append]
    refine ⟨h.nd, by simp, fun a ha b hb => ?_⟩
    simp at hb
    subst hb
    intro z
    subst z
    exact new ha
  · rcases List.mem_append.mp hp with z | z
    · exact h.lt p z
    · simp at z
      subst z
      exact ⟨hlt, h.val (by omega)⟩
  · have hu : u < o.length := by omega
    rw [sw_at (by omega), sw_at (by omega)] at hin
    have old : ∀ u' v', u' < v' → v' < w → ¬ (u' = k ∧ v' = k + 1) → (o.getD u' 0, o.getD v' 0) ∉ ks ++ [(o.getD k 0, o.getD (k + 1) 0)] := fun u' v' a b c z => by
      rcases List.mem_append.mp z with z | z
      · exact h.no u' v' a b z
      · simp only [List.mem_cons, List.not_mem_nil, or_false, Prod.mk.injEq] at z
        exact c ⟨nodup_at h.nod (by omega) (by omega) z.1, nodup_at h.nod (by omega) (by omega) z.2⟩
    by_cases u1 : u = k
    · rw [if_pos u1] at hin
      by_cases v1 : v = k + 1
      · rw [if_neg (by omega), if_pos v1] at hin
        rcases List.mem_append.mp hin with z | z
        · have := (h.lt _ z).1
          simp only at this
          omega
        · simp only [List.mem_cons, List.not_mem_nil, or_false, Prod.mk.injEq] at z
          omega
      · rw [if_neg (by omega), if_neg v1] at hin
        exact old (k + 1) v (by omega) hv (by omega) hin
    · rw [if_neg u1] at hin
      by_cases u2 : u = k + 1
      · rw [if_pos u2, if_neg (by omega), if_neg (by omega)] at hin
        exact old k v (by omega) hv (by omega) hin
      · rw [if_neg u2] at hin
        by_cases v1 : v = k
        · rw [if_pos v1] at hin
          exact old u (k + 1) (by omega) hk (by omega) hin
        · rw [if_neg v1] at hin
          by_cases v2 : v = k + 1
          · rw [if_pos v2] at hin
            exact old u k (by omega) (by omega) (by omega) hin
          · rw [if_neg v2] at hin
            exact old u v huv hv (by omega) hin
theorem len_sub {α : Type} [DecidableEq α] : ∀ {ks L : List α}, ks.Nodup → (∀ x ∈ ks, x ∈ L) → ks.length ≤ L.length
  | [], L, _, _ => by simp
  | x :: ks, L, nd, h => by
    have hx := h x (by simp)
    obtain ⟨n1, n2⟩ := List.nodup_cons.mp nd
    have := len_sub (ks := ks) (L := L.erase x) n2 fun y hy => (List.mem_erase_of_ne (fun z => n1 (by rw [← z]; exact hy))).mpr (h y (by simp [hy]))
    rw [List.length_erase_of_mem hx] at this
    have : 0 < L.length := List.length_pos_of_mem hx
    simp
    omega
theorem all_of {α : Type} [DecidableEq α] {ks L : List α} (nd : ks.Nodup) (h : ∀ x ∈ ks, x ∈ L) (hl : L.length ≤ ks.length) : ∀ x ∈ L, x ∈ ks := fun x hx => by
  refine Classical.byContradiction fun hn => ?_
  have := len_sub (ks := x :: ks) (L := L) (List.nodup_cons.mpr ⟨hn, nd⟩) fun y hy => by
    rcases List.mem_cons.mp hy with z | z
    · subst z; exact hx
    · exact h y z
  simp at this
  omega
end Bk0

set_option Elab.async false
set_option linter.all false
set_option maxRecDepth 100000
set_option maxHeartbeats 4000000
set_option exponentiation.threshold 3000
noncomputable section
namespace DB
open PySem PySem.Spec PyProof.Rows L2 Fk Sm Sp
variable {n m w : Nat} {T S : Store} {E : EX}
theorem ix_refB {k : Nat} {b : Bool} {xs : List D} {i : Int} (h : S[k]? = some (.lst b xs)) : opIx (.ref k) (.int i) S = atI xs i := by
  unfold opIx
  rw [dr_of h]
theorem setC_ofB {S : Store} {n k : Nat} {xs : List D} {y : D} {i : Int} (h : S[n]? = some (.lst true xs)) (hi : i = (k : Int)) (hk : k < xs.length) (hc : closed n y = true) : setC (.ref n) (.int i) y S = some (S.set n (.lst true (xs.set k y))) := by
  subst hi
  unfold setC
  rw [cellAt_of h]
  simp only [hc, if_true, ixN]
  rw [if_pos (by omega), if_pos (by omega)]
  simp
def keyP (p : Nat × Nat) : List Key := [.inl (p.1 : Int), .inl (p.2 : Int)]
def entP (p : (Nat × Nat) × List Int) : List Key × D := (keyP p.1, tI p.2)
theorem keyP_inj {p q : Nat × Nat} (h : keyP p = keyP q) : p = q := by
  unfold keyP at h
  simp at h
  exact Prod.ext (by omega) (by omega)
theorem find_ent {es : List ((Nat × Nat) × List Int)} {p : Nat × Nat} (h : p ∈ es.map Prod.fst) : ∃ e, (p, e) ∈ es ∧ lookD (es.map entP) (keyP p) = some (tI e) := by
  induction es with
  | nil => simp at h
  | cons q es ih =>
    by_cases z : q.1 = p
    · refine ⟨q.2, by rw [← z]; simp, ?_⟩
      simp [lookD, entP, z]
    · have h' : p ∈ es.map Prod.fst := by
        simp only [List.map_cons, List.mem_cons] at h
        rcases h with h | h
        · exact absurd h.symm z
        · exact h
      obtain ⟨e, h1, h2⟩ := ih h'
      refine ⟨e, List.mem_cons_of_mem _ h1, ?_⟩
      have : ¬ keyP q.1 = keyP p := fun y => z (keyP_inj y)
      unfold lookD at h2 ⊢
      rw [List.map_cons, List.find?_cons]
      have e1 : decide ((entP q).1 = keyP p) = false := decide_eq_false this
      rw [e1]
      exact h2
theorem put_ent {es : List ((Nat × Nat) × List Int)} {p : Nat × Nat} {e : List Int} (h : p ∉ es.map Prod.fst) : putD (es.map entP) (keyP p) (tI e) = (es ++ [(p, e)]).map entP := by
  unfold putD
  rw [if_neg]
  · simp [entP]
  · intro z
    obtain ⟨q, hq, hk⟩ := List.any_eq_true.mp z
    obtain ⟨q', hq', rfl⟩ := List.mem_map.mp hq
    have := keyP_inj (of_decide_eq_true hk)
    exact h (List.mem_map.mpr ⟨q', hq', this⟩)
theorem tri_w (hw : w ≤ 6) : (w : Int) * ((w : Int) - 1) / 2 = (Bk0.tri w : Int) ∧ Bk0.tri w = (sts w).length ∧ Bk0.tri w ≤ 15 := by
  have : w = 0 ∨ w = 1 ∨ w = 2 ∨ w = 3 ∨ w = 4 ∨ w = 5 ∨ w = 6 := by omega
  rcases this with rfl | rfl | rfl | rfl | rfl | rfl | rfl <;> decide +kernel
def spI (n w wide : Nat) (T : Store) (xs : List D) (ρ : Fk.Env) (S' : Store) : Prop := ∃ (o : List Nat) (es : List ((Nat × Nat) × List Int)) (far : Nat) (x6 x7 x8 : Option D),
  ρ = [some (.ref 1), some (.int w), some (.ref (T.length + 2)), some (.ref (T.length + 3)), some (.int far), some (.int wide), x6, x7, x8, none, none] ∧ Bk0.Ok w o (es.map Prod.fst) ∧ es.length + xs.length = Bk0.tri w ∧
  (∀ p ∈ es, EdOk 2 p.2) ∧ far ≤ 8 + 10 * es.length ∧ Dk (n + 3 + 2 * es.length) (T ++ [.lst true (o.map fun i : Nat => D.int i), .dT (es.map entP)]) S'
theorem swapped_book (h : Dk n T S) (hn : n ≤ 10 ^ 9) : (f__law_swapped_book_k34 [.ref 1] S).wp (fun r S' => ∃ (m w : Nat) (ps : List ((Nat × Nat) × List Int)), Bk m w ps ∧ r = bkD ps ∧ Dk (n + 120) T S') E := by
  have hl0 : S.length = T.length + 2 := h.len
  unfold f__law_swapped_book_k34
  rw [wp_fnD]
  simp [-List.map_map, g__law_swapped_book_k34, startD]
  refine (draw h (by omega) (by decide) (by decide)).no fun r S1 ⟨i, e, i0, i1, hB1⟩ => ?_
  subst e
  obtain ⟨w, hw⟩ : ∃ w : Nat, (3 : Int) + i = w := ⟨(3 + i).toNat, by omega⟩
  have hl1 : S1.length = T.length + 2 := hB1.len
  have hB2 := hB1.put [.lst true ((List.range w).map fun i : Nat => D.int i), .dT []]
  rw [← rng_eq] at hB2
  simp [-List.map_map, hw, okR]
  refine ⟨by simp [okL]; omega, by rw [rng_eq]; exact closedA_mem.mpr fun x hx => by obtain ⟨j, _, rfl⟩ := List.mem_map.mp hx; simp, ?_⟩
  refine (draw hB2 (by omega) (by decide) (by decide)).no fun r S2 ⟨f0, e, f00, f01, hB3⟩ => ?_
  subst e
  obtain ⟨far, rfl⟩ : ∃ k : Nat, f0 = k := ⟨f0.toNat, by omega⟩
  simp [-List.map_map, hl1, sz]
  refine (draw hB3 (by omega) (by decide) (by decide)).no fun r S3 ⟨w0, e, w00, w01, hB4⟩ => ?_
  subst e
  obtain ⟨wide, hwide⟩ : ∃ k : Nat, (1 : Int) + w0 = k := ⟨(1 + w0).toNat, by omega⟩
  obtain ⟨t1, t2, t3⟩ := tri_w (w := w) (by omega)
  have hm : mulOk (w : Int) ((w : Int) - 1) = true := mulOk_of 10 10 (by omega) (by omega) (by decide)
  have hdv : divOk 2 = true := by decide
  simp [-List.map_map, hwide, hm, t1, okR, hdv]
  refine ⟨by omega, ?_⟩
  refine wp_forL (spI n w wide T) ⟨List.range w, [], far, none, none, none, rfl, Bk0.Ok.start w, by simp [rng], by simp, by simp; omega, by
    have := hB4
    rw [rng_eq] at this
    simpa using this⟩ ?_ ?_
  · rintro x xs ρ S4 ⟨o, es, far, x6, x7, x8, rfl, hok, hcnt, hed, hfar, hB5⟩
    simp only [List.length_cons] at hcnt
    generalize hkds : es.map entP = kds at hB5
    have hol := hok.len
    have hatO : ∀ {q S}, Dk q (T ++ [.lst true (o.map fun i : Nat => D.int i), .dT kds]) S → S[T.length + 2]? = some (.lst true (o.map fun i : Nat => D.int i)) := fun hB => by rw [hB.at]; simp
    simp [-List.map_map, okR]
    refine ⟨by omega, ?_⟩
    rw [rng_eq, comp_filter (enc := fun i : Nat => D.int i) (h := fun i : Nat => D.int i) (p := fun k => decide (o.getD k 0 < o.getD (k + 1) 0))]
    · have hsp : ((List.range (w - 1)).filter fun k => decide (o.getD k 0 < o.getD (k + 1) 0)) ≠ [] := by
        obtain ⟨k, hk, hlt⟩ := Bk0.asc hok.nod (by rw [hok.cnt, List.length_map, hol]; omega)
        intro z
        have : k ∈ (List.range (w - 1)).filter fun k => decide (o.getD k 0 < o.getD (k + 1) 0) := List.mem_filter.mpr ⟨by simp; omega, by simpa using hlt⟩
        rw [z] at this
        cases this
      have hsl : ((List.range (w - 1)).filter fun k => decide (o.getD k 0 < o.getD (k + 1) 0)).length ≤ 6 := by
        have := List.length_filter_le (fun k => decide (o.getD k 0 < o.getD (k + 1) 0)) (List.range (w - 1))
        simp only [List.length_range] at this
        omega
      have hmem : ∀ k ∈ ((List.range (w - 1)).filter fun k => decide (o.getD k 0 < o.getD (k + 1) 0)), k + 1 < w ∧ o.getD k 0 < o.getD (k + 1) 0 := fun k hk => by
        obtain ⟨h1, h2⟩ := List.mem_filter.mp hk
        have h1 : k < w - 1 := by simpa using h1
        exact ⟨by omega, of_decide_eq_true h2⟩
      generalize ((List.range (w - 1)).filter fun k => decide (o.getD k 0 < o.getD (k + 1) 0)) = sp at hsp hsl hmem
      simp [-List.map_map]
      refine (one hB5 (by omega) (by simpa using hsp) (by simp; omega) (fun x hx => by obtain ⟨j, _, rfl⟩ := List.mem_map.mp hx; simp)).no fun r S5 ⟨hr, hB6⟩ => ?_
      obtain ⟨k, hk, rfl⟩ := List.mem_map.mp hr
      obtain ⟨hk1, hlt⟩ := hmem k hk
      simp [-List.map_map, sz]
      refine (draw hB6 (by omega) (by decide) (by decide)).no fun r S6 ⟨g, e, g0, g1, hB7⟩ => ?_
      subst e
      obtain ⟨far2, hfar2⟩ : ∃ q : Nat, (far : Int) + 1 + g = q := ⟨((far : Int) + 1 + g).toNat, by omega⟩
      have hne : ([(far2 : Int), -(wide : Int)] : List Int) ≠ [] := by simp
      have hcut : cutB [(far2 : Int), -(wide : Int)] = true := (cut_iff hne).mpr ⟨⟨-(wide : Int), by simp, by omega⟩, (far2 : Int), by simp, by omega⟩
      have hpr := fun S => law_primitive28 (S := S) (d := tI [(far2 : Int), -(wide : Int)]) (ns := [(far2 : Int), -(wide : Int)]) rfl (fun i hi => natAbs_pow (a := 20) (by simp at hi; rcases hi with rfl | rfl <;> omega) (by decide)) (cut_G hne hcut) (by simp)
      have hbrd : ([(far2 : Int), -(wide : Int)].map fun i => i / (G [(far2 : Int), -(wide : Int)] : Int)) = brd [(far2 : Int), -(wide : Int)] := by unfold brd; rw [hcut]; rfl
      have hE : EdOk 2 (brd [(far2 : Int), -(wide : Int)]) := EdOk.of (by simp) (by decide) fun i hi => by simp at hi; rcases hi with rfl | rfl <;> omega
      rw [hbrd] at hpr
      generalize brd [(far2 : Int), -(wide : Int)] = ed at hpr hE
      have hpr2 : ∀ S, f__law_primitive_k28 [.tup [.int (far2 : Int), .int (-(wide : Int))]] S = .ok (tI ed) S := hpr
      obtain ⟨hnew, hok2⟩ := hok.step hk1 hlt
      have hO := hatO hB7
      have hKD : S6[T.length + 3]? = some (.dT kds) := by rw [show T.length + 3 = (T.length + 1) + 2 by omega, hB7.at]; simp
      have va : atI (o.map fun i : Nat => D.int i) (k : Int) = some (.int (o.getD k 0 : Nat)) := by rw [Fk.atI_nat]; simp [show k < o.length by omega]
      have vb : atI (o.map fun i : Nat => D.int i) ((k : Int) + 1) = some (.int (o.getD (k + 1) 0 : Nat)) := by
        have : ((k : Int) + 1) = ((k + 1 : Nat) : Int) := by omega
        rw [this, Fk.atI_nat]; simp [show k + 1 < o.length by omega]
      have ia := ix_refB hO (i := (k : Int))
      have ib := ix_refB hO (i := (k : Int) + 1)
      rw [va] at ia
      rw [vb] at ib
      have htp := tput_of (S := S6) hKD (ds := [.int (o.getD k 0 : Nat), .int (o.getD (k + 1) 0 : Nat)]) (ks := keyP (o.getD k 0, o.getD (k + 1) 0)) (y := tI ed) (asKs_ints [(o.getD k 0 : Int), (o.getD (k + 1) 0 : Int)]) (by rw [← hkds]; simp; omega) (by simp)
      rw [← hkds, put_ent hnew] at htp
      rw [← hkds] at hB7
      have hB8 := hB7.set (T.length + 1) (.dT ((es ++ [((o.getD k 0, o.getD (k + 1) 0), ed)]).map entP))
      have hs8 : (T ++ [Cell.lst true (o.map fun i : Nat => D.int i), .dT (es.map entP)]).set (T.length + 1) (.dT ((es ++ [((o.getD k 0, o.getD (k + 1) 0), ed)]).map entP)) = T ++ [.lst true (o.map fun i : Nat => D.int i), .dT ((es ++ [((o.getD k 0, o.getD (k + 1) 0), ed)]).map entP)] := by simp
      rw [hs8] at hB8
      generalize hS7 : S6.set (T.length + 1 + 2) (.dT ((es ++ [((o.getD k 0, o.getD (k + 1) 0), ed)]).map entP)) = S7 at hB8
      have htp2 : tputC (.ref (T.length + 3)) (.tup [.int (o.getD k 0 : Nat), .int (o.getD (k + 1) 0 : Nat)]) (tI ed) S6 = some S7 := by rw [htp, ← hS7]
      have hO7 : S7[T.length + 2]? = some (.lst true (o.map fun i : Nat => D.int i)) := by rw [hB8.at]; simp
      have ia7 := ix_refB hO7 (i := (k : Int))
      have ib7 := ix_refB hO7 (i := (k : Int) + 1)
      rw [va] at ia7
      rw [vb] at ib7
      have hs1 := setC_ofB (S := S7) (y := .int (o.getD (k + 1) 0 : Nat)) (k := k) hO7 rfl (by simp; omega) (by simp)
      have hB9 := hB8.set T.length (.lst true ((o.map fun i : Nat => D.int i).set k (.int (o.getD (k + 1) 0 : Nat))))
      have hs9 : ∀ c c2, (T ++ [Cell.lst true (o.map fun i : Nat => D.int i), c]).set T.length c2 = T ++ [c2, c] := fun c c2 => by simp
      rw [hs9] at hB9
      have hO8 : (S7.set (T.length + 2) (.lst true ((o.map fun i : Nat => D.int i).set k (.int (o.getD (k + 1) 0 : Nat)))))[T.length + 2]? = some (.lst true ((o.map fun i : Nat => D.int i).set k (.int (o.getD (k + 1) 0 : Nat)))) := by rw [hB9.at]; simp
      have hs2 := setC_ofB (y := .int (o.getD k 0 : Nat)) (k := k + 1) (i := (k : Int) + 1) hO8 (by omega) (by simp; omega) (by simp)
      have hsw : ((o.map fun i : Nat => D.int i).set k (.int (o.getD (k + 1) 0 : Nat))).set (k + 1) (.int (o.getD k 0 : Nat)) = (Bk0.sw o k).map fun i : Nat => D.int i := by
        unfold Bk0.sw
        rw [List.map_set, List.map_set]
      rw [hsw] at hs2
      have hB10 := hB9.set T.length (.lst true ((Bk0.sw o k).map fun i : Nat => D.int i))
      have hs10 : ∀ c c1 c2, (T ++ [c1, c]).set T.length c2 = T ++ [c2, c] := fun c c1 c2 => by simp
      rw [hs10] at hB10
      have fin : ∀ y, spI n w wide T xs [some (.ref 1), some (.int w), some (.ref (T.length + 2)), some (.ref (T.length + 3)), some (.int far2), some (.int wide), some x, y, some (.int (k : Int)), none, none] _ := fun y =>
        ⟨Bk0.sw o k, es ++ [((o.getD k 0, o.getD (k + 1) 0), ed)], far2, _, _, _, rfl, by rw [List.map_append]; exact hok2, by simp; omega, fun p hp => by
          rcases List.mem_append.mp hp with z | z
          · exact hed p z
          · simp at z; subst z; exact hE, by simp; omega, hB10.mono (by simp; omega)⟩
      generalize o.getD k 0 = va' at *
      generalize o.getD (k + 1) 0 = vb' at *
      simp [-List.map_map, -List.set_set, hfar2, hpr2, ia, ib, htp2, ia7, ib7, hs1, hs2, sz]
      exact fin _
    · intro k hk
      have hk : k < w - 1 := by simpa using hk
      have hO := hatO hB5
      have va : atI (o.map fun i : Nat => D.int i) (k : Int) = some (.int (o.getD k 0 : Nat)) := by rw [Fk.atI_nat]; simp [show k < o.length by omega]
      have vb : atI (o.map fun i : Nat => D.int i) ((k : Int) + 1) = some (.int (o.getD (k + 1) 0 : Nat)) := by
        have : ((k : Int) + 1) = ((k + 1 : Nat) : Int) := by omega
        rw [this, Fk.atI_nat]; simp [show k + 1 < o.length by omega]
      have ia := ix_refB hO (i := (k : Int))
      have ib := ix_refB hO (i := (k : Int) + 1)
      rw [va] at ia
      rw [vb] at ib
      generalize o.getD k 0 = va' at *
      generalize o.getD (k + 1) 0 = vb' at *
      refine eq_of_wp ?_
      simp [-List.map_map, wipeD, ia, ib]
      by_cases q : va' < vb'
      · simp [q]
      · have q' : vb' ≤ va' := by omega
        simp [q, q']
    · simp; omega
  · rintro ρ S4 ⟨o, es, far, x6, x7, x8, rfl, hok, hcnt, hed, hfar, hB5⟩
    simp at hcnt
    have hKD : S4[T.length + 3]? = some (.dT (es.map entP)) := by rw [show T.length + 3 = (T.length + 1) + 2 by omega, hB5.at]; simp
    have es1 := fun S => law_seats (n := w) (S := S) (by omega)
    have hall : ∀ p ∈ sts w, p ∈ es.map Prod.fst := Bk0.all_of hok.nd (fun p hp => by
      obtain ⟨a, b⟩ := hok.lt p hp
      unfold sts
      exact List.mem_flatMap.mpr ⟨p.1, by simp; omega, List.mem_map.mpr ⟨p.2 - (p.1 + 1), by simp; omega, Prod.ext rfl (by simp; omega)⟩⟩) (by rw [List.length_map]; omega)
    have hch : ∀ p : Nat × Nat, ∃ e, p ∈ sts w → (p, e) ∈ es ∧ lookD (es.map entP) (keyP p) = some (tI e) := fun p => by
      by_cases q : p ∈ sts w
      · obtain ⟨e, h1, h2⟩ := find_ent (hall p q)
        exact ⟨e, fun _ => ⟨h1, h2⟩⟩
      · exact ⟨[], fun z => absurd z q⟩
    obtain ⟨g, hg⟩ := Classical.axiomOfChoice hch
    have hl := sts_len (w := w) (by omega)
    simp [-List.map_map, es1]
    rw [comp_enc (enc := seatD) (enc' := tripD) fun p => (p, g p)]
    · have hbk : Bk 2 w ((sts w).map fun p => (p, g p)) := ⟨by simp [List.map_map, Function.comp_def], by omega, by omega, by decide, by decide, fun q hq => by
        obtain ⟨p, hp, rfl⟩ := List.mem_map.mp hq
        exact hed _ (hg p hp).1⟩
      generalize ((sts w).map fun p => (p, g p)) = ps at hbk
      simp [-List.map_map]
      exact gcQ_cl (by simp only [closed]; exact closed_bk _ _) ⟨2, w, ps, hbk, rfl, (hB5.mono (by omega)).take (U := [.lst true (o.map fun i : Nat => D.int i), .dT (es.map entP)]) h.len⟩
    · intro p hp
      have ht := tget_of hKD (ds := [.int (p.1 : Int), .int (p.2 : Int)]) (ks := keyP p) (asKs_ints [(p.1 : Int), (p.2 : Int)])
      rw [(hg p hp).2] at ht
      obtain ⟨p1, p2⟩ := p
      generalize g (p1, p2) = ge at ht
      refine eq_of_wp ?_
      simp [-List.map_map, wipeD, sYes, seatD, ht, sz]
    · omega
end DB
end

set_option Elab.async false
set_option linter.all false
set_option maxRecDepth 100000
set_option maxHeartbeats 4000000
set_option exponentiation.threshold 3000
noncomputable section
namespace DB
open PySem PySem.Spec PyProof.Rows L2 Fk Sm Sp
variable {n m w : Nat} {T S : Store} {E : EX}
theorem Bk.len {ps : List ((Nat × Nat) × List Int)} (h : Bk m w ps) : ps.length = (sts w).length := by rw [← h.st, List.length_map]
theorem Bk.pos {ps : List ((Nat × Nat) × List Int)} (h : Bk m w ps) : 0 < ps.length ∧ ps.length ≤ 15 := by
  rw [h.len]
  have h2 := h.w2
  have h6 := h.w6
  have : ∀ w, 2 ≤ w → w ≤ 6 → 0 < (sts w).length ∧ (sts w).length ≤ 15 := fun w a b => by
    have : w = 2 ∨ w = 3 ∨ w = 4 ∨ w = 5 ∨ w = 6 := by omega
    rcases this with rfl | rfl | rfl | rfl | rfl <;> decide +kernel
  exact this w h2 h6
theorem some_book (h : Dk n T S) (hn : n ≤ 10 ^ 8) : (f__law_some_book_k34 [.ref 1] S).wp (fun r S' => ∃ (m w : Nat) (ps : List ((Nat × Nat) × List Int)), Bk m w ps ∧ r = bkD ps ∧ Dk (n + 1100) T S') E := by
  have fin : ∀ {m w : Nat} {ps : List ((Nat × Nat) × List Int)} {S' : Store} {q : Nat}, q ≤ n + 1100 → Bk m w ps → Dk q T S' → (KS.fn (List.length S) (fun r S' => ∃ (m w : Nat) (ps : List ((Nat × Nat) × List Int)), Bk m w ps ∧ r = bkD ps ∧ Dk (n + 1100) T S') E).rt (bkD ps) S' := fun {m w ps S' q} hq hb hB => rt_cl (by simp only [closed]; exact closed_bk _ _) ⟨m, w, ps, hb, rfl, (hB.mono hq).take0 h.len⟩
  unfold f__law_some_book_k34
  rw [wp_fnD]
  simp [-List.map_map, g__law_some_book_k34, startD]
  refine (draw h (by omega) (by decide) (by decide)).no fun r S1 ⟨way, e, w0, w1, hB1⟩ => ?_
  subst e
  by_cases q0 : way < 2
  · simp [-List.map_map, q0]
    refine (pair_menu hB1 (by omega)).no fun r S2 ⟨m, rs, hM, h2, h6, e, hB2⟩ => ?_
    subst e
    have e1 := fun S => law_book (S := S) hM h2 h6
    have hb := bookL_ok hM h2 h6
    generalize bookL rs = ps at e1 hb
    simp [-List.map_map, e1]
    exact fin (by omega) hb hB2
  by_cases q2 : way = 2
  · simp [-List.map_map, q2]
    exact (drawn_book hB1 (by omega)).no fun r S2 ⟨m, w, ps, hb, e, hB2⟩ => by
      subst e
      exact fin (by omega) hb hB2
  by_cases q3 : way = 3
  · simp [-List.map_map, q3]
    exact (swapped_book hB1 (by omega)).no fun r S2 ⟨m, w, ps, hb, e, hB2⟩ => by
      subst e
      exact fin (by omega) hb hB2
  have q0' : 2 ≤ way := by omega
  simp [-List.map_map, q0, q2, q3]
  refine (pair_menu hB1 (by omega)).no fun r S2 ⟨m, rs, hM, h2, h6, e, hB2⟩ => ?_
  subst e
  have e1 := fun S => law_book (S := S) hM h2 h6
  have hb := bookL_ok hM h2 h6
  generalize rs.length = w at hb h2 h6
  generalize bookL rs = ps at e1 hb
  obtain ⟨l0, l15⟩ := hb.pos
  have m2 := hb.m2
  have m4 := hb.m4
  simp [-List.map_map, e1]
  refine (draw (m := (ps.length : Int)) hB2 (by omega) (by omega) (log2_len (by omega))).no fun r S3 ⟨a, e, a0, a1, hB3⟩ => ?_
  subst e
  obtain ⟨a, rfl⟩ : ∃ c : Nat, a = c := ⟨a.toNat, by omega⟩
  have ha : a < ps.length := by omega
  obtain ⟨p0, rest, hps⟩ : ∃ p0 rest, ps = p0 :: rest := by
    cases ps with
    | nil => simp at l0
    | cons a b => exact ⟨a, b, rfl⟩
  have i0 : atI (ps.map tripD) 0 = some (tripD p0) := by rw [hps]; simp
  have e0l : p0.2.length = m := (hb.ed p0 (by rw [hps]; simp)).len
  have i2 : ∀ x y z : D, atI [x, y, z] 2 = some z := fun _ _ _ => rfl
  have ia : atI (ps.map tripD) (a : Int) = some (tripD ps[a]) := by rw [Fk.atI_nat]; simp [ha]
  have ct : Fk.cutD (ps.map tripD) none (some (a : Int)) = (ps.take a).map tripD := by rw [cutD_take, List.map_take]
  have cd1 : Fk.cutD (ps.map tripD) (some ((a : Int) + 1)) none = (ps.drop (a + 1)).map tripD := by
    have := cutD_drop (ps.map tripD) (a + 1)
    rw [List.map_drop]
    exact this
  have c2 : ∀ x y z : D, Fk.cutD [x, y, z] none (some 2) = [x, y] := fun x y z => cut2 x y z
  have hst : ∀ e, (ps.take a ++ [(ps[a].1, e)] ++ ps.drop (a + 1)).map Prod.fst = sts w := fun e => by
    rw [← hb.st]
    have : ps = ps.take a ++ [ps[a]] ++ ps.drop (a + 1) := by
      rw [List.append_assoc, List.singleton_append, ← List.drop_eq_getElem_cons ha, List.take_append_drop]
    have h4 : (ps.take a ++ [(ps[a].1, e)] ++ ps.drop (a + 1)).map Prod.fst = (ps.take a ++ [ps[a]] ++ ps.drop (a + 1)).map Prod.fst := by simp only [List.map_append, List.map_cons, List.map_nil]
    rw [h4, ← this]
  have hed : ∀ e, EdOk m e → ∀ q ∈ ps.take a ++ [(ps[a].1, e)] ++ ps.drop (a + 1), EdOk m q.2 := fun e he q hq => by
    simp only [List.mem_append, List.mem_cons, List.not_mem_nil, or_false] at hq
    rcases hq with (z | z) | z
    · exact hb.ed q (List.mem_of_mem_take z)
    · subst z; exact he
    · exact hb.ed q (List.mem_of_mem_drop z)
  have ltk : (ps.take a).length ≤ 15 := by simp; omega
  have ldp : (ps.drop (a + 1)).length ≤ 15 := by simp; omega
  generalize ps.take a = pa at ct hst hed ltk
  generalize ps.drop (a + 1) = pb at cd1 hst hed ldp
  generalize ps[a] = pq at *
  obtain ⟨⟨p1, p2⟩, pe⟩ := pq
  simp [-List.map_map, ct, cd1, ia, c2, i0, i2, e0l, sz]
  refine (some_border hB3 (by omega) m2 m4).no fun r S4 ⟨e, er, he, hB4⟩ => ?_
  subst er
  have hb2 : Bk m w (pa ++ [((p1, p2), e)] ++ pb) := ⟨hst e, hb.w2, hb.w6, m2, m4, hed e he⟩
  simp [-List.map_map, sz, cd1]
  refine ⟨by omega, by omega, ?_⟩
  have := fin (q := n + 1 + 1020 + 1 + 7) (by omega) hb2 hB4
  have eb : bkD (pa ++ [((p1, p2), e)] ++ pb) = .tup (pa.map tripD ++ .tup [.int (p1 : Int), .int (p2 : Int), tI e] :: pb.map tripD) := by simp [bkD]
  rw [eb] at this
  exact this
end DB
end

set_option Elab.async false
set_option linter.all false
set_option maxRecDepth 100000
set_option maxHeartbeats 4000000
set_option exponentiation.threshold 3000
noncomputable section
namespace K34
open PySem PySem.Spec PyProof.Rows L2 Fk Sm Sp DB
variable {n m w : Nat} {T S : Store} {E : EX}
theorem is_book {b : Nat} {d : D} (h : plain b d = true) (hb : b ≤ 1990) : f_is_book [d] S = .ok (.bl (isNon (berr d))) S := by
  have e := fun S => book_error (S := S) h hb
  refine eq_of_wp ?_
  unfold f_is_book
  rw [wp_fnD]
  generalize berr d = r at e
  simp [g_is_book, startD, e]
  exact gcQ_cl (by simp) ⟨rfl, by simp⟩
theorem gdIs {k b : Nat} (hb0 : 0 < b) (ns : List Int) (hb : ∀ i ∈ ns, i.natAbs < 2 ^ b) : GdA b ((b + 4) * ns.length) k (ns.map D.int) := by
  induction ns with
  | nil => exact GdA.nil
  | cons i ns ih =>
    have h1 := (Gd.int (b := b) (w := b + 2) (k := k) hb0 (hb i (by simp)) (Nat.le_refl _))
    refine (GdA.cons h1 (ih fun j hj => hb j (by simp [hj]))).mono ?_ (Nat.le_refl _)
    simp [Nat.mul_add]
    omega
def Sml (p : (Nat × Nat) × List Int) : Prop := (p.1.1 ≤ 6 ∧ p.1.2 ≤ 6) ∧ p.2.length ≤ 5 ∧ ∀ i ∈ p.2, i.natAbs ≤ 2000000
theorem gd_trip {p : (Nat × Nat) × List Int} (h : Sml p) : Gd 200 1200 2 (tripD p) := by
  have hi : ∀ k : Nat, k ≤ 6 → Gd 200 10 1 (.int (k : Int)) := fun k hk => by
    refine Gd.ofLog ?_ ?_
    · simp only [Int.natAbs_natCast]
      exact Nat.lt_of_lt_of_le (log2_le_of (b := 3) (by omega) (by decide)) (by decide)
    · have := log2_le_of (a := k) (b := 3) (by omega) (by decide)
      simp only [Int.natAbs_natCast]; omega
  have he : Gd 200 1050 1 (tI p.2) := ((gdIs (k := 0) (b := 200) (by decide) _ fun i hq => natAbs_pow (a := 21) (by have := h.2.2 i hq; omega) (by decide)).mono (w' := 1030) (by have := h.2.1; omega) (Nat.le_refl _)).tup.mono (by decide) (Nat.le_refl _)
  exact (GdA.cons (hi _ h.1.1) (GdA.cons (hi _ h.1.2) (GdA.one he))).tup.mono (by decide) (by decide)
theorem gdA_trips : ∀ {ps : List ((Nat × Nat) × List Int)}, (∀ p ∈ ps, Sml p) → GdA 200 (1202 * ps.length) 2 (ps.map tripD)
  | [], _ => GdA.nil
  | p :: ps, h => by
    have h1 := gd_trip (h p (by simp))
    have h2 := gdA_trips (ps := ps) fun q hq => h q (List.mem_cons_of_mem _ hq)
    exact (GdA.cons h1 h2).mono (by simp; omega) (Nat.le_refl _)
theorem bk_le {ps : List ((Nat × Nat) × List Int)} (h : Bk m w ps) : ∀ p ∈ ps, Sml p := fun p hp => by
  have : p.1 ∈ sts w := by rw [← h.st]; exact List.mem_map.mpr ⟨p, hp, rfl⟩
  have h2 := sts_mem this
  have := h.w6
  have he := h.ed p hp
  exact ⟨by omega, by rw [he.len]; have := h.m4; omega, he.small⟩
theorem gd_bk {ps : List ((Nat × Nat) × List Int)} (h : Bk m w ps) : GdA 200 18100 2 (ps.map tripD) := (gdA_trips (bk_le h)).mono (by have := h.pos; omega) (Nat.le_refl _)
/-- a value that is judged -/
def Ve (v : D) : Prop := ∃ w k, Gd 200 w k v ∧ w ≤ 900000 ∧ k ≤ 50
theorem Ve.of {w k : Nat} {v : D} (h : Gd 200 w k v) (hw : w ≤ 900000 := by decide) (hk : k ≤ 50 := by decide) : Ve v := ⟨w, k, h, hw, hk⟩
theorem Ve.closed {v : D} (h : Ve v) (N : Nat) : closed N v = true := by
  obtain ⟨_, _, h, _⟩ := h
  exact h.closed
theorem berr_gd {d : D} : ∃ tx, ∀ S, reprD [.lst [berr d, .bl (isNon (berr d))]] S = some (.str tx) := by
  have key : ∀ (xs : List D) (al : Nat) (ss : List (Nat × Nat)) (k : Nat), k + ss.length ≤ 100 → Gd 200 300 2 (bgo xs al ss k) := fun xs al ss => by
    induction ss with
    | nil => intro k _; exact (gdB_ok (by decide +kernel) : Gd 200 300 2 D.non)
    | cons s ss ih =>
      intro k hk
      unfold bgo
      split
      · next r hr =>
        have hgr : Gd 200 100 1 (.str r) := by
          unfold Sp.tE at hr
          repeat' split at hr
          all_goals first | (cases hr; done) | (cases hr; exact gdB_ok (by decide +kernel))
        have hki : Gd 200 20 1 (.int (k : Int)) := by
          refine Gd.ofLog ?_ ?_
          · simp only [Int.natAbs_natCast]
            exact Nat.lt_of_lt_of_le (log2_le_of (b := 7) (by simp at hk; omega) (by decide)) (by decide)
          · have := log2_le_of (a := k) (b := 7) (by simp at hk; omega) (by decide)
            simp only [Int.natAbs_natCast]; omega
        exact (GdA.cons hki (GdA.one hgr)).tup.mono (by decide) (by decide)
      · exact ih (k + 1) (by simp at hk; omega)
  have hb : Gd 200 300 2 (berr d) := by
    unfold berr
    split
    · split
      · next w hw =>
        obtain ⟨h1, h2, _⟩ := wordsN_sts hw
        exact key _ _ _ _ (by have := sts_len h2; omega)
      · exact gdB_ok (by decide +kernel)
    · exact gdB_ok (by decide +kernel)
  have hg : Gd 200 700 3 (.lst [berr d, .bl (isNon (berr d))]) := (GdA.cons hb (GdA.one ((Gd.bl (c := isNon (berr d)) (b := 200) (w := 5) (k := 2) (by decide))))).lst.mono (by decide) (by decide)
  exact ⟨_, fun S => hg.repr⟩
theorem addL_refB {n : Nat} {b : Bool} {xs ys : List D} (h : S[n]? = some (.lst b xs)) (hs : xs.length + ys.length ≤ 4000000) : opAddA (.ref n) (.lst ys) S = some (.lst (xs ++ ys)) := by
  have e : opAdd (.ref n) (.lst ys) S = some (.lst (xs ++ ys)) := by
    unfold opAdd
    rw [dr_of h]
    simp [sz, hs]
  unfold opAddA orO
  rw [e]
theorem app1 {vs : List D} {y : D} {q : Nat} {T S : Store} (hB : Dk q (T ++ [.lst true vs]) S) (hl : vs.length ≤ 100) (hy : closed (T.length + 2) y = true) : isL S (.ref (T.length + 2)) = true ∧ appC (.ref (T.length + 2)) y S = .ok .non (S.set (T.length + 2) (.lst true (vs ++ [y]))) ∧ Dk q (T ++ [.lst true (vs ++ [y])]) (S.set (T.length + 2) (.lst true (vs ++ [y]))) := by
  have hat : S[T.length + 2]? = some (.lst true vs) := by rw [hB.at T.length]; simp
  have := hB.set T.length (.lst true (vs ++ [y]))
  have e : (T ++ [Cell.lst true vs]).set T.length (.lst true (vs ++ [y])) = T ++ [.lst true (vs ++ [y])] := by simp
  rw [e] at this
  exact ⟨isL_of hat, appC_of hat (by omega) hy, this⟩
def iv (ns : List Int) (q : Nat) (xk bk bt : D) (T U : Store) (xs : List D) (ρ : Fk.Env) (S : Store) : Prop := ∃ (x6 x7 : Option D), (∀ x ∈ xs, Ve x) ∧ ρ = [some (.scr (ns.map D.int)), some (.ref 1), some xk, some bk, some bt, some (.ref (T.length + 2)), x6, x7, none, none, none, none] ∧ Dk q U S
theorem law_ok (ns : List Int) (hl : ns.length ≤ 63) : (f_law_k34 [.scr (ns.map D.int)] []).wp (fun r _ => r = .bl true) fun _ _ _ => False := by
  unfold f_law_k34
  rw [wp_fnD]
  simp [-List.map_map, g_law_k34, startD]
  refine (deck ns hl).no fun r S1 ⟨e, hB1⟩ => ?_
  subst e
  simp [-List.map_map, okR]
  refine wp_forL (fun xs ρ S => ∃ (x2 x3 x4 x5 x6 x7 : Option D) (T : Store), ρ = [some (.scr (ns.map D.int)), some (.ref 1), x2, x3, x4, x5, x6, x7, none, none, none, none] ∧ xs.length ≤ 6 ∧ Dk (2000 * (6 - xs.length)) T S) ⟨none, none, none, none, none, none, [], rfl, by simp [rng], by simpa [rng] using hB1⟩ ?_ ?_
  · rintro xk xs ρ S ⟨x2, x3, x4, x5, x6, x7, T, rfl, hxl, hB⟩
    simp only [List.length_cons] at hxl
    generalize hq : 2000 * (6 - (xk :: xs).length) = q at hB
    simp only [List.length_cons] at hq
    have hq2 : q + 2000 = 2000 * (6 - xs.length) := by omega
    simp [-List.map_map]
    refine (some_book hB (by omega)).no fun r S2 ⟨m, w, ps, hb, e, hB2⟩ => ?_
    subst e
    have gA := gd_bk hb
    have gB := gA.tup
    obtain ⟨l0, l15⟩ := hb.pos
    simp [-List.map_map]
    refine (bent34 (N := 4) (dp := 3) hB2 (by omega) gB (by decide) (by decide) (by decide)).no fun r S3 ⟨gr, hB3⟩ => ?_
    have v1 := Ve.of gr
    simp [-List.map_map]
    refine (bent34 (N := 4) (dp := 3) hB3 (by omega) gr (by decide) (by decide) (by decide)).no fun r2 S4 ⟨gr2, hB4⟩ => ?_
    have v2 := Ve.of gr2
    simp [-List.map_map]
    refine (odd34 hB4 (by omega)).no fun r3 S5 ⟨gr3, hB5⟩ => ?_
    have v3 := Ve.of gr3
    simp [-List.map_map, sz]
    have hl5 : S5.length = T.length + 2 := hB5.len
    have hc1 := cut_len (xs := ps.map tripD) (lo := none) (hi := some 1)
    simp only [List.length_map] at hc1
    have cB := fun N => closed_bk N ps
    refine ⟨by omega, ⟨cB _, v1.closed _, v2.closed _, v3.closed _, cB _, (gA.cut _ _).closed, (gA.append (gA.cut _ _)).closed⟩, ?_⟩
    have hV : ∀ x ∈ [bkD ps, r, r2, r3, D.lst (ps.map tripD), .tup (Fk.cutD (ps.map tripD) none (some (-1))), .tup (ps.map tripD ++ Fk.cutD (ps.map tripD) none (some 1))], Ve x := fun x hx => by
      simp only [List.mem_cons, List.not_mem_nil, or_false] at hx
      rcases hx with rfl | rfl | rfl | rfl | rfl | rfl | rfl
      · exact Ve.of gB
      · exact v1
      · exact v2
      · exact v3
      · exact Ve.of gA.lst
      · exact Ve.of (gA.cut _ _).tup
      · exact Ve.of (gA.append (gA.cut _ _)).tup
    have hvl : [bkD ps, r, r2, r3, D.lst (ps.map tripD), .tup (Fk.cutD (ps.map tripD) none (some (-1))), .tup (ps.map tripD ++ Fk.cutD (ps.map tripD) none (some 1))].length ≤ 90 := by simp
    generalize [bkD ps, r, r2, r3, D.lst (ps.map tripD), .tup (Fk.cutD (ps.map tripD) none (some (-1))), .tup (ps.map tripD ++ Fk.cutD (ps.map tripD) none (some 1))] = vs at hV hvl
    have hB6 : Dk _ (T ++ [.lst true vs]) (S5 ++ [.lst true vs]) := hB5.put [.lst true vs]
    simp only [hl5]
    generalize S5 ++ [Cell.lst true vs] = S6 at hB6 ⊢
    have grow : ∀ {vs : List D} {y : D} {k : Nat}, (∀ x ∈ vs, Ve x) → vs.length ≤ k → Ve y → (∀ x ∈ vs ++ [y], Ve x) ∧ (vs ++ [y]).length ≤ k + 1 := fun {vs y k} h1 h2 h3 => ⟨fun x hx => by
      rcases List.mem_append.mp hx with z | z
      · exact h1 x z
      · simp at z; subst z; exact h3, by simp; omega⟩
    have y1 : Ve (.tup (Fk.cutD (ps.map tripD) (some 1) none)) := Ve.of (gA.cut _ _).tup
    obtain ⟨i1, a1, hB7⟩ := app1 (y := .tup (Fk.cutD (ps.map tripD) (some 1) none)) hB6 (by omega) (y1.closed _)
    obtain ⟨hV1, hvl1⟩ := grow hV hvl y1
    simp [-List.map_map, i1, a1]
    generalize S6.set (T.length + 2) (.lst true (vs ++ [.tup (Fk.cutD (ps.map tripD) (some 1) none)])) = S7 at hB7 ⊢
    generalize vs ++ [D.tup (Fk.cutD (ps.map tripD) (some 1) none)] = vs1 at hB7 hV1 hvl1
    have hat7 : isL S7 (.ref (T.length + 2)) = true := isL_of (show S7[T.length + 2]? = some (.lst true vs1) by rw [hB7.at T.length]; simp)
    refine ⟨hat7, ?_⟩
    rw [comp_enc (enc := tripD) (enc' := tripD) fun p => ((p.1.2, p.1.1), p.2)]
    · have hsm := bk_le hb
      have g2 : GdA 200 (1202 * (ps.map fun p => ((p.1.2, p.1.1), p.2)).length) 2 ((ps.map fun p => ((p.1.2, p.1.1), p.2)).map tripD) := gdA_trips fun p hp => by
        obtain ⟨q, hq, rfl⟩ := List.mem_map.mp hp
        exact ⟨⟨(hsm q hq).1.2, (hsm q hq).1.1⟩, (hsm q hq).2⟩
      have y2 : Ve (.tup ((ps.map fun p => ((p.1.2, p.1.1), p.2)).map tripD)) := ⟨_, 3, g2.tup, by simp; omega, by decide⟩
      generalize (ps.map fun p => ((p.1.2, p.1.1), p.2)).map tripD = z2 at y2
      obtain ⟨i2, a2, hB8⟩ := app1 (y := .tup z2) hB7 (by omega) (y2.closed _)
      obtain ⟨hV2, hvl2⟩ := grow hV1 hvl1 y2
      simp [-List.map_map, a2]
      generalize S7.set (T.length + 2) (.lst true (vs1 ++ [.tup z2])) = S8 at hB8 ⊢
      generalize vs1 ++ [D.tup z2] = vs2 at hB8 hV2 hvl2
      have hat8 : isL S8 (.ref (T.length + 2)) = true := isL_of (show S8[T.length + 2]? = some (.lst true vs2) by rw [hB8.at T.length]; simp)
      refine ⟨hat8, ?_⟩
      have cd1 : Fk.cutD (ps.map tripD) (some 1) none = (ps.drop 1).map tripD := by
        have := cutD_drop (ps.map tripD) 1
        rw [List.map_drop]
        exact this
      rw [cd1, comp_enc (enc := tripD) (enc' := tripD) fun p => (p.1, p.2 ++ [0])]
      · have g3 : GdA 200 (1202 * ((ps.drop 1).map fun p => (p.1, p.2 ++ [0])).length) 2 (((ps.drop 1).map fun p => (p.1, p.2 ++ [0])).map tripD) := gdA_trips fun p hp => by
          obtain ⟨q, hq, rfl⟩ := List.mem_map.mp hp
          have hq := List.mem_of_mem_drop hq
          have he := hb.ed q hq
          refine ⟨(hsm q hq).1, by simp [he.len]; have := hb.m4; omega, fun i hi => ?_⟩
          rcases List.mem_append.mp hi with z | z
          · exact (hsm q hq).2.2 i z
          · simp at z; subst z; decide
        have y3 : Ve (.tup (Fk.cutD (ps.map tripD) none (some 1) ++ ((ps.drop 1).map fun p => (p.1, p.2 ++ [0])).map tripD)) := ⟨_, 3, ((gA.cut none (some 1)).append g3).tup, by simp; omega, by decide⟩
        have hz3 : (((ps.drop 1).map fun p => (p.1, p.2 ++ [0])).map tripD).length ≤ 15 := by simp; omega
        generalize ((ps.drop 1).map fun p => (p.1, p.2 ++ [0])).map tripD = z3 at y3 hz3
        obtain ⟨i3, a3, hB9⟩ := app1 (y := .tup (Fk.cutD (ps.map tripD) none (some 1) ++ z3)) hB8 (by omega) (y3.closed _)
        obtain ⟨hV3, hvl3⟩ := grow hV2 hvl2 y3
        simp [-List.map_map, a3, sz]
        refine ⟨by omega, ?_⟩
        generalize S8.set (T.length + 2) (.lst true (vs2 ++ [.tup (Fk.cutD (ps.map tripD) none (some 1) ++ z3)])) = S9 at hB9 ⊢
        generalize vs2 ++ [D.tup (Fk.cutD (ps.map tripD) none (some 1) ++ z3)] = vs3 at hB9 hV3 hvl3
        simp [-List.map_map, okR]
        refine wp_compGo (fun xs acc S => (∀ x ∈ acc, Ve x) ∧ acc.length + xs.length = 5 ∧ Dk (q + 1200 + 20 * acc.length) (T ++ [.lst true vs3]) S) ⟨by simp, by simp [rng], hB9.mono (by simp)⟩ ?_ ?_
        · rintro x xs acc S ⟨hA, hal, hBa⟩
          simp only [List.length_cons] at hal
          simp [-List.map_map, wipeD, sYes]
          refine (bent34 (N := 4) (dp := 3) hBa (by omega) gB (by decide) (by decide) (by decide)).no fun r S' ⟨gr, hB'⟩ => ?_
          refine ⟨by simp [sz]; omega, fun x hx => ?_, by first | omega | (simp; omega), hB'.mono (by first | omega | (simp; omega))⟩
          rcases hx with z | z
          · exact hA x z
          · subst z; exact Ve.of gr
        · rintro acc S10 ⟨hA, hal, hB10⟩
          simp at hal
          have hat10 : S10[T.length + 2]? = some (.lst true vs3) := by rw [hB10.at T.length]; simp
          have ea := addL_refB hat10 (ys := acc) (by omega)
          have hVa : ∀ x ∈ vs3 ++ acc, Ve x := fun x hx => by
            rcases List.mem_append.mp hx with z | z
            · exact hV3 x z
            · exact hA x z
          simp [-List.map_map, ea]
          generalize vs3 ++ acc = vs4 at hVa
          refine wp_forL (iv ns (q + 1300) xk (bkD ps) r T (T ++ [.lst true vs3])) ⟨x6, x7, hVa, rfl, hB10.mono (by omega)⟩ ?_ ?_
          · rintro v xs ρ S ⟨x6, x7, hV, rfl, hB11⟩
            have hv := hV v (by simp)
            obtain ⟨wv, kv, gv, _⟩ := hv
            have e1 := fun S => law_error (S := S) gv.p (by decide)
            have e2 := fun S => book_error (S := S) gv.p (by decide)
            have e3 := fun S => is_book (S := S) gv.p (by decide)
            obtain ⟨tx, er⟩ := berr_gd (d := v)
            generalize berr v = rv at e1 e2 e3 er
            simp [-List.map_map, e1, e2, e3, er, sz]
            exact ⟨some v, some rv, fun x hx => hV x (List.mem_cons_of_mem _ hx), rfl, hB11⟩
          · rintro ρ S ⟨x6, x7, hV, rfl, hB11⟩
            simp
            exact ⟨by omega, _, hB11.mono (by omega)⟩
      · rintro ⟨⟨p1, p2⟩, pe⟩ hp
        refine eq_of_wp ?_
        simp [-List.map_map, wipeD, sYes, sz]
        have he := (hsm _ (List.mem_of_mem_drop hp)).2.1
        simp only at he
        omega
      · simp; omega
    · rintro ⟨⟨p1, p2⟩, pe⟩ hp
      refine eq_of_wp ?_
      simp [-List.map_map, wipeD, sYes, sz]
    · omega
  · rintro ρ S ⟨x2, x3, x4, x5, x6, x7, T, rfl, hxl, hB⟩
    have e1 := fun S => book_error (S := S) (b := 200) (d := .tup [.tup [.int 0, .int 1, .tup [.int 0, .int 0, .int 0, .int 0]]]) (by decide +kernel) (by decide)
    have e2 : berr (.tup [.tup [.int 0, .int 1, .tup [.int 0, .int 0, .int 0, .int 0]]]) = .non := by kernel_rfl
    rw [e2] at e1
    simp [-List.map_map, e1, sz]
    exact gcQ_cl (by simp) rfl
theorem plain : ∀ ns : List Int, ns.length ≤ 63 → (∀ z ∈ ns, Builtin.Int.intBits z ≤ 1048576) → ∃ S, f_law_k34 [.scr (ns.map D.int)] [] = .ok (.bl true) S := fun ns hl _ => by
  have h := (law_ok ns hl).run
  cases e : f_law_k34 [.scr (ns.map D.int)] [] with
  | ok d S =>
    rw [e] at h
    have h : d = .bl true := h
    exact ⟨S, by rw [h]⟩
  | exc c fs S => rw [e] at h; exact h.elim
  | stuck => rw [e] at h; exact h.elim
end K34
end

set_option Elab.async false
set_option linter.all false
set_option maxRecDepth 100000
set_option maxHeartbeats 0
noncomputable section
namespace K34
open PySem PySem.Spec PyProof.Rows L2 Fk Sm
def top (i : Nat) : Stmt := PySem.Challenge.pw_frankmarks_k34_what_is_no_book.main.body.getD i (.Pass ⟨0, 0, 0, 0⟩)
/-- names of the module -/
structure Gs (mg : Str → Option Value) : Prop where
  b_abs : mg "abs" = none
  b_all : mg "all" = none
  b_bool : mg "bool" = none
  b_enumerate : mg "enumerate" = none
  b_int : mg "int" = none
  b_isinstance : mg "isinstance" = none
  b_len : mg "len" = none
  b_list : mg "list" = none
  b_max : mg "max" = none
  b_min : mg "min" = none
  b_range : mg "range" = none
  b_repr : mg "repr" = none
  b_tuple : mg "tuple" = none
  b_zip : mg "zip" = none
  c_MAX_ANSWERS : ∃ t, mg "MAX_ANSWERS" = some (.int 4 t)
/-- what is known of the exceptions -/
structure Xs (P : Program) (w : World) (K : PySem.W.Frag) (mg : Str → Option Value) (base : Heap) : Prop where
  t_SIZES : ITab K mg "SIZES" [(1, 2), (3, 3), (6, 4), (10, 5), (15, 6)]
abbrev SysM (base : Heap) : Prop := ∃ o, base.get? sysModules = some o ∧ o.cls ≠ .type "list"
section
variable {P : Program} {w : World} {K : PySem.W.Frag} {mg : Str → Option Value} {base : Heap} {f : Addr} {fd : FuncData}
theorem sc_divisor_of : FnScope ["values", "found", "value", "rest"] ["values"] (defScope (top 2)) := ⟨rfl, rfl, rfl, by decide +kernel, rfl, by decide +kernel, by decide +kernel⟩
theorem ok_divisor_of (G : Gs mg) (E : Xs P w K mg base) (B : SysM base) (F : FunD K "divisor_of" "divisor_of" (defArgs (top 2)) (defBody (top 2)) (defScope (top 2)) [] [] f fd) : FnG P w K mg base 1 f fd ["values"] (spD K mg 1 f_divisor_of) :=
  fn_ok (k := 0) F sc_divisor_of fun cdv A outer s H Ex hg hr => by
  have c := cxe_of (P := P) (w := w) (K := K) (mg := mg) (base := base) (N := ["values", "found", "value", "rest"]) (outer := outer) (H := H) (E := Ex) (k := 0) sc_divisor_of.nd hg hr B
  exact (xss_cons (xs_set c.nd rfl (by first | exact .inl rfl | exact .inr rfl) xe_int)
    (xss_cons (xs_for own_of c.calm (xi_seq (xe_var 0)) (gd_name c.nd rfl (by first | exact .inl rfl | exact .inr rfl))
   (xss_cons (xs_set c.nd rfl (by first | exact .inl rfl | exact .inr rfl) (xe_callB cx_absA rfl G.b_abs (by decide +kernel) (xa_cons (xe_var 2) xa_nil)))
    (xss_one (xs_while own_of (xt_cmp (ox_neA c.u64) (xe_var 3) xe_int rfl)
   (xss_one (xs_par c.calm c.nd rfl rfl (by decide) rfl rfl (xa_cons (xe_var 3) (xa_cons (xe_bin ox_mod (xe_var 1) (xe_var 3)) xa_nil)) rfl))))))
    (xss_one (xs_ret (xe_var 1)))))
theorem sc_primitive : FnScope ["values", "divisor", "value"] ["values"] (defScope (top 3)) := ⟨rfl, rfl, rfl, by decide +kernel, rfl, by decide +kernel, by decide +kernel⟩
theorem ok_primitive (G : Gs mg) (E : Xs P w K mg base) (B : SysM base) (h_divisor_of : Fn P w K mg base 1 "divisor_of" ["values"] [] f_divisor_of) (F : FunD K "primitive" "primitive" (defArgs (top 3)) (defBody (top 3)) (defScope (top 3)) [] [] f fd) : FnG P w K mg base 2 f fd ["values"] (spD K mg 1 f_primitive) :=
  fn_ok (k := 1) F sc_primitive fun cdv A outer s H Ex hg hr => by
  have c := cxe_of (P := P) (w := w) (K := K) (mg := mg) (base := base) (N := ["values", "divisor", "value"]) (outer := outer) (H := H) (E := Ex) (k := 1) sc_primitive.nd hg hr B
  exact (xss_cons (xs_set c.nd rfl (by first | exact .inl rfl | exact .inr rfl) (xe_fn h_divisor_of c (by decide) rfl (xa_cons (xe_var 0) xa_nil) (alen_cons alen_nil)))
    (xss_one (xs_ret (xe_callTy cx_tup rfl G.b_tuple (by decide +kernel) (xa_cons (xe_frz (xl_comp c.calm c.nd (xi_seq (xe_var 0)) (own := [("value", 2)]) (blkOk_by (by kernel_rfl)) (by decide) (fun s1 H1 C1 cl1 fp1 => (gd_name (c.blk s1 H1 _ _ fp1).nd rfl (by first | exact .inl rfl | exact .inr rfl))) (fun s1 H1 C1 cl1 fp1 => xts_nil) (fun s1 H1 C1 cl1 fp1 => (xe_bin ox_div (xe_var 2) (xe_var 1))))) xa_nil)))))
theorem sc_most_of : FnScope ["numbers", "number"] ["numbers"] (defScope (top 5)) := ⟨rfl, rfl, rfl, by decide +kernel, rfl, by decide +kernel, by decide +kernel⟩
theorem ok_most_of (G : Gs mg) (E : Xs P w K mg base) (B : SysM base) (F : FunD K "most_of" "most_of" (defArgs (top 5)) (defBody (top 5)) (defScope (top 5)) [] [] f fd) : FnG P w K mg base 1 f fd ["numbers"] (spD K mg 1 f_most_of) :=
  fn_ok (k := 0) F sc_most_of fun cdv A outer s H Ex hg hr => by
  have c := cxe_of (P := P) (w := w) (K := K) (mg := mg) (base := base) (N := ["numbers", "number"]) (outer := outer) (H := H) (E := Ex) (k := 0) sc_most_of.nd hg hr B
  exact (xss_one (xs_ret (xe_callB (cx_max c.calm) rfl G.b_max (by decide +kernel) (xa_cons (xe_frz (xl_comp c.calm c.nd (xi_seq (xe_var 0)) (own := [("number", 1)]) (blkOk_by (by kernel_rfl)) (by decide) (fun s1 H1 C1 cl1 fp1 => (gd_name (c.blk s1 H1 _ _ fp1).nd rfl (by first | exact .inl rfl | exact .inr rfl))) (fun s1 H1 C1 cl1 fp1 => xts_nil) (fun s1 H1 C1 cl1 fp1 => (xe_callTy cx_int rfl G.b_int (by decide +kernel) (xa_cons (xe_var 1) xa_nil))))) xa_nil))))
theorem sc_least_of : FnScope ["numbers", "number"] ["numbers"] (defScope (top 6)) := ⟨rfl, rfl, rfl, by decide +kernel, rfl, by decide +kernel, by decide +kernel⟩
theorem ok_least_of (G : Gs mg) (E : Xs P w K mg base) (B : SysM base) (F : FunD K "least_of" "least_of" (defArgs (top 6)) (defBody (top 6)) (defScope (top 6)) [] [] f fd) : FnG P w K mg base 1 f fd ["numbers"] (spD K mg 1 f_least_of) :=
  fn_ok (k := 0) F sc_least_of fun cdv A outer s H Ex hg hr => by
  have c := cxe_of (P := P) (w := w) (K := K) (mg := mg) (base := base) (N := ["numbers", "number"]) (outer := outer) (H := H) (E := Ex) (k := 0) sc_least_of.nd hg hr B
  exact (xss_one (xs_ret (xe_callB (cx_min c.calm) rfl G.b_min (by decide +kernel) (xa_cons (xe_frz (xl_comp c.calm c.nd (xi_seq (xe_var 0)) (own := [("number", 1)]) (blkOk_by (by kernel_rfl)) (by decide) (fun s1 H1 C1 cl1 fp1 => (gd_name (c.blk s1 H1 _ _ fp1).nd rfl (by first | exact .inl rfl | exact .inr rfl))) (fun s1 H1 C1 cl1 fp1 => xts_nil) (fun s1 H1 C1 cl1 fp1 => (xe_callTy cx_int rfl G.b_int (by decide +kernel) (xa_cons (xe_var 1) xa_nil))))) xa_nil))))
theorem sc_is_whole : FnScope ["value"] ["value"] (defScope (top 9)) := ⟨rfl, rfl, rfl, by decide +kernel, rfl, by decide +kernel, by decide +kernel⟩
theorem ok_is_whole (G : Gs mg) (E : Xs P w K mg base) (B : SysM base) (F : FunD K "is_whole" "is_whole" (defArgs (top 9)) (defBody (top 9)) (defScope (top 9)) [] [] f fd) : FnG P w K mg base 1 f fd ["value"] (spD K mg 1 f_is_whole) :=
  fn_ok (k := 0) F sc_is_whole fun cdv A outer s H Ex hg hr => by
  have c := cxe_of (P := P) (w := w) (K := K) (mg := mg) (base := base) (N := ["value"]) (outer := outer) (H := H) (E := Ex) (k := 0) sc_is_whole.nd hg hr B
  exact (xss_one (xs_ret (xe_and (xe_isi (xe_var 0) rfl G.b_isinstance rfl G.b_int (by decide +kernel)) (xe_one (xe_not (xe_isi (xe_var 0) rfl G.b_isinstance rfl G.b_bool (by decide +kernel)))))))
theorem sc_is_whole_row : FnScope ["value", "count", "item"] ["value", "count"] (defScope (top 10)) := ⟨rfl, rfl, rfl, by decide +kernel, rfl, by decide +kernel, by decide +kernel⟩
theorem ok_is_whole_row (G : Gs mg) (E : Xs P w K mg base) (B : SysM base) (h_is_whole : Fn P w K mg base 1 "is_whole" ["value"] [] f_is_whole) (F : FunD K "is_whole_row" "is_whole_row" (defArgs (top 10)) (defBody (top 10)) (defScope (top 10)) [] [] f fd) : FnG P w K mg base 2 f fd ["value", "count"] (spD K mg 2 f_is_whole_row) :=
  fn_ok (k := 1) F sc_is_whole_row fun cdv A outer s H Ex hg hr => by
  have c := cxe_of (P := P) (w := w) (K := K) (mg := mg) (base := base) (N := ["value", "count", "item"]) (outer := outer) (H := H) (E := Ex) (k := 1) sc_is_whole_row.nd hg hr B
  exact (xss_one (xs_ret (xe_and (xe_isi (xe_var 0) rfl G.b_isinstance rfl G.b_tuple (by decide +kernel)) (xe_and (xe_cmp (ox_eqA c.u64) (xe_callB cx_len rfl G.b_len (by decide +kernel) (xa_cons (xe_var 0) xa_nil)) (xe_var 1) rfl) (xe_one (xe_callB (cx_all c.calm) rfl G.b_all (by decide +kernel) (xa_cons (xe_frz (xl_comp c.calm c.nd (xi_seq (xe_var 0)) (own := [("item", 2)]) (blkOk_by (by kernel_rfl)) (by decide) (fun s1 H1 C1 cl1 fp1 => (gd_name (c.blk s1 H1 _ _ fp1).nd rfl (by first | exact .inl rfl | exact .inr rfl))) (fun s1 H1 C1 cl1 fp1 => xts_nil) (fun s1 H1 C1 cl1 fp1 => (xe_fn h_is_whole (c.blk s1 H1 _ _ fp1) (by decide) rfl (xa_cons (xe_var 2) xa_nil) (alen_cons alen_nil))))) xa_nil)))))))
theorem sc_is_cutting : FnScope ["border"] ["border"] (defScope (top 11)) := ⟨rfl, rfl, rfl, by decide +kernel, rfl, by decide +kernel, by decide +kernel⟩
theorem ok_is_cutting (G : Gs mg) (E : Xs P w K mg base) (B : SysM base) (h_least_of : Fn P w K mg base 1 "least_of" ["numbers"] [] f_least_of) (h_most_of : Fn P w K mg base 1 "most_of" ["numbers"] [] f_most_of) (F : FunD K "is_cutting" "is_cutting" (defArgs (top 11)) (defBody (top 11)) (defScope (top 11)) [] [] f fd) : FnG P w K mg base 2 f fd ["border"] (spD K mg 1 f_is_cutting) :=
  fn_ok (k := 1) F sc_is_cutting fun cdv A outer s H Ex hg hr => by
  have c := cxe_of (P := P) (w := w) (K := K) (mg := mg) (base := base) (N := ["border"]) (outer := outer) (H := H) (E := Ex) (k := 1) sc_is_cutting.nd hg hr B
  exact (xss_one (xs_ret (xe_chain ox_lt ox_lt (xe_fn h_least_of c (by decide) rfl (xa_cons (xe_var 0) xa_nil) (alen_cons alen_nil)) xe_int (xe_fn h_most_of c (by decide) rfl (xa_cons (xe_var 0) xa_nil) (alen_cons alen_nil)))))
theorem sc_border_of : FnScope ["row", "item"] ["row"] (defScope (top 12)) := ⟨rfl, rfl, rfl, by decide +kernel, rfl, by decide +kernel, by decide +kernel⟩
theorem ok_border_of (G : Gs mg) (E : Xs P w K mg base) (B : SysM base) (h_is_cutting : Fn P w K mg base 2 "is_cutting" ["border"] [] f_is_cutting) (h_primitive : Fn P w K mg base 2 "primitive" ["values"] [] f_primitive) (F : FunD K "border_of" "border_of" (defArgs (top 12)) (defBody (top 12)) (defScope (top 12)) [] [] f fd) : FnG P w K mg base 3 f fd ["row"] (spD K mg 1 f_border_of) :=
  fn_ok (k := 2) F sc_border_of fun cdv A outer s H Ex hg hr => by
  have c := cxe_of (P := P) (w := w) (K := K) (mg := mg) (base := base) (N := ["row", "item"]) (outer := outer) (H := H) (E := Ex) (k := 2) sc_border_of.nd hg hr B
  exact (xss_cons (xs_if (xt_val (xe_fn h_is_cutting c (by decide) rfl (xa_cons (xe_var 0) xa_nil) (alen_cons alen_nil))) (xss_one (xs_ret (xe_fn h_primitive c (by decide) rfl (xa_cons (xe_var 0) xa_nil) (alen_cons alen_nil)))) xss_nil)
    (xss_one (xs_ret (xe_callTy cx_tup rfl G.b_tuple (by decide +kernel) (xa_cons (xe_frz (xl_comp c.calm c.nd (xi_seq (xe_var 0)) (own := [("item", 1)]) (blkOk_by (by kernel_rfl)) (by decide) (fun s1 H1 C1 cl1 fp1 => (gd_name (c.blk s1 H1 _ _ fp1).nd rfl (by first | exact .inl rfl | exact .inr rfl))) (fun s1 H1 C1 cl1 fp1 => xts_nil) (fun s1 H1 C1 cl1 fp1 => (xe_bin ox_subA (xe_callTy cx_int rfl G.b_int (by decide +kernel) (xa_cons (xe_cmp ox_gt (xe_var 1) xe_int rfl) xa_nil)) (xe_callTy cx_int rfl G.b_int (by decide +kernel) (xa_cons (xe_cmp ox_lt (xe_var 1) xe_int rfl) xa_nil)))))) xa_nil)))))
theorem sc_is_border : FnScope ["value"] ["value"] (defScope (top 13)) := ⟨rfl, rfl, rfl, by decide +kernel, rfl, by decide +kernel, by decide +kernel⟩
theorem ok_is_border (G : Gs mg) (E : Xs P w K mg base) (B : SysM base) (h_border_of : Fn P w K mg base 3 "border_of" ["row"] [] f_border_of) (h_is_whole_row : Fn P w K mg base 2 "is_whole_row" ["value", "count"] [] f_is_whole_row) (F : FunD K "is_border" "is_border" (defArgs (top 13)) (defBody (top 13)) (defScope (top 13)) [] [] f fd) : FnG P w K mg base 4 f fd ["value"] (spD K mg 1 f_is_border) :=
  fn_ok (k := 3) F sc_is_border fun cdv A outer s H Ex hg hr => by
  have c := cxe_of (P := P) (w := w) (K := K) (mg := mg) (base := base) (N := ["value"]) (outer := outer) (H := H) (E := Ex) (k := 3) sc_is_border.nd hg hr B
  exact (xss_cons (xs_if (xt_w (xw_or (xt_not (xt_val (xe_isi (xe_var 0) rfl G.b_isinstance rfl G.b_tuple (by decide +kernel)))) (xw_or1 (xt_not (xt_chain ox_le ox_le xe_int (xe_callB cx_len rfl G.b_len (by decide +kernel) (xa_cons (xe_var 0) xa_nil)) (xe_gint rfl G.c_MAX_ANSWERS)))))) (xss_one (xs_ret xe_bl)) xss_nil)
    (xss_one (xs_ret (xe_and (xe_fn h_is_whole_row c (by decide) rfl (xa_cons (xe_var 0) (xa_cons (xe_callB cx_len rfl G.b_len (by decide +kernel) (xa_cons (xe_var 0) xa_nil)) xa_nil)) (alen_cons (alen_cons alen_nil))) (xe_one (xe_cmp (ox_eqA c.u64) (xe_fn h_border_of c (by decide) rfl (xa_cons (xe_var 0) xa_nil) (alen_cons alen_nil)) (xe_var 0) rfl))))))
theorem sc_seats : FnScope ["words", "one", "other"] ["words"] (defScope (top 14)) := ⟨rfl, rfl, rfl, by decide +kernel, rfl, by decide +kernel, by decide +kernel⟩
theorem ok_seats (G : Gs mg) (E : Xs P w K mg base) (B : SysM base) (F : FunD K "seats" "seats" (defArgs (top 14)) (defBody (top 14)) (defScope (top 14)) [] [] f fd) : FnG P w K mg base 1 f fd ["words"] (spD K mg 1 f_seats) :=
  fn_ok (k := 0) F sc_seats fun cdv A outer s H Ex hg hr => by
  have c := cxe_of (P := P) (w := w) (K := K) (mg := mg) (base := base) (N := ["words", "one", "other"]) (outer := outer) (H := H) (E := Ex) (k := 0) sc_seats.nd hg hr B
  exact (xss_one (xs_ret (xe_frz (xl_comp2 c.calm c.nd (xi_range1 rfl G.b_range (xa_cons (xe_var 0) xa_nil)) (own := [("one", 1), ("other", 2)]) (blkOk_by (by kernel_rfl)) (by decide) (fun _ h => h) (by decide) (fun s1 H1 C1 cl1 fp1 => (gd_name (c.blk s1 H1 _ _ fp1).nd rfl (by first | exact .inl rfl | exact .inr rfl))) (fun s1 H1 C1 cl1 fp1 => xts_nil) (fun s1 H1 C1 cl1 fp1 => (xi_range2 rfl G.b_range (xa_cons (xe_bin ox_addA (xe_var 1) xe_int) (xa_cons (xe_var 0) xa_nil)))) (fun s1 H1 C1 cl1 fp1 => (gd_name (c.blk s1 H1 _ _ fp1).nd rfl (by first | exact .inl rfl | exact .inr rfl))) (fun s1 H1 C1 cl1 fp1 => xts_nil) (fun s1 H1 C1 cl1 fp1 => (xe_tup (xa_cons (xe_var 1) (xa_cons (xe_var 2) xa_nil))))))))
theorem sc_book_error : FnScope ["value", "index", "seat", "triple"] ["value"] (defScope (top 15)) := ⟨rfl, rfl, rfl, by decide +kernel, rfl, by decide +kernel, by decide +kernel⟩
theorem ok_book_error (G : Gs mg) (E : Xs P w K mg base) (B : SysM base) (h_is_border : Fn P w K mg base 4 "is_border" ["value"] [] f_is_border) (h_is_whole_row : Fn P w K mg base 2 "is_whole_row" ["value", "count"] [] f_is_whole_row) (h_seats : Fn P w K mg base 1 "seats" ["words"] [] f_seats) (F : FunD K "book_error" "book_error" (defArgs (top 15)) (defBody (top 15)) (defScope (top 15)) [] [] f fd) : FnG P w K mg base 5 f fd ["value"] (spD K mg 1 f_book_error) :=
  fn_ok (k := 4) F sc_book_error fun cdv A outer s H Ex hg hr => by
  have c := cxe_of (P := P) (w := w) (K := K) (mg := mg) (base := base) (N := ["value", "index", "seat", "triple"]) (outer := outer) (H := H) (E := Ex) (k := 4) sc_book_error.nd hg hr B
  exact (xss_cons (xs_if (xt_w (xw_or (xt_not (xt_val (xe_isi (xe_var 0) rfl G.b_isinstance rfl G.b_tuple (by decide +kernel)))) (xw_or1 (xt_tabNin E.t_SIZES rfl (xe_callB cx_len rfl G.b_len (by decide +kernel) (xa_cons (xe_var 0) xa_nil)))))) (xss_one (xs_ret (xe_tup (xa_cons xe_non (xa_cons xe_str xa_nil))))) xss_nil)
    (xss_cons (xs_for own_of c.calm (xi_enum rfl G.b_enumerate (xa_cons (xe_fn h_seats c (by decide) rfl (xa_cons (xe_tabGet E.t_SIZES rfl (xe_callB cx_len rfl G.b_len (by decide +kernel) (xa_cons (xe_var 0) xa_nil)) fun _ _ => rfl) xa_nil) (alen_cons alen_nil)) xa_nil)) (gd_tup c.calm (gds_cons (gd_name c.nd rfl (by first | exact .inl rfl | exact .inr rfl)) (gds_cons (gd_name c.nd rfl (by first | exact .inl rfl | exact .inr rfl)) gds_nil)))
   (xss_cons (xs_set c.nd rfl (by first | exact .inl rfl | exact .inr rfl) (xe_ix (xe_var 0) (xe_var 1) fun _ _ => rfl))
    (xss_cons (xs_if (xt_w (xw_or (xt_not (xt_val (xe_isi (xe_var 3) rfl G.b_isinstance rfl G.b_tuple (by decide +kernel)))) (xw_or1 (xt_cmp (ox_neA c.u64) (xe_callB cx_len rfl G.b_len (by decide +kernel) (xa_cons (xe_var 3) xa_nil)) xe_int rfl)))) (xss_one (xs_ret (xe_tup (xa_cons (xe_var 1) (xa_cons xe_str xa_nil))))) xss_nil)
    (xss_cons (xs_if (xt_w (xw_or (xt_not (xt_val (xe_fn h_is_whole_row c (by decide) rfl (xa_cons (xe_sl (xe_var 3) xo_none (xo_some xe_int)) (xa_cons xe_int xa_nil)) (alen_cons (alen_cons alen_nil))))) (xw_or1 (xt_cmp (ox_neA c.u64) (xe_sl (xe_var 3) xo_none (xo_some xe_int)) (xe_var 2) rfl)))) (xss_one (xs_ret (xe_tup (xa_cons (xe_var 1) (xa_cons xe_str xa_nil))))) xss_nil)
    (xss_cons (xs_if (xt_not (xt_val (xe_fn h_is_border c (by decide) rfl (xa_cons (xe_ix (xe_var 3) xe_int fun _ _ => rfl) xa_nil) (alen_cons alen_nil)))) (xss_one (xs_ret (xe_tup (xa_cons (xe_var 1) (xa_cons xe_str xa_nil))))) xss_nil)
    (xss_one (xs_if (xt_cmp (ox_neA c.u64) (xe_callB cx_len rfl G.b_len (by decide +kernel) (xa_cons (xe_ix (xe_var 3) xe_int fun _ _ => rfl) xa_nil)) (xe_callB cx_len rfl G.b_len (by decide +kernel) (xa_cons (xe_ix (xe_ix (xe_var 0) xe_int fun _ _ => rfl) xe_int fun _ _ => rfl) xa_nil)) rfl) (xss_one (xs_ret (xe_tup (xa_cons (xe_var 1) (xa_cons xe_str xa_nil))))) xss_nil)))))))
    (xss_one (xs_ret xe_non))))
theorem sc_is_book : FnScope ["value"] ["value"] (defScope (top 16)) := ⟨rfl, rfl, rfl, by decide +kernel, rfl, by decide +kernel, by decide +kernel⟩
theorem ok_is_book (G : Gs mg) (E : Xs P w K mg base) (B : SysM base) (h_book_error : Fn P w K mg base 5 "book_error" ["value"] [] f_book_error) (F : FunD K "is_book" "is_book" (defArgs (top 16)) (defBody (top 16)) (defScope (top 16)) [] [] f fd) : FnG P w K mg base 6 f fd ["value"] (spD K mg 1 f_is_book) :=
  fn_ok (k := 5) F sc_is_book fun cdv A outer s H Ex hg hr => by
  have c := cxe_of (P := P) (w := w) (K := K) (mg := mg) (base := base) (N := ["value"]) (outer := outer) (H := H) (E := Ex) (k := 5) sc_is_book.nd hg hr B
  exact (xss_one (xs_ret (xe_cmp ox_isN (xe_fn h_book_error c (by decide) rfl (xa_cons (xe_var 0) xa_nil) (alen_cons alen_nil)) xe_non rfl)))
theorem sc__law_deck : FnScope ["_law_script", "_law_cell"] ["_law_script"] (defScope (top 18)) := ⟨rfl, rfl, rfl, by decide +kernel, rfl, by decide +kernel, by decide +kernel⟩
theorem ok__law_deck (G : Gs mg) (E : Xs P w K mg base) (B : SysM base) (F : FunD K "_law_deck" "_law_deck" (defArgs (top 18)) (defBody (top 18)) (defScope (top 18)) [] [] f fd) : FnG P w K mg base 1 f fd ["_law_script"] (spD K mg 1 f__law_deck_k28) :=
  fn_ok (k := 0) F sc__law_deck fun cdv A outer s H Ex hg hr => by
  have c := cxe_of (P := P) (w := w) (K := K) (mg := mg) (base := base) (N := ["_law_script", "_law_cell"]) (outer := outer) (H := H) (E := Ex) (k := 0) sc__law_deck.nd hg hr B
  exact (xss_one (xs_ret (xe_cell (xl_disp (xa_cons (xe_cell (xl_comp c.calm c.nd (xi_seq (xe_sl (xe_var 0) xo_none (xo_some xe_int))) (own := [("_law_cell", 1)]) (blkOk_by (by kernel_rfl)) (by decide) (fun s1 H1 C1 cl1 fp1 => (gd_name (c.blk s1 H1 _ _ fp1).nd rfl (by first | exact .inl rfl | exact .inr rfl))) (fun s1 H1 C1 cl1 fp1 => xts_nil) (fun s1 H1 C1 cl1 fp1 => (xe_callB cx_absA rfl G.b_abs (by decide +kernel) (xa_cons (xe_var 1) xa_nil))))) (xa_cons xe_int xa_nil))))))
theorem sc__law_draw : FnScope ["_law_deck_here", "_law_many", "_law_cell", "_law_at", "_law_mixed"] ["_law_deck_here", "_law_many"] (defScope (top 19)) := ⟨rfl, rfl, rfl, by decide +kernel, rfl, by decide +kernel, by decide +kernel⟩
theorem ok__law_draw (G : Gs mg) (E : Xs P w K mg base) (B : SysM base) (F : FunD K "_law_draw" "_law_draw" (defArgs (top 19)) (defBody (top 19)) (defScope (top 19)) [] [] f fd) : FnG P w K mg base 1 f fd ["_law_deck_here", "_law_many"] (spD K mg 2 f__law_draw_k28) :=
  fn_ok (k := 0) F sc__law_draw fun cdv A outer s H Ex hg hr => by
  have c := cxe_of (P := P) (w := w) (K := K) (mg := mg) (base := base) (N := ["_law_deck_here", "_law_many", "_law_cell", "_law_at", "_law_mixed"]) (outer := outer) (H := H) (E := Ex) (k := 0) sc__law_draw.nd hg hr B
  exact (xss_cons (xs_setI (xe_var 0) xe_int (xe_bin ox_addA (xe_ix (xe_var 0) xe_int fun _ _ => rfl) xe_int) (by intro _; rfl))
    (xss_cons (xs_asgT (xe_tup (xa_cons xe_int (xa_cons (xe_un ux_neg xe_int) xa_nil))) (gd_tup c.calm (gds_cons (gd_name c.nd rfl (by first | exact .inl rfl | exact .inr rfl)) (gds_cons (gd_name c.nd rfl (by first | exact .inl rfl | exact .inr rfl)) gds_nil))))
    (xss_cons (xs_if (xt_cmp ox_gt (xe_callB cx_len rfl G.b_len (by decide +kernel) (xa_cons (xe_ix (xe_var 0) xe_int fun _ _ => rfl) xa_nil)) xe_int rfl) (xss_cons (xs_set c.nd rfl (by first | exact .inl rfl | exact .inr rfl) (xe_bin ox_mod (xe_callTy cx_int rfl G.b_int (by decide +kernel) (xa_cons (xe_ix (xe_var 0) xe_int fun _ _ => rfl) xa_nil)) (xe_callB cx_len rfl G.b_len (by decide +kernel) (xa_cons (xe_ix (xe_var 0) xe_int fun _ _ => rfl) xa_nil))))
    (xss_one (xs_set c.nd rfl (by first | exact .inl rfl | exact .inr rfl) (xe_ix (xe_ix (xe_var 0) xe_int fun _ _ => rfl) (xe_var 3) fun _ _ => rfl)))) xss_nil)
    (xss_cons (xs_if (xt_cmp ox_ge (xe_var 2) (xe_bin ox_pow xe_int xe_int) rfl) (xss_cons (xs_setI (xe_ix (xe_var 0) xe_int fun _ _ => rfl) (xe_var 3) (xe_bin ox_div (xe_callTy cx_int rfl G.b_int (by decide +kernel) (xa_cons (xe_var 2) xa_nil)) (xe_var 1)) (by intro _; rfl))
    (xss_one (xs_ret (xe_bin ox_mod (xe_callTy cx_int rfl G.b_int (by decide +kernel) (xa_cons (xe_var 2) xa_nil)) (xe_var 1))))) xss_nil)
    (xss_cons (xs_set c.nd rfl (by first | exact .inl rfl | exact .inr rfl) (xe_bin ox_addA (xe_bin ox_addA (xe_bin ox_mod (xe_callTy cx_int rfl G.b_int (by decide +kernel) (xa_cons (xe_var 2) xa_nil)) xe_int) (xe_bin ox_mulA xe_int (xe_ix (xe_var 0) xe_int fun _ _ => rfl))) xe_int))
    (xss_one (xs_ret (xe_bin ox_mod (xe_callTy cx_int rfl G.b_int (by decide +kernel) (xa_cons (xe_bin ox_mod (xe_callTy cx_int rfl G.b_int (by decide +kernel) (xa_cons (xe_bin ox_pow (xe_var 4) xe_int) xa_nil)) xe_int) xa_nil)) (xe_var 1)))))))))
theorem sc__law_one : FnScope ["_law_deck_here", "_law_items"] ["_law_deck_here", "_law_items"] (defScope (top 20)) := ⟨rfl, rfl, rfl, by decide +kernel, rfl, by decide +kernel, by decide +kernel⟩
theorem ok__law_one (G : Gs mg) (E : Xs P w K mg base) (B : SysM base) (h__law_draw : Fn P w K mg base 1 "_law_draw" ["_law_deck_here", "_law_many"] [] f__law_draw_k28) (F : FunD K "_law_one" "_law_one" (defArgs (top 20)) (defBody (top 20)) (defScope (top 20)) [] [] f fd) : FnG P w K mg base 2 f fd ["_law_deck_here", "_law_items"] (spD K mg 2 f__law_one_k28) :=
  fn_ok (k := 1) F sc__law_one fun cdv A outer s H Ex hg hr => by
  have c := cxe_of (P := P) (w := w) (K := K) (mg := mg) (base := base) (N := ["_law_deck_here", "_law_items"]) (outer := outer) (H := H) (E := Ex) (k := 1) sc__law_one.nd hg hr B
  exact (xss_one (xs_ret (xe_ix (xe_var 1) (xe_fn h__law_draw c (by decide) rfl (xa_cons (xe_var 0) (xa_cons (xe_callB cx_len rfl G.b_len (by decide +kernel) (xa_cons (xe_var 1) xa_nil)) xa_nil)) (alen_cons (alen_cons alen_nil))) fun _ _ => rfl)))
theorem sc__law_most : FnScope ["_law_numbers", "_law_number"] ["_law_numbers"] (defScope (top 21)) := ⟨rfl, rfl, rfl, by decide +kernel, rfl, by decide +kernel, by decide +kernel⟩
theorem ok__law_most (G : Gs mg) (E : Xs P w K mg base) (B : SysM base) (F : FunD K "_law_most" "_law_most" (defArgs (top 21)) (defBody (top 21)) (defScope (top 21)) [] [] f fd) : FnG P w K mg base 1 f fd ["_law_numbers"] (spD K mg 1 f__law_most) :=
  fn_ok (k := 0) F sc__law_most fun cdv A outer s H Ex hg hr => by
  have c := cxe_of (P := P) (w := w) (K := K) (mg := mg) (base := base) (N := ["_law_numbers", "_law_number"]) (outer := outer) (H := H) (E := Ex) (k := 0) sc__law_most.nd hg hr B
  exact (xss_one (xs_ret (xe_callB (cx_max c.calm) rfl G.b_max (by decide +kernel) (xa_cons (xe_frz (xl_comp c.calm c.nd (xi_seq (xe_var 0)) (own := [("_law_number", 1)]) (blkOk_by (by kernel_rfl)) (by decide) (fun s1 H1 C1 cl1 fp1 => (gd_name (c.blk s1 H1 _ _ fp1).nd rfl (by first | exact .inl rfl | exact .inr rfl))) (fun s1 H1 C1 cl1 fp1 => xts_nil) (fun s1 H1 C1 cl1 fp1 => (xe_callTy cx_int rfl G.b_int (by decide +kernel) (xa_cons (xe_var 1) xa_nil))))) xa_nil))))
theorem sc__law_least : FnScope ["_law_numbers", "_law_number"] ["_law_numbers"] (defScope (top 22)) := ⟨rfl, rfl, rfl, by decide +kernel, rfl, by decide +kernel, by decide +kernel⟩
theorem ok__law_least (G : Gs mg) (E : Xs P w K mg base) (B : SysM base) (F : FunD K "_law_least" "_law_least" (defArgs (top 22)) (defBody (top 22)) (defScope (top 22)) [] [] f fd) : FnG P w K mg base 1 f fd ["_law_numbers"] (spD K mg 1 f__law_least_k30) :=
  fn_ok (k := 0) F sc__law_least fun cdv A outer s H Ex hg hr => by
  have c := cxe_of (P := P) (w := w) (K := K) (mg := mg) (base := base) (N := ["_law_numbers", "_law_number"]) (outer := outer) (H := H) (E := Ex) (k := 0) sc__law_least.nd hg hr B
  exact (xss_one (xs_ret (xe_callB (cx_min c.calm) rfl G.b_min (by decide +kernel) (xa_cons (xe_frz (xl_comp c.calm c.nd (xi_seq (xe_var 0)) (own := [("_law_number", 1)]) (blkOk_by (by kernel_rfl)) (by decide) (fun s1 H1 C1 cl1 fp1 => (gd_name (c.blk s1 H1 _ _ fp1).nd rfl (by first | exact .inl rfl | exact .inr rfl))) (fun s1 H1 C1 cl1 fp1 => xts_nil) (fun s1 H1 C1 cl1 fp1 => (xe_callTy cx_int rfl G.b_int (by decide +kernel) (xa_cons (xe_var 1) xa_nil))))) xa_nil))))
theorem sc__law_divisor : FnScope ["_law_numbers", "_law_found", "_law_number", "_law_rest"] ["_law_numbers"] (defScope (top 23)) := ⟨rfl, rfl, rfl, by decide +kernel, rfl, by decide +kernel, by decide +kernel⟩
theorem ok__law_divisor (G : Gs mg) (E : Xs P w K mg base) (B : SysM base) (F : FunD K "_law_divisor" "_law_divisor" (defArgs (top 23)) (defBody (top 23)) (defScope (top 23)) [] [] f fd) : FnG P w K mg base 1 f fd ["_law_numbers"] (spD K mg 1 f__law_divisor) :=
  fn_ok (k := 0) F sc__law_divisor fun cdv A outer s H Ex hg hr => by
  have c := cxe_of (P := P) (w := w) (K := K) (mg := mg) (base := base) (N := ["_law_numbers", "_law_found", "_law_number", "_law_rest"]) (outer := outer) (H := H) (E := Ex) (k := 0) sc__law_divisor.nd hg hr B
  exact (xss_cons (xs_set c.nd rfl (by first | exact .inl rfl | exact .inr rfl) xe_int)
    (xss_cons (xs_for own_of c.calm (xi_seq (xe_var 0)) (gd_name c.nd rfl (by first | exact .inl rfl | exact .inr rfl))
   (xss_cons (xs_set c.nd rfl (by first | exact .inl rfl | exact .inr rfl) (xe_callB cx_absA rfl G.b_abs (by decide +kernel) (xa_cons (xe_var 2) xa_nil)))
    (xss_one (xs_while own_of (xt_cmp (ox_neA c.u64) (xe_var 3) xe_int rfl)
   (xss_one (xs_par c.calm c.nd rfl rfl (by decide) rfl rfl (xa_cons (xe_var 3) (xa_cons (xe_bin ox_mod (xe_callTy cx_int rfl G.b_int (by decide +kernel) (xa_cons (xe_var 1) xa_nil)) (xe_var 3)) xa_nil)) rfl))))))
    (xss_one (xs_ret (xe_var 1)))))
theorem sc__law_primitive : FnScope ["_law_numbers", "_law_divisor_here", "_law_number"] ["_law_numbers"] (defScope (top 24)) := ⟨rfl, rfl, rfl, by decide +kernel, rfl, by decide +kernel, by decide +kernel⟩
theorem ok__law_primitive (G : Gs mg) (E : Xs P w K mg base) (B : SysM base) (h__law_divisor : Fn P w K mg base 1 "_law_divisor" ["_law_numbers"] [] f__law_divisor) (F : FunD K "_law_primitive" "_law_primitive" (defArgs (top 24)) (defBody (top 24)) (defScope (top 24)) [] [] f fd) : FnG P w K mg base 2 f fd ["_law_numbers"] (spD K mg 1 f__law_primitive_k28) :=
  fn_ok (k := 1) F sc__law_primitive fun cdv A outer s H Ex hg hr => by
  have c := cxe_of (P := P) (w := w) (K := K) (mg := mg) (base := base) (N := ["_law_numbers", "_law_divisor_here", "_law_number"]) (outer := outer) (H := H) (E := Ex) (k := 1) sc__law_primitive.nd hg hr B
  exact (xss_cons (xs_set c.nd rfl (by first | exact .inl rfl | exact .inr rfl) (xe_fn h__law_divisor c (by decide) rfl (xa_cons (xe_var 0) xa_nil) (alen_cons alen_nil)))
    (xss_one (xs_ret (xe_callTy cx_tup rfl G.b_tuple (by decide +kernel) (xa_cons (xe_frz (xl_comp c.calm c.nd (xi_seq (xe_var 0)) (own := [("_law_number", 2)]) (blkOk_by (by kernel_rfl)) (by decide) (fun s1 H1 C1 cl1 fp1 => (gd_name (c.blk s1 H1 _ _ fp1).nd rfl (by first | exact .inl rfl | exact .inr rfl))) (fun s1 H1 C1 cl1 fp1 => xts_nil) (fun s1 H1 C1 cl1 fp1 => (xe_bin ox_div (xe_var 2) (xe_var 1))))) xa_nil)))))
theorem sc__law_mark : FnScope ["_law_deck_here", "_law_far"] ["_law_deck_here", "_law_far"] (defScope (top 25)) := ⟨rfl, rfl, rfl, by decide +kernel, rfl, by decide +kernel, by decide +kernel⟩
theorem ok__law_mark (G : Gs mg) (E : Xs P w K mg base) (B : SysM base) (h__law_draw : Fn P w K mg base 1 "_law_draw" ["_law_deck_here", "_law_many"] [] f__law_draw_k28) (h__law_one : Fn P w K mg base 2 "_law_one" ["_law_deck_here", "_law_items"] [] f__law_one_k28) (F : FunD K "_law_mark" "_law_mark" (defArgs (top 25)) (defBody (top 25)) (defScope (top 25)) [] [] f fd) : FnG P w K mg base 3 f fd ["_law_deck_here", "_law_far"] (spD K mg 2 f__law_mark_k28) :=
  fn_ok (k := 2) F sc__law_mark fun cdv A outer s H Ex hg hr => by
  have c := cxe_of (P := P) (w := w) (K := K) (mg := mg) (base := base) (N := ["_law_deck_here", "_law_far"]) (outer := outer) (H := H) (E := Ex) (k := 2) sc__law_mark.nd hg hr B
  exact (xss_cons (xs_if (xt_cmp (ox_eqA c.u64) (xe_fn h__law_draw c (by decide) rfl (xa_cons (xe_var 0) (xa_cons xe_int xa_nil)) (alen_cons (alen_cons alen_nil))) xe_int rfl) (xss_one (xs_ret (xe_fn h__law_one c (by decide) rfl (xa_cons (xe_var 0) (xa_cons (xe_frz (xl_disp (xa_cons (xe_var 1) (xa_cons (xe_bin ox_subA xe_int (xe_var 1)) (xa_cons (xe_bin ox_subA (xe_var 1) xe_int) (xa_cons (xe_bin ox_subA (xe_fn h__law_draw c (by decide) rfl (xa_cons (xe_var 0) (xa_cons (xe_bin ox_addA (xe_bin ox_mulA xe_int (xe_var 1)) xe_int) xa_nil)) (alen_cons (alen_cons alen_nil))) (xe_var 1)) xa_nil)))))) xa_nil)) (alen_cons (alen_cons alen_nil))))) xss_nil)
    (xss_one (xs_ret (xe_bin ox_subA (xe_fn h__law_draw c (by decide) rfl (xa_cons (xe_var 0) (xa_cons xe_int xa_nil)) (alen_cons (alen_cons alen_nil))) xe_int))))
theorem sc__law_mixed_row : FnScope ["_law_deck_here", "_law_rows", "_law_one_here", "_law_other", "_law_less", "_law_mark_here", "_law_more"] ["_law_deck_here", "_law_rows"] (defScope (top 26)) := ⟨rfl, rfl, rfl, by decide +kernel, rfl, by decide +kernel, by decide +kernel⟩
theorem ok__law_mixed_row (G : Gs mg) (E : Xs P w K mg base) (B : SysM base) (h__law_draw : Fn P w K mg base 1 "_law_draw" ["_law_deck_here", "_law_many"] [] f__law_draw_k28) (h__law_one : Fn P w K mg base 2 "_law_one" ["_law_deck_here", "_law_items"] [] f__law_one_k28) (F : FunD K "_law_mixed_row" "_law_mixed_row" (defArgs (top 26)) (defBody (top 26)) (defScope (top 26)) [] [] f fd) : FnG P w K mg base 3 f fd ["_law_deck_here", "_law_rows"] (spD K mg 2 f__law_mixed_row) :=
  fn_ok (k := 2) F sc__law_mixed_row fun cdv A outer s H Ex hg hr => by
  have c := cxe_of (P := P) (w := w) (K := K) (mg := mg) (base := base) (N := ["_law_deck_here", "_law_rows", "_law_one_here", "_law_other", "_law_less", "_law_mark_here", "_law_more"]) (outer := outer) (H := H) (E := Ex) (k := 2) sc__law_mixed_row.nd hg hr B
  exact (xss_cons (xs_par c.calm c.nd rfl rfl (by decide) rfl rfl (xa_cons (xe_fn h__law_one c (by decide) rfl (xa_cons (xe_var 0) (xa_cons (xe_var 1) xa_nil)) (alen_cons (alen_cons alen_nil))) (xa_cons (xe_fn h__law_one c (by decide) rfl (xa_cons (xe_var 0) (xa_cons (xe_var 1) xa_nil)) (alen_cons (alen_cons alen_nil))) xa_nil)) rfl)
    (xss_cons (xs_set c.nd rfl (by first | exact .inl rfl | exact .inr rfl) (xe_fn h__law_draw c (by decide) rfl (xa_cons (xe_var 0) (xa_cons xe_int xa_nil)) (alen_cons (alen_cons alen_nil))))
    (xss_cons (xs_if (xt_cmp (ox_eqA c.u64) (xe_fn h__law_draw c (by decide) rfl (xa_cons (xe_var 0) (xa_cons xe_int xa_nil)) (alen_cons (alen_cons alen_nil))) xe_int rfl) (xss_one (xs_ret (xe_callTy cx_tup rfl G.b_tuple (by decide +kernel) (xa_cons (xe_frz (xl_comp c.calm c.nd (xi_seq (xe_var 2)) (own := [("_law_mark_here", 5)]) (blkOk_by (by kernel_rfl)) (by decide) (fun s1 H1 C1 cl1 fp1 => (gd_name (c.blk s1 H1 _ _ fp1).nd rfl (by first | exact .inl rfl | exact .inr rfl))) (fun s1 H1 C1 cl1 fp1 => xts_nil) (fun s1 H1 C1 cl1 fp1 => (xe_var 5)))) xa_nil)))) xss_nil)
    (xss_one (xs_ret (xe_callTy cx_tup rfl G.b_tuple (by decide +kernel) (xa_cons (xe_frz (xl_comp c.calm c.nd (xi_zip rfl G.b_zip (xa_cons (xe_var 2) (xa_cons (xe_var 3) xa_nil))) (own := [("_law_mark_here", 5), ("_law_more", 6)]) (blkOk_by (by kernel_rfl)) (by decide) (fun s1 H1 C1 cl1 fp1 => (gd_tup (c.blk s1 H1 _ _ fp1).calm (gds_cons (gd_name (c.blk s1 H1 _ _ fp1).nd rfl (by first | exact .inl rfl | exact .inr rfl)) (gds_cons (gd_name (c.blk s1 H1 _ _ fp1).nd rfl (by first | exact .inl rfl | exact .inr rfl)) gds_nil)))) (fun s1 H1 C1 cl1 fp1 => xts_nil) (fun s1 H1 C1 cl1 fp1 => (xe_bin ox_subA (xe_bin ox_div (xe_bin ox_addA (xe_var 5) (xe_var 6)) xe_int) (xe_var 4))))) xa_nil)))))))
theorem sc__law_menu : FnScope ["_law_deck_here", "_law_most_here", "_law_answers", "_law_rows", "_law_far", "_law_turn", "_law_row", "_law_mark_here", "_law_answer"] ["_law_deck_here", "_law_most_here"] (defScope (top 27)) := ⟨rfl, rfl, rfl, by decide +kernel, rfl, by decide +kernel, by decide +kernel⟩
theorem ok__law_menu (G : Gs mg) (E : Xs P w K mg base) (B : SysM base) (h__law_draw : Fn P w K mg base 1 "_law_draw" ["_law_deck_here", "_law_many"] [] f__law_draw_k28) (h__law_mark : Fn P w K mg base 3 "_law_mark" ["_law_deck_here", "_law_far"] [] f__law_mark_k28) (h__law_mixed_row : Fn P w K mg base 3 "_law_mixed_row" ["_law_deck_here", "_law_rows"] [] f__law_mixed_row) (h__law_one : Fn P w K mg base 2 "_law_one" ["_law_deck_here", "_law_items"] [] f__law_one_k28) (F : FunD K "_law_menu" "_law_menu" (defArgs (top 27)) (defBody (top 27)) (defScope (top 27)) [] [] f fd) : FnG P w K mg base 4 f fd ["_law_deck_here", "_law_most_here"] (spD K mg 2 f__law_menu_k28) :=
  fn_ok (k := 3) F sc__law_menu fun cdv A outer s H Ex hg hr => by
  have c := cxe_of (P := P) (w := w) (K := K) (mg := mg) (base := base) (N := ["_law_deck_here", "_law_most_here", "_law_answers", "_law_rows", "_law_far", "_law_turn", "_law_row", "_law_mark_here", "_law_answer"]) (outer := outer) (H := H) (E := Ex) (k := 3) sc__law_menu.nd hg hr B
  exact (xss_cons (xs_par c.calm c.nd rfl rfl (by decide) rfl rfl (xa_cons (xe_bin ox_addA xe_int (xe_fn h__law_draw c (by decide) rfl (xa_cons (xe_var 0) (xa_cons xe_int xa_nil)) (alen_cons (alen_cons alen_nil)))) (xa_cons (xe_cell (xl_disp xa_nil)) xa_nil)) rfl)
    (xss_cons (xs_set c.nd rfl (by first | exact .inl rfl | exact .inr rfl) (xe_fn h__law_one c (by decide) rfl (xa_cons (xe_var 0) (xa_cons (xe_frz (xl_disp (xa_cons xe_int (xa_cons xe_int (xa_cons (xe_bin ox_pow xe_int xe_int) xa_nil))))) xa_nil)) (alen_cons (alen_cons alen_nil))))
    (xss_cons (xs_for own_of c.calm (xi_range1 rfl G.b_range (xa_cons (xe_bin ox_addA xe_int (xe_fn h__law_draw c (by decide) rfl (xa_cons (xe_var 0) (xa_cons (xe_var 1) xa_nil)) (alen_cons (alen_cons alen_nil)))) xa_nil)) (gd_name c.nd rfl (by first | exact .inl rfl | exact .inr rfl))
   (xss_one (xs_if (xt_w (xw_and (xt_cmp (ox_neA c.u64) (xe_var 3) (xe_frz (xl_disp xa_nil)) rfl) (xw_and1 (xt_cmp (ox_eqA c.u64) (xe_fn h__law_draw c (by decide) rfl (xa_cons (xe_var 0) (xa_cons xe_int xa_nil)) (alen_cons (alen_cons alen_nil))) xe_int rfl)))) (xss_cons (xs_set c.nd rfl (by first | exact .inl rfl | exact .inr rfl) (xe_fn h__law_mixed_row c (by decide) rfl (xa_cons (xe_var 0) (xa_cons (xe_var 3) xa_nil)) (alen_cons (alen_cons alen_nil))))
    (xss_one (xs_expr (xe_app (xe_var 3) (xe_callTy cx_tup rfl G.b_tuple (by decide +kernel) (xa_cons (xe_frz (xl_comp c.calm c.nd (xi_seq (xe_var 6)) (own := [("_law_mark_here", 7)]) (blkOk_by (by kernel_rfl)) (by decide) (fun s1 H1 C1 cl1 fp1 => (gd_name (c.blk s1 H1 _ _ fp1).nd rfl (by first | exact .inl rfl | exact .inr rfl))) (fun s1 H1 C1 cl1 fp1 => xts_nil) (fun s1 H1 C1 cl1 fp1 => (xe_callB (cx_max (c.blk s1 H1 _ _ fp1).calm) rfl G.b_max (by decide +kernel) (xa_cons (xe_callTy cx_int rfl G.b_int (by decide +kernel) (xa_cons (xe_bin ox_subA xe_int (xe_var 4)) xa_nil)) (xa_cons (xe_callTy cx_int rfl G.b_int (by decide +kernel) (xa_cons (xe_var 7) xa_nil)) xa_nil)))))) xa_nil)))))) (xss_one (xs_expr (xe_app (xe_var 3) (xe_callTy cx_tup rfl G.b_tuple (by decide +kernel) (xa_cons (xe_frz (xl_comp c.calm c.nd (xi_range1 rfl G.b_range (xa_cons (xe_var 2) xa_nil)) (own := [("_law_answer", 8)]) (blkOk_by (by kernel_rfl)) (by decide) (fun s1 H1 C1 cl1 fp1 => (gd_name (c.blk s1 H1 _ _ fp1).nd rfl (by first | exact .inl rfl | exact .inr rfl))) (fun s1 H1 C1 cl1 fp1 => xts_nil) (fun s1 H1 C1 cl1 fp1 => (xe_fn h__law_mark (c.blk s1 H1 _ _ fp1) (by decide) rfl (xa_cons (xe_var 0) (xa_cons (xe_var 4) xa_nil)) (alen_cons (alen_cons alen_nil)))))) xa_nil))))))))
    (xss_one (xs_ret (xe_callTy cx_tup rfl G.b_tuple (by decide +kernel) (xa_cons (xe_var 3) xa_nil)))))))
theorem sc__law_sign : FnScope ["_law_number"] ["_law_number"] (defScope (top 28)) := ⟨rfl, rfl, rfl, by decide +kernel, rfl, by decide +kernel, by decide +kernel⟩
theorem ok__law_sign (G : Gs mg) (E : Xs P w K mg base) (B : SysM base) (F : FunD K "_law_sign" "_law_sign" (defArgs (top 28)) (defBody (top 28)) (defScope (top 28)) [] [] f fd) : FnG P w K mg base 1 f fd ["_law_number"] (spD K mg 1 f__law_sign) :=
  fn_ok (k := 0) F sc__law_sign fun cdv A outer s H Ex hg hr => by
  have c := cxe_of (P := P) (w := w) (K := K) (mg := mg) (base := base) (N := ["_law_number"]) (outer := outer) (H := H) (E := Ex) (k := 0) sc__law_sign.nd hg hr B
  exact (xss_one (xs_ret (xe_bin ox_subA (xe_callTy cx_int rfl G.b_int (by decide +kernel) (xa_cons (xe_cmp ox_gt (xe_var 0) xe_int rfl) xa_nil)) (xe_callTy cx_int rfl G.b_int (by decide +kernel) (xa_cons (xe_cmp ox_lt (xe_var 0) xe_int rfl) xa_nil)))))
theorem sc__law_border : FnScope ["_law_row", "_law_item"] ["_law_row"] (defScope (top 29)) := ⟨rfl, rfl, rfl, by decide +kernel, rfl, by decide +kernel, by decide +kernel⟩
theorem ok__law_border (G : Gs mg) (E : Xs P w K mg base) (B : SysM base) (h__law_least : Fn P w K mg base 1 "_law_least" ["_law_numbers"] [] f__law_least_k30) (h__law_most : Fn P w K mg base 1 "_law_most" ["_law_numbers"] [] f__law_most) (h__law_primitive : Fn P w K mg base 2 "_law_primitive" ["_law_numbers"] [] f__law_primitive_k28) (h__law_sign : Fn P w K mg base 1 "_law_sign" ["_law_number"] [] f__law_sign) (F : FunD K "_law_border" "_law_border" (defArgs (top 29)) (defBody (top 29)) (defScope (top 29)) [] [] f fd) : FnG P w K mg base 3 f fd ["_law_row"] (spD K mg 1 f__law_border) :=
  fn_ok (k := 2) F sc__law_border fun cdv A outer s H Ex hg hr => by
  have c := cxe_of (P := P) (w := w) (K := K) (mg := mg) (base := base) (N := ["_law_row", "_law_item"]) (outer := outer) (H := H) (E := Ex) (k := 2) sc__law_border.nd hg hr B
  exact (xss_cons (xs_if (xt_chain ox_lt ox_lt (xe_fn h__law_least c (by decide) rfl (xa_cons (xe_var 0) xa_nil) (alen_cons alen_nil)) xe_int (xe_fn h__law_most c (by decide) rfl (xa_cons (xe_var 0) xa_nil) (alen_cons alen_nil))) (xss_one (xs_ret (xe_fn h__law_primitive c (by decide) rfl (xa_cons (xe_var 0) xa_nil) (alen_cons alen_nil)))) xss_nil)
    (xss_one (xs_ret (xe_callTy cx_tup rfl G.b_tuple (by decide +kernel) (xa_cons (xe_frz (xl_comp c.calm c.nd (xi_seq (xe_var 0)) (own := [("_law_item", 1)]) (blkOk_by (by kernel_rfl)) (by decide) (fun s1 H1 C1 cl1 fp1 => (gd_name (c.blk s1 H1 _ _ fp1).nd rfl (by first | exact .inl rfl | exact .inr rfl))) (fun s1 H1 C1 cl1 fp1 => xts_nil) (fun s1 H1 C1 cl1 fp1 => (xe_fn h__law_sign (c.blk s1 H1 _ _ fp1) (by decide) rfl (xa_cons (xe_var 1) xa_nil) (alen_cons alen_nil))))) xa_nil)))))
theorem sc__law_minus : FnScope ["_law_one_here", "_law_other", "_law_mark_here", "_law_more"] ["_law_one_here", "_law_other"] (defScope (top 30)) := ⟨rfl, rfl, rfl, by decide +kernel, rfl, by decide +kernel, by decide +kernel⟩
theorem ok__law_minus (G : Gs mg) (E : Xs P w K mg base) (B : SysM base) (F : FunD K "_law_minus" "_law_minus" (defArgs (top 30)) (defBody (top 30)) (defScope (top 30)) [] [] f fd) : FnG P w K mg base 1 f fd ["_law_one_here", "_law_other"] (spD K mg 2 f__law_minus) :=
  fn_ok (k := 0) F sc__law_minus fun cdv A outer s H Ex hg hr => by
  have c := cxe_of (P := P) (w := w) (K := K) (mg := mg) (base := base) (N := ["_law_one_here", "_law_other", "_law_mark_here", "_law_more"]) (outer := outer) (H := H) (E := Ex) (k := 0) sc__law_minus.nd hg hr B
  exact (xss_one (xs_ret (xe_callTy cx_tup rfl G.b_tuple (by decide +kernel) (xa_cons (xe_frz (xl_comp c.calm c.nd (xi_zip rfl G.b_zip (xa_cons (xe_var 0) (xa_cons (xe_var 1) xa_nil))) (own := [("_law_mark_here", 2), ("_law_more", 3)]) (blkOk_by (by kernel_rfl)) (by decide) (fun s1 H1 C1 cl1 fp1 => (gd_tup (c.blk s1 H1 _ _ fp1).calm (gds_cons (gd_name (c.blk s1 H1 _ _ fp1).nd rfl (by first | exact .inl rfl | exact .inr rfl)) (gds_cons (gd_name (c.blk s1 H1 _ _ fp1).nd rfl (by first | exact .inl rfl | exact .inr rfl)) gds_nil)))) (fun s1 H1 C1 cl1 fp1 => xts_nil) (fun s1 H1 C1 cl1 fp1 => (xe_bin ox_subA (xe_var 2) (xe_var 3))))) xa_nil))))
theorem sc__law_seats : FnScope ["_law_words_here", "_law_found", "_law_one_here", "_law_other"] ["_law_words_here"] (defScope (top 31)) := ⟨rfl, rfl, rfl, by decide +kernel, rfl, by decide +kernel, by decide +kernel⟩
theorem ok__law_seats (G : Gs mg) (E : Xs P w K mg base) (B : SysM base) (F : FunD K "_law_seats" "_law_seats" (defArgs (top 31)) (defBody (top 31)) (defScope (top 31)) [] [] f fd) : FnG P w K mg base 1 f fd ["_law_words_here"] (spD K mg 1 f__law_seats) :=
  fn_ok (k := 0) F sc__law_seats fun cdv A outer s H Ex hg hr => by
  have c := cxe_of (P := P) (w := w) (K := K) (mg := mg) (base := base) (N := ["_law_words_here", "_law_found", "_law_one_here", "_law_other"]) (outer := outer) (H := H) (E := Ex) (k := 0) sc__law_seats.nd hg hr B
  exact (xss_cons (xs_set c.nd rfl (by first | exact .inl rfl | exact .inr rfl) (xe_cell (xl_disp xa_nil)))
    (xss_cons (xs_for own_of c.calm (xi_range1 rfl G.b_range (xa_cons (xe_var 0) xa_nil)) (gd_name c.nd rfl (by first | exact .inl rfl | exact .inr rfl))
   (xss_one (xs_expr (xe_ext (xe_var 1) (xe_frz (xl_comp c.calm c.nd (xi_range2 rfl G.b_range (xa_cons (xe_bin ox_addA (xe_var 2) xe_int) (xa_cons (xe_var 0) xa_nil))) (own := [("_law_other", 3)]) (blkOk_by (by kernel_rfl)) (by decide) (fun s1 H1 C1 cl1 fp1 => (gd_name (c.blk s1 H1 _ _ fp1).nd rfl (by first | exact .inl rfl | exact .inr rfl))) (fun s1 H1 C1 cl1 fp1 => xts_nil) (fun s1 H1 C1 cl1 fp1 => (xe_tup (xa_cons (xe_var 2) (xa_cons (xe_var 3) xa_nil))))))))))
    (xss_one (xs_ret (xe_fz (xe_var 1))))))
theorem sc__law_words : FnScope ["_law_book_here"] ["_law_book_here"] (defScope (top 32)) := ⟨rfl, rfl, rfl, by decide +kernel, rfl, by decide +kernel, by decide +kernel⟩
theorem ok__law_words (G : Gs mg) (E : Xs P w K mg base) (B : SysM base) (F : FunD K "_law_words" "_law_words" (defArgs (top 32)) (defBody (top 32)) (defScope (top 32)) [] [] f fd) : FnG P w K mg base 1 f fd ["_law_book_here"] (spD K mg 1 f__law_words) :=
  fn_ok (k := 0) F sc__law_words fun cdv A outer s H Ex hg hr => by
  have c := cxe_of (P := P) (w := w) (K := K) (mg := mg) (base := base) (N := ["_law_book_here"]) (outer := outer) (H := H) (E := Ex) (k := 0) sc__law_words.nd hg hr B
  exact (xss_one (xs_ret (xe_bin ox_addA (xe_index c.u65 (xe_frz (xl_disp (xa_cons xe_int (xa_cons xe_int (xa_cons xe_int (xa_cons xe_int (xa_cons xe_int xa_nil))))))) (xe_callB cx_len rfl G.b_len (by decide +kernel) (xa_cons (xe_var 0) xa_nil))) xe_int)))
theorem sc__law_book : FnScope ["_law_rows", "_law_i", "_law_j"] ["_law_rows"] (defScope (top 33)) := ⟨rfl, rfl, rfl, by decide +kernel, rfl, by decide +kernel, by decide +kernel⟩
theorem ok__law_book (G : Gs mg) (E : Xs P w K mg base) (B : SysM base) (h__law_border : Fn P w K mg base 3 "_law_border" ["_law_row"] [] f__law_border) (h__law_minus : Fn P w K mg base 1 "_law_minus" ["_law_one_here", "_law_other"] [] f__law_minus) (h__law_seats : Fn P w K mg base 1 "_law_seats" ["_law_words_here"] [] f__law_seats) (F : FunD K "_law_book" "_law_book" (defArgs (top 33)) (defBody (top 33)) (defScope (top 33)) [] [] f fd) : FnG P w K mg base 4 f fd ["_law_rows"] (spD K mg 1 f__law_book) :=
  fn_ok (k := 3) F sc__law_book fun cdv A outer s H Ex hg hr => by
  have c := cxe_of (P := P) (w := w) (K := K) (mg := mg) (base := base) (N := ["_law_rows", "_law_i", "_law_j"]) (outer := outer) (H := H) (E := Ex) (k := 3) sc__law_book.nd hg hr B
  exact (xss_one (xs_ret (xe_callTy cx_tup rfl G.b_tuple (by decide +kernel) (xa_cons (xe_frz (xl_comp c.calm c.nd (xi_seq (xe_fn h__law_seats c (by decide) rfl (xa_cons (xe_callB cx_len rfl G.b_len (by decide +kernel) (xa_cons (xe_var 0) xa_nil)) xa_nil) (alen_cons alen_nil))) (own := [("_law_i", 1), ("_law_j", 2)]) (blkOk_by (by kernel_rfl)) (by decide) (fun s1 H1 C1 cl1 fp1 => (gd_tup (c.blk s1 H1 _ _ fp1).calm (gds_cons (gd_name (c.blk s1 H1 _ _ fp1).nd rfl (by first | exact .inl rfl | exact .inr rfl)) (gds_cons (gd_name (c.blk s1 H1 _ _ fp1).nd rfl (by first | exact .inl rfl | exact .inr rfl)) gds_nil)))) (fun s1 H1 C1 cl1 fp1 => xts_nil) (fun s1 H1 C1 cl1 fp1 => (xe_tup (xa_cons (xe_var 1) (xa_cons (xe_var 2) (xa_cons (xe_fn h__law_border (c.blk s1 H1 _ _ fp1) (by decide) rfl (xa_cons (xe_fn h__law_minus (c.blk s1 H1 _ _ fp1) (by decide) rfl (xa_cons (xe_ix (xe_var 0) (xe_var 1) fun _ _ => rfl) (xa_cons (xe_ix (xe_var 0) (xe_var 2) fun _ _ => rfl) xa_nil)) (alen_cons (alen_cons alen_nil))) xa_nil) (alen_cons alen_nil)) xa_nil))))))) xa_nil))))
theorem sc__law_pair_menu : FnScope ["_law_deck_here", "_law_menu_here", "_law_mark_here"] ["_law_deck_here"] (defScope (top 34)) := ⟨rfl, rfl, rfl, by decide +kernel, rfl, by decide +kernel, by decide +kernel⟩
theorem ok__law_pair_menu (G : Gs mg) (E : Xs P w K mg base) (B : SysM base) (h__law_mark : Fn P w K mg base 3 "_law_mark" ["_law_deck_here", "_law_far"] [] f__law_mark_k28) (h__law_menu : Fn P w K mg base 4 "_law_menu" ["_law_deck_here", "_law_most_here"] [] f__law_menu_k28) (F : FunD K "_law_pair_menu" "_law_pair_menu" (defArgs (top 34)) (defBody (top 34)) (defScope (top 34)) [] [] f fd) : FnG P w K mg base 5 f fd ["_law_deck_here"] (spD K mg 1 f__law_pair_menu) :=
  fn_ok (k := 4) F sc__law_pair_menu fun cdv A outer s H Ex hg hr => by
  have c := cxe_of (P := P) (w := w) (K := K) (mg := mg) (base := base) (N := ["_law_deck_here", "_law_menu_here", "_law_mark_here"]) (outer := outer) (H := H) (E := Ex) (k := 4) sc__law_pair_menu.nd hg hr B
  exact (xss_cons (xs_set c.nd rfl (by first | exact .inl rfl | exact .inr rfl) (xe_fn h__law_menu c (by decide) rfl (xa_cons (xe_var 0) (xa_cons xe_int xa_nil)) (alen_cons (alen_cons alen_nil))))
    (xss_one (xs_ret (xe_if (xt_cmp ox_gt (xe_callB cx_len rfl G.b_len (by decide +kernel) (xa_cons (xe_var 1) xa_nil)) xe_int rfl) (xe_var 1) (xe_bin ox_addA (xe_var 1) (xe_tup (xa_cons (xe_callTy cx_tup rfl G.b_tuple (by decide +kernel) (xa_cons (xe_frz (xl_comp c.calm c.nd (xi_seq (xe_ix (xe_var 1) xe_int fun _ _ => rfl)) (own := [("_law_mark_here", 2)]) (blkOk_by (by kernel_rfl)) (by decide) (fun s1 H1 C1 cl1 fp1 => (gd_name (c.blk s1 H1 _ _ fp1).nd rfl (by first | exact .inl rfl | exact .inr rfl))) (fun s1 H1 C1 cl1 fp1 => xts_nil) (fun s1 H1 C1 cl1 fp1 => (xe_fn h__law_mark (c.blk s1 H1 _ _ fp1) (by decide) rfl (xa_cons (xe_var 0) (xa_cons xe_int xa_nil)) (alen_cons (alen_cons alen_nil)))))) xa_nil)) xa_nil)))))))
theorem sc__law_some_border : FnScope ["_law_deck_here", "_law_answers", "_law_way", "_law_side", "_law_answer"] ["_law_deck_here", "_law_answers"] (defScope (top 35)) := ⟨rfl, rfl, rfl, by decide +kernel, rfl, by decide +kernel, by decide +kernel⟩
theorem ok__law_some_border (G : Gs mg) (E : Xs P w K mg base) (B : SysM base) (h__law_border : Fn P w K mg base 3 "_law_border" ["_law_row"] [] f__law_border) (h__law_draw : Fn P w K mg base 1 "_law_draw" ["_law_deck_here", "_law_many"] [] f__law_draw_k28) (h__law_one : Fn P w K mg base 2 "_law_one" ["_law_deck_here", "_law_items"] [] f__law_one_k28) (F : FunD K "_law_some_border" "_law_some_border" (defArgs (top 35)) (defBody (top 35)) (defScope (top 35)) [] [] f fd) : FnG P w K mg base 4 f fd ["_law_deck_here", "_law_answers"] (spD K mg 2 f__law_some_border) :=
  fn_ok (k := 3) F sc__law_some_border fun cdv A outer s H Ex hg hr => by
  have c := cxe_of (P := P) (w := w) (K := K) (mg := mg) (base := base) (N := ["_law_deck_here", "_law_answers", "_law_way", "_law_side", "_law_answer"]) (outer := outer) (H := H) (E := Ex) (k := 3) sc__law_some_border.nd hg hr B
  exact (xss_cons (xs_set c.nd rfl (by first | exact .inl rfl | exact .inr rfl) (xe_fn h__law_draw c (by decide) rfl (xa_cons (xe_var 0) (xa_cons xe_int xa_nil)) (alen_cons (alen_cons alen_nil))))
    (xss_cons (xs_if (xt_cmp (ox_eqA c.u64) (xe_var 2) xe_int rfl) (xss_one (xs_ret (xe_bin ox_mulA (xe_tup (xa_cons xe_int xa_nil)) (xe_var 1)))) xss_nil)
    (xss_cons (xs_if (xt_cmp (ox_eqA c.u64) (xe_var 2) xe_int rfl) (xss_cons (xs_set c.nd rfl (by first | exact .inl rfl | exact .inr rfl) (xe_fn h__law_one c (by decide) rfl (xa_cons (xe_var 0) (xa_cons (xe_frz (xl_disp (xa_cons xe_int (xa_cons (xe_un ux_neg xe_int) xa_nil)))) xa_nil)) (alen_cons (alen_cons alen_nil))))
    (xss_one (xs_ret (xe_callTy cx_tup rfl G.b_tuple (by decide +kernel) (xa_cons (xe_frz (xl_comp c.calm c.nd (xi_range1 rfl G.b_range (xa_cons (xe_var 1) xa_nil)) (own := [("_law_answer", 4)]) (blkOk_by (by kernel_rfl)) (by decide) (fun s1 H1 C1 cl1 fp1 => (gd_name (c.blk s1 H1 _ _ fp1).nd rfl (by first | exact .inl rfl | exact .inr rfl))) (fun s1 H1 C1 cl1 fp1 => xts_nil) (fun s1 H1 C1 cl1 fp1 => (xe_bin ox_mulA (xe_var 3) (xe_fn h__law_draw (c.blk s1 H1 _ _ fp1) (by decide) rfl (xa_cons (xe_var 0) (xa_cons xe_int xa_nil)) (alen_cons (alen_cons alen_nil))))))) xa_nil))))) xss_nil)
    (xss_one (xs_ret (xe_fn h__law_border c (by decide) rfl (xa_cons (xe_callTy cx_tup rfl G.b_tuple (by decide +kernel) (xa_cons (xe_frz (xl_comp c.calm c.nd (xi_range1 rfl G.b_range (xa_cons (xe_var 1) xa_nil)) (own := [("_law_answer", 4)]) (blkOk_by (by kernel_rfl)) (by decide) (fun s1 H1 C1 cl1 fp1 => (gd_name (c.blk s1 H1 _ _ fp1).nd rfl (by first | exact .inl rfl | exact .inr rfl))) (fun s1 H1 C1 cl1 fp1 => xts_nil) (fun s1 H1 C1 cl1 fp1 => (xe_bin ox_subA (xe_fn h__law_draw (c.blk s1 H1 _ _ fp1) (by decide) rfl (xa_cons (xe_var 0) (xa_cons xe_int xa_nil)) (alen_cons (alen_cons alen_nil))) xe_int)))) xa_nil)) xa_nil) (alen_cons alen_nil)))))))
theorem sc__law_drawn_book : FnScope ["_law_deck_here", "_law_words_here", "_law_answers", "_law_i", "_law_j"] ["_law_deck_here"] (defScope (top 36)) := ⟨rfl, rfl, rfl, by decide +kernel, rfl, by decide +kernel, by decide +kernel⟩
theorem ok__law_drawn_book (G : Gs mg) (E : Xs P w K mg base) (B : SysM base) (h__law_draw : Fn P w K mg base 1 "_law_draw" ["_law_deck_here", "_law_many"] [] f__law_draw_k28) (h__law_seats : Fn P w K mg base 1 "_law_seats" ["_law_words_here"] [] f__law_seats) (h__law_some_border : Fn P w K mg base 4 "_law_some_border" ["_law_deck_here", "_law_answers"] [] f__law_some_border) (F : FunD K "_law_drawn_book" "_law_drawn_book" (defArgs (top 36)) (defBody (top 36)) (defScope (top 36)) [] [] f fd) : FnG P w K mg base 5 f fd ["_law_deck_here"] (spD K mg 1 f__law_drawn_book) :=
  fn_ok (k := 4) F sc__law_drawn_book fun cdv A outer s H Ex hg hr => by
  have c := cxe_of (P := P) (w := w) (K := K) (mg := mg) (base := base) (N := ["_law_deck_here", "_law_words_here", "_law_answers", "_law_i", "_law_j"]) (outer := outer) (H := H) (E := Ex) (k := 4) sc__law_drawn_book.nd hg hr B
  exact (xss_cons (xs_asgT (xe_tup (xa_cons (xe_bin ox_addA xe_int (xe_fn h__law_draw c (by decide) rfl (xa_cons (xe_var 0) (xa_cons xe_int xa_nil)) (alen_cons (alen_cons alen_nil)))) (xa_cons (xe_bin ox_addA xe_int (xe_fn h__law_draw c (by decide) rfl (xa_cons (xe_var 0) (xa_cons xe_int xa_nil)) (alen_cons (alen_cons alen_nil)))) xa_nil))) (gd_tup c.calm (gds_cons (gd_name c.nd rfl (by first | exact .inl rfl | exact .inr rfl)) (gds_cons (gd_name c.nd rfl (by first | exact .inl rfl | exact .inr rfl)) gds_nil))))
    (xss_one (xs_ret (xe_callTy cx_tup rfl G.b_tuple (by decide +kernel) (xa_cons (xe_frz (xl_comp c.calm c.nd (xi_seq (xe_fn h__law_seats c (by decide) rfl (xa_cons (xe_var 1) xa_nil) (alen_cons alen_nil))) (own := [("_law_i", 3), ("_law_j", 4)]) (blkOk_by (by kernel_rfl)) (by decide) (fun s1 H1 C1 cl1 fp1 => (gd_tup (c.blk s1 H1 _ _ fp1).calm (gds_cons (gd_name (c.blk s1 H1 _ _ fp1).nd rfl (by first | exact .inl rfl | exact .inr rfl)) (gds_cons (gd_name (c.blk s1 H1 _ _ fp1).nd rfl (by first | exact .inl rfl | exact .inr rfl)) gds_nil)))) (fun s1 H1 C1 cl1 fp1 => xts_nil) (fun s1 H1 C1 cl1 fp1 => (xe_tup (xa_cons (xe_var 3) (xa_cons (xe_var 4) (xa_cons (xe_fn h__law_some_border (c.blk s1 H1 _ _ fp1) (by decide) rfl (xa_cons (xe_var 0) (xa_cons (xe_var 2) xa_nil)) (alen_cons (alen_cons alen_nil))) xa_nil))))))) xa_nil)))))
theorem sc__law_swapped_book : FnScope ["_law_deck_here", "_law_words_here", "_law_order", "_law_borders", "_law_far", "_law_wide", "_law_turn", "_law_spots", "_law_at", "_law_i", "_law_j"] ["_law_deck_here"] (defScope (top 37)) := ⟨rfl, rfl, rfl, by decide +kernel, rfl, by decide +kernel, by decide +kernel⟩
theorem ok__law_swapped_book (G : Gs mg) (E : Xs P w K mg base) (B : SysM base) (h__law_draw : Fn P w K mg base 1 "_law_draw" ["_law_deck_here", "_law_many"] [] f__law_draw_k28) (h__law_one : Fn P w K mg base 2 "_law_one" ["_law_deck_here", "_law_items"] [] f__law_one_k28) (h__law_primitive : Fn P w K mg base 2 "_law_primitive" ["_law_numbers"] [] f__law_primitive_k28) (h__law_seats : Fn P w K mg base 1 "_law_seats" ["_law_words_here"] [] f__law_seats) (F : FunD K "_law_swapped_book" "_law_swapped_book" (defArgs (top 37)) (defBody (top 37)) (defScope (top 37)) [] [] f fd) : FnG P w K mg base 3 f fd ["_law_deck_here"] (spD K mg 1 f__law_swapped_book_k34) :=
  fn_ok (k := 2) F sc__law_swapped_book fun cdv A outer s H Ex hg hr => by
  have c := cxe_of (P := P) (w := w) (K := K) (mg := mg) (base := base) (N := ["_law_deck_here", "_law_words_here", "_law_order", "_law_borders", "_law_far", "_law_wide", "_law_turn", "_law_spots", "_law_at", "_law_i", "_law_j"]) (outer := outer) (H := H) (E := Ex) (k := 2) sc__law_swapped_book.nd hg hr B
  exact (xss_cons (xs_set c.nd rfl (by first | exact .inl rfl | exact .inr rfl) (xe_bin ox_addA xe_int (xe_fn h__law_draw c (by decide) rfl (xa_cons (xe_var 0) (xa_cons xe_int xa_nil)) (alen_cons (alen_cons alen_nil)))))
    (xss_cons (xs_asgT (xe_tup (xa_cons (xe_cell (xl_listRg1 c.calm rfl G.b_list rfl G.b_range (xe_var 1))) (xa_cons xe_newT (xa_cons (xe_fn h__law_draw c (by decide) rfl (xa_cons (xe_var 0) (xa_cons xe_int xa_nil)) (alen_cons (alen_cons alen_nil))) xa_nil)))) (gd_tup c.calm (gds_cons (gd_name c.nd rfl (by first | exact .inl rfl | exact .inr rfl)) (gds_cons (gd_name c.nd rfl (by first | exact .inl rfl | exact .inr rfl)) (gds_cons (gd_name c.nd rfl (by first | exact .inl rfl | exact .inr rfl)) gds_nil)))))
    (xss_cons (xs_set c.nd rfl (by first | exact .inl rfl | exact .inr rfl) (xe_bin ox_addA xe_int (xe_fn h__law_draw c (by decide) rfl (xa_cons (xe_var 0) (xa_cons xe_int xa_nil)) (alen_cons (alen_cons alen_nil)))))
    (xss_cons (xs_for own_of c.calm (xi_range1 rfl G.b_range (xa_cons (xe_bin ox_div (xe_bin ox_mulA (xe_var 1) (xe_bin ox_subA (xe_var 1) xe_int)) xe_int) xa_nil)) (gd_name c.nd rfl (by first | exact .inl rfl | exact .inr rfl))
   (xss_cons (xs_setLF c.calm c.nd rfl rfl rfl (xi_range1 rfl G.b_range (xa_cons (xe_bin ox_subA (xe_var 1) xe_int) xa_nil)) (own := [("_law_at", 8)]) (blkOk_by (by kernel_rfl)) (by decide) (fun s1 H1 C1 cl1 fp1 => (gd_name (c.blk s1 H1 _ _ fp1).nd rfl (by first | exact .inl rfl | exact .inr rfl))) (fun s1 H1 C1 cl1 fp1 => (xts_one (xt_cmp ox_lt (xe_ix (xe_var 2) (xe_var 8) fun _ _ => rfl) (xe_ix (xe_var 2) (xe_bin ox_addA (xe_var 8) xe_int) fun _ _ => rfl) rfl))) (fun s1 H1 C1 cl1 fp1 => (xe_var 8)))
    (xss_cons (xs_par c.calm c.nd rfl rfl (by decide) rfl rfl (xa_cons (xe_fn h__law_one c (by decide) rfl (xa_cons (xe_var 0) (xa_cons (xe_var 7) xa_nil)) (alen_cons (alen_cons alen_nil))) (xa_cons (xe_bin ox_addA (xe_bin ox_addA (xe_var 4) xe_int) (xe_fn h__law_draw c (by decide) rfl (xa_cons (xe_var 0) (xa_cons xe_int xa_nil)) (alen_cons (alen_cons alen_nil)))) xa_nil)) rfl)
    (xss_cons (xs_tput c.u1 (xe_var 3) (xe_tup (xa_cons (xe_ix (xe_var 2) (xe_var 8) fun _ _ => rfl) (xa_cons (xe_ix (xe_var 2) (xe_bin ox_addA (xe_var 8) xe_int) fun _ _ => rfl) xa_nil))) (xe_fn h__law_primitive c (by decide) rfl (xa_cons (xe_tup (xa_cons (xe_var 4) (xa_cons (xe_bin ox_subA xe_int (xe_var 5)) xa_nil))) xa_nil) (alen_cons alen_nil)))
    (xss_one (xs_set2 c.calm (xe_var 2) (xe_var 8) (xe_var 2) (xe_bin ox_addA (xe_var 8) xe_int) (xe_tup (xa_cons (xe_ix (xe_var 2) (xe_bin ox_addA (xe_var 8) xe_int) fun _ _ => rfl) (xa_cons (xe_ix (xe_var 2) (xe_var 8) fun _ _ => rfl) xa_nil))) (by intro _; rfl) (by intro _; rfl)))))))
    (xss_one (xs_ret (xe_callTy cx_tup rfl G.b_tuple (by decide +kernel) (xa_cons (xe_frz (xl_comp c.calm c.nd (xi_seq (xe_fn h__law_seats c (by decide) rfl (xa_cons (xe_var 1) xa_nil) (alen_cons alen_nil))) (own := [("_law_i", 9), ("_law_j", 10)]) (blkOk_by (by kernel_rfl)) (by decide) (fun s1 H1 C1 cl1 fp1 => (gd_tup (c.blk s1 H1 _ _ fp1).calm (gds_cons (gd_name (c.blk s1 H1 _ _ fp1).nd rfl (by first | exact .inl rfl | exact .inr rfl)) (gds_cons (gd_name (c.blk s1 H1 _ _ fp1).nd rfl (by first | exact .inl rfl | exact .inr rfl)) gds_nil)))) (fun s1 H1 C1 cl1 fp1 => xts_nil) (fun s1 H1 C1 cl1 fp1 => (xe_tup (xa_cons (xe_var 9) (xa_cons (xe_var 10) (xa_cons (xe_tget (c.blk s1 H1 _ _ fp1).u1 (xe_var 3) (xe_tup (xa_cons (xe_var 9) (xa_cons (xe_var 10) xa_nil))) fun _ _ => rfl) xa_nil))))))) xa_nil))))))))
theorem sc__law_some_book : FnScope ["_law_deck_here", "_law_way", "_law_book_here", "_law_at"] ["_law_deck_here"] (defScope (top 38)) := ⟨rfl, rfl, rfl, by decide +kernel, rfl, by decide +kernel, by decide +kernel⟩
theorem ok__law_some_book (G : Gs mg) (E : Xs P w K mg base) (B : SysM base) (h__law_book : Fn P w K mg base 4 "_law_book" ["_law_rows"] [] f__law_book) (h__law_draw : Fn P w K mg base 1 "_law_draw" ["_law_deck_here", "_law_many"] [] f__law_draw_k28) (h__law_drawn_book : Fn P w K mg base 5 "_law_drawn_book" ["_law_deck_here"] [] f__law_drawn_book) (h__law_pair_menu : Fn P w K mg base 5 "_law_pair_menu" ["_law_deck_here"] [] f__law_pair_menu) (h__law_some_border : Fn P w K mg base 4 "_law_some_border" ["_law_deck_here", "_law_answers"] [] f__law_some_border) (h__law_swapped_book : Fn P w K mg base 3 "_law_swapped_book" ["_law_deck_here"] [] f__law_swapped_book_k34) (F : FunD K "_law_some_book" "_law_some_book" (defArgs (top 38)) (defBody (top 38)) (defScope (top 38)) [] [] f fd) : FnG P w K mg base 6 f fd ["_law_deck_here"] (spD K mg 1 f__law_some_book_k34) :=
  fn_ok (k := 5) F sc__law_some_book fun cdv A outer s H Ex hg hr => by
  have c := cxe_of (P := P) (w := w) (K := K) (mg := mg) (base := base) (N := ["_law_deck_here", "_law_way", "_law_book_here", "_law_at"]) (outer := outer) (H := H) (E := Ex) (k := 5) sc__law_some_book.nd hg hr B
  exact (xss_cons (xs_set c.nd rfl (by first | exact .inl rfl | exact .inr rfl) (xe_fn h__law_draw c (by decide) rfl (xa_cons (xe_var 0) (xa_cons xe_int xa_nil)) (alen_cons (alen_cons alen_nil))))
    (xss_cons (xs_if (xt_cmp ox_lt (xe_var 1) xe_int rfl) (xss_one (xs_ret (xe_fn h__law_book c (by decide) rfl (xa_cons (xe_fn h__law_pair_menu c (by decide) rfl (xa_cons (xe_var 0) xa_nil) (alen_cons alen_nil)) xa_nil) (alen_cons alen_nil)))) xss_nil)
    (xss_cons (xs_if (xt_cmp (ox_eqA c.u64) (xe_var 1) xe_int rfl) (xss_one (xs_ret (xe_fn h__law_drawn_book c (by decide) rfl (xa_cons (xe_var 0) xa_nil) (alen_cons alen_nil)))) xss_nil)
    (xss_cons (xs_if (xt_cmp (ox_eqA c.u64) (xe_var 1) xe_int rfl) (xss_one (xs_ret (xe_fn h__law_swapped_book c (by decide) rfl (xa_cons (xe_var 0) xa_nil) (alen_cons alen_nil)))) xss_nil)
    (xss_cons (xs_set c.nd rfl (by first | exact .inl rfl | exact .inr rfl) (xe_fn h__law_book c (by decide) rfl (xa_cons (xe_fn h__law_pair_menu c (by decide) rfl (xa_cons (xe_var 0) xa_nil) (alen_cons alen_nil)) xa_nil) (alen_cons alen_nil)))
    (xss_cons (xs_set c.nd rfl (by first | exact .inl rfl | exact .inr rfl) (xe_fn h__law_draw c (by decide) rfl (xa_cons (xe_var 0) (xa_cons (xe_callB cx_len rfl G.b_len (by decide +kernel) (xa_cons (xe_var 2) xa_nil)) xa_nil)) (alen_cons (alen_cons alen_nil))))
    (xss_one (xs_ret (xe_bin ox_addA (xe_bin ox_addA (xe_sl (xe_var 2) xo_none (xo_some (xe_var 3))) (xe_tup (xa_cons (xe_bin ox_addA (xe_sl (xe_ix (xe_var 2) (xe_var 3) fun _ _ => rfl) xo_none (xo_some xe_int)) (xe_tup (xa_cons (xe_fn h__law_some_border c (by decide) rfl (xa_cons (xe_var 0) (xa_cons (xe_callB cx_len rfl G.b_len (by decide +kernel) (xa_cons (xe_ix (xe_ix (xe_var 2) xe_int fun _ _ => rfl) xe_int fun _ _ => rfl) xa_nil)) xa_nil)) (alen_cons (alen_cons alen_nil))) xa_nil))) xa_nil))) (xe_sl (xe_var 2) (xo_some (xe_bin ox_addA (xe_var 3) xe_int)) xo_none))))))))))
theorem sc__law_whole : FnScope ["_law_value"] ["_law_value"] (defScope (top 39)) := ⟨rfl, rfl, rfl, by decide +kernel, rfl, by decide +kernel, by decide +kernel⟩
theorem ok__law_whole (G : Gs mg) (E : Xs P w K mg base) (B : SysM base) (F : FunD K "_law_whole" "_law_whole" (defArgs (top 39)) (defBody (top 39)) (defScope (top 39)) [] [] f fd) : FnG P w K mg base 1 f fd ["_law_value"] (spD K mg 1 f__law_whole_k34) :=
  fn_ok (k := 0) F sc__law_whole fun cdv A outer s H Ex hg hr => by
  have c := cxe_of (P := P) (w := w) (K := K) (mg := mg) (base := base) (N := ["_law_value"]) (outer := outer) (H := H) (E := Ex) (k := 0) sc__law_whole.nd hg hr B
  exact (xss_one (xs_ret (xe_and (xe_isi (xe_var 0) rfl G.b_isinstance rfl G.b_int (by decide +kernel)) (xe_one (xe_not (xe_isi (xe_var 0) rfl G.b_isinstance rfl G.b_bool (by decide +kernel)))))))
theorem sc__law_is_border : FnScope ["_law_value", "_law_item"] ["_law_value"] (defScope (top 40)) := ⟨rfl, rfl, rfl, by decide +kernel, rfl, by decide +kernel, by decide +kernel⟩
theorem ok__law_is_border (G : Gs mg) (E : Xs P w K mg base) (B : SysM base) (h__law_border : Fn P w K mg base 3 "_law_border" ["_law_row"] [] f__law_border) (h__law_whole : Fn P w K mg base 1 "_law_whole" ["_law_value"] [] f__law_whole_k34) (F : FunD K "_law_is_border" "_law_is_border" (defArgs (top 40)) (defBody (top 40)) (defScope (top 40)) [] [] f fd) : FnG P w K mg base 4 f fd ["_law_value"] (spD K mg 1 f__law_is_border_k34) :=
  fn_ok (k := 3) F sc__law_is_border fun cdv A outer s H Ex hg hr => by
  have c := cxe_of (P := P) (w := w) (K := K) (mg := mg) (base := base) (N := ["_law_value", "_law_item"]) (outer := outer) (H := H) (E := Ex) (k := 3) sc__law_is_border.nd hg hr B
  exact (xss_cons (xs_if (xt_w (xw_or (xt_not (xt_val (xe_isi (xe_var 0) rfl G.b_isinstance rfl G.b_tuple (by decide +kernel)))) (xw_or1 (xt_not (xt_chain ox_le ox_le xe_int (xe_callB cx_len rfl G.b_len (by decide +kernel) (xa_cons (xe_var 0) xa_nil)) xe_int))))) (xss_one (xs_ret xe_bl)) xss_nil)
    (xss_cons (xs_if (xt_cmp (ox_neZ c.u64) (xe_frz (xl_comp c.calm c.nd (xi_seq (xe_var 0)) (own := [("_law_item", 1)]) (blkOk_by (by kernel_rfl)) (by decide) (fun s1 H1 C1 cl1 fp1 => (gd_name (c.blk s1 H1 _ _ fp1).nd rfl (by first | exact .inl rfl | exact .inr rfl))) (fun s1 H1 C1 cl1 fp1 => (xts_one (xt_not (xt_val (xe_fn h__law_whole (c.blk s1 H1 _ _ fp1) (by decide) rfl (xa_cons (xe_var 1) xa_nil) (alen_cons alen_nil)))))) (fun s1 H1 C1 cl1 fp1 => (xe_var 1)))) (xe_frz (xl_disp xa_nil)) rfl) (xss_one (xs_ret xe_bl)) xss_nil)
    (xss_one (xs_ret (xe_cmp (ox_eqA c.u64) (xe_fn h__law_border c (by decide) rfl (xa_cons (xe_var 0) xa_nil) (alen_cons alen_nil)) (xe_var 0) rfl)))))
theorem sc__law_error : FnScope ["_law_value", "_law_index", "_law_seat", "_law_triple", "_law_word"] ["_law_value"] (defScope (top 41)) := ⟨rfl, rfl, rfl, by decide +kernel, rfl, by decide +kernel, by decide +kernel⟩
theorem ok__law_error (G : Gs mg) (E : Xs P w K mg base) (B : SysM base) (h__law_is_border : Fn P w K mg base 4 "_law_is_border" ["_law_value"] [] f__law_is_border_k34) (h__law_seats : Fn P w K mg base 1 "_law_seats" ["_law_words_here"] [] f__law_seats) (h__law_whole : Fn P w K mg base 1 "_law_whole" ["_law_value"] [] f__law_whole_k34) (h__law_words : Fn P w K mg base 1 "_law_words" ["_law_book_here"] [] f__law_words) (F : FunD K "_law_error" "_law_error" (defArgs (top 41)) (defBody (top 41)) (defScope (top 41)) [] [] f fd) : FnG P w K mg base 5 f fd ["_law_value"] (spD K mg 1 f__law_error_k34) :=
  fn_ok (k := 4) F sc__law_error fun cdv A outer s H Ex hg hr => by
  have c := cxe_of (P := P) (w := w) (K := K) (mg := mg) (base := base) (N := ["_law_value", "_law_index", "_law_seat", "_law_triple", "_law_word"]) (outer := outer) (H := H) (E := Ex) (k := 4) sc__law_error.nd hg hr B
  exact (xss_cons (xs_if (xt_w (xw_or (xt_not (xt_val (xe_isi (xe_var 0) rfl G.b_isinstance rfl G.b_tuple (by decide +kernel)))) (xw_or1 (xt_cmp (ox_nin c.u65) (xe_callB cx_len rfl G.b_len (by decide +kernel) (xa_cons (xe_var 0) xa_nil)) (xe_frz (xl_disp (xa_cons xe_int (xa_cons xe_int (xa_cons xe_int (xa_cons xe_int (xa_cons xe_int xa_nil))))))) rfl)))) (xss_one (xs_ret (xe_tup (xa_cons xe_non (xa_cons xe_str xa_nil))))) xss_nil)
    (xss_cons (xs_for own_of c.calm (xi_enum rfl G.b_enumerate (xa_cons (xe_fn h__law_seats c (by decide) rfl (xa_cons (xe_fn h__law_words c (by decide) rfl (xa_cons (xe_var 0) xa_nil) (alen_cons alen_nil)) xa_nil) (alen_cons alen_nil)) xa_nil)) (gd_tup c.calm (gds_cons (gd_name c.nd rfl (by first | exact .inl rfl | exact .inr rfl)) (gds_cons (gd_name c.nd rfl (by first | exact .inl rfl | exact .inr rfl)) gds_nil)))
   (xss_cons (xs_set c.nd rfl (by first | exact .inl rfl | exact .inr rfl) (xe_ix (xe_var 0) (xe_var 1) fun _ _ => rfl))
    (xss_cons (xs_if (xt_w (xw_or (xt_not (xt_val (xe_isi (xe_var 3) rfl G.b_isinstance rfl G.b_tuple (by decide +kernel)))) (xw_or1 (xt_cmp (ox_neA c.u64) (xe_callB cx_len rfl G.b_len (by decide +kernel) (xa_cons (xe_var 3) xa_nil)) xe_int rfl)))) (xss_one (xs_ret (xe_tup (xa_cons (xe_var 1) (xa_cons xe_str xa_nil))))) xss_nil)
    (xss_cons (xs_if (xt_w (xw_or (xt_cmp (ox_neZ c.u64) (xe_frz (xl_comp c.calm c.nd (xi_seq (xe_sl (xe_var 3) xo_none (xo_some xe_int))) (own := [("_law_word", 4)]) (blkOk_by (by kernel_rfl)) (by decide) (fun s1 H1 C1 cl1 fp1 => (gd_name (c.blk s1 H1 _ _ fp1).nd rfl (by first | exact .inl rfl | exact .inr rfl))) (fun s1 H1 C1 cl1 fp1 => (xts_one (xt_not (xt_val (xe_fn h__law_whole (c.blk s1 H1 _ _ fp1) (by decide) rfl (xa_cons (xe_var 4) xa_nil) (alen_cons alen_nil)))))) (fun s1 H1 C1 cl1 fp1 => (xe_var 4)))) (xe_frz (xl_disp xa_nil)) rfl) (xw_or1 (xt_cmp (ox_neA c.u64) (xe_sl (xe_var 3) xo_none (xo_some xe_int)) (xe_var 2) rfl)))) (xss_one (xs_ret (xe_tup (xa_cons (xe_var 1) (xa_cons xe_str xa_nil))))) xss_nil)
    (xss_cons (xs_if (xt_not (xt_val (xe_fn h__law_is_border c (by decide) rfl (xa_cons (xe_ix (xe_var 3) xe_int fun _ _ => rfl) xa_nil) (alen_cons alen_nil)))) (xss_one (xs_ret (xe_tup (xa_cons (xe_var 1) (xa_cons xe_str xa_nil))))) xss_nil)
    (xss_one (xs_if (xt_cmp (ox_neA c.u64) (xe_callB cx_len rfl G.b_len (by decide +kernel) (xa_cons (xe_ix (xe_var 3) xe_int fun _ _ => rfl) xa_nil)) (xe_callB cx_len rfl G.b_len (by decide +kernel) (xa_cons (xe_ix (xe_ix (xe_var 0) xe_int fun _ _ => rfl) xe_int fun _ _ => rfl) xa_nil)) rfl) (xss_one (xs_ret (xe_tup (xa_cons (xe_var 1) (xa_cons xe_str xa_nil))))) xss_nil)))))))
    (xss_one (xs_ret xe_non))))
theorem sc__law_odd : FnScope ["_law_deck_here", "_law_some"] ["_law_deck_here"] (defScope (top 42)) := ⟨rfl, rfl, rfl, by decide +kernel, rfl, by decide +kernel, by decide +kernel⟩
theorem ok__law_odd (G : Gs mg) (E : Xs P w K mg base) (B : SysM base) (h__law_one : Fn P w K mg base 2 "_law_one" ["_law_deck_here", "_law_items"] [] f__law_one_k28) (F : FunD K "_law_odd" "_law_odd" (defArgs (top 42)) (defBody (top 42)) (defScope (top 42)) [] [] f fd) : FnG P w K mg base 3 f fd ["_law_deck_here"] (spD K mg 1 f__law_odd_k34) :=
  fn_ok (k := 2) F sc__law_odd fun cdv A outer s H Ex hg hr => by
  have c := cxe_of (P := P) (w := w) (K := K) (mg := mg) (base := base) (N := ["_law_deck_here", "_law_some"]) (outer := outer) (H := H) (E := Ex) (k := 2) sc__law_odd.nd hg hr B
  exact (xss_cons (xs_set c.nd rfl (by first | exact .inl rfl | exact .inr rfl) (xe_frz (xl_disp (xa_cons xe_non (xa_cons xe_bl (xa_cons xe_bl (xa_cons xe_int (xa_cons xe_int (xa_cons (xe_un ux_neg xe_int) (xa_cons xe_int (xa_cons xe_str (xa_cons xe_str (xa_cons (xe_tup xa_nil) (xa_cons (xe_frz (xl_disp xa_nil)) (xa_cons xe_dct0 (xa_cons (xe_tup (xa_cons xe_int xa_nil)) (xa_cons (xe_tup (xa_cons xe_int (xa_cons xe_int xa_nil))) (xa_cons (xe_tup (xa_cons xe_int (xa_cons (xe_un ux_neg xe_int) xa_nil))) (xa_cons (xe_tup (xa_cons xe_int (xa_cons xe_int xa_nil))) (xa_cons (xe_tup (xa_cons xe_int (xa_cons (xe_un ux_neg xe_int) xa_nil))) (xa_cons (xe_tup (xa_cons xe_int (xa_cons xe_int xa_nil))) xa_nil)))))))))))))))))))))
    (xss_cons (xs_set c.nd rfl (by first | exact .inl rfl | exact .inr rfl) (xe_bin ox_addA (xe_var 1) (xe_frz (xl_disp (xa_cons (xe_tup (xa_cons xe_int (xa_cons xe_int (xa_cons xe_int xa_nil)))) (xa_cons (xe_tup (xa_cons xe_int (xa_cons xe_int (xa_cons (xe_un ux_neg xe_int) xa_nil)))) (xa_cons (xe_tup (xa_cons xe_bl (xa_cons (xe_un ux_neg xe_int) xa_nil))) (xa_cons (xe_tup (xa_cons xe_int (xa_cons xe_bl xa_nil))) (xa_cons (xe_tup (xa_cons (xe_un ux_neg xe_int) (xa_cons (xe_un ux_neg xe_int) xa_nil))) (xa_cons (xe_tup (xa_cons (xe_un ux_neg xe_int) (xa_cons (xe_un ux_neg xe_int) xa_nil))) (xa_cons (xe_tup (xa_cons xe_int (xa_cons (xe_un ux_neg xe_int) xa_nil))) (xa_cons (xe_frz (xl_disp (xa_cons xe_int (xa_cons (xe_un ux_neg xe_int) xa_nil)))) (xa_cons (xe_tup (xa_cons xe_int (xa_cons xe_int xa_nil))) xa_nil)))))))))))))
    (xss_cons (xs_set c.nd rfl (by first | exact .inl rfl | exact .inr rfl) (xe_bin ox_addA (xe_var 1) (xe_frz (xl_disp (xa_cons (xe_tup (xa_cons xe_int (xa_cons xe_int (xa_cons xe_int (xa_cons xe_int (xa_cons xe_int xa_nil)))))) (xa_cons (xe_tup (xa_cons xe_int xa_nil)) (xa_cons (xe_tup (xa_cons xe_int (xa_cons (xe_un ux_neg xe_int) xa_nil))) (xa_cons (xe_tup (xa_cons xe_str (xa_cons (xe_un ux_neg xe_int) xa_nil))) (xa_cons (xe_tup (xa_cons xe_int (xa_cons xe_non xa_nil))) (xa_cons (xe_tup (xa_cons xe_int (xa_cons xe_int (xa_cons (xe_tup (xa_cons xe_int (xa_cons (xe_un ux_neg xe_int) xa_nil))) xa_nil)))) (xa_cons (xe_tup (xa_cons xe_int (xa_cons (xe_un ux_neg xe_int) (xa_cons xe_int (xa_cons xe_int xa_nil))))) xa_nil)))))))))))
    (xss_one (xs_ret (xe_fn h__law_one c (by decide) rfl (xa_cons (xe_var 0) (xa_cons (xe_bin ox_addA (xe_var 1) (xe_frz (xl_disp (xa_cons (xe_tup (xa_cons (xe_bin ox_pow xe_int xe_int) (xa_cons (xe_un ux_neg xe_int) xa_nil))) (xa_cons (xe_tup (xa_cons xe_int (xa_cons (xe_un ux_neg (xe_bin ox_pow xe_int xe_int)) (xa_cons xe_int xa_nil)))) xa_nil))))) xa_nil)) (alen_cons (alen_cons alen_nil))))))))
theorem sc__law_bent : FnScope ["_law_deck_here", "_law_value", "_law_deep", "_law_at", "_law_way"] ["_law_deck_here", "_law_value", "_law_deep"] (defScope (top 43)) := ⟨rfl, rfl, rfl, by decide +kernel, rfl, by decide +kernel, by decide +kernel⟩
theorem ok__law_bent (G : Gs mg) (E : Xs P w K mg base) (B : SysM base) (h__law_draw : Fn P w K mg base 1 "_law_draw" ["_law_deck_here", "_law_many"] [] f__law_draw_k28) (h__law_odd : Fn P w K mg base 3 "_law_odd" ["_law_deck_here"] [] f__law_odd_k34) {rec : FSem} {j k : Nat} (hk : 3 ≤ k) (hj : j ≤ k) (h__law_bent : Fn P w K mg base j "_law_bent" ["_law_deck_here", "_law_value", "_law_deep"] [] rec) (F : FunD K "_law_bent" "_law_bent" (defArgs (top 43)) (defBody (top 43)) (defScope (top 43)) [] [] f fd) : FnG P w K mg base (k + 1) f fd ["_law_deck_here", "_law_value", "_law_deep"] (spD K mg 3 (fnD 5 (g__law_bent_k34 rec))) :=
  fn_ok (k := k) F sc__law_bent fun cdv A outer s H Ex hg hr => by
  have c := cxe_of (P := P) (w := w) (K := K) (mg := mg) (base := base) (N := ["_law_deck_here", "_law_value", "_law_deep", "_law_at", "_law_way"]) (outer := outer) (H := H) (E := Ex) (k := k) sc__law_bent.nd hg hr B
  exact (xss_cons (xs_if (xt_w (xw_or (xt_cmp (ox_eqA c.u64) (xe_var 2) xe_int rfl) (xw_or (xt_not (xt_val (xe_isi (xe_var 1) rfl G.b_isinstance rfl G.b_tuple (by decide +kernel)))) (xw_or (xt_cmp (ox_eqA c.u64) (xe_var 1) (xe_tup xa_nil) rfl) (xw_or1 (xt_cmp (ox_eqA c.u64) (xe_fn h__law_draw c (Nat.le_trans (by decide) hk) rfl (xa_cons (xe_var 0) (xa_cons xe_int xa_nil)) (alen_cons (alen_cons alen_nil))) xe_int rfl)))))) (xss_one (xs_ret (xe_fn h__law_odd c (Nat.le_trans (by decide) hk) rfl (xa_cons (xe_var 0) xa_nil) (alen_cons alen_nil)))) xss_nil)
    (xss_cons (xs_par c.calm c.nd rfl rfl (by decide) rfl rfl (xa_cons (xe_fn h__law_draw c (Nat.le_trans (by decide) hk) rfl (xa_cons (xe_var 0) (xa_cons (xe_callB cx_len rfl G.b_len (by decide +kernel) (xa_cons (xe_var 1) xa_nil)) xa_nil)) (alen_cons (alen_cons alen_nil))) (xa_cons (xe_fn h__law_draw c (Nat.le_trans (by decide) hk) rfl (xa_cons (xe_var 0) (xa_cons xe_int xa_nil)) (alen_cons (alen_cons alen_nil))) xa_nil)) rfl)
    (xss_cons (xs_if (xt_cmp (ox_eqA c.u64) (xe_var 4) xe_int rfl) (xss_one (xs_ret (xe_bin ox_addA (xe_sl (xe_var 1) xo_none (xo_some (xe_var 3))) (xe_sl (xe_var 1) (xo_some (xe_bin ox_addA (xe_var 3) xe_int)) xo_none)))) xss_nil)
    (xss_cons (xs_if (xt_cmp (ox_eqA c.u64) (xe_var 4) xe_int rfl) (xss_one (xs_ret (xe_bin ox_addA (xe_bin ox_addA (xe_sl (xe_var 1) xo_none (xo_some (xe_var 3))) (xe_sl (xe_var 1) (xo_some (xe_var 3)) (xo_some (xe_bin ox_addA (xe_var 3) xe_int)))) (xe_sl (xe_var 1) (xo_some (xe_var 3)) xo_none)))) xss_nil)
    (xss_cons (xs_if (xt_cmp (ox_eqA c.u64) (xe_var 4) xe_int rfl) (xss_one (xs_ret (xe_frz (xl_callTy cxl_list rfl G.b_list (by decide +kernel) (xa_cons (xe_var 1) xa_nil))))) xss_nil)
    (xss_cons (xs_if (xt_cmp (ox_eqA c.u64) (xe_var 4) xe_int rfl) (xss_one (xs_ret (xe_rev (xe_var 1)))) xss_nil)
    (xss_one (xs_ret (xe_bin ox_addA (xe_bin ox_addA (xe_sl (xe_var 1) xo_none (xo_some (xe_var 3))) (xe_tup (xa_cons (xe_fn h__law_bent c hj rfl (xa_cons (xe_var 0) (xa_cons (xe_ix (xe_var 1) (xe_var 3) fun _ _ => rfl) (xa_cons (xe_bin ox_subA (xe_var 2) xe_int) xa_nil))) (alen_cons (alen_cons (alen_cons alen_nil)))) xa_nil))) (xe_sl (xe_var 1) (xo_some (xe_bin ox_addA (xe_var 3) xe_int)) xo_none))))))))))
theorem sc_law : FnScope ["_law_script", "_law_deck_here", "_law_turn", "_law_book_here", "_law_bent_here", "_law_values", "_law_value", "_law_due", "_law_i", "_law_j", "_law_edge", "_law_k"] ["_law_script"] (defScope (top 44)) := ⟨rfl, rfl, rfl, by decide +kernel, rfl, by decide +kernel, by decide +kernel⟩
theorem ok_law (G : Gs mg) (E : Xs P w K mg base) (B : SysM base) (h__law_bent : Fn P w K mg base 7 "_law_bent" ["_law_deck_here", "_law_value", "_law_deep"] [] (f__law_bent_k34 4)) (h__law_deck : Fn P w K mg base 1 "_law_deck" ["_law_script"] [] f__law_deck_k28) (h__law_error : Fn P w K mg base 5 "_law_error" ["_law_value"] [] f__law_error_k34) (h__law_odd : Fn P w K mg base 3 "_law_odd" ["_law_deck_here"] [] f__law_odd_k34) (h__law_some_book : Fn P w K mg base 6 "_law_some_book" ["_law_deck_here"] [] f__law_some_book_k34) (h_book_error : Fn P w K mg base 5 "book_error" ["value"] [] f_book_error) (h_is_book : Fn P w K mg base 6 "is_book" ["value"] [] f_is_book) (F : FunD K "law" "law" (defArgs (top 44)) (defBody (top 44)) (defScope (top 44)) [] [] f fd) : FnG P w K mg base 8 f fd ["_law_script"] (spD K mg 1 f_law_k34) :=
  fn_ok (k := 7) F sc_law fun cdv A outer s H Ex hg hr => by
  have c := cxe_of (P := P) (w := w) (K := K) (mg := mg) (base := base) (N := ["_law_script", "_law_deck_here", "_law_turn", "_law_book_here", "_law_bent_here", "_law_values", "_law_value", "_law_due", "_law_i", "_law_j", "_law_edge", "_law_k"]) (outer := outer) (H := H) (E := Ex) (k := 7) sc_law.nd hg hr B
  exact (xss_cons (xs_set c.nd rfl (by first | exact .inl rfl | exact .inr rfl) (xe_fn h__law_deck c (by decide) rfl (xa_cons (xe_var 0) xa_nil) (alen_cons alen_nil)))
    (xss_cons (xs_for own_of c.calm (xi_range1 rfl G.b_range (xa_cons xe_int xa_nil)) (gd_name c.nd rfl (by first | exact .inl rfl | exact .inr rfl))
   (xss_cons (xs_set c.nd rfl (by first | exact .inl rfl | exact .inr rfl) (xe_fn h__law_some_book c (by decide) rfl (xa_cons (xe_var 1) xa_nil) (alen_cons alen_nil)))
    (xss_cons (xs_set c.nd rfl (by first | exact .inl rfl | exact .inr rfl) (xe_fn h__law_bent c (by decide) rfl (xa_cons (xe_var 1) (xa_cons (xe_var 3) (xa_cons xe_int xa_nil))) (alen_cons (alen_cons (alen_cons alen_nil)))))
    (xss_cons (xs_set c.nd rfl (by first | exact .inl rfl | exact .inr rfl) (xe_cell (xl_disp (xa_cons (xe_var 3) (xa_cons (xe_var 4) (xa_cons (xe_fn h__law_bent c (by decide) rfl (xa_cons (xe_var 1) (xa_cons (xe_var 4) (xa_cons xe_int xa_nil))) (alen_cons (alen_cons (alen_cons alen_nil)))) (xa_cons (xe_fn h__law_odd c (by decide) rfl (xa_cons (xe_var 1) xa_nil) (alen_cons alen_nil)) (xa_cons (xe_frz (xl_callTy cxl_list rfl G.b_list (by decide +kernel) (xa_cons (xe_var 3) xa_nil))) (xa_cons (xe_sl (xe_var 3) xo_none (xo_some (xe_un ux_neg xe_int))) (xa_cons (xe_bin ox_addA (xe_var 3) (xe_sl (xe_var 3) xo_none (xo_some xe_int))) xa_nil))))))))))
    (xss_cons (xs_expr (xe_app (xe_var 5) (xe_sl (xe_var 3) (xo_some xe_int) xo_none)))
    (xss_cons (xs_expr (xe_app (xe_var 5) (xe_callTy cx_tup rfl G.b_tuple (by decide +kernel) (xa_cons (xe_frz (xl_comp c.calm c.nd (xi_seq (xe_var 3)) (own := [("_law_i", 8), ("_law_j", 9), ("_law_edge", 10)]) (blkOk_by (by kernel_rfl)) (by decide) (fun s1 H1 C1 cl1 fp1 => (gd_tup (c.blk s1 H1 _ _ fp1).calm (gds_cons (gd_name (c.blk s1 H1 _ _ fp1).nd rfl (by first | exact .inl rfl | exact .inr rfl)) (gds_cons (gd_name (c.blk s1 H1 _ _ fp1).nd rfl (by first | exact .inl rfl | exact .inr rfl)) (gds_cons (gd_name (c.blk s1 H1 _ _ fp1).nd rfl (by first | exact .inl rfl | exact .inr rfl)) gds_nil))))) (fun s1 H1 C1 cl1 fp1 => xts_nil) (fun s1 H1 C1 cl1 fp1 => (xe_tup (xa_cons (xe_var 9) (xa_cons (xe_var 8) (xa_cons (xe_var 10) xa_nil))))))) xa_nil))))
    (xss_cons (xs_expr (xe_app (xe_var 5) (xe_bin ox_addA (xe_sl (xe_var 3) xo_none (xo_some xe_int)) (xe_callTy cx_tup rfl G.b_tuple (by decide +kernel) (xa_cons (xe_frz (xl_comp c.calm c.nd (xi_seq (xe_sl (xe_var 3) (xo_some xe_int) xo_none)) (own := [("_law_i", 8), ("_law_j", 9), ("_law_edge", 10)]) (blkOk_by (by kernel_rfl)) (by decide) (fun s1 H1 C1 cl1 fp1 => (gd_tup (c.blk s1 H1 _ _ fp1).calm (gds_cons (gd_name (c.blk s1 H1 _ _ fp1).nd rfl (by first | exact .inl rfl | exact .inr rfl)) (gds_cons (gd_name (c.blk s1 H1 _ _ fp1).nd rfl (by first | exact .inl rfl | exact .inr rfl)) (gds_cons (gd_name (c.blk s1 H1 _ _ fp1).nd rfl (by first | exact .inl rfl | exact .inr rfl)) gds_nil))))) (fun s1 H1 C1 cl1 fp1 => xts_nil) (fun s1 H1 C1 cl1 fp1 => (xe_tup (xa_cons (xe_var 8) (xa_cons (xe_var 9) (xa_cons (xe_bin ox_addA (xe_var 10) (xe_tup (xa_cons xe_int xa_nil))) xa_nil))))))) xa_nil)))))
    (xss_one (xs_for own_of c.calm (xi_seq (xe_bin ox_addA (xe_var 5) (xe_frz (xl_comp c.calm c.nd (xi_range1 rfl G.b_range (xa_cons xe_int xa_nil)) (own := [("_law_k", 11)]) (blkOk_by (by kernel_rfl)) (by decide) (fun s1 H1 C1 cl1 fp1 => (gd_name (c.blk s1 H1 _ _ fp1).nd rfl (by first | exact .inl rfl | exact .inr rfl))) (fun s1 H1 C1 cl1 fp1 => xts_nil) (fun s1 H1 C1 cl1 fp1 => (xe_fn h__law_bent (c.blk s1 H1 _ _ fp1) (by decide) rfl (xa_cons (xe_var 1) (xa_cons (xe_var 3) (xa_cons xe_int xa_nil))) (alen_cons (alen_cons (alen_cons alen_nil))))))))) (gd_name c.nd rfl (by first | exact .inl rfl | exact .inr rfl))
   (xss_cons (xs_set c.nd rfl (by first | exact .inl rfl | exact .inr rfl) (xe_fn h__law_error c (by decide) rfl (xa_cons (xe_var 6) xa_nil) (alen_cons alen_nil)))
    (xss_one (xs_if (xt_cmp (ox_neA c.u64) (xe_callB (cx_repr c.g c.u64 c.sm) rfl G.b_repr (by decide +kernel) (xa_cons (xe_frz (xl_disp (xa_cons (xe_fn h_book_error c (by decide) rfl (xa_cons (xe_var 6) xa_nil) (alen_cons alen_nil)) (xa_cons (xe_fn h_is_book c (by decide) rfl (xa_cons (xe_var 6) xa_nil) (alen_cons alen_nil)) xa_nil)))) xa_nil)) (xe_callB (cx_repr c.g c.u64 c.sm) rfl G.b_repr (by decide +kernel) (xa_cons (xe_frz (xl_disp (xa_cons (xe_var 7) (xa_cons (xe_cmp ox_isN (xe_var 7) xe_non rfl) xa_nil)))) xa_nil)) rfl) (xss_one (xs_ret xe_bl)) xss_nil))))))))))))
    (xss_one (xs_ret (xe_cmp ox_isN (xe_fn h_book_error c (by decide) rfl (xa_cons (xe_tup (xa_cons (xe_tup (xa_cons xe_int (xa_cons xe_int (xa_cons (xe_tup (xa_cons xe_int (xa_cons xe_int (xa_cons xe_int (xa_cons xe_int xa_nil))))) xa_nil)))) xa_nil)) xa_nil) (alen_cons alen_nil)) xe_non rfl)))))
end
end K34
end

set_option Elab.async false
set_option linter.all false
set_option maxRecDepth 100000
set_option maxHeartbeats 0
noncomputable section
namespace K34
open PySem PySem.Spec PyProof.Rows L2 Fk Sm
/-! ### the head -/
def d_divisor_of : He.DefD := ⟨("divisor_of", none), "divisor_of", "divisor_of", defArgs (top 2), defBody (top 2), defScope (top 2), [], []⟩
def d_primitive : He.DefD := ⟨("primitive", none), "primitive", "primitive", defArgs (top 3), defBody (top 3), defScope (top 3), [], []⟩
def d_most_of : He.DefD := ⟨("most_of", none), "most_of", "most_of", defArgs (top 5), defBody (top 5), defScope (top 5), [], []⟩
def d_least_of : He.DefD := ⟨("least_of", none), "least_of", "least_of", defArgs (top 6), defBody (top 6), defScope (top 6), [], []⟩
def d_is_whole : He.DefD := ⟨("is_whole", none), "is_whole", "is_whole", defArgs (top 9), defBody (top 9), defScope (top 9), [], []⟩
def d_is_whole_row : He.DefD := ⟨("is_whole_row", none), "is_whole_row", "is_whole_row", defArgs (top 10), defBody (top 10), defScope (top 10), [], []⟩
def d_is_cutting : He.DefD := ⟨("is_cutting", none), "is_cutting", "is_cutting", defArgs (top 11), defBody (top 11), defScope (top 11), [], []⟩
def d_border_of : He.DefD := ⟨("border_of", none), "border_of", "border_of", defArgs (top 12), defBody (top 12), defScope (top 12), [], []⟩
def d_is_border : He.DefD := ⟨("is_border", none), "is_border", "is_border", defArgs (top 13), defBody (top 13), defScope (top 13), [], []⟩
def d_seats : He.DefD := ⟨("seats", none), "seats", "seats", defArgs (top 14), defBody (top 14), defScope (top 14), [], []⟩
def d_book_error : He.DefD := ⟨("book_error", none), "book_error", "book_error", defArgs (top 15), defBody (top 15), defScope (top 15), [], []⟩
def d_is_book : He.DefD := ⟨("is_book", none), "is_book", "is_book", defArgs (top 16), defBody (top 16), defScope (top 16), [], []⟩
def d__law_deck : He.DefD := ⟨("_law_deck", none), "_law_deck", "_law_deck", defArgs (top 18), defBody (top 18), defScope (top 18), [], []⟩
def d__law_draw : He.DefD := ⟨("_law_draw", none), "_law_draw", "_law_draw", defArgs (top 19), defBody (top 19), defScope (top 19), [], []⟩
def d__law_one : He.DefD := ⟨("_law_one", none), "_law_one", "_law_one", defArgs (top 20), defBody (top 20), defScope (top 20), [], []⟩
def d__law_most : He.DefD := ⟨("_law_most", none), "_law_most", "_law_most", defArgs (top 21), defBody (top 21), defScope (top 21), [], []⟩
def d__law_least : He.DefD := ⟨("_law_least", none), "_law_least", "_law_least", defArgs (top 22), defBody (top 22), defScope (top 22), [], []⟩
def d__law_divisor : He.DefD := ⟨("_law_divisor", none), "_law_divisor", "_law_divisor", defArgs (top 23), defBody (top 23), defScope (top 23), [], []⟩
def d__law_primitive : He.DefD := ⟨("_law_primitive", none), "_law_primitive", "_law_primitive", defArgs (top 24), defBody (top 24), defScope (top 24), [], []⟩
def d__law_mark : He.DefD := ⟨("_law_mark", none), "_law_mark", "_law_mark", defArgs (top 25), defBody (top 25), defScope (top 25), [], []⟩
def d__law_mixed_row : He.DefD := ⟨("_law_mixed_row", none), "_law_mixed_row", "_law_mixed_row", defArgs (top 26), defBody (top 26), defScope (top 26), [], []⟩
def d__law_menu : He.DefD := ⟨("_law_menu", none), "_law_menu", "_law_menu", defArgs (top 27), defBody (top 27), defScope (top 27), [], []⟩
def d__law_sign : He.DefD := ⟨("_law_sign", none), "_law_sign", "_law_sign", defArgs (top 28), defBody (top 28), defScope (top 28), [], []⟩
def d__law_border : He.DefD := ⟨("_law_border", none), "_law_border", "_law_border", defArgs (top 29), defBody (top 29), defScope (top 29), [], []⟩
def d__law_minus : He.DefD := ⟨("_law_minus", none), "_law_minus", "_law_minus", defArgs (top 30), defBody (top 30), defScope (top 30), [], []⟩
def d__law_seats : He.DefD := ⟨("_law_seats", none), "_law_seats", "_law_seats", defArgs (top 31), defBody (top 31), defScope (top 31), [], []⟩
def d__law_words : He.DefD := ⟨("_law_words", none), "_law_words", "_law_words", defArgs (top 32), defBody (top 32), defScope (top 32), [], []⟩
def d__law_book : He.DefD := ⟨("_law_book", none), "_law_book", "_law_book", defArgs (top 33), defBody (top 33), defScope (top 33), [], []⟩
def d__law_pair_menu : He.DefD := ⟨("_law_pair_menu", none), "_law_pair_menu", "_law_pair_menu", defArgs (top 34), defBody (top 34), defScope (top 34), [], []⟩
def d__law_some_border : He.DefD := ⟨("_law_some_border", none), "_law_some_border", "_law_some_border", defArgs (top 35), defBody (top 35), defScope (top 35), [], []⟩
def d__law_drawn_book : He.DefD := ⟨("_law_drawn_book", none), "_law_drawn_book", "_law_drawn_book", defArgs (top 36), defBody (top 36), defScope (top 36), [], []⟩
def d__law_swapped_book : He.DefD := ⟨("_law_swapped_book", none), "_law_swapped_book", "_law_swapped_book", defArgs (top 37), defBody (top 37), defScope (top 37), [], []⟩
def d__law_some_book : He.DefD := ⟨("_law_some_book", none), "_law_some_book", "_law_some_book", defArgs (top 38), defBody (top 38), defScope (top 38), [], []⟩
def d__law_whole : He.DefD := ⟨("_law_whole", none), "_law_whole", "_law_whole", defArgs (top 39), defBody (top 39), defScope (top 39), [], []⟩
def d__law_is_border : He.DefD := ⟨("_law_is_border", none), "_law_is_border", "_law_is_border", defArgs (top 40), defBody (top 40), defScope (top 40), [], []⟩
def d__law_error : He.DefD := ⟨("_law_error", none), "_law_error", "_law_error", defArgs (top 41), defBody (top 41), defScope (top 41), [], []⟩
def d__law_odd : He.DefD := ⟨("_law_odd", none), "_law_odd", "_law_odd", defArgs (top 42), defBody (top 42), defScope (top 42), [], []⟩
def d__law_bent : He.DefD := ⟨("_law_bent", none), "_law_bent", "_law_bent", defArgs (top 43), defBody (top 43), defScope (top 43), [], []⟩
def d_law : He.DefD := ⟨("law", none), "law", "law", defArgs (top 44), defBody (top 44), defScope (top 44), [], []⟩
def fn : List He.DefD := [d_divisor_of, d_primitive, d_most_of, d_least_of, d_is_whole, d_is_whole_row, d_is_cutting, d_border_of, d_is_border, d_seats, d_book_error, d_is_book, d__law_deck, d__law_draw, d__law_one, d__law_most, d__law_least, d__law_divisor, d__law_primitive, d__law_mark, d__law_mixed_row, d__law_menu, d__law_sign, d__law_border, d__law_minus, d__law_seats, d__law_words, d__law_book, d__law_pair_menu, d__law_some_border, d__law_drawn_book, d__law_swapped_book, d__law_some_book, d__law_whole, d__law_is_border, d__law_error, d__law_odd, d__law_bent, d_law]
def fa : List He.Fa := [.glo "divisor_of", .glo "primitive", .glo "most_of", .glo "least_of", .glo "is_whole", .glo "is_whole_row", .glo "is_cutting", .glo "border_of", .glo "is_border", .glo "seats", .glo "book_error", .glo "is_book", .glo "_law_deck", .glo "_law_draw", .glo "_law_one", .glo "_law_most", .glo "_law_least", .glo "_law_divisor", .glo "_law_primitive", .glo "_law_mark", .glo "_law_mixed_row", .glo "_law_menu", .glo "_law_sign", .glo "_law_border", .glo "_law_minus", .glo "_law_seats", .glo "_law_words", .glo "_law_book", .glo "_law_pair_menu", .glo "_law_some_border", .glo "_law_drawn_book", .glo "_law_swapped_book", .glo "_law_some_book", .glo "_law_whole", .glo "_law_is_border", .glo "_law_error", .glo "_law_odd", .glo "_law_bent", .glo "law", .free "abs", .free "all", .free "bool", .free "enumerate", .free "int", .free "isinstance", .free "len", .free "list", .free "max", .free "min", .free "range", .free "repr", .free "tuple", .free "zip", .int "MAX_ANSWERS" 4]
def xl : List Xc := []
def tl : List (Str × List (Int × Int)) := [("SIZES", [(1, 2), (3, 3), (6, 4), (10, 5), (15, 6)])]
abbrev R : PySem.W.OpenRow := PySem.W.OpenLaw.row PySem.Challenge.rw_frankmarks_k34_what_is_no_book
def tn : List Str := ["law"]
abbrev hk : PySem.W.Hook := hookS (xctT tn xl tl) 4 fa fn
def ob (s : PySem.W.SharedT) : AlS := obsS (xctT tn xl tl) 4 fa fn (HandSHeadRun.getT s)
theorem ob_eq (s : PySem.W.SharedT) : ob s = hk.obs s.abs := obsS_eq (HandSHeadRun.getT_eq s)
def loose : List Str := (["MAX_ANSWERS", "divisor_of", "primitive", "most_of", "least_of", "SIZES", "is_whole", "is_whole_row", "is_cutting", "border_of", "is_border", "seats", "book_error", "is_book", "_law_deck", "_law_draw", "_law_one", "_law_most", "_law_least", "_law_divisor", "_law_primitive", "_law_mark", "_law_mixed_row", "_law_menu", "_law_sign", "_law_border", "_law_minus", "_law_seats", "_law_words", "_law_book"] : List Str) ++ (["_law_pair_menu", "_law_some_border", "_law_drawn_book", "_law_swapped_book", "_law_some_book", "_law_whole", "_law_is_border", "_law_error", "_law_odd", "_law_bent"] : List Str)
theorem run_at (b : Bool) (w : World) : HandSHeadRun.RunEq R (PySem.W.view R.prog [44]) hk ob 20000 loose (w.withFollow "special-get-raises" b) := by
  intro os
  cases b <;> kernel_rfl
theorem run (w : World) : HandSHeadRun.RunEq R (PySem.W.view R.prog [44]) hk ob 20000 loose w := by
  have h := run_at (w.params.followText "special-get-raises") w
  rwa [World.withFollow_self] at h
theorem facts {P : Program} {w : World} {K : PySem.W.Frag} {h : Heap} {mg : Str → Option Value} {f : Addr} (X : K.In h) (Gn : h.Ns mainGlobals mg) (hfa : mg ("law" : Str) = some (.ref f)) (c : He.SaysD fa fn K) (hs : (smB K && xctT tn xl tl K) = true) :
    ∃ fd : FuncData, (∀ (s : Shared) (v : Value), BindsTo s fd ⟨[v], []⟩ [("_law_script", v)]) ∧ ∀ base : Heap, K.In base → base.Ns mainGlobals mg → (∀ p ∈ tabsK K, LamX.TabB base mg p.1 p.2.1) → FnG P w K mg base 8 f fd ["_law_script"] (spD K mg 1 f_law_k34) := by
  obtain ⟨hs, hx⟩ := Bool.and_eq_true_iff.mp hs
  obtain ⟨hx, ht⟩ := Bool.and_eq_true_iff.mp hx
  obtain ⟨_, hx⟩ := Bool.and_eq_true_iff.mp hx
  obtain ⟨fd_divisor_of, F_divisor_of⟩ := c.def_ 0 (d := d_divisor_of) rfl
  have m_divisor_of := He.glo_ok X Gn (c.fact 0 (f := .glo "divisor_of") rfl)
  obtain ⟨fd_primitive, F_primitive⟩ := c.def_ 1 (d := d_primitive) rfl
  have m_primitive := He.glo_ok X Gn (c.fact 1 (f := .glo "primitive") rfl)
  obtain ⟨fd_most_of, F_most_of⟩ := c.def_ 2 (d := d_most_of) rfl
  have m_most_of := He.glo_ok X Gn (c.fact 2 (f := .glo "most_of") rfl)
  obtain ⟨fd_least_of, F_least_of⟩ := c.def_ 3 (d := d_least_of) rfl
  have m_least_of := He.glo_ok X Gn (c.fact 3 (f := .glo "least_of") rfl)
  obtain ⟨fd_is_whole, F_is_whole⟩ := c.def_ 4 (d := d_is_whole) rfl
  have m_is_whole := He.glo_ok X Gn (c.fact 4 (f := .glo "is_whole") rfl)
  obtain ⟨fd_is_whole_row, F_is_whole_row⟩ := c.def_ 5 (d := d_is_whole_row) rfl
  have m_is_whole_row := He.glo_ok X Gn (c.fact 5 (f := .glo "is_whole_row") rfl)
  obtain ⟨fd_is_cutting, F_is_cutting⟩ := c.def_ 6 (d := d_is_cutting) rfl
  have m_is_cutting := He.glo_ok X Gn (c.fact 6 (f := .glo "is_cutting") rfl)
  obtain ⟨fd_border_of, F_border_of⟩ := c.def_ 7 (d := d_border_of) rfl
  have m_border_of := He.glo_ok X Gn (c.fact 7 (f := .glo "border_of") rfl)
  obtain ⟨fd_is_border, F_is_border⟩ := c.def_ 8 (d := d_is_border) rfl
  have m_is_border := He.glo_ok X Gn (c.fact 8 (f := .glo "is_border") rfl)
  obtain ⟨fd_seats, F_seats⟩ := c.def_ 9 (d := d_seats) rfl
  have m_seats := He.glo_ok X Gn (c.fact 9 (f := .glo "seats") rfl)
  obtain ⟨fd_book_error, F_book_error⟩ := c.def_ 10 (d := d_book_error) rfl
  have m_book_error := He.glo_ok X Gn (c.fact 10 (f := .glo "book_error") rfl)
  obtain ⟨fd_is_book, F_is_book⟩ := c.def_ 11 (d := d_is_book) rfl
  have m_is_book := He.glo_ok X Gn (c.fact 11 (f := .glo "is_book") rfl)
  obtain ⟨fd__law_deck, F__law_deck⟩ := c.def_ 12 (d := d__law_deck) rfl
  have m__law_deck := He.glo_ok X Gn (c.fact 12 (f := .glo "_law_deck") rfl)
  obtain ⟨fd__law_draw, F__law_draw⟩ := c.def_ 13 (d := d__law_draw) rfl
  have m__law_draw := He.glo_ok X Gn (c.fact 13 (f := .glo "_law_draw") rfl)
  obtain ⟨fd__law_one, F__law_one⟩ := c.def_ 14 (d := d__law_one) rfl
  have m__law_one := He.glo_ok X Gn (c.fact 14 (f := .glo "_law_one") rfl)
  obtain ⟨fd__law_most, F__law_most⟩ := c.def_ 15 (d := d__law_most) rfl
  have m__law_most := He.glo_ok X Gn (c.fact 15 (f := .glo "_law_most") rfl)
  obtain ⟨fd__law_least, F__law_least⟩ := c.def_ 16 (d := d__law_least) rfl
  have m__law_least := He.glo_ok X Gn (c.fact 16 (f := .glo "_law_least") rfl)
  obtain ⟨fd__law_divisor, F__law_divisor⟩ := c.def_ 17 (d := d__law_divisor) rfl
  have m__law_divisor := He.glo_ok X Gn (c.fact 17 (f := .glo "_law_divisor") rfl)
  obtain ⟨fd__law_primitive, F__law_primitive⟩ := c.def_ 18 (d := d__law_primitive) rfl
  have m__law_primitive := He.glo_ok X Gn (c.fact 18 (f := .glo "_law_primitive") rfl)
  obtain ⟨fd__law_mark, F__law_mark⟩ := c.def_ 19 (d := d__law_mark) rfl
  have m__law_mark := He.glo_ok X Gn (c.fact 19 (f := .glo "_law_mark") rfl)
  obtain ⟨fd__law_mixed_row, F__law_mixed_row⟩ := c.def_ 20 (d := d__law_mixed_row) rfl
  have m__law_mixed_row := He.glo_ok X Gn (c.fact 20 (f := .glo "_law_mixed_row") rfl)
  obtain ⟨fd__law_menu, F__law_menu⟩ := c.def_ 21 (d := d__law_menu) rfl
  have m__law_menu := He.glo_ok X Gn (c.fact 21 (f := .glo "_law_menu") rfl)
  obtain ⟨fd__law_sign, F__law_sign⟩ := c.def_ 22 (d := d__law_sign) rfl
  have m__law_sign := He.glo_ok X Gn (c.fact 22 (f := .glo "_law_sign") rfl)
  obtain ⟨fd__law_border, F__law_border⟩ := c.def_ 23 (d := d__law_border) rfl
  have m__law_border := He.glo_ok X Gn (c.fact 23 (f := .glo "_law_border") rfl)
  obtain ⟨fd__law_minus, F__law_minus⟩ := c.def_ 24 (d := d__law_minus) rfl
  have m__law_minus := He.glo_ok X Gn (c.fact 24 (f := .glo "_law_minus") rfl)
  obtain ⟨fd__law_seats, F__law_seats⟩ := c.def_ 25 (d := d__law_seats) rfl
  have m__law_seats := He.glo_ok X Gn (c.fact 25 (f := .glo "_law_seats") rfl)
  obtain ⟨fd__law_words, F__law_words⟩ := c.def_ 26 (d := d__law_words) rfl
  have m__law_words := He.glo_ok X Gn (c.fact 26 (f := .glo "_law_words") rfl)
  obtain ⟨fd__law_book, F__law_book⟩ := c.def_ 27 (d := d__law_book) rfl
  have m__law_book := He.glo_ok X Gn (c.fact 27 (f := .glo "_law_book") rfl)
  obtain ⟨fd__law_pair_menu, F__law_pair_menu⟩ := c.def_ 28 (d := d__law_pair_menu) rfl
  have m__law_pair_menu := He.glo_ok X Gn (c.fact 28 (f := .glo "_law_pair_menu") rfl)
  obtain ⟨fd__law_some_border, F__law_some_border⟩ := c.def_ 29 (d := d__law_some_border) rfl
  have m__law_some_border := He.glo_ok X Gn (c.fact 29 (f := .glo "_law_some_border") rfl)
  obtain ⟨fd__law_drawn_book, F__law_drawn_book⟩ := c.def_ 30 (d := d__law_drawn_book) rfl
  have m__law_drawn_book := He.glo_ok X Gn (c.fact 30 (f := .glo "_law_drawn_book") rfl)
  obtain ⟨fd__law_swapped_book, F__law_swapped_book⟩ := c.def_ 31 (d := d__law_swapped_book) rfl
  have m__law_swapped_book := He.glo_ok X Gn (c.fact 31 (f := .glo "_law_swapped_book") rfl)
  obtain ⟨fd__law_some_book, F__law_some_book⟩ := c.def_ 32 (d := d__law_some_book) rfl
  have m__law_some_book := He.glo_ok X Gn (c.fact 32 (f := .glo "_law_some_book") rfl)
  obtain ⟨fd__law_whole, F__law_whole⟩ := c.def_ 33 (d := d__law_whole) rfl
  have m__law_whole := He.glo_ok X Gn (c.fact 33 (f := .glo "_law_whole") rfl)
  obtain ⟨fd__law_is_border, F__law_is_border⟩ := c.def_ 34 (d := d__law_is_border) rfl
  have m__law_is_border := He.glo_ok X Gn (c.fact 34 (f := .glo "_law_is_border") rfl)
  obtain ⟨fd__law_error, F__law_error⟩ := c.def_ 35 (d := d__law_error) rfl
  have m__law_error := He.glo_ok X Gn (c.fact 35 (f := .glo "_law_error") rfl)
  obtain ⟨fd__law_odd, F__law_odd⟩ := c.def_ 36 (d := d__law_odd) rfl
  have m__law_odd := He.glo_ok X Gn (c.fact 36 (f := .glo "_law_odd") rfl)
  obtain ⟨fd__law_bent, F__law_bent⟩ := c.def_ 37 (d := d__law_bent) rfl
  have m__law_bent := He.glo_ok X Gn (c.fact 37 (f := .glo "_law_bent") rfl)
  obtain ⟨fd_law, F_law⟩ := c.def_ 38 (d := d_law) rfl
  have m_law := He.glo_ok X Gn (c.fact 38 (f := .glo "law") rfl)
  have G : Gs mg := ⟨He.free_ok X Gn (c.fact 39 (f := .free "abs") rfl),
    He.free_ok X Gn (c.fact 40 (f := .free "all") rfl),
    He.free_ok X Gn (c.fact 41 (f := .free "bool") rfl),
    He.free_ok X Gn (c.fact 42 (f := .free "enumerate") rfl),
    He.free_ok X Gn (c.fact 43 (f := .free "int") rfl),
    He.free_ok X Gn (c.fact 44 (f := .free "isinstance") rfl),
    He.free_ok X Gn (c.fact 45 (f := .free "len") rfl),
    He.free_ok X Gn (c.fact 46 (f := .free "list") rfl),
    He.free_ok X Gn (c.fact 47 (f := .free "max") rfl),
    He.free_ok X Gn (c.fact 48 (f := .free "min") rfl),
    He.free_ok X Gn (c.fact 49 (f := .free "range") rfl),
    He.free_ok X Gn (c.fact 50 (f := .free "repr") rfl),
    He.free_ok X Gn (c.fact 51 (f := .free "tuple") rfl),
    He.free_ok X Gn (c.fact 52 (f := .free "zip") rfl),
    He.int_ok X Gn (c.fact 53 (f := .int "MAX_ANSWERS" 4) rfl)⟩
  have e := hfa.symm.trans m_law
  cases e
  refine ⟨fd_law, fun s v => FunD.bindsA (ps := ["_law_script"]) F_law (fun _ _ _ _ _ _ us hl => match us, hl with | [_], _ => rfl) s [v] rfl, fun base Kb _ TT => ?_⟩
  have B := smB_ok hs Kb
  have E : Xs P w K mg base := ⟨itab_ok X Gn (xctT_at ht 0 (p := ("SIZES", [(1, 2), (3, 3), (6, 4), (10, 5), (15, 6)])) rfl)⟩
  have h_divisor_of : Fn P w K mg base 1 "divisor_of" ["values"] [] f_divisor_of := Fn.allN F_divisor_of m_divisor_of (ok_divisor_of G E B F_divisor_of) (fun _ _ _ _ _ _ us hl => match us, hl with | [_], _ => rfl)
  have h_primitive : Fn P w K mg base 2 "primitive" ["values"] [] f_primitive := Fn.allN F_primitive m_primitive (ok_primitive G E B h_divisor_of F_primitive) (fun _ _ _ _ _ _ us hl => match us, hl with | [_], _ => rfl)
  have h_most_of : Fn P w K mg base 1 "most_of" ["numbers"] [] f_most_of := Fn.allN F_most_of m_most_of (ok_most_of G E B F_most_of) (fun _ _ _ _ _ _ us hl => match us, hl with | [_], _ => rfl)
  have h_least_of : Fn P w K mg base 1 "least_of" ["numbers"] [] f_least_of := Fn.allN F_least_of m_least_of (ok_least_of G E B F_least_of) (fun _ _ _ _ _ _ us hl => match us, hl with | [_], _ => rfl)
  have h_is_whole : Fn P w K mg base 1 "is_whole" ["value"] [] f_is_whole := Fn.allN F_is_whole m_is_whole (ok_is_whole G E B F_is_whole) (fun _ _ _ _ _ _ us hl => match us, hl with | [_], _ => rfl)
  have h_is_whole_row : Fn P w K mg base 2 "is_whole_row" ["value", "count"] [] f_is_whole_row := Fn.allN F_is_whole_row m_is_whole_row (ok_is_whole_row G E B h_is_whole F_is_whole_row) (fun _ _ _ _ _ _ us hl => match us, hl with | [_, _], _ => rfl)
  have h_is_cutting : Fn P w K mg base 2 "is_cutting" ["border"] [] f_is_cutting := Fn.allN F_is_cutting m_is_cutting (ok_is_cutting G E B h_least_of h_most_of F_is_cutting) (fun _ _ _ _ _ _ us hl => match us, hl with | [_], _ => rfl)
  have h_border_of : Fn P w K mg base 3 "border_of" ["row"] [] f_border_of := Fn.allN F_border_of m_border_of (ok_border_of G E B h_is_cutting h_primitive F_border_of) (fun _ _ _ _ _ _ us hl => match us, hl with | [_], _ => rfl)
  have h_is_border : Fn P w K mg base 4 "is_border" ["value"] [] f_is_border := Fn.allN F_is_border m_is_border (ok_is_border G E B h_border_of h_is_whole_row F_is_border) (fun _ _ _ _ _ _ us hl => match us, hl with | [_], _ => rfl)
  have h_seats : Fn P w K mg base 1 "seats" ["words"] [] f_seats := Fn.allN F_seats m_seats (ok_seats G E B F_seats) (fun _ _ _ _ _ _ us hl => match us, hl with | [_], _ => rfl)
  have h_book_error : Fn P w K mg base 5 "book_error" ["value"] [] f_book_error := Fn.allN F_book_error m_book_error (ok_book_error G E B h_is_border h_is_whole_row h_seats F_book_error) (fun _ _ _ _ _ _ us hl => match us, hl with | [_], _ => rfl)
  have h_is_book : Fn P w K mg base 6 "is_book" ["value"] [] f_is_book := Fn.allN F_is_book m_is_book (ok_is_book G E B h_book_error F_is_book) (fun _ _ _ _ _ _ us hl => match us, hl with | [_], _ => rfl)
  have h__law_deck : Fn P w K mg base 1 "_law_deck" ["_law_script"] [] f__law_deck_k28 := Fn.allN F__law_deck m__law_deck (ok__law_deck G E B F__law_deck) (fun _ _ _ _ _ _ us hl => match us, hl with | [_], _ => rfl)
  have h__law_draw : Fn P w K mg base 1 "_law_draw" ["_law_deck_here", "_law_many"] [] f__law_draw_k28 := Fn.allN F__law_draw m__law_draw (ok__law_draw G E B F__law_draw) (fun _ _ _ _ _ _ us hl => match us, hl with | [_, _], _ => rfl)
  have h__law_one : Fn P w K mg base 2 "_law_one" ["_law_deck_here", "_law_items"] [] f__law_one_k28 := Fn.allN F__law_one m__law_one (ok__law_one G E B h__law_draw F__law_one) (fun _ _ _ _ _ _ us hl => match us, hl with | [_, _], _ => rfl)
  have h__law_most : Fn P w K mg base 1 "_law_most" ["_law_numbers"] [] f__law_most := Fn.allN F__law_most m__law_most (ok__law_most G E B F__law_most) (fun _ _ _ _ _ _ us hl => match us, hl with | [_], _ => rfl)
  have h__law_least : Fn P w K mg base 1 "_law_least" ["_law_numbers"] [] f__law_least_k30 := Fn.allN F__law_least m__law_least (ok__law_least G E B F__law_least) (fun _ _ _ _ _ _ us hl => match us, hl with | [_], _ => rfl)
  have h__law_divisor : Fn P w K mg base 1 "_law_divisor" ["_law_numbers"] [] f__law_divisor := Fn.allN F__law_divisor m__law_divisor (ok__law_divisor G E B F__law_divisor) (fun _ _ _ _ _ _ us hl => match us, hl with | [_], _ => rfl)
  have h__law_primitive : Fn P w K mg base 2 "_law_primitive" ["_law_numbers"] [] f__law_primitive_k28 := Fn.allN F__law_primitive m__law_primitive (ok__law_primitive G E B h__law_divisor F__law_primitive) (fun _ _ _ _ _ _ us hl => match us, hl with | [_], _ => rfl)
  have h__law_mark : Fn P w K mg base 3 "_law_mark" ["_law_deck_here", "_law_far"] [] f__law_mark_k28 := Fn.allN F__law_mark m__law_mark (ok__law_mark G E B h__law_draw h__law_one F__law_mark) (fun _ _ _ _ _ _ us hl => match us, hl with | [_, _], _ => rfl)
  have h__law_mixed_row : Fn P w K mg base 3 "_law_mixed_row" ["_law_deck_here", "_law_rows"] [] f__law_mixed_row := Fn.allN F__law_mixed_row m__law_mixed_row (ok__law_mixed_row G E B h__law_draw h__law_one F__law_mixed_row) (fun _ _ _ _ _ _ us hl => match us, hl with | [_, _], _ => rfl)
  have h__law_menu : Fn P w K mg base 4 "_law_menu" ["_law_deck_here", "_law_most_here"] [] f__law_menu_k28 := Fn.allN F__law_menu m__law_menu (ok__law_menu G E B h__law_draw h__law_mark h__law_mixed_row h__law_one F__law_menu) (fun _ _ _ _ _ _ us hl => match us, hl with | [_, _], _ => rfl)
  have h__law_sign : Fn P w K mg base 1 "_law_sign" ["_law_number"] [] f__law_sign := Fn.allN F__law_sign m__law_sign (ok__law_sign G E B F__law_sign) (fun _ _ _ _ _ _ us hl => match us, hl with | [_], _ => rfl)
  have h__law_border : Fn P w K mg base 3 "_law_border" ["_law_row"] [] f__law_border := Fn.allN F__law_border m__law_border (ok__law_border G E B h__law_least h__law_most h__law_primitive h__law_sign F__law_border) (fun _ _ _ _ _ _ us hl => match us, hl with | [_], _ => rfl)
  have h__law_minus : Fn P w K mg base 1 "_law_minus" ["_law_one_here", "_law_other"] [] f__law_minus := Fn.allN F__law_minus m__law_minus (ok__law_minus G E B F__law_minus) (fun _ _ _ _ _ _ us hl => match us, hl with | [_, _], _ => rfl)
  have h__law_seats : Fn P w K mg base 1 "_law_seats" ["_law_words_here"] [] f__law_seats := Fn.allN F__law_seats m__law_seats (ok__law_seats G E B F__law_seats) (fun _ _ _ _ _ _ us hl => match us, hl with | [_], _ => rfl)
  have h__law_words : Fn P w K mg base 1 "_law_words" ["_law_book_here"] [] f__law_words := Fn.allN F__law_words m__law_words (ok__law_words G E B F__law_words) (fun _ _ _ _ _ _ us hl => match us, hl with | [_], _ => rfl)
  have h__law_book : Fn P w K mg base 4 "_law_book" ["_law_rows"] [] f__law_book := Fn.allN F__law_book m__law_book (ok__law_book G E B h__law_border h__law_minus h__law_seats F__law_book) (fun _ _ _ _ _ _ us hl => match us, hl with | [_], _ => rfl)
  have h__law_pair_menu : Fn P w K mg base 5 "_law_pair_menu" ["_law_deck_here"] [] f__law_pair_menu := Fn.allN F__law_pair_menu m__law_pair_menu (ok__law_pair_menu G E B h__law_mark h__law_menu F__law_pair_menu) (fun _ _ _ _ _ _ us hl => match us, hl with | [_], _ => rfl)
  have h__law_some_border : Fn P w K mg base 4 "_law_some_border" ["_law_deck_here", "_law_answers"] [] f__law_some_border := Fn.allN F__law_some_border m__law_some_border (ok__law_some_border G E B h__law_border h__law_draw h__law_one F__law_some_border) (fun _ _ _ _ _ _ us hl => match us, hl with | [_, _], _ => rfl)
  have h__law_drawn_book : Fn P w K mg base 5 "_law_drawn_book" ["_law_deck_here"] [] f__law_drawn_book := Fn.allN F__law_drawn_book m__law_drawn_book (ok__law_drawn_book G E B h__law_draw h__law_seats h__law_some_border F__law_drawn_book) (fun _ _ _ _ _ _ us hl => match us, hl with | [_], _ => rfl)
  have h__law_swapped_book : Fn P w K mg base 3 "_law_swapped_book" ["_law_deck_here"] [] f__law_swapped_book_k34 := Fn.allN F__law_swapped_book m__law_swapped_book (ok__law_swapped_book G E B h__law_draw h__law_one h__law_primitive h__law_seats F__law_swapped_book) (fun _ _ _ _ _ _ us hl => match us, hl with | [_], _ => rfl)
  have h__law_some_book : Fn P w K mg base 6 "_law_some_book" ["_law_deck_here"] [] f__law_some_book_k34 := Fn.allN F__law_some_book m__law_some_book (ok__law_some_book G E B h__law_book h__law_draw h__law_drawn_book h__law_pair_menu h__law_some_border h__law_swapped_book F__law_some_book) (fun _ _ _ _ _ _ us hl => match us, hl with | [_], _ => rfl)
  have h__law_whole : Fn P w K mg base 1 "_law_whole" ["_law_value"] [] f__law_whole_k34 := Fn.allN F__law_whole m__law_whole (ok__law_whole G E B F__law_whole) (fun _ _ _ _ _ _ us hl => match us, hl with | [_], _ => rfl)
  have h__law_is_border : Fn P w K mg base 4 "_law_is_border" ["_law_value"] [] f__law_is_border_k34 := Fn.allN F__law_is_border m__law_is_border (ok__law_is_border G E B h__law_border h__law_whole F__law_is_border) (fun _ _ _ _ _ _ us hl => match us, hl with | [_], _ => rfl)
  have h__law_error : Fn P w K mg base 5 "_law_error" ["_law_value"] [] f__law_error_k34 := Fn.allN F__law_error m__law_error (ok__law_error G E B h__law_is_border h__law_seats h__law_whole h__law_words F__law_error) (fun _ _ _ _ _ _ us hl => match us, hl with | [_], _ => rfl)
  have h__law_odd : Fn P w K mg base 3 "_law_odd" ["_law_deck_here"] [] f__law_odd_k34 := Fn.allN F__law_odd m__law_odd (ok__law_odd G E B h__law_one F__law_odd) (fun _ _ _ _ _ _ us hl => match us, hl with | [_], _ => rfl)
  have h__law_bent : Fn P w K mg base 7 "_law_bent" ["_law_deck_here", "_law_value", "_law_deep"] [] (f__law_bent_k34 4) := by
    have r : ∀ n : Nat, Fn P w K mg base (3 + n) "_law_bent" ["_law_deck_here", "_law_value", "_law_deep"] [] (f__law_bent_k34 n) := fun n => by
      induction n with
      | zero => exact Fn.allN F__law_bent m__law_bent (FnG.stuck rfl) (fun _ _ _ _ _ _ us hl => match us, hl with | [_, _, _], _ => rfl)
      | succ n ih => exact Fn.allN F__law_bent m__law_bent (ok__law_bent G E B h__law_draw h__law_odd (Nat.le_add_right _ _) (Nat.le_refl _) ih F__law_bent) (fun _ _ _ _ _ _ us hl => match us, hl with | [_, _, _], _ => rfl)
    exact r 4
  exact ok_law G E B h__law_bent h__law_deck h__law_error h__law_odd h__law_some_book h_book_error h_is_book F_law
end K34
end

set_option Elab.async false
set_option linter.all false
set_option maxRecDepth 100000
set_option maxHeartbeats 0
open PySem PySem.W PySem.Calls PyProof.Rows in
theorem PySem.Challenge.cw_frankmarks_k34_what_is_no_book_holds : PySem.Challenge.rw_frankmarks_k34_what_is_no_book.Holds := by
  w_on; o_law
  refine HandSHeadRun.head_any (r := OpenLaw.row PySem.Challenge.rw_frankmarks_k34_what_is_no_book) (q := view (OpenLaw.row PySem.Challenge.rw_frankmarks_k34_what_is_no_book).prog [44]) (H := K34.hk) (ob := K34.ob) (M := 20000) (loose := K34.loose) (d := HandSHeadRun.topDef (OpenLaw.row PySem.Challenge.rw_frankmarks_k34_what_is_no_book).prog 44) (kwd := []) K34.ob_eq
    (by kernel_rfl) (fun s => by kernel_rfl) K34.run (by kernel_rfl) (by kernel_rfl) (by kernel_rfl) (by rfl) (by first | assumption | decide +kernel) (by decide +kernel) ⟨rfl, rfl, rfl, rfl, rfl, by decide +kernel⟩ ?hw ?hc
  case hw => w_witness2
  case hc =>
    refine Fk.walk_ofG (l := PySem.Challenge.rw_frankmarks_k34_what_is_no_book) (n := 63) (k := 8) (x := "_law_script") (fs := Sm.f_law_k34) (tn := K34.tn) rfl (by decide) (by kernel_rfl) ⟨rfl, by decide, by decide⟩ (by intro x hx; revert x; decide +kernel) ?F K34.plain
    intro w mg fa h Y G hmg0
    obtain ⟨K, KX, c, hs⟩ := Y
    have hmg : mg ("law" : PySem.Str) = some (.ref fa) := by
      have e : (HandSHeadRun.topDef (OpenLaw.row PySem.Challenge.rw_frankmarks_k34_what_is_no_book).prog 44).name = ("law" : PySem.Str) := by kernel_rfl
      rw [← e]
      exact hmg0
    obtain ⟨fd, hb, hF⟩ := K34.facts (P := PySem.Challenge.rw_frankmarks_k34_what_is_no_book.prog) (w := w) KX G hmg c hs
    exact ⟨K, fd, KX, (Bool.and_eq_true_iff.mp (Bool.and_eq_true_iff.mp (Bool.and_eq_true_iff.mp hs).2).1).1, hb, hF⟩

