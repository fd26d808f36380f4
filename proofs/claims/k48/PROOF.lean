import PyProof.Rows.All
import Wide.All
import OpenK.AllK
import Wide.FinOn
import HandS.ForMost
import HandS.Exc
import HandS.TryOnly
import HandS.ExcOwn
import HandS.WordsExc
import HandS.SortInts
import HandS.Style
import HandS.Flow
import HandS.TupAny
import HandS.Deep
import HandS.Ends
import HandS.More
import HandS.Defaults
import HandS.Head0
import HandS.Head1
import HandS.Head2
import HandS.HeadEnd
import HandS.HeadHook1
import HandS.HeadHook2
import PySem.Challenge.RW_unfooled_k48_safe_rounds_by_trying

set_option Elab.async false
set_option linter.all false
set_option maxRecDepth 100000
set_option maxHeartbeats 2000000
/-! DW: a layer over HandS. Data D by value (what never changes), owned objects by handle; readings over data. -/
namespace DW
open PySem L2

inductive D where
  | non | bl (b : Bool) | int (i : Int) | str (x : Str) | ty (n : String) | ref (a : Addr)
  | lst (ds : List D) | tup (ds : List D) | dic (kvs : List (Key × D)) | ins (C : Addr) (fs : List (Str × D))
  /-- the script -/
  | scr (ns : List Int)

instance : Inhabited D := ⟨.non⟩

mutual
inductive Rep (K : PySem.W.Frag) (F : Hp) : V → D → Prop
  | non : Rep K F .non .non
  | bl (b : Bool) : Rep K F (.bl b) (.bl b)
  | int (i : Int) : Rep K F (.int i) (.int i)
  | str (x : Str) : x.length ≤ sizeLine → PyData.strOk x = true → Rep K F (.str x) (.str x)
  | ty (n : String) : Rep K F (.ty n) (.ty n)
  | ref (a : Addr) : Rep K F (.ref a) (.ref a)
  | lst {a : Addr} {xs : List V} {ds : List D} : F a = some (.lst xs) → xs.length ≤ sizeLine → RepA K F xs ds → Rep K F (.ref a) (.lst ds)
  | scr {a : Addr} {ns : List Int} : SqL K F a (ns.map V.int) → ns.length ≤ sizeLine → Rep K F (.ref a) (.scr ns)
  | tup {a : Addr} {xs : List V} {ds : List D} : SqT K F a xs → xs.length ≤ sizeLine → RepA K F xs ds → Rep K F (.ref a) (.tup ds)
  | dic {a : Addr} {xs : List (Key × V)} {ds : List (Key × D)} : F a = some (.dK xs) → RepK K F xs ds → Rep K F (.ref a) (.dic ds)
  | ins {a C dx : Addr} {xs : List (Str × V)} {ds : List (Str × D)} : F a = some (.ins C dx xs) → RepF K F xs ds → Rep K F (.ref a) (.ins C ds)
inductive RepA (K : PySem.W.Frag) (F : Hp) : List V → List D → Prop
  | nil : RepA K F [] []
  | cons {v : V} {d : D} {vs : List V} {ds : List D} : Rep K F v d → RepA K F vs ds → RepA K F (v :: vs) (d :: ds)
inductive RepK (K : PySem.W.Frag) (F : Hp) : List (Key × V) → List (Key × D) → Prop
  | nil : RepK K F [] []
  | cons {k : Key} {v : V} {d : D} {vs : List (Key × V)} {ds : List (Key × D)} : Rep K F v d → RepK K F vs ds → RepK K F ((k, v) :: vs) ((k, d) :: ds)
inductive RepF (K : PySem.W.Frag) (F : Hp) : List (Str × V) → List (Str × D) → Prop
  | nil : RepF K F [] []
  | cons {k : Str} {v : V} {d : D} {vs : List (Str × V)} {ds : List (Str × D)} : Rep K F v d → RepF K F vs ds → RepF K F ((k, v) :: vs) ((k, d) :: ds)
end

theorem Same.tuq {K : PySem.W.Frag} {H H' : Hp} {a : Addr} {xs : List V} (e : Same H H') (h : SqT K H a xs) : SqT K H' a xs := by
  rcases h with (h | ⟨o, h⟩) | h
  · exact .inl (.inl (e _ _ h))
  · exact .inl (.inr ⟨o, e _ _ h⟩)
  · exact .inr h

section
variable {K : PySem.W.Frag} {F F' : Hp}
mutual
theorem Rep.mono (e : Same F F') : ∀ (d : D) (v : V), Rep K F v d → Rep K F' v d
  | .non, _, h => by cases h; exact .non
  | .bl _, _, h => by cases h; exact .bl _
  | .int _, _, h => by cases h; exact .int _
  | .str _, _, h => by cases h with | str _ a b => exact .str _ a b
  | .ty _, _, h => by cases h; exact .ty _
  | .ref _, _, h => by cases h; exact .ref _
  | .lst ds, _, h => by cases h with | lst a b c => exact .lst (e _ _ a) b (RepA.mono e ds _ c)
  | .scr ns, _, h => by cases h with | scr a b => exact .scr (e.seq a) b
  | .tup ds, _, h => by cases h with | tup a b c => exact .tup (Same.tuq e a) b (RepA.mono e ds _ c)
  | .dic ds, _, h => by cases h with | dic a c => exact .dic (e _ _ a) (RepK.mono e ds _ c)
  | .ins C ds, _, h => by cases h with | ins a c => exact .ins (e _ _ a) (RepF.mono e ds _ c)
theorem RepA.mono (e : Same F F') : ∀ (ds : List D) (vs : List V), RepA K F vs ds → RepA K F' vs ds
  | [], _, h => by cases h; exact .nil
  | d :: ds, _, h => by cases h with | cons a b => exact .cons (Rep.mono e d _ a) (RepA.mono e ds _ b)
theorem RepK.mono (e : Same F F') : ∀ (ds : List (Key × D)) (vs : List (Key × V)), RepK K F vs ds → RepK K F' vs ds
  | [], _, h => by cases h; exact .nil
  | (k, d) :: ds, _, h => by cases h with | cons a b => exact .cons (Rep.mono e d _ a) (RepK.mono e ds _ b)
theorem RepF.mono (e : Same F F') : ∀ (ds : List (Str × D)) (vs : List (Str × V)), RepF K F vs ds → RepF K F' vs ds
  | [], _, h => by cases h; exact .nil
  | (k, d) :: ds, _, h => by cases h with | cons a b => exact .cons (Rep.mono e d _ a) (RepF.mono e ds _ b)
end
theorem Rep.up {d : D} {v : V} (h : Rep K F v d) (e : Same F F') : Rep K F' v d := Rep.mono e d v h
theorem RepA.up {d : List D} {v : List V} (h : RepA K F v d) (e : Same F F') : RepA K F' v d := RepA.mono e d v h
theorem RepK.up {d : List (Key × D)} {v : List (Key × V)} (h : RepK K F v d) (e : Same F F') : RepK K F' v d := RepK.mono e d v h
theorem RepF.up {d : List (Str × D)} {v : List (Str × V)} (h : RepF K F v d) (e : Same F F') : RepF K F' v d := RepF.mono e d v h

theorem RepA.length : ∀ {vs : List V} {ds : List D}, RepA K F vs ds → vs.length = ds.length
  | _, _, .nil => rfl
  | _, _, .cons _ t => by rw [List.length_cons, List.length_cons, RepA.length t]
theorem RepA.get : ∀ {vs : List V} {ds : List D} {i : Nat} {d : D}, RepA K F vs ds → ds[i]? = some d → ∃ v, vs[i]? = some v ∧ Rep K F v d
  | _, _, _, _, .nil, e => by simp at e
  | _, _, 0, _, .cons r _, e => by simp at e; subst e; exact ⟨_, rfl, r⟩
  | _, _, i + 1, d, .cons _ t, e => by
    obtain ⟨u, h1, h2⟩ := RepA.get (i := i) (d := d) t (by simpa using e)
    exact ⟨u, by simpa using h1, h2⟩
theorem RepA.getV : ∀ {vs : List V} {ds : List D} {i : Nat} {v : V}, RepA K F vs ds → vs[i]? = some v → ∃ d, ds[i]? = some d ∧ Rep K F v d
  | _, _, _, _, .nil, e => by simp at e
  | _, _, 0, _, .cons r _, e => by simp at e; subst e; exact ⟨_, rfl, r⟩
  | _, _, i + 1, d, .cons _ t, e => by
    obtain ⟨u, h1, h2⟩ := RepA.getV (i := i) (v := d) t (by simpa using e)
    exact ⟨u, by simpa using h1, h2⟩
theorem RepA.append : ∀ {xs ys : List V} {us ws : List D}, RepA K F xs us → RepA K F ys ws → RepA K F (xs ++ ys) (us ++ ws)
  | _, _, _, _, .nil, s => s
  | _, _, _, _, .cons r t, s => .cons r (RepA.append t s)
theorem RepA.take : ∀ {xs : List V} {us : List D} (n : Nat), RepA K F xs us → RepA K F (xs.take n) (us.take n)
  | _, _, 0, _ => .nil
  | _, _, _ + 1, .nil => .nil
  | _, _, n + 1, .cons r t => .cons r (RepA.take n t)
theorem RepA.drop : ∀ {xs : List V} {us : List D} (n : Nat), RepA K F xs us → RepA K F (xs.drop n) (us.drop n)
  | _, _, 0, r => r
  | _, _, _ + 1, .nil => .nil
  | _, _, n + 1, .cons _ t => RepA.drop n t
theorem RepA.set {x : V} {u : D} (r : Rep K F x u) : ∀ {xs : List V} {us : List D} (i : Nat), RepA K F xs us → RepA K F (xs.set i x) (us.set i u)
  | _, _, _, .nil => .nil
  | _, _, 0, .cons _ t => .cons r t
  | _, _, i + 1, .cons q t => .cons q (RepA.set r i t)
theorem RepA.reverse : ∀ {xs : List V} {us : List D}, RepA K F xs us → RepA K F xs.reverse us.reverse
  | _, _, .nil => .nil
  | _, _, .cons r t => by rw [List.reverse_cons, List.reverse_cons]; exact RepA.append (RepA.reverse t) (.cons r .nil)
theorem RepA.dropLast : ∀ {xs : List V} {us : List D}, RepA K F xs us → RepA K F xs.dropLast us.dropLast
  | _, _, .nil => .nil
  | _, _, .cons _ .nil => .nil
  | _, _, .cons r (.cons q t) => by
    rw [List.dropLast_cons_cons, List.dropLast_cons_cons]
    exact .cons r (RepA.dropLast (.cons q t))
theorem RepA.eraseIdx : ∀ {xs : List V} {us : List D} (n : Nat), RepA K F xs us → RepA K F (xs.eraseIdx n) (us.eraseIdx n)
  | _, _, _, .nil => .nil
  | _, _, 0, .cons _ t => t
  | _, _, n + 1, .cons r t => .cons r (RepA.eraseIdx n t)
theorem RepA.rep {xs : List V} {us : List D} (h : RepA K F xs us) : ∀ k : Nat, RepA K F (List.replicate k xs).flatten (List.replicate k us).flatten
  | 0 => .nil
  | k + 1 => by rw [List.replicate_succ, List.replicate_succ, List.flatten_cons, List.flatten_cons]; exact RepA.append h (RepA.rep h k)
theorem RepA.ints : ∀ {xs : List V} {ns : List Int}, RepA K F xs (ns.map D.int) → xs = ns.map V.int
  | _, [], h => by cases h; rfl
  | _, n :: ns, h => by cases h with | cons a b => cases a; rw [RepA.ints b]; rfl
theorem RepA.of_ints : ∀ (ns : List Int), RepA K F (ns.map V.int) (ns.map D.int)
  | [] => .nil
  | n :: ns => .cons (.int n) (RepA.of_ints ns)
theorem RepA.bls : ∀ {xs : List V} {ns : List Bool}, RepA K F xs (ns.map D.bl) → xs = ns.map V.bl
  | _, [], h => by cases h; rfl
  | _, n :: ns, h => by cases h with | cons a b => cases a; rw [RepA.bls b]; rfl
theorem RepA.strs : ∀ {xs : List V} {ns : List Str}, RepA K F xs (ns.map D.str) → xs = ns.map V.str
  | _, [], h => by cases h; rfl
  | _, n :: ns, h => by cases h with | cons a b => cases a; rw [RepA.strs b]; rfl
end

/-! ### owned objects -/
inductive OD where
  | lst (ds : List D) | dic (kvs : List (Key × D)) | ins (C : Addr) (fs : List (Str × D))
abbrev Oh := Addr → Option OD
def oupd (O : Oh) (a : Addr) (o : OD) : Oh := fun b => if b = a then some o else O b
def odel (O : Oh) (a : Addr) : Oh := fun b => if b = a then none else O b
theorem oupd_same {O : Oh} {a : Addr} {o : OD} : oupd O a o a = some o := by unfold oupd; rw [if_pos rfl]
theorem oupd_ne {O : Oh} {a b : Addr} {o : OD} (h : b ≠ a) : oupd O a o b = O b := by unfold oupd; rw [if_neg h]
theorem oupd_oupd {O : Oh} {a : Addr} {o u : OD} : oupd (oupd O a o) a u = oupd O a u := by
  funext b; unfold oupd; split <;> rfl
theorem odel_oupd {O : Oh} {a : Addr} {o : OD} (h : O a = none) : odel (oupd O a o) a = O := by
  funext b; unfold odel oupd; split
  · rename_i e; subst e; exact h.symm
  · rfl

inductive RepO (K : PySem.W.Frag) (F : Hp) : HO → OD → Prop
  | lst {xs : List V} {ds : List D} : xs.length ≤ sizeLine → RepA K F xs ds → RepO K F (.lst xs) (.lst ds)
  | dic {xs : List (Key × V)} {ds : List (Key × D)} : RepK K F xs ds → RepO K F (.dK xs) (.dic ds)
  | ins {C dx : Addr} {xs : List (Str × V)} {ds : List (Str × D)} : RepF K F xs ds → RepO K F (.ins C dx xs) (.ins C ds)
theorem RepO.up {K : PySem.W.Frag} {F F' : Hp} {o : HO} {d : OD} (h : RepO K F o d) (e : Same F F') : RepO K F' o d := by
  cases h with
  | lst a b => exact .lst a (b.up e)
  | dic b => exact .dic (b.up e)
  | ins b => exact .ins (b.up e)

/-- the heap H holds the frozen part F and the owned objects O -/
structure Rl (K : PySem.W.Frag) (F : Hp) (O : Oh) (H : Hp) : Prop where
  same : Same F H
  own : ∀ a o, O a = some o → F a = none ∧ ∃ u, H a = some u ∧ RepO K F u o

section
variable {K : PySem.W.Frag} {F F' H : Hp} {O : Oh}
theorem Rl.freeF (r : Rl K F O H) {p : Addr} (h : H p = none) : F p = none := r.same.free h
theorem Rl.freeO (r : Rl K F O H) {p : Addr} (h : H p = none) : O p = none := by
  cases q : O p with
  | none => rfl
  | some o =>
    obtain ⟨_, u, e, _⟩ := r.own p o q
    rw [h] at e; cases e
theorem same_upd {F : Hp} {p : Addr} {o : HO} (h : F p = none) : Same F (upd F p o) := fun b u e => by
  rw [upd_ne (ne_of_none e h)]; exact e
/-- a new frozen object -/
theorem Rl.laid (r : Rl K F O H) {p : Addr} {o : HO} (h : H p = none) : Rl K (upd F p o) O (upd H p o) where
  same := fun b u e => by
    by_cases q : b = p
    · subst q; rw [upd_same] at e ⊢; exact e
    · rw [upd_ne q] at e ⊢; exact r.same _ _ e
  own := fun a od e => by
    obtain ⟨f, u, hu, ru⟩ := r.own a od e
    have q : a ≠ p := ne_of_none hu h
    exact ⟨by rw [upd_ne q]; exact f, u, by rw [upd_ne q]; exact hu, ru.up (same_upd (r.freeF h))⟩
/-- a new owned object -/
theorem Rl.mine (r : Rl K F O H) {p : Addr} {o : HO} {od : OD} (h : H p = none) (ho : RepO K F o od) : Rl K F (oupd O p od) (upd H p o) where
  same := fun b u e => by
    rw [upd_ne (ne_of_none (r.same _ _ e) h)]; exact r.same _ _ e
  own := fun a od' e => by
    by_cases q : a = p
    · subst q; rw [oupd_same] at e; cases e
      exact ⟨r.freeF h, o, upd_same, ho⟩
    · rw [oupd_ne q] at e
      obtain ⟨f, u, hu, ru⟩ := r.own a od' e
      exact ⟨f, u, by rw [upd_ne q]; exact hu, ru⟩
/-- an owned object is written -/
theorem Rl.write (r : Rl K F O H) {p : Addr} {o : HO} {od od' : OD} (h : O p = some od) (ho : RepO K F o od') : Rl K F (oupd O p od') (upd H p o) where
  same := fun b u e => by
    have q : b ≠ p := ne_of_none e (r.own p od h).1
    rw [upd_ne q]; exact r.same _ _ e
  own := fun a od2 e => by
    by_cases q : a = p
    · subst q; rw [oupd_same] at e; cases e
      exact ⟨(r.own a od h).1, o, upd_same, ho⟩
    · rw [oupd_ne q] at e
      obtain ⟨f, u, hu, ru⟩ := r.own a od2 e
      exact ⟨f, u, by rw [upd_ne q]; exact hu, ru⟩
/-- objects that are not tracked any more -/
theorem Rl.sub (r : Rl K F O H) {O' : Oh} (h : ∀ a o, O' a = some o → O a = some o) : Rl K F O' H := ⟨r.same, fun a o e => r.own a o (h a o e)⟩
/-- an owned list is frozen -/
theorem Rl.freeze (r : Rl K F O H) {p : Addr} {od : OD} (h : O p = some od) : ∃ u, H p = some u ∧ F p = none ∧ RepO K F u od ∧ Rl K (upd F p u) (odel O p) H := by
  obtain ⟨f, u, hu, ru⟩ := r.own p od h
  refine ⟨u, hu, f, ru, fun b v e => ?_, fun a o e => ?_⟩
  · by_cases q : b = p
    · subst q; rw [upd_same] at e; cases e; exact hu
    · rw [upd_ne q] at e; exact r.same _ _ e
  · unfold odel at e
    by_cases q : a = p
    · rw [if_pos q] at e; cases e
    · rw [if_neg q] at e
      obtain ⟨f2, u2, hu2, ru2⟩ := r.own a o e
      exact ⟨by rw [upd_ne q]; exact f2, u2, hu2, ru2.up (same_upd f)⟩
end

/-! ### slots -/
abbrev DEnv := List (Option D)
structure RepS (K : PySem.W.Frag) (F : Hp) (σ : L2.St) (δ : DEnv) : Prop where
  len : σ.length = δ.length
  get : ∀ (i : Nat) (d : D), δ[i]? = some (some d) → ∃ v, σ[i]? = some (some v) ∧ Rep K F v d
section
variable {K : PySem.W.Frag} {F F' H : Hp} {σ : L2.St} {δ : DEnv}
theorem RepS.up (r : RepS K F σ δ) (e : Same F F') : RepS K F' σ δ := ⟨r.len, fun i d h => let ⟨v, a, b⟩ := r.get i d h; ⟨v, a, b.up e⟩⟩
theorem RepS.set (r : RepS K F σ δ) {v : V} {d : D} (h : Rep K F v d) (i : Nat) : RepS K F (σ.set i (some v)) (δ.set i (some d)) where
  len := by rw [List.length_set, List.length_set]; exact r.len
  get := fun j e q => by
    by_cases hj : i = j
    · subst hj
      by_cases hl : i < δ.length
      · rw [List.getElem?_set_self hl] at q
        cases q
        exact ⟨v, List.getElem?_set_self (by rw [r.len]; exact hl), h⟩
      · rw [List.getElem?_eq_none_iff.mpr (by rw [List.length_set]; omega)] at q
        cases q
    · rw [List.getElem?_set_ne hj] at q ⊢
      exact r.get j e q
theorem RepS.wipe (r : RepS K F σ δ) (i : Nat) : RepS K F (σ.set i none) (δ.set i none) where
  len := by rw [List.length_set, List.length_set]; exact r.len
  get := fun j e q => by
    by_cases hj : i = j
    · subst hj
      by_cases hl : i < δ.length
      · rw [List.getElem?_set_self hl] at q
        cases q
      · rw [List.getElem?_eq_none_iff.mpr (by rw [List.length_set]; omega)] at q
        cases q
    · rw [List.getElem?_set_ne hj] at q ⊢
      exact r.get j e q
end

/-! ### readings over data -/
abbrev DK := D → Oh → Prop
/-- what is wanted of an exception: its class, its fields, the owned objects -/
abbrev EK := Value → List (Str × D) → Oh → Prop
abbrev Xd := DEnv → EK
abbrev GE := Xd → DEnv → Oh → DK → Prop
abbrev GT := Xd → DEnv → Oh → (Bool → Oh → Prop) → Prop
abbrev GA := Xd → DEnv → Oh → (List D → Oh → Prop) → Prop
structure DEnds where
  nx : DEnv → Oh → Prop
  rt : DK
  bk : DEnv → Oh → Prop := fun _ _ => False
  ct : DEnv → Oh → Prop := fun _ _ => False
abbrev GS := Xd → DEnv → Oh → DEnds → Prop

def XRep (K : PySem.W.Frag) (F : Hp) : Option Addr → List (Str × D) → Prop
  | some a, fs => ∃ xs, F a = some (.xd xs) ∧ RepF K F xs fs
  | none, fs => fs = []
theorem XRep.up {K : PySem.W.Frag} {F F' : Hp} {od : Option Addr} {fs : List (Str × D)} (h : XRep K F od fs) (e : Same F F') : XRep K F' od fs := by
  cases od with
  | none => exact h
  | some a => obtain ⟨xs, a, b⟩ := h; exact ⟨xs, e _ _ a, b.up e⟩
def XOk (K : PySem.W.Frag) (W : WX) (F : Hp) (x : Xd) : Prop := ∀ δ c fs O, x δ c fs O → ∀ σ od F' H', Same F F' → Rl K F' O H' → RepS K F' σ δ → XRep K F' od fs → W c od σ H'
theorem XOk.up {K : PySem.W.Frag} {W : WX} {F F' : Hp} {x : Xd} (h : XOk K W F x) (e : Same F F') : XOk K W F' x := fun δ c fs O a σ od F2 H2 b => h δ c fs O a σ od F2 H2 (e.trans b)
def VOk (K : PySem.W.Frag) (F : Hp) (k : DK) (Q : VK) : Prop := ∀ d O, k d O → ∀ v F' H', Same F F' → Rl K F' O H' → Rep K F' v d → Q v H'
theorem VOk.up {K : PySem.W.Frag} {F F' : Hp} {k : DK} {Q : VK} (h : VOk K F k Q) (e : Same F F') : VOk K F' k Q := fun d O a v F2 H2 b => h d O a v F2 H2 (e.trans b)
def NOk (K : PySem.W.Frag) (F : Hp) (k : DEnv → Oh → Prop) (Q : L2.St → Hp → Prop) : Prop := ∀ δ O, k δ O → ∀ σ F' H', Same F F' → Rl K F' O H' → RepS K F' σ δ → Q σ H'
theorem NOk.up {K : PySem.W.Frag} {F F' : Hp} {k : DEnv → Oh → Prop} {Q : L2.St → Hp → Prop} (h : NOk K F k Q) (e : Same F F') : NOk K F' k Q := fun d O a v F2 H2 b => h d O a v F2 H2 (e.trans b)
structure EOk (K : PySem.W.Frag) (F : Hp) (E : DEnds) (D : L2.Ends) : Prop where
  nx : NOk K F E.nx D.nx
  rt : VOk K F E.rt D.rt
  bk : NOk K F E.bk D.bk
  ct : NOk K F E.ct D.ct
theorem EOk.up {K : PySem.W.Frag} {F F' : Hp} {E : DEnds} {D : L2.Ends} (h : EOk K F E D) (e : Same F F') : EOk K F' E D := ⟨h.nx.up e, h.rt.up e, h.bk.up e, h.ct.up e⟩

def tD (K : PySem.W.Frag) (W : WX) (g : GE) : TE := fun σ H Q => ∃ F O δ x k, XOk K W F x ∧ Rl K F O H ∧ RepS K F σ δ ∧ g x δ O k ∧ VOk K F k Q
def tDT (K : PySem.W.Frag) (W : WX) (g : GT) : TT := fun σ H Q => ∃ F O δ x k, XOk K W F x ∧ Rl K F O H ∧ RepS K F σ δ ∧ g x δ O k ∧
  ∀ b O', k b O' → ∀ F' H', Same F F' → Rl K F' O' H' → Q b H'
def tDA (K : PySem.W.Frag) (W : WX) (g : GA) : TA := fun σ H Q => ∃ F O δ x k, XOk K W F x ∧ Rl K F O H ∧ RepS K F σ δ ∧ g x δ O k ∧
  ∀ ds O', k ds O' → ∀ vs F' H', Same F F' → Rl K F' O' H' → RepA K F' vs ds → Q vs H'
def tDS (K : PySem.W.Frag) (W : WX) (g : GS) : TS := fun D σ H => ∃ F O δ x E, XOk K W F x ∧ Rl K F O H ∧ RepS K F σ δ ∧ g x δ O E ∧ EOk K F E D

abbrev DE (X : Cx) (W : WX) (e : Expr) (g : GE) : Prop := PE X e (tD X.K W g)
abbrev DT (X : Cx) (W : WX) (e : Expr) (g : GT) : Prop := PT X e (tDT X.K W g)
abbrev DA (X : Cx) (W : WX) (e : List Expr) (g : GA) : Prop := PA X e (tDA X.K W g)
abbrev DS (X : Cx) (W : WX) (e : Stmt) (g : GS) : Prop := PS X e (tDS X.K W g)
abbrev DB (X : Cx) (W : WX) (e : List Stmt) (g : GS) : Prop := PSs X e (tDS X.K W g)

theorem pe_weak {X : Cx} {e : Expr} {t t' : TE} (h : PE X e t) (w : ∀ σ H Q, t' σ H Q → t σ H Q) : PE X e t' := ⟨fun pins s σ H Q I q => h.run pins s σ H Q I (w σ H Q q)⟩
theorem pt_weak {X : Cx} {e : Expr} {t t' : TT} (h : PT X e t) (w : ∀ σ H Q, t' σ H Q → t σ H Q) : PT X e t' := ⟨fun pins s σ H Q I q => h.run pins s σ H Q I (w σ H Q q)⟩
theorem pa_weak {X : Cx} {e : List Expr} {t t' : TA} (h : PA X e t) (w : ∀ σ H Q, t' σ H Q → t σ H Q) : PA X e t' := ⟨fun pos pins s σ H Q I q => h.run pos pins s σ H Q I (w σ H Q q)⟩
theorem ps_weak {X : Cx} {e : Stmt} {t t' : TS} (h : PS X e t) (w : ∀ D σ H, t' D σ H → t D σ H) : PS X e t' := ⟨fun pins s σ H D I q => h.run pins s σ H D I (w D σ H q)⟩
theorem pss_weak {X : Cx} {e : List Stmt} {t t' : TS} (h : PSs X e t) (w : ∀ D σ H, t' D σ H → t D σ H) : PSs X e t' := ⟨fun pins s σ H D I q => h.run pins s σ H D I (w D σ H q)⟩

end DW

set_option Elab.async false
set_option linter.all false
set_option maxRecDepth 100000
set_option maxHeartbeats 2000000
namespace DW
open PySem L2

/-! ### what a datum is, by the owned objects -/
def asL (O : Oh) : D → Option (List D)
  | .lst ds => some ds
  | .ref a => match O a with
    | some (.lst ds) => some ds
    | _ => none
  | _ => none
def asQ (O : Oh) : D → Option (List D)
  | .lst ds => some ds
  | .tup ds => some ds
  | .scr ns => some (ns.map D.int)
  | .ref a => match O a with
    | some (.lst ds) => some ds
    | _ => none
  | _ => none
section
variable {K : PySem.W.Frag} {F H : Hp} {O : Oh} {v : V} {d : D} {ds : List D}
theorem rep_asL (r : Rl K F O H) (h : Rep K F v d) (e : asL O d = some ds) : ∃ a xs, v = .ref a ∧ H a = some (.lst xs) ∧ xs.length ≤ sizeLine ∧ RepA K F xs ds := by
  cases h with
  | lst a b c => simp only [asL, Option.some.injEq] at e; subst e; exact ⟨_, _, rfl, r.same _ _ a, b, c⟩
  | ref a =>
    unfold asL at e
    simp only at e
    split at e
    · rename_i ds' q
      cases e
      obtain ⟨_, u, hu, ru⟩ := r.own a _ q
      cases ru with
      | lst l m => exact ⟨a, _, rfl, hu, l, m⟩
    · cases e
  | _ => simp [asL] at e
theorem rep_asQ (r : Rl K F O H) (h : Rep K F v d) (e : asQ O d = some ds) : ∃ a xs, v = .ref a ∧ (SqL K H a xs ∨ SqT K H a xs) ∧ xs.length ≤ sizeLine ∧ RepA K F xs ds := by
  cases h with
  | lst a b c => simp only [asQ, Option.some.injEq] at e; subst e; exact ⟨_, _, rfl, .inl (SqL.of (r.same _ _ a)), b, c⟩
  | tup a b c => simp only [asQ, Option.some.injEq] at e; subst e; exact ⟨_, _, rfl, .inr (Same.tuq r.same a), b, c⟩
  | scr a b => simp only [asQ, Option.some.injEq] at e; subst e; exact ⟨_, _, rfl, .inl (r.same.seq a), by rw [List.length_map]; exact b, RepA.of_ints _⟩
  | ref a =>
    unfold asQ at e
    simp only at e
    split at e
    · rename_i ds' q
      cases e
      obtain ⟨_, u, hu, ru⟩ := r.own a _ q
      cases ru with
      | lst l m => exact ⟨a, _, rfl, .inl (SqL.of hu), l, m⟩
    · cases e
  | _ => simp [asQ] at e
end

/-! ### plain data: ==, repr -/
mutual
def toPy : D → PyData
  | .bl b => .bool b
  | .int i => .int i
  | .str x => .str x
  | .lst ds => .list (toPys ds)
  | .tup ds => .tuple (toPys ds)
  | _ => .none
def toPys : List D → List PyData
  | [] => []
  | d :: ds => toPy d :: toPys ds
end
def plain : Nat → D → Bool
  | _, .non => true
  | _, .bl _ => true
  | _, .int _ => true
  | _, .str _ => true
  | n + 1, .lst ds => ds.all (plain n)
  | n + 1, .tup ds => ds.all (plain n)
  | _, _ => false
mutual
def eqD : D → D → Bool
  | .non, .non => true
  | .bl a, .bl b => a == b
  | .bl a, .int j => (if a then 1 else 0) == j
  | .int i, .bl b => i == (if b then 1 else 0)
  | .int i, .int j => decide (i = j)
  | .str x, .str y => decide (x = y)
  | .lst xs, .lst ys => eqDs xs ys
  | .tup xs, .tup ys => eqDs xs ys
  | _, _ => false
def eqDs : List D → List D → Bool
  | [], [] => true
  | x :: xs, y :: ys => eqD x y && eqDs xs ys
  | _, _ => false
end
mutual
theorem eqv_toPy : ∀ (n m : Nat) (a b : D), plain n a = true → plain m b = true → PyData.eqv (toPy a) (toPy b) = eqD a b := by
  intro n m a b ha hb
  cases a with
  | lst xs =>
    cases n with
    | zero => simp [plain] at ha
    | succ n =>
      cases b with
      | lst ys =>
        cases m with
        | zero => simp [plain] at hb
        | succ m =>
          simp only [toPy, PyData.eqv, eqD]
          exact eqv_toPys n m xs ys (by simpa [plain] using ha) (by simpa [plain] using hb)
      | _ => cases m <;> simp_all [toPy, PyData.eqv, eqD, plain]
  | tup xs =>
    cases n with
    | zero => simp [plain] at ha
    | succ n =>
      cases b with
      | tup ys =>
        cases m with
        | zero => simp [plain] at hb
        | succ m =>
          simp only [toPy, PyData.eqv, eqD]
          exact eqv_toPys n m xs ys (by simpa [plain] using ha) (by simpa [plain] using hb)
      | _ => cases m <;> simp_all [toPy, PyData.eqv, eqD, plain]
  | non => cases b <;> cases m <;> simp_all [toPy, PyData.eqv, eqD, plain]
  | bl x => cases b <;> cases m <;> simp_all [toPy, PyData.eqv, eqD, plain]
  | int x => cases b <;> cases m <;> simp_all [toPy, PyData.eqv, eqD, plain, Bool.beq_eq_decide_eq]
  | str x => cases b <;> cases m <;> simp_all [toPy, PyData.eqv, eqD, plain, Bool.beq_eq_decide_eq]
  | _ => cases n <;> simp [plain] at ha
theorem eqv_toPys : ∀ (n m : Nat) (xs ys : List D), (∀ x ∈ xs, plain n x = true) → (∀ y ∈ ys, plain m y = true) → PyData.eqvAll (toPys xs) (toPys ys) = eqDs xs ys := by
  intro n m xs ys ha hb
  cases xs with
  | nil => cases ys <;> simp [toPys, PyData.eqvAll, eqDs]
  | cons x xs =>
    cases ys with
    | nil => simp [toPys, PyData.eqvAll, eqDs]
    | cons y ys =>
      simp only [toPys, PyData.eqvAll, eqDs]
      rw [eqv_toPy n m x y (ha x (by simp)) (hb y (by simp)), eqv_toPys n m xs ys (fun z hz => ha z (by simp [hz])) (fun z hz => hb z (by simp [hz]))]
end
section
variable {K : PySem.W.Frag} {F : Hp}
mutual
theorem plain_dp : ∀ (n : Nat) (d : D) (v : V), plain n d = true → Rep K F v d → Dp K F v (toPy d) ∧ (toPy d).canLay0 = true ∧ (toPy d).depth ≤ n := by
  intro n d v hp h
  cases h with
  | non => exact ⟨by simp only [toPy]; exact .non, by simp [toPy, PyData.canLay0], by simp [toPy, PyData.depth]⟩
  | bl b => exact ⟨by simp only [toPy]; exact .bl b, by simp [toPy, PyData.canLay0], by simp [toPy, PyData.depth]⟩
  | int b => exact ⟨by simp only [toPy]; exact .int b, by simp [toPy, PyData.canLay0], by simp [toPy, PyData.depth]⟩
  | str b l o => exact ⟨by simp only [toPy]; exact .str b, by simp [toPy, PyData.canLay0, o], by simp [toPy, PyData.depth]⟩
  | ty b => cases n <;> simp [plain] at hp
  | ref b => cases n <;> simp [plain] at hp
  | dic _ _ => cases n <;> simp [plain] at hp
  | ins _ _ => cases n <;> simp [plain] at hp
  | scr _ _ => cases n <;> simp [plain] at hp
  | @lst a xs ds ha hl hr =>
    cases n with
    | zero => simp [plain] at hp
    | succ n =>
      obtain ⟨p, q, r⟩ := plain_dps n ds xs (by simpa [plain] using hp) hr
      exact ⟨by simp only [toPy]; exact .lst (SqL.of ha) p, by simp only [toPy, PyData.canLay0]; exact q, by simp only [toPy, PyData.depth]; omega⟩
  | @tup a xs ds ha hl hr =>
    cases n with
    | zero => simp [plain] at hp
    | succ n =>
      obtain ⟨p, q, r⟩ := plain_dps n ds xs (by simpa [plain] using hp) hr
      exact ⟨by simp only [toPy]; exact .tup ha p, by simp only [toPy, PyData.canLay0]; exact q, by simp only [toPy, PyData.depth]; omega⟩
theorem plain_dps : ∀ (n : Nat) (ds : List D) (vs : List V), (∀ d ∈ ds, plain n d = true) → RepA K F vs ds → DpAll K F vs (toPys ds) ∧ PyData.canLayAll0 (toPys ds) = true ∧ PyData.depthAll (toPys ds) ≤ n := by
  intro n ds vs hp h
  cases h with
  | nil => exact ⟨by simp only [toPys]; exact .nil, by simp [toPys, PyData.canLayAll0], by simp [toPys, PyData.depthAll]⟩
  | @cons v d vs ds h1 h2 =>
    obtain ⟨a1, a2, a3⟩ := plain_dp n d v (hp d (by simp)) h1
    obtain ⟨b1, b2, b3⟩ := plain_dps n ds vs (fun z hz => hp z (by simp [hz])) h2
    exact ⟨by simp only [toPys]; exact .cons a1 b1, by simp [toPys, PyData.canLayAll0, a2, b2], by simp only [toPys, PyData.depthAll]; omega⟩
end
end
theorem Dp.mono' {K : PySem.W.Frag} {F H : Hp} (e : Same F H) : ∀ {d : PyData} {v : V}, Dp K F v d → Dp K H v d := by
  intro d v h
  induction h using Dp.rec (motive_2 := fun vs ds _ => DpAll K H vs ds) with
  | non => exact .non
  | bl b => exact .bl b
  | int b => exact .int b
  | str b => exact .str b
  | lst a b c => exact .lst (e.seq a) c
  | tup a b c => exact .tup (Same.tuq e a) c
  | nil => exact .nil
  | cons a b c d => exact .cons c d
/-- the datum itself, an owned list read -/
def res (O : Oh) : D → D
  | .ref a => match O a with
    | some (.lst ds) => .lst ds
    | _ => .ref a
  | d => d
theorem res_dp {K : PySem.W.Frag} {F H : Hp} {O : Oh} {v : V} {d : D} (r : Rl K F O H) (h : Rep K F v d) (p : plain 64 (res O d) = true) : Dp K H v (toPy (res O d)) ∧ SeqAt.shaped (toPy (res O d)) = true := by
  have fin : ∀ {G : Hp} {e : D}, Same G H → plain 64 e = true → Rep K G v e → Dp K H v (toPy e) ∧ SeqAt.shaped (toPy e) = true := fun {G e} s q z => by
    obtain ⟨a, b, c⟩ := plain_dp 64 e v q z
    exact ⟨Dp.mono' s a, by unfold SeqAt.shaped; rw [b, decide_eq_true c]; rfl⟩
  cases h with
  | ref a =>
    unfold res at p ⊢
    simp only at p ⊢
    cases q : O a with
    | none => rw [q] at p; simp [plain] at p
    | some o =>
      rw [q] at p
      cases o with
      | lst ds =>
        obtain ⟨f, u, hu, ru⟩ := r.own a _ q
        cases ru with
        | lst l m =>
          refine fin (G := upd F a _) (fun b o e => ?_) p (Rep.lst upd_same l (m.up (same_upd f)))
          by_cases z : b = a
          · subst z; rw [upd_same] at e; cases e; exact hu
          · rw [upd_ne z] at e; exact r.same _ _ e
      | _ => simp [plain] at p
  | non => exact fin r.same p .non
  | bl b => exact fin r.same p (.bl b)
  | int b => exact fin r.same p (.int b)
  | str b l o => exact fin r.same p (.str b l o)
  | ty b => exact fin r.same p (.ty b)
  | dic a b => exact fin r.same p (.dic a b)
  | ins a b => exact fin r.same p (.ins a b)
  | scr a b => exact fin r.same p (.scr a b)
  | lst a b c => exact fin r.same p (.lst a b c)
  | tup a b c => exact fin r.same p (.tup a b c)
end DW

set_option Elab.async false
set_option linter.all false
set_option maxRecDepth 100000
set_option maxHeartbeats 2000000
namespace DW
open PySem L2

/-! ### names, constants -/
def gVar (i : Nat) : GE := fun _ δ O k => ∃ d, δ[i]? = some (some d) ∧ k d O
def gC (d : D) : GE := fun _ _ O k => k d O
section
variable {X : Cx} {W : WX}
theorem de_var {e : Expr} {i : Nat} (h : PE X e (tVar i)) : DE X W e (gVar i) := pe_weak h fun σ H Q ⟨F, O, δ, x, k, xo, rl, rs, ⟨d, hd, kd⟩, vk⟩ => by
  obtain ⟨v, hv, rv⟩ := rs.get i d hd
  exact ⟨v, hv, vk d O kd v F H (Same.refl F) rl rv⟩
theorem dv (i : Nat) {x : Str} {pos : Pos} (hN : X.N[i]? = some x := by rfl) (hv : Vis X.env.scope x := by first | exact Or.inl rfl | exact Or.inr (Or.inl rfl) | exact Or.inr (Or.inr rfl)) (hd : (x == ("__debug__" : Str)) = false := by decide)
    (hcd : (x == ("__classdict__" : Str)) = false := by decide) : DE X W (.Name x pos) (gVar i) := de_var (pv i hN hv hd hcd)
theorem de_con {e : Expr} {v : V} {d : D} (h : PE X e (tC v)) (r : ∀ F, Rep X.K F v d) : DE X W e (gC d) := pe_weak h fun σ H Q ⟨F, O, δ, x, k, xo, rl, rs, kd, vk⟩ =>
  vk d O kd v F H (Same.refl F) rl (r F)
theorem de_int {i : Int} {j : Nat} {pos : Pos} : DE X W (.Constant (.int i) j pos) (gC (.int i)) := de_con pe_int fun _ => .int i
theorem de_bl {b : Bool} {j : Nat} {pos : Pos} : DE X W (.Constant (.bool b) j pos) (gC (.bl b)) := de_con pe_bl fun _ => .bl b
theorem de_non {j : Nat} {pos : Pos} : DE X W (.Constant .none j pos) (gC .non) := de_con pe_non fun _ => .non
theorem de_str {x : Str} {j : Nat} {pos : Pos} (h1 : decide (x.length ≤ sizeLine) = true := by decide +kernel) (h2 : PyData.strOk x = true := by decide +kernel) : DE X W (.Constant (.str x) j pos) (gC (.str x)) := de_con pe_str fun _ => .str x (of_decide_eq_true h1) h2
theorem de_glob {x : Str} {v : V} {u : Value} {d : D} {pos : Pos} (hg : Gl X x) (hm : X.mg x = some u) (r : RelV v u) (rd : ∀ F, Rep X.K F v d) (hd : (x == ("__debug__" : Str)) = false := by decide) : DE X W (.Name x pos) (gC d) :=
  de_con (pe_glob hg hm r hd) rd
end

/-! ### two operands -/
abbrev G2 := D → D → Oh → DK → Prop
def gOp (γ : G2) (ga gb : GE) : GE := fun x δ O k => ga x δ O fun a O1 => gb x δ O1 fun b O2 => γ a b O2 k
def R2D (K : PySem.W.Frag) (r : R2) (γ : G2) : Prop := ∀ F O H x y a b k Q, Rl K F O H → Rep K F x a → Rep K F y b → γ a b O k → VOk K F k Q → r x y H Q
theorem op_weak {K : PySem.W.Frag} {W : WX} {r : R2} {γ : G2} {ga gb : GE} (h : R2D K r γ) {σ : L2.St} {H : Hp} {Q : VK} (t : tD K W (gOp γ ga gb) σ H Q) : tOp r (tD K W ga) (tD K W gb) σ H Q := by
  obtain ⟨F, O, δ, x, k, xo, rl, rs, g, vk⟩ := t
  exact ⟨F, O, δ, x, _, xo, rl, rs, g, fun a O1 g1 v F1 H1 e1 rl1 rv => ⟨F1, O1, δ, x, _, xo.up e1, rl1, rs.up e1, g1, fun b O2 g2 u F2 H2 e2 rl2 ru =>
    h F2 O2 H2 v u a b k Q rl2 (rv.up e2) ru g2 (vk.up (e1.trans e2))⟩⟩
abbrev G1 := D → Oh → DK → Prop
def gUn (γ : G1) (ga : GE) : GE := fun x δ O k => ga x δ O fun a O1 => γ a O1 k
def R1D (K : PySem.W.Frag) (r : V → Hp → VK → Prop) (γ : G1) : Prop := ∀ F O H x a k Q, Rl K F O H → Rep K F x a → γ a O k → VOk K F k Q → r x H Q
theorem un_weak {K : PySem.W.Frag} {W : WX} {r : V → Hp → VK → Prop} {γ : G1} {ga : GE} (h : R1D K r γ) {σ : L2.St} {H : Hp} {Q : VK} (t : tD K W (gUn γ ga) σ H Q) : tUn r (tD K W ga) σ H Q := by
  obtain ⟨F, O, δ, x, k, xo, rl, rs, g, vk⟩ := t
  exact ⟨F, O, δ, x, _, xo, rl, rs, g, fun a O1 g1 v F1 H1 e1 rl1 rv => h F1 O1 H1 v a k Q rl1 rv g1 (vk.up e1)⟩
def gTest (g : GE) : GT := fun x δ O k => g x δ O fun d O' => ∃ b, d = .bl b ∧ k b O'
theorem test_weak {K : PySem.W.Frag} {W : WX} {g : GE} {σ : L2.St} {H : Hp} {Q : Bool → Hp → Prop} (t : tDT K W (gTest g) σ H Q) : tD K W g σ H fun x H' => ∃ k, x = .bl k ∧ Q k H' := by
  obtain ⟨F, O, δ, x, k, xo, rl, rs, g, vk⟩ := t
  refine ⟨F, O, δ, x, _, xo, rl, rs, g, fun d O' ⟨b, e, kb⟩ v F' H' e1 rl1 rv => ?_⟩
  subst e
  cases rv
  exact ⟨b, rfl, vk b O' kb F' H' e1 rl1⟩
section
variable {X : Cx} {W : WX} {a b c : Expr} {ga gb gc : GE} {pos : Pos}
theorem de_bin {op : Operator} {r : R2} {γ : G2} (ho : OpR X (binaryOp op) r) (hd : R2D X.K r γ) (ha : DE X W a ga) (hb : DE X W b gb) : DE X W (.BinOp a op b pos) (gOp γ ga gb) := pe_weak (pe_op ho ha hb) fun _ _ _ t => op_weak hd t
theorem de_un1 {op : UnaryOp} {r : V → Hp → VK → Prop} {γ : G1} (ho : UnR X (unaryOp op) r) (hd : R1D X.K r γ) (ha : DE X W a ga) : DE X W (.UnaryOp op a pos) (gUn γ ga) := pe_weak (pe_un ho ha) fun _ _ _ t => un_weak hd t
theorem de_cmp {op : CmpOp} {r : R2} {γ : G2} (ho : OpR X (compareOp op) r) (hd : R2D X.K r γ) (ha : DE X W a ga) (hb : DE X W b gb) (hm : behindInMarks op b = false) : DE X W (.Compare a [op] [b] pos) (gOp γ ga gb) := pe_weak (pe_cmpR ho ha hb hm) fun _ _ _ t => op_weak hd t
theorem dt_cmp {op : CmpOp} {r : R2} {γ : G2} (ho : OpR X (compareOp op) r) (hd : R2D X.K r γ) (ha : DE X W a ga) (hb : DE X W b gb) (hm : behindInMarks op b = false) : DT X W (.Compare a [op] [b] pos) (gTest (gOp γ ga gb)) :=
  pt_weak (pt_cmpR ho ha hb hm) fun _ _ _ t => op_weak hd (test_weak t)
theorem dt_val {e : Expr} {g : GE} (h : DE X W e g) (he : ∀ whole, isTrue e X.env whole = (do let v ← whole; standAt e.pos; holding [v] (truthy v)) := by intro _; rfl) : DT X W e (gTest g) := pt_weak (pt_val h he) fun _ _ _ t => test_weak t
/-- a < b < c -/
def gChain (γ γ' : G2) (ga gb gc : GE) : GE := fun x δ O k => ga x δ O fun a O1 => gb x δ O1 fun b O2 => γ a b O2 fun z O3 => ∃ q, z = .bl q ∧ (if q = true then gc x δ O3 fun c O4 => γ' b c O4 k else k (.bl false) O3)
theorem chain_weak {K : PySem.W.Frag} {r r' : R2} {γ γ' : G2} (hd : R2D K r γ) (hd' : R2D K r' γ') {σ : L2.St} {H : Hp} {Q : VK} (t : tD K W (gChain γ γ' ga gb gc) σ H Q) : tChain r r' (tD K W ga) (tD K W gb) (tD K W gc) σ H Q := by
  obtain ⟨F, O, δ, x, k, xo, rl, rs, g, vk⟩ := t
  refine ⟨F, O, δ, x, _, xo, rl, rs, g, fun a O1 g1 v F1 H1 e1 rl1 rv => ⟨F1, O1, δ, x, _, xo.up e1, rl1, rs.up e1, g1, fun b O2 g2 u F2 H2 e2 rl2 ru => ?_⟩⟩
  refine hd F2 O2 H2 v u a b _ _ rl2 (rv.up e2) ru g2 fun z O3 ⟨q, ez, hz⟩ w F3 H3 e3 rl3 rw' => ?_
  subst ez
  cases rw'
  refine ⟨q, rfl, ?_⟩
  have e13 := (e1.trans e2).trans e3
  cases q with
  | true =>
    rw [if_pos rfl] at hz ⊢
    exact ⟨F3, O3, δ, x, _, xo.up e13, rl3, rs.up e13, hz, fun c O4 g4 w F4 H4 e4 rl4 rw4 => hd' F4 O4 H4 u w b c k Q rl4 ((ru.up e3).up e4) rw4 g4 (vk.up (e13.trans e4))⟩
  | false =>
    rw [if_neg (by decide)] at hz ⊢
    exact vk _ _ hz _ F3 H3 e13 rl3 (.bl false)
theorem de_chain {op op' : CmpOp} {r r' : R2} {γ γ' : G2} (ho : OpR X (compareOp op) r) (ho' : OpR X (compareOp op') r') (hd : R2D X.K r γ) (hd' : R2D X.K r' γ') (ha : DE X W a ga) (hb : DE X W b gb) (hc : DE X W c gc)
    (h1 : lastMarks [op, op'] [b, c] = false := by rfl) : DE X W (.Compare a [op, op'] [b, c] pos) (gChain γ γ' ga gb gc) := pe_weak (pe_chain ho ho' ha hb hc h1) fun _ _ _ t => chain_weak hd hd' t
theorem dt_chain {op op' : CmpOp} {r r' : R2} {γ γ' : G2} (ho : OpR X (compareOp op) r) (ho' : OpR X (compareOp op') r') (hd : R2D X.K r γ) (hd' : R2D X.K r' γ') (ha : DE X W a ga) (hb : DE X W b gb) (hc : DE X W c gc)
    (h1 : lastMarks [op, op'] [b, c] = false := by rfl) : DT X W (.Compare a [op, op'] [b, c] pos) (gTest (gChain γ γ' ga gb gc)) := pt_weak (pt_chain ho ho' ha hb hc h1) fun _ _ _ t => chain_weak hd hd' (test_weak t)
end

/-! ### and, or, not, if -/
def gAnd (g h : GT) : GT := fun x δ O k => g x δ O fun c O1 => if c = true then h x δ O1 k else k false O1
def gOr (g h : GT) : GT := fun x δ O k => g x δ O fun c O1 => if c = true then k true O1 else h x δ O1 k
def gNot (g : GT) : GT := fun x δ O k => g x δ O fun c O1 => k (!c) O1
def gIf (g : GT) (ga gb : GE) : GE := fun x δ O k => g x δ O fun c O1 => if c = true then ga x δ O1 k else gb x δ O1 k
def gAndV (ga gb : GE) : GE := fun x δ O k => ga x δ O fun a O1 => ∃ c, a = .bl c ∧ if c = true then gb x δ O1 k else k (.bl false) O1
def gOrV (ga gb : GE) : GE := fun x δ O k => ga x δ O fun a O1 => ∃ c, a = .bl c ∧ if c = true then k (.bl true) O1 else gb x δ O1 k
def gNotV (ga : GE) : GE := fun x δ O k => ga x δ O fun a O1 => ∃ c, a = .bl c ∧ k (.bl (!c)) O1
section
variable {X : Cx} {W : WX} {a b c : Expr} {ga gb gc : GE} {gt gu : GT} {pos : Pos} {rest : List Expr}
abbrev DW' (X : Cx) (W : WX) (e : Expr) (g : GT) : Prop := PW X e (tDT X.K W g)
theorem pw_weak {e : Expr} {t t' : TT} (h : PW X e t) (w : ∀ σ H Q, t' σ H Q → t σ H Q) : PW X e t' := ⟨fun wh pins s σ H Q I q => h.run wh pins s σ H Q I (w σ H Q q)⟩
theorem dw_and1 (h : DT X W a gt) : DW' X W (.BoolOp .And [a] pos) gt := pw_and1 h
theorem dw_or1 (h : DT X W a gt) : DW' X W (.BoolOp .Or [a] pos) gt := pw_or1 h
theorem dw_and (h : DT X W a gt) (h2 : DW' X W (.BoolOp .And (b :: rest) pos) gu) : DW' X W (.BoolOp .And (a :: b :: rest) pos) (gAnd gt gu) := pw_weak (pw_and h h2) fun σ H Q ⟨F, O, δ, x, k, xo, rl, rs, g, vk⟩ => by
  refine ⟨F, O, δ, x, _, xo, rl, rs, g, fun c O1 g1 F1 H1 e1 rl1 => ?_⟩
  cases c with
  | true =>
    rw [if_pos rfl] at g1 ⊢
    exact ⟨F1, O1, δ, x, k, xo.up e1, rl1, rs.up e1, g1, fun b O2 g2 F2 H2 e2 rl2 => vk b O2 g2 F2 H2 (e1.trans e2) rl2⟩
  | false =>
    rw [if_neg (by decide)] at g1 ⊢
    exact vk _ _ g1 F1 H1 e1 rl1
theorem dw_or (h : DT X W a gt) (h2 : DW' X W (.BoolOp .Or (b :: rest) pos) gu) : DW' X W (.BoolOp .Or (a :: b :: rest) pos) (gOr gt gu) := pw_weak (pw_or h h2) fun σ H Q ⟨F, O, δ, x, k, xo, rl, rs, g, vk⟩ => by
  refine ⟨F, O, δ, x, _, xo, rl, rs, g, fun c O1 g1 F1 H1 e1 rl1 => ?_⟩
  cases c with
  | false =>
    rw [if_neg (by decide)] at g1 ⊢
    exact ⟨F1, O1, δ, x, k, xo.up e1, rl1, rs.up e1, g1, fun b O2 g2 F2 H2 e2 rl2 => vk b O2 g2 F2 H2 (e1.trans e2) rl2⟩
  | true =>
    rw [if_pos rfl] at g1 ⊢
    exact vk _ _ g1 F1 H1 e1 rl1
theorem dt_not (h : DT X W a gt) : DT X W (.UnaryOp .Not a pos) (gNot gt) := pt_weak (pt_not h) fun σ H Q ⟨F, O, δ, x, k, xo, rl, rs, g, vk⟩ =>
  ⟨F, O, δ, x, _, xo, rl, rs, g, fun c O1 g1 F1 H1 e1 rl1 => vk _ _ g1 F1 H1 e1 rl1⟩
theorem de_if (h : DT X W c gt) (ha : DE X W a ga) (hb : DE X W b gb) : DE X W (.IfExp c a b pos) (gIf gt ga gb) := pe_weak (pe_ifExp h ha hb) fun σ H Q ⟨F, O, δ, x, k, xo, rl, rs, g, vk⟩ => by
  refine ⟨F, O, δ, x, _, xo, rl, rs, g, fun c O1 g1 F1 H1 e1 rl1 => ?_⟩
  cases c with
  | true =>
    rw [if_pos rfl] at g1 ⊢
    exact ⟨F1, O1, δ, x, k, xo.up e1, rl1, rs.up e1, g1, vk.up e1⟩
  | false =>
    rw [if_neg (by decide)] at g1 ⊢
    exact ⟨F1, O1, δ, x, k, xo.up e1, rl1, rs.up e1, g1, vk.up e1⟩
theorem de_one {op : BoolOp} (h : DE X W a ga) : DE X W (.BoolOp op [a] pos) ga := pe_one h
theorem de_and (ha : DE X W a ga) (hb : DE X W (.BoolOp .And (b :: rest) pos) gb) : DE X W (.BoolOp .And (a :: b :: rest) pos) (gAndV ga gb) := pe_weak (pe_and ha hb) fun σ H Q ⟨F, O, δ, x, k, xo, rl, rs, g, vk⟩ => by
  refine ⟨F, O, δ, x, _, xo, rl, rs, g, fun d O1 ⟨c, e, g1⟩ v F1 H1 e1 rl1 rv => ?_⟩
  subst e
  cases rv
  refine ⟨c, rfl, ?_⟩
  cases c with
  | true =>
    rw [if_pos rfl] at g1 ⊢
    exact ⟨F1, O1, δ, x, k, xo.up e1, rl1, rs.up e1, g1, vk.up e1⟩
  | false =>
    rw [if_neg (by decide)] at g1 ⊢
    exact vk _ _ g1 _ F1 H1 e1 rl1 (.bl false)
theorem de_or (ha : DE X W a ga) (hb : DE X W (.BoolOp .Or (b :: rest) pos) gb) : DE X W (.BoolOp .Or (a :: b :: rest) pos) (gOrV ga gb) := pe_weak (pe_or ha hb) fun σ H Q ⟨F, O, δ, x, k, xo, rl, rs, g, vk⟩ => by
  refine ⟨F, O, δ, x, _, xo, rl, rs, g, fun d O1 ⟨c, e, g1⟩ v F1 H1 e1 rl1 rv => ?_⟩
  subst e
  cases rv
  refine ⟨c, rfl, ?_⟩
  cases c with
  | false =>
    rw [if_neg (by decide)] at g1 ⊢
    exact ⟨F1, O1, δ, x, k, xo.up e1, rl1, rs.up e1, g1, vk.up e1⟩
  | true =>
    rw [if_pos rfl] at g1 ⊢
    exact vk _ _ g1 _ F1 H1 e1 rl1 (.bl true)
theorem de_not (ha : DE X W a ga) : DE X W (.UnaryOp .Not a pos) (gNotV ga) := pe_weak (pe_not ha) fun σ H Q ⟨F, O, δ, x, k, xo, rl, rs, g, vk⟩ => by
  refine ⟨F, O, δ, x, _, xo, rl, rs, g, fun d O1 ⟨c, e, g1⟩ v F1 H1 e1 rl1 rv => ?_⟩
  subst e
  cases rv
  exact ⟨c, rfl, vk _ _ g1 _ F1 H1 e1 rl1 (.bl _)⟩
end

/-! ### argument lists, displays, calls of built-ins -/
def gNil : GA := fun _ _ O k => k [] O
def gCons (ga : GE) (gr : GA) : GA := fun x δ O k => ga x δ O fun a O1 => gr x δ O1 fun as O2 => k (a :: as) O2
def gTup (g : GA) : GE := fun x δ O k => g x δ O fun ds O1 => ds.length ≤ sizeLine ∧ k (.tup ds) O1
def gLst (g : GA) : GE := fun x δ O k => g x δ O fun ds O1 => ds.length ≤ sizeLine ∧ k (.lst ds) O1
/-- an owned list -/
def gLstO (g : GA) : GE := fun x δ O k => g x δ O fun ds O1 => ds.length ≤ sizeLine ∧ ∀ p, O1 p = none → k (.ref p) (oupd O1 p (.lst ds))
def gCB (γ : List D → Oh → DK → Prop) (g : GA) : GE := fun x δ O k => g x δ O fun ds O1 => γ ds O1 k
def RcD (K : PySem.W.Frag) (r : List V → Hp → VK → Prop) (γ : List D → Oh → DK → Prop) : Prop := ∀ F O H xs ds k Q, Rl K F O H → RepA K F xs ds → γ ds O k → VOk K F k Q → r xs H Q
section
variable {X : Cx} {W : WX} {e : Expr} {es : List Expr} {ga : GE} {gr : GA} {pos : Pos}
theorem da_nil : DA X W [] gNil := pa_weak pa_nil fun σ H Q ⟨F, O, δ, x, k, xo, rl, rs, g, vk⟩ => vk [] O g [] F H (Same.refl F) rl .nil
theorem da_cons (ha : DE X W e ga) (hr : DA X W es gr) (hs : starEach (e :: es) X.env = (false, eval e X.env) :: starEach es X.env := by rfl) : DA X W (e :: es) (gCons ga gr) :=
  pa_weak (pa_cons ha hr hs) fun σ H Q ⟨F, O, δ, x, k, xo, rl, rs, g, vk⟩ =>
    ⟨F, O, δ, x, _, xo, rl, rs, g, fun a O1 g1 v F1 H1 e1 rl1 rv => ⟨F1, O1, δ, x, _, xo.up e1, rl1, rs.up e1, g1, fun as O2 g2 vs F2 H2 e2 rl2 rvs => vk (a :: as) O2 g2 (v :: vs) F2 H2 (e1.trans e2) rl2 (.cons (rv.up e2) rvs)⟩⟩
/-- behind the laying of a new frozen object -/
theorem VOk.laid {K : PySem.W.Frag} {F H : Hp} {O : Oh} {k : DK} {Q : VK} {d : D} {p : Addr} {o : HO} (vk : VOk K F k Q) (rl : Rl K F O H) (hp : H p = none) (kd : k d O) (r : Rep K (upd F p o) (.ref p) d) : Q (.ref p) (upd H p o) :=
  vk d O kd (.ref p) (upd F p o) (upd H p o) (same_upd (rl.freeF hp)) (rl.laid hp) r
theorem de_tup {j} (h : DA X W es gr) : DE X W (.Tuple es j pos) (gTup gr) := pe_weak (pe_tup h) fun σ H Q ⟨F, O, δ, x, k, xo, rl, rs, g, vk⟩ =>
  ⟨F, O, δ, x, _, xo, rl, rs, g, fun ds O1 ⟨hl, g1⟩ vs F1 H1 e1 rl1 rvs => ⟨by rw [rvs.length]; exact hl, fun p hp =>
    (vk.up e1).laid rl1 hp g1 (.tup (.inl (.inl upd_same)) (by rw [rvs.length]; exact hl) (rvs.up (same_upd (rl1.freeF hp))))⟩⟩
theorem de_lst (h : DA X W es gr) : DE X W (.List es pos) (gLst gr) := pe_weak (pe_lst h) fun σ H Q ⟨F, O, δ, x, k, xo, rl, rs, g, vk⟩ =>
  ⟨F, O, δ, x, _, xo, rl, rs, g, fun ds O1 ⟨hl, g1⟩ vs F1 H1 e1 rl1 rvs => ⟨by rw [rvs.length]; exact hl, fun p hp =>
    (vk.up e1).laid rl1 hp g1 (.lst upd_same (by rw [rvs.length]; exact hl) (rvs.up (same_upd (rl1.freeF hp))))⟩⟩
theorem de_lstO (h : DA X W es gr) : DE X W (.List es pos) (gLstO gr) := pe_weak (pe_lst h) fun σ H Q ⟨F, O, δ, x, k, xo, rl, rs, g, vk⟩ =>
  ⟨F, O, δ, x, _, xo, rl, rs, g, fun ds O1 ⟨hl, g1⟩ vs F1 H1 e1 rl1 rvs => ⟨by rw [rvs.length]; exact hl, fun p hp =>
    vk _ _ (g1 p (rl1.freeO hp)) _ F1 _ e1 (rl1.mine hp (.lst (by rw [rvs.length]; exact hl) rvs)) (.ref p)⟩⟩
theorem cb_weak {K : PySem.W.Frag} {r : List V → Hp → VK → Prop} {γ : List D → Oh → DK → Prop} (h : RcD K r γ) {σ : L2.St} {H : Hp} {Q : VK} (t : tD K W (gCB γ gr) σ H Q) : tCB r (tDA K W gr) σ H Q := by
  obtain ⟨F, O, δ, x, k, xo, rl, rs, g, vk⟩ := t
  exact ⟨F, O, δ, x, _, xo, rl, rs, g, fun ds O1 g1 vs F1 H1 e1 rl1 rvs => h F1 O1 H1 vs ds k Q rl1 rvs g1 (vk.up e1)⟩
variable {x : Str} {p : Pos} {id T : String} {r : List V → Hp → VK → Prop} {γ : List D → Oh → DK → Prop}
theorem de_callB (hc : CallR X (.builtin id) r) (hd : RcD X.K r γ) (hg : Gl X x) (hm : X.mg x = none) (hv : bootBuiltins x = some (.builtin id)) (ha : DA X W (e :: es) gr) (hn : x ≠ "__name__" := by decide) (hdb : (x == ("__debug__" : Str)) = false := by decide)
    (he : starEach (e :: es) X.env = (false, eval e X.env) :: starEach es X.env := by rfl) (hpl : (backTo pos (starEach es X.env)).any (·.1) = false := by rfl) : DE X W (.Call (.Name x p) (e :: es) [] pos) (gCB γ gr) :=
  pe_weak (pe_callB hc hg hm hv ha hn hdb he hpl) fun _ _ _ t => cb_weak hd t
theorem de_callTy (hc : CallR X (.type T) r) (hd : RcD X.K r γ) (hg : Gl X x) (hm : X.mg x = none) (hv : bootBuiltins x = some (.type T)) (ha : DA X W (e :: es) gr) (hn : x ≠ "__name__" := by decide) (hdb : (x == ("__debug__" : Str)) = false := by decide)
    (he : starEach (e :: es) X.env = (false, eval e X.env) :: starEach es X.env := by rfl) (hpl : (backTo pos (starEach es X.env)).any (·.1) = false := by rfl) : DE X W (.Call (.Name x p) (e :: es) [] pos) (gCB γ gr) :=
  pe_weak (pe_callTy hc hg hm hv ha hn hdb he hpl) fun _ _ _ t => cb_weak hd t
end
end DW

set_option Elab.async false
set_option linter.all false
set_option maxRecDepth 100000
set_option maxHeartbeats 2000000
namespace DW
open PySem L2

/-! ### statements -/
def sNext : GS := fun _ δ O E => E.nx δ O
def sSeq (g h : GS) : GS := fun x δ O E => g x δ O { E with nx := fun δ' O' => h x δ' O' E }
def sDrop (g : GE) : GS := fun x δ O E => g x δ O fun _ O1 => E.nx δ O1
def sRet (g : GE) : GS := fun x δ O E => g x δ O E.rt
def sRetN : GS := fun _ _ O E => E.rt .non O
def sIf (t : GT) (g h : GS) : GS := fun x δ O E => t x δ O fun b O1 => if b = true then g x δ O1 E else h x δ O1 E
section
variable {X : Cx} {W : WX} {st : Stmt} {rest : List Stmt} {g h : GS} {e : Expr} {ge : GE} {pos : Pos} {gt : GT}
theorem db_nil : DB X W [] sNext := pss_weak pss_nil fun D σ H ⟨F, O, δ, x, E, xo, rl, rs, g, ek⟩ => ek.nx δ O g σ F H (Same.refl F) rl rs
theorem db_cons (h1 : DS X W st g) (h2 : DB X W rest h) : DB X W (st :: rest) (sSeq g h) := pss_weak (pss_cons h1 h2) fun D σ H ⟨F, O, δ, x, E, xo, rl, rs, g, ek⟩ =>
  ⟨F, O, δ, x, _, xo, rl, rs, g, fun δ' O' g1 σ1 F1 H1 e1 rl1 rs1 => ⟨F1, O', δ', x, E, xo.up e1, rl1, rs1, g1, ek.up e1⟩, ek.rt, ek.bk, ek.ct⟩
theorem db_one (h1 : DS X W st g) : DB X W [st] g := pss_one h1
theorem ds_pass : DS X W (.Pass pos) sNext := ps_weak ps_pass fun D σ H ⟨F, O, δ, x, E, xo, rl, rs, g, ek⟩ => ek.nx δ O g σ F H (Same.refl F) rl rs
def sBreak : GS := fun _ δ O E => E.bk δ O
def sCont : GS := fun _ δ O E => E.ct δ O
theorem ds_break : DS X W (.Break pos) sBreak := ps_weak ps_break fun D σ H ⟨F, O, δ, x, E, xo, rl, rs, g, ek⟩ => ek.bk δ O g σ F H (Same.refl F) rl rs
theorem ds_cont : DS X W (.Continue pos) sCont := ps_weak ps_continue fun D σ H ⟨F, O, δ, x, E, xo, rl, rs, g, ek⟩ => ek.ct δ O g σ F H (Same.refl F) rl rs
theorem ds_expr (he : DE X W e ge) (hs : swapsWith e none pos.line X.env = pure false := by rfl) : DS X W (.Expr e pos) (sDrop ge) := ps_weak (ps_expr he hs) fun D σ H ⟨F, O, δ, x, E, xo, rl, rs, g, ek⟩ =>
  ⟨F, O, δ, x, _, xo, rl, rs, g, fun d O1 g1 v F1 H1 e1 rl1 rv => ek.nx δ O1 g1 σ F1 H1 e1 rl1 (rs.up e1)⟩
theorem ds_ret (he : DE X W e ge) : DS X W (.Return (some e) pos) (sRet ge) := ps_weak (ps_ret he) fun D σ H ⟨F, O, δ, x, E, xo, rl, rs, g, ek⟩ =>
  ⟨F, O, δ, x, _, xo, rl, rs, g, ek.rt⟩
theorem ds_retN : DS X W (.Return none pos) sRetN := ps_weak ps_retN fun D σ H ⟨F, O, δ, x, E, xo, rl, rs, g, ek⟩ => ek.rt .non O g .non F H (Same.refl F) rl .non
theorem ds_if {a b : List Stmt} {c : Expr} (hc : DT X W c gt) (ha : DB X W a g) (hb : DB X W b h) : DS X W (.If c a b pos) (sIf gt g h) := ps_weak (ps_if hc ha hb) fun D σ H ⟨F, O, δ, x, E, xo, rl, rs, g, ek⟩ => by
  refine ⟨F, O, δ, x, _, xo, rl, rs, g, fun b O1 g1 F1 H1 e1 rl1 => ?_⟩
  cases b with
  | true =>
    rw [if_pos rfl] at g1 ⊢
    exact ⟨F1, O1, δ, x, E, xo.up e1, rl1, rs.up e1, g1, ek.up e1⟩
  | false =>
    rw [if_neg (by decide)] at g1 ⊢
    exact ⟨F1, O1, δ, x, E, xo.up e1, rl1, rs.up e1, g1, ek.up e1⟩
end

/-! ### targets, assignments -/
abbrev GG := D → DEnv → Oh → (DEnv → Oh → Prop) → Prop
abbrev GGs := List D → DEnv → Oh → (DEnv → Oh → Prop) → Prop
def tDG (K : PySem.W.Frag) (g : GG) : TG := fun v σ H Q => ∃ F O δ d k, Rl K F O H ∧ RepS K F σ δ ∧ Rep K F v d ∧ g d δ O k ∧ NOk K F k Q
def tDGs (K : PySem.W.Frag) (g : GGs) : TGs := fun v σ H Q => ∃ F O δ d k, Rl K F O H ∧ RepS K F σ δ ∧ RepA K F v d ∧ g d δ O k ∧ NOk K F k Q
abbrev DG (X : Cx) (e : Expr) (g : GG) : Prop := PG X e (tDG X.K g)
abbrev DGs (X : Cx) (e : List Expr) (g : GGs) : Prop := PGs X e (tDGs X.K g)
theorem pg_weak {X : Cx} {e : Expr} {t t' : TG} (h : PG X e t) (w : ∀ v σ H Q, t' v σ H Q → t v σ H Q) : PG X e t' := ⟨fun pins s σ H v u Q I r q => h.run pins s σ H v u Q I r (w v σ H Q q)⟩
theorem pgs_weak {X : Cx} {e : List Expr} {t t' : TGs} (h : PGs X e t) (w : ∀ v σ H Q, t' v σ H Q → t v σ H Q) : PGs X e t' := ⟨fun pins s σ H v u Q I r q => h.run pins s σ H v u Q I r (w v σ H Q q)⟩
def tgName (i : Nat) : GG := fun d δ O k => k (δ.set i (some d)) O
def tgNil : GGs := fun ds δ O k => ds = [] ∧ k δ O
def tgCons (g : GG) (h : GGs) : GGs := fun ds δ O k => ∃ d r, ds = d :: r ∧ g d δ O fun δ' O' => h r δ' O' k
/-- a tuple's items, or a frozen list's -/
def tgTup (n : Nat) (g : GGs) : GG := fun d δ O k => ∃ ds, d = .tup ds ∧ ds.length = n ∧ g ds δ O k
def tgLst (n : Nat) (g : GGs) : GG := fun d δ O k => ∃ ds, asL O d = some ds ∧ ds.length = n ∧ g ds δ O k
def sAsg (ge : GE) (g : GG) : GS := fun x δ O E => ge x δ O fun d O1 => g d δ O1 E.nx
section
variable {X : Cx} {W : WX} {e tg : Expr} {es : List Expr} {ge : GE} {g : GG} {h : GGs} {pos : Pos}
theorem dg_name {i : Nat} {x : Str} (hN : X.N.Nodup) (hi : X.N[i]? = some x) (hx : Loc X.env.scope x) (hf : X.fn x = true ∨ X.env.scope.names.lookup x = some .local := by first | exact .inl rfl | exact .inr rfl | assumption) : DG X (.Name x pos) (tgName i) :=
  pg_weak (pg_name hN hi hx hf) fun v σ H Q ⟨F, O, δ, d, k, rl, rs, rv, g, nk⟩ => nk _ O g _ F H (Same.refl F) rl (rs.set rv i)
theorem dgs_nil : DGs X [] tgNil := pgs_weak pgs_nil fun v σ H Q ⟨F, O, δ, d, k, rl, rs, rv, ⟨e, g⟩, nk⟩ => by
  subst e
  cases rv
  exact ⟨rfl, nk _ O g _ F H (Same.refl F) rl rs⟩
theorem dgs_cons (h1 : DG X e g) (h2 : DGs X es h) (hs : (assignEach (e :: es) X.env).map (·.2) = assign e X.env :: (assignEach es X.env).map (·.2) := by rfl) : DGs X (e :: es) (tgCons g h) := pgs_weak (pgs_cons h1 h2 hs) fun v σ H Q ⟨F, O, δ, d, k, rl, rs, rv, ⟨d1, r1, e, g⟩, nk⟩ => by
  subst e
  cases rv with
  | cons a b =>
    exact ⟨_, _, rfl, F, O, δ, _, _, rl, rs, a, g, fun δ' O' g1 σ1 F1 H1 e1 rl1 rs1 => ⟨F1, O', δ', _, k, rl1, rs1, b.up e1, g1, nk.up e1⟩⟩
theorem dg_tup {j n : Nat} (hc : X.calm = true) (hh : DGs X es h) (hn : (assignEach es X.env).length = n := by rfl) (hst : (assignEach es X.env).findIdx? (·.1) = none := by rfl) : DG X (.Tuple es j pos) (tgTup n h) :=
  pg_weak (pg_tup hc hh hn hst) fun v σ H Q ⟨F, O, δ, d, k, rl, rs, rv, ⟨ds, e, hl, g⟩, nk⟩ => by
    subst e
    cases rv with
    | tup a b c => exact ⟨_, _, rfl, Same.tuq rl.same a, by rw [c.length]; exact hl, F, O, δ, ds, k, rl, rs, c, g, nk⟩
theorem dg_lst {j n : Nat} (hc : X.calm = true) (hh : DGs X es h) (hn : (assignEach es X.env).length = n := by rfl) (hst : (assignEach es X.env).findIdx? (·.1) = none := by rfl) : DG X (.Tuple es j pos) (tgLst n h) :=
  pg_weak (pg_lst hc hh hn hst) fun v σ H Q ⟨F, O, δ, d, k, rl, rs, rv, ⟨ds, e, hl, g⟩, nk⟩ => by
    obtain ⟨a, xs, rfl, ha, hz, c⟩ := rep_asL rl rv e
    exact ⟨_, _, rfl, SqL.of ha, by rw [c.length]; exact hl, F, O, δ, ds, k, rl, rs, c, g, nk⟩
theorem ds_asg (he : DE X W e ge) (hg : DG X tg g) (hs : swapsWithSole [tg] e pos.line X.env = pure false := by rfl) (hw : swappedStores [tg] e X.env = pure none := by rfl) (h1 : (assignEach [tg] X.env).map (·.2) = [assign tg X.env] := by rfl) : DS X W (.Assign [tg] e pos) (sAsg ge g) :=
  ps_weak (ps_asg he hg hs hw h1) fun D σ H ⟨F, O, δ, x, E, xo, rl, rs, g, ek⟩ =>
    ⟨F, O, δ, x, _, xo, rl, rs, g, fun d O1 g1 v F1 H1 e1 rl1 rv => ⟨F1, O1, δ, d, _, rl1, rs.up e1, rv, g1, ek.nx.up e1⟩⟩
theorem ds_set {i : Nat} {x : Str} {pos' : Pos} (hN : X.N.Nodup) (hi : X.N[i]? = some x) (hx : Loc X.env.scope x) (he : DE X W e ge) (hs : swapsWith e (some (.Name x pos')) pos.line X.env = pure false := by rfl) (hf : X.fn x = true ∨ X.env.scope.names.lookup x = some .local := by first | exact .inl rfl | exact .inr rfl | assumption) :
    DS X W (.Assign [.Name x pos'] e pos) (sAsg ge (tgName i)) := ps_weak (ps_set hN hi hx he hs hf) fun D σ H ⟨F, O, δ, x, E, xo, rl, rs, g, ek⟩ =>
    ⟨F, O, δ, x, _, xo, rl, rs, g, fun d O1 g1 v F1 H1 e1 rl1 rv => ek.nx _ _ g1 _ F1 H1 e1 rl1 ((rs.up e1).set rv i)⟩
/-- a, b = x, y of plain locals -/
def sPar (i j : Nat) (ga : GA) : GS := fun x δ O E => ga x δ O fun ds O1 => ∃ a b, ds = [a, b] ∧ E.nx ((δ.set i (some a)).set j (some b)) O1
theorem ds_par {i j : Nat} {x y : Str} {a b : Expr} {ga : GA} {px py pt : Pos} {kt k2 pt2} (hc : X.calm = true) (hN : X.N.Nodup) (hi : X.N[i]? = some x) (hj : X.N[j]? = some y) (hij : i ≠ j)
    (hx : X.env.scope.names.lookup x = some .local) (hy : X.env.scope.names.lookup y = some .local) (ha : DA X W [a, b] ga)
    (hw : swappedStores [.Tuple [.Name x px, .Name y py] kt pt] (.Tuple [a, b] k2 pt2) X.env = pure (some [x, y]))
    (hs : swapsWithSole [.Tuple [.Name x px, .Name y py] kt pt] (.Tuple [a, b] k2 pt2) pos.line X.env = pure false := by rfl) :
    DS X W (.Assign [.Tuple [.Name x px, .Name y py] kt pt] (.Tuple [a, b] k2 pt2) pos) (sPar i j ga) := ps_weak (ps_par hc hN hi hj hij hx hy ha hw hs) fun D σ H ⟨F, O, δ, x, E, xo, rl, rs, g, ek⟩ => by
  refine ⟨F, O, δ, x, _, xo, rl, rs, g, fun ds O1 ⟨a, b, e, g1⟩ vs F1 H1 e1 rl1 rv => ?_⟩
  subst e
  cases rv with
  | cons p q =>
    cases q with
    | cons p2 q2 =>
      cases q2
      exact ⟨_, _, rfl, ek.nx _ _ g1 _ F1 H1 e1 rl1 (((rs.up e1).set p i).set p2 j)⟩
def sPar3 (i j l : Nat) (ga : GA) : GS := fun x δ O E => ga x δ O fun ds O1 => ∃ a b c, ds = [a, b, c] ∧ E.nx (((δ.set i (some a)).set j (some b)).set l (some c)) O1
theorem ds_par3 {i j l : Nat} {x y z : Str} {a b c : Expr} {ga : GA} {px py pz pt : Pos} {kt k2 pt2} (hc : X.calm = true) (hN : X.N.Nodup) (hi : X.N[i]? = some x) (hj : X.N[j]? = some y) (hl : X.N[l]? = some z) (hij : i ≠ j) (hil : i ≠ l) (hjl : j ≠ l)
    (hx : X.env.scope.names.lookup x = some .local) (hy : X.env.scope.names.lookup y = some .local) (hz : X.env.scope.names.lookup z = some .local) (ha : DA X W [a, b, c] ga)
    (hw : swappedStores [.Tuple [.Name x px, .Name y py, .Name z pz] kt pt] (.Tuple [a, b, c] k2 pt2) X.env = pure (some [x, y, z]))
    (hs : swapsWithSole [.Tuple [.Name x px, .Name y py, .Name z pz] kt pt] (.Tuple [a, b, c] k2 pt2) pos.line X.env = pure false := by rfl) :
    DS X W (.Assign [.Tuple [.Name x px, .Name y py, .Name z pz] kt pt] (.Tuple [a, b, c] k2 pt2) pos) (sPar3 i j l ga) := ps_weak (ps_par3 hc hN hi hj hl hij hil hjl hx hy hz ha hw hs) fun D σ H ⟨F, O, δ, x, E, xo, rl, rs, g, ek⟩ => by
  refine ⟨F, O, δ, x, _, xo, rl, rs, g, fun ds O1 ⟨a, b, c, e, g1⟩ vs F1 H1 e1 rl1 rv => ?_⟩
  subst e
  cases rv with
  | cons p q =>
    cases q with
    | cons p2 q2 =>
      cases q2 with
      | cons p3 q3 =>
        cases q3
        exact ⟨_, _, _, rfl, ek.nx _ _ g1 _ F1 H1 e1 rl1 ((((rs.up e1).set p i).set p2 j).set p3 l)⟩
/-- x op= e -/
def sAug (i : Nat) (ge : GE) (γ : G2) : GS := fun x δ O E => ∃ a, δ[i]? = some (some a) ∧ ge x δ O fun b O1 => γ a b O1 fun d O2 => E.nx (δ.set i (some d)) O2
theorem ds_aug {i : Nat} {x : Str} {op : Operator} {ti : TIp} {γ : G2} {pos' : Pos} (hN : X.N.Nodup) (hi : X.N[i]? = some x) (hx : Loc X.env.scope x) (he : DE X W e ge) (ho : PIp X op ti) (hd : R2D X.K ti γ)
    (hf : X.fn x = true ∨ X.env.scope.names.lookup x = some .local := by first | exact .inl rfl | exact .inr rfl | assumption) : DS X W (.AugAssign (.Name x pos') op e pos) (sAug i ge γ) :=
  ps_weak (ps_aug hN hi hx he ho hf) fun D σ H ⟨F, O, δ, x, E, xo, rl, rs, ⟨a, ha, g⟩, ek⟩ => by
    obtain ⟨v, hv, rv⟩ := rs.get i a ha
    exact ⟨v, hv, F, O, δ, x, _, xo, rl, rs, g, fun b O1 g1 u F1 H1 e1 rl1 ru => hd F1 O1 H1 v u a b _ _ rl1 (rv.up e1) ru g1 fun d O2 g2 w F2 H2 e2 rl2 rw' =>
      ek.nx _ _ g2 _ F2 H2 (e1.trans e2) rl2 ((rs.up (e1.trans e2)).set rw' i)⟩
/-- o[i] = e -/
abbrev G3 := D → D → D → Oh → (Oh → Prop) → Prop
def RsD (K : PySem.W.Frag) (r : TSet) (γ : G3) : Prop := ∀ F O H o i v a b c k Q, Rl K F O H → Rep K F o a → Rep K F i b → Rep K F v c → γ a b c O k → (∀ O', k O' → ∀ F' H', Same F F' → Rl K F' O' H' → Q H') → r o i v H Q
def tgSub (γ : G3) (go gi : GE) (x : Xd) : GG := fun d δ O k => go x δ O fun a O1 => gi x δ O1 fun b O2 => γ a b d O2 fun O3 => k δ O3
def sSub (ge go gi : GE) (γ : G3) : GS := fun x δ O E => ge x δ O fun d O1 => tgSub γ go gi x d δ O1 E.nx
theorem ds_sub {o i : Expr} {go gi : GE} {r : TSet} {γ : G3} {p : Pos} (ho : DE X W o go) (hi : DE X W i gi) (hS : PSet X r) (hd : RsD X.K r γ) (he : DE X W e ge)
    (hp : PG X (.Subscript o i p) (gSub (tD X.K W go) (tD X.K W gi) r)) (hs : swapsWithSole [.Subscript o i p] e pos.line X.env = pure false := by rfl) (hw : swappedStores [.Subscript o i p] e X.env = pure none := by rfl) : DS X W (.Assign [.Subscript o i p] e pos) (sSub ge go gi γ) :=
  ps_weak (ps_asg he hp hs hw) fun D σ H ⟨F, O, δ, x, E, xo, rl, rs, g, ek⟩ =>
    ⟨F, O, δ, x, _, xo, rl, rs, g, fun d O1 g1 v F1 H1 e1 rl1 rv => ⟨F1, O1, δ, x, _, xo.up e1, rl1, rs.up e1, g1, fun a O2 g2 u F2 H2 e2 rl2 ru => ⟨F2, O2, δ, x, _, (xo.up e1).up e2, rl2, (rs.up e1).up e2, g2, fun b O3 g3 w F3 H3 e3 rl3 rw' =>
      hd F3 O3 H3 u w v a b d _ _ rl3 (ru.up e3) rw' ((rv.up e2).up e3) g3 fun O4 k4 F4 H4 e4 rl4 => ek.nx δ O4 k4 σ F4 H4 (((e1.trans e2).trans e3).trans e4) rl4 (rs.up (((e1.trans e2).trans e3).trans e4))⟩⟩⟩
end

/-! ### what is walked -/
/-- as long as c holds of the owned objects, J yields the items ds -/
def ItOk (K : PySem.W.Frag) (J : It) (F : Hp) (ds : List D) (c : Oh → Prop) : Prop := ∀ F' O H, Same F F' → Rl K F' O H → c O → ∀ i,
  (ds.length ≤ i → J.stop i H) ∧ ∀ d, ds[i]? = some d → J.go i H ∧ ∀ v H', J.yld i H v H' → ∃ F2, Same F' F2 ∧ Rl K F2 O H' ∧ Rep K F2 v d
theorem ItOk.up {K : PySem.W.Frag} {J : It} {F F' : Hp} {ds : List D} {c : Oh → Prop} (h : ItOk K J F ds c) (e : Same F F') : ItOk K J F' ds c := fun F2 O H e2 => h F2 O H (e.trans e2)
abbrev GI := Xd → DEnv → Oh → (List D → (Oh → Prop) → Oh → Prop) → Prop
def tDI (K : PySem.W.Frag) (W : WX) (g : GI) : TI := fun σ H R => ∃ F O δ x k, XOk K W F x ∧ Rl K F O H ∧ RepS K F σ δ ∧ g x δ O k ∧
  ∀ ds c O', k ds c O' → ∀ J F' H', Same F F' → Rl K F' O' H' → ItOk K J F' ds c → R J H'
abbrev DI (X : Cx) (W : WX) (tg iter : Expr) (g : GI) : Prop := PI X tg iter (tDI X.K W g)
theorem pi_weak {X : Cx} {tg iter : Expr} {t t' : TI} (h : PI X tg iter t) (w : ∀ σ H R, t' σ H R → t σ H R) : PI X tg iter t' := ⟨fun pins s σ H R I q => h.run pins s σ H R I (w σ H R q)⟩
def forD (x : Xd) (tg : GG) (gb : GS) (c : Oh → Prop) (E : DEnds) : List D → DEnv → Oh → Prop
  | [], δ, O => c O ∧ E.nx δ O
  | d :: ds, δ, O => c O ∧ tg d δ O fun δ1 O1 => gb x δ1 O1 { nx := forD x tg gb c E ds, rt := E.rt, bk := E.nx, ct := forD x tg gb c E ds }
def sFor (gi : GI) (tg : GG) (gb : GS) : GS := fun x δ O E => gi x δ O fun ds c O1 => forD x tg gb c E ds δ O1
section
variable {X : Cx} {W : WX} {tg iter : Expr} {gi : GI} {gg : GG} {gb : GS} {pos : Pos}
theorem ds_for {body : List Stmt} (hp : PassesOwn (model X.prog X.w) X.A X.env X.xe) (hc : X.calm = true) (hi : DI X W tg iter gi) (hg : DG X tg gg) (hb : DB X W body gb) (hs : ∀ x, foldedSetIterable iter X.env x = pure x := by intro _; rfl) :
    DS X W (.For tg iter body [] pos) (sFor gi gg gb) := ps_weak (ps_for hp hc hi hg hb hs) fun D σ H ⟨F, O, δ, x, E, xo, rl, rs, g, ek⟩ => by
  refine ⟨F, O, δ, x, _, xo, rl, rs, g, fun ds c O1 g1 J F1 H1 e1 rl1 io => ?_⟩
  refine ⟨fun i m σ H => m = ds.length - i ∧ i ≤ ds.length ∧ ∃ F2 O2 δ2, Same F1 F2 ∧ Rl X.K F2 O2 H ∧ RepS X.K F2 σ δ2 ∧ forD x gg gb c E (ds.drop i) δ2 O2, ⟨ds.length, by omega, Nat.zero_le _, F1, O1, δ, Same.refl _, rl1, rs.up e1, by simpa using g1⟩, ?_⟩
  rintro i m σ2 H2 ⟨rfl, hi, F2, O2, δ2, e2, rl2, rs2, g2⟩
  by_cases hlt : i < ds.length
  · have hd : ds[i]? = some ds[i] := List.getElem?_eq_getElem hlt
    rw [List.drop_eq_getElem_cons hlt] at g2
    unfold forD at g2
    obtain ⟨hcO, g2⟩ := g2
    obtain ⟨go, yl⟩ := (io F2 O2 H2 e2 rl2 hcO i).2 _ hd
    refine .inr ⟨go, fun σ' H' => ∃ F3 O3 δ3, Same F1 F3 ∧ Rl X.K F3 O3 H' ∧ RepS X.K F3 σ' δ3 ∧ forD x gg gb c E (ds.drop (i + 1)) δ3 O3, fun σ' H' n => ⟨ds.length - (i + 1), by omega, rfl, hlt, n⟩, fun v H' hy => ?_⟩
    obtain ⟨F3, e3, rl3, rv⟩ := yl v H' hy
    refine ⟨F3, O2, δ2, _, _, rl3, rs2.up e3, rv, g2, fun δ4 O4 g4 σ4 F4 H4 e4 rl4 rs4 => ?_⟩
    have e14 := (e2.trans e3).trans e4
    refine ⟨F4, O4, δ4, x, _, xo.up (e1.trans e14), rl4, rs4, g4, fun δ5 O5 g5 σ5 F5 H5 e5 rl5 rs5 => ?_, ek.rt.up (e1.trans e14), ek.nx.up (e1.trans e14), fun δ5 O5 g5 σ5 F5 H5 e5 rl5 rs5 => ?_⟩
    · exact ⟨F5, O5, δ5, e14.trans e5, rl5, rs5, g5⟩
    · exact ⟨F5, O5, δ5, e14.trans e5, rl5, rs5, g5⟩
  · have e : i = ds.length := by omega
    subst e
    rw [List.drop_length] at g2
    unfold forD at g2
    obtain ⟨hcO, g2⟩ := g2
    exact .inl ⟨(io F2 O2 H2 e2 rl2 hcO ds.length).1 (Nat.le_refl _), ek.nx δ2 O2 g2 σ2 F2 H2 (e1.trans e2) rl2 rs2⟩
/-- while: at most n turns -/
def whD (x : Xd) (t : GT) (gb : GS) (E : DEnds) : Nat → DEnv → Oh → Prop
  | 0, _, _ => False
  | n + 1, δ, O => t x δ O fun b O1 => if b = true then gb x δ O1 { nx := whD x t gb E n, rt := E.rt, bk := E.nx, ct := whD x t gb E n } else E.nx δ O1
def sWhile (t : GT) (gb : GS) : GS := fun x δ O E => ∃ n, whD x t gb E n δ O
theorem ds_while {c : Expr} {body : List Stmt} {gt : GT} (hp : PassesOwn (model X.prog X.w) X.A X.env X.xe) (hc : DT X W c gt) (hb : DB X W body gb) : DS X W (.While c body [] pos) (sWhile gt gb) := ps_weak (ps_while hp hc hb) fun D σ H ⟨F, O, δ, x, E, xo, rl, rs, ⟨n, g⟩, ek⟩ => by
  refine ⟨fun m σ H => ∃ F2 O2 δ2, Same F F2 ∧ Rl X.K F2 O2 H ∧ RepS X.K F2 σ δ2 ∧ whD x gt gb E m δ2 O2, ⟨n, F, O, δ, Same.refl _, rl, rs, g⟩, ?_⟩
  rintro m σ2 H2 ⟨F2, O2, δ2, e2, rl2, rs2, g2⟩
  cases m with
  | zero => exact g2.elim
  | succ m =>
    unfold whD at g2
    refine ⟨F2, O2, δ2, x, _, xo.up e2, rl2, rs2, g2, fun b O3 g3 F3 H3 e3 rl3 => ?_⟩
    have e23 := e2.trans e3
    cases b with
    | true =>
      rw [if_pos rfl] at g3
      show if true = true then _ else _
      rw [if_pos rfl]
      refine ⟨fun σ' H' => ∃ F4 O4 δ4, Same F F4 ∧ Rl X.K F4 O4 H' ∧ RepS X.K F4 σ' δ4 ∧ whD x gt gb E m δ4 O4, fun σ' H' h => ⟨m, Nat.lt_succ_self m, h⟩, F3, O3, δ2, x, _, xo.up e23, rl3, rs2.up e3, g3, fun δ4 O4 g4 σ4 F4 H4 e4 rl4 rs4 => ?_, ek.rt.up e23, ek.nx.up e23, fun δ4 O4 g4 σ4 F4 H4 e4 rl4 rs4 => ?_⟩
      · exact ⟨F4, O4, δ4, e23.trans e4, rl4, rs4, g4⟩
      · exact ⟨F4, O4, δ4, e23.trans e4, rl4, rs4, g4⟩
    | false =>
      rw [if_neg (by decide)] at g3
      show if false = true then _ else _
      rw [if_neg (by decide)]
      exact ek.nx δ2 O3 g3 σ2 F3 H3 e23 rl3 (rs2.up e3)
end
end DW

set_option Elab.async false
set_option linter.all false
set_option maxRecDepth 100000
set_option maxHeartbeats 2000000
namespace DW
open PySem L2

/-! ### things walked -/
def gItQ (g : GE) : GI := fun x δ O k => g x δ O fun d O1 => match d with
  | .lst ds => k ds (fun _ => True) O1
  | .scr ns => k (ns.map D.int) (fun _ => True) O1
  | .ref a => ∃ ds, O1 a = some (.lst ds) ∧ k ds (fun O => O a = some (.lst ds)) O1
  | _ => False
def gItT (g : GE) : GI := fun x δ O k => g x δ O fun d O1 => ∃ ds, d = .tup ds ∧ k ds (fun _ => True) O1
def rngD (lo hi : Int) : List D := (List.range (hi - lo).toNat).map fun i => D.int (lo + (i : Nat))
def okI (i : Int) : Prop := -(2 ^ 62) ≤ i ∧ i < 2 ^ 62
def gRng1 (g : GA) : GI := fun x δ O k => g x δ O fun ds O1 => ∃ j : Int, ds = [.int j] ∧ okI j ∧ k (rngD 0 j) (fun _ => True) O1
def gRng2 (g : GA) : GI := fun x δ O k => g x δ O fun ds O1 => ∃ i j : Int, ds = [.int i, .int j] ∧ okI i ∧ okI j ∧ k (rngD i j) (fun _ => True) O1
theorem rngD_length (lo hi : Int) : (rngD lo hi).length = (hi - lo).toNat := by unfold rngD; rw [List.length_map, List.length_range]
theorem itok_rng (K : PySem.W.Frag) (F : Hp) (lo hi : Int) : ItOk K (Itr lo (hi - lo).toNat) F (rngD lo hi) (fun _ => True) := fun F' O H e rl _ i => by
  rw [rngD_length]
  refine ⟨fun h => h, fun d hd => ?_⟩
  have hi' : i < (hi - lo).toNat := by
    have := (List.getElem?_eq_some_iff.mp hd).1
    rw [rngD_length] at this
    exact this
  refine ⟨hi', fun v H' ⟨e1, e2⟩ => ?_⟩
  subst e1 e2
  refine ⟨F', Same.refl _, rl, ?_⟩
  unfold rngD at hd
  rw [List.getElem?_map, List.getElem?_range hi'] at hd
  cases hd
  exact .int _
section
variable {X : Cx} {W : WX} {tg l a b : Expr} {g : GE} {gr : GA} {p pos : Pos}
theorem itok_list {K : PySem.W.Frag} {F : Hp} {a : Addr} {ds : List D} {c : Oh → Prop} (h : ∀ F' O H, Same F F' → Rl K F' O H → c O → ∃ xs, SqL K H a xs ∧ RepA K F' xs ds) (u : ∀ F' O H xs ys, Same F F' → Rl K F' O H → c O → SqL K H a xs → SqL K H a ys → xs = ys) : ItOk K (Itl K a) F ds c := fun F' O H e rl hc i => by
  obtain ⟨xs, hs, ra⟩ := h F' O H e rl hc
  refine ⟨fun hi => ⟨xs, hs, by rw [ra.length]; exact hi⟩, fun d hd => ?_⟩
  obtain ⟨v, hv, rv⟩ := ra.get hd
  refine ⟨⟨xs, v, hs, hv⟩, fun w H' ⟨e1, hw⟩ => ?_⟩
  subst e1
  have := hw xs hs
  rw [hv] at this
  cases this
  exact ⟨F', Same.refl _, rl, rv⟩
theorem di_list (h : DE X W l g) : DI X W tg l (gItQ g) := pi_weak (pi_list h) fun σ H R ⟨F, O, δ, x, k, xo, rl, rs, gg, vk⟩ => by
  refine ⟨F, O, δ, x, _, xo, rl, rs, gg, fun d O1 g1 v F1 H1 e1 rl1 rv => ?_⟩
  cases d with
  | lst ds =>
    cases rv with
    | @lst a xs _ ha hz ra =>
      refine ⟨_, rfl, ⟨_, SqL.of (rl1.same _ _ ha)⟩, vk ds _ O1 g1 _ F1 H1 e1 rl1 fun F' O' H' e rl' _ i => ?_⟩
      have hH := rl'.same _ _ (e _ _ ha)
      refine ⟨fun hi => ⟨_, SqL.of hH, by rw [ra.length]; exact hi⟩, fun d hd => ?_⟩
      obtain ⟨v, hv, rv⟩ := ra.get hd
      refine ⟨⟨_, v, SqL.of hH, hv⟩, fun w H2 ⟨e2, hw⟩ => ?_⟩
      subst e2
      have := hw _ (SqL.of hH)
      rw [hv] at this
      cases this
      exact ⟨F', Same.refl _, rl', rv.up e⟩
  | scr ns =>
    cases rv with
    | @scr a _ ha hz =>
      refine ⟨_, rfl, ⟨_, rl1.same.seq ha⟩, vk _ _ O1 g1 _ F1 H1 e1 rl1 fun F' O' H' e rl' _ i => ?_⟩
      have hH := rl'.same.seq (e.seq ha)
      have ra : RepA X.K F' (ns.map V.int) (ns.map D.int) := RepA.of_ints ns
      refine ⟨fun hi => ⟨_, hH, by rw [ra.length]; exact hi⟩, fun d hd => ?_⟩
      obtain ⟨v, hv, rv⟩ := ra.get hd
      refine ⟨⟨_, v, hH, hv⟩, fun w H2 ⟨e2, hw⟩ => ?_⟩
      subst e2
      have := hw _ hH
      rw [hv] at this
      cases this
      exact ⟨F', Same.refl _, rl', rv⟩
  | ref a =>
    obtain ⟨ds, ho, g1⟩ := g1
    cases rv
    obtain ⟨f, u, hu, ru⟩ := rl1.own a _ ho
    cases ru with
    | lst hl ra =>
      refine ⟨a, rfl, ⟨_, SqL.of hu⟩, vk ds _ O1 g1 _ F1 H1 e1 rl1 fun F' O' H' e rl' hO i => ?_⟩
      obtain ⟨f2, u2, hu2, ru2⟩ := rl'.own a _ hO
      cases ru2 with
      | lst hl2 ra2 =>
        refine ⟨fun hi => ⟨_, SqL.of hu2, by rw [ra2.length]; exact hi⟩, fun d hd => ?_⟩
        obtain ⟨v, hv, rv⟩ := ra2.get hd
        refine ⟨⟨_, v, SqL.of hu2, hv⟩, fun w H2 ⟨e2, hw⟩ => ?_⟩
        subst e2
        have := hw _ (SqL.of hu2)
        rw [hv] at this
        cases this
        exact ⟨F', Same.refl _, rl', rv⟩
  | _ => exact g1.elim
theorem di_tup (h : DE X W l g) : DI X W tg l (gItT g) := pi_weak (pi_tup h) fun σ H R ⟨F, O, δ, x, k, xo, rl, rs, gg, vk⟩ => by
  refine ⟨F, O, δ, x, _, xo, rl, rs, gg, fun d O1 ⟨ds, ed, g1⟩ v F1 H1 e1 rl1 rv => ?_⟩
  subst ed
  cases rv with
  | @tup a xs _ ha hz ra =>
    refine ⟨_, rfl, ⟨_, Same.tuq rl1.same ha⟩, vk ds _ O1 g1 _ F1 H1 e1 rl1 fun F' O' H' e rl' _ i => ?_⟩
    have hH := Same.tuq rl'.same (Same.tuq e ha)
    refine ⟨fun hi => ⟨_, hH, by rw [ra.length]; exact hi⟩, fun d hd => ?_⟩
    obtain ⟨v, hv, rv⟩ := ra.get hd
    refine ⟨⟨_, v, hH, hv⟩, fun w H2 ⟨e2, hw⟩ => ?_⟩
    subst e2
    have := hw _ hH
    rw [hv] at this
    cases this
    exact ⟨F', Same.refl _, rl', rv.up e⟩
theorem di_rng1 (hg : Gl X "range") (hm : X.mg "range" = none) (ha : DA X W [a] gr) (hs : starEach [a] X.env = [(false, eval a X.env)] := by rfl) : DI X W tg (.Call (.Name "range" p) [a] [] pos) (gRng1 gr) := pi_weak (pi_range1 hg hm ha hs) fun σ H R ⟨F, O, δ, x, k, xo, rl, rs, gg, vk⟩ => by
  refine ⟨F, O, δ, x, _, xo, rl, rs, gg, fun ds O1 ⟨j, ed, hj, g1⟩ vs F1 H1 e1 rl1 rv => ?_⟩
  subst ed
  cases rv with
  | cons r1 r2 =>
    cases r2; cases r1
    have q := itok_rng X.K F1 0 j
    rw [Int.sub_zero] at q
    exact ⟨j, rfl, hj.1, hj.2, vk _ _ O1 g1 _ F1 H1 e1 rl1 q⟩
theorem di_rng2 (hg : Gl X "range") (hm : X.mg "range" = none) (ha : DA X W [a, b] gr) (hs : starEach [a, b] X.env = [(false, eval a X.env), (false, eval b X.env)] := by rfl) (hs2 : starEach [b] X.env = [(false, eval b X.env)] := by rfl) : DI X W tg (.Call (.Name "range" p) [a, b] [] pos) (gRng2 gr) := pi_weak (pi_range2 hg hm ha hs hs2) fun σ H R ⟨F, O, δ, x, k, xo, rl, rs, gg, vk⟩ => by
  refine ⟨F, O, δ, x, _, xo, rl, rs, gg, fun ds O1 ⟨i, j, ed, hi, hj, g1⟩ vs F1 H1 e1 rl1 rv => ?_⟩
  subst ed
  cases rv with
  | cons r1 r2 =>
    cases r2 with
    | cons r2 r3 =>
      cases r3; cases r2; cases r1
      exact ⟨i, j, rfl, ⟨hi.1, hi.2, hj.1, hj.2⟩, vk _ _ O1 g1 _ F1 H1 e1 rl1 (itok_rng X.K F1 i j)⟩
end

/-! ### comprehensions -/
def wipeD (δ : DEnv) : List Nat → DEnv
  | [] => δ
  | v :: vs => (wipeD δ vs).set v none
theorem RepS.wipes {K : PySem.W.Frag} {F : Hp} {σ : L2.St} {δ : DEnv} (r : RepS K F σ δ) : ∀ vs : List Nat, RepS K F (L2.wipe σ vs) (wipeD δ vs)
  | [] => r
  | v :: vs => (RepS.wipes r vs).wipe v
theorem wipe_set_none {σ : L2.St} {i : Nat} {x : Option V} : ∀ vs : List Nat, (L2.wipe (σ.set i x) vs).set i none = (L2.wipe σ vs).set i none
  | [] => by show (σ.set i x).set i none = σ.set i none; rw [List.set_set]
  | v :: vs => by
    show ((L2.wipe (σ.set i x) vs).set v none).set i none = ((L2.wipe σ vs).set v none).set i none
    by_cases e : v = i
    · subst e; rw [List.set_set, List.set_set]; exact wipe_set_none vs
    · rw [List.set_comm _ _ e, wipe_set_none vs, List.set_comm _ _ (Ne.symm e)]
theorem wipe_set {σ : L2.St} {i : Nat} {x : Option V} : ∀ {vs : List Nat}, i ∈ vs → L2.wipe (σ.set i x) vs = L2.wipe σ vs
  | [], h => by cases h
  | v :: vs, h => by
    show (L2.wipe (σ.set i x) vs).set v none = (L2.wipe σ vs).set v none
    by_cases e : i = v
    · subst e; exact wipe_set_none vs
    · rcases List.mem_cons.mp h with q | q
      · exact absurd q e
      · rw [wipe_set q]
/-- a comprehension's target writes the block's own slots alone -/
def TgOk (K : PySem.W.Frag) (vs : List Nat) (t : TG) (tg : GG) : Prop := ∀ F O H v d σ δ k Q, Rl K F O H → RepS K F σ δ → Rep K F v d → tg d δ O k →
  (∀ δ' O', k δ' O' → ∀ σ', L2.wipe σ' vs = L2.wipe σ vs → Rl K F O' H → RepS K F σ' δ' → Q σ' H) → t v σ H Q
def TgsOk (K : PySem.W.Frag) (vs : List Nat) (t : TGs) (tg : GGs) : Prop := ∀ F O H v d σ δ k Q, Rl K F O H → RepS K F σ δ → RepA K F v d → tg d δ O k →
  (∀ δ' O', k δ' O' → ∀ σ', L2.wipe σ' vs = L2.wipe σ vs → Rl K F O' H → RepS K F σ' δ' → Q σ' H) → t v σ H Q
theorem tgok_name {K : PySem.W.Frag} {vs : List Nat} {i : Nat} (h : i ∈ vs) : TgOk K vs (L2.gName i) (tgName i) := fun F O H v d σ δ k Q rl rs rv g q => q _ O g _ (wipe_set h) rl (rs.set rv i)
theorem tgsok_nil {K : PySem.W.Frag} {vs : List Nat} : TgsOk K vs L2.gNil tgNil := fun F O H v d σ δ k Q rl rs rv ⟨e, g⟩ q => by
  subst e; cases rv; exact ⟨rfl, q _ O g _ rfl rl rs⟩
theorem tgsok_cons {K : PySem.W.Frag} {vs : List Nat} {t : TG} {tg : GG} {ts : TGs} {tgs : GGs} (h : TgOk K vs t tg) (h2 : TgsOk K vs ts tgs) : TgsOk K vs (L2.gCons t ts) (tgCons tg tgs) := fun F O H v d σ δ k Q rl rs rv ⟨d1, r1, e, g⟩ q => by
  subst e
  cases rv with
  | cons a b => exact ⟨_, _, rfl, h F O H _ _ σ δ _ _ rl rs a g fun δ' O' g1 σ' w rl1 rs1 => h2 F O' H _ _ σ' δ' _ _ rl1 rs1 b g1 fun δ2 O2 g2 σ2 w2 rl2 rs2 => q δ2 O2 g2 σ2 (w2.trans w) rl2 rs2⟩
theorem tgok_tup {K : PySem.W.Frag} {vs : List Nat} {n : Nat} {ts : TGs} {tgs : GGs} (h : TgsOk K vs ts tgs) : TgOk K vs (L2.gTup K n ts) (tgTup n tgs) := fun F O H v d σ δ k Q rl rs rv ⟨ds, e, hl, g⟩ q => by
  subst e
  cases rv with
  | tup a b c => exact ⟨_, _, rfl, Same.tuq rl.same a, by rw [c.length]; exact hl, h F O H _ _ σ δ k Q rl rs c g q⟩
def x0 : Xd := fun _ _ _ _ => False
abbrev W0 : WX := fun _ _ _ _ => False
theorem xok0 {K : PySem.W.Frag} {F : Hp} : XOk K W0 F x0 := fun _ _ _ _ h => h.elim
def gYes : GT := fun _ _ O k => k true O
/-- the turns: p the new list, acc its items so far -/
def lcD (tg : GG) (gt : GT) (ge : GE) (c : Oh → Prop) (p : Addr) (k : List D → Oh → Prop) (δ : DEnv) : List D → List D → Oh → Prop
  | [], acc, O => c O ∧ O p = some (.lst acc) ∧ k acc O
  | d :: ds, acc, O => c O ∧ tg d δ O fun δ1 O1 => gt x0 δ1 O1 fun b O2 => if b = true then ge x0 δ1 O2 fun y O3 => O3 p = some (.lst acc) ∧ lcD tg gt ge c p k δ ds (acc ++ [y]) (oupd O3 p (.lst (acc ++ [y])))
    else lcD tg gt ge c p k δ ds acc O2
/-- the list is frozen at the end | stays owned -/
def gLc (gi : GI) (tg : GG) (gt : GT) (ge : GE) (vs : List Nat) : GE := fun x δ O k => gi x δ O fun ds c O1 => ds.length ≤ sizeLine ∧ ∀ p, O1 p = none →
  lcD tg gt ge c p (fun acc O' => k (.lst acc) (odel O' p)) (wipeD δ vs) ds [] (oupd O1 p (.lst []))
def gLcO (gi : GI) (tg : GG) (gt : GT) (ge : GE) (vs : List Nat) : GE := fun x δ O k => gi x δ O fun ds c O1 => ds.length ≤ sizeLine ∧ ∀ p, O1 p = none →
  lcD tg gt ge c p (fun acc O' => k (.ref p) O') (wipeD δ vs) ds [] (oupd O1 p (.lst []))
theorem lc_weak {K : PySem.W.Frag} {W : WX} {gi : GI} {t : TG} {tg : GG} {gt : GT} {ge : GE} {vs : List Nat} (ht : TgOk K vs t tg) {σ : L2.St} {H : Hp} {Q : VK} (own : Bool)
    (h : tD K W (fun x δ O k => gi x δ O fun ds c O1 => ds.length ≤ sizeLine ∧ ∀ p, O1 p = none → lcD tg gt ge c p (fun acc O' => if own = true then k (.ref p) O' else k (.lst acc) (odel O' p)) (wipeD δ vs) ds [] (oupd O1 p (.lst []))) σ H Q) :
    tLc (tDI K W gi) t (tDT K W0 gt) (tD K W0 ge) vs σ H Q := by
  obtain ⟨F, O, δ, x, k, xo, rl, rs, g, vk⟩ := h
  refine ⟨F, O, δ, x, _, xo, rl, rs, g, fun ds c O1 ⟨hl, g1⟩ J F1 H1 e1 rl1 io p hp => ?_⟩
  have g1 := g1 p (rl1.freeO hp)
  refine ⟨fun i m H => m = ds.length - i ∧ i ≤ ds.length ∧ ∃ F2 O2 acc, Same F1 F2 ∧ Rl K F2 O2 H ∧ acc.length ≤ i ∧ lcD tg gt ge c p (fun acc O' => if own = true then k (.ref p) O' else k (.lst acc) (odel O' p)) (wipeD δ vs) (ds.drop i) acc O2,
    ⟨ds.length, by omega, Nat.zero_le _, F1, _, [], Same.refl _, rl1.mine hp (.lst (Nat.zero_le _) .nil), Nat.zero_le _, by simpa using g1⟩, ?_⟩
  rintro i m H2 ⟨rfl, hi, F2, O2, acc, e2, rl2, ha, g2⟩
  by_cases hlt : i < ds.length
  · have hd : ds[i]? = some ds[i] := List.getElem?_eq_getElem hlt
    rw [List.drop_eq_getElem_cons hlt] at g2
    unfold lcD at g2
    obtain ⟨hcO, g2⟩ := g2
    obtain ⟨go, yl⟩ := (io F2 O2 H2 e2 rl2 hcO i).2 _ hd
    refine .inr ⟨go, fun H' => ∃ F3 O3 acc, Same F1 F3 ∧ Rl K F3 O3 H' ∧ acc.length ≤ i + 1 ∧ lcD tg gt ge c p (fun acc O' => if own = true then k (.ref p) O' else k (.lst acc) (odel O' p)) (wipeD δ vs) (ds.drop (i + 1)) acc O3, fun H' n => ⟨ds.length - (i + 1), by omega, rfl, hlt, n⟩, fun v H' hy => ?_⟩
    obtain ⟨F3, e3, rl3, rv⟩ := yl v H' hy
    refine ht F3 O2 H' v _ _ (wipeD δ vs) _ _ rl3 (((rs.up e1).wipes vs).up (e2.trans e3)) rv g2 fun δ4 O4 g4 σ4 w4 rl4 rs4 => ⟨w4.trans (by
      have : ∀ vs : List Nat, L2.wipe (L2.wipe σ vs) vs = L2.wipe σ vs := fun vs => by
        apply List.ext_getElem?
        intro j
        by_cases hj : j ∈ vs
        · cases q : (L2.wipe (L2.wipe σ vs) vs)[j]? with
          | none =>
            have z := List.getElem?_eq_none_iff.mp q
            rw [L2.wipe_length, L2.wipe_length] at z
            exact (List.getElem?_eq_none_iff.mpr (by rw [L2.wipe_length]; exact z)).symm
          | some u =>
            cases u with
            | some z => exact absurd hj (L2.wipe_some q).2
            | none =>
              have z := (List.getElem?_eq_some_iff.mp q).1
              rw [L2.wipe_length, L2.wipe_length] at z
              cases r : (L2.wipe σ vs)[j]? with
              | none =>
                have z2 := List.getElem?_eq_none_iff.mp r
                rw [L2.wipe_length] at z2
                omega
              | some u2 =>
                cases u2 with
                | none => rfl
                | some y => exact absurd hj (L2.wipe_some r).2
        · rw [L2.wipe_out hj]
      exact this vs), ?_⟩
    refine ⟨F3, O4, δ4, x0, _, xok0, rl4, rs4, g4, fun b O5 g5 F5 H5 e5 rl5 => ?_⟩
    have e15 := (e2.trans e3).trans e5
    cases b with
    | false =>
      rw [if_neg (by decide)] at g5
      show if false = true then _ else _
      rw [if_neg (by decide)]
      exact ⟨F5, O5, acc, e15, rl5, by omega, g5⟩
    | true =>
      rw [if_pos rfl] at g5
      show if true = true then _ else _
      rw [if_pos rfl]
      refine ⟨F5, O5, δ4, x0, _, xok0, rl5, rs4.up e5, g5, fun y O6 ⟨hp6, g6⟩ u F6 H6 e6 rl6 ru => ?_⟩
      obtain ⟨f6, w6, hw6, rw6⟩ := rl6.own p _ hp6
      cases rw6 with
      | @lst xs _ hz ra =>
        have hxl : xs.length = acc.length := ra.length
        have hsz : xs.length < sizeLine := by omega
        refine ⟨xs, hw6, hsz, F6, _, acc ++ [y], e15.trans e6, rl6.write hp6 (.lst (by rw [List.length_append]; show xs.length + 1 ≤ _; omega) (ra.append (.cons ru .nil))), by rw [List.length_append]; show acc.length + 1 ≤ _; omega, g6⟩
  · have e : i = ds.length := by omega
    subst e
    rw [List.drop_length] at g2
    unfold lcD at g2
    obtain ⟨hcO, hpO, g2⟩ := g2
    refine .inl ⟨(io F2 O2 H2 e2 rl2 hcO ds.length).1 (Nat.le_refl _), ?_⟩
    cases own with
    | true =>
      rw [if_pos rfl] at g2
      exact vk _ _ g2 _ F2 H2 (e1.trans e2) rl2 (.ref p)
    | false =>
      rw [if_neg (by decide)] at g2
      obtain ⟨u, hu, f, ru, rl3⟩ := rl2.freeze hpO
      cases ru with
      | lst hz ra => exact vk _ _ g2 _ _ H2 ((e1.trans e2).trans (same_upd f)) rl3 (.lst upd_same hz (ra.up (same_upd f)))
section
variable {X : Cx} {W : WX} {elt tg iter : Expr} {ifs : List Expr} {scope : Scope} {own : List (Str × Nat)} {pos : Pos} {gi : GI} {t : TG} {gg : GG} {gt : GT} {ge : GE}
abbrev DTs (X : Cx) (W : WX) (ifs : List Expr) (g : GT) : Prop := PTs X ifs (tDT X.K W g)
theorem dts_nil : DTs X W [] gYes := ⟨fun pins s σ H Q I ⟨F, O, δ, x, k, xo, rl, rs, g, vk⟩ => pts_nil.run pins s σ H Q I (vk true O g F H (Same.refl F) rl)⟩
theorem dts_one {c : Expr} (h : DT X W c gt) : DTs X W [c] gt := pts_one h
theorem de_lc (hc : X.calm = true) (hN : X.N.Nodup) (hi : DI X W tg iter gi) (ok : BlkOk X.N X.env.scope scope own) (hT : TgOk X.K (own.map (·.2)) t gg)
    (hg : ∀ (s : Shared) (H : Hp) (C : Addr) (cl : List (Str × Addr)) (fp : List Addr), PG (X.blk s H scope (compEnvC scope cl C X.env) fp) tg t)
    (ht : ∀ (s : Shared) (H : Hp) (C : Addr) (cl : List (Str × Addr)) (fp : List Addr), DTs (X.blk s H scope (compEnvC scope cl C X.env) fp) W0 ifs gt)
    (he : ∀ (s : Shared) (H : Hp) (C : Addr) (cl : List (Str × Addr)) (fp : List Addr), DE (X.blk s H scope (compEnvC scope cl C X.env) fp) W0 elt ge) (hs : ∀ x, foldedSetIterable iter X.env x = pure x := by intro _; rfl) :
    DE X W (.ListComp elt [⟨tg, iter, ifs, 0⟩] scope pos) (gLc gi gg gt ge (own.map (·.2))) := pe_weak (pe_lc hc hN hi ok hg ht he hs) fun _ _ _ t => lc_weak hT false (by simp only [Bool.false_eq_true, if_false]; exact t)
theorem de_lcO (hc : X.calm = true) (hN : X.N.Nodup) (hi : DI X W tg iter gi) (ok : BlkOk X.N X.env.scope scope own) (hT : TgOk X.K (own.map (·.2)) t gg)
    (hg : ∀ (s : Shared) (H : Hp) (C : Addr) (cl : List (Str × Addr)) (fp : List Addr), PG (X.blk s H scope (compEnvC scope cl C X.env) fp) tg t)
    (ht : ∀ (s : Shared) (H : Hp) (C : Addr) (cl : List (Str × Addr)) (fp : List Addr), DTs (X.blk s H scope (compEnvC scope cl C X.env) fp) W0 ifs gt)
    (he : ∀ (s : Shared) (H : Hp) (C : Addr) (cl : List (Str × Addr)) (fp : List Addr), DE (X.blk s H scope (compEnvC scope cl C X.env) fp) W0 elt ge) (hs : ∀ x, foldedSetIterable iter X.env x = pure x := by intro _; rfl) :
    DE X W (.ListComp elt [⟨tg, iter, ifs, 0⟩] scope pos) (gLcO gi gg gt ge (own.map (·.2))) := pe_weak (pe_lc hc hN hi ok hg ht he hs) fun _ _ _ t => lc_weak hT true (by simp only [if_true]; exact t)
/-- y = [..] on one line -/
theorem ds_setLc {i : Nat} {y : Str} {py spos : Pos} (hc : X.calm = true) (hN : X.N.Nodup) (hy : X.N[i]? = some y) (hyl : X.env.scope.names.lookup y = some .local)
    (hsw : swapsWith (.ListComp elt [⟨tg, iter, ifs, 0⟩] scope pos) (some (.Name y py)) spos.line X.env = pure true) (hi : DI X W tg iter gi) (ok : BlkOk X.N X.env.scope scope own) (hT : TgOk X.K (own.map (·.2)) t gg)
    (hg : ∀ (s : Shared) (H : Hp) (C : Addr) (cl : List (Str × Addr)) (fp : List Addr), PG (X.blk s H scope (compEnvC scope cl C X.env) fp) tg t)
    (ht : ∀ (s : Shared) (H : Hp) (C : Addr) (cl : List (Str × Addr)) (fp : List Addr), DTs (X.blk s H scope (compEnvC scope cl C X.env) fp) W0 ifs gt)
    (he : ∀ (s : Shared) (H : Hp) (C : Addr) (cl : List (Str × Addr)) (fp : List Addr), DE (X.blk s H scope (compEnvC scope cl C X.env) fp) W0 elt ge) (hs : ∀ x, foldedSetIterable iter X.env x = pure x := by intro _; rfl) :
    DS X W (.Assign [.Name y py] (.ListComp elt [⟨tg, iter, ifs, 0⟩] scope pos) spos) (sAsg (gLc gi gg gt ge (own.map (·.2))) (tgName i)) := ps_weak (ps_setLc hc hN hy hyl hsw hi ok hg ht he hs) fun D σ H ⟨F, O, δ, x, E, xo, rl, rs, g, ek⟩ =>
  lc_weak hT false ⟨F, O, δ, x, _, xo, rl, rs, (by simp only [Bool.false_eq_true, if_false]; exact g), fun d O1 g1 v F1 H1 e1 rl1 rv => ek.nx _ _ g1 _ F1 H1 e1 rl1 ((rs.up e1).set rv i)⟩
theorem ds_setLcO {i : Nat} {y : Str} {py spos : Pos} (hc : X.calm = true) (hN : X.N.Nodup) (hy : X.N[i]? = some y) (hyl : X.env.scope.names.lookup y = some .local)
    (hsw : swapsWith (.ListComp elt [⟨tg, iter, ifs, 0⟩] scope pos) (some (.Name y py)) spos.line X.env = pure true) (hi : DI X W tg iter gi) (ok : BlkOk X.N X.env.scope scope own) (hT : TgOk X.K (own.map (·.2)) t gg)
    (hg : ∀ (s : Shared) (H : Hp) (C : Addr) (cl : List (Str × Addr)) (fp : List Addr), PG (X.blk s H scope (compEnvC scope cl C X.env) fp) tg t)
    (ht : ∀ (s : Shared) (H : Hp) (C : Addr) (cl : List (Str × Addr)) (fp : List Addr), DTs (X.blk s H scope (compEnvC scope cl C X.env) fp) W0 ifs gt)
    (he : ∀ (s : Shared) (H : Hp) (C : Addr) (cl : List (Str × Addr)) (fp : List Addr), DE (X.blk s H scope (compEnvC scope cl C X.env) fp) W0 elt ge) (hs : ∀ x, foldedSetIterable iter X.env x = pure x := by intro _; rfl) :
    DS X W (.Assign [.Name y py] (.ListComp elt [⟨tg, iter, ifs, 0⟩] scope pos) spos) (sAsg (gLcO gi gg gt ge (own.map (·.2))) (tgName i)) := ps_weak (ps_setLc hc hN hy hyl hsw hi ok hg ht he hs) fun D σ H ⟨F, O, δ, x, E, xo, rl, rs, g, ek⟩ =>
  lc_weak hT true ⟨F, O, δ, x, _, xo, rl, rs, (by simp only [if_true]; exact g), fun d O1 g1 v F1 H1 e1 rl1 rv => ek.nx _ _ g1 _ F1 H1 e1 rl1 ((rs.up e1).set rv i)⟩
end
end DW

set_option Elab.async false
set_option linter.all false
set_option maxRecDepth 100000
set_option maxHeartbeats 2000000
namespace DW
open PySem L2 PySem.Spec PyProof.Rows

/-! ### freezing at a def's end -/
mutual
def D.sub (p : Addr) (e : D) : D → D
  | .ref a => if a = p then e else .ref a
  | .lst ds => .lst (D.subs p e ds)
  | .tup ds => .tup (D.subs p e ds)
  | d => d
def D.subs (p : Addr) (e : D) : List D → List D
  | [] => []
  | d :: ds => D.sub p e d :: D.subs p e ds
end
section
variable {K : PySem.W.Frag} {F F' : Hp} {p : Addr} {e : D}
mutual
theorem Rep.sub (s : Same F F') (he : Rep K F' (.ref p) e) : ∀ (d : D) (v : V), Rep K F v d → Rep K F' v (D.sub p e d)
  | .ref a, v, h => by
    cases h
    unfold D.sub
    split
    · rename_i q; subst q; exact he
    · exact .ref a
  | .lst ds, v, h => by cases h with | lst a b c => unfold D.sub; exact .lst (s _ _ a) b (RepA.sub s he ds _ c)
  | .tup ds, v, h => by cases h with | tup a b c => unfold D.sub; exact .tup (Same.tuq s a) b (RepA.sub s he ds _ c)
  | .non, v, h => h.up s
  | .bl _, v, h => h.up s
  | .int _, v, h => h.up s
  | .str _, v, h => h.up s
  | .ty _, v, h => h.up s
  | .dic _, v, h => h.up s
  | .ins _ _, v, h => h.up s
  | .scr _, v, h => h.up s
theorem RepA.sub (s : Same F F') (he : Rep K F' (.ref p) e) : ∀ (ds : List D) (vs : List V), RepA K F vs ds → RepA K F' vs (D.subs p e ds)
  | [], _, h => by cases h; exact .nil
  | d :: ds, _, h => by cases h with | cons a b => exact .cons (Rep.sub s he d _ a) (RepA.sub s he ds _ b)
end
end
inductive Frz : Oh → D → Oh → D → Prop
  | refl {O : Oh} {d : D} : Frz O d O d
  | drop {O O' : Oh} {d : D} : (∀ a o, O' a = some o → O a = some o) → Frz O d O' d
  | lst {O : Oh} {d : D} {p : Addr} {ds : List D} : O p = some (.lst ds) → Frz O d (odel O p) (D.sub p (.lst ds) d)
  | dic {O : Oh} {d : D} {p : Addr} {ds : List (Key × D)} : O p = some (.dic ds) → Frz O d (odel O p) (D.sub p (.dic ds) d)
  | ins {O : Oh} {d : D} {p C : Addr} {ds : List (Str × D)} : O p = some (.ins C ds) → Frz O d (odel O p) (D.sub p (.ins C ds) d)
  | trans {O1 O2 O3 : Oh} {d1 d2 d3 : D} : Frz O1 d1 O2 d2 → Frz O2 d2 O3 d3 → Frz O1 d1 O3 d3
theorem Frz.ok {K : PySem.W.Frag} {O O' : Oh} {d d' : D} (f : Frz O d O' d') : ∀ {F H : Hp} {v : V}, Rl K F O H → Rep K F v d → ∃ F', Same F F' ∧ Rl K F' O' H ∧ Rep K F' v d' := by
  induction f with
  | refl => exact fun r h => ⟨_, Same.refl _, r, h⟩
  | drop q => exact fun r h => ⟨_, Same.refl _, r.sub q, h⟩
  | lst q =>
    intro F H v r h
    obtain ⟨u, hu, hF, ru, r2⟩ := r.freeze q
    cases ru with
    | lst hz ra => exact ⟨_, same_upd hF, r2, Rep.sub (same_upd hF) (.lst upd_same hz (ra.up (same_upd hF))) _ _ h⟩
  | dic q =>
    intro F H v r h
    obtain ⟨u, hu, hF, ru, r2⟩ := r.freeze q
    cases ru with
    | dic ra => exact ⟨_, same_upd hF, r2, Rep.sub (same_upd hF) (.dic upd_same (ra.up (same_upd hF))) _ _ h⟩
  | ins q =>
    intro F H v r h
    obtain ⟨u, hu, hF, ru, r2⟩ := r.freeze q
    cases ru with
    | ins ra => exact ⟨_, same_upd hF, r2, Rep.sub (same_upd hF) (.ins upd_same (ra.up (same_upd hF))) _ _ h⟩
  | trans _ _ ih1 ih2 =>
    intro F H v r h
    obtain ⟨F1, s1, r1, h1⟩ := ih1 r h
    obtain ⟨F2, s2, r2, h2⟩ := ih2 r1 h1
    exact ⟨F2, s1.trans s2, r2, h2⟩
def Fz (k : DK) : DK := fun d O => ∃ d' O', Frz O d O' d' ∧ k d' O'
theorem fz {k : DK} {d : D} {O : Oh} (h : k d O) : Fz k d O := ⟨d, O, .refl, h⟩
theorem VOk.fz {K : PySem.W.Frag} {F : Hp} {k : DK} {Q : VK} (h : VOk K F k Q) : VOk K F (Fz k) Q := fun d O ⟨d', O', f, kd⟩ v F1 H1 e1 rl1 rv => by
  obtain ⟨F2, s2, r2, h2⟩ := f.ok rl1 rv
  exact h d' O' kd v F2 H1 (e1.trans s2) r2 h2

/-! ### defs -/
abbrev FnG := List D → Oh → DK → EK → Prop
def EkOk (K : PySem.W.Frag) (F : Hp) (e : EK) (E : XK) : Prop := ∀ c fs O, e c fs O → ∀ od F' H', Same F F' → Rl K F' O H' → XRep K F' od fs → E c od H'
def spD (K : PySem.W.Frag) (γ : FnG) : Sp := fun vs H Q E => ∃ F O ds k e, Rl K F O H ∧ RepA K F vs ds ∧ γ ds O k e ∧ VOk K F k Q ∧ EkOk K F e E
structure FnD (P : Program) (w : World) (K : PySem.W.Frag) (mg : Str → Option Value) (base : Heap) (k : Nat) (f : Addr) (fd : FuncData) (ps : List Str) (γ : FnG) : Prop where
  len : ∀ ds O k e, γ ds O k e → ds.length = ps.length
  run : ∀ (A : Around) (outer : List Env) (s : Shared) (H : Hp) (args : Args) (us : List Value) (vs : List V) (Q : VK) (E : XK), A.guards = some [] → Room k A → Env0 P w K mg base A outer s H →
    BindsTo s fd args (ps.zip us) → Vals vs us → spD K γ vs H Q E → codeAny (model P w) A (.call (.ref f) args) (CR (L2.CX P w) outer P w H s Q E) s
theorem FnD.mono {P : Program} {w : World} {K : PySem.W.Frag} {mg : Str → Option Value} {base : Heap} {j k : Nat} {f : Addr} {fd : FuncData} {ps : List Str} {γ : FnG} (F : FnD P w K mg base j f fd ps γ) (h : j ≤ k) : FnD P w K mg base k f fd ps γ :=
  ⟨F.len, fun A outer s H args us vs Q E hG hr => F.run A outer s H args us vs Q E hG (hr.mono h)⟩
def startD (N : List Str) (ds : List D) : DEnv := ds.map some ++ List.replicate (N.length - ds.length) none
theorem repS_start {K : PySem.W.Frag} {F : Hp} {N : List Str} {vs : List V} {ds : List D} (h : RepA K F vs ds) : RepS K F (L2.start N vs) (startD N ds) where
  len := by
    unfold L2.start startD
    simp only [List.length_append, List.length_map, List.length_replicate, h.length]
  get := fun i d hd => by
    unfold startD at hd
    unfold L2.start
    by_cases hi : i < ds.length
    · rw [List.getElem?_append_left (by simpa using hi), List.getElem?_map] at hd
      rw [List.getElem?_append_left (by rw [List.length_map, h.length]; exact hi), List.getElem?_map]
      cases q : ds[i]? with
      | none => rw [q] at hd; cases hd
      | some d' =>
        rw [q] at hd
        cases hd
        obtain ⟨v, hv, rv⟩ := h.get q
        exact ⟨v, by rw [hv]; rfl, rv⟩
    · rw [List.getElem?_append_right (by simpa using hi), List.getElem?_replicate] at hd
      split at hd <;> cases hd
section
variable {P : Program} {w : World} {K : PySem.W.Frag} {mg : Str → Option Value} {base : Heap}
/-- the context of a def's body -/
abbrev cxD (P : Program) (w : World) (K : PySem.W.Frag) (mg : Str → Option Value) (base : Heap) (N : List Str) (qual : Str) (st : Stmt) (f : Addr) (cdv : Value) (A : Around) (outer : List Env) (s : Shared) (H : Hp) (E : XK) : Cx :=
  cxOf (L2.CX P w) P w K mg base N qual (defScope st) f cdv A outer s H E
abbrev wxD (E : XK) : WX := fun c d _ H => E c d H
/-- a def by its body: the derivation, then what its data-reading gives -/
theorem fnD_of {x qual : Str} {st : Stmt} {f : Addr} {fd : FuncData} {N ps : List Str} {k : Nat} {γ : FnG} {g : GS} (F : Fun K x qual st f fd) (S : FnScope N ps (defScope st)) (len : ∀ ds O k e, γ ds O k e → ds.length = ps.length)
    (der : ∀ (cdv : Value) (A : Around) (outer : List Env) (s : Shared) (H : Hp) (E : XK), A.guards = some [] → Room k (A.deeper (envOfC qual (defScope st) s.heap.objs.size f cdv)) → Takes (cxD P w K mg base N qual st f cdv A outer s H E) (wxD E) →
      DB (cxD P w K mg base N qual st f cdv A outer s H E) (wxD E) (defBody st) g)
    (law : ∀ ds O kd e, γ ds O kd e → g (fun _ => e) (startD N ds) O { nx := fun _ O' => Fz kd .non O', rt := Fz kd }) : FnD P w K mg base (k + 1) f fd ps γ := by
  obtain ⟨oc, od, kV, doc, pm, an, cdv, ct, osl, rfl, lk, hcd⟩ := F.ex
  refine ⟨len, fun A outer s H args us vs Q E hG hr e0 hb rv hsp => ?_⟩
  obtain ⟨F0, O, ds, kd, e, rl, ra, hγ, vk, ek⟩ := hsp
  have hlen : vs.length = ps.length := by rw [ra.length]; exact len _ _ _ _ hγ
  have stays : ∀ b o, base.get? b = some o → s.heap.get? b = some o := fun b o z => (e0.bs b o z).1
  have kinds : ∀ y ∈ ps.zip us, (defScope st).names.lookup y.1 = some .local ∨ ((defScope st).names.lookup y.1 = some .cell ∧ ((cellsFrom (s.heap.objs.size + 1) (defScope st).names []).lookup y.1).isSome = true) := by
    rintro ⟨n, v⟩ hy
    exact (S.par n (List.of_mem_zip hy).1).imp id fun q => ⟨q, PySem.W.cellsFrom_some _ _ _ (.inl q)⟩
  have KX := e0.mod.kin.keeps stays
  refine codeAny_call_function hr.depth (KX _ _ lk) rfl S.co S.gen rfl (PySem.W.codeRec_of KX hcd) (hb _ _ _ _ ?_)
  refine wpAny_newFunctionEnv_cells S.kind kinds ?_
  intro env he s1 inc
  subst he
  refine ⟨(e0.mod.nolimit.keeps stays).keeps inc.toInCall.keep, codeAny_func ?_⟩
  have dr := der cdv A outer s H E hG (hr.deeper _) (takes_of rfl rfl rfl rfl)
  have J0 : Inv (cxD P w K mg base N qual st f cdv A outer s H E) [] (L2.start N vs) H s1 := inv_start S hr.hd e0 hlen rv inc
  refine wpAny_mono (dr.run [] s1 (L2.start N vs) H { nx := fun _ H' => Q .non H', rt := Q } J0 ?_) ?_ fun _ _ z => z
  · refine ⟨F0, O, startD N ds, fun _ => e, _, ?_, rl, repS_start ra, law ds O kd e hγ, ?_, vk.fz, ?_, ?_⟩
    · exact fun δ c fs O' h σ od F' H' e1 r1 _ xr => ek c fs O' h od F' H' e1 r1 xr
    · exact fun δ O' h σ F' H' e1 r1 _ => vk.fz .non O' h .non F' H' e1 r1 .non
    · exact fun δ O' h => h.elim
    · exact fun δ O' h => h.elim
  · intro fl s' hs
    have close : ∀ {σ' : L2.St} {H' : Hp} {v : V} {u : Value}, Inv (cxD P w K mg base N qual st f cdv A outer s H E) [] σ' H' s' → RelV v u → Q v H' → CE outer P w H s Q u s' := by
      intro σ' H' v u J r q
      exact ⟨v, H', J.os, J.bare, J.base, J.hok, r, q⟩
    cases fl with
    | next => obtain ⟨σ', H', J, q⟩ := hs; exact close (v := V.non) (u := Value.none) J rfl q
    | ret u => obtain ⟨v, σ', H', J, r, q⟩ := hs; exact close J r q
    | brk => obtain ⟨_, _, _, q⟩ := hs; exact q.elim
    | cont => obtain ⟨_, _, _, q⟩ := hs; exact q.elim
end

/-! ### calls -/
def gCall (γ : FnG) (gr : GA) : GE := fun x δ O k => gr x δ O fun ds O1 => γ ds O1 k (x δ)
section
variable {X : Cx} {W : WX} {k : Nat} {f : Addr} {fd : FuncData} {ps : List Str} {γ : FnG} {x : Str} {p pos : Pos} {e : Expr} {es : List Expr} {gr : GA}
theorem run_fnD {pins : List (Addr × Obj)} {σ : L2.St} {H : Hp} {s : Shared} {Q : VK} {us ws : List Value} {vs : List V} {kw : List (Str × Value)} (F : FnD X.prog X.w X.K X.mg X.base k f fd ps γ) (hG : X.A.guards = some []) (hr : Room k X.A) (tk : Takes X W)
    (I : Inv X pins σ H s) (hb : BindsTo s fd ⟨us, kw⟩ (ps.zip ws)) (rv : Vals vs ws) (h : spD X.K γ vs H Q (fun c d H' => W c d σ H')) : codeAny (model X.prog X.w) X.A (.call (.ref f) ⟨us, kw⟩) (fun r s' => match r with | .ok (.ret u) => EP X pins σ Q u s' | .ok _ => False | .error e => X.xe e s') s := by
  refine codeAny_mono (F.run X.A X.stack s H ⟨us, kw⟩ ws vs Q (fun c d H' => W c d σ H') hG hr I.env0 hb rv h) ?_
  intro r s' hq
  cases r with
  | error e => exact tk e s' (XE.of_call I (fun _ _ _ z => z) hq)
  | ok fl =>
    cases fl with
    | ret u => exact I.after hq
    | _ => exact hq.elim
theorem de_call (F : FnD X.prog X.w X.K X.mg X.base k f fd ps γ) (hG : X.A.guards = some []) (hr : Room k X.A) (tk : Takes X W) (hg : Gl X x) (hm : X.mg x = some (.ref f)) (hk : PySem.W.keepIn X.K (.ref f) = true) (hb : Binds X.K fd ps [])
    (ha : DA X W (e :: es) gr) (hdb : (x == ("__debug__" : Str)) = false := by decide) (he : starEach (e :: es) X.env = (false, eval e X.env) :: starEach es X.env := by rfl) (hpl : (backTo pos (starEach es X.env)).any (·.1) = false := by rfl) :
    DE X W (.Call (.Name x p) (e :: es) [] pos) (gCall γ gr) := by
  refine ⟨fun pins s σ H Q I ⟨F0, O, δ, xd, kd, xo, rl, rs, g, vk⟩ => ?_⟩
  refine wpAny_Call_Name_kw (ld_glob I hg hm ?_ hdb)
  refine PySem.W.callWith_K (h₀ := X.base) I.ok.mod.kin hk (thn (ha.run pos pins s σ H (fun vs H1 => spD X.K γ vs H1 Q (fun c d H' => W c d σ H')) I ?_) ?_) he hpl
  · exact ⟨F0, O, δ, xd, _, xo, rl, rs, g, fun ds O1 g1 vs F1 H1 e1 rl1 rv => ⟨F1, O1, ds, kd, _, rl1, rv, g1, vk.up e1, fun c fs O2 h2 od F2 H2 e2 rl2 xr => xo δ c fs O2 h2 σ od F2 H2 (e1.trans e2) rl2 (rs.up (e1.trans e2)) xr⟩⟩
  · rintro us s1 ⟨vs, H1, I1, rv, q⟩
    have hl : us.length = ps.length := by
      obtain ⟨_, _, ds, _, _, _, ra, hγ, _⟩ := id q
      rw [← rv.length, ra.length]
      exact F.len _ _ _ _ hγ
    have b := hb s1 us I1.kIn (by rw [List.append_nil]; exact hl)
    rw [List.append_nil] at b
    refine ⟨I1.kIn, wpAny_call (codeAny_mono (run_fnD F hG hr tk I1 b rv q) ?_)⟩
    intro r s' hq
    cases r with
    | error e => exact hq
    | ok fl =>
      cases fl with
      | ret u => exact hq
      | _ => exact hq.elim
end
end DW

set_option Elab.async false
set_option linter.all false
set_option maxRecDepth 100000
set_option maxHeartbeats 2000000
namespace DW
open PySem L2

theorem strOk_app {x y : Str} (hx : PyData.strOk x = true) (hy : PyData.strOk y = true) : PyData.strOk (x ++ y) = true := by
  unfold PyData.strOk at *
  show (x.cps ++ y.cps).all _ = true
  rw [Array.all_append, hx, hy]; rfl

/-! ### arithmetic -/
def yAdd : G2 := fun a b O k => match a, b with
  | .int i, .int j => k (.int (i + j)) O
  | .str x, .str y => x.length + y.length ≤ sizeLine ∧ k (.str (x ++ y)) O
  | .tup xs, .tup ys => xs.length + ys.length ≤ sizeLine ∧ k (.tup (xs ++ ys)) O
  | a, b => ∃ xs ys, asL O a = some xs ∧ asL O b = some ys ∧ xs.length + ys.length ≤ sizeLine ∧ k (.lst (xs ++ ys)) O
def ySub : G2 := fun a b O k => ∃ i j, a = .int i ∧ b = .int j ∧ k (.int (i - j)) O
def yMul : G2 := fun a b O k => match a, b with
  | .int i, .int j => CMul i j ∧ k (.int (i * j)) O
  | a, b => ∃ xs n, asL O a = some xs ∧ b = .int n ∧ 0 ≤ n ∧ n < 2 ^ 63 ∧ xs.length * n.toNat ≤ sizeLine ∧ k (.lst (List.replicate n.toNat xs).flatten) O
def yDiv : G2 := fun a b O k => ∃ i j, a = .int i ∧ b = .int j ∧ 0 < j ∧ j < 1073741824 ∧ k (.int (i / j)) O
def yMod : G2 := fun a b O k => ∃ i j, a = .int i ∧ b = .int j ∧ 0 < j ∧ k (.int (i % j)) O
def yPow : G2 := fun a b O k => ∃ i j, a = .int i ∧ b = .int j ∧ CPow i j ∧ k (.int (i ^ j.toNat)) O
def yNeg : G1 := fun a O k => ∃ i, a = .int i ∧ k (.int (-i)) O
abbrev rAddA (K : PySem.W.Frag) : R2 := fun x y H Q => rI0 (fun i j => .int (i + j)) x y H Q ∨ ((∃ i j, x = .str i ∧ y = .str j ∧ i.length + j.length ≤ sizeLine ∧ Q (.str (i ++ j)) H) ∨ (rCat x y H Q ∨ rCatA K x y H Q))
theorem rd_add {K : PySem.W.Frag} : R2D K (rAddA K) yAdd := fun F O H x y a b k Q rl rx ry g vk => by
  have lists : (∃ xs ys, asL O a = some xs ∧ asL O b = some ys ∧ xs.length + ys.length ≤ sizeLine ∧ k (.lst (xs ++ ys)) O) → rCat x y H Q := fun ⟨xs, ys, ea, eb, hl, g⟩ => by
    obtain ⟨p, us, rfl, hp, _, ra⟩ := rep_asL rl rx ea
    obtain ⟨q, ws, rfl, hq, _, rb⟩ := rep_asL rl ry eb
    have hz : us.length + ws.length ≤ sizeLine := by rw [ra.length, rb.length]; exact hl
    exact ⟨p, q, us, ws, rfl, rfl, hp, hq, hz, fun r hr => vk.laid rl hr g (.lst upd_same (by rw [List.length_append]; exact hz) ((ra.append rb).up (same_upd (rl.freeF hr))))⟩
  unfold yAdd at g
  split at g
  · cases rx; cases ry; exact .inl ⟨_, _, rfl, rfl, vk _ _ g _ F H (Same.refl F) rl (.int _)⟩
  · cases rx with
    | str _ l1 o1 =>
      cases ry with
      | str _ l2 o2 =>
        obtain ⟨hl, g⟩ := g
        exact .inr (.inl ⟨_, _, rfl, rfl, hl, vk _ _ g _ F H (Same.refl F) rl (.str _ (by show Array.size (_ ++ _) ≤ _; rw [Array.size_append]; exact hl) (strOk_app o1 o2))⟩)
  · cases rx with
    | @tup p us _ hp _ ra =>
      cases ry with
      | @tup q ws _ hq _ rb =>
        obtain ⟨hl, g⟩ := g
        have hz : us.length + ws.length ≤ sizeLine := by rw [ra.length, rb.length]; exact hl
        refine .inr (.inr (.inr ⟨p, q, us, ws, rfl, rfl, Same.tuq rl.same hp, Same.tuq rl.same hq, hz, fun e => ?_, fun _ e => ?_, fun _ _ r hr => ?_⟩))
        · subst e; cases ra
          exact vk _ _ g _ F H (Same.refl F) rl (.tup hq (by omega) rb)
        · subst e; cases rb
          exact vk _ _ g _ F H (Same.refl F) rl (by rw [List.append_nil]; exact .tup hp (by omega) ra)
        · exact vk.laid rl hr g (.tup (.inl (.inl upd_same)) (by rw [List.length_append]; exact hz) ((ra.append rb).up (same_upd (rl.freeF hr))))
  · exact .inr (.inr (.inl (lists g)))
theorem rd_sub {K : PySem.W.Frag} : R2D K (rI0 fun i j => .int (i - j)) ySub := fun F O H x y a b k Q rl rx ry ⟨i, j, ea, eb, g⟩ vk => by
  subst ea eb; cases rx; cases ry
  exact ⟨_, _, rfl, rfl, vk _ _ g _ F H (Same.refl F) rl (.int _)⟩
abbrev rMulA : R2 := fun x y H Q => rI CMul (fun i j => .int (i * j)) x y H Q ∨ rRep x y H Q
theorem rd_mul {K : PySem.W.Frag} : R2D K rMulA yMul := fun F O H x y a b k Q rl rx ry g vk => by
  unfold yMul at g
  split at g
  · cases rx; cases ry; exact .inl ⟨_, _, rfl, rfl, g.1, vk _ _ g.2 _ F H (Same.refl F) rl (.int _)⟩
  · obtain ⟨xs, n, ea, eb, h0, h1, hl, g⟩ := g
    subst eb
    cases ry
    obtain ⟨p, us, rfl, hp, _, ra⟩ := rep_asL rl rx ea
    refine .inr ⟨p, n, us, rfl, rfl, hp, by omega, h1, by rw [ra.length]; exact hl, fun r hr => vk.laid rl hr g (.lst upd_same ?_ ((ra.rep n.toNat).up (same_upd (rl.freeF hr))))⟩
    rw [List.length_flatten, List.map_replicate, List.sum_replicate_nat, Nat.mul_comm, ra.length]; exact hl
theorem rd_div {K : PySem.W.Frag} : R2D K (rI CDiv fun i j => .int (i / j)) yDiv := fun F O H x y a b k Q rl rx ry ⟨i, j, ea, eb, h1, h2, g⟩ vk => by
  subst ea eb; cases rx; cases ry
  exact ⟨_, _, rfl, rfl, ⟨h1, h2⟩, vk _ _ g _ F H (Same.refl F) rl (.int _)⟩
theorem rd_mod {K : PySem.W.Frag} : R2D K (rI (fun _ j => 0 < j) fun i j => .int (i % j)) yMod := fun F O H x y a b k Q rl rx ry ⟨i, j, ea, eb, h1, g⟩ vk => by
  subst ea eb; cases rx; cases ry
  exact ⟨_, _, rfl, rfl, h1, vk _ _ g _ F H (Same.refl F) rl (.int _)⟩
theorem rd_pow {K : PySem.W.Frag} : R2D K (rI CPow fun i j => .int (i ^ j.toNat)) yPow := fun F O H x y a b k Q rl rx ry ⟨i, j, ea, eb, h1, g⟩ vk => by
  subst ea eb; cases rx; cases ry
  exact ⟨_, _, rfl, rfl, h1, vk _ _ g _ F H (Same.refl F) rl (.int _)⟩
theorem rd_neg {K : PySem.W.Frag} : R1D K (rU fun i => .int (-i)) yNeg := fun F O H x a k Q rl rx ⟨i, ea, g⟩ vk => by
  subst ea; cases rx
  exact ⟨_, rfl, vk _ _ g _ F H (Same.refl F) rl (.int _)⟩
/-! ### comparisons -/
def yCmp (p : Int → Int → Bool) : G2 := fun a b O k => ∃ i j, a = .int i ∧ b = .int j ∧ k (.bl (p i j)) O
theorem rd_cmp {K : PySem.W.Frag} {p : Int → Int → Bool} : R2D K (rI0 fun i j => .bl (p i j)) (yCmp p) := fun F O H x y a b k Q rl rx ry ⟨i, j, ea, eb, g⟩ vk => by
  subst ea eb; cases rx; cases ry
  exact ⟨_, _, rfl, rfl, vk _ _ g _ F H (Same.refl F) rl (.bl _)⟩
def yEq : G2 := fun a b O k => plain 64 (res O a) = true ∧ plain 64 (res O b) = true ∧ k (.bl (eqD (res O a) (res O b))) O
def yNe : G2 := fun a b O k => plain 64 (res O a) = true ∧ plain 64 (res O b) = true ∧ k (.bl (!eqD (res O a) (res O b))) O
theorem rd_eq {K : PySem.W.Frag} : R2D K (rEqD K) yEq := fun F O H x y a b k Q rl rx ry ⟨pa, pb, g⟩ vk => by
  obtain ⟨d1, s1⟩ := res_dp rl rx pa
  obtain ⟨d2, s2⟩ := res_dp rl ry pb
  exact ⟨_, _, d1, d2, s1, s2, by rw [eqv_toPy 64 64 _ _ pa pb]; exact vk _ _ g _ F H (Same.refl F) rl (.bl _)⟩
theorem rd_ne {K : PySem.W.Frag} : R2D K (rNeD K) yNe := fun F O H x y a b k Q rl rx ry ⟨pa, pb, g⟩ vk => by
  obtain ⟨d1, s1⟩ := res_dp rl rx pa
  obtain ⟨d2, s2⟩ := res_dp rl ry pb
  exact ⟨_, _, d1, d2, s1, s2, by rw [eqv_toPy 64 64 _ _ pa pb]; exact vk _ _ g _ F H (Same.refl F) rl (.bl _)⟩
def flatD : D → Bool
  | .non => true
  | .bl _ => true
  | .int _ => true
  | .str _ => true
  | _ => false
def inD (a : D) (ds : List D) : Bool := ds.any fun y => eqD y a
theorem flat_v {K : PySem.W.Frag} {F : Hp} {v : V} {d : D} (r : Rep K F v d) (h : flatD d = true) : flatV v = true := by
  cases r <;> first | rfl | cases h
theorem flats_v {K : PySem.W.Frag} {F : Hp} : ∀ {vs : List V} {ds : List D}, RepA K F vs ds → ds.all flatD = true → vs.all flatV = true
  | _, _, .nil, _ => rfl
  | _, _, .cons a b, h => by
    rw [List.all_cons, Bool.and_eq_true] at h
    rw [List.all_cons, flat_v a h.1, flats_v b h.2]; rfl
theorem eq_v {K : PySem.W.Frag} {F : Hp} {u v : V} {c d : D} (ru : Rep K F u c) (rv : Rep K F v d) (hc : flatD c = true) (hd : flatD d = true) : eqV u v = eqD c d := by
  cases ru <;> cases rv <;> first | (simp [flatD] at hc; done) | (simp [flatD] at hd; done) | simp [eqV, eqD, Bool.beq_eq_decide_eq]
theorem in_v {K : PySem.W.Frag} {F : Hp} {v : V} {d : D} (rv : Rep K F v d) (hd : flatD d = true) : ∀ {vs : List V} {ds : List D}, RepA K F vs ds → ds.all flatD = true → inV v vs = inD d ds
  | _, _, .nil, _ => rfl
  | _, _, .cons a b, h => by
    rw [List.all_cons, Bool.and_eq_true] at h
    have ih := in_v rv hd b h.2
    unfold inV inD at ih ⊢
    rw [List.any_cons, List.any_cons, eq_v a rv h.1 hd, ih]
def yIn (neg : Bool) : G2 := fun a b O k => match a, b with
  | .str x, .str z => ∃ c, x = ⟨#[c]⟩ ∧ k (.bl (if neg then !decide (c ∈ z.cps.toList) else decide (c ∈ z.cps.toList))) O
  | a, b => ∃ ds, asQ O b = some ds ∧ flatD a = true ∧ ds.all flatD = true ∧ k (.bl (if neg then !inD a ds else inD a ds)) O
abbrev rInA (K : PySem.W.Frag) : R2 := fun x y H Q => (∃ (c : Nat) (z : Str), x = .str ⟨#[c]⟩ ∧ y = .str z ∧ Q (.bl (decide (c ∈ z.cps.toList))) H) ∨ rIn K false x y H Q
abbrev rNotInA (K : PySem.W.Frag) : R2 := fun x y H Q => (∃ (c : Nat) (z : Str), x = .str ⟨#[c]⟩ ∧ y = .str z ∧ Q (.bl (!decide (c ∈ z.cps.toList))) H) ∨ rIn K true x y H Q
theorem rd_in {K : PySem.W.Frag} : R2D K (rInA K) (yIn false) := fun F O H x y a b k Q rl rx ry g vk => by
  unfold yIn at g
  split at g
  · obtain ⟨c, e, g⟩ := g
    cases rx; cases ry; subst e
    exact .inl ⟨c, _, rfl, rfl, vk _ _ g _ F H (Same.refl F) rl (.bl _)⟩
  · obtain ⟨ds, ed, ha, hf, g⟩ := g
    obtain ⟨p, xs, rfl, hq, _, ra⟩ := rep_asQ rl ry ed
    refine .inr ⟨p, xs, rfl, hq, flat_v rx ha, flats_v ra hf, ?_⟩
    rw [in_v rx ha ra hf]
    exact vk _ _ g _ F H (Same.refl F) rl (.bl _)
theorem rd_notIn {K : PySem.W.Frag} : R2D K (rNotInA K) (yIn true) := fun F O H x y a b k Q rl rx ry g vk => by
  unfold yIn at g
  split at g
  · obtain ⟨c, e, g⟩ := g
    cases rx; cases ry; subst e
    exact .inl ⟨c, _, rfl, rfl, vk _ _ g _ F H (Same.refl F) rl (.bl _)⟩
  · obtain ⟨ds, ed, ha, hf, g⟩ := g
    obtain ⟨p, xs, rfl, hq, _, ra⟩ := rep_asQ rl ry ed
    refine .inr ⟨p, xs, rfl, hq, flat_v rx ha, flats_v ra hf, ?_⟩
    rw [in_v rx ha ra hf]
    exact vk _ _ g _ F H (Same.refl F) rl (.bl _)
def isNon : D → Bool
  | .non => true
  | _ => false
theorem isNon_v {K : PySem.W.Frag} {F : Hp} {v : V} {d : D} (r : Rep K F v d) : decide (v = .non) = isNon d := by
  cases r <;> simp [isNon]
def yIs (neg : Bool) : G2 := fun a b O k => match b with
  | .non => k (.bl (if neg then !isNon a else isNon a)) O
  | .bl q => ∃ p, a = .bl p ∧ k (.bl (if neg then !decide (p = q) else decide (p = q))) O
  | _ => False
abbrev rIsA : R2 := fun x y H Q => (y = .non ∧ Q (.bl (decide (x = .non))) H) ∨ rIsB x y H Q
abbrev rIsNotA : R2 := fun x y H Q => (y = .non ∧ Q (.bl (!decide (x = .non))) H) ∨ rNotB x y H Q
theorem rd_is {K : PySem.W.Frag} : R2D K rIsA (yIs false) := fun F O H x y a b k Q rl rx ry g vk => by
  unfold yIs at g
  split at g
  · cases ry
    exact .inl ⟨rfl, by rw [isNon_v rx]; exact vk _ _ g _ F H (Same.refl F) rl (.bl _)⟩
  · obtain ⟨p, ea, g⟩ := g
    subst ea; cases rx; cases ry
    exact .inr ⟨_, _, rfl, rfl, vk _ _ g _ F H (Same.refl F) rl (.bl _)⟩
  · exact g.elim
theorem rd_isNot {K : PySem.W.Frag} : R2D K rIsNotA (yIs true) := fun F O H x y a b k Q rl rx ry g vk => by
  unfold yIs at g
  split at g
  · cases ry
    exact .inl ⟨rfl, by rw [isNon_v rx]; exact vk _ _ g _ F H (Same.refl F) rl (.bl _)⟩
  · obtain ⟨p, ea, g⟩ := g
    subst ea; cases rx; cases ry
    exact .inr ⟨_, _, rfl, rfl, vk _ _ g _ F H (Same.refl F) rl (.bl _)⟩
  · exact g.elim

/-! ### subscripts, slices -/
def yIx : G2 := fun a b O k => match a with
  | .str z => ∃ i c, b = .int i ∧ atI z.cps.toList i = some c ∧ k (.str ⟨#[c]⟩) O
  | a => ∃ ds i d, asQ O a = some ds ∧ b = .int i ∧ atI ds i = some d ∧ k d O
theorem atI_rep {K : PySem.W.Frag} {F : Hp} {xs : List V} {ds : List D} {i : Int} {d : D} (ra : RepA K F xs ds) (h : atI ds i = some d) : ∃ v, atI xs i = some v ∧ Rep K F v d := by
  unfold atI at h ⊢
  rw [ra.length]
  cases q : ixN ds.length i with
  | none => rw [q] at h; cases h
  | some j =>
    rw [q] at h
    exact ra.get h
theorem strOk_one {z : Str} {i : Int} {c : Nat} (hz : PyData.strOk z = true) (h : atI z.cps.toList i = some c) : PyData.strOk ⟨#[c]⟩ = true := by
  obtain ⟨j, _, hj, _⟩ := atI_get h
  have hm := List.mem_of_getElem? hj
  unfold PyData.strOk at hz ⊢
  rw [Array.all_eq_true'] at hz
  have := hz c (Array.mem_def.mpr hm)
  simpa using this
theorem rd_ix {K : PySem.W.Frag} : R2D K (rIx K) yIx := fun F O H x y a b k Q rl rx ry g vk => by
  unfold yIx at g
  split at g
  · obtain ⟨i, c, eb, hc, g⟩ := g
    subst eb; cases ry
    cases rx with
    | str _ l o => exact .inr (.inr ⟨_, _, c, rfl, rfl, l, hc, vk _ _ g _ F H (Same.refl F) rl (.str _ (by show (1 : Nat) ≤ sizeLine; decide) (strOk_one o hc))⟩)
  · obtain ⟨ds, i, d, ed, eb, hd, g⟩ := g
    subst eb; cases ry
    obtain ⟨p, xs, rfl, hq, _, ra⟩ := rep_asQ rl rx ed
    obtain ⟨v, hv, rv⟩ := atI_rep ra hd
    rcases hq with hq | hq
    · exact .inl ⟨p, xs, i, v, rfl, rfl, hq, hv, vk _ _ g _ F H (Same.refl F) rl rv⟩
    · exact .inr (.inl ⟨p, xs, i, v, rfl, rfl, hq, hv, vk _ _ g _ F H (Same.refl F) rl rv⟩)
section
variable {X : Cx} {W : WX} {a b : Expr} {ga gb : GE} {pos : Pos}
theorem de_ix (ha : DE X W a ga) (hb : DE X W b gb) (hs : PlainIx b := by intro _ _; rfl) : DE X W (.Subscript a b pos) (gOp yIx ga gb) := pe_weak (pe_ix ix_seq ha hb hs) fun _ _ _ t => op_weak rd_ix t
end
abbrev GO := Xd → DEnv → Oh → (Option Int → Oh → Prop) → Prop
def tDO (K : PySem.W.Frag) (W : WX) (g : GO) : TO := fun σ H Q => ∃ F O δ x k, XOk K W F x ∧ Rl K F O H ∧ RepS K F σ δ ∧ g x δ O k ∧ ∀ b O', k b O' → ∀ F' H', Same F F' → Rl K F' O' H' → Q b H'
abbrev DO (X : Cx) (W : WX) (e : Option Expr) (g : GO) : Prop := PO X e (tDO X.K W g)
def gNoPart : GO := fun _ _ O k => k none O
def gPart (g : GE) : GO := fun x δ O k => g x δ O fun d O1 => ∃ i, d = .int i ∧ k (some i) O1
def cutL {α : Type} (xs : List α) (lo hi : Option Int) : List α := (xs.drop (HT.sIx xs.length 0 lo)).take (HT.sIx xs.length xs.length hi - HT.sIx xs.length 0 lo)
abbrev GSl := D → Option Int → Option Int → Oh → DK → Prop
def gSl (γ : GSl) (ge : GE) (gl gh : GO) : GE := fun x δ O k => ge x δ O fun a O1 => gl x δ O1 fun l O2 => gh x δ O2 fun u O3 => γ a l u O3 k
def ySl : GSl := fun a lo hi O k => match a with
  | .str z => k (.str (cutS z lo hi)) O
  | .tup ds => k (.tup (cutL ds lo hi)) O
  | a => ∃ ds, asQ O a = some ds ∧ k (.lst (cutL ds lo hi)) O
/-- the new list is owned -/
def ySlO : GSl := fun a lo hi O k => ∃ ds, asQ O a = some ds ∧ (∀ xs, a ≠ .tup xs) ∧ ∀ p, O p = none → k (.ref p) (oupd O p (.lst (cutL ds lo hi)))
theorem cut_rep {K : PySem.W.Frag} {F : Hp} {xs : List V} {ds : List D} (ra : RepA K F xs ds) (lo hi : Option Int) : RepA K F (cutV xs lo hi) (cutL ds lo hi) := by
  unfold cutV cutL
  rw [ra.length]
  exact (ra.drop _).take _
theorem sl_weak {K : PySem.W.Frag} {W : WX} {r : V → Option Int → Option Int → Hp → VK → Prop} {γ : GSl} {ge : GE} {gl gh : GO}
    (h : ∀ F O H x a lo hi k Q, Rl K F O H → Rep K F x a → γ a lo hi O k → VOk K F k Q → r x lo hi H Q) {σ : L2.St} {H : Hp} {Q : VK} (t : tD K W (gSl γ ge gl gh) σ H Q) : tSl r (tD K W ge) (tDO K W gl) (tDO K W gh) σ H Q := by
  obtain ⟨F, O, δ, x, k, xo, rl, rs, g, vk⟩ := t
  exact ⟨F, O, δ, x, _, xo, rl, rs, g, fun a O1 g1 v F1 H1 e1 rl1 rv => ⟨F1, O1, δ, x, _, xo.up e1, rl1, rs.up e1, g1, fun lo O2 g2 F2 H2 e2 rl2 => ⟨F2, O2, δ, x, _, (xo.up e1).up e2, rl2, (rs.up e1).up e2, g2, fun hi O3 g3 F3 H3 e3 rl3 =>
    h F3 O3 H3 v a lo hi k Q rl3 ((rv.up e2).up e3) g3 (vk.up ((e1.trans e2).trans e3))⟩⟩⟩
theorem strOk_sub {z : Str} {l : List Nat} (hz : PyData.strOk z = true) (hl : ∀ c ∈ l, c ∈ z.cps.toList) : PyData.strOk ⟨l.toArray⟩ = true := by
  unfold PyData.strOk at hz ⊢
  rw [Array.all_eq_true'] at hz ⊢
  intro c hc
  exact hz c (Array.mem_def.mpr (hl c (by simpa using hc)))
theorem strOk_cut {z : Str} (lo hi : Option Int) (hz : PyData.strOk z = true) : PyData.strOk (cutS z lo hi) = true ∧ (cutS z lo hi).length ≤ z.length := by
  unfold cutS
  constructor
  · exact strOk_sub hz fun c hc => List.mem_of_mem_drop (List.mem_of_mem_take hc)
  · show (List.toArray _).size ≤ z.cps.size
    simp only [List.size_toArray, List.length_take, List.length_drop, Array.length_toList]
    omega
abbrev rSlAll (K : PySem.W.Frag) : V → Option Int → Option Int → Hp → VK → Prop := fun x lo hi H Q => rSlL K x lo hi H Q ∨ (rSlA K x lo hi H Q ∨ rSlS x lo hi H Q)
theorem rd_sl {K : PySem.W.Frag} : ∀ F O H x a lo hi k Q, Rl K F O H → Rep K F x a → ySl a lo hi O k → VOk K F k Q → rSlAll K x lo hi H Q := fun F O H x a lo hi k Q rl rx g vk => by
  unfold ySl at g
  split at g
  · cases rx with
    | str _ l o => exact .inr (.inr ⟨_, rfl, l, vk _ _ g _ F H (Same.refl F) rl (.str _ (Nat.le_trans (strOk_cut lo hi o).2 l) (strOk_cut lo hi o).1)⟩)
  · rename_i ds
    cases rx with
    | @tup p us _ hp hz ra =>
      have hz2 : (cutV us lo hi).length ≤ sizeLine := Nat.le_trans (cutV_length us lo hi) hz
      refine .inr (.inl ⟨p, us, rfl, Same.tuq rl.same hp, fun hw => ?_, fun _ r hr => vk.laid rl hr g (.tup (.inl (.inl upd_same)) hz2 ((cut_rep ra lo hi).up (same_upd (rl.freeF hr))))⟩)
      have e : cutL ds lo hi = ds := by
        unfold cutL
        rw [← ra.length, hw.1, hw.2, List.drop_zero, Nat.sub_zero, ra.length, List.take_length]
      rw [e] at g
      exact vk _ _ g _ F H (Same.refl F) rl (.tup hp hz ra)
  · rename_i n1 n2
    obtain ⟨ds, ed, g⟩ := g
    have : ∃ p xs, x = .ref p ∧ SqL K H p xs ∧ xs.length ≤ sizeLine ∧ RepA K F xs ds := by
      cases a with
      | tup xs => exact absurd rfl (n2 xs)
      | lst xs => obtain ⟨p, us, e, hp, hz, ra⟩ := rep_asL rl rx (show asL O (.lst xs) = some ds from ed); exact ⟨p, us, e, SqL.of hp, hz, ra⟩
      | ref q => obtain ⟨p, us, e, hp, hz, ra⟩ := rep_asL rl rx (show asL O (.ref q) = some ds from ed); exact ⟨p, us, e, SqL.of hp, hz, ra⟩
      | scr ns =>
        cases rx with
        | scr hq hz => simp only [asQ, Option.some.injEq] at ed; subst ed; exact ⟨_, _, rfl, rl.same.seq hq, by rw [List.length_map]; exact hz, RepA.of_ints ns⟩
      | _ => simp [asQ] at ed
    obtain ⟨p, us, rfl, hp, hz, ra⟩ := this
    exact .inl ⟨p, us, rfl, hp, fun r hr => vk.laid rl hr g (.lst upd_same (Nat.le_trans (cutV_length us lo hi) hz) ((cut_rep ra lo hi).up (same_upd (rl.freeF hr))))⟩
section
variable {X : Cx} {W : WX} {e : Expr} {ge : GE} {lo hi : Option Expr} {gl gh : GO} {pos p2 : Pos}
theorem do_none : DO X W none gNoPart := ⟨fun pins s σ H Q I ⟨F, O, δ, x, k, xo, rl, rs, g, vk⟩ => po_none.run pins s σ H Q I (vk none O g F H (Same.refl F) rl)⟩
theorem do_some (h : DE X W e ge) : DO X W (some e) (gPart ge) := ⟨fun pins s σ H Q I ⟨F, O, δ, x, k, xo, rl, rs, g, vk⟩ => (po_some h).run pins s σ H Q I (by
  refine ⟨F, O, δ, x, _, xo, rl, rs, g, fun d O1 ⟨i, ed, g1⟩ v F1 H1 e1 rl1 rv => ?_⟩
  subst ed; cases rv
  exact ⟨i, rfl, vk _ _ g1 F1 H1 e1 rl1⟩)⟩
theorem de_slice (he : DE X W e ge) (hl : DO X W lo gl) (hu : DO X W hi gh) : DE X W (.Subscript e (.Slice lo hi none p2) pos) (gSl ySl ge gl gh) := pe_weak (pe_slice (sl_list.or (sl_tupA.or sl_str)) he hl hu) fun _ _ _ t => sl_weak rd_sl t
/-- xs[::-1] -/
def yRev : G1 := fun a O k => ∃ ds, asL O a = some ds ∧ k (.lst ds.reverse) O
theorem de_rev {j : Nat} {p1 p3 p4 : Pos} (he : DE X W e ge) : DE X W (.Subscript e (.Slice none none (some (.UnaryOp .USub (.Constant (.int 1) j p1) p3)) p4) pos) (gUn yRev ge) := pe_weak (pe_revL he) fun σ H Q ⟨F, O, δ, x, k, xo, rl, rs, g, vk⟩ =>
  ⟨F, O, δ, x, _, xo, rl, rs, g, fun a O1 ⟨ds, ed, g1⟩ v F1 H1 e1 rl1 rv => by
    obtain ⟨p, us, rfl, hp, hz, ra⟩ := rep_asL rl1 rv ed
    exact ⟨p, us, rfl, SqL.of hp, fun r hr => (vk.up e1).laid rl1 hr g1 (.lst upd_same (by rw [List.length_reverse]; exact hz) (ra.reverse.up (same_upd (rl1.freeF hr))))⟩⟩
def yRevO : G1 := fun a O k => ∃ ds, asL O a = some ds ∧ ∀ p, O p = none → k (.ref p) (oupd O p (.lst ds.reverse))
theorem de_revO {j : Nat} {p1 p3 p4 : Pos} (he : DE X W e ge) : DE X W (.Subscript e (.Slice none none (some (.UnaryOp .USub (.Constant (.int 1) j p1) p3)) p4) pos) (gUn yRevO ge) := pe_weak (pe_revL he) fun σ H Q ⟨F, O, δ, x, k, xo, rl, rs, g, vk⟩ =>
  ⟨F, O, δ, x, _, xo, rl, rs, g, fun a O1 ⟨ds, ed, g1⟩ v F1 H1 e1 rl1 rv => by
    obtain ⟨p, us, rfl, hp, hz, ra⟩ := rep_asL rl1 rv ed
    exact ⟨p, us, rfl, SqL.of hp, fun r hr => vk _ _ (g1 r (rl1.freeO hr)) _ F1 _ e1 (rl1.mine hr (.lst (by rw [List.length_reverse]; exact hz) ra.reverse)) (.ref r)⟩⟩
end
end DW

set_option Elab.async false
set_option linter.all false
set_option maxRecDepth 100000
set_option maxHeartbeats 2000000
namespace DW
open PySem L2 PySem.Spec PyProof.Rows

/-! ### xs[::step], the step worth -1 -/
theorem pe_revS {X : Cx} {e stp : Expr} {te ts : TE} {p3 pos : Pos} (he : PE X e te) (hp : PE X stp ts) (hv : ∀ σ H Q, Q (.int (-1)) H → ts σ H Q)
    (hw : ∀ o i, subscripted (.Slice none none (some stp) p3) false o i = operate [o, i] (getItem o i)) : PE X (.Subscript e (.Slice none none (some stp) p3) pos) (tRevL X.K te) := by
  constructor
  intro pins s σ H Q I h
  refine Subscript_ (thn (he.run pins s σ H _ I h) ?_)
  rintro v s1 ⟨x, H1, I1, r1, a, xs, rfl, hx, q⟩
  cases r1
  refine wpAny_Slice (thn (po_none.run pins s1 σ H1 (fun o G => o = none ∧ G = H1) I1 ⟨rfl, rfl⟩) ?_)
  rintro vl s2 ⟨l, _, I2, pl, rfl, rfl⟩
  refine thn (po_none.run pins s2 σ _ (fun o G => o = none ∧ G = _) I2 ⟨rfl, rfl⟩) ?_
  rintro vu s3 ⟨u, _, I3, pu, rfl, rfl⟩
  refine thn ((po_some hp).run pins s3 σ _ (fun o G => o = some (-1) ∧ G = _) I3 (hv _ _ _ ⟨-1, rfl, rfl, rfl⟩)) ?_
  rintro vs s4 ⟨o, _, I4, ps, rfl, rfl⟩
  have I5 := I4.kept (h' := s4.heap.push { cls := .type "slice", data := .fields #[vl, vu, vs] }) (t' := s4.toks) fun b ob z => Heap.get?_push_of_some _ z
  obtain ⟨its, r, ht, hz⟩ := I5.list hx
  have hlen := r.length
  show wpAny _ _ (subscriptTail e (.Slice none none (some stp) p3) (.ref a) (.ref s4.heap.objs.size)) _ _ _
  refine tail_any (ops := [.ref a, .ref s4.heap.objs.size]) ht.isList.typeIs (PySem.slot_list_getitem.lookup) ?_ (hw _ _)
  refine wpAny_getItem_list_slice ht.isList (Heap.IsSliceOf.new _ vl vu vs) pl pu ps (by decide) ?_ (by rw [List.size_toArray]; omega)
  rw [PySem.W.krv_pick]
  refine ⟨.ref _, _, I5.laid (t' := s4.toks) (o := .lst xs.reverse) (fun b ob z => Heap.get?_push_of_some _ z) (Nat.le_refl _) ?_, rfl, ?_⟩
  · exact ⟨by rw [List.length_reverse]; exact hz, _, 0, r.reverse, Heap.get?_push_size _ rfl⟩
  · exact q _ (I5.hok.fresh (Nat.le_refl _))
section
variable {X : Cx} {W : WX} {e stp : Expr} {ge : GE} {ts : TE} {p3 pos : Pos}
theorem de_revS (he : DE X W e ge) (hp : PE X stp ts) (hv : ∀ σ H Q, Q (.int (-1)) H → ts σ H Q) (hw : ∀ o i, subscripted (.Slice none none (some stp) p3) false o i = operate [o, i] (getItem o i)) :
    DE X W (.Subscript e (.Slice none none (some stp) p3) pos) (gUn yRev ge) := pe_weak (pe_revS he hp hv hw) fun σ H Q ⟨F, O, δ, x, k, xo, rl, rs, g, vk⟩ =>
  ⟨F, O, δ, x, _, xo, rl, rs, g, fun a O1 ⟨ds, ed, g1⟩ v F1 H1 e1 rl1 rv => by
    obtain ⟨p, us, rfl, hp, hz, ra⟩ := rep_asL rl1 rv ed
    exact ⟨p, us, rfl, SqL.of hp, fun r hr => (vk.up e1).laid rl1 hr g1 (.lst upd_same (by rw [List.length_reverse]; exact hz) (ra.reverse.up (same_upd (rl1.freeF hr))))⟩⟩
theorem de_revSO (he : DE X W e ge) (hp : PE X stp ts) (hv : ∀ σ H Q, Q (.int (-1)) H → ts σ H Q) (hw : ∀ o i, subscripted (.Slice none none (some stp) p3) false o i = operate [o, i] (getItem o i)) :
    DE X W (.Subscript e (.Slice none none (some stp) p3) pos) (gUn yRevO ge) := pe_weak (pe_revS he hp hv hw) fun σ H Q ⟨F, O, δ, x, k, xo, rl, rs, g, vk⟩ =>
  ⟨F, O, δ, x, _, xo, rl, rs, g, fun a O1 ⟨ds, ed, g1⟩ v F1 H1 e1 rl1 rv => by
    obtain ⟨p, us, rfl, hp, hz, ra⟩ := rep_asL rl1 rv ed
    exact ⟨p, us, rfl, SqL.of hp, fun r hr => vk _ _ (g1 r (rl1.freeO hr)) _ F1 _ e1 (rl1.mine hr (.lst (by rw [List.length_reverse]; exact hz) ra.reverse)) (.ref r)⟩⟩
end

/-! ### built-in calls -/
abbrev GC := List D → Oh → DK → Prop
theorem repA1 {K : PySem.W.Frag} {F : Hp} {xs : List V} {d : D} (h : RepA K F xs [d]) : ∃ v, xs = [v] ∧ Rep K F v d := by
  cases h with | cons a b => cases b; exact ⟨_, rfl, a⟩
theorem repA2 {K : PySem.W.Frag} {F : Hp} {xs : List V} {d e : D} (h : RepA K F xs [d, e]) : ∃ v u, xs = [v, u] ∧ Rep K F v d ∧ Rep K F u e := by
  cases h with | cons a b => obtain ⟨u, rfl, r⟩ := repA1 b; exact ⟨_, _, rfl, a, r⟩
def cLen : GC := fun ds O k => ∃ d, ds = [d] ∧ match d with
  | .str x => k (.int x.length) O
  | d => ∃ xs, asQ O d = some xs ∧ k (.int xs.length) O
theorem rc_len {K : PySem.W.Frag} : RcD K (fun xs H Q => ∃ x n, xs = [x] ∧ LenV K x H n ∧ Q (.int n) H) cLen := fun F O H xs ds k Q rl ra ⟨d, ed, g⟩ vk => by
  subst ed
  obtain ⟨v, rfl, rv⟩ := repA1 ra
  split at g
  · cases rv with
    | str _ l o => exact ⟨_, _, rfl, ⟨l, rfl⟩, vk _ _ g _ F H (Same.refl F) rl (.int _)⟩
  · obtain ⟨ys, e, g⟩ := g
    obtain ⟨a, us, rfl, hq, _, rb⟩ := rep_asQ rl rv e
    rw [← rb.length] at g
    rcases hq with hq | hq
    · exact ⟨_, _, rfl, .inl ⟨us, hq, rfl⟩, vk _ _ g _ F H (Same.refl F) rl (.int _)⟩
    · exact ⟨_, _, rfl, .inr ⟨us, hq, rfl⟩, vk _ _ g _ F H (Same.refl F) rl (.int _)⟩
def cAbs : GC := fun ds O k => ∃ i, ds = [.int i] ∧ k (.int (if i < 0 then -i else i)) O
theorem rc_abs {K : PySem.W.Frag} : RcD K (fun xs H Q => ∃ i, xs = [.int i] ∧ Q (.int (if i < 0 then -i else i)) H) cAbs := fun F O H xs ds k Q rl ra ⟨i, ed, g⟩ vk => by
  subst ed
  obtain ⟨v, rfl, rv⟩ := repA1 ra
  cases rv
  exact ⟨i, rfl, vk _ _ g _ F H (Same.refl F) rl (.int _)⟩
def cInt : GC := fun ds O k => ∃ i, ds = [.int i] ∧ k (.int i) O
theorem rc_int {K : PySem.W.Frag} : RcD K (fun xs H Q => (∃ i, xs = [.int i] ∧ Q (.int i) H) ∨ ∃ k, xs = [.bl k] ∧ Q (.int (if k then 1 else 0)) H) cInt := fun F O H xs ds k Q rl ra ⟨i, ed, g⟩ vk => by
  subst ed
  obtain ⟨v, rfl, rv⟩ := repA1 ra
  cases rv
  exact .inl ⟨i, rfl, vk _ _ g _ F H (Same.refl F) rl (.int _)⟩
def cAll : GC := fun ds O k => ∃ (d : D) (bs : List Bool), ds = [d] ∧ asL O d = some (bs.map D.bl) ∧ k (.bl (bs.all id)) O
def cAny : GC := fun ds O k => ∃ (d : D) (bs : List Bool), ds = [d] ∧ asL O d = some (bs.map D.bl) ∧ k (.bl (bs.any id)) O
theorem rc_all {K : PySem.W.Frag} : RcD K (rAll K) cAll := fun F O H xs ds k Q rl ra ⟨d, bs, ed, e, g⟩ vk => by
  subst ed
  obtain ⟨v, rfl, rv⟩ := repA1 ra
  obtain ⟨a, us, rfl, hq, _, rb⟩ := rep_asL rl rv e
  have := rb.bls; subst this
  exact ⟨a, bs, rfl, SqL.of hq, vk _ _ g _ F H (Same.refl F) rl (.bl _)⟩
theorem rc_any {K : PySem.W.Frag} : RcD K (rAny K) cAny := fun F O H xs ds k Q rl ra ⟨d, bs, ed, e, g⟩ vk => by
  subst ed
  obtain ⟨v, rfl, rv⟩ := repA1 ra
  obtain ⟨a, us, rfl, hq, _, rb⟩ := rep_asL rl rv e
  have := rb.bls; subst this
  exact ⟨a, bs, rfl, SqL.of hq, vk _ _ g _ F H (Same.refl F) rl (.bl _)⟩
/-- sorted of ints -/
def cSortI : GC := fun ds O k => ∃ (d : D) (ns : List Int), ds = [d] ∧ asL O d = some (ns.map D.int) ∧ ∀ ns' : List Int, ns'.Perm ns → ns'.Pairwise (· ≤ ·) → k (.lst (ns'.map D.int)) O
theorem rc_sortI {K : PySem.W.Frag} : RcD K (rSortedI K) cSortI := fun F O H xs ds k Q rl ra ⟨d, ns, ed, e, g⟩ vk => by
  subst ed
  obtain ⟨v, rfl, rv⟩ := repA1 ra
  obtain ⟨a, us, rfl, hq, hz, rb⟩ := rep_asL rl rv e
  have := rb.ints; subst this
  refine ⟨a, ns, rfl, SqL.of hq, fun ns' p pm pw hp => vk.laid rl hp (g ns' pm pw) (.lst upd_same ?_ (RepA.of_ints ns'))⟩
  rw [List.length_map, pm.length_eq]
  rw [List.length_map] at hz
  exact hz
def cTuple : GC := fun ds O k => ∃ d, ds = [d] ∧ match d with
  | .tup xs => k (.tup xs) O
  | d => ∃ xs, asL O d = some xs ∧ k (.tup xs) O
theorem rc_tuple {K : PySem.W.Frag} : RcD K (fun xs H Q => ∃ p ys, xs = [.ref p] ∧ ((SqL K H p ys ∧ ∀ l, H l = none → Q (.ref l) (upd H l (.tup ys))) ∨ (SqT K H p ys ∧ Q (.ref p) H))) cTuple := fun F O H xs ds k Q rl ra ⟨d, ed, g⟩ vk => by
  subst ed
  obtain ⟨v, rfl, rv⟩ := repA1 ra
  split at g
  · cases rv with
    | tup ha hz rb => exact ⟨_, _, rfl, .inr ⟨Same.tuq rl.same ha, vk _ _ g _ F H (Same.refl F) rl (.tup ha hz rb)⟩⟩
  · obtain ⟨ys, e, g⟩ := g
    obtain ⟨a, us, rfl, hq, hz, rb⟩ := rep_asL rl rv e
    exact ⟨a, us, rfl, .inl ⟨SqL.of hq, fun l hl => vk.laid rl hl g (.tup (.inl (.inl upd_same)) hz (rb.up (same_upd (rl.freeF hl))))⟩⟩
def cList : GC := fun ds O k => ∃ d xs, ds = [d] ∧ asQ O d = some xs ∧ k (.lst xs) O
def cListO : GC := fun ds O k => ∃ d xs, ds = [d] ∧ asQ O d = some xs ∧ ∀ p, O p = none → k (.ref p) (oupd O p (.lst xs))
abbrev rListOf (K : PySem.W.Frag) : List V → Hp → VK → Prop := fun xs H Q => ∃ p ys, xs = [.ref p] ∧ (SqL K H p ys ∨ SqT K H p ys) ∧ ∀ l, H l = none → Q (.ref l) (upd H l (.lst ys))
theorem rc_list {K : PySem.W.Frag} : RcD K (rListOf K) cList := fun F O H xs ds k Q rl ra ⟨d, ys, ed, e, g⟩ vk => by
  subst ed
  obtain ⟨v, rfl, rv⟩ := repA1 ra
  obtain ⟨a, us, rfl, hq, hz, rb⟩ := rep_asQ rl rv e
  exact ⟨a, us, rfl, hq, fun l hl => vk.laid rl hl g (.lst upd_same hz (rb.up (same_upd (rl.freeF hl))))⟩
theorem rc_listO {K : PySem.W.Frag} : RcD K (rListOf K) cListO := fun F O H xs ds k Q rl ra ⟨d, ys, ed, e, g⟩ vk => by
  subst ed
  obtain ⟨v, rfl, rv⟩ := repA1 ra
  obtain ⟨a, us, rfl, hq, hz, rb⟩ := rep_asQ rl rv e
  exact ⟨a, us, rfl, hq, fun l hl => vk _ _ (g l (rl.freeO hl)) _ F _ (Same.refl F) (rl.mine hl (.lst hz rb)) (.ref l)⟩
def cMax2 : GC := fun ds O k => ∃ i j, ds = [.int i, .int j] ∧ k (.int (if j > i then j else i)) O
theorem rc_max2 {K : PySem.W.Frag} : RcD K (fun xs H Q => ∃ i j, xs = [.int i, .int j] ∧ Q (.int (if j > i then j else i)) H) cMax2 := fun F O H xs ds k Q rl ra ⟨i, j, ed, g⟩ vk => by
  subst ed
  obtain ⟨v, u, rfl, rv, ru⟩ := repA2 ra
  cases rv; cases ru
  exact ⟨i, j, rfl, vk _ _ g _ F H (Same.refl F) rl (.int _)⟩
/-! ### repr -/
theorem plain_mono : ∀ {n m : Nat} {d : D}, n ≤ m → plain n d = true → plain m d = true
  | n, m, .non, _, _ => by unfold plain; rfl
  | n, m, .bl _, _, _ => by unfold plain; rfl
  | n, m, .int _, _, _ => by unfold plain; rfl
  | n, m, .str _, _, _ => by unfold plain; rfl
  | 0, m, .lst ds, h, p => by simp [plain] at p
  | n + 1, 0, .lst ds, h, p => by omega
  | n + 1, m + 1, .lst ds, h, p => by
    simp only [plain, List.all_eq_true] at p ⊢
    exact fun x hx => plain_mono (by omega) (p x hx)
  | 0, m, .tup ds, h, p => by simp [plain] at p
  | n + 1, 0, .tup ds, h, p => by omega
  | n + 1, m + 1, .tup ds, h, p => by
    simp only [plain, List.all_eq_true] at p ⊢
    exact fun x hx => plain_mono (by omega) (p x hx)
  | n, m, .ty _, _, p => by cases n <;> simp [plain] at p
  | n, m, .ref _, _, p => by cases n <;> simp [plain] at p
  | n, m, .dic _, _, p => by cases n <;> simp [plain] at p
  | n, m, .ins _ _, _, p => by cases n <;> simp [plain] at p
  | n, m, .scr _, _, p => by cases n <;> simp [plain] at p
end DW

set_option Elab.async false
set_option linter.all false
set_option maxRecDepth 100000
set_option maxHeartbeats 2000000
namespace DW
open PySem L2 PySem.Spec PyProof.Rows

/-! ### texts that are well made -/
theorem strOk_list {l : List Nat} (h : ∀ c ∈ l, c < 0x110000) : PyData.strOk ⟨l.toArray⟩ = true := by
  unfold PyData.strOk
  rw [Array.all_eq_true']
  intro c hc
  exact decide_eq_true (h c (by simpa using hc))
theorem strOk_mem {x : Str} (h : PyData.strOk x = true) {c : Nat} (hc : c ∈ x.cps.toList) : c < 0x110000 := by
  unfold PyData.strOk at h
  rw [Array.all_eq_true'] at h
  exact of_decide_eq_true (h c (Array.mem_def.mpr hc))
theorem char_lt (c : Char) : c.toNat < 0x110000 := by
  have h := c.valid
  simp only [UInt32.isValidChar, Nat.isValidChar] at h
  show c.val.toNat < _
  omega
theorem strOk_ofString (s : String) : PyData.strOk (Str.ofString s) = true := by
  unfold Str.ofString
  rw [cpsOfBytes_string]
  apply strOk_list
  intro c hc
  obtain ⟨d, _, rfl⟩ := List.mem_map.mp hc
  exact char_lt d
theorem length_ofString (s : String) : (Str.ofString s).length = s.length := by
  unfold Str.ofString
  rw [cpsOfBytes_string]
  show (List.toArray _).size = _
  rw [List.size_toArray, List.length_map]
  exact String.length_toList
theorem str_app_length (x y : Str) : (x ++ y).length = x.length + y.length := by
  show (x.cps ++ y.cps).size = _
  rw [Array.size_append]; rfl
theorem hex_ok (c : Nat) : ∀ n ∈ (Nat.toDigits 16 c).map Char.toNat, n < 0x110000 := by
  intro n hn
  obtain ⟨d, _, rfl⟩ := List.mem_map.mp hn
  exact char_lt d
theorem reprChar_ok (q c : Nat) (hc : c < 0x110000) : ∀ n ∈ Builtin.Str.reprChar q c, n < 0x110000 := by
  intro n hn
  unfold Builtin.Str.reprChar at hn
  have hx : ∀ w : Nat, n ∈ (List.replicate (w - ((Nat.toDigits 16 c).map Char.toNat).length) 48 ++ (Nat.toDigits 16 c).map Char.toNat) → n < 0x110000 := by
    intro w h
    rcases List.mem_append.mp h with h | h
    · rw [(List.mem_replicate.mp h).2]; decide
    · exact hex_ok c n h
  simp only at hn
  repeat' split at hn
  all_goals first
    | (simp at hn; rcases hn with h | h <;> subst h <;> first | omega | assumption | decide)
    | (simp at hn; subst hn; assumption)
    | (rcases List.mem_append.mp hn with h | h
       · simp at h; omega
       · exact hx _ h)
theorem strOk_repr {x : Str} (h : PyData.strOk x = true) : PyData.strOk (reprText x) = true := by
  have hq : reprQuote x < 0x110000 := by unfold reprQuote; split <;> decide
  have key : ∀ (l : List Nat) (acc : Array Nat), (∀ c ∈ l, c < 0x110000) → (∀ c ∈ acc.toList, c < 0x110000) → ∀ c ∈ (l.foldl (fun out c => out ++ (Builtin.Str.reprChar (reprQuote x) c).toArray) acc).toList, c < 0x110000 := by
    intro l
    induction l with
    | nil => intro acc _ ha; exact ha
    | cons a r ih =>
      intro acc hl ha
      refine ih _ (fun c hc => hl c (List.mem_cons_of_mem _ hc)) ?_
      intro c hc
      simp only [Array.toList_append, List.mem_append] at hc
      rcases hc with hc | hc
      · exact ha c hc
      · exact reprChar_ok _ a (hl a List.mem_cons_self) c hc
  unfold reprText
  have e : ∀ a : Array Nat, (⟨a⟩ : Str) = ⟨a.toList.toArray⟩ := fun a => by simp
  rw [e]
  apply strOk_list
  intro c hc
  rw [Array.toList_push, List.mem_append, ← Array.foldl_toList] at hc
  rcases hc with hc | hc
  · exact key x.cps.toList #[reprQuote x] (fun c hc => strOk_mem h hc) (by simpa using hq) c hc
  · simp at hc; subst hc; exact hq
theorem strOk_join {s : Str} (hs : PyData.strOk s = true) : ∀ {ts : List Str}, (∀ t ∈ ts, PyData.strOk t = true) → PyData.strOk (Str.join s ts) = true
  | [], _ => by unfold Str.join; exact strOk_list (l := []) (fun _ h => nomatch h)
  | [x], h => by unfold Str.join; exact h x (by simp)
  | x :: y :: r, h => by
    unfold Str.join
    exact strOk_app (strOk_app (h x (by simp)) hs) (strOk_join hs fun t ht => h t (List.mem_cons_of_mem _ ht))
theorem strOk_from : ∀ {ts : List Str} {k : Nat} {acc : Str}, PyData.strOk acc = true → (∀ t ∈ ts, PyData.strOk t = true) → PyData.strOk (textFrom k acc ts) = true
  | [], _, _, ha, _ => by unfold textFrom; exact ha
  | t :: ts, k, acc, ha, h => by
    unfold textFrom
    exact strOk_from (strOk_app (strOk_app ha (strOk_ofString _)) (h t (by simp))) fun u hu => h u (List.mem_cons_of_mem _ hu)
mutual
theorem strOk_shown : ∀ d : PyData, d.canLay0 = true → PyData.strOk d.shown = true
  | .none, _ => by unfold PyData.shown; exact strOk_ofString _
  | .bool b, _ => by unfold PyData.shown; cases b <;> exact strOk_ofString _
  | .int i, _ => by unfold PyData.shown; exact strOk_ofString _
  | .str x, h => by unfold PyData.shown; exact strOk_repr (by simpa [PyData.canLay0] using h)
  | .list xs, h => by
    unfold PyData.shown listText
    exact strOk_app (strOk_from (strOk_ofString _) (strOk_shownAll xs (by simpa [PyData.canLay0] using h))) (strOk_ofString _)
  | .tuple xs, h => by
    unfold PyData.shown tupleText
    exact strOk_app (strOk_app (strOk_ofString _) (strOk_join (strOk_ofString _) (strOk_shownAll xs (by simpa [PyData.canLay0] using h)))) (strOk_ofString _)
  | .dict _, h => by simp [PyData.canLay0] at h
theorem strOk_shownAll : ∀ ds : List PyData, PyData.canLayAll0 ds = true → ∀ t ∈ PyData.shownAll ds, PyData.strOk t = true
  | [], _, t, ht => by simp [PyData.shownAll] at ht
  | d :: ds, h, t, ht => by
    simp only [PyData.canLayAll0, Bool.and_eq_true] at h
    simp only [PyData.shownAll, List.mem_cons] at ht
    rcases ht with e | ht
    · subst e; exact strOk_shown d h.1
    · exact strOk_shownAll ds h.2 t ht
end
/-! ### how long a text of data is -/
mutual
def wide : D → Nat
  | .bl _ => 5
  | .int i => i.natAbs.log2 + 3
  | .str x => 10 * x.length + 2
  | .lst ds => wides ds + 4
  | .tup ds => wides ds + 4
  | _ => 4
def wides : List D → Nat
  | [] => 0
  | d :: ds => wide d + 2 + wides ds
end
theorem from_len : ∀ (ts : List Str) (k : Nat) (acc : Str), (textFrom k acc ts).length ≤ acc.length + piled ts
  | [], k, acc => by unfold textFrom; simp [piled]
  | t :: ts, k, acc => by
    unfold textFrom
    refine Nat.le_trans (from_len ts _ _) ?_
    rw [str_app_length, str_app_length, piled_cons]
    have : (Str.ofString (if k > 0 then ", " else "")).length ≤ 2 := by rw [length_ofString]; split <;> decide
    have e : ((if k > 0 then ", " else "" : String) : Str).length = (Str.ofString (if k > 0 then ", " else "")).length := rfl
    omega
theorem join_len : ∀ ts : List Str, (Str.join ", " ts).length ≤ piled ts
  | [] => by unfold Str.join; show (0 : Nat) ≤ _; omega
  | x :: r => by have := join_length_add (x :: r) (by simp); omega
mutual
theorem shown_len : ∀ d : D, (∀ x, d = .str x → PyData.strOk x = true) → (toPy d).canLay0 = true → (toPy d).shown.length ≤ wide d
  | .non, _, _ => by simp only [toPy, PyData.shown, wide]; decide
  | .ty _, _, _ => by simp only [toPy, PyData.shown, wide]; decide
  | .ref _, _, _ => by simp only [toPy, PyData.shown, wide]; decide
  | .dic _, _, _ => by simp only [toPy, PyData.shown, wide]; decide
  | .ins _ _, _, _ => by simp only [toPy, PyData.shown, wide]; decide
  | .scr _, _, _ => by simp only [toPy, PyData.shown, wide]; decide
  | .bl b, _, _ => by simp only [toPy, PyData.shown, wide]; cases b <;> decide
  | .int i, _, _ => by
    simp only [toPy, PyData.shown, wide]
    have h := PySem.int_text_length_le (a := i) (k := i.natAbs.log2 + 1) (by omega) (by omega)
    have e := length_ofString (toString i)
    show (Str.ofString (toString i)).length ≤ _
    omega
  | .str x, h, _ => by
    simp only [toPy, PyData.shown, wide]
    exact PySem.StrLaws.reprText_len x fun c hc => Nat.lt_of_lt_of_le (strOk_mem (h x rfl) hc) (by decide)
  | .lst ds, _, h => by
    simp only [toPy, PyData.shown, wide, listText]
    have := from_len (PyData.shownAll (toPys ds)) 0 "["
    have q := shownAll_len ds (by simpa [toPy, PyData.canLay0] using h)
    rw [str_app_length]
    have e1 : (("[" : Str)).length = 1 := by decide
    have e2 : (("]" : Str)).length = 1 := by decide
    omega
  | .tup ds, _, h => by
    simp only [toPy, PyData.shown, wide, tupleText]
    have := join_len (PyData.shownAll (toPys ds))
    have q := shownAll_len ds (by simpa [toPy, PyData.canLay0] using h)
    rw [str_app_length, str_app_length]
    have e1 : (("(" : Str)).length = 1 := by decide
    have e2 : (Str.ofString (if ((PyData.shownAll (toPys ds)).length == 1) = true then ",)" else ")")).length ≤ 2 := by rw [length_ofString]; split <;> decide
    have e3 : ((if ((PyData.shownAll (toPys ds)).length == 1) = true then ",)" else ")" : String) : Str).length = (Str.ofString (if ((PyData.shownAll (toPys ds)).length == 1) = true then ",)" else ")")).length := rfl
    omega
theorem shownAll_len : ∀ ds : List D, PyData.canLayAll0 (toPys ds) = true → piled (PyData.shownAll (toPys ds)) ≤ wides ds
  | [], _ => by simp [toPys, PyData.shownAll, piled, wides]
  | d :: ds, h => by
    simp only [toPys, PyData.canLayAll0, Bool.and_eq_true] at h
    simp only [toPys, PyData.shownAll, wides, piled_cons]
    have a := shown_len d (fun x e => by subst e; simpa [toPy, PyData.canLay0] using h.1) h.1
    have b := shownAll_len ds h.2
    omega
end
mutual
theorem noDict : ∀ d : D, (toPy d).hasDict = false
  | .non => by simp [toPy, PyData.hasDict]
  | .ty _ => by simp [toPy, PyData.hasDict]
  | .ref _ => by simp [toPy, PyData.hasDict]
  | .dic _ => by simp [toPy, PyData.hasDict]
  | .ins _ _ => by simp [toPy, PyData.hasDict]
  | .scr _ => by simp [toPy, PyData.hasDict]
  | .bl b => by simp [toPy, PyData.hasDict]
  | .int i => by simp [toPy, PyData.hasDict]
  | .str x => by simp [toPy, PyData.hasDict]
  | .lst ds => by simp only [toPy, PyData.hasDict]; exact noDicts ds
  | .tup ds => by simp only [toPy, PyData.hasDict]; exact noDicts ds
theorem noDicts : ∀ ds : List D, PyData.hasDictAll (toPys ds) = false
  | [] => by simp [toPys, PyData.hasDictAll]
  | d :: ds => by simp [toPys, PyData.hasDictAll, noDict d, noDicts ds]
end
/-- ints that can be written out -/
def showN : Nat → D → Bool
  | _, .int i => decide (i.natAbs.log2 < 1920)
  | n + 1, .lst ds => ds.all (showN n)
  | n + 1, .tup ds => ds.all (showN n)
  | 0, .lst _ => false
  | 0, .tup _ => false
  | _, _ => true
theorem showsAll : ∀ (ds : List D), (∀ d ∈ ds, (toPy d).showable = true) → PyData.showableAll (toPys ds) = true
  | [], _ => by simp [toPys, PyData.showableAll]
  | d :: ds, h => by simp [toPys, PyData.showableAll, h d (by simp), showsAll ds fun x hx => h x (by simp [hx])]
theorem showN_ok : ∀ (n : Nat) (d : D), showN n d = true → (toPy d).showable = true
  | _, .int i, h => by simpa [toPy, PyData.showable, showN] using h
  | n + 1, .lst ds, h => by
    simp only [toPy, PyData.showable]
    simp only [showN, List.all_eq_true] at h
    exact showsAll ds fun d hd => showN_ok n d (h d hd)
  | n + 1, .tup ds, h => by
    simp only [toPy, PyData.showable]
    simp only [showN, List.all_eq_true] at h
    exact showsAll ds fun d hd => showN_ok n d (h d hd)
  | 0, .lst _, h => by simp [showN] at h
  | 0, .tup _, h => by simp [showN] at h
  | _, .non, _ => by simp [toPy, PyData.showable]
  | _, .bl _, _ => by simp [toPy, PyData.showable]
  | _, .str _, _ => by simp [toPy, PyData.showable]
  | _, .ty _, _ => by simp [toPy, PyData.showable]
  | _, .ref _, _ => by simp [toPy, PyData.showable]
  | _, .dic _, _ => by simp [toPy, PyData.showable]
  | _, .ins _ _, _ => by simp [toPy, PyData.showable]
  | _, .scr _, _ => by simp [toPy, PyData.showable]
/-- the text of data -/
def reprD (d : D) : Str := (toPy d).shown
def cRepr : GC := fun ds O k => ∃ d, ds = [d] ∧ (asQ O d).isSome = true ∧ plain 60 (res O d) = true ∧ showN 60 (res O d) = true ∧ wide (res O d) ≤ sizeLine ∧ k (.str (reprD (res O d))) O
def rRepr (K : PySem.W.Frag) : List V → Hp → VK → Prop := fun xs H Q => ∃ a d, xs = [.ref a] ∧ Dp K H (.ref a) d ∧ d.showable = true ∧ d.hasDict = false ∧ d.depth ≤ 60 ∧ d.shown.length ≤ sizeLine ∧ Q (.str d.shown) H
theorem call_reprD {X : Cx} (hG : X.A.guards = some []) (hu : X.A.units + 64 < cLine) : CallR X (.builtin "repr") (rRepr X.K) := by
  intro pins s σ H xs us Q I r ⟨a, d, e, hd, hs, hn, hdp, hl, q⟩
  subst e
  obtain ⟨u, rfl, ru⟩ := vals1 r
  obtain ⟨as, rd⟩ := Dp.reads I d _ _ hd ru
  cases ru
  refine repr_of_reads' rd hs (fun z => by rw [hn] at z; cases z) hG (by omega) (fun _ _ z => z) (fun h' u tk hk => ?_) hl
  exact ⟨.str d.shown, H, I.kept hk, ⟨_, rfl⟩, q⟩
theorem rc_repr {K : PySem.W.Frag} : RcD K (rRepr K) cRepr := fun F O H xs ds k Q rl ra ⟨d, ed, hq, hp, hs, hw, g⟩ vk => by
  subst ed
  obtain ⟨v, rfl, rv⟩ := repA1 ra
  obtain ⟨d1, s1⟩ := res_dp rl rv (plain_mono (by decide) hp)
  obtain ⟨ys, e⟩ := Option.isSome_iff_exists.mp hq
  obtain ⟨a, us, rfl, _, _, _⟩ := rep_asQ rl rv e
  have hlay := SeqAt.canLay_of_shaped s1
  have hlen : (toPy (res O d)).shown.length ≤ sizeLine := Nat.le_trans (shown_len _ (fun x ex => by rw [ex] at hlay; simpa [toPy, PyData.canLay0] using hlay) hlay) hw
  refine ⟨a, _, rfl, d1, showN_ok 60 _ hs, noDict _, ?_, hlen, vk _ _ g _ F H (Same.refl F) rl (.str _ hlen (strOk_shown _ hlay))⟩
  have dep : ∀ (n : Nat) (e : D), plain n e = true → (toPy e).depth ≤ n := by
    intro n
    induction n with
    | zero => intro e he; cases e <;> simp_all [plain, toPy, PyData.depth]
    | succ n ih =>
      have all : ∀ ds : List D, (∀ x ∈ ds, plain n x = true) → PyData.depthAll (toPys ds) ≤ n := by
        intro ds
        induction ds with
        | nil => intro _; simp [toPys, PyData.depthAll]
        | cons x ds ihl =>
          intro hx
          simp only [toPys, PyData.depthAll]
          have a := ih x (hx x (by simp))
          have b := ihl fun y hy => hx y (by simp [hy])
          omega
      intro e he
      cases e with
      | lst ds => simp only [toPy, PyData.depth]; have := all ds (by simpa [plain] using he); omega
      | tup ds => simp only [toPy, PyData.depth]; have := all ds (by simpa [plain] using he); omega
      | _ => simp_all [plain, toPy, PyData.depth]
  exact dep 60 _ hp
end DW

set_option Elab.async false
set_option linter.all false
set_option maxRecDepth 100000
set_option maxHeartbeats 2000000
namespace DW
open PySem L2

/-! ### methods of lists -/
def tyD (T : String) (O : Oh) (a : D) : Prop := match a with
  | .str _ => T = "str"
  | a => T = "list" ∧ (asL O a).isSome = true
theorem tyD_v {K : PySem.W.Frag} {F H : Hp} {O : Oh} {T : String} {v : V} {a : D} (rl : Rl K F O H) (rv : Rep K F v a) (h : tyD T O a) : tyV K T v H := by
  unfold tyD at h
  split at h
  · cases rv; exact h
  · obtain ⟨rfl, q⟩ := h
    obtain ⟨ds, e⟩ := Option.isSome_iff_exists.mp q
    obtain ⟨p, xs, rfl, hp, _, _⟩ := rep_asL rl rv e
    exact .inl ⟨rfl, xs, SqL.of hp⟩
abbrev GM := D → List D → Oh → DK → Prop
def gBM (T : String) (γ : GM) (go : GE) (gr : GA) : GE := fun x δ O k => go x δ O fun a O1 => tyD T O1 a ∧ gr x δ O1 fun ds O2 => γ a ds O2 k
def gBM0 (T : String) (γ : GM) (go : GE) : GE := fun x δ O k => go x δ O fun a O1 => tyD T O1 a ∧ γ a [] O1 k
def RmD (K : PySem.W.Frag) (r : V → List V → Hp → VK → Prop) (γ : GM) : Prop := ∀ F O H v xs a ds k Q, Rl K F O H → Rep K F v a → RepA K F xs ds → γ a ds O k → VOk K F k Q → r v xs H Q
section
variable {X : Cx} {W : WX} {o e : Expr} {es : List Expr} {go : GE} {gr : GA} {name : Str} {apos cpos : Pos} {T id : String} {r : V → List V → Hp → VK → Prop} {γ : GM}
theorem de_bm0 (pa : PlainAttrs T) (slot : Slot T name id) (hty : typeOf (.builtin id) = pure (.type "method_descriptor")) (hm : MtR X id r) (hd : RmD X.K r γ) (ho : DE X W o go)
    (hbase : attributeBase o name X.env (eval o X.env) = eval o X.env := by rfl) (hline : (apos.endLine == cpos.line) = true := by rfl) : DE X W (.Call (.Attribute o name apos) [] [] cpos) (gBM0 T γ go) :=
  pe_weak (pe_bm0 pa slot hty hm ho hbase hline) fun σ H Q ⟨F, O, δ, x, k, xo, rl, rs, g, vk⟩ =>
    ⟨F, O, δ, x, _, xo, rl, rs, g, fun a O1 ⟨ty, g1⟩ v F1 H1 e1 rl1 rv => ⟨tyD_v rl1 rv ty, hd F1 O1 H1 v [] a [] k Q rl1 rv .nil g1 (vk.up e1)⟩⟩
theorem de_bm (pa : PlainAttrs T) (slot : Slot T name id) (hty : typeOf (.builtin id) = pure (.type "method_descriptor")) (hm : MtR X id r) (hd : RmD X.K r γ) (ho : DE X W o go) (ha : DA X W (e :: es) gr)
    (hbase : attributeBase o name X.env (eval o X.env) = eval o X.env := by rfl)
    (hfew : ((backTo cpos (starEach (e :: es) X.env)).all (fun x => !x.1) && (backToKw cpos (keywordEach [] X.env)).all (fun x => x.1.isSome)
      && decide ((e :: es).length + ([] : List Keyword).length + (if ([] : List Keyword).isEmpty then 0 else 1) < 30)) = true := by rfl)
    (hline : (apos.endLine == cpos.line) = true := by rfl) (hs : starEach (e :: es) X.env = (false, eval e X.env) :: starEach es X.env := by rfl) (hplain : (backTo cpos (starEach es X.env)).any (·.1) = false := by rfl) :
    DE X W (.Call (.Attribute o name apos) (e :: es) [] cpos) (gBM T γ go gr) :=
  pe_weak (pe_bm pa slot hty hm ho ha hbase hfew hline hs hplain) fun σ H Q ⟨F, O, δ, x, k, xo, rl, rs, g, vk⟩ =>
    ⟨F, O, δ, x, _, xo, rl, rs, g, fun a O1 ⟨ty, g1⟩ v F1 H1 e1 rl1 rv => ⟨tyD_v rl1 rv ty, F1, O1, δ, x, _, xo.up e1, rl1, rs.up e1, g1, fun ds O2 g2 vs F2 H2 e2 rl2 rvs =>
      hd F2 O2 H2 v vs a ds k Q rl2 (rv.up e2) rvs g2 (vk.up (e1.trans e2))⟩⟩
end
def mAppend : GM := fun a ds O k => ∃ p xs d, a = .ref p ∧ ds = [d] ∧ O p = some (.lst xs) ∧ xs.length < sizeLine ∧ k .non (oupd O p (.lst (xs ++ [d])))
theorem own_lst {K : PySem.W.Frag} {F H : Hp} {O : Oh} {p : Addr} {ds : List D} (rl : Rl K F O H) (h : O p = some (.lst ds)) : ∃ xs, H p = some (.lst xs) ∧ xs.length ≤ sizeLine ∧ RepA K F xs ds := by
  obtain ⟨_, u, hu, ru⟩ := rl.own p _ h
  cases ru with | lst a b => exact ⟨_, hu, a, b⟩
theorem rm_append {K : PySem.W.Frag} : RmD K rAppend mAppend := fun F O H v xs a ds k Q rl rv ra ⟨p, zs, d, ea, ed, hO, hl, g⟩ vk => by
  subst ea ed
  cases rv
  obtain ⟨u, rfl, ru⟩ := repA1 ra
  obtain ⟨ys, hy, hz, rb⟩ := own_lst rl hO
  have hyl : ys.length < sizeLine := by rw [rb.length]; exact hl
  exact ⟨p, ys, u, rfl, rfl, hy, hyl, vk _ _ g _ F _ (Same.refl F) (rl.write hO (.lst (by rw [List.length_append]; exact hyl) (rb.append (.cons ru .nil)))) .non⟩
def mPop : GM := fun a ds O k => ∃ p xs d, a = .ref p ∧ ds = [] ∧ O p = some (.lst xs) ∧ xs[xs.length - 1]? = some d ∧ k d (oupd O p (.lst xs.dropLast))
theorem rm_pop {K : PySem.W.Frag} : RmD K rPop mPop := fun F O H v xs a ds k Q rl rv ra ⟨p, zs, d, ea, ed, hO, hd, g⟩ vk => by
  subst ea ed
  cases rv
  cases ra
  obtain ⟨ys, hy, hz, rb⟩ := own_lst rl hO
  rw [← rb.length] at hd
  obtain ⟨u, hu, ru⟩ := rb.get hd
  exact ⟨p, ys, u, rfl, rfl, hy, hu, vk _ _ g _ F _ (Same.refl F) (rl.write hO (.lst (by rw [List.length_dropLast]; omega) rb.dropLast)) ru⟩
def mPopAt : GM := fun a ds O k => ∃ p xs i d, a = .ref p ∧ ds = [.int i] ∧ O p = some (.lst xs) ∧ 0 ≤ i ∧ xs[i.toNat]? = some d ∧ k d (oupd O p (.lst (xs.eraseIdx i.toNat)))
theorem rm_popAt {K : PySem.W.Frag} : RmD K rPopAt mPopAt := fun F O H v xs a ds k Q rl rv ra ⟨p, zs, i, d, ea, ed, hO, h0, hd, g⟩ vk => by
  subst ea ed
  cases rv
  obtain ⟨u, rfl, ru⟩ := repA1 ra
  cases ru
  obtain ⟨ys, hy, hz, rb⟩ := own_lst rl hO
  obtain ⟨w, hw, rw'⟩ := rb.get hd
  have hi := (List.getElem?_eq_some_iff.mp hw).1
  have e := ixN_seq (n := ys.length) (i := i) (j := i.toNat) (by unfold ixN; rw [if_pos h0, if_pos (by omega)])
  have h24 : sizeLine = 16777216 := by decide
  exact ⟨p, ys, i, i.toNat, w, rfl, rfl, hy, by omega, by omega, e.1, hw, vk _ _ g _ F _ (Same.refl F) (rl.write hO (.lst (Nat.le_trans (len_erase _ _) hz) (rb.eraseIdx _))) rw'⟩

/-! ### dicts -/
def keyD : Key → D
  | .inl i => .int i
  | .inr x => .str x
def valD (kvs : List (Key × D)) (k : Key) : Option D := (kvs.find? fun kv => decide (kv.1 = k)).map (·.2)
def putD (kvs : List (Key × D)) (k : Key) (v : D) : List (Key × D) :=
  if (kvs.any fun kv => decide (kv.1 = k)) = true then kvs.map (fun kv => if kv.1 = k then (kv.1, v) else kv) else kvs ++ [(k, v)]
def mergeD (kvs more : List (Key × D)) : List (Key × D) := more.foldl (fun acc kv => putD acc kv.1 kv.2) kvs
def asD (O : Oh) : D → Option (List (Key × D))
  | .dic kvs => some kvs
  | .ref a => match O a with
    | some (.dic kvs) => some kvs
    | _ => none
  | _ => none
section
variable {K : PySem.W.Frag} {F H : Hp} {O : Oh}
theorem RepK.length : ∀ {xs : List (Key × V)} {ds : List (Key × D)}, RepK K F xs ds → xs.length = ds.length
  | _, _, .nil => rfl
  | _, _, .cons _ t => by rw [List.length_cons, List.length_cons, RepK.length t]
theorem RepK.val : ∀ {xs : List (Key × V)} {ds : List (Key × D)}, RepK K F xs ds → ∀ k, (∀ d, valD ds k = some d → ∃ v, valV xs k = some v ∧ Rep K F v d) ∧ (valD ds k = none → valV xs k = none)
  | _, _, .nil, k => ⟨fun d h => by simp [valD] at h, fun _ => rfl⟩
  | _, _, @RepK.cons _ _ k0 v0 d0 xs ds r t, k => by
    obtain ⟨h1, h2⟩ := RepK.val t k
    by_cases e : k0 = k
    · subst e
      refine ⟨fun d h => ⟨v0, valV_pos rfl, ?_⟩, fun h => ?_⟩
      · simp [valD, List.find?_cons] at h; subst h; exact r
      · simp [valD, List.find?_cons] at h
    · have ev : valD ((k0, d0) :: ds) k = valD ds k := by simp [valD, List.find?_cons, e]
      rw [ev, valV_neg (p := (k0, v0)) e]
      exact ⟨h1, h2⟩
theorem RepK.any : ∀ {xs : List (Key × V)} {ds : List (Key × D)}, RepK K F xs ds → ∀ k : Key, (xs.any fun kv => decide (kv.1 = k)) = ds.any fun kv => decide (kv.1 = k)
  | _, _, .nil, _ => rfl
  | _, _, .cons _ t, k => by rw [List.any_cons, List.any_cons, RepK.any t k]
theorem RepK.mapPut {k : Key} {v : V} {d : D} (r : Rep K F v d) : ∀ {xs : List (Key × V)} {ds : List (Key × D)}, RepK K F xs ds → RepK K F (xs.map fun kv => if kv.1 = k then (kv.1, v) else kv) (ds.map fun kv => if kv.1 = k then (kv.1, d) else kv)
  | _, _, .nil => .nil
  | _, _, @RepK.cons _ _ k0 v0 d0 xs ds q t => by
    rw [List.map_cons, List.map_cons]
    by_cases e : k0 = k
    · rw [if_pos e, if_pos e]; exact .cons r (RepK.mapPut r t)
    · rw [if_neg e, if_neg e]; exact .cons q (RepK.mapPut r t)
theorem RepK.append : ∀ {xs ys : List (Key × V)} {us ws : List (Key × D)}, RepK K F xs us → RepK K F ys ws → RepK K F (xs ++ ys) (us ++ ws)
  | _, _, _, _, .nil, s => s
  | _, _, _, _, .cons r t, s => .cons r (RepK.append t s)
theorem RepK.put {xs : List (Key × V)} {ds : List (Key × D)} (h : RepK K F xs ds) {k : Key} {v : V} {d : D} (r : Rep K F v d) : RepK K F (putK xs k v) (putD ds k d) := by
  unfold putK putD
  rw [h.any k]
  split
  · exact RepK.mapPut r h
  · exact h.append (.cons r .nil)
theorem RepK.merge : ∀ {ms : List (Key × V)} {es : List (Key × D)} {xs : List (Key × V)} {ds : List (Key × D)}, RepK K F ms es → RepK K F xs ds → RepK K F (mergeK xs ms) (mergeD ds es)
  | _, _, _, _, .nil, h => h
  | _, _, xs, ds, @RepK.cons _ _ k0 _ _ _ _ r t, h => by have q := RepK.merge t (h.put (k := k0) r); exact q
theorem rep_asD {v : V} {d : D} {ds : List (Key × D)} (rl : Rl K F O H) (h : Rep K F v d) (e : asD O d = some ds) : ∃ a xs, v = .ref a ∧ H a = some (.dK xs) ∧ RepK K F xs ds := by
  cases h with
  | dic a c => simp only [asD, Option.some.injEq] at e; subst e; exact ⟨_, _, rfl, rl.same _ _ a, c⟩
  | ref a =>
    unfold asD at e
    simp only at e
    split at e
    · rename_i ds' q
      cases e
      obtain ⟨_, u, hu, ru⟩ := rl.own a _ q
      cases ru with
      | dic m => exact ⟨a, _, rfl, hu, m⟩
    · cases e
  | _ => simp [asD] at e
theorem key_v {k : Key} {v : V} (h : Rep K F v (keyD k)) : v = kV k := by
  cases k <;> (simp only [keyD] at h; cases h; rfl)
end
def yDGet : G2 := fun a b O k => ∃ kvs key d, asD O a = some kvs ∧ b = keyD key ∧ valD kvs key = some d ∧ k d O
section
variable {X : Cx} {W : WX} {o i e : Expr} {go gi ge : GE} {pos pos' : Pos}
theorem de_dget (hu : X.A.units + 1 < cLine) (ho : DE X W o go) (hi : DE X W i gi) (hs : NoSl i := by intro _ _; rfl) : DE X W (.Subscript o i pos) (gOp yDGet go gi) := pe_weak (pe_dget hu ho hi hs) fun σ H Q ⟨F, O, δ, x, k, xo, rl, rs, g, vk⟩ =>
  ⟨F, O, δ, x, _, xo, rl, rs, g, fun a O1 g1 v F1 H1 e1 rl1 rv => ⟨F1, O1, δ, x, _, xo.up e1, rl1, rs.up e1, g1, fun b O2 ⟨kvs, key, d, ea, eb, hd, g2⟩ u F2 H2 e2 rl2 ru => by
    subst eb
    have := key_v ru; subst this
    obtain ⟨p, xs, rfl, hp, rk⟩ := rep_asD rl2 (rv.up e2) ea
    obtain ⟨w, hw, rw'⟩ := (rk.val key).1 d hd
    exact ⟨p, w, rfl, hw ▸ DGet.k hp, vk _ _ g2 _ F2 H2 (e1.trans e2) rl2 rw'⟩⟩⟩
/-- d[i] = e of an owned dict -/
def sDPut (go gi ge : GE) : GS := fun x δ O E => ge x δ O fun d O1 => go x δ O1 fun a O2 => gi x δ O2 fun b O3 => ∃ p kvs key, a = .ref p ∧ b = keyD key ∧ O3 p = some (.dic kvs) ∧ kvs.length < sizeLine ∧ E.nx δ (oupd O3 p (.dic (putD kvs key d)))
theorem ds_dput (hu : X.A.units + 1 < cLine) (ho : DE X W o go) (hi : DE X W i gi) (he : DE X W e ge) (hs : swapsWith e (some (.Subscript o i pos')) pos.line X.env = pure false := by rfl) : DS X W (.Assign [.Subscript o i pos'] e pos) (sDPut go gi ge) :=
  ps_weak (ps_dput hu ho hi he hs) fun D σ H ⟨F, O, δ, x, E, xo, rl, rs, g, ek⟩ =>
    ⟨F, O, δ, x, _, xo, rl, rs, g, fun d O1 g1 v F1 H1 e1 rl1 rv => ⟨F1, O1, δ, x, _, xo.up e1, rl1, rs.up e1, g1, fun a O2 g2 u F2 H2 e2 rl2 ru => ⟨F2, O2, δ, x, _, (xo.up e1).up e2, rl2, (rs.up e1).up e2, g2, fun b O3 ⟨p, kvs, key, ea, eb, hO, hl, g3⟩ w F3 H3 e3 rl3 rw' => by
      subst ea eb
      cases ru
      have := key_v rw'; subst this
      obtain ⟨_, z, hz, rz⟩ := rl3.own p _ hO
      cases rz with
      | dic rk =>
        have e13 := (e1.trans e2).trans e3
        exact ⟨p, _, rfl, DPut.k hz (by rw [rk.length]; exact hl), ek.nx _ _ g3 _ F3 _ e13 (rl3.write hO (.dic (rk.put ((rv.up e2).up e3)))) (rs.up e13)⟩⟩⟩⟩
end
/-! a display -/
def gPairs : List (GE × GE) → Xd → DEnv → Oh → (List (D × D) → Oh → Prop) → Prop
  | [], _, _, O, k => k [] O
  | (gk, gv) :: r, x, δ, O, k => gk x δ O fun a O1 => gv x δ O1 fun b O2 => gPairs r x δ O2 fun ps O3 => k ((a, b) :: ps) O3
def gDispO (prs : List (GE × GE)) : GE := fun x δ O k => ∀ p, O p = none → gPairs prs x δ (oupd O p (.dic [])) fun ps O2 => O2 p = some (.dic []) ∧ ∃ kvs : List (Key × D), ps = kvs.map (fun kv => (keyD kv.1, kv.2)) ∧ kvs.length ≤ 15 ∧ k (.ref p) (oupd O2 p (.dic (mergeD [] kvs)))
abbrev DPs (X : Cx) (W : WX) (pos : Pos) (keys : List (Option Expr)) (values : List Expr) (prs : List (GE × GE)) : Prop := PPs X pos keys values (prs.map fun p => (tD X.K W p.1, tD X.K W p.2))
section
variable {X : Cx} {W : WX} {pos : Pos} {ke ve : Expr} {keys : List (Option Expr)} {values : List Expr} {gk gv : GE} {prs : List (GE × GE)}
theorem pairs_weak {K : PySem.W.Frag} {σ : L2.St} {δ : DEnv} {x : Xd} : ∀ (prs : List (GE × GE)) {F H : Hp} {O : Oh} {k : List (D × D) → Oh → Prop} {R : List (V × V) → Hp → Prop}, XOk K W F x → Rl K F O H → RepS K F σ δ → gPairs prs x δ O k →
    (∀ ps O', k ps O' → ∀ vs F' H', Same F F' → Rl K F' O' H' → RepA K F' (vs.map (·.1)) (ps.map (·.1)) → RepA K F' (vs.map (·.2)) (ps.map (·.2)) → R vs H') → tPairs (prs.map fun p => (tD K W p.1, tD K W p.2)) σ H R
  | [], F, H, O, k, R, xo, rl, rs, g, q => q [] O g [] F H (Same.refl F) rl .nil .nil
  | (gk, gv) :: r, F, H, O, k, R, xo, rl, rs, g, q => ⟨F, O, δ, x, _, xo, rl, rs, g, fun a O1 g1 v F1 H1 e1 rl1 rv => ⟨F1, O1, δ, x, _, xo.up e1, rl1, rs.up e1, g1, fun b O2 g2 u F2 H2 e2 rl2 ru =>
      pairs_weak r ((xo.up e1).up e2) rl2 ((rs.up e1).up e2) g2 fun ps O3 k3 vs F3 H3 e3 rl3 r1 r2 => q _ O3 k3 ((v, u) :: vs) F3 H3 ((e1.trans e2).trans e3) rl3 (.cons ((rv.up e2).up e3) r1) (.cons (ru.up e3) r2)⟩⟩
theorem dps_nil : DPs X W pos [] [] [] := pps_nil
theorem dps_cons (hk : DE X W ke gk) (hv : DE X W ve gv) (hr : DPs X W pos keys values prs) : DPs X W pos (some ke :: keys) (ve :: values) ((gk, gv) :: prs) := pps_cons hk hv hr
theorem key_vs {K : PySem.W.Frag} {F : Hp} : ∀ {kvs : List (Key × D)} {vs : List (V × V)}, RepA K F (vs.map (·.1)) (kvs.map fun kv => keyD kv.1) → RepA K F (vs.map (·.2)) (kvs.map (·.2)) → ∃ us : List (Key × V), vs = us.map (fun kv => (kV kv.1, kv.2)) ∧ RepK K F us kvs
  | [], [], _, _ => ⟨[], rfl, .nil⟩
  | [], _ :: _, h, _ => by cases h
  | _ :: _, [], h, _ => by cases h
  | (k, d) :: kvs, (v, u) :: vs, h1, h2 => by
    cases h1 with
    | cons a b =>
      cases h2 with
      | cons a2 b2 =>
        obtain ⟨us, rfl, r⟩ := key_vs b b2
        have := key_v a; subst this
        exact ⟨(k, u) :: us, rfl, .cons a2 r⟩
theorem de_dispO (h : DPs X W pos keys values prs) (hall : keys.all (·.isSome) = true) (hl : keys.length = values.length) (h0 : keys ≠ []) (h15 : keys.length ≤ 15) : DE X W (.Dict keys values pos) (gDispO prs) :=
  pe_weak (pe_disp h hall hl h0 h15) fun σ H Q ⟨F, O, δ, x, k, xo, rl, rs, g, vk⟩ p hp => by
    refine pairs_weak prs xo (rl.mine hp (.dic .nil)) rs (g p (rl.freeO hp)) ?_
    rintro ps O2 ⟨hO2, kvs, rfl, h15', g2⟩ vs F2 H2 e2 rl2 r1 r2
    rw [List.map_map] at r1 r2
    obtain ⟨us, rfl, rk⟩ := key_vs (by simpa [Function.comp_def] using r1) (by simpa [Function.comp_def] using r2)
    obtain ⟨_, z, hz, rz⟩ := rl2.own p _ hO2
    cases rz with
    | dic rk0 =>
      cases rk0
      exact ⟨hz, us, rfl, by rw [rk.length]; exact h15', vk _ _ g2 _ F2 _ e2 (rl2.write hO2 (.dic (rk.merge .nil))) (.ref p)⟩
end
end DW

set_option Elab.async false
set_option linter.all false
set_option maxRecDepth 100000
set_option maxHeartbeats 2000000
namespace DW
open PySem L2 PySem.Spec PyProof.Rows

theorem rd_ipSub {K : PySem.W.Frag} : R2D K (ipI fun i j => i - j) ySub := fun F O H x y a b k Q rl rx ry ⟨i, j, ea, eb, g⟩ vk => by
  subst ea eb; cases rx; cases ry
  exact ⟨_, _, rfl, rfl, vk _ _ g _ F H (Same.refl F) rl (.int _)⟩
def yAddI : G2 := fun a b O k => ∃ i j, a = .int i ∧ b = .int j ∧ k (.int (i + j)) O
theorem rd_ipAdd {K : PySem.W.Frag} : R2D K (ipI fun i j => i + j) yAddI := fun F O H x y a b k Q rl rx ry ⟨i, j, ea, eb, g⟩ vk => by
  subst ea eb; cases rx; cases ry
  exact ⟨_, _, rfl, rfl, vk _ _ g _ F H (Same.refl F) rl (.int _)⟩
/-- a def of the text as the top left it -/
structure DefAt (K : PySem.W.Frag) (mg : Str → Option Value) (x qual : Str) (st : Stmt) (ps : List Str) : Prop where
  ex : ∃ f fd, Fun K x qual st f fd ∧ mg x = some (.ref f) ∧ Binds K fd ps []
/-- a def that may be called by its name -/
structure Cal (P : Program) (w : World) (K : PySem.W.Frag) (mg : Str → Option Value) (base : Heap) (k : Nat) (x qual : Str) (st : Stmt) (ps : List Str) (γ : FnG) : Prop where
  ex : ∃ f fd, Fun K x qual st f fd ∧ mg x = some (.ref f) ∧ Binds K fd ps [] ∧ FnD P w K mg base k f fd ps γ
section
variable {P : Program} {w : World} {K : PySem.W.Frag} {mg : Str → Option Value} {base : Heap}
theorem Cal.mono {j k : Nat} {x qual : Str} {st : Stmt} {ps : List Str} {γ : FnG} (c : Cal P w K mg base j x qual st ps γ) (h : j ≤ k) : Cal P w K mg base k x qual st ps γ := by
  obtain ⟨f, fd, a, b, d, F⟩ := c.ex
  exact ⟨f, fd, a, b, d, F.mono h⟩
theorem cal_of {x qual : Str} {st : Stmt} {N ps : List Str} {k : Nat} {γ : FnG} {g : GS} (A : DefAt K mg x qual st ps) (S : FnScope N ps (defScope st)) (len : ∀ ds O k e, γ ds O k e → ds.length = ps.length)
    (der : ∀ (f : Addr) (cdv : Value) (A : Around) (outer : List Env) (s : Shared) (H : Hp) (E : XK), A.guards = some [] → Room k (A.deeper (envOfC qual (defScope st) s.heap.objs.size f cdv)) → Takes (cxD P w K mg base N qual st f cdv A outer s H E) (wxD E) →
      DB (cxD P w K mg base N qual st f cdv A outer s H E) (wxD E) (defBody st) g)
    (law : ∀ ds O kd e, γ ds O kd e → g (fun _ => e) (startD N ds) O { nx := fun _ O' => Fz kd .non O', rt := Fz kd }) : Cal P w K mg base (k + 1) x qual st ps γ := by
  obtain ⟨f, fd, F, hm, hb⟩ := A.ex
  exact ⟨f, fd, F, hm, hb, fnD_of F S len (fun cdv A outer s H E => der f cdv A outer s H E) law⟩
end
section
variable {X : Cx} {W : WX} {k : Nat} {ps ks : List Str} {γ : FnG} {x qual : Str} {st : Stmt} {p pos : Pos} {e : Expr} {es : List Expr} {kws : List Keyword} {gr gk : GA}
theorem dcall (C : Cal X.prog X.w X.K X.mg X.base k x qual st ps γ) (hG : X.A.guards = some []) (hr : Room k X.A) (tk : Takes X W) (hg : Gl X x)
    (ha : DA X W (e :: es) gr) (hdb : (x == ("__debug__" : Str)) = false := by decide) (he : starEach (e :: es) X.env = (false, eval e X.env) :: starEach es X.env := by rfl) (hpl : (backTo pos (starEach es X.env)).any (·.1) = false := by rfl) :
    DE X W (.Call (.Name x p) (e :: es) [] pos) (gCall γ gr) := by
  obtain ⟨f, fd, F0, hm, hb, F⟩ := C.ex
  exact de_call F hG hr tk hg hm F0.kp hb ha hdb he hpl
theorem dcall0 (C : Cal X.prog X.w X.K X.mg X.base k x qual st ps γ) (hG : X.A.guards = some []) (hr : Room k X.A) (tk : Takes X W) (hg : Gl X x) (hdb : (x == ("__debug__" : Str)) = false := by decide) :
    DE X W (.Call (.Name x p) [] [] pos) (gCall γ gNil) := by
  obtain ⟨f, fd, F0, hm, hb, F⟩ := C.ex
  constructor
  rintro pins s σ H Q I ⟨F1, O, δ, xd, kd, xo, rl, rs, g, vk⟩
  refine wpAny_Call_Name_kw (ld_glob I hg hm (PySem.W.callWith_K0 I.kIn F0.kp ?_) hdb)
  have hl : ps.length = 0 := (F.len _ _ _ _ g).symm
  have b := hb s [] I.kIn (by simpa using hl.symm)
  refine wpAny_call (codeAny_mono (run_fnD (us := []) F hG hr tk I b .nil ⟨F1, O, [], kd, _, rl, .nil, g, vk, fun c fs O2 h2 od F2 H2 e2 rl2 xr => xo δ c fs O2 h2 σ od F2 H2 e2 rl2 (rs.up e2) xr⟩) ?_)
  intro r s' hq
  cases r with
  | error e => exact hq
  | ok fl => cases fl with
    | ret u => exact hq
    | _ => exact hq.elim
/-! keyword calls: ix puts the positional and the keywords' values in the parameters' order -/
def pick {α : Type} : List Nat → List α → List α
  | [], _ => []
  | i :: r, xs => match xs[i]? with
    | some x => x :: pick r xs
    | none => pick r xs
theorem pick_rep {K : PySem.W.Frag} {F : Hp} {vs : List V} {ds : List D} (h : RepA K F vs ds) : ∀ ix : List Nat, RepA K F (pick ix vs) (pick ix ds)
  | [] => .nil
  | i :: r => by
    unfold pick
    cases q : ds[i]? with
    | none =>
      have z := List.getElem?_eq_none_iff.mp q
      rw [List.getElem?_eq_none_iff.mpr (by rw [h.length]; exact z)]
      exact pick_rep h r
    | some d =>
      obtain ⟨v, hv, rv⟩ := h.get q
      rw [hv]
      exact .cons rv (pick_rep h r)
theorem pick_vals {vs : List V} {us : List Value} (h : Vals vs us) : ∀ ix : List Nat, Vals (pick ix vs) (pick ix us)
  | [] => .nil
  | i :: r => by
    unfold pick
    cases q : vs[i]? with
    | none => rw [h.none_of q]; exact pick_vals h r
    | some v =>
      obtain ⟨u, hu, ru⟩ := h.get q
      rw [hu]
      exact .cons ru (pick_vals h r)
def gCallK (γ : FnG) (n : Nat) (ix : List Nat) (gr gk : GA) : GE := fun x δ O k => gr x δ O fun ds O1 => gk x δ O1 fun es O2 => es.length = n ∧ γ (pick ix (ds ++ es)) O2 k (x δ)
abbrev DKw (X : Cx) (W : WX) (kws : List Keyword) (g : GA) : Prop := PK X kws (tDA X.K W g)
theorem dk_nil : DKw X W [] gNil := ⟨fun pos pins s σ H Q I ⟨F, O, δ, x, k, xo, rl, rs, g, vk⟩ => pk_nil.run pos pins s σ H Q I (vk [] O g [] F H (Same.refl F) rl .nil)⟩
theorem dk_cons {nm : Option Str} {kpos : Pos} {ga : GE} (ha : DE X W e ga) (hr : DKw X W kws gr) : DKw X W (⟨nm, e, kpos⟩ :: kws) (gCons ga gr) := ⟨fun pos pins s σ H Q I ⟨F, O, δ, x, k, xo, rl, rs, g, vk⟩ => (pk_cons ha hr).run pos pins s σ H Q I
    ⟨F, O, δ, x, _, xo, rl, rs, g, fun a O1 g1 v F1 H1 e1 rl1 rv => ⟨F1, O1, δ, x, _, xo.up e1, rl1, rs.up e1, g1, fun as O2 g2 vs F2 H2 e2 rl2 rvs => vk (a :: as) O2 g2 (v :: vs) F2 H2 (e1.trans e2) rl2 (.cons (rv.up e2) rvs)⟩⟩⟩
/-- f(k = v, ..) -/
theorem dcallK0 (C : Cal X.prog X.w X.K X.mg X.base k x qual st ps γ) (ix : List Nat) (ks : List Str)
    (kb : ∀ (kV doc pm : Value) (an : Option Addr) (cdv ct : Value) (ws : List Value), (pick ix ws).length = ps.length → ws.length = ks.length → bindArgs (PySem.W.fnOf x qual (defArgs st) (defBody st) (defScope st) .none kV doc pm an cdv ct) ⟨[], ks.zip ws⟩ = pure (ps.zip (pick ix ws)))
    (hG : X.A.guards = some []) (hr : Room k X.A) (tk : Takes X W) (hg : Gl X x) (hk : DKw X W kws gk) (hlen : kws.length = ks.length := by rfl)
    (hall : (backToKw pos (keywordEach kws X.env)).all (·.1.isSome) = true := by rfl) (hks : (backToKw pos (keywordEach kws X.env)).filterMap (·.1) = ks := by rfl) (hl2 : (backToKw pos (keywordEach kws X.env)).length = ks.length := by rfl)
    (hdb : (x == ("__debug__" : Str)) = false := by decide) (hpl : ((backTo pos (starEach [] X.env)).any (·.1) || (backToKw pos (keywordEach kws X.env)).any (·.1.isNone)) = false := by rfl) :
    DE X W (.Call (.Name x p) [] kws pos) (gCallK γ ks.length ix gNil gk) := by
  obtain ⟨f, fd, F0, hm, hb, F⟩ := C.ex
  have kp := F0.kp
  obtain ⟨oc, od, kV, doc, pm, an, cdv, ct, osl, rfl, lk, hcd⟩ := F0.ex
  constructor
  rintro pins s σ H Q I ⟨F1, O, δ, xd, kd, xo, rl, rs, g, vk⟩
  refine wpAny_Call_Name_kw (ld_glob I hg hm ?_ hdb)
  refine PySem.W.callWith_KW0 (h₀ := X.base) I.ok.mod.kin kp hall (thn (hk.run pos pins s σ H (fun vs H1 => vs.length = ks.length ∧ spD X.K γ (pick ix vs) H1 Q (fun c d H' => W c d σ H')) I ?_) ?_) hpl
  · refine ⟨F1, O, δ, xd, _, xo, rl, rs, g, ?_⟩
    rintro es O1 ⟨hel, g1⟩ vs F2 H1 e1 rl1 rv
    exact ⟨by rw [rv.length]; exact hel, F2, O1, _, kd, _, rl1, pick_rep rv ix, g1, vk.up e1, fun c fs O2 h2 od F3 H2 e2 rl2 xr => xo δ c fs O2 h2 σ od F3 H2 (e1.trans e2) rl2 (rs.up (e1.trans e2)) xr⟩
  · rintro ws s1 ⟨vs, H1, I1, rv, hvl, q⟩
    have hpl : (pick ix ws).length = ps.length := by
      obtain ⟨_, _, ds, _, _, _, ra, hγ, _⟩ := id q
      rw [← (pick_vals rv ix).length, ra.length]
      exact F.len _ _ _ _ hγ
    rw [hks]
    have b := BindsTo.of_eq (s := s1) (kb kV doc pm an cdv ct ws hpl (by rw [← rv.length]; exact hvl))
    refine ⟨I1.kIn, wpAny_call (codeAny_mono (run_fnD (us := []) (kw := ks.zip ws) F hG hr tk I1 b (pick_vals rv ix) q) ?_)⟩
    intro r s' hq
    cases r with
    | error e => exact hq
    | ok fl => cases fl with
      | ret u => exact hq
      | _ => exact hq.elim
end
end DW

set_option Elab.async false
set_option linter.all false
set_option maxRecDepth 100000
set_option maxHeartbeats 2000000
namespace DW
open PySem L2

/-! ### evaluating readings -/
theorem yIn_int_tup {neg : Bool} {i : Int} {xs : List D} {O : Oh} {k : DK} : yIn neg (.int i) (.tup xs) O k ↔ xs.all flatD = true ∧ k (.bl (if neg then !inD (.int i) xs else inD (.int i) xs)) O := by
  simp [yIn, asQ, flatD]
theorem yIn_int_lst {neg : Bool} {i : Int} {xs : List D} {O : Oh} {k : DK} : yIn neg (.int i) (.lst xs) O k ↔ xs.all flatD = true ∧ k (.bl (if neg then !inD (.int i) xs else inD (.int i) xs)) O := by
  simp [yIn, asQ, flatD]
theorem yIn_int {neg : Bool} {i : Int} {b : D} {xs : List D} {O : Oh} {k : DK} (h : asQ O b = some xs) : yIn neg (.int i) b O k ↔ xs.all flatD = true ∧ k (.bl (if neg then !inD (.int i) xs else inD (.int i) xs)) O := by
  unfold yIn
  simp [h, flatD]
theorem yIx_tup {xs : List D} {i : Int} {O : Oh} {k : DK} : yIx (.tup xs) (.int i) O k ↔ ∃ d, atI xs i = some d ∧ k d O := by
  simp [yIx, asQ]
theorem yIx_lst {xs : List D} {i : Int} {O : Oh} {k : DK} : yIx (.lst xs) (.int i) O k ↔ ∃ d, atI xs i = some d ∧ k d O := by
  simp [yIx, asQ]
theorem atI0 {α : Type} {a : α} {l : List α} : atI (a :: l) 0 = some a := atI_nat (xs := a :: l) (j := 0) rfl
theorem atI_cons {α : Type} {a : α} {l : List α} {n : Nat} (h : n < l.length) : atI (a :: l) ((n + 1 : Nat) : Int) = atI l (n : Nat) := by
  unfold atI ixN
  have h1 : ((n + 1 : Nat) : Int) < ((a :: l).length : Nat) := by rw [List.length_cons]; omega
  rw [if_pos (by omega), if_pos h1, if_pos (by omega), if_pos (by omega)]
  simp
theorem atI1 {α : Type} {a b : α} {l : List α} : atI (a :: b :: l) 1 = some b := atI_nat (xs := a :: b :: l) (j := 1) rfl
theorem atI2 {α : Type} {a b c : α} {l : List α} : atI (a :: b :: c :: l) 2 = some c := atI_nat (xs := a :: b :: c :: l) (j := 2) rfl
theorem atI3 {α : Type} {a b c d : α} {l : List α} : atI (a :: b :: c :: d :: l) 3 = some d := atI_nat (xs := a :: b :: c :: d :: l) (j := 3) rfl
theorem atI_m1 {α : Type} {l : List α} (h : l ≠ []) : atI l (-1) = l.getLast? := by
  have hl : 0 < l.length := List.length_pos_iff.mpr h
  unfold atI ixN
  rw [if_neg (by omega), if_pos (by omega), List.getLast?_eq_getElem?]
  show l[(-1 + (l.length : Int)).toNat]? = _
  congr 1
  omega
theorem cLen_tup {xs : List D} {O : Oh} {k : DK} : cLen [.tup xs] O k ↔ k (.int xs.length) O := by simp [cLen, asQ]
theorem cLen_lst {xs : List D} {O : Oh} {k : DK} : cLen [.lst xs] O k ↔ k (.int xs.length) O := by simp [cLen, asQ]
theorem cLen_str {x : Str} {O : Oh} {k : DK} : cLen [.str x] O k ↔ k (.int x.length) O := by simp [cLen]
theorem cLen_q {d : D} {xs : List D} {O : Oh} {k : DK} (h : asQ O d = some xs) : cLen [d] O k ↔ k (.int xs.length) O := by
  unfold cLen
  cases d <;> simp_all [asQ]
theorem cInt_int {i : Int} {O : Oh} {k : DK} : cInt [.int i] O k ↔ k (.int i) O := by simp [cInt]
theorem cAbs_int {i : Int} {O : Oh} {k : DK} : cAbs [.int i] O k ↔ k (.int (if i < 0 then -i else i)) O := by simp [cAbs]
theorem cTuple_lst {xs : List D} {O : Oh} {k : DK} : cTuple [.lst xs] O k ↔ k (.tup xs) O := by simp [cTuple, asL]
theorem cTuple_tup {xs : List D} {O : Oh} {k : DK} : cTuple [.tup xs] O k ↔ k (.tup xs) O := by simp [cTuple]
theorem cAll_lst {bs : List Bool} {O : Oh} {k : DK} (h : k (.bl (bs.all id)) O) : cAll [.lst (bs.map D.bl)] O k := ⟨_, bs, rfl, rfl, h⟩
theorem cAny_lst {bs : List Bool} {O : Oh} {k : DK} (h : k (.bl (bs.any id)) O) : cAny [.lst (bs.map D.bl)] O k := ⟨_, bs, rfl, rfl, h⟩
theorem yAdd_int {i j : Int} {O : Oh} {k : DK} : yAdd (.int i) (.int j) O k ↔ k (.int (i + j)) O := Iff.rfl
theorem yMul_int {i j : Int} {O : Oh} {k : DK} : yMul (.int i) (.int j) O k ↔ CMul i j ∧ k (.int (i * j)) O := Iff.rfl
theorem yAdd_lst {xs ys : List D} {O : Oh} {k : DK} : yAdd (.lst xs) (.lst ys) O k ↔ xs.length + ys.length ≤ sizeLine ∧ k (.lst (xs ++ ys)) O := by simp [yAdd, asL]
theorem yNeg_int {i : Int} {O : Oh} {k : DK} : yNeg (.int i) O k ↔ k (.int (-i)) O := by simp [yNeg]
abbrev nats (l : List Nat) : List D := l.map fun n => D.int (n : Nat)
theorem rng_nats (a b : Nat) : rngD (a : Int) (b : Int) = nats ((List.range (b - a)).map (a + ·)) := by
  unfold rngD
  have e : ((b : Int) - (a : Int)).toNat = b - a := by omega
  unfold nats
  rw [e, List.map_map]
  apply List.map_congr_left
  intro i _
  simp
theorem rng_nats0 (b : Nat) : rngD 0 (b : Int) = nats (List.range b) := by
  have h := rng_nats 0 b
  simp only [Nat.sub_zero, Nat.zero_add] at h
  rw [List.map_id'] at h
  exact h
theorem okI_nat {n : Nat} (h : n < 2 ^ 62) : okI (n : Int) := ⟨by omega, by omega⟩
theorem eqD_bl {a b : Bool} : eqD (.bl a) (.bl b) = (a == b) := by simp only [eqD]
theorem eqD_int {i j : Int} : eqD (.int i) (.int j) = decide (i = j) := by simp only [eqD]
theorem eqD_str {i j : Str} : eqD (.str i) (.str j) = decide (i = j) := by simp only [eqD]
theorem yEq_int {i j : Int} {O : Oh} {k : DK} : yEq (.int i) (.int j) O k ↔ k (.bl (decide (i = j))) O := by simp [yEq, res, plain, eqD]
theorem yEq_bl {i j : Bool} {O : Oh} {k : DK} : yEq (.bl i) (.bl j) O k ↔ k (.bl (i == j)) O := by simp [yEq, res, plain, eqD]
theorem yEq_str {i j : Str} {O : Oh} {k : DK} : yEq (.str i) (.str j) O k ↔ k (.bl (decide (i = j))) O := by simp [yEq, res, plain, eqD]
theorem yNe_int {i j : Int} {O : Oh} {k : DK} : yNe (.int i) (.int j) O k ↔ k (.bl (!decide (i = j))) O := by simp [yNe, res, plain, eqD]
theorem yNe_bl {i j : Bool} {O : Oh} {k : DK} : yNe (.bl i) (.bl j) O k ↔ k (.bl (!(i == j))) O := by simp [yNe, res, plain, eqD]
theorem yNe_str {i j : Str} {O : Oh} {k : DK} : yNe (.str i) (.str j) O k ↔ k (.bl (!decide (i = j))) O := by simp [yNe, res, plain, eqD]
mutual
theorem eqD_refl : ∀ (n : Nat) (d : D), plain n d = true → eqD d d = true
  | _, .non, _ => by simp only [eqD]
  | _, .bl _, _ => by simp [eqD]
  | _, .int _, _ => by simp [eqD]
  | _, .str _, _ => by simp [eqD]
  | n + 1, .lst ds, h => by simp only [eqD]; exact eqDs_refl n ds (by simpa [plain] using h)
  | n + 1, .tup ds, h => by simp only [eqD]; exact eqDs_refl n ds (by simpa [plain] using h)
  | 0, .lst _, h => by simp [plain] at h
  | 0, .tup _, h => by simp [plain] at h
  | n, .ty _, h => by cases n <;> simp [plain] at h
  | n, .ref _, h => by cases n <;> simp [plain] at h
  | n, .dic _, h => by cases n <;> simp [plain] at h
  | n, .ins _ _, h => by cases n <;> simp [plain] at h
  | n, .scr _, h => by cases n <;> simp [plain] at h
theorem eqDs_refl : ∀ (n : Nat) (ds : List D), (∀ d ∈ ds, plain n d = true) → eqDs ds ds = true
  | _, [], _ => by simp only [eqDs]
  | n, d :: ds, h => by simp only [eqDs, eqD_refl n d (h d (by simp)), eqDs_refl n ds fun x hx => h x (by simp [hx]), Bool.and_self]
end
/-- an empty list | a list that is not -/
theorem yEq_nil {xs : List D} {d : D} {O : Oh} {k : DK} (hx : asL O d = some xs) (hp : plain 64 (.lst xs) = true) : yEq d (.lst []) O k ↔ k (.bl xs.isEmpty) O := by
  have e : res O d = .lst xs := by
    cases d <;> simp_all [asL, res]
    split at hx <;> simp_all
  unfold yEq
  rw [e]
  cases xs <;> simp_all [res, plain, eqD, eqDs]
theorem yNe_nil {xs : List D} {d : D} {O : Oh} {k : DK} (hx : asL O d = some xs) (hp : plain 64 (.lst xs) = true) : yNe d (.lst []) O k ↔ k (.bl !xs.isEmpty) O := by
  have e : res O d = .lst xs := by
    cases d <;> simp_all [asL, res]
    split at hx <;> simp_all
  unfold yNe
  rw [e]
  cases xs <;> simp_all [res, plain, eqD, eqDs]
theorem plain_ints {n : Nat} {l : List Int} : plain (n + 1) (.lst (l.map D.int)) = true := by
  simp [plain]
theorem plain_bls {n : Nat} {l : List Bool} : plain (n + 1) (.lst (l.map D.bl)) = true := by
  simp [plain]

/-! ### comprehensions whose turns leave the owned objects alone -/
theorem lc_run {tg : GG} {gt : GT} {ge : GE} {c : Oh → Prop} {p : Addr} {k : List D → Oh → Prop} {δ : DEnv} {O : Oh} (b : D → Bool) (f : D → D) (hc : ∀ l, c (oupd O p (.lst l))) :
    ∀ (ds acc : List D), (∀ d ∈ ds, ∀ (l : List D) (k1 : DK) (k0 : Oh → Prop), (if b d = true then k1 (f d) (oupd O p (.lst l)) else k0 (oupd O p (.lst l))) → tg d δ (oupd O p (.lst l)) fun δ1 O1 => gt x0 δ1 O1 fun q O2 => if q = true then ge x0 δ1 O2 k1 else k0 O2) →
      k (acc ++ (ds.filter b).map f) (oupd O p (.lst (acc ++ (ds.filter b).map f))) → lcD tg gt ge c p k δ ds acc (oupd O p (.lst acc))
  | [], acc, _, h => by
    unfold lcD
    simp only [List.filter_nil, List.map_nil, List.append_nil] at h
    exact ⟨hc _, oupd_same, h⟩
  | d :: ds, acc, H, h => by
    unfold lcD
    refine ⟨hc _, H d (by simp) acc _ _ ?_⟩
    by_cases hb : b d = true
    · rw [if_pos hb]
      refine ⟨oupd_same, ?_⟩
      rw [oupd_oupd]
      refine lc_run b f hc ds (acc ++ [f d]) (fun x hx => H x (by simp [hx])) ?_
      rw [List.filter_cons, if_pos hb, List.map_cons] at h
      simpa using h
    · rw [if_neg hb]
      refine lc_run b f hc ds acc (fun x hx => H x (by simp [hx])) ?_
      rw [List.filter_cons, if_neg hb] at h
      exact h
theorem lc_top {tg : GG} {gt : GT} {ge : GE} {c : Oh → Prop} {k : DK} {δ : DEnv} {O : Oh} {ds : List D} (b : D → Bool) (f : D → D) (hl : ds.length ≤ sizeLine) (hc : ∀ p l, O p = none → c (oupd O p (.lst l)))
    (H : ∀ p, O p = none → ∀ d ∈ ds, ∀ (l : List D) (k1 : DK) (k0 : Oh → Prop), (if b d = true then k1 (f d) (oupd O p (.lst l)) else k0 (oupd O p (.lst l))) → tg d δ (oupd O p (.lst l)) fun δ1 O1 => gt x0 δ1 O1 fun q O2 => if q = true then ge x0 δ1 O2 k1 else k0 O2)
    (h : k (.lst ((ds.filter b).map f)) O) : ds.length ≤ sizeLine ∧ ∀ p, O p = none → lcD tg gt ge c p (fun acc O' => k (.lst acc) (odel O' p)) δ ds [] (oupd O p (.lst [])) :=
  ⟨hl, fun p hp => lc_run b f (fun l => hc p l hp) ds [] (H p hp) (by rw [odel_oupd hp]; simpa using h)⟩
theorem lc_topT {tg : GG} {gt : GT} {ge : GE} {kk : Addr → List D → Oh → Prop} {δ : DEnv} {O : Oh} {ds : List D} (b : D → Bool) (f : D → D) (hl : ds.length ≤ sizeLine)
    (H : ∀ p, O p = none → ∀ d ∈ ds, ∀ (l : List D) (k1 : DK) (k0 : Oh → Prop), (if b d = true then k1 (f d) (oupd O p (.lst l)) else k0 (oupd O p (.lst l))) → tg d δ (oupd O p (.lst l)) fun δ1 O1 => gt x0 δ1 O1 fun q O2 => if q = true then ge x0 δ1 O2 k1 else k0 O2)
    (h : ∀ p, O p = none → kk p ((ds.filter b).map f) (oupd O p (.lst ((ds.filter b).map f)))) : ds.length ≤ sizeLine ∧ ∀ p, O p = none → lcD tg gt ge (fun _ => True) p (fun acc O' => kk p acc O') δ ds [] (oupd O p (.lst [])) :=
  ⟨hl, fun p hp => lc_run b f (fun _ => trivial) ds [] (H p hp) (by simpa using h p hp)⟩
theorem lc_topO {tg : GG} {gt : GT} {ge : GE} {c : Oh → Prop} {k : DK} {δ : DEnv} {O : Oh} {ds : List D} (b : D → Bool) (f : D → D) (hl : ds.length ≤ sizeLine) (hc : ∀ p l, O p = none → c (oupd O p (.lst l)))
    (H : ∀ p, O p = none → ∀ d ∈ ds, ∀ (l : List D) (k1 : DK) (k0 : Oh → Prop), (if b d = true then k1 (f d) (oupd O p (.lst l)) else k0 (oupd O p (.lst l))) → tg d δ (oupd O p (.lst l)) fun δ1 O1 => gt x0 δ1 O1 fun q O2 => if q = true then ge x0 δ1 O2 k1 else k0 O2)
    (h : ∀ p, O p = none → k (.ref p) (oupd O p (.lst ((ds.filter b).map f)))) : ds.length ≤ sizeLine ∧ ∀ p, O p = none → lcD tg gt ge c p (fun acc O' => k (.ref p) O') δ ds [] (oupd O p (.lst [])) :=
  ⟨hl, fun p hp => lc_run b f (fun l => hc p l hp) ds [] (H p hp) (by simpa using h p hp)⟩
theorem asQ_up {O : Oh} {p : Addr} {o : OD} {d : D} {xs : List D} (hp : O p = none) (h : asQ O d = some xs) : asQ (oupd O p o) d = some xs := by
  cases d with
  | ref a =>
    unfold asQ at h ⊢
    simp only at h ⊢
    have : a ≠ p := by
      rintro rfl
      rw [hp] at h
      simp at h
    rw [oupd_ne this]
    exact h
  | _ => exact h
theorem asL_up {O : Oh} {p : Addr} {o : OD} {d : D} {xs : List D} (hp : O p = none) (h : asL O d = some xs) : asL (oupd O p o) d = some xs := by
  cases d with
  | ref a =>
    unfold asL at h ⊢
    simp only at h ⊢
    have : a ≠ p := by
      rintro rfl
      rw [hp] at h
      simp at h
    rw [oupd_ne this]
    exact h
  | _ => exact h
theorem asL_asQ {O : Oh} {d : D} {xs : List D} (h : asL O d = some xs) : asQ O d = some xs := by
  cases d <;> simp_all [asL, asQ]
end DW

set_option Elab.async false
set_option linter.all false
set_option maxRecDepth 100000
set_option maxHeartbeats 2000000
namespace DW
open PySem L2 PySem.Spec PyProof.Rows
/-! ### the law's call from outside -/
section
variable {P : Program} {w : World} {K : PySem.W.Frag} {mg mb : Str → Option Value} {k : Nat} {f a : Addr} {fd : FuncData} {x : Str} {γ : FnG} {s : Shared} {vs : List Value} {ns : List Int}
/-- what the law's call must give -/
abbrev Gives (P : Program) (w : World) (f a : Addr) (s : Shared) : Prop :=
  codeAny (model P w) callerA (.call (.ref f) ⟨[.ref a], []⟩) (fun r t => r = .ok (.ret (.bool true)) ∧ OldK s.heap t.heap ∧ t.os = s.os ∧ AllBare t.gens) s
structure OnlyAt (K : PySem.W.Frag) (H : Hp) (a : Addr) : Prop where
  only : Only H
  at_ : ∀ b, b ≠ a → H b = none
  off : H a = none ∨ K.lookup a = none
theorem gives_at {H : Hp} (X : OnlyAt K H a) (KX : K.In s.heap) (G : s.heap.Ns mainGlobals mg) (B : s.heap.Ns builtinsNs mb) (BB : ∀ y : Str, y ≠ "__name__" → mb y = bootBuiltins y) (L : s.heap.NoLimit) (hg : s.gens = #[])
    (ha : s.heap.get? a = some { cls := .type "list", data := .seq vs.toArray }) (hl : ns.length ≤ sizeLine) (hr : Room k callerA)
    (F : ∀ base : Heap, K.In base → base.Ns mainGlobals mg → FnD P w K mg base k f fd [x] γ) (hb : BindsTo s fd ⟨[.ref a], []⟩ [(x, .ref a)])
    (hγ : γ [.scr ns] (fun _ => none) (fun d _ => d = .bl true) fun _ _ _ => False) (hS : SqL K H a (ns.map V.int)) (hok : HOk P w H s.heap) : Gives P w f a s := by
  have up : ∀ {b : Addr} {o : Obj}, s.heap.get? b = some o → H b = none → (hidT s.heap H).get? b = some o := fun e n => hidT_get e n
  have nodict : ∀ (b : Addr) (o : Obj) (es : Array DictEntry) (ep : Nat), s.heap.get? b = some o → o.data = .dict es ep → H b = none := by
    intro b o es ep e d
    by_cases q : b = a
    · rw [q, ha] at e
      cases e
      cases (show Data.seq vs.toArray _ = Data.dict es ep from d)
    · exact X.at_ b q
  have names : ∀ (b : Addr) (m : Str → Option Value), s.heap.Ns b m → (hidT s.heap H).Ns b m := by
    rintro b m ⟨o, es, ep, e, d, r⟩
    exact ⟨o, es, ep, up e (nodict b o es ep e d), d, r⟩
  have KB : K.In (hidT s.heap H) := by
    intro b o e
    refine up (KX b o e) ?_
    by_cases q : b = a
    · subst q
      rcases X.off with z | z
      · exact z
      · rw [z] at e; cases e
    · exact X.at_ b q
  have lim : (hidT s.heap H).NoLimit := by
    obtain ⟨mc, h1, h2⟩ := L
    exact ⟨mc, names _ _ h1, h2⟩
  have E : Env0 P w K mg (hidT s.heap H) callerA [] s H :=
    ⟨rfl, ⟨KB, names _ _ G, ⟨mb, names _ _ B, BB⟩, lim⟩, fun _ _ e => of_hidT e, Nat.le_of_eq (hidT_size _ _), trivial, fun b z => (nomatch (show b ∈ ([] : List Addr) from z)), hok, .of_eq hg⟩
  have sp : spD K γ [V.ref a] H (fun v _ => v = .bl true) (fun _ _ _ => False) := by
    refine ⟨H, fun _ => none, [.scr ns], _, _, ⟨Same.refl H, fun _ _ z => nomatch z⟩, .cons (.scr hS hl) .nil, hγ, ?_, fun _ _ _ z => z.elim⟩
    rintro d O rfl v F' H' _ _ rv
    cases rv
    rfl
  refine codeAny_mono ((F _ KB (names _ _ G)).run callerA [] s H ⟨[.ref a], []⟩ [.ref a] [.ref a] _ _ rfl hr E hb (.cons rfl .nil) sp) ?_
  rintro (e | fl) t h
  · obtain ⟨_, _, _, _, _, _, _, _, _, _, _, _, z⟩ := h
    exact z.elim
  · cases fl with
    | ret u =>
      obtain ⟨v, H', os, bare, un, hok', r, q⟩ := h
      obtain rfl : v = V.bl true := q
      obtain rfl : u = Value.bool true := r
      refine ⟨rfl, OldK.of_keep ?_, os, bare⟩
      intro b o e
      rcases X.only b with z | ⟨ob, xs, z⟩
      · exact un.keep b o e z (fun m => nomatch (show b ∈ ([] : List Addr) from m)) (by simp)
      · have y := (hok b _ z).1
        have y2 := (hok' b _ (un.frzs b ob _ z)).1
        rw [e] at y
        cases y
        exact y2
    | _ => exact False.elim h
theorem gives (KX : K.In s.heap) (G : s.heap.Ns mainGlobals mg) (B : s.heap.Ns builtinsNs mb) (BB : ∀ y : Str, y ≠ "__name__" → mb y = bootBuiltins y) (L : s.heap.NoLimit) (hg : s.gens = #[])
    (ha : s.heap.get? a = some { cls := .type "list", data := .seq vs.toArray }) (hi : IntsAre vs ns) (hl : ns.length ≤ sizeLine) (hr : Room k callerA)
    (F : ∀ base : Heap, K.In base → base.Ns mainGlobals mg → FnD P w K mg base k f fd [x] γ) (hb : BindsTo s fd ⟨[.ref a], []⟩ [(x, .ref a)])
    (hγ : γ [.scr ns] (fun _ => none) (fun d _ => d = .bl true) fun _ _ _ => False) : Gives P w f a s := by
  have rv := vals_ints hi
  cases q : K.lookup a with
  | some o =>
    obtain rfl : o = { cls := .type "list", data := .seq vs.toArray } := Option.some.inj ((KX a o q).symm.trans ha)
    refine gives_at (H := fun _ => none) ⟨fun _ => .inl rfl, fun _ _ => rfl, .inl rfl⟩ KX G B BB L hg ha hl hr F hb hγ ?_ fun _ _ z => nomatch z
    exact .inr ⟨_, vs.toArray, _, q, rfl, rfl, rfl, by rw [List.size_toArray, hi.length]; exact hl, by simpa using rv⟩
  | none =>
    refine gives_at (H := fun b => if b = a then some (.frz { cls := .type "list", data := .seq vs.toArray } (.lst (ns.map V.int))) else none) ⟨fun b => ?_, fun b z => if_neg z, .inr q⟩ KX G B BB L hg ha hl hr F hb hγ (.inl (.inr ⟨_, if_pos rfl⟩)) ?_
    · by_cases z : b = a
      · exact .inr ⟨_, _, if_pos z⟩
      · exact .inl (if_neg z)
    · intro b u e
      by_cases z : b = a
      · subst z
        cases (if_pos rfl).symm.trans e
        exact ⟨ha, by rw [List.length_map]; exact hl, vs, _, rv, ha⟩
      · cases (if_neg z).symm.trans e
end
/-- a head's end, from the law's own contract -/
theorem walkD {l : PySem.W.OpenLaw} {n k : Nat} {q : Program} {loose : List Str} {XP : (Str → Option Value) → Heap → Prop} {YP : World → Heap → Prop} {d : DefRec} {x : Str} {γ : FnG} {st : Stmt}
    (hn : l.most = some n) (hn2 : n ≤ sizeLine) (hdf : d.params.defaults = []) (hr : Room k callerA) (nm : d.name = ("law" : Str))
    (hγ : ∀ ns : List Int, ns.length ≤ n → γ [.scr ns] (fun _ => none) (fun d _ => d = .bl true) fun _ _ _ => False)
    (F : ∀ (w : World) (mg : Str → Option Value) (h : Heap), YP w h → h.Ns mainGlobals mg → ∃ K : PySem.W.Frag, K.In h ∧ ∀ base : Heap, Cal l.prog w K mg base k "law" "law" st [x] γ) :
    PySem.W.WalkO q loose XP YP l.row.toRowW d [] (fun f vs => PySem.call f vs) := by
  refine Att.attach_call hn hdf fun w s₀ s mg mb fa o pm cd doc a vs ns G Y ho hd hcd hmg hobj hints hlen hg => ?_
  rw [nm] at hmg
  obtain ⟨K, KX, hC⟩ := F w mg _ Y G.T.g
  obtain ⟨f, fd, f0, hm, hb, _⟩ := (hC s.heap).ex
  obtain rfl : fa = f := by
    rw [hmg] at hm
    cases hm
    rfl
  refine gives KX G.T.g G.T.b G.T.builtins G.T.nolimit hg hobj hints (Nat.le_trans hlen hn2) hr (fun base _ _ => ?_) (hb s [.ref a] KX rfl) (hγ ns hlen)
  obtain ⟨f', fd', f1, hm', _, z⟩ := (hC base).ex
  obtain rfl : fa = f' := by
    rw [hm'] at hmg
    cases hmg
    rfl
  obtain ⟨_, _, _, _, _, _, _, _, _, _, l1, _⟩ := f1.ex
  obtain ⟨_, _, _, _, _, _, _, _, _, _, l0, _⟩ := f0.ex
  obtain rfl : fd = fd' := by
    rw [l1] at l0
    cases l0
    rfl
  exact z
end DW
namespace DW
open PySem L2 PySem.Spec PyProof.Rows
/-- a def as the head's facts have it -/
theorem defAt_of {K : PySem.W.Frag} {mg : Str → Option Value} {x : Str} {st : Stmt} {ps : List Str} {f : Addr} {fd : FuncData} (F : FunD K x x (defArgs st) (defBody st) (defScope st) [] [] f fd) (g : mg x = some (.ref f))
    (h : ∀ (kV doc pm : Value) (an : Option Addr) (cdv ct : Value) (us : List Value), us.length = ps.length → bindArgs (PySem.W.fnOf x x (defArgs st) (defBody st) (defScope st) .none kV doc pm an cdv ct) ⟨us, []⟩ = pure (ps.zip us)) : DefAt K mg x x st ps := by
  have b := FunD.bindsN F h
  obtain ⟨oc, od, dV, kV, doc, pm, an, cdv, ct, osl, e, lk, hcd, hD, hK⟩ := F.ex
  rcases hD with ⟨_, rfl⟩ | ⟨z, _⟩
  · exact ⟨f, fd, ⟨⟨oc, od, kV, doc, pm, an, cdv, ct, osl, e, lk, hcd⟩, F.kp⟩, g, b⟩
  · exact absurd rfl z
end DW

set_option Elab.async false
set_option linter.all false
set_option maxRecDepth 100000
set_option maxHeartbeats 2000000
namespace DW
open PySem L2 PySem.Spec PyProof.Rows
/-! ### range with a step -/
def rngC (lo c : Int) (n : Nat) : List D := (List.range n).map fun i => D.int (lo + (i : Nat) * c)
def gRng3 (g : GA) : GI := fun x δ O k => g x δ O fun ds O1 => ∃ (i j c : Int) (n : Nat), ds = [.int i, .int j, .int c] ∧ RgC i j c n ∧ k (rngC i c n) (fun _ => True) O1
theorem rngC_length (lo c : Int) (n : Nat) : (rngC lo c n).length = n := by unfold rngC; rw [List.length_map, List.length_range]
theorem itok_rngC (K : PySem.W.Frag) (F : Hp) (lo c : Int) (n : Nat) : ItOk K (Itc lo c n) F (rngC lo c n) (fun _ => True) := fun F' O H e rl _ i => by
  rw [rngC_length]
  refine ⟨fun h => h, fun d hd => ?_⟩
  have hi' : i < n := by
    have := (List.getElem?_eq_some_iff.mp hd).1
    rw [rngC_length] at this
    exact this
  refine ⟨hi', fun v H' ⟨e1, e2⟩ => ?_⟩
  subst e1 e2
  refine ⟨F', Same.refl _, rl, ?_⟩
  unfold rngC at hd
  rw [List.getElem?_map, List.getElem?_range hi'] at hd
  cases hd
  exact .int _
section
variable {X : Cx} {W : WX} {tg a b c : Expr} {gr : GA} {p pos : Pos}
theorem di_rng3 (hg : Gl X "range") (hm : X.mg "range" = none) (ha : DA X W [a, b, c] gr) (hs : starEach [a, b, c] X.env = (false, eval a X.env) :: starEach [b, c] X.env := by rfl) (hpl : (backTo pos (starEach [b, c] X.env)).any (·.1) = false := by rfl) : DI X W tg (.Call (.Name "range" p) [a, b, c] [] pos) (gRng3 gr) := pi_weak (pi_range3 hg hm ha hs hpl) fun σ H R ⟨F, O, δ, x, k, xo, rl, rs, gg, vk⟩ => by
  refine ⟨F, O, δ, x, _, xo, rl, rs, gg, fun ds O1 ⟨i, j, c, n, ed, hc, g1⟩ vs F1 H1 e1 rl1 rv => ?_⟩
  subst ed
  cases rv with
  | cons r1 r2 =>
    cases r2 with
    | cons r2 r3 =>
      cases r3 with
      | cons r3 r4 =>
        cases r4; cases r3; cases r2; cases r1
        exact ⟨i, j, c, n, rfl, hc, vk _ _ O1 g1 _ F1 H1 e1 rl1 (itok_rngC X.K F1 i c n)⟩
end
/-- how many there are of lo, lo + c, .. below hi -/
def rngN (lo hi c : Nat) : Nat := if lo < hi then (hi - lo - 1) / c + 1 else 0
theorem rngN_spec {lo hi c i : Nat} (hc : 0 < c) : i < rngN lo hi c ↔ lo + i * c < hi := by
  unfold rngN
  split
  · rename_i h
    rw [Nat.lt_succ_iff, Nat.le_div_iff_mul_le hc]
    omega
  · rename_i h
    have : 0 ≤ i * c := Nat.zero_le _
    omega
theorem rgC_up {lo hi c : Nat} (hc : 0 < c) (hl : lo < 1000000) (hh : hi < 1000000) (hcc : c < 1000000) : RgC lo hi c (rngN lo hi c) := by
  have e : Builtin.Range.rangeSize (lo : Int) hi c = (rngN lo hi c : Int) := by
    unfold Builtin.Range.rangeSize rngN
    rw [if_pos (by omega)]
    by_cases h : lo < hi
    · rw [if_pos (by omega), if_pos h]
      have : (hi : Int) - lo - 1 = ((hi - lo - 1 : Nat) : Int) := by omega
      rw [this]
      push_cast
      omega
    · rw [if_neg (by omega), if_neg h]
      rfl
  refine ⟨by omega, by omega, ?_, e⟩
  unfold Builtin.Range.small
  rw [e]
  simp only [Builtin.Range.rangeFitsLong, Bool.and_eq_true, Bool.or_eq_true, decide_eq_true_eq, beq_iff_eq]
  have hN : rngN lo hi c ≤ hi := by
    unfold rngN
    split
    · have := Nat.div_le_self (hi - lo - 1) c
      omega
    · omega
  rw [if_pos (show (c : Int) > 0 by omega)]
  simp only [Bool.and_eq_true, decide_eq_true_eq]
  omega
/-! ### the module's constants -/
section
variable {X : Cx} {W : WX} {x : Str} {pos : Pos}
theorem de_gint {i : Int} (hg : Gl X x) (h : ∃ t, X.mg x = some (.int i t)) (hd : (x == ("__debug__" : Str)) = false := by decide) : DE X W (.Name x pos) (gC (.int i)) := by
  obtain ⟨t, h⟩ := h
  exact de_glob hg h (show RelV (V.int i) _ from ⟨t, rfl⟩) (fun _ => .int i) hd
end
end DW

set_option Elab.async false
set_option linter.all false
set_option maxRecDepth 100000
set_option maxHeartbeats 2000000
namespace DW
open PySem L2

/-! ### lots of numbers that come round: what the defs are worth -/
/-- f comes round from t on, by d and by nothing less -/
structure Can (f : Nat → Bool) (t d : Nat) : Prop where
  pos : 0 < d
  per : ∀ n, t ≤ n → f (n + d) = f n
  low : ∀ s, 0 < s → s < d → ¬ ∀ n, t ≤ n → f (n + s) = f n
  ends : t = 0 ∨ f (t - 1 + d) ≠ f (t - 1)
def lows (f : Nat → Bool) (t : Nat) : List Nat := (List.range t).filter f
def highs (f : Nat → Bool) (t d : Nat) : List Nat := (List.range d).filter fun i => f (t + i)
def canT (f : Nat → Bool) (t d : Nat) : D := .tup [.tup (nats (lows f t)), .int t, .int d, .tup (nats (highs f t d))]
/-- the numbers that four things tell -/
def fOf (some : List D) (tail period : Nat) (rests : List D) : Nat → Bool := fun n => if n < tail then inD (.int n) some else inD (.int ((n - tail) % period : Nat)) rests
def y_is_in : FnG := fun ds O k _ => ∃ f t d n, ds = [canT f t d, .int (n : Nat)] ∧ 0 < d ∧ t ≤ 1000 ∧ d ≤ 1000 ∧ k (.bl (fOf (nats (lows f t)) t d (nats (highs f t d)) n)) O
def y_greatest_in : FnG := fun ds O k _ => ∃ f t d, ds = [canT f t d] ∧ t ≤ 1000 ∧ d ≤ 1000 ∧ k (if highs f t d = [] then (match (lows f t).getLast? with | some n => .int (n : Nat) | none => .non) else .non) O
/-- the least divisor of p by which rests come round -/
def comesBy (rests : List D) (p s : Nat) : Bool := decide (p % s = 0) && (List.range p).all fun r => inD (.int (r : Nat)) rests == inD (.int ((r + s) % p : Nat)) rests
def leastP (p : Nat) (rests : List D) : Nat := (((List.range (p - 1)).map (· + 1)).find? fun s => comesBy rests p s).getD p
def y_least_period : FnG := fun ds O k _ => ∃ p rd rests, ds = [.int (p : Nat), rd] ∧ asQ O rd = some rests ∧ rests.all flatD = true ∧ 0 < p ∧ p ≤ 1000 ∧ k (.int (leastP p rests : Nat)) O
def y_numbers_told : FnG := fun ds O k _ => ∃ sd some tail period rd rests, ds = [sd, .int (tail : Nat), .int (period : Nat), rd] ∧ asQ O sd = Option.some some ∧ asQ O rd = Option.some rests ∧ some.all flatD = true ∧ rests.all flatD = true ∧ tail ≤ 1000 ∧ 0 < period ∧ period ≤ 1000 ∧
  ∀ t d, Can (fOf some tail period rests) t d → t ≤ tail → d ≤ period → k (canT (fOf some tail period rests) t d) O
/-- the source of draws -/
def Feed (O : Oh) (d r : Addr) : Prop := d ≠ r ∧ ∃ (rows : List Int) (s : Int), O d = some (.dic [(.inr "rows", .ref r), (.inr "seed", .int s)]) ∧ O r = some (.lst (rows.map D.int)) ∧ rows.length ≤ 100 ∧ (∀ x ∈ rows, 0 ≤ x) ∧ 0 ≤ s ∧ s < 2147483549
def Keeps (O O' : Oh) (d r : Addr) : Prop := ∀ a, a ≠ d → a ≠ r → O' a = O a
def y_law_feed : FnG := fun ds O k _ => ∃ (ns : List Int) (b : Int), ds = [.scr ns, .int b] ∧ ns.length ≤ 63 ∧ 0 ≤ b ∧ b ≤ 10 ∧ ∀ d r O', O d = none → O r = none → Feed O' d r → Keeps O O' d r → k (.ref d) O'
def y_law_take : FnG := fun ds O k _ => ∃ (d r : Addr) (w : Int), ds = [.ref d, .int w] ∧ Feed O d r ∧ 0 < w ∧ w < 1073741824 ∧ ∀ (n : Nat) O', (n : Int) < w → Feed O' d r → Keeps O O' d r → k (.int n) O'
def told4 (some : List Nat) (tail period : Nat) (rests : List Nat) : D := .tup [.lst (nats some), .int tail, .int period, .lst (nats rests)]
def y_law_drawn_told : FnG := fun ds O k _ => ∃ (d r : Addr), ds = [.ref d] ∧ Feed O d r ∧ ∀ some tail period rests O', tail ≤ 6 → 0 < period → period ≤ 12 → some.length ≤ 6 → rests.length ≤ 12 → Keeps O O' d r → k (told4 some tail period rests) O'
def y_law_has : FnG := fun ds O k _ => ∃ (some : List Nat) (tail period : Nat) (rests : List Nat) (n : Nat), ds = [told4 some tail period rests, .int n] ∧ 0 < period ∧ k (.bl (fOf (nats some) tail period (nats rests) n)) O
def y_law_told : FnG := fun ds O k _ => ∃ (f : Nat → Bool) (t d L : Nat), ds = [.lst ((List.range L).map fun n => D.bl (f n)), .int 30] ∧ Can f t d ∧ t ≤ 30 ∧ d ≤ 14 ∧ 60 ≤ L ∧ L ≤ 1000 ∧ k (canT f t d) O
def y_law : FnG := fun ds O k _ => ∃ ns : List Int, ds = [.scr ns] ∧ ns.length ≤ 63 ∧ ∀ O', k (.bl true) O'
end DW

set_option Elab.async false
set_option linter.all false
set_option maxRecDepth 100000
set_option maxHeartbeats 2000000
namespace DW
open PySem L2

def Per (f : Nat → Bool) (t s : Nat) : Prop := ∀ n, t ≤ n → f (n + s) = f n
theorem Per.mul {f : Nat → Bool} {t d : Nat} (h : Per f t d) : ∀ m, Per f t (m * d)
  | 0 => fun n _ => by rw [Nat.zero_mul]; rfl
  | m + 1 => fun n hn => by rw [Nat.succ_mul, ← Nat.add_assoc, h _ (by omega), Per.mul h m n hn]
theorem Per.mono {f : Nat → Bool} {t u d : Nat} (h : Per f t d) (l : t ≤ u) : Per f u d := fun n hn => h n (Nat.le_trans l hn)
/-- a period from further on is one from where another begins -/
theorem Per.back {f : Nat → Bool} {t u s d : Nat} (h : Per f u s) (g : Per f t d) (hd : 0 < d) : Per f t s := fun n hn => by
  have hm : u ≤ n + u * d := Nat.le_trans (Nat.le_mul_of_pos_right u hd) (Nat.le_add_left _ _)
  have e1 := g.mul u n hn
  have e2 := g.mul u (n + s) (by omega)
  have e3 := h (n + u * d) hm
  rw [← e2, ← e1, ← e3]
  congr 1
  omega
theorem Per.mod {f : Nat → Bool} {t a b : Nat} (ha : Per f t a) (hb : Per f t b) : Per f t (a % b) := fun n hn => by
  have e := hb.mul (a / b) (n + a % b) (by omega)
  rw [← e, ← ha n hn]
  congr 1
  have := Nat.mod_add_div a b
  rw [Nat.mul_comm] at this
  omega
theorem Per.gcd {f : Nat → Bool} {t : Nat} (a b : Nat) (ha : Per f t a) (hb : Per f t b) : Per f t (Nat.gcd a b) := by
  induction a, b using Nat.gcd.induction with
  | H0 n => rw [Nat.gcd_zero_left]; exact hb
  | H1 m n hm ih =>
    rw [Nat.gcd_rec]
    exact ih (hb.mod ha) ha
theorem can_unique {f : Nat → Bool} {t d t' d' : Nat} (h : Can f t d) (h' : Can f t' d') : t = t' ∧ d = d' := by
  have p1 : Per f t d := h.per
  have p2 : Per f t' d' := h'.per
  have q1 : Per f t d' := p2.back p1 h.pos
  have q2 : Per f t' d := p1.back p2 h'.pos
  have hd : d = d' := by
    rcases Nat.lt_trichotomy d d' with l | l | l
    · exact absurd q2 (h'.low d h.pos l)
    · exact l
    · exact absurd q1 (h.low d' h'.pos l)
  subst hd
  refine ⟨?_, rfl⟩
  rcases Nat.lt_trichotomy t t' with l | l | l
  · rcases h'.ends with z | z
    · omega
    · exact absurd (p1 (t' - 1) (by omega)) z
  · exact l
  · rcases h.ends with z | z
    · omega
    · exact absurd (p2 (t - 1) (by omega)) z
theorem fOf_low {some rests : List D} {tail period n : Nat} (h : n < tail) : fOf some tail period rests n = inD (.int (n : Nat)) some := by unfold fOf; rw [if_pos h]
theorem fOf_high {some rests : List D} {tail period m : Nat} : fOf some tail period rests (tail + m) = inD (.int (m % period : Nat)) rests := by
  unfold fOf; rw [if_neg (by omega), Nat.add_sub_cancel_left]
theorem fOf_per {some rests : List D} {tail period : Nat} : Per (fOf some tail period rests) tail period := fun n hn => by
  obtain ⟨m, rfl⟩ := Nat.exists_eq_add_of_le hn
  rw [Nat.add_assoc, fOf_high, fOf_high, Nat.add_mod_right]
theorem comes_iff {some rests : List D} {tail p s : Nat} (hp : 0 < p) (hs : p % s = 0) : comesBy rests p s = true ↔ Per (fOf some tail p rests) tail s := by
  unfold comesBy
  rw [decide_eq_true hs, Bool.true_and, List.all_eq_true]
  constructor
  · intro h n hn
    obtain ⟨m, rfl⟩ := Nat.exists_eq_add_of_le hn
    rw [Nat.add_assoc, fOf_high, fOf_high]
    have := h (m % p) (List.mem_range.mpr (Nat.mod_lt _ hp))
    simp only [beq_iff_eq] at this
    rw [this, Nat.mod_add_mod]
  · intro h r hr
    have hr := List.mem_range.mp hr
    have := h (tail + r) (by omega)
    rw [Nat.add_assoc, fOf_high, fOf_high, Nat.mod_eq_of_lt hr] at this
    simp only [beq_iff_eq]
    exact this.symm
theorem leastP_pos {p : Nat} {rests : List D} (hp : 0 < p) : 0 < leastP p rests := by
  unfold leastP
  cases h : ((List.range (p - 1)).map (· + 1)).find? fun s => comesBy rests p s with
  | none => exact hp
  | some s =>
    have := List.mem_of_find?_eq_some h
    obtain ⟨i, _, rfl⟩ := List.mem_map.mp this
    exact Nat.succ_pos i
theorem leastP_le {p : Nat} {rests : List D} : leastP p rests ≤ p := by
  unfold leastP
  cases h : ((List.range (p - 1)).map (· + 1)).find? fun s => comesBy rests p s with
  | none => exact Nat.le_refl p
  | some s =>
    have := List.mem_of_find?_eq_some h
    obtain ⟨i, hi, rfl⟩ := List.mem_map.mp this
    have := List.mem_range.mp hi
    show i + 1 ≤ p
    omega
theorem leastP_per {some rests : List D} {tail p : Nat} (hp : 0 < p) : Per (fOf some tail p rests) tail (leastP p rests) := by
  unfold leastP
  cases h : ((List.range (p - 1)).map (· + 1)).find? fun s => comesBy rests p s with
  | none => exact fOf_per
  | some s =>
    have hc := List.find?_some h
    have hm : p % s = 0 := by
      unfold comesBy at hc
      rw [Bool.and_eq_true] at hc
      exact of_decide_eq_true hc.1
    exact (comes_iff hp hm).mp hc
theorem find_first {l : List Nat} {q : Nat → Bool} {m : Nat} (hq : q m = true) (hm : m ∈ l) (hl : l.Pairwise (· < ·)) (h : ∀ s, l.find? q = some s → s ≤ m) : True := trivial
theorem find_le : ∀ {l : List Nat} {q : Nat → Bool} {m : Nat}, q m = true → m ∈ l → l.Pairwise (· < ·) → ∃ s, l.find? q = some s ∧ s ≤ m
  | [], q, m, _, hm, _ => by cases hm
  | a :: l, q, m, hq, hm, hl => by
    rw [List.find?_cons]
    cases ha : q a with
    | true =>
      refine ⟨a, rfl, ?_⟩
      rcases List.mem_cons.mp hm with e | e
      · omega
      · exact Nat.le_of_lt (List.rel_of_pairwise_cons hl e)
    | false =>
      rcases List.mem_cons.mp hm with e | e
      · subst e; rw [hq] at ha; cases ha
      · exact find_le hq e (List.Pairwise.of_cons hl)
theorem range_lt (n : Nat) : ((List.range n).map (· + 1)).Pairwise (· < ·) := by
  rw [List.pairwise_map]
  exact List.Pairwise.imp (fun h => by omega) List.pairwise_lt_range
theorem leastP_low {some rests : List D} {tail p s : Nat} (hp : 0 < p) (hs : 0 < s) (hl : s < leastP p rests) : ¬ Per (fOf some tail p rests) tail s := fun h => by
  have hg := Per.gcd s p h fOf_per
  have hd : Nat.gcd s p ∣ p := Nat.gcd_dvd_right s p
  have hgp : 0 < Nat.gcd s p := Nat.gcd_pos_of_pos_right s hp
  have hgs : Nat.gcd s p ≤ s := Nat.gcd_le_left p hs
  have hle := leastP_le (p := p) (rests := rests)
  have hc := (comes_iff (some := some) (tail := tail) hp (Nat.mod_eq_zero_of_dvd hd)).mpr hg
  obtain ⟨s', e, l⟩ := find_le (l := (List.range (p - 1)).map (· + 1)) (q := fun s => comesBy rests p s) (m := Nat.gcd s p) hc
    (List.mem_map.mpr ⟨Nat.gcd s p - 1, List.mem_range.mpr (by omega), by omega⟩) (range_lt _)
  unfold leastP at hl
  rw [e] at hl
  have hl : s < s' := hl
  omega
/-- one step of the tail back -/
theorem highs_back {f : Nat → Bool} {t s : Nat} (hs : 0 < s) (h : f (t + s) = f t) : ((highs f (t + 1) s).map fun r => (r + 1) % s).Perm (highs f t s) := by
  obtain ⟨m, rfl⟩ : ∃ m, s = m + 1 := ⟨s - 1, by omega⟩
  unfold highs
  have e1 : List.range (m + 1) = List.range m ++ [m] := List.range_succ
  have e2 : List.range (m + 1) = 0 :: (List.range m).map (· + 1) := List.range_succ_eq_map
  conv => lhs; rw [e1]
  conv => rhs; rw [e2]
  simp only [List.filter_append, List.map_append, List.filter_cons, List.filter_nil, List.filter_map]
  have a1 : ((List.range m).filter fun i => f (t + 1 + i)).map (fun r => (r + 1) % (m + 1)) = ((List.range m).filter ((fun i => f (t + i)) ∘ fun x => x + 1)).map (· + 1) := by
    have q : (fun i => f (t + 1 + i)) = ((fun i => f (t + i)) ∘ fun x => x + 1) := by
      funext i
      show f (t + 1 + i) = f (t + (i + 1))
      congr 1; omega
    rw [q]
    apply List.map_congr_left
    intro r hr
    have := List.mem_range.mp (List.mem_filter.mp hr).1
    exact Nat.mod_eq_of_lt (by omega)
  rw [a1]
  have hh : f (t + 1 + m) = f (t + 0) := by
    have e : t + 1 + m = t + (m + 1) := by omega
    rw [e, h]; rfl
  rw [hh]
  cases f (t + 0) with
  | true =>
    simp only [if_true, List.map_cons, List.map_nil, Nat.mod_self]
    exact List.perm_append_comm
  | false => simp
theorem highs_le {f : Nat → Bool} {t s : Nat} : (highs f t s).Pairwise (· ≤ ·) := by
  unfold highs
  exact List.Pairwise.filter _ (List.Pairwise.imp (fun h => Nat.le_of_lt h) List.pairwise_lt_range)
theorem lows_cut {f : Nat → Bool} {t : Nat} : (lows f (t + 1)).filter (fun n => decide (n < t)) = lows f t := by
  unfold lows
  rw [List.range_succ, List.filter_append, List.filter_append, List.filter_filter]
  have e2 : (([t] : List Nat).filter f).filter (fun n => decide (n < t)) = [] := by
    rw [List.filter_eq_nil_iff]
    intro a ha
    have := (List.mem_filter.mp ha).1
    simp at this
    subst this
    simp
  rw [e2, List.append_nil]
  apply List.filter_congr
  intro a ha
  have := List.mem_range.mp ha
  simp [this]
theorem inD_nats {n : Nat} {l : List Nat} : inD (.int (n : Nat)) (nats l) = decide (n ∈ l) := by
  unfold inD nats
  rw [List.any_map]
  induction l with
  | nil => simp
  | cons a l ih =>
    rw [List.any_cons, ih]
    simp only [Function.comp_def, eqD_int, List.mem_cons]
    by_cases h : n = a
    · subst h; simp
    · have : ¬ ((a : Int) = (n : Int)) := by omega
      simp [h, this]
theorem mem_lows {f : Nat → Bool} {t n : Nat} : n ∈ lows f t ↔ n < t ∧ f n = true := by unfold lows; rw [List.mem_filter, List.mem_range]
theorem mem_highs {f : Nat → Bool} {t d n : Nat} : n ∈ highs f t d ↔ n < d ∧ f (t + n) = true := by unfold highs; rw [List.mem_filter, List.mem_range]
/-- the canonical four tell the same numbers -/
theorem fOf_can {f : Nat → Bool} {t d : Nat} (hd : 0 < d) (p : Per f t d) : fOf (nats (lows f t)) t d (nats (highs f t d)) = f := by
  funext n
  by_cases h : n < t
  · rw [fOf_low h, inD_nats]
    cases q : f n with
    | true => exact decide_eq_true (mem_lows.mpr ⟨h, q⟩)
    | false => exact decide_eq_false fun z => by rw [(mem_lows.mp z).2] at q; cases q
  · obtain ⟨m, rfl⟩ := Nat.exists_eq_add_of_le (Nat.le_of_not_lt h)
    rw [fOf_high, inD_nats]
    have e : f (t + m) = f (t + m % d) := by
      have := p.mul (m / d) (t + m % d) (by omega)
      rw [← this]
      congr 1
      have := Nat.mod_add_div m d
      rw [Nat.mul_comm] at this
      omega
    rw [e]
    cases q : f (t + m % d) with
    | true => exact decide_eq_true (mem_highs.mpr ⟨Nat.mod_lt _ hd, q⟩)
    | false => exact decide_eq_false fun z => by rw [(mem_highs.mp z).2] at q; cases q
end DW

set_option Elab.async false
set_option linter.all false
set_option maxRecDepth 100000
set_option maxHeartbeats 2000000
namespace DW
open PySem L2
/-! ### rounds -/
/-- no multiple of n is one of the numbers -/
noncomputable def safeP (f : Nat → Bool) (n : Nat) : Bool := @decide (∀ k, 1 ≤ k → f (n * k) = false) (Classical.propDecidable _)
noncomputable def gS (f : Nat → Bool) : Nat → Bool := fun n => decide (2 ≤ n) && safeP f n
def farB (f : Nat → Bool) (t d b : Nat) : Bool := (highs f t d).all fun r => decide (0 < (t + r) % Nat.gcd b d)
def firstD (f : Nat → Bool) (t d : Nat) : D := match (lows f t).head? with
  | some n => .int n
  | none => match (highs f t d).head? with
    | some r => .int (t + r : Nat)
    | none => .non
def optD : Option Nat → D
  | some n => .int n
  | none => .non
def First (g : Nat → Bool) : Option Nat → Prop
  | some m => g m = true ∧ ∀ n, n < m → g n = false
  | none => ∀ n, g n = false
def y_divisor : FnG := fun ds O k _ => ∃ a b : Nat, ds = [.int a, .int b] ∧ k (.int (Nat.gcd a b : Nat)) O
def y_is_far_safe : FnG := fun ds O k _ => ∃ f t d b, ds = [canT f t d, .int (b : Nat)] ∧ 0 < d ∧ t ≤ 1000 ∧ d ≤ 1000 ∧ k (.bl (farB f t d b)) O
def y_is_safe_round : FnG := fun ds O k _ => ∃ f t d b, ds = [canT f t d, .int (b : Nat)] ∧ Can f t d ∧ t ≤ 100 ∧ d ≤ 100 ∧ 0 < b ∧ b ≤ 1000 ∧ k (.bl (safeP f b)) O
def y_safe_rounds : FnG := fun ds O k _ => ∃ f t d, ds = [canT f t d] ∧ Can f t d ∧ t ≤ 100 ∧ d ≤ 100 ∧ ∀ t2 d2, Can (gS f) t2 d2 → t2 ≤ max 2 t → d2 ≤ d → k (canT (gS f) t2 d2) O
def y_first_told : FnG := fun ds O k _ => ∃ f t d, ds = [canT f t d] ∧ t ≤ 1000 ∧ d ≤ 1000 ∧ k (firstD f t d) O
def y_least_round : FnG := fun ds O k _ => ∃ f t d, ds = [canT f t d] ∧ Can f t d ∧ t ≤ 100 ∧ d ≤ 100 ∧ ∀ r, First (gS f) r → (∀ m, r = some m → m < max 2 t + d) → k (optD r) O
end DW

set_option Elab.async false
set_option linter.all false
set_option maxRecDepth 100000
set_option maxHeartbeats 4000000
namespace DW
open PySem L2 PySem.Spec PyProof.Rows
def topS (i : Nat) : Stmt := PySem.Challenge.pw_unfooled_k48_safe_rounds_by_trying.main.body.getD i (.Pass ⟨0, 0, 0, 0⟩)
structure Blt (mg : Str → Option Value) (K : PySem.W.Frag) : Prop where
  abs : mg "abs" = none
  all : mg "all" = none
  any : mg "any" = none
  int : mg "int" = none
  len : mg "len" = none
  max : mg "max" = none
  range : mg "range" = none
  repr : mg "repr" = none
  sorted : mg "sorted" = none
  tuple : mg "tuple" = none
  LEAST : ∃ t, mg "LEAST" = some (.int 2 t)
abbrev st_is_in : Stmt := topS 1
abbrev N_is_in : List Str := ["told", "number", "below", "tail", "period", "rests"]
theorem sc_is_in : FnScope N_is_in ["told", "number"] (defScope st_is_in) := ⟨rfl, rfl, rfl, by decide +kernel, rfl, by decide +kernel, by decide +kernel⟩
def g_is_in : GS := (sSeq (sAsg (gVar 0) (tgTup 4 (tgCons (tgName 2) (tgCons (tgName 3) (tgCons (tgName 4) (tgCons (tgName 5) tgNil))))))
    (sRet (gIf (gTest (gOp (yCmp fun i j => decide (i < j)) (gVar 1) (gVar 3))) (gOp (yIn false) (gVar 1) (gVar 2)) (gOp (yIn false) (gOp yMod (gOp ySub (gVar 1) (gVar 3)) (gVar 4)) (gVar 5)))))
theorem der_is_in {P : Program} {w : World} {K : PySem.W.Frag} {mg : Str → Option Value} {base : Heap} (B : Blt mg K)  (f : Addr) (cdv : Value) (A : Around) (outer : List Env) (s : Shared) (H : Hp) (E : XK) (hG : A.guards = some [])
    (hr : Room 0 (A.deeper (envOfC "is_in" (defScope st_is_in) s.heap.objs.size f cdv))) (tk : Takes (cxD P w K mg base N_is_in "is_in" st_is_in f cdv A outer s H E) (wxD E)) :
    DB (cxD P w K mg base N_is_in "is_in" st_is_in f cdv A outer s H E) (wxD E) (defBody st_is_in) g_is_in :=
  (db_cons (ds_asg (dv 0) (dg_tup rfl (dgs_cons (dg_name (i := 2) sc_is_in.nd rfl (Or.inl rfl)) (dgs_cons (dg_name (i := 3) sc_is_in.nd rfl (Or.inl rfl)) (dgs_cons (dg_name (i := 4) sc_is_in.nd rfl (Or.inl rfl)) (dgs_cons (dg_name (i := 5) sc_is_in.nd rfl (Or.inl rfl)) dgs_nil))))))
    (db_one (ds_ret (de_if (dt_cmp op_lt rd_cmp (dv 1) (dv 3) (nomark _)) (de_cmp (op_in_sign.or op_in_seq) rd_in (dv 1) (dv 2) (by rfl)) (de_cmp (op_in_sign.or op_in_seq) rd_in (de_bin op_mod rd_mod (de_bin op_sub rd_sub (dv 1) (dv 3)) (dv 4)) (dv 5) (by rfl))))))
theorem ok_is_in {P : Program} {w : World} {K : PySem.W.Frag} {mg : Str → Option Value} {base : Heap} (A : DefAt K mg "is_in" "is_in" st_is_in ["told", "number"]) (B : Blt mg K) 
    (len : ∀ ds O k e, y_is_in ds O k e → ds.length = 2) (law : ∀ ds O kd e, y_is_in ds O kd e → g_is_in (fun _ => e) (startD N_is_in ds) O { nx := fun _ O' => Fz kd .non O', rt := Fz kd }) :
    Cal P w K mg base 1 "is_in" "is_in" st_is_in ["told", "number"] y_is_in := cal_of A sc_is_in len (der_is_in B ) law
abbrev st_least_period : Stmt := topS 2
abbrev N_least_period : List Str := ["period", "rests", "size", "rest"]
theorem sc_least_period : FnScope N_least_period ["period", "rests"] (defScope st_least_period) := ⟨rfl, rfl, rfl, by decide +kernel, rfl, by decide +kernel, by decide +kernel⟩
def b1_least_period : GS := (sIf (gAnd (gTest (gOp yEq (gOp yMod (gVar 0) (gVar 2)) (gC (.int 0)))) (gTest (gCB cAll (gCons (gLc (gRng1 (gCons (gVar 0) gNil)) (tgName 3) gYes (gOp yEq (gOp (yIn false) (gVar 3) (gVar 1)) (gOp (yIn false) (gOp yMod (gOp yAdd (gVar 3) (gVar 2)) (gVar 0)) (gVar 1))) [3]) gNil)))) (sRet (gVar 2)) sNext)
def g_least_period : GS := (sSeq (sFor (gRng2 (gCons (gC (.int 1)) (gCons (gVar 0) gNil))) (tgName 2) b1_least_period)
    (sRet (gVar 0)))
theorem der_least_period {P : Program} {w : World} {K : PySem.W.Frag} {mg : Str → Option Value} {base : Heap} (B : Blt mg K)  (f : Addr) (cdv : Value) (A : Around) (outer : List Env) (s : Shared) (H : Hp) (E : XK) (hG : A.guards = some [])
    (hr : Room 0 (A.deeper (envOfC "least_period" (defScope st_least_period) s.heap.objs.size f cdv))) (tk : Takes (cxD P w K mg base N_least_period "least_period" st_least_period f cdv A outer s H E) (wxD E)) :
    DB (cxD P w K mg base N_least_period "least_period" st_least_period f cdv A outer s H E) (wxD E) (defBody st_least_period) g_least_period :=
  (db_cons (ds_for (passes_of rfl) rfl (di_rng2 (by rfl) B.range (da_cons de_int (da_cons (dv 0) da_nil))) (dg_name (i := 2) sc_least_period.nd rfl (Or.inr rfl)) (db_one (ds_if (PW.pt (dw_and (dt_cmp (op_eqD hr.units) rd_eq (de_bin op_mod rd_mod (dv 0) (dv 2)) de_int (nomark _)) (dw_and1 (dt_val (de_callB (cr_all rfl) rc_all (by rfl) B.all (by decide +kernel) (da_cons (de_lc (own := [("rest", 3)]) rfl sc_least_period.nd (di_rng1 (by rfl) B.range (da_cons (dv 0) da_nil)) (blkOk_by (N := N_least_period) (sc := defScope st_least_period) (own := [("rest", 3)]) (by decide +kernel)) (tgok_name (by decide)) (fun _ _ _ _ _ => (pg_name (i := 3) sc_least_period.nd rfl (by first | exact Or.inl rfl | exact Or.inr rfl))) (fun _ _ _ _ _ => dts_nil) (fun _ _ _ _ _ => (de_cmp (op_eqD hr.units) rd_eq (de_cmp (op_in_sign.or op_in_seq) rd_in (dv 3) (dv 1) (by rfl)) (de_cmp (op_in_sign.or op_in_seq) rd_in (de_bin op_mod rd_mod (de_bin (op_add.or (op_add_str.or (op_cat.or op_catA))) rd_add (dv 3) (dv 2)) (dv 0)) (dv 1) (by rfl)) (nomark _)))) da_nil)))))) (db_one (ds_ret (dv 2))) db_nil)))
    (db_one (ds_ret (dv 0))))
theorem ok_least_period {P : Program} {w : World} {K : PySem.W.Frag} {mg : Str → Option Value} {base : Heap} (A : DefAt K mg "least_period" "least_period" st_least_period ["period", "rests"]) (B : Blt mg K) 
    (len : ∀ ds O k e, y_least_period ds O k e → ds.length = 2) (law : ∀ ds O kd e, y_least_period ds O kd e → g_least_period (fun _ => e) (startD N_least_period ds) O { nx := fun _ O' => Fz kd .non O', rt := Fz kd }) :
    Cal P w K mg base 1 "least_period" "least_period" st_least_period ["period", "rests"] y_least_period := cal_of A sc_least_period len (der_least_period B ) law
abbrev st_numbers_told : Stmt := topS 3
abbrev N_numbers_told : List Str := ["some", "tail", "period", "rests", "size", "known", "left", "number", "rest"]
theorem sc_numbers_told : FnScope N_numbers_told ["some", "tail", "period", "rests"] (defScope st_numbers_told) := ⟨rfl, rfl, rfl, by decide +kernel, rfl, by decide +kernel, by decide +kernel⟩
def b1_numbers_told : GT := (gAnd (gTest (gOp (yCmp fun i j => decide (j < i)) (gVar 1) (gC (.int 0)))) (gTest (gOp yEq (gOp (yIn false) (gOp ySub (gVar 1) (gC (.int 1))) (gVar 5)) (gOp (yIn false) (gOp ySub (gVar 4) (gC (.int 1))) (gVar 6)))))
def b2_numbers_told : GS := (sSeq (sAug 1 (gC (.int 1)) ySub)
    (sSeq (sAsg (gLc (gItQ (gVar 5)) (tgName 7) (gTest (gOp (yCmp fun i j => decide (i < j)) (gVar 7) (gVar 1))) (gVar 7) [7]) (tgName 5))
    (sAsg (gCB cSortI (gCons (gLc (gItQ (gVar 6)) (tgName 8) gYes (gOp yMod (gOp yAdd (gVar 8) (gC (.int 1))) (gVar 4)) [8]) gNil)) (tgName 6))))
def g_numbers_told : GS := (sSeq (sAsg (gCall y_least_period (gCons (gVar 2) (gCons (gVar 3) gNil))) (tgName 4))
    (sSeq (sPar 5 6 (gCons (gLc (gRng1 (gCons (gVar 1) gNil)) (tgName 7) (gTest (gOp (yIn false) (gVar 7) (gVar 0))) (gVar 7) [7]) (gCons (gLc (gRng1 (gCons (gVar 4) gNil)) (tgName 8) (gTest (gOp (yIn false) (gVar 8) (gVar 3))) (gVar 8) [8]) gNil)))
    (sSeq (sWhile b1_numbers_told b2_numbers_told)
    (sRet (gTup (gCons (gCB cTuple (gCons (gVar 5) gNil)) (gCons (gVar 1) (gCons (gVar 4) (gCons (gCB cTuple (gCons (gVar 6) gNil)) gNil)))))))))
theorem der_numbers_told {P : Program} {w : World} {K : PySem.W.Frag} {mg : Str → Option Value} {base : Heap} (B : Blt mg K) (C_least_period : Cal P w K mg base 1 "least_period" "least_period" st_least_period ["period", "rests"] y_least_period) (f : Addr) (cdv : Value) (A : Around) (outer : List Env) (s : Shared) (H : Hp) (E : XK) (hG : A.guards = some [])
    (hr : Room 1 (A.deeper (envOfC "numbers_told" (defScope st_numbers_told) s.heap.objs.size f cdv))) (tk : Takes (cxD P w K mg base N_numbers_told "numbers_told" st_numbers_told f cdv A outer s H E) (wxD E)) :
    DB (cxD P w K mg base N_numbers_told "numbers_told" st_numbers_told f cdv A outer s H E) (wxD E) (defBody st_numbers_told) g_numbers_told :=
  (db_cons (ds_set (i := 4) sc_numbers_told.nd rfl (Or.inr rfl) (dcall C_least_period hG (hr.mono (by decide)) tk (by rfl) (da_cons (dv 2) (da_cons (dv 3) da_nil))))
    (db_cons (ds_par (i := 5) (j := 6) rfl sc_numbers_told.nd rfl rfl (by decide) rfl rfl (da_cons (de_lc (own := [("number", 7)]) rfl sc_numbers_told.nd (di_rng1 (by rfl) B.range (da_cons (dv 1) da_nil)) (blkOk_by (N := N_numbers_told) (sc := defScope st_numbers_told) (own := [("number", 7)]) (by decide +kernel)) (tgok_name (by decide)) (fun _ _ _ _ _ => (pg_name (i := 7) sc_numbers_told.nd rfl (by first | exact Or.inl rfl | exact Or.inr rfl))) (fun _ _ _ _ _ => (dts_one (dt_cmp (op_in_sign.or op_in_seq) rd_in (dv 7) (dv 0) (by rfl)))) (fun _ _ _ _ _ => (dv 7))) (da_cons (de_lc (own := [("rest", 8)]) rfl sc_numbers_told.nd (di_rng1 (by rfl) B.range (da_cons (dv 4) da_nil)) (blkOk_by (N := N_numbers_told) (sc := defScope st_numbers_told) (own := [("rest", 8)]) (by decide +kernel)) (tgok_name (by decide)) (fun _ _ _ _ _ => (pg_name (i := 8) sc_numbers_told.nd rfl (by first | exact Or.inl rfl | exact Or.inr rfl))) (fun _ _ _ _ _ => (dts_one (dt_cmp (op_in_sign.or op_in_seq) rd_in (dv 8) (dv 3) (by rfl)))) (fun _ _ _ _ _ => (dv 8))) da_nil)) (by rfl))
    (db_cons (ds_while (passes_of rfl) (PW.pt (dw_and (dt_cmp op_gt rd_cmp (dv 1) de_int (nomark _)) (dw_and1 (dt_cmp (op_eqD hr.units) rd_eq (de_cmp (op_in_sign.or op_in_seq) rd_in (de_bin op_sub rd_sub (dv 1) de_int) (dv 5) (by rfl)) (de_cmp (op_in_sign.or op_in_seq) rd_in (de_bin op_sub rd_sub (dv 4) de_int) (dv 6) (by rfl)) (nomark _))))) (db_cons (ds_aug (i := 1) sc_numbers_told.nd rfl (Or.inr rfl) de_int ip_sub rd_ipSub)
    (db_cons (ds_setLc (i := 5) (own := [("number", 7)]) rfl sc_numbers_told.nd rfl rfl (sw_true rfl rfl rfl (by decide +kernel)) (di_list (dv 5)) (blkOk_by (N := N_numbers_told) (sc := defScope st_numbers_told) (own := [("number", 7)]) (by decide +kernel)) (tgok_name (by decide)) (fun _ _ _ _ _ => (pg_name (i := 7) sc_numbers_told.nd rfl (by first | exact Or.inl rfl | exact Or.inr rfl))) (fun _ _ _ _ _ => (dts_one (dt_cmp op_lt rd_cmp (dv 7) (dv 1) (nomark _)))) (fun _ _ _ _ _ => (dv 7)))
    (db_one (ds_set (i := 6) sc_numbers_told.nd rfl (Or.inl rfl) (de_callB cr_sortedI rc_sortI (by rfl) B.sorted (by decide +kernel) (da_cons (de_lc (own := [("rest", 8)]) rfl sc_numbers_told.nd (di_list (dv 6)) (blkOk_by (N := N_numbers_told) (sc := defScope st_numbers_told) (own := [("rest", 8)]) (by decide +kernel)) (tgok_name (by decide)) (fun _ _ _ _ _ => (pg_name (i := 8) sc_numbers_told.nd rfl (by first | exact Or.inl rfl | exact Or.inr rfl))) (fun _ _ _ _ _ => dts_nil) (fun _ _ _ _ _ => (de_bin op_mod rd_mod (de_bin (op_add.or (op_add_str.or (op_cat.or op_catA))) rd_add (dv 8) de_int) (dv 4)))) da_nil)))))))
    (db_one (ds_ret (de_tup (da_cons (de_callTy call_tuple_of rc_tuple (by rfl) B.tuple (by decide +kernel) (da_cons (dv 5) da_nil)) (da_cons (dv 1) (da_cons (dv 4) (da_cons (de_callTy call_tuple_of rc_tuple (by rfl) B.tuple (by decide +kernel) (da_cons (dv 6) da_nil)) da_nil))))))))))
theorem ok_numbers_told {P : Program} {w : World} {K : PySem.W.Frag} {mg : Str → Option Value} {base : Heap} (A : DefAt K mg "numbers_told" "numbers_told" st_numbers_told ["some", "tail", "period", "rests"]) (B : Blt mg K) (C_least_period : Cal P w K mg base 1 "least_period" "least_period" st_least_period ["period", "rests"] y_least_period)
    (len : ∀ ds O k e, y_numbers_told ds O k e → ds.length = 4) (law : ∀ ds O kd e, y_numbers_told ds O kd e → g_numbers_told (fun _ => e) (startD N_numbers_told ds) O { nx := fun _ O' => Fz kd .non O', rt := Fz kd }) :
    Cal P w K mg base 2 "numbers_told" "numbers_told" st_numbers_told ["some", "tail", "period", "rests"] y_numbers_told := cal_of A sc_numbers_told len (der_numbers_told B C_least_period) law
abbrev st_divisor : Stmt := topS 6
abbrev N_divisor : List Str := ["one", "other"]
theorem sc_divisor : FnScope N_divisor ["one", "other"] (defScope st_divisor) := ⟨rfl, rfl, rfl, by decide +kernel, rfl, by decide +kernel, by decide +kernel⟩
def b1_divisor : GT := (gTest (gOp (yCmp fun i j => decide (j < i)) (gVar 1) (gC (.int 0))))
def b2_divisor : GS := (sPar 0 1 (gCons (gVar 1) (gCons (gOp yMod (gVar 0) (gVar 1)) gNil)))
def g_divisor : GS := (sSeq (sWhile b1_divisor b2_divisor)
    (sRet (gVar 0)))
theorem der_divisor {P : Program} {w : World} {K : PySem.W.Frag} {mg : Str → Option Value} {base : Heap} (B : Blt mg K)  (f : Addr) (cdv : Value) (A : Around) (outer : List Env) (s : Shared) (H : Hp) (E : XK) (hG : A.guards = some [])
    (hr : Room 0 (A.deeper (envOfC "divisor" (defScope st_divisor) s.heap.objs.size f cdv))) (tk : Takes (cxD P w K mg base N_divisor "divisor" st_divisor f cdv A outer s H E) (wxD E)) :
    DB (cxD P w K mg base N_divisor "divisor" st_divisor f cdv A outer s H E) (wxD E) (defBody st_divisor) g_divisor :=
  (db_cons (ds_while (passes_of rfl) (dt_cmp op_gt rd_cmp (dv 1) de_int (nomark _)) (db_one (ds_par (i := 0) (j := 1) rfl sc_divisor.nd rfl rfl (by decide) rfl rfl (da_cons (dv 1) (da_cons (de_bin op_mod rd_mod (dv 0) (dv 1)) da_nil)) (by rfl))))
    (db_one (ds_ret (dv 0))))
theorem ok_divisor {P : Program} {w : World} {K : PySem.W.Frag} {mg : Str → Option Value} {base : Heap} (A : DefAt K mg "divisor" "divisor" st_divisor ["one", "other"]) (B : Blt mg K) 
    (len : ∀ ds O k e, y_divisor ds O k e → ds.length = 2) (law : ∀ ds O kd e, y_divisor ds O kd e → g_divisor (fun _ => e) (startD N_divisor ds) O { nx := fun _ O' => Fz kd .non O', rt := Fz kd }) :
    Cal P w K mg base 1 "divisor" "divisor" st_divisor ["one", "other"] y_divisor := cal_of A sc_divisor len (der_divisor B ) law
abbrev st_is_far_safe : Stmt := topS 7
abbrev N_is_far_safe : List Str := ["told", "by", "below", "tail", "period", "rests", "size", "rest"]
theorem sc_is_far_safe : FnScope N_is_far_safe ["told", "by"] (defScope st_is_far_safe) := ⟨rfl, rfl, rfl, by decide +kernel, rfl, by decide +kernel, by decide +kernel⟩
def g_is_far_safe : GS := (sSeq (sAsg (gVar 0) (tgTup 4 (tgCons (tgName 2) (tgCons (tgName 3) (tgCons (tgName 4) (tgCons (tgName 5) tgNil))))))
    (sSeq (sAsg (gCall y_divisor (gCons (gVar 1) (gCons (gVar 4) gNil))) (tgName 6))
    (sRet (gCB cAll (gCons (gLc (gItT (gVar 5)) (tgName 7) gYes (gOp (yCmp fun i j => decide (j < i)) (gOp yMod (gOp yAdd (gVar 3) (gVar 7)) (gVar 6)) (gC (.int 0))) [7]) gNil)))))
theorem der_is_far_safe {P : Program} {w : World} {K : PySem.W.Frag} {mg : Str → Option Value} {base : Heap} (B : Blt mg K) (C_divisor : Cal P w K mg base 1 "divisor" "divisor" st_divisor ["one", "other"] y_divisor) (f : Addr) (cdv : Value) (A : Around) (outer : List Env) (s : Shared) (H : Hp) (E : XK) (hG : A.guards = some [])
    (hr : Room 1 (A.deeper (envOfC "is_far_safe" (defScope st_is_far_safe) s.heap.objs.size f cdv))) (tk : Takes (cxD P w K mg base N_is_far_safe "is_far_safe" st_is_far_safe f cdv A outer s H E) (wxD E)) :
    DB (cxD P w K mg base N_is_far_safe "is_far_safe" st_is_far_safe f cdv A outer s H E) (wxD E) (defBody st_is_far_safe) g_is_far_safe :=
  (db_cons (ds_asg (dv 0) (dg_tup rfl (dgs_cons (dg_name (i := 2) sc_is_far_safe.nd rfl (Or.inl rfl)) (dgs_cons (dg_name (i := 3) sc_is_far_safe.nd rfl (Or.inr rfl)) (dgs_cons (dg_name (i := 4) sc_is_far_safe.nd rfl (Or.inl rfl)) (dgs_cons (dg_name (i := 5) sc_is_far_safe.nd rfl (Or.inl rfl)) dgs_nil))))))
    (db_cons (ds_set (i := 6) sc_is_far_safe.nd rfl (Or.inr rfl) (dcall C_divisor hG (hr.mono (by decide)) tk (by rfl) (da_cons (dv 1) (da_cons (dv 4) da_nil))))
    (db_one (ds_ret (de_callB (cr_all rfl) rc_all (by rfl) B.all (by decide +kernel) (da_cons (de_lc (own := [("rest", 7)]) rfl sc_is_far_safe.nd (di_tup (dv 5)) (blkOk_by (N := N_is_far_safe) (sc := defScope st_is_far_safe) (own := [("rest", 7)]) (by decide +kernel)) (tgok_name (by decide)) (fun _ _ _ _ _ => (pg_name (i := 7) sc_is_far_safe.nd rfl (by first | exact Or.inl rfl | exact Or.inr rfl))) (fun _ _ _ _ _ => dts_nil) (fun _ _ _ _ _ => (de_cmp op_gt rd_cmp (de_bin op_mod rd_mod (de_bin (op_add.or (op_add_str.or (op_cat.or op_catA))) rd_add (dv 3) (dv 7)) (dv 6)) de_int (nomark _)))) da_nil))))))
theorem ok_is_far_safe {P : Program} {w : World} {K : PySem.W.Frag} {mg : Str → Option Value} {base : Heap} (A : DefAt K mg "is_far_safe" "is_far_safe" st_is_far_safe ["told", "by"]) (B : Blt mg K) (C_divisor : Cal P w K mg base 1 "divisor" "divisor" st_divisor ["one", "other"] y_divisor)
    (len : ∀ ds O k e, y_is_far_safe ds O k e → ds.length = 2) (law : ∀ ds O kd e, y_is_far_safe ds O kd e → g_is_far_safe (fun _ => e) (startD N_is_far_safe ds) O { nx := fun _ O' => Fz kd .non O', rt := Fz kd }) :
    Cal P w K mg base 2 "is_far_safe" "is_far_safe" st_is_far_safe ["told", "by"] y_is_far_safe := cal_of A sc_is_far_safe len (der_is_far_safe B C_divisor) law
abbrev st_is_safe_round : Stmt := topS 8
abbrev N_is_safe_round : List Str := ["told", "by", "many"]
theorem sc_is_safe_round : FnScope N_is_safe_round ["told", "by"] (defScope st_is_safe_round) := ⟨rfl, rfl, rfl, by decide +kernel, rfl, by decide +kernel, by decide +kernel⟩
def g_is_safe_round : GS := (sRet (gAndV (gCall y_is_far_safe (gCons (gVar 0) (gCons (gVar 1) gNil))) (gNotV (gCB cAny (gCons (gLc (gRng3 (gCons (gVar 1) (gCons (gOp yIx (gVar 0) (gC (.int 1))) (gCons (gVar 1) gNil)))) (tgName 2) gYes (gCall y_is_in (gCons (gVar 0) (gCons (gVar 2) gNil))) [2]) gNil)))))
theorem der_is_safe_round {P : Program} {w : World} {K : PySem.W.Frag} {mg : Str → Option Value} {base : Heap} (B : Blt mg K) (C_is_far_safe : Cal P w K mg base 2 "is_far_safe" "is_far_safe" st_is_far_safe ["told", "by"] y_is_far_safe) (C_is_in : Cal P w K mg base 1 "is_in" "is_in" st_is_in ["told", "number"] y_is_in) (f : Addr) (cdv : Value) (A : Around) (outer : List Env) (s : Shared) (H : Hp) (E : XK) (hG : A.guards = some [])
    (hr : Room 2 (A.deeper (envOfC "is_safe_round" (defScope st_is_safe_round) s.heap.objs.size f cdv))) (tk : Takes (cxD P w K mg base N_is_safe_round "is_safe_round" st_is_safe_round f cdv A outer s H E) (wxD E)) :
    DB (cxD P w K mg base N_is_safe_round "is_safe_round" st_is_safe_round f cdv A outer s H E) (wxD E) (defBody st_is_safe_round) g_is_safe_round :=
  (db_one (ds_ret (de_and (dcall C_is_far_safe hG (hr.mono (by decide)) tk (by rfl) (da_cons (dv 0) (da_cons (dv 1) da_nil))) (de_one (de_not (de_callB (cr_any rfl) rc_any (by rfl) B.any (by decide +kernel) (da_cons (de_lc (own := [("many", 2)]) rfl sc_is_safe_round.nd (di_rng3 (by rfl) B.range (da_cons (dv 1) (da_cons (de_ix (dv 0) de_int) (da_cons (dv 1) da_nil)))) (blkOk_by (N := N_is_safe_round) (sc := defScope st_is_safe_round) (own := [("many", 2)]) (by decide +kernel)) (tgok_name (by decide)) (fun _ _ _ _ _ => (pg_name (i := 2) sc_is_safe_round.nd rfl (by first | exact Or.inl rfl | exact Or.inr rfl))) (fun _ _ _ _ _ => dts_nil) (fun _ _ _ _ _ => (dcall C_is_in hG (hr.mono (by decide)) takes0 (by rfl) (da_cons (dv 0) (da_cons (dv 2) da_nil))))) da_nil)))))))
theorem ok_is_safe_round {P : Program} {w : World} {K : PySem.W.Frag} {mg : Str → Option Value} {base : Heap} (A : DefAt K mg "is_safe_round" "is_safe_round" st_is_safe_round ["told", "by"]) (B : Blt mg K) (C_is_far_safe : Cal P w K mg base 2 "is_far_safe" "is_far_safe" st_is_far_safe ["told", "by"] y_is_far_safe) (C_is_in : Cal P w K mg base 1 "is_in" "is_in" st_is_in ["told", "number"] y_is_in)
    (len : ∀ ds O k e, y_is_safe_round ds O k e → ds.length = 2) (law : ∀ ds O kd e, y_is_safe_round ds O kd e → g_is_safe_round (fun _ => e) (startD N_is_safe_round ds) O { nx := fun _ O' => Fz kd .non O', rt := Fz kd }) :
    Cal P w K mg base 3 "is_safe_round" "is_safe_round" st_is_safe_round ["told", "by"] y_is_safe_round := cal_of A sc_is_safe_round len (der_is_safe_round B C_is_far_safe C_is_in) law
abbrev st_safe_rounds : Stmt := topS 9
abbrev N_safe_rounds : List Str := ["told", "tail", "some", "by", "rest"]
theorem sc_safe_rounds : FnScope N_safe_rounds ["told"] (defScope st_safe_rounds) := ⟨rfl, rfl, rfl, by decide +kernel, rfl, by decide +kernel, by decide +kernel⟩
def g_safe_rounds : GS := (sSeq (sAsg (gCB cMax2 (gCons (gC (.int 2)) (gCons (gOp yIx (gVar 0) (gC (.int 1))) gNil))) (tgName 1))
    (sSeq (sAsg (gLc (gRng2 (gCons (gC (.int 2)) (gCons (gVar 1) gNil))) (tgName 3) (gTest (gCall y_is_safe_round (gCons (gVar 0) (gCons (gVar 3) gNil)))) (gVar 3) [3]) (tgName 2))
    (sRet (gCall y_numbers_told (gCons (gVar 2) (gCons (gVar 1) (gCons (gOp yIx (gVar 0) (gC (.int 2))) (gCons (gLc (gRng1 (gCons (gOp yIx (gVar 0) (gC (.int 2))) gNil)) (tgName 4) (gTest (gCall y_is_far_safe (gCons (gVar 0) (gCons (gOp yAdd (gVar 1) (gVar 4)) gNil)))) (gVar 4) [4]) gNil))))))))
theorem der_safe_rounds {P : Program} {w : World} {K : PySem.W.Frag} {mg : Str → Option Value} {base : Heap} (B : Blt mg K) (C_is_safe_round : Cal P w K mg base 3 "is_safe_round" "is_safe_round" st_is_safe_round ["told", "by"] y_is_safe_round) (C_numbers_told : Cal P w K mg base 2 "numbers_told" "numbers_told" st_numbers_told ["some", "tail", "period", "rests"] y_numbers_told) (C_is_far_safe : Cal P w K mg base 2 "is_far_safe" "is_far_safe" st_is_far_safe ["told", "by"] y_is_far_safe) (f : Addr) (cdv : Value) (A : Around) (outer : List Env) (s : Shared) (H : Hp) (E : XK) (hG : A.guards = some [])
    (hr : Room 3 (A.deeper (envOfC "safe_rounds" (defScope st_safe_rounds) s.heap.objs.size f cdv))) (tk : Takes (cxD P w K mg base N_safe_rounds "safe_rounds" st_safe_rounds f cdv A outer s H E) (wxD E)) :
    DB (cxD P w K mg base N_safe_rounds "safe_rounds" st_safe_rounds f cdv A outer s H E) (wxD E) (defBody st_safe_rounds) g_safe_rounds :=
  (db_cons (ds_set (i := 1) sc_safe_rounds.nd rfl (Or.inr rfl) (de_callB (call_max2 rfl) rc_max2 (by rfl) B.max (by decide +kernel) (da_cons (de_gint (by rfl) B.LEAST) (da_cons (de_ix (dv 0) de_int) da_nil))))
    (db_cons (ds_setLc (i := 2) (own := [("by", 3)]) rfl sc_safe_rounds.nd rfl rfl (sw_true rfl rfl rfl (by decide +kernel)) (di_rng2 (by rfl) B.range (da_cons (de_gint (by rfl) B.LEAST) (da_cons (dv 1) da_nil))) (blkOk_by (N := N_safe_rounds) (sc := defScope st_safe_rounds) (own := [("by", 3)]) (by decide +kernel)) (tgok_name (by decide)) (fun _ _ _ _ _ => (pg_name (i := 3) sc_safe_rounds.nd rfl (by first | exact Or.inl rfl | exact Or.inr rfl))) (fun _ _ _ _ _ => (dts_one (dt_val (dcall C_is_safe_round hG (hr.mono (by decide)) takes0 (by rfl) (da_cons (dv 0) (da_cons (dv 3) da_nil)))))) (fun _ _ _ _ _ => (dv 3)))
    (db_one (ds_ret (dcall C_numbers_told hG (hr.mono (by decide)) tk (by rfl) (da_cons (dv 2) (da_cons (dv 1) (da_cons (de_ix (dv 0) de_int) (da_cons (de_lc (own := [("rest", 4)]) rfl sc_safe_rounds.nd (di_rng1 (by rfl) B.range (da_cons (de_ix (dv 0) de_int) da_nil)) (blkOk_by (N := N_safe_rounds) (sc := defScope st_safe_rounds) (own := [("rest", 4)]) (by decide +kernel)) (tgok_name (by decide)) (fun _ _ _ _ _ => (pg_name (i := 4) sc_safe_rounds.nd rfl (by first | exact Or.inl rfl | exact Or.inr rfl))) (fun _ _ _ _ _ => (dts_one (dt_val (dcall C_is_far_safe hG (hr.mono (by decide)) takes0 (by rfl) (da_cons (dv 0) (da_cons (de_bin (op_add.or (op_add_str.or (op_cat.or op_catA))) rd_add (dv 1) (dv 4)) da_nil)))))) (fun _ _ _ _ _ => (dv 4))) da_nil)))))))))
theorem ok_safe_rounds {P : Program} {w : World} {K : PySem.W.Frag} {mg : Str → Option Value} {base : Heap} (A : DefAt K mg "safe_rounds" "safe_rounds" st_safe_rounds ["told"]) (B : Blt mg K) (C_is_safe_round : Cal P w K mg base 3 "is_safe_round" "is_safe_round" st_is_safe_round ["told", "by"] y_is_safe_round) (C_numbers_told : Cal P w K mg base 2 "numbers_told" "numbers_told" st_numbers_told ["some", "tail", "period", "rests"] y_numbers_told) (C_is_far_safe : Cal P w K mg base 2 "is_far_safe" "is_far_safe" st_is_far_safe ["told", "by"] y_is_far_safe)
    (len : ∀ ds O k e, y_safe_rounds ds O k e → ds.length = 1) (law : ∀ ds O kd e, y_safe_rounds ds O kd e → g_safe_rounds (fun _ => e) (startD N_safe_rounds ds) O { nx := fun _ O' => Fz kd .non O', rt := Fz kd }) :
    Cal P w K mg base 4 "safe_rounds" "safe_rounds" st_safe_rounds ["told"] y_safe_rounds := cal_of A sc_safe_rounds len (der_safe_rounds B C_is_safe_round C_numbers_told C_is_far_safe) law
abbrev st_first_told : Stmt := topS 10
abbrev N_first_told : List Str := ["told"]
theorem sc_first_told : FnScope N_first_told ["told"] (defScope st_first_told) := ⟨rfl, rfl, rfl, by decide +kernel, rfl, by decide +kernel, by decide +kernel⟩
def g_first_told : GS := (sSeq (sIf (gTest (gOp (yCmp fun i j => decide (j < i)) (gCB cLen (gCons (gOp yIx (gVar 0) (gC (.int 0))) gNil)) (gC (.int 0)))) (sRet (gOp yIx (gOp yIx (gVar 0) (gC (.int 0))) (gC (.int 0)))) sNext)
    (sRet (gIf (gTest (gOp (yCmp fun i j => decide (j < i)) (gCB cLen (gCons (gOp yIx (gVar 0) (gC (.int 3))) gNil)) (gC (.int 0)))) (gOp yAdd (gOp yIx (gVar 0) (gC (.int 1))) (gOp yIx (gOp yIx (gVar 0) (gC (.int 3))) (gC (.int 0)))) (gC .non))))
theorem der_first_told {P : Program} {w : World} {K : PySem.W.Frag} {mg : Str → Option Value} {base : Heap} (B : Blt mg K)  (f : Addr) (cdv : Value) (A : Around) (outer : List Env) (s : Shared) (H : Hp) (E : XK) (hG : A.guards = some [])
    (hr : Room 0 (A.deeper (envOfC "first_told" (defScope st_first_told) s.heap.objs.size f cdv))) (tk : Takes (cxD P w K mg base N_first_told "first_told" st_first_told f cdv A outer s H E) (wxD E)) :
    DB (cxD P w K mg base N_first_told "first_told" st_first_told f cdv A outer s H E) (wxD E) (defBody st_first_told) g_first_told :=
  (db_cons (ds_if (dt_cmp op_gt rd_cmp (de_callB call_len rc_len (by rfl) B.len (by decide +kernel) (da_cons (de_ix (dv 0) de_int) da_nil)) de_int (nomark _)) (db_one (ds_ret (de_ix (de_ix (dv 0) de_int) de_int))) db_nil)
    (db_one (ds_ret (de_if (dt_cmp op_gt rd_cmp (de_callB call_len rc_len (by rfl) B.len (by decide +kernel) (da_cons (de_ix (dv 0) de_int) da_nil)) de_int (nomark _)) (de_bin (op_add.or (op_add_str.or (op_cat.or op_catA))) rd_add (de_ix (dv 0) de_int) (de_ix (de_ix (dv 0) de_int) de_int)) de_non))))
theorem ok_first_told {P : Program} {w : World} {K : PySem.W.Frag} {mg : Str → Option Value} {base : Heap} (A : DefAt K mg "first_told" "first_told" st_first_told ["told"]) (B : Blt mg K) 
    (len : ∀ ds O k e, y_first_told ds O k e → ds.length = 1) (law : ∀ ds O kd e, y_first_told ds O kd e → g_first_told (fun _ => e) (startD N_first_told ds) O { nx := fun _ O' => Fz kd .non O', rt := Fz kd }) :
    Cal P w K mg base 1 "first_told" "first_told" st_first_told ["told"] y_first_told := cal_of A sc_first_told len (der_first_told B ) law
abbrev st_least_round : Stmt := topS 11
abbrev N_least_round : List Str := ["told"]
theorem sc_least_round : FnScope N_least_round ["told"] (defScope st_least_round) := ⟨rfl, rfl, rfl, by decide +kernel, rfl, by decide +kernel, by decide +kernel⟩
def g_least_round : GS := (sRet (gCall y_first_told (gCons (gCall y_safe_rounds (gCons (gVar 0) gNil)) gNil)))
theorem der_least_round {P : Program} {w : World} {K : PySem.W.Frag} {mg : Str → Option Value} {base : Heap} (B : Blt mg K) (C_first_told : Cal P w K mg base 1 "first_told" "first_told" st_first_told ["told"] y_first_told) (C_safe_rounds : Cal P w K mg base 4 "safe_rounds" "safe_rounds" st_safe_rounds ["told"] y_safe_rounds) (f : Addr) (cdv : Value) (A : Around) (outer : List Env) (s : Shared) (H : Hp) (E : XK) (hG : A.guards = some [])
    (hr : Room 4 (A.deeper (envOfC "least_round" (defScope st_least_round) s.heap.objs.size f cdv))) (tk : Takes (cxD P w K mg base N_least_round "least_round" st_least_round f cdv A outer s H E) (wxD E)) :
    DB (cxD P w K mg base N_least_round "least_round" st_least_round f cdv A outer s H E) (wxD E) (defBody st_least_round) g_least_round :=
  (db_one (ds_ret (dcall C_first_told hG (hr.mono (by decide)) tk (by rfl) (da_cons (dcall C_safe_rounds hG (hr.mono (by decide)) tk (by rfl) (da_cons (dv 0) da_nil)) da_nil))))
theorem ok_least_round {P : Program} {w : World} {K : PySem.W.Frag} {mg : Str → Option Value} {base : Heap} (A : DefAt K mg "least_round" "least_round" st_least_round ["told"]) (B : Blt mg K) (C_first_told : Cal P w K mg base 1 "first_told" "first_told" st_first_told ["told"] y_first_told) (C_safe_rounds : Cal P w K mg base 4 "safe_rounds" "safe_rounds" st_safe_rounds ["told"] y_safe_rounds)
    (len : ∀ ds O k e, y_least_round ds O k e → ds.length = 1) (law : ∀ ds O kd e, y_least_round ds O kd e → g_least_round (fun _ => e) (startD N_least_round ds) O { nx := fun _ O' => Fz kd .non O', rt := Fz kd }) :
    Cal P w K mg base 5 "least_round" "least_round" st_least_round ["told"] y_least_round := cal_of A sc_least_round len (der_least_round B C_first_told C_safe_rounds) law
abbrev st_law_feed : Stmt := topS 13
abbrev N_law_feed : List Str := ["_law_script", "_law_base", "_law_rows", "_law_seed", "_law_one"]
theorem sc_law_feed : FnScope N_law_feed ["_law_script", "_law_base"] (defScope st_law_feed) := ⟨rfl, rfl, rfl, by decide +kernel, rfl, by decide +kernel, by decide +kernel⟩
def b1_law_feed : GS := (sAsg (gOp yMod (gCB cInt (gCons (gOp yAdd (gOp yAdd (gOp yMul (gVar 3) (gC (.int 39709))) (gOp yMod (gCB cInt (gCons (gVar 4) gNil)) (gC (.int 2147483477)))) (gC (.int 17))) gNil)) (gC (.int 2147483549))) (tgName 3))
def g_law_feed : GS := (sSeq (sAsg (gLc (gItQ (gSl ySl (gVar 0) (gPart (gVar 1)) (gPart (gC (.int 58))))) (tgName 4) gYes (gCB cAbs (gCons (gCB cInt (gCons (gVar 4) gNil)) gNil)) [4]) (tgName 2))
    (sSeq (sAsg (gOp yAdd (gC (.int 67867967)) (gOp yMul (gC (.int 59)) (gVar 1))) (tgName 3))
    (sSeq (sFor (gItQ (gVar 2)) (tgName 4) b1_law_feed)
    (sRet (gDispO [((gC (.str "rows")), (gUn yRevO (gLc (gItQ (gVar 2)) (tgName 4) (gTest (gOp (yCmp fun i j => decide (j ≤ i)) (gVar 4) (gOp yPow (gC (.int 10)) (gC (.int 18))))) (gVar 4) [4]))), ((gC (.str "seed")), (gVar 3))])))))
theorem der_law_feed {P : Program} {w : World} {K : PySem.W.Frag} {mg : Str → Option Value} {base : Heap} (B : Blt mg K)  (f : Addr) (cdv : Value) (A : Around) (outer : List Env) (s : Shared) (H : Hp) (E : XK) (hG : A.guards = some [])
    (hr : Room 0 (A.deeper (envOfC "_law_feed" (defScope st_law_feed) s.heap.objs.size f cdv))) (tk : Takes (cxD P w K mg base N_law_feed "_law_feed" st_law_feed f cdv A outer s H E) (wxD E)) :
    DB (cxD P w K mg base N_law_feed "_law_feed" st_law_feed f cdv A outer s H E) (wxD E) (defBody st_law_feed) g_law_feed :=
  (db_cons (ds_setLc (i := 2) (own := [("_law_one", 4)]) rfl sc_law_feed.nd rfl rfl (sw_true rfl rfl rfl (by decide +kernel)) (di_list (de_slice (dv 0) (do_some (dv 1)) (do_some de_int))) (blkOk_by (N := N_law_feed) (sc := defScope st_law_feed) (own := [("_law_one", 4)]) (by decide +kernel)) (tgok_name (by decide)) (fun _ _ _ _ _ => (pg_name (i := 4) sc_law_feed.nd rfl (by first | exact Or.inl rfl | exact Or.inr rfl))) (fun _ _ _ _ _ => dts_nil) (fun _ _ _ _ _ => (de_callB call_abs rc_abs (by rfl) B.abs (by decide +kernel) (da_cons (de_callTy call_int1 rc_int (by rfl) B.int (by decide +kernel) (da_cons (dv 4) da_nil)) da_nil))))
    (db_cons (ds_set (i := 3) sc_law_feed.nd rfl (Or.inl rfl) (de_bin (op_add.or (op_add_str.or (op_cat.or op_catA))) rd_add de_int (de_bin (op_mul.or op_rep) rd_mul de_int (dv 1))))
    (db_cons (ds_for (passes_of rfl) rfl (di_list (dv 2)) (dg_name (i := 4) sc_law_feed.nd rfl (Or.inl rfl)) (db_one (ds_set (i := 3) sc_law_feed.nd rfl (Or.inl rfl) (de_bin op_mod rd_mod (de_callTy call_int1 rc_int (by rfl) B.int (by decide +kernel) (da_cons (de_bin (op_add.or (op_add_str.or (op_cat.or op_catA))) rd_add (de_bin (op_add.or (op_add_str.or (op_cat.or op_catA))) rd_add (de_bin (op_mul.or op_rep) rd_mul (dv 3) de_int) (de_bin op_mod rd_mod (de_callTy call_int1 rc_int (by rfl) B.int (by decide +kernel) (da_cons (dv 4) da_nil)) de_int)) de_int) da_nil)) de_int))))
    (db_one (ds_ret (de_dispO (dps_cons de_str (de_revSO (de_lc (own := [("_law_one", 4)]) rfl sc_law_feed.nd (di_list (dv 2)) (blkOk_by (N := N_law_feed) (sc := defScope st_law_feed) (own := [("_law_one", 4)]) (by decide +kernel)) (tgok_name (by decide)) (fun _ _ _ _ _ => (pg_name (i := 4) sc_law_feed.nd rfl (by first | exact Or.inl rfl | exact Or.inr rfl))) (fun _ _ _ _ _ => (dts_one (dt_cmp op_ge rd_cmp (dv 4) (de_bin op_pow rd_pow de_int de_int) (nomark _)))) (fun _ _ _ _ _ => (dv 4))) (pe_op op_sub pe_int pe_int) (fun _ _ _ q => ⟨0, 1, rfl, rfl, q⟩) (fun _ _ => rfl)) (dps_cons de_str (dv 3) dps_nil)) (by rfl) (by rfl) (fun z => by cases z) (by decide)))))))
theorem ok_law_feed {P : Program} {w : World} {K : PySem.W.Frag} {mg : Str → Option Value} {base : Heap} (A : DefAt K mg "_law_feed" "_law_feed" st_law_feed ["_law_script", "_law_base"]) (B : Blt mg K) 
    (len : ∀ ds O k e, y_law_feed ds O k e → ds.length = 2) (law : ∀ ds O kd e, y_law_feed ds O kd e → g_law_feed (fun _ => e) (startD N_law_feed ds) O { nx := fun _ O' => Fz kd .non O', rt := Fz kd }) :
    Cal P w K mg base 1 "_law_feed" "_law_feed" st_law_feed ["_law_script", "_law_base"] y_law_feed := cal_of A sc_law_feed len (der_law_feed B ) law
abbrev st_law_take : Stmt := topS 14
abbrev N_law_take : List Str := ["_law_feed_here", "_law_wide", "_law_rows", "_law_one"]
theorem sc_law_take : FnScope N_law_take ["_law_feed_here", "_law_wide"] (defScope st_law_take) := ⟨rfl, rfl, rfl, by decide +kernel, rfl, by decide +kernel, by decide +kernel⟩
def b1_law_take : GT := (gAnd (gTest (gOp yNe (gVar 2) (gLst gNil))) (gTest (gOp yEq (gOp yIx (gVar 2) (gUn yNeg (gC (.int 1)))) (gC (.int 0)))))
def b2_law_take : GS := (sDrop (gBM0 "list" mPop (gVar 2)))
def g_law_take : GS := (sSeq (sAsg (gOp yDGet (gVar 0) (gC (.str "rows"))) (tgName 2))
    (sSeq (sWhile b1_law_take b2_law_take)
    (sSeq (sIf (gTest (gOp yNe (gVar 2) (gLst gNil))) (sSeq (sAsg (gBM0 "list" mPop (gVar 2)) (tgName 3))
    (sSeq (sDrop (gBM "list" mAppend (gVar 2) (gCons (gOp yDiv (gVar 3) (gVar 1)) gNil)))
    (sRet (gOp yMod (gCB cInt (gCons (gVar 3) gNil)) (gVar 1))))) sNext)
    (sSeq (sDPut (gVar 0) (gC (.str "seed")) (gOp yMod (gCB cInt (gCons (gOp yAdd (gOp yMul (gOp yDGet (gVar 0) (gC (.str "seed"))) (gC (.int 39709))) (gC (.int 1231))) gNil)) (gC (.int 2147483549))))
    (sRet (gOp yMod (gCB cInt (gCons (gOp yDiv (gOp yDGet (gVar 0) (gC (.str "seed"))) (gC (.int 64))) gNil)) (gVar 1)))))))
theorem der_law_take {P : Program} {w : World} {K : PySem.W.Frag} {mg : Str → Option Value} {base : Heap} (B : Blt mg K)  (f : Addr) (cdv : Value) (A : Around) (outer : List Env) (s : Shared) (H : Hp) (E : XK) (hG : A.guards = some [])
    (hr : Room 0 (A.deeper (envOfC "_law_take" (defScope st_law_take) s.heap.objs.size f cdv))) (tk : Takes (cxD P w K mg base N_law_take "_law_take" st_law_take f cdv A outer s H E) (wxD E)) :
    DB (cxD P w K mg base N_law_take "_law_take" st_law_take f cdv A outer s H E) (wxD E) (defBody st_law_take) g_law_take :=
  (db_cons (ds_set (i := 2) sc_law_take.nd rfl (Or.inl rfl) (de_dget (hu_of hr) (dv 0) de_str))
    (db_cons (ds_while (passes_of rfl) (PW.pt (dw_and (dt_cmp (op_neD hr.units) rd_ne (dv 2) (de_lst da_nil) (nomark _)) (dw_and1 (dt_cmp (op_eqD hr.units) rd_eq (de_ix (dv 2) (de_un1 un_neg rd_neg de_int)) de_int (nomark _))))) (db_one (ds_expr (de_bm0 PySem.F.plainAttrs_list PySem.F.slot_list_pop PySem.F.type_list_pop mt_pop rm_pop (dv 2)))))
    (db_cons (ds_if (dt_cmp (op_neD hr.units) rd_ne (dv 2) (de_lst da_nil) (nomark _)) (db_cons (ds_set (i := 3) sc_law_take.nd rfl (Or.inl rfl) (de_bm0 PySem.F.plainAttrs_list PySem.F.slot_list_pop PySem.F.type_list_pop mt_pop rm_pop (dv 2)))
    (db_cons (ds_expr (de_bm PySem.F.plainAttrs_list PySem.F.slot_list_append PySem.F.type_list_append mt_append rm_append (dv 2) (da_cons (de_bin op_fdiv rd_div (dv 3) (dv 1)) da_nil)))
    (db_one (ds_ret (de_bin op_mod rd_mod (de_callTy call_int1 rc_int (by rfl) B.int (by decide +kernel) (da_cons (dv 3) da_nil)) (dv 1)))))) db_nil)
    (db_cons (ds_dput (hu_of hr) (dv 0) de_str (de_bin op_mod rd_mod (de_callTy call_int1 rc_int (by rfl) B.int (by decide +kernel) (da_cons (de_bin (op_add.or (op_add_str.or (op_cat.or op_catA))) rd_add (de_bin (op_mul.or op_rep) rd_mul (de_dget (hu_of hr) (dv 0) de_str) de_int) de_int) da_nil)) de_int))
    (db_one (ds_ret (de_bin op_mod rd_mod (de_callTy call_int1 rc_int (by rfl) B.int (by decide +kernel) (da_cons (de_bin op_fdiv rd_div (de_dget (hu_of hr) (dv 0) de_str) de_int) da_nil)) (dv 1))))))))
theorem ok_law_take {P : Program} {w : World} {K : PySem.W.Frag} {mg : Str → Option Value} {base : Heap} (A : DefAt K mg "_law_take" "_law_take" st_law_take ["_law_feed_here", "_law_wide"]) (B : Blt mg K) 
    (len : ∀ ds O k e, y_law_take ds O k e → ds.length = 2) (law : ∀ ds O kd e, y_law_take ds O kd e → g_law_take (fun _ => e) (startD N_law_take ds) O { nx := fun _ O' => Fz kd .non O', rt := Fz kd }) :
    Cal P w K mg base 1 "_law_take" "_law_take" st_law_take ["_law_feed_here", "_law_wide"] y_law_take := cal_of A sc_law_take len (der_law_take B ) law
abbrev st_law_drawn_told : Stmt := topS 16
abbrev N_law_drawn_told : List Str := ["_law_feed_here", "_law_tail", "_law_period", "_law_some", "_law_rests", "_law_n"]
theorem sc_law_drawn_told : FnScope N_law_drawn_told ["_law_feed_here"] (defScope st_law_drawn_told) := ⟨rfl, rfl, rfl, by decide +kernel, rfl, by decide +kernel, by decide +kernel⟩
def g_law_drawn_told : GS := (sSeq (sAsg (gTup (gCons (gCall y_law_take (gCons (gVar 0) (gCons (gC (.int 7)) gNil))) (gCons (gOp yAdd (gC (.int 1)) (gCall y_law_take (gCons (gVar 0) (gCons (gC (.int 6)) gNil)))) gNil))) (tgTup 2 (tgCons (tgName 1) (tgCons (tgName 2) tgNil))))
    (sSeq (sAsg (gLc (gRng1 (gCons (gVar 1) gNil)) (tgName 5) (gTest (gOp yEq (gCall y_law_take (gCons (gVar 0) (gCons (gC (.int 3)) gNil))) (gC (.int 0)))) (gVar 5) [5]) (tgName 3))
    (sSeq (sAsg (gLc (gRng1 (gCons (gVar 2) gNil)) (tgName 5) (gTest (gOp yEq (gCall y_law_take (gCons (gVar 0) (gCons (gC (.int 3)) gNil))) (gC (.int 0)))) (gVar 5) [5]) (tgName 4))
    (sSeq (sIf (gTest (gOp yEq (gCall y_law_take (gCons (gVar 0) (gCons (gC (.int 4)) gNil))) (gC (.int 0)))) (sAsg (gTup (gCons (gOp yAdd (gVar 4) (gLc (gItQ (gVar 4)) (tgName 5) gYes (gOp yAdd (gVar 5) (gVar 2)) [5])) (gCons (gOp yMul (gC (.int 2)) (gVar 2)) gNil))) (tgTup 2 (tgCons (tgName 4) (tgCons (tgName 2) tgNil)))) sNext)
    (sRet (gTup (gCons (gVar 3) (gCons (gVar 1) (gCons (gVar 2) (gCons (gVar 4) gNil))))))))))
theorem der_law_drawn_told {P : Program} {w : World} {K : PySem.W.Frag} {mg : Str → Option Value} {base : Heap} (B : Blt mg K) (C_law_take : Cal P w K mg base 1 "_law_take" "_law_take" st_law_take ["_law_feed_here", "_law_wide"] y_law_take) (f : Addr) (cdv : Value) (A : Around) (outer : List Env) (s : Shared) (H : Hp) (E : XK) (hG : A.guards = some [])
    (hr : Room 1 (A.deeper (envOfC "_law_drawn_told" (defScope st_law_drawn_told) s.heap.objs.size f cdv))) (tk : Takes (cxD P w K mg base N_law_drawn_told "_law_drawn_told" st_law_drawn_told f cdv A outer s H E) (wxD E)) :
    DB (cxD P w K mg base N_law_drawn_told "_law_drawn_told" st_law_drawn_told f cdv A outer s H E) (wxD E) (defBody st_law_drawn_told) g_law_drawn_told :=
  (db_cons (ds_asg (de_tup (da_cons (dcall C_law_take hG (hr.mono (by decide)) tk (by rfl) (da_cons (dv 0) (da_cons de_int da_nil))) (da_cons (de_bin (op_add.or (op_add_str.or (op_cat.or op_catA))) rd_add de_int (dcall C_law_take hG (hr.mono (by decide)) tk (by rfl) (da_cons (dv 0) (da_cons de_int da_nil)))) da_nil))) (dg_tup rfl (dgs_cons (dg_name (i := 1) sc_law_drawn_told.nd rfl (Or.inl rfl)) (dgs_cons (dg_name (i := 2) sc_law_drawn_told.nd rfl (Or.inr rfl)) dgs_nil))))
    (db_cons (ds_setLc (i := 3) (own := [("_law_n", 5)]) rfl sc_law_drawn_told.nd rfl rfl (sw_true rfl rfl rfl (by decide +kernel)) (di_rng1 (by rfl) B.range (da_cons (dv 1) da_nil)) (blkOk_by (N := N_law_drawn_told) (sc := defScope st_law_drawn_told) (own := [("_law_n", 5)]) (by decide +kernel)) (tgok_name (by decide)) (fun _ _ _ _ _ => (pg_name (i := 5) sc_law_drawn_told.nd rfl (by first | exact Or.inl rfl | exact Or.inr rfl))) (fun _ _ _ _ _ => (dts_one (dt_cmp (op_eqD hr.units) rd_eq (dcall C_law_take hG (hr.mono (by decide)) takes0 (by rfl) (da_cons (dv 0) (da_cons de_int da_nil))) de_int (nomark _)))) (fun _ _ _ _ _ => (dv 5)))
    (db_cons (ds_setLc (i := 4) (own := [("_law_n", 5)]) rfl sc_law_drawn_told.nd rfl rfl (sw_true rfl rfl rfl (by decide +kernel)) (di_rng1 (by rfl) B.range (da_cons (dv 2) da_nil)) (blkOk_by (N := N_law_drawn_told) (sc := defScope st_law_drawn_told) (own := [("_law_n", 5)]) (by decide +kernel)) (tgok_name (by decide)) (fun _ _ _ _ _ => (pg_name (i := 5) sc_law_drawn_told.nd rfl (by first | exact Or.inl rfl | exact Or.inr rfl))) (fun _ _ _ _ _ => (dts_one (dt_cmp (op_eqD hr.units) rd_eq (dcall C_law_take hG (hr.mono (by decide)) takes0 (by rfl) (da_cons (dv 0) (da_cons de_int da_nil))) de_int (nomark _)))) (fun _ _ _ _ _ => (dv 5)))
    (db_cons (ds_if (dt_cmp (op_eqD hr.units) rd_eq (dcall C_law_take hG (hr.mono (by decide)) tk (by rfl) (da_cons (dv 0) (da_cons de_int da_nil))) de_int (nomark _)) (db_one (ds_asg (de_tup (da_cons (de_bin (op_add.or (op_add_str.or (op_cat.or op_catA))) rd_add (dv 4) (de_lc (own := [("_law_n", 5)]) rfl sc_law_drawn_told.nd (di_list (dv 4)) (blkOk_by (N := N_law_drawn_told) (sc := defScope st_law_drawn_told) (own := [("_law_n", 5)]) (by decide +kernel)) (tgok_name (by decide)) (fun _ _ _ _ _ => (pg_name (i := 5) sc_law_drawn_told.nd rfl (by first | exact Or.inl rfl | exact Or.inr rfl))) (fun _ _ _ _ _ => dts_nil) (fun _ _ _ _ _ => (de_bin (op_add.or (op_add_str.or (op_cat.or op_catA))) rd_add (dv 5) (dv 2))))) (da_cons (de_bin (op_mul.or op_rep) rd_mul de_int (dv 2)) da_nil))) (dg_tup rfl (dgs_cons (dg_name (i := 4) sc_law_drawn_told.nd rfl (Or.inl rfl)) (dgs_cons (dg_name (i := 2) sc_law_drawn_told.nd rfl (Or.inr rfl)) dgs_nil))))) db_nil)
    (db_one (ds_ret (de_tup (da_cons (dv 3) (da_cons (dv 1) (da_cons (dv 2) (da_cons (dv 4) da_nil)))))))))))
theorem ok_law_drawn_told {P : Program} {w : World} {K : PySem.W.Frag} {mg : Str → Option Value} {base : Heap} (A : DefAt K mg "_law_drawn_told" "_law_drawn_told" st_law_drawn_told ["_law_feed_here"]) (B : Blt mg K) (C_law_take : Cal P w K mg base 1 "_law_take" "_law_take" st_law_take ["_law_feed_here", "_law_wide"] y_law_take)
    (len : ∀ ds O k e, y_law_drawn_told ds O k e → ds.length = 1) (law : ∀ ds O kd e, y_law_drawn_told ds O kd e → g_law_drawn_told (fun _ => e) (startD N_law_drawn_told ds) O { nx := fun _ O' => Fz kd .non O', rt := Fz kd }) :
    Cal P w K mg base 2 "_law_drawn_told" "_law_drawn_told" st_law_drawn_told ["_law_feed_here"] y_law_drawn_told := cal_of A sc_law_drawn_told len (der_law_drawn_told B C_law_take) law
abbrev st_law_has : Stmt := topS 17
abbrev N_law_has : List Str := ["_law_told_now", "_law_number", "_law_some", "_law_tail", "_law_period", "_law_rests"]
theorem sc_law_has : FnScope N_law_has ["_law_told_now", "_law_number"] (defScope st_law_has) := ⟨rfl, rfl, rfl, by decide +kernel, rfl, by decide +kernel, by decide +kernel⟩
def g_law_has : GS := (sSeq (sAsg (gVar 0) (tgTup 4 (tgCons (tgName 2) (tgCons (tgName 3) (tgCons (tgName 4) (tgCons (tgName 5) tgNil))))))
    (sRet (gIf (gTest (gOp (yCmp fun i j => decide (i < j)) (gVar 1) (gVar 3))) (gOp (yIn false) (gVar 1) (gVar 2)) (gOp (yIn false) (gOp yMod (gOp ySub (gVar 1) (gVar 3)) (gVar 4)) (gVar 5)))))
theorem der_law_has {P : Program} {w : World} {K : PySem.W.Frag} {mg : Str → Option Value} {base : Heap} (B : Blt mg K)  (f : Addr) (cdv : Value) (A : Around) (outer : List Env) (s : Shared) (H : Hp) (E : XK) (hG : A.guards = some [])
    (hr : Room 0 (A.deeper (envOfC "_law_has" (defScope st_law_has) s.heap.objs.size f cdv))) (tk : Takes (cxD P w K mg base N_law_has "_law_has" st_law_has f cdv A outer s H E) (wxD E)) :
    DB (cxD P w K mg base N_law_has "_law_has" st_law_has f cdv A outer s H E) (wxD E) (defBody st_law_has) g_law_has :=
  (db_cons (ds_asg (dv 0) (dg_tup rfl (dgs_cons (dg_name (i := 2) sc_law_has.nd rfl (Or.inl rfl)) (dgs_cons (dg_name (i := 3) sc_law_has.nd rfl (Or.inl rfl)) (dgs_cons (dg_name (i := 4) sc_law_has.nd rfl (Or.inl rfl)) (dgs_cons (dg_name (i := 5) sc_law_has.nd rfl (Or.inl rfl)) dgs_nil))))))
    (db_one (ds_ret (de_if (dt_cmp op_lt rd_cmp (dv 1) (dv 3) (nomark _)) (de_cmp (op_in_sign.or op_in_seq) rd_in (dv 1) (dv 2) (by rfl)) (de_cmp (op_in_sign.or op_in_seq) rd_in (de_bin op_mod rd_mod (de_bin op_sub rd_sub (dv 1) (dv 3)) (dv 4)) (dv 5) (by rfl))))))
theorem ok_law_has {P : Program} {w : World} {K : PySem.W.Frag} {mg : Str → Option Value} {base : Heap} (A : DefAt K mg "_law_has" "_law_has" st_law_has ["_law_told_now", "_law_number"]) (B : Blt mg K) 
    (len : ∀ ds O k e, y_law_has ds O k e → ds.length = 2) (law : ∀ ds O kd e, y_law_has ds O kd e → g_law_has (fun _ => e) (startD N_law_has ds) O { nx := fun _ O' => Fz kd .non O', rt := Fz kd }) :
    Cal P w K mg base 1 "_law_has" "_law_has" st_law_has ["_law_told_now", "_law_number"] y_law_has := cal_of A sc_law_has len (der_law_has B ) law
abbrev st_law_told : Stmt := topS 18
abbrev N_law_told : List Str := ["_law_some", "_law_far", "_law_size", "_law_tail", "_law_below", "_law_n"]
theorem sc_law_told : FnScope N_law_told ["_law_some", "_law_far"] (defScope st_law_told) := ⟨rfl, rfl, rfl, by decide +kernel, rfl, by decide +kernel, by decide +kernel⟩
def b1_law_told : GT := (gAnd (gTest (gOp (yCmp fun i j => decide (j < i)) (gVar 3) (gC (.int 0)))) (gTest (gOp yEq (gOp yIx (gVar 0) (gOp ySub (gVar 3) (gC (.int 1)))) (gOp yIx (gVar 0) (gOp yAdd (gOp ySub (gVar 3) (gC (.int 1))) (gVar 2))))))
def b2_law_told : GS := (sAsg (gOp ySub (gVar 3) (gC (.int 1))) (tgName 3))
def b3_law_told : GS := (sIf (gTest (gOp yEq (gLc (gRng2 (gCons (gVar 1) (gCons (gOp ySub (gCB cLen (gCons (gVar 0) gNil)) (gVar 2)) gNil))) (tgName 5) (gTest (gOp yNe (gOp yIx (gVar 0) (gVar 5)) (gOp yIx (gVar 0) (gOp yAdd (gVar 5) (gVar 2))))) (gC (.int 1)) [5]) (gLst gNil))) (sSeq (sAsg (gVar 1) (tgName 3))
    (sSeq (sWhile b1_law_told b2_law_told)
    (sSeq (sAsg (gCB cTuple (gCons (gLc (gRng1 (gCons (gVar 3) gNil)) (tgName 5) (gTest (gOp yIx (gVar 0) (gVar 5))) (gVar 5) [5]) gNil)) (tgName 4))
    (sRet (gTup (gCons (gVar 4) (gCons (gVar 3) (gCons (gVar 2) (gCons (gCB cTuple (gCons (gLc (gRng1 (gCons (gVar 2) gNil)) (tgName 5) (gTest (gOp yIx (gVar 0) (gOp yAdd (gVar 3) (gVar 5)))) (gVar 5) [5]) gNil)) gNil))))))))) sNext)
def g_law_told : GS := (sSeq (sFor (gRng2 (gCons (gC (.int 1)) (gCons (gVar 1) gNil))) (tgName 2) b3_law_told)
    (sRet (gC .non)))
theorem der_law_told {P : Program} {w : World} {K : PySem.W.Frag} {mg : Str → Option Value} {base : Heap} (B : Blt mg K)  (f : Addr) (cdv : Value) (A : Around) (outer : List Env) (s : Shared) (H : Hp) (E : XK) (hG : A.guards = some [])
    (hr : Room 0 (A.deeper (envOfC "_law_told" (defScope st_law_told) s.heap.objs.size f cdv))) (tk : Takes (cxD P w K mg base N_law_told "_law_told" st_law_told f cdv A outer s H E) (wxD E)) :
    DB (cxD P w K mg base N_law_told "_law_told" st_law_told f cdv A outer s H E) (wxD E) (defBody st_law_told) g_law_told :=
  (db_cons (ds_for (passes_of rfl) rfl (di_rng2 (by rfl) B.range (da_cons de_int (da_cons (dv 1) da_nil))) (dg_name (i := 2) sc_law_told.nd rfl (Or.inr rfl)) (db_one (ds_if (dt_cmp (op_eqD hr.units) rd_eq (de_lc (own := [("_law_n", 5)]) rfl sc_law_told.nd (di_rng2 (by rfl) B.range (da_cons (dv 1) (da_cons (de_bin op_sub rd_sub (de_callB call_len rc_len (by rfl) B.len (by decide +kernel) (da_cons (dv 0) da_nil)) (dv 2)) da_nil))) (blkOk_by (N := N_law_told) (sc := defScope st_law_told) (own := [("_law_n", 5)]) (by decide +kernel)) (tgok_name (by decide)) (fun _ _ _ _ _ => (pg_name (i := 5) sc_law_told.nd rfl (by first | exact Or.inl rfl | exact Or.inr rfl))) (fun _ _ _ _ _ => (dts_one (dt_cmp (op_neD hr.units) rd_ne (de_ix (dv 0) (dv 5)) (de_ix (dv 0) (de_bin (op_add.or (op_add_str.or (op_cat.or op_catA))) rd_add (dv 5) (dv 2))) (nomark _)))) (fun _ _ _ _ _ => de_int)) (de_lst da_nil) (nomark _)) (db_cons (ds_set (i := 3) sc_law_told.nd rfl (Or.inr rfl) (dv 1))
    (db_cons (ds_while (passes_of rfl) (PW.pt (dw_and (dt_cmp op_gt rd_cmp (dv 3) de_int (nomark _)) (dw_and1 (dt_cmp (op_eqD hr.units) rd_eq (de_ix (dv 0) (de_bin op_sub rd_sub (dv 3) de_int)) (de_ix (dv 0) (de_bin (op_add.or (op_add_str.or (op_cat.or op_catA))) rd_add (de_bin op_sub rd_sub (dv 3) de_int) (dv 2))) (nomark _))))) (db_one (ds_set (i := 3) sc_law_told.nd rfl (Or.inr rfl) (de_bin op_sub rd_sub (dv 3) de_int))))
    (db_cons (ds_set (i := 4) sc_law_told.nd rfl (Or.inl rfl) (de_callTy call_tuple_of rc_tuple (by rfl) B.tuple (by decide +kernel) (da_cons (de_lc (own := [("_law_n", 5)]) rfl sc_law_told.nd (di_rng1 (by rfl) B.range (da_cons (dv 3) da_nil)) (blkOk_by (N := N_law_told) (sc := defScope st_law_told) (own := [("_law_n", 5)]) (by decide +kernel)) (tgok_name (by decide)) (fun _ _ _ _ _ => (pg_name (i := 5) sc_law_told.nd rfl (by first | exact Or.inl rfl | exact Or.inr rfl))) (fun _ _ _ _ _ => (dts_one (dt_val (de_ix (dv 0) (dv 5))))) (fun _ _ _ _ _ => (dv 5))) da_nil)))
    (db_one (ds_ret (de_tup (da_cons (dv 4) (da_cons (dv 3) (da_cons (dv 2) (da_cons (de_callTy call_tuple_of rc_tuple (by rfl) B.tuple (by decide +kernel) (da_cons (de_lc (own := [("_law_n", 5)]) rfl sc_law_told.nd (di_rng1 (by rfl) B.range (da_cons (dv 2) da_nil)) (blkOk_by (N := N_law_told) (sc := defScope st_law_told) (own := [("_law_n", 5)]) (by decide +kernel)) (tgok_name (by decide)) (fun _ _ _ _ _ => (pg_name (i := 5) sc_law_told.nd rfl (by first | exact Or.inl rfl | exact Or.inr rfl))) (fun _ _ _ _ _ => (dts_one (dt_val (de_ix (dv 0) (de_bin (op_add.or (op_add_str.or (op_cat.or op_catA))) rd_add (dv 3) (dv 5)))))) (fun _ _ _ _ _ => (dv 5))) da_nil)) da_nil)))))))))) db_nil)))
    (db_one (ds_ret de_non)))
theorem ok_law_told {P : Program} {w : World} {K : PySem.W.Frag} {mg : Str → Option Value} {base : Heap} (A : DefAt K mg "_law_told" "_law_told" st_law_told ["_law_some", "_law_far"]) (B : Blt mg K) 
    (len : ∀ ds O k e, y_law_told ds O k e → ds.length = 2) (law : ∀ ds O kd e, y_law_told ds O kd e → g_law_told (fun _ => e) (startD N_law_told ds) O { nx := fun _ O' => Fz kd .non O', rt := Fz kd }) :
    Cal P w K mg base 1 "_law_told" "_law_told" st_law_told ["_law_some", "_law_far"] y_law_told := cal_of A sc_law_told len (der_law_told B ) law
abbrev st_law : Stmt := topS 19
abbrev N_law : List Str := ["_law_script", "_law_base", "_law_told_now", "_law_found", "_law_safe", "_law_by_now", "_law_multiples", "_law_far", "_law_due", "_law_zfound", "_law_k", "_law_n"]
theorem sc_law : FnScope N_law ["_law_script"] (defScope st_law) := ⟨rfl, rfl, rfl, by decide +kernel, rfl, by decide +kernel, by decide +kernel⟩
def b1_law : GS := (sSeq (sAsg (gLc (gRng2 (gCons (gC (.int 1)) (gCons (gC (.int 40)) gNil))) (tgName 10) gYes (gOp yMul (gVar 5) (gVar 10)) [10]) (tgName 6))
    (sSeq (sDrop (gBM "list" mAppend (gVar 4) (gCons (gOp yEq (gLc (gItQ (gVar 6)) (tgName 11) (gTest (gCall y_law_has (gCons (gVar 2) (gCons (gVar 11) gNil)))) (gVar 11) [11]) (gLst gNil)) gNil)))
    (sIf (gTest (gOp yNe (gCall y_is_safe_round (gCons (gVar 3) (gCons (gVar 5) gNil))) (gOp yIx (gVar 4) (gUn yNeg (gC (.int 1)))))) (sRet (gC (.bl false))) sNext)))
def b2_law : GS := (sSeq (sAsg (gCall y_law_drawn_told (gCons (gCall y_law_feed (gCons (gVar 0) (gCons (gVar 1) gNil))) gNil)) (tgName 2))
    (sSeq (sAsg (gCall y_numbers_told (gCons (gOp yIx (gVar 2) (gC (.int 0))) (gCons (gOp yIx (gVar 2) (gC (.int 1))) (gCons (gOp yIx (gVar 2) (gC (.int 2))) (gCons (gOp yIx (gVar 2) (gC (.int 3))) gNil))))) (tgName 3))
    (sSeq (sAsg (gLstO gNil) (tgName 4))
    (sSeq (sFor (gRng2 (gCons (gC (.int 1)) (gCons (gC (.int 61)) gNil))) (tgName 5) b1_law)
    (sSeq (sAsg (gCall y_safe_rounds (gCons (gVar 3) gNil)) (tgName 7))
    (sSeq (sIf (gOr (gTest (gOp yNe (gLc (gRng2 (gCons (gC (.int 2)) (gCons (gC (.int 61)) gNil))) (tgName 5) (gTest (gOp yNe (gCall y_is_in (gCons (gVar 7) (gCons (gVar 5) gNil))) (gOp yIx (gVar 4) (gOp ySub (gVar 5) (gC (.int 1)))))) (gVar 5) [5]) (gLst gNil))) (gOr (gTest (gCall y_is_in (gCons (gVar 7) (gCons (gC (.int 0)) gNil)))) (gTest (gCall y_is_in (gCons (gVar 7) (gCons (gC (.int 1)) gNil)))))) (sRet (gC (.bl false))) sNext)
    (sSeq (sIf (gTest (gOp yNe (gCB cRepr (gCons (gVar 7) gNil)) (gCB cRepr (gCons (gCall y_law_told (gCons (gOp yAdd (gLst (gCons (gC (.bl false)) (gCons (gC (.bl false)) gNil))) (gSl ySl (gVar 4) (gPart (gC (.int 1))) gNoPart)) (gCons (gC (.int 30)) gNil))) gNil)))) (sRet (gC (.bl false))) sNext)
    (sSeq (sAsg (gLc (gRng2 (gCons (gC (.int 2)) (gCons (gC (.int 61)) gNil))) (tgName 5) (gTest (gOp yIx (gVar 4) (gOp ySub (gVar 5) (gC (.int 1))))) (gVar 5) [5]) (tgName 8))
    (sSeq (sIf (gTest (gOp yNe (gCall y_least_round (gCons (gVar 3) gNil)) (gIf (gTest (gOp yNe (gVar 8) (gLst gNil))) (gOp yIx (gVar 8) (gC (.int 0))) (gC .non)))) (sRet (gC (.bl false))) sNext)
    (sIf (gTest (gOp yNe (gOp (yIs false) (gCall y_least_round (gCons (gVar 3) gNil)) (gC .non)) (gCall y_is_in (gCons (gVar 3) (gCons (gOp yMul (gOp yIx (gVar 3) (gC (.int 2))) (gOp yAdd (gOp yIx (gVar 3) (gC (.int 1))) (gC (.int 1)))) gNil))))) (sRet (gC (.bl false))) sNext))))))))))
def g_law : GS := (sSeq (sFor (gRng1 (gCons (gC (.int 4)) gNil)) (tgName 1) b2_law)
    (sSeq (sAsg (gTup (gCons (gTup (gCons (gC (.int 0)) (gCons (gC (.int 1)) (gCons (gC (.int 2)) gNil)))) (gCons (gC (.int 3)) (gCons (gC (.int 1)) (gCons (gTup gNil) gNil))))) (tgName 9))
    (sSeq (sIf (gOr (gTest (gOp yNe (gCallK y_safe_rounds 1 [0] gNil (gCons (gVar 9) gNil)) (gTup (gCons (gTup gNil) (gCons (gC (.int 3)) (gCons (gC (.int 1)) (gCons (gTup (gCons (gC (.int 0)) gNil)) gNil))))))) (gTest (gOp yNe (gCallK y_least_round 1 [0] gNil (gCons (gVar 9) gNil)) (gC (.int 3))))) (sRet (gC (.bl false))) sNext)
    (sRet (gAndV (gOp (yIs false) (gCallK y_is_safe_round 2 [1, 0] gNil (gCons (gC (.int 4)) (gCons (gVar 9) gNil))) (gC (.bl true))) (gOp (yIs false) (gCallK y_is_safe_round 2 [0, 1] gNil (gCons (gVar 9) (gCons (gC (.int 1)) gNil))) (gC (.bl false))))))))
theorem der_law {P : Program} {w : World} {K : PySem.W.Frag} {mg : Str → Option Value} {base : Heap} (B : Blt mg K) (C_law_drawn_told : Cal P w K mg base 2 "_law_drawn_told" "_law_drawn_told" st_law_drawn_told ["_law_feed_here"] y_law_drawn_told) (C_law_feed : Cal P w K mg base 1 "_law_feed" "_law_feed" st_law_feed ["_law_script", "_law_base"] y_law_feed) (C_numbers_told : Cal P w K mg base 2 "numbers_told" "numbers_told" st_numbers_told ["some", "tail", "period", "rests"] y_numbers_told) (C_law_has : Cal P w K mg base 1 "_law_has" "_law_has" st_law_has ["_law_told_now", "_law_number"] y_law_has) (C_is_safe_round : Cal P w K mg base 3 "is_safe_round" "is_safe_round" st_is_safe_round ["told", "by"] y_is_safe_round) (C_safe_rounds : Cal P w K mg base 4 "safe_rounds" "safe_rounds" st_safe_rounds ["told"] y_safe_rounds) (C_is_in : Cal P w K mg base 1 "is_in" "is_in" st_is_in ["told", "number"] y_is_in) (C_law_told : Cal P w K mg base 1 "_law_told" "_law_told" st_law_told ["_law_some", "_law_far"] y_law_told) (C_least_round : Cal P w K mg base 5 "least_round" "least_round" st_least_round ["told"] y_least_round) (f : Addr) (cdv : Value) (A : Around) (outer : List Env) (s : Shared) (H : Hp) (E : XK) (hG : A.guards = some [])
    (hr : Room 5 (A.deeper (envOfC "law" (defScope st_law) s.heap.objs.size f cdv))) (tk : Takes (cxD P w K mg base N_law "law" st_law f cdv A outer s H E) (wxD E)) :
    DB (cxD P w K mg base N_law "law" st_law f cdv A outer s H E) (wxD E) (defBody st_law) g_law :=
  (db_cons (ds_for (passes_of rfl) rfl (di_rng1 (by rfl) B.range (da_cons de_int da_nil)) (dg_name (i := 1) sc_law.nd rfl (Or.inl rfl)) (db_cons (ds_set (i := 2) sc_law.nd rfl (Or.inr rfl) (dcall C_law_drawn_told hG (hr.mono (by decide)) tk (by rfl) (da_cons (dcall C_law_feed hG (hr.mono (by decide)) tk (by rfl) (da_cons (dv 0) (da_cons (dv 1) da_nil))) da_nil)))
    (db_cons (ds_set (i := 3) sc_law.nd rfl (Or.inl rfl) (dcall C_numbers_told hG (hr.mono (by decide)) tk (by rfl) (da_cons (de_ix (dv 2) de_int) (da_cons (de_ix (dv 2) de_int) (da_cons (de_ix (dv 2) de_int) (da_cons (de_ix (dv 2) de_int) da_nil))))))
    (db_cons (ds_set (i := 4) sc_law.nd rfl (Or.inr rfl) (de_lstO da_nil))
    (db_cons (ds_for (passes_of rfl) rfl (di_rng2 (by rfl) B.range (da_cons de_int (da_cons de_int da_nil))) (dg_name (i := 5) sc_law.nd rfl (Or.inr rfl)) (db_cons (ds_setLc (i := 6) (own := [("_law_k", 10)]) rfl sc_law.nd rfl rfl (sw_true rfl rfl rfl (by decide +kernel)) (di_rng2 (by rfl) B.range (da_cons de_int (da_cons de_int da_nil))) (blkOk_by (N := N_law) (sc := defScope st_law) (own := [("_law_k", 10)]) (by decide +kernel)) (tgok_name (by decide)) (fun _ _ _ _ _ => (pg_name (i := 10) sc_law.nd rfl (by first | exact Or.inl rfl | exact Or.inr rfl))) (fun _ _ _ _ _ => dts_nil) (fun _ _ _ _ _ => (de_bin (op_mul.or op_rep) rd_mul (dv 5) (dv 10))))
    (db_cons (ds_expr (de_bm PySem.F.plainAttrs_list PySem.F.slot_list_append PySem.F.type_list_append mt_append rm_append (dv 4) (da_cons (de_cmp (op_eqD hr.units) rd_eq (de_lc (own := [("_law_n", 11)]) rfl sc_law.nd (di_list (dv 6)) (blkOk_by (N := N_law) (sc := defScope st_law) (own := [("_law_n", 11)]) (by decide +kernel)) (tgok_name (by decide)) (fun _ _ _ _ _ => (pg_name (i := 11) sc_law.nd rfl (by first | exact Or.inl rfl | exact Or.inr rfl))) (fun _ _ _ _ _ => (dts_one (dt_val (dcall C_law_has hG (hr.mono (by decide)) takes0 (by rfl) (da_cons (dv 2) (da_cons (dv 11) da_nil)))))) (fun _ _ _ _ _ => (dv 11))) (de_lst da_nil) (nomark _)) da_nil)))
    (db_one (ds_if (dt_cmp (op_neD hr.units) rd_ne (dcall C_is_safe_round hG (hr.mono (by decide)) tk (by rfl) (da_cons (dv 3) (da_cons (dv 5) da_nil))) (de_ix (dv 4) (de_un1 un_neg rd_neg de_int)) (nomark _)) (db_one (ds_ret de_bl)) db_nil)))))
    (db_cons (ds_set (i := 7) sc_law.nd rfl (Or.inr rfl) (dcall C_safe_rounds hG (hr.mono (by decide)) tk (by rfl) (da_cons (dv 3) da_nil)))
    (db_cons (ds_if (PW.pt (dw_or (dt_cmp (op_neD hr.units) rd_ne (de_lc (own := [("_law_by_now", 5)]) rfl sc_law.nd (di_rng2 (by rfl) B.range (da_cons de_int (da_cons de_int da_nil))) (blkOk_by (N := N_law) (sc := defScope st_law) (own := [("_law_by_now", 5)]) (by decide +kernel)) (tgok_name (by decide)) (fun _ _ _ _ _ => (pg_name (i := 5) sc_law.nd rfl (by first | exact Or.inl rfl | exact Or.inr rfl))) (fun _ _ _ _ _ => (dts_one (dt_cmp (op_neD hr.units) rd_ne (dcall C_is_in hG (hr.mono (by decide)) takes0 (by rfl) (da_cons (dv 7) (da_cons (dv 5) da_nil))) (de_ix (dv 4) (de_bin op_sub rd_sub (dv 5) de_int)) (nomark _)))) (fun _ _ _ _ _ => (dv 5))) (de_lst da_nil) (nomark _)) (dw_or (dt_val (dcall C_is_in hG (hr.mono (by decide)) tk (by rfl) (da_cons (dv 7) (da_cons de_int da_nil)))) (dw_or1 (dt_val (dcall C_is_in hG (hr.mono (by decide)) tk (by rfl) (da_cons (dv 7) (da_cons de_int da_nil)))))))) (db_one (ds_ret de_bl)) db_nil)
    (db_cons (ds_if (dt_cmp (op_neD hr.units) rd_ne (de_callB (call_reprD hG hr.units) rc_repr (by rfl) B.repr (by decide +kernel) (da_cons (dv 7) da_nil)) (de_callB (call_reprD hG hr.units) rc_repr (by rfl) B.repr (by decide +kernel) (da_cons (dcall C_law_told hG (hr.mono (by decide)) tk (by rfl) (da_cons (de_bin (op_add.or (op_add_str.or (op_cat.or op_catA))) rd_add (de_lst (da_cons de_bl (da_cons de_bl da_nil))) (de_slice (dv 4) (do_some de_int) do_none)) (da_cons de_int da_nil))) da_nil)) (nomark _)) (db_one (ds_ret de_bl)) db_nil)
    (db_cons (ds_setLc (i := 8) (own := [("_law_by_now", 5)]) rfl sc_law.nd rfl rfl (sw_true rfl rfl rfl (by decide +kernel)) (di_rng2 (by rfl) B.range (da_cons de_int (da_cons de_int da_nil))) (blkOk_by (N := N_law) (sc := defScope st_law) (own := [("_law_by_now", 5)]) (by decide +kernel)) (tgok_name (by decide)) (fun _ _ _ _ _ => (pg_name (i := 5) sc_law.nd rfl (by first | exact Or.inl rfl | exact Or.inr rfl))) (fun _ _ _ _ _ => (dts_one (dt_val (de_ix (dv 4) (de_bin op_sub rd_sub (dv 5) de_int))))) (fun _ _ _ _ _ => (dv 5)))
    (db_cons (ds_if (dt_cmp (op_neD hr.units) rd_ne (dcall C_least_round hG (hr.mono (by decide)) tk (by rfl) (da_cons (dv 3) da_nil)) (de_if (dt_cmp (op_neD hr.units) rd_ne (dv 8) (de_lst da_nil) (nomark _)) (de_ix (dv 8) de_int) de_non) (nomark _)) (db_one (ds_ret de_bl)) db_nil)
    (db_one (ds_if (dt_cmp (op_neD hr.units) rd_ne (de_cmp (op_isN.or op_isBl) rd_is (dcall C_least_round hG (hr.mono (by decide)) tk (by rfl) (da_cons (dv 3) da_nil)) de_non (nomark _)) (dcall C_is_in hG (hr.mono (by decide)) tk (by rfl) (da_cons (dv 3) (da_cons (de_bin (op_mul.or op_rep) rd_mul (de_ix (dv 3) de_int) (de_bin (op_add.or (op_add_str.or (op_cat.or op_catA))) rd_add (de_ix (dv 3) de_int) de_int)) da_nil))) (nomark _)) (db_one (ds_ret de_bl)) db_nil))))))))))))
    (db_cons (ds_set (i := 9) sc_law.nd rfl (Or.inl rfl) (de_tup (da_cons (de_tup (da_cons de_int (da_cons de_int (da_cons de_int da_nil)))) (da_cons de_int (da_cons de_int (da_cons (de_tup da_nil) da_nil))))))
    (db_cons (ds_if (PW.pt (dw_or (dt_cmp (op_neD hr.units) rd_ne (dcallK0 C_safe_rounds [0] ["told"] (fun _ _ _ _ _ _ ws _ hl => match ws, hl with | [_], _ => rfl) hG (hr.mono (by decide)) tk (by rfl) (dk_cons (dv 9) dk_nil)) (de_tup (da_cons (de_tup da_nil) (da_cons de_int (da_cons de_int (da_cons (de_tup (da_cons de_int da_nil)) da_nil))))) (nomark _)) (dw_or1 (dt_cmp (op_neD hr.units) rd_ne (dcallK0 C_least_round [0] ["told"] (fun _ _ _ _ _ _ ws _ hl => match ws, hl with | [_], _ => rfl) hG (hr.mono (by decide)) tk (by rfl) (dk_cons (dv 9) dk_nil)) de_int (nomark _))))) (db_one (ds_ret de_bl)) db_nil)
    (db_one (ds_ret (de_and (de_cmp (op_isN.or op_isBl) rd_is (dcallK0 C_is_safe_round [1, 0] ["by", "told"] (fun _ _ _ _ _ _ ws _ hl => match ws, hl with | [_, _], _ => rfl) hG (hr.mono (by decide)) tk (by rfl) (dk_cons de_int (dk_cons (dv 9) dk_nil))) de_bl (nomark _)) (de_one (de_cmp (op_isN.or op_isBl) rd_is (dcallK0 C_is_safe_round [0, 1] ["told", "by"] (fun _ _ _ _ _ _ ws _ hl => match ws, hl with | [_, _], _ => rfl) hG (hr.mono (by decide)) tk (by rfl) (dk_cons (dv 9) (dk_cons de_int dk_nil))) de_bl (nomark _)))))))))
theorem ok_law {P : Program} {w : World} {K : PySem.W.Frag} {mg : Str → Option Value} {base : Heap} (A : DefAt K mg "law" "law" st_law ["_law_script"]) (B : Blt mg K) (C_law_drawn_told : Cal P w K mg base 2 "_law_drawn_told" "_law_drawn_told" st_law_drawn_told ["_law_feed_here"] y_law_drawn_told) (C_law_feed : Cal P w K mg base 1 "_law_feed" "_law_feed" st_law_feed ["_law_script", "_law_base"] y_law_feed) (C_numbers_told : Cal P w K mg base 2 "numbers_told" "numbers_told" st_numbers_told ["some", "tail", "period", "rests"] y_numbers_told) (C_law_has : Cal P w K mg base 1 "_law_has" "_law_has" st_law_has ["_law_told_now", "_law_number"] y_law_has) (C_is_safe_round : Cal P w K mg base 3 "is_safe_round" "is_safe_round" st_is_safe_round ["told", "by"] y_is_safe_round) (C_safe_rounds : Cal P w K mg base 4 "safe_rounds" "safe_rounds" st_safe_rounds ["told"] y_safe_rounds) (C_is_in : Cal P w K mg base 1 "is_in" "is_in" st_is_in ["told", "number"] y_is_in) (C_law_told : Cal P w K mg base 1 "_law_told" "_law_told" st_law_told ["_law_some", "_law_far"] y_law_told) (C_least_round : Cal P w K mg base 5 "least_round" "least_round" st_least_round ["told"] y_least_round)
    (len : ∀ ds O k e, y_law ds O k e → ds.length = 1) (law : ∀ ds O kd e, y_law ds O kd e → g_law (fun _ => e) (startD N_law ds) O { nx := fun _ O' => Fz kd .non O', rt := Fz kd }) :
    Cal P w K mg base 6 "law" "law" st_law ["_law_script"] y_law := cal_of A sc_law len (der_law B C_law_drawn_told C_law_feed C_numbers_told C_law_has C_is_safe_round C_safe_rounds C_is_in C_law_told C_least_round) law
end DW

set_option Elab.async false
set_option linter.all false
set_option maxRecDepth 100000
set_option maxHeartbeats 4000000
namespace DW
open PySem L2
local macro_rules | `(tactic| walk_at "dw") => `(tactic| simp only [startD, List.map_cons, List.map_nil, List.length_cons, List.length_nil, List.replicate, List.cons_append, List.nil_append, Nat.reduceAdd, Nat.reduceSub,
  sSeq, sAsg, sRet, sIf, sNext, sDrop, sFor, sPar, sPar3, sAug, gVar, gC, gOp, gUn, gTest, gIf, gAnd, gOr, gNot, gAndV, gOrV, gNotV, gCons, gNil, gCB, gTup, gLst, gCall, gLc, gRng1, gRng2, gItQ, tgTup, tgCons, tgNil, tgName, gYes, wipeD,
  List.getElem?_cons_zero, List.getElem?_cons_succ, List.getElem?_nil, List.set_cons_zero, List.set_cons_succ, List.set_nil,
  Option.some.injEq, exists_eq_left', exists_eq_left, exists_eq_right', exists_and_left, and_assoc, D.tup.injEq, D.lst.injEq, List.cons.injEq, yCmp, ySub, yMod, yDiv, D.int.injEq, D.bl.injEq, and_true, true_and,
  yIn_int_tup, yIn_int_lst, yIx_tup, yIx_lst, atI0, atI1, atI2, atI3, cLen_tup, cLen_lst, cInt_int, cAbs_int, yNeg_int,  cTuple_lst, cTuple_tup, yAdd_int, yMul_int, yEq_int, yEq_bl, yNe_int, yNe_bl, Bool.false_eq_true, if_false, if_true])
theorem flat_nats (l : List Nat) : (nats l).all flatD = true := by simp [flatD]
theorem law_is_in : ∀ ds O kd e, y_is_in ds O kd e → g_is_in (fun _ => e) (startD N_is_in ds) O { nx := fun _ O' => Fz kd .non O', rt := Fz kd } := by
  rintro ds O kd e ⟨f, t, d, n, rfl, hd, ht, hd2, hk⟩
  unfold g_is_in canT
  walk_at "dw"
  unfold fOf at hk
  by_cases h : n < t
  · rw [if_pos h] at hk
    rw [if_pos (decide_eq_true (by omega))]
    exact ⟨flat_nats _, fz hk⟩
  · rw [if_neg h] at hk
    rw [if_neg (by simp; omega)]
    refine ⟨by omega, flat_nats _, fz ?_⟩
    have e : ((n : Int) - t) % d = ((n - t) % d : Nat) := by
      rw [Int.natCast_emod]; congr 1; omega
    rw [e]
    exact hk
theorem law_law_has : ∀ ds O kd e, y_law_has ds O kd e → g_law_has (fun _ => e) (startD N_law_has ds) O { nx := fun _ O' => Fz kd .non O', rt := Fz kd } := by
  rintro ds O kd e ⟨some, t, d, rests, n, rfl, hd, hk⟩
  unfold g_law_has told4
  walk_at "dw"
  unfold fOf at hk
  by_cases h : n < t
  · rw [if_pos h] at hk
    rw [if_pos (decide_eq_true (by omega))]
    exact ⟨flat_nats _, fz hk⟩
  · rw [if_neg h] at hk
    rw [if_neg (by simp; omega)]
    refine ⟨by omega, flat_nats _, fz ?_⟩
    have e : ((n : Int) - t) % d = ((n - t) % d : Nat) := by
      rw [Int.natCast_emod]; congr 1; omega
    rw [e]
    exact hk
theorem lp_loop {O : Oh} {e : EK} {E : DEnds} {p : Nat} {rd : D} {rests : List D} (hq : asQ O rd = some rests) (hf : rests.all flatD = true) (hp : 0 < p) (hp2 : p ≤ 1000) :
    ∀ (l : List Nat) (x2 x3 : Option D), (∀ s ∈ l, 0 < s) → (∀ s, l.find? (fun s => comesBy rests p s) = some s → E.rt (.int (s : Nat)) O) → (l.find? (fun s => comesBy rests p s) = none → ∀ x2 x3, E.nx [some (D.int p), some rd, x2, x3] O) →
      forD (fun _ => e) (tgName 2) b1_least_period (fun _ => True) E (nats l) [some (D.int p), some rd, x2, x3] O
  | [], x2, x3, _, _, hk => by
    simp only [List.map_nil, forD, true_and]
    exact hk rfl _ _
  | s :: l, x2, x3, hl, hkr, hk => by
    have hs : 0 < s := hl s (by simp)
    simp only [List.map_cons, forD, true_and]
    unfold b1_least_period
    walk_at "dw"
    refine ⟨by omega, ?_⟩
    have em : ((p : Int) % s = 0) ↔ p % s = 0 := by rw [← Int.natCast_emod]; omega
    rw [List.find?_cons] at hk hkr
    by_cases h : p % s = 0
    · rw [if_pos (decide_eq_true (em.mpr h))]
      refine ⟨okI_nat (by omega), ?_⟩
      rw [rng_nats0]
      refine lc_topT (fun _ => true) (fun d => match d with | .int r => .bl (inD (.int r) rests == inD (.int ((r + s) % p)) rests) | _ => .non) ?_ ?_ ?_
      · rw [List.length_map, List.length_range]; have : sizeLine = 16777216 := by decide
        omega
      · intro q hq0 d hd l2 k1 k0 hk1
        obtain ⟨r, hr, rfl⟩ := List.mem_map.mp hd
        walk_at "dw"
        simp only [if_true] at hk1
        refine (yIn_int (asQ_up hq0 hq)).mpr ⟨hf, ?_⟩
        simp only [if_false, Bool.false_eq_true]
        refine ⟨by omega, (yIn_int (asQ_up hq0 hq)).mpr ⟨hf, ?_⟩⟩
        simp only [if_false, Bool.false_eq_true, yEq_bl]
        exact hk1
      · intro q hq0
        simp only [odel_oupd hq0]
        have ef : ((nats (List.range p)).filter fun _ => true).map (fun d => match d with | .int r => D.bl (inD (.int r) rests == inD (.int ((r + s) % p)) rests) | _ => .non)
            = ((List.range p).map fun r => inD (.int (r : Nat)) rests == inD (.int ((r + s) % p : Nat)) rests).map D.bl := by
          rw [List.filter_eq_self.mpr (fun _ _ => rfl), List.map_map, List.map_map]
          apply List.map_congr_left
          intro r _
          simp
        rw [ef]
        refine cAll_lst ⟨_, rfl, ?_⟩
        have ec : ((List.range p).map fun r => inD (.int (r : Nat)) rests == inD (.int ((r + s) % p : Nat)) rests).all id = comesBy rests p s := by
          unfold comesBy
          rw [decide_eq_true h, Bool.true_and, List.all_map]
          rfl
        rw [ec]
        by_cases hc : comesBy rests p s = true
        · rw [hc] at hkr ⊢
          exact hkr s rfl
        · rw [Bool.not_eq_true] at hc
          rw [hc] at hk hkr ⊢
          exact lp_loop hq hf hp hp2 l _ _ (fun x hx => hl x (by simp [hx])) hkr hk
    · rw [if_neg (by simp only [decide_eq_true_eq]; exact fun z => h (em.mp z))]
      have hc : comesBy rests p s = false := by unfold comesBy; rw [decide_eq_false h]; rfl
      rw [hc] at hk hkr
      exact lp_loop hq hf hp hp2 l _ _ (fun x hx => hl x (by simp [hx])) hkr hk
theorem law_least_period : ∀ ds O kd e, y_least_period ds O kd e → g_least_period (fun _ => e) (startD N_least_period ds) O { nx := fun _ O' => Fz kd .non O', rt := Fz kd } := by
  rintro ds O kd e ⟨p, rd, rests, rfl, hq, hf, hp, hp2, hk⟩
  unfold g_least_period
  walk_at "dw"
  refine ⟨⟨by decide, by decide⟩, okI_nat (by omega), ?_⟩
  rw [show (1 : Int) = ((1 : Nat) : Int) from rfl, rng_nats]
  unfold leastP at hk
  have e1 : (fun x : Nat => x + 1) = fun x => 1 + x := by funext x; omega
  rw [e1] at hk
  refine lp_loop hq hf hp hp2 _ _ _ ?_ ?_ ?_
  · intro s hs
    obtain ⟨i, _, rfl⟩ := List.mem_map.mp hs
    omega
  · intro s hs
    rw [hs] at hk
    exact fz hk
  · intro hs x2 x3
    rw [hs] at hk
    exact ⟨_, rfl, fz hk⟩
end DW

set_option Elab.async false
set_option linter.all false
set_option maxRecDepth 100000
set_option maxHeartbeats 4000000
namespace DW
open PySem L2
local macro_rules | `(tactic| walk_at "dw") => `(tactic| simp only [startD, List.map_cons, List.map_nil, List.length_cons, List.length_nil, List.replicate, List.cons_append, List.nil_append, Nat.reduceAdd, Nat.reduceSub,
  sSeq, sAsg, sRet, sIf, sNext, sDrop, sFor, sPar, sPar3, sAug, gVar, gC, gOp, gUn, gTest, gIf, gAnd, gOr, gNot, gAndV, gOrV, gNotV, gCons, gNil, gCB, gTup, gLst, gCall, gLc, gRng1, gRng2, gItQ, tgTup, tgCons, tgNil, tgName, gYes, wipeD,
  List.getElem?_cons_zero, List.getElem?_cons_succ, List.getElem?_nil, List.set_cons_zero, List.set_cons_succ, List.set_nil,
  Option.some.injEq, exists_eq_left', exists_eq_left, exists_eq_right', exists_and_left, and_assoc, D.tup.injEq, D.lst.injEq, List.cons.injEq, yCmp, ySub, yMod, yDiv, D.int.injEq, D.bl.injEq, and_true, true_and,
  yIn_int_tup, yIn_int_lst, yIx_tup, yIx_lst, atI0, atI1, atI2, atI3, cLen_tup, cLen_lst, cInt_int, cAbs_int, yNeg_int, cTuple_lst, cTuple_tup, yAdd_int, yMul_int, yEq_int, yEq_bl, yNe_int, yNe_bl, Bool.false_eq_true, if_false, if_true])
theorem sz1000 {n : Nat} (h : n ≤ 100000) : n ≤ sizeLine := Nat.le_trans h (by decide)
theorem lows_len {f : Nat → Bool} {t : Nat} : (lows f t).length ≤ t := by
  unfold lows; exact Nat.le_trans (List.length_filter_le _ _) (by rw [List.length_range]; exact Nat.le_refl _)
theorem highs_len {f : Nat → Bool} {t d : Nat} : (highs f t d).length ≤ d := by
  unfold highs; exact Nat.le_trans (List.length_filter_le _ _) (by rw [List.length_range]; exact Nat.le_refl _)
theorem in_lows {f : Nat → Bool} {t n : Nat} (h : n < t) : inD (.int (n : Nat)) (nats (lows f t)) = f n := by
  rw [inD_nats]
  cases q : f n with
  | true => exact decide_eq_true (mem_lows.mpr ⟨h, q⟩)
  | false => exact decide_eq_false fun z => by rw [(mem_lows.mp z).2] at q; cases q
theorem in_highs {f : Nat → Bool} {t d n : Nat} (h : n < d) : inD (.int (n : Nat)) (nats (highs f t d)) = f (t + n) := by
  rw [inD_nats]
  cases q : f (t + n) with
  | true => exact decide_eq_true (mem_highs.mpr ⟨h, q⟩)
  | false => exact decide_eq_false fun z => by rw [(mem_highs.mp z).2] at q; cases q
theorem nt_loop {O : Oh} {e : EK} {E : DEnds} {f : Nat → Bool} {s : Nat} {a0 a2 a3 : Option D} (hs : 0 < s) (hs2 : s ≤ 1000) {u : Nat} (hlow : ∀ j, 0 < j → j < s → ¬ Per f u j)
    (hk : ∀ t', Can f t' s → t' ≤ u → ∀ x7 x8, E.nx [a0, some (.int t'), a2, a3, some (.int s), some (.lst (nats (lows f t'))), some (.lst (nats (highs f t' s))), x7, x8] O) :
    ∀ (t : Nat) (x7 x8 : Option D), t ≤ u → t ≤ 1000 → Per f t s →
      whD (fun _ => e) b1_numbers_told b2_numbers_told E (t + 1) [a0, some (.int t), a2, a3, some (.int s), some (.lst (nats (lows f t))), some (.lst (nats (highs f t s))), x7, x8] O
  | 0, x7, x8, hu, ht, hpt => by
    unfold whD b1_numbers_told
    walk_at "dw"
    rw [if_neg (by simp)]
    exact hk 0 ⟨hs, hpt, fun j h1 h2 h3 => hlow j h1 h2 (Per.mono h3 (Nat.zero_le u)), .inl rfl⟩ (Nat.zero_le u) _ _
  | t + 1, x7, x8, hu, ht, hpt => by
    have ih := nt_loop (e := e) hs hs2 hlow hk t
    unfold whD b1_numbers_told
    walk_at "dw"
    rw [if_pos (decide_eq_true (by omega))]
    have e1 : ((t + 1 : Nat) : Int) - 1 = ((t : Nat) : Int) := by omega
    have e2 : ((s : Nat) : Int) - 1 = ((s - 1 : Nat) : Int) := by omega
    have e3 : t + 1 + (s - 1) = t + s := by omega
    rw [e1, e2, in_lows (Nat.lt_succ_self t), in_highs (by omega), e3]
    refine ⟨flat_nats _, flat_nats _, ?_⟩
    by_cases h : f (t + s) = f t
    · rw [if_pos (by rw [h]; simp)]
      unfold b2_numbers_told
      walk_at "dw"
      rw [e1]
      refine lc_topT (fun d => match d with | .int i => decide (i < t) | _ => false) (fun d => d) ?_ ?_ ?_
      · rw [List.length_map]; exact sz1000 (by have := lows_len (f := f) (t := t + 1); omega)
      · intro q hq0 d hd l2 k1 k0 hk1
        obtain ⟨r, hr, rfl⟩ := List.mem_map.mp hd
        walk_at "dw"
        exact hk1
      · intro q hq0
        simp only [odel_oupd hq0]
        have el : ((nats (lows f (t + 1))).filter (fun d => match d with | .int i => decide (i < t) | _ => false)).map (fun d => d) = nats (lows f t) := by
          rw [List.map_id', ← lows_cut (f := f) (t := t)]
          unfold nats
          rw [List.filter_map]
          congr 1
          apply List.filter_congr
          intro r _
          simp
        rw [el]
        refine lc_topT (fun _ => true) (fun d => match d with | .int i => .int ((i + 1) % s) | _ => .non) ?_ ?_ ?_
        · rw [List.length_map]; exact sz1000 (by have := highs_len (f := f) (t := t + 1) (d := s); omega)
        · intro q hq0 d hd l2 k1 k0 hk1
          obtain ⟨r, hr, rfl⟩ := List.mem_map.mp hd
          walk_at "dw"
          exact ⟨by omega, hk1⟩
        · intro q hq0
          simp only [odel_oupd hq0]
          have eh : ((nats (highs f (t + 1) s)).filter fun _ => true).map (fun d => match d with | .int i => D.int ((i + 1) % s) | _ => .non) = ((highs f (t + 1) s).map fun r => (((r + 1) % s : Nat) : Int)).map D.int := by
            rw [List.filter_eq_self.mpr (fun _ _ => rfl), List.map_map, List.map_map]
            apply List.map_congr_left
            intro r _
            simp
          rw [eh]
          refine ⟨_, _, rfl, rfl, fun ns' pm pw => ?_⟩
          have es : ns' = (highs f t s).map fun r => ((r : Nat) : Int) := by
            refine PySem.W.ksm_same (pm.trans ?_) pw ?_
            · have := (highs_back hs h).map fun r => ((r : Nat) : Int)
              rw [List.map_map] at this
              exact this
            · rw [List.pairwise_map]
              exact highs_le.imp fun z => by omega
          have en : ns'.map D.int = nats (highs f t s) := by rw [es, List.map_map]; rfl
          rw [en]
          exact ih _ _ (by omega) (by omega) (fun n hn => by
            by_cases hn2 : t + 1 ≤ n
            · exact hpt n hn2
            · have : n = t := by omega
              subst this; exact h)
    · rw [if_neg (by rw [beq_iff_eq]; exact fun z => h z.symm)]
      exact hk (t + 1) ⟨hs, hpt, fun j h1 h2 h3 => hlow j h1 h2 (Per.mono h3 hu), .inr h⟩ hu _ _
theorem law_numbers_told : ∀ ds O kd e, y_numbers_told ds O kd e → g_numbers_told (fun _ => e) (startD N_numbers_told ds) O { nx := fun _ O' => Fz kd .non O', rt := Fz kd } := by
  rintro ds O kd e ⟨sd, some, tail, period, rd, rests, rfl, hq1, hq2, hf1, hf2, ht, hp, hp2, hk⟩
  unfold g_numbers_told
  walk_at "dw"
  refine ⟨period, rd, rests, rfl, hq2, hf2, hp, hp2, ?_⟩
  have hs := leastP_pos (rests := rests) hp
  have hsl := leastP_le (p := period) (rests := rests)
  refine ⟨okI_nat (by omega), ?_⟩
  rw [rng_nats0]
  refine lc_topT (fun d => inD d some) (fun d => d) ?_ ?_ ?_
  · rw [List.length_map, List.length_range]; exact sz1000 (by omega)
  · intro q hq0 d hd l2 k1 k0 hk1
    obtain ⟨r, hr, rfl⟩ := List.mem_map.mp hd
    walk_at "dw"
    refine (yIn_int (asQ_up hq0 hq1)).mpr ⟨hf1, _, rfl, ?_⟩
    simp only [Bool.false_eq_true, if_false]
    exact hk1
  · intro q hq0
    simp only [odel_oupd hq0]
    refine ⟨_, rfl, okI_nat (by omega), ?_⟩
    rw [rng_nats0]
    refine lc_topT (fun d => inD d rests) (fun d => d) ?_ ?_ ?_
    · rw [List.length_map, List.length_range]; exact sz1000 (by omega)
    · intro q hq0 d hd l2 k1 k0 hk1
      obtain ⟨r, hr, rfl⟩ := List.mem_map.mp hd
      walk_at "dw"
      refine (yIn_int (asQ_up hq0 hq2)).mpr ⟨hf2, _, rfl, ?_⟩
      simp only [Bool.false_eq_true, if_false]
      exact hk1
    · intro q hq0
      simp only [odel_oupd hq0]
      have e1 : ((nats (List.range tail)).filter fun d => inD d some).map (fun d => d) = nats (lows (fOf some tail period rests) tail) := by
        rw [List.map_id']
        unfold nats lows
        rw [List.filter_map]
        congr 1
        apply List.filter_congr
        intro n hn
        exact (fOf_low (List.mem_range.mp hn)).symm
      have e2 : ((nats (List.range (leastP period rests))).filter fun d => inD d rests).map (fun d => d) = nats (highs (fOf some tail period rests) tail (leastP period rests)) := by
        rw [List.map_id']
        unfold nats highs
        rw [List.filter_map]
        congr 1
        apply List.filter_congr
        intro n hn
        have := List.mem_range.mp hn
        rw [fOf_high, Nat.mod_eq_of_lt (by omega)]
        rfl
      rw [e1, e2]
      refine ⟨tail + 1, ?_⟩
      refine nt_loop hs (by omega) (u := tail) (fun j h1 h2 => leastP_low hp h1 h2) ?_ tail _ _ (Nat.le_refl _) ht (leastP_per hp)
      intro t' hc hle x7 x8
      walk_at "dw"
      exact ⟨by decide, fz (hk t' _ hc hle hsl)⟩
end DW

set_option Elab.async false
set_option linter.all false
set_option maxRecDepth 100000
set_option maxHeartbeats 4000000
namespace DW
open PySem L2
local macro_rules | `(tactic| walk_at "dw") => `(tactic| simp only [startD, List.map_cons, List.map_nil, List.length_cons, List.length_nil, List.replicate, List.cons_append, List.nil_append, Nat.reduceAdd, Nat.reduceSub,
  sSeq, sAsg, sRet, sIf, sNext, sDrop, sFor, sPar, sPar3, sAug, gVar, gC, gOp, gUn, gTest, gIf, gAnd, gOr, gNot, gAndV, gOrV, gNotV, gCons, gNil, gCB, gTup, gLst, gCall, gLc, gRng1, gRng2, gItQ, gSl, gPart, gNoPart, tgTup, tgCons, tgNil, tgName, gYes, wipeD, gBM, gBM0,
  List.getElem?_cons_zero, List.getElem?_cons_succ, List.getElem?_nil, List.set_cons_zero, List.set_cons_succ, List.set_nil,
  Option.some.injEq, exists_eq_left', exists_eq_left, exists_eq_right', exists_and_left, and_assoc, D.tup.injEq, D.lst.injEq, List.cons.injEq, yCmp, ySub, yMod, yDiv, D.int.injEq, D.bl.injEq, and_true, true_and,
  yIn_int_tup, yIn_int_lst, yIx_tup, yIx_lst, atI0, atI1, atI2, atI3, cLen_tup, cLen_lst, cInt_int, cAbs_int, yNeg_int, cTuple_lst, cTuple_tup, yAdd_int, yMul_int, yEq_int, yEq_bl, yNe_int, yNe_bl, Bool.false_eq_true, if_false, if_true])
theorem oupd_self {O : Oh} {a : Addr} {o : OD} (h : O a = some o) : oupd O a o = O := by
  funext b; unfold oupd; split
  · rename_i e; subst e; exact h.symm
  · rfl
theorem ne_rows_seed : ¬ (Sum.inr ("rows" : Str) : Key) = Sum.inr ("seed" : Str) := by decide +kernel
theorem ne_seed_rows : ¬ (Sum.inr ("seed" : Str) : Key) = Sum.inr ("rows" : Str) := by decide +kernel
theorem val_rows {a b : D} : valD [(.inr "rows", a), (.inr "seed", b)] (.inr "rows") = some a := by simp [valD, List.find?_cons]
theorem val_seed {a b : D} : valD [(.inr "rows", a), (.inr "seed", b)] (.inr "seed") = some b := by
  unfold valD
  rw [List.find?_cons, decide_eq_false ne_rows_seed, List.find?_cons, decide_eq_true rfl]; rfl
theorem put_seed {a b c : D} : putD [(.inr "rows", a), (.inr "seed", b)] (.inr "seed") c = [(.inr "rows", a), (.inr "seed", c)] := by
  unfold putD
  rw [if_pos (by simp [List.any_cons])]
  simp only [List.map_cons, List.map_nil]
  rw [if_neg ne_rows_seed]
  simp
theorem merge_two {a b : D} : mergeD [] [(.inr "rows", a), (.inr "seed", b)] = [(.inr "rows", a), (.inr "seed", b)] := by
  unfold mergeD
  simp only [List.foldl_cons, List.foldl_nil]
  have e : putD [] (.inr "rows") a = [(.inr "rows", a)] := by unfold putD; rw [if_neg (by simp)]; rfl
  rw [e]
  unfold putD
  rw [if_neg (by simp only [List.any_cons, List.any_nil, Bool.or_false, decide_eq_true_eq]; exact ne_rows_seed)]
  rfl
theorem asL_own {O : Oh} {a : Addr} {xs : List D} (h : O a = some (.lst xs)) : asL O (.ref a) = some xs := by simp only [asL, h]
theorem asQ_own {O : Oh} {a : Addr} {xs : List D} (h : O a = some (.lst xs)) : asQ O (.ref a) = some xs := by simp only [asQ, h]
theorem asD_own {O : Oh} {a : Addr} {xs : List (Key × D)} (h : O a = some (.dic xs)) : asD O (.ref a) = some xs := by simp only [asD, h]
theorem yIx_own {O : Oh} {a : Addr} {xs : List D} {i : Int} {d : D} {k : DK} (h : O a = some (.lst xs)) (hd : atI xs i = some d) (hk : k d O) : yIx (.ref a) (.int i) O k := ⟨xs, i, d, asQ_own h, rfl, hd, hk⟩
theorem atI_ints {ns : List Int} {n : Int} (h : ns.getLast? = some n) : atI (ns.map D.int) (-1) = some (.int n) := by
  have hne : ns ≠ [] := fun z => by rw [z] at h; cases h
  rw [atI_m1 (by simpa using hne), List.getLast?_map, h]; rfl
theorem last_ix {ns : List Int} {n : Int} (h : ns.getLast? = some n) : (ns.map D.int)[(ns.map D.int).length - 1]? = some (.int n) := by
  rw [← List.getLast?_eq_getElem?, List.getLast?_map, h]; rfl
theorem tk_loop {e : EK} {E : DEnds} {d r : Addr} {w : Int} {O : Oh} :
    ∀ (m : Nat) (rows : List Int) (x3 : Option D), rows.length = m → (∀ rows' : List Int, rows'.length ≤ rows.length → (∀ x ∈ rows', x ∈ rows) → E.nx [some (.ref d), some (.int w), some (.ref r), x3] (oupd O r (.lst (rows'.map D.int)))) →
      whD (fun _ => e) b1_law_take b2_law_take E (m + 1) [some (.ref d), some (.int w), some (.ref r), x3] (oupd O r (.lst (rows.map D.int)))
  | m, rows, x3, hm, hk => by
    have hL : asL (oupd O r (.lst (rows.map D.int))) (.ref r) = some (rows.map D.int) := asL_own oupd_same
    unfold whD b1_law_take
    walk_at "dw"
    refine ⟨by decide, (yNe_nil hL plain_ints).mpr ⟨_, rfl, ?_⟩⟩
    cases hl : rows.getLast? with
    | none =>
      have e1 : rows = [] := List.getLast?_eq_none_iff.mp hl
      subst e1
      rw [if_neg (by simp)]
      exact hk [] (Nat.le_refl _) (fun x hx => hx)
    | some n =>
      have hne : rows ≠ [] := fun z => by rw [z] at hl; cases hl
      rw [if_pos (by simpa using hne)]
      refine yIx_own oupd_same (atI_ints hl) ?_
      rw [yEq_int]
      refine ⟨_, rfl, ?_⟩
      by_cases h0 : n = 0
      · rw [if_pos (decide_eq_true h0)]
        unfold b2_law_take
        walk_at "dw"
        refine ⟨⟨rfl, by rw [hL]; rfl⟩, r, _, _, rfl, rfl, oupd_same, last_ix hl, ?_⟩
        rw [oupd_oupd, ← List.map_dropLast]
        have hpos : 0 < rows.length := List.length_pos_iff.mpr hne
        cases m with
        | zero => omega
        | succ m =>
          refine tk_loop m rows.dropLast x3 (by rw [List.length_dropLast]; omega) fun rows' h1 h2 => ?_
          exact hk rows' (by rw [List.length_dropLast] at h1; omega) fun x hx => (List.dropLast_sublist _).subset (h2 x hx)
      · rw [if_neg (by simpa using h0)]
        exact hk rows (Nat.le_refl _) fun x hx => hx
theorem tk_loop' {e : EK} {E : DEnds} {d r : Addr} {w : Int} {O : Oh} {rows : List Int} {x3 : Option D} (hr : O r = some (.lst (rows.map D.int)))
    (hk : ∀ rows' : List Int, rows'.length ≤ rows.length → (∀ x ∈ rows', x ∈ rows) → E.nx [some (.ref d), some (.int w), some (.ref r), x3] (oupd O r (.lst (rows'.map D.int)))) :
    whD (fun _ => e) b1_law_take b2_law_take E (rows.length + 1) [some (.ref d), some (.int w), some (.ref r), x3] O := by
  have st := tk_loop (e := e) rows.length rows x3 rfl hk
  rw [oupd_self hr] at st
  exact st
theorem law_law_take : ∀ ds O kd e, y_law_take ds O kd e → g_law_take (fun _ => e) (startD N_law_take ds) O { nx := fun _ O' => Fz kd .non O', rt := Fz kd } := by
  rintro ds O kd e ⟨d, r, w, rfl, ⟨hdr, rows, s, hd, hr, hlen, hpos, hs0, hs1⟩, hw, hw2, hk⟩
  unfold g_law_take
  walk_at "dw"
  refine ⟨_, .inr "rows", _, asD_own hd, rfl, val_rows, rows.length + 1, ?_⟩
  refine tk_loop' hr fun rows' h1 h2 => ?_
  walk_at "dw"
  have hL : asL (oupd O r (.lst (rows'.map D.int))) (.ref r) = some (rows'.map D.int) := asL_own oupd_same
  refine ⟨by decide, (yNe_nil hL plain_ints).mpr ⟨_, rfl, ?_⟩⟩
  cases hl : rows'.getLast? with
  | none =>
    have e1 : rows' = [] := List.getLast?_eq_none_iff.mp hl
    subst e1
    rw [if_neg (by simp)]
    have hd' : (oupd O r (.lst (([] : List Int).map D.int))) d = some (.dic [(.inr "rows", .ref r), (.inr "seed", .int s)]) := by rw [oupd_ne hdr]; exact hd
    unfold sDPut
    walk_at "dw"
    refine ⟨_, .inr "seed", _, asD_own hd', rfl, val_seed, ?_⟩
    walk_at "dw"
    refine ⟨.inl ⟨by omega, by omega⟩, by decide, ?_⟩
    refine ⟨d, rfl, _, .inr "seed", rfl, hd', (by show 2 < sizeLine; decide), ?_⟩
    rw [put_seed]
    refine ⟨_, .inr "seed", _, asD_own oupd_same, rfl, val_seed, _, rfl, by decide, by decide, hw, ?_⟩
    have hz : 0 ≤ ((s * 39709 + 1231) % 2147483549 / 64) % w := Int.emod_nonneg _ (by omega)
    have hz2 : ((s * 39709 + 1231) % 2147483549 / 64) % w < w := Int.emod_lt_of_pos _ hw
    have en : ((s * 39709 + 1231) % 2147483549 / 64) % w = ((((s * 39709 + 1231) % 2147483549 / 64) % w).toNat : Nat) := by omega
    rw [en]
    refine fz (hk _ _ (by omega) ⟨hdr, [], _, oupd_same, by rw [oupd_ne (Ne.symm hdr)]; exact oupd_same, by decide, (fun _ h => nomatch h), Int.emod_nonneg _ (by decide), Int.emod_lt_of_pos _ (by decide)⟩ fun a ha1 ha2 => by rw [oupd_ne ha1, oupd_ne ha2])
  | some n =>
    have hne : rows' ≠ [] := fun z => by rw [z] at hl; cases hl
    have hmem : n ∈ rows' := List.mem_of_getLast? hl
    have hn0 : 0 ≤ n := hpos n (h2 n hmem)
    rw [if_pos (by simpa using hne)]
    refine ⟨⟨rfl, by rw [hL]; rfl⟩, r, _, _, rfl, rfl, oupd_same, last_ix hl, ?_⟩
    rw [oupd_oupd]
    walk_at "dw"
    refine ⟨⟨rfl, by rw [asL_own oupd_same]; rfl⟩, hw, hw2, r, _, _, rfl, rfl, oupd_same, ?_, ?_⟩
    · rw [List.length_dropLast, List.length_map]
      have : sizeLine = 16777216 := by decide
      omega
    · rw [oupd_oupd, ← List.map_dropLast]
      refine ⟨hw, ?_⟩
      have hz : 0 ≤ n % w := Int.emod_nonneg _ (by omega)
      have hz2 : n % w < w := Int.emod_lt_of_pos _ hw
      have en : n % w = ((n % w).toNat : Nat) := by omega
      rw [en]
      have el : rows'.dropLast.map D.int ++ [D.int (n / w)] = (rows'.dropLast ++ [n / w]).map D.int := by simp
      rw [el]
      have hpl : 0 < rows'.length := List.length_pos_iff.mpr hne
      refine fz (hk _ _ (by omega) ⟨hdr, rows'.dropLast ++ [n / w], s, by rw [oupd_ne hdr]; exact hd, oupd_same, ?_, ?_, hs0, hs1⟩ fun a ha1 ha2 => by rw [oupd_ne ha2])
      · rw [List.length_append, List.length_dropLast, List.length_singleton]; omega
      · intro x hx
        rcases List.mem_append.mp hx with h | h
        · exact hpos x (h2 x ((List.dropLast_sublist _).subset h))
        · rw [List.mem_singleton.mp h]; exact Int.ediv_nonneg hn0 (by omega)
end DW

set_option Elab.async false
set_option linter.all false
set_option maxRecDepth 100000
set_option maxHeartbeats 4000000
namespace DW
open PySem L2
local macro_rules | `(tactic| walk_at "dw") => `(tactic| simp only [startD, List.map_cons, List.map_nil, List.length_cons, List.length_nil, List.replicate, List.cons_append, List.nil_append, Nat.reduceAdd, Nat.reduceSub,
  sSeq, sAsg, sRet, sIf, sNext, sDrop, sFor, sPar, sPar3, sAug, gVar, gC, gOp, gUn, gTest, gIf, gAnd, gOr, gNot, gAndV, gOrV, gNotV, gCons, gNil, gCB, gTup, gLst, gCall, gLc, gRng1, gRng2, gItQ, gSl, gPart, gNoPart, tgTup, tgCons, tgNil, tgName, gYes, wipeD, gBM, gBM0,
  List.getElem?_cons_zero, List.getElem?_cons_succ, List.getElem?_nil, List.set_cons_zero, List.set_cons_succ, List.set_nil,
  Option.some.injEq, exists_eq_left', exists_eq_left, exists_eq_right', exists_and_left, and_assoc, D.tup.injEq, D.lst.injEq, List.cons.injEq, yCmp, ySub, yMod, yDiv, D.int.injEq, D.bl.injEq, and_true, true_and,
  yIn_int_tup, yIn_int_lst, yIx_tup, yIx_lst, atI0, atI1, atI2, atI3, cLen_tup, cLen_lst, cInt_int, cAbs_int, yNeg_int, cTuple_lst, cTuple_tup, yAdd_int, yMul_int, yEq_int, yEq_bl, yNe_int, yNe_bl, Bool.false_eq_true, if_false, if_true])
theorem cutL_map {α β : Type} {g : α → β} {xs : List α} {lo hi : Option Int} : cutL (xs.map g) lo hi = (cutL xs lo hi).map g := by
  unfold cutL; rw [List.length_map, List.map_take, List.map_drop]
theorem cutL_len {α : Type} {xs : List α} {lo hi : Option Int} : (cutL xs lo hi).length ≤ xs.length := by
  unfold cutL; rw [List.length_take, List.length_drop]; omega
theorem ySl_scr {ns : List Int} {lo hi : Option Int} {O : Oh} {k : DK} : ySl (.scr ns) lo hi O k ↔ k (.lst ((cutL ns lo hi).map D.int)) O := by
  unfold ySl; simp only [asQ, Option.some.injEq, exists_eq_left', cutL_map]
theorem fd_loop {e : EK} {E : DEnds} {O : Oh} {a0 a1 a2 : Option D} : ∀ (l : List Int) (s : Int) (x4 : Option D), 0 ≤ s → s < 2147483549 →
    (∀ s x4, 0 ≤ s → s < 2147483549 → E.nx [a0, a1, a2, some (.int s), x4] O) → forD (fun _ => e) (tgName 4) b1_law_feed (fun _ => True) E (l.map D.int) [a0, a1, a2, some (.int s), x4] O
  | [], s, x4, h0, h1, hk => by
    simp only [List.map_nil, forD, true_and]
    exact hk s x4 h0 h1
  | i :: l, s, x4, h0, h1, hk => by
    simp only [List.map_cons, forD, true_and]
    unfold b1_law_feed
    walk_at "dw"
    refine ⟨.inl ⟨by omega, by omega⟩, by decide, by decide, ?_⟩
    exact fd_loop l _ _ (Int.emod_nonneg _ (by decide)) (Int.emod_lt_of_pos _ (by decide)) hk
theorem law_law_feed : ∀ ds O kd e, y_law_feed ds O kd e → g_law_feed (fun _ => e) (startD N_law_feed ds) O { nx := fun _ O' => Fz kd .non O', rt := Fz kd } := by
  rintro ds O kd e ⟨ns, b, rfl, hn, hb0, hb1, hk⟩
  unfold g_law_feed
  walk_at "dw"
  rw [ySl_scr]
  have hcl := cutL_len (xs := ns) (lo := some b) (hi := some 58)
  refine lc_topT (fun _ => true) (fun d => match d with | .int i => .int (if i < 0 then -i else i) | _ => .non) ?_ ?_ ?_
  · rw [List.length_map]; exact sz1000 (by omega)
  · intro q hq0 d hd l2 k1 k0 hk1
    obtain ⟨r, hr, rfl⟩ := List.mem_map.mp hd
    walk_at "dw"
    exact hk1
  · intro q hq0
    simp only [odel_oupd hq0]
    have ef : (((cutL ns (some b) (some 58)).map D.int).filter fun _ => true).map (fun d => match d with | .int i => D.int (if i < 0 then -i else i) | _ => .non) = ((cutL ns (some b) (some 58)).map fun i => if i < 0 then -i else i).map D.int := by
      rw [List.filter_eq_self.mpr (fun _ _ => rfl), List.map_map, List.map_map]
      rfl
    rw [ef]
    have hrows : ∀ x ∈ (cutL ns (some b) (some 58)).map fun i => if i < 0 then -i else i, 0 ≤ x := by
      intro x hx
      obtain ⟨i, _, rfl⟩ := List.mem_map.mp hx
      split <;> omega
    have hrl : ((cutL ns (some b) (some 58)).map fun i => if i < 0 then -i else i).length ≤ 63 := by rw [List.length_map]; omega
    generalize ((cutL ns (some b) (some 58)).map fun i => if i < 0 then -i else i) = rows at hrows hrl
    refine ⟨.inl ⟨by decide, by decide⟩, ?_⟩
    refine fd_loop rows _ _ (by omega) (by omega) fun s x4 h0 h1 => ?_
    unfold gDispO
    intro p hp
    simp only [gPairs]
    walk_at "dw"
    refine lc_topT (fun d => match d with | .int i => decide (10 ^ 18 ≤ i) | _ => false) (fun d => d) ?_ ?_ ?_
    · rw [List.length_map]; exact sz1000 (by omega)
    · intro q hq0 d hd l2 k1 k0 hk1
      obtain ⟨r, hr, rfl⟩ := List.mem_map.mp hd
      walk_at "dw"
      unfold yPow
      walk_at "dw"
      exact ⟨⟨by decide, by decide, by decide⟩, hk1⟩
    · intro q hq0
      simp only [odel_oupd hq0]
      have ef2 : ((rows.map D.int).filter (fun d => match d with | .int i => decide (10 ^ 18 ≤ i) | _ => false)).map (fun d => d) = (rows.filter fun i => decide (10 ^ 18 ≤ i)).map D.int := by
        rw [List.map_id', List.filter_map]
        rfl
      rw [ef2]
      refine ⟨_, rfl, fun r hr => ?_⟩
      have hpr : p ≠ r := fun z => by subst z; rw [oupd_same] at hr; cases hr
      have hr0 : O r = none := by rw [oupd_ne (Ne.symm hpr)] at hr; exact hr
      rw [← List.map_reverse]
      refine ⟨by rw [oupd_ne hpr]; exact oupd_same, [(.inr "rows", .ref r), (.inr "seed", .int s)], rfl, (by show 2 ≤ 15; decide), fz ?_⟩
      rw [merge_two]
      refine hk p r _ hp hr0 ⟨hpr, _, s, oupd_same, by rw [oupd_ne (Ne.symm hpr)]; exact oupd_same, ?_, ?_, h0, h1⟩ fun a h1 h2 => by rw [oupd_ne h1, oupd_ne h2, oupd_ne h1]
      · rw [List.length_reverse]; have := List.length_filter_le (fun i => decide ((10 : Int) ^ 18 ≤ i)) rows; omega
      · intro x hx
        exact hrows x (List.mem_filter.mp (List.mem_reverse.mp hx)).1
/-- a comprehension whose test draws -/
theorem dr_loop {d r p : Addr} {kk : List D → Oh → Prop} {b1 b2 b3 b4 : Option D} (hdp : p ≠ d) (hrp : p ≠ r) :
    ∀ (l : List Nat) (acc : List Nat) (O : Oh), Feed O d r → O p = some (.lst (nats acc)) →
      (∀ (acc' : List Nat) O', acc'.length ≤ acc.length + l.length → Feed O' d r → (∀ a, a ≠ d → a ≠ r → a ≠ p → O' a = O a) → O' p = some (.lst (nats acc')) → kk (nats acc') O') →
      lcD (tgName 5) (gTest (gOp yEq (gCall y_law_take (gCons (gVar 0) (gCons (gC (.int 3)) gNil))) (gC (.int 0)))) (gVar 5) (fun _ => True) p kk [some (.ref d), b1, b2, b3, b4, none] (nats l) (nats acc) O
  | [], acc, O, hF, hp, hk => by
    simp only [List.map_nil, lcD, true_and]
    exact ⟨hp, hk acc O (Nat.le_refl _) hF (fun _ _ _ _ => rfl) hp⟩
  | n :: l, acc, O, hF, hp, hk => by
    simp only [List.map_cons, lcD, true_and]
    walk_at "dw"
    refine ⟨d, r, 3, rfl, hF, by decide, by decide, fun m O' hm hF' hK => ?_⟩
    walk_at "dw"
    have hp' : O' p = some (.lst (nats acc)) := by rw [hK p hdp hrp]; exact hp
    by_cases h0 : (m : Int) = 0
    · rw [if_pos (decide_eq_true h0)]
      refine ⟨hp', ?_⟩
      have ea : nats acc ++ [D.int n] = nats (acc ++ [n]) := by simp
      rw [ea]
      obtain ⟨hdr, rows, s, e1, e2, e3⟩ := hF'
      refine dr_loop hdp hrp l (acc ++ [n]) _ ⟨hdr, rows, s, by rw [oupd_ne (Ne.symm hdp)]; exact e1, by rw [oupd_ne (Ne.symm hrp)]; exact e2, e3⟩ oupd_same fun acc' O2 h1 h2 h3 h4 => ?_
      refine hk acc' O2 (by simp at h1 ⊢; omega) h2 (fun a x y z => ?_) h4
      rw [h3 a x y z, oupd_ne z, hK a x y]
    · rw [if_neg (by simpa using h0)]
      refine dr_loop hdp hrp l acc O' hF' hp' fun acc' O2 h1 h2 h3 h4 => ?_
      refine hk acc' O2 (by simp at h1 ⊢; omega) h2 (fun a x y z => ?_) h4
      rw [h3 a x y z, hK a x y]
theorem Feed.ne {O : Oh} {d r p : Addr} (h : Feed O d r) (hp : O p = none) : p ≠ d ∧ p ≠ r := by
  obtain ⟨_, rows, s, e1, e2, _⟩ := h
  refine ⟨?_, ?_⟩
  · rintro rfl; rw [hp] at e1; cases e1
  · rintro rfl; rw [hp] at e2; cases e2
theorem Feed.up {O : Oh} {d r p : Addr} {o : OD} (h : Feed O d r) (hd : p ≠ d) (hr : p ≠ r) : Feed (oupd O p o) d r := by
  obtain ⟨hdr, rows, s, e1, e2, e3⟩ := h
  exact ⟨hdr, rows, s, by rw [oupd_ne (Ne.symm hd)]; exact e1, by rw [oupd_ne (Ne.symm hr)]; exact e2, e3⟩
theorem Feed.del {O : Oh} {d r p : Addr} (h : Feed O d r) (hd : p ≠ d) (hr : p ≠ r) : Feed (odel O p) d r := by
  obtain ⟨hdr, rows, s, e1, e2, e3⟩ := h
  exact ⟨hdr, rows, s, by unfold odel; rw [if_neg (Ne.symm hd)]; exact e1, by unfold odel; rw [if_neg (Ne.symm hr)]; exact e2, e3⟩
/-- the whole comprehension -/
theorem dr_top {d r : Addr} {kk : Addr → List D → Oh → Prop} {b1 b2 b3 b4 : Option D} {O : Oh} {n : Nat} (hn : n ≤ 1000) (hF : Feed O d r)
    (hk : ∀ (acc : List Nat) p O1 O', O p = none → acc.length ≤ n → Feed O' d r → Keeps O O' d r → O' = odel O1 p → kk p (nats acc) O1) :
    (nats (List.range n)).length ≤ sizeLine ∧ ∀ p, O p = none → lcD (tgName 5) (gTest (gOp yEq (gCall y_law_take (gCons (gVar 0) (gCons (gC (.int 3)) gNil))) (gC (.int 0)))) (gVar 5) (fun _ => True) p (fun acc O' => kk p acc O') [some (.ref d), b1, b2, b3, b4, none] (nats (List.range n)) [] (oupd O p (.lst [])) := by
  refine ⟨by rw [List.length_map, List.length_range]; exact sz1000 (by omega), fun p hp => ?_⟩
  obtain ⟨h1, h2⟩ := hF.ne hp
  refine dr_loop h1 h2 (List.range n) [] _ (hF.up h1 h2) oupd_same fun acc' O' hl hF' hK hp' => ?_
  refine hk acc' p O' _ hp (by simpa using hl) (hF'.del h1 h2) (fun a x y => ?_) rfl
  unfold odel
  by_cases z : a = p
  · rw [if_pos z, z, hp]
  · rw [if_neg z, hK a x y z, oupd_ne z]
theorem Keeps.trans {O1 O2 O3 : Oh} {d r : Addr} (a : Keeps O1 O2 d r) (b : Keeps O2 O3 d r) : Keeps O1 O3 d r := fun x h1 h2 => (b x h1 h2).trans (a x h1 h2)
theorem law_law_drawn_told : ∀ ds O kd e, y_law_drawn_told ds O kd e → g_law_drawn_told (fun _ => e) (startD N_law_drawn_told ds) O { nx := fun _ O' => Fz kd .non O', rt := Fz kd } := by
  rintro ds O kd e ⟨d, r, rfl, hF, hk⟩
  unfold g_law_drawn_told
  walk_at "dw"
  refine ⟨d, r, 7, rfl, hF, by decide, by decide, fun tail O1 ht hF1 hK1 => ?_⟩
  refine ⟨d, r, 6, rfl, hF1, by decide, by decide, fun per O2 hp hF2 hK2 => ?_⟩
  have ep : (1 : Int) + (per : Nat) = ((1 + per : Nat) : Int) := by omega
  walk_at "dw"
  rw [ep]
  refine ⟨by decide, okI_nat (by omega), ?_⟩
  rw [rng_nats0]
  refine dr_top (by omega) hF2 fun some p O3 O3' hp3 hl3 hF3 hK3 e3 => ?_
  subst e3
  refine ⟨okI_nat (by omega), ?_⟩
  rw [rng_nats0]
  refine dr_top (by omega) hF3 fun rests p4 O4 O4' hp4 hl4 hF4 hK4 e4 => ?_
  subst e4
  refine ⟨d, r, 4, rfl, hF4, by decide, by decide, fun m O5 hm hF5 hK5 => ?_⟩
  walk_at "dw"
  have hK : Keeps O O5 d r := (((hK1.trans hK2).trans hK3).trans hK4).trans hK5
  by_cases h0 : (m : Int) = 0
  · rw [if_pos (decide_eq_true h0)]
    refine lc_topT (fun _ => true) (fun d => match d with | .int i => .int (i + ((1 + per : Nat) : Int)) | _ => .non) ?_ ?_ ?_
    · rw [List.length_map]; exact sz1000 (by omega)
    · intro q hq0 d hd l2 k1 k0 hk1
      obtain ⟨n, hn, rfl⟩ := List.mem_map.mp hd
      walk_at "dw"
      exact hk1
    · intro q hq0
      simp only [odel_oupd hq0]
      have ef : ((nats rests).filter fun _ => true).map (fun d => match d with | .int i => D.int (i + ((1 + per : Nat) : Int)) | _ => .non) = nats (rests.map (· + (1 + per))) := by
        rw [List.filter_eq_self.mpr (fun _ _ => rfl)]
        unfold nats
        rw [List.map_map, List.map_map]
        apply List.map_congr_left
        intro n _
        simp
      rw [ef]
      have e2 : (2 : Int) * ((1 + per : Nat) : Int) = ((2 * (1 + per) : Nat) : Int) := by omega
      have ea : nats rests ++ nats (rests.map (· + (1 + per))) = nats (rests ++ rests.map (· + (1 + per))) := by unfold nats; rw [List.map_append]
      rw [yAdd_lst]
      rw [e2, ea]
      refine ⟨?_, .inl ⟨by decide, by decide⟩, by decide, by decide, fz (hk some tail _ _ O5 (by omega) (by omega) (by omega) (by omega) ?_ hK)⟩
      · unfold nats; rw [List.length_map, List.length_map, List.length_map]; exact sz1000 (by omega)
      · rw [List.length_append, List.length_map]; omega
  · rw [if_neg (by simpa using h0)]
    exact ⟨by decide, fz (hk some tail _ _ O5 (by omega) (by omega) (by omega) (by omega) (by omega) hK)⟩
end DW

set_option Elab.async false
set_option linter.all false
set_option maxRecDepth 100000
set_option maxHeartbeats 4000000
namespace DW
open PySem L2
local macro_rules | `(tactic| walk_at "dw") => `(tactic| simp only [startD, List.map_cons, List.map_nil, List.length_cons, List.length_nil, List.replicate, List.cons_append, List.nil_append, Nat.reduceAdd, Nat.reduceSub,
  sSeq, sAsg, sRet, sIf, sNext, sDrop, sFor, sPar, sPar3, sAug, gVar, gC, gOp, gUn, gTest, gIf, gAnd, gOr, gNot, gAndV, gOrV, gNotV, gCons, gNil, gCB, gTup, gLst, gCall, gLc, gRng1, gRng2, gItQ, gSl, gPart, gNoPart, tgTup, tgCons, tgNil, tgName, gYes, wipeD, gBM, gBM0,
  List.getElem?_cons_zero, List.getElem?_cons_succ, List.getElem?_nil, List.set_cons_zero, List.set_cons_succ, List.set_nil,
  Option.some.injEq, exists_eq_left', exists_eq_left, exists_eq_right', exists_and_left, and_assoc, D.tup.injEq, D.lst.injEq, List.cons.injEq, yCmp, ySub, yMod, yDiv, D.int.injEq, D.bl.injEq, and_true, true_and,
  yIn_int_tup, yIn_int_lst, yIx_tup, yIx_lst, atI0, atI1, atI2, atI3, cLen_tup, cLen_lst, cInt_int, cAbs_int, yNeg_int, cTuple_lst, cTuple_tup, yAdd_int, yMul_int, yEq_int, yEq_bl, yNe_int, yNe_bl, Bool.false_eq_true, if_false, if_true])
/-- the table of f -/
abbrev tab (f : Nat → Bool) (L : Nat) : List D := (List.range L).map fun n => D.bl (f n)
theorem at_tab {f : Nat → Bool} {L n : Nat} (h : n < L) : atI (tab f L) ((n : Nat) : Int) = some (.bl (f n)) := by
  refine atI_nat ?_
  rw [List.getElem?_map, List.getElem?_range h]; rfl
theorem yIx_tab {f : Nat → Bool} {L n : Nat} {i : Int} {O : Oh} {k : DK} (e : i = ((n : Nat) : Int)) (h : n < L) (hk : k (.bl (f n)) O) : yIx (.lst (tab f L)) (.int i) O k := by
  subst e; exact yIx_lst.mpr ⟨_, at_tab h, hk⟩
/-- back to the least tail -/
theorem td_loop {e : EK} {E : DEnds} {O : Oh} {f : Nat → Bool} {L t d : Nat} {a1 a4 x5 : Option D} (hc : Can f t d) (hL : 30 + d ≤ L)
    (hk : E.nx [some (.lst (tab f L)), a1, some (.int d), some (.int t), a4, x5] O) :
    ∀ n : Nat, t ≤ n → n ≤ 30 → whD (fun _ => e) b1_law_told b2_law_told E (n + 1) [some (.lst (tab f L)), a1, some (.int d), some (.int n), a4, x5] O
  | 0, h1, h2 => by
    have e0 : t = 0 := by omega
    subst e0
    unfold whD b1_law_told
    walk_at "dw"
    rw [if_neg (by simp)]
    exact hk
  | n + 1, h1, h2 => by
    have ih := td_loop (e := e) hc hL hk n
    unfold whD b1_law_told
    walk_at "dw"
    rw [if_pos (decide_eq_true (by omega))]
    have e1 : ((n + 1 : Nat) : Int) - 1 = ((n : Nat) : Int) := by omega
    have e2 : ((n : Nat) : Int) + (d : Nat) = ((n + d : Nat) : Int) := by omega
    rw [e1, e2]
    refine ⟨_, at_tab (by omega), _, at_tab (by omega), ?_⟩
    rw [yEq_bl]
    refine ⟨_, rfl, ?_⟩
    by_cases h : t = n + 1
    · subst h
      rcases hc.ends with z | z
      · omega
      · have z : f (n + d) ≠ f n := z
        rw [if_neg (by rw [beq_iff_eq]; exact fun q => z q.symm)]
        exact hk
    · rw [if_pos (by rw [beq_iff_eq]; exact (hc.per n (by omega)).symm)]
      unfold b2_law_told
      walk_at "dw"
      rw [show ((n + 1 : Nat) : Int) - 1 = ((n : Nat) : Int) from by omega]
      exact ih (by omega) (by omega)
theorem td_for {e : EK} {E : DEnds} {O : Oh} {f : Nat → Bool} {L t d : Nat} (hc : Can f t d) (ht : t ≤ 30) (hd : d ≤ 14) (hL : 60 ≤ L) (hL2 : L ≤ 1000) (hk : E.rt (canT f t d) O) :
    ∀ (l : List Nat) (x2 x5 : Option D), d ∈ l → l.Pairwise (· < ·) → (∀ s ∈ l, 0 < s) → forD (fun _ => e) (tgName 2) b3_law_told (fun _ => True) E (nats l) [some (.lst (tab f L)), some (.int 30), x2, none, none, x5] O
  | [], _, _, h, _, _ => by cases h
  | s :: l, x2, x5, hm, hp, hpos => by
    have hs : 0 < s := hpos s (by simp)
    have hsd : s ≤ d := by
      rcases List.mem_cons.mp hm with h | h
      · omega
      · exact Nat.le_of_lt (List.rel_of_pairwise_cons hp h)
    simp only [List.map_cons, forD, true_and]
    unfold b3_law_told
    walk_at "dw"
    have el : (tab f L).length = L := by unfold tab; rw [List.length_map, List.length_range]
    rw [el, show ((L : Nat) : Int) - (s : Nat) = ((L - s : Nat) : Int) from by omega, show (30 : Int) = ((30 : Nat) : Int) from rfl, rng_nats]
    refine ⟨okI_nat (by decide), okI_nat (by omega), ?_⟩
    refine lc_topT (fun d => match d with | .int i => !(f i.toNat == f (i.toNat + s)) | _ => false) (fun _ => .int 1) ?_ ?_ ?_
    · unfold nats; rw [List.length_map, List.length_map, List.length_range]; exact sz1000 (by omega)
    · intro q hq0 dd hdd l2 k1 k0 hk1
      obtain ⟨n, hn, rfl⟩ := List.mem_map.mp hdd
      obtain ⟨i, hi, rfl⟩ := List.mem_map.mp hn
      have hi := List.mem_range.mp hi
      walk_at "dw"
      refine ⟨_, at_tab (by omega), _, (by rw [show ((30 + i : Nat) : Int) + (s : Nat) = ((30 + i + s : Nat) : Int) from by omega]; exact at_tab (by omega)), ?_⟩
      rw [yNe_bl]
      exact ⟨_, rfl, hk1⟩
    · intro q hq0
      simp only [odel_oupd hq0]
      refine ⟨by decide, (yEq_nil rfl ?_).mpr ⟨_, rfl, ?_⟩⟩
      · simp only [plain, List.all_eq_true]
        intro x hx
        obtain ⟨_, _, rfl⟩ := List.mem_map.mp hx
        rfl
      · rw [List.isEmpty_map]
        by_cases hsd2 : s = d
        · subst hsd2
          rw [if_pos]
          · refine ⟨31, td_loop hc (by omega) ?_ 30 ht (by decide)⟩
            walk_at "dw"
            refine ⟨okI_nat (by omega), ?_⟩
            rw [rng_nats0]
            refine lc_topT (fun d => match d with | .int i => f i.toNat | _ => false) (fun d => d) ?_ ?_ ?_
            · unfold nats; rw [List.length_map, List.length_range]; exact sz1000 (by omega)
            · intro q hq0 dd hdd l2 k1 k0 hk1
              obtain ⟨n, hn, rfl⟩ := List.mem_map.mp hdd
              have hn := List.mem_range.mp hn
              walk_at "dw"
              exact ⟨_, at_tab (by omega), _, rfl, hk1⟩
            · intro q hq0
              simp only [odel_oupd hq0]
              have e1 : ((nats (List.range t)).filter (fun d => match d with | .int i => f i.toNat | _ => false)).map (fun d => d) = nats (lows f t) := by
                rw [List.map_id']; unfold nats lows; rw [List.filter_map]; rfl
              rw [e1]
              refine ⟨okI_nat (by omega), ?_⟩
              rw [rng_nats0]
              refine lc_topT (fun d => match d with | .int i => f (t + i.toNat) | _ => false) (fun d => d) ?_ ?_ ?_
              · unfold nats; rw [List.length_map, List.length_range]; exact sz1000 (by omega)
              · intro q hq0 dd hdd l2 k1 k0 hk1
                obtain ⟨n, hn, rfl⟩ := List.mem_map.mp hdd
                have hn := List.mem_range.mp hn
                walk_at "dw"
                refine ⟨_, (by rw [show ((t : Nat) : Int) + (n : Nat) = ((t + n : Nat) : Int) from by omega]; exact at_tab (by omega)), _, rfl, hk1⟩
              · intro q hq0
                simp only [odel_oupd hq0]
                have e2 : ((nats (List.range s)).filter (fun d => match d with | .int i => f (t + i.toNat) | _ => false)).map (fun d => d) = nats (highs f t s) := by
                  rw [List.map_id']; unfold nats highs; rw [List.filter_map]; rfl
                rw [e2]
                exact ⟨by decide, hk⟩
          · rw [List.isEmpty_iff, List.filter_eq_nil_iff]
            intro dd hdd
            obtain ⟨n, hn, rfl⟩ := List.mem_map.mp hdd
            obtain ⟨i, hi, rfl⟩ := List.mem_map.mp hn
            have := hc.per (30 + i) (by omega)
            show ¬ (!(f ((30 + i : Nat) : Int).toNat == f (((30 + i : Nat) : Int).toNat + s))) = true
            rw [Int.toNat_natCast, this]
            simp
        · rw [if_neg]
          · refine td_for hc ht hd hL hL2 hk l _ _ ?_ (List.Pairwise.of_cons hp) fun x hx => hpos x (by simp [hx])
            rcases List.mem_cons.mp hm with h | h
            · exact absurd h.symm hsd2
            · exact h
          · rw [List.isEmpty_iff, List.filter_eq_nil_iff]
            intro hall
            have hper : Per f 30 d := Per.mono hc.per ht
            refine hc.low s hs (by omega) (Per.back (u := 30) (fun n hn => ?_) hc.per hc.pos)
            obtain ⟨m, rfl⟩ := Nat.exists_eq_add_of_le hn
            have hmd := Nat.mod_lt m hc.pos
            have hw := hall (.int ((30 + m % d : Nat) : Int)) (List.mem_map.mpr ⟨30 + m % d, List.mem_map.mpr ⟨m % d, List.mem_range.mpr (by omega), rfl⟩, rfl⟩)
            simp only [Int.toNat_natCast, Bool.not_eq_true, Bool.not_eq_false', beq_iff_eq] at hw
            have q1 := hper.mul (m / d) (30 + m % d) (by omega)
            have q2 := hper.mul (m / d) (30 + m % d + s) (by omega)
            have em := Nat.mod_add_div m d
            rw [Nat.mul_comm] at em
            rw [show 30 + m + s = 30 + m % d + s + m / d * d from by omega, q2, ← hw, ← q1]
            congr 1; omega
theorem law_law_told : ∀ ds O kd e, y_law_told ds O kd e → g_law_told (fun _ => e) (startD N_law_told ds) O { nx := fun _ O' => Fz kd .non O', rt := Fz kd } := by
  rintro ds O kd e ⟨f, t, d, L, rfl, hc, ht, hd, hL, hL2, hk⟩
  unfold g_law_told
  walk_at "dw"
  refine ⟨⟨by decide, by decide⟩, ⟨by decide, by decide⟩, ?_⟩
  rw [show (1 : Int) = ((1 : Nat) : Int) from rfl, show (30 : Int) = ((30 : Nat) : Int) from rfl, rng_nats]
  have hpos := hc.pos
  refine td_for hc ht hd hL hL2 (fz hk) _ _ _ ?_ ?_ ?_
  · exact List.mem_map.mpr ⟨d - 1, List.mem_range.mpr (by omega), by omega⟩
  · rw [List.pairwise_map]
    exact List.Pairwise.imp (fun h => by omega) List.pairwise_lt_range
  · intro s hs
    obtain ⟨i, _, rfl⟩ := List.mem_map.mp hs
    omega
end DW

set_option Elab.async false
set_option linter.all false
set_option maxRecDepth 100000
set_option maxHeartbeats 2000000
namespace DW
open PySem L2
theorem safeP_iff {f : Nat → Bool} {n : Nat} : safeP f n = true ↔ ∀ k, 1 ≤ k → f (n * k) = false := by
  unfold safeP
  exact @decide_eq_true_iff _ (Classical.propDecidable _)
theorem bool_iff {a b : Bool} (h : a = true ↔ b = true) : a = b := by
  cases a <;> cases b <;> simp_all
theorem per_to {f : Nat → Bool} {t d n : Nat} (hp : Per f t d) (hn : t ≤ n) : f n = f (t + (n - t) % d) := by
  have := Per.mul hp ((n - t) / d) (t + (n - t) % d) (by omega)
  rw [← this]
  congr 1
  have := Nat.mod_add_div (n - t) d
  rw [Nat.mul_comm] at this
  omega
theorem per_congr {f : Nat → Bool} {t d m n : Nat} (hd : 0 < d) (hp : Per f t d) (hm : t ≤ m) (hn : t ≤ n) (e : m % d = n % d) : f m = f n := by
  have key : ∀ a b : Nat, t ≤ a → a ≤ b → a % d = b % d → f a = f b := by
    intro a b ha hab e
    have h1 : b = a + (b - a) / d * d := by
      have := Nat.mod_add_div (b - a) d
      have h0 : (b - a) % d = 0 := by
        have := Nat.sub_mod_eq_zero_of_mod_eq e.symm
        exact this
      rw [h0, Nat.zero_add, Nat.mul_comm] at this
      omega
    rw [h1]
    exact (Per.mul hp _ a ha).symm
  rcases Nat.le_total m n with h | h
  · exact key m n hm h e
  · exact (key n m hn h e.symm).symm
theorem bezout (a b : Nat) : ∃ x y : Int, x * a + y * b = (Nat.gcd a b : Nat) := by
  induction a, b using Nat.gcd.induction with
  | H0 n => exact ⟨0, 1, by simp⟩
  | H1 m n hm ih =>
    obtain ⟨x, y, e⟩ := ih
    refine ⟨y - x * (n / m : Nat), x, ?_⟩
    rw [Nat.gcd_rec, ← e]
    have h : ((n % m : Nat) : Int) = n - m * (n / m : Nat) := by
      have := Nat.mod_add_div n m
      have h2 : ((n % m : Nat) : Int) + (m : Int) * ((n / m : Nat) : Int) = n := by exact_mod_cast this
      omega
    rw [h, Int.sub_mul, Int.mul_sub]
    have : x * (n / m : Nat) * m = x * (m * (n / m : Nat)) := by
      rw [Int.mul_assoc, Int.mul_comm ((n / m : Nat) : Int) m]
    rw [this]
    omega
/-- a multiple of b, great enough, of a class that b's multiples meet -/
theorem meets {b d t c : Nat} (hb : 0 < b) (hd : 0 < d) (h : c % Nat.gcd b d = 0) : ∃ k, 1 ≤ k ∧ t ≤ b * k ∧ (b * k) % d = c % d := by
  obtain ⟨x, y, e⟩ := bezout b d
  obtain ⟨q, hq⟩ := Nat.dvd_of_mod_eq_zero h
  have hk0 : 0 ≤ (x * q) % (d : Int) := Int.emod_nonneg _ (by omega)
  obtain ⟨k0, hk⟩ := Int.eq_ofNat_of_zero_le hk0
  refine ⟨k0 + d * (t + 1), ?_, ?_, ?_⟩
  · have : 1 * 1 ≤ d * (t + 1) := Nat.mul_le_mul hd (by omega)
    omega
  · have h1 : 1 * (t + 1) ≤ d * (t + 1) := Nat.mul_le_mul hd (Nat.le_refl _)
    have h2 : 1 * (k0 + d * (t + 1)) ≤ b * (k0 + d * (t + 1)) := Nat.mul_le_mul hb (Nat.le_refl _)
    omega
  · have g1 : (b * (k0 + d * (t + 1))) % d = (b * k0) % d := by
      rw [Nat.mul_add, show b * (d * (t + 1)) = d * (b * (t + 1)) by rw [← Nat.mul_assoc, Nat.mul_comm b d, Nat.mul_assoc], Nat.add_mul_mod_self_left]
    rw [g1]
    have g2 : ((b : Int) * k0) % d = (c : Int) % d := by
      have e1 : (c : Int) = (Nat.gcd b d : Nat) * q := by rw [hq]; push_cast; rfl
      have e2 : ((k0 : Nat) : Int) = (x * q) % d := hk.symm
      rw [e2]
      have e3 : (b : Int) * ((x * q) % d) % d = ((b : Int) * (x * q)) % d := by
        rw [Int.mul_emod, Int.emod_emod_of_dvd _ (Int.dvd_refl _), ← Int.mul_emod]
      rw [e3, e1, ← e]
      have e4 : (x * (b : Int) + y * d) * q = (b : Int) * (x * q) + (y * q) * d := by
        rw [Int.add_mul, Int.mul_right_comm y d q]
        congr 1
        rw [Int.mul_comm x b, Int.mul_assoc]
      rw [e4, Int.add_mul_emod_self_right]
    have g3 : (((b * k0) % d : Nat) : Int) = ((c % d : Nat) : Int) := by push_cast; exact g2
    exact_mod_cast g3
theorem far_iff {f : Nat → Bool} {t d b : Nat} (hc : Can f t d) (hb : 0 < b) : farB f t d b = true ↔ ∀ k, 1 ≤ k → t ≤ b * k → f (b * k) = false := by
  unfold farB
  rw [List.all_eq_true]
  constructor
  · intro h k hk ht
    cases q : f (b * k) with
    | false => rfl
    | true =>
      rw [per_to hc.per ht] at q
      have := h _ (mem_highs.mpr ⟨Nat.mod_lt _ hc.pos, q⟩)
      simp only [decide_eq_true_eq] at this
      have hg : Nat.gcd b d ∣ t + (b * k - t) % d := by
        have h1 : b * k = (t + (b * k - t) % d) + d * ((b * k - t) / d) := by
          have := Nat.mod_add_div (b * k - t) d
          omega
        have h2 : Nat.gcd b d ∣ b * k := Nat.dvd_trans (Nat.gcd_dvd_left b d) (Nat.dvd_mul_right b k)
        have h3 : Nat.gcd b d ∣ d * ((b * k - t) / d) := Nat.dvd_trans (Nat.gcd_dvd_right b d) (Nat.dvd_mul_right d _)
        rw [h1] at h2
        exact (Nat.dvd_add_iff_left h3).mpr h2
      have := Nat.mod_eq_zero_of_dvd hg
      omega
  · intro h r hr
    obtain ⟨h1, h2⟩ := mem_highs.mp hr
    simp only [decide_eq_true_eq]
    refine Nat.pos_of_ne_zero fun z => ?_
    obtain ⟨k, hk, hkt, e⟩ := meets (t := t) hb hc.pos z
    have := h k hk hkt
    rw [per_congr hc.pos hc.per hkt (Nat.le_add_right t r) e, h2] at this
    cases this
theorem safe_eq {f : Nat → Bool} {t d b : Nat} (hc : Can f t d) (hb : 0 < b) : safeP f b = (farB f t d b && !((List.range (rngN b t b)).any fun i => f (b + i * b))) := by
  apply bool_iff
  rw [safeP_iff, Bool.and_eq_true, far_iff hc hb, Bool.not_eq_true', List.any_eq_false]
  constructor
  · intro h
    refine ⟨fun k hk _ => h k hk, fun i hi => ?_⟩
    have := h (i + 1) (by omega)
    rw [Nat.mul_succ, Nat.mul_comm, Nat.add_comm] at this
    rw [this]
    decide
  · rintro ⟨h1, h2⟩ k hk
    by_cases ht : t ≤ b * k
    · exact h1 k hk ht
    · obtain ⟨i, rfl⟩ : ∃ i, k = i + 1 := ⟨k - 1, by omega⟩
      have e : b * (i + 1) = b + i * b := by rw [Nat.mul_succ, Nat.mul_comm, Nat.add_comm]
      have := h2 i (List.mem_range.mpr ((rngN_spec hb).mpr (by omega)))
      rw [e]
      simpa using this
theorem safe_far {f : Nat → Bool} {t d b : Nat} (hc : Can f t d) (hb : 0 < b) (ht : t ≤ b) : safeP f b = farB f t d b := by
  apply bool_iff
  rw [safeP_iff, far_iff hc hb]
  constructor
  · exact fun h k hk _ => h k hk
  · intro h k hk
    refine h k hk ?_
    have : b * 1 ≤ b * k := Nat.mul_le_mul (Nat.le_refl _) hk
    omega
theorem safe_some {f : Nat → Bool} {t d b M : Nat} (hc : Can f t d) (hb : 0 < b) (hM : t + d < M) : safeP f b = ((List.range (M - 1)).all fun i => !f (b * (1 + i))) := by
  apply bool_iff
  rw [safeP_iff, List.all_eq_true]
  constructor
  · intro h i _
    rw [h (1 + i) (by omega)]
    rfl
  · intro h k hk
    have h' : ∀ j, 1 ≤ j → j < M → f (b * j) = false := by
      intro j h1 h2
      have := h (j - 1) (List.mem_range.mpr (by omega))
      rw [show 1 + (j - 1) = j by omega] at this
      simpa using this
    by_cases hs : k < M
    · exact h' k hk hs
    · have hd := hc.pos
      have hlt := Nat.mod_lt (k - (t + 1)) hd
      have e : f (b * k) = f (b * (t + 1 + (k - (t + 1)) % d)) := by
        refine per_congr hd hc.per ?_ ?_ ?_
        · have : 1 * k ≤ b * k := Nat.mul_le_mul hb (Nat.le_refl _)
          omega
        · have : 1 * (t + 1 + (k - (t + 1)) % d) ≤ b * (t + 1 + (k - (t + 1)) % d) := Nat.mul_le_mul hb (Nat.le_refl _)
          omega
        · rw [Nat.mul_mod, Nat.mul_mod b (t + 1 + (k - (t + 1)) % d)]
          congr 2
          rw [Nat.add_mod (t + 1), Nat.mod_mod, ← Nat.add_mod]
          congr 1
          omega
      rw [e]
      exact h' _ (by omega) (by omega)
/-- the numbers that safe_rounds tells -/
theorem gS_eq {f : Nat → Bool} {t d T : Nat} (hc : Can f t d) (hT : T = max 2 t) :
    fOf (nats (((List.range (T - 2)).map (2 + ·)).filter (safeP f))) T d (nats ((List.range d).filter fun r => farB f t d (T + r))) = gS f := by
  funext n
  unfold gS
  by_cases h : n < T
  · rw [fOf_low h, inD_nats]
    apply bool_iff
    rw [decide_eq_true_iff, List.mem_filter, Bool.and_eq_true, decide_eq_true_iff]
    constructor
    · rintro ⟨h1, h2⟩
      obtain ⟨i, _, rfl⟩ := List.mem_map.mp h1
      exact ⟨by omega, h2⟩
    · rintro ⟨h1, h2⟩
      exact ⟨List.mem_map.mpr ⟨n - 2, List.mem_range.mpr (by omega), by omega⟩, h2⟩
  · obtain ⟨m, rfl⟩ := Nat.exists_eq_add_of_le (Nat.le_of_not_lt h)
    have h2 : decide (2 ≤ T + m) = true := decide_eq_true (by omega)
    rw [fOf_high, inD_nats, h2, Bool.true_and, safe_far hc (by omega) (by omega)]
    have e : farB f t d (T + m % d) = farB f t d (T + m) := by
      unfold farB
      have : Nat.gcd (T + m % d) d = Nat.gcd (T + m) d := by
        rw [Nat.gcd_comm, Nat.gcd_rec, Nat.gcd_comm (T + m), Nat.gcd_rec d (T + m)]
        congr 1
        rw [Nat.add_mod, Nat.mod_mod, ← Nat.add_mod]
      rw [this]
    apply bool_iff
    rw [decide_eq_true_iff, List.mem_filter, e, List.mem_range]
    exact ⟨fun z => z.2, fun z => ⟨Nat.mod_lt _ hc.pos, z⟩⟩
theorem first_of {g : Nat → Bool} {t d : Nat} (hc : Can g t d) : ∃ r, First g r ∧ (∀ m, r = some m → m < t + d) ∧ firstD g t d = optD r := by
  unfold firstD
  cases q : (lows g t).head? with
  | some n =>
    unfold lows at q
    rw [List.head?_filter, List.find?_range_eq_some] at q
    obtain ⟨h1, h2, h3⟩ := q
    refine ⟨some n, ⟨h1, fun m hm => by simpa using h3 m hm⟩, fun m e => ?_, rfl⟩
    cases e
    have := List.mem_range.mp h2
    omega
  | none =>
    have hlo : ∀ n, n < t → g n = false := by
      intro n hn
      unfold lows at q
      rw [List.head?_filter, List.find?_range_eq_none] at q
      simpa using q n hn
    simp only
    cases q2 : (highs g t d).head? with
    | some r =>
      unfold highs at q2
      rw [List.head?_filter, List.find?_range_eq_some] at q2
      obtain ⟨h1, h2, h3⟩ := q2
      refine ⟨some (t + r), ⟨h1, fun m hm => ?_⟩, fun m e => ?_, rfl⟩
      · by_cases hmt : m < t
        · exact hlo m hmt
        · have := h3 (m - t) (by omega)
          rw [show t + (m - t) = m by omega] at this
          simpa using this
      · cases e
        have := List.mem_range.mp h2
        omega
    | none =>
      refine ⟨none, fun n => ?_, (fun m e => by cases e), rfl⟩
      by_cases hn : n < t
      · exact hlo n hn
      · unfold highs at q2
        rw [List.head?_filter, List.find?_range_eq_none] at q2
        rw [per_to hc.per (Nat.le_of_not_lt hn)]
        simpa using q2 _ (Nat.mod_lt (n - t) hc.pos)
theorem first_unique {g : Nat → Bool} : ∀ {r s : Option Nat}, First g r → First g s → r = s
  | none, none, _, _ => rfl
  | none, some m, h, k => by have := h m; rw [k.1] at this; cases this
  | some m, none, h, k => by have := k m; rw [h.1] at this; cases this
  | some m, some n, h, k => by
    rcases Nat.lt_trichotomy m n with z | z | z
    · have := k.2 m z; rw [h.1] at this; cases this
    · rw [z]
    · have := h.2 n z; rw [k.1] at this; cases this
/-- there is no safe round just where the numbers meet the far multiples of the period -/
theorem none_iff {f : Nat → Bool} {t d : Nat} {r : Option Nat} (hc : Can f t d) (hr : First (gS f) r) : decide (r = none) = f (d * (t + 1)) := by
  have hd := hc.pos
  have big : ∀ k, 1 ≤ k → t ≤ d * (t + 1) * k := by
    intro k hk
    have h1 : 1 * (t + 1) ≤ d * (t + 1) := Nat.mul_le_mul hd (Nat.le_refl _)
    have h2 : d * (t + 1) * 1 ≤ d * (t + 1) * k := Nat.mul_le_mul (Nat.le_refl _) hk
    omega
  have all : ∀ k, 1 ≤ k → f (d * (t + 1) * k) = f (d * (t + 1)) := by
    intro k hk
    refine per_congr hd hc.per (big k hk) (by have := big 1 (by omega); omega) ?_
    rw [Nat.mul_assoc, Nat.mul_mod_right, Nat.mul_mod_right]
  apply bool_iff
  rw [decide_eq_true_iff]
  constructor
  · rintro rfl
    cases q : f (d * (t + 1)) with
    | true => rfl
    | false =>
      have := hr (2 * (d * (t + 1)))
      unfold gS at this
      have h1 : 1 * 1 ≤ d * (t + 1) := Nat.mul_le_mul hd (by omega)
      have h2 : safeP f (2 * (d * (t + 1))) = true := by
        rw [safeP_iff]
        intro k hk
        rw [Nat.mul_comm 2, Nat.mul_assoc, all (2 * k) (by omega)]
        exact q
      rw [h2, decide_eq_true (by omega)] at this
      cases this
  · intro q
    cases r with
    | none => rfl
    | some m =>
      have h1 := hr.1
      unfold gS at h1
      rw [Bool.and_eq_true, decide_eq_true_iff, safeP_iff] at h1
      have := h1.2 (d * (t + 1)) (by have : 1 * 1 ≤ d * (t + 1) := Nat.mul_le_mul hd (by omega)
                                     omega)
      rw [Nat.mul_comm, all m (by omega), q] at this
      cases this
end DW

set_option Elab.async false
set_option linter.all false
set_option maxRecDepth 100000
set_option maxHeartbeats 4000000
namespace DW
open PySem L2
local macro_rules | `(tactic| walk_at "dw") => `(tactic| simp only [startD, List.map_cons, List.map_nil, List.length_cons, List.length_nil, List.replicate, List.cons_append, List.nil_append, Nat.reduceAdd, Nat.reduceSub,
  sSeq, sAsg, sRet, sIf, sNext, sDrop, sFor, sPar, sPar3, sAug, gVar, gC, gOp, gUn, gTest, gIf, gAnd, gOr, gNot, gAndV, gOrV, gNotV, gCons, gNil, gCB, gTup, gLst, gCall, gLc, gRng1, gRng2, gRng3, gItQ, gItT, gSl, gPart, gNoPart, tgTup, tgCons, tgNil, tgName, gYes, wipeD, gBM, gBM0,
  List.getElem?_cons_zero, List.getElem?_cons_succ, List.getElem?_nil, List.set_cons_zero, List.set_cons_succ, List.set_nil,
  Option.some.injEq, exists_eq_left', exists_eq_left, exists_eq_right', exists_and_left, and_assoc, D.tup.injEq, D.lst.injEq, List.cons.injEq, yCmp, ySub, yMod, yDiv, D.int.injEq, D.bl.injEq, and_true, true_and,
  yIn_int_tup, yIn_int_lst, yIx_tup, yIx_lst, atI0, atI1, atI2, atI3, cLen_tup, cLen_lst, cInt_int, cAbs_int, yNeg_int, cTuple_lst, cTuple_tup, yAdd_int, yMul_int, yEq_int, yEq_bl, yNe_int, yNe_bl, Bool.false_eq_true, if_false, if_true])
theorem plain_nats {n : Nat} {l : List Nat} : plain (n + 1) (.tup (nats l)) = true := by simp [plain]
theorem plain_natsL {n : Nat} {l : List Nat} : plain (n + 1) (.lst (nats l)) = true := by simp [plain]
theorem plain_canT {f : Nat → Bool} {t d n : Nat} : plain (n + 2) (canT f t d) = true := by
  unfold canT; simp [plain]
theorem log2_le (n : Nat) : n.log2 ≤ n := by
  by_cases h : n = 0
  · subst h; decide
  · exact Nat.le_of_lt ((Nat.log2_lt h).mpr Nat.lt_two_pow_self)
theorem show_nats {n : Nat} {l : List Nat} (h : ∀ x ∈ l, x < 1900) : showN (n + 1) (.tup (nats l)) = true := by
  simp only [showN, List.all_eq_true]
  intro x hx
  obtain ⟨m, hm, rfl⟩ := List.mem_map.mp hx
  simp only [showN, decide_eq_true_eq, Int.natAbs_natCast]
  have := log2_le m
  have := h m hm
  omega
theorem lows_lt {f : Nat → Bool} {t : Nat} : ∀ x ∈ lows f t, x < t := fun x hx => (mem_lows.mp hx).1
theorem highs_lt {f : Nat → Bool} {t d : Nat} : ∀ x ∈ highs f t d, x < d := fun x hx => (mem_highs.mp hx).1
theorem show_canT {f : Nat → Bool} {t d : Nat} (ht : t ≤ 1000) (hd : d ≤ 1000) : showN 60 (canT f t d) = true := by
  have a := show_nats (n := 58) (l := lows f t) fun x hx => by have := lows_lt x hx; omega
  have b := show_nats (n := 58) (l := highs f t d) fun x hx => by have := highs_lt x hx; omega
  have l1 := log2_le t
  have l2 := log2_le d
  unfold canT
  show ([D.tup (nats (lows f t)), D.int t, D.int d, D.tup (nats (highs f t d))].all (showN 59)) = true
  have c1 : showN 59 (.int (t : Nat)) = true := by simp only [showN, decide_eq_true_eq, Int.natAbs_natCast]; omega
  have c2 : showN 59 (.int (d : Nat)) = true := by simp only [showN, decide_eq_true_eq, Int.natAbs_natCast]; omega
  rw [List.all_cons, List.all_cons, List.all_cons, List.all_cons, List.all_nil, a, b, c1, c2]
  rfl
theorem wides_nats : ∀ {l : List Nat}, (∀ x ∈ l, x < 1000) → wides (nats l) ≤ 1005 * l.length
  | [], _ => by simp [wides]
  | n :: l, h => by
    have ih := wides_nats (l := l) fun x hx => h x (by simp [hx])
    have := log2_le n
    have := h n (by simp)
    unfold nats at ih ⊢
    simp only [List.map_cons, wides, wide, Int.natAbs_natCast, List.length_cons]
    omega
theorem wide_canT {f : Nat → Bool} {t d : Nat} (ht : t ≤ 900) (hd : d ≤ 900) : wide (canT f t d) ≤ sizeLine := by
  have a := wides_nats (l := lows f t) fun x hx => by have := lows_lt x hx; omega
  have b := wides_nats (l := highs f t d) fun x hx => by have := highs_lt x hx; omega
  have a2 := lows_len (f := f) (t := t)
  have b2 := highs_len (f := f) (t := t) (d := d)
  have l1 := log2_le t
  have l2 := log2_le d
  have : sizeLine = 16777216 := by decide
  unfold canT
  simp only [wide, wides, Int.natAbs_natCast]
  omega
theorem cRepr_can {f : Nat → Bool} {t d : Nat} {O : Oh} {k : DK} (ht : t ≤ 900) (hd : d ≤ 900) (hk : k (.str (reprD (canT f t d))) O) : cRepr [canT f t d] O k :=
  ⟨_, rfl, rfl, plain_canT, show_canT (by omega) (by omega), wide_canT ht hd, hk⟩
theorem yNe_same {x : D} {O : Oh} {k : DK} (hr : res O x = x) (hp : plain 64 x = true) (hk : k (.bl false) O) : yNe x x O k := by
  refine ⟨by rw [hr]; exact hp, by rw [hr]; exact hp, ?_⟩
  rw [hr, eqD_refl 64 x hp]
  exact hk
theorem yEq_same {x : D} {O : Oh} {k : DK} (hr : res O x = x) (hp : plain 64 x = true) (hk : k (.bl true) O) : yEq x x O k := by
  refine ⟨by rw [hr]; exact hp, by rw [hr]; exact hp, ?_⟩
  rw [hr, eqD_refl 64 x hp]
  exact hk
theorem fOf_more {some : List Nat} {tail period : Nat} {rests : List D} (ht : tail ≤ 99) : fOf (nats some ++ [.int 99]) tail period rests = fOf (nats some) tail period rests := by
  funext n
  unfold fOf
  split
  · unfold inD
    rw [List.any_append]
    have : (([D.int 99] : List D).any fun y => eqD y (.int (n : Nat))) = false := by
      simp only [List.any_cons, List.any_nil, Bool.or_false, eqD_int, decide_eq_false_iff_not]
      omega
    rw [this, Bool.or_false]
  · rfl
theorem yIx_can0 {f : Nat → Bool} {t d : Nat} {O : Oh} {k : DK} : yIx (canT f t d) (.int 0) O k ↔ k (.tup (nats (lows f t))) O := by unfold canT; simp [yIx_tup, atI0]
theorem yIx_can1 {f : Nat → Bool} {t d : Nat} {O : Oh} {k : DK} : yIx (canT f t d) (.int 1) O k ↔ k (.int t) O := by unfold canT; simp [yIx_tup, atI1]
theorem yIx_can2 {f : Nat → Bool} {t d : Nat} {O : Oh} {k : DK} : yIx (canT f t d) (.int 2) O k ↔ k (.int d) O := by unfold canT; simp [yIx_tup, atI2]
theorem yIx_can3 {f : Nat → Bool} {t d : Nat} {O : Oh} {k : DK} : yIx (canT f t d) (.int 3) O k ↔ k (.tup (nats (highs f t d))) O := by unfold canT; simp [yIx_tup, atI3]
theorem yEq_tup0 {l : List Nat} {O : Oh} {k : DK} : yEq (.tup (nats l)) (.tup []) O k ↔ k (.bl l.isEmpty) O := by
  unfold yEq
  cases l <;> simp [res, plain, eqD, eqDs]
/-- beyond the tail nothing, where no rest is told -/
theorem all_low {f : Nat → Bool} {t d L : Nat} (hc : Can f t d) (hL : t ≤ L) (hh : highs f t d = []) : (List.range L).filter f = lows f t := by
  unfold lows
  obtain ⟨m, rfl⟩ := Nat.exists_eq_add_of_le hL
  rw [List.range_add, List.filter_append]
  have : ((List.range m).map (t + ·)).filter f = [] := by
    rw [List.filter_eq_nil_iff]
    intro x hx
    obtain ⟨i, _, rfl⟩ := List.mem_map.mp hx
    intro hf
    have e : f (t + i) = f (t + i % d) := by
      have := Per.mul (f := f) hc.per (i / d) (t + i % d) (by omega)
      rw [← this]
      congr 1
      have := Nat.mod_add_div i d
      rw [Nat.mul_comm] at this
      omega
    rw [e] at hf
    have : i % d ∈ highs f t d := mem_highs.mpr ⟨Nat.mod_lt _ hc.pos, hf⟩
    rw [hh] at this
    cases this
  rw [this, List.append_nil]
theorem dv_loop {O : Oh} {e : EK} {E : DEnds} : ∀ (n a b : Nat), b ≤ n → E.nx [some (.int (Nat.gcd a b : Nat)), some (.int 0)] O → whD (fun _ => e) b1_divisor b2_divisor E (n + 1) [some (.int a), some (.int b)] O
  | n, a, b, hb, hk => by
    unfold whD b1_divisor
    walk_at "dw"
    by_cases h : b = 0
    · subst h
      rw [if_neg (by simp)]
      rw [Nat.gcd_zero_right] at hk
      exact hk
    · rw [if_pos (decide_eq_true (by omega))]
      unfold b2_divisor
      walk_at "dw"
      refine ⟨by omega, ?_⟩
      obtain ⟨m, rfl⟩ : ∃ m, n = m + 1 := ⟨n - 1, by omega⟩
      have hlt := Nat.mod_lt a (Nat.pos_of_ne_zero h)
      have ih := dv_loop (e := e) (O := O) (E := E) m b (a % b) (by omega) (by rw [Nat.gcd_comm, ← Nat.gcd_rec, Nat.gcd_comm]; exact hk)
      rw [show (a : Int) % (b : Int) = ((a % b : Nat) : Int) by simp]
      exact ih
theorem law_divisor : ∀ ds O kd e, y_divisor ds O kd e → g_divisor (fun _ => e) (startD N_divisor ds) O { nx := fun _ O' => Fz kd .non O', rt := Fz kd } := by
  rintro ds O kd e ⟨a, b, rfl, hk⟩
  unfold g_divisor
  walk_at "dw"
  refine ⟨b + 1, dv_loop b a b (Nat.le_refl b) ⟨_, rfl, fz hk⟩⟩
theorem law_is_far_safe : ∀ ds O kd e, y_is_far_safe ds O kd e → g_is_far_safe (fun _ => e) (startD N_is_far_safe ds) O { nx := fun _ O' => Fz kd .non O', rt := Fz kd } := by
  rintro ds O kd e ⟨f, t, d, b, rfl, hd, ht, hd2, hk⟩
  unfold g_is_far_safe canT
  walk_at "dw"
  refine ⟨b, d, rfl, ?_⟩
  have hg : 0 < Nat.gcd b d := Nat.gcd_pos_of_pos_right b hd
  refine lc_topT (fun _ => true) (fun x => match x with | .int r => .bl (decide (0 < (t + r) % (Nat.gcd b d : Nat))) | _ => .non) ?_ ?_ ?_
  · rw [List.length_map]; exact sz1000 (by have := highs_len (f := f) (t := t) (d := d); omega)
  · intro q hq0 x hx l2 k1 k0 hk1
    obtain ⟨r, hr, rfl⟩ := List.mem_map.mp hx
    walk_at "dw"
    exact ⟨by omega, hk1⟩
  · intro q hq0
    simp only [odel_oupd hq0]
    have ef : ((nats (highs f t d)).filter fun _ => true).map (fun x => match x with | .int r => D.bl (decide (0 < (t + r) % (Nat.gcd b d : Nat))) | _ => .non)
        = ((highs f t d).map fun r => decide (0 < (t + r) % Nat.gcd b d)).map D.bl := by
      rw [List.filter_eq_self.mpr (fun _ _ => rfl), List.map_map, List.map_map]
      apply List.map_congr_left
      intro r _
      simp only [Function.comp]
      congr 1
      apply decide_eq_decide.mpr
      rw [← Int.natCast_add, ← Int.natCast_emod]
      omega
    rw [ef]
    refine cAll_lst (fz ?_)
    unfold farB at hk
    rw [List.all_map]
    exact hk
theorem law_is_safe_round : ∀ ds O kd e, y_is_safe_round ds O kd e → g_is_safe_round (fun _ => e) (startD N_is_safe_round ds) O { nx := fun _ O' => Fz kd .non O', rt := Fz kd } := by
  rintro ds O kd e ⟨f, t, d, b, rfl, hc, ht, hd2, hb, hb2, hk⟩
  unfold g_is_safe_round
  walk_at "dw"
  refine ⟨f, t, d, b, rfl, hc.pos, by omega, by omega, ?_⟩
  rw [safe_eq hc hb] at hk
  refine ⟨_, rfl, ?_⟩
  cases q : farB f t d b with
  | false =>
    rw [q] at hk
    rw [if_neg (by decide)]
    exact fz hk
  | true =>
    rw [q, Bool.true_and] at hk
    rw [if_pos rfl]
    rw [yIx_can1]
    refine ⟨_, rfl, _, rgC_up hb (by omega) (by omega) (by omega), ?_⟩
    refine lc_topT (fun _ => true) (fun x => match x with | .int n => .bl (f n.toNat) | _ => .non) ?_ ?_ ?_
    · rw [rngC_length]
      refine sz1000 ?_
      unfold rngN
      have := Nat.div_le_self (t - b - 1) b
      split <;> omega
    · intro q hq0 x hx l2 k1 k0 hk1
      obtain ⟨i, hi, rfl⟩ := List.mem_map.mp hx
      walk_at "dw"
      have en : (b : Int) + (i : Nat) * (b : Int) = ((b + i * b : Nat) : Int) := by push_cast; rfl
      rw [en] at hk1 ⊢
      refine ⟨f, t, d, b + i * b, rfl, hc.pos, by omega, by omega, ?_⟩
      rw [fOf_can hc.pos hc.per]
      exact hk1
    · intro q hq0
      simp only [odel_oupd hq0]
      have ef : ((rngC b b (rngN b t b)).filter fun _ => true).map (fun x => match x with | .int n => D.bl (f n.toNat) | _ => .non) = ((List.range (rngN b t b)).map fun i => f (b + i * b)).map D.bl := by
        rw [List.filter_eq_self.mpr (fun _ _ => rfl)]
        unfold rngC
        rw [List.map_map, List.map_map]
        apply List.map_congr_left
        intro i _
        simp only [Function.comp]
        congr 2
      rw [ef]
      refine cAny_lst ?_
      rw [List.any_map]
      refine ⟨_, rfl, fz ?_⟩
      exact hk
theorem law_safe_rounds : ∀ ds O kd e, y_safe_rounds ds O kd e → g_safe_rounds (fun _ => e) (startD N_safe_rounds ds) O { nx := fun _ O' => Fz kd .non O', rt := Fz kd } := by
  rintro ds O kd e ⟨f, t, d, rfl, hc, ht, hd2, hk⟩
  unfold g_safe_rounds
  walk_at "dw"
  rw [yIx_can1]
  refine ⟨2, t, rfl, _, rfl, ?_⟩
  have eT : (if (t : Int) > 2 then (t : Int) else 2) = ((max 2 t : Nat) : Int) := by split <;> omega
  rw [eT]
  generalize hT : max 2 t = T
  refine ⟨⟨by decide, by decide⟩, okI_nat (by omega), ?_⟩
  rw [show rngD 2 (T : Int) = nats ((List.range (T - 2)).map (2 + ·)) from rng_nats 2 T]
  refine lc_topT (fun x => match x with | .int n => safeP f n.toNat | _ => false) (fun x => x) ?_ ?_ ?_
  · rw [List.length_map, List.length_map, List.length_range]; exact sz1000 (by omega)
  · intro q hq0 x hx l2 k1 k0 hk1
    obtain ⟨n, hn, rfl⟩ := List.mem_map.mp hx
    obtain ⟨i, hi, rfl⟩ := List.mem_map.mp hn
    have := List.mem_range.mp hi
    walk_at "dw"
    exact ⟨f, t, d, 2 + i, rfl, hc, by omega, by omega, by omega, by omega, _, rfl, hk1⟩
  intro q hq0
  simp only [odel_oupd hq0]
  have e1 : ((nats ((List.range (T - 2)).map (2 + ·))).filter (fun x => match x with | .int n => safeP f n.toNat | _ => false)).map (fun x => x) = nats (((List.range (T - 2)).map (2 + ·)).filter (safeP f)) := by
    rw [List.map_id']
    unfold nats
    rw [List.filter_map]
    rfl
  rw [e1]
  simp only [yIx_can2, D.int.injEq, exists_eq_left']
  refine ⟨okI_nat (by omega), ?_⟩
  rw [rng_nats0]
  refine lc_topT (fun x => match x with | .int n => farB f t d (T + n.toNat) | _ => false) (fun x => x) ?_ ?_ ?_
  · rw [List.length_map, List.length_range]; exact sz1000 (by omega)
  · intro q hq0 x hx l2 k1 k0 hk1
    obtain ⟨n, hn, rfl⟩ := List.mem_map.mp hx
    walk_at "dw"
    exact ⟨f, t, d, T + n, by push_cast; rfl, hc.pos, by omega, by omega, _, rfl, hk1⟩
  intro q hq0
  simp only [odel_oupd hq0]
  have e2 : ((nats (List.range d)).filter (fun x => match x with | .int n => farB f t d (T + n.toNat) | _ => false)).map (fun x => x) = nats ((List.range d).filter fun r => farB f t d (T + r)) := by
    rw [List.map_id']
    unfold nats
    rw [List.filter_map]
    rfl
  rw [e2]
  refine ⟨_, _, T, d, _, _, rfl, rfl, rfl, flat_nats _, flat_nats _, by omega, hc.pos, by omega, fun t2 d2 hc2 h1 h2 => ?_⟩
  rw [gS_eq hc hT.symm] at hc2 ⊢
  exact fz (hk t2 d2 hc2 (by rw [hT]; exact h1) h2)
theorem law_first_told : ∀ ds O kd e, y_first_told ds O kd e → g_first_told (fun _ => e) (startD N_first_told ds) O { nx := fun _ O' => Fz kd .non O', rt := Fz kd } := by
  rintro ds O kd e ⟨f, t, d, rfl, ht, hd2, hk⟩
  unfold g_first_told canT
  walk_at "dw"
  unfold firstD at hk
  cases h1 : lows f t with
  | cons n l =>
    rw [h1] at hk
    rw [if_pos (by simp)]
    simp only [List.map_cons, atI0, Option.some.injEq, exists_eq_left']
    exact fz hk
  | nil =>
    rw [h1] at hk
    rw [if_neg (by simp)]
    simp only [List.head?_nil] at hk
    cases h2 : highs f t d with
    | cons n l =>
      rw [h2] at hk
      rw [if_pos (by simp)]
      simp only [List.map_cons, atI0, Option.some.injEq, exists_eq_left', yAdd_int]
      exact fz (by simpa using hk)
    | nil =>
      rw [h2] at hk
      rw [if_neg (by simp)]
      exact fz hk
theorem law_least_round : ∀ ds O kd e, y_least_round ds O kd e → g_least_round (fun _ => e) (startD N_least_round ds) O { nx := fun _ O' => Fz kd .non O', rt := Fz kd } := by
  rintro ds O kd e ⟨f, t, d, rfl, hc, ht, hd2, hk⟩
  unfold g_least_round
  walk_at "dw"
  refine ⟨f, t, d, rfl, hc, ht, hd2, fun t2 d2 hc2 h1 h2 => ?_⟩
  refine ⟨gS f, t2, d2, rfl, by omega, by omega, ?_⟩
  obtain ⟨r, hr, hm, er⟩ := first_of hc2
  rw [er]
  exact fz (hk r hr fun m e => by have := hm m e; omega)
end DW

set_option Elab.async false
set_option linter.all false
set_option maxRecDepth 100000
set_option maxHeartbeats 4000000
namespace DW
open PySem L2
local macro_rules | `(tactic| walk_at "dw") => `(tactic| simp only [startD, List.map_cons, List.map_nil, List.length_cons, List.length_nil, List.replicate, List.cons_append, List.nil_append, Nat.reduceAdd, Nat.reduceSub,
  sSeq, sAsg, sRet, sIf, sNext, sDrop, sFor, sPar, sPar3, sAug, gVar, gC, gOp, gUn, gTest, gIf, gAnd, gOr, gNot, gAndV, gOrV, gNotV, gCons, gNil, gCB, gTup, gLst, gLstO, gCall, gLc, gRng1, gRng2, gRng3, gItQ, gItT, gSl, gPart, gNoPart, tgTup, tgCons, tgNil, tgName, gYes, wipeD, gBM, gBM0,
  List.getElem?_cons_zero, List.getElem?_cons_succ, List.getElem?_nil, List.set_cons_zero, List.set_cons_succ, List.set_nil,
  Option.some.injEq, exists_eq_left', exists_eq_left, exists_eq_right', exists_and_left, and_assoc, D.tup.injEq, D.lst.injEq, List.cons.injEq, yCmp, ySub, yMod, yDiv, D.int.injEq, D.bl.injEq, and_true, true_and,
  yIn_int_tup, yIn_int_lst, yIx_tup, yIx_lst, atI0, atI1, atI2, atI3, cLen_tup, cLen_lst, cInt_int, cAbs_int, yNeg_int, cTuple_lst, cTuple_tup, yAdd_int, yMul_int, yEq_int, yEq_bl, yNe_int, yNe_bl, Bool.false_eq_true, if_false, if_true])
theorem cmul_small {i j : Nat} (h : i < 1000000) : CMul (i : Int) j := .inl ⟨by omega, by omega⟩
theorem tab_succ {g : Nat → Bool} {i : Nat} : tab g (i + 1) = tab g i ++ [D.bl (g i)] := by
  unfold tab; rw [List.range_succ, List.map_append]; rfl
theorem tab_len {g : Nat → Bool} {i : Nat} : (tab g i).length = i := by unfold tab; rw [List.length_map, List.length_range]
theorem tab_last {g : Nat → Bool} {i : Nat} : atI (tab g (i + 1)) (-1) = some (D.bl (g i)) := by
  rw [tab_succ, atI_m1 (by simp), List.getLast?_append]; rfl
/-- what the law holds for a round that is tried -/
noncomputable abbrev sF (f : Nat → Bool) : Nat → Bool := fun n => safeP f (n + 1)
section
variable {f : Nat → Bool} {some : List Nat} {tail period : Nat} {rests : List Nat} {t d : Nat} {e : EK} {E : DEnds} {p : Addr} {s0 s1 x7 x8 x9 x10 x11 : Option D}
theorem in_loop (hf : fOf (nats some) tail period (nats rests) = f) (hp : 0 < period) (hc : Can f t d) (ht : t ≤ 6) (hd : d ≤ 12) :
    ∀ (m i : Nat) (O : Oh) (x5 x6 : Option D), i + m = 60 → O p = Option.some (.lst (tab (sF f) i)) → (∀ O' x5 x6, O' p = Option.some (.lst (tab (sF f) 60)) → E.nx [s0, s1, Option.some (told4 some tail period rests), Option.some (canT f t d), Option.some (.ref p), x5, x6, x7, x8, x9, x10, x11] O') →
      forD (fun _ => e) (tgName 5) b1_law (fun _ => True) E (nats (List.range' (i + 1) m)) [s0, s1, Option.some (told4 some tail period rests), Option.some (canT f t d), Option.some (.ref p), x5, x6, x7, x8, x9, x10, x11] O
  | 0, i, O, x5, x6, hi, hO, hk => by
    obtain rfl : i = 60 := by omega
    simp only [List.range'_zero, List.map_nil, forD, true_and]
    exact hk _ _ _ hO
  | m + 1, i, O, x5, x6, hi, hO, hk => by
    simp only [List.range'_succ, List.map_cons, forD, true_and]
    unfold b1_law
    walk_at "dw"
    refine ⟨⟨by decide, by decide⟩, ⟨by decide, by decide⟩, ?_⟩
    rw [show rngD 1 40 = nats ((List.range 39).map (1 + ·)) from rng_nats 1 40]
    refine lc_topT (fun _ => true) (fun x => match x with | .int k => .int (((i + 1 : Nat) : Int) * k) | _ => .non) ?_ ?_ ?_
    · rw [List.length_map, List.length_map, List.length_range]; decide
    · intro q hq0 x hx l2 k1 k0 hk1
      obtain ⟨n, hn, rfl⟩ := List.mem_map.mp hx
      walk_at "dw"
      exact ⟨cmul_small (by omega), hk1⟩
    intro q hq0
    simp only [odel_oupd hq0]
    have e1 : ((nats ((List.range 39).map (1 + ·))).filter fun _ => true).map (fun x => match x with | .int k => D.int (((i + 1 : Nat) : Int) * k) | _ => .non) = nats ((List.range 39).map fun j => (i + 1) * (1 + j)) := by
      rw [List.filter_eq_self.mpr (fun _ _ => rfl)]
      unfold nats
      rw [List.map_map, List.map_map, List.map_map]
      apply List.map_congr_left
      intro j _
      simp only [Function.comp]
      congr 1
    rw [e1]
    refine ⟨⟨rfl, by rw [asL_own hO]; rfl⟩, ?_⟩
    refine lc_topT (fun x => match x with | .int n => f n.toNat | _ => false) (fun x => x) ?_ ?_ ?_
    · rw [List.length_map, List.length_map, List.length_range]; decide
    · intro q hq0 x hx l2 k1 k0 hk1
      obtain ⟨n, hn, rfl⟩ := List.mem_map.mp hx
      walk_at "dw"
      refine ⟨some, tail, period, rests, n, rfl, hp, _, rfl, ?_⟩
      rw [hf]
      exact hk1
    intro q hq0
    simp only [odel_oupd hq0]
    have e2 : ((nats ((List.range 39).map fun j => (i + 1) * (1 + j))).filter (fun x => match x with | .int n => f n.toNat | _ => false)).map (fun x => x) = nats (((List.range 39).map fun j => (i + 1) * (1 + j)).filter f) := by
      rw [List.map_id']; unfold nats; rw [List.filter_map]; rfl
    rw [e2]
    refine ⟨by decide, (yEq_nil rfl plain_natsL).mpr ?_⟩
    have e3 : (nats (((List.range 39).map fun j => (i + 1) * (1 + j)).filter f)).isEmpty = sF f i := by
      show _ = safeP f (i + 1)
      rw [safe_some (M := 40) hc (by omega) (by omega)]
      apply bool_iff
      rw [List.isEmpty_iff, List.map_eq_nil_iff, List.filter_eq_nil_iff, List.all_eq_true]
      constructor
      · intro h j hj
        have := h _ (List.mem_map.mpr ⟨j, hj, rfl⟩)
        simpa using this
      · intro h x hx
        obtain ⟨j, hj, rfl⟩ := List.mem_map.mp hx
        have := h j hj
        simpa using this
    rw [e3]
    refine ⟨p, _, _, rfl, rfl, hO, by rw [tab_len]; exact Nat.lt_of_lt_of_le (show i < 100 by omega) (by decide), ?_⟩
    rw [← tab_succ]
    refine ⟨f, t, d, i + 1, rfl, hc, by omega, by omega, by omega, by omega, ?_⟩
    refine yIx_own oupd_same tab_last ?_
    rw [yNe_bl]
    refine ⟨_, rfl, ?_⟩
    rw [if_neg (by simp)]
    exact in_loop hf hp hc ht hd m (i + 1) _ _ _ (by omega) oupd_same hk
end
theorem gS0 {f : Nat → Bool} : gS f 0 = false := rfl
theorem gS1 {f : Nat → Bool} : gS f 1 = false := rfl
theorem gS2 {f : Nat → Bool} {n : Nat} (h : 2 ≤ n) : gS f n = safeP f n := by unfold gS; rw [decide_eq_true h]; rfl
theorem tab_gS {f : Nat → Bool} : [D.bl false, D.bl false] ++ (tab (sF f) 60).drop 1 = tab (gS f) 61 := by
  apply List.ext_getElem?
  intro n
  match n with
  | 0 => rfl
  | 1 => rfl
  | n + 2 =>
    show ((tab (sF f) 60).drop 1)[n]? = _
    unfold tab
    rw [List.getElem?_drop, List.getElem?_map, List.getElem?_map]
    by_cases h : n < 59
    · rw [List.getElem?_range (by omega), List.getElem?_range (by omega)]
      show Option.some (D.bl (safeP f (1 + n + 1))) = Option.some (D.bl (gS f (n + 2)))
      rw [gS2 (by omega), show 1 + n + 1 = n + 2 by omega]
    · rw [List.getElem?_eq_none (by simp; omega), List.getElem?_eq_none (by simp; omega)]
      rfl
theorem due_eq {g : Nat → Bool} (h0 : g 0 = false) (h1 : g 1 = false) : ((List.range 59).map (2 + ·)).filter g = (List.range 61).filter g := by
  rw [show (61 : Nat) = 2 + 59 from rfl, List.range_add, List.filter_append]
  have : (List.range 2).filter g = [] := by
    rw [List.filter_eq_nil_iff]
    intro a ha
    have := List.mem_range.mp ha
    have : a = 0 ∨ a = 1 := by omega
    rcases this with rfl | rfl
    · rw [h0]; decide
    · rw [h1]; decide
  rw [this, List.nil_append]
theorem due_head {g : Nat → Bool} {r : Option Nat} (hr : First g r) (hm : ∀ m, r = some m → m < 61) : ((List.range 61).filter g).head? = r := by
  rw [List.head?_filter]
  cases r with
  | none =>
    rw [List.find?_range_eq_none]
    intro i _
    rw [hr i]
    rfl
  | some m =>
    rw [List.find?_range_eq_some]
    refine ⟨hr.1, List.mem_range.mpr (hm m rfl), fun j hj => ?_⟩
    rw [hr.2 j hj]
    rfl
end DW

set_option Elab.async false
set_option linter.all false
set_option maxRecDepth 100000
set_option maxHeartbeats 4000000
namespace DW
open PySem L2
local macro_rules | `(tactic| walk_at "dw") => `(tactic| simp only [startD, List.map_cons, List.map_nil, List.length_cons, List.length_nil, List.replicate, List.cons_append, List.nil_append, Nat.reduceAdd, Nat.reduceSub,
  sSeq, sAsg, sRet, sIf, sNext, sDrop, sFor, sPar, sPar3, sAug, gVar, gC, gOp, gUn, gTest, gIf, gAnd, gOr, gNot, gAndV, gOrV, gNotV, gCons, gNil, gCB, gTup, gLst, gLstO, gCall, gLc, gRng1, gRng2, gRng3, gItQ, gItT, gSl, gPart, gNoPart, tgTup, tgCons, tgNil, tgName, gYes, wipeD, gBM, gBM0,
  List.getElem?_cons_zero, List.getElem?_cons_succ, List.getElem?_nil, List.set_cons_zero, List.set_cons_succ, List.set_nil,
  Option.some.injEq, exists_eq_left', exists_eq_left, exists_eq_right', exists_and_left, and_assoc, D.tup.injEq, D.lst.injEq, List.cons.injEq, yCmp, ySub, yMod, yDiv, D.int.injEq, D.bl.injEq, and_true, true_and,
  yIn_int_tup, yIn_int_lst, yIx_tup, yIx_lst, atI0, atI1, atI2, atI3, cLen_tup, cLen_lst, cInt_int, cAbs_int, yNeg_int, cTuple_lst, cTuple_tup, yAdd_int, yMul_int, yEq_int, yEq_bl, yNe_int, yNe_bl, Bool.false_eq_true, if_false, if_true])
theorem rng2_61 : rngD 2 61 = nats ((List.range 59).map (2 + ·)) := rng_nats 2 61
theorem len_59 : (nats ((List.range 59).map (2 + ·))).length ≤ sizeLine := by rw [List.length_map, List.length_map, List.length_range]; decide
theorem yIs_non {a : D} {O : Oh} {k : DK} : yIs false a .non O k ↔ k (.bl (isNon a)) O := by simp [yIs]
theorem yIs_bl {a b : Bool} {O : Oh} {k : DK} : yIs false (.bl a) (.bl b) O k ↔ k (.bl (decide (a = b))) O := by simp [yIs]
theorem tail_ok {f : Nat → Bool} {t d : Nat} {r : Option Nat} {e : EK} {O : Oh} {N Y : Oh → Prop} (hc : Can f t d) (ht : t ≤ 6) (hd : d ≤ 12) (hN : N O) :
    y_least_round [canT f t d] O (fun a O1 => yIs false a D.non O1 fun a O1 => yIx (canT f t d) (D.int 2) O1 fun a_1 O1 => yIx (canT f t d) (D.int 1) O1 fun a_2 O1 => yAdd a_2 (D.int 1) O1 fun b_2 O2 => yMul a_1 b_2 O2 fun a_3 O1 =>
      y_is_in [canT f t d, a_3] O1 (fun b_3 O2 => yNe a b_3 O2 fun d_3 O' => ∃ b_4, d_3 = D.bl b_4 ∧ if b_4 = true then Y O' else N O') e) e := by
  refine ⟨f, t, d, rfl, hc, by omega, by omega, fun r hr _ => ?_⟩
  have e1 : isNon (optD r) = decide (r = none) := by cases r <;> rfl
  refine yIs_non.mpr ?_
  rw [e1]
  refine yIx_can2.mpr (yIx_can1.mpr (yAdd_int.mpr (yMul_int.mpr ⟨cmul_small (j := t + 1) (by omega), f, t, d, d * (t + 1), by push_cast; rfl, hc.pos, by omega, by omega, ?_⟩)))
  rw [fOf_can hc.pos hc.per, ← none_iff hc hr]
  refine yNe_bl.mpr ⟨_, rfl, ?_⟩
  rw [if_neg (by simp)]
  exact hN
theorem law_turn {ns : List Int} {e : EK} {E : DEnds} {O : Oh} {b : Nat} {x2 x3 x4 x5 x6 x7 x8 x9 x10 x11 : Option D} (hn : ns.length ≤ 63) (hb : b ≤ 10)
    (hk : ∀ O' x2 x3 x4 x5 x6 x7 x8, E.nx [some (.scr ns), some (.int b), x2, x3, x4, x5, x6, x7, x8, x9, x10, x11] O') :
    b2_law (fun _ => e) [some (.scr ns), some (.int b), x2, x3, x4, x5, x6, x7, x8, x9, x10, x11] O E := by
  unfold b2_law
  walk_at "dw"
  refine ⟨ns, b, rfl, hn, by omega, by omega, fun dd rr O1 hd hr hF hK => ?_⟩
  refine ⟨dd, rr, rfl, hF, fun some tail period rests O2 ht hp hp2 hl1 hl2 hK2 => ?_⟩
  clear hF hK hK2 hd hr
  unfold told4
  walk_at "dw"
  refine ⟨_, nats some, tail, period, _, nats rests, rfl, rfl, rfl, flat_nats _, flat_nats _, by omega, hp, by omega, fun t d hc htt hdd => ?_⟩
  generalize hf : fOf (nats some) tail period (nats rests) = f at hc ⊢
  refine ⟨by decide, fun p hp0 => ?_⟩
  refine ⟨⟨by decide, by decide⟩, ⟨by decide, by decide⟩, ?_⟩
  rw [show rngD 1 61 = nats (List.range' (0 + 1) 60) from by rw [show rngD 1 61 = _ from rng_nats 1 61, List.range'_eq_map_range]]
  refine in_loop hf hp hc (by omega) (by omega) 60 0 _ _ _ rfl oupd_same ?_
  clear hp0
  intro O3 x5 x6 hO
  walk_at "dw"
  refine ⟨f, t, d, rfl, hc, by omega, by omega, fun t2 d2 hc2 ht2 hd2 => ?_⟩
  have hg := fOf_can hc2.pos hc2.per
  have hfc := fOf_can hc.pos hc.per
  refine ⟨⟨by decide, by decide⟩, ⟨by decide, by decide⟩, ?_⟩
  rw [rng2_61]
  refine lc_topT (fun _ => false) (fun x => x) len_59 ?_ ?_
  · intro q hq0 x hx l2 k1 k0 hk1
    obtain ⟨n, hn, rfl⟩ := List.mem_map.mp hx
    obtain ⟨i, hi, rfl⟩ := List.mem_map.mp hn
    have hi := List.mem_range.mp hi
    walk_at "dw"
    refine ⟨gS f, t2, d2, 2 + i, rfl, hc2.pos, by omega, by omega, ?_⟩
    rw [hg]
    refine ⟨_, _, D.bl (sF f (1 + i)), asQ_up hq0 (asQ_own hO), rfl, ?_, ?_⟩
    · rw [show ((2 + i : Nat) : Int) - 1 = ((1 + i : Nat) : Int) by omega]
      exact at_tab (by omega)
    · refine yNe_bl.mpr ⟨_, rfl, ?_⟩
      rw [if_neg (by rw [gS2 (by omega)]; show ¬ (!(safeP f (2 + i) == safeP f (1 + i + 1))) = true; rw [show 1 + i + 1 = 2 + i by omega]; simp)]
      exact hk1
  intro q hq0
  simp only [odel_oupd hq0]
  rw [List.filter_eq_nil_iff.mpr (fun _ _ => by simp), List.map_nil]
  refine ⟨by decide, (yNe_nil rfl rfl).mpr ⟨_, rfl, ?_⟩⟩
  rw [if_neg (by decide)]
  refine ⟨gS f, t2, d2, 0, rfl, hc2.pos, by omega, by omega, ?_⟩
  rw [hg, gS0]
  refine ⟨_, rfl, ?_⟩
  rw [if_neg (by decide)]
  refine ⟨gS f, t2, d2, 1, rfl, hc2.pos, by omega, by omega, ?_⟩
  rw [hg, gS1]
  refine ⟨_, rfl, ?_⟩
  rw [if_neg (by decide)]
  refine cRepr_can (by omega) (by omega) ?_
  refine ⟨by decide, _, asQ_own hO, ?_⟩
  have ecut : cutL (tab (sF f) 60) (Option.some 1) none = (tab (sF f) 60).drop 1 := by
    unfold cutL
    rw [tab_len]
    show ((tab (sF f) 60).drop 1).take 59 = _
    rw [List.take_of_length_le (by rw [List.length_drop, tab_len]; decide)]
  rw [ecut]
  refine yAdd_lst.mpr ⟨by rw [List.length_drop, tab_len]; decide, ?_⟩
  rw [tab_gS]
  refine ⟨gS f, t2, d2, 61, rfl, hc2, by omega, by omega, by decide, by decide, ?_⟩
  refine cRepr_can (by omega) (by omega) ?_
  refine yNe_same rfl rfl ⟨_, rfl, ?_⟩
  rw [if_neg (by decide)]
  refine ⟨⟨by decide, by decide⟩, ⟨by decide, by decide⟩, ?_⟩
  refine lc_topT (fun x => match x with | .int n => gS f n.toNat | _ => false) (fun x => x) len_59 ?_ ?_
  · intro q hq0 x hx l2 k1 k0 hk1
    obtain ⟨n, hn, rfl⟩ := List.mem_map.mp hx
    obtain ⟨i, hi, rfl⟩ := List.mem_map.mp hn
    have hi := List.mem_range.mp hi
    walk_at "dw"
    refine ⟨_, _, D.bl (sF f (1 + i)), asQ_up hq0 (asQ_own hO), rfl, ?_, ?_⟩
    · rw [show ((2 + i : Nat) : Int) - 1 = ((1 + i : Nat) : Int) by omega]
      exact at_tab (by omega)
    · refine ⟨_, rfl, ?_⟩
      show if safeP f (1 + i + 1) = true then _ else _
      rw [show 1 + i + 1 = 2 + i by omega, ← gS2 (f := f) (show 2 ≤ 2 + i by omega)]
      exact hk1
  intro q hq0
  simp only [odel_oupd hq0]
  have edue : ((nats ((List.range 59).map (2 + ·))).filter (fun x => match x with | .int n => gS f n.toNat | _ => false)).map (fun x => x) = nats ((List.range 61).filter (gS f)) := by
    rw [List.map_id', ← due_eq gS0 gS1]; unfold nats; rw [List.filter_map]; rfl
  rw [edue]
  refine ⟨f, t, d, rfl, hc, by omega, by omega, fun r hr hm => ?_⟩
  have hh := due_head hr (fun m z => by have := hm m z; omega)
  refine ⟨by decide, (yNe_nil rfl plain_natsL).mpr ⟨_, rfl, ?_⟩⟩
  have hx : ∀ O', E.nx [Option.some (D.scr ns), Option.some (D.int b), Option.some (told4 some tail period rests), Option.some (canT f t d), Option.some (D.ref p), x5, x6, Option.some (canT (gS f) t2 d2), Option.some (D.lst (nats (List.filter (gS f) (List.range 61)))), x9, x10, x11] O' := fun O' => hk _ _ _ _ _ _ _ _
  cases r with
  | none =>
    have h0 : List.filter (gS f) (List.range 61) = [] := List.head?_eq_none_iff.mp hh
    rw [h0] at hx ⊢
    rw [if_neg (by decide)]
    refine yNe_same (x := .non) rfl rfl ⟨_, rfl, ?_⟩
    rw [if_neg (by decide)]
    exact tail_ok (r := none) hc (by omega) (by omega) (hx _)
  | some m =>
    cases h0 : List.filter (gS f) (List.range 61) with
    | nil => rw [h0] at hh; cases hh
    | cons y l =>
      rw [h0] at hh hx
      obtain rfl : y = m := by simpa using hh
      rw [if_pos (by rfl)]
      refine ⟨_, atI0, ?_⟩
      refine yNe_same (x := .int y) rfl rfl ⟨_, rfl, ?_⟩
      rw [if_neg (by decide)]
      exact tail_ok (r := none) hc (by omega) (by omega) (hx _)
theorem law_for {ns : List Int} {e : EK} {E : DEnds} {x9 x10 x11 : Option D} (hn : ns.length ≤ 63) : ∀ (l : List Nat) (O : Oh) (x1 x2 x3 x4 x5 x6 x7 x8 : Option D), (∀ b ∈ l, b ≤ 10) →
    (∀ O' x1 x2 x3 x4 x5 x6 x7 x8, E.nx [some (.scr ns), x1, x2, x3, x4, x5, x6, x7, x8, x9, x10, x11] O') → forD (fun _ => e) (tgName 1) b2_law (fun _ => True) E (nats l) [some (.scr ns), x1, x2, x3, x4, x5, x6, x7, x8, x9, x10, x11] O
  | [], O, x1, x2, x3, x4, x5, x6, x7, x8, _, hk => by
    simp only [List.map_nil, forD, true_and]
    exact hk _ _ _ _ _ _ _ _ _
  | b :: l, O, x1, x2, x3, x4, x5, x6, x7, x8, hb, hk => by
    simp only [List.map_cons, forD, true_and]
    simp only [tgName, List.set_cons_succ, List.set_cons_zero]
    refine law_turn hn (hb b (by simp)) ?_
    intro O' x2 x3 x4 x5 x6 x7 x8
    exact law_for hn l O' _ _ _ _ _ _ _ _ (fun x hx => hb x (by simp [hx])) hk
def z0 : Nat → Bool := fun n => decide (n < 3)
theorem z0_can : Can z0 3 1 := by
  refine ⟨by decide, fun n hn => ?_, fun s h1 h2 => by omega, .inr (by decide)⟩
  unfold z0
  rw [decide_eq_false (by omega), decide_eq_false (by omega)]
theorem z0_canT : canT z0 3 1 = .tup [.tup [.int 0, .int 1, .int 2], .int 3, .int 1, .tup []] := rfl
theorem z0_safe {n : Nat} : safeP z0 n = decide (3 ≤ n) := by
  apply bool_iff
  rw [safeP_iff, decide_eq_true_iff]
  constructor
  · intro h
    have := h 1 (by omega)
    unfold z0 at this
    rw [decide_eq_false_iff_not] at this
    omega
  · intro h k hk
    unfold z0
    rw [decide_eq_false_iff_not]
    have : 3 * 1 ≤ n * k := Nat.mul_le_mul h hk
    omega
theorem z0_gS : gS z0 = fun n => decide (3 ≤ n) := by
  funext n
  unfold gS
  rw [z0_safe]
  apply bool_iff
  rw [Bool.and_eq_true, decide_eq_true_iff, decide_eq_true_iff]
  omega
theorem z1_can : Can (gS z0) 3 1 := by
  rw [z0_gS]
  refine ⟨by decide, fun n hn => ?_, fun s h1 h2 => by omega, .inr (by decide)⟩
  rw [decide_eq_true (by omega), decide_eq_true (by omega)]
theorem z1_canT : canT (gS z0) 3 1 = .tup [.tup [], .int 3, .int 1, .tup [.int 0]] := by rw [z0_gS]; rfl
theorem z1_first : First (gS z0) (some 3) := by
  rw [z0_gS]
  refine ⟨by decide, fun n hn => ?_⟩
  show decide (3 ≤ n) = false
  rw [decide_eq_false_iff_not]
  omega
theorem law_law : ∀ ds O kd e, y_law ds O kd e → g_law (fun _ => e) (startD N_law ds) O { nx := fun _ O' => Fz kd .non O', rt := Fz kd } := by
  rintro ds O kd e ⟨ns, rfl, hn, hk⟩
  unfold g_law
  walk_at "dw"
  refine ⟨⟨by decide, by decide⟩, ?_⟩
  rw [show rngD 0 4 = nats (List.range 4) from rng_nats0 4]
  refine law_for hn _ _ _ _ _ _ _ _ _ _ (fun b hb => by have := List.mem_range.mp hb; omega) fun O' x1 x2 x3 x4 x5 x6 x7 x8 => ?_
  unfold gCallK
  walk_at "dw"
  simp only [pick, List.getElem?_cons_zero, List.getElem?_cons_succ]
  rw [← z0_canT]
  refine ⟨by decide, by decide, by decide, z0, 3, 1, rfl, z0_can, by decide, by decide, fun t2 d2 hc2 _ _ => ?_⟩
  obtain ⟨rfl, rfl⟩ := can_unique z1_can hc2
  rw [← z1_canT]
  refine ⟨by decide, by decide, by decide, yNe_same rfl plain_canT ⟨_, rfl, ?_⟩⟩
  rw [if_neg (by decide)]
  refine ⟨z0, 3, 1, rfl, z0_can, by decide, by decide, fun r hr _ => ?_⟩
  obtain rfl := first_unique z1_first hr
  refine yNe_same (x := .int 3) rfl rfl ⟨_, rfl, ?_⟩
  rw [if_neg (by decide)]
  refine ⟨z0, 3, 1, 4, rfl, z0_can, by decide, by decide, by decide, by decide, ?_⟩
  rw [z0_safe]
  refine yIs_bl.mpr ⟨_, rfl, ?_⟩
  rw [if_pos (by decide)]
  refine ⟨z0, 3, 1, 1, rfl, z0_can, by decide, by decide, by decide, by decide, ?_⟩
  rw [z0_safe]
  exact yIs_bl.mpr (fz (hk _))
end DW

set_option Elab.async false
set_option linter.all false
set_option maxRecDepth 100000
set_option maxHeartbeats 0
namespace DW
open PySem PySem.Spec PyProof.Rows L2
def hd_law_take : He.DefD := ⟨("_law_take", none), "_law_take", "_law_take", defArgs st_law_take, defBody st_law_take, defScope st_law_take, [], []⟩
def hd_law_drawn_told : He.DefD := ⟨("_law_drawn_told", none), "_law_drawn_told", "_law_drawn_told", defArgs st_law_drawn_told, defBody st_law_drawn_told, defScope st_law_drawn_told, [], []⟩
def hd_least_period : He.DefD := ⟨("least_period", none), "least_period", "least_period", defArgs st_least_period, defBody st_least_period, defScope st_least_period, [], []⟩
def hd_numbers_told : He.DefD := ⟨("numbers_told", none), "numbers_told", "numbers_told", defArgs st_numbers_told, defBody st_numbers_told, defScope st_numbers_told, [], []⟩
def hd_divisor : He.DefD := ⟨("divisor", none), "divisor", "divisor", defArgs st_divisor, defBody st_divisor, defScope st_divisor, [], []⟩
def hd_is_far_safe : He.DefD := ⟨("is_far_safe", none), "is_far_safe", "is_far_safe", defArgs st_is_far_safe, defBody st_is_far_safe, defScope st_is_far_safe, [], []⟩
def hd_is_in : He.DefD := ⟨("is_in", none), "is_in", "is_in", defArgs st_is_in, defBody st_is_in, defScope st_is_in, [], []⟩
def hd_is_safe_round : He.DefD := ⟨("is_safe_round", none), "is_safe_round", "is_safe_round", defArgs st_is_safe_round, defBody st_is_safe_round, defScope st_is_safe_round, [], []⟩
def hd_safe_rounds : He.DefD := ⟨("safe_rounds", none), "safe_rounds", "safe_rounds", defArgs st_safe_rounds, defBody st_safe_rounds, defScope st_safe_rounds, [], []⟩
def hd_law_feed : He.DefD := ⟨("_law_feed", none), "_law_feed", "_law_feed", defArgs st_law_feed, defBody st_law_feed, defScope st_law_feed, [], []⟩
def hd_first_told : He.DefD := ⟨("first_told", none), "first_told", "first_told", defArgs st_first_told, defBody st_first_told, defScope st_first_told, [], []⟩
def hd_least_round : He.DefD := ⟨("least_round", none), "least_round", "least_round", defArgs st_least_round, defBody st_least_round, defScope st_least_round, [], []⟩
def hd_law_told : He.DefD := ⟨("_law_told", none), "_law_told", "_law_told", defArgs st_law_told, defBody st_law_told, defScope st_law_told, [], []⟩
def hd_law_has : He.DefD := ⟨("_law_has", none), "_law_has", "_law_has", defArgs st_law_has, defBody st_law_has, defScope st_law_has, [], []⟩
def hd_law : He.DefD := ⟨("law", none), "law", "law", defArgs st_law, defBody st_law, defScope st_law, [], []⟩
def hdFn : List He.DefD := [hd_law_take, hd_law_drawn_told, hd_least_period, hd_numbers_told, hd_divisor, hd_is_far_safe, hd_is_in, hd_is_safe_round, hd_safe_rounds, hd_law_feed, hd_first_told, hd_least_round, hd_law_told, hd_law_has, hd_law]
def hdFa : List He.Fa := [.glo "_law_take", .glo "_law_drawn_told", .glo "least_period", .glo "numbers_told", .glo "divisor", .glo "is_far_safe", .glo "is_in", .glo "is_safe_round", .glo "safe_rounds", .glo "_law_feed", .glo "first_told", .glo "least_round", .glo "_law_told", .glo "_law_has", .glo "law", .free "abs", .free "all", .free "any", .free "int", .free "len", .free "max", .free "range", .free "repr", .free "sorted", .free "tuple", .int "LEAST" 2]
abbrev hdR : PySem.W.OpenRow := PySem.W.OpenLaw.row PySem.Challenge.rw_unfooled_k48_safe_rounds_by_trying
abbrev hdK : PySem.W.Hook := He.hookD 4 hdFa hdFn
def hdOb (s : PySem.W.SharedT) : He.AlD := He.obsDG 4 hdFa hdFn (HandSHeadRun.getT s)
theorem hdOb_eq (s : PySem.W.SharedT) : hdOb s = hdK.obs s.abs := He.obsDG_eq (HandSHeadRun.getT_eq s)
theorem hdRun (w : World) : HandSHeadRun.RunEq hdR (PySem.W.view hdR.prog [19]) hdK hdOb 3000 ["is_in", "least_period", "numbers_told", "LEAST", "divisor", "is_far_safe", "is_safe_round", "safe_rounds", "first_told", "least_round", "_law_feed", "_law_take", "_law_pick", "_law_drawn_told", "_law_has", "_law_told"] w := by
  intro os
  kernel_rfl
theorem len_law_take : ∀ ds O k e, y_law_take ds O k e → ds.length = 2 := by
  intro ds O k e h
  unfold y_law_take at h
  first | (obtain ⟨rfl, _⟩ := h; rfl) | (obtain ⟨_, rfl, _⟩ := h; rfl) | (obtain ⟨_, _, rfl, _⟩ := h; rfl) | (obtain ⟨_, _, _, rfl, _⟩ := h; rfl) | (obtain ⟨_, _, _, _, rfl, _⟩ := h; rfl) | (obtain ⟨_, _, _, _, _, rfl, _⟩ := h; rfl) | (obtain ⟨_, _, _, _, _, _, rfl, _⟩ := h; rfl) | (obtain ⟨_, _, _, _, _, _, _, rfl, _⟩ := h; rfl) | (obtain ⟨_, _, _, _, _, _, _, _, rfl, _⟩ := h; rfl) | (obtain ⟨_, _, _, _, _, _, _, _, _, rfl, _⟩ := h; rfl)
theorem len_law_drawn_told : ∀ ds O k e, y_law_drawn_told ds O k e → ds.length = 1 := by
  intro ds O k e h
  unfold y_law_drawn_told at h
  first | (obtain ⟨rfl, _⟩ := h; rfl) | (obtain ⟨_, rfl, _⟩ := h; rfl) | (obtain ⟨_, _, rfl, _⟩ := h; rfl) | (obtain ⟨_, _, _, rfl, _⟩ := h; rfl) | (obtain ⟨_, _, _, _, rfl, _⟩ := h; rfl) | (obtain ⟨_, _, _, _, _, rfl, _⟩ := h; rfl) | (obtain ⟨_, _, _, _, _, _, rfl, _⟩ := h; rfl) | (obtain ⟨_, _, _, _, _, _, _, rfl, _⟩ := h; rfl) | (obtain ⟨_, _, _, _, _, _, _, _, rfl, _⟩ := h; rfl) | (obtain ⟨_, _, _, _, _, _, _, _, _, rfl, _⟩ := h; rfl)
theorem len_least_period : ∀ ds O k e, y_least_period ds O k e → ds.length = 2 := by
  intro ds O k e h
  unfold y_least_period at h
  first | (obtain ⟨rfl, _⟩ := h; rfl) | (obtain ⟨_, rfl, _⟩ := h; rfl) | (obtain ⟨_, _, rfl, _⟩ := h; rfl) | (obtain ⟨_, _, _, rfl, _⟩ := h; rfl) | (obtain ⟨_, _, _, _, rfl, _⟩ := h; rfl) | (obtain ⟨_, _, _, _, _, rfl, _⟩ := h; rfl) | (obtain ⟨_, _, _, _, _, _, rfl, _⟩ := h; rfl) | (obtain ⟨_, _, _, _, _, _, _, rfl, _⟩ := h; rfl) | (obtain ⟨_, _, _, _, _, _, _, _, rfl, _⟩ := h; rfl) | (obtain ⟨_, _, _, _, _, _, _, _, _, rfl, _⟩ := h; rfl)
theorem len_numbers_told : ∀ ds O k e, y_numbers_told ds O k e → ds.length = 4 := by
  intro ds O k e h
  unfold y_numbers_told at h
  first | (obtain ⟨rfl, _⟩ := h; rfl) | (obtain ⟨_, rfl, _⟩ := h; rfl) | (obtain ⟨_, _, rfl, _⟩ := h; rfl) | (obtain ⟨_, _, _, rfl, _⟩ := h; rfl) | (obtain ⟨_, _, _, _, rfl, _⟩ := h; rfl) | (obtain ⟨_, _, _, _, _, rfl, _⟩ := h; rfl) | (obtain ⟨_, _, _, _, _, _, rfl, _⟩ := h; rfl) | (obtain ⟨_, _, _, _, _, _, _, rfl, _⟩ := h; rfl) | (obtain ⟨_, _, _, _, _, _, _, _, rfl, _⟩ := h; rfl) | (obtain ⟨_, _, _, _, _, _, _, _, _, rfl, _⟩ := h; rfl)
theorem len_divisor : ∀ ds O k e, y_divisor ds O k e → ds.length = 2 := by
  intro ds O k e h
  unfold y_divisor at h
  first | (obtain ⟨rfl, _⟩ := h; rfl) | (obtain ⟨_, rfl, _⟩ := h; rfl) | (obtain ⟨_, _, rfl, _⟩ := h; rfl) | (obtain ⟨_, _, _, rfl, _⟩ := h; rfl) | (obtain ⟨_, _, _, _, rfl, _⟩ := h; rfl) | (obtain ⟨_, _, _, _, _, rfl, _⟩ := h; rfl) | (obtain ⟨_, _, _, _, _, _, rfl, _⟩ := h; rfl) | (obtain ⟨_, _, _, _, _, _, _, rfl, _⟩ := h; rfl) | (obtain ⟨_, _, _, _, _, _, _, _, rfl, _⟩ := h; rfl) | (obtain ⟨_, _, _, _, _, _, _, _, _, rfl, _⟩ := h; rfl)
theorem len_is_far_safe : ∀ ds O k e, y_is_far_safe ds O k e → ds.length = 2 := by
  intro ds O k e h
  unfold y_is_far_safe at h
  first | (obtain ⟨rfl, _⟩ := h; rfl) | (obtain ⟨_, rfl, _⟩ := h; rfl) | (obtain ⟨_, _, rfl, _⟩ := h; rfl) | (obtain ⟨_, _, _, rfl, _⟩ := h; rfl) | (obtain ⟨_, _, _, _, rfl, _⟩ := h; rfl) | (obtain ⟨_, _, _, _, _, rfl, _⟩ := h; rfl) | (obtain ⟨_, _, _, _, _, _, rfl, _⟩ := h; rfl) | (obtain ⟨_, _, _, _, _, _, _, rfl, _⟩ := h; rfl) | (obtain ⟨_, _, _, _, _, _, _, _, rfl, _⟩ := h; rfl) | (obtain ⟨_, _, _, _, _, _, _, _, _, rfl, _⟩ := h; rfl)
theorem len_is_in : ∀ ds O k e, y_is_in ds O k e → ds.length = 2 := by
  intro ds O k e h
  unfold y_is_in at h
  first | (obtain ⟨rfl, _⟩ := h; rfl) | (obtain ⟨_, rfl, _⟩ := h; rfl) | (obtain ⟨_, _, rfl, _⟩ := h; rfl) | (obtain ⟨_, _, _, rfl, _⟩ := h; rfl) | (obtain ⟨_, _, _, _, rfl, _⟩ := h; rfl) | (obtain ⟨_, _, _, _, _, rfl, _⟩ := h; rfl) | (obtain ⟨_, _, _, _, _, _, rfl, _⟩ := h; rfl) | (obtain ⟨_, _, _, _, _, _, _, rfl, _⟩ := h; rfl) | (obtain ⟨_, _, _, _, _, _, _, _, rfl, _⟩ := h; rfl) | (obtain ⟨_, _, _, _, _, _, _, _, _, rfl, _⟩ := h; rfl)
theorem len_is_safe_round : ∀ ds O k e, y_is_safe_round ds O k e → ds.length = 2 := by
  intro ds O k e h
  unfold y_is_safe_round at h
  first | (obtain ⟨rfl, _⟩ := h; rfl) | (obtain ⟨_, rfl, _⟩ := h; rfl) | (obtain ⟨_, _, rfl, _⟩ := h; rfl) | (obtain ⟨_, _, _, rfl, _⟩ := h; rfl) | (obtain ⟨_, _, _, _, rfl, _⟩ := h; rfl) | (obtain ⟨_, _, _, _, _, rfl, _⟩ := h; rfl) | (obtain ⟨_, _, _, _, _, _, rfl, _⟩ := h; rfl) | (obtain ⟨_, _, _, _, _, _, _, rfl, _⟩ := h; rfl) | (obtain ⟨_, _, _, _, _, _, _, _, rfl, _⟩ := h; rfl) | (obtain ⟨_, _, _, _, _, _, _, _, _, rfl, _⟩ := h; rfl)
theorem len_safe_rounds : ∀ ds O k e, y_safe_rounds ds O k e → ds.length = 1 := by
  intro ds O k e h
  unfold y_safe_rounds at h
  first | (obtain ⟨rfl, _⟩ := h; rfl) | (obtain ⟨_, rfl, _⟩ := h; rfl) | (obtain ⟨_, _, rfl, _⟩ := h; rfl) | (obtain ⟨_, _, _, rfl, _⟩ := h; rfl) | (obtain ⟨_, _, _, _, rfl, _⟩ := h; rfl) | (obtain ⟨_, _, _, _, _, rfl, _⟩ := h; rfl) | (obtain ⟨_, _, _, _, _, _, rfl, _⟩ := h; rfl) | (obtain ⟨_, _, _, _, _, _, _, rfl, _⟩ := h; rfl) | (obtain ⟨_, _, _, _, _, _, _, _, rfl, _⟩ := h; rfl) | (obtain ⟨_, _, _, _, _, _, _, _, _, rfl, _⟩ := h; rfl)
theorem len_law_feed : ∀ ds O k e, y_law_feed ds O k e → ds.length = 2 := by
  intro ds O k e h
  unfold y_law_feed at h
  first | (obtain ⟨rfl, _⟩ := h; rfl) | (obtain ⟨_, rfl, _⟩ := h; rfl) | (obtain ⟨_, _, rfl, _⟩ := h; rfl) | (obtain ⟨_, _, _, rfl, _⟩ := h; rfl) | (obtain ⟨_, _, _, _, rfl, _⟩ := h; rfl) | (obtain ⟨_, _, _, _, _, rfl, _⟩ := h; rfl) | (obtain ⟨_, _, _, _, _, _, rfl, _⟩ := h; rfl) | (obtain ⟨_, _, _, _, _, _, _, rfl, _⟩ := h; rfl) | (obtain ⟨_, _, _, _, _, _, _, _, rfl, _⟩ := h; rfl) | (obtain ⟨_, _, _, _, _, _, _, _, _, rfl, _⟩ := h; rfl)
theorem len_first_told : ∀ ds O k e, y_first_told ds O k e → ds.length = 1 := by
  intro ds O k e h
  unfold y_first_told at h
  first | (obtain ⟨rfl, _⟩ := h; rfl) | (obtain ⟨_, rfl, _⟩ := h; rfl) | (obtain ⟨_, _, rfl, _⟩ := h; rfl) | (obtain ⟨_, _, _, rfl, _⟩ := h; rfl) | (obtain ⟨_, _, _, _, rfl, _⟩ := h; rfl) | (obtain ⟨_, _, _, _, _, rfl, _⟩ := h; rfl) | (obtain ⟨_, _, _, _, _, _, rfl, _⟩ := h; rfl) | (obtain ⟨_, _, _, _, _, _, _, rfl, _⟩ := h; rfl) | (obtain ⟨_, _, _, _, _, _, _, _, rfl, _⟩ := h; rfl) | (obtain ⟨_, _, _, _, _, _, _, _, _, rfl, _⟩ := h; rfl)
theorem len_least_round : ∀ ds O k e, y_least_round ds O k e → ds.length = 1 := by
  intro ds O k e h
  unfold y_least_round at h
  first | (obtain ⟨rfl, _⟩ := h; rfl) | (obtain ⟨_, rfl, _⟩ := h; rfl) | (obtain ⟨_, _, rfl, _⟩ := h; rfl) | (obtain ⟨_, _, _, rfl, _⟩ := h; rfl) | (obtain ⟨_, _, _, _, rfl, _⟩ := h; rfl) | (obtain ⟨_, _, _, _, _, rfl, _⟩ := h; rfl) | (obtain ⟨_, _, _, _, _, _, rfl, _⟩ := h; rfl) | (obtain ⟨_, _, _, _, _, _, _, rfl, _⟩ := h; rfl) | (obtain ⟨_, _, _, _, _, _, _, _, rfl, _⟩ := h; rfl) | (obtain ⟨_, _, _, _, _, _, _, _, _, rfl, _⟩ := h; rfl)
theorem len_law_told : ∀ ds O k e, y_law_told ds O k e → ds.length = 2 := by
  intro ds O k e h
  unfold y_law_told at h
  first | (obtain ⟨rfl, _⟩ := h; rfl) | (obtain ⟨_, rfl, _⟩ := h; rfl) | (obtain ⟨_, _, rfl, _⟩ := h; rfl) | (obtain ⟨_, _, _, rfl, _⟩ := h; rfl) | (obtain ⟨_, _, _, _, rfl, _⟩ := h; rfl) | (obtain ⟨_, _, _, _, _, rfl, _⟩ := h; rfl) | (obtain ⟨_, _, _, _, _, _, rfl, _⟩ := h; rfl) | (obtain ⟨_, _, _, _, _, _, _, rfl, _⟩ := h; rfl) | (obtain ⟨_, _, _, _, _, _, _, _, rfl, _⟩ := h; rfl) | (obtain ⟨_, _, _, _, _, _, _, _, _, rfl, _⟩ := h; rfl)
theorem len_law_has : ∀ ds O k e, y_law_has ds O k e → ds.length = 2 := by
  intro ds O k e h
  unfold y_law_has at h
  first | (obtain ⟨rfl, _⟩ := h; rfl) | (obtain ⟨_, rfl, _⟩ := h; rfl) | (obtain ⟨_, _, rfl, _⟩ := h; rfl) | (obtain ⟨_, _, _, rfl, _⟩ := h; rfl) | (obtain ⟨_, _, _, _, rfl, _⟩ := h; rfl) | (obtain ⟨_, _, _, _, _, rfl, _⟩ := h; rfl) | (obtain ⟨_, _, _, _, _, _, rfl, _⟩ := h; rfl) | (obtain ⟨_, _, _, _, _, _, _, rfl, _⟩ := h; rfl) | (obtain ⟨_, _, _, _, _, _, _, _, rfl, _⟩ := h; rfl) | (obtain ⟨_, _, _, _, _, _, _, _, _, rfl, _⟩ := h; rfl)
theorem len_law : ∀ ds O k e, y_law ds O k e → ds.length = 1 := by
  intro ds O k e h
  unfold y_law at h
  first | (obtain ⟨rfl, _⟩ := h; rfl) | (obtain ⟨_, rfl, _⟩ := h; rfl) | (obtain ⟨_, _, rfl, _⟩ := h; rfl) | (obtain ⟨_, _, _, rfl, _⟩ := h; rfl) | (obtain ⟨_, _, _, _, rfl, _⟩ := h; rfl) | (obtain ⟨_, _, _, _, _, rfl, _⟩ := h; rfl) | (obtain ⟨_, _, _, _, _, _, rfl, _⟩ := h; rfl) | (obtain ⟨_, _, _, _, _, _, _, rfl, _⟩ := h; rfl) | (obtain ⟨_, _, _, _, _, _, _, _, rfl, _⟩ := h; rfl) | (obtain ⟨_, _, _, _, _, _, _, _, _, rfl, _⟩ := h; rfl)
theorem hdFacts {P : Program} {w : World} {K : PySem.W.Frag} {h : Heap} {mg : Str → Option Value} (X : K.In h) (G : h.Ns mainGlobals mg) (c : He.SaysD hdFa hdFn K) (base : Heap) :
    Cal P w K mg base 6 "law" "law" st_law ["_law_script"] y_law := by
  have B : Blt mg K := ⟨He.free_ok X G (c.fact 15 (f := .free "abs") rfl), He.free_ok X G (c.fact 16 (f := .free "all") rfl), He.free_ok X G (c.fact 17 (f := .free "any") rfl), He.free_ok X G (c.fact 18 (f := .free "int") rfl), He.free_ok X G (c.fact 19 (f := .free "len") rfl), He.free_ok X G (c.fact 20 (f := .free "max") rfl), He.free_ok X G (c.fact 21 (f := .free "range") rfl), He.free_ok X G (c.fact 22 (f := .free "repr") rfl), He.free_ok X G (c.fact 23 (f := .free "sorted") rfl), He.free_ok X G (c.fact 24 (f := .free "tuple") rfl), He.int_ok X G (c.fact 25 (f := .int "LEAST" 2) rfl)⟩
  obtain ⟨fd_law_take, F_law_take⟩ := c.def_ 0 (d := hd_law_take) rfl
  have A_law_take : DefAt K mg "_law_take" "_law_take" st_law_take ["_law_feed_here", "_law_wide"] := defAt_of F_law_take (He.glo_ok X G (c.fact 0 (f := .glo "_law_take") rfl)) fun _ _ _ _ _ _ us hl => match us, hl with | [_, _], _ => rfl
  have C_law_take : Cal P w K mg base 1 "_law_take" "_law_take" st_law_take ["_law_feed_here", "_law_wide"] y_law_take := by
    apply ok_law_take A_law_take B <;> first | assumption | exact len_law_take | exact law_law_take
  obtain ⟨fd_law_drawn_told, F_law_drawn_told⟩ := c.def_ 1 (d := hd_law_drawn_told) rfl
  have A_law_drawn_told : DefAt K mg "_law_drawn_told" "_law_drawn_told" st_law_drawn_told ["_law_feed_here"] := defAt_of F_law_drawn_told (He.glo_ok X G (c.fact 1 (f := .glo "_law_drawn_told") rfl)) fun _ _ _ _ _ _ us hl => match us, hl with | [_], _ => rfl
  have C_law_drawn_told : Cal P w K mg base 2 "_law_drawn_told" "_law_drawn_told" st_law_drawn_told ["_law_feed_here"] y_law_drawn_told := by
    apply ok_law_drawn_told A_law_drawn_told B <;> first | assumption | exact len_law_drawn_told | exact law_law_drawn_told
  obtain ⟨fd_least_period, F_least_period⟩ := c.def_ 2 (d := hd_least_period) rfl
  have A_least_period : DefAt K mg "least_period" "least_period" st_least_period ["period", "rests"] := defAt_of F_least_period (He.glo_ok X G (c.fact 2 (f := .glo "least_period") rfl)) fun _ _ _ _ _ _ us hl => match us, hl with | [_, _], _ => rfl
  have C_least_period : Cal P w K mg base 1 "least_period" "least_period" st_least_period ["period", "rests"] y_least_period := by
    apply ok_least_period A_least_period B <;> first | assumption | exact len_least_period | exact law_least_period
  obtain ⟨fd_numbers_told, F_numbers_told⟩ := c.def_ 3 (d := hd_numbers_told) rfl
  have A_numbers_told : DefAt K mg "numbers_told" "numbers_told" st_numbers_told ["some", "tail", "period", "rests"] := defAt_of F_numbers_told (He.glo_ok X G (c.fact 3 (f := .glo "numbers_told") rfl)) fun _ _ _ _ _ _ us hl => match us, hl with | [_, _, _, _], _ => rfl
  have C_numbers_told : Cal P w K mg base 2 "numbers_told" "numbers_told" st_numbers_told ["some", "tail", "period", "rests"] y_numbers_told := by
    apply ok_numbers_told A_numbers_told B <;> first | assumption | exact len_numbers_told | exact law_numbers_told
  obtain ⟨fd_divisor, F_divisor⟩ := c.def_ 4 (d := hd_divisor) rfl
  have A_divisor : DefAt K mg "divisor" "divisor" st_divisor ["one", "other"] := defAt_of F_divisor (He.glo_ok X G (c.fact 4 (f := .glo "divisor") rfl)) fun _ _ _ _ _ _ us hl => match us, hl with | [_, _], _ => rfl
  have C_divisor : Cal P w K mg base 1 "divisor" "divisor" st_divisor ["one", "other"] y_divisor := by
    apply ok_divisor A_divisor B <;> first | assumption | exact len_divisor | exact law_divisor
  obtain ⟨fd_is_far_safe, F_is_far_safe⟩ := c.def_ 5 (d := hd_is_far_safe) rfl
  have A_is_far_safe : DefAt K mg "is_far_safe" "is_far_safe" st_is_far_safe ["told", "by"] := defAt_of F_is_far_safe (He.glo_ok X G (c.fact 5 (f := .glo "is_far_safe") rfl)) fun _ _ _ _ _ _ us hl => match us, hl with | [_, _], _ => rfl
  have C_is_far_safe : Cal P w K mg base 2 "is_far_safe" "is_far_safe" st_is_far_safe ["told", "by"] y_is_far_safe := by
    apply ok_is_far_safe A_is_far_safe B <;> first | assumption | exact len_is_far_safe | exact law_is_far_safe
  obtain ⟨fd_is_in, F_is_in⟩ := c.def_ 6 (d := hd_is_in) rfl
  have A_is_in : DefAt K mg "is_in" "is_in" st_is_in ["told", "number"] := defAt_of F_is_in (He.glo_ok X G (c.fact 6 (f := .glo "is_in") rfl)) fun _ _ _ _ _ _ us hl => match us, hl with | [_, _], _ => rfl
  have C_is_in : Cal P w K mg base 1 "is_in" "is_in" st_is_in ["told", "number"] y_is_in := by
    apply ok_is_in A_is_in B <;> first | assumption | exact len_is_in | exact law_is_in
  obtain ⟨fd_is_safe_round, F_is_safe_round⟩ := c.def_ 7 (d := hd_is_safe_round) rfl
  have A_is_safe_round : DefAt K mg "is_safe_round" "is_safe_round" st_is_safe_round ["told", "by"] := defAt_of F_is_safe_round (He.glo_ok X G (c.fact 7 (f := .glo "is_safe_round") rfl)) fun _ _ _ _ _ _ us hl => match us, hl with | [_, _], _ => rfl
  have C_is_safe_round : Cal P w K mg base 3 "is_safe_round" "is_safe_round" st_is_safe_round ["told", "by"] y_is_safe_round := by
    apply ok_is_safe_round A_is_safe_round B <;> first | assumption | exact len_is_safe_round | exact law_is_safe_round
  obtain ⟨fd_safe_rounds, F_safe_rounds⟩ := c.def_ 8 (d := hd_safe_rounds) rfl
  have A_safe_rounds : DefAt K mg "safe_rounds" "safe_rounds" st_safe_rounds ["told"] := defAt_of F_safe_rounds (He.glo_ok X G (c.fact 8 (f := .glo "safe_rounds") rfl)) fun _ _ _ _ _ _ us hl => match us, hl with | [_], _ => rfl
  have C_safe_rounds : Cal P w K mg base 4 "safe_rounds" "safe_rounds" st_safe_rounds ["told"] y_safe_rounds := by
    apply ok_safe_rounds A_safe_rounds B <;> first | assumption | exact len_safe_rounds | exact law_safe_rounds
  obtain ⟨fd_law_feed, F_law_feed⟩ := c.def_ 9 (d := hd_law_feed) rfl
  have A_law_feed : DefAt K mg "_law_feed" "_law_feed" st_law_feed ["_law_script", "_law_base"] := defAt_of F_law_feed (He.glo_ok X G (c.fact 9 (f := .glo "_law_feed") rfl)) fun _ _ _ _ _ _ us hl => match us, hl with | [_, _], _ => rfl
  have C_law_feed : Cal P w K mg base 1 "_law_feed" "_law_feed" st_law_feed ["_law_script", "_law_base"] y_law_feed := by
    apply ok_law_feed A_law_feed B <;> first | assumption | exact len_law_feed | exact law_law_feed
  obtain ⟨fd_first_told, F_first_told⟩ := c.def_ 10 (d := hd_first_told) rfl
  have A_first_told : DefAt K mg "first_told" "first_told" st_first_told ["told"] := defAt_of F_first_told (He.glo_ok X G (c.fact 10 (f := .glo "first_told") rfl)) fun _ _ _ _ _ _ us hl => match us, hl with | [_], _ => rfl
  have C_first_told : Cal P w K mg base 1 "first_told" "first_told" st_first_told ["told"] y_first_told := by
    apply ok_first_told A_first_told B <;> first | assumption | exact len_first_told | exact law_first_told
  obtain ⟨fd_least_round, F_least_round⟩ := c.def_ 11 (d := hd_least_round) rfl
  have A_least_round : DefAt K mg "least_round" "least_round" st_least_round ["told"] := defAt_of F_least_round (He.glo_ok X G (c.fact 11 (f := .glo "least_round") rfl)) fun _ _ _ _ _ _ us hl => match us, hl with | [_], _ => rfl
  have C_least_round : Cal P w K mg base 5 "least_round" "least_round" st_least_round ["told"] y_least_round := by
    apply ok_least_round A_least_round B <;> first | assumption | exact len_least_round | exact law_least_round
  obtain ⟨fd_law_told, F_law_told⟩ := c.def_ 12 (d := hd_law_told) rfl
  have A_law_told : DefAt K mg "_law_told" "_law_told" st_law_told ["_law_some", "_law_far"] := defAt_of F_law_told (He.glo_ok X G (c.fact 12 (f := .glo "_law_told") rfl)) fun _ _ _ _ _ _ us hl => match us, hl with | [_, _], _ => rfl
  have C_law_told : Cal P w K mg base 1 "_law_told" "_law_told" st_law_told ["_law_some", "_law_far"] y_law_told := by
    apply ok_law_told A_law_told B <;> first | assumption | exact len_law_told | exact law_law_told
  obtain ⟨fd_law_has, F_law_has⟩ := c.def_ 13 (d := hd_law_has) rfl
  have A_law_has : DefAt K mg "_law_has" "_law_has" st_law_has ["_law_told_now", "_law_number"] := defAt_of F_law_has (He.glo_ok X G (c.fact 13 (f := .glo "_law_has") rfl)) fun _ _ _ _ _ _ us hl => match us, hl with | [_, _], _ => rfl
  have C_law_has : Cal P w K mg base 1 "_law_has" "_law_has" st_law_has ["_law_told_now", "_law_number"] y_law_has := by
    apply ok_law_has A_law_has B <;> first | assumption | exact len_law_has | exact law_law_has
  obtain ⟨fd_law, F_law⟩ := c.def_ 14 (d := hd_law) rfl
  have A_law : DefAt K mg "law" "law" st_law ["_law_script"] := defAt_of F_law (He.glo_ok X G (c.fact 14 (f := .glo "law") rfl)) fun _ _ _ _ _ _ us hl => match us, hl with | [_], _ => rfl
  have C_law : Cal P w K mg base 6 "law" "law" st_law ["_law_script"] y_law := by
    apply ok_law A_law B <;> first | assumption | exact len_law | exact law_law
  exact C_law
end DW
open PySem PySem.W PySem.Calls PyProof.Rows
theorem PySem.Challenge.cw_unfooled_k48_safe_rounds_by_trying_holds : PySem.Challenge.rw_unfooled_k48_safe_rounds_by_trying.Holds := by
  w_on; o_law
  refine HandSHeadRun.head_any (r := OpenLaw.row PySem.Challenge.rw_unfooled_k48_safe_rounds_by_trying) (q := view (OpenLaw.row PySem.Challenge.rw_unfooled_k48_safe_rounds_by_trying).prog [19]) (H := DW.hdK) (ob := DW.hdOb) (M := 3000) (loose := ["is_in", "least_period", "numbers_told", "LEAST", "divisor", "is_far_safe", "is_safe_round", "safe_rounds", "first_told", "least_round", "_law_feed", "_law_take", "_law_pick", "_law_drawn_told", "_law_has", "_law_told"]) (d := HandSHeadRun.topDef (OpenLaw.row PySem.Challenge.rw_unfooled_k48_safe_rounds_by_trying).prog 19) (kwd := []) DW.hdOb_eq
    (by kernel_rfl) (fun s => by kernel_rfl) DW.hdRun (by kernel_rfl) (by kernel_rfl) (by kernel_rfl) (by rfl) (by first | assumption | decide +kernel) (by decide +kernel) ⟨rfl, rfl, rfl, rfl, rfl, by decide +kernel⟩ ?hw ?hc
  case hw => w_witness2
  case hc =>
    refine DW.walkD (l := PySem.Challenge.rw_unfooled_k48_safe_rounds_by_trying) (n := 63) (k := 6) (x := "_law_script") (γ := DW.y_law) (st := DW.st_law) rfl (by decide) (by kernel_rfl) ⟨rfl, by decide, by decide⟩ (by kernel_rfl) (fun ns hn => ⟨ns, rfl, hn, fun _ => rfl⟩) ?F
    rintro w mg h ⟨K, KX, c⟩ G
    exact ⟨K, KX, fun base => DW.hdFacts KX G c base⟩
