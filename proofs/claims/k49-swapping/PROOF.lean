import PyProof.Rows.All
import Wide.All
import OpenK.AllK
import Wide.FinOn
import HandS.ForMost
import HandS.ForExc
import HandS.TupSets
import HandS.Strs
import KE.KeyNested
import HandS.More
import HandS.TupAny
import KE.LtSeq
import KE.KSortTupG
import HandS.SortOrd
import KE.GoesSet
import HandS.ExcCtx
import HandS.HotCalls
import HandS.WordsExc
import HandS.IsInst
import HandS.ExcIs
import HandS.Defaults
import HandS.DictComp
import HandS.Text
import PyProof.ExcBaseAll.ValueError
import HandS.Head0
import HandS.Head1
import HandS.Head2
import HandS.HeadEnd
import HandS.HeadHook1
import HandS.HeadHook2
import PySem.Challenge.RW_unseenswap_k49_swapping_built
set_option Elab.async false
set_option linter.all false
set_option maxRecDepth 100000
set_option maxHeartbeats 4000000
/-! DL1: data of any depth by value (tuples are no objects here), the store of what may change, readings over them -/
namespace DL
open PySem PySem.Spec PyProof.Rows L2

/-- a value: tuples by value, what may change by its address -/
inductive D where
  | non | bl (b : Bool) | int (i : Int) | str (x : Str) | tup (xs : List D) | ref (a : Addr) | ty (n : String)
  /-- a list of the written part -/
  | kl (xs : List D)
instance : Inhabited D := ⟨.non⟩
namespace D
mutual
def same : D → D → Bool
  | .non, .non => true
  | .bl a, .bl b => decide (a = b)
  | .int a, .int b => decide (a = b)
  | .str a, .str b => decide (a = b)
  | .ref a, .ref b => decide (a = b)
  | .ty a, .ty b => decide (a = b)
  | .tup a, .tup b => sames a b
  | .kl a, .kl b => sames a b
  | _, _ => false
def sames : List D → List D → Bool
  | [], [] => true
  | a :: as, b :: bs => same a b && sames as bs
  | _, _ => false
end
mutual
theorem same_refl : ∀ a : D, same a a = true
  | .non => by simp [same]
  | .bl _ => by simp [same]
  | .int _ => by simp [same]
  | .str _ => by simp [same]
  | .ref _ => by simp [same]
  | .ty _ => by simp [same]
  | .tup a => by rw [same]; exact sames_refl a
  | .kl a => by rw [same]; exact sames_refl a
theorem sames_refl : ∀ a : List D, sames a a = true
  | [] => by simp [sames]
  | a :: as => by rw [sames, same_refl a, sames_refl as]; rfl
end
mutual
theorem eq_of_same : ∀ a b : D, same a b = true → a = b := fun a b h => by
  cases a <;> cases b <;> first
    | (simp only [same, decide_eq_true_eq] at h; rw [h])
    | (simp [same] at h; done)
    | rfl
    | (rename_i xs ys; rw [same] at h; rw [eq_of_sames xs ys h])
theorem eq_of_sames : ∀ a b : List D, sames a b = true → a = b := fun a b h => by
  cases a <;> cases b
  · rfl
  · simp [sames] at h
  · simp [sames] at h
  · rename_i x xs y ys
    rw [sames, Bool.and_eq_true] at h
    rw [eq_of_same x y h.1, eq_of_sames xs ys h.2]
end
end D
instance : DecidableEq D := fun a b => if h : D.same a b = true then .isTrue (D.eq_of_same a b h) else .isFalse fun e => h (e ▸ D.same_refl a)

mutual
inductive Rep (K : PySem.W.Frag) (H : Hp) : D → V → Prop
  | non : Rep K H .non .non
  | bl (b : Bool) : Rep K H (.bl b) (.bl b)
  | int (i : Int) : Rep K H (.int i) (.int i)
  | str (x : Str) : Rep K H (.str x) (.str x)
  | ref (a : Addr) : Rep K H (.ref a) (.ref a)
  | ty (n : String) : Rep K H (.ty n) (.ty n)
  | tup {a : Addr} {vs : List V} {ds : List D} : SqT K H a vs → Reps K H ds vs → Rep K H (.tup ds) (.ref a)
  | kl {a : Addr} {vs : List V} {ds : List D} : (∀ H', SqL K H' a vs) → Reps K H ds vs → Rep K H (.kl ds) (.ref a)
inductive Reps (K : PySem.W.Frag) (H : Hp) : List D → List V → Prop
  | nil : Reps K H [] []
  | cons {d : D} {v : V} {ds : List D} {vs : List V} : Rep K H d v → Reps K H ds vs → Reps K H (d :: ds) (v :: vs)
end

/-- from one heap to a later one: tuples and locked things stay -/
structure Step (H H' : Hp) : Prop where
  tup : ∀ b xs, H b = some (.tup xs) → H' b = some (.tup xs)
  frz : ∀ b o u, H b = some (.frz o u) → H' b = some (.frz o u)
theorem Step.refl (H : Hp) : Step H H := ⟨fun _ _ h => h, fun _ _ _ h => h⟩
theorem Step.trans {H H1 H2 : Hp} (a : Step H H1) (b : Step H1 H2) : Step H H2 := ⟨fun c x h => b.tup c x (a.tup c x h), fun c o u h => b.frz c o u (a.frz c o u h)⟩
theorem Step.new {H : Hp} {p : Addr} {o : HO} (hp : H p = none) : Step H (upd H p o) :=
  ⟨fun b x h => by rw [upd_ne (ne_of_none h hp)]; exact h, fun b x u h => by rw [upd_ne (ne_of_none h hp)]; exact h⟩
/-- what may be written over -/
def Soft : HO → Prop
  | .tup _ => False
  | .frz _ _ => False
  | _ => True
theorem Step.put {H : Hp} {p : Addr} {u o : HO} (hp : H p = some u) (hs : Soft u) : Step H (upd H p o) := by
  refine ⟨fun b x h => ?_, fun b x w h => ?_⟩
  · have hb : b ≠ p := by rintro rfl; rw [hp] at h; cases h; exact hs
    rw [upd_ne hb]; exact h
  · have hb : b ≠ p := by rintro rfl; rw [hp] at h; cases h; exact hs
    rw [upd_ne hb]; exact h
theorem sqT_step {K : PySem.W.Frag} {H H' : Hp} {a : Addr} {xs : List V} (s : Step H H') (h : SqT K H a xs) : SqT K H' a xs := by
  rcases h with (h | ⟨o, h⟩) | h
  · exact .inl (.inl (s.tup _ _ h))
  · exact .inl (.inr ⟨o, s.frz _ _ _ h⟩)
  · exact .inr h
mutual
theorem Rep.step {K : PySem.W.Frag} {H H' : Hp} (s : Step H H') : ∀ {d : D} {v : V}, Rep K H d v → Rep K H' d v
  | _, _, .non => .non
  | _, _, .bl b => .bl b
  | _, _, .int i => .int i
  | _, _, .str x => .str x
  | _, _, .ref a => .ref a
  | _, _, .ty n => .ty n
  | _, _, .tup h hs => .tup (sqT_step s h) (Reps.step s hs)
  | _, _, .kl h hs => .kl h (Reps.step s hs)
theorem Reps.step {K : PySem.W.Frag} {H H' : Hp} (s : Step H H') : ∀ {ds : List D} {vs : List V}, Reps K H ds vs → Reps K H' ds vs
  | _, _, .nil => .nil
  | _, _, .cons h hs => .cons (Rep.step s h) (Reps.step s hs)
end
section
variable {K : PySem.W.Frag} {H : Hp}
theorem Reps.length : ∀ {ds : List D} {vs : List V}, Reps K H ds vs → vs.length = ds.length
  | _, _, .nil => rfl
  | _, _, .cons _ t => by simp [Reps.length t]
theorem Reps.append : ∀ {ds es : List D} {vs ws : List V}, Reps K H ds vs → Reps K H es ws → Reps K H (ds ++ es) (vs ++ ws)
  | _, _, _, _, .nil, s => s
  | _, _, _, _, .cons r t, s => .cons r (Reps.append t s)
theorem Reps.get : ∀ {ds : List D} {vs : List V} {i : Nat} {d : D}, Reps K H ds vs → ds[i]? = some d → ∃ v, vs[i]? = some v ∧ Rep K H d v
  | _, _, _, _, .nil, e => by simp at e
  | _, _, 0, _, .cons r _, e => by simp at e; subst e; exact ⟨_, rfl, r⟩
  | _, _, i + 1, d, .cons _ t, e => by
    obtain ⟨u, h1, h2⟩ := Reps.get (i := i) (d := d) t (by simpa using e)
    exact ⟨u, by simpa using h1, h2⟩
theorem Reps.getV : ∀ {ds : List D} {vs : List V} {i : Nat} {v : V}, Reps K H ds vs → vs[i]? = some v → ∃ d, ds[i]? = some d ∧ Rep K H d v
  | _, _, _, _, .nil, e => by simp at e
  | _, _, 0, _, .cons r _, e => by simp at e; subst e; exact ⟨_, rfl, r⟩
  | _, _, i + 1, d, .cons _ t, e => by
    obtain ⟨u, h1, h2⟩ := Reps.getV (i := i) (v := d) t (by simpa using e)
    exact ⟨u, by simpa using h1, h2⟩
theorem Reps.set {d : D} {v : V} (r : Rep K H d v) : ∀ {ds : List D} {vs : List V} (i : Nat), Reps K H ds vs → Reps K H (ds.set i d) (vs.set i v)
  | _, _, _, .nil => .nil
  | _, _, 0, .cons _ t => .cons r t
  | _, _, i + 1, .cons q t => .cons q (Reps.set r i t)
theorem Reps.take : ∀ {ds : List D} {vs : List V} (n : Nat), Reps K H ds vs → Reps K H (ds.take n) (vs.take n)
  | _, _, 0, _ => .nil
  | _, _, _ + 1, .nil => .nil
  | _, _, n + 1, .cons r t => .cons r (Reps.take n t)
theorem Reps.drop : ∀ {ds : List D} {vs : List V} (n : Nat), Reps K H ds vs → Reps K H (ds.drop n) (vs.drop n)
  | _, _, 0, r => r
  | _, _, _ + 1, .nil => .nil
  | _, _, n + 1, .cons _ t => Reps.drop n t
theorem Reps.eraseIdx : ∀ {ds : List D} {vs : List V} (n : Nat), Reps K H ds vs → Reps K H (ds.eraseIdx n) (vs.eraseIdx n)
  | _, _, _, .nil => .nil
  | _, _, 0, .cons _ t => t
  | _, _, n + 1, .cons r t => .cons r (Reps.eraseIdx n t)
theorem Reps.reverse : ∀ {ds : List D} {vs : List V}, Reps K H ds vs → Reps K H ds.reverse vs.reverse
  | _, _, .nil => .nil
  | _, _, .cons r t => by rw [List.reverse_cons, List.reverse_cons]; exact Reps.append (Reps.reverse t) (.cons r .nil)
theorem Reps.ints : ∀ {ns : List Int}, Reps K H (ns.map D.int) (ns.map V.int)
  | [] => .nil
  | n :: ns => .cons (.int n) (Reps.ints (ns := ns))
theorem Reps.ints_of : ∀ {ns : List Int} {vs : List V}, Reps K H (ns.map D.int) vs → vs = ns.map V.int
  | [], _, .nil => rfl
  | n :: ns, _, .cons r t => by cases r; rw [Reps.ints_of t]; rfl
end

/-! ### the store -/
mutual
def toN : D → NestedKey
  | .int i => .num i
  | .str x => .text x
  | .tup xs => .tup (toNs xs)
  | _ => .none
def toNs : List D → List NestedKey
  | [] => []
  | x :: xs => toN x :: toNs xs
end
mutual
/-- plain data: no bools, nothing that changes -/
def pl : D → Bool
  | .non => true
  | .int _ => true
  | .str _ => true
  | .tup xs => pls xs
  | _ => false
def pls : List D → Bool
  | [] => true
  | x :: xs => pl x && pls xs
end
theorem pls_all : ∀ xs : List D, pls xs = true ↔ ∀ x ∈ xs, pl x = true
  | [] => by simp [pls]
  | x :: xs => by rw [pls, Bool.and_eq_true, pls_all xs]; simp
theorem toNs_map : ∀ xs : List D, toNs xs = xs.map toN
  | [] => rfl
  | x :: xs => by rw [toNs, toNs_map xs]; rfl
mutual
theorem toN_inj : ∀ a b : D, pl a = true → pl b = true → toN a = toN b → a = b := fun a b h1 h2 e => by
  cases a <;> cases b <;> first
    | rfl
    | (simp [pl] at h1; done)
    | (simp [pl] at h2; done)
    | (simp [toN] at e; done)
    | (simp only [toN] at e; cases e; rfl)
    | (rename_i xs ys; simp only [toN] at e; rw [pl] at h1 h2; rw [toNs_inj xs ys h1 h2 (NestedKey.tup.inj e)])
theorem toNs_inj : ∀ a b : List D, pls a = true → pls b = true → toNs a = toNs b → a = b := fun a b h1 h2 e => by
  cases a <;> cases b
  · rfl
  · simp [toNs] at e
  · simp [toNs] at e
  · rename_i x xs y ys
    rw [pls, Bool.and_eq_true] at h1 h2
    simp only [toNs] at e
    injection e with e1 e2
    rw [toN_inj x y h1.1 h2.1 e1, toNs_inj xs ys h1.2 h2.2 e2]
end
/-! sets of keys -/
abbrev NL := List (Addr × NestedKey)
def nRows (w : World) (L : NL) : List (Int × Value) := L.map fun p => (p.2.hash w, Value.ref p.1)
/-- the set's own object -/
structure NSet0 (w : World) (o : Obj) (L : NL) (es : Array (Int × Value)) (ep : Nat) (t : SetTable) : Prop where
  ex : o.ExactSet
  dat : o.data = .set es ep t
  rows : es.toList = nRows w L
  tab : TabOk t (L.map fun p => p.2.hash w)
  nd : (L.map (·.2)).Nodup
  led : w.params.followText "set-order" = true ∨ t.led = true
  room : L.length * 5 < t.mask * 3
  few : L.length < 64
/-- the set at a, by its keys and where they lie -/
def NSO (w : World) (a : Addr) (L : NL) : HO := .ext fun h => ∃ o es ep t, h.get? a = some o ∧ NSet0 w o L es ep t
inductive MO where
  | lst (xs : List D)
  /-- a list that is read alone (the script) -/
  | fl (xs : List D)
  /-- a dict -/
  | dk (kvs : List (D × D))
  /-- an instance -/
  | ins (C dx : Addr) (fs : List (Str × D))
  /-- a set of ints: its members, how many -/
  | si (w : World) (S : Int → Bool) (n : Nat)
  /-- a set of tuples of plain data -/
  | st (w : World) (xs : List D)
abbrev DA := Addr → Option MO
abbrev DSt := List (Option D)
def keyD : D → Option Key
  | .int i => some (.inl i)
  | .str x => some (.inr x)
  | _ => none
def KVk (K : PySem.W.Frag) (H : Hp) : List (D × D) → List (Key × V) → Prop := Paired fun p q => keyD p.1 = some q.1 ∧ Rep K H p.2 q.2
def KVs (K : PySem.W.Frag) (H : Hp) {κ : Type} : List (κ × D) → List (κ × V) → Prop := Paired fun p q => p.1 = q.1 ∧ Rep K H p.2 q.2
def RepO (K : PySem.W.Frag) (H : Hp) (a : Addr) : MO → Prop
  | .lst ds => ∃ vs, H a = some (.lst vs) ∧ Reps K H ds vs
  | .fl ds => ∃ vs, Rd H a (.lst vs) ∧ Reps K H ds vs
  | .dk kvs => ∃ ws, H a = some (.dK ws) ∧ KVk K H kvs ws
  | .ins C dx fs => ∃ ws, H a = some (.ins C dx ws) ∧ KVs K H fs ws
  | .si w S n => H a = some (SetO w a S n)
  | .st w ds => ∃ L : NL, H a = some (NSO w a L) ∧ Reps K H ds (L.map fun p => V.ref p.1) ∧ L.map (·.2) = toNs ds ∧ pls ds = true
theorem RepO.mkL {K : PySem.W.Frag} {H : Hp} {a : Addr} {vs : List V} {ds : List D} (h : H a = some (.lst vs)) (r : Reps K H ds vs) : RepO K H a (.lst ds) := ⟨vs, h, r⟩
theorem RepO.mkD {K : PySem.W.Frag} {H : Hp} {a : Addr} {ws : List (Key × V)} {kvs : List (D × D)} (h : H a = some (.dK ws)) (r : KVk K H kvs ws) : RepO K H a (.dk kvs) := ⟨ws, h, r⟩
def RepA (K : PySem.W.Frag) (H : Hp) (A : DA) : Prop := ∀ a o, A a = some o → RepO K H a o
def RepS (K : PySem.W.Frag) (H : Hp) (τ : DSt) (σ : L2.St) : Prop := τ.length = σ.length ∧ ∀ (i : Nat) (d : D), τ[i]? = some (some d) → ∃ v, σ[i]? = some (some v) ∧ Rep K H d v
def updA (A : DA) (a : Addr) (o : MO) : DA := fun b => if b = a then some o else A b
theorem updA_same {A : DA} {a : Addr} {o : MO} : updA A a o a = some o := by unfold updA; rw [if_pos rfl]
theorem updA_ne {A : DA} {a b : Addr} {o : MO} (h : b ≠ a) : updA A a o b = A b := by unfold updA; rw [if_neg h]
theorem KVs.step {K : PySem.W.Frag} {H H' : Hp} {κ : Type} (s : Step H H') {l : List (κ × D)} {m : List (κ × V)} (h : KVs K H l m) : KVs K H' l m :=
  Paired.mapP h fun _ _ x => ⟨x.1, x.2.step s⟩
theorem KVk.step {K : PySem.W.Frag} {H H' : Hp} (s : Step H H') {l : List (D × D)} {m : List (Key × V)} (h : KVk K H l m) : KVk K H' l m :=
  Paired.mapP h fun _ _ x => ⟨x.1, x.2.step s⟩
section
variable {K : PySem.W.Frag} {H H' : Hp} {A A' : DA} {τ : DSt} {σ : L2.St}
theorem RepO.there {a : Addr} {o : MO} (h : RepO K H a o) : ∃ u, H a = some u := by
  cases o with
  | lst xs => obtain ⟨_, e, _⟩ := h; exact ⟨_, e⟩
  | fl xs => obtain ⟨_, e | ⟨_, e⟩, _⟩ := h <;> exact ⟨_, e⟩
  | dk kvs => obtain ⟨_, e, _⟩ := h; exact ⟨_, e⟩
  | ins C dx fs => obtain ⟨_, e, _⟩ := h; exact ⟨_, e⟩
  | si w S n => exact ⟨_, h⟩
  | st w ds => obtain ⟨_, e, _⟩ := h; exact ⟨_, e⟩
theorem RepA.free (r : RepA K H A) {p : Addr} (hp : H p = none) : A p = none := by
  cases e : A p with
  | none => rfl
  | some o =>
    obtain ⟨u, q⟩ := (r p o e).there
    rw [hp] at q; cases q
/-- what stands at a stays while a stays -/
theorem RepO.keep {a : Addr} {o : MO} (s : Step H H') (k : H' a = H a) (h : RepO K H a o) : RepO K H' a o := by
  cases o with
  | lst xs => obtain ⟨vs, e, r⟩ := h; exact ⟨vs, k.trans e, r.step s⟩
  | fl xs =>
    obtain ⟨vs, e, r⟩ := h
    refine ⟨vs, ?_, r.step s⟩
    rcases e with e | ⟨o, e⟩
    · exact .inl (k.trans e)
    · exact .inr ⟨o, k.trans e⟩
  | dk kvs => obtain ⟨vs, e, r⟩ := h; exact ⟨vs, k.trans e, r.step s⟩
  | ins C dx fs => obtain ⟨vs, e, r⟩ := h; exact ⟨vs, k.trans e, r.step s⟩
  | si w S n => exact k.trans h
  | st w ds => obtain ⟨L, e, r, q⟩ := h; exact ⟨L, k.trans e, r.step s, q⟩
theorem RepA.sub (r : RepA K H A) (h : ∀ b o, A' b = some o → A b = some o) : RepA K H A' := fun a o e => r a o (h a o e)
/-- a new thing that is not told -/
theorem RepA.hid (r : RepA K H A) {p : Addr} {u : HO} (hp : H p = none) : RepA K (upd H p u) A := fun a o e => by
  have hb : a ≠ p := by rintro rfl; rw [r.free hp] at e; cases e
  exact (r a o e).keep (.new hp) (upd_ne hb)
theorem RepA.new (r : RepA K H A) {p : Addr} {u : HO} {o : MO} (hp : H p = none) (ho : RepO K (upd H p u) p o) : RepA K (upd H p u) (updA A p o) := fun a o' e => by
  by_cases hb : a = p
  · subst hb; rw [updA_same] at e; cases e; exact ho
  · rw [updA_ne hb] at e
    exact (r a o' e).keep (.new hp) (upd_ne hb)
theorem RepA.put (r : RepA K H A) {p : Addr} {v u : HO} {o : MO} (hp : H p = some v) (hs : Soft v) (ho : RepO K (upd H p u) p o) : RepA K (upd H p u) (updA A p o) := fun a o' e => by
  by_cases hb : a = p
  · subst hb; rw [updA_same] at e; cases e; exact ho
  · rw [updA_ne hb] at e
    exact (r a o' e).keep (.put hp hs) (upd_ne hb)
theorem RepS.step (s : Step H H') (r : RepS K H τ σ) : RepS K H' τ σ := ⟨r.1, fun i d e => let ⟨v, h, q⟩ := r.2 i d e; ⟨v, h, q.step s⟩⟩
theorem RepS.set (r : RepS K H τ σ) {i : Nat} {d : D} {v : V} (q : Rep K H d v) : RepS K H (τ.set i (some d)) (σ.set i (some v)) := by
  refine ⟨by simpa using r.1, fun j e h => ?_⟩
  by_cases hj : j = i
  · subst hj
    by_cases hl : j < τ.length
    · rw [List.getElem?_set_self hl] at h
      cases h
      exact ⟨v, by rw [List.getElem?_set_self (by rw [← r.1]; exact hl)], q⟩
    · rw [List.getElem?_eq_none (by simpa using hl)] at h; cases h
  · rw [List.getElem?_set_ne (Ne.symm hj)] at h
    obtain ⟨w, h1, h2⟩ := r.2 j e h
    exact ⟨w, by rw [List.getElem?_set_ne (Ne.symm hj)]; exact h1, h2⟩
theorem RepS.wipe (r : RepS K H τ σ) {σ' : L2.St} (hl : σ'.length = σ.length) {τ' : DSt} (hl' : τ'.length = τ.length) (h : ∀ (i : Nat) (d : D), τ'[i]? = some (some d) → τ[i]? = some (some d) ∧ σ'[i]? = σ[i]?) : RepS K H τ' σ' := by
  refine ⟨by rw [hl', r.1, hl], fun i d e => ?_⟩
  obtain ⟨e1, e2⟩ := h i d e
  obtain ⟨v, h1, h2⟩ := r.2 i d e1
  exact ⟨v, by rw [e2]; exact h1, h2⟩
theorem RepS.start : ∀ {ds : List D} {vs : List V} (n : Nat), Reps K H ds vs → RepS K H (ds.map some ++ List.replicate n none) (vs.map some ++ List.replicate n none) := by
  intro ds vs n r
  refine ⟨by simp [r.length], fun i d e => ?_⟩
  by_cases hi : i < ds.length
  · rw [List.getElem?_append_left (by simpa using hi), List.getElem?_map] at e
    cases q : ds[i]? with
    | none => rw [q] at e; cases e
    | some d' =>
      rw [q] at e; cases e
      obtain ⟨v, h1, h2⟩ := r.get q
      exact ⟨v, by rw [List.getElem?_append_left (by simp [r.length]; exact hi), List.getElem?_map, h1]; rfl, h2⟩
  · rw [List.getElem?_append_right (by simpa using hi), List.getElem?_replicate] at e
    split at e <;> cases e
end

/-! ### readings -/
abbrev DK := D → DA → Prop
abbrev DE := DSt → DA → DK → Prop
abbrev DT := DSt → DA → (Bool → DA → Prop) → Prop
abbrev DAs := DSt → DA → (List D → DA → Prop) → Prop
structure DEnds where
  nx : DSt → DA → Prop
  rt : DK
  bk : DSt → DA → Prop := fun _ _ => False
  ct : DSt → DA → Prop := fun _ _ => False
  ex : Value → DSt → DA → Prop := fun _ _ _ => False
abbrev DS := DEnds → DSt → DA → Prop
/-- what is wanted over data, met by what is wanted over objects -/
def Kont (K : PySem.W.Frag) (H : Hp) (Q' : DK) (Q : VK) : Prop := ∀ d A v H', Q' d A → Step H H' → RepA K H' A → Rep K H' d v → Q v H'
def KontB (K : PySem.W.Frag) (H : Hp) (Q' : Bool → DA → Prop) (Q : Bool → Hp → Prop) : Prop := ∀ b A H', Q' b A → Step H H' → RepA K H' A → Q b H'
def KontA (K : PySem.W.Frag) (H : Hp) (Q' : List D → DA → Prop) (Q : List V → Hp → Prop) : Prop := ∀ d A v H', Q' d A → Step H H' → RepA K H' A → Reps K H' d v → Q v H'
def KontS (K : PySem.W.Frag) (H : Hp) (Q' : DSt → DA → Prop) (Q : L2.St → Hp → Prop) : Prop := ∀ τ A σ H', Q' τ A → Step H H' → RepA K H' A → RepS K H' τ σ → Q σ H'
theorem Kont.step {K : PySem.W.Frag} {H H' : Hp} {Q' : DK} {Q : VK} (s : Step H H') (k : Kont K H Q' Q) : Kont K H' Q' Q := fun d A v H2 q s2 => k d A v H2 q (s.trans s2)
theorem KontB.step {K : PySem.W.Frag} {H H' : Hp} {Q' : Bool → DA → Prop} {Q : Bool → Hp → Prop} (s : Step H H') (k : KontB K H Q' Q) : KontB K H' Q' Q := fun d A H2 q s2 => k d A H2 q (s.trans s2)
theorem KontA.step {K : PySem.W.Frag} {H H' : Hp} {Q' : List D → DA → Prop} {Q : List V → Hp → Prop} (s : Step H H') (k : KontA K H Q' Q) : KontA K H' Q' Q := fun d A v H2 q s2 => k d A v H2 q (s.trans s2)
theorem KontS.step {K : PySem.W.Frag} {H H' : Hp} {Q' : DSt → DA → Prop} {Q : L2.St → Hp → Prop} (s : Step H H') (k : KontS K H Q' Q) : KontS K H' Q' Q := fun d A v H2 q s2 => k d A v H2 q (s.trans s2)
/-- an own exception (no fields) that leaves -/
def KontX (K : PySem.W.Frag) (H : Hp) (Q' : Value → DSt → DA → Prop) (W : WX) : Prop := ∀ c τ A σ H', Q' c τ A → Step H H' → RepA K H' A → RepS K H' τ σ → W c none σ H'
theorem KontX.step {K : PySem.W.Frag} {H H' : Hp} {Q' : Value → DSt → DA → Prop} {W : WX} (s : Step H H') (k : KontX K H Q' W) : KontX K H' Q' W := fun c τ A σ H2 q s2 => k c τ A σ H2 q (s.trans s2)
structure KontE (K : PySem.W.Frag) (W : WX) (H : Hp) (E' : DEnds) (E : Ends) : Prop where
  nx : KontS K H E'.nx E.nx
  rt : Kont K H E'.rt E.rt
  bk : KontS K H E'.bk E.bk
  ct : KontS K H E'.ct E.ct
  ex : KontX K H E'.ex W
theorem KontE.step {K : PySem.W.Frag} {W : WX} {H H' : Hp} {E' : DEnds} {E : Ends} (s : Step H H') (k : KontE K W H E' E) : KontE K W H' E' E := ⟨k.nx.step s, k.rt.step s, k.bk.step s, k.ct.step s, k.ex.step s⟩
/-- the entry: slots and store as told -/
structure At (K : PySem.W.Frag) (H : Hp) (τ : DSt) (A : DA) (σ : L2.St) : Prop where
  s : RepS K H τ σ
  a : RepA K H A
theorem At.to {K : PySem.W.Frag} {H H' : Hp} {τ : DSt} {A A' : DA} {σ : L2.St} (x : At K H τ A σ) (s : Step H H') (r : RepA K H' A') : At K H' τ A' σ := ⟨x.s.step s, r⟩
def low (K : PySem.W.Frag) (t : DE) : TE := fun σ H Q => ∃ τ A Q', At K H τ A σ ∧ t τ A Q' ∧ Kont K H Q' Q
def lowT (K : PySem.W.Frag) (t : DT) : TT := fun σ H Q => ∃ τ A Q', At K H τ A σ ∧ t τ A Q' ∧ KontB K H Q' Q
def lowA (K : PySem.W.Frag) (t : DAs) : TA := fun σ H Q => ∃ τ A Q', At K H τ A σ ∧ t τ A Q' ∧ KontA K H Q' Q
def lowS (K : PySem.W.Frag) (W : WX) (t : DS) : TS := fun E σ H => ∃ τ A E', At K H τ A σ ∧ t E' τ A ∧ KontE K W H E' E
section
variable {X : Cx} {e : Expr} {es : List Expr} {st : Stmt} {sts : List Stmt}
abbrev DPE (X : Cx) (e : Expr) (t : DE) : Prop := PE X e (low X.K t)
abbrev DPT (X : Cx) (e : Expr) (t : DT) : Prop := PT X e (lowT X.K t)
abbrev DPW (X : Cx) (e : Expr) (t : DT) : Prop := PW X e (lowT X.K t)
abbrev DPA (X : Cx) (es : List Expr) (t : DAs) : Prop := PA X es (lowA X.K t)
abbrev DPS (X : Cx) (W : WX) (s : Stmt) (t : DS) : Prop := PS X s (lowS X.K W t)
abbrev DPSs (X : Cx) (W : WX) (s : List Stmt) (t : DS) : Prop := PSs X s (lowS X.K W t)
theorem _root_.L2.PE.imp {t u : TE} (h : PE X e t) (k : ∀ σ H Q, u σ H Q → t σ H Q) : PE X e u := ⟨fun pins s σ H Q I q => h.run pins s σ H Q I (k _ _ _ q)⟩
theorem _root_.L2.PT.imp {t u : TT} (h : PT X e t) (k : ∀ σ H Q, u σ H Q → t σ H Q) : PT X e u := ⟨fun pins s σ H Q I q => h.run pins s σ H Q I (k _ _ _ q)⟩
theorem _root_.L2.PW.imp {t u : TT} (h : PW X e t) (k : ∀ σ H Q, u σ H Q → t σ H Q) : PW X e u := ⟨fun wh pins s σ H Q I q => h.run wh pins s σ H Q I (k _ _ _ q)⟩
theorem _root_.L2.PA.imp {t u : TA} (h : PA X es t) (k : ∀ σ H Q, u σ H Q → t σ H Q) : PA X es u := ⟨fun p pins s σ H Q I q => h.run p pins s σ H Q I (k _ _ _ q)⟩
theorem _root_.L2.PS.imp {t u : TS} (h : PS X st t) (k : ∀ E σ H, u E σ H → t E σ H) : PS X st u := ⟨fun pins s σ H E I q => h.run pins s σ H E I (k _ _ _ q)⟩
theorem _root_.L2.PSs.imp {t u : TS} (h : PSs X sts t) (k : ∀ E σ H, u E σ H → t E σ H) : PSs X sts u := ⟨fun pins s σ H E I q => h.run pins s σ H E I (k _ _ _ q)⟩
end
end DL

set_option Elab.async false
set_option linter.all false
set_option maxRecDepth 100000
set_option maxHeartbeats 4000000
/-! DL2: expressions over data -/
namespace DL
open PySem PySem.Spec PyProof.Rows L2
section
variable {X : Cx} {a b c e : Expr} {ta tb tc : DE} {pos p2 : Pos}

/-! ### names, constants -/
def qVar (i : Nat) : DE := fun τ A Q => match τ[i]? with
  | some (some d) => Q d A
  | _ => False
def qC (d : D) : DE := fun _ A Q => Q d A
theorem qVar_some {i : Nat} {τ : DSt} {A : DA} {Q : DK} {d : D} (h : τ[i]? = some (some d)) (q : Q d A) : qVar i τ A Q := by unfold qVar; rw [h]; exact q
theorem low_var {i : Nat} {K : PySem.W.Frag} {σ : L2.St} {H : Hp} {Q : VK} (h : low K (qVar i) σ H Q) : tVar i σ H Q := by
  obtain ⟨τ, A, Q', x, q, k⟩ := h
  unfold qVar at q
  split at q
  · rename_i d e
    obtain ⟨v, h1, h2⟩ := x.s.2 i d e
    exact ⟨v, h1, k _ _ _ _ q (.refl H) x.a h2⟩
  · exact q.elim
theorem dv (i : Nat) {x : Str} {pos : Pos} (hN : X.N[i]? = some x := by rfl) (hv : Vis X.env.scope x := by first | exact Or.inl rfl | exact Or.inr (Or.inl rfl) | exact Or.inr (Or.inr rfl)) (hd : (x == ("__debug__" : Str)) = false := by decide)
    (hcd : (x == ("__classdict__" : Str)) = false := by decide) : DPE X (.Name x pos) (qVar i) := (pe_var hN hv hd hcd).imp fun _ _ _ h => low_var h
theorem low_c {d : D} {v : V} {K : PySem.W.Frag} (r : ∀ H, Rep K H d v) {σ : L2.St} {H : Hp} {Q : VK} (h : low K (qC d) σ H Q) : tC v σ H Q := by
  obtain ⟨τ, A, Q', x, q, k⟩ := h
  exact k _ _ _ _ q (.refl H) x.a (r H)
theorem d_int {i j} : DPE X (.Constant (.int i) j pos) (qC (.int i)) := pe_int.imp fun _ _ _ h => low_c (fun _ => .int i) h
theorem d_bl {x j} : DPE X (.Constant (.bool x) j pos) (qC (.bl x)) := pe_bl.imp fun _ _ _ h => low_c (fun _ => .bl x) h
theorem d_non {j} : DPE X (.Constant .none j pos) (qC .non) := pe_non.imp fun _ _ _ h => low_c (fun _ => .non) h
theorem d_str {x j} : DPE X (.Constant (.str x) j pos) (qC (.str x)) := pe_str.imp fun _ _ _ h => low_c (fun _ => .str x) h
theorem d_glob {x : Str} {g : Addr} (hg : Gl X x) (hm : X.mg x = some (.ref g)) (hd : (x == ("__debug__" : Str)) = false := by decide) : DPE X (.Name x pos) (qC (.ref g)) := (pe_glob (v := .ref g) hg hm rfl hd).imp fun _ _ _ h => low_c (fun _ => .ref g) h
theorem d_globI {x : Str} {i : Int} {t : Tok} (hg : Gl X x) (hm : X.mg x = some (.int i t)) (hd : (x == ("__debug__" : Str)) = false := by decide) : DPE X (.Name x pos) (qC (.int i)) := (pe_glob (v := .int i) hg hm ⟨t, rfl⟩ hd).imp fun _ _ _ h => low_c (fun _ => .int i) h
theorem d_type {x : Str} {n : String} (hg : Gl X x) (hm : X.mg x = none) (hv : bootBuiltins x = some (.type n)) (hn : x ≠ "__name__" := by decide) (hd : (x == ("__debug__" : Str)) = false := by decide) : DPE X (.Name x pos) (qC (.ty n)) :=
  (pe_bltn (v := .ty n) hg hm hv rfl hn hd).imp fun _ _ _ h => low_c (fun _ => .ty n) h

/-! ### operators -/
abbrev DR2 := D → D → DA → DK → Prop
abbrev DRs := List D → DA → DK → Prop
def lowR (K : PySem.W.Frag) (r : DR2) : R2 := fun x y H Q => ∃ d e A Q', Rep K H d x ∧ Rep K H e y ∧ RepA K H A ∧ r d e A Q' ∧ Kont K H Q' Q
def lowC (K : PySem.W.Frag) (r : DRs) : List V → Hp → VK → Prop := fun xs H Q => ∃ ds A Q', Reps K H ds xs ∧ RepA K H A ∧ r ds A Q' ∧ Kont K H Q' Q
def lowM (K : PySem.W.Frag) (r : D → DRs) : V → List V → Hp → VK → Prop := fun x xs H Q => ∃ d ds A Q', Rep K H d x ∧ Reps K H ds xs ∧ RepA K H A ∧ r d ds A Q' ∧ Kont K H Q' Q
theorem _root_.L2.OpR.imp {f : Value → Value → Sem Value} {r r' : R2} (h : OpR X f r) (k : ∀ x y H Q, r' x y H Q → r x y H Q) : OpR X f r' := fun pins s σ H x y v u Q I rx ry q => h pins s σ H x y v u Q I rx ry (k _ _ _ _ q)
theorem _root_.L2.IxR.imp {r r' : R2} (h : IxR X r) (k : ∀ x y H Q, r' x y H Q → r x y H Q) : IxR X r' := fun va sl pins s σ H x y v u Q I rx ry q => h va sl pins s σ H x y v u Q I rx ry (k _ _ _ _ q)
theorem _root_.L2.CallR.imp {f : Value} {r r' : List V → Hp → VK → Prop} (h : CallR X f r) (k : ∀ xs H Q, r' xs H Q → r xs H Q) : CallR X f r' := fun pins s σ H xs us Q I rx q => h pins s σ H xs us Q I rx (k _ _ _ q)
theorem _root_.L2.MtR.imp {id : String} {r r' : V → List V → Hp → VK → Prop} (h : MtR X id r) (k : ∀ x xs H Q, r' x xs H Q → r x xs H Q) : MtR X id r' := fun pins s σ H x xs v us Q I rx rs q => h pins s σ H x xs v us Q I rx rs (k _ _ _ _ q)
abbrev DOpR (X : Cx) (f : Value → Value → Sem Value) (r : DR2) : Prop := OpR X f (lowR X.K r)
abbrev DIxR (X : Cx) (r : DR2) : Prop := IxR X (lowR X.K r)
abbrev DCallR (X : Cx) (f : Value) (r : DRs) : Prop := CallR X f (lowC X.K r)
abbrev DMtR (X : Cx) (id : String) (r : D → DRs) : Prop := MtR X id (lowM X.K r)

def qOp (r : DR2) (ta tb : DE) : DE := fun τ A Q => ta τ A fun x A1 => tb τ A1 fun y A2 => r x y A2 Q
theorem low_op {K : PySem.W.Frag} {r : DR2} {σ : L2.St} {H : Hp} {Q : VK} (h : low K (qOp r ta tb) σ H Q) : tOp (lowR K r) (low K ta) (low K tb) σ H Q := by
  obtain ⟨τ, A, Q', x, q, k⟩ := h
  refine ⟨τ, A, _, x, q, fun d A1 v H1 q1 s1 r1 rd => ?_⟩
  refine ⟨τ, A1, _, x.to s1 r1, q1, fun e A2 u H2 q2 s2 r2 re => ?_⟩
  exact ⟨d, e, A2, Q', rd.step s2, re, r2, q2, k.step (s1.trans s2)⟩
theorem d_op {op : Operator} {r : DR2} (ho : DOpR X (binaryOp op) r) (ha : DPE X a ta) (hb : DPE X b tb) : DPE X (.BinOp a op b pos) (qOp r ta tb) := (pe_op ho ha hb).imp fun _ _ _ h => low_op h
theorem d_cmp {op : CmpOp} {r : DR2} (ho : DOpR X (compareOp op) r) (ha : DPE X a ta) (hb : DPE X b tb) (hm : behindInMarks op b = false := by first | exact nomark _ | rfl) : DPE X (.Compare a [op] [b] pos) (qOp r ta tb) := (pe_cmpR ho ha hb hm).imp fun _ _ _ h => low_op h
/-- a test: what comes is a bool -/
def qTest (t : DE) : DT := fun τ A Q => t τ A fun d A' => match d with
  | .bl k => Q k A'
  | _ => False
theorem low_test {K : PySem.W.Frag} {t : DE} {u : TE} (hu : ∀ σ H Q, low K t σ H Q → u σ H Q) {σ : L2.St} {H : Hp} {Q : Bool → Hp → Prop} (h : lowT K (qTest t) σ H Q) : tTest u σ H Q := by
  obtain ⟨τ, A, Q', x, q, k⟩ := h
  refine hu _ _ _ ⟨τ, A, _, x, q, fun d A1 v H1 q1 s1 r1 rd => ?_⟩
  cases rd <;> first
    | exact False.elim q1
    | exact ⟨_, rfl, k _ _ _ q1 s1 r1⟩
theorem dt_cmp {op : CmpOp} {r : DR2} (ho : DOpR X (compareOp op) r) (ha : DPE X a ta) (hb : DPE X b tb) (hm : behindInMarks op b = false := by first | exact nomark _ | rfl) : DPT X (.Compare a [op] [b] pos) (qTest (qOp r ta tb)) :=
  (pt_cmpR ho ha hb hm).imp fun _ _ _ h => low_test (fun _ _ _ => low_op) h
theorem dt_val {t : DE} (h : DPE X e t) (he : ∀ whole, isTrue e X.env whole = (do let v ← whole; standAt e.pos; holding [v] (truthy v)) := by intro _; rfl) : DPT X e (qTest t) := (pt_val h he).imp fun _ _ _ q => low_test (fun _ _ _ z => z) q
/-- two comparisons -/
def qChain (r r' : DR2) (ta tb tc : DE) : DE := fun τ A Q => ta τ A fun x A1 => tb τ A1 fun y A2 => r x y A2 fun z A3 => match z with
  | .bl true => tc τ A3 fun w A4 => r' y w A4 Q
  | .bl false => Q (.bl false) A3
  | _ => False
theorem low_chain {K : PySem.W.Frag} {r r' : DR2} {σ : L2.St} {H : Hp} {Q : VK} (h : low K (qChain r r' ta tb tc) σ H Q) : tChain (lowR K r) (lowR K r') (low K ta) (low K tb) (low K tc) σ H Q := by
  obtain ⟨τ, A, Q', x, q, k⟩ := h
  refine ⟨τ, A, _, x, q, fun d A1 v H1 q1 s1 r1 rd => ?_⟩
  refine ⟨τ, A1, _, x.to s1 r1, q1, fun e A2 u H2 q2 s2 r2 re => ?_⟩
  refine ⟨d, e, A2, _, rd.step s2, re, r2, q2, fun z A3 zv H3 q3 s3 r3 rz => ?_⟩
  have k3 := k.step ((s1.trans s2).trans s3)
  cases rz <;> try exact False.elim q3
  rename_i b
  refine ⟨b, rfl, ?_⟩
  cases b with
  | true =>
    rw [if_pos rfl]
    refine ⟨τ, A3, _, x.to ((s1.trans s2).trans s3) r3, q3, fun w A4 wv H4 q4 s4 r4 rw' => ?_⟩
    exact ⟨e, w, A4, Q', re.step (s3.trans s4), rw', r4, q4, k3.step s4⟩
  | false =>
    rw [if_neg (by decide)]
    exact k3 _ _ _ _ q3 (.refl _) r3 (.bl false)
theorem d_chain {op op' : CmpOp} {r r' : DR2} (ho : DOpR X (compareOp op) r) (ho' : DOpR X (compareOp op') r') (ha : DPE X a ta) (hb : DPE X b tb) (hc : DPE X c tc) (hm : lastMarks [op, op'] [b, c] = false := by with_unfolding_all rfl) :
    DPE X (.Compare a [op, op'] [b, c] pos) (qChain r r' ta tb tc) := (pe_chain ho ho' ha hb hc hm).imp fun _ _ _ h => low_chain h
theorem dt_chain {op op' : CmpOp} {r r' : DR2} (ho : DOpR X (compareOp op) r) (ho' : DOpR X (compareOp op') r') (ha : DPE X a ta) (hb : DPE X b tb) (hc : DPE X c tc) (hm : lastMarks [op, op'] [b, c] = false := by with_unfolding_all rfl) :
    DPT X (.Compare a [op, op'] [b, c] pos) (qTest (qChain r r' ta tb tc)) := (pt_chain ho ho' ha hb hc hm).imp fun _ _ _ h => low_test (fun _ _ _ => low_chain) h

/-! the single operators -/
/-- a pure operator -/
def rP (f : D → D → Option D) : DR2 := fun x y A Q => match f x y with
  | some z => Q z A
  | none => False
def rII (C : Int → Int → Prop) (g : Int → Int → D) : DR2 := fun x y A Q => match x, y with
  | .int i, .int j => C i j ∧ Q (g i j) A
  | _, _ => False
theorem lowII {K : PySem.W.Frag} {C : Int → Int → Prop} {g : Int → Int → D} {gv : Int → Int → V} (hg : ∀ i j H, Rep K H (g i j) (gv i j)) {x y : V} {H : Hp} {Q : VK} (h : lowR K (rII C g) x y H Q) : rI C gv x y H Q := by
  obtain ⟨d, e, A, Q', rd, re, ra, q, k⟩ := h
  cases rd <;> cases re <;> first
    | exact False.elim q
    | exact ⟨_, _, rfl, rfl, q.1, k _ _ _ _ q.2 (.refl _) ra (hg _ _ _)⟩
def rII0 (g : Int → Int → D) : DR2 := fun x y A Q => match x, y with
  | .int i, .int j => Q (g i j) A
  | _, _ => False
theorem lowII0 {K : PySem.W.Frag} {g : Int → Int → D} {gv : Int → Int → V} (hg : ∀ i j H, Rep K H (g i j) (gv i j)) {x y : V} {H : Hp} {Q : VK} (h : lowR K (rII0 g) x y H Q) : rI0 gv x y H Q := by
  obtain ⟨d, e, A, Q', rd, re, ra, q, k⟩ := h
  cases rd <;> cases re <;> first
    | exact False.elim q
    | exact ⟨_, _, rfl, rfl, k _ _ _ _ q (.refl _) ra (hg _ _ _)⟩
theorem do_add : DOpR X (binaryOp .Add) (rII0 fun i j => .int (i + j)) := op_add.imp fun _ _ _ _ h => lowII0 (fun _ _ _ => .int _) h
theorem do_sub : DOpR X (binaryOp .Sub) (rII0 fun i j => .int (i - j)) := op_sub.imp fun _ _ _ _ h => lowII0 (fun _ _ _ => .int _) h
theorem do_mul : DOpR X (binaryOp .Mult) (rII CMul fun i j => .int (i * j)) := op_mul.imp fun _ _ _ _ h => lowII (fun _ _ _ => .int _) h
theorem do_fdiv : DOpR X (binaryOp .FloorDiv) (rII CDiv fun i j => .int (i / j)) := op_fdiv.imp fun _ _ _ _ h => lowII (fun _ _ _ => .int _) h
theorem do_mod : DOpR X (binaryOp .Mod) (rII (fun _ j => 0 < j) fun i j => .int (i % j)) := op_mod.imp fun _ _ _ _ h => lowII (fun _ _ _ => .int _) h
theorem do_pow : DOpR X (binaryOp .Pow) (rII CPow fun i j => .int (i ^ j.toNat)) := op_pow.imp fun _ _ _ _ h => lowII (fun _ _ _ => .int _) h
theorem do_lt : DOpR X (compareOp .Lt) (rII0 fun i j => .bl (decide (i < j))) := op_lt.imp fun _ _ _ _ h => lowII0 (fun _ _ _ => .bl _) h
theorem do_le : DOpR X (compareOp .LtE) (rII0 fun i j => .bl (decide (i ≤ j))) := op_le.imp fun _ _ _ _ h => lowII0 (fun _ _ _ => .bl _) h
theorem do_gt : DOpR X (compareOp .Gt) (rII0 fun i j => .bl (decide (j < i))) := op_gt.imp fun _ _ _ _ h => lowII0 (fun _ _ _ => .bl _) h
theorem do_ge : DOpR X (compareOp .GtE) (rII0 fun i j => .bl (decide (j ≤ i))) := op_ge.imp fun _ _ _ _ h => lowII0 (fun _ _ _ => .bl _) h
def rCatS : DR2 := fun x y A Q => match x, y with
  | .str s, .str t => s.length + t.length ≤ sizeLine ∧ Q (.str (s ++ t)) A
  | _, _ => False
theorem do_cat_str : DOpR X (binaryOp .Add) rCatS := op_add_str.imp fun x y H Q h => by
  obtain ⟨d, e, A, Q', rd, re, ra, q, k⟩ := h
  cases rd <;> cases re <;> first
    | exact False.elim q
    | exact ⟨_, _, rfl, rfl, q.1, k _ _ _ _ q.2 (.refl _) ra (.str _)⟩
def isNon : D → Bool
  | .non => true
  | _ => false
def rIsN : DR2 := fun x y A Q => match y with
  | .non => Q (.bl (isNon x)) A
  | _ => False
def rNotN : DR2 := fun x y A Q => match y with
  | .non => Q (.bl (!isNon x)) A
  | _ => False
theorem isNon_rep {K : PySem.W.Frag} {H : Hp} {d : D} {v : V} (r : Rep K H d v) : decide (v = .non) = isNon d := by cases r <;> rfl
theorem do_isN : DOpR X (compareOp .Is) rIsN := op_isN.imp fun x y H Q h => by
  obtain ⟨d, e, A, Q', rd, re, ra, q, k⟩ := h
  cases re <;> first
    | exact False.elim q
    | exact ⟨rfl, by rw [isNon_rep rd]; exact k _ _ _ _ q (.refl _) ra (.bl _)⟩
theorem do_notN : DOpR X (compareOp .IsNot) rNotN := op_notN.imp fun x y H Q h => by
  obtain ⟨d, e, A, Q', rd, re, ra, q, k⟩ := h
  cases re <;> first
    | exact False.elim q
    | exact ⟨rfl, by rw [isNon_rep rd]; exact k _ _ _ _ q (.refl _) ra (.bl _)⟩

/-! ### data for == -/
mutual
inductive Py (A : DA) : D → PyData → Prop
  | non : Py A .non .none
  | bl (b : Bool) : Py A (.bl b) (.bool b)
  | int (i : Int) : Py A (.int i) (.int i)
  | str (x : Str) : Py A (.str x) (.str x)
  | tup {xs : List D} {ds : List PyData} : Pys A xs ds → Py A (.tup xs) (.tuple ds)
  | lst {a : Addr} {xs : List D} {ds : List PyData} : (A a = some (.lst xs) ∨ A a = some (.fl xs)) → Pys A xs ds → Py A (.ref a) (.list ds)
inductive Pys (A : DA) : List D → List PyData → Prop
  | nil : Pys A [] []
  | cons {x : D} {d : PyData} {xs : List D} {ds : List PyData} : Py A x d → Pys A xs ds → Pys A (x :: xs) (d :: ds)
end
theorem sqL_of {K : PySem.W.Frag} {H : Hp} {A : DA} (ra : RepA K H A) {a : Addr} {xs : List D} (h : A a = some (.lst xs) ∨ A a = some (.fl xs)) : ∃ vs, SqL K H a vs ∧ Reps K H xs vs := by
  rcases h with h | h
  · obtain ⟨vs, e, r⟩ := ra a _ h; exact ⟨vs, .of e, r⟩
  · obtain ⟨vs, e, r⟩ := ra a _ h; exact ⟨vs, .inl e, r⟩
mutual
theorem Py.dp {K : PySem.W.Frag} {H : Hp} {A : DA} (ra : RepA K H A) : ∀ {d : D} {p : PyData} {v : V}, Py A d p → Rep K H d v → Dp K H v p
  | _, _, _, .non, .non => .non
  | _, _, _, .bl b, .bl _ => .bl b
  | _, _, _, .int i, .int _ => .int i
  | _, _, _, .str x, .str _ => .str x
  | _, _, _, .tup h, .tup hq hr => .tup hq (Pys.dp ra h hr)
  | _, _, _, .lst (a := b) h hs, .ref _ => let ⟨_, hq, hr⟩ := sqL_of ra h; .lst hq (Pys.dp ra hs hr)
theorem Pys.dp {K : PySem.W.Frag} {H : Hp} {A : DA} (ra : RepA K H A) : ∀ {ds : List D} {ps : List PyData} {vs : List V}, Pys A ds ps → Reps K H ds vs → DpAll K H vs ps
  | _, _, _, .nil, .nil => .nil
  | _, _, _, .cons h hs, .cons r rs => .cons (Py.dp ra h r) (Pys.dp ra hs rs)
end
def rEqP (neg : Bool) : DR2 := fun x y A Q => ∃ p q, Py A x p ∧ Py A y q ∧ SeqAt.shaped p = true ∧ SeqAt.shaped q = true ∧ Q (.bl (if neg then !PyData.eqv p q else PyData.eqv p q)) A
theorem do_eqP (hu : X.A.units + 64 < cLine) : DOpR X (compareOp .Eq) (rEqP false) := (op_eqD hu).imp fun x y H Q h => by
  obtain ⟨d, e, A, Q', rd, re, ra, ⟨p, q, h1, h2, h3, h4, h5⟩, k⟩ := h
  exact ⟨p, q, h1.dp ra rd, h2.dp ra re, h3, h4, k _ _ _ _ h5 (.refl _) ra (.bl _)⟩
theorem do_neP (hu : X.A.units + 64 < cLine) : DOpR X (compareOp .NotEq) (rEqP true) := (op_neD hu).imp fun x y H Q h => by
  obtain ⟨d, e, A, Q', rd, re, ra, ⟨p, q, h1, h2, h3, h4, h5⟩, k⟩ := h
  exact ⟨p, q, h1.dp ra rd, h2.dp ra re, h3, h4, k _ _ _ _ h5 (.refl _) ra (.bl _)⟩
/-- flat data, by value -/
def flatP : D → Option PyData
  | .non => some .none
  | .bl b => some (.bool b)
  | .int i => some (.int i)
  | .str x => some (.str x)
  | _ => none
/-- == of flat data -/
def eqF (x y : D) : Option Bool := match flatP x, flatP y with
  | some p, some q => some (PyData.eqv p q)
  | _, _ => none
def rEqF (neg : Bool) : DR2 := fun x y A Q => match eqF x y with
  | some b => Q (.bl (if neg then !b else b)) A
  | none => False
theorem DOpR.imp {f : Value → Value → Sem Value} {r r' : DR2} (h : DOpR X f r) (k : ∀ x y A Q, r' x y A Q → r x y A Q) : DOpR X f r' := OpR.imp h fun x y H Q ⟨d, e, A, Q', rd, re, ra, q, kk⟩ => ⟨d, e, A, Q', rd, re, ra, k _ _ _ _ q, kk⟩
theorem strE {x y : Str} : decide (V.str x = V.str y) = PyData.eqv (.str x) (.str y) := by rw [dec_str]; rfl
theorem eqF_ok {K : PySem.W.Frag} {H : Hp} {d e : D} {x y : V} (rd : Rep K H d x) (re : Rep K H e y) {b : Bool} (h : eqF d e = some b) :
    (scal x y = true ∧ decide (x = y) = b) ∨ ∃ p q, Dp K H x p ∧ Dp K H y q ∧ SeqAt.shaped p = true ∧ SeqAt.shaped q = true ∧ PyData.eqv p q = b := by
  cases rd <;> cases re <;> cases h <;> first
    | exact .inl ⟨rfl, strE⟩
    | exact .inl ⟨rfl, rfl⟩
    | exact .inl ⟨rfl, decide_eq_false (fun z => nomatch z)⟩
    | exact .inr ⟨_, _, .bl _, .bl _, rfl, rfl, rfl⟩
    | exact .inr ⟨_, _, .bl _, .int _, rfl, rfl, rfl⟩
    | exact .inr ⟨_, _, .int _, .bl _, rfl, rfl, rfl⟩
    | exact .inr ⟨_, _, .int _, .int _, rfl, rfl, rfl⟩
theorem do_eq (hu : X.A.units + 64 < cLine) : DOpR X (compareOp .Eq) (rEqF false) := (op_eq.or (op_eqD hu)).imp fun x y H Q ⟨d, e, A, Q', rd, re, ra, h, k⟩ => by
  unfold rEqF at h
  cases hb : eqF d e with
  | none => rw [hb] at h; exact h.elim
  | some b =>
    rw [hb] at h
    have q := k _ _ _ _ h (.refl _) ra (.bl _)
    rcases eqF_ok rd re hb with ⟨h1, rfl⟩ | ⟨p, r, h1, h2, h3, h4, rfl⟩
    · exact .inl ⟨h1, q⟩
    · exact .inr ⟨p, r, h1, h2, h3, h4, q⟩
theorem do_ne (hu : X.A.units + 64 < cLine) : DOpR X (compareOp .NotEq) (rEqF true) := (op_ne.or (op_neD hu)).imp fun x y H Q ⟨d, e, A, Q', rd, re, ra, h, k⟩ => by
  unfold rEqF at h
  cases hb : eqF d e with
  | none => rw [hb] at h; exact h.elim
  | some b =>
    rw [hb] at h
    have q := k _ _ _ _ h (.refl _) ra (.bl _)
    rcases eqF_ok rd re hb with ⟨h1, rfl⟩ | ⟨p, r, h1, h2, h3, h4, rfl⟩
    · exact .inl ⟨h1, q⟩
    · exact .inr ⟨p, r, h1, h2, h3, h4, q⟩

/-! ### and, or, not, if -/
variable {tA tB tC' : DT} {rest : List Expr}
def qAnd (t u : DT) : DT := fun τ A Q => t τ A fun c A1 => if c = true then u τ A1 Q else Q false A1
def qOr (t u : DT) : DT := fun τ A Q => t τ A fun c A1 => if c = true then Q true A1 else u τ A1 Q
def qNot (t : DT) : DT := fun τ A Q => t τ A fun c A1 => Q (!c) A1
theorem dw_and1 (ha : DPT X a tA) : DPW X (.BoolOp .And [a] pos) tA := pw_and1 ha
theorem dw_or1 (ha : DPT X a tA) : DPW X (.BoolOp .Or [a] pos) tA := pw_or1 ha
theorem dw_and (ha : DPT X a tA) (hb : DPW X (.BoolOp .And (b :: rest) pos) tB) : DPW X (.BoolOp .And (a :: b :: rest) pos) (qAnd tA tB) := (pw_and ha hb).imp fun σ H Q ⟨τ, A, Q', x, q, k⟩ => by
  refine ⟨τ, A, _, x, q, fun d A1 H1 q1 s1 r1 => ?_⟩
  cases d with
  | true =>
    rw [if_pos rfl] at q1 ⊢
    exact ⟨τ, A1, Q', x.to s1 r1, q1, k.step s1⟩
  | false =>
    rw [if_neg (by decide)] at q1 ⊢
    exact k _ _ _ q1 s1 r1
theorem dw_or (ha : DPT X a tA) (hb : DPW X (.BoolOp .Or (b :: rest) pos) tB) : DPW X (.BoolOp .Or (a :: b :: rest) pos) (qOr tA tB) := (pw_or ha hb).imp fun σ H Q ⟨τ, A, Q', x, q, k⟩ => by
  refine ⟨τ, A, _, x, q, fun d A1 H1 q1 s1 r1 => ?_⟩
  cases d with
  | false =>
    rw [if_neg (by decide)] at q1 ⊢
    exact ⟨τ, A1, Q', x.to s1 r1, q1, k.step s1⟩
  | true =>
    rw [if_pos rfl] at q1 ⊢
    exact k _ _ _ q1 s1 r1
theorem dt_not (ha : DPT X a tA) : DPT X (.UnaryOp .Not a pos) (qNot tA) := (pt_not ha).imp fun σ H Q ⟨τ, A, Q', x, q, k⟩ => ⟨τ, A, _, x, q, fun d A1 H1 q1 s1 r1 => k _ _ _ q1 s1 r1⟩
/-- .. as values, of bools -/
def qAndV (ta tb : DE) : DE := fun τ A Q => ta τ A fun d A1 => match d with
  | .bl true => tb τ A1 Q
  | .bl false => Q (.bl false) A1
  | _ => False
def qOrV (ta tb : DE) : DE := fun τ A Q => ta τ A fun d A1 => match d with
  | .bl true => Q (.bl true) A1
  | .bl false => tb τ A1 Q
  | _ => False
def qNotV (ta : DE) : DE := fun τ A Q => ta τ A fun d A1 => match d with
  | .bl k => Q (.bl (!k)) A1
  | _ => False
theorem d_one {op} {t : DE} (h : DPE X a t) : DPE X (.BoolOp op [a] pos) t := pe_one h
theorem d_and (ha : DPE X a ta) (hb : DPE X (.BoolOp .And (b :: rest) pos) tb) : DPE X (.BoolOp .And (a :: b :: rest) pos) (qAndV ta tb) := (pe_and ha hb).imp fun σ H Q ⟨τ, A, Q', x, q, k⟩ => by
  refine ⟨τ, A, _, x, q, fun d A1 v H1 q1 s1 r1 rd => ?_⟩
  cases rd <;> try exact False.elim q1
  rename_i z
  refine ⟨z, rfl, ?_⟩
  cases z with
  | true => rw [if_pos rfl]; exact ⟨τ, A1, Q', x.to s1 r1, q1, k.step s1⟩
  | false => rw [if_neg (by decide)]; exact k _ _ _ _ q1 s1 r1 (.bl _)
theorem d_or (ha : DPE X a ta) (hb : DPE X (.BoolOp .Or (b :: rest) pos) tb) : DPE X (.BoolOp .Or (a :: b :: rest) pos) (qOrV ta tb) := (pe_or ha hb).imp fun σ H Q ⟨τ, A, Q', x, q, k⟩ => by
  refine ⟨τ, A, _, x, q, fun d A1 v H1 q1 s1 r1 rd => ?_⟩
  cases rd <;> try exact False.elim q1
  rename_i z
  refine ⟨z, rfl, ?_⟩
  cases z with
  | false => rw [if_neg (by decide)]; exact ⟨τ, A1, Q', x.to s1 r1, q1, k.step s1⟩
  | true => rw [if_pos rfl]; exact k _ _ _ _ q1 s1 r1 (.bl _)
theorem d_not (ha : DPE X a ta) : DPE X (.UnaryOp .Not a pos) (qNotV ta) := (pe_not ha).imp fun σ H Q ⟨τ, A, Q', x, q, k⟩ => by
  refine ⟨τ, A, _, x, q, fun d A1 v H1 q1 s1 r1 rd => ?_⟩
  cases rd <;> try exact False.elim q1
  exact ⟨_, rfl, k _ _ _ _ q1 s1 r1 (.bl _)⟩
def qIf (t : DT) (ta tb : DE) : DE := fun τ A Q => t τ A fun c A1 => if c = true then ta τ A1 Q else tb τ A1 Q
theorem d_if (hc : DPT X c tA) (ha : DPE X a ta) (hb : DPE X b tb) : DPE X (.IfExp c a b pos) (qIf tA ta tb) := (pe_ifExp hc ha hb).imp fun σ H Q ⟨τ, A, Q', x, q, k⟩ => by
  refine ⟨τ, A, _, x, q, fun d A1 H1 q1 s1 r1 => ?_⟩
  cases d with
  | true =>
    rw [if_pos rfl] at q1 ⊢
    exact ⟨τ, A1, Q', x.to s1 r1, q1, k.step s1⟩
  | false =>
    rw [if_neg (by decide)] at q1 ⊢
    exact ⟨τ, A1, Q', x.to s1 r1, q1, k.step s1⟩

/-! ### truth -/
def truS : DA → D → Option Bool
  | _, .non => some false
  | _, .bl k => some k
  | _, .int i => some (i != 0)
  | _, .tup xs => some (!xs.isEmpty)
  | _, .kl xs => some (!xs.isEmpty)
  | A, .ref a => match A a with
    | some (.lst xs) => some (!xs.isEmpty)
    | some (.fl xs) => some (!xs.isEmpty)
    | some (.dk kvs) => some (!kvs.isEmpty)
    | _ => none
  | _, _ => none
def qTru (t : DE) : DT := fun τ A Q => t τ A fun d A1 => match truS A1 d with
  | some k => Q k A1
  | none => False
theorem emptyR {K : PySem.W.Frag} {H : Hp} {ds : List D} {vs : List V} (r : Reps K H ds vs) : (!ds.isEmpty) = !vs.isEmpty := by cases r <;> rfl
theorem emptyP {α β : Type} {F : α → β → Prop} {ds : List α} {vs : List β} (r : Paired F ds vs) : (!ds.isEmpty) = !vs.isEmpty := by cases r <;> rfl
theorem truS_ok {K : PySem.W.Frag} {H : Hp} {A : DA} (ra : RepA K H A) {d : D} {v : V} (r : Rep K H d v) {k : Bool} (h : truS A d = some k) : TruV K v H k := by
  cases r with
  | non => cases h; rfl
  | bl b => cases h; rfl
  | int i => cases h; rfl
  | str x => cases h
  | ty n => cases h
  | tup hq hr => cases h; exact .inr (.inl ⟨_, hq, emptyR hr⟩)
  | kl hq hr => cases h; exact .inl ⟨_, hq _, emptyR hr⟩
  | ref a =>
    simp only [truS] at h
    split at h
    · rename_i xs e
      cases h
      obtain ⟨vs, e, hr⟩ := ra a _ e
      exact .inl ⟨vs, .of e, emptyR hr⟩
    · rename_i xs e
      cases h
      obtain ⟨vs, e, hr⟩ := ra a _ e
      exact .inl ⟨vs, .inl e, emptyR hr⟩
    · rename_i kvs e
      cases h
      obtain ⟨vs, e, hr⟩ := ra a _ e
      exact .inr (.inr ⟨vs, e, emptyP hr⟩)
    · cases h
theorem dt_tru (ha : DPE X a ta) (he : ∀ whole, isTrue a X.env whole = (do let v ← whole; standAt a.pos; holding [v] (truthy v)) := by intro _; rfl) : DPT X a (qTru ta) := (pt_truth ha he).imp fun σ H Q ⟨τ, A, Q', x, q, k⟩ => by
  refine ⟨τ, A, _, x, q, fun d A1 v H1 q1 s1 r1 rd => ?_⟩
  split at q1
  · rename_i kk e
    exact ⟨kk, truS_ok r1 rd e, k _ _ _ q1 s1 r1⟩
  · exact q1.elim
end
end DL

set_option Elab.async false
set_option linter.all false
set_option maxRecDepth 100000
set_option maxHeartbeats 4000000
/-! DL3: displays, subscripts, slices, calls, methods, dicts -/
namespace DL
open PySem PySem.Spec PyProof.Rows L2

/-- a new thing at p -/
structure New (A : DA) (p : Addr) (o : MO) (A' : DA) : Prop where
  free : A p = none
  eq : A' = updA A p o
/-- what stood at p is changed -/
structure Put (A : DA) (p : Addr) (o : MO) (A' : DA) : Prop where
  there : ∃ u, A p = some u
  eq : A' = updA A p o
section
variable {A A' : DA} {p b : Addr} {o u : MO}
theorem New.get (h : New A p o A') : A' p = some o := by rw [h.eq, updA_same]
theorem New.ne (h : New A p o A') (e : A b = some u) : b ≠ p := by rintro rfl; rw [h.free] at e; cases e
theorem New.ext (h : New A p o A') (e : A b = some u) : A' b = some u := by rw [h.eq, updA_ne (h.ne e)]; exact e
theorem New.none (h : New A p o A') (e : A b = none) (n : b ≠ p) : A' b = none := by rw [h.eq, updA_ne n]; exact e
theorem Put.get (h : Put A p o A') : A' p = some o := by rw [h.eq, updA_same]
theorem Put.ext (h : Put A p o A') (n : b ≠ p) (e : A b = some u) : A' b = some u := by rw [h.eq, updA_ne n]; exact e
theorem Put.none (h : Put A p o A') (e : A b = none) : A' b = none := by
  rw [h.eq, updA_ne]; · exact e
  rintro rfl
  obtain ⟨u, q⟩ := h.there
  rw [e] at q; cases q
end
/-- all that stood stands -/
def Ext (A A' : DA) : Prop := ∀ b o, A b = some o → A' b = some o
theorem Ext.refl (A : DA) : Ext A A := fun _ _ h => h
theorem Ext.trans {A B C : DA} (h : Ext A B) (k : Ext B C) : Ext A C := fun b o e => k b o (h b o e)
theorem New.ex {A A' : DA} {p : Addr} {o : MO} (h : New A p o A') : Ext A A' := fun _ _ e => h.ext e

def items? (A : DA) : D → Option (List D)
  | .tup xs => some xs
  | .kl xs => some xs
  | .ref a => match A a with
    | some (.lst xs) => some xs
    | some (.fl xs) => some xs
    | _ => none
  | _ => none
theorem items_lst {A : DA} {a : Addr} {xs : List D} (h : A a = some (.lst xs)) : items? A (.ref a) = some xs := by simp [items?, h]
theorem items_fl {A : DA} {a : Addr} {xs : List D} (h : A a = some (.fl xs)) : items? A (.ref a) = some xs := by simp [items?, h]
theorem items_tup {A : DA} {xs : List D} : items? A (.tup xs) = some xs := rfl
theorem items_ext {A A' : DA} (h : Ext A A') {x : D} {xs : List D} (e : items? A x = some xs) : items? A' x = some xs := by
  cases x with
  | tup ys => exact e
  | kl ys => exact e
  | ref a =>
    simp only [items?] at e
    split at e <;> first
      | cases e; rename_i q; first | exact items_lst (h _ _ q) | exact items_fl (h _ _ q)
      | cases e
  | _ => cases e
/-- what it is for objects -/
theorem items_seq {K : PySem.W.Frag} {H : Hp} {A : DA} (ra : RepA K H A) {x : D} {v : V} {xs : List D} (e : items? A x = some xs) (r : Rep K H x v) : ∃ a vs, v = .ref a ∧ (SqL K H a vs ∨ SqT K H a vs) ∧ Reps K H xs vs := by
  cases r with
  | tup hq hr => cases e; exact ⟨_, _, rfl, .inr hq, hr⟩
  | kl hq hr => cases e; exact ⟨_, _, rfl, .inl (hq _), hr⟩
  | ref a =>
    simp only [items?] at e
    split at e <;> first
      | (cases e; rename_i q; obtain ⟨vs, h1, h2⟩ := ra a _ q; exact ⟨a, vs, rfl, .inl (.of h1), h2⟩)
      | (cases e; rename_i q; obtain ⟨vs, h1, h2⟩ := ra a _ q; exact ⟨a, vs, rfl, .inl (.inl h1), h2⟩)
      | cases e
  | _ => cases e

section
variable {X : Cx} {a b c e o : Expr} {ta tb tc : DE} {pos p2 p apos : Pos} {es : List Expr} {t : DAs}

/-! ### argument lists, displays -/
def qNil : DAs := fun _ A Q => Q [] A
def qCons (ta : DE) (tr : DAs) : DAs := fun τ A Q => ta τ A fun x A1 => tr τ A1 fun xs A2 => Q (x :: xs) A2
theorem da_nil : DPA X [] qNil := pa_nil.imp fun σ H Q ⟨τ, A, Q', x, q, k⟩ => k _ _ _ _ q (.refl _) x.a .nil
theorem da_cons {te : DE} (ha : DPE X e te) (hr : DPA X es t) (hs : starEach (e :: es) X.env = (false, eval e X.env) :: starEach es X.env := by rfl) : DPA X (e :: es) (qCons te t) := (pa_cons ha hr hs).imp fun σ H Q ⟨τ, A, Q', x, q, k⟩ =>
  ⟨τ, A, _, x, q, fun d A1 v H1 q1 s1 r1 rd => ⟨τ, A1, _, x.to s1 r1, q1, fun ds A2 vs H2 q2 s2 r2 rs => k _ _ _ _ q2 (s1.trans s2) r2 (.cons (rd.step s2) rs)⟩⟩
def qTup (t : DAs) : DE := fun τ A Q => t τ A fun xs A1 => xs.length ≤ sizeLine ∧ Q (.tup xs) A1
def qLst (t : DAs) : DE := fun τ A Q => t τ A fun xs A1 => xs.length ≤ sizeLine ∧ ∀ p A', New A1 p (.lst xs) A' → Q (.ref p) A'
theorem d_tup {x1} (h : DPA X es t) : DPE X (.Tuple es x1 pos) (qTup t) := (pe_tup h).imp fun σ H Q ⟨τ, A, Q', x, q, k⟩ =>
  ⟨τ, A, _, x, q, fun ds A1 vs H1 ⟨hl, q1⟩ s1 r1 rs => ⟨by rw [rs.length]; exact hl, fun p hp => k _ _ _ _ q1 (s1.trans (.new hp)) (r1.hid hp) (.tup (.of upd_same) (rs.step (.new hp)))⟩⟩
theorem kont_new {K : PySem.W.Frag} {H H1 : Hp} {Q' : DK} {Q : VK} {A1 : DA} {p : Addr} {o : MO} {u : HO} (k : Kont K H Q' Q) (s1 : Step H H1) (r1 : RepA K H1 A1) (hp : H1 p = none) (ro : RepO K (upd H1 p u) p o) (q : ∀ p A', New A1 p o A' → Q' (.ref p) A') : Q (.ref p) (upd H1 p u) :=
  k _ _ _ _ (q p _ ⟨r1.free hp, rfl⟩) (s1.trans (.new hp)) (r1.new hp ro) (.ref p)
theorem d_lst (h : DPA X es t) : DPE X (.List es pos) (qLst t) := (pe_lst h).imp fun σ H Q ⟨τ, A, Q', x, q, k⟩ =>
  ⟨τ, A, _, x, q, fun ds A1 vs H1 ⟨hl, q1⟩ s1 r1 rs => ⟨by rw [rs.length]; exact hl, fun p hp => kont_new k s1 r1 hp (.mkL upd_same (rs.step (.new hp))) q1⟩⟩

/-! ### subscripts -/
theorem Reps.atI {K : PySem.W.Frag} {H : Hp} {ds : List D} {vs : List V} {i : Int} {d : D} (r : Reps K H ds vs) (h : atI ds i = some d) : ∃ v, atI vs i = some v ∧ Rep K H d v := by
  unfold L2.atI at h ⊢
  rw [r.length]
  cases e : ixN ds.length i with
  | none => rw [e] at h; cases h
  | some j =>
    rw [e] at h
    exact r.get h
/-- xs[i], a list or a tuple -/
def rIx : DR2 := fun x y A Q => ∃ xs i v, items? A x = some xs ∧ y = .int i ∧ atI xs i = some v ∧ Q v A
def rIxS : DR2 := fun x y A Q => ∃ z i c, x = .str z ∧ y = .int i ∧ z.length ≤ sizeLine ∧ atI z.cps.toList i = some c ∧ Q (.str ⟨#[c]⟩) A
theorem dix : DIxR X rIx := (ix_list.or ix_tup).imp fun x y H Q ⟨d, e, A, Q', rd, re, ra, ⟨xs, i, w, h1, h2, h3, q⟩, k⟩ => by
  subst h2
  cases re
  obtain ⟨a, vs, rfl, hs, hr⟩ := items_seq ra h1 rd
  obtain ⟨v, hv, rv⟩ := hr.atI h3
  have q' := k _ _ _ _ q (.refl _) ra rv
  rcases hs with hs | hs
  · exact .inl ⟨a, vs, i, v, rfl, rfl, hs, hv, q'⟩
  · exact .inr ⟨a, vs, i, v, rfl, rfl, hs, hv, q'⟩
theorem dix_str : DIxR X rIxS := ix_str.imp fun x y H Q ⟨d, e, A, Q', rd, re, ra, ⟨z, i, c, h1, h2, h3, h4, q⟩, k⟩ => by
  subst h1 h2
  cases rd
  cases re
  exact ⟨z, i, c, rfl, rfl, h3, h4, k _ _ _ _ q (.refl _) ra (.str _)⟩
theorem d_ix {r : DR2} (hr : DIxR X r) (ha : DPE X a ta) (hb : DPE X b tb) (hs : PlainIx b := by exact fun _ _ => rfl) : DPE X (.Subscript a b pos) (qOp r ta tb) := (pe_ix hr ha hb hs).imp fun _ _ _ h => low_op h

/-! ### slices -/
abbrev DO := DSt → DA → (Option Int → DA → Prop) → Prop
def lowO (K : PySem.W.Frag) (t : DO) : TO := fun σ H Q => ∃ τ A Q', At K H τ A σ ∧ t τ A Q' ∧ ∀ i A1 H1, Q' i A1 → Step H H1 → RepA K H1 A1 → Q i H1
abbrev DPO (X : Cx) (e : Option Expr) (t : DO) : Prop := PO X e (lowO X.K t)
def qNoPart : DO := fun _ A Q => Q none A
def qPart (t : DE) : DO := fun τ A Q => t τ A fun d A1 => match d with
  | .int i => Q (some i) A1
  | _ => False
theorem _root_.L2.PO.imp {e : Option Expr} {t u : TO} (h : PO X e t) (k : ∀ σ H Q, u σ H Q → t σ H Q) : PO X e u := ⟨fun pins s σ H Q I q => h.run pins s σ H Q I (k _ _ _ q)⟩
theorem dO_none : DPO X none qNoPart := po_none.imp fun σ H Q ⟨τ, A, Q', x, q, k⟩ => k _ _ _ q (.refl _) x.a
theorem dO_some {te : DE} (h : DPE X e te) : DPO X (some e) (qPart te) := (po_some h).imp fun σ H Q ⟨τ, A, Q', x, q, k⟩ => ⟨τ, A, _, x, q, fun d A1 v H1 q1 s1 r1 rd => by
  cases rd <;> first
    | exact False.elim q1
    | exact ⟨_, rfl, k _ _ _ q1 s1 r1⟩⟩
abbrev DSl := D → Option Int → Option Int → DA → DK → Prop
def lowSl (K : PySem.W.Frag) (r : DSl) : V → Option Int → Option Int → Hp → VK → Prop := fun x lo hi H Q => ∃ d A Q', Rep K H d x ∧ RepA K H A ∧ r d lo hi A Q' ∧ Kont K H Q' Q
abbrev DSlR (X : Cx) (r : DSl) : Prop := SlR X (lowSl X.K r)
theorem _root_.L2.SlR.imp {r r' : V → Option Int → Option Int → Hp → VK → Prop} (h : SlR X r) (k : ∀ x lo hi H Q, r' x lo hi H Q → r x lo hi H Q) : SlR X r' := fun pins s σ H x v vl vu lo hi sl Q I rx hs pl pu q => h pins s σ H x v vl vu lo hi sl Q I rx hs pl pu (k _ _ _ _ _ q)
def qSl (r : DSl) (te : DE) (tl th : DO) : DE := fun τ A Q => te τ A fun x A1 => tl τ A1 fun l A2 => th τ A2 fun u A3 => r x l u A3 Q
theorem d_slice {r : DSl} {te : DE} {lo hi : Option Expr} {tl th : DO} (hr : DSlR X r) (he : DPE X e te) (hl : DPO X lo tl) (hu : DPO X hi th) : DPE X (.Subscript e (.Slice lo hi none p2) pos) (qSl r te tl th) := (pe_slice hr he hl hu).imp fun σ H Q ⟨τ, A, Q', x, q, k⟩ =>
  ⟨τ, A, _, x, q, fun d A1 v H1 q1 s1 r1 rd => ⟨τ, A1, _, x.to s1 r1, q1, fun i A2 H2 q2 s2 r2 => ⟨τ, A2, _, x.to (s1.trans s2) r2, q2, fun j A3 H3 q3 s3 r3 => ⟨d, A3, Q', rd.step (s2.trans s3), r3, q3, k.step (s1.trans (s2.trans s3))⟩⟩⟩⟩
def cut {α : Type} (xs : List α) (lo hi : Option Int) : List α := (xs.drop (HT.sIx xs.length 0 lo)).take (HT.sIx xs.length xs.length hi - HT.sIx xs.length 0 lo)
theorem Reps.cut {K : PySem.W.Frag} {H : Hp} {ds : List D} {vs : List V} (lo hi : Option Int) (r : Reps K H ds vs) : Reps K H (cut ds lo hi) (cutV vs lo hi) := by
  unfold DL.cut cutV
  rw [r.length]
  exact (r.drop _).take _
/-- a list, not a tuple -/
def isL : D → Bool
  | .ref _ => true
  | .kl _ => true
  | _ => false
theorem list_of {K : PySem.W.Frag} {H : Hp} {A : DA} (ra : RepA K H A) {x : D} {v : V} {xs : List D} (hl : isL x = true) (e : items? A x = some xs) (r : Rep K H x v) : ∃ a vs, v = .ref a ∧ SqL K H a vs ∧ Reps K H xs vs := by
  cases r with
  | kl hq hr => cases e; exact ⟨_, _, rfl, hq _, hr⟩
  | ref a =>
    simp only [items?] at e
    split at e <;> first
      | (cases e; rename_i q; obtain ⟨vs, h1, h2⟩ := ra a _ q; exact ⟨a, vs, rfl, .of h1, h2⟩)
      | (cases e; rename_i q; obtain ⟨vs, h1, h2⟩ := ra a _ q; exact ⟨a, vs, rfl, .inl h1, h2⟩)
      | cases e
  | _ => cases hl
/-- a list's slice: a new list -/
def rSlL : DSl := fun x lo hi A Q => ∃ xs, isL x = true ∧ items? A x = some xs ∧ ∀ p A', New A p (.lst (cut xs lo hi)) A' → Q (.ref p) A'
theorem dsl_list : DSlR X rSlL := sl_list.imp fun x lo hi H Q ⟨d, A, Q', rd, ra, ⟨xs, h1, h2, q⟩, k⟩ => by
  obtain ⟨a, vs, rfl, hq, hr⟩ := list_of ra h1 h2 rd
  exact ⟨a, vs, rfl, hq, fun p hp => kont_new k (.refl _) ra hp (.mkL upd_same ((hr.cut lo hi).step (.new hp))) q⟩
/-- a tuple's slice, not the whole of it -/
def rSlT : DSl := fun x lo hi A Q => ∃ xs, x = .tup xs ∧ ¬ (HT.sIx xs.length 0 lo = 0 ∧ HT.sIx xs.length xs.length hi = xs.length) ∧ Q (.tup (cut xs lo hi)) A
theorem dsl_tup : DSlR X rSlT := sl_tup.imp fun x lo hi H Q ⟨d, A, Q', rd, ra, ⟨xs, h1, h2, q⟩, k⟩ => by
  subst h1
  cases rd with
  | tup hq hr =>
    exact ⟨_, _, rfl, hq, by rw [hr.length]; exact h2, fun p hp => k _ _ _ _ q (.new hp) (ra.hid hp) (.tup (.of upd_same) ((hr.cut lo hi).step (.new hp)))⟩
def rSlS : DSl := fun x lo hi A Q => ∃ z, x = .str z ∧ z.length ≤ sizeLine ∧ Q (.str (cutS z lo hi)) A
theorem dsl_str : DSlR X rSlS := sl_str.imp fun x lo hi H Q ⟨d, A, Q', rd, ra, ⟨z, h1, h2, q⟩, k⟩ => by
  subst h1
  cases rd
  exact ⟨z, rfl, h2, k _ _ _ _ q (.refl _) ra (.str _)⟩

/-! ### built-ins by name -/
def qCB (r : DRs) (t : DAs) : DE := fun τ A Q => t τ A fun ds A1 => r ds A1 Q
theorem low_cb {K : PySem.W.Frag} {r : DRs} {σ : L2.St} {H : Hp} {Q : VK} (h : low K (qCB r t) σ H Q) : tCB (lowC K r) (lowA K t) σ H Q := by
  obtain ⟨τ, A, Q', x, q, k⟩ := h
  exact ⟨τ, A, _, x, q, fun ds A1 vs H1 q1 s1 r1 rs => ⟨ds, A1, Q', rs, r1, q1, k.step s1⟩⟩
theorem d_callB {x : Str} {id : String} {r : DRs} (hc : DCallR X (.builtin id) r) (hg : Gl X x) (hm : X.mg x = none) (hv : bootBuiltins x = some (.builtin id)) (ha : DPA X (e :: es) t) (hn : x ≠ "__name__" := by decide) (hdb : (x == ("__debug__" : Str)) = false := by decide)
    (he : starEach (e :: es) X.env = (false, eval e X.env) :: starEach es X.env := by rfl) (hpl : (backTo pos (starEach es X.env)).any (·.1) = false := by rfl) : DPE X (.Call (.Name x p) (e :: es) [] pos) (qCB r t) := (pe_callB hc hg hm hv ha hn hdb he hpl).imp fun _ _ _ h => low_cb h
theorem d_callTy {x : Str} {T : String} {r : DRs} (hc : DCallR X (.type T) r) (hg : Gl X x) (hm : X.mg x = none) (hv : bootBuiltins x = some (.type T)) (ha : DPA X (e :: es) t) (hn : x ≠ "__name__" := by decide) (hdb : (x == ("__debug__" : Str)) = false := by decide)
    (he : starEach (e :: es) X.env = (false, eval e X.env) :: starEach es X.env := by rfl) (hpl : (backTo pos (starEach es X.env)).any (·.1) = false := by rfl) : DPE X (.Call (.Name x p) (e :: es) [] pos) (qCB r t) := (pe_callTy hc hg hm hv ha hn hdb he hpl).imp fun _ _ _ h => low_cb h
def rAbs : DRs := fun ds A Q => match ds with
  | [.int i] => Q (.int (if i < 0 then -i else i)) A
  | _ => False
theorem reps1 {K : PySem.W.Frag} {H : Hp} {d : D} {vs : List V} (r : Reps K H [d] vs) : ∃ v, vs = [v] ∧ Rep K H d v := by
  cases r with
  | cons r t => cases t; exact ⟨_, rfl, r⟩
theorem reps2 {K : PySem.W.Frag} {H : Hp} {d e : D} {vs : List V} (r : Reps K H [d, e] vs) : ∃ v w, vs = [v, w] ∧ Rep K H d v ∧ Rep K H e w := by
  cases r with
  | cons r t => obtain ⟨w, rfl, q⟩ := reps1 t; exact ⟨_, _, rfl, r, q⟩
theorem dc_abs : DCallR X (.builtin "abs") rAbs := call_abs.imp fun xs H Q ⟨ds, A, Q', rs, ra, q, k⟩ => by
  unfold rAbs at q
  split at q
  · obtain ⟨v, rfl, r⟩ := reps1 rs
    cases r
    exact ⟨_, rfl, k _ _ _ _ q (.refl _) ra (.int _)⟩
  · exact q.elim
def rInt1 : DRs := fun ds A Q => match ds with
  | [.int i] => Q (.int i) A
  | [.bl b] => Q (.int (if b then 1 else 0)) A
  | _ => False
theorem dc_int1 : DCallR X (.type "int") rInt1 := call_int1.imp fun xs H Q ⟨ds, A, Q', rs, ra, q, k⟩ => by
  unfold rInt1 at q
  split at q
  · obtain ⟨v, rfl, r⟩ := reps1 rs
    cases r
    exact .inl ⟨_, rfl, k _ _ _ _ q (.refl _) ra (.int _)⟩
  · obtain ⟨v, rfl, r⟩ := reps1 rs
    cases r
    exact .inr ⟨_, rfl, k _ _ _ _ q (.refl _) ra (.int _)⟩
  · exact q.elim
def rStrI : DRs := fun ds A Q => match ds with
  | [.int i] => i.natAbs.log2 < 1920 ∧ Q (.str (toString i)) A
  | _ => False
theorem dc_str : DCallR X (.type "str") rStrI := call_str_int.imp fun xs H Q ⟨ds, A, Q', rs, ra, q, k⟩ => by
  unfold rStrI at q
  split at q
  · obtain ⟨v, rfl, r⟩ := reps1 rs
    cases r
    exact ⟨_, rfl, q.1, k _ _ _ _ q.2 (.refl _) ra (.str _)⟩
  · exact q.elim
/-- len of a list or tuple -/
def rLen : DRs := fun ds A Q => ∃ x xs, ds = [x] ∧ items? A x = some xs ∧ Q (.int xs.length) A
theorem dc_len : DCallR X (.builtin "len") rLen := call_len_seq.imp fun xs H Q ⟨ds, A, Q', rs, ra, ⟨x, ys, h1, h2, q⟩, k⟩ => by
  subst h1
  obtain ⟨v, rfl, r⟩ := reps1 rs
  obtain ⟨a, vs, rfl, hs, hr⟩ := items_seq ra h2 r
  exact ⟨a, vs, rfl, hs, by rw [hr.length]; exact k _ _ _ _ q (.refl _) ra (.int _)⟩
def rList : DRs := fun ds A Q => ∃ x xs, ds = [x] ∧ items? A x = some xs ∧ ∀ p A', New A p (.lst xs) A' → Q (.ref p) A'
theorem dc_list : DCallR X (.type "list") rList := call_list_of.imp fun xs H Q ⟨ds, A, Q', rs, ra, ⟨x, ys, h1, h2, q⟩, k⟩ => by
  subst h1
  obtain ⟨v, rfl, r⟩ := reps1 rs
  obtain ⟨a, vs, rfl, hs, hr⟩ := items_seq ra h2 r
  exact ⟨a, vs, rfl, hs, fun p hp => kont_new k (.refl _) ra hp (.mkL upd_same (hr.step (.new hp))) q⟩
def rTuple : DRs := fun ds A Q => ∃ x xs, ds = [x] ∧ items? A x = some xs ∧ Q (.tup xs) A
theorem dc_tuple : DCallR X (.type "tuple") rTuple := call_tuple_of.imp fun xs H Q ⟨ds, A, Q', rs, ra, ⟨x, ys, h1, h2, q⟩, k⟩ => by
  subst h1
  obtain ⟨v, rfl, r⟩ := reps1 rs
  obtain ⟨a, vs, rfl, hs, hr⟩ := items_seq ra h2 r
  refine ⟨a, vs, rfl, ?_⟩
  rcases hs with hs | hs
  · exact .inl ⟨hs, fun p hp => k _ _ _ _ q (.new hp) (ra.hid hp) (.tup (.of upd_same) (hr.step (.new hp)))⟩
  · exact .inr ⟨hs, k _ _ _ _ q (.refl _) ra (.tup hs hr)⟩
def rMaxI : DRs := fun ds A Q => ∃ (a : Addr) (ns : List Int), ds = [.ref a] ∧ A a = some (.lst (ns.map D.int)) ∧ 0 < ns.length ∧ ∀ m, m ∈ ns → (∀ y, y ∈ ns → y ≤ m) → Q (.int m) A
theorem dc_max (hc : X.calm = true) : DCallR X (.builtin "max") rMaxI := (cr_max hc).imp fun xs H Q ⟨ds, A, Q', rs, ra, ⟨a, ns, h1, h2, h3, q⟩, k⟩ => by
  subst h1
  obtain ⟨v, rfl, r⟩ := reps1 rs
  cases r
  obtain ⟨vs, e, hr⟩ := ra a _ h2
  rw [hr.ints_of] at e
  exact ⟨a, ns, rfl, .of e, h3, fun m h4 h5 => k _ _ _ _ (q m h4 h5) (.refl _) ra (.int _)⟩
def rMinI : DRs := fun ds A Q => ∃ (a : Addr) (ns : List Int), ds = [.ref a] ∧ A a = some (.lst (ns.map D.int)) ∧ 0 < ns.length ∧ ∀ m, m ∈ ns → (∀ y, y ∈ ns → m ≤ y) → Q (.int m) A
theorem dc_min (hc : X.calm = true) : DCallR X (.builtin "min") rMinI := (cr_min hc).imp fun xs H Q ⟨ds, A, Q', rs, ra, ⟨a, ns, h1, h2, h3, q⟩, k⟩ => by
  subst h1
  obtain ⟨v, rfl, r⟩ := reps1 rs
  cases r
  obtain ⟨vs, e, hr⟩ := ra a _ h2
  rw [hr.ints_of] at e
  exact ⟨a, ns, rfl, .of e, h3, fun m h4 h5 => k _ _ _ _ (q m h4 h5) (.refl _) ra (.int _)⟩
/-- max of two ints -/
def rMax2 : DRs := fun ds A Q => match ds with
  | [.int i, .int j] => Q (.int (if j > i then j else i)) A
  | _ => False
theorem dc_max2 (hc : X.calm = true) : DCallR X (.builtin "max") rMax2 := (call_max2 hc).imp fun xs H Q ⟨ds, A, Q', rs, ra, q, k⟩ => by
  unfold rMax2 at q
  split at q
  · obtain ⟨v, w, rfl, r1, r2⟩ := reps2 rs
    cases r1
    cases r2
    exact ⟨_, _, rfl, k _ _ _ _ q (.refl _) ra (.int _)⟩
  · exact q.elim
def rMin2 : DRs := fun ds A Q => match ds with
  | [.int i, .int j] => Q (.int (if j < i then j else i)) A
  | _ => False
theorem dc_min2 (hc : X.calm = true) : DCallR X (.builtin "min") rMin2 := (call_min2 hc).imp fun xs H Q ⟨ds, A, Q', rs, ra, q, k⟩ => by
  unfold rMin2 at q
  split at q
  · obtain ⟨v, w, rfl, r1, r2⟩ := reps2 rs
    cases r1
    cases r2
    exact ⟨_, _, rfl, k _ _ _ _ q (.refl _) ra (.int _)⟩
  · exact q.elim

/-! ### in, not in -/
def inF (x : D) : List D → Option Bool
  | [] => some false
  | y :: ys => match eqF y x, inF x ys with
    | some b, some c => some (b || c)
    | _, _ => none
theorem eqF_V {K : PySem.W.Frag} {H : Hp} {d e : D} {x y : V} (rd : Rep K H d x) (re : Rep K H e y) {b : Bool} (h : eqF d e = some b) : flatV x = true ∧ flatV y = true ∧ eqV x y = b := by
  cases rd <;> cases re <;> cases h <;> exact ⟨rfl, rfl, rfl⟩
theorem inF_V {K : PySem.W.Frag} {H : Hp} {d : D} {x : V} (rd : Rep K H d x) : ∀ {ds : List D} {vs : List V} {b : Bool}, Reps K H ds vs → inF d ds = some b → (ds ≠ [] → flatV x = true) ∧ vs.all flatV = true ∧ inV x vs = b
  | _, _, _, .nil, h => by cases h; exact ⟨fun z => absurd rfl z, rfl, rfl⟩
  | _, _, _, .cons (d := e) (ds := es) r t, h => by
    unfold inF at h
    cases h1 : eqF e d with
    | none => rw [h1] at h; cases h
    | some b1 =>
      cases h2 : inF d es with
      | none => rw [h1, h2] at h; cases h
      | some b2 =>
        rw [h1, h2] at h; cases h
        obtain ⟨f1, f2, f3⟩ := eqF_V r rd h1
        obtain ⟨_, g2, g3⟩ := inF_V rd t h2
        refine ⟨fun _ => f2, ?_, ?_⟩
        · rw [List.all_cons, f1, g2]; rfl
        · unfold inV at g3 ⊢
          rw [List.any_cons, f3, g3]
def rInQ (neg : Bool) : DR2 := fun x y A Q => ∃ xs b, items? A y = some xs ∧ (flatP x).isSome = true ∧ inF x xs = some b ∧ Q (.bl (if neg then !b else b)) A
theorem flatP_V {K : PySem.W.Frag} {H : Hp} {d : D} {x : V} (rd : Rep K H d x) (h : (flatP d).isSome = true) : flatV x = true := by cases rd <;> first | rfl | cases h
theorem do_in : DOpR X (compareOp .In) (rInQ false) := op_in_seq.imp fun x y H Q ⟨d, e, A, Q', rd, re, ra, ⟨xs, b, h1, h2, h3, q⟩, k⟩ => by
  obtain ⟨a, vs, rfl, hs, hr⟩ := items_seq ra h1 re
  obtain ⟨_, f2, f3⟩ := inF_V rd hr h3
  refine ⟨a, vs, rfl, hs, flatP_V rd h2, f2, ?_⟩
  rw [f3]
  exact k _ _ _ _ q (.refl _) ra (.bl _)
theorem do_notin : DOpR X (compareOp .NotIn) (rInQ true) := op_notIn_seq.imp fun x y H Q ⟨d, e, A, Q', rd, re, ra, ⟨xs, b, h1, h2, h3, q⟩, k⟩ => by
  obtain ⟨a, vs, rfl, hs, hr⟩ := items_seq ra h1 re
  obtain ⟨_, f2, f3⟩ := inF_V rd hr h3
  refine ⟨a, vs, rfl, hs, flatP_V rd h2, f2, ?_⟩
  rw [f3]
  exact k _ _ _ _ q (.refl _) ra (.bl _)

/-! ### methods of lists -/
/-- l.m(args), l a list that may change -/
abbrev DRM := Addr → List D → DA → DK → Prop
def qMt (r : DRM) (to : DE) (t : DAs) : DE := fun τ A Q => to τ A fun x A1 => ∃ l xs, x = .ref l ∧ A1 l = some (.lst xs) ∧ t τ A1 fun ds A2 => r l ds A2 Q
def lowL (K : PySem.W.Frag) (r : DRM) : V → List V → Hp → VK → Prop := fun x xs H Q => ∃ l ds A Q', x = .ref l ∧ Reps K H ds xs ∧ RepA K H A ∧ r l ds A Q' ∧ Kont K H Q' Q
abbrev DMt (X : Cx) (id : String) (r : DRM) : Prop := MtR X id (lowL X.K r)
theorem low_mt {K : PySem.W.Frag} {r : DRM} {σ : L2.St} {H : Hp} {Q : VK} {to : DE} (h : low K (qMt r to t) σ H Q) : tBM K "list" (lowL K r) (low K to) (lowA K t) σ H Q := by
  obtain ⟨τ, A, Q', x, q, k⟩ := h
  refine ⟨τ, A, _, x, q, fun d A1 v H1 ⟨l, xs, e, hl, q1⟩ s1 r1 rd => ?_⟩
  subst e
  cases rd
  obtain ⟨vs, e, hr⟩ := r1 l _ hl
  exact ⟨.inl ⟨rfl, vs, .of e⟩, τ, A1, _, x.to s1 r1, q1, fun ds A2 ws H2 q2 s2 r2 rs => ⟨l, ds, A2, Q', rfl, rs, r2, q2, k.step (s1.trans s2)⟩⟩
theorem low_mt0 {K : PySem.W.Frag} {r : DRM} {σ : L2.St} {H : Hp} {Q : VK} {to : DE} (h : low K (qMt r to qNil) σ H Q) : tBM0 K "list" (lowL K r) (low K to) σ H Q := by
  obtain ⟨τ, A, Q', x, q, k⟩ := h
  refine ⟨τ, A, _, x, q, fun d A1 v H1 ⟨l, xs, e, hl, q1⟩ s1 r1 rd => ?_⟩
  subst e
  cases rd
  obtain ⟨vs, e, hr⟩ := r1 l _ hl
  exact ⟨.inl ⟨rfl, vs, .of e⟩, l, [], A1, Q', rfl, .nil, r1, q1, k.step s1⟩
theorem kont_put {K : PySem.W.Frag} {H : Hp} {Q' : DK} {Q : VK} {A : DA} {p : Addr} {o : MO} {v u : HO} {d : D} {w : V} (k : Kont K H Q' Q) (ra : RepA K H A) (hp : H p = some v) (hs : Soft v) (ho : ∃ x, A p = some x) (ro : RepO K (upd H p u) p o) (rd : Rep K H d w)
    (q : ∀ A', Put A p o A' → Q' d A') : Q w (upd H p u) := k _ _ _ _ (q _ ⟨ho, rfl⟩) (.put hp hs) (ra.put hp hs ro) (rd.step (.put hp hs))
def rAppend : DRM := fun l ds A Q => ∃ xs y, ds = [y] ∧ A l = some (.lst xs) ∧ xs.length < sizeLine ∧ ∀ A', Put A l (.lst (xs ++ [y])) A' → Q .non A'
theorem dm_append : DMt X "list.append" rAppend := MtR.imp mt_append fun x xs H Q ⟨l, ds, A, Q', h1, rs, ra, ⟨ys, y, h2, h3, h4, q⟩, k⟩ => by
  subst h1 h2
  obtain ⟨v, rfl, r⟩ := reps1 rs
  obtain ⟨vs, e, hr⟩ := ra l _ h3
  exact ⟨l, vs, v, rfl, rfl, e, by rw [hr.length]; exact h4, kont_put k ra e True.intro ⟨_, h3⟩ (.mkL upd_same ((hr.append (.cons r .nil)).step (.put e True.intro))) .non q⟩
def rPop : DRM := fun l ds A Q => ∃ xs y, ds = [] ∧ A l = some (.lst xs) ∧ xs[xs.length - 1]? = some y ∧ ∀ A', Put A l (.lst xs.dropLast) A' → Q y A'
theorem Reps.dropLast {K : PySem.W.Frag} {H : Hp} {ds : List D} {vs : List V} (r : Reps K H ds vs) : Reps K H ds.dropLast vs.dropLast := by
  rw [List.dropLast_eq_take, List.dropLast_eq_take, r.length]
  exact r.take _
theorem dm_pop : DMt X "list.pop" rPop := MtR.imp mt_pop fun x xs H Q ⟨l, ds, A, Q', h1, rs, ra, ⟨ys, y, h2, h3, h4, q⟩, k⟩ => by
  subst h1 h2
  cases rs
  obtain ⟨vs, e, hr⟩ := ra l _ h3
  obtain ⟨v, hv, rv⟩ := hr.get h4
  exact ⟨l, vs, v, rfl, rfl, e, by rw [hr.length]; exact hv, kont_put k ra e True.intro ⟨_, h3⟩ (.mkL upd_same (hr.dropLast.step (.put e True.intro))) rv q⟩
/-- l.pop(i), 0 ≤ i -/
def rPopAt : DRM := fun l ds A Q => ∃ xs i y, ds = [.int i] ∧ A l = some (.lst xs) ∧ 0 ≤ i ∧ i < 2 ^ 63 ∧ xs[i.toNat]? = some y ∧ ∀ A', Put A l (.lst (xs.eraseIdx i.toNat)) A' → Q y A'
theorem dm_popAt : DMt X "list.pop" rPopAt := MtR.imp mt_popAt fun x xs H Q ⟨l, ds, A, Q', h1, rs, ra, ⟨ys, i, y, h2, h3, h4, h5, h6, q⟩, k⟩ => by
  subst h1 h2
  obtain ⟨v, rfl, r⟩ := reps1 rs
  cases r
  obtain ⟨vs, e, hr⟩ := ra l _ h3
  obtain ⟨v, hv, rv⟩ := hr.get h6
  have hlt : i.toNat < ys.length := (List.getElem?_eq_some_iff.mp h6).1
  refine ⟨l, vs, i, i.toNat, v, rfl, rfl, e, by omega, h5, ?_, hv, kont_put k ra e True.intro ⟨_, h3⟩ (.mkL upd_same ((hr.eraseIdx _).step (.put e True.intro))) rv q⟩
  exact (ixN_seq (n := vs.length) (i := i) (j := i.toNat) (by unfold ixN; rw [if_pos h4, if_pos (by rw [hr.length]; omega)])).1
def rInsert : DRM := fun l ds A Q => ∃ xs i y, ds = [.int i, y] ∧ A l = some (.lst xs) ∧ xs.length < sizeLine ∧ 0 ≤ i ∧ i < 2 ^ 63 ∧ ∀ A', Put A l (.lst (xs.take i.toNat ++ [y] ++ xs.drop i.toNat)) A' → Q .non A'
theorem dm_insert : DMt X "list.insert" rInsert := MtR.imp mt_insert fun x xs H Q ⟨l, ds, A, Q', h1, rs, ra, ⟨ys, i, y, h2, h3, h4, h5, h6, q⟩, k⟩ => by
  subst h1 h2
  obtain ⟨v, w, rfl, r, rw'⟩ := reps2 rs
  cases r
  obtain ⟨vs, e, hr⟩ := ra l _ h3
  exact ⟨l, vs, i, w, rfl, rfl, e, by rw [hr.length]; exact h4, h5, h6, kont_put k ra e True.intro ⟨_, h3⟩ (.mkL upd_same ((((hr.take _).append (.cons rw' .nil)).append (hr.drop _)).step (.put e True.intro))) .non q⟩
/-- l.extend(a list) -/
def rExtend : DRM := fun l ds A Q => ∃ b xs zs, ds = [.ref b] ∧ A l = some (.lst xs) ∧ A b = some (.lst zs) ∧ xs.length + zs.length ≤ sizeLine ∧ ∀ A', Put A l (.lst (xs ++ zs)) A' → Q .non A'
theorem dm_extend : DMt X "list.extend" rExtend := MtR.imp mt_extend fun x xs H Q ⟨l, ds, A, Q', h1, rs, ra, ⟨b, ys, zs, h2, h3, h4, h5, q⟩, k⟩ => by
  subst h1 h2
  obtain ⟨v, rfl, r⟩ := reps1 rs
  cases r
  obtain ⟨vs, e, hr⟩ := ra l _ h3
  obtain ⟨ws, e2, hr2⟩ := ra b _ h4
  exact ⟨l, b, vs, ws, rfl, rfl, e, e2, by rw [hr.length, hr2.length]; exact h5, kont_put k ra e True.intro ⟨_, h3⟩ (.mkL upd_same ((hr.append hr2).step (.put e True.intro))) .non q⟩
theorem d_mt {id : String} {name : Str} {r : DRM} {to : DE} (slot : Slot "list" name id) (hty : typeOf (.builtin id) = pure (.type "method_descriptor")) (hm : DMt X id r) (ho : DPE X o to) (ha : DPA X (e :: es) t)
    (hbase : attributeBase o name X.env (eval o X.env) = eval o X.env := by rfl)
    (hfew : ((backTo pos (starEach (e :: es) X.env)).all (fun x => !x.1) && (backToKw pos (keywordEach [] X.env)).all (fun x => x.1.isSome)
      && decide ((e :: es).length + ([] : List Keyword).length + (if ([] : List Keyword).isEmpty then 0 else 1) < 30)) = true := by rfl)
    (hline : (apos.endLine == pos.line) = true := by rfl) (hs : starEach (e :: es) X.env = (false, eval e X.env) :: starEach es X.env := by rfl) (hplain : (backTo pos (starEach es X.env)).any (·.1) = false := by rfl) :
    DPE X (.Call (.Attribute o name apos) (e :: es) [] pos) (qMt r to t) := (pe_bm PySem.F.plainAttrs_list slot hty hm ho ha hbase hfew hline hs hplain).imp fun _ _ _ h => low_mt h
theorem d_mt0 {id : String} {name : Str} {r : DRM} {to : DE} (slot : Slot "list" name id) (hty : typeOf (.builtin id) = pure (.type "method_descriptor")) (hm : DMt X id r) (ho : DPE X o to)
    (hbase : attributeBase o name X.env (eval o X.env) = eval o X.env := by rfl) (hline : (apos.endLine == pos.line) = true := by rfl) :
    DPE X (.Call (.Attribute o name apos) [] [] pos) (qMt r to qNil) := (pe_bm0 PySem.F.plainAttrs_list slot hty hm ho hbase hline).imp fun _ _ _ h => low_mt0 h
end
end DL

set_option Elab.async false
set_option linter.all false
set_option maxRecDepth 100000
set_option maxHeartbeats 4000000
/-! DL4: statements, targets, loops, comprehensions, calls of defs, dicts -/
namespace DL
open PySem PySem.Spec PyProof.Rows L2
section
variable {X : Cx} {W : WX} {a b c e o : Expr} {ta tb tc te to ti : DE} {pos p2 p tpos : Pos} {es : List Expr} {t : DAs} {st : Stmt} {rest body : List Stmt} {s1 s2 : DS}

/-! ### blocks and small statements -/
def qNext : DS := fun E τ A => E.nx τ A
def qSeq (t u : DS) : DS := fun E τ A => t { E with nx := u E } τ A
theorem dss_nil : DPSs X W [] qNext := pss_nil.imp fun E σ H ⟨τ, A, E', x, q, k⟩ => k.nx _ _ _ _ q (.refl _) x.a x.s
theorem low_seq {K : PySem.W.Frag} {E : Ends} {σ : L2.St} {H : Hp} (h : lowS K W (qSeq s1 s2) E σ H) : tSeq (lowS K W s1) (lowS K W s2) E σ H := by
  obtain ⟨τ, A, E', x, q, k⟩ := h
  exact ⟨τ, A, _, x, q, ⟨fun τ' A' σ' H' q' st' ra rs => ⟨τ', A', E', ⟨rs, ra⟩, q', k.step st'⟩, k.rt, k.bk, k.ct, k.ex⟩⟩
theorem dss_cons (h1 : DPS X W st s1) (h2 : DPSs X W rest s2) : DPSs X W (st :: rest) (qSeq s1 s2) := (pss_cons h1 h2).imp fun _ _ _ h => low_seq h
theorem dss_one (h1 : DPS X W st s1) : DPSs X W [st] s1 := pss_one h1
def qBreak : DS := fun E τ A => E.bk τ A
def qCont : DS := fun E τ A => E.ct τ A
theorem ds_pass : DPS X W (.Pass pos) qNext := ps_pass.imp fun E σ H ⟨τ, A, E', x, q, k⟩ => k.nx _ _ _ _ q (.refl _) x.a x.s
theorem ds_break : DPS X W (.Break pos) qBreak := ps_break.imp fun E σ H ⟨τ, A, E', x, q, k⟩ => k.bk _ _ _ _ q (.refl _) x.a x.s
theorem ds_continue : DPS X W (.Continue pos) qCont := ps_continue.imp fun E σ H ⟨τ, A, E', x, q, k⟩ => k.ct _ _ _ _ q (.refl _) x.a x.s
def qDrop (te : DE) : DS := fun E τ A => te τ A fun _ A1 => E.nx τ A1
theorem ds_expr (he : DPE X e te) (hs : swapsWith e none pos.line X.env = pure false := by rfl) : DPS X W (.Expr e pos) (qDrop te) := (ps_expr he hs).imp fun E σ H ⟨τ, A, E', x, q, k⟩ =>
  ⟨τ, A, _, x, q, fun d A1 v H1 q1 s1 r1 rd => k.nx _ _ _ _ q1 s1 r1 (x.s.step s1)⟩
def qRet (te : DE) : DS := fun E τ A => te τ A E.rt
theorem ds_ret (he : DPE X e te) : DPS X W (.Return (some e) pos) (qRet te) := (ps_ret he).imp fun E σ H ⟨τ, A, E', x, q, k⟩ => ⟨τ, A, _, x, q, k.rt⟩
def qRetN : DS := fun E _ A => E.rt .non A
theorem ds_retN : DPS X W (.Return none pos) qRetN := ps_retN.imp fun E σ H ⟨τ, A, E', x, q, k⟩ => k.rt _ _ _ _ q (.refl _) x.a .non
def qIfS (c : DT) (t u : DS) : DS := fun E τ A => c τ A fun b A1 => if b = true then t E τ A1 else u E τ A1
theorem ds_if {c : Expr} {l m : List Stmt} {tc : DT} (hc : DPT X c tc) (ha : DPSs X W l s1) (hb : DPSs X W m s2) : DPS X W (.If c l m pos) (qIfS tc s1 s2) := (ps_if hc ha hb).imp fun E σ H ⟨τ, A, E', x, q, k⟩ =>
  ⟨τ, A, _, x, q, fun d A1 H1 q1 st1 r1 => by
    cases d with
    | true => rw [if_pos rfl] at q1 ⊢; exact ⟨τ, A1, E', x.to st1 r1, q1, k.step st1⟩
    | false => rw [if_neg (by decide)] at q1 ⊢; exact ⟨τ, A1, E', x.to st1 r1, q1, k.step st1⟩⟩
def qNever : DS := fun _ _ _ => False
theorem ds_never : DPS X W st qNever := ps_never.imp fun _ _ _ ⟨_, _, _, _, q, _⟩ => q.elim
theorem dss_never : DPSs X W rest qNever := pss_never.imp fun _ _ _ ⟨_, _, _, _, q, _⟩ => q.elim

/-! ### assignments -/
def qSet (i : Nat) (te : DE) : DS := fun E τ A => te τ A fun d A1 => E.nx (τ.set i (some d)) A1
theorem ds_set (i : Nat) {x : Str} {e : Expr} {te : DE} {pos' : Pos} (hN : X.N.Nodup) (he : DPE X e te) (hi : X.N[i]? = some x := by rfl) (hx : Loc X.env.scope x := by first | exact Or.inl rfl | exact Or.inr rfl) (hs : swapsWith e (some (.Name x pos')) pos.line X.env = pure false := by rfl) (hf : X.fn x = true ∨ X.env.scope.names.lookup x = some .local := by first | exact .inl rfl | exact .inr rfl | assumption) :
    DPS X W (.Assign [.Name x pos'] e pos) (qSet i te) := (ps_set hN hi hx he hs hf).imp fun E σ H ⟨τ, A, E', x, q, k⟩ =>
  ⟨τ, A, _, x, q, fun d A1 v H1 q1 s1 r1 rd => k.nx _ _ _ _ q1 s1 r1 ((x.s.step s1).set rd)⟩
/-- l[i] = e -/
def qSetIx (te to ti : DE) : DS := fun E τ A => te τ A fun d A1 => to τ A1 fun x A2 => ti τ A2 fun y A3 => ∃ l xs i j, x = .ref l ∧ y = .int i ∧ A3 l = some (.lst xs) ∧ ixN xs.length i = some j ∧ ∀ A', Put A3 l (.lst (xs.set j d)) A' → E.nx τ A'
theorem ds_setIx (he : DPE X e te) (ho : DPE X o to) (hi : DPE X b ti) (hs : swapsWithSole [.Subscript o b p2] e pos.line X.env = pure false := by rfl) (hw : swappedStores [.Subscript o b p2] e X.env = pure none := by rfl)
    (h1 : (assignEach [.Subscript o b p2] X.env).map (·.2) = [assign (.Subscript o b p2) X.env] := by rfl)
    (ha : ∀ v, assign (.Subscript o b p2) X.env v = (do
      let ov ← holding [v] (eval o X.env)
      let iv ← holding [v, ov] (eval b X.env)
      standAt p2
      holding [v, ov, iv] (setItem ov iv v)
      release [v, ov, iv] []) := by intro _; rfl) : DPS X W (.Assign [.Subscript o b p2] e pos) (qSetIx te to ti) :=
  (ps_asg he (pg_sub ho hi set_list ha) hs hw h1).imp fun E σ H ⟨τ, A, E', x, q, k⟩ =>
  ⟨τ, A, _, x, q, fun d A1 v H1 q1 st1 r1 rd => ⟨τ, A1, _, x.to st1 r1, q1, fun f A2 w H2 q2 st2 r2 rf => ⟨τ, A2, _, x.to (st1.trans st2) r2, q2, fun g A3 u H3 ⟨l, xs, i, j, e1, e2, hl, hj, q3⟩ st3 r3 rg => by
    subst e1 e2
    cases rf
    cases rg
    obtain ⟨vs, hv, hr⟩ := r3 l _ hl
    refine ⟨l, vs, i, j, rfl, rfl, hv, by rw [hr.length]; exact hj, ?_⟩
    have sp : Step H3 (upd H3 l (.lst (vs.set j v))) := .put hv True.intro
    have s4 : Step H _ := st1.trans (st2.trans (st3.trans sp))
    exact k.nx _ _ _ _ (q3 _ ⟨⟨_, hl⟩, rfl⟩) s4 (r3.put hv True.intro (.mkL upd_same ((hr.set ((rd.step (st2.trans st3))) j).step sp))) (x.s.step s4)⟩⟩⟩
/-- l[i] op= e -/
theorem get_list : PGet X (rIxL X.K) := by
  intro pins s σ H x y v u Q I rx ry h
  obtain ⟨p, xs, i, z, rfl, rfl, hq, he, q⟩ := h
  cases rx
  obtain ⟨t, rfl⟩ := ry
  obtain ⟨its, r, pl, hz⟩ := I.list hq
  obtain ⟨j, h1, h2, h3, h4, h5⟩ := atI_get he
  obtain ⟨w, ew, rw'⟩ := r.get h2
  have hl := r.length
  have hn := line63
  have fin : EP X pins σ Q w s := ⟨z, H, I, rw', q⟩
  by_cases h0 : 0 ≤ i
  · have hj : i.toNat = j := by
      rw [seqIndex_of h0 h5] at h1
      exact Option.some.inj h1
    exact wpAny_getItem_list pl.isList h0 (by omega) (by rw [hj]; simpa using ew) fin
  · have hj : (i + (its.toArray.size : Int)).toNat = j := by
      rw [seqIndex_neg (by omega) h4] at h1
      rw [List.size_toArray, ← hl]
      exact Option.some.inj h1
    exact wpAny_getItem_list_neg pl.isList (by omega) (by rw [List.size_toArray] <;> omega) (by omega) (by rw [hj]; simpa using ew) fin
/-- aug: l[i] op= e, by a pure operator of values -/
def qAugIx (r : DR2) (to ti te : DE) : DS := fun E τ A => to τ A fun x A1 => ti τ A1 fun y A2 => ∃ l xs i old, x = .ref l ∧ y = .int i ∧ A2 l = some (.lst xs) ∧ atI xs i = some old ∧ te τ A2 fun z A3 => r old z A3 fun d A4 =>
  ∃ ys j, A4 l = some (.lst ys) ∧ ixN ys.length i = some j ∧ ∀ A', Put A4 l (.lst (ys.set j d)) A' → E.nx τ A'
theorem ds_augIx {op : Operator} {r : DR2} (hop : DOpR X (inplaceOp op) r) (ho : DPE X o to) (hi : DPE X b ti) (he : DPE X e te)
    (ha : ∀ ov iv new, augStore b ov iv new = (do holding [new, ov, iv] (setItem ov iv new); release [new, ov, iv] []; pure .next) := by intros; rfl) : DPS X W (.AugAssign (.Subscript o b tpos) op e pos) (qAugIx r to ti te) :=
  (ps_augS (tget := rIxL X.K) (tip := lowR X.K r) (tset := rSetL) ho hi get_list he hop set_list ha).imp fun E σ H ⟨τ, A, E', x, q, k⟩ =>
  ⟨τ, A, _, x, q, fun d A1 v H1 q1 st1 r1 rd => ⟨τ, A1, _, x.to st1 r1, q1, fun f A2 w H2 ⟨l, xs, i, old, e1, e2, hl, hold, q2⟩ st2 r2 rf => by
    subst e1 e2
    cases rd
    cases rf
    obtain ⟨vs, hv, hr⟩ := r2 l _ hl
    obtain ⟨ov, ho, hro⟩ := hr.atI hold
    refine ⟨l, vs, i, ov, rfl, rfl, .of hv, ho, ?_⟩
    refine ⟨τ, A2, _, x.to (st1.trans st2) r2, q2, fun g A3 u H3 q3 st3 r3 rg => ?_⟩
    refine ⟨old, g, A3, _, hro.step st3, rg, r3, q3, fun z A4 zv H4 ⟨ys, j, hl4, hj, q4⟩ st4 r4 rz => ?_⟩
    obtain ⟨vs4, hv4, hr4⟩ := r4 l _ hl4
    refine ⟨l, vs4, i, j, rfl, rfl, hv4, by rw [hr4.length]; exact hj, ?_⟩
    have sp : Step H4 (upd H4 l (.lst (vs4.set j zv))) := .put hv4 True.intro
    have s5 : Step H _ := st1.trans (st2.trans (st3.trans (st4.trans sp)))
    exact k.nx _ _ _ _ (q4 _ ⟨⟨_, hl4⟩, rfl⟩) s5 (r4.put hv4 True.intro (.mkL upd_same ((hr4.set rz j).step sp))) (x.s.step s5)⟩⟩
/-- x op= e -/
def qAug (i : Nat) (r : DR2) (te : DE) : DS := fun E τ A => match τ[i]? with
  | some (some old) => te τ A fun z A1 => r old z A1 fun d A2 => E.nx (τ.set i (some d)) A2
  | _ => False
theorem ds_aug (i : Nat) {x : Str} {op : Operator} {r : DR2} {pos' : Pos} (hop : DOpR X (inplaceOp op) r) (hN : X.N.Nodup) (he : DPE X e te) (hi : X.N[i]? = some x := by rfl) (hx : Loc X.env.scope x := by first | exact Or.inl rfl | exact Or.inr rfl) (hf : X.fn x = true ∨ X.env.scope.names.lookup x = some .local := by first | exact .inl rfl | exact .inr rfl | assumption) :
    DPS X W (.AugAssign (.Name x pos') op e pos) (qAug i r te) := (ps_aug (ti := lowR X.K r) hN hi hx he hop hf).imp fun E σ H ⟨τ, A, E', x, q, k⟩ => by
  unfold qAug at q
  split at q
  · rename_i old e1
    obtain ⟨ov, h1, h2⟩ := x.s.2 i old e1
    refine ⟨ov, h1, τ, A, _, x, q, fun d A1 v H1 q1 s1 r1 rd => ?_⟩
    refine ⟨old, d, A1, _, h2.step s1, rd, r1, q1, fun z A2 zv H2 q2 s2 r2 rz => ?_⟩
    exact k.nx _ _ _ _ q2 (s1.trans s2) r2 ((x.s.step (s1.trans s2)).set rz)
  · exact q.elim
theorem di_add : DOpR X (inplaceOp .Add) (rII0 fun i j => .int (i + j)) := iop_add.imp fun _ _ _ _ h => lowII0 (fun _ _ _ => .int _) h
theorem di_sub : DOpR X (inplaceOp .Sub) (rII0 fun i j => .int (i - j)) := iop_sub.imp fun _ _ _ _ h => lowII0 (fun _ _ _ => .int _) h

/-! ### targets -/
abbrev DG := D → DSt → DA → (DSt → DA → Prop) → Prop
/-- a name, a tuple of names, by their places -/
inductive Tg where
  | nm (i : Nat)
  | tp (is : List Nat)
def gNames : List Nat → TGs
  | [] => gNil
  | i :: r => gCons (gName i) (gNames r)
def Tg.h (K : PySem.W.Frag) : Tg → TG
  | .nm i => gName i
  | .tp is => gTup K is.length (gNames is)
def putsV {α : Type} : List Nat → List α → List (Option α) → List (Option α)
  | i :: is, x :: xs, σ => putsV is xs (σ.set i (some x))
  | _, _, σ => σ
def Tg.put (g : Tg) (d : D) (τ : DSt) : Option DSt := match g with
  | .nm i => some (τ.set i (some d))
  | .tp is => match d with
    | .tup xs => if xs.length = is.length then some (putsV is xs τ) else none
    | _ => none
def Tg.slots : Tg → List Nat
  | .nm i => [i]
  | .tp is => is
theorem gNames_puts : ∀ {is : List Nat} {vs : List V} {σ : L2.St} {H : Hp} {Q : L2.St → Hp → Prop}, vs.length = is.length → Q (putsV is vs σ) H → gNames is vs σ H Q
  | [], [], σ, H, Q, _, q => ⟨rfl, q⟩
  | [], _ :: _, _, _, _, hl, _ => by cases hl
  | i :: is, [], _, _, _, hl, _ => by cases hl
  | i :: is, v :: vs, σ, H, Q, hl, q => ⟨v, vs, rfl, gNames_puts (is := is) (by simpa using hl) q⟩
theorem puts_length {α : Type} : ∀ (is : List Nat) (xs : List α) (σ : List (Option α)), (putsV is xs σ).length = σ.length
  | [], _, _ => by unfold putsV; rfl
  | _ :: _, [], _ => by unfold putsV; rfl
  | i :: is, x :: xs, σ => by unfold putsV; rw [puts_length, List.length_set]
theorem RepS.puts {K : PySem.W.Frag} {H : Hp} : ∀ {is : List Nat} {xs : List D} {vs : List V} {τ : DSt} {σ : L2.St}, RepS K H τ σ → Reps K H xs vs → RepS K H (putsV is xs τ) (putsV is vs σ)
  | [], _, _, _, _, r, _ => by unfold putsV; exact r
  | _ :: _, _, _, _, _, r, .nil => by unfold putsV; exact r
  | i :: is, _, _, _, _, r, .cons h t => by unfold putsV; exact RepS.puts (is := is) (r.set h) t
/-- at the objects -/
theorem Tg.run {K : PySem.W.Frag} {g : Tg} {d : D} {v : V} {τ τ' : DSt} {σ : L2.St} {H : Hp} {Q : L2.St → Hp → Prop} (rs : RepS K H τ σ) (rd : Rep K H d v) (hp : g.put d τ = some τ')
    (q : ∀ σ', RepS K H τ' σ' → (∀ vs, (∀ i ∈ g.slots, i ∈ vs) → wipe σ' vs = wipe σ vs) → Q σ' H) : g.h K v σ H Q := by
  have wset : ∀ (vs : List Nat) (σ : L2.St) (i : Nat) (x : Option V), i ∈ vs → wipe (σ.set i x) vs = wipe σ vs := by
    intro vs
    induction vs with
    | nil => intro σ i x h; cases h
    | cons w ws ih =>
      intro σ i x h
      show (wipe (σ.set i x) ws).set w none = (wipe σ ws).set w none
      by_cases hm : i ∈ ws
      · rw [ih σ i x hm]
      · have hi : i = w := by rcases List.mem_cons.mp h with h | h; exact h; exact absurd h hm
        subst hi
        have key : ∀ (us : List Nat) (σ : L2.St), i ∉ us → wipe (σ.set i x) us = (wipe σ us).set i x := by
          intro us
          induction us with
          | nil => intro σ _; rfl
          | cons u us ih2 =>
            intro σ hu
            show (wipe (σ.set i x) us).set u none = ((wipe σ us).set u none).set i x
            rw [ih2 σ (fun z => hu (List.mem_cons_of_mem _ z)), List.set_comm]
            exact fun z => hu (by rw [z]; exact List.mem_cons_self)
        rw [key ws σ hm, List.set_set]
  cases g with
  | nm i => cases hp; exact q _ (rs.set rd) fun vs hv => wset vs σ i _ (hv i (by simp [Tg.slots]))
  | tp is =>
    unfold Tg.put at hp
    cases rd <;> try cases hp
    rename_i a vs ds hq hr
    simp only at hp
    split at hp
    · rename_i hl
      cases hp
      refine ⟨a, vs, rfl, hq, by rw [hr.length]; exact hl, gNames_puts (by rw [hr.length]; exact hl) (q _ (rs.puts hr) fun ws hv => ?_)⟩
      have key : ∀ (is : List Nat) (vs : List V) (σ : L2.St), (∀ i ∈ is, i ∈ ws) → wipe (putsV is vs σ) ws = wipe σ ws := by
        intro is
        induction is with
        | nil => intro vs σ _; unfold putsV; rfl
        | cons i is ih =>
          intro vs σ h
          cases vs with
          | nil => unfold putsV; rfl
          | cons v vs =>
            unfold putsV
            rw [ih vs _ (fun j hj => h j (List.mem_cons_of_mem _ hj)), wset ws σ i _ (h i List.mem_cons_self)]
      exact key is vs σ hv
    · cases hp
def qTg (g : Tg) : DG := fun d τ A Q => match g.put d τ with
  | some τ' => Q τ' A
  | none => False
structure DPG (X : Cx) (tg : Expr) (g : Tg) : Prop where
  pg : PG X tg (g.h X.K)
theorem dg_name (i : Nat) {x : Str} {pos : Pos} (hN : X.N.Nodup) (hi : X.N[i]? = some x := by rfl) (hx : Loc X.env.scope x := by first | exact Or.inl rfl | exact Or.inr rfl) (hf : X.fn x = true ∨ X.env.scope.names.lookup x = some .local := by first | exact .inl rfl | exact .inr rfl | assumption) : DPG X (.Name x pos) (.nm i) := ⟨pg_name hN hi hx hf⟩
theorem dg_pair (i j : Nat) {x y : Str} {px py pos : Pos} {k : Nat} (hc : X.calm = true) (hN : X.N.Nodup) (hi : X.N[i]? = some x := by rfl) (hj : X.N[j]? = some y := by rfl) (hx : Loc X.env.scope x := by first | exact Or.inl rfl | exact Or.inr rfl) (hy : Loc X.env.scope y := by first | exact Or.inl rfl | exact Or.inr rfl)
    (hf : X.fn x = true ∨ X.env.scope.names.lookup x = some .local := by first | exact .inl rfl | exact .inr rfl | assumption) (hf' : X.fn y = true ∨ X.env.scope.names.lookup y = some .local := by first | exact .inl rfl | exact .inr rfl | assumption) : DPG X (.Tuple [.Name x px, .Name y py] k pos) (.tp [i, j]) :=
  ⟨pg_tup hc (pgs_cons (pg_name hN hi hx hf) (pgs_cons (pg_name hN hj hy hf') pgs_nil))⟩
theorem dg_trip (i j l : Nat) {x y z : Str} {px py pz pos : Pos} {k : Nat} (hc : X.calm = true) (hN : X.N.Nodup) (hi : X.N[i]? = some x := by rfl) (hj : X.N[j]? = some y := by rfl) (hl : X.N[l]? = some z := by rfl) (hx : Loc X.env.scope x := by first | exact Or.inl rfl | exact Or.inr rfl) (hy : Loc X.env.scope y := by first | exact Or.inl rfl | exact Or.inr rfl) (hz : Loc X.env.scope z := by first | exact Or.inl rfl | exact Or.inr rfl)
    (hf : X.fn x = true ∨ X.env.scope.names.lookup x = some .local := by first | exact .inl rfl | exact .inr rfl | assumption) (hf' : X.fn y = true ∨ X.env.scope.names.lookup y = some .local := by first | exact .inl rfl | exact .inr rfl | assumption) (hf'' : X.fn z = true ∨ X.env.scope.names.lookup z = some .local := by first | exact .inl rfl | exact .inr rfl | assumption) : DPG X (.Tuple [.Name x px, .Name y py, .Name z pz] k pos) (.tp [i, j, l]) :=
  ⟨pg_tup hc (pgs_cons (pg_name hN hi hx hf) (pgs_cons (pg_name hN hj hy hf') (pgs_cons (pg_name hN hl hz hf'') pgs_nil)))⟩
/-- a, b = e -/
def qAsg (g : Tg) (te : DE) : DS := fun E τ A => te τ A fun d A1 => qTg g d τ A1 E.nx
theorem ds_asg {tg : Expr} {g : Tg} (he : DPE X e te) (hg : DPG X tg g) (hs : swapsWithSole [tg] e pos.line X.env = pure false := by rfl) (hw : swappedStores [tg] e X.env = pure none := by rfl)
    (h1 : (assignEach [tg] X.env).map (·.2) = [assign tg X.env] := by rfl) : DPS X W (.Assign [tg] e pos) (qAsg g te) := (ps_asg he hg.pg hs hw h1).imp fun E σ H ⟨τ, A, E', x, q, k⟩ =>
  ⟨τ, A, _, x, q, fun d A1 v H1 q1 s1 r1 rd => by
    unfold qTg at q1
    split at q1
    · rename_i τ' e1
      exact Tg.run (x.s.step s1) rd e1 fun σ' rs _ => k.nx _ _ _ _ q1 s1 r1 rs
    · exact q1.elim⟩

/-! ### what is walked -/
/-- what comes at a turn: an item, or the end -/
abbrev DIt := Nat → DA → Option D → Prop
abbrev DI := DSt → DA → (DIt → DA → Prop) → Prop
structure ItRep (K : PySem.W.Frag) (H0 : Hp) (J : DIt) (Jh : It) : Prop where
  stop : ∀ i H A, Step H0 H → RepA K H A → J i A none → Jh.stop i H
  go : ∀ i H A d, Step H0 H → RepA K H A → J i A (some d) → Jh.go i H ∧ ∀ x H', Jh.yld i H x H' → Step H H' ∧ RepA K H' A ∧ Rep K H' d x
def lowI (K : PySem.W.Frag) (wi : DI) : TI := fun σ H R => ∃ τ A R', At K H τ A σ ∧ wi τ A R' ∧ ∀ J A1 H1 Jh, R' J A1 → Step H H1 → RepA K H1 A1 → ItRep K H1 J Jh → R Jh H1
abbrev DPI (X : Cx) (tg iter : Expr) (wi : DI) : Prop := PI X tg iter (lowI X.K wi)
theorem _root_.L2.PI.imp {tg iter : Expr} {wi wi' : TI} (h : PI X tg iter wi) (k : ∀ σ H R, wi' σ H R → wi σ H R) : PI X tg iter wi' := ⟨fun pins s σ H R I q => h.run pins s σ H R I (k _ _ _ q)⟩
/-- the items of a list or a tuple, as they stand at each turn -/
def jSeq (x : D) : DIt := fun i A o => ∃ xs, items? A x = some xs ∧ o = xs[i]?
def iSeq (K : PySem.W.Frag) (tl : TE) : TI := fun σ H R => tl σ H fun x H1 => ∃ a, x = .ref a ∧ (((∃ xs, SqL K H1 a xs) ∧ R (Itl K a) H1) ∨ ((∃ xs, SqT K H1 a xs) ∧ R (Itt K a) H1))
theorem pi_seq {tg l : Expr} {tl : TE} (hl : PE X l tl) : PI X tg l (iSeq X.K tl) := by
  refine ⟨fun pins s σ H R I h => ?_⟩
  refine thn (hl.run pins s σ H _ I h) fun v s1 ⟨x, H1, I1, r1, q1⟩ => ?_
  obtain ⟨a, e, hq⟩ := q1
  subst e
  cases r1
  have new : ∀ b ∈ [s1.heap.objs.size], FpOk X pins H1 b := fun b hb => by
    have e : b = s1.heap.objs.size := by simpa using hb
    subst e
    exact I1.fpOk (Nat.le_refl _) (I1.hok.fresh (Nat.le_refl _))
  rcases hq with ⟨⟨xs, hq⟩, q⟩ | ⟨⟨xs, hq⟩, q⟩
  · obtain ⟨its, rv, pl, hz⟩ := I1.list hq
    exact wpAny_pyIter_list pl.isList ⟨s1.heap.objs.size, [s1.heap.objs.size], _, _, H1, rfl, I1.kept (t' := s1.toks) fun b o e => Heap.get?_push_of_some _ e, turn_list a _, ⟨_, Heap.get?_push_size _ rfl, rfl, rfl⟩, new, q⟩
  · obtain ⟨its, rv, pl, hz⟩ := I1.tuple hq
    exact wpAny_pyIter_tuple (show s1.heap.IsTuple a its.toArray from pl) ⟨s1.heap.objs.size, [s1.heap.objs.size], _, _, H1, rfl, I1.kept (t' := s1.toks) fun b o e => Heap.get?_push_of_some _ e, turn_tuple a _, ⟨_, Heap.get?_push_size _ rfl, rfl, rfl⟩, new, q⟩
def qiSeq (te : DE) : DI := fun τ A R => te τ A fun x A1 => (∃ xs, items? A1 x = some xs) ∧ R (jSeq x) A1
theorem itRep_list {K : PySem.W.Frag} {H1 : Hp} {a : Addr} : ItRep K H1 (jSeq (.ref a)) (Itl K a) where
  stop := by
    rintro i H A s ra ⟨xs, e, h⟩
    obtain ⟨b, vs, e1, hs, hr⟩ := items_seq ra e (.ref a)
    cases e1
    simp only [items?] at e
    split at e <;> first
      | (cases e; rename_i q; obtain ⟨vs, h1, h2⟩ := ra a _ q; exact ⟨vs, .of h1, by rw [h2.length]; exact List.getElem?_eq_none_iff.mp h.symm⟩)
      | (cases e; rename_i q; obtain ⟨vs, h1, h2⟩ := ra a _ q; exact ⟨vs, .inl h1, by rw [h2.length]; exact List.getElem?_eq_none_iff.mp h.symm⟩)
      | cases e
  go := by
    rintro i H A d s ra ⟨xs, e, h⟩
    have hs : ∃ vs, SqL K H a vs ∧ Reps K H xs vs := by
      simp only [items?] at e
      split at e <;> first
        | (cases e; rename_i q; obtain ⟨vs, h1, h2⟩ := ra a _ q; exact ⟨vs, .of h1, h2⟩)
        | (cases e; rename_i q; obtain ⟨vs, h1, h2⟩ := ra a _ q; exact ⟨vs, .inl h1, h2⟩)
        | cases e
    obtain ⟨vs, hq, hr⟩ := hs
    obtain ⟨v, hv, rv⟩ := hr.get h.symm
    refine ⟨⟨vs, v, hq, hv⟩, ?_⟩
    rintro x H' ⟨rfl, hx⟩
    have := hx vs hq
    rw [hv] at this; cases this
    exact ⟨.refl _, ra, rv⟩
theorem itRep_tup {K : PySem.W.Frag} {H1 : Hp} {a : Addr} {ds : List D} {vs : List V} (hq : SqT K H1 a vs) (hr : Reps K H1 ds vs) : ItRep K H1 (jSeq (.tup ds)) (Itt K a) where
  stop := by
    rintro i H A s ra ⟨xs, e, h⟩
    cases e
    exact ⟨vs, sqT_step s hq, by rw [hr.length]; exact List.getElem?_eq_none_iff.mp h.symm⟩
  go := by
    rintro i H A d s ra ⟨xs, e, h⟩
    cases e
    obtain ⟨v, hv, rv⟩ := hr.get h.symm
    refine ⟨⟨vs, v, sqT_step s hq, hv⟩, ?_⟩
    rintro x H' ⟨rfl, hx⟩
    have := hx vs (sqT_step s hq)
    rw [hv] at this; cases this
    exact ⟨.refl _, ra, rv.step s⟩
theorem itRep_kl {K : PySem.W.Frag} {H1 : Hp} {a : Addr} {ds : List D} {vs : List V} (hq : ∀ H, SqL K H a vs) (hr : Reps K H1 ds vs) : ItRep K H1 (jSeq (.kl ds)) (Itl K a) where
  stop := by
    rintro i H A s ra ⟨xs, e, h⟩
    cases e
    exact ⟨vs, hq _, by rw [hr.length]; exact List.getElem?_eq_none_iff.mp h.symm⟩
  go := by
    rintro i H A d s ra ⟨xs, e, h⟩
    cases e
    obtain ⟨v, hv, rv⟩ := hr.get h.symm
    refine ⟨⟨vs, v, hq _, hv⟩, ?_⟩
    rintro x H' ⟨rfl, hx⟩
    have := hx vs (hq _)
    rw [hv] at this; cases this
    exact ⟨.refl _, ra, rv.step s⟩
theorem di_seq {tg l : Expr} (hl : DPE X l te) : DPI X tg l (qiSeq te) := (pi_seq hl).imp fun σ H R ⟨τ, A, R', x, q, k⟩ =>
  ⟨τ, A, _, x, q, fun d A1 v H1 ⟨⟨xs, e⟩, q1⟩ s1 r1 rd => by
    obtain ⟨a, vs, e1, hs, hr⟩ := items_seq r1 e rd
    subst e1
    refine ⟨a, rfl, ?_⟩
    cases rd with
    | ref _ =>
      have hq : ∃ vs, SqL X.K H1 a vs := by
        simp only [items?] at e
        split at e <;> first
          | (cases e; rename_i q; obtain ⟨vs, h1, h2⟩ := r1 a _ q; exact ⟨vs, .of h1⟩)
          | (cases e; rename_i q; obtain ⟨vs, h1, h2⟩ := r1 a _ q; exact ⟨vs, .inl h1⟩)
          | cases e
      exact .inl ⟨hq, k _ _ _ _ q1 s1 r1 itRep_list⟩
    | tup hq hr => exact .inr ⟨⟨_, hq⟩, k _ _ _ _ q1 s1 r1 (itRep_tup hq hr)⟩
    | kl hq hr => exact .inl ⟨⟨_, hq _⟩, k _ _ _ _ q1 s1 r1 (itRep_kl hq hr)⟩⟩
/-- lo, lo + 1, .. (n of them) -/
def jRange (lo : Int) (n : Nat) : DIt := fun i _ o => o = if i < n then some (.int (lo + i)) else none
theorem itRep_range {K : PySem.W.Frag} {H1 : Hp} {lo : Int} {n : Nat} : ItRep K H1 (jRange lo n) (Itr lo n) where
  stop := by
    intro i H A s ra h
    unfold jRange at h
    split at h
    · cases h
    · exact Nat.le_of_not_lt (by assumption)
  go := by
    intro i H A d s ra h
    unfold jRange at h
    split at h
    · cases h
      refine ⟨by assumption, ?_⟩
      rintro x H' ⟨rfl, rfl⟩
      exact ⟨.refl _, ra, .int _⟩
    · cases h
def qiRange1 (t : DAs) : DI := fun τ A R => t τ A fun ds A1 => match ds with
  | [.int j] => -(2 ^ 62) ≤ j ∧ j < 2 ^ 62 ∧ R (jRange 0 j.toNat) A1
  | _ => False
def qiRange2 (t : DAs) : DI := fun τ A R => t τ A fun ds A1 => match ds with
  | [.int i, .int j] => (-(2 ^ 62) ≤ i ∧ i < 2 ^ 62 ∧ -(2 ^ 62) ≤ j ∧ j < 2 ^ 62) ∧ R (jRange i (j - i).toNat) A1
  | _ => False
theorem di_range1 {tg : Expr} (hm : X.mg "range" = none) (ha : DPA X [a] t) (hg : Gl X "range" := by rfl) (hs : starEach [a] X.env = [(false, eval a X.env)] := by rfl) : DPI X tg (.Call (.Name "range" p) [a] [] pos) (qiRange1 t) := (pi_range1 hg hm ha hs).imp fun σ H R ⟨τ, A, R', x, q, k⟩ =>
  ⟨τ, A, _, x, q, fun ds A1 vs H1 q1 s1 r1 rs => by
    split at q1
    · obtain ⟨v, rfl, r⟩ := reps1 rs
      cases r
      exact ⟨_, rfl, q1.1, q1.2.1, k _ _ _ _ q1.2.2 s1 r1 itRep_range⟩
    · exact q1.elim⟩
theorem di_range2 {tg : Expr} (hm : X.mg "range" = none) (ha : DPA X [a, b] t) (hg : Gl X "range" := by rfl) (hs : starEach [a, b] X.env = [(false, eval a X.env), (false, eval b X.env)] := by rfl) (hs2 : starEach [b] X.env = [(false, eval b X.env)] := by rfl) : DPI X tg (.Call (.Name "range" p) [a, b] [] pos) (qiRange2 t) := (pi_range2 hg hm ha hs hs2).imp fun σ H R ⟨τ, A, R', x, q, k⟩ =>
  ⟨τ, A, _, x, q, fun ds A1 vs H1 q1 s1 r1 rs => by
    split at q1
    · obtain ⟨v, w, rfl, r, rw'⟩ := reps2 rs
      cases r
      cases rw'
      exact ⟨_, _, rfl, q1.1, k _ _ _ _ q1.2 s1 r1 itRep_range⟩
    · exact q1.elim⟩
/-- enumerate(a list) -/
def jEnum (a : Addr) : DIt := fun i A o => ∃ xs, items? A (.ref a) = some xs ∧ o = xs[i]?.map fun d => .tup [.int (i : Nat), d]
theorem listAt {K : PySem.W.Frag} {H : Hp} {A : DA} (ra : RepA K H A) {a : Addr} {xs : List D} (e : items? A (.ref a) = some xs) : ∃ vs, SqL K H a vs ∧ Reps K H xs vs := by
  simp only [items?] at e
  split at e <;> first
    | (cases e; rename_i q; obtain ⟨vs, h1, h2⟩ := ra a _ q; exact ⟨vs, .of h1, h2⟩)
    | (cases e; rename_i q; obtain ⟨vs, h1, h2⟩ := ra a _ q; exact ⟨vs, .inl h1, h2⟩)
    | cases e
theorem itRep_enum {K : PySem.W.Frag} {H1 : Hp} {a : Addr} : ItRep K H1 (jEnum a) (Ite K a) where
  stop := by
    rintro i H A s ra ⟨xs, e, h⟩
    obtain ⟨vs, hq, hr⟩ := listAt ra e
    refine ⟨vs, hq, ?_⟩
    cases hx : xs[i]? with
    | none => rw [hr.length]; exact List.getElem?_eq_none_iff.mp hx
    | some y => rw [hx] at h; cases h
  go := by
    rintro i H A d s ra ⟨xs, e, h⟩
    obtain ⟨vs, hq, hr⟩ := listAt ra e
    cases hx : xs[i]? with
    | none => rw [hx] at h; cases h
    | some y =>
      rw [hx] at h; cases h
      obtain ⟨v, hv, rv⟩ := hr.get hx
      refine ⟨⟨vs, v, hq, hv⟩, ?_⟩
      rintro x H' ⟨T, w, rfl, hT, rfl, hw⟩
      have := hw vs hq
      rw [hv] at this; cases this
      exact ⟨.new hT, ra.hid hT, .tup (.of upd_same) (.cons (.int _) (.cons (rv.step (.new hT)) .nil))⟩
def qiEnum (t : DAs) : DI := fun τ A R => t τ A fun ds A1 => ∃ a xs, ds = [.ref a] ∧ items? A1 (.ref a) = some xs ∧ R (jEnum a) A1
theorem di_enum {elts : List Expr} {kk : Nat} (hm : X.mg "enumerate" = none) (ha : DPA X [e] t) (hg : Gl X "enumerate" := by rfl) (hs : starEach [e] X.env = [(false, eval e X.env)] := by rfl) : DPI X (.Tuple elts kk tpos) (.Call (.Name "enumerate" p) [e] [] pos) (qiEnum t) := (pi_enum hg hm ha hs).imp fun σ H R ⟨τ, A, R', x, q, k⟩ =>
  ⟨τ, A, _, x, q, fun ds A1 vs H1 ⟨a, xs, h1, h2, q1⟩ s1 r1 rs => by
    subst h1
    obtain ⟨v, rfl, r⟩ := reps1 rs
    cases r
    obtain ⟨vs, hq, hr⟩ := listAt r1 h2
    exact ⟨a, vs, rfl, hq, k _ _ _ _ q1 s1 r1 itRep_enum⟩⟩

/-! ### for, while -/
def qFor (wi : DI) (g : Tg) (tb : DS) : DS := fun E τ A => wi τ A fun J A1 => ∃ W : Nat → Nat → DSt → DA → Prop, (∃ m, W 0 m τ A1) ∧ ∀ i m τ A, W i m τ A →
  (J i A none ∧ E.nx τ A) ∨ ∃ d, J i A (some d) ∧ ∃ N : DSt → DA → Prop, (∀ τ' A', N τ' A' → ∃ m', m' < m ∧ W (i + 1) m' τ' A') ∧ qTg g d τ A fun τ2 A2 => tb { E with nx := N, ct := N, bk := E.nx } τ2 A2
theorem ds_for {tg iter : Expr} {body : List Stmt} {wi : DI} {g : Tg} {tb : DS} (hp : PassesOwn (model X.prog X.w) X.A X.env X.xe) (hc : X.calm = true) (hi : DPI X tg iter wi) (hg : DPG X tg g) (hb : DPSs X W body tb)
    (hs : ∀ x, foldedSetIterable iter X.env x = pure x := by intro _; rfl) : DPS X W (.For tg iter body [] pos) (qFor wi g tb) := (ps_for hp hc hi hg.pg hb hs).imp fun E σ H ⟨τ, A, E', x, q, k⟩ => by
  refine ⟨τ, A, _, x, q, fun J A1 H1 Jh ⟨W, ⟨m0, w0⟩, turn⟩ s1 r1 ir => ?_⟩
  refine ⟨fun i m σ H2 => ∃ τ A, Step H1 H2 ∧ At X.K H2 τ A σ ∧ W i m τ A, ⟨m0, τ, A1, .refl _, x.to s1 r1, w0⟩, ?_⟩
  rintro i m σ2 H2 ⟨τ2, A2, s2, x2, w2⟩
  have k2 := k.step (s1.trans s2)
  rcases turn i m τ2 A2 w2 with ⟨hj, hq⟩ | ⟨d, hj, N, hN, hb⟩
  · exact .inl ⟨ir.stop i H2 A2 s2 x2.a hj, k2.nx _ _ _ _ hq (.refl _) x2.a x2.s⟩
  · obtain ⟨hgo, hy⟩ := ir.go i H2 A2 d s2 x2.a hj
    refine .inr ⟨hgo, fun σ' H' => ∃ τ' A', Step H1 H' ∧ At X.K H' τ' A' σ' ∧ N τ' A', ?_, ?_⟩
    · rintro σ' H' ⟨τ', A', s', x', n'⟩
      obtain ⟨m', hm, w'⟩ := hN τ' A' n'
      exact ⟨m', hm, τ', A', s', x', w'⟩
    · intro y H3 hyl
      obtain ⟨s3, r3, rd⟩ := hy y H3 hyl
      unfold qTg at hb
      split at hb
      · rename_i τ3 e3
        refine Tg.run (x2.s.step s3) rd e3 fun σ4 rs4 _ => ?_
        have kn : KontS X.K H3 N (fun σ' H' => ∃ τ' A', Step H1 H' ∧ At X.K H' τ' A' σ' ∧ N τ' A') := fun τ' A' σ' H' n' s' ra rs => ⟨τ', A', s2.trans (s3.trans s'), ⟨rs, ra⟩, n'⟩
        exact ⟨τ3, A2, _, ⟨rs4, r3⟩, hb, ⟨kn, (k2.step s3).rt, (k2.step s3).nx, kn, (k2.step s3).ex⟩⟩
      · exact hb.elim
def qWhile (c : DT) (tb : DS) : DS := fun E τ A => ∃ W : Nat → DSt → DA → Prop, (∃ m, W m τ A) ∧ ∀ m τ A, W m τ A →
  c τ A fun b A1 => if b = true then ∃ N : DSt → DA → Prop, (∀ τ' A', N τ' A' → ∃ m', m' < m ∧ W m' τ' A') ∧ tb { E with nx := N, ct := N, bk := E.nx } τ A1 else E.nx τ A1
theorem ds_while {c : Expr} {body : List Stmt} {tc : DT} {tb : DS} (hp : PassesOwn (model X.prog X.w) X.A X.env X.xe) (hc : DPT X c tc) (hb : DPSs X W body tb) : DPS X W (.While c body [] pos) (qWhile tc tb) := (ps_while hp hc hb).imp fun E σ H ⟨τ, A, E', x, q, k⟩ => by
  obtain ⟨W, ⟨m0, w0⟩, turn⟩ := q
  refine ⟨fun m σ H2 => ∃ τ A, Step H H2 ∧ At X.K H2 τ A σ ∧ W m τ A, ⟨m0, τ, A, .refl _, x, w0⟩, ?_⟩
  rintro m σ2 H2 ⟨τ2, A2, s2, x2, w2⟩
  refine ⟨τ2, A2, _, x2, turn m τ2 A2 w2, fun b A3 H3 q3 s3 r3 => ?_⟩
  have k3 := k.step (s2.trans s3)
  show if b = true then _ else _
  cases b with
  | true =>
    rw [if_pos rfl] at q3 ⊢
    obtain ⟨N, hN, hb⟩ := q3
    refine ⟨fun σ' H' => ∃ τ' A', Step H H' ∧ At X.K H' τ' A' σ' ∧ N τ' A', ?_, ?_⟩
    · rintro σ' H' ⟨τ', A', s', x', n'⟩
      obtain ⟨m', hm, w'⟩ := hN τ' A' n'
      exact ⟨m', hm, τ', A', s', x', w'⟩
    · have kn : KontS X.K H3 N (fun σ' H' => ∃ τ' A', Step H H' ∧ At X.K H' τ' A' σ' ∧ N τ' A') := fun τ' A' σ' H' n' s' ra rs => ⟨τ', A', (s2.trans s3).trans s', ⟨rs, ra⟩, n'⟩
      exact ⟨τ2, A3, _, x2.to s3 r3, hb, ⟨kn, k3.rt, k3.nx, kn, k3.ex⟩⟩
  | false =>
    rw [if_neg (by decide)] at q3 ⊢
    exact k3.nx _ _ _ _ q3 (.refl _) r3 (x2.s.step s3)

/-! ### list comprehensions -/
def wipeD (τ : DSt) : List Nat → DSt
  | [] => τ
  | v :: vs => (wipeD τ vs).set v none
theorem wipeD_length (τ : DSt) : ∀ vs : List Nat, (wipeD τ vs).length = τ.length
  | [] => rfl
  | v :: vs => by unfold wipeD; rw [List.length_set, wipeD_length τ vs]
theorem RepS.set0 {K : PySem.W.Frag} {H : Hp} {τ : DSt} {σ : L2.St} (r : RepS K H τ σ) (i : Nat) : RepS K H (τ.set i none) (σ.set i none) := by
  refine ⟨by simpa using r.1, fun j e h => ?_⟩
  by_cases hj : i = j
  · subst hj
    by_cases hl : i < τ.length
    · rw [List.getElem?_set_self hl] at h; cases h
    · rw [List.getElem?_eq_none (by simpa using hl)] at h; cases h
  · rw [List.getElem?_set_ne hj] at h
    obtain ⟨w, h1, h2⟩ := r.2 j e h
    exact ⟨w, by rw [List.getElem?_set_ne hj]; exact h1, h2⟩
theorem RepS.wiped {K : PySem.W.Frag} {H : Hp} {τ : DSt} {σ : L2.St} (r : RepS K H τ σ) : ∀ vs : List Nat, RepS K H (wipeD τ vs) (L2.wipe σ vs)
  | [] => r
  | v :: vs => by
    show RepS K H ((wipeD τ vs).set v none) ((L2.wipe σ vs).set v none)
    exact (RepS.wiped r vs).set0 v
theorem wipe_wipe (σ : L2.St) (vs : List Nat) : wipe (wipe σ vs) vs = wipe σ vs := by
  have key : ∀ (us : List Nat) (σ : L2.St), (∀ u ∈ us, ∀ (x : V), σ[u]? ≠ some (some x)) → wipe σ us = σ := by
    intro us
    induction us with
    | nil => intro σ _; rfl
    | cons u us ih =>
      intro σ h
      show (wipe σ us).set u none = σ
      rw [ih σ fun v hv => h v (List.mem_cons_of_mem _ hv)]
      apply List.ext_getElem?
      intro j
      by_cases hj : u = j
      · subst hj
        by_cases hl : u < σ.length
        · rw [List.getElem?_set_self hl]
          have := h u List.mem_cons_self
          rw [List.getElem?_eq_getElem hl] at this ⊢
          cases e : σ[u] with
          | none => rfl
          | some x => exact absurd (by rw [e]) (this x)
        · rw [List.getElem?_eq_none (by simpa using hl), List.getElem?_eq_none (by omega)]
      · rw [List.getElem?_set_ne hj]
  refine key vs _ fun u hu x h => ?_
  exact (wipe_some h).2 hu
def qLc (wi : DI) (g : Tg) (tt : DT) (te : DE) (vs : List Nat) : DE := fun τ A Q => wi τ A fun J A1 => ∀ D A2, New A1 D (.lst []) A2 → ∃ W : Nat → Nat → DA → Prop, (∃ m, W 0 m A2) ∧ ∀ i m A, W i m A →
  (J i A none ∧ Q (.ref D) A) ∨ ∃ d, J i A (some d) ∧ ∃ Nx : DA → Prop, (∀ A', Nx A' → ∃ m', m' < m ∧ W (i + 1) m' A') ∧ qTg g d (wipeD τ vs) A fun τ2 A2 => tt τ2 A2 fun b A3 =>
    if b = true then te τ2 A3 fun y A4 => ∃ acc, A4 D = some (.lst acc) ∧ acc.length < sizeLine ∧ ∀ A5, Put A4 D (.lst (acc ++ [y])) A5 → Nx A5 else Nx A3
def qYes : DT := fun _ A Q => Q true A
structure DPTs (X : Cx) (ifs : List Expr) (t : DT) : Prop where
  p : PTs X ifs (lowT X.K t)
theorem _root_.L2.PTs.imp {ifs : List Expr} {t u : TT} (h : PTs X ifs t) (k : ∀ σ H Q, u σ H Q → t σ H Q) : PTs X ifs u := ⟨fun pins s σ H Q I q => h.run pins s σ H Q I (k _ _ _ q)⟩
theorem dts_nil : DPTs X [] qYes := ⟨pts_nil.imp fun σ H Q ⟨τ, A, Q', x, q, k⟩ => k _ _ _ q (.refl _) x.a⟩
theorem dts_one {c : Expr} {t : DT} (h : DPT X c t) : DPTs X [c] t := ⟨pts_one h⟩
theorem low_lc {K : PySem.W.Frag} {wi : DI} {g : Tg} {tt : DT} {own : List (Str × Nat)} {σ : L2.St} {H : Hp} {Q : VK} (hsl : ∀ i ∈ g.slots, i ∈ own.map (·.2)) (h : low K (qLc wi g tt te (own.map (·.2))) σ H Q) : tLc (lowI K wi) (g.h K) (lowT K tt) (low K te) (own.map (·.2)) σ H Q := by
  obtain ⟨τ, A, Q', x, q, k⟩ := h
  refine ⟨τ, A, _, x, q, fun J A1 H1 Jh q1 s1 r1 ir => ?_⟩
  intro D hD
  obtain ⟨W, ⟨m0, w0⟩, turn⟩ := q1 D _ ⟨r1.free hD, rfl⟩
  have sD : Step H1 (upd H1 D (.lst [])) := .new hD
  refine ⟨fun i m H2 => ∃ A, Step H1 H2 ∧ RepA K H2 A ∧ W i m A, ⟨m0, _, sD, r1.new hD (.mkL upd_same .nil), w0⟩, ?_⟩
  rintro i m H2 ⟨A2, s2, r2, w2⟩
  have k2 := k.step (s1.trans s2)
  rcases turn i m A2 w2 with ⟨hj, hq⟩ | ⟨d, hj, N, hN, hb⟩
  · exact .inl ⟨ir.stop i H2 A2 s2 r2 hj, k2 _ _ _ _ hq (.refl _) r2 (.ref D)⟩
  · obtain ⟨hgo, hy⟩ := ir.go i H2 A2 d s2 r2 hj
    refine .inr ⟨hgo, fun H' => ∃ A', Step H1 H' ∧ RepA K H' A' ∧ N A', ?_, ?_⟩
    · rintro H' ⟨A', s', r', n'⟩
      obtain ⟨m', hm, w'⟩ := hN A' n'
      exact ⟨m', hm, A', s', r', w'⟩
    · intro y H3 hyl
      obtain ⟨s3, r3, rd⟩ := hy y H3 hyl
      unfold qTg at hb
      split at hb
      · rename_i τ3 e3
        refine Tg.run (((x.s.step (s1.trans (s2.trans s3)))).wiped _) rd e3 fun σ4 rs4 hw => ?_
        refine ⟨by rw [hw _ hsl, wipe_wipe], τ3, A2, _, ⟨rs4, r3⟩, hb, fun b A4 H4 q4 s4 r4 => ?_⟩
        show if b = true then _ else _
        cases b with
        | false =>
          rw [if_neg (by decide)] at q4 ⊢
          exact ⟨A4, s2.trans (s3.trans s4), r4, q4⟩
        | true =>
          rw [if_pos rfl] at q4 ⊢
          refine ⟨τ3, A4, _, ⟨rs4.step s4, r4⟩, q4, fun z A5 zv H5 ⟨acc, hacc, hlen, q5⟩ s5 r5 rz => ?_⟩
          obtain ⟨vs, hv, hr⟩ := r5 D _ hacc
          refine ⟨vs, hv, by rw [hr.length]; exact hlen, _, ?_, ?_, q5 _ ⟨⟨_, hacc⟩, rfl⟩⟩
          · exact s2.trans (s3.trans (s4.trans (s5.trans (.put hv True.intro))))
          · exact r5.put hv True.intro (.mkL upd_same ((hr.append (.cons rz .nil)).step (.put hv True.intro)))
      · exact hb.elim
theorem d_lc {elt tg iter : Expr} {ifs : List Expr} {scope : Scope} (own : List (Str × Nat)) {wi : DI} {g : Tg} {tt : DT} (hc : X.calm = true) (hN : X.N.Nodup) (hi : DPI X tg iter wi) (ok : BlkOk X.N X.env.scope scope own)
    (hg : ∀ (s : Shared) (H : Hp) (C : Addr) (cl : List (Str × Addr)) (fp : List Addr), DPG (X.blk s H scope (compEnvC scope cl C X.env) fp) tg g) (ht : ∀ (s : Shared) (H : Hp) (C : Addr) (cl : List (Str × Addr)) (fp : List Addr), DPTs (X.blk s H scope (compEnvC scope cl C X.env) fp) ifs tt)
    (he : ∀ (s : Shared) (H : Hp) (C : Addr) (cl : List (Str × Addr)) (fp : List Addr), DPE (X.blk s H scope (compEnvC scope cl C X.env) fp) elt te) (hsl : ∀ i ∈ g.slots, i ∈ own.map (·.2) := by decide) (hs : ∀ x, foldedSetIterable iter X.env x = pure x := by intro _; rfl) :
    DPE X (.ListComp elt [⟨tg, iter, ifs, 0⟩] scope pos) (qLc wi g tt te (own.map (·.2))) :=
  (pe_lc (wi := lowI X.K wi) (g := g.h X.K) (tt := lowT X.K tt) (te := low X.K te) hc hN hi ok (fun s H C cl fp => (hg s H C cl fp).pg) (fun s H C cl fp => (ht s H C cl fp).p) he hs).imp fun _ _ _ h => low_lc hsl h
end
end DL

set_option Elab.async false
set_option linter.all false
set_option maxRecDepth 100000
set_option maxHeartbeats 4000000
/-! DL5: dicts with int and text keys; a def's body -/
namespace DL
open PySem PySem.Spec PyProof.Rows L2

section
variable {κ : Type} [DecidableEq κ] {α : Type}
def valD (kvs : List (κ × α)) (k : κ) : Option α := (kvs.find? fun kv => decide (kv.1 = k)).map (·.2)
def putD (kvs : List (κ × α)) (k : κ) (v : α) : List (κ × α) :=
  if (kvs.any fun kv => decide (kv.1 = k)) = true then kvs.map (fun kv => if kv.1 = k then (kv.1, v) else kv) else kvs ++ [(k, v)]
end
theorem keyD_inj {a b : D} {k : Key} (h : keyD a = some k) (g : keyD b = some k) : a = b := by cases a <;> cases h <;> cases b <;> cases g <;> rfl
section
variable {K : PySem.W.Frag} {H : Hp}
theorem keyD_rep {d : D} {k : Key} {v : V} (h : keyD d = some k) (r : Rep K H d v) : v = kV k := by cases r <;> cases h <;> rfl
theorem keyD_dec {a b : D} {k j : Key} (h : keyD a = some k) (g : keyD b = some j) : decide (a = b) = decide (k = j) := by
  by_cases e : a = b
  · subst e; rw [h] at g; cases g; simp
  · rw [decide_eq_false e]
    exact (decide_eq_false fun z => e (keyD_inj (k := j) (by rw [← z]; exact h) g)).symm
theorem KVk.val : ∀ {kvs : List (D × D)} {ws : List (Key × V)} {y : D} {k : Key}, KVk K H kvs ws → keyD y = some k → (∀ d, valD kvs y = some d → ∃ v, valV ws k = some v ∧ Rep K H d v) ∧ (valD kvs y = none → valV ws k = none)
  | _, _, y, k, .nil, _ => ⟨fun d h => (nomatch h), fun _ => rfl⟩
  | p :: kvs, q :: ws, y, k, .cons h t, hk => by
    have ih := KVk.val t hk
    unfold valD valV
    rw [List.find?_cons, List.find?_cons, keyD_dec h.1 hk]
    by_cases e : q.1 = k
    · rw [decide_eq_true e]
      refine ⟨fun d hd => ?_, fun z => (nomatch z)⟩
      cases hd
      exact ⟨_, rfl, h.2⟩
    · rw [decide_eq_false e]
      exact ih
theorem KVk.val_isSome {kvs : List (D × D)} {ws : List (Key × V)} {y : D} {k : Key} (r : KVk K H kvs ws) (hk : keyD y = some k) : (valV ws k).isSome = (valD kvs y).isSome := by
  obtain ⟨h1, h2⟩ := r.val hk
  cases e : valD kvs y with
  | none => rw [h2 e]; rfl
  | some d => obtain ⟨v, hv, _⟩ := h1 d e; rw [hv]; rfl
theorem KVk.any : ∀ {kvs : List (D × D)} {ws : List (Key × V)} {y : D} {k : Key}, KVk K H kvs ws → keyD y = some k → (kvs.any fun kv => decide (kv.1 = y)) = ws.any fun kv => decide (kv.1 = k)
  | _, _, _, _, .nil, _ => rfl
  | _, _, _, _, .cons h t, hk => by rw [List.any_cons, List.any_cons, keyD_dec h.1 hk, KVk.any t hk]
theorem KVk.map {y : D} {k : Key} {d : D} {v : V} (hk : keyD y = some k) (rd : Rep K H d v) : ∀ {kvs : List (D × D)} {ws : List (Key × V)}, KVk K H kvs ws → KVk K H (kvs.map fun kv => if kv.1 = y then (kv.1, d) else kv) (ws.map fun kv => if kv.1 = k then (kv.1, v) else kv)
  | _, _, .nil => .nil
  | p :: _, q :: _, .cons h t => by
    rw [List.map_cons, List.map_cons]
    refine .cons ?_ (KVk.map hk rd t)
    have e0 := keyD_dec h.1 hk
    by_cases e : q.1 = k
    · rw [decide_eq_true e, decide_eq_true_eq] at e0
      rw [if_pos e, if_pos e0]; exact ⟨h.1, rd⟩
    · rw [decide_eq_false e, decide_eq_false_iff_not] at e0
      rw [if_neg e, if_neg e0]; exact h
theorem KVk.snoc {y : D} {k : Key} {d : D} {v : V} (hk : keyD y = some k) (rd : Rep K H d v) : ∀ {kvs : List (D × D)} {ws : List (Key × V)}, KVk K H kvs ws → KVk K H (kvs ++ [(y, d)]) (ws ++ [(k, v)])
  | _, _, .nil => .cons ⟨hk, rd⟩ .nil
  | _, _, .cons h t => .cons h (KVk.snoc hk rd t)
theorem KVk.put {y : D} {k : Key} {d : D} {v : V} {kvs : List (D × D)} {ws : List (Key × V)} (r : KVk K H kvs ws) (hk : keyD y = some k) (rd : Rep K H d v) : KVk K H (putD kvs y d) (putK ws k v) := by
  unfold putD putK
  rw [r.any hk]
  split
  · exact r.map hk rd
  · exact r.snoc hk rd
theorem KVk.length {kvs : List (D × D)} {ws : List (Key × V)} (r : KVk K H kvs ws) : ws.length = kvs.length := (Paired.length r).symm
end
/-- what may be asked of such a dict -/
def dOk (_ : List (D × D)) (y : D) : Prop := (keyD y).isSome = true
section
variable {X : Cx} {W : WX} {a b c e o i : Expr} {ta tb tc te td ty tv to ti : DE} {pos p2 p apos pos' tpos : Pos}
theorem dget_of {K : PySem.W.Frag} {H : Hp} {A : DA} (ra : RepA K H A) {a : Addr} {kvs : List (D × D)} {y : D} {w : V} (h : A a = some (.dk kvs)) (hk : dOk kvs y) (ry : Rep K H y w) : ∃ ws k, keyD y = some k ∧ H a = some (.dK ws) ∧ KVk K H kvs ws ∧ DGet H a w (valV ws k) := by
  obtain ⟨k, hk⟩ := Option.isSome_iff_exists.mp hk
  obtain ⟨ws, e, r⟩ := ra a _ h
  rw [keyD_rep hk ry]
  exact ⟨ws, k, hk, e, r, DGet.k e⟩
/-! items by place or key -/
def rIxD : DR2 := fun x y A Q => ∃ a kvs v, x = .ref a ∧ A a = some (.dk kvs) ∧ dOk kvs y ∧ valD kvs y = some v ∧ Q v A
theorem ix_dict (hu : X.A.units + 1 < cLine) : IxR X (fun x y H Q => ∃ a v, x = .ref a ∧ DGet H a y (some v) ∧ Q v H) := by
  intro value slice pins s σ H x y v u Q I rx ry h hs
  obtain ⟨a, z, rfl, g, q⟩ := h
  cases rx
  refine tail_any (ops := [.ref a, u]) (dict_typeIs I g) PySem.F.slot_dict_getitem.lookup (d_getItem hu I g ry fun w' s3 I3 rw' => ⟨z, H, I3, rw', q⟩) hs
theorem dix_dict (hu : X.A.units + 1 < cLine) : DIxR X rIxD := (ix_dict hu).imp fun x y H Q ⟨d, e, A, Q', rd, re, ra, ⟨a, kvs, v, h1, h2, h3, h4, q⟩, k⟩ => by
  subst h1
  cases rd
  obtain ⟨ws, kk, hk, e1, r, g⟩ := dget_of ra h2 h3 re
  obtain ⟨zv, hz, rz⟩ := (r.val hk).1 _ h4
  rw [hz] at g
  exact ⟨a, zv, rfl, g, k _ _ _ _ q (.refl _) ra rz⟩
/-- x[i]: a list, a tuple, a text, a dict -/
def rIxU : DR2 := fun x y A Q => rIx x y A Q ∨ rIxS x y A Q ∨ rIxD x y A Q
theorem low_or {K : PySem.W.Frag} {r r' : DR2} {x y : V} {H : Hp} {Q : VK} (h : lowR K (fun x y A Q => r x y A Q ∨ r' x y A Q) x y H Q) : lowR K r x y H Q ∨ lowR K r' x y H Q := by
  obtain ⟨d, e, A, Q', rd, re, ra, q, k⟩ := h
  rcases q with q | q
  · exact .inl ⟨d, e, A, Q', rd, re, ra, q, k⟩
  · exact .inr ⟨d, e, A, Q', rd, re, ra, q, k⟩
theorem DIxR.or {r r' : DR2} (h : DIxR X r) (g : DIxR X r') : DIxR X (fun x y A Q => r x y A Q ∨ r' x y A Q) := IxR.imp (IxR.or h g) fun _ _ _ _ z => low_or z
theorem DOpR.or {f : Value → Value → Sem Value} {r r' : DR2} (h : DOpR X f r) (g : DOpR X f r') : DOpR X f (fun x y A Q => r x y A Q ∨ r' x y A Q) := OpR.imp (OpR.or h g) fun _ _ _ _ z => low_or z
theorem dixU (hu : X.A.units + 1 < cLine) : DIxR X rIxU := DIxR.or dix (DIxR.or dix_str (dix_dict hu))

/-! in, not in -/
def rInD (neg : Bool) : DR2 := fun x y A Q => ∃ a kvs, y = .ref a ∧ A a = some (.dk kvs) ∧ dOk kvs x ∧ Q (.bl (if neg then !(valD kvs x).isSome else (valD kvs x).isSome)) A
theorem do_inD (hu : X.A.units + 1 < cLine) : DOpR X (compareOp .In) (rInD false) := by
  intro pins s σ H x y v u Q I rx ry ⟨d, e, A, Q', rd, re, ra, ⟨a, kvs, h1, h2, h3, q⟩, k⟩
  subst h1
  cases re
  cases ry
  obtain ⟨ws, kk, hk, e1, r, g⟩ := dget_of ra h2 h3 rd
  refine d_in hu I g rx fun s3 I3 => ⟨.bl _, H, I3, rfl, ?_⟩
  rw [r.val_isSome hk]
  exact k _ _ _ _ q (.refl _) ra (.bl _)
theorem do_notinD (hu : X.A.units + 1 < cLine) : DOpR X (compareOp .NotIn) (rInD true) := by
  intro pins s σ H x y v u Q I rx ry ⟨d, e, A, Q', rd, re, ra, ⟨a, kvs, h1, h2, h3, q⟩, k⟩
  subst h1
  cases re
  cases ry
  obtain ⟨ws, kk, hk, e1, r, g⟩ := dget_of ra h2 h3 rd
  refine d_notIn hu I g rx fun s3 I3 => ⟨.bl _, H, I3, rfl, ?_⟩
  rw [r.val_isSome hk]
  exact k _ _ _ _ q (.refl _) ra (.bl _)
def rInU (neg : Bool) : DR2 := fun x y A Q => rInQ neg x y A Q ∨ rInD neg x y A Q
theorem do_inU (hu : X.A.units + 1 < cLine) : DOpR X (compareOp .In) (rInU false) := DOpR.or do_in (do_inD hu)
theorem do_notinU (hu : X.A.units + 1 < cLine) : DOpR X (compareOp .NotIn) (rInU true) := DOpR.or do_notin (do_notinD hu)

/-! == of any data -/
def rEqU (neg : Bool) : DR2 := fun x y A Q => match eqF x y with
  | some b => Q (.bl (if neg then !b else b)) A
  | none => rEqP neg x y A Q
theorem rEqU_or {neg : Bool} {x y : D} {A : DA} {Q : DK} (h : rEqU neg x y A Q) : rEqF neg x y A Q ∨ rEqP neg x y A Q := by
  unfold rEqU at h
  unfold rEqF
  cases e : eqF x y with
  | none => rw [e] at h; exact .inr h
  | some b => rw [e] at h; exact .inl h
theorem do_eqU (hu : X.A.units + 64 < cLine) : DOpR X (compareOp .Eq) (rEqU false) := DOpR.imp (DOpR.or (do_eq hu) (do_eqP hu)) fun _ _ _ _ => rEqU_or
theorem do_neU (hu : X.A.units + 64 < cLine) : DOpR X (compareOp .NotEq) (rEqU true) := DOpR.imp (DOpR.or (do_ne hu) (do_neP hu)) fun _ _ _ _ => rEqU_or

/-! + -/
def rAddU : DR2 := fun x y A Q => match x, y with
  | .int i, .int j => Q (.int (i + j)) A
  | .str s, .str t => s.length + t.length ≤ sizeLine ∧ Q (.str (s ++ t)) A
  | .tup xs, .tup ys => xs.length + ys.length ≤ sizeLine ∧ Q (.tup (xs ++ ys)) A
  | .ref a, .ref b => ∃ xs ys, A a = some (.lst xs) ∧ A b = some (.lst ys) ∧ xs.length + ys.length ≤ sizeLine ∧ ∀ p A', New A p (.lst (xs ++ ys)) A' → Q (.ref p) A'
  | _, _ => False
theorem do_addU : DOpR X (binaryOp .Add) rAddU := ((op_add.or op_add_str).or (op_catA.or op_cat)).imp fun x y H Q ⟨d, e, A, Q', rd, re, ra, q, k⟩ => by
  cases rd with
  | int i => cases re with
    | int j => exact .inl (.inl ⟨_, _, rfl, rfl, k _ _ _ _ q (.refl _) ra (.int _)⟩)
    | _ => exact False.elim q
  | str i => cases re with
    | str j => exact .inl (.inr ⟨_, _, rfl, rfl, q.1, k _ _ _ _ q.2 (.refl _) ra (.str _)⟩)
    | _ => exact False.elim q
  | ref a => cases re with
    | ref b =>
      obtain ⟨xs, ys, h1, h2, h3, q⟩ := q
      obtain ⟨vs, e1, r1⟩ := ra a _ h1
      obtain ⟨ws, e2, r2⟩ := ra b _ h2
      exact .inr (.inr ⟨a, b, vs, ws, rfl, rfl, e1, e2, by rw [r1.length, r2.length]; exact h3, fun p hp => kont_new k (.refl _) ra hp (.mkL upd_same ((r1.append r2).step (.new hp))) q⟩)
    | _ => exact False.elim q
  | @tup a vs xs h1 r1 => cases re with
    | @tup b ws ys h2 r2 =>
      have hl : vs.length + ws.length ≤ sizeLine := by rw [r1.length, r2.length]; exact q.1
      have kk : ∀ {v : V} {H' : Hp}, Step H H' → RepA X.K H' A → Rep X.K H' (.tup (xs ++ ys)) v → Q v H' := fun s r t => k _ _ _ _ q.2 s r t
      refine .inr (.inl ⟨a, b, vs, ws, rfl, rfl, h1, h2, hl, fun z => ?_, fun _ z => ?_, fun _ _ p hp => ?_⟩)
      · subst z; cases r1; exact kk (.refl _) ra (.tup h2 r2)
      · subst z; cases r2; rw [List.append_nil] at kk; exact kk (.refl _) ra (.tup h1 r1)
      · exact kk (.new hp) (ra.hid hp) (.tup (.of upd_same) ((r1.append r2).step (.new hp)))
    | _ => exact False.elim q
  | _ => cases re <;> exact False.elim q

/-! o[i] = v -/
def rSetU : D → D → D → DA → (DA → Prop) → Prop := fun o i v A Q => (∃ l xs k j, o = .ref l ∧ i = .int k ∧ A l = some (.lst xs) ∧ ixN xs.length k = some j ∧ ∀ A', Put A l (.lst (xs.set j v)) A' → Q A') ∨
  ∃ a kvs, o = .ref a ∧ A a = some (.dk kvs) ∧ dOk kvs i ∧ kvs.length < sizeLine ∧ ∀ A', Put A a (.dk (putD kvs i v)) A' → Q A'
def lowSet (K : PySem.W.Frag) (r : D → D → D → DA → (DA → Prop) → Prop) : TSet := fun o i v H Q => ∃ d e f A Q', Rep K H d o ∧ Rep K H e i ∧ Rep K H f v ∧ RepA K H A ∧ r d e f A Q' ∧ ∀ A' H', Q' A' → Step H H' → RepA K H' A' → Q H'
theorem dset (hu : X.A.units + 1 < cLine) : PSet X (lowSet X.K rSetU) := by
  intro pins s σ H o i v ov iv u Q I ro ri rv ⟨d, e, f, A, Q', rd, re, rf, ra, q, k⟩
  rcases q with ⟨l, xs, kk, j, h1, h2, h3, h4, q⟩ | ⟨a, kvs, h1, h2, h3, h4, q⟩
  · subst h1 h2
    cases rd
    cases re
    obtain ⟨vs, e1, r1⟩ := ra l _ h3
    refine set_list pins s σ H _ _ v ov iv u Q I ro ri rv ⟨l, vs, kk, j, rfl, rfl, e1, by rw [r1.length]; exact h4, ?_⟩
    have sp : Step H (upd H l (.lst (vs.set j v))) := .put e1 True.intro
    exact k _ _ (q _ ⟨⟨_, h3⟩, rfl⟩) sp (ra.put e1 True.intro (.mkL upd_same ((r1.set rf j).step sp)))
  · subst h1
    cases rd
    cases ro
    obtain ⟨ws, kk, hk, e1, r, g⟩ := dget_of ra h2 h3 re
    have ek := keyD_rep hk re
    subst ek
    have sp : Step H (upd H a (.dK (putK ws kk v))) := .put e1 True.intro
    exact d_setItem hu I (DPut.k e1 (by rw [r.length]; exact h4)) ri rv fun s3 I3 => ⟨_, I3, k _ _ (q _ ⟨⟨_, h2⟩, rfl⟩) sp (ra.put e1 True.intro (.mkD upd_same ((r.put hk rf).step sp)))⟩
def qPut (te to ti : DE) : DS := fun E τ A => te τ A fun d A1 => to τ A1 fun x A2 => ti τ A2 fun y A3 => rSetU x y d A3 fun A' => E.nx τ A'
theorem ds_put (hu : X.A.units + 1 < cLine) (he : DPE X e te) (ho : DPE X o to) (hi : DPE X b ti) (hs : swapsWithSole [.Subscript o b p2] e pos.line X.env = pure false := by rfl) (hw : swappedStores [.Subscript o b p2] e X.env = pure none := by rfl)
    (h1 : (assignEach [.Subscript o b p2] X.env).map (·.2) = [assign (.Subscript o b p2) X.env] := by rfl)
    (ha : ∀ v, assign (.Subscript o b p2) X.env v = (do
      let ov ← holding [v] (eval o X.env)
      let iv ← holding [v, ov] (eval b X.env)
      standAt p2
      holding [v, ov, iv] (setItem ov iv v)
      release [v, ov, iv] []) := by intro _; rfl) : DPS X W (.Assign [.Subscript o b p2] e pos) (qPut te to ti) :=
  (ps_asg he (pg_sub ho hi (dset hu) ha) hs hw h1).imp fun E σ H ⟨τ, A, E', x, q, k⟩ =>
  ⟨τ, A, _, x, q, fun d A1 v H1 q1 st1 r1 rd => ⟨τ, A1, _, x.to st1 r1, q1, fun f A2 w H2 q2 st2 r2 rf => ⟨τ, A2, _, x.to (st1.trans st2) r2, q2, fun g A3 u H3 q3 st3 r3 rg => 
    ⟨f, g, d, A3, _, rf.step st3, rg, rd.step (st2.trans st3), r3, q3, fun A' H' q' s' r' => k.nx _ _ _ _ q' (st1.trans (st2.trans (st3.trans s'))) r' (x.s.step (st1.trans (st2.trans (st3.trans s'))))⟩⟩⟩⟩
/-! o[i] op= e -/
def rGetU : DR2 := fun x y A Q => (∃ l xs i v, x = .ref l ∧ y = .int i ∧ A l = some (.lst xs) ∧ atI xs i = some v ∧ Q v A) ∨ rIxD x y A Q
theorem dgetU (hu : X.A.units + 1 < cLine) : PGet X (lowR X.K rGetU) := by
  intro pins s σ H x y v u Q I rx ry ⟨d, e, A, Q', rd, re, ra, q, k⟩
  rcases q with ⟨l, xs, i, z, h1, h2, h3, h4, q⟩ | ⟨a, kvs, z, h1, h2, h3, h4, q⟩
  · subst h1 h2
    cases rd
    cases re
    obtain ⟨vs, e1, r1⟩ := ra l _ h3
    obtain ⟨w, hw, rw'⟩ := r1.atI h4
    exact get_list pins s σ H _ _ v u Q I rx ry ⟨l, vs, i, w, rfl, rfl, .of e1, hw, k _ _ _ _ q (.refl _) ra rw'⟩
  · subst h1
    cases rd
    cases rx
    obtain ⟨ws, kk, hk, e1, r, g⟩ := dget_of ra h2 h3 re
    obtain ⟨zv, hz, rz⟩ := (r.val hk).1 _ h4
    rw [hz] at g
    exact d_getItem hu I g ry fun w' s3 I3 rw' => ⟨zv, H, I3, rw', k _ _ _ _ q (.refl _) ra rz⟩
def qAugU (r : DR2) (to ti te : DE) : DS := fun E τ A => to τ A fun x A1 => ti τ A1 fun y A2 => rGetU x y A2 fun old A3 => te τ A3 fun z A4 => r old z A4 fun d A5 => rSetU x y d A5 fun A' => E.nx τ A'
theorem ds_augU {op : Operator} {r : DR2} (hu : X.A.units + 1 < cLine) (hop : DOpR X (inplaceOp op) r) (ho : DPE X o to) (hi : DPE X b ti) (he : DPE X e te)
    (ha : ∀ ov iv new, augStore b ov iv new = (do holding [new, ov, iv] (setItem ov iv new); release [new, ov, iv] []; pure .next) := by intros; rfl) : DPS X W (.AugAssign (.Subscript o b tpos) op e pos) (qAugU r to ti te) :=
  (ps_augS (tget := lowR X.K rGetU) (tip := lowR X.K r) (tset := lowSet X.K rSetU) ho hi (dgetU hu) he hop (dset hu) ha).imp fun E σ H ⟨τ, A, E', x, q, k⟩ =>
  ⟨τ, A, _, x, q, fun d A1 v H1 q1 st1 r1 rd => ⟨τ, A1, _, x.to st1 r1, q1, fun f A2 w H2 q2 st2 r2 rf =>
    ⟨d, f, A2, _, rd.step st2, rf, r2, q2, fun old A3 ov H3 q3 st3 r3 ro => ⟨τ, A3, _, x.to (st1.trans (st2.trans st3)) r3, q3, fun g A4 gv H4 q4 st4 r4 rg =>
      ⟨old, g, A4, _, ro.step st4, rg, r4, q4, fun z A5 zv H5 q5 st5 r5 rz =>
        ⟨d, f, z, A5, _, rd.step (st2.trans (st3.trans (st4.trans st5))), rf.step (st3.trans (st4.trans st5)), rz, r5, q5, fun A' H' q' s' r' =>
          have sa := st1.trans (st2.trans (st3.trans (st4.trans (st5.trans s'))))
          k.nx _ _ _ _ q' sa r' (x.s.step sa)⟩⟩⟩⟩⟩⟩
/-- {} -/
def qDNew : DE := fun _ A Q => ∀ p A', New A p (.dk []) A' → Q (.ref p) A'
theorem d_dnew : DPE X (.Dict [] [] pos) qDNew := pe_dnewK.imp fun σ H Q ⟨τ, A, Q', x, q, k⟩ p hp => kont_new k (.refl _) x.a hp (.mkD upd_same .nil) q
/-- {'a': x, ..} -/
def qPairs : List (DE × DE) → DSt → DA → (List (D × D) → DA → Prop) → Prop
  | [], _, A, Q => Q [] A
  | (tk, tv) :: r, τ, A, Q => tk τ A fun x A1 => tv τ A1 fun y A2 => qPairs r τ A2 fun ps A3 => Q ((x, y) :: ps) A3
def lowPs (K : PySem.W.Frag) (l : List (DE × DE)) : List (TE × TE) := l.map fun p => (low K p.1, low K p.2)
theorem low_pairs {K : PySem.W.Frag} : ∀ (l : List (DE × DE)) {σ : L2.St} {H : Hp} {τ : DSt} {A : DA} {Q' : List (D × D) → DA → Prop} {Q : List (V × V) → Hp → Prop}, At K H τ A σ → qPairs l τ A Q' →
    (∀ ps A1 vs H1, Q' ps A1 → Step H H1 → RepA K H1 A1 → Paired (fun p q => Rep K H1 p.1 q.1 ∧ Rep K H1 p.2 q.2) ps vs → Q vs H1) → tPairs (lowPs K l) σ H Q
  | [], σ, H, τ, A, Q', Q, x, q, k => k _ _ _ _ q (.refl _) x.a .nil
  | (tk, tv) :: r, σ, H, τ, A, Q', Q, x, q, k => ⟨τ, A, _, x, q, fun d A1 v H1 q1 s1 r1 rd => ⟨τ, A1, _, x.to s1 r1, q1, fun f A2 w H2 q2 s2 r2 rf =>
    low_pairs r (x.to (s1.trans s2) r2) q2 fun ps A3 vs H3 q3 s3 r3 rp => k _ _ _ _ q3 (s1.trans (s2.trans s3)) r3 (.cons ⟨rd.step (s2.trans s3), rf.step s3⟩ rp)⟩⟩
def qDisp (l : List (DE × DE)) : DE := fun τ A Q => ∀ p A1, New A p (.dk []) A1 → qPairs l τ A1 fun ps A2 => A2 p = some (.dk []) ∧ (∀ q ∈ ps, (keyD q.1).isSome = true) ∧ ps.length ≤ 15 ∧ ∀ A3, Put A2 p (.dk (ps.foldl (fun acc kv => putD acc kv.1 kv.2) [])) A3 → Q (.ref p) A3
theorem KVk.merge {K : PySem.W.Frag} {H : Hp} : ∀ {kvs : List (D × D)} {ws : List (Key × V)} {acc : List (D × D)} {acw : List (Key × V)}, KVk K H kvs ws → KVk K H acc acw → KVk K H (kvs.foldl (fun acc kv => putD acc kv.1 kv.2) acc) (mergeK acw ws)
  | _, _, _, _, .nil, q => q
  | (y, d) :: kvs, (k, v) :: ws, acc, acw, .cons h t, q => KVk.merge (kvs := kvs) (ws := ws) t (q.put h.1 h.2)
theorem keys_disp {K : PySem.W.Frag} {H : Hp} : ∀ {ps : List (D × D)} {vs : List (V × V)}, Paired (fun p q => Rep K H p.1 q.1 ∧ Rep K H p.2 q.2) ps vs → (∀ q ∈ ps, (keyD q.1).isSome = true) → ∃ ws : List (Key × V), vs = ws.map (fun kv => (kV kv.1, kv.2)) ∧ KVk K H ps ws
  | _, _, .nil, _ => ⟨[], rfl, .nil⟩
  | (p1, p2) :: ps, (v1, v2) :: vs, .cons h t, g => by
    obtain ⟨ws, e, r⟩ := keys_disp (ps := ps) (vs := vs) t fun q hq => g q (List.mem_cons_of_mem _ hq)
    obtain ⟨k, hk⟩ := Option.isSome_iff_exists.mp (g (p1, p2) List.mem_cons_self)
    refine ⟨(k, v2) :: ws, ?_, .cons ⟨hk, h.2⟩ r⟩
    rw [List.map_cons, ← e, ← keyD_rep hk h.1]
structure DPPs (X : Cx) (pos : Pos) (keys : List (Option Expr)) (values : List Expr) (l : List (DE × DE)) : Prop where
  p : PPs X pos keys values (lowPs X.K l)
theorem dps_nil : DPPs X pos [] [] [] := ⟨pps_nil⟩
theorem dps_cons {k v : Expr} {ks : List (Option Expr)} {vs : List Expr} {l : List (DE × DE)} {tk tv : DE} (hk : DPE X k tk) (hv : DPE X v tv) (hr : DPPs X pos ks vs l) : DPPs X pos (some k :: ks) (v :: vs) ((tk, tv) :: l) := ⟨pps_cons hk hv hr.p⟩
theorem d_disp {keys : List (Option Expr)} {values : List Expr} {l : List (DE × DE)} (h : DPPs X pos keys values l) (hall : keys.all (·.isSome) = true := by rfl) (hl : keys.length = values.length := by rfl) (h0 : keys ≠ [] := by exact List.cons_ne_nil _ _) (h15 : keys.length ≤ 15 := by decide) :
    DPE X (.Dict keys values pos) (qDisp l) := (pe_disp h.p hall hl h0 h15).imp fun σ H Q ⟨τ, A, Q', x, q, k⟩ p hp => by
  have sp : Step H (upd H p (.dK [])) := .new hp
  refine low_pairs l (x.to sp (x.a.new hp (.mkD upd_same .nil))) (q p _ ⟨x.a.free hp, rfl⟩) fun ps A1 vs H1 ⟨hA, hk, hlen, q1⟩ s1 r1 rp => ?_
  obtain ⟨ws, e, r⟩ := keys_disp rp hk
  obtain ⟨ws0, e0, r0⟩ := r1 p _ hA
  cases r0
  refine ⟨e0, ws, e, by rw [r.length]; exact hlen, ?_⟩
  have s2 : Step H1 (upd H1 p (.dK (mergeK [] ws))) := .put e0 True.intro
  exact k _ _ _ _ (q1 _ ⟨⟨_, hA⟩, rfl⟩) (sp.trans (s1.trans s2)) (r1.put e0 True.intro (.mkD upd_same ((r.merge .nil).step s2))) (.ref p)

end
end DL

set_option Elab.async false
set_option linter.all false
set_option maxRecDepth 100000
set_option maxHeartbeats 4000000
/-! DL6: the order of data of any depth; sorted -/
namespace DL
open PySem PySem.Spec PyProof.Rows L2

/-! ### the order of nested keys -/
mutual
def kLt : NestedKey → NestedKey → Bool
  | .none, .none => false
  | .none, _ => true
  | .num _, .none => false
  | .num a, .num b => decide (a < b)
  | .num _, _ => true
  | .text _, .none => false
  | .text _, .num _ => false
  | .text a, .text b => decide (a.cps.toList < b.cps.toList)
  | .text _, .tup _ => true
  | .tup a, .tup b => kLts a b
  | .tup _, _ => false
def kLts : List NestedKey → List NestedKey → Bool
  | [], [] => false
  | [], _ :: _ => true
  | _ :: _, [] => false
  | a :: as, b :: bs => if a = b then kLts as bs else kLt a b
end
theorem kLts_cons (a b : NestedKey) (as bs : List NestedKey) : kLts (a :: as) (b :: bs) = if a = b then kLts as bs else kLt a b := by rw [kLts]
theorem cps_irrefl (a : List Nat) : ¬ a < a := List.lt_irrefl a
mutual
theorem kLt_irrefl : ∀ a : NestedKey, kLt a a = false
  | .none => by simp [kLt]
  | .num a => by simp [kLt]
  | .text a => by simp [kLt, List.lt_irrefl]
  | .tup a => by rw [kLt]; exact kLts_irrefl a
theorem kLts_irrefl : ∀ a : List NestedKey, kLts a a = false
  | [] => by simp [kLts]
  | a :: as => by rw [kLts_cons, if_pos rfl]; exact kLts_irrefl as
end
theorem str_tot {a b : Str} (h1 : ¬ a.cps.toList < b.cps.toList) (h2 : ¬ b.cps.toList < a.cps.toList) : a = b := by
  have e : a.cps.toList = b.cps.toList := List.le_antisymm (List.not_lt.mp h2) (List.not_lt.mp h1)
  exact Str.ext' (Array.toList_inj.mp e)
mutual
theorem kLt_total : ∀ a b : NestedKey, kLt a b = false → kLt b a = false → a = b := fun a b h1 h2 => by
  cases a <;> cases b <;> first
    | rfl
    | (simp [kLt] at h1; done)
    | (simp [kLt] at h2; done)
    | (simp only [kLt, decide_eq_false_iff_not] at h1 h2; congr 1; omega)
    | (simp only [kLt, decide_eq_false_iff_not] at h1 h2; rw [str_tot h1 h2])
    | (rename_i xs ys; rw [kLt] at h1 h2; rw [kLts_total xs ys h1 h2])
theorem kLts_total : ∀ a b : List NestedKey, kLts a b = false → kLts b a = false → a = b := fun a b h1 h2 => by
  cases a <;> cases b
  · rfl
  · simp [kLts] at h1
  · simp [kLts] at h2
  · rename_i x xs y ys
    rw [kLts_cons] at h1 h2
    by_cases e : x = y
    · subst e
      rw [if_pos rfl] at h1 h2
      rw [kLts_total xs ys h1 h2]
    · rw [if_neg e] at h1
      rw [if_neg (Ne.symm e)] at h2
      exact absurd (kLt_total x y h1 h2) e
end
mutual
theorem kLt_trans : ∀ a b c : NestedKey, kLt a b = true → kLt b c = true → kLt a c = true := fun a b c h1 h2 => by
  cases a <;> cases b <;> cases c <;> first
    | (simp [kLt] at h1; done)
    | (simp [kLt] at h2; done)
    | (simp [kLt]; done)
    | (simp only [kLt, decide_eq_true_eq] at h1 h2 ⊢; omega)
    | (simp only [kLt, decide_eq_true_eq] at h1 h2 ⊢; exact List.lt_trans h1 h2)
    | (rename_i xs ys zs; rw [kLt] at h1 h2 ⊢; exact kLts_trans xs ys zs h1 h2)
theorem kLts_trans : ∀ a b c : List NestedKey, kLts a b = true → kLts b c = true → kLts a c = true := fun a b c h1 h2 => by
  cases a <;> cases b <;> cases c <;> first
    | (simp [kLts] at h1; done)
    | (simp [kLts] at h2; done)
    | (simp [kLts]; done)
    | skip
  rename_i x xs y ys z zs
  rw [kLts_cons] at h1 h2 ⊢
  by_cases e1 : x = y
  · subst e1
    rw [if_pos rfl] at h1
    by_cases e2 : x = z
    · subst e2
      rw [if_pos rfl] at h2 ⊢
      exact kLts_trans xs ys zs h1 h2
    · rw [if_neg e2] at h2 ⊢
      exact h2
  · rw [if_neg e1] at h1
    by_cases e2 : y = z
    · subst e2
      rw [if_neg e1]
      exact h1
    · rw [if_neg e2] at h2
      have e3 : x ≠ z := by
        rintro rfl
        have := kLt_trans x y x h1 h2
        rw [kLt_irrefl] at this; cases this
      rw [if_neg e3]
      exact kLt_trans x y z h1 h2
end
theorem kLt_neg (a b c : NestedKey) (h : kLt a c = true) : kLt a b = true ∨ kLt b c = true := by
  cases h1 : kLt a b with
  | true => exact .inl rfl
  | false =>
    right
    cases h2 : kLt b a with
    | true => exact kLt_trans b a c h2 h
    | false => rw [← kLt_total a b h1 h2]; exact h
def keyOrd : KeyOrd where
  α := NestedKey
  blt := kLt
  irrefl := kLt_irrefl
  trans := kLt_trans
  negTrans := kLt_neg
  total := kLt_total

/-! ### what Python's < answers -/
mutual
def kCmp : NestedKey → NestedKey → Bool
  | .num _, .num _ => true
  | .text _, .text _ => true
  | .tup a, .tup b => kCmps a b
  | _, _ => false
def kCmps : List NestedKey → List NestedKey → Bool
  | a :: as, b :: bs => if a = b then kCmps as bs else kCmp a b
  | _, _ => true
end
theorem kCmps_cons (a b : NestedKey) (as bs : List NestedKey) : kCmps (a :: as) (b :: bs) = if a = b then kCmps as bs else kCmp a b := by rw [kCmps]
open PySem.SeqAt
/-- the first place that differs -/
theorem firstLt_keys (lt : NestedKey → NestedKey → Bool) : ∀ (xs ys : List NestedKey) (off : Nat) (e r : Nat → Bool), (∀ j, j < xs.length → j < ys.length → e (off + j) = NestedKey.beq (xs.getD j .none) (ys.getD j .none)) → (∀ j, j < xs.length → j < ys.length → r (off + j) = kLt (xs.getD j .none) (ys.getD j .none)) →
    firstLt e r (decide (xs.length < ys.length)) ((List.range (min xs.length ys.length)).map (off + ·)) = kLts xs ys
  | [], [], off, e, r, _, _ => by simp [firstLt, kLts]
  | [], _ :: _, off, e, r, _, _ => by simp [firstLt, kLts]
  | _ :: _, [], off, e, r, _, _ => by simp [firstLt, kLts]
  | x :: xs, y :: ys, off, e, r, he, hr => by
    have hm : min (x :: xs).length (y :: ys).length = min xs.length ys.length + 1 := by simp only [List.length_cons]; omega
    have hd : decide ((x :: xs).length < (y :: ys).length) = decide (xs.length < ys.length) := by simp
    rw [hm, hd, List.range_succ_eq_map, List.map_cons, List.map_map, kLts_cons]
    have e0 := he 0 (by simp) (by simp)
    have r0 := hr 0 (by simp) (by simp)
    simp only [List.getD_cons_zero, Nat.add_zero] at e0 r0
    have hmap : List.map ((fun x => off + x) ∘ Nat.succ) (List.range (min xs.length ys.length)) = (List.range (min xs.length ys.length)).map ((off + 1) + ·) := by
      apply List.map_congr_left
      intro a _
      simp only [Function.comp]
      omega
    rw [Nat.add_zero, hmap]
    by_cases h : x = y
    · subst h
      rw [if_pos rfl]
      rw [NestedKey.beq_self] at e0
      rw [firstLt_yes e0]
      refine firstLt_keys lt xs ys (off + 1) e r (fun j h1 h2 => ?_) fun j h1 h2 => ?_
      · have := he (j + 1) (by simp only [List.length_cons]; omega) (by simp only [List.length_cons]; omega)
        rw [List.getD_cons_succ, List.getD_cons_succ] at this
        rw [← this]; congr 1; omega
      · have := hr (j + 1) (by simp only [List.length_cons]; omega) (by simp only [List.length_cons]; omega)
        rw [List.getD_cons_succ, List.getD_cons_succ] at this
        rw [← this]; congr 1; omega
    · rw [if_neg h]
      have hb : NestedKey.beq x y = false := by
        cases q : NestedKey.beq x y with
        | false => rfl
        | true => exact absurd (NestedKey.eq_of_beq x y q) h
      rw [hb] at e0
      rw [firstLt_no e0, r0]
theorem kCmps_at : ∀ (xs ys : List NestedKey) (j : Nat), kCmps xs ys = true → (∀ i, i < j → xs.getD i .none = ys.getD i .none) → j < xs.length → j < ys.length → NestedKey.beq (xs.getD j .none) (ys.getD j .none) = false → kCmp (xs.getD j .none) (ys.getD j .none) = true
  | [], _, j, _, _, h, _, _ => by simp at h
  | _ :: _, [], j, _, _, _, h, _ => by simp at h
  | x :: xs, y :: ys, 0, hc, _, _, _, hb => by
    rw [kCmps_cons] at hc
    simp only [List.getD_cons_zero] at hb ⊢
    have e : x ≠ y := by rintro rfl; rw [NestedKey.beq_self] at hb; cases hb
    rw [if_neg e] at hc
    exact hc
  | x :: xs, y :: ys, j + 1, hc, heq, h1, h2, hb => by
    have e : x = y := by simpa using heq 0 (Nat.succ_pos _)
    rw [kCmps_cons, if_pos e] at hc
    simp only [List.getD_cons_succ] at hb ⊢
    exact kCmps_at xs ys j hc (fun i hi => by simpa using heq (i + 1) (by omega)) (by simpa using h1) (by simpa using h2) hb
/-- firstLt asks r at one place at most -/
theorem firstLt_congr {e r r' : Nat → Bool} {fin : Bool} : ∀ (l : List Nat), (∀ j ∈ l, e j = false → r j = r' j) → firstLt e r fin l = firstLt e r' fin l
  | [], _ => rfl
  | j :: t, h => by
    cases q : e j with
    | true => rw [firstLt_yes q, firstLt_yes q]; exact firstLt_congr t fun i hi => h i (List.mem_cons_of_mem _ hi)
    | false => rw [firstLt_no q, firstLt_no q]; exact h j List.mem_cons_self q

section
open AutoSeq1 (wpAny_loadPart')
open MeetsSeq MeetsSeq2 MeetsSeq3 SeqRoads2
/-- t < u, where < is asked at the first place alone that differs -/
theorem tup_lt_first (p q : Addr) (us vs : Array Value) (mu mv : Nat) (du dv : Option Addr) (su sv : Array (Option Value)) (same less : Nat → Bool) :
    Meets (Builtin.«tuple.__lt__» ⟨[.ref p, .ref q], []⟩)
      (fun A R s => (s.heap.get? p = some { cls := .type "tuple", dict := du, data := .seq us mu, slots := su } ∧ s.heap.get? q = some { cls := .type "tuple", dict := dv, data := .seq vs mv, slots := sv }) ∧
        (∀ k (c1 : k < us.size) (c2 : k < vs.size), EqAt A.in1 s us[k] vs[k] (same k)) ∧
        (∀ k (c1 : k < us.size) (c2 : k < vs.size), (∀ i, i < k → same i = true) → same k = false → RcLt A.in1 s us[k] vs[k] (less k)) ∧
        R (.ok (.ret (.bool (firstLt same less (decide (us.size < vs.size)) (List.range (min us.size vs.size)))))) s) :=
  .of_wp fun prog w A R s ⟨⟨gp, gq⟩, hsame, hless, hend⟩ => by
    obtain ⟨hp, g, d, tk, os⟩ := s
    have sub := AutoSeq1.sub_tuple_tuple
    have len : (us.toList.zip vs.toList).length = min us.size vs.size := by simp
    wp_walk using wpAny_loadPart' gp, wpAny_loadPart' gq, wpAny_forIn_list _ (fun rest c t => c.1 = none ∧ t = ⟨hp, g, d, tk, os⟩ ∧ ∃ k, rest = (us.toList.zip vs.toList).drop k ∧ (∀ i, i < k → i < min us.size vs.size → same i = true) ∧
      R (.ok (.ret (.bool (firstLt same less (decide (us.size < vs.size)) ((List.range (min us.size vs.size)).drop k))))) ⟨hp, g, d, tk, os⟩) _
    case turn =>
      rintro ⟨u, v⟩ rest c t ⟨hc, rfl, k, hr, hb, hR⟩
      have lk : k < (us.toList.zip vs.toList).length := by
        rcases Nat.lt_or_ge k (us.toList.zip vs.toList).length with z | z
        · exact z
        · rw [List.drop_eq_nil_of_le z] at hr; cases hr
      have lm : k < min us.size vs.size := by rw [← len]; exact lk
      have c1 : k < us.size := by omega
      have c2 : k < vs.size := by omega
      rw [List.drop_eq_getElem_cons lk] at hr
      obtain ⟨huv, hrest⟩ := List.cons.inj hr
      obtain rfl : u = us[k] := by simpa using congrArg Prod.fst huv
      obtain rfl : v = vs[k] := by simpa using congrArg Prod.snd huv
      rw [show (List.range (min us.size vs.size)).drop k = k :: (List.range (min us.size vs.size)).drop (k + 1) by simp [List.drop_eq_getElem_cons, lm]] at hR
      refine wpAny_bind (hsame k c1 c2 prog w _ _ ?_)
      cases ek : same k with
      | true =>
        rw [firstLt_yes ek] at hR
        wp_walk
        exact ⟨rfl, rfl, k + 1, hrest, fun i hi hm => if z : i = k then z ▸ ek else hb i (by omega) hm, hR⟩
      | false =>
        rw [firstLt_no ek] at hR
        have ask := fun E Q z => hless k c1 c2 (fun i hi => hb i hi (by omega)) ek prog w E Q z
        wp_walk using ask
        exact ⟨_, rfl, hR⟩
    case fin =>
      rintro ⟨c1, c2⟩ t ⟨hc, rfl, k, hr, hb, hR⟩
      have hc' : c1 = none := hc
      subst hc'
      have gk : min us.size vs.size ≤ k := by
        rcases Nat.lt_or_ge k (us.toList.zip vs.toList).length with z | z
        · rw [List.drop_eq_getElem_cons z] at hr; cases hr
        · rw [← len]; exact z
      rw [List.drop_eq_nil_of_le (by simpa using gk)] at hR
      wp_walk
      exact ⟨_, rfl, by simpa [Builtin.Tuple.tupleCompareSizes, firstLt] using hR⟩
    case h =>
      exact ⟨rfl, rfl, 0, rfl, fun i hi => absurd hi (Nat.not_lt_zero _), by simpa using hend⟩
end
theorem RcLt.tup {A : Around} {s : Shared} {p q : Addr} {us vs : Array Value} {same less : Nat → Bool} (hp : s.heap.IsTuple p us) (hq : s.heap.IsTuple q vs) (hu : A.units < cLine)
    (h1 : ∀ k (c1 : k < us.size) (c2 : k < vs.size), EqAt A.in1 s us[k] vs[k] (same k))
    (h2 : ∀ k (c1 : k < us.size) (c2 : k < vs.size), (∀ i, i < k → same i = true) → same k = false → RcLt A.in1 s us[k] vs[k] (less k)) :
    RcLt A s (.ref p) (.ref q) (firstLt same less (decide (us.size < vs.size)) (List.range (min us.size vs.size))) := fun prog w E Q h => by
  obtain ⟨⟨cp, dp, ep, sp⟩, gp, kp, np, fp⟩ := hp
  obtain ⟨⟨cq, dq, eq, sq⟩, gq, kq, nq, fq⟩ := hq
  simp only at kp fp kq fq
  subst kp fp kq fq
  exact richCompare_meets_room (op := .Lt) ⟨_, gp, rfl⟩ ⟨_, gq, rfl⟩ F.slot_tuple_lt F.entry_tuple_lt (F.args_tuple_lt_2 _ _) (tup_lt_first p q us vs np nq dp dq sp sq same less)
    ⟨⟨gp, gq⟩, h1, h2, show Value.bool (firstLt same less (decide (us.size < vs.size)) (List.range (min us.size vs.size))) ≠ Value.notImplemented ∧ Q (.bool (firstLt same less (decide (us.size < vs.size)) (List.range (min us.size vs.size)))) s from ⟨fun x => (nomatch x), h⟩⟩ hu
/-! a key without bools -/
mutual
inductive Pk (h : Heap) : NestedKey → Value → Prop
  | non : Pk h .none .none
  | int (i t) : Pk h (.num i) (.int i t)
  | str (x t) : Pk h (.text x) (.str x t)
  | tup {a o vs n ks} : h.get? a = some o → o.cls = .type "tuple" → o.data = .seq vs n → Pks h ks vs.toList → Pk h (.tup ks) (.ref a)
inductive Pks (h : Heap) : List NestedKey → List Value → Prop
  | nil : Pks h [] []
  | cons {k v ks vs} : Pk h k v → Pks h ks vs → Pks h (k :: ks) (v :: vs)
end
mutual
theorem Pk.nested {h : Heap} : ∀ {k : NestedKey} {v : Value}, Pk h k v → NestedIs h k v
  | _, _, .non => .none
  | _, _, .int i t => .int i t
  | _, _, .str x t => .text x t
  | _, _, .tup h1 h2 h3 h4 => .tup h1 h2 h3 (Pks.nested h4)
theorem Pks.nested {h : Heap} : ∀ {k : List NestedKey} {v : List Value}, Pks h k v → NestedAll h k v
  | _, _, .nil => .nil
  | _, _, .cons a b => .cons (Pk.nested a) (Pks.nested b)
end
theorem Pks.length {h : Heap} : ∀ {ks : List NestedKey} {vs : List Value}, Pks h ks vs → vs.length = ks.length
  | _, _, .nil => rfl
  | _, _, .cons _ t => by simp [Pks.length t]
mutual
theorem Pk.keep {h h' : Heap} (k : ∀ b o, h.get? b = some o → o.cls = .type "tuple" → h'.get? b = some o) : ∀ {x : NestedKey} {v : Value}, Pk h x v → Pk h' x v
  | _, _, .non => .non
  | _, _, .int i t => .int i t
  | _, _, .str x t => .str x t
  | _, _, .tup h1 h2 h3 h4 => .tup (k _ _ h1 h2) h2 h3 (Pks.keep k h4)
theorem Pks.keep {h h' : Heap} (k : ∀ b o, h.get? b = some o → o.cls = .type "tuple" → h'.get? b = some o) : ∀ {x : List NestedKey} {v : List Value}, Pks h x v → Pks h' x v
  | _, _, .nil => .nil
  | _, _, .cons a b => .cons (Pk.keep k a) (Pks.keep k b)
end
mutual
theorem rcLt_key : ∀ (x y : NestedKey) (A : Around) (s : Shared) (a b : Value), Pk s.heap x a → Pk s.heap y b → kCmp x y = true → A.units + min x.depth y.depth < cLine → RcLt A s a b (kLt x y)
  | .none, _, _, _, _, _, _, _, hc, _ => by simp [kCmp] at hc
  | .num i, y, A, s, _, _, ra, rb, hc, hu => by
    cases ra
    cases rb <;> first
      | (simp [kCmp] at hc; done)
      | (intro prog w E Q h; simp only [kLt] at h; exact (lt_int h : wpAny (model prog w) A (compareOp .Lt _ _) Q E s))
  | .text i, y, A, s, _, _, ra, rb, hc, hu => by
    cases ra
    cases rb <;> first
      | (simp [kCmp] at hc; done)
      | (intro prog w E Q h; simp only [kLt] at h; exact (PySem.P.lt_str h : wpAny (model prog w) A (compareOp .Lt _ _) Q E s))
  | .tup xs, y, A, s, _, _, ra, rb, hc, hu => by
    cases ra with
    | @tup p o vs n _ h1 h2 h3 h4 =>
      cases rb with
      | @tup q o' ws m ys k1 k2 k3 k4 =>
        have n1 : vs.size = xs.length := by simpa using h4.length
        have n2 : ws.size = ys.length := by simpa using k4.length
        have hr := rcLt_keys xs ys A.in1 s vs.toList ws.toList h4 k4 (room_in hu)
        have key := RcLt.tup (A := A) (s := s) (same := fun j => NestedKey.beq (xs.getD j .none) (ys.getD j .none)) (less := fun j => kLt (xs.getD j .none) (ys.getD j .none))
          ⟨_, h1, h2, _, h3⟩ ⟨_, k1, k2, _, k3⟩ (room_here hu)
          (fun j c1 c2 => by
            have := eqAt_keys xs ys A.in1 s vs.toList ws.toList h4.nested k4.nested (room_in hu) j (by simpa using c1) (by simpa using c2)
            rw [Array.getElem_toList, Array.getElem_toList] at this
            exact this)
          (fun j c1 c2 hb hs => by
            have := hr j (by simpa using c1) (by simpa using c2) (kCmps_at xs ys j (by simpa [kCmp] using hc) (fun i hi => NestedKey.eq_of_beq _ _ (hb i hi)) (by omega) (by omega) hs)
            rw [Array.getElem_toList, Array.getElem_toList] at this
            exact this)
        have e := firstLt_keys kLt xs ys 0 (fun j => NestedKey.beq (xs.getD j .none) (ys.getD j .none)) (fun j => kLt (xs.getD j .none) (ys.getD j .none)) (fun j _ _ => by rw [Nat.zero_add]) (fun j _ _ => by rw [Nat.zero_add])
        rw [n1, n2] at key
        rw [kLt, ← e]
        simpa using key
      | _ => simp [kCmp] at hc
theorem rcLt_keys : ∀ (xs ys : List NestedKey) (A : Around) (s : Shared) (vs ws : List Value), Pks s.heap xs vs → Pks s.heap ys ws → A.units + min (NestedKey.depthAll xs) (NestedKey.depthAll ys) < cLine →
    ∀ j (h1 : j < vs.length) (h2 : j < ws.length), kCmp (xs.getD j .none) (ys.getD j .none) = true → RcLt A s vs[j] ws[j] (kLt (xs.getD j .none) (ys.getD j .none))
  | [], _, _, _, _, _, ra, _, _, j, h1, _ => by cases ra; exact absurd h1 (Nat.not_lt_zero _)
  | _ :: _, [], _, _, _, _, _, rb, _, j, _, h2 => by cases rb; exact absurd h2 (Nat.not_lt_zero _)
  | x :: xs, y :: ys, A, s, _, _, ra, rb, hu, j, h1, h2 => by
    cases ra with
    | cons r rs =>
      cases rb with
      | cons r' rs' =>
        cases j with
        | zero => exact fun hc => rcLt_key x y A s _ _ r r' hc (room_head hu)
        | succ j => exact rcLt_keys xs ys A s _ _ rs rs' (room_tail hu) j (Nat.lt_of_succ_lt_succ h1) (Nat.lt_of_succ_lt_succ h2)
end
end DL

set_option Elab.async false
set_option linter.all false
set_option maxRecDepth 100000
set_option maxHeartbeats 4000000
/-! DL7: sorted of data of any depth -/
namespace DL
open PySem PySem.Spec PyProof.Rows L2
open PySem.SeqAt

section
variable {X : Cx} {pins : List (Addr × Obj)} {σ : L2.St} {H : Hp} {s : Shared}
mutual
theorem rep_pk (I : Inv X pins σ H s) : ∀ (d : D) (v : V) (u : Value), pl d = true → Rep X.K H d v → RelV v u → Pk s.heap (toN d) u := fun d v u hp r rv => by
  cases d with
  | non => cases r; cases rv; exact .non
  | int i => cases r; obtain ⟨t, rfl⟩ := rv; exact .int i t
  | str x => cases r; obtain ⟨t, rfl⟩ := rv; exact .str x t
  | tup xs =>
    cases r with
    | tup hq hr =>
      cases rv
      obtain ⟨its, r2, ⟨o, h1, h2, n, h3⟩, _⟩ := I.tuple hq
      rw [pl] at hp
      exact .tup h1 h2 h3 (by simpa using rep_pks I xs _ its hp hr r2)
  | _ => simp [pl] at hp
theorem rep_pks (I : Inv X pins σ H s) : ∀ (ds : List D) (vs : List V) (us : List Value), pls ds = true → Reps X.K H ds vs → Vals vs us → Pks s.heap (toNs ds) us := fun ds vs us hp r rv => by
  cases ds with
  | nil => cases r; cases rv; exact .nil
  | cons d ds =>
    cases r with
    | cons r rs =>
      cases rv with
      | cons q qs =>
        rw [pls, Bool.and_eq_true] at hp
        exact .cons (rep_pk I d _ _ hp.1 r q) (rep_pks I ds _ _ hp.2 rs qs)
end
end
theorem Pk.inj {h : Heap} {x y : NestedKey} {v : Value} (a : Pk h x v) (b : Pk h y v) : x = y := NestedIs.inj x y v a.nested b.nested

/-! ### what may be sorted -/
def kTy : NestedKey → Nat
  | .none => 0
  | .num _ => 1
  | .text _ => 2
  | .tup _ => 3
inductive SOk (ks : List NestedKey) : Prop
  | int_ (h : ∀ k ∈ ks, kTy k = 1)
  | str_ (h : ∀ k ∈ ks, kTy k = 2)
  | tup_ (t : Nat) (h : ∀ k ∈ ks, ∃ x r, k = .tup (x :: r) ∧ kTy x = t) (c : ∀ a ∈ ks, ∀ b ∈ ks, kCmp a b = true) (d : ∀ k ∈ ks, k.depth ≤ 8)
theorem kTy1 {k : NestedKey} (h : kTy k = 1) : ∃ i, k = .num i := by cases k <;> simp [kTy] at h; exact ⟨_, rfl⟩
theorem kTy2 {k : NestedKey} (h : kTy k = 2) : ∃ i, k = .text i := by cases k <;> simp [kTy] at h; exact ⟨_, rfl⟩
section
variable {prog : Program} {w : World} {A : Around} {E : Value → Shared → Prop} {s : Shared}
theorem lt_key {x y : NestedKey} {p q : Value} {f : Bool} {Q : Bool → Shared → Prop} (hp : Pk s.heap x p) (hq : Pk s.heap y q) (hc : kCmp x y = true) (hu : A.units + min x.depth y.depth < cLine) (hf : f = true → kTy x ≠ 3) (h : Q (kLt x y) s) :
    wpAny (model prog w) A (oneLt' f p q) Q E s := by
  cases hp with
  | non => simp [kCmp] at hc
  | int i t => cases hq <;> first | (simp [kCmp] at hc; done) | (simp only [kLt] at h; exact PyProof.Rows.oneLt_any_int h)
  | str i t => cases hq <;> first | (simp [kCmp] at hc; done) | (simp only [kLt] at h; exact PyProof.Rows.oneLt_any_str h)
  | @tup a o vs n ks h1 h2 h3 h4 =>
    cases f with
    | true => exact absurd rfl (hf rfl)
    | false => exact PySem.W.kat_one _ _ (rcLt_key _ _ A s _ _ (.tup h1 h2 h3 h4) hq hc hu prog w _ _ h)
theorem lex_key {b fin : Bool} {Q : Bool → Shared → Prop} : ∀ (ks js : List NestedKey) (vs ws : List Value) (i : Nat), Pks s.heap ks vs → Pks s.heap js ws → kCmps ks js = true → A.units + min (NestedKey.depthAll ks) (NestedKey.depthAll js) < cLine →
    (∀ x r, b = true → i = 0 → ks = x :: r → kTy x ≠ 3) → (∀ ks' js', (ks' = [] ∨ js' = []) → ks'.length + js.length = js'.length + ks.length → fin = kLts ks' js') → Q (kLts ks js) s → PySem.W.KatLex prog w A b fin Q (vs.zip ws) i s
  | [], js, _, ws, i, .nil, hw, _, _, _, hf, h => by
    rw [List.zip_nil_left]
    rw [← hf [] js (.inl rfl) (by simp)] at h
    exact h
  | k :: ks, [], _, _, i, .cons _ _, .nil, _, _, _, hf, h => by
    rw [List.zip_nil_right]
    rw [← hf (k :: ks) [] (.inr rfl) (by simp)] at h
    exact h
  | k :: ks, j :: js, _, _, i, .cons (v := v) (vs := vs) pv pvs, .cons (v := w') (vs := ws) pw pws, hc, hu, hb, hf, h => by
    rw [List.zip_cons_cons]
    refine PySem.W.kat_cons (eqAt_key k j A s v w' pv.nested pw.nested (room_head hu) prog w _ _ ?_)
    rw [kCmps_cons] at hc
    rw [kLts_cons] at h
    by_cases e : k = j
    · rw [if_pos e] at hc h
      subst e
      rw [NestedKey.beq_self]
      refine PySem.W.kat_yes (lex_key ks js vs ws (i + 1) pvs pws hc (room_tail hu) (fun _ _ _ z => by omega) (fun ks' js' hz hl => hf ks' js' hz (by simp only [List.length_cons]; omega)) h)
    · rw [if_neg e] at hc h
      have : NestedKey.beq k j = false := by
        cases q : NestedKey.beq k j with
        | false => rfl
        | true => exact absurd (NestedKey.eq_of_beq _ _ q) e
      rw [this]
      refine PySem.W.kat_no (lt_key pv pw hc (room_head hu) (fun z => ?_) h)
      simp only [Bool.and_eq_true, beq_iff_eq] at z
      exact hb k ks z.1 z.2 rfl
/-- the values' keys -/
def keyAt (h : Heap) (v : Value) (k : NestedKey) : Prop := Pk h k v
theorem swo_key (kf : Value → NestedKey) : SrtO.Swo fun v u => kLt (kf v) (kf u) := by
  refine ⟨fun x y h => ?_, fun x y z h1 h2 => ?_⟩
  · cases q : kLt (kf y) (kf x) with
    | false => rfl
    | true =>
      have := kLt_trans _ _ _ h q
      rw [kLt_irrefl] at this; cases this
  · cases q : kLt (kf z) (kf x) with
    | false => rfl
    | true =>
      rcases kLt_neg _ (kf y) _ q with z1 | z1
      · rw [z1] at h2; cases h2
      · rw [z1] at h1; cases h1
theorem tyNon {M : Model} {h : Heap} : PySem.W.Looks M h (typeOf Value.none) (.type "NoneType") := PySem.W.Looks.now
theorem firsts {h : Heap} {t : Nat} : ∀ {ks : List NestedKey} {vs : List Value}, Pks h ks vs → (∀ k ∈ ks, ∃ x r, k = .tup (x :: r) ∧ kTy x = t) → ∃ fs, PySem.W.KatTups h vs fs ∧ fs.length = vs.length ∧ ∀ f ∈ fs, ∃ x, Pk h x f ∧ kTy x = t
  | _, _, .nil, _ => ⟨[], PySem.W.KatTups.nil, rfl, fun f hf => absurd hf (by simp)⟩
  | _, _, .cons p ps, hk => by
    obtain ⟨fs, h1, h2, h3⟩ := firsts ps fun k hm => hk k (List.mem_cons_of_mem _ hm)
    obtain ⟨x, r, rfl, hx⟩ := hk _ List.mem_cons_self
    cases p with
    | @tup a o vs n _ g1 g2 g3 g4 =>
      cases e : vs.toList with
      | nil => rw [e] at g4; cases g4
      | cons f rest =>
        rw [e] at g4
        cases g4 with
        | cons p1 p2 =>
          refine ⟨f :: fs, PySem.W.KatTups.cons g1 g2 g3 ?_ h1, by simp [h2], fun g hg => ?_⟩
          · rw [← Array.getElem?_toList, e]; rfl
          · rcases List.mem_cons.mp hg with rfl | hg
            · exact ⟨x, p1, hx⟩
            · exact h3 g hg
theorem pks_mem {h : Heap} : ∀ {ks : List NestedKey} {vs : List Value}, Pks h ks vs → ∀ v ∈ vs, ∃ k ∈ ks, Pk h k v
  | _, _, .nil, v, hv => by cases hv
  | _, _, .cons p ps, v, hv => by
    rcases List.mem_cons.mp hv with rfl | hv
    · exact ⟨_, List.mem_cons_self, p⟩
    · obtain ⟨k, hk, q⟩ := pks_mem ps v hv
      exact ⟨k, List.mem_cons_of_mem _ hk, q⟩
theorem ints_of_pks {h : Heap} : ∀ {ks : List NestedKey} {vs : List Value}, Pks h ks vs → (∀ k ∈ ks, kTy k = 1) → ∃ ns, IntsAre vs ns
  | _, _, .nil, _ => ⟨[], .nil⟩
  | _, _, .cons p ps, hk => by
    obtain ⟨ns, hn⟩ := ints_of_pks ps fun k hm => hk k (List.mem_cons_of_mem _ hm)
    obtain ⟨i, rfl⟩ := kTy1 (hk _ List.mem_cons_self)
    cases p with
    | int _ t => exact ⟨i :: ns, .cons i t hn⟩
theorem strs_of_pks {h : Heap} : ∀ {ks : List NestedKey} {vs : List Value}, Pks h ks vs → (∀ k ∈ ks, kTy k = 2) → ∃ ns, StrsAre vs ns
  | _, _, .nil, _ => ⟨[], .nil⟩
  | _, _, .cons p ps, hk => by
    obtain ⟨ns, hn⟩ := strs_of_pks ps fun k hm => hk k (List.mem_cons_of_mem _ hm)
    obtain ⟨i, rfl⟩ := kTy2 (hk _ List.mem_cons_self)
    cases p with
    | str _ t => exact ⟨i :: ns, .cons i t hn⟩
theorem sortable_keys {a : Addr} {ks : List NestedKey} {vs : List Value} {kf : Value → NestedKey} (ps : Pks s.heap ks vs) (ok : SOk ks) (hkf : ∀ v ∈ vs, ∀ k, Pk s.heap k v → kf v = k) (hu : A.units + 9 < cLine) (h2 : 2 ≤ vs.length) (ha : ∀ o, s.heap.get? a = some o → o.cls ≠ .type "tuple") :
    SrtO.SortableO prog w A s a vs fun v u => kLt (kf v) (kf u) := by
  intro h' keep
  have kp : ∀ b o, s.heap.get? b = some o → o.cls = .type "tuple" → h'.get? b = some o := fun b o e c => keep b o (fun z => ha o (z ▸ e) c) e
  have ps' : Pks h' ks vs := Pks.keep kp ps
  obtain ⟨v₁, v₂, rest, hvs⟩ : ∃ v₁ v₂ rest, vs = v₁ :: v₂ :: rest := by
    match vs, h2 with
    | v₁ :: v₂ :: rest, _ => exact ⟨v₁, v₂, rest, rfl⟩
  cases ok with
  | int_ h =>
    obtain ⟨ns, hn⟩ := ints_of_pks ps' h
    refine ⟨oneType', fun Q E hq => ?_, fun p q hp hq => ?_⟩
    · subst hvs
      rw [keyKind_ints hn]
      exact wpAny_pure hq
    · obtain ⟨x, hx, px⟩ := pks_mem ps' p.1 hp
      obtain ⟨y, hy, py⟩ := pks_mem ps' q.1 hq
      obtain ⟨x0, hx0, px0⟩ := pks_mem ps p.1 hp
      obtain ⟨y0, hy0, py0⟩ := pks_mem ps q.1 hq
      have ex := (Pk.keep kp px0).inj px
      have ey := (Pk.keep kp py0).inj py
      show wpAny (model prog w) A (keyLt' oneType' p.1 q.1) (fun r s' => s' = _ ∧ r = kLt (kf p.1) (kf q.1)) _ _
      rw [hkf _ hp _ px0, hkf _ hq _ py0, ex, ey, keyLt'_oneType]
      obtain ⟨i, rfl⟩ := kTy1 (h x hx)
      obtain ⟨j, rfl⟩ := kTy1 (h y hy)
      exact lt_key (s := { s with heap := h' }) px py rfl (by simp [NestedKey.depth]; omega) (fun _ => by simp [kTy]) ⟨rfl, rfl⟩
  | str_ h =>
    obtain ⟨ns, hn⟩ := strs_of_pks ps' h
    refine ⟨oneType', fun Q E hq => ?_, fun p q hp hq => ?_⟩
    · subst hvs
      rw [keyKind_strs hn]
      exact wpAny_pure hq
    · obtain ⟨x, hx, px⟩ := pks_mem ps' p.1 hp
      obtain ⟨y, hy, py⟩ := pks_mem ps' q.1 hq
      obtain ⟨x0, hx0, px0⟩ := pks_mem ps p.1 hp
      obtain ⟨y0, hy0, py0⟩ := pks_mem ps q.1 hq
      have ex := (Pk.keep kp px0).inj px
      have ey := (Pk.keep kp py0).inj py
      show wpAny (model prog w) A (keyLt' oneType' p.1 q.1) (fun r s' => s' = _ ∧ r = kLt (kf p.1) (kf q.1)) _ _
      rw [hkf _ hp _ px0, hkf _ hq _ py0, ex, ey, keyLt'_oneType]
      obtain ⟨i, rfl⟩ := kTy2 (h x hx)
      obtain ⟨j, rfl⟩ := kTy2 (h y hy)
      exact lt_key (s := { s with heap := h' }) px py rfl (by simp [NestedKey.depth]; omega) (fun _ => by simp [kTy]) ⟨rfl, rfl⟩
  | tup_ t h c d =>
    obtain ⟨fs, g1, g2, g3⟩ := firsts ps' h
    have cmp : ∀ b, (b = true → t ≠ 3) → SrtO.Cmp prog w A { s with heap := h' } (tuples' b) (fun p => p.1 ∈ vs) (SrtO.lt2 fun v u => kLt (kf v) (kf u)) := fun b hb p q hp hq => by
      obtain ⟨x, hx, px0⟩ := pks_mem ps p.1 hp
      obtain ⟨y, hy, py0⟩ := pks_mem ps q.1 hq
      have px := Pk.keep kp px0
      have py := Pk.keep kp py0
      show wpAny (model prog w) A (keyLt' (tuples' b) p.1 q.1) (fun r s' => s' = _ ∧ r = kLt (kf p.1) (kf q.1)) _ _
      rw [hkf _ hp _ px0, hkf _ hq _ py0]
      have hc := c x hx y hy
      have dx := d x hx
      obtain ⟨x1, xr, rfl, hxt⟩ := h x hx
      obtain ⟨y1, yr, rfl, hyt⟩ := h y hy
      revert px py
      generalize p.1 = pv
      generalize q.1 = qv
      intro px py
      cases px with
      | @tup a1 o1 vs1 n1 _ a2 a3 a4 a5 =>
        cases py with
        | @tup b1 p1 ws1 m1 _ b2 b3 b4 b5 =>
          have l1 : vs1.size = (x1 :: xr).length := by simpa using a5.length
          have l2 : ws1.size = (y1 :: yr).length := by simpa using b5.length
          refine PySem.W.kat_lt a2 a4 b2 b4 (lex_key (s := { s with heap := h' }) (x1 :: xr) (y1 :: yr) _ _ 0 a5 b5 (by simpa [kCmp] using hc) ?_ (fun x r hb' _ e => ?_) (fun ks' js' hz hl => ?_) ⟨rfl, rfl⟩)
          · simp only [NestedKey.depth] at dx
            have : min (NestedKey.depthAll (x1 :: xr)) (NestedKey.depthAll (y1 :: yr)) ≤ NestedKey.depthAll (x1 :: xr) := Nat.min_le_left _ _
            omega
          · cases e
            rw [hxt]
            exact hb hb'
          · rw [l1, l2]
            rcases hz with rfl | rfl
            · cases js' with
              | nil => simp only [List.length_nil] at hl; rw [decide_eq_false (by omega)]; simp [kLts]
              | cons _ _ => simp only [List.length_nil, List.length_cons] at hl; rw [decide_eq_true (by simp only [List.length_cons]; omega)]; simp [kLts]
            · cases ks' with
              | nil => simp only [List.length_nil] at hl; rw [decide_eq_false (by omega)]; simp [kLts]
              | cons _ _ => simp only [List.length_nil, List.length_cons] at hl; rw [decide_eq_false (by simp only [List.length_cons]; omega)]; simp [kLts]
    have kind : ∀ (T : Value), (∀ f ∈ fs, PySem.W.Looks (model prog w) h' (typeOf f) T) → (T == T) = true → ∀ (Q : SortKind → Shared → Prop) (E : Value → Shared → Prop), Q (tuples' (T != Value.type "tuple")) { s with heap := h' } → wpAny (model prog w) A (keyKind' vs.toArray) Q E { s with heap := h' } := fun T hT h1 Q E hq =>
      PySem.W.kat_kind (s := { s with heap := h' }) g1 (by omega) hT h1 hq
    match t, h, g3, cmp with
    | 0, h, g3, cmp => exact ⟨_, kind (.type "NoneType") (fun f hf => by obtain ⟨x, px, hx⟩ := g3 f hf; cases px <;> simp [kTy] at hx; exact PySem.W.Looks.now) (by decide +kernel), cmp _ fun _ => by decide⟩
    | 1, h, g3, cmp => exact ⟨_, kind (.type "int") (fun f hf => by obtain ⟨x, px, hx⟩ := g3 f hf; cases px <;> simp [kTy] at hx; exact PySem.W.Looks.now) (by decide +kernel), cmp _ fun _ => by decide⟩
    | 2, h, g3, cmp => exact ⟨_, kind (.type "str") (fun f hf => by obtain ⟨x, px, hx⟩ := g3 f hf; cases px <;> simp [kTy] at hx; exact PySem.W.Looks.now) (by decide +kernel), cmp _ fun _ => by decide⟩
    | 3, h, g3, cmp => exact ⟨_, kind (.type "tuple") (fun f hf => by
        obtain ⟨x, px, hx⟩ := g3 f hf
        cases px <;> simp [kTy] at hx
        rename_i a o vs n ks b2 b3 b4 b5
        have q : PySem.W.Looks (model prog w) h' (typeOf (.ref a)) o.cls := (PySem.W.Looks.ld b2).andThen .now
        rw [b3] at q
        exact q) (by decide +kernel), cmp _ fun z => absurd z (by decide +kernel)⟩
    | t + 4, h, g3, cmp =>
      obtain ⟨k, hk, pk⟩ := pks_mem ps v₁ (by rw [hvs]; exact List.mem_cons_self)
      obtain ⟨x, r, _, hx⟩ := h k hk
      cases x <;> simp [kTy] at hx
end

/-! ### sorted of a list -/
/-- what sorted gives: the only one -/
structure SortedOf (xs ys : List D) : Prop where
  perm : ys.Perm xs
  ord : ys.Pairwise fun a b => kLt (toN b) (toN a) = false
structure SortOk (xs : List D) : Prop where
  plain : pls xs = true
  ok : SOk (toNs xs)
theorem vals_perm {K : PySem.W.Frag} {H : Hp} : ∀ {us us' : List Value}, us'.Perm us → ∀ {ds : List D} {vs : List V}, Reps K H ds vs → Vals vs us → ∃ ds' vs', ds'.Perm ds ∧ Reps K H ds' vs' ∧ Vals vs' us' ∧
    (∀ R : Value → D → Prop, Paired R us ds → Paired R us' ds') := by
  intro us us' h
  induction h with
  | nil => intro ds vs r q; cases q; cases r; exact ⟨[], [], .refl _, .nil, .nil, fun R h => h⟩
  | cons x _ ih =>
    intro ds vs r q
    cases q with
    | cons q qs =>
      cases r with
      | cons r rs =>
        obtain ⟨ds', vs', h1, h2, h3, h4⟩ := ih rs qs
        exact ⟨_ :: ds', _ :: vs', h1.cons _, .cons r h2, .cons q h3, fun R h => by cases h with | cons a b => exact .cons a (h4 R b)⟩
  | swap x y l =>
    intro ds vs r q
    cases q with
    | cons q qs =>
      cases qs with
      | cons q2 qs =>
        cases r with
        | cons r rs =>
          cases rs with
          | cons r2 rs => exact ⟨_, _, List.Perm.swap _ _ _, .cons r2 (.cons r rs), .cons q2 (.cons q qs), fun R h => by cases h with | cons a b => cases b with | cons b c => exact .cons b (.cons a c)⟩
  | trans _ _ ih1 ih2 =>
    intro ds vs r q
    obtain ⟨ds1, vs1, a1, a2, a3, a4⟩ := ih2 r q
    obtain ⟨ds2, vs2, b1, b2, b3, b4⟩ := ih1 a2 a3
    exact ⟨ds2, vs2, b1.trans a1, b2, b3, fun R h => b4 R (a4 R h)⟩
theorem pks_paired {h : Heap} {kf : Value → NestedKey} (hkf : ∀ v k, Pk h k v → kf v = k) : ∀ {ds : List D} {us : List Value}, Pks h (toNs ds) us → Paired (fun u d => kf u = toN d) us ds
  | [], _, p => by rw [toNs] at p; cases p; exact .nil
  | d :: ds, _, p => by
    rw [toNs] at p
    cases p with
    | cons p ps => exact .cons (hkf _ _ p) (pks_paired hkf ps)
theorem srtd_paired {kf : Value → NestedKey} : ∀ {us : List Value} {ds : List D}, Paired (fun u d => kf u = toN d) us ds → SrtO.Srtd (fun v u => kLt (kf v) (kf u)) us → ds.Pairwise fun a b => kLt (toN b) (toN a) = false := by
  intro us ds p
  induction p with
  | nil => intro _; exact .nil
  | @cons u d us ds h t ih =>
    intro q
    have q' := List.pairwise_cons.mp q
    refine List.pairwise_cons.mpr ⟨fun e he => ?_, ih q'.2⟩
    have : ∀ {us : List Value} {ds : List D}, Paired (fun u d => kf u = toN d) us ds → e ∈ ds → ∃ w ∈ us, kf w = toN e := by
      intro us ds p
      induction p with
      | nil => intro h; cases h
      | cons h t ih =>
        intro hm
        rcases List.mem_cons.mp hm with rfl | hm
        · exact ⟨_, List.mem_cons_self, h⟩
        · obtain ⟨w, hw, e⟩ := ih hm
          exact ⟨w, List.mem_cons_of_mem _ hw, e⟩
    obtain ⟨w, hw, e'⟩ := this t he
    have := q'.1 w hw
    simp only at this
    rw [e', h] at this
    exact this
section
variable {X : Cx}
def rSorted : DRs := fun ds A Q => ∃ a xs, ds = [.ref a] ∧ items? A (.ref a) = some xs ∧ SortOk xs ∧ ∀ ys p A', SortedOf xs ys → New A p (.lst ys) A' → Q (.ref p) A'
open Classical in
noncomputable def keyOf (h : Heap) (v : Value) : NestedKey := if e : ∃ k, Pk h k v then e.choose else .none
theorem keyOf_eq {h : Heap} {v : Value} {k : NestedKey} (p : Pk h k v) : keyOf h v = k := by
  unfold keyOf
  have e : ∃ k, Pk h k v := ⟨k, p⟩
  rw [dif_pos e]
  exact e.choose_spec.inj p
theorem dc_sorted (hu : X.A.units + 64 < cLine) : DCallR X (.builtin "sorted") rSorted := by
  intro pins s σ H xs us Q I rx ⟨ds, A, Q', rs, ra, ⟨a, ys, h1, h2, ok, q⟩, k⟩
  subst h1
  obtain ⟨v, rfl, r⟩ := reps1 rs
  cases r
  obtain ⟨u, rfl, ru⟩ := vals1 rx
  cases ru
  obtain ⟨vs, hq, hr⟩ := listAt ra h2
  obtain ⟨its, rv, pl', hz⟩ := I.list hq
  have pk := rep_pks I ys vs its ok.plain hr rv
  have hlen : its.length = vs.length := rv.length.symm
  refine SrtO.sorted_ord (swo_key (keyOf s.heap)) pl'.isList (by omega) (fun g2 h₁ b hb keep => ?_) fun out hs hb => ?_
  · refine sortable_keys (s := { s with heap := h₁ }) (Pks.keep (fun c o e _ => (keep c o e).2) pk) ok.ok (fun w' hw kk p => ?_) (by simp only [Around.in1_units]; omega) g2 fun o e => ?_
    · obtain ⟨k0, _, p0⟩ := pks_mem pk w' hw
      rw [keyOf_eq p0]
      exact (Pk.keep (fun c o e _ => (keep c o e).2) p0).inj p
    · have e' := e.symm.trans hb
      cases e'
      exact fun c => absurd (Value.type.inj c) (by decide)
  · obtain ⟨ds', vs', p1, p2, p3, p4⟩ := vals_perm hb.perm hr rv
    have so : SortedOf ys ds' := ⟨p1, srtd_paired (p4 _ (pks_paired (fun _ _ => keyOf_eq) pk)) hs⟩
    have hfresh : H (s.heap.objs.size + 1) = none := I.hok.fresh (Nat.le_succ _)
    obtain ⟨e, he⟩ := sortedAll_at s.heap its out.toArray
    have hl : vs'.length ≤ sizeLine := by rw [p2.length, p1.length_eq, ← hr.length]; exact hz
    refine ⟨.ref (s.heap.objs.size + 1), upd H (s.heap.objs.size + 1) (.lst vs'), I.laid (t' := s.toks) (fun b o z => sortedAll_old z) (Nat.le_succ _) ⟨hl, out, e, p3, he⟩, rfl, ?_⟩
    exact kont_new k (.refl _) ra hfresh (.mkL upd_same (p2.step (.new hfresh))) (fun p A' n => q ds' p A' so n)
end
end DL

set_option Elab.async false
set_option linter.all false
set_option maxRecDepth 100000
set_option maxHeartbeats 4000000
/-! DL8: sets of nested tuples (fewer than 64 members) -/
namespace DL
open PySem PySem.Spec PyProof.Rows L2
open PySem.SeqAt

/-- the tuple at a is the key k -/
structure NIs (h : Heap) (k : NestedKey) (a : Addr) : Prop where
  is : NestedIs h k (.ref a)
  dep : k.depth ≤ 8
theorem NIs.keep {h h' : Heap} {k : NestedKey} {a : Addr} (x : NIs h k a) (q : ∀ b o, h.get? b = some o → h'.get? b = some o) : NIs h' k a := ⟨NestedIs.at (fun b o _ _ e _ => q b o e) _ _ x.is, x.dep⟩
theorem NIs.but {h h' : Heap} {k : NestedKey} {a c : Addr} {o : Obj} {es : Array (Int × Value)} {ep : Nat} {t : SetTable} (x : NIs h k a) (ho : h.get? c = some o) (hd : o.data = .set es ep t) (q : Heap.SameBut c h h') : NIs h' k a := by
  refine ⟨NestedIs.at (fun b u vs n e g => (q.2 b ?_).trans e) _ _ x.is, x.dep⟩
  rintro rfl
  rw [ho] at e; cases e
  rw [hd] at g; cases g
theorem NIs.ty {s : Shared} {k : NestedKey} {a : Addr} (x : NIs s.heap k a) : s.TypeIs (.ref a) "tuple" := by
  obtain ⟨y, _⟩ := x
  cases y with
  | tup h1 h2 h3 h4 => exact ⟨_, h1, h2⟩

section
variable {P : Program} {w : World} {A : Around} {E : Value → Shared → Prop} {s : Shared}
/-! ### the small questions -/
mutual
theorem cls_key : ∀ (k : NestedKey) (v : Value) (n : Nat) (s : Shared), NestedIs s.heap k v → k.depth ≤ n → ∀ (Q : Bool → Shared → Prop) (A : Around) (E : Value → Shared → Prop), Q false s → wpAny (model P w) A (ofAClassStatement n v) Q E s
  | .none, _, n, s, x, _, Q, A, E, h => by cases x; cases n <;> exact wpAny_pure h
  | .num i, _, n, s, x, _, Q, A, E, h => by cases x <;> cases n <;> exact wpAny_pure h
  | .text y, _, n, s, x, _, Q, A, E, h => by cases x; cases n <;> exact wpAny_pure h
  | .tup ks, _, 0, s, x, hn, Q, A, E, h => by simp [NestedKey.depth] at hn
  | .tup ks, _, n + 1, s, x, hn, Q, A, E, h => by
    cases x with
    | @tup a o vs m _ h1 h2 h3 h4 =>
      have ty : s.TypeIs (.ref a) "tuple" := ⟨_, h1, h2⟩
      have all := cls_keys ks vs.toList n s h4 (by simp only [NestedKey.depth] at hn; omega)
      unfold ofAClassStatement
      refine wpAny_bind (wpAny_typeOf ty ?_)
      dsimp only
      simp only [show (("tuple" : String) == "tuple") = true by decide, if_true, Bool.not_true, Bool.false_eq_true, if_false]
      try refine wpAny_bind (wpAny_pure ?_)
      try simp only [Bool.not_true, Bool.false_eq_true, if_false]
      show wpAny _ _ (seqItems? (.ref a) >>= _) _ _ s
      refine wpAny_bind (wpAny_seqItems h1 h3 ?_)
      dsimp only
      refine wpAny_bind ?_
      show wpAny _ _ (forIn vs _ _) _ _ s
      rw [← Array.forIn_toList]
      refine wpAny_forIn_list _ (fun rest r t => (r.1 = none ∧ t = s) ∧ ∀ v ∈ rest, ∀ (Q : Bool → Shared → Prop) (A : Around) (E : Value → Shared → Prop), Q false s → wpAny (model P w) A (ofAClassStatement n v) Q E s) _ ?_ ?_ _ _ ⟨⟨rfl, rfl⟩, all⟩
      · rintro v rest r t ⟨⟨hr, rfl⟩, q⟩
        refine wpAny_bind (q v List.mem_cons_self _ _ _ ?_)
        simp only [Bool.false_eq_true, if_false]
        exact wpAny_pure ⟨⟨rfl, rfl⟩, fun u hu => q u (List.mem_cons_of_mem _ hu)⟩
      · rintro ⟨r1, r2⟩ t ⟨⟨hr, rfl⟩, _⟩
        have hr' : r1 = none := hr
        subst hr'
        exact wpAny_pure h
theorem cls_keys : ∀ (ks : List NestedKey) (vs : List Value) (n : Nat) (s : Shared), NestedAll s.heap ks vs → NestedKey.depthAll ks ≤ n → ∀ v ∈ vs, ∀ (Q : Bool → Shared → Prop) (A : Around) (E : Value → Shared → Prop), Q false s → wpAny (model P w) A (ofAClassStatement n v) Q E s
  | [], _, n, s, x, _, v, hv => by cases x; cases hv
  | k :: ks, _, n, s, x, hn, v, hv => by
    cases x with
    | cons x1 x2 =>
      simp only [NestedKey.depthAll] at hn
      rcases List.mem_cons.mp hv with rfl | hv
      · exact cls_key k _ n s x1 (by omega)
      · exact cls_keys ks _ n s x2 (by omega) v hv
end
mutual
theorem byv_key : ∀ (k : NestedKey) (v : Value) (n : Nat) (s : Shared), NestedIs s.heap k v → k.depth ≤ n → ∀ (Q : Bool → Shared → Prop) (A : Around) (E : Value → Shared → Prop), (∀ b, Q b s) → wpAny (model P w) A (hashByValue n v) Q E s
  | .none, _, n, s, x, _, Q, A, E, h => by cases x; cases n <;> exact wpAny_pure (h _)
  | .num i, _, n, s, x, _, Q, A, E, h => by cases x <;> cases n <;> exact wpAny_pure (h _)
  | .text y, _, n, s, x, _, Q, A, E, h => by cases x; cases n <;> exact wpAny_pure (h _)
  | .tup ks, _, 0, s, x, hn, Q, A, E, h => by simp [NestedKey.depth] at hn
  | .tup ks, _, n + 1, s, x, hn, Q, A, E, h => by
    cases x with
    | @tup a o vs m _ h1 h2 h3 h4 =>
      have ty : s.TypeIs (.ref a) "tuple" := ⟨_, h1, h2⟩
      have all := byv_keys ks vs.toList n s h4 (by simp only [NestedKey.depth] at hn; omega)
      unfold hashByValue
      refine wpAny_bind (wpAny_specialOf ty F.slot_tuple_hash.lookup ?_)
      show wpAny _ _ (seqItems? (.ref a) >>= _) _ _ s
      refine wpAny_bind (wpAny_seqItems h1 h3 ?_)
      refine wpAny_bind ?_
      show wpAny _ _ (forIn vs _ _) _ _ s
      rw [← Array.forIn_toList]
      refine wpAny_forIn_list _ (fun rest r t => t = s ∧ r.1 = none ∧ ∀ v ∈ rest, ∀ (Q : Bool → Shared → Prop) (A : Around) (E : Value → Shared → Prop), (∀ b, Q b s) → wpAny (model P w) A (hashByValue n v) Q E s) _ ?_ ?_ _ _ ⟨rfl, rfl, all⟩
      · rintro v rest r t ⟨rfl, hr, q⟩
        refine wpAny_bind (q v List.mem_cons_self _ _ _ fun b => ?_)
        cases b with
        | true =>
          simp only [Bool.not_true, Bool.false_eq_true, if_false]
          exact wpAny_pure ⟨rfl, rfl, fun u hu => q u (List.mem_cons_of_mem _ hu)⟩
        | false =>
          simp only [Bool.not_false, if_true]
          exact wpAny_pure (wpAny_pure (h _))
      · rintro ⟨r1, r2⟩ t ⟨rfl, hr, _⟩
        have hr' : r1 = none := hr
        subst hr'
        exact wpAny_pure (h _)
theorem byv_keys : ∀ (ks : List NestedKey) (vs : List Value) (n : Nat) (s : Shared), NestedAll s.heap ks vs → NestedKey.depthAll ks ≤ n → ∀ v ∈ vs, ∀ (Q : Bool → Shared → Prop) (A : Around) (E : Value → Shared → Prop), (∀ b, Q b s) → wpAny (model P w) A (hashByValue n v) Q E s
  | [], _, n, s, x, _, v, hv => by cases x; cases hv
  | k :: ks, _, n, s, x, hn, v, hv => by
    cases x with
    | cons x1 x2 =>
      simp only [NestedKey.depthAll] at hn
      rcases List.mem_cons.mp hv with rfl | hv
      · exact byv_key k _ n s x1 (by omega)
      · exact byv_keys ks _ n s x2 (by omega) v hv
end
/-- a search among keys tells nothing -/
theorem seen_keys {k : NestedKey} {b : Addr} {Q : Bool → Shared → Prop} (hk : NIs s.heap k b) {ys : List Value} (hy : ∀ y ∈ ys, ∃ j c, y = Value.ref c ∧ NIs s.heap j c) (h : Q false s) : wpAny (model P w) A (searchCouldBeSeen (.ref b) ys) Q E s := by
  unfold searchCouldBeSeen
  refine wpAny_bind ?_
  refine wpAny_forIn_list _ (fun rest r t => (r.1 = none ∧ t = s) ∧ ∀ y ∈ rest, ∃ j c, y = Value.ref c ∧ NIs s.heap j c) _ ?_ ?_ _ _ ⟨⟨rfl, rfl⟩, hy⟩
  · rintro v rest r t ⟨⟨hr, rfl⟩, q⟩
    obtain ⟨j, c, rfl, hc⟩ := q v List.mem_cons_self
    have q' : ∀ y ∈ rest, ∃ j c, y = Value.ref c ∧ NIs t.heap j c := fun u hu => q u (List.mem_cons_of_mem _ hu)
    dsimp only
    by_cases z : (b == c || (carriedByValue (.ref b) && carriedByValue (.ref c))) = true
    · exact wp_if_pos z (wpAny_pure ⟨⟨rfl, rfl⟩, q'⟩)
    · refine wp_if_neg z ?_
      refine wpAny_bind (quiet_key k _ 8 t hk.is hk.dep A E _ ?_)
      simp only [Bool.not_true, Bool.false_eq_true, if_false]
      refine wpAny_bind (quiet_key j _ 8 t hc.is hc.dep A E _ ?_)
      simp only [Bool.not_true, Bool.false_eq_true, if_false]
      refine wpAny_bind (cls_key k _ 8 t hk.is hk.dep _ A E ?_)
      simp only [Bool.false_eq_true, if_false]
      refine wpAny_bind (cls_key j _ 8 t hc.is hc.dep _ A E ?_)
      simp only [Bool.false_eq_true, if_false]
      exact wpAny_pure ⟨⟨rfl, rfl⟩, q'⟩
  · rintro ⟨r1, r2⟩ t ⟨⟨hr, rfl⟩, _⟩
    have hr' : r1 = none := hr
    subst hr'
    exact wpAny_pure h
theorem eq_keys {x y : NestedKey} {a b : Addr} {Q : Bool → Shared → Prop} (hu : A.units + 8 < cLine) (hx : NIs s.heap x a) (hy : NIs s.heap y b) (h : Q (decide (x = y)) s) : wpAny (model P w) A (eqBool (.ref a) (.ref b)) Q E s := by
  refine eqAt_key x y A s _ _ hx.is hy.is ?_ P w E Q (by rw [← NestedKey.decide_eq]; exact h)
  have := Nat.min_le_left x.depth y.depth
  have := hx.dep
  omega

/-! ### a set of keys -/
structure NSet (w : World) (h : Heap) (a : Addr) (L : NL) (o : Obj) (es : Array (Int × Value)) (ep : Nat) (t : SetTable) : Prop where
  at_ : h.get? a = some o
  ob : NSet0 w o L es ep t
  keys : ∀ p ∈ L, NIs h p.2 p.1
variable {a : Addr} {L : NL} {o : Obj} {es : Array (Int × Value)} {ep : Nat} {t : SetTable}
theorem NSet0.size (R : NSet0 w o L es ep t) : es.size = L.length := by
  rw [← Array.length_toList, R.rows]
  unfold nRows
  rw [List.length_map]
theorem NSet0.psize (R : NSet0 w o L es ep t) : t.place.size = L.length := by rw [R.tab.sz, List.length_map]
theorem NSet0.fits (R : NSet0 w o L es ep t) : t.fits es.size = true := by
  have h1 := R.psize
  have h2 := R.size
  have h3 := R.room
  unfold SetTable.fits SetTable.fill
  rw [R.tab.dm, Bool.and_eq_true, beq_iff_eq, decide_eq_true_eq]
  show t.place.size = es.size ∧ t.place.size + 0 ≤ t.mask
  omega
theorem NSet0.entry (R : NSet0 w o L es ep t) {i : Nat} {p : Addr × NestedKey} (h : L[i]? = some p) : es[i]? = some (p.2.hash w, Value.ref p.1) := by
  rw [← Array.getElem?_toList, R.rows]
  unfold nRows
  rw [List.getElem?_map, h]
  rfl
/-- the probe's start for a hash -/
abbrev go0 (m : Nat) (h : Int) : SetTable.Probe := runAt m (SetTable.bits h % (m + 1)) (SetTable.bits h)
theorem nth_dummy (m : Nat) : ∀ (n : Nat) (p : SetTable.Probe), p.dummy = none → (nth m p n).dummy = none
  | 0, _, h => h
  | n + 1, p, h => nth_dummy m n (adv m p) (by unfold adv; split <;> exact h)

/-- the search, from the c-th probe on: K is the first empty one -/
theorem n_search (R : NSet w s.heap a L o es ep t) {x : Addr} {k : NestedKey} (hx : NIs s.heap k x) (hu : A.units + 8 < cLine) {K : Nat} (bound : K < 10 * SetTable.turns t.mask) (emp : way t.mask (k.hash w) K ∉ t.place.toList) (full : ∀ c, c < K → way t.mask (k.hash w) c ∈ t.place.toList)
    {Q : SetFound → Shared → Prop} (yes : k ∈ L.map (·.2) → Q (.there none) s) (no : k ∉ L.map (·.2) → Q (.free (way t.mask (k.hash w) K) false) s) :
    ∀ (fuel c : Nat) (from_ : Option SetTable.Probe), from_.getD (t.probeStart (k.hash w)) = nth t.mask (go0 t.mask (k.hash w)) c → c ≤ K → K - c < fuel →
      (∀ (i : Nat) (p : Addr × NestedKey), L[i]? = some p → p.2 = k → ∃ d, (c ≤ d ∧ d < K) ∧ t.place.toList[i]? = some (way t.mask (k.hash w) d)) →
      wpAny (model P w) A (setSearchFrom a (.ref x) (k.hash w) true fuel from_) Q E s := by
  intro fuel
  induction fuel with
  | zero => intro c _ _ _ z; exact absurd z (Nat.not_lt_zero _)
  | succ fuel ih =>
    intro c from_ hfrom hcK hfuel hstands
    have B := R.ob
    rw [setSearchFrom_succ]
    refine wpAny_bind (wpAny_setState_of R.at_ B.dat B.fits ?_)
    dsimp only
    refine wp_if_neg (by unfold SetTable.gaveWay; rw [mask_odd B.tab.mok]; decide) ?_
    try refine wpAny_bind (wpAny_pure ?_)
    have step : ∀ q, nth t.mask (nth t.mask (go0 t.mask (k.hash w)) c) q = nth t.mask (go0 t.mask (k.hash w)) (c + q) := fun q => (nth_add t.mask c _ q).symm
    have stepj : ∀ q, (nth t.mask (nth t.mask (go0 t.mask (k.hash w)) c) q).j = way t.mask (k.hash w) (c + q) := fun q => by rw [step]
    have hash_at : ∀ (i : Nat) (p : Addr × NestedKey), L[i]? = some p → (es[i]?.map (·.1)).getD 0 = p.2.hash w := fun i p hp => by rw [B.entry hp]; rfl
    have cases_ := go_spec t B.tab.ris B.tab.dm (fun i => (es[i]?.map (·.1)).getD 0) (k.hash w) (10 * SetTable.turns t.mask) (K - c) (nth t.mask (go0 t.mask (k.hash w)) c) (nth_dummy _ c _ rfl) (by omega)
      (fun q hq => by rw [stepj]; exact full _ (by omega)) (by rw [stepj, show c + (K - c) = K by omega]; exact emp)
    rcases cases_ with ⟨q, i, hq, hi, hh, passed, met⟩ | ⟨passed, met⟩
    · rw [stepj] at hi
      have hmet : t.probe (fun i => (es[i]?.map (·.1)).getD 0) (k.hash w) (from_.getD (t.probeStart (k.hash w))) = some (.candidate (way t.mask (k.hash w) (c + q)) i (nth t.mask (go0 t.mask (k.hash w)) (c + (q + 1)))) := by
        rw [hfrom, ← stepj, ← step]; exact met
      rw [hmet]
      dsimp only
      have hil : i < L.length := by
        have h1 := (List.getElem?_eq_some_iff.mp hi).1
        have h2 := B.psize
        rw [Array.length_toList] at h1
        omega
      obtain ⟨p, hp⟩ : ∃ p, L[i]? = some p := ⟨L[i], List.getElem?_eq_getElem hil⟩
      have hpm : p ∈ L := List.mem_of_getElem? hp
      have behind : wpAny (model P w) A (searchRest a (.ref x) (k.hash w) true fuel es t (way t.mask (k.hash w) (c + q)) i (nth t.mask (go0 t.mask (k.hash w)) (c + (q + 1)))) Q E s := by
        unfold searchRest
        rw [B.entry hp]
        dsimp only
        refine wpAny_bind (wpAny_holding (eq_keys hu (R.keys p hpm) hx ?_))
        refine wpAny_bind (wpAny_setState_of R.at_ B.dat B.fits ?_)
        dsimp only
        by_cases same : p.2 = k
        · refine wp_if_pos (by simp [same]) (wpAny_pure (yes ?_))
          exact List.mem_map.mpr ⟨p, hpm, same⟩
        · refine wp_if_neg (by simp [same]) ?_
          try refine wpAny_bind (wpAny_pure ?_)
          rw [sameMem]
          dsimp only
          have live : t.slot (way t.mask (k.hash w) (c + q)) = .live i := slot_live B.tab.ris hi
          simp only [if_true, live, B.entry hp]
          refine wpAny_bind (wpAny_isSame_ref_self (wpAny_bind (wpAny_pure ?_)))
          simp only [if_true]
          refine wp_if_neg (by simp [same]) ?_
          refine ih (c + (q + 1)) _ rfl (by omega) (by omega) fun i' p' hp' hk' => ?_
          obtain ⟨d, ⟨d1, d2⟩, d3⟩ := hstands i' p' hp' hk'
          refine ⟨d, ⟨?_, d2⟩, d3⟩
          rcases Nat.lt_trichotomy d (c + q) with lt | eq | gt
          · exact absurd ((hash_at i' p' hp').trans (by rw [hk'])) (passed (d - c) i' (by omega) (by rw [stepj, show c + (d - c) = d by omega]; exact d3))
          · subst eq
            have l2 := slot_live B.tab.ris d3
            rw [live] at l2
            cases l2
            rw [hp] at hp'; cases hp'
            exact absurd hk' same
          · omega
      by_cases hl : t.led = true
      · refine wp_if_neg (by simp [hl]) ?_
        try refine wpAny_bind (wpAny_pure ?_)
        exact behind
      · refine wp_if_pos (by simp [hl]) (wpAny_bind (seen_keys hx (fun y hy => ?_) ?_))
        · obtain ⟨e, he, rfl⟩ := List.mem_map.mp hy
          have he2 : e ∈ es.toList := by
            have : e ∈ es ∧ e.1 = k.hash w := by simpa using he
            simpa using this.1
          rw [B.rows] at he2
          obtain ⟨p2, hp2, rfl⟩ := List.mem_map.mp he2
          exact ⟨p2.2, p2.1, rfl, R.keys p2 hp2⟩
        · refine wp_if_neg (by decide) ?_
          try refine wpAny_bind (wpAny_pure ?_)
          exact behind
    · have hmet : t.probe (fun i => (es[i]?.map (·.1)).getD 0) (k.hash w) (from_.getD (t.probeStart (k.hash w))) = some (.empty (way t.mask (k.hash w) K) none) := by
        have e2 : way t.mask (k.hash w) K = (nth t.mask (nth t.mask (go0 t.mask (k.hash w)) c) (K - c)).j := by rw [stepj, show c + (K - c) = K by omega]
        rw [hfrom, e2]; exact met
      rw [hmet]
      dsimp only
      refine wpAny_pure (no fun hm => ?_)
      obtain ⟨p', hpm, hk'⟩ := List.mem_map.mp hm
      obtain ⟨i', hi'⟩ := List.getElem?_of_mem hpm
      obtain ⟨d, ⟨d1, d2⟩, d3⟩ := hstands i' p' hi' hk'
      exact passed (d - c) i' (by omega) (by rw [stepj, show c + (d - c) = d by omega]; exact d3) ((hash_at i' p' hi').trans (by rw [hk']))
theorem n_find (R : NSet w s.heap a L o es ep t) {x : Addr} {k : NestedKey} (hx : NIs s.heap k x) (hu : A.units + 8 < cLine) {Q : SetFound → Shared → Prop} (yes : k ∈ L.map (·.2) → Q (.there none) s)
    (no : ∀ K, k ∉ L.map (·.2) → way t.mask (k.hash w) K ∉ t.place.toList → (∀ c, c < K → way t.mask (k.hash w) c ∈ t.place.toList) → Q (.free (way t.mask (k.hash w) K) false) s) : wpAny (model P w) A (setSearch a (.ref x) (k.hash w) true) Q E s := by
  have B := R.ob
  have room := B.room
  obtain ⟨K, b1, b2, b3⟩ := B.tab.first (by rw [List.length_map]; omega) (k.hash w)
  have big : 10 * SetTable.turns t.mask ≤ 1420 := by
    unfold SetTable.turns
    rcases B.tab.mok with e | e | e <;> omega
  unfold setSearch
  refine n_search R hx hu b1 b2 b3 yes (fun z => no K z b2 b3) 100000 0 none rfl (Nat.zero_le _) (by omega) fun i p hp hk => ?_
  have hi : (L.map fun p => p.2.hash w)[i]? = some (k.hash w) := by rw [List.getElem?_map, hp, ← hk]; rfl
  have hil : i < t.place.toList.length := by
    have h1 := (List.getElem?_eq_some_iff.mp hp).1
    have h2 := B.psize
    rw [Array.length_toList]
    omega
  obtain ⟨d, d1, d2⟩ := B.tab.before b2 hi (List.getElem?_eq_getElem hil)
  exact ⟨d, ⟨Nat.zero_le _, d1⟩, by rw [List.getElem?_eq_getElem hil, d2]⟩
/-! ### adding -/
theorem n_rows_ins (L : NL) (p : Nat) (x : Addr) (k : NestedKey) : nRows w (L.take p ++ (x, k) :: L.drop p) = (nRows w L).take p ++ (k.hash w, Value.ref x) :: (nRows w L).drop p := by
  simp only [nRows, List.map_append, List.map_cons, List.map_take, List.map_drop]
theorem n_order {L : NL} {es : Array (Int × Value)} (order : Array Nat) (hr : es.toList = nRows w L) (hp : order.toList.Perm (List.range L.length)) :
    ∃ L2 : NL, (order.filterMap (es[·]?)).toList = nRows w L2 ∧ L2.Perm L ∧ (L2.map fun p => p.2.hash w) = order.toList.map fun i => (es.map (·.1)).getD i 0 := by
  have ent : ∀ i (h : i < L.length), es[i]? = some ((L[i]).2.hash w, Value.ref (L[i]).1) := fun i h => by
    rw [← Array.getElem?_toList, hr, nRows, List.getElem?_map, List.getElem?_eq_getElem h]; rfl
  have many : ∀ l : List Nat, (∀ i ∈ l, i < L.length) → l.filterMap (fun i => es[i]?) = nRows w (l.filterMap fun i => L[i]?) ∧ ((l.filterMap fun i => L[i]?).map fun p => p.2.hash w) = l.map fun i => (es.map (·.1)).getD i 0 := by
    intro l
    induction l with
    | nil => exact fun _ => ⟨rfl, rfl⟩
    | cons i l ih =>
      intro hl
      have hi := hl i List.mem_cons_self
      obtain ⟨e1, e2⟩ := ih fun j hj => hl j (List.mem_cons_of_mem _ hj)
      have e4 : (es.map (·.1)).getD i 0 = (L[i]).2.hash w := by
        simp [Array.getD_eq_getD_getElem?, Array.getElem?_map, ent i hi]
      rw [List.filterMap_cons_some (ent i hi), List.filterMap_cons_some (List.getElem?_eq_getElem hi), e1, List.map_cons, List.map_cons, e2, e4]
      exact ⟨rfl, rfl⟩
  obtain ⟨e1, e2⟩ := many order.toList fun i hi => List.mem_range.mp (hp.mem_iff.mp hi)
  refine ⟨_, by rw [Array.toList_filterMap]; exact e1, ?_, e2⟩
  have all : ∀ l : NL, (List.range l.length).filterMap (fun i => l[i]?) = l := fun l => by
    induction l with
    | nil => rfl
    | cons x l ih =>
      show (List.range (l.length + 1)).filterMap _ = _
      rw [List.range_succ_eq_map]
      show x :: (List.map Nat.succ (List.range l.length)).filterMap _ = _
      rw [List.filterMap_map]
      exact congrArg _ ih
  have h1 := hp.filterMap fun i => L[i]?
  rwa [all] at h1
/-- the table laid anew -/
theorem n_relay {o : Obj} (ho : s.heap.get? a = some o) (hex : o.ExactSet) (hd : o.data = .set es ep t) (hrows : es.toList = nRows w L) (hsz : t.place.size = es.size) (hdm : t.dummies = #[]) (hfl : es.size ≤ t.mask)
    (nd : (L.map (·.2)).Nodup) (ks : ∀ p ∈ L, NIs s.heap p.2 p.1) (ld : w.params.followText "set-order" = true ∨ t.led = true) (few : L.length < 64) {wanted M : Nat}
    (hw : SetTable.sizeAbove wanted - 1 = M) (hM : MaskOk M) (hw2 : SetTable.sizeAbove wanted ≤ 128) (hn : L.length * 5 < M * 3) {Q : Unit → Shared → Prop}
    (hQ : ∀ h' L' o' es' ep' t', Heap.SameBut a s.heap h' → NSet w h' a L' o' es' ep' t' → L'.Perm L → Q () { s with heap := h' }) : wpAny (model P w) A (setRelay a wanted) Q E s := by
  have hsl : es.size = L.length := by rw [← Array.length_toList, hrows, nRows, List.length_map]
  have hfits : t.fits es.size = true := by
    rw [SetTable.fits, SetTable.fill, hdm, Bool.and_eq_true, beq_iff_eq, decide_eq_true_eq]
    refine ⟨hsz, ?_⟩
    show t.place.size + 0 ≤ t.mask
    omega
  obtain ⟨t', order, e, hp, T, em, el, _, ed⟩ := relaid_ok t (hs := es.map (·.1)) (wanted := wanted) hw hM (by rw [Array.size_map, hsl]; omega)
  rw [Array.size_map, hsl] at hp
  obtain ⟨L2, r1, r2, r3⟩ := n_order order hrows hp
  rw [← r3] at T
  have hs2 : (order.filterMap (es[·]?)).size = es.size := by rw [← Array.length_toList, r1, nRows, List.length_map, r2.length_eq, hsl]
  rw [setRelay_eq]
  refine wpAny_bind (wpAny_setState_of ho hd hfits ?_)
  dsimp only
  refine wp_if_neg (by rw [sizeLine_eq]; omega) ?_
  try refine wpAny_bind (wpAny_pure ?_)
  rw [e]
  dsimp only
  refine wpAny_bind ?_
  refine wp_if_neg (by rw [hs2]; simp) ?_
  try refine wpAny_bind (wpAny_pure ?_)
  refine wpAny_pure ?_
  dsimp only
  refine wpAny_storeSet_of ho hd ?_ (by rw [hs2, hsl, sizeLine_eq]; omega)
  have sb : Heap.SameBut a s.heap (s.heap.update a (Obj.putSet (order.filterMap (es[·]?)) t')) := Heap.SameBut.update ..
  refine hQ _ L2 _ (order.filterMap (es[·]?)) (ep + 1) t' sb ⟨store_at ho hd, ⟨⟨hex.1, hex.2.1, hex.2.2⟩, rfl, r1, T, (r2.map (·.2)).nodup_iff.mpr nd, by rw [el]; exact ld, by rw [r2.length_eq, em]; exact hn, by rw [r2.length_eq]; exact few⟩, fun p hpm => (ks p (r2.mem_iff.mp hpm)).but ho hd sb⟩ r2
/-- a key put in -/
theorem n_add (R : NSet w s.heap a L o es ep t) {x : Addr} {k : NestedKey} (hx : NIs s.heap k x) (hu : A.units + 8 < cLine) (hfew : L.length + 1 < 64) {Q : Bool → Shared → Prop}
    (hQ : ∀ b h' L' o' es' ep' t', Heap.SameBut a s.heap h' → NSet w h' a L' o' es' ep' t' → (k ∈ L.map (·.2) → L' = L) → (k ∉ L.map (·.2) → L'.Perm ((x, k) :: L)) → Q b { s with heap := h' }) :
    wpAny (model P w) A (setAddHashed a (.ref x) (k.hash w)) Q E s := by
  have B := R.ob
  have ho := R.at_
  have hex := B.ex
  have hd := B.dat
  have hsl := B.size
  have hroom := B.room
  unfold setAddHashed
  refine wpAny_holding ?_
  rw [show (100000 : Nat) = 99999 + 1 from rfl, setAddHashedIn_succ]
  refine wpAny_bind (wpAny_setState_of ho hd B.fits ?_)
  dsimp only
  refine wp_if_neg (by simp [byScan, Value.scannable]) ?_
  try refine wpAny_bind (wpAny_pure ?_)
  refine wpAny_bind (n_find R hx hu (fun hm => ?_) fun K hm hK hb => ?_)
  · dsimp only
    exact wpAny_pure (hQ false s.heap L o es ep t (Heap.SameBut.refl a s.heap) R (fun _ => rfl) fun z => absurd hm z)
  dsimp only
  refine wpAny_bind (wpAny_setState_of ho hd B.fits ?_)
  dsimp only
  obtain ⟨q1, q2, q3, q4, q5, q6, q7, q8, q9⟩ := B.tab.put hK hb
  generalize hpt : t.put (way t.mask (k.hash w) K) = pt at q1 q3 q4 q5 q6 q7 q8 q9 ⊢
  obtain ⟨t1, p⟩ := pt
  dsimp only at q1 q3 q4 q5 q6 q7 q8 q9 ⊢
  subst q1
  have rest : ∀ bv : Bool, wpAny (model P w) A (do
      let t2 := if bv then t1 else { t1 with plain := false }
      storeSet a (SetTable.insertAt es (SetTable.below t.place (way t.mask (k.hash w) K)) (k.hash w, Value.ref x)) t2
      if !false && t2.tooFull then setRelay a (SetTable.grown (es.size + 1))
      return true) Q E s := by
    intro bv
    dsimp only
    have k3 : TabOk (if bv then t1 else { t1 with plain := false }) ((L.map fun p => p.2.hash w).take (SetTable.below t.place (way t.mask (k.hash w) K)) ++ k.hash w :: (L.map fun p => p.2.hash w).drop (SetTable.below t.place (way t.mask (k.hash w) K))) := by
      cases bv with
      | true => exact q3
      | false => exact ⟨q3.ris, q3.dm, q3.sz, q3.mok, q3.bd, q3.reach⟩
    have k4 : (if bv then t1 else { t1 with plain := false }).mask = t.mask := by cases bv <;> exact q4
    have k5 : (if bv then t1 else { t1 with plain := false }).led = t.led := by cases bv <;> exact q5
    have k9 : (if bv then t1 else { t1 with plain := false }).fill = (L.map fun p => p.2.hash w).length + 1 := by cases bv <;> exact q9
    generalize (if bv then t1 else { t1 with plain := false }) = t2 at k3 k4 k5 k9 ⊢
    have hin : (SetTable.insertAt es (SetTable.below t.place (way t.mask (k.hash w) K)) (k.hash w, Value.ref x)).toList = nRows w (L.take (SetTable.below t.place (way t.mask (k.hash w) K)) ++ (x, k) :: L.drop (SetTable.below t.place (way t.mask (k.hash w) K))) := by
      rw [SetTable.toList_insertAt, n_rows_ins, B.rows]
    generalize SetTable.below t.place (way t.mask (k.hash w) K) = p at k3 hin ⊢
    have pm := put_perm L p (x, k)
    have hlen : (L.take p ++ (x, k) :: L.drop p).length = L.length + 1 := pm.length_eq
    have hhs : (L.take p ++ (x, k) :: L.drop p).map (fun p => p.2.hash w) = (L.map fun p => p.2.hash w).take p ++ k.hash w :: (L.map fun p => p.2.hash w).drop p := by
      simp only [List.map_append, List.map_cons, List.map_take, List.map_drop]
    rw [← hhs] at k3
    have nd1 : ((L.take p ++ (x, k) :: L.drop p).map (·.2)).Nodup := by
      rw [(pm.map (·.2)).nodup_iff, List.map_cons]
      exact List.nodup_cons.mpr ⟨hm, B.nd⟩
    have hes : (SetTable.insertAt es p (k.hash w, Value.ref x)).size = L.length + 1 := by
      rw [← Array.length_toList, hin, nRows, List.length_map, hlen]
    generalize SetTable.insertAt es p (k.hash w, Value.ref x) = es1 at hin hes ⊢
    generalize L.take p ++ (x, k) :: L.drop p = L1 at pm hlen k3 nd1 hin
    refine wpAny_bind (wpAny_storeSet_of ho hd ?_ (by rw [hes, sizeLine_eq]; omega))
    have sb : Heap.SameBut a s.heap (s.heap.update a (Obj.putSet es1 t2)) := Heap.SameBut.update ..
    have ho1 := store_at (es' := es1) (t' := t2) ho hd
    generalize s.heap.update a (Obj.putSet es1 t2) = h1 at sb ho1 ⊢
    have ks1 : ∀ p ∈ L1, NIs h1 p.2 p.1 := fun p hp => by
      rcases List.mem_cons.mp (pm.mem_iff.mp hp) with e | hp
      · rw [e]; exact hx.but ho hd sb
      · exact (R.keys p hp).but ho hd sb
    have ld1 : w.params.followText "set-order" = true ∨ t2.led = true := by rw [k5]; exact B.led
    by_cases hf : t2.tooFull = true
    · have hfull : (L.length + 1) * 5 ≥ t2.mask * 3 := by
        have h := hf
        rw [SetTable.tooFull, decide_eq_true_eq, k9, List.length_map] at h
        exact h
      rw [hsl]
      have hsz1 : t2.place.size = es1.size := by rw [k3.sz, List.length_map, hlen, hes]
      have two : (t.mask = 7 ∧ L.length = 4) ∨ (t.mask = 31 ∧ L.length = 18) := by
        rcases B.tab.mok with e | e | e
        · left; rw [k4, e] at hfull; rw [e] at hroom; exact ⟨e, by omega⟩
        · right; rw [k4, e] at hfull; rw [e] at hroom; exact ⟨e, by omega⟩
        · exfalso; rw [k4, e] at hfull; omega
      have go : ∀ M, SetTable.sizeAbove (SetTable.grown (L.length + 1)) - 1 = M → MaskOk M → SetTable.sizeAbove (SetTable.grown (L.length + 1)) ≤ 128 → (L.length + 1) * 5 < M * 3 →
          wpAny (model P w) A (setRelay a (SetTable.grown (L.length + 1))) (fun _ s' => wpAny (model P w) A (pure true) Q E s') E { s with heap := h1 } := fun M h1' h2' h3' h4' => by
        refine n_relay (s := { s with heap := h1 }) ho1 ⟨hex.1, hex.2.1, hex.2.2⟩ rfl hin hsz1 k3.dm (by rw [hes, k4]; rcases two with ⟨e, e2⟩ | ⟨e, e2⟩ <;> omega) nd1 ks1 ld1 (by rw [hlen]; exact hfew) h1' h2' h3' (by rw [hlen]; exact h4') ?_
        intro h2 L2 o2 es2 ep2 t2 sb2 R2 pm2
        exact wpAny_pure (hQ true h2 L2 o2 es2 ep2 t2 (sb.trans sb2) R2 (fun z => absurd z hm) fun _ => pm2.trans pm)
      have done := (show wpAny (model P w) A (setRelay a (SetTable.grown (L.length + 1))) (fun _ s' => wpAny (model P w) A (pure true) Q E s') E { s with heap := h1 } by
        rcases two with ⟨_, e2⟩ | ⟨_, e2⟩
        · exact go 31 (by rw [e2, size_20]) (.inr (.inl rfl)) (by rw [e2, size_20]; decide) (by omega)
        · exact go 127 (by rw [e2, size_76]) (.inr (.inr rfl)) (by rw [e2, size_76]; decide) (by omega))
      first
        | (refine wpAny_bind ?_; refine wp_if_pos (by simp [hf]) ?_; exact done)
        | (refine wp_if_pos (by simp [hf]) ?_; refine wpAny_bind ?_; exact done)
    · have fin := hQ true h1 L1 _ es1 (ep + 1) t2 sb ⟨ho1, ⟨⟨hex.1, hex.2.1, hex.2.2⟩, rfl, hin, k3, nd1, ld1, by
        have h := hf
        rw [SetTable.tooFull, decide_eq_true_eq, k9, List.length_map] at h
        rw [hlen]
        omega, by rw [hlen]; exact hfew⟩, ks1⟩ (fun z => absurd z hm) fun _ => pm
      first
        | (refine wp_if_neg (by simp [hf]) ?_; exact wpAny_pure fin)
        | (refine wpAny_bind ?_; refine wp_if_neg (by simp [hf]) ?_; refine wpAny_pure ?_; exact wpAny_pure fin)
  by_cases pl : t1.plain = true
  · first
      | (refine wpAny_bind ?_; refine wp_if_pos pl ?_; exact byv_key k _ 8 s hx.is hx.dep _ A E rest)
      | (refine wp_if_pos pl (wpAny_bind (byv_key k _ 8 s hx.is hx.dep _ A E rest)))
  · first
      | (refine wpAny_bind ?_; refine wp_if_neg pl ?_; exact wpAny_pure (rest true))
      | (refine wp_if_neg pl (wpAny_bind (wpAny_pure (rest true))))
      | (refine wp_if_neg pl ?_; exact rest true)
end
end DL

set_option Elab.async false
set_option linter.all false
set_option maxRecDepth 100000
set_option maxHeartbeats 4000000
/-! DL9: set(list), sorted(set), len(set) for nested tuples -/
namespace DL
open PySem PySem.Spec PyProof.Rows L2
open PySem.SeqAt
/-- what a set has got from the first i items -/
structure NGot (ks : NL) (i : Nat) (L : NL) : Prop where
  sub : ∀ p ∈ L, p ∈ ks.take i
  all : ∀ p ∈ ks.take i, p.2 ∈ L.map (·.2)
  len : L.length ≤ i
theorem NGot.same {ks L : NL} {i : Nat} {x : Addr × NestedKey} (g : NGot ks i L) (h : ks[i]? = some x) (hm : x.2 ∈ L.map (·.2)) : NGot ks (i + 1) L := by
  refine ⟨fun p hp => ?_, fun p hp => ?_, Nat.le_succ_of_le g.len⟩ <;> rw [take_next h] at *
  · exact List.mem_append_left _ (g.sub p hp)
  · rcases List.mem_append.mp hp with z | z
    · exact g.all p z
    · rw [List.mem_singleton.mp z]; exact hm
theorem NGot.more {ks L L' : NL} {i : Nat} {x : Addr × NestedKey} (g : NGot ks i L) (h : ks[i]? = some x) (pm : L'.Perm (x :: L)) : NGot ks (i + 1) L' := by
  refine ⟨fun p hp => ?_, fun p hp => ?_, by rw [pm.length_eq]; exact Nat.succ_le_succ g.len⟩ <;> rw [take_next h] at *
  · rcases List.mem_cons.mp (pm.mem_iff.mp hp) with e | z
    · rw [e]; exact List.mem_append_right _ (List.mem_singleton.mpr rfl)
    · exact List.mem_append_left _ (g.sub p z)
  · rw [(pm.map (·.2)).mem_iff, List.map_cons]
    rcases List.mem_append.mp hp with z | z
    · exact List.mem_cons_of_mem _ (g.all p z)
    · rw [List.mem_singleton.mp z]; exact List.mem_cons_self
section
variable {P : Program} {w : World} {A : Around} {E : Value → Shared → Prop} {s : Shared}
abbrev freshSet (w : World) : Obj := { cls := .type "set", dict := none, data := .set #[] 0 (.fresh 0 0 (!w.params.followText "set-order")) }
theorem nset_fresh {h : Heap} {a : Addr} (ho : h.get? a = some (freshSet w)) : NSet w h a [] (freshSet w) #[] 0 (.fresh 0 0 (!w.params.followText "set-order")) where
  at_ := ho
  ob :=
    { ex := ⟨rfl, rfl, rfl⟩
      dat := rfl
      rows := rfl
      tab := ⟨List.Pairwise.nil, rfl, rfl, .inl rfl, fun x hx => (by cases hx), fun i h j hi => (by simp at hi)⟩
      nd := List.nodup_nil
      led := by
        show _ ∨ (!w.params.followText "set-order") = true
        cases w.params.followText "set-order"
        · exact .inr rfl
        · exact .inl rfl
      room := by show 0 * 5 < 7 * 3; decide
      few := by show 0 < 64; decide }
  keys := fun p hp => (by cases hp)
theorem NSet.keep {h h' : Heap} {a : Addr} {L : NL} {o : Obj} {es : Array (Int × Value)} {ep : Nat} {t : SetTable} (R : NSet w h a L o es ep t) (ha : ∀ o, h.get? a = some o → h'.get? a = some o) (ht : ∀ p ∈ L, NIs h' p.2 p.1) : NSet w h' a L o es ep t := ⟨ha _ R.at_, R.ob, ht⟩

/-- the loop of set.update over keys -/
theorem n_update {I : Addr} {fp wr : List Addr} {G : Array GenState → Array GenState → Prop} {n : Nat} {Pv : Nat → Value → Prop} {St : Nat → Shared → Prop} {R : Result → Shared → Prop}
    (W : WalksS P w A.in1 I fp wr G n Pv St) (S : Addr) (hSf : S ∉ fp) (ks : NL) (hn : n = ks.length) (hfew : ks.length < 64) (hval : ∀ i v, Pv i v → ∃ p, ks[i]? = some p ∧ v = .ref p.1)
    (h0 : Heap) (hk : ∀ p ∈ ks, NIs h0 p.2 p.1) (hS0 : h0.get? S = none) (hw0 : ∀ b ∈ wr, h0.get? b = none) (hu : A.in1.units + 8 < cLine) :
    ∀ (k i : Nat) (s : Shared), n - i = k → i ≤ n → St i s → (∀ b o, h0.get? b = some o → s.heap.get? b = some o) → (∃ L o es ep t, NSet w s.heap S L o es ep t ∧ NGot ks i L) →
      (∀ s' L o es ep t, Moved (S :: wr) G s s' → NSet w s'.heap S L o es ep t → NGot ks n L → (∀ b o, h0.get? b = some o → s'.heap.get? b = some o) → R (.ok (.ret .none)) s') →
      codeAny (model P w) A (.builtin "set.update.loop" ⟨[.ref S, .ref I], []⟩) R s := by
  have hSw : S ∉ wr := fun h => hSf (W.sub _ h)
  have hsub : ∀ b ∈ wr, b ∈ S :: wr := fun b hb => List.mem_cons_of_mem _ hb
  have keepM : ∀ {s s' : Shared}, Moved wr G s s' → (∀ b o, h0.get? b = some o → s.heap.get? b = some o) → ∀ b o, h0.get? b = some o → s'.heap.get? b = some o := fun hm hkp b o e =>
    hm.heap b o (fun hb => by rw [hw0 b hb] at e; cases e) (hkp b o e)
  intro k
  induction k with
  | zero =>
    intro i s hk' hi hst hkp ⟨L, o, es, ep, t, hS, g⟩ hR
    obtain rfl : i = n := by omega
    refine codeAny_builtin F.entry_set_update_loop ?_
    rw [Around.under_plainId F.plain_set_update_loop _]
    show wpAny _ A.in1 (pyNext (.ref I) >>= _) _ _ s
    refine wpAny_bind (W.done s _ _ hst fun s' hm => ?_)
    show wpAny _ A.in1 (ret Value.none) _ _ s'
    have hkp' := keepM hm hkp
    exact wpAny_pure (hR s' L o es ep t (hm.mono hsub) (hS.keep (fun o e => hm.heap S o hSw e) fun p hp => (hk p (List.mem_of_mem_take (g.sub p hp))).keep hkp') g hkp')
  | succ k ih =>
    intro i s hk' hi hst hkp ⟨L, o, es, ep, t, hS, g⟩ hR
    have hlt : i < n := by omega
    refine codeAny_builtin F.entry_set_update_loop ?_
    rw [Around.under_plainId F.plain_set_update_loop _]
    show wpAny _ A.in1 (pyNext (.ref I) >>= _) _ _ s
    refine wpAny_bind (W.item i s _ _ hlt hst fun v s' hP hst' hm => ?_)
    obtain ⟨p, hp, rfl⟩ := hval i v hP
    have hkp' := keepM hm hkp
    have hS' : NSet w s'.heap S L o es ep t := hS.keep (fun o e => hm.heap S o hSw e) fun q hq => (hk q (List.mem_of_mem_take (g.sub q hq))).keep hkp'
    have hx : NIs s'.heap p.2 p.1 := (hk p (List.mem_of_getElem? hp)).keep hkp'
    show wpAny _ A.in1 (holding [Value.ref p.1] (setAdd S (.ref p.1)) >>= _) _ _ s'
    refine wpAny_bind (wpAny_holding ?_)
    unfold setAdd
    refine wpAny_holding ?_
    refine wpAny_bind (pyHash_key p.2 _ _ _ _ hx.is (by have := hx.dep; omega) ?_)
    refine n_add (s := { s' with toks := s'.toks + p.2.draws }) hS' hx hu (by have := g.len; omega) fun b h' L' o' es' ep' t' hsb hS2 c1 c2 => ?_
    have g' : NGot ks (i + 1) L' := by
      rcases Classical.em (p.2 ∈ L.map (·.2)) with c | c
      · rw [c1 c]; exact g.same hp c
      · exact g.more hp (c2 c)
    have hkp2 : ∀ b o, h0.get? b = some o → h'.get? b = some o := fun b o e => (hsb.2 b (fun z => by rw [z, hS0] at e; cases e)).trans (hkp' b o e)
    refine wpAny_pure ⟨plainId_quiet F.plain_set_update_loop _, ih (i + 1) _ (by omega) hlt (W.frame _ s' _ _ hst' (Nat.le_add_right _ _) fun b hb o e => ?_) hkp2 ⟨L', o', es', ep', t', hS2, g'⟩ fun s'' L2 o2 es2 ep2 t2 hm'' hS'' g'' hkp'' => ?_⟩
    · rw [hsb.2 b (fun h : b = S => hSf (by rw [← h]; exact hb))]; exact e
    · refine hR s'' L2 o2 es2 ep2 t2 (Moved.trans W.gtrans ((hm.mono hsub).then_heap (Nat.le_add_right _ _) fun b o hb e => ?_) hm'') hS'' g'' hkp''
      rw [hsb.2 b (fun h : b = S => hb (by rw [h]; exact List.mem_cons_self))]; exact e
/-- set(xs) at once -/
theorem n_callSet {l : Addr} {items : Array Value} (ks : NL) {Q : Value → Shared → Prop} (hh : A.handled = none) (hl : s.heap.IsList l items) (hit : items.toList = ks.map fun p => Value.ref p.1)
    (hk : ∀ p ∈ ks, NIs s.heap p.2 p.1) (hfew : ks.length < 64) (hu : A.units + 16 < cLine)
    (h : ∀ (h' : Heap) (tk : Nat) L o es ep t, NSet w h' s.heap.objs.size L o es ep t → NGot ks ks.length L → (∀ b o, s.heap.get? b = some o → h'.get? b = some o) → Q (.ref s.heap.objs.size) { s with heap := h', toks := tk }) :
    wpAny (model prog w) A (call (.type "set") [.ref l]) Q E s := by
  have hisz : items.size = ks.length := by rw [← Array.length_toList, hit, List.length_map]
  obtain ⟨c, tl, hmro⟩ := F.called_set.mro
  have hmade := F.called_set.made
  have hsub := F.called_set.sub
  refine wpAny_call (codeAny_of_tree ?_)
  show wpAny _ _ (callAny (.type "set") _) _ _ _
  refine wpAny_pure ⟨Code.quiet_builtin _ (by decide +kernel), codeAny_builtin F.entry_type_call ?_⟩
  rw [Around.under_plain (weight_type_call_type "set" [.ref l] []) rfl]
  have h1 := F.called_set.notType
  have h2 := F.called_set.canCreate
  have hct := F.typeCall_set_1 (.ref l)
  repeat (any_goals (first | assumption | wp_step))
  refine codeAny_mono (code_set_led1 (.ref l) (E := E) (Q₁ := fun obj s₁ => obj = .ref s.heap.objs.size ∧ s₁ = { s with heap := s.heap.push (freshSet w) }) ⟨rfl, rfl⟩) fun r s₁ hr => ?_
  cases r with
  | error e => exact hr
  | ok fl =>
    cases fl with
    | ret obj =>
      obtain ⟨rfl, rfl⟩ := hr
      have hS : (s.heap.push (freshSet w)).get? s.heap.objs.size = some (freshSet w) := Heap.get?_push_size _ rfl
      have hT : Shared.TypeIs { s with heap := s.heap.push (freshSet w) } (.ref s.heap.objs.size) "set" := ⟨_, hS, rfl⟩
      have hli := F.called_set.init.lookup
      have hbi := F.called_set.init.bind (.ref s.heap.objs.size)
      repeat (any_goals (first | assumption | wp_step))
      refine codeAny_mono (codeAny_call_builtin (R := wants (fun r s₂ => r = .none ∧ ∃ h' tk L o es ep t, s₂ = { s with heap := h', toks := tk } ∧ NSet w h' s.heap.objs.size L o es ep t ∧ NGot ks ks.length L ∧
          (∀ b o, s.heap.get? b = some o → h'.get? b = some o)) E) F.called_set.init.plain F.entry_set_init (check_set_init_1 hT ?_)) fun r₂ s₂ hr₂ => ?_
      · obtain ⟨ol, hol, hcl, nl, hdl⟩ := hl
        obtain ⟨ocls, odict, odata, oslots⟩ := ol
        simp only at hcl hdl
        subst hcl; subst hdl
        have hol' : (s.heap.push (freshSet w)).get? l = some { cls := .type "list", dict := odict, data := .seq items nl, slots := oslots } := Heap.get?_push_of_some _ hol
        have hsls := F.sub_list_set
        have hslf := F.sub_list_frozenset
        have hne : (Value.type "list" == Value.type "dict") = false := by decide
        have hl1 : (s.heap.push (freshSet w)).IsList l items := ⟨_, hol', rfl, nl, rfl⟩
        unfold Builtin.«set.__init__» noKeywords Builtin.Frozenset.updateFrom
        generalize hPI : pyIter = PI
        wp_walk
        subst hPI
        refine wpAny_pyIter_list hl1 ?_
        refine wpAny_bind (wpAny_runValue ?_)
        have hlS : l < s.heap.objs.size := Heap.lt_size hol
        have hh3 : A.in1.in1.in1.handled = none := by simp [hh]
        have hneI : l ≠ (s.heap.push (freshSet w)).objs.size := by
          rw [Heap.size_push]; exact Nat.ne_of_lt (Nat.lt_succ_of_lt hlS)
        have hSf : s.heap.objs.size ∉ [(s.heap.push (freshSet w)).objs.size, l] := by
          rw [Heap.size_push]; simp only [List.mem_cons, List.mem_singleton, List.not_mem_nil, or_false, not_or]
          exact ⟨Nat.ne_of_lt (Nat.lt_succ_self _), Nat.ne_of_gt hlS⟩
        have hval : ∀ (i : Nat) (v : Value), items[i]? = some v → ∃ p, ks[i]? = some p ∧ v = .ref p.1 := fun i v hv => by
          rw [← Array.getElem?_toList, hit, List.getElem?_map] at hv
          cases hq : ks[i]? with
          | none => rw [hq] at hv; cases hv
          | some p =>
            rw [hq] at hv
            exact ⟨p, rfl, (Option.some.inj hv).symm⟩
        have none_of : ∀ b, s.heap.objs.size ≤ b → s.heap.get? b = none := fun b hb => by
          cases q : s.heap.get? b with
          | none => rfl
          | some o => exact absurd (Nat.lt_of_lt_of_le (Heap.lt_size q) hb) (Nat.lt_irrefl _)
        refine n_update ((Walks.list hh3 _ l hneI items).toS) s.heap.objs.size
          hSf ks hisz hfew hval s.heap hk (none_of _ (Nat.le_refl _)) (fun b hb => none_of b (by
            rw [List.mem_singleton.mp hb, Heap.size_push]
            exact Nat.le_succ _)) (by show A.units + 3 + 8 < cLine; omega) (items.size - 0) 0 _ (by omega) (Nat.zero_le _)
          ⟨⟨_, Heap.get?_push_size _ rfl, rfl, rfl⟩, (hl1.push _)⟩ (fun b o e => Heap.get?_push_of_some _ (Heap.get?_push_of_some _ e)) ?hS0 ?hR
        case hS0 => exact ⟨[], _, #[], 0, _, nset_fresh (Heap.get?_push_of_some _ hS), ⟨fun p h => (by cases h), fun p h => (by simp at h), Nat.le_refl _⟩⟩
        case hR =>
          intro s' L o es ep t hm hS' g' hkp
          obtain ⟨h', g2, d', tk', os'⟩ := s'
          have eg : g2 = s.gens := hm.gens
          have ed : d' = s.drawn := hm.drawn
          have eo : os' = s.os := hm.os
          subst eg; subst ed; subst eo
          show wpAny _ _ _ _ _ _
          refine wpAny_pure ?_
          show wpAny _ _ (ret Value.none) _ _ _
          rw [hisz] at g'
          exact wpAny_pure ⟨rfl, h', tk', L, o, es, ep, t, rfl, hS', g', hkp⟩
      · cases r₂ with
        | error e => exact hr₂
        | ok fl₂ =>
          cases fl₂ with
          | ret r =>
            obtain ⟨rfl, h', tk, L, o, es, ep, t, rfl, hS', g', hk'⟩ := hr₂
            repeat (any_goals (first | assumption | wp_step))
            exact h _ _ _ _ _ _ _ hS' g' hk'
          | _ => exact hr₂.elim
    | _ => exact hr.elim
end
end DL

set_option Elab.async false
set_option linter.all false
set_option maxRecDepth 100000
set_option maxHeartbeats 4000000
/-! DL10: sets as things of the store -/
namespace DL
open PySem PySem.Spec PyProof.Rows L2
open PySem.SeqAt
variable {X : Cx}
/-- the members of a set made from xs: each once, in some order -/
structure SetOf (xs ys : List D) : Prop where
  nd : ys.Nodup
  mem : ∀ z, z ∈ ys ↔ z ∈ xs
/-- fit for a set: plain tuples, not deep -/
def okSet (x : D) : Prop := pl x = true ∧ (∃ xs, x = .tup xs) ∧ (toN x).depth ≤ 8
theorem nl_of {K : PySem.W.Frag} {H : Hp} {h : Heap} : ∀ {ds : List D} {vs : List V} {us : List Value}, (∀ d ∈ ds, okSet d) → Reps K H ds vs → Vals vs us → Pks h (toNs ds) us →
    ∃ ks : NL, us = ks.map (fun p => Value.ref p.1) ∧ vs = ks.map (fun p => V.ref p.1) ∧ ks.map (·.2) = toNs ds ∧ ∀ p ∈ ks, NIs h p.2 p.1
  | [], _, _, _, .nil, .nil, _ => ⟨[], rfl, rfl, rfl, fun p hp => by cases hp⟩
  | d :: ds, _, _, ok, .cons r rs, .cons q qs, ps => by
    rw [toNs] at ps
    cases ps with
    | cons p ps =>
      obtain ⟨ks, e1, e2, e3, e4⟩ := nl_of (fun x hx => ok x (List.mem_cons_of_mem _ hx)) rs qs ps
      obtain ⟨h1, ⟨xs, rfl⟩, h3⟩ := ok d List.mem_cons_self
      cases r with
      | @tup a _ _ hq hr =>
        cases q
        refine ⟨(a, toN (.tup xs)) :: ks, by rw [e1]; rfl, by rw [e2]; rfl, by rw [List.map_cons, e3, toNs], fun p' hp => ?_⟩
        rcases List.mem_cons.mp hp with rfl | hp
        · exact ⟨p.nested, h3⟩
        · exact e4 p' hp
/-- a part of the rows, by the data -/
theorem nl_sub {K : PySem.W.Frag} {H : Hp} {ds : List D} {ks : NL} (r : Reps K H ds (ks.map fun p => V.ref p.1)) (e : ks.map (·.2) = toNs ds) : ∀ L : NL, (∀ p ∈ L, p ∈ ks) → ∃ ys, Reps K H ys (L.map fun p => V.ref p.1) ∧ L.map (·.2) = toNs ys ∧ ∀ y ∈ ys, y ∈ ds
  | [], _ => ⟨[], .nil, rfl, fun y hy => by cases hy⟩
  | p :: L, h => by
    obtain ⟨ys, h1, h2, h3⟩ := nl_sub r e L fun q hq => h q (List.mem_cons_of_mem _ hq)
    obtain ⟨i, hi⟩ := List.getElem?_of_mem (h p List.mem_cons_self)
    obtain ⟨d, hd, rd⟩ := r.getV (i := i) (v := V.ref p.1) (by rw [List.getElem?_map, hi]; rfl)
    have e' : toN d = p.2 := by
      have a1 : (ks.map (·.2))[i]? = some p.2 := by rw [List.getElem?_map, hi]; rfl
      rw [e, toNs_map, List.getElem?_map, hd] at a1
      exact Option.some.inj a1
    refine ⟨d :: ys, .cons rd h1, by rw [List.map_cons, h2, toNs, e'], fun y hy => ?_⟩
    rcases List.mem_cons.mp hy with rfl | hy
    · exact List.mem_of_getElem? hd
    · exact h3 y hy
theorem toNs_nodup : ∀ {ys : List D}, (toNs ys).Nodup → ys.Nodup := fun {ys} h => by
  rw [toNs_map] at h
  exact List.Pairwise.of_map toN (fun _ _ hne e => hne (congrArg toN e)) h
theorem setOf_keys {xs ys : List D} (hx : pls xs = true) (sub : ∀ y ∈ ys, y ∈ xs) (nd : (toNs ys).Nodup) (all : ∀ k ∈ toNs xs, k ∈ toNs ys) : SetOf xs ys := by
  refine ⟨toNs_nodup nd, fun z => ⟨sub z, fun hz => ?_⟩⟩
  have h1 := all (toN z) (by rw [toNs_map]; exact List.mem_map.mpr ⟨z, hz, rfl⟩)
  rw [toNs_map] at h1
  obtain ⟨y, hy, e⟩ := List.mem_map.mp h1
  rw [pls_all] at hx
  rw [← toN_inj y z (hx y (sub y hy)) (hx z hz) e]
  exact hy
theorem nso_new {w : World} {P : Program} {H : Hp} {h : Heap} {a : Addr} {L : NL} {o : Obj} {es : Array (Int × Value)} {ep : Nat} {t : SetTable} (R : NSet w h a L o es ep t) : ObjOk P w H h a (NSO w a L) :=
  ⟨⟨o, es, ep, t, R.at_, R.ob⟩, ⟨o, R.at_⟩, fun h1 h2 p k => let ⟨o', es', ep', t', q, r⟩ := p; ⟨o', es', ep', t', k o' q, r⟩⟩
/-- set(xs) of plain tuples -/
def rSetN (w : World) : DRs := fun ds A Q => ∃ a xs, ds = [.ref a] ∧ items? A (.ref a) = some xs ∧ (∀ x ∈ xs, okSet x) ∧ xs.length < 64 ∧ ∀ ys p A', SetOf xs ys → ys.length ≤ xs.length → New A p (.st w ys) A' → Q (.ref p) A'
theorem dc_set (hc : X.calm = true) (hu : X.A.units + 64 < cLine) : DCallR X (.type "set") (rSetN X.w) := by
  intro pins s σ H xs us Q I rx ⟨ds, A, Q', rs, ra, ⟨a, ys, h1, h2, ok, hf, q⟩, k⟩
  subst h1
  obtain ⟨v, rfl, r⟩ := reps1 rs
  cases r
  obtain ⟨u, rfl, ru⟩ := vals1 rx
  cases ru
  obtain ⟨vs, hq, hr⟩ := listAt ra h2
  obtain ⟨its, rv, pl', hz⟩ := I.list hq
  have hpl : pls ys = true := (pls_all ys).mpr fun x hx => (ok x hx).1
  have pk := rep_pks I ys vs its hpl hr rv
  obtain ⟨ks, e1, e2, e3, e4⟩ := nl_of ok hr rv pk
  have hlen : ks.length = ys.length := by have := congrArg List.length e2; rw [List.length_map, hr.length] at this; exact this.symm
  refine n_callSet ks (I.ok.hd hc) pl'.isList (by simpa using e1) e4 (by omega) (by omega) fun h' tk L o es ep t R g kp => ?_
  have hn : H s.heap.objs.size = none := I.hok.fresh (Nat.le_refl _)
  rw [e2] at hr
  obtain ⟨zs, z1, z2, z3⟩ := nl_sub hr e3 L fun p hp => List.mem_of_mem_take (g.sub p hp)
  have so : SetOf ys zs := setOf_keys hpl z3 (by rw [← z2]; exact R.ob.nd) fun kk hk => by
    rw [← e3] at hk
    rw [← z2]
    obtain ⟨p, hp, rfl⟩ := List.mem_map.mp hk
    exact g.all p (by rw [List.take_length]; exact hp)
  refine ⟨.ref s.heap.objs.size, upd H s.heap.objs.size (NSO X.w s.heap.objs.size L), I.laid (t' := tk) kp (Nat.le_refl _) (nso_new R), rfl, ?_⟩
  refine kont_new (o := .st X.w zs) k (.refl _) ra hn ⟨L, upd_same, z1.step (.new hn), z2, (pls_all zs).mpr fun y hy => (pls_all ys).mp hpl y (z3 y hy)⟩ fun p A' n => q zs p A' so ?_ n
  have a1 := z1.length
  rw [List.length_map] at a1
  have := g.len
  omega
theorem rep_nis {K : PySem.W.Frag} {H : Hp} {h : Heap} : ∀ {ds : List D} {L : NL} {us : List Value}, us = L.map (fun p => Value.ref p.1) → Reps K H ds (L.map fun p => V.ref p.1) → (∀ d ∈ ds, okSet d) → Pks h (toNs ds) us → L.map (·.2) = toNs ds → ∀ p ∈ L, NIs h p.2 p.1
  | [], [], _, _, _, _, _, _, p, hp => by cases hp
  | d :: ds, q :: L, _, rfl, .cons r rs, ok, ps, e, p, hp => by
    rw [toNs] at ps e
    cases ps with
    | cons p1 ps =>
      rw [List.map_cons] at e
      injection e with e1 e2
      rcases List.mem_cons.mp hp with rfl | hp
      · rw [e1]
        exact ⟨p1.nested, (ok d List.mem_cons_self).2.2⟩
      · exact rep_nis rfl rs (fun x hx => ok x (List.mem_cons_of_mem _ hx)) ps e2 p hp
theorem vals_refs : ∀ (L : NL), Vals (L.map fun p => V.ref p.1) (L.map fun p => Value.ref p.1)
  | [] => .nil
  | p :: L => .cons rfl (vals_refs L)
theorem nso_get {pins : List (Addr × Obj)} {σ : L2.St} {H : Hp} {s : Shared} {a : Addr} {L : NL} {ds : List D} (I : Inv X pins σ H s) (ha : H a = some (NSO X.w a L)) (r : Reps X.K H ds (L.map fun p => V.ref p.1)) (e : L.map (·.2) = toNs ds) (hp : pls ds = true) (ok : ∀ d ∈ ds, okSet d) :
    ∃ o es ep t, NSet X.w s.heap a L o es ep t := by
  obtain ⟨o, es, ep, t, h1, h2⟩ := (I.hok a _ ha).1
  exact ⟨o, es, ep, t, h1, h2, rep_nis rfl r ok (rep_pks I ds _ _ hp r (vals_refs L)) e⟩
theorem SOk.sub {ks js : List NestedKey} (h : SOk ks) (sub : ∀ k ∈ js, k ∈ ks) : SOk js := by
  cases h with
  | int_ h => exact .int_ fun k hk => h k (sub k hk)
  | str_ h => exact .str_ fun k hk => h k (sub k hk)
  | tup_ t h c d => exact .tup_ t (fun k hk => h k (sub k hk)) (fun a ha b hb => c a (sub a ha) b (sub b hb)) fun k hk => d k (sub k hk)
theorem SortOk.sub {xs ys : List D} (h : SortOk xs) (sub : ∀ y ∈ ys, y ∈ xs) : SortOk ys := by
  refine ⟨(pls_all ys).mpr fun y hy => (pls_all xs).mp h.plain y (sub y hy), h.ok.sub fun k hk => ?_⟩
  rw [toNs_map] at hk ⊢
  obtain ⟨d, hd, rfl⟩ := List.mem_map.mp hk
  exact List.mem_map.mpr ⟨d, sub d hd, rfl⟩
/-- sorted(a set) -/
def rSortedN (w : World) : DRs := fun ds A Q => ∃ a xs, ds = [.ref a] ∧ A a = some (.st w xs) ∧ SortOk xs ∧ ∀ ys p A', SortedOf xs ys → New A p (.lst ys) A' → Q (.ref p) A'
theorem dc_sortedN (hc : X.calm = true) (hu : X.A.units + 64 < cLine) : DCallR X (.builtin "sorted") (rSortedN X.w) := by
  intro pins s σ H xs us Q I rx ⟨ds, A, Q', rs, ra, ⟨a, ys, h1, h2, ok, q⟩, k⟩
  subst h1
  obtain ⟨v, rfl, r⟩ := reps1 rs
  cases r
  obtain ⟨u, rfl, ru⟩ := vals1 rx
  cases ru
  obtain ⟨L, ha, hr, hk, hpl⟩ := ra a _ h2
  obtain ⟨o, es, ep, t, ho, B⟩ := (I.hok a _ ha).1
  have hsz := B.size
  have hfew := B.few
  refine Calls.call_function_entry kind_sorted plain_sorted entry_sorted (args_sorted1 _) ?_
  unfold Builtin.«sorted»
  refine wpAny_bind (m := checkCount "sorted" 1 1 _) (wpAny_pure ?_)
  refine wpAny_bind (collect_set (A := X.A.in1) (by have := I.ok.hd hc; simpa using this) ⟨o, ho, B.ex.1, B.dat⟩ B.fits (by unfold scanBound; omega) B.tab.ris B.led fun s1 out0 k1 hz1 g1 o1 pm => ?_)
  have hes : es.toList.map (·.2) = L.map fun q => Value.ref q.1 := by
    rw [B.rows]; unfold nRows; rw [List.map_map]; rfl
  rw [hes] at pm
  have pk0 := rep_pks I ys _ _ hpl hr (vals_refs L)
  obtain ⟨ds', vs', p1, p2, p3, p4⟩ := vals_perm pm hr (vals_refs L)
  have hpl' : pls ds' = true := (pls_all ds').mpr fun y hy => (pls_all ys).mp hpl y (p1.mem_iff.mp hy)
  have pk' := rep_pks I ds' vs' out0 hpl' p2 p3
  have hlen : out0.length < 64 := by rw [pm.length_eq, List.length_map]; exact hfew
  refine wpAny_bind (wpAny_newList ?_ (by rw [sizeLine_eq]; omega))
  have hoL : (s1.heap.push (seqObj "list" out0.toArray 0)).get? s1.heap.objs.size = some (seqObj "list" out0.toArray 0) := Heap.get?_push_size _ rfl
  have keep1 : ∀ b u, s.heap.get? b = some u → b ≠ s1.heap.objs.size ∧ (s1.heap.push (seqObj "list" out0.toArray 0)).get? b = some u := fun b u e =>
    ⟨Nat.ne_of_lt (Heap.lt_size (k1 b u e)), Heap.get?_push_of_some _ (k1 b u e)⟩
  refine wpAny_bind (wpAny_holding (wpAny_call_entry slot_list_sort ⟨_, hoL, rfl⟩ entry_list_sort (SrtO.list_sort_ord (s := { s1 with heap := s1.heap.push (seqObj "list" out0.toArray 0) }) (swo_key (keyOf s.heap)) hoL (by rw [sizeLine_eq]; omega) (fun g2 => ?_) fun out hs hb => ⟨_, rfl, ?_⟩) (args_list_sort _)))
  · have tr : ∀ c u, s.heap.get? c = some u → u.cls = .type "tuple" → (s1.heap.push (seqObj "list" out0.toArray 0)).get? c = some u := fun c u e _ => (keep1 c u e).2
    refine sortable_keys (ks := toNs ds') (Pks.keep tr pk') ?_ (fun w' hw kk p => ?_) (by simp only [Around.in1_units]; omega) g2 fun o' e' => ?_
    · have sub : ∀ kk ∈ toNs ds', kk ∈ toNs ys := fun kk hkk => by
        rw [toNs_map] at hkk ⊢
        obtain ⟨d, hd, rfl⟩ := List.mem_map.mp hkk
        exact List.mem_map.mpr ⟨d, p1.mem_iff.mp hd, rfl⟩
      exact ok.ok.sub sub
    · obtain ⟨k0, _, p0⟩ := pks_mem pk' w' hw
      rw [keyOf_eq p0]
      exact (Pk.keep tr p0).inj p
    · have e2 := e'.symm.trans hoL
      cases e2
      exact fun c => absurd (Value.type.inj c) (by decide)
  · obtain ⟨ds2, vs2, q1, q2, q3, q4⟩ := vals_perm hb.perm p2 p3
    have so : SortedOf ys ds2 := ⟨q1.trans p1, srtd_paired (q4 _ (pks_paired (fun _ _ => keyOf_eq) pk')) hs⟩
    have hn : H s1.heap.objs.size = none := I.hok.fresh hz1
    obtain ⟨c, hcq⟩ := sortedHeap_at (vs := out0) (out := out.toArray) hoL
    have hl : vs2.length ≤ sizeLine := by rw [q2.length, q1.length_eq, ← p2.length, p3.length, sizeLine_eq]; omega
    have old : ∀ b u, s.heap.get? b = some u → (sortedHeap (s1.heap.push (seqObj "list" out0.toArray 0)) s1.heap.objs.size out0 out.toArray).get? b = some u := fun b u e => by
      have hlt := Heap.lt_size (k1 b u e)
      rw [sortedHeap_old (Nat.ne_of_lt hlt) (by rw [size_push']; exact Nat.lt_succ_of_lt hlt)]
      exact (keep1 b u e).2
    refine wpAny_pure ⟨_, rfl, ?_⟩
    have J : Inv X pins σ (upd H s1.heap.objs.size (.lst vs2)) { s with heap := sortedHeap (s1.heap.push (seqObj "list" out0.toArray 0)) s1.heap.objs.size out0 out.toArray, gens := s1.gens, drawn := s1.drawn, toks := s1.toks } :=
      I.call (ch := []) (Un.laid old hz1 hn) (I.hok.laid old hz1 ⟨hl, out, c, q3, hcq⟩) (by rw [g1]; exact I.bare) (fun _ z => nomatch z)
    refine ⟨.ref s1.heap.objs.size, upd H s1.heap.objs.size (.lst vs2), ?_, rfl, kont_new k (.refl _) ra hn (.mkL upd_same (q2.step (.new hn))) fun p A' n => q ds2 p A' so n⟩
    cases s1
    cases s
    cases o1
    exact J

/-! ### sets of ints -/
theorem kds_one {P : Program} {w : World} {A : Around} {E : Value → Shared → Prop} {s : Shared} {b : Bool} {t : Sem Value} {Q : Value → Shared → Prop}
    (h : wpAny (model P w) A t (fun v s' => wpAny (model P w) A (setAdd s.heap.objs.size v) (fun _ s2 => Q (.ref s.heap.objs.size) s2) E s') E { s with heap := s.heap.push (freshSet w) }) :
    wpAny (model P w) A (setDisplay .oneByOne b [(false, t)]) Q E s := by
  unfold setDisplay
  try dsimp only
  rw [if_neg (by decide)]
  refine wpAny_bind (wpAny_newSet_raw fun led hl => ?_)
  subst hl
  dsimp only
  refine wpAny_bind (wpAny_holding ?_)
  show wpAny (model P w) A (evalAll [t] >>= _) _ E _
  refine wpAny_bind ?_
  show wpAny (model P w) A (t >>= fun v => holding [v] (evalAll []) >>= fun r => pure (v :: r)) _ E _
  refine wpAny_bind (wpAny_mono h (fun v s' h' => ?_) fun _ _ x => x)
  refine wpAny_bind (wpAny_holding (wpAny_pure (wpAny_pure ?_)))
  refine wpAny_bind (wpAny_holding ?_)
  refine wpAny_bind ?_
  rw [List.forIn_cons]
  refine wpAny_bind (wpAny_bind (wpAny_mono h' (fun _ s2 h2 => ?_) fun _ _ x => x))
  refine wpAny_pure ?_
  show wpAny (model P w) A (forIn [] PUnit.unit _) _ E s2
  rw [List.forIn_nil]
  refine wpAny_pure ?_
  rw [if_neg (by decide)]
  refine wpAny_pure ?_
  show wpAny (model P w) A (forIn [] PUnit.unit _ >>= _) _ E s2
  rw [List.forIn_nil]
  exact wpAny_bind (wpAny_pure (wpAny_pure (wpAny_pure h2)))
theorem pe_set1 {k : Int} {pos cp : Pos} {x1 : Nat} (hcd : PySem.W.kdsCode X.K X.env.code = true) : PE X (.Set [.Constant (.int k) x1 cp] 0 pos) (fun σ H Q => ∀ p, H p = none → Q (.ref p) (upd H p (SetO X.w p (fun j => decide (j = k)) 1))) := by
  refine ⟨fun pins s σ H Q I h => ?_⟩
  rw [arm_eval_Set]
  refine wpAny_bind (wpAny_standAt ?_)
  refine wpAny_bind (PySem.W.kds_main I.kIn hcd fun b => ?_)
  have hn : H s.heap.objs.size = none := I.hok.fresh (Nat.le_refl _)
  have R0 := setR_fresh (h := s.heap) X.w
  have I0 : Inv X pins σ (upd H s.heap.objs.size (SetO X.w s.heap.objs.size (fun _ => false) 0)) { s with heap := s.heap.push (freshSet X.w) } := I.laid (t' := s.toks) (fun b u e => Heap.get?_push_of_some _ e) (Nat.le_refl _) (setO_new R0)
  refine kds_one ?_
  refine wpAny_bind (thn ((pe_int (i := k) (j := x1) (pos := cp)).run pins _ σ _ (fun v H1 => v = .int k ∧ H1 = upd H s.heap.objs.size (SetO X.w s.heap.objs.size (fun _ => false) 0)) I0 ⟨rfl, rfl⟩) fun v s1 ⟨x, H1, I1, r1, e1, e2⟩ => ?_)
  subst e1 e2
  obtain ⟨tk, rfl⟩ := r1
  refine wpAny_bind (wpAny_standAt (wpAny_pure ?_))
  have R := setO_get I1 upd_same
  unfold setAdd
  refine wpAny_holding (wpAny_bind ((intKind X.prog X.w).pyHash (k := k) (intKind_is _ _ _ _) ?_))
  refine setR_add_hashed (s := { s1 with toks := s1.toks + 1 }) R (by decide) fun h' sb new => ?_
  have he : ∃ u, h'.get? s.heap.objs.size = some u := by
    have ⟨o, _, _, _, ho, _⟩ := new
    exact ⟨o, ho⟩
  have I2 := I1.write (e := s.heap.objs.size) (t' := s1.toks + 1) (by rw [upd_same]; trivial) (.inl rfl) (fun b u hb hu => (sb.2 b hb).trans hu) he (setO_new new)
  have e3 : upd (upd H s.heap.objs.size (SetO X.w s.heap.objs.size (fun _ => false) 0)) s.heap.objs.size (SetO X.w s.heap.objs.size (fun j => false || decide (j = k)) (if false = true then 0 else 0 + 1)) = upd H s.heap.objs.size (SetO X.w s.heap.objs.size (fun j => decide (j = k)) 1) := by
    funext b
    by_cases hb : b = s.heap.objs.size
    · subst hb; rw [upd_same, upd_same]; simp
    · rw [upd_ne hb, upd_ne hb, upd_ne hb]
  rw [e3] at I2
  exact ⟨.ref s.heap.objs.size, _, I2, rfl, h _ hn⟩
def qSet1 (w : World) (k : Int) : DE := fun _ A Q => ∀ p A', New A p (.si w (fun j => decide (j = k)) 1) A' → Q (.ref p) A'
theorem d_set1 {k : Int} {pos cp : Pos} {x1 : Nat} (hcd : PySem.W.kdsCode X.K X.env.code = true) : DPE X (.Set [.Constant (.int k) x1 cp] 0 pos) (qSet1 X.w k) := (pe_set1 hcd).imp fun σ H Q ⟨τ, A, Q', x, q, kk⟩ p hp =>
  kont_new (o := .si X.w (fun j => decide (j = k)) 1) kk (.refl _) x.a hp upd_same q
/-- m.add(k) -/
def qSAdd (w : World) (to : DE) (t : DAs) : DE := fun τ A Q => to τ A fun x A1 => ∃ a S n, x = .ref a ∧ A1 a = some (.si w S n) ∧ t τ A1 fun ds A2 => ∃ k S n, ds = [.int k] ∧ A2 a = some (.si w S n) ∧ n + 1 < scanBound ∧
  ∀ A', Put A2 a (.si w (fun j => S j || decide (j = k)) (if S k = true then n else n + 1)) A' → Q .non A'
theorem d_sadd {o e : Expr} {es : List Expr} {to : DE} {t : DAs} {apos cpos : Pos} (ho : DPE X o to) (ha : DPA X (e :: es) t)
    (hb : attributeBase o "add" X.env (eval o X.env) = eval o X.env := by rfl)
    (hf : ((backTo cpos (starEach (e :: es) X.env)).all (fun x => !x.1) && (backToKw cpos (keywordEach [] X.env)).all (fun x => x.1.isSome)
      && decide ((e :: es).length + ([] : List Keyword).length + (if ([] : List Keyword).isEmpty then 0 else 1) < 30)) = true := by rfl)
    (hl : (apos.endLine == cpos.line) = true := by rfl) (hs : starEach (e :: es) X.env = (false, eval e X.env) :: starEach es X.env := by rfl) (hp : (backTo cpos (starEach es X.env)).any (·.1) = false := by rfl) :
    DPE X (.Call (.Attribute o "add" apos) (e :: es) [] cpos) (qSAdd X.w to t) := (pe_sadd ho ha hb hf hl hs hp).imp fun σ H Q ⟨τ, A, Q', x, q, k⟩ =>
  ⟨τ, A, _, x, q, fun d A1 v H1 ⟨a, S, n, e1, e2, q1⟩ s1 r1 rd => by
    subst e1
    cases rd
    have h1 : H1 a = some (SetO X.w a S n) := r1 a _ e2
    refine ⟨⟨a, S, n, rfl, h1⟩, τ, A1, _, x.to s1 r1, q1, fun ds A2 ws H2 ⟨kk, S2, n2, e3, e4, e5, q2⟩ s2 r2 rs => ?_⟩
    subst e3
    obtain ⟨w2, rfl, r'⟩ := reps1 rs
    cases r'
    have h2 : H2 a = some (SetO X.w a S2 n2) := r2 a _ e4
    exact ⟨a, kk, S2, n2, rfl, rfl, h2, e5, kont_put (o := .si X.w (fun j => S2 j || decide (j = kk)) (if S2 kk = true then n2 else n2 + 1)) (k.step (s1.trans s2)) r2 h2 True.intro ⟨_, e4⟩ upd_same .non q2⟩⟩
def rSIn' (w : World) (f : Bool → Bool) : DR2 := fun x y A Q => ∃ k a S n, x = .int k ∧ y = .ref a ∧ A a = some (.si w S n) ∧ Q (.bl (f (S k))) A
theorem do_sin : DOpR X (compareOp .In) (rSIn' X.w id) := OpR.imp or_sin fun x y H Q ⟨d, e, A, Q', rd, re, ra, ⟨k, a, S, n, h1, h2, h3, q⟩, kk⟩ => by
  subst h1 h2
  cases rd
  cases re
  exact ⟨k, a, S, n, rfl, rfl, ra a _ h3, kk _ _ _ _ q (.refl _) ra (.bl _)⟩
theorem do_snotin : DOpR X (compareOp .NotIn) (rSIn' X.w not) := OpR.imp or_snotin fun x y H Q ⟨d, e, A, Q', rd, re, ra, ⟨k, a, S, n, h1, h2, h3, q⟩, kk⟩ => by
  subst h1 h2
  cases rd
  cases re
  exact ⟨k, a, S, n, rfl, rfl, ra a _ h3, kk _ _ _ _ q (.refl _) ra (.bl _)⟩
def rSortedI (w : World) : DRs := fun ds A Q => ∃ a S n, ds = [.ref a] ∧ A a = some (.si w S n) ∧ n < 64 ∧ ∀ (ns : List Int) p A', ns.Pairwise (· < ·) → (∀ k : Int, k ∈ ns ↔ S k = true) → ns.length = n → New A p (.lst (ns.map D.int)) A' → Q (.ref p) A'
theorem dc_sortedI (hc : X.calm = true) : DCallR X (.builtin "sorted") (rSortedI X.w) := (cr_sortedSet hc).imp fun xs H Q ⟨ds, A, Q', rs, ra, ⟨a, S, n, h1, h2, h3, q⟩, k⟩ => by
  subst h1
  obtain ⟨v, rfl, r⟩ := reps1 rs
  cases r
  refine ⟨a, S, n, rfl, ra a _ h2, h3, fun ns p e1 e2 e3 hp => kont_new k (.refl _) ra hp (.mkL upd_same Reps.ints) fun p A' nw => q ns p A' e1 e2 e3 nw⟩
end DL

set_option Elab.async false
set_option linter.all false
set_option maxRecDepth 100000
set_option maxHeartbeats 4000000
/-! DL11: defs that may raise, their calls, raise, try -/
namespace DL
open PySem PySem.Spec PyProof.Rows L2

/-! ### room -/
structure RoomG (k : Nat) (A : Around) : Prop where
  r : L2H.RoomH k A
  g : A.guards = some []
theorem RoomG.mono {j k : Nat} {A : Around} (r : RoomG k A) (h : j ≤ k) : RoomG j A := ⟨r.r.mono h, r.g⟩
theorem RoomG.deeper {k : Nat} {A : Around} (r : RoomG (k + 1) A) (env : Env) : RoomG k (A.deeper env) := ⟨r.r.deeper env, r.g⟩
theorem RoomG.units {k : Nat} {A : Around} (r : RoomG k A) : A.units + 64 < cLine := by have := r.r.un; omega
theorem RoomG.u1 {k : Nat} {A : Around} (r : RoomG k A) : A.units + 1 < cLine := by have := r.r.un; omega

/-! ### promises -/
/-- what is wanted of an own exception: its class, the store -/
abbrev DXK := Value → DA → Prop
abbrev DSp := List D → DA → DK → Prop
abbrev DSpX := List D → DA → DK → DXK → Prop
def KontXK (K : PySem.W.Frag) (H : Hp) (E' : DXK) (E : XK) : Prop := ∀ c A H', E' c A → Step H H' → RepA K H' A → E c none H'
theorem KontXK.step {K : PySem.W.Frag} {H H' : Hp} {E' : DXK} {E : XK} (s : Step H H') (k : KontXK K H E' E) : KontXK K H' E' E := fun c A H2 q s2 => k c A H2 q (s.trans s2)
def lowSp (K : PySem.W.Frag) (sp : DSpX) : Sp := fun vs H Q E => ∃ ds A Q' E', Reps K H ds vs ∧ RepA K H A ∧ sp ds A Q' E' ∧ Kont K H Q' Q ∧ KontXK K H E' E
structure DFnX (P : Program) (w : World) (K : PySem.W.Frag) (mg : Str → Option Value) (base : Heap) (k : Nat) (f : Addr) (fd : FuncData) (ps : List Str) (sp : DSpX) : Prop where
  len : ∀ ds A Q E, sp ds A Q E → ds.length = ps.length
  run : ∀ (A : Around) (outer : List Env) (s : Shared) (H : Hp) (args : Args) (us : List Value) (vs : List V) (Q : VK) (E : XK), A.handled = none → RoomG k A → Env0 P w K mg base A outer s H → BindsTo s fd args (ps.zip us) → Vals vs us → lowSp K sp vs H Q E →
    codeAny (model P w) A (.call (.ref f) args) (CR (L2N.CX P w) outer P w H s Q E) s
/-- a def that raises nothing -/
abbrev DFn (P : Program) (w : World) (K : PySem.W.Frag) (mg : Str → Option Value) (base : Heap) (k : Nat) (f : Addr) (fd : FuncData) (ps : List Str) (sp : DSp) : Prop := DFnX P w K mg base k f fd ps fun ds A Q _ => sp ds A Q
theorem DFnX.imp {P : Program} {w : World} {K : PySem.W.Frag} {mg : Str → Option Value} {base : Heap} {k : Nat} {f : Addr} {fd : FuncData} {ps : List Str} {sp sp' : DSpX} (F : DFnX P w K mg base k f fd ps sp) (h : ∀ ds A Q E, sp' ds A Q E → sp ds A Q E) : DFnX P w K mg base k f fd ps sp' :=
  ⟨fun ds A Q E q => F.len ds A Q E (h _ _ _ _ q), fun A outer s H args us vs Q E hh hr he hb hv ⟨ds, A', Q', E', r1, r2, q, k1, k2⟩ => F.run A outer s H args us vs Q E hh hr he hb hv ⟨ds, A', Q', E', r1, r2, h _ _ _ _ q, k1, k2⟩⟩
theorem DFnX.mono {P : Program} {w : World} {K : PySem.W.Frag} {mg : Str → Option Value} {base : Heap} {j k : Nat} {f : Addr} {fd : FuncData} {ps : List Str} {sp : DSpX} (F : DFnX P w K mg base j f fd ps sp) (h : j ≤ k) : DFnX P w K mg base k f fd ps sp :=
  ⟨F.len, fun A outer s H args us vs Q E hh hr => F.run A outer s H args us vs Q E hh (hr.mono h)⟩
/-- a hot def: the handled exception, of the class D, lies at a -/
structure DFnH (P : Program) (w : World) (K : PySem.W.Frag) (mg : Str → Option Value) (base : Heap) (k : Nat) (f : Addr) (fd : FuncData) (ps : List Str) (C : Addr) (sp : Addr → DSp) : Prop where
  len : ∀ a ds A Q, sp a ds A Q → ds.length = ps.length
  run : ∀ (A : Around) (outer : List Env) (s : Shared) (H : Hp) (args : Args) (us : List Value) (vs : List V) (Q : VK) (E : XK) (p : Addr × Obj), RoomG k A → L2H.Hot1 A p → L2N.Zn (.ref C) none p.2 → L2H.PinOk outer H s p → Env0 P w K mg base A outer s H → BindsTo s fd args (ps.zip us) → Vals vs us →
    lowSp K (fun ds A Q _ => sp p.1 ds A Q) vs H Q E → codeAny (model P w) A (.call (.ref f) args) (CR (L2N.CX P w) outer P w H s Q E) s

/-! ### a def by its body -/
def startD (N : List Str) (ds : List D) : DSt := ds.map some ++ List.replicate (N.length - ds.length) none
section
variable {P : Program} {w : World} {K : PySem.W.Frag} {mg : Str → Option Value} {base : Heap} {x qual : Str} {params : Arguments} {body : List Stmt} {scope : Scope} {dvs : List V} {kws : List (Str × V)} {f : Addr} {fd : FuncData} {N ps : List Str} {k : Nat}
theorem start_rep {H : Hp} {ds : List D} {vs : List V} (rs : Reps K H ds vs) : RepS K H (startD N ds) (L2.start N vs) := by
  unfold startD L2.start
  rw [rs.length]
  exact RepS.start _ rs
theorem dfunX_ok {sp : DSpX} {t : DS} (F : FunD K x qual params body scope dvs kws f fd) (S : FnScope N ps scope) (len : ∀ ds A Q E, sp ds A Q E → ds.length = ps.length)
    (hbody : ∀ (cdv : Value) (A : Around) (outer : List Env) (s : Shared) (H : Hp) (E : XK), PySem.W.codeIn K cdv qual = true → RoomG k (A.deeper (envOfC qual scope s.heap.objs.size f cdv)) → DPSs (cxOf (L2N.CX P w) P w K mg base N qual scope f cdv A outer s H E) (fun c d _ H => E c d H) body t)
    (hread : ∀ ds A Q E, sp ds A Q E → t { nx := fun _ A' => Q .non A', rt := Q, ex := fun c _ A' => E c A' } (startD N ds) A) : DFnX P w K mg base (k + 1) f fd ps sp := by
  obtain ⟨oc, od, dV, kV, doc, pm, an, cdv, ct, osl, rfl, lk, hcd, _, _⟩ := F.ex
  refine ⟨len, fun A outer s H args us vs Q E hh hr e0 hb r hsp => ?_⟩
  obtain ⟨ds, A', Q', E', rs, ra, q, k1, k2⟩ := hsp
  have hl : vs.length = ps.length := by rw [rs.length]; exact len _ _ _ _ q
  have KX : K.In s.heap := e0.mod.kin.keeps fun b o e => (e0.bs b o e).1
  have lim : s.heap.NoLimit := e0.mod.nolimit.keeps fun b o e => (e0.bs b o e).1
  have hkind : ∀ y ∈ ps.zip us, scope.names.lookup y.1 = some .local ∨ (scope.names.lookup y.1 = some .cell ∧ ((cellsFrom (s.heap.objs.size + 1) scope.names []).lookup y.1).isSome = true) := fun ⟨n, v⟩ hy =>
    (S.par n (List.of_mem_zip hy).1).elim .inl fun z => .inr ⟨z, PySem.W.cellsFrom_some _ _ _ (.inl z)⟩
  refine codeAny_call_function hr.r.depth (KX _ _ lk) rfl S.co S.gen rfl (PySem.W.codeRec_of KX hcd) (hb _ _ _ _ ?_)
  refine wpAny_newFunctionEnv_cells S.kind hkind fun env he s1 xx => ?_
  subst he
  refine ⟨lim.keeps xx.toInCall.keep, codeAny_func ?_⟩
  have I : Inv (cxOf (L2N.CX P w) P w K mg base N qual scope f cdv A outer s H E) [] (L2.start N vs) H s1 := inv_start S hh e0 hl r xx
  have hq : lowS K (fun c d _ H => E c d H) t { nx := fun _ H' => Q .non H', rt := Q } (L2.start N vs) H :=
    ⟨startD N ds, A', _, ⟨start_rep rs, ra⟩, hread ds A' Q' E' q, ⟨fun _ _ _ _ q' s' r' _ => k1 _ _ _ _ q' s' r' .non, k1, fun _ _ _ _ q' _ _ _ => q', fun _ _ _ _ q' _ _ _ => q', fun c _ A2 _ H2 q2 s2 r2 _ => k2 c A2 H2 q2 s2 r2⟩⟩
  refine wpAny_mono ((hbody cdv A outer s H E hcd (hr.deeper _)).run [] s1 (L2.start N vs) H _ I hq) (fun fl s' hs => ?_) fun e s' hs => hs
  have fin : ∀ {σ' : L2.St} {H' : Hp} {v : V} {u : Value}, Inv (cxOf (L2N.CX P w) P w K mg base N qual scope f cdv A outer s H E) [] σ' H' s' → RelV v u → Q v H' → CE outer P w H s Q u s' :=
    fun {σ' H' v u} J rv q => ⟨v, H', J.os, J.bare, J.base, J.hok, rv, q⟩
  cases fl with
  | ret u => obtain ⟨v, σ', H', J, rv, q⟩ := hs; exact fin J rv q
  | next => obtain ⟨σ', H', J, q⟩ := hs; exact fin (v := V.non) (u := Value.none) J rfl q
  | brk => obtain ⟨_, _, _, q⟩ := hs; exact False.elim q
  | cont => obtain ⟨_, _, _, q⟩ := hs; exact False.elim q
theorem dfunH_ok {C : Addr} {sp : Addr → DSp} {t : Addr → DS} (F : FunD K x qual params body scope dvs kws f fd) (S : FnScope N ps scope) (len : ∀ a ds A Q, sp a ds A Q → ds.length = ps.length)
    (hbody : ∀ (cdv : Value) (A : Around) (outer : List Env) (s : Shared) (H : Hp) (E : XK) (p : Addr × Obj), L2H.Hot1 A p → L2N.Zn (.ref C) none p.2 → RoomG k (A.deeper (envOfC qual scope s.heap.objs.size f cdv)) →
      DPSs (L2H.cxH (L2N.CX P w) P w K mg base N qual scope f cdv A outer s H E p) (fun _ _ _ _ => False) body (t p.1))
    (hread : ∀ a ds A Q, sp a ds A Q → t a { nx := fun _ A' => Q .non A', rt := Q } (startD N ds) A) : DFnH P w K mg base (k + 1) f fd ps C sp := by
  obtain ⟨oc, od, dV, kV, doc, pm, an, cdv, ct, osl, rfl, lk, hcd, _, _⟩ := F.ex
  refine ⟨len, fun A outer s H args us vs Q E p hr hot hz hpin e0 hb r hsp => ?_⟩
  obtain ⟨ds, A', Q', E', rs, ra, q, k1, k2⟩ := hsp
  have hl : vs.length = ps.length := by rw [rs.length]; exact len _ _ _ _ q
  have KX : K.In s.heap := e0.mod.kin.keeps fun b o e => (e0.bs b o e).1
  have lim : s.heap.NoLimit := e0.mod.nolimit.keeps fun b o e => (e0.bs b o e).1
  have hkind : ∀ y ∈ ps.zip us, scope.names.lookup y.1 = some .local ∨ (scope.names.lookup y.1 = some .cell ∧ ((cellsFrom (s.heap.objs.size + 1) scope.names []).lookup y.1).isSome = true) := fun ⟨n, v⟩ hy =>
    (S.par n (List.of_mem_zip hy).1).elim .inl fun z => .inr ⟨z, PySem.W.cellsFrom_some _ _ _ (.inl z)⟩
  refine codeAny_call_function hr.r.depth (KX _ _ lk) rfl S.co S.gen rfl (PySem.W.codeRec_of KX hcd) (hb _ _ _ _ ?_)
  refine wpAny_newFunctionEnv_cells S.kind hkind fun env he s1 xx => ?_
  subst he
  refine ⟨lim.keeps xx.toInCall.keep, codeAny_func ?_⟩
  have I : Inv (L2H.cxH (L2N.CX P w) P w K mg base N qual scope f cdv A outer s H E p) [] (L2.start N vs) H s1 := L2H.inv_startH S hpin e0 hl r xx
  have hq : lowS K (fun _ _ _ _ => False) (t p.1) { nx := fun _ H' => Q .non H', rt := Q } (L2.start N vs) H :=
    ⟨startD N ds, A', _, ⟨start_rep rs, ra⟩, hread p.1 ds A' Q' q, ⟨fun _ _ _ _ q' s' r' _ => k1 _ _ _ _ q' s' r' .non, k1, fun _ _ _ _ q' _ _ _ => q', fun _ _ _ _ q' _ _ _ => q', fun _ _ _ _ _ q2 _ _ _ => q2⟩⟩
  refine wpAny_mono ((hbody cdv A outer s H E p hot hz (hr.deeper _)).run [] s1 (L2.start N vs) H _ I hq) (fun fl s' hs => ?_) fun e s' hs => hs
  have fin : ∀ {σ' : L2.St} {H' : Hp} {v : V} {u : Value}, Inv (L2H.cxH (L2N.CX P w) P w K mg base N qual scope f cdv A outer s H E p) [] σ' H' s' → RelV v u → Q v H' → CE outer P w H s Q u s' :=
    fun {σ' H' v u} J rv q => ⟨v, H', J.os, J.bare, J.base, J.hok, rv, q⟩
  cases fl with
  | ret u => obtain ⟨v, σ', H', J, rv, q⟩ := hs; exact fin J rv q
  | next => obtain ⟨σ', H', J, q⟩ := hs; exact fin (v := V.non) (u := Value.none) J rfl q
  | brk => obtain ⟨_, _, _, q⟩ := hs; exact False.elim q
  | cont => obtain ⟨_, _, _, q⟩ := hs; exact False.elim q
/-- a def that raises nothing -/
theorem dfun_ok {sp : DSp} {t : DS} (F : FunD K x qual params body scope dvs kws f fd) (S : FnScope N ps scope) (len : ∀ ds A Q, sp ds A Q → ds.length = ps.length)
    (hbody : ∀ (cdv : Value) (A : Around) (outer : List Env) (s : Shared) (H : Hp) (E : XK), PySem.W.codeIn K cdv qual = true → RoomG k (A.deeper (envOfC qual scope s.heap.objs.size f cdv)) → DPSs (cxOf (L2N.CX P w) P w K mg base N qual scope f cdv A outer s H E).nox (fun _ _ _ _ => False) body t)
    (hread : ∀ ds A Q, sp ds A Q → t { nx := fun _ A' => Q .non A', rt := Q } (startD N ds) A) : DFn P w K mg base (k + 1) f fd ps sp := by
  refine dfunX_ok (t := fun E τ A => t { E with ex := fun _ _ _ => False } τ A) F S (fun ds A Q _ q => len ds A Q q) (fun cdv A outer s H E hcd hr => ?_) fun ds A Q E q => hread ds A Q q
  exact (hbody cdv A outer s H E hcd hr).nox.imp fun E σ H ⟨τ, A, E', x, q, k⟩ => ⟨τ, A, _, x, q, ⟨k.nx, k.rt, k.bk, k.ct, fun _ _ _ _ _ z => z.elim⟩⟩
end

/-! ### calls -/
section
variable {X : Cx} {W : WX} {k : Nat} {f : Addr} {fd : FuncData} {ps : List Str} {x : Str} {p pos : Pos} {e : Expr} {es : List Expr} {t : DAs}
theorem no_cx {P : Program} {w : World} {outer : List Env} {H : Hp} {s s' : Shared} {u : Value} (h : L2N.CX P w outer H s (fun _ _ _ => False) u s') : False := by
  obtain ⟨_, _, _, _, _, _, _, _, _, _, _, _, z⟩ := h
  exact z
theorem run_dfn {sp : DSpX} {E : XK} {pins : List (Addr × Obj)} {σ : L2.St} {H : Hp} {s : Shared} {Q : VK} {us : List Value} {vs : List V} (F : DFnX X.prog X.w X.K X.mg X.base k f fd ps sp) (hc : X.calm = true) (hr : RoomG k X.A) (hb : Binds X.K fd ps [])
    (hx : ∀ e s', L2N.CX X.prog X.w X.stack H s E e s' → X.xe e s') (I : Inv X pins σ H s) (r : Vals vs us) (h : lowSp X.K sp vs H Q E) : wpAny (model X.prog X.w) X.A (call (.ref f) us) (EP X pins σ Q) X.xe s := by
  have hl : us.length = ps.length := by
    obtain ⟨ds, A', Q', E', rs, ra, q, k1, k2⟩ := h
    rw [← r.length, rs.length]; exact F.len _ _ _ _ q
  have b := hb s us I.kIn (by rw [List.append_nil]; exact hl)
  rw [List.append_nil] at b
  refine wpAny_call (codeAny_mono (F.run X.A X.stack s H ⟨us, []⟩ us vs Q E (I.ok.hd hc) hr I.env0 b r h) fun r s' hq => ?_)
  cases r with
  | error e => exact hx e s' hq
  | ok fl =>
    cases fl with
    | ret u => exact I.after hq
    | next => exact False.elim hq
    | brk => exact False.elim hq
    | cont => exact False.elim hq
/-- f(e, ..), what is raised wanted as E σ says -/
theorem pe_dcall {sp : DSpX} {E : L2.St → XK} (F : DFnX X.prog X.w X.K X.mg X.base k f fd ps sp) (hc : X.calm = true) (hr : RoomG k X.A) (hm : X.mg x = some (.ref f)) (hk : PySem.W.keepIn X.K (.ref f) = true) (hb : Binds X.K fd ps [])
    (hx : ∀ pins σ H s e s', Inv X pins σ H s → L2N.CX X.prog X.w X.stack H s (E σ) e s' → X.xe e s') (ha : DPA X (e :: es) t) (hg : Gl X x := by rfl) (hdb : (x == ("__debug__" : Str)) = false := by decide) (he : starEach (e :: es) X.env = (false, eval e X.env) :: starEach es X.env := by rfl) (hpl : (backTo pos (starEach es X.env)).any (·.1) = false := by rfl) :
    PE X (.Call (.Name x p) (e :: es) [] pos) (fun σ H Q => lowA X.K t σ H fun vs H1 => lowSp X.K sp vs H1 Q (E σ)) := by
  refine ⟨fun pins s σ H Q I h => ?_⟩
  refine wpAny_Call_Name_kw (ld_glob I hg hm ?_ hdb)
  refine PySem.W.callWith_K (h₀ := X.base) I.ok.mod.kin hk (thn (ha.run pos pins s σ H _ I h) fun us s1 ⟨vs, H1, I1, r, q⟩ => ⟨I1.kIn, ?_⟩) he hpl
  exact run_dfn F hc hr hb (fun e s' z => hx pins σ H1 s1 e s' I1 z) I1 r q
theorem pe_dcall0 {sp : DSpX} {E : L2.St → XK} (F : DFnX X.prog X.w X.K X.mg X.base k f fd ps sp) (hc : X.calm = true) (hr : RoomG k X.A) (hm : X.mg x = some (.ref f)) (hk : PySem.W.keepIn X.K (.ref f) = true) (hb : Binds X.K fd ps [])
    (hx : ∀ pins σ H s e s', Inv X pins σ H s → L2N.CX X.prog X.w X.stack H s (E σ) e s' → X.xe e s') (hg : Gl X x := by rfl) (hdb : (x == ("__debug__" : Str)) = false := by decide) :
    PE X (.Call (.Name x p) [] [] pos) (fun σ H Q => lowSp X.K sp [] H Q (E σ)) := by
  refine ⟨fun pins s σ H Q I h => ?_⟩
  refine wpAny_Call_Name_kw (ld_glob I hg hm ?_ hdb)
  exact PySem.W.callWith_K0 I.kIn hk (run_dfn (us := []) F hc hr hb (fun e s' z => hx pins σ H s e s' I z) I .nil h)
/-- a call that raises nothing here -/
def qCX (sp : DSpX) (t : DAs) : DE := fun τ A Q => t τ A fun ds A1 => sp ds A1 Q fun _ _ => False
theorem d_callX {sp : DSpX} (F : DFnX X.prog X.w X.K X.mg X.base k f fd ps sp) (hc : X.calm = true) (hr : RoomG k X.A) (hm : X.mg x = some (.ref f)) (hk : PySem.W.keepIn X.K (.ref f) = true) (hb : Binds X.K fd ps [])
    (ha : DPA X (e :: es) t) (hg : Gl X x := by rfl) (hdb : (x == ("__debug__" : Str)) = false := by decide) (he : starEach (e :: es) X.env = (false, eval e X.env) :: starEach es X.env := by rfl) (hpl : (backTo pos (starEach es X.env)).any (·.1) = false := by rfl) :
    DPE X (.Call (.Name x p) (e :: es) [] pos) (qCX sp t) := (pe_dcall (E := fun _ _ _ _ => False) F hc hr hm hk hb (fun _ _ _ _ _ _ _ z => (no_cx z).elim) ha hg hdb he hpl).imp fun σ H Q ⟨τ, A, Q', x, q, kk⟩ =>
  ⟨τ, A, _, x, q, fun ds A1 vs H1 q1 s1 r1 rs => ⟨ds, A1, Q', _, rs, r1, q1, kk.step s1, fun _ _ _ z _ _ => z⟩⟩
theorem d_call {sp : DSp} (F : DFn X.prog X.w X.K X.mg X.base k f fd ps sp) (hc : X.calm = true) (hr : RoomG k X.A) (hm : X.mg x = some (.ref f)) (hk : PySem.W.keepIn X.K (.ref f) = true) (hb : Binds X.K fd ps [])
    (ha : DPA X (e :: es) t) (hg : Gl X x := by rfl) (hdb : (x == ("__debug__" : Str)) = false := by decide) (he : starEach (e :: es) X.env = (false, eval e X.env) :: starEach es X.env := by rfl) (hpl : (backTo pos (starEach es X.env)).any (·.1) = false := by rfl) :
    DPE X (.Call (.Name x p) (e :: es) [] pos) (qCB sp t) := d_callX F hc hr hm hk hb ha hg hdb he hpl
theorem d_call0 {sp : DSp} (F : DFn X.prog X.w X.K X.mg X.base k f fd ps sp) (hc : X.calm = true) (hr : RoomG k X.A) (hm : X.mg x = some (.ref f)) (hk : PySem.W.keepIn X.K (.ref f) = true) (hb : Binds X.K fd ps [])
    (hg : Gl X x := by rfl) (hdb : (x == ("__debug__" : Str)) = false := by decide) : DPE X (.Call (.Name x p) [] [] pos) (qCB sp qNil) := (pe_dcall0 (E := fun _ _ _ _ => False) F hc hr hm hk hb (fun _ _ _ _ _ _ _ z => (no_cx z).elim) hg hdb).imp fun σ H Q ⟨τ, A, Q', x, q, kk⟩ =>
  ⟨[], A, Q', fun _ _ => False, .nil, x.a, q, kk, fun _ _ _ z _ _ => z⟩
/-- f(e, ..) as a statement: what it raises is passed on -/
def qDropX (sp : DSpX) (t : DAs) : DS := fun E τ A => t τ A fun ds A1 => sp ds A1 (fun _ A2 => E.nx τ A2) fun c A2 => E.ex c τ A2
theorem ds_exprX {sp : DSpX} (tk : L2N.Takes X W) (F : DFnX X.prog X.w X.K X.mg X.base k f fd ps sp) (hc : X.calm = true) (hr : RoomG k X.A) (hm : X.mg x = some (.ref f)) (hk : PySem.W.keepIn X.K (.ref f) = true) (hb : Binds X.K fd ps [])
    (ha : DPA X (e :: es) t) (hs : swapsWith (.Call (.Name x p) (e :: es) [] pos) none pos.line X.env = pure false := by rfl) (hg : Gl X x := by rfl) (hdb : (x == ("__debug__" : Str)) = false := by decide) (he : starEach (e :: es) X.env = (false, eval e X.env) :: starEach es X.env := by rfl) (hpl : (backTo pos (starEach es X.env)).any (·.1) = false := by rfl) :
    DPS X W (.Expr (.Call (.Name x p) (e :: es) [] pos) pos) (qDropX sp t) := (ps_expr (pe_dcall (E := fun σ c d H => W c d σ H) F hc hr hm hk hb (fun _ σ _ _ e s' I z => tk e s' (L2N.XE.of_call I (fun _ _ _ h => h) z)) ha hg hdb he hpl) hs).imp fun E σ H ⟨τ, A, E', x, q, kk⟩ =>
  ⟨τ, A, _, x, q, fun ds A1 vs H1 q1 s1 r1 rs => ⟨ds, A1, _, _, rs, r1, q1, fun d A2 v H2 q2 s2 r2 _ => kk.nx _ _ _ _ q2 (s1.trans s2) r2 (x.s.step (s1.trans s2)), fun c A2 H2 q2 s2 r2 => kk.ex _ _ _ _ _ q2 (s1.trans s2) r2 (x.s.step (s1.trans s2))⟩⟩
end

/-! ### raise, try .. except C as n -/
theorem takesN0 {X : Cx} : L2N.Takes X (fun _ _ _ _ => False) := fun _ _ x => by
  obtain ⟨_, _, _, _, _, _, _, _, _, _, _, _, _, _, _, _, z⟩ := x
  exact z.elim
/-- the function object at f -/
def fdO (K : PySem.W.Frag) (f : Addr) : FuncData := match K.lookup f with
  | some ⟨_, _, .func fd, _⟩ => fd
  | _ => PySem.W.fnOf "" "" (defArgs (.Pass ⟨0, 0, 0, 0⟩)) [] (defScope (.Pass ⟨0, 0, 0, 0⟩)) .none .none .none .none none .none .none
theorem fdO_eq {K : PySem.W.Frag} {x qual : Str} {params : Arguments} {body : List Stmt} {scope : Scope} {dvs : List V} {kws : List (Str × V)} {f : Addr} {fd : FuncData} (F : FunD K x qual params body scope dvs kws f fd) : fd = fdO K f := by
  obtain ⟨oc, od, dV, kV, doc, pm, an, cdv, ct, osl, rfl, lk, _⟩ := F.ex
  unfold fdO
  rw [lk]
theorem kds_codeIn {K : PySem.W.Frag} {cd : Value} {qn : Str} (h : PySem.W.codeIn K cd qn = true) : PySem.W.kdsCode K cd = true := by
  unfold PySem.W.codeIn at h
  unfold PySem.W.kdsCode
  split at h
  · split at h
    · rename_i e
      simp only [e]
    · cases h
  · cases h
section
variable {X : Cx} {W : WX} {C : Addr} {bmB : List Value} {B newId initId : String} {x n : Str} {p pos pos' np : Pos}
theorem pmk_own0 (F : ExcBaseFacts B newId initId bmB) (q : PySem.W.excIn X.K C bmB newId = true) (gC : X.mg x = some (.ref C)) (kC : PySem.W.keepIn X.K (.ref C) = true) (r : Raises X (.ref C)) (hg : Gl X x := by rfl)
    (hdb : (x == ("__debug__" : Str)) = false := by decide) : L2N.PMk X (.Call (.Name x p) [] [] pos) (fun _ H Q => Q (.ref C) none H) := by
  intro pins s σ H Q I h
  refine wpAny_Call_Name_kw (ld_glob I hg gC ?_ hdb)
  refine PySem.W.callWith_K0 I.kIn kC ?_
  obtain ⟨bm, N, nm, qn, bs, hdct, sn, sub, ab, col, dd, k0, k1, k2, k3, k5, mN, hC, hN, hni, T⟩ := exc_obj I.kIn q
  refine wpAny_call_exc_subT F T hC hN hni (fun h' e hm => ?_) (Nat.zero_le _)
  exact L2N.mk_of I hm r h (I.hok.gone hm.new)
def qRaise (C : Addr) : DS := fun E τ A => E.ex (.ref C) τ A
theorem ds_raise0 (hc : X.calm = true) (tk : L2N.Takes X W) (F : ExcBaseFacts B newId initId bmB) (q : PySem.W.excIn X.K C bmB newId = true) (gC : X.mg x = some (.ref C)) (kC : PySem.W.keepIn X.K (.ref C) = true) (r : Raises X (.ref C)) (hg : Gl X x := by rfl)
    (hdb : (x == ("__debug__" : Str)) = false := by decide) : DPS X W (.Raise (some (.Call (.Name x p) [] [] pos)) none pos') (qRaise C) := (L2N.ps_raise hc tk (pmk_own0 F q gC kC r hg hdb)).imp fun E σ H ⟨τ, A, E', x, q, k⟩ =>
  k.ex _ _ _ _ _ q (.refl _) x.a x.s
/-- the class C alone is raised within -/
def qExAs (K : PySem.W.Frag) (c : Value) (C : Addr) (i : Nat) (ts : Addr → DS) (E : DEnds) : Value → DSt → DA → Prop := fun cls τ1 A1 => cls = .ref C ∧ PySem.W.exmOne K (.ref C) c = some true ∧ ∀ a, A1 a = none →
  ts a { nx := fun τ' A' => E.nx (τ'.set i none) A', rt := E.rt, bk := fun τ' A' => E.bk (τ'.set i none) A', ct := fun τ' A' => E.ct (τ'.set i none) A' } (τ1.set i (some (.ref a))) A1
def qTryAs (K : PySem.W.Frag) (c : Value) (C : Addr) (i : Nat) (tb : DS) (ts : Addr → DS) : DS := fun E τ A => tb { E with ex := qExAs K c C i ts E } τ A
theorem ds_try_as {c : Value} {i : Nat} {body suite : List Stmt} {b₀ : Stmt} {tb : DS} {ts : Addr → DS} (C : Addr) (hs : X.stack = X.env :: X.outer) (hf : X.env.frame = some X.env.locals) (hN : X.N.Nodup) (hi : X.N[i]? = some n) (hln : X.env.kindOf n = some .local) (hc : Names X x c) (tk : L2N.Takes X W)
    (hb : ∀ (W' : WX) (pn : List (Addr × Obj)) (xe : Value → Shared → Prop), L2N.Takes (X.tr pn xe) W' → PassesOwn (model X.prog X.w) X.A X.env xe → DPSs (X.tr pn xe) W' body tb)
    (hsu : ∀ (a : Addr) (oe : Obj) (pn : List (Addr × Obj)), L2N.Zn (.ref C) none oe → (∃ vs, oe.data = .fields vs) → DPSs (X.suite a ((a, oe) :: pn)) (fun _ _ _ _ => False) (b₀ :: suite) (ts a)) :
    DPS X W (.Try body [.ExceptHandler (some (.Name x np)) (some n) (b₀ :: suite) pos'] [] [] pos) (qTryAs X.K c C i tb ts) := by
  refine (L2N.ps_try_as (tb := fun W' => lowS X.K W' tb) (ts := fun a cls d => fun E σ H => cls = .ref C ∧ d = none ∧ lowS X.K (fun _ _ _ _ => False) (ts a) E σ H) hs hf hN hi hln hc tk (fun W' pn xe t1 t2 => hb W' pn xe t1 t2) fun a oe cls d pn hz hv => ?_).imp fun E σ H ⟨τ, A, E', y, q, k⟩ => ?_
  · by_cases e : cls = .ref C ∧ d = none
    · obtain ⟨rfl, rfl⟩ := e
      exact (hsu a oe pn hz hv).imp fun E σ H z => z.2.2
    · exact pss_never.imp fun E σ H z => absurd ⟨z.1, z.2.1⟩ e
  · refine ⟨τ, A, _, y, q, k.nx, k.rt, k.bk, k.ct, ?_⟩
    rintro cls τ1 A1 σ1 H1 ⟨rfl, hex, hts⟩ s1 r1 rs1
    refine ⟨true, hex, fun _ a ha => ⟨rfl, rfl, τ1.set i (some (.ref a)), A1, _, ⟨rs1.set (.ref a), r1⟩, hts a (r1.free ha), ?_, (k.rt).step s1, ?_, ?_, ?_⟩, fun z => nomatch z⟩
    · exact fun τ' A' σ' H' q' s' r' rs' => k.nx _ _ _ _ q' (s1.trans s') r' (rs'.set0 i)
    · exact fun τ' A' σ' H' q' s' r' rs' => k.bk _ _ _ _ q' (s1.trans s') r' (rs'.set0 i)
    · exact fun τ' A' σ' H' q' s' r' rs' => k.ct _ _ _ _ q' (s1.trans s') r' (rs'.set0 i)
    · exact fun _ _ _ _ _ z _ _ _ => z
end

/-! ### a call from the suite -/
section
variable {X : Cx} {k : Nat} {f a C : Addr} {fd : FuncData} {ps : List Str} {x : Str} {p pos : Pos} {e : Expr} {es : List Expr} {t : DAs}
/-- the handled exception, of the class C, lies at a -/
def HotX (X : Cx) (a C : Addr) : Prop := ∃ oe, (a, oe) ∈ X.pn ∧ L2H.Hot1 X.A (a, oe) ∧ L2N.Zn (.ref C) none oe
theorem hotX_suite {oe : Obj} {pn : List (Addr × Obj)} (hz : L2N.Zn (.ref C) none oe) (hv : ∃ vs, oe.data = .fields vs) : HotX (X.suite a ((a, oe) :: pn)) a C :=
  ⟨oe, List.mem_cons_self, ⟨rfl, by obtain ⟨vs, e⟩ := hv; exact ⟨vs, e, hz.2.2 vs e⟩⟩, hz⟩
theorem RoomG.suite {pn : List (Addr × Obj)} (r : RoomG k X.A) : RoomG k (X.suite a pn).A := ⟨⟨r.r.dp, r.r.un⟩, r.g⟩
theorem d_callH {sp : Addr → DSp} (F : DFnH X.prog X.w X.K X.mg X.base k f fd ps C sp) (hh : HotX X a C) (hr : RoomG k X.A) (hm : X.mg x = some (.ref f)) (hk : PySem.W.keepIn X.K (.ref f) = true) (hb : Binds X.K fd ps [])
    (ha : DPA X (e :: es) t) (hg : Gl X x := by rfl) (hdb : (x == ("__debug__" : Str)) = false := by decide) (he : starEach (e :: es) X.env = (false, eval e X.env) :: starEach es X.env := by rfl) (hpl : (backTo pos (starEach es X.env)).any (·.1) = false := by rfl) :
    DPE X (.Call (.Name x p) (e :: es) [] pos) (qCB (sp a) t) := by
  refine ⟨fun pins s σ H Q I ⟨τ, A, Q', y, q, kk⟩ => ?_⟩
  refine wpAny_Call_Name_kw (ld_glob I hg hm ?_ hdb)
  refine PySem.W.callWith_K (h₀ := X.base) I.ok.mod.kin hk (thn (ha.run pos pins s σ H (fun vs H1 => lowSp X.K (fun ds A Q _ => sp a ds A Q) vs H1 Q fun _ _ _ => False) I ⟨τ, A, _, y, q, fun ds A1 vs H1 q1 s1 r1 rs => ⟨ds, A1, Q', fun _ _ => False, rs, r1, q1, kk.step s1, fun _ _ _ z _ _ => z⟩⟩) fun us s1 ⟨vs, H1, I1, r, q1⟩ => ⟨I1.kIn, ?_⟩) he hpl
  obtain ⟨oe, hp, hot, hz⟩ := hh
  have hl : us.length = ps.length := by
    obtain ⟨ds, A', Q', E', rs, ra, q2, k1, k2⟩ := q1
    rw [← r.length, rs.length]; exact F.len _ _ _ _ q2
  have b := hb s1 us I1.kIn (by rw [List.append_nil]; exact hl)
  rw [List.append_nil] at b
  have P1 := I1.pin (a, oe) (List.mem_append_left _ hp)
  have hpin : L2H.PinOk X.stack H1 s1 (a, oe) := ⟨P1.1, P1.2.1, fun hm => (List.mem_cons.mp (I1.stkSub a hm)).elim P1.2.2.1 P1.2.2.2.1, P1.2.2.2.2⟩
  refine wpAny_call (codeAny_mono (F.run X.A X.stack s1 H1 ⟨us, []⟩ us vs Q (fun _ _ _ => False) (a, oe) hr hot hz hpin I1.env0 b r q1) fun r s' hq => ?_)
  cases r with
  | error e => exact (no_cx hq).elim
  | ok fl =>
    cases fl with
    | ret u => exact I1.after hq
    | next => exact False.elim hq
    | brk => exact False.elim hq
    | cont => exact False.elim hq
/-- isinstance(e, T) of the handled exception -/
def rIsE (K : PySem.W.Frag) (C a : Addr) : DRs := fun ds A Q => ∃ c cv b, ds = [.ref a, c] ∧ ((∃ n, c = .ty n ∧ cv = Value.type n) ∨ ∃ T, c = .ref T ∧ cv = .ref T) ∧ PySem.W.kitOne K (.ref C) cv = some b ∧ Q (.bl b) A
theorem dc_isE (hE : ExcC X.K C) (hh : HotX X a C) : DCallR X (.builtin "isinstance") (rIsE X.K C a) := by
  intro pins s σ H xs us Q I r ⟨ds, A, Q', rs, ra, ⟨c, cv, b, h1, h2, h3, q⟩, k⟩
  subst h1
  obtain ⟨v, w, rfl, r1, r2⟩ := reps2 rs
  cases r1
  obtain ⟨oe, hp, ⟨_, vs, hv, _⟩, hz⟩ := hh
  cases r with
  | cons rx rr =>
    cases rr with
    | cons rt rr =>
      cases rr
      cases rx
      rename_i ut
      have ec : ut = cv := by
        rcases h2 with ⟨n, rfl, rfl⟩ | ⟨T, rfl, rfl⟩
        · cases r2; exact rt
        · cases r2; exact rt
      subst ec
      obtain ⟨hget, _⟩ := I.pin (a, oe) (List.mem_append.mpr (.inl hp))
      have J : PySem.W.InstAt s.heap a oe C none := by
        obtain ⟨oc, od, oda, osl⟩ := oe
        obtain ⟨h1, h2, _⟩ := hz
        dsimp only at h1 h2 hv
        subst h1 h2 hv
        exact ⟨hget, rfl, rfl, trivial⟩
      exact PySem.W.kia_one (PySem.W.handS_kitx_exc hE.hg hE.hk hE.hs hE.hd hE.ha hE.hn hE.ht hE.hm) I.kIn J h3 (fun z => nomatch z) fun tk => ⟨.bl b, H, I.kept (t' := tk) fun _ _ z => z, rfl, k _ _ _ _ q (.refl _) ra (.bl _)⟩
/-- isinstance(x, T) -/
inductive DTy (A : DA) : D → String → Prop
  | non : DTy A .non "NoneType"
  | bl (b : Bool) : DTy A (.bl b) "bool"
  | int (i : Int) : DTy A (.int i) "int"
  | str (x : Str) : DTy A (.str x) "str"
  | tup (xs : List D) : DTy A (.tup xs) "tuple"
  | lst {a : Addr} {xs : List D} : A a = some (.lst xs) → DTy A (.ref a) "list"
theorem dty_x {K : PySem.W.Frag} {H : Hp} {A : DA} (ra : RepA K H A) {d : D} {v : V} {n : String} (h : DTy A d n) (r : Rep K H d v) : TyX K H v (.type n) := by
  cases h with
  | non => cases r; exact .base .non
  | bl b => cases r; exact .base (.bl b)
  | int i => cases r; exact .base (.int i)
  | str i => cases r; exact .base (.str i)
  | lst e =>
    cases r
    obtain ⟨vs, e1, _⟩ := ra _ _ e
    exact .base (.lst e1)
  | tup xs =>
    cases r with
    | tup hq _ =>
      rcases hq with (h | ⟨o, h⟩) | h
      · exact .base (.tup h)
      · exact .fTuple h
      · obtain ⟨o, its, n, e, c, _⟩ := h; exact .kTuple e c
def rIs (K : PySem.W.Frag) : DRs := fun ds A Q => ∃ x n m b, ds = [x, .ty m] ∧ DTy A x n ∧ PySem.W.kitOne K (.type n) (.type m) = some b ∧ Q (.bl b) A
theorem dc_is : DCallR X (.builtin "isinstance") (rIs X.K) := call_isi.imp fun xs H Q ⟨ds, A, Q', rs, ra, ⟨x, n, m, b, h1, h2, h3, q⟩, k⟩ => by
  subst h1
  obtain ⟨v, w, rfl, r1, r2⟩ := reps2 rs
  cases r2
  exact ⟨v, .ty m, .type n, .type m, b, rfl, .ty m, dty_x ra h2 r1, h3, k _ _ _ _ q (.refl _) ra (.bl _)⟩
end
end DL

set_option Elab.async false
set_option linter.all false
set_option maxRecDepth 100000
set_option maxHeartbeats 4000000
/-! DL12: dict comprehensions, int, str, repr -/
namespace DL
open PySem PySem.Spec PyProof.Rows L2
section
variable {X : Cx} {pos p2 : Pos}
/-- {k: v for g in xs} -/
def qDc (wi : DI) (g : Tg) (tt : DT) (tk tv : DE) (vs : List Nat) : DE := fun τ A Q => wi τ A fun J A1 => ∀ D A2, New A1 D (.dk []) A2 → ∃ W : Nat → Nat → DA → Prop, (∃ m, W 0 m A2) ∧ ∀ i m A, W i m A →
  (J i A none ∧ Q (.ref D) A) ∨ ∃ d, J i A (some d) ∧ ∃ Nx : DA → Prop, (∀ A', Nx A' → ∃ m', m' < m ∧ W (i + 1) m' A') ∧ qTg g d (wipeD τ vs) A fun τ2 A2 => tt τ2 A2 fun b A3 =>
    if b = true then tk τ2 A3 fun y A4 => tv τ2 A4 fun z A5 => ∃ kvs, A5 D = some (.dk kvs) ∧ (keyD y).isSome = true ∧ kvs.length < sizeLine ∧ ∀ A6, Put A5 D (.dk (putD kvs y z)) A6 → Nx A6 else Nx A3
theorem d_dc {kx vx tg iter : Expr} {ifs : List Expr} {scope : Scope} (own : List (Str × Nat)) {wi : DI} {g : Tg} {tt : DT} {tk tv : DE} (hc : X.calm = true) (hN : X.N.Nodup) (hi : DPI X tg iter wi) (ok : BlkOk X.N X.env.scope scope own)
    (hg : ∀ (s : Shared) (H : Hp) (C : Addr) (cl : List (Str × Addr)) (fp : List Addr), DPG (X.blk s H scope (compEnvC scope cl C X.env) fp) tg g) (ht : ∀ (s : Shared) (H : Hp) (C : Addr) (cl : List (Str × Addr)) (fp : List Addr), DPTs (X.blk s H scope (compEnvC scope cl C X.env) fp) ifs tt)
    (hk : ∀ (s : Shared) (H : Hp) (C : Addr) (cl : List (Str × Addr)) (fp : List Addr), DPE (X.blk s H scope (compEnvC scope cl C X.env) fp) kx tk)
    (he : ∀ (s : Shared) (H : Hp) (C : Addr) (cl : List (Str × Addr)) (fp : List Addr), DPE (X.blk s H scope (compEnvC scope cl C X.env) fp) vx tv) (hsl : ∀ i ∈ g.slots, i ∈ own.map (·.2) := by decide) (hs : ∀ x, foldedSetIterable iter X.env x = pure x := by intro _; rfl) :
    DPE X (.DictComp kx vx [⟨tg, iter, ifs, 0⟩] scope pos) (qDc wi g tt tk tv (own.map (·.2))) :=
  (pe_dc (wi := lowI X.K wi) (g := g.h X.K) (tt := lowT X.K tt) (tk := low X.K tk) (tv := low X.K tv) hc hN hi ok (fun s H C cl fp => (hg s H C cl fp).pg) (fun s H C cl fp => (ht s H C cl fp).p) hk he hs).imp fun σ H Q ⟨τ, A, Q', x, q, k⟩ => by
  refine ⟨τ, A, _, x, q, fun J A1 H1 Jh q1 s1 r1 ir => ?_⟩
  intro D hD
  obtain ⟨W, ⟨m0, w0⟩, turn⟩ := q1 D _ ⟨r1.free hD, rfl⟩
  have sD : Step H1 (upd H1 D (.dK [])) := .new hD
  refine ⟨fun i m H2 => ∃ A, Step H1 H2 ∧ RepA X.K H2 A ∧ W i m A, ⟨m0, _, sD, r1.new hD (.mkD upd_same .nil), w0⟩, ?_⟩
  rintro i m H2 ⟨A2, s2, r2, w2⟩
  have k2 := k.step (s1.trans s2)
  rcases turn i m A2 w2 with ⟨hj, hq⟩ | ⟨d, hj, N, hN, hb⟩
  · exact .inl ⟨ir.stop i H2 A2 s2 r2 hj, k2 _ _ _ _ hq (.refl _) r2 (.ref D)⟩
  obtain ⟨hgo, hy⟩ := ir.go i H2 A2 d s2 r2 hj
  refine .inr ⟨hgo, fun H' => ∃ A', Step H1 H' ∧ RepA X.K H' A' ∧ N A', ?_, ?_⟩
  · rintro H' ⟨A', s', r', n'⟩
    obtain ⟨m', hm, w'⟩ := hN A' n'
    exact ⟨m', hm, A', s', r', w'⟩
  intro y H3 hyl
  obtain ⟨s3, r3, rd⟩ := hy y H3 hyl
  unfold qTg at hb
  split at hb
  · rename_i τ3 e3
    refine Tg.run (((x.s.step (s1.trans (s2.trans s3)))).wiped _) rd e3 fun σ4 rs4 hw => ?_
    refine ⟨by rw [hw _ hsl, wipe_wipe], τ3, A2, _, ⟨rs4, r3⟩, hb, fun b A4 H4 q4 s4 r4 => ?_⟩
    show if b = true then _ else _
    cases b with
    | false =>
      rw [if_neg (by decide)] at q4 ⊢
      exact ⟨A4, s2.trans (s3.trans s4), r4, q4⟩
    | true =>
      rw [if_pos rfl] at q4 ⊢
      refine ⟨τ3, A4, _, ⟨rs4.step s4, r4⟩, q4, fun yk A5 kv H5 q5 s5 r5 rk => ?_⟩
      refine ⟨τ3, A5, _, ⟨rs4.step (s4.trans s5), r5⟩, q5, fun z A6 zv H6 ⟨kvs, hacc, hk, hlen, q6⟩ s6 r6 rz => ?_⟩
      obtain ⟨ws, hv, hr⟩ := r6 D _ hacc
      obtain ⟨kk, hkk⟩ := Option.isSome_iff_exists.mp hk
      have sp : Step H6 (upd H6 D (.dK (putK ws kk zv))) := .put hv True.intro
      refine ⟨ws, kk, keyD_rep hkk rk, hv, by rw [hr.length]; exact hlen, _, ?_, ?_, q6 _ ⟨⟨_, hacc⟩, rfl⟩⟩
      · exact s2.trans (s3.trans (s4.trans (s5.trans (s6.trans sp))))
      · exact r6.put hv True.intro (.mkD upd_same ((hr.put hkk rz).step sp))
  · exact hb.elim
/-! ### int, str, repr -/
/-- int(x): an int, a bool, a text of digits -/
def rInt : DRs := fun ds A Q => match ds with
  | [.int i] => Q (.int i) A
  | [.bl k] => Q (.int (if k then 1 else 0)) A
  | [.str z] => ∃ n, PySem.intText? z = some n ∧ z.length ≤ 640 ∧ Q (.int n) A
  | _ => False
theorem CallR.or {f : Value} {r r' : List V → Hp → VK → Prop} (h : CallR X f r) (g : CallR X f r') : CallR X f (fun xs H Q => r xs H Q ∨ r' xs H Q) := fun pins s σ H xs us Q I rx q => q.elim (h pins s σ H xs us Q I rx) (g pins s σ H xs us Q I rx)
theorem dc_int : DCallR X (.type "int") rInt := (CallR.or call_int1 call_int_str).imp fun xs H Q ⟨ds, A, Q', rs, ra, q, k⟩ => by
  cases rs with
  | nil => exact q.elim
  | cons r t =>
    cases t with
    | nil =>
      cases r <;> first
        | exact q.elim
        | exact .inl (.inl ⟨_, rfl, k _ _ _ _ q (.refl _) ra (.int _)⟩)
        | exact .inl (.inr ⟨_, rfl, k _ _ _ _ q (.refl _) ra (.int _)⟩)
        | (obtain ⟨n, h1, h2, q⟩ := q; exact .inr ⟨_, n, rfl, h1, h2, k _ _ _ _ q (.refl _) ra (.int _)⟩)
    | cons _ _ => cases r <;> exact q.elim
theorem size_toString {i : Int} : True := trivial
/-- repr of plain data, lists too -/
def rRepr : DRs := fun ds A Q => ∃ x p, ds = [x] ∧ Py A x p ∧ p.showable = true ∧ p.shown.length ≤ sizeLine ∧ p.depth ≤ 60 ∧ p.hasDict = false ∧ (∃ y, x = .ref y ∨ ∃ ys, x = .tup ys) ∧ Q (.str p.shown) A
theorem dc_repr (hg : X.A.guards = some []) (hu : X.A.units + 64 < cLine) : DCallR X (.builtin "repr") rRepr := by
  intro pins s σ H xs us Q I rx ⟨ds, A, Q', rs, ra, ⟨x, p, h1, h2, h3, h4, h5, h6, h7, q⟩, k⟩
  subst h1
  obtain ⟨v, rfl, r⟩ := reps1 rs
  obtain ⟨u, rfl, ru⟩ := vals1 rx
  have hd : Dp X.K H v p := h2.dp ra r
  obtain ⟨as, hr⟩ := Dp.reads I p v u hd ru
  have hv : ∃ a, u = .ref a := by
    obtain ⟨y, rfl | ⟨ys, rfl⟩⟩ := h7
    · cases r; exact ⟨_, ru⟩
    · cases r; exact ⟨_, ru⟩
  obtain ⟨a, rfl⟩ := hv
  refine repr_of_reads' hr h3 (fun z => by rw [h6] at z; cases z) hg (by omega) (fun _ _ e => e) (fun h' t tk kp => ?_) h4
  exact ⟨.str p.shown, H, I.kept (t' := tk) kp, ⟨t, rfl⟩, k _ _ _ _ q (.refl _) ra (.str _)⟩
end
end DL

set_option Elab.async false
set_option linter.all false
set_option maxRecDepth 100000
set_option maxHeartbeats 4000000
/-! DL13: one rule for several kinds of things; y = [.. for ..]; tuples of the written part -/
namespace DL
open PySem PySem.Spec PyProof.Rows L2
section
variable {X : Cx} {W : WX} {pos p2 py : Pos}
theorem DSlR.or {r r' : DSl} (h : DSlR X r) (g : DSlR X r') : DSlR X (fun x lo hi A Q => r x lo hi A Q ∨ r' x lo hi A Q) := fun pins s σ H x v vl vu lo hi sl Q I rx hs pl pu ⟨d, A, Q', rd, ra, q, k⟩ => by
  rcases q with q | q
  · exact h pins s σ H x v vl vu lo hi sl Q I rx hs pl pu ⟨d, A, Q', rd, ra, q, k⟩
  · exact g pins s σ H x v vl vu lo hi sl Q I rx hs pl pu ⟨d, A, Q', rd, ra, q, k⟩
def rSlU : DSl := fun x lo hi A Q => rSlL x lo hi A Q ∨ rSlT x lo hi A Q ∨ rSlS x lo hi A Q
theorem dslU : DSlR X rSlU := DSlR.or dsl_list (DSlR.or dsl_tup dsl_str)
theorem DCallR.or {f : Value} {r r' : DRs} (h : DCallR X f r) (g : DCallR X f r') : DCallR X f (fun ds A Q => r ds A Q ∨ r' ds A Q) := fun pins s σ H xs us Q I rx ⟨d, A, Q', rd, ra, q, k⟩ => by
  rcases q with q | q
  · exact h pins s σ H xs us Q I rx ⟨d, A, Q', rd, ra, q, k⟩
  · exact g pins s σ H xs us Q I rx ⟨d, A, Q', rd, ra, q, k⟩
def rSortedU (w : World) : DRs := fun ds A Q => rSorted ds A Q ∨ rSortedI w ds A Q ∨ rSortedN w ds A Q
theorem dc_sortedU (hc : X.calm = true) (hu : X.A.units + 64 < cLine) : DCallR X (.builtin "sorted") (rSortedU X.w) := DCallR.or (dc_sorted hu) (DCallR.or (dc_sortedI hc) (dc_sortedN hc hu))
def rMaxU : DRs := fun ds A Q => rMaxI ds A Q ∨ rMax2 ds A Q
theorem dc_maxU (hc : X.calm = true) : DCallR X (.builtin "max") rMaxU := DCallR.or (dc_max hc) (dc_max2 hc)
def rMinU : DRs := fun ds A Q => rMinI ds A Q ∨ rMin2 ds A Q
theorem dc_minU (hc : X.calm = true) : DCallR X (.builtin "min") rMinU := DCallR.or (dc_min hc) (dc_min2 hc)
def rInW (w : World) (neg : Bool) : DR2 := fun x y A Q => rInU neg x y A Q ∨ rSIn' w (if neg then not else id) x y A Q
theorem do_inW (hu : X.A.units + 1 < cLine) : DOpR X (compareOp .In) (rInW X.w false) := DOpR.or (do_inU hu) do_sin
theorem do_notinW (hu : X.A.units + 1 < cLine) : DOpR X (compareOp .NotIn) (rInW X.w true) := DOpR.or (do_notinU hu) do_snotin
/-- a tuple of the written part -/
theorem d_globT {x : Str} {t : Addr} {ds : List D} (hT : ∀ H, Rep X.K H (.tup ds) (.ref t)) (hm : X.mg x = some (.ref t)) (hg : Gl X x := by rfl) (hd : (x == ("__debug__" : Str)) = false := by decide) : DPE X (.Name x pos) (qC (.tup ds)) :=
  (pe_glob (v := .ref t) hg hm rfl hd).imp fun _ _ _ h => low_c hT h
/-- -e -/
def qNeg (te : DE) : DE := fun τ A Q => te τ A fun d A1 => match d with
  | .int i => Q (.int (-i)) A1
  | _ => False
theorem d_neg {e : Expr} {te : DE} (h : DPE X e te) : DPE X (.UnaryOp .USub e pos) (qNeg te) := (pe_un un_neg h).imp fun σ H Q ⟨τ, A, Q', x, q, k⟩ => ⟨τ, A, _, x, q, fun d A1 v H1 q1 s1 r1 rd => by
  cases rd <;> first
    | exact q1.elim
    | exact ⟨_, rfl, k _ _ _ _ q1 s1 r1 (.int _)⟩⟩
/-- y = [e for g in xs], y a local name that no inner block reads -/
theorem ds_setLc (i : Nat) {y : Str} {elt tg iter : Expr} {ifs : List Expr} {scope : Scope} {spos : Pos} (own : List (Str × Nat)) {wi : DI} {g : Tg} {tt : DT} {te : DE} (hc : X.calm = true) (hN : X.N.Nodup) (hsw : swapsWith (.ListComp elt [⟨tg, iter, ifs, 0⟩] scope pos) (some (.Name y py)) spos.line X.env = pure true)
    (hi : DPI X tg iter wi) (ok : BlkOk X.N X.env.scope scope own)
    (hg : ∀ (s : Shared) (H : Hp) (C : Addr) (cl : List (Str × Addr)) (fp : List Addr), DPG (X.blk s H scope (compEnvC scope cl C X.env) fp) tg g) (ht : ∀ (s : Shared) (H : Hp) (C : Addr) (cl : List (Str × Addr)) (fp : List Addr), DPTs (X.blk s H scope (compEnvC scope cl C X.env) fp) ifs tt)
    (he : ∀ (s : Shared) (H : Hp) (C : Addr) (cl : List (Str × Addr)) (fp : List Addr), DPE (X.blk s H scope (compEnvC scope cl C X.env) fp) elt te) (hy : X.N[i]? = some y := by rfl) (hyl : X.env.scope.names.lookup y = some .local := by rfl) (hsl : ∀ i ∈ g.slots, i ∈ own.map (·.2) := by decide) (hs : ∀ x, foldedSetIterable iter X.env x = pure x := by intro _; rfl) :
    DPS X W (.Assign [.Name y py] (.ListComp elt [⟨tg, iter, ifs, 0⟩] scope pos) spos) (qSet i (qLc wi g tt te (own.map (·.2)))) := by
  refine (ps_setLc (wi := lowI X.K wi) (g := g.h X.K) (tt := lowT X.K tt) (te := low X.K te) hc hN hy hyl hsw hi ok (fun s H C cl fp => (hg s H C cl fp).pg) (fun s H C cl fp => (ht s H C cl fp).p) he hs).imp fun E σ H ⟨τ, A, E', x, q, k⟩ => ?_
  exact low_lc hsl ⟨τ, A, _, x, q, fun d A1 v H1 q1 s1 r1 rd => k.nx _ _ _ _ q1 s1 r1 ((x.s.step s1).set rd)⟩
end
end DL

set_option Elab.async false
set_option linter.all false
set_option maxRecDepth 100000
set_option maxHeartbeats 4000000
/-! DL14: what stands in the store, by a list; readings' steps -/
namespace DL
open PySem PySem.Spec PyProof.Rows L2
/-- these things stand, each at an address of its own -/
structure Holds (A : DA) (L : List (Addr × MO)) : Prop where
  all : ∀ q ∈ L, A q.1 = some q.2
  nd : (L.map (·.1)).Nodup
section
variable {A A' : DA} {L L' : List (Addr × MO)} {p : Addr} {o u : MO}
theorem Holds.get (h : Holds A L) (i : Nat) (e : L[i]? = some (p, o) := by rfl) : A p = some o := h.all _ (List.mem_of_getElem? e)
theorem Holds.new (h : Holds A L) (n : New A p o A') : Holds A' ((p, o) :: L) := by
  refine ⟨fun q hq => ?_, ?_⟩
  · rcases List.mem_cons.mp hq with rfl | hq
    · exact n.get
    · exact n.ext (h.all q hq)
  · rw [List.map_cons, List.nodup_cons]
    refine ⟨fun hm => ?_, h.nd⟩
    obtain ⟨q, hq, e⟩ := List.mem_map.mp hm
    have := h.all q hq
    rw [e, n.free] at this
    cases this
theorem Holds.put (h : Holds A L) (i : Nat) (n : Put A p o A') (e : L[i]? = some (p, u) := by rfl) : Holds A' (L.set i (p, o)) := by
  have hi := (List.getElem?_eq_some_iff.mp e).1
  have ei := (List.getElem?_eq_some_iff.mp e).2
  refine ⟨fun q hq => ?_, ?_⟩
  · obtain ⟨j, hj⟩ := List.getElem?_of_mem hq
    by_cases e2 : i = j
    · subst e2
      rw [List.getElem?_set_self hi] at hj
      cases hj
      exact n.get
    · rw [List.getElem?_set_ne e2] at hj
      refine n.ext (fun z => ?_) (h.all q (List.mem_of_getElem? hj))
      have hj2 := (List.getElem?_eq_some_iff.mp hj)
      have h1 : (L.map (·.1))[i]? = some p := by rw [List.getElem?_map, e]; rfl
      have h2 : (L.map (·.1))[j]? = some p := by rw [List.getElem?_map, hj]; exact congrArg some z
      exact e2 ((List.getElem?_inj (by rw [List.length_map]; exact hi) h.nd).mp (h1.trans h2.symm))
  · have : (L.set i (p, o)).map (·.1) = L.map (·.1) := by
      rw [List.map_set]
      apply List.ext_getElem?
      intro j
      by_cases e2 : i = j
      · subst e2
        rw [List.getElem?_set_self (by rw [List.length_map]; exact hi), List.getElem?_map, e]; rfl
      · rw [List.getElem?_set_ne e2]
    rw [this]; exact h.nd
theorem Holds.ext (h : Holds A L) (e : Ext A A') : Holds A' L := ⟨fun q hq => e _ _ (h.all q hq), h.nd⟩
theorem Holds.sub (h : Holds A L) (s : L'.Sublist L) : Holds A L' := ⟨fun q hq => h.all q (s.subset hq), h.nd.sublist (s.map _)⟩
theorem Holds.perm (h : Holds A L) (s : L'.Perm L) : Holds A L' := ⟨fun q hq => h.all q (s.mem_iff.mp hq), (s.map _).nodup_iff.mpr h.nd⟩
theorem Holds.drop (h : Holds A L) (n : Nat) : Holds A (L.drop n) := h.sub (List.drop_sublist _ _)
theorem Holds.tl (h : Holds A ((p, o) :: L)) : Holds A L := h.sub (List.sublist_cons_self _ _)
theorem Holds.nil (A : DA) : Holds A [] := ⟨fun q hq => (nomatch hq), List.nodup_nil⟩
theorem Holds.ne (h : Holds A L) {q : Addr} (i j : Nat) (e1 : L[i]? = some (p, o) := by rfl) (e2 : L[j]? = some (q, u) := by rfl) (hij : i ≠ j := by decide) : p ≠ q := fun z => by
  have hi := (List.getElem?_eq_some_iff.mp e1).1
  have h1 : (L.map (·.1))[i]? = some p := by rw [List.getElem?_map, e1]; rfl
  have h2 : (L.map (·.1))[j]? = some p := by rw [List.getElem?_map, e2]; exact congrArg some z.symm
  exact hij ((List.getElem?_inj (by rw [List.length_map]; exact hi) h.nd).mp (h1.trans h2.symm))
end
section
variable {A : DA} {Q : DK} {a : Addr}
theorem x_ix_dk {kvs : List (D × D)} {y v : D} (h : A a = some (.dk kvs)) (hv : valD kvs y = some v) (hk : (keyD y).isSome = true) (q : Q v A) : rIxU (.ref a) y A Q := .inr (.inr ⟨a, kvs, v, rfl, h, hk, hv, q⟩)
theorem x_ix_tup {xs : List D} {i : Int} {v : D} (hv : atI xs i = some v) (q : Q v A) : rIxU (.tup xs) (.int i) A Q := .inl ⟨xs, i, v, rfl, rfl, hv, q⟩
theorem x_ix_lst {xs : List D} {i : Int} {v : D} (h : A a = some (.lst xs)) (hv : atI xs i = some v) (q : Q v A) : rIxU (.ref a) (.int i) A Q := .inl ⟨xs, i, v, items_lst h, rfl, hv, q⟩
theorem x_ix_str {z : Str} {i : Int} {c : Nat} (hz : z.length ≤ sizeLine) (hv : atI z.cps.toList i = some c) (q : Q (.str ⟨#[c]⟩) A) : rIxU (.str z) (.int i) A Q := .inr (.inl ⟨z, i, c, rfl, rfl, hz, hv, q⟩)
theorem x_len_lst {xs : List D} (h : A a = some (.lst xs)) (q : Q (.int xs.length) A) : rLen [.ref a] A Q := ⟨_, xs, rfl, items_lst h, q⟩
theorem x_len_fl {xs : List D} (h : A a = some (.fl xs)) (q : Q (.int xs.length) A) : rLen [.ref a] A Q := ⟨_, xs, rfl, items_fl h, q⟩
theorem x_len_tup {xs : List D} (q : Q (.int xs.length) A) : rLen [.tup xs] A Q := ⟨_, xs, rfl, rfl, q⟩
theorem x_put_dk {kvs : List (D × D)} {y v : D} {R : DA → Prop} (h : A a = some (.dk kvs)) (hk : (keyD y).isSome = true) (hl : kvs.length < sizeLine) (q : ∀ A', Put A a (.dk (putD kvs y v)) A' → R A') : rSetU (.ref a) y v A R := .inr ⟨a, kvs, rfl, h, hk, hl, q⟩
theorem x_put_lst {xs : List D} {k : Int} {v : D} {R : DA → Prop} (j : Nat) (h : A a = some (.lst xs)) (hj : ixN xs.length k = some j) (q : ∀ A', Put A a (.lst (xs.set j v)) A' → R A') : rSetU (.ref a) (.int k) v A R := .inl ⟨a, xs, k, j, rfl, rfl, h, hj, q⟩
theorem x_mt {r : DRM} {τ : DSt} {t : DAs} {xs : List D} (h : A a = some (.lst xs)) (q : t τ A fun ds A2 => r a ds A2 Q) : (fun x A1 => ∃ l xs, x = D.ref l ∧ A1 l = some (.lst xs) ∧ t τ A1 fun ds A2 => r l ds A2 Q) (.ref a) A := ⟨a, xs, rfl, h, q⟩
end
/-! ### the deck of the laws -/
def deckMO (g : Addr) (r s : Int) : MO := .dk [(.str "great", .ref g), (.str "rest", .int r), (.str "seed", .int s)]
/-- a deck at dk, and these things beside it -/
def HD (A : DA) (dk : Addr) (L : List (Addr × MO)) : Prop := ∃ g r s, ∃ cells : List Int, Holds A ((dk, deckMO g r s) :: (g, .lst (cells.map D.int)) :: L)
def spDraw : DSp := fun ds A Q => ∃ dk many L, ds = [.ref dk, .int many] ∧ 0 < many ∧ many < 1000000 ∧ HD A dk L ∧ ∀ r A', 0 ≤ r → r < many → HD A' dk L → Q (.int r) A'
end DL
namespace DL
open PySem PySem.Spec PyProof.Rows L2
theorem x_if {c : Bool} {P R : Prop} (h1 : c = true → P) (h2 : c = false → R) : if c = true then P else R := by
  cases c with
  | true => rw [if_pos rfl]; exact h1 rfl
  | false => rw [if_neg (by decide)]; exact h2 rfl
theorem x_ifd {c : Prop} [Decidable c] {P R : Prop} (h1 : c → P) (h2 : ¬ c → R) : if decide c = true then P else R := x_if (fun z => h1 (of_decide_eq_true z)) fun z => h2 (of_decide_eq_false z)
end DL

set_option Elab.async false
set_option linter.all false
set_option maxRecDepth 100000
set_option maxHeartbeats 4000000
/-! DL15: the head: a law's def that keeps its promise over data -/
namespace DL
open PySem PySem.Spec PyProof.Rows L2
/-- the script, nothing else -/
structure Script (A : DA) (x : D) (ns : List Int) : Prop where
  items : items? A x = some (ns.map D.int)
  isL : DL.isL x = true
  alone : ∀ b o, A b = some o → x = .ref b
theorem dlaw_call {P : Program} {w : World} {K : PySem.W.Frag} {mg mb : Str → Option Value} {k : Nat} {fa a : Addr} {fd : FuncData} {x : Str} {sp : DSp} {s₁ : Shared} {vs : List Value} {ns : List Int}
    (KX : K.In s₁.heap) (hns : s₁.heap.Ns mainGlobals mg) (hb : s₁.heap.Ns builtinsNs mb) (hbb : ∀ x : Str, x ≠ "__name__" → mb x = bootBuiltins x) (hlim : s₁.heap.NoLimit) (hg : s₁.gens = #[])
    (ha : s₁.heap.get? a = some { cls := .type "list", data := .seq vs.toArray }) (hi : IntsAre vs ns) (hl : ns.length ≤ sizeLine) (hr : RoomG k callerA)
    (F : ∀ base : Heap, K.In base → base.Ns mainGlobals mg → DFn P w K mg base k fa fd [x] sp) (hbind : ∀ (s : Shared) (u : Value), BindsTo s fd ⟨[u], []⟩ [(x, u)])
    (hsp : ∀ x A, Script A x ns → sp [x] A fun v _ => v = .bl true) :
    codeAny (model P w) callerA (.call (.ref fa) ⟨[.ref a], []⟩) (fun r s' => r = .ok (.ret (.bool true)) ∧ OldK s₁.heap s'.heap ∧ s'.os = s₁.os ∧ AllBare s'.gens) s₁ := by
  have rv := vals_ints hi
  have lenV := hi.length
  have core : ∀ (H : Hp) (d : D) (A : DA), Only H → HOk P w H s₁.heap → (∀ b, H b ≠ none → b = a) → (H a ≠ none → K.lookup a = none) → Rep K H d (.ref a) → RepA K H A → Script A d ns →
      codeAny (model P w) callerA (.call (.ref fa) ⟨[.ref a], []⟩) (fun r s' => r = .ok (.ret (.bool true)) ∧ OldK s₁.heap s'.heap ∧ s'.os = s₁.os ∧ AllBare s'.gens) s₁ := by
    intro H d A hO hok hA hK hRd hRA hScr
    have base_of : ∀ {b : Addr} {o : Obj}, s₁.heap.get? b = some o → H b = none → (hidT s₁.heap H).get? b = some o := fun e n => hidT_get e n
    have noA : ∀ {b : Addr} {o : Obj} {es : Array DictEntry} {ep : Nat}, s₁.heap.get? b = some o → o.data = .dict es ep → H b = none := fun {b o es ep} e d => by
      cases q : H b with
      | none => rfl
      | some u =>
        have e' : b = a := hA b (by rw [q]; simp)
        subst e'
        rw [ha] at e; cases e
        cases (show Data.seq vs.toArray _ = Data.dict es ep from d)
    have nsK : ∀ {b : Addr} {m : Str → Option Value}, s₁.heap.Ns b m → (hidT s₁.heap H).Ns b m := fun {b m} ⟨o, es, ep, e, d, r⟩ => ⟨o, es, ep, base_of e (noA e d), d, r⟩
    have hKb : K.In (hidT s₁.heap H) := fun b o e => base_of (KX b o e) (by
      cases q : H b with
      | none => rfl
      | some u =>
        have e' : b = a := hA b (by rw [q]; simp)
        subst e'
        rw [hK (by rw [q]; simp)] at e; cases e)
    have hM : Mod K mg (hidT s₁.heap H) := ⟨hKb, nsK hns, ⟨mb, nsK hb, hbb⟩, let ⟨mc, h1, h2⟩ := hlim; ⟨mc, nsK h1, h2⟩⟩
    have e0 : Env0 P w K mg (hidT s₁.heap H) callerA [] s₁ H := ⟨rfl, hM, fun b o e => of_hidT e, Nat.le_of_eq (hidT_size _ _), trivial, fun b hb => absurd (show b ∈ ([] : List Addr) from hb) (by simp), hok, .of_eq hg⟩
    have hlow : lowSp K (fun ds A Q _ => sp ds A Q) [V.ref a] H (fun v _ => v = .bl true) (fun _ _ _ => False) := by
      refine ⟨[d], A, fun v _ => v = .bl true, fun _ _ => False, .cons hRd .nil, hRA, hsp _ _ hScr, fun d A v H' q _ _ rd => ?_, fun _ _ _ z _ _ => z⟩
      subst q; cases rd; rfl
    refine codeAny_mono ((F _ hKb (nsK hns)).run callerA [] s₁ H ⟨[.ref a], []⟩ [.ref a] [.ref a] _ _ rfl hr e0 (hbind s₁ (.ref a)) (.cons rfl .nil) hlow) fun r s' h => ?_
    cases r with
    | error e => exact (no_cx h).elim
    | ok fl =>
      cases fl with
      | next => exact False.elim h
      | brk => exact False.elim h
      | cont => exact False.elim h
      | ret u =>
        obtain ⟨v, H', os, bare, un, hok', r', q⟩ := h
        have q' : v = .bl true := q
        subst q'
        obtain rfl : u = Value.bool true := r'
        refine ⟨rfl, OldK.of_keep fun b o e => ?_, os, bare⟩
        cases q : H b with
        | none => exact un.keep b o e q (by intro z; exact absurd (show b ∈ ([] : List Addr) from z) (by simp)) (by simp)
        | some u =>
          rcases hO b with z | ⟨ob, xs, z⟩
          · rw [q] at z; cases z
          · obtain ⟨e1, _⟩ := hok b _ z
            obtain ⟨e2, _⟩ := hok' b _ (un.frzs b ob _ z)
            rw [e] at e1; cases e1
            exact e2
  cases hk : K.lookup a with
  | some o =>
    have e := KX a o hk
    rw [ha] at e
    cases e
    refine core (fun _ => none) (.kl (ns.map D.int)) (fun _ => none) (fun _ => .inl rfl) (fun b u z => by cases (show (none : Option HO) = some u from z)) (fun b z => absurd rfl z) (fun z => absurd rfl z)
      (.kl (vs := ns.map V.int) (fun H' => .inr ⟨_, vs.toArray, _, hk, rfl, rfl, rfl, by rw [List.size_toArray, lenV]; exact hl, by simpa using rv⟩) Reps.ints) (fun b o z => nomatch (show (none : Option MO) = some o from z)) ⟨rfl, rfl, fun b o z => nomatch (show (none : Option MO) = some o from z)⟩
  | none =>
    refine core (fun b => if b = a then some (HO.frz { cls := .type "list", data := .seq vs.toArray } (.lst (ns.map V.int))) else none) (.ref a) (fun b => if b = a then some (.fl (ns.map D.int)) else none) (fun b => ?_) (fun b u z => ?_) (fun b z => ?_) (fun _ => hk) (.ref a) (fun b o z => ?_) ⟨items_fl (if_pos rfl), rfl, fun b o z => ?_⟩
    · by_cases hb : b = a
      · exact .inr ⟨_, _, if_pos hb⟩
      · exact .inl (if_neg hb)
    · by_cases hb : b = a
      · have z' := (if_pos hb).symm.trans z
        cases z'
        subst hb
        exact ⟨ha, by rw [List.length_map]; exact hl, vs, _, rv, ha⟩
      · have z' := (if_neg hb).symm.trans z
        cases z'
    · by_cases hb : b = a
      · exact hb
      · exact absurd (if_neg hb) z
    · by_cases hb : b = a
      · have z' := (if_pos hb).symm.trans z
        cases z'
        subst hb
        exact ⟨ns.map V.int, .inr ⟨_, if_pos rfl⟩, Reps.ints⟩
      · have z' := (if_neg hb).symm.trans z
        cases z'
    · by_cases hb : b = a
      · rw [hb]
      · have z' := (if_neg hb).symm.trans z
        cases z'
/-- the goal that the head leaves -/
theorem dwalk {l : PySem.W.OpenLaw} {n k : Nat} {q : Program} {loose : List Str} {XP : (Str → Option Value) → Heap → Prop} {YP : World → Heap → Prop} {d : DefRec} {x : Str}
    (hn : l.most = some n) (hn2 : n ≤ sizeLine) (hdf : d.params.defaults = []) (hr : RoomG k callerA)
    (F : ∀ (w : World) (mg : Str → Option Value) (fa : Addr) (h : Heap), YP w h → h.Ns mainGlobals mg → mg d.name = some (.ref fa) →
      ∃ (K : PySem.W.Frag) (fd : FuncData) (sp : DSp), K.In h ∧ (∀ (s : Shared) (u : Value), BindsTo s fd ⟨[u], []⟩ [(x, u)]) ∧
        (∀ (y : D) (A : DA) (ns : List Int), ns.length ≤ n → Script A y ns → sp [y] A fun v _ => v = .bl true) ∧
        ∀ base : Heap, K.In base → base.Ns mainGlobals mg → DFn l.prog w K mg base k fa fd [x] sp) :
    PySem.W.WalkO q loose XP YP l.row.toRowW d [] (fun f vs => PySem.call f vs) := by
  refine Att.attach_call hn hdf fun w s₀ s₁ mg mb fa o pm cd doc a vs ns G Y ho hd hcd hmg hobj hints hlen hg => ?_
  obtain ⟨K, fd, sp, KX, hb, hsp, hF⟩ := F w mg fa _ Y G.T.g hmg
  exact dlaw_call KX G.T.g G.T.b G.T.builtins G.T.nolimit hg hobj hints (Nat.le_trans hlen hn2) hr hF hb fun y A hS => hsp y A ns hlen hS
end DL

set_option Elab.async false
set_option linter.all false
set_option maxRecDepth 100000
set_option maxHeartbeats 4000000
/-! DL16: facts of the written part, as one Bool each; the Hook that tells them -/
namespace DL
open PySem PySem.Spec PyProof.Rows L2
def flatOk : D → Bool
  | .non => true
  | .bl _ => true
  | .int _ => true
  | .str _ => true
  | _ => false
def flatTo : D → V
  | .bl b => .bl b
  | .int i => .int i
  | .str x => .str x
  | _ => .non
theorem reps_flat {K : PySem.W.Frag} {H : Hp} : ∀ {ds : List D}, ds.all flatOk = true → Reps K H ds (ds.map flatTo)
  | [], _ => .nil
  | d :: ds, h => by
    rw [List.all_cons, Bool.and_eq_true] at h
    refine .cons ?_ (reps_flat h.2)
    cases d <;> first
      | exact .non
      | exact .bl _
      | exact .int _
      | exact .str _
      | cases h.1
/-- the tuple at a, its items flat -/
def tupD (K : PySem.W.Frag) (a : Addr) (ds : List D) : Bool := ds.all flatOk && (match K.lookup a with
  | some ⟨.type c, _, .seq its _, _⟩ => decide (c = "tuple") && (decide (its.size ≤ sizeLine) && He.relAll (ds.map flatTo) its.toList)
  | _ => false)
theorem tupD_ok {K : PySem.W.Frag} {a : Addr} {ds : List D} (h : tupD K a ds = true) (H : Hp) : Rep K H (.tup ds) (.ref a) := by
  obtain ⟨h1, h2⟩ := He.ba h
  refine .tup ?_ (reps_flat h1)
  cases q : K.lookup a with
  | none => rw [q] at h2; cases h2
  | some o =>
    obtain ⟨oc, od, dt, osl⟩ := o
    rw [q] at h2
    cases oc with
    | type c =>
      cases dt with
      | seq its n =>
        obtain ⟨e1, e2⟩ := He.ba (show (decide (c = "tuple") && (decide (its.size ≤ sizeLine) && He.relAll (ds.map flatTo) its.toList)) = true from h2)
        obtain ⟨e3, e4⟩ := He.ba e2
        exact .inr ⟨_, its, n, q, congrArg Value.type (of_decide_eq_true e1), rfl, of_decide_eq_true e3, He.relAll_ok e4⟩
      | _ => cases h2
    | _ => cases dt <;> cases h2
def excB (K : PySem.W.Frag) (C : Addr) : Bool := He.eqO (PySem.W.findIn K (.ref C) "__getattribute__") (some (some (.builtin "BaseException.__getattribute__"))) && (He.eqO (PySem.W.findIn K (.ref C) "__getattr__") (some none) &&
  (decide (PySem.W.subIn K (.ref C) (.type "BaseException") = some true) && (PySem.W.hasDictIn K C && (He.eqO (PySem.W.findIn K (.ref C) "__class__") (some (some (.builtin "object.__class__"))) &&
  (decide (PySem.W.specialIn K (.builtin "object.__class__") "__get__" = some (some (.builtin "getset_descriptor.__get__"))) && (decide (PySem.W.takesIn K (.builtin "object.__class__") = some true) && decide (PySem.W.mroIn K C (.type "object") = some true)))))))
theorem excB_ok {K : PySem.W.Frag} {C : Addr} (h : excB K C = true) : ExcC K C := by
  obtain ⟨h1, h⟩ := He.ba h
  obtain ⟨h2, h⟩ := He.ba h
  obtain ⟨h3, h⟩ := He.ba h
  obtain ⟨h4, h⟩ := He.ba h
  obtain ⟨h5, h⟩ := He.ba h
  obtain ⟨h6, h⟩ := He.ba h
  obtain ⟨h7, h8⟩ := He.ba h
  exact ⟨He.eqO_ok h1, He.eqO_ok h2, of_decide_eq_true h3, h4, He.eqO_ok h5, of_decide_eq_true h6, of_decide_eq_true h7, of_decide_eq_true h8⟩
/-- isinstance, by the classes -/
def kitB (K : PySem.W.Frag) (l : List (Value × Value × Bool)) : Bool := l.all fun p => decide (PySem.W.kitOne K p.1 p.2.1 = some p.2.2)
theorem kitB_ok {K : PySem.W.Frag} {l : List (Value × Value × Bool)} (h : kitB K l = true) (i : Nat) {t c : Value} {b : Bool} (e : l[i]? = some (t, c, b)) : PySem.W.kitOne K t c = some b :=
  of_decide_eq_true (List.all_eq_true.mp h _ (List.mem_of_getElem? e))
/-! ### the Hook -/
def hookB (n : Nat) (fa : List He.Fa) (fn : List He.DefD) (B : PySem.W.Frag → Bool) : PySem.W.Hook where
  α := Bool × He.AlD
  obs := fun s => (B (He.frG s.heap.get? (He.asD s.heap.get? n)), He.obsDG n fa fn s.heap.get?)
  val := fun _ => (true, He.valD fn)
  says := fun _ h => ∃ K : PySem.W.Frag, K.In h ∧ He.SaysD fa fn K ∧ B K = true
  of := fun _ _ e => ⟨_, He.frG_in, congrArg (fun z : Bool × He.AlD => z.2) e, congrArg (fun z : Bool × He.AlD => z.1) e⟩
  keeps := fun _ _ _ ⟨K, hK, c⟩ k => ⟨K, PySem.W.Frag.In.keeps hK k, c⟩
def obB (n : Nat) (fa : List He.Fa) (fn : List He.DefD) (B : PySem.W.Frag → Bool) (g : Addr → Option Obj) : Bool × He.AlD := (B (He.frG g (He.asD g n)), He.obsDG n fa fn g)
theorem obB_eq {n : Nat} {fa : List He.Fa} {fn : List He.DefD} {B : PySem.W.Frag → Bool} {g : Addr → Option Obj} {s : Shared} (h : ∀ a, g a = s.heap.get? a) : obB n fa fn B g = (hookB n fa fn B).obs s := by
  have e : g = s.heap.get? := funext h
  rw [e]; rfl
end DL

set_option Elab.async false
set_option linter.all false
set_option maxRecDepth 100000
set_option maxHeartbeats 4000000
/-! DL17: loops and comprehensions by their invariants -/
namespace DL
open PySem PySem.Spec PyProof.Rows L2
def ForB (J : DIt) (g : Tg) (tb : DS) (E : DEnds) (τ : DSt) (A1 : DA) : Prop := ∃ W : Nat → Nat → DSt → DA → Prop, (∃ m, W 0 m τ A1) ∧ ∀ i m τ A, W i m τ A →
  (J i A none ∧ E.nx τ A) ∨ ∃ d, J i A (some d) ∧ ∃ N : DSt → DA → Prop, (∀ τ' A', N τ' A' → ∃ m', m' < m ∧ W (i + 1) m' τ' A') ∧ qTg g d τ A fun τ2 A2 => tb { E with nx := N, ct := N, bk := E.nx } τ2 A2
section
variable {g : Tg} {tb : DS} {E : DEnds} {τ : DSt} {A : DA}
/-- n items in order; each turn gives the invariant of the next -/
theorem forB_n {J : DIt} (n : Nat) (it : Nat → D) (Inv : Nat → DSt → DA → Prop) (h0 : Inv 0 τ A) (hJ : ∀ i τ A, i ≤ n → Inv i τ A → J i A (if i < n then some (it i) else none)) (hend : ∀ τ A, Inv n τ A → E.nx τ A)
    (hstep : ∀ i τ A, i < n → Inv i τ A → qTg g (it i) τ A fun τ2 A2 => tb { E with nx := Inv (i + 1), ct := Inv (i + 1), bk := E.nx } τ2 A2) : ForB J g tb E τ A := by
  refine ⟨fun i m τ A => Inv i τ A ∧ i ≤ n ∧ m = n - i, ⟨n, h0, Nat.zero_le _, rfl⟩, ?_⟩
  rintro i m τ A ⟨hi, hle, rfl⟩
  have j := hJ i τ A hle hi
  by_cases h : i < n
  · rw [if_pos h] at j
    exact .inr ⟨it i, j, Inv (i + 1), fun τ' A' q => ⟨n - (i + 1), by omega, q, h, rfl⟩, hstep i τ A h hi⟩
  · rw [if_neg h] at j
    have e : i = n := by omega
    subst e
    exact .inl ⟨j, hend τ A hi⟩
theorem forB_seq {x : D} (xs : List D) (Inv : Nat → DSt → DA → Prop) (h0 : Inv 0 τ A) (hit : ∀ i τ A, Inv i τ A → items? A x = some xs) (hend : ∀ τ A, Inv xs.length τ A → E.nx τ A)
    (hstep : ∀ i d τ A, xs[i]? = some d → Inv i τ A → qTg g d τ A fun τ2 A2 => tb { E with nx := Inv (i + 1), ct := Inv (i + 1), bk := E.nx } τ2 A2) : ForB (jSeq x) g tb E τ A := by
  refine forB_n xs.length (fun i => xs.getD i .non) Inv h0 (fun i τ A hi q => ⟨xs, hit i τ A q, ?_⟩) hend fun i τ A hi q => hstep i _ τ A ?_ q
  · by_cases h : i < xs.length
    · rw [if_pos h, List.getD_eq_getElem?_getD, List.getElem?_eq_getElem h]; rfl
    · rw [if_neg h, List.getElem?_eq_none (by omega)]
  · rw [List.getD_eq_getElem?_getD, List.getElem?_eq_getElem hi]; rfl
theorem forB_range {lo : Int} {n : Nat} (Inv : Nat → DSt → DA → Prop) (h0 : Inv 0 τ A) (hend : ∀ τ A, Inv n τ A → E.nx τ A)
    (hstep : ∀ i τ A, i < n → Inv i τ A → qTg g (.int (lo + i)) τ A fun τ2 A2 => tb { E with nx := Inv (i + 1), ct := Inv (i + 1), bk := E.nx } τ2 A2) : ForB (jRange lo n) g tb E τ A :=
  forB_n n (fun i => .int (lo + i)) Inv h0 (fun _ _ _ _ _ => rfl) hend hstep
theorem forB_enum {a : Addr} (xs : List D) (Inv : Nat → DSt → DA → Prop) (h0 : Inv 0 τ A) (hit : ∀ i τ A, Inv i τ A → items? A (.ref a) = some xs) (hend : ∀ τ A, Inv xs.length τ A → E.nx τ A)
    (hstep : ∀ i d τ A, xs[i]? = some d → Inv i τ A → qTg g (.tup [.int (i : Nat), d]) τ A fun τ2 A2 => tb { E with nx := Inv (i + 1), ct := Inv (i + 1), bk := E.nx } τ2 A2) : ForB (jEnum a) g tb E τ A := by
  refine forB_n xs.length (fun i => .tup [.int (i : Nat), xs.getD i .non]) Inv h0 (fun i τ A hi q => ⟨xs, hit i τ A q, ?_⟩) hend fun i τ A hi q => hstep i _ τ A ?_ q
  · by_cases h : i < xs.length
    · rw [if_pos h, List.getD_eq_getElem?_getD, List.getElem?_eq_getElem h]; rfl
    · rw [if_neg h, List.getElem?_eq_none (by omega)]; rfl
  · rw [List.getD_eq_getElem?_getD, List.getElem?_eq_getElem hi]; rfl
end
/-! ### comprehensions -/
def LcB (J : DIt) (g : Tg) (tt : DT) (te : DE) (vs : List Nat) (τ : DSt) (A1 : DA) (Q : DK) : Prop := ∀ C A2, New A1 C (.lst []) A2 → ∃ W : Nat → Nat → DA → Prop, (∃ m, W 0 m A2) ∧ ∀ i m A, W i m A →
  (J i A none ∧ Q (.ref C) A) ∨ ∃ d, J i A (some d) ∧ ∃ Nx : DA → Prop, (∀ A', Nx A' → ∃ m', m' < m ∧ W (i + 1) m' A') ∧ qTg g d (wipeD τ vs) A fun τ2 A2 => tt τ2 A2 fun b A3 =>
    if b = true then te τ2 A3 fun y A4 => ∃ acc, A4 C = some (.lst acc) ∧ acc.length < sizeLine ∧ ∀ A5, Put A4 C (.lst (acc ++ [y])) A5 → Nx A5 else Nx A3
section
variable {g : Tg} {tt : DT} {te : DE} {vs : List Nat} {τ : DSt} {A1 : DA} {Q : DK}
/-- n items; the store may change on the way -/
theorem lcB_n {J : DIt} (n : Nat) (it : Nat → D) (Inv : Addr → Nat → DA → Prop) (h0 : ∀ C A2, New A1 C (.lst []) A2 → Inv C 0 A2) (hJ : ∀ C i A, i ≤ n → Inv C i A → J i A (if i < n then some (it i) else none)) (hend : ∀ C A, Inv C n A → Q (.ref C) A)
    (hstep : ∀ C i A, i < n → Inv C i A → qTg g (it i) (wipeD τ vs) A fun τ2 A2 => tt τ2 A2 fun b A3 =>
      if b = true then te τ2 A3 fun y A4 => ∃ acc, A4 C = some (.lst acc) ∧ acc.length < sizeLine ∧ ∀ A5, Put A4 C (.lst (acc ++ [y])) A5 → Inv C (i + 1) A5 else Inv C (i + 1) A3) : LcB J g tt te vs τ A1 Q := by
  intro C A2 hn
  refine ⟨fun i m A => Inv C i A ∧ i ≤ n ∧ m = n - i, ⟨n, h0 C A2 hn, Nat.zero_le _, rfl⟩, ?_⟩
  rintro i m A ⟨hi, hle, rfl⟩
  have j := hJ C i A hle hi
  by_cases h : i < n
  · rw [if_pos h] at j
    exact .inr ⟨it i, j, Inv C (i + 1), fun A' q => ⟨n - (i + 1), by omega, q, h, rfl⟩, hstep C i A h hi⟩
  · rw [if_neg h] at j
    have e : i = n := by omega
    subst e
    exact .inl ⟨j, hend C A hi⟩
/-- A1 with the new list acc at C -/
structure AccAt (A1 : DA) (C : Addr) (acc : List D) (A : DA) : Prop where
  free : A1 C = none
  eq : A = updA A1 C (.lst acc)
theorem AccAt.at_ {C : Addr} {acc : List D} {A : DA} (h : AccAt A1 C acc A) : A C = some (.lst acc) := by rw [h.eq, updA_same]
theorem AccAt.ext {C : Addr} {acc : List D} {A : DA} (h : AccAt A1 C acc A) : Ext A1 A := fun b o e => by
  have : b ≠ C := by rintro rfl; rw [h.free] at e; cases e
  rw [h.eq, updA_ne this]; exact e
theorem AccAt.put {C : Addr} {acc acc' : List D} {A A' : DA} (h : AccAt A1 C acc A) (p : Put A C (.lst acc') A') : AccAt A1 C acc' A' := by
  refine ⟨h.free, ?_⟩
  rw [p.eq, h.eq]
  funext b
  by_cases e : b = C
  · subst e; rw [updA_same, updA_same]
  · rw [updA_ne e, updA_ne e, updA_ne e]
theorem AccAt.new {C : Addr} {acc : List D} {A : DA} (h : AccAt A1 C acc A) : New A1 C (.lst acc) A := ⟨h.free, h.eq⟩
/-- items that change nothing else: r i tells what is kept of the i-th -/
theorem lcB_pure {J : DIt} (n : Nat) (it : Nat → D) (r : Nat → Option D) (hJ : ∀ i A, i ≤ n → Ext A1 A → J i A (if i < n then some (it i) else none)) (hn : n < sizeLine)
    (hend : ∀ p A', New A1 p (.lst ((List.range n).filterMap r)) A' → Q (.ref p) A')
    (hstep : ∀ i A (Ky : D → DA → Prop) (Kn : DA → Prop), i < n → Ext A1 A → (∀ y, r i = some y → Ky y A) → (r i = none → Kn A) → qTg g (it i) (wipeD τ vs) A fun τ2 A2 => tt τ2 A2 fun b A3 => if b = true then te τ2 A3 Ky else Kn A3) : LcB J g tt te vs τ A1 Q := by
  refine lcB_n n it (fun C i A => AccAt A1 C ((List.range i).filterMap r) A) (fun C A2 hn => ⟨hn.free, hn.eq⟩) (fun C i A hi q => hJ i A hi q.ext) (fun C A q => hend C A q.new) fun C i A hi q => ?_
  have hs : (List.range (i + 1)).filterMap r = (List.range i).filterMap r ++ (match r i with | some y => [y] | none => []) := by
    rw [List.range_succ, List.filterMap_append]
    cases e : r i <;> simp [e]
  refine hstep i A _ _ hi q.ext (fun y e => ?_) fun e => ?_
  · refine ⟨_, q.at_, Nat.lt_of_le_of_lt (List.length_filterMap_le _ _) (by rw [List.length_range]; omega), fun A5 p => ?_⟩
    rw [hs, e]
    exact q.put p
  · rw [hs, e, List.append_nil]
    exact q
theorem range_filterMap {α : Type} (xs : List D) (f : D → Option α) : (List.range xs.length).filterMap (fun i => (xs[i]?).bind f) = xs.filterMap f := by
  induction xs with
  | nil => rfl
  | cons x xs ih =>
    rw [List.length_cons, List.range_succ_eq_map, List.filterMap_cons, List.filterMap_map]
    have : (fun i => ((x :: xs)[i]?).bind f) ∘ Nat.succ = fun i => (xs[i]?).bind f := by funext i; rfl
    rw [this, ih]
    rw [List.filterMap_cons]
    show (match f x with | none => _ | some b => _) = _
    cases f x <;> rfl
/-- over a list or tuple, changing nothing -/
theorem lcB_seq {x : D} {xs : List D} (f : D → Option D) (hx : items? A1 x = some xs) (hn : xs.length < sizeLine) (hend : ∀ p A', New A1 p (.lst (xs.filterMap f)) A' → Q (.ref p) A')
    (hstep : ∀ d A (Ky : D → DA → Prop) (Kn : DA → Prop), d ∈ xs → Ext A1 A → (∀ y, f d = some y → Ky y A) → (f d = none → Kn A) → qTg g d (wipeD τ vs) A fun τ2 A2 => tt τ2 A2 fun b A3 => if b = true then te τ2 A3 Ky else Kn A3) : LcB (jSeq x) g tt te vs τ A1 Q := by
  refine lcB_pure xs.length (fun i => xs.getD i .non) (fun i => (xs[i]?).bind f) (fun i A hi e => ⟨xs, items_ext e hx, ?_⟩) hn (fun p A' n => hend p A' (by rw [range_filterMap] at n; exact n)) fun i A Ky Kn hi e k1 k2 => ?_
  · by_cases h : i < xs.length
    · rw [if_pos h, List.getD_eq_getElem?_getD, List.getElem?_eq_getElem h]; rfl
    · rw [if_neg h, List.getElem?_eq_none (by omega)]
  · have e1 : xs[i]? = some (xs.getD i .non) := by rw [List.getD_eq_getElem?_getD, List.getElem?_eq_getElem hi]; rfl
    exact hstep _ A Ky Kn (List.mem_of_getElem? e1) e (fun y q => k1 y (by rw [e1]; exact q)) fun q => k2 (by rw [e1]; exact q)
theorem lcB_map {x : D} {xs : List D} (f : D → D) (hx : items? A1 x = some xs) (hn : xs.length < sizeLine) (hend : ∀ p A', New A1 p (.lst (xs.map f)) A' → Q (.ref p) A')
    (hstep : ∀ d A (Ky : D → DA → Prop), d ∈ xs → Ext A1 A → Ky (f d) A → qTg g d (wipeD τ vs) A fun τ2 A2 => te τ2 A2 Ky) : LcB (jSeq x) g qYes te vs τ A1 Q := by
  refine lcB_seq (fun d => some (f d)) hx hn (fun p A' n => hend p A' ?_) fun d A Ky Kn hd e k1 _ => ?_
  · have : xs.filterMap (fun d => some (f d)) = xs.map f := by rw [← List.filterMap_eq_map]; rfl
    rw [this] at n; exact n
  · have := hstep d A Ky hd e (k1 _ rfl)
    unfold qYes
    unfold qTg at this ⊢
    split at this
    · show if true = true then _ else _
      rw [if_pos rfl]; exact this
    · exact this.elim
end
/-! ### dict comprehensions -/
def DcB (J : DIt) (g : Tg) (tt : DT) (tk tv : DE) (vs : List Nat) (τ : DSt) (A1 : DA) (Q : DK) : Prop := ∀ C A2, New A1 C (.dk []) A2 → ∃ W : Nat → Nat → DA → Prop, (∃ m, W 0 m A2) ∧ ∀ i m A, W i m A →
  (J i A none ∧ Q (.ref C) A) ∨ ∃ d, J i A (some d) ∧ ∃ Nx : DA → Prop, (∀ A', Nx A' → ∃ m', m' < m ∧ W (i + 1) m' A') ∧ qTg g d (wipeD τ vs) A fun τ2 A2 => tt τ2 A2 fun b A3 =>
    if b = true then tk τ2 A3 fun y A4 => tv τ2 A4 fun z A5 => ∃ kvs, A5 C = some (.dk kvs) ∧ (keyD y).isSome = true ∧ kvs.length < sizeLine ∧ ∀ A6, Put A5 C (.dk (putD kvs y z)) A6 → Nx A6 else Nx A3
theorem dcB_n {J : DIt} {g : Tg} {tt : DT} {tk tv : DE} {vs : List Nat} {τ : DSt} {A1 : DA} {Q : DK} (n : Nat) (it : Nat → D) (Inv : Addr → Nat → DA → Prop) (h0 : ∀ C A2, New A1 C (.dk []) A2 → Inv C 0 A2) (hJ : ∀ C i A, i ≤ n → Inv C i A → J i A (if i < n then some (it i) else none)) (hend : ∀ C A, Inv C n A → Q (.ref C) A)
    (hstep : ∀ C i A, i < n → Inv C i A → qTg g (it i) (wipeD τ vs) A fun τ2 A2 => tt τ2 A2 fun b A3 =>
      if b = true then tk τ2 A3 fun y A4 => tv τ2 A4 fun z A5 => ∃ kvs, A5 C = some (.dk kvs) ∧ (keyD y).isSome = true ∧ kvs.length < sizeLine ∧ ∀ A6, Put A5 C (.dk (putD kvs y z)) A6 → Inv C (i + 1) A6 else Inv C (i + 1) A3) : DcB J g tt tk tv vs τ A1 Q := by
  intro C A2 hn
  refine ⟨fun i m A => Inv C i A ∧ i ≤ n ∧ m = n - i, ⟨n, h0 C A2 hn, Nat.zero_le _, rfl⟩, ?_⟩
  rintro i m A ⟨hi, hle, rfl⟩
  have j := hJ C i A hle hi
  by_cases h : i < n
  · rw [if_pos h] at j
    exact .inr ⟨it i, j, Inv C (i + 1), fun A' q => ⟨n - (i + 1), by omega, q, h, rfl⟩, hstep C i A h hi⟩
  · rw [if_neg h] at j
    have e : i = n := by omega
    subst e
    exact .inl ⟨j, hend C A hi⟩
end DL
namespace DL
open PySem PySem.Spec PyProof.Rows L2
theorem qFor_eq {wi : DI} {g : Tg} {tb : DS} {E : DEnds} {τ : DSt} {A : DA} : qFor wi g tb E τ A = wi τ A fun J A1 => ForB J g tb E τ A1 := rfl
theorem qLc_eq {wi : DI} {g : Tg} {tt : DT} {te : DE} {vs : List Nat} {τ : DSt} {A : DA} {Q : DK} : qLc wi g tt te vs τ A Q = wi τ A fun J A1 => LcB J g tt te vs τ A1 Q := rfl
theorem qDc_eq {wi : DI} {g : Tg} {tt : DT} {tk tv : DE} {vs : List Nat} {τ : DSt} {A : DA} {Q : DK} : qDc wi g tt tk tv vs τ A Q = wi τ A fun J A1 => DcB J g tt tk tv vs τ A1 Q := rfl
end DL
namespace DL
open PySem PySem.Spec PyProof.Rows L2
theorem ixN_nat {n k : Nat} (h : k < n) : ixN n (k : Int) = some k := by
  unfold ixN
  rw [if_pos (by omega)]
  first
    | rw [if_pos (by omega)]; simp
    | simp [h]
theorem atI_nat {α : Type} {xs : List α} {v : α} (k : Nat) (h : xs[k]? = some v) : atI xs (k : Int) = some v := by
  unfold L2.atI
  rw [ixN_nat (List.getElem?_eq_some_iff.mp h).1]
  exact h
/-- a tuple's item by a written place -/
theorem x_tup0 {a : D} {r : List D} {A : DA} {Q : DK} (q : Q a A) : rIxU (.tup (a :: r)) (.int 0) A Q := x_ix_tup (atI_nat 0 rfl) q
theorem x_tup1 {a b : D} {r : List D} {A : DA} {Q : DK} (q : Q b A) : rIxU (.tup (a :: b :: r)) (.int 1) A Q := x_ix_tup (atI_nat 1 rfl) q
theorem x_tup2 {a b c : D} {r : List D} {A : DA} {Q : DK} (q : Q c A) : rIxU (.tup (a :: b :: c :: r)) (.int 2) A Q := x_ix_tup (atI_nat 2 rfl) q
theorem x_tup3 {a b c d : D} {r : List D} {A : DA} {Q : DK} (q : Q d A) : rIxU (.tup (a :: b :: c :: d :: r)) (.int 3) A Q := x_ix_tup (atI_nat 3 rfl) q
end DL
namespace DL
open PySem PySem.Spec PyProof.Rows L2
theorem sz {n : Nat} (h : Nat.ble n 1000 = true) : n ≤ sizeLine := Nat.le_trans (Nat.le_of_ble_eq_true h) (by decide)
theorem szl {n : Nat} (h : n ≤ 1000000) : n ≤ sizeLine := Nat.le_trans h (by decide)
theorem szt {n : Nat} (h : n ≤ 1000000) : n < sizeLine := Nat.lt_of_le_of_lt h (by decide)
end DL
namespace DL
open PySem PySem.Spec PyProof.Rows L2
section
variable {A A' : DA} {L L' : List (Addr × MO)} {p dk : Addr} {o u : MO}
theorem HD.get (h : HD A dk L) (i : Nat) (e : L[i]? = some (p, o) := by rfl) : A p = some o := let ⟨_, _, _, _, h⟩ := h; h.get (i + 2) e
theorem HD.new (h : HD A dk L) (n : New A p o A') : HD A' dk ((p, o) :: L) := by
  obtain ⟨g, r, s, cells, h⟩ := h
  exact ⟨g, r, s, cells, (h.new n).perm (((List.Perm.swap _ _ _).cons _).trans (List.Perm.swap _ _ _))⟩
theorem HD.put (h : HD A dk L) (i : Nat) (n : Put A p o A') (e : L[i]? = some (p, u) := by rfl) : HD A' dk (L.set i (p, o)) := by
  obtain ⟨g, r, s, cells, h⟩ := h
  exact ⟨g, r, s, cells, h.put (i + 2) n e⟩
theorem HD.sub (h : HD A dk L) (s : L'.Sublist L) : HD A dk L' := by
  obtain ⟨g, r, z, cells, h⟩ := h
  exact ⟨g, r, z, cells, h.sub ((s.cons₂ _).cons₂ _)⟩
theorem HD.tl (h : HD A dk ((p, o) :: L)) : HD A dk L := h.sub (List.sublist_cons_self _ _)
theorem HD.perm (h : HD A dk L) (s : L'.Perm L) : HD A dk L' := by
  obtain ⟨g, r, z, cells, h⟩ := h
  exact ⟨g, r, z, cells, h.perm ((s.cons _).cons _)⟩
theorem HD.ext (h : HD A dk L) (e : Ext A A') : HD A' dk L := by
  obtain ⟨g, r, z, cells, h⟩ := h
  exact ⟨g, r, z, cells, h.ext e⟩
theorem x_draw {many : Int} {Q : DK} (hA : HD A dk L) (h1 : 0 < many) (h2 : many < 1000000) (k : ∀ r A', 0 ≤ r → r < many → HD A' dk L → Q (.int r) A') : spDraw [.ref dk, .int many] A Q := ⟨dk, many, L, rfl, h1, h2, hA, k⟩
end
theorem rEq_int {i j : Int} {A : DA} {Q : DK} : rEqU false (.int i) (.int j) A Q = Q (.bl (decide (i = j))) A := rfl
theorem rNe_int {i j : Int} {A : DA} {Q : DK} : rEqU true (.int i) (.int j) A Q = Q (.bl (!decide (i = j))) A := rfl
theorem eqF_str {x y : Str} : eqF (.str x) (.str y) = some (decide (x = y)) := by
  show some (PyData.eqv (.str x) (.str y)) = _
  rw [← strE, dec_str]
  first
    | rfl
    | (congr 1; exact beq_eq_decide x y)
    | (congr 1; by_cases h : x = y <;> simp [h])
theorem inF_str {z : Str} : ∀ {ns : List Str}, inF (.str z) (ns.map D.str) = some (decide (z ∈ ns))
  | [] => rfl
  | n :: ns => by
    rw [List.map_cons]
    show (match eqF (.str n) (.str z), inF (.str z) (ns.map D.str) with | some b, some c => some (b || c) | _, _ => none) = _
    rw [eqF_str, inF_str]
    by_cases h : n = z
    · subst h; simp
    · have h' : z ≠ n := fun e => h e.symm
      simp [h, h']
end DL
namespace DL
open PySem PySem.Spec PyProof.Rows L2
section
variable {A A' : DA} {L : List (Addr × MO)} {p dk : Addr} {o : MO}
/-- a thing that was made among others -/
theorem Holds.made (h : Holds A L) (e : Ext A A') (f : A p = none) (n : A' p = some o) : Holds A' ((p, o) :: L) := by
  refine ⟨fun q hq => ?_, ?_⟩
  · rcases List.mem_cons.mp hq with rfl | hq
    · exact n
    · exact e _ _ (h.all q hq)
  · rw [List.map_cons, List.nodup_cons]
    refine ⟨fun hm => ?_, h.nd⟩
    obtain ⟨q, hq, e⟩ := List.mem_map.mp hm
    have := h.all q hq
    rw [e, f] at this
    cases this
theorem HD.made (h : HD A dk L) (e : Ext A A') (f : A p = none) (n : A' p = some o) : HD A' dk ((p, o) :: L) := by
  obtain ⟨g, r, s, cells, h⟩ := h
  exact ⟨g, r, s, cells, (h.made e f n).perm (((List.Perm.swap _ _ _).cons _).trans (List.Perm.swap _ _ _))⟩
end
/-- from one store to a later one, where p alone is changed -/
structure ExtBut (p : Addr) (A A' : DA) : Prop where
  ext : ∀ b o, b ≠ p → A b = some o → A' b = some o
theorem ExtBut.refl (p : Addr) (A : DA) : ExtBut p A A := ⟨fun _ _ _ h => h⟩
theorem ExtBut.trans {p : Addr} {A B C : DA} (h : ExtBut p A B) (k : ExtBut p B C) : ExtBut p A C := ⟨fun b o n e => k.ext b o n (h.ext b o n e)⟩
theorem ExtBut.of {p : Addr} {A B : DA} (h : Ext A B) : ExtBut p A B := ⟨fun b o _ e => h b o e⟩
theorem ExtBut.put {p : Addr} {A B : DA} {o : MO} (h : Put A p o B) : ExtBut p A B := ⟨fun b o n e => h.ext n e⟩
/-- a thing that was not there at first may be changed -/
theorem ExtBut.to {p : Addr} {A0 A B : DA} (h0 : A0 p = none) (h1 : Ext A0 A) (h : ExtBut p A B) : Ext A0 B := fun b o e => h.ext b o (fun z => by rw [z, h0] at e; cases e) (h1 b o e)
end DL
namespace DL
theorem x_ifT {c : Bool} {P R : Prop} (h : c = true) (p : P) : if c = true then P else R := by rw [if_pos h]; exact p
theorem x_ifF {c : Bool} {P R : Prop} (h : c = false) (r : R) : if c = true then P else R := by rw [if_neg (by rw [h]; decide)]; exact r
end DL
namespace DL
open PySem PySem.Spec PyProof.Rows L2
/-- items whose making only adds to the store -/
theorem lcB_ext {J : DIt} {g : Tg} {te : DE} {vs : List Nat} {τ : DSt} {A1 : DA} {Q : DK} (n : Nat) (it : Nat → D) (R : Nat → D → Prop) (hJ : ∀ i A, i ≤ n → Ext A1 A → J i A (if i < n then some (it i) else none)) (hn : n < sizeLine)
    (hend : ∀ p A' ys, ys.length = n → (∀ i y, ys[i]? = some y → R i y) → Ext A1 A' → A1 p = none → A' p = some (.lst ys) → Q (.ref p) A')
    (hstep : ∀ i A (Ky : D → DA → Prop), i < n → Ext A1 A → (∀ y A', R i y → Ext A A' → Ky y A') → qTg g (it i) (wipeD τ vs) A fun τ2 A2 => te τ2 A2 Ky) : LcB J g qYes te vs τ A1 Q := by
  refine lcB_n n it (fun C i A => A1 C = none ∧ Ext A1 A ∧ ∃ ys, ys.length = i ∧ (∀ i y, ys[i]? = some y → R i y) ∧ A C = some (.lst ys)) (fun C A2 nn => ⟨nn.free, nn.ex, [], rfl, fun i y e => by simp at e, nn.get⟩) (fun C i A hi q => hJ i A hi q.2.1) (fun C A ⟨f, e, ys, h1, h2, h3⟩ => hend C A ys h1 h2 e f h3) fun C i A hi ⟨f, e, ys, h1, h2, h3⟩ => ?_
  have := hstep i A (fun y A4 => ∃ acc, A4 C = some (.lst acc) ∧ acc.length < sizeLine ∧ ∀ A5, Put A4 C (.lst (acc ++ [y])) A5 → A1 C = none ∧ Ext A1 A5 ∧ ∃ ys, ys.length = i + 1 ∧ (∀ i y, ys[i]? = some y → R i y) ∧ A5 C = some (.lst ys)) hi e fun y A' r x => ?_
  · unfold qYes
    unfold qTg at this ⊢
    split at this
    · show if true = true then _ else _
      rw [if_pos rfl]; exact this
    · exact this.elim
  · refine ⟨ys, x _ _ h3, by omega, fun A5 p => ⟨f, ExtBut.to f (e.trans x) (.put p), ys ++ [y], by simp [h1], fun j z hz => ?_, p.get⟩⟩
    by_cases hj : j < ys.length
    · rw [List.getElem?_append_left hj] at hz
      exact h2 j z hz
    · rw [List.getElem?_append_right (by omega)] at hz
      have hj2 : j = i := by
        have := (List.getElem?_eq_some_iff.mp hz).1
        simp at this
        omega
      subst hj2
      rw [h1, Nat.sub_self] at hz
      cases hz
      exact r
theorem perm_map_inv {α β : Type} {f : α → β} {ys : List β} {xs : List α} (h : ys.Perm (xs.map f)) : ∃ zs : List α, zs.Perm xs ∧ ys = zs.map f := by
  have key : ∀ {us vs : List β}, us.Perm vs → ∀ xs : List α, us = xs.map f → ∃ zs : List α, zs.Perm xs ∧ vs = zs.map f := by
    intro us vs h
    induction h with
    | nil => intro xs e; cases xs with
      | nil => exact ⟨[], .refl _, rfl⟩
      | cons x xs => cases e
    | cons x _ ih => intro xs e; cases xs with
      | nil => cases e
      | cons y xs =>
        rw [List.map_cons] at e
        injection e with e1 e2
        obtain ⟨zs, p, e3⟩ := ih xs e2
        exact ⟨y :: zs, p.cons y, by rw [List.map_cons, e1, e3]⟩
    | swap x y l => intro xs e
                    match xs, e with
                    | a :: b :: xs, e =>
                      rw [List.map_cons, List.map_cons] at e
                      injection e with e1 e2
                      injection e2 with e2 e3
                      exact ⟨b :: a :: xs, .swap _ _ _, by rw [List.map_cons, List.map_cons, e1, e2, e3]⟩
    | trans _ _ ih1 ih2 =>
      intro xs e
      obtain ⟨zs, p, e1⟩ := ih1 xs e
      obtain ⟨ws, q, e2⟩ := ih2 zs e1
      exact ⟨ws, q.trans p, e2⟩
  exact key h.symm xs rfl
theorem cut_take {α : Type} {xs : List α} {c : Int} (h0 : 0 ≤ c) : cut xs none (some c) = xs.take c.toNat := by
  unfold cut
  have e1 : HT.sIx xs.length 0 none = 0 := rfl
  have e2 : HT.sIx xs.length xs.length (some c) = min c.toNat xs.length := by
    show (if c < 0 then _ else _) = _
    rw [if_neg (by omega)]
  rw [e1, e2, List.drop_zero, Nat.sub_zero, List.take_eq_take_iff]
  omega
theorem cut_drop {α : Type} {xs : List α} {c : Int} (h0 : 0 ≤ c) : cut xs (some c) none = xs.drop c.toNat := by
  unfold cut
  have e1 : HT.sIx xs.length xs.length none = xs.length := rfl
  have e2 : HT.sIx xs.length 0 (some c) = min c.toNat xs.length := by
    show (if c < 0 then _ else _) = _
    rw [if_neg (by omega)]
  rw [e1, e2]
  by_cases h : c.toNat ≤ xs.length
  · rw [Nat.min_eq_left h, List.take_of_length_le (by rw [List.length_drop]; omega)]
  · rw [Nat.min_eq_right (by omega), List.drop_eq_nil_of_le (Nat.le_refl _), List.drop_eq_nil_of_le (by omega), List.take_nil]
end DL
namespace DL
open PySem PySem.Spec PyProof.Rows L2
theorem x_tg2 {i j : Nat} {a b : D} {τ : DSt} {A : DA} {Q : DSt → DA → Prop} (q : Q ((τ.set i (some a)).set j (some b)) A) : qTg (.tp [i, j]) (.tup [a, b]) τ A Q := q
theorem x_tg3 {i j k : Nat} {a b c : D} {τ : DSt} {A : DA} {Q : DSt → DA → Prop} (q : Q (((τ.set i (some a)).set j (some b)).set k (some c)) A) : qTg (.tp [i, j, k]) (.tup [a, b, c]) τ A Q := q
end DL

set_option Elab.async false
set_option linter.all false
set_option maxRecDepth 100000
set_option maxHeartbeats 4000000
/-! DL18: == and repr of plain data -/
namespace DL
open PySem PySem.Spec PyProof.Rows L2
mutual
def toP : D → PyData
  | .int i => .int i
  | .str x => .str x
  | .tup xs => .tuple (toPs xs)
  | _ => .none
def toPs : List D → List PyData
  | [] => []
  | x :: xs => toP x :: toPs xs
end
mutual
/-- short texts, small ints -/
def txt : D → Bool
  | .non => true
  | .int i => decide (i.natAbs < 1000000)
  | .str z => decide (z.length ≤ 50) && z.cps.all (· < 0x110000)
  | .tup xs => txts xs
  | _ => false
def txts : List D → Bool
  | [] => true
  | x :: xs => txt x && txts xs
end
mutual
/-- more than the text of it is long -/
def wt : D → Nat
  | .tup xs => wts xs + 4
  | _ => 510
def wts : List D → Nat
  | [] => 0
  | x :: xs => wt x + 2 + wts xs
end
theorem txts_all : ∀ xs : List D, txts xs = true ↔ ∀ x ∈ xs, txt x = true
  | [] => by simp [txts]
  | x :: xs => by rw [txts, Bool.and_eq_true, txts_all xs]; simp
mutual
theorem txt_pl : ∀ d : D, txt d = true → pl d = true := fun d h => by
  cases d <;> first
    | rfl
    | (simp [txt] at h; done)
    | (rename_i xs; rw [txt] at h; rw [pl]; exact txts_pl xs h)
theorem txts_pl : ∀ ds : List D, txts ds = true → pls ds = true := fun ds h => by
  cases ds with
  | nil => rfl
  | cons x xs =>
    rw [txts, Bool.and_eq_true] at h
    rw [pls, txt_pl x h.1, txts_pl xs h.2]; rfl
end
mutual
theorem py_of {A : DA} : ∀ d : D, pl d = true → Py A d (toP d) := fun d h => by
  cases d with
  | non => exact .non
  | int i => exact .int i
  | str x => exact .str x
  | tup xs => rw [pl] at h; rw [toP]; exact .tup (pys_of xs h)
  | _ => simp [pl] at h
theorem pys_of {A : DA} : ∀ ds : List D, pls ds = true → Pys A ds (toPs ds) := fun ds h => by
  cases ds with
  | nil => exact .nil
  | cons x xs =>
    rw [pls, Bool.and_eq_true] at h
    exact .cons (py_of x h.1) (pys_of xs h.2)
end
mutual
theorem eqv_toP : ∀ a b : D, pl a = true → pl b = true → PyData.eqv (toP a) (toP b) = decide (a = b) := fun a b h1 h2 => by
  cases a <;> cases b <;> first
    | (simp [pl] at h1; done)
    | (simp [pl] at h2; done)
    | (simp [toP, PyData.eqv]; done)
    | (rename_i x y
       simp only [toP, PyData.eqv]
       by_cases e : x = y
       · subst e; simp
       · simp [e]; done)
    | (rename_i xs ys
       rw [pl] at h1 h2
       simp only [toP, PyData.eqv]
       rw [eqv_toPs xs ys h1 h2]
       by_cases e : xs = ys
       · subst e; simp
       · simp [e])
theorem eqv_toPs : ∀ as bs : List D, pls as = true → pls bs = true → PyData.eqvAll (toPs as) (toPs bs) = decide (as = bs) := fun as bs h1 h2 => by
  cases as <;> cases bs
  · simp [toPs, PyData.eqvAll]
  · simp [toPs, PyData.eqvAll]
  · simp [toPs, PyData.eqvAll]
  · rename_i x xs y ys
    rw [pls, Bool.and_eq_true] at h1 h2
    simp only [toPs, PyData.eqvAll]
    rw [eqv_toP x y h1.1 h2.1, eqv_toPs xs ys h1.2 h2.2]
    by_cases e1 : x = y <;> by_cases e2 : xs = ys <;> simp [e1, e2]
end
mutual
theorem lay_toP : ∀ d : D, txt d = true → (toP d).canLay0 = true ∧ (toP d).showable = true ∧ (toP d).hasDict = false ∧ (toP d).depth = (toN d).depth := fun d h => by
  cases d with
  | non => simp [toP, toN, PyData.canLay0, PyData.showable, PyData.hasDict, PyData.depth, NestedKey.depth]
  | int i =>
    have hi : i.natAbs < 1000000 := by simpa [txt] using h
    have : i.natAbs.log2 < 1920 := by
      by_cases h0 : i.natAbs = 0
      · rw [h0]; decide
      · have := (Nat.log2_lt (k := 20) h0).mpr (by omega)
        omega
    simp [toP, toN, PyData.canLay0, PyData.showable, PyData.hasDict, PyData.depth, NestedKey.depth, this]
  | str z =>
    rw [txt, Bool.and_eq_true] at h
    have : PyData.strOk z = true := h.2
    simp [toP, toN, PyData.canLay0, PyData.showable, PyData.hasDict, PyData.depth, NestedKey.depth, this]
  | tup xs =>
    rw [txt] at h
    obtain ⟨h1, h2, h3, h4⟩ := lay_toPs xs h
    simp [toP, toN, PyData.canLay0, PyData.showable, PyData.hasDict, PyData.depth, NestedKey.depth, h1, h2, h3, h4]
  | _ => simp [txt] at h
theorem lay_toPs : ∀ ds : List D, txts ds = true → PyData.canLayAll0 (toPs ds) = true ∧ PyData.showableAll (toPs ds) = true ∧ PyData.hasDictAll (toPs ds) = false ∧ PyData.depthAll (toPs ds) = NestedKey.depthAll (toNs ds) := fun ds h => by
  cases ds with
  | nil => simp [toPs, toNs, PyData.canLayAll0, PyData.showableAll, PyData.hasDictAll, PyData.depthAll, NestedKey.depthAll]
  | cons x xs =>
    rw [txts, Bool.and_eq_true] at h
    obtain ⟨a1, a2, a3, a4⟩ := lay_toP x h.1
    obtain ⟨b1, b2, b3, b4⟩ := lay_toPs xs h.2
    simp [toPs, toNs, PyData.canLayAll0, PyData.showableAll, PyData.hasDictAll, PyData.depthAll, NestedKey.depthAll, a1, a2, a3, a4, b1, b2, b3, b4]
end
theorem tupleText_le (ts : List Str) : (tupleText ts).length ≤ piled ts + 4 := by
  unfold tupleText
  rw [strLen_append, strLen_append]
  have e1 : ((("(" : String) : Str)).length = 1 := rfl
  have e3 : (((if ts.length == 1 then ",)" else ")" : String) : Str)).length ≤ 2 := by split <;> decide
  rw [e1]
  by_cases h : ts = []
  · subst h
    have : (Str.join ", " []).length = 0 := rfl
    omega
  · have := join_length_add ts h
    omega
mutual
theorem shown_len : ∀ d : D, txt d = true → (toP d).shown.length ≤ wt d := fun d h => by
  cases d with
  | non => simp only [toP, PyData.shown, wt]; decide
  | int i =>
    have hi : i.natAbs < 1000000 := by simpa [txt] using h
    simp only [toP, PyData.shown, wt]
    have : i.natAbs.log2 < 20 := by
      by_cases h0 : i.natAbs = 0
      · rw [h0]; decide
      · exact (Nat.log2_lt h0).mpr (by omega)
    have h2 := int_text_length_le (a := i) (k := 20) (by decide) this
    have h3 := ofString_len (toString i)
    rw [h3]
    omega
  | str z =>
    rw [txt, Bool.and_eq_true, decide_eq_true_eq] at h
    simp only [toP, PyData.shown, wt]
    have := StrLaws.reprText_len z fun c hc => by
      have h2 := h.2
      rw [← Array.all_toList, List.all_eq_true] at h2
      have := of_decide_eq_true (h2 c hc)
      omega
    omega
  | tup xs =>
    rw [txt] at h
    simp only [toP, PyData.shown, wt]
    have := tupleText_le (PyData.shownAll (toPs xs))
    have := shown_lens xs h
    omega
  | _ => simp [txt] at h
theorem shown_lens : ∀ ds : List D, txts ds = true → piled (PyData.shownAll (toPs ds)) ≤ wts ds := fun ds h => by
  cases ds with
  | nil => simp [toPs, PyData.shownAll, piled, wts]
  | cons x xs =>
    rw [txts, Bool.and_eq_true] at h
    simp only [toPs, PyData.shownAll, wts]
    rw [piled_cons]
    have := shown_len x h.1
    have := shown_lens xs h.2
    omega
end
theorem shaped_toP {d : D} (h : txt d = true) (hd : (toN d).depth ≤ 60) : SeqAt.shaped (toP d) = true := by
  obtain ⟨h1, _, _, h4⟩ := lay_toP d h
  unfold SeqAt.shaped
  rw [h1, h4]
  simp only [Bool.true_and, decide_eq_true_eq]
  omega
theorem x_eqP {x y : D} {neg : Bool} {A : DA} {Q : DK} (tx : txt x = true) (ty : txt y = true) (dx : (toN x).depth ≤ 60) (dy : (toN y).depth ≤ 60) (q : Q (.bl (if neg then !decide (x = y) else decide (x = y))) A) : rEqU neg x y A Q := by
  unfold rEqU
  have px := txt_pl x tx
  have py := txt_pl y ty
  have e := eqv_toP x y px py
  cases hf : eqF x y with
  | none =>
    refine ⟨toP x, toP y, py_of x px, py_of y py, shaped_toP tx dx, shaped_toP ty dy, ?_⟩
    rw [e]; exact q
  | some b =>
    have : b = decide (x = y) := by
      rw [← e]
      unfold eqF at hf
      cases x <;> cases y <;> simp [flatP, toP] at hf ⊢ <;> first
        | exact hf.symm
        | (simp [pl] at px; done)
        | (simp [pl] at py; done)
    rw [this]; exact q
/-- two lists of plain data -/
theorem x_eqL {a b : Addr} {xs ys : List D} {neg : Bool} {A : DA} {Q : DK} (ha : A a = some (.lst xs)) (hb : A b = some (.lst ys)) (tx : txts xs = true) (ty : txts ys = true) (dx : NestedKey.depthAll (toNs xs) ≤ 50) (dy : NestedKey.depthAll (toNs ys) ≤ 50) (q : Q (.bl (if neg then !decide (xs = ys) else decide (xs = ys))) A) : rEqU neg (.ref a) (.ref b) A Q := by
  obtain ⟨h1, _, _, h4⟩ := lay_toPs xs tx
  obtain ⟨g1, _, _, g4⟩ := lay_toPs ys ty
  refine ⟨.list (toPs xs), .list (toPs ys), .lst (.inl ha) (pys_of xs (txts_pl xs tx)), .lst (.inl hb) (pys_of ys (txts_pl ys ty)), ?_, ?_, ?_⟩
  · simp [SeqAt.shaped, PyData.canLay0, PyData.depth, h1, h4]; omega
  · simp [SeqAt.shaped, PyData.canLay0, PyData.depth, g1, g4]; omega
  · simp only [PyData.eqv]
    rw [eqv_toPs xs ys (txts_pl xs tx) (txts_pl ys ty)]
    exact q
theorem x_repr {xs : List D} {A : DA} {Q : DK} (tx : txts xs = true) (dx : NestedKey.depthAll (toNs xs) ≤ 50) (hw : wts xs ≤ 16000000) (q : Q (.str (toP (.tup xs)).shown) A) : rRepr [.tup xs] A Q := by
  have t : txt (.tup xs) = true := by rw [txt]; exact tx
  obtain ⟨h1, h2, h3, h4⟩ := lay_toP (.tup xs) t
  refine ⟨.tup xs, toP (.tup xs), rfl, py_of _ (txt_pl _ t), h2, ?_, ?_, h3, ⟨0, .inr ⟨xs, rfl⟩⟩, q⟩
  · have := shown_len (.tup xs) t
    have e : wt (.tup xs) = wts xs + 4 := by rw [wt]
    have : sizeLine = 16777216 := by decide
    omega
  · rw [h4, toN, NestedKey.depth]; omega
end DL

set_option Elab.async false
set_option linter.all false
set_option maxRecDepth 100000
set_option maxHeartbeats 4000000
/-! printed by gen.py: readings and derivations of the defs of L49 -/
namespace L49
open PySem PySem.Spec PyProof.Rows L2 DL
def top (i : Nat) : Stmt := PySem.Challenge.pw_unseenswap_k49_swapping_built.main.body.getD i (.Pass ⟨0, 0, 0, 0⟩)
def kits (K : PySem.W.Frag) : List (Value × Value × Bool) := [(.type "NoneType", .type "bool", false), (.type "bool", .type "bool", true), (.type "int", .type "bool", false), (.type "str", .type "bool", false), (.type "tuple", .type "bool", false), (.type "list", .type "bool", false), (.type "NoneType", .type "int", false), (.type "bool", .type "int", true), (.type "int", .type "int", true), (.type "str", .type "int", false), (.type "tuple", .type "int", false), (.type "list", .type "int", false), (.type "NoneType", .type "tuple", false), (.type "bool", .type "tuple", false), (.type "int", .type "tuple", false), (.type "str", .type "tuple", false), (.type "tuple", .type "tuple", true), (.type "list", .type "tuple", false), (.ref (He.ga K "BadGraph"), .ref (He.ga K "TooMany"), false), (.ref (He.ga K "BadGraph"), .ref (He.ga K "BadTests"), false), (.ref (He.ga K "BadGraph"), .ref (He.ga K "BadTeacher"), false), (.ref (He.ga K "BadGraph"), .ref (He.ga K "UnseenError"), true), (.ref (He.ga K "BadGraph"), .type "ValueError", true), (.ref (He.ga K "BadGraph"), .ref (He.ga K "BadName"), false)]
structure Top (K : PySem.W.Frag) (mg : Str → Option Value) : Prop where
  g_is_number : mg "is_number" = some (.ref (He.ga K "is_number"))
  k_is_number : PySem.W.keepIn K (.ref (He.ga K "is_number")) = true
  d_is_number : FunD K "is_number" "is_number" (defArgs (top 8)) (defBody (top 8)) (defScope (top 8)) [] [] (He.ga K "is_number") (fdO K (He.ga K "is_number"))
  b_is_number : L2.Binds K (fdO K (He.ga K "is_number")) ["value"] []
  g_is_state : mg "is_state" = some (.ref (He.ga K "is_state"))
  k_is_state : PySem.W.keepIn K (.ref (He.ga K "is_state")) = true
  d_is_state : FunD K "is_state" "is_state" (defArgs (top 9)) (defBody (top 9)) (defScope (top 9)) [] [] (He.ga K "is_state") (fdO K (He.ga K "is_state"))
  b_is_state : L2.Binds K (fdO K (He.ga K "is_state")) ["value", "many"] []
  g_is_pair : mg "is_pair" = some (.ref (He.ga K "is_pair"))
  k_is_pair : PySem.W.keepIn K (.ref (He.ga K "is_pair")) = true
  d_is_pair : FunD K "is_pair" "is_pair" (defArgs (top 10)) (defBody (top 10)) (defScope (top 10)) [] [] (He.ga K "is_pair") (fdO K (He.ga K "is_pair"))
  b_is_pair : L2.Binds K (fdO K (He.ga K "is_pair")) ["value", "one_many", "other_many"] []
  g_doors_of : mg "doors_of" = some (.ref (He.ga K "doors_of"))
  k_doors_of : PySem.W.keepIn K (.ref (He.ga K "doors_of")) = true
  d_doors_of : FunD K "doors_of" "doors_of" (defArgs (top 13)) (defBody (top 13)) (defScope (top 13)) [] [] (He.ga K "doors_of") (fdO K (He.ga K "doors_of"))
  b_doors_of : L2.Binds K (fdO K (He.ga K "doors_of")) ["graph"] []
  g_trimmed : mg "trimmed" = some (.ref (He.ga K "trimmed"))
  k_trimmed : PySem.W.keepIn K (.ref (He.ga K "trimmed")) = true
  d_trimmed : FunD K "trimmed" "trimmed" (defArgs (top 15)) (defBody (top 15)) (defScope (top 15)) [] [] (He.ga K "trimmed") (fdO K (He.ga K "trimmed"))
  b_trimmed : L2.Binds K (fdO K (He.ga K "trimmed")) ["rows"] []
  g_swapping : mg "swapping" = some (.ref (He.ga K "swapping"))
  k_swapping : PySem.W.keepIn K (.ref (He.ga K "swapping")) = true
  d_swapping : FunD K "swapping" "swapping" (defArgs (top 16)) (defBody (top 16)) (defScope (top 16)) [] [] (He.ga K "swapping") (fdO K (He.ga K "swapping"))
  b_swapping : L2.Binds K (fdO K (He.ga K "swapping")) ["elder", "newer", "pairs"] []
  g__law_deck : mg "_law_deck" = some (.ref (He.ga K "_law_deck"))
  k__law_deck : PySem.W.keepIn K (.ref (He.ga K "_law_deck")) = true
  d__law_deck : FunD K "_law_deck" "_law_deck" (defArgs (top 18)) (defBody (top 18)) (defScope (top 18)) [] [] (He.ga K "_law_deck") (fdO K (He.ga K "_law_deck"))
  b__law_deck : L2.Binds K (fdO K (He.ga K "_law_deck")) ["script"] []
  g__law_draw : mg "_law_draw" = some (.ref (He.ga K "_law_draw"))
  k__law_draw : PySem.W.keepIn K (.ref (He.ga K "_law_draw")) = true
  d__law_draw : FunD K "_law_draw" "_law_draw" (defArgs (top 19)) (defBody (top 19)) (defScope (top 19)) [] [] (He.ga K "_law_draw") (fdO K (He.ga K "_law_draw"))
  b__law_draw : L2.Binds K (fdO K (He.ga K "_law_draw")) ["deck", "many"] []
  g__law_some : mg "_law_some" = some (.ref (He.ga K "_law_some"))
  k__law_some : PySem.W.keepIn K (.ref (He.ga K "_law_some")) = true
  d__law_some : FunD K "_law_some" "_law_some" (defArgs (top 20)) (defBody (top 20)) (defScope (top 20)) [] [] (He.ga K "_law_some") (fdO K (He.ga K "_law_some"))
  b__law_some : L2.Binds K (fdO K (He.ga K "_law_some")) ["deck", "row"] []
  g__law_doors : mg "_law_doors" = some (.ref (He.ga K "_law_doors"))
  k__law_doors : PySem.W.keepIn K (.ref (He.ga K "_law_doors")) = true
  d__law_doors : FunD K "_law_doors" "_law_doors" (defArgs (top 21)) (defBody (top 21)) (defScope (top 21)) [] [] (He.ga K "_law_doors") (fdO K (He.ga K "_law_doors"))
  b__law_doors : L2.Binds K (fdO K (He.ga K "_law_doors")) ["deck", "many"] []
  g__law_events : mg "_law_events" = some (.ref (He.ga K "_law_events"))
  k__law_events : PySem.W.keepIn K (.ref (He.ga K "_law_events")) = true
  d__law_events : FunD K "_law_events" "_law_events" (defArgs (top 22)) (defBody (top 22)) (defScope (top 22)) [] [] (He.ga K "_law_events") (fdO K (He.ga K "_law_events"))
  b__law_events : L2.Binds K (fdO K (He.ga K "_law_events")) ["doors"] []
  g__law_world : mg "_law_world" = some (.ref (He.ga K "_law_world"))
  k__law_world : PySem.W.keepIn K (.ref (He.ga K "_law_world")) = true
  d__law_world : FunD K "_law_world" "_law_world" (defArgs (top 23)) (defBody (top 23)) (defScope (top 23)) [] [] (He.ga K "_law_world") (fdO K (He.ga K "_law_world"))
  b__law_world : L2.Binds K (fdO K (He.ga K "_law_world")) ["deck", "most"] []
  g__law_pack : mg "_law_pack" = some (.ref (He.ga K "_law_pack"))
  k__law_pack : PySem.W.keepIn K (.ref (He.ga K "_law_pack")) = true
  d__law_pack : FunD K "_law_pack" "_law_pack" (defArgs (top 24)) (defBody (top 24)) (defScope (top 24)) [] [] (He.ga K "_law_pack") (fdO K (He.ga K "_law_pack"))
  b__law_pack : L2.Binds K (fdO K (He.ga K "_law_pack")) ["rows"] []
  g__law_rows : mg "_law_rows" = some (.ref (He.ga K "_law_rows"))
  k__law_rows : PySem.W.keepIn K (.ref (He.ga K "_law_rows")) = true
  d__law_rows : FunD K "_law_rows" "_law_rows" (defArgs (top 25)) (defBody (top 25)) (defScope (top 25)) [] [] (He.ga K "_law_rows") (fdO K (He.ga K "_law_rows"))
  b__law_rows : L2.Binds K (fdO K (He.ga K "_law_rows")) ["deck", "labels", "many", "extra"] []
  g__law_reached : mg "_law_reached" = some (.ref (He.ga K "_law_reached"))
  k__law_reached : PySem.W.keepIn K (.ref (He.ga K "_law_reached")) = true
  d__law_reached : FunD K "_law_reached" "_law_reached" (defArgs (top 26)) (defBody (top 26)) (defScope (top 26)) [] [] (He.ga K "_law_reached") (fdO K (He.ga K "_law_reached"))
  b__law_reached : L2.Binds K (fdO K (He.ga K "_law_reached")) ["rows"] []
  g__law_packed : mg "_law_packed" = some (.ref (He.ga K "_law_packed"))
  k__law_packed : PySem.W.keepIn K (.ref (He.ga K "_law_packed")) = true
  d__law_packed : FunD K "_law_packed" "_law_packed" (defArgs (top 27)) (defBody (top 27)) (defScope (top 27)) [] [] (He.ga K "_law_packed") (fdO K (He.ga K "_law_packed"))
  b__law_packed : L2.Binds K (fdO K (He.ga K "_law_packed")) ["rows", "kept"] []
  g__law_swapped : mg "_law_swapped" = some (.ref (He.ga K "_law_swapped"))
  k__law_swapped : PySem.W.keepIn K (.ref (He.ga K "_law_swapped")) = true
  d__law_swapped : FunD K "_law_swapped" "_law_swapped" (defArgs (top 28)) (defBody (top 28)) (defScope (top 28)) [] [] (He.ga K "_law_swapped") (fdO K (He.ga K "_law_swapped"))
  b__law_swapped : L2.Binds K (fdO K (He.ga K "_law_swapped")) ["one", "two", "pairs"] []
  g__law_is_bad_graph : mg "_law_is_bad_graph" = some (.ref (He.ga K "_law_is_bad_graph"))
  k__law_is_bad_graph : PySem.W.keepIn K (.ref (He.ga K "_law_is_bad_graph")) = true
  d__law_is_bad_graph : FunD K "_law_is_bad_graph" "_law_is_bad_graph" (defArgs (top 29)) (defBody (top 29)) (defScope (top 29)) [] [] (He.ga K "_law_is_bad_graph") (fdO K (He.ga K "_law_is_bad_graph"))
  b__law_is_bad_graph : L2.Binds K (fdO K (He.ga K "_law_is_bad_graph")) ["e"] []
  g__law_bad_pair : mg "_law_bad_pair" = some (.ref (He.ga K "_law_bad_pair"))
  k__law_bad_pair : PySem.W.keepIn K (.ref (He.ga K "_law_bad_pair")) = true
  d__law_bad_pair : FunD K "_law_bad_pair" "_law_bad_pair" (defArgs (top 30)) (defBody (top 30)) (defScope (top 30)) [] [] (He.ga K "_law_bad_pair") (fdO K (He.ga K "_law_bad_pair"))
  b__law_bad_pair : L2.Binds K (fdO K (He.ga K "_law_bad_pair")) ["deck", "one", "two", "kind"] []
  g__law_other_doors : mg "_law_other_doors" = some (.ref (He.ga K "_law_other_doors"))
  k__law_other_doors : PySem.W.keepIn K (.ref (He.ga K "_law_other_doors")) = true
  d__law_other_doors : FunD K "_law_other_doors" "_law_other_doors" (defArgs (top 31)) (defBody (top 31)) (defScope (top 31)) [] [] (He.ga K "_law_other_doors") (fdO K (He.ga K "_law_other_doors"))
  b__law_other_doors : L2.Binds K (fdO K (He.ga K "_law_other_doors")) ["ins", "outs", "kind"] []
  g__law_refused : mg "_law_refused" = some (.ref (He.ga K "_law_refused"))
  k__law_refused : PySem.W.keepIn K (.ref (He.ga K "_law_refused")) = true
  d__law_refused : FunD K "_law_refused" "_law_refused" (defArgs (top 32)) (defBody (top 32)) (defScope (top 32)) [] [] (He.ga K "_law_refused") (fdO K (He.ga K "_law_refused"))
  b__law_refused : L2.Binds K (fdO K (He.ga K "_law_refused")) ["elder", "newer", "pairs"] []
  g_law : mg "law" = some (.ref (He.ga K "law"))
  k_law : PySem.W.keepIn K (.ref (He.ga K "law")) = true
  d_law : FunD K "law" "law" (defArgs (top 33)) (defBody (top 33)) (defScope (top 33)) [] [] (He.ga K "law") (fdO K (He.ga K "law"))
  b_law : L2.Binds K (fdO K (He.ga K "law")) ["script"] []
  f_ValueError : mg "ValueError" = none
  f_abs : mg "abs" = none
  f_bool : mg "bool" = none
  f_enumerate : mg "enumerate" = none
  f_int : mg "int" = none
  f_isinstance : mg "isinstance" = none
  f_len : mg "len" = none
  f_list : mg "list" = none
  f_range : mg "range" = none
  f_repr : mg "repr" = none
  f_set : mg "set" = none
  f_sorted : mg "sorted" = none
  f_str : mg "str" = none
  f_tuple : mg "tuple" = none
  g_BadGraph : mg "BadGraph" = some (.ref (He.ga K "BadGraph"))
  g_BadName : mg "BadName" = some (.ref (He.ga K "BadName"))
  g_BadTeacher : mg "BadTeacher" = some (.ref (He.ga K "BadTeacher"))
  g_BadTests : mg "BadTests" = some (.ref (He.ga K "BadTests"))
  g_QUIET : mg "QUIET" = some (.ref (He.ga K "QUIET"))
  g_TooMany : mg "TooMany" = some (.ref (He.ga K "TooMany"))
  g_UnseenError : mg "UnseenError" = some (.ref (He.ga K "UnseenError"))
  c_QUIET : ∀ H, Rep K H (.tup [(.str ""), (.str "quiet")]) (.ref (He.ga K "QUIET"))
  e_BadGraph : PySem.W.excIn K (He.ga K "BadGraph") He.veBase "ValueError.__new__" = true ∧ PySem.W.keepIn K (.ref (He.ga K "BadGraph")) = true ∧ PySem.W.subIn K (.ref (He.ga K "BadGraph")) (.type "BaseException") = some true ∧ PySem.W.typeIn K (.ref (He.ga K "BadGraph")) = some (.type "type")
  exc : ExcC K (He.ga K "BadGraph")
  kit : DL.kitB K (kits K) = true
  exm : ∀ x ∈ ["BadGraph"], PySem.W.exmOne K (.ref (He.ga K x)) (.ref (He.ga K x)) = some true
/-! is_number -/
def N_is_number : List Str := ["value"]
theorem sc_is_number : FnScope ["value"] ["value"] (defScope (top 8)) := ⟨rfl, rfl, rfl, by decide +kernel, rfl, by decide +kernel, by decide +kernel⟩
def t_is_number (K : PySem.W.Frag) (w : World)  : DS := (qRet (qAndV (qCB (rIs K) (qCons (qVar 0) (qCons (qC (.ty "int")) qNil))) (qNotV (qCB (rIs K) (qCons (qVar 0) (qCons (qC (.ty "bool")) qNil))))))
theorem b_is_number {P : Program} {w : World} {K : PySem.W.Frag} {mg : Str → Option Value} {base : Heap} (T : Top K mg)  (cdv : Value) (A : Around) (outer : List Env) (s : Shared) (H : Hp) (E : XK) (hcd : PySem.W.codeIn K cdv "is_number" = true) (hr : RoomG 0 (A.deeper (envOfC "is_number" (defScope (top 8)) s.heap.objs.size (He.ga K "is_number") cdv))) :
    DPSs (cxOf (L2N.CX P w) P w K mg base N_is_number "is_number" (defScope (top 8)) (He.ga K "is_number") cdv A outer s H E).nox (fun _ _ _ _ => False) (defBody (top 8)) (t_is_number K w ) :=
  (dss_one (ds_ret (d_and (d_callB (x := "isinstance") dc_is (by rfl) T.f_isinstance rfl (da_cons (dv 0) (da_cons (d_type (x := "int") (by rfl) T.f_int rfl) da_nil))) (d_one (d_not (d_callB (x := "isinstance") dc_is (by rfl) T.f_isinstance rfl (da_cons (dv 0) (da_cons (d_type (x := "bool") (by rfl) T.f_bool rfl) da_nil))))))))
/-! is_state -/
def N_is_state : List Str := ["value", "many"]
theorem sc_is_state : FnScope ["value", "many"] ["value", "many"] (defScope (top 9)) := ⟨rfl, rfl, rfl, by decide +kernel, rfl, by decide +kernel, by decide +kernel⟩
def t_is_state (K : PySem.W.Frag) (w : World) (sp_is_number : DSp) : DS := (qRet (qAndV (qCB sp_is_number (qCons (qVar 0) qNil)) (qChain (rII0 fun i j => .bl (decide (i ≤ j))) (rII0 fun i j => .bl (decide (i < j))) (qC (.int 0)) (qVar 0) (qVar 1))))
theorem b_is_state {P : Program} {w : World} {K : PySem.W.Frag} {mg : Str → Option Value} {base : Heap} (T : Top K mg) {sp_is_number : DSp} (F_is_number : DFn P w K mg base 1 (He.ga K "is_number") (fdO K (He.ga K "is_number")) ["value"] sp_is_number) (cdv : Value) (A : Around) (outer : List Env) (s : Shared) (H : Hp) (E : XK) (hcd : PySem.W.codeIn K cdv "is_state" = true) (hr : RoomG 1 (A.deeper (envOfC "is_state" (defScope (top 9)) s.heap.objs.size (He.ga K "is_state") cdv))) :
    DPSs (cxOf (L2N.CX P w) P w K mg base N_is_state "is_state" (defScope (top 9)) (He.ga K "is_state") cdv A outer s H E).nox (fun _ _ _ _ => False) (defBody (top 9)) (t_is_state K w sp_is_number) :=
  (dss_one (ds_ret (d_and (d_call F_is_number rfl (hr.mono (by decide)) T.g_is_number T.k_is_number T.b_is_number (da_cons (dv 0) da_nil)) (d_one (d_chain do_le do_lt d_int (dv 0) (dv 1))))))
/-! is_pair -/
def N_is_pair : List Str := ["value", "one_many", "other_many"]
theorem sc_is_pair : FnScope ["value", "one_many", "other_many"] ["value", "one_many", "other_many"] (defScope (top 10)) := ⟨rfl, rfl, rfl, by decide +kernel, rfl, by decide +kernel, by decide +kernel⟩
def u_is_pair_1 (K : PySem.W.Frag) (w : World) (sp_is_state : DSp) : DS := (qRet (qAndV (qCB sp_is_state (qCons (qOp rIxU (qVar 0) (qC (.int 0))) (qCons (qVar 1) qNil))) (qCB sp_is_state (qCons (qOp rIxU (qVar 0) (qC (.int 1))) (qCons (qVar 2) qNil)))))
def t_is_pair (K : PySem.W.Frag) (w : World) (sp_is_state : DSp) : DS := (qSeq (qIfS (qOr (qNot (qTru (qCB (rIs K) (qCons (qVar 0) (qCons (qC (.ty "tuple")) qNil))))) (qTest (qOp (rEqU true) (qCB rLen (qCons (qVar 0) qNil)) (qC (.int 2))))) (qRet (qC (.bl false))) qNext) (u_is_pair_1 K w sp_is_state))
theorem b_is_pair {P : Program} {w : World} {K : PySem.W.Frag} {mg : Str → Option Value} {base : Heap} (T : Top K mg) {sp_is_state : DSp} (F_is_state : DFn P w K mg base 2 (He.ga K "is_state") (fdO K (He.ga K "is_state")) ["value", "many"] sp_is_state) (cdv : Value) (A : Around) (outer : List Env) (s : Shared) (H : Hp) (E : XK) (hcd : PySem.W.codeIn K cdv "is_pair" = true) (hr : RoomG 2 (A.deeper (envOfC "is_pair" (defScope (top 10)) s.heap.objs.size (He.ga K "is_pair") cdv))) :
    DPSs (cxOf (L2N.CX P w) P w K mg base N_is_pair "is_pair" (defScope (top 10)) (He.ga K "is_pair") cdv A outer s H E).nox (fun _ _ _ _ => False) (defBody (top 10)) (t_is_pair K w sp_is_state) :=
  (dss_cons (ds_if (dw_or (dt_not (dt_tru (d_callB (x := "isinstance") dc_is (by rfl) T.f_isinstance rfl (da_cons (dv 0) (da_cons (d_type (x := "tuple") (by rfl) T.f_tuple rfl) da_nil))))) (dw_or1 (dt_cmp (do_neU hr.units) (d_callB (x := "len") dc_len (by rfl) T.f_len rfl (da_cons (dv 0) da_nil)) d_int))).pt (dss_one (ds_ret d_bl)) dss_nil) (dss_one (ds_ret (d_and (d_call F_is_state rfl (hr.mono (by decide)) T.g_is_state T.k_is_state T.b_is_state (da_cons (d_ix (dixU hr.u1) (dv 0) d_int) (da_cons (dv 1) da_nil))) (d_one (d_call F_is_state rfl (hr.mono (by decide)) T.g_is_state T.k_is_state T.b_is_state (da_cons (d_ix (dixU hr.u1) (dv 0) d_int) (da_cons (dv 2) da_nil))))))))
/-! doors_of -/
def N_doors_of : List Str := ["graph"]
theorem sc_doors_of : FnScope ["graph"] ["graph"] (defScope (top 13)) := ⟨rfl, rfl, rfl, by decide +kernel, rfl, by decide +kernel, by decide +kernel⟩
def t_doors_of (K : PySem.W.Frag) (w : World)  : DS := (qRet (qTup (qCons (qOp rIxU (qVar 0) (qC (.int 1))) (qCons (qOp rIxU (qVar 0) (qC (.int 2))) qNil))))
theorem b_doors_of {P : Program} {w : World} {K : PySem.W.Frag} {mg : Str → Option Value} {base : Heap} (T : Top K mg)  (cdv : Value) (A : Around) (outer : List Env) (s : Shared) (H : Hp) (E : XK) (hcd : PySem.W.codeIn K cdv "doors_of" = true) (hr : RoomG 0 (A.deeper (envOfC "doors_of" (defScope (top 13)) s.heap.objs.size (He.ga K "doors_of") cdv))) :
    DPSs (cxOf (L2N.CX P w) P w K mg base N_doors_of "doors_of" (defScope (top 13)) (He.ga K "doors_of") cdv A outer s H E).nox (fun _ _ _ _ => False) (defBody (top 13)) (t_doors_of K w ) :=
  (dss_one (ds_ret (d_tup (da_cons (d_ix (dixU hr.u1) (dv 0) d_int) (da_cons (d_ix (dixU hr.u1) (dv 0) d_int) da_nil)))))
/-! trimmed -/
def N_trimmed : List Str := ["rows", "met", "todo", "order", "places", "_", "to", "at", "state", "label"]
theorem sc_trimmed : FnScope ["rows", "met", "todo", "order", "places", "_", "to", "at", "state", "label"] ["rows"] (defScope (top 15)) := ⟨rfl, rfl, rfl, by decide +kernel, rfl, by decide +kernel, by decide +kernel⟩
def u_trimmed_1 (K : PySem.W.Frag) (w : World)  : DS := (qSeq (qSet 3 (qCB (rSortedU w) (qCons (qVar 1) qNil))) (qSeq (qSet 4 (qDc (qiEnum (qCons (qVar 3) qNil)) (.tp [7, 8]) qYes (qVar 8) (qVar 7) [7, 8])) (qRet (qCB rTuple (qCons (qLc (qiSeq (qVar 3)) (.nm 8) qYes (qCB rTuple (qCons (qLc (qiSeq (qOp rIxU (qVar 0) (qVar 8))) (.tp [9, 6]) qYes (qTup (qCons (qVar 9) (qCons (qOp rIxU (qVar 4) (qVar 6)) qNil))) [9, 6]) qNil)) [8]) qNil)))))
def t_trimmed (K : PySem.W.Frag) (w : World)  : DS := (qSeq (qSet 1 (qSet1 w 0)) (qSeq (qSet 2 (qLst (qCons (qC (.int 0)) qNil))) (qSeq (qWhile (qTru (qVar 2)) (qFor (qiSeq (qOp rIxU (qVar 0) (qMt rPop (qVar 2) qNil))) (.tp [5, 6]) (qIfS (qTest (qOp (rInW w true) (qVar 6) (qVar 1))) (qSeq (qDrop (qSAdd w (qVar 1) (qCons (qVar 6) qNil))) (qDrop (qMt rAppend (qVar 2) (qCons (qVar 6) qNil)))) qNext))) (u_trimmed_1 K w ))))
theorem b_trimmed {P : Program} {w : World} {K : PySem.W.Frag} {mg : Str → Option Value} {base : Heap} (T : Top K mg)  (cdv : Value) (A : Around) (outer : List Env) (s : Shared) (H : Hp) (E : XK) (hcd : PySem.W.codeIn K cdv "trimmed" = true) (hr : RoomG 0 (A.deeper (envOfC "trimmed" (defScope (top 15)) s.heap.objs.size (He.ga K "trimmed") cdv))) :
    DPSs (cxOf (L2N.CX P w) P w K mg base N_trimmed "trimmed" (defScope (top 15)) (He.ga K "trimmed") cdv A outer s H E).nox (fun _ _ _ _ => False) (defBody (top 15)) (t_trimmed K w ) :=
  (dss_cons (ds_set 1 sc_trimmed.nd (d_set1 (kds_codeIn hcd))) (dss_cons (ds_set 2 sc_trimmed.nd (d_lst (da_cons d_int da_nil))) (dss_cons (ds_while PassesOwn.never (dt_tru (dv 2)) (dss_one (ds_for PassesOwn.never rfl (di_seq (d_ix (dixU hr.u1) (dv 0) (d_mt0 PySem.F.slot_list_pop PySem.F.type_list_pop dm_pop (dv 2)))) (dg_pair 5 6 rfl sc_trimmed.nd) (dss_one (ds_if (dt_cmp (do_notinW hr.u1) (dv 6) (dv 1)) (dss_cons (ds_expr (d_sadd (dv 1) (da_cons (dv 6) da_nil))) (dss_one (ds_expr (d_mt PySem.F.slot_list_append PySem.F.type_list_append dm_append (dv 2) (da_cons (dv 6) da_nil))))) dss_nil))))) (dss_cons (ds_set 3 sc_trimmed.nd (d_callB (x := "sorted") (dc_sortedU rfl hr.units) (by rfl) T.f_sorted rfl (da_cons (dv 1) da_nil))) (dss_cons (ds_set 4 sc_trimmed.nd (d_dc [("at", 7), ("state", 8)] rfl sc_trimmed.nd (di_enum T.f_enumerate (da_cons (dv 3) da_nil)) (blkOk_by (own := [("at", 7), ("state", 8)]) (by first | rfl | kernel_rfl)) (fun _ _ _ _ _ => (dg_pair 7 8 rfl sc_trimmed.nd)) (fun _ _ _ _ _ => dts_nil) (fun _ _ _ _ _ => (dv 8)) (fun _ _ _ _ _ => (dv 7)))) (dss_one (ds_ret (d_callTy (x := "tuple") dc_tuple (by rfl) T.f_tuple rfl (da_cons (d_lc [("state", 8)] rfl sc_trimmed.nd (di_seq (dv 3)) (blkOk_by (own := [("state", 8)]) (by first | rfl | kernel_rfl)) (fun _ _ _ _ _ => (dg_name 8 sc_trimmed.nd)) (fun _ _ _ _ _ => dts_nil) (fun _ _ _ _ _ => (d_callTy (x := "tuple") dc_tuple (by rfl) T.f_tuple rfl (da_cons (d_lc [("label", 9), ("to", 6)] rfl sc_trimmed.nd (di_seq (d_ix (dixU hr.u1) (dv 0) (dv 8))) (blkOk_by (own := [("label", 9), ("to", 6)]) (by first | rfl | kernel_rfl)) (fun _ _ _ _ _ => (dg_pair 9 6 rfl sc_trimmed.nd)) (fun _ _ _ _ _ => dts_nil) (fun _ _ _ _ _ => (d_tup (da_cons (dv 9) (da_cons (d_ix (dixU hr.u1) (dv 4) (dv 6)) da_nil))))) da_nil)))) da_nil)))))))))
/-! swapping -/
def N_swapping : List Str := ["elder", "newer", "pairs", "many", "rows", "pair", "row", "label", "to"]
theorem sc_swapping : FnScope ["elder", "newer", "pairs", "many", "rows", "pair", "row", "label", "to"] ["elder", "newer", "pairs"] (defScope (top 16)) := ⟨rfl, rfl, rfl, by decide +kernel, rfl, by decide +kernel, by decide +kernel⟩
def u_swapping_1 (K : PySem.W.Frag) (w : World) (sp_is_pair : DSp) (sp_doors_of : DSp) (sp_trimmed : DSp) : DS := (qDrop (qMt rAppend (qOp rIxU (qVar 4) (qOp rIxU (qVar 5) (qC (.int 0)))) (qCons (qTup (qCons (qC (.tup [(.str ""), (.str "quiet")])) (qCons (qOp rAddU (qVar 3) (qOp rIxU (qVar 5) (qC (.int 1)))) qNil))) qNil)))
def u_swapping_2 (K : PySem.W.Frag) (w : World) (sp_is_pair : DSp) (sp_doors_of : DSp) (sp_trimmed : DSp) : DS := (qSeq (qSet 4 (qLc (qiSeq (qVar 4)) (.nm 6) qYes (qCB rTuple (qCons (qCB (rSortedU w) (qCons (qCB (rSetN w) (qCons (qVar 6) qNil)) qNil)) qNil)) [6])) (qSeq (qDrop (qMt rExtend (qVar 4) (qCons (qLc (qiSeq (qOp rIxU (qVar 1) (qC (.int 3)))) (.nm 6) qYes (qCB rTuple (qCons (qLc (qiSeq (qVar 6)) (.tp [7, 8]) qYes (qTup (qCons (qVar 7) (qCons (qOp rAddU (qVar 3) (qVar 8)) qNil))) [7, 8]) qNil)) [6]) qNil))) (qRet (qTup (qCons (qC (.str "graph")) (qCons (qOp rIxU (qVar 0) (qC (.int 1))) (qCons (qOp rIxU (qVar 0) (qC (.int 2))) (qCons (qCB sp_trimmed (qCons (qVar 4) qNil)) qNil))))))))
def u_swapping_3 (K : PySem.W.Frag) (w : World) (sp_is_pair : DSp) (sp_doors_of : DSp) (sp_trimmed : DSp) : DS := (qSeq (qSet 3 (qCB rLen (qCons (qOp rIxU (qVar 0) (qC (.int 3))) qNil))) (qSeq (qSet 4 (qLc (qiSeq (qOp rIxU (qVar 0) (qC (.int 3)))) (.nm 6) qYes (qCB rList (qCons (qVar 6) qNil)) [6])) (qSeq (qFor (qiSeq (qVar 2)) (.nm 5) (qSeq (qIfS (qNot (qTru (qCB sp_is_pair (qCons (qVar 5) (qCons (qVar 3) (qCons (qCB rLen (qCons (qOp rIxU (qVar 1) (qC (.int 3))) qNil)) qNil)))))) (qRaise (He.ga K "BadGraph")) qNext) (u_swapping_1 K w sp_is_pair sp_doors_of sp_trimmed))) (u_swapping_2 K w sp_is_pair sp_doors_of sp_trimmed))))
def t_swapping (K : PySem.W.Frag) (w : World) (sp_is_pair : DSp) (sp_doors_of : DSp) (sp_trimmed : DSp) : DS := (qSeq (qIfS (qTest (qOp (rEqU true) (qCB sp_doors_of (qCons (qVar 0) qNil)) (qCB sp_doors_of (qCons (qVar 1) qNil)))) (qRaise (He.ga K "BadGraph")) qNext) (u_swapping_3 K w sp_is_pair sp_doors_of sp_trimmed))
theorem b_swapping {P : Program} {w : World} {K : PySem.W.Frag} {mg : Str → Option Value} {base : Heap} (T : Top K mg) {sp_is_pair : DSp} (F_is_pair : DFn P w K mg base 3 (He.ga K "is_pair") (fdO K (He.ga K "is_pair")) ["value", "one_many", "other_many"] sp_is_pair) {sp_doors_of : DSp} (F_doors_of : DFn P w K mg base 1 (He.ga K "doors_of") (fdO K (He.ga K "doors_of")) ["graph"] sp_doors_of) {sp_trimmed : DSp} (F_trimmed : DFn P w K mg base 1 (He.ga K "trimmed") (fdO K (He.ga K "trimmed")) ["rows"] sp_trimmed) (cdv : Value) (A : Around) (outer : List Env) (s : Shared) (H : Hp) (E : XK) (hcd : PySem.W.codeIn K cdv "swapping" = true) (hr : RoomG 3 (A.deeper (envOfC "swapping" (defScope (top 16)) s.heap.objs.size (He.ga K "swapping") cdv))) :
    DPSs (cxOf (L2N.CX P w) P w K mg base N_swapping "swapping" (defScope (top 16)) (He.ga K "swapping") cdv A outer s H E) (fun c d _ H => E c d H) (defBody (top 16)) (t_swapping K w sp_is_pair sp_doors_of sp_trimmed) :=
  (dss_cons (ds_if (dt_cmp (do_neU hr.units) (d_call F_doors_of rfl (hr.mono (by decide)) T.g_doors_of T.k_doors_of T.b_doors_of (da_cons (dv 0) da_nil)) (d_call F_doors_of rfl (hr.mono (by decide)) T.g_doors_of T.k_doors_of T.b_doors_of (da_cons (dv 1) da_nil))) (dss_one (ds_raise0 rfl (L2N.takes_of rfl rfl rfl rfl) PySem.F.excBase_ValueError T.e_BadGraph.1 T.g_BadGraph T.e_BadGraph.2.1 (raises_own T.e_BadGraph.2.2.1 T.e_BadGraph.2.2.2))) dss_nil) (dss_cons (ds_set 3 sc_swapping.nd (d_callB (x := "len") dc_len (by rfl) T.f_len rfl (da_cons (d_ix (dixU hr.u1) (dv 0) d_int) da_nil))) (dss_cons (ds_setLc 4 [("row", 6)] rfl sc_swapping.nd (sw_true rfl rfl rfl (by decide +kernel)) (di_seq (d_ix (dixU hr.u1) (dv 0) d_int)) (blkOk_by (own := [("row", 6)]) (by first | rfl | kernel_rfl)) (fun _ _ _ _ _ => (dg_name 6 sc_swapping.nd)) (fun _ _ _ _ _ => dts_nil) (fun _ _ _ _ _ => (d_callTy (x := "list") dc_list (by rfl) T.f_list rfl (da_cons (dv 6) da_nil)))) (dss_cons (ds_for (L2.passes_of rfl) rfl (di_seq (dv 2)) (dg_name 5 sc_swapping.nd) (dss_cons (ds_if (dt_not (dt_tru (d_call F_is_pair rfl (hr.mono (by decide)) T.g_is_pair T.k_is_pair T.b_is_pair (da_cons (dv 5) (da_cons (dv 3) (da_cons (d_callB (x := "len") dc_len (by rfl) T.f_len rfl (da_cons (d_ix (dixU hr.u1) (dv 1) d_int) da_nil)) da_nil)))))) (dss_one (ds_raise0 rfl (L2N.takes_of rfl rfl rfl rfl) PySem.F.excBase_ValueError T.e_BadGraph.1 T.g_BadGraph T.e_BadGraph.2.1 (raises_own T.e_BadGraph.2.2.1 T.e_BadGraph.2.2.2))) dss_nil) (dss_one (ds_expr (d_mt PySem.F.slot_list_append PySem.F.type_list_append dm_append (d_ix (dixU hr.u1) (dv 4) (d_ix (dixU hr.u1) (dv 5) d_int)) (da_cons (d_tup (da_cons (d_globT T.c_QUIET T.g_QUIET) (da_cons (d_op do_addU (dv 3) (d_ix (dixU hr.u1) (dv 5) d_int)) da_nil))) da_nil)))))) (dss_cons (ds_setLc 4 [("row", 6)] rfl sc_swapping.nd (sw_true rfl rfl rfl (by decide +kernel)) (di_seq (dv 4)) (blkOk_by (own := [("row", 6)]) (by first | rfl | kernel_rfl)) (fun _ _ _ _ _ => (dg_name 6 sc_swapping.nd)) (fun _ _ _ _ _ => dts_nil) (fun _ _ _ _ _ => (d_callTy (x := "tuple") dc_tuple (by rfl) T.f_tuple rfl (da_cons (d_callB (x := "sorted") (dc_sortedU rfl hr.units) (by rfl) T.f_sorted rfl (da_cons (d_callTy (x := "set") (dc_set rfl hr.units) (by rfl) T.f_set rfl (da_cons (dv 6) da_nil)) da_nil)) da_nil)))) (dss_cons (ds_expr (d_mt PySem.F.slot_list_extend PySem.F.type_list_extend dm_extend (dv 4) (da_cons (d_lc [("row", 6)] rfl sc_swapping.nd (di_seq (d_ix (dixU hr.u1) (dv 1) d_int)) (blkOk_by (own := [("row", 6)]) (by first | rfl | kernel_rfl)) (fun _ _ _ _ _ => (dg_name 6 sc_swapping.nd)) (fun _ _ _ _ _ => dts_nil) (fun _ _ _ _ _ => (d_callTy (x := "tuple") dc_tuple (by rfl) T.f_tuple rfl (da_cons (d_lc [("label", 7), ("to", 8)] rfl sc_swapping.nd (di_seq (dv 6)) (blkOk_by (own := [("label", 7), ("to", 8)]) (by first | rfl | kernel_rfl)) (fun _ _ _ _ _ => (dg_pair 7 8 rfl sc_swapping.nd)) (fun _ _ _ _ _ => dts_nil) (fun _ _ _ _ _ => (d_tup (da_cons (dv 7) (da_cons (d_op do_addU (dv 3) (dv 8)) da_nil))))) da_nil)))) da_nil))) (dss_one (ds_ret (d_tup (da_cons d_str (da_cons (d_ix (dixU hr.u1) (dv 0) d_int) (da_cons (d_ix (dixU hr.u1) (dv 0) d_int) (da_cons (d_call F_trimmed rfl (hr.mono (by decide)) T.g_trimmed T.k_trimmed T.b_trimmed (da_cons (dv 4) da_nil)) da_nil)))))))))))))
/-! _law_deck -/
def N_l_deck : List Str := ["script", "cells", "seed", "cell"]
theorem sc_l_deck : FnScope ["script", "cells", "seed", "cell"] ["script"] (defScope (top 18)) := ⟨rfl, rfl, rfl, by decide +kernel, rfl, by decide +kernel, by decide +kernel⟩
def u_l_deck_1 (K : PySem.W.Frag) (w : World)  : DS := (qRet (qDisp [((qC (.str "great")), (qLc (qiSeq (qVar 1)) (.nm 3) (qTest (qOp (rII0 fun i j => .bl (decide (j ≤ i))) (qVar 3) (qOp (rII CPow fun i j => .int (i ^ j.toNat)) (qC (.int 10)) (qC (.int 18))))) (qVar 3) [3])), ((qC (.str "rest")), (qC (.int 0))), ((qC (.str "seed")), (qVar 2))]))
def t_l_deck (K : PySem.W.Frag) (w : World)  : DS := (qSeq (qSet 1 (qLc (qiSeq (qSl rSlU (qVar 0) qNoPart (qPart (qC (.int 63))))) (.nm 3) qYes (qCB rAbs (qCons (qCB rInt (qCons (qVar 3) qNil)) qNil)) [3])) (qSeq (qSet 2 (qOp rAddU (qC (.int 7)) (qCB rLen (qCons (qVar 1) qNil)))) (qSeq (qFor (qiSeq (qVar 1)) (.nm 3) (qSet 2 (qOp (rII (fun _ j => 0 < j) fun i j => .int (i % j)) (qCB rInt (qCons (qOp rAddU (qOp rAddU (qOp (rII CMul fun i j => .int (i * j)) (qVar 2) (qC (.int 48271))) (qVar 3)) (qC (.int 11))) qNil)) (qC (.int 2147483647))))) (u_l_deck_1 K w ))))
theorem b_l_deck {P : Program} {w : World} {K : PySem.W.Frag} {mg : Str → Option Value} {base : Heap} (T : Top K mg)  (cdv : Value) (A : Around) (outer : List Env) (s : Shared) (H : Hp) (E : XK) (hcd : PySem.W.codeIn K cdv "_law_deck" = true) (hr : RoomG 0 (A.deeper (envOfC "_law_deck" (defScope (top 18)) s.heap.objs.size (He.ga K "_law_deck") cdv))) :
    DPSs (cxOf (L2N.CX P w) P w K mg base N_l_deck "_law_deck" (defScope (top 18)) (He.ga K "_law_deck") cdv A outer s H E).nox (fun _ _ _ _ => False) (defBody (top 18)) (t_l_deck K w ) :=
  (dss_cons (ds_setLc 1 [("cell", 3)] rfl sc_l_deck.nd (sw_true rfl rfl rfl (by decide +kernel)) (di_seq (d_slice dslU (dv 0) dO_none (dO_some d_int))) (blkOk_by (own := [("cell", 3)]) (by first | rfl | kernel_rfl)) (fun _ _ _ _ _ => (dg_name 3 sc_l_deck.nd)) (fun _ _ _ _ _ => dts_nil) (fun _ _ _ _ _ => (d_callB (x := "abs") dc_abs (by rfl) T.f_abs rfl (da_cons (d_callTy (x := "int") dc_int (by rfl) T.f_int rfl (da_cons (dv 3) da_nil)) da_nil)))) (dss_cons (ds_set 2 sc_l_deck.nd (d_op do_addU d_int (d_callB (x := "len") dc_len (by rfl) T.f_len rfl (da_cons (dv 1) da_nil)))) (dss_cons (ds_for PassesOwn.never rfl (di_seq (dv 1)) (dg_name 3 sc_l_deck.nd) (dss_one (ds_set 2 sc_l_deck.nd (d_op do_mod (d_callTy (x := "int") dc_int (by rfl) T.f_int rfl (da_cons (d_op do_addU (d_op do_addU (d_op do_mul (dv 2) d_int) (dv 3)) d_int) da_nil)) d_int)))) (dss_one (ds_ret (d_disp (dps_cons d_str (d_lc [("cell", 3)] rfl sc_l_deck.nd (di_seq (dv 1)) (blkOk_by (own := [("cell", 3)]) (by first | rfl | kernel_rfl)) (fun _ _ _ _ _ => (dg_name 3 sc_l_deck.nd)) (fun _ _ _ _ _ => (dts_one (dt_cmp do_ge (dv 3) (d_op do_pow d_int d_int)))) (fun _ _ _ _ _ => (dv 3))) (dps_cons d_str d_int (dps_cons d_str (dv 2) dps_nil)))))))))
/-! _law_draw -/
def N_l_draw : List Str := ["deck", "many", "rest"]
theorem sc_l_draw : FnScope ["deck", "many", "rest"] ["deck", "many"] (defScope (top 19)) := ⟨rfl, rfl, rfl, by decide +kernel, rfl, by decide +kernel, by decide +kernel⟩
def u_l_draw_1 (K : PySem.W.Frag) (w : World)  : DS := (qSeq (qPut (qOp (rII (fun _ j => 0 < j) fun i j => .int (i % j)) (qCB rInt (qCons (qOp rAddU (qOp (rII CMul fun i j => .int (i * j)) (qOp rIxU (qVar 0) (qC (.str "seed"))) (qC (.int 48271))) (qC (.int 12345))) qNil)) (qC (.int 2147483647))) (qVar 0) (qC (.str "seed"))) (qRet (qOp (rII (fun _ j => 0 < j) fun i j => .int (i % j)) (qOp (rII CDiv fun i j => .int (i / j)) (qOp (rII (fun _ j => 0 < j) fun i j => .int (i % j)) (qCB rInt (qCons (qOp (rII CMul fun i j => .int (i * j)) (qOp rIxU (qVar 0) (qC (.str "seed"))) (qC (.int 69621))) qNil)) (qC (.int 2147483629))) (qC (.int 64))) (qVar 1))))
def u_l_draw_2 (K : PySem.W.Frag) (w : World)  : DS := (qSeq (qIfS (qTest (qOp (rII0 fun i j => .bl (decide (j < i))) (qOp rIxU (qVar 0) (qC (.str "rest"))) (qC (.int 1)))) (qSeq (qSet 2 (qCB rInt (qCons (qOp rIxU (qVar 0) (qC (.str "rest"))) qNil))) (qSeq (qPut (qOp (rII CDiv fun i j => .int (i / j)) (qVar 2) (qVar 1)) (qVar 0) (qC (.str "rest"))) (qRet (qOp (rII (fun _ j => 0 < j) fun i j => .int (i % j)) (qVar 2) (qVar 1))))) qNext) (u_l_draw_1 K w ))
def t_l_draw (K : PySem.W.Frag) (w : World)  : DS := (qSeq (qIfS (qAnd (qTest (qOp (rII0 fun i j => .bl (decide (i < j))) (qOp rIxU (qVar 0) (qC (.str "rest"))) (qC (.int 2)))) (qTest (qOp (rII0 fun i j => .bl (decide (j < i))) (qCB rLen (qCons (qOp rIxU (qVar 0) (qC (.str "great"))) qNil)) (qC (.int 0))))) (qPut (qMt rPopAt (qOp rIxU (qVar 0) (qC (.str "great"))) (qCons (qC (.int 0)) qNil)) (qVar 0) (qC (.str "rest"))) qNext) (u_l_draw_2 K w ))
theorem b_l_draw {P : Program} {w : World} {K : PySem.W.Frag} {mg : Str → Option Value} {base : Heap} (T : Top K mg)  (cdv : Value) (A : Around) (outer : List Env) (s : Shared) (H : Hp) (E : XK) (hcd : PySem.W.codeIn K cdv "_law_draw" = true) (hr : RoomG 0 (A.deeper (envOfC "_law_draw" (defScope (top 19)) s.heap.objs.size (He.ga K "_law_draw") cdv))) :
    DPSs (cxOf (L2N.CX P w) P w K mg base N_l_draw "_law_draw" (defScope (top 19)) (He.ga K "_law_draw") cdv A outer s H E).nox (fun _ _ _ _ => False) (defBody (top 19)) (t_l_draw K w ) :=
  (dss_cons (ds_if (dw_and (dt_cmp do_lt (d_ix (dixU hr.u1) (dv 0) d_str) d_int) (dw_and1 (dt_cmp do_gt (d_callB (x := "len") dc_len (by rfl) T.f_len rfl (da_cons (d_ix (dixU hr.u1) (dv 0) d_str) da_nil)) d_int))).pt (dss_one (ds_put hr.u1 (d_mt PySem.F.slot_list_pop PySem.F.type_list_pop dm_popAt (d_ix (dixU hr.u1) (dv 0) d_str) (da_cons d_int da_nil)) (dv 0) d_str)) dss_nil) (dss_cons (ds_if (dt_cmp do_gt (d_ix (dixU hr.u1) (dv 0) d_str) d_int) (dss_cons (ds_set 2 sc_l_draw.nd (d_callTy (x := "int") dc_int (by rfl) T.f_int rfl (da_cons (d_ix (dixU hr.u1) (dv 0) d_str) da_nil))) (dss_cons (ds_put hr.u1 (d_op do_fdiv (dv 2) (dv 1)) (dv 0) d_str) (dss_one (ds_ret (d_op do_mod (dv 2) (dv 1)))))) dss_nil) (dss_cons (ds_put hr.u1 (d_op do_mod (d_callTy (x := "int") dc_int (by rfl) T.f_int rfl (da_cons (d_op do_addU (d_op do_mul (d_ix (dixU hr.u1) (dv 0) d_str) d_int) d_int) da_nil)) d_int) (dv 0) d_str) (dss_one (ds_ret (d_op do_mod (d_op do_fdiv (d_op do_mod (d_callTy (x := "int") dc_int (by rfl) T.f_int rfl (da_cons (d_op do_mul (d_ix (dixU hr.u1) (dv 0) d_str) d_int) da_nil)) d_int) d_int) (dv 1)))))))
/-! _law_some -/
def N_l_some : List Str := ["deck", "row"]
theorem sc_l_some : FnScope ["deck", "row"] ["deck", "row"] (defScope (top 20)) := ⟨rfl, rfl, rfl, by decide +kernel, rfl, by decide +kernel, by decide +kernel⟩
def t_l_some (K : PySem.W.Frag) (w : World) (sp_l_draw : DSp) : DS := (qRet (qOp rIxU (qVar 1) (qCB sp_l_draw (qCons (qVar 0) (qCons (qCB rLen (qCons (qVar 1) qNil)) qNil)))))
theorem b_l_some {P : Program} {w : World} {K : PySem.W.Frag} {mg : Str → Option Value} {base : Heap} (T : Top K mg) {sp_l_draw : DSp} (F_l_draw : DFn P w K mg base 1 (He.ga K "_law_draw") (fdO K (He.ga K "_law_draw")) ["deck", "many"] sp_l_draw) (cdv : Value) (A : Around) (outer : List Env) (s : Shared) (H : Hp) (E : XK) (hcd : PySem.W.codeIn K cdv "_law_some" = true) (hr : RoomG 1 (A.deeper (envOfC "_law_some" (defScope (top 20)) s.heap.objs.size (He.ga K "_law_some") cdv))) :
    DPSs (cxOf (L2N.CX P w) P w K mg base N_l_some "_law_some" (defScope (top 20)) (He.ga K "_law_some") cdv A outer s H E).nox (fun _ _ _ _ => False) (defBody (top 20)) (t_l_some K w sp_l_draw) :=
  (dss_one (ds_ret (d_ix (dixU hr.u1) (dv 1) (d_call F_l_draw rfl (hr.mono (by decide)) T.g__law_draw T.k__law_draw T.b__law_draw (da_cons (dv 0) (da_cons (d_callB (x := "len") dc_len (by rfl) T.f_len rfl (da_cons (dv 1) da_nil)) da_nil))))))
/-! _law_doors -/
def N_l_doors : List Str := ["deck", "many", "doors", "k", "name", "kind", "door"]
theorem sc_l_doors : FnScope ["deck", "many", "doors", "k", "name", "kind", "door"] ["deck", "many"] (defScope (top 21)) := ⟨rfl, rfl, rfl, by decide +kernel, rfl, by decide +kernel, by decide +kernel⟩
def u_l_doors_1 (K : PySem.W.Frag) (w : World) (sp_l_draw : DSp) : DS := (qDrop (qMt rAppend (qVar 2) (qCons (qTup (qCons (qVar 4) (qCons (qVar 5) qNil))) qNil)))
def u_l_doors_2 (K : PySem.W.Frag) (w : World) (sp_l_draw : DSp) : DS := (qSeq (qSet 5 (qC .non)) (qSeq (qIfS (qTest (qOp (rEqU false) (qCB sp_l_draw (qCons (qVar 0) (qCons (qC (.int 4)) qNil))) (qC (.int 1)))) (qSet 5 (qOp rAddU (qOp rIxU (qC (.str "ABCDEFGHIJKLMNOPQRSTUVWXYZ")) (qCB sp_l_draw (qCons (qVar 0) (qCons (qC (.int 26)) qNil)))) (qCB rStrI (qCons (qCB sp_l_draw (qCons (qVar 0) (qCons (qC (.int 10)) qNil))) qNil)))) qNext) (u_l_doors_1 K w sp_l_draw)))
def u_l_doors_3 (K : PySem.W.Frag) (w : World) (sp_l_draw : DSp) : DS := (qSeq (qIfS (qTest (qOp (rInW w false) (qVar 4) (qLc (qiSeq (qVar 2)) (.nm 6) qYes (qOp rIxU (qVar 6) (qC (.int 0))) [6]))) (qSet 4 (qOp rAddU (qOp rAddU (qVar 4) (qC (.str "_"))) (qCB rStrI (qCons (qVar 3) qNil)))) qNext) (u_l_doors_2 K w sp_l_draw))
def u_l_doors_4 (K : PySem.W.Frag) (w : World) (sp_l_draw : DSp) : DS := (qRet (qVar 2))
def t_l_doors (K : PySem.W.Frag) (w : World) (sp_l_draw : DSp) : DS := (qSeq (qSet 2 (qLst qNil)) (qSeq (qFor (qiRange1 (qCons (qVar 1) qNil)) (.nm 3) (qSeq (qSet 4 (qOp rIxU (qC (.str "abcdefghijklmnopqrstuvwxyz")) (qCB sp_l_draw (qCons (qVar 0) (qCons (qC (.int 26)) qNil))))) (qSeq (qIfS (qTest (qOp (rEqU false) (qCB sp_l_draw (qCons (qVar 0) (qCons (qC (.int 2)) qNil))) (qC (.int 1)))) (qSet 4 (qOp rAddU (qVar 4) (qCB rStrI (qCons (qCB sp_l_draw (qCons (qVar 0) (qCons (qC (.int 100)) qNil))) qNil)))) qNext) (u_l_doors_3 K w sp_l_draw)))) (u_l_doors_4 K w sp_l_draw)))
theorem b_l_doors {P : Program} {w : World} {K : PySem.W.Frag} {mg : Str → Option Value} {base : Heap} (T : Top K mg) {sp_l_draw : DSp} (F_l_draw : DFn P w K mg base 1 (He.ga K "_law_draw") (fdO K (He.ga K "_law_draw")) ["deck", "many"] sp_l_draw) (cdv : Value) (A : Around) (outer : List Env) (s : Shared) (H : Hp) (E : XK) (hcd : PySem.W.codeIn K cdv "_law_doors" = true) (hr : RoomG 1 (A.deeper (envOfC "_law_doors" (defScope (top 21)) s.heap.objs.size (He.ga K "_law_doors") cdv))) :
    DPSs (cxOf (L2N.CX P w) P w K mg base N_l_doors "_law_doors" (defScope (top 21)) (He.ga K "_law_doors") cdv A outer s H E).nox (fun _ _ _ _ => False) (defBody (top 21)) (t_l_doors K w sp_l_draw) :=
  (dss_cons (ds_set 2 sc_l_doors.nd (d_lst da_nil)) (dss_cons (ds_for PassesOwn.never rfl (di_range1 T.f_range (da_cons (dv 1) da_nil)) (dg_name 3 sc_l_doors.nd) (dss_cons (ds_set 4 sc_l_doors.nd (d_ix (dixU hr.u1) d_str (d_call F_l_draw rfl (hr.mono (by decide)) T.g__law_draw T.k__law_draw T.b__law_draw (da_cons (dv 0) (da_cons d_int da_nil))))) (dss_cons (ds_if (dt_cmp (do_eqU hr.units) (d_call F_l_draw rfl (hr.mono (by decide)) T.g__law_draw T.k__law_draw T.b__law_draw (da_cons (dv 0) (da_cons d_int da_nil))) d_int) (dss_one (ds_set 4 sc_l_doors.nd (d_op do_addU (dv 4) (d_callTy (x := "str") dc_str (by rfl) T.f_str rfl (da_cons (d_call F_l_draw rfl (hr.mono (by decide)) T.g__law_draw T.k__law_draw T.b__law_draw (da_cons (dv 0) (da_cons d_int da_nil))) da_nil))))) dss_nil) (dss_cons (ds_if (dt_cmp (do_inW hr.u1) (dv 4) (d_lc [("door", 6)] rfl sc_l_doors.nd (di_seq (dv 2)) (blkOk_by (own := [("door", 6)]) (by first | rfl | kernel_rfl)) (fun _ _ _ _ _ => (dg_name 6 sc_l_doors.nd)) (fun _ _ _ _ _ => dts_nil) (fun _ _ _ _ _ => (d_ix (dixU hr.u1) (dv 6) d_int)))) (dss_one (ds_set 4 sc_l_doors.nd (d_op do_addU (d_op do_addU (dv 4) d_str) (d_callTy (x := "str") dc_str (by rfl) T.f_str rfl (da_cons (dv 3) da_nil))))) dss_nil) (dss_cons (ds_set 5 sc_l_doors.nd d_non) (dss_cons (ds_if (dt_cmp (do_eqU hr.units) (d_call F_l_draw rfl (hr.mono (by decide)) T.g__law_draw T.k__law_draw T.b__law_draw (da_cons (dv 0) (da_cons d_int da_nil))) d_int) (dss_one (ds_set 5 sc_l_doors.nd (d_op do_addU (d_ix (dixU hr.u1) d_str (d_call F_l_draw rfl (hr.mono (by decide)) T.g__law_draw T.k__law_draw T.b__law_draw (da_cons (dv 0) (da_cons d_int da_nil)))) (d_callTy (x := "str") dc_str (by rfl) T.f_str rfl (da_cons (d_call F_l_draw rfl (hr.mono (by decide)) T.g__law_draw T.k__law_draw T.b__law_draw (da_cons (dv 0) (da_cons d_int da_nil))) da_nil))))) dss_nil) (dss_one (ds_expr (d_mt PySem.F.slot_list_append PySem.F.type_list_append dm_append (dv 2) (da_cons (d_tup (da_cons (dv 4) (da_cons (dv 5) da_nil))) da_nil)))))))))) (dss_one (ds_ret (dv 2)))))
/-! _law_events -/
def N_l_events : List Str := ["doors", "events", "name", "kind"]
theorem sc_l_events : FnScope ["doors", "events", "name", "kind"] ["doors"] (defScope (top 22)) := ⟨rfl, rfl, rfl, by decide +kernel, rfl, by decide +kernel, by decide +kernel⟩
def u_l_events_1 (K : PySem.W.Frag) (w : World)  : DS := (qRet (qCB (rSortedU w) (qCons (qVar 1) qNil)))
def t_l_events (K : PySem.W.Frag) (w : World)  : DS := (qSeq (qSet 1 (qLst qNil)) (qSeq (qFor (qiSeq (qVar 0)) (.tp [2, 3]) (qIfS (qTest (qOp rIsN (qVar 3) (qC .non))) (qDrop (qMt rAppend (qVar 1) (qCons (qTup (qCons (qVar 2) (qCons (qC .non) qNil))) qNil))) (qIfS (qTest (qOp (rEqU false) (qOp (rII (fun _ j => 0 < j) fun i j => .int (i % j)) (qCB rInt (qCons (qSl rSlU (qVar 3) (qPart (qC (.int 1))) qNoPart) qNil)) (qC (.int 2))) (qC (.int 0)))) (qDrop (qMt rExtend (qVar 1) (qCons (qLst (qCons (qTup (qCons (qVar 2) (qCons (qC (.int 0)) qNil))) (qCons (qTup (qCons (qVar 2) (qCons (qC (.int 1)) qNil))) qNil))) qNil))) (qDrop (qMt rExtend (qVar 1) (qCons (qLst (qCons (qTup (qCons (qVar 2) (qCons (qOp rAddU (qVar 3) (qC (.str "no"))) qNil))) (qCons (qTup (qCons (qVar 2) (qCons (qOp rAddU (qVar 3) (qC (.str "yes"))) qNil))) qNil))) qNil)))))) (u_l_events_1 K w )))
theorem b_l_events {P : Program} {w : World} {K : PySem.W.Frag} {mg : Str → Option Value} {base : Heap} (T : Top K mg)  (cdv : Value) (A : Around) (outer : List Env) (s : Shared) (H : Hp) (E : XK) (hcd : PySem.W.codeIn K cdv "_law_events" = true) (hr : RoomG 0 (A.deeper (envOfC "_law_events" (defScope (top 22)) s.heap.objs.size (He.ga K "_law_events") cdv))) :
    DPSs (cxOf (L2N.CX P w) P w K mg base N_l_events "_law_events" (defScope (top 22)) (He.ga K "_law_events") cdv A outer s H E).nox (fun _ _ _ _ => False) (defBody (top 22)) (t_l_events K w ) :=
  (dss_cons (ds_set 1 sc_l_events.nd (d_lst da_nil)) (dss_cons (ds_for PassesOwn.never rfl (di_seq (dv 0)) (dg_pair 2 3 rfl sc_l_events.nd) (dss_one (ds_if (dt_cmp do_isN (dv 3) d_non) (dss_one (ds_expr (d_mt PySem.F.slot_list_append PySem.F.type_list_append dm_append (dv 1) (da_cons (d_tup (da_cons (dv 2) (da_cons d_non da_nil))) da_nil)))) (dss_one (ds_if (dt_cmp (do_eqU hr.units) (d_op do_mod (d_callTy (x := "int") dc_int (by rfl) T.f_int rfl (da_cons (d_slice dslU (dv 3) (dO_some d_int) dO_none) da_nil)) d_int) d_int) (dss_one (ds_expr (d_mt PySem.F.slot_list_extend PySem.F.type_list_extend dm_extend (dv 1) (da_cons (d_lst (da_cons (d_tup (da_cons (dv 2) (da_cons d_int da_nil))) (da_cons (d_tup (da_cons (dv 2) (da_cons d_int da_nil))) da_nil))) da_nil)))) (dss_one (ds_expr (d_mt PySem.F.slot_list_extend PySem.F.type_list_extend dm_extend (dv 1) (da_cons (d_lst (da_cons (d_tup (da_cons (dv 2) (da_cons (d_op do_addU (dv 3) d_str) da_nil))) (da_cons (d_tup (da_cons (dv 2) (da_cons (d_op do_addU (dv 3) d_str) da_nil))) da_nil))) da_nil))))))))) (dss_one (ds_ret (d_callB (x := "sorted") (dc_sortedU rfl hr.units) (by rfl) T.f_sorted rfl (da_cons (dv 1) da_nil))))))
/-! _law_world -/
def N_l_world : List Str := ["deck", "most", "doors", "cut"]
theorem sc_l_world : FnScope ["deck", "most", "doors", "cut"] ["deck", "most"] (defScope (top 23)) := ⟨rfl, rfl, rfl, by decide +kernel, rfl, by decide +kernel, by decide +kernel⟩
def t_l_world (K : PySem.W.Frag) (w : World) (sp_l_draw : DSp) (sp_l_doors : DSp) : DS := (qSeq (qSet 2 (qCB sp_l_doors (qCons (qVar 0) (qCons (qOp rAddU (qC (.int 1)) (qCB sp_l_draw (qCons (qVar 0) (qCons (qVar 1) qNil)))) qNil)))) (qSeq (qSet 3 (qCB sp_l_draw (qCons (qVar 0) (qCons (qOp rAddU (qCB rLen (qCons (qVar 2) qNil)) (qC (.int 1))) qNil)))) (qRet (qLst (qCons (qCB rTuple (qCons (qCB (rSortedU w) (qCons (qSl rSlU (qVar 2) qNoPart (qPart (qVar 3))) qNil)) qNil)) (qCons (qCB rTuple (qCons (qCB (rSortedU w) (qCons (qSl rSlU (qVar 2) (qPart (qVar 3)) qNoPart) qNil)) qNil)) qNil))))))
theorem b_l_world {P : Program} {w : World} {K : PySem.W.Frag} {mg : Str → Option Value} {base : Heap} (T : Top K mg) {sp_l_draw : DSp} (F_l_draw : DFn P w K mg base 1 (He.ga K "_law_draw") (fdO K (He.ga K "_law_draw")) ["deck", "many"] sp_l_draw) {sp_l_doors : DSp} (F_l_doors : DFn P w K mg base 2 (He.ga K "_law_doors") (fdO K (He.ga K "_law_doors")) ["deck", "many"] sp_l_doors) (cdv : Value) (A : Around) (outer : List Env) (s : Shared) (H : Hp) (E : XK) (hcd : PySem.W.codeIn K cdv "_law_world" = true) (hr : RoomG 2 (A.deeper (envOfC "_law_world" (defScope (top 23)) s.heap.objs.size (He.ga K "_law_world") cdv))) :
    DPSs (cxOf (L2N.CX P w) P w K mg base N_l_world "_law_world" (defScope (top 23)) (He.ga K "_law_world") cdv A outer s H E).nox (fun _ _ _ _ => False) (defBody (top 23)) (t_l_world K w sp_l_draw sp_l_doors) :=
  (dss_cons (ds_set 2 sc_l_world.nd (d_call F_l_doors rfl (hr.mono (by decide)) T.g__law_doors T.k__law_doors T.b__law_doors (da_cons (dv 0) (da_cons (d_op do_addU d_int (d_call F_l_draw rfl (hr.mono (by decide)) T.g__law_draw T.k__law_draw T.b__law_draw (da_cons (dv 0) (da_cons (dv 1) da_nil)))) da_nil)))) (dss_cons (ds_set 3 sc_l_world.nd (d_call F_l_draw rfl (hr.mono (by decide)) T.g__law_draw T.k__law_draw T.b__law_draw (da_cons (dv 0) (da_cons (d_op do_addU (d_callB (x := "len") dc_len (by rfl) T.f_len rfl (da_cons (dv 2) da_nil)) d_int) da_nil)))) (dss_one (ds_ret (d_lst (da_cons (d_callTy (x := "tuple") dc_tuple (by rfl) T.f_tuple rfl (da_cons (d_callB (x := "sorted") (dc_sortedU rfl hr.units) (by rfl) T.f_sorted rfl (da_cons (d_slice dslU (dv 2) dO_none (dO_some (dv 3))) da_nil)) da_nil)) (da_cons (d_callTy (x := "tuple") dc_tuple (by rfl) T.f_tuple rfl (da_cons (d_callB (x := "sorted") (dc_sortedU rfl hr.units) (by rfl) T.f_sorted rfl (da_cons (d_slice dslU (dv 2) (dO_some (dv 3)) dO_none) da_nil)) da_nil)) da_nil)))))))
/-! _law_pack -/
def N_l_pack : List Str := ["rows", "row"]
theorem sc_l_pack : FnScope ["rows", "row"] ["rows"] (defScope (top 24)) := ⟨rfl, rfl, rfl, by decide +kernel, rfl, by decide +kernel, by decide +kernel⟩
def t_l_pack (K : PySem.W.Frag) (w : World)  : DS := (qRet (qCB rTuple (qCons (qLc (qiSeq (qVar 0)) (.nm 1) qYes (qCB rTuple (qCons (qCB (rSortedU w) (qCons (qCB (rSetN w) (qCons (qVar 1) qNil)) qNil)) qNil)) [1]) qNil)))
theorem b_l_pack {P : Program} {w : World} {K : PySem.W.Frag} {mg : Str → Option Value} {base : Heap} (T : Top K mg)  (cdv : Value) (A : Around) (outer : List Env) (s : Shared) (H : Hp) (E : XK) (hcd : PySem.W.codeIn K cdv "_law_pack" = true) (hr : RoomG 0 (A.deeper (envOfC "_law_pack" (defScope (top 24)) s.heap.objs.size (He.ga K "_law_pack") cdv))) :
    DPSs (cxOf (L2N.CX P w) P w K mg base N_l_pack "_law_pack" (defScope (top 24)) (He.ga K "_law_pack") cdv A outer s H E).nox (fun _ _ _ _ => False) (defBody (top 24)) (t_l_pack K w ) :=
  (dss_one (ds_ret (d_callTy (x := "tuple") dc_tuple (by rfl) T.f_tuple rfl (da_cons (d_lc [("row", 1)] rfl sc_l_pack.nd (di_seq (dv 0)) (blkOk_by (own := [("row", 1)]) (by first | rfl | kernel_rfl)) (fun _ _ _ _ _ => (dg_name 1 sc_l_pack.nd)) (fun _ _ _ _ _ => dts_nil) (fun _ _ _ _ _ => (d_callTy (x := "tuple") dc_tuple (by rfl) T.f_tuple rfl (da_cons (d_callB (x := "sorted") (dc_sortedU rfl hr.units) (by rfl) T.f_sorted rfl (da_cons (d_callTy (x := "set") (dc_set rfl hr.units) (by rfl) T.f_set rfl (da_cons (dv 1) da_nil)) da_nil)) da_nil)))) da_nil))))
/-! _law_rows -/
def N_l_rows : List Str := ["deck", "labels", "many", "extra", "rows", "k", "row"]
theorem sc_l_rows : FnScope ["deck", "labels", "many", "extra", "rows", "k", "row"] ["deck", "labels", "many", "extra"] (defScope (top 25)) := ⟨rfl, rfl, rfl, by decide +kernel, rfl, by decide +kernel, by decide +kernel⟩
def u_l_rows_1 (K : PySem.W.Frag) (w : World) (sp_l_draw : DSp) (sp_l_some : DSp) (sp_l_pack : DSp) : DS := (qRet (qCB sp_l_pack (qCons (qVar 4) qNil)))
def u_l_rows_2 (K : PySem.W.Frag) (w : World) (sp_l_draw : DSp) (sp_l_some : DSp) (sp_l_pack : DSp) : DS := (qSeq (qFor (qiRange1 (qCons (qVar 3) qNil)) (.nm 5) (qSeq (qSet 6 (qOp rIxU (qVar 4) (qCB sp_l_draw (qCons (qVar 0) (qCons (qVar 2) qNil))))) (qDrop (qMt rAppend (qVar 6) (qCons (qTup (qCons (qCB sp_l_some (qCons (qVar 0) (qCons (qVar 1) qNil))) (qCons (qCB sp_l_draw (qCons (qVar 0) (qCons (qVar 2) qNil))) qNil))) qNil))))) (u_l_rows_1 K w sp_l_draw sp_l_some sp_l_pack))
def t_l_rows (K : PySem.W.Frag) (w : World) (sp_l_draw : DSp) (sp_l_some : DSp) (sp_l_pack : DSp) : DS := (qSeq (qSet 4 (qLc (qiRange1 (qCons (qVar 2) qNil)) (.nm 5) qYes (qLst qNil) [5])) (qSeq (qFor (qiRange2 (qCons (qC (.int 1)) (qCons (qVar 2) qNil))) (.nm 5) (qSeq (qSet 6 (qOp rIxU (qVar 4) (qCB sp_l_draw (qCons (qVar 0) (qCons (qVar 5) qNil))))) (qDrop (qMt rAppend (qVar 6) (qCons (qTup (qCons (qCB sp_l_some (qCons (qVar 0) (qCons (qVar 1) qNil))) (qCons (qVar 5) qNil))) qNil))))) (u_l_rows_2 K w sp_l_draw sp_l_some sp_l_pack)))
theorem b_l_rows {P : Program} {w : World} {K : PySem.W.Frag} {mg : Str → Option Value} {base : Heap} (T : Top K mg) {sp_l_draw : DSp} (F_l_draw : DFn P w K mg base 1 (He.ga K "_law_draw") (fdO K (He.ga K "_law_draw")) ["deck", "many"] sp_l_draw) {sp_l_some : DSp} (F_l_some : DFn P w K mg base 2 (He.ga K "_law_some") (fdO K (He.ga K "_law_some")) ["deck", "row"] sp_l_some) {sp_l_pack : DSp} (F_l_pack : DFn P w K mg base 1 (He.ga K "_law_pack") (fdO K (He.ga K "_law_pack")) ["rows"] sp_l_pack) (cdv : Value) (A : Around) (outer : List Env) (s : Shared) (H : Hp) (E : XK) (hcd : PySem.W.codeIn K cdv "_law_rows" = true) (hr : RoomG 2 (A.deeper (envOfC "_law_rows" (defScope (top 25)) s.heap.objs.size (He.ga K "_law_rows") cdv))) :
    DPSs (cxOf (L2N.CX P w) P w K mg base N_l_rows "_law_rows" (defScope (top 25)) (He.ga K "_law_rows") cdv A outer s H E).nox (fun _ _ _ _ => False) (defBody (top 25)) (t_l_rows K w sp_l_draw sp_l_some sp_l_pack) :=
  (dss_cons (ds_setLc 4 [("k", 5)] rfl sc_l_rows.nd (sw_true rfl rfl rfl (by decide +kernel)) (di_range1 T.f_range (da_cons (dv 2) da_nil)) (blkOk_by (own := [("k", 5)]) (by first | rfl | kernel_rfl)) (fun _ _ _ _ _ => (dg_name 5 sc_l_rows.nd)) (fun _ _ _ _ _ => dts_nil) (fun _ _ _ _ _ => (d_lst da_nil))) (dss_cons (ds_for PassesOwn.never rfl (di_range2 T.f_range (da_cons d_int (da_cons (dv 2) da_nil))) (dg_name 5 sc_l_rows.nd) (dss_cons (ds_set 6 sc_l_rows.nd (d_ix (dixU hr.u1) (dv 4) (d_call F_l_draw rfl (hr.mono (by decide)) T.g__law_draw T.k__law_draw T.b__law_draw (da_cons (dv 0) (da_cons (dv 5) da_nil))))) (dss_one (ds_expr (d_mt PySem.F.slot_list_append PySem.F.type_list_append dm_append (dv 6) (da_cons (d_tup (da_cons (d_call F_l_some rfl (hr.mono (by decide)) T.g__law_some T.k__law_some T.b__law_some (da_cons (dv 0) (da_cons (dv 1) da_nil))) (da_cons (dv 5) da_nil))) da_nil)))))) (dss_cons (ds_for PassesOwn.never rfl (di_range1 T.f_range (da_cons (dv 3) da_nil)) (dg_name 5 sc_l_rows.nd) (dss_cons (ds_set 6 sc_l_rows.nd (d_ix (dixU hr.u1) (dv 4) (d_call F_l_draw rfl (hr.mono (by decide)) T.g__law_draw T.k__law_draw T.b__law_draw (da_cons (dv 0) (da_cons (dv 2) da_nil))))) (dss_one (ds_expr (d_mt PySem.F.slot_list_append PySem.F.type_list_append dm_append (dv 6) (da_cons (d_tup (da_cons (d_call F_l_some rfl (hr.mono (by decide)) T.g__law_some T.k__law_some T.b__law_some (da_cons (dv 0) (da_cons (dv 1) da_nil))) (da_cons (d_call F_l_draw rfl (hr.mono (by decide)) T.g__law_draw T.k__law_draw T.b__law_draw (da_cons (dv 0) (da_cons (dv 2) da_nil))) da_nil))) da_nil)))))) (dss_one (ds_ret (d_call F_l_pack rfl (hr.mono (by decide)) T.g__law_pack T.k__law_pack T.b__law_pack (da_cons (dv 4) da_nil)))))))
/-! _law_reached -/
def N_l_reached : List Str := ["rows", "todo", "met", "step", "k"]
theorem sc_l_reached : FnScope ["rows", "todo", "met", "step", "k"] ["rows"] (defScope (top 26)) := ⟨rfl, rfl, rfl, by decide +kernel, rfl, by decide +kernel, by decide +kernel⟩
def u_l_reached_1 (K : PySem.W.Frag) (w : World)  : DS := (qRet (qLc (qiRange1 (qCons (qCB rLen (qCons (qVar 0) qNil)) qNil)) (.nm 4) (qTru (qOp rIxU (qVar 2) (qVar 4))) (qVar 4) [4]))
def t_l_reached (K : PySem.W.Frag) (w : World)  : DS := (qSeq (qSet 1 (qLst (qCons (qC (.int 0)) qNil))) (qSeq (qSet 2 (qLc (qiRange1 (qCons (qCB rLen (qCons (qVar 0) qNil)) qNil)) (.nm 4) qYes (qOp (rEqU false) (qVar 4) (qC (.int 0))) [4])) (qSeq (qWhile (qTest (qOp (rII0 fun i j => .bl (decide (j < i))) (qCB rLen (qCons (qVar 1) qNil)) (qC (.int 0)))) (qFor (qiSeq (qOp rIxU (qVar 0) (qMt rPop (qVar 1) qNil))) (.nm 3) (qIfS (qNot (qTru (qOp rIxU (qVar 2) (qOp rIxU (qVar 3) (qC (.int 1)))))) (qSeq (qPut (qC (.bl true)) (qVar 2) (qOp rIxU (qVar 3) (qC (.int 1)))) (qDrop (qMt rAppend (qVar 1) (qCons (qOp rIxU (qVar 3) (qC (.int 1))) qNil)))) qNext))) (u_l_reached_1 K w ))))
theorem b_l_reached {P : Program} {w : World} {K : PySem.W.Frag} {mg : Str → Option Value} {base : Heap} (T : Top K mg)  (cdv : Value) (A : Around) (outer : List Env) (s : Shared) (H : Hp) (E : XK) (hcd : PySem.W.codeIn K cdv "_law_reached" = true) (hr : RoomG 0 (A.deeper (envOfC "_law_reached" (defScope (top 26)) s.heap.objs.size (He.ga K "_law_reached") cdv))) :
    DPSs (cxOf (L2N.CX P w) P w K mg base N_l_reached "_law_reached" (defScope (top 26)) (He.ga K "_law_reached") cdv A outer s H E).nox (fun _ _ _ _ => False) (defBody (top 26)) (t_l_reached K w ) :=
  (dss_cons (ds_set 1 sc_l_reached.nd (d_lst (da_cons d_int da_nil))) (dss_cons (ds_set 2 sc_l_reached.nd (d_lc [("k", 4)] rfl sc_l_reached.nd (di_range1 T.f_range (da_cons (d_callB (x := "len") dc_len (by rfl) T.f_len rfl (da_cons (dv 0) da_nil)) da_nil)) (blkOk_by (own := [("k", 4)]) (by first | rfl | kernel_rfl)) (fun _ _ _ _ _ => (dg_name 4 sc_l_reached.nd)) (fun _ _ _ _ _ => dts_nil) (fun _ _ _ _ _ => (d_cmp (do_eqU hr.units) (dv 4) d_int)))) (dss_cons (ds_while PassesOwn.never (dt_cmp do_gt (d_callB (x := "len") dc_len (by rfl) T.f_len rfl (da_cons (dv 1) da_nil)) d_int) (dss_one (ds_for PassesOwn.never rfl (di_seq (d_ix (dixU hr.u1) (dv 0) (d_mt0 PySem.F.slot_list_pop PySem.F.type_list_pop dm_pop (dv 1)))) (dg_name 3 sc_l_reached.nd) (dss_one (ds_if (dt_not (dt_tru (d_ix (dixU hr.u1) (dv 2) (d_ix (dixU hr.u1) (dv 3) d_int)))) (dss_cons (ds_put hr.u1 d_bl (dv 2) (d_ix (dixU hr.u1) (dv 3) d_int)) (dss_one (ds_expr (d_mt PySem.F.slot_list_append PySem.F.type_list_append dm_append (dv 1) (da_cons (d_ix (dixU hr.u1) (dv 3) d_int) da_nil))))) dss_nil))))) (dss_one (ds_ret (d_lc [("k", 4)] rfl sc_l_reached.nd (di_range1 T.f_range (da_cons (d_callB (x := "len") dc_len (by rfl) T.f_len rfl (da_cons (dv 0) da_nil)) da_nil)) (blkOk_by (own := [("k", 4)]) (by first | rfl | kernel_rfl)) (fun _ _ _ _ _ => (dg_name 4 sc_l_reached.nd)) (fun _ _ _ _ _ => (dts_one (dt_tru (d_ix (dixU hr.u1) (dv 2) (dv 4))))) (fun _ _ _ _ _ => (dv 4))))))))
/-! _law_packed -/
def N_l_packed : List Str := ["rows", "kept", "place", "k", "at", "step"]
theorem sc_l_packed : FnScope ["rows", "kept", "place", "k", "at", "step"] ["rows", "kept"] (defScope (top 27)) := ⟨rfl, rfl, rfl, by decide +kernel, rfl, by decide +kernel, by decide +kernel⟩
def u_l_packed_1 (K : PySem.W.Frag) (w : World) (sp_l_pack : DSp) : DS := (qRet (qCB sp_l_pack (qCons (qLc (qiSeq (qVar 1)) (.nm 4) qYes (qLc (qiSeq (qOp rIxU (qVar 0) (qVar 4))) (.nm 5) qYes (qTup (qCons (qOp rIxU (qVar 5) (qC (.int 0))) (qCons (qOp rIxU (qVar 2) (qOp rIxU (qVar 5) (qC (.int 1)))) qNil))) [5]) [4]) qNil)))
def t_l_packed (K : PySem.W.Frag) (w : World) (sp_l_pack : DSp) : DS := (qSeq (qSet 2 qDNew) (qSeq (qFor (qiRange1 (qCons (qCB rLen (qCons (qVar 1) qNil)) qNil)) (.nm 3) (qPut (qVar 3) (qVar 2) (qOp rIxU (qVar 1) (qVar 3)))) (u_l_packed_1 K w sp_l_pack)))
theorem b_l_packed {P : Program} {w : World} {K : PySem.W.Frag} {mg : Str → Option Value} {base : Heap} (T : Top K mg) {sp_l_pack : DSp} (F_l_pack : DFn P w K mg base 1 (He.ga K "_law_pack") (fdO K (He.ga K "_law_pack")) ["rows"] sp_l_pack) (cdv : Value) (A : Around) (outer : List Env) (s : Shared) (H : Hp) (E : XK) (hcd : PySem.W.codeIn K cdv "_law_packed" = true) (hr : RoomG 1 (A.deeper (envOfC "_law_packed" (defScope (top 27)) s.heap.objs.size (He.ga K "_law_packed") cdv))) :
    DPSs (cxOf (L2N.CX P w) P w K mg base N_l_packed "_law_packed" (defScope (top 27)) (He.ga K "_law_packed") cdv A outer s H E).nox (fun _ _ _ _ => False) (defBody (top 27)) (t_l_packed K w sp_l_pack) :=
  (dss_cons (ds_set 2 sc_l_packed.nd d_dnew) (dss_cons (ds_for PassesOwn.never rfl (di_range1 T.f_range (da_cons (d_callB (x := "len") dc_len (by rfl) T.f_len rfl (da_cons (dv 1) da_nil)) da_nil)) (dg_name 3 sc_l_packed.nd) (dss_one (ds_put hr.u1 (dv 3) (dv 2) (d_ix (dixU hr.u1) (dv 1) (dv 3))))) (dss_one (ds_ret (d_call F_l_pack rfl (hr.mono (by decide)) T.g__law_pack T.k__law_pack T.b__law_pack (da_cons (d_lc [("at", 4)] rfl sc_l_packed.nd (di_seq (dv 1)) (blkOk_by (own := [("at", 4)]) (by first | rfl | kernel_rfl)) (fun _ _ _ _ _ => (dg_name 4 sc_l_packed.nd)) (fun _ _ _ _ _ => dts_nil) (fun _ _ _ _ _ => (d_lc [("step", 5)] rfl sc_l_packed.nd (di_seq (d_ix (dixU hr.u1) (dv 0) (dv 4))) (blkOk_by (own := [("step", 5)]) (by first | rfl | kernel_rfl)) (fun _ _ _ _ _ => (dg_name 5 sc_l_packed.nd)) (fun _ _ _ _ _ => dts_nil) (fun _ _ _ _ _ => (d_tup (da_cons (d_ix (dixU hr.u1) (dv 5) d_int) (da_cons (d_ix (dixU hr.u1) (dv 2) (d_ix (dixU hr.u1) (dv 5) d_int)) da_nil))))))) da_nil))))))
/-! _law_swapped -/
def N_l_swapped : List Str := ["one", "two", "pairs", "many", "rows", "row", "at", "by", "step"]
theorem sc_l_swapped : FnScope ["one", "two", "pairs", "many", "rows", "row", "at", "by", "step"] ["one", "two", "pairs"] (defScope (top 28)) := ⟨rfl, rfl, rfl, by decide +kernel, rfl, by decide +kernel, by decide +kernel⟩
def u_l_swapped_1 (K : PySem.W.Frag) (w : World) (sp_l_reached : DSp) (sp_l_packed : DSp) : DS := (qRet (qCB sp_l_packed (qCons (qVar 4) (qCons (qCB sp_l_reached (qCons (qVar 4) qNil)) qNil))))
def u_l_swapped_2 (K : PySem.W.Frag) (w : World) (sp_l_reached : DSp) (sp_l_packed : DSp) : DS := (qSeq (qFor (qiSeq (qVar 2)) (.tp [6, 7]) (qSeq (qSet 5 (qOp rIxU (qVar 4) (qVar 6))) (qDrop (qMt rAppend (qVar 5) (qCons (qTup (qCons (qTup (qCons (qC (.str "")) (qCons (qC (.str "quiet")) qNil))) (qCons (qOp rAddU (qVar 3) (qVar 7)) qNil))) qNil))))) (u_l_swapped_1 K w sp_l_reached sp_l_packed))
def t_l_swapped (K : PySem.W.Frag) (w : World) (sp_l_reached : DSp) (sp_l_packed : DSp) : DS := (qSeq (qSet 3 (qCB rLen (qCons (qVar 0) qNil))) (qSeq (qSet 4 (qLc (qiSeq (qVar 0)) (.nm 5) qYes (qCB rList (qCons (qVar 5) qNil)) [5])) (qSeq (qFor (qiSeq (qVar 1)) (.nm 5) (qDrop (qMt rAppend (qVar 4) (qCons (qLc (qiSeq (qVar 5)) (.nm 8) qYes (qTup (qCons (qOp rIxU (qVar 8) (qC (.int 0))) (qCons (qOp rAddU (qVar 3) (qOp rIxU (qVar 8) (qC (.int 1)))) qNil))) [8]) qNil)))) (u_l_swapped_2 K w sp_l_reached sp_l_packed))))
theorem b_l_swapped {P : Program} {w : World} {K : PySem.W.Frag} {mg : Str → Option Value} {base : Heap} (T : Top K mg) {sp_l_reached : DSp} (F_l_reached : DFn P w K mg base 1 (He.ga K "_law_reached") (fdO K (He.ga K "_law_reached")) ["rows"] sp_l_reached) {sp_l_packed : DSp} (F_l_packed : DFn P w K mg base 2 (He.ga K "_law_packed") (fdO K (He.ga K "_law_packed")) ["rows", "kept"] sp_l_packed) (cdv : Value) (A : Around) (outer : List Env) (s : Shared) (H : Hp) (E : XK) (hcd : PySem.W.codeIn K cdv "_law_swapped" = true) (hr : RoomG 2 (A.deeper (envOfC "_law_swapped" (defScope (top 28)) s.heap.objs.size (He.ga K "_law_swapped") cdv))) :
    DPSs (cxOf (L2N.CX P w) P w K mg base N_l_swapped "_law_swapped" (defScope (top 28)) (He.ga K "_law_swapped") cdv A outer s H E).nox (fun _ _ _ _ => False) (defBody (top 28)) (t_l_swapped K w sp_l_reached sp_l_packed) :=
  (dss_cons (ds_set 3 sc_l_swapped.nd (d_callB (x := "len") dc_len (by rfl) T.f_len rfl (da_cons (dv 0) da_nil))) (dss_cons (ds_setLc 4 [("row", 5)] rfl sc_l_swapped.nd (sw_true rfl rfl rfl (by decide +kernel)) (di_seq (dv 0)) (blkOk_by (own := [("row", 5)]) (by first | rfl | kernel_rfl)) (fun _ _ _ _ _ => (dg_name 5 sc_l_swapped.nd)) (fun _ _ _ _ _ => dts_nil) (fun _ _ _ _ _ => (d_callTy (x := "list") dc_list (by rfl) T.f_list rfl (da_cons (dv 5) da_nil)))) (dss_cons (ds_for PassesOwn.never rfl (di_seq (dv 1)) (dg_name 5 sc_l_swapped.nd) (dss_one (ds_expr (d_mt PySem.F.slot_list_append PySem.F.type_list_append dm_append (dv 4) (da_cons (d_lc [("step", 8)] rfl sc_l_swapped.nd (di_seq (dv 5)) (blkOk_by (own := [("step", 8)]) (by first | rfl | kernel_rfl)) (fun _ _ _ _ _ => (dg_name 8 sc_l_swapped.nd)) (fun _ _ _ _ _ => dts_nil) (fun _ _ _ _ _ => (d_tup (da_cons (d_ix (dixU hr.u1) (dv 8) d_int) (da_cons (d_op do_addU (dv 3) (d_ix (dixU hr.u1) (dv 8) d_int)) da_nil))))) da_nil))))) (dss_cons (ds_for PassesOwn.never rfl (di_seq (dv 2)) (dg_pair 6 7 rfl sc_l_swapped.nd) (dss_cons (ds_set 5 sc_l_swapped.nd (d_ix (dixU hr.u1) (dv 4) (dv 6))) (dss_one (ds_expr (d_mt PySem.F.slot_list_append PySem.F.type_list_append dm_append (dv 5) (da_cons (d_tup (da_cons (d_tup (da_cons d_str (da_cons d_str da_nil))) (da_cons (d_op do_addU (dv 3) (dv 7)) da_nil))) da_nil)))))) (dss_one (ds_ret (d_call F_l_packed rfl (hr.mono (by decide)) T.g__law_packed T.k__law_packed T.b__law_packed (da_cons (dv 4) (da_cons (d_call F_l_reached rfl (hr.mono (by decide)) T.g__law_reached T.k__law_reached T.b__law_reached (da_cons (dv 4) da_nil)) da_nil)))))))))
/-! _law_is_bad_graph -/
def N_l_is_bad_graph : List Str := ["e", "others"]
theorem sc_l_is_bad_graph : FnScope ["e", "others"] ["e"] (defScope (top 29)) := ⟨rfl, rfl, rfl, by decide +kernel, rfl, by decide +kernel, by decide +kernel⟩
def u_l_is_bad_graph_1 (K : PySem.W.Frag) (w : World) (C a : Addr)  : DS := (qSeq (qSet 1 (qOrV (qCB (rIsE K C a) (qCons (qVar 0) (qCons (qC (.ref (He.ga K "TooMany"))) qNil))) (qOrV (qCB (rIsE K C a) (qCons (qVar 0) (qCons (qC (.ref (He.ga K "BadTests"))) qNil))) (qCB (rIsE K C a) (qCons (qVar 0) (qCons (qC (.ref (He.ga K "BadTeacher"))) qNil)))))) (qRet (qAndV (qNotV (qVar 1)) (qNotV (qCB (rIsE K C a) (qCons (qVar 0) (qCons (qC (.ref (He.ga K "BadName"))) qNil)))))))
def t_l_is_bad_graph (K : PySem.W.Frag) (w : World) (C a : Addr)  : DS := (qSeq (qIfS (qOr (qNot (qTru (qCB (rIsE K C a) (qCons (qVar 0) (qCons (qC (.ref (He.ga K "UnseenError"))) qNil))))) (qNot (qTru (qCB (rIsE K C a) (qCons (qVar 0) (qCons (qC (.ty "ValueError")) qNil)))))) (qRet (qC (.bl false))) qNext) (u_l_is_bad_graph_1 K w C a ))
theorem b_l_is_bad_graph {P : Program} {w : World} {K : PySem.W.Frag} {mg : Str → Option Value} {base : Heap} (T : Top K mg)  (cdv : Value) (A : Around) (outer : List Env) (s : Shared) (H : Hp) (E : XK) (p : Addr × Obj) (hot : L2H.Hot1 A p) (hz : L2N.Zn (.ref (He.ga K "BadGraph")) none p.2) (hr : RoomG 0 (A.deeper (envOfC "_law_is_bad_graph" (defScope (top 29)) s.heap.objs.size (He.ga K "_law_is_bad_graph") cdv))) :
    DPSs (L2H.cxH (L2N.CX P w) P w K mg base N_l_is_bad_graph "_law_is_bad_graph" (defScope (top 29)) (He.ga K "_law_is_bad_graph") cdv A outer s H E p) (fun _ _ _ _ => False) (defBody (top 29)) (t_l_is_bad_graph K w (He.ga K "BadGraph") p.1 ) :=
  have hh : HotX (L2H.cxH (L2N.CX P w) P w K mg base N_l_is_bad_graph "_law_is_bad_graph" (defScope (top 29)) (He.ga K "_law_is_bad_graph") cdv A outer s H E p) p.1 (He.ga K "BadGraph") := ⟨p.2, List.mem_cons_self, hot, hz⟩
  (dss_cons (ds_if (dw_or (dt_not (dt_tru (d_callB (x := "isinstance") (dc_isE T.exc hh) (by rfl) T.f_isinstance rfl (da_cons (dv 0) (da_cons (d_glob (by rfl) T.g_UnseenError) da_nil))))) (dw_or1 (dt_not (dt_tru (d_callB (x := "isinstance") (dc_isE T.exc hh) (by rfl) T.f_isinstance rfl (da_cons (dv 0) (da_cons (d_type (x := "ValueError") (by rfl) T.f_ValueError rfl) da_nil))))))).pt (dss_one (ds_ret d_bl)) dss_nil) (dss_cons (ds_set 1 sc_l_is_bad_graph.nd (d_or (d_callB (x := "isinstance") (dc_isE T.exc hh) (by rfl) T.f_isinstance rfl (da_cons (dv 0) (da_cons (d_glob (by rfl) T.g_TooMany) da_nil))) (d_or (d_callB (x := "isinstance") (dc_isE T.exc hh) (by rfl) T.f_isinstance rfl (da_cons (dv 0) (da_cons (d_glob (by rfl) T.g_BadTests) da_nil))) (d_one (d_callB (x := "isinstance") (dc_isE T.exc hh) (by rfl) T.f_isinstance rfl (da_cons (dv 0) (da_cons (d_glob (by rfl) T.g_BadTeacher) da_nil))))))) (dss_one (ds_ret (d_and (d_not (dv 1)) (d_one (d_not (d_callB (x := "isinstance") (dc_isE T.exc hh) (by rfl) T.f_isinstance rfl (da_cons (dv 0) (da_cons (d_glob (by rfl) T.g_BadName) da_nil))))))))))
/-! _law_bad_pair -/
def N_l_bad_pair : List Str := ["deck", "one", "two", "kind", "at", "by"]
theorem sc_l_bad_pair : FnScope ["deck", "one", "two", "kind", "at", "by"] ["deck", "one", "two", "kind"] (defScope (top 30)) := ⟨rfl, rfl, rfl, by decide +kernel, rfl, by decide +kernel, by decide +kernel⟩
def u_l_bad_pair_1 (K : PySem.W.Frag) (w : World) (sp_l_draw : DSp) : DS := (qRet (qTup (qCons (qVar 4) (qCons (qVar 5) (qCons (qVar 4) qNil)))))
def u_l_bad_pair_2 (K : PySem.W.Frag) (w : World) (sp_l_draw : DSp) : DS := (qSeq (qIfS (qTest (qOp (rEqU false) (qVar 3) (qC (.int 3)))) (qRet (qTup (qCons (qC (.bl true)) (qCons (qVar 5) qNil)))) qNext) (u_l_bad_pair_1 K w sp_l_draw))
def u_l_bad_pair_3 (K : PySem.W.Frag) (w : World) (sp_l_draw : DSp) : DS := (qSeq (qIfS (qTest (qOp (rEqU false) (qVar 3) (qC (.int 2)))) (qRet (qTup (qCons (qVar 4) (qCons (qNeg (qC (.int 1))) qNil)))) qNext) (u_l_bad_pair_2 K w sp_l_draw))
def u_l_bad_pair_4 (K : PySem.W.Frag) (w : World) (sp_l_draw : DSp) : DS := (qSeq (qIfS (qTest (qOp (rEqU false) (qVar 3) (qC (.int 1)))) (qRet (qTup (qCons (qVar 4) (qCons (qCB rLen (qCons (qVar 2) qNil)) qNil)))) qNext) (u_l_bad_pair_3 K w sp_l_draw))
def t_l_bad_pair (K : PySem.W.Frag) (w : World) (sp_l_draw : DSp) : DS := (qSeq (qSet 4 (qCB sp_l_draw (qCons (qVar 0) (qCons (qCB rLen (qCons (qVar 1) qNil)) qNil)))) (qSeq (qSet 5 (qCB sp_l_draw (qCons (qVar 0) (qCons (qCB rLen (qCons (qVar 2) qNil)) qNil)))) (qSeq (qIfS (qTest (qOp (rEqU false) (qVar 3) (qC (.int 0)))) (qRet (qTup (qCons (qCB rLen (qCons (qVar 1) qNil)) (qCons (qVar 5) qNil)))) qNext) (u_l_bad_pair_4 K w sp_l_draw))))
theorem b_l_bad_pair {P : Program} {w : World} {K : PySem.W.Frag} {mg : Str → Option Value} {base : Heap} (T : Top K mg) {sp_l_draw : DSp} (F_l_draw : DFn P w K mg base 1 (He.ga K "_law_draw") (fdO K (He.ga K "_law_draw")) ["deck", "many"] sp_l_draw) (cdv : Value) (A : Around) (outer : List Env) (s : Shared) (H : Hp) (E : XK) (hcd : PySem.W.codeIn K cdv "_law_bad_pair" = true) (hr : RoomG 1 (A.deeper (envOfC "_law_bad_pair" (defScope (top 30)) s.heap.objs.size (He.ga K "_law_bad_pair") cdv))) :
    DPSs (cxOf (L2N.CX P w) P w K mg base N_l_bad_pair "_law_bad_pair" (defScope (top 30)) (He.ga K "_law_bad_pair") cdv A outer s H E).nox (fun _ _ _ _ => False) (defBody (top 30)) (t_l_bad_pair K w sp_l_draw) :=
  (dss_cons (ds_set 4 sc_l_bad_pair.nd (d_call F_l_draw rfl (hr.mono (by decide)) T.g__law_draw T.k__law_draw T.b__law_draw (da_cons (dv 0) (da_cons (d_callB (x := "len") dc_len (by rfl) T.f_len rfl (da_cons (dv 1) da_nil)) da_nil)))) (dss_cons (ds_set 5 sc_l_bad_pair.nd (d_call F_l_draw rfl (hr.mono (by decide)) T.g__law_draw T.k__law_draw T.b__law_draw (da_cons (dv 0) (da_cons (d_callB (x := "len") dc_len (by rfl) T.f_len rfl (da_cons (dv 2) da_nil)) da_nil)))) (dss_cons (ds_if (dt_cmp (do_eqU hr.units) (dv 3) d_int) (dss_one (ds_ret (d_tup (da_cons (d_callB (x := "len") dc_len (by rfl) T.f_len rfl (da_cons (dv 1) da_nil)) (da_cons (dv 5) da_nil))))) dss_nil) (dss_cons (ds_if (dt_cmp (do_eqU hr.units) (dv 3) d_int) (dss_one (ds_ret (d_tup (da_cons (dv 4) (da_cons (d_callB (x := "len") dc_len (by rfl) T.f_len rfl (da_cons (dv 2) da_nil)) da_nil))))) dss_nil) (dss_cons (ds_if (dt_cmp (do_eqU hr.units) (dv 3) d_int) (dss_one (ds_ret (d_tup (da_cons (dv 4) (da_cons (d_neg d_int) da_nil))))) dss_nil) (dss_cons (ds_if (dt_cmp (do_eqU hr.units) (dv 3) d_int) (dss_one (ds_ret (d_tup (da_cons d_bl (da_cons (dv 5) da_nil))))) dss_nil) (dss_one (ds_ret (d_tup (da_cons (dv 4) (da_cons (dv 5) (da_cons (dv 4) da_nil))))))))))))
/-! _law_other_doors -/
def N_l_other_doors : List Str := ["ins", "outs", "kind"]
theorem sc_l_other_doors : FnScope ["ins", "outs", "kind"] ["ins", "outs", "kind"] (defScope (top 31)) := ⟨rfl, rfl, rfl, by decide +kernel, rfl, by decide +kernel, by decide +kernel⟩
def u_l_other_doors_1 (K : PySem.W.Frag) (w : World)  : DS := (qRet (qLst (qCons (qOp rAddU (qTup (qCons (qTup (qCons (qOp rIxU (qOp rIxU (qVar 0) (qC (.int 0))) (qC (.int 0))) (qCons (qC (.str "Other7")) qNil))) qNil)) (qSl rSlU (qVar 0) (qPart (qC (.int 1))) qNoPart)) (qCons (qVar 1) qNil))))
def u_l_other_doors_2 (K : PySem.W.Frag) (w : World)  : DS := (qSeq (qIfS (qTest (qOp (rII0 fun i j => .bl (decide (j < i))) (qCB rLen (qCons (qVar 1) qNil)) (qC (.int 0)))) (qRet (qLst (qCons (qVar 0) (qCons (qOp rAddU (qTup (qCons (qTup (qCons (qOp rIxU (qOp rIxU (qVar 1) (qC (.int 0))) (qC (.int 0))) (qCons (qC (.str "Other7")) qNil))) qNil)) (qSl rSlU (qVar 1) (qPart (qC (.int 1))) qNoPart)) qNil)))) qNext) (u_l_other_doors_1 K w ))
def u_l_other_doors_3 (K : PySem.W.Frag) (w : World)  : DS := (qSeq (qIfS (qAnd (qTest (qOp (rEqU false) (qVar 2) (qC (.int 6)))) (qTest (qOp (rII0 fun i j => .bl (decide (j < i))) (qCB rLen (qCons (qVar 0) qNil)) (qC (.int 0))))) (qRet (qLst (qCons (qSl rSlU (qVar 0) (qPart (qC (.int 1))) qNoPart) (qCons (qCB rTuple (qCons (qCB (rSortedU w) (qCons (qOp rAddU (qCB rList (qCons (qVar 1) qNil)) (qLst (qCons (qOp rIxU (qVar 0) (qC (.int 0))) qNil))) qNil)) qNil)) qNil)))) qNext) (u_l_other_doors_2 K w ))
def t_l_other_doors (K : PySem.W.Frag) (w : World)  : DS := (qSeq (qIfS (qTest (qOp (rEqU false) (qVar 2) (qC (.int 5)))) (qRet (qLst (qCons (qVar 0) (qCons (qCB rTuple (qCons (qCB (rSortedU w) (qCons (qOp rAddU (qCB rList (qCons (qVar 1) qNil)) (qLst (qCons (qTup (qCons (qC (.str "more")) (qCons (qC .non) qNil))) qNil))) qNil)) qNil)) qNil)))) qNext) (u_l_other_doors_3 K w ))
theorem b_l_other_doors {P : Program} {w : World} {K : PySem.W.Frag} {mg : Str → Option Value} {base : Heap} (T : Top K mg)  (cdv : Value) (A : Around) (outer : List Env) (s : Shared) (H : Hp) (E : XK) (hcd : PySem.W.codeIn K cdv "_law_other_doors" = true) (hr : RoomG 0 (A.deeper (envOfC "_law_other_doors" (defScope (top 31)) s.heap.objs.size (He.ga K "_law_other_doors") cdv))) :
    DPSs (cxOf (L2N.CX P w) P w K mg base N_l_other_doors "_law_other_doors" (defScope (top 31)) (He.ga K "_law_other_doors") cdv A outer s H E).nox (fun _ _ _ _ => False) (defBody (top 31)) (t_l_other_doors K w ) :=
  (dss_cons (ds_if (dt_cmp (do_eqU hr.units) (dv 2) d_int) (dss_one (ds_ret (d_lst (da_cons (dv 0) (da_cons (d_callTy (x := "tuple") dc_tuple (by rfl) T.f_tuple rfl (da_cons (d_callB (x := "sorted") (dc_sortedU rfl hr.units) (by rfl) T.f_sorted rfl (da_cons (d_op do_addU (d_callTy (x := "list") dc_list (by rfl) T.f_list rfl (da_cons (dv 1) da_nil)) (d_lst (da_cons (d_tup (da_cons d_str (da_cons d_non da_nil))) da_nil))) da_nil)) da_nil)) da_nil))))) dss_nil) (dss_cons (ds_if (dw_and (dt_cmp (do_eqU hr.units) (dv 2) d_int) (dw_and1 (dt_cmp do_gt (d_callB (x := "len") dc_len (by rfl) T.f_len rfl (da_cons (dv 0) da_nil)) d_int))).pt (dss_one (ds_ret (d_lst (da_cons (d_slice dslU (dv 0) (dO_some d_int) dO_none) (da_cons (d_callTy (x := "tuple") dc_tuple (by rfl) T.f_tuple rfl (da_cons (d_callB (x := "sorted") (dc_sortedU rfl hr.units) (by rfl) T.f_sorted rfl (da_cons (d_op do_addU (d_callTy (x := "list") dc_list (by rfl) T.f_list rfl (da_cons (dv 1) da_nil)) (d_lst (da_cons (d_ix (dixU hr.u1) (dv 0) d_int) da_nil))) da_nil)) da_nil)) da_nil))))) dss_nil) (dss_cons (ds_if (dt_cmp do_gt (d_callB (x := "len") dc_len (by rfl) T.f_len rfl (da_cons (dv 1) da_nil)) d_int) (dss_one (ds_ret (d_lst (da_cons (dv 0) (da_cons (d_op do_addU (d_tup (da_cons (d_tup (da_cons (d_ix (dixU hr.u1) (d_ix (dixU hr.u1) (dv 1) d_int) d_int) (da_cons d_str da_nil))) da_nil)) (d_slice dslU (dv 1) (dO_some d_int) dO_none)) da_nil))))) dss_nil) (dss_one (ds_ret (d_lst (da_cons (d_op do_addU (d_tup (da_cons (d_tup (da_cons (d_ix (dixU hr.u1) (d_ix (dixU hr.u1) (dv 0) d_int) d_int) (da_cons d_str da_nil))) da_nil)) (d_slice dslU (dv 0) (dO_some d_int) dO_none)) (da_cons (dv 1) da_nil))))))))
/-! _law_refused -/
def N_l_refused : List Str := ["elder", "newer", "pairs", "e"]
theorem sc_l_refused : FnScope ["elder", "newer", "pairs", "e"] ["elder", "newer", "pairs"] (defScope (top 32)) := ⟨rfl, rfl, rfl, by decide +kernel, rfl, by decide +kernel, by decide +kernel⟩
def u_l_refused_1 (K : PySem.W.Frag) (w : World) (sp_swapping : DSpX) (sp_l_is_bad_graph : Addr → DSp) : DS := (qRet (qC (.bl false)))
def t_l_refused (K : PySem.W.Frag) (w : World) (sp_swapping : DSpX) (sp_l_is_bad_graph : Addr → DSp) : DS := (qSeq (qTryAs K (.ref (He.ga K "BadGraph")) (He.ga K "BadGraph") 3 (qDropX sp_swapping (qCons (qVar 0) (qCons (qVar 1) (qCons (qVar 2) qNil)))) fun a => (qRet (qCB (sp_l_is_bad_graph a) (qCons (qVar 3) qNil)))) (u_l_refused_1 K w sp_swapping sp_l_is_bad_graph))
theorem b_l_refused {P : Program} {w : World} {K : PySem.W.Frag} {mg : Str → Option Value} {base : Heap} (T : Top K mg) {sp_swapping : DSpX} (F_swapping : DFnX P w K mg base 4 (He.ga K "swapping") (fdO K (He.ga K "swapping")) ["elder", "newer", "pairs"] sp_swapping) {sp_l_is_bad_graph : Addr → DSp} (F_l_is_bad_graph : DFnH P w K mg base 1 (He.ga K "_law_is_bad_graph") (fdO K (He.ga K "_law_is_bad_graph")) ["e"] (He.ga K "BadGraph") sp_l_is_bad_graph) (cdv : Value) (A : Around) (outer : List Env) (s : Shared) (H : Hp) (E : XK) (hcd : PySem.W.codeIn K cdv "_law_refused" = true) (hr : RoomG 4 (A.deeper (envOfC "_law_refused" (defScope (top 32)) s.heap.objs.size (He.ga K "_law_refused") cdv))) :
    DPSs (cxOf (L2N.CX P w) P w K mg base N_l_refused "_law_refused" (defScope (top 32)) (He.ga K "_law_refused") cdv A outer s H E).nox (fun _ _ _ _ => False) (defBody (top 32)) (t_l_refused K w sp_swapping sp_l_is_bad_graph) :=
  (dss_cons (ds_try_as (He.ga K "BadGraph") rfl rfl sc_l_refused.nd rfl rfl ⟨rfl, rfl, .inl T.g_BadGraph⟩ takesN0 (fun _ _ _ tk' hp' => (dss_one (ds_exprX tk' F_swapping rfl (hr.mono (by decide)) T.g_swapping T.k_swapping T.b_swapping (da_cons (dv 0) (da_cons (dv 1) (da_cons (dv 2) da_nil)))))) fun a oe pn hz hv => (dss_one (ds_ret (d_callH F_l_is_bad_graph (hotX_suite hz hv) (hr.mono (by decide)).suite T.g__law_is_bad_graph T.k__law_is_bad_graph T.b__law_is_bad_graph (da_cons (dv 3) da_nil))))) (dss_one (ds_ret d_bl)))
/-! law -/
def N_law : List Str := ["script", "deck", "world", "events", "labels", "one", "two", "elder", "newer", "pairs", "given", "due", "kind", "doors", "k"]
theorem sc_law : FnScope ["script", "deck", "world", "events", "labels", "one", "two", "elder", "newer", "pairs", "given", "due", "kind", "doors", "k"] ["script"] (defScope (top 33)) := ⟨rfl, rfl, rfl, by decide +kernel, rfl, by decide +kernel, by decide +kernel⟩
def u_law_1 (K : PySem.W.Frag) (w : World) (sp_swapping : DSpX) (sp_l_deck : DSp) (sp_l_draw : DSp) (sp_l_events : DSp) (sp_l_world : DSp) (sp_l_rows : DSp) (sp_l_swapped : DSp) (sp_l_bad_pair : DSp) (sp_l_other_doors : DSp) (sp_l_refused : DSp) : DS := (qSeq (qSet 13 (qCB sp_l_other_doors (qCons (qOp rIxU (qVar 2) (qC (.int 0))) (qCons (qOp rIxU (qVar 2) (qC (.int 1))) (qCons (qVar 12) qNil))))) (qRet (qCB sp_l_refused (qCons (qVar 7) (qCons (qTup (qCons (qC (.str "graph")) (qCons (qOp rIxU (qVar 13) (qC (.int 0))) (qCons (qOp rIxU (qVar 13) (qC (.int 1))) (qCons (qTup (qCons (qTup qNil) qNil)) qNil))))) (qCons (qSl rSlU (qVar 9) qNoPart (qPart (qC (.int 0)))) qNil))))))
def u_law_2 (K : PySem.W.Frag) (w : World) (sp_swapping : DSpX) (sp_l_deck : DSp) (sp_l_draw : DSp) (sp_l_events : DSp) (sp_l_world : DSp) (sp_l_rows : DSp) (sp_l_swapped : DSp) (sp_l_bad_pair : DSp) (sp_l_other_doors : DSp) (sp_l_refused : DSp) : DS := (qSeq (qSet 12 (qCB sp_l_draw (qCons (qVar 1) (qCons (qC (.int 8)) qNil)))) (qSeq (qIfS (qTest (qOp (rII0 fun i j => .bl (decide (i < j))) (qVar 12) (qC (.int 5)))) (qSeq (qDrop (qMt rInsert (qVar 9) (qCons (qCB sp_l_draw (qCons (qVar 1) (qCons (qOp rAddU (qCB rLen (qCons (qVar 9) qNil)) (qC (.int 1))) qNil))) (qCons (qCB sp_l_bad_pair (qCons (qVar 1) (qCons (qVar 5) (qCons (qVar 6) (qCons (qVar 12) qNil))))) qNil)))) (qRet (qCB sp_l_refused (qCons (qVar 7) (qCons (qVar 8) (qCons (qVar 9) qNil)))))) qNext) (u_law_1 K w sp_swapping sp_l_deck sp_l_draw sp_l_events sp_l_world sp_l_rows sp_l_swapped sp_l_bad_pair sp_l_other_doors sp_l_refused)))
def u_law_3 (K : PySem.W.Frag) (w : World) (sp_swapping : DSpX) (sp_l_deck : DSp) (sp_l_draw : DSp) (sp_l_events : DSp) (sp_l_world : DSp) (sp_l_rows : DSp) (sp_l_swapped : DSp) (sp_l_bad_pair : DSp) (sp_l_other_doors : DSp) (sp_l_refused : DSp) : DS := (qSeq (qSet 11 (qTup (qCons (qC (.str "graph")) (qCons (qOp rIxU (qVar 2) (qC (.int 0))) (qCons (qOp rIxU (qVar 2) (qC (.int 1))) (qCons (qCB sp_l_swapped (qCons (qVar 5) (qCons (qVar 6) (qCons (qVar 9) qNil)))) qNil)))))) (qSeq (qIfS (qOr (qTest (qOp (rEqU true) (qCB rRepr (qCons (qCX sp_swapping (qCons (qVar 7) (qCons (qVar 8) (qCons (qVar 10) qNil)))) qNil)) (qCB rRepr (qCons (qVar 11) qNil)))) (qTest (qOp (rEqU true) (qCB rList (qCons (qVar 10) qNil)) (qVar 9)))) (qRet (qC (.bl false))) qNext) (u_law_2 K w sp_swapping sp_l_deck sp_l_draw sp_l_events sp_l_world sp_l_rows sp_l_swapped sp_l_bad_pair sp_l_other_doors sp_l_refused)))
def u_law_4 (K : PySem.W.Frag) (w : World) (sp_swapping : DSpX) (sp_l_deck : DSp) (sp_l_draw : DSp) (sp_l_events : DSp) (sp_l_world : DSp) (sp_l_rows : DSp) (sp_l_swapped : DSp) (sp_l_bad_pair : DSp) (sp_l_other_doors : DSp) (sp_l_refused : DSp) : DS := (qSeq (qSet 10 (qCB rList (qCons (qVar 9) qNil))) (qSeq (qIfS (qTest (qOp (rEqU false) (qCB sp_l_draw (qCons (qVar 1) (qCons (qC (.int 2)) qNil))) (qC (.int 1)))) (qSet 10 (qCB rTuple (qCons (qVar 9) qNil))) qNext) (u_law_3 K w sp_swapping sp_l_deck sp_l_draw sp_l_events sp_l_world sp_l_rows sp_l_swapped sp_l_bad_pair sp_l_other_doors sp_l_refused)))
def u_law_5 (K : PySem.W.Frag) (w : World) (sp_swapping : DSpX) (sp_l_deck : DSp) (sp_l_draw : DSp) (sp_l_events : DSp) (sp_l_world : DSp) (sp_l_rows : DSp) (sp_l_swapped : DSp) (sp_l_bad_pair : DSp) (sp_l_other_doors : DSp) (sp_l_refused : DSp) : DS := (qSeq (qIfS (qAnd (qTest (qOp (rII0 fun i j => .bl (decide (j < i))) (qCB rLen (qCons (qVar 9) qNil)) (qC (.int 0)))) (qTest (qOp (rEqU false) (qCB sp_l_draw (qCons (qVar 1) (qCons (qC (.int 3)) qNil))) (qC (.int 1))))) (qDrop (qMt rAppend (qVar 9) (qCons (qOp rIxU (qVar 9) (qC (.int 0))) qNil))) qNext) (u_law_4 K w sp_swapping sp_l_deck sp_l_draw sp_l_events sp_l_world sp_l_rows sp_l_swapped sp_l_bad_pair sp_l_other_doors sp_l_refused))
def t_law (K : PySem.W.Frag) (w : World) (sp_swapping : DSpX) (sp_l_deck : DSp) (sp_l_draw : DSp) (sp_l_events : DSp) (sp_l_world : DSp) (sp_l_rows : DSp) (sp_l_swapped : DSp) (sp_l_bad_pair : DSp) (sp_l_other_doors : DSp) (sp_l_refused : DSp) : DS := (qSeq (qSet 1 (qCB sp_l_deck (qCons (qVar 0) qNil))) (qSeq (qSet 2 (qCB sp_l_world (qCons (qVar 1) (qCons (qC (.int 4)) qNil)))) (qSeq (qSet 3 (qCB sp_l_events (qCons (qOp rAddU (qOp rIxU (qVar 2) (qC (.int 0))) (qOp rIxU (qVar 2) (qC (.int 1)))) qNil))) (qSeq (qSet 4 (qOp rAddU (qOp rAddU (qVar 3) (qVar 3)) (qLst (qCons (qTup (qCons (qC (.str "")) (qCons (qC (.str "quiet")) qNil))) (qCons (qTup (qCons (qC (.str "")) (qCons (qC (.str "fault")) qNil))) qNil))))) (qSeq (qSet 5 (qCB sp_l_rows (qCons (qVar 1) (qCons (qVar 4) (qCons (qOp rAddU (qC (.int 1)) (qCB sp_l_draw (qCons (qVar 1) (qCons (qC (.int 9)) qNil)))) (qCons (qCB sp_l_draw (qCons (qVar 1) (qCons (qC (.int 8)) qNil))) qNil)))))) (qSeq (qSet 6 (qCB sp_l_rows (qCons (qVar 1) (qCons (qVar 4) (qCons (qOp rAddU (qC (.int 1)) (qCB sp_l_draw (qCons (qVar 1) (qCons (qC (.int 9)) qNil)))) (qCons (qCB sp_l_draw (qCons (qVar 1) (qCons (qC (.int 8)) qNil))) qNil)))))) (qSeq (qSet 7 (qTup (qCons (qC (.str "graph")) (qCons (qOp rIxU (qVar 2) (qC (.int 0))) (qCons (qOp rIxU (qVar 2) (qC (.int 1))) (qCons (qVar 5) qNil)))))) (qSeq (qSet 8 (qTup (qCons (qC (.str "graph")) (qCons (qOp rIxU (qVar 2) (qC (.int 0))) (qCons (qOp rIxU (qVar 2) (qC (.int 1))) (qCons (qVar 6) qNil)))))) (qSeq (qSet 9 (qLc (qiRange1 (qCons (qCB sp_l_draw (qCons (qVar 1) (qCons (qC (.int 8)) qNil))) qNil)) (.nm 14) qYes (qTup (qCons (qCB sp_l_draw (qCons (qVar 1) (qCons (qCB rLen (qCons (qVar 5) qNil)) qNil))) (qCons (qCB sp_l_draw (qCons (qVar 1) (qCons (qCB rLen (qCons (qVar 6) qNil)) qNil))) qNil))) [14])) (qSeq (qIfS (qTest (qOp (rEqU false) (qCB sp_l_draw (qCons (qVar 1) (qCons (qC (.int 2)) qNil))) (qC (.int 1)))) (qDrop (qMt rAppend (qVar 9) (qCons (qTup (qCons (qOp (rII0 fun i j => .int (i - j)) (qCB rLen (qCons (qVar 5) qNil)) (qC (.int 1))) (qCons (qOp (rII0 fun i j => .int (i - j)) (qCB rLen (qCons (qVar 6) qNil)) (qC (.int 1))) qNil))) qNil))) qNext) (u_law_5 K w sp_swapping sp_l_deck sp_l_draw sp_l_events sp_l_world sp_l_rows sp_l_swapped sp_l_bad_pair sp_l_other_doors sp_l_refused)))))))))))
theorem b_law {P : Program} {w : World} {K : PySem.W.Frag} {mg : Str → Option Value} {base : Heap} (T : Top K mg) {sp_swapping : DSpX} (F_swapping : DFnX P w K mg base 4 (He.ga K "swapping") (fdO K (He.ga K "swapping")) ["elder", "newer", "pairs"] sp_swapping) {sp_l_deck : DSp} (F_l_deck : DFn P w K mg base 1 (He.ga K "_law_deck") (fdO K (He.ga K "_law_deck")) ["script"] sp_l_deck) {sp_l_draw : DSp} (F_l_draw : DFn P w K mg base 1 (He.ga K "_law_draw") (fdO K (He.ga K "_law_draw")) ["deck", "many"] sp_l_draw) {sp_l_events : DSp} (F_l_events : DFn P w K mg base 1 (He.ga K "_law_events") (fdO K (He.ga K "_law_events")) ["doors"] sp_l_events) {sp_l_world : DSp} (F_l_world : DFn P w K mg base 3 (He.ga K "_law_world") (fdO K (He.ga K "_law_world")) ["deck", "most"] sp_l_world) {sp_l_rows : DSp} (F_l_rows : DFn P w K mg base 3 (He.ga K "_law_rows") (fdO K (He.ga K "_law_rows")) ["deck", "labels", "many", "extra"] sp_l_rows) {sp_l_swapped : DSp} (F_l_swapped : DFn P w K mg base 3 (He.ga K "_law_swapped") (fdO K (He.ga K "_law_swapped")) ["one", "two", "pairs"] sp_l_swapped) {sp_l_bad_pair : DSp} (F_l_bad_pair : DFn P w K mg base 2 (He.ga K "_law_bad_pair") (fdO K (He.ga K "_law_bad_pair")) ["deck", "one", "two", "kind"] sp_l_bad_pair) {sp_l_other_doors : DSp} (F_l_other_doors : DFn P w K mg base 1 (He.ga K "_law_other_doors") (fdO K (He.ga K "_law_other_doors")) ["ins", "outs", "kind"] sp_l_other_doors) {sp_l_refused : DSp} (F_l_refused : DFn P w K mg base 5 (He.ga K "_law_refused") (fdO K (He.ga K "_law_refused")) ["elder", "newer", "pairs"] sp_l_refused) (cdv : Value) (A : Around) (outer : List Env) (s : Shared) (H : Hp) (E : XK) (hcd : PySem.W.codeIn K cdv "law" = true) (hr : RoomG 5 (A.deeper (envOfC "law" (defScope (top 33)) s.heap.objs.size (He.ga K "law") cdv))) :
    DPSs (cxOf (L2N.CX P w) P w K mg base N_law "law" (defScope (top 33)) (He.ga K "law") cdv A outer s H E).nox (fun _ _ _ _ => False) (defBody (top 33)) (t_law K w sp_swapping sp_l_deck sp_l_draw sp_l_events sp_l_world sp_l_rows sp_l_swapped sp_l_bad_pair sp_l_other_doors sp_l_refused) :=
  (dss_cons (ds_set 1 sc_law.nd (d_call F_l_deck rfl (hr.mono (by decide)) T.g__law_deck T.k__law_deck T.b__law_deck (da_cons (dv 0) da_nil))) (dss_cons (ds_set 2 sc_law.nd (d_call F_l_world rfl (hr.mono (by decide)) T.g__law_world T.k__law_world T.b__law_world (da_cons (dv 1) (da_cons d_int da_nil)))) (dss_cons (ds_set 3 sc_law.nd (d_call F_l_events rfl (hr.mono (by decide)) T.g__law_events T.k__law_events T.b__law_events (da_cons (d_op do_addU (d_ix (dixU hr.u1) (dv 2) d_int) (d_ix (dixU hr.u1) (dv 2) d_int)) da_nil))) (dss_cons (ds_set 4 sc_law.nd (d_op do_addU (d_op do_addU (dv 3) (dv 3)) (d_lst (da_cons (d_tup (da_cons d_str (da_cons d_str da_nil))) (da_cons (d_tup (da_cons d_str (da_cons d_str da_nil))) da_nil))))) (dss_cons (ds_set 5 sc_law.nd (d_call F_l_rows rfl (hr.mono (by decide)) T.g__law_rows T.k__law_rows T.b__law_rows (da_cons (dv 1) (da_cons (dv 4) (da_cons (d_op do_addU d_int (d_call F_l_draw rfl (hr.mono (by decide)) T.g__law_draw T.k__law_draw T.b__law_draw (da_cons (dv 1) (da_cons d_int da_nil)))) (da_cons (d_call F_l_draw rfl (hr.mono (by decide)) T.g__law_draw T.k__law_draw T.b__law_draw (da_cons (dv 1) (da_cons d_int da_nil))) da_nil)))))) (dss_cons (ds_set 6 sc_law.nd (d_call F_l_rows rfl (hr.mono (by decide)) T.g__law_rows T.k__law_rows T.b__law_rows (da_cons (dv 1) (da_cons (dv 4) (da_cons (d_op do_addU d_int (d_call F_l_draw rfl (hr.mono (by decide)) T.g__law_draw T.k__law_draw T.b__law_draw (da_cons (dv 1) (da_cons d_int da_nil)))) (da_cons (d_call F_l_draw rfl (hr.mono (by decide)) T.g__law_draw T.k__law_draw T.b__law_draw (da_cons (dv 1) (da_cons d_int da_nil))) da_nil)))))) (dss_cons (ds_set 7 sc_law.nd (d_tup (da_cons d_str (da_cons (d_ix (dixU hr.u1) (dv 2) d_int) (da_cons (d_ix (dixU hr.u1) (dv 2) d_int) (da_cons (dv 5) da_nil)))))) (dss_cons (ds_set 8 sc_law.nd (d_tup (da_cons d_str (da_cons (d_ix (dixU hr.u1) (dv 2) d_int) (da_cons (d_ix (dixU hr.u1) (dv 2) d_int) (da_cons (dv 6) da_nil)))))) (dss_cons (ds_setLc 9 [("k", 14)] rfl sc_law.nd (sw_true rfl rfl rfl (by decide +kernel)) (di_range1 T.f_range (da_cons (d_call F_l_draw rfl (hr.mono (by decide)) T.g__law_draw T.k__law_draw T.b__law_draw (da_cons (dv 1) (da_cons d_int da_nil))) da_nil)) (blkOk_by (own := [("k", 14)]) (by first | rfl | kernel_rfl)) (fun _ _ _ _ _ => (dg_name 14 sc_law.nd)) (fun _ _ _ _ _ => dts_nil) (fun _ _ _ _ _ => (d_tup (da_cons (d_call F_l_draw rfl (hr.mono (by decide)) T.g__law_draw T.k__law_draw T.b__law_draw (da_cons (dv 1) (da_cons (d_callB (x := "len") dc_len (by rfl) T.f_len rfl (da_cons (dv 5) da_nil)) da_nil))) (da_cons (d_call F_l_draw rfl (hr.mono (by decide)) T.g__law_draw T.k__law_draw T.b__law_draw (da_cons (dv 1) (da_cons (d_callB (x := "len") dc_len (by rfl) T.f_len rfl (da_cons (dv 6) da_nil)) da_nil))) da_nil))))) (dss_cons (ds_if (dt_cmp (do_eqU hr.units) (d_call F_l_draw rfl (hr.mono (by decide)) T.g__law_draw T.k__law_draw T.b__law_draw (da_cons (dv 1) (da_cons d_int da_nil))) d_int) (dss_one (ds_expr (d_mt PySem.F.slot_list_append PySem.F.type_list_append dm_append (dv 9) (da_cons (d_tup (da_cons (d_op do_sub (d_callB (x := "len") dc_len (by rfl) T.f_len rfl (da_cons (dv 5) da_nil)) d_int) (da_cons (d_op do_sub (d_callB (x := "len") dc_len (by rfl) T.f_len rfl (da_cons (dv 6) da_nil)) d_int) da_nil))) da_nil)))) dss_nil) (dss_cons (ds_if (dw_and (dt_cmp do_gt (d_callB (x := "len") dc_len (by rfl) T.f_len rfl (da_cons (dv 9) da_nil)) d_int) (dw_and1 (dt_cmp (do_eqU hr.units) (d_call F_l_draw rfl (hr.mono (by decide)) T.g__law_draw T.k__law_draw T.b__law_draw (da_cons (dv 1) (da_cons d_int da_nil))) d_int))).pt (dss_one (ds_expr (d_mt PySem.F.slot_list_append PySem.F.type_list_append dm_append (dv 9) (da_cons (d_ix (dixU hr.u1) (dv 9) d_int) da_nil)))) dss_nil) (dss_cons (ds_set 10 sc_law.nd (d_callTy (x := "list") dc_list (by rfl) T.f_list rfl (da_cons (dv 9) da_nil))) (dss_cons (ds_if (dt_cmp (do_eqU hr.units) (d_call F_l_draw rfl (hr.mono (by decide)) T.g__law_draw T.k__law_draw T.b__law_draw (da_cons (dv 1) (da_cons d_int da_nil))) d_int) (dss_one (ds_set 10 sc_law.nd (d_callTy (x := "tuple") dc_tuple (by rfl) T.f_tuple rfl (da_cons (dv 9) da_nil)))) dss_nil) (dss_cons (ds_set 11 sc_law.nd (d_tup (da_cons d_str (da_cons (d_ix (dixU hr.u1) (dv 2) d_int) (da_cons (d_ix (dixU hr.u1) (dv 2) d_int) (da_cons (d_call F_l_swapped rfl (hr.mono (by decide)) T.g__law_swapped T.k__law_swapped T.b__law_swapped (da_cons (dv 5) (da_cons (dv 6) (da_cons (dv 9) da_nil)))) da_nil)))))) (dss_cons (ds_if (dw_or (dt_cmp (do_neU hr.units) (d_callB (x := "repr") (dc_repr hr.g hr.units) (by rfl) T.f_repr rfl (da_cons (d_callX F_swapping rfl (hr.mono (by decide)) T.g_swapping T.k_swapping T.b_swapping (da_cons (dv 7) (da_cons (dv 8) (da_cons (dv 10) da_nil)))) da_nil)) (d_callB (x := "repr") (dc_repr hr.g hr.units) (by rfl) T.f_repr rfl (da_cons (dv 11) da_nil))) (dw_or1 (dt_cmp (do_neU hr.units) (d_callTy (x := "list") dc_list (by rfl) T.f_list rfl (da_cons (dv 10) da_nil)) (dv 9)))).pt (dss_one (ds_ret d_bl)) dss_nil) (dss_cons (ds_set 12 sc_law.nd (d_call F_l_draw rfl (hr.mono (by decide)) T.g__law_draw T.k__law_draw T.b__law_draw (da_cons (dv 1) (da_cons d_int da_nil)))) (dss_cons (ds_if (dt_cmp do_lt (dv 12) d_int) (dss_cons (ds_expr (d_mt PySem.F.slot_list_insert PySem.F.type_list_insert dm_insert (dv 9) (da_cons (d_call F_l_draw rfl (hr.mono (by decide)) T.g__law_draw T.k__law_draw T.b__law_draw (da_cons (dv 1) (da_cons (d_op do_addU (d_callB (x := "len") dc_len (by rfl) T.f_len rfl (da_cons (dv 9) da_nil)) d_int) da_nil))) (da_cons (d_call F_l_bad_pair rfl (hr.mono (by decide)) T.g__law_bad_pair T.k__law_bad_pair T.b__law_bad_pair (da_cons (dv 1) (da_cons (dv 5) (da_cons (dv 6) (da_cons (dv 12) da_nil))))) da_nil)))) (dss_one (ds_ret (d_call F_l_refused rfl (hr.mono (by decide)) T.g__law_refused T.k__law_refused T.b__law_refused (da_cons (dv 7) (da_cons (dv 8) (da_cons (dv 9) da_nil))))))) dss_nil) (dss_cons (ds_set 13 sc_law.nd (d_call F_l_other_doors rfl (hr.mono (by decide)) T.g__law_other_doors T.k__law_other_doors T.b__law_other_doors (da_cons (d_ix (dixU hr.u1) (dv 2) d_int) (da_cons (d_ix (dixU hr.u1) (dv 2) d_int) (da_cons (dv 12) da_nil))))) (dss_one (ds_ret (d_call F_l_refused rfl (hr.mono (by decide)) T.g__law_refused T.k__law_refused T.b__law_refused (da_cons (dv 7) (da_cons (d_tup (da_cons d_str (da_cons (d_ix (dixU hr.u1) (dv 13) d_int) (da_cons (d_ix (dixU hr.u1) (dv 13) d_int) (da_cons (d_tup (da_cons (d_tup da_nil) da_nil)) da_nil))))) (da_cons (d_slice dslU (dv 9) dO_none (dO_some d_int)) da_nil))))))))))))))))))))))))
/-! the head -/
def dd_is_number : He.DefD := ⟨("is_number", none), "is_number", "is_number", defArgs (top 8), defBody (top 8), defScope (top 8), [], []⟩
def dd_is_state : He.DefD := ⟨("is_state", none), "is_state", "is_state", defArgs (top 9), defBody (top 9), defScope (top 9), [], []⟩
def dd_is_pair : He.DefD := ⟨("is_pair", none), "is_pair", "is_pair", defArgs (top 10), defBody (top 10), defScope (top 10), [], []⟩
def dd_doors_of : He.DefD := ⟨("doors_of", none), "doors_of", "doors_of", defArgs (top 13), defBody (top 13), defScope (top 13), [], []⟩
def dd_trimmed : He.DefD := ⟨("trimmed", none), "trimmed", "trimmed", defArgs (top 15), defBody (top 15), defScope (top 15), [], []⟩
def dd_swapping : He.DefD := ⟨("swapping", none), "swapping", "swapping", defArgs (top 16), defBody (top 16), defScope (top 16), [], []⟩
def dd_l_deck : He.DefD := ⟨("_law_deck", none), "_law_deck", "_law_deck", defArgs (top 18), defBody (top 18), defScope (top 18), [], []⟩
def dd_l_draw : He.DefD := ⟨("_law_draw", none), "_law_draw", "_law_draw", defArgs (top 19), defBody (top 19), defScope (top 19), [], []⟩
def dd_l_some : He.DefD := ⟨("_law_some", none), "_law_some", "_law_some", defArgs (top 20), defBody (top 20), defScope (top 20), [], []⟩
def dd_l_doors : He.DefD := ⟨("_law_doors", none), "_law_doors", "_law_doors", defArgs (top 21), defBody (top 21), defScope (top 21), [], []⟩
def dd_l_events : He.DefD := ⟨("_law_events", none), "_law_events", "_law_events", defArgs (top 22), defBody (top 22), defScope (top 22), [], []⟩
def dd_l_world : He.DefD := ⟨("_law_world", none), "_law_world", "_law_world", defArgs (top 23), defBody (top 23), defScope (top 23), [], []⟩
def dd_l_pack : He.DefD := ⟨("_law_pack", none), "_law_pack", "_law_pack", defArgs (top 24), defBody (top 24), defScope (top 24), [], []⟩
def dd_l_rows : He.DefD := ⟨("_law_rows", none), "_law_rows", "_law_rows", defArgs (top 25), defBody (top 25), defScope (top 25), [], []⟩
def dd_l_reached : He.DefD := ⟨("_law_reached", none), "_law_reached", "_law_reached", defArgs (top 26), defBody (top 26), defScope (top 26), [], []⟩
def dd_l_packed : He.DefD := ⟨("_law_packed", none), "_law_packed", "_law_packed", defArgs (top 27), defBody (top 27), defScope (top 27), [], []⟩
def dd_l_swapped : He.DefD := ⟨("_law_swapped", none), "_law_swapped", "_law_swapped", defArgs (top 28), defBody (top 28), defScope (top 28), [], []⟩
def dd_l_is_bad_graph : He.DefD := ⟨("_law_is_bad_graph", none), "_law_is_bad_graph", "_law_is_bad_graph", defArgs (top 29), defBody (top 29), defScope (top 29), [], []⟩
def dd_l_bad_pair : He.DefD := ⟨("_law_bad_pair", none), "_law_bad_pair", "_law_bad_pair", defArgs (top 30), defBody (top 30), defScope (top 30), [], []⟩
def dd_l_other_doors : He.DefD := ⟨("_law_other_doors", none), "_law_other_doors", "_law_other_doors", defArgs (top 31), defBody (top 31), defScope (top 31), [], []⟩
def dd_l_refused : He.DefD := ⟨("_law_refused", none), "_law_refused", "_law_refused", defArgs (top 32), defBody (top 32), defScope (top 32), [], []⟩
def dd_law : He.DefD := ⟨("law", none), "law", "law", defArgs (top 33), defBody (top 33), defScope (top 33), [], []⟩
def fn : List He.DefD := [dd_is_number, dd_is_state, dd_is_pair, dd_doors_of, dd_trimmed, dd_swapping, dd_l_deck, dd_l_draw, dd_l_some, dd_l_doors, dd_l_events, dd_l_world, dd_l_pack, dd_l_rows, dd_l_reached, dd_l_packed, dd_l_swapped, dd_l_is_bad_graph, dd_l_bad_pair, dd_l_other_doors, dd_l_refused, dd_law]
def fa : List He.Fa := [.glo "is_number", .glo "is_state", .glo "is_pair", .glo "doors_of", .glo "trimmed", .glo "swapping", .glo "_law_deck", .glo "_law_draw", .glo "_law_some", .glo "_law_doors", .glo "_law_events", .glo "_law_world", .glo "_law_pack", .glo "_law_rows", .glo "_law_reached", .glo "_law_packed", .glo "_law_swapped", .glo "_law_is_bad_graph", .glo "_law_bad_pair", .glo "_law_other_doors", .glo "_law_refused", .glo "law", .glo "BadGraph", .glo "BadName", .glo "BadTeacher", .glo "BadTests", .glo "QUIET", .glo "TooMany", .glo "UnseenError", .free "ValueError", .free "abs", .free "bool", .free "enumerate", .free "int", .free "isinstance", .free "len", .free "list", .free "range", .free "repr", .free "set", .free "sorted", .free "str", .free "tuple", .exc "BadGraph", .exm "BadGraph" "BadGraph" true]
def fb (K : PySem.W.Frag) : Bool := (DL.tupD K (He.ga K "QUIET") [(.str ""), (.str "quiet")]) && (DL.excB K (He.ga K "BadGraph")) && (DL.kitB K (kits K))
theorem top_ok {K : PySem.W.Frag} {h : Heap} {mg : Str → Option Value} (X : K.In h) (G : h.Ns mainGlobals mg) (c : He.SaysD fa fn K) (cb : fb K = true) : Top K mg := by
  obtain ⟨⟨b0, b1⟩, b2⟩ := (by simpa only [fb, Bool.and_eq_true] using cb)
  obtain ⟨fd0, F0⟩ := c.def_ 0 (d := dd_is_number) rfl
  have e0 := fdO_eq F0; subst e0
  obtain ⟨fd1, F1⟩ := c.def_ 1 (d := dd_is_state) rfl
  have e1 := fdO_eq F1; subst e1
  obtain ⟨fd2, F2⟩ := c.def_ 2 (d := dd_is_pair) rfl
  have e2 := fdO_eq F2; subst e2
  obtain ⟨fd3, F3⟩ := c.def_ 3 (d := dd_doors_of) rfl
  have e3 := fdO_eq F3; subst e3
  obtain ⟨fd4, F4⟩ := c.def_ 4 (d := dd_trimmed) rfl
  have e4 := fdO_eq F4; subst e4
  obtain ⟨fd5, F5⟩ := c.def_ 5 (d := dd_swapping) rfl
  have e5 := fdO_eq F5; subst e5
  obtain ⟨fd6, F6⟩ := c.def_ 6 (d := dd_l_deck) rfl
  have e6 := fdO_eq F6; subst e6
  obtain ⟨fd7, F7⟩ := c.def_ 7 (d := dd_l_draw) rfl
  have e7 := fdO_eq F7; subst e7
  obtain ⟨fd8, F8⟩ := c.def_ 8 (d := dd_l_some) rfl
  have e8 := fdO_eq F8; subst e8
  obtain ⟨fd9, F9⟩ := c.def_ 9 (d := dd_l_doors) rfl
  have e9 := fdO_eq F9; subst e9
  obtain ⟨fd10, F10⟩ := c.def_ 10 (d := dd_l_events) rfl
  have e10 := fdO_eq F10; subst e10
  obtain ⟨fd11, F11⟩ := c.def_ 11 (d := dd_l_world) rfl
  have e11 := fdO_eq F11; subst e11
  obtain ⟨fd12, F12⟩ := c.def_ 12 (d := dd_l_pack) rfl
  have e12 := fdO_eq F12; subst e12
  obtain ⟨fd13, F13⟩ := c.def_ 13 (d := dd_l_rows) rfl
  have e13 := fdO_eq F13; subst e13
  obtain ⟨fd14, F14⟩ := c.def_ 14 (d := dd_l_reached) rfl
  have e14 := fdO_eq F14; subst e14
  obtain ⟨fd15, F15⟩ := c.def_ 15 (d := dd_l_packed) rfl
  have e15 := fdO_eq F15; subst e15
  obtain ⟨fd16, F16⟩ := c.def_ 16 (d := dd_l_swapped) rfl
  have e16 := fdO_eq F16; subst e16
  obtain ⟨fd17, F17⟩ := c.def_ 17 (d := dd_l_is_bad_graph) rfl
  have e17 := fdO_eq F17; subst e17
  obtain ⟨fd18, F18⟩ := c.def_ 18 (d := dd_l_bad_pair) rfl
  have e18 := fdO_eq F18; subst e18
  obtain ⟨fd19, F19⟩ := c.def_ 19 (d := dd_l_other_doors) rfl
  have e19 := fdO_eq F19; subst e19
  obtain ⟨fd20, F20⟩ := c.def_ 20 (d := dd_l_refused) rfl
  have e20 := fdO_eq F20; subst e20
  obtain ⟨fd21, F21⟩ := c.def_ 21 (d := dd_law) rfl
  have e21 := fdO_eq F21; subst e21
  exact {
    g_is_number := He.glo_ok X G (c.fact 0 (f := .glo "is_number") rfl),
    k_is_number := F0.kp,
    d_is_number := F0,
    b_is_number := FunD.bindsN F0 fun _ _ _ _ _ _ us hl => match us, hl with | [_], _ => rfl,
    g_is_state := He.glo_ok X G (c.fact 1 (f := .glo "is_state") rfl),
    k_is_state := F1.kp,
    d_is_state := F1,
    b_is_state := FunD.bindsN F1 fun _ _ _ _ _ _ us hl => match us, hl with | [_, _], _ => rfl,
    g_is_pair := He.glo_ok X G (c.fact 2 (f := .glo "is_pair") rfl),
    k_is_pair := F2.kp,
    d_is_pair := F2,
    b_is_pair := FunD.bindsN F2 fun _ _ _ _ _ _ us hl => match us, hl with | [_, _, _], _ => rfl,
    g_doors_of := He.glo_ok X G (c.fact 3 (f := .glo "doors_of") rfl),
    k_doors_of := F3.kp,
    d_doors_of := F3,
    b_doors_of := FunD.bindsN F3 fun _ _ _ _ _ _ us hl => match us, hl with | [_], _ => rfl,
    g_trimmed := He.glo_ok X G (c.fact 4 (f := .glo "trimmed") rfl),
    k_trimmed := F4.kp,
    d_trimmed := F4,
    b_trimmed := FunD.bindsN F4 fun _ _ _ _ _ _ us hl => match us, hl with | [_], _ => rfl,
    g_swapping := He.glo_ok X G (c.fact 5 (f := .glo "swapping") rfl),
    k_swapping := F5.kp,
    d_swapping := F5,
    b_swapping := FunD.bindsN F5 fun _ _ _ _ _ _ us hl => match us, hl with | [_, _, _], _ => rfl,
    g__law_deck := He.glo_ok X G (c.fact 6 (f := .glo "_law_deck") rfl),
    k__law_deck := F6.kp,
    d__law_deck := F6,
    b__law_deck := FunD.bindsN F6 fun _ _ _ _ _ _ us hl => match us, hl with | [_], _ => rfl,
    g__law_draw := He.glo_ok X G (c.fact 7 (f := .glo "_law_draw") rfl),
    k__law_draw := F7.kp,
    d__law_draw := F7,
    b__law_draw := FunD.bindsN F7 fun _ _ _ _ _ _ us hl => match us, hl with | [_, _], _ => rfl,
    g__law_some := He.glo_ok X G (c.fact 8 (f := .glo "_law_some") rfl),
    k__law_some := F8.kp,
    d__law_some := F8,
    b__law_some := FunD.bindsN F8 fun _ _ _ _ _ _ us hl => match us, hl with | [_, _], _ => rfl,
    g__law_doors := He.glo_ok X G (c.fact 9 (f := .glo "_law_doors") rfl),
    k__law_doors := F9.kp,
    d__law_doors := F9,
    b__law_doors := FunD.bindsN F9 fun _ _ _ _ _ _ us hl => match us, hl with | [_, _], _ => rfl,
    g__law_events := He.glo_ok X G (c.fact 10 (f := .glo "_law_events") rfl),
    k__law_events := F10.kp,
    d__law_events := F10,
    b__law_events := FunD.bindsN F10 fun _ _ _ _ _ _ us hl => match us, hl with | [_], _ => rfl,
    g__law_world := He.glo_ok X G (c.fact 11 (f := .glo "_law_world") rfl),
    k__law_world := F11.kp,
    d__law_world := F11,
    b__law_world := FunD.bindsN F11 fun _ _ _ _ _ _ us hl => match us, hl with | [_, _], _ => rfl,
    g__law_pack := He.glo_ok X G (c.fact 12 (f := .glo "_law_pack") rfl),
    k__law_pack := F12.kp,
    d__law_pack := F12,
    b__law_pack := FunD.bindsN F12 fun _ _ _ _ _ _ us hl => match us, hl with | [_], _ => rfl,
    g__law_rows := He.glo_ok X G (c.fact 13 (f := .glo "_law_rows") rfl),
    k__law_rows := F13.kp,
    d__law_rows := F13,
    b__law_rows := FunD.bindsN F13 fun _ _ _ _ _ _ us hl => match us, hl with | [_, _, _, _], _ => rfl,
    g__law_reached := He.glo_ok X G (c.fact 14 (f := .glo "_law_reached") rfl),
    k__law_reached := F14.kp,
    d__law_reached := F14,
    b__law_reached := FunD.bindsN F14 fun _ _ _ _ _ _ us hl => match us, hl with | [_], _ => rfl,
    g__law_packed := He.glo_ok X G (c.fact 15 (f := .glo "_law_packed") rfl),
    k__law_packed := F15.kp,
    d__law_packed := F15,
    b__law_packed := FunD.bindsN F15 fun _ _ _ _ _ _ us hl => match us, hl with | [_, _], _ => rfl,
    g__law_swapped := He.glo_ok X G (c.fact 16 (f := .glo "_law_swapped") rfl),
    k__law_swapped := F16.kp,
    d__law_swapped := F16,
    b__law_swapped := FunD.bindsN F16 fun _ _ _ _ _ _ us hl => match us, hl with | [_, _, _], _ => rfl,
    g__law_is_bad_graph := He.glo_ok X G (c.fact 17 (f := .glo "_law_is_bad_graph") rfl),
    k__law_is_bad_graph := F17.kp,
    d__law_is_bad_graph := F17,
    b__law_is_bad_graph := FunD.bindsN F17 fun _ _ _ _ _ _ us hl => match us, hl with | [_], _ => rfl,
    g__law_bad_pair := He.glo_ok X G (c.fact 18 (f := .glo "_law_bad_pair") rfl),
    k__law_bad_pair := F18.kp,
    d__law_bad_pair := F18,
    b__law_bad_pair := FunD.bindsN F18 fun _ _ _ _ _ _ us hl => match us, hl with | [_, _, _, _], _ => rfl,
    g__law_other_doors := He.glo_ok X G (c.fact 19 (f := .glo "_law_other_doors") rfl),
    k__law_other_doors := F19.kp,
    d__law_other_doors := F19,
    b__law_other_doors := FunD.bindsN F19 fun _ _ _ _ _ _ us hl => match us, hl with | [_, _, _], _ => rfl,
    g__law_refused := He.glo_ok X G (c.fact 20 (f := .glo "_law_refused") rfl),
    k__law_refused := F20.kp,
    d__law_refused := F20,
    b__law_refused := FunD.bindsN F20 fun _ _ _ _ _ _ us hl => match us, hl with | [_, _, _], _ => rfl,
    g_law := He.glo_ok X G (c.fact 21 (f := .glo "law") rfl),
    k_law := F21.kp,
    d_law := F21,
    b_law := FunD.bindsN F21 fun _ _ _ _ _ _ us hl => match us, hl with | [_], _ => rfl,
    f_ValueError := He.free_ok X G (c.fact 29 (f := .free "ValueError") rfl),
    f_abs := He.free_ok X G (c.fact 30 (f := .free "abs") rfl),
    f_bool := He.free_ok X G (c.fact 31 (f := .free "bool") rfl),
    f_enumerate := He.free_ok X G (c.fact 32 (f := .free "enumerate") rfl),
    f_int := He.free_ok X G (c.fact 33 (f := .free "int") rfl),
    f_isinstance := He.free_ok X G (c.fact 34 (f := .free "isinstance") rfl),
    f_len := He.free_ok X G (c.fact 35 (f := .free "len") rfl),
    f_list := He.free_ok X G (c.fact 36 (f := .free "list") rfl),
    f_range := He.free_ok X G (c.fact 37 (f := .free "range") rfl),
    f_repr := He.free_ok X G (c.fact 38 (f := .free "repr") rfl),
    f_set := He.free_ok X G (c.fact 39 (f := .free "set") rfl),
    f_sorted := He.free_ok X G (c.fact 40 (f := .free "sorted") rfl),
    f_str := He.free_ok X G (c.fact 41 (f := .free "str") rfl),
    f_tuple := He.free_ok X G (c.fact 42 (f := .free "tuple") rfl),
    g_BadGraph := He.glo_ok X G (c.fact 22 (f := .glo "BadGraph") rfl),
    g_BadName := He.glo_ok X G (c.fact 23 (f := .glo "BadName") rfl),
    g_BadTeacher := He.glo_ok X G (c.fact 24 (f := .glo "BadTeacher") rfl),
    g_BadTests := He.glo_ok X G (c.fact 25 (f := .glo "BadTests") rfl),
    g_QUIET := He.glo_ok X G (c.fact 26 (f := .glo "QUIET") rfl),
    g_TooMany := He.glo_ok X G (c.fact 27 (f := .glo "TooMany") rfl),
    g_UnseenError := He.glo_ok X G (c.fact 28 (f := .glo "UnseenError") rfl),
    c_QUIET := fun H => DL.tupD_ok b0 H,
    e_BadGraph := He.exc_ok (c.fact 43 (f := .exc "BadGraph") rfl),
    exc := DL.excB_ok b1,
    kit := b2,
    exm := fun x hx => by simp only [List.mem_cons, List.not_mem_nil, or_false] at hx; subst hx <;> first | exact He.exm_ok (c.fact 44 (f := .exm "BadGraph" "BadGraph" true) rfl)
  }
end L49

set_option Elab.async false
set_option linter.all false
set_option maxRecDepth 100000
set_option maxHeartbeats 4000000
namespace L49
open PySem PySem.Spec PyProof.Rows L2 DL
abbrev endsF (Q : DK) : DEnds := { nx := fun _ A' => Q .non A', rt := Q }
/-! ### is_number, is_state, is_pair, doors_of -/
def spIsNum : DSp := fun ds A Q => match ds with
  | [.int _] => Q (.bl true) A
  | [.bl _] => Q (.bl false) A
  | _ => False
section
variable {P : Program} {w : World} {K : PySem.W.Frag} {mg : Str → Option Value} {base : Heap}
theorem ok_is_number (T : Top K mg) : DFn P w K mg base 1 (He.ga K "is_number") (fdO K (He.ga K "is_number")) ["value"] spIsNum := by
  refine dfun_ok T.d_is_number sc_is_number (fun ds A Q h => ?_) (b_is_number T) fun ds A Q h => ?_
  · unfold spIsNum at h
    split at h <;> first | rfl | exact h.elim
  · unfold spIsNum at h
    unfold t_is_number
    dsimp only [qSeq, qIfS, qAnd, qOr, qNot, qTest, qOp, qCB, qCX, qCons, qNil, qC, qPut, qMt, qSet, qRet, qRetN, qDrop, qNext, qAndV, qOrV, qNotV, qIf, qChain, qTup, qLst, qSl, qPart, qNoPart, qAsg, qTru, qNeg, qRaise, qDropX, qBreak, qCont, qFor_eq, qLc_eq, qDc_eq, qiSeq, qiRange1, qiRange2, qiEnum, rII0, rII, CDiv, CMul, CPow, rAbs, rInt, rStrI, qTg, Tg.put, putsV, qYes, wipeD]
    split at h
    · refine qVar_some rfl ?_
      refine ⟨_, "int", "int", true, rfl, .int _, kitB_ok T.kit 8 rfl, ?_⟩
      dsimp only [qSeq, qIfS, qAnd, qOr, qNot, qTest, qOp, qCB, qCX, qCons, qNil, qC, qPut, qMt, qSet, qRet, qRetN, qDrop, qNext, qAndV, qOrV, qNotV, qIf, qChain, qTup, qLst, qSl, qPart, qNoPart, qAsg, qTru, qNeg, qRaise, qDropX, qBreak, qCont, qFor_eq, qLc_eq, qDc_eq, qiSeq, qiRange1, qiRange2, qiEnum, rII0, rII, CDiv, CMul, CPow, rAbs, rInt, rStrI, qTg, Tg.put, putsV, qYes, wipeD]
      refine qVar_some rfl ?_
      exact ⟨_, "int", "bool", false, rfl, .int _, kitB_ok T.kit 2 rfl, h⟩
    · refine qVar_some rfl ?_
      refine ⟨_, "bool", "int", true, rfl, .bl _, kitB_ok T.kit 7 rfl, ?_⟩
      dsimp only [qSeq, qIfS, qAnd, qOr, qNot, qTest, qOp, qCB, qCX, qCons, qNil, qC, qPut, qMt, qSet, qRet, qRetN, qDrop, qNext, qAndV, qOrV, qNotV, qIf, qChain, qTup, qLst, qSl, qPart, qNoPart, qAsg, qTru, qNeg, qRaise, qDropX, qBreak, qCont, qFor_eq, qLc_eq, qDc_eq, qiSeq, qiRange1, qiRange2, qiEnum, rII0, rII, CDiv, CMul, CPow, rAbs, rInt, rStrI, qTg, Tg.put, putsV, qYes, wipeD]
      refine qVar_some rfl ?_
      exact ⟨_, "bool", "bool", true, rfl, .bl _, kitB_ok T.kit 1 rfl, h⟩
    · exact h.elim
/-- an int in [0, many) -/
def isSt (x : D) (many : Int) : Bool := match x with
  | .int i => decide (0 ≤ i) && decide (i < many)
  | _ => false
def spIsState : DSp := fun ds A Q => match ds with
  | [.int i, .int m] => Q (.bl (isSt (.int i) m)) A
  | [.bl _, .int _] => Q (.bl false) A
  | _ => False
theorem ok_is_state (T : Top K mg) : DFn P w K mg base 2 (He.ga K "is_state") (fdO K (He.ga K "is_state")) ["value", "many"] spIsState := by
  refine dfun_ok T.d_is_state sc_is_state (fun ds A Q h => ?_) (b_is_state T (ok_is_number T)) fun ds A Q h => ?_
  · unfold spIsState at h
    split at h <;> first | rfl | exact h.elim
  · unfold spIsState at h
    unfold t_is_state
    dsimp only [qSeq, qIfS, qAnd, qOr, qNot, qTest, qOp, qCB, qCX, qCons, qNil, qC, qPut, qMt, qSet, qRet, qRetN, qDrop, qNext, qAndV, qOrV, qNotV, qIf, qChain, qTup, qLst, qSl, qPart, qNoPart, qAsg, qTru, qNeg, qRaise, qDropX, qBreak, qCont, qFor_eq, qLc_eq, qDc_eq, qiSeq, qiRange1, qiRange2, qiEnum, rII0, rII, CDiv, CMul, CPow, rAbs, rInt, rStrI, qTg, Tg.put, putsV, qYes, wipeD]
    split at h
    · rename_i i m
      refine qVar_some rfl ?_
      dsimp only [spIsNum]
      refine qVar_some rfl ?_
      dsimp only
      have h : Q (.bl (decide (0 ≤ i) && decide (i < m))) A := h
      cases e : decide (0 ≤ i) with
      | true =>
        rw [e] at h
        dsimp only
        refine qVar_some rfl ?_
        exact h
      | false =>
        rw [e] at h
        exact h
    · refine qVar_some rfl ?_
      exact h
    · exact h.elim
/-- a pair of states -/
def isPr (x : D) (n m : Int) : Bool := match x with
  | .tup [a, b] => isSt a n && isSt b m
  | _ => false
/-- what pairs are asked of: tuples of ints and bools -/
def prOk : D → Prop
  | .tup xs => ∀ x ∈ xs, (∃ i, x = .int i) ∨ ∃ b, x = .bl b
  | _ => False
def spIsPair : DSp := fun ds A Q => ∃ x n m, ds = [x, .int n, .int m] ∧ prOk x ∧ Q (.bl (isPr x n m)) A
theorem isState_ok {x : D} {n : Int} {A : DA} {Q : DK} (hx : (∃ i, x = .int i) ∨ ∃ b, x = .bl b) (q : Q (.bl (isSt x n)) A) : spIsState [x, .int n] A Q := by
  rcases hx with ⟨i, rfl⟩ | ⟨b, rfl⟩
  · exact q
  · exact q
theorem ok_is_pair (T : Top K mg) : DFn P w K mg base 3 (He.ga K "is_pair") (fdO K (He.ga K "is_pair")) ["value", "one_many", "other_many"] spIsPair := by
  refine dfun_ok T.d_is_pair sc_is_pair (fun ds A Q ⟨x, n, m, h, _⟩ => by rw [h]; rfl) (b_is_pair T (ok_is_state T)) fun ds A Q ⟨x, n, m, h1, h2, q⟩ => ?_
  subst h1
  obtain ⟨xs, rfl⟩ : ∃ xs, x = .tup xs := by
    cases x with
    | tup xs => exact ⟨xs, rfl⟩
    | _ => exact h2.elim
  unfold t_is_pair
  dsimp only [qSeq, qIfS, qAnd, qOr, qNot, qTest, qOp, qCB, qCX, qCons, qNil, qC, qPut, qMt, qSet, qRet, qRetN, qDrop, qNext, qAndV, qOrV, qNotV, qIf, qChain, qTup, qLst, qSl, qPart, qNoPart, qAsg, qTru, qNeg, qRaise, qDropX, qBreak, qCont, qFor_eq, qLc_eq, qDc_eq, qiSeq, qiRange1, qiRange2, qiEnum, rII0, rII, CDiv, CMul, CPow, rAbs, rInt, rStrI, qTg, Tg.put, putsV, qYes, wipeD]
  refine qVar_some rfl ?_
  refine ⟨_, "tuple", "tuple", true, rfl, .tup _, kitB_ok T.kit 16 rfl, ?_⟩
  dsimp only
  show (if (!true) = true then _ else _)
  rw [if_neg (by decide)]
  refine qVar_some rfl ?_
  refine x_len_tup ?_
  dsimp only [rEqU, eqF, flatP]
  have e0 : PyData.eqv (.int (xs.length : Int)) (.int 2) = decide ((xs.length : Int) = 2) := by rfl
  rw [if_pos rfl, e0]
  by_cases hl : xs.length = 2
  · have : decide ((xs.length : Int) = 2) = true := decide_eq_true (by omega)
    rw [this]
    show (if (!true) = true then _ else _)
    rw [if_neg (by decide)]
    obtain ⟨a, b, rfl⟩ : ∃ a b, xs = [a, b] := by
      match xs, hl with
      | [a, b], _ => exact ⟨a, b, rfl⟩
    unfold u_is_pair_1
    dsimp only [qSeq, qIfS, qAnd, qOr, qNot, qTest, qOp, qCB, qCX, qCons, qNil, qC, qPut, qMt, qSet, qRet, qRetN, qDrop, qNext, qAndV, qOrV, qNotV, qIf, qChain, qTup, qLst, qSl, qPart, qNoPart, qAsg, qTru, qNeg, qRaise, qDropX, qBreak, qCont, qFor_eq, qLc_eq, qDc_eq, qiSeq, qiRange1, qiRange2, qiEnum, rII0, rII, CDiv, CMul, CPow, rAbs, rInt, rStrI, qTg, Tg.put, putsV, qYes, wipeD]
    refine qVar_some rfl ?_
    refine x_ix_tup rfl ?_
    refine qVar_some rfl ?_
    refine isState_ok (h2 a (by simp)) ?_
    have e : isPr (.tup [a, b]) n m = (isSt a n && isSt b m) := rfl
    rw [e] at q
    cases e1 : isSt a n with
    | true =>
      rw [e1] at q
      dsimp only
      refine qVar_some rfl ?_
      refine x_ix_tup rfl ?_
      refine qVar_some rfl ?_
      exact isState_ok (h2 b (by simp)) q
    | false =>
      rw [e1] at q
      exact q
  · have : decide ((xs.length : Int) = 2) = false := decide_eq_false (by omega)
    rw [this]
    show (if true = true then _ else _)
    rw [if_pos rfl]
    have e : isPr (.tup xs) n m = false := by
      unfold isPr
      split
      · rename_i a b hh; cases hh; exact absurd rfl hl
      · rfl
    rw [e] at q
    exact q
def spDoorsOf : DSp := fun ds A Q => ∃ a b c r, ds = [.tup (a :: b :: c :: r)] ∧ Q (.tup [b, c]) A
theorem ok_doors_of (T : Top K mg) : DFn P w K mg base 1 (He.ga K "doors_of") (fdO K (He.ga K "doors_of")) ["graph"] spDoorsOf := by
  refine dfun_ok T.d_doors_of sc_doors_of (fun ds A Q ⟨a, b, c, r, h, _⟩ => by rw [h]; rfl) (b_doors_of T) fun ds A Q ⟨a, b, c, r, h1, q⟩ => ?_
  subst h1
  unfold t_doors_of
  dsimp only [qSeq, qIfS, qAnd, qOr, qNot, qTest, qOp, qCB, qCX, qCons, qNil, qC, qPut, qMt, qSet, qRet, qRetN, qDrop, qNext, qAndV, qOrV, qNotV, qIf, qChain, qTup, qLst, qSl, qPart, qNoPart, qAsg, qTru, qNeg, qRaise, qDropX, qBreak, qCont, qFor_eq, qLc_eq, qDc_eq, qiSeq, qiRange1, qiRange2, qiEnum, rII0, rII, CDiv, CMul, CPow, rAbs, rInt, rStrI, qTg, Tg.put, putsV, qYes, wipeD]
  refine qVar_some rfl ?_
  refine x_tup1 ?_
  refine qVar_some rfl ?_
  refine x_tup2 ?_
  exact ⟨sz rfl, q⟩
end
end L49

set_option Elab.async false
set_option linter.all false
set_option maxRecDepth 100000
set_option maxHeartbeats 4000000
namespace L49
open PySem PySem.Spec PyProof.Rows L2 DL
theorem cut_mem {α : Type} {xs : List α} {lo hi : Option Int} {x : α} (h : x ∈ cut xs lo hi) : x ∈ xs := List.mem_of_mem_drop (List.mem_of_mem_take h)
theorem cut_len {α : Type} {xs : List α} {lo hi : Option Int} : (cut xs lo hi).length ≤ xs.length := by
  unfold cut
  rw [List.length_take, List.length_drop]
  omega
section
variable {P : Program} {w : World} {K : PySem.W.Frag} {mg : Str → Option Value} {base : Heap}
def spDeck : DSp := fun ds A Q => ∃ x ns, ds = [x] ∧ ns.length ≤ 63 ∧ Script A x ns ∧ ∀ dk A', HD A' dk [] → Q (.ref dk) A'
theorem ints_abs {ds : List D} (h : ∀ d ∈ ds, ∃ i, d = .int i) : ∃ ms : List Int, ds = ms.map D.int := by
  induction ds with
  | nil => exact ⟨[], rfl⟩
  | cons d ds ih =>
    obtain ⟨i, rfl⟩ := h d List.mem_cons_self
    obtain ⟨ms, rfl⟩ := ih fun x hx => h x (List.mem_cons_of_mem _ hx)
    exact ⟨i :: ms, rfl⟩
theorem ok_deck (T : Top K mg) : DFn P w K mg base 1 (He.ga K "_law_deck") (fdO K (He.ga K "_law_deck")) ["script"] spDeck := by
  refine dfun_ok T.d__law_deck sc_l_deck (fun ds A Q ⟨x, ns, h, _⟩ => by rw [h]; rfl) (b_l_deck T) fun ds A Q ⟨x, ns, h1, h2, hS, q⟩ => ?_
  subst h1
  unfold t_l_deck
  try dsimp only [qSeq, qIfS, qAnd, qOr, qNot, qTest, qOp, qCB, qCX, qCons, qNil, qC, qPut, qMt, qSet, qRet, qRetN, qDrop, qNext, qAndV, qOrV, qNotV, qIf, qChain, qTup, qLst, qSl, qPart, qNoPart, qAsg, qTru, qNeg, qRaise, qDropX, qBreak, qCont, qFor_eq, qLc_eq, qDc_eq, qiSeq, qiRange1, qiRange2, qiEnum, rII0, rII, CDiv, CMul, CPow, rAbs, rInt, rStrI, qTg, Tg.put, putsV, qYes, wipeD, qDisp, qPairs, qDNew]
  refine qVar_some rfl ?_
  refine .inl ⟨_, hS.isL, hS.items, fun p A1 n1 => ⟨⟨_, items_lst n1.get⟩, ?_⟩⟩
  obtain ⟨ms, hms⟩ := ints_abs (ds := cut (ns.map D.int) none (some 63)) fun d hd => by
    obtain ⟨i, _, e⟩ := List.mem_map.mp (cut_mem hd)
    exact ⟨i, e.symm⟩
  have hlen : ms.length ≤ 63 := by
    have := cut_len (xs := ns.map D.int) (lo := none) (hi := some 63)
    rw [hms, List.length_map, List.length_map] at this
    omega
  rw [hms] at n1
  refine lcB_map (fun d => match d with | .int i => .int (if i < 0 then -i else i) | d => d) (items_lst n1.get) (szt (by rw [List.length_map]; omega)) (fun p2 A2 n2 => ?_) fun d A2 Ky hd _ hk => ?_
  · obtain ⟨ms2, h2e, _⟩ : ∃ ms2 : List Int, (ms.map D.int).map (fun d => match d with | .int i => .int (if i < 0 then -i else i) | d => d) = ms2.map D.int ∧ ms2.length = ms.length := ⟨ms.map fun i => if i < 0 then -i else i, by rw [List.map_map, List.map_map]; rfl, by rw [List.length_map]⟩
    rw [h2e] at n2
    have hA := (Holds.nil _).new n2
    try dsimp only [qSeq, qIfS, qAnd, qOr, qNot, qTest, qOp, qCB, qCX, qCons, qNil, qC, qPut, qMt, qSet, qRet, qRetN, qDrop, qNext, qAndV, qOrV, qNotV, qIf, qChain, qTup, qLst, qSl, qPart, qNoPart, qAsg, qTru, qNeg, qRaise, qDropX, qBreak, qCont, qFor_eq, qLc_eq, qDc_eq, qiSeq, qiRange1, qiRange2, qiEnum, rII0, rII, CDiv, CMul, CPow, rAbs, rInt, rStrI, qTg, Tg.put, putsV, qYes, wipeD, qDisp, qPairs, qDNew]
    refine qVar_some rfl ?_
    refine x_len_lst (hA.get 0) ?_
    dsimp only [rAddU]
    refine qVar_some rfl ?_
    refine ⟨⟨_, items_lst (hA.get 0)⟩, forB_seq (ms2.map D.int) (fun i τ A => ∃ s y, τ = [some x, some (.ref p2), some (.int s), y] ∧ A = A2) ⟨_, _, rfl, rfl⟩ (fun i τ A ⟨s, y, _, e⟩ => by rw [e]; exact items_lst (hA.get 0)) (fun τ A ⟨s, y, e1, e2⟩ => ?_) fun i d τ A hd ⟨s, y, e1, e2⟩ => ?_⟩
    · subst e1 e2
      unfold u_l_deck_1
      try dsimp only [qSeq, qIfS, qAnd, qOr, qNot, qTest, qOp, qCB, qCX, qCons, qNil, qC, qPut, qMt, qSet, qRet, qRetN, qDrop, qNext, qAndV, qOrV, qNotV, qIf, qChain, qTup, qLst, qSl, qPart, qNoPart, qAsg, qTru, qNeg, qRaise, qDropX, qBreak, qCont, qFor_eq, qLc_eq, qDc_eq, qiSeq, qiRange1, qiRange2, qiEnum, rII0, rII, CDiv, CMul, CPow, rAbs, rInt, rStrI, qTg, Tg.put, putsV, qYes, wipeD, qDisp, qPairs, qDNew]
      intro dk A3 n3
      have hB := hA.new n3
      refine qVar_some rfl ?_
      refine ⟨⟨_, items_lst (hB.get 1)⟩, ?_⟩
      refine lcB_seq (fun d => match d with | .int i => if decide ((10 : Int) ^ (18 : Int).toNat ≤ i) = true then some (.int i) else none | _ => none) (items_lst (hB.get 1)) (szt (by rw [List.length_map]; omega)) (fun p4 A4 n4 => ?_) fun d A4 Ky Kn hd he k1 k2 => ?_
      · have hC := hB.new n4
        obtain ⟨ms4, h4⟩ := ints_abs (ds := (ms2.map D.int).filterMap (fun d => match d with | .int i => if decide ((10 : Int) ^ (18 : Int).toNat ≤ i) = true then some (.int i) else none | _ => none)) fun d hd => by
          obtain ⟨e, he, h⟩ := List.mem_filterMap.mp hd
          obtain ⟨i, _, rfl⟩ := List.mem_map.mp he
          dsimp only at h
          split at h
          · cases h; exact ⟨i, rfl⟩
          · cases h
        rw [h4] at hC
        refine qVar_some rfl ?_
        refine ⟨hC.get 1, by simp [keyD], Nat.le_of_ble_eq_true rfl, fun A5 p5 => ?_⟩
        have hE := hC.put 1 p5
        refine q dk A5 ⟨p4, 0, s, ms4, ?_⟩
        have hE2 : Holds A5 [(p4, .lst (ms4.map D.int)), (dk, deckMO p4 0 s), (p2, .lst (ms2.map D.int))] := hE
        exact (hE2.sub (L' := [(p4, .lst (ms4.map D.int)), (dk, deckMO p4 0 s)]) (by simp)).perm (List.Perm.swap _ _ _)
      · obtain ⟨i, _, rfl⟩ := List.mem_map.mp hd
        try dsimp only [qSeq, qIfS, qAnd, qOr, qNot, qTest, qOp, qCB, qCX, qCons, qNil, qC, qPut, qMt, qSet, qRet, qRetN, qDrop, qNext, qAndV, qOrV, qNotV, qIf, qChain, qTup, qLst, qSl, qPart, qNoPart, qAsg, qTru, qNeg, qRaise, qDropX, qBreak, qCont, qFor_eq, qLc_eq, qDc_eq, qiSeq, qiRange1, qiRange2, qiEnum, rII0, rII, CDiv, CMul, CPow, rAbs, rInt, rStrI, qTg, Tg.put, putsV, qYes, wipeD, qDisp, qPairs, qDNew]
        refine qVar_some rfl ?_
        refine ⟨⟨by decide, by decide, by decide⟩, ?_⟩
        refine x_if (fun c => ?_) fun c => ?_
        · refine qVar_some rfl ?_
          exact k1 _ (if_pos c)
        · exact k2 (if_neg (by rw [c]; decide))
    · subst e1 e2
      obtain ⟨j, _, rfl⟩ := List.mem_map.mp (List.mem_of_getElem? hd)
      try dsimp only [qSeq, qIfS, qAnd, qOr, qNot, qTest, qOp, qCB, qCX, qCons, qNil, qC, qPut, qMt, qSet, qRet, qRetN, qDrop, qNext, qAndV, qOrV, qNotV, qIf, qChain, qTup, qLst, qSl, qPart, qNoPart, qAsg, qTru, qNeg, qRaise, qDropX, qBreak, qCont, qFor_eq, qLc_eq, qDc_eq, qiSeq, qiRange1, qiRange2, qiEnum, rII0, rII, CDiv, CMul, CPow, rAbs, rInt, rStrI, qTg, Tg.put, putsV, qYes, wipeD, qDisp, qPairs, qDNew]
      refine qVar_some rfl ?_
      refine ⟨.inr (by decide), ?_⟩
      refine qVar_some rfl ?_
      dsimp only [rAddU]
      exact ⟨by decide, _, _, rfl, rfl⟩
  · obtain ⟨i, _, rfl⟩ := List.mem_map.mp hd
    try dsimp only [qSeq, qIfS, qAnd, qOr, qNot, qTest, qOp, qCB, qCX, qCons, qNil, qC, qPut, qMt, qSet, qRet, qRetN, qDrop, qNext, qAndV, qOrV, qNotV, qIf, qChain, qTup, qLst, qSl, qPart, qNoPart, qAsg, qTru, qNeg, qRaise, qDropX, qBreak, qCont, qFor_eq, qLc_eq, qDc_eq, qiSeq, qiRange1, qiRange2, qiEnum, rII0, rII, CDiv, CMul, CPow, rAbs, rInt, rStrI, qTg, Tg.put, putsV, qYes, wipeD, qDisp, qPairs, qDNew]
    refine qVar_some rfl ?_
    exact hk
/-! ### draw -/
theorem draw2 {dk : Addr} {many : Int} {L : List (Addr × MO)} {Q : DK} {g : Addr} {r s : Int} {cells : List Int} {A : DA} (h1 : 0 < many) (hA : Holds A ((dk, deckMO g r s) :: (g, .lst (cells.map D.int)) :: L)) (q : ∀ r A', 0 ≤ r → r < many → HD A' dk L → Q (.int r) A') :
    u_l_draw_1 K w (endsF Q) [some (.ref dk), some (.int many), none] A := by
  unfold u_l_draw_1
  try dsimp only [qSeq, qIfS, qAnd, qOr, qNot, qTest, qOp, qCB, qCX, qCons, qNil, qC, qPut, qMt, qSet, qRet, qRetN, qDrop, qNext, qAndV, qOrV, qNotV, qIf, qChain, qTup, qLst, qSl, qPart, qNoPart, qAsg, qTru, qNeg, qRaise, qDropX, qBreak, qCont, qFor_eq, qLc_eq, qDc_eq, qiSeq, qiRange1, qiRange2, qiEnum, rII0, rII, CDiv, CMul, CPow, rAbs, rInt, rStrI, qTg, Tg.put, putsV, qYes, wipeD, qDisp, qPairs, qDNew]
  refine qVar_some rfl ?_
  refine x_ix_dk (hA.get 0) rfl rfl ?_
  try dsimp only [qSeq, qIfS, qAnd, qOr, qNot, qTest, qOp, qCB, qCX, qCons, qNil, qC, qPut, qMt, qSet, qRet, qRetN, qDrop, qNext, qAndV, qOrV, qNotV, qIf, qChain, qTup, qLst, qSl, qPart, qNoPart, qAsg, qTru, qNeg, qRaise, qDropX, qBreak, qCont, qFor_eq, qLc_eq, qDc_eq, qiSeq, qiRange1, qiRange2, qiEnum, rII0, rII, CDiv, CMul, CPow, rAbs, rInt, rStrI, qTg, Tg.put, putsV, qYes, wipeD, qDisp, qPairs, qDNew]
  refine ⟨.inr (by decide), ?_⟩
  dsimp only [rAddU]
  refine ⟨by decide, ?_⟩
  refine qVar_some rfl ?_
  refine x_put_dk (hA.get 0) rfl (szt (Nat.le_of_ble_eq_true rfl)) fun A1 p1 => ?_
  have hB := hA.put 0 p1
  try dsimp only [qSeq, qIfS, qAnd, qOr, qNot, qTest, qOp, qCB, qCX, qCons, qNil, qC, qPut, qMt, qSet, qRet, qRetN, qDrop, qNext, qAndV, qOrV, qNotV, qIf, qChain, qTup, qLst, qSl, qPart, qNoPart, qAsg, qTru, qNeg, qRaise, qDropX, qBreak, qCont, qFor_eq, qLc_eq, qDc_eq, qiSeq, qiRange1, qiRange2, qiEnum, rII0, rII, CDiv, CMul, CPow, rAbs, rInt, rStrI, qTg, Tg.put, putsV, qYes, wipeD, qDisp, qPairs, qDNew]
  refine qVar_some rfl ?_
  refine x_ix_dk (hB.get 0) rfl rfl ?_
  try dsimp only [qSeq, qIfS, qAnd, qOr, qNot, qTest, qOp, qCB, qCX, qCons, qNil, qC, qPut, qMt, qSet, qRet, qRetN, qDrop, qNext, qAndV, qOrV, qNotV, qIf, qChain, qTup, qLst, qSl, qPart, qNoPart, qAsg, qTru, qNeg, qRaise, qDropX, qBreak, qCont, qFor_eq, qLc_eq, qDc_eq, qiSeq, qiRange1, qiRange2, qiEnum, rII0, rII, CDiv, CMul, CPow, rAbs, rInt, rStrI, qTg, Tg.put, putsV, qYes, wipeD, qDisp, qPairs, qDNew]
  refine ⟨.inr (by decide), by decide, by decide, qVar_some rfl ⟨h1, ?_⟩⟩
  exact q _ _ (Int.emod_nonneg _ (by omega)) (Int.emod_lt_of_pos _ h1) ⟨g, r, _, cells, hB⟩
theorem draw1 {dk : Addr} {many : Int} {L : List (Addr × MO)} {Q : DK} {g : Addr} {r s : Int} {cells : List Int} {A : DA} (h1 : 0 < many) (h2 : many < 1000000) (hA : Holds A ((dk, deckMO g r s) :: (g, .lst (cells.map D.int)) :: L)) (q : ∀ r A', 0 ≤ r → r < many → HD A' dk L → Q (.int r) A') :
    u_l_draw_2 K w (endsF Q) [some (.ref dk), some (.int many), none] A := by
  unfold u_l_draw_2
  try dsimp only [qSeq, qIfS, qAnd, qOr, qNot, qTest, qOp, qCB, qCX, qCons, qNil, qC, qPut, qMt, qSet, qRet, qRetN, qDrop, qNext, qAndV, qOrV, qNotV, qIf, qChain, qTup, qLst, qSl, qPart, qNoPart, qAsg, qTru, qNeg, qRaise, qDropX, qBreak, qCont, qFor_eq, qLc_eq, qDc_eq, qiSeq, qiRange1, qiRange2, qiEnum, rII0, rII, CDiv, CMul, CPow, rAbs, rInt, rStrI, qTg, Tg.put, putsV, qYes, wipeD, qDisp, qPairs, qDNew]
  refine qVar_some rfl ?_
  refine x_ix_dk (hA.get 0) rfl rfl ?_
  try dsimp only [qSeq, qIfS, qAnd, qOr, qNot, qTest, qOp, qCB, qCX, qCons, qNil, qC, qPut, qMt, qSet, qRet, qRetN, qDrop, qNext, qAndV, qOrV, qNotV, qIf, qChain, qTup, qLst, qSl, qPart, qNoPart, qAsg, qTru, qNeg, qRaise, qDropX, qBreak, qCont, qFor_eq, qLc_eq, qDc_eq, qiSeq, qiRange1, qiRange2, qiEnum, rII0, rII, CDiv, CMul, CPow, rAbs, rInt, rStrI, qTg, Tg.put, putsV, qYes, wipeD, qDisp, qPairs, qDNew]
  refine x_ifd (fun c => ?_) fun c => ?_
  · refine qVar_some rfl ?_
    refine x_ix_dk (hA.get 0) rfl rfl ?_
    try dsimp only [qSeq, qIfS, qAnd, qOr, qNot, qTest, qOp, qCB, qCX, qCons, qNil, qC, qPut, qMt, qSet, qRet, qRetN, qDrop, qNext, qAndV, qOrV, qNotV, qIf, qChain, qTup, qLst, qSl, qPart, qNoPart, qAsg, qTru, qNeg, qRaise, qDropX, qBreak, qCont, qFor_eq, qLc_eq, qDc_eq, qiSeq, qiRange1, qiRange2, qiEnum, rII0, rII, CDiv, CMul, CPow, rAbs, rInt, rStrI, qTg, Tg.put, putsV, qYes, wipeD, qDisp, qPairs, qDNew]
    refine qVar_some rfl (qVar_some rfl ?_)
    try dsimp only [qSeq, qIfS, qAnd, qOr, qNot, qTest, qOp, qCB, qCX, qCons, qNil, qC, qPut, qMt, qSet, qRet, qRetN, qDrop, qNext, qAndV, qOrV, qNotV, qIf, qChain, qTup, qLst, qSl, qPart, qNoPart, qAsg, qTru, qNeg, qRaise, qDropX, qBreak, qCont, qFor_eq, qLc_eq, qDc_eq, qiSeq, qiRange1, qiRange2, qiEnum, rII0, rII, CDiv, CMul, CPow, rAbs, rInt, rStrI, qTg, Tg.put, putsV, qYes, wipeD, qDisp, qPairs, qDNew]
    refine ⟨⟨h1, by omega⟩, qVar_some rfl ?_⟩
    refine x_put_dk (hA.get 0) rfl (szt (Nat.le_of_ble_eq_true rfl)) fun A1 p1 => ?_
    try dsimp only [qSeq, qIfS, qAnd, qOr, qNot, qTest, qOp, qCB, qCX, qCons, qNil, qC, qPut, qMt, qSet, qRet, qRetN, qDrop, qNext, qAndV, qOrV, qNotV, qIf, qChain, qTup, qLst, qSl, qPart, qNoPart, qAsg, qTru, qNeg, qRaise, qDropX, qBreak, qCont, qFor_eq, qLc_eq, qDc_eq, qiSeq, qiRange1, qiRange2, qiEnum, rII0, rII, CDiv, CMul, CPow, rAbs, rInt, rStrI, qTg, Tg.put, putsV, qYes, wipeD, qDisp, qPairs, qDNew]
    refine qVar_some rfl (qVar_some rfl ?_)
    exact ⟨h1, q _ _ (Int.emod_nonneg _ (by omega)) (Int.emod_lt_of_pos _ h1) ⟨g, r / many, s, cells, hA.put 0 p1⟩⟩
  · exact draw2 h1 hA q
theorem ok_draw (T : Top K mg) : DFn P w K mg base 1 (He.ga K "_law_draw") (fdO K (He.ga K "_law_draw")) ["deck", "many"] spDraw := by
  refine dfun_ok T.d__law_draw sc_l_draw (fun ds A Q ⟨_, _, _, h, _⟩ => by rw [h]; rfl) (b_l_draw T) fun ds A Q ⟨dk, many, L, hd, h1, h2, ⟨g, r, s, cells, hA⟩, q⟩ => ?_
  subst hd
  unfold t_l_draw
  try dsimp only [qSeq, qIfS, qAnd, qOr, qNot, qTest, qOp, qCB, qCX, qCons, qNil, qC, qPut, qMt, qSet, qRet, qRetN, qDrop, qNext, qAndV, qOrV, qNotV, qIf, qChain, qTup, qLst, qSl, qPart, qNoPart, qAsg, qTru, qNeg, qRaise, qDropX, qBreak, qCont, qFor_eq, qLc_eq, qDc_eq, qiSeq, qiRange1, qiRange2, qiEnum, rII0, rII, CDiv, CMul, CPow, rAbs, rInt, rStrI, qTg, Tg.put, putsV, qYes, wipeD, qDisp, qPairs, qDNew]
  refine qVar_some rfl ?_
  refine x_ix_dk (hA.get 0) rfl rfl ?_
  try dsimp only [qSeq, qIfS, qAnd, qOr, qNot, qTest, qOp, qCB, qCX, qCons, qNil, qC, qPut, qMt, qSet, qRet, qRetN, qDrop, qNext, qAndV, qOrV, qNotV, qIf, qChain, qTup, qLst, qSl, qPart, qNoPart, qAsg, qTru, qNeg, qRaise, qDropX, qBreak, qCont, qFor_eq, qLc_eq, qDc_eq, qiSeq, qiRange1, qiRange2, qiEnum, rII0, rII, CDiv, CMul, CPow, rAbs, rInt, rStrI, qTg, Tg.put, putsV, qYes, wipeD, qDisp, qPairs, qDNew]
  refine x_ifd (fun c => ?_) fun c => draw1 h1 h2 hA q
  refine qVar_some rfl ?_
  refine x_ix_dk (hA.get 0) rfl rfl (x_len_lst (hA.get 1) ?_)
  try dsimp only [qSeq, qIfS, qAnd, qOr, qNot, qTest, qOp, qCB, qCX, qCons, qNil, qC, qPut, qMt, qSet, qRet, qRetN, qDrop, qNext, qAndV, qOrV, qNotV, qIf, qChain, qTup, qLst, qSl, qPart, qNoPart, qAsg, qTru, qNeg, qRaise, qDropX, qBreak, qCont, qFor_eq, qLc_eq, qDc_eq, qiSeq, qiRange1, qiRange2, qiEnum, rII0, rII, CDiv, CMul, CPow, rAbs, rInt, rStrI, qTg, Tg.put, putsV, qYes, wipeD, qDisp, qPairs, qDNew]
  refine x_ifd (fun c2 => ?_) fun c2 => draw1 h1 h2 hA q
  refine qVar_some rfl ?_
  refine x_ix_dk (hA.get 0) rfl rfl ⟨g, _, rfl, hA.get 1, ?_⟩
  cases cells with
  | nil => exact absurd c2 (by decide)
  | cons c0 cells =>
    refine ⟨_, 0, .int c0, rfl, hA.get 1, by decide, by decide, rfl, fun A1 p1 => ?_⟩
    have hB := hA.put 1 p1
    try dsimp only [qSeq, qIfS, qAnd, qOr, qNot, qTest, qOp, qCB, qCX, qCons, qNil, qC, qPut, qMt, qSet, qRet, qRetN, qDrop, qNext, qAndV, qOrV, qNotV, qIf, qChain, qTup, qLst, qSl, qPart, qNoPart, qAsg, qTru, qNeg, qRaise, qDropX, qBreak, qCont, qFor_eq, qLc_eq, qDc_eq, qiSeq, qiRange1, qiRange2, qiEnum, rII0, rII, CDiv, CMul, CPow, rAbs, rInt, rStrI, qTg, Tg.put, putsV, qYes, wipeD, qDisp, qPairs, qDNew]
    refine qVar_some rfl ?_
    refine x_put_dk (hB.get 0) rfl (szt (Nat.le_of_ble_eq_true rfl)) fun A2 p2 => ?_
    exact draw1 h1 h2 (hB.put 0 p2) q
/-! ### some -/
/-- one of a row's items -/
def spSome : DSp := fun ds A Q => ∃ dk x xs L, ds = [.ref dk, x] ∧ xs ≠ [] ∧ xs.length < 1000000 ∧ HD A dk L ∧ (∀ A', HD A' dk L → items? A' x = some xs) ∧ (isL x = true ∨ ∃ ys, x = .tup ys) ∧ ∀ y A', y ∈ xs → HD A' dk L → Q y A'
theorem x_ix_any {A : DA} {x v : D} {xs : List D} {i : Int} {Q : DK} (h : items? A x = some xs) (hv : atI xs i = some v) (q : Q v A) : rIxU x (.int i) A Q := .inl ⟨xs, i, v, h, rfl, hv, q⟩
theorem at_draw {α : Type} {xs : List α} {r : Int} (h0 : 0 ≤ r) (h1 : r < xs.length) : ∃ v, atI xs r = some v ∧ v ∈ xs ∧ xs[r.toNat]? = some v := by
  have e : xs[r.toNat]? = some (xs[r.toNat]'(by omega)) := List.getElem?_eq_getElem (by omega)
  have e2 := atI_nat r.toNat e
  rw [Int.toNat_of_nonneg h0] at e2
  exact ⟨_, e2, List.getElem_mem _, e⟩
theorem ok_some (T : Top K mg) : DFn P w K mg base 2 (He.ga K "_law_some") (fdO K (He.ga K "_law_some")) ["deck", "row"] spSome := by
  refine dfun_ok T.d__law_some sc_l_some (fun ds A Q ⟨_, _, _, _, h, _⟩ => by rw [h]; rfl) (b_l_some T (ok_draw T)) fun ds A Q ⟨dk, x, xs, L, hd, h1, h2, hA, hi, _, q⟩ => ?_
  subst hd
  unfold t_l_some
  try dsimp only [qSeq, qIfS, qAnd, qOr, qNot, qTest, qOp, qCB, qCX, qCons, qNil, qC, qPut, qMt, qSet, qRet, qRetN, qDrop, qNext, qAndV, qOrV, qNotV, qIf, qChain, qTup, qLst, qSl, qPart, qNoPart, qAsg, qTru, qNeg, qRaise, qDropX, qBreak, qCont, qFor_eq, qLc_eq, qDc_eq, qiSeq, qiRange1, qiRange2, qiEnum, rII0, rII, CDiv, CMul, CPow, rAbs, rInt, rStrI, qTg, Tg.put, putsV, qYes, wipeD, qDisp, qPairs, qDNew]
  refine qVar_some rfl ?_
  refine qVar_some rfl ?_
  refine qVar_some rfl ?_
  refine ⟨x, xs, rfl, hi A hA, ?_⟩
  have hpos := List.length_pos_iff.mpr h1
  refine ⟨dk, xs.length, L, rfl, by omega, by omega, hA, fun r A1 r0 r1 hB => ?_⟩
  obtain ⟨v, e1, e2, _⟩ := at_draw r0 r1
  exact x_ix_any (hi A1 hB) e1 (q v A1 e2 hB)
end
end L49

set_option Elab.async false
set_option linter.all false
set_option maxRecDepth 100000
set_option maxHeartbeats 4000000
namespace L49
open PySem PySem.Spec PyProof.Rows L2 DL
/-! ### doors -/
abbrev cp (z : Str) : List Nat := z.cps.toList
theorem str_ext {x y : Str} (h : cp x = cp y) : x = y := by
  cases x; cases y
  simp only [cp] at h
  congr 1
  exact Array.toList_inj.mp h
theorem cp_app (x y : Str) : cp (x ++ y) = cp x ++ cp y := by
  show (x ++ y).cps.toList = _
  first
    | (simp [cp]; done)
    | (show (x.cps ++ y.cps).toList = _; exact Array.toList_append)
theorem len_cp (x : Str) : x.length = (cp x).length := by
  first
    | rfl
    | simp [cp, Str.length]
abbrev digs (k : Nat) : List Nat := cp (toString (k : Int))
theorem digs100 : ∀ k : Fin 100, (digs k.val).length ≤ 2 ∧ 95 ∉ digs k.val ∧ digs k.val ≠ [] ∧ ∀ c ∈ digs k.val, c < 1000 := by decide +kernel
theorem digs10 : ∀ j k : Fin 10, digs j.val = digs k.val → j = k := by decide +kernel
theorem dig10 : ∀ k : Fin 10, PySem.intText? (toString (k.val : Int)) = some (k.val : Int) := by decide +kernel
theorem digs96 : ∀ k : Fin 100, ∀ c ∈ digs k.val, c < 96 := by decide +kernel
theorem digs_len {k : Nat} (h : k < 100) : (digs k).length ≤ 2 := (digs100 ⟨k, h⟩).1
theorem digs_no {k : Nat} (h : k < 100) : 95 ∉ digs k := (digs100 ⟨k, h⟩).2.1
theorem digs_chr {k : Nat} (h : k < 100) : ∀ c ∈ digs k, c < 1000 := (digs100 ⟨k, h⟩).2.2.2
theorem split95 : ∀ {b b' c c' : List Nat}, 95 ∉ b → 95 ∉ b' → b ++ 95 :: c = b' ++ 95 :: c' → b = b' ∧ c = c'
  | [], [], c, c', _, _, e => by simpa using e
  | [], x :: b', c, c', _, h, e => by
    rw [List.nil_append, List.cons_append] at e
    injection e with e1 e2
    exact absurd (e1 ▸ List.mem_cons_self) h
  | x :: b, [], c, c', h, _, e => by
    rw [List.nil_append, List.cons_append] at e
    injection e with e1 e2
    exact absurd (e1 ▸ List.mem_cons_self) h
  | x :: b, y :: b', c, c', h, h', e => by
    rw [List.cons_append, List.cons_append] at e
    injection e with e1 e2
    obtain ⟨r1, r2⟩ := split95 (fun z => h (List.mem_cons_of_mem _ z)) (fun z => h' (List.mem_cons_of_mem _ z)) e2
    exact ⟨by rw [e1, r1], r2⟩
/-- a name made ahead of the k-th turn -/
structure Nm (k : Nat) (z : Str) : Prop where
  len : (cp z).length ≤ 8
  ne : cp z ≠ []
  chr : ∀ c ∈ cp z, c < 1000
  snd : ∀ c ∈ (cp z).drop 1, c < 96
  form : 95 ∉ cp z ∨ ∃ b j, j < k ∧ 95 ∉ b ∧ cp z = b ++ 95 :: digs j
theorem Nm.mono {j k : Nat} {z : Str} (h : Nm j z) (hk : j ≤ k) : Nm k z := ⟨h.len, h.ne, h.chr, h.snd, h.form.elim .inl fun ⟨b, i, h1, h2⟩ => .inr ⟨b, i, by omega, h2⟩⟩
def KindOk (z : Str) : Prop := ∃ n : Int, PySem.intText? (cutS z (some 1) none) = some n ∧ (cutS z (some 1) none).length ≤ 640 ∧ z.length ≤ 10 ∧ ∀ c ∈ cp z, c < 1000
abbrev Dr := List (Str × Option Str)
def kindD : Option Str → D
  | none => .non
  | some z => .str z
def doorD (x : Str × Option Str) : D := .tup [.str x.1, kindD x.2]
structure DrOk (k : Nat) (dr : Dr) : Prop where
  nd : (dr.map (·.1)).Nodup
  nm : ∀ x ∈ dr, Nm k x.1
  kind : ∀ x ∈ dr, ∀ z, x.2 = some z → KindOk z
section
variable {P : Program} {w : World} {K : PySem.W.Frag} {mg : Str → Option Value} {base : Heap}
def InvD (dk : Addr) (many : Int) (p : Addr) (L : List (Addr × MO)) (i : Nat) (τ : DSt) (A : DA) : Prop := ∃ dr : Dr, ∃ x3 x4 x5 x6, τ = [some (.ref dk), some (.int many), some (.ref p), x3, x4, x5, x6] ∧ DrOk i dr ∧ dr.length = i ∧ HD A dk ((p, .lst (dr.map doorD)) :: L)
theorem doors1 {dk p : Addr} {many : Int} {L : List (Addr × MO)} {i : Nat} {E : DEnds} {A : DA} {dr : Dr} {x3 x6 : Option D} {z : Str} {kd : Option Str} (hi : i < 10) (hd : DrOk i dr) (hl : dr.length = i) (hz : Nm (i + 1) z) (hn : z ∉ dr.map (·.1)) (hk : ∀ y, kd = some y → KindOk y)
    (hA : HD A dk ((p, .lst (dr.map doorD)) :: L)) (q : ∀ τ A, InvD dk many p L (i + 1) τ A → E.nx τ A) : u_l_doors_1 K w spDraw E [some (.ref dk), some (.int many), some (.ref p), x3, some (.str z), some (kindD kd), x6] A := by
  unfold u_l_doors_1
  try dsimp only [qSeq, qIfS, qAnd, qOr, qNot, qTest, qOp, qCB, qCX, qCons, qNil, qC, qPut, qMt, qSet, qRet, qRetN, qDrop, qNext, qAndV, qOrV, qNotV, qIf, qChain, qTup, qLst, qSl, qPart, qNoPart, qAsg, qTru, qNeg, qRaise, qDropX, qBreak, qCont, qFor_eq, qLc_eq, qDc_eq, qiSeq, qiRange1, qiRange2, qiEnum, rII0, rII, CDiv, CMul, CPow, rAbs, rInt, rStrI, qTg, Tg.put, putsV, qYes, wipeD, qDisp, qPairs, qDNew]
  refine qVar_some rfl ?_
  refine ⟨p, _, rfl, hA.get 0, ?_⟩
  refine qVar_some rfl ?_
  refine qVar_some rfl ?_
  refine ⟨sz rfl, ?_⟩
  refine ⟨_, _, rfl, hA.get 0, szt (by rw [List.length_map]; omega), fun A1 p1 => ?_⟩
  refine q _ _ ⟨dr ++ [(z, kd)], _, _, _, _, rfl, ⟨?_, fun x hx => ?_, fun x hx y hy => ?_⟩, by rw [List.length_append, hl]; rfl, ?_⟩
  · rw [List.map_append, List.nodup_append]
    refine ⟨hd.nd, by simp, fun a ha b hb e => ?_⟩
    have hb' : b = z := by simpa using hb
    exact hn (by rw [← hb', ← e]; exact ha)
  · rcases List.mem_append.mp hx with h | h
    · exact (hd.nm x h).mono (Nat.le_succ _)
    · rw [List.mem_singleton.mp h]; exact hz
  · rcases List.mem_append.mp hx with h | h
    · exact hd.kind x h y hy
    · rw [List.mem_singleton.mp h] at hy; exact hk y hy
  · have := hA.put 0 p1
    rw [List.map_append]
    exact this
theorem caps_len : (cp "ABCDEFGHIJKLMNOPQRSTUVWXYZ").length = 26 := by decide +kernel
theorem abc_len : (cp "abcdefghijklmnopqrstuvwxyz").length = 26 := by decide +kernel
theorem abc_no : ∀ c ∈ cp "abcdefghijklmnopqrstuvwxyz", c ≠ 95 ∧ c < 1000 := by decide +kernel
theorem caps_chr : ∀ c ∈ cp "ABCDEFGHIJKLMNOPQRSTUVWXYZ", c < 1000 := by decide +kernel
theorem cut_tail {c : Nat} {s : Str} (h : s.length ≤ 1000) : cutS ((⟨#[c]⟩ : Str) ++ s) (some 1) none = s := by
  apply str_ext
  unfold cutS
  have e1 : ((⟨#[c]⟩ : Str) ++ s).length = s.length + 1 := by
    rw [len_cp, cp_app, len_cp s, List.length_append]
    show 1 + _ = _
    omega
  have e2 : HT.sIx (s.length + 1) 0 (some 1) = 1 := by
    show min 1 (s.length + 1) = 1
    omega
  have e3 : HT.sIx (s.length + 1) (s.length + 1) none = s.length + 1 := rfl
  rw [e1, e2, e3]
  show List.take _ (List.drop 1 (cp ((⟨#[c]⟩ : Str) ++ s))) = cp s
  rw [cp_app]
  show List.take (s.length + 1 - 1) (cp s) = cp s
  rw [Nat.add_sub_cancel, len_cp, List.take_length]
theorem kind_ok {c : Nat} {r : Int} (hc : c < 1000) (h0 : 0 ≤ r) (h1 : r < 10) : KindOk ((⟨#[c]⟩ : Str) ++ toString r) := by
  have e : cutS ((⟨#[c]⟩ : Str) ++ toString r) (some 1) none = toString r := by
    obtain ⟨k, rfl⟩ := Int.eq_ofNat_of_zero_le h0
    refine cut_tail ?_
    rw [len_cp]
    show (digs k).length ≤ _
    have := digs_len (k := k) (by omega)
    omega
  obtain ⟨k, rfl⟩ := Int.eq_ofNat_of_zero_le h0
  have hk : k < 10 := by omega
  refine ⟨k, ?_, ?_, ?_, fun d hd => ?_⟩
  · rw [e]; exact dig10 ⟨k, hk⟩
  · rw [e, len_cp]
    show (digs k).length ≤ _
    have := digs_len (k := k) (by omega)
    omega
  · rw [len_cp, cp_app]; have := digs_len (k := k) (by omega)
    rw [List.length_append]
    show 1 + (digs k).length ≤ 10
    omega
  · rw [cp_app] at hd
    rcases List.mem_append.mp hd with z | z
    · have z' : d ∈ [c] := z
      rw [List.mem_singleton.mp z']; exact hc
    · exact digs_chr (k := k) (by omega) d z
theorem log2_small {i : Int} (h0 : 0 ≤ i) (h1 : i < 1000) : i.natAbs.log2 < 1920 := by
  have : i.natAbs < 2 ^ 10 := by omega
  by_cases h : i.natAbs = 0
  · rw [h]; decide
  · have := (Nat.log2_lt h).mpr this
    omega
theorem doors2 {dk p : Addr} {many : Int} {L : List (Addr × MO)} {i : Nat} {E : DEnds} {A : DA} {dr : Dr} {x3 x5 x6 : Option D} {z : Str} (hi : i < 10) (hd : DrOk i dr) (hl : dr.length = i) (hz : Nm (i + 1) z) (hn : z ∉ dr.map (·.1))
    (hA : HD A dk ((p, .lst (dr.map doorD)) :: L)) (q : ∀ τ A, InvD dk many p L (i + 1) τ A → E.nx τ A) : u_l_doors_2 K w spDraw E [some (.ref dk), some (.int many), some (.ref p), x3, some (.str z), x5, x6] A := by
  unfold u_l_doors_2
  try dsimp only [qSeq, qIfS, qAnd, qOr, qNot, qTest, qOp, qCB, qCX, qCons, qNil, qC, qPut, qMt, qSet, qRet, qRetN, qDrop, qNext, qAndV, qOrV, qNotV, qIf, qChain, qTup, qLst, qSl, qPart, qNoPart, qAsg, qTru, qNeg, qRaise, qDropX, qBreak, qCont, qFor_eq, qLc_eq, qDc_eq, qiSeq, qiRange1, qiRange2, qiEnum, rII0, rII, CDiv, CMul, CPow, rAbs, rInt, rStrI, qTg, Tg.put, putsV, qYes, wipeD, qDisp, qPairs, qDNew]
  refine qVar_some rfl ?_
  refine x_draw hA (by decide) (by decide) fun r A1 r0 r1 hB => ?_
  rw [rEq_int]
  try dsimp only [qSeq, qIfS, qAnd, qOr, qNot, qTest, qOp, qCB, qCX, qCons, qNil, qC, qPut, qMt, qSet, qRet, qRetN, qDrop, qNext, qAndV, qOrV, qNotV, qIf, qChain, qTup, qLst, qSl, qPart, qNoPart, qAsg, qTru, qNeg, qRaise, qDropX, qBreak, qCont, qFor_eq, qLc_eq, qDc_eq, qiSeq, qiRange1, qiRange2, qiEnum, rII0, rII, CDiv, CMul, CPow, rAbs, rInt, rStrI, qTg, Tg.put, putsV, qYes, wipeD, qDisp, qPairs, qDNew]
  refine x_ifd (fun c => ?_) fun c => doors1 hi hd hl hz hn (kd := none) (fun y hy => nomatch hy) hB q
  refine qVar_some rfl ?_
  refine x_draw hB (by decide) (by decide) fun r2 A2 s0 s1 hC => ?_
  obtain ⟨ch, e1, hch, _⟩ := at_draw (xs := cp "ABCDEFGHIJKLMNOPQRSTUVWXYZ") s0 (by rw [caps_len]; exact s1)
  refine x_ix_str (szl (by rw [len_cp, caps_len]; decide)) e1 ?_
  refine qVar_some rfl ?_
  refine x_draw hC (by decide) (by decide) fun r3 A3 t0 t1 hF => ?_
  try dsimp only [qSeq, qIfS, qAnd, qOr, qNot, qTest, qOp, qCB, qCX, qCons, qNil, qC, qPut, qMt, qSet, qRet, qRetN, qDrop, qNext, qAndV, qOrV, qNotV, qIf, qChain, qTup, qLst, qSl, qPart, qNoPart, qAsg, qTru, qNeg, qRaise, qDropX, qBreak, qCont, qFor_eq, qLc_eq, qDc_eq, qiSeq, qiRange1, qiRange2, qiEnum, rII0, rII, CDiv, CMul, CPow, rAbs, rInt, rStrI, qTg, Tg.put, putsV, qYes, wipeD, qDisp, qPairs, qDNew]
  refine ⟨log2_small t0 (by omega), ?_⟩
  try dsimp only [rAddU]
  have ok := kind_ok (c := ch) (caps_chr ch hch) t0 t1
  obtain ⟨_, _, _, hlen, _⟩ := ok
  refine ⟨szl ?_, ?_⟩
  · rw [len_cp, len_cp] at *
    rw [cp_app, List.length_append] at hlen
    omega
  · exact doors1 hi hd hl hz hn (kd := some _) (fun y hy => by cases hy; exact kind_ok (caps_chr ch hch) t0 t1) hF q
theorem doors3 {dk p : Addr} {many : Int} {L : List (Addr × MO)} {i : Nat} {E : DEnds} {A : DA} {dr : Dr} {x5 x6 : Option D} {z : Str} (hi : i < 10) (hd : DrOk i dr) (hl : dr.length = i) (hz1 : 95 ∉ cp z) (hz2 : cp z ≠ []) (hz3 : (cp z).length ≤ 3) (hz4 : ∀ c ∈ cp z, c < 1000) (hz5 : ∀ c ∈ (cp z).drop 1, c < 96)
    (hA : HD A dk ((p, .lst (dr.map doorD)) :: L)) (q : ∀ τ A, InvD dk many p L (i + 1) τ A → E.nx τ A) : u_l_doors_3 K w spDraw E [some (.ref dk), some (.int many), some (.ref p), some (.int (0 + (i : Int))), some (.str z), x5, x6] A := by
  unfold u_l_doors_3
  try dsimp only [qSeq, qIfS, qAnd, qOr, qNot, qTest, qOp, qCB, qCX, qCons, qNil, qC, qPut, qMt, qSet, qRet, qRetN, qDrop, qNext, qAndV, qOrV, qNotV, qIf, qChain, qTup, qLst, qSl, qPart, qNoPart, qAsg, qTru, qNeg, qRaise, qDropX, qBreak, qCont, qFor_eq, qLc_eq, qDc_eq, qiSeq, qiRange1, qiRange2, qiEnum, rII0, rII, CDiv, CMul, CPow, rAbs, rInt, rStrI, qTg, Tg.put, putsV, qYes, wipeD, qDisp, qPairs, qDNew]
  refine qVar_some rfl ?_
  refine qVar_some rfl ?_
  refine ⟨⟨_, items_lst (hA.get 0)⟩, ?_⟩
  refine lcB_map (fun d => match d with | .tup (x :: _) => x | d => d) (items_lst (hA.get 0)) (szt (by rw [List.length_map]; omega)) (fun p2 A2 n2 => ?_) fun d A2 Ky hd' _ hk => ?_
  · have hB := hA.new n2
    have e : (dr.map doorD).map (fun d => match d with | .tup (x :: _) => x | d => d) = (dr.map (·.1)).map D.str := by rw [List.map_map, List.map_map]; rfl
    rw [e] at hB
    refine .inl (.inl ⟨_, _, items_lst (hB.get 0), rfl, inF_str, ?_⟩)
    try dsimp only [qSeq, qIfS, qAnd, qOr, qNot, qTest, qOp, qCB, qCX, qCons, qNil, qC, qPut, qMt, qSet, qRet, qRetN, qDrop, qNext, qAndV, qOrV, qNotV, qIf, qChain, qTup, qLst, qSl, qPart, qNoPart, qAsg, qTru, qNeg, qRaise, qDropX, qBreak, qCont, qFor_eq, qLc_eq, qDc_eq, qiSeq, qiRange1, qiRange2, qiEnum, rII0, rII, CDiv, CMul, CPow, rAbs, rInt, rStrI, qTg, Tg.put, putsV, qYes, wipeD, qDisp, qPairs, qDNew]
    refine x_ifd (fun c => ?_) fun c => doors2 hi hd hl ⟨by omega, hz2, hz4, hz5, .inl hz1⟩ c hB.tl q
    refine qVar_some rfl ?_
    try dsimp only [rAddU]
    refine ⟨szl (by rw [len_cp, len_cp]; show (cp z).length + 1 ≤ _; omega), ?_⟩
    refine qVar_some rfl ?_
    refine ⟨log2_small (by omega) (by omega), ?_⟩
    try dsimp only
    have e2 : (0 + (i : Int)) = (i : Int) := by omega
    rw [e2]
    have hlen := digs_len (k := i) (by omega)
    refine ⟨szl (by rw [len_cp, len_cp, cp_app, List.length_append]; show (cp z).length + 1 + (digs i).length ≤ _; omega), ?_⟩
    have ecp : cp (z ++ "_" ++ toString (i : Int)) = cp z ++ 95 :: digs i := by
      rw [cp_app, cp_app, List.append_assoc]; rfl
    refine doors2 hi hd hl ⟨?_, ?_, ?_, ?_, .inr ⟨cp z, i, Nat.lt_succ_self _, hz1, ecp⟩⟩ ?_ hB.tl q
    · rw [ecp, List.length_append, List.length_cons]; omega
    · rw [ecp]; simp
    · intro c hc
      rw [ecp] at hc
      rcases List.mem_append.mp hc with z | z
      · exact hz4 c z
      · rcases List.mem_cons.mp z with z | z
        · omega
        · exact digs_chr (k := i) (by omega) c z
    · intro c hc
      rw [ecp, List.drop_append] at hc
      rcases List.mem_append.mp hc with y | y
      · exact hz5 c y
      · have hz0 : 1 - (cp z).length = 0 := by
          have := List.length_pos_iff.mpr hz2
          omega
        rw [hz0, List.drop_zero] at y
        rcases List.mem_cons.mp y with y | y
        · omega
        · exact digs96 ⟨i, by omega⟩ c y
    · intro hm
      obtain ⟨x, hx, ex⟩ := List.mem_map.mp hm
      have ex' := congrArg cp ex
      rw [ecp] at ex'
      rcases (hd.nm x hx).form with h | ⟨b, j, hj, hb, eb⟩
      · rw [ex'] at h
        exact h (List.mem_append_right _ List.mem_cons_self)
      · rw [eb] at ex'
        obtain ⟨_, e4⟩ := split95 hb hz1 ex'
        have := digs10 ⟨j, by omega⟩ ⟨i, hi⟩ e4
        have := congrArg Fin.val this
        dsimp only at this
        omega
  · obtain ⟨x, _, rfl⟩ := List.mem_map.mp hd'
    try dsimp only [qSeq, qIfS, qAnd, qOr, qNot, qTest, qOp, qCB, qCX, qCons, qNil, qC, qPut, qMt, qSet, qRet, qRetN, qDrop, qNext, qAndV, qOrV, qNotV, qIf, qChain, qTup, qLst, qSl, qPart, qNoPart, qAsg, qTru, qNeg, qRaise, qDropX, qBreak, qCont, qFor_eq, qLc_eq, qDc_eq, qiSeq, qiRange1, qiRange2, qiEnum, rII0, rII, CDiv, CMul, CPow, rAbs, rInt, rStrI, qTg, Tg.put, putsV, qYes, wipeD, qDisp, qPairs, qDNew]
    refine qVar_some rfl ?_
    exact x_tup0 hk
def spDoors : DSp := fun ds A Q => ∃ dk many L, ds = [.ref dk, .int many] ∧ 0 ≤ many ∧ many < 10 ∧ HD A dk L ∧ ∀ p dr A', DrOk 10 dr → (dr.length : Int) = many → HD A' dk ((p, .lst (dr.map doorD)) :: L) → Q (.ref p) A'
theorem ok_doors (T : Top K mg) : DFn P w K mg base 2 (He.ga K "_law_doors") (fdO K (He.ga K "_law_doors")) ["deck", "many"] spDoors := by
  refine dfun_ok T.d__law_doors sc_l_doors (fun ds A Q ⟨_, _, _, h, _⟩ => by rw [h]; rfl) (b_l_doors T (ok_draw T)) fun ds A Q ⟨dk, many, L, hd, h1, h2, hA, q⟩ => ?_
  subst hd
  unfold t_l_doors
  try dsimp only [qSeq, qIfS, qAnd, qOr, qNot, qTest, qOp, qCB, qCX, qCons, qNil, qC, qPut, qMt, qSet, qRet, qRetN, qDrop, qNext, qAndV, qOrV, qNotV, qIf, qChain, qTup, qLst, qSl, qPart, qNoPart, qAsg, qTru, qNeg, qRaise, qDropX, qBreak, qCont, qFor_eq, qLc_eq, qDc_eq, qiSeq, qiRange1, qiRange2, qiEnum, rII0, rII, CDiv, CMul, CPow, rAbs, rInt, rStrI, qTg, Tg.put, putsV, qYes, wipeD, qDisp, qPairs, qDNew]
  refine ⟨sz rfl, fun p A1 n1 => ?_⟩
  have hB := hA.new n1
  refine qVar_some rfl ?_
  refine ⟨by omega, by omega, forB_range (InvD dk many p L) ⟨[], _, _, _, _, rfl, ⟨List.nodup_nil, fun x hx => (nomatch hx), fun x hx => (nomatch hx)⟩, rfl, hB⟩ (fun τ A ⟨dr, x3, x4, x5, x6, e, ok, hl, hC⟩ => ?_) fun i τ A hi ⟨dr, x3, x4, x5, x6, e, ok, hl, hC⟩ => ?_⟩
  · subst e
    unfold u_l_doors_4
    try dsimp only [qSeq, qIfS, qAnd, qOr, qNot, qTest, qOp, qCB, qCX, qCons, qNil, qC, qPut, qMt, qSet, qRet, qRetN, qDrop, qNext, qAndV, qOrV, qNotV, qIf, qChain, qTup, qLst, qSl, qPart, qNoPart, qAsg, qTru, qNeg, qRaise, qDropX, qBreak, qCont, qFor_eq, qLc_eq, qDc_eq, qiSeq, qiRange1, qiRange2, qiEnum, rII0, rII, CDiv, CMul, CPow, rAbs, rInt, rStrI, qTg, Tg.put, putsV, qYes, wipeD, qDisp, qPairs, qDNew]
    refine qVar_some rfl ?_
    refine q p dr A ⟨ok.nd, fun x hx => (ok.nm x hx).mono (by omega), ok.kind⟩ (by omega) hC
  · subst e
    try dsimp only [qSeq, qIfS, qAnd, qOr, qNot, qTest, qOp, qCB, qCX, qCons, qNil, qC, qPut, qMt, qSet, qRet, qRetN, qDrop, qNext, qAndV, qOrV, qNotV, qIf, qChain, qTup, qLst, qSl, qPart, qNoPart, qAsg, qTru, qNeg, qRaise, qDropX, qBreak, qCont, qFor_eq, qLc_eq, qDc_eq, qiSeq, qiRange1, qiRange2, qiEnum, rII0, rII, CDiv, CMul, CPow, rAbs, rInt, rStrI, qTg, Tg.put, putsV, qYes, wipeD, qDisp, qPairs, qDNew]
    refine qVar_some rfl ?_
    refine x_draw hC (by decide) (by decide) fun r A2 r0 r1 hD => ?_
    obtain ⟨ch, e1, e2, _⟩ := at_draw (xs := cp "abcdefghijklmnopqrstuvwxyz") r0 (by rw [abc_len]; exact r1)
    refine x_ix_str (szl (by rw [len_cp, abc_len]; decide)) e1 ?_
    try dsimp only [qSeq, qIfS, qAnd, qOr, qNot, qTest, qOp, qCB, qCX, qCons, qNil, qC, qPut, qMt, qSet, qRet, qRetN, qDrop, qNext, qAndV, qOrV, qNotV, qIf, qChain, qTup, qLst, qSl, qPart, qNoPart, qAsg, qTru, qNeg, qRaise, qDropX, qBreak, qCont, qFor_eq, qLc_eq, qDc_eq, qiSeq, qiRange1, qiRange2, qiEnum, rII0, rII, CDiv, CMul, CPow, rAbs, rInt, rStrI, qTg, Tg.put, putsV, qYes, wipeD, qDisp, qPairs, qDNew]
    refine qVar_some rfl ?_
    refine x_draw hD (by decide) (by decide) fun r2 A3 s0 s1 hF => ?_
    rw [rEq_int]
    try dsimp only [qSeq, qIfS, qAnd, qOr, qNot, qTest, qOp, qCB, qCX, qCons, qNil, qC, qPut, qMt, qSet, qRet, qRetN, qDrop, qNext, qAndV, qOrV, qNotV, qIf, qChain, qTup, qLst, qSl, qPart, qNoPart, qAsg, qTru, qNeg, qRaise, qDropX, qBreak, qCont, qFor_eq, qLc_eq, qDc_eq, qiSeq, qiRange1, qiRange2, qiEnum, rII0, rII, CDiv, CMul, CPow, rAbs, rInt, rStrI, qTg, Tg.put, putsV, qYes, wipeD, qDisp, qPairs, qDNew]
    have c95 := (abc_no ch e2).1
    have c1k := (abc_no ch e2).2
    refine x_ifd (fun c => ?_) fun c => ?_
    · refine qVar_some rfl ?_
      refine qVar_some rfl ?_
      refine x_draw hF (by decide) (by decide) fun r3 A4 t0 t1 hG => ?_
      refine ⟨log2_small t0 (by omega), ?_⟩
      obtain ⟨k, rfl⟩ := Int.eq_ofNat_of_zero_le t0
      have hlen := digs_len (k := k) (by omega)
      have hno := digs_no (k := k) (by omega)
      have ecp : cp ((⟨#[ch]⟩ : Str) ++ toString (k : Int)) = ch :: digs k := by rw [cp_app]; rfl
      try dsimp only [rAddU]
      refine ⟨szl (by rw [len_cp, len_cp]; show 1 + (digs k).length ≤ _; omega), ?_⟩
      refine doors3 (by omega) ok hl ?_ ?_ ?_ ?_ ?_ hG fun τ A h => h
      · rw [ecp]
        intro hm
        rcases List.mem_cons.mp hm with z | z
        · exact c95 z.symm
        · exact hno z
      · rw [ecp]; simp
      · rw [ecp, List.length_cons]; omega
      · intro d hd
        rw [ecp] at hd
        rcases List.mem_cons.mp hd with z | z
        · rw [z]; exact c1k
        · exact digs_chr (k := k) (by omega) d z
      · intro d hd
        rw [ecp] at hd
        exact digs96 ⟨k, by omega⟩ d hd
    · refine doors3 (by omega) ok hl (fun z => ?_) (by simp) (by show 1 ≤ 3; decide) (fun d hd => ?_) (fun d hd => (nomatch (show d ∈ [] from hd))) hF fun τ A h => h
      · have z' : 95 ∈ [ch] := z
        rw [List.mem_singleton] at z'
        exact c95 z'.symm
      · have z' : d ∈ [ch] := hd
        rw [List.mem_singleton.mp z']; exact c1k
end
end L49

set_option Elab.async false
set_option linter.all false
set_option maxRecDepth 100000
set_option maxHeartbeats 4000000
namespace L49
open PySem PySem.Spec PyProof.Rows L2 DL
/-! ### what may be sorted -/
structure LabOk (ls : List D) : Prop where
  form : ∀ l ∈ ls, ∃ n x, l = .tup [.str n, x] ∧ (x = .non ∨ (∃ i, x = .int i) ∨ ∃ z, x = .str z)
  txt : ∀ l ∈ ls, DL.txt l = true
  comp : ∀ n x y, .tup [.str n, x] ∈ ls → .tup [.str n, y] ∈ ls → x = y ∨ (∃ i j, x = .int i ∧ y = .int j) ∨ ∃ u v, x = .str u ∧ y = .str v
theorem LabOk.sub {ls ls' : List D} (h : LabOk ls) (s : ∀ l ∈ ls', l ∈ ls) : LabOk ls' := ⟨fun l hl => h.form l (s l hl), fun l hl => h.txt l (s l hl), fun n x y h1 h2 => h.comp n x y (s _ h1) (s _ h2)⟩
/-- a short text -/
theorem txt_str {z : Str} (h : (cp z).length ≤ 40) (hc : ∀ c ∈ cp z, c < 1000) : DL.txt (.str z) = true := by
  rw [DL.txt, Bool.and_eq_true, decide_eq_true_eq]
  refine ⟨by rw [len_cp]; omega, ?_⟩
  rw [← Array.all_toList, List.all_eq_true]
  intro c h'
  have := hc c h'
  exact decide_eq_true (by omega)
theorem lab_pl {n : Str} {x : D} (h : x = .non ∨ (∃ i, x = .int i) ∨ ∃ z, x = .str z) : pl (.tup [.str n, x]) = true := by
  rcases h with rfl | ⟨i, rfl⟩ | ⟨z, rfl⟩ <;> simp [pl, pls]
theorem lab_toN {n : Str} {x : D} : toN (.tup [.str n, x]) = .tup [.text n, toN x] := by simp [toN, toNs]
theorem lab_depth {n : Str} {x : D} (h : x = .non ∨ (∃ i, x = .int i) ∨ ∃ z, x = .str z) : (toN (.tup [.str n, x])).depth ≤ 2 := by
  rw [lab_toN]
  rcases h with rfl | ⟨i, rfl⟩ | ⟨z, rfl⟩ <;> simp [toN, NestedKey.depth, NestedKey.depthAll]
theorem lab_cmp {ls : List D} (h : LabOk ls) {l m : D} (hl : l ∈ ls) (hm : m ∈ ls) : kCmp (toN l) (toN m) = true := by
  obtain ⟨n, x, rfl, fx⟩ := h.form l hl
  obtain ⟨k, y, rfl, fy⟩ := h.form m hm
  rw [lab_toN, lab_toN, kCmp, kCmps_cons]
  by_cases e : n = k
  · subst e
    rw [if_pos rfl, kCmps_cons]
    rcases h.comp n x y hl hm with rfl | ⟨i, j, rfl, rfl⟩ | ⟨u, v, rfl, rfl⟩
    · rw [if_pos rfl]; simp [kCmps]
    · split <;> simp [kCmps, toN, kCmp]
    · split <;> simp [kCmps, toN, kCmp]
  · rw [if_neg (fun z => e (by injection z)), kCmp]
theorem labs_sort {ls : List D} (h : LabOk ls) : SortOk ls := by
  refine ⟨(pls_all ls).mpr fun l hl => ?_, .tup_ 2 (fun k hk => ?_) (fun a ha b hb => ?_) fun k hk => ?_⟩
  · obtain ⟨n, x, rfl, fx⟩ := h.form l hl
    exact lab_pl fx
  all_goals rw [toNs_map] at *
  · obtain ⟨l, hl, rfl⟩ := List.mem_map.mp hk
    obtain ⟨n, x, rfl, fx⟩ := h.form l hl
    exact ⟨.text n, [toN x], lab_toN, rfl⟩
  · obtain ⟨l, hl, rfl⟩ := List.mem_map.mp ha
    obtain ⟨m, hm, rfl⟩ := List.mem_map.mp hb
    exact lab_cmp h hl hm
  · obtain ⟨l, hl, rfl⟩ := List.mem_map.mp hk
    obtain ⟨n, x, rfl, fx⟩ := h.form l hl
    exact Nat.le_trans (lab_depth fx) (by decide)
/-- steps: a label, a state -/
def stepD (p : D × Nat) : D := .tup [p.1, .int p.2]
theorem step_toN {p : D × Nat} : toN (stepD p) = .tup [toN p.1, .num p.2] := by simp [stepD, toN, toNs]
theorem step_okSet {ls : List D} (h : LabOk ls) {p : D × Nat} (hp : p.1 ∈ ls) : okSet (stepD p) := by
  obtain ⟨n, x, e, fx⟩ := h.form _ hp
  have h1 := lab_pl (n := n) fx
  have h2 := lab_depth (n := n) fx
  rw [← e] at h1 h2
  refine ⟨by simp [stepD, pl, pls, h1], ⟨_, rfl⟩, ?_⟩
  rw [step_toN]
  simp only [NestedKey.depth, NestedKey.depthAll]
  omega
theorem steps_sort {ls : List D} (h : LabOk ls) {ps : List (D × Nat)} (hp : ∀ p ∈ ps, p.1 ∈ ls) : SortOk (ps.map stepD) := by
  refine ⟨(pls_all _).mpr fun l hl => ?_, .tup_ 3 (fun k hk => ?_) (fun a ha b hb => ?_) fun k hk => ?_⟩
  · obtain ⟨p, hm, rfl⟩ := List.mem_map.mp hl
    exact (step_okSet h (hp p hm)).1
  all_goals rw [toNs_map, List.map_map] at *
  · obtain ⟨p, hm, rfl⟩ := List.mem_map.mp hk
    obtain ⟨n, x, e, fx⟩ := h.form _ (hp p hm)
    refine ⟨toN p.1, [.num p.2], step_toN, ?_⟩
    rw [e, lab_toN]; rfl
  · obtain ⟨p, hm, rfl⟩ := List.mem_map.mp ha
    obtain ⟨r, hr, rfl⟩ := List.mem_map.mp hb
    show kCmp (toN (stepD p)) (toN (stepD r)) = true
    rw [step_toN, step_toN, kCmp, kCmps_cons]
    split
    · rw [kCmps_cons]; split <;> simp [kCmps, kCmp]
    · exact lab_cmp h (hp p hm) (hp r hr)
  · obtain ⟨p, hm, rfl⟩ := List.mem_map.mp hk
    exact (step_okSet h (hp p hm)).2.2
theorem doors_lab {k : Nat} {dr : Dr} (h : DrOk k dr) : LabOk (dr.map doorD) := by
  refine ⟨fun l hl => ?_, fun l hl => ?_, fun n x y h1 h2 => .inl ?_⟩
  rotate_left
  · obtain ⟨⟨n, kd⟩, hm, rfl⟩ := List.mem_map.mp hl
    have hn := h.nm _ hm
    have t1 := txt_str (by have := hn.len; omega) hn.chr
    cases kd with
    | none => simp [doorD, kindD, DL.txt, DL.txts] at t1 ⊢; exact t1
    | some z =>
      obtain ⟨_, _, _, hl, hc⟩ := h.kind _ hm z rfl
      have t2 := txt_str (by rw [len_cp] at hl; omega) hc
      simp [doorD, kindD, DL.txt, DL.txts] at t1 t2 ⊢
      exact ⟨t1, t2⟩
  rotate_left
  · obtain ⟨⟨n, kd⟩, _, rfl⟩ := List.mem_map.mp hl
    refine ⟨n, kindD kd, rfl, ?_⟩
    cases kd with
    | none => exact .inl rfl
    | some z => exact .inr (.inr ⟨z, rfl⟩)
  · obtain ⟨⟨n1, k1⟩, m1, e1⟩ := List.mem_map.mp h1
    obtain ⟨⟨n2, k2⟩, m2, e2⟩ := List.mem_map.mp h2
    unfold doorD at e1 e2
    simp only [D.tup.injEq, List.cons.injEq, D.str.injEq, and_true] at e1 e2
    obtain ⟨i, hi⟩ := List.getElem?_of_mem m1
    obtain ⟨j, hj⟩ := List.getElem?_of_mem m2
    have a1 : (dr.map (·.1))[i]? = some n := by rw [List.getElem?_map, hi]; exact congrArg some e1.1
    have a2 : (dr.map (·.1))[j]? = some n := by rw [List.getElem?_map, hj]; exact congrArg some e2.1
    have ij := (List.getElem?_inj (by rw [List.length_map]; exact (List.getElem?_eq_some_iff.mp hi).1) h.nd).mp (a1.trans a2.symm)
    subst ij
    rw [hi] at hj
    cases hj
    rw [← e1.2, ← e2.2]
/-! ### events -/
def evOf (x : Str × Option Str) : List D := match x.2 with
  | none => [.tup [.str x.1, .non]]
  | some z => match PySem.intText? (cutS z (some 1) none) with
    | some m => if m % 2 = 0 then [.tup [.str x.1, .int 0], .tup [.str x.1, .int 1]] else [.tup [.str x.1, .str (z ++ "no")], .tup [.str x.1, .str (z ++ "yes")]]
    | none => []
theorem evOf_name {x : Str × Option Str} {l : D} (h : l ∈ evOf x) : ∃ y, l = .tup [.str x.1, y] ∧ (y = .non ∨ (∃ i, y = .int i) ∨ ∃ z, y = .str z) := by
  unfold evOf at h
  split at h
  · rw [List.mem_singleton.mp h]; exact ⟨_, rfl, .inl rfl⟩
  · split at h
    · split at h
      · simp only [List.mem_cons, List.not_mem_nil, or_false] at h
        rcases h with rfl | rfl <;> exact ⟨_, rfl, .inr (.inl ⟨_, rfl⟩)⟩
      · simp only [List.mem_cons, List.not_mem_nil, or_false] at h
        rcases h with rfl | rfl <;> exact ⟨_, rfl, .inr (.inr ⟨_, rfl⟩)⟩
    · cases h
theorem evOf_len (x : Str × Option Str) : (evOf x).length ≤ 2 := by
  unfold evOf
  split
  · simp
  · split
    · split <;> simp
    · simp
theorem evOf_cases (x : Str × Option Str) : evOf x = [.tup [.str x.1, .non]] ∨ evOf x = [.tup [.str x.1, .int 0], .tup [.str x.1, .int 1]] ∨ (∃ u v, evOf x = [.tup [.str x.1, .str u], .tup [.str x.1, .str v]]) ∨ evOf x = [] := by
  unfold evOf
  split
  · exact .inl rfl
  · split
    · split
      · exact .inr (.inl rfl)
      · exact .inr (.inr (.inl ⟨_, _, rfl⟩))
    · exact .inr (.inr (.inr rfl))
theorem evOf_comp {x : Str × Option Str} {n : Str} {y z : D} (h1 : .tup [.str n, y] ∈ evOf x) (h2 : .tup [.str n, z] ∈ evOf x) : y = z ∨ (∃ i j, y = .int i ∧ z = .int j) ∨ ∃ u v, y = .str u ∧ z = .str v := by
  rcases evOf_cases x with e | e | ⟨u, v, e⟩ | e <;> rw [e] at h1 h2
  · simp at h1 h2
    exact .inl (h1.2.trans h2.2.symm)
  · simp at h1 h2
    refine .inr (.inl ?_)
    rcases h1 with ⟨_, rfl⟩ | ⟨_, rfl⟩ <;> rcases h2 with ⟨_, rfl⟩ | ⟨_, rfl⟩ <;> exact ⟨_, _, rfl, rfl⟩
  · simp at h1 h2
    refine .inr (.inr ?_)
    rcases h1 with ⟨_, rfl⟩ | ⟨_, rfl⟩ <;> rcases h2 with ⟨_, rfl⟩ | ⟨_, rfl⟩ <;> exact ⟨_, _, rfl, rfl⟩
  · cases h1
theorem evOf_txt {k : Nat} {dr : Dr} (h : DrOk k dr) {x : Str × Option Str} (hx : x ∈ dr) {l : D} (hl : l ∈ evOf x) : DL.txt l = true := by
  have hn := h.nm _ hx
  have t1 := txt_str (by have := hn.len; omega) hn.chr
  unfold evOf at hl
  split at hl
  · rw [List.mem_singleton.mp hl]
    simp [DL.txt, DL.txts] at t1 ⊢; exact t1
  · rename_i z hz
    obtain ⟨_, _, _, hlen, hc⟩ := h.kind _ hx z hz
    rw [len_cp] at hlen
    have t2 : ∀ u : Str, (cp u).length ≤ 10 → (∀ c ∈ cp u, c < 1000) → DL.txt (.str (z ++ u)) = true := fun u h1 h2 => txt_str (by rw [cp_app, List.length_append]; omega) fun c hc' => by
      rw [cp_app] at hc'
      rcases List.mem_append.mp hc' with q | q
      · exact hc c q
      · exact h2 c q
    have t3 := t2 "no" (by decide) (by decide)
    have t4 := t2 "yes" (by decide) (by decide)
    split at hl
    · split at hl
      · simp only [List.mem_cons, List.not_mem_nil, or_false] at hl
        rcases hl with rfl | rfl <;> (simp [DL.txt, DL.txts] at t1 ⊢; exact t1)
      · simp only [List.mem_cons, List.not_mem_nil, or_false] at hl
        rcases hl with rfl | rfl
        · simp [DL.txt, DL.txts] at t1 t3 ⊢; exact ⟨t1, t3⟩
        · simp [DL.txt, DL.txts] at t1 t4 ⊢; exact ⟨t1, t4⟩
    · cases hl
theorem evs_lab {k : Nat} {dr : Dr} (h : DrOk k dr) : LabOk (dr.flatMap evOf) := by
  refine ⟨fun l hl => ?_, fun l hl => ?_, fun n x y h1 h2 => ?_⟩
  rotate_left
  · obtain ⟨d, hm, hd⟩ := List.mem_flatMap.mp hl
    exact evOf_txt h hm hd
  rotate_left
  · obtain ⟨d, _, hd⟩ := List.mem_flatMap.mp hl
    obtain ⟨y, rfl, fy⟩ := evOf_name hd
    exact ⟨_, _, rfl, fy⟩
  · obtain ⟨d, m1, e1⟩ := List.mem_flatMap.mp h1
    obtain ⟨d', m2, e2⟩ := List.mem_flatMap.mp h2
    obtain ⟨_, a1, _⟩ := evOf_name e1
    obtain ⟨_, a2, _⟩ := evOf_name e2
    simp only [D.tup.injEq, List.cons.injEq, D.str.injEq, and_true] at a1 a2
    obtain ⟨i, hi⟩ := List.getElem?_of_mem m1
    obtain ⟨j, hj⟩ := List.getElem?_of_mem m2
    have b1 : (dr.map (·.1))[i]? = some n := by rw [List.getElem?_map, hi, a1.1]; rfl
    have b2 : (dr.map (·.1))[j]? = some n := by rw [List.getElem?_map, hj, a2.1]; rfl
    have ij := (List.getElem?_inj (by rw [List.length_map]; exact (List.getElem?_eq_some_iff.mp hi).1) h.nd).mp (b1.trans b2.symm)
    subst ij
    rw [hi] at hj
    cases hj
    exact evOf_comp e1 e2
section
variable {P : Program} {w : World} {K : PySem.W.Frag} {mg : Str → Option Value} {base : Heap}
def spEvents : DSp := fun ds A Q => ∃ k dr, ds = [.tup (dr.map doorD)] ∧ DrOk k dr ∧ dr.length ≤ 20 ∧ ∀ p evs A', evs.Perm (dr.flatMap evOf) → Ext A A' → A p = none → A' p = some (.lst evs) → Q (.ref p) A'
theorem flat_len (dr : Dr) : (dr.flatMap evOf).length ≤ 2 * dr.length := by
  induction dr with
  | nil => simp
  | cons x dr ih =>
    have := evOf_len x
    rw [List.flatMap_cons, List.length_append, List.length_cons]
    omega
theorem take_flat {α β : Type} {xs : List α} {f : α → List β} {i : Nat} {x : α} (h : xs[i]? = some x) : (xs.take (i + 1)).flatMap f = (xs.take i).flatMap f ++ f x := by
  rw [List.take_succ, h, List.flatMap_append]
  simp
theorem ok_events (T : Top K mg) : DFn P w K mg base 1 (He.ga K "_law_events") (fdO K (He.ga K "_law_events")) ["doors"] spEvents := by
  refine dfun_ok T.d__law_events sc_l_events (fun ds A Q ⟨_, _, h, _⟩ => by rw [h]; rfl) (b_l_events T) fun ds A Q ⟨k, dr, hd, ok, hl, q⟩ => ?_
  subst hd
  unfold t_l_events
  try dsimp only [qSeq, qIfS, qAnd, qOr, qNot, qTest, qOp, qCB, qCX, qCons, qNil, qC, qPut, qMt, qSet, qRet, qRetN, qDrop, qNext, qAndV, qOrV, qNotV, qIf, qChain, qTup, qLst, qSl, qPart, qNoPart, qAsg, qTru, qNeg, qRaise, qDropX, qBreak, qCont, qFor_eq, qLc_eq, qDc_eq, qiSeq, qiRange1, qiRange2, qiEnum, rII0, rII, CDiv, CMul, CPow, rAbs, rInt, rStrI, qTg, Tg.put, putsV, qYes, wipeD, qDisp, qPairs, qDNew]
  refine ⟨sz rfl, fun e A1 n1 => ?_⟩
  refine qVar_some rfl ?_
  refine ⟨⟨_, rfl⟩, forB_seq (dr.map doorD) (fun i τ A' => ∃ x2 x3, τ = [some (.tup (dr.map doorD)), some (.ref e), x2, x3] ∧ A' e = some (.lst ((dr.take i).flatMap evOf)) ∧ Ext A A') ⟨_, _, rfl, n1.get, n1.ex⟩ (fun _ _ _ _ => rfl) (fun τ A2 ⟨x2, x3, et, he, hx⟩ => ?_) fun i d τ A2 hd ⟨x2, x3, et, he, hx⟩ => ?_⟩
  · subst et
    unfold u_l_events_1
    rw [List.length_map, List.take_length] at he
    try dsimp only [qSeq, qIfS, qAnd, qOr, qNot, qTest, qOp, qCB, qCX, qCons, qNil, qC, qPut, qMt, qSet, qRet, qRetN, qDrop, qNext, qAndV, qOrV, qNotV, qIf, qChain, qTup, qLst, qSl, qPart, qNoPart, qAsg, qTru, qNeg, qRaise, qDropX, qBreak, qCont, qFor_eq, qLc_eq, qDc_eq, qiSeq, qiRange1, qiRange2, qiEnum, rII0, rII, CDiv, CMul, CPow, rAbs, rInt, rStrI, qTg, Tg.put, putsV, qYes, wipeD, qDisp, qPairs, qDNew]
    refine qVar_some rfl ?_
    refine .inl ⟨e, _, rfl, items_lst he, labs_sort (evs_lab ok), fun ys p A3 so n3 => ?_⟩
    refine q p ys A3 so.perm (hx.trans n3.ex) ?_ n3.get
    cases e1 : A p with
    | none => rfl
    | some o => have := hx p o e1; rw [n3.free] at this; cases this
  · subst et
    rw [List.getElem?_map] at hd
    cases hx2 : dr[i]? with
    | none => rw [hx2] at hd; cases hd
    | some x =>
      rw [hx2] at hd
      cases hd
      obtain ⟨n, kd⟩ := x
      have hle : ((dr.take i).flatMap evOf).length ≤ 40 := by
        have := flat_len (dr.take i)
        rw [List.length_take] at this
        omega
      have fin : ∀ A3 A4, ExtBut e A2 A3 → Put A3 e (.lst ((dr.take i).flatMap evOf ++ evOf (n, kd))) A4 → A4 e = some (.lst ((dr.take (i + 1)).flatMap evOf)) ∧ Ext A A4 := fun A3 A4 h3 p4 =>
        ⟨by rw [take_flat hx2]; exact p4.get, ExtBut.to n1.free hx (h3.trans (.put p4))⟩
      dsimp only [doorD]
      cases kd with
      | none =>
        try dsimp only [qSeq, qIfS, qAnd, qOr, qNot, qTest, qOp, qCB, qCX, qCons, qNil, qC, qPut, qMt, qSet, qRet, qRetN, qDrop, qNext, qAndV, qOrV, qNotV, qIf, qChain, qTup, qLst, qSl, qPart, qNoPart, qAsg, qTru, qNeg, qRaise, qDropX, qBreak, qCont, qFor_eq, qLc_eq, qDc_eq, qiSeq, qiRange1, qiRange2, qiEnum, rII0, rII, CDiv, CMul, CPow, rAbs, rInt, rStrI, qTg, Tg.put, putsV, qYes, wipeD, qDisp, qPairs, qDNew]
        refine qVar_some rfl ?_
        dsimp only [rIsN]
        refine x_ifT rfl ?_
        refine qVar_some rfl ?_
        refine ⟨e, _, rfl, he, ?_⟩
        refine qVar_some rfl ?_
        refine ⟨sz rfl, ?_⟩
        refine ⟨_, _, rfl, he, szt (by omega), fun A3 p3 => ?_⟩
        exact ⟨_, _, rfl, fin A2 A3 (.refl _ _) p3⟩
      | some z =>
        obtain ⟨m, hm, hm2, hm3, _⟩ := ok.kind (n, some z) (List.mem_of_getElem? hx2) z rfl
        try dsimp only [qSeq, qIfS, qAnd, qOr, qNot, qTest, qOp, qCB, qCX, qCons, qNil, qC, qPut, qMt, qSet, qRet, qRetN, qDrop, qNext, qAndV, qOrV, qNotV, qIf, qChain, qTup, qLst, qSl, qPart, qNoPart, qAsg, qTru, qNeg, qRaise, qDropX, qBreak, qCont, qFor_eq, qLc_eq, qDc_eq, qiSeq, qiRange1, qiRange2, qiEnum, rII0, rII, CDiv, CMul, CPow, rAbs, rInt, rStrI, qTg, Tg.put, putsV, qYes, wipeD, qDisp, qPairs, qDNew]
        refine qVar_some rfl ?_
        dsimp only [rIsN]
        refine x_ifF rfl ?_
        refine qVar_some rfl ?_
        refine .inr (.inr ⟨z, rfl, szl (by omega), m, hm, hm2, ?_⟩)
        refine ⟨by decide, ?_⟩
        rw [rEq_int]
        try dsimp only [qSeq, qIfS, qAnd, qOr, qNot, qTest, qOp, qCB, qCX, qCons, qNil, qC, qPut, qMt, qSet, qRet, qRetN, qDrop, qNext, qAndV, qOrV, qNotV, qIf, qChain, qTup, qLst, qSl, qPart, qNoPart, qAsg, qTru, qNeg, qRaise, qDropX, qBreak, qCont, qFor_eq, qLc_eq, qDc_eq, qiSeq, qiRange1, qiRange2, qiEnum, rII0, rII, CDiv, CMul, CPow, rAbs, rInt, rStrI, qTg, Tg.put, putsV, qYes, wipeD, qDisp, qPairs, qDNew]
        have ev : evOf (n, some z) = if m % 2 = 0 then [.tup [.str n, .int 0], .tup [.str n, .int 1]] else [.tup [.str n, .str (z ++ "no")], .tup [.str n, .str (z ++ "yes")]] := by
          show (match PySem.intText? (cutS z (some 1) none) with | some m => _ | none => _) = _
          rw [hm]
        refine x_ifd (fun c => ?_) fun c => ?_
        · rw [if_pos c] at ev
          rw [ev] at fin
          refine qVar_some rfl ?_
          refine ⟨e, _, rfl, he, ?_⟩
          refine qVar_some rfl ?_
          refine ⟨sz rfl, ?_⟩
          refine qVar_some rfl ?_
          refine ⟨sz rfl, sz rfl, fun b A3 n3 => ?_⟩
          refine ⟨b, _, _, rfl, n3.ext he, n3.get, szl (by simp only [List.length_cons, List.length_nil]; omega), fun A4 p4 => ?_⟩
          exact ⟨_, _, rfl, fin A3 A4 (.of n3.ex) p4⟩
        · rw [if_neg c] at ev
          rw [ev] at fin
          refine qVar_some rfl ?_
          refine ⟨e, _, rfl, he, ?_⟩
          refine qVar_some rfl ?_
          refine qVar_some rfl ?_
          try dsimp only [rAddU]
          refine ⟨szl (by have : ("no" : Str).length = 2 := by decide
                          omega), sz rfl, ?_⟩
          refine qVar_some rfl ?_
          refine qVar_some rfl ?_
          try dsimp only [rAddU]
          refine ⟨szl (by have : ("yes" : Str).length = 3 := by decide
                          omega), sz rfl, sz rfl, fun b A3 n3 => ?_⟩
          refine ⟨b, _, _, rfl, n3.ext he, n3.get, szl (by simp only [List.length_cons, List.length_nil]; omega), fun A4 p4 => ?_⟩
          exact ⟨_, _, rfl, fin A3 A4 (.of n3.ex) p4⟩
end
end L49

set_option Elab.async false
set_option linter.all false
set_option maxRecDepth 100000
set_option maxHeartbeats 4000000
namespace L49
open PySem PySem.Spec PyProof.Rows L2 DL
theorem DrOk.perm {k : Nat} {dr dr' : Dr} (h : DrOk k dr) (p : dr'.Perm dr) : DrOk k dr' := ⟨(p.map (·.1)).nodup_iff.mpr h.nd, fun x hx => h.nm x (p.mem_iff.mp hx), fun x hx => h.kind x (p.mem_iff.mp hx)⟩
theorem DrOk.sub {k : Nat} {dr dr' : Dr} (h : DrOk k dr) (p : dr'.Sublist dr) : DrOk k dr' := ⟨h.nd.sublist (p.map _), fun x hx => h.nm x (p.subset hx), fun x hx => h.kind x (p.subset hx)⟩
section
variable {P : Program} {w : World} {K : PySem.W.Frag} {mg : Str → Option Value} {base : Heap}
/-- the world: the doors, in and out -/
structure WorldOk (d1 d2 : Dr) : Prop where
  ok : DrOk 10 (d1 ++ d2)
  pos : 0 < (d1 ++ d2).length
  few : (d1 ++ d2).length < 10
def spWorld : DSp := fun ds A Q => ∃ dk most L, ds = [.ref dk, .int most] ∧ 0 < most ∧ most < 9 ∧ HD A dk L ∧ ∀ p d1 d2 A', WorldOk d1 d2 → HD A' dk ((p, .lst [.tup (d1.map doorD), .tup (d2.map doorD)]) :: L) → Q (.ref p) A'
theorem ok_world (T : Top K mg) : DFn P w K mg base 3 (He.ga K "_law_world") (fdO K (He.ga K "_law_world")) ["deck", "most"] spWorld := by
  refine dfun_ok T.d__law_world sc_l_world (fun ds A Q ⟨_, _, _, h, _⟩ => by rw [h]; rfl) (b_l_world T (ok_draw T) (ok_doors T)) fun ds A Q ⟨dk, most, L, hd, h1, h2, hA, q⟩ => ?_
  subst hd
  unfold t_l_world
  try dsimp only [qSeq, qIfS, qAnd, qOr, qNot, qTest, qOp, qCB, qCX, qCons, qNil, qC, qPut, qMt, qSet, qRet, qRetN, qDrop, qNext, qAndV, qOrV, qNotV, qIf, qChain, qTup, qLst, qSl, qPart, qNoPart, qAsg, qTru, qNeg, qRaise, qDropX, qBreak, qCont, qFor_eq, qLc_eq, qDc_eq, qiSeq, qiRange1, qiRange2, qiEnum, rII0, rII, CDiv, CMul, CPow, rAbs, rInt, rStrI, qTg, Tg.put, putsV, qYes, wipeD, qDisp, qPairs, qDNew]
  refine qVar_some rfl ?_
  refine qVar_some rfl ?_
  refine qVar_some rfl ?_
  refine x_draw hA (by omega) (by omega) fun r A1 r0 r1 hB => ?_
  try dsimp only [rAddU]
  refine ⟨dk, 1 + r, L, rfl, by omega, by omega, hB, fun p dr A2 ok hl hC => ?_⟩
  try dsimp only [qSeq, qIfS, qAnd, qOr, qNot, qTest, qOp, qCB, qCX, qCons, qNil, qC, qPut, qMt, qSet, qRet, qRetN, qDrop, qNext, qAndV, qOrV, qNotV, qIf, qChain, qTup, qLst, qSl, qPart, qNoPart, qAsg, qTru, qNeg, qRaise, qDropX, qBreak, qCont, qFor_eq, qLc_eq, qDc_eq, qiSeq, qiRange1, qiRange2, qiEnum, rII0, rII, CDiv, CMul, CPow, rAbs, rInt, rStrI, qTg, Tg.put, putsV, qYes, wipeD, qDisp, qPairs, qDNew]
  refine qVar_some rfl ?_
  refine qVar_some rfl ?_
  refine x_len_lst (hC.get 0) ?_
  try dsimp only [rAddU]
  rw [List.length_map]
  refine x_draw hC (by omega) (by omega) fun c A3 c0 c1 hD => ?_
  refine qVar_some rfl ?_
  refine qVar_some rfl ?_
  refine .inl ⟨_, rfl, items_lst (hD.get 0), fun p1 A4 n4 => ?_⟩
  have hE := hD.new n4
  rw [cut_take c0, ← List.map_take] at hE
  refine .inl ⟨p1, _, rfl, items_lst (hE.get 0), labs_sort (doors_lab (ok.sub (List.take_sublist _ _))), fun ys p2 A5 so n5 => ?_⟩
  obtain ⟨d1, pm1, rfl⟩ := perm_map_inv so.perm
  have hF := hE.new n5
  refine ⟨_, _, rfl, items_lst (hF.get 0), ?_⟩
  refine qVar_some rfl ?_
  refine qVar_some rfl ?_
  refine .inl ⟨_, rfl, items_lst (hF.get 2), fun p3 A6 n6 => ?_⟩
  have hG := hF.new n6
  rw [cut_drop c0, ← List.map_drop] at hG
  refine .inl ⟨p3, _, rfl, items_lst (hG.get 0), labs_sort (doors_lab (ok.sub (List.drop_sublist _ _))), fun ys p4 A7 so2 n7 => ?_⟩
  obtain ⟨d2, pm2, rfl⟩ := perm_map_inv so2.perm
  have hH := hG.new n7
  refine ⟨_, _, rfl, items_lst (hH.get 0), sz rfl, fun p5 A8 n8 => ?_⟩
  have hI := hH.new n8
  have pm : (d1 ++ d2).Perm dr := by
    have := pm1.append pm2
    rwa [List.take_append_drop] at this
  refine q p5 d1 d2 A8 ⟨ok.perm pm, by rw [pm.length_eq]; omega, by rw [pm.length_eq]; omega⟩ (hI.sub (((List.Sublist.refl L).cons _).cons _ |>.cons _ |>.cons _ |>.cons _ |>.cons₂ _))
/-! ### pack -/
abbrev Rw := List (D × Nat)
def rowD (r : Rw) : D := .tup (r.map stepD)
def stepLt (a b : D × Nat) : Prop := kLt (toN (stepD a)) (toN (stepD b)) = true
/-- o: the steps of r, each once, in order -/
structure SortSet (r o : Rw) : Prop where
  ord : o.Pairwise stepLt
  mem : ∀ s, s ∈ o ↔ s ∈ r
theorem stepD_inj {a b : D × Nat} (h : stepD a = stepD b) : a = b := by
  unfold stepD at h
  simp only [D.tup.injEq, List.cons.injEq, D.int.injEq, and_true] at h
  exact Prod.ext h.1 (by omega)
theorem sortSet_of {ls : List D} (hl : LabOk ls) {r : Rw} (hr : ∀ s ∈ r, s.1 ∈ ls) {zs ys : List D} (h1 : SetOf (r.map stepD) zs) (h2 : SortedOf zs ys) : ∃ o, ys = o.map stepD ∧ SortSet r o := by
  have hm : ∀ y ∈ ys, y ∈ r.map stepD := fun y hy => (h1.mem y).mp (h2.perm.mem_iff.mp hy)
  have ex : ∀ ys : List D, (∀ y ∈ ys, y ∈ r.map stepD) → ∃ o : Rw, ys = o.map stepD := by
    intro ys
    induction ys with
    | nil => exact fun _ => ⟨[], rfl⟩
    | cons y ys ih =>
      intro h
      obtain ⟨s, _, e⟩ := List.mem_map.mp (h y List.mem_cons_self)
      obtain ⟨o, e2⟩ := ih fun z hz => h z (List.mem_cons_of_mem _ hz)
      exact ⟨s :: o, by rw [List.map_cons, e, e2]⟩
  obtain ⟨o, rfl⟩ := ex ys hm
  refine ⟨o, rfl, ?_, fun s => ?_⟩
  · have nd : (o.map stepD).Nodup := h2.perm.nodup_iff.mpr h1.nd
    have nd2 : o.Nodup := List.Pairwise.of_map stepD (fun _ _ hne e => hne (congrArg stepD e)) nd
    have od := List.pairwise_map.mp h2.ord
    refine List.Pairwise.imp_of_mem (fun {a b} ha hb h => ?_) (od.and nd2)
    obtain ⟨h3, h4⟩ := h
    unfold stepLt
    cases e : kLt (toN (stepD a)) (toN (stepD b)) with
    | true => rfl
    | false =>
      have e2 := kLt_total _ _ e h3
      have pa : ∀ c ∈ o, pl (stepD c) = true := fun c hc => by
        obtain ⟨s, hs, es⟩ := List.mem_map.mp (hm _ (List.mem_map.mpr ⟨c, hc, rfl⟩))
        rw [← es]
        exact (step_okSet hl (hr s hs)).1
      exact absurd (stepD_inj (toN_inj _ _ (pa a ha) (pa b hb) e2)) h4
  · have a1 : s ∈ o ↔ stepD s ∈ o.map stepD := ⟨fun h => List.mem_map.mpr ⟨s, h, rfl⟩, fun h => by
      obtain ⟨s', hs, e⟩ := List.mem_map.mp h
      rw [← stepD_inj e]; exact hs⟩
    have a2 : s ∈ r ↔ stepD s ∈ r.map stepD := ⟨fun h => List.mem_map.mpr ⟨s, h, rfl⟩, fun h => by
      obtain ⟨s', hs, e⟩ := List.mem_map.mp h
      rw [← stepD_inj e]; exact hs⟩
    rw [a1, a2, h2.perm.mem_iff, h1.mem]
/-- rows as lists at ps -/
def RowsAt (A : DA) (ps : List Addr) (rs : List Rw) : Prop := ps.length = rs.length ∧ ∀ (i : Nat) (p : Addr) (r : Rw), ps[i]? = some p → rs[i]? = some r → A p = some (.lst (r.map stepD))
def Packed (rs os : List Rw) : Prop := os.length = rs.length ∧ ∀ (i : Nat) (r o : Rw), rs[i]? = some r → os[i]? = some o → SortSet r o
def spPack : DSp := fun ds A Q => ∃ a ls ps rs, ds = [.ref a] ∧ LabOk ls ∧ A a = some (.lst (ps.map D.ref)) ∧ RowsAt A ps rs ∧ (∀ r ∈ rs, r.length < 64 ∧ ∀ s ∈ r, s.1 ∈ ls) ∧ rs.length ≤ 1000 ∧ ∀ os A', Packed rs os → Ext A A' → Q (.tup (os.map rowD)) A'
theorem rows_ex {R : Nat → D → Prop} {rs : List Rw} {ys : List D} (hl : ys.length = rs.length) (h : ∀ (i : Nat) (y : D), ys[i]? = some y → ∃ r o : Rw, rs[i]? = some r ∧ y = rowD o ∧ SortSet r o) : ∃ os, ys = os.map rowD ∧ Packed rs os := by
  have key : ∀ (ys : List D) (rs : List Rw), ys.length = rs.length → (∀ (i : Nat) (y : D), ys[i]? = some y → ∃ r o : Rw, rs[i]? = some r ∧ y = rowD o ∧ SortSet r o) → ∃ os, ys = os.map rowD ∧ Packed rs os := by
    intro ys
    induction ys with
    | nil => intro rs hl _; exact ⟨[], rfl, by simpa using hl, fun i r o _ e => by simp at e⟩
    | cons y ys ih =>
      intro rs hl h
      match rs, hl with
      | r :: rs, hl =>
        obtain ⟨os, e1, e2, e3⟩ := ih rs (by simpa using hl) fun i z hz => by
          have := h (i + 1) z (by simpa using hz)
          simpa using this
        obtain ⟨r', o, e4, e5, e6⟩ := h 0 y rfl
        cases e4
        refine ⟨o :: os, by rw [List.map_cons, e5, e1], by simp [e2], fun i r' o' hr ho => ?_⟩
        cases i with
        | zero => cases hr; cases ho; exact e6
        | succ i => exact e3 i r' o' (by simpa using hr) (by simpa using ho)
  exact key ys rs hl h
theorem ok_pack (T : Top K mg) : DFn P w K mg base 1 (He.ga K "_law_pack") (fdO K (He.ga K "_law_pack")) ["rows"] spPack := by
  refine dfun_ok T.d__law_pack sc_l_pack (fun ds A Q ⟨_, _, _, _, h, _⟩ => by rw [h]; rfl) (b_l_pack T) fun ds A Q ⟨a, ls, ps, rs, hd, hls, ha, hrs, hr, hn, q⟩ => ?_
  subst hd
  unfold t_l_pack
  try dsimp only [qSeq, qIfS, qAnd, qOr, qNot, qTest, qOp, qCB, qCX, qCons, qNil, qC, qPut, qMt, qSet, qRet, qRetN, qDrop, qNext, qAndV, qOrV, qNotV, qIf, qChain, qTup, qLst, qSl, qPart, qNoPart, qAsg, qTru, qNeg, qRaise, qDropX, qBreak, qCont, qFor_eq, qLc_eq, qDc_eq, qiSeq, qiRange1, qiRange2, qiEnum, rII0, rII, CDiv, CMul, CPow, rAbs, rInt, rStrI, qTg, Tg.put, putsV, qYes, wipeD, qDisp, qPairs, qDNew]
  refine qVar_some rfl ?_
  refine ⟨⟨_, items_lst ha⟩, ?_⟩
  refine lcB_ext ps.length (fun i => .ref (ps.getD i 0)) (fun i y => ∃ r o : Rw, rs[i]? = some r ∧ y = rowD o ∧ SortSet r o) (fun i A1 hi e => ⟨_, items_lst (e _ _ ha), ?_⟩) (szt (by rw [hrs.1]; omega)) (fun p A1 ys h1 h2 e f n => ?_) fun i A1 Ky hi e hk => ?_
  · by_cases h : i < ps.length
    · rw [if_pos h, List.getElem?_map, List.getD_eq_getElem?_getD, List.getElem?_eq_getElem h]; rfl
    · rw [if_neg h, List.getElem?_map, List.getElem?_eq_none (by omega)]; rfl
  · obtain ⟨os, rfl, pk⟩ := rows_ex (R := fun _ _ => True) (h1.trans hrs.1) h2
    exact ⟨_, _, rfl, items_lst n, q os A1 pk e⟩
  · have hp : ps[i]? = some (ps.getD i 0) := by rw [List.getD_eq_getElem?_getD, List.getElem?_eq_getElem hi]; rfl
    have hri : rs[i]? = some (rs[i]'(by rw [← hrs.1]; exact hi)) := List.getElem?_eq_getElem _
    have hat := e _ _ (hrs.2 i _ _ hp hri)
    have hrr := hr _ (List.mem_of_getElem? hri)
    generalize rs[i]'(by rw [← hrs.1]; exact hi) = r at hri hat hrr
    try dsimp only [qSeq, qIfS, qAnd, qOr, qNot, qTest, qOp, qCB, qCX, qCons, qNil, qC, qPut, qMt, qSet, qRet, qRetN, qDrop, qNext, qAndV, qOrV, qNotV, qIf, qChain, qTup, qLst, qSl, qPart, qNoPart, qAsg, qTru, qNeg, qRaise, qDropX, qBreak, qCont, qFor_eq, qLc_eq, qDc_eq, qiSeq, qiRange1, qiRange2, qiEnum, rII0, rII, CDiv, CMul, CPow, rAbs, rInt, rStrI, qTg, Tg.put, putsV, qYes, wipeD, qDisp, qPairs, qDNew]
    refine qVar_some rfl ?_
    refine ⟨_, _, rfl, items_lst hat, fun x hx => ?_, by rw [List.length_map]; exact hrr.1, fun zs p1 A2 so hlen n1 => ?_⟩
    · obtain ⟨s, hs, rfl⟩ := List.mem_map.mp hx
      exact step_okSet hls (hrr.2 s hs)
    · refine .inr (.inr ⟨p1, zs, rfl, n1.get, (steps_sort hls hrr.2).sub fun y hy => (so.mem y).mp hy, fun ys p2 A3 so2 n2 => ?_⟩)
      obtain ⟨o, rfl, ss⟩ := sortSet_of hls hrr.2 so so2
      exact ⟨_, _, rfl, items_lst n2.get, hk _ _ ⟨r, o, hri, rfl, ss⟩ (n1.ex.trans n2.ex)⟩
end
end L49

set_option Elab.async false
set_option linter.all false
set_option maxRecDepth 100000
set_option maxHeartbeats 4000000
namespace L49
open PySem PySem.Spec PyProof.Rows L2 DL
theorem nodup_le {α : Type} [DecidableEq α] : ∀ (o r : List α), o.Nodup → (∀ s ∈ o, s ∈ r) → o.length ≤ r.length
  | [], _, _, _ => Nat.zero_le _
  | a :: o, r, nd, h => by
    have nd' := List.nodup_cons.mp nd
    have := nodup_le o (r.erase a) nd'.2 fun s hs => by
      have hsa : s ≠ a := fun e => nd'.1 (e ▸ hs)
      exact (List.mem_erase_of_ne hsa).mpr (h s (List.mem_cons_of_mem _ hs))
    have ha := h a List.mem_cons_self
    rw [List.length_erase_of_mem ha] at this
    have := List.length_pos_of_mem ha
    rw [List.length_cons]
    omega
theorem stepLt_irr (a : D × Nat) : ¬ stepLt a a := fun h => by unfold stepLt at h; rw [kLt_irrefl] at h; cases h
theorem sorted_nodup {o : Rw} (h : o.Pairwise stepLt) : o.Nodup := List.Pairwise.imp (S := fun a b => a ≠ b) (fun {a b} (h : stepLt a b) (e : a = b) => stepLt_irr b (by rw [e] at h; exact h)) h
theorem SortSet.len {r o : Rw} (h : SortSet r o) : o.length ≤ r.length := nodup_le o r (sorted_nodup h.ord) fun s hs => (h.mem s).mp hs
/-! ### rows -/
def rowsL : List Addr → List Rw → List (Addr × MO)
  | p :: ps, r :: rs => (p, .lst (r.map stepD)) :: rowsL ps rs
  | _, _ => []
theorem rowsL_get : ∀ {ps : List Addr} {rs : List Rw} {i : Nat} {p : Addr} {r : Rw} (L : List (Addr × MO)), ps[i]? = some p → rs[i]? = some r → (rowsL ps rs ++ L)[i]? = some (p, .lst (r.map stepD))
  | [], _, _, _, _, _, h, _ => by simp at h
  | _ :: _, [], _, _, _, _, _, h => by simp at h
  | p :: ps, r :: rs, 0, _, _, L, h1, h2 => by cases h1; cases h2; rfl
  | p :: ps, r :: rs, i + 1, _, _, L, h1, h2 => by
    show (rowsL ps rs ++ L)[i]? = _
    exact rowsL_get L (by simpa using h1) (by simpa using h2)
theorem rowsL_set : ∀ {ps : List Addr} {rs : List Rw} {i : Nat} {p : Addr} {r r' : Rw} (L : List (Addr × MO)), ps[i]? = some p → rs[i]? = some r → (rowsL ps rs ++ L).set i (p, .lst (r'.map stepD)) = rowsL ps (rs.set i r') ++ L
  | [], _, _, _, _, _, _, h, _ => by simp at h
  | _ :: _, [], _, _, _, _, _, _, h => by simp at h
  | p :: ps, r :: rs, 0, _, _, _, L, h1, h2 => by cases h1; rfl
  | p :: ps, r :: rs, i + 1, _, _, _, L, h1, h2 => by
    show _ :: (rowsL ps rs ++ L).set i _ = _
    rw [rowsL_set L (by simpa using h1) (by simpa using h2)]; rfl
theorem rowsL_snoc : ∀ {ps : List Addr} {rs : List Rw} (p : Addr) (r : Rw), ps.length = rs.length → rowsL (ps ++ [p]) (rs ++ [r]) = rowsL ps rs ++ [(p, .lst (r.map stepD))]
  | [], [], _, _, _ => rfl
  | [], _ :: _, _, _, h => by cases h
  | _ :: _, [], _, _, h => by cases h
  | p :: ps, r :: rs, q, s, h => by
    show _ :: rowsL (ps ++ [q]) (rs ++ [s]) = _
    rw [rowsL_snoc q s (by simpa using h)]; rfl
/-- the lists of rows, and the list of them at C -/
structure HR (A : DA) (dk C : Addr) (ps : List Addr) (rs : List Rw) (L : List (Addr × MO)) : Prop where
  len : ps.length = rs.length
  hd : HD A dk ((C, .lst (ps.map D.ref)) :: (rowsL ps rs ++ L))
theorem HR.rowsAt {A : DA} {dk C : Addr} {ps : List Addr} {rs : List Rw} {L : List (Addr × MO)} (h : HR A dk C ps rs L) : RowsAt A ps rs := ⟨h.len, fun i p r h1 h2 => h.hd.get (i + 1) (rowsL_get L h1 h2)⟩
theorem HR.put {A A' : DA} {dk C : Addr} {ps : List Addr} {rs : List Rw} {L : List (Addr × MO)} {i : Nat} {p : Addr} {r r' : Rw} (h : HR A dk C ps rs L) (h1 : ps[i]? = some p) (h2 : rs[i]? = some r) (pt : Put A p (.lst (r'.map stepD)) A') : HR A' dk C ps (rs.set i r') L := by
  refine ⟨by rw [List.length_set]; exact h.len, ?_⟩
  have := h.hd.put (i + 1) pt (rowsL_get L h1 h2)
  rw [List.set_cons_succ, rowsL_set L h1 h2] at this
  exact this
theorem HR.back {A : DA} {dk C : Addr} {ps : List Addr} {rs : List Rw} {L : List (Addr × MO)} (h : HR A dk C ps rs L) : HD A dk L := h.hd.sub ((List.sublist_append_right _ _).cons _)
/-- what is true of the rows while they are made -/
structure RwOk (ls : List D) (many n : Nat) (rs : List Rw) : Prop where
  len : rs.length = many
  row : ∀ r ∈ rs, r.length ≤ n ∧ ∀ s ∈ r, s.1 ∈ ls ∧ s.2 < many
theorem RwOk.put {ls : List D} {many n i : Nat} {rs : List Rw} {r : Rw} {s : D × Nat} (h : RwOk ls many n rs) (hr : rs[i]? = some r) (hs : s.1 ∈ ls) (hm : s.2 < many) : RwOk ls many (n + 1) (rs.set i (r ++ [s])) := by
  refine ⟨by rw [List.length_set]; exact h.len, fun q hq => ?_⟩
  rcases List.mem_or_eq_of_mem_set hq with hq | rfl
  · exact ⟨Nat.le_succ_of_le (h.row q hq).1, (h.row q hq).2⟩
  · have h0 := h.row r (List.mem_of_getElem? hr)
    refine ⟨by simp; exact h0.1, fun t ht => ?_⟩
    rcases List.mem_append.mp ht with ht | ht
    · exact h0.2 t ht
    · rw [List.mem_singleton.mp ht]; exact ⟨hs, hm⟩
structure GoodRows (ls : List D) (many : Nat) (os : List Rw) : Prop where
  len : os.length = many
  row : ∀ o ∈ os, o.Pairwise stepLt ∧ o.length ≤ 45 ∧ ∀ s ∈ o, s.1 ∈ ls ∧ s.2 < many
theorem good_of {ls : List D} {many n : Nat} {rs os : List Rw} (h : RwOk ls many n rs) (hn : n ≤ 45) (p : Packed rs os) : GoodRows ls many os := by
  refine ⟨p.1.trans h.len, fun o ho => ?_⟩
  obtain ⟨i, hi⟩ := List.getElem?_of_mem ho
  have hlt := (List.getElem?_eq_some_iff.mp hi).1
  have hr : rs[i]? = some (rs[i]'(by rw [← p.1]; exact hlt)) := List.getElem?_eq_getElem _
  have ss := p.2 i _ o hr hi
  have h0 := h.row _ (List.mem_of_getElem? hr)
  exact ⟨ss.ord, by have := ss.len; omega, fun s hs => h0.2 s ((ss.mem s).mp hs)⟩
section
variable {P : Program} {w : World} {K : PySem.W.Frag} {mg : Str → Option Value} {base : Heap}
def spRows : DSp := fun ds A Q => ∃ dk lp ls L, ∃ (many extra : Nat), ds = [.ref dk, .ref lp, .int many, .int extra] ∧ LabOk ls ∧ ls ≠ [] ∧ ls.length ≤ 1000 ∧ 1 ≤ many ∧ many ≤ 20 ∧ extra ≤ 20 ∧ HD A dk L ∧ (∃ i : Nat, L[i]? = some (lp, MO.lst ls)) ∧
  ∀ os A', GoodRows ls many os → HD A' dk L → Q (.tup (os.map rowD)) A'
/-- row.append((one of the labels, k)) behind row = rows[..] -/
theorem row_add {dk C lp : Addr} {ls : List D} {L : List (Addr × MO)} {many extra n j : Nat} {E : DEnds} {A : DA} {ps : List Addr} {rs : List Rw} {x5 : Option D} {p : Addr} {r : Rw} {te : DE} (hls : ls ≠ []) (hll : ls.length ≤ 1000) (hi : ∃ i : Nat, L[i]? = some (lp, MO.lst ls)) (hn : n < 45)
    (h : HR A dk C ps rs L) (ok : RwOk ls many n rs) (hp : ps[j]? = some p) (hr : rs[j]? = some r)
    (hte : ∀ A (Ky : DK), HD A dk ((C, .lst (ps.map D.ref)) :: (rowsL ps rs ++ L)) → (∀ t A', t < many → HD A' dk ((C, .lst (ps.map D.ref)) :: (rowsL ps rs ++ L)) → Ky (.int (t : Nat)) A') → te [some (.ref dk), some (.ref lp), some (.int many), some (.int extra), some (.ref C), x5, some (.ref p)] A Ky)
    (q : ∀ rs' A', HR A' dk C ps rs' L → RwOk ls many (n + 1) rs' → E.nx [some (.ref dk), some (.ref lp), some (.int many), some (.int extra), some (.ref C), x5, some (.ref p)] A') :
    qDrop (qMt rAppend (qVar 6) (qCons (qTup (qCons (qCB spSome (qCons (qVar 0) (qCons (qVar 1) qNil))) (qCons te qNil))) qNil)) E [some (.ref dk), some (.ref lp), some (.int many), some (.int extra), some (.ref C), x5, some (.ref p)] A := by
  try dsimp only [qSeq, qIfS, qAnd, qOr, qNot, qTest, qOp, qCB, qCX, qCons, qNil, qC, qPut, qMt, qSet, qRet, qRetN, qDrop, qNext, qAndV, qOrV, qNotV, qIf, qChain, qTup, qLst, qSl, qPart, qNoPart, qAsg, qTru, qNeg, qRaise, qDropX, qBreak, qCont, qFor_eq, qLc_eq, qDc_eq, qiSeq, qiRange1, qiRange2, qiEnum, rII0, rII, CDiv, CMul, CPow, rAbs, rInt, rStrI, qTg, Tg.put, putsV, qYes, wipeD, qDisp, qPairs, qDNew]
  refine qVar_some rfl ?_
  have hat := h.hd.get (j + 1) (rowsL_get L hp hr)
  refine ⟨p, _, rfl, hat, ?_⟩
  refine qVar_some rfl ?_
  refine qVar_some rfl ?_
  have lpat : ∀ A', HD A' dk ((C, .lst (ps.map D.ref)) :: (rowsL ps rs ++ L)) → items? A' (.ref lp) = some ls := fun A' h' => by
    obtain ⟨i, hi⟩ := hi
    exact items_lst ((h'.sub ((List.sublist_append_right _ _).cons _)).get i hi)
  refine ⟨dk, .ref lp, ls, _, rfl, hls, by omega, h.hd, lpat, .inl rfl, fun y A1 hy hB => ?_⟩
  refine hte A1 _ hB fun t A2 ht hC => ?_
  refine ⟨sz rfl, ?_⟩
  have hat2 := hC.get (j + 1) (rowsL_get L hp hr)
  refine ⟨_, _, rfl, hat2, szt (by rw [List.length_map]; have := (ok.row r (List.mem_of_getElem? hr)).1; omega), fun A3 p3 => ?_⟩
  have e : r.map stepD ++ [.tup [y, .int (t : Nat)]] = (r ++ [(y, t)]).map stepD := by rw [List.map_append]; rfl
  rw [e] at p3
  have hF := HR.put ⟨h.len, hC⟩ hp hr p3
  exact q _ _ hF (ok.put hr hy ht)
theorem rows_start {dk : Addr} {L : List (Addr × MO)} {A : DA} {many : Nat} {Q : DK} {τ : DSt} (hm : many ≤ 20) (hA : HD A dk L) (q : ∀ C A' ps, HR A' dk C ps (List.replicate many []) L → Q (.ref C) A') : LcB (jRange 0 many) (.nm 5) qYes (qLst qNil) [5] τ A Q := by
  refine lcB_n many (fun i => .int (0 + (i : Nat))) (fun C i A' => ∃ ps, HR A' dk C ps (List.replicate i []) L) (fun C A2 n => ⟨[], rfl, hA.new n⟩) (fun C i A' hi h => rfl) (fun C A' ⟨ps, h⟩ => q C A' ps h) fun C i A' hi ⟨ps, h⟩ => ?_
  try dsimp only [qSeq, qIfS, qAnd, qOr, qNot, qTest, qOp, qCB, qCX, qCons, qNil, qC, qPut, qMt, qSet, qRet, qRetN, qDrop, qNext, qAndV, qOrV, qNotV, qIf, qChain, qTup, qLst, qSl, qPart, qNoPart, qAsg, qTru, qNeg, qRaise, qDropX, qBreak, qCont, qFor_eq, qLc_eq, qDc_eq, qiSeq, qiRange1, qiRange2, qiEnum, rII0, rII, CDiv, CMul, CPow, rAbs, rInt, rStrI, qTg, Tg.put, putsV, qYes, wipeD, qDisp, qPairs, qDNew]
  rw [if_pos rfl]
  refine ⟨sz rfl, fun p A2 n2 => ?_⟩
  have hB := h.hd.new n2
  have hl := h.len
  rw [List.length_replicate] at hl
  refine ⟨_, hB.get 1, szt (by rw [List.length_map]; omega), fun A3 p3 => ⟨ps ++ [p], by simp [hl], ?_⟩⟩
  have hC := hB.put 1 p3
  rw [List.replicate_succ', rowsL_snoc p [] (by rw [List.length_replicate]; exact hl), List.map_append]
  refine hC.perm ?_
  rw [List.append_assoc]
  exact (List.Perm.cons _ List.perm_middle).trans (List.Perm.swap _ _ _)
theorem ok_rows (T : Top K mg) : DFn P w K mg base 3 (He.ga K "_law_rows") (fdO K (He.ga K "_law_rows")) ["deck", "labels", "many", "extra"] spRows := by
  refine dfun_ok T.d__law_rows sc_l_rows (fun ds A Q ⟨_, _, _, _, _, _, h, _⟩ => by rw [h]; rfl) (b_l_rows T (ok_draw T) (ok_some T) (ok_pack T)) fun ds A Q ⟨dk, lp, ls, L, many, extra, hd, hls, hne, hll, m1, m2, he, hA, hi, q⟩ => ?_
  subst hd
  unfold t_l_rows
  try dsimp only [qSeq, qIfS, qAnd, qOr, qNot, qTest, qOp, qCB, qCX, qCons, qNil, qC, qPut, qMt, qSet, qRet, qRetN, qDrop, qNext, qAndV, qOrV, qNotV, qIf, qChain, qTup, qLst, qSl, qPart, qNoPart, qAsg, qTru, qNeg, qRaise, qDropX, qBreak, qCont, qFor_eq, qLc_eq, qDc_eq, qiSeq, qiRange1, qiRange2, qiEnum, rII0, rII, CDiv, CMul, CPow, rAbs, rInt, rStrI, qTg, Tg.put, putsV, qYes, wipeD, qDisp, qPairs, qDNew]
  refine qVar_some rfl ?_
  refine ⟨by omega, by omega, ?_⟩
  rw [Int.toNat_natCast]
  refine rows_start m2 hA fun C A1 ps h => ?_
  try dsimp only [qSeq, qIfS, qAnd, qOr, qNot, qTest, qOp, qCB, qCX, qCons, qNil, qC, qPut, qMt, qSet, qRet, qRetN, qDrop, qNext, qAndV, qOrV, qNotV, qIf, qChain, qTup, qLst, qSl, qPart, qNoPart, qAsg, qTru, qNeg, qRaise, qDropX, qBreak, qCont, qFor_eq, qLc_eq, qDc_eq, qiSeq, qiRange1, qiRange2, qiEnum, rII0, rII, CDiv, CMul, CPow, rAbs, rInt, rStrI, qTg, Tg.put, putsV, qYes, wipeD, qDisp, qPairs, qDNew]
  refine qVar_some rfl ?_
  refine ⟨by omega, ?_⟩
  have hcount : ((many : Int) - 1).toNat = many - 1 := by omega
  rw [hcount]
  refine forB_range (fun i τ A' => ∃ x5 x6 rs, τ = [some (.ref dk), some (.ref lp), some (.int many), some (.int extra), some (.ref C), x5, x6] ∧ HR A' dk C ps rs L ∧ RwOk ls many i rs) ⟨_, _, _, rfl, h, by rw [List.length_replicate], fun r hr => by rw [List.eq_of_mem_replicate hr]; exact ⟨Nat.zero_le _, fun s hs => by cases hs⟩⟩ (fun τ A' ⟨x5, x6, rs, et, h, ok⟩ => ?_) fun i τ A' hlt ⟨x5, x6, rs, et, h, ok⟩ => ?_
  · subst et
    unfold u_l_rows_2
    try dsimp only [qSeq, qIfS, qAnd, qOr, qNot, qTest, qOp, qCB, qCX, qCons, qNil, qC, qPut, qMt, qSet, qRet, qRetN, qDrop, qNext, qAndV, qOrV, qNotV, qIf, qChain, qTup, qLst, qSl, qPart, qNoPart, qAsg, qTru, qNeg, qRaise, qDropX, qBreak, qCont, qFor_eq, qLc_eq, qDc_eq, qiSeq, qiRange1, qiRange2, qiEnum, rII0, rII, CDiv, CMul, CPow, rAbs, rInt, rStrI, qTg, Tg.put, putsV, qYes, wipeD, qDisp, qPairs, qDNew]
    refine qVar_some rfl ?_
    refine ⟨by omega, by omega, ?_⟩
    rw [Int.toNat_natCast]
    refine forB_range (fun i τ A' => ∃ x5 x6 rs, τ = [some (.ref dk), some (.ref lp), some (.int many), some (.int extra), some (.ref C), x5, x6] ∧ HR A' dk C ps rs L ∧ RwOk ls many (many - 1 + i) rs) ⟨_, _, _, rfl, h, ok⟩ (fun τ A' ⟨x5, x6, rs, et, h, ok⟩ => ?_) fun i τ A' hlt ⟨x5, x6, rs, et, h, ok⟩ => ?_
    · subst et
      unfold u_l_rows_1
      try dsimp only [qSeq, qIfS, qAnd, qOr, qNot, qTest, qOp, qCB, qCX, qCons, qNil, qC, qPut, qMt, qSet, qRet, qRetN, qDrop, qNext, qAndV, qOrV, qNotV, qIf, qChain, qTup, qLst, qSl, qPart, qNoPart, qAsg, qTru, qNeg, qRaise, qDropX, qBreak, qCont, qFor_eq, qLc_eq, qDc_eq, qiSeq, qiRange1, qiRange2, qiEnum, rII0, rII, CDiv, CMul, CPow, rAbs, rInt, rStrI, qTg, Tg.put, putsV, qYes, wipeD, qDisp, qPairs, qDNew]
      refine qVar_some rfl ?_
      refine ⟨C, ls, ps, rs, rfl, hls, h.hd.get 0, h.rowsAt, fun r hr => ⟨by have := (ok.row r hr).1; omega, fun s hs => ((ok.row r hr).2 s hs).1⟩, by rw [ok.len]; omega, fun os A2 pk ex => ?_⟩
      exact q os A2 (good_of ok (by omega) pk) (h.back.ext ex)
    · subst et
      try dsimp only [qSeq, qIfS, qAnd, qOr, qNot, qTest, qOp, qCB, qCX, qCons, qNil, qC, qPut, qMt, qSet, qRet, qRetN, qDrop, qNext, qAndV, qOrV, qNotV, qIf, qChain, qTup, qLst, qSl, qPart, qNoPart, qAsg, qTru, qNeg, qRaise, qDropX, qBreak, qCont, qFor_eq, qLc_eq, qDc_eq, qiSeq, qiRange1, qiRange2, qiEnum, rII0, rII, CDiv, CMul, CPow, rAbs, rInt, rStrI, qTg, Tg.put, putsV, qYes, wipeD, qDisp, qPairs, qDNew]
      refine qVar_some rfl ?_
      refine qVar_some rfl ?_
      refine qVar_some rfl ?_
      refine x_draw h.hd (by omega) (by omega) fun r A2 r0 r1 hB => ?_
      obtain ⟨v, e1, _, e2⟩ := at_draw (xs := ps) r0 (by rw [h.len, ok.len]; exact r1)
      have e1' : atI (ps.map D.ref) r = some (.ref v) := by
        have := atI_nat (xs := ps.map D.ref) (v := .ref v) r.toNat (by rw [List.getElem?_map, e2]; rfl)
        rwa [Int.toNat_of_nonneg r0] at this
      refine x_ix_lst (hB.get 0) e1' ?_
      have hlt2 := (List.getElem?_eq_some_iff.mp e2).1
      have hr : rs[r.toNat]? = some (rs[r.toNat]'(by rw [← h.len]; exact hlt2)) := List.getElem?_eq_getElem _
      refine row_add (n := many - 1 + i) (te := qCB spDraw (qCons (qVar 0) (qCons (qVar 2) qNil))) (E := { nx := fun τ A' => ∃ x5 x6 rs, τ = [some (.ref dk), some (.ref lp), some (.int many), some (.int extra), some (.ref C), x5, x6] ∧ HR A' dk C ps rs L ∧ RwOk ls many (many - 1 + (i + 1)) rs, rt := fun _ _ => False }) hne hll hi (by omega) ⟨h.len, hB⟩ ok e2 hr (fun A3 Ky hC k => ?_) (fun rs' A3 h' ok' => ⟨_, _, rs', rfl, h', ok'⟩)
      try dsimp only [qSeq, qIfS, qAnd, qOr, qNot, qTest, qOp, qCB, qCX, qCons, qNil, qC, qPut, qMt, qSet, qRet, qRetN, qDrop, qNext, qAndV, qOrV, qNotV, qIf, qChain, qTup, qLst, qSl, qPart, qNoPart, qAsg, qTru, qNeg, qRaise, qDropX, qBreak, qCont, qFor_eq, qLc_eq, qDc_eq, qiSeq, qiRange1, qiRange2, qiEnum, rII0, rII, CDiv, CMul, CPow, rAbs, rInt, rStrI, qTg, Tg.put, putsV, qYes, wipeD, qDisp, qPairs, qDNew]
      refine qVar_some rfl ?_
      refine qVar_some rfl ?_
      refine x_draw hC (by omega) (by omega) fun t A4 t0 t1 hF => ?_
      have := k t.toNat A4 (by omega) hF
      rwa [Int.toNat_of_nonneg t0] at this
  · subst et
    try dsimp only [qSeq, qIfS, qAnd, qOr, qNot, qTest, qOp, qCB, qCX, qCons, qNil, qC, qPut, qMt, qSet, qRet, qRetN, qDrop, qNext, qAndV, qOrV, qNotV, qIf, qChain, qTup, qLst, qSl, qPart, qNoPart, qAsg, qTru, qNeg, qRaise, qDropX, qBreak, qCont, qFor_eq, qLc_eq, qDc_eq, qiSeq, qiRange1, qiRange2, qiEnum, rII0, rII, CDiv, CMul, CPow, rAbs, rInt, rStrI, qTg, Tg.put, putsV, qYes, wipeD, qDisp, qPairs, qDNew]
    refine qVar_some rfl ?_
    refine qVar_some rfl ?_
    refine qVar_some rfl ?_
    refine x_draw h.hd (by omega) (by omega) fun r A2 r0 r1 hB => ?_
    obtain ⟨v, e1, _, e2⟩ := at_draw (xs := ps) r0 (by rw [h.len, ok.len]; omega)
    have e1' : atI (ps.map D.ref) r = some (.ref v) := by
      have := atI_nat (xs := ps.map D.ref) (v := .ref v) r.toNat (by rw [List.getElem?_map, e2]; rfl)
      rwa [Int.toNat_of_nonneg r0] at this
    refine x_ix_lst (hB.get 0) e1' ?_
    have hlt2 := (List.getElem?_eq_some_iff.mp e2).1
    have hr : rs[r.toNat]? = some (rs[r.toNat]'(by rw [← h.len]; exact hlt2)) := List.getElem?_eq_getElem _
    refine row_add (n := i) (te := qVar 5) (E := { nx := fun τ A' => ∃ x5 x6 rs, τ = [some (.ref dk), some (.ref lp), some (.int many), some (.int extra), some (.ref C), x5, x6] ∧ HR A' dk C ps rs L ∧ RwOk ls many (i + 1) rs, rt := fun _ _ => False }) hne hll hi (by omega) ⟨h.len, hB⟩ ok e2 hr (fun A3 Ky hC k => ?_) (fun rs' A3 h' ok' => ⟨_, _, rs', rfl, h', ok'⟩)
    refine qVar_some rfl ?_
    have := k (1 + i) A3 (by omega) hC
    have e3 : ((1 + i : Nat) : Int) = 1 + (i : Int) := by omega
    rwa [e3] at this
end
end L49

set_option Elab.async false
set_option linter.all false
set_option maxRecDepth 100000
set_option maxHeartbeats 4000000
namespace L49
open PySem PySem.Spec PyProof.Rows L2 DL
/-! ### what is reached -/
inductive Reach (G : List Rw) : Nat → Prop
  | zero : Reach G 0
  | step {k : Nat} {s : D × Nat} : Reach G k → s ∈ G.getD k [] → Reach G s.2
/-- targets stand -/
structure Valid (G : List Rw) : Prop where
  pos : 0 < G.length
  tgt : ∀ r ∈ G, ∀ s ∈ r, s.2 < G.length
theorem Valid.at_ {G : List Rw} (h : Valid G) {k : Nat} {s : D × Nat} (hs : s ∈ G.getD k []) : s.2 < G.length := by
  rw [List.getD_eq_getElem?_getD] at hs
  cases e : G[k]? with
  | none => rw [e] at hs; cases hs
  | some r => rw [e] at hs; exact h.tgt r (List.mem_of_getElem? e) s hs
theorem Reach.lt {G : List Rw} (h : Valid G) {k : Nat} (r : Reach G k) : k < G.length := by
  cases r with
  | zero => exact h.pos
  | step _ hs => exact h.at_ hs
structure Dfs (G : List Rw) (ms td : List Nat) (cur : Option Nat) : Prop where
  z : 0 ∈ ms
  nd : ms.Nodup
  rc : ∀ n ∈ ms, Reach G n
  sub : ∀ n ∈ td, n ∈ ms
  tnd : td.Nodup
  cl : ∀ n ∈ ms, n ∉ td → cur ≠ some n → ∀ s ∈ G.getD n [], s.2 ∈ ms
section
variable {G : List Rw} {ms td : List Nat}
theorem Dfs.start : Dfs G [0] [0] none := ⟨by simp, by simp, fun n hn => by rw [List.mem_singleton.mp hn]; exact .zero, fun n h => h, by simp, fun n h1 h2 => absurd h1 h2⟩
theorem Dfs.pop {n : Nat} (h : Dfs G ms td none) (e : td[td.length - 1]? = some n) : Dfs G ms td.dropLast (some n) ∧ n ∈ ms := by
  have hn : n ∈ td := List.mem_of_getElem? e
  refine ⟨⟨h.z, h.nd, h.rc, fun k hk => h.sub k (List.dropLast_subset _ hk), h.tnd.sublist (List.dropLast_sublist _), fun k hk hk2 hk3 => ?_⟩, h.sub n hn⟩
  refine h.cl k hk (fun hk4 => ?_) (by simp)
  have hne : td ≠ [] := List.ne_nil_of_mem hn
  have e2 := List.dropLast_concat_getLast hne
  rw [← e2] at hk4
  rcases List.mem_append.mp hk4 with z | z
  · exact hk2 z
  · rw [List.mem_singleton] at z
    rw [List.getLast_eq_getElem hne] at z
    have h5 := (List.getElem?_eq_some_iff.mp e).2
    exact hk3 (by rw [z, h5])
theorem Dfs.add {n t : Nat} (h : Dfs G ms td (some n)) (ht : t ∉ ms) (r : Reach G t) : Dfs G (ms ++ [t]) (td ++ [t]) (some n) := by
  refine ⟨List.mem_append_left _ h.z, ?_, fun k hk => ?_, fun k hk => ?_, ?_, fun k hk hk2 hk3 s hs => ?_⟩
  · rw [List.nodup_append]
    exact ⟨h.nd, by simp, fun a ha b hb e => ht (by rw [← List.mem_singleton.mp hb, ← e]; exact ha)⟩
  · rcases List.mem_append.mp hk with z | z
    · exact h.rc k z
    · rw [List.mem_singleton.mp z]; exact r
  · rcases List.mem_append.mp hk with z | z
    · exact List.mem_append_left _ (h.sub k z)
    · exact List.mem_append_right _ z
  · rw [List.nodup_append]
    exact ⟨h.tnd, by simp, fun a ha b hb e => ht (by rw [← List.mem_singleton.mp hb, ← e]; exact h.sub a ha)⟩
  · rcases List.mem_append.mp hk with z | z
    · exact List.mem_append_left _ (h.cl k z (fun q => hk2 (List.mem_append_left _ q)) hk3 s hs)
    · exact absurd (List.mem_append_right _ z) hk2
theorem Dfs.close {n : Nat} (h : Dfs G ms td (some n)) (c : ∀ s ∈ G.getD n [], s.2 ∈ ms) : Dfs G ms td none :=
  ⟨h.z, h.nd, h.rc, h.sub, h.tnd, fun k hk hk2 _ => by
    by_cases e : n = k
    · subst e; exact c
    · exact h.cl k hk hk2 fun z => e (by injection z)⟩
theorem Dfs.done (h : Dfs G ms [] none) (k : Nat) : k ∈ ms ↔ Reach G k := by
  refine ⟨h.rc k, fun r => ?_⟩
  induction r with
  | zero => exact h.z
  | step _ hs ih => exact h.cl _ ih (by simp) (by simp) _ hs
theorem Dfs.len {c : Option Nat} (v : Valid G) (h : Dfs G ms td c) : ms.length ≤ G.length := by
  have := nodup_le ms (List.range G.length) h.nd fun n hn => List.mem_range.mpr ((h.rc n hn).lt v)
  rwa [List.length_range] at this
theorem Dfs.tlen {c : Option Nat} (v : Valid G) (h : Dfs G ms td c) : td.length ≤ G.length := Nat.le_trans (nodup_le td ms h.tnd h.sub) (h.len v)
end
/-- the reached ones, in order -/
structure RO (G : List Rw) (order : List Nat) : Prop where
  ord : order.Pairwise (· < ·)
  mem : ∀ k, k ∈ order ↔ Reach G k
theorem ord_unique : ∀ {a b : List Nat}, a.Pairwise (· < ·) → b.Pairwise (· < ·) → (∀ k, k ∈ a ↔ k ∈ b) → a = b
  | [], [], _, _, _ => rfl
  | [], y :: b, _, _, h => absurd ((h y).mpr List.mem_cons_self) (by simp)
  | x :: a, [], _, _, h => absurd ((h x).mp List.mem_cons_self) (by simp)
  | x :: a, y :: b, ha, hb, h => by
    obtain ⟨ha1, ha2⟩ := List.pairwise_cons.mp ha
    obtain ⟨hb1, hb2⟩ := List.pairwise_cons.mp hb
    have e : x = y := by
      have h1 := (h x).mp List.mem_cons_self
      have h2 := (h y).mpr List.mem_cons_self
      rcases List.mem_cons.mp h1 with e | h1
      · exact e
      · rcases List.mem_cons.mp h2 with e | h2
        · exact e.symm
        · have := ha1 y h2
          have := hb1 x h1
          omega
    subst e
    refine congrArg (x :: ·) (ord_unique ha2 hb2 fun k => ⟨fun hk => ?_, fun hk => ?_⟩)
    · rcases List.mem_cons.mp ((h k).mp (List.mem_cons_of_mem _ hk)) with e | z
      · have := ha1 k hk; omega
      · exact z
    · rcases List.mem_cons.mp ((h k).mpr (List.mem_cons_of_mem _ hk)) with e | z
      · have := hb1 k hk; omega
      · exact z
theorem RO.unique {G : List Rw} {a b : List Nat} (ha : RO G a) (hb : RO G b) : a = b := ord_unique ha.ord hb.ord fun k => (ha.mem k).trans (hb.mem k).symm
/-! ### the dict of places -/
theorem valD_putD {kvs : List (D × D)} {k v y : D} : valD (putD kvs k v) y = if y = k then some v else valD kvs y := by
  unfold putD
  by_cases h : (kvs.any fun kv => decide (kv.1 = k)) = true
  · rw [if_pos h]
    induction kvs with
    | nil => cases h
    | cons q kvs ih =>
      unfold valD
      rw [List.map_cons, List.find?_cons, List.find?_cons]
      by_cases hq : q.1 = k
      · rw [if_pos hq]
        by_cases hy : y = k
        · subst hy; simp [hq]
        · have h1 : ¬ q.1 = y := fun e => hy (by rw [← e, hq])
          simp only [h1, decide_false, if_neg hy]
          clear ih h
          induction kvs with
          | nil => rfl
          | cons p kvs ih =>
            rw [List.map_cons, List.find?_cons, List.find?_cons]
            by_cases hp : p.1 = k
            · rw [if_pos hp]
              have h2 : ¬ p.1 = y := fun e => hy (by rw [← e, hp])
              simp only [h2, decide_false]
              exact ih
            · rw [if_neg hp]
              by_cases h2 : p.1 = y
              · simp [h2]
              · simp only [h2, decide_false]
                exact ih
      · rw [if_neg hq]
        have h' : (kvs.any fun kv => decide (kv.1 = k)) = true := by simpa [hq] using h
        by_cases h2 : q.1 = y
        · have : ¬ y = k := fun e => hq (by rw [h2, e])
          simp [h2, this]
        · simp only [h2, decide_false]
          exact ih h'
  · rw [if_neg h]
    unfold valD
    rw [List.find?_append]
    by_cases hy : y = k
    · subst hy
      rw [if_pos rfl]
      have : kvs.find? (fun kv => decide (kv.1 = y)) = none := by
        rw [List.find?_eq_none]
        intro x hx hd
        exact h (List.any_eq_true.mpr ⟨x, hx, hd⟩)
      rw [this]; simp
    · rw [if_neg hy]
      have : ¬ k = y := fun e => hy e.symm
      cases kvs.find? (fun kv => decide (kv.1 = y)) <;> simp [this]
theorem putD_len {kvs : List (D × D)} {k v : D} : (putD kvs k v).length ≤ kvs.length + 1 := by
  unfold putD
  split <;> simp
end L49

set_option Elab.async false
set_option linter.all false
set_option maxRecDepth 100000
set_option maxHeartbeats 4000000
namespace L49
open PySem PySem.Spec PyProof.Rows L2 DL
section
variable {P : Program} {w : World} {K : PySem.W.Frag} {mg : Str → Option Value} {base : Heap}
/-- the rows of those that are reached, numbered anew -/
def Trim (G out : List Rw) : Prop := ∃ order, RO G order ∧ out = order.map fun s => (G.getD s []).map fun p => (p.1, order.idxOf p.2)
def spTrimmed : DSp := fun ds A Q => ∃ a G, ds = [.ref a] ∧ A a = some (.lst (G.map rowD)) ∧ Valid G ∧ G.length < 60 ∧ (∀ r ∈ G, r.length ≤ 1000) ∧ ∀ out A', Trim G out → Ext A A' → Q (.tup (out.map rowD)) A'
structure TrS (w : World) (A0 : DA) (pM pT : Addr) (G : List Rw) (ms td : List Nat) (cur : Option Nat) (A : DA) : Prop where
  ex : Ext A0 A
  hd : ∃ S : Int → Bool, (∀ k, S k = true ↔ ∃ n ∈ ms, k = ((n : Nat) : Int)) ∧ Holds A [(pT, .lst (td.map fun n : Nat => D.int n)), (pM, .si w S ms.length)]
  dfs : Dfs G ms td cur
theorem getD_row {G : List Rw} {n : Nat} (h : n < G.length) : (G.map rowD)[n]? = some (rowD (G.getD n [])) := by
  rw [List.getElem?_map, List.getD_eq_getElem?_getD, List.getElem?_eq_getElem h]; rfl
theorem order_of {G : List Rw} {ns : List Int} {ms : List Nat} {S : Int → Bool} (h1 : ns.Pairwise (· < ·)) (h2 : ∀ k : Int, k ∈ ns ↔ S k = true) (hS : ∀ k, S k = true ↔ ∃ n ∈ ms, k = ((n : Nat) : Int)) (hm : ∀ k, k ∈ ms ↔ Reach G k) : ∃ order : List Nat, ns = order.map (fun n : Nat => (n : Int)) ∧ RO G order := by
  have nn : ∀ k ∈ ns, 0 ≤ k := fun k hk => by
    obtain ⟨n, _, e⟩ := (hS k).mp ((h2 k).mp hk)
    omega
  refine ⟨ns.map Int.toNat, ?_, ?_, fun k => ?_⟩
  · rw [List.map_map]
    have : ∀ k ∈ ns, ((fun n : Nat => (n : Int)) ∘ Int.toNat) k = k := fun k hk => by
      show ((k.toNat : Nat) : Int) = k
      have := nn k hk
      omega
    rw [List.map_congr_left this, List.map_id']
  · rw [List.pairwise_map]
    refine List.Pairwise.imp_of_mem (fun {a b} ha hb h => ?_) h1
    have := nn a ha
    have := nn b hb
    omega
  · rw [← hm k]
    constructor
    · intro hk
      obtain ⟨i, hi, e⟩ := List.mem_map.mp hk
      obtain ⟨n, hn, e2⟩ := (hS i).mp ((h2 i).mp hi)
      have : n = k := by omega
      rw [← this]; exact hn
    · intro hk
      exact List.mem_map.mpr ⟨(k : Int), (h2 _).mpr ((hS _).mpr ⟨k, hk, rfl⟩), by omega⟩
theorem idx_at {order : List Nat} (h : order.Pairwise (· < ·)) {j d : Nat} (e : order[j]? = some d) : order.idxOf d = j := by
  have nd : order.Nodup := List.Pairwise.imp (S := fun a b => a ≠ b) (fun {a b} (h : a < b) (e : a = b) => by omega) h
  have hm : d ∈ order := List.mem_of_getElem? e
  have hl := List.idxOf_lt_length_of_mem hm
  have e2 : order[order.idxOf d]? = some d := by rw [List.getElem?_eq_getElem hl, List.getElem_idxOf hl]
  exact (List.getElem?_inj hl nd).mp (e2.trans e.symm)
theorem trimmed_end {a pM pT : Addr} {A A3 : DA} {G : List Rw} {ms : List Nat} {x3 x4 x5 x6 x7 x8 x9 : Option D} {Q : DK} (hG : A a = some (.lst (G.map rowD))) (v : Valid G) (hn : G.length < 60) (hlen : ∀ r ∈ G, r.length ≤ 1000) (tr : TrS w A pM pT G ms [] none A3)
    (q : ∀ out A', Trim G out → Ext A A' → Q (.tup (out.map rowD)) A') : u_trimmed_1 K w (endsF Q) [some (.ref a), some (.ref pM), some (.ref pT), x3, x4, x5, x6, x7, x8, x9] A3 := by
  obtain ⟨S, hS, hA⟩ := tr.hd
  unfold u_trimmed_1
  try dsimp only [qSeq, qIfS, qAnd, qOr, qNot, qTest, qOp, qCB, qCX, qCons, qNil, qC, qPut, qMt, qSet, qRet, qRetN, qDrop, qNext, qAndV, qOrV, qNotV, qIf, qChain, qTup, qLst, qSl, qPart, qNoPart, qAsg, qTru, qNeg, qRaise, qDropX, qBreak, qCont, qFor_eq, qLc_eq, qDc_eq, qiSeq, qiRange1, qiRange2, qiEnum, rII0, rII, CDiv, CMul, CPow, rAbs, rInt, rStrI, qTg, Tg.put, putsV, qYes, wipeD, qDisp, qPairs, qDNew]
  refine qVar_some rfl ?_
  refine .inr (.inl ⟨pM, S, _, rfl, hA.get 1, by have := tr.dfs.len v; omega, fun ns p A4 h1 h2 h3 n4 => ?_⟩)
  obtain ⟨order, rfl, ro⟩ := order_of h1 h2 hS tr.dfs.done
  have e4 : Ext A A4 := tr.ex.trans n4.ex
  have hol : order.length < 60 := by
    rw [List.length_map] at h3
    have := tr.dfs.len v
    omega
  have it4 : items? A4 (.ref p) = some (order.map fun n : Nat => D.int n) := by
    have := items_lst n4.get
    rw [List.map_map] at this
    exact this
  try dsimp only [qSeq, qIfS, qAnd, qOr, qNot, qTest, qOp, qCB, qCX, qCons, qNil, qC, qPut, qMt, qSet, qRet, qRetN, qDrop, qNext, qAndV, qOrV, qNotV, qIf, qChain, qTup, qLst, qSl, qPart, qNoPart, qAsg, qTru, qNeg, qRaise, qDropX, qBreak, qCont, qFor_eq, qLc_eq, qDc_eq, qiSeq, qiRange1, qiRange2, qiEnum, rII0, rII, CDiv, CMul, CPow, rAbs, rInt, rStrI, qTg, Tg.put, putsV, qYes, wipeD, qDisp, qPairs, qDNew]
  refine qVar_some rfl ?_
  refine ⟨p, _, rfl, it4, ?_⟩
  have itat : ∀ i A', Ext A4 A' → i ≤ order.length → ∃ xs, items? A' (.ref p) = some xs ∧ (if i < order.length then some (D.tup [.int (i : Nat), .int (order.getD i 0 : Nat)]) else none) = (xs[i]?).map fun d => .tup [.int (i : Nat), d] := fun i A' e hi => by
    refine ⟨_, items_ext e it4, ?_⟩
    by_cases h : i < order.length
    · rw [if_pos h, List.getElem?_map, List.getD_eq_getElem?_getD, List.getElem?_eq_getElem h]; rfl
    · rw [if_neg h, List.getElem?_map, List.getElem?_eq_none (by omega)]; rfl
  refine dcB_n order.length (fun i => .tup [.int (i : Nat), .int (order.getD i 0 : Nat)]) (fun C i A' => Ext A4 A' ∧ A4 C = none ∧ ∃ kvs, A' C = some (.dk kvs) ∧ kvs.length ≤ i ∧ ∀ j d, j < i → order[j]? = some d → valD kvs (.int (d : Nat)) = some (.int (j : Nat))) (fun C A2 n => ⟨n.ex, n.free, [], n.get, Nat.zero_le _, fun j d h => absurd h (Nat.not_lt_zero _)⟩) (fun C i A' hi ⟨e, _⟩ => itat i A' e hi) (fun C A5 ⟨e5, f5, kvs, hC, _, hk⟩ => ?_) fun C i A5 hi ⟨e5, f5, kvs, hC, hl, hk⟩ => ?_
  · -- the rows
    have e45 : Ext A A5 := e4.trans e5
    try dsimp only [qSeq, qIfS, qAnd, qOr, qNot, qTest, qOp, qCB, qCX, qCons, qNil, qC, qPut, qMt, qSet, qRet, qRetN, qDrop, qNext, qAndV, qOrV, qNotV, qIf, qChain, qTup, qLst, qSl, qPart, qNoPart, qAsg, qTru, qNeg, qRaise, qDropX, qBreak, qCont, qFor_eq, qLc_eq, qDc_eq, qiSeq, qiRange1, qiRange2, qiEnum, rII0, rII, CDiv, CMul, CPow, rAbs, rInt, rStrI, qTg, Tg.put, putsV, qYes, wipeD, qDisp, qPairs, qDNew]
    refine qVar_some rfl ?_
    refine ⟨⟨_, items_ext e5 it4⟩, ?_⟩
    have itat2 : ∀ i A', i ≤ order.length → Ext A5 A' → jSeq (.ref p) i A' (if i < order.length then some (D.int (order.getD i 0 : Nat)) else none) := fun i A' hi e => by
      refine ⟨_, items_ext (e5.trans e) it4, ?_⟩
      by_cases h : i < order.length
      · rw [if_pos h, List.getElem?_map, List.getD_eq_getElem?_getD, List.getElem?_eq_getElem h]; rfl
      · rw [if_neg h, List.getElem?_map, List.getElem?_eq_none (by omega)]; rfl
    refine lcB_ext order.length (fun i => .int (order.getD i 0 : Nat)) (fun i y => ∃ s : Nat, order[i]? = some s ∧ y = rowD ((G.getD s []).map fun p => (p.1, order.idxOf p.2))) itat2 (szt (by omega)) (fun p6 A6 ys g1 g2 e6 _ g3 => ?_) fun i A6 Ky hi e6 k6 => ?_
    · refine ⟨_, _, rfl, items_lst g3, ?_⟩
      have : ys = (order.map fun s => (G.getD s []).map fun p => (p.1, order.idxOf p.2)).map rowD := by
        rw [List.map_map]
        apply List.ext_getElem?
        intro i
        rw [List.getElem?_map]
        cases e : ys[i]? with
        | none =>
          rw [List.getElem?_eq_none_iff] at e
          rw [List.getElem?_eq_none (by omega)]; rfl
        | some y =>
          obtain ⟨s, hs, rfl⟩ := g2 i y e
          rw [hs]; rfl
      rw [this]
      exact q _ A6 ⟨order, ro, rfl⟩ (e45.trans e6)
    · have ho : order[i]? = some (order.getD i 0) := by rw [List.getD_eq_getElem?_getD, List.getElem?_eq_getElem hi]; rfl
      generalize order.getD i 0 = s at ho
      have hs : Reach G s := (ro.mem s).mp (List.mem_of_getElem? ho)
      have hslt := hs.lt v
      try dsimp only [qSeq, qIfS, qAnd, qOr, qNot, qTest, qOp, qCB, qCX, qCons, qNil, qC, qPut, qMt, qSet, qRet, qRetN, qDrop, qNext, qAndV, qOrV, qNotV, qIf, qChain, qTup, qLst, qSl, qPart, qNoPart, qAsg, qTru, qNeg, qRaise, qDropX, qBreak, qCont, qFor_eq, qLc_eq, qDc_eq, qiSeq, qiRange1, qiRange2, qiEnum, rII0, rII, CDiv, CMul, CPow, rAbs, rInt, rStrI, qTg, Tg.put, putsV, qYes, wipeD, qDisp, qPairs, qDNew]
      refine qVar_some rfl ?_
      refine qVar_some rfl ?_
      refine x_ix_lst (e6 _ _ (e45 _ _ hG)) (atI_nat s (getD_row hslt)) ⟨⟨_, rfl⟩, ?_⟩
      have hrl : (G.getD s []).length ≤ 1000 := by
        rw [List.getD_eq_getElem?_getD, List.getElem?_eq_getElem hslt]
        exact hlen _ (List.getElem_mem _)
      refine lcB_map (fun d => match d with | .tup [l, .int t] => .tup [l, .int (order.idxOf t.toNat : Nat)] | d => d) (xs := (G.getD s []).map stepD) rfl (szt (by rw [List.length_map]; omega)) (fun p7 A7 n7 => ?_) fun d A7 Ky7 hd e7 k7 => ?_
      · refine ⟨_, _, rfl, items_lst n7.get, ?_⟩
        refine k6 _ _ ⟨s, ho, ?_⟩ n7.ex
        unfold rowD
        rw [List.map_map, List.map_map]
        rfl
      · obtain ⟨⟨l, t⟩, hst, rfl⟩ := List.mem_map.mp hd
        dsimp only [stepD]
        refine x_tg2 ?_
        try dsimp only [qSeq, qIfS, qAnd, qOr, qNot, qTest, qOp, qCB, qCX, qCons, qNil, qC, qPut, qMt, qSet, qRet, qRetN, qDrop, qNext, qAndV, qOrV, qNotV, qIf, qChain, qTup, qLst, qSl, qPart, qNoPart, qAsg, qTru, qNeg, qRaise, qDropX, qBreak, qCont, qFor_eq, qLc_eq, qDc_eq, qiSeq, qiRange1, qiRange2, qiEnum, rII0, rII, CDiv, CMul, CPow, rAbs, rInt, rStrI, qTg, Tg.put, putsV, qYes, wipeD, qDisp, qPairs, qDNew]
        refine qVar_some rfl ?_
        refine qVar_some rfl ?_
        refine qVar_some rfl ?_
        have ht : t ∈ order := (ro.mem t).mpr (.step hs hst)
        obtain ⟨j, hj⟩ := List.getElem?_of_mem ht
        have hjl := (List.getElem?_eq_some_iff.mp hj).1
        have hv := hk j t hjl hj
        refine x_ix_dk (e7 _ _ (e6 _ _ hC)) hv rfl ⟨sz rfl, ?_⟩
        rw [← idx_at ro.ord hj]
        exact k7
  · have ho : order[i]? = some (order.getD i 0) := by rw [List.getD_eq_getElem?_getD, List.getElem?_eq_getElem hi]; rfl
    generalize order.getD i 0 = s at ho
    refine x_tg2 ?_
    try dsimp only [qSeq, qIfS, qAnd, qOr, qNot, qTest, qOp, qCB, qCX, qCons, qNil, qC, qPut, qMt, qSet, qRet, qRetN, qDrop, qNext, qAndV, qOrV, qNotV, qIf, qChain, qTup, qLst, qSl, qPart, qNoPart, qAsg, qTru, qNeg, qRaise, qDropX, qBreak, qCont, qFor_eq, qLc_eq, qDc_eq, qiSeq, qiRange1, qiRange2, qiEnum, rII0, rII, CDiv, CMul, CPow, rAbs, rInt, rStrI, qTg, Tg.put, putsV, qYes, wipeD, qDisp, qPairs, qDNew]
    rw [if_pos rfl]
    refine qVar_some rfl ?_
    refine qVar_some rfl ?_
    refine ⟨kvs, hC, rfl, szt (by omega), fun A6 p6 => ⟨ExtBut.to f5 e5 (.put p6), f5, _, p6.get, Nat.le_trans putD_len (by omega), fun j d hj hd => ?_⟩⟩
    rw [valD_putD]
    by_cases e : j = i
    · subst e
      rw [ho] at hd
      cases hd
      rw [if_pos rfl]
    · have hne : d ≠ s := fun z => by
        subst z
        have h1 := idx_at ro.ord hd
        have h2 := idx_at ro.ord ho
        omega
      rw [if_neg (fun z => hne (by injection z with z; omega))]
      exact hk j d (by omega) hd
theorem ok_trimmed (T : Top K mg) : DFn P w K mg base 1 (He.ga K "trimmed") (fdO K (He.ga K "trimmed")) ["rows"] spTrimmed := by
  refine dfun_ok T.d_trimmed sc_trimmed (fun ds A Q ⟨_, _, h, _⟩ => by rw [h]; rfl) (b_trimmed T) fun ds A Q ⟨a, G, hd, hG, v, hn, hlen, q⟩ => ?_
  subst hd
  unfold t_trimmed
  try dsimp only [qSeq, qIfS, qAnd, qOr, qNot, qTest, qOp, qCB, qCX, qCons, qNil, qC, qPut, qMt, qSet, qRet, qRetN, qDrop, qNext, qAndV, qOrV, qNotV, qIf, qChain, qTup, qLst, qSl, qPart, qNoPart, qAsg, qTru, qNeg, qRaise, qDropX, qBreak, qCont, qFor_eq, qLc_eq, qDc_eq, qiSeq, qiRange1, qiRange2, qiEnum, rII0, rII, CDiv, CMul, CPow, rAbs, rInt, rStrI, qTg, Tg.put, putsV, qYes, wipeD, qDisp, qPairs, qDNew]
  intro pM A1 n1
  refine ⟨sz rfl, fun pT A2 n2 => ?_⟩
  have fM : A pM = none := n1.free
  have fT : A pT = none := by
    cases e : A pT with
    | none => rfl
    | some o => have := n1.ext e; rw [n2.free] at this; cases this
  have h0 : Holds A2 [(pT, .lst ([0].map fun n : Nat => D.int n)), (pM, .si w (fun j => decide (j = 0)) 1)] := ((Holds.nil A).new n1).new n2
  refine ⟨fun m τ A' => ∃ ms td x3 x4 x5 x6 x7 x8 x9, τ = [some (.ref a), some (.ref pM), some (.ref pT), x3, x4, x5, x6, x7, x8, x9] ∧ TrS w A pM pT G ms td none A' ∧ m = 2 * (G.length - ms.length) + td.length, ⟨_, [0], [0], _, _, _, _, _, _, _, rfl, ⟨n1.ex.trans n2.ex, ⟨_, fun k => ?_, h0⟩, .start⟩, rfl⟩, ?_⟩
  · simp
  rintro m τ A3 ⟨ms, td, x3, x4, x5, x6, x7, x8, x9, rfl, tr, rfl⟩
  obtain ⟨S, hS, hA⟩ := tr.hd
  try dsimp only [qSeq, qIfS, qAnd, qOr, qNot, qTest, qOp, qCB, qCX, qCons, qNil, qC, qPut, qMt, qSet, qRet, qRetN, qDrop, qNext, qAndV, qOrV, qNotV, qIf, qChain, qTup, qLst, qSl, qPart, qNoPart, qAsg, qTru, qNeg, qRaise, qDropX, qBreak, qCont, qFor_eq, qLc_eq, qDc_eq, qiSeq, qiRange1, qiRange2, qiEnum, rII0, rII, CDiv, CMul, CPow, rAbs, rInt, rStrI, qTg, Tg.put, putsV, qYes, wipeD, qDisp, qPairs, qDNew]
  refine qVar_some rfl ?_
  have et : truS A3 (.ref pT) = some (!(td.map fun n : Nat => D.int n).isEmpty) := by
    simp only [truS, hA.get 0]
  rw [et]
  try dsimp only [qSeq, qIfS, qAnd, qOr, qNot, qTest, qOp, qCB, qCX, qCons, qNil, qC, qPut, qMt, qSet, qRet, qRetN, qDrop, qNext, qAndV, qOrV, qNotV, qIf, qChain, qTup, qLst, qSl, qPart, qNoPart, qAsg, qTru, qNeg, qRaise, qDropX, qBreak, qCont, qFor_eq, qLc_eq, qDc_eq, qiSeq, qiRange1, qiRange2, qiEnum, rII0, rII, CDiv, CMul, CPow, rAbs, rInt, rStrI, qTg, Tg.put, putsV, qYes, wipeD, qDisp, qPairs, qDNew]
  cases td with
  | nil =>
    refine x_ifF rfl ?_
    exact trimmed_end hG v hn hlen tr q
  | cons t0 td0 =>
    refine x_ifT rfl ?_
    have hTlen : (t0 :: td0).length ≤ G.length := tr.dfs.tlen v
    obtain ⟨n, hn'⟩ : ∃ n, (t0 :: td0)[(t0 :: td0).length - 1]? = some n := ⟨_, List.getElem?_eq_getElem (by simp)⟩
    obtain ⟨d1, hnm⟩ := tr.dfs.pop hn'
    have hnlt : n < G.length := (tr.dfs.rc n hnm).lt v
    refine ⟨fun τ' A' => ∃ ms' td' x3 x4 x5 x6 x7 x8 x9, τ' = [some (.ref a), some (.ref pM), some (.ref pT), x3, x4, x5, x6, x7, x8, x9] ∧ TrS w A pM pT G ms' td' none A' ∧ 2 * (G.length - ms'.length) + td'.length < 2 * (G.length - ms.length) + (t0 :: td0).length, ?_, ?_⟩
    · rintro τ' A' ⟨ms', td', y3, y4, y5, y6, y7, y8, y9, rfl, tr', hlt⟩
      exact ⟨_, hlt, ms', td', _, _, _, _, _, _, _, rfl, tr', rfl⟩
    generalize htd : t0 :: td0 = td at *
    refine qVar_some rfl ?_
    refine qVar_some rfl ?_
    refine ⟨pT, _, rfl, hA.get 0, ?_⟩
    refine ⟨td.map fun n : Nat => D.int n, .int n, rfl, hA.get 0, by rw [List.length_map, List.getElem?_map, hn']; rfl, fun A4 p4 => ?_⟩
    have hB := hA.put 0 p4
    rw [← List.map_dropLast] at hB
    have ex4 : Ext A A4 := ExtBut.to fT tr.ex (.put p4)
    refine x_ix_lst (ex4 _ _ hG) (atI_nat n (getD_row hnlt)) ?_
    refine ⟨⟨_, rfl⟩, ?_⟩
    have hrow : ∀ s ∈ G.getD n [], s.2 < G.length := fun s hs => v.at_ hs
    have hreach := tr.dfs.rc n hnm
    have hr1 : ∀ s ∈ G.getD n [], Reach G s.2 := fun s hs => .step hreach hs
    have hmem : ∀ (i : Nat) (s : D × Nat), (G.getD n [])[i]? = some s → s ∈ G.getD n [] := fun i s h => List.mem_of_getElem? h
    have tdl : td.dropLast.length + 1 = td.length := by
      rw [List.length_dropLast]
      have : 0 < td.length := by rw [← htd]; simp
      omega
    refine forB_seq ((G.getD n []).map stepD) (fun i τ' A' => ∃ ms' td' x3 x4 x5 x6 x7 x8 x9, τ' = [some (.ref a), some (.ref pM), some (.ref pT), x3, x4, x5, x6, x7, x8, x9] ∧ TrS w A pM pT G ms' td' (some n) A' ∧ 2 * (G.length - ms'.length) + td'.length < 2 * (G.length - ms.length) + td.length ∧ ∀ j s, j < i → (G.getD n [])[j]? = some s → s.2 ∈ ms') ⟨ms, td.dropLast, _, _, _, _, _, _, _, rfl, ⟨ex4, ⟨S, hS, hB⟩, d1⟩, by omega, fun j s h => absurd h (Nat.not_lt_zero _)⟩ (fun _ _ _ _ => rfl) (fun τ' A' ⟨ms', td', y3, y4, y5, y6, y7, y8, y9, e, tr', hlt, hall⟩ => ?_) fun i d τ' A' hd ⟨ms', td', y3, y4, y5, y6, y7, y8, y9, e, tr', hlt, hall⟩ => ?_
    · refine ⟨ms', td', y3, y4, y5, y6, y7, y8, y9, e, ⟨tr'.ex, tr'.hd, tr'.dfs.close fun s hs => ?_⟩, hlt⟩
      obtain ⟨j, hj⟩ := List.getElem?_of_mem hs
      exact hall j s (by rw [List.length_map]; exact (List.getElem?_eq_some_iff.mp hj).1) hj
    · subst e
      rw [List.getElem?_map] at hd
      cases hs : (G.getD n [])[i]? with
      | none => rw [hs] at hd; cases hd
      | some s =>
        rw [hs] at hd
        cases hd
        obtain ⟨S', hS', hC⟩ := tr'.hd
        obtain ⟨l, t⟩ := s
        dsimp only [stepD]
        refine x_tg2 ?_
        try dsimp only [qSeq, qIfS, qAnd, qOr, qNot, qTest, qOp, qCB, qCX, qCons, qNil, qC, qPut, qMt, qSet, qRet, qRetN, qDrop, qNext, qAndV, qOrV, qNotV, qIf, qChain, qTup, qLst, qSl, qPart, qNoPart, qAsg, qTru, qNeg, qRaise, qDropX, qBreak, qCont, qFor_eq, qLc_eq, qDc_eq, qiSeq, qiRange1, qiRange2, qiEnum, rII0, rII, CDiv, CMul, CPow, rAbs, rInt, rStrI, qTg, Tg.put, putsV, qYes, wipeD, qDisp, qPairs, qDNew]
        refine qVar_some rfl ?_
        refine qVar_some rfl ?_
        refine .inr ⟨t, pM, S', _, rfl, rfl, hC.get 1, ?_⟩
        show if (!(S' t)) = true then _ else _
        have hrt := hr1 _ (hmem i _ hs)
        cases hSt : S' t with
        | true =>
          refine x_ifF rfl ?_
          have : t ∈ ms' := by
            obtain ⟨k, hk, e⟩ := (hS' t).mp hSt
            have : t = k := by omega
            rw [this]; exact hk
          refine ⟨ms', td', _, _, _, _, _, _, _, rfl, ⟨tr'.ex, ⟨S', hS', hC⟩, tr'.dfs⟩, hlt, fun j s hj hjs => ?_⟩
          by_cases e : j = i
          · subst e; rw [hs] at hjs; cases hjs; exact this
          · exact hall j s (by omega) hjs
        | false =>
          refine x_ifT rfl ?_
          have hnot : t ∉ ms' := fun hm => by
            have := (hS' t).mpr ⟨t, hm, rfl⟩
            rw [hSt] at this; cases this
          have d2 := tr'.dfs.add hnot hrt
          have hl2 := d2.len v
          have hl3 := d2.tlen v
          rw [List.length_append, List.length_singleton] at hl2 hl3
          dsimp only [qSAdd]
          refine qVar_some rfl ?_
          refine ⟨pM, S', _, rfl, hC.get 1, ?_⟩
          refine qVar_some rfl ?_
          refine ⟨t, S', _, rfl, hC.get 1, by unfold scanBound; omega, fun A5 p5 => ?_⟩
          have hD := hC.put 1 p5
          try dsimp only [qSeq, qIfS, qAnd, qOr, qNot, qTest, qOp, qCB, qCX, qCons, qNil, qC, qPut, qMt, qSet, qRet, qRetN, qDrop, qNext, qAndV, qOrV, qNotV, qIf, qChain, qTup, qLst, qSl, qPart, qNoPart, qAsg, qTru, qNeg, qRaise, qDropX, qBreak, qCont, qFor_eq, qLc_eq, qDc_eq, qiSeq, qiRange1, qiRange2, qiEnum, rII0, rII, CDiv, CMul, CPow, rAbs, rInt, rStrI, qTg, Tg.put, putsV, qYes, wipeD, qDisp, qPairs, qDNew]
          refine qVar_some rfl ?_
          refine ⟨pT, _, rfl, hD.get 0, ?_⟩
          refine qVar_some rfl ?_
          refine ⟨_, _, rfl, hD.get 0, szt (by rw [List.length_map]; omega), fun A6 p6 => ?_⟩
          have hE := hD.put 0 p6
          have ex6 : Ext A A6 := ExtBut.to fT (ExtBut.to fM tr'.ex (.put p5)) (.put p6)
          refine ⟨ms' ++ [t], td' ++ [t], _, _, _, _, _, _, _, rfl, ⟨ex6, ⟨fun j => S' j || decide (j = (t : Int)), fun k => ?_, ?_⟩, d2⟩, by rw [List.length_append, List.length_append, List.length_singleton]; omega, fun j s hj hjs => ?_⟩
          · show (S' k || decide (k = (t : Int))) = true ↔ _
            rw [Bool.or_eq_true, decide_eq_true_eq, hS']
            constructor
            · rintro (⟨n, hn, e⟩ | e)
              · exact ⟨n, List.mem_append_left _ hn, e⟩
              · exact ⟨t, List.mem_append_right _ (List.mem_singleton.mpr rfl), e⟩
            · rintro ⟨n, hn, e⟩
              rcases List.mem_append.mp hn with z | z
              · exact .inl ⟨n, z, e⟩
              · rw [List.mem_singleton] at z
                exact .inr (by rw [e, z])
          · rw [List.map_append, List.length_append]
            simpa [hSt] using hE
          · by_cases e : j = i
            · subst e; rw [hs] at hjs; cases hjs; exact List.mem_append_right _ (List.mem_singleton.mpr rfl)
            · exact List.mem_append_left _ (hall j s (by omega) hjs)
end
end L49

set_option Elab.async false
set_option linter.all false
set_option maxRecDepth 100000
set_option maxHeartbeats 4000000
namespace L49
open PySem PySem.Spec PyProof.Rows L2 DL
section
variable {P : Program} {w : World} {K : PySem.W.Frag} {mg : Str → Option Value} {base : Heap}
def spReached : DSp := fun ds A Q => ∃ a ps G, ds = [.ref a] ∧ A a = some (.lst (ps.map D.ref)) ∧ RowsAt A ps G ∧ Valid G ∧ G.length < 60 ∧ ∀ p order A', RO G order → Ext A A' → A p = none → A' p = some (.lst (order.map fun n : Nat => D.int n)) → Q (.ref p) A'
/-- the marks -/
def mb (N : Nat) (ms : List Nat) : List D := (List.range N).map fun k => .bl (decide (k ∈ ms))
theorem mb_len {N : Nat} {ms : List Nat} : (mb N ms).length = N := by unfold mb; simp
theorem mb_get {N : Nat} {ms : List Nat} {t : Nat} (h : t < N) : (mb N ms)[t]? = some (.bl (decide (t ∈ ms))) := by
  unfold mb
  rw [List.getElem?_map, List.getElem?_range h]; rfl
theorem mb_set {N : Nat} {ms : List Nat} {t : Nat} : (mb N ms).set t (.bl true) = mb N (ms ++ [t]) := by
  apply List.ext_getElem?
  intro j
  by_cases hj : j < N
  · rw [mb_get hj]
    by_cases e : t = j
    · subst e
      rw [List.getElem?_set_self (by rw [mb_len]; exact hj)]
      simp
    · rw [List.getElem?_set_ne e, mb_get hj]
      have : ¬ j = t := fun z => e z.symm
      simp [this]
  · rw [List.getElem?_eq_none (by rw [List.length_set, mb_len]; omega), List.getElem?_eq_none (by rw [mb_len]; omega)]
structure LrS (A0 : DA) (pM pT : Addr) (G : List Rw) (ms td : List Nat) (cur : Option Nat) (A : DA) : Prop where
  ex : Ext A0 A
  hd : Holds A [(pM, .lst (mb G.length ms)), (pT, .lst (td.map fun n : Nat => D.int n))]
  dfs : Dfs G ms td cur
theorem reached_end {a pM pT : Addr} {A A3 : DA} {ps : List Addr} {G : List Rw} {ms : List Nat} {x3 x4 : Option D} {Q : DK} (ha : A a = some (.lst (ps.map D.ref))) (hl : ps.length = G.length) (v : Valid G) (hn : G.length < 60) (tr : LrS A pM pT G ms [] none A3)
    (q : ∀ p order A', RO G order → Ext A A' → A p = none → A' p = some (.lst (order.map fun n : Nat => D.int n)) → Q (.ref p) A') : u_l_reached_1 K w (endsF Q) [some (.ref a), some (.ref pT), some (.ref pM), x3, x4] A3 := by
  unfold u_l_reached_1
  try dsimp only [qSeq, qIfS, qAnd, qOr, qNot, qTest, qOp, qCB, qCX, qCons, qNil, qC, qPut, qMt, qSet, qRet, qRetN, qDrop, qNext, qAndV, qOrV, qNotV, qIf, qChain, qTup, qLst, qSl, qPart, qNoPart, qAsg, qTru, qNeg, qRaise, qDropX, qBreak, qCont, qFor_eq, qLc_eq, qDc_eq, qiSeq, qiRange1, qiRange2, qiEnum, rII0, rII, CDiv, CMul, CPow, rAbs, rInt, rStrI, qTg, Tg.put, putsV, qYes, wipeD, qDisp, qPairs, qDNew]
  refine qVar_some rfl ?_
  refine x_len_lst (tr.ex _ _ ha) ?_
  rw [List.length_map, hl]
  try dsimp only [qSeq, qIfS, qAnd, qOr, qNot, qTest, qOp, qCB, qCX, qCons, qNil, qC, qPut, qMt, qSet, qRet, qRetN, qDrop, qNext, qAndV, qOrV, qNotV, qIf, qChain, qTup, qLst, qSl, qPart, qNoPart, qAsg, qTru, qNeg, qRaise, qDropX, qBreak, qCont, qFor_eq, qLc_eq, qDc_eq, qiSeq, qiRange1, qiRange2, qiEnum, rII0, rII, CDiv, CMul, CPow, rAbs, rInt, rStrI, qTg, Tg.put, putsV, qYes, wipeD, qDisp, qPairs, qDNew]
  refine ⟨by omega, by omega, ?_⟩
  rw [Int.toNat_natCast]
  refine lcB_pure G.length (fun i => .int (0 + (i : Nat))) (fun i => if i ∈ ms then some (.int (0 + (i : Nat))) else none) (fun i A' hi e => rfl) (szt (by omega)) (fun p A4 n4 => ?_) fun i A4 Ky Kn hi e k1 k2 => ?_
  · have e1 : (List.range G.length).filterMap (fun i => if i ∈ ms then some (D.int (0 + (i : Nat))) else none) = ((List.range G.length).filter fun i => decide (i ∈ ms)).map fun n : Nat => D.int n := by
      rw [← List.filterMap_eq_map, List.filterMap_filter]
      congr 1
      funext i
      by_cases h : i ∈ ms
      · simp [h]
      · simp [h]
    rw [e1] at n4
    refine q p _ A4 ⟨?_, fun k => ?_⟩ (tr.ex.trans n4.ex) ?_ n4.get
    · exact List.Pairwise.filter _ List.pairwise_lt_range
    · rw [List.mem_filter, List.mem_range, decide_eq_true_eq, tr.dfs.done k]
      exact ⟨fun h => h.2, fun h => ⟨h.lt v, h⟩⟩
    · cases e2 : A p with
      | none => rfl
      | some o => have := tr.ex _ _ e2; rw [n4.free] at this; cases this
  · try dsimp only [qSeq, qIfS, qAnd, qOr, qNot, qTest, qOp, qCB, qCX, qCons, qNil, qC, qPut, qMt, qSet, qRet, qRetN, qDrop, qNext, qAndV, qOrV, qNotV, qIf, qChain, qTup, qLst, qSl, qPart, qNoPart, qAsg, qTru, qNeg, qRaise, qDropX, qBreak, qCont, qFor_eq, qLc_eq, qDc_eq, qiSeq, qiRange1, qiRange2, qiEnum, rII0, rII, CDiv, CMul, CPow, rAbs, rInt, rStrI, qTg, Tg.put, putsV, qYes, wipeD, qDisp, qPairs, qDNew]
    refine qVar_some rfl ?_
    refine qVar_some rfl ?_
    have e0 : (0 + (i : Int)) = (i : Int) := by omega
    have h1 : atI (mb G.length ms) (0 + (i : Int)) = some (.bl (decide (i ∈ ms))) := by rw [e0]; exact atI_nat i (mb_get hi)
    refine x_ix_lst (e _ _ (tr.hd.get 0)) h1 ?_
    show if decide (i ∈ ms) = true then _ else _
    refine x_ifd (fun c => ?_) fun c => ?_
    · refine qVar_some rfl ?_
      exact k1 _ (if_pos c)
    · exact k2 (if_neg c)
theorem ok_reached (T : Top K mg) : DFn P w K mg base 1 (He.ga K "_law_reached") (fdO K (He.ga K "_law_reached")) ["rows"] spReached := by
  refine dfun_ok T.d__law_reached sc_l_reached (fun ds A Q ⟨_, _, _, h, _⟩ => by rw [h]; rfl) (b_l_reached T) fun ds A Q ⟨a, ps, G, hd, ha, hrs, v, hn, q⟩ => ?_
  subst hd
  unfold t_l_reached
  try dsimp only [qSeq, qIfS, qAnd, qOr, qNot, qTest, qOp, qCB, qCX, qCons, qNil, qC, qPut, qMt, qSet, qRet, qRetN, qDrop, qNext, qAndV, qOrV, qNotV, qIf, qChain, qTup, qLst, qSl, qPart, qNoPart, qAsg, qTru, qNeg, qRaise, qDropX, qBreak, qCont, qFor_eq, qLc_eq, qDc_eq, qiSeq, qiRange1, qiRange2, qiEnum, rII0, rII, CDiv, CMul, CPow, rAbs, rInt, rStrI, qTg, Tg.put, putsV, qYes, wipeD, qDisp, qPairs, qDNew]
  refine ⟨sz rfl, fun pT A1 n1 => ?_⟩
  refine qVar_some rfl ?_
  refine x_len_lst (n1.ext ha) ?_
  rw [List.length_map, hrs.1]
  try dsimp only [qSeq, qIfS, qAnd, qOr, qNot, qTest, qOp, qCB, qCX, qCons, qNil, qC, qPut, qMt, qSet, qRet, qRetN, qDrop, qNext, qAndV, qOrV, qNotV, qIf, qChain, qTup, qLst, qSl, qPart, qNoPart, qAsg, qTru, qNeg, qRaise, qDropX, qBreak, qCont, qFor_eq, qLc_eq, qDc_eq, qiSeq, qiRange1, qiRange2, qiEnum, rII0, rII, CDiv, CMul, CPow, rAbs, rInt, rStrI, qTg, Tg.put, putsV, qYes, wipeD, qDisp, qPairs, qDNew]
  refine ⟨by omega, by omega, ?_⟩
  rw [Int.toNat_natCast]
  refine lcB_pure G.length (fun i => .int (0 + (i : Nat))) (fun i => some (.bl (decide (i ∈ [0])))) (fun i A' hi e => rfl) (szt (by omega)) (fun pM A2 n2 => ?_) fun i A2 Ky Kn hi e k1 k2 => ?_
  · have e1 : (List.range G.length).filterMap (fun i => some (D.bl (decide (i ∈ [0])))) = mb G.length [0] := by
      unfold mb; rw [← List.filterMap_eq_map]; rfl
    rw [e1] at n2
    have fT : A pT = none := n1.free
    have fM : A pM = none := by
      cases e : A pM with
      | none => rfl
      | some o => have := n1.ext e; rw [n2.free] at this; cases this
    have h0 := ((Holds.nil A).new n1).new n2
    refine ⟨fun m τ A' => ∃ ms td x3 x4, τ = [some (.ref a), some (.ref pT), some (.ref pM), x3, x4] ∧ LrS A pM pT G ms td none A' ∧ m = 2 * (G.length - ms.length) + td.length, ⟨_, [0], [0], _, _, rfl, ⟨n1.ex.trans n2.ex, h0, .start⟩, rfl⟩, ?_⟩
    rintro m τ A3 ⟨ms, td, x3, x4, rfl, tr, rfl⟩
    have hA := tr.hd
    try dsimp only [qSeq, qIfS, qAnd, qOr, qNot, qTest, qOp, qCB, qCX, qCons, qNil, qC, qPut, qMt, qSet, qRet, qRetN, qDrop, qNext, qAndV, qOrV, qNotV, qIf, qChain, qTup, qLst, qSl, qPart, qNoPart, qAsg, qTru, qNeg, qRaise, qDropX, qBreak, qCont, qFor_eq, qLc_eq, qDc_eq, qiSeq, qiRange1, qiRange2, qiEnum, rII0, rII, CDiv, CMul, CPow, rAbs, rInt, rStrI, qTg, Tg.put, putsV, qYes, wipeD, qDisp, qPairs, qDNew]
    refine qVar_some rfl ?_
    refine x_len_lst (hA.get 1) ?_
    try dsimp only [qSeq, qIfS, qAnd, qOr, qNot, qTest, qOp, qCB, qCX, qCons, qNil, qC, qPut, qMt, qSet, qRet, qRetN, qDrop, qNext, qAndV, qOrV, qNotV, qIf, qChain, qTup, qLst, qSl, qPart, qNoPart, qAsg, qTru, qNeg, qRaise, qDropX, qBreak, qCont, qFor_eq, qLc_eq, qDc_eq, qiSeq, qiRange1, qiRange2, qiEnum, rII0, rII, CDiv, CMul, CPow, rAbs, rInt, rStrI, qTg, Tg.put, putsV, qYes, wipeD, qDisp, qPairs, qDNew]
    cases td with
    | nil =>
      refine x_ifF (by decide) ?_
      exact reached_end ha hrs.1 v hn tr q
    | cons t0 td0 =>
      refine x_ifT (decide_eq_true (by simp)) ?_
      have hTlen : (t0 :: td0).length ≤ G.length := tr.dfs.tlen v
      obtain ⟨n, hn'⟩ : ∃ n, (t0 :: td0)[(t0 :: td0).length - 1]? = some n := ⟨_, List.getElem?_eq_getElem (by simp)⟩
      obtain ⟨d1, hnm⟩ := tr.dfs.pop hn'
      have hnlt : n < G.length := (tr.dfs.rc n hnm).lt v
      refine ⟨fun τ' A' => ∃ ms' td' x3 x4, τ' = [some (.ref a), some (.ref pT), some (.ref pM), x3, x4] ∧ LrS A pM pT G ms' td' none A' ∧ 2 * (G.length - ms'.length) + td'.length < 2 * (G.length - ms.length) + (t0 :: td0).length, ?_, ?_⟩
      · rintro τ' A' ⟨ms', td', y3, y4, rfl, tr', hlt⟩
        exact ⟨_, hlt, ms', td', _, _, rfl, tr', rfl⟩
      generalize htd : t0 :: td0 = td at *
      refine qVar_some rfl ?_
      refine qVar_some rfl ?_
      refine ⟨pT, _, rfl, hA.get 1, ?_⟩
      refine ⟨td.map fun n : Nat => D.int n, .int n, rfl, hA.get 1, by rw [List.length_map, List.getElem?_map, hn']; rfl, fun A4 p4 => ?_⟩
      have hB := hA.put 1 p4
      rw [← List.map_dropLast] at hB
      have ex4 : Ext A A4 := ExtBut.to fT tr.ex (.put p4)
      have hp : ps[n]? = some (ps[n]'(by rw [hrs.1]; exact hnlt)) := List.getElem?_eq_getElem _
      generalize ps[n]'(by rw [hrs.1]; exact hnlt) = p at hp
      have hrow0 := hrs.2 n p (G.getD n []) hp (by rw [List.getD_eq_getElem?_getD, List.getElem?_eq_getElem hnlt]; rfl)
      refine x_ix_lst (v := .ref p) (ex4 _ _ ha) (atI_nat n (by rw [List.getElem?_map, hp]; rfl)) ?_
      refine ⟨⟨_, items_lst (ex4 _ _ hrow0)⟩, ?_⟩
      have hreach := tr.dfs.rc n hnm
      have hr1 : ∀ s ∈ G.getD n [], Reach G s.2 := fun s hs => .step hreach hs
      have tdl : td.dropLast.length + 1 = td.length := by
        rw [List.length_dropLast]
        have : 0 < td.length := by rw [← htd]; simp
        omega
      refine forB_seq ((G.getD n []).map stepD) (fun i τ' A' => ∃ ms' td' x3 x4, τ' = [some (.ref a), some (.ref pT), some (.ref pM), x3, x4] ∧ LrS A pM pT G ms' td' (some n) A' ∧ 2 * (G.length - ms'.length) + td'.length < 2 * (G.length - ms.length) + td.length ∧ ∀ j s, j < i → (G.getD n [])[j]? = some s → s.2 ∈ ms') ⟨ms, td.dropLast, _, _, rfl, ⟨ex4, hB, d1⟩, by omega, fun j s h => absurd h (Nat.not_lt_zero _)⟩ (fun _ _ _ ⟨_, _, _, _, _, tr', _⟩ => items_lst (tr'.ex _ _ hrow0)) (fun τ' A' ⟨ms', td', y3, y4, e, tr', hlt, hall⟩ => ?_) fun i d τ' A' hd ⟨ms', td', y3, y4, e, tr', hlt, hall⟩ => ?_
      · refine ⟨ms', td', y3, y4, e, ⟨tr'.ex, tr'.hd, tr'.dfs.close fun s hs => ?_⟩, hlt⟩
        obtain ⟨j, hj⟩ := List.getElem?_of_mem hs
        exact hall j s (by rw [List.length_map]; exact (List.getElem?_eq_some_iff.mp hj).1) hj
      · subst e
        rw [List.getElem?_map] at hd
        cases hs : (G.getD n [])[i]? with
        | none => rw [hs] at hd; cases hd
        | some s =>
          rw [hs] at hd
          cases hd
          have hC := tr'.hd
          obtain ⟨l, t⟩ := s
          have htl : t < G.length := v.at_ (List.mem_of_getElem? hs)
          have hat : ∀ ms, atI (mb G.length ms) (t : Int) = some (.bl (decide (t ∈ ms))) := fun ms => atI_nat t (mb_get htl)
          dsimp only [stepD]
          try dsimp only [qSeq, qIfS, qAnd, qOr, qNot, qTest, qOp, qCB, qCX, qCons, qNil, qC, qPut, qMt, qSet, qRet, qRetN, qDrop, qNext, qAndV, qOrV, qNotV, qIf, qChain, qTup, qLst, qSl, qPart, qNoPart, qAsg, qTru, qNeg, qRaise, qDropX, qBreak, qCont, qFor_eq, qLc_eq, qDc_eq, qiSeq, qiRange1, qiRange2, qiEnum, rII0, rII, CDiv, CMul, CPow, rAbs, rInt, rStrI, qTg, Tg.put, putsV, qYes, wipeD, qDisp, qPairs, qDNew]
          refine qVar_some rfl ?_
          refine qVar_some rfl ?_
          refine x_tup1 ?_
          refine x_ix_lst (hC.get 0) (hat ms') ?_
          show if (!decide (t ∈ ms')) = true then _ else _
          have hrt := hr1 _ (List.mem_of_getElem? hs)
          by_cases ht : t ∈ ms'
          · refine x_ifF (by simp [ht]) ?_
            refine ⟨ms', td', _, _, rfl, tr', hlt, fun j s hj hjs => ?_⟩
            by_cases e : j = i
            · subst e; rw [hs] at hjs; cases hjs; exact ht
            · exact hall j s (by omega) hjs
          · refine x_ifT (by simp [ht]) ?_
            have d2 := tr'.dfs.add ht hrt
            have hl2 := d2.len v
            have hl3 := d2.tlen v
            rw [List.length_append, List.length_singleton] at hl2 hl3
            refine qVar_some rfl ?_
            refine qVar_some rfl ?_
            refine x_tup1 ?_
            refine x_put_lst t (hC.get 0) (ixN_nat (by rw [mb_len]; exact htl)) fun A5 p5 => ?_
            rw [mb_set] at p5
            have hD := hC.put 0 p5
            try dsimp only [qSeq, qIfS, qAnd, qOr, qNot, qTest, qOp, qCB, qCX, qCons, qNil, qC, qPut, qMt, qSet, qRet, qRetN, qDrop, qNext, qAndV, qOrV, qNotV, qIf, qChain, qTup, qLst, qSl, qPart, qNoPart, qAsg, qTru, qNeg, qRaise, qDropX, qBreak, qCont, qFor_eq, qLc_eq, qDc_eq, qiSeq, qiRange1, qiRange2, qiEnum, rII0, rII, CDiv, CMul, CPow, rAbs, rInt, rStrI, qTg, Tg.put, putsV, qYes, wipeD, qDisp, qPairs, qDNew]
            refine qVar_some rfl ?_
            refine ⟨pT, _, rfl, hD.get 1, ?_⟩
            refine qVar_some rfl ?_
            refine x_tup1 ?_
            refine ⟨_, _, rfl, hD.get 1, szt (by rw [List.length_map]; omega), fun A6 p6 => ?_⟩
            have hE := hD.put 1 p6
            have ex6 : Ext A A6 := ExtBut.to fT (ExtBut.to fM tr'.ex (.put p5)) (.put p6)
            refine ⟨ms' ++ [t], td' ++ [t], _, _, rfl, ⟨ex6, ?_, d2⟩, by rw [List.length_append, List.length_append, List.length_singleton]; omega, fun j s hj hjs => ?_⟩
            · rw [List.map_append]; exact hE
            · by_cases e : j = i
              · subst e; rw [hs] at hjs; cases hjs; exact List.mem_append_right _ (List.mem_singleton.mpr rfl)
              · exact List.mem_append_left _ (hall j s (by omega) hjs)
  · try dsimp only [qSeq, qIfS, qAnd, qOr, qNot, qTest, qOp, qCB, qCX, qCons, qNil, qC, qPut, qMt, qSet, qRet, qRetN, qDrop, qNext, qAndV, qOrV, qNotV, qIf, qChain, qTup, qLst, qSl, qPart, qNoPart, qAsg, qTru, qNeg, qRaise, qDropX, qBreak, qCont, qFor_eq, qLc_eq, qDc_eq, qiSeq, qiRange1, qiRange2, qiEnum, rII0, rII, CDiv, CMul, CPow, rAbs, rInt, rStrI, qTg, Tg.put, putsV, qYes, wipeD, qDisp, qPairs, qDNew]
    refine x_ifT rfl ?_
    refine qVar_some rfl ?_
    rw [rEq_int]
    have e0 : decide (0 + (i : Int) = 0) = decide (i ∈ [0]) := by
      rw [decide_eq_decide, List.mem_singleton]; omega
    rw [e0]
    exact k1 _ rfl
end
end L49

set_option Elab.async false
set_option linter.all false
set_option maxRecDepth 100000
set_option maxHeartbeats 4000000
namespace L49
open PySem PySem.Spec PyProof.Rows L2 DL
section
variable {P : Program} {w : World} {K : PySem.W.Frag} {mg : Str → Option Value} {base : Heap}
/-- the reached rows, numbered anew -/
def rawOf (G : List Rw) (order : List Nat) : List Rw := order.map fun s => (G.getD s []).map fun p => (p.1, order.idxOf p.2)
/-- short rows, known labels -/
def LabRows (ls : List D) (G : List Rw) : Prop := ∀ r ∈ G, r.length < 64 ∧ ∀ s ∈ r, s.1 ∈ ls
theorem LabRows.getD {ls : List D} {G : List Rw} (h : LabRows ls G) (k : Nat) : (G.getD k []).length < 64 ∧ ∀ s ∈ G.getD k [], s.1 ∈ ls := by
  rw [List.getD_eq_getElem?_getD]
  cases e : G[k]? with
  | none => exact ⟨by decide, fun s hs => by cases hs⟩
  | some r => exact h r (List.mem_of_getElem? e)
def spPacked : DSp := fun ds A Q => ∃ a b ps G order ls, ds = [.ref a, .ref b] ∧ A a = some (.lst (ps.map D.ref)) ∧ RowsAt A ps G ∧ Valid G ∧ G.length < 60 ∧ A b = some (.lst (order.map fun n : Nat => D.int n)) ∧ RO G order ∧ LabOk ls ∧ LabRows ls G ∧
  ∀ out A', Packed (rawOf G order) out → Ext A A' → Q (.tup (out.map rowD)) A'
theorem RO.len {G : List Rw} {order : List Nat} (v : Valid G) (h : RO G order) : order.length ≤ G.length := by
  have nd : order.Nodup := List.Pairwise.imp (S := fun a b => a ≠ b) (fun {a b} (h : a < b) (e : a = b) => by omega) h.ord
  have := nodup_le order (List.range G.length) nd fun n hn => List.mem_range.mpr (((h.mem n).mp hn).lt v)
  rwa [List.length_range] at this
theorem packed_end {a b pc : Addr} {A A1 : DA} {ps : List Addr} {G : List Rw} {order : List Nat} {ls : List D} {kvs : List (D × D)} {x3 x4 x5 : Option D} {Q : DK} (ha : A a = some (.lst (ps.map D.ref))) (hrs : RowsAt A ps G) (v : Valid G) (hn : G.length < 60) (hb : A b = some (.lst (order.map fun n : Nat => D.int n))) (ro : RO G order) (hls : LabOk ls) (hlr : LabRows ls G)
    (q : ∀ out A', Packed (rawOf G order) out → Ext A A' → Q (.tup (out.map rowD)) A') (e1 : Ext A A1) (hp : A1 pc = some (.dk kvs)) (hk : ∀ j d, order[j]? = some d → valD kvs (.int (d : Nat)) = some (.int (j : Nat))) :
    u_l_packed_1 K w spPack (endsF Q) [some (.ref a), some (.ref b), some (.ref pc), x3, x4, x5] A1 := by
  have hol := ro.len v
  unfold u_l_packed_1
  try dsimp only [qSeq, qIfS, qAnd, qOr, qNot, qTest, qOp, qCB, qCX, qCons, qNil, qC, qPut, qMt, qSet, qRet, qRetN, qDrop, qNext, qAndV, qOrV, qNotV, qIf, qChain, qTup, qLst, qSl, qPart, qNoPart, qAsg, qTru, qNeg, qRaise, qDropX, qBreak, qCont, qFor_eq, qLc_eq, qDc_eq, qiSeq, qiRange1, qiRange2, qiEnum, rII0, rII, CDiv, CMul, CPow, rAbs, rInt, rStrI, qTg, Tg.put, putsV, qYes, wipeD, qDisp, qPairs, qDNew]
  refine qVar_some rfl ?_
  refine ⟨⟨_, items_lst (e1 _ _ hb)⟩, ?_⟩
  refine lcB_n order.length (fun i => .int (order.getD i 0 : Nat)) (fun C i A' => Ext A1 A' ∧ A1 C = none ∧ ∃ qs : List Addr, A' C = some (.lst (qs.map D.ref)) ∧ qs.length = i ∧ ∀ (j : Nat) (p : Addr), qs[j]? = some p → p ≠ C ∧ ∃ r : Rw, (rawOf G order)[j]? = some r ∧ A' p = some (.lst (r.map stepD))) (fun C A2 n2 => ⟨n2.ex, n2.free, [], n2.get, rfl, fun j p h => by simp at h⟩) (fun C i A' hi ⟨e, _⟩ => ⟨_, items_lst (e _ _ (e1 _ _ hb)), ?_⟩) (fun C A' ⟨e, f, qs, h1, h2, h3⟩ => ?_) fun C i A' hi ⟨e, f, qs, h1, h2, h3⟩ => ?_
  · by_cases h : i < order.length
    · rw [if_pos h, List.getElem?_map, List.getD_eq_getElem?_getD, List.getElem?_eq_getElem h]; rfl
    · rw [if_neg h, List.getElem?_map, List.getElem?_eq_none (by omega)]; rfl
  · refine ⟨C, ls, qs, rawOf G order, rfl, hls, h1, ⟨by rw [h2]; unfold rawOf; rw [List.length_map], fun j p r hp hr => ?_⟩, fun r hr => ?_, by unfold rawOf; rw [List.length_map]; omega, fun out A2 pk ex => q out A2 pk (e1.trans (e.trans ex))⟩
    · obtain ⟨_, r', hr', hat⟩ := h3 j p hp
      rw [hr] at hr'; cases hr'
      exact hat
    · obtain ⟨s, _, rfl⟩ := List.mem_map.mp hr
      have := hlr.getD s
      refine ⟨by rw [List.length_map]; exact this.1, fun t ht => ?_⟩
      obtain ⟨t', ht', rfl⟩ := List.mem_map.mp ht
      exact this.2 t' ht'
  · have ho : order[i]? = some (order.getD i 0) := by rw [List.getD_eq_getElem?_getD, List.getElem?_eq_getElem hi]; rfl
    have hraw : (rawOf G order)[i]? = some ((G.getD (order.getD i 0) []).map fun p => (p.1, order.idxOf p.2)) := by
      unfold rawOf
      rw [List.getElem?_map, ho]; rfl
    generalize order.getD i 0 = s at ho hraw
    have hs : Reach G s := (ro.mem s).mp (List.mem_of_getElem? ho)
    have hslt := hs.lt v
    have hp2 : ps[s]? = some (ps[s]'(by rw [hrs.1]; exact hslt)) := List.getElem?_eq_getElem _
    generalize ps[s]'(by rw [hrs.1]; exact hslt) = p at hp2
    have hrow0 := hrs.2 s p (G.getD s []) hp2 (by rw [List.getD_eq_getElem?_getD, List.getElem?_eq_getElem hslt]; rfl)
    have eA : Ext A A' := e1.trans e
    try dsimp only [qSeq, qIfS, qAnd, qOr, qNot, qTest, qOp, qCB, qCX, qCons, qNil, qC, qPut, qMt, qSet, qRet, qRetN, qDrop, qNext, qAndV, qOrV, qNotV, qIf, qChain, qTup, qLst, qSl, qPart, qNoPart, qAsg, qTru, qNeg, qRaise, qDropX, qBreak, qCont, qFor_eq, qLc_eq, qDc_eq, qiSeq, qiRange1, qiRange2, qiEnum, rII0, rII, CDiv, CMul, CPow, rAbs, rInt, rStrI, qTg, Tg.put, putsV, qYes, wipeD, qDisp, qPairs, qDNew]
    refine x_ifT rfl ?_
    refine qVar_some rfl ?_
    refine qVar_some rfl ?_
    refine x_ix_lst (v := .ref p) (eA _ _ ha) (atI_nat s (by rw [List.getElem?_map, hp2]; rfl)) ?_
    refine ⟨⟨_, items_lst (eA _ _ hrow0)⟩, ?_⟩
    refine lcB_map (fun d => match d with | .tup [l, .int t] => .tup [l, .int (order.idxOf t.toNat : Nat)] | d => d) (items_lst (eA _ _ hrow0)) (szt (by rw [List.length_map]; have := (hlr.getD s).1; omega)) (fun p7 A7 n7 => ?_) fun d A7 Ky7 hd e7 k7 => ?_
    · have e7 : (((G.getD s []).map stepD).map (fun d => match d with | .tup [l, .int t] => .tup [l, .int (order.idxOf t.toNat : Nat)] | d => d)) = ((G.getD s []).map fun p => (p.1, order.idxOf p.2)).map stepD := by
        rw [List.map_map, List.map_map]; rfl
      rw [e7] at n7
      refine ⟨_, n7.ext h1, szt (by rw [List.length_map]; omega), fun A8 p8 => ⟨ExtBut.to f (e.trans n7.ex) (.put p8), f, qs ++ [p7], ?_, by simp [h2], fun j p' hj => ?_⟩⟩
      · rw [List.map_append]; exact p8.get
      · have hC7 : p7 ≠ C := fun z => by have := n7.free; rw [z, h1] at this; cases this
        by_cases hjl : j < qs.length
        · rw [List.getElem?_append_left hjl] at hj
          obtain ⟨g1, r, g2, g3⟩ := h3 j p' hj
          exact ⟨g1, r, g2, p8.ext g1 (n7.ext g3)⟩
        · have hjl2 := (List.getElem?_eq_some_iff.mp hj).1
          rw [List.length_append, List.length_singleton] at hjl2
          have : j = i := by omega
          subst this
          rw [List.getElem?_append_right (by omega), h2, Nat.sub_self] at hj
          cases hj
          exact ⟨hC7, _, hraw, p8.ext hC7 n7.get⟩
    · obtain ⟨⟨l, t⟩, hst, rfl⟩ := List.mem_map.mp hd
      dsimp only [stepD]
      try dsimp only [qSeq, qIfS, qAnd, qOr, qNot, qTest, qOp, qCB, qCX, qCons, qNil, qC, qPut, qMt, qSet, qRet, qRetN, qDrop, qNext, qAndV, qOrV, qNotV, qIf, qChain, qTup, qLst, qSl, qPart, qNoPart, qAsg, qTru, qNeg, qRaise, qDropX, qBreak, qCont, qFor_eq, qLc_eq, qDc_eq, qiSeq, qiRange1, qiRange2, qiEnum, rII0, rII, CDiv, CMul, CPow, rAbs, rInt, rStrI, qTg, Tg.put, putsV, qYes, wipeD, qDisp, qPairs, qDNew]
      refine qVar_some rfl ?_
      refine x_tup0 ?_
      refine qVar_some rfl ?_
      refine qVar_some rfl ?_
      refine x_tup1 ?_
      have ht : t ∈ order := (ro.mem t).mpr (.step hs hst)
      obtain ⟨j, hj⟩ := List.getElem?_of_mem ht
      refine x_ix_dk (e7 _ _ (e _ _ hp)) (hk j t hj) rfl ⟨sz rfl, ?_⟩
      rw [← idx_at ro.ord hj]
      exact k7
theorem ok_packed (T : Top K mg) : DFn P w K mg base 2 (He.ga K "_law_packed") (fdO K (He.ga K "_law_packed")) ["rows", "kept"] spPacked := by
  refine dfun_ok T.d__law_packed sc_l_packed (fun ds A Q ⟨_, _, _, _, _, _, h, _⟩ => by rw [h]; rfl) (b_l_packed T (ok_pack T)) fun ds A Q ⟨a, b, ps, G, order, ls, hd, ha, hrs, v, hn, hb, ro, hls, hlr, q⟩ => ?_
  subst hd
  have hol := ro.len v
  unfold t_l_packed
  try dsimp only [qSeq, qIfS, qAnd, qOr, qNot, qTest, qOp, qCB, qCX, qCons, qNil, qC, qPut, qMt, qSet, qRet, qRetN, qDrop, qNext, qAndV, qOrV, qNotV, qIf, qChain, qTup, qLst, qSl, qPart, qNoPart, qAsg, qTru, qNeg, qRaise, qDropX, qBreak, qCont, qFor_eq, qLc_eq, qDc_eq, qiSeq, qiRange1, qiRange2, qiEnum, rII0, rII, CDiv, CMul, CPow, rAbs, rInt, rStrI, qTg, Tg.put, putsV, qYes, wipeD, qDisp, qPairs, qDNew]
  intro pc A1 n1
  refine qVar_some rfl ?_
  refine x_len_lst (n1.ext hb) ?_
  rw [List.length_map]
  try dsimp only [qSeq, qIfS, qAnd, qOr, qNot, qTest, qOp, qCB, qCX, qCons, qNil, qC, qPut, qMt, qSet, qRet, qRetN, qDrop, qNext, qAndV, qOrV, qNotV, qIf, qChain, qTup, qLst, qSl, qPart, qNoPart, qAsg, qTru, qNeg, qRaise, qDropX, qBreak, qCont, qFor_eq, qLc_eq, qDc_eq, qiSeq, qiRange1, qiRange2, qiEnum, rII0, rII, CDiv, CMul, CPow, rAbs, rInt, rStrI, qTg, Tg.put, putsV, qYes, wipeD, qDisp, qPairs, qDNew]
  refine ⟨by omega, by omega, ?_⟩
  rw [Int.toNat_natCast]
  refine forB_range (fun i τ A' => ∃ x3 x4 x5 kvs, τ = [some (.ref a), some (.ref b), some (.ref pc), x3, x4, x5] ∧ Ext A A' ∧ A' pc = some (.dk kvs) ∧ kvs.length ≤ i ∧ ∀ j d, j < i → order[j]? = some d → valD kvs (.int (d : Nat)) = some (.int (j : Nat))) ⟨_, _, _, [], rfl, n1.ex, n1.get, Nat.zero_le _, fun j d h => absurd h (Nat.not_lt_zero _)⟩ (fun τ A' ⟨x3, x4, x5, kvs, et, e, hp, hl, hk⟩ => ?_) fun i τ A' hi ⟨x3, x4, x5, kvs, et, e, hp, hl, hk⟩ => ?_
  · subst et
    exact packed_end (K := K) (w := w) ha hrs v hn hb ro hls hlr q e hp fun j d hd => hk j d (List.getElem?_eq_some_iff.mp hd).1 hd
  · subst et
    have ho : order[i]? = some (order.getD i 0) := by rw [List.getD_eq_getElem?_getD, List.getElem?_eq_getElem hi]; rfl
    generalize order.getD i 0 = s at ho
    have e0 : (0 + (i : Int)) = (i : Int) := by omega
    try dsimp only [qSeq, qIfS, qAnd, qOr, qNot, qTest, qOp, qCB, qCX, qCons, qNil, qC, qPut, qMt, qSet, qRet, qRetN, qDrop, qNext, qAndV, qOrV, qNotV, qIf, qChain, qTup, qLst, qSl, qPart, qNoPart, qAsg, qTru, qNeg, qRaise, qDropX, qBreak, qCont, qFor_eq, qLc_eq, qDc_eq, qiSeq, qiRange1, qiRange2, qiEnum, rII0, rII, CDiv, CMul, CPow, rAbs, rInt, rStrI, qTg, Tg.put, putsV, qYes, wipeD, qDisp, qPairs, qDNew]
    refine qVar_some rfl ?_
    refine qVar_some rfl ?_
    refine qVar_some rfl ?_
    refine qVar_some rfl ?_
    rw [e0]
    refine x_ix_lst (v := .int (s : Nat)) (e _ _ hb) (atI_nat i (by rw [List.getElem?_map, ho]; rfl)) ?_
    refine x_put_dk hp rfl (szt (by omega)) fun A2 p2 => ⟨_, _, _, _, rfl, ExtBut.to n1.free e (.put p2), p2.get, Nat.le_trans putD_len (by omega), fun j d hj hd => ?_⟩
    rw [valD_putD]
    by_cases ej : j = i
    · subst ej
      rw [ho] at hd
      cases hd
      rw [if_pos rfl]
    · have hne : d ≠ s := fun z => by
        subst z
        have h1 := idx_at ro.ord hd
        have h2 := idx_at ro.ord ho
        omega
      rw [if_neg (fun z => hne (by injection z with z; omega))]
      exact hk j d (by omega) hd
end
end L49

set_option Elab.async false
set_option linter.all false
set_option maxRecDepth 100000
set_option maxHeartbeats 4000000
namespace L49
open PySem PySem.Spec PyProof.Rows L2 DL
def quietD : D := .tup [.str "", .str "quiet"]
def shift (n : Nat) (r : Rw) : Rw := r.map fun s => (s.1, n + s.2)
def pairD (p : Nat × Nat) : D := .tup [.int p.1, .int p.2]
/-- a quiet step from p.1 to n + p.2 -/
def addQ1 (n : Nat) (G : List Rw) (p : Nat × Nat) : List Rw := G.set p.1 (G.getD p.1 [] ++ [(quietD, n + p.2)])
def addQ (n : Nat) (G : List Rw) (prs : List (Nat × Nat)) : List Rw := prs.foldl (addQ1 n) G
theorem addQ_len {n : Nat} : ∀ {prs : List (Nat × Nat)} {G : List Rw}, (addQ n G prs).length = G.length
  | [], _ => rfl
  | p :: prs, G => by
    show (addQ n (addQ1 n G p) prs).length = _
    rw [addQ_len]
    unfold addQ1
    rw [List.length_set]
theorem addQ_take {n i : Nat} {prs : List (Nat × Nat)} {G : List Rw} {p : Nat × Nat} (h : prs[i]? = some p) : addQ n G (prs.take (i + 1)) = addQ1 n (addQ n G (prs.take i)) p := by
  unfold addQ
  rw [take_next h, List.foldl_append]; rfl
/-- rows as lists that were made, and their list C -/
structure FR (A0 A : DA) (C : Addr) (qs : List Addr) (G : List Rw) : Prop where
  len : qs.length = G.length
  hd : Holds A ((C, .lst (qs.map D.ref)) :: rowsL qs G)
  ex : Ext A0 A
  frC : A0 C = none
  fr : ∀ q ∈ qs, A0 q = none
theorem FR.rowsAt {A0 A : DA} {C : Addr} {qs : List Addr} {G : List Rw} (h : FR A0 A C qs G) : RowsAt A qs G := ⟨h.len, fun i p r h1 h2 => h.hd.get (i + 1) (by have := rowsL_get (L := []) h1 h2; rw [List.append_nil] at this; exact this)⟩
theorem FR.start {A0 A C} (n : New A0 C (.lst []) A) : FR A0 A C [] [] := ⟨rfl, (Holds.nil A0).new n, n.ex, n.free, fun q h => by cases h⟩
theorem FR.add {A0 A A1 A2 : DA} {C p : Addr} {qs : List Addr} {G : List Rw} {r : Rw} (h : FR A0 A C qs G) (n : New A p (.lst (r.map stepD)) A1) (pt : Put A1 C (.lst (qs.map D.ref ++ [.ref p])) A2) : FR A0 A2 C (qs ++ [p]) (G ++ [r]) := by
  have h1 := h.hd.new n
  have h2 := h1.put 1 pt
  have fp : A0 p = none := by
    cases e : A0 p with
    | none => rfl
    | some o => have := h.ex _ _ e; rw [n.free] at this; cases this
  refine ⟨by simp [h.len], ?_, ExtBut.to h.frC (h.ex.trans n.ex) (.put pt), h.frC, fun q hq => ?_⟩
  · rw [rowsL_snoc p r h.len, List.map_append]
    refine h2.perm ?_
    show ((C, MO.lst (qs.map D.ref ++ [.ref p])) :: (rowsL qs G ++ [(p, .lst (r.map stepD))])).Perm ((p, .lst (r.map stepD)) :: (C, MO.lst (qs.map D.ref ++ [.ref p])) :: rowsL qs G)
    exact ((List.perm_append_singleton _ _).cons _).trans (List.Perm.swap _ _ _)
  · rcases List.mem_append.mp hq with z | z
    · exact h.fr q z
    · rw [List.mem_singleton.mp z]; exact fp
theorem FR.put {A0 A A' : DA} {C p : Addr} {qs : List Addr} {G : List Rw} {i : Nat} {r r' : Rw} (h : FR A0 A C qs G) (h1 : qs[i]? = some p) (h2 : G[i]? = some r) (pt : Put A p (.lst (r'.map stepD)) A') : FR A0 A' C qs (G.set i r') := by
  have e := rowsL_get (L := []) h1 h2
  rw [List.append_nil] at e
  have := h.hd.put (i + 1) pt e
  have e2 := rowsL_set (r' := r') (L := []) h1 h2
  rw [List.append_nil, List.append_nil] at e2
  rw [List.set_cons_succ, e2] at this
  exact ⟨by rw [List.length_set]; exact h.len, this, ExtBut.to (h.fr p (List.mem_of_getElem? h1)) h.ex (.put pt), h.frC, h.fr⟩
theorem getD_some {G : List Rw} {n : Nat} (h : n < G.length) : G[n]? = some (G.getD n []) := by
  rw [List.getD_eq_getElem?_getD, List.getElem?_eq_getElem h]; rfl
section
variable {P : Program} {w : World} {K : PySem.W.Frag} {mg : Str → Option Value} {base : Heap}
/-- two graphs, pairs of their states -/
structure TwoOk (ls : List D) (G1 G2 : List Rw) (prs : List (Nat × Nat)) : Prop where
  lab : LabOk ls
  q : quietD ∈ ls
  g1 : GoodRows ls G1.length G1
  g2 : GoodRows ls G2.length G2
  p1 : 1 ≤ G1.length
  n1 : G1.length ≤ 20
  n2 : G2.length ≤ 20
  pn : prs.length ≤ 12
  pr : ∀ p ∈ prs, p.1 < G1.length ∧ p.2 < G2.length
def combL (G1 G2 : List Rw) (prs : List (Nat × Nat)) : List Rw := addQ G1.length (G1 ++ G2.map (shift G1.length)) prs
/-- what is true on the way -/
structure MidOk (ls : List D) (n1 n2 k : Nat) (G : List Rw) : Prop where
  len : G.length = n1 + n2
  row : ∀ r ∈ G, r.length ≤ 45 + k ∧ ∀ s ∈ r, s.1 ∈ ls ∧ s.2 < n1 + n2
theorem mid0 {ls : List D} {G1 G2 : List Rw} {prs : List (Nat × Nat)} (h : TwoOk ls G1 G2 prs) : MidOk ls G1.length G2.length 0 (G1 ++ G2.map (shift G1.length)) := by
  refine ⟨by simp, fun r hr => ?_⟩
  rcases List.mem_append.mp hr with hr | hr
  · obtain ⟨_, a, b⟩ := h.g1.row r hr
    exact ⟨a, fun s hs => ⟨(b s hs).1, by have := (b s hs).2; omega⟩⟩
  · obtain ⟨r0, hr0, rfl⟩ := List.mem_map.mp hr
    obtain ⟨_, a, b⟩ := h.g2.row r0 hr0
    refine ⟨by unfold shift; rw [List.length_map]; exact a, fun s hs => ?_⟩
    obtain ⟨s0, hs0, rfl⟩ := List.mem_map.mp hs
    exact ⟨(b s0 hs0).1, by have := (b s0 hs0).2; show G1.length + s0.2 < _; omega⟩
theorem mid1 {ls : List D} {n1 n2 k : Nat} {G : List Rw} {p : Nat × Nat} (h : MidOk ls n1 n2 k G) (hq : quietD ∈ ls) (h1 : p.1 < n1) (h2 : p.2 < n2) : MidOk ls n1 n2 (k + 1) (addQ1 n1 G p) := by
  unfold addQ1
  refine ⟨by rw [List.length_set]; exact h.len, fun r hr => ?_⟩
  rcases List.mem_or_eq_of_mem_set hr with hr | rfl
  · exact ⟨by have := (h.row r hr).1; omega, (h.row r hr).2⟩
  · have := h.row _ (List.mem_of_getElem? (getD_some (G := G) (n := p.1) (by rw [h.len]; omega)))
    refine ⟨by rw [List.length_append, List.length_singleton]; have := this.1; omega, fun s hs => ?_⟩
    rcases List.mem_append.mp hs with z | z
    · exact this.2 s z
    · rw [List.mem_singleton.mp z]; exact ⟨hq, by show n1 + p.2 < _; omega⟩
theorem midN {ls : List D} {G1 G2 : List Rw} {prs : List (Nat × Nat)} (h : TwoOk ls G1 G2 prs) : ∀ i, i ≤ prs.length → MidOk ls G1.length G2.length i (addQ G1.length (G1 ++ G2.map (shift G1.length)) (prs.take i))
  | 0, _ => by rw [List.take_zero]; exact mid0 h
  | i + 1, hi => by
    have e : prs[i]? = some prs[i] := List.getElem?_eq_getElem hi
    rw [addQ_take e]
    have := h.pr _ (List.mem_of_getElem? e)
    exact mid1 (midN h i (by omega)) h.q this.1 this.2
theorem comb_mid {ls : List D} {G1 G2 : List Rw} {prs : List (Nat × Nat)} (h : TwoOk ls G1 G2 prs) : MidOk ls G1.length G2.length 12 (combL G1 G2 prs) := by
  have := midN h prs.length (Nat.le_refl _)
  rw [List.take_length] at this
  exact ⟨this.len, fun r hr => ⟨by have := (this.row r hr).1; have := h.pn; omega, (this.row r hr).2⟩⟩
theorem comb_valid {ls : List D} {G1 G2 : List Rw} {prs : List (Nat × Nat)} (h : TwoOk ls G1 G2 prs) : Valid (combL G1 G2 prs) := by
  have m := comb_mid h
  exact ⟨by rw [m.len]; have := h.p1; omega, fun r hr s hs => by rw [m.len]; exact ((m.row r hr).2 s hs).2⟩
def spSwapped : DSp := fun ds A Q => ∃ ls G1 G2 prs pp, ds = [.tup (G1.map rowD), .tup (G2.map rowD), .ref pp] ∧ TwoOk ls G1 G2 prs ∧ A pp = some (.lst (prs.map pairD)) ∧
  ∀ out A' order, RO (combL G1 G2 prs) order → Packed (rawOf (combL G1 G2 prs) order) out → Ext A A' → Q (.tup (out.map rowD)) A'
end
end L49

set_option Elab.async false
set_option linter.all false
set_option maxRecDepth 100000
set_option maxHeartbeats 4000000
namespace L49
open PySem PySem.Spec PyProof.Rows L2 DL
section
variable {P : Program} {w : World} {K : PySem.W.Frag} {mg : Str → Option Value} {base : Heap}
theorem copy_rows {g : Tg} {te : DE} {vs : List Nat} {τ : DSt} {A1 : DA} {Q : DK} {G : List Rw} (hn : G.length ≤ 1000)
    (hte : ∀ (xs : List D) A (Ky : DK), (∀ p A', New A p (.lst xs) A' → Ky (.ref p) A') → qTg g (.tup xs) (wipeD τ vs) A fun τ2 A2 => te τ2 A2 Ky)
    (q : ∀ C qs A', FR A1 A' C qs G → Q (.ref C) A') : LcB (jSeq (.tup (G.map rowD))) g qYes te vs τ A1 Q := by
  refine lcB_n G.length (fun i => .tup ((G.getD i []).map stepD)) (fun C i A' => ∃ qs, FR A1 A' C qs (G.take i)) (fun C A2 n2 => ⟨[], by rw [List.take_zero]; exact .start n2⟩) (fun C i A' hi _ => ⟨G.map rowD, rfl, ?_⟩) (fun C A' ⟨qs, f⟩ => q C qs A' (by rw [List.take_length] at f; exact f)) fun C i A' hi ⟨qs, f⟩ => ?_
  · by_cases h : i < G.length
    · rw [if_pos h]; exact (getD_row h).symm
    · rw [if_neg h, List.getElem?_map, List.getElem?_eq_none (by omega)]; rfl
  · have := hte ((G.getD i []).map stepD) A' (fun y A4 => ∃ acc, A4 C = some (.lst acc) ∧ acc.length < sizeLine ∧ ∀ A5, Put A4 C (.lst (acc ++ [y])) A5 → ∃ qs, FR A1 A5 C qs (G.take (i + 1))) fun p A'' n => ⟨_, n.ext (f.hd.get 0), szt (by rw [List.length_map, f.len, List.length_take]; omega), fun A5 p5 => ⟨qs ++ [p], by rw [take_next (getD_some hi)]; exact f.add n p5⟩⟩
    unfold qYes
    unfold qTg at this ⊢
    split at this
    · show if true = true then _ else _
      rw [if_pos rfl]; exact this
    · exact this.elim
theorem ok_swapped (T : Top K mg) : DFn P w K mg base 3 (He.ga K "_law_swapped") (fdO K (He.ga K "_law_swapped")) ["one", "two", "pairs"] spSwapped := by
  refine dfun_ok T.d__law_swapped sc_l_swapped (fun ds A Q ⟨_, _, _, _, _, h, _⟩ => by rw [h]; rfl) (b_l_swapped T (ok_reached T) (ok_packed T)) fun ds A Q ⟨ls, G1, G2, prs, pp, hd, ok, hpp, q⟩ => ?_
  subst hd
  have hn1 := ok.n1
  have hn2 := ok.n2
  have hpn := ok.pn
  unfold t_l_swapped
  try dsimp only [qSeq, qIfS, qAnd, qOr, qNot, qTest, qOp, qCB, qCX, qCons, qNil, qC, qPut, qMt, qSet, qRet, qRetN, qDrop, qNext, qAndV, qOrV, qNotV, qIf, qChain, qTup, qLst, qSl, qPart, qNoPart, qAsg, qTru, qNeg, qRaise, qDropX, qBreak, qCont, qFor_eq, qLc_eq, qDc_eq, qiSeq, qiRange1, qiRange2, qiEnum, rII0, rII, CDiv, CMul, CPow, rAbs, rInt, rStrI, qTg, Tg.put, putsV, qYes, wipeD, qDisp, qPairs, qDNew]
  refine qVar_some rfl ?_
  refine x_len_tup ?_
  rw [List.length_map]
  try dsimp only [qSeq, qIfS, qAnd, qOr, qNot, qTest, qOp, qCB, qCX, qCons, qNil, qC, qPut, qMt, qSet, qRet, qRetN, qDrop, qNext, qAndV, qOrV, qNotV, qIf, qChain, qTup, qLst, qSl, qPart, qNoPart, qAsg, qTru, qNeg, qRaise, qDropX, qBreak, qCont, qFor_eq, qLc_eq, qDc_eq, qiSeq, qiRange1, qiRange2, qiEnum, rII0, rII, CDiv, CMul, CPow, rAbs, rInt, rStrI, qTg, Tg.put, putsV, qYes, wipeD, qDisp, qPairs, qDNew]
  refine qVar_some rfl ?_
  refine ⟨⟨_, rfl⟩, ?_⟩
  refine copy_rows (by omega) (fun xs A' Ky k => ?_) fun C qs A1 f1 => ?_
  · try dsimp only [qSeq, qIfS, qAnd, qOr, qNot, qTest, qOp, qCB, qCX, qCons, qNil, qC, qPut, qMt, qSet, qRet, qRetN, qDrop, qNext, qAndV, qOrV, qNotV, qIf, qChain, qTup, qLst, qSl, qPart, qNoPart, qAsg, qTru, qNeg, qRaise, qDropX, qBreak, qCont, qFor_eq, qLc_eq, qDc_eq, qiSeq, qiRange1, qiRange2, qiEnum, rII0, rII, CDiv, CMul, CPow, rAbs, rInt, rStrI, qTg, Tg.put, putsV, qYes, wipeD, qDisp, qPairs, qDNew]
    refine qVar_some rfl ?_
    exact ⟨_, xs, rfl, rfl, k⟩
  try dsimp only [qSeq, qIfS, qAnd, qOr, qNot, qTest, qOp, qCB, qCX, qCons, qNil, qC, qPut, qMt, qSet, qRet, qRetN, qDrop, qNext, qAndV, qOrV, qNotV, qIf, qChain, qTup, qLst, qSl, qPart, qNoPart, qAsg, qTru, qNeg, qRaise, qDropX, qBreak, qCont, qFor_eq, qLc_eq, qDc_eq, qiSeq, qiRange1, qiRange2, qiEnum, rII0, rII, CDiv, CMul, CPow, rAbs, rInt, rStrI, qTg, Tg.put, putsV, qYes, wipeD, qDisp, qPairs, qDNew]
  refine qVar_some rfl ?_
  refine ⟨⟨_, rfl⟩, ?_⟩
  refine forB_seq (G2.map rowD) (fun i τ A' => ∃ qs x5 x6 x7 x8, τ = [some (.tup (G1.map rowD)), some (.tup (G2.map rowD)), some (.ref pp), some (.int (G1.length : Nat)), some (.ref C), x5, x6, x7, x8] ∧ FR A A' C qs (G1 ++ (G2.take i).map (shift G1.length))) ⟨qs, _, _, _, _, rfl, by rw [List.take_zero, List.map_nil, List.append_nil]; exact f1⟩ (fun _ _ _ _ => rfl) (fun τ A2 ⟨qs, x5, x6, x7, x8, et, f2⟩ => ?_) fun i d τ A' hd ⟨qs, x5, x6, x7, x8, et, f⟩ => ?_
  · subst et
    rw [List.length_map, List.take_length] at f2
    unfold u_l_swapped_2
    try dsimp only [qSeq, qIfS, qAnd, qOr, qNot, qTest, qOp, qCB, qCX, qCons, qNil, qC, qPut, qMt, qSet, qRet, qRetN, qDrop, qNext, qAndV, qOrV, qNotV, qIf, qChain, qTup, qLst, qSl, qPart, qNoPart, qAsg, qTru, qNeg, qRaise, qDropX, qBreak, qCont, qFor_eq, qLc_eq, qDc_eq, qiSeq, qiRange1, qiRange2, qiEnum, rII0, rII, CDiv, CMul, CPow, rAbs, rInt, rStrI, qTg, Tg.put, putsV, qYes, wipeD, qDisp, qPairs, qDNew]
    refine qVar_some rfl ?_
    refine ⟨⟨_, items_lst (f2.ex _ _ hpp)⟩, ?_⟩
    refine forB_seq (prs.map pairD) (fun i τ A' => ∃ x5 x6 x7 x8, τ = [some (.tup (G1.map rowD)), some (.tup (G2.map rowD)), some (.ref pp), some (.int (G1.length : Nat)), some (.ref C), x5, x6, x7, x8] ∧ FR A A' C qs (addQ G1.length (G1 ++ G2.map (shift G1.length)) (prs.take i))) ⟨_, _, _, _, rfl, by rw [List.take_zero]; exact f2⟩ (fun i τ A' ⟨_, _, _, _, _, f⟩ => items_lst (f.ex _ _ hpp)) (fun τ A3 ⟨x5, x6, x7, x8, et, f3⟩ => ?_) fun i d τ A' hd ⟨x5, x6, x7, x8, et, f⟩ => ?_
    · subst et
      rw [List.length_map, List.take_length] at f3
      have cm := comb_mid ok
      have cl : (combL G1 G2 prs).length < 60 := by rw [cm.len]; omega
      unfold u_l_swapped_1
      try dsimp only [qSeq, qIfS, qAnd, qOr, qNot, qTest, qOp, qCB, qCX, qCons, qNil, qC, qPut, qMt, qSet, qRet, qRetN, qDrop, qNext, qAndV, qOrV, qNotV, qIf, qChain, qTup, qLst, qSl, qPart, qNoPart, qAsg, qTru, qNeg, qRaise, qDropX, qBreak, qCont, qFor_eq, qLc_eq, qDc_eq, qiSeq, qiRange1, qiRange2, qiEnum, rII0, rII, CDiv, CMul, CPow, rAbs, rInt, rStrI, qTg, Tg.put, putsV, qYes, wipeD, qDisp, qPairs, qDNew]
      refine qVar_some rfl ?_
      refine qVar_some rfl ?_
      refine ⟨C, qs, combL G1 G2 prs, rfl, f3.hd.get 0, f3.rowsAt, comb_valid ok, cl, fun p order A4 ro e4 _ hp => ?_⟩
      refine ⟨C, p, qs, combL G1 G2 prs, order, ls, rfl, e4 _ _ (f3.hd.get 0), ⟨f3.len, fun i a r h1 h2 => e4 _ _ (f3.rowsAt.2 i a r h1 h2)⟩, comb_valid ok, cl, hp, ro, ok.lab, fun r hr => ⟨by have := (cm.row r hr).1; omega, fun s hs => ((cm.row r hr).2 s hs).1⟩, fun out A5 pk e5 => q out A5 order ro pk (f3.ex.trans (e4.trans e5))⟩
    · subst et
      rw [List.getElem?_map] at hd
      cases hs : prs[i]? with
      | none => rw [hs] at hd; cases hd
      | some p0 =>
        rw [hs] at hd
        cases hd
        obtain ⟨at', by'⟩ := p0
        have hi := (List.getElem?_eq_some_iff.mp hs).1
        have mN := midN ok i (by omega)
        have h12 := ok.pr _ (List.mem_of_getElem? hs)
        have hlt : at' < (addQ G1.length (G1 ++ G2.map (shift G1.length)) (prs.take i)).length := by rw [mN.len]; have := h12.1; dsimp only at this; omega
        have hg := getD_some hlt
        have hq : qs[at']? = some (qs[at']'(by rw [f.len]; exact hlt)) := List.getElem?_eq_getElem _
        generalize qs[at']'(by rw [f.len]; exact hlt) = pr at hq
        rw [addQ_take hs]
        dsimp only [pairD]
        refine x_tg2 ?_
        try dsimp only [qSeq, qIfS, qAnd, qOr, qNot, qTest, qOp, qCB, qCX, qCons, qNil, qC, qPut, qMt, qSet, qRet, qRetN, qDrop, qNext, qAndV, qOrV, qNotV, qIf, qChain, qTup, qLst, qSl, qPart, qNoPart, qAsg, qTru, qNeg, qRaise, qDropX, qBreak, qCont, qFor_eq, qLc_eq, qDc_eq, qiSeq, qiRange1, qiRange2, qiEnum, rII0, rII, CDiv, CMul, CPow, rAbs, rInt, rStrI, qTg, Tg.put, putsV, qYes, wipeD, qDisp, qPairs, qDNew]
        refine qVar_some rfl ?_
        refine qVar_some rfl ?_
        refine x_ix_lst (v := .ref pr) (f.hd.get 0) (atI_nat at' (by rw [List.getElem?_map, hq]; rfl)) ?_
        try dsimp only [qSeq, qIfS, qAnd, qOr, qNot, qTest, qOp, qCB, qCX, qCons, qNil, qC, qPut, qMt, qSet, qRet, qRetN, qDrop, qNext, qAndV, qOrV, qNotV, qIf, qChain, qTup, qLst, qSl, qPart, qNoPart, qAsg, qTru, qNeg, qRaise, qDropX, qBreak, qCont, qFor_eq, qLc_eq, qDc_eq, qiSeq, qiRange1, qiRange2, qiEnum, rII0, rII, CDiv, CMul, CPow, rAbs, rInt, rStrI, qTg, Tg.put, putsV, qYes, wipeD, qDisp, qPairs, qDNew]
        refine qVar_some rfl ?_
        refine ⟨pr, _, rfl, f.rowsAt.2 at' pr _ hq hg, ?_⟩
        refine ⟨sz rfl, ?_⟩
        refine qVar_some rfl ?_
        refine qVar_some rfl ?_
        try dsimp only [rAddU]
        refine ⟨sz rfl, ?_⟩
        refine ⟨_, _, rfl, f.rowsAt.2 at' pr _ hq hg, szt (by rw [List.length_map]; have := (mN.row _ (List.mem_of_getElem? hg)).1; omega), fun A4 p4 => ?_⟩
        refine ⟨_, _, _, _, rfl, ?_⟩
        refine f.put hq hg ?_
        rw [List.map_append]
        exact p4
  · subst et
    rw [List.getElem?_map] at hd
    cases hs : G2[i]? with
    | none => rw [hs] at hd; cases hd
    | some r0 =>
      rw [hs] at hd
      cases hd
      have hr0 := ok.g2.row r0 (List.mem_of_getElem? hs)
      have hi := (List.getElem?_eq_some_iff.mp hs).1
      try dsimp only [qSeq, qIfS, qAnd, qOr, qNot, qTest, qOp, qCB, qCX, qCons, qNil, qC, qPut, qMt, qSet, qRet, qRetN, qDrop, qNext, qAndV, qOrV, qNotV, qIf, qChain, qTup, qLst, qSl, qPart, qNoPart, qAsg, qTru, qNeg, qRaise, qDropX, qBreak, qCont, qFor_eq, qLc_eq, qDc_eq, qiSeq, qiRange1, qiRange2, qiEnum, rII0, rII, CDiv, CMul, CPow, rAbs, rInt, rStrI, qTg, Tg.put, putsV, qYes, wipeD, qDisp, qPairs, qDNew]
      refine qVar_some rfl ?_
      refine ⟨C, _, rfl, f.hd.get 0, ?_⟩
      refine qVar_some rfl ?_
      refine ⟨⟨_, rfl⟩, ?_⟩
      refine lcB_map (fun d => match d with | .tup [l, .int t] => .tup [l, .int ((G1.length : Int) + t)] | d => d) (xs := r0.map stepD) rfl (szt (by rw [List.length_map]; have := hr0.2.1; omega)) (fun p7 A7 n7 => ?_) fun d A7 Ky7 hd e7 k7 => ?_
      · have e7 : ((r0.map stepD).map (fun d => match d with | .tup [l, .int t] => .tup [l, .int ((G1.length : Int) + t)] | d => d)) = (shift G1.length r0).map stepD := by
          unfold shift
          rw [List.map_map, List.map_map]; rfl
        rw [e7] at n7
        refine ⟨_, _, rfl, n7.ext (f.hd.get 0), szt (by rw [List.length_map, f.len, List.length_append, List.length_map, List.length_take]; omega), fun A8 p8 => ⟨qs ++ [p7], _, _, _, _, rfl, ?_⟩⟩
        rw [take_next hs, List.map_append, ← List.append_assoc]
        exact f.add n7 p8
      · obtain ⟨⟨l, t⟩, hst, rfl⟩ := List.mem_map.mp hd
        dsimp only [stepD]
        try dsimp only [qSeq, qIfS, qAnd, qOr, qNot, qTest, qOp, qCB, qCX, qCons, qNil, qC, qPut, qMt, qSet, qRet, qRetN, qDrop, qNext, qAndV, qOrV, qNotV, qIf, qChain, qTup, qLst, qSl, qPart, qNoPart, qAsg, qTru, qNeg, qRaise, qDropX, qBreak, qCont, qFor_eq, qLc_eq, qDc_eq, qiSeq, qiRange1, qiRange2, qiEnum, rII0, rII, CDiv, CMul, CPow, rAbs, rInt, rStrI, qTg, Tg.put, putsV, qYes, wipeD, qDisp, qPairs, qDNew]
        refine qVar_some rfl ?_
        refine x_tup0 ?_
        refine qVar_some rfl ?_
        refine qVar_some rfl ?_
        refine x_tup1 ?_
        try dsimp only [rAddU]
        exact ⟨sz rfl, k7⟩
end
end L49

set_option Elab.async false
set_option linter.all false
set_option maxRecDepth 100000
set_option maxHeartbeats 4000000
namespace L49
open PySem PySem.Spec PyProof.Rows L2 DL
section
variable {P : Program} {w : World} {K : PySem.W.Frag} {mg : Str → Option Value} {base : Heap}
theorem isPr_true {x : D} {n m : Nat} (h : isPr x n m = true) : ∃ p : Nat × Nat, x = pairD p ∧ p.1 < n ∧ p.2 < m := by
  unfold isPr at h
  split at h
  · rename_i a b
    rw [Bool.and_eq_true] at h
    obtain ⟨h1, h2⟩ := h
    have key : ∀ {a : D} {n : Nat}, isSt a n = true → ∃ k : Nat, a = .int k ∧ k < n := fun {a n} h => by
      unfold isSt at h
      split at h
      · rename_i i
        rw [Bool.and_eq_true, decide_eq_true_eq, decide_eq_true_eq] at h
        exact ⟨i.toNat, by congr 1; omega, by omega⟩
      · cases h
    obtain ⟨k, rfl, hk⟩ := key h1
    obtain ⟨j, rfl, hj⟩ := key h2
    exact ⟨(k, j), rfl, hk, hj⟩
  · cases h
theorem TwoOk.more {ls : List D} {G1 G2 : List Rw} {prs : List (Nat × Nat)} (h : TwoOk ls G1 G2 []) (hl : prs.length ≤ 12) (hp : ∀ p ∈ prs, p.1 < G1.length ∧ p.2 < G2.length) : TwoOk ls G1 G2 prs := ⟨h.lab, h.q, h.g1, h.g2, h.p1, h.n1, h.n2, hl, hp⟩
theorem addQ_app {n : Nat} {H : List Rw} : ∀ {prs : List (Nat × Nat)} {G : List Rw}, (∀ p ∈ prs, p.1 < G.length) → addQ n (G ++ H) prs = addQ n G prs ++ H
  | [], _, _ => rfl
  | p :: prs, G, h => by
    have hp := h p List.mem_cons_self
    show addQ n (addQ1 n (G ++ H) p) prs = addQ n (addQ1 n G p) prs ++ H
    have e : addQ1 n (G ++ H) p = addQ1 n G p ++ H := by
      unfold addQ1
      rw [List.set_append_left _ _ hp, List.getD_eq_getElem?_getD, List.getElem?_append_left hp, ← List.getD_eq_getElem?_getD]
    rw [e]
    exact addQ_app fun q hq => by
      unfold addQ1
      rw [List.length_set]
      exact h q (List.mem_cons_of_mem _ hq)
theorem one_rows {ls : List D} {G1 G2 : List Rw} {prs : List (Nat × Nat)} (h : TwoOk ls G1 G2 prs) : ∀ r ∈ addQ G1.length G1 prs, r.length < 64 ∧ ∀ s ∈ r, s.1 ∈ ls ∧ s.2 < G1.length + G2.length := fun r hr => by
  have m := comb_mid h
  have e : combL G1 G2 prs = addQ G1.length G1 prs ++ G2.map (shift G1.length) := addQ_app fun p hp => (h.pr p hp).1
  have := m.row r (by rw [e]; exact List.mem_append_left _ hr)
  exact ⟨by have := this.1; omega, this.2⟩
theorem two_rows {ls : List D} {G1 G2 : List Rw} {prs : List (Nat × Nat)} (h : TwoOk ls G1 G2 prs) : ∀ r ∈ G2.map (shift G1.length), r.length < 64 ∧ ∀ s ∈ r, s.1 ∈ ls ∧ s.2 < G1.length + G2.length := fun r hr => by
  have m := comb_mid h
  have e : combL G1 G2 prs = addQ G1.length G1 prs ++ G2.map (shift G1.length) := addQ_app fun p hp => (h.pr p hp).1
  have := m.row r (by rw [e]; exact List.mem_append_right _ hr)
  exact ⟨by have := this.1; omega, this.2⟩
def graphD (d1 d2 : D) (G : List Rw) : D := .tup [.str "graph", d1, d2, .tup (G.map rowD)]
def spSwapping (K : PySem.W.Frag) : DSpX := fun ds A Q E => ∃ ls d1 d2 e1 e2 G1 G2 pp, ds = [graphD d1 d2 G1, graphD e1 e2 G2, pp] ∧ txt (.tup [d1, d2]) = true ∧ txt (.tup [e1, e2]) = true ∧ (toN (.tup [d1, d2])).depth ≤ 60 ∧ (toN (.tup [e1, e2])).depth ≤ 60 ∧
  ((D.tup [d1, d2] ≠ .tup [e1, e2] → ∀ A', Ext A A' → E (.ref (He.ga K "BadGraph")) A') ∧
   (D.tup [d1, d2] = .tup [e1, e2] → ∃ xs, items? A pp = some xs ∧ (∀ x ∈ xs, prOk x) ∧ xs.length ≤ 12 ∧ TwoOk ls G1 G2 [] ∧
    ((∃ x ∈ xs, isPr x G1.length G2.length = false) → ∀ A', Ext A A' → E (.ref (He.ga K "BadGraph")) A') ∧
    ∀ prs, xs = prs.map pairD → TwoOk ls G1 G2 prs → ∀ os out A', Packed (addQ G1.length G1 prs) os → Trim (os ++ G2.map (shift G1.length)) out → Ext A A' → Q (graphD d1 d2 out) A'))
theorem swapping_end (T : Top K mg) {ls : List D} {d1 d2 e1 e2 : D} {G1 G2 : List Rw} {prs : List (Nat × Nat)} {pp : D} {A A3 : DA} {C : Addr} {qs : List Addr} {x5 x6 x7 x8 : Option D} {E : DEnds} (ok : TwoOk ls G1 G2 prs) (f : FR A A3 C qs (addQ G1.length G1 prs))
    (q : ∀ os out A', Packed (addQ G1.length G1 prs) os → Trim (os ++ G2.map (shift G1.length)) out → Ext A A' → E.rt (graphD d1 d2 out) A') :
    u_swapping_2 K w spIsPair spDoorsOf spTrimmed E [some (graphD d1 d2 G1), some (graphD e1 e2 G2), some pp, some (.int (G1.length : Nat)), some (.ref C), x5, x6, x7, x8] A3 := by
  have hrs := f.rowsAt
  have hr := one_rows ok
  have h2 := two_rows ok
  have hn1 := ok.n1
  have hn2 := ok.n2
  have hp1 := ok.p1
  have hl : (addQ G1.length G1 prs).length = G1.length := addQ_len
  have hg2l : ∀ r ∈ G2, r.length ≤ 45 := fun r hr => (ok.g2.row r hr).2.1
  have hC := f.hd.get 0
  have hE := f.ex
  have hlab := ok.lab
  clear f
  generalize hA1 : addQ G1.length G1 prs = rs at *
  unfold u_swapping_2
  try dsimp only [qSeq, qIfS, qAnd, qOr, qNot, qTest, qOp, qCB, qCX, qCons, qNil, qC, qPut, qMt, qSet, qRet, qRetN, qDrop, qNext, qAndV, qOrV, qNotV, qIf, qChain, qTup, qLst, qSl, qPart, qNoPart, qAsg, qTru, qNeg, qRaise, qDropX, qBreak, qCont, qFor_eq, qLc_eq, qDc_eq, qiSeq, qiRange1, qiRange2, qiEnum, rII0, rII, CDiv, CMul, CPow, rAbs, rInt, rStrI, qTg, Tg.put, putsV, qYes, wipeD, qDisp, qPairs, qDNew]
  refine qVar_some rfl ?_
  refine ⟨⟨_, items_lst hC⟩, ?_⟩
  refine lcB_ext qs.length (fun i => .ref (qs.getD i 0)) (fun i y => ∃ r o : Rw, rs[i]? = some r ∧ y = rowD o ∧ SortSet r o) (fun i A1 hi e => ⟨_, items_lst (e _ _ hC), ?_⟩) (szt (by rw [hrs.1]; omega)) (fun p A1 ys g1 g2 e f n => ?_) fun i A1 Ky hi e hk => ?_
  · by_cases h : i < qs.length
    · rw [if_pos h, List.getElem?_map, List.getD_eq_getElem?_getD, List.getElem?_eq_getElem h]; rfl
    · rw [if_neg h, List.getElem?_map, List.getElem?_eq_none (by omega)]; rfl
  · obtain ⟨os, rfl, pk⟩ := rows_ex (R := fun _ _ => True) (g1.trans hrs.1) g2
    have hos : ∀ o ∈ os, o.length ≤ 1000 ∧ ∀ s ∈ o, s.2 < G1.length + G2.length := fun o ho => by
      obtain ⟨i, hi⟩ := List.getElem?_of_mem ho
      have hlt := (List.getElem?_eq_some_iff.mp hi).1
      have hri : rs[i]? = some (rs[i]'(by rw [← pk.1]; exact hlt)) := List.getElem?_eq_getElem _
      have ss := pk.2 i _ o hri hi
      have h0 := hr _ (List.mem_of_getElem? hri)
      exact ⟨by have := ss.len; have := h0.1; omega, fun s hs => (h0.2 s ((ss.mem s).mp hs)).2⟩
    have hosl : os.length = G1.length := pk.1.trans hl
    try dsimp only [qSeq, qIfS, qAnd, qOr, qNot, qTest, qOp, qCB, qCX, qCons, qNil, qC, qPut, qMt, qSet, qRet, qRetN, qDrop, qNext, qAndV, qOrV, qNotV, qIf, qChain, qTup, qLst, qSl, qPart, qNoPart, qAsg, qTru, qNeg, qRaise, qDropX, qBreak, qCont, qFor_eq, qLc_eq, qDc_eq, qiSeq, qiRange1, qiRange2, qiEnum, rII0, rII, CDiv, CMul, CPow, rAbs, rInt, rStrI, qTg, Tg.put, putsV, qYes, wipeD, qDisp, qPairs, qDNew]
    refine qVar_some rfl ?_
    refine ⟨p, _, rfl, n, ?_⟩
    refine qVar_some rfl ?_
    refine x_tup3 ⟨⟨_, rfl⟩, ?_⟩
    refine lcB_ext G2.length (fun i => rowD (G2.getD i [])) (fun i y => ∃ r : Rw, G2[i]? = some r ∧ y = rowD (shift G1.length r)) (fun i A1 hi e => ⟨_, rfl, ?_⟩) (szt (by omega)) (fun p2 A2 ys g1 g2 e2 f2 n2 => ?_) fun i A2 Ky hi e2 hk => ?_
    · by_cases h : i < G2.length
      · rw [if_pos h, getD_row h]
      · rw [if_neg h, List.getElem?_map, List.getElem?_eq_none (by omega)]; rfl
    · have ey : ys = (G2.map (shift G1.length)).map rowD := by
        rw [List.map_map]
        apply List.ext_getElem?
        intro i
        rw [List.getElem?_map]
        cases e : ys[i]? with
        | none =>
          rw [List.getElem?_eq_none_iff] at e
          rw [List.getElem?_eq_none (by omega)]; rfl
        | some y =>
          obtain ⟨r, hr, rfl⟩ := g2 i y e
          rw [hr]; rfl
      subst ey
      refine ⟨p2, _, _, rfl, e2 _ _ n, n2, szl (by rw [List.length_map, List.length_map, List.length_map]; omega), fun A4 p4 => ?_⟩
      rw [← List.map_append] at p4
      have eA4 : Ext A A4 := ExtBut.to (A0 := A) (p := p) (by
        cases ez : A p with
        | none => rfl
        | some o => have := hE _ _ ez; rw [f] at this; cases this) (hE.trans (e.trans e2)) (.put p4)
      try dsimp only [qSeq, qIfS, qAnd, qOr, qNot, qTest, qOp, qCB, qCX, qCons, qNil, qC, qPut, qMt, qSet, qRet, qRetN, qDrop, qNext, qAndV, qOrV, qNotV, qIf, qChain, qTup, qLst, qSl, qPart, qNoPart, qAsg, qTru, qNeg, qRaise, qDropX, qBreak, qCont, qFor_eq, qLc_eq, qDc_eq, qiSeq, qiRange1, qiRange2, qiEnum, rII0, rII, CDiv, CMul, CPow, rAbs, rInt, rStrI, qTg, Tg.put, putsV, qYes, wipeD, qDisp, qPairs, qDNew]
      refine qVar_some rfl ?_
      refine x_tup1 ?_
      refine qVar_some rfl ?_
      refine x_tup2 ?_
      refine qVar_some rfl ?_
      refine ⟨p, os ++ G2.map (shift G1.length), rfl, p4.get, ⟨?_, fun r hr s hs => ?_⟩, ?_, fun r hr => ?_, fun out A5 tr e5 => ?_⟩
      · rw [List.length_append]; omega
      · rw [List.length_append, List.length_map, hosl]
        rcases List.mem_append.mp hr with z | z
        · exact (hos r z).2 s hs
        · exact ((h2 r z).2 s hs).2
      · rw [List.length_append, List.length_map]; omega
      · rcases List.mem_append.mp hr with z | z
        · exact (hos r z).1
        · have := (h2 r z).1; omega
      · exact ⟨sz rfl, q os out A5 pk tr (eA4.trans e5)⟩
    · have hri := getD_some hi
      generalize G2.getD i [] = r at hri
      have hrl := hg2l r (List.mem_of_getElem? hri)
      dsimp only [rowD]
      try dsimp only [qSeq, qIfS, qAnd, qOr, qNot, qTest, qOp, qCB, qCX, qCons, qNil, qC, qPut, qMt, qSet, qRet, qRetN, qDrop, qNext, qAndV, qOrV, qNotV, qIf, qChain, qTup, qLst, qSl, qPart, qNoPart, qAsg, qTru, qNeg, qRaise, qDropX, qBreak, qCont, qFor_eq, qLc_eq, qDc_eq, qiSeq, qiRange1, qiRange2, qiEnum, rII0, rII, CDiv, CMul, CPow, rAbs, rInt, rStrI, qTg, Tg.put, putsV, qYes, wipeD, qDisp, qPairs, qDNew]
      refine qVar_some rfl ?_
      refine ⟨⟨_, rfl⟩, ?_⟩
      refine lcB_map (fun d => match d with | .tup [l, .int t] => .tup [l, .int ((G1.length : Int) + t)] | d => d) (xs := r.map stepD) rfl (szt (by rw [List.length_map]; omega)) (fun p7 A7 n7 => ?_) fun d A7 Ky7 hd e7 k7 => ?_
      · refine ⟨_, _, rfl, items_lst n7.get, hk _ _ ⟨r, hri, ?_⟩ n7.ex⟩
        unfold shift rowD
        rw [List.map_map, List.map_map]; rfl
      · obtain ⟨⟨l, t⟩, hst, rfl⟩ := List.mem_map.mp hd
        dsimp only [stepD]
        refine x_tg2 ?_
        try dsimp only [qSeq, qIfS, qAnd, qOr, qNot, qTest, qOp, qCB, qCX, qCons, qNil, qC, qPut, qMt, qSet, qRet, qRetN, qDrop, qNext, qAndV, qOrV, qNotV, qIf, qChain, qTup, qLst, qSl, qPart, qNoPart, qAsg, qTru, qNeg, qRaise, qDropX, qBreak, qCont, qFor_eq, qLc_eq, qDc_eq, qiSeq, qiRange1, qiRange2, qiEnum, rII0, rII, CDiv, CMul, CPow, rAbs, rInt, rStrI, qTg, Tg.put, putsV, qYes, wipeD, qDisp, qPairs, qDNew]
        refine qVar_some rfl ?_
        refine qVar_some rfl ?_
        refine qVar_some rfl ?_
        try dsimp only [rAddU]
        exact ⟨sz rfl, k7⟩
  · have hp : qs[i]? = some (qs.getD i 0) := by rw [List.getD_eq_getElem?_getD, List.getElem?_eq_getElem hi]; rfl
    have hri : rs[i]? = some (rs[i]'(by rw [← hrs.1]; exact hi)) := List.getElem?_eq_getElem _
    have hat := e _ _ (hrs.2 i _ _ hp hri)
    have hrr := hr _ (List.mem_of_getElem? hri)
    generalize rs[i]'(by rw [← hrs.1]; exact hi) = r at hri hat hrr
    try dsimp only [qSeq, qIfS, qAnd, qOr, qNot, qTest, qOp, qCB, qCX, qCons, qNil, qC, qPut, qMt, qSet, qRet, qRetN, qDrop, qNext, qAndV, qOrV, qNotV, qIf, qChain, qTup, qLst, qSl, qPart, qNoPart, qAsg, qTru, qNeg, qRaise, qDropX, qBreak, qCont, qFor_eq, qLc_eq, qDc_eq, qiSeq, qiRange1, qiRange2, qiEnum, rII0, rII, CDiv, CMul, CPow, rAbs, rInt, rStrI, qTg, Tg.put, putsV, qYes, wipeD, qDisp, qPairs, qDNew]
    refine qVar_some rfl ?_
    refine ⟨_, _, rfl, items_lst hat, fun x hx => ?_, by rw [List.length_map]; exact hrr.1, fun zs p1 A2 so hlen n1 => ?_⟩
    · obtain ⟨s, hs, rfl⟩ := List.mem_map.mp hx
      exact step_okSet hlab (hrr.2 s hs).1
    · refine .inr (.inr ⟨p1, zs, rfl, n1.get, (steps_sort hlab fun s hs => (hrr.2 s hs).1).sub fun y hy => (so.mem y).mp hy, fun ys p2 A3 so2 n2 => ?_⟩)
      obtain ⟨o, rfl, ss⟩ := sortSet_of hlab (fun s hs => (hrr.2 s hs).1) so so2
      exact ⟨_, _, rfl, items_lst n2.get, hk _ _ ⟨r, o, hri, rfl, ss⟩ (n1.ex.trans n2.ex)⟩
theorem ok_swapping (T : Top K mg) : DFnX P w K mg base 4 (He.ga K "swapping") (fdO K (He.ga K "swapping")) ["elder", "newer", "pairs"] (spSwapping K) := by
  refine dfunX_ok T.d_swapping sc_swapping (fun ds A Q E ⟨_, _, _, _, _, _, _, _, h, _⟩ => by rw [h]; rfl) (b_swapping T (ok_is_pair T) (ok_doors_of T) (ok_trimmed T)) fun ds A Q E ⟨ls, d1, d2, e1, e2, G1, G2, pp, hd, t1, t2, dp1, dp2, qb, qg⟩ => ?_
  subst hd
  unfold t_swapping
  try dsimp only [qSeq, qIfS, qAnd, qOr, qNot, qTest, qOp, qCB, qCX, qCons, qNil, qC, qPut, qMt, qSet, qRet, qRetN, qDrop, qNext, qAndV, qOrV, qNotV, qIf, qChain, qTup, qLst, qSl, qPart, qNoPart, qAsg, qTru, qNeg, qRaise, qDropX, qBreak, qCont, qFor_eq, qLc_eq, qDc_eq, qiSeq, qiRange1, qiRange2, qiEnum, rII0, rII, CDiv, CMul, CPow, rAbs, rInt, rStrI, qTg, Tg.put, putsV, qYes, wipeD, qDisp, qPairs, qDNew]
  refine qVar_some rfl ?_
  refine ⟨_, d1, d2, _, rfl, ?_⟩
  refine qVar_some rfl ?_
  refine ⟨_, e1, e2, _, rfl, ?_⟩
  refine x_eqP t1 t2 dp1 dp2 ?_
  rw [if_pos rfl]
  by_cases hdd : D.tup [d1, d2] ≠ .tup [e1, e2]
  · rw [decide_eq_false hdd]
    refine x_ifT rfl ?_
    exact qb hdd A (.refl A)
  have hdd := Decidable.not_not.mp hdd
  rw [decide_eq_true hdd]
  refine x_ifF rfl ?_
  obtain ⟨xs, hx, hpr, hxl, ok, qe, q⟩ := qg hdd
  have hn1 := ok.n1
  have hn2 := ok.n2
  unfold u_swapping_3
  try dsimp only [qSeq, qIfS, qAnd, qOr, qNot, qTest, qOp, qCB, qCX, qCons, qNil, qC, qPut, qMt, qSet, qRet, qRetN, qDrop, qNext, qAndV, qOrV, qNotV, qIf, qChain, qTup, qLst, qSl, qPart, qNoPart, qAsg, qTru, qNeg, qRaise, qDropX, qBreak, qCont, qFor_eq, qLc_eq, qDc_eq, qiSeq, qiRange1, qiRange2, qiEnum, rII0, rII, CDiv, CMul, CPow, rAbs, rInt, rStrI, qTg, Tg.put, putsV, qYes, wipeD, qDisp, qPairs, qDNew]
  refine qVar_some rfl ?_
  refine x_tup3 ?_
  refine x_len_tup ?_
  rw [List.length_map]
  try dsimp only [qSeq, qIfS, qAnd, qOr, qNot, qTest, qOp, qCB, qCX, qCons, qNil, qC, qPut, qMt, qSet, qRet, qRetN, qDrop, qNext, qAndV, qOrV, qNotV, qIf, qChain, qTup, qLst, qSl, qPart, qNoPart, qAsg, qTru, qNeg, qRaise, qDropX, qBreak, qCont, qFor_eq, qLc_eq, qDc_eq, qiSeq, qiRange1, qiRange2, qiEnum, rII0, rII, CDiv, CMul, CPow, rAbs, rInt, rStrI, qTg, Tg.put, putsV, qYes, wipeD, qDisp, qPairs, qDNew]
  refine qVar_some rfl ?_
  refine x_tup3 ⟨⟨_, rfl⟩, ?_⟩
  refine copy_rows (by omega) (fun xs A' Ky k => ?_) fun C qs A1 f1 => ?_
  · try dsimp only [qSeq, qIfS, qAnd, qOr, qNot, qTest, qOp, qCB, qCX, qCons, qNil, qC, qPut, qMt, qSet, qRet, qRetN, qDrop, qNext, qAndV, qOrV, qNotV, qIf, qChain, qTup, qLst, qSl, qPart, qNoPart, qAsg, qTru, qNeg, qRaise, qDropX, qBreak, qCont, qFor_eq, qLc_eq, qDc_eq, qiSeq, qiRange1, qiRange2, qiEnum, rII0, rII, CDiv, CMul, CPow, rAbs, rInt, rStrI, qTg, Tg.put, putsV, qYes, wipeD, qDisp, qPairs, qDNew]
    refine qVar_some rfl ?_
    exact ⟨_, xs, rfl, rfl, k⟩
  try dsimp only [qSeq, qIfS, qAnd, qOr, qNot, qTest, qOp, qCB, qCX, qCons, qNil, qC, qPut, qMt, qSet, qRet, qRetN, qDrop, qNext, qAndV, qOrV, qNotV, qIf, qChain, qTup, qLst, qSl, qPart, qNoPart, qAsg, qTru, qNeg, qRaise, qDropX, qBreak, qCont, qFor_eq, qLc_eq, qDc_eq, qiSeq, qiRange1, qiRange2, qiEnum, rII0, rII, CDiv, CMul, CPow, rAbs, rInt, rStrI, qTg, Tg.put, putsV, qYes, wipeD, qDisp, qPairs, qDNew]
  refine qVar_some rfl ?_
  refine ⟨⟨_, items_ext f1.ex hx⟩, ?_⟩
  refine forB_seq xs (fun i τ A' => ∃ prs x5 x6 x7 x8, τ = [some (graphD d1 d2 G1), some (graphD e1 e2 G2), some pp, some (.int (G1.length : Nat)), some (.ref C), x5, x6, x7, x8] ∧ xs.take i = prs.map pairD ∧ (∀ p ∈ prs, p.1 < G1.length ∧ p.2 < G2.length) ∧ FR A A' C qs (addQ G1.length G1 prs)) ⟨[], _, _, _, _, rfl, by rw [List.take_zero]; rfl, fun p h => (nomatch h), f1⟩ (fun i τ A' ⟨_, _, _, _, _, _, _, _, f⟩ => items_ext f.ex hx) (fun τ A3 ⟨prs, x5, x6, x7, x8, et, hx2, hb, f3⟩ => ?_) fun i x τ A' hxi ⟨prs, x5, x6, x7, x8, et, hx2, hb, f⟩ => ?_
  · subst et
    rw [List.take_length] at hx2
    have ok2 := ok.more (prs := prs) (by rw [hx2, List.length_map] at hxl; exact hxl) hb
    exact swapping_end T ok2 f3 fun os out A' pk tr e => q prs hx2 ok2 os out A' pk tr e
  · subst et
    try dsimp only [qSeq, qIfS, qAnd, qOr, qNot, qTest, qOp, qCB, qCX, qCons, qNil, qC, qPut, qMt, qSet, qRet, qRetN, qDrop, qNext, qAndV, qOrV, qNotV, qIf, qChain, qTup, qLst, qSl, qPart, qNoPart, qAsg, qTru, qNeg, qRaise, qDropX, qBreak, qCont, qFor_eq, qLc_eq, qDc_eq, qiSeq, qiRange1, qiRange2, qiEnum, rII0, rII, CDiv, CMul, CPow, rAbs, rInt, rStrI, qTg, Tg.put, putsV, qYes, wipeD, qDisp, qPairs, qDNew]
    refine qVar_some rfl ?_
    refine qVar_some rfl ?_
    refine qVar_some rfl ?_
    refine x_tup3 ?_
    refine x_len_tup ?_
    rw [List.length_map]
    refine ⟨x, _, _, rfl, hpr x (List.mem_of_getElem? hxi), ?_⟩
    show if (!(isPr x (G1.length : Nat) (G2.length : Nat))) = true then _ else _
    cases e : isPr x (G1.length : Nat) (G2.length : Nat) with
    | false =>
      refine x_ifT rfl ?_
      exact qe ⟨x, List.mem_of_getElem? hxi, e⟩ A' f.ex
    | true =>
      refine x_ifF rfl ?_
      obtain ⟨⟨a, b⟩, rfl, h1, h2⟩ := isPr_true e
      dsimp only at h1 h2
      have hlt : a < (addQ G1.length G1 prs).length := by rw [addQ_len]; exact h1
      have hg := getD_some hlt
      have hq : qs[a]? = some (qs[a]'(by rw [f.len]; exact hlt)) := List.getElem?_eq_getElem _
      generalize qs[a]'(by rw [f.len]; exact hlt) = pr at hq
      have hi := (List.getElem?_eq_some_iff.mp hxi).1
      have hpl : prs.length ≤ 12 := by
        have := congrArg List.length hx2
        rw [List.length_take, List.length_map] at this
        omega
      unfold u_swapping_1
      try dsimp only [qSeq, qIfS, qAnd, qOr, qNot, qTest, qOp, qCB, qCX, qCons, qNil, qC, qPut, qMt, qSet, qRet, qRetN, qDrop, qNext, qAndV, qOrV, qNotV, qIf, qChain, qTup, qLst, qSl, qPart, qNoPart, qAsg, qTru, qNeg, qRaise, qDropX, qBreak, qCont, qFor_eq, qLc_eq, qDc_eq, qiSeq, qiRange1, qiRange2, qiEnum, rII0, rII, CDiv, CMul, CPow, rAbs, rInt, rStrI, qTg, Tg.put, putsV, qYes, wipeD, qDisp, qPairs, qDNew]
      refine qVar_some rfl ?_
      refine qVar_some rfl ?_
      refine x_tup0 ?_
      refine x_ix_lst (v := .ref pr) (f.hd.get 0) (atI_nat a (by rw [List.getElem?_map, hq]; rfl)) ?_
      refine ⟨pr, _, rfl, f.rowsAt.2 a pr _ hq hg, ?_⟩
      refine qVar_some rfl ?_
      refine qVar_some rfl ?_
      refine x_tup1 ?_
      try dsimp only [rAddU]
      refine ⟨sz rfl, ?_⟩
      refine ⟨_, _, rfl, f.rowsAt.2 a pr _ hq hg, szt (by rw [List.length_map]; have := (one_rows (ok.more hpl hb) _ (List.mem_of_getElem? hg)).1; omega), fun A4 p4 => ?_⟩
      refine ⟨prs ++ [(a, b)], _, _, _, _, rfl, by rw [take_next hxi, hx2, List.map_append]; rfl, fun p hp => ?_, ?_⟩
      · rcases List.mem_append.mp hp with z | z
        · exact hb p z
        · rw [List.mem_singleton.mp z]; exact ⟨h1, h2⟩
      · have e : addQ G1.length G1 (prs ++ [(a, b)]) = addQ1 G1.length (addQ G1.length G1 prs) (a, b) := by unfold addQ; rw [List.foldl_append]; rfl
        rw [e]
        refine f.put hq hg ?_
        rw [List.map_append]
        exact p4
end
end L49

set_option Elab.async false
set_option linter.all false
set_option maxRecDepth 100000
set_option maxHeartbeats 4000000
namespace L49
open PySem PySem.Spec PyProof.Rows L2 DL
/-! ### the plain law: both roads tell the same graph -/
theorem stepLt_iff {a b : D × Nat} : stepLt a b ↔ (if toN a.1 = toN b.1 then a.2 < b.2 else kLt (toN a.1) (toN b.1) = true) := by
  unfold stepLt stepD
  simp only [toN, toNs, kLt]
  rw [kLts_cons]
  by_cases h : toN a.1 = toN b.1
  · rw [if_pos h, if_pos h, kLts_cons]
    by_cases e : a.2 = b.2
    · rw [e, if_pos rfl]
      simp [kLts]
    · rw [if_neg (by simp; omega)]
      simp only [kLt, decide_eq_true_eq]
      omega
  · rw [if_neg h, if_neg h]
theorem stepLt_map {a b : D × Nat} {f : Nat → Nat} (h : stepLt a b) (hf : a.2 < b.2 → f a.2 < f b.2) : stepLt (a.1, f a.2) (b.1, f b.2) := by
  rw [stepLt_iff] at h ⊢
  try dsimp only
  split
  · rename_i e
    rw [if_pos e] at h
    exact hf h
  · rename_i e
    rw [if_neg e] at h
    exact h
theorem step_unique : ∀ {a b : Rw}, a.Pairwise stepLt → b.Pairwise stepLt → (∀ k, k ∈ a ↔ k ∈ b) → a = b
  | [], [], _, _, _ => rfl
  | [], y :: b, _, _, h => absurd ((h y).mpr List.mem_cons_self) (by simp)
  | x :: a, [], _, _, h => absurd ((h x).mp List.mem_cons_self) (by simp)
  | x :: a, y :: b, ha, hb, h => by
    obtain ⟨ha1, ha2⟩ := List.pairwise_cons.mp ha
    obtain ⟨hb1, hb2⟩ := List.pairwise_cons.mp hb
    have e : x = y := by
      have h1 := (h x).mp List.mem_cons_self
      have h2 := (h y).mpr List.mem_cons_self
      rcases List.mem_cons.mp h1 with e | h1
      · exact e
      · rcases List.mem_cons.mp h2 with e | h2
        · exact e.symm
        · have h3 := ha1 y h2
          have h4 := hb1 x h1
          exact absurd (kLt_trans _ _ _ h3 h4) (stepLt_irr x)
    subst e
    refine congrArg (x :: ·) (step_unique ha2 hb2 fun k => ⟨fun hk => ?_, fun hk => ?_⟩)
    · rcases List.mem_cons.mp ((h k).mp (List.mem_cons_of_mem _ hk)) with e | z
      · subst e; exact absurd (ha1 k hk) (stepLt_irr k)
      · exact z
    · rcases List.mem_cons.mp ((h k).mpr (List.mem_cons_of_mem _ hk)) with e | z
      · subst e; exact absurd (hb1 k hk) (stepLt_irr k)
      · exact z
theorem reach_le {G H : List Rw} (h : ∀ k s, s ∈ G.getD k [] → s ∈ H.getD k []) {k : Nat} (r : Reach G k) : Reach H k := by
  induction r with
  | zero => exact .zero
  | step _ hs ih => exact .step ih (h _ _ hs)
theorem ro_same {G H : List Rw} (h : ∀ k s, s ∈ G.getD k [] ↔ s ∈ H.getD k []) {o1 o2 : List Nat} (r1 : RO G o1) (r2 : RO H o2) : o1 = o2 :=
  ord_unique r1.ord r2.ord fun k => by
    rw [r1.mem, r2.mem]
    exact ⟨reach_le fun k s => (h k s).mp, reach_le fun k s => (h k s).mpr⟩
theorem idx_mono {order : List Nat} (h : order.Pairwise (· < ·)) {a b : Nat} (ha : a ∈ order) (hb : b ∈ order) (hab : a < b) : order.idxOf a < order.idxOf b := by
  obtain ⟨i, hi⟩ := List.getElem?_of_mem ha
  obtain ⟨j, hj⟩ := List.getElem?_of_mem hb
  rw [idx_at h hi, idx_at h hj]
  obtain ⟨hi1, hi2⟩ := List.getElem?_eq_some_iff.mp hi
  obtain ⟨hj1, hj2⟩ := List.getElem?_eq_some_iff.mp hj
  have pw := List.pairwise_iff_getElem.mp h
  rcases Nat.lt_trichotomy i j with z | z | z
  · exact z
  · subst z; omega
  · have := pw j i hj1 hi1 z; omega
/-- the same reached rows, packed behind or ahead -/
theorem trim_packed {G H o1 o2 : List Rw} {order : List Nat} (hm : ∀ k s, s ∈ H.getD k [] ↔ s ∈ G.getD k []) (hs : ∀ r ∈ H, r.Pairwise stepLt) (ro : RO G order) (pk : Packed (rawOf G order) o1) (tr : Trim H o2) : o1 = o2 := by
  obtain ⟨order2, ro2, rfl⟩ := tr
  have e : order2 = order := ro_same hm ro2 ro
  subst e
  have hl : o1.length = order2.length := by rw [pk.1]; unfold rawOf; rw [List.length_map]
  apply List.ext_getElem?
  intro i
  by_cases hi : i < order2.length
  · have ho : order2[i]? = some order2[i] := List.getElem?_eq_getElem hi
    generalize order2[i] = s at ho
    have h1 : o1[i]? = some (o1[i]'(by omega)) := List.getElem?_eq_getElem _
    have hr : (rawOf G order2)[i]? = some ((G.getD s []).map fun p => (p.1, order2.idxOf p.2)) := by
      unfold rawOf
      rw [List.getElem?_map, ho]; rfl
    have ss := pk.2 i _ _ hr h1
    rw [h1, List.getElem?_map, ho]
    refine congrArg some (step_unique ss.ord ?_ fun k => ?_)
    · have hrs : Reach G s := (ro.mem s).mp (List.mem_of_getElem? ho)
      have hrow : (H.getD s []).Pairwise stepLt := by
        rw [List.getD_eq_getElem?_getD]
        cases e : H[s]? with
        | none => exact .nil
        | some r => exact hs r (List.mem_of_getElem? e)
      rw [List.pairwise_map]
      refine List.Pairwise.imp_of_mem (fun {a b} ha hb h => ?_) hrow
      have ha2 : a.2 ∈ order2 := (ro.mem _).mpr (.step hrs ((hm s a).mp ha))
      have hb2 : b.2 ∈ order2 := (ro.mem _).mpr (.step hrs ((hm s b).mp hb))
      exact stepLt_map (f := fun t => order2.idxOf t) h fun z => idx_mono ro.ord ha2 hb2 z
    · rw [ss.mem]
      constructor
      · intro hk
        obtain ⟨p, hp, e⟩ := List.mem_map.mp hk
        exact List.mem_map.mpr ⟨p, (hm s p).mpr hp, e⟩
      · intro hk
        obtain ⟨p, hp, e⟩ := List.mem_map.mp hk
        exact List.mem_map.mpr ⟨p, (hm s p).mp hp, e⟩
  · rw [List.getElem?_eq_none (by omega), List.getElem?_eq_none (by rw [List.length_map]; omega)]
theorem swapped_same {ls : List D} {G1 G2 os o1 o2 : List Rw} {prs : List (Nat × Nat)} {order : List Nat} (ok : TwoOk ls G1 G2 prs) (ro : RO (combL G1 G2 prs) order) (pk : Packed (rawOf (combL G1 G2 prs) order) o1) (ps : Packed (addQ G1.length G1 prs) os) (tr : Trim (os ++ G2.map (shift G1.length)) o2) : o1 = o2 := by
  have e : combL G1 G2 prs = addQ G1.length G1 prs ++ G2.map (shift G1.length) := addQ_app fun p hp => (ok.pr p hp).1
  rw [e] at ro pk
  refine trim_packed (fun k s => ?_) (fun r hr => ?_) ro pk tr
  · rw [List.getD_eq_getElem?_getD, List.getD_eq_getElem?_getD]
    by_cases h : k < os.length
    · have h2 : k < (addQ G1.length G1 prs).length := by rw [← ps.1]; exact h
      rw [List.getElem?_append_left h, List.getElem?_append_left h2]
      have a1 := List.getElem?_eq_getElem h
      have a2 := List.getElem?_eq_getElem h2
      rw [a1, a2]
      exact (ps.2 k _ _ a2 a1).mem s
    · rw [List.getElem?_append_right (by omega), List.getElem?_append_right (by rw [← ps.1]; omega), ps.1]
  · rcases List.mem_append.mp hr with hr | hr
    · obtain ⟨i, hi⟩ := List.getElem?_of_mem hr
      have hlt := (List.getElem?_eq_some_iff.mp hi).1
      exact (ps.2 i _ r (List.getElem?_eq_getElem (by rw [← ps.1]; exact hlt)) hi).ord
    · obtain ⟨r0, hr0, rfl⟩ := List.mem_map.mp hr
      have h0 := (ok.g2.row r0 hr0).1
      unfold shift
      rw [List.pairwise_map]
      exact h0.imp fun {a b} h => stepLt_map (f := fun t => G1.length + t) h fun z => Nat.add_lt_add_left z _
end L49

set_option Elab.async false
set_option linter.all false
set_option maxRecDepth 100000
set_option maxHeartbeats 4000000
namespace L49
open PySem PySem.Spec PyProof.Rows L2 DL
section
variable {P : Program} {w : World} {K : PySem.W.Frag} {mg : Str → Option Value} {base : Heap}
/-! ### is_bad_graph, bad_pair, refused -/
def spIsBad (a : Addr) : DSp := fun ds A Q => ds = [.ref a] ∧ Q (.bl true) A
theorem ok_is_bad_graph (T : Top K mg) : DFnH P w K mg base 1 (He.ga K "_law_is_bad_graph") (fdO K (He.ga K "_law_is_bad_graph")) ["e"] (He.ga K "BadGraph") spIsBad := by
  refine dfunH_ok T.d__law_is_bad_graph sc_l_is_bad_graph (fun a ds A Q h => by rw [h.1]; rfl) (b_l_is_bad_graph T) fun a ds A Q ⟨hd, q⟩ => ?_
  subst hd
  unfold t_l_is_bad_graph
  try dsimp only [qSeq, qIfS, qAnd, qOr, qNot, qTest, qOp, qCB, qCX, qCons, qNil, qC, qPut, qMt, qSet, qRet, qRetN, qDrop, qNext, qAndV, qOrV, qNotV, qIf, qChain, qTup, qLst, qSl, qPart, qNoPart, qAsg, qTru, qNeg, qRaise, qDropX, qBreak, qCont, qFor_eq, qLc_eq, qDc_eq, qiSeq, qiRange1, qiRange2, qiEnum, rII0, rII, CDiv, CMul, CPow, rAbs, rInt, rStrI, qTg, Tg.put, putsV, qYes, wipeD, qDisp, qPairs, qDNew]
  refine qVar_some rfl ?_
  refine ⟨_, _, true, rfl, .inr ⟨_, rfl, rfl⟩, kitB_ok T.kit 21 rfl, ?_⟩
  refine x_ifF rfl ?_
  refine qVar_some rfl ?_
  refine ⟨_, _, true, rfl, .inl ⟨_, rfl, rfl⟩, kitB_ok T.kit 22 rfl, ?_⟩
  refine x_ifF rfl ?_
  unfold u_l_is_bad_graph_1
  try dsimp only [qSeq, qIfS, qAnd, qOr, qNot, qTest, qOp, qCB, qCX, qCons, qNil, qC, qPut, qMt, qSet, qRet, qRetN, qDrop, qNext, qAndV, qOrV, qNotV, qIf, qChain, qTup, qLst, qSl, qPart, qNoPart, qAsg, qTru, qNeg, qRaise, qDropX, qBreak, qCont, qFor_eq, qLc_eq, qDc_eq, qiSeq, qiRange1, qiRange2, qiEnum, rII0, rII, CDiv, CMul, CPow, rAbs, rInt, rStrI, qTg, Tg.put, putsV, qYes, wipeD, qDisp, qPairs, qDNew]
  refine qVar_some rfl ?_
  refine ⟨_, _, false, rfl, .inr ⟨_, rfl, rfl⟩, kitB_ok T.kit 18 rfl, ?_⟩
  try dsimp only [qSeq, qIfS, qAnd, qOr, qNot, qTest, qOp, qCB, qCX, qCons, qNil, qC, qPut, qMt, qSet, qRet, qRetN, qDrop, qNext, qAndV, qOrV, qNotV, qIf, qChain, qTup, qLst, qSl, qPart, qNoPart, qAsg, qTru, qNeg, qRaise, qDropX, qBreak, qCont, qFor_eq, qLc_eq, qDc_eq, qiSeq, qiRange1, qiRange2, qiEnum, rII0, rII, CDiv, CMul, CPow, rAbs, rInt, rStrI, qTg, Tg.put, putsV, qYes, wipeD, qDisp, qPairs, qDNew]
  refine qVar_some rfl ?_
  refine ⟨_, _, false, rfl, .inr ⟨_, rfl, rfl⟩, kitB_ok T.kit 19 rfl, ?_⟩
  try dsimp only [qSeq, qIfS, qAnd, qOr, qNot, qTest, qOp, qCB, qCX, qCons, qNil, qC, qPut, qMt, qSet, qRet, qRetN, qDrop, qNext, qAndV, qOrV, qNotV, qIf, qChain, qTup, qLst, qSl, qPart, qNoPart, qAsg, qTru, qNeg, qRaise, qDropX, qBreak, qCont, qFor_eq, qLc_eq, qDc_eq, qiSeq, qiRange1, qiRange2, qiEnum, rII0, rII, CDiv, CMul, CPow, rAbs, rInt, rStrI, qTg, Tg.put, putsV, qYes, wipeD, qDisp, qPairs, qDNew]
  refine qVar_some rfl ?_
  refine ⟨_, _, false, rfl, .inr ⟨_, rfl, rfl⟩, kitB_ok T.kit 20 rfl, ?_⟩
  try dsimp only [qSeq, qIfS, qAnd, qOr, qNot, qTest, qOp, qCB, qCX, qCons, qNil, qC, qPut, qMt, qSet, qRet, qRetN, qDrop, qNext, qAndV, qOrV, qNotV, qIf, qChain, qTup, qLst, qSl, qPart, qNoPart, qAsg, qTru, qNeg, qRaise, qDropX, qBreak, qCont, qFor_eq, qLc_eq, qDc_eq, qiSeq, qiRange1, qiRange2, qiEnum, rII0, rII, CDiv, CMul, CPow, rAbs, rInt, rStrI, qTg, Tg.put, putsV, qYes, wipeD, qDisp, qPairs, qDNew]
  refine qVar_some rfl ?_
  refine qVar_some rfl ?_
  refine ⟨_, _, false, rfl, .inr ⟨_, rfl, rfl⟩, kitB_ok T.kit 23 rfl, ?_⟩
  exact q
def spBadPair : DSp := fun ds A Q => ∃ dk L xs ys, ∃ kind : Int, ds = [.ref dk, .tup xs, .tup ys, .int kind] ∧ 1 ≤ xs.length ∧ xs.length ≤ 20 ∧ 1 ≤ ys.length ∧ ys.length ≤ 20 ∧ HD A dk L ∧
  ∀ x A', prOk x → isPr x xs.length ys.length = false → HD A' dk L → Q x A'
theorem prOk2 {a b : Int} : prOk (.tup [.int a, .int b]) := fun x hx => by
  rcases List.mem_cons.mp hx with rfl | hx
  · exact .inl ⟨_, rfl⟩
  · rw [List.mem_singleton.mp hx]; exact .inl ⟨_, rfl⟩
theorem ok_bad_pair (T : Top K mg) : DFn P w K mg base 2 (He.ga K "_law_bad_pair") (fdO K (He.ga K "_law_bad_pair")) ["deck", "one", "two", "kind"] spBadPair := by
  refine dfun_ok T.d__law_bad_pair sc_l_bad_pair (fun ds A Q ⟨_, _, _, _, _, h, _⟩ => by rw [h]; rfl) (b_l_bad_pair T (ok_draw T)) fun ds A Q ⟨dk, L, xs, ys, kind, hd, x1, x2, y1, y2, hA, q⟩ => ?_
  subst hd
  unfold t_l_bad_pair
  try dsimp only [qSeq, qIfS, qAnd, qOr, qNot, qTest, qOp, qCB, qCX, qCons, qNil, qC, qPut, qMt, qSet, qRet, qRetN, qDrop, qNext, qAndV, qOrV, qNotV, qIf, qChain, qTup, qLst, qSl, qPart, qNoPart, qAsg, qTru, qNeg, qRaise, qDropX, qBreak, qCont, qFor_eq, qLc_eq, qDc_eq, qiSeq, qiRange1, qiRange2, qiEnum, rII0, rII, CDiv, CMul, CPow, rAbs, rInt, rStrI, qTg, Tg.put, putsV, qYes, wipeD, qDisp, qPairs, qDNew]
  refine qVar_some rfl ?_
  refine qVar_some rfl ?_
  refine x_len_tup ?_
  refine x_draw hA (by omega) (by omega) fun r A1 r0 r1 hB => ?_
  try dsimp only [qSeq, qIfS, qAnd, qOr, qNot, qTest, qOp, qCB, qCX, qCons, qNil, qC, qPut, qMt, qSet, qRet, qRetN, qDrop, qNext, qAndV, qOrV, qNotV, qIf, qChain, qTup, qLst, qSl, qPart, qNoPart, qAsg, qTru, qNeg, qRaise, qDropX, qBreak, qCont, qFor_eq, qLc_eq, qDc_eq, qiSeq, qiRange1, qiRange2, qiEnum, rII0, rII, CDiv, CMul, CPow, rAbs, rInt, rStrI, qTg, Tg.put, putsV, qYes, wipeD, qDisp, qPairs, qDNew]
  refine qVar_some rfl ?_
  refine qVar_some rfl ?_
  refine x_len_tup ?_
  refine x_draw hB (by omega) (by omega) fun s A2 s0 s1 hC => ?_
  try dsimp only [qSeq, qIfS, qAnd, qOr, qNot, qTest, qOp, qCB, qCX, qCons, qNil, qC, qPut, qMt, qSet, qRet, qRetN, qDrop, qNext, qAndV, qOrV, qNotV, qIf, qChain, qTup, qLst, qSl, qPart, qNoPart, qAsg, qTru, qNeg, qRaise, qDropX, qBreak, qCont, qFor_eq, qLc_eq, qDc_eq, qiSeq, qiRange1, qiRange2, qiEnum, rII0, rII, CDiv, CMul, CPow, rAbs, rInt, rStrI, qTg, Tg.put, putsV, qYes, wipeD, qDisp, qPairs, qDNew]
  refine qVar_some rfl ?_
  rw [rEq_int]
  try dsimp only [qSeq, qIfS, qAnd, qOr, qNot, qTest, qOp, qCB, qCX, qCons, qNil, qC, qPut, qMt, qSet, qRet, qRetN, qDrop, qNext, qAndV, qOrV, qNotV, qIf, qChain, qTup, qLst, qSl, qPart, qNoPart, qAsg, qTru, qNeg, qRaise, qDropX, qBreak, qCont, qFor_eq, qLc_eq, qDc_eq, qiSeq, qiRange1, qiRange2, qiEnum, rII0, rII, CDiv, CMul, CPow, rAbs, rInt, rStrI, qTg, Tg.put, putsV, qYes, wipeD, qDisp, qPairs, qDNew]
  refine x_ifd (fun c => ?_) fun c => ?_
  · refine qVar_some rfl ?_
    refine x_len_tup ?_
    refine qVar_some rfl ?_
    refine ⟨sz rfl, q _ _ prOk2 ?_ hC⟩
    show (decide (0 ≤ (xs.length : Int)) && decide ((xs.length : Int) < xs.length) && _) = false
    rw [decide_eq_false (p := (xs.length : Int) < xs.length) (by omega)]; simp
  unfold u_l_bad_pair_4
  try dsimp only [qSeq, qIfS, qAnd, qOr, qNot, qTest, qOp, qCB, qCX, qCons, qNil, qC, qPut, qMt, qSet, qRet, qRetN, qDrop, qNext, qAndV, qOrV, qNotV, qIf, qChain, qTup, qLst, qSl, qPart, qNoPart, qAsg, qTru, qNeg, qRaise, qDropX, qBreak, qCont, qFor_eq, qLc_eq, qDc_eq, qiSeq, qiRange1, qiRange2, qiEnum, rII0, rII, CDiv, CMul, CPow, rAbs, rInt, rStrI, qTg, Tg.put, putsV, qYes, wipeD, qDisp, qPairs, qDNew]
  refine qVar_some rfl ?_
  rw [rEq_int]
  try dsimp only [qSeq, qIfS, qAnd, qOr, qNot, qTest, qOp, qCB, qCX, qCons, qNil, qC, qPut, qMt, qSet, qRet, qRetN, qDrop, qNext, qAndV, qOrV, qNotV, qIf, qChain, qTup, qLst, qSl, qPart, qNoPart, qAsg, qTru, qNeg, qRaise, qDropX, qBreak, qCont, qFor_eq, qLc_eq, qDc_eq, qiSeq, qiRange1, qiRange2, qiEnum, rII0, rII, CDiv, CMul, CPow, rAbs, rInt, rStrI, qTg, Tg.put, putsV, qYes, wipeD, qDisp, qPairs, qDNew]
  refine x_ifd (fun c => ?_) fun c => ?_
  · refine qVar_some rfl ?_
    refine qVar_some rfl ?_
    refine x_len_tup ?_
    refine ⟨sz rfl, q _ _ prOk2 ?_ hC⟩
    show (_ && (decide (0 ≤ (ys.length : Int)) && decide ((ys.length : Int) < ys.length))) = false
    rw [decide_eq_false (p := (ys.length : Int) < ys.length) (by omega)]; simp
  unfold u_l_bad_pair_3
  try dsimp only [qSeq, qIfS, qAnd, qOr, qNot, qTest, qOp, qCB, qCX, qCons, qNil, qC, qPut, qMt, qSet, qRet, qRetN, qDrop, qNext, qAndV, qOrV, qNotV, qIf, qChain, qTup, qLst, qSl, qPart, qNoPart, qAsg, qTru, qNeg, qRaise, qDropX, qBreak, qCont, qFor_eq, qLc_eq, qDc_eq, qiSeq, qiRange1, qiRange2, qiEnum, rII0, rII, CDiv, CMul, CPow, rAbs, rInt, rStrI, qTg, Tg.put, putsV, qYes, wipeD, qDisp, qPairs, qDNew]
  refine qVar_some rfl ?_
  rw [rEq_int]
  try dsimp only [qSeq, qIfS, qAnd, qOr, qNot, qTest, qOp, qCB, qCX, qCons, qNil, qC, qPut, qMt, qSet, qRet, qRetN, qDrop, qNext, qAndV, qOrV, qNotV, qIf, qChain, qTup, qLst, qSl, qPart, qNoPart, qAsg, qTru, qNeg, qRaise, qDropX, qBreak, qCont, qFor_eq, qLc_eq, qDc_eq, qiSeq, qiRange1, qiRange2, qiEnum, rII0, rII, CDiv, CMul, CPow, rAbs, rInt, rStrI, qTg, Tg.put, putsV, qYes, wipeD, qDisp, qPairs, qDNew]
  refine x_ifd (fun c => ?_) fun c => ?_
  · refine qVar_some rfl ?_
    refine ⟨sz rfl, q _ _ prOk2 ?_ hC⟩
    have e : isSt (.int (-1)) (ys.length : Int) = false := rfl
    show (isSt (.int r) (xs.length : Int) && isSt (.int (-1)) (ys.length : Int)) = false
    rw [e, Bool.and_false]
  unfold u_l_bad_pair_2
  try dsimp only [qSeq, qIfS, qAnd, qOr, qNot, qTest, qOp, qCB, qCX, qCons, qNil, qC, qPut, qMt, qSet, qRet, qRetN, qDrop, qNext, qAndV, qOrV, qNotV, qIf, qChain, qTup, qLst, qSl, qPart, qNoPart, qAsg, qTru, qNeg, qRaise, qDropX, qBreak, qCont, qFor_eq, qLc_eq, qDc_eq, qiSeq, qiRange1, qiRange2, qiEnum, rII0, rII, CDiv, CMul, CPow, rAbs, rInt, rStrI, qTg, Tg.put, putsV, qYes, wipeD, qDisp, qPairs, qDNew]
  refine qVar_some rfl ?_
  rw [rEq_int]
  try dsimp only [qSeq, qIfS, qAnd, qOr, qNot, qTest, qOp, qCB, qCX, qCons, qNil, qC, qPut, qMt, qSet, qRet, qRetN, qDrop, qNext, qAndV, qOrV, qNotV, qIf, qChain, qTup, qLst, qSl, qPart, qNoPart, qAsg, qTru, qNeg, qRaise, qDropX, qBreak, qCont, qFor_eq, qLc_eq, qDc_eq, qiSeq, qiRange1, qiRange2, qiEnum, rII0, rII, CDiv, CMul, CPow, rAbs, rInt, rStrI, qTg, Tg.put, putsV, qYes, wipeD, qDisp, qPairs, qDNew]
  refine x_ifd (fun c => ?_) fun c => ?_
  · refine qVar_some rfl ?_
    refine ⟨sz rfl, q _ _ (fun x hx => ?_) rfl hC⟩
    rcases List.mem_cons.mp hx with rfl | hx
    · exact .inr ⟨_, rfl⟩
    · rw [List.mem_singleton.mp hx]; exact .inl ⟨_, rfl⟩
  unfold u_l_bad_pair_1
  try dsimp only [qSeq, qIfS, qAnd, qOr, qNot, qTest, qOp, qCB, qCX, qCons, qNil, qC, qPut, qMt, qSet, qRet, qRetN, qDrop, qNext, qAndV, qOrV, qNotV, qIf, qChain, qTup, qLst, qSl, qPart, qNoPart, qAsg, qTru, qNeg, qRaise, qDropX, qBreak, qCont, qFor_eq, qLc_eq, qDc_eq, qiSeq, qiRange1, qiRange2, qiEnum, rII0, rII, CDiv, CMul, CPow, rAbs, rInt, rStrI, qTg, Tg.put, putsV, qYes, wipeD, qDisp, qPairs, qDNew]
  refine qVar_some rfl ?_
  refine qVar_some rfl ?_
  refine qVar_some rfl ?_
  refine ⟨sz rfl, q _ _ (fun x hx => ?_) rfl hC⟩
  simp only [List.mem_cons, List.not_mem_nil, or_false] at hx
  rcases hx with rfl | rfl | rfl <;> exact .inl ⟨_, rfl⟩
def spRefused (K : PySem.W.Frag) : DSp := fun ds A Q => ds.length = 3 ∧ (∀ Q' E', (∀ A', E' (.ref (He.ga K "BadGraph")) A') → spSwapping K ds A Q' E') ∧ ∀ A', Q (.bl true) A'
theorem ok_refused (T : Top K mg) : DFn P w K mg base 5 (He.ga K "_law_refused") (fdO K (He.ga K "_law_refused")) ["elder", "newer", "pairs"] (spRefused K) := by
  refine dfun_ok T.d__law_refused sc_l_refused (fun ds A Q h => h.1) (b_l_refused T (ok_swapping T) (ok_is_bad_graph T)) fun ds A Q ⟨hl, hs, q⟩ => ?_
  match ds, hl with
  | [x, y, z], _ =>
    unfold t_l_refused
    try dsimp only [qSeq, qIfS, qAnd, qOr, qNot, qTest, qOp, qCB, qCX, qCons, qNil, qC, qPut, qMt, qSet, qRet, qRetN, qDrop, qNext, qAndV, qOrV, qNotV, qIf, qChain, qTup, qLst, qSl, qPart, qNoPart, qAsg, qTru, qNeg, qRaise, qDropX, qBreak, qCont, qFor_eq, qLc_eq, qDc_eq, qiSeq, qiRange1, qiRange2, qiEnum, rII0, rII, CDiv, CMul, CPow, rAbs, rInt, rStrI, qTg, Tg.put, putsV, qYes, wipeD, qDisp, qPairs, qDNew]
    unfold qTryAs
    try dsimp only [qSeq, qIfS, qAnd, qOr, qNot, qTest, qOp, qCB, qCX, qCons, qNil, qC, qPut, qMt, qSet, qRet, qRetN, qDrop, qNext, qAndV, qOrV, qNotV, qIf, qChain, qTup, qLst, qSl, qPart, qNoPart, qAsg, qTru, qNeg, qRaise, qDropX, qBreak, qCont, qFor_eq, qLc_eq, qDc_eq, qiSeq, qiRange1, qiRange2, qiEnum, rII0, rII, CDiv, CMul, CPow, rAbs, rInt, rStrI, qTg, Tg.put, putsV, qYes, wipeD, qDisp, qPairs, qDNew]
    refine qVar_some rfl ?_
    refine qVar_some rfl ?_
    refine qVar_some rfl ?_
    refine hs _ _ fun A1 => ?_
    refine ⟨rfl, T.exm "BadGraph" (by simp), fun a ha => ?_⟩
    try dsimp only [qSeq, qIfS, qAnd, qOr, qNot, qTest, qOp, qCB, qCX, qCons, qNil, qC, qPut, qMt, qSet, qRet, qRetN, qDrop, qNext, qAndV, qOrV, qNotV, qIf, qChain, qTup, qLst, qSl, qPart, qNoPart, qAsg, qTru, qNeg, qRaise, qDropX, qBreak, qCont, qFor_eq, qLc_eq, qDc_eq, qiSeq, qiRange1, qiRange2, qiEnum, rII0, rII, CDiv, CMul, CPow, rAbs, rInt, rStrI, qTg, Tg.put, putsV, qYes, wipeD, qDisp, qPairs, qDNew]
    refine qVar_some rfl ?_
    exact ⟨rfl, q A1⟩
end
end L49

set_option Elab.async false
set_option linter.all false
set_option maxRecDepth 100000
set_option maxHeartbeats 4000000
namespace L49
open PySem PySem.Spec PyProof.Rows L2 DL
/-! ### other_doors -/
theorem depthAll_le {n : Nat} : ∀ {xs : List D}, (∀ x ∈ xs, (toN x).depth ≤ n) → NestedKey.depthAll (toNs xs) ≤ n
  | [], _ => by simp [toNs, NestedKey.depthAll]
  | x :: xs, h => by
    have h1 := h x List.mem_cons_self
    have h2 := depthAll_le fun y hy => h y (List.mem_cons_of_mem _ hy)
    simp only [toNs, NestedKey.depthAll]
    omega
theorem depth_tup {n : Nat} {xs : List D} (h : ∀ x ∈ xs, (toN x).depth ≤ n) : (toN (.tup xs)).depth ≤ n + 1 := by
  have := depthAll_le h
  simp only [toN, NestedKey.depth]
  omega
theorem wts_le {n : Nat} : ∀ {xs : List D}, (∀ x ∈ xs, wt x ≤ n) → wts xs ≤ xs.length * (n + 2)
  | [], _ => by simp [wts]
  | x :: xs, h => by
    have h1 := h x List.mem_cons_self
    have h2 := wts_le fun y hy => h y (List.mem_cons_of_mem _ hy)
    rw [wts, List.length_cons, Nat.add_mul]
    omega
/-- a door or an event -/
def isLab (l : D) : Prop := (∃ n x, l = .tup [.str n, x] ∧ (x = .non ∨ (∃ i, x = .int i) ∨ ∃ z, x = .str z)) ∧ DL.txt l = true
theorem LabOk.isLab {ls : List D} (h : LabOk ls) : ∀ l ∈ ls, isLab l := fun l hl => ⟨h.form l hl, h.txt l hl⟩
theorem lab_dep {l : D} (h : isLab l) : (toN l).depth ≤ 2 := by
  obtain ⟨⟨n, x, rfl, fx⟩, _⟩ := h
  exact lab_depth fx
theorem lab_wt {l : D} (h : isLab l) : wt l ≤ 1028 := by
  obtain ⟨⟨n, x, rfl, fx⟩, _⟩ := h
  rcases fx with rfl | ⟨i, rfl⟩ | ⟨z, rfl⟩ <;> simp [wt, wts]
structure DoorsOk (xs ys : List D) : Prop where
  one : ∀ x ∈ xs, isLab x
  two : ∀ x ∈ ys, isLab x
theorem DoorsOk.txt {xs ys : List D} (h : DoorsOk xs ys) : DL.txt (.tup [.tup xs, .tup ys]) = true := by
  have h1 : txts xs = true := (txts_all xs).mpr fun x hx => (h.one x hx).2
  have h2 : txts ys = true := (txts_all ys).mpr fun x hx => (h.two x hx).2
  simp [DL.txt, txts, h1, h2]
theorem DoorsOk.depth {xs ys : List D} (h : DoorsOk xs ys) : (toN (.tup [.tup xs, .tup ys])).depth ≤ 60 := by
  have h1 := depth_tup (n := 2) (xs := xs) fun x hx => lab_dep (h.one x hx)
  have h2 := depth_tup (n := 2) (xs := ys) fun x hx => lab_dep (h.two x hx)
  have := depth_tup (n := 3) (xs := [.tup xs, .tup ys]) fun x hx => by
    rcases List.mem_cons.mp hx with rfl | hx
    · exact h1
    · rw [List.mem_singleton.mp hx]; exact h2
  omega
theorem more_txt : DL.txt (.tup [.str "more", .non]) = true := by decide +kernel
theorem more_snd : ¬ ∀ c ∈ (cp "more").drop 1, c < 96 := by decide +kernel
theorem other7_no : PySem.intText? (cutS "Other7" (some 1) none) = none := by decide +kernel
theorem other7_txt : DL.txt (.str "Other7") = true := by decide +kernel
theorem more_lab {k : Nat} {dr : Dr} (h : DrOk k dr) : LabOk (dr.map doorD ++ [.tup [.str "more", .non]]) := by
  have hl := doors_lab h
  have no : ∀ x, .tup [.str "more", x] ∉ dr.map doorD := fun x hm => by
    obtain ⟨d, hd, e⟩ := List.mem_map.mp hm
    unfold doorD at e
    simp only [D.tup.injEq, List.cons.injEq, D.str.injEq, and_true] at e
    have := (h.nm d hd).snd
    rw [e.1] at this
    exact more_snd this
  refine ⟨fun l hm => ?_, fun l hm => ?_, fun n x y h1 h2 => ?_⟩
  · rcases List.mem_append.mp hm with z | z
    · exact hl.form l z
    · exact ⟨"more", .non, List.mem_singleton.mp z, .inl rfl⟩
  · rcases List.mem_append.mp hm with z | z
    · exact hl.txt l z
    · rw [List.mem_singleton.mp z]; exact more_txt
  · rcases List.mem_append.mp h1 with z1 | z1
    · rcases List.mem_append.mp h2 with z2 | z2
      · exact hl.comp n x y z1 z2
      · have e := List.mem_singleton.mp z2
        simp only [D.tup.injEq, List.cons.injEq, D.str.injEq, and_true] at e
        rw [e.1] at z1
        exact absurd z1 (no x)
    · have e := List.mem_singleton.mp z1
      simp only [D.tup.injEq, List.cons.injEq, D.str.injEq, and_true] at e
      rcases List.mem_append.mp h2 with z2 | z2
      · rw [e.1] at z2
        exact absurd z2 (no y)
      · have e2 := List.mem_singleton.mp z2
        simp only [D.tup.injEq, List.cons.injEq, D.str.injEq, and_true] at e2
        exact .inl (e.2.trans e2.2.symm)
theorem renamed {k : Nat} {o : Str × Option Str} {dr : Dr} (h : DrOk k (o :: dr)) : isLab (.tup [.str o.1, .str "Other7"]) ∧ D.tup [.str o.1, .str "Other7"] ≠ doorD o := by
  refine ⟨⟨⟨_, _, rfl, .inr (.inr ⟨_, rfl⟩)⟩, ?_⟩, fun e => ?_⟩
  · have hn := h.nm o List.mem_cons_self
    have t1 := txt_str (by have := hn.len; omega) hn.chr
    simp only [DL.txt, txts, Bool.and_true] at t1 ⊢
    rw [t1]
    exact other7_txt
  · unfold doorD at e
    simp only [D.tup.injEq, List.cons.injEq, and_true, true_and] at e
    cases e2 : o.2 with
    | none => rw [e2] at e; cases e
    | some z =>
      rw [e2] at e
      simp only [kindD, D.str.injEq] at e
      obtain ⟨n, hn, _⟩ := h.kind o List.mem_cons_self z e2
      rw [← e, other7_no] at hn
      cases hn
section
variable {P : Program} {w : World} {K : PySem.W.Frag} {mg : Str → Option Value} {base : Heap}
def spOther : DSp := fun ds A Q => ∃ d1 d2, ∃ kind : Int, ds = [.tup (d1.map doorD), .tup (d2.map doorD), .int kind] ∧ WorldOk d1 d2 ∧
  ∀ p xs ys A', DoorsOk xs ys → D.tup [.tup (d1.map doorD), .tup (d2.map doorD)] ≠ .tup [.tup xs, .tup ys] → Ext A A' → A' p = some (.lst [.tup xs, .tup ys]) → Q (.ref p) A'
theorem ne_len {as bs xs ys : List D} (h : ys.length ≠ bs.length) : D.tup [.tup as, .tup bs] ≠ .tup [.tup xs, .tup ys] := fun e => by
  simp only [D.tup.injEq, List.cons.injEq, and_true] at e
  exact h (by rw [e.2])
theorem slice1 {xs : List D} (h : 1 ≤ xs.length) {A : DA} {Q : DK} (q : Q (.tup (xs.drop 1)) A) : rSlU (.tup xs) (some 1) none A Q := by
  refine .inr (.inl ⟨_, rfl, fun z => ?_, ?_⟩)
  · have := z.1
    have e : HT.sIx xs.length 0 (some 1) = min 1 xs.length := rfl
    rw [e] at this
    omega
  · rw [cut_drop (by decide)]
    exact q
theorem other_tail {d1 d2 : Dr} {x : Option D} {A : DA} {Q : DK} (ok : WorldOk d1 d2)
    (q : ∀ p xs ys A', DoorsOk xs ys → D.tup [.tup (d1.map doorD), .tup (d2.map doorD)] ≠ .tup [.tup xs, .tup ys] → Ext A A' → A' p = some (.lst [.tup xs, .tup ys]) → Q (.ref p) A') :
    u_l_other_doors_2 K w (endsF Q) [some (.tup (d1.map doorD)), some (.tup (d2.map doorD)), x] A := by
  have o1 : DrOk 10 d1 := ok.ok.sub (List.sublist_append_left _ _)
  have o2 : DrOk 10 d2 := ok.ok.sub (List.sublist_append_right _ _)
  have l1 := (doors_lab o1).isLab
  have l2 := (doors_lab o2).isLab
  have few : d1.length + d2.length < 10 := by have := ok.few; rwa [List.length_append] at this
  have pos : 0 < d1.length + d2.length := by have := ok.pos; rwa [List.length_append] at this
  unfold u_l_other_doors_2
  try dsimp only [qSeq, qIfS, qAnd, qOr, qNot, qTest, qOp, qCB, qCX, qCons, qNil, qC, qPut, qMt, qSet, qRet, qRetN, qDrop, qNext, qAndV, qOrV, qNotV, qIf, qChain, qTup, qLst, qSl, qPart, qNoPart, qAsg, qTru, qNeg, qRaise, qDropX, qBreak, qCont, qFor_eq, qLc_eq, qDc_eq, qiSeq, qiRange1, qiRange2, qiEnum, rII0, rII, CDiv, CMul, CPow, rAbs, rInt, rStrI, qTg, Tg.put, putsV, qYes, wipeD, qDisp, qPairs, qDNew]
  refine qVar_some rfl ?_
  refine x_len_tup ?_
  rw [List.length_map]
  try dsimp only [qSeq, qIfS, qAnd, qOr, qNot, qTest, qOp, qCB, qCX, qCons, qNil, qC, qPut, qMt, qSet, qRet, qRetN, qDrop, qNext, qAndV, qOrV, qNotV, qIf, qChain, qTup, qLst, qSl, qPart, qNoPart, qAsg, qTru, qNeg, qRaise, qDropX, qBreak, qCont, qFor_eq, qLc_eq, qDc_eq, qiSeq, qiRange1, qiRange2, qiEnum, rII0, rII, CDiv, CMul, CPow, rAbs, rInt, rStrI, qTg, Tg.put, putsV, qYes, wipeD, qDisp, qPairs, qDNew]
  refine x_ifd (fun c => ?_) fun c => ?_
  · match d2, o2, l2 with
    | [], _, _ => exact absurd c (by decide)
    | o :: d2, o2, l2 =>
      have rn := renamed o2
      refine qVar_some rfl ?_
      refine qVar_some rfl ?_
      refine x_tup0 (a := doorD o) (r := d2.map doorD) ?_
      refine x_tup0 (a := .str o.1) (r := [kindD o.2]) ?_
      refine ⟨sz rfl, sz rfl, ?_⟩
      refine qVar_some rfl ?_
      refine slice1 (by rw [List.length_map, List.length_cons]; omega) ?_
      try dsimp only [rAddU]
      have few2 : d2.length + 1 < 10 := by rw [List.length_cons] at few; omega
      refine ⟨szl (by rw [List.length_drop, List.length_map, List.length_cons]; show 1 + _ ≤ _; omega), sz rfl, fun p A1 n1 => ?_⟩
      refine q p _ _ A1 ⟨l1, fun x hx => ?_⟩ (fun e => ?_) n1.ex n1.get
      · rcases List.mem_cons.mp hx with rfl | hx
        · exact rn.1
        · exact l2 x (List.mem_of_mem_drop hx)
      · simp only [D.tup.injEq, List.cons.injEq, and_true, true_and, List.map_cons] at e
        exact rn.2 (List.cons.inj e).1.symm
  · unfold u_l_other_doors_1
    match d1, o1, l1 with
    | [], _, _ => exact absurd pos (by have e0 : ([] : Dr).length = 0 := rfl; rw [e0]; omega)
    | o :: d1, o1, l1 =>
      have rn := renamed o1
      try dsimp only [qSeq, qIfS, qAnd, qOr, qNot, qTest, qOp, qCB, qCX, qCons, qNil, qC, qPut, qMt, qSet, qRet, qRetN, qDrop, qNext, qAndV, qOrV, qNotV, qIf, qChain, qTup, qLst, qSl, qPart, qNoPart, qAsg, qTru, qNeg, qRaise, qDropX, qBreak, qCont, qFor_eq, qLc_eq, qDc_eq, qiSeq, qiRange1, qiRange2, qiEnum, rII0, rII, CDiv, CMul, CPow, rAbs, rInt, rStrI, qTg, Tg.put, putsV, qYes, wipeD, qDisp, qPairs, qDNew]
      refine qVar_some rfl ?_
      refine x_tup0 (a := doorD o) (r := d1.map doorD) ?_
      refine x_tup0 (a := .str o.1) (r := [kindD o.2]) ?_
      refine ⟨sz rfl, sz rfl, ?_⟩
      refine qVar_some rfl ?_
      refine slice1 (by rw [List.length_map, List.length_cons]; omega) ?_
      try dsimp only [rAddU]
      have few2 : d1.length + 1 < 10 := by rw [List.length_cons] at few; omega
      refine ⟨szl (by rw [List.length_drop, List.length_map, List.length_cons]; show 1 + _ ≤ _; omega), ?_⟩
      refine qVar_some rfl ?_
      refine ⟨sz rfl, fun p A1 n1 => ?_⟩
      refine q p _ _ A1 ⟨fun x hx => ?_, l2⟩ (fun e => ?_) n1.ex n1.get
      · rcases List.mem_cons.mp hx with rfl | hx
        · exact rn.1
        · exact l1 x (List.mem_of_mem_drop hx)
      · simp only [D.tup.injEq, List.cons.injEq, and_true, true_and, List.map_cons] at e
        exact rn.2 (List.cons.inj e).1.symm
theorem ok_other_doors (T : Top K mg) : DFn P w K mg base 1 (He.ga K "_law_other_doors") (fdO K (He.ga K "_law_other_doors")) ["ins", "outs", "kind"] spOther := by
  refine dfun_ok T.d__law_other_doors sc_l_other_doors (fun ds A Q ⟨_, _, _, h, _⟩ => by rw [h]; rfl) (b_l_other_doors T) fun ds A Q ⟨d1, d2, kind, hd, ok, q⟩ => ?_
  subst hd
  have o1 : DrOk 10 d1 := ok.ok.sub (List.sublist_append_left _ _)
  have o2 : DrOk 10 d2 := ok.ok.sub (List.sublist_append_right _ _)
  have l1 := (doors_lab o1).isLab
  have l2 := (doors_lab o2).isLab
  have few : d1.length + d2.length < 10 := by have := ok.few; rwa [List.length_append] at this
  have pos : 0 < d1.length + d2.length := by have := ok.pos; rwa [List.length_append] at this
  unfold t_l_other_doors
  try dsimp only [qSeq, qIfS, qAnd, qOr, qNot, qTest, qOp, qCB, qCX, qCons, qNil, qC, qPut, qMt, qSet, qRet, qRetN, qDrop, qNext, qAndV, qOrV, qNotV, qIf, qChain, qTup, qLst, qSl, qPart, qNoPart, qAsg, qTru, qNeg, qRaise, qDropX, qBreak, qCont, qFor_eq, qLc_eq, qDc_eq, qiSeq, qiRange1, qiRange2, qiEnum, rII0, rII, CDiv, CMul, CPow, rAbs, rInt, rStrI, qTg, Tg.put, putsV, qYes, wipeD, qDisp, qPairs, qDNew]
  refine qVar_some rfl ?_
  rw [rEq_int]
  try dsimp only [qSeq, qIfS, qAnd, qOr, qNot, qTest, qOp, qCB, qCX, qCons, qNil, qC, qPut, qMt, qSet, qRet, qRetN, qDrop, qNext, qAndV, qOrV, qNotV, qIf, qChain, qTup, qLst, qSl, qPart, qNoPart, qAsg, qTru, qNeg, qRaise, qDropX, qBreak, qCont, qFor_eq, qLc_eq, qDc_eq, qiSeq, qiRange1, qiRange2, qiEnum, rII0, rII, CDiv, CMul, CPow, rAbs, rInt, rStrI, qTg, Tg.put, putsV, qYes, wipeD, qDisp, qPairs, qDNew]
  refine x_ifd (fun c => ?_) fun c => ?_
  · refine qVar_some rfl ?_
    refine qVar_some rfl ?_
    refine ⟨_, _, rfl, rfl, fun p1 A1 n1 => ?_⟩
    refine ⟨sz rfl, sz rfl, fun p2 A2 n2 => ?_⟩
    try dsimp only [rAddU]
    refine ⟨_, _, n2.ext n1.get, n2.get, szl (by rw [List.length_map]; show d2.length + 1 ≤ _; omega), fun p3 A3 n3 => ?_⟩
    have lm := more_lab o2
    refine .inl ⟨p3, _, rfl, items_lst n3.get, labs_sort lm, fun ys p4 A4 so n4 => ?_⟩
    refine ⟨_, _, rfl, items_lst n4.get, sz rfl, fun p5 A5 n5 => ?_⟩
    refine q p5 _ ys A5 ⟨l1, fun x hx => lm.isLab x (so.perm.mem_iff.mp hx)⟩ (ne_len ?_) (((n1.ex.trans n2.ex).trans n3.ex).trans (n4.ex.trans n5.ex)) n5.get
    rw [so.perm.length_eq, List.length_append, List.length_singleton]; omega
  unfold u_l_other_doors_3
  try dsimp only [qSeq, qIfS, qAnd, qOr, qNot, qTest, qOp, qCB, qCX, qCons, qNil, qC, qPut, qMt, qSet, qRet, qRetN, qDrop, qNext, qAndV, qOrV, qNotV, qIf, qChain, qTup, qLst, qSl, qPart, qNoPart, qAsg, qTru, qNeg, qRaise, qDropX, qBreak, qCont, qFor_eq, qLc_eq, qDc_eq, qiSeq, qiRange1, qiRange2, qiEnum, rII0, rII, CDiv, CMul, CPow, rAbs, rInt, rStrI, qTg, Tg.put, putsV, qYes, wipeD, qDisp, qPairs, qDNew]
  refine qVar_some rfl ?_
  rw [rEq_int]
  try dsimp only [qSeq, qIfS, qAnd, qOr, qNot, qTest, qOp, qCB, qCX, qCons, qNil, qC, qPut, qMt, qSet, qRet, qRetN, qDrop, qNext, qAndV, qOrV, qNotV, qIf, qChain, qTup, qLst, qSl, qPart, qNoPart, qAsg, qTru, qNeg, qRaise, qDropX, qBreak, qCont, qFor_eq, qLc_eq, qDc_eq, qiSeq, qiRange1, qiRange2, qiEnum, rII0, rII, CDiv, CMul, CPow, rAbs, rInt, rStrI, qTg, Tg.put, putsV, qYes, wipeD, qDisp, qPairs, qDNew]
  refine x_ifd (fun c => ?_) fun c => ?_
  · refine qVar_some rfl ?_
    refine x_len_tup ?_
    rw [List.length_map]
    try dsimp only [qSeq, qIfS, qAnd, qOr, qNot, qTest, qOp, qCB, qCX, qCons, qNil, qC, qPut, qMt, qSet, qRet, qRetN, qDrop, qNext, qAndV, qOrV, qNotV, qIf, qChain, qTup, qLst, qSl, qPart, qNoPart, qAsg, qTru, qNeg, qRaise, qDropX, qBreak, qCont, qFor_eq, qLc_eq, qDc_eq, qiSeq, qiRange1, qiRange2, qiEnum, rII0, rII, CDiv, CMul, CPow, rAbs, rInt, rStrI, qTg, Tg.put, putsV, qYes, wipeD, qDisp, qPairs, qDNew]
    refine x_ifd (fun c => ?_) fun c => ?_
    · match d1, o1, l1 with
      | [], _, _ => exact absurd c (by decide)
      | o :: d1, o1, l1 =>
        refine qVar_some rfl ?_
        refine slice1 (by rw [List.length_map, List.length_cons]; omega) ?_
        refine qVar_some rfl ?_
        refine ⟨_, _, rfl, rfl, fun p1 A1 n1 => ?_⟩
        refine qVar_some rfl ?_
        refine x_tup0 (a := doorD o) (r := d1.map doorD) ?_
        refine ⟨sz rfl, fun p2 A2 n2 => ?_⟩
        try dsimp only [rAddU]
        have few2 : d1.length + 1 + d2.length < 10 := by rw [List.length_cons] at few; omega
        refine ⟨_, _, n2.ext n1.get, n2.get, szl (by rw [List.length_map]; show d2.length + 1 ≤ _; omega), fun p3 A3 n3 => ?_⟩
        have od : DrOk 10 (d2 ++ [o]) := (ok.ok.perm (dr' := (d2 ++ [o]) ++ d1) (by
          refine List.Perm.trans ?_ (List.perm_append_comm (l₁ := d2))
          rw [List.append_assoc]; exact .refl _)).sub (List.sublist_append_left _ _)
        have lm := doors_lab od
        rw [List.map_append] at lm
        refine .inl ⟨p3, _, rfl, items_lst n3.get, labs_sort lm, fun ys p4 A4 so n4 => ?_⟩
        refine ⟨_, _, rfl, items_lst n4.get, sz rfl, fun p5 A5 n5 => ?_⟩
        refine q p5 _ ys A5 ⟨fun x hx => l1 x (List.mem_of_mem_drop hx), fun x hx => lm.isLab x (so.perm.mem_iff.mp hx)⟩ (ne_len ?_) (((n1.ex.trans n2.ex).trans n3.ex).trans (n4.ex.trans n5.ex)) n5.get
        rw [so.perm.length_eq, List.length_append, List.length_singleton]; omega
    · exact other_tail ok q
  · exact other_tail ok q
end
end L49

set_option Elab.async false
set_option linter.all false
set_option maxRecDepth 100000
set_option maxHeartbeats 4000000
namespace L49
open PySem PySem.Spec PyProof.Rows L2 DL
def faultD : D := .tup [.str "", .str "fault"]
theorem quiet_txt : DL.txt quietD = true := by decide +kernel
theorem fault_txt : DL.txt faultD = true := by decide +kernel
theorem labels_ok {k : Nat} {dr : Dr} {evs : List D} (h : DrOk k dr) (p : evs.Perm (dr.flatMap evOf)) : LabOk ((evs ++ evs) ++ [quietD, faultD]) := by
  have hl := evs_lab h
  have mem : ∀ l ∈ (evs ++ evs) ++ [quietD, faultD], l ∈ dr.flatMap evOf ∨ ∃ z, l = .tup [.str "", .str z] ∧ DL.txt l = true := fun l hl => by
    rcases List.mem_append.mp hl with z | z
    · have : l ∈ evs := (List.mem_append.mp z).elim id id
      exact .inl (p.mem_iff.mp this)
    · rcases List.mem_cons.mp z with rfl | z
      · exact .inr ⟨_, rfl, quiet_txt⟩
      · rw [List.mem_singleton.mp z]; exact .inr ⟨_, rfl, fault_txt⟩
  have no : ∀ x, .tup [.str "", x] ∉ dr.flatMap evOf := fun x hm => by
    obtain ⟨d, hd, hx⟩ := List.mem_flatMap.mp hm
    obtain ⟨y, e, _⟩ := evOf_name hx
    simp only [D.tup.injEq, List.cons.injEq, D.str.injEq, and_true] at e
    have := (h.nm d hd).ne
    rw [← e.1] at this
    exact this rfl
  refine ⟨fun l h => ?_, fun l h => ?_, fun n x y h1 h2 => ?_⟩
  · rcases mem l h with z | ⟨z, e, _⟩
    · exact hl.form l z
    · exact ⟨_, _, e, .inr (.inr ⟨_, rfl⟩)⟩
  · rcases mem l h with z | ⟨z, e, t⟩
    · exact hl.txt l z
    · exact t
  · rcases mem _ h1 with z1 | ⟨z1, e1, _⟩
    · rcases mem _ h2 with z2 | ⟨z2, e2, _⟩
      · exact hl.comp n x y z1 z2
      · simp only [D.tup.injEq, List.cons.injEq, D.str.injEq, and_true] at e2
        rw [e2.1] at z1
        exact absurd z1 (no x)
    · simp only [D.tup.injEq, List.cons.injEq, D.str.injEq, and_true] at e1
      rcases mem _ h2 with z2 | ⟨z2, e2, _⟩
      · rw [e1.1] at z2
        exact absurd z2 (no y)
      · simp only [D.tup.injEq, List.cons.injEq, D.str.injEq, and_true] at e2
        exact .inr (.inr ⟨_, _, e1.2, e2.2⟩)
theorem world_lab {d1 d2 : Dr} (h : WorldOk d1 d2) : DoorsOk (d1.map doorD) (d2.map doorD) :=
  ⟨(doors_lab (h.ok.sub (List.sublist_append_left _ _))).isLab, (doors_lab (h.ok.sub (List.sublist_append_right _ _))).isLab⟩
theorem TwoOk.nil {ls : List D} {G1 G2 : List Rw} {prs : List (Nat × Nat)} (h : TwoOk ls G1 G2 prs) : TwoOk ls G1 G2 [] := ⟨h.lab, h.q, h.g1, h.g2, h.p1, h.n1, h.n2, by simp, fun p hp => by cases hp⟩
theorem pairD_inj {a b : Nat × Nat} (h : pairD a = pairD b) : a = b := by
  unfold pairD at h
  simp only [D.tup.injEq, List.cons.injEq, D.int.injEq, and_true] at h
  exact Prod.ext (by omega) (by omega)
theorem pairs_inj : ∀ {a b : List (Nat × Nat)}, a.map pairD = b.map pairD → a = b
  | [], [], _ => rfl
  | [], _ :: _, h => by cases h
  | _ :: _, [], h => by cases h
  | x :: a, y :: b, h => by
    rw [List.map_cons, List.map_cons] at h
    injection h with h1 h2
    rw [pairD_inj h1, pairs_inj h2]
theorem isPr_pair {p : Nat × Nat} {n m : Nat} (h1 : p.1 < n) (h2 : p.2 < m) : isPr (pairD p) n m = true := by
  show (decide (0 ≤ (p.1 : Int)) && decide ((p.1 : Int) < n) && (decide (0 ≤ (p.2 : Int)) && decide ((p.2 : Int) < m))) = true
  simp only [Bool.and_eq_true, decide_eq_true_eq]
  omega
theorem prOk_pair {p : Nat × Nat} : prOk (pairD p) := prOk2
/-- the graph of the law: short -/
theorem out_ok {ls : List D} {G1 G2 out : List Rw} {prs : List (Nat × Nat)} {order : List Nat} (ok : TwoOk ls G1 G2 prs) (ro : RO (combL G1 G2 prs) order) (pk : Packed (rawOf (combL G1 G2 prs) order) out) : out.length ≤ 40 ∧ ∀ r ∈ out, r.length ≤ 57 ∧ ∀ s ∈ r, isLab s.1 ∧ s.2 ≤ 40 := by
  have cm := comb_mid ok
  have v := comb_valid ok
  have hol := ro.len v
  rw [cm.len] at hol
  have hn1 := ok.n1
  have hn2 := ok.n2
  have hl : out.length = order.length := by rw [pk.1]; unfold rawOf; rw [List.length_map]
  refine ⟨by omega, fun r hr => ?_⟩
  obtain ⟨i, hi⟩ := List.getElem?_of_mem hr
  have hlt := (List.getElem?_eq_some_iff.mp hi).1
  have hri : (rawOf (combL G1 G2 prs) order)[i]? = some ((rawOf (combL G1 G2 prs) order)[i]'(by rw [← pk.1]; exact hlt)) := List.getElem?_eq_getElem _
  have ss := pk.2 i _ r hri hi
  have hm := List.mem_of_getElem? hri
  generalize (rawOf (combL G1 G2 prs) order)[i]'(by rw [← pk.1]; exact hlt) = r0 at ss hm
  obtain ⟨s, hs, rfl⟩ := List.mem_map.mp hm
  have hslt : s < (combL G1 G2 prs).length := ((ro.mem s).mp hs).lt v
  have hrow := cm.row _ (List.mem_of_getElem? (getD_some hslt))
  refine ⟨by have := ss.len; rw [List.length_map] at this; have := hrow.1; omega, fun t ht => ?_⟩
  obtain ⟨u, hu, rfl⟩ := List.mem_map.mp ((ss.mem t).mp ht)
  refine ⟨ok.lab.isLab _ (hrow.2 u hu).1, ?_⟩
  try dsimp only
  have := List.idxOf_le_length (a := u.2) (l := order)
  omega
theorem graph_show {D1 D2 : List D} {out : List Rw} (hd : DoorsOk D1 D2) (n1 : D1.length ≤ 10) (n2 : D2.length ≤ 10) (h : out.length ≤ 40 ∧ ∀ r ∈ out, r.length ≤ 57 ∧ ∀ s ∈ r, isLab s.1 ∧ s.2 ≤ 40) :
    txts [.str "graph", .tup D1, .tup D2, .tup (out.map rowD)] = true ∧ NestedKey.depthAll (toNs [.str "graph", .tup D1, .tup D2, .tup (out.map rowD)]) ≤ 50 ∧ wts [.str "graph", .tup D1, .tup D2, .tup (out.map rowD)] ≤ 16000000 := by
  obtain ⟨hl, hr⟩ := h
  have step_txt : ∀ r ∈ out, ∀ s ∈ r, DL.txt (stepD s) = true := fun r h s hs => by
    have := ((hr r h).2 s hs)
    unfold stepD
    simp only [DL.txt, txts, this.1.2, Bool.true_and, Bool.and_true, decide_eq_true_eq]
    omega
  have row_txt : ∀ r ∈ out, DL.txt (rowD r) = true := fun r h => by
    unfold rowD
    rw [DL.txt]
    refine (txts_all _).mpr fun x hx => ?_
    obtain ⟨s, hs, rfl⟩ := List.mem_map.mp hx
    exact step_txt r h s hs
  have step_dep : ∀ r ∈ out, ∀ s ∈ r, (toN (stepD s)).depth ≤ 3 := fun r h s hs => by
    have := lab_dep ((hr r h).2 s hs).1
    rw [step_toN]
    simp only [NestedKey.depth, NestedKey.depthAll]
    omega
  have row_dep : ∀ x ∈ out.map rowD, (toN x).depth ≤ 4 := fun x hx => by
    obtain ⟨r, h, rfl⟩ := List.mem_map.mp hx
    exact depth_tup fun x hx => by
      obtain ⟨s, hs, rfl⟩ := List.mem_map.mp hx
      exact step_dep r h s hs
  have row_wt : ∀ x ∈ out.map rowD, wt x ≤ 100000 := fun x hx => by
    obtain ⟨r, h, rfl⟩ := List.mem_map.mp hx
    unfold rowD
    rw [wt]
    have := wts_le (n := 1546) (xs := r.map stepD) fun x hx => by
      obtain ⟨s, hs, rfl⟩ := List.mem_map.mp hx
      have := lab_wt ((hr r h).2 s hs).1
      unfold stepD
      simp only [wt, wts]
      omega
    rw [List.length_map] at this
    have h57 := (hr r h).1
    have : r.length * (1546 + 2) ≤ 57 * 1548 := Nat.mul_le_mul_right _ h57
    omega
  refine ⟨?_, ?_, ?_⟩
  · have t1 : txts D1 = true := (txts_all D1).mpr fun x hx => (hd.one x hx).2
    have t2 : txts D2 = true := (txts_all D2).mpr fun x hx => (hd.two x hx).2
    have t3 : txts (out.map rowD) = true := (txts_all _).mpr fun x hx => by
      obtain ⟨r, h, rfl⟩ := List.mem_map.mp hx
      exact row_txt r h
    have t0 : DL.txt (.str "graph") = true := by decide +kernel
    rw [txts, t0, txts, txts, txts, txts, DL.txt, DL.txt, DL.txt, t1, t2, t3]; rfl
  · refine depthAll_le (n := 50) fun x hx => ?_
    simp only [List.mem_cons, List.not_mem_nil, or_false] at hx
    rcases hx with rfl | rfl | rfl | rfl
    · simp [toN, NestedKey.depth]
    · exact Nat.le_trans (depth_tup (n := 2) fun x hx => lab_dep (hd.one x hx)) (by decide)
    · exact Nat.le_trans (depth_tup (n := 2) fun x hx => lab_dep (hd.two x hx)) (by decide)
    · exact Nat.le_trans (depth_tup row_dep) (by decide)
  · have w1 := wts_le (n := 1028) (xs := D1) fun x hx => lab_wt (hd.one x hx)
    have w2 := wts_le (n := 1028) (xs := D2) fun x hx => lab_wt (hd.two x hx)
    have w3 := wts_le row_wt
    rw [List.length_map] at w3
    have a1 : D1.length * (1028 + 2) ≤ 10 * 1030 := Nat.mul_le_mul_right _ n1
    have a2 : D2.length * (1028 + 2) ≤ 10 * 1030 := Nat.mul_le_mul_right _ n2
    have a3 : out.length * (100000 + 2) ≤ 40 * 100002 := Nat.mul_le_mul_right _ hl
    simp only [wts, wt]
    omega
theorem pairs_show {prs : List (Nat × Nat)} {n m : Nat} (hn : n ≤ 20) (hm : m ≤ 20) (h : ∀ p ∈ prs, p.1 < n ∧ p.2 < m) : txts (prs.map pairD) = true ∧ NestedKey.depthAll (toNs (prs.map pairD)) ≤ 50 := by
  refine ⟨(txts_all _).mpr fun x hx => ?_, depthAll_le fun x hx => ?_⟩
  · obtain ⟨p, hp, rfl⟩ := List.mem_map.mp hx
    have := h p hp
    unfold pairD
    simp only [DL.txt, txts, Bool.and_true, Bool.and_eq_true, decide_eq_true_eq]
    omega
  · obtain ⟨p, hp, rfl⟩ := List.mem_map.mp hx
    unfold pairD
    simp [toN, toNs, NestedKey.depth, NestedKey.depthAll]
end L49

set_option Elab.async false
set_option linter.all false
set_option maxRecDepth 100000
set_option maxHeartbeats 400000
namespace L49
open PySem PySem.Spec PyProof.Rows L2 DL
section
variable {P : Program} {w : World} {K : PySem.W.Frag} {mg : Str → Option Value} {base : Heap}
abbrev drD (d : Dr) : D := .tup (d.map doorD)
structure LawS (A : DA) (dk wp pp : Addr) (ls : List D) (d1 d2 : Dr) (G1 G2 : List Rw) (prs : List (Nat × Nat)) : Prop where
  world : WorldOk d1 d2
  two : TwoOk ls G1 G2 prs
  few : prs.length ≤ 10
  p2 : 1 ≤ G2.length
  hd : HD A dk [(pp, .lst (prs.map pairD)), (wp, .lst [drD d1, drD d2])]
theorem LawS.ext {A A' : DA} {dk wp pp : Addr} {ls : List D} {d1 d2 : Dr} {G1 G2 : List Rw} {prs : List (Nat × Nat)} (h : LawS A dk wp pp ls d1 d2 G1 G2 prs) (e : Ext A A') : LawS A' dk wp pp ls d1 d2 G1 G2 prs := ⟨h.world, h.two, h.few, h.p2, h.hd.ext e⟩
theorem x_ne_str {z : Str} {A : DA} {Q : DK} (q : Q (.bl false) A) : rEqU true (.str z) (.str z) A Q := by
  unfold rEqU
  rw [eqF_str, decide_eq_true rfl]
  exact q
theorem law1 {dk wp pp : Addr} {ls : List D} {d1 d2 : Dr} {G1 G2 : List Rw} {prs : List (Nat × Nat)} {kind : Int} {x0 x3 x4 x10 x11 x13 x14 : Option D} {A : DA} {Q : DK} (h : LawS A dk wp pp ls d1 d2 G1 G2 prs) (q : ∀ A', Q (.bl true) A') :
    u_law_1 K w (spSwapping K) spDeck spDraw spEvents spWorld spRows spSwapped spBadPair spOther (spRefused K) (endsF Q) [x0, some (.ref dk), some (.ref wp), x3, x4, some (.tup (G1.map rowD)), some (.tup (G2.map rowD)), some (graphD (drD d1) (drD d2) G1), some (graphD (drD d1) (drD d2) G2), some (.ref pp), x10, x11, some (.int kind), x13, x14] A := by
  unfold u_law_1
  try dsimp only [qSeq, qIfS, qAnd, qOr, qNot, qTest, qOp, qCB, qCX, qCons, qNil, qC, qPut, qMt, qSet, qRet, qRetN, qDrop, qNext, qAndV, qOrV, qNotV, qIf, qChain, qTup, qLst, qSl, qPart, qNoPart, qAsg, qTru, qNeg, qRaise, qDropX, qBreak, qCont, qFor_eq, qLc_eq, qDc_eq, qiSeq, qiRange1, qiRange2, qiEnum, rII0, rII, CDiv, CMul, CPow, rAbs, rInt, rStrI, qTg, Tg.put, putsV, qYes, wipeD, qDisp, qPairs, qDNew]
  refine qVar_some rfl ?_
  refine x_ix_lst (h.hd.get 1) (atI_nat 0 rfl) ?_
  refine qVar_some rfl ?_
  refine x_ix_lst (h.hd.get 1) (atI_nat 1 rfl) ?_
  refine qVar_some rfl ?_
  refine ⟨d1, d2, kind, rfl, h.world, fun p xs ys A1 dok ne e1 hp => ?_⟩
  try dsimp only [qSeq, qIfS, qAnd, qOr, qNot, qTest, qOp, qCB, qCX, qCons, qNil, qC, qPut, qMt, qSet, qRet, qRetN, qDrop, qNext, qAndV, qOrV, qNotV, qIf, qChain, qTup, qLst, qSl, qPart, qNoPart, qAsg, qTru, qNeg, qRaise, qDropX, qBreak, qCont, qFor_eq, qLc_eq, qDc_eq, qiSeq, qiRange1, qiRange2, qiEnum, rII0, rII, CDiv, CMul, CPow, rAbs, rInt, rStrI, qTg, Tg.put, putsV, qYes, wipeD, qDisp, qPairs, qDNew]
  refine qVar_some rfl ?_
  refine qVar_some rfl ?_
  refine x_ix_lst hp (atI_nat 0 rfl) ?_
  refine qVar_some rfl ?_
  refine x_ix_lst hp (atI_nat 1 rfl) ?_
  refine ⟨sz rfl, sz rfl, sz rfl, ?_⟩
  refine qVar_some rfl ?_
  refine .inl ⟨_, rfl, items_lst (e1 _ _ (h.hd.get 0)), fun p2 A2 n2 => ?_⟩
  refine ⟨rfl, fun Q' E' hE => ?_, q⟩
  exact ⟨ls, drD d1, drD d2, .tup xs, .tup ys, G1, [[]], _, rfl, (world_lab h.world).txt, dok.txt, (world_lab h.world).depth, dok.depth, fun _ A' _ => hE A', fun e => absurd e ne⟩
theorem law2 {dk wp pp : Addr} {ls : List D} {d1 d2 : Dr} {G1 G2 : List Rw} {prs : List (Nat × Nat)} {x0 x3 x4 x10 x11 x12 x13 x14 : Option D} {A : DA} {Q : DK} (h : LawS A dk wp pp ls d1 d2 G1 G2 prs) (q : ∀ A', Q (.bl true) A') :
    u_law_2 K w (spSwapping K) spDeck spDraw spEvents spWorld spRows spSwapped spBadPair spOther (spRefused K) (endsF Q) [x0, some (.ref dk), some (.ref wp), x3, x4, some (.tup (G1.map rowD)), some (.tup (G2.map rowD)), some (graphD (drD d1) (drD d2) G1), some (graphD (drD d1) (drD d2) G2), some (.ref pp), x10, x11, x12, x13, x14] A := by
  have hn1 := h.two.n1
  have hn2 := h.two.n2
  have hp1 := h.two.p1
  have hp2 := h.few
  have hw := world_lab h.world
  unfold u_law_2
  try dsimp only [qSeq, qIfS, qAnd, qOr, qNot, qTest, qOp, qCB, qCX, qCons, qNil, qC, qPut, qMt, qSet, qRet, qRetN, qDrop, qNext, qAndV, qOrV, qNotV, qIf, qChain, qTup, qLst, qSl, qPart, qNoPart, qAsg, qTru, qNeg, qRaise, qDropX, qBreak, qCont, qFor_eq, qLc_eq, qDc_eq, qiSeq, qiRange1, qiRange2, qiEnum, rII0, rII, CDiv, CMul, CPow, rAbs, rInt, rStrI, qTg, Tg.put, putsV, qYes, wipeD, qDisp, qPairs, qDNew]
  refine qVar_some rfl ?_
  refine x_draw h.hd (by decide) (by decide) fun r A1 r0 r1 hB => ?_
  try dsimp only [qSeq, qIfS, qAnd, qOr, qNot, qTest, qOp, qCB, qCX, qCons, qNil, qC, qPut, qMt, qSet, qRet, qRetN, qDrop, qNext, qAndV, qOrV, qNotV, qIf, qChain, qTup, qLst, qSl, qPart, qNoPart, qAsg, qTru, qNeg, qRaise, qDropX, qBreak, qCont, qFor_eq, qLc_eq, qDc_eq, qiSeq, qiRange1, qiRange2, qiEnum, rII0, rII, CDiv, CMul, CPow, rAbs, rInt, rStrI, qTg, Tg.put, putsV, qYes, wipeD, qDisp, qPairs, qDNew]
  refine qVar_some rfl ?_
  refine x_ifd (fun c => ?_) fun c => ?_
  · refine qVar_some rfl ?_
    refine ⟨pp, _, rfl, hB.get 0, ?_⟩
    refine qVar_some rfl ?_
    refine qVar_some rfl ?_
    refine x_len_lst (hB.get 0) ?_
    try dsimp only [rAddU]
    rw [List.length_map]
    refine x_draw hB (by omega) (by omega) fun i A2 i0 i1 hC => ?_
    refine qVar_some rfl ?_
    refine qVar_some rfl ?_
    refine qVar_some rfl ?_
    refine qVar_some rfl ?_
    refine ⟨dk, _, G1.map rowD, G2.map rowD, r, rfl, by rw [List.length_map]; omega, by rw [List.length_map]; omega, by rw [List.length_map]; exact h.p2, by rw [List.length_map]; omega, hC, fun x A3 ox bx hD => ?_⟩
    rw [List.length_map, List.length_map] at bx
    refine ⟨_, i, x, rfl, hD.get 0, szt (by rw [List.length_map]; omega), i0, by omega, fun A4 p4 => ?_⟩
    try dsimp only [qSeq, qIfS, qAnd, qOr, qNot, qTest, qOp, qCB, qCX, qCons, qNil, qC, qPut, qMt, qSet, qRet, qRetN, qDrop, qNext, qAndV, qOrV, qNotV, qIf, qChain, qTup, qLst, qSl, qPart, qNoPart, qAsg, qTru, qNeg, qRaise, qDropX, qBreak, qCont, qFor_eq, qLc_eq, qDc_eq, qiSeq, qiRange1, qiRange2, qiEnum, rII0, rII, CDiv, CMul, CPow, rAbs, rInt, rStrI, qTg, Tg.put, putsV, qYes, wipeD, qDisp, qPairs, qDNew]
    refine qVar_some rfl ?_
    refine qVar_some rfl ?_
    refine qVar_some rfl ?_
    refine ⟨rfl, fun Q' E' hE => ?_, q⟩
    refine ⟨ls, drD d1, drD d2, drD d1, drD d2, G1, G2, .ref pp, rfl, hw.txt, hw.txt, hw.depth, hw.depth, fun e => absurd rfl e, fun _ => ⟨_, items_lst p4.get, fun y hy => ?_, ?_, h.two.nil, fun _ A' _ => hE A', fun prs' e ok2 => ?_⟩⟩
    · simp only [List.mem_append, List.mem_singleton] at hy
      have key : ∀ y ∈ prs.map pairD, prOk y := fun y hy => by
        obtain ⟨p, _, rfl⟩ := List.mem_map.mp hy
        exact prOk_pair
      rcases hy with (hy | rfl) | hy
      · exact key y (List.mem_of_mem_take hy)
      · exact ox
      · exact key y (List.mem_of_mem_drop hy)
    · rw [List.length_append, List.length_append, List.length_take, List.length_drop, List.length_map, List.length_singleton]; omega
    · have hx : x ∈ prs'.map pairD := by
        rw [← e]; simp
      obtain ⟨p, hp, rfl⟩ := List.mem_map.mp hx
      have := ok2.pr p hp
      rw [isPr_pair this.1 this.2] at bx
      cases bx
  · exact law1 ⟨h.world, h.two, h.few, h.p2, hB⟩ q
theorem law3 {dk wp pp : Addr} {ls : List D} {d1 d2 : Dr} {G1 G2 : List Rw} {prs : List (Nat × Nat)} {x0 x3 x4 x11 x12 x13 x14 : Option D} {g : D} {A : DA} {Q : DK} (h : LawS A dk wp pp ls d1 d2 G1 G2 prs) (hg : items? A g = some (prs.map pairD)) (q : ∀ A', Q (.bl true) A') :
    u_law_3 K w (spSwapping K) spDeck spDraw spEvents spWorld spRows spSwapped spBadPair spOther (spRefused K) (endsF Q) [x0, some (.ref dk), some (.ref wp), x3, x4, some (.tup (G1.map rowD)), some (.tup (G2.map rowD)), some (graphD (drD d1) (drD d2) G1), some (graphD (drD d1) (drD d2) G2), some (.ref pp), some g, x11, x12, x13, x14] A := by
  have hw := world_lab h.world
  have hfew := h.world.few
  rw [List.length_append] at hfew
  unfold u_law_3
  try dsimp only [qSeq, qIfS, qAnd, qOr, qNot, qTest, qOp, qCB, qCX, qCons, qNil, qC, qPut, qMt, qSet, qRet, qRetN, qDrop, qNext, qAndV, qOrV, qNotV, qIf, qChain, qTup, qLst, qSl, qPart, qNoPart, qAsg, qTru, qNeg, qRaise, qDropX, qBreak, qCont, qFor_eq, qLc_eq, qDc_eq, qiSeq, qiRange1, qiRange2, qiEnum, rII0, rII, CDiv, CMul, CPow, rAbs, rInt, rStrI, qTg, Tg.put, putsV, qYes, wipeD, qDisp, qPairs, qDNew]
  refine qVar_some rfl ?_
  refine x_ix_lst (h.hd.get 1) (atI_nat 0 rfl) ?_
  refine qVar_some rfl ?_
  refine x_ix_lst (h.hd.get 1) (atI_nat 1 rfl) ?_
  refine qVar_some rfl ?_
  refine qVar_some rfl ?_
  refine qVar_some rfl ?_
  refine ⟨ls, G1, G2, prs, pp, rfl, h.two, h.hd.get 0, fun out A1 order ro pk e1 => ?_⟩
  have hshow := graph_show hw (by rw [List.length_map]; omega) (by rw [List.length_map]; omega) (out_ok h.two ro pk)
  refine ⟨sz rfl, ?_⟩
  try dsimp only [qSeq, qIfS, qAnd, qOr, qNot, qTest, qOp, qCB, qCX, qCons, qNil, qC, qPut, qMt, qSet, qRet, qRetN, qDrop, qNext, qAndV, qOrV, qNotV, qIf, qChain, qTup, qLst, qSl, qPart, qNoPart, qAsg, qTru, qNeg, qRaise, qDropX, qBreak, qCont, qFor_eq, qLc_eq, qDc_eq, qiSeq, qiRange1, qiRange2, qiEnum, rII0, rII, CDiv, CMul, CPow, rAbs, rInt, rStrI, qTg, Tg.put, putsV, qYes, wipeD, qDisp, qPairs, qDNew]
  refine qVar_some rfl ?_
  refine qVar_some rfl ?_
  refine qVar_some rfl ?_
  refine ⟨ls, drD d1, drD d2, drD d1, drD d2, G1, G2, g, rfl, hw.txt, hw.txt, hw.depth, hw.depth, fun e => absurd rfl e, fun _ => ⟨_, items_ext e1 hg, fun x hx => ?_, by rw [List.length_map]; have := h.few; omega, h.two.nil, fun ⟨x, hx, hf⟩ => ?_, fun prs' e ok2 os out2 A2 ps tr e2 => ?_⟩⟩
  · obtain ⟨p, _, rfl⟩ := List.mem_map.mp hx
    exact prOk_pair
  · obtain ⟨p, hp, rfl⟩ := List.mem_map.mp hx
    have := h.two.pr p hp
    rw [isPr_pair this.1 this.2] at hf
    cases hf
  · have e3 := pairs_inj e
    subst e3
    have e4 := swapped_same h.two ro pk ps tr
    subst e4
    have hpr := pairs_show h.two.n1 h.two.n2 h.two.pr
    obtain ⟨z, hz⟩ : ∃ z, ∀ A Q, Q (.str z) A → rRepr [graphD (drD d1) (drD d2) out] A Q := ⟨_, fun A Q q => x_repr hshow.1 hshow.2.1 hshow.2.2 q⟩
    refine hz _ _ ?_
    refine qVar_some rfl ?_
    refine hz _ _ ?_
    refine x_ne_str ?_
    refine x_ifF rfl ?_
    refine qVar_some rfl ?_
    refine ⟨g, _, rfl, items_ext (e1.trans e2) hg, fun p3 A3 n3 => ?_⟩
    refine qVar_some rfl ?_
    have h3 := h.ext ((e1.trans e2).trans n3.ex)
    refine x_eqL n3.get (h3.hd.get 0) hpr.1 hpr.1 hpr.2 hpr.2 ?_
    rw [if_pos rfl, decide_eq_true rfl]
    refine x_ifF rfl ?_
    exact law2 h3 q
theorem law4 {dk wp pp : Addr} {ls : List D} {d1 d2 : Dr} {G1 G2 : List Rw} {prs : List (Nat × Nat)} {x0 x3 x4 x10 x11 x12 x13 x14 : Option D} {A : DA} {Q : DK} (h : LawS A dk wp pp ls d1 d2 G1 G2 prs) (q : ∀ A', Q (.bl true) A') :
    u_law_4 K w (spSwapping K) spDeck spDraw spEvents spWorld spRows spSwapped spBadPair spOther (spRefused K) (endsF Q) [x0, some (.ref dk), some (.ref wp), x3, x4, some (.tup (G1.map rowD)), some (.tup (G2.map rowD)), some (graphD (drD d1) (drD d2) G1), some (graphD (drD d1) (drD d2) G2), some (.ref pp), x10, x11, x12, x13, x14] A := by
  unfold u_law_4
  try dsimp only [qSeq, qIfS, qAnd, qOr, qNot, qTest, qOp, qCB, qCX, qCons, qNil, qC, qPut, qMt, qSet, qRet, qRetN, qDrop, qNext, qAndV, qOrV, qNotV, qIf, qChain, qTup, qLst, qSl, qPart, qNoPart, qAsg, qTru, qNeg, qRaise, qDropX, qBreak, qCont, qFor_eq, qLc_eq, qDc_eq, qiSeq, qiRange1, qiRange2, qiEnum, rII0, rII, CDiv, CMul, CPow, rAbs, rInt, rStrI, qTg, Tg.put, putsV, qYes, wipeD, qDisp, qPairs, qDNew]
  refine qVar_some rfl ?_
  refine ⟨_, _, rfl, items_lst (h.hd.get 0), fun gp A1 n1 => ?_⟩
  have hB := h.hd.new n1
  try dsimp only [qSeq, qIfS, qAnd, qOr, qNot, qTest, qOp, qCB, qCX, qCons, qNil, qC, qPut, qMt, qSet, qRet, qRetN, qDrop, qNext, qAndV, qOrV, qNotV, qIf, qChain, qTup, qLst, qSl, qPart, qNoPart, qAsg, qTru, qNeg, qRaise, qDropX, qBreak, qCont, qFor_eq, qLc_eq, qDc_eq, qiSeq, qiRange1, qiRange2, qiEnum, rII0, rII, CDiv, CMul, CPow, rAbs, rInt, rStrI, qTg, Tg.put, putsV, qYes, wipeD, qDisp, qPairs, qDNew]
  refine qVar_some rfl ?_
  refine x_draw hB (by decide) (by decide) fun r A2 r0 r1 hC => ?_
  rw [rEq_int]
  try dsimp only [qSeq, qIfS, qAnd, qOr, qNot, qTest, qOp, qCB, qCX, qCons, qNil, qC, qPut, qMt, qSet, qRet, qRetN, qDrop, qNext, qAndV, qOrV, qNotV, qIf, qChain, qTup, qLst, qSl, qPart, qNoPart, qAsg, qTru, qNeg, qRaise, qDropX, qBreak, qCont, qFor_eq, qLc_eq, qDc_eq, qiSeq, qiRange1, qiRange2, qiEnum, rII0, rII, CDiv, CMul, CPow, rAbs, rInt, rStrI, qTg, Tg.put, putsV, qYes, wipeD, qDisp, qPairs, qDNew]
  refine x_ifd (fun c => ?_) fun c => ?_
  · refine qVar_some rfl ?_
    refine ⟨_, _, rfl, items_lst (hC.get 1), ?_⟩
    exact law3 ⟨h.world, h.two, h.few, h.p2, hC.tl⟩ rfl q
  · exact law3 ⟨h.world, h.two, h.few, h.p2, hC.tl⟩ (items_lst (hC.get 0)) q
theorem law5 {dk wp pp : Addr} {ls : List D} {d1 d2 : Dr} {G1 G2 : List Rw} {prs : List (Nat × Nat)} {x0 x3 x4 x10 x11 x12 x13 x14 : Option D} {A : DA} {Q : DK} (h : LawS A dk wp pp ls d1 d2 G1 G2 prs) (hf : prs.length ≤ 9) (q : ∀ A', Q (.bl true) A') :
    u_law_5 K w (spSwapping K) spDeck spDraw spEvents spWorld spRows spSwapped spBadPair spOther (spRefused K) (endsF Q) [x0, some (.ref dk), some (.ref wp), x3, x4, some (.tup (G1.map rowD)), some (.tup (G2.map rowD)), some (graphD (drD d1) (drD d2) G1), some (graphD (drD d1) (drD d2) G2), some (.ref pp), x10, x11, x12, x13, x14] A := by
  unfold u_law_5
  try dsimp only [qSeq, qIfS, qAnd, qOr, qNot, qTest, qOp, qCB, qCX, qCons, qNil, qC, qPut, qMt, qSet, qRet, qRetN, qDrop, qNext, qAndV, qOrV, qNotV, qIf, qChain, qTup, qLst, qSl, qPart, qNoPart, qAsg, qTru, qNeg, qRaise, qDropX, qBreak, qCont, qFor_eq, qLc_eq, qDc_eq, qiSeq, qiRange1, qiRange2, qiEnum, rII0, rII, CDiv, CMul, CPow, rAbs, rInt, rStrI, qTg, Tg.put, putsV, qYes, wipeD, qDisp, qPairs, qDNew]
  refine qVar_some rfl ?_
  refine x_len_lst (h.hd.get 0) ?_
  rw [List.length_map]
  try dsimp only [qSeq, qIfS, qAnd, qOr, qNot, qTest, qOp, qCB, qCX, qCons, qNil, qC, qPut, qMt, qSet, qRet, qRetN, qDrop, qNext, qAndV, qOrV, qNotV, qIf, qChain, qTup, qLst, qSl, qPart, qNoPart, qAsg, qTru, qNeg, qRaise, qDropX, qBreak, qCont, qFor_eq, qLc_eq, qDc_eq, qiSeq, qiRange1, qiRange2, qiEnum, rII0, rII, CDiv, CMul, CPow, rAbs, rInt, rStrI, qTg, Tg.put, putsV, qYes, wipeD, qDisp, qPairs, qDNew]
  refine x_ifd (fun c => ?_) fun c => ?_
  · refine qVar_some rfl ?_
    refine x_draw h.hd (by decide) (by decide) fun r A2 r0 r1 hC => ?_
    rw [rEq_int]
    try dsimp only [qSeq, qIfS, qAnd, qOr, qNot, qTest, qOp, qCB, qCX, qCons, qNil, qC, qPut, qMt, qSet, qRet, qRetN, qDrop, qNext, qAndV, qOrV, qNotV, qIf, qChain, qTup, qLst, qSl, qPart, qNoPart, qAsg, qTru, qNeg, qRaise, qDropX, qBreak, qCont, qFor_eq, qLc_eq, qDc_eq, qiSeq, qiRange1, qiRange2, qiEnum, rII0, rII, CDiv, CMul, CPow, rAbs, rInt, rStrI, qTg, Tg.put, putsV, qYes, wipeD, qDisp, qPairs, qDNew]
    refine x_ifd (fun c2 => ?_) fun c2 => ?_
    · match prs, h, hf, hC with
      | [], _, _, _ => exact absurd c (by decide)
      | p :: prs, h, hf, hC =>
        refine qVar_some rfl ?_
        refine ⟨pp, _, rfl, hC.get 0, ?_⟩
        refine qVar_some rfl ?_
        refine x_ix_lst (hC.get 0) (atI_nat 0 rfl) ?_
        refine ⟨_, _, rfl, hC.get 0, szt (by rw [List.length_map]; omega), fun A3 p3 => ?_⟩
        have hD := hC.put 0 p3
        have e : (p :: prs).map pairD ++ [pairD p] = ((p :: prs) ++ [p]).map pairD := by rw [List.map_append]; rfl
        rw [e] at hD
        refine law4 ⟨h.world, h.two.nil.more ?_ fun x hx => ?_, ?_, h.p2, hD⟩ q
        · rw [List.length_append, List.length_singleton]; omega
        · rcases List.mem_append.mp hx with z | z
          · exact h.two.pr x z
          · rw [List.mem_singleton.mp z]; exact h.two.pr p List.mem_cons_self
        · rw [List.length_append, List.length_singleton]; omega
    · exact law4 ⟨h.world, h.two, h.few, h.p2, hC⟩ q
  · exact law4 h q
end
end L49

set_option Elab.async false
set_option linter.all false
set_option maxRecDepth 100000
set_option maxHeartbeats 1000000
namespace L49
open PySem PySem.Spec PyProof.Rows L2 DL
section
variable {P : Program} {w : World} {K : PySem.W.Frag} {mg : Str → Option Value} {base : Heap}
theorem one_add (k : Nat) : (1 + (k : Int)) = ((1 + k : Nat) : Int) := by omega
def spLaw : DSp := fun ds A Q => ∃ x ns, ds = [x] ∧ ns.length ≤ 63 ∧ Script A x ns ∧ ∀ A', Q (.bl true) A'
theorem law_ok (T : Top K mg) : DFn P w K mg base 6 (He.ga K "law") (fdO K (He.ga K "law")) ["script"] spLaw := by
  refine dfun_ok T.d_law sc_law (fun ds A Q ⟨_, _, h, _⟩ => by rw [h]; rfl) (b_law T (ok_swapping T) (ok_deck T) (ok_draw T) (ok_events T) (ok_world T) (ok_rows T) (ok_swapped T) (ok_bad_pair T) (ok_other_doors T) (ok_refused T)) fun ds A Q ⟨x, ns, hd, hl, hS, q⟩ => ?_
  subst hd
  unfold t_law
  try dsimp only [qSeq, qIfS, qAnd, qOr, qNot, qTest, qOp, qCB, qCX, qCons, qNil, qC, qPut, qMt, qSet, qRet, qRetN, qDrop, qNext, qAndV, qOrV, qNotV, qIf, qChain, qTup, qLst, qSl, qPart, qNoPart, qAsg, qTru, qNeg, qRaise, qDropX, qBreak, qCont, qFor_eq, qLc_eq, qDc_eq, qiSeq, qiRange1, qiRange2, qiEnum, rII0, rII, CDiv, CMul, CPow, rAbs, rInt, rStrI, qTg, Tg.put, putsV, qYes, wipeD, qDisp, qPairs, qDNew]
  refine qVar_some rfl ?_
  refine ⟨x, ns, rfl, hl, hS, fun dk A1 hA => ?_⟩
  try dsimp only [qSeq, qIfS, qAnd, qOr, qNot, qTest, qOp, qCB, qCX, qCons, qNil, qC, qPut, qMt, qSet, qRet, qRetN, qDrop, qNext, qAndV, qOrV, qNotV, qIf, qChain, qTup, qLst, qSl, qPart, qNoPart, qAsg, qTru, qNeg, qRaise, qDropX, qBreak, qCont, qFor_eq, qLc_eq, qDc_eq, qiSeq, qiRange1, qiRange2, qiEnum, rII0, rII, CDiv, CMul, CPow, rAbs, rInt, rStrI, qTg, Tg.put, putsV, qYes, wipeD, qDisp, qPairs, qDNew]
  refine qVar_some rfl ?_
  refine ⟨dk, 4, [], rfl, by decide, by decide, hA, fun wp d1 d2 A2 wok hB => ?_⟩
  try dsimp only [qSeq, qIfS, qAnd, qOr, qNot, qTest, qOp, qCB, qCX, qCons, qNil, qC, qPut, qMt, qSet, qRet, qRetN, qDrop, qNext, qAndV, qOrV, qNotV, qIf, qChain, qTup, qLst, qSl, qPart, qNoPart, qAsg, qTru, qNeg, qRaise, qDropX, qBreak, qCont, qFor_eq, qLc_eq, qDc_eq, qiSeq, qiRange1, qiRange2, qiEnum, rII0, rII, CDiv, CMul, CPow, rAbs, rInt, rStrI, qTg, Tg.put, putsV, qYes, wipeD, qDisp, qPairs, qDNew]
  refine qVar_some rfl ?_
  refine x_ix_lst (hB.get 0) (atI_nat 0 rfl) ?_
  refine qVar_some rfl ?_
  refine x_ix_lst (hB.get 0) (atI_nat 1 rfl) ?_
  try dsimp only [rAddU]
  have few := wok.few
  have pos := wok.pos
  refine ⟨szl (by rw [List.length_map, List.length_map, ← List.length_append]; omega), ?_⟩
  rw [← List.map_append]
  refine ⟨10, d1 ++ d2, rfl, wok.ok, by omega, fun ep evs A3 pm e3 f3 g3 => ?_⟩
  have hC := hB.made e3 f3 g3
  have hev : evs.length ≤ 20 := by
    rw [pm.length_eq]
    have := flat_len (d1 ++ d2)
    omega
  have hlab := labels_ok wok.ok pm
  try dsimp only [qSeq, qIfS, qAnd, qOr, qNot, qTest, qOp, qCB, qCX, qCons, qNil, qC, qPut, qMt, qSet, qRet, qRetN, qDrop, qNext, qAndV, qOrV, qNotV, qIf, qChain, qTup, qLst, qSl, qPart, qNoPart, qAsg, qTru, qNeg, qRaise, qDropX, qBreak, qCont, qFor_eq, qLc_eq, qDc_eq, qiSeq, qiRange1, qiRange2, qiEnum, rII0, rII, CDiv, CMul, CPow, rAbs, rInt, rStrI, qTg, Tg.put, putsV, qYes, wipeD, qDisp, qPairs, qDNew]
  refine qVar_some rfl ?_
  refine qVar_some rfl ?_
  refine ⟨_, _, hC.get 0, hC.get 0, szl (by omega), fun pa A4 n4 => ?_⟩
  have hD := hC.new n4
  refine ⟨sz rfl, sz rfl, sz rfl, fun pb A5 n5 => ?_⟩
  have hE := hD.new n5
  refine ⟨_, _, hE.get 1, hE.get 0, szl (by rw [List.length_append]; show _ + 2 ≤ _; omega), fun lp A6 n6 => ?_⟩
  have hF0 := hE.new n6
  have hF : HD A6 dk [(lp, .lst ((evs ++ evs) ++ [quietD, faultD])), (wp, .lst [drD d1, drD d2])] := hF0.sub (((List.Sublist.refl _).cons _).cons _ |>.cons _ |>.cons₂ _)
  clear hF0 hE hD hC
  have hll : ((evs ++ evs) ++ [quietD, faultD]).length ≤ 1000 := by
    rw [List.length_append, List.length_append]; show _ + 2 ≤ _; omega
  have hq : quietD ∈ (evs ++ evs) ++ [quietD, faultD] := List.mem_append_right _ List.mem_cons_self
  generalize hls : (evs ++ evs) ++ [quietD, faultD] = ls at hF hlab hll hq
  have hne : ls ≠ [] := fun z => by rw [z] at hq; cases hq
  try dsimp only [qSeq, qIfS, qAnd, qOr, qNot, qTest, qOp, qCB, qCX, qCons, qNil, qC, qPut, qMt, qSet, qRet, qRetN, qDrop, qNext, qAndV, qOrV, qNotV, qIf, qChain, qTup, qLst, qSl, qPart, qNoPart, qAsg, qTru, qNeg, qRaise, qDropX, qBreak, qCont, qFor_eq, qLc_eq, qDc_eq, qiSeq, qiRange1, qiRange2, qiEnum, rII0, rII, CDiv, CMul, CPow, rAbs, rInt, rStrI, qTg, Tg.put, putsV, qYes, wipeD, qDisp, qPairs, qDNew]
  refine qVar_some rfl ?_
  refine qVar_some rfl ?_
  refine qVar_some rfl ?_
  refine x_draw hF (by decide) (by decide) fun r A7 r0 r1 hG => ?_
  refine qVar_some rfl ?_
  refine x_draw hG (by decide) (by decide) fun t A8 t0 t1 hH => ?_
  obtain ⟨r, rfl⟩ := Int.eq_ofNat_of_zero_le r0
  obtain ⟨t, rfl⟩ := Int.eq_ofNat_of_zero_le t0
  refine ⟨dk, lp, ls, _, 1 + r, t, by rw [one_add r], hlab, hne, hll, by omega, by omega, by omega, hH, ⟨0, rfl⟩, fun G1 A9 g1 hI => ?_⟩
  try dsimp only [qSeq, qIfS, qAnd, qOr, qNot, qTest, qOp, qCB, qCX, qCons, qNil, qC, qPut, qMt, qSet, qRet, qRetN, qDrop, qNext, qAndV, qOrV, qNotV, qIf, qChain, qTup, qLst, qSl, qPart, qNoPart, qAsg, qTru, qNeg, qRaise, qDropX, qBreak, qCont, qFor_eq, qLc_eq, qDc_eq, qiSeq, qiRange1, qiRange2, qiEnum, rII0, rII, CDiv, CMul, CPow, rAbs, rInt, rStrI, qTg, Tg.put, putsV, qYes, wipeD, qDisp, qPairs, qDNew]
  refine qVar_some rfl ?_
  refine qVar_some rfl ?_
  refine qVar_some rfl ?_
  refine x_draw hI (by decide) (by decide) fun u A10 u0 u1 hJ => ?_
  refine qVar_some rfl ?_
  refine x_draw hJ (by decide) (by decide) fun v A11 v0 v1 hK => ?_
  obtain ⟨u, rfl⟩ := Int.eq_ofNat_of_zero_le u0
  obtain ⟨v, rfl⟩ := Int.eq_ofNat_of_zero_le v0
  refine ⟨dk, lp, ls, _, 1 + u, v, by rw [one_add u], hlab, hne, hll, by omega, by omega, by omega, hK, ⟨0, rfl⟩, fun G2 A12 g2 hL => ?_⟩
  have hg1 : GoodRows ls G1.length G1 := by rw [g1.len]; exact g1
  have hg2 : GoodRows ls G2.length G2 := by rw [g2.len]; exact g2
  have l1 := g1.len
  have l2 := g2.len
  try dsimp only [qSeq, qIfS, qAnd, qOr, qNot, qTest, qOp, qCB, qCX, qCons, qNil, qC, qPut, qMt, qSet, qRet, qRetN, qDrop, qNext, qAndV, qOrV, qNotV, qIf, qChain, qTup, qLst, qSl, qPart, qNoPart, qAsg, qTru, qNeg, qRaise, qDropX, qBreak, qCont, qFor_eq, qLc_eq, qDc_eq, qiSeq, qiRange1, qiRange2, qiEnum, rII0, rII, CDiv, CMul, CPow, rAbs, rInt, rStrI, qTg, Tg.put, putsV, qYes, wipeD, qDisp, qPairs, qDNew]
  refine qVar_some rfl ?_
  refine x_ix_lst (hL.get 1) (atI_nat 0 rfl) ?_
  refine qVar_some rfl ?_
  refine x_ix_lst (hL.get 1) (atI_nat 1 rfl) ?_
  refine qVar_some rfl ?_
  refine ⟨sz rfl, ?_⟩
  try dsimp only [qSeq, qIfS, qAnd, qOr, qNot, qTest, qOp, qCB, qCX, qCons, qNil, qC, qPut, qMt, qSet, qRet, qRetN, qDrop, qNext, qAndV, qOrV, qNotV, qIf, qChain, qTup, qLst, qSl, qPart, qNoPart, qAsg, qTru, qNeg, qRaise, qDropX, qBreak, qCont, qFor_eq, qLc_eq, qDc_eq, qiSeq, qiRange1, qiRange2, qiEnum, rII0, rII, CDiv, CMul, CPow, rAbs, rInt, rStrI, qTg, Tg.put, putsV, qYes, wipeD, qDisp, qPairs, qDNew]
  refine qVar_some rfl ?_
  refine x_ix_lst (hL.get 1) (atI_nat 0 rfl) ?_
  refine qVar_some rfl ?_
  refine x_ix_lst (hL.get 1) (atI_nat 1 rfl) ?_
  refine qVar_some rfl ?_
  refine ⟨sz rfl, ?_⟩
  try dsimp only [qSeq, qIfS, qAnd, qOr, qNot, qTest, qOp, qCB, qCX, qCons, qNil, qC, qPut, qMt, qSet, qRet, qRetN, qDrop, qNext, qAndV, qOrV, qNotV, qIf, qChain, qTup, qLst, qSl, qPart, qNoPart, qAsg, qTru, qNeg, qRaise, qDropX, qBreak, qCont, qFor_eq, qLc_eq, qDc_eq, qiSeq, qiRange1, qiRange2, qiEnum, rII0, rII, CDiv, CMul, CPow, rAbs, rInt, rStrI, qTg, Tg.put, putsV, qYes, wipeD, qDisp, qPairs, qDNew]
  refine qVar_some rfl ?_
  refine x_draw hL (by decide) (by decide) fun n A13 n0 n1 hM => ?_
  refine ⟨by omega, by omega, ?_⟩
  have two0 : TwoOk ls G1 G2 [] := ⟨hlab, hq, hg1, hg2, by omega, by omega, by omega, by simp, fun p h => by cases h⟩
  refine lcB_n n.toNat (fun i => .int (0 + (i : Int))) (fun C i A' => ∃ prs : List (Nat × Nat), prs.length = i ∧ (∀ p ∈ prs, p.1 < G1.length ∧ p.2 < G2.length) ∧ HD A' dk ((C, .lst (prs.map pairD)) :: [(lp, .lst ls), (wp, .lst [drD d1, drD d2])])) (fun C A14 n14 => ⟨[], rfl, fun p h => (nomatch h), hM.new n14⟩) (fun C i A' hi _ => rfl) (fun C A14 ⟨prs, h1, h2, h3⟩ => ?_) fun C i A14 hi ⟨prs, h1, h2, h3⟩ => ?_
  · have S0 : LawS A14 dk wp C ls d1 d2 G1 G2 prs := ⟨wok, two0.more (by omega) h2, by omega, by omega, h3.sub (((List.Sublist.refl _).cons _).cons₂ _)⟩
    try dsimp only [qSeq, qIfS, qAnd, qOr, qNot, qTest, qOp, qCB, qCX, qCons, qNil, qC, qPut, qMt, qSet, qRet, qRetN, qDrop, qNext, qAndV, qOrV, qNotV, qIf, qChain, qTup, qLst, qSl, qPart, qNoPart, qAsg, qTru, qNeg, qRaise, qDropX, qBreak, qCont, qFor_eq, qLc_eq, qDc_eq, qiSeq, qiRange1, qiRange2, qiEnum, rII0, rII, CDiv, CMul, CPow, rAbs, rInt, rStrI, qTg, Tg.put, putsV, qYes, wipeD, qDisp, qPairs, qDNew]
    refine qVar_some rfl ?_
    refine x_draw S0.hd (by decide) (by decide) fun s A15 s0 s1 hN => ?_
    rw [rEq_int]
    try dsimp only [qSeq, qIfS, qAnd, qOr, qNot, qTest, qOp, qCB, qCX, qCons, qNil, qC, qPut, qMt, qSet, qRet, qRetN, qDrop, qNext, qAndV, qOrV, qNotV, qIf, qChain, qTup, qLst, qSl, qPart, qNoPart, qAsg, qTru, qNeg, qRaise, qDropX, qBreak, qCont, qFor_eq, qLc_eq, qDc_eq, qiSeq, qiRange1, qiRange2, qiEnum, rII0, rII, CDiv, CMul, CPow, rAbs, rInt, rStrI, qTg, Tg.put, putsV, qYes, wipeD, qDisp, qPairs, qDNew]
    refine x_ifd (fun c => ?_) fun c => ?_
    · refine qVar_some rfl ?_
      refine ⟨C, _, rfl, hN.get 0, ?_⟩
      refine qVar_some rfl ?_
      refine x_len_tup ?_
      try dsimp only [qSeq, qIfS, qAnd, qOr, qNot, qTest, qOp, qCB, qCX, qCons, qNil, qC, qPut, qMt, qSet, qRet, qRetN, qDrop, qNext, qAndV, qOrV, qNotV, qIf, qChain, qTup, qLst, qSl, qPart, qNoPart, qAsg, qTru, qNeg, qRaise, qDropX, qBreak, qCont, qFor_eq, qLc_eq, qDc_eq, qiSeq, qiRange1, qiRange2, qiEnum, rII0, rII, CDiv, CMul, CPow, rAbs, rInt, rStrI, qTg, Tg.put, putsV, qYes, wipeD, qDisp, qPairs, qDNew]
      refine qVar_some rfl ?_
      refine x_len_tup ?_
      try dsimp only [qSeq, qIfS, qAnd, qOr, qNot, qTest, qOp, qCB, qCX, qCons, qNil, qC, qPut, qMt, qSet, qRet, qRetN, qDrop, qNext, qAndV, qOrV, qNotV, qIf, qChain, qTup, qLst, qSl, qPart, qNoPart, qAsg, qTru, qNeg, qRaise, qDropX, qBreak, qCont, qFor_eq, qLc_eq, qDc_eq, qiSeq, qiRange1, qiRange2, qiEnum, rII0, rII, CDiv, CMul, CPow, rAbs, rInt, rStrI, qTg, Tg.put, putsV, qYes, wipeD, qDisp, qPairs, qDNew]
      rw [List.length_map, List.length_map]
      refine ⟨sz rfl, ?_⟩
      refine ⟨_, _, rfl, hN.get 0, szt (by rw [List.length_map]; omega), fun A16 p16 => ?_⟩
      have hO := hN.put 0 p16
      have e : prs.map pairD ++ [.tup [.int ((G1.length : Int) - 1), .int ((G2.length : Int) - 1)]] = (prs ++ [(G1.length - 1, G2.length - 1)]).map pairD := by
        rw [List.map_append]
        have e1 : ((G1.length - 1 : Nat) : Int) = (G1.length : Int) - 1 := by omega
        have e2 : ((G2.length - 1 : Nat) : Int) = (G2.length : Int) - 1 := by omega
        show prs.map pairD ++ [D.tup [.int ((G1.length : Int) - 1), .int ((G2.length : Int) - 1)]] = prs.map pairD ++ [D.tup [.int ((G1.length - 1 : Nat) : Int), .int ((G2.length - 1 : Nat) : Int)]]
        rw [e1, e2]
      rw [e] at hO
      refine law5 ⟨wok, two0.more ?_ fun p hp => ?_, ?_, by omega, hO⟩ ?_ q
      · rw [List.length_append, List.length_singleton]; omega
      · rcases List.mem_append.mp hp with z | z
        · exact h2 p z
        · rw [List.mem_singleton.mp z]
          try dsimp only
          omega
      · rw [List.length_append, List.length_singleton]; omega
      · rw [List.length_append, List.length_singleton]; omega
    · exact law5 ⟨wok, S0.two, S0.few, S0.p2, hN⟩ (by omega) q
  · try dsimp only [qSeq, qIfS, qAnd, qOr, qNot, qTest, qOp, qCB, qCX, qCons, qNil, qC, qPut, qMt, qSet, qRet, qRetN, qDrop, qNext, qAndV, qOrV, qNotV, qIf, qChain, qTup, qLst, qSl, qPart, qNoPart, qAsg, qTru, qNeg, qRaise, qDropX, qBreak, qCont, qFor_eq, qLc_eq, qDc_eq, qiSeq, qiRange1, qiRange2, qiEnum, rII0, rII, CDiv, CMul, CPow, rAbs, rInt, rStrI, qTg, Tg.put, putsV, qYes, wipeD, qDisp, qPairs, qDNew]
    refine x_ifT rfl ?_
    refine qVar_some rfl ?_
    refine qVar_some rfl ?_
    refine x_len_tup ?_
    rw [List.length_map]
    refine x_draw h3 (by omega) (by omega) fun a A15 a0 a1 hN => ?_
    refine qVar_some rfl ?_
    refine qVar_some rfl ?_
    refine x_len_tup ?_
    rw [List.length_map]
    refine x_draw hN (by omega) (by omega) fun b A16 b0 b1 hO => ?_
    obtain ⟨a, rfl⟩ := Int.eq_ofNat_of_zero_le a0
    obtain ⟨b, rfl⟩ := Int.eq_ofNat_of_zero_le b0
    refine ⟨sz rfl, _, hO.get 0, szt (by rw [List.length_map]; omega), fun A17 p17 => ⟨prs ++ [(a, b)], by rw [List.length_append, h1]; rfl, fun p hp => ?_, ?_⟩⟩
    · rcases List.mem_append.mp hp with z | z
      · exact h2 p z
      · rw [List.mem_singleton.mp z]
        try dsimp only
        omega
    · have := hO.put 0 p17
      rw [List.map_append]
      exact this
end
end L49

set_option Elab.async false
set_option linter.all false
set_option maxRecDepth 100000
set_option maxHeartbeats 0
namespace L49
open PySem PySem.Spec PyProof.Rows L2 DL
abbrev R : PySem.W.OpenRow := PySem.W.OpenLaw.row PySem.Challenge.rw_unseenswap_k49_swapping_built
abbrev hk : PySem.W.Hook := hookB 6 fa fn fb
def ob (s : PySem.W.SharedT) : Bool × He.AlD := obB 6 fa fn fb (HandSHeadRun.getT s)
theorem ob_eq (s : PySem.W.SharedT) : ob s = hk.obs s.abs := obB_eq (HandSHeadRun.getT_eq s)
theorem run (w : World) : HandSHeadRun.RunEq R (PySem.W.view R.prog [33]) hk ob 4000 ["UnseenError", "BadName", "BadGraph", "BadTeacher", "BadTests", "TooMany", "is_number", "is_state", "is_pair", "QUIET", "doors_of", "trimmed", "swapping", "_law_deck", "_law_draw", "_law_some", "_law_doors", "_law_events", "_law_world", "_law_pack", "_law_rows", "_law_reached", "_law_packed", "_law_swapped", "_law_is_bad_graph", "_law_bad_pair", "_law_other_doors", "_law_refused"] w := by
  intro os
  kernel_rfl
end L49
namespace L49
open PySem PySem.Spec PyProof.Rows L2 DL
def loose : List Str := ["UnseenError", "BadName", "BadGraph", "BadTeacher", "BadTests", "TooMany", "is_number", "is_state", "is_pair", "QUIET", "doors_of", "trimmed", "swapping", "_law_deck", "_law_draw", "_law_some", "_law_doors", "_law_events", "_law_world", "_law_pack", "_law_rows", "_law_reached", "_law_packed", "_law_swapped", "_law_is_bad_graph", "_law_bad_pair", "_law_other_doors", "_law_refused"]
end L49
open PySem PySem.W PySem.Calls PyProof.Rows
theorem PySem.Challenge.cw_unseenswap_k49_swapping_built_holds : PySem.Challenge.rw_unseenswap_k49_swapping_built.Holds := by
  w_on; o_law
  refine HandSHeadRun.head_any (r := OpenLaw.row PySem.Challenge.rw_unseenswap_k49_swapping_built) (q := view (OpenLaw.row PySem.Challenge.rw_unseenswap_k49_swapping_built).prog [33]) (H := L49.hk) (ob := L49.ob) (M := 4000) (loose := L49.loose) (d := HandSHeadRun.topDef (OpenLaw.row PySem.Challenge.rw_unseenswap_k49_swapping_built).prog 33) (kwd := []) L49.ob_eq
    (by kernel_rfl) (fun s => by kernel_rfl) L49.run (by kernel_rfl) (by kernel_rfl) (by kernel_rfl) (by rfl) (by first | assumption | decide +kernel) (by decide +kernel) ⟨rfl, rfl, rfl, rfl, rfl, by decide +kernel⟩ ?hw ?hc
  case hw => w_witness2
  case hc =>
    refine DL.dwalk (l := PySem.Challenge.rw_unseenswap_k49_swapping_built) (n := 63) (k := 6) (x := "script") rfl (by decide) (by kernel_rfl) ⟨⟨by decide, by decide⟩, rfl⟩ ?F
    intro w mg fa h Y G hmg0
    obtain ⟨K, KX, c, cb⟩ := Y
    have T := L49.top_ok KX G c cb
    have hmg : mg ("law" : PySem.Str) = some (.ref fa) := by
      have e : (HandSHeadRun.topDef (OpenLaw.row PySem.Challenge.rw_unseenswap_k49_swapping_built).prog 33).name = ("law" : PySem.Str) := by kernel_rfl
      rw [← e]
      exact hmg0
    have e := hmg.symm.trans T.g_law
    cases e
    have b := L2.FunD.bindsA (ps := ["script"]) T.d_law fun _ _ _ _ _ _ us hl => match us, hl with | [_], _ => rfl
    exact ⟨K, _, L49.spLaw, KX, fun s v => b s [v] rfl, fun y A ns hl hS => ⟨y, ns, rfl, hl, hS, fun _ => rfl⟩, fun base _ _ => L49.law_ok T⟩
