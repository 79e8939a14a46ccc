import PyProof.Rows.All
import Wide.All
import OpenK.AllK
import Wide.FinOn
import HandS.ForMost
import HandS.Walk
import HandS.Exc
import HandS.WordsExc
import HandS.TupAny
import HandS.Style
import HandS.IsInst
import HandS.Text
import HandS.Deep
import HandS.Conv
import KE.SortData
import KE.DataCmp
import HandS.Zip
import HandS.IterVal
import PyProof.ReprRoads
import PySem.Challenge.RW_twocompanies_k19_heights_and_partners
set_option Elab.async false
set_option linter.all false
set_option maxRecDepth 100000
/-! The mirror layer: data trees D, a store of mutable cells, worlds, and what a run of a mirror tells of the machine. -/
namespace MM
open PySem PySem.Spec PyProof.Rows L2

/-! ### data, cells, results -/
inductive D where
  | non | bl (b : Bool) | int (i : Int) | str (x : Str)
  | tup (xs : List D) | lst (xs : List D) | scr (xs : List D) | ref (l : Nat)
inductive Cell where
  | lst (xs : List D) | fz (xs : List D) | dic (kvs : List (Key × D))
def Cell.w : Cell → Bool
  | .fz _ => false
  | _ => true
abbrev Store := List Cell
abbrev Sg := List (Option D)
structure Ex where
  cls : Str
  fs : List (Str × D)
inductive R (α : Type) where
  | ok (a : α) (S : Store) | ex (e : Ex) (S : Store) | no
inductive O where
  | nx (σ : Sg) (S : Store) | rt (d : D) (S : Store) | bk (σ : Sg) (S : Store) | ct (σ : Sg) (S : Store) | ex (e : Ex) (S : Store) | no
def R.bind {α β : Type} (r : R α) (k : α → Store → R β) : R β := match r with
  | .ok a S => k a S
  | .ex e S => .ex e S
  | .no => .no

/-! ### how a tree stands in the heap -/
mutual
inductive Rep (K : PySem.W.Frag) (F : Hp) (μ : List Addr) : D → V → Prop
  | non : Rep K F μ .non .non
  | bl (b : Bool) : Rep K F μ (.bl b) (.bl b)
  | int (i : Int) : Rep K F μ (.int i) (.int i)
  | str (x : Str) : Rep K F μ (.str x) (.str x)
  | tup {a : Addr} {vs : List V} {xs : List D} : SqT K F a vs → Reps K F μ xs vs → Rep K F μ (.tup xs) (.ref a)
  | lst {a : Addr} {vs : List V} {xs : List D} : F a = some (.lst vs) → Reps K F μ xs vs → Rep K F μ (.lst xs) (.ref a)
  | scr {a : Addr} {vs : List V} {xs : List D} : SqL K F a vs → Reps K F μ xs vs → Rep K F μ (.scr xs) (.ref a)
  | ref {l : Nat} {a : Addr} : μ[l]? = some a → Rep K F μ (.ref l) (.ref a)
inductive Reps (K : PySem.W.Frag) (F : Hp) (μ : List Addr) : List D → List V → Prop
  | nil : Reps K F μ [] []
  | cons {d : D} {v : V} {ds : List D} {vs : List V} : Rep K F μ d v → Reps K F μ ds vs → Reps K F μ (d :: ds) (v :: vs)
end

section
variable {K : PySem.W.Frag} {F F' H H' : Hp} {μ μ' : List Addr} {d : D} {v : V} {ds : List D} {vs : List V} {a : Addr} {xs : List V}
theorem sqT_mono (hF : ∀ a o, F a = some o → F' a = some o) (h : SqT K F a xs) : SqT K F' a xs := by
  rcases h with (h | ⟨o, h⟩) | h
  · exact .inl (.inl (hF _ _ h))
  · exact .inl (.inr ⟨o, hF _ _ h⟩)
  · exact .inr h
theorem sqL_mono (hF : ∀ a o, F a = some o → F' a = some o) (h : SqL K F a xs) : SqL K F' a xs := by
  rcases h with (h | ⟨o, h⟩) | h
  · exact .inl (.inl (hF _ _ h))
  · exact .inl (.inr ⟨o, hF _ _ h⟩)
  · exact .inr h
mutual
theorem Rep.mono (hF : ∀ a o, F a = some o → F' a = some o) (hm : ∀ (l : Nat) a, μ[l]? = some a → μ'[l]? = some a) : ∀ {d : D} {v : V}, Rep K F μ d v → Rep K F' μ' d v
  | _, _, .non => .non
  | _, _, .bl b => .bl b
  | _, _, .int i => .int i
  | _, _, .str x => .str x
  | _, _, .tup h r => .tup (sqT_mono hF h) (Reps.mono hF hm r)
  | _, _, .lst h r => .lst (hF _ _ h) (Reps.mono hF hm r)
  | _, _, .scr h r => .scr (sqL_mono hF h) (Reps.mono hF hm r)
  | _, _, .ref h => .ref (hm _ _ h)
theorem Reps.mono (hF : ∀ a o, F a = some o → F' a = some o) (hm : ∀ (l : Nat) a, μ[l]? = some a → μ'[l]? = some a) : ∀ {ds : List D} {vs : List V}, Reps K F μ ds vs → Reps K F' μ' ds vs
  | _, _, .nil => .nil
  | _, _, .cons h r => .cons (Rep.mono hF hm h) (Reps.mono hF hm r)
end
theorem Reps.length : ∀ {ds : List D} {vs : List V}, Reps K F μ ds vs → ds.length = vs.length
  | _, _, .nil => rfl
  | _, _, .cons _ r => by rw [List.length_cons, List.length_cons, Reps.length r]
theorem Reps.get : ∀ {ds : List D} {vs : List V} {i : Nat} {d : D}, Reps K F μ ds vs → ds[i]? = some d → ∃ v, vs[i]? = some v ∧ Rep K F μ d v
  | _, _, _, _, .nil, e => by simp at e
  | _, _, 0, _, .cons r _, e => by simp at e; subst e; exact ⟨_, rfl, r⟩
  | _, _, i + 1, d, .cons _ t, e => by
    obtain ⟨u, h1, h2⟩ := Reps.get (i := i) (d := d) t (by simpa using e)
    exact ⟨u, by simpa using h1, h2⟩
theorem Reps.get' : ∀ {ds : List D} {vs : List V} {i : Nat} {v : V}, Reps K F μ ds vs → vs[i]? = some v → ∃ d, ds[i]? = some d ∧ Rep K F μ d v
  | _, _, _, _, .nil, e => by simp at e
  | _, _, 0, _, .cons r _, e => by simp at e; subst e; exact ⟨_, rfl, r⟩
  | _, _, i + 1, d, .cons _ t, e => by
    obtain ⟨u, h1, h2⟩ := Reps.get' (i := i) (v := d) t (by simpa using e)
    exact ⟨u, by simpa using h1, h2⟩
theorem Reps.append : ∀ {ds es : List D} {vs us : List V}, Reps K F μ ds vs → Reps K F μ es us → Reps K F μ (ds ++ es) (vs ++ us)
  | _, _, _, _, .nil, s => s
  | _, _, _, _, .cons r t, s => .cons r (Reps.append t s)
theorem Reps.take : ∀ {ds : List D} {vs : List V} (n : Nat), Reps K F μ ds vs → Reps K F μ (ds.take n) (vs.take n)
  | _, _, 0, _ => .nil
  | _, _, _ + 1, .nil => .nil
  | _, _, n + 1, .cons r t => .cons r (Reps.take n t)
theorem Reps.drop : ∀ {ds : List D} {vs : List V} (n : Nat), Reps K F μ ds vs → Reps K F μ (ds.drop n) (vs.drop n)
  | _, _, 0, r => r
  | _, _, _ + 1, .nil => .nil
  | _, _, n + 1, .cons _ t => Reps.drop n t
theorem Reps.set {d : D} {v : V} (r : Rep K F μ d v) : ∀ {ds : List D} {vs : List V} (i : Nat), Reps K F μ ds vs → Reps K F μ (ds.set i d) (vs.set i v)
  | _, _, _, .nil => .nil
  | _, _, 0, .cons _ t => .cons r t
  | _, _, i + 1, .cons q t => .cons q (Reps.set r i t)
theorem Reps.reverse {ds : List D} {vs : List V} (h : Reps K F μ ds vs) : Reps K F μ ds.reverse vs.reverse := by
  induction ds generalizing vs with
  | nil => cases h; exact .nil
  | cons d ds ih =>
    cases h with
    | cons r t =>
      rw [List.reverse_cons, List.reverse_cons]
      exact (ih t).append (.cons r .nil)
theorem Reps.dropLast {ds : List D} {vs : List V} (h : Reps K F μ ds vs) : Reps K F μ ds.dropLast vs.dropLast := by
  rw [List.dropLast_eq_take, List.dropLast_eq_take, h.length]
  exact h.take _
theorem Reps.rep {ds : List D} {vs : List V} (h : Reps K F μ ds vs) : ∀ k : Nat, Reps K F μ (List.replicate k ds).flatten (List.replicate k vs).flatten
  | 0 => .nil
  | k + 1 => by
    rw [List.replicate_succ, List.replicate_succ, List.flatten_cons, List.flatten_cons]
    exact h.append (Reps.rep h k)
theorem reps_ints : ∀ (ns : List Int), Reps K F μ (ns.map D.int) (ns.map V.int)
  | [] => .nil
  | n :: ns => .cons (.int n) (reps_ints ns)
end

/-! ### data without cells -/
mutual
def D.pure : D → Bool
  | .tup xs => pureAll xs
  | .lst xs => pureAll xs
  | .scr xs => pureAll xs
  | .ref _ => false
  | _ => true
def pureAll : List D → Bool
  | [] => true
  | x :: xs => x.pure && pureAll xs
end
section
variable {K : PySem.W.Frag} {F F' : Hp} {μ μ' : List Addr}
mutual
theorem Rep.anyMu : ∀ {d : D} {v : V}, d.pure = true → Rep K F μ d v → Rep K F μ' d v
  | _, _, _, .non => .non
  | _, _, _, .bl b => .bl b
  | _, _, _, .int i => .int i
  | _, _, _, .str x => .str x
  | _, _, p, .tup h r => .tup h (Reps.anyMu (by simpa [D.pure] using p) r)
  | _, _, p, .lst h r => .lst h (Reps.anyMu (by simpa [D.pure] using p) r)
  | _, _, p, .scr h r => .scr h (Reps.anyMu (by simpa [D.pure] using p) r)
  | _, _, p, .ref h => by simp [D.pure] at p
theorem Reps.anyMu : ∀ {ds : List D} {vs : List V}, pureAll ds = true → Reps K F μ ds vs → Reps K F μ' ds vs
  | _, _, _, .nil => .nil
  | _, _, p, .cons h r => by
    rw [pureAll, Bool.and_eq_true] at p
    exact .cons (Rep.anyMu p.1 h) (Reps.anyMu p.2 r)
end
end

/-! ### worlds -/
def RepKV (K : PySem.W.Frag) (F : Hp) (μ : List Addr) (kvs : List (Key × D)) (us : List (Key × V)) : Prop :=
  kvs.map (·.1) = us.map (·.1) ∧ Reps K F μ (kvs.map (·.2)) (us.map (·.2))
def CellOk (K : PySem.W.Frag) (H F : Hp) (μ : List Addr) (a : Addr) : Cell → Prop
  | .lst xs => ∃ vs, H a = some (.lst vs) ∧ Reps K F μ xs vs
  | .fz xs => ∃ vs, F a = some (.lst vs) ∧ Reps K F μ xs vs
  | .dic kvs => ∃ us, H a = some (.dK us) ∧ RepKV K F μ kvs us
def Wr (μ : List Addr) (S : Store) (a : Addr) : Prop := ∃ (l : Nat) (c : Cell), μ[l]? = some a ∧ S[l]? = some c ∧ c.w = true
structure Wd (K : PySem.W.Frag) (H F : Hp) (μ : List Addr) (S : Store) : Prop where
  sub : ∀ a o, F a = some o → H a = some o
  len : μ.length = S.length
  nd : μ.Nodup
  out : ∀ a, Wr μ S a → F a = none
  cell : ∀ (l : Nat) c a, S[l]? = some c → μ[l]? = some a → CellOk K H F μ a c
structure Ext (H F : Hp) (μ : List Addr) (S : Store) (H' F' : Hp) (μ' : List Addr) (S' : Store) : Prop where
  fz : ∀ a o, F a = some o → F' a = some o
  mu : ∀ (l : Nat) a, μ[l]? = some a → μ'[l]? = some a
  keep : ∀ a o, H a = some o → ¬ Wr μ S a → H' a = some o
  dom : ∀ a, H' a = none → H a = none
  new : ∀ (l : Nat) a, μ'[l]? = some a → μ[l]? = some a ∨ H a = none
  fnew : ∀ a, F' a ≠ none → F a ≠ none ∨ H a = none ∨ a ∈ μ
  cf : ∀ (l : Nat) xs, S[l]? = some (.fz xs) → S'[l]? = some (.fz xs)
  le : S.length ≤ S'.length

section
variable {K : PySem.W.Frag} {H F H1 F1 H2 F2 : Hp} {μ μ1 μ2 : List Addr} {S S1 S2 : Store} {a p : Addr} {o : HO} {c : Cell} {l : Nat}
theorem Ext.refl : Ext H F μ S H F μ S := ⟨fun _ _ h => h, fun _ _ h => h, fun _ _ h _ => h, fun _ h => h, fun _ _ h => .inl h, fun _ h => .inl h, fun _ _ h => h, Nat.le_refl _⟩
theorem mem_of_ix {α : Type} {l : List α} {i : Nat} {x : α} (h : l[i]? = some x) : x ∈ l := List.mem_of_getElem? h
theorem Ext.trans (W : Wd K H F μ S) (e : Ext H F μ S H1 F1 μ1 S1) (f : Ext H1 F1 μ1 S1 H2 F2 μ2 S2) : Ext H F μ S H2 F2 μ2 S2 where
  fz := fun a o h => f.fz a o (e.fz a o h)
  mu := fun l a h => f.mu l a (e.mu l a h)
  keep := fun a o h n => by
    refine f.keep a o (e.keep a o h n) fun ⟨l, c, h1, h2, h3⟩ => ?_
    rcases e.new l a h1 with q | q
    · have hl : l < S.length := by rw [← W.len]; exact (List.getElem?_eq_some_iff.mp q).1
      cases hc : S[l] with
      | fz xs =>
        have z := e.cf l xs (by rw [List.getElem?_eq_getElem hl, hc])
        rw [h2] at z
        cases Option.some.inj z
        cases h3
      | lst xs => exact n ⟨l, _, q, by rw [List.getElem?_eq_getElem hl, hc], rfl⟩
      | dic xs => exact n ⟨l, _, q, by rw [List.getElem?_eq_getElem hl, hc], rfl⟩
    · rw [h] at q; cases q
  dom := fun a h => e.dom a (f.dom a h)
  new := fun l a h => by
    rcases f.new l a h with q | q
    · exact e.new l a q
    · exact .inr (e.dom a q)
  fnew := fun a h => by
    rcases f.fnew a h with q | q | q
    · exact e.fnew a q
    · exact .inr (.inl (e.dom a q))
    · obtain ⟨l, hl⟩ := List.getElem?_of_mem q
      rcases e.new l a hl with z | z
      · exact .inr (.inr (mem_of_ix z))
      · exact .inr (.inl z)
  cf := fun l xs h => f.cf l xs (e.cf l xs h)
  le := Nat.le_trans e.le f.le
theorem Rep.ext {d : D} {v : V} (e : Ext H F μ S H1 F1 μ1 S1) (r : Rep K F μ d v) : Rep K F1 μ1 d v := r.mono e.fz e.mu
theorem Reps.ext {d : List D} {v : List V} (e : Ext H F μ S H1 F1 μ1 S1) (r : Reps K F μ d v) : Reps K F1 μ1 d v := r.mono e.fz e.mu
/-- every address of a cell is tracked -/
theorem Wd.there (W : Wd K H F μ S) (h : a ∈ μ) : H a ≠ none := by
  obtain ⟨l, hl⟩ := List.getElem?_of_mem h
  have q : l < S.length := by rw [← W.len]; exact (List.getElem?_eq_some_iff.mp hl).1
  have z := W.cell l S[l] a (List.getElem?_eq_getElem q) hl
  intro hn
  cases hc : S[l] with
  | lst xs => rw [hc] at z; obtain ⟨_, z, _⟩ := z; rw [hn] at z; cases z
  | fz xs => rw [hc] at z; obtain ⟨_, z, _⟩ := z; rw [W.sub _ _ z] at hn; cases hn
  | dic xs => rw [hc] at z; obtain ⟨_, z, _⟩ := z; rw [hn] at z; cases z
theorem Wd.ne (W : Wd K H F μ S) (hp : H p = none) (h : a ∈ μ) : a ≠ p := fun e => W.there h (by rw [e]; exact hp)
theorem Wd.fnone (W : Wd K H F μ S) (hp : H p = none) : F p = none := by
  cases q : F p with
  | none => rfl
  | some o => rw [W.sub _ _ q] at hp; cases hp
theorem upd_mono (hp : F p = none) : ∀ a o', F a = some o' → (upd F p o) a = some o' := fun a o' h => by
  rw [upd_ne (ne_of_none h hp)]; exact h
theorem RepKV.mono {kvs : List (Key × D)} {us : List (Key × V)} (hF : ∀ a o, F a = some o → F1 a = some o) (hm : ∀ (l : Nat) a, μ[l]? = some a → μ1[l]? = some a) (r : RepKV K F μ kvs us) : RepKV K F1 μ1 kvs us := ⟨r.1, r.2.mono hF hm⟩
theorem CellOk.mono (hF : ∀ a o, F a = some o → F1 a = some o) (hm : ∀ (l : Nat) a, μ[l]? = some a → μ1[l]? = some a) (hH : c.w = true → H1 a = H a) (h : CellOk K H F μ a c) : CellOk K H1 F1 μ1 a c := by
  cases c with
  | lst xs => obtain ⟨vs, h1, h2⟩ := h; exact ⟨vs, by rw [hH rfl]; exact h1, h2.mono hF hm⟩
  | fz xs => obtain ⟨vs, h1, h2⟩ := h; exact ⟨vs, hF _ _ h1, h2.mono hF hm⟩
  | dic xs => obtain ⟨vs, h1, h2⟩ := h; exact ⟨vs, by rw [hH rfl]; exact h1, h2.mono hF hm⟩
/-- a new frozen object -/
theorem Wd.newF (W : Wd K H F μ S) (hp : H p = none) : Wd K (upd H p o) (upd F p o) μ S ∧ Ext H F μ S (upd H p o) (upd F p o) μ S := by
  have hf := W.fnone hp
  have mono := upd_mono (F := F) (o := o) hf
  refine ⟨⟨fun a o' h => ?_, W.len, W.nd, fun a h => ?_, fun l c a h1 h2 => ?_⟩, ⟨mono, fun _ _ h => h, fun a o' h _ => ?_, fun a h => ?_, fun _ _ h => .inl h, fun a h => ?_, fun _ _ h => h, Nat.le_refl _⟩⟩
  · by_cases e : a = p
    · subst e; rw [upd_same] at h ⊢; exact h
    · rw [upd_ne e] at h ⊢; exact W.sub _ _ h
  · obtain ⟨l, c, h1, h2, h3⟩ := id h
    rw [upd_ne (W.ne hp (mem_of_ix h1))]
    exact W.out a h
  · exact (W.cell l c a h1 h2).mono mono (fun _ _ h => h) fun _ => upd_ne (W.ne hp (mem_of_ix h2))
  · rw [upd_ne (ne_of_none h hp)]; exact h
  · by_cases e : a = p
    · subst e; exact hp
    · rw [upd_ne e] at h; exact h
  · by_cases e : a = p
    · subst e; exact .inr (.inl hp)
    · rw [upd_ne e] at h; exact .inl h
theorem ix_append {α : Type} {l : List α} {x y : α} {i : Nat} (h : (l ++ [x])[i]? = some y) : l[i]? = some y ∨ (i = l.length ∧ y = x) := by
  by_cases hi : i < l.length
  · rw [List.getElem?_append_left hi] at h; exact .inl h
  · rw [List.getElem?_append_right (by omega)] at h
    have e : i - l.length = 0 := by
      cases q : i - l.length with
      | zero => rfl
      | succ n => rw [q] at h; simp at h
    rw [e] at h
    exact .inr ⟨by omega, by simpa using h.symm⟩
/-- a new cell -/
theorem Wd.newC (W : Wd K H F μ S) (hp : H p = none) (hc : CellOk K (upd H p o) F (μ ++ [p]) p c) (hw : c.w = true) : Wd K (upd H p o) F (μ ++ [p]) (S ++ [c]) ∧ Ext H F μ S (upd H p o) F (μ ++ [p]) (S ++ [c]) := by
  have hf := W.fnone hp
  have hm : ∀ (l : Nat) a, μ[l]? = some a → (μ ++ [p])[l]? = some a := fun l a h => by
    rw [List.getElem?_append_left (List.getElem?_eq_some_iff.mp h).1]; exact h
  refine ⟨⟨fun a o' h => ?_, by simp [W.len], ?_, fun a h => ?_, fun l c' a h1 h2 => ?_⟩, ⟨fun _ _ h => h, hm, fun a o' h _ => ?_, fun a h => ?_, fun l a h => ?_, fun a h => .inl h, fun l xs h => ?_, by simp⟩⟩
  · rw [upd_ne (ne_of_none h hf)]; exact W.sub _ _ h
  · rw [List.nodup_append]
    refine ⟨W.nd, by simp, fun a ha b hb e => ?_⟩
    simp at hb
    subst hb
    exact W.there ha (by rw [e]; exact hp)
  · obtain ⟨l, c', h1, h2, h3⟩ := h
    rcases ix_append h1 with q | ⟨_, rfl⟩
    · have hl : l < S.length := by rw [← W.len]; exact (List.getElem?_eq_some_iff.mp q).1
      rw [List.getElem?_append_left hl] at h2
      exact W.out a ⟨l, c', q, h2, h3⟩
    · exact hf
  · rcases ix_append h1 with q | ⟨rfl, rfl⟩
    · have hl : l < μ.length := by rw [W.len]; exact (List.getElem?_eq_some_iff.mp q).1
      rw [List.getElem?_append_left hl] at h2
      exact (W.cell l c' a q h2).mono (fun _ _ h => h) hm fun _ => upd_ne (W.ne hp (mem_of_ix h2))
    · rw [← W.len] at h2
      simp at h2
      subst h2
      exact hc
  · rw [upd_ne (ne_of_none h hp)]; exact h
  · by_cases e : a = p
    · subst e; exact hp
    · rw [upd_ne e] at h; exact h
  · rcases ix_append h with q | ⟨_, rfl⟩
    · exact .inl q
    · exact .inr hp
  · rw [List.getElem?_append_left (List.getElem?_eq_some_iff.mp h).1]; exact h
/-- a cell written -/
theorem Wd.write (W : Wd K H F μ S) (hl : S[l]? = some c) (hw : c.w = true) (ha : μ[l]? = some a) {c' : Cell} (hc : CellOk K (upd H a o) F μ a c') (hw' : c'.w = true) : Wd K (upd H a o) F μ (S.set l c') ∧ Ext H F μ S (upd H a o) F μ (S.set l c') := by
  have hwr : Wr μ S a := ⟨l, c, ha, hl, hw⟩
  have hll : l < S.length := (List.getElem?_eq_some_iff.mp hl).1
  have hf := W.out a hwr
  have inj : ∀ {i : Nat} {b : Addr}, μ[i]? = some b → b = a → i = l := fun {i b} h e => by
    subst e
    obtain ⟨h1, e1⟩ := List.getElem?_eq_some_iff.mp h
    obtain ⟨h2, e2⟩ := List.getElem?_eq_some_iff.mp ha
    exact (List.getElem_inj W.nd).mp (e1.trans e2.symm)
  refine ⟨⟨fun b o' h => ?_, by simp [W.len], W.nd, fun b h => ?_, fun i d b h1 h2 => ?_⟩, ⟨fun _ _ h => h, fun _ _ h => h, fun b o' h n => ?_, fun b h => ?_, fun _ _ h => .inl h, fun _ h => .inl h, fun i xs h => ?_, by simp⟩⟩
  · rw [upd_ne (ne_of_none h hf)]; exact W.sub _ _ h
  · obtain ⟨i, d, h1, h2, h3⟩ := h
    by_cases e : i = l
    · subst e
      rw [ha] at h1; cases h1
      exact hf
    · rw [List.getElem?_set_ne (Ne.symm e)] at h2
      exact W.out b ⟨i, d, h1, h2, h3⟩
  · by_cases e : i = l
    · subst e
      rw [ha] at h2; cases h2
      rw [List.getElem?_set_self hll] at h1
      cases h1
      exact hc
    · rw [List.getElem?_set_ne (Ne.symm e)] at h1
      exact (W.cell i d b h1 h2).mono (fun _ _ h => h) (fun _ _ h => h) fun _ => upd_ne fun q => e (inj h2 q)
  · rw [upd_ne fun q => n (by subst q; exact hwr)]; exact h
  · by_cases e : b = a
    · subst e; rw [upd_same] at h; cases h
    · rw [upd_ne e] at h; exact h
  · have e : i ≠ l := fun e => by
      subst e
      rw [hl] at h; cases h; cases hw
    rw [List.getElem?_set_ne (Ne.symm e)]; exact h
/-- a list's cell is frozen -/
theorem Wd.freeze (W : Wd K H F μ S) {xs : List D} (hl : S[l]? = some (.lst xs)) (ha : μ[l]? = some a) : ∃ vs, H a = some (.lst vs) ∧ Reps K F μ xs vs ∧ Wd K H (upd F a (.lst vs)) μ (S.set l (.fz xs)) ∧ Ext H F μ S H (upd F a (.lst vs)) μ (S.set l (.fz xs)) := by
  have hwr : Wr μ S a := ⟨l, _, ha, hl, rfl⟩
  have hll : l < S.length := (List.getElem?_eq_some_iff.mp hl).1
  have hf := W.out a hwr
  have inj : ∀ {i : Nat} {b : Addr}, μ[i]? = some b → b = a → i = l := fun {i b} h e => by
    subst e
    obtain ⟨h1, e1⟩ := List.getElem?_eq_some_iff.mp h
    obtain ⟨h2, e2⟩ := List.getElem?_eq_some_iff.mp ha
    exact (List.getElem_inj W.nd).mp (e1.trans e2.symm)
  obtain ⟨vs, h1, h2⟩ := W.cell l _ a hl ha
  have mono := upd_mono (F := F) (o := .lst vs) hf
  refine ⟨vs, h1, h2, ⟨fun b o' h => ?_, by simp [W.len], W.nd, fun b h => ?_, fun i d b h3 h4 => ?_⟩, ⟨mono, fun _ _ h => h, fun _ _ h _ => h, fun _ h => h, fun _ _ h => .inl h, fun b h => ?_, fun i ys h => ?_, by simp⟩⟩
  · by_cases e : b = a
    · subst e; rw [upd_same] at h; cases h; exact h1
    · rw [upd_ne e] at h; exact W.sub _ _ h
  · obtain ⟨i, d, h3, h4, h5⟩ := h
    by_cases e : i = l
    · subst e
      rw [List.getElem?_set_self hll] at h4
      cases h4; cases h5
    · rw [List.getElem?_set_ne (Ne.symm e)] at h4
      rw [upd_ne fun q => e (inj h3 q)]
      exact W.out b ⟨i, d, h3, h4, h5⟩
  · by_cases e : i = l
    · subst e
      rw [ha] at h4; cases h4
      rw [List.getElem?_set_self hll] at h3
      cases h3
      exact ⟨vs, upd_same, h2.mono mono fun _ _ h => h⟩
    · rw [List.getElem?_set_ne (Ne.symm e)] at h3
      exact (W.cell i d b h3 h4).mono mono (fun _ _ h => h) fun _ => rfl
  · by_cases e : b = a
    · subst e; exact .inr (.inr (mem_of_ix ha))
    · rw [upd_ne e] at h; exact .inl h
  · by_cases e : i = l
    · subst e
      rw [hl] at h; cases h
    · rw [List.getElem?_set_ne (Ne.symm e)]; exact h
end

/-! ### slots -/
structure Sl (K : PySem.W.Frag) (F : Hp) (μ : List Addr) (σ : Sg) (τ : L2.St) : Prop where
  len : σ.length = τ.length
  get : ∀ (i : Nat) d, σ[i]? = some (some d) → ∃ v, τ[i]? = some (some v) ∧ Rep K F μ d v
section
variable {K : PySem.W.Frag} {H F H1 F1 : Hp} {μ μ1 : List Addr} {S S1 : Store} {σ : Sg} {τ : L2.St}
theorem Sl.ext (e : Ext H F μ S H1 F1 μ1 S1) (h : Sl K F μ σ τ) : Sl K F1 μ1 σ τ := ⟨h.len, fun i d q => let ⟨v, h1, h2⟩ := h.get i d q; ⟨v, h1, h2.ext e⟩⟩
theorem Sl.set {i : Nat} {d : D} {v : V} (h : Sl K F μ σ τ) (r : Rep K F μ d v) : Sl K F μ (σ.set i (some d)) (τ.set i (some v)) := by
  refine ⟨by simp [h.len], fun j e q => ?_⟩
  by_cases hj : i = j
  · subst hj
    by_cases hi : i < σ.length
    · rw [List.getElem?_set_self hi] at q
      cases q
      exact ⟨v, by rw [List.getElem?_set_self (by rw [← h.len]; exact hi)], r⟩
    · rw [List.getElem?_eq_none (by simpa using hi)] at q; cases q
  · rw [List.getElem?_set_ne hj] at q ⊢
    exact h.get j e q
def wipeM (σ : Sg) : List Nat → Sg
  | [] => σ
  | v :: vs => (wipeM σ vs).set v none
theorem Sl.unset {i : Nat} (h : Sl K F μ σ τ) : Sl K F μ (σ.set i none) (τ.set i none) := by
  refine ⟨by simp [h.len], fun j e q => ?_⟩
  by_cases hj : i = j
  · subst hj
    by_cases hi : i < σ.length
    · rw [List.getElem?_set_self hi] at q; cases q
    · rw [List.getElem?_eq_none (by simpa using hi)] at q; cases q
  · rw [List.getElem?_set_ne hj] at q ⊢
    exact h.get j e q
theorem Sl.wipe (h : Sl K F μ σ τ) : ∀ vs : List Nat, Sl K F μ (wipeM σ vs) (L2.wipe τ vs)
  | [] => h
  | v :: vs => (Sl.wipe h vs).unset
end

/-! ### what a result tells -/
def RepFs (K : PySem.W.Frag) (F : Hp) (μ : List Addr) : List (Str × D) → List (Str × V) → Prop := fun fs us => fs.map (·.1) = us.map (·.1) ∧ Reps K F μ (fs.map (·.2)) (us.map (·.2))
/-- an error as it lies: its class, its own dict -/
structure RepEx (K : PySem.W.Frag) (F : Hp) (μ : List Addr) (e : Ex) (c : Value) (od : Option Addr) : Prop where
  pure : pureAll (e.fs.map (·.2)) = true
  cls : ∃ C, c = .ref C ∧ PySem.W.nsIn K mainGlobals e.cls = some (some (.ref C))
  dict : ∃ dx us, od = some dx ∧ F dx = some (.xd us) ∧ RepFs K F μ e.fs us
def Done {α : Type} (K : PySem.W.Frag) (E : XK) (H F : Hp) (μ : List Addr) (S : Store) (r : R α) (P : α → Store → Hp → Hp → List Addr → Prop) : Prop := match r with
  | .ok a S' => ∀ H' F' μ', Ext H F μ S H' F' μ' S' → Wd K H' F' μ' S' → P a S' H' F' μ'
  | .ex e S' => ∀ H' F' μ' c od, Ext H F μ S H' F' μ' S' → Wd K H' F' μ' S' → RepEx K F' μ' e c od → E c od H'
  | .no => False
def DoneS (K : PySem.W.Frag) (E : XK) (H F : Hp) (μ : List Addr) (S : Store) (o : O) (D : Ends) : Prop := match o with
  | .nx σ S' => ∀ H' F' μ' τ, Ext H F μ S H' F' μ' S' → Wd K H' F' μ' S' → Sl K F' μ' σ τ → D.nx τ H'
  | .bk σ S' => ∀ H' F' μ' τ, Ext H F μ S H' F' μ' S' → Wd K H' F' μ' S' → Sl K F' μ' σ τ → D.bk τ H'
  | .ct σ S' => ∀ H' F' μ' τ, Ext H F μ S H' F' μ' S' → Wd K H' F' μ' S' → Sl K F' μ' σ τ → D.ct τ H'
  | .rt d S' => ∀ H' F' μ' v, Ext H F μ S H' F' μ' S' → Wd K H' F' μ' S' → Rep K F' μ' d v → D.rt v H'
  | .ex e S' => ∀ H' F' μ' c od, Ext H F μ S H' F' μ' S' → Wd K H' F' μ' S' → RepEx K F' μ' e c od → E c od H'
  | .no => False
section
variable {α β : Type} {K : PySem.W.Frag} {E : XK} {H F H1 F1 : Hp} {μ μ1 : List Addr} {S S1 : Store}
theorem Done.mono {r : R α} {P P' : α → Store → Hp → Hp → List Addr → Prop} (h : Done K E H F μ S r P) (hP : ∀ a S' H' F' μ', Ext H F μ S H' F' μ' S' → Wd K H' F' μ' S' → P a S' H' F' μ' → P' a S' H' F' μ') : Done K E H F μ S r P' := by
  cases r with
  | ok a S' => exact fun H' F' μ' e w => hP a S' H' F' μ' e w (h H' F' μ' e w)
  | ex e S' => exact h
  | no => exact h
theorem Done.from {r : R α} {P : α → Store → Hp → Hp → List Addr → Prop} (W : Wd K H F μ S) (e : Ext H F μ S H1 F1 μ1 S1) (h : Done K E H F μ S r P) : Done K E H1 F1 μ1 S1 r P := by
  cases r with
  | ok a S' => exact fun H' F' μ' f w => h H' F' μ' (e.trans W f) w
  | ex x S' => exact fun H' F' μ' c od f w => h H' F' μ' c od (e.trans W f) w
  | no => exact h
theorem DoneS.from {o : O} {D : Ends} (W : Wd K H F μ S) (e : Ext H F μ S H1 F1 μ1 S1) (h : DoneS K E H F μ S o D) : DoneS K E H1 F1 μ1 S1 o D := by
  cases o with
  | no => exact h
  | nx σ S' => exact fun H' F' μ' c f w => h H' F' μ' c (e.trans W f) w
  | bk σ S' => exact fun H' F' μ' c f w => h H' F' μ' c (e.trans W f) w
  | ct σ S' => exact fun H' F' μ' c f w => h H' F' μ' c (e.trans W f) w
  | rt d S' => exact fun H' F' μ' c f w => h H' F' μ' c (e.trans W f) w
  | ex x S' => exact fun H' F' μ' c od f w => h H' F' μ' c od (e.trans W f) w
theorem Done.split {r : R α} {k : α → Store → R β} {P : β → Store → Hp → Hp → List Addr → Prop} (W : Wd K H F μ S) (h : Done K E H F μ S (r.bind k) P) : Done K E H F μ S r (fun a S' H' F' μ' => Done K E H' F' μ' S' (k a S') P) := by
  cases r with
  | ok a S' => exact fun H' F' μ' e w => Done.from (r := k a S') W e h
  | ex e S' => exact h
  | no => exact h
end
end MM

set_option Elab.async false
set_option linter.all false
set_option maxRecDepth 100000
/-! The judgements: an expression, a test, arguments, a target, what is walked, a statement keeps its mirror. -/
namespace MM
open PySem PySem.Spec PyProof.Rows L2

abbrev ME := Sg → Store → R D
abbrev MT := Sg → Store → R Bool
abbrev MA := Sg → Store → R (List D)
abbrev MS := Sg → Store → O
abbrev MG := D → Sg → Store → R Sg

section
variable (K : PySem.W.Frag) (E : XK)
def tE (m : ME) : TE := fun τ H Q => ∃ F μ σ S, Wd K H F μ S ∧ Sl K F μ σ τ ∧ Done K E H F μ S (m σ S) (fun d _ H' F' μ' => ∀ v, Rep K F' μ' d v → Q v H')
def tT (m : MT) : TT := fun τ H Q => ∃ F μ σ S, Wd K H F μ S ∧ Sl K F μ σ τ ∧ Done K E H F μ S (m σ S) (fun b _ H' _ _ => Q b H')
def tA (m : MA) : TA := fun τ H Q => ∃ F μ σ S, Wd K H F μ S ∧ Sl K F μ σ τ ∧ Done K E H F μ S (m σ S) (fun ds _ H' F' μ' => ∀ vs, Reps K F' μ' ds vs → Q vs H')
def tS (m : MS) : TS := fun D τ H => ∃ F μ σ S, Wd K H F μ S ∧ Sl K F μ σ τ ∧ DoneS K E H F μ S (m σ S) D
/-- two rows of slots that differ at ow alone -/
def Off (ow : List Nat) (τ τ' : L2.St) : Prop := τ'.length = τ.length ∧ ∀ i : Nat, i ∉ ow → τ'[i]? = τ[i]?
def tG (ow : List Nat) (g : MG) : TG := fun v τ H Q => ∃ F μ σ S d, Wd K H F μ S ∧ Sl K F μ σ τ ∧ Rep K F μ d v ∧ Done K E H F μ S (g d σ S) (fun σ' _ H' F' μ' => ∀ τ', Sl K F' μ' σ' τ' → Off ow τ τ' → Q τ' H')
def tGs (ow : List Nat) (g : List D → Sg → Store → R Sg) : TGs := fun vs τ H Q => ∃ F μ σ S ds, Wd K H F μ S ∧ Sl K F μ σ τ ∧ Reps K F μ ds vs ∧ Done K E H F μ S (g ds σ S) (fun σ' _ H' F' μ' => ∀ τ', Sl K F' μ' σ' τ' → Off ow τ τ' → Q τ' H')
/-- by values: two, a list -/
def r2 (f : D → D → Store → R D) : R2 := fun x y H Q => ∃ F μ S d e, Wd K H F μ S ∧ Rep K F μ d x ∧ Rep K F μ e y ∧ Done K E H F μ S (f d e S) (fun d _ H' F' μ' => ∀ v, Rep K F' μ' d v → Q v H')
def r1 (f : D → Store → R D) : V → Hp → VK → Prop := fun x H Q => ∃ F μ S d, Wd K H F μ S ∧ Rep K F μ d x ∧ Done K E H F μ S (f d S) (fun d _ H' F' μ' => ∀ v, Rep K F' μ' d v → Q v H')
def rN (f : List D → Store → R D) : List V → Hp → VK → Prop := fun xs H Q => ∃ F μ S ds, Wd K H F μ S ∧ Reps K F μ ds xs ∧ Done K E H F μ S (f ds S) (fun d _ H' F' μ' => ∀ v, Rep K F' μ' d v → Q v H')
def r1N (f : D → List D → Store → R D) : V → List V → Hp → VK → Prop := fun x xs H Q => ∃ F μ S d ds, Wd K H F μ S ∧ Rep K F μ d x ∧ Reps K F μ ds xs ∧ Done K E H F μ S (f d ds S) (fun d _ H' F' μ' => ∀ v, Rep K F' μ' d v → Q v H')
end

/-! ### weakening -/
section
variable {X : Cx} {e : Expr}
theorem _root_.L2.PE.imp {t t' : TE} (h : PE X e t) (hi : ∀ σ H Q, t' σ H Q → t σ H Q) : PE X e t' := ⟨fun pins s σ H Q I hw => h.run pins s σ H Q I (hi _ _ _ hw)⟩
theorem _root_.L2.PT.imp {t t' : TT} (h : PT X e t) (hi : ∀ σ H Q, t' σ H Q → t σ H Q) : PT X e t' := ⟨fun pins s σ H Q I hw => h.run pins s σ H Q I (hi _ _ _ hw)⟩
theorem _root_.L2.PW.imp {t t' : TT} (h : PW X e t) (hi : ∀ σ H Q, t' σ H Q → t σ H Q) : PW X e t' := ⟨fun wh pins s σ H Q I hw => h.run wh pins s σ H Q I (hi _ _ _ hw)⟩
theorem _root_.L2.PA.imp {es : List Expr} {t t' : TA} (h : PA X es t) (hi : ∀ σ H Q, t' σ H Q → t σ H Q) : PA X es t' := ⟨fun pos pins s σ H Q I hw => h.run pos pins s σ H Q I (hi _ _ _ hw)⟩
theorem _root_.L2.PK.imp {es : List Keyword} {t t' : TA} (h : PK X es t) (hi : ∀ σ H Q, t' σ H Q → t σ H Q) : PK X es t' := ⟨fun pos pins s σ H Q I hw => h.run pos pins s σ H Q I (hi _ _ _ hw)⟩
theorem _root_.L2.PS.imp {st : Stmt} {t t' : TS} (h : PS X st t) (hi : ∀ D σ H, t' D σ H → t D σ H) : PS X st t' := ⟨fun pins s σ H D I hw => h.run pins s σ H D I (hi _ _ _ hw)⟩
theorem _root_.L2.PSs.imp {st : List Stmt} {t t' : TS} (h : PSs X st t) (hi : ∀ D σ H, t' D σ H → t D σ H) : PSs X st t' := ⟨fun pins s σ H D I hw => h.run pins s σ H D I (hi _ _ _ hw)⟩
theorem _root_.L2.PG.imp {t t' : TG} (h : PG X e t) (hi : ∀ v σ H Q, t' v σ H Q → t v σ H Q) : PG X e t' := ⟨fun pins s σ H v u Q I r hw => h.run pins s σ H v u Q I r (hi _ _ _ _ hw)⟩
theorem _root_.L2.PGs.imp {es : List Expr} {t t' : TGs} (h : PGs X es t) (hi : ∀ v σ H Q, t' v σ H Q → t v σ H Q) : PGs X es t' := ⟨fun pins s σ H v u Q I r hw => h.run pins s σ H v u Q I r (hi _ _ _ _ hw)⟩
theorem _root_.L2.PI.imp {tg : Expr} {t t' : TI} (h : PI X tg e t) (hi : ∀ σ H Q, t' σ H Q → t σ H Q) : PI X tg e t' := ⟨fun pins s σ H Q I hw => h.run pins s σ H Q I (hi _ _ _ hw)⟩
theorem _root_.L2.OpR.imp {f : Value → Value → Sem Value} {r r' : R2} (h : OpR X f r) (hi : ∀ x y H Q, r' x y H Q → r x y H Q) : OpR X f r' := fun pins s σ H x y v u Q I rx ry hw => h pins s σ H x y v u Q I rx ry (hi _ _ _ _ hw)
theorem _root_.L2.IxR.imp {r r' : R2} (h : IxR X r) (hi : ∀ x y H Q, r' x y H Q → r x y H Q) : IxR X r' := fun va sl pins s σ H x y v u Q I rx ry hw e => h va sl pins s σ H x y v u Q I rx ry (hi _ _ _ _ hw) e
theorem _root_.L2.UnR.imp {f : Value → Sem Value} {r r' : V → Hp → VK → Prop} (h : UnR X f r) (hi : ∀ x H Q, r' x H Q → r x H Q) : UnR X f r' := fun pins s σ H x v Q I rx hw => h pins s σ H x v Q I rx (hi _ _ _ hw)
theorem _root_.L2.CallR.imp {f : Value} {r r' : List V → Hp → VK → Prop} (h : CallR X f r) (hi : ∀ x H Q, r' x H Q → r x H Q) : CallR X f r' := fun pins s σ H vs us Q I r hw => h pins s σ H vs us Q I r (hi _ _ _ hw)
theorem _root_.L2.MtR.imp {id : String} {r r' : V → List V → Hp → VK → Prop} (h : MtR X id r) (hi : ∀ x xs H Q, r' x xs H Q → r x xs H Q) : MtR X id r' := fun pins s σ H x xs v us Q I rx r hw => h pins s σ H x xs v us Q I rx r (hi _ _ _ _ hw)
end

/-! ### expressions -/
def mVar (i : Nat) : ME := fun σ S => match σ[i]? with
  | some (some d) => .ok d S
  | _ => .no
def mK (d : D) : ME := fun _ S => .ok d S
def m2 (f : D → D → Store → R D) (a b : ME) : ME := fun σ S => (a σ S).bind fun x S1 => (b σ S1).bind fun y S2 => f x y S2
def m1 (f : D → Store → R D) (a : ME) : ME := fun σ S => (a σ S).bind fun x S1 => f x S1
def mNil : MA := fun _ S => .ok [] S
def mCons (a : ME) (as : MA) : MA := fun σ S => (a σ S).bind fun x S1 => (as σ S1).bind fun xs S2 => .ok (x :: xs) S2
def mN (f : List D → Store → R D) (as : MA) : ME := fun σ S => (as σ S).bind fun xs S1 => f xs S1
def m1N (f : D → List D → Store → R D) (a : ME) (as : MA) : ME := fun σ S => (a σ S).bind fun x S1 => (as σ S1).bind fun xs S2 => f x xs S2
def mTup (as : MA) : ME := fun σ S => (as σ S).bind fun xs S1 => if xs.length ≤ 1000000 then .ok (.tup xs) S1 else .no
/-- a list that nobody changes -/
def mLst (as : MA) : ME := fun σ S => (as σ S).bind fun xs S1 => if xs.length ≤ 1000000 then .ok (.lst xs) S1 else .no
/-- a list that will be changed -/
def mLstM (as : MA) : ME := fun σ S => (as σ S).bind fun xs S1 => if xs.length ≤ 1000000 then .ok (.ref S1.length) (S1 ++ [.lst xs]) else .no

theorem lim_ok {n : Nat} (h : n ≤ 1000000) : n ≤ sizeLine := by rw [sizeLine_eq]; omega

section
variable {K : PySem.W.Frag} {E : XK} {H F H1 F1 : Hp} {μ μ1 : List Addr} {S S1 : Store} {σ : Sg} {τ : L2.St}
theorem done_ok {α : Type} {a : α} {P : α → Store → Hp → Hp → List Addr → Prop} (h : ∀ H' F' μ', Ext H F μ S H' F' μ' S1 → Wd K H' F' μ' S1 → P a S1 H' F' μ') : Done K E H F μ S (.ok a S1) P := h
theorem Done.here {α : Type} {a : α} {P : α → Store → Hp → Hp → List Addr → Prop} (W : Wd K H F μ S) (h : Done K E H F μ S (.ok a S) P) : P a S H F μ := h H F μ .refl W
/-- the new object p, frozen -/
theorem Done.newF {d : D} {P : D → Store → Hp → Hp → List Addr → Prop} (W : Wd K H F μ S) (h : Done K E H F μ S (.ok d S) P) {p : Addr} {o : HO} (hp : H p = none) : Wd K (upd H p o) (upd F p o) μ S ∧ Ext H F μ S (upd H p o) (upd F p o) μ S ∧ P d S (upd H p o) (upd F p o) μ :=
  let ⟨w, e⟩ := W.newF (o := o) hp
  ⟨w, e, h _ _ _ e w⟩
theorem rep_newT {p : Addr} {xs : List D} {vs : List V} (r : Reps K F μ xs vs) (hf : F p = none) : Rep K (upd F p (.tup vs)) μ (.tup xs) (.ref p) := .tup (SqT.of upd_same) (r.mono (upd_mono hf) fun _ _ h => h)
theorem rep_newL {p : Addr} {xs : List D} {vs : List V} (r : Reps K F μ xs vs) (hf : F p = none) : Rep K (upd F p (.lst vs)) μ (.lst xs) (.ref p) := .lst upd_same (r.mono (upd_mono hf) fun _ _ h => h)
end

section
variable {X : Cx} {E : XK} {e a b : Expr} {es : List Expr} {m ma mb : ME} {mas : MA} {pos : Pos}
theorem se_var (i : Nat) {x : Str} (hN : X.N[i]? = some x := by rfl) (hv : Vis X.env.scope x := by first | exact Or.inl rfl | exact Or.inr (Or.inl rfl) | exact Or.inr (Or.inr rfl)) (hd : (x == ("__debug__" : Str)) = false := by decide)
    (hcd : (x == ("__classdict__" : Str)) = false := by decide) : PE X (.Name x pos) (tE X.K E (mVar i)) := by
  refine (pe_var hN hv hd hcd).imp ?_
  rintro τ H Q ⟨F, μ, σ, S, W, hs, h⟩
  unfold mVar at h
  cases q : σ[i]? with
  | none => rw [q] at h; exact h.elim
  | some o =>
    cases o with
    | none => rw [q] at h; exact h.elim
    | some d =>
      rw [q] at h
      obtain ⟨v, h1, r⟩ := hs.get i d q
      exact ⟨v, h1, h.here W v r⟩
theorem se_k {d : D} {v : V} (h : PE X e (tC v)) (hr : ∀ F μ, Rep X.K F μ d v) : PE X e (tE X.K E (mK d)) := by
  refine h.imp ?_
  rintro τ H Q ⟨F, μ, σ, S, W, hs, h⟩
  exact h.here W v (hr F μ)
theorem se_int {i j} : PE X (.Constant (.int i) j pos) (tE X.K E (mK (.int i))) := se_k pe_int fun _ _ => .int i
theorem se_bl {i j} : PE X (.Constant (.bool i) j pos) (tE X.K E (mK (.bl i))) := se_k pe_bl fun _ _ => .bl i
theorem se_non {j} : PE X (.Constant .none j pos) (tE X.K E (mK .non)) := se_k pe_non fun _ _ => .non
theorem se_str {x j} : PE X (.Constant (.str x) j pos) (tE X.K E (mK (.str x))) := se_k pe_str fun _ _ => .str x

theorem t2 {f : D → D → Store → R D} {K : PySem.W.Frag} {τ H Q} (h : tE K E (m2 f ma mb) τ H Q) : tOp (r2 K E f) (tE K E ma) (tE K E mb) τ H Q := by
  obtain ⟨F, μ, σ, S, W, hs, h⟩ := h
  refine ⟨F, μ, σ, S, W, hs, (h.split W).mono fun x S1 H1 F1 μ1 e1 W1 h1 v1 q1 => ⟨F1, μ1, σ, S1, W1, hs.ext e1, (h1.split W1).mono fun y S2 H2 F2 μ2 e2 W2 h2 v2 q2 => ⟨F2, μ2, S2, x, y, W2, q1.ext e2, q2, h2⟩⟩⟩
theorem se_op {op : Operator} {f : D → D → Store → R D} (ho : OpR X (binaryOp op) (r2 X.K E f)) (ha : PE X a (tE X.K E ma)) (hb : PE X b (tE X.K E mb)) : PE X (.BinOp a op b pos) (tE X.K E (m2 f ma mb)) := (pe_op ho ha hb).imp fun _ _ _ => t2
theorem se_cmp {op : CmpOp} {f : D → D → Store → R D} (ho : OpR X (compareOp op) (r2 X.K E f)) (ha : PE X a (tE X.K E ma)) (hb : PE X b (tE X.K E mb)) (hm : behindInMarks op b = false := by first | exact nomark _ | rfl) : PE X (.Compare a [op] [b] pos) (tE X.K E (m2 f ma mb)) := (pe_cmpR ho ha hb hm).imp fun _ _ _ => t2
theorem se_ix {f : D → D → Store → R D} (ho : IxR X (r2 X.K E f)) (ha : PE X a (tE X.K E ma)) (hb : PE X b (tE X.K E mb)) (hs : PlainIx b := by intro _ _; rfl) : PE X (.Subscript a b pos) (tE X.K E (m2 f ma mb)) := (pe_ix ho ha hb hs).imp fun _ _ _ => t2
theorem se_un {op : UnaryOp} {f : D → Store → R D} (ho : UnR X (unaryOp op) (r1 X.K E f)) (ha : PE X a (tE X.K E ma)) : PE X (.UnaryOp op a pos) (tE X.K E (m1 f ma)) := by
  refine (pe_un ho ha).imp ?_
  rintro τ H Q ⟨F, μ, σ, S, W, hs, h⟩
  exact ⟨F, μ, σ, S, W, hs, (h.split W).mono fun x S1 H1 F1 μ1 e1 W1 h1 v1 q1 => ⟨F1, μ1, S1, x, W1, q1, h1⟩⟩
theorem sa_nil : PA X [] (tA X.K E mNil) := pa_nil.imp fun τ H Q ⟨F, μ, σ, S, W, hs, h⟩ => h.here W [] .nil
theorem sa_cons (ha : PE X e (tE X.K E ma)) (hr : PA X es (tA X.K E mas)) (hs : starEach (e :: es) X.env = (false, eval e X.env) :: starEach es X.env := by rfl) : PA X (e :: es) (tA X.K E (mCons ma mas)) := by
  refine (pa_cons ha hr hs).imp ?_
  rintro τ H Q ⟨F, μ, σ, S, W, hs, h⟩
  exact ⟨F, μ, σ, S, W, hs, (h.split W).mono fun x S1 H1 F1 μ1 e1 W1 h1 v1 q1 => ⟨F1, μ1, σ, S1, W1, hs.ext e1, (h1.split W1).mono fun xs S2 H2 F2 μ2 e2 W2 h2 vs q2 => h2.here W2 _ (.cons (q1.ext e2) q2)⟩⟩
theorem sk_nil : PK X [] (tA X.K E mNil) := pk_nil.imp fun τ H Q ⟨F, μ, σ, S, W, hs, h⟩ => h.here W [] .nil
theorem sk_cons {nm : Option Str} {kpos : Pos} {kws : List Keyword} (ha : PE X e (tE X.K E ma)) (hr : PK X kws (tA X.K E mas)) : PK X (⟨nm, e, kpos⟩ :: kws) (tA X.K E (mCons ma mas)) := by
  refine (pk_cons ha hr).imp ?_
  rintro τ H Q ⟨F, μ, σ, S, W, hs, h⟩
  exact ⟨F, μ, σ, S, W, hs, (h.split W).mono fun x S1 H1 F1 μ1 e1 W1 h1 v1 q1 => ⟨F1, μ1, σ, S1, W1, hs.ext e1, (h1.split W1).mono fun xs S2 H2 F2 μ2 e2 W2 h2 vs q2 => h2.here W2 _ (.cons (q1.ext e2) q2)⟩⟩
theorem se_tup {k} (h : PA X es (tA X.K E mas)) : PE X (.Tuple es k pos) (tE X.K E (mTup mas)) := by
  refine (pe_tup h).imp ?_
  rintro τ H Q ⟨F, μ, σ, S, W, hs, h⟩
  refine ⟨F, μ, σ, S, W, hs, (h.split W).mono fun xs S1 H1 F1 μ1 e1 W1 h1 vs q => ?_⟩
  by_cases hz : xs.length ≤ 1000000
  · rw [if_pos hz] at h1
    refine ⟨by rw [← q.length]; exact lim_ok hz, fun p hp => ?_⟩
    obtain ⟨_, _, h2⟩ := h1.newF W1 (o := .tup vs) hp
    exact h2 _ (rep_newT q (W1.fnone hp))
  · rw [if_neg hz] at h1; exact h1.elim
theorem se_lst (h : PA X es (tA X.K E mas)) : PE X (.List es pos) (tE X.K E (mLst mas)) := by
  refine (pe_lst h).imp ?_
  rintro τ H Q ⟨F, μ, σ, S, W, hs, h⟩
  refine ⟨F, μ, σ, S, W, hs, (h.split W).mono fun xs S1 H1 F1 μ1 e1 W1 h1 vs q => ?_⟩
  by_cases hz : xs.length ≤ 1000000
  · rw [if_pos hz] at h1
    refine ⟨by rw [← q.length]; exact lim_ok hz, fun p hp => ?_⟩
    obtain ⟨_, _, h2⟩ := h1.newF W1 (o := .lst vs) hp
    exact h2 _ (rep_newL q (W1.fnone hp))
  · rw [if_neg hz] at h1; exact h1.elim
/-- a new cell for a new list -/
theorem new_cell {K : PySem.W.Frag} {H F : Hp} {μ : List Addr} {S : Store} {xs : List D} {vs : List V} {P : D → Store → Hp → Hp → List Addr → Prop} (W : Wd K H F μ S) (q : Reps K F μ xs vs)
    (h : Done K E H F μ S (.ok (.ref S.length) (S ++ [.lst xs])) P) {p : Addr} (hp : H p = none) : P (.ref S.length) (S ++ [.lst xs]) (upd H p (.lst vs)) F (μ ++ [p]) ∧ Rep K F (μ ++ [p]) (.ref S.length) (.ref p) := by
  obtain ⟨w, e⟩ := W.newC (c := .lst xs) (o := .lst vs) hp ⟨vs, upd_same, q.mono (fun _ _ h => h) fun l a h => by rw [List.getElem?_append_left (List.getElem?_eq_some_iff.mp h).1]; exact h⟩ rfl
  exact ⟨h _ _ _ e w, .ref (by rw [← W.len]; simp)⟩
theorem se_lstM (h : PA X es (tA X.K E mas)) : PE X (.List es pos) (tE X.K E (mLstM mas)) := by
  refine (pe_lst h).imp ?_
  rintro τ H Q ⟨F, μ, σ, S, W, hs, h⟩
  refine ⟨F, μ, σ, S, W, hs, (h.split W).mono fun xs S1 H1 F1 μ1 e1 W1 h1 vs q => ?_⟩
  by_cases hz : xs.length ≤ 1000000
  · rw [if_pos hz] at h1
    refine ⟨by rw [← q.length]; exact lim_ok hz, fun p hp => ?_⟩
    obtain ⟨h2, h3⟩ := new_cell W1 q h1 hp
    exact h2 _ h3
  · rw [if_neg hz] at h1; exact h1.elim
/-- a built-in called by its name -/
theorem se_callB {x : Str} {p : Pos} {id : String} {f : List D → Store → R D} (hc : CallR X (.builtin id) (rN X.K E f)) (hg : Gl X x) (hm : X.mg x = none) (hv : bootBuiltins x = some (.builtin id)) (ha : PA X (e :: es) (tA X.K E mas)) (hn : x ≠ "__name__" := by decide) (hdb : (x == ("__debug__" : Str)) = false := by decide)
    (he : starEach (e :: es) X.env = (false, eval e X.env) :: starEach es X.env := by rfl) (hpl : (backTo pos (starEach es X.env)).any (·.1) = false := by rfl) : PE X (.Call (.Name x p) (e :: es) [] pos) (tE X.K E (mN f mas)) := by
  refine (pe_callB hc hg hm hv ha hn hdb he hpl).imp ?_
  rintro τ H Q ⟨F, μ, σ, S, W, hs, h⟩
  exact ⟨F, μ, σ, S, W, hs, (h.split W).mono fun xs S1 H1 F1 μ1 e1 W1 h1 vs q => ⟨F1, μ1, S1, xs, W1, q, h1⟩⟩
theorem se_callTy {x : Str} {p : Pos} {T : String} {f : List D → Store → R D} (hc : CallR X (.type T) (rN X.K E f)) (hg : Gl X x) (hm : X.mg x = none) (hv : bootBuiltins x = some (.type T)) (ha : PA X (e :: es) (tA X.K E mas)) (hn : x ≠ "__name__" := by decide) (hdb : (x == ("__debug__" : Str)) = false := by decide)
    (he : starEach (e :: es) X.env = (false, eval e X.env) :: starEach es X.env := by rfl) (hpl : (backTo pos (starEach es X.env)).any (·.1) = false := by rfl) : PE X (.Call (.Name x p) (e :: es) [] pos) (tE X.K E (mN f mas)) := by
  refine (pe_callTy hc hg hm hv ha hn hdb he hpl).imp ?_
  rintro τ H Q ⟨F, μ, σ, S, W, hs, h⟩
  exact ⟨F, μ, σ, S, W, hs, (h.split W).mono fun xs S1 H1 F1 μ1 e1 W1 h1 vs q => ⟨F1, μ1, S1, xs, W1, q, h1⟩⟩
end

/-! ### tests -/
def mBool (a : ME) : MT := fun σ S => (a σ S).bind fun d S1 => match d with
  | .bl b => .ok b S1
  | _ => .no
def mAndT (a b : MT) : MT := fun σ S => (a σ S).bind fun c S1 => if c then b σ S1 else .ok false S1
def mOrT (a b : MT) : MT := fun σ S => (a σ S).bind fun c S1 => if c then .ok true S1 else b σ S1
def mNotT (a : MT) : MT := fun σ S => (a σ S).bind fun c S1 => .ok (!c) S1
/-- .. as values, all but the last being bools -/
def mAnd (a b : ME) : ME := fun σ S => (a σ S).bind fun d S1 => match d with
  | .bl true => b σ S1
  | .bl false => .ok (.bl false) S1
  | _ => .no
def mOr (a b : ME) : ME := fun σ S => (a σ S).bind fun d S1 => match d with
  | .bl true => .ok (.bl true) S1
  | .bl false => b σ S1
  | _ => .no
def mNot (a : ME) : ME := fun σ S => (a σ S).bind fun d S1 => match d with
  | .bl b => .ok (.bl (!b)) S1
  | _ => .no
def mIfE (c : MT) (a b : ME) : ME := fun σ S => (c σ S).bind fun t S1 => if t then a σ S1 else b σ S1
section
variable {X : Cx} {E : XK} {e a b c : Expr} {rest : List Expr} {m ma mb : ME} {mt nt : MT} {pos : Pos}
theorem tB_of {K : PySem.W.Frag} {τ H Q} (h : tT K E (mBool m) τ H Q) : tB (tE K E m) τ H Q := by
  obtain ⟨F, μ, σ, S, W, hs, h⟩ := h
  refine ⟨F, μ, σ, S, W, hs, (h.split W).mono fun d S1 H1 F1 μ1 e1 W1 h1 v q => ?_⟩
  cases q with
  | bl b => exact ⟨b, rfl, h1.here W1⟩
  | _ => exact h1.elim
theorem st_val (h : PE X e (tE X.K E m)) (he : ∀ whole, isTrue e X.env whole = (do let v ← whole; standAt e.pos; holding [v] (truthy v)) := by intro _; rfl) : PT X e (tT X.K E (mBool m)) := (pt_val h he).imp fun _ _ _ => tB_of
theorem st_cmp {op : CmpOp} {f : D → D → Store → R D} (ho : OpR X (compareOp op) (r2 X.K E f)) (ha : PE X a (tE X.K E ma)) (hb : PE X b (tE X.K E mb)) (hm : behindInMarks op b = false := by first | exact nomark _ | rfl) : PT X (.Compare a [op] [b] pos) (tT X.K E (mBool (m2 f ma mb))) :=
  (pt_cmpR ho ha hb hm).imp fun τ H Q h => by
    obtain ⟨F, μ, σ, S, W, hs, h⟩ := h
    refine t2 (E := E) ⟨F, μ, σ, S, W, hs, (h.split W).mono fun d S1 H1 F1 μ1 e1 W1 h1 v q => ?_⟩
    cases q with
    | bl b => exact ⟨b, rfl, h1.here W1⟩
    | _ => exact h1.elim
theorem sw_and1 (ha : PT X a (tT X.K E mt)) : PW X (.BoolOp .And [a] pos) (tT X.K E mt) := pw_and1 ha
theorem sw_or1 (ha : PT X a (tT X.K E mt)) : PW X (.BoolOp .Or [a] pos) (tT X.K E mt) := pw_or1 ha
theorem sw_and (ha : PT X a (tT X.K E mt)) (hb : PW X (.BoolOp .And (b :: rest) pos) (tT X.K E nt)) : PW X (.BoolOp .And (a :: b :: rest) pos) (tT X.K E (mAndT mt nt)) :=
  (pw_and ha hb).imp fun τ H Q h => by
    obtain ⟨F, μ, σ, S, W, hs, h⟩ := h
    refine ⟨F, μ, σ, S, W, hs, (h.split W).mono fun c S1 H1 F1 μ1 e1 W1 h1 => ?_⟩
    cases c with
    | true => exact iteT ⟨F1, μ1, σ, S1, W1, hs.ext e1, h1⟩
    | false => exact iteF (h1.here W1)
theorem sw_or (ha : PT X a (tT X.K E mt)) (hb : PW X (.BoolOp .Or (b :: rest) pos) (tT X.K E nt)) : PW X (.BoolOp .Or (a :: b :: rest) pos) (tT X.K E (mOrT mt nt)) :=
  (pw_or ha hb).imp fun τ H Q h => by
    obtain ⟨F, μ, σ, S, W, hs, h⟩ := h
    refine ⟨F, μ, σ, S, W, hs, (h.split W).mono fun c S1 H1 F1 μ1 e1 W1 h1 => ?_⟩
    cases c with
    | false => exact iteF ⟨F1, μ1, σ, S1, W1, hs.ext e1, h1⟩
    | true => exact iteT (h1.here W1)
theorem st_not (ha : PT X a (tT X.K E mt)) : PT X (.UnaryOp .Not a pos) (tT X.K E (mNotT mt)) :=
  (pt_not ha).imp fun τ H Q h => by
    obtain ⟨F, μ, σ, S, W, hs, h⟩ := h
    exact ⟨F, μ, σ, S, W, hs, (h.split W).mono fun c S1 H1 F1 μ1 e1 W1 h1 => h1.here W1⟩
theorem se_one {op} (h : PE X a (tE X.K E m)) : PE X (.BoolOp op [a] pos) (tE X.K E m) := pe_one h
theorem se_and (ha : PE X a (tE X.K E ma)) (hb : PE X (.BoolOp .And (b :: rest) pos) (tE X.K E mb)) : PE X (.BoolOp .And (a :: b :: rest) pos) (tE X.K E (mAnd ma mb)) :=
  (pe_and ha hb).imp fun τ H Q h => by
    obtain ⟨F, μ, σ, S, W, hs, h⟩ := h
    refine ⟨F, μ, σ, S, W, hs, (h.split W).mono fun d S1 H1 F1 μ1 e1 W1 h1 v q => ?_⟩
    cases q with
    | bl c =>
      cases c with
      | true => exact ⟨true, rfl, iteT ⟨F1, μ1, σ, S1, W1, hs.ext e1, h1⟩⟩
      | false => exact ⟨false, rfl, iteF (h1.here W1 _ (.bl false))⟩
    | _ => exact h1.elim
theorem se_or (ha : PE X a (tE X.K E ma)) (hb : PE X (.BoolOp .Or (b :: rest) pos) (tE X.K E mb)) : PE X (.BoolOp .Or (a :: b :: rest) pos) (tE X.K E (mOr ma mb)) :=
  (pe_or ha hb).imp fun τ H Q h => by
    obtain ⟨F, μ, σ, S, W, hs, h⟩ := h
    refine ⟨F, μ, σ, S, W, hs, (h.split W).mono fun d S1 H1 F1 μ1 e1 W1 h1 v q => ?_⟩
    cases q with
    | bl c =>
      cases c with
      | false => exact ⟨false, rfl, iteF ⟨F1, μ1, σ, S1, W1, hs.ext e1, h1⟩⟩
      | true => exact ⟨true, rfl, iteT (h1.here W1 _ (.bl true))⟩
    | _ => exact h1.elim
theorem se_not (ha : PE X a (tE X.K E ma)) : PE X (.UnaryOp .Not a pos) (tE X.K E (mNot ma)) :=
  (pe_not ha).imp fun τ H Q h => by
    obtain ⟨F, μ, σ, S, W, hs, h⟩ := h
    refine ⟨F, μ, σ, S, W, hs, (h.split W).mono fun d S1 H1 F1 μ1 e1 W1 h1 v q => ?_⟩
    cases q with
    | bl c => exact ⟨c, rfl, h1.here W1 _ (.bl _)⟩
    | _ => exact h1.elim
theorem se_ifE (hc : PT X c (tT X.K E mt)) (ha : PE X a (tE X.K E ma)) (hb : PE X b (tE X.K E mb)) : PE X (.IfExp c a b pos) (tE X.K E (mIfE mt ma mb)) :=
  (pe_ifExp hc ha hb).imp fun τ H Q h => by
    obtain ⟨F, μ, σ, S, W, hs, h⟩ := h
    refine ⟨F, μ, σ, S, W, hs, (h.split W).mono fun c S1 H1 F1 μ1 e1 W1 h1 => ?_⟩
    cases c with
    | true => exact iteT ⟨F1, μ1, σ, S1, W1, hs.ext e1, h1⟩
    | false => exact iteF ⟨F1, μ1, σ, S1, W1, hs.ext e1, h1⟩
end
end MM

set_option Elab.async false
set_option linter.all false
set_option maxRecDepth 100000
/-! Targets, statements, loops, comprehensions. -/
namespace MM
open PySem PySem.Spec PyProof.Rows L2

def R.toO {α : Type} (r : R α) (k : α → Store → O) : O := match r with
  | .ok a S => k a S
  | .ex e S => .ex e S
  | .no => .no
def O.seq (o : O) (k : MS) : O := match o with
  | .nx σ S => k σ S
  | o => o
/-- behind a loop's turn -/
def O.next (o : O) (k : MS) : O := match o with
  | .nx σ S => k σ S
  | .ct σ S => k σ S
  | .bk σ S => .nx σ S
  | o => o
section
variable {α : Type} {K : PySem.W.Frag} {E : XK} {H F H1 F1 : Hp} {μ μ1 : List Addr} {S S1 : Store} {σ : Sg} {τ : L2.St} {D : Ends}
theorem DoneS.split {r : R α} {k : α → Store → O} (W : Wd K H F μ S) (h : DoneS K E H F μ S (r.toO k) D) : Done K E H F μ S r (fun a S' H' F' μ' => DoneS K E H' F' μ' S' (k a S') D) := by
  cases r with
  | ok a S' => exact fun H' F' μ' e w => DoneS.from (o := k a S') W e h
  | ex e S' => exact h
  | no => exact h
/-- somewhere behind a world, k is to go on -/
def At (K : PySem.W.Frag) (E : XK) (D : Ends) (k : MS) (H0 F0 : Hp) (μ0 : List Addr) (S0 : Store) (τ : L2.St) (H : Hp) : Prop := ∃ F μ σ S, Ext H0 F0 μ0 S0 H F μ S ∧ Wd K H F μ S ∧ Sl K F μ σ τ ∧ DoneS K E H F μ S (k σ S) D
theorem DoneS.seq {o : O} {k : MS} (W : Wd K H F μ S) (h : DoneS K E H F μ S (o.seq k) D) : DoneS K E H F μ S o { D with nx := tS K E k D } := by
  cases o with
  | nx σ S' => exact fun H' F' μ' τ e w s => ⟨F', μ', σ, S', w, s, DoneS.from (o := k σ S') W e h⟩
  | rt d S' => exact h
  | bk σ S' => exact h
  | ct σ S' => exact h
  | ex e S' => exact h
  | no => exact h
theorem DoneS.next {o : O} {k : MS} (W : Wd K H F μ S) (h : DoneS K E H F μ S (o.next k) D) : DoneS K E H F μ S o { D with nx := At K E D k H F μ S, ct := At K E D k H F μ S, bk := D.nx } := by
  cases o with
  | nx σ S' => exact fun H' F' μ' τ e w s => ⟨F', μ', σ, S', e, w, s, DoneS.from (o := k σ S') W e h⟩
  | rt d S' => exact h
  | bk σ S' => exact h
  | ct σ S' => exact fun H' F' μ' τ e w s => ⟨F', μ', σ, S', e, w, s, DoneS.from (o := k σ S') W e h⟩
  | ex e S' => exact h
  | no => exact h
theorem DoneS.imp {o : O} {D' : Ends} (h : DoneS K E H F μ S o D) (h1 : ∀ τ H, D.nx τ H → D'.nx τ H) (h2 : ∀ v H, D.rt v H → D'.rt v H) (h3 : ∀ τ H, D.bk τ H → D'.bk τ H) (h4 : ∀ τ H, D.ct τ H → D'.ct τ H) : DoneS K E H F μ S o D' := by
  cases o with
  | nx σ S' => exact fun H' F' μ' τ e w s => h1 _ _ (h H' F' μ' τ e w s)
  | rt d S' => exact fun H' F' μ' τ e w s => h2 _ _ (h H' F' μ' τ e w s)
  | bk σ S' => exact fun H' F' μ' τ e w s => h3 _ _ (h H' F' μ' τ e w s)
  | ct σ S' => exact fun H' F' μ' τ e w s => h4 _ _ (h H' F' μ' τ e w s)
  | ex e S' => exact h
  | no => exact h
theorem DoneS.here {σ : Sg} (W : Wd K H F μ S) (s : Sl K F μ σ τ) (h : DoneS K E H F μ S (.nx σ S) D) : D.nx τ H := h H F μ τ .refl W s
end

/-! ### statements -/
def mSkip : MS := fun σ S => .nx σ S
def mSeq (a b : MS) : MS := fun σ S => (a σ S).seq b
def mBrk : MS := fun σ S => .bk σ S
def mCt : MS := fun σ S => .ct σ S
def mExpr (e : ME) : MS := fun σ S => (e σ S).toO fun _ S1 => .nx σ S1
def mRet (e : ME) : MS := fun σ S => (e σ S).toO fun d S1 => .rt d S1
def mRetN : MS := fun _ S => .rt .non S
def mIf (c : MT) (a b : MS) : MS := fun σ S => (c σ S).toO fun t S1 => if t then a σ S1 else b σ S1
def mAsg (e : ME) (g : MG) : MS := fun σ S => (e σ S).toO fun d S1 => (g d σ S1).toO fun σ1 S2 => .nx σ1 S2
def gN (i : Nat) : MG := fun d σ S => .ok (σ.set i (some d)) S
def gsNil : List D → Sg → Store → R Sg := fun ds σ S => match ds with
  | [] => .ok σ S
  | _ => .no
def gsCons (g : MG) (r : List D → Sg → Store → R Sg) : List D → Sg → Store → R Sg := fun ds σ S => match ds with
  | d :: ds => (g d σ S).bind fun σ1 S1 => r ds σ1 S1
  | _ => .no
def gT (n : Nat) (g : List D → Sg → Store → R Sg) : MG := fun d σ S => match d with
  | .tup ds => if ds.length = n then g ds σ S else .no
  | _ => .no
section
variable {X : Cx} {E : XK} {e a b c : Expr} {st : Stmt} {rest : List Stmt} {m ma mb : ME} {ms ns : MS} {mt : MT} {pos : Pos}
theorem ss_nil : PSs X [] (tS X.K E mSkip) := pss_nil.imp fun D τ H ⟨F, μ, σ, S, W, hs, h⟩ => h.here W hs
theorem ss_cons (h1 : PS X st (tS X.K E ms)) (h2 : PSs X rest (tS X.K E ns)) : PSs X (st :: rest) (tS X.K E (mSeq ms ns)) :=
  (pss_cons h1 h2).imp fun D τ H ⟨F, μ, σ, S, W, hs, h⟩ => ⟨F, μ, σ, S, W, hs, DoneS.seq W h⟩
theorem ss_one (h1 : PS X st (tS X.K E ms)) : PSs X [st] (tS X.K E ms) := pss_one h1
theorem s_pass : PS X (.Pass pos) (tS X.K E mSkip) := ps_pass.imp fun D τ H ⟨F, μ, σ, S, W, hs, h⟩ => h.here W hs
theorem s_break : PS X (.Break pos) (tS X.K E mBrk) := ps_break.imp fun D τ H ⟨F, μ, σ, S, W, hs, h⟩ => h H F μ τ .refl W hs
theorem s_continue : PS X (.Continue pos) (tS X.K E mCt) := ps_continue.imp fun D τ H ⟨F, μ, σ, S, W, hs, h⟩ => h H F μ τ .refl W hs
theorem s_expr (he : PE X e (tE X.K E m)) (hs : swapsWith e none pos.line X.env = pure false := by rfl) : PS X (.Expr e pos) (tS X.K E (mExpr m)) :=
  (ps_expr he hs).imp fun D τ H ⟨F, μ, σ, S, W, hs, h⟩ => ⟨F, μ, σ, S, W, hs, (h.split W).mono fun d S1 H1 F1 μ1 e1 W1 h1 v q => h1.here W1 (hs.ext e1)⟩
theorem s_ret (he : PE X e (tE X.K E m)) : PS X (.Return (some e) pos) (tS X.K E (mRet m)) :=
  (ps_ret he).imp fun D τ H ⟨F, μ, σ, S, W, hs, h⟩ => ⟨F, μ, σ, S, W, hs, (h.split W).mono fun d S1 H1 F1 μ1 e1 W1 h1 v q => h1 H1 F1 μ1 v .refl W1 q⟩
theorem s_retN : PS X (.Return none pos) (tS X.K E mRetN) := ps_retN.imp fun D τ H ⟨F, μ, σ, S, W, hs, h⟩ => h H F μ .non .refl W .non
theorem s_if {p q : List Stmt} (hc : PT X c (tT X.K E mt)) (ha : PSs X p (tS X.K E ms)) (hb : PSs X q (tS X.K E ns)) : PS X (.If c p q pos) (tS X.K E (mIf mt ms ns)) :=
  (ps_if hc ha hb).imp fun D τ H ⟨F, μ, σ, S, W, hs, h⟩ => ⟨F, μ, σ, S, W, hs, (h.split W).mono fun t S1 H1 F1 μ1 e1 W1 h1 => by
    cases t with
    | true => exact iteT ⟨F1, μ1, σ, S1, W1, hs.ext e1, h1⟩
    | false => exact iteF ⟨F1, μ1, σ, S1, W1, hs.ext e1, h1⟩⟩
theorem off_refl {ow : List Nat} {τ : L2.St} : Off ow τ τ := ⟨rfl, fun _ _ => rfl⟩
theorem Off.trans {ow ow' : List Nat} {τ τ1 τ2 : L2.St} (a : Off ow τ τ1) (b : Off ow' τ1 τ2) : Off (ow ++ ow') τ τ2 := ⟨b.1.trans a.1, fun i hi => by
  rw [List.mem_append, not_or] at hi
  exact (b.2 i hi.2).trans (a.2 i hi.1)⟩
theorem sg_name {x : Str} (i : Nat) (hN : X.N.Nodup) (hi : X.N[i]? = some x := by rfl) (hx : Loc X.env.scope x := by first | exact Or.inl rfl | exact Or.inr rfl) (hf : X.fn x = true ∨ X.env.scope.names.lookup x = some .local := by first | exact .inl rfl | exact .inr rfl) : PG X (.Name x pos) (tG X.K E [i] (gN i)) :=
  (pg_name hN hi hx hf).imp fun v τ H Q ⟨F, μ, σ, S, d, W, hs, r, h⟩ => h H F μ .refl W _ (hs.set r) ⟨by simp, fun j hj => by
    rw [List.getElem?_set_ne fun e => hj (by simp [e])]⟩
theorem sgs_nil : PGs X [] (tGs X.K E [] gsNil) := pgs_nil.imp fun vs τ H Q ⟨F, μ, σ, S, ds, W, hs, r, h⟩ => by
  cases r with
  | nil => exact ⟨rfl, h H F μ .refl W _ hs off_refl⟩
  | cons => exact h.elim
theorem sgs_cons {es : List Expr} {ow ow' : List Nat} {g : MG} {r : List D → Sg → Store → R Sg} (h1 : PG X e (tG X.K E ow g)) (h2 : PGs X es (tGs X.K E ow' r))
    (hs : (assignEach (e :: es) X.env).map (·.2) = assign e X.env :: (assignEach es X.env).map (·.2) := by rfl) : PGs X (e :: es) (tGs X.K E (ow ++ ow') (gsCons g r)) :=
  (pgs_cons h1 h2 hs).imp fun vs τ H Q ⟨F, μ, σ, S, ds, W, hs, q, h⟩ => by
    cases q with
    | nil => exact h.elim
    | cons q qs =>
      exact ⟨_, _, rfl, F, μ, σ, S, _, W, hs, q, (Done.split W h).mono fun σ1 S1 H1 F1 μ1 e1 W1 h1 τ1 hs1 o1 => ⟨F1, μ1, σ1, S1, _, W1, hs1, qs.ext e1, h1.mono fun σ2 S2 H2 F2 μ2 e2 W2 h2 τ2 hs2 o2 => h2 τ2 hs2 (o1.trans o2)⟩⟩
theorem sg_tup {es : List Expr} {k n : Nat} {ow : List Nat} {g : List D → Sg → Store → R Sg} (hc : X.calm = true) (h : PGs X es (tGs X.K E ow g)) (hn : (assignEach es X.env).length = n := by rfl) (hst : (assignEach es X.env).findIdx? (·.1) = none := by rfl) : PG X (.Tuple es k pos) (tG X.K E ow (gT n g)) :=
  (pg_tup hc h hn hst).imp fun v τ H Q ⟨F, μ, σ, S, d, W, hs, r, h⟩ => by
    cases r with
    | tup hq rs =>
      have h' : Done X.K E H F μ S (if _ then _ else _) _ := h
      split at h'
      · rename_i hl
        exact ⟨_, _, rfl, sqT_mono W.sub hq, by rw [← rs.length]; exact hl, F, μ, σ, S, _, W, hs, rs, h'⟩
      · exact h'.elim
    | _ => exact h.elim
theorem s_asg {tg : Expr} {ow : List Nat} {g : MG} (he : PE X e (tE X.K E m)) (hg : PG X tg (tG X.K E ow g)) (hs : swapsWithSole [tg] e pos.line X.env = pure false := by rfl) (hw : swappedStores [tg] e X.env = pure none := by rfl)
    (h1 : (assignEach [tg] X.env).map (·.2) = [assign tg X.env] := by rfl) : PS X (.Assign [tg] e pos) (tS X.K E (mAsg m g)) :=
  (ps_asg he hg hs hw h1).imp fun D τ H ⟨F, μ, σ, S, W, hs, h⟩ => ⟨F, μ, σ, S, W, hs, (h.split W).mono fun d S1 H1 F1 μ1 e1 W1 h1 v q => ⟨F1, μ1, σ, S1, d, W1, hs.ext e1, q, (h1.split W1).mono fun σ2 S2 H2 F2 μ2 e2 W2 h2 τ2 hs2 _ => h2.here W2 hs2⟩⟩
theorem s_set {x : Str} {pos' : Pos} (i : Nat) (hN : X.N.Nodup) (he : PE X e (tE X.K E m)) (hi : X.N[i]? = some x := by rfl) (hx : Loc X.env.scope x := by first | exact Or.inl rfl | exact Or.inr rfl) (hs : swapsWith e (some (.Name x pos')) pos.line X.env = pure false := by rfl) (hf : X.fn x = true ∨ X.env.scope.names.lookup x = some .local := by first | exact .inl rfl | exact .inr rfl) :
    PS X (.Assign [.Name x pos'] e pos) (tS X.K E (mAsg m (gN i))) :=
  (ps_set hN hi hx he hs hf).imp fun D τ H ⟨F, μ, σ, S, W, hs, h⟩ => ⟨F, μ, σ, S, W, hs, (h.split W).mono fun d S1 H1 F1 μ1 e1 W1 h1 v q => h1.here W1 ((hs.ext e1).set q)⟩
/-- a, b = x, y, the names plain locals -/
def mPar (i j : Nat) (as : MA) : MS := fun σ S => (as σ S).toO fun ds S1 => match ds with
  | [d, e] => .nx ((σ.set i (some d)).set j (some e)) S1
  | _ => .no
theorem s_par {x y : Str} {px py pt : Pos} {kt k2 pt2} {mas : MA} (i j : Nat) (hc : X.calm = true) (hN : X.N.Nodup) (ha : PA X [a, b] (tA X.K E mas)) (hij : i ≠ j := by decide) (hi : X.N[i]? = some x := by rfl) (hj : X.N[j]? = some y := by rfl)
    (hx : X.env.scope.names.lookup x = some .local := by rfl) (hy : X.env.scope.names.lookup y = some .local := by rfl)
    (hw : swappedStores [.Tuple [.Name x px, .Name y py] kt pt] (.Tuple [a, b] k2 pt2) X.env = pure (some [x, y]) := by rfl)
    (hs : swapsWithSole [.Tuple [.Name x px, .Name y py] kt pt] (.Tuple [a, b] k2 pt2) pos.line X.env = pure false := by rfl) :
    PS X (.Assign [.Tuple [.Name x px, .Name y py] kt pt] (.Tuple [a, b] k2 pt2) pos) (tS X.K E (mPar i j mas)) :=
  (ps_par hc hN hi hj hij hx hy ha hw hs).imp fun D τ H ⟨F, μ, σ, S, W, hs, h⟩ => ⟨F, μ, σ, S, W, hs, (h.split W).mono fun ds S1 H1 F1 μ1 e1 W1 h1 vs q => by
    cases q with
    | nil => exact h1.elim
    | cons r1 q =>
      cases q with
      | nil => exact h1.elim
      | cons r2 q =>
        cases q with
        | nil => exact ⟨_, _, rfl, DoneS.here W1 (((hs.ext e1).set r1).set r2) h1⟩
        | cons => exact h1.elim⟩
def mPar3 (i j l : Nat) (as : MA) : MS := fun σ S => (as σ S).toO fun ds S1 => match ds with
  | [d, e, f] => .nx (((σ.set i (some d)).set j (some e)).set l (some f)) S1
  | _ => .no
end

/-! ### what is walked -/
/-- J walks the items xs, whatever the world has become -/
def ItOk (K : PySem.W.Frag) (F : Hp) (μ : List Addr) (J : It) (xs : List D) : Prop := ∀ H F1 μ1 S1, Wd K H F1 μ1 S1 → (∀ a o, F a = some o → F1 a = some o) → (∀ (l : Nat) a, μ[l]? = some a → μ1[l]? = some a) →
  (∀ (i : Nat) d, xs[i]? = some d → J.go i H ∧ ∀ x H', J.yld i H x H' → ∃ F2, Ext H F1 μ1 S1 H' F2 μ1 S1 ∧ Wd K H' F2 μ1 S1 ∧ Rep K F2 μ1 d x) ∧ J.stop xs.length H
abbrev MI := Sg → Store → R (List D)
def tI (K : PySem.W.Frag) (E : XK) (m : MI) : TI := fun τ H Q => ∃ F μ σ S, Wd K H F μ S ∧ Sl K F μ σ τ ∧ Done K E H F μ S (m σ S) (fun xs _ H' F' μ' => ∀ J, ItOk K F' μ' J xs → Q J H')

def runFor (g : MG) (body : MS) : List D → MS
  | [] => fun σ S => .nx σ S
  | d :: ds => fun σ S => (g d σ S).toO fun σ1 S1 => (body σ1 S1).next (runFor g body ds)
def mFor (mi : MI) (g : MG) (body : MS) : MS := fun σ S => (mi σ S).toO fun xs S1 => runFor g body xs σ S1
def runWhile (c : MT) (body : MS) : Nat → MS
  | 0 => fun _ _ => .no
  | n + 1 => fun σ S => (c σ S).toO fun t S1 => if t then (body σ S1).next (runWhile c body n) else .nx σ S1
section
variable {X : Cx} {E : XK} {tg iter c : Expr} {body : List Stmt} {mb : MS} {mt : MT} {g : MG} {mi : MI} {ow : List Nat} {pos : Pos}
theorem t_for {K : PySem.W.Frag} {D : Ends} {τ H} (h : tS K E (mFor mi g mb) D τ H) : tFor (tI K E mi) (tG K E ow g) (tS K E mb) D τ H := by
  obtain ⟨F, μ, σ, S, W, hs, h⟩ := h
  refine ⟨F, μ, σ, S, W, hs, (h.split W).mono fun xs S1 H1 F1 μ1 e1 W1 h1 J hJ => ?_⟩
  let G : Nat → L2.St → Hp → Prop := fun i τ H => At K E D (runFor g mb (xs.drop i)) H1 F1 μ1 S1 τ H
  refine ⟨fun i m τ H => m = xs.length - i ∧ i ≤ xs.length ∧ G i τ H, ⟨xs.length, by simp, Nat.zero_le _, F1, μ1, σ, S1, .refl, W1, hs.ext e1, h1⟩, ?_⟩
  rintro i m τ2 H2 ⟨rfl, hi, F2, μ2, σ2, S2, e2, W2, hs2, h2⟩
  obtain ⟨j1, j2⟩ := hJ H2 F2 μ2 S2 W2 e2.fz e2.mu
  by_cases hlt : i < xs.length
  · refine .inr ⟨(j1 i xs[i] (List.getElem?_eq_getElem hlt)).1, G (i + 1), fun τ' H' q => ⟨xs.length - (i + 1), by omega, rfl, hlt, q⟩, fun x H' y => ?_⟩
    obtain ⟨F3, e3, W3, r3⟩ := (j1 i xs[i] (List.getElem?_eq_getElem hlt)).2 x H' y
    rw [List.drop_eq_getElem_cons hlt] at h2
    have h3 := DoneS.from W2 e3 h2
    refine ⟨F3, μ2, σ2, S2, xs[i], W3, hs2.ext e3, r3, (DoneS.split W3 h3).mono fun σ4 S4 H4 F4 μ4 e4 W4 h4 τ4 hs4 _ => ⟨F4, μ4, σ4, S4, W4, hs4, ?_⟩⟩
    refine DoneS.imp (DoneS.next W4 h4) (fun τ5 H5 q => ?_) (fun _ _ q => q) (fun _ _ q => q) fun τ5 H5 q => ?_
    all_goals
      obtain ⟨F5, μ5, σ5, S5, e5, W5, hs5, h5⟩ := q
      exact ⟨F5, μ5, σ5, S5, e2.trans W1 (e3.trans W2 (e4.trans W3 e5)), W5, hs5, h5⟩
  · have e : i = xs.length := by omega
    subst e
    rw [List.drop_length] at h2
    exact .inl ⟨j2, DoneS.here W2 hs2 h2⟩
theorem s_for (hp : PassesOwn (model X.prog X.w) X.A X.env X.xe) (hc : X.calm = true) (hi : PI X tg iter (tI X.K E mi)) (hg : PG X tg (tG X.K E ow g)) (hb : PSs X body (tS X.K E mb))
    (hs : ∀ x, foldedSetIterable iter X.env x = pure x := by intro _; rfl) : PS X (.For tg iter body [] pos) (tS X.K E (mFor mi g mb)) := (ps_for hp hc hi hg hb hs).imp fun _ _ _ => t_for
theorem s_while (n : Nat) (hp : PassesOwn (model X.prog X.w) X.A X.env X.xe) (hc : PT X c (tT X.K E mt)) (hb : PSs X body (tS X.K E mb)) : PS X (.While c body [] pos) (tS X.K E (runWhile mt mb n)) :=
  (ps_while hp hc hb).imp fun D τ H ⟨F, μ, σ, S, W, hs, h⟩ => by
    refine ⟨fun m τ H => ∃ F μ σ S, Wd X.K H F μ S ∧ Sl X.K F μ σ τ ∧ DoneS X.K E H F μ S (runWhile mt mb m σ S) D, ⟨n, F, μ, σ, S, W, hs, h⟩, ?_⟩
    rintro m τ2 H2 ⟨F2, μ2, σ2, S2, W2, hs2, h2⟩
    cases m with
    | zero => exact h2.elim
    | succ m =>
      refine ⟨F2, μ2, σ2, S2, W2, hs2, (DoneS.split W2 h2).mono fun t S3 H3 F3 μ3 e3 W3 h3 => ?_⟩
      cases t with
      | false => exact iteF (DoneS.here W3 (hs2.ext e3) h3)
      | true =>
        refine iteT ⟨fun τ H => ∃ F μ σ S, Wd X.K H F μ S ∧ Sl X.K F μ σ τ ∧ DoneS X.K E H F μ S (runWhile mt mb m σ S) D, fun τ' H' q => ⟨m, Nat.lt_succ_self _, q⟩, F3, μ3, σ2, S3, W3, hs2.ext e3, ?_⟩
        refine DoneS.imp (DoneS.next W3 h3) (fun τ5 H5 q => ?_) (fun _ _ q => q) (fun _ _ q => q) fun τ5 H5 q => ?_
        all_goals
          obtain ⟨F5, μ5, σ5, S5, e5, W5, hs5, h5⟩ := q
          exact ⟨F5, μ5, σ5, S5, W5, hs5, h5⟩
end
end MM

set_option Elab.async false
set_option linter.all false
set_option maxRecDepth 100000
/-! What for loops and comprehensions walk; comprehensions. -/
namespace MM
open PySem PySem.Spec PyProof.Rows L2

/-! ### freezing -/
def freezeAt (l : Nat) (S : Store) : Option (List D × Store) := match S[l]? with
  | some (.lst xs) => some (xs, S.set l (.fz xs))
  | some (.fz xs) => some (xs, S)
  | _ => none
section
variable {K : PySem.W.Frag} {E : XK} {H F : Hp} {μ : List Addr} {S S' : Store} {l : Nat} {a : Addr} {xs : List D}
theorem freeze_ok (W : Wd K H F μ S) (ha : μ[l]? = some a) (h : freezeAt l S = some (xs, S')) : ∃ F' vs, Ext H F μ S H F' μ S' ∧ Wd K H F' μ S' ∧ F' a = some (.lst vs) ∧ Reps K F' μ xs vs := by
  unfold freezeAt at h
  cases q : S[l]? with
  | none => rw [q] at h; cases h
  | some c =>
    cases c with
    | dic _ => rw [q] at h; cases h
    | fz ys =>
      rw [q] at h
      cases h
      obtain ⟨vs, h1, h2⟩ := W.cell l _ a q ha
      exact ⟨F, vs, .refl, W, h1, h2⟩
    | lst ys =>
      rw [q] at h
      cases h
      obtain ⟨vs, h1, h2, w, e⟩ := W.freeze q ha
      exact ⟨_, vs, e, w, upd_same, h2.ext e⟩
end
/-- a list handed over is changed no more -/
def frz (d : D) (S : Store) : R D := match d with
  | .ref l => match S[l]? with
    | some (.lst xs) => .ok (.lst xs) (S.set l (.fz xs))
    | some (.fz xs) => .ok (.lst xs) S
    | some (.dic _) => .ok d S
    | none => .no
  | d => .ok d S
def mFrz (m : ME) : ME := m1 frz m
section
variable {X : Cx} {E : XK} {e : Expr} {m : ME}
theorem frz_ok {K : PySem.W.Frag} {H F : Hp} {μ : List Addr} {S : Store} {d : D} {v : V} {P : D → Store → Hp → Hp → List Addr → Prop} (W : Wd K H F μ S) (r : Rep K F μ d v) (h : Done K E H F μ S (frz d S) P) :
    ∃ F' S' d', Ext H F μ S H F' μ S' ∧ Wd K H F' μ S' ∧ Rep K F' μ d' v ∧ P d' S' H F' μ := by
  cases r with
  | ref ha =>
    rename_i l a
    unfold frz at h
    dsimp only at h
    cases q : S[l]? with
    | none => rw [q] at h; exact h.elim
    | some c =>
      cases c with
      | dic _ => rw [q] at h; exact ⟨F, S, _, .refl, W, .ref ha, h.here W⟩
      | fz ys =>
        rw [q] at h
        obtain ⟨vs, h1, h2⟩ := W.cell l _ a q ha
        exact ⟨F, S, _, .refl, W, .lst h1 h2, h.here W⟩
      | lst ys =>
        rw [q] at h
        obtain ⟨vs, h1, h2, w, e⟩ := W.freeze q ha
        exact ⟨_, _, _, e, w, .lst upd_same (h2.ext e), h _ _ _ e w⟩
  | non => exact ⟨F, S, _, .refl, W, .non, h.here W⟩
  | bl b => exact ⟨F, S, _, .refl, W, .bl b, h.here W⟩
  | int b => exact ⟨F, S, _, .refl, W, .int b, h.here W⟩
  | str b => exact ⟨F, S, _, .refl, W, .str b, h.here W⟩
  | tup a b => exact ⟨F, S, _, .refl, W, .tup a b, h.here W⟩
  | lst a b => exact ⟨F, S, _, .refl, W, .lst a b, h.here W⟩
  | scr a b => exact ⟨F, S, _, .refl, W, .scr a b, h.here W⟩
theorem se_frz (he : PE X e (tE X.K E m)) : PE X e (tE X.K E (mFrz m)) := he.imp fun τ H Q ⟨F, μ, σ, S, W, hs, h⟩ => ⟨F, μ, σ, S, W, hs, (h.split W).mono fun d S1 H1 F1 μ1 e1 W1 h1 v q => by
  obtain ⟨F2, S2, d2, e2, W2, r2, h2⟩ := frz_ok W1 q h1
  exact h2 v r2⟩
end

/-! ### walked things -/
section
variable {K : PySem.W.Frag} {F : Hp} {μ : List Addr} {J : It} {a : Addr} {vs : List V} {xs : List D}
theorem it_same {n : Nat} {G : Hp → Prop} {Y : Nat → Hp → V → Hp → Prop} (w : Walk J n G Y) (hn : xs.length = n) (hG : ∀ H F1 μ1 S1, Wd K H F1 μ1 S1 → (∀ a o, F a = some o → F1 a = some o) → (∀ (l : Nat) a, μ[l]? = some a → μ1[l]? = some a) → G H)
    (hY : ∀ i d H x H' F1 μ1 S1, xs[i]? = some d → Wd K H F1 μ1 S1 → (∀ a o, F a = some o → F1 a = some o) → (∀ (l : Nat) a, μ[l]? = some a → μ1[l]? = some a) → Y i H x H' → ∃ F2, Ext H F1 μ1 S1 H' F2 μ1 S1 ∧ Wd K H' F2 μ1 S1 ∧ Rep K F2 μ1 d x) : ItOk K F μ J xs := by
  intro H F1 μ1 S1 W f m
  have g := hG H F1 μ1 S1 W f m
  refine ⟨fun i d hd => ?_, by rw [hn]; exact w.stops H g⟩
  have hi : i < n := by rw [← hn]; exact (List.getElem?_eq_some_iff.mp hd).1
  exact ⟨w.goes i H hi g, fun x H' y => hY i d H x H' F1 μ1 S1 hd W f m (w.yields i H x H' hi g y)⟩
theorem it_at {G : Hp → Prop} (w : Walk J vs.length G (YAt vs)) (r : Reps K F μ xs vs) (hG : ∀ H F1 μ1 S1, Wd K H F1 μ1 S1 → (∀ a o, F a = some o → F1 a = some o) → (∀ (l : Nat) a, μ[l]? = some a → μ1[l]? = some a) → G H) : ItOk K F μ J xs :=
  it_same w r.length hG fun i d H x H' F1 μ1 S1 hd W f m y => by
    obtain ⟨rfl, hx⟩ := y
    obtain ⟨v, h1, h2⟩ := r.get hd
    rw [hx] at h1
    cases h1
    exact ⟨F1, .refl, W, h2.mono f m⟩
theorem it_list (h : SqL K F a vs) (r : Reps K F μ xs vs) : ItOk K F μ (Itl K a) xs := it_at walk_list r fun H F1 μ1 S1 W f m => sqL_mono W.sub (sqL_mono f h)
theorem it_tup (h : SqT K F a vs) (r : Reps K F μ xs vs) : ItOk K F μ (Itt K a) xs := it_at walk_tup r fun H F1 μ1 S1 W f m => sqT_mono W.sub (sqT_mono f h)
theorem it_pair {n : Nat} {G : Hp → Prop} {A B : Nat → Option V} {f g : Nat → D} (w : Walk J n G (YPair A B)) (hG : ∀ H F1 μ1 S1, Wd K H F1 μ1 S1 → (∀ a o, F a = some o → F1 a = some o) → (∀ (l : Nat) a, μ[l]? = some a → μ1[l]? = some a) → G H)
    (hA : ∀ i x, i < n → A i = some x → Rep K F μ (f i) x) (hB : ∀ i x, i < n → B i = some x → Rep K F μ (g i) x) : ItOk K F μ J ((List.range n).map fun i => .tup [f i, g i]) :=
  it_same w (by simp) hG fun i d H x H' F1 μ1 S1 hd W ff m y => by
    obtain ⟨T, u, v, rfl, hT, rfl, hu, hv⟩ := y
    rw [List.getElem?_map] at hd
    cases q : (List.range n)[i]? with
    | none => rw [q] at hd; cases hd
    | some j =>
      rw [q] at hd
      obtain ⟨hi, e⟩ := List.getElem?_eq_some_iff.mp q
      rw [List.length_range] at hi
      rw [List.getElem_range] at e
      subst e
      have hd' : D.tup [f i, g i] = d := Option.some.inj hd
      subst hd'
      obtain ⟨w2, e2⟩ := W.newF (o := .tup [u, v]) hT
      exact ⟨_, e2, w2, rep_newT (.cons ((hA i u hi hu).mono ff m) (.cons ((hB i v hi hv).mono ff m) .nil)) (W.fnone hT)⟩
end
/-- the signs of a text -/
def signs (x : Str) : List D := x.cps.toList.map fun c => .str ⟨#[c]⟩
/-- the items of a list, a tuple, a text; a list's cell is frozen -/
def itemsOf (d : D) (S : Store) : R (List D) := match d with
  | .lst xs => .ok xs S
  | .scr xs => .ok xs S
  | .tup xs => .ok xs S
  | .str x => .ok (signs x) S
  | .ref l => match freezeAt l S with
    | some (xs, S') => .ok xs S'
    | none => .no
  | _ => .no
def miSeq (m : ME) : MI := fun σ S => (m σ S).bind itemsOf
section
variable {X : Cx} {E : XK} {tg e : Expr} {m : ME} {mas : MA}
def iSeq (K : PySem.W.Frag) (te : TE) : TI := fun σ H R => te σ H fun x H1 => (∃ a, x = .ref a ∧ (∃ xs, SqL K H1 a xs) ∧ R (Itl K a) H1) ∨ (∃ a, x = .ref a ∧ (∃ xs, SqT K H1 a xs) ∧ R (Itt K a) H1) ∨ ∃ z, x = .str z ∧ R (Its z) H1
theorem pi_seq {te : TE} (he : PE X e te) : PI X tg e (iSeq X.K te) := by
  refine ⟨fun pins s σ H R I h => ?_⟩
  refine thn (he.run pins s σ H _ I h) fun v s1 ⟨x, H1, I1, r1, q1⟩ => ?_
  rcases q1 with ⟨a, rfl, ⟨xs, hq⟩, q⟩ | ⟨a, rfl, ⟨xs, hq⟩, q⟩ | ⟨z, rfl, q⟩
  · cases r1
    obtain ⟨its, rv, p, hz⟩ := I1.list hq
    refine wpAny_pyIter_list p.isList ?_
    refine ⟨s1.heap.objs.size, [s1.heap.objs.size], _, _, H1, rfl, I1.kept (t' := s1.toks) fun b o e => Heap.get?_push_of_some _ e, turn_list a _, ⟨_, Heap.get?_push_size _ rfl, rfl, rfl⟩, fun b hb => ?_, q⟩
    have e : b = s1.heap.objs.size := by simpa using hb
    subst e
    exact I1.fpOk (Nat.le_refl _) (I1.hok.fresh (Nat.le_refl _))
  · cases r1
    obtain ⟨its, rv, p, hz⟩ := I1.tuple hq
    refine wpAny_pyIter_tuple (show s1.heap.IsTuple a its.toArray from p) ?_
    refine ⟨s1.heap.objs.size, [s1.heap.objs.size], _, _, H1, rfl, I1.kept (t' := s1.toks) fun b o e => Heap.get?_push_of_some _ e, turn_tuple a _, ⟨_, Heap.get?_push_size _ rfl, rfl, rfl⟩, fun b hb => ?_, q⟩
    have e : b = s1.heap.objs.size := by simpa using hb
    subst e
    exact I1.fpOk (Nat.le_refl _) (I1.hok.fresh (Nat.le_refl _))
  · obtain ⟨t, rfl⟩ := r1
    cases ha : z.cps.all (· < 128)
    · exact wpAny_pyIter_wide ha (pi_one (tk := s1.toks) I1 _ (turn_str _ z t "str_iterator" (.inr rfl)) ⟨_, Heap.get?_push_size _ rfl, rfl, rfl⟩ q)
    · exact wpAny_pyIter_ascii ha (pi_one (tk := s1.toks) I1 _ (turn_str _ z t "str_ascii_iterator" (.inl rfl)) ⟨_, Heap.get?_push_size _ rfl, rfl, rfl⟩ q)
theorem it_str {K : PySem.W.Frag} {F : Hp} {μ : List Addr} (z : Str) : ItOk K F μ (Its z) (signs z) :=
  it_same walk_str (by simp [signs]) (fun _ _ _ _ _ _ _ => trivial) fun i d H x H' F1 μ1 S1 hd W f m y => by
    obtain ⟨rfl, c, hc, rfl⟩ := y
    unfold signs at hd
    rw [List.getElem?_map, Array.getElem?_toList, hc] at hd
    have hd' : D.str ⟨#[c]⟩ = d := Option.some.inj hd
    subst hd'
    exact ⟨F1, .refl, W, .str _⟩
theorem si_seq (he : PE X e (tE X.K E m)) : PI X tg e (tI X.K E (miSeq m)) := (pi_seq he).imp fun τ H Q ⟨F, μ, σ, S, W, hs, h⟩ => ⟨F, μ, σ, S, W, hs, (h.split W).mono fun d S1 H1 F1 μ1 e1 W1 h1 v q => by
  cases q with
  | lst ha r => exact .inl ⟨_, rfl, ⟨_, sqL_mono W1.sub (SqL.of ha)⟩, h1.here W1 _ (it_list (SqL.of ha) r)⟩
  | scr ha r => exact .inl ⟨_, rfl, ⟨_, sqL_mono W1.sub ha⟩, h1.here W1 _ (it_list ha r)⟩
  | tup ha r => exact .inr (.inl ⟨_, rfl, ⟨_, sqT_mono W1.sub ha⟩, h1.here W1 _ (it_tup ha r)⟩)
  | str z => exact .inr (.inr ⟨z, rfl, h1.here W1 _ (it_str z)⟩)
  | ref ha =>
    rename_i l a
    have h1' : Done X.K E H1 F1 μ1 S1 (match freezeAt l S1 with | some (xs, S') => .ok xs S' | none => .no) _ := h1
    cases q : freezeAt l S1 with
    | none => rw [q] at h1'; exact h1'.elim
    | some p =>
      obtain ⟨xs, S2⟩ := p
      rw [q] at h1'
      obtain ⟨F2, vs, e2, w2, hF, r⟩ := freeze_ok W1 ha q
      exact .inl ⟨a, rfl, ⟨vs, sqL_mono w2.sub (SqL.of hF)⟩, h1' _ _ _ e2 w2 _ (it_list (SqL.of hF) r)⟩
  | _ => exact h1.elim⟩
/-- range(n), range(a, b) -/
def rngOk (i j : Int) : Bool := decide (-1000000 ≤ i) && decide (i ≤ 1000000) && decide (-1000000 ≤ j) && decide (j ≤ 1000000)
def rngItems (i : Int) (n : Nat) : List D := (List.range n).map fun (k : Nat) => .int (i + (k : Int))
def miRng1 (as : MA) : MI := fun σ S => (as σ S).bind fun ds S1 => match ds with
  | [.int j] => if rngOk 0 j then .ok (rngItems 0 j.toNat) S1 else .no
  | _ => .no
def miRng2 (as : MA) : MI := fun σ S => (as σ S).bind fun ds S1 => match ds with
  | [.int i, .int j] => if rngOk i j then .ok (rngItems i (j - i).toNat) S1 else .no
  | _ => .no
def miRng3 (as : MA) : MI := fun σ S => (as σ S).bind fun ds S1 => match ds with
  | [.int i, .int j, .int c] => if decide (c ≠ 0) && decide (c.natAbs < 1073741824) && Builtin.Range.small i j c then .ok ((List.range (Builtin.Range.rangeSize i j c).toNat).map fun k => .int (i + (k : Nat) * c)) S1 else .no
  | _ => .no
theorem it_rng {K : PySem.W.Frag} {F : Hp} {μ : List Addr} (i : Int) (n : Nat) : ItOk K F μ (Itr i n) (rngItems i n) :=
  it_same walk_range (by simp [rngItems]) (fun _ _ _ _ _ _ _ => trivial) fun k d H x H' F1 μ1 S1 hd W f m y => by
    obtain ⟨rfl, rfl⟩ := y
    unfold rngItems at hd
    rw [List.getElem?_map] at hd
    cases q : (List.range n)[k]? with
    | none => rw [q] at hd; cases hd
    | some j =>
      obtain ⟨hi, e⟩ := List.getElem?_eq_some_iff.mp q
      rw [List.getElem_range] at e
      subst e
      rw [q] at hd
      have hd' : D.int (i + (k : Int)) = d := Option.some.inj hd
      subst hd'
      exact ⟨F1, .refl, W, .int _⟩
theorem it_rngC {K : PySem.W.Frag} {F : Hp} {μ : List Addr} (i c : Int) (n : Nat) : ItOk K F μ (Itc i c n) ((List.range n).map fun k => .int (i + (k : Nat) * c)) :=
  it_same walk_rangeC (by simp) (fun _ _ _ _ _ _ _ => trivial) fun k d H x H' F1 μ1 S1 hd W f m y => by
    obtain ⟨rfl, rfl⟩ := y
    rw [List.getElem?_map] at hd
    cases q : (List.range n)[k]? with
    | none => rw [q] at hd; cases hd
    | some j =>
      obtain ⟨hi, e⟩ := List.getElem?_eq_some_iff.mp q
      rw [List.getElem_range] at e
      subst e
      rw [q] at hd
      have hd' : D.int (i + (k : Nat) * c) = d := Option.some.inj hd
      subst hd'
      exact ⟨F1, .refl, W, .int _⟩
theorem rngOk_ok {i j : Int} (h : rngOk i j = true) : -1000000 ≤ i ∧ i ≤ 1000000 ∧ -1000000 ≤ j ∧ j ≤ 1000000 := by
  simp only [rngOk, Bool.and_eq_true, decide_eq_true_eq] at h
  exact ⟨h.1.1.1, h.1.1.2, h.1.2, h.2⟩
theorem si_rng1 {a : Expr} {p pos : Pos} (hg : Gl X "range") (hm : X.mg "range" = none) (ha : PA X [a] (tA X.K E mas)) (hs : starEach [a] X.env = [(false, eval a X.env)] := by rfl) : PI X tg (.Call (.Name "range" p) [a] [] pos) (tI X.K E (miRng1 mas)) :=
  (pi_range1 hg hm ha hs).imp fun τ H Q ⟨F, μ, σ, S, W, hs, h⟩ => ⟨F, μ, σ, S, W, hs, (h.split W).mono fun ds S1 H1 F1 μ1 e1 W1 h1 vs q => by
    cases q with
    | nil => exact h1.elim
    | cons r q =>
      cases q with
      | cons => cases r <;> exact h1.elim
      | nil =>
        cases r with
        | int j =>
          have h1' : Done X.K E H1 F1 μ1 S1 (if rngOk 0 j then .ok (rngItems 0 j.toNat) S1 else .no) _ := h1
          split at h1'
          · rename_i hk
            have := rngOk_ok hk
            exact ⟨j, rfl, by omega, by omega, h1'.here W1 _ (it_rng 0 _)⟩
          · exact h1'.elim
        | _ => exact h1.elim⟩
theorem si_rng2 {a b : Expr} {p pos : Pos} (hg : Gl X "range") (hm : X.mg "range" = none) (ha : PA X [a, b] (tA X.K E mas)) (hs : starEach [a, b] X.env = [(false, eval a X.env), (false, eval b X.env)] := by rfl) (hs2 : starEach [b] X.env = [(false, eval b X.env)] := by rfl) : PI X tg (.Call (.Name "range" p) [a, b] [] pos) (tI X.K E (miRng2 mas)) :=
  (pi_range2 hg hm ha hs hs2).imp fun τ H Q ⟨F, μ, σ, S, W, hs, h⟩ => ⟨F, μ, σ, S, W, hs, (h.split W).mono fun ds S1 H1 F1 μ1 e1 W1 h1 vs q => by
    cases q with
    | nil => exact h1.elim
    | cons r q =>
      cases q with
      | nil => cases r <;> exact h1.elim
      | cons r2 q =>
        cases q with
        | cons => cases r <;> cases r2 <;> exact h1.elim
        | nil =>
          cases r with
          | int i =>
            cases r2 with
            | int j =>
              have h1' : Done X.K E H1 F1 μ1 S1 (if rngOk i j then .ok (rngItems i (j - i).toNat) S1 else .no) _ := h1
              split at h1'
              · rename_i hk
                have := rngOk_ok hk
                exact ⟨i, j, rfl, ⟨by omega, by omega, by omega, by omega⟩, h1'.here W1 _ (it_rng i _)⟩
              · exact h1'.elim
            | _ => exact h1.elim
          | _ => exact h1.elim⟩
theorem si_rng3 {a b c : Expr} {p pos : Pos} (hg : Gl X "range") (hm : X.mg "range" = none) (ha : PA X [a, b, c] (tA X.K E mas)) (hs : starEach [a, b, c] X.env = (false, eval a X.env) :: starEach [b, c] X.env := by rfl) (hpl : (backTo pos (starEach [b, c] X.env)).any (·.1) = false := by rfl) : PI X tg (.Call (.Name "range" p) [a, b, c] [] pos) (tI X.K E (miRng3 mas)) :=
  (pi_range3 hg hm ha hs hpl).imp fun τ H Q ⟨F, μ, σ, S, W, hs, h⟩ => ⟨F, μ, σ, S, W, hs, (h.split W).mono fun ds S1 H1 F1 μ1 e1 W1 h1 vs q => by
    cases q with
    | nil => exact h1.elim
    | cons r q =>
      cases q with
      | nil => cases r <;> exact h1.elim
      | cons r2 q =>
        cases q with
        | nil => cases r <;> cases r2 <;> exact h1.elim
        | cons r3 q =>
          cases q with
          | cons => cases r <;> cases r2 <;> cases r3 <;> exact h1.elim
          | nil =>
            cases r with
            | int i =>
              cases r2 with
              | int j =>
                cases r3 with
                | int c =>
                  have h1' : Done X.K E H1 F1 μ1 S1 (if decide (c ≠ 0) && decide (c.natAbs < 1073741824) && Builtin.Range.small i j c then .ok _ S1 else .no) _ := h1
                  split at h1'
                  · rename_i hk
                    simp only [Bool.and_eq_true, decide_eq_true_eq] at hk
                    exact ⟨i, j, c, _, rfl, ⟨hk.1.1, hk.1.2, hk.2, rangeSize_toNat i j c⟩, h1'.here W1 _ (it_rngC i c _)⟩
                  · exact h1'.elim
                | _ => exact h1.elim
              | _ => exact h1.elim
            | _ => exact h1.elim⟩
/-- enumerate(list) -/
def enumItems (xs : List D) : List D := (List.range xs.length).map fun (i : Nat) => .tup [.int (i : Int), xs.getD i .non]
def lstOf (d : D) (S : Store) : R (List D) := match d with
  | .lst xs => .ok xs S
  | .scr xs => .ok xs S
  | .ref l => match freezeAt l S with
    | some (xs, S') => .ok xs S'
    | none => .no
  | _ => .no
def miEnum (as : MA) : MI := fun σ S => (as σ S).bind fun ds S1 => match ds with
  | [d] => (lstOf d S1).bind fun xs S2 => .ok (enumItems xs) S2
  | _ => .no
theorem lstOf_ok {K : PySem.W.Frag} {H F : Hp} {μ : List Addr} {S : Store} {d : D} {v : V} {P : List D → Store → Hp → Hp → List Addr → Prop} (W : Wd K H F μ S) (r : Rep K F μ d v) (h : Done K E H F μ S (lstOf d S) P) :
    ∃ F' S' xs a vs, v = .ref a ∧ Ext H F μ S H F' μ S' ∧ Wd K H F' μ S' ∧ SqL K F' a vs ∧ Reps K F' μ xs vs ∧ P xs S' H F' μ := by
  cases r with
  | lst ha r => exact ⟨F, S, _, _, _, rfl, .refl, W, SqL.of ha, r, h.here W⟩
  | scr ha r => exact ⟨F, S, _, _, _, rfl, .refl, W, ha, r, h.here W⟩
  | ref ha =>
    rename_i l a
    have h1' : Done K E H F μ S (match freezeAt l S with | some (xs, S') => .ok xs S' | none => .no) _ := h
    cases q : freezeAt l S with
    | none => rw [q] at h1'; exact h1'.elim
    | some p =>
      obtain ⟨xs, S2⟩ := p
      rw [q] at h1'
      obtain ⟨F2, vs, e2, w2, hF, r⟩ := freeze_ok W ha q
      exact ⟨F2, S2, xs, a, vs, rfl, e2, w2, SqL.of hF, r, h1' _ _ _ e2 w2⟩
  | _ => exact h.elim
theorem it_enum {K : PySem.W.Frag} {F : Hp} {μ : List Addr} {a : Addr} {xs : List D} {vs : List V} (h : SqL K F a vs) (r : Reps K F μ xs vs) : ItOk K F μ (Ite K a) (enumItems xs) := by
  have w := it_pair (K := K) (F := F) (μ := μ) (f := fun i => D.int (i : Nat)) (g := fun i => xs.getD i .non) (walk_enum (K := K) (a := a) (xs := vs)) (fun H F1 μ1 S1 W f m => sqL_mono W.sub (sqL_mono f h)) (fun i x _ e => by cases e; exact .int _) fun i x hi e => by
    obtain ⟨d, h1, h2⟩ := r.get' e
    rw [List.getD_eq_getElem?_getD, h1]
    exact h2
  unfold enumItems
  rw [r.length]
  exact w
theorem si_enum {p pos tpos : Pos} {elts : List Expr} {kk : Nat} (hg : Gl X "enumerate") (hm : X.mg "enumerate" = none) (ha : PA X [e] (tA X.K E mas)) (hs : starEach [e] X.env = [(false, eval e X.env)] := by rfl) : PI X (.Tuple elts kk tpos) (.Call (.Name "enumerate" p) [e] [] pos) (tI X.K E (miEnum mas)) :=
  (pi_enum hg hm ha hs).imp fun τ H Q ⟨F, μ, σ, S, W, hs, h⟩ => ⟨F, μ, σ, S, W, hs, (h.split W).mono fun ds S1 H1 F1 μ1 e1 W1 h1 vs q => by
    cases q with
    | nil => exact h1.elim
    | cons r q =>
      cases q with
      | cons => exact h1.elim
      | nil =>
        obtain ⟨F2, S2, xs, a, us, rfl, e2, W2, hq, rr, h2⟩ := lstOf_ok W1 r (Done.split W1 h1)
        exact ⟨a, us, rfl, sqL_mono W2.sub hq, h2.here W2 _ (it_enum hq rr)⟩⟩
end
end MM

set_option Elab.async false
set_option linter.all false
set_option maxRecDepth 100000
/-! Comprehensions. -/
namespace MM
open PySem PySem.Spec PyProof.Rows L2

theorem R.bind_ok {α β : Type} {r : R α} {k : α → Store → R β} {b : β} {S' : Store} (h : r.bind k = .ok b S') : ∃ a S1, r = .ok a S1 ∧ k a S1 = .ok b S' := by
  cases r with
  | ok a S1 => exact ⟨a, S1, rfl, h⟩
  | ex e S1 => cases h
  | no => cases h

section
variable {K : PySem.W.Frag} {H F H1 F1 : Hp} {μ μ1 : List Addr} {S S1 : Store} {p : Addr} {o o' : HO}
/-- an object that no world speaks of -/
theorem Wd.add (W : Wd K H F μ S) (hp : H p = none) : Wd K (upd H p o) F μ S ∧ Ext H F μ S (upd H p o) F μ S := by
  have hf := W.fnone hp
  refine ⟨⟨fun a o' h => ?_, W.len, W.nd, W.out, fun l c a h1 h2 => ?_⟩, ⟨fun _ _ h => h, fun _ _ h => h, fun a o' h _ => ?_, fun a h => ?_, fun _ _ h => .inl h, fun a h => .inl h, fun _ _ h => h, Nat.le_refl _⟩⟩
  · rw [upd_ne (ne_of_none h hf)]; exact W.sub _ _ h
  · exact (W.cell l c a h1 h2).mono (fun _ _ h => h) (fun _ _ h => h) fun _ => upd_ne (W.ne hp (mem_of_ix h2))
  · rw [upd_ne (ne_of_none h hp)]; exact h
  · by_cases e : a = p
    · subst e; exact hp
    · rw [upd_ne e] at h; exact h
structure Aside (H F : Hp) (μ : List Addr) (p : Addr) (o : HO) : Prop where
  at_ : H p = some o
  fr : F p = none
  mu : p ∉ μ
theorem Aside.ext (e : Ext H F μ S H1 F1 μ1 S1) (h : Aside H F μ p o) : Aside H1 F1 μ1 p o := by
  refine ⟨e.keep _ _ h.at_ fun ⟨l, c, h1, _⟩ => h.mu (mem_of_ix h1), ?_, fun hm => ?_⟩
  · cases q : F1 p with
    | none => rfl
    | some u =>
      rcases e.fnew p (by rw [q]; simp) with z | z | z
      · exact absurd h.fr z
      · rw [h.at_] at z; cases z
      · exact absurd z h.mu
  · obtain ⟨l, hl⟩ := List.getElem?_of_mem hm
    rcases e.new l p hl with z | z
    · exact h.mu (mem_of_ix z)
    · rw [h.at_] at z; cases z
theorem Wd.aside (W : Wd K H F μ S) (h : Aside H F μ p o) : Wd K (upd H p o') F μ S := by
  refine ⟨fun a o' q => ?_, W.len, W.nd, W.out, fun l c a h1 h2 => ?_⟩
  · rw [upd_ne (ne_of_none q h.fr)]; exact W.sub _ _ q
  · exact (W.cell l c a h1 h2).mono (fun _ _ h => h) (fun _ _ h => h) fun _ => upd_ne fun e => h.mu (by rw [← e]; exact mem_of_ix h2)
theorem Ext.aside (e : Ext H F μ S H1 F1 μ1 S1) (hp : H p = none) : Ext H F μ S (upd H1 p o') F1 μ1 S1 :=
  ⟨e.fz, e.mu, fun a o q n => by rw [upd_ne (ne_of_none q hp)]; exact e.keep a o q n, fun a q => by
    by_cases z : a = p
    · subst z; exact hp
    · rw [upd_ne z] at q; exact e.dom a q, e.new, e.fnew, e.cf, e.le⟩
/-- it is frozen at last -/
theorem Wd.asideF (W : Wd K H F μ S) (h : Aside H F μ p o) : Wd K H (upd F p o) μ S := by
  have mono := upd_mono (F := F) (o := o) h.fr
  refine ⟨fun a o' q => ?_, W.len, W.nd, fun a q => ?_, fun l c a h1 h2 => (W.cell l c a h1 h2).mono mono (fun _ _ h => h) fun _ => rfl⟩
  · by_cases z : a = p
    · subst z; rw [upd_same] at q; cases q; exact h.at_
    · rw [upd_ne z] at q; exact W.sub _ _ q
  · have hm : a ∈ μ := by obtain ⟨l, c, h1, _⟩ := q; exact mem_of_ix h1
    rw [upd_ne fun z => h.mu (by rw [← z]; exact hm)]
    exact W.out a q
theorem Ext.asideF (W : Wd K H F μ S) (e : Ext H F μ S H1 F1 μ1 S1) (hp : H p = none) (h : F1 p = none) : Ext H F μ S H1 (upd F1 p o) μ1 S1 :=
  ⟨fun a o q => upd_mono h a o (e.fz a o q), e.mu, e.keep, e.dom, e.new, fun a q => by
    by_cases z : a = p
    · subst z; exact .inr (.inl hp)
    · rw [upd_ne z] at q; exact e.fnew a q, e.cf, e.le⟩
/-- .. or becomes a cell -/
theorem Wd.asideC {xs : List D} {vs : List V} (W : Wd K H F μ S) (h : Aside H F μ p (.lst vs)) (r : Reps K F μ xs vs) : Wd K H F (μ ++ [p]) (S ++ [.lst xs]) := by
  have hm : ∀ (l : Nat) a, μ[l]? = some a → (μ ++ [p])[l]? = some a := fun l a h => by
    rw [List.getElem?_append_left (List.getElem?_eq_some_iff.mp h).1]; exact h
  refine ⟨W.sub, by simp [W.len], ?_, fun a q => ?_, fun l c a h1 h2 => ?_⟩
  · rw [List.nodup_append]
    refine ⟨W.nd, by simp, fun a ha b hb e => ?_⟩
    simp at hb
    subst hb
    exact h.mu (by rw [← e]; exact ha)
  · obtain ⟨l, c, h1, h2, h3⟩ := q
    rcases ix_append h1 with z | ⟨_, rfl⟩
    · have hl : l < S.length := by rw [← W.len]; exact (List.getElem?_eq_some_iff.mp z).1
      rw [List.getElem?_append_left hl] at h2
      exact W.out a ⟨l, c, z, h2, h3⟩
    · exact h.fr
  · rcases ix_append h2 with z | ⟨rfl, rfl⟩
    · have hl : l < S.length := by rw [← W.len]; exact (List.getElem?_eq_some_iff.mp z).1
      rw [List.getElem?_append_left hl] at h1
      exact (W.cell l c a h1 z).mono (fun _ _ h => h) hm fun _ => rfl
    · rw [W.len] at h1
      simp at h1
      subst h1
      exact ⟨vs, h.at_, r.mono (fun _ _ h => h) hm⟩
theorem Ext.asideC {xs : List D} (e : Ext H F μ S H1 F1 μ1 S1) (hp : H p = none) : Ext H F μ S H1 F1 (μ1 ++ [p]) (S1 ++ [.lst xs]) :=
  ⟨e.fz, fun l a q => by
    have q := e.mu l a q
    rw [List.getElem?_append_left (List.getElem?_eq_some_iff.mp q).1]; exact q, e.keep, e.dom, fun l a q => by
    rcases ix_append q with z | ⟨_, rfl⟩
    · exact e.new l a z
    · exact .inr hp, e.fnew, fun l ys q => by
    have q := e.cf l ys q
    rw [List.getElem?_append_left (List.getElem?_eq_some_iff.mp q).1]; exact q, by
    rw [List.length_append]
    exact Nat.le_trans e.le (Nat.le_add_right _ _)⟩
end

theorem wipe_ix (τ : L2.St) : ∀ (vs : List Nat) (i : Nat), (L2.wipe τ vs)[i]? = if i ∈ vs ∧ i < τ.length then some none else τ[i]?
  | [], i => by simp [L2.wipe]
  | v :: vs, i => by
    have ih := wipe_ix τ vs i
    show ((L2.wipe τ vs).set v none)[i]? = _
    by_cases e : v = i
    · subst e
      by_cases hl : v < τ.length
      · rw [List.getElem?_set_self (by rw [L2.wipe_length]; exact hl)]
        simp [hl]
      · rw [List.getElem?_eq_none (by rw [List.length_set, L2.wipe_length]; omega)]
        simp [hl]
    · rw [List.getElem?_set_ne e, ih]
      have : (i ∈ v :: vs) ↔ i ∈ vs := by simp [Ne.symm e]
      simp [this]
theorem wipe_off {ow vs : List Nat} {τ τ2 : L2.St} (h : Off ow (L2.wipe τ vs) τ2) (hv : ∀ i ∈ ow, i ∈ vs) : L2.wipe τ2 vs = L2.wipe τ vs := by
  have hl : τ2.length = τ.length := by rw [h.1, L2.wipe_length]
  apply List.ext_getElem?
  intro i
  rw [wipe_ix, wipe_ix, hl]
  by_cases hi : i ∈ vs
  · by_cases hi2 : i < τ.length
    · rw [if_pos ⟨hi, hi2⟩, if_pos ⟨hi, hi2⟩]
    · rw [if_neg fun z => hi2 z.2, if_neg fun z => hi2 z.2, List.getElem?_eq_none (by omega), List.getElem?_eq_none (by omega)]
  · rw [if_neg fun z => hi z.1, if_neg fun z => hi z.1, h.2 i fun z => hi (hv i z), wipe_ix, if_neg fun z => hi z.1]

def runLc (σ0 : Sg) (g : MG) (t : MT) (me : ME) : List D → Store → R (List D)
  | [], S => .ok [] S
  | d :: ds, S => (g d σ0 S).bind fun σ1 S1 => (t σ1 S1).bind fun b S2 => if b then (me σ1 S2).bind fun y S3 => (runLc σ0 g t me ds S3).bind fun ys S4 => .ok (y :: ys) S4 else runLc σ0 g t me ds S2
def R.quiet {α : Type} (r : R α) : R α := match r with
  | .ok a S => .ok a S
  | _ => .no
def fin0 (ys : List D) (S : Store) : R D := .ok (.lst ys) S
def finM (ys : List D) (S : Store) : R D := .ok (.ref S.length) (S ++ [.lst ys])
def mLcF (fin : List D → Store → R D) (own : List Nat) (mi : MI) (g : MG) (t : MT) (me : ME) : ME := fun σ S => (mi σ S).bind fun xs S1 => if xs.length ≤ 1000000 then (runLc (wipeM σ own) g t me xs S1).quiet.bind fin else .no
def mLc := mLcF fin0
def mLcM := mLcF finM
def mYes : MT := fun _ S => .ok true S
section
variable {E : XK} {mt : MT} {me : ME} {g : MG} {mi : MI} {ow own : List Nat}
theorem lc_go {fin : List D → Store → R D} {K : PySem.W.Frag} {τ : L2.St} {Q : VK} {H1 F1 : Hp} {μ1 : List Addr} {S1 : Store} {σ : Sg} {J : It} {xs : List D}
    (hfin : ∀ {H1 F1 μ1 S1 H F μ S p ys vs}, Wd K H1 F1 μ1 S1 → H1 p = none → Ext H1 F1 μ1 S1 H F μ S → Wd K H F μ S → Aside H F μ p (.lst vs) → Reps K F μ ys vs → Done K E H1 F1 μ1 S1 (fin ys S) (fun d _ H' F' μ' => ∀ v, Rep K F' μ' d v → Q v H') → Q (.ref p) H)
    (W1 : Wd K H1 F1 μ1 S1) (hs1 : Sl K F1 μ1 σ τ) (hJ : ItOk K F1 μ1 J xs) (hv : ∀ i ∈ ow, i ∈ own)
    (h1 : Done K E H1 F1 μ1 S1 (if xs.length ≤ 1000000 then (runLc (wipeM σ own) g mt me xs S1).quiet.bind fin else .no) (fun d _ H' F' μ' => ∀ v, Rep K F' μ' d v → Q v H')) :
    tLc (fun _ _ R => R J H1) (tG K E0 ow g) (tT K E0 mt) (tE K E0 me) own τ H1 Q := by
  intro p hp
  by_cases hz : xs.length ≤ 1000000
  case neg => rw [if_neg hz] at h1; exact h1.elim
  rw [if_pos hz] at h1
  cases hr : runLc (wipeM σ own) g mt me xs S1 with
  | no => rw [hr] at h1; exact h1.elim
  | ex e S' => rw [hr] at h1; exact h1.elim
  | ok ys Sz =>
    rw [hr] at h1
    have h1 : Done K E H1 F1 μ1 S1 (fin ys Sz) (fun d _ H' F' μ' => ∀ v, Rep K F' μ' d v → Q v H') := h1
    let G : Nat → Hp → Prop := fun i H => ∃ F μ S as vs zs, Ext H1 F1 μ1 S1 H F μ S ∧ Wd K H F μ S ∧ Aside H F μ p (.lst vs) ∧ Reps K F μ as vs ∧ as.length ≤ i ∧ runLc (wipeM σ own) g mt me (xs.drop i) S = .ok zs Sz ∧ as ++ zs = ys
    obtain ⟨Wp, ep⟩ := W1.add (o := .lst []) hp
    refine ⟨fun i m H => m = xs.length - i ∧ i ≤ xs.length ∧ G i H, ⟨xs.length, by simp, Nat.zero_le _, F1, μ1, S1, [], [], ys, ep, Wp, ⟨upd_same, W1.fnone hp, fun hm => W1.there hm hp⟩, .nil, Nat.le_refl _, hr, rfl⟩, ?_⟩
    rintro i m H2 ⟨rfl, hi, F2, μ2, S2, as, vs, zs, e2, W2, A2, r2, hl2, hr2, hy⟩
    obtain ⟨j1, j2⟩ := hJ H2 F2 μ2 S2 W2 e2.fz e2.mu
    by_cases hlt : i < xs.length
    case neg =>
      have e : i = xs.length := by omega
      subst e
      rw [List.drop_length] at hr2
      cases hr2
      rw [List.append_nil] at hy
      subst hy
      exact .inl ⟨j2, hfin W1 hp e2 W2 A2 r2 h1⟩
    refine .inr ⟨(j1 i xs[i] (List.getElem?_eq_getElem hlt)).1, G (i + 1), fun H' q => ⟨xs.length - (i + 1), by omega, rfl, hlt, q⟩, fun x H' y => ?_⟩
    obtain ⟨F3, e3, W3, q3⟩ := (j1 i xs[i] (List.getElem?_eq_getElem hlt)).2 x H' y
    rw [List.drop_eq_getElem_cons hlt] at hr2
    obtain ⟨σ4, S4, g4, hr2⟩ := R.bind_ok hr2
    obtain ⟨b, S5, t5, hr2⟩ := R.bind_ok hr2
    refine ⟨F3, μ2, wipeM σ own, S2, xs[i], W3, ((hs1.ext e2).ext e3).wipe own, q3, ?_⟩
    rw [g4]
    intro H4 F4 μ4 e4 W4 τ4 hs4 o4
    refine ⟨wipe_off o4 hv, F4, μ4, σ4, S4, W4, hs4, ?_⟩
    rw [t5]
    intro H5 F5 μ5 e5 W5
    have A5 := ((A2.ext e3).ext e4).ext e5
    have E5 := ((e2.trans W1 e3).trans W1 e4).trans W1 e5
    have R5 := ((r2.ext e3).ext e4).ext e5
    cases b with
    | false =>
      refine iteF ?_
      exact ⟨F5, μ5, S5, as, vs, zs, E5, W5, A5, R5, by omega, hr2, hy⟩
    | true =>
      refine iteT ⟨F5, μ5, σ4, S5, W5, hs4.ext e5, ?_⟩
      obtain ⟨y0, S6, g6, hr2⟩ := R.bind_ok (show (R.bind (me σ4 S5) _) = _ from hr2)
      obtain ⟨zs', S7, g7, hr2⟩ := R.bind_ok hr2
      cases hr2
      rw [g6]
      intro H6 F6 μ6 e6 W6 v6 q6
      have A6 := A5.ext e6
      refine ⟨vs, A6.at_, ?_, F6, μ6, S6, as ++ [y0], vs ++ [v6], zs', (E5.trans W1 e6).aside hp, W6.aside A6, ⟨upd_same, A6.fr, A6.mu⟩, (R5.ext e6).append (.cons q6 .nil), by simp; omega, g7, by simp [← hy]⟩
      have := r2.length
      rw [sizeLine_eq]
      omega
theorem t_lc {fin : List D → Store → R D} {K : PySem.W.Frag} {τ H Q}
    (hfin : ∀ {H1 F1 μ1 S1 H F μ S p ys vs}, Wd K H1 F1 μ1 S1 → H1 p = none → Ext H1 F1 μ1 S1 H F μ S → Wd K H F μ S → Aside H F μ p (.lst vs) → Reps K F μ ys vs → Done K E H1 F1 μ1 S1 (fin ys S) (fun d _ H' F' μ' => ∀ v, Rep K F' μ' d v → Q v H') → Q (.ref p) H)
    (h : tE K E (mLcF fin own mi g mt me) τ H Q) (hv : ∀ i ∈ ow, i ∈ own) : tLc (tI K E mi) (tG K E0 ow g) (tT K E0 mt) (tE K E0 me) own τ H Q := by
  obtain ⟨F, μ, σ, S, W, hs, h⟩ := h
  exact ⟨F, μ, σ, S, W, hs, (h.split W).mono fun xs S1 H1 F1 μ1 e1 W1 h1 J hJ => lc_go (E := E) hfin W1 (hs.ext e1) hJ hv h1⟩
theorem fin0_ok {K : PySem.W.Frag} {Q : VK} {H1 F1 μ1 S1 H F μ S p ys vs} (W1 : Wd K H1 F1 μ1 S1) (hp : H1 p = none) (e : Ext H1 F1 μ1 S1 H F μ S) (W : Wd K H F μ S) (A : Aside H F μ p (.lst vs)) (r : Reps K F μ ys vs)
    (h : Done K E H1 F1 μ1 S1 (fin0 ys S) (fun d _ H' F' μ' => ∀ v, Rep K F' μ' d v → Q v H')) : Q (.ref p) H :=
  h H (upd F p (.lst vs)) μ (e.asideF W1 hp A.fr) (W.asideF A) _ (rep_newL r A.fr)
theorem finM_ok {K : PySem.W.Frag} {Q : VK} {H1 F1 μ1 S1 H F μ S p ys vs} (W1 : Wd K H1 F1 μ1 S1) (hp : H1 p = none) (e : Ext H1 F1 μ1 S1 H F μ S) (W : Wd K H F μ S) (A : Aside H F μ p (.lst vs)) (r : Reps K F μ ys vs)
    (h : Done K E H1 F1 μ1 S1 (finM ys S) (fun d _ H' F' μ' => ∀ v, Rep K F' μ' d v → Q v H')) : Q (.ref p) H :=
  h H F (μ ++ [p]) (e.asideC hp) (W.asideC A r) _ (.ref (by rw [← W.len]; simp))
end
section
variable {X : Cx} {E : XK} {elt tg iter c : Expr} {ifs : List Expr} {scope : Scope} {own : List (Str × Nat)} {mt : MT} {me : ME} {g : MG} {mi : MI} {ow : List Nat} {pos : Pos}
theorem sts_nil : PTs X [] (tT X.K E mYes) := ⟨fun pins s σ H Q I h => pts_nil.run pins s σ H Q I (by obtain ⟨F, μ, σ, S, W, hs, h⟩ := h; exact h.here W)⟩
theorem sts_one (h : PT X c (tT X.K E mt)) : PTs X [c] (tT X.K E mt) := pts_one h
theorem se_lc (hc : X.calm = true) (hN : X.N.Nodup) (hi : PI X tg iter (tI X.K E mi)) (ok : BlkOk X.N X.env.scope scope own)
    (hg : ∀ (s : Shared) (H : Hp) (C : Addr) (cl : List (Str × Addr)) (fp : List Addr), PG (X.blk s H scope (compEnvC scope cl C X.env) fp) tg (tG X.K E0 ow g)) (ht : ∀ (s : Shared) (H : Hp) (C : Addr) (cl : List (Str × Addr)) (fp : List Addr), PTs (X.blk s H scope (compEnvC scope cl C X.env) fp) ifs (tT X.K E0 mt))
    (he : ∀ (s : Shared) (H : Hp) (C : Addr) (cl : List (Str × Addr)) (fp : List Addr), PE (X.blk s H scope (compEnvC scope cl C X.env) fp) elt (tE X.K E0 me)) (hv : ∀ i ∈ ow, i ∈ own.map (·.2) := by decide) (hs : ∀ x, foldedSetIterable iter X.env x = pure x := by intro _; rfl) :
    PE X (.ListComp elt [⟨tg, iter, ifs, 0⟩] scope pos) (tE X.K E (mLc (own.map (·.2)) mi g mt me)) := (pe_lc hc hN hi ok hg ht he hs).imp fun _ _ _ h => t_lc (fun a b c d e f => fin0_ok a b c d e f) h hv
theorem se_lcM (hc : X.calm = true) (hN : X.N.Nodup) (hi : PI X tg iter (tI X.K E mi)) (ok : BlkOk X.N X.env.scope scope own)
    (hg : ∀ (s : Shared) (H : Hp) (C : Addr) (cl : List (Str × Addr)) (fp : List Addr), PG (X.blk s H scope (compEnvC scope cl C X.env) fp) tg (tG X.K E0 ow g)) (ht : ∀ (s : Shared) (H : Hp) (C : Addr) (cl : List (Str × Addr)) (fp : List Addr), PTs (X.blk s H scope (compEnvC scope cl C X.env) fp) ifs (tT X.K E0 mt))
    (he : ∀ (s : Shared) (H : Hp) (C : Addr) (cl : List (Str × Addr)) (fp : List Addr), PE (X.blk s H scope (compEnvC scope cl C X.env) fp) elt (tE X.K E0 me)) (hv : ∀ i ∈ ow, i ∈ own.map (·.2) := by decide) (hs : ∀ x, foldedSetIterable iter X.env x = pure x := by intro _; rfl) :
    PE X (.ListComp elt [⟨tg, iter, ifs, 0⟩] scope pos) (tE X.K E (mLcM (own.map (·.2)) mi g mt me)) := (pe_lc hc hN hi ok hg ht he hs).imp fun _ _ _ h => t_lc (fun a b c d e f => finM_ok a b c d e f) h hv
theorem s_lc {i : Nat} {y : Str} {py spos : Pos} {fin : List D → Store → R D} (hc : X.calm = true) (hN : X.N.Nodup) (hi : PI X tg iter (tI X.K E mi)) (ok : BlkOk X.N X.env.scope scope own)
    (hg : ∀ (s : Shared) (H : Hp) (C : Addr) (cl : List (Str × Addr)) (fp : List Addr), PG (X.blk s H scope (compEnvC scope cl C X.env) fp) tg (tG X.K E0 ow g)) (ht : ∀ (s : Shared) (H : Hp) (C : Addr) (cl : List (Str × Addr)) (fp : List Addr), PTs (X.blk s H scope (compEnvC scope cl C X.env) fp) ifs (tT X.K E0 mt))
    (he : ∀ (s : Shared) (H : Hp) (C : Addr) (cl : List (Str × Addr)) (fp : List Addr), PE (X.blk s H scope (compEnvC scope cl C X.env) fp) elt (tE X.K E0 me))
    (hfin : ∀ {Q : VK} {H1 F1 μ1 S1 H F μ S p ys vs}, Wd X.K H1 F1 μ1 S1 → H1 p = none → Ext H1 F1 μ1 S1 H F μ S → Wd X.K H F μ S → Aside H F μ p (.lst vs) → Reps X.K F μ ys vs → Done X.K E H1 F1 μ1 S1 (fin ys S) (fun d _ H' F' μ' => ∀ v, Rep X.K F' μ' d v → Q v H') → Q (.ref p) H)
    (hsw : swapsWith (.ListComp elt [⟨tg, iter, ifs, 0⟩] scope pos) (some (.Name y py)) spos.line X.env = pure true) (hy : X.N[i]? = some y := by rfl) (hyl : X.env.scope.names.lookup y = some .local := by rfl) (hv : ∀ i ∈ ow, i ∈ own.map (·.2) := by decide) (hs : ∀ x, foldedSetIterable iter X.env x = pure x := by intro _; rfl) :
    PS X (.Assign [.Name y py] (.ListComp elt [⟨tg, iter, ifs, 0⟩] scope pos) spos) (tS X.K E (mAsg (mLcF fin (own.map (·.2)) mi g mt me) (gN i))) :=
  (ps_setLc hc hN hy hyl hsw hi ok hg ht he hs).imp fun D τ H ⟨F, μ, σ, S, W, hs, h⟩ => by
    show tLc _ _ _ _ _ τ H (fun x H1 => D.nx (τ.set i (some x)) H1)
    refine t_lc (E := E) hfin ⟨F, μ, σ, S, W, hs, (h.split W).mono fun d S1 H1 F1 μ1 e1 W1 h1 v q => ?_⟩ hv
    exact h1.here W1 ((hs.ext e1).set q)
end
end MM

set_option Elab.async false
set_option linter.all false
set_option maxRecDepth 100000
/-! Defs and their calls. -/
namespace MM
open PySem PySem.Spec PyProof.Rows L2

def spM (K : PySem.W.Frag) (f : List D → Store → R D) : Sp := fun vs H Q E => ∃ F μ S ds, Wd K H F μ S ∧ Reps K F μ ds vs ∧ Done K E H F μ S (f ds S) (fun d _ H' F' μ' => ∀ v, Rep K F' μ' d v → Q v H')
/-- the def at f keeps to its mirror -/
structure FnM (P : Program) (w : World) (K : PySem.W.Frag) (mg : Str → Option Value) (base : Heap) (k : Nat) (f : Addr) (fd : FuncData) (ps : List Str) (mf : List D → Store → R D) : Prop where
  len : ∀ ds S, ds.length ≠ ps.length → mf ds S = .no
  run : ∀ (A : Around) (outer : List Env) (s : Shared) (H : Hp) (args : Args) (us : List Value) (vs : List V) (Q : VK) (E : XK), Room k A → A.guards = some [] → Env0 P w K mg base A outer s H → BindsTo s fd args (ps.zip us) → Vals vs us → spM K mf vs H Q E →
    codeAny (model P w) A (.call (.ref f) args) (CR (L2.CX P w) outer P w H s Q E) s
theorem FnM.mono {P w K mg base j k f fd ps mf} (F : FnM P w K mg base j f fd ps mf) (h : j ≤ k) : FnM P w K mg base k f fd ps mf := ⟨F.len, fun A outer s H args us vs Q E hr => F.run A outer s H args us vs Q E (hr.mono h)⟩
/-- a weaker mirror -/
theorem FnM.imp {P w K mg base k f fd ps mf mf'} (F : FnM P w K mg base k f fd ps mf) (hl : ∀ ds S, ds.length ≠ ps.length → mf' ds S = .no) (h : ∀ vs H Q E, spM K mf' vs H Q E → spM K mf vs H Q E) : FnM P w K mg base k f fd ps mf' :=
  ⟨hl, fun A outer s H args us vs Q E hr hg he hb hv hs => F.run A outer s H args us vs Q E hr hg he hb hv (h _ _ _ _ hs)⟩
theorem FnM.size {P w K mg base k f fd ps mf} (F : FnM P w K mg base k f fd ps mf) {vs H Q E} (h : spM K mf vs H Q E) : vs.length = ps.length := by
  obtain ⟨F1, μ, S, ds, W, r, h⟩ := h
  rw [← r.length]
  by_cases e : ds.length = ps.length
  · exact e
  · rw [F.len ds S e] at h; exact h.elim

def retO (o : O) : R D := match o with
  | .nx _ S => .ok .non S
  | .rt d S => .ok d S
  | .ex e S => .ex e S
  | _ => .no
def mDef (n N : Nat) (body : MS) : List D → Store → R D := fun ds S => if ds.length = n then retO (body (ds.map some ++ List.replicate (N - n) none) S) else .no
theorem mDef_len {n N : Nat} {body : MS} {ds : List D} {S : Store} (h : ds.length ≠ n) : mDef n N body ds S = .no := if_neg h

section
variable {P : Program} {w : World} {K : PySem.W.Frag} {mg : Str → Option Value} {base : Heap}
theorem sl_start {F : Hp} {μ : List Addr} {ds : List D} {vs : List V} {N : List Str} (r : Reps K F μ ds vs) (n : Nat) (hn : ds.length = n) : Sl K F μ (ds.map some ++ List.replicate (N.length - n) none) (L2.start N vs) := by
  refine ⟨by unfold L2.start; rw [← hn]; simp [r.length], fun i d h => ?_⟩
  by_cases hi : i < ds.length
  · rw [List.getElem?_append_left (by simpa using hi), List.getElem?_map] at h
    cases q : ds[i]? with
    | none => rw [q] at h; cases h
    | some d' =>
      rw [q] at h
      cases h
      obtain ⟨v, h1, h2⟩ := r.get q
      refine ⟨v, ?_, h2⟩
      unfold L2.start
      rw [List.getElem?_append_left (by simpa [← r.length] using hi), List.getElem?_map, h1]
      rfl
  · rw [List.getElem?_append_right (by simpa using hi), List.getElem?_replicate] at h
    split at h <;> cases h
theorem done_ret {E : XK} {H F : Hp} {μ : List Addr} {S : Store} {o : O} {Q : VK} (h : Done K E H F μ S (retO o) (fun d _ H' F' μ' => ∀ v, Rep K F' μ' d v → Q v H')) : DoneS K E H F μ S o { nx := fun _ H' => Q .non H', rt := Q } := by
  cases o with
  | nx σ S' => exact fun H' F' μ' τ e w _ => h H' F' μ' e w .non .non
  | rt d S' => exact fun H' F' μ' v e w r => h H' F' μ' e w v r
  | ex e S' => exact h
  | bk σ S' => exact h.elim
  | ct σ S' => exact h.elim
  | no => exact h
/-- THE RULE: a def by its body -/
theorem fnm_of {x qual : Str} {st : Stmt} {f : Addr} {fd : FuncData} {N ps : List Str} {k : Nat} {body : MS} (F : Fun K x qual st f fd) (S : FnScope N ps (defScope st))
    (hbody : ∀ (cdv : Value) (A : Around) (outer : List Env) (s : Shared) (H : Hp) (E : XK), Room k (A.deeper (envOfC qual (defScope st) s.heap.objs.size f cdv)) → (A.deeper (envOfC qual (defScope st) s.heap.objs.size f cdv)).guards = some [] →
      PSs (cxOf (L2.CX P w) P w K mg base N qual (defScope st) f cdv A outer s H E) (defBody st) (tS K E body)) : FnM P w K mg base (k + 1) f fd ps (mDef ps.length N.length body) := by
  obtain ⟨oc, od, kV, doc, pm, an, cdv, ct, osl, rfl, lk, hcd⟩ := F.ex
  refine ⟨fun ds S h => mDef_len h, fun A outer s H args us vs Q E hr hgd e0 hb r hsp => ?_⟩
  obtain ⟨Fz, μ, S0, ds, W, rd, h⟩ := hsp
  have hl : ds.length = ps.length := by
    by_cases e : ds.length = ps.length
    · exact e
    · rw [mDef_len e] at h; exact h.elim
  have hlv : vs.length = ps.length := by rw [← rd.length]; exact hl
  have KX : K.In s.heap := e0.mod.kin.keeps fun b o e => (e0.bs b o e).1
  have lim : s.heap.NoLimit := e0.mod.nolimit.keeps fun b o e => (e0.bs b o e).1
  have hkind : ∀ y ∈ ps.zip us, (defScope st).names.lookup y.1 = some .local ∨ ((defScope st).names.lookup y.1 = some .cell ∧ ((cellsFrom (s.heap.objs.size + 1) (defScope st).names []).lookup y.1).isSome = true) := fun ⟨n, v⟩ hy => by
    rcases S.par n (List.of_mem_zip hy).1 with q | q
    · exact .inl q
    · exact .inr ⟨q, PySem.W.cellsFrom_some _ _ _ (.inl q)⟩
  refine codeAny_call_function hr.depth (KX _ _ lk) rfl S.co S.gen rfl (PySem.W.codeRec_of KX hcd) (hb _ _ _ _ ?_)
  refine wpAny_newFunctionEnv_cells S.kind hkind fun env he s1 x => ?_
  subst he
  refine ⟨lim.keeps x.toInCall.keep, codeAny_func ?_⟩
  have ht := hbody cdv A outer s H E (hr.deeper _) hgd
  have hq : tS K E body { nx := fun _ H' => Q .non H', rt := Q } (L2.start N vs) H := by
    have h' : Done K E H Fz μ S0 (if ds.length = ps.length then retO (body (ds.map some ++ List.replicate (N.length - ps.length) none) S0) else .no) _ := h
    rw [if_pos hl] at h'
    exact ⟨Fz, μ, _, S0, W, sl_start rd _ hl, done_ret h'⟩
  have I : Inv (cxOf (L2.CX P w) P w K mg base N qual (defScope st) f cdv A outer s H E) [] (L2.start N vs) H s1 := inv_start S hr.hd e0 hlv r x
  refine wpAny_mono (ht.run [] s1 (L2.start N vs) H _ I hq) (fun fl s' hs => ?_) fun e s' hs => hs
  have fin : ∀ {σ' : L2.St} {H' : Hp} {v : V} {u : Value}, Inv (cxOf (L2.CX P w) P w K mg base N qual (defScope st) f cdv A outer s H E) [] σ' H' s' → RelV v u → Q v H' → CE outer P w H s Q u s' :=
    fun {σ' H' v u} J rv q => ⟨v, H', J.os, J.bare, J.base, J.hok, rv, q⟩
  cases fl with
  | ret u =>
    obtain ⟨v, σ', H', J, rv, q⟩ := hs
    exact fin J rv q
  | next =>
    obtain ⟨σ', H', J, q⟩ := hs
    exact fin (v := V.non) (u := Value.none) J rfl q
  | brk =>
    obtain ⟨_, _, _, q⟩ := hs
    exact False.elim q
  | cont =>
    obtain ⟨_, _, _, q⟩ := hs
    exact False.elim q
/-- no error leaves it -/
def mDefQ (n N : Nat) (body : MS) : List D → Store → R D := fun ds S => (mDef n N body ds S).quiet
theorem tS_quiet {E : XK} {body : MS} {D τ H} (h : tS K E (fun σ S => match body σ S with | .ex _ _ => .no | o => o) D τ H) : tS K E0 body D τ H := by
  obtain ⟨F, μ, σ, S, W, hs, h⟩ := h
  refine ⟨F, μ, σ, S, W, hs, ?_⟩
  dsimp only at h
  cases q : body σ S with
  | nx => rw [q] at h; exact h
  | rt => rw [q] at h; exact h
  | bk => rw [q] at h; exact h
  | ct => rw [q] at h; exact h
  | ex => rw [q] at h; exact h.elim
  | no => rw [q] at h; exact h
theorem fnm_nox {x qual : Str} {st : Stmt} {f : Addr} {fd : FuncData} {N ps : List Str} {k : Nat} {body : MS} (F : Fun K x qual st f fd) (S : FnScope N ps (defScope st))
    (hbody : ∀ (cdv : Value) (A : Around) (outer : List Env) (s : Shared) (H : Hp) (E : XK), Room k (A.deeper (envOfC qual (defScope st) s.heap.objs.size f cdv)) → (A.deeper (envOfC qual (defScope st) s.heap.objs.size f cdv)).guards = some [] →
      PSs (cxOf (L2.CX P w) P w K mg base N qual (defScope st) f cdv A outer s H E).nox (defBody st) (tS K E0 body)) : FnM P w K mg base (k + 1) f fd ps (mDefQ ps.length N.length body) := by
  refine (fnm_of (body := fun σ S => match body σ S with | .ex _ _ => .no | o => o) F S fun cdv A outer s H E hr hg => (hbody cdv A outer s H E hr hg).nox.imp fun D τ H h => tS_quiet h).imp (fun ds S h => by unfold mDefQ; rw [mDef_len h]; rfl) fun vs H Q E ⟨Fz, μ, S0, ds, W, rd, h⟩ => ⟨Fz, μ, S0, ds, W, rd, ?_⟩
  unfold mDefQ at h
  by_cases hl : ds.length = ps.length
  · unfold mDef at h ⊢
    rw [if_pos hl] at h ⊢
    dsimp only
    cases q : body (ds.map some ++ List.replicate (N.length - ps.length) none) S0 with
    | nx => rw [q] at h; exact h
    | rt => rw [q] at h; exact h
    | bk => rw [q] at h; exact h.elim
    | ct => rw [q] at h; exact h.elim
    | ex => rw [q] at h; exact h.elim
    | no => rw [q] at h; exact h.elim
  · rw [mDef_len hl] at h; exact h.elim
end

/-! ### how a call keeps a mirror from the caller's cells -/
mutual
def D.out (S : Store) : D → Option D
  | .ref l => match S[l]? with
    | some (.lst xs) => if pureAll xs then some (.lst xs) else none
    | some (.fz xs) => if pureAll xs then some (.lst xs) else none
    | _ => none
  | .tup xs => (outAll S xs).map .tup
  | .lst xs => (outAll S xs).map .lst
  | .scr xs => if pureAll xs then some (.scr xs) else none
  | .non => some .non
  | .bl b => some (.bl b)
  | .int i => some (.int i)
  | .str x => some (.str x)
def outAll (S : Store) : List D → Option (List D)
  | [] => some []
  | d :: ds => match d.out S, outAll S ds with
    | some e, some es => some (e :: es)
    | _, _ => none
end
/-- arguments without cells, a result without cells: the callee runs over a store of its own -/
def pureF (f : List D → Store → R D) : List D → Store → R D := fun ds S => if pureAll ds then (match f ds [] with
  | .ok d S1 => match d.out S1 with
    | some e => .ok e S
    | none => .no
  | .ex e _ => .ex e S
  | .no => .no) else .no
section
variable {K : PySem.W.Frag} {H F H1 F1 : Hp} {μ μ1 : List Addr} {S S1 : Store}
mutual
theorem out_pure : ∀ {d e : D}, d.out S = some e → e.pure = true
  | .ref l, e, h => by
    simp only [D.out] at h
    split at h
    · split at h
      · cases h; rename_i q; simpa [D.pure] using q
      · cases h
    · split at h
      · cases h; rename_i q; simpa [D.pure] using q
      · cases h
    · cases h
  | .tup xs, e, h => by
    simp only [D.out, Option.map_eq_some_iff] at h
    obtain ⟨ys, h1, rfl⟩ := h
    simpa [D.pure] using outAll_pure h1
  | .lst xs, e, h => by
    simp only [D.out, Option.map_eq_some_iff] at h
    obtain ⟨ys, h1, rfl⟩ := h
    simpa [D.pure] using outAll_pure h1
  | .scr xs, e, h => by
    simp only [D.out] at h
    split at h
    · cases h; rename_i q; simpa [D.pure] using q
    · cases h
  | .non, e, h => by cases h; rfl
  | .bl b, e, h => by cases h; rfl
  | .int b, e, h => by cases h; rfl
  | .str b, e, h => by cases h; rfl
theorem outAll_pure : ∀ {ds es : List D}, outAll S ds = some es → pureAll es = true
  | [], es, h => by cases h; rfl
  | d :: ds, es, h => by
    simp only [outAll] at h
    split at h
    · rename_i e es' h1 h2
      cases h
      rw [pureAll, out_pure h1, outAll_pure h2]
      rfl
    · cases h
end
/-- every list's cell frozen at once -/
def allF (H F : Hp) (μ : List Addr) : Hp := fun a => match F a with
  | some o => some o
  | none => if a ∈ μ then (match H a with
    | some (.lst vs) => some (.lst vs)
    | _ => none) else none
theorem allF_mono : ∀ a o, F a = some o → allF H F μ a = some o := fun a o h => by unfold allF; rw [h]
theorem allF_sub (hs : ∀ a o, F a = some o → H a = some o) : ∀ a o, allF H F μ a = some o → H a = some o := fun a o h => by
  unfold allF at h
  split at h
  · rename_i o' q; cases h; exact hs a _ q
  · split at h
    · split at h
      · rename_i vs q; cases h; exact q
      · cases h
    · cases h
mutual
theorem out_rep (W : Wd K H F μ S) : ∀ {d e : D} {v : V}, d.out S = some e → Rep K F μ d v → Rep K (allF H F μ) μ1 e v
  | .ref l, e, v, h, r => by
    cases r with
    | ref ha =>
      rename_i a
      simp only [D.out] at h
      split at h
      · rename_i xs q
        split at h
        · rename_i hp
          cases h
          obtain ⟨vs, h1, h2⟩ := W.cell l _ a q ha
          have hf : F a = none := W.out a ⟨l, _, ha, q, rfl⟩
          refine .lst ?_ (Reps.anyMu hp (h2.mono (F' := allF H F μ) (μ' := μ) allF_mono fun _ _ h => h))
          unfold allF
          rw [hf]
          dsimp only
          rw [if_pos (mem_of_ix ha), h1]
        · cases h
      · rename_i xs q
        split at h
        · rename_i hp
          cases h
          obtain ⟨vs, h1, h2⟩ := W.cell l _ a q ha
          exact .lst (allF_mono _ _ h1) (Reps.anyMu hp (h2.mono (F' := allF H F μ) (μ' := μ) allF_mono fun _ _ h => h))
        · cases h
      · cases h
  | .tup xs, e, v, h, r => by
    simp only [D.out, Option.map_eq_some_iff] at h
    obtain ⟨ys, h1, rfl⟩ := h
    cases r with
    | tup ha r => exact .tup (sqT_mono allF_mono ha) (outAll_rep W h1 r)
  | .lst xs, e, v, h, r => by
    simp only [D.out, Option.map_eq_some_iff] at h
    obtain ⟨ys, h1, rfl⟩ := h
    cases r with
    | lst ha r => exact .lst (allF_mono _ _ ha) (outAll_rep W h1 r)
  | .scr xs, e, v, h, r => by
    simp only [D.out] at h
    split at h
    · rename_i hp
      cases h
      cases r with
      | scr ha r => exact .scr (sqL_mono allF_mono ha) (Reps.anyMu hp (r.mono (F' := allF H F μ) (μ' := μ) allF_mono fun _ _ h => h))
    · cases h
  | .non, e, v, h, r => by cases h; cases r; exact .non
  | .bl b, e, v, h, r => by cases h; cases r; exact .bl b
  | .int b, e, v, h, r => by cases h; cases r; exact .int b
  | .str b, e, v, h, r => by cases h; cases r; exact .str b
theorem outAll_rep (W : Wd K H F μ S) : ∀ {ds es : List D} {vs : List V}, outAll S ds = some es → Reps K F μ ds vs → Reps K (allF H F μ) μ1 es vs
  | [], es, vs, h, r => by cases h; cases r; exact .nil
  | d :: ds, es, vs, h, r => by
    simp only [outAll] at h
    split at h
    · rename_i e es' h1 h2
      cases h
      cases r with
      | cons q r => exact .cons (out_rep W h1 q) (outAll_rep W h2 r)
    · cases h
end
theorem Wd.none (W : Wd K H F μ S) : Wd K H F [] [] := ⟨W.sub, rfl, List.nodup_nil, fun a ⟨l, c, h, _⟩ => by simp at h, fun l c a h _ => by simp at h⟩
/-- back from a callee over a store of its own -/
theorem back_pure (W : Wd K H F μ S) (e : Ext H F [] [] H1 F1 μ1 S1) (W1 : Wd K H1 F1 μ1 S1) : Ext H F μ S H1 (allF H1 F1 μ1) μ S ∧ Wd K H1 (allF H1 F1 μ1) μ S := by
  have fresh : ∀ a, allF H1 F1 μ1 a ≠ none → F a ≠ none ∨ H a = none := fun a h => by
    have h' := h
    unfold allF at h
    split at h
    · rename_i o q
      rcases e.fnew a (by rw [q]; simp) with z | z | z
      · exact .inl z
      · exact .inr z
      · cases z
    · split at h
      · rename_i q hm
        obtain ⟨l, hl⟩ := List.getElem?_of_mem hm
        rcases e.new l a hl with z | z
        · simp at z
        · exact .inr z
      · exact absurd rfl h
  have keep : ∀ a o, H a = some o → H1 a = some o := fun a o h => e.keep a o h fun ⟨l, c, h, _⟩ => by simp at h
  refine ⟨⟨fun a o h => allF_mono a o (e.fz a o h), fun _ _ h => h, fun a o h _ => keep a o h, e.dom, fun _ _ h => .inl h, fun a h => (fresh a h).imp id .inl, fun _ _ h => h, Nat.le_refl _⟩, ⟨allF_sub W1.sub, W.len, W.nd, fun a h => ?_, fun l c a h1 h2 => ?_⟩⟩
  · have hm : a ∈ μ := by obtain ⟨l, c, h1, _⟩ := h; exact mem_of_ix h1
    cases q : allF H1 F1 μ1 a with
    | none => rfl
    | some o =>
      rcases fresh a (by rw [q]; simp) with z | z
      · exact absurd (W.out a h) z
      · exact absurd z (W.there hm)
  · refine (W.cell l c a h1 h2).mono (fun a o h => allF_mono a o (e.fz a o h)) (fun _ _ h => h) fun _ => ?_
    cases q : H a with
    | none => exact absurd q (W.there (mem_of_ix h2))
    | some o => exact keep a o q
theorem RepEx.anyMu {e : Ex} {c : Value} {od : Option Addr} (h : RepEx K F μ e c od) : RepEx K F μ1 e c od := ⟨h.pure, h.cls, let ⟨dx, us, a, b, c⟩ := h.dict; ⟨dx, us, a, b, c.1, Reps.anyMu h.pure c.2⟩⟩
theorem RepEx.monoF {e : Ex} {c : Value} {od : Option Addr} (hF : ∀ a o, F a = some o → F1 a = some o) (h : RepEx K F μ e c od) : RepEx K F1 μ e c od := ⟨h.pure, h.cls, let ⟨dx, us, a, b, c⟩ := h.dict; ⟨dx, us, a, hF _ _ b, c.1, c.2.mono hF fun _ _ h => h⟩⟩
end
theorem FnM.pure {P w K mg base k f fd ps mf} (F : FnM P w K mg base k f fd ps mf) : FnM P w K mg base k f fd ps (pureF mf) := by
  refine F.imp (fun ds S h => ?_) fun vs H Q E ⟨Fz, μ, S, ds, W, rd, h⟩ => ?_
  · unfold pureF
    split
    · rw [F.len ds [] h]
    · rfl
  · unfold pureF at h
    by_cases hp : pureAll ds = true
    case neg => rw [if_neg hp] at h; exact h.elim
    rw [if_pos hp] at h
    refine ⟨Fz, [], [], ds, W.none, Reps.anyMu hp rd, ?_⟩
    cases q : mf ds [] with
    | no => rw [q] at h; exact h
    | ex e S1 =>
      rw [q] at h
      intro H1 F1 μ1 c od e1 W1 r1
      obtain ⟨e2, W2⟩ := back_pure W e1 W1
      exact h _ _ _ c od e2 W2 (r1.monoF allF_mono).anyMu
    | ok d S1 =>
      rw [q] at h
      dsimp only at h
      intro H1 F1 μ1 e1 W1 v r1
      cases qo : d.out S1 with
      | none => rw [qo] at h; exact h.elim
      | some d' =>
        rw [qo] at h
        obtain ⟨e2, W2⟩ := back_pure W e1 W1
        exact h _ _ _ e2 W2 v (out_rep W1 qo r1)

/-! ### the rules for calls -/
section
variable {X : Cx} {k : Nat} {f : Addr} {fd : FuncData} {ps : List Str} {mf : List D → Store → R D} {E : XK} {x : Str} {p pos : Pos} {e : Expr} {es : List Expr} {mas mks : MA} {ks : List Str} {kws : List Keyword} {g : List Value → List Value → List Value} {gV : List V → List V → List V} {gD : List D → List D → List D}
theorem runm_fn {args : Args} {pins : List (Addr × Obj)} {σ : L2.St} {H : Hp} {s : Shared} {Q : VK} {us : List Value} {vs : List V} (F : FnM X.prog X.w X.K X.mg X.base k f fd ps mf) (hr : Room k X.A) (hg : X.A.guards = some []) (hx : Passes (L2.CX X.prog X.w) X E)
    (I : Inv X pins σ H s) (hb : us.length = ps.length → BindsTo s fd args (ps.zip us)) (r : Vals vs us) (h : spM X.K mf vs H Q E) : wpAny (model X.prog X.w) X.A (call (.ref f) args.pos args.kw) (EP X pins σ Q) X.xe s := by
  have hl : us.length = ps.length := by rw [← r.length]; exact F.size h
  refine wpAny_call (codeAny_mono (F.run X.A X.stack s H args us vs Q E hr hg I.env0 (hb hl) r h) fun r s' hq => ?_)
  cases r with
  | error e => exact hx pins σ H s e s' I hq
  | ok fl =>
    cases fl with
    | ret u => exact I.after hq
    | next => exact False.elim hq
    | brk => exact False.elim hq
    | cont => exact False.elim hq
theorem se_call (F : FnM X.prog X.w X.K X.mg X.base k f fd ps mf) (hr : Room k X.A) (hgd : X.A.guards = some []) (hm : X.mg x = some (.ref f)) (hk : PySem.W.keepIn X.K (.ref f) = true) (hb : Binds X.K fd ps []) (hx : Passes (L2.CX X.prog X.w) X E)
    (ha : PA X (e :: es) (tA X.K E mas)) (hg : Gl X x := by rfl) (hdb : (x == ("__debug__" : Str)) = false := by decide) (he : starEach (e :: es) X.env = (false, eval e X.env) :: starEach es X.env := by rfl) (hpl : (backTo pos (starEach es X.env)).any (·.1) = false := by rfl) :
    PE X (.Call (.Name x p) (e :: es) [] pos) (tE X.K E (mN mf mas)) := by
  refine ⟨fun pins s σ H Q I h => ?_⟩
  obtain ⟨Fz, μ, σ', S, W, hs, h⟩ := h
  refine wpAny_Call_Name_kw (ld_glob I hg hm ?_ hdb)
  refine PySem.W.callWith_K (h₀ := X.base) I.ok.mod.kin hk (thn (ha.run pos pins s σ H _ I ⟨Fz, μ, σ', S, W, hs, (h.split W).mono fun xs S1 H1 F1 μ1 e1 W1 h1 vs q => (⟨F1, μ1, S1, xs, W1, q, h1⟩ : spM X.K mf vs H1 Q E)⟩) fun us s1 ⟨vs, H1, I1, r, q⟩ => ⟨I1.kIn, ?_⟩) he hpl
  exact runm_fn (args := ⟨us, []⟩) F hr hgd hx I1 (fun hl => by have := hb s1 us I1.kIn (by simpa using hl); simpa using this) r q
theorem se_call0 (F : FnM X.prog X.w X.K X.mg X.base k f fd ps mf) (hr : Room k X.A) (hgd : X.A.guards = some []) (hm : X.mg x = some (.ref f)) (hk : PySem.W.keepIn X.K (.ref f) = true) (hb : Binds X.K fd ps []) (hx : Passes (L2.CX X.prog X.w) X E)
    (hg : Gl X x := by rfl) (hdb : (x == ("__debug__" : Str)) = false := by decide) : PE X (.Call (.Name x p) [] [] pos) (tE X.K E (mN mf mNil)) := by
  refine ⟨fun pins s σ H Q I h => ?_⟩
  obtain ⟨Fz, μ, σ', S, W, hs, h⟩ := h
  refine wpAny_Call_Name_kw (ld_glob I hg hm ?_ hdb)
  exact PySem.W.callWith_K0 I.kIn hk (runm_fn (args := ⟨[], []⟩) (us := []) F hr hgd hx I (fun hl => by have := hb s [] I.kIn (by simpa using hl); simpa using this) .nil ⟨Fz, μ, S, [], W, .nil, h⟩)
/-- how keywords are bound, over data too -/
structure KB (K : PySem.W.Frag) (fd : FuncData) (ps : List Str) (n : Nat) (ks : List Str) (g : List Value → List Value → List Value) (gV : List V → List V → List V) (gD : List D → List D → List D) : Prop where
  to : ∀ (s : Shared) (us ws : List Value), K.In s.heap → us.length = n → ws.length = ks.length → BindsTo s fd ⟨us, ks.zip ws⟩ (ps.zip (g us ws))
  rel : ∀ {vs : List V} {us : List Value} {zs : List V} {ws : List Value}, Vals vs us → Vals zs ws → Vals (gV vs zs) (g us ws)
  rep : ∀ {F : Hp} {μ : List Addr} {ds : List D} {vs : List V} {es : List D} {zs : List V}, Reps K F μ ds vs → Reps K F μ es zs → Reps K F μ (gD ds es) (gV vs zs)
def mNK (n k : Nat) (f : List D → Store → R D) (gD : List D → List D → List D) (as ks : MA) : ME := fun σ S => (as σ S).bind fun xs S1 => (ks σ S1).bind fun ys S2 => if xs.length = n ∧ ys.length = k then f (gD xs ys) S2 else .no
theorem se_callK {n : Nat} (F : FnM X.prog X.w X.K X.mg X.base k f fd ps mf) (hr : Room k X.A) (hgd : X.A.guards = some []) (hm : X.mg x = some (.ref f)) (hk : PySem.W.keepIn X.K (.ref f) = true) (hb : KB X.K fd ps n ks g gV gD) (hx : Passes (L2.CX X.prog X.w) X E)
    (ha : PA X (e :: es) (tA X.K E mas)) (hkw : PK X kws (tA X.K E mks)) (hall : (backToKw pos (keywordEach kws X.env)).all (·.1.isSome) = true := by rfl) (hks : (backToKw pos (keywordEach kws X.env)).filterMap (·.1) = ks := by rfl)
    (hg : Gl X x := by rfl) (hdb : (x == ("__debug__" : Str)) = false := by decide) (he : starEach (e :: es) X.env = (false, eval e X.env) :: starEach es X.env := by rfl)
    (hpl : ((backTo pos (starEach (e :: es) X.env)).any (·.1) || (backToKw pos (keywordEach kws X.env)).any (·.1.isNone)) = false := by rfl) :
    PE X (.Call (.Name x p) (e :: es) kws pos) (tE X.K E (mNK n ks.length mf gD mas mks)) := by
  refine ⟨fun pins s σ H Q I h => ?_⟩
  obtain ⟨Fz, μ, σ', S, W, hs, h⟩ := h
  refine wpAny_Call_Name_kw (ld_glob I hg hm ?_ hdb)
  refine PySem.W.callWith_KW (h₀ := X.base) I.ok.mod.kin hk hall (thn (ha.run pos pins s σ H (fun vs H1 => tA X.K E mks σ H1 fun zs H2 => vs.length = n ∧ zs.length = ks.length ∧ spM X.K mf (gV vs zs) H2 Q E) I ⟨Fz, μ, σ', S, W, hs, (h.split W).mono fun xs S1 H1 F1 μ1 e1 W1 h1 vs q => ⟨F1, μ1, σ', S1, W1, hs.ext e1, (h1.split W1).mono fun ys S2 H2 F2 μ2 e2 W2 h2 zs q2 => ?_⟩⟩) fun us s1 ⟨vs, H1, I1, r, q⟩ => ?_) hpl he
  · by_cases hc : xs.length = n ∧ ys.length = ks.length
    · rw [if_pos hc] at h2
      exact ⟨by rw [← q.length]; exact hc.1, by rw [← q2.length]; exact hc.2, F2, μ2, S2, _, W2, hb.rep (q.ext e2) q2, h2⟩
    · rw [if_neg hc] at h2; exact h2.elim
  · refine thn (hkw.run pos pins s1 σ H1 _ I1 q) fun ws s2 ⟨zs, H2, I2, rz, hl1, hl2, q2⟩ => ⟨I2.kIn, ?_⟩
    rw [hks]
    exact runm_fn (args := ⟨us, ks.zip ws⟩) F hr hgd hx I2 (fun _ => hb.to s2 us ws I2.kIn (by rw [← r.length]; exact hl1) (by rw [← rz.length]; exact hl2)) (hb.rel r rz) q2
/-- keywords alone -/
theorem se_callK0 (F : FnM X.prog X.w X.K X.mg X.base k f fd ps mf) (hr : Room k X.A) (hgd : X.A.guards = some []) (hm : X.mg x = some (.ref f)) (hk : PySem.W.keepIn X.K (.ref f) = true) (hb : KB X.K fd ps 0 ks g gV gD) (hx : Passes (L2.CX X.prog X.w) X E)
    (hkw : PK X kws (tA X.K E mks)) (hall : (backToKw pos (keywordEach kws X.env)).all (·.1.isSome) = true := by rfl) (hks : (backToKw pos (keywordEach kws X.env)).filterMap (·.1) = ks := by rfl)
    (hg : Gl X x := by rfl) (hdb : (x == ("__debug__" : Str)) = false := by decide)
    (hpl : ((backTo pos (starEach [] X.env)).any (·.1) || (backToKw pos (keywordEach kws X.env)).any (·.1.isNone)) = false := by rfl) :
    PE X (.Call (.Name x p) [] kws pos) (tE X.K E (mNK 0 ks.length mf gD mNil mks)) := by
  refine ⟨fun pins s σ H Q I h => ?_⟩
  obtain ⟨Fz, μ, σ', S, W, hs, h⟩ := h
  have h : Done X.K E H Fz μ S ((mks σ' S).bind fun ys S2 => if ([] : List D).length = 0 ∧ ys.length = ks.length then mf (gD [] ys) S2 else .no) (fun d _ H' F' μ' => ∀ v, Rep X.K F' μ' d v → Q v H') := h
  refine wpAny_Call_Name_kw (ld_glob I hg hm ?_ hdb)
  refine PySem.W.callWith_KW0 (h₀ := X.base) I.ok.mod.kin hk hall (thn (hkw.run pos pins s σ H (fun zs H2 => zs.length = ks.length ∧ spM X.K mf (gV [] zs) H2 Q E) I ⟨Fz, μ, σ', S, W, hs, (Done.split W h).mono fun ys S2 H2 F2 μ2 e2 W2 h2 zs q2 => ?_⟩) fun ws s2 ⟨zs, H2, I2, rz, hl2, q2⟩ => ⟨I2.kIn, ?_⟩) hpl
  · by_cases hc : ([] : List D).length = 0 ∧ ys.length = ks.length
    · rw [if_pos hc] at h2
      exact ⟨by rw [← q2.length]; exact hc.2, F2, μ2, S2, _, W2, hb.rep .nil q2, h2⟩
    · rw [if_neg hc] at h2; exact h2.elim
  · rw [hks]
    exact runm_fn (args := ⟨[], ks.zip ws⟩) F hr hgd hx I2 (fun _ => hb.to s2 [] ws I2.kIn rfl (by rw [← rz.length]; exact hl2)) (hb.rel .nil rz) q2
end
end MM

set_option Elab.async false
set_option linter.all false
set_option maxRecDepth 100000
/-! Operators by values. -/
namespace MM
open PySem PySem.Spec PyProof.Rows L2

def lim (n : Nat) : Bool := decide (n ≤ 1000000)
theorem lim_le {n : Nat} (h : lim n = true) : n ≤ sizeLine := lim_ok (of_decide_eq_true h)
/-- a list's items, read -/
def rdL (S : Store) (d : D) : Option (List D) := match d with
  | .lst xs => some xs
  | .ref l => match S[l]? with
    | some (.lst xs) => some xs
    | some (.fz xs) => some xs
    | _ => none
  | _ => none
/-- a list's or a tuple's items, read -/
def rdS (S : Store) (d : D) : Option (List D) := match d with
  | .tup xs => some xs
  | .scr xs => some xs
  | d => rdL S d
def newL (m : Bool) (xs : List D) (S : Store) : R D := if m then .ok (.ref S.length) (S ++ [.lst xs]) else .ok (.lst xs) S
section
variable {K : PySem.W.Frag} {E : XK} {H F : Hp} {μ : List Addr} {S : Store} {d : D} {v : V} {xs : List D}
theorem rdL_ok (W : Wd K H F μ S) (r : Rep K F μ d v) (h : rdL S d = some xs) : ∃ a vs, v = .ref a ∧ H a = some (.lst vs) ∧ Reps K F μ xs vs := by
  cases r with
  | lst ha r => cases h; exact ⟨_, _, rfl, W.sub _ _ ha, r⟩
  | ref ha =>
    rename_i l a
    simp only [rdL] at h
    split at h
    · rename_i ys q
      cases h
      obtain ⟨vs, h1, h2⟩ := W.cell l _ a q ha
      exact ⟨a, vs, rfl, h1, h2⟩
    · rename_i ys q
      cases h
      obtain ⟨vs, h1, h2⟩ := W.cell l _ a q ha
      exact ⟨a, vs, rfl, W.sub _ _ h1, h2⟩
    · cases h
  | _ => cases h
theorem rdS_ok (W : Wd K H F μ S) (r : Rep K F μ d v) (h : rdS S d = some xs) : ∃ a vs, v = .ref a ∧ (SqL K H a vs ∨ SqT K H a vs) ∧ Reps K F μ xs vs := by
  cases r with
  | tup ha r => cases h; exact ⟨_, _, rfl, .inr (sqT_mono W.sub ha), r⟩
  | scr ha r => cases h; exact ⟨_, _, rfl, .inl (sqL_mono W.sub ha), r⟩
  | lst ha r => cases h; exact ⟨_, _, rfl, .inl (SqL.of (W.sub _ _ ha)), r⟩
  | ref ha =>
    obtain ⟨a, vs, h1, h2, h3⟩ := rdL_ok W (.ref ha) (show rdL S (.ref _) = some xs from h)
    exact ⟨a, vs, h1, .inl (SqL.of h2), h3⟩
  | _ => cases h
theorem newL_ok {m : Bool} {vs : List V} {P : D → Store → Hp → Hp → List Addr → Prop} (W : Wd K H F μ S) (q : Reps K F μ xs vs) (h : Done K E H F μ S (newL m xs S) P) {p : Addr} (hp : H p = none) :
    ∃ F' μ' d' S', P d' S' (upd H p (.lst vs)) F' μ' ∧ Rep K F' μ' d' (.ref p) := by
  cases m with
  | true =>
    obtain ⟨h1, h2⟩ := new_cell W q (show Done K E H F μ S (.ok (.ref S.length) (S ++ [.lst xs])) P from h) hp
    exact ⟨_, _, _, _, h1, h2⟩
  | false =>
    obtain ⟨_, _, h1⟩ := Done.newF (d := .lst xs) W h (o := .lst vs) hp
    exact ⟨_, _, _, _, h1, rep_newL q (W.fnone hp)⟩
end
/-- the first that answers -/
def R.or {α : Type} (r r' : R α) : R α := match r with
  | .no => r'
  | r => r
theorem Done.or {α : Type} {K : PySem.W.Frag} {E : XK} {H F : Hp} {μ : List Addr} {S : Store} {r r' : R α} {P : α → Store → Hp → Hp → List Addr → Prop} (h : Done K E H F μ S (r.or r') P) : Done K E H F μ S r P ∨ Done K E H F μ S r' P := by
  cases r with
  | ok a S' => exact .inl h
  | ex e S' => exact .inl h
  | no => exact .inr h
def or2 (f g : D → D → Store → R D) : D → D → Store → R D := fun x y S => (f x y S).or (g x y S)
def or1 (f g : D → Store → R D) : D → Store → R D := fun x S => (f x S).or (g x S)
def orN (f g : List D → Store → R D) : List D → Store → R D := fun x S => (f x S).or (g x S)
section
variable {X : Cx} {E : XK}
theorem r2_or {K : PySem.W.Frag} {f g : D → D → Store → R D} {x y H Q} (h : r2 K E (or2 f g) x y H Q) : r2 K E f x y H Q ∨ r2 K E g x y H Q := by
  obtain ⟨F, μ, S, d, e, W, r, q, h⟩ := h
  rcases Done.or h with h | h
  · exact .inl ⟨F, μ, S, d, e, W, r, q, h⟩
  · exact .inr ⟨F, μ, S, d, e, W, r, q, h⟩
theorem od_or {op : Value → Value → Sem Value} {f g : D → D → Store → R D} (h1 : OpR X op (r2 X.K E f)) (h2 : OpR X op (r2 X.K E g)) : OpR X op (r2 X.K E (or2 f g)) := (h1.or h2).imp fun _ _ _ _ => r2_or
theorem ix_or {f g : D → D → Store → R D} (h1 : IxR X (r2 X.K E f)) (h2 : IxR X (r2 X.K E g)) : IxR X (r2 X.K E (or2 f g)) := (h1.or h2).imp fun _ _ _ _ => r2_or
theorem cd_or {f : Value} {g k : List D → Store → R D} (h1 : CallR X f (rN X.K E g)) (h2 : CallR X f (rN X.K E k)) : CallR X f (rN X.K E (orN g k)) := (h1.or h2).imp fun xs H Q ⟨F, μ, S, ds, W, r, h⟩ => by
  rcases Done.or h with h | h
  · exact .inl ⟨F, μ, S, ds, W, r, h⟩
  · exact .inr ⟨F, μ, S, ds, W, r, h⟩
end
/-! ### arithmetic -/
def onII (f : Int → Int → Store → R D) (x y : D) (S : Store) : R D := match x, y with
  | .int i, .int j => f i j S
  | _, _ => .no
def onSS (f : Str → Str → Store → R D) (x y : D) (S : Store) : R D := match x, y with
  | .str i, .str j => f i j S
  | _, _ => .no
def onTT (f : List D → List D → Store → R D) (x y : D) (S : Store) : R D := match x, y with
  | .tup i, .tup j => f i j S
  | _, _ => .no
def onLL (f : List D → List D → Store → R D) (x y : D) (S : Store) : R D := match rdL S x, rdL S y with
  | some i, some j => f i j S
  | _, _ => .no
def onLI (f : List D → Int → Store → R D) (x y : D) (S : Store) : R D := match rdL S x, y with
  | some i, .int j => f i j S
  | _, _ => .no
def need {α : Type} (b : Bool) (r : R α) : R α := if b then r else .no
theorem Done.need {α : Type} {K : PySem.W.Frag} {E : XK} {H F : Hp} {μ : List Addr} {S : Store} {b : Bool} {r : R α} {P : α → Store → Hp → Hp → List Addr → Prop} (h : Done K E H F μ S (MM.need b r) P) : b = true ∧ Done K E H F μ S r P := by
  cases b with
  | true => exact ⟨rfl, h⟩
  | false => exact h.elim
section
variable {X : Cx} {E : XK} {op : Value → Value → Sem Value}
abbrev PV (K : PySem.W.Frag) (Q : VK) : D → Store → Hp → Hp → List Addr → Prop := fun d _ H' F' μ' => ∀ v, Rep K F' μ' d v → Q v H'
theorem od_II {f : Int → Int → Store → R D} {r : R2} (h : OpR X op r) (hi : ∀ i j H F μ S Q, Wd X.K H F μ S → Done X.K E H F μ S (f i j S) (PV X.K Q) → r (.int i) (.int j) H Q) : OpR X op (r2 X.K E (onII f)) := h.imp fun x y H Q ⟨F, μ, S, d, e, W, rd, re, h⟩ => by
  cases rd with
  | int i =>
    cases re with
    | int j => exact hi i j H F μ S Q W h
    | _ => exact h.elim
  | _ => exact h.elim
theorem od_SS {f : Str → Str → Store → R D} {r : R2} (h : OpR X op r) (hi : ∀ i j H F μ S Q, Wd X.K H F μ S → Done X.K E H F μ S (f i j S) (PV X.K Q) → r (.str i) (.str j) H Q) : OpR X op (r2 X.K E (onSS f)) := h.imp fun x y H Q ⟨F, μ, S, d, e, W, rd, re, h⟩ => by
  cases rd with
  | str i =>
    cases re with
    | str j => exact hi i j H F μ S Q W h
    | _ => exact h.elim
  | _ => exact h.elim
theorem od_TT {f : List D → List D → Store → R D} {r : R2} (h : OpR X op r) (hi : ∀ xs ys a b vs us H F μ S Q, Wd X.K H F μ S → SqT X.K F a vs → Reps X.K F μ xs vs → SqT X.K F b us → Reps X.K F μ ys us → Done X.K E H F μ S (f xs ys S) (PV X.K Q) → r (.ref a) (.ref b) H Q) : OpR X op (r2 X.K E (onTT f)) := h.imp fun x y H Q ⟨F, μ, S, d, e, W, rd, re, h⟩ => by
  cases rd with
  | tup ha ra =>
    cases re with
    | tup hb rb => exact hi _ _ _ _ _ _ H F μ S Q W ha ra hb rb h
    | _ => exact h.elim
  | _ => exact h.elim
theorem od_LL {f : List D → List D → Store → R D} {r : R2} (h : OpR X op r) (hi : ∀ xs ys a b vs us H F μ S Q, Wd X.K H F μ S → H a = some (.lst vs) → Reps X.K F μ xs vs → H b = some (.lst us) → Reps X.K F μ ys us → Done X.K E H F μ S (f xs ys S) (PV X.K Q) → r (.ref a) (.ref b) H Q) : OpR X op (r2 X.K E (onLL f)) := h.imp fun x y H Q ⟨F, μ, S, d, e, W, rd, re, h⟩ => by
  unfold onLL at h
  cases hd : rdL S d with
  | none => rw [hd] at h; exact h.elim
  | some xs =>
    cases he : rdL S e with
    | none => rw [hd, he] at h; exact h.elim
    | some ys =>
      rw [hd, he] at h
      obtain ⟨a, vs, rfl, ha, ra⟩ := rdL_ok W rd hd
      obtain ⟨b, us, rfl, hb, rb⟩ := rdL_ok W re he
      exact hi xs ys a b vs us H F μ S Q W ha ra hb rb h
theorem od_LI {f : List D → Int → Store → R D} {r : R2} (h : OpR X op r) (hi : ∀ xs j a vs H F μ S Q, Wd X.K H F μ S → H a = some (.lst vs) → Reps X.K F μ xs vs → Done X.K E H F μ S (f xs j S) (PV X.K Q) → r (.ref a) (.int j) H Q) : OpR X op (r2 X.K E (onLI f)) := h.imp fun x y H Q ⟨F, μ, S, d, e, W, rd, re, h⟩ => by
  unfold onLI at h
  cases hd : rdL S d with
  | none => rw [hd] at h; exact h.elim
  | some xs =>
    rw [hd] at h
    obtain ⟨a, vs, rfl, ha, ra⟩ := rdL_ok W rd hd
    cases re with
    | int j => exact hi xs j a vs H F μ S Q W ha ra h
    | _ => exact h.elim
def b64 (i : Int) : Bool := decide (-(2 ^ 64) < i) && decide (i < 2 ^ 64)
theorem b64_ok {i : Int} (h : b64 i = true) : -(2 ^ 64) < i ∧ i < 2 ^ 64 := by simpa [b64] using h
def addI := onII fun i j S => .ok (.int (i + j)) S
def addS := onSS fun i j S => MM.need (lim (i.length + j.length)) (.ok (.str (i ++ j)) S)
def addT := onTT fun xs ys S => MM.need (lim (xs.length + ys.length)) (.ok (.tup (xs ++ ys)) S)
def addL (m : Bool) := onLL fun xs ys S => MM.need (lim (xs.length + ys.length)) (newL m (xs ++ ys) S)
def dAdd (m : Bool) := or2 addI (or2 addS (or2 addT (addL m)))
theorem od_addI : OpR X (binaryOp .Add) (r2 X.K E addI) := od_II op_add fun i j H F μ S Q W h => ⟨i, j, rfl, rfl, h.here W _ (.int _)⟩
theorem od_addS : OpR X (binaryOp .Add) (r2 X.K E addS) := od_SS op_add_str fun i j H F μ S Q W h => let ⟨hb, h⟩ := h.need; ⟨i, j, rfl, rfl, lim_le hb, h.here W _ (.str _)⟩
theorem od_addT : OpR X (binaryOp .Add) (r2 X.K E addT) := od_TT op_catA fun xs ys a b vs us H F μ S Q W ha ra hb rb h => by
  obtain ⟨hz, h⟩ := Done.need h
  refine ⟨a, b, vs, us, rfl, rfl, sqT_mono W.sub ha, sqT_mono W.sub hb, by rw [← ra.length, ← rb.length]; exact lim_le hz, fun e => ?_, fun n e => ?_, fun n1 n2 p hp => ?_⟩
  · subst e
    cases ra
    exact h.here W _ (.tup hb rb)
  · subst e
    cases rb
    rw [List.append_nil] at h
    exact h.here W _ (.tup ha ra)
  · obtain ⟨_, _, h1⟩ := Done.newF W h (o := .tup (vs ++ us)) hp
    exact h1 _ (rep_newT (ra.append rb) (W.fnone hp))
theorem od_addL {m : Bool} : OpR X (binaryOp .Add) (r2 X.K E (addL m)) := od_LL op_cat fun xs ys a b vs us H F μ S Q W ha ra hb rb h => by
  obtain ⟨hz, h⟩ := Done.need h
  refine ⟨a, b, vs, us, rfl, rfl, ha, hb, by rw [← ra.length, ← rb.length]; exact lim_le hz, fun p hp => ?_⟩
  obtain ⟨_, _, _, _, h1, h2⟩ := newL_ok W (ra.append rb) h hp
  exact h1 _ h2
theorem od_add {m : Bool} : OpR X (binaryOp .Add) (r2 X.K E (dAdd m)) := od_or od_addI (od_or od_addS (od_or od_addT od_addL))
def dSub := onII fun i j S => .ok (.int (i - j)) S
theorem od_sub : OpR X (binaryOp .Sub) (r2 X.K E dSub) := od_II op_sub fun i j H F μ S Q W h => ⟨i, j, rfl, rfl, h.here W _ (.int _)⟩
def mulI := onII fun i j S => MM.need (b64 i || b64 j) (.ok (.int (i * j)) S)
def mulL (m : Bool) := onLI fun xs k S => MM.need (decide (-1000000 ≤ k) && decide (k ≤ 1000000) && lim (xs.length * k.toNat)) (newL m (List.replicate k.toNat xs).flatten S)
def dMul (m : Bool) := or2 mulI (mulL m)
theorem od_mulI : OpR X (binaryOp .Mult) (r2 X.K E mulI) := od_II op_mul fun i j H F μ S Q W h => by
  obtain ⟨hb, h⟩ := h.need
  refine ⟨i, j, rfl, rfl, ?_, h.here W _ (.int _)⟩
  rcases Bool.or_eq_true_iff.mp hb with z | z
  · exact .inl (b64_ok z)
  · exact .inr (b64_ok z)
theorem od_mulL {m : Bool} : OpR X (binaryOp .Mult) (r2 X.K E (mulL m)) := od_LI op_rep fun xs k a vs H F μ S Q W ha ra h => by
  obtain ⟨hb, h⟩ := Done.need h
  simp only [Bool.and_eq_true, decide_eq_true_eq] at hb
  refine ⟨a, k, vs, rfl, rfl, ha, by omega, by omega, by rw [← ra.length]; exact lim_le hb.2, fun p hp => ?_⟩
  obtain ⟨_, _, _, _, h1, h2⟩ := newL_ok W (ra.rep k.toNat) h hp
  exact h1 _ h2
theorem od_mul {m : Bool} : OpR X (binaryOp .Mult) (r2 X.K E (dMul m)) := od_or od_mulI od_mulL
def dDiv := onII fun i j S => MM.need (decide (j ≠ 0) && decide (j.natAbs < 1073741824)) (.ok (.int (i.fdiv j)) S)
theorem od_div : OpR X (binaryOp .FloorDiv) (r2 X.K E dDiv) := od_II op_fdivN fun i j H F μ S Q W h => by
  obtain ⟨hb, h⟩ := h.need
  simp only [Bool.and_eq_true, decide_eq_true_eq] at hb
  exact ⟨i, j, rfl, rfl, ⟨hb.1, hb.2⟩, h.here W _ (.int _)⟩
def dMod := onII fun i j S => MM.need (decide (j ≠ 0)) (.ok (.int (i.fmod j)) S)
theorem od_mod : OpR X (binaryOp .Mod) (r2 X.K E dMod) := od_II op_modN fun i j H F μ S Q W h => by
  obtain ⟨hb, h⟩ := h.need
  exact ⟨i, j, rfl, rfl, of_decide_eq_true hb, h.here W _ (.int _)⟩
def dPow := onII fun i j S => MM.need (decide (0 ≤ j) && decide (j ≤ 10000) && decide (i.natAbs < 2 ^ 64)) (.ok (.int (i ^ j.toNat)) S)
theorem od_pow : OpR X (binaryOp .Pow) (r2 X.K E dPow) := od_II op_pow fun i j H F μ S Q W h => by
  obtain ⟨hb, h⟩ := h.need
  simp only [Bool.and_eq_true, decide_eq_true_eq] at hb
  exact ⟨i, j, rfl, rfl, ⟨hb.1.1, by omega, hb.2⟩, h.here W _ (.int _)⟩
def dNeg (x : D) (S : Store) : R D := match x with
  | .int i => .ok (.int (-i)) S
  | _ => .no
theorem ud_neg : UnR X (unaryOp .USub) (r1 X.K E dNeg) := (un_neg).imp fun x H Q ⟨F, μ, S, d, W, r, h⟩ => by
  cases r with
  | int i => exact ⟨i, rfl, h.here W _ (.int _)⟩
  | _ => exact h.elim
/-! ### comparisons -/
def dCmp (p : Int → Int → Bool) := onII fun i j S => .ok (.bl (p i j)) S
def dLt := dCmp fun i j => decide (i < j)
def dLe := dCmp fun i j => decide (i ≤ j)
def dGt := dCmp fun i j => decide (j < i)
def dGe := dCmp fun i j => decide (j ≤ i)
theorem od_lt : OpR X (compareOp .Lt) (r2 X.K E dLt) := od_II op_lt fun i j H F μ S Q W h => ⟨i, j, rfl, rfl, h.here W _ (.bl _)⟩
theorem od_le : OpR X (compareOp .LtE) (r2 X.K E dLe) := od_II op_le fun i j H F μ S Q W h => ⟨i, j, rfl, rfl, h.here W _ (.bl _)⟩
theorem od_gt : OpR X (compareOp .Gt) (r2 X.K E dGt) := od_II op_gt fun i j H F μ S Q W h => ⟨i, j, rfl, rfl, h.here W _ (.bl _)⟩
theorem od_ge : OpR X (compareOp .GtE) (r2 X.K E dGe) := od_II op_ge fun i j H F μ S Q W h => ⟨i, j, rfl, rfl, h.here W _ (.bl _)⟩
end
/-! == of data -/
mutual
def D.pd : D → PyData
  | .non => .none
  | .bl b => .bool b
  | .int i => .int i
  | .str x => .str x
  | .tup xs => .tuple (pdAll xs)
  | .lst xs => .list (pdAll xs)
  | .scr xs => .list (pdAll xs)
  | .ref _ => .none
def pdAll : List D → List PyData
  | [] => []
  | x :: xs => x.pd :: pdAll xs
end
mutual
def eqD : D → D → Bool
  | .non, .non => true
  | .bl a, .bl b => a == b
  | .bl a, .int j => (if a then 1 else 0) == j
  | .int i, .bl b => i == (if b then 1 else 0)
  | .int i, .int j => i == j
  | .str x, .str y => x == y
  | .lst xs, .lst ys => eqAll xs ys
  | .lst xs, .scr ys => eqAll xs ys
  | .scr xs, .lst ys => eqAll xs ys
  | .scr xs, .scr ys => eqAll xs ys
  | .tup xs, .tup ys => eqAll xs ys
  | _, _ => false
def eqAll : List D → List D → Bool
  | [], [] => true
  | x :: xs, y :: ys => eqD x y && eqAll xs ys
  | _, _ => false
end
/-! no cells, at most n deep -/
mutual
def D.shal : Nat → D → Bool
  | n + 1, .tup xs => shalAll n xs
  | n + 1, .lst xs => shalAll n xs
  | n + 1, .scr xs => shalAll n xs
  | _, .non => true
  | _, .bl _ => true
  | _, .int _ => true
  | _, .str x => PyData.strOk x
  | _, _ => false
def shalAll : Nat → List D → Bool
  | _, [] => true
  | n, x :: xs => x.shal n && shalAll n xs
end
mutual
theorem eqD_eqv : ∀ {x y : D}, x.pure = true → y.pure = true → PyData.eqv x.pd y.pd = eqD x y
  | .non, y, p, q => by cases y <;> first | rfl | (simp [D.pure] at q; done)
  | .bl a, y, p, q => by cases y <;> first | rfl | (simp [D.pure] at q; done)
  | .int a, y, p, q => by cases y <;> first | rfl | (simp [D.pure] at q; done)
  | .str a, y, p, q => by cases y <;> first | rfl | (simp [D.pure] at q; done)
  | .tup xs, y, p, q => by
    cases y with
    | tup ys => exact eqAll_eqv (by simpa [D.pure] using p) (by simpa [D.pure] using q)
    | _ => first | rfl | (simp [D.pure] at q; done)
  | .lst xs, y, p, q => by
    cases y with
    | lst ys => exact eqAll_eqv (by simpa [D.pure] using p) (by simpa [D.pure] using q)
    | scr ys => exact eqAll_eqv (by simpa [D.pure] using p) (by simpa [D.pure] using q)
    | _ => first | rfl | (simp [D.pure] at q; done)
  | .scr xs, y, p, q => by
    cases y with
    | lst ys => exact eqAll_eqv (by simpa [D.pure] using p) (by simpa [D.pure] using q)
    | scr ys => exact eqAll_eqv (by simpa [D.pure] using p) (by simpa [D.pure] using q)
    | _ => first | rfl | (simp [D.pure] at q; done)
  | .ref l, y, p, q => by simp [D.pure] at p
theorem eqAll_eqv : ∀ {xs ys : List D}, pureAll xs = true → pureAll ys = true → PyData.eqvAll (pdAll xs) (pdAll ys) = eqAll xs ys
  | [], [], _, _ => rfl
  | [], _ :: _, _, _ => rfl
  | _ :: _, [], _, _ => rfl
  | x :: xs, y :: ys, p, q => by
    rw [pureAll, Bool.and_eq_true] at p q
    show (PyData.eqv x.pd y.pd && PyData.eqvAll (pdAll xs) (pdAll ys)) = (eqD x y && eqAll xs ys)
    rw [eqD_eqv p.1 q.1, eqAll_eqv p.2 q.2]
end
mutual
theorem shal_ok : ∀ {n : Nat} {x : D}, x.shal n = true → x.pure = true ∧ x.pd.canLay0 = true ∧ x.pd.depth ≤ n
  | n, .non, h => ⟨rfl, rfl, Nat.zero_le _⟩
  | n, .bl b, h => ⟨rfl, rfl, Nat.zero_le _⟩
  | n, .int i, h => ⟨rfl, rfl, Nat.zero_le _⟩
  | 0, .str x, h => ⟨rfl, by simpa [D.shal, D.pd, PyData.canLay0] using h, Nat.zero_le _⟩
  | n + 1, .str x, h => ⟨rfl, by simpa [D.shal, D.pd, PyData.canLay0] using h, Nat.zero_le _⟩
  | 0, .tup xs, h => by cases h
  | 0, .lst xs, h => by cases h
  | 0, .scr xs, h => by cases h
  | n + 1, .tup xs, h => by
    obtain ⟨a, b, c⟩ := shalAll_ok (n := n) (xs := xs) (by simpa [D.shal] using h)
    exact ⟨by simpa [D.pure] using a, by simpa [D.pd, PyData.canLay0] using b, by simp only [D.pd, PyData.depth]; omega⟩
  | n + 1, .lst xs, h => by
    obtain ⟨a, b, c⟩ := shalAll_ok (n := n) (xs := xs) (by simpa [D.shal] using h)
    exact ⟨by simpa [D.pure] using a, by simpa [D.pd, PyData.canLay0] using b, by simp only [D.pd, PyData.depth]; omega⟩
  | n + 1, .scr xs, h => by
    obtain ⟨a, b, c⟩ := shalAll_ok (n := n) (xs := xs) (by simpa [D.shal] using h)
    exact ⟨by simpa [D.pure] using a, by simpa [D.pd, PyData.canLay0] using b, by simp only [D.pd, PyData.depth]; omega⟩
  | 0, .ref l, h => by cases h
  | n + 1, .ref l, h => by cases h
theorem shalAll_ok : ∀ {n : Nat} {xs : List D}, shalAll n xs = true → pureAll xs = true ∧ PyData.canLayAll0 (pdAll xs) = true ∧ PyData.depthAll (pdAll xs) ≤ n
  | n, [], h => ⟨rfl, rfl, Nat.zero_le _⟩
  | n, x :: xs, h => by
    rw [shalAll, Bool.and_eq_true] at h
    obtain ⟨a, b, c⟩ := shal_ok h.1
    obtain ⟨a', b', c'⟩ := shalAll_ok h.2
    exact ⟨by rw [pureAll, a, a']; rfl, by simp only [pdAll, PyData.canLayAll0, b, b']; rfl, by simp only [pdAll, PyData.depthAll]; omega⟩
end
section
variable {K : PySem.W.Frag} {H F : Hp} {μ : List Addr} {S : Store}
mutual
theorem dp_of (hs : ∀ a o, F a = some o → H a = some o) : ∀ {d : D} {v : V}, d.pure = true → Rep K F μ d v → Dp K H v d.pd
  | _, _, _, .non => .non
  | _, _, _, .bl b => .bl b
  | _, _, _, .int i => .int i
  | _, _, _, .str x => .str x
  | _, _, p, .tup h r => .tup (sqT_mono hs h) (dpAll_of hs (by simpa [D.pure] using p) r)
  | _, _, p, .lst h r => .lst (SqL.of (hs _ _ h)) (dpAll_of hs (by simpa [D.pure] using p) r)
  | _, _, p, .scr h r => .lst (sqL_mono hs h) (dpAll_of hs (by simpa [D.pure] using p) r)
  | _, _, p, .ref h => by simp [D.pure] at p
theorem dpAll_of (hs : ∀ a o, F a = some o → H a = some o) : ∀ {ds : List D} {vs : List V}, pureAll ds = true → Reps K F μ ds vs → DpAll K H vs (pdAll ds)
  | _, _, _, .nil => .nil
  | _, _, p, .cons h r => by
    rw [pureAll, Bool.and_eq_true] at p
    exact .cons (dp_of hs p.1 h) (dpAll_of hs p.2 r)
end
/-- the data as it stands, a list's cell read -/
def rd (S : Store) (d : D) : Option D := match d with
  | .ref l => match rdL S (.ref l) with
    | some xs => some (.lst xs)
    | none => none
  | d => some d
theorem rd_dp (W : Wd K H F μ S) {d e : D} {v : V} (r : Rep K F μ d v) (h : rd S d = some e) (p : e.pure = true) : Dp K H v e.pd := by
  cases r with
  | ref ha =>
    rename_i l a
    simp only [rd] at h
    split at h
    · rename_i xs q
      cases h
      obtain ⟨b, vs, e1, h1, h2⟩ := rdL_ok W (.ref ha) q
      cases e1
      exact .lst (SqL.of h1) (dpAll_of W.sub (by simpa [D.pure] using p) h2)
    · cases h
  | non => cases h; exact .non
  | bl => cases h; exact .bl _
  | int => cases h; exact .int _
  | str => cases h; exact .str _
  | tup a b => cases h; exact dp_of W.sub p (.tup a b)
  | lst a b => cases h; exact dp_of W.sub p (.lst a b)
  | scr a b => cases h; exact dp_of W.sub p (.scr a b)
end
def onDD (f : D → D → Store → R D) (x y : D) (S : Store) : R D := match rd S x, rd S y with
  | some d, some e => MM.need (d.shal 40 && e.shal 40) (f d e S)
  | _, _ => .no
section
variable {X : Cx} {E : XK} {op : Value → Value → Sem Value}
theorem od_DD {f : D → D → Store → R D} {r : R2} (h : OpR X op r) (hi : ∀ d e x y H F μ S Q, Wd X.K H F μ S → Dp X.K H x d.pd → Dp X.K H y e.pd → d.pure = true → e.pure = true → SeqAt.shaped d.pd = true → SeqAt.shaped e.pd = true → Done X.K E H F μ S (f d e S) (PV X.K Q) → r x y H Q) : OpR X op (r2 X.K E (onDD f)) := h.imp fun x y H Q ⟨F, μ, S, d, e, W, rd1, rd2, h⟩ => by
  unfold onDD at h
  cases h1 : rd S d with
  | none => rw [h1] at h; exact h.elim
  | some d' =>
    cases h2 : rd S e with
    | none => rw [h1, h2] at h; exact h.elim
    | some e' =>
      rw [h1, h2] at h
      obtain ⟨hb, h⟩ := Done.need h
      rw [Bool.and_eq_true] at hb
      obtain ⟨p1, c1, l1⟩ := shal_ok hb.1
      obtain ⟨p2, c2, l2⟩ := shal_ok hb.2
      exact hi d' e' x y H F μ S Q W (rd_dp W rd1 h1 p1) (rd_dp W rd2 h2 p2) p1 p2 (by simp only [SeqAt.shaped, c1, Bool.true_and, decide_eq_true_eq]; omega) (by simp only [SeqAt.shaped, c2, Bool.true_and, decide_eq_true_eq]; omega) h
def dEq := onDD fun d e S => .ok (.bl (eqD d e)) S
def dNe := onDD fun d e S => .ok (.bl (!eqD d e)) S
theorem od_eq (hu : X.A.units + 64 < cLine) : OpR X (compareOp .Eq) (r2 X.K E dEq) := od_DD (op_eqD hu) fun d e x y H F μ S Q W r1 r2 p1 p2 s1 s2 h => ⟨d.pd, e.pd, r1, r2, s1, s2, by rw [eqD_eqv p1 p2]; exact h.here W _ (.bl _)⟩
theorem od_ne (hu : X.A.units + 64 < cLine) : OpR X (compareOp .NotEq) (r2 X.K E dNe) := od_DD (op_neD hu) fun d e x y H F μ S Q W r1 r2 p1 p2 s1 s2 h => ⟨d.pd, e.pd, r1, r2, s1, s2, by rw [eqD_eqv p1 p2]; exact h.here W _ (.bl _)⟩
/-! ### is -/
def isN (n : Bool) (x y : D) (S : Store) : R D := match y with
  | .non => match x with
    | .non => .ok (.bl n) S
    | _ => .ok (.bl (!n)) S
  | _ => .no
def isB (n : Bool) (x y : D) (S : Store) : R D := match x, y with
  | .bl a, .bl b => .ok (.bl (decide (a = b) == n)) S
  | _, _ => .no
def dIs (n : Bool) := or2 (isN n) (isB n)
theorem rep_non {K : PySem.W.Frag} {F : Hp} {μ : List Addr} {d : D} {v : V} (r : Rep K F μ d v) : (v = .non) ↔ d = .non := by
  cases r <;> simp
theorem od_is : OpR X (compareOp .Is) (r2 X.K E (dIs true)) := od_or (op_isN.imp fun x y H Q ⟨F, μ, S, d, e, W, r, q, h⟩ => by
    cases q with
    | non =>
      refine ⟨rfl, ?_⟩
      by_cases z : d = .non
      · subst z; cases r; exact Done.here (a := D.bl true) (P := PV X.K Q) W h _ (.bl true)
      · rw [decide_eq_false fun z' => z ((rep_non r).mp z')]
        have h' : Done X.K E H F μ S (.ok (.bl false) S) (PV X.K Q) := by cases d <;> first | exact h | exact absurd rfl z
        exact h'.here W _ (.bl _)
    | _ => exact h.elim) (op_isBl.imp fun x y H Q ⟨F, μ, S, d, e, W, r, q, h⟩ => by
    cases r with
    | bl a =>
      cases q with
      | bl b => exact ⟨a, b, rfl, rfl, Done.here (P := PV X.K Q) W h _ (by have := @Rep.bl X.K F μ (decide (a = b)); simpa using this)⟩
      | _ => exact h.elim
    | _ => cases q <;> exact h.elim)
theorem od_isnot : OpR X (compareOp .IsNot) (r2 X.K E (dIs false)) := od_or (op_notN.imp fun x y H Q ⟨F, μ, S, d, e, W, r, q, h⟩ => by
    cases q with
    | non =>
      refine ⟨rfl, ?_⟩
      by_cases z : d = .non
      · subst z; cases r; exact Done.here (a := D.bl false) (P := PV X.K Q) W h _ (.bl false)
      · rw [decide_eq_false fun z' => z ((rep_non r).mp z')]
        have h' : Done X.K E H F μ S (.ok (.bl true) S) (PV X.K Q) := by cases d <;> first | exact h | exact absurd rfl z
        exact h'.here W _ (.bl _)
    | _ => exact h.elim) (op_notBl.imp fun x y H Q ⟨F, μ, S, d, e, W, r, q, h⟩ => by
    cases r with
    | bl a =>
      cases q with
      | bl b => exact ⟨a, b, rfl, rfl, Done.here (P := PV X.K Q) W h _ (by have := @Rep.bl X.K F μ (!decide (a = b)); simpa using this)⟩
      | _ => exact h.elim
    | _ => cases q <;> exact h.elim)
end
end MM

set_option Elab.async false
set_option linter.all false
set_option maxRecDepth 100000
/-! Subscripts, slices, built-ins, methods, dicts, stores. -/
namespace MM
open PySem PySem.Spec PyProof.Rows L2

/-! ### subscripts -/
section
variable {K : PySem.W.Frag} {F H : Hp} {μ : List Addr} {S : Store}
theorem atI_rep {xs : List D} {vs : List V} {i : Int} {d : D} (r : Reps K F μ xs vs) (h : atI xs i = some d) : ∃ v, atI vs i = some v ∧ Rep K F μ d v := by
  unfold atI at h ⊢
  rw [r.length] at h
  cases q : ixN vs.length i with
  | none => rw [q] at h; cases h
  | some j =>
    rw [q] at h
    exact r.get h
end
def ixSeq (x y : D) (S : Store) : R D := match rdS S x, y with
  | some xs, .int i => match atI xs i with
    | some d => .ok d S
    | none => .no
  | _, _ => .no
def ixStr (x y : D) (S : Store) : R D := match x, y with
  | .str z, .int i => match atI z.cps.toList i with
    | some c => MM.need (lim z.length) (.ok (.str ⟨#[c]⟩) S)
    | none => .no
  | _, _ => .no
def dIx := or2 ixSeq ixStr
section
variable {X : Cx} {E : XK}
theorem xd_seq : IxR X (r2 X.K E ixSeq) := (ix_list.or ix_tup).imp fun x y H Q ⟨F, μ, S, d, e, W, r, q, h⟩ => by
  unfold ixSeq at h
  cases hd : rdS S d with
  | none => rw [hd] at h; exact h.elim
  | some xs =>
    rw [hd] at h
    obtain ⟨a, vs, rfl, hs, ra⟩ := rdS_ok W r hd
    cases q with
    | int i =>
      dsimp only at h
      cases hi : atI xs i with
      | none => rw [hi] at h; exact h.elim
      | some d' =>
        rw [hi] at h
        obtain ⟨v, h1, h2⟩ := atI_rep ra hi
        rcases hs with hs | hs
        · exact .inl ⟨a, vs, i, v, rfl, rfl, hs, h1, h.here W _ h2⟩
        · exact .inr ⟨a, vs, i, v, rfl, rfl, hs, h1, h.here W _ h2⟩
    | _ => exact h.elim
theorem xd_str : IxR X (r2 X.K E ixStr) := ix_str.imp fun x y H Q ⟨F, μ, S, d, e, W, r, q, h⟩ => by
  cases r with
  | str z =>
    cases q with
    | int i =>
      unfold ixStr at h
      dsimp only at h
      cases hi : atI z.cps.toList i with
      | none => rw [hi] at h; exact h.elim
      | some c =>
        rw [hi] at h
        obtain ⟨hz, h⟩ := Done.need h
        exact ⟨z, i, c, rfl, rfl, lim_le hz, hi, h.here W _ (.str _)⟩
    | _ => exact h.elim
  | _ => exact h.elim
theorem xd_ix : IxR X (r2 X.K E dIx) := ix_or xd_seq xd_str
end
/-! ### slices -/
abbrev MP := Sg → Store → R (Option Int)
def tP (K : PySem.W.Frag) (E : XK) (m : MP) : TO := fun τ H Q => ∃ F μ σ S, Wd K H F μ S ∧ Sl K F μ σ τ ∧ Done K E H F μ S (m σ S) (fun o _ H' _ _ => Q o H')
def mpN : MP := fun _ S => .ok none S
def mpS (m : ME) : MP := fun σ S => (m σ S).bind fun d S1 => match d with
  | .int i => .ok (some i) S1
  | _ => .no
def cutD {α : Type} (xs : List α) (lo hi : Option Int) : List α := (xs.drop (HT.sIx xs.length 0 lo)).take (HT.sIx xs.length xs.length hi - HT.sIx xs.length 0 lo)
def slL (m : Bool) (x : D) (lo hi : Option Int) (S : Store) : R D := match x with
  | .scr xs => newL m (cutD xs lo hi) S
  | d => match rdL S d with
    | some xs => newL m (cutD xs lo hi) S
    | none => .no
def slT (x : D) (lo hi : Option Int) (S : Store) : R D := match x with
  | .tup xs => .ok (.tup (cutD xs lo hi)) S
  | _ => .no
def slS (x : D) (lo hi : Option Int) (S : Store) : R D := match x with
  | .str z => MM.need (lim z.length) (.ok (.str (cutS z lo hi)) S)
  | _ => .no
def dSl (m : Bool) (x : D) (lo hi : Option Int) (S : Store) : R D := (slL m x lo hi S).or ((slT x lo hi S).or (slS x lo hi S))
def mSl (m : Bool) (e : ME) (lo hi : MP) : ME := fun σ S => (e σ S).bind fun x S1 => (lo σ S1).bind fun l S2 => (hi σ S2).bind fun h S3 => dSl m x l h S3
section
variable {X : Cx} {E : XK} {e : Expr} {me : ME} {lo hi : Option Expr} {ml mh : MP} {pos p2 : Pos}
theorem sp_none : PO X none (tP X.K E mpN) := ⟨fun pins s σ H Q I h => po_none.run pins s σ H Q I (by obtain ⟨F, μ, σ', S, W, hs, h⟩ := h; exact h.here W)⟩
theorem sp_some (h : PE X e (tE X.K E me)) : PO X (some e) (tP X.K E (mpS me)) := ⟨fun pins s σ H Q I hw => (po_some h).run pins s σ H Q I (by
  obtain ⟨F, μ, σ', S, W, hs, h⟩ := hw
  refine ⟨F, μ, σ', S, W, hs, (h.split W).mono fun d S1 H1 F1 μ1 e1 W1 h1 v q => ?_⟩
  cases q with
  | int i => exact ⟨i, rfl, h1.here W1⟩
  | _ => exact h1.elim)⟩
def rSl (K : PySem.W.Frag) (E : XK) (m : Bool) : V → Option Int → Option Int → Hp → VK → Prop := fun x lo hi H Q => ∃ F μ S d, Wd K H F μ S ∧ Rep K F μ d x ∧ Done K E H F μ S (dSl m d lo hi S) (PV K Q)
theorem sd_sl {m : Bool} : SlR X (rSl X.K E m) := by
  intro pins s σ H x v vl vu lo hi sl Q I rx hs pl pu h
  refine (SlR.or sl_list (SlR.or sl_tupA sl_str)) pins s σ H x v vl vu lo hi sl Q I rx hs pl pu ?_
  obtain ⟨F, μ, S, d, W, r, h⟩ := h
  have cut : ∀ {xs : List D} {vs : List V}, Reps X.K F μ xs vs → Reps X.K F μ (cutD xs lo hi) (cutV vs lo hi) := fun {xs vs} r => by
    unfold cutD cutV
    rw [r.length]
    exact (r.drop _).take _
  rcases Done.or h with h | h
  · refine .inl ?_
    have go : ∀ {xs : List D} {a : Addr} {vs : List V}, SqL X.K H a vs → Reps X.K F μ xs vs → Done X.K E H F μ S (newL m (cutD xs lo hi) S) (PV X.K Q) → rSlL X.K (.ref a) lo hi H Q := fun {xs a vs} hq r h => ⟨a, vs, rfl, hq, fun p hp => by
      obtain ⟨_, _, _, _, h1, h2⟩ := newL_ok W (cut r) h hp
      exact h1 _ h2⟩
    cases r with
    | scr ha r => exact go (sqL_mono W.sub ha) r h
    | lst ha r => exact go (SqL.of (W.sub _ _ ha)) r h
    | @ref l a ha =>
      have h' : Done X.K E H F μ S (match rdL S (.ref l) with | some xs => newL m (cutD xs lo hi) S | none => .no) (PV X.K Q) := h
      cases q : rdL S (.ref l) with
      | none => rw [q] at h'; exact h'.elim
      | some xs =>
        rw [q] at h'
        obtain ⟨b, vs, e1, h1, h2⟩ := rdL_ok W (.ref ha) q
        cases e1
        exact go (SqL.of h1) h2 h'
    | _ => exact h.elim
  rcases Done.or h with h | h
  · refine .inr (.inl ?_)
    cases r with
    | @tup a vs xs ha r =>
      refine ⟨a, vs, rfl, sqT_mono W.sub ha, fun hw => ?_, fun hw p hp => ?_⟩
      · have e : cutD xs lo hi = xs := by
          unfold cutD
          rw [← r.length] at hw
          rw [hw.1, hw.2]
          simp
        have h' : Done X.K E H F μ S (.ok (.tup (cutD xs lo hi)) S) (PV X.K Q) := h
        rw [e] at h'
        exact h'.here W _ (.tup ha r)
      · obtain ⟨_, _, h1⟩ := Done.newF (d := .tup (cutD xs lo hi)) W h (o := .tup (cutV vs lo hi)) hp
        exact h1 _ (rep_newT (cut r) (W.fnone hp))
    | _ => exact h.elim
  · refine .inr (.inr ?_)
    cases r with
    | str z =>
      obtain ⟨hz, h⟩ := Done.need h
      exact ⟨z, rfl, lim_le hz, h.here W _ (.str _)⟩
    | _ => exact h.elim
theorem se_sl {m : Bool} (he : PE X e (tE X.K E me)) (hl : PO X lo (tP X.K E ml)) (hh : PO X hi (tP X.K E mh)) : PE X (.Subscript e (.Slice lo hi none p2) pos) (tE X.K E (mSl m me ml mh)) :=
  (pe_slice sd_sl he hl hh).imp fun τ H Q ⟨F, μ, σ, S, W, hs, h⟩ => ⟨F, μ, σ, S, W, hs, (h.split W).mono fun d S1 H1 F1 μ1 e1 W1 h1 v q => ⟨F1, μ1, σ, S1, W1, hs.ext e1, (h1.split W1).mono fun l S2 H2 F2 μ2 e2 W2 h2 => ⟨F2, μ2, σ, S2, W2, (hs.ext e1).ext e2, (h2.split W2).mono fun u S3 H3 F3 μ3 e3 W3 h3 => ⟨F3, μ3, S3, d, W3, (q.ext e2).ext e3, h3⟩⟩⟩⟩
/-- xs[::-1] -/
def revL (m : Bool) (x : D) (S : Store) : R D := match x with
  | .scr xs => newL m xs.reverse S
  | d => match rdL S d with
    | some xs => newL m xs.reverse S
    | none => .no
theorem se_rev {m : Bool} {k : Nat} {p1 p2 p3 : Pos} (he : PE X e (tE X.K E me)) : PE X (.Subscript e (.Slice none none (some (.UnaryOp .USub (.Constant (.int 1) k p1) p2)) p3) pos) (tE X.K E (m1 (revL m) me)) :=
  (pe_revL he).imp fun τ H Q ⟨F, μ, σ, S, W, hs, h⟩ => ⟨F, μ, σ, S, W, hs, (h.split W).mono fun d S1 H1 F1 μ1 e1 W1 h1 v q => by
    have go : ∀ {xs : List D} {a : Addr} {vs : List V}, SqL X.K H1 a vs → Reps X.K F1 μ1 xs vs → Done X.K E H1 F1 μ1 S1 (newL m xs.reverse S1) (PV X.K Q) → ∃ a' xs', V.ref a = .ref a' ∧ SqL X.K H1 a' xs' ∧ ∀ p, H1 p = none → Q (.ref p) (upd H1 p (.lst xs'.reverse)) := fun {xs a vs} hq r h => ⟨a, vs, rfl, hq, fun p hp => by
      obtain ⟨_, _, _, _, h1, h2⟩ := newL_ok W1 r.reverse h hp
      exact h1 _ h2⟩
    cases q with
    | scr ha r => exact go (sqL_mono W1.sub ha) r h1
    | lst ha r => exact go (SqL.of (W1.sub _ _ ha)) r h1
    | @ref l a ha =>
      have h' : Done X.K E H1 F1 μ1 S1 (match rdL S1 (.ref l) with | some xs => newL m xs.reverse S1 | none => .no) (PV X.K Q) := h1
      cases q : rdL S1 (.ref l) with
      | none => rw [q] at h'; exact h'.elim
      | some xs =>
        rw [q] at h'
        obtain ⟨b, vs, e1, h1, h2⟩ := rdL_ok W1 (.ref ha) q
        cases e1
        exact go (SqL.of h1) h2 h'
    | _ => exact h1.elim⟩
end
end MM

set_option Elab.async false
set_option linter.all false
set_option maxRecDepth 100000
namespace MM
open PySem PySem.Spec PyProof.Rows L2

/-! ### isinstance with a built-in class -/
inductive Ty where | int | bool | str | list | tuple | dict
def Ty.nm : Ty → String
  | .int => "int" | .bool => "bool" | .str => "str" | .list => "list" | .tuple => "tuple" | .dict => "dict"
def isTy (t : Ty) (S : Store) (d : D) : Option Bool := match d, t with
  | .non, _ => some false
  | .bl _, .bool => some true
  | .bl _, .int => some true
  | .bl _, _ => some false
  | .int _, .int => some true
  | .int _, _ => some false
  | .str _, .str => some true
  | .str _, _ => some false
  | .tup _, .tuple => some true
  | .tup _, _ => some false
  | .lst _, .list => some true
  | .lst _, _ => some false
  | .scr _, _ => none
  | .ref l, t => match S[l]?, t with
    | some (.dic _), .dict => some true
    | some (.dic _), _ => some false
    | some _, .list => some true
    | some _, _ => some false
    | none, _ => none
def dIsi (t : Ty) (x : D) (S : Store) : R D := match isTy t S x with
  | some b => .ok (.bl b) S
  | none => .no
section
variable {X : Cx} {E : XK} {e : Expr} {me : ME} {pos p q : Pos}
theorem isTy_ok {K : PySem.W.Frag} {H F : Hp} {μ : List Addr} {S : Store} {t : Ty} {d : D} {v : V} {b : Bool} (W : Wd K H F μ S) (r : Rep K F μ d v) (h : isTy t S d = some b) : ∃ ty, TyX K H v ty ∧ PySem.W.kitOne K ty (.type t.nm) = some b := by
  cases r with
  | non => exact ⟨_, .base .non, kit_ty (by cases t <;> cases h <;> decide +kernel)⟩
  | bl x => exact ⟨_, .base (.bl x), kit_ty (by cases t <;> cases h <;> decide +kernel)⟩
  | int x => exact ⟨_, .base (.int x), kit_ty (by cases t <;> cases h <;> decide +kernel)⟩
  | str x => exact ⟨_, .base (.str x), kit_ty (by cases t <;> cases h <;> decide +kernel)⟩
  | tup ha r =>
    have k : PySem.W.kitOne K (.type "tuple") (.type t.nm) = some b := kit_ty (by cases t <;> cases h <;> decide +kernel)
    rcases ha with (ha | ⟨o, ha⟩) | ⟨o, its, n, ha, hc, _⟩
    · exact ⟨_, .base (.tup (W.sub _ _ ha)), k⟩
    · exact ⟨_, .fTuple (W.sub _ _ ha), k⟩
    · exact ⟨_, .kTuple ha hc, k⟩
  | lst ha r => exact ⟨_, .base (.lst (W.sub _ _ ha)), kit_ty (by cases t <;> cases h <;> decide +kernel)⟩
  | scr => cases h
  | @ref l a ha =>
    simp only [isTy] at h
    cases q : S[l]? with
    | none => rw [q] at h; cases h
    | some c =>
      rw [q] at h
      have z := W.cell l c a q ha
      cases c with
      | lst xs =>
        obtain ⟨vs, h1, _⟩ := z
        exact ⟨_, .base (.lst h1), kit_ty (by cases t <;> cases h <;> decide +kernel)⟩
      | fz xs =>
        obtain ⟨vs, h1, _⟩ := z
        exact ⟨_, .base (.lst (W.sub _ _ h1)), kit_ty (by cases t <;> cases h <;> decide +kernel)⟩
      | dic xs =>
        obtain ⟨vs, h1, _⟩ := z
        exact ⟨_, .base (.dK h1), kit_ty (by cases t <;> cases h <;> decide +kernel)⟩
theorem se_isi (t : Ty) {x : Str} (hm : X.mg "isinstance" = none) (hm2 : X.mg x = none) (he : PE X e (tE X.K E me)) (hg : Gl X "isinstance" := by rfl) (hg2 : Gl X x := by rfl) (hv : bootBuiltins x = some (.type t.nm) := by decide +kernel) (hn : x ≠ "__name__" := by decide) (hdb : (x == ("__debug__" : Str)) = false := by decide)
    (hs : starEach [e, .Name x q] X.env = (false, eval e X.env) :: starEach [.Name x q] X.env := by rfl) : PE X (.Call (.Name "isinstance" p) [e, .Name x q] [] pos) (tE X.K E (m1 (dIsi t) me)) :=
  (pe_callB call_isi hg hm (by decide +kernel) (pa_cons he (pa_cons (pe_bltn (v := .ty t.nm) hg2 hm2 hv rfl hn hdb) pa_nil rfl) hs) (by decide) (by decide) hs rfl).imp fun τ H Q ⟨F, μ, σ, S, W, hs, h⟩ => ⟨F, μ, σ, S, W, hs, (h.split W).mono fun d S1 H1 F1 μ1 e1 W1 h1 v q => by
    have h1' : Done X.K E H1 F1 μ1 S1 (match isTy t S1 d with | some b => .ok (.bl b) S1 | none => .no) (PV X.K Q) := h1
    cases z : isTy t S1 d with
    | none => rw [z] at h1'; exact h1'.elim
    | some b =>
      rw [z] at h1'
      obtain ⟨ty, h2, h3⟩ := isTy_ok W1 q z
      exact ⟨v, .ty t.nm, ty, .type t.nm, b, rfl, .ty _, h2, h3, h1'.here W1 _ (.bl b)⟩⟩
end
end MM

set_option Elab.async false
set_option linter.all false
set_option maxRecDepth 100000
namespace MM
open PySem PySem.Spec PyProof.Rows L2

/-! ### built-ins -/
def on1 (f : D → Store → R D) : List D → Store → R D := fun ds S => match ds with
  | [d] => f d S
  | _ => .no
def lenSeq := on1 fun d S => match rdS S d with
  | some xs => .ok (.int xs.length) S
  | none => .no
def lenStr := on1 fun d S => match d with
  | .str x => MM.need (lim x.length) (.ok (.int x.length) S)
  | _ => .no
def dLen := orN lenSeq lenStr
def tupL := on1 fun d S => match d with
  | .tup xs => .ok (.tup xs) S
  | .scr xs => .ok (.tup xs) S
  | d => match rdL S d with
    | some xs => .ok (.tup xs) S
    | none => .no
def lstL (m : Bool) := on1 fun d S => match rdS S d with
  | some xs => newL m xs S
  | none => .no
def intI := on1 fun d S => match d with
  | .int i => .ok (.int i) S
  | .bl k => .ok (.int (if k then 1 else 0)) S
  | _ => .no
def dMax2 : List D → Store → R D := fun ds S => match ds with
  | [.int i, .int j] => .ok (.int (if j > i then j else i)) S
  | _ => .no
def dMin2 : List D → Store → R D := fun ds S => match ds with
  | [.int i, .int j] => .ok (.int (if j < i then j else i)) S
  | _ => .no
def blsOf : List D → Option (List Bool)
  | [] => some []
  | .bl b :: ds => (blsOf ds).map (b :: ·)
  | _ => none
def allB := on1 fun d S => match rdL S d with
  | some xs => match blsOf xs with
    | some bs => .ok (.bl (bs.all id)) S
    | none => .no
  | none => .no
def anyB := on1 fun d S => match rdL S d with
  | some xs => match blsOf xs with
    | some bs => .ok (.bl (bs.any id)) S
    | none => .no
  | none => .no
section
variable {X : Cx} {E : XK}
theorem on1_ok {K : PySem.W.Frag} {f : D → Store → R D} {xs H} {Q : VK} (h : rN K E (on1 f) xs H Q) : ∃ x F μ S d, xs = [x] ∧ Wd K H F μ S ∧ Rep K F μ d x ∧ Done K E H F μ S (f d S) (PV K Q) := by
  obtain ⟨F, μ, S, ds, W, r, h⟩ := h
  cases r with
  | nil => exact h.elim
  | cons q r =>
    cases r with
    | nil => exact ⟨_, F, μ, S, _, rfl, W, q, h⟩
    | cons => exact h.elim
theorem cd_lenSeq : CallR X (.builtin "len") (rN X.K E lenSeq) := call_len_seq.imp fun xs H Q h => by
  replace h := on1_ok h
  obtain ⟨x, F, μ, S, d, rfl, W, r, h⟩ := h
  cases hd : rdS S d with
  | none => rw [hd] at h; exact h.elim
  | some ys =>
    rw [hd] at h
    obtain ⟨a, vs, rfl, hs, ra⟩ := rdS_ok W r hd
    exact ⟨a, vs, rfl, hs, by rw [← ra.length]; exact h.here W _ (.int _)⟩
theorem cd_lenStr : CallR X (.builtin "len") (rN X.K E lenStr) := call_len_str.imp fun xs H Q h => by
  replace h := on1_ok h
  obtain ⟨x, F, μ, S, d, rfl, W, r, h⟩ := h
  cases r with
  | str z =>
    obtain ⟨hz, h⟩ := Done.need h
    exact ⟨z, rfl, lim_le hz, h.here W _ (.int _)⟩
  | _ => exact h.elim
theorem cd_len : CallR X (.builtin "len") (rN X.K E dLen) := cd_or cd_lenSeq cd_lenStr
theorem cd_tup : CallR X (.type "tuple") (rN X.K E tupL) := call_tuple_of.imp fun xs H Q h => by
  replace h := on1_ok h
  obtain ⟨x, F, μ, S, d, rfl, W, r, h⟩ := h
  have go : ∀ {ys : List D} {a : Addr} {vs : List V}, SqL X.K H a vs → Reps X.K F μ ys vs → Done X.K E H F μ S (.ok (.tup ys) S) (PV X.K Q) → ∃ p zs, [V.ref a] = [.ref p] ∧ ((SqL X.K H p zs ∧ ∀ l, H l = none → Q (.ref l) (upd H l (.tup zs))) ∨ (SqT X.K H p zs ∧ Q (.ref p) H)) := fun {ys a vs} hq r h => ⟨a, vs, rfl, .inl ⟨hq, fun p hp => by
    obtain ⟨_, _, h1⟩ := Done.newF W h (o := .tup vs) hp
    exact h1 _ (rep_newT r (W.fnone hp))⟩⟩
  cases r with
  | tup ha r => exact ⟨_, _, rfl, .inr ⟨sqT_mono W.sub ha, Done.here W h _ (.tup ha r)⟩⟩
  | scr ha r => exact go (sqL_mono W.sub ha) r h
  | lst ha r => exact go (SqL.of (W.sub _ _ ha)) r h
  | @ref l a ha =>
    have h' : Done X.K E H F μ S (match rdL S (.ref l) with | some xs => .ok (.tup xs) S | none => .no) (PV X.K Q) := h
    cases q : rdL S (.ref l) with
    | none => rw [q] at h'; exact h'.elim
    | some xs =>
      rw [q] at h'
      obtain ⟨b, vs, e1, h1, h2⟩ := rdL_ok W (.ref ha) q
      cases e1
      exact go (SqL.of h1) h2 h'
  | _ => exact h.elim
theorem cd_lst {m : Bool} : CallR X (.type "list") (rN X.K E (lstL m)) := call_list_of.imp fun xs H Q h => by
  replace h := on1_ok h
  obtain ⟨x, F, μ, S, d, rfl, W, r, h⟩ := h
  cases hd : rdS S d with
  | none => rw [hd] at h; exact h.elim
  | some ys =>
    rw [hd] at h
    obtain ⟨a, vs, rfl, hs, ra⟩ := rdS_ok W r hd
    refine ⟨a, vs, rfl, hs, fun p hp => ?_⟩
    obtain ⟨_, _, _, _, h1, h2⟩ := newL_ok W ra h hp
    exact h1 _ h2
theorem cd_int : CallR X (.type "int") (rN X.K E intI) := call_int1.imp fun xs H Q h => by
  replace h := on1_ok h
  obtain ⟨x, F, μ, S, d, rfl, W, r, h⟩ := h
  cases r with
  | int i => exact .inl ⟨i, rfl, Done.here W h _ (.int i)⟩
  | bl k => exact .inr ⟨k, rfl, Done.here W h _ (.int _)⟩
  | _ => exact h.elim
theorem cd_max2 (hc : X.calm = true) : CallR X (.builtin "max") (rN X.K E dMax2) := (call_max2 hc).imp fun xs H Q ⟨F, μ, S, ds, W, r, h⟩ => by
  cases r with
  | nil => exact h.elim
  | cons q r =>
    cases r with
    | nil => cases q <;> exact h.elim
    | cons q2 r =>
      cases r with
      | cons => cases q <;> cases q2 <;> exact h.elim
      | nil =>
        cases q with
        | int i =>
          cases q2 with
          | int j => exact ⟨i, j, rfl, Done.here W h _ (.int _)⟩
          | _ => exact h.elim
        | _ => exact h.elim
theorem cd_min2 (hc : X.calm = true) : CallR X (.builtin "min") (rN X.K E dMin2) := (call_min2 hc).imp fun xs H Q ⟨F, μ, S, ds, W, r, h⟩ => by
  cases r with
  | nil => exact h.elim
  | cons q r =>
    cases r with
    | nil => cases q <;> exact h.elim
    | cons q2 r =>
      cases r with
      | cons => cases q <;> cases q2 <;> exact h.elim
      | nil =>
        cases q with
        | int i =>
          cases q2 with
          | int j => exact ⟨i, j, rfl, Done.here W h _ (.int _)⟩
          | _ => exact h.elim
        | _ => exact h.elim
theorem bls_reps {K : PySem.W.Frag} {F : Hp} {μ : List Addr} : ∀ {xs : List D} {bs : List Bool} {vs : List V}, blsOf xs = some bs → Reps K F μ xs vs → vs = bs.map V.bl
  | [], bs, vs, h, r => by cases h; cases r; rfl
  | d :: xs, bs, vs, h, r => by
    cases r with
    | cons q r =>
      cases q with
      | bl b =>
        simp only [blsOf, Option.map_eq_some_iff] at h
        obtain ⟨cs, h1, rfl⟩ := h
        rw [bls_reps h1 r]
        rfl
      | _ => cases h
theorem cd_all (hc : X.calm = true) : CallR X (.builtin "all") (rN X.K E allB) := (cr_all hc).imp fun xs H Q h => by
  replace h := on1_ok h
  obtain ⟨x, F, μ, S, d, rfl, W, r, h⟩ := h
  cases hd : rdL S d with
  | none => rw [hd] at h; exact h.elim
  | some ys =>
    rw [hd] at h
    obtain ⟨a, vs, rfl, hs, ra⟩ := rdL_ok W r hd
    dsimp only at h
    cases hb : blsOf ys with
    | none => rw [hb] at h; exact h.elim
    | some bs =>
      rw [hb] at h
      have := bls_reps hb ra
      subst this
      exact ⟨a, bs, rfl, SqL.of hs, h.here W _ (.bl _)⟩
theorem cd_any (hc : X.calm = true) : CallR X (.builtin "any") (rN X.K E anyB) := (cr_any hc).imp fun xs H Q h => by
  replace h := on1_ok h
  obtain ⟨x, F, μ, S, d, rfl, W, r, h⟩ := h
  cases hd : rdL S d with
  | none => rw [hd] at h; exact h.elim
  | some ys =>
    rw [hd] at h
    obtain ⟨a, vs, rfl, hs, ra⟩ := rdL_ok W r hd
    dsimp only at h
    cases hb : blsOf ys with
    | none => rw [hb] at h; exact h.elim
    | some bs =>
      rw [hb] at h
      have := bls_reps hb ra
      subst this
      exact ⟨a, bs, rfl, SqL.of hs, h.here W _ (.bl _)⟩
end
/-- list(range(..)) -/
def mLstRg (m : Bool) (mi : MI) : ME := fun σ S => (mi σ S).bind fun xs S1 => newL m xs S1
section
variable {X : Cx} {E : XK} {a b : Expr} {ma mb : ME} {pos p p2 pos2 : Pos}
theorem rg_reps {K : PySem.W.Frag} {F : Hp} {μ : List Addr} (i j : Int) : Reps K F μ (rngItems i (j - i).toNat) (rgV i j) := by
  unfold rngItems rgV
  generalize (j - i).toNat = n
  have : ∀ l : List Nat, Reps K F μ (l.map fun (k : Nat) => D.int (i + (k : Int))) (l.map fun (k : Nat) => V.int (i + (k : Nat))) := fun l => by
    induction l with
    | nil => exact .nil
    | cons k l ih => exact .cons (.int _) ih
  exact this _
theorem se_lstRg1 {m : Bool} (hc : X.calm = true) (hm : X.mg "list" = none) (hm2 : X.mg "range" = none) (ha : PE X a (tE X.K E ma)) (hg : Gl X "list" := by rfl) (hg2 : Gl X "range" := by rfl) (na : starEach [a] X.env = (false, eval a X.env) :: starEach [] X.env := by rfl) :
    PE X (.Call (.Name "list" p) [.Call (.Name "range" p2) [a] [] pos2] [] pos) (tE X.K E (mLstRg m (miRng1 (mCons ma mNil)))) :=
  (pe_listRg hc hg hm (prg_1 hg2 hm2 ha na) rfl).imp fun τ H Q ⟨F, μ, σ, S, W, hs, h⟩ => by
    have h : Done X.K E H F μ S ((ma σ S).bind fun d S1 => (match d with | .int j => if rngOk 0 j then .ok (rngItems 0 j.toNat) S1 else .no | _ => .no : R (List D)).bind fun xs S1 => newL m xs S1) (PV X.K Q) := by
      unfold mLstRg miRng1 mCons mNil at h
      cases q : ma σ S with
      | ok d S1 => rw [q] at h; cases d <;> exact h
      | ex e S1 => rw [q] at h; exact h
      | no => rw [q] at h; exact h
    refine ⟨F, μ, σ, S, W, hs, (h.split W).mono fun d S1 H1 F1 μ1 e1 W1 h1 v q => ?_⟩
    cases q with
    | int j =>
      dsimp only at h1
      by_cases hk : rngOk 0 j = true
      · rw [if_pos hk] at h1
        have := rngOk_ok hk
        refine ⟨j, rfl, ⟨by omega, by omega, by omega, by omega, by omega⟩, fun p hp => ?_⟩
        have rr : Reps X.K F1 μ1 (rngItems 0 j.toNat) (rgV 0 j) := by simpa using rg_reps 0 j
        obtain ⟨_, _, _, _, h2, h3⟩ := newL_ok (P := PV X.K Q) W1 rr h1 hp
        exact h2 _ h3
      · rw [if_neg hk] at h1; exact h1.elim
    | _ => exact h1.elim
end
end MM

set_option Elab.async false
set_option linter.all false
set_option maxRecDepth 100000
namespace MM
open PySem PySem.Spec PyProof.Rows L2

/-! ### methods of lists -/
def mMeth (T : Ty) (f : D → List D → Store → R D) (a : ME) (as : MA) : ME := fun σ S => (a σ S).bind fun x S1 => match isTy T S1 x with
  | some true => (as σ S1).bind fun xs S2 => f x xs S2
  | _ => .no
def onCell (f : Nat → List D → List D → Store → R D) (x : D) (as : List D) (S : Store) : R D := match x with
  | .ref l => match S[l]? with
    | some (.lst xs) => f l xs as S
    | _ => .no
  | _ => .no
def dAppend := onCell fun l xs as S => match as with
  | [y] => MM.need (lim (xs.length + 1)) (.ok .non (S.set l (.lst (xs ++ [y]))))
  | _ => .no
def dPop := onCell fun l xs as S => match as with
  | [] => match xs[xs.length - 1]? with
    | some y => .ok y (S.set l (.lst xs.dropLast))
    | none => .no
  | _ => .no
def dExtend := onCell fun l xs as S => match as with
  | [y] => match rdL S y with
    | some ys => MM.need (lim (xs.length + ys.length)) (.ok .non (S.set l (.lst (xs ++ ys))))
    | none => .no
  | _ => .no
section
variable {X : Cx} {E : XK} {o e : Expr} {es : List Expr} {mo : ME} {mas : MA} {name : Str} {apos cpos : Pos} {id : String}
theorem tyV_list {K : PySem.W.Frag} {H F : Hp} {μ : List Addr} {S : Store} {d : D} {v : V} (W : Wd K H F μ S) (r : Rep K F μ d v) (h : isTy .list S d = some true) : tyV K "list" v H := by
  cases r with
  | lst ha r => exact .inl ⟨rfl, _, SqL.of (W.sub _ _ ha)⟩
  | @ref l a ha =>
    simp only [isTy] at h
    cases q : S[l]? with
    | none => rw [q] at h; cases h
    | some c =>
      rw [q] at h
      have z := W.cell l c a q ha
      cases c with
      | lst xs => obtain ⟨vs, h1, _⟩ := z; exact .inl ⟨rfl, _, SqL.of h1⟩
      | fz xs => obtain ⟨vs, h1, _⟩ := z; exact .inl ⟨rfl, _, SqL.of (W.sub _ _ h1)⟩
      | dic xs => cases h
  | _ => cases h
theorem tyV_str {K : PySem.W.Frag} {H F : Hp} {μ : List Addr} {S : Store} {d : D} {v : V} (W : Wd K H F μ S) (r : Rep K F μ d v) (h : isTy .str S d = some true) : tyV K "str" v H := by
  cases r with
  | str => exact rfl
  | ref ha =>
    simp only [isTy] at h
    split at h <;> simp_all
  | _ => cases h
theorem tBM_of {K : PySem.W.Frag} {T : Ty} {f : D → List D → Store → R D} {τ H Q} (hT : ∀ {H F μ S d v}, Wd K H F μ S → Rep K F μ d v → isTy T S d = some true → tyV K T.nm v H) (h : tE K E (mMeth T f mo mas) τ H Q) : tBM K T.nm (r1N K E f) (tE K E mo) (tA K E mas) τ H Q := by
  obtain ⟨F, μ, σ, S, W, hs, h⟩ := h
  refine ⟨F, μ, σ, S, W, hs, (h.split W).mono fun d S1 H1 F1 μ1 e1 W1 h1 v q => ?_⟩
  cases z : isTy T S1 d with
  | none => rw [z] at h1; exact h1.elim
  | some b =>
    cases b with
    | false => rw [z] at h1; exact h1.elim
    | true =>
      rw [z] at h1
      exact ⟨hT W1 q z, F1, μ1, σ, S1, W1, hs.ext e1, (Done.split W1 h1).mono fun xs S2 H2 F2 μ2 e2 W2 h2 vs q2 => ⟨F2, μ2, S2, d, xs, W2, q.ext e2, q2, h2⟩⟩
theorem se_lm {f : D → List D → Store → R D} (slot : Slot "list" name id) (hty : typeOf (.builtin id) = pure (.type "method_descriptor")) (hm : MtR X id (r1N X.K E f)) (ho : PE X o (tE X.K E mo)) (ha : PA X (e :: es) (tA X.K E mas))
    (hbase : attributeBase o name X.env (eval o X.env) = eval o X.env := by rfl)
    (hfew : ((backTo cpos (starEach (e :: es) X.env)).all (fun x => !x.1) && (backToKw cpos (keywordEach [] X.env)).all (fun x => x.1.isSome)
      && decide ((e :: es).length + ([] : List Keyword).length + (if ([] : List Keyword).isEmpty then 0 else 1) < 30)) = true := by rfl)
    (hline : (apos.endLine == cpos.line) = true := by rfl) (hs : starEach (e :: es) X.env = (false, eval e X.env) :: starEach es X.env := by rfl) (hplain : (backTo cpos (starEach es X.env)).any (·.1) = false := by rfl) :
    PE X (.Call (.Attribute o name apos) (e :: es) [] cpos) (tE X.K E (mMeth .list f mo mas)) := (pe_bm PySem.F.plainAttrs_list slot hty hm ho ha hbase hfew hline hs hplain).imp fun _ _ _ h => tBM_of (fun W r z => tyV_list W r z) h
theorem se_lm0 {f : D → List D → Store → R D} (slot : Slot "list" name id) (hty : typeOf (.builtin id) = pure (.type "method_descriptor")) (hm : MtR X id (r1N X.K E f)) (ho : PE X o (tE X.K E mo))
    (hbase : attributeBase o name X.env (eval o X.env) = eval o X.env := by rfl) (hline : (apos.endLine == cpos.line) = true := by rfl) : PE X (.Call (.Attribute o name apos) [] [] cpos) (tE X.K E (mMeth .list f mo mNil)) :=
  (pe_bm0 PySem.F.plainAttrs_list slot hty hm ho hbase hline).imp fun τ H Q ⟨F, μ, σ, S, W, hs, h⟩ => ⟨F, μ, σ, S, W, hs, (h.split W).mono fun d S1 H1 F1 μ1 e1 W1 h1 v q => by
    cases z : isTy .list S1 d with
    | none => rw [z] at h1; exact h1.elim
    | some b =>
      cases b with
      | false => rw [z] at h1; exact h1.elim
      | true =>
        rw [z] at h1
        exact ⟨tyV_list W1 q z, F1, μ1, S1, d, [], W1, q, .nil, h1⟩⟩
theorem onCell_ok {K : PySem.W.Frag} {f : Nat → List D → List D → Store → R D} {x : V} {us : List V} {H} {Q : VK} (h : r1N K E (onCell f) x us H Q) : ∃ a F μ S l xs vs as, x = .ref a ∧ Wd K H F μ S ∧ μ[l]? = some a ∧ S[l]? = some (.lst xs) ∧ H a = some (.lst vs) ∧ Reps K F μ xs vs ∧ Reps K F μ as us ∧ Done K E H F μ S (f l xs as S) (PV K Q) := by
  obtain ⟨F, μ, S, d, as, W, r, rs, h⟩ := h
  cases r with
  | @ref l a ha =>
    have h' : Done K E H F μ S (match S[l]? with | some (.lst xs) => f l xs as S | _ => .no) (PV K Q) := h
    cases q : S[l]? with
    | none => rw [q] at h'; exact h'.elim
    | some c =>
      cases c with
      | lst xs =>
        rw [q] at h'
        obtain ⟨vs, h1, h2⟩ := W.cell l _ a q ha
        exact ⟨a, F, μ, S, l, xs, vs, as, rfl, W, ha, q, h1, h2, rs, h'⟩
      | fz xs => rw [q] at h'; exact h'.elim
      | dic xs => rw [q] at h'; exact h'.elim
  | _ => exact h.elim
theorem set_cell {K : PySem.W.Frag} {H F : Hp} {μ : List Addr} {S : Store} {a : Addr} {l : Nat} {xs ys : List D} {us : List V} {d : D} {P : D → Store → Hp → Hp → List Addr → Prop} (W : Wd K H F μ S) (ha : μ[l]? = some a) (hl : S[l]? = some (.lst xs)) (r : Reps K F μ ys us)
    (h : Done K E H F μ S (.ok d (S.set l (.lst ys))) P) : P d (S.set l (.lst ys)) (upd H a (.lst us)) F μ := by
  obtain ⟨w, e⟩ := W.write (o := .lst us) (c' := .lst ys) hl rfl ha ⟨us, upd_same, r⟩ rfl
  exact h _ _ _ e w
theorem md_append : MtR X "list.append" (r1N X.K E dAppend) := MtR.imp mt_append fun x us H Q h => by
  replace h := onCell_ok h
  obtain ⟨a, F, μ, S, l, xs, vs, as, rfl, W, ha, hl, hv, rx, ra, h⟩ := h
  cases ra with
  | nil => exact h.elim
  | cons q r =>
    cases r with
    | cons => exact h.elim
    | nil =>
      obtain ⟨hz, h⟩ := Done.need h
      refine ⟨a, vs, _, rfl, rfl, hv, ?_, set_cell (P := PV X.K Q) W ha hl (rx.append (.cons q .nil)) h _ .non⟩
      have := of_decide_eq_true hz
      rw [sizeLine_eq, ← rx.length]
      omega
theorem md_pop : MtR X "list.pop" (r1N X.K E dPop) := MtR.imp mt_pop fun x us H Q h => by
  replace h := onCell_ok h
  obtain ⟨a, F, μ, S, l, xs, vs, as, rfl, W, ha, hl, hv, rx, ra, h⟩ := h
  cases ra with
  | cons => exact h.elim
  | nil =>
    dsimp only at h
    cases q : xs[xs.length - 1]? with
    | none => rw [q] at h; exact h.elim
    | some y =>
      rw [q] at h
      obtain ⟨v, h1, h2⟩ := rx.get q
      exact ⟨a, vs, v, rfl, rfl, hv, by rw [← rx.length]; exact h1, set_cell (P := PV X.K Q) W ha hl rx.dropLast h _ h2⟩
theorem md_extend : MtR X "list.extend" (r1N X.K E dExtend) := MtR.imp mt_extend fun x us H Q h => by
  replace h := onCell_ok h
  obtain ⟨a, F, μ, S, l, xs, vs, as, rfl, W, ha, hl, hv, rx, ra, h⟩ := h
  cases ra with
  | nil => exact h.elim
  | cons q r =>
    cases r with
    | cons => exact h.elim
    | nil =>
      rename_i d u
      dsimp only at h
      cases z : rdL S d with
      | none => rw [z] at h; exact h.elim
      | some ys =>
        rw [z] at h
        obtain ⟨b, ws, rfl, hb, rb⟩ := rdL_ok W q z
        obtain ⟨hz, h⟩ := Done.need h
        exact ⟨a, b, vs, ws, rfl, rfl, hv, hb, by rw [← rx.length, ← rb.length]; exact lim_le hz, set_cell (P := PV X.K Q) W ha hl (rx.append rb) h _ .non⟩
end
end MM

set_option Elab.async false
set_option linter.all false
set_option maxRecDepth 100000
namespace MM
open PySem PySem.Spec PyProof.Rows L2

/-! ### o[i] = v -/
def setL (o i v : D) (S : Store) : R Unit := match o, i with
  | .ref l, .int k => match S[l]? with
    | some (.lst xs) => match ixN xs.length k with
      | some j => .ok () (S.set l (.lst (xs.set j v)))
      | none => .no
    | _ => .no
  | _, _ => .no
def gSub (mo mi : ME) : MG := fun v σ S => (mo σ S).bind fun o S1 => (mi σ S1).bind fun i S2 => (setL o i v S2).bind fun _ S3 => .ok σ S3
section
variable {X : Cx} {E : XK} {o i : Expr} {mo mi : ME} {pos : Pos}
theorem sg_sub (ho : PE X o (tE X.K E mo)) (hi : PE X i (tE X.K E mi))
    (ha : ∀ v, assign (.Subscript o i pos) X.env v = (do
      let ov ← holding [v] (eval o X.env)
      let iv ← holding [v, ov] (eval i X.env)
      standAt pos
      holding [v, ov, iv] (setItem ov iv v)
      release [v, ov, iv] []) := by intro _; rfl) : PG X (.Subscript o i pos) (tG X.K E [] (gSub mo mi)) :=
  (pg_sub ho hi set_list ha).imp fun v τ H Q ⟨F, μ, σ, S, d, W, hs, r, h⟩ => ⟨F, μ, σ, S, W, hs, (Done.split W h).mono fun x S1 H1 F1 μ1 e1 W1 h1 w q => ⟨F1, μ1, σ, S1, W1, hs.ext e1, (h1.split W1).mono fun y S2 H2 F2 μ2 e2 W2 h2 u q2 => by
    have rd := (r.ext e1).ext e2
    have q' := q.ext e2
    cases q' with
    | @ref l a ha =>
      cases q2 with
      | int k =>
        have h2' : Done X.K E H2 F2 μ2 S2 ((match S2[l]? with
            | some (.lst xs) => match ixN xs.length k with
              | some j => .ok () (S2.set l (.lst (xs.set j d)))
              | none => .no
            | _ => .no : R Unit).bind fun _ S3 => .ok σ S3) _ := h2
        cases hl : S2[l]? with
        | none => rw [hl] at h2'; exact h2'.elim
        | some c =>
          cases c with
          | fz xs => rw [hl] at h2'; exact h2'.elim
          | dic xs => rw [hl] at h2'; exact h2'.elim
          | lst xs =>
            rw [hl] at h2'
            obtain ⟨vs, hv, rx⟩ := W2.cell l _ a hl ha
            dsimp only at h2'
            cases hj : ixN xs.length k with
            | none => rw [hj] at h2'; exact h2'.elim
            | some j =>
              rw [hj] at h2'
              refine ⟨a, vs, k, j, rfl, rfl, hv, by rw [← rx.length]; exact hj, ?_⟩
              obtain ⟨w3, e3⟩ := W2.write (o := .lst (vs.set j v)) (c' := .lst (xs.set j d)) hl rfl ha ⟨_, upd_same, Reps.set rd j rx⟩ rfl
              exact h2' _ _ _ e3 w3 τ (((hs.ext e1).ext e2).ext e3) off_refl
      | _ => exact h2.elim
    | _ => exact h2.elim⟩⟩
end
end MM

set_option Elab.async false
set_option linter.all false
set_option maxRecDepth 100000
namespace MM
open PySem PySem.Spec PyProof.Rows L2

/-! ### dicts -/
def valD (kvs : List (Key × D)) (k : Key) : Option D := match kvs with
  | [] => none
  | (k', d) :: r => if k' = k then some d else valD r k
def putD (kvs : List (Key × D)) (k : Key) (d : D) : List (Key × D) := match kvs with
  | [] => [(k, d)]
  | (k', e) :: r => if k' = k then (k', d) :: r else (k', e) :: putD r k d
section
variable {K : PySem.W.Frag} {F : Hp} {μ : List Addr}
theorem repKV_cons {k : Key} {d : D} {r : List (Key × D)} {us : List (Key × V)} (h : RepKV K F μ ((k, d) :: r) us) : ∃ v ur, us = (k, v) :: ur ∧ Rep K F μ d v ∧ RepKV K F μ r ur := by
  obtain ⟨h1, h2⟩ := h
  cases us with
  | nil => cases h1
  | cons p ur =>
    obtain ⟨k', v⟩ := p
    rw [List.map_cons, List.map_cons] at h1 h2
    cases h2 with
    | cons r1 r2 =>
      injection h1 with e1 e2
      have e1 : k = k' := e1
      subst e1
      exact ⟨v, ur, rfl, r1, e2, r2⟩
theorem valD_ok {k : Key} : ∀ {kvs : List (Key × D)} {us : List (Key × V)} {d : D}, RepKV K F μ kvs us → valD kvs k = some d → ∃ v, valV us k = some v ∧ Rep K F μ d v
  | [], _, _, _, h => by cases h
  | (k', e) :: r, us, d, q, h => by
    obtain ⟨v, ur, rfl, r1, r2⟩ := repKV_cons q
    unfold valD at h
    by_cases z : k' = k
    · rw [if_pos z] at h
      cases h
      exact ⟨v, valV_pos z, r1⟩
    · rw [if_neg z] at h
      rw [valV_neg z]
      exact valD_ok r2 h
theorem putK_cons {p : Key × V} {r : List (Key × V)} {k : Key} {v : V} (n : p.1 ∉ r.map (fun q => q.1)) : putK (p :: r) k v = if p.1 = k then (p.1, v) :: r else p :: putK r k v := by
  by_cases z : p.1 = k
  · rw [if_pos z]
    unfold putK
    have : ((p :: r).any fun kv => decide (kv.1 = k)) = true := by simp [z]
    rw [if_pos this, List.map_cons, if_pos z]
    congr 1
    have : ∀ q ∈ r, ¬ q.1 = k := fun q hq e => n (by rw [z, ← e]; exact List.mem_map_of_mem (f := fun q : Key × V => q.1) hq)
    conv => rhs; rw [← List.map_id r]
    exact List.map_congr_left fun q hq => by rw [if_neg (this q hq)]; rfl
  · rw [if_neg z]
    unfold putK
    have e : ((p :: r).any fun kv => decide (kv.1 = k)) = (r.any fun kv => decide (kv.1 = k)) := by simp [z]
    rw [e]
    split
    · rw [List.map_cons, if_neg z]
    · rfl
theorem putD_ok {k : Key} {d : D} {v : V} (rd : Rep K F μ d v) : ∀ {kvs : List (Key × D)} {us : List (Key × V)}, (us.map (·.1)).Nodup → RepKV K F μ kvs us → RepKV K F μ (putD kvs k d) (putK us k v)
  | [], us, n, q => by
    obtain ⟨h1, h2⟩ := q
    cases us with
    | nil => exact ⟨rfl, .cons rd .nil⟩
    | cons => cases h1
  | (k', e) :: r, us, n, q => by
    obtain ⟨w, ur, rfl, r1, r2⟩ := repKV_cons q
    rw [List.map_cons, List.nodup_cons] at n
    rw [putK_cons n.1]
    unfold putD
    by_cases z : k' = k
    · rw [if_pos z, if_pos z]
      exact ⟨by rw [List.map_cons, List.map_cons, r2.1], .cons rd r2.2⟩
    · rw [if_neg z, if_neg z]
      have ih := putD_ok (k := k) rd n.2 r2
      exact ⟨by rw [List.map_cons, List.map_cons, ih.1], .cons r1 ih.2⟩
end
def getD (k : Key) (x : D) (S : Store) : R D := match x with
  | .ref l => match S[l]? with
    | some (.dic kvs) => match valD kvs k with
      | some d => .ok d S
      | none => .no
    | _ => .no
  | _ => .no
def nodupK : List Key → Bool
  | [] => true
  | k :: ks => !(ks.any fun j => decide (j = k)) && nodupK ks
theorem nodupK_ok : ∀ {ks : List Key}, nodupK ks = true → ks.Nodup
  | [], _ => List.nodup_nil
  | k :: ks, h => by
    rw [nodupK, Bool.and_eq_true, Bool.not_eq_true'] at h
    refine List.nodup_cons.mpr ⟨fun hm => ?_, nodupK_ok h.2⟩
    have := h.1
    rw [List.any_eq_false] at this
    exact this k hm (by simp)
def mPutD (k : Key) (mo mv : ME) : MS := fun σ S => (mv σ S).toO fun d S1 => (mo σ S1).toO fun x S2 => match x with
  | .ref l => match S2[l]? with
    | some (.dic kvs) => if lim (kvs.length + 1) && nodupK (kvs.map (·.1)) then .nx σ (S2.set l (.dic (putD kvs k d))) else .no
    | _ => .no
  | _ => .no
def mDict (ks : List Key) (as : MA) : ME := fun σ S => (as σ S).bind fun ds S1 => if ds.length = ks.length ∧ ks.length ≤ 15 ∧ nodupK ks = true then .ok (.ref S1.length) (S1 ++ [.dic (ks.zip ds)]) else .no
section
variable {X : Cx} {E : XK} {o i value : Expr} {mo mv : ME} {k : Key} {pos pos' : Pos}
theorem se_getD (hu : X.A.units + 1 < cLine) (ho : PE X o (tE X.K E mo)) (hi : PE X i (tC (kV k))) (hs : NoSl i := by intro _ _; rfl) : PE X (.Subscript o i pos) (tE X.K E (m1 (getD k) mo)) :=
  (pe_dget hu ho hi hs).imp fun τ H Q ⟨F, μ, σ, S, W, hs, h⟩ => ⟨F, μ, σ, S, W, hs, (h.split W).mono fun d S1 H1 F1 μ1 e1 W1 h1 v q => by
    cases q with
    | @ref l a ha =>
      have h1' : Done X.K E H1 F1 μ1 S1 (match S1[l]? with | some (.dic kvs) => (match valD kvs k with | some d => .ok d S1 | none => .no) | _ => .no) (PV X.K Q) := h1
      cases hl : S1[l]? with
      | none => rw [hl] at h1'; exact h1'.elim
      | some c =>
        cases c with
        | lst => rw [hl] at h1'; exact h1'.elim
        | fz => rw [hl] at h1'; exact h1'.elim
        | dic kvs =>
          rw [hl] at h1'
          obtain ⟨us, hv, rx⟩ := W1.cell l _ a hl ha
          dsimp only at h1'
          cases hj : valD kvs k with
          | none => rw [hj] at h1'; exact h1'.elim
          | some d' =>
            rw [hj] at h1'
            obtain ⟨w, h2, h3⟩ := valD_ok rx hj
            refine ⟨a, w, rfl, ?_, h1'.here W1 _ h3⟩
            rw [← h2]
            exact DGet.k hv
    | _ => exact h1.elim⟩
theorem s_putD (hu : X.A.units + 1 < cLine) (ho : PE X o (tE X.K E mo)) (hv : PE X value (tE X.K E mv)) (hi : PE X i (tC (kV k))) (hs : swapsWith value (some (.Subscript o i pos')) pos.line X.env = pure false := by rfl) : PS X (.Assign [.Subscript o i pos'] value pos) (tS X.K E (mPutD k mo mv)) :=
  (ps_dput hu ho hi hv hs).imp fun D τ H ⟨F, μ, σ, S, W, hs, h⟩ => ⟨F, μ, σ, S, W, hs, (h.split W).mono fun d S1 H1 F1 μ1 e1 W1 h1 v rv => ⟨F1, μ1, σ, S1, W1, hs.ext e1, (h1.split W1).mono fun x S2 H2 F2 μ2 e2 W2 h2 w q => by
    cases q with
    | @ref l a ha =>
      have h2' : DoneS X.K E H2 F2 μ2 S2 (match S2[l]? with | some (.dic kvs) => if lim (kvs.length + 1) && nodupK (kvs.map (·.1)) then .nx σ (S2.set l (.dic (putD kvs k d))) else .no | _ => .no) D := h2
      cases hl : S2[l]? with
      | none => rw [hl] at h2'; exact h2'.elim
      | some c =>
        cases c with
        | lst => rw [hl] at h2'; exact h2'.elim
        | fz => rw [hl] at h2'; exact h2'.elim
        | dic kvs =>
          rw [hl] at h2'
          obtain ⟨us, hv, rx⟩ := W2.cell l _ a hl ha
          dsimp only at h2'
          by_cases hz : (lim (kvs.length + 1) && nodupK (kvs.map (·.1))) = true
          · rw [if_pos hz] at h2'
            rw [Bool.and_eq_true] at hz
            have hz1 := of_decide_eq_true hz.1
            have hlen : kvs.length = us.length := by have := congrArg List.length rx.1; simpa using this
            have hn : (us.map (·.1)).Nodup := by rw [← rx.1]; exact nodupK_ok hz.2
            have hp := putD_ok (k := k) (rv.ext e2) hn rx
            obtain ⟨w3, e3⟩ := W2.write (o := .dK (putK us k v)) (c' := .dic (putD kvs k d)) hl rfl ha ⟨_, upd_same, hp⟩ rfl
            exact ⟨a, _, rfl, DPut.k hv (by rw [sizeLine_eq]; omega), h2' _ _ _ τ e3 w3 (((hs.ext e1).ext e2).ext e3)⟩
          · rw [if_neg hz] at h2'; exact h2'.elim
    | _ => exact h2.elim⟩⟩
theorem _root_.MM.Wd.asideC' {K : PySem.W.Frag} {H F : Hp} {μ : List Addr} {S : Store} {p : Addr} {o : HO} {c : Cell} (W : Wd K H F μ S) (h : Aside H F μ p o) (hc : CellOk K H F (μ ++ [p]) p c) : Wd K H F (μ ++ [p]) (S ++ [c]) := by
  have hm : ∀ (l : Nat) a, μ[l]? = some a → (μ ++ [p])[l]? = some a := fun l a h => by
    rw [List.getElem?_append_left (List.getElem?_eq_some_iff.mp h).1]; exact h
  refine ⟨W.sub, by simp [W.len], ?_, fun a q => ?_, fun l c' a h1 h2 => ?_⟩
  · rw [List.nodup_append]
    refine ⟨W.nd, by simp, fun a ha b hb e => ?_⟩
    simp at hb
    subst hb
    exact h.mu (by rw [← e]; exact ha)
  · obtain ⟨l, c', h1, h2, h3⟩ := q
    rcases ix_append h1 with z | ⟨_, rfl⟩
    · have hl : l < S.length := by rw [← W.len]; exact (List.getElem?_eq_some_iff.mp z).1
      rw [List.getElem?_append_left hl] at h2
      exact W.out a ⟨l, c', z, h2, h3⟩
    · exact h.fr
  · rcases ix_append h2 with z | ⟨rfl, rfl⟩
    · have hl : l < S.length := by rw [← W.len]; exact (List.getElem?_eq_some_iff.mp z).1
      rw [List.getElem?_append_left hl] at h1
      exact (W.cell l c' a h1 z).mono (fun _ _ h => h) hm fun _ => rfl
    · rw [W.len] at h1
      simp at h1
      subst h1
      exact hc
theorem _root_.MM.Ext.asideC' {H F H1 F1 : Hp} {μ μ1 : List Addr} {S S1 : Store} {p : Addr} {c : Cell} (e : Ext H F μ S H1 F1 μ1 S1) (hp : H p = none) : Ext H F μ S H1 F1 (μ1 ++ [p]) (S1 ++ [c]) :=
  ⟨e.fz, fun l a q => by
    have q := e.mu l a q
    rw [List.getElem?_append_left (List.getElem?_eq_some_iff.mp q).1]; exact q, e.keep, e.dom, fun l a q => by
    rcases ix_append q with z | ⟨_, rfl⟩
    · exact e.new l a z
    · exact .inr hp, e.fnew, fun l ys q => by
    have q := e.cf l ys q
    rw [List.getElem?_append_left (List.getElem?_eq_some_iff.mp q).1]; exact q, by
    rw [List.length_append]
    exact Nat.le_trans e.le (Nat.le_add_right _ _)⟩
/-- the trees of a display: keys written, values by their mirrors -/
inductive PPd (X : Cx) (E : XK) (pos : Pos) : List (Option Expr) → List Expr → List Key → MA → Prop
  | nil : PPd X E pos [] [] [] mNil
  | cons {e v : Expr} {es : List (Option Expr)} {vs : List Expr} {k : Key} {ks : List Key} {m : ME} {ms : MA} : PE X e (tC (kV k)) → PE X v (tE X.K E m) → PPd X E pos es vs ks ms → PPd X E pos (some e :: es) (v :: vs) (k :: ks) (mCons m ms)
theorem mergeK_nodup {ps : List (Key × V)} : ∀ {acc : List (Key × V)}, ((acc ++ ps).map (·.1)).Nodup → mergeK acc ps = acc ++ ps := by
  induction ps with
  | nil => intro acc _; simp [mergeK]
  | cons p ps ih =>
    intro acc h
    have hn : (acc.any fun kv => decide (kv.1 = p.1)) = false := by
      rw [List.any_eq_false]
      intro q hq e
      have e : q.1 = p.1 := of_decide_eq_true e
      rw [List.map_append, List.nodup_append] at h
      exact h.2.2 q.1 (List.mem_map_of_mem hq) p.1 (by simp) e
    show mergeK (putK acc p.1 p.2) ps = _
    have e : putK acc p.1 p.2 = acc ++ [p] := by
      unfold putK
      rw [if_neg (by rw [hn]; simp)]
    rw [e, ih (by simpa using h)]
    simp
theorem ppd_run {keys : List (Option Expr)} {values : List Expr} {ks : List Key} {as : MA} (h : PPd X E pos keys values ks as) : ∃ trs, PPs X pos keys values trs ∧ ∀ (p : Addr) τ H Q,
    (∃ F μ σ S, Wd X.K H F μ S ∧ Sl X.K F μ σ τ ∧ Done X.K E H F μ S (as σ S) (fun ds _ H' F' μ' => ∀ vs, Reps X.K F' μ' ds vs → Q (ks.zip vs |>.map fun kv => (kV kv.1, kv.2)) H')) → tPairs trs τ H Q := by
  induction h with
  | nil => exact ⟨[], pps_nil, fun p τ H Q ⟨F, μ, σ, S, W, hs, h⟩ => h.here W [] .nil⟩
  | cons he hv hr ih =>
    rename_i e v es vs k ks m ms
    obtain ⟨trs, h1, h2⟩ := ih
    refine ⟨_, pps_cons he hv h1, fun p τ H Q ⟨F, μ, σ, S, W, hs, h⟩ => ?_⟩
    refine ⟨F, μ, σ, S, W, hs, (Done.split W h).mono fun d S1 H1 F1 μ1 e1 W1 h3 u q => h2 p τ H1 _ ⟨F1, μ1, σ, S1, W1, hs.ext e1, (h3.split W1).mono fun ds S2 H2 F2 μ2 e2 W2 h4 us q2 => h4.here W2 _ (.cons (q.ext e2) q2)⟩⟩
theorem se_dict {keys : List (Option Expr)} {values : List Expr} {ks : List Key} {as : MA} (h : PPd X E pos keys values ks as) (hall : keys.all (·.isSome) = true := by rfl) (hl : keys.length = values.length := by rfl) (h0 : keys ≠ [] := by exact fun z => by cases z) (h15 : keys.length ≤ 15 := by decide) :
    PE X (.Dict keys values pos) (tE X.K E (mDict ks as)) := by
  obtain ⟨trs, h1, h2⟩ := ppd_run h
  refine (pe_disp h1 hall hl h0 h15).imp fun τ H Q ⟨F, μ, σ, S, W, hs, h⟩ p hp => ?_
  obtain ⟨Wp, ep⟩ := W.add (o := .dK []) hp
  have A0 : Aside (upd H p (.dK [])) F μ p (.dK []) := ⟨upd_same, W.fnone hp, fun hm => W.there hm hp⟩
  refine h2 p τ _ _ ⟨F, μ, σ, S, Wp, hs, ?_⟩
  unfold mDict at h
  cases ha : as σ S with
  | no => rw [ha] at h; exact h
  | ex e S1 => rw [ha] at h; exact Done.from (r := (.ex e S1 : R (List D))) (P := fun _ _ _ _ _ => True) W ep h
  | ok ds S1 =>
    rw [ha] at h
    intro H1 F1 μ1 e1 W1 us q
    have A1 := A0.ext e1
    by_cases hc : ds.length = ks.length ∧ ks.length ≤ 15 ∧ nodupK ks = true
    · have h3 : Done X.K E H F μ S (if ds.length = ks.length ∧ ks.length ≤ 15 ∧ nodupK ks = true then .ok (.ref S1.length) (S1 ++ [.dic (ks.zip ds)]) else .no) (PV X.K Q) := h
      rw [if_pos hc] at h3
      have hz : ks.length = us.length := by rw [← q.length]; exact hc.1.symm
      refine ⟨A1.at_, ks.zip us, rfl, by rw [List.length_zip]; omega, ?_⟩
      have hk : ((ks.zip us).map (fun x => x.1)) = ks := by
        have := List.map_fst_zip (l₁ := ks) (l₂ := us) (by omega)
        exact this
      have hm : mergeK [] (ks.zip us) = ks.zip us := by
        have := mergeK_nodup (acc := []) (ps := ks.zip us) (by
          rw [List.nil_append]
          rw [hk]
          exact nodupK_ok hc.2.2)
        simpa using this
      rw [hm]
      have E1 : Ext H F μ S (upd H1 p (.dK (ks.zip us))) F1 μ1 S1 := (ep.trans W e1).aside hp
      have W2 : Wd X.K (upd H1 p (.dK (ks.zip us))) F1 μ1 S1 := W1.aside A1
      have A2 : Aside (upd H1 p (.dK (ks.zip us))) F1 μ1 p (.dK (ks.zip us)) := ⟨upd_same, A1.fr, A1.mu⟩
      have hm' : ∀ (l : Nat) a, μ1[l]? = some a → (μ1 ++ [p])[l]? = some a := fun l a h => by
        rw [List.getElem?_append_left (List.getElem?_eq_some_iff.mp h).1]; exact h
      have hcell : CellOk X.K (upd H1 p (.dK (ks.zip us))) F1 (μ1 ++ [p]) p (.dic (ks.zip ds)) := by
        refine ⟨ks.zip us, upd_same, ?_, ?_⟩
        · have e1 := List.map_fst_zip (l₁ := ks) (l₂ := ds) (by omega)
          have e2 := List.map_fst_zip (l₁ := ks) (l₂ := us) (by omega)
          exact e1.trans e2.symm
        · have e1 := List.map_snd_zip (l₁ := ks) (l₂ := ds) (by omega)
          have e2 := List.map_snd_zip (l₁ := ks) (l₂ := us) (by omega)
          have q' := q.mono (F' := F1) (fun _ _ h => h) hm'
          rw [← e1, ← e2] at q'
          exact q'
      exact h3 _ _ _ (E1.asideC' hp) (W2.asideC' A2 hcell) _ (.ref (by rw [← W1.len]; simp))
    · have h3 : Done X.K E H F μ S (if ds.length = ks.length ∧ ks.length ≤ 15 ∧ nodupK ks = true then .ok (.ref S1.length) (S1 ++ [.dic (ks.zip ds)]) else .no) (PV X.K Q) := h
      rw [if_neg hc] at h3; exact h3.elim
end
end MM

set_option Elab.async false
set_option linter.all false
set_option maxRecDepth 100000
/-! sorted; < of data that are alike. -/
namespace MM
open PySem PySem.Spec PyProof.Rows L2 PySem.W

/-! ### insertion, as mergeSort does it -/
section
variable {α β : Type}
def insB (le : α → α → Bool) (a : α) : List α → List α
  | [] => [a]
  | b :: l => if le a b then a :: b :: l else b :: insB le a l
def isortB (le : α → α → Bool) : List α → List α
  | [] => []
  | a :: l => insB le a (isortB le l)
theorem insB_at {le : α → α → Bool} {a : α} : ∀ {l m : List α}, (∀ b ∈ l, le a b = false) → (∀ b ∈ m, le a b = true) → insB le a (l ++ m) = l ++ a :: m
  | [], [], _, _ => rfl
  | [], b :: m, _, h => by
    show (if le a b then a :: b :: m else b :: insB le a m) = _
    rw [if_pos (h b List.mem_cons_self)]
    rfl
  | b :: l, m, h1, h2 => by
    show (if le a b then a :: b :: (l ++ m) else b :: insB le a (l ++ m)) = _
    rw [if_neg (by rw [h1 b List.mem_cons_self]; simp), insB_at (fun c hc => h1 c (List.mem_cons_of_mem _ hc)) h2]
    rfl
theorem mergeSort_isort {le : α → α → Bool} (tr : ∀ a b c, le a b = true → le b c = true → le a c = true) (tot : ∀ a b, (le a b || le b a) = true) : ∀ l : List α, l.mergeSort le = isortB le l
  | [] => by simp [isortB]
  | a :: l => by
    obtain ⟨l1, l2, e1, e2, h⟩ := List.mergeSort_cons tr tot a l
    have hs := List.pairwise_mergeSort (le := le) tr tot (a :: l)
    rw [e1]
    show _ = insB le a (isortB le l)
    rw [← mergeSort_isort tr tot l, e2]
    refine (insB_at (fun b hb => ?_) fun b hb => ?_).symm
    · have := h b hb
      simpa using this
    · rw [e1, List.pairwise_append] at hs
      exact (List.pairwise_cons.mp hs.2.1).1 b hb
theorem insB_map {le : α → α → Bool} {f : β → α} (b : β) : ∀ l : List β, (insB (fun x y => le (f x) (f y)) b l).map f = insB le (f b) (l.map f)
  | [] => rfl
  | c :: l => by
    show (if le (f b) (f c) then b :: c :: l else c :: insB _ b l).map f = (if le (f b) (f c) then f b :: f c :: l.map f else f c :: insB le (f b) (l.map f))
    split
    · rfl
    · rw [List.map_cons, insB_map b l]
theorem isortB_map {le : α → α → Bool} {f : β → α} : ∀ l : List β, (isortB (fun x y => le (f x) (f y)) l).map f = isortB le (l.map f)
  | [] => rfl
  | b :: l => by
    show (insB _ b (isortB _ l)).map f = insB le (f b) (isortB le (l.map f))
    rw [insB_map, isortB_map l]
theorem insB_len {le : α → α → Bool} {a : α} : ∀ l : List α, (insB le a l).length = l.length + 1
  | [] => rfl
  | b :: l => by
    unfold insB
    split
    · rfl
    · rw [List.length_cons, insB_len l, List.length_cons]
theorem isortB_len {le : α → α → Bool} : ∀ l : List α, (isortB le l).length = l.length
  | [] => rfl
  | b :: l => by
    show (insB le b (isortB le l)).length = _
    rw [insB_len, isortB_len l, List.length_cons]
end

/-- not y < x -/
def leD (x y : D) : Bool := !dataLt y.pd x.pd
def noTN : D → Bool
  | .tup _ => false
  | .non => false
  | _ => true
def isTup1 : D → Bool
  | .tup (_ :: _) => true
  | _ => false
def sortable (xs : List D) : Bool := xs.all (fun x => x.shal 40) && (xs.all fun x => xs.all fun y => alike x.pd y.pd) && (xs.all isTup1 || xs.all noTN)
def sortedD (m : Bool) := on1 fun d S => match rdS S d with
  | some xs => MM.need (sortable xs && lim xs.length) (newL m (isortB leD xs) S)
  | none => .no

section
variable {prog : Program} {w : World} {A : Around} {E : Value → Shared → Prop} {s : Shared}
theorem sorted_any {a : Addr} {T : String} {o : Obj} {vs : List Value} {n : Nat} {Q : Value → Shared → Prop} (hT : T = "list" ∨ T = "tuple") (ho : s.heap.get? a = some o) (hc : o.cls = .type T) (hd : o.data = .seq vs.toArray n) (hz : vs.length ≤ sizeLine)
    (body : ∀ h' : Heap, (∀ b o', s.heap.get? b = some o' → h'.get? b = some o') → ∀ E' : Value → Shared → Prop, wpAny (model prog w) A.in1.in1 (Builtin.«list.sort» ⟨[.ref h'.objs.size], []⟩) (fun f s' => f = .done (.ret .none) ∧ Q (.ref h'.objs.size) s') E' { s with heap := h'.push (seqObj "list" vs.toArray 0) }) :
    wpAny (model prog w) A (call (.builtin "sorted") [.ref a] []) Q E s := by
  refine call_function_entry_kw kind_sorted plain_sorted entry_sorted (args_sorted1 _) ?_
  unfold Builtin.«sorted»
  refine wpAny_bind (m := checkCount "sorted" 1 1 _) (wpAny_pure ?_)
  refine wpAny_bind (wpAny_collect_seq a hT ho hc hd (fun h' kp => ?_) (by simp only [List.size_toArray]; exact hz))
  refine wpAny_bind (wpAny_newList ?_ hz)
  refine wpAny_bind (wpAny_holding (wpAny_call_entry_kw slot_list_sort ⟨_, Heap.get?_push_size _ rfl, rfl⟩ entry_list_sort ?body (args_list_sort _)))
  case body =>
    refine wpAny_mono (body h' kp _) (fun f s' hf => ?_) fun _ _ e => e
    obtain ⟨rfl, hq⟩ := hf
    exact ⟨_, rfl, wpAny_pure ⟨_, rfl, hq⟩⟩
end

section
variable {X : Cx} {E : XK}
theorem dataLe_total (enc : D × V → PyData) : (∀ a b c, dataLe false enc a b = true → dataLe false enc b c = true → dataLe false enc a c = true) ∧ ∀ a b, (dataLe false enc a b || dataLe false enc b a) = true := by
  have t := sortLe_total (listOrd itemOrd) false fun b : D × V => keyToks (enc b)
  exact ⟨t.trans, fun a b => Bool.or_eq_true_iff.mpr (t.total a b)⟩
theorem pairs_each {K : PySem.W.Frag} {F : Hp} {μ : List Addr} : ∀ {xs : List D} {vs : List V} {us : List Value}, Reps K F μ xs vs → Vals vs us → EachIs (fun u (p : D × V) => RelV p.2 u ∧ Rep K F μ p.1 p.2) us (xs.zip vs)
  | _, _, _, .nil, .nil => .nil
  | _, _, _, .cons r rs, .cons q qs => .cons ⟨q, r⟩ (pairs_each rs qs)
theorem each_pairs {K : PySem.W.Frag} {F : Hp} {μ : List Addr} : ∀ {ps : List (D × V)} {us : List Value}, EachIs (fun u (p : D × V) => RelV p.2 u ∧ Rep K F μ p.1 p.2) us ps → Vals (ps.map (·.2)) us ∧ Reps K F μ (ps.map (·.1)) (ps.map (·.2))
  | _, _, .nil => ⟨.nil, .nil⟩
  | _, _, .cons h t => let ⟨a, b⟩ := each_pairs t; ⟨.cons h.1 a, .cons h.2 b⟩
theorem each_and {α β : Type} {R R' : α → β → Prop} : ∀ {as : List α} {bs : List β}, EachIs R as bs → (∀ a b, b ∈ bs → R a b → R' a b) → EachIs R' as bs
  | _, _, .nil, _ => .nil
  | _, _, .cons h t, f => .cons (f _ _ List.mem_cons_self h) (each_and t fun a b hb => f a b (List.mem_cons_of_mem _ hb))
theorem mem_zip_fst {α β : Type} : ∀ {xs : List α} {vs : List β} {p : α × β}, p ∈ xs.zip vs → p.1 ∈ xs
  | x :: xs, v :: vs, p, h => by
    rw [List.zip_cons_cons] at h
    rcases List.mem_cons.mp h with e | h
    · subst e; exact List.mem_cons_self
    · exact List.mem_cons_of_mem _ (mem_zip_fst h)
  | [], _, _, h => by simp at h
  | _ :: _, [], _, h => by simp at h
theorem sortable_ok {xs : List D} {vs : List V} (h : sortable xs = true) : (∀ x ∈ xs, x.shal 40 = true) ∧ AllAlike ((xs.zip vs).map fun p => p.1.pd) ∧ Sortable ((xs.zip vs).map fun p => p.1.pd) := by
  unfold sortable at h
  simp only [Bool.and_eq_true, List.all_eq_true] at h
  obtain ⟨⟨h1, h2⟩, h3⟩ := h
  refine ⟨h1, fun d hd d' hd' => ?_, ?_⟩
  · obtain ⟨p, hp, rfl⟩ := List.mem_map.mp hd
    obtain ⟨p', hp', rfl⟩ := List.mem_map.mp hd'
    exact h2 _ (mem_zip_fst hp) _ (mem_zip_fst hp')
  · rcases Bool.or_eq_true_iff.mp h3 with h3 | h3
    · refine .inl fun d hd => ?_
      obtain ⟨p, hp, rfl⟩ := List.mem_map.mp hd
      have := List.all_eq_true.mp h3 _ (mem_zip_fst hp)
      cases q : p.1 with
      | tup ys =>
        cases ys with
        | nil => rw [q] at this; cases this
        | cons y ys => exact ⟨_, _, rfl⟩
      | _ => rw [q] at this; cases this
    · refine .inr fun d hd => ?_
      obtain ⟨p, hp, rfl⟩ := List.mem_map.mp hd
      have := List.all_eq_true.mp h3 _ (mem_zip_fst hp)
      cases q : p.1 with
      | tup ys => rw [q] at this; cases this
      | non => rw [q] at this; cases this
      | ref l => 
        have z := h1 _ (mem_zip_fst hp)
        rw [q] at z; cases z
      | _ => exact ⟨fun z => by simp [D.pd] at z, fun ys z => by simp [D.pd] at z⟩
theorem cd_sorted {m : Bool} (hu : X.A.units + 64 < cLine) : CallR X (.builtin "sorted") (rN X.K E (sortedD m)) := by
  intro pins s σ H zs us Q I r h
  replace h := on1_ok h
  obtain ⟨x, F, μ, S, d, rfl, W, rd, h⟩ := h
  cases hd : rdS S d with
  | none => rw [hd] at h; exact h.elim
  | some xs =>
    rw [hd] at h
    obtain ⟨hb, h⟩ := Done.need h
    rw [Bool.and_eq_true] at hb
    obtain ⟨a, vs, rfl, hs, ra⟩ := rdS_ok W rd hd
    obtain ⟨s1, s2, s3⟩ := sortable_ok (vs := vs) hb.1
    obtain ⟨u, rfl, rx⟩ := vals1 r
    cases rx
    obtain ⟨its, rv, T, o, n, hT, ho, hc, hdd⟩ : ∃ its, Vals vs its ∧ ∃ (T : String) (o : Obj) (n : Nat), (T = "list" ∨ T = "tuple") ∧ s.heap.get? a = some o ∧ o.cls = .type T ∧ o.data = .seq its.toArray n := by
      rcases hs with hq | hq
      · obtain ⟨its, r', pl, hz⟩ := I.list hq
        obtain ⟨o, ho, hc, n, hd⟩ := pl.isList
        exact ⟨its, r', _, o, n, .inl rfl, ho, hc, hd⟩
      · obtain ⟨its, r', pl, hz⟩ := I.tuple hq
        obtain ⟨o, ho, hc, n, hd⟩ := pl
        exact ⟨its, r', _, o, n, .inr rfl, ho, hc, hd⟩
    have hl : xs.length = vs.length := ra.length
    have hli : vs.length = its.length := rv.length
    have hz : its.length ≤ sizeLine := by rw [← hli, ← hl]; exact lim_le hb.2
    refine sorted_any hT ho hc hdd hz fun h' kp E' => ?_
    let hh := h'.push (seqObj "list" its.toArray 0)
    have I1 : Inv X pins σ H { s with heap := h' } := I.kept (t' := s.toks) kp
    have hL : hh.get? h'.objs.size = some (seqObj "list" its.toArray 0) := Heap.get?_push_size _ rfl
    have I2 : Inv X pins σ H { s with heap := hh } := I1.kept (t' := s.toks) fun b o e => Heap.get?_push_of_some _ e
    have I3 : Inv X pins σ H { s with heap := sortingHeap hh h'.objs.size its } := I1.kept (t' := s.toks) fun b o e => sortingHeap_old (Nat.ne_of_lt (Heap.lt_size e)) (Heap.get?_push_of_some _ e)
    have e := pairs_each ra rv
    have er : EachIs (fun v (p : D × V) => ∃ as, Reads (sortingHeap hh h'.objs.size its) v p.1.pd as) its (xs.zip vs) := each_and e fun u p hp ⟨q1, q2⟩ => by
      obtain ⟨p1, _, _⟩ := shal_ok (s1 _ (mem_zip_fst hp))
      exact Dp.reads I3 _ _ _ (dp_of W.sub p1 q2) q1
    have hA : ∀ d, d ∈ (xs.zip vs).map (fun p => p.1.pd) → X.A.in1.in1.units + d.depth < cLine := fun d hd => by
      obtain ⟨p, hp, rfl⟩ := List.mem_map.mp hd
      obtain ⟨_, _, l1⟩ := shal_ok (s1 _ (mem_zip_fst hp))
      have : X.A.in1.in1.units = X.A.units + 2 := rfl
      omega
    refine list_sort_vals (κ := dataKind (sortingHeap hh h'.objs.size its) ((xs.zip vs).map fun p => p.1.pd)) (s := { s with heap := hh }) hL (SortsAt.data (s := { s with heap := sortingHeap hh h'.objs.size its }) (each_map (R := fun v d => ∃ as, Reads (sortingHeap hh h'.objs.size its) v d as) (fun p : D × V => p.1.pd) er) s2 s3 hA) hz ⟨rfl, ?_⟩
    have out := sortVals_data (h' := sortingHeap hh h'.objs.size its) (enc := fun p : D × V => p.1.pd) false e er s2
    have e1 : (xs.zip vs).mergeSort (dataLe false fun p : D × V => p.1.pd) = isortB (fun p q : D × V => leD p.1 q.1) (xs.zip vs) := mergeSort_isort (dataLe_total _).1 (dataLe_total _).2 _
    rw [e1] at out
    obtain ⟨o1, o2⟩ := each_pairs out
    have e2 : (isortB (fun p q : D × V => leD p.1 q.1) (xs.zip vs)).map (·.1) = isortB leD xs := by
      have := isortB_map (le := leD) (f := fun p : D × V => p.1) (xs.zip vs)
      rw [this, List.map_fst_zip (by omega)]
    rw [e2] at o2
    generalize sortVals (dataKind (sortingHeap hh h'.objs.size its) ((xs.zip vs).map fun p => p.1.pd)) false its its = outv at o1
    generalize (isortB (fun p q : D × V => leD p.1 q.1) (xs.zip vs)).map (·.2) = ws at o1 o2
    have hws : ws.length ≤ sizeLine := by
      rw [← o2.length, isortB_len]
      exact lim_le hb.2
    obtain ⟨ep, he'⟩ := sortedHeap_at (vs := its) (out := outv.toArray) hL
    have hfr : H h'.objs.size = none := I1.hok.fresh (Nat.le_refl _)
    obtain ⟨_, _, _, _, h1, h2⟩ := newL_ok (P := PV X.K Q) W o2 h hfr
    refine ⟨.ref h'.objs.size, upd H h'.objs.size (.lst ws), I1.laid (t' := s.toks) (fun b o e => ?_) (Nat.le_refl _) ⟨hws, outv, ep, o1, he'⟩, rfl, h1 _ h2⟩
    rw [sortedHeap_old (Nat.ne_of_lt (Heap.lt_size e)) (Nat.lt_of_lt_of_le (Heap.lt_size e) (by rw [size_push']; exact Nat.le_succ _))]
    exact Heap.get?_push_of_some _ e
end
end MM

set_option Elab.async false
set_option linter.all false
set_option maxRecDepth 100000
/-! x = zip(a, b), walked by the statement behind it. -/
namespace MM
open PySem PySem.Spec PyProof.Rows L2

def ObjO (a : Addr) (o : Obj) : HO := .ext fun h => h.get? a = some o
theorem objO_ok {P : Program} {w : World} {H : Hp} {h : Heap} {a : Addr} {o : Obj} (e : h.get? a = some o) : ObjOk P w H h a (ObjO a o) := ⟨e, ⟨o, e⟩, fun _ _ p k => k o p⟩
theorem objO_get {P : Program} {w : World} {H : Hp} {h : Heap} {a : Addr} {o : Obj} (e : ObjOk P w H h a (ObjO a o)) : h.get? a = some o := e.1
/-- H is H0 and an iterator at rest -/
structure Pz (P : Program) (w : World) (K : PySem.W.Frag) (n : Nat) (H0 H : Hp) (z : Addr) (J : It) : Prop where
  ex : ∃ ch : List (Addr × Obj), (∀ p ∈ ch, n ≤ p.1 ∧ H0 p.1 = none ∧ H p.1 = some (ObjO p.1 p.2)) ∧ (∀ a, (∀ p ∈ ch, a ≠ p.1) → H a = H0 a) ∧
    ∀ (elts : List Expr) (kk : Nat) (tpos : Pos), ∃ St : Nat → Heap → Prop, Turn P w K (.Tuple elts kk tpos) J (ch.map (·.1)) z St ∧ ∀ h : Heap, (∀ p ∈ ch, h.get? p.1 = some p.2) → St 0 h
/-- .. held by the slot k -/
def iPz (P : Program) (w : World) (K : PySem.W.Frag) (n : Nat) (k : Nat) : TI := fun σ H R => ∃ z H0 J, σ[k]? = some (some (.ref z)) ∧ Pz P w K n H0 H z J ∧ R J H0
section
variable {X : Cx} {k : Nat} {x : Str} {p pos tpos : Pos} {elts : List Expr} {kk : Nat}
theorem pi_pz (hN : X.N[k]? = some x) (hv : Vis X.env.scope x := by first | exact Or.inl rfl | exact Or.inr (Or.inl rfl) | exact Or.inr (Or.inr rfl)) (hd : (x == ("__debug__" : Str)) = false := by decide) (hcd : (x == ("__classdict__" : Str)) = false := by decide) :
    PI X (.Tuple elts kk tpos) (.Name x p) (iPz X.prog X.w X.K X.s_0.heap.objs.size k) := by
  refine ⟨fun pins s σ H R I h => ?_⟩
  obtain ⟨z, H0, J, hs, ⟨ch, h1, h2, h3⟩, q⟩ := h
  refine thn ((pe_var (pos := p) (i := k) hN hv hd hcd).run pins s σ H (fun v H1 => v = .ref z ∧ H1 = H) I ⟨.ref z, hs, rfl, rfl⟩) fun u s1 ⟨v, H1, I1, r1, ev, eH⟩ => ?_
  subst ev
  rw [eH] at I1
  cases r1
  obtain ⟨St, T, h4⟩ := h3 elts kk tpos
  have st : St 0 s1.heap := h4 _ fun p hp => objO_get (I1.hok _ _ (h1 p hp).2.2)
  have other : ∀ b u, H b = some u → (∀ ψ, u ≠ .ext ψ) → H0 b = some u := fun b u e n => by
    rw [← h2 b fun p hp z => ?_]
    · exact e
    · rw [z, (h1 p hp).2.2] at e
      exact n _ (Option.some.inj e).symm
  have non : ∀ b, H b = none → H0 b = none := fun b e => by
    rw [← h2 b fun p hp z => ?_]
    · exact e
    · rw [z, (h1 p hp).2.2] at e
      cases e
  have hok : HOk X.prog X.w H0 s1.heap := fun b u e => by
    have e' : H b = some u := by
      rw [h2 b fun p hp z => ?_]
      · exact e
      · rw [z, (h1 p hp).2.1] at e
        cases e
    exact (I1.hok b u e').stay (fun _ _ _ z => z) (fun c z => other c _ z fun _ w => (nomatch w)) fun c xs z => other c _ z fun _ w => (nomatch w)
  have un : Un X.fs [] H H0 s1.heap s1.heap := ⟨fun _ _ e _ _ _ => e, fun _ o e _ _ _ => ⟨o.slots, e⟩, fun b _ _ z _ => non b z, fun _ o e _ => ⟨o, e⟩, fun b xs z => other b _ z fun _ w => (nomatch w),
    fun b o x z => other b _ z fun _ w => (nomatch w), fun b ps z => ⟨#[], by rw [other b _ z fun _ w => (nomatch w)]; simp⟩⟩
  have I2 : Inv X pins σ H0 s1 := I1.un (t' := s1.toks) un hok
  refine T.self X.A 0 s1 _ _ st ?_
  refine ⟨z, ch.map (·.1), St, J, H0, rfl, I2, T, st, fun b hb => ?_, q⟩
  obtain ⟨p, hp, rfl⟩ := List.mem_map.mp hb
  obtain ⟨g1, g2, g3⟩ := h1 p hp
  refine ⟨g2, fun z => ?_, fun z => ?_, .inr g1, fun x c e z => ?_, fun p' hp' z => ?_⟩
  · rw [z, I1.free] at g3
    cases g3
  · obtain ⟨_, o, ho, _⟩ := I1.ok.funs.mem z
    exact absurd (Nat.lt_of_lt_of_le (Heap.lt_size ho) g1) (Nat.lt_irrefl _)
  · have q := I1.freeC x c e
    rw [z, g3] at q
    cases q
  · have q := (I1.pin p' hp').2.1
    rw [z, g3] at q
    cases q
/-- five new objects, tracked as they are -/
theorem track {P : Program} {w : World} {K : PySem.W.Frag} {pins : List (Addr × Obj)} {σ : L2.St} {H : Hp} {s : Shared} {h' : Heap} (I : Inv X pins σ H s) (ch : List (Addr × Obj)) (kp : ∀ b o, s.heap.get? b = some o → h'.get? b = some o)
    (hn : ∀ p ∈ ch, s.heap.objs.size ≤ p.1) (hg : ∀ p ∈ ch, h'.get? p.1 = some p.2) : ∃ H2 : Hp, Inv X pins σ H2 { s with heap := h' } ∧ (∀ p ∈ ch, X.s_0.heap.objs.size ≤ p.1 ∧ H p.1 = none ∧ H2 p.1 = some (ObjO p.1 p.2)) ∧ ∀ a, (∀ p ∈ ch, a ≠ p.1) → H2 a = H a := by
  let H2 : Hp := fun a => match ch.find? (fun p => p.1 == a) with
    | some p => match h'.get? a with
      | some o => some (ObjO a o)
      | none => none
    | none => H a
  have at_ : ∀ p ∈ ch, H2 p.1 = some (ObjO p.1 p.2) := fun p hp => by
    have hf : (ch.find? (fun q => q.1 == p.1)).isSome = true := List.find?_isSome.mpr ⟨p, hp, by simp⟩
    show (match ch.find? (fun q => q.1 == p.1) with | some q => (match h'.get? p.1 with | some o => some (ObjO p.1 o) | none => none) | none => H p.1) = _
    cases q : ch.find? (fun q => q.1 == p.1) with
    | none => rw [q] at hf; cases hf
    | some p' => rw [hg p hp]
  have off : ∀ a, (∀ p ∈ ch, a ≠ p.1) → H2 a = H a := fun a ha => by
    have hf : ch.find? (fun q => q.1 == a) = none := List.find?_eq_none.mpr fun p hp z => ha p hp (by simpa using Eq.symm (eq_of_beq z))
    show (match ch.find? (fun q => q.1 == a) with | some q => (match h'.get? a with | some o => some (ObjO a o) | none => none) | none => H a) = _
    rw [hf]
  have fresh : ∀ p ∈ ch, H p.1 = none := fun p hp => I.hok.fresh (hn p hp)
  have old : ∀ b u, H b = some u → H2 b = some u := fun b u e => by
    rw [off b fun p hp z => ?_]
    · exact e
    · rw [z, fresh p hp] at e; cases e
  have un : Un X.fs [] H H2 s.heap h' := ⟨fun _ _ e _ _ _ => kp _ _ e, fun _ o e _ _ _ => ⟨o.slots, kp _ _ e⟩, fun b o e z _ => by
      rw [off b fun p hp z' => absurd (Heap.lt_size e) (by rw [z']; exact Nat.not_lt.mpr (hn p hp))]
      exact z, fun _ o e _ => ⟨o, kp _ _ e⟩, fun b xs z => old b _ z,
    fun b o x z => old b _ z, fun b ps z => ⟨#[], by rw [old b _ z]; simp⟩⟩
  have hok : HOk X.prog X.w H2 h' := fun b u e => by
    by_cases hb : ∃ p ∈ ch, b = p.1
    · obtain ⟨p, hp, rfl⟩ := hb
      rw [at_ p hp] at e
      cases e
      exact objO_ok (hg p hp)
    · have hb' : ∀ p ∈ ch, b ≠ p.1 := fun p hp z => hb ⟨p, hp, z⟩
      rw [off b hb'] at e
      exact (I.hok b u e).stay (fun _ _ _ z => kp _ _ z) (fun c z => old c _ z) fun c xs z => old c _ z
  exact ⟨H2, I.un (t' := s.toks) un hok, fun p hp => ⟨Nat.le_trans I.sz (hn p hp), fresh p hp, at_ p hp⟩, off⟩
def tZipE (P : Program) (w : World) (K : PySem.W.Frag) (n : Nat) (ta : TA) : TE := fun σ H Q => ta σ H fun vs H1 => ∃ a b xs ys, vs = [.ref a, .ref b] ∧
  ((SqL K H1 a xs ∧ SqL K H1 b ys ∧ ∀ z H2, Pz P w K n H1 H2 z (Itz K a b) → Q (.ref z) H2) ∨ (SqT K H1 a xs ∧ SqT K H1 b ys ∧ ∀ z H2, Pz P w K n H1 H2 z (RZ.ItzT K a b) → Q (.ref z) H2))
theorem pe_zip {e e2 : Expr} {ta : TA} (hg : Gl X "zip") (hm : X.mg "zip" = none) (ha : PA X [e, e2] ta)
    (hs : starEach [e, e2] X.env = (false, eval e X.env) :: starEach [e2] X.env := by rfl) (hpl : (backTo pos (starEach [e2] X.env)).any (·.1) = false := by rfl) :
    PE X (.Call (.Name "zip" p) [e, e2] [] pos) (tZipE X.prog X.w X.K X.s_0.heap.objs.size ta) := by
  refine ⟨fun pins s σ H R I h => ?_⟩
  refine Call_ (ld_blt I hg hm PyProof.Rows.boot_zip (PyProof.Rows.callWith_type1 (thn (ha.run pos pins s σ H _ I h) fun us s1 ⟨vs, H1, I1, r1, q1⟩ => ?_) hs hpl))
  obtain ⟨a, b, xs, ys, ex, q1⟩ := q1
  subst ex
  cases r1 with
  | cons r rr =>
    cases rr with
    | cons r' rr =>
      cases rr
      cases r
      cases r'
      rcases q1 with ⟨hqx, hqy, q⟩ | ⟨hqx, hqy, q⟩
      · obtain ⟨its, rv, p1, _⟩ := I1.list hqx
        obtain ⟨its2, rv2, p2, _⟩ := I1.list hqy
        refine call_zip_2 p1.isList p2.isList fun h' hz hTI hTO h1 h2 hsz hk => ?_
        obtain ⟨o1, e1, c1, d1⟩ := id h1
        obtain ⟨o2, e2, c2, d2⟩ := id h2
        let oz := ((h'.get? (s1.heap.objs.size + 4)).getD default)
        obtain ⟨H2, I2, k1, k2⟩ := track (P := X.prog) (w := X.w) (K := X.K) I1 [(s1.heap.objs.size + 4, _), (s1.heap.objs.size + 2, _), (s1.heap.objs.size + 3, _), (s1.heap.objs.size, o1), (s1.heap.objs.size + 1, o2)] hk (by
          intro p hp
          simp only [List.mem_cons, List.not_mem_nil, or_false] at hp
          rcases hp with rfl | rfl | rfl | rfl | rfl <;> simp) (by
          intro p hp
          simp only [List.mem_cons, List.not_mem_nil, or_false] at hp
          rcases hp with rfl | rfl | rfl | rfl | rfl
          · exact hz
          · exact hTI
          · exact hTO
          · exact e1
          · exact e2)
        refine ⟨.ref _, H2, I2, rfl, q _ H2 ⟨_, k1, k2, fun elts kk tpos => ⟨_, turn_zip (PySem.W.ktu_apart s1.heap.objs.size a b p1.lt p2.lt), fun h hh => ?_⟩⟩⟩
        simp only [List.mem_cons, List.not_mem_nil, or_false] at hh
        refine ⟨hh (_, _) (.inl rfl), hh (_, _) (.inr (.inl rfl)), ⟨_, _, hh (_, _) (.inr (.inr (.inl rfl)))⟩, ⟨o1, hh (_, _) (.inr (.inr (.inr (.inl rfl)))), c1, d1⟩, ⟨o2, hh (_, _) (.inr (.inr (.inr (.inr rfl)))), c2, d2⟩⟩
      · obtain ⟨its, rv, p1, _⟩ := I1.tuple hqx
        obtain ⟨its2, rv2, p2, _⟩ := I1.tuple hqy
        obtain ⟨oo1, ho1, _⟩ := id p1
        obtain ⟨oo2, ho2, _⟩ := id p2
        refine RZ.call_zipT (show s1.heap.IsTuple a its.toArray from p1) (show s1.heap.IsTuple b its2.toArray from p2) fun h' hz hTI hTO h1 h2 hsz hk => ?_
        obtain ⟨o1, e1, c1, d1⟩ := id h1
        obtain ⟨o2, e2, c2, d2⟩ := id h2
        obtain ⟨H2, I2, k1, k2⟩ := track (P := X.prog) (w := X.w) (K := X.K) I1 [(s1.heap.objs.size + 4, _), (s1.heap.objs.size + 2, _), (s1.heap.objs.size + 3, _), (s1.heap.objs.size, o1), (s1.heap.objs.size + 1, o2)] hk (by
          intro p hp
          simp only [List.mem_cons, List.not_mem_nil, or_false] at hp
          rcases hp with rfl | rfl | rfl | rfl | rfl <;> simp) (by
          intro p hp
          simp only [List.mem_cons, List.not_mem_nil, or_false] at hp
          rcases hp with rfl | rfl | rfl | rfl | rfl
          · exact hz
          · exact hTI
          · exact hTO
          · exact e1
          · exact e2)
        refine ⟨.ref _, H2, I2, rfl, q _ H2 ⟨_, k1, k2, fun elts kk tpos => ⟨_, RZ.turn_zipT (PySem.W.ktu_apart s1.heap.objs.size a b (Heap.lt_size ho1) (Heap.lt_size ho2)), fun h hh => ?_⟩⟩⟩
        simp only [List.mem_cons, List.not_mem_nil, or_false] at hh
        refine ⟨hh (_, _) (.inl rfl), hh (_, _) (.inr (.inl rfl)), ⟨_, _, hh (_, _) (.inr (.inr (.inl rfl)))⟩, ⟨o1, hh (_, _) (.inr (.inr (.inr (.inl rfl)))), c1, d1⟩, ⟨o2, hh (_, _) (.inr (.inr (.inr (.inr rfl)))), c2, d2⟩⟩
end
end MM

set_option Elab.async false
set_option linter.all false
set_option maxRecDepth 100000
/-! zip: the mirrors. -/
namespace MM
open PySem PySem.Spec PyProof.Rows L2

def zipD : List D → List D → List D
  | x :: xs, y :: ys => .tup [x, y] :: zipD xs ys
  | _, _ => []
theorem zipD_eq : ∀ xs ys : List D, (List.range (min xs.length ys.length)).map (fun i => D.tup [xs.getD i .non, ys.getD i .non]) = zipD xs ys
  | [], ys => by simp [zipD]
  | _ :: _, [] => by simp [zipD]
  | x :: xs, y :: ys => by
    rw [List.length_cons, List.length_cons, Nat.succ_min_succ, List.range_succ_eq_map, List.map_cons, List.map_map]
    show D.tup [x, y] :: _ = D.tup [x, y] :: zipD xs ys
    rw [← zipD_eq xs ys]
    rfl
section
variable {K : PySem.W.Frag} {F : Hp} {μ : List Addr} {a b : Addr} {xs ys : List D} {vs us : List V}
theorem getD_rep (r : Reps K F μ xs vs) {i : Nat} {x : V} (e : vs[i]? = some x) : Rep K F μ (xs.getD i .non) x := by
  obtain ⟨d, h1, h2⟩ := r.get' e
  rw [List.getD_eq_getElem?_getD, h1]
  exact h2
theorem it_zip (ha : SqL K F a vs) (hb : SqL K F b us) (ra : Reps K F μ xs vs) (rb : Reps K F μ ys us) : ItOk K F μ (Itz K a b) (zipD xs ys) := by
  rw [← zipD_eq]
  exact it_pair (walk_zip (by rw [ra.length, rb.length])) (fun H F1 μ1 S1 W f m => ⟨sqL_mono W.sub (sqL_mono f ha), sqL_mono W.sub (sqL_mono f hb)⟩) (fun i x _ e => getD_rep ra e) fun i x _ e => getD_rep rb e
theorem walk_zipT {xs ys : List V} {n : Nat} (hn : n = min xs.length ys.length) : Walk (RZ.ItzT K a b) n (fun H => SqT K H a xs ∧ SqT K H b ys) (YPair (fun i => xs[i]?) (fun i => ys[i]?)) where
  goes i H hi q := ⟨xs, ys, xs[i]'(by omega), ys[i]'(by omega), q.1, q.2, List.getElem?_eq_getElem (by omega), List.getElem?_eq_getElem (by omega)⟩
  yields i H x H' hi q y := by
    obtain ⟨T, u, v, rfl, hT, rfl, h1, h2⟩ := y
    exact ⟨T, u, v, rfl, hT, rfl, h1 _ q.1, h2 _ q.2⟩
  stops H q := ⟨xs, ys, q.1, q.2, by omega⟩
theorem it_zipT (ha : SqT K F a vs) (hb : SqT K F b us) (ra : Reps K F μ xs vs) (rb : Reps K F μ ys us) : ItOk K F μ (RZ.ItzT K a b) (zipD xs ys) := by
  rw [← zipD_eq]
  exact it_pair (walk_zipT (by rw [ra.length, rb.length])) (fun H F1 μ1 S1 W f m => ⟨sqT_mono W.sub (sqT_mono f ha), sqT_mono W.sub (sqT_mono f hb)⟩) (fun i x _ e => getD_rep ra e) fun i x _ e => getD_rep rb e
end
def zip2 (ds : List D) (S : Store) : R (List D) := match ds with
  | [.tup xs, .tup ys] => .ok (zipD xs ys) S
  | [d, e] => (lstOf d S).bind fun xs S1 => (lstOf e S1).bind fun ys S2 => .ok (zipD xs ys) S2
  | _ => .no
theorem zip2_ok {K : PySem.W.Frag} {E : XK} {H F : Hp} {μ : List Addr} {S : Store} {ds : List D} {ws : List V} {P : List D → Store → Hp → Hp → List Addr → Prop} (W : Wd K H F μ S) (r : Reps K F μ ds ws) (h : Done K E H F μ S (zip2 ds S) P) :
    ∃ F' S' xs a b vs us, ws = [.ref a, .ref b] ∧ Ext H F μ S H F' μ S' ∧ Wd K H F' μ S' ∧ P xs S' H F' μ ∧ ((SqL K F' a vs ∧ SqL K F' b us ∧ ItOk K F' μ (Itz K a b) xs) ∨ (SqT K F' a vs ∧ SqT K F' b us ∧ ItOk K F' μ (RZ.ItzT K a b) xs)) := by
  cases r with
  | nil => exact h.elim
  | cons r1 r =>
    cases r with
    | nil => cases r1 <;> exact h.elim
    | cons r2 r =>
      cases r with
      | cons => cases r1 <;> cases r2 <;> exact h.elim
      | nil =>
        rename_i d1 v1 d2 v2
        have gen : Done K E H F μ S ((lstOf d1 S).bind fun xs S1 => (lstOf d2 S1).bind fun ys S2 => .ok (zipD xs ys) S2) P → ∃ F' S' xs a b vs us, [v1, v2] = [V.ref a, V.ref b] ∧ Ext H F μ S H F' μ S' ∧ Wd K H F' μ S' ∧ P xs S' H F' μ ∧ ((SqL K F' a vs ∧ SqL K F' b us ∧ ItOk K F' μ (Itz K a b) xs) ∨ (SqT K F' a vs ∧ SqT K F' b us ∧ ItOk K F' μ (RZ.ItzT K a b) xs)) := fun h => by
          obtain ⟨F1, S1, xs, a, vs, rfl, e1, W1, h1, q1, h⟩ := lstOf_ok W r1 (Done.split W h)
          obtain ⟨F2, S2, ys, b, us, rfl, e2, W2, h2, q2, h⟩ := lstOf_ok W1 (r2.ext e1) (Done.split W1 h)
          exact ⟨F2, S2, zipD xs ys, a, b, vs, us, rfl, e1.trans W e2, W2, h.here W2, .inl ⟨sqL_mono e2.fz h1, h2, it_zip (sqL_mono e2.fz h1) h2 (q1.ext e2) q2⟩⟩
        cases r1 with
        | tup ha ra =>
          cases r2 with
          | tup hb rb => exact ⟨F, S, _, _, _, _, _, rfl, .refl, W, Done.here W h, .inr ⟨ha, hb, it_zipT ha hb ra rb⟩⟩
          | lst ha ra => exact gen h
          | scr ha ra => exact gen h
          | ref ha => exact gen h
          | _ => exact (gen h)
        | lst ha ra => exact gen (by cases r2 <;> exact h)
        | scr ha ra => exact gen (by cases r2 <;> exact h)
        | ref ha => exact gen (by cases r2 <;> exact h)
        | _ => exact gen (by cases r2 <;> exact h)
def miZip (as : MA) : MI := fun σ S => (as σ S).bind zip2
section
variable {X : Cx} {E : XK} {e e2 : Expr} {mas : MA} {p pos tpos : Pos} {elts : List Expr} {kk : Nat}
theorem si_zip (hg : Gl X "zip") (hm : X.mg "zip" = none) (ha : PA X [e, e2] (tA X.K E mas)) (hs : starEach [e, e2] X.env = (false, eval e X.env) :: starEach [e2] X.env := by rfl) (hpl : (backTo pos (starEach [e2] X.env)).any (·.1) = false := by rfl) :
    PI X (.Tuple elts kk tpos) (.Call (.Name "zip" p) [e, e2] [] pos) (tI X.K E (miZip mas)) :=
  (RZ.pi_zipA hg hm ha hs hpl).imp fun τ H Q ⟨F, μ, σ, S, W, hs, h⟩ => ⟨F, μ, σ, S, W, hs, (h.split W).mono fun ds S1 H1 F1 μ1 e1 W1 h1 vs q => by
    obtain ⟨F2, S2, xs, a, b, us, ws, rfl, e2, W2, h2, hz⟩ := zip2_ok W1 q h1
    rcases hz with ⟨h3, h4, h5⟩ | ⟨h3, h4, h5⟩
    · exact ⟨a, b, us, ws, rfl, .inl ⟨sqL_mono W2.sub h3, sqL_mono W2.sub h4, h2 _ h5⟩⟩
    · exact ⟨a, b, us, ws, rfl, .inr ⟨sqT_mono W2.sub h3, sqT_mono W2.sub h4, h2 _ h5⟩⟩⟩
end
/-! ### x = zip(..); then a statement that walks x once -/
section
variable (P : Program) (w : World) (K : PySem.W.Frag) (E : XK) (n k : Nat) (items : List D)
/-- the worlds without the iterator -/
def tEz (m : ME) : TE := fun τ H Q => ∃ H0 F μ σ S z J, τ[k]? = some (some (.ref z)) ∧ Pz P w K n H0 H z J ∧ ItOk K F μ J items ∧ Wd K H0 F μ S ∧ Sl K F μ σ τ ∧ Done K E H0 F μ S (m σ S) (fun d _ H' F' μ' => ∀ v, Rep K F' μ' d v → Q v H')
def tAz (m : MA) : TA := fun τ H Q => ∃ H0 F μ σ S z J, τ[k]? = some (some (.ref z)) ∧ Pz P w K n H0 H z J ∧ ItOk K F μ J items ∧ Wd K H0 F μ S ∧ Sl K F μ σ τ ∧ Done K E H0 F μ S (m σ S) (fun d _ H' F' μ' => ∀ v, Reps K F' μ' d v → Q v H')
def tSz (m : MS) : TS := fun D τ H => ∃ H0 F μ σ S z J, τ[k]? = some (some (.ref z)) ∧ Pz P w K n H0 H z J ∧ ItOk K F μ J items ∧ Wd K H0 F μ S ∧ Sl K F μ σ τ ∧ DoneS K E H0 F μ S (m σ S) D
end
def miK (items : List D) : MI := fun _ S => .ok items S
def mZip (k : Nat) (as : MA) (body : List D → MS) : MS := fun σ S => (as σ S).toO fun ds S1 => (zip2 ds S1).toO fun xs S2 => body xs (σ.set k none) S2
section
variable {X : Cx} {E : XK} {k : Nat} {items : List D} {x : Str} {e e2 a : Expr} {es : List Expr} {mas : MA} {m ma : ME} {ms : MS} {p pos tpos : Pos} {elts : List Expr} {kk : Nat}
abbrev zE (X : Cx) (E : XK) (k : Nat) (items : List D) (m : ME) : TE := tEz X.prog X.w X.K E X.s_0.heap.objs.size k items m
abbrev zA (X : Cx) (E : XK) (k : Nat) (items : List D) (m : MA) : TA := tAz X.prog X.w X.K E X.s_0.heap.objs.size k items m
abbrev zS (X : Cx) (E : XK) (k : Nat) (items : List D) (m : MS) : TS := tSz X.prog X.w X.K E X.s_0.heap.objs.size k items m
theorem z_lcF {fin : List D → Store → R D} {elt : Expr} {ifs : List Expr} {scope : Scope} {own : List (Str × Nat)} {mt : MT} {me : ME} {g : MG} {ow : List Nat} (hc : X.calm = true) (hN : X.N.Nodup) (ok : BlkOk X.N X.env.scope scope own)
    (hfin : ∀ {Q : VK} {H1 F1 μ1 S1 H F μ S p ys vs}, Wd X.K H1 F1 μ1 S1 → H1 p = none → Ext H1 F1 μ1 S1 H F μ S → Wd X.K H F μ S → Aside H F μ p (.lst vs) → Reps X.K F μ ys vs → Done X.K E H1 F1 μ1 S1 (fin ys S) (fun d _ H' F' μ' => ∀ v, Rep X.K F' μ' d v → Q v H') → Q (.ref p) H)
    (hg : ∀ (s : Shared) (H : Hp) (C : Addr) (cl : List (Str × Addr)) (fp : List Addr), PG (X.blk s H scope (compEnvC scope cl C X.env) fp) (.Tuple elts kk tpos) (tG X.K E0 ow g)) (ht : ∀ (s : Shared) (H : Hp) (C : Addr) (cl : List (Str × Addr)) (fp : List Addr), PTs (X.blk s H scope (compEnvC scope cl C X.env) fp) ifs (tT X.K E0 mt))
    (he : ∀ (s : Shared) (H : Hp) (C : Addr) (cl : List (Str × Addr)) (fp : List Addr), PE (X.blk s H scope (compEnvC scope cl C X.env) fp) elt (tE X.K E0 me)) (hk : X.N[k]? = some x := by rfl) (hvis : Vis X.env.scope x := by first | exact Or.inl rfl | exact Or.inr (Or.inl rfl) | exact Or.inr (Or.inr rfl)) (hd : (x == ("__debug__" : Str)) = false := by decide) (hcd : (x == ("__classdict__" : Str)) = false := by decide)
    (hv : ∀ i ∈ ow, i ∈ own.map (·.2) := by decide) (hs : ∀ y, foldedSetIterable (.Name x p) X.env y = pure y := by intro _; rfl) :
    PE X (.ListComp elt [⟨.Tuple elts kk tpos, .Name x p, ifs, 0⟩] scope pos) (zE X E k items (mLcF fin (own.map (·.2)) (miK items) g mt me)) :=
  (pe_lc hc hN (pi_pz hk hvis hd hcd) ok hg ht he hs).imp fun τ H Q ⟨H0, F, μ, σ, S, z, J, hz, hp, hJ, W, hs, h⟩ => ⟨z, H0, J, hz, hp, lc_go (E := E) (fun a b c d e f => hfin a b c d e f) W hs hJ hv h⟩
theorem z_one (ha : PE X e (zE X E k items m)) (hs : starEach [e] X.env = (false, eval e X.env) :: starEach [] X.env := by rfl) : PA X [e] (zA X E k items (mCons m mNil)) :=
  (pa_cons ha pa_nil hs).imp fun τ H Q ⟨H0, F, μ, σ, S, z, J, hz, hp, hJ, W, hs, h⟩ => ⟨H0, F, μ, σ, S, z, J, hz, hp, hJ, W, hs, (Done.split W h).mono fun d S1 H1 F1 μ1 e1 W1 h1 v q => h1.here W1 _ (.cons q .nil)⟩
theorem z_callB {p : Pos} {id : String} {f : List D → Store → R D} (hc : CallR X (.builtin id) (rN X.K E f)) (hg : Gl X x) (hm : X.mg x = none) (hv : bootBuiltins x = some (.builtin id)) (ha : PA X (e :: es) (zA X E k items mas)) (hn : x ≠ "__name__" := by decide) (hdb : (x == ("__debug__" : Str)) = false := by decide)
    (he : starEach (e :: es) X.env = (false, eval e X.env) :: starEach es X.env := by rfl) (hpl : (backTo pos (starEach es X.env)).any (·.1) = false := by rfl) : PE X (.Call (.Name x p) (e :: es) [] pos) (zE X E k items (mN f mas)) :=
  (pe_callB hc hg hm hv ha hn hdb he hpl).imp fun τ H Q ⟨H0, F, μ, σ, S, z, J, hz, hp, hJ, W, hs, h⟩ => ⟨H0, F, μ, σ, S, z, J, hz, hp, hJ, W, hs, (h.split W).mono fun xs S1 H1 F1 μ1 e1 W1 h1 vs q => ⟨F1, μ1, S1, xs, W1, q, h1⟩⟩
theorem z_callTy {p : Pos} {T : String} {f : List D → Store → R D} (hc : CallR X (.type T) (rN X.K E f)) (hg : Gl X x) (hm : X.mg x = none) (hv : bootBuiltins x = some (.type T)) (ha : PA X (e :: es) (zA X E k items mas)) (hn : x ≠ "__name__" := by decide) (hdb : (x == ("__debug__" : Str)) = false := by decide)
    (he : starEach (e :: es) X.env = (false, eval e X.env) :: starEach es X.env := by rfl) (hpl : (backTo pos (starEach es X.env)).any (·.1) = false := by rfl) : PE X (.Call (.Name x p) (e :: es) [] pos) (zE X E k items (mN f mas)) :=
  (pe_callTy hc hg hm hv ha hn hdb he hpl).imp fun τ H Q ⟨H0, F, μ, σ, S, z, J, hz, hp, hJ, W, hs, h⟩ => ⟨H0, F, μ, σ, S, z, J, hz, hp, hJ, W, hs, (h.split W).mono fun xs S1 H1 F1 μ1 e1 W1 h1 vs q => ⟨F1, μ1, S1, xs, W1, q, h1⟩⟩
theorem z_not (ha : PE X a (zE X E k items ma)) : PE X (.UnaryOp .Not a pos) (zE X E k items (mNot ma)) :=
  (pe_not ha).imp fun τ H Q ⟨H0, F, μ, σ, S, z, J, hz, hp, hJ, W, hs, h⟩ => ⟨H0, F, μ, σ, S, z, J, hz, hp, hJ, W, hs, (h.split W).mono fun d S1 H1 F1 μ1 e1 W1 h1 v q => by
    cases q with
    | bl c => exact ⟨c, rfl, h1.here W1 _ (.bl _)⟩
    | _ => exact h1.elim⟩
theorem z_ret (he : PE X e (zE X E k items m)) : PS X (.Return (some e) pos) (zS X E k items (mRet m)) :=
  (ps_ret he).imp fun D τ H ⟨H0, F, μ, σ, S, z, J, hz, hp, hJ, W, hs, h⟩ => ⟨H0, F, μ, σ, S, z, J, hz, hp, hJ, W, hs, (h.split W).mono fun d S1 H1 F1 μ1 e1 W1 h1 v q => h1 H1 F1 μ1 v .refl W1 q⟩
theorem Pz.start {P : Program} {w : World} {K : PySem.W.Frag} {n : Nat} {H0 H : Hp} {z : Addr} {J : It} (h : Pz P w K n H0 H z J) : Pz P w K n H0 H z J := h
theorem _root_.MM.Sl.hide {K : PySem.W.Frag} {F : Hp} {μ : List Addr} {σ : Sg} {τ : L2.St} {v : V} (h : Sl K F μ σ τ) (k : Nat) : Sl K F μ (σ.set k none) (τ.set k (some v)) := by
  refine ⟨by simp [h.len], fun j e q => ?_⟩
  by_cases hj : k = j
  · subst hj
    by_cases hi : k < σ.length
    · rw [List.getElem?_set_self hi] at q; cases q
    · rw [List.getElem?_eq_none (by simpa using hi)] at q; cases q
  · rw [List.getElem?_set_ne hj] at q ⊢
    exact h.get j e q
theorem ss_zip {st : Stmt} {xp spos : Pos} {body : List D → MS} (hN : X.N.Nodup) (hg : Gl X "zip") (hm : X.mg "zip" = none) (ha : PA X [e, e2] (tA X.K E mas)) (hb : ∀ items, PS X st (zS X E k items (body items))) (hi : X.N[k]? = some x := by rfl)
    (hx : Loc X.env.scope x := by first | exact Or.inl rfl | exact Or.inr rfl) (hsw : swapsWith (.Call (.Name "zip" p) [e, e2] [] pos) (some (.Name x xp)) spos.line X.env = pure false := by rfl) (hf : X.fn x = true ∨ X.env.scope.names.lookup x = some .local := by first | exact .inl rfl | exact .inr rfl)
    (hs : starEach [e, e2] X.env = (false, eval e X.env) :: starEach [e2] X.env := by rfl) (hpl : (backTo pos (starEach [e2] X.env)).any (·.1) = false := by rfl) :
    PSs X [.Assign [.Name x xp] (.Call (.Name "zip" p) [e, e2] [] pos) spos, st] (tS X.K E (mZip k mas body)) := by
  refine ⟨fun pins s σ H D I h => ?_⟩
  refine (pss_cons (ps_set hN hi hx (pe_zip hg hm ha hs hpl) hsw hf) (pss_one (t := fun D σ H => ∃ items, zS X E k items (body items) D σ H) ⟨fun pins s σ H D I ⟨items, h⟩ => (hb items).run pins s σ H D I h⟩)).run pins s σ H D I ?_
  obtain ⟨F, μ, σ', S, W, hs, h⟩ := h
  refine ⟨F, μ, σ', S, W, hs, (h.split W).mono fun ds S1 H1 F1 μ1 e1 W1 h1 vs q => ?_⟩
  have hk : k < σ.length := by
    rw [I.len]
    exact (List.getElem?_eq_some_iff.mp hi).1
  obtain ⟨F2, S2, xs, a, b, us, ws, rfl, e2, W2, h2, hz⟩ := zip2_ok (E := E) W1 q (DoneS.split (D := D) W1 h1)
  have fin : ∀ {J : It} {z : Addr} {H2 : Hp}, ItOk X.K F2 μ1 J xs → Pz X.prog X.w X.K X.s_0.heap.objs.size H1 H2 z J → zS X E k xs (body xs) D (σ.set k (some (.ref z))) H2 := fun {J z H2} hJ hp =>
    ⟨H1, F2, μ1, _, S2, z, J, by rw [List.getElem?_set_self hk], hp, hJ, W2, ((hs.ext e1).ext e2).hide k, h2⟩
  rcases hz with ⟨h3, h4, h5⟩ | ⟨h3, h4, h5⟩
  · exact ⟨a, b, us, ws, rfl, .inl ⟨sqL_mono W2.sub h3, sqL_mono W2.sub h4, fun z H2 hp => ⟨xs, fin h5 hp⟩⟩⟩
  · exact ⟨a, b, us, ws, rfl, .inr ⟨sqT_mono W2.sub h3, sqT_mono W2.sub h4, fun z H2 hp => ⟨xs, fin h5 hp⟩⟩⟩
end
end MM

set_option Elab.async false
set_option linter.all false
set_option maxRecDepth 100000
/-! Chains of comparisons; a, b, c = ..; repr; comparisons of data. -/
namespace MM
open PySem PySem.Spec PyProof.Rows L2

/-! ### chains -/
abbrev MC := D → ME
def tC1 (K : PySem.W.Frag) (E : XK) (m : MC) : V → TE := fun x τ H Q => ∃ F μ σ S d, Wd K H F μ S ∧ Sl K F μ σ τ ∧ Rep K F μ d x ∧ Done K E H F μ S (m d σ S) (fun d _ H' F' μ' => ∀ v, Rep K F' μ' d v → Q v H')
def mcL (f : D → D → Store → R D) (b : ME) : MC := fun x σ S => (b σ S).bind fun y S1 => f x y S1
def mcC (f : D → D → Store → R D) (b : ME) (r : MC) : MC := fun x σ S => (b σ S).bind fun y S1 => (f x y S1).bind fun t S2 => match t with
  | .bl true => r y σ S2
  | .bl false => .ok (.bl false) S2
  | _ => .no
def mCh (a : ME) (c : MC) : ME := fun σ S => (a σ S).bind fun x S1 => c x σ S1
structure PCh (X : Cx) (ops : List CmpOp) (es : List Expr) (t : V → TE) : Prop where
  val : ∀ (pos : Pos) (pins : List (Addr × Obj)) (s : Shared) (σ : L2.St) (H : Hp) (Q : VK) (x : V) (v : Value), Inv X pins σ H s → RelV x v → t x σ H Q → wpAny (model X.prog X.w) X.A (compareChain pos v ops (evalEach es X.env)) (EP X pins σ Q) X.xe s
  tst : ∀ (pos : Pos) (pins : List (Addr × Obj)) (s : Shared) (σ : L2.St) (H : Hp) (Q : Bool → Hp → Prop) (x : V) (v : Value), Inv X pins σ H s → RelV x v → t x σ H (fun y H' => ∃ k, y = .bl k ∧ Q k H') → wpAny (model X.prog X.w) X.A (testChain pos v ops (evalEach es X.env)) (TP X pins σ Q) X.xe s
section
variable {X : Cx} {E : XK} {a b b' : Expr} {es : List Expr} {op op' : CmpOp} {ops : List CmpOp} {ma mb : ME} {mr : MC} {f : D → D → Store → R D} {pos : Pos}
theorem sc_last (ho : OpR X (compareOp op) (r2 X.K E f)) (hb : PE X b (tE X.K E mb)) : PCh X [op] [b] (tC1 X.K E (mcL f mb)) := by
  refine ⟨fun pos pins s σ H Q x v I rx h => ?_, fun pos pins s σ H Q x v I rx h => ?_⟩
  · obtain ⟨F, μ, σ', S, d, W, hs, rd, h⟩ := h
    refine chain_last (thn (hb.run pins s σ H (fun y H2 => r2 X.K E f x y H2 Q) I ⟨F, μ, σ', S, W, hs, (Done.split W h).mono fun y S1 H1 F1 μ1 e1 W1 h1 u q => ⟨F1, μ1, S1, d, y, W1, rd.ext e1, q, h1⟩⟩) fun u s2 ⟨y, H2, I2, r2, q2⟩ => ho pins s2 σ H2 x y v u Q I2 rx r2 q2)
  · obtain ⟨F, μ, σ', S, d, W, hs, rd, h⟩ := h
    refine test_last (thn (hb.run pins s σ H (fun y H2 => r2 X.K E f x y H2 fun z H' => ∃ k, z = .bl k ∧ Q k H') I ⟨F, μ, σ', S, W, hs, (Done.split W h).mono fun y S1 H1 F1 μ1 e1 W1 h1 u q => ⟨F1, μ1, S1, d, y, W1, rd.ext e1, q, h1⟩⟩) fun u s2 ⟨y, H2, I2, r2, q2⟩ => thn (ho pins s2 σ H2 x y v u _ I2 rx r2 q2) fun c s3 ⟨z, H3, I3, r3, k, e, q3⟩ => ?_)
    subst e
    cases r3
    exact wpAny_truthy_bool ⟨H3, I3, q3⟩
theorem chain_mid (h : R D) : True := trivial
theorem sc_link (ho : OpR X (compareOp op) (r2 X.K E f)) (hb : PE X b (tE X.K E mb)) (hr : PCh X (op' :: ops) (b' :: es) (tC1 X.K E mr)) : PCh X (op :: op' :: ops) (b :: b' :: es) (tC1 X.K E (mcC f mb mr)) := by
  have mid : ∀ {x : V} {σ : L2.St} {H : Hp} {Q : VK}, tC1 X.K E (mcC f mb mr) x σ H Q → tE X.K E mb σ H fun y H2 => r2 X.K E f x y H2 fun z H3 => ∃ k, z = .bl k ∧ (if k = true then tC1 X.K E mr y σ H3 Q else Q (.bl false) H3) := fun {x σ H Q} h => by
    obtain ⟨F, μ, σ', S, d, W, hs, rd, h⟩ := h
    refine ⟨F, μ, σ', S, W, hs, (Done.split W h).mono fun y S1 H1 F1 μ1 e1 W1 h1 u q => ⟨F1, μ1, S1, d, y, W1, rd.ext e1, q, (Done.split W1 h1).mono fun t S2 H2 F2 μ2 e2 W2 h2 c qc => ?_⟩⟩
    cases qc with
    | bl k =>
      cases k with
      | true => exact ⟨true, rfl, iteT ⟨F2, μ2, σ', S2, y, W2, (hs.ext e1).ext e2, q.ext e2, h2⟩⟩
      | false => exact ⟨false, rfl, iteF (h2.here W2 _ (.bl false))⟩
    | _ => exact h2.elim
  refine ⟨fun pos pins s σ H Q x v I rx h => ?_, fun pos pins s σ H Q x v I rx h => ?_⟩
  · refine chain_link (thn (hb.run pins s σ H _ I (mid h)) fun u s2 ⟨y, H2, I2, r2, q2⟩ => thn (ho pins s2 σ H2 x y v u _ I2 rx r2 q2) fun d s3 ⟨z, H3, I3, r3, k, e, q3⟩ => ?_)
    subst e
    cases r3
    refine wpAny_truthy_bool ?_
    cases k with
    | false => exact ite_ff ⟨.bl false, H3, I3, rfl, q3⟩
    | true => exact ite_tt (hr.val pos pins s3 σ H3 Q y u I3 r2 q3)
  · refine test_link (thn (hb.run pins s σ H _ I (mid h)) fun u s2 ⟨y, H2, I2, r2, q2⟩ => thn (ho pins s2 σ H2 x y v u _ I2 rx r2 q2) fun d s3 ⟨z, H3, I3, r3, k, e, q3⟩ => ?_)
    subst e
    cases r3
    refine wpAny_truthy_bool ?_
    cases k with
    | false =>
      obtain ⟨k', e', q'⟩ := q3
      cases e'
      exact ite_ff ⟨H3, I3, q'⟩
    | true => exact ite_tt (hr.tst pos pins s3 σ H3 Q y u I3 r2 q3)
theorem tCh {K : PySem.W.Frag} {τ H Q} (h : tE K E (mCh ma mr) τ H Q) : tE K E ma τ H fun x H1 => tC1 K E mr x τ H1 Q := by
  obtain ⟨F, μ, σ, S, W, hs, h⟩ := h
  exact ⟨F, μ, σ, S, W, hs, (Done.split W h).mono fun x S1 H1 F1 μ1 e1 W1 h1 v q => ⟨F1, μ1, σ, S1, x, W1, hs.ext e1, q, h1⟩⟩
theorem se_chain (ha : PE X a (tE X.K E ma)) (hc : PCh X (op :: op' :: ops) (b :: b' :: es) (tC1 X.K E mr)) (hm : lastMarks (op :: op' :: ops) (b :: b' :: es) = false := by with_unfolding_all rfl) :
    PE X (.Compare a (op :: op' :: ops) (b :: b' :: es) pos) (tE X.K E (mCh ma mr)) := by
  refine ⟨fun pins s σ H Q I h => ?_⟩
  exact Compare_chain (thn (ha.run pins s σ H _ I (tCh h)) fun v s1 ⟨x, H1, I1, r1, q1⟩ => hc.val pos pins s1 σ H1 Q x v I1 r1 q1) hm
theorem st_chain (ha : PE X a (tE X.K E ma)) (hc : PCh X (op :: op' :: ops) (b :: b' :: es) (tC1 X.K E mr)) (hm : lastMarks (op :: op' :: ops) (b :: b' :: es) = false := by with_unfolding_all rfl) :
    PT X (.Compare a (op :: op' :: ops) (b :: b' :: es) pos) (tT X.K E (mBool (mCh ma mr))) := by
  refine ⟨fun pins s σ H Q I h => ?_⟩
  exact isTrue_chain (thn (ha.run pins s σ H _ I (tCh (E := E) (tB_of h))) fun v s1 ⟨x, H1, I1, r1, q1⟩ => hc.tst pos pins s1 σ H1 Q x v I1 r1 q1) hm
end

/-! ### a, b, c = x, y, z -/
section
variable {X : Cx} {E : XK} {a b c : Expr} {pos : Pos}
theorem s_par3 {x y z : Str} {px py pz pt : Pos} {kt k2 pt2} {mas : MA} (i j l : Nat) (hc : X.calm = true) (hN : X.N.Nodup) (ha : PA X [a, b, c] (tA X.K E mas)) (hij : i ≠ j := by decide) (hil : i ≠ l := by decide) (hjl : j ≠ l := by decide) (hi : X.N[i]? = some x := by rfl) (hj : X.N[j]? = some y := by rfl) (hl : X.N[l]? = some z := by rfl)
    (hx : X.env.scope.names.lookup x = some .local := by rfl) (hy : X.env.scope.names.lookup y = some .local := by rfl) (hz : X.env.scope.names.lookup z = some .local := by rfl)
    (hw : swappedStores [.Tuple [.Name x px, .Name y py, .Name z pz] kt pt] (.Tuple [a, b, c] k2 pt2) X.env = pure (some [x, y, z]) := by rfl)
    (hs : swapsWithSole [.Tuple [.Name x px, .Name y py, .Name z pz] kt pt] (.Tuple [a, b, c] k2 pt2) pos.line X.env = pure false := by rfl) :
    PS X (.Assign [.Tuple [.Name x px, .Name y py, .Name z pz] kt pt] (.Tuple [a, b, c] k2 pt2) pos) (tS X.K E (mPar3 i j l mas)) :=
  (ps_par3 hc hN hi hj hl hij hil hjl hx hy hz ha hw hs).imp fun D τ H ⟨F, μ, σ, S, W, hs, h⟩ => ⟨F, μ, σ, S, W, hs, (h.split W).mono fun ds S1 H1 F1 μ1 e1 W1 h1 vs q => by
    cases q with
    | nil => exact h1.elim
    | cons r1 q =>
      cases q with
      | nil => exact h1.elim
      | cons r2 q =>
        cases q with
        | nil => exact h1.elim
        | cons r3 q =>
          cases q with
          | nil => exact ⟨_, _, _, rfl, DoneS.here W1 ((((hs.ext e1).set r1).set r2).set r3) h1⟩
          | cons => exact h1.elim⟩
end

/-! ### repr -/
mutual
theorem pd_noDict : ∀ d : D, d.pd.hasDict = false
  | .non => rfl
  | .bl _ => rfl
  | .int _ => rfl
  | .str _ => rfl
  | .tup xs => by simpa [D.pd, PyData.hasDict] using pdAll_noDict xs
  | .lst xs => by simpa [D.pd, PyData.hasDict] using pdAll_noDict xs
  | .scr xs => by simpa [D.pd, PyData.hasDict] using pdAll_noDict xs
  | .ref _ => rfl
theorem pdAll_noDict : ∀ ds : List D, PyData.hasDictAll (pdAll ds) = false
  | [] => rfl
  | d :: ds => by simp only [pdAll, PyData.hasDictAll, pd_noDict d, pdAll_noDict ds, Bool.or_self]
end
def isSeq : D → Bool
  | .tup _ => true
  | .lst _ => true
  | .scr _ => true
  | _ => false
def dRepr := on1 fun d S => match rd S d with
  | some e => MM.need (isSeq e && e.shal 40 && e.pd.showable && lim e.pd.shown.length) (.ok (.str e.pd.shown) S)
  | none => .no
section
variable {X : Cx} {E : XK}
theorem rep_seq {K : PySem.W.Frag} {H F : Hp} {μ : List Addr} {S : Store} {d e : D} {v : V} (r : Rep K F μ d v) (h : rd S d = some e) (hs : isSeq e = true) : ∃ a, v = .ref a := by
  cases r with
  | non => cases h; cases hs
  | bl => cases h; cases hs
  | int => cases h; cases hs
  | str => cases h; cases hs
  | _ => exact ⟨_, rfl⟩
theorem cd_repr (hu : X.A.units + 64 < cLine) (hgd : X.A.guards = some []) : CallR X (.builtin "repr") (rN X.K E dRepr) := by
  intro pins s σ H zs us Q I r h
  replace h := on1_ok h
  obtain ⟨x, F, μ, S, d, rfl, W, rq, h⟩ := h
  cases hd : rd S d with
  | none => rw [hd] at h; exact h.elim
  | some e =>
    rw [hd] at h
    obtain ⟨hb, h⟩ := Done.need h
    simp only [Bool.and_eq_true] at hb
    obtain ⟨⟨⟨b1, b2⟩, b3⟩, b4⟩ := hb
    obtain ⟨a, rfl⟩ := rep_seq (H := H) rq hd b1
    obtain ⟨u, rfl, rx⟩ := vals1 r
    cases rx
    obtain ⟨p1, c1, l1⟩ := shal_ok b2
    obtain ⟨as, rr⟩ := Dp.reads I _ _ _ (rd_dp W rq hd p1) (show RelV (.ref a) (.ref a) from rfl)
    refine repr_of_reads' rr b3 (fun z => by rw [pd_noDict] at z; cases z) hgd (by omega) (fun _ _ e => e) (fun h' u tk hk => ?_) (lim_le b4)
    exact ⟨.str _, H, I.kept hk, ⟨u, rfl⟩, h.here W _ (.str _)⟩
end

/-! ### < of data -/
def notN : D → Bool
  | .non => false
  | _ => true
def cmpD (f : D → D → Bool) (x y : D) (S : Store) : R D := match rd S x, rd S y with
  | some d, some e => MM.need (d.shal 40 && e.shal 40 && PySem.W.alike d.pd e.pd && notN d) (.ok (.bl (f d e)) S)
  | _, _ => .no
def ltD (x y : D) : Bool := PySem.W.dataLt x.pd y.pd
def dLtD := cmpD ltD
def dGtD := cmpD fun x y => ltD y x
def dLeD := cmpD fun x y => !ltD y x
def dGeD := cmpD fun x y => !ltD x y
section
variable {X : Cx} {E : XK}
theorem notN_ok {d : D} (h : notN d = true) (p : d.pure = true) : d.pd ≠ .none := by
  cases d with
  | non => cases h
  | ref => simp [D.pure] at p
  | _ => simp [D.pd]
theorem cmpD_ok {f : D → D → Bool} {op : CmpOp} (hu : X.A.units + 64 < cLine) (hop : ∀ {s : Shared} {Q : Value → Shared → Prop} {Ex : Value → Shared → Prop} {a b : Value} {d e : D} {as bs : List Addr}, Reads s.heap a d.pd as → Reads s.heap b e.pd bs → PySem.W.alike d.pd e.pd = true → d.pd ≠ .none → X.A.units + min d.pd.depth e.pd.depth < cLine → Q (.bool (f d e)) s → wpAny (model X.prog X.w) X.A (compareOp op a b) Q Ex s) :
    OpR X (compareOp op) (r2 X.K E (cmpD f)) := by
  intro pins s σ H x y v u Q I rx ry h
  obtain ⟨F, μ, S, d, e, W, r1, r2, h⟩ := h
  unfold cmpD at h
  cases h1 : rd S d with
  | none => rw [h1] at h; exact h.elim
  | some d' =>
    cases h2 : rd S e with
    | none => rw [h1, h2] at h; exact h.elim
    | some e' =>
      rw [h1, h2] at h
      obtain ⟨hb, h⟩ := Done.need h
      simp only [Bool.and_eq_true] at hb
      obtain ⟨⟨⟨b1, b2⟩, b3⟩, b4⟩ := hb
      obtain ⟨p1, c1, l1⟩ := shal_ok b1
      obtain ⟨p2, c2, l2⟩ := shal_ok b2
      obtain ⟨as, q1⟩ := Dp.reads I _ _ _ (rd_dp W r1 h1 p1) rx
      obtain ⟨bs, q2⟩ := Dp.reads I _ _ _ (rd_dp W r2 h2 p2) ry
      exact hop q1 q2 b3 (notN_ok b4 p1) (by omega) ⟨.bl _, H, I, rfl, h.here W _ (.bl _)⟩
theorem od_ltD (hu : X.A.units + 64 < cLine) : OpR X (compareOp .Lt) (r2 X.K E dLtD) := cmpD_ok hu fun a b c d e f => PySem.W.lt_data a b c d e f
theorem od_gtD (hu : X.A.units + 64 < cLine) : OpR X (compareOp .Gt) (r2 X.K E dGtD) := cmpD_ok hu fun a b c d e f => PySem.W.gt_data a b c d e f
theorem od_leD (hu : X.A.units + 64 < cLine) : OpR X (compareOp .LtE) (r2 X.K E dLeD) := cmpD_ok hu fun a b c d e f => PySem.W.le_data a b c d e f
theorem od_geD (hu : X.A.units + 64 < cLine) : OpR X (compareOp .GtE) (r2 X.K E dGeD) := cmpD_ok hu fun a b c d e f => PySem.W.ge_data a b c d e f
end
end MM

set_option Elab.async false
set_option linter.all false
set_option maxRecDepth 100000
/-! The end: a law by its mirror. -/
namespace MM
open PySem PySem.Spec PyProof.Rows L2

theorem law_callM {P : Program} {w : World} {K : PySem.W.Frag} {mg mb : Str → Option Value} {k : Nat} {fa a : Addr} {fd : FuncData} {x : Str} {mf : List D → Store → R D} {s₁ : Shared} {vs : List Value} {ns : List Int}
    (KX : K.In s₁.heap) (hns : s₁.heap.Ns mainGlobals mg) (hb : s₁.heap.Ns builtinsNs mb) (hbb : ∀ x : Str, x ≠ "__name__" → mb x = bootBuiltins x) (hlim : s₁.heap.NoLimit) (hg : s₁.gens = #[])
    (ha : s₁.heap.get? a = some { cls := .type "list", data := .seq vs.toArray }) (hi : IntsAre vs ns) (hl : ns.length ≤ sizeLine) (hr : Room k callerA)
    (F : ∀ base : Heap, K.In base → base.Ns mainGlobals mg → FnM P w K mg base k fa fd [x] mf) (hbind : ∀ (s : Shared) (u : Value), BindsTo s fd ⟨[u], []⟩ [(x, u)])
    (hsp : ∀ H : Hp, Only H → SqL K H a (ns.map V.int) → spM K mf [.ref a] H (fun v _ => v = .bl true) fun _ _ _ => False) :
    codeAny (model P w) callerA (.call (.ref fa) ⟨[.ref a], []⟩) (fun r s' => r = .ok (.ret (.bool true)) ∧ OldK s₁.heap s'.heap ∧ s'.os = s₁.os ∧ AllBare s'.gens) s₁ := by
  have rv := vals_ints hi
  have lenV := hi.length
  -- from an abstract heap in which nothing but the script may be tracked
  have core : ∀ H : Hp, Only H → SqL K H a (ns.map V.int) → HOk P w H s₁.heap → (∀ b, H b ≠ none → b = a) → (H a ≠ none → K.lookup a = none) →
      codeAny (model P w) callerA (.call (.ref fa) ⟨[.ref a], []⟩) (fun r s' => r = .ok (.ret (.bool true)) ∧ OldK s₁.heap s'.heap ∧ s'.os = s₁.os ∧ AllBare s'.gens) s₁ := by
    intro H hO hS hok hA hK
    have base_of : ∀ {b : Addr} {o : Obj}, s₁.heap.get? b = some o → H b = none → (hidT s₁.heap H).get? b = some o := fun e n => hidT_get e n
    have noA : ∀ {b : Addr} {o : Obj} {es : Array DictEntry} {ep : Nat}, s₁.heap.get? b = some o → o.data = .dict es ep → H b = none := fun {b o es ep} e d => by
      cases q : H b with
      | none => rfl
      | some u =>
        have e' : b = a := hA b (by rw [q]; simp)
        subst e'
        rw [ha] at e; cases e
        have d' : Data.seq vs.toArray _ = Data.dict es ep := d
        cases d'
    have nsK : ∀ {b : Addr} {m : Str → Option Value}, s₁.heap.Ns b m → (hidT s₁.heap H).Ns b m := fun {b m} ⟨o, es, ep, e, d, r⟩ => ⟨o, es, ep, base_of e (noA e d), d, r⟩
    have hKb : K.In (hidT s₁.heap H) := fun b o e => base_of (KX b o e) (by
      cases q : H b with
      | none => rfl
      | some u =>
        have e' : b = a := hA b (by rw [q]; simp)
        subst e'
        rw [hK (by rw [q]; simp)] at e; cases e)
    have hM : Mod K mg (hidT s₁.heap H) := ⟨hKb, nsK hns, ⟨mb, nsK hb, hbb⟩, let ⟨mc, h1, h2⟩ := hlim; ⟨mc, nsK h1, h2⟩⟩
    have e0 : Env0 P w K mg (hidT s₁.heap H) callerA [] s₁ H := ⟨rfl, hM, fun b o e => of_hidT e, Nat.le_of_eq (hidT_size _ _), trivial, fun b hb => absurd (show b ∈ ([] : List Addr) from hb) (by simp), hok, .of_eq hg⟩
    refine codeAny_mono ((F _ hKb (nsK hns)).run callerA [] s₁ H ⟨[.ref a], []⟩ [.ref a] [.ref a] _ _ hr rfl e0 (hbind s₁ (.ref a)) (.cons rfl .nil) (hsp H hO hS)) fun r s' h => ?_
    cases r with
    | error e =>
      obtain ⟨_, _, _, _, _, _, _, _, _, _, _, _, hf⟩ := h
      exact hf.elim
    | ok fl =>
      cases fl with
      | next => exact False.elim h
      | brk => exact False.elim h
      | cont => exact False.elim h
      | ret u =>
        obtain ⟨v, H', os, bare, un, hok', r', q⟩ := h
        have q' : v = .bl true := q
        subst q'
        obtain rfl : u = Value.bool true := r'
        refine ⟨rfl, OldK.of_keep fun b o e => ?_, os, bare⟩
        cases q : H b with
        | none => exact un.keep b o e q (by intro z; exact absurd (show b ∈ ([] : List Addr) from z) (by simp)) (by simp)
        | some u =>
          rcases hO b with z | ⟨ob, xs, z⟩
          · rw [q] at z; cases z
          · have z2 := un.frzs b ob _ z
            obtain ⟨e1, _⟩ := hok b _ z
            obtain ⟨e2, _⟩ := hok' b _ z2
            rw [e] at e1; cases e1
            exact e2
  cases hk : K.lookup a with
  | some o =>
    -- the script is one of the module's own objects
    have e := KX a o hk
    rw [ha] at e
    cases e
    refine core (fun _ => none) (fun _ => .inl rfl) (.inr ⟨_, vs.toArray, _, hk, rfl, rfl, rfl, by rw [List.size_toArray, lenV]; exact hl, by simpa using rv⟩) (fun b u z => by have z' : (none : Option HO) = some u := z; cases z') (fun b z => absurd rfl z) fun z => absurd rfl z
  | none =>
    refine core (fun b => if b = a then some (.frz { cls := .type "list", data := .seq vs.toArray } (.lst (ns.map V.int))) else none) (fun b => ?_) (.inl (.inr ⟨{ cls := .type "list", data := .seq vs.toArray }, if_pos rfl⟩)) (fun b u z => ?_) (fun b z => ?_) fun _ => hk
    · by_cases hb : b = a
      · exact .inr ⟨_, _, if_pos hb⟩
      · exact .inl (if_neg hb)
    · by_cases hb : b = a
      · have z' := (if_pos hb).symm.trans z
        cases z'
        subst hb
        exact ⟨ha, by rw [List.length_map]; exact hl, vs, _, rv, ha⟩
      · have z' := (if_neg hb).symm.trans z
        cases z'
    · by_cases hb : b = a
      · exact hb
      · exact absurd (if_neg hb) z

theorem walkM {l : PySem.W.OpenLaw} {n k : Nat} {q : Program} {loose : List Str} {XP : (Str → Option Value) → Heap → Prop} {YP : World → Heap → Prop} {d : DefRec} {K : Params → PySem.W.Frag} {mf : List D → Store → R D} {x : Str}
    (hn : l.most = some n) (hn2 : n ≤ sizeLine) (hdf : d.params.defaults = []) (hr : Room k callerA)
    (hY : ∀ (w : World) (h : Heap), YP w h → (K w.params).In h)
    (F : ∀ (w : World) (mg : Str → Option Value) (fa : Addr) (h : Heap), (K w.params).In h → h.Ns mainGlobals mg → mg d.name = some (.ref fa) →
      ∃ fd : FuncData, (∀ (s : Shared) (u : Value), BindsTo s fd ⟨[u], []⟩ [(x, u)]) ∧
        ∀ base : Heap, (K w.params).In base → base.Ns mainGlobals mg → FnM l.prog w (K w.params) mg base k fa fd [x] mf)
    (hsp : ∀ ns : List Int, ns.length ≤ n → ∃ S, mf [.scr (ns.map D.int)] [] = .ok (.bl true) S) :
    PySem.W.WalkO q loose XP YP l.row.toRowW d [] (fun f vs => PySem.call f vs) := by
  refine Att.attach_call hn hdf fun w s₀ s₁ mg mb fa o pm cd doc a vs ns G Y ho hd hcd hmg hobj hints hlen hg => ?_
  have KX := hY w _ Y
  obtain ⟨fd, hb, hF⟩ := F w mg fa _ KX G.T.g hmg
  refine law_callM KX G.T.g G.T.b G.T.builtins G.T.nolimit hg hobj hints (Nat.le_trans hlen hn2) hr hF hb fun H hO hS => ?_
  obtain ⟨S, hS'⟩ := hsp ns hlen
  refine ⟨H, [], [], [.scr (ns.map D.int)], ⟨fun _ _ h => h, rfl, List.nodup_nil, fun a ⟨l, c, h, _⟩ => by simp at h, fun l c a h _ => by simp at h⟩, .cons (.scr hS (reps_ints ns)) .nil, ?_⟩
  rw [hS']
  intro H' F' μ' e w v r
  cases r
  rfl
end MM

set_option Elab.async false
set_option linter.all false
set_option maxRecDepth 100000
/-! What the printed texts lean on. -/
namespace MM
open PySem PySem.Spec PyProof.Rows L2

/-- what is never reached -/
def mNo : MS := fun _ _ => .no
theorem s_never {X : Cx} {E : XK} {st : Stmt} : PS X st (tS X.K E mNo) := ⟨fun pins s σ H D I h => by
  obtain ⟨F, μ, σ', S, W, hs, h⟩ := h
  exact h.elim⟩
theorem ss_never {X : Cx} {E : XK} {st : List Stmt} : PSs X st (tS X.K E mNo) := ⟨fun pins s σ H D I h => by
  obtain ⟨F, μ, σ', S, W, hs, h⟩ := h
  exact h.elim⟩
/-- a written value of the module -/
theorem se_gl {X : Cx} {E : XK} {x : Str} {pos : Pos} {d : D} {v : V} (h : ∃ u, X.mg x = some u ∧ RelV v u) (hr : ∀ F μ, Rep X.K F μ d v) (hg : Gl X x := by rfl) (hd : (x == ("__debug__" : Str)) = false := by decide) : PE X (.Name x pos) (tE X.K E (mK d)) := by
  obtain ⟨u, h1, h2⟩ := h
  exact se_k (pe_glob hg h1 h2 hd) hr
theorem se_gi {X : Cx} {E : XK} {x : Str} {pos : Pos} {i : Int} (h : ∃ t, X.mg x = some (.int i t)) (hg : Gl X x := by rfl) (hd : (x == ("__debug__" : Str)) = false := by decide) : PE X (.Name x pos) (tE X.K E (mK (.int i))) := by
  obtain ⟨t, h1⟩ := h
  exact se_gl (v := .int i) ⟨_, h1, (show RelV (.int i) (.int i t) from ⟨t, rfl⟩)⟩ (fun _ _ => .int i) hg hd
/-! ### keywords -/
def pick {α : Type} (idx : List Nat) (l : List α) : List α := idx.filterMap fun i => l[i]?
theorem vals_get {vs : List V} {us : List Value} (h : Vals vs us) : ∀ i : Nat, (vs[i]? = none ∧ us[i]? = none) ∨ ∃ v u, vs[i]? = some v ∧ us[i]? = some u ∧ RelV v u := by
  induction h with
  | nil => exact fun i => .inl ⟨by simp, by simp⟩
  | cons r t ih =>
    intro i
    cases i with
    | zero => exact .inr ⟨_, _, rfl, rfl, r⟩
    | succ i => simpa using ih i
theorem vals_pick {vs : List V} {us : List Value} (h : Vals vs us) : ∀ idx : List Nat, Vals (pick idx vs) (pick idx us)
  | [] => .nil
  | i :: idx => by
    unfold pick
    rcases vals_get h i with ⟨h1, h2⟩ | ⟨v, u, h1, h2, r⟩
    · rw [List.filterMap_cons_none h1, List.filterMap_cons_none h2]
      exact vals_pick h idx
    · rw [List.filterMap_cons_some h1, List.filterMap_cons_some h2]
      exact .cons r (vals_pick h idx)
theorem reps_pick {K : PySem.W.Frag} {F : Hp} {μ : List Addr} {ds : List D} {vs : List V} (h : Reps K F μ ds vs) : ∀ idx : List Nat, Reps K F μ (pick idx ds) (pick idx vs)
  | [] => .nil
  | i :: idx => by
    unfold pick
    cases q : ds[i]? with
    | none =>
      have q2 : vs[i]? = none := by
        rw [List.getElem?_eq_none_iff] at q ⊢
        rw [← h.length]; exact q
      rw [List.filterMap_cons_none q, List.filterMap_cons_none q2]
      exact reps_pick h idx
    | some d =>
      obtain ⟨v, h1, h2⟩ := h.get q
      rw [List.filterMap_cons_some q, List.filterMap_cons_some h1]
      exact .cons h2 (reps_pick h idx)
theorem vals_append {vs ws : List V} {us zs : List Value} (h : Vals vs us) (h' : Vals ws zs) : Vals (vs ++ ws) (us ++ zs) := by
  induction h with
  | nil => exact h'
  | cons r t ih => exact .cons r ih
def pk {α : Type} (idx : List Nat) (a b : List α) : List α := pick idx (a ++ b)
theorem kb_of {K : PySem.W.Frag} {x qual : Str} {st : Stmt} {f : Addr} {fd : FuncData} {ps : List Str} (n : Nat) (ks : List Str) (idx : List Nat) (F : Fun K x qual st f fd)
    (h : ∀ (kV doc pm : Value) (an : Option Addr) (cdv ct : Value) (us ws : List Value), us.length = n → ws.length = ks.length → bindArgs (PySem.W.fnOf x qual (defArgs st) (defBody st) (defScope st) .none kV doc pm an cdv ct) ⟨us, ks.zip ws⟩ = pure (ps.zip (pk idx us ws))) :
    KB K fd ps n ks (pk idx) (pk idx) (pk idx) := by
  obtain ⟨oc, od, kV, doc, pm, an, cdv, ct, osl, rfl, lk, hcd⟩ := F.ex
  exact ⟨fun s us ws _ h1 h2 => .of_eq (h kV doc pm an cdv ct us ws h1 h2), fun r1 r2 => vals_pick (vals_append r1 r2) idx, fun r1 r2 => reps_pick (r1.append r2) idx⟩
/-- a def as its callers see it -/
structure Cal (P : Program) (w : World) (K : PySem.W.Frag) (mg : Str → Option Value) (base : Heap) (k : Nat) (x : Str) (st : Stmt) (ps : List Str) (f : Addr) (fd : FuncData) (mf : List D → Store → R D) : Prop where
  F : Fun K x x st f fd
  ok : FnM P w K mg base k f fd ps mf
  mg : mg x = some (.ref f)
  b : Binds K fd ps []
theorem FnM.none {P : Program} {w : World} {K : PySem.W.Frag} {mg : Str → Option Value} {base : Heap} {k : Nat} {f : Addr} {fd : FuncData} {ps : List Str} : FnM P w K mg base k f fd ps (fun _ _ => .no) := ⟨fun _ _ _ => rfl, fun A outer s H args us vs Q E _ _ _ _ _ h => by
  obtain ⟨F, μ, S, ds, W, r, h⟩ := h
  exact h.elim⟩
section
variable {P : Program} {w : World} {K : PySem.W.Frag} {mg : Str → Option Value} {base : Heap} {X : Cx} {E : XK} {k : Nat} {x : Str} {st : Stmt} {ps ks : List Str} {f : Addr} {fd : FuncData} {mf : List D → Store → R D} {e : Expr} {es : List Expr} {mas mks : MA} {kws : List Keyword} {p pos : Pos} {idx : List Nat}
theorem c_call (C : Cal X.prog X.w X.K X.mg X.base k x st ps f fd mf) (hr : Room k X.A) (hgd : X.A.guards = some []) (hx : Passes (L2.CX X.prog X.w) X E) (ha : PA X (e :: es) (tA X.K E mas)) (hg : Gl X x := by rfl) (hdb : (x == ("__debug__" : Str)) = false := by decide) (he : starEach (e :: es) X.env = (false, eval e X.env) :: starEach es X.env := by rfl) (hpl : (backTo pos (starEach es X.env)).any (·.1) = false := by rfl) :
    PE X (.Call (.Name x p) (e :: es) [] pos) (tE X.K E (mN mf mas)) := se_call C.ok hr hgd C.mg C.F.kp C.b hx ha hg hdb he hpl
theorem c_call0 (C : Cal X.prog X.w X.K X.mg X.base k x st ps f fd mf) (hr : Room k X.A) (hgd : X.A.guards = some []) (hx : Passes (L2.CX X.prog X.w) X E) (hg : Gl X x := by rfl) (hdb : (x == ("__debug__" : Str)) = false := by decide) :
    PE X (.Call (.Name x p) [] [] pos) (tE X.K E (mN mf mNil)) := se_call0 C.ok hr hgd C.mg C.F.kp C.b hx hg hdb
theorem c_callK (n : Nat) (C : Cal X.prog X.w X.K X.mg X.base k x st ps f fd mf) (hb : KB X.K fd ps n ks (pk idx) (pk idx) (pk idx)) (hr : Room k X.A) (hgd : X.A.guards = some []) (hx : Passes (L2.CX X.prog X.w) X E) (ha : PA X (e :: es) (tA X.K E mas)) (hkw : PK X kws (tA X.K E mks)) (hall : (backToKw pos (keywordEach kws X.env)).all (·.1.isSome) = true := by rfl) (hks : (backToKw pos (keywordEach kws X.env)).filterMap (·.1) = ks := by rfl)
    (hg : Gl X x := by rfl) (hdb : (x == ("__debug__" : Str)) = false := by decide) (he : starEach (e :: es) X.env = (false, eval e X.env) :: starEach es X.env := by rfl)
    (hpl : ((backTo pos (starEach (e :: es) X.env)).any (·.1) || (backToKw pos (keywordEach kws X.env)).any (·.1.isNone)) = false := by rfl) :
    PE X (.Call (.Name x p) (e :: es) kws pos) (tE X.K E (mNK n ks.length mf (pk idx) mas mks)) := se_callK C.ok hr hgd C.mg C.F.kp hb hx ha hkw hall hks hg hdb he hpl
theorem c_callK0 (C : Cal X.prog X.w X.K X.mg X.base k x st ps f fd mf) (hb : KB X.K fd ps 0 ks (pk idx) (pk idx) (pk idx)) (hr : Room k X.A) (hgd : X.A.guards = some []) (hx : Passes (L2.CX X.prog X.w) X E) (hkw : PK X kws (tA X.K E mks)) (hall : (backToKw pos (keywordEach kws X.env)).all (·.1.isSome) = true := by rfl) (hks : (backToKw pos (keywordEach kws X.env)).filterMap (·.1) = ks := by rfl)
    (hg : Gl X x := by rfl) (hdb : (x == ("__debug__" : Str)) = false := by decide)
    (hpl : ((backTo pos (starEach [] X.env)).any (·.1) || (backToKw pos (keywordEach kws X.env)).any (·.1.isNone)) = false := by rfl) :
    PE X (.Call (.Name x p) [] kws pos) (tE X.K E (mNK 0 ks.length mf (pk idx) mNil mks)) := se_callK0 C.ok hr hgd C.mg C.F.kp hb hx hkw hall hks hg hdb hpl
theorem hu64 {k : Nat} {A : Around} (hr : Room k A) : A.units + 64 < cLine := by have := hr.un; omega
end
end MM

set_option Elab.async false
set_option linter.all false
set_option maxRecDepth 100000
/-! Tools for laws over mirrors; the deck. -/
namespace MM
open PySem PySem.Spec PyProof.Rows L2

theorem pureF_any {f : List D → Store → R D} {ds : List D} {d : D} {S S0 : Store} (h : pureF f ds [] = .ok d S0) : pureF f ds S = .ok d S := by
  unfold pureF at h ⊢
  split at h
  · rename_i hp
    rw [if_pos hp]
    cases q : f ds [] with
    | ok e S1 =>
      rw [q] at h
      dsimp only at h ⊢
      cases z : e.out S1 with
      | none => rw [z] at h; cases h
      | some e' => rw [z] at h; cases h; rfl
    | ex e S1 => rw [q] at h; cases h
    | no => rw [q] at h; cases h
  · cases h
/-- lists of nums -/
abbrev nums (ns : List Int) : List D := ns.map D.int
theorem pure_nums : ∀ ns : List Int, pureAll (nums ns) = true
  | [] => rfl
  | n :: ns => pure_nums ns
theorem shal_nums (k : Nat) : ∀ ns : List Int, shalAll k (nums ns) = true
  | [] => by cases k <;> rfl
  | n :: ns => by
    show ((D.int n).shal k && shalAll k (nums ns)) = true
    rw [shal_nums k ns]
    cases k <;> rfl
theorem eqAll_nums : ∀ xs ys : List Int, eqAll (nums xs) (nums ys) = decide (xs = ys)
  | [], [] => rfl
  | [], _ :: _ => rfl
  | _ :: _, [] => rfl
  | x :: xs, y :: ys => by
    show ((x == y) && eqAll (nums xs) (nums ys)) = _
    rw [eqAll_nums xs ys]
    by_cases h : x = y
    · subst h; simp
    · simp [h]
theorem out_pureD {S : Store} : ∀ {d : D}, d.pure = true → d.out S = some d := by
  have main : ∀ n, ∀ d : D, sizeOf d ≤ n → d.pure = true → d.out S = some d := by
    intro n
    induction n with
    | zero => intro d h; cases d <;> simp at h
    | succ n ih =>
      have all : ∀ xs : List D, sizeOf xs ≤ n → pureAll xs = true → outAll S xs = some xs := by
        intro xs
        induction xs with
        | nil => intro _ _; rfl
        | cons x xs ihx =>
          intro hs hp
          rw [pureAll, Bool.and_eq_true] at hp
          simp at hs
          simp only [outAll, ih x (by omega) hp.1, ihx (by omega) hp.2]
      intro d h hp
      cases d with
      | ref l => simp [D.pure] at hp
      | tup xs => simp [D.pure] at hp; simp at h; simp [D.out, all xs (by omega) hp]
      | lst xs => simp [D.pure] at hp; simp at h; simp [D.out, all xs (by omega) hp]
      | scr xs => simp [D.pure] at hp; simp [D.out, hp]
      | _ => rfl
  exact fun {d} h => main (sizeOf d) d (Nat.le_refl _) h
theorem outAll_pureD {S : Store} : ∀ {ds : List D}, pureAll ds = true → outAll S ds = some ds
  | [], _ => rfl
  | d :: ds, h => by
    rw [pureAll, Bool.and_eq_true] at h
    simp only [outAll, out_pureD h.1, outAll_pureD h.2]

theorem mSeq_nx {a b : MS} {σ σ' : Sg} {S S' : Store} (h : a σ S = .nx σ' S') : mSeq a b σ S = b σ' S' := by unfold mSeq; rw [h]; rfl
theorem mSeq_rt {a b : MS} {σ : Sg} {S S' : Store} {d : D} (h : a σ S = .rt d S') : mSeq a b σ S = .rt d S' := by unfold mSeq; rw [h]; rfl
theorem mIf_t {c : MT} {a b : MS} {σ : Sg} {S S' : Store} (h : c σ S = .ok true S') : mIf c a b σ S = a σ S' := by unfold mIf; rw [h]; rfl
theorem mIf_f {c : MT} {a b : MS} {σ : Sg} {S S' : Store} (h : c σ S = .ok false S') : mIf c a b σ S = b σ S' := by unfold mIf; rw [h]; rfl
theorem call_plain {n N : Nat} {body : MS} {ds : List D} {d : D} {S S1 : Store} (hl : ds.length = n) (h : body (ds.map some ++ List.replicate (N - n) none) S = .rt d S1) : mDefQ n N body ds S = .ok d S1 := by
  unfold mDefQ mDef
  rw [if_pos hl, h]
  rfl
theorem call_plainN {n N : Nat} {body : MS} {ds : List D} {σ : Sg} {S S1 : Store} (hl : ds.length = n) (h : body (ds.map some ++ List.replicate (N - n) none) S = .nx σ S1) : mDefQ n N body ds S = .ok .non S1 := by
  unfold mDefQ mDef
  rw [if_pos hl, h]
  rfl
theorem call_pure {n N : Nat} {body : MS} {ds : List D} {d d' : D} {S S1 : Store} (hl : ds.length = n) (hp : pureAll ds = true) (h : body (ds.map some ++ List.replicate (N - n) none) [] = .rt d S1) (ho : d.out S1 = some d') : pureF (mDefQ n N body) ds S = .ok d' S := by
  unfold pureF
  rw [if_pos hp, call_plain hl h]
  dsimp only
  rw [ho]
theorem call_pureN {n N : Nat} {body : MS} {ds : List D} {σ : Sg} {S S1 : Store} (hl : ds.length = n) (hp : pureAll ds = true) (h : body (ds.map some ++ List.replicate (N - n) none) [] = .nx σ S1) : pureF (mDefQ n N body) ds S = .ok .non S := by
  unfold pureF
  rw [if_pos hp, call_plainN hl h]
  rfl
section
variable {f : D → D → Store → R D} {f1 : D → Store → R D} {fN : List D → Store → R D} {a b : ME} {as ks : MA} {σ : Sg} {S S1 S2 : Store} {x y : D} {xs ys : List D} {r : R D}
theorem m2_ok (h1 : a σ S = .ok x S1) (h2 : b σ S1 = .ok y S2) (h : f x y S2 = r) : m2 f a b σ S = r := by unfold m2; rw [h1]; simp only [R.bind]; rw [h2]; exact h
theorem m1_ok (h1 : a σ S = .ok x S1) (h : f1 x S1 = r) : m1 f1 a σ S = r := by unfold m1; rw [h1]; exact h
theorem mN_ok (h1 : as σ S = .ok xs S1) (h : fN xs S1 = r) : mN fN as σ S = r := by unfold mN; rw [h1]; exact h
theorem mNK_ok {n k : Nat} {g : List D → List D → List D} (h1 : as σ S = .ok xs S1) (h2 : ks σ S1 = .ok ys S2) (hl : xs.length = n ∧ ys.length = k) (h : fN (g xs ys) S2 = r) : mNK n k fN g as ks σ S = r := by
  unfold mNK; rw [h1]; simp only [R.bind]; rw [h2]; simp only; rw [if_pos hl]; exact h
theorem mBool_ok {c : Bool} (h1 : a σ S = .ok (.bl c) S1) : mBool a σ S = .ok c S1 := by unfold mBool; rw [h1]; rfl
theorem mRet_ok (h1 : a σ S = .ok x S1) : mRet a σ S = .rt x S1 := by unfold mRet; rw [h1]; rfl
theorem mExpr_ok (h1 : a σ S = .ok x S1) : mExpr a σ S = .nx σ S1 := by unfold mExpr; rw [h1]; rfl
theorem mAsg_ok {g : MG} {σ1 : Sg} (h1 : a σ S = .ok x S1) (h2 : g x σ S1 = .ok σ1 S2) : mAsg a g σ S = .nx σ1 S2 := by unfold mAsg; rw [h1]; simp only [R.toO]; rw [h2]
theorem mCons_ok (h1 : a σ S = .ok x S1) (h2 : as σ S1 = .ok xs S2) : mCons a as σ S = .ok (x :: xs) S2 := by unfold mCons; rw [h1]; simp only [R.bind]; rw [h2]
theorem mVar_ok {i : Nat} {d : D} (h : σ[i]? = some (some d)) : mVar i σ S = .ok d S := by unfold mVar; rw [h]
theorem miRng1_ok {j : Int} (h : as σ S = .ok [.int j] S1) (hk : rngOk 0 j = true) : miRng1 as σ S = .ok (rngItems 0 j.toNat) S1 := by unfold miRng1; rw [h]; simp only [R.bind]; rw [if_pos hk]
theorem need_t {α : Type} {b : Bool} {r : R α} (h : b = true) : MM.need b r = r := by rw [h]; rfl
theorem dEq_ok {S : Store} {x y d e : D} (h1 : rd S x = some d) (h2 : rd S y = some e) (s1 : d.shal 40 = true) (s2 : e.shal 40 = true) : dEq x y S = .ok (.bl (eqD d e)) S := by
  unfold dEq onDD; rw [h1, h2]; exact need_t (by rw [s1, s2]; rfl)
theorem dNe_ok {S : Store} {x y d e : D} (h1 : rd S x = some d) (h2 : rd S y = some e) (s1 : d.shal 40 = true) (s2 : e.shal 40 = true) : dNe x y S = .ok (.bl (!eqD d e)) S := by
  unfold dNe onDD; rw [h1, h2]; exact need_t (by rw [s1, s2]; rfl)
theorem mLc_ok {own : List Nat} {mi : MI} {g : MG} {t : MT} {me : ME} {items : List D} (h1 : mi σ S = .ok items S1) (hz : items.length ≤ 1000000) (h2 : runLc (wipeM σ own) g t me items S1 = .ok ys S2) : mLc own mi g t me σ S = .ok (.lst ys) S2 := by
  unfold mLc mLcF; rw [h1]; simp only [R.bind]; rw [if_pos hz, h2]; rfl
theorem mLcM_ok {own : List Nat} {mi : MI} {g : MG} {t : MT} {me : ME} {items : List D} (h1 : mi σ S = .ok items S1) (hz : items.length ≤ 1000000) (h2 : runLc (wipeM σ own) g t me items S1 = .ok ys S2) : mLcM own mi g t me σ S = .ok (.ref S2.length) (S2 ++ [.lst ys]) := by
  unfold mLcM mLcF; rw [h1]; simp only [R.bind]; rw [if_pos hz, h2]; rfl
theorem mFor_ok {mi : MI} {g : MG} {b : MS} {items : List D} {o : O} (h1 : mi σ S = .ok items S1) (h2 : runFor g b items σ S1 = o) : mFor mi g b σ S = o := by
  unfold mFor; rw [h1]; exact h2
theorem eqD_refl_all : ∀ n : Nat, ∀ d : D, sizeOf d ≤ n → d.pure = true → eqD d d = true := by
  intro n
  induction n with
  | zero => intro d h; cases d <;> simp at h
  | succ n ih =>
    have all : ∀ xs : List D, sizeOf xs ≤ n → pureAll xs = true → eqAll xs xs = true := by
      intro xs
      induction xs with
      | nil => intro _ _; rfl
      | cons x xs ihx =>
        intro hs hp
        rw [pureAll, Bool.and_eq_true] at hp
        simp at hs
        simp only [eqAll, ih x (by omega) hp.1, ihx (by omega) hp.2, Bool.and_self]
    intro d h hp
    cases d with
    | ref l => simp [D.pure] at hp
    | tup xs => simp [D.pure] at hp; simp at h; simp [eqD, all xs (by omega) hp]
    | lst xs => simp [D.pure] at hp; simp at h; simp [eqD, all xs (by omega) hp]
    | scr xs => simp [D.pure] at hp; simp at h; simp [eqD, all xs (by omega) hp]
    | _ => simp [eqD]
theorem eqD_refl {d : D} (h : d.pure = true) : eqD d d = true := eqD_refl_all _ d (Nat.le_refl _) h
end
/-! ### the deck: cells, one number -/
def deckS (fld : Str) (cells : List Int) (x : Int) (T : Store) : Store := .lst (nums cells) :: .dic [(.inr "cells", .ref 0), (.inr fld, .int x)] :: T
def drawB (fld : Str) : MS := mSeq (mIf (mBool (m2 dNe (m1 (getD (.inr "cells")) (mVar 0)) (mLst (mNil)))) (mSeq (mAsg (mMeth .list dPop (m1 (getD (.inr "cells")) (mVar 0)) mNil) (gN 2)) (mSeq (mIf (mBool (m2 dGe (mVar 2) (m2 dPow (mK (.int 10)) (mK (.int 18))))) (mSeq (mExpr (mMeth .list dAppend (m1 (getD (.inr "cells")) (mVar 0)) (mCons (m2 dDiv (mVar 2) (mN dMax2 (mCons (mK (.int 2)) (mCons (mVar 1) (mNil))))) (mNil)))) (mRet (m2 dMod (mVar 2) (mVar 1)))) (mSkip)) (mPutD (.inr fld) (mVar 0) (m2 dMod (m2 (dAdd false) (m1 (getD (.inr fld)) (mVar 0)) (mVar 2)) (mK (.int 2147483647)))))) (mSkip)) (mSeq (mPutD (.inr fld) (mVar 0) (m2 dMod (m2 (dAdd false) (m2 (dMul false) (m1 (getD (.inr fld)) (mVar 0)) (mK (.int 16807))) (mK (.int 1087517))) (mK (.int 2147483647)))) (mRet (m2 dMod (m2 dDiv (m1 (getD (.inr fld)) (mVar 0)) (mK (.int 64))) (mVar 1))))
section
variable {fld : Str} {x b : Int} {T : Store} {cells : List Int}
theorem draw_tail {σ : Sg} {o : Option D} (hf : (Sum.inr ("cells" : Str) : Key) ≠ .inr fld) (hb : 0 < b) : ∃ v x', (mSeq (mPutD (.inr fld) (mVar 0) (m2 dMod (m2 (dAdd false) (m2 (dMul false) (m1 (getD (.inr fld)) (mVar 0)) (mK (.int 16807))) (mK (.int 1087517))) (mK (.int 2147483647)))) (mRet (m2 dMod (m2 dDiv (m1 (getD (.inr fld)) (mVar 0)) (mK (.int 64))) (mVar 1)))) [some (.ref 1), some (.int b), o] (deckS fld cells x T) = .rt (.int v) (deckS fld cells x' T) ∧ 0 ≤ v ∧ v < b := by
  have e1 : decide (b ≠ 0) = true := decide_eq_true (by omega)
  refine ⟨(((x * 16807 + 1087517).fmod 2147483647).fdiv 64).fmod b, (x * 16807 + 1087517).fmod 2147483647, ?_, Int.fmod_nonneg_of_pos _ hb, Int.fmod_lt_of_pos _ hb⟩
  simp [mSeq, mPutD, mRet, m2, m1, mVar, mK, R.bind, R.toO, O.seq, dMod, dDiv, dAdd, dMul, or2, addI, mulI, onII, MM.need, R.or, b64, getD, deckS, valD, putD, hf, hf.symm, lim, nodupK, e1, show b ≠ 0 by omega]

theorem fmod_nb {c b : Int} (h : 0 < b) : 0 ≤ c.fmod b ∧ c.fmod b < b := ⟨Int.fmod_nonneg_of_pos _ h, Int.fmod_lt_of_pos _ h⟩
/-- what one draw does -/
theorem draw_run {σ : Sg} (hf : (Sum.inr ("cells" : Str) : Key) ≠ .inr fld) (hb : 0 < b) (hb2 : b < 1073741824) (hl : cells.length ≤ 1000) : ∃ v cells' x', drawB fld [some (.ref 1), some (.int b), none] (deckS fld cells x T) = .rt (.int v) (deckS fld cells' x' T) ∧ cells'.length ≤ cells.length ∧ 0 ≤ v ∧ v < b := by
  unfold drawB
  rcases List.eq_nil_or_concat cells with rfl | ⟨cs, c, rfl⟩
  · obtain ⟨v, x', h, h1, h2⟩ := draw_tail (fld := fld) (x := x) (T := T) (cells := []) (σ := []) (o := none) hf hb
    refine ⟨v, [], x', ?_, Nat.le_refl _, h1, h2⟩
    rw [← h]
    have e : (mIf (mBool (m2 dNe (m1 (getD (.inr "cells")) (mVar 0)) (mLst (mNil)))) (mSeq (mAsg (mMeth .list dPop (m1 (getD (.inr "cells")) (mVar 0)) mNil) (gN 2)) (mSeq (mIf (mBool (m2 dGe (mVar 2) (m2 dPow (mK (.int 10)) (mK (.int 18))))) (mSeq (mExpr (mMeth .list dAppend (m1 (getD (.inr "cells")) (mVar 0)) (mCons (m2 dDiv (mVar 2) (mN dMax2 (mCons (mK (.int 2)) (mCons (mVar 1) (mNil))))) (mNil)))) (mRet (m2 dMod (mVar 2) (mVar 1)))) (mSkip)) (mPutD (.inr fld) (mVar 0) (m2 dMod (m2 (dAdd false) (m1 (getD (.inr fld)) (mVar 0)) (mVar 2)) (mK (.int 2147483647)))))) (mSkip)) [some (.ref 1), some (.int b), none] (deckS fld [] x T) = .nx [some (.ref 1), some (.int b), none] (deckS fld [] x T) := by
      simp [mIf, mBool, m2, m1, mVar, mLst, mNil, getD, deckS, valD, R.bind, R.toO, dNe, onDD, rd, rdL, MM.need, D.shal, shalAll, eqD, eqAll, mSkip]
    exact mSeq_nx e
  · rw [List.concat_eq_append] at hl ⊢
    have hlen : cs.length + 1 ≤ 1000 := by simpa using hl
    -- the tests
    have e1 : mBool (m2 dNe (m1 (getD (.inr "cells")) (mVar 0)) (mLst (mNil))) [some (.ref 1), some (.int b), none] (deckS fld (cs ++ [c]) x T) = .ok true (deckS fld (cs ++ [c]) x T) := by
      have e2 : eqAll (nums (cs ++ [c])) [] = false := by
        have := eqAll_nums (cs ++ [c]) []
        exact this.trans (decide_eq_false (by simp))
      have e2' : shalAll 39 (nums (cs ++ [c])) = true := shal_nums 39 _
      unfold deckS
      generalize nums (cs ++ [c]) = zs at e2 e2' ⊢
      simp [mBool, m2, m1, mVar, mLst, mNil, getD, valD, R.bind, dNe, onDD, rd, rdL, MM.need, D.shal, shalAll, eqD, e2, e2']
    have e3 : (mAsg (mMeth .list dPop (m1 (getD (.inr "cells")) (mVar 0)) mNil) (gN 2)) [some (.ref 1), some (.int b), none] (deckS fld (cs ++ [c]) x T) = .nx [some (.ref 1), some (.int b), some (.int c)] (deckS fld cs x T) := by
      simp [mAsg, mMeth, m1, mVar, getD, deckS, valD, R.bind, R.toO, isTy, mNil, dPop, onCell, gN]
    have e5 : (10 : Int) ^ (18 : Nat) = 1000000000000000000 := by decide
    have e4 : mBool (m2 dGe (mVar 2) (m2 dPow (mK (.int 10)) (mK (.int 18)))) [some (.ref 1), some (.int b), some (.int c)] (deckS fld cs x T) = .ok (decide (10 ^ 18 ≤ c)) (deckS fld cs x T) := by
      simp [mBool, m2, mVar, mK, R.bind, dPow, onII, MM.need, dGe, dCmp]
    by_cases hc : 10 ^ 18 ≤ c
    · refine ⟨c.fmod b, cs ++ [c.fdiv (if b > 2 then b else 2)], x, ?_, by simp, (fmod_nb hb).1, (fmod_nb hb).2⟩
      have m0 : (if b > 2 then b else 2) ≠ (0 : Int) := by split <;> omega
      have m1' : (if b > 2 then b else 2).natAbs < 1073741824 := by split <;> omega
      have e6 : (mSeq (mExpr (mMeth .list dAppend (m1 (getD (.inr "cells")) (mVar 0)) (mCons (m2 dDiv (mVar 2) (mN dMax2 (mCons (mK (.int 2)) (mCons (mVar 1) (mNil))))) (mNil)))) (mRet (m2 dMod (mVar 2) (mVar 1)))) [some (.ref 1), some (.int b), some (.int c)] (deckS fld cs x T) = .rt (.int (c.fmod b)) (deckS fld (cs ++ [c.fdiv (if b > 2 then b else 2)]) x T) := by
        simp only [mSeq, mExpr, mMeth, m1, mVar, getD, deckS, valD, R.bind, R.toO, isTy, List.getElem?_cons_zero, List.getElem?_cons_succ, if_true, mCons, mNil, m2, mN, mK, dMax2, dDiv, onII]
        simp [MM.need, m0, m1', dAppend, onCell, lim, show cs.length + 1 ≤ 1000000 by omega, O.seq, mRet, m2, mVar, R.bind, R.toO, dMod, onII, show b ≠ 0 by omega]
      refine mSeq_rt ?_
      rw [mIf_t e1, mSeq_nx e3]
      refine mSeq_rt ?_
      rw [mIf_t (by rw [e4, decide_eq_true hc])]
      exact e6
    · obtain ⟨v, x', h, h1, h2⟩ := draw_tail (fld := fld) (x := (x + c).fmod 2147483647) (T := T) (cells := cs) (σ := []) (o := some (.int c)) hf hb
      refine ⟨v, cs, x', ?_, by simp, h1, h2⟩
      rw [← h]
      have e7 : (mPutD (.inr fld) (mVar 0) (m2 dMod (m2 (dAdd false) (m1 (getD (.inr fld)) (mVar 0)) (mVar 2)) (mK (.int 2147483647)))) [some (.ref 1), some (.int b), some (.int c)] (deckS fld cs x T) = .nx [some (.ref 1), some (.int b), some (.int c)] (deckS fld cs ((x + c).fmod 2147483647) T) := by
        simp [mPutD, m2, m1, mVar, mK, R.bind, R.toO, dMod, dAdd, or2, addI, onII, MM.need, R.or, getD, deckS, valD, putD, hf, hf.symm, lim, nodupK]
      refine mSeq_nx ?_
      rw [mIf_t e1, mSeq_nx e3, mSeq_nx (by rw [mIf_f (by rw [e4, decide_eq_false hc])]; rfl)]
      exact e7
def drawM (fld : Str) : List D → Store → R D := mDefQ 2 3 (drawB fld)
theorem draw_ok (hf : (Sum.inr ("cells" : Str) : Key) ≠ .inr fld) (hb : 0 < b) (hb2 : b < 1073741824) (hl : cells.length ≤ 1000) : ∃ v cells' x', drawM fld [.ref 1, .int b] (deckS fld cells x T) = .ok (.int v) (deckS fld cells' x' T) ∧ cells'.length ≤ cells.length ∧ 0 ≤ v ∧ v < b := by
  obtain ⟨v, cells', x', h, h1⟩ := draw_run (fld := fld) (x := x) (T := T) (cells := cells) (σ := []) hf hb hb2 hl
  refine ⟨v, cells', x', ?_, h1⟩
  exact call_plain rfl h

def pickB (mdraw : List D → Store → R D) : MS := mRet (m2 dIx (mVar 1) (mN mdraw (mCons (mVar 0) (mCons (mN dLen (mCons (mVar 1) (mNil))) (mNil)))))
theorem getInt {xs : List D} {v : Int} (h0 : 0 ≤ v) (h1 : v < xs.length) : ∃ x, atI xs v = some x ∧ x ∈ xs := by
  have hv : v.toNat < xs.length := by omega
  refine ⟨xs[v.toNat], ?_, List.getElem_mem _⟩
  unfold atI ixN
  simp [show ¬ v < 0 by omega, h0, h1]
theorem pick_ok (hf : (Sum.inr ("cells" : Str) : Key) ≠ .inr fld) {xs : List D} (h1 : xs ≠ []) (h2 : xs.length < 1073741824) (hl : cells.length ≤ 1000) : ∃ y cells' x', mDefQ 2 2 (pickB (drawM fld)) [.ref 1, .lst xs] (deckS fld cells x T) = .ok y (deckS fld cells' x' T) ∧ cells'.length ≤ cells.length ∧ y ∈ xs := by
  have hp : (0 : Int) < xs.length := by
    cases xs with
    | nil => exact absurd rfl h1
    | cons => simp
  obtain ⟨v, cells', x', h, hc, v0, v1⟩ := draw_ok (x := x) (T := T) hf hp (by omega) hl
  obtain ⟨y, hy, hm⟩ := getInt v0 v1
  refine ⟨y, cells', x', call_plain rfl ?_, hc, hm⟩
  have e : mN (drawM fld) (mCons (mVar 0) (mCons (mN dLen (mCons (mVar 1) (mNil))) (mNil))) [some (.ref 1), some (.lst xs)] (deckS fld cells x T) = .ok (.int v) (deckS fld cells' x' T) := by
    rw [← h]
    simp [mN, mCons, mVar, mNil, R.bind, dLen, orN, lenSeq, on1, rdS, rdL, R.or]
  show (pickB (drawM fld)) [some (.ref 1), some (.lst xs)] (deckS fld cells x T) = _
  unfold pickB
  show (R.toO (m2 dIx (mVar 1) (mN (drawM fld) (mCons (mVar 0) (mCons (mN dLen (mCons (mVar 1) (mNil))) (mNil)))) [some (.ref 1), some (.lst xs)] (deckS fld cells x T)) fun d S1 => .rt d S1) = _
  simp only [m2, mVar, List.getElem?_cons_succ, List.getElem?_cons_zero, R.bind]
  rw [e]
  simp [R.toO, dIx, or2, ixSeq, rdS, rdL, hy, R.or]

end
theorem runLc_cons {σ0 σ1 : Sg} {g : MG} {t : MT} {me : ME} {d y : D} {ds ys : List D} {S S1 S2 S3 S4 : Store} (h1 : g d σ0 S = .ok σ1 S1) (h2 : t σ1 S1 = .ok true S2) (h3 : me σ1 S2 = .ok y S3) (h4 : runLc σ0 g t me ds S3 = .ok ys S4) : runLc σ0 g t me (d :: ds) S = .ok (y :: ys) S4 := by
  unfold runLc
  rw [h1]; simp only [R.bind]; rw [h2]; simp only [if_true]; rw [h3]; simp only [R.bind]; rw [h4]
theorem runLc_skip {σ0 σ1 : Sg} {g : MG} {t : MT} {me : ME} {d : D} {ds ys : List D} {S S1 S2 S4 : Store} (h1 : g d σ0 S = .ok σ1 S1) (h2 : t σ1 S1 = .ok false S2) (h4 : runLc σ0 g t me ds S2 = .ok ys S4) : runLc σ0 g t me (d :: ds) S = .ok ys S4 := by
  unfold runLc
  rw [h1]; simp only [R.bind]; rw [h2]; simp only [Bool.false_eq_true, if_false]; rw [h4]
theorem runFor_cons {g : MG} {b : MS} {d : D} {ds : List D} {σ σ1 σ2 : Sg} {S S1 S2 : Store} (h1 : g d σ S = .ok σ1 S1) (h2 : b σ1 S1 = .nx σ2 S2) : runFor g b (d :: ds) σ S = runFor g b ds σ2 S2 := by
  show (R.toO (g d σ S) fun σ1 S1 => (b σ1 S1).next (runFor g b ds)) = _
  rw [h1]
  show (b σ1 S1).next _ = _
  rw [h2]
  rfl
theorem runFor_rt {g : MG} {b : MS} {d r : D} {ds : List D} {σ σ1 : Sg} {S S1 S2 : Store} (h1 : g d σ S = .ok σ1 S1) (h2 : b σ1 S1 = .rt r S2) : runFor g b (d :: ds) σ S = .rt r S2 := by
  show (R.toO (g d σ S) fun σ1 S1 => (b σ1 S1).next (runFor g b ds)) = _
  rw [h1]
  show (b σ1 S1).next _ = _
  rw [h2]
  rfl
theorem cut_nums (ns : List Int) (lo hi : Option Int) : cutD (nums ns) lo hi = nums (cutD ns lo hi) := by
  unfold cutD
  rw [List.length_map]
  show _ = List.map D.int _
  rw [List.map_take, List.map_drop]
theorem cut_len {α : Type} (ns : List α) (lo hi : Option Int) : (cutD ns lo hi).length ≤ ns.length := by
  unfold cutD
  rw [List.length_take, List.length_drop]
  omega
theorem ints_lc (σ0 : Sg) (k : Nat) (hk : k < σ0.length) (S : Store) : ∀ ns : List Int, runLc σ0 (gN k) mYes (mN intI (mCons (mVar k) mNil)) (nums ns) S = .ok (nums ns) S
  | [] => rfl
  | n :: ns => runLc_cons (σ1 := σ0.set k (some (.int n))) rfl rfl (by
      simp only [mN, mCons, mNil, mVar, List.getElem?_set_self hk, R.bind]
      rfl) (ints_lc σ0 k hk S ns)
def deckB (fld : Str) (c0 c1 c2 c3 c4 top : Int) : MS := mSeq (mPar 1 2 (mCons (mLc [3] (miSeq (mSl false (mVar 0) mpN (mpS (mK (.int top))))) (gN 3) (mYes) (mN intI (mCons (mVar 3) (mNil)))) (mCons (mK (.int c0)) (mNil)))) (mSeq (mFor (miSeq (mVar 1)) (gN 3) (mAsg (m2 dMod (m2 (dAdd false) (m2 (dAdd false) (m2 (dMul false) (mVar 2) (mK (.int c1))) (m2 dMod (mVar 3) (mK (.int c2)))) (mK (.int c3))) (mK (.int c4))) (gN 2))) (mRet (mDict [.inr "cells", .inr fld] (mCons (m1 (revL true) (mVar 1)) (mCons (mVar 2) (mNil))))))
section
variable {fld : Str} {c0 c1 c2 c3 c4 top : Int} {ns : List Int}
theorem deck_for (h1 : b64 c1 = true) (h2 : c2 ≠ 0) (h4 : c4 ≠ 0) (a0 a1 : Option D) (S : Store) : ∀ (ns : List Int) (x : Int) (o : Option D), ∃ (x' : Int) (o' : Option D), runFor (gN 3) (mAsg (m2 dMod (m2 (dAdd false) (m2 (dAdd false) (m2 (dMul false) (mVar 2) (mK (.int c1))) (m2 dMod (mVar 3) (mK (.int c2)))) (mK (.int c3))) (mK (.int c4))) (gN 2)) (nums ns) [a0, a1, some (.int x), o] S = .nx [a0, a1, some (.int x'), o'] S
  | [], x, o => ⟨x, o, rfl⟩
  | n :: ns, x, o => by
    obtain ⟨x', o', h⟩ := deck_for h1 h2 h4 a0 a1 S ns ((x * c1 + n.fmod c2 + c3).fmod c4) (some (.int n))
    refine ⟨x', o', ?_⟩
    rw [← h]
    refine runFor_cons (σ1 := [a0, a1, some (.int x), some (.int n)]) rfl ?_
    simp [mAsg, m2, mVar, mK, R.bind, R.toO, dMod, dAdd, dMul, or2, addI, mulI, onII, MM.need, R.or, h1, h2, h4, gN]
theorem deck_ok (h1 : b64 c1 = true) (h2 : c2 ≠ 0) (h4 : c4 ≠ 0) (hl : ns.length ≤ 1000) (hf : (Sum.inr ("cells" : Str) : Key) ≠ .inr fld) : ∃ cells x, mDefQ 1 4 (deckB fld c0 c1 c2 c3 c4 top) [.scr (nums ns)] [] = .ok (.ref 1) (deckS fld cells x []) ∧ cells.length ≤ ns.length := by
  have hlen := cut_len ns none (some top)
  let cs := cutD ns none (some top)
  obtain ⟨x', o', hx⟩ := deck_for (c3 := c3) h1 h2 h4 (some (.scr (nums ns))) (some (.lst (nums cs))) [] cs c0 none
  refine ⟨cs.reverse, x', call_plain rfl ?_, by rw [List.length_reverse]; exact hlen⟩
  unfold deckB
  have e1 : (mPar 1 2 (mCons (mLc [3] (miSeq (mSl false (mVar 0) mpN (mpS (mK (.int top))))) (gN 3) (mYes) (mN intI (mCons (mVar 3) (mNil)))) (mCons (mK (.int c0)) (mNil)))) [some (.scr (nums ns)), none, none, none] [] = .nx [some (.scr (nums ns)), some (.lst (nums cs)), some (.int c0), none] [] := by
    have e0 : miSeq (mSl false (mVar 0) mpN (mpS (mK (.int top)))) [some (.scr (nums ns)), none, none, none] [] = .ok (nums cs) [] := by
      simp [miSeq, mSl, mVar, mpN, mpS, mK, R.bind, dSl, slL, newL, R.or, itemsOf, cs, ← cut_nums]
    have e2 : mLc [3] (miSeq (mSl false (mVar 0) mpN (mpS (mK (.int top))))) (gN 3) (mYes) (mN intI (mCons (mVar 3) (mNil))) [some (.scr (nums ns)), none, none, none] [] = .ok (.lst (nums cs)) [] := by
      unfold mLc mLcF
      rw [e0]
      simp only [R.bind]
      rw [if_pos (by rw [List.length_map]; exact Nat.le_trans hlen (by omega)), ints_lc _ _ (by simp [wipeM])]
      rfl
    simp only [mPar, mCons, mNil, mK]
    rw [e2]
    rfl
  rw [show (List.map some [D.scr (nums ns)] ++ List.replicate (4 - 1) none) = [some (.scr (nums ns)), none, none, none] from rfl, mSeq_nx e1]
  have e3 : (mFor (miSeq (mVar 1)) (gN 3) (mAsg (m2 dMod (m2 (dAdd false) (m2 (dAdd false) (m2 (dMul false) (mVar 2) (mK (.int c1))) (m2 dMod (mVar 3) (mK (.int c2)))) (mK (.int c3))) (mK (.int c4))) (gN 2))) [some (.scr (nums ns)), some (.lst (nums cs)), some (.int c0), none] [] = .nx [some (.scr (nums ns)), some (.lst (nums cs)), some (.int x'), o'] [] := by
    rw [← hx]
    rfl
  rw [mSeq_nx e3]
  have e4 : nodupK [(.inr "cells" : Key), .inr fld] = true := by simp [nodupK, hf.symm]
  simp [mRet, mDict, mCons, mNil, m1, mVar, revL, rdL, newL, R.bind, R.toO, e4, deckS]
end
end MM

set_option Elab.async false
set_option linter.all false
set_option maxRecDepth 100000
set_option maxHeartbeats 4000000
/-! Mirrors and rule terms, printed by gen.py. -/
namespace LW
open PySem PySem.Spec PyProof.Rows L2 MM
def top (i : Nat) : Stmt := PySem.Challenge.pw_twocompanies_k19_heights_and_partners.main.body.getD i (.Pass ⟨0, 0, 0, 0⟩)
/-! the mirrors -/
/-- _law_deck: 0 _law_script, 1 _law_cells, 2 _law_stirred, 3 _law_cell -/
def b_w_deck : MS := mSeq (mPar 1 2 (mCons (mLc [3] (miSeq (mSl false (mVar 0) mpN (mpS (mK (.int 63))))) (gN 3) (mYes) (mN intI (mCons (mVar 3) (mNil)))) (mCons (mK (.int 1087517)) (mNil)))) (mSeq (mFor (miSeq (mVar 1)) (gN 3) (mAsg (m2 dMod (m2 (dAdd false) (m2 (dAdd false) (m2 (dMul false) (mVar 2) (mK (.int 48271))) (m2 dMod (mVar 3) (mK (.int 2147483563)))) (mK (.int 19))) (mK (.int 2147483647))) (gN 2))) (mRet (mDict [.inr "cells", .inr "stirred"] (mCons (m1 (revL true) (mVar 1)) (mCons (mVar 2) (mNil))))))
def m_w_deck : List D → Store → R D := (mDefQ 1 4 b_w_deck)
/-- _law_over: 0 _law_places, 1 _law_found, 2 _law_at, 3 _law_inner, 4 _law_outer -/
def b_w_over (self_ : List D → Store → R D) : MS := mSeq (mIf (mBool (m2 dEq (mVar 0) (mLst (mNil)))) (mRet (mLst (mCons (mTup (mNil)) (mNil)))) (mSkip)) (mSeq (mAsg (mLstM (mNil)) (gN 1)) (mSeq (mFor (miRng3 (mCons (mK (.int 1)) (mCons (mN dLen (mCons (mVar 0) (mNil))) (mCons (mK (.int 2)) (mNil))))) (gN 2) (mFor (miSeq (mN self_ (mCons (mSl false (mVar 0) (mpS (mK (.int 1))) (mpS (mVar 2))) (mNil)))) (gN 3) (mFor (miSeq (mN self_ (mCons (mSl false (mVar 0) (mpS (m2 (dAdd false) (mVar 2) (mK (.int 1)))) mpN) (mNil)))) (gN 4) (mExpr (mMeth .list dAppend (mVar 1) (mCons (mN tupL (mCons (mN (sortedD false) (mCons (m2 (dAdd false) (m2 (dAdd false) (mTup (mCons (mTup (mCons (m2 dIx (mVar 0) (mK (.int 0))) (mCons (m2 dIx (mVar 0) (mVar 2)) (mNil)))) (mNil))) (mVar 3)) (mVar 4)) (mNil))) (mNil))) (mNil))))))) (mRet (mVar 1))))
def m_w_over_ : Nat → List D → Store → R D
  | 0 => fun _ _ => .no
  | n + 1 => pureF (mDefQ 1 5 (b_w_over (m_w_over_ n)))
def m_w_over := m_w_over_ 8
/-- _law_all: 0 _law_n -/
def b_w_all : MS := mRet (mN (sortedD false) (mCons (mN m_w_over (mCons (mLstRg false (miRng1 (mCons (m2 (dMul false) (mK (.int 2)) (mVar 0)) mNil))) (mNil))) (mNil)))
def m_w_all : List D → Store → R D := pureF (mDefQ 1 1 b_w_all)
/-- _law_draw: 0 _law_deck_here, 1 _law_below, 2 _law_cell -/
def b_w_draw : MS := mSeq (mIf (mBool (m2 dNe (m1 (getD (.inr "cells")) (mVar 0)) (mLst (mNil)))) (mSeq (mAsg (mMeth .list dPop (m1 (getD (.inr "cells")) (mVar 0)) mNil) (gN 2)) (mSeq (mIf (mBool (m2 dGe (mVar 2) (m2 dPow (mK (.int 10)) (mK (.int 18))))) (mSeq (mExpr (mMeth .list dAppend (m1 (getD (.inr "cells")) (mVar 0)) (mCons (m2 dDiv (mVar 2) (mN dMax2 (mCons (mK (.int 2)) (mCons (mVar 1) (mNil))))) (mNil)))) (mRet (m2 dMod (mVar 2) (mVar 1)))) (mSkip)) (mPutD (.inr "stirred") (mVar 0) (m2 dMod (m2 (dAdd false) (m1 (getD (.inr "stirred")) (mVar 0)) (mVar 2)) (mK (.int 2147483647)))))) (mSkip)) (mSeq (mPutD (.inr "stirred") (mVar 0) (m2 dMod (m2 (dAdd false) (m2 (dMul false) (m1 (getD (.inr "stirred")) (mVar 0)) (mK (.int 16807))) (mK (.int 1087517))) (mK (.int 2147483647)))) (mRet (m2 dMod (m2 dDiv (m1 (getD (.inr "stirred")) (mVar 0)) (mK (.int 64))) (mVar 1))))
def m_w_draw : List D → Store → R D := (mDefQ 2 3 b_w_draw)
/-- _law_pick: 0 _law_deck_here, 1 _law_some -/
def b_w_pick : MS := mRet (m2 dIx (mVar 1) (mN m_w_draw (mCons (mVar 0) (mCons (mN dLen (mCons (mVar 1) (mNil))) (mNil)))))
def m_w_pick : List D → Store → R D := (mDefQ 2 2 b_w_pick)
/-- mates_of: 0 pairs, 1 found, 2 one, 3 other -/
def b_mates_of : MS := mSeq (mAsg (m2 (dMul true) (mLst (mCons (m1 dNeg (mK (.int 1))) (mNil))) (m2 (dMul false) (mK (.int 2)) (mN dLen (mCons (mVar 0) (mNil))))) (gN 1)) (mSeq (mFor (miSeq (mVar 0)) (gT 2 (gsCons (gN 2) (gsCons (gN 3) (gsNil)))) (mAsg (mTup (mCons (mVar 3) (mCons (mVar 2) (mNil)))) (gT 2 (gsCons (gSub (mVar 1) (mVar 2)) (gsCons (gSub (mVar 1) (mVar 3)) (gsNil)))))) (mRet (mVar 1)))
def m_mates_of : List D → Store → R D := pureF (mDefQ 1 4 b_mates_of)
/-- crosses: 0 pairs, 1 mates, 2 waiting, 3 place -/
def b_crosses : MS := mSeq (mPar 1 2 (mCons (mN m_mates_of (mCons (mVar 0) (mNil))) (mCons (mLstM (mNil)) (mNil)))) (mSeq (mFor (miRng1 (mCons (mN dLen (mCons (mVar 1) (mNil))) (mNil))) (gN 3) (mIf (mBool (m2 dGt (m2 dIx (mVar 1) (mVar 3)) (mVar 3))) (mExpr (mMeth .list dAppend (mVar 2) (mCons (m2 dIx (mVar 1) (mVar 3)) (mNil)))) (mIf (mBool (m2 dNe (mMeth .list dPop (mVar 2) mNil) (mVar 3))) (mRet (mK (.bl true))) (mSkip)))) (mRet (mK (.bl false))))
def m_crosses : List D → Store → R D := pureF (mDefQ 1 4 b_crosses)
/-- is_whole: 0 thing -/
def b_is_whole : MS := mRet (mAnd (m1 (dIsi .int) (mVar 0)) (mNot (m1 (dIsi .bool) (mVar 0))))
def m_is_whole : List D → Store → R D := pureF (mDefQ 1 1 b_is_whole)
/-- is_pairing: 0 size, 1 thing, 2 before, 3 taken, 4 pair -/
def b_is_pairing : MS := mSeq (mIf (mOrT (mNotT (mBool (m1 (dIsi .tuple) (mVar 1)))) (mBool (m2 dNe (mN dLen (mCons (mVar 1) (mNil))) (mVar 0)))) (mRet (mK (.bl false))) (mSkip)) (mSeq (mPar 2 3 (mCons (m1 dNeg (mK (.int 1))) (mCons (m2 (dMul true) (mLst (mCons (mK (.bl false)) (mNil))) (m2 (dMul false) (mK (.int 2)) (mVar 0))) (mNil)))) (mSeq (mFor (miSeq (mVar 1)) (gN 4) (mSeq (mIf (mOrT (mNotT (mBool (m1 (dIsi .tuple) (mVar 4)))) (mOrT (mBool (m2 dNe (mN dLen (mCons (mVar 4) (mNil))) (mK (.int 2)))) (mOrT (mNotT (mBool (mN m_is_whole (mCons (m2 dIx (mVar 4) (mK (.int 0))) (mNil))))) (mNotT (mBool (mN m_is_whole (mCons (m2 dIx (mVar 4) (mK (.int 1))) (mNil)))))))) (mRet (mK (.bl false))) (mSkip)) (mSeq (mIf (mOrT (mNotT (mBool (mCh (mVar 2) (mcC dLt (m2 dIx (mVar 4) (mK (.int 0))) (mcC dLt (m2 dIx (mVar 4) (mK (.int 1))) (mcL dLt (m2 (dMul false) (mK (.int 2)) (mVar 0)))))))) (mOrT (mBool (m2 dIx (mVar 3) (m2 dIx (mVar 4) (mK (.int 0))))) (mBool (m2 dIx (mVar 3) (m2 dIx (mVar 4) (mK (.int 1))))))) (mRet (mK (.bl false))) (mSkip)) (mSeq (mAsg (m2 dIx (mVar 4) (mK (.int 0))) (gN 2)) (mAsg (mTup (mCons (mK (.bl true)) (mCons (mK (.bl true)) (mNil)))) (gT 2 (gsCons (gSub (mVar 3) (m2 dIx (mVar 4) (mK (.int 0)))) (gsCons (gSub (mVar 3) (m2 dIx (mVar 4) (mK (.int 1)))) (gsNil))))))))) (mRet (mNot (mN m_crosses (mCons (mVar 1) (mNil)))))))
def m_is_pairing : List D → Store → R D := pureF (mDefQ 2 5 b_is_pairing)
/-- need_pairing: 0 thing -/
def b_need_pairing : MS := mIf (mOrT (mNotT (mBool (m1 (dIsi .tuple) (mVar 0)))) (mOrT (mNotT (mBool (mCh (mK (.int 1)) (mcC dLe (mN dLen (mCons (mVar 0) (mNil))) (mcL dLe (mK (.int 6))))))) (mNotT (mBool (mN m_is_pairing (mCons (mN dLen (mCons (mVar 0) (mNil))) (mCons (mVar 0) (mNil)))))))) (mNo) (mSkip)
def m_need_pairing : List D → Store → R D := pureF (mDefQ 1 1 b_need_pairing)
/-- need_two: 0 one, 1 other -/
def b_need_two : MS := mSeq (mExpr (mN m_need_pairing (mCons (mVar 0) (mNil)))) (mSeq (mExpr (mN m_need_pairing (mCons (mVar 1) (mNil)))) (mIf (mBool (m2 dNe (mN dLen (mCons (mVar 0) (mNil))) (mN dLen (mCons (mVar 1) (mNil))))) (mNo) (mSkip)))
def m_need_two : List D → Store → R D := pureF (mDefQ 2 2 b_need_two)
/-- heights: 0 pairing, 1 found, 2 place, 3 mate -/
def b_heights : MS := mSeq (mExpr (mN m_need_pairing (mCons (mVar 0) (mNil)))) (mSeq (mAsg (mLstM (mCons (mK (.int 0)) (mNil))) (gN 1)) (mSeq (mFor (miEnum (mCons (mN m_mates_of (mCons (mVar 0) (mNil))) (mNil))) (gT 2 (gsCons (gN 2) (gsCons (gN 3) (gsNil)))) (mExpr (mMeth .list dAppend (mVar 1) (mCons (m2 (dAdd false) (m2 dIx (mVar 1) (m1 dNeg (mK (.int 1)))) (mIfE (mBool (m2 dLt (mVar 2) (mVar 3))) (mK (.int 1)) (m1 dNeg (mK (.int 1))))) (mNil))))) (mRet (mN tupL (mCons (mVar 1) (mNil))))))
def m_heights : List D → Store → R D := pureF (mDefQ 1 4 b_heights)
/-- is_above: 0 one, 1 other, 2 pairs, 3 high, 4 low -/
def b_is_above : MS := mSeq (mExpr (mN m_need_two (mCons (mVar 0) (mCons (mVar 1) (mNil))))) (mZip 2 (mCons (mN m_heights (mCons (mVar 0) (mNil))) (mCons (mN m_heights (mCons (mVar 1) (mNil))) (mNil))) (fun items => mRet (mN allB (mCons (mLc [3, 4] (miK items) (gT 2 (gsCons (gN 3) (gsCons (gN 4) (gsNil)))) (mYes) (m2 dGe (mVar 3) (mVar 4))) mNil))))
def m_is_above : List D → Store → R D := pureF (mDefQ 2 5 b_is_above)
/-- _law_heights: 0 _law_n, 1 _law_pairing, 2 _law_t, 3 _law_a, 4 _law_b -/
def b_w_heights : MS := mRet (mN tupL (mCons (mLc [2] (miRng1 (mCons (m2 (dAdd false) (m2 (dMul false) (mK (.int 2)) (mVar 0)) (mK (.int 1))) (mNil))) (gN 2) (mYes) (mN dLen (mCons (mLc [3, 4] (miSeq (mVar 1)) (gT 2 (gsCons (gN 3) (gsCons (gN 4) (gsNil)))) (mBool (mCh (mVar 3) (mcC dLt (mVar 2) (mcL dLe (mVar 4))))) (mK (.int 0))) (mNil)))) (mNil)))
def m_w_heights : List D → Store → R D := pureF (mDefQ 2 5 b_w_heights)
/-- _law_over_one: 0 _law_n, 1 _law_one, 2 _law_other, 3 _law_near, 4 _law_far, 5 _law_t -/
def b_w_over_one : MS := mSeq (mAsg (mTup (mCons (mN m_w_heights (mCons (mVar 0) (mCons (mVar 1) (mNil)))) (mCons (mN m_w_heights (mCons (mVar 0) (mCons (mVar 2) (mNil)))) (mNil)))) (gT 2 (gsCons (gN 3) (gsCons (gN 4) (gsNil))))) (mRet (m2 dEq (mLc [5] (miRng1 (mCons (m2 (dAdd false) (m2 (dMul false) (mK (.int 2)) (mVar 0)) (mK (.int 1))) (mNil))) (gN 5) (mBool (m2 dLt (m2 dIx (mVar 3) (mVar 5)) (m2 dIx (mVar 4) (mVar 5)))) (mVar 5)) (mLst (mNil))))
def m_w_over_one : List D → Store → R D := pureF (mDefQ 3 6 b_w_over_one)
/-- is_size: 0 thing, 1 most -/
def b_is_size : MS := mRet (mAnd (mN m_is_whole (mCons (mVar 0) (mNil))) (mCh (mK (.int 1)) (mcC dLe (mVar 0) (mcL dLe (mVar 1)))))
def m_is_size : List D → Store → R D := pureF (mDefQ 2 2 b_is_size)
/-- need_size: 0 size -/
def b_need_size : MS := mIf (mNotT (mBool (mN m_is_size (mCons (mVar 0) (mCons (mK (.int 6)) (mNil)))))) (mNo) (mSkip)
def m_need_size : List D → Store → R D := pureF (mDefQ 1 1 b_need_size)
/-- straight_pairing: 0 size, 1 place -/
def b_straight_pairing : MS := mSeq (mExpr (mN m_need_size (mCons (mVar 0) (mNil)))) (mRet (mN tupL (mCons (mLc [1] (miRng1 (mCons (mVar 0) (mNil))) (gN 1) (mYes) (mTup (mCons (mVar 1) (mCons (m2 dSub (m2 dSub (m2 (dMul false) (mK (.int 2)) (mVar 0)) (mK (.int 1))) (mVar 1)) (mNil))))) (mNil))))
def m_straight_pairing : List D → Store → R D := pureF (mDefQ 1 2 b_straight_pairing)
/-- _law_order_right: 0 _law_n, 1 _law_some, 2 _law_one, 3 _law_other, 4 _law_due, 5 _law_first, 6 _law_second, 7 _law_third -/
def b_w_order_right : MS := mSeq (mFor (miSeq (mVar 1)) (gN 2) (mSeq (mIf (mOrT (mBool (m2 (dIs false) (mN m_is_above (mCons (mVar 2) (mCons (mVar 2) (mNil)))) (mK (.bl true)))) (mBool (m2 (dIs false) (mN m_is_above (mCons (mN m_straight_pairing (mCons (mVar 0) (mNil))) (mCons (mVar 2) (mNil)))) (mK (.bl true))))) (mRet (mK (.bl false))) (mSkip)) (mFor (miSeq (mVar 1)) (gN 3) (mSeq (mAsg (mN m_w_over_one (mCons (mVar 0) (mCons (mVar 2) (mCons (mVar 3) (mNil))))) (gN 4)) (mSeq (mIf (mBool (m2 dNe (mN dRepr (mCons (mLst (mCons (mN m_is_above (mCons (mVar 2) (mCons (mVar 3) (mNil)))) (mCons (mNK 0 2 m_is_above (pk [0, 1]) mNil (mCons (mVar 2) (mCons (mVar 3) (mNil)))) (mNil)))) (mNil))) (mN dRepr (mCons (mLst (mCons (mVar 4) (mCons (mVar 4) (mNil)))) (mNil))))) (mRet (mK (.bl false))) (mSkip)) (mSeq (mIf (mAndT (mBool (mN m_is_above (mCons (mVar 2) (mCons (mVar 3) (mNil))))) (mAndT (mBool (mN m_is_above (mCons (mVar 3) (mCons (mVar 2) (mNil))))) (mBool (m2 dNe (mVar 2) (mVar 3))))) (mRet (mK (.bl false))) (mSkip)) (mIf (mBool (m2 dNe (m2 dEq (mN m_heights (mCons (mVar 2) (mNil))) (mN m_heights (mCons (mVar 3) (mNil)))) (m2 dEq (mVar 2) (mVar 3)))) (mRet (mK (.bl false))) (mSkip)))))))) (mSeq (mPar3 5 6 7 (mCons (m2 dIx (mVar 1) (mK (.int 0))) (mCons (m2 dIx (mVar 1) (mK (.int 1))) (mCons (m2 dIx (mVar 1) (mK (.int 2))) (mNil))))) (mRet (mOr (mN m_is_above (mCons (mVar 5) (mCons (mVar 7) (mNil)))) (mNot (mAnd (mN m_is_above (mCons (mVar 5) (mCons (mVar 6) (mNil)))) (mN m_is_above (mCons (mVar 6) (mCons (mVar 7) (mNil)))))))))
def m_w_order_right : List D → Store → R D := pureF (mDefQ 2 8 b_w_order_right)
/-- through: 0 pairing, 1 size, 2 one, 3 other -/
def b_through : MS := mSeq (mExpr (mN m_need_pairing (mCons (mVar 0) (mNil)))) (mSeq (mAsg (mN dLen (mCons (mVar 0) (mNil))) (gN 1)) (mRet (mN tupL (mCons (mLc [2, 3] (miSeq (mVar 0)) (gT 2 (gsCons (gN 2) (gsCons (gN 3) (gsNil)))) (mBool (mCh (mVar 2) (mcC dLt (mVar 1) (mcL dLe (mVar 3))))) (mTup (mCons (mVar 2) (mCons (m2 dSub (m2 dSub (m2 (dMul false) (mK (.int 2)) (mVar 1)) (mK (.int 1))) (mVar 3)) (mNil))))) (mNil)))))
def m_through : List D → Store → R D := pureF (mDefQ 1 4 b_through)
/-- _law_through: 0 _law_n, 1 _law_pairing, 2 _law_a, 3 _law_b -/
def b_w_through : MS := mRet (mN tupL (mCons (mN (sortedD false) (mCons (mLc [2, 3] (miSeq (mVar 1)) (gT 2 (gsCons (gN 2) (gsCons (gN 3) (gsNil)))) (mBool (mCh (mVar 2) (mcC dLt (mVar 0) (mcL dLe (mVar 3))))) (mTup (mCons (mVar 2) (mCons (m2 dSub (m2 dSub (m2 (dMul false) (mK (.int 2)) (mVar 0)) (mK (.int 1))) (mVar 3)) (mNil))))) (mNil))) (mNil)))
def m_w_through : List D → Store → R D := pureF (mDefQ 2 4 b_w_through)
/-- partner: 0 pairing, 1 place -/
def b_partner : MS := mSeq (mExpr (mN m_need_pairing (mCons (mVar 0) (mNil)))) (mRet (m2 dIx (mN m_mates_of (mCons (mVar 0) (mNil))) (mVar 1)))
def m_partner : List D → Store → R D := pureF (mDefQ 2 2 b_partner)
/-- _law_one_right: 0 _law_n, 1 _law_pairing, 2 _law_due, 3 _law_found, 4 _law_i, 5 _law_j, 6 _law_k, 7 _law_m, 8 _law_a, 9 _law_b, 10 _law_rows, 11 _law_both -/
def b_w_one_right : MS := mSeq (mPar 2 3 (mCons (mN m_w_heights (mCons (mVar 0) (mCons (mVar 1) (mNil)))) (mCons (mN m_through (mCons (mVar 1) (mNil))) (mNil)))) (mSeq (mIf (mOrT (mBool (m2 dNe (mN m_heights (mCons (mVar 1) (mNil))) (mVar 2))) (mOrT (mBool (m2 dNe (mNK 0 1 m_heights (pk [0]) mNil (mCons (mVar 1) (mNil))) (mVar 2))) (mBool (m2 dNe (mN dLen (mCons (mVar 2) (mNil))) (m2 (dAdd false) (m2 (dMul false) (mK (.int 2)) (mVar 0)) (mK (.int 1))))))) (mRet (mK (.bl false))) (mSkip)) (mSeq (mIf (mOrT (mBool (m2 dNe (mVar 3) (mN m_w_through (mCons (mVar 0) (mCons (mVar 1) (mNil)))))) (mBool (m2 dNe (mNK 0 1 m_through (pk [0]) mNil (mCons (mVar 1) (mNil))) (mVar 3)))) (mRet (mK (.bl false))) (mSkip)) (mSeq (mFor (miSeq (mVar 3)) (gT 2 (gsCons (gN 4) (gsCons (gN 5) (gsNil)))) (mIf (mBool (m2 dNe (mLc [6, 7] (miSeq (mVar 3)) (gT 2 (gsCons (gN 6) (gsCons (gN 7) (gsNil)))) (mAndT (mBool (m2 dLt (mVar 4) (mVar 6))) (mBool (m2 dGe (mVar 5) (mVar 7)))) (mK (.int 0))) (mLst (mNil)))) (mRet (mK (.bl false))) (mSkip))) (mSeq (mFor (miSeq (mVar 1)) (gT 2 (gsCons (gN 8) (gsCons (gN 9) (gsNil)))) (mIf (mOrT (mBool (m2 dNe (mTup (mCons (mN m_partner (mCons (mVar 1) (mCons (mVar 8) (mNil)))) (mCons (mN m_partner (mCons (mVar 1) (mCons (mVar 9) (mNil)))) (mNil)))) (mTup (mCons (mVar 9) (mCons (mVar 8) (mNil)))))) (mBool (m2 dNe (mNK 0 2 m_partner (pk [0, 1]) mNil (mCons (mVar 1) (mCons (mVar 8) (mNil)))) (mVar 9)))) (mRet (mK (.bl false))) (mSkip))) (mSeq (mAsg (mLcF fin0 [8, 9] (miSeq (mVar 1)) (gT 2 (gsCons (gN 8) (gsCons (gN 9) (gsNil)))) (mBool (m2 dLt (mVar 8) (mVar 0))) (mVar 8)) (gN 10)) (mSeq (mAsg (mLcF fin0 [8, 9] (miSeq (mVar 1)) (gT 2 (gsCons (gN 8) (gsCons (gN 9) (gsNil)))) (mBool (m2 dLt (mVar 9) (mVar 0))) (mTup (mCons (mVar 8) (mCons (mVar 9) (mNil))))) (gN 11)) (mRet (mAnd (m2 dEq (mN dLen (mCons (mVar 3) (mNil))) (m2 dSub (mN dLen (mCons (mVar 10) (mNil))) (mN dLen (mCons (mVar 11) (mNil))))) (m2 dEq (m2 dIx (mVar 2) (mVar 0)) (mN dLen (mCons (mVar 3) (mNil))))))))))))
def m_w_one_right : List D → Store → R D := pureF (mDefQ 2 12 b_w_one_right)
/-- law: 0 _law_script, 1 _law_deck_here, 2 _law_n, 3 _law_every, 4 _law_some, 5 _law_turn, 6 _law_it -/
def b_law : MS := mSeq (mAsg (mN m_w_deck (mCons (mVar 0) (mNil))) (gN 1)) (mSeq (mAsg (m2 (dAdd false) (mK (.int 1)) (mN m_w_draw (mCons (mVar 1) (mCons (mK (.int 4)) (mNil))))) (gN 2)) (mSeq (mAsg (mIfE (mOrT (mBool (m2 dLt (mVar 2) (mK (.int 4)))) (mBool (m2 dGt (mN m_w_draw (mCons (mVar 1) (mCons (mK (.int 4)) (mNil)))) (mK (.int 0))))) (mVar 2) (mN m_w_pick (mCons (mVar 1) (mCons (mLst (mCons (mK (.int 5)) (mCons (mK (.int 6)) (mNil)))) (mNil))))) (gN 2)) (mSeq (mAsg (mN m_w_all (mCons (mVar 2) (mNil))) (gN 3)) (mSeq (mAsg (mLcM [5] (miRng1 (mCons (mK (.int 3)) (mNil))) (gN 5) (mYes) (mN m_w_pick (mCons (mVar 1) (mCons (mVar 3) (mNil))))) (gN 4)) (mSeq (mAsg (mN m_w_pick (mCons (mVar 1) (mCons (mLc [6] (miSeq (mVar 3)) (gN 6) (mBool (mN m_w_over_one (mCons (mVar 2) (mCons (m2 dIx (mVar 4) (mK (.int 0))) (mCons (mVar 6) (mNil)))))) (mVar 6)) (mNil)))) (gSub (mVar 4) (mK (.int 1)))) (mSeq (mAsg (mN m_w_pick (mCons (mVar 1) (mCons (mLc [6] (miSeq (mVar 3)) (gN 6) (mBool (mN m_w_over_one (mCons (mVar 2) (mCons (m2 dIx (mVar 4) (mK (.int 1))) (mCons (mVar 6) (mNil)))))) (mVar 6)) (mNil)))) (gSub (mVar 4) (mK (.int 2)))) (mSeq (mAsg (m2 (dAdd false) (mVar 4) (mLst (mCons (mN m_w_pick (mCons (mVar 1) (mCons (mVar 3) (mNil)))) (mCons (mN m_w_pick (mCons (mVar 1) (mCons (mVar 3) (mNil)))) (mNil))))) (gN 4)) (mSeq (mIf (mNotT (mBool (mN m_is_above (mCons (m2 dIx (mVar 4) (mK (.int 0))) (mCons (m2 dIx (mVar 4) (mK (.int 2))) (mNil)))))) (mRet (mK (.bl false))) (mSkip)) (mSeq (mIf (mOrT (mBool (m2 dNe (mLc [6] (miSeq (mVar 4)) (gN 6) (mNotT (mBool (mN m_w_one_right (mCons (mVar 2) (mCons (mVar 6) (mNil)))))) (mVar 6)) (mLst (mNil)))) (mNotT (mBool (mN m_w_order_right (mCons (mVar 2) (mCons (mFrz (mVar 4)) (mNil))))))) (mRet (mK (.bl false))) (mSkip)) (mRet (mN m_w_order_right (mCons (mVar 2) (mCons (m2 (dAdd false) (mSl false (mVar 4) (mpS (mK (.int 2))) mpN) (mSl false (mVar 4) mpN (mpS (mK (.int 1))))) (mNil))))))))))))))
def m_law : List D → Store → R D := (mDefQ 1 7 b_law)
/-! what the top tells -/
structure Txt (mg : Str → Option Value) : Prop where
  z_int : mg "int" = none
  z_len : mg "len" = none
  z_range : mg "range" = none
  z_sorted : mg "sorted" = none
  z_tuple : mg "tuple" = none
  z_list : mg "list" = none
  z_max : mg "max" = none
  z_isinstance : mg "isinstance" = none
  z_bool : mg "bool" = none
  z_enumerate : mg "enumerate" = none
  z_all : mg "all" = none
  z_zip : mg "zip" = none
  z_repr : mg "repr" = none
  y_MOST_SIZE : ∃ t, mg "MOST_SIZE" = some (.int 6 t)
abbrev s_w_deck : Stmt := top 22
abbrev ps_w_deck : List Str := ["_law_script"]
abbrev N_w_deck : List Str := ["_law_script", "_law_cells", "_law_stirred", "_law_cell"]
theorem sc_w_deck : FnScope N_w_deck ps_w_deck (defScope s_w_deck) := ⟨rfl, rfl, rfl, by decide +kernel, rfl, by decide +kernel, by decide +kernel⟩
abbrev s_w_over : Stmt := top 25
abbrev ps_w_over : List Str := ["_law_places"]
abbrev N_w_over : List Str := ["_law_places", "_law_found", "_law_at", "_law_inner", "_law_outer"]
theorem sc_w_over : FnScope N_w_over ps_w_over (defScope s_w_over) := ⟨rfl, rfl, rfl, by decide +kernel, rfl, by decide +kernel, by decide +kernel⟩
abbrev s_w_all : Stmt := top 26
abbrev ps_w_all : List Str := ["_law_n"]
abbrev N_w_all : List Str := ["_law_n"]
theorem sc_w_all : FnScope N_w_all ps_w_all (defScope s_w_all) := ⟨rfl, rfl, rfl, by decide +kernel, rfl, by decide +kernel, by decide +kernel⟩
abbrev s_w_draw : Stmt := top 23
abbrev ps_w_draw : List Str := ["_law_deck_here", "_law_below"]
abbrev N_w_draw : List Str := ["_law_deck_here", "_law_below", "_law_cell"]
theorem sc_w_draw : FnScope N_w_draw ps_w_draw (defScope s_w_draw) := ⟨rfl, rfl, rfl, by decide +kernel, rfl, by decide +kernel, by decide +kernel⟩
abbrev s_w_pick : Stmt := top 24
abbrev ps_w_pick : List Str := ["_law_deck_here", "_law_some"]
abbrev N_w_pick : List Str := ["_law_deck_here", "_law_some"]
theorem sc_w_pick : FnScope N_w_pick ps_w_pick (defScope s_w_pick) := ⟨rfl, rfl, rfl, by decide +kernel, rfl, by decide +kernel, by decide +kernel⟩
abbrev s_mates_of : Stmt := top 12
abbrev ps_mates_of : List Str := ["pairs"]
abbrev N_mates_of : List Str := ["pairs", "found", "one", "other"]
theorem sc_mates_of : FnScope N_mates_of ps_mates_of (defScope s_mates_of) := ⟨rfl, rfl, rfl, by decide +kernel, rfl, by decide +kernel, by decide +kernel⟩
abbrev s_crosses : Stmt := top 11
abbrev ps_crosses : List Str := ["pairs"]
abbrev N_crosses : List Str := ["pairs", "mates", "waiting", "place"]
theorem sc_crosses : FnScope N_crosses ps_crosses (defScope s_crosses) := ⟨rfl, rfl, rfl, by decide +kernel, rfl, by decide +kernel, by decide +kernel⟩
abbrev s_is_whole : Stmt := top 6
abbrev ps_is_whole : List Str := ["thing"]
abbrev N_is_whole : List Str := ["thing"]
theorem sc_is_whole : FnScope N_is_whole ps_is_whole (defScope s_is_whole) := ⟨rfl, rfl, rfl, by decide +kernel, rfl, by decide +kernel, by decide +kernel⟩
abbrev s_is_pairing : Stmt := top 10
abbrev ps_is_pairing : List Str := ["size", "thing"]
abbrev N_is_pairing : List Str := ["size", "thing", "before", "taken", "pair"]
theorem sc_is_pairing : FnScope N_is_pairing ps_is_pairing (defScope s_is_pairing) := ⟨rfl, rfl, rfl, by decide +kernel, rfl, by decide +kernel, by decide +kernel⟩
abbrev s_need_pairing : Stmt := top 14
abbrev ps_need_pairing : List Str := ["thing"]
abbrev N_need_pairing : List Str := ["thing"]
theorem sc_need_pairing : FnScope N_need_pairing ps_need_pairing (defScope s_need_pairing) := ⟨rfl, rfl, rfl, by decide +kernel, rfl, by decide +kernel, by decide +kernel⟩
abbrev s_need_two : Stmt := top 15
abbrev ps_need_two : List Str := ["one", "other"]
abbrev N_need_two : List Str := ["one", "other"]
theorem sc_need_two : FnScope N_need_two ps_need_two (defScope s_need_two) := ⟨rfl, rfl, rfl, by decide +kernel, rfl, by decide +kernel, by decide +kernel⟩
abbrev s_heights : Stmt := top 17
abbrev ps_heights : List Str := ["pairing"]
abbrev N_heights : List Str := ["pairing", "found", "place", "mate"]
theorem sc_heights : FnScope N_heights ps_heights (defScope s_heights) := ⟨rfl, rfl, rfl, by decide +kernel, rfl, by decide +kernel, by decide +kernel⟩
abbrev s_is_above : Stmt := top 18
abbrev ps_is_above : List Str := ["one", "other"]
abbrev N_is_above : List Str := ["one", "other", "pairs", "high", "low"]
theorem sc_is_above : FnScope N_is_above ps_is_above (defScope s_is_above) := ⟨rfl, rfl, rfl, by decide +kernel, rfl, by decide +kernel, by decide +kernel⟩
abbrev s_w_heights : Stmt := top 27
abbrev ps_w_heights : List Str := ["_law_n", "_law_pairing"]
abbrev N_w_heights : List Str := ["_law_n", "_law_pairing", "_law_t", "_law_a", "_law_b"]
theorem sc_w_heights : FnScope N_w_heights ps_w_heights (defScope s_w_heights) := ⟨rfl, rfl, rfl, by decide +kernel, rfl, by decide +kernel, by decide +kernel⟩
abbrev s_w_over_one : Stmt := top 28
abbrev ps_w_over_one : List Str := ["_law_n", "_law_one", "_law_other"]
abbrev N_w_over_one : List Str := ["_law_n", "_law_one", "_law_other", "_law_near", "_law_far", "_law_t"]
theorem sc_w_over_one : FnScope N_w_over_one ps_w_over_one (defScope s_w_over_one) := ⟨rfl, rfl, rfl, by decide +kernel, rfl, by decide +kernel, by decide +kernel⟩
abbrev s_is_size : Stmt := top 7
abbrev ps_is_size : List Str := ["thing", "most"]
abbrev N_is_size : List Str := ["thing", "most"]
theorem sc_is_size : FnScope N_is_size ps_is_size (defScope s_is_size) := ⟨rfl, rfl, rfl, by decide +kernel, rfl, by decide +kernel, by decide +kernel⟩
abbrev s_need_size : Stmt := top 13
abbrev ps_need_size : List Str := ["size"]
abbrev N_need_size : List Str := ["size"]
theorem sc_need_size : FnScope N_need_size ps_need_size (defScope s_need_size) := ⟨rfl, rfl, rfl, by decide +kernel, rfl, by decide +kernel, by decide +kernel⟩
abbrev s_straight_pairing : Stmt := top 16
abbrev ps_straight_pairing : List Str := ["size"]
abbrev N_straight_pairing : List Str := ["size", "place"]
theorem sc_straight_pairing : FnScope N_straight_pairing ps_straight_pairing (defScope s_straight_pairing) := ⟨rfl, rfl, rfl, by decide +kernel, rfl, by decide +kernel, by decide +kernel⟩
abbrev s_w_order_right : Stmt := top 31
abbrev ps_w_order_right : List Str := ["_law_n", "_law_some"]
abbrev N_w_order_right : List Str := ["_law_n", "_law_some", "_law_one", "_law_other", "_law_due", "_law_first", "_law_second", "_law_third"]
theorem sc_w_order_right : FnScope N_w_order_right ps_w_order_right (defScope s_w_order_right) := ⟨rfl, rfl, rfl, by decide +kernel, rfl, by decide +kernel, by decide +kernel⟩
abbrev s_through : Stmt := top 20
abbrev ps_through : List Str := ["pairing"]
abbrev N_through : List Str := ["pairing", "size", "one", "other"]
theorem sc_through : FnScope N_through ps_through (defScope s_through) := ⟨rfl, rfl, rfl, by decide +kernel, rfl, by decide +kernel, by decide +kernel⟩
abbrev s_w_through : Stmt := top 29
abbrev ps_w_through : List Str := ["_law_n", "_law_pairing"]
abbrev N_w_through : List Str := ["_law_n", "_law_pairing", "_law_a", "_law_b"]
theorem sc_w_through : FnScope N_w_through ps_w_through (defScope s_w_through) := ⟨rfl, rfl, rfl, by decide +kernel, rfl, by decide +kernel, by decide +kernel⟩
abbrev s_partner : Stmt := top 19
abbrev ps_partner : List Str := ["pairing", "place"]
abbrev N_partner : List Str := ["pairing", "place"]
theorem sc_partner : FnScope N_partner ps_partner (defScope s_partner) := ⟨rfl, rfl, rfl, by decide +kernel, rfl, by decide +kernel, by decide +kernel⟩
abbrev s_w_one_right : Stmt := top 30
abbrev ps_w_one_right : List Str := ["_law_n", "_law_pairing"]
abbrev N_w_one_right : List Str := ["_law_n", "_law_pairing", "_law_due", "_law_found", "_law_i", "_law_j", "_law_k", "_law_m", "_law_a", "_law_b", "_law_rows", "_law_both"]
theorem sc_w_one_right : FnScope N_w_one_right ps_w_one_right (defScope s_w_one_right) := ⟨rfl, rfl, rfl, by decide +kernel, rfl, by decide +kernel, by decide +kernel⟩
abbrev s_law : Stmt := top 32
abbrev ps_law : List Str := ["_law_script"]
abbrev N_law : List Str := ["_law_script", "_law_deck_here", "_law_n", "_law_every", "_law_some", "_law_turn", "_law_it"]
theorem sc_law : FnScope N_law ps_law (defScope s_law) := ⟨rfl, rfl, rfl, by decide +kernel, rfl, by decide +kernel, by decide +kernel⟩
section
variable {P : Program} {w : World} {K : PySem.W.Frag} {mg : Str → Option Value} {base : Heap}
theorem kb_is_above_0_1 {f : Addr} {fd : FuncData} (F : Fun K "is_above" "is_above" s_is_above f fd) : KB K fd ps_is_above 0 ["one", "other"] (pk [0, 1]) (pk [0, 1]) (pk [0, 1]) := kb_of 0 ["one", "other"] [0, 1] F fun _ _ _ _ _ _ us ws h1 h2 => match us, ws, h1, h2 with | [], [_, _], _, _ => rfl
theorem kb_partner_0_1 {f : Addr} {fd : FuncData} (F : Fun K "partner" "partner" s_partner f fd) : KB K fd ps_partner 0 ["pairing", "place"] (pk [0, 1]) (pk [0, 1]) (pk [0, 1]) := kb_of 0 ["pairing", "place"] [0, 1] F fun _ _ _ _ _ _ us ws h1 h2 => match us, ws, h1, h2 with | [], [_, _], _, _ => rfl
theorem kb_through_0 {f : Addr} {fd : FuncData} (F : Fun K "through" "through" s_through f fd) : KB K fd ps_through 0 ["pairing"] (pk [0]) (pk [0]) (pk [0]) := kb_of 0 ["pairing"] [0] F fun _ _ _ _ _ _ us ws h1 h2 => match us, ws, h1, h2 with | [], [_], _, _ => rfl
theorem kb_heights_0 {f : Addr} {fd : FuncData} (F : Fun K "heights" "heights" s_heights f fd) : KB K fd ps_heights 0 ["pairing"] (pk [0]) (pk [0]) (pk [0]) := kb_of 0 ["pairing"] [0] F fun _ _ _ _ _ _ us ws h1 h2 => match us, ws, h1, h2 with | [], [_], _, _ => rfl
theorem bd_w_deck {f : Addr} {fd : FuncData} (F : Fun K "_law_deck" "_law_deck" s_w_deck f fd) : Binds K fd ps_w_deck [] := F.binds fun _ _ _ _ _ _ us hl => match us, hl with | [_], _ => rfl
theorem st_w_deck {f : Addr} {fd : FuncData} (T : Txt mg) (F : Fun K "_law_deck" "_law_deck" s_w_deck f fd)  : FnM P w K mg base 1 f fd ps_w_deck (mDefQ 1 4 b_w_deck) := by
  refine fnm_nox (k := 0) F sc_w_deck fun cdv A outer s H E hr hgd => ?_
  have hu := hu64 hr
  have hu1 : (A.deeper (envOfC "_law_deck" (defScope s_w_deck) s.heap.objs.size f cdv)).units + 1 < cLine := by omega
  have nd := sc_w_deck.nd
  exact ss_cons (s_par 1 2 (by rfl) nd (sa_cons (se_lc (own := [("_law_cell", 3)]) (by rfl) nd (si_seq (se_sl (m := false) (se_var 0) sp_none (sp_some (se_int)))) (blkOk_by (by kernel_rfl)) (fun _ _ _ _ _ => sg_name 3 nd) (fun _ _ _ _ _ => sts_nil) (fun _ _ _ _ _ => se_callTy cd_int (by rfl) T.z_int (by decide +kernel) (sa_cons (se_var 3) (sa_nil)))) (sa_cons (se_int) (sa_nil)))) (ss_cons (s_for PassesOwn.never (by rfl) (si_seq (se_var 1)) (sg_name 3 nd) (ss_one (s_set 2 nd (se_op (od_mod) (se_op (od_add (m := false)) (se_op (od_add (m := false)) (se_op (od_mul (m := false)) (se_var 2) (se_int)) (se_op (od_mod) (se_var 3) (se_int))) (se_int)) (se_int))))) (ss_one (s_ret (se_dict (.cons pe_str (se_rev (m := true) (se_var 1)) (.cons pe_str (se_var 2) (.nil)))))))
theorem ok_w_deck {f : Addr} {fd : FuncData} (T : Txt mg) (F : Fun K "_law_deck" "_law_deck" s_w_deck f fd) (hm : mg "_law_deck" = some (.ref f))  : Cal P w K mg base 1 "_law_deck" s_w_deck ps_w_deck f fd m_w_deck := ⟨F, (st_w_deck T F ), hm, bd_w_deck F⟩
theorem bd_w_over {f : Addr} {fd : FuncData} (F : Fun K "_law_over" "_law_over" s_w_over f fd) : Binds K fd ps_w_over [] := F.binds fun _ _ _ _ _ _ us hl => match us, hl with | [_], _ => rfl
theorem st_w_over {k : Nat} (hk : 0 ≤ k) {f : Addr} {fd : FuncData} (T : Txt mg) (F : Fun K "_law_over" "_law_over" s_w_over f fd) {self_ : List D → Store → R D} (C_w_over : Cal P w K mg base k "_law_over" s_w_over ps_w_over f fd self_)  : FnM P w K mg base (k + 1) f fd ps_w_over (mDefQ 1 5 (b_w_over self_)) := by
  refine fnm_nox F sc_w_over fun cdv A outer s H E hr hgd => ?_
  have hu := hu64 hr
  have hu1 : (A.deeper (envOfC "_law_over" (defScope s_w_over) s.heap.objs.size f cdv)).units + 1 < cLine := by omega
  have nd := sc_w_over.nd
  exact ss_cons (s_if (st_cmp (od_eq hu) (se_var 0) (se_lst (sa_nil))) (ss_one (s_ret (se_lst (sa_cons (se_tup (sa_nil)) (sa_nil))))) (ss_nil)) (ss_cons (s_set 1 nd (se_lstM (sa_nil))) (ss_cons (s_for PassesOwn.never (by rfl) (si_rng3 (by rfl) T.z_range (sa_cons (se_int) (sa_cons (se_callB cd_len (by rfl) T.z_len (by decide +kernel) (sa_cons (se_var 0) (sa_nil))) (sa_cons (se_int) (sa_nil))))) (sg_name 2 nd) (ss_one (s_for PassesOwn.never (by rfl) (si_seq (c_call C_w_over hr hgd passL (sa_cons (se_sl (m := false) (se_var 0) (sp_some (se_int)) (sp_some (se_var 2))) (sa_nil)))) (sg_name 3 nd) (ss_one (s_for PassesOwn.never (by rfl) (si_seq (c_call C_w_over hr hgd passL (sa_cons (se_sl (m := false) (se_var 0) (sp_some (se_op (od_add (m := false)) (se_var 2) (se_int))) sp_none) (sa_nil)))) (sg_name 4 nd) (ss_one (s_expr (se_lm PySem.F.slot_list_append PySem.F.type_list_append md_append (se_var 1) (sa_cons (se_callTy cd_tup (by rfl) T.z_tuple (by decide +kernel) (sa_cons (se_callB (cd_sorted (m := false) hu) (by rfl) T.z_sorted (by decide +kernel) (sa_cons (se_op (od_add (m := false)) (se_op (od_add (m := false)) (se_tup (sa_cons (se_tup (sa_cons (se_ix xd_ix (se_var 0) (se_int)) (sa_cons (se_ix xd_ix (se_var 0) (se_var 2)) (sa_nil)))) (sa_nil))) (se_var 3)) (se_var 4)) (sa_nil))) (sa_nil))) (sa_nil)))))))))) (ss_one (s_ret (se_var 1)))))
theorem all_w_over {f : Addr} {fd : FuncData} (T : Txt mg) (F : Fun K "_law_over" "_law_over" s_w_over f fd) (hm : mg "_law_over" = some (.ref f))  : ∀ n : Nat, FnM P w K mg base (0 + n) f fd ps_w_over (m_w_over_ n)
  | 0 => FnM.none
  | n + 1 => (st_w_over (Nat.le_add_right _ _) T F ⟨F, all_w_over T F hm  n, hm, bd_w_over F⟩ ).pure
theorem ok_w_over {f : Addr} {fd : FuncData} (T : Txt mg) (F : Fun K "_law_over" "_law_over" s_w_over f fd) (hm : mg "_law_over" = some (.ref f))  : Cal P w K mg base 8 "_law_over" s_w_over ps_w_over f fd m_w_over := ⟨F, all_w_over T F hm  8, hm, bd_w_over F⟩
theorem bd_w_all {f : Addr} {fd : FuncData} (F : Fun K "_law_all" "_law_all" s_w_all f fd) : Binds K fd ps_w_all [] := F.binds fun _ _ _ _ _ _ us hl => match us, hl with | [_], _ => rfl
theorem st_w_all {f : Addr} {fd : FuncData} (T : Txt mg) (F : Fun K "_law_all" "_law_all" s_w_all f fd) {f_w_over : Addr} {fd_w_over : FuncData} (C_w_over : Cal P w K mg base 8 "_law_over" s_w_over ps_w_over f_w_over fd_w_over m_w_over) : FnM P w K mg base 9 f fd ps_w_all (mDefQ 1 1 b_w_all) := by
  refine fnm_nox (k := 8) F sc_w_all fun cdv A outer s H E hr hgd => ?_
  have hu := hu64 hr
  have hu1 : (A.deeper (envOfC "_law_all" (defScope s_w_all) s.heap.objs.size f cdv)).units + 1 < cLine := by omega
  have nd := sc_w_all.nd
  exact ss_one (s_ret (se_callB (cd_sorted (m := false) hu) (by rfl) T.z_sorted (by decide +kernel) (sa_cons (c_call C_w_over (hr.mono (by decide)) hgd passL (sa_cons (se_lstRg1 (m := false) (by rfl) T.z_list T.z_range (se_op (od_mul (m := false)) (se_int) (se_var 0))) (sa_nil))) (sa_nil))))
theorem ok_w_all {f : Addr} {fd : FuncData} (T : Txt mg) (F : Fun K "_law_all" "_law_all" s_w_all f fd) (hm : mg "_law_all" = some (.ref f)) {f_w_over : Addr} {fd_w_over : FuncData} (C_w_over : Cal P w K mg base 8 "_law_over" s_w_over ps_w_over f_w_over fd_w_over m_w_over) : Cal P w K mg base 9 "_law_all" s_w_all ps_w_all f fd m_w_all := ⟨F, (st_w_all T F C_w_over).pure, hm, bd_w_all F⟩
theorem bd_w_draw {f : Addr} {fd : FuncData} (F : Fun K "_law_draw" "_law_draw" s_w_draw f fd) : Binds K fd ps_w_draw [] := F.binds fun _ _ _ _ _ _ us hl => match us, hl with | [_, _], _ => rfl
theorem st_w_draw {f : Addr} {fd : FuncData} (T : Txt mg) (F : Fun K "_law_draw" "_law_draw" s_w_draw f fd)  : FnM P w K mg base 1 f fd ps_w_draw (mDefQ 2 3 b_w_draw) := by
  refine fnm_nox (k := 0) F sc_w_draw fun cdv A outer s H E hr hgd => ?_
  have hu := hu64 hr
  have hu1 : (A.deeper (envOfC "_law_draw" (defScope s_w_draw) s.heap.objs.size f cdv)).units + 1 < cLine := by omega
  have nd := sc_w_draw.nd
  exact ss_cons (s_if (st_cmp (od_ne hu) (se_getD (k := .inr "cells") hu1 (se_var 0) pe_str) (se_lst (sa_nil))) (ss_cons (s_set 2 nd (se_lm0 PySem.F.slot_list_pop PySem.F.type_list_pop md_pop (se_getD (k := .inr "cells") hu1 (se_var 0) pe_str))) (ss_cons (s_if (st_cmp od_ge (se_var 2) (se_op (od_pow) (se_int) (se_int))) (ss_cons (s_expr (se_lm PySem.F.slot_list_append PySem.F.type_list_append md_append (se_getD (k := .inr "cells") hu1 (se_var 0) pe_str) (sa_cons (se_op (od_div) (se_var 2) (se_callB (cd_max2 (by rfl)) (by rfl) T.z_max (by decide +kernel) (sa_cons (se_int) (sa_cons (se_var 1) (sa_nil))))) (sa_nil)))) (ss_one (s_ret (se_op (od_mod) (se_var 2) (se_var 1))))) (ss_nil)) (ss_one (s_putD (k := .inr "stirred") hu1 (se_var 0) (se_op (od_mod) (se_op (od_add (m := false)) (se_getD (k := .inr "stirred") hu1 (se_var 0) pe_str) (se_var 2)) (se_int)) pe_str)))) (ss_nil)) (ss_cons (s_putD (k := .inr "stirred") hu1 (se_var 0) (se_op (od_mod) (se_op (od_add (m := false)) (se_op (od_mul (m := false)) (se_getD (k := .inr "stirred") hu1 (se_var 0) pe_str) (se_int)) (se_int)) (se_int)) pe_str) (ss_one (s_ret (se_op (od_mod) (se_op (od_div) (se_getD (k := .inr "stirred") hu1 (se_var 0) pe_str) (se_int)) (se_var 1)))))
theorem ok_w_draw {f : Addr} {fd : FuncData} (T : Txt mg) (F : Fun K "_law_draw" "_law_draw" s_w_draw f fd) (hm : mg "_law_draw" = some (.ref f))  : Cal P w K mg base 1 "_law_draw" s_w_draw ps_w_draw f fd m_w_draw := ⟨F, (st_w_draw T F ), hm, bd_w_draw F⟩
theorem bd_w_pick {f : Addr} {fd : FuncData} (F : Fun K "_law_pick" "_law_pick" s_w_pick f fd) : Binds K fd ps_w_pick [] := F.binds fun _ _ _ _ _ _ us hl => match us, hl with | [_, _], _ => rfl
theorem st_w_pick {f : Addr} {fd : FuncData} (T : Txt mg) (F : Fun K "_law_pick" "_law_pick" s_w_pick f fd) {f_w_draw : Addr} {fd_w_draw : FuncData} (C_w_draw : Cal P w K mg base 1 "_law_draw" s_w_draw ps_w_draw f_w_draw fd_w_draw m_w_draw) : FnM P w K mg base 2 f fd ps_w_pick (mDefQ 2 2 b_w_pick) := by
  refine fnm_nox (k := 1) F sc_w_pick fun cdv A outer s H E hr hgd => ?_
  have hu := hu64 hr
  have hu1 : (A.deeper (envOfC "_law_pick" (defScope s_w_pick) s.heap.objs.size f cdv)).units + 1 < cLine := by omega
  have nd := sc_w_pick.nd
  exact ss_one (s_ret (se_ix xd_ix (se_var 1) (c_call C_w_draw (hr.mono (by decide)) hgd passL (sa_cons (se_var 0) (sa_cons (se_callB cd_len (by rfl) T.z_len (by decide +kernel) (sa_cons (se_var 1) (sa_nil))) (sa_nil))))))
theorem ok_w_pick {f : Addr} {fd : FuncData} (T : Txt mg) (F : Fun K "_law_pick" "_law_pick" s_w_pick f fd) (hm : mg "_law_pick" = some (.ref f)) {f_w_draw : Addr} {fd_w_draw : FuncData} (C_w_draw : Cal P w K mg base 1 "_law_draw" s_w_draw ps_w_draw f_w_draw fd_w_draw m_w_draw) : Cal P w K mg base 2 "_law_pick" s_w_pick ps_w_pick f fd m_w_pick := ⟨F, (st_w_pick T F C_w_draw), hm, bd_w_pick F⟩
theorem bd_mates_of {f : Addr} {fd : FuncData} (F : Fun K "mates_of" "mates_of" s_mates_of f fd) : Binds K fd ps_mates_of [] := F.binds fun _ _ _ _ _ _ us hl => match us, hl with | [_], _ => rfl
theorem st_mates_of {f : Addr} {fd : FuncData} (T : Txt mg) (F : Fun K "mates_of" "mates_of" s_mates_of f fd)  : FnM P w K mg base 1 f fd ps_mates_of (mDefQ 1 4 b_mates_of) := by
  refine fnm_nox (k := 0) F sc_mates_of fun cdv A outer s H E hr hgd => ?_
  have hu := hu64 hr
  have hu1 : (A.deeper (envOfC "mates_of" (defScope s_mates_of) s.heap.objs.size f cdv)).units + 1 < cLine := by omega
  have nd := sc_mates_of.nd
  exact ss_cons (s_set 1 nd (se_op (od_mul (m := true)) (se_lst (sa_cons (se_un ud_neg (se_int)) (sa_nil))) (se_op (od_mul (m := false)) (se_int) (se_callB cd_len (by rfl) T.z_len (by decide +kernel) (sa_cons (se_var 0) (sa_nil)))))) (ss_cons (s_for PassesOwn.never (by rfl) (si_seq (se_var 0)) (sg_tup (by rfl) (sgs_cons (sg_name 2 nd) (sgs_cons (sg_name 3 nd) (sgs_nil)))) (ss_one (s_asg (se_tup (sa_cons (se_var 3) (sa_cons (se_var 2) (sa_nil)))) (sg_tup (by rfl) (sgs_cons (sg_sub (se_var 1) (se_var 2)) (sgs_cons (sg_sub (se_var 1) (se_var 3)) (sgs_nil))))))) (ss_one (s_ret (se_var 1))))
theorem ok_mates_of {f : Addr} {fd : FuncData} (T : Txt mg) (F : Fun K "mates_of" "mates_of" s_mates_of f fd) (hm : mg "mates_of" = some (.ref f))  : Cal P w K mg base 1 "mates_of" s_mates_of ps_mates_of f fd m_mates_of := ⟨F, (st_mates_of T F ).pure, hm, bd_mates_of F⟩
theorem bd_crosses {f : Addr} {fd : FuncData} (F : Fun K "crosses" "crosses" s_crosses f fd) : Binds K fd ps_crosses [] := F.binds fun _ _ _ _ _ _ us hl => match us, hl with | [_], _ => rfl
theorem st_crosses {f : Addr} {fd : FuncData} (T : Txt mg) (F : Fun K "crosses" "crosses" s_crosses f fd) {f_mates_of : Addr} {fd_mates_of : FuncData} (C_mates_of : Cal P w K mg base 1 "mates_of" s_mates_of ps_mates_of f_mates_of fd_mates_of m_mates_of) : FnM P w K mg base 2 f fd ps_crosses (mDefQ 1 4 b_crosses) := by
  refine fnm_nox (k := 1) F sc_crosses fun cdv A outer s H E hr hgd => ?_
  have hu := hu64 hr
  have hu1 : (A.deeper (envOfC "crosses" (defScope s_crosses) s.heap.objs.size f cdv)).units + 1 < cLine := by omega
  have nd := sc_crosses.nd
  exact ss_cons (s_par 1 2 (by rfl) nd (sa_cons (c_call C_mates_of (hr.mono (by decide)) hgd passL (sa_cons (se_var 0) (sa_nil))) (sa_cons (se_lstM (sa_nil)) (sa_nil)))) (ss_cons (s_for PassesOwn.never (by rfl) (si_rng1 (by rfl) T.z_range (sa_cons (se_callB cd_len (by rfl) T.z_len (by decide +kernel) (sa_cons (se_var 1) (sa_nil))) (sa_nil))) (sg_name 3 nd) (ss_one (s_if (st_cmp od_gt (se_ix xd_ix (se_var 1) (se_var 3)) (se_var 3)) (ss_one (s_expr (se_lm PySem.F.slot_list_append PySem.F.type_list_append md_append (se_var 2) (sa_cons (se_ix xd_ix (se_var 1) (se_var 3)) (sa_nil))))) (ss_one (s_if (st_cmp (od_ne hu) (se_lm0 PySem.F.slot_list_pop PySem.F.type_list_pop md_pop (se_var 2)) (se_var 3)) (ss_one (s_ret (se_bl))) (ss_nil)))))) (ss_one (s_ret (se_bl))))
theorem ok_crosses {f : Addr} {fd : FuncData} (T : Txt mg) (F : Fun K "crosses" "crosses" s_crosses f fd) (hm : mg "crosses" = some (.ref f)) {f_mates_of : Addr} {fd_mates_of : FuncData} (C_mates_of : Cal P w K mg base 1 "mates_of" s_mates_of ps_mates_of f_mates_of fd_mates_of m_mates_of) : Cal P w K mg base 2 "crosses" s_crosses ps_crosses f fd m_crosses := ⟨F, (st_crosses T F C_mates_of).pure, hm, bd_crosses F⟩
theorem bd_is_whole {f : Addr} {fd : FuncData} (F : Fun K "is_whole" "is_whole" s_is_whole f fd) : Binds K fd ps_is_whole [] := F.binds fun _ _ _ _ _ _ us hl => match us, hl with | [_], _ => rfl
theorem st_is_whole {f : Addr} {fd : FuncData} (T : Txt mg) (F : Fun K "is_whole" "is_whole" s_is_whole f fd)  : FnM P w K mg base 1 f fd ps_is_whole (mDefQ 1 1 b_is_whole) := by
  refine fnm_nox (k := 0) F sc_is_whole fun cdv A outer s H E hr hgd => ?_
  have hu := hu64 hr
  have hu1 : (A.deeper (envOfC "is_whole" (defScope s_is_whole) s.heap.objs.size f cdv)).units + 1 < cLine := by omega
  have nd := sc_is_whole.nd
  exact ss_one (s_ret (se_and (se_isi .int T.z_isinstance T.z_int (se_var 0)) (se_one (se_not (se_isi .bool T.z_isinstance T.z_bool (se_var 0))))))
theorem ok_is_whole {f : Addr} {fd : FuncData} (T : Txt mg) (F : Fun K "is_whole" "is_whole" s_is_whole f fd) (hm : mg "is_whole" = some (.ref f))  : Cal P w K mg base 1 "is_whole" s_is_whole ps_is_whole f fd m_is_whole := ⟨F, (st_is_whole T F ).pure, hm, bd_is_whole F⟩
theorem bd_is_pairing {f : Addr} {fd : FuncData} (F : Fun K "is_pairing" "is_pairing" s_is_pairing f fd) : Binds K fd ps_is_pairing [] := F.binds fun _ _ _ _ _ _ us hl => match us, hl with | [_, _], _ => rfl
theorem st_is_pairing {f : Addr} {fd : FuncData} (T : Txt mg) (F : Fun K "is_pairing" "is_pairing" s_is_pairing f fd) {f_crosses : Addr} {fd_crosses : FuncData} (C_crosses : Cal P w K mg base 2 "crosses" s_crosses ps_crosses f_crosses fd_crosses m_crosses) {f_is_whole : Addr} {fd_is_whole : FuncData} (C_is_whole : Cal P w K mg base 1 "is_whole" s_is_whole ps_is_whole f_is_whole fd_is_whole m_is_whole) : FnM P w K mg base 3 f fd ps_is_pairing (mDefQ 2 5 b_is_pairing) := by
  refine fnm_nox (k := 2) F sc_is_pairing fun cdv A outer s H E hr hgd => ?_
  have hu := hu64 hr
  have hu1 : (A.deeper (envOfC "is_pairing" (defScope s_is_pairing) s.heap.objs.size f cdv)).units + 1 < cLine := by omega
  have nd := sc_is_pairing.nd
  exact ss_cons (s_if ((sw_or (st_not (st_val (se_isi .tuple T.z_isinstance T.z_tuple (se_var 1)))) (sw_or1 (st_cmp (od_ne hu) (se_callB cd_len (by rfl) T.z_len (by decide +kernel) (sa_cons (se_var 1) (sa_nil))) (se_var 0)))).pt) (ss_one (s_ret (se_bl))) (ss_nil)) (ss_cons (s_par 2 3 (by rfl) nd (sa_cons (se_un ud_neg (se_int)) (sa_cons (se_op (od_mul (m := true)) (se_lst (sa_cons (se_bl) (sa_nil))) (se_op (od_mul (m := false)) (se_int) (se_var 0))) (sa_nil)))) (ss_cons (s_for PassesOwn.never (by rfl) (si_seq (se_var 1)) (sg_name 4 nd) (ss_cons (s_if ((sw_or (st_not (st_val (se_isi .tuple T.z_isinstance T.z_tuple (se_var 4)))) (sw_or (st_cmp (od_ne hu) (se_callB cd_len (by rfl) T.z_len (by decide +kernel) (sa_cons (se_var 4) (sa_nil))) (se_int)) (sw_or (st_not (st_val (c_call C_is_whole (hr.mono (by decide)) hgd passL (sa_cons (se_ix xd_ix (se_var 4) (se_int)) (sa_nil))))) (sw_or1 (st_not (st_val (c_call C_is_whole (hr.mono (by decide)) hgd passL (sa_cons (se_ix xd_ix (se_var 4) (se_int)) (sa_nil))))))))).pt) (ss_one (s_ret (se_bl))) (ss_nil)) (ss_cons (s_if ((sw_or (st_not (st_chain (se_var 2) (sc_link od_lt (se_ix xd_ix (se_var 4) (se_int)) (sc_link od_lt (se_ix xd_ix (se_var 4) (se_int)) (sc_last od_lt (se_op (od_mul (m := false)) (se_int) (se_var 0))))))) (sw_or (st_val (se_ix xd_ix (se_var 3) (se_ix xd_ix (se_var 4) (se_int)))) (sw_or1 (st_val (se_ix xd_ix (se_var 3) (se_ix xd_ix (se_var 4) (se_int))))))).pt) (ss_one (s_ret (se_bl))) (ss_nil)) (ss_cons (s_set 2 nd (se_ix xd_ix (se_var 4) (se_int))) (ss_one (s_asg (se_tup (sa_cons (se_bl) (sa_cons (se_bl) (sa_nil)))) (sg_tup (by rfl) (sgs_cons (sg_sub (se_var 3) (se_ix xd_ix (se_var 4) (se_int))) (sgs_cons (sg_sub (se_var 3) (se_ix xd_ix (se_var 4) (se_int))) (sgs_nil)))))))))) (ss_one (s_ret (se_not (c_call C_crosses (hr.mono (by decide)) hgd passL (sa_cons (se_var 1) (sa_nil))))))))
theorem ok_is_pairing {f : Addr} {fd : FuncData} (T : Txt mg) (F : Fun K "is_pairing" "is_pairing" s_is_pairing f fd) (hm : mg "is_pairing" = some (.ref f)) {f_crosses : Addr} {fd_crosses : FuncData} (C_crosses : Cal P w K mg base 2 "crosses" s_crosses ps_crosses f_crosses fd_crosses m_crosses) {f_is_whole : Addr} {fd_is_whole : FuncData} (C_is_whole : Cal P w K mg base 1 "is_whole" s_is_whole ps_is_whole f_is_whole fd_is_whole m_is_whole) : Cal P w K mg base 3 "is_pairing" s_is_pairing ps_is_pairing f fd m_is_pairing := ⟨F, (st_is_pairing T F C_crosses C_is_whole).pure, hm, bd_is_pairing F⟩
theorem bd_need_pairing {f : Addr} {fd : FuncData} (F : Fun K "need_pairing" "need_pairing" s_need_pairing f fd) : Binds K fd ps_need_pairing [] := F.binds fun _ _ _ _ _ _ us hl => match us, hl with | [_], _ => rfl
theorem st_need_pairing {f : Addr} {fd : FuncData} (T : Txt mg) (F : Fun K "need_pairing" "need_pairing" s_need_pairing f fd) {f_is_pairing : Addr} {fd_is_pairing : FuncData} (C_is_pairing : Cal P w K mg base 3 "is_pairing" s_is_pairing ps_is_pairing f_is_pairing fd_is_pairing m_is_pairing) : FnM P w K mg base 4 f fd ps_need_pairing (mDefQ 1 1 b_need_pairing) := by
  refine fnm_nox (k := 3) F sc_need_pairing fun cdv A outer s H E hr hgd => ?_
  have hu := hu64 hr
  have hu1 : (A.deeper (envOfC "need_pairing" (defScope s_need_pairing) s.heap.objs.size f cdv)).units + 1 < cLine := by omega
  have nd := sc_need_pairing.nd
  exact ss_one (s_if ((sw_or (st_not (st_val (se_isi .tuple T.z_isinstance T.z_tuple (se_var 0)))) (sw_or (st_not (st_chain (se_int) (sc_link od_le (se_callB cd_len (by rfl) T.z_len (by decide +kernel) (sa_cons (se_var 0) (sa_nil))) (sc_last od_le (se_gi T.y_MOST_SIZE))))) (sw_or1 (st_not (st_val (c_call C_is_pairing (hr.mono (by decide)) hgd passL (sa_cons (se_callB cd_len (by rfl) T.z_len (by decide +kernel) (sa_cons (se_var 0) (sa_nil))) (sa_cons (se_var 0) (sa_nil))))))))).pt) (ss_one (s_never)) (ss_nil))
theorem ok_need_pairing {f : Addr} {fd : FuncData} (T : Txt mg) (F : Fun K "need_pairing" "need_pairing" s_need_pairing f fd) (hm : mg "need_pairing" = some (.ref f)) {f_is_pairing : Addr} {fd_is_pairing : FuncData} (C_is_pairing : Cal P w K mg base 3 "is_pairing" s_is_pairing ps_is_pairing f_is_pairing fd_is_pairing m_is_pairing) : Cal P w K mg base 4 "need_pairing" s_need_pairing ps_need_pairing f fd m_need_pairing := ⟨F, (st_need_pairing T F C_is_pairing).pure, hm, bd_need_pairing F⟩
theorem bd_need_two {f : Addr} {fd : FuncData} (F : Fun K "need_two" "need_two" s_need_two f fd) : Binds K fd ps_need_two [] := F.binds fun _ _ _ _ _ _ us hl => match us, hl with | [_, _], _ => rfl
theorem st_need_two {f : Addr} {fd : FuncData} (T : Txt mg) (F : Fun K "need_two" "need_two" s_need_two f fd) {f_need_pairing : Addr} {fd_need_pairing : FuncData} (C_need_pairing : Cal P w K mg base 4 "need_pairing" s_need_pairing ps_need_pairing f_need_pairing fd_need_pairing m_need_pairing) : FnM P w K mg base 5 f fd ps_need_two (mDefQ 2 2 b_need_two) := by
  refine fnm_nox (k := 4) F sc_need_two fun cdv A outer s H E hr hgd => ?_
  have hu := hu64 hr
  have hu1 : (A.deeper (envOfC "need_two" (defScope s_need_two) s.heap.objs.size f cdv)).units + 1 < cLine := by omega
  have nd := sc_need_two.nd
  exact ss_cons (s_expr (c_call C_need_pairing (hr.mono (by decide)) hgd passL (sa_cons (se_var 0) (sa_nil)))) (ss_cons (s_expr (c_call C_need_pairing (hr.mono (by decide)) hgd passL (sa_cons (se_var 1) (sa_nil)))) (ss_one (s_if (st_cmp (od_ne hu) (se_callB cd_len (by rfl) T.z_len (by decide +kernel) (sa_cons (se_var 0) (sa_nil))) (se_callB cd_len (by rfl) T.z_len (by decide +kernel) (sa_cons (se_var 1) (sa_nil)))) (ss_one (s_never)) (ss_nil))))
theorem ok_need_two {f : Addr} {fd : FuncData} (T : Txt mg) (F : Fun K "need_two" "need_two" s_need_two f fd) (hm : mg "need_two" = some (.ref f)) {f_need_pairing : Addr} {fd_need_pairing : FuncData} (C_need_pairing : Cal P w K mg base 4 "need_pairing" s_need_pairing ps_need_pairing f_need_pairing fd_need_pairing m_need_pairing) : Cal P w K mg base 5 "need_two" s_need_two ps_need_two f fd m_need_two := ⟨F, (st_need_two T F C_need_pairing).pure, hm, bd_need_two F⟩
theorem bd_heights {f : Addr} {fd : FuncData} (F : Fun K "heights" "heights" s_heights f fd) : Binds K fd ps_heights [] := F.binds fun _ _ _ _ _ _ us hl => match us, hl with | [_], _ => rfl
theorem st_heights {f : Addr} {fd : FuncData} (T : Txt mg) (F : Fun K "heights" "heights" s_heights f fd) {f_mates_of : Addr} {fd_mates_of : FuncData} (C_mates_of : Cal P w K mg base 1 "mates_of" s_mates_of ps_mates_of f_mates_of fd_mates_of m_mates_of) {f_need_pairing : Addr} {fd_need_pairing : FuncData} (C_need_pairing : Cal P w K mg base 4 "need_pairing" s_need_pairing ps_need_pairing f_need_pairing fd_need_pairing m_need_pairing) : FnM P w K mg base 5 f fd ps_heights (mDefQ 1 4 b_heights) := by
  refine fnm_nox (k := 4) F sc_heights fun cdv A outer s H E hr hgd => ?_
  have hu := hu64 hr
  have hu1 : (A.deeper (envOfC "heights" (defScope s_heights) s.heap.objs.size f cdv)).units + 1 < cLine := by omega
  have nd := sc_heights.nd
  exact ss_cons (s_expr (c_call C_need_pairing (hr.mono (by decide)) hgd passL (sa_cons (se_var 0) (sa_nil)))) (ss_cons (s_set 1 nd (se_lstM (sa_cons (se_int) (sa_nil)))) (ss_cons (s_for PassesOwn.never (by rfl) (si_enum (by rfl) T.z_enumerate (sa_cons (c_call C_mates_of (hr.mono (by decide)) hgd passL (sa_cons (se_var 0) (sa_nil))) (sa_nil))) (sg_tup (by rfl) (sgs_cons (sg_name 2 nd) (sgs_cons (sg_name 3 nd) (sgs_nil)))) (ss_one (s_expr (se_lm PySem.F.slot_list_append PySem.F.type_list_append md_append (se_var 1) (sa_cons (se_op (od_add (m := false)) (se_ix xd_ix (se_var 1) (se_un ud_neg (se_int))) (se_ifE (st_cmp od_lt (se_var 2) (se_var 3)) (se_int) (se_un ud_neg (se_int)))) (sa_nil)))))) (ss_one (s_ret (se_callTy cd_tup (by rfl) T.z_tuple (by decide +kernel) (sa_cons (se_var 1) (sa_nil)))))))
theorem ok_heights {f : Addr} {fd : FuncData} (T : Txt mg) (F : Fun K "heights" "heights" s_heights f fd) (hm : mg "heights" = some (.ref f)) {f_mates_of : Addr} {fd_mates_of : FuncData} (C_mates_of : Cal P w K mg base 1 "mates_of" s_mates_of ps_mates_of f_mates_of fd_mates_of m_mates_of) {f_need_pairing : Addr} {fd_need_pairing : FuncData} (C_need_pairing : Cal P w K mg base 4 "need_pairing" s_need_pairing ps_need_pairing f_need_pairing fd_need_pairing m_need_pairing) : Cal P w K mg base 5 "heights" s_heights ps_heights f fd m_heights := ⟨F, (st_heights T F C_mates_of C_need_pairing).pure, hm, bd_heights F⟩
theorem bd_is_above {f : Addr} {fd : FuncData} (F : Fun K "is_above" "is_above" s_is_above f fd) : Binds K fd ps_is_above [] := F.binds fun _ _ _ _ _ _ us hl => match us, hl with | [_, _], _ => rfl
theorem st_is_above {f : Addr} {fd : FuncData} (T : Txt mg) (F : Fun K "is_above" "is_above" s_is_above f fd) {f_heights : Addr} {fd_heights : FuncData} (C_heights : Cal P w K mg base 5 "heights" s_heights ps_heights f_heights fd_heights m_heights) {f_need_two : Addr} {fd_need_two : FuncData} (C_need_two : Cal P w K mg base 5 "need_two" s_need_two ps_need_two f_need_two fd_need_two m_need_two) : FnM P w K mg base 6 f fd ps_is_above (mDefQ 2 5 b_is_above) := by
  refine fnm_nox (k := 5) F sc_is_above fun cdv A outer s H E hr hgd => ?_
  have hu := hu64 hr
  have hu1 : (A.deeper (envOfC "is_above" (defScope s_is_above) s.heap.objs.size f cdv)).units + 1 < cLine := by omega
  have nd := sc_is_above.nd
  exact ss_cons (s_expr (c_call C_need_two (hr.mono (by decide)) hgd passL (sa_cons (se_var 0) (sa_cons (se_var 1) (sa_nil))))) (ss_zip nd (by rfl) T.z_zip (sa_cons (c_call C_heights (hr.mono (by decide)) hgd passL (sa_cons (se_var 0) (sa_nil))) (sa_cons (c_call C_heights (hr.mono (by decide)) hgd passL (sa_cons (se_var 1) (sa_nil))) (sa_nil))) (fun items => z_ret (z_callB (cd_all (by rfl)) (by rfl) T.z_all (by decide +kernel) (z_one (z_lcF (fin := fin0) (own := [("high", 3), ("low", 4)]) (by rfl) nd (blkOk_by (by kernel_rfl)) (fun a b c d e f => fin0_ok a b c d e f) (fun _ _ _ _ _ => sg_tup (by rfl) (sgs_cons (sg_name 3 nd) (sgs_cons (sg_name 4 nd) (sgs_nil)))) (fun _ _ _ _ _ => sts_nil) (fun _ _ _ _ _ => se_cmp od_ge (se_var 3) (se_var 4)))))))
theorem ok_is_above {f : Addr} {fd : FuncData} (T : Txt mg) (F : Fun K "is_above" "is_above" s_is_above f fd) (hm : mg "is_above" = some (.ref f)) {f_heights : Addr} {fd_heights : FuncData} (C_heights : Cal P w K mg base 5 "heights" s_heights ps_heights f_heights fd_heights m_heights) {f_need_two : Addr} {fd_need_two : FuncData} (C_need_two : Cal P w K mg base 5 "need_two" s_need_two ps_need_two f_need_two fd_need_two m_need_two) : Cal P w K mg base 6 "is_above" s_is_above ps_is_above f fd m_is_above := ⟨F, (st_is_above T F C_heights C_need_two).pure, hm, bd_is_above F⟩
theorem bd_w_heights {f : Addr} {fd : FuncData} (F : Fun K "_law_heights" "_law_heights" s_w_heights f fd) : Binds K fd ps_w_heights [] := F.binds fun _ _ _ _ _ _ us hl => match us, hl with | [_, _], _ => rfl
theorem st_w_heights {f : Addr} {fd : FuncData} (T : Txt mg) (F : Fun K "_law_heights" "_law_heights" s_w_heights f fd)  : FnM P w K mg base 1 f fd ps_w_heights (mDefQ 2 5 b_w_heights) := by
  refine fnm_nox (k := 0) F sc_w_heights fun cdv A outer s H E hr hgd => ?_
  have hu := hu64 hr
  have hu1 : (A.deeper (envOfC "_law_heights" (defScope s_w_heights) s.heap.objs.size f cdv)).units + 1 < cLine := by omega
  have nd := sc_w_heights.nd
  exact ss_one (s_ret (se_callTy cd_tup (by rfl) T.z_tuple (by decide +kernel) (sa_cons (se_lc (own := [("_law_t", 2)]) (by rfl) nd (si_rng1 (by rfl) T.z_range (sa_cons (se_op (od_add (m := false)) (se_op (od_mul (m := false)) (se_int) (se_var 0)) (se_int)) (sa_nil))) (blkOk_by (by kernel_rfl)) (fun _ _ _ _ _ => sg_name 2 nd) (fun _ _ _ _ _ => sts_nil) (fun _ _ _ _ _ => se_callB cd_len (by rfl) T.z_len (by decide +kernel) (sa_cons (se_lc (own := [("_law_a", 3), ("_law_b", 4)]) (by rfl) nd (si_seq (se_var 1)) (blkOk_by (by kernel_rfl)) (fun _ _ _ _ _ => sg_tup (by rfl) (sgs_cons (sg_name 3 nd) (sgs_cons (sg_name 4 nd) (sgs_nil)))) (fun _ _ _ _ _ => sts_one (st_chain (se_var 3) (sc_link od_lt (se_var 2) (sc_last od_le (se_var 4))))) (fun _ _ _ _ _ => se_int)) (sa_nil)))) (sa_nil))))
theorem ok_w_heights {f : Addr} {fd : FuncData} (T : Txt mg) (F : Fun K "_law_heights" "_law_heights" s_w_heights f fd) (hm : mg "_law_heights" = some (.ref f))  : Cal P w K mg base 1 "_law_heights" s_w_heights ps_w_heights f fd m_w_heights := ⟨F, (st_w_heights T F ).pure, hm, bd_w_heights F⟩
theorem bd_w_over_one {f : Addr} {fd : FuncData} (F : Fun K "_law_over_one" "_law_over_one" s_w_over_one f fd) : Binds K fd ps_w_over_one [] := F.binds fun _ _ _ _ _ _ us hl => match us, hl with | [_, _, _], _ => rfl
theorem st_w_over_one {f : Addr} {fd : FuncData} (T : Txt mg) (F : Fun K "_law_over_one" "_law_over_one" s_w_over_one f fd) {f_w_heights : Addr} {fd_w_heights : FuncData} (C_w_heights : Cal P w K mg base 1 "_law_heights" s_w_heights ps_w_heights f_w_heights fd_w_heights m_w_heights) : FnM P w K mg base 2 f fd ps_w_over_one (mDefQ 3 6 b_w_over_one) := by
  refine fnm_nox (k := 1) F sc_w_over_one fun cdv A outer s H E hr hgd => ?_
  have hu := hu64 hr
  have hu1 : (A.deeper (envOfC "_law_over_one" (defScope s_w_over_one) s.heap.objs.size f cdv)).units + 1 < cLine := by omega
  have nd := sc_w_over_one.nd
  exact ss_cons (s_asg (se_tup (sa_cons (c_call C_w_heights (hr.mono (by decide)) hgd passL (sa_cons (se_var 0) (sa_cons (se_var 1) (sa_nil)))) (sa_cons (c_call C_w_heights (hr.mono (by decide)) hgd passL (sa_cons (se_var 0) (sa_cons (se_var 2) (sa_nil)))) (sa_nil)))) (sg_tup (by rfl) (sgs_cons (sg_name 3 nd) (sgs_cons (sg_name 4 nd) (sgs_nil))))) (ss_one (s_ret (se_cmp (od_eq hu) (se_lc (own := [("_law_t", 5)]) (by rfl) nd (si_rng1 (by rfl) T.z_range (sa_cons (se_op (od_add (m := false)) (se_op (od_mul (m := false)) (se_int) (se_var 0)) (se_int)) (sa_nil))) (blkOk_by (by kernel_rfl)) (fun _ _ _ _ _ => sg_name 5 nd) (fun _ _ _ _ _ => sts_one (st_cmp od_lt (se_ix xd_ix (se_var 3) (se_var 5)) (se_ix xd_ix (se_var 4) (se_var 5)))) (fun _ _ _ _ _ => se_var 5)) (se_lst (sa_nil)))))
theorem ok_w_over_one {f : Addr} {fd : FuncData} (T : Txt mg) (F : Fun K "_law_over_one" "_law_over_one" s_w_over_one f fd) (hm : mg "_law_over_one" = some (.ref f)) {f_w_heights : Addr} {fd_w_heights : FuncData} (C_w_heights : Cal P w K mg base 1 "_law_heights" s_w_heights ps_w_heights f_w_heights fd_w_heights m_w_heights) : Cal P w K mg base 2 "_law_over_one" s_w_over_one ps_w_over_one f fd m_w_over_one := ⟨F, (st_w_over_one T F C_w_heights).pure, hm, bd_w_over_one F⟩
theorem bd_is_size {f : Addr} {fd : FuncData} (F : Fun K "is_size" "is_size" s_is_size f fd) : Binds K fd ps_is_size [] := F.binds fun _ _ _ _ _ _ us hl => match us, hl with | [_, _], _ => rfl
theorem st_is_size {f : Addr} {fd : FuncData} (T : Txt mg) (F : Fun K "is_size" "is_size" s_is_size f fd) {f_is_whole : Addr} {fd_is_whole : FuncData} (C_is_whole : Cal P w K mg base 1 "is_whole" s_is_whole ps_is_whole f_is_whole fd_is_whole m_is_whole) : FnM P w K mg base 2 f fd ps_is_size (mDefQ 2 2 b_is_size) := by
  refine fnm_nox (k := 1) F sc_is_size fun cdv A outer s H E hr hgd => ?_
  have hu := hu64 hr
  have hu1 : (A.deeper (envOfC "is_size" (defScope s_is_size) s.heap.objs.size f cdv)).units + 1 < cLine := by omega
  have nd := sc_is_size.nd
  exact ss_one (s_ret (se_and (c_call C_is_whole (hr.mono (by decide)) hgd passL (sa_cons (se_var 0) (sa_nil))) (se_one (se_chain (se_int) (sc_link od_le (se_var 0) (sc_last od_le (se_var 1)))))))
theorem ok_is_size {f : Addr} {fd : FuncData} (T : Txt mg) (F : Fun K "is_size" "is_size" s_is_size f fd) (hm : mg "is_size" = some (.ref f)) {f_is_whole : Addr} {fd_is_whole : FuncData} (C_is_whole : Cal P w K mg base 1 "is_whole" s_is_whole ps_is_whole f_is_whole fd_is_whole m_is_whole) : Cal P w K mg base 2 "is_size" s_is_size ps_is_size f fd m_is_size := ⟨F, (st_is_size T F C_is_whole).pure, hm, bd_is_size F⟩
theorem bd_need_size {f : Addr} {fd : FuncData} (F : Fun K "need_size" "need_size" s_need_size f fd) : Binds K fd ps_need_size [] := F.binds fun _ _ _ _ _ _ us hl => match us, hl with | [_], _ => rfl
theorem st_need_size {f : Addr} {fd : FuncData} (T : Txt mg) (F : Fun K "need_size" "need_size" s_need_size f fd) {f_is_size : Addr} {fd_is_size : FuncData} (C_is_size : Cal P w K mg base 2 "is_size" s_is_size ps_is_size f_is_size fd_is_size m_is_size) : FnM P w K mg base 3 f fd ps_need_size (mDefQ 1 1 b_need_size) := by
  refine fnm_nox (k := 2) F sc_need_size fun cdv A outer s H E hr hgd => ?_
  have hu := hu64 hr
  have hu1 : (A.deeper (envOfC "need_size" (defScope s_need_size) s.heap.objs.size f cdv)).units + 1 < cLine := by omega
  have nd := sc_need_size.nd
  exact ss_one (s_if (st_not (st_val (c_call C_is_size (hr.mono (by decide)) hgd passL (sa_cons (se_var 0) (sa_cons (se_gi T.y_MOST_SIZE) (sa_nil)))))) (ss_one (s_never)) (ss_nil))
theorem ok_need_size {f : Addr} {fd : FuncData} (T : Txt mg) (F : Fun K "need_size" "need_size" s_need_size f fd) (hm : mg "need_size" = some (.ref f)) {f_is_size : Addr} {fd_is_size : FuncData} (C_is_size : Cal P w K mg base 2 "is_size" s_is_size ps_is_size f_is_size fd_is_size m_is_size) : Cal P w K mg base 3 "need_size" s_need_size ps_need_size f fd m_need_size := ⟨F, (st_need_size T F C_is_size).pure, hm, bd_need_size F⟩
theorem bd_straight_pairing {f : Addr} {fd : FuncData} (F : Fun K "straight_pairing" "straight_pairing" s_straight_pairing f fd) : Binds K fd ps_straight_pairing [] := F.binds fun _ _ _ _ _ _ us hl => match us, hl with | [_], _ => rfl
theorem st_straight_pairing {f : Addr} {fd : FuncData} (T : Txt mg) (F : Fun K "straight_pairing" "straight_pairing" s_straight_pairing f fd) {f_need_size : Addr} {fd_need_size : FuncData} (C_need_size : Cal P w K mg base 3 "need_size" s_need_size ps_need_size f_need_size fd_need_size m_need_size) : FnM P w K mg base 4 f fd ps_straight_pairing (mDefQ 1 2 b_straight_pairing) := by
  refine fnm_nox (k := 3) F sc_straight_pairing fun cdv A outer s H E hr hgd => ?_
  have hu := hu64 hr
  have hu1 : (A.deeper (envOfC "straight_pairing" (defScope s_straight_pairing) s.heap.objs.size f cdv)).units + 1 < cLine := by omega
  have nd := sc_straight_pairing.nd
  exact ss_cons (s_expr (c_call C_need_size (hr.mono (by decide)) hgd passL (sa_cons (se_var 0) (sa_nil)))) (ss_one (s_ret (se_callTy cd_tup (by rfl) T.z_tuple (by decide +kernel) (sa_cons (se_lc (own := [("place", 1)]) (by rfl) nd (si_rng1 (by rfl) T.z_range (sa_cons (se_var 0) (sa_nil))) (blkOk_by (by kernel_rfl)) (fun _ _ _ _ _ => sg_name 1 nd) (fun _ _ _ _ _ => sts_nil) (fun _ _ _ _ _ => se_tup (sa_cons (se_var 1) (sa_cons (se_op (od_sub) (se_op (od_sub) (se_op (od_mul (m := false)) (se_int) (se_var 0)) (se_int)) (se_var 1)) (sa_nil))))) (sa_nil)))))
theorem ok_straight_pairing {f : Addr} {fd : FuncData} (T : Txt mg) (F : Fun K "straight_pairing" "straight_pairing" s_straight_pairing f fd) (hm : mg "straight_pairing" = some (.ref f)) {f_need_size : Addr} {fd_need_size : FuncData} (C_need_size : Cal P w K mg base 3 "need_size" s_need_size ps_need_size f_need_size fd_need_size m_need_size) : Cal P w K mg base 4 "straight_pairing" s_straight_pairing ps_straight_pairing f fd m_straight_pairing := ⟨F, (st_straight_pairing T F C_need_size).pure, hm, bd_straight_pairing F⟩
theorem bd_w_order_right {f : Addr} {fd : FuncData} (F : Fun K "_law_order_right" "_law_order_right" s_w_order_right f fd) : Binds K fd ps_w_order_right [] := F.binds fun _ _ _ _ _ _ us hl => match us, hl with | [_, _], _ => rfl
theorem st_w_order_right {f : Addr} {fd : FuncData} (T : Txt mg) (F : Fun K "_law_order_right" "_law_order_right" s_w_order_right f fd) {f_is_above : Addr} {fd_is_above : FuncData} (C_is_above : Cal P w K mg base 6 "is_above" s_is_above ps_is_above f_is_above fd_is_above m_is_above) {f_heights : Addr} {fd_heights : FuncData} (C_heights : Cal P w K mg base 5 "heights" s_heights ps_heights f_heights fd_heights m_heights) {f_w_over_one : Addr} {fd_w_over_one : FuncData} (C_w_over_one : Cal P w K mg base 2 "_law_over_one" s_w_over_one ps_w_over_one f_w_over_one fd_w_over_one m_w_over_one) {f_straight_pairing : Addr} {fd_straight_pairing : FuncData} (C_straight_pairing : Cal P w K mg base 4 "straight_pairing" s_straight_pairing ps_straight_pairing f_straight_pairing fd_straight_pairing m_straight_pairing) : FnM P w K mg base 7 f fd ps_w_order_right (mDefQ 2 8 b_w_order_right) := by
  refine fnm_nox (k := 6) F sc_w_order_right fun cdv A outer s H E hr hgd => ?_
  have hu := hu64 hr
  have hu1 : (A.deeper (envOfC "_law_order_right" (defScope s_w_order_right) s.heap.objs.size f cdv)).units + 1 < cLine := by omega
  have nd := sc_w_order_right.nd
  exact ss_cons (s_for PassesOwn.never (by rfl) (si_seq (se_var 1)) (sg_name 2 nd) (ss_cons (s_if ((sw_or (st_cmp od_isnot (c_call C_is_above (hr.mono (by decide)) hgd passL (sa_cons (se_var 2) (sa_cons (se_var 2) (sa_nil)))) (se_bl)) (sw_or1 (st_cmp od_isnot (c_call C_is_above (hr.mono (by decide)) hgd passL (sa_cons (c_call C_straight_pairing (hr.mono (by decide)) hgd passL (sa_cons (se_var 0) (sa_nil))) (sa_cons (se_var 2) (sa_nil)))) (se_bl)))).pt) (ss_one (s_ret (se_bl))) (ss_nil)) (ss_one (s_for PassesOwn.never (by rfl) (si_seq (se_var 1)) (sg_name 3 nd) (ss_cons (s_set 4 nd (c_call C_w_over_one (hr.mono (by decide)) hgd passL (sa_cons (se_var 0) (sa_cons (se_var 2) (sa_cons (se_var 3) (sa_nil)))))) (ss_cons (s_if (st_cmp (od_ne hu) (se_callB (cd_repr hu hgd) (by rfl) T.z_repr (by decide +kernel) (sa_cons (se_lst (sa_cons (c_call C_is_above (hr.mono (by decide)) hgd passL (sa_cons (se_var 2) (sa_cons (se_var 3) (sa_nil)))) (sa_cons (c_callK0 C_is_above (kb_is_above_0_1 C_is_above.F) (hr.mono (by decide)) hgd passL (sk_cons (se_var 2) (sk_cons (se_var 3) (sk_nil)))) (sa_nil)))) (sa_nil))) (se_callB (cd_repr hu hgd) (by rfl) T.z_repr (by decide +kernel) (sa_cons (se_lst (sa_cons (se_var 4) (sa_cons (se_var 4) (sa_nil)))) (sa_nil)))) (ss_one (s_ret (se_bl))) (ss_nil)) (ss_cons (s_if ((sw_and (st_val (c_call C_is_above (hr.mono (by decide)) hgd passL (sa_cons (se_var 2) (sa_cons (se_var 3) (sa_nil))))) (sw_and (st_val (c_call C_is_above (hr.mono (by decide)) hgd passL (sa_cons (se_var 3) (sa_cons (se_var 2) (sa_nil))))) (sw_and1 (st_cmp (od_ne hu) (se_var 2) (se_var 3))))).pt) (ss_one (s_ret (se_bl))) (ss_nil)) (ss_one (s_if (st_cmp (od_ne hu) (se_cmp (od_eq hu) (c_call C_heights (hr.mono (by decide)) hgd passL (sa_cons (se_var 2) (sa_nil))) (c_call C_heights (hr.mono (by decide)) hgd passL (sa_cons (se_var 3) (sa_nil)))) (se_cmp (od_eq hu) (se_var 2) (se_var 3))) (ss_one (s_ret (se_bl))) (ss_nil)))))))))) (ss_cons (s_par3 5 6 7 (by rfl) nd (sa_cons (se_ix xd_ix (se_var 1) (se_int)) (sa_cons (se_ix xd_ix (se_var 1) (se_int)) (sa_cons (se_ix xd_ix (se_var 1) (se_int)) (sa_nil))))) (ss_one (s_ret (se_or (c_call C_is_above (hr.mono (by decide)) hgd passL (sa_cons (se_var 5) (sa_cons (se_var 7) (sa_nil)))) (se_one (se_not (se_and (c_call C_is_above (hr.mono (by decide)) hgd passL (sa_cons (se_var 5) (sa_cons (se_var 6) (sa_nil)))) (se_one (c_call C_is_above (hr.mono (by decide)) hgd passL (sa_cons (se_var 6) (sa_cons (se_var 7) (sa_nil))))))))))))
theorem ok_w_order_right {f : Addr} {fd : FuncData} (T : Txt mg) (F : Fun K "_law_order_right" "_law_order_right" s_w_order_right f fd) (hm : mg "_law_order_right" = some (.ref f)) {f_is_above : Addr} {fd_is_above : FuncData} (C_is_above : Cal P w K mg base 6 "is_above" s_is_above ps_is_above f_is_above fd_is_above m_is_above) {f_heights : Addr} {fd_heights : FuncData} (C_heights : Cal P w K mg base 5 "heights" s_heights ps_heights f_heights fd_heights m_heights) {f_w_over_one : Addr} {fd_w_over_one : FuncData} (C_w_over_one : Cal P w K mg base 2 "_law_over_one" s_w_over_one ps_w_over_one f_w_over_one fd_w_over_one m_w_over_one) {f_straight_pairing : Addr} {fd_straight_pairing : FuncData} (C_straight_pairing : Cal P w K mg base 4 "straight_pairing" s_straight_pairing ps_straight_pairing f_straight_pairing fd_straight_pairing m_straight_pairing) : Cal P w K mg base 7 "_law_order_right" s_w_order_right ps_w_order_right f fd m_w_order_right := ⟨F, (st_w_order_right T F C_is_above C_heights C_w_over_one C_straight_pairing).pure, hm, bd_w_order_right F⟩
theorem bd_through {f : Addr} {fd : FuncData} (F : Fun K "through" "through" s_through f fd) : Binds K fd ps_through [] := F.binds fun _ _ _ _ _ _ us hl => match us, hl with | [_], _ => rfl
theorem st_through {f : Addr} {fd : FuncData} (T : Txt mg) (F : Fun K "through" "through" s_through f fd) {f_need_pairing : Addr} {fd_need_pairing : FuncData} (C_need_pairing : Cal P w K mg base 4 "need_pairing" s_need_pairing ps_need_pairing f_need_pairing fd_need_pairing m_need_pairing) : FnM P w K mg base 5 f fd ps_through (mDefQ 1 4 b_through) := by
  refine fnm_nox (k := 4) F sc_through fun cdv A outer s H E hr hgd => ?_
  have hu := hu64 hr
  have hu1 : (A.deeper (envOfC "through" (defScope s_through) s.heap.objs.size f cdv)).units + 1 < cLine := by omega
  have nd := sc_through.nd
  exact ss_cons (s_expr (c_call C_need_pairing (hr.mono (by decide)) hgd passL (sa_cons (se_var 0) (sa_nil)))) (ss_cons (s_set 1 nd (se_callB cd_len (by rfl) T.z_len (by decide +kernel) (sa_cons (se_var 0) (sa_nil)))) (ss_one (s_ret (se_callTy cd_tup (by rfl) T.z_tuple (by decide +kernel) (sa_cons (se_lc (own := [("one", 2), ("other", 3)]) (by rfl) nd (si_seq (se_var 0)) (blkOk_by (by kernel_rfl)) (fun _ _ _ _ _ => sg_tup (by rfl) (sgs_cons (sg_name 2 nd) (sgs_cons (sg_name 3 nd) (sgs_nil)))) (fun _ _ _ _ _ => sts_one (st_chain (se_var 2) (sc_link od_lt (se_var 1) (sc_last od_le (se_var 3))))) (fun _ _ _ _ _ => se_tup (sa_cons (se_var 2) (sa_cons (se_op (od_sub) (se_op (od_sub) (se_op (od_mul (m := false)) (se_int) (se_var 1)) (se_int)) (se_var 3)) (sa_nil))))) (sa_nil))))))
theorem ok_through {f : Addr} {fd : FuncData} (T : Txt mg) (F : Fun K "through" "through" s_through f fd) (hm : mg "through" = some (.ref f)) {f_need_pairing : Addr} {fd_need_pairing : FuncData} (C_need_pairing : Cal P w K mg base 4 "need_pairing" s_need_pairing ps_need_pairing f_need_pairing fd_need_pairing m_need_pairing) : Cal P w K mg base 5 "through" s_through ps_through f fd m_through := ⟨F, (st_through T F C_need_pairing).pure, hm, bd_through F⟩
theorem bd_w_through {f : Addr} {fd : FuncData} (F : Fun K "_law_through" "_law_through" s_w_through f fd) : Binds K fd ps_w_through [] := F.binds fun _ _ _ _ _ _ us hl => match us, hl with | [_, _], _ => rfl
theorem st_w_through {f : Addr} {fd : FuncData} (T : Txt mg) (F : Fun K "_law_through" "_law_through" s_w_through f fd)  : FnM P w K mg base 1 f fd ps_w_through (mDefQ 2 4 b_w_through) := by
  refine fnm_nox (k := 0) F sc_w_through fun cdv A outer s H E hr hgd => ?_
  have hu := hu64 hr
  have hu1 : (A.deeper (envOfC "_law_through" (defScope s_w_through) s.heap.objs.size f cdv)).units + 1 < cLine := by omega
  have nd := sc_w_through.nd
  exact ss_one (s_ret (se_callTy cd_tup (by rfl) T.z_tuple (by decide +kernel) (sa_cons (se_callB (cd_sorted (m := false) hu) (by rfl) T.z_sorted (by decide +kernel) (sa_cons (se_lc (own := [("_law_a", 2), ("_law_b", 3)]) (by rfl) nd (si_seq (se_var 1)) (blkOk_by (by kernel_rfl)) (fun _ _ _ _ _ => sg_tup (by rfl) (sgs_cons (sg_name 2 nd) (sgs_cons (sg_name 3 nd) (sgs_nil)))) (fun _ _ _ _ _ => sts_one (st_chain (se_var 2) (sc_link od_lt (se_var 0) (sc_last od_le (se_var 3))))) (fun _ _ _ _ _ => se_tup (sa_cons (se_var 2) (sa_cons (se_op (od_sub) (se_op (od_sub) (se_op (od_mul (m := false)) (se_int) (se_var 0)) (se_int)) (se_var 3)) (sa_nil))))) (sa_nil))) (sa_nil))))
theorem ok_w_through {f : Addr} {fd : FuncData} (T : Txt mg) (F : Fun K "_law_through" "_law_through" s_w_through f fd) (hm : mg "_law_through" = some (.ref f))  : Cal P w K mg base 1 "_law_through" s_w_through ps_w_through f fd m_w_through := ⟨F, (st_w_through T F ).pure, hm, bd_w_through F⟩
theorem bd_partner {f : Addr} {fd : FuncData} (F : Fun K "partner" "partner" s_partner f fd) : Binds K fd ps_partner [] := F.binds fun _ _ _ _ _ _ us hl => match us, hl with | [_, _], _ => rfl
theorem st_partner {f : Addr} {fd : FuncData} (T : Txt mg) (F : Fun K "partner" "partner" s_partner f fd) {f_mates_of : Addr} {fd_mates_of : FuncData} (C_mates_of : Cal P w K mg base 1 "mates_of" s_mates_of ps_mates_of f_mates_of fd_mates_of m_mates_of) {f_need_pairing : Addr} {fd_need_pairing : FuncData} (C_need_pairing : Cal P w K mg base 4 "need_pairing" s_need_pairing ps_need_pairing f_need_pairing fd_need_pairing m_need_pairing) : FnM P w K mg base 5 f fd ps_partner (mDefQ 2 2 b_partner) := by
  refine fnm_nox (k := 4) F sc_partner fun cdv A outer s H E hr hgd => ?_
  have hu := hu64 hr
  have hu1 : (A.deeper (envOfC "partner" (defScope s_partner) s.heap.objs.size f cdv)).units + 1 < cLine := by omega
  have nd := sc_partner.nd
  exact ss_cons (s_expr (c_call C_need_pairing (hr.mono (by decide)) hgd passL (sa_cons (se_var 0) (sa_nil)))) (ss_one (s_ret (se_ix xd_ix (c_call C_mates_of (hr.mono (by decide)) hgd passL (sa_cons (se_var 0) (sa_nil))) (se_var 1))))
theorem ok_partner {f : Addr} {fd : FuncData} (T : Txt mg) (F : Fun K "partner" "partner" s_partner f fd) (hm : mg "partner" = some (.ref f)) {f_mates_of : Addr} {fd_mates_of : FuncData} (C_mates_of : Cal P w K mg base 1 "mates_of" s_mates_of ps_mates_of f_mates_of fd_mates_of m_mates_of) {f_need_pairing : Addr} {fd_need_pairing : FuncData} (C_need_pairing : Cal P w K mg base 4 "need_pairing" s_need_pairing ps_need_pairing f_need_pairing fd_need_pairing m_need_pairing) : Cal P w K mg base 5 "partner" s_partner ps_partner f fd m_partner := ⟨F, (st_partner T F C_mates_of C_need_pairing).pure, hm, bd_partner F⟩
theorem bd_w_one_right {f : Addr} {fd : FuncData} (F : Fun K "_law_one_right" "_law_one_right" s_w_one_right f fd) : Binds K fd ps_w_one_right [] := F.binds fun _ _ _ _ _ _ us hl => match us, hl with | [_, _], _ => rfl
theorem st_w_one_right {f : Addr} {fd : FuncData} (T : Txt mg) (F : Fun K "_law_one_right" "_law_one_right" s_w_one_right f fd) {f_partner : Addr} {fd_partner : FuncData} (C_partner : Cal P w K mg base 5 "partner" s_partner ps_partner f_partner fd_partner m_partner) {f_w_through : Addr} {fd_w_through : FuncData} (C_w_through : Cal P w K mg base 1 "_law_through" s_w_through ps_w_through f_w_through fd_w_through m_w_through) {f_through : Addr} {fd_through : FuncData} (C_through : Cal P w K mg base 5 "through" s_through ps_through f_through fd_through m_through) {f_heights : Addr} {fd_heights : FuncData} (C_heights : Cal P w K mg base 5 "heights" s_heights ps_heights f_heights fd_heights m_heights) {f_w_heights : Addr} {fd_w_heights : FuncData} (C_w_heights : Cal P w K mg base 1 "_law_heights" s_w_heights ps_w_heights f_w_heights fd_w_heights m_w_heights) : FnM P w K mg base 6 f fd ps_w_one_right (mDefQ 2 12 b_w_one_right) := by
  refine fnm_nox (k := 5) F sc_w_one_right fun cdv A outer s H E hr hgd => ?_
  have hu := hu64 hr
  have hu1 : (A.deeper (envOfC "_law_one_right" (defScope s_w_one_right) s.heap.objs.size f cdv)).units + 1 < cLine := by omega
  have nd := sc_w_one_right.nd
  exact ss_cons (s_par 2 3 (by rfl) nd (sa_cons (c_call C_w_heights (hr.mono (by decide)) hgd passL (sa_cons (se_var 0) (sa_cons (se_var 1) (sa_nil)))) (sa_cons (c_call C_through (hr.mono (by decide)) hgd passL (sa_cons (se_var 1) (sa_nil))) (sa_nil)))) (ss_cons (s_if ((sw_or (st_cmp (od_ne hu) (c_call C_heights (hr.mono (by decide)) hgd passL (sa_cons (se_var 1) (sa_nil))) (se_var 2)) (sw_or (st_cmp (od_ne hu) (c_callK0 C_heights (kb_heights_0 C_heights.F) (hr.mono (by decide)) hgd passL (sk_cons (se_var 1) (sk_nil))) (se_var 2)) (sw_or1 (st_cmp (od_ne hu) (se_callB cd_len (by rfl) T.z_len (by decide +kernel) (sa_cons (se_var 2) (sa_nil))) (se_op (od_add (m := false)) (se_op (od_mul (m := false)) (se_int) (se_var 0)) (se_int)))))).pt) (ss_one (s_ret (se_bl))) (ss_nil)) (ss_cons (s_if ((sw_or (st_cmp (od_ne hu) (se_var 3) (c_call C_w_through (hr.mono (by decide)) hgd passL (sa_cons (se_var 0) (sa_cons (se_var 1) (sa_nil))))) (sw_or1 (st_cmp (od_ne hu) (c_callK0 C_through (kb_through_0 C_through.F) (hr.mono (by decide)) hgd passL (sk_cons (se_var 1) (sk_nil))) (se_var 3)))).pt) (ss_one (s_ret (se_bl))) (ss_nil)) (ss_cons (s_for PassesOwn.never (by rfl) (si_seq (se_var 3)) (sg_tup (by rfl) (sgs_cons (sg_name 4 nd) (sgs_cons (sg_name 5 nd) (sgs_nil)))) (ss_one (s_if (st_cmp (od_ne hu) (se_lc (own := [("_law_k", 6), ("_law_m", 7)]) (by rfl) nd (si_seq (se_var 3)) (blkOk_by (by kernel_rfl)) (fun _ _ _ _ _ => sg_tup (by rfl) (sgs_cons (sg_name 6 nd) (sgs_cons (sg_name 7 nd) (sgs_nil)))) (fun _ _ _ _ _ => sts_one ((sw_and (st_cmp od_lt (se_var 4) (se_var 6)) (sw_and1 (st_cmp od_ge (se_var 5) (se_var 7)))).pt)) (fun _ _ _ _ _ => se_int)) (se_lst (sa_nil))) (ss_one (s_ret (se_bl))) (ss_nil)))) (ss_cons (s_for PassesOwn.never (by rfl) (si_seq (se_var 1)) (sg_tup (by rfl) (sgs_cons (sg_name 8 nd) (sgs_cons (sg_name 9 nd) (sgs_nil)))) (ss_one (s_if ((sw_or (st_cmp (od_ne hu) (se_tup (sa_cons (c_call C_partner (hr.mono (by decide)) hgd passL (sa_cons (se_var 1) (sa_cons (se_var 8) (sa_nil)))) (sa_cons (c_call C_partner (hr.mono (by decide)) hgd passL (sa_cons (se_var 1) (sa_cons (se_var 9) (sa_nil)))) (sa_nil)))) (se_tup (sa_cons (se_var 9) (sa_cons (se_var 8) (sa_nil))))) (sw_or1 (st_cmp (od_ne hu) (c_callK0 C_partner (kb_partner_0_1 C_partner.F) (hr.mono (by decide)) hgd passL (sk_cons (se_var 1) (sk_cons (se_var 8) (sk_nil)))) (se_var 9)))).pt) (ss_one (s_ret (se_bl))) (ss_nil)))) (ss_cons (s_lc (fin := fin0) (i := 10) (own := [("_law_a", 8), ("_law_b", 9)]) (by rfl) nd (si_seq (se_var 1)) (blkOk_by (by kernel_rfl)) (fun _ _ _ _ _ => sg_tup (by rfl) (sgs_cons (sg_name 8 nd) (sgs_cons (sg_name 9 nd) (sgs_nil)))) (fun _ _ _ _ _ => sts_one (st_cmp od_lt (se_var 8) (se_var 0))) (fun _ _ _ _ _ => se_var 8) (fun a b c d e f => fin0_ok a b c d e f) (sw_true rfl rfl rfl (by decide +kernel))) (ss_cons (s_lc (fin := fin0) (i := 11) (own := [("_law_a", 8), ("_law_b", 9)]) (by rfl) nd (si_seq (se_var 1)) (blkOk_by (by kernel_rfl)) (fun _ _ _ _ _ => sg_tup (by rfl) (sgs_cons (sg_name 8 nd) (sgs_cons (sg_name 9 nd) (sgs_nil)))) (fun _ _ _ _ _ => sts_one (st_cmp od_lt (se_var 9) (se_var 0))) (fun _ _ _ _ _ => se_tup (sa_cons (se_var 8) (sa_cons (se_var 9) (sa_nil)))) (fun a b c d e f => fin0_ok a b c d e f) (sw_true rfl rfl rfl (by decide +kernel))) (ss_one (s_ret (se_and (se_cmp (od_eq hu) (se_callB cd_len (by rfl) T.z_len (by decide +kernel) (sa_cons (se_var 3) (sa_nil))) (se_op (od_sub) (se_callB cd_len (by rfl) T.z_len (by decide +kernel) (sa_cons (se_var 10) (sa_nil))) (se_callB cd_len (by rfl) T.z_len (by decide +kernel) (sa_cons (se_var 11) (sa_nil))))) (se_one (se_cmp (od_eq hu) (se_ix xd_ix (se_var 2) (se_var 0)) (se_callB cd_len (by rfl) T.z_len (by decide +kernel) (sa_cons (se_var 3) (sa_nil))))))))))))))
theorem ok_w_one_right {f : Addr} {fd : FuncData} (T : Txt mg) (F : Fun K "_law_one_right" "_law_one_right" s_w_one_right f fd) (hm : mg "_law_one_right" = some (.ref f)) {f_partner : Addr} {fd_partner : FuncData} (C_partner : Cal P w K mg base 5 "partner" s_partner ps_partner f_partner fd_partner m_partner) {f_w_through : Addr} {fd_w_through : FuncData} (C_w_through : Cal P w K mg base 1 "_law_through" s_w_through ps_w_through f_w_through fd_w_through m_w_through) {f_through : Addr} {fd_through : FuncData} (C_through : Cal P w K mg base 5 "through" s_through ps_through f_through fd_through m_through) {f_heights : Addr} {fd_heights : FuncData} (C_heights : Cal P w K mg base 5 "heights" s_heights ps_heights f_heights fd_heights m_heights) {f_w_heights : Addr} {fd_w_heights : FuncData} (C_w_heights : Cal P w K mg base 1 "_law_heights" s_w_heights ps_w_heights f_w_heights fd_w_heights m_w_heights) : Cal P w K mg base 6 "_law_one_right" s_w_one_right ps_w_one_right f fd m_w_one_right := ⟨F, (st_w_one_right T F C_partner C_w_through C_through C_heights C_w_heights).pure, hm, bd_w_one_right F⟩
theorem bd_law {f : Addr} {fd : FuncData} (F : Fun K "law" "law" s_law f fd) : Binds K fd ps_law [] := F.binds fun _ _ _ _ _ _ us hl => match us, hl with | [_], _ => rfl
theorem st_law {f : Addr} {fd : FuncData} (T : Txt mg) (F : Fun K "law" "law" s_law f fd) {f_w_order_right : Addr} {fd_w_order_right : FuncData} (C_w_order_right : Cal P w K mg base 7 "_law_order_right" s_w_order_right ps_w_order_right f_w_order_right fd_w_order_right m_w_order_right) {f_w_one_right : Addr} {fd_w_one_right : FuncData} (C_w_one_right : Cal P w K mg base 6 "_law_one_right" s_w_one_right ps_w_one_right f_w_one_right fd_w_one_right m_w_one_right) {f_is_above : Addr} {fd_is_above : FuncData} (C_is_above : Cal P w K mg base 6 "is_above" s_is_above ps_is_above f_is_above fd_is_above m_is_above) {f_w_pick : Addr} {fd_w_pick : FuncData} (C_w_pick : Cal P w K mg base 2 "_law_pick" s_w_pick ps_w_pick f_w_pick fd_w_pick m_w_pick) {f_w_over_one : Addr} {fd_w_over_one : FuncData} (C_w_over_one : Cal P w K mg base 2 "_law_over_one" s_w_over_one ps_w_over_one f_w_over_one fd_w_over_one m_w_over_one) {f_w_all : Addr} {fd_w_all : FuncData} (C_w_all : Cal P w K mg base 9 "_law_all" s_w_all ps_w_all f_w_all fd_w_all m_w_all) {f_w_draw : Addr} {fd_w_draw : FuncData} (C_w_draw : Cal P w K mg base 1 "_law_draw" s_w_draw ps_w_draw f_w_draw fd_w_draw m_w_draw) {f_w_deck : Addr} {fd_w_deck : FuncData} (C_w_deck : Cal P w K mg base 1 "_law_deck" s_w_deck ps_w_deck f_w_deck fd_w_deck m_w_deck) : FnM P w K mg base 10 f fd ps_law (mDefQ 1 7 b_law) := by
  refine fnm_nox (k := 9) F sc_law fun cdv A outer s H E hr hgd => ?_
  have hu := hu64 hr
  have hu1 : (A.deeper (envOfC "law" (defScope s_law) s.heap.objs.size f cdv)).units + 1 < cLine := by omega
  have nd := sc_law.nd
  exact ss_cons (s_set 1 nd (c_call C_w_deck (hr.mono (by decide)) hgd passL (sa_cons (se_var 0) (sa_nil)))) (ss_cons (s_set 2 nd (se_op (od_add (m := false)) (se_int) (c_call C_w_draw (hr.mono (by decide)) hgd passL (sa_cons (se_var 1) (sa_cons (se_int) (sa_nil)))))) (ss_cons (s_set 2 nd (se_ifE ((sw_or (st_cmp od_lt (se_var 2) (se_int)) (sw_or1 (st_cmp od_gt (c_call C_w_draw (hr.mono (by decide)) hgd passL (sa_cons (se_var 1) (sa_cons (se_int) (sa_nil)))) (se_int)))).pt) (se_var 2) (c_call C_w_pick (hr.mono (by decide)) hgd passL (sa_cons (se_var 1) (sa_cons (se_lst (sa_cons (se_int) (sa_cons (se_int) (sa_nil)))) (sa_nil)))))) (ss_cons (s_set 3 nd (c_call C_w_all (hr.mono (by decide)) hgd passL (sa_cons (se_var 2) (sa_nil)))) (ss_cons (s_set 4 nd (se_lcM (own := [("_law_turn", 5)]) (by rfl) nd (si_rng1 (by rfl) T.z_range (sa_cons (se_int) (sa_nil))) (blkOk_by (by kernel_rfl)) (fun _ _ _ _ _ => sg_name 5 nd) (fun _ _ _ _ _ => sts_nil) (fun _ _ _ _ _ => c_call C_w_pick (hr.mono (by decide)) hgd passL (sa_cons (se_var 1) (sa_cons (se_var 3) (sa_nil)))))) (ss_cons (s_asg (c_call C_w_pick (hr.mono (by decide)) hgd passL (sa_cons (se_var 1) (sa_cons (se_lc (own := [("_law_it", 6)]) (by rfl) nd (si_seq (se_var 3)) (blkOk_by (by kernel_rfl)) (fun _ _ _ _ _ => sg_name 6 nd) (fun _ _ _ _ _ => sts_one (st_val (c_call C_w_over_one (hr.mono (by decide)) hgd passL (sa_cons (se_var 2) (sa_cons (se_ix xd_ix (se_var 4) (se_int)) (sa_cons (se_var 6) (sa_nil))))))) (fun _ _ _ _ _ => se_var 6)) (sa_nil)))) (sg_sub (se_var 4) (se_int))) (ss_cons (s_asg (c_call C_w_pick (hr.mono (by decide)) hgd passL (sa_cons (se_var 1) (sa_cons (se_lc (own := [("_law_it", 6)]) (by rfl) nd (si_seq (se_var 3)) (blkOk_by (by kernel_rfl)) (fun _ _ _ _ _ => sg_name 6 nd) (fun _ _ _ _ _ => sts_one (st_val (c_call C_w_over_one (hr.mono (by decide)) hgd passL (sa_cons (se_var 2) (sa_cons (se_ix xd_ix (se_var 4) (se_int)) (sa_cons (se_var 6) (sa_nil))))))) (fun _ _ _ _ _ => se_var 6)) (sa_nil)))) (sg_sub (se_var 4) (se_int))) (ss_cons (s_set 4 nd (se_op (od_add (m := false)) (se_var 4) (se_lst (sa_cons (c_call C_w_pick (hr.mono (by decide)) hgd passL (sa_cons (se_var 1) (sa_cons (se_var 3) (sa_nil)))) (sa_cons (c_call C_w_pick (hr.mono (by decide)) hgd passL (sa_cons (se_var 1) (sa_cons (se_var 3) (sa_nil)))) (sa_nil)))))) (ss_cons (s_if (st_not (st_val (c_call C_is_above (hr.mono (by decide)) hgd passL (sa_cons (se_ix xd_ix (se_var 4) (se_int)) (sa_cons (se_ix xd_ix (se_var 4) (se_int)) (sa_nil)))))) (ss_one (s_ret (se_bl))) (ss_nil)) (ss_cons (s_if ((sw_or (st_cmp (od_ne hu) (se_lc (own := [("_law_it", 6)]) (by rfl) nd (si_seq (se_var 4)) (blkOk_by (by kernel_rfl)) (fun _ _ _ _ _ => sg_name 6 nd) (fun _ _ _ _ _ => sts_one (st_not (st_val (c_call C_w_one_right (hr.mono (by decide)) hgd passL (sa_cons (se_var 2) (sa_cons (se_var 6) (sa_nil))))))) (fun _ _ _ _ _ => se_var 6)) (se_lst (sa_nil))) (sw_or1 (st_not (st_val (c_call C_w_order_right (hr.mono (by decide)) hgd passL (sa_cons (se_var 2) (sa_cons (se_frz (se_var 4)) (sa_nil)))))))).pt) (ss_one (s_ret (se_bl))) (ss_nil)) (ss_one (s_ret (c_call C_w_order_right (hr.mono (by decide)) hgd passL (sa_cons (se_var 2) (sa_cons (se_op (od_add (m := false)) (se_sl (m := false) (se_var 4) (sp_some (se_int)) sp_none) (se_sl (m := false) (se_var 4) sp_none (sp_some (se_int)))) (sa_nil)))))))))))))))
theorem ok_law {f : Addr} {fd : FuncData} (T : Txt mg) (F : Fun K "law" "law" s_law f fd) (hm : mg "law" = some (.ref f)) {f_w_order_right : Addr} {fd_w_order_right : FuncData} (C_w_order_right : Cal P w K mg base 7 "_law_order_right" s_w_order_right ps_w_order_right f_w_order_right fd_w_order_right m_w_order_right) {f_w_one_right : Addr} {fd_w_one_right : FuncData} (C_w_one_right : Cal P w K mg base 6 "_law_one_right" s_w_one_right ps_w_one_right f_w_one_right fd_w_one_right m_w_one_right) {f_is_above : Addr} {fd_is_above : FuncData} (C_is_above : Cal P w K mg base 6 "is_above" s_is_above ps_is_above f_is_above fd_is_above m_is_above) {f_w_pick : Addr} {fd_w_pick : FuncData} (C_w_pick : Cal P w K mg base 2 "_law_pick" s_w_pick ps_w_pick f_w_pick fd_w_pick m_w_pick) {f_w_over_one : Addr} {fd_w_over_one : FuncData} (C_w_over_one : Cal P w K mg base 2 "_law_over_one" s_w_over_one ps_w_over_one f_w_over_one fd_w_over_one m_w_over_one) {f_w_all : Addr} {fd_w_all : FuncData} (C_w_all : Cal P w K mg base 9 "_law_all" s_w_all ps_w_all f_w_all fd_w_all m_w_all) {f_w_draw : Addr} {fd_w_draw : FuncData} (C_w_draw : Cal P w K mg base 1 "_law_draw" s_w_draw ps_w_draw f_w_draw fd_w_draw m_w_draw) {f_w_deck : Addr} {fd_w_deck : FuncData} (C_w_deck : Cal P w K mg base 1 "_law_deck" s_w_deck ps_w_deck f_w_deck fd_w_deck m_w_deck) : Cal P w K mg base 10 "law" s_law ps_law f fd m_law := ⟨F, (st_law T F C_w_order_right C_w_one_right C_is_above C_w_pick C_w_over_one C_w_all C_w_draw C_w_deck), hm, bd_law F⟩
end
theorem all_mk {l : PySem.W.OpenLaw} {w : World} {K : PySem.W.Frag} {h : Heap} {mg : Str → Option Value} {fa : Addr} {f1 : Addr} {od1 an1 : Option Addr} {sl1 : Array (Option Value)} {oc1 kV1 dc1 pm1 cd1 ct1 : Value} {f2 : Addr} {od2 an2 : Option Addr} {sl2 : Array (Option Value)} {oc2 kV2 dc2 pm2 cd2 ct2 : Value} {f3 : Addr} {od3 an3 : Option Addr} {sl3 : Array (Option Value)} {oc3 kV3 dc3 pm3 cd3 ct3 : Value} {f4 : Addr} {od4 an4 : Option Addr} {sl4 : Array (Option Value)} {oc4 kV4 dc4 pm4 cd4 ct4 : Value} {f5 : Addr} {od5 an5 : Option Addr} {sl5 : Array (Option Value)} {oc5 kV5 dc5 pm5 cd5 ct5 : Value} {f6 : Addr} {od6 an6 : Option Addr} {sl6 : Array (Option Value)} {oc6 kV6 dc6 pm6 cd6 ct6 : Value} {f7 : Addr} {od7 an7 : Option Addr} {sl7 : Array (Option Value)} {oc7 kV7 dc7 pm7 cd7 ct7 : Value} {f8 : Addr} {od8 an8 : Option Addr} {sl8 : Array (Option Value)} {oc8 kV8 dc8 pm8 cd8 ct8 : Value} {f9 : Addr} {od9 an9 : Option Addr} {sl9 : Array (Option Value)} {oc9 kV9 dc9 pm9 cd9 ct9 : Value} {f10 : Addr} {od10 an10 : Option Addr} {sl10 : Array (Option Value)} {oc10 kV10 dc10 pm10 cd10 ct10 : Value} {f11 : Addr} {od11 an11 : Option Addr} {sl11 : Array (Option Value)} {oc11 kV11 dc11 pm11 cd11 ct11 : Value} {f12 : Addr} {od12 an12 : Option Addr} {sl12 : Array (Option Value)} {oc12 kV12 dc12 pm12 cd12 ct12 : Value} {f13 : Addr} {od13 an13 : Option Addr} {sl13 : Array (Option Value)} {oc13 kV13 dc13 pm13 cd13 ct13 : Value} {f14 : Addr} {od14 an14 : Option Addr} {sl14 : Array (Option Value)} {oc14 kV14 dc14 pm14 cd14 ct14 : Value} {f15 : Addr} {od15 an15 : Option Addr} {sl15 : Array (Option Value)} {oc15 kV15 dc15 pm15 cd15 ct15 : Value} {f16 : Addr} {od16 an16 : Option Addr} {sl16 : Array (Option Value)} {oc16 kV16 dc16 pm16 cd16 ct16 : Value} {f17 : Addr} {od17 an17 : Option Addr} {sl17 : Array (Option Value)} {oc17 kV17 dc17 pm17 cd17 ct17 : Value} {f18 : Addr} {od18 an18 : Option Addr} {sl18 : Array (Option Value)} {oc18 kV18 dc18 pm18 cd18 ct18 : Value} {f19 : Addr} {od19 an19 : Option Addr} {sl19 : Array (Option Value)} {oc19 kV19 dc19 pm19 cd19 ct19 : Value} {f20 : Addr} {od20 an20 : Option Addr} {sl20 : Array (Option Value)} {oc20 kV20 dc20 pm20 cd20 ct20 : Value} {f21 : Addr} {od21 an21 : Option Addr} {sl21 : Array (Option Value)} {oc21 kV21 dc21 pm21 cd21 ct21 : Value} {f22 : Addr} {od22 an22 : Option Addr} {sl22 : Array (Option Value)} {oc22 kV22 dc22 pm22 cd22 ct22 : Value} {f23 : Addr} {od23 an23 : Option Addr} {sl23 : Array (Option Value)} {oc23 kV23 dc23 pm23 cd23 ct23 : Value} {f24 : Addr} {od24 an24 : Option Addr} {sl24 : Array (Option Value)} {oc24 kV24 dc24 pm24 cd24 ct24 : Value} {t0 : Tok} (X : K.In h) (G : h.Ns mainGlobals mg) (hfa : mg "law" = some (.ref fa))
    (a1 : PySem.W.nsIn K mainGlobals "_law_deck" = some (some (.ref f1))) (l1 : K.lookup f1 = some ⟨oc1, od1, .func (PySem.W.fnOf "_law_deck" "_law_deck" (defArgs s_w_deck) (defBody s_w_deck) (defScope s_w_deck) .none kV1 dc1 pm1 an1 cd1 ct1), sl1⟩) (c1 : PySem.W.codeIn K cd1 "_law_deck" = true) (k1 : PySem.W.keepIn K (.ref f1) = true)
    (a2 : PySem.W.nsIn K mainGlobals "_law_over" = some (some (.ref f2))) (l2 : K.lookup f2 = some ⟨oc2, od2, .func (PySem.W.fnOf "_law_over" "_law_over" (defArgs s_w_over) (defBody s_w_over) (defScope s_w_over) .none kV2 dc2 pm2 an2 cd2 ct2), sl2⟩) (c2 : PySem.W.codeIn K cd2 "_law_over" = true) (k2 : PySem.W.keepIn K (.ref f2) = true)
    (a3 : PySem.W.nsIn K mainGlobals "_law_all" = some (some (.ref f3))) (l3 : K.lookup f3 = some ⟨oc3, od3, .func (PySem.W.fnOf "_law_all" "_law_all" (defArgs s_w_all) (defBody s_w_all) (defScope s_w_all) .none kV3 dc3 pm3 an3 cd3 ct3), sl3⟩) (c3 : PySem.W.codeIn K cd3 "_law_all" = true) (k3 : PySem.W.keepIn K (.ref f3) = true)
    (a4 : PySem.W.nsIn K mainGlobals "_law_draw" = some (some (.ref f4))) (l4 : K.lookup f4 = some ⟨oc4, od4, .func (PySem.W.fnOf "_law_draw" "_law_draw" (defArgs s_w_draw) (defBody s_w_draw) (defScope s_w_draw) .none kV4 dc4 pm4 an4 cd4 ct4), sl4⟩) (c4 : PySem.W.codeIn K cd4 "_law_draw" = true) (k4 : PySem.W.keepIn K (.ref f4) = true)
    (a5 : PySem.W.nsIn K mainGlobals "_law_pick" = some (some (.ref f5))) (l5 : K.lookup f5 = some ⟨oc5, od5, .func (PySem.W.fnOf "_law_pick" "_law_pick" (defArgs s_w_pick) (defBody s_w_pick) (defScope s_w_pick) .none kV5 dc5 pm5 an5 cd5 ct5), sl5⟩) (c5 : PySem.W.codeIn K cd5 "_law_pick" = true) (k5 : PySem.W.keepIn K (.ref f5) = true)
    (a6 : PySem.W.nsIn K mainGlobals "mates_of" = some (some (.ref f6))) (l6 : K.lookup f6 = some ⟨oc6, od6, .func (PySem.W.fnOf "mates_of" "mates_of" (defArgs s_mates_of) (defBody s_mates_of) (defScope s_mates_of) .none kV6 dc6 pm6 an6 cd6 ct6), sl6⟩) (c6 : PySem.W.codeIn K cd6 "mates_of" = true) (k6 : PySem.W.keepIn K (.ref f6) = true)
    (a7 : PySem.W.nsIn K mainGlobals "crosses" = some (some (.ref f7))) (l7 : K.lookup f7 = some ⟨oc7, od7, .func (PySem.W.fnOf "crosses" "crosses" (defArgs s_crosses) (defBody s_crosses) (defScope s_crosses) .none kV7 dc7 pm7 an7 cd7 ct7), sl7⟩) (c7 : PySem.W.codeIn K cd7 "crosses" = true) (k7 : PySem.W.keepIn K (.ref f7) = true)
    (a8 : PySem.W.nsIn K mainGlobals "is_whole" = some (some (.ref f8))) (l8 : K.lookup f8 = some ⟨oc8, od8, .func (PySem.W.fnOf "is_whole" "is_whole" (defArgs s_is_whole) (defBody s_is_whole) (defScope s_is_whole) .none kV8 dc8 pm8 an8 cd8 ct8), sl8⟩) (c8 : PySem.W.codeIn K cd8 "is_whole" = true) (k8 : PySem.W.keepIn K (.ref f8) = true)
    (a9 : PySem.W.nsIn K mainGlobals "is_pairing" = some (some (.ref f9))) (l9 : K.lookup f9 = some ⟨oc9, od9, .func (PySem.W.fnOf "is_pairing" "is_pairing" (defArgs s_is_pairing) (defBody s_is_pairing) (defScope s_is_pairing) .none kV9 dc9 pm9 an9 cd9 ct9), sl9⟩) (c9 : PySem.W.codeIn K cd9 "is_pairing" = true) (k9 : PySem.W.keepIn K (.ref f9) = true)
    (a10 : PySem.W.nsIn K mainGlobals "need_pairing" = some (some (.ref f10))) (l10 : K.lookup f10 = some ⟨oc10, od10, .func (PySem.W.fnOf "need_pairing" "need_pairing" (defArgs s_need_pairing) (defBody s_need_pairing) (defScope s_need_pairing) .none kV10 dc10 pm10 an10 cd10 ct10), sl10⟩) (c10 : PySem.W.codeIn K cd10 "need_pairing" = true) (k10 : PySem.W.keepIn K (.ref f10) = true)
    (a11 : PySem.W.nsIn K mainGlobals "need_two" = some (some (.ref f11))) (l11 : K.lookup f11 = some ⟨oc11, od11, .func (PySem.W.fnOf "need_two" "need_two" (defArgs s_need_two) (defBody s_need_two) (defScope s_need_two) .none kV11 dc11 pm11 an11 cd11 ct11), sl11⟩) (c11 : PySem.W.codeIn K cd11 "need_two" = true) (k11 : PySem.W.keepIn K (.ref f11) = true)
    (a12 : PySem.W.nsIn K mainGlobals "heights" = some (some (.ref f12))) (l12 : K.lookup f12 = some ⟨oc12, od12, .func (PySem.W.fnOf "heights" "heights" (defArgs s_heights) (defBody s_heights) (defScope s_heights) .none kV12 dc12 pm12 an12 cd12 ct12), sl12⟩) (c12 : PySem.W.codeIn K cd12 "heights" = true) (k12 : PySem.W.keepIn K (.ref f12) = true)
    (a13 : PySem.W.nsIn K mainGlobals "is_above" = some (some (.ref f13))) (l13 : K.lookup f13 = some ⟨oc13, od13, .func (PySem.W.fnOf "is_above" "is_above" (defArgs s_is_above) (defBody s_is_above) (defScope s_is_above) .none kV13 dc13 pm13 an13 cd13 ct13), sl13⟩) (c13 : PySem.W.codeIn K cd13 "is_above" = true) (k13 : PySem.W.keepIn K (.ref f13) = true)
    (a14 : PySem.W.nsIn K mainGlobals "_law_heights" = some (some (.ref f14))) (l14 : K.lookup f14 = some ⟨oc14, od14, .func (PySem.W.fnOf "_law_heights" "_law_heights" (defArgs s_w_heights) (defBody s_w_heights) (defScope s_w_heights) .none kV14 dc14 pm14 an14 cd14 ct14), sl14⟩) (c14 : PySem.W.codeIn K cd14 "_law_heights" = true) (k14 : PySem.W.keepIn K (.ref f14) = true)
    (a15 : PySem.W.nsIn K mainGlobals "_law_over_one" = some (some (.ref f15))) (l15 : K.lookup f15 = some ⟨oc15, od15, .func (PySem.W.fnOf "_law_over_one" "_law_over_one" (defArgs s_w_over_one) (defBody s_w_over_one) (defScope s_w_over_one) .none kV15 dc15 pm15 an15 cd15 ct15), sl15⟩) (c15 : PySem.W.codeIn K cd15 "_law_over_one" = true) (k15 : PySem.W.keepIn K (.ref f15) = true)
    (a16 : PySem.W.nsIn K mainGlobals "is_size" = some (some (.ref f16))) (l16 : K.lookup f16 = some ⟨oc16, od16, .func (PySem.W.fnOf "is_size" "is_size" (defArgs s_is_size) (defBody s_is_size) (defScope s_is_size) .none kV16 dc16 pm16 an16 cd16 ct16), sl16⟩) (c16 : PySem.W.codeIn K cd16 "is_size" = true) (k16 : PySem.W.keepIn K (.ref f16) = true)
    (a17 : PySem.W.nsIn K mainGlobals "need_size" = some (some (.ref f17))) (l17 : K.lookup f17 = some ⟨oc17, od17, .func (PySem.W.fnOf "need_size" "need_size" (defArgs s_need_size) (defBody s_need_size) (defScope s_need_size) .none kV17 dc17 pm17 an17 cd17 ct17), sl17⟩) (c17 : PySem.W.codeIn K cd17 "need_size" = true) (k17 : PySem.W.keepIn K (.ref f17) = true)
    (a18 : PySem.W.nsIn K mainGlobals "straight_pairing" = some (some (.ref f18))) (l18 : K.lookup f18 = some ⟨oc18, od18, .func (PySem.W.fnOf "straight_pairing" "straight_pairing" (defArgs s_straight_pairing) (defBody s_straight_pairing) (defScope s_straight_pairing) .none kV18 dc18 pm18 an18 cd18 ct18), sl18⟩) (c18 : PySem.W.codeIn K cd18 "straight_pairing" = true) (k18 : PySem.W.keepIn K (.ref f18) = true)
    (a19 : PySem.W.nsIn K mainGlobals "_law_order_right" = some (some (.ref f19))) (l19 : K.lookup f19 = some ⟨oc19, od19, .func (PySem.W.fnOf "_law_order_right" "_law_order_right" (defArgs s_w_order_right) (defBody s_w_order_right) (defScope s_w_order_right) .none kV19 dc19 pm19 an19 cd19 ct19), sl19⟩) (c19 : PySem.W.codeIn K cd19 "_law_order_right" = true) (k19 : PySem.W.keepIn K (.ref f19) = true)
    (a20 : PySem.W.nsIn K mainGlobals "through" = some (some (.ref f20))) (l20 : K.lookup f20 = some ⟨oc20, od20, .func (PySem.W.fnOf "through" "through" (defArgs s_through) (defBody s_through) (defScope s_through) .none kV20 dc20 pm20 an20 cd20 ct20), sl20⟩) (c20 : PySem.W.codeIn K cd20 "through" = true) (k20 : PySem.W.keepIn K (.ref f20) = true)
    (a21 : PySem.W.nsIn K mainGlobals "_law_through" = some (some (.ref f21))) (l21 : K.lookup f21 = some ⟨oc21, od21, .func (PySem.W.fnOf "_law_through" "_law_through" (defArgs s_w_through) (defBody s_w_through) (defScope s_w_through) .none kV21 dc21 pm21 an21 cd21 ct21), sl21⟩) (c21 : PySem.W.codeIn K cd21 "_law_through" = true) (k21 : PySem.W.keepIn K (.ref f21) = true)
    (a22 : PySem.W.nsIn K mainGlobals "partner" = some (some (.ref f22))) (l22 : K.lookup f22 = some ⟨oc22, od22, .func (PySem.W.fnOf "partner" "partner" (defArgs s_partner) (defBody s_partner) (defScope s_partner) .none kV22 dc22 pm22 an22 cd22 ct22), sl22⟩) (c22 : PySem.W.codeIn K cd22 "partner" = true) (k22 : PySem.W.keepIn K (.ref f22) = true)
    (a23 : PySem.W.nsIn K mainGlobals "_law_one_right" = some (some (.ref f23))) (l23 : K.lookup f23 = some ⟨oc23, od23, .func (PySem.W.fnOf "_law_one_right" "_law_one_right" (defArgs s_w_one_right) (defBody s_w_one_right) (defScope s_w_one_right) .none kV23 dc23 pm23 an23 cd23 ct23), sl23⟩) (c23 : PySem.W.codeIn K cd23 "_law_one_right" = true) (k23 : PySem.W.keepIn K (.ref f23) = true)
    (a24 : PySem.W.nsIn K mainGlobals "law" = some (some (.ref f24))) (l24 : K.lookup f24 = some ⟨oc24, od24, .func (PySem.W.fnOf "law" "law" (defArgs s_law) (defBody s_law) (defScope s_law) .none kV24 dc24 pm24 an24 cd24 ct24), sl24⟩) (c24 : PySem.W.codeIn K cd24 "law" = true) (k24 : PySem.W.keepIn K (.ref f24) = true)
    (z0 : PySem.W.nsIn K mainGlobals "int" = some none)
    (z1 : PySem.W.nsIn K mainGlobals "len" = some none)
    (z2 : PySem.W.nsIn K mainGlobals "range" = some none)
    (z3 : PySem.W.nsIn K mainGlobals "sorted" = some none)
    (z4 : PySem.W.nsIn K mainGlobals "tuple" = some none)
    (z5 : PySem.W.nsIn K mainGlobals "list" = some none)
    (z6 : PySem.W.nsIn K mainGlobals "max" = some none)
    (z7 : PySem.W.nsIn K mainGlobals "isinstance" = some none)
    (z8 : PySem.W.nsIn K mainGlobals "bool" = some none)
    (z9 : PySem.W.nsIn K mainGlobals "enumerate" = some none)
    (z10 : PySem.W.nsIn K mainGlobals "all" = some none)
    (z11 : PySem.W.nsIn K mainGlobals "zip" = some none)
    (z12 : PySem.W.nsIn K mainGlobals "repr" = some none)
    (y0 : PySem.W.nsIn K mainGlobals "MOST_SIZE" = some (some (.int 6 t0))) :
    ∃ fd : FuncData, (∀ (s : Shared) (v : Value), BindsTo s fd ⟨[v], []⟩ [("_law_script", v)]) ∧ ∀ base : Heap, K.In base → base.Ns mainGlobals mg → FnM l.prog w K mg base 10 fa fd ps_law m_law := by
  have e := hfa.symm.trans (PySem.W.mg_of X G a24)
  cases e
  have T : Txt mg := ⟨PySem.W.mg_none_of X G z0, PySem.W.mg_none_of X G z1, PySem.W.mg_none_of X G z2, PySem.W.mg_none_of X G z3, PySem.W.mg_none_of X G z4, PySem.W.mg_none_of X G z5, PySem.W.mg_none_of X G z6, PySem.W.mg_none_of X G z7, PySem.W.mg_none_of X G z8, PySem.W.mg_none_of X G z9, PySem.W.mg_none_of X G z10, PySem.W.mg_none_of X G z11, PySem.W.mg_none_of X G z12, ⟨_, PySem.W.mg_of X G y0⟩⟩
  have F1 := fun_mk (x := "_law_deck") (qual := "_law_deck") (st := s_w_deck) l1 c1 k1
  have F2 := fun_mk (x := "_law_over") (qual := "_law_over") (st := s_w_over) l2 c2 k2
  have F3 := fun_mk (x := "_law_all") (qual := "_law_all") (st := s_w_all) l3 c3 k3
  have F4 := fun_mk (x := "_law_draw") (qual := "_law_draw") (st := s_w_draw) l4 c4 k4
  have F5 := fun_mk (x := "_law_pick") (qual := "_law_pick") (st := s_w_pick) l5 c5 k5
  have F6 := fun_mk (x := "mates_of") (qual := "mates_of") (st := s_mates_of) l6 c6 k6
  have F7 := fun_mk (x := "crosses") (qual := "crosses") (st := s_crosses) l7 c7 k7
  have F8 := fun_mk (x := "is_whole") (qual := "is_whole") (st := s_is_whole) l8 c8 k8
  have F9 := fun_mk (x := "is_pairing") (qual := "is_pairing") (st := s_is_pairing) l9 c9 k9
  have F10 := fun_mk (x := "need_pairing") (qual := "need_pairing") (st := s_need_pairing) l10 c10 k10
  have F11 := fun_mk (x := "need_two") (qual := "need_two") (st := s_need_two) l11 c11 k11
  have F12 := fun_mk (x := "heights") (qual := "heights") (st := s_heights) l12 c12 k12
  have F13 := fun_mk (x := "is_above") (qual := "is_above") (st := s_is_above) l13 c13 k13
  have F14 := fun_mk (x := "_law_heights") (qual := "_law_heights") (st := s_w_heights) l14 c14 k14
  have F15 := fun_mk (x := "_law_over_one") (qual := "_law_over_one") (st := s_w_over_one) l15 c15 k15
  have F16 := fun_mk (x := "is_size") (qual := "is_size") (st := s_is_size) l16 c16 k16
  have F17 := fun_mk (x := "need_size") (qual := "need_size") (st := s_need_size) l17 c17 k17
  have F18 := fun_mk (x := "straight_pairing") (qual := "straight_pairing") (st := s_straight_pairing) l18 c18 k18
  have F19 := fun_mk (x := "_law_order_right") (qual := "_law_order_right") (st := s_w_order_right) l19 c19 k19
  have F20 := fun_mk (x := "through") (qual := "through") (st := s_through) l20 c20 k20
  have F21 := fun_mk (x := "_law_through") (qual := "_law_through") (st := s_w_through) l21 c21 k21
  have F22 := fun_mk (x := "partner") (qual := "partner") (st := s_partner) l22 c22 k22
  have F23 := fun_mk (x := "_law_one_right") (qual := "_law_one_right") (st := s_w_one_right) l23 c23 k23
  have F24 := fun_mk (x := "law") (qual := "law") (st := s_law) l24 c24 k24
  refine ⟨PySem.W.fnOf "law" "law" (defArgs s_law) (defBody s_law) (defScope s_law) .none kV24 dc24 pm24 an24 cd24 ct24, fun s v => .of_eq rfl, fun base _ _ => ?_⟩
  have C_w_deck := ok_w_deck (P := l.prog) (w := w) (base := base) T F1 (PySem.W.mg_of X G a1) 
  have C_w_over := ok_w_over (P := l.prog) (w := w) (base := base) T F2 (PySem.W.mg_of X G a2) 
  have C_w_all := ok_w_all (P := l.prog) (w := w) (base := base) T F3 (PySem.W.mg_of X G a3) C_w_over
  have C_w_draw := ok_w_draw (P := l.prog) (w := w) (base := base) T F4 (PySem.W.mg_of X G a4) 
  have C_w_pick := ok_w_pick (P := l.prog) (w := w) (base := base) T F5 (PySem.W.mg_of X G a5) C_w_draw
  have C_mates_of := ok_mates_of (P := l.prog) (w := w) (base := base) T F6 (PySem.W.mg_of X G a6) 
  have C_crosses := ok_crosses (P := l.prog) (w := w) (base := base) T F7 (PySem.W.mg_of X G a7) C_mates_of
  have C_is_whole := ok_is_whole (P := l.prog) (w := w) (base := base) T F8 (PySem.W.mg_of X G a8) 
  have C_is_pairing := ok_is_pairing (P := l.prog) (w := w) (base := base) T F9 (PySem.W.mg_of X G a9) C_crosses C_is_whole
  have C_need_pairing := ok_need_pairing (P := l.prog) (w := w) (base := base) T F10 (PySem.W.mg_of X G a10) C_is_pairing
  have C_need_two := ok_need_two (P := l.prog) (w := w) (base := base) T F11 (PySem.W.mg_of X G a11) C_need_pairing
  have C_heights := ok_heights (P := l.prog) (w := w) (base := base) T F12 (PySem.W.mg_of X G a12) C_mates_of C_need_pairing
  have C_is_above := ok_is_above (P := l.prog) (w := w) (base := base) T F13 (PySem.W.mg_of X G a13) C_heights C_need_two
  have C_w_heights := ok_w_heights (P := l.prog) (w := w) (base := base) T F14 (PySem.W.mg_of X G a14) 
  have C_w_over_one := ok_w_over_one (P := l.prog) (w := w) (base := base) T F15 (PySem.W.mg_of X G a15) C_w_heights
  have C_is_size := ok_is_size (P := l.prog) (w := w) (base := base) T F16 (PySem.W.mg_of X G a16) C_is_whole
  have C_need_size := ok_need_size (P := l.prog) (w := w) (base := base) T F17 (PySem.W.mg_of X G a17) C_is_size
  have C_straight_pairing := ok_straight_pairing (P := l.prog) (w := w) (base := base) T F18 (PySem.W.mg_of X G a18) C_need_size
  have C_w_order_right := ok_w_order_right (P := l.prog) (w := w) (base := base) T F19 (PySem.W.mg_of X G a19) C_is_above C_heights C_w_over_one C_straight_pairing
  have C_through := ok_through (P := l.prog) (w := w) (base := base) T F20 (PySem.W.mg_of X G a20) C_need_pairing
  have C_w_through := ok_w_through (P := l.prog) (w := w) (base := base) T F21 (PySem.W.mg_of X G a21) 
  have C_partner := ok_partner (P := l.prog) (w := w) (base := base) T F22 (PySem.W.mg_of X G a22) C_mates_of C_need_pairing
  have C_w_one_right := ok_w_one_right (P := l.prog) (w := w) (base := base) T F23 (PySem.W.mg_of X G a23) C_partner C_w_through C_through C_heights C_w_heights
  have C_law := ok_law (P := l.prog) (w := w) (base := base) T F24 (PySem.W.mg_of X G a24) C_w_order_right C_w_one_right C_is_above C_w_pick C_w_over_one C_w_all C_w_draw C_w_deck
  exact C_law.ok
theorem walk {l : PySem.W.OpenLaw} {q : Program} {loose : List Str} {XP : (Str → Option Value) → Heap → Prop} {YP : World → Heap → Prop} {d : DefRec} {K : Params → PySem.W.Frag} (hn : l.most = some 63) (hdf : d.params.defaults = [])
    (hY : ∀ (w : World) (h : Heap), YP w h → (K w.params).In h)
    (F : ∀ (w : World) (mg : Str → Option Value) (fa : Addr) (h : Heap), (K w.params).In h → h.Ns mainGlobals mg → mg d.name = some (.ref fa) →
      ∃ fd : FuncData, (∀ (s : Shared) (u : Value), BindsTo s fd ⟨[u], []⟩ [("_law_script", u)]) ∧ ∀ base : Heap, (K w.params).In base → base.Ns mainGlobals mg → FnM l.prog w (K w.params) mg base 10 fa fd ps_law m_law)
    (hlaw : ∀ ns : List Int, ns.length ≤ 63 → ∃ S, m_law [.scr (ns.map D.int)] [] = .ok (.bl true) S) : PySem.W.WalkO q loose XP YP l.row.toRowW d [] (fun f vs => PySem.call f vs) :=
  walkM (n := 63) (k := 10) (x := "_law_script") (mf := m_law) hn (by decide) hdf ⟨rfl, by decide, by decide⟩ hY F hlaw
end LW

set_option Elab.async false
set_option linter.all false
set_option maxRecDepth 100000
/-! The law: plain Lean. -/
namespace LW
open PySem MM L2

def geB (xs ys : List Int) : List Bool := List.zipWith (fun x y => decide (y ≤ x)) xs ys
def geAll (xs ys : List Int) : Bool := (geB xs ys).all id
theorem bls_map : ∀ bs : List Bool, blsOf (bs.map D.bl) = some bs
  | [] => rfl
  | b :: bs => by
    show (blsOf (bs.map D.bl)).map (b :: ·) = _
    rw [bls_map bs]; rfl
theorem above_lc (σ0 : Sg) (h : 4 < σ0.length) (S : Store) : ∀ xs ys : List Int, runLc σ0 (gT 2 (gsCons (gN 3) (gsCons (gN 4) (gsNil)))) mYes (m2 dGe (mVar 3) (mVar 4)) (zipD (nums xs) (nums ys)) S = .ok ((geB xs ys).map D.bl) S
  | [], ys => by cases ys <;> rfl
  | _ :: _, [] => rfl
  | x :: xs, y :: ys => by
    refine runLc_cons (σ1 := (σ0.set 3 (some (.int x))).set 4 (some (.int y))) (S1 := S) (S2 := S) (S3 := S) (by rfl) rfl ?_ (above_lc σ0 h S xs ys)
    have e3 : ((σ0.set 3 (some (.int x))).set 4 (some (.int y)))[3]? = some (some (.int x)) := by
      rw [List.getElem?_set_ne (by decide), List.getElem?_set_self (by omega)]
    have e4 : ((σ0.set 3 (some (.int x))).set 4 (some (.int y)))[4]? = some (some (.int y)) := by
      rw [List.getElem?_set_self (by simpa using h)]
    simp only [m2, mVar, e3, e4, R.bind]
    rfl
/-- what is known of a pairing -/
structure Good (n : Nat) (p : D) (h : List Int) : Prop where
  pure : p.pure = true
  shal : p.shal 40 = true
  sz : ∃ xs, p = .tup xs ∧ xs.length = n
  need : m_need_pairing [p] [] = .ok .non []
  ht : m_heights [p] [] = .ok (.tup (nums h)) []
  wht : m_w_heights [.int n, p] [] = .ok (.tup (nums h)) []
  len : h.length = 2 * n + 1
  le : n ≤ 100
section
variable {n : Nat} {p q : D} {hp hq : List Int} {S : Store}
theorem pure2 (a : p.pure = true) (b : q.pure = true) : pureAll [p, q] = true := by simp [pureAll, a, b]
theorem need_at (P : Good n p hp) : m_need_pairing [p] S = .ok .non S := pureF_any P.need
theorem ht_at (P : Good n p hp) : m_heights [p] S = .ok (.tup (nums hp)) S := pureF_any P.ht
theorem wht_at (P : Good n p hp) : m_w_heights [.int n, p] S = .ok (.tup (nums hp)) S := pureF_any P.wht
theorem len_at (P : Good n p hp) : dLen [p] S = .ok (.int n) S := by
  obtain ⟨xs, rfl, h⟩ := P.sz
  simp [dLen, orN, lenSeq, on1, rdS, R.or, h]
theorem need2_at (P : Good n p hp) (Q : Good n q hq) : m_need_two [p, q] S = .ok .non S := by
  refine call_pureN rfl (pure2 P.pure Q.pure) (σ := [some p, some q]) (S1 := []) ?_
  unfold b_need_two
  show mSeq _ _ [some p, some q] [] = _
  rw [mSeq_nx (σ' := [some p, some q]) (S' := []) (by simp only [mExpr, mN, mCons, mNil, mVar, R.bind, R.toO, List.getElem?_cons_zero, need_at P])]
  rw [mSeq_nx (σ' := [some p, some q]) (S' := []) (by simp only [mExpr, mN, mCons, mNil, mVar, R.bind, R.toO, List.getElem?_cons_zero, List.getElem?_cons_succ, need_at Q])]
  rw [mIf_f (S' := []) (by
    simp only [mBool, m2, mN, mCons, mNil, mVar, R.bind, List.getElem?_cons_zero, List.getElem?_cons_succ, len_at P, len_at Q]
    simp [dNe, onDD, rd, MM.need, D.shal, eqD])]
  rfl
theorem shal_tn (h : List Int) : (D.tup (nums h)).shal 40 = true := by
  show shalAll 39 (nums h) = true
  exact shal_nums 39 h
theorem zip_len : ∀ xs ys : List D, (zipD xs ys).length ≤ xs.length
  | [], ys => by cases ys <;> exact Nat.le_refl _
  | _ :: _, [] => Nat.zero_le _
  | x :: xs, y :: ys => Nat.succ_le_succ (zip_len xs ys)
theorem above_at (P : Good n p hp) (Q : Good n q hq) : m_is_above [p, q] S = .ok (.bl (geAll hp hq)) S := by
  refine call_pure rfl (pure2 P.pure Q.pure) (d := .bl (geAll hp hq)) (S1 := []) ?_ rfl
  unfold b_is_above
  show mSeq _ _ [some p, some q, none, none, none] [] = _
  rw [mSeq_nx (σ' := [some p, some q, none, none, none]) (S' := []) (by simp only [mExpr, mN, mCons, mNil, mVar, R.bind, R.toO, List.getElem?_cons_zero, List.getElem?_cons_succ, need2_at P Q])]
  have e1 : (mCons (mN m_heights (mCons (mVar 0) (mNil))) (mCons (mN m_heights (mCons (mVar 1) (mNil))) (mNil))) [some p, some q, none, none, none] [] = .ok [.tup (nums hp), .tup (nums hq)] [] := by
    simp only [mN, mCons, mNil, mVar, R.bind, List.getElem?_cons_zero, List.getElem?_cons_succ, ht_at P, ht_at Q]
  simp only [mZip, e1, R.toO, zip2]
  have hz : (zipD (nums hp) (nums hq)).length ≤ 1000000 := by
    have h1 := zip_len (nums hp) (nums hq)
    rw [List.length_map] at h1
    have h2 := P.len
    have h3 := P.le
    omega
  have hl : mLc [3, 4] (miK (zipD (nums hp) (nums hq))) (gT 2 (gsCons (gN 3) (gsCons (gN 4) (gsNil)))) mYes (m2 dGe (mVar 3) (mVar 4)) [some p, some q, none, none, none] [] = .ok (.lst ((geB hp hq).map D.bl)) [] := by
    unfold mLc mLcF
    simp only [miK, R.bind]
    rw [if_pos hz, above_lc _ (by simp [wipeM])]
    rfl
  show R.toO (mN allB (mCons (mLc [3, 4] (miK (zipD (nums hp) (nums hq))) (gT 2 (gsCons (gN 3) (gsCons (gN 4) (gsNil)))) mYes (m2 dGe (mVar 3) (mVar 4))) mNil) [some p, some q, none, none, none] []) _ = _
  simp only [mN, mCons, hl, R.bind, mNil, allB, on1, rdL, bls_map, R.toO]
  rfl
theorem geAll_iff {xs ys : List Int} (h : xs.length = ys.length) : geAll xs ys = true ↔ ∀ i : Nat, i < xs.length → ys.getD i 0 ≤ xs.getD i 0 := by
  induction xs generalizing ys with
  | nil => simp [geAll, geB]
  | cons x xs ih =>
    cases ys with
    | nil => simp at h
    | cons y ys =>
      have e : geAll (x :: xs) (y :: ys) = (decide (y ≤ x) && geAll xs ys) := rfl
      rw [e, Bool.and_eq_true, decide_eq_true_eq, ih (by simpa using h)]
      constructor
      · rintro ⟨h1, h2⟩ i hi
        cases i with
        | zero => exact h1
        | succ i => exact h2 i (by simpa using hi)
      · intro h
        exact ⟨h 0 (by simp), fun i hi => h (i + 1) (by simpa using hi)⟩
theorem geAll_refl (xs : List Int) : geAll xs xs = true := (geAll_iff rfl).mpr fun _ _ => Int.le_refl _
theorem geAll_trans {xs ys zs : List Int} (h : xs.length = ys.length) (h' : ys.length = zs.length) (a : geAll xs ys = true) (b : geAll ys zs = true) : geAll xs zs = true :=
  (geAll_iff (h.trans h')).mpr fun i hi => Int.le_trans ((geAll_iff h').mp b i (by omega)) ((geAll_iff h).mp a i hi)
theorem geAll_antisymm {xs ys : List Int} (h : xs.length = ys.length) (a : geAll xs ys = true) (b : geAll ys xs = true) : xs = ys := by
  apply List.ext_getElem h
  intro i h1 h2
  have e1 := (geAll_iff h).mp a i h1
  have e2 := (geAll_iff h.symm).mp b i h2
  rw [List.getD_eq_getElem?_getD, List.getD_eq_getElem?_getD, List.getElem?_eq_getElem h1, List.getElem?_eq_getElem h2] at e1 e2
  simp at e1 e2
  omega
/-- the places where the one stands below the other -/
def lows (xs ys : List Int) (is : List Nat) : List Int := (is.filter fun i => decide (xs.getD i 0 < ys.getD i 0)).map fun i : Nat => (i : Int)
theorem atI_nums {xs : List Int} {i : Nat} (h : i < xs.length) : atI (nums xs) ((0 : Int) + (i : Int)) = some (.int (xs.getD i 0)) := by
  unfold atI ixN
  rw [List.length_map, if_pos (by omega), if_pos (by omega)]
  show (nums xs)[((0 : Int) + (i : Int)).toNat]? = _
  have e : ((0 : Int) + (i : Int)).toNat = i := by omega
  rw [e, List.getElem?_map, List.getElem?_eq_getElem h, List.getD_eq_getElem?_getD, List.getElem?_eq_getElem h]
  rfl
theorem lows_lc (a0 a1 a2 o : Option D) (S : Store) : ∀ is : List Nat, (∀ i ∈ is, i < hp.length ∧ i < hq.length) → runLc [a0, a1, a2, some (.tup (nums hp)), some (.tup (nums hq)), o] (gN 5) (mBool (m2 dLt (m2 dIx (mVar 3) (mVar 5)) (m2 dIx (mVar 4) (mVar 5)))) (mVar 5) (is.map fun (k : Nat) => .int ((0 : Int) + (k : Int))) S = .ok (nums (lows hp hq is)) S
  | [], _ => rfl
  | i :: is, h => by
    have ih := lows_lc a0 a1 a2 o S is fun j hj => h j (List.mem_cons_of_mem _ hj)
    obtain ⟨h1, h2⟩ := h i List.mem_cons_self
    have t : mBool (m2 dLt (m2 dIx (mVar 3) (mVar 5)) (m2 dIx (mVar 4) (mVar 5))) [a0, a1, a2, some (.tup (nums hp)), some (.tup (nums hq)), some (.int ((0 : Int) + (i : Int)))] S = .ok (decide (hp.getD i 0 < hq.getD i 0)) S := by
      simp only [mBool, m2, mVar, List.getElem?_cons_succ, List.getElem?_cons_zero, R.bind, dIx, or2, ixSeq, rdS, atI_nums h1, atI_nums h2, R.or]
      rfl
    by_cases hc : hp.getD i 0 < hq.getD i 0
    · have e : lows hp hq (i :: is) = (i : Int) :: lows hp hq is := by
        unfold lows
        rw [List.filter_cons_of_pos (by exact decide_eq_true hc)]
        rfl
      rw [e]
      refine runLc_cons (σ1 := [a0, a1, a2, some (.tup (nums hp)), some (.tup (nums hq)), some (.int ((0 : Int) + (i : Int)))]) (S1 := S) rfl (by rw [t, decide_eq_true hc]) ?_ ih
      show R.ok (D.int ((0 : Int) + (i : Int))) S = R.ok (D.int (i : Int)) S
      rw [Int.zero_add]
    · have e : lows hp hq (i :: is) = lows hp hq is := by
        unfold lows
        rw [List.filter_cons_of_neg (by simpa using hc)]
      rw [e]
      exact runLc_skip (σ1 := [a0, a1, a2, some (.tup (nums hp)), some (.tup (nums hq)), some (.int ((0 : Int) + (i : Int)))]) (S1 := S) rfl (by rw [t, decide_eq_false hc]) ih
theorem lows_nil (h : hp.length = hq.length) : decide (lows hp hq (List.range hp.length) = []) = geAll hp hq := by
  apply Bool.eq_iff_iff.mpr
  rw [decide_eq_true_eq, geAll_iff h]
  simp only [lows, List.map_eq_nil_iff, List.filter_eq_nil_iff, List.mem_range, decide_eq_true_eq, Int.not_lt]
theorem over_rng {o1 o2 o3 o4 o5 : Option D} {m : Nat} (h : m = 2 * n + 1) (hn : n ≤ 100) : miRng1 (mCons (m2 (dAdd false) (m2 (dMul false) (mK (.int 2)) (mVar 0)) (mK (.int 1))) (mNil)) [some (.int n), o1, o2, o3, o4, o5] [] = .ok ((List.range m).map fun (k : Nat) => D.int ((0 : Int) + (k : Int))) [] := by
  have e2 : (2 * (n : Int) + 1).toNat = m := by omega
  have e3 : rngOk 0 (2 * (n : Int) + 1) = true := by
    unfold rngOk
    simp only [Bool.and_eq_true, decide_eq_true_eq]
    omega
  have e0 : (mCons (m2 (dAdd false) (m2 (dMul false) (mK (.int 2)) (mVar 0)) (mK (.int 1))) (mNil)) [some (.int n), o1, o2, o3, o4, o5] [] = .ok [.int (2 * (n : Int) + 1)] [] := rfl
  rw [miRng1_ok e0 e3, e2]
  rfl
theorem over_lc (hl : hp.length = hq.length) (h : hp.length = 2 * n + 1) (hn : n ≤ 100) : mLc [5] (miRng1 (mCons (m2 (dAdd false) (m2 (dMul false) (mK (.int 2)) (mVar 0)) (mK (.int 1))) (mNil))) (gN 5) (mBool (m2 dLt (m2 dIx (mVar 3) (mVar 5)) (m2 dIx (mVar 4) (mVar 5)))) (mVar 5) [some (.int n), some p, some q, some (.tup (nums hp)), some (.tup (nums hq)), none] [] = .ok (.lst (nums (lows hp hq (List.range hp.length)))) [] := by
  refine mLc_ok (over_rng h hn) (by rw [List.length_map, List.length_range]; omega) ?_
  exact lows_lc _ _ _ _ _ _ fun i hi => ⟨List.mem_range.mp hi, by rw [← hl]; exact List.mem_range.mp hi⟩
theorem over_at (P : Good n p hp) (Q : Good n q hq) : m_w_over_one [.int n, p, q] S = .ok (.bl (geAll hp hq)) S := by
  have hl : hp.length = hq.length := P.len.trans Q.len.symm
  refine call_pure rfl (by simp [pureAll, P.pure, Q.pure, D.pure]) (d := .bl (geAll hp hq)) (S1 := []) ?_ rfl
  unfold b_w_over_one
  have e0 : mAsg (mTup (mCons (mN m_w_heights (mCons (mVar 0) (mCons (mVar 1) (mNil)))) (mCons (mN m_w_heights (mCons (mVar 0) (mCons (mVar 2) (mNil)))) (mNil)))) (gT 2 (gsCons (gN 3) (gsCons (gN 4) (gsNil)))) [some (.int n), some p, some q, none, none, none] [] = .nx [some (.int n), some p, some q, some (.tup (nums hp)), some (.tup (nums hq)), none] [] := by
    simp only [mAsg, mTup, mN, mCons, mNil, mVar, R.bind, R.toO, List.getElem?_cons_zero, List.getElem?_cons_succ, wht_at P, wht_at Q]
    rfl
  refine (mSeq_nx e0).trans ?_
  have e5 : (D.lst (nums (lows hp hq (List.range hp.length)))).shal 40 = true := shal_nums 39 _
  have e6 : eqD (.lst (nums (lows hp hq (List.range hp.length)))) (.lst []) = geAll hp hq := by
    rw [← lows_nil hl]
    exact eqAll_nums _ []
  have e4 := over_lc (p := p) (q := q) hl P.len P.le
  generalize nums (lows hp hq (List.range hp.length)) = xs at e4 e5 e6
  have e7 : m2 dEq (mLc [5] (miRng1 (mCons (m2 (dAdd false) (m2 (dMul false) (mK (.int 2)) (mVar 0)) (mK (.int 1))) (mNil))) (gN 5) (mBool (m2 dLt (m2 dIx (mVar 3) (mVar 5)) (m2 dIx (mVar 4) (mVar 5)))) (mVar 5)) (mLst (mNil)) [some (.int n), some p, some q, some (.tup (nums hp)), some (.tup (nums hq)), none] [] = .ok (.bl (geAll hp hq)) [] := by
    refine m2_ok e4 rfl ?_
    rw [dEq_ok rfl rfl e5 rfl, e6]
  exact mRet_ok e7

def inA : MS := mAsg (mN m_w_over_one (mCons (mVar 0) (mCons (mVar 2) (mCons (mVar 3) (mNil))))) (gN 4)
def inR : MS := mIf (mBool (m2 dNe (mN dRepr (mCons (mLst (mCons (mN m_is_above (mCons (mVar 2) (mCons (mVar 3) (mNil)))) (mCons (mNK 0 2 m_is_above (pk [0, 1]) mNil (mCons (mVar 2) (mCons (mVar 3) (mNil)))) (mNil)))) (mNil))) (mN dRepr (mCons (mLst (mCons (mVar 4) (mCons (mVar 4) (mNil)))) (mNil))))) (mRet (mK (.bl false))) (mSkip)
def inS : MS := mIf (mAndT (mBool (mN m_is_above (mCons (mVar 2) (mCons (mVar 3) (mNil))))) (mAndT (mBool (mN m_is_above (mCons (mVar 3) (mCons (mVar 2) (mNil))))) (mBool (m2 dNe (mVar 2) (mVar 3))))) (mRet (mK (.bl false))) (mSkip)
def inH : MS := mIf (mBool (m2 dNe (m2 dEq (mN m_heights (mCons (mVar 2) (mNil))) (mN m_heights (mCons (mVar 3) (mNil)))) (m2 dEq (mVar 2) (mVar 3)))) (mRet (mK (.bl false))) (mSkip)
def inB : MS := mSeq inA (mSeq inR (mSeq inS inH))
def outT : MS := mIf (mOrT (mBool (m2 (dIs false) (mN m_is_above (mCons (mVar 2) (mCons (mVar 2) (mNil)))) (mK (.bl true)))) (mBool (m2 (dIs false) (mN m_is_above (mCons (mN m_straight_pairing (mCons (mVar 0) (mNil))) (mCons (mVar 2) (mNil)))) (mK (.bl true))))) (mRet (mK (.bl false))) (mSkip)
def outB : MS := mSeq outT (mFor (miSeq (mVar 1)) (gN 3) inB)
def ordB : MS := mSeq (mFor (miSeq (mVar 1)) (gN 2) outB) (mSeq (mPar3 5 6 7 (mCons (m2 dIx (mVar 1) (mK (.int 0))) (mCons (m2 dIx (mVar 1) (mK (.int 1))) (mCons (m2 dIx (mVar 1) (mK (.int 2))) (mNil))))) (mRet (mOr (mN m_is_above (mCons (mVar 5) (mCons (mVar 7) (mNil)))) (mNot (mAnd (mN m_is_above (mCons (mVar 5) (mCons (mVar 6) (mNil)))) (mN m_is_above (mCons (mVar 6) (mCons (mVar 7) (mNil)))))))))
theorem ordB_eq : b_w_order_right = ordB := rfl
theorem repr_ok (c : Bool) (S : Store) : ∃ z, dRepr [.lst [.bl c, .bl c]] S = .ok (.str z) S ∧ (D.str z).shal 40 = true := by
  cases c
  · exact ⟨_, rfl, by kernel_rfl⟩
  · exact ⟨_, rfl, by kernel_rfl⟩
theorem eqD_str (z : Str) : eqD (.str z) (.str z) = true := by simp [eqD]
theorem mAndT_f {a b : MT} {σ : Sg} {S S1 : Store} (h : a σ S = .ok false S1) : mAndT a b σ S = .ok false S1 := by unfold mAndT; rw [h]; rfl
theorem mAndT_t {a b : MT} {σ : Sg} {S S1 : Store} (h : a σ S = .ok true S1) : mAndT a b σ S = b σ S1 := by unfold mAndT; rw [h]; rfl
theorem mOrT_f {a b : MT} {σ : Sg} {S S1 : Store} (h : a σ S = .ok false S1) : mOrT a b σ S = b σ S1 := by unfold mOrT; rw [h]; rfl
theorem mOrT_t {a b : MT} {σ : Sg} {S S1 : Store} (h : a σ S = .ok true S1) : mOrT a b σ S = .ok true S1 := by unfold mOrT; rw [h]; rfl
theorem in_ok (P : Good n p hp) (Q : Good n q hq) (he : eqD p q = decide (hp = hq)) (l o3 o4 o5 o6 o7 : Option D) : inB [some (.int n), l, some p, some q, o4, o5, o6, o7] S = .nx [some (.int n), l, some p, some q, some (.bl (geAll hp hq)), o5, o6, o7] S := by
  have hl : hp.length = hq.length := P.len.trans Q.len.symm
  unfold inB
  have eA : inA [some (.int n), l, some p, some q, o4, o5, o6, o7] S = .nx [some (.int n), l, some p, some q, some (.bl (geAll hp hq)), o5, o6, o7] S := by
    refine mAsg_ok (x := .bl (geAll hp hq)) (mN_ok (mCons_ok (mVar_ok rfl) (mCons_ok (mVar_ok rfl) (mCons_ok (mVar_ok rfl) rfl))) (over_at P Q)) rfl
  rw [mSeq_nx eA]
  have eR : inR [some (.int n), l, some p, some q, some (.bl (geAll hp hq)), o5, o6, o7] S = .nx [some (.int n), l, some p, some q, some (.bl (geAll hp hq)), o5, o6, o7] S := by
    obtain ⟨z, h1, h2⟩ := repr_ok (geAll hp hq) S
    have a1 : mN m_is_above (mCons (mVar 2) (mCons (mVar 3) (mNil))) [some (.int n), l, some p, some q, some (.bl (geAll hp hq)), o5, o6, o7] S = .ok (.bl (geAll hp hq)) S := mN_ok (mCons_ok (mVar_ok rfl) (mCons_ok (mVar_ok rfl) rfl)) (above_at P Q)
    have a2 : mNK 0 2 m_is_above (pk [0, 1]) mNil (mCons (mVar 2) (mCons (mVar 3) (mNil))) [some (.int n), l, some p, some q, some (.bl (geAll hp hq)), o5, o6, o7] S = .ok (.bl (geAll hp hq)) S := mNK_ok (xs := []) (ys := [p, q]) rfl (mCons_ok (mVar_ok rfl) (mCons_ok (mVar_ok rfl) rfl)) ⟨rfl, rfl⟩ (above_at P Q)
    have a3 : mN dRepr (mCons (mLst (mCons (mN m_is_above (mCons (mVar 2) (mCons (mVar 3) (mNil)))) (mCons (mNK 0 2 m_is_above (pk [0, 1]) mNil (mCons (mVar 2) (mCons (mVar 3) (mNil)))) (mNil)))) (mNil)) [some (.int n), l, some p, some q, some (.bl (geAll hp hq)), o5, o6, o7] S = .ok (.str z) S := by
      refine mN_ok (xs := [.lst [.bl (geAll hp hq), .bl (geAll hp hq)]]) (S1 := S) (mCons_ok ?_ rfl) h1
      unfold mLst
      rw [mCons_ok a1 (mCons_ok a2 rfl)]
      rfl
    have a4 : mN dRepr (mCons (mLst (mCons (mVar 4) (mCons (mVar 4) (mNil)))) (mNil)) [some (.int n), l, some p, some q, some (.bl (geAll hp hq)), o5, o6, o7] S = .ok (.str z) S := mN_ok (xs := [.lst [.bl (geAll hp hq), .bl (geAll hp hq)]]) (S1 := S) rfl h1
    refine (mIf_f (mBool_ok (m2_ok a3 a4 ?_))).trans rfl
    rw [dNe_ok rfl rfl h2 h2, eqD_str]
    rfl
  rw [mSeq_nx eR]
  have b1 : mBool (mN m_is_above (mCons (mVar 2) (mCons (mVar 3) (mNil)))) [some (.int n), l, some p, some q, some (.bl (geAll hp hq)), o5, o6, o7] S = .ok (geAll hp hq) S := mBool_ok (mN_ok (mCons_ok (mVar_ok rfl) (mCons_ok (mVar_ok rfl) rfl)) (above_at P Q))
  have b2 : mBool (mN m_is_above (mCons (mVar 3) (mCons (mVar 2) (mNil)))) [some (.int n), l, some p, some q, some (.bl (geAll hp hq)), o5, o6, o7] S = .ok (geAll hq hp) S := mBool_ok (mN_ok (mCons_ok (mVar_ok rfl) (mCons_ok (mVar_ok rfl) rfl)) (above_at Q P))
  have rdP : rd S p = some p := by obtain ⟨xs, rfl, _⟩ := P.sz; rfl
  have rdQ : rd S q = some q := by obtain ⟨xs, rfl, _⟩ := Q.sz; rfl
  have b3 : mBool (m2 dNe (mVar 2) (mVar 3)) [some (.int n), l, some p, some q, some (.bl (geAll hp hq)), o5, o6, o7] S = .ok (!decide (hp = hq)) S := mBool_ok (m2_ok (mVar_ok rfl) (mVar_ok rfl) (by rw [dNe_ok rdP rdQ P.shal Q.shal, he]))
  have eS : inS [some (.int n), l, some p, some q, some (.bl (geAll hp hq)), o5, o6, o7] S = .nx [some (.int n), l, some p, some q, some (.bl (geAll hp hq)), o5, o6, o7] S := by
    refine (mIf_f ?_).trans rfl
    by_cases c1 : geAll hp hq = true
    · rw [mAndT_t (by rw [b1, c1])]
      by_cases c2 : geAll hq hp = true
      · rw [mAndT_t (by rw [b2, c2]), b3, decide_eq_true (geAll_antisymm hl c1 c2)]
        rfl
      · exact mAndT_f (by rw [b2, Bool.eq_false_iff.mpr c2])
    · exact mAndT_f (by rw [b1, Bool.eq_false_iff.mpr c1])
  rw [mSeq_nx eS]
  have c1 : m2 dEq (mN m_heights (mCons (mVar 2) (mNil))) (mN m_heights (mCons (mVar 3) (mNil))) [some (.int n), l, some p, some q, some (.bl (geAll hp hq)), o5, o6, o7] S = .ok (.bl (decide (hp = hq))) S := by
    refine m2_ok (mN_ok (mCons_ok (mVar_ok rfl) rfl) (ht_at P)) (mN_ok (mCons_ok (mVar_ok rfl) rfl) (ht_at Q)) ?_
    rw [dEq_ok rfl rfl (shal_tn hp) (shal_tn hq)]
    have := eqAll_nums hp hq
    rw [← this]
    rfl
  have c2 : m2 dEq (mVar 2) (mVar 3) [some (.int n), l, some p, some q, some (.bl (geAll hp hq)), o5, o6, o7] S = .ok (.bl (decide (hp = hq))) S := m2_ok (mVar_ok rfl) (mVar_ok rfl) (by rw [dEq_ok rdP rdQ P.shal Q.shal, he])
  refine (mIf_f (mBool_ok (m2_ok c1 c2 ?_))).trans rfl
  rw [dNe_ok rfl rfl rfl rfl]
  cases decide (hp = hq) <;> rfl

/-- what is known of a row of pairings -/
structure Row (n : Nat) (hts : D → List Int) (st : D) (hst : List Int) (xs : List D) : Prop where
  good : ∀ p ∈ xs, Good n p (hts p)
  cmp : ∀ p ∈ xs, ∀ q ∈ xs, eqD p q = decide (hts p = hts q)
  top : ∀ p ∈ xs, geAll hst (hts p) = true
  strt : m_straight_pairing [.int n] [] = .ok st []
  gst : Good n st hst
theorem in_all {hts : D → List Int} {st : D} {hst : List Int} {xs : List D} (R : Row n hts st hst xs) (hpm : p ∈ xs) (l : Option D) (o5 o6 o7 : Option D) : ∀ (ys : List D) (o3 o4 : Option D), (∀ y ∈ ys, y ∈ xs) → ∃ o3' o4', runFor (gN 3) inB ys [some (.int n), l, some p, o3, o4, o5, o6, o7] S = .nx [some (.int n), l, some p, o3', o4', o5, o6, o7] S
  | [], o3, o4, _ => ⟨o3, o4, rfl⟩
  | y :: ys, o3, o4, h => by
    have hy := h y List.mem_cons_self
    obtain ⟨o3', o4', e⟩ := in_all R hpm l o5 o6 o7 ys (some y) (some (.bl (geAll (hts p) (hts y)))) fun z hz => h z (List.mem_cons_of_mem _ hz)
    exact ⟨o3', o4', (runFor_cons (σ1 := [some (.int n), l, some p, some y, o4, o5, o6, o7]) rfl (in_ok (R.good p hpm) (R.good y hy) (R.cmp p hpm y hy) l o3 o4 o5 o6 o7)).trans e⟩
theorem out_all {hts : D → List Int} {st : D} {hst : List Int} {xs : List D} (R : Row n hts st hst xs) (o5 o6 o7 : Option D) : ∀ (ys : List D) (o2 o3 o4 : Option D), (∀ y ∈ ys, y ∈ xs) → ∃ o2' o3' o4', runFor (gN 2) outB ys [some (.int n), some (.lst xs), o2, o3, o4, o5, o6, o7] S = .nx [some (.int n), some (.lst xs), o2', o3', o4', o5, o6, o7] S
  | [], o2, o3, o4, _ => ⟨o2, o3, o4, rfl⟩
  | y :: ys, o2, o3, o4, h => by
    have hy := h y List.mem_cons_self
    have G := R.good y hy
    have t1 : mBool (m2 (dIs false) (mN m_is_above (mCons (mVar 2) (mCons (mVar 2) (mNil)))) (mK (.bl true))) [some (.int n), some (.lst xs), some y, o3, o4, o5, o6, o7] S = .ok false S := by
      refine mBool_ok (m2_ok (mN_ok (mCons_ok (mVar_ok rfl) (mCons_ok (mVar_ok rfl) rfl)) (above_at G G)) rfl ?_)
      rw [geAll_refl]
      rfl
    have t2 : mBool (m2 (dIs false) (mN m_is_above (mCons (mN m_straight_pairing (mCons (mVar 0) (mNil))) (mCons (mVar 2) (mNil)))) (mK (.bl true))) [some (.int n), some (.lst xs), some y, o3, o4, o5, o6, o7] S = .ok false S := by
      refine mBool_ok (m2_ok (mN_ok (mCons_ok (mN_ok (mCons_ok (mVar_ok rfl) rfl) (pureF_any R.strt)) (mCons_ok (mVar_ok rfl) rfl)) (above_at R.gst G)) rfl ?_)
      rw [R.top y hy]
      rfl
    have eT : outT [some (.int n), some (.lst xs), some y, o3, o4, o5, o6, o7] S = .nx [some (.int n), some (.lst xs), some y, o3, o4, o5, o6, o7] S := (mIf_f (by rw [mOrT_f t1, t2])).trans rfl
    obtain ⟨a3, a4, e1⟩ := in_all (S := S) R hy (some (.lst xs)) o5 o6 o7 xs o3 o4 fun z hz => hz
    obtain ⟨b2, b3, b4, e2⟩ := out_all R o5 o6 o7 ys (some y) a3 a4 fun z hz => h z (List.mem_cons_of_mem _ hz)
    refine ⟨b2, b3, b4, (runFor_cons (σ1 := [some (.int n), some (.lst xs), some y, o3, o4, o5, o6, o7]) rfl ?_).trans e2⟩
    unfold outB
    rw [mSeq_nx eT]
    exact mFor_ok (items := xs) rfl e1
theorem pure_all {xs : List D} : (∀ x ∈ xs, x.pure = true) → pureAll xs = true := by
  induction xs with
  | nil => intro _; rfl
  | cons x xs ih => intro h; rw [pureAll, h x List.mem_cons_self, ih fun y hy => h y (List.mem_cons_of_mem _ hy)]; rfl
theorem atI_nat {xs : List D} {i : Nat} {d : D} (h : xs[i]? = some d) : atI xs (i : Int) = some d := by
  have hi : i < xs.length := (List.getElem?_eq_some_iff.mp h).1
  unfold atI ixN
  rw [if_pos (by omega), if_pos (by omega)]
  show xs[(i : Int).toNat]? = _
  rw [Int.toNat_natCast, h]
theorem dIx_lst {xs : List D} {i : Int} {d : D} (h : atI xs i = some d) : dIx (.lst xs) (.int i) S = .ok d S := by simp [dIx, or2, ixSeq, rdS, rdL, h, R.or]
theorem par_at {x y z : D} {xs : List D} {o0 b2 b3 b4 b5 b6 b7 : Option D} : mPar3 5 6 7 (mCons (m2 dIx (mVar 1) (mK (.int 0))) (mCons (m2 dIx (mVar 1) (mK (.int 1))) (mCons (m2 dIx (mVar 1) (mK (.int 2))) (mNil)))) [o0, some (.lst (x :: y :: z :: xs)), b2, b3, b4, b5, b6, b7] S = .nx [o0, some (.lst (x :: y :: z :: xs)), b2, b3, b4, some x, some y, some z] S := by
  have a0 : atI (x :: y :: z :: xs) 0 = some x := atI_nat (i := 0) rfl
  have a1 : atI (x :: y :: z :: xs) 1 = some y := atI_nat (i := 1) rfl
  have a2 : atI (x :: y :: z :: xs) 2 = some z := atI_nat (i := 2) rfl
  unfold mPar3
  rw [mCons_ok (m2_ok rfl rfl (dIx_lst a0)) (mCons_ok (m2_ok rfl rfl (dIx_lst a1)) (mCons_ok (m2_ok rfl rfl (dIx_lst a2)) rfl))]
  rfl
theorem order_at {hts : D → List Int} {st : D} {hst : List Int} {x y z : D} {xs : List D} (R : Row n hts st hst (x :: y :: z :: xs)) : m_w_order_right [.int n, .lst (x :: y :: z :: xs)] S = .ok (.bl true) S := by
  have Gx := R.good x (by simp)
  have Gy := R.good y (by simp)
  have Gz := R.good z (by simp)
  have hp : pureAll (x :: y :: z :: xs) = true := pure_all fun p hp => (R.good p hp).pure
  refine call_pure rfl (by simp only [pureAll, D.pure, Bool.and_true, Bool.true_and]; exact hp) (d := .bl true) (S1 := []) ?_ rfl
  rw [ordB_eq]
  unfold ordB
  obtain ⟨b2, b3, b4, e⟩ := out_all (S := []) R none none none (x :: y :: z :: xs) none none none fun z hz => hz
  refine (mSeq_nx (mFor_ok (items := x :: y :: z :: xs) rfl e)).trans ?_
  refine (mSeq_nx (show mPar3 5 6 7 _ _ _ = .nx [some (.int n), some (.lst (x :: y :: z :: xs)), b2, b3, b4, some x, some y, some z] [] from par_at)).trans ?_
  refine mRet_ok ?_
  have e1 : mN m_is_above (mCons (mVar 5) (mCons (mVar 7) (mNil))) [some (.int n), some (.lst (x :: y :: z :: xs)), b2, b3, b4, some x, some y, some z] [] = .ok (.bl (geAll (hts x) (hts z))) [] := mN_ok (mCons_ok (mVar_ok rfl) (mCons_ok (mVar_ok rfl) rfl)) (above_at Gx Gz)
  have e2 : mN m_is_above (mCons (mVar 5) (mCons (mVar 6) (mNil))) [some (.int n), some (.lst (x :: y :: z :: xs)), b2, b3, b4, some x, some y, some z] [] = .ok (.bl (geAll (hts x) (hts y))) [] := mN_ok (mCons_ok (mVar_ok rfl) (mCons_ok (mVar_ok rfl) rfl)) (above_at Gx Gy)
  have e3 : mN m_is_above (mCons (mVar 6) (mCons (mVar 7) (mNil))) [some (.int n), some (.lst (x :: y :: z :: xs)), b2, b3, b4, some x, some y, some z] [] = .ok (.bl (geAll (hts y) (hts z))) [] := mN_ok (mCons_ok (mVar_ok rfl) (mCons_ok (mVar_ok rfl) rfl)) (above_at Gy Gz)
  unfold mOr
  rw [e1]
  simp only [MM.R.bind]
  cases h : geAll (hts x) (hts z) with
  | true => rfl
  | false =>
    dsimp only
    unfold mNot mAnd
    rw [e2]
    simp only [MM.R.bind]
    cases h1 : geAll (hts x) (hts y) with
    | false => rfl
    | true =>
      dsimp only
      rw [e3]
      cases h2 : geAll (hts y) (hts z) with
      | false => rfl
      | true =>
        rw [geAll_trans (Gx.len.trans Gy.len.symm) (Gy.len.trans Gz.len.symm) h1 h2] at h
        cases h
end
/-! ### all pairings, looked through -/
def intsOf : List D → Option (List Int)
  | [] => some []
  | .int i :: ds => (intsOf ds).map (i :: ·)
  | _ => none
theorem intsOf_ok : ∀ {ds : List D} {ns : List Int}, intsOf ds = some ns → ds = nums ns
  | [], ns, h => by cases h; rfl
  | .int i :: ds, ns, h => by
    simp only [intsOf, Option.map_eq_some_iff] at h
    obtain ⟨ms, h1, rfl⟩ := h
    rw [intsOf_ok h1]
    rfl
  | .non :: _, _, h => by cases h
  | .bl _ :: _, _, h => by cases h
  | .str _ :: _, _, h => by cases h
  | .tup _ :: _, _, h => by cases h
  | .lst _ :: _, _, h => by cases h
  | .scr _ :: _, _, h => by cases h
  | .ref _ :: _, _, h => by cases h
def tupOf : R D → Option (List Int)
  | .ok (.tup ds) [] => intsOf ds
  | _ => none
theorem tupOf_ok {r : R D} {ns : List Int} (h : tupOf r = some ns) : r = .ok (.tup (nums ns)) [] := by
  unfold tupOf at h
  split at h
  · rw [intsOf_ok h]
  · cases h
def isNon : R D → Bool
  | .ok .non [] => true
  | _ => false
def isTrue1 : R D → Bool
  | .ok (.bl true) [] => true
  | _ => false
theorem isNon_ok {r : R D} (h : isNon r = true) : r = .ok .non [] := by
  unfold isNon at h; split at h
  · rfl
  · cases h
theorem isTrue1_ok {r : R D} (h : isTrue1 r = true) : r = .ok (.bl true) [] := by
  unfold isTrue1 at h; split at h
  · rfl
  · cases h
def htsOf (n : Nat) (p : D) : List Int := (tupOf (m_w_heights [.int n, p] [])).getD []
def tupN (n : Nat) : D → Bool
  | .tup xs => xs.length == n
  | _ => false
def goodB (n : Nat) (p : D) : Bool := p.pure && p.shal 40 && tupN n p && isNon (m_need_pairing [p] []) && (tupOf (m_heights [p] []) == some (htsOf n p)) && (tupOf (m_w_heights [.int n, p] [])).isSome && ((htsOf n p).length == 2 * n + 1) && decide (n ≤ 100)
theorem goodB_ok {n : Nat} {p : D} (h : goodB n p = true) : Good n p (htsOf n p) := by
  unfold goodB at h
  simp only [Bool.and_eq_true, beq_iff_eq, decide_eq_true_eq] at h
  obtain ⟨⟨⟨⟨⟨⟨⟨h1, h2⟩, h3⟩, h4⟩, h5⟩, h6⟩, h7⟩, h8⟩ := h
  refine ⟨h1, h2, ?_, isNon_ok h4, tupOf_ok h5, ?_, h7, h8⟩
  · cases p with
    | tup xs => exact ⟨xs, rfl, by simpa [tupN] using h3⟩
    | _ => cases h3
  · obtain ⟨ns, hn⟩ := Option.isSome_iff_exists.mp h6
    have : htsOf n p = ns := by unfold htsOf; rw [hn]; rfl
    rw [this]
    exact tupOf_ok hn
def pwB {α : Type} (f : α → α → Bool) : List α → Bool
  | [] => true
  | x :: xs => xs.all (f x) && pwB f xs
theorem pwB_ok {α : Type} {f : α → α → Bool} {P : α → α → Prop} (hr : ∀ x, P x x) (hs : ∀ x y, P x y → P y x) (hf : ∀ x y, f x y = true → P x y) : ∀ {xs : List α}, pwB f xs = true → ∀ x ∈ xs, ∀ y ∈ xs, P x y
  | [], _, x, hx, _, _ => by cases hx
  | a :: xs, h, x, hx, y, hy => by
    rw [pwB, Bool.and_eq_true, List.all_eq_true] at h
    rcases List.mem_cons.mp hx with e | hx'
    · rcases List.mem_cons.mp hy with e' | hy'
      · rw [e, e']; exact hr _
      · rw [e]; exact hf _ _ (h.1 y hy')
    · rcases List.mem_cons.mp hy with e' | hy'
      · rw [e']; exact hs _ _ (hf _ _ (h.1 x hx'))
      · exact pwB_ok hr hs hf h.2 x hx' y hy'

def chk1 (n : Nat) (ps : List D) : Bool := ps.all fun p => goodB n p && isTrue1 (m_w_one_right [.int n, p] [])
def chk2 (n : Nat) (ps : List D) : Bool := match m_straight_pairing [.int n] [] with
  | .ok st [] => goodB n st && ps.all fun p => geAll (htsOf n st) (htsOf n p)
  | _ => false
def chk3 (n : Nat) (ps : List D) : Bool := pwB (fun p q => !eqD p q && (!eqD q p && !(htsOf n p == htsOf n q))) ps
def chk (n : Nat) : Bool := match m_w_all [.int n] [] with
  | .ok (.lst ps) [] => !ps.isEmpty && (decide (ps.length ≤ 1000) && (chk1 n ps && (chk2 n ps && chk3 n ps)))
  | _ => false
end LW

set_option Elab.async false
set_option linter.all false
set_option maxRecDepth 100000
/-! The law: its own body. -/
namespace LW
open PySem MM L2

abbrev dS (cells : List Int) (x : Int) (T : Store) : Store := deckS "stirred" cells x T
theorem hf0 : (Sum.inr ("cells" : Str) : Key) ≠ .inr "stirred" := by decide +kernel
theorem deck_eq : m_w_deck = mDefQ 1 4 (deckB "stirred" 1087517 48271 2147483563 19 2147483647 63) := rfl
theorem draw_eq : m_w_draw = drawM "stirred" := rfl
theorem pick_eq : m_w_pick = mDefQ 2 2 (pickB (drawM "stirred")) := rfl
structure Every (n : Nat) (ps : List D) : Prop where
  all : m_w_all [.int n] [] = .ok (.lst ps) []
  ne : ps ≠ []
  len : ps.length ≤ 1000
  good : ∀ p ∈ ps, Good n p (htsOf n p)
  right : ∀ p ∈ ps, m_w_one_right [.int n, p] [] = .ok (.bl true) []
  cmp : ∀ p ∈ ps, ∀ q ∈ ps, eqD p q = decide (htsOf n p = htsOf n q)
  st : ∃ st, m_straight_pairing [.int n] [] = .ok st [] ∧ Good n st (htsOf n st) ∧ ∀ p ∈ ps, geAll (htsOf n st) (htsOf n p) = true
theorem every_of {n : Nat} (h : chk n = true) : ∃ ps, Every n ps := by
  unfold chk at h
  split at h
  · rename_i ps e
    rw [Bool.and_eq_true, Bool.and_eq_true, Bool.and_eq_true, Bool.and_eq_true, decide_eq_true_eq] at h
    obtain ⟨h1, h2, h3, h4, h5⟩ := h
    have g : ∀ p ∈ ps, Good n p (htsOf n p) ∧ m_w_one_right [.int n, p] [] = .ok (.bl true) [] := fun p hp => by
      unfold chk1 at h3
      have := List.all_eq_true.mp h3 p hp
      rw [Bool.and_eq_true] at this
      exact ⟨goodB_ok this.1, isTrue1_ok this.2⟩
    refine ⟨ps, e, (fun z => by rw [z] at h1; cases h1), h2, fun p hp => (g p hp).1, fun p hp => (g p hp).2, fun p hp q hq => ?_, ?_⟩
    · have main : p = q ∨ (eqD p q = false ∧ eqD q p = false ∧ htsOf n p ≠ htsOf n q) := by
        refine pwB_ok (P := fun p q => p = q ∨ (eqD p q = false ∧ eqD q p = false ∧ htsOf n p ≠ htsOf n q)) (fun x => .inl rfl) (fun x y h => ?_) (fun x y h => ?_) h5 p hp q hq
        · rcases h with h | ⟨h1, h2, h3⟩
          · exact .inl h.symm
          · exact .inr ⟨h2, h1, fun e => h3 e.symm⟩
        · simp only [Bool.and_eq_true, Bool.not_eq_true'] at h
          refine .inr ⟨h.1, h.2.1, fun e => ?_⟩
          have h3 := h.2.2
          rw [e] at h3
          simp at h3
      rcases main with rfl | ⟨h1, h2, h3⟩
      · rw [eqD_refl (g p hp).1.pure]
        simp
      · rw [h1, decide_eq_false h3]
    · unfold chk2 at h4
      split at h4
      · rename_i st e2
        rw [Bool.and_eq_true] at h4
        exact ⟨st, e2, goodB_ok h4.1, fun p hp => List.all_eq_true.mp h4.2 p hp⟩
      · cases h4
  · cases h
theorem Every.row {n : Nat} {ps xs : List D} (E : Every n ps) (h : ∀ x ∈ xs, x ∈ ps) : ∃ st, Row n (htsOf n) st (htsOf n st) xs := by
  obtain ⟨st, h1, h2, h3⟩ := E.st
  exact ⟨st, fun p hp => E.good p (h p hp), fun p hp q hq => E.cmp p (h p hp) q (h q hq), fun p hp => h3 p (h p hp), h1, h2⟩
section
variable {n : Nat} {ps : List D} {cells : List Int} {x : Int} {T : Store}
theorem pick1 {xs : List D} {σ : Sg} {e : ME} (hd : σ[1]? = some (some (.ref 1))) (he : e σ (dS cells x T) = .ok (.lst xs) (dS cells x T)) (h1 : xs ≠ []) (h2 : xs.length ≤ 1000) (hl : cells.length ≤ 1000) :
    ∃ y cells' x', mN m_w_pick (mCons (mVar 1) (mCons e (mNil))) σ (dS cells x T) = .ok y (dS cells' x' T) ∧ cells'.length ≤ 1000 ∧ y ∈ xs := by
  obtain ⟨y, cells', x', h, hc, hm⟩ := pick_ok (fld := "stirred") (x := x) (T := T) hf0 h1 (by omega) hl
  exact ⟨y, cells', x', mN_ok (mCons_ok (mVar_ok hd) (mCons_ok he rfl)) h, by omega, hm⟩
theorem picks {σ : Sg} (E : Every n ps) (hd : σ[1]? = some (some (.ref 1))) (h3 : σ[3]? = some (some (.lst ps))) : ∀ (is : List D) (cells : List Int) (x : Int), cells.length ≤ 1000 → ∃ ys cells' x', runLc σ (gN 5) mYes (mN m_w_pick (mCons (mVar 1) (mCons (mVar 3) (mNil)))) is (dS cells x T) = .ok ys (dS cells' x' T) ∧ cells'.length ≤ 1000 ∧ ys.length = is.length ∧ ∀ y ∈ ys, y ∈ ps
  | [], cells, x, hl => ⟨[], cells, x, rfl, hl, rfl, fun y hy => by cases hy⟩
  | i :: is, cells, x, hl => by
    obtain ⟨y, c1, x1, e1, hl1, hm⟩ := pick1 (σ := σ.set 5 (some i)) (T := T) (cells := cells) (x := x) (e := mVar 3) (by rw [List.getElem?_set_ne (by decide)]; exact hd) (mVar_ok (by rw [List.getElem?_set_ne (by decide)]; exact h3)) E.ne E.len hl
    obtain ⟨ys, c2, x2, e2, hl2, hn, hm2⟩ := picks E hd h3 is c1 x1 hl1
    refine ⟨y :: ys, c2, x2, runLc_cons (σ1 := σ.set 5 (some i)) rfl rfl e1 e2, hl2, by simp [hn], fun z hz => ?_⟩
    rcases List.mem_cons.mp hz with rfl | hz
    · exact hm
    · exact hm2 z hz
/-- those above a given one -/
theorem above_row (E : Every n ps) {σ : Sg} {S : Store} {i : ME} {a : D} (ha : a ∈ ps) (h2 : σ[2]? = some (some (.int n))) (hl : 6 < σ.length) (hi : ∀ d : D, i (σ.set 6 (some d)) S = .ok a S) : ∀ qs : List D, (∀ q ∈ qs, q ∈ ps) →
    runLc σ (gN 6) (mBool (mN m_w_over_one (mCons (mVar 2) (mCons i (mCons (mVar 6) (mNil)))))) (mVar 6) qs S = .ok (qs.filter fun q => geAll (htsOf n a) (htsOf n q)) S
  | [], _ => rfl
  | q :: qs, h => by
    have ih := above_row E ha h2 hl hi qs fun z hz => h z (List.mem_cons_of_mem _ hz)
    have hq := h q List.mem_cons_self
    have e6 : (σ.set 6 (some q))[6]? = some (some q) := List.getElem?_set_self hl
    have t : mBool (mN m_w_over_one (mCons (mVar 2) (mCons i (mCons (mVar 6) (mNil))))) (σ.set 6 (some q)) S = .ok (geAll (htsOf n a) (htsOf n q)) S :=
      mBool_ok (mN_ok (mCons_ok (mVar_ok (by rw [List.getElem?_set_ne (by decide)]; exact h2)) (mCons_ok (hi q) (mCons_ok (mVar_ok e6) rfl))) (over_at (E.good a ha) (E.good q hq)))
    by_cases hc : geAll (htsOf n a) (htsOf n q) = true
    · rw [List.filter_cons_of_pos (p := fun q => geAll (htsOf n a) (htsOf n q)) hc]
      exact runLc_cons (σ1 := σ.set 6 (some q)) rfl (by rw [t, hc]) (mVar_ok e6) ih
    · rw [List.filter_cons_of_neg (p := fun q => geAll (htsOf n a) (htsOf n q)) hc]
      exact runLc_skip (σ1 := σ.set 6 (some q)) rfl (by rw [t, Bool.eq_false_iff.mpr hc]) ih
/-- none is wrong -/
theorem right_row (E : Every n ps) {σ : Sg} {S : Store} (h2 : σ[2]? = some (some (.int n))) (hl : 6 < σ.length) : ∀ qs : List D, (∀ q ∈ qs, q ∈ ps) →
    runLc σ (gN 6) (mNotT (mBool (mN m_w_one_right (mCons (mVar 2) (mCons (mVar 6) (mNil)))))) (mVar 6) qs S = .ok [] S
  | [], _ => rfl
  | q :: qs, h => by
    have ih := right_row (S := S) E h2 hl qs fun z hz => h z (List.mem_cons_of_mem _ hz)
    have hq := h q List.mem_cons_self
    have e6 : (σ.set 6 (some q))[6]? = some (some q) := List.getElem?_set_self hl
    have t : mBool (mN m_w_one_right (mCons (mVar 2) (mCons (mVar 6) (mNil)))) (σ.set 6 (some q)) S = .ok true S :=
      mBool_ok (mN_ok (mCons_ok (mVar_ok (by rw [List.getElem?_set_ne (by decide)]; exact h2)) (mCons_ok (mVar_ok e6) rfl)) (pureF_any (E.right q hq)))
    exact runLc_skip (σ1 := σ.set 6 (some q)) rfl (by unfold mNotT; rw [t]; rfl) ih

theorem upTo (E : Every n ps) {a : D} (ha : a ∈ ps) : (ps.filter fun q => geAll (htsOf n a) (htsOf n q)) ≠ [] ∧ (ps.filter fun q => geAll (htsOf n a) (htsOf n q)).length ≤ 1000 := by
  refine ⟨fun z => ?_, Nat.le_trans (List.length_filter_le _ _) E.len⟩
  have := List.filter_eq_nil_iff.mp z a ha
  exact this (geAll_refl _)
def lawA : MS := mAsg (mN m_w_all (mCons (mVar 2) (mNil))) (gN 3)
def lawB : MS := mAsg (mLcM [5] (miRng1 (mCons (mK (.int 3)) (mNil))) (gN 5) (mYes) (mN m_w_pick (mCons (mVar 1) (mCons (mVar 3) (mNil))))) (gN 4)
def lawC (i j : Int) : MS := mAsg (mN m_w_pick (mCons (mVar 1) (mCons (mLc [6] (miSeq (mVar 3)) (gN 6) (mBool (mN m_w_over_one (mCons (mVar 2) (mCons (m2 dIx (mVar 4) (mK (.int i))) (mCons (mVar 6) (mNil)))))) (mVar 6)) (mNil)))) (MM.gSub (mVar 4) (mK (.int j)))
def lawD : MS := mAsg (m2 (dAdd false) (mVar 4) (mLst (mCons (mN m_w_pick (mCons (mVar 1) (mCons (mVar 3) (mNil)))) (mCons (mN m_w_pick (mCons (mVar 1) (mCons (mVar 3) (mNil)))) (mNil))))) (gN 4)
def lawE : MS := mIf (mNotT (mBool (mN m_is_above (mCons (m2 dIx (mVar 4) (mK (.int 0))) (mCons (m2 dIx (mVar 4) (mK (.int 2))) (mNil)))))) (mRet (mK (.bl false))) (mSkip)
def lawF : MS := mIf (mOrT (mBool (m2 dNe (mLc [6] (miSeq (mVar 4)) (gN 6) (mNotT (mBool (mN m_w_one_right (mCons (mVar 2) (mCons (mVar 6) (mNil)))))) (mVar 6)) (mLst (mNil)))) (mNotT (mBool (mN m_w_order_right (mCons (mVar 2) (mCons (mFrz (mVar 4)) (mNil))))))) (mRet (mK (.bl false))) (mSkip)
def lawG : MS := mRet (mN m_w_order_right (mCons (mVar 2) (mCons (m2 (dAdd false) (mSl false (mVar 4) (mpS (mK (.int 2))) mpN) (mSl false (mVar 4) mpN (mpS (mK (.int 1))))) (mNil))))
def lawRest : MS := mSeq lawA (mSeq lawB (mSeq (lawC 0 1) (mSeq (lawC 1 2) (mSeq lawD (mSeq lawE (mSeq lawF lawG))))))
def lawHead : MS := mAsg (mIfE (mOrT (mBool (m2 dLt (mVar 2) (mK (.int 4)))) (mBool (m2 dGt (mN m_w_draw (mCons (mVar 1) (mCons (mK (.int 4)) (mNil)))) (mK (.int 0))))) (mVar 2) (mN m_w_pick (mCons (mVar 1) (mCons (mLst (mCons (mK (.int 5)) (mCons (mK (.int 6)) (mNil)))) (mNil))))) (gN 2)
def lawTop : MS := mSeq (mAsg (mN m_w_deck (mCons (mVar 0) (mNil))) (gN 1)) (mSeq (mAsg (m2 (dAdd false) (mK (.int 1)) (mN m_w_draw (mCons (mVar 1) (mCons (mK (.int 4)) (mNil))))) (gN 2)) (mSeq lawHead lawRest))
theorem law_eq : b_law = lawTop := rfl
theorem ix_cell {xs : List D} {S : Store} {l i : Nat} {d : D} (h : S[l]? = some (.lst xs)) (hi : xs[i]? = some d) : dIx (.ref l) (.int i) S = .ok d S := by
  have := atI_nat hi
  simp [dIx, or2, ixSeq, rdS, rdL, h, this, R.or]
theorem setL_ok {xs : List D} {S : Store} {l j : Nat} {k : Int} {v : D} (h : S[l]? = some (.lst xs)) (hk : ixN xs.length k = some j) : setL (.ref l) (.int k) v S = .ok () (S.set l (.lst (xs.set j v))) := by
  unfold setL
  simp only [h, hk]
/-- one pick above the one at place i, put to place j -/
theorem law_c (E : Every n ps) {o0 o5 o6 : Option D} {xs : List D} {a : D} {i j : Nat} (ha : xs[i]? = some a) (hap : a ∈ ps) (hj : j < xs.length) (hl : cells.length ≤ 1000) : ∃ b cells' x', lawC i j [o0, some (.ref 1), some (.int n), some (.lst ps), some (.ref 2), o5, o6] (dS cells x [.lst xs]) = .nx [o0, some (.ref 1), some (.int n), some (.lst ps), some (.ref 2), o5, o6] (dS cells' x' [.lst (xs.set j b)]) ∧ cells'.length ≤ 1000 ∧ b ∈ ps ∧ geAll (htsOf n a) (htsOf n b) = true := by
  obtain ⟨u1, u2⟩ := upTo E hap
  have hi : ∀ (d : D), m2 dIx (mVar 4) (mK (.int i)) ((wipeM [o0, some (.ref 1), some (.int n), some (.lst ps), some (.ref 2), o5, o6] [6]).set 6 (some d)) (dS cells x [.lst xs]) = .ok a (dS cells x [.lst xs]) := fun d => m2_ok (mVar_ok rfl) rfl (ix_cell (l := 2) rfl ha)
  have e1 : mLc [6] (miSeq (mVar 3)) (gN 6) (mBool (mN m_w_over_one (mCons (mVar 2) (mCons (m2 dIx (mVar 4) (mK (.int i))) (mCons (mVar 6) (mNil)))))) (mVar 6) [o0, some (.ref 1), some (.int n), some (.lst ps), some (.ref 2), o5, o6] (dS cells x [.lst xs]) = .ok (.lst (ps.filter fun q => geAll (htsOf n a) (htsOf n q))) (dS cells x [.lst xs]) :=
    mLc_ok (items := ps) rfl (Nat.le_trans E.len (by decide)) (above_row E hap rfl (by simp [wipeM]) hi ps fun q hq => hq)
  obtain ⟨b, c1, x1, e2, hl1, hm⟩ := pick1 (σ := [o0, some (.ref 1), some (.int n), some (.lst ps), some (.ref 2), o5, o6]) (T := [.lst xs]) rfl e1 u1 u2 hl
  have hb := List.mem_filter.mp hm
  refine ⟨b, c1, x1, mAsg_ok e2 ?_, hl1, hb.1, hb.2⟩
  have hix : ixN xs.length (j : Int) = some j := by
    unfold ixN
    rw [if_pos (by omega), if_pos (by omega), Int.toNat_natCast]
  unfold MM.gSub
  rw [show mVar 4 [o0, some (.ref 1), some (.int n), some (.lst ps), some (.ref 2), o5, o6] (dS c1 x1 [.lst xs]) = .ok (.ref 2) (dS c1 x1 [.lst xs]) from rfl]
  simp only [R.bind, mK]
  rw [setL_ok (xs := xs) rfl hix]
  rfl
theorem rest_ok (E : Every n ps) {o0 : Option D} (hl : cells.length ≤ 1000) : ∃ S', lawRest [o0, some (.ref 1), some (.int n), none, none, none, none] (dS cells x []) = .rt (.bl true) S' := by
  unfold lawRest
  have eA : lawA [o0, some (.ref 1), some (.int n), none, none, none, none] (dS cells x []) = .nx [o0, some (.ref 1), some (.int n), some (.lst ps), none, none, none] (dS cells x []) := mAsg_ok (mN_ok (mCons_ok (mVar_ok rfl) rfl) (pureF_any E.all)) rfl
  rw [mSeq_nx eA]
  -- three picks
  obtain ⟨ys, c1, x1, e1, hl1, hn, hm⟩ := picks (T := []) (σ := wipeM [o0, some (.ref 1), some (.int n), some (.lst ps), none, none, none] [5]) E rfl rfl (rngItems 0 3) cells x hl
  obtain ⟨a, b, c, rfl⟩ : ∃ a b c, ys = [a, b, c] := by
    match ys, hn with
    | [a, b, c], _ => exact ⟨a, b, c, rfl⟩
  have eB : lawB [o0, some (.ref 1), some (.int n), some (.lst ps), none, none, none] (dS cells x []) = .nx [o0, some (.ref 1), some (.int n), some (.lst ps), some (.ref 2), none, none] (dS c1 x1 [.lst [a, b, c]]) := by
    refine mAsg_ok (mLcM_ok (items := rngItems 0 3) (miRng1_ok (j := 3) rfl (by decide)) (by decide) e1) rfl
  rw [mSeq_nx eB]
  have ha : a ∈ ps := hm a (by simp)
  obtain ⟨b1, c2, x2, e2, hl2, hb1, g1⟩ := law_c (o0 := o0) (o5 := none) (o6 := none) (xs := [a, b, c]) (i := 0) (j := 1) (x := x1) E rfl ha (by simp) hl1
  refine (show (∃ S', mSeq (lawC ((0 : Nat) : Int) ((1 : Nat) : Int)) (mSeq (lawC ((1 : Nat) : Int) ((2 : Nat) : Int)) (mSeq lawD (mSeq lawE (mSeq lawF lawG)))) _ _ = .rt (.bl true) S') from ?_)
  rw [mSeq_nx e2]
  obtain ⟨b2, c3, x3, e3, hl3, hb2, g2⟩ := law_c (o0 := o0) (o5 := none) (o6 := none) (xs := [a, b1, c]) (i := 1) (j := 2) (x := x2) E rfl hb1 (by simp) hl2
  rw [show ([a, b, c].set 1 b1) = [a, b1, c] from rfl, mSeq_nx e3]
  rw [show ([a, b1, c].set 2 b2) = [a, b1, b2] from rfl]
  obtain ⟨d, c4, x4, e4, hl4, hd⟩ := pick1 (σ := [o0, some (.ref 1), some (.int n), some (.lst ps), some (.ref 2), none, none]) (T := [.lst [a, b1, b2]]) (x := x3) (e := mVar 3) rfl (mVar_ok rfl) E.ne E.len hl3
  obtain ⟨e, c5, x5, e5, hl5, he⟩ := pick1 (σ := [o0, some (.ref 1), some (.int n), some (.lst ps), some (.ref 2), none, none]) (T := [.lst [a, b1, b2]]) (x := x4) (e := mVar 3) rfl (mVar_ok rfl) E.ne E.len hl4
  have eD : lawD [o0, some (.ref 1), some (.int n), some (.lst ps), some (.ref 2), none, none] (dS c3 x3 [.lst [a, b1, b2]]) = .nx [o0, some (.ref 1), some (.int n), some (.lst ps), some (.lst [a, b1, b2, d, e]), none, none] (dS c5 x5 [.lst [a, b1, b2]]) := by
    refine mAsg_ok (m2_ok (mVar_ok rfl) (y := .lst [d, e]) (S2 := dS c5 x5 [.lst [a, b1, b2]]) ?_ ?_) rfl
    · unfold mLst
      rw [mCons_ok e4 (mCons_ok e5 rfl)]
      rfl
    · rfl
  rw [mSeq_nx eD]
  have G : ∀ p ∈ [a, b1, b2, d, e], p ∈ ps := fun p hp => by
    simp only [List.mem_cons, List.not_mem_nil, or_false] at hp
    rcases hp with rfl | rfl | rfl | rfl | rfl
    · exact ha
    · exact hb1
    · exact hb2
    · exact hd
    · exact he
  have Ga := E.good a ha
  have Gb1 := E.good b1 hb1
  have Gb2 := E.good b2 hb2
  have i0 : dIx (.lst [a, b1, b2, d, e]) (.int 0) (dS c5 x5 [.lst [a, b1, b2]]) = .ok a (dS c5 x5 [.lst [a, b1, b2]]) := dIx_lst (atI_nat (i := 0) rfl)
  have i2 : dIx (.lst [a, b1, b2, d, e]) (.int 2) (dS c5 x5 [.lst [a, b1, b2]]) = .ok b2 (dS c5 x5 [.lst [a, b1, b2]]) := dIx_lst (atI_nat (i := 2) rfl)
  have eE : lawE [o0, some (.ref 1), some (.int n), some (.lst ps), some (.lst [a, b1, b2, d, e]), none, none] (dS c5 x5 [.lst [a, b1, b2]]) = .nx [o0, some (.ref 1), some (.int n), some (.lst ps), some (.lst [a, b1, b2, d, e]), none, none] (dS c5 x5 [.lst [a, b1, b2]]) := by
    refine (mIf_f ?_).trans rfl
    unfold mNotT
    rw [mBool_ok (mN_ok (mCons_ok (m2_ok (mVar_ok rfl) rfl i0) (mCons_ok (m2_ok (mVar_ok rfl) rfl i2) rfl)) (above_at Ga Gb2)), geAll_trans (Ga.len.trans Gb1.len.symm) (Gb1.len.trans Gb2.len.symm) g1 g2]
    rfl
  rw [mSeq_nx eE]
  obtain ⟨st1, R1⟩ := E.row G
  have eF : lawF [o0, some (.ref 1), some (.int n), some (.lst ps), some (.lst [a, b1, b2, d, e]), none, none] (dS c5 x5 [.lst [a, b1, b2]]) = .nx [o0, some (.ref 1), some (.int n), some (.lst ps), some (.lst [a, b1, b2, d, e]), none, none] (dS c5 x5 [.lst [a, b1, b2]]) := by
    refine (mIf_f ?_).trans rfl
    rw [mOrT_f (mBool_ok (m2_ok (mLc_ok (items := [a, b1, b2, d, e]) rfl (by simp) (right_row E rfl (by simp [wipeM]) _ G)) rfl (show dNe (.lst []) (.lst []) (dS c5 x5 [.lst [a, b1, b2]]) = .ok (.bl false) (dS c5 x5 [.lst [a, b1, b2]]) from rfl)))]
    unfold mNotT
    rw [mBool_ok (mN_ok (mCons_ok (mVar_ok rfl) (mCons_ok (x := .lst [a, b1, b2, d, e]) (S1 := dS c5 x5 [.lst [a, b1, b2]]) (show mFrz (mVar 4) _ _ = _ from rfl) rfl)) (order_at R1))]
    rfl
  rw [mSeq_nx eF]
  obtain ⟨st2, R2⟩ := E.row (xs := [b2, d, e, a]) fun p hp => G p (by
    simp only [List.mem_cons, List.not_mem_nil, or_false] at hp ⊢
    rcases hp with h | h | h | h <;> simp [h])
  refine ⟨_, mRet_ok (mN_ok (mCons_ok (mVar_ok rfl) (mCons_ok (x := .lst [b2, d, e, a]) (S1 := dS c5 x5 [.lst [a, b1, b2]]) ?_ rfl)) (order_at R2))⟩
  rfl

theorem head_ok {o0 : Option D} {v : Nat} (hv : v < 4) (hl : cells.length ≤ 1000) : ∃ (k : Nat) (cells' : List Int) (x' : Int), 1 ≤ k ∧ k ≤ 6 ∧ cells'.length ≤ 1000 ∧
    lawHead [o0, some (.ref 1), some (.int ((1 + v : Nat) : Int)), none, none, none, none] (dS cells x []) = .nx [o0, some (.ref 1), some (.int k), none, none, none, none] (dS cells' x' []) := by
  by_cases h3 : v < 3
  · refine ⟨1 + v, cells, x, by omega, by omega, hl, ?_⟩
    refine mAsg_ok (x := .int ((1 + v : Nat) : Int)) (S1 := dS cells x []) ?_ rfl
    unfold mIfE
    rw [mOrT_t (S1 := dS cells x []) (mBool_ok (m2_ok (mVar_ok rfl) rfl (show dLt (.int ((1 + v : Nat) : Int)) (.int 4) (dS cells x []) = .ok (.bl true) (dS cells x []) from by
      show R.ok (D.bl (decide (((1 + v : Nat) : Int) < 4))) _ = _
      rw [decide_eq_true (by omega)])))]
    rfl
  · obtain ⟨u, c1, x1, e1, hl1, u0, u1⟩ := draw_ok (fld := "stirred") (b := 4) (x := x) (T := []) (cells := cells) hf0 (by decide) (by decide) hl
    have t1 : mBool (m2 dLt (mVar 2) (mK (.int 4))) [o0, some (.ref 1), some (.int ((1 + v : Nat) : Int)), none, none, none, none] (dS cells x []) = .ok false (dS cells x []) := mBool_ok (m2_ok (mVar_ok rfl) rfl (by
      show R.ok (D.bl (decide (((1 + v : Nat) : Int) < 4))) _ = _
      rw [decide_eq_false (by omega)]))
    have t2 : mBool (m2 dGt (mN m_w_draw (mCons (mVar 1) (mCons (mK (.int 4)) (mNil)))) (mK (.int 0))) [o0, some (.ref 1), some (.int ((1 + v : Nat) : Int)), none, none, none, none] (dS cells x []) = .ok (decide (0 < u)) (dS c1 x1 []) := mBool_ok (m2_ok (mN_ok (mCons_ok (mVar_ok rfl) rfl) e1) rfl rfl)
    by_cases hu : 0 < u
    · refine ⟨1 + v, c1, x1, by omega, by omega, by omega, ?_⟩
      refine mAsg_ok (x := .int ((1 + v : Nat) : Int)) (S1 := dS c1 x1 []) ?_ rfl
      unfold mIfE
      rw [mOrT_f t1, t2, decide_eq_true hu]
      rfl
    · obtain ⟨y, c2, x2, e2, hl2, hy⟩ := pick1 (σ := [o0, some (.ref 1), some (.int ((1 + v : Nat) : Int)), none, none, none, none]) (T := []) (x := x1) (cells := c1) (xs := [.int 5, .int 6]) (e := mLst (mCons (mK (.int 5)) (mCons (mK (.int 6)) (mNil)))) rfl rfl (by simp) (by simp) (by omega)
      have fin : ∀ k : Nat, y = .int k → lawHead [o0, some (.ref 1), some (.int ((1 + v : Nat) : Int)), none, none, none, none] (dS cells x []) = .nx [o0, some (.ref 1), some (.int k), none, none, none, none] (dS c2 x2 []) := fun k hk => by
        refine mAsg_ok (x := y) (S1 := dS c2 x2 []) ?_ (by rw [hk]; rfl)
        unfold mIfE
        rw [mOrT_f t1, t2, decide_eq_false hu]
        exact e2
      simp only [List.mem_cons, List.not_mem_nil, or_false] at hy
      rcases hy with hy | hy
      · exact ⟨5, c2, x2, by omega, by omega, hl2, fin 5 hy⟩
      · exact ⟨6, c2, x2, by omega, by omega, hl2, fin 6 hy⟩
theorem law_of (every : ∀ k : Nat, 1 ≤ k → k ≤ 6 → ∃ ps, Every k ps) (ns : List Int) (h : ns.length ≤ 63) : ∃ S, m_law [.scr (ns.map D.int)] [] = .ok (.bl true) S := by
  obtain ⟨cells, x, e1, hl⟩ := deck_ok (fld := "stirred") (c0 := 1087517) (c1 := 48271) (c2 := 2147483563) (c3 := 19) (c4 := 2147483647) (top := 63) (ns := ns) (by decide) (by decide) (by decide) (by omega) hf0
  obtain ⟨v, c1, x1, e2, hl1, v0, v1⟩ := draw_ok (fld := "stirred") (b := 4) (x := x) (T := []) (cells := cells) hf0 (by decide) (by decide) (by omega)
  obtain ⟨u, rfl⟩ : ∃ u : Nat, v = (u : Int) := ⟨v.toNat, by omega⟩
  obtain ⟨k, c2, x2, k1, k6, hl2, e3⟩ := head_ok (o0 := some (.scr (nums ns))) (v := u) (x := x1) (cells := c1) (by omega) (by omega)
  obtain ⟨ps, E⟩ := every k k1 k6
  obtain ⟨S', e4⟩ := rest_ok (o0 := some (.scr (nums ns))) (x := x2) E hl2
  refine ⟨S', call_plain rfl ?_⟩
  rw [law_eq]
  unfold lawTop
  refine (mSeq_nx (σ' := [some (.scr (nums ns)), some (.ref 1), none, none, none, none, none]) (S' := dS cells x []) (mAsg_ok (mN_ok (mCons_ok (mVar_ok rfl) rfl) e1) rfl)).trans ?_
  refine (mSeq_nx (σ' := [some (.scr (nums ns)), some (.ref 1), some (.int ((1 + u : Nat) : Int)), none, none, none, none]) (S' := dS c1 x1 []) (mAsg_ok (m2_ok rfl (mN_ok (mCons_ok (mVar_ok rfl) rfl) e2) (r := .ok (.int ((1 + u : Nat) : Int)) (dS c1 x1 [])) ?_) rfl)).trans ?_
  · show R.ok (D.int (1 + (u : Int))) _ = _
    rw [show (1 + (u : Int)) = ((1 + u : Nat) : Int) by omega]
  refine (mSeq_nx e3).trans e4
end
end LW

set_option Elab.async false
set_option linter.all false
set_option maxRecDepth 1000000
/-! The pairings of sizes 5 and 6, looked through piece by piece. -/
namespace LW
open PySem MM L2
def mkP (l : List (Nat × Nat)) : D := .tup (l.map fun ab => .tup [.int ab.1, .int ab.2])
def chkP (n : Nat) (tb : List (List (Nat × Nat) × List Int)) : Bool := tb.all fun t => goodB n (mkP t.1) && (isTrue1 (m_w_one_right [.int n, mkP t.1] []) && htsOf n (mkP t.1) == t.2)
def eqN : List (Nat × Nat) → List (Nat × Nat) → Bool
  | [], [] => true
  | a :: l, b :: m => a.1 == b.1 && (a.2 == b.2 && eqN l m)
  | _, _ => false
def chkQ (tb : List (List (Nat × Nat) × List Int)) : Bool := pwB (fun s t => !eqD (mkP s.1) (mkP t.1) && (!eqD (mkP t.1) (mkP s.1) && !(s.2 == t.2))) tb
def chkS (n : Nat) (tb : List (List (Nat × Nat) × List Int)) : Bool := match m_straight_pairing [.int n] [] with
  | .ok st [] => goodB n st && tb.all fun t => geAll (htsOf n st) t.2
  | _ => false
theorem all_split {α : Type} {f : α → Bool} (k : Nat) {l : List α} (h1 : (l.take k).all f = true) (h2 : (l.drop k).all f = true) : l.all f = true := by
  rw [← List.take_append_drop k l, List.all_append, h1, h2]; rfl
theorem every_by {n : Nat} {tb : List (List (Nat × Nat) × List Int)} (hall : m_w_all [.int n] [] = .ok (.lst (tb.map fun t => mkP t.1)) []) (hne : tb ≠ []) (hlen : decide (tb.length ≤ 1000) = true) (hP : chkP n tb = true) (hQ : chkQ tb = true) (hS : chkS n tb = true) : ∃ ps, Every n ps := by
  have g : ∀ t ∈ tb, Good n (mkP t.1) (htsOf n (mkP t.1)) ∧ m_w_one_right [.int n, mkP t.1] [] = .ok (.bl true) [] ∧ htsOf n (mkP t.1) = t.2 := fun t ht => by
    have := List.all_eq_true.mp hP t ht
    rw [Bool.and_eq_true, Bool.and_eq_true, beq_iff_eq] at this
    exact ⟨goodB_ok this.1, isTrue1_ok this.2.1, this.2.2⟩
  have mem : ∀ p ∈ tb.map (fun t => mkP t.1), ∃ t ∈ tb, p = mkP t.1 := fun p hp => by
    obtain ⟨t, h1, h2⟩ := List.mem_map.mp hp
    exact ⟨t, h1, h2.symm⟩
  refine ⟨_, hall, fun z => hne (by simpa using z), by simpa using of_decide_eq_true hlen, fun p hp => ?_, fun p hp => ?_, fun p hp q hq => ?_, ?_⟩
  · obtain ⟨t, h1, rfl⟩ := mem p hp; exact (g t h1).1
  · obtain ⟨t, h1, rfl⟩ := mem p hp; exact (g t h1).2.1
  · obtain ⟨s, h1, rfl⟩ := mem p hp
    obtain ⟨t, h2, rfl⟩ := mem q hq
    have main : s = t ∨ (eqD (mkP s.1) (mkP t.1) = false ∧ eqD (mkP t.1) (mkP s.1) = false ∧ s.2 ≠ t.2) := by
      refine pwB_ok (P := fun s t : List (Nat × Nat) × List Int => s = t ∨ (eqD (mkP s.1) (mkP t.1) = false ∧ eqD (mkP t.1) (mkP s.1) = false ∧ s.2 ≠ t.2)) (fun x => .inl rfl) (fun x y h => ?_) (fun x y h => ?_) hQ s h1 t h2
      · rcases h with h | ⟨h1, h2, h3⟩
        · exact .inl h.symm
        · exact .inr ⟨h2, h1, fun e => h3 e.symm⟩
      · simp only [Bool.and_eq_true, Bool.not_eq_true'] at h
        refine .inr ⟨h.1, h.2.1, fun e => ?_⟩
        have h3 := h.2.2
        rw [e] at h3
        simp at h3
    rcases main with rfl | ⟨a1, a2, a3⟩
    · rw [eqD_refl (g s h1).1.pure]; simp
    · rw [a1, (g s h1).2.2, (g t h2).2.2, decide_eq_false a3]
  · unfold chkS at hS
    split at hS
    · rename_i st e2
      rw [Bool.and_eq_true] at hS
      refine ⟨st, e2, goodB_ok hS.1, fun p hp => ?_⟩
      obtain ⟨t, h1, rfl⟩ := mem p hp
      rw [(g t h1).2.2]
      exact List.all_eq_true.mp hS.2 t h1
    · cases hS
def tb5 : List (List (Nat × Nat) × List Int) := [
  ([(0, 1), (2, 3), (4, 5), (6, 7), (8, 9)], [0, 1, 0, 1, 0, 1, 0, 1, 0, 1, 0]),
  ([(0, 1), (2, 3), (4, 5), (6, 9), (7, 8)], [0, 1, 0, 1, 0, 1, 0, 1, 2, 1, 0]),
  ([(0, 1), (2, 3), (4, 7), (5, 6), (8, 9)], [0, 1, 0, 1, 0, 1, 2, 1, 0, 1, 0]),
  ([(0, 1), (2, 3), (4, 9), (5, 6), (7, 8)], [0, 1, 0, 1, 0, 1, 2, 1, 2, 1, 0]),
  ([(0, 1), (2, 3), (4, 9), (5, 8), (6, 7)], [0, 1, 0, 1, 0, 1, 2, 3, 2, 1, 0]),
  ([(0, 1), (2, 5), (3, 4), (6, 7), (8, 9)], [0, 1, 0, 1, 2, 1, 0, 1, 0, 1, 0]),
  ([(0, 1), (2, 5), (3, 4), (6, 9), (7, 8)], [0, 1, 0, 1, 2, 1, 0, 1, 2, 1, 0]),
  ([(0, 1), (2, 7), (3, 4), (5, 6), (8, 9)], [0, 1, 0, 1, 2, 1, 2, 1, 0, 1, 0]),
  ([(0, 1), (2, 7), (3, 6), (4, 5), (8, 9)], [0, 1, 0, 1, 2, 3, 2, 1, 0, 1, 0]),
  ([(0, 1), (2, 9), (3, 4), (5, 6), (7, 8)], [0, 1, 0, 1, 2, 1, 2, 1, 2, 1, 0]),
  ([(0, 1), (2, 9), (3, 4), (5, 8), (6, 7)], [0, 1, 0, 1, 2, 1, 2, 3, 2, 1, 0]),
  ([(0, 1), (2, 9), (3, 6), (4, 5), (7, 8)], [0, 1, 0, 1, 2, 3, 2, 1, 2, 1, 0]),
  ([(0, 1), (2, 9), (3, 8), (4, 5), (6, 7)], [0, 1, 0, 1, 2, 3, 2, 3, 2, 1, 0]),
  ([(0, 1), (2, 9), (3, 8), (4, 7), (5, 6)], [0, 1, 0, 1, 2, 3, 4, 3, 2, 1, 0]),
  ([(0, 3), (1, 2), (4, 5), (6, 7), (8, 9)], [0, 1, 2, 1, 0, 1, 0, 1, 0, 1, 0]),
  ([(0, 3), (1, 2), (4, 5), (6, 9), (7, 8)], [0, 1, 2, 1, 0, 1, 0, 1, 2, 1, 0]),
  ([(0, 3), (1, 2), (4, 7), (5, 6), (8, 9)], [0, 1, 2, 1, 0, 1, 2, 1, 0, 1, 0]),
  ([(0, 3), (1, 2), (4, 9), (5, 6), (7, 8)], [0, 1, 2, 1, 0, 1, 2, 1, 2, 1, 0]),
  ([(0, 3), (1, 2), (4, 9), (5, 8), (6, 7)], [0, 1, 2, 1, 0, 1, 2, 3, 2, 1, 0]),
  ([(0, 5), (1, 2), (3, 4), (6, 7), (8, 9)], [0, 1, 2, 1, 2, 1, 0, 1, 0, 1, 0]),
  ([(0, 5), (1, 2), (3, 4), (6, 9), (7, 8)], [0, 1, 2, 1, 2, 1, 0, 1, 2, 1, 0]),
  ([(0, 5), (1, 4), (2, 3), (6, 7), (8, 9)], [0, 1, 2, 3, 2, 1, 0, 1, 0, 1, 0]),
  ([(0, 5), (1, 4), (2, 3), (6, 9), (7, 8)], [0, 1, 2, 3, 2, 1, 0, 1, 2, 1, 0]),
  ([(0, 7), (1, 2), (3, 4), (5, 6), (8, 9)], [0, 1, 2, 1, 2, 1, 2, 1, 0, 1, 0]),
  ([(0, 7), (1, 2), (3, 6), (4, 5), (8, 9)], [0, 1, 2, 1, 2, 3, 2, 1, 0, 1, 0]),
  ([(0, 7), (1, 4), (2, 3), (5, 6), (8, 9)], [0, 1, 2, 3, 2, 1, 2, 1, 0, 1, 0]),
  ([(0, 7), (1, 6), (2, 3), (4, 5), (8, 9)], [0, 1, 2, 3, 2, 3, 2, 1, 0, 1, 0]),
  ([(0, 7), (1, 6), (2, 5), (3, 4), (8, 9)], [0, 1, 2, 3, 4, 3, 2, 1, 0, 1, 0]),
  ([(0, 9), (1, 2), (3, 4), (5, 6), (7, 8)], [0, 1, 2, 1, 2, 1, 2, 1, 2, 1, 0]),
  ([(0, 9), (1, 2), (3, 4), (5, 8), (6, 7)], [0, 1, 2, 1, 2, 1, 2, 3, 2, 1, 0]),
  ([(0, 9), (1, 2), (3, 6), (4, 5), (7, 8)], [0, 1, 2, 1, 2, 3, 2, 1, 2, 1, 0]),
  ([(0, 9), (1, 2), (3, 8), (4, 5), (6, 7)], [0, 1, 2, 1, 2, 3, 2, 3, 2, 1, 0]),
  ([(0, 9), (1, 2), (3, 8), (4, 7), (5, 6)], [0, 1, 2, 1, 2, 3, 4, 3, 2, 1, 0]),
  ([(0, 9), (1, 4), (2, 3), (5, 6), (7, 8)], [0, 1, 2, 3, 2, 1, 2, 1, 2, 1, 0]),
  ([(0, 9), (1, 4), (2, 3), (5, 8), (6, 7)], [0, 1, 2, 3, 2, 1, 2, 3, 2, 1, 0]),
  ([(0, 9), (1, 6), (2, 3), (4, 5), (7, 8)], [0, 1, 2, 3, 2, 3, 2, 1, 2, 1, 0]),
  ([(0, 9), (1, 6), (2, 5), (3, 4), (7, 8)], [0, 1, 2, 3, 4, 3, 2, 1, 2, 1, 0]),
  ([(0, 9), (1, 8), (2, 3), (4, 5), (6, 7)], [0, 1, 2, 3, 2, 3, 2, 3, 2, 1, 0]),
  ([(0, 9), (1, 8), (2, 3), (4, 7), (5, 6)], [0, 1, 2, 3, 2, 3, 4, 3, 2, 1, 0]),
  ([(0, 9), (1, 8), (2, 5), (3, 4), (6, 7)], [0, 1, 2, 3, 4, 3, 2, 3, 2, 1, 0]),
  ([(0, 9), (1, 8), (2, 7), (3, 4), (5, 6)], [0, 1, 2, 3, 4, 3, 4, 3, 2, 1, 0]),
  ([(0, 9), (1, 8), (2, 7), (3, 6), (4, 5)], [0, 1, 2, 3, 4, 5, 4, 3, 2, 1, 0])]
theorem all5 : m_w_all [.int 5] [] = .ok (.lst (tb5.map fun t => mkP t.1)) [] := by kernel_rfl
theorem p5_0 : chkP 5 ((tb5.drop 0).take 14) = true := by kernel_rfl
theorem p5_14 : chkP 5 ((tb5.drop 14).take 14) = true := by kernel_rfl
theorem p5_28 : chkP 5 ((tb5.drop 28).take 14) = true := by kernel_rfl
theorem q5_28 : chkP 5 (tb5.drop 28) = true := p5_28
theorem q5_14 : chkP 5 (tb5.drop 14) = true := all_split 14 p5_14 (by rw [List.drop_drop]; exact q5_28)
theorem q5_0 : chkP 5 (tb5.drop 0) = true := all_split 14 p5_0 (by rw [List.drop_drop]; exact q5_14)
theorem every5 : ∃ ps, Every 5 ps := every_by all5 (by unfold tb5; simp) (by kernel_rfl) q5_0 (by kernel_rfl) (by kernel_rfl)
def tb6 : List (List (Nat × Nat) × List Int) := [
  ([(0, 1), (2, 3), (4, 5), (6, 7), (8, 9), (10, 11)], [0, 1, 0, 1, 0, 1, 0, 1, 0, 1, 0, 1, 0]),
  ([(0, 1), (2, 3), (4, 5), (6, 7), (8, 11), (9, 10)], [0, 1, 0, 1, 0, 1, 0, 1, 0, 1, 2, 1, 0]),
  ([(0, 1), (2, 3), (4, 5), (6, 9), (7, 8), (10, 11)], [0, 1, 0, 1, 0, 1, 0, 1, 2, 1, 0, 1, 0]),
  ([(0, 1), (2, 3), (4, 5), (6, 11), (7, 8), (9, 10)], [0, 1, 0, 1, 0, 1, 0, 1, 2, 1, 2, 1, 0]),
  ([(0, 1), (2, 3), (4, 5), (6, 11), (7, 10), (8, 9)], [0, 1, 0, 1, 0, 1, 0, 1, 2, 3, 2, 1, 0]),
  ([(0, 1), (2, 3), (4, 7), (5, 6), (8, 9), (10, 11)], [0, 1, 0, 1, 0, 1, 2, 1, 0, 1, 0, 1, 0]),
  ([(0, 1), (2, 3), (4, 7), (5, 6), (8, 11), (9, 10)], [0, 1, 0, 1, 0, 1, 2, 1, 0, 1, 2, 1, 0]),
  ([(0, 1), (2, 3), (4, 9), (5, 6), (7, 8), (10, 11)], [0, 1, 0, 1, 0, 1, 2, 1, 2, 1, 0, 1, 0]),
  ([(0, 1), (2, 3), (4, 9), (5, 8), (6, 7), (10, 11)], [0, 1, 0, 1, 0, 1, 2, 3, 2, 1, 0, 1, 0]),
  ([(0, 1), (2, 3), (4, 11), (5, 6), (7, 8), (9, 10)], [0, 1, 0, 1, 0, 1, 2, 1, 2, 1, 2, 1, 0]),
  ([(0, 1), (2, 3), (4, 11), (5, 6), (7, 10), (8, 9)], [0, 1, 0, 1, 0, 1, 2, 1, 2, 3, 2, 1, 0]),
  ([(0, 1), (2, 3), (4, 11), (5, 8), (6, 7), (9, 10)], [0, 1, 0, 1, 0, 1, 2, 3, 2, 1, 2, 1, 0]),
  ([(0, 1), (2, 3), (4, 11), (5, 10), (6, 7), (8, 9)], [0, 1, 0, 1, 0, 1, 2, 3, 2, 3, 2, 1, 0]),
  ([(0, 1), (2, 3), (4, 11), (5, 10), (6, 9), (7, 8)], [0, 1, 0, 1, 0, 1, 2, 3, 4, 3, 2, 1, 0]),
  ([(0, 1), (2, 5), (3, 4), (6, 7), (8, 9), (10, 11)], [0, 1, 0, 1, 2, 1, 0, 1, 0, 1, 0, 1, 0]),
  ([(0, 1), (2, 5), (3, 4), (6, 7), (8, 11), (9, 10)], [0, 1, 0, 1, 2, 1, 0, 1, 0, 1, 2, 1, 0]),
  ([(0, 1), (2, 5), (3, 4), (6, 9), (7, 8), (10, 11)], [0, 1, 0, 1, 2, 1, 0, 1, 2, 1, 0, 1, 0]),
  ([(0, 1), (2, 5), (3, 4), (6, 11), (7, 8), (9, 10)], [0, 1, 0, 1, 2, 1, 0, 1, 2, 1, 2, 1, 0]),
  ([(0, 1), (2, 5), (3, 4), (6, 11), (7, 10), (8, 9)], [0, 1, 0, 1, 2, 1, 0, 1, 2, 3, 2, 1, 0]),
  ([(0, 1), (2, 7), (3, 4), (5, 6), (8, 9), (10, 11)], [0, 1, 0, 1, 2, 1, 2, 1, 0, 1, 0, 1, 0]),
  ([(0, 1), (2, 7), (3, 4), (5, 6), (8, 11), (9, 10)], [0, 1, 0, 1, 2, 1, 2, 1, 0, 1, 2, 1, 0]),
  ([(0, 1), (2, 7), (3, 6), (4, 5), (8, 9), (10, 11)], [0, 1, 0, 1, 2, 3, 2, 1, 0, 1, 0, 1, 0]),
  ([(0, 1), (2, 7), (3, 6), (4, 5), (8, 11), (9, 10)], [0, 1, 0, 1, 2, 3, 2, 1, 0, 1, 2, 1, 0]),
  ([(0, 1), (2, 9), (3, 4), (5, 6), (7, 8), (10, 11)], [0, 1, 0, 1, 2, 1, 2, 1, 2, 1, 0, 1, 0]),
  ([(0, 1), (2, 9), (3, 4), (5, 8), (6, 7), (10, 11)], [0, 1, 0, 1, 2, 1, 2, 3, 2, 1, 0, 1, 0]),
  ([(0, 1), (2, 9), (3, 6), (4, 5), (7, 8), (10, 11)], [0, 1, 0, 1, 2, 3, 2, 1, 2, 1, 0, 1, 0]),
  ([(0, 1), (2, 9), (3, 8), (4, 5), (6, 7), (10, 11)], [0, 1, 0, 1, 2, 3, 2, 3, 2, 1, 0, 1, 0]),
  ([(0, 1), (2, 9), (3, 8), (4, 7), (5, 6), (10, 11)], [0, 1, 0, 1, 2, 3, 4, 3, 2, 1, 0, 1, 0]),
  ([(0, 1), (2, 11), (3, 4), (5, 6), (7, 8), (9, 10)], [0, 1, 0, 1, 2, 1, 2, 1, 2, 1, 2, 1, 0]),
  ([(0, 1), (2, 11), (3, 4), (5, 6), (7, 10), (8, 9)], [0, 1, 0, 1, 2, 1, 2, 1, 2, 3, 2, 1, 0]),
  ([(0, 1), (2, 11), (3, 4), (5, 8), (6, 7), (9, 10)], [0, 1, 0, 1, 2, 1, 2, 3, 2, 1, 2, 1, 0]),
  ([(0, 1), (2, 11), (3, 4), (5, 10), (6, 7), (8, 9)], [0, 1, 0, 1, 2, 1, 2, 3, 2, 3, 2, 1, 0]),
  ([(0, 1), (2, 11), (3, 4), (5, 10), (6, 9), (7, 8)], [0, 1, 0, 1, 2, 1, 2, 3, 4, 3, 2, 1, 0]),
  ([(0, 1), (2, 11), (3, 6), (4, 5), (7, 8), (9, 10)], [0, 1, 0, 1, 2, 3, 2, 1, 2, 1, 2, 1, 0]),
  ([(0, 1), (2, 11), (3, 6), (4, 5), (7, 10), (8, 9)], [0, 1, 0, 1, 2, 3, 2, 1, 2, 3, 2, 1, 0]),
  ([(0, 1), (2, 11), (3, 8), (4, 5), (6, 7), (9, 10)], [0, 1, 0, 1, 2, 3, 2, 3, 2, 1, 2, 1, 0]),
  ([(0, 1), (2, 11), (3, 8), (4, 7), (5, 6), (9, 10)], [0, 1, 0, 1, 2, 3, 4, 3, 2, 1, 2, 1, 0]),
  ([(0, 1), (2, 11), (3, 10), (4, 5), (6, 7), (8, 9)], [0, 1, 0, 1, 2, 3, 2, 3, 2, 3, 2, 1, 0]),
  ([(0, 1), (2, 11), (3, 10), (4, 5), (6, 9), (7, 8)], [0, 1, 0, 1, 2, 3, 2, 3, 4, 3, 2, 1, 0]),
  ([(0, 1), (2, 11), (3, 10), (4, 7), (5, 6), (8, 9)], [0, 1, 0, 1, 2, 3, 4, 3, 2, 3, 2, 1, 0]),
  ([(0, 1), (2, 11), (3, 10), (4, 9), (5, 6), (7, 8)], [0, 1, 0, 1, 2, 3, 4, 3, 4, 3, 2, 1, 0]),
  ([(0, 1), (2, 11), (3, 10), (4, 9), (5, 8), (6, 7)], [0, 1, 0, 1, 2, 3, 4, 5, 4, 3, 2, 1, 0]),
  ([(0, 3), (1, 2), (4, 5), (6, 7), (8, 9), (10, 11)], [0, 1, 2, 1, 0, 1, 0, 1, 0, 1, 0, 1, 0]),
  ([(0, 3), (1, 2), (4, 5), (6, 7), (8, 11), (9, 10)], [0, 1, 2, 1, 0, 1, 0, 1, 0, 1, 2, 1, 0]),
  ([(0, 3), (1, 2), (4, 5), (6, 9), (7, 8), (10, 11)], [0, 1, 2, 1, 0, 1, 0, 1, 2, 1, 0, 1, 0]),
  ([(0, 3), (1, 2), (4, 5), (6, 11), (7, 8), (9, 10)], [0, 1, 2, 1, 0, 1, 0, 1, 2, 1, 2, 1, 0]),
  ([(0, 3), (1, 2), (4, 5), (6, 11), (7, 10), (8, 9)], [0, 1, 2, 1, 0, 1, 0, 1, 2, 3, 2, 1, 0]),
  ([(0, 3), (1, 2), (4, 7), (5, 6), (8, 9), (10, 11)], [0, 1, 2, 1, 0, 1, 2, 1, 0, 1, 0, 1, 0]),
  ([(0, 3), (1, 2), (4, 7), (5, 6), (8, 11), (9, 10)], [0, 1, 2, 1, 0, 1, 2, 1, 0, 1, 2, 1, 0]),
  ([(0, 3), (1, 2), (4, 9), (5, 6), (7, 8), (10, 11)], [0, 1, 2, 1, 0, 1, 2, 1, 2, 1, 0, 1, 0]),
  ([(0, 3), (1, 2), (4, 9), (5, 8), (6, 7), (10, 11)], [0, 1, 2, 1, 0, 1, 2, 3, 2, 1, 0, 1, 0]),
  ([(0, 3), (1, 2), (4, 11), (5, 6), (7, 8), (9, 10)], [0, 1, 2, 1, 0, 1, 2, 1, 2, 1, 2, 1, 0]),
  ([(0, 3), (1, 2), (4, 11), (5, 6), (7, 10), (8, 9)], [0, 1, 2, 1, 0, 1, 2, 1, 2, 3, 2, 1, 0]),
  ([(0, 3), (1, 2), (4, 11), (5, 8), (6, 7), (9, 10)], [0, 1, 2, 1, 0, 1, 2, 3, 2, 1, 2, 1, 0]),
  ([(0, 3), (1, 2), (4, 11), (5, 10), (6, 7), (8, 9)], [0, 1, 2, 1, 0, 1, 2, 3, 2, 3, 2, 1, 0]),
  ([(0, 3), (1, 2), (4, 11), (5, 10), (6, 9), (7, 8)], [0, 1, 2, 1, 0, 1, 2, 3, 4, 3, 2, 1, 0]),
  ([(0, 5), (1, 2), (3, 4), (6, 7), (8, 9), (10, 11)], [0, 1, 2, 1, 2, 1, 0, 1, 0, 1, 0, 1, 0]),
  ([(0, 5), (1, 2), (3, 4), (6, 7), (8, 11), (9, 10)], [0, 1, 2, 1, 2, 1, 0, 1, 0, 1, 2, 1, 0]),
  ([(0, 5), (1, 2), (3, 4), (6, 9), (7, 8), (10, 11)], [0, 1, 2, 1, 2, 1, 0, 1, 2, 1, 0, 1, 0]),
  ([(0, 5), (1, 2), (3, 4), (6, 11), (7, 8), (9, 10)], [0, 1, 2, 1, 2, 1, 0, 1, 2, 1, 2, 1, 0]),
  ([(0, 5), (1, 2), (3, 4), (6, 11), (7, 10), (8, 9)], [0, 1, 2, 1, 2, 1, 0, 1, 2, 3, 2, 1, 0]),
  ([(0, 5), (1, 4), (2, 3), (6, 7), (8, 9), (10, 11)], [0, 1, 2, 3, 2, 1, 0, 1, 0, 1, 0, 1, 0]),
  ([(0, 5), (1, 4), (2, 3), (6, 7), (8, 11), (9, 10)], [0, 1, 2, 3, 2, 1, 0, 1, 0, 1, 2, 1, 0]),
  ([(0, 5), (1, 4), (2, 3), (6, 9), (7, 8), (10, 11)], [0, 1, 2, 3, 2, 1, 0, 1, 2, 1, 0, 1, 0]),
  ([(0, 5), (1, 4), (2, 3), (6, 11), (7, 8), (9, 10)], [0, 1, 2, 3, 2, 1, 0, 1, 2, 1, 2, 1, 0]),
  ([(0, 5), (1, 4), (2, 3), (6, 11), (7, 10), (8, 9)], [0, 1, 2, 3, 2, 1, 0, 1, 2, 3, 2, 1, 0]),
  ([(0, 7), (1, 2), (3, 4), (5, 6), (8, 9), (10, 11)], [0, 1, 2, 1, 2, 1, 2, 1, 0, 1, 0, 1, 0]),
  ([(0, 7), (1, 2), (3, 4), (5, 6), (8, 11), (9, 10)], [0, 1, 2, 1, 2, 1, 2, 1, 0, 1, 2, 1, 0]),
  ([(0, 7), (1, 2), (3, 6), (4, 5), (8, 9), (10, 11)], [0, 1, 2, 1, 2, 3, 2, 1, 0, 1, 0, 1, 0]),
  ([(0, 7), (1, 2), (3, 6), (4, 5), (8, 11), (9, 10)], [0, 1, 2, 1, 2, 3, 2, 1, 0, 1, 2, 1, 0]),
  ([(0, 7), (1, 4), (2, 3), (5, 6), (8, 9), (10, 11)], [0, 1, 2, 3, 2, 1, 2, 1, 0, 1, 0, 1, 0]),
  ([(0, 7), (1, 4), (2, 3), (5, 6), (8, 11), (9, 10)], [0, 1, 2, 3, 2, 1, 2, 1, 0, 1, 2, 1, 0]),
  ([(0, 7), (1, 6), (2, 3), (4, 5), (8, 9), (10, 11)], [0, 1, 2, 3, 2, 3, 2, 1, 0, 1, 0, 1, 0]),
  ([(0, 7), (1, 6), (2, 3), (4, 5), (8, 11), (9, 10)], [0, 1, 2, 3, 2, 3, 2, 1, 0, 1, 2, 1, 0]),
  ([(0, 7), (1, 6), (2, 5), (3, 4), (8, 9), (10, 11)], [0, 1, 2, 3, 4, 3, 2, 1, 0, 1, 0, 1, 0]),
  ([(0, 7), (1, 6), (2, 5), (3, 4), (8, 11), (9, 10)], [0, 1, 2, 3, 4, 3, 2, 1, 0, 1, 2, 1, 0]),
  ([(0, 9), (1, 2), (3, 4), (5, 6), (7, 8), (10, 11)], [0, 1, 2, 1, 2, 1, 2, 1, 2, 1, 0, 1, 0]),
  ([(0, 9), (1, 2), (3, 4), (5, 8), (6, 7), (10, 11)], [0, 1, 2, 1, 2, 1, 2, 3, 2, 1, 0, 1, 0]),
  ([(0, 9), (1, 2), (3, 6), (4, 5), (7, 8), (10, 11)], [0, 1, 2, 1, 2, 3, 2, 1, 2, 1, 0, 1, 0]),
  ([(0, 9), (1, 2), (3, 8), (4, 5), (6, 7), (10, 11)], [0, 1, 2, 1, 2, 3, 2, 3, 2, 1, 0, 1, 0]),
  ([(0, 9), (1, 2), (3, 8), (4, 7), (5, 6), (10, 11)], [0, 1, 2, 1, 2, 3, 4, 3, 2, 1, 0, 1, 0]),
  ([(0, 9), (1, 4), (2, 3), (5, 6), (7, 8), (10, 11)], [0, 1, 2, 3, 2, 1, 2, 1, 2, 1, 0, 1, 0]),
  ([(0, 9), (1, 4), (2, 3), (5, 8), (6, 7), (10, 11)], [0, 1, 2, 3, 2, 1, 2, 3, 2, 1, 0, 1, 0]),
  ([(0, 9), (1, 6), (2, 3), (4, 5), (7, 8), (10, 11)], [0, 1, 2, 3, 2, 3, 2, 1, 2, 1, 0, 1, 0]),
  ([(0, 9), (1, 6), (2, 5), (3, 4), (7, 8), (10, 11)], [0, 1, 2, 3, 4, 3, 2, 1, 2, 1, 0, 1, 0]),
  ([(0, 9), (1, 8), (2, 3), (4, 5), (6, 7), (10, 11)], [0, 1, 2, 3, 2, 3, 2, 3, 2, 1, 0, 1, 0]),
  ([(0, 9), (1, 8), (2, 3), (4, 7), (5, 6), (10, 11)], [0, 1, 2, 3, 2, 3, 4, 3, 2, 1, 0, 1, 0]),
  ([(0, 9), (1, 8), (2, 5), (3, 4), (6, 7), (10, 11)], [0, 1, 2, 3, 4, 3, 2, 3, 2, 1, 0, 1, 0]),
  ([(0, 9), (1, 8), (2, 7), (3, 4), (5, 6), (10, 11)], [0, 1, 2, 3, 4, 3, 4, 3, 2, 1, 0, 1, 0]),
  ([(0, 9), (1, 8), (2, 7), (3, 6), (4, 5), (10, 11)], [0, 1, 2, 3, 4, 5, 4, 3, 2, 1, 0, 1, 0]),
  ([(0, 11), (1, 2), (3, 4), (5, 6), (7, 8), (9, 10)], [0, 1, 2, 1, 2, 1, 2, 1, 2, 1, 2, 1, 0]),
  ([(0, 11), (1, 2), (3, 4), (5, 6), (7, 10), (8, 9)], [0, 1, 2, 1, 2, 1, 2, 1, 2, 3, 2, 1, 0]),
  ([(0, 11), (1, 2), (3, 4), (5, 8), (6, 7), (9, 10)], [0, 1, 2, 1, 2, 1, 2, 3, 2, 1, 2, 1, 0]),
  ([(0, 11), (1, 2), (3, 4), (5, 10), (6, 7), (8, 9)], [0, 1, 2, 1, 2, 1, 2, 3, 2, 3, 2, 1, 0]),
  ([(0, 11), (1, 2), (3, 4), (5, 10), (6, 9), (7, 8)], [0, 1, 2, 1, 2, 1, 2, 3, 4, 3, 2, 1, 0]),
  ([(0, 11), (1, 2), (3, 6), (4, 5), (7, 8), (9, 10)], [0, 1, 2, 1, 2, 3, 2, 1, 2, 1, 2, 1, 0]),
  ([(0, 11), (1, 2), (3, 6), (4, 5), (7, 10), (8, 9)], [0, 1, 2, 1, 2, 3, 2, 1, 2, 3, 2, 1, 0]),
  ([(0, 11), (1, 2), (3, 8), (4, 5), (6, 7), (9, 10)], [0, 1, 2, 1, 2, 3, 2, 3, 2, 1, 2, 1, 0]),
  ([(0, 11), (1, 2), (3, 8), (4, 7), (5, 6), (9, 10)], [0, 1, 2, 1, 2, 3, 4, 3, 2, 1, 2, 1, 0]),
  ([(0, 11), (1, 2), (3, 10), (4, 5), (6, 7), (8, 9)], [0, 1, 2, 1, 2, 3, 2, 3, 2, 3, 2, 1, 0]),
  ([(0, 11), (1, 2), (3, 10), (4, 5), (6, 9), (7, 8)], [0, 1, 2, 1, 2, 3, 2, 3, 4, 3, 2, 1, 0]),
  ([(0, 11), (1, 2), (3, 10), (4, 7), (5, 6), (8, 9)], [0, 1, 2, 1, 2, 3, 4, 3, 2, 3, 2, 1, 0]),
  ([(0, 11), (1, 2), (3, 10), (4, 9), (5, 6), (7, 8)], [0, 1, 2, 1, 2, 3, 4, 3, 4, 3, 2, 1, 0]),
  ([(0, 11), (1, 2), (3, 10), (4, 9), (5, 8), (6, 7)], [0, 1, 2, 1, 2, 3, 4, 5, 4, 3, 2, 1, 0]),
  ([(0, 11), (1, 4), (2, 3), (5, 6), (7, 8), (9, 10)], [0, 1, 2, 3, 2, 1, 2, 1, 2, 1, 2, 1, 0]),
  ([(0, 11), (1, 4), (2, 3), (5, 6), (7, 10), (8, 9)], [0, 1, 2, 3, 2, 1, 2, 1, 2, 3, 2, 1, 0]),
  ([(0, 11), (1, 4), (2, 3), (5, 8), (6, 7), (9, 10)], [0, 1, 2, 3, 2, 1, 2, 3, 2, 1, 2, 1, 0]),
  ([(0, 11), (1, 4), (2, 3), (5, 10), (6, 7), (8, 9)], [0, 1, 2, 3, 2, 1, 2, 3, 2, 3, 2, 1, 0]),
  ([(0, 11), (1, 4), (2, 3), (5, 10), (6, 9), (7, 8)], [0, 1, 2, 3, 2, 1, 2, 3, 4, 3, 2, 1, 0]),
  ([(0, 11), (1, 6), (2, 3), (4, 5), (7, 8), (9, 10)], [0, 1, 2, 3, 2, 3, 2, 1, 2, 1, 2, 1, 0]),
  ([(0, 11), (1, 6), (2, 3), (4, 5), (7, 10), (8, 9)], [0, 1, 2, 3, 2, 3, 2, 1, 2, 3, 2, 1, 0]),
  ([(0, 11), (1, 6), (2, 5), (3, 4), (7, 8), (9, 10)], [0, 1, 2, 3, 4, 3, 2, 1, 2, 1, 2, 1, 0]),
  ([(0, 11), (1, 6), (2, 5), (3, 4), (7, 10), (8, 9)], [0, 1, 2, 3, 4, 3, 2, 1, 2, 3, 2, 1, 0]),
  ([(0, 11), (1, 8), (2, 3), (4, 5), (6, 7), (9, 10)], [0, 1, 2, 3, 2, 3, 2, 3, 2, 1, 2, 1, 0]),
  ([(0, 11), (1, 8), (2, 3), (4, 7), (5, 6), (9, 10)], [0, 1, 2, 3, 2, 3, 4, 3, 2, 1, 2, 1, 0]),
  ([(0, 11), (1, 8), (2, 5), (3, 4), (6, 7), (9, 10)], [0, 1, 2, 3, 4, 3, 2, 3, 2, 1, 2, 1, 0]),
  ([(0, 11), (1, 8), (2, 7), (3, 4), (5, 6), (9, 10)], [0, 1, 2, 3, 4, 3, 4, 3, 2, 1, 2, 1, 0]),
  ([(0, 11), (1, 8), (2, 7), (3, 6), (4, 5), (9, 10)], [0, 1, 2, 3, 4, 5, 4, 3, 2, 1, 2, 1, 0]),
  ([(0, 11), (1, 10), (2, 3), (4, 5), (6, 7), (8, 9)], [0, 1, 2, 3, 2, 3, 2, 3, 2, 3, 2, 1, 0]),
  ([(0, 11), (1, 10), (2, 3), (4, 5), (6, 9), (7, 8)], [0, 1, 2, 3, 2, 3, 2, 3, 4, 3, 2, 1, 0]),
  ([(0, 11), (1, 10), (2, 3), (4, 7), (5, 6), (8, 9)], [0, 1, 2, 3, 2, 3, 4, 3, 2, 3, 2, 1, 0]),
  ([(0, 11), (1, 10), (2, 3), (4, 9), (5, 6), (7, 8)], [0, 1, 2, 3, 2, 3, 4, 3, 4, 3, 2, 1, 0]),
  ([(0, 11), (1, 10), (2, 3), (4, 9), (5, 8), (6, 7)], [0, 1, 2, 3, 2, 3, 4, 5, 4, 3, 2, 1, 0]),
  ([(0, 11), (1, 10), (2, 5), (3, 4), (6, 7), (8, 9)], [0, 1, 2, 3, 4, 3, 2, 3, 2, 3, 2, 1, 0]),
  ([(0, 11), (1, 10), (2, 5), (3, 4), (6, 9), (7, 8)], [0, 1, 2, 3, 4, 3, 2, 3, 4, 3, 2, 1, 0]),
  ([(0, 11), (1, 10), (2, 7), (3, 4), (5, 6), (8, 9)], [0, 1, 2, 3, 4, 3, 4, 3, 2, 3, 2, 1, 0]),
  ([(0, 11), (1, 10), (2, 7), (3, 6), (4, 5), (8, 9)], [0, 1, 2, 3, 4, 5, 4, 3, 2, 3, 2, 1, 0]),
  ([(0, 11), (1, 10), (2, 9), (3, 4), (5, 6), (7, 8)], [0, 1, 2, 3, 4, 3, 4, 3, 4, 3, 2, 1, 0]),
  ([(0, 11), (1, 10), (2, 9), (3, 4), (5, 8), (6, 7)], [0, 1, 2, 3, 4, 3, 4, 5, 4, 3, 2, 1, 0]),
  ([(0, 11), (1, 10), (2, 9), (3, 6), (4, 5), (7, 8)], [0, 1, 2, 3, 4, 5, 4, 3, 4, 3, 2, 1, 0]),
  ([(0, 11), (1, 10), (2, 9), (3, 8), (4, 5), (6, 7)], [0, 1, 2, 3, 4, 5, 4, 5, 4, 3, 2, 1, 0]),
  ([(0, 11), (1, 10), (2, 9), (3, 8), (4, 7), (5, 6)], [0, 1, 2, 3, 4, 5, 6, 5, 4, 3, 2, 1, 0])]
theorem all6 : m_w_all [.int 6] [] = .ok (.lst (tb6.map fun t => mkP t.1)) [] := by kernel_rfl
theorem p6_0 : chkP 6 ((tb6.drop 0).take 22) = true := by kernel_rfl
theorem p6_22 : chkP 6 ((tb6.drop 22).take 22) = true := by kernel_rfl
theorem p6_44 : chkP 6 ((tb6.drop 44).take 22) = true := by kernel_rfl
theorem p6_66 : chkP 6 ((tb6.drop 66).take 22) = true := by kernel_rfl
theorem p6_88 : chkP 6 ((tb6.drop 88).take 22) = true := by kernel_rfl
theorem p6_110 : chkP 6 ((tb6.drop 110).take 22) = true := by kernel_rfl
theorem q6_110 : chkP 6 (tb6.drop 110) = true := p6_110
theorem q6_88 : chkP 6 (tb6.drop 88) = true := all_split 22 p6_88 (by rw [List.drop_drop]; exact q6_110)
theorem q6_66 : chkP 6 (tb6.drop 66) = true := all_split 22 p6_66 (by rw [List.drop_drop]; exact q6_88)
theorem q6_44 : chkP 6 (tb6.drop 44) = true := all_split 22 p6_44 (by rw [List.drop_drop]; exact q6_66)
theorem q6_22 : chkP 6 (tb6.drop 22) = true := all_split 22 p6_22 (by rw [List.drop_drop]; exact q6_44)
theorem q6_0 : chkP 6 (tb6.drop 0) = true := all_split 22 p6_0 (by rw [List.drop_drop]; exact q6_22)
theorem every6 : ∃ ps, Every 6 ps := every_by all6 (by unfold tb6; simp) (by kernel_rfl) q6_0 (by kernel_rfl) (by kernel_rfl)
theorem every1 : ∃ ps, Every 1 ps := every_of (by kernel_rfl)
theorem every2 : ∃ ps, Every 2 ps := every_of (by kernel_rfl)
theorem every3 : ∃ ps, Every 3 ps := every_of (by kernel_rfl)
theorem every4 : ∃ ps, Every 4 ps := every_of (by kernel_rfl)
theorem law_right (ns : List Int) (h : ns.length ≤ 63) : ∃ S, m_law [.scr (ns.map D.int)] [] = .ok (.bl true) S := law_of (fun k k1 k6 => by
  match k, k1, k6 with
  | 1, _, _ => exact every1
  | 2, _, _ => exact every2
  | 3, _, _ => exact every3
  | 4, _, _ => exact every4
  | 5, _, _ => exact every5
  | 6, _, _ => exact every6) ns h
end LW

open PySem PySem.W PyProof.Rows
set_option maxRecDepth 100000 in
set_option maxHeartbeats 0 in
theorem PySem.Challenge.cw_twocompanies_k19_heights_and_partners_holds : PySem.Challenge.rw_twocompanies_k19_heights_and_partners.Holds := by
  w_on; o_law; k_head; (case hw => w_witness2)
  k_fill
  refine LW.walk (l := PySem.Challenge.rw_twocompanies_k19_heights_and_partners) rfl rfl (fun w h Y => PySem.W.kIn_of Y) ?F LW.law_right
  case F =>
    intro w mg fa h KX G hmg
    refine' LW.all_mk KX G hmg ?a1 ?l1 ?c1 ?k1 ?a2 ?l2 ?c2 ?k2 ?a3 ?l3 ?c3 ?k3 ?a4 ?l4 ?c4 ?k4 ?a5 ?l5 ?c5 ?k5 ?a6 ?l6 ?c6 ?k6 ?a7 ?l7 ?c7 ?k7 ?a8 ?l8 ?c8 ?k8 ?a9 ?l9 ?c9 ?k9 ?a10 ?l10 ?c10 ?k10 ?a11 ?l11 ?c11 ?k11 ?a12 ?l12 ?c12 ?k12 ?a13 ?l13 ?c13 ?k13 ?a14 ?l14 ?c14 ?k14 ?a15 ?l15 ?c15 ?k15 ?a16 ?l16 ?c16 ?k16 ?a17 ?l17 ?c17 ?k17 ?a18 ?l18 ?c18 ?k18 ?a19 ?l19 ?c19 ?k19 ?a20 ?l20 ?c20 ?k20 ?a21 ?l21 ?c21 ?k21 ?a22 ?l22 ?c22 ?k22 ?a23 ?l23 ?c23 ?k23 ?a24 ?l24 ?c24 ?k24 ?z0 ?z1 ?z2 ?z3 ?z4 ?z5 ?z6 ?z7 ?z8 ?z9 ?z10 ?z11 ?z12 ?y0
    (case a1 => k_is); (case l1 => k_is); (case c1 => k_is); (case k1 => k_is); (case a2 => k_is); (case l2 => k_is)
    (case c2 => k_is); (case k2 => k_is); (case a3 => k_is); (case l3 => k_is); (case c3 => k_is); (case k3 => k_is)
    (case a4 => k_is); (case l4 => k_is); (case c4 => k_is); (case k4 => k_is); (case a5 => k_is); (case l5 => k_is)
    (case c5 => k_is); (case k5 => k_is); (case a6 => k_is); (case l6 => k_is); (case c6 => k_is); (case k6 => k_is)
    (case a7 => k_is); (case l7 => k_is); (case c7 => k_is); (case k7 => k_is); (case a8 => k_is); (case l8 => k_is)
    (case c8 => k_is); (case k8 => k_is); (case a9 => k_is); (case l9 => k_is); (case c9 => k_is); (case k9 => k_is)
    (case a10 => k_is); (case l10 => k_is); (case c10 => k_is); (case k10 => k_is); (case a11 => k_is); (case l11 => k_is)
    (case c11 => k_is); (case k11 => k_is); (case a12 => k_is); (case l12 => k_is); (case c12 => k_is); (case k12 => k_is)
    (case a13 => k_is); (case l13 => k_is); (case c13 => k_is); (case k13 => k_is); (case a14 => k_is); (case l14 => k_is)
    (case c14 => k_is); (case k14 => k_is); (case a15 => k_is); (case l15 => k_is); (case c15 => k_is); (case k15 => k_is)
    (case a16 => k_is); (case l16 => k_is); (case c16 => k_is); (case k16 => k_is); (case a17 => k_is); (case l17 => k_is)
    (case c17 => k_is); (case k17 => k_is); (case a18 => k_is); (case l18 => k_is); (case c18 => k_is); (case k18 => k_is)
    (case a19 => k_is); (case l19 => k_is); (case c19 => k_is); (case k19 => k_is); (case a20 => k_is); (case l20 => k_is)
    (case c20 => k_is); (case k20 => k_is); (case a21 => k_is); (case l21 => k_is); (case c21 => k_is); (case k21 => k_is)
    (case a22 => k_is); (case l22 => k_is); (case c22 => k_is); (case k22 => k_is); (case a23 => k_is); (case l23 => k_is)
    (case c23 => k_is); (case k23 => k_is); (case a24 => k_is); (case l24 => k_is); (case c24 => k_is); (case k24 => k_is)
    (case z0 => k_is); (case z1 => k_is); (case z2 => k_is); (case z3 => k_is); (case z4 => k_is); (case z5 => k_is)
    (case z6 => k_is); (case z7 => k_is); (case z8 => k_is); (case z9 => k_is); (case z10 => k_is); (case z11 => k_is)
    (case z12 => k_is); (case y0 => k_is)
#print axioms PySem.Challenge.cw_twocompanies_k19_heights_and_partners_holds
