import PyProof.Rows.All
import Wide.All
import OpenK.AllK
import Wide.FinOn
import HandS.ForMost
import HandS.Exc
import HandS.ExcOwn
import KE.KDictKeyed
import HandS.Walk
import HandS.WordsExc
import HandS.TupAny
import HandS.Style
import HandS.IsInst
import HandS.Text
import HandS.Deep
import HandS.Conv
import KE.SortCalls
import KE.SortData
import KE.DataCmp
import HandS.Zip
import HandS.IterVal
import PyProof.ReprRoads
import HandS.ExcSuper
import HandS.ExcInit
import KE.KExcSuper
import KE.KExcInit
import HandS.ExcIs
import HandS.Iter
import HandS.RevTup
import PyProof.CallFns
import PyProof.FString2
import HandS.RaiseMore
import KE.GoesMore
import PyProof.ReprLen
import HandS.Call
import HandS.OwnEq
import PyProof.InstNe
import KE.KFmtOwn
import KE.KCallOwn
import PyProof.FactsAll.object_2
import HandS.TryMany
import PySem.Challenge.RW_twocompanies_k08_boards_turned_and_joine
set_option Elab.async false
set_option linter.all false
set_option maxRecDepth 100000
/-! Keys of dicts that are ints in tuples, at any depth (to 8): their hash leans on no world; a dict with such keys as a tracked object. -/
namespace MM
open PySem PySem.Spec PyProof.Rows L2
mutual
def okT : NestedKey → Bool
  | .none => false
  | .num _ => true
  | .text _ => false
  | .tup ks => okTs ks
def okTs : List NestedKey → Bool
  | [] => true
  | k :: ks => okT k && okTs ks
end
mutual
def hashN : NestedKey → Int
  | .none => 0
  | .num i => hashInt i
  | .text _ => 0
  | .tup ks => reduceHash (Builtin.Tuple.tupleHashOf (hashNs ks))
def hashNs : List NestedKey → List Int
  | [] => []
  | k :: ks => hashN k :: hashNs ks
end
mutual
theorem hashN_eq (w : World) : ∀ k : NestedKey, okT k = true → k.hash w = hashN k
  | .none, h => by simp [okT] at h
  | .num i, _ => rfl
  | .text _, h => by simp [okT] at h
  | .tup ks, h => by
    show reduceHash (Builtin.Tuple.tupleHashOf (NestedKey.hashes w ks)) = reduceHash (Builtin.Tuple.tupleHashOf (hashNs ks))
    rw [hashNs_eq w ks (by simpa [okT] using h)]
theorem hashNs_eq (w : World) : ∀ ks : List NestedKey, okTs ks = true → NestedKey.hashes w ks = hashNs ks
  | [], _ => rfl
  | k :: ks, h => by
    rw [okTs, Bool.and_eq_true] at h
    rw [NestedKey.hashes, hashNs, hashN_eq w k h.1, hashNs_eq w ks h.2]
end
def okN (k : NestedKey) : Bool := okT k && decide (k.depth ≤ 8)
def isTupK : NestedKey → Bool
  | .tup _ => true
  | _ => false
abbrev NU := NestedKey × Addr × V
abbrev NV := NestedKey × Addr × Value
def entN (x : NV) : DictEntry := ⟨hashN x.1, .ref x.2.1, x.2.2⟩
abbrev KN : List NU → List NV → Prop := Paired fun p q => p.1 = q.1 ∧ p.2.1 = q.2.1 ∧ RelV p.2.2 q.2.2
/-- at a stands a dict with these entries -/
def dnP (a : Addr) (us : List NU) : Heap → Prop := fun h => (a == sysModules) = false ∧ us.length ≤ sizeLine ∧ (∀ x ∈ us, okN x.1 = true) ∧
  ∃ o es ep xs, h.get? a = some o ∧ o.ExactDict ∧ o.data = .dict es ep ∧ es.toList = xs.map entN ∧ KN us xs ∧ (xs.map (·.1)).Nodup
theorem dnP_ok {P : Program} {w : World} {H : Hp} {h : Heap} {a : Addr} {us : List NU} (p : dnP a us h) : ObjOk P w H h a (.ext (dnP a us)) :=
  ⟨p, let ⟨_, _, _, o, _, _, _, e, _⟩ := p; ⟨o, e⟩, fun h1 h2 ⟨x, y, z, o, es, ep, xs, e, r⟩ k => ⟨x, y, z, o, es, ep, xs, k _ e, r⟩⟩
/-- a value that is a key -/
inductive Kp (K : PySem.W.Frag) (F : Hp) : V → NestedKey → Prop
  | int (i : Int) : Kp K F (.int i) (.num i)
  | tup {a : Addr} {vs : List V} {ks : List NestedKey} : F a = some (.tup vs) → vs.length = ks.length → (∀ (i : Nat) (v : V) (k : NestedKey), vs[i]? = some v → ks[i]? = some k → Kp K F v k) → Kp K F (.ref a) (.tup ks)
end MM

set_option Elab.async false
set_option linter.all false
set_option maxRecDepth 100000
/-! The mirror layer: data trees D, a store of mutable cells, worlds, and what a run of a mirror tells of the machine. -/
namespace MM
open PySem PySem.Spec PyProof.Rows L2

/-! ### data, cells, results -/
inductive D where
  | non | bl (b : Bool) | int (i : Int) | str (x : Str)
  | tup (xs : List D) | lst (xs : List D) | scr (xs : List D) | ref (l : Nat)
  | dct (ks : List NestedKey) (xs : List D) | obj (c : Str) (fs : List Str) (xs : List D)
inductive Cell where
  | lst (xs : List D) | fz (xs : List D) | dic (kvs : List (Key × D)) | dn (kvs : List (NestedKey × D)) | ob (c : Str) (fs : List (Str × D)) | dt (kvs : List (List Key × D)) | fd (ks : List NestedKey) (xs : List D)
def Cell.w : Cell → Bool
  | .fz _ => false
  | .fd _ _ => false
  | _ => true
abbrev Store := List Cell
abbrev Sg := List (Option D)
structure Ex where
  cls : Str
  fs : List (Str × D)
inductive R (α : Type) where
  | ok (a : α) (S : Store) | ex (e : Ex) (S : Store) | no
inductive O where
  | nx (σ : Sg) (S : Store) | rt (d : D) (S : Store) | bk (σ : Sg) (S : Store) | ct (σ : Sg) (S : Store) | ex (e : Ex) (σ : Sg) (S : Store) | no
def R.bind {α β : Type} (r : R α) (k : α → Store → R β) : R β := match r with
  | .ok a S => k a S
  | .ex e S => .ex e S
  | .no => .no

/-- flat tuples of ints and texts as keys -/
def nkOfs (ks : List Key) : NestedKey := .tup (ks.map fun k => match k with | .inl i => .num i | .inr x => .text x)
/-- an int or a text as a key -/
def nkOf : Key → NestedKey
  | .inl i => .num i
  | .inr x => .text x
/-! ### how a tree stands in the heap -/
mutual
inductive Rep (K : PySem.W.Frag) (F : Hp) (μ : List Addr) : D → V → Prop
  | non : Rep K F μ .non .non
  | bl (b : Bool) : Rep K F μ (.bl b) (.bl b)
  | int (i : Int) : Rep K F μ (.int i) (.int i)
  | str (x : Str) : Rep K F μ (.str x) (.str x)
  | tup {a : Addr} {vs : List V} {xs : List D} : F a = some (.tup vs) → Reps K F μ xs vs → Rep K F μ (.tup xs) (.ref a)
  | lst {a : Addr} {vs : List V} {xs : List D} : F a = some (.lst vs) → Reps K F μ xs vs → Rep K F μ (.lst xs) (.ref a)
  | scr {a : Addr} {vs : List V} {xs : List D} : SqL K F a vs → Reps K F μ xs vs → Rep K F μ (.scr xs) (.ref a)
  | ref {l : Nat} {a : Addr} : μ[l]? = some a → Rep K F μ (.ref l) (.ref a)
  | dct {a : Addr} {o : Obj} {us : List NU} {ks : List NestedKey} {vs : List V} {xs : List D} : F a = some (.frz o (.ext (dnP a us))) → us.map (·.1) = ks → (∀ x ∈ us, Kp K F (.ref x.2.1) x.1) → us.map (·.2.2) = vs → Reps K F μ xs vs → Rep K F μ (.dct ks xs) (.ref a)
  | dck {a : Addr} {o : Obj} {us : List (Key × V)} {ks : List NestedKey} {vs : List V} {xs : List D} : F a = some (.frz o (.dK us)) → us.map (fun u => nkOf u.1) = ks → us.map (·.2) = vs → Reps K F μ xs vs → Rep K F μ (.dct ks xs) (.ref a)
  | dcT {a : Addr} {o : Obj} {us : List (List Key × V)} {ks : List NestedKey} {vs : List V} {xs : List D} : F a = some (.frz o (.dT us)) → us.map (fun u => nkOfs u.1) = ks → us.map (·.2) = vs → Reps K F μ xs vs → Rep K F μ (.dct ks xs) (.ref a)
  | obj {a C dx : Addr} {us : List (Str × V)} {c : Str} {fs : List Str} {vs : List V} {xs : List D} : F a = some (.ins C dx us) → PySem.W.nsIn K mainGlobals c = some (some (.ref C)) → us.map (·.1) = fs → us.map (·.2) = vs → Reps K F μ xs vs → Rep K F μ (.obj c fs xs) (.ref a)
inductive Reps (K : PySem.W.Frag) (F : Hp) (μ : List Addr) : List D → List V → Prop
  | nil : Reps K F μ [] []
  | cons {d : D} {v : V} {ds : List D} {vs : List V} : Rep K F μ d v → Reps K F μ ds vs → Reps K F μ (d :: ds) (v :: vs)
end

section
variable {K : PySem.W.Frag} {F F' H H' : Hp} {μ μ' : List Addr} {d : D} {v : V} {ds : List D} {vs : List V} {a : Addr} {xs : List V}
theorem sqT_mono (hF : ∀ a o, F a = some o → F' a = some o) (h : SqT K F a xs) : SqT K F' a xs := by
  rcases h with (h | ⟨o, h⟩) | h
  · exact .inl (.inl (hF _ _ h))
  · exact .inl (.inr ⟨o, hF _ _ h⟩)
  · exact .inr h
theorem sqL_mono (hF : ∀ a o, F a = some o → F' a = some o) (h : SqL K F a xs) : SqL K F' a xs := by
  rcases h with (h | ⟨o, h⟩) | h
  · exact .inl (.inl (hF _ _ h))
  · exact .inl (.inr ⟨o, hF _ _ h⟩)
  · exact .inr h
theorem Kp.mono (hF : ∀ a o, F a = some o → F' a = some o) {v : V} {k : NestedKey} (h : Kp K F v k) : Kp K F' v k := by
  induction h with
  | int i => exact .int i
  | tup h1 h2 _ ih => exact .tup (hF _ _ h1) h2 ih
mutual
theorem Rep.mono (hF : ∀ a o, F a = some o → F' a = some o) (hm : ∀ (l : Nat) a, μ[l]? = some a → μ'[l]? = some a) : ∀ {d : D} {v : V}, Rep K F μ d v → Rep K F' μ' d v
  | _, _, .non => .non
  | _, _, .bl b => .bl b
  | _, _, .int i => .int i
  | _, _, .str x => .str x
  | _, _, .tup h r => .tup (hF _ _ h) (Reps.mono hF hm r)
  | _, _, .lst h r => .lst (hF _ _ h) (Reps.mono hF hm r)
  | _, _, .scr h r => .scr (sqL_mono hF h) (Reps.mono hF hm r)
  | _, _, .ref h => .ref (hm _ _ h)
  | _, _, .dct h1 h2 h3 h4 r => .dct (hF _ _ h1) h2 (fun x hx => (h3 x hx).mono hF) h4 (Reps.mono hF hm r)
  | _, _, .dck h1 h2 h3 r => .dck (hF _ _ h1) h2 h3 (Reps.mono hF hm r)
  | _, _, .dcT h1 h2 h3 r => .dcT (hF _ _ h1) h2 h3 (Reps.mono hF hm r)
  | _, _, .obj h1 h2 h3 h4 r => .obj (hF _ _ h1) h2 h3 h4 (Reps.mono hF hm r)
theorem Reps.mono (hF : ∀ a o, F a = some o → F' a = some o) (hm : ∀ (l : Nat) a, μ[l]? = some a → μ'[l]? = some a) : ∀ {ds : List D} {vs : List V}, Reps K F μ ds vs → Reps K F' μ' ds vs
  | _, _, .nil => .nil
  | _, _, .cons h r => .cons (Rep.mono hF hm h) (Reps.mono hF hm r)
end
theorem Reps.length : ∀ {ds : List D} {vs : List V}, Reps K F μ ds vs → ds.length = vs.length
  | _, _, .nil => rfl
  | _, _, .cons _ r => by rw [List.length_cons, List.length_cons, Reps.length r]
theorem Reps.get : ∀ {ds : List D} {vs : List V} {i : Nat} {d : D}, Reps K F μ ds vs → ds[i]? = some d → ∃ v, vs[i]? = some v ∧ Rep K F μ d v
  | _, _, _, _, .nil, e => by simp at e
  | _, _, 0, _, .cons r _, e => by simp at e; subst e; exact ⟨_, rfl, r⟩
  | _, _, i + 1, d, .cons _ t, e => by
    obtain ⟨u, h1, h2⟩ := Reps.get (i := i) (d := d) t (by simpa using e)
    exact ⟨u, by simpa using h1, h2⟩
theorem Reps.get' : ∀ {ds : List D} {vs : List V} {i : Nat} {v : V}, Reps K F μ ds vs → vs[i]? = some v → ∃ d, ds[i]? = some d ∧ Rep K F μ d v
  | _, _, _, _, .nil, e => by simp at e
  | _, _, 0, _, .cons r _, e => by simp at e; subst e; exact ⟨_, rfl, r⟩
  | _, _, i + 1, d, .cons _ t, e => by
    obtain ⟨u, h1, h2⟩ := Reps.get' (i := i) (v := d) t (by simpa using e)
    exact ⟨u, by simpa using h1, h2⟩
theorem Reps.append : ∀ {ds es : List D} {vs us : List V}, Reps K F μ ds vs → Reps K F μ es us → Reps K F μ (ds ++ es) (vs ++ us)
  | _, _, _, _, .nil, s => s
  | _, _, _, _, .cons r t, s => .cons r (Reps.append t s)
theorem Reps.take : ∀ {ds : List D} {vs : List V} (n : Nat), Reps K F μ ds vs → Reps K F μ (ds.take n) (vs.take n)
  | _, _, 0, _ => .nil
  | _, _, _ + 1, .nil => .nil
  | _, _, n + 1, .cons r t => .cons r (Reps.take n t)
theorem Reps.drop : ∀ {ds : List D} {vs : List V} (n : Nat), Reps K F μ ds vs → Reps K F μ (ds.drop n) (vs.drop n)
  | _, _, 0, r => r
  | _, _, _ + 1, .nil => .nil
  | _, _, n + 1, .cons _ t => Reps.drop n t
theorem Reps.set {d : D} {v : V} (r : Rep K F μ d v) : ∀ {ds : List D} {vs : List V} (i : Nat), Reps K F μ ds vs → Reps K F μ (ds.set i d) (vs.set i v)
  | _, _, _, .nil => .nil
  | _, _, 0, .cons _ t => .cons r t
  | _, _, i + 1, .cons q t => .cons q (Reps.set r i t)
theorem Reps.reverse {ds : List D} {vs : List V} (h : Reps K F μ ds vs) : Reps K F μ ds.reverse vs.reverse := by
  induction ds generalizing vs with
  | nil => cases h; exact .nil
  | cons d ds ih =>
    cases h with
    | cons r t =>
      rw [List.reverse_cons, List.reverse_cons]
      exact (ih t).append (.cons r .nil)
theorem Reps.dropLast {ds : List D} {vs : List V} (h : Reps K F μ ds vs) : Reps K F μ ds.dropLast vs.dropLast := by
  rw [List.dropLast_eq_take, List.dropLast_eq_take, h.length]
  exact h.take _
theorem Reps.rep {ds : List D} {vs : List V} (h : Reps K F μ ds vs) : ∀ k : Nat, Reps K F μ (List.replicate k ds).flatten (List.replicate k vs).flatten
  | 0 => .nil
  | k + 1 => by
    rw [List.replicate_succ, List.replicate_succ, List.flatten_cons, List.flatten_cons]
    exact h.append (Reps.rep h k)
theorem reps_ints : ∀ (ns : List Int), Reps K F μ (ns.map D.int) (ns.map V.int)
  | [] => .nil
  | n :: ns => .cons (.int n) (reps_ints ns)
end

/-! ### data without cells -/
mutual
def D.pure : D → Bool
  | .tup xs => pureAll xs
  | .lst xs => pureAll xs
  | .scr xs => pureAll xs
  | .dct _ xs => pureAll xs
  | .obj _ _ xs => pureAll xs
  | .ref _ => false
  | _ => true
def pureAll : List D → Bool
  | [] => true
  | x :: xs => x.pure && pureAll xs
end
section
variable {K : PySem.W.Frag} {F F' : Hp} {μ μ' : List Addr}
mutual
theorem Rep.anyMu : ∀ {d : D} {v : V}, d.pure = true → Rep K F μ d v → Rep K F μ' d v
  | _, _, _, .non => .non
  | _, _, _, .bl b => .bl b
  | _, _, _, .int i => .int i
  | _, _, _, .str x => .str x
  | _, _, p, .tup h r => .tup h (Reps.anyMu (by simpa [D.pure] using p) r)
  | _, _, p, .lst h r => .lst h (Reps.anyMu (by simpa [D.pure] using p) r)
  | _, _, p, .scr h r => .scr h (Reps.anyMu (by simpa [D.pure] using p) r)
  | _, _, p, .ref h => by simp [D.pure] at p
  | _, _, p, .dct h1 h2 h3 h4 r => .dct h1 h2 h3 h4 (Reps.anyMu (by simpa [D.pure] using p) r)
  | _, _, p, .dck h1 h2 h3 r => .dck h1 h2 h3 (Reps.anyMu (by simpa [D.pure] using p) r)
  | _, _, p, .dcT h1 h2 h3 r => .dcT h1 h2 h3 (Reps.anyMu (by simpa [D.pure] using p) r)
  | _, _, p, .obj h1 h2 h3 h4 r => .obj h1 h2 h3 h4 (Reps.anyMu (by simpa [D.pure] using p) r)
theorem Reps.anyMu : ∀ {ds : List D} {vs : List V}, pureAll ds = true → Reps K F μ ds vs → Reps K F μ' ds vs
  | _, _, _, .nil => .nil
  | _, _, p, .cons h r => by
    rw [pureAll, Bool.and_eq_true] at p
    exact .cons (Rep.anyMu p.1 h) (Reps.anyMu p.2 r)
end
end

/-! ### worlds -/
def RepKV (K : PySem.W.Frag) (F : Hp) (μ : List Addr) (kvs : List (Key × D)) (us : List (Key × V)) : Prop :=
  kvs.map (·.1) = us.map (·.1) ∧ Reps K F μ (kvs.map (·.2)) (us.map (·.2))
def CellOk (K : PySem.W.Frag) (H F : Hp) (μ : List Addr) (a : Addr) : Cell → Prop
  | .lst xs => ∃ vs, H a = some (.lst vs) ∧ Reps K F μ xs vs
  | .fz xs => ∃ vs, F a = some (.lst vs) ∧ Reps K F μ xs vs
  | .dic kvs => ∃ us, H a = some (.dK us) ∧ RepKV K F μ kvs us
  | .dn kvs => ∃ us : List NU, H a = some (.ext (dnP a us)) ∧ us.map (·.1) = kvs.map (·.1) ∧ Reps K F μ (kvs.map (·.2)) (us.map (·.2.2)) ∧ ∀ x ∈ us, Kp K F (.ref x.2.1) x.1
  | .fd ks xs => Rep K F μ (.dct ks xs) (.ref a)
  | .dt kvs => ∃ us, H a = some (.dT us) ∧ us.map (·.1) = kvs.map (·.1) ∧ Reps K F μ (kvs.map (·.2)) (us.map (·.2))
  | .ob c fs => ∃ C dx us, H a = some (.ins C dx us) ∧ PySem.W.nsIn K mainGlobals c = some (some (.ref C)) ∧ us.map (·.1) = fs.map (·.1) ∧ Reps K F μ (fs.map (·.2)) (us.map (·.2))
def Wr (μ : List Addr) (S : Store) (a : Addr) : Prop := ∃ (l : Nat) (c : Cell), μ[l]? = some a ∧ S[l]? = some c ∧ c.w = true
structure Wd (K : PySem.W.Frag) (H F : Hp) (μ : List Addr) (S : Store) : Prop where
  sub : ∀ a o, F a = some o → H a = some o
  len : μ.length = S.length
  nd : μ.Nodup
  out : ∀ a, Wr μ S a → F a = none
  cell : ∀ (l : Nat) c a, S[l]? = some c → μ[l]? = some a → CellOk K H F μ a c
structure Ext (H F : Hp) (μ : List Addr) (S : Store) (H' F' : Hp) (μ' : List Addr) (S' : Store) : Prop where
  fz : ∀ a o, F a = some o → F' a = some o
  mu : ∀ (l : Nat) a, μ[l]? = some a → μ'[l]? = some a
  keep : ∀ a o, H a = some o → ¬ Wr μ S a → H' a = some o
  dom : ∀ a, H' a = none → H a = none
  new : ∀ (l : Nat) a, μ'[l]? = some a → μ[l]? = some a ∨ H a = none
  fnew : ∀ a, F' a ≠ none → F a ≠ none ∨ H a = none ∨ a ∈ μ ∨ ∃ vs, H a = some (.tup vs)
  cf : ∀ (l : Nat) c, Cell.w c = false → S[l]? = some c → S'[l]? = some c
  le : S.length ≤ S'.length

section
variable {K : PySem.W.Frag} {H F H1 F1 H2 F2 : Hp} {μ μ1 μ2 : List Addr} {S S1 S2 : Store} {a p : Addr} {o : HO} {c : Cell} {l : Nat}
theorem Ext.refl : Ext H F μ S H F μ S := ⟨fun _ _ h => h, fun _ _ h => h, fun _ _ h _ => h, fun _ h => h, fun _ _ h => .inl h, fun _ h => .inl h, fun _ _ _ h => h, Nat.le_refl _⟩
theorem mem_of_ix {α : Type} {l : List α} {i : Nat} {x : α} (h : l[i]? = some x) : x ∈ l := List.mem_of_getElem? h
theorem Ext.trans (W : Wd K H F μ S) (e : Ext H F μ S H1 F1 μ1 S1) (f : Ext H1 F1 μ1 S1 H2 F2 μ2 S2) : Ext H F μ S H2 F2 μ2 S2 where
  fz := fun a o h => f.fz a o (e.fz a o h)
  mu := fun l a h => f.mu l a (e.mu l a h)
  keep := fun a o h n => by
    refine f.keep a o (e.keep a o h n) fun ⟨l, c, h1, h2, h3⟩ => ?_
    rcases e.new l a h1 with q | q
    · have hl : l < S.length := by rw [← W.len]; exact (List.getElem?_eq_some_iff.mp q).1
      cases hc : S[l] with
      | fz xs =>
        have z := e.cf l (.fz xs) rfl (by rw [List.getElem?_eq_getElem hl, hc])
        rw [h2] at z
        cases Option.some.inj z
        cases h3
      | fd ks xs =>
        have z := e.cf l (.fd ks xs) rfl (by rw [List.getElem?_eq_getElem hl, hc])
        rw [h2] at z
        cases Option.some.inj z
        cases h3
      | lst xs => exact n ⟨l, _, q, by rw [List.getElem?_eq_getElem hl, hc], rfl⟩
      | dic xs => exact n ⟨l, _, q, by rw [List.getElem?_eq_getElem hl, hc], rfl⟩
      | dn xs => exact n ⟨l, _, q, by rw [List.getElem?_eq_getElem hl, hc], rfl⟩
      | ob c xs => exact n ⟨l, _, q, by rw [List.getElem?_eq_getElem hl, hc], rfl⟩
      | dt xs => exact n ⟨l, _, q, by rw [List.getElem?_eq_getElem hl, hc], rfl⟩
    · rw [h] at q; cases q
  dom := fun a h => e.dom a (f.dom a h)
  new := fun l a h => by
    rcases f.new l a h with q | q
    · exact e.new l a q
    · exact .inr (e.dom a q)
  fnew := fun a h => by
    rcases f.fnew a h with q | q | q | ⟨vs, q⟩
    · exact e.fnew a q
    · exact .inr (.inl (e.dom a q))
    · obtain ⟨l, hl⟩ := List.getElem?_of_mem q
      rcases e.new l a hl with z | z
      · exact .inr (.inr (.inl (mem_of_ix z)))
      · exact .inr (.inl z)
    · cases z : H a with
      | none => exact .inr (.inl rfl)
      | some o =>
        by_cases hm : a ∈ μ
        · exact .inr (.inr (.inl hm))
        · have k := e.keep a o z fun ⟨l, c, h1, _⟩ => hm (mem_of_ix h1)
          rw [q] at k
          cases k
          exact .inr (.inr (.inr ⟨vs, rfl⟩))
  cf := fun l c hw h => f.cf l c hw (e.cf l c hw h)
  le := Nat.le_trans e.le f.le
theorem Rep.ext {d : D} {v : V} (e : Ext H F μ S H1 F1 μ1 S1) (r : Rep K F μ d v) : Rep K F1 μ1 d v := r.mono e.fz e.mu
theorem Reps.ext {d : List D} {v : List V} (e : Ext H F μ S H1 F1 μ1 S1) (r : Reps K F μ d v) : Reps K F1 μ1 d v := r.mono e.fz e.mu
/-- every address of a cell is tracked -/
theorem Wd.there (W : Wd K H F μ S) (h : a ∈ μ) : H a ≠ none := by
  obtain ⟨l, hl⟩ := List.getElem?_of_mem h
  have q : l < S.length := by rw [← W.len]; exact (List.getElem?_eq_some_iff.mp hl).1
  have z := W.cell l S[l] a (List.getElem?_eq_getElem q) hl
  intro hn
  cases hc : S[l] with
  | lst xs => rw [hc] at z; obtain ⟨_, z, _⟩ := z; rw [hn] at z; cases z
  | fz xs => rw [hc] at z; obtain ⟨_, z, _⟩ := z; rw [W.sub _ _ z] at hn; cases hn
  | dic xs => rw [hc] at z; obtain ⟨_, z, _⟩ := z; rw [hn] at z; cases z
  | dn xs => rw [hc] at z; obtain ⟨_, z, _⟩ := z; rw [hn] at z; cases z
  | ob c xs => rw [hc] at z; obtain ⟨_, _, _, z, _⟩ := z; rw [hn] at z; cases z
  | dt xs => rw [hc] at z; obtain ⟨_, z, _⟩ := z; rw [hn] at z; cases z
  | fd ks xs =>
    rw [hc] at z
    have z : Rep K F μ (.dct ks xs) (.ref a) := z
    cases z with
    | dct h1 => rw [W.sub _ _ h1] at hn; cases hn
    | dck h1 => rw [W.sub _ _ h1] at hn; cases hn
    | dcT h1 => rw [W.sub _ _ h1] at hn; cases hn
/-- no cell is a tuple -/
theorem Wd.notTup (W : Wd K H F μ S) (h : a ∈ μ) : ∀ vs, H a ≠ some (.tup vs) := by
  obtain ⟨l, hl⟩ := List.getElem?_of_mem h
  have q : l < S.length := by rw [← W.len]; exact (List.getElem?_eq_some_iff.mp hl).1
  have z := W.cell l S[l] a (List.getElem?_eq_getElem q) hl
  intro vs hn
  cases hc : S[l] with
  | lst xs => rw [hc] at z; obtain ⟨_, z, _⟩ := z; rw [hn] at z; cases z
  | fz xs => rw [hc] at z; obtain ⟨_, z, _⟩ := z; rw [W.sub _ _ z] at hn; cases hn
  | dic xs => rw [hc] at z; obtain ⟨_, z, _⟩ := z; rw [hn] at z; cases z
  | dn xs => rw [hc] at z; obtain ⟨_, z, _⟩ := z; rw [hn] at z; cases z
  | dt xs => rw [hc] at z; obtain ⟨_, z, _⟩ := z; rw [hn] at z; cases z
  | ob c xs => rw [hc] at z; obtain ⟨_, _, _, z, _⟩ := z; rw [hn] at z; cases z
  | fd ks xs =>
    rw [hc] at z
    have z : Rep K F μ (.dct ks xs) (.ref a) := z
    cases z with
    | dct h1 => rw [W.sub _ _ h1] at hn; cases hn
    | dck h1 => rw [W.sub _ _ h1] at hn; cases hn
    | dcT h1 => rw [W.sub _ _ h1] at hn; cases hn
theorem Wd.ne (W : Wd K H F μ S) (hp : H p = none) (h : a ∈ μ) : a ≠ p := fun e => W.there h (by rw [e]; exact hp)
theorem Wd.fnone (W : Wd K H F μ S) (hp : H p = none) : F p = none := by
  cases q : F p with
  | none => rfl
  | some o => rw [W.sub _ _ q] at hp; cases hp
theorem upd_mono (hp : F p = none) : ∀ a o', F a = some o' → (upd F p o) a = some o' := fun a o' h => by
  rw [upd_ne (ne_of_none h hp)]; exact h
theorem RepKV.mono {kvs : List (Key × D)} {us : List (Key × V)} (hF : ∀ a o, F a = some o → F1 a = some o) (hm : ∀ (l : Nat) a, μ[l]? = some a → μ1[l]? = some a) (r : RepKV K F μ kvs us) : RepKV K F1 μ1 kvs us := ⟨r.1, r.2.mono hF hm⟩
theorem CellOk.mono (hF : ∀ a o, F a = some o → F1 a = some o) (hm : ∀ (l : Nat) a, μ[l]? = some a → μ1[l]? = some a) (hH : c.w = true → H1 a = H a) (h : CellOk K H F μ a c) : CellOk K H1 F1 μ1 a c := by
  cases c with
  | lst xs => obtain ⟨vs, h1, h2⟩ := h; exact ⟨vs, by rw [hH rfl]; exact h1, h2.mono hF hm⟩
  | fz xs => obtain ⟨vs, h1, h2⟩ := h; exact ⟨vs, hF _ _ h1, h2.mono hF hm⟩
  | dic xs => obtain ⟨vs, h1, h2⟩ := h; exact ⟨vs, by rw [hH rfl]; exact h1, h2.mono hF hm⟩
  | fd ks xs => exact Rep.mono hF hm h
  | dt xs => obtain ⟨us, h1, h2, h3⟩ := h; exact ⟨us, by rw [hH rfl]; exact h1, h2, h3.mono hF hm⟩
  | ob c xs => obtain ⟨C, dx, us, h1, h2, h3, h4⟩ := h; exact ⟨C, dx, us, by rw [hH rfl]; exact h1, h2, h3, h4.mono hF hm⟩
  | dn xs => obtain ⟨us, h1, h2, h3, h4⟩ := h; exact ⟨us, by rw [hH rfl]; exact h1, h2, h3.mono hF hm, fun x hx => (h4 x hx).mono hF⟩
/-- a tuple that stands is known from now on -/
theorem Wd.know (W : Wd K H F μ S) {vs : List V} (h : H a = some (.tup vs)) : ∃ F', Ext H F μ S H F' μ S ∧ Wd K H F' μ S ∧ F' a = some (.tup vs) := by
  cases hf : F a with
  | some o =>
    have := W.sub _ _ hf
    rw [h] at this
    cases this
    exact ⟨F, .refl, W, hf⟩
  | none =>
    have mono := upd_mono (F := F) (o := .tup vs) hf
    refine ⟨upd F a (.tup vs), ⟨mono, fun _ _ h => h, fun _ _ h _ => h, fun _ h => h, fun _ _ h => .inl h, fun b q => ?_, fun _ _ _ h => h, Nat.le_refl _⟩, ⟨fun b o q => ?_, W.len, W.nd, fun b q => ?_, fun l c b h1 h2 => (W.cell l c b h1 h2).mono mono (fun _ _ h => h) fun _ => rfl⟩, upd_same⟩
    · by_cases e : b = a
      · subst e; exact .inr (.inr (.inr ⟨vs, h⟩))
      · rw [upd_ne e] at q; exact .inl q
    · by_cases e : b = a
      · subst e; rw [upd_same] at q; cases q; exact h
      · rw [upd_ne e] at q; exact W.sub _ _ q
    · obtain ⟨l, c, h1, h2, h3⟩ := id q
      rw [upd_ne fun e => W.notTup (mem_of_ix h1) vs (by rw [e]; exact h)]
      exact W.out b q
/-- a new frozen object -/
theorem Wd.newF (W : Wd K H F μ S) (hp : H p = none) : Wd K (upd H p o) (upd F p o) μ S ∧ Ext H F μ S (upd H p o) (upd F p o) μ S := by
  have hf := W.fnone hp
  have mono := upd_mono (F := F) (o := o) hf
  refine ⟨⟨fun a o' h => ?_, W.len, W.nd, fun a h => ?_, fun l c a h1 h2 => ?_⟩, ⟨mono, fun _ _ h => h, fun a o' h _ => ?_, fun a h => ?_, fun _ _ h => .inl h, fun a h => ?_, fun _ _ _ h => h, Nat.le_refl _⟩⟩
  · by_cases e : a = p
    · subst e; rw [upd_same] at h ⊢; exact h
    · rw [upd_ne e] at h ⊢; exact W.sub _ _ h
  · obtain ⟨l, c, h1, h2, h3⟩ := id h
    rw [upd_ne (W.ne hp (mem_of_ix h1))]
    exact W.out a h
  · exact (W.cell l c a h1 h2).mono mono (fun _ _ h => h) fun _ => upd_ne (W.ne hp (mem_of_ix h2))
  · rw [upd_ne (ne_of_none h hp)]; exact h
  · by_cases e : a = p
    · subst e; exact hp
    · rw [upd_ne e] at h; exact h
  · by_cases e : a = p
    · subst e; exact .inr (.inl hp)
    · rw [upd_ne e] at h; exact .inl h
theorem ix_append {α : Type} {l : List α} {x y : α} {i : Nat} (h : (l ++ [x])[i]? = some y) : l[i]? = some y ∨ (i = l.length ∧ y = x) := by
  by_cases hi : i < l.length
  · rw [List.getElem?_append_left hi] at h; exact .inl h
  · rw [List.getElem?_append_right (by omega)] at h
    have e : i - l.length = 0 := by
      cases q : i - l.length with
      | zero => rfl
      | succ n => rw [q] at h; simp at h
    rw [e] at h
    exact .inr ⟨by omega, by simpa using h.symm⟩
/-- a new cell -/
theorem Wd.newC (W : Wd K H F μ S) (hp : H p = none) (hc : CellOk K (upd H p o) F (μ ++ [p]) p c) (hw : c.w = true) : Wd K (upd H p o) F (μ ++ [p]) (S ++ [c]) ∧ Ext H F μ S (upd H p o) F (μ ++ [p]) (S ++ [c]) := by
  have hf := W.fnone hp
  have hm : ∀ (l : Nat) a, μ[l]? = some a → (μ ++ [p])[l]? = some a := fun l a h => by
    rw [List.getElem?_append_left (List.getElem?_eq_some_iff.mp h).1]; exact h
  refine ⟨⟨fun a o' h => ?_, by simp [W.len], ?_, fun a h => ?_, fun l c' a h1 h2 => ?_⟩, ⟨fun _ _ h => h, hm, fun a o' h _ => ?_, fun a h => ?_, fun l a h => ?_, fun a h => .inl h, fun l xs hwf h => ?_, by simp⟩⟩
  · rw [upd_ne (ne_of_none h hf)]; exact W.sub _ _ h
  · rw [List.nodup_append]
    refine ⟨W.nd, by simp, fun a ha b hb e => ?_⟩
    simp at hb
    subst hb
    exact W.there ha (by rw [e]; exact hp)
  · obtain ⟨l, c', h1, h2, h3⟩ := h
    rcases ix_append h1 with q | ⟨_, rfl⟩
    · have hl : l < S.length := by rw [← W.len]; exact (List.getElem?_eq_some_iff.mp q).1
      rw [List.getElem?_append_left hl] at h2
      exact W.out a ⟨l, c', q, h2, h3⟩
    · exact hf
  · rcases ix_append h1 with q | ⟨rfl, rfl⟩
    · have hl : l < μ.length := by rw [W.len]; exact (List.getElem?_eq_some_iff.mp q).1
      rw [List.getElem?_append_left hl] at h2
      exact (W.cell l c' a q h2).mono (fun _ _ h => h) hm fun _ => upd_ne (W.ne hp (mem_of_ix h2))
    · rw [← W.len] at h2
      simp at h2
      subst h2
      exact hc
  · rw [upd_ne (ne_of_none h hp)]; exact h
  · by_cases e : a = p
    · subst e; exact hp
    · rw [upd_ne e] at h; exact h
  · rcases ix_append h with q | ⟨_, rfl⟩
    · exact .inl q
    · exact .inr hp
  · rw [List.getElem?_append_left (List.getElem?_eq_some_iff.mp h).1]; exact h
/-- a cell written -/
theorem Wd.write (W : Wd K H F μ S) (hl : S[l]? = some c) (hw : c.w = true) (ha : μ[l]? = some a) {c' : Cell} (hc : CellOk K (upd H a o) F μ a c') (hw' : c'.w = true) : Wd K (upd H a o) F μ (S.set l c') ∧ Ext H F μ S (upd H a o) F μ (S.set l c') := by
  have hwr : Wr μ S a := ⟨l, c, ha, hl, hw⟩
  have hll : l < S.length := (List.getElem?_eq_some_iff.mp hl).1
  have hf := W.out a hwr
  have inj : ∀ {i : Nat} {b : Addr}, μ[i]? = some b → b = a → i = l := fun {i b} h e => by
    subst e
    obtain ⟨h1, e1⟩ := List.getElem?_eq_some_iff.mp h
    obtain ⟨h2, e2⟩ := List.getElem?_eq_some_iff.mp ha
    exact (List.getElem_inj W.nd).mp (e1.trans e2.symm)
  refine ⟨⟨fun b o' h => ?_, by simp [W.len], W.nd, fun b h => ?_, fun i d b h1 h2 => ?_⟩, ⟨fun _ _ h => h, fun _ _ h => h, fun b o' h n => ?_, fun b h => ?_, fun _ _ h => .inl h, fun _ h => .inl h, fun i xs hwf h => ?_, by simp⟩⟩
  · rw [upd_ne (ne_of_none h hf)]; exact W.sub _ _ h
  · obtain ⟨i, d, h1, h2, h3⟩ := h
    by_cases e : i = l
    · subst e
      rw [ha] at h1; cases h1
      exact hf
    · rw [List.getElem?_set_ne (Ne.symm e)] at h2
      exact W.out b ⟨i, d, h1, h2, h3⟩
  · by_cases e : i = l
    · subst e
      rw [ha] at h2; cases h2
      rw [List.getElem?_set_self hll] at h1
      cases h1
      exact hc
    · rw [List.getElem?_set_ne (Ne.symm e)] at h1
      exact (W.cell i d b h1 h2).mono (fun _ _ h => h) (fun _ _ h => h) fun _ => upd_ne fun q => e (inj h2 q)
  · rw [upd_ne fun q => n (by subst q; exact hwr)]; exact h
  · by_cases e : b = a
    · subst e; rw [upd_same] at h; cases h
    · rw [upd_ne e] at h; exact h
  · have e : i ≠ l := fun e => by
      subst e
      rw [hl] at h; cases h; rw [hw] at hwf; cases hwf
    rw [List.getElem?_set_ne (Ne.symm e)]; exact h
/-- a list's cell is frozen -/
theorem Wd.freeze (W : Wd K H F μ S) {xs : List D} (hl : S[l]? = some (.lst xs)) (ha : μ[l]? = some a) : ∃ vs, H a = some (.lst vs) ∧ Reps K F μ xs vs ∧ Wd K H (upd F a (.lst vs)) μ (S.set l (.fz xs)) ∧ Ext H F μ S H (upd F a (.lst vs)) μ (S.set l (.fz xs)) := by
  have hwr : Wr μ S a := ⟨l, _, ha, hl, rfl⟩
  have hll : l < S.length := (List.getElem?_eq_some_iff.mp hl).1
  have hf := W.out a hwr
  have inj : ∀ {i : Nat} {b : Addr}, μ[i]? = some b → b = a → i = l := fun {i b} h e => by
    subst e
    obtain ⟨h1, e1⟩ := List.getElem?_eq_some_iff.mp h
    obtain ⟨h2, e2⟩ := List.getElem?_eq_some_iff.mp ha
    exact (List.getElem_inj W.nd).mp (e1.trans e2.symm)
  obtain ⟨vs, h1, h2⟩ := W.cell l _ a hl ha
  have mono := upd_mono (F := F) (o := .lst vs) hf
  refine ⟨vs, h1, h2, ⟨fun b o' h => ?_, by simp [W.len], W.nd, fun b h => ?_, fun i d b h3 h4 => ?_⟩, ⟨mono, fun _ _ h => h, fun _ _ h _ => h, fun _ h => h, fun _ _ h => .inl h, fun b h => ?_, fun i ys hwf h => ?_, by simp⟩⟩
  · by_cases e : b = a
    · subst e; rw [upd_same] at h; cases h; exact h1
    · rw [upd_ne e] at h; exact W.sub _ _ h
  · obtain ⟨i, d, h3, h4, h5⟩ := h
    by_cases e : i = l
    · subst e
      rw [List.getElem?_set_self hll] at h4
      cases h4; cases h5
    · rw [List.getElem?_set_ne (Ne.symm e)] at h4
      rw [upd_ne fun q => e (inj h3 q)]
      exact W.out b ⟨i, d, h3, h4, h5⟩
  · by_cases e : i = l
    · subst e
      rw [ha] at h4; cases h4
      rw [List.getElem?_set_self hll] at h3
      cases h3
      exact ⟨vs, upd_same, h2.mono mono fun _ _ h => h⟩
    · rw [List.getElem?_set_ne (Ne.symm e)] at h3
      exact (W.cell i d b h3 h4).mono mono (fun _ _ h => h) fun _ => rfl
  · by_cases e : b = a
    · subst e; exact .inr (.inr (.inl (mem_of_ix ha)))
    · rw [upd_ne e] at h; exact .inl h
  · by_cases e : i = l
    · subst e
      rw [hl] at h; cases h; cases hwf
    · rw [List.getElem?_set_ne (Ne.symm e)]; exact h
/-- a cell is frozen into another, its object as it stands -/
theorem Wd.freezeG (W : Wd K H F μ S) {c c' : Cell} (hl : S[l]? = some c) (hw : c.w = true) (ha : μ[l]? = some a) (h1 : H a = some o) (hc : CellOk K H (upd F a o) μ a c') (hw' : c'.w = false) : Wd K H (upd F a o) μ (S.set l c') ∧ Ext H F μ S H (upd F a o) μ (S.set l c') := by
  have hwr : Wr μ S a := ⟨l, _, ha, hl, hw⟩
  have hll : l < S.length := (List.getElem?_eq_some_iff.mp hl).1
  have hf := W.out a hwr
  have same : ∀ {i : Nat} {b : Addr}, μ[i]? = some b → b = a → i = l := fun {i b} h e => by
    subst e
    exact (List.getElem_inj W.nd).mp ((List.getElem?_eq_some_iff.mp h).2.trans (List.getElem?_eq_some_iff.mp ha).2.symm)
  have mono := upd_mono (F := F) (o := o) hf
  refine ⟨⟨fun b o' h => ?_, by simp [W.len], W.nd, fun b h => ?_, fun i d b h3 h4 => ?_⟩, ⟨mono, fun _ _ h => h, fun _ _ h _ => h, fun _ h => h, fun _ _ h => .inl h, fun b h => ?_, fun i y hwf h => ?_, by simp⟩⟩
  · by_cases e : b = a
    · subst e; rw [upd_same] at h; cases h; exact h1
    · rw [upd_ne e] at h; exact W.sub _ _ h
  · obtain ⟨i, d, h3, h4, h5⟩ := h
    by_cases e : i = l
    · subst e
      rw [List.getElem?_set_self hll] at h4
      cases h4; rw [hw'] at h5; cases h5
    · rw [List.getElem?_set_ne (Ne.symm e)] at h4
      rw [upd_ne fun q => e (same h3 q)]
      exact W.out b ⟨i, d, h3, h4, h5⟩
  · by_cases e : i = l
    · subst e
      rw [ha] at h4; cases h4
      rw [List.getElem?_set_self hll] at h3
      cases h3
      exact hc
    · rw [List.getElem?_set_ne (Ne.symm e)] at h3
      exact (W.cell i d b h3 h4).mono mono (fun _ _ h => h) fun _ => rfl
  · by_cases e : b = a
    · subst e; exact .inr (.inr (.inl (mem_of_ix ha)))
    · rw [upd_ne e] at h; exact .inl h
  · by_cases e : i = l
    · subst e
      rw [hl] at h; cases h; rw [hw] at hwf; cases hwf
    · rw [List.getElem?_set_ne (Ne.symm e)]; exact h
/-- a cell is locked: its object is known from now on -/
theorem Wd.lockG (W : Wd K H F μ S) {c c' : Cell} (hl : S[l]? = some c) (hw : c.w = true) (ha : μ[l]? = some a) (hc : CellOk K (upd H a o) (upd F a o) μ a c') (hw' : c'.w = false) : Wd K (upd H a o) (upd F a o) μ (S.set l c') ∧ Ext H F μ S (upd H a o) (upd F a o) μ (S.set l c') := by
  have hwr : Wr μ S a := ⟨l, _, ha, hl, hw⟩
  have hll : l < S.length := (List.getElem?_eq_some_iff.mp hl).1
  have hf := W.out a hwr
  have same : ∀ {i : Nat} {b : Addr}, μ[i]? = some b → b = a → i = l := fun {i b} h e => by
    subst e
    exact (List.getElem_inj W.nd).mp ((List.getElem?_eq_some_iff.mp h).2.trans (List.getElem?_eq_some_iff.mp ha).2.symm)
  have mono := upd_mono (F := F) (o := o) hf
  refine ⟨⟨fun b o' h => ?_, by simp [W.len], W.nd, fun b h => ?_, fun i d b h3 h4 => ?_⟩, ⟨mono, fun _ _ h => h, fun b o' h n => ?_, fun b h => ?_, fun _ _ h => .inl h, fun b h => ?_, fun i y hwf h => ?_, by simp⟩⟩
  · by_cases e : b = a
    · subst e; rw [upd_same] at h ⊢; exact h
    · rw [upd_ne e] at h ⊢; exact W.sub _ _ h
  · obtain ⟨i, d, h3, h4, h5⟩ := h
    by_cases e : i = l
    · subst e
      rw [List.getElem?_set_self hll] at h4
      cases h4; rw [hw'] at h5; cases h5
    · rw [List.getElem?_set_ne (Ne.symm e)] at h4
      rw [upd_ne fun q => e (same h3 q)]
      exact W.out b ⟨i, d, h3, h4, h5⟩
  · by_cases e : i = l
    · subst e
      rw [ha] at h4; cases h4
      rw [List.getElem?_set_self hll] at h3
      cases h3
      exact hc
    · rw [List.getElem?_set_ne (Ne.symm e)] at h3
      exact (W.cell i d b h3 h4).mono mono (fun _ _ h => h) fun _ => upd_ne fun q => e (same h4 q)
  · rw [upd_ne fun q => n (by subst q; exact hwr)]; exact h
  · by_cases e : b = a
    · subst e; rw [upd_same] at h; cases h
    · rw [upd_ne e] at h; exact h
  · by_cases e : b = a
    · subst e; exact .inr (.inr (.inl (mem_of_ix ha)))
    · rw [upd_ne e] at h; exact .inl h
  · by_cases e : i = l
    · subst e
      rw [hl] at h; cases h; rw [hw] at hwf; cases hwf
    · rw [List.getElem?_set_ne (Ne.symm e)]; exact h
end

/-! ### slots -/
structure Sl (K : PySem.W.Frag) (F : Hp) (μ : List Addr) (σ : Sg) (τ : L2.St) : Prop where
  len : σ.length = τ.length
  get : ∀ (i : Nat) d, σ[i]? = some (some d) → ∃ v, τ[i]? = some (some v) ∧ Rep K F μ d v
section
variable {K : PySem.W.Frag} {H F H1 F1 : Hp} {μ μ1 : List Addr} {S S1 : Store} {σ : Sg} {τ : L2.St}
theorem Sl.ext (e : Ext H F μ S H1 F1 μ1 S1) (h : Sl K F μ σ τ) : Sl K F1 μ1 σ τ := ⟨h.len, fun i d q => let ⟨v, h1, h2⟩ := h.get i d q; ⟨v, h1, h2.ext e⟩⟩
theorem Sl.set {i : Nat} {d : D} {v : V} (h : Sl K F μ σ τ) (r : Rep K F μ d v) : Sl K F μ (σ.set i (some d)) (τ.set i (some v)) := by
  refine ⟨by simp [h.len], fun j e q => ?_⟩
  by_cases hj : i = j
  · subst hj
    by_cases hi : i < σ.length
    · rw [List.getElem?_set_self hi] at q
      cases q
      exact ⟨v, by rw [List.getElem?_set_self (by rw [← h.len]; exact hi)], r⟩
    · rw [List.getElem?_eq_none (by simpa using hi)] at q; cases q
  · rw [List.getElem?_set_ne hj] at q ⊢
    exact h.get j e q
def wipeM (σ : Sg) : List Nat → Sg
  | [] => σ
  | v :: vs => (wipeM σ vs).set v none
theorem Sl.unset {i : Nat} (h : Sl K F μ σ τ) : Sl K F μ (σ.set i none) (τ.set i none) := by
  refine ⟨by simp [h.len], fun j e q => ?_⟩
  by_cases hj : i = j
  · subst hj
    by_cases hi : i < σ.length
    · rw [List.getElem?_set_self hi] at q; cases q
    · rw [List.getElem?_eq_none (by simpa using hi)] at q; cases q
  · rw [List.getElem?_set_ne hj] at q ⊢
    exact h.get j e q
theorem Sl.wipe (h : Sl K F μ σ τ) : ∀ vs : List Nat, Sl K F μ (wipeM σ vs) (L2.wipe τ vs)
  | [] => h
  | v :: vs => (Sl.wipe h vs).unset
end

/-! ### what a result tells -/
def RepFs (K : PySem.W.Frag) (F : Hp) (μ : List Addr) : List (Str × D) → List (Str × V) → Prop := fun fs us => fs.map (·.1) = us.map (·.1) ∧ Reps K F μ (fs.map (·.2)) (us.map (·.2))
/-- an error as it lies: its class, its own dict -/
structure RepEx (K : PySem.W.Frag) (F : Hp) (μ : List Addr) (e : Ex) (c : Value) (od : Option Addr) : Prop where
  pure : pureAll (e.fs.map (·.2)) = true
  cls : ∃ C, c = .ref C ∧ PySem.W.nsIn K mainGlobals e.cls = some (some (.ref C))
  dict : (e.fs = [] ∧ od = none) ∨ ∃ dx us, od = some dx ∧ F dx = some (.xd us) ∧ RepFs K F μ e.fs us
def Done {α : Type} (K : PySem.W.Frag) (E : XK) (H F : Hp) (μ : List Addr) (S : Store) (r : R α) (P : α → Store → Hp → Hp → List Addr → Prop) : Prop := match r with
  | .ok a S' => ∀ H' F' μ', Ext H F μ S H' F' μ' S' → Wd K H' F' μ' S' → P a S' H' F' μ'
  | .ex e S' => ∀ H' F' μ' c od, Ext H F μ S H' F' μ' S' → Wd K H' F' μ' S' → RepEx K F' μ' e c od → E c od H'
  | .no => False
def DoneS (K : PySem.W.Frag) (E : WX) (H F : Hp) (μ : List Addr) (S : Store) (o : O) (D : Ends) : Prop := match o with
  | .nx σ S' => ∀ H' F' μ' τ, Ext H F μ S H' F' μ' S' → Wd K H' F' μ' S' → Sl K F' μ' σ τ → D.nx τ H'
  | .bk σ S' => ∀ H' F' μ' τ, Ext H F μ S H' F' μ' S' → Wd K H' F' μ' S' → Sl K F' μ' σ τ → D.bk τ H'
  | .ct σ S' => ∀ H' F' μ' τ, Ext H F μ S H' F' μ' S' → Wd K H' F' μ' S' → Sl K F' μ' σ τ → D.ct τ H'
  | .rt d S' => ∀ H' F' μ' v, Ext H F μ S H' F' μ' S' → Wd K H' F' μ' S' → Rep K F' μ' d v → D.rt v H'
  | .ex e σ S' => ∀ H' F' μ' τ c od, Ext H F μ S H' F' μ' S' → Wd K H' F' μ' S' → Sl K F' μ' σ τ → RepEx K F' μ' e c od → E c od τ H'
  | .no => False
section
variable {α β : Type} {K : PySem.W.Frag} {E : XK} {H F H1 F1 : Hp} {μ μ1 : List Addr} {S S1 : Store}
theorem Done.mono {r : R α} {P P' : α → Store → Hp → Hp → List Addr → Prop} (h : Done K E H F μ S r P) (hP : ∀ a S' H' F' μ', Ext H F μ S H' F' μ' S' → Wd K H' F' μ' S' → P a S' H' F' μ' → P' a S' H' F' μ') : Done K E H F μ S r P' := by
  cases r with
  | ok a S' => exact fun H' F' μ' e w => hP a S' H' F' μ' e w (h H' F' μ' e w)
  | ex e S' => exact h
  | no => exact h
theorem Done.from {r : R α} {P : α → Store → Hp → Hp → List Addr → Prop} (W : Wd K H F μ S) (e : Ext H F μ S H1 F1 μ1 S1) (h : Done K E H F μ S r P) : Done K E H1 F1 μ1 S1 r P := by
  cases r with
  | ok a S' => exact fun H' F' μ' f w => h H' F' μ' (e.trans W f) w
  | ex x S' => exact fun H' F' μ' c od f w => h H' F' μ' c od (e.trans W f) w
  | no => exact h
theorem DoneS.from {Y : WX} {o : O} {D : Ends} (W : Wd K H F μ S) (e : Ext H F μ S H1 F1 μ1 S1) (h : DoneS K Y H F μ S o D) : DoneS K Y H1 F1 μ1 S1 o D := by
  cases o with
  | no => exact h
  | nx σ S' => exact fun H' F' μ' c f w => h H' F' μ' c (e.trans W f) w
  | bk σ S' => exact fun H' F' μ' c f w => h H' F' μ' c (e.trans W f) w
  | ct σ S' => exact fun H' F' μ' c f w => h H' F' μ' c (e.trans W f) w
  | rt d S' => exact fun H' F' μ' c f w => h H' F' μ' c (e.trans W f) w
  | ex x σ S' => exact fun H' F' μ' τ c od f w => h H' F' μ' τ c od (e.trans W f) w
theorem Done.split {r : R α} {k : α → Store → R β} {P : β → Store → Hp → Hp → List Addr → Prop} (W : Wd K H F μ S) (h : Done K E H F μ S (r.bind k) P) : Done K E H F μ S r (fun a S' H' F' μ' => Done K E H' F' μ' S' (k a S') P) := by
  cases r with
  | ok a S' => exact fun H' F' μ' e w => Done.from (r := k a S') W e h
  | ex e S' => exact h
  | no => exact h
end
end MM

set_option Elab.async false
set_option linter.all false
set_option maxRecDepth 100000
/-! The judgements: an expression, a test, arguments, a target, what is walked, a statement keeps its mirror. -/
namespace MM
open PySem PySem.Spec PyProof.Rows L2

/-- no error -/
def W0 : WX := fun _ _ _ _ => False
abbrev ME := Sg → Store → R D
abbrev MT := Sg → Store → R Bool
abbrev MA := Sg → Store → R (List D)
abbrev MS := Sg → Store → O
abbrev MG := D → Sg → Store → R Sg

section
variable (K : PySem.W.Frag) (E : WX)
def tE (m : ME) : TE := fun τ H Q => ∃ F μ σ S, Wd K H F μ S ∧ Sl K F μ σ τ ∧ Done K (WE E τ) H F μ S (m σ S) (fun d _ H' F' μ' => ∀ v, Rep K F' μ' d v → Q v H')
def tT (m : MT) : TT := fun τ H Q => ∃ F μ σ S, Wd K H F μ S ∧ Sl K F μ σ τ ∧ Done K (WE E τ) H F μ S (m σ S) (fun b _ H' _ _ => Q b H')
def tA (m : MA) : TA := fun τ H Q => ∃ F μ σ S, Wd K H F μ S ∧ Sl K F μ σ τ ∧ Done K (WE E τ) H F μ S (m σ S) (fun ds _ H' F' μ' => ∀ vs, Reps K F' μ' ds vs → Q vs H')
def tS (m : MS) : TS := fun D τ H => ∃ F μ σ S, Wd K H F μ S ∧ Sl K F μ σ τ ∧ DoneS K E H F μ S (m σ S) D
/-- two rows of slots that differ at ow alone -/
def Off (ow : List Nat) (τ τ' : L2.St) : Prop := τ'.length = τ.length ∧ ∀ i : Nat, i ∉ ow → τ'[i]? = τ[i]?
def tG (ow : List Nat) (g : MG) : TG := fun v τ H Q => ∃ F μ σ S d, Wd K H F μ S ∧ Sl K F μ σ τ ∧ Rep K F μ d v ∧ Done K (WE E τ) H F μ S (g d σ S) (fun σ' _ H' F' μ' => ∀ τ', Sl K F' μ' σ' τ' → Off ow τ τ' → Q τ' H')
def tGs (ow : List Nat) (g : List D → Sg → Store → R Sg) : TGs := fun vs τ H Q => ∃ F μ σ S ds, Wd K H F μ S ∧ Sl K F μ σ τ ∧ Reps K F μ ds vs ∧ Done K (WE E τ) H F μ S (g ds σ S) (fun σ' _ H' F' μ' => ∀ τ', Sl K F' μ' σ' τ' → Off ow τ τ' → Q τ' H')
end
section
variable (K : PySem.W.Frag)
/-- by values: two, a list -/
def r2 (f : D → D → Store → R D) : R2 := fun x y H Q => ∃ E F μ S d e, Wd K H F μ S ∧ Rep K F μ d x ∧ Rep K F μ e y ∧ Done K (E : XK) H F μ S (f d e S) (fun d _ H' F' μ' => ∀ v, Rep K F' μ' d v → Q v H')
def r1 (f : D → Store → R D) : V → Hp → VK → Prop := fun x H Q => ∃ E F μ S d, Wd K H F μ S ∧ Rep K F μ d x ∧ Done K (E : XK) H F μ S (f d S) (fun d _ H' F' μ' => ∀ v, Rep K F' μ' d v → Q v H')
def rN (f : List D → Store → R D) : List V → Hp → VK → Prop := fun xs H Q => ∃ E F μ S ds, Wd K H F μ S ∧ Reps K F μ ds xs ∧ Done K (E : XK) H F μ S (f ds S) (fun d _ H' F' μ' => ∀ v, Rep K F' μ' d v → Q v H')
def r1N (f : D → List D → Store → R D) : V → List V → Hp → VK → Prop := fun x xs H Q => ∃ E F μ S d ds, Wd K H F μ S ∧ Rep K F μ d x ∧ Reps K F μ ds xs ∧ Done K (E : XK) H F μ S (f d ds S) (fun d _ H' F' μ' => ∀ v, Rep K F' μ' d v → Q v H')
end

/-! ### weakening -/
section
variable {X : Cx} {e : Expr}
theorem _root_.L2.PE.imp {t t' : TE} (h : PE X e t) (hi : ∀ σ H Q, t' σ H Q → t σ H Q) : PE X e t' := ⟨fun pins s σ H Q I hw => h.run pins s σ H Q I (hi _ _ _ hw)⟩
theorem _root_.L2.PT.imp {t t' : TT} (h : PT X e t) (hi : ∀ σ H Q, t' σ H Q → t σ H Q) : PT X e t' := ⟨fun pins s σ H Q I hw => h.run pins s σ H Q I (hi _ _ _ hw)⟩
theorem _root_.L2.PW.imp {t t' : TT} (h : PW X e t) (hi : ∀ σ H Q, t' σ H Q → t σ H Q) : PW X e t' := ⟨fun wh pins s σ H Q I hw => h.run wh pins s σ H Q I (hi _ _ _ hw)⟩
theorem _root_.L2.PA.imp {es : List Expr} {t t' : TA} (h : PA X es t) (hi : ∀ σ H Q, t' σ H Q → t σ H Q) : PA X es t' := ⟨fun pos pins s σ H Q I hw => h.run pos pins s σ H Q I (hi _ _ _ hw)⟩
theorem _root_.L2.PK.imp {es : List Keyword} {t t' : TA} (h : PK X es t) (hi : ∀ σ H Q, t' σ H Q → t σ H Q) : PK X es t' := ⟨fun pos pins s σ H Q I hw => h.run pos pins s σ H Q I (hi _ _ _ hw)⟩
theorem _root_.L2.PS.imp {st : Stmt} {t t' : TS} (h : PS X st t) (hi : ∀ D σ H, t' D σ H → t D σ H) : PS X st t' := ⟨fun pins s σ H D I hw => h.run pins s σ H D I (hi _ _ _ hw)⟩
theorem _root_.L2.PSs.imp {st : List Stmt} {t t' : TS} (h : PSs X st t) (hi : ∀ D σ H, t' D σ H → t D σ H) : PSs X st t' := ⟨fun pins s σ H D I hw => h.run pins s σ H D I (hi _ _ _ hw)⟩
theorem _root_.L2.PG.imp {t t' : TG} (h : PG X e t) (hi : ∀ v σ H Q, t' v σ H Q → t v σ H Q) : PG X e t' := ⟨fun pins s σ H v u Q I r hw => h.run pins s σ H v u Q I r (hi _ _ _ _ hw)⟩
theorem _root_.L2.PGs.imp {es : List Expr} {t t' : TGs} (h : PGs X es t) (hi : ∀ v σ H Q, t' v σ H Q → t v σ H Q) : PGs X es t' := ⟨fun pins s σ H v u Q I r hw => h.run pins s σ H v u Q I r (hi _ _ _ _ hw)⟩
theorem _root_.L2.PI.imp {tg : Expr} {t t' : TI} (h : PI X tg e t) (hi : ∀ σ H Q, t' σ H Q → t σ H Q) : PI X tg e t' := ⟨fun pins s σ H Q I hw => h.run pins s σ H Q I (hi _ _ _ hw)⟩
theorem _root_.L2.OpR.imp {f : Value → Value → Sem Value} {r r' : R2} (h : OpR X f r) (hi : ∀ x y H Q, r' x y H Q → r x y H Q) : OpR X f r' := fun pins s σ H x y v u Q I rx ry hw => h pins s σ H x y v u Q I rx ry (hi _ _ _ _ hw)
theorem _root_.L2.IxR.imp {r r' : R2} (h : IxR X r) (hi : ∀ x y H Q, r' x y H Q → r x y H Q) : IxR X r' := fun va sl pins s σ H x y v u Q I rx ry hw e => h va sl pins s σ H x y v u Q I rx ry (hi _ _ _ _ hw) e
theorem _root_.L2.UnR.imp {f : Value → Sem Value} {r r' : V → Hp → VK → Prop} (h : UnR X f r) (hi : ∀ x H Q, r' x H Q → r x H Q) : UnR X f r' := fun pins s σ H x v Q I rx hw => h pins s σ H x v Q I rx (hi _ _ _ hw)
theorem _root_.L2.CallR.imp {f : Value} {r r' : List V → Hp → VK → Prop} (h : CallR X f r) (hi : ∀ x H Q, r' x H Q → r x H Q) : CallR X f r' := fun pins s σ H vs us Q I r hw => h pins s σ H vs us Q I r (hi _ _ _ hw)
theorem _root_.L2.MtR.imp {id : String} {r r' : V → List V → Hp → VK → Prop} (h : MtR X id r) (hi : ∀ x xs H Q, r' x xs H Q → r x xs H Q) : MtR X id r' := fun pins s σ H x xs v us Q I rx r hw => h pins s σ H x xs v us Q I rx r (hi _ _ _ _ hw)
end

/-! ### expressions -/
def mVar (i : Nat) : ME := fun σ S => match σ[i]? with
  | some (some d) => .ok d S
  | _ => .no
def mK (d : D) : ME := fun _ S => .ok d S
def m2 (f : D → D → Store → R D) (a b : ME) : ME := fun σ S => (a σ S).bind fun x S1 => (b σ S1).bind fun y S2 => f x y S2
def m1 (f : D → Store → R D) (a : ME) : ME := fun σ S => (a σ S).bind fun x S1 => f x S1
def mNil : MA := fun _ S => .ok [] S
def mCons (a : ME) (as : MA) : MA := fun σ S => (a σ S).bind fun x S1 => (as σ S1).bind fun xs S2 => .ok (x :: xs) S2
def mN (f : List D → Store → R D) (as : MA) : ME := fun σ S => (as σ S).bind fun xs S1 => f xs S1
def m1N (f : D → List D → Store → R D) (a : ME) (as : MA) : ME := fun σ S => (a σ S).bind fun x S1 => (as σ S1).bind fun xs S2 => f x xs S2
def mTup (as : MA) : ME := fun σ S => (as σ S).bind fun xs S1 => if xs.length ≤ 1000000 then .ok (.tup xs) S1 else .no
/-- a list that nobody changes -/
def mLst (as : MA) : ME := fun σ S => (as σ S).bind fun xs S1 => if xs.length ≤ 1000000 then .ok (.lst xs) S1 else .no
/-- a list that will be changed -/
def mLstM (as : MA) : ME := fun σ S => (as σ S).bind fun xs S1 => if xs.length ≤ 1000000 then .ok (.ref S1.length) (S1 ++ [.lst xs]) else .no

theorem lim_ok {n : Nat} (h : n ≤ 1000000) : n ≤ sizeLine := by rw [sizeLine_eq]; omega

section
variable {K : PySem.W.Frag} {E : XK} {H F H1 F1 : Hp} {μ μ1 : List Addr} {S S1 : Store} {σ : Sg} {τ : L2.St}
theorem done_ok {α : Type} {a : α} {P : α → Store → Hp → Hp → List Addr → Prop} (h : ∀ H' F' μ', Ext H F μ S H' F' μ' S1 → Wd K H' F' μ' S1 → P a S1 H' F' μ') : Done K E H F μ S (.ok a S1) P := h
theorem Done.here {α : Type} {a : α} {P : α → Store → Hp → Hp → List Addr → Prop} (W : Wd K H F μ S) (h : Done K E H F μ S (.ok a S) P) : P a S H F μ := h H F μ .refl W
/-- the new object p, frozen -/
theorem Done.newF {d : D} {P : D → Store → Hp → Hp → List Addr → Prop} (W : Wd K H F μ S) (h : Done K E H F μ S (.ok d S) P) {p : Addr} {o : HO} (hp : H p = none) : Wd K (upd H p o) (upd F p o) μ S ∧ Ext H F μ S (upd H p o) (upd F p o) μ S ∧ P d S (upd H p o) (upd F p o) μ :=
  let ⟨w, e⟩ := W.newF (o := o) hp
  ⟨w, e, h _ _ _ e w⟩
theorem rep_newT {p : Addr} {xs : List D} {vs : List V} (r : Reps K F μ xs vs) (hf : F p = none) : Rep K (upd F p (.tup vs)) μ (.tup xs) (.ref p) := .tup upd_same (r.mono (upd_mono hf) fun _ _ h => h)
theorem rep_newL {p : Addr} {xs : List D} {vs : List V} (r : Reps K F μ xs vs) (hf : F p = none) : Rep K (upd F p (.lst vs)) μ (.lst xs) (.ref p) := .lst upd_same (r.mono (upd_mono hf) fun _ _ h => h)
end

section
variable {X : Cx} {E : WX} {e a b : Expr} {es : List Expr} {m ma mb : ME} {mas : MA} {pos : Pos}
theorem se_var (i : Nat) {x : Str} (hN : X.N[i]? = some x := by rfl) (hv : Vis X.env.scope x := by first | exact Or.inl rfl | exact Or.inr (Or.inl rfl) | exact Or.inr (Or.inr rfl)) (hd : (x == ("__debug__" : Str)) = false := by decide)
    (hcd : (x == ("__classdict__" : Str)) = false := by decide) : PE X (.Name x pos) (tE X.K E (mVar i)) := by
  refine (pe_var hN hv hd hcd).imp ?_
  rintro τ H Q ⟨F, μ, σ, S, W, hs, h⟩
  unfold mVar at h
  cases q : σ[i]? with
  | none => rw [q] at h; exact h.elim
  | some o =>
    cases o with
    | none => rw [q] at h; exact h.elim
    | some d =>
      rw [q] at h
      obtain ⟨v, h1, r⟩ := hs.get i d q
      exact ⟨v, h1, h.here W v r⟩
theorem se_k {d : D} {v : V} (h : PE X e (tC v)) (hr : ∀ F μ, Rep X.K F μ d v) : PE X e (tE X.K E (mK d)) := by
  refine h.imp ?_
  rintro τ H Q ⟨F, μ, σ, S, W, hs, h⟩
  exact h.here W v (hr F μ)
theorem se_int {i j} : PE X (.Constant (.int i) j pos) (tE X.K E (mK (.int i))) := se_k pe_int fun _ _ => .int i
theorem se_bl {i j} : PE X (.Constant (.bool i) j pos) (tE X.K E (mK (.bl i))) := se_k pe_bl fun _ _ => .bl i
theorem se_non {j} : PE X (.Constant .none j pos) (tE X.K E (mK .non)) := se_k pe_non fun _ _ => .non
theorem se_str {x j} : PE X (.Constant (.str x) j pos) (tE X.K E (mK (.str x))) := se_k pe_str fun _ _ => .str x

theorem t2 {f : D → D → Store → R D} {K : PySem.W.Frag} {τ H Q} (h : tE K E (m2 f ma mb) τ H Q) : tOp (r2 K f) (tE K E ma) (tE K E mb) τ H Q := by
  obtain ⟨F, μ, σ, S, W, hs, h⟩ := h
  refine ⟨F, μ, σ, S, W, hs, (h.split W).mono fun x S1 H1 F1 μ1 e1 W1 h1 v1 q1 => ⟨F1, μ1, σ, S1, W1, hs.ext e1, (h1.split W1).mono fun y S2 H2 F2 μ2 e2 W2 h2 v2 q2 => ⟨_, F2, μ2, S2, x, y, W2, q1.ext e2, q2, h2⟩⟩⟩
theorem se_op {op : Operator} {f : D → D → Store → R D} (ho : OpR X (binaryOp op) (r2 X.K f)) (ha : PE X a (tE X.K E ma)) (hb : PE X b (tE X.K E mb)) : PE X (.BinOp a op b pos) (tE X.K E (m2 f ma mb)) := (pe_op ho ha hb).imp fun _ _ _ => t2
theorem se_cmp {op : CmpOp} {f : D → D → Store → R D} (ho : OpR X (compareOp op) (r2 X.K f)) (ha : PE X a (tE X.K E ma)) (hb : PE X b (tE X.K E mb)) (hm : behindInMarks op b = false := by first | exact nomark _ | rfl) : PE X (.Compare a [op] [b] pos) (tE X.K E (m2 f ma mb)) := (pe_cmpR ho ha hb hm).imp fun _ _ _ => t2
theorem se_ix {f : D → D → Store → R D} (ho : IxR X (r2 X.K f)) (ha : PE X a (tE X.K E ma)) (hb : PE X b (tE X.K E mb)) (hs : PlainIx b := by intro _ _; rfl) : PE X (.Subscript a b pos) (tE X.K E (m2 f ma mb)) := (pe_ix ho ha hb hs).imp fun _ _ _ => t2
theorem se_un {op : UnaryOp} {f : D → Store → R D} (ho : UnR X (unaryOp op) (r1 X.K f)) (ha : PE X a (tE X.K E ma)) : PE X (.UnaryOp op a pos) (tE X.K E (m1 f ma)) := by
  refine (pe_un ho ha).imp ?_
  rintro τ H Q ⟨F, μ, σ, S, W, hs, h⟩
  exact ⟨F, μ, σ, S, W, hs, (h.split W).mono fun x S1 H1 F1 μ1 e1 W1 h1 v1 q1 => ⟨_, F1, μ1, S1, x, W1, q1, h1⟩⟩
theorem sa_nil : PA X [] (tA X.K E mNil) := pa_nil.imp fun τ H Q ⟨F, μ, σ, S, W, hs, h⟩ => h.here W [] .nil
theorem sa_cons (ha : PE X e (tE X.K E ma)) (hr : PA X es (tA X.K E mas)) (hs : starEach (e :: es) X.env = (false, eval e X.env) :: starEach es X.env := by rfl) : PA X (e :: es) (tA X.K E (mCons ma mas)) := by
  refine (pa_cons ha hr hs).imp ?_
  rintro τ H Q ⟨F, μ, σ, S, W, hs, h⟩
  exact ⟨F, μ, σ, S, W, hs, (h.split W).mono fun x S1 H1 F1 μ1 e1 W1 h1 v1 q1 => ⟨F1, μ1, σ, S1, W1, hs.ext e1, (h1.split W1).mono fun xs S2 H2 F2 μ2 e2 W2 h2 vs q2 => h2.here W2 _ (.cons (q1.ext e2) q2)⟩⟩
theorem sk_nil : PK X [] (tA X.K E mNil) := pk_nil.imp fun τ H Q ⟨F, μ, σ, S, W, hs, h⟩ => h.here W [] .nil
theorem sk_cons {nm : Option Str} {kpos : Pos} {kws : List Keyword} (ha : PE X e (tE X.K E ma)) (hr : PK X kws (tA X.K E mas)) : PK X (⟨nm, e, kpos⟩ :: kws) (tA X.K E (mCons ma mas)) := by
  refine (pk_cons ha hr).imp ?_
  rintro τ H Q ⟨F, μ, σ, S, W, hs, h⟩
  exact ⟨F, μ, σ, S, W, hs, (h.split W).mono fun x S1 H1 F1 μ1 e1 W1 h1 v1 q1 => ⟨F1, μ1, σ, S1, W1, hs.ext e1, (h1.split W1).mono fun xs S2 H2 F2 μ2 e2 W2 h2 vs q2 => h2.here W2 _ (.cons (q1.ext e2) q2)⟩⟩
theorem se_tup {k} (h : PA X es (tA X.K E mas)) : PE X (.Tuple es k pos) (tE X.K E (mTup mas)) := by
  refine (pe_tup h).imp ?_
  rintro τ H Q ⟨F, μ, σ, S, W, hs, h⟩
  refine ⟨F, μ, σ, S, W, hs, (h.split W).mono fun xs S1 H1 F1 μ1 e1 W1 h1 vs q => ?_⟩
  by_cases hz : xs.length ≤ 1000000
  · rw [if_pos hz] at h1
    refine ⟨by rw [← q.length]; exact lim_ok hz, fun p hp => ?_⟩
    obtain ⟨_, _, h2⟩ := h1.newF W1 (o := .tup vs) hp
    exact h2 _ (rep_newT q (W1.fnone hp))
  · rw [if_neg hz] at h1; exact h1.elim
theorem se_lst (h : PA X es (tA X.K E mas)) : PE X (.List es pos) (tE X.K E (mLst mas)) := by
  refine (pe_lst h).imp ?_
  rintro τ H Q ⟨F, μ, σ, S, W, hs, h⟩
  refine ⟨F, μ, σ, S, W, hs, (h.split W).mono fun xs S1 H1 F1 μ1 e1 W1 h1 vs q => ?_⟩
  by_cases hz : xs.length ≤ 1000000
  · rw [if_pos hz] at h1
    refine ⟨by rw [← q.length]; exact lim_ok hz, fun p hp => ?_⟩
    obtain ⟨_, _, h2⟩ := h1.newF W1 (o := .lst vs) hp
    exact h2 _ (rep_newL q (W1.fnone hp))
  · rw [if_neg hz] at h1; exact h1.elim
/-- a new cell for a new list -/
theorem new_cell {E : XK} {K : PySem.W.Frag} {H F : Hp} {μ : List Addr} {S : Store} {xs : List D} {vs : List V} {P : D → Store → Hp → Hp → List Addr → Prop} (W : Wd K H F μ S) (q : Reps K F μ xs vs)
    (h : Done K E H F μ S (.ok (.ref S.length) (S ++ [.lst xs])) P) {p : Addr} (hp : H p = none) : P (.ref S.length) (S ++ [.lst xs]) (upd H p (.lst vs)) F (μ ++ [p]) ∧ Rep K F (μ ++ [p]) (.ref S.length) (.ref p) := by
  obtain ⟨w, e⟩ := W.newC (c := .lst xs) (o := .lst vs) hp ⟨vs, upd_same, q.mono (fun _ _ h => h) fun l a h => by rw [List.getElem?_append_left (List.getElem?_eq_some_iff.mp h).1]; exact h⟩ rfl
  exact ⟨h _ _ _ e w, .ref (by rw [← W.len]; simp)⟩
theorem se_lstM (h : PA X es (tA X.K E mas)) : PE X (.List es pos) (tE X.K E (mLstM mas)) := by
  refine (pe_lst h).imp ?_
  rintro τ H Q ⟨F, μ, σ, S, W, hs, h⟩
  refine ⟨F, μ, σ, S, W, hs, (h.split W).mono fun xs S1 H1 F1 μ1 e1 W1 h1 vs q => ?_⟩
  by_cases hz : xs.length ≤ 1000000
  · rw [if_pos hz] at h1
    refine ⟨by rw [← q.length]; exact lim_ok hz, fun p hp => ?_⟩
    obtain ⟨h2, h3⟩ := new_cell W1 q h1 hp
    exact h2 _ h3
  · rw [if_neg hz] at h1; exact h1.elim
/-- a built-in called by its name -/
theorem se_callB {x : Str} {p : Pos} {id : String} {f : List D → Store → R D} (hc : CallR X (.builtin id) (rN X.K f)) (hg : Gl X x) (hm : X.mg x = none) (hv : bootBuiltins x = some (.builtin id)) (ha : PA X (e :: es) (tA X.K E mas)) (hn : x ≠ "__name__" := by decide) (hdb : (x == ("__debug__" : Str)) = false := by decide)
    (he : starEach (e :: es) X.env = (false, eval e X.env) :: starEach es X.env := by rfl) (hpl : (backTo pos (starEach es X.env)).any (·.1) = false := by rfl) : PE X (.Call (.Name x p) (e :: es) [] pos) (tE X.K E (mN f mas)) := by
  refine (pe_callB hc hg hm hv ha hn hdb he hpl).imp ?_
  rintro τ H Q ⟨F, μ, σ, S, W, hs, h⟩
  exact ⟨F, μ, σ, S, W, hs, (h.split W).mono fun xs S1 H1 F1 μ1 e1 W1 h1 vs q => ⟨_, F1, μ1, S1, xs, W1, q, h1⟩⟩
theorem se_callTy {x : Str} {p : Pos} {T : String} {f : List D → Store → R D} (hc : CallR X (.type T) (rN X.K f)) (hg : Gl X x) (hm : X.mg x = none) (hv : bootBuiltins x = some (.type T)) (ha : PA X (e :: es) (tA X.K E mas)) (hn : x ≠ "__name__" := by decide) (hdb : (x == ("__debug__" : Str)) = false := by decide)
    (he : starEach (e :: es) X.env = (false, eval e X.env) :: starEach es X.env := by rfl) (hpl : (backTo pos (starEach es X.env)).any (·.1) = false := by rfl) : PE X (.Call (.Name x p) (e :: es) [] pos) (tE X.K E (mN f mas)) := by
  refine (pe_callTy hc hg hm hv ha hn hdb he hpl).imp ?_
  rintro τ H Q ⟨F, μ, σ, S, W, hs, h⟩
  exact ⟨F, μ, σ, S, W, hs, (h.split W).mono fun xs S1 H1 F1 μ1 e1 W1 h1 vs q => ⟨_, F1, μ1, S1, xs, W1, q, h1⟩⟩
end

/-! ### tests -/
def mBool (a : ME) : MT := fun σ S => (a σ S).bind fun d S1 => match d with
  | .bl b => .ok b S1
  | _ => .no
def mAndT (a b : MT) : MT := fun σ S => (a σ S).bind fun c S1 => if c then b σ S1 else .ok false S1
def mOrT (a b : MT) : MT := fun σ S => (a σ S).bind fun c S1 => if c then .ok true S1 else b σ S1
def mNotT (a : MT) : MT := fun σ S => (a σ S).bind fun c S1 => .ok (!c) S1
/-- .. as values, all but the last being bools -/
def mAnd (a b : ME) : ME := fun σ S => (a σ S).bind fun d S1 => match d with
  | .bl true => b σ S1
  | .bl false => .ok (.bl false) S1
  | _ => .no
def mOr (a b : ME) : ME := fun σ S => (a σ S).bind fun d S1 => match d with
  | .bl true => .ok (.bl true) S1
  | .bl false => b σ S1
  | _ => .no
def mNot (a : ME) : ME := fun σ S => (a σ S).bind fun d S1 => match d with
  | .bl b => .ok (.bl (!b)) S1
  | _ => .no
def mIfE (c : MT) (a b : ME) : ME := fun σ S => (c σ S).bind fun t S1 => if t then a σ S1 else b σ S1
section
variable {X : Cx} {E : WX} {e a b c : Expr} {rest : List Expr} {m ma mb : ME} {mt nt : MT} {pos : Pos}
theorem tB_of {K : PySem.W.Frag} {τ H Q} (h : tT K E (mBool m) τ H Q) : tB (tE K E m) τ H Q := by
  obtain ⟨F, μ, σ, S, W, hs, h⟩ := h
  refine ⟨F, μ, σ, S, W, hs, (h.split W).mono fun d S1 H1 F1 μ1 e1 W1 h1 v q => ?_⟩
  cases q with
  | bl b => exact ⟨b, rfl, h1.here W1⟩
  | _ => exact h1.elim
theorem st_val (h : PE X e (tE X.K E m)) (he : ∀ whole, isTrue e X.env whole = (do let v ← whole; standAt e.pos; holding [v] (truthy v)) := by intro _; rfl) : PT X e (tT X.K E (mBool m)) := (pt_val h he).imp fun _ _ _ => tB_of
theorem st_cmp {op : CmpOp} {f : D → D → Store → R D} (ho : OpR X (compareOp op) (r2 X.K f)) (ha : PE X a (tE X.K E ma)) (hb : PE X b (tE X.K E mb)) (hm : behindInMarks op b = false := by first | exact nomark _ | rfl) : PT X (.Compare a [op] [b] pos) (tT X.K E (mBool (m2 f ma mb))) :=
  (pt_cmpR ho ha hb hm).imp fun τ H Q h => by
    obtain ⟨F, μ, σ, S, W, hs, h⟩ := h
    refine t2 (E := E) ⟨F, μ, σ, S, W, hs, (h.split W).mono fun d S1 H1 F1 μ1 e1 W1 h1 v q => ?_⟩
    cases q with
    | bl b => exact ⟨b, rfl, h1.here W1⟩
    | _ => exact h1.elim
theorem sw_and1 (ha : PT X a (tT X.K E mt)) : PW X (.BoolOp .And [a] pos) (tT X.K E mt) := pw_and1 ha
theorem sw_or1 (ha : PT X a (tT X.K E mt)) : PW X (.BoolOp .Or [a] pos) (tT X.K E mt) := pw_or1 ha
theorem sw_and (ha : PT X a (tT X.K E mt)) (hb : PW X (.BoolOp .And (b :: rest) pos) (tT X.K E nt)) : PW X (.BoolOp .And (a :: b :: rest) pos) (tT X.K E (mAndT mt nt)) :=
  (pw_and ha hb).imp fun τ H Q h => by
    obtain ⟨F, μ, σ, S, W, hs, h⟩ := h
    refine ⟨F, μ, σ, S, W, hs, (h.split W).mono fun c S1 H1 F1 μ1 e1 W1 h1 => ?_⟩
    cases c with
    | true => exact iteT ⟨F1, μ1, σ, S1, W1, hs.ext e1, h1⟩
    | false => exact iteF (h1.here W1)
theorem sw_or (ha : PT X a (tT X.K E mt)) (hb : PW X (.BoolOp .Or (b :: rest) pos) (tT X.K E nt)) : PW X (.BoolOp .Or (a :: b :: rest) pos) (tT X.K E (mOrT mt nt)) :=
  (pw_or ha hb).imp fun τ H Q h => by
    obtain ⟨F, μ, σ, S, W, hs, h⟩ := h
    refine ⟨F, μ, σ, S, W, hs, (h.split W).mono fun c S1 H1 F1 μ1 e1 W1 h1 => ?_⟩
    cases c with
    | false => exact iteF ⟨F1, μ1, σ, S1, W1, hs.ext e1, h1⟩
    | true => exact iteT (h1.here W1)
theorem st_not (ha : PT X a (tT X.K E mt)) : PT X (.UnaryOp .Not a pos) (tT X.K E (mNotT mt)) :=
  (pt_not ha).imp fun τ H Q h => by
    obtain ⟨F, μ, σ, S, W, hs, h⟩ := h
    exact ⟨F, μ, σ, S, W, hs, (h.split W).mono fun c S1 H1 F1 μ1 e1 W1 h1 => h1.here W1⟩
theorem se_one {op} (h : PE X a (tE X.K E m)) : PE X (.BoolOp op [a] pos) (tE X.K E m) := pe_one h
theorem se_and (ha : PE X a (tE X.K E ma)) (hb : PE X (.BoolOp .And (b :: rest) pos) (tE X.K E mb)) : PE X (.BoolOp .And (a :: b :: rest) pos) (tE X.K E (mAnd ma mb)) :=
  (pe_and ha hb).imp fun τ H Q h => by
    obtain ⟨F, μ, σ, S, W, hs, h⟩ := h
    refine ⟨F, μ, σ, S, W, hs, (h.split W).mono fun d S1 H1 F1 μ1 e1 W1 h1 v q => ?_⟩
    cases q with
    | bl c =>
      cases c with
      | true => exact ⟨true, rfl, iteT ⟨F1, μ1, σ, S1, W1, hs.ext e1, h1⟩⟩
      | false => exact ⟨false, rfl, iteF (h1.here W1 _ (.bl false))⟩
    | _ => exact h1.elim
theorem se_or (ha : PE X a (tE X.K E ma)) (hb : PE X (.BoolOp .Or (b :: rest) pos) (tE X.K E mb)) : PE X (.BoolOp .Or (a :: b :: rest) pos) (tE X.K E (mOr ma mb)) :=
  (pe_or ha hb).imp fun τ H Q h => by
    obtain ⟨F, μ, σ, S, W, hs, h⟩ := h
    refine ⟨F, μ, σ, S, W, hs, (h.split W).mono fun d S1 H1 F1 μ1 e1 W1 h1 v q => ?_⟩
    cases q with
    | bl c =>
      cases c with
      | false => exact ⟨false, rfl, iteF ⟨F1, μ1, σ, S1, W1, hs.ext e1, h1⟩⟩
      | true => exact ⟨true, rfl, iteT (h1.here W1 _ (.bl true))⟩
    | _ => exact h1.elim
theorem se_not (ha : PE X a (tE X.K E ma)) : PE X (.UnaryOp .Not a pos) (tE X.K E (mNot ma)) :=
  (pe_not ha).imp fun τ H Q h => by
    obtain ⟨F, μ, σ, S, W, hs, h⟩ := h
    refine ⟨F, μ, σ, S, W, hs, (h.split W).mono fun d S1 H1 F1 μ1 e1 W1 h1 v q => ?_⟩
    cases q with
    | bl c => exact ⟨c, rfl, h1.here W1 _ (.bl _)⟩
    | _ => exact h1.elim
theorem se_ifE (hc : PT X c (tT X.K E mt)) (ha : PE X a (tE X.K E ma)) (hb : PE X b (tE X.K E mb)) : PE X (.IfExp c a b pos) (tE X.K E (mIfE mt ma mb)) :=
  (pe_ifExp hc ha hb).imp fun τ H Q h => by
    obtain ⟨F, μ, σ, S, W, hs, h⟩ := h
    refine ⟨F, μ, σ, S, W, hs, (h.split W).mono fun c S1 H1 F1 μ1 e1 W1 h1 => ?_⟩
    cases c with
    | true => exact iteT ⟨F1, μ1, σ, S1, W1, hs.ext e1, h1⟩
    | false => exact iteF ⟨F1, μ1, σ, S1, W1, hs.ext e1, h1⟩
end
end MM

set_option Elab.async false
set_option linter.all false
set_option maxRecDepth 100000
/-! Targets, statements, loops, comprehensions. -/
namespace MM
open PySem PySem.Spec PyProof.Rows L2

def R.quiet {α : Type} (r : R α) : R α := match r with
  | .ok a S => .ok a S
  | _ => .no
def R.toO {α : Type} (r : R α) (σ : Sg) (k : α → Store → O) : O := match r with
  | .ok a S => k a S
  | .ex e S => .ex e σ S
  | .no => .no
def O.seq (o : O) (k : MS) : O := match o with
  | .nx σ S => k σ S
  | o => o
/-- behind a loop's turn -/
def O.next (o : O) (k : MS) : O := match o with
  | .nx σ S => k σ S
  | .ct σ S => k σ S
  | .bk σ S => .nx σ S
  | o => o
section
variable {α : Type} {K : PySem.W.Frag} {E : WX} {H F H1 F1 : Hp} {μ μ1 : List Addr} {S S1 : Store} {σ : Sg} {τ : L2.St} {D : Ends}
theorem DoneS.split {r : R α} {k : α → Store → O} (W : Wd K H F μ S) (hs : Sl K F μ σ τ) (h : DoneS K E H F μ S (r.toO σ k) D) : Done K (WE E τ) H F μ S r (fun a S' H' F' μ' => DoneS K E H' F' μ' S' (k a S') D) := by
  cases r with
  | ok a S' => exact fun H' F' μ' e w => DoneS.from (o := k a S') W e h
  | ex e S' => exact fun H' F' μ' c od f w q => h H' F' μ' τ c od f w (hs.ext f) q
  | no => exact h
theorem Done.quiet {E' E'' : XK} {r : R α} {P : α → Store → Hp → Hp → List Addr → Prop} (h : Done K E' H F μ S r.quiet P) : Done K E'' H F μ S r P := by
  cases r with
  | ok a S' => exact h
  | ex e S' => exact h.elim
  | no => exact h
/-- somewhere behind a world, k is to go on -/
def At (K : PySem.W.Frag) (E : WX) (D : Ends) (k : MS) (H0 F0 : Hp) (μ0 : List Addr) (S0 : Store) (τ : L2.St) (H : Hp) : Prop := ∃ F μ σ S, Ext H0 F0 μ0 S0 H F μ S ∧ Wd K H F μ S ∧ Sl K F μ σ τ ∧ DoneS K E H F μ S (k σ S) D
theorem DoneS.seq {o : O} {k : MS} (W : Wd K H F μ S) (h : DoneS K E H F μ S (o.seq k) D) : DoneS K E H F μ S o { D with nx := tS K E k D } := by
  cases o with
  | nx σ S' => exact fun H' F' μ' τ e w s => ⟨F', μ', σ, S', w, s, DoneS.from (o := k σ S') W e h⟩
  | rt d S' => exact h
  | bk σ S' => exact h
  | ct σ S' => exact h
  | ex e σ' S' => exact h
  | no => exact h
theorem DoneS.next {o : O} {k : MS} (W : Wd K H F μ S) (h : DoneS K E H F μ S (o.next k) D) : DoneS K E H F μ S o { D with nx := At K E D k H F μ S, ct := At K E D k H F μ S, bk := D.nx } := by
  cases o with
  | nx σ S' => exact fun H' F' μ' τ e w s => ⟨F', μ', σ, S', e, w, s, DoneS.from (o := k σ S') W e h⟩
  | rt d S' => exact h
  | bk σ S' => exact h
  | ct σ S' => exact fun H' F' μ' τ e w s => ⟨F', μ', σ, S', e, w, s, DoneS.from (o := k σ S') W e h⟩
  | ex e σ' S' => exact h
  | no => exact h
theorem DoneS.imp {o : O} {D' : Ends} (h : DoneS K E H F μ S o D) (h1 : ∀ τ H, D.nx τ H → D'.nx τ H) (h2 : ∀ v H, D.rt v H → D'.rt v H) (h3 : ∀ τ H, D.bk τ H → D'.bk τ H) (h4 : ∀ τ H, D.ct τ H → D'.ct τ H) : DoneS K E H F μ S o D' := by
  cases o with
  | nx σ S' => exact fun H' F' μ' τ e w s => h1 _ _ (h H' F' μ' τ e w s)
  | rt d S' => exact fun H' F' μ' τ e w s => h2 _ _ (h H' F' μ' τ e w s)
  | bk σ S' => exact fun H' F' μ' τ e w s => h3 _ _ (h H' F' μ' τ e w s)
  | ct σ S' => exact fun H' F' μ' τ e w s => h4 _ _ (h H' F' μ' τ e w s)
  | ex e σ' S' => exact h
  | no => exact h
theorem DoneS.here {σ : Sg} (W : Wd K H F μ S) (s : Sl K F μ σ τ) (h : DoneS K E H F μ S (.nx σ S) D) : D.nx τ H := h H F μ τ .refl W s
end

/-! ### statements -/
def mSkip : MS := fun σ S => .nx σ S
def mSeq (a b : MS) : MS := fun σ S => (a σ S).seq b
def mBrk : MS := fun σ S => .bk σ S
def mCt : MS := fun σ S => .ct σ S
def mExpr (e : ME) : MS := fun σ S => (e σ S).toO σ fun _ S1 => .nx σ S1
def mRet (e : ME) : MS := fun σ S => (e σ S).toO σ fun d S1 => .rt d S1
def mRetN : MS := fun _ S => .rt .non S
def mIf (c : MT) (a b : MS) : MS := fun σ S => (c σ S).toO σ fun t S1 => if t then a σ S1 else b σ S1
def mAsg (e : ME) (g : MG) : MS := fun σ S => (e σ S).toO σ fun d S1 => (g d σ S1).toO σ fun σ1 S2 => .nx σ1 S2
def gN (i : Nat) : MG := fun d σ S => .ok (σ.set i (some d)) S
def gsNil : List D → Sg → Store → R Sg := fun ds σ S => match ds with
  | [] => .ok σ S
  | _ => .no
def gsCons (g : MG) (r : List D → Sg → Store → R Sg) : List D → Sg → Store → R Sg := fun ds σ S => match ds with
  | d :: ds => (g d σ S).bind fun σ1 S1 => (r ds σ1 S1).quiet
  | _ => .no
def gT (n : Nat) (g : List D → Sg → Store → R Sg) : MG := fun d σ S => match d with
  | .tup ds => if ds.length = n then g ds σ S else .no
  | _ => .no
section
variable {X : Cx} {E : WX} {e a b c : Expr} {st : Stmt} {rest : List Stmt} {m ma mb : ME} {ms ns : MS} {mt : MT} {pos : Pos}
theorem ss_nil : PSs X [] (tS X.K E mSkip) := pss_nil.imp fun D τ H ⟨F, μ, σ, S, W, hs, h⟩ => h.here W hs
theorem ss_cons (h1 : PS X st (tS X.K E ms)) (h2 : PSs X rest (tS X.K E ns)) : PSs X (st :: rest) (tS X.K E (mSeq ms ns)) :=
  (pss_cons h1 h2).imp fun D τ H ⟨F, μ, σ, S, W, hs, h⟩ => ⟨F, μ, σ, S, W, hs, DoneS.seq W h⟩
theorem ss_one (h1 : PS X st (tS X.K E ms)) : PSs X [st] (tS X.K E ms) := pss_one h1
theorem s_pass : PS X (.Pass pos) (tS X.K E mSkip) := ps_pass.imp fun D τ H ⟨F, μ, σ, S, W, hs, h⟩ => h.here W hs
theorem s_break : PS X (.Break pos) (tS X.K E mBrk) := ps_break.imp fun D τ H ⟨F, μ, σ, S, W, hs, h⟩ => h H F μ τ .refl W hs
theorem s_continue : PS X (.Continue pos) (tS X.K E mCt) := ps_continue.imp fun D τ H ⟨F, μ, σ, S, W, hs, h⟩ => h H F μ τ .refl W hs
theorem s_expr (he : PE X e (tE X.K E m)) (hs : swapsWith e none pos.line X.env = pure false := by rfl) : PS X (.Expr e pos) (tS X.K E (mExpr m)) :=
  (ps_expr he hs).imp fun D τ H ⟨F, μ, σ, S, W, hs, h⟩ => ⟨F, μ, σ, S, W, hs, (h.split W hs).mono fun d S1 H1 F1 μ1 e1 W1 h1 v q => h1.here W1 (hs.ext e1)⟩
theorem s_ret (he : PE X e (tE X.K E m)) : PS X (.Return (some e) pos) (tS X.K E (mRet m)) :=
  (ps_ret he).imp fun D τ H ⟨F, μ, σ, S, W, hs, h⟩ => ⟨F, μ, σ, S, W, hs, (h.split W hs).mono fun d S1 H1 F1 μ1 e1 W1 h1 v q => h1 H1 F1 μ1 v .refl W1 q⟩
theorem s_retN : PS X (.Return none pos) (tS X.K E mRetN) := ps_retN.imp fun D τ H ⟨F, μ, σ, S, W, hs, h⟩ => h H F μ .non .refl W .non
theorem s_if {p q : List Stmt} (hc : PT X c (tT X.K E mt)) (ha : PSs X p (tS X.K E ms)) (hb : PSs X q (tS X.K E ns)) : PS X (.If c p q pos) (tS X.K E (mIf mt ms ns)) :=
  (ps_if hc ha hb).imp fun D τ H ⟨F, μ, σ, S, W, hs, h⟩ => ⟨F, μ, σ, S, W, hs, (h.split W hs).mono fun t S1 H1 F1 μ1 e1 W1 h1 => by
    cases t with
    | true => exact iteT ⟨F1, μ1, σ, S1, W1, hs.ext e1, h1⟩
    | false => exact iteF ⟨F1, μ1, σ, S1, W1, hs.ext e1, h1⟩⟩
theorem off_refl {ow : List Nat} {τ : L2.St} : Off ow τ τ := ⟨rfl, fun _ _ => rfl⟩
theorem Off.trans {ow ow' : List Nat} {τ τ1 τ2 : L2.St} (a : Off ow τ τ1) (b : Off ow' τ1 τ2) : Off (ow ++ ow') τ τ2 := ⟨b.1.trans a.1, fun i hi => by
  rw [List.mem_append, not_or] at hi
  exact (b.2 i hi.2).trans (a.2 i hi.1)⟩
theorem sg_name {x : Str} (i : Nat) (hN : X.N.Nodup) (hi : X.N[i]? = some x := by rfl) (hx : Loc X.env.scope x := by first | exact Or.inl rfl | exact Or.inr rfl) (hf : X.fn x = true ∨ X.env.scope.names.lookup x = some .local := by first | exact .inl rfl | exact .inr rfl) : PG X (.Name x pos) (tG X.K E [i] (gN i)) :=
  (pg_name hN hi hx hf).imp fun v τ H Q ⟨F, μ, σ, S, d, W, hs, r, h⟩ => h H F μ .refl W _ (hs.set r) ⟨by simp, fun j hj => by
    rw [List.getElem?_set_ne fun e => hj (by simp [e])]⟩
theorem sgs_nil : PGs X [] (tGs X.K E [] gsNil) := pgs_nil.imp fun vs τ H Q ⟨F, μ, σ, S, ds, W, hs, r, h⟩ => by
  cases r with
  | nil => exact ⟨rfl, h H F μ .refl W _ hs off_refl⟩
  | cons => exact h.elim
theorem sgs_cons {es : List Expr} {ow ow' : List Nat} {g : MG} {r : List D → Sg → Store → R Sg} (h1 : PG X e (tG X.K E ow g)) (h2 : PGs X es (tGs X.K E ow' r))
    (hs : (assignEach (e :: es) X.env).map (·.2) = assign e X.env :: (assignEach es X.env).map (·.2) := by rfl) : PGs X (e :: es) (tGs X.K E (ow ++ ow') (gsCons g r)) :=
  (pgs_cons h1 h2 hs).imp fun vs τ H Q ⟨F, μ, σ, S, ds, W, hs, q, h⟩ => by
    cases q with
    | nil => exact h.elim
    | cons q qs =>
      exact ⟨_, _, rfl, F, μ, σ, S, _, W, hs, q, (Done.split W h).mono fun σ1 S1 H1 F1 μ1 e1 W1 h1 τ1 hs1 o1 => ⟨F1, μ1, σ1, S1, _, W1, hs1, qs.ext e1, (Done.quiet h1).mono fun σ2 S2 H2 F2 μ2 e2 W2 h2 τ2 hs2 o2 => h2 τ2 hs2 (o1.trans o2)⟩⟩
theorem sg_tup {es : List Expr} {k n : Nat} {ow : List Nat} {g : List D → Sg → Store → R Sg} (hc : X.calm = true) (h : PGs X es (tGs X.K E ow g)) (hn : (assignEach es X.env).length = n := by rfl) (hst : (assignEach es X.env).findIdx? (·.1) = none := by rfl) : PG X (.Tuple es k pos) (tG X.K E ow (gT n g)) :=
  (pg_tup hc h hn hst).imp fun v τ H Q ⟨F, μ, σ, S, d, W, hs, r, h⟩ => by
    cases r with
    | tup hq rs =>
      have h' : Done X.K _ H F μ S (if _ then _ else _) _ := h
      split at h'
      · rename_i hl
        exact ⟨_, _, rfl, SqT.of (W.sub _ _ hq), by rw [← rs.length]; exact hl, F, μ, σ, S, _, W, hs, rs, h'⟩
      · exact h'.elim
    | _ => exact h.elim
theorem s_asg {tg : Expr} {ow : List Nat} {g : MG} (he : PE X e (tE X.K E m)) (hg : PG X tg (tG X.K E ow g)) (hs : swapsWithSole [tg] e pos.line X.env = pure false := by rfl) (hw : swappedStores [tg] e X.env = pure none := by rfl)
    (h1 : (assignEach [tg] X.env).map (·.2) = [assign tg X.env] := by rfl) : PS X (.Assign [tg] e pos) (tS X.K E (mAsg m g)) :=
  (ps_asg he hg hs hw h1).imp fun D τ H ⟨F, μ, σ, S, W, hs, h⟩ => ⟨F, μ, σ, S, W, hs, (h.split W hs).mono fun d S1 H1 F1 μ1 e1 W1 h1 v q => ⟨F1, μ1, σ, S1, d, W1, hs.ext e1, q, (h1.split W1 (hs.ext e1)).mono fun σ2 S2 H2 F2 μ2 e2 W2 h2 τ2 hs2 _ => h2.here W2 hs2⟩⟩
theorem s_set {x : Str} {pos' : Pos} (i : Nat) (hN : X.N.Nodup) (he : PE X e (tE X.K E m)) (hi : X.N[i]? = some x := by rfl) (hx : Loc X.env.scope x := by first | exact Or.inl rfl | exact Or.inr rfl) (hs : swapsWith e (some (.Name x pos')) pos.line X.env = pure false := by rfl) (hf : X.fn x = true ∨ X.env.scope.names.lookup x = some .local := by first | exact .inl rfl | exact .inr rfl) :
    PS X (.Assign [.Name x pos'] e pos) (tS X.K E (mAsg m (gN i))) :=
  (ps_set hN hi hx he hs hf).imp fun D τ H ⟨F, μ, σ, S, W, hs, h⟩ => ⟨F, μ, σ, S, W, hs, (h.split W hs).mono fun d S1 H1 F1 μ1 e1 W1 h1 v q => h1.here W1 ((hs.ext e1).set q)⟩
/-- a, b = x, y, the names plain locals -/
def mPar (i j : Nat) (as : MA) : MS := fun σ S => (as σ S).toO σ fun ds S1 => match ds with
  | [d, e] => .nx ((σ.set i (some d)).set j (some e)) S1
  | _ => .no
theorem s_par {x y : Str} {px py pt : Pos} {kt k2 pt2} {mas : MA} (i j : Nat) (hc : X.calm = true) (hN : X.N.Nodup) (ha : PA X [a, b] (tA X.K E mas)) (hij : i ≠ j := by decide) (hi : X.N[i]? = some x := by rfl) (hj : X.N[j]? = some y := by rfl)
    (hx : X.env.scope.names.lookup x = some .local := by rfl) (hy : X.env.scope.names.lookup y = some .local := by rfl)
    (hw : swappedStores [.Tuple [.Name x px, .Name y py] kt pt] (.Tuple [a, b] k2 pt2) X.env = pure (some [x, y]) := by rfl)
    (hs : swapsWithSole [.Tuple [.Name x px, .Name y py] kt pt] (.Tuple [a, b] k2 pt2) pos.line X.env = pure false := by rfl) :
    PS X (.Assign [.Tuple [.Name x px, .Name y py] kt pt] (.Tuple [a, b] k2 pt2) pos) (tS X.K E (mPar i j mas)) :=
  (ps_par hc hN hi hj hij hx hy ha hw hs).imp fun D τ H ⟨F, μ, σ, S, W, hs, h⟩ => ⟨F, μ, σ, S, W, hs, (h.split W hs).mono fun ds S1 H1 F1 μ1 e1 W1 h1 vs q => by
    cases q with
    | nil => exact h1.elim
    | cons r1 q =>
      cases q with
      | nil => exact h1.elim
      | cons r2 q =>
        cases q with
        | nil => exact ⟨_, _, rfl, DoneS.here W1 (((hs.ext e1).set r1).set r2) h1⟩
        | cons => exact h1.elim⟩
def mPar3 (i j l : Nat) (as : MA) : MS := fun σ S => (as σ S).toO σ fun ds S1 => match ds with
  | [d, e, f] => .nx (((σ.set i (some d)).set j (some e)).set l (some f)) S1
  | _ => .no
end

/-! ### what is walked -/
/-- J walks the items xs, whatever the world has become -/
def ItOk (K : PySem.W.Frag) (F : Hp) (μ : List Addr) (J : It) (xs : List D) : Prop := ∀ H F1 μ1 S1, Wd K H F1 μ1 S1 → (∀ a o, F a = some o → F1 a = some o) → (∀ (l : Nat) a, μ[l]? = some a → μ1[l]? = some a) →
  (∀ (i : Nat) d, xs[i]? = some d → J.go i H ∧ ∀ x H', J.yld i H x H' → ∃ F2, Ext H F1 μ1 S1 H' F2 μ1 S1 ∧ Wd K H' F2 μ1 S1 ∧ Rep K F2 μ1 d x) ∧ J.stop xs.length H
abbrev MI := Sg → Store → R (List D)
def tI (K : PySem.W.Frag) (E : WX) (m : MI) : TI := fun τ H Q => ∃ F μ σ S, Wd K H F μ S ∧ Sl K F μ σ τ ∧ Done K (WE E τ) H F μ S (m σ S) (fun xs _ H' F' μ' => ∀ J, ItOk K F' μ' J xs → Q J H')

def runFor (g : MG) (body : MS) : List D → MS
  | [] => fun σ S => .nx σ S
  | d :: ds => fun σ S => (g d σ S).toO σ fun σ1 S1 => (body σ1 S1).next (runFor g body ds)
def mFor (mi : MI) (g : MG) (body : MS) : MS := fun σ S => (mi σ S).toO σ fun xs S1 => runFor g body xs σ S1
def runWhile (c : MT) (body : MS) : Nat → MS
  | 0 => fun _ _ => .no
  | n + 1 => fun σ S => (c σ S).toO σ fun t S1 => if t then (body σ S1).next (runWhile c body n) else .nx σ S1
section
variable {X : Cx} {E : WX} {tg iter c : Expr} {body : List Stmt} {mb : MS} {mt : MT} {g : MG} {mi : MI} {ow : List Nat} {pos : Pos}
theorem t_for {K : PySem.W.Frag} {D : Ends} {τ H} (h : tS K E (mFor mi g mb) D τ H) : tFor (tI K E mi) (tG K E ow g) (tS K E mb) D τ H := by
  obtain ⟨F, μ, σ, S, W, hs, h⟩ := h
  refine ⟨F, μ, σ, S, W, hs, (h.split W hs).mono fun xs S1 H1 F1 μ1 e1 W1 h1 J hJ => ?_⟩
  let G : Nat → L2.St → Hp → Prop := fun i τ H => At K E D (runFor g mb (xs.drop i)) H1 F1 μ1 S1 τ H
  refine ⟨fun i m τ H => m = xs.length - i ∧ i ≤ xs.length ∧ G i τ H, ⟨xs.length, by simp, Nat.zero_le _, F1, μ1, σ, S1, .refl, W1, hs.ext e1, h1⟩, ?_⟩
  rintro i m τ2 H2 ⟨rfl, hi, F2, μ2, σ2, S2, e2, W2, hs2, h2⟩
  obtain ⟨j1, j2⟩ := hJ H2 F2 μ2 S2 W2 e2.fz e2.mu
  by_cases hlt : i < xs.length
  · refine .inr ⟨(j1 i xs[i] (List.getElem?_eq_getElem hlt)).1, G (i + 1), fun τ' H' q => ⟨xs.length - (i + 1), by omega, rfl, hlt, q⟩, fun x H' y => ?_⟩
    obtain ⟨F3, e3, W3, r3⟩ := (j1 i xs[i] (List.getElem?_eq_getElem hlt)).2 x H' y
    rw [List.drop_eq_getElem_cons hlt] at h2
    have h3 := DoneS.from W2 e3 h2
    refine ⟨F3, μ2, σ2, S2, xs[i], W3, hs2.ext e3, r3, (DoneS.split W3 ((hs2.ext e3)) h3).mono fun σ4 S4 H4 F4 μ4 e4 W4 h4 τ4 hs4 _ => ⟨F4, μ4, σ4, S4, W4, hs4, ?_⟩⟩
    refine DoneS.imp (DoneS.next W4 h4) (fun τ5 H5 q => ?_) (fun _ _ q => q) (fun _ _ q => q) fun τ5 H5 q => ?_
    all_goals
      obtain ⟨F5, μ5, σ5, S5, e5, W5, hs5, h5⟩ := q
      exact ⟨F5, μ5, σ5, S5, e2.trans W1 (e3.trans W2 (e4.trans W3 e5)), W5, hs5, h5⟩
  · have e : i = xs.length := by omega
    subst e
    rw [List.drop_length] at h2
    exact .inl ⟨j2, DoneS.here W2 hs2 h2⟩
theorem s_for (hp : PassesOwn (model X.prog X.w) X.A X.env X.xe) (hc : X.calm = true) (hi : PI X tg iter (tI X.K E mi)) (hg : PG X tg (tG X.K E ow g)) (hb : PSs X body (tS X.K E mb))
    (hs : ∀ x, foldedSetIterable iter X.env x = pure x := by intro _; rfl) : PS X (.For tg iter body [] pos) (tS X.K E (mFor mi g mb)) := (ps_for hp hc hi hg hb hs).imp fun _ _ _ => t_for
theorem s_while (n : Nat) (hp : PassesOwn (model X.prog X.w) X.A X.env X.xe) (hc : PT X c (tT X.K E mt)) (hb : PSs X body (tS X.K E mb)) : PS X (.While c body [] pos) (tS X.K E (runWhile mt mb n)) :=
  (ps_while hp hc hb).imp fun D τ H ⟨F, μ, σ, S, W, hs, h⟩ => by
    refine ⟨fun m τ H => ∃ F μ σ S, Wd X.K H F μ S ∧ Sl X.K F μ σ τ ∧ DoneS X.K E H F μ S (runWhile mt mb m σ S) D, ⟨n, F, μ, σ, S, W, hs, h⟩, ?_⟩
    rintro m τ2 H2 ⟨F2, μ2, σ2, S2, W2, hs2, h2⟩
    cases m with
    | zero => exact h2.elim
    | succ m =>
      refine ⟨F2, μ2, σ2, S2, W2, hs2, (DoneS.split W2 hs2 h2).mono fun t S3 H3 F3 μ3 e3 W3 h3 => ?_⟩
      cases t with
      | false => exact iteF (DoneS.here W3 (hs2.ext e3) h3)
      | true =>
        refine iteT ⟨fun τ H => ∃ F μ σ S, Wd X.K H F μ S ∧ Sl X.K F μ σ τ ∧ DoneS X.K E H F μ S (runWhile mt mb m σ S) D, fun τ' H' q => ⟨m, Nat.lt_succ_self _, q⟩, F3, μ3, σ2, S3, W3, hs2.ext e3, ?_⟩
        refine DoneS.imp (DoneS.next W3 h3) (fun τ5 H5 q => ?_) (fun _ _ q => q) (fun _ _ q => q) fun τ5 H5 q => ?_
        all_goals
          obtain ⟨F5, μ5, σ5, S5, e5, W5, hs5, h5⟩ := q
          exact ⟨F5, μ5, σ5, S5, W5, hs5, h5⟩
end
end MM

set_option Elab.async false
set_option linter.all false
set_option maxRecDepth 100000
/-! What for loops and comprehensions walk; comprehensions. -/
namespace MM
open PySem PySem.Spec PyProof.Rows L2

/-! ### freezing -/
def freezeAt (l : Nat) (S : Store) : Option (List D × Store) := match S[l]? with
  | some (.lst xs) => some (xs, S.set l (.fz xs))
  | some (.fz xs) => some (xs, S)
  | _ => none
section
variable {K : PySem.W.Frag} {E : XK} {H F : Hp} {μ : List Addr} {S S' : Store} {l : Nat} {a : Addr} {xs : List D}
theorem freeze_ok (W : Wd K H F μ S) (ha : μ[l]? = some a) (h : freezeAt l S = some (xs, S')) : ∃ F' vs, Ext H F μ S H F' μ S' ∧ Wd K H F' μ S' ∧ F' a = some (.lst vs) ∧ Reps K F' μ xs vs := by
  unfold freezeAt at h
  cases q : S[l]? with
  | none => rw [q] at h; cases h
  | some c =>
    cases c with
    | dic _ => rw [q] at h; cases h
    | dn _ => rw [q] at h; cases h
    | ob _ _ => rw [q] at h; cases h
    | dt _ => rw [q] at h; cases h
    | fd _ _ => rw [q] at h; cases h
    | fz ys =>
      rw [q] at h
      cases h
      obtain ⟨vs, h1, h2⟩ := W.cell l _ a q ha
      exact ⟨F, vs, .refl, W, h1, h2⟩
    | lst ys =>
      rw [q] at h
      cases h
      obtain ⟨vs, h1, h2, w, e⟩ := W.freeze q ha
      exact ⟨_, vs, e, w, upd_same, h2.ext e⟩
end
/-- a list handed over is changed no more -/
def frz (d : D) (S : Store) : R D := match d with
  | .ref l => match S[l]? with
    | some (.lst xs) => .ok (.lst xs) (S.set l (.fz xs))
    | some (.fz xs) => .ok (.lst xs) S
    | some (.dic _) => .ok d S
    | some (.dn _) => .ok d S
    | some (.ob _ _) => .ok d S
    | some (.dt _) => .ok d S
    | some (.fd _ _) => .ok d S
    | none => .no
  | d => .ok d S
def mFrz (m : ME) : ME := m1 frz m
section
variable {X : Cx} {E : WX} {e : Expr} {m : ME}
theorem frz_ok {E : XK} {K : PySem.W.Frag} {H F : Hp} {μ : List Addr} {S : Store} {d : D} {v : V} {P : D → Store → Hp → Hp → List Addr → Prop} (W : Wd K H F μ S) (r : Rep K F μ d v) (h : Done K E H F μ S (frz d S) P) :
    ∃ F' S' d', Ext H F μ S H F' μ S' ∧ Wd K H F' μ S' ∧ Rep K F' μ d' v ∧ P d' S' H F' μ := by
  cases r with
  | ref ha =>
    rename_i l a
    unfold frz at h
    dsimp only at h
    cases q : S[l]? with
    | none => rw [q] at h; exact h.elim
    | some c =>
      cases c with
      | dic _ => rw [q] at h; exact ⟨F, S, _, .refl, W, .ref ha, h.here W⟩
      | dn _ => rw [q] at h; exact ⟨F, S, _, .refl, W, .ref ha, h.here W⟩
      | ob _ _ => rw [q] at h; exact ⟨F, S, _, .refl, W, .ref ha, h.here W⟩
      | dt _ => rw [q] at h; exact ⟨F, S, _, .refl, W, .ref ha, h.here W⟩
      | fd _ _ => rw [q] at h; exact ⟨F, S, _, .refl, W, .ref ha, h.here W⟩
      | fz ys =>
        rw [q] at h
        obtain ⟨vs, h1, h2⟩ := W.cell l _ a q ha
        exact ⟨F, S, _, .refl, W, .lst h1 h2, h.here W⟩
      | lst ys =>
        rw [q] at h
        obtain ⟨vs, h1, h2, w, e⟩ := W.freeze q ha
        exact ⟨_, _, _, e, w, .lst upd_same (h2.ext e), h _ _ _ e w⟩
  | non => exact ⟨F, S, _, .refl, W, .non, h.here W⟩
  | bl b => exact ⟨F, S, _, .refl, W, .bl b, h.here W⟩
  | int b => exact ⟨F, S, _, .refl, W, .int b, h.here W⟩
  | str b => exact ⟨F, S, _, .refl, W, .str b, h.here W⟩
  | tup a b => exact ⟨F, S, _, .refl, W, .tup a b, h.here W⟩
  | dct a b c d e => exact ⟨F, S, _, .refl, W, .dct a b c d e, h.here W⟩
  | dck a b c d => exact ⟨F, S, _, .refl, W, .dck a b c d, h.here W⟩
  | dcT a b c d => exact ⟨F, S, _, .refl, W, .dcT a b c d, h.here W⟩
  | obj a b c d e => exact ⟨F, S, _, .refl, W, .obj a b c d e, h.here W⟩
  | lst a b => exact ⟨F, S, _, .refl, W, .lst a b, h.here W⟩
  | scr a b => exact ⟨F, S, _, .refl, W, .scr a b, h.here W⟩
theorem se_frz (he : PE X e (tE X.K E m)) : PE X e (tE X.K E (mFrz m)) := he.imp fun τ H Q ⟨F, μ, σ, S, W, hs, h⟩ => ⟨F, μ, σ, S, W, hs, (h.split W).mono fun d S1 H1 F1 μ1 e1 W1 h1 v q => by
  obtain ⟨F2, S2, d2, e2, W2, r2, h2⟩ := frz_ok W1 q h1
  exact h2 v r2⟩
end

/-! ### walked things -/
section
variable {K : PySem.W.Frag} {F : Hp} {μ : List Addr} {J : It} {a : Addr} {vs : List V} {xs : List D}
theorem it_same {n : Nat} {G : Hp → Prop} {Y : Nat → Hp → V → Hp → Prop} (w : Walk J n G Y) (hn : xs.length = n) (hG : ∀ H F1 μ1 S1, Wd K H F1 μ1 S1 → (∀ a o, F a = some o → F1 a = some o) → (∀ (l : Nat) a, μ[l]? = some a → μ1[l]? = some a) → G H)
    (hY : ∀ i d H x H' F1 μ1 S1, xs[i]? = some d → Wd K H F1 μ1 S1 → (∀ a o, F a = some o → F1 a = some o) → (∀ (l : Nat) a, μ[l]? = some a → μ1[l]? = some a) → Y i H x H' → ∃ F2, Ext H F1 μ1 S1 H' F2 μ1 S1 ∧ Wd K H' F2 μ1 S1 ∧ Rep K F2 μ1 d x) : ItOk K F μ J xs := by
  intro H F1 μ1 S1 W f m
  have g := hG H F1 μ1 S1 W f m
  refine ⟨fun i d hd => ?_, by rw [hn]; exact w.stops H g⟩
  have hi : i < n := by rw [← hn]; exact (List.getElem?_eq_some_iff.mp hd).1
  exact ⟨w.goes i H hi g, fun x H' y => hY i d H x H' F1 μ1 S1 hd W f m (w.yields i H x H' hi g y)⟩
theorem it_at {G : Hp → Prop} (w : Walk J vs.length G (YAt vs)) (r : Reps K F μ xs vs) (hG : ∀ H F1 μ1 S1, Wd K H F1 μ1 S1 → (∀ a o, F a = some o → F1 a = some o) → (∀ (l : Nat) a, μ[l]? = some a → μ1[l]? = some a) → G H) : ItOk K F μ J xs :=
  it_same w r.length hG fun i d H x H' F1 μ1 S1 hd W f m y => by
    obtain ⟨rfl, hx⟩ := y
    obtain ⟨v, h1, h2⟩ := r.get hd
    rw [hx] at h1
    cases h1
    exact ⟨F1, .refl, W, h2.mono f m⟩
theorem it_list (h : SqL K F a vs) (r : Reps K F μ xs vs) : ItOk K F μ (Itl K a) xs := it_at walk_list r fun H F1 μ1 S1 W f m => sqL_mono W.sub (sqL_mono f h)
theorem it_tup (h : SqT K F a vs) (r : Reps K F μ xs vs) : ItOk K F μ (Itt K a) xs := it_at walk_tup r fun H F1 μ1 S1 W f m => sqT_mono W.sub (sqT_mono f h)
theorem it_pair {n : Nat} {G : Hp → Prop} {A B : Nat → Option V} {f g : Nat → D} (w : Walk J n G (YPair A B)) (hG : ∀ H F1 μ1 S1, Wd K H F1 μ1 S1 → (∀ a o, F a = some o → F1 a = some o) → (∀ (l : Nat) a, μ[l]? = some a → μ1[l]? = some a) → G H)
    (hA : ∀ i x, i < n → A i = some x → Rep K F μ (f i) x) (hB : ∀ i x, i < n → B i = some x → Rep K F μ (g i) x) : ItOk K F μ J ((List.range n).map fun i => .tup [f i, g i]) :=
  it_same w (by simp) hG fun i d H x H' F1 μ1 S1 hd W ff m y => by
    obtain ⟨T, u, v, rfl, hT, rfl, hu, hv⟩ := y
    rw [List.getElem?_map] at hd
    cases q : (List.range n)[i]? with
    | none => rw [q] at hd; cases hd
    | some j =>
      rw [q] at hd
      obtain ⟨hi, e⟩ := List.getElem?_eq_some_iff.mp q
      rw [List.length_range] at hi
      rw [List.getElem_range] at e
      subst e
      have hd' : D.tup [f i, g i] = d := Option.some.inj hd
      subst hd'
      obtain ⟨w2, e2⟩ := W.newF (o := .tup [u, v]) hT
      exact ⟨_, e2, w2, rep_newT (.cons ((hA i u hi hu).mono ff m) (.cons ((hB i v hi hv).mono ff m) .nil)) (W.fnone hT)⟩
end
/-- the signs of a text -/
def signs (x : Str) : List D := x.cps.toList.map fun c => .str ⟨#[c]⟩
/-- the items of a list, a tuple, a text; a list's cell is frozen -/
def itemsOf (d : D) (S : Store) : R (List D) := match d with
  | .lst xs => .ok xs S
  | .scr xs => .ok xs S
  | .tup xs => .ok xs S
  | .str x => .ok (signs x) S
  | .ref l => match freezeAt l S with
    | some (xs, S') => .ok xs S'
    | none => .no
  | _ => .no
def miSeq (m : ME) : MI := fun σ S => (m σ S).bind itemsOf
section
variable {X : Cx} {E : WX} {tg e : Expr} {m : ME} {mas : MA}
def iSeq (K : PySem.W.Frag) (te : TE) : TI := fun σ H R => te σ H fun x H1 => (∃ a, x = .ref a ∧ (∃ xs, SqL K H1 a xs) ∧ R (Itl K a) H1) ∨ (∃ a, x = .ref a ∧ (∃ xs, SqT K H1 a xs) ∧ R (Itt K a) H1) ∨ ∃ z, x = .str z ∧ R (Its z) H1
theorem pi_seq {te : TE} (he : PE X e te) : PI X tg e (iSeq X.K te) := by
  refine ⟨fun pins s σ H R I h => ?_⟩
  refine thn (he.run pins s σ H _ I h) fun v s1 ⟨x, H1, I1, r1, q1⟩ => ?_
  rcases q1 with ⟨a, rfl, ⟨xs, hq⟩, q⟩ | ⟨a, rfl, ⟨xs, hq⟩, q⟩ | ⟨z, rfl, q⟩
  · cases r1
    obtain ⟨its, rv, p, hz⟩ := I1.list hq
    refine wpAny_pyIter_list p.isList ?_
    refine ⟨s1.heap.objs.size, [s1.heap.objs.size], _, _, H1, rfl, I1.kept (t' := s1.toks) fun b o e => Heap.get?_push_of_some _ e, turn_list a _, ⟨_, Heap.get?_push_size _ rfl, rfl, rfl⟩, fun b hb => ?_, q⟩
    have e : b = s1.heap.objs.size := by simpa using hb
    subst e
    exact I1.fpOk (Nat.le_refl _) (I1.hok.fresh (Nat.le_refl _))
  · cases r1
    obtain ⟨its, rv, p, hz⟩ := I1.tuple hq
    refine wpAny_pyIter_tuple (show s1.heap.IsTuple a its.toArray from p) ?_
    refine ⟨s1.heap.objs.size, [s1.heap.objs.size], _, _, H1, rfl, I1.kept (t' := s1.toks) fun b o e => Heap.get?_push_of_some _ e, turn_tuple a _, ⟨_, Heap.get?_push_size _ rfl, rfl, rfl⟩, fun b hb => ?_, q⟩
    have e : b = s1.heap.objs.size := by simpa using hb
    subst e
    exact I1.fpOk (Nat.le_refl _) (I1.hok.fresh (Nat.le_refl _))
  · obtain ⟨t, rfl⟩ := r1
    cases ha : z.cps.all (· < 128)
    · exact wpAny_pyIter_wide ha (pi_one (tk := s1.toks) I1 _ (turn_str _ z t "str_iterator" (.inr rfl)) ⟨_, Heap.get?_push_size _ rfl, rfl, rfl⟩ q)
    · exact wpAny_pyIter_ascii ha (pi_one (tk := s1.toks) I1 _ (turn_str _ z t "str_ascii_iterator" (.inl rfl)) ⟨_, Heap.get?_push_size _ rfl, rfl, rfl⟩ q)
theorem it_str {K : PySem.W.Frag} {F : Hp} {μ : List Addr} (z : Str) : ItOk K F μ (Its z) (signs z) :=
  it_same walk_str (by simp [signs]) (fun _ _ _ _ _ _ _ => trivial) fun i d H x H' F1 μ1 S1 hd W f m y => by
    obtain ⟨rfl, c, hc, rfl⟩ := y
    unfold signs at hd
    rw [List.getElem?_map, Array.getElem?_toList, hc] at hd
    have hd' : D.str ⟨#[c]⟩ = d := Option.some.inj hd
    subst hd'
    exact ⟨F1, .refl, W, .str _⟩
theorem si_seq (he : PE X e (tE X.K E m)) : PI X tg e (tI X.K E (miSeq m)) := (pi_seq he).imp fun τ H Q ⟨F, μ, σ, S, W, hs, h⟩ => ⟨F, μ, σ, S, W, hs, (h.split W).mono fun d S1 H1 F1 μ1 e1 W1 h1 v q => by
  cases q with
  | lst ha r => exact .inl ⟨_, rfl, ⟨_, sqL_mono W1.sub (SqL.of ha)⟩, h1.here W1 _ (it_list (SqL.of ha) r)⟩
  | scr ha r => exact .inl ⟨_, rfl, ⟨_, sqL_mono W1.sub ha⟩, h1.here W1 _ (it_list ha r)⟩
  | tup ha r => exact .inr (.inl ⟨_, rfl, ⟨_, SqT.of (W1.sub _ _ ha)⟩, h1.here W1 _ (it_tup (SqT.of ha) r)⟩)
  | str z => exact .inr (.inr ⟨z, rfl, h1.here W1 _ (it_str z)⟩)
  | ref ha =>
    rename_i l a
    have h1' : Done X.K _ H1 F1 μ1 S1 (match freezeAt l S1 with | some (xs, S') => .ok xs S' | none => .no) _ := h1
    cases q : freezeAt l S1 with
    | none => rw [q] at h1'; exact h1'.elim
    | some p =>
      obtain ⟨xs, S2⟩ := p
      rw [q] at h1'
      obtain ⟨F2, vs, e2, w2, hF, r⟩ := freeze_ok W1 ha q
      exact .inl ⟨a, rfl, ⟨vs, sqL_mono w2.sub (SqL.of hF)⟩, h1' _ _ _ e2 w2 _ (it_list (SqL.of hF) r)⟩
  | _ => exact h1.elim⟩
/-- range(n), range(a, b) -/
def rngOk (i j : Int) : Bool := decide (-1000000 ≤ i) && decide (i ≤ 1000000) && decide (-1000000 ≤ j) && decide (j ≤ 1000000)
def rngItems (i : Int) (n : Nat) : List D := (List.range n).map fun (k : Nat) => .int (i + (k : Int))
def miRng1 (as : MA) : MI := fun σ S => (as σ S).bind fun ds S1 => match ds with
  | [.int j] => if rngOk 0 j then .ok (rngItems 0 j.toNat) S1 else .no
  | _ => .no
def miRng2 (as : MA) : MI := fun σ S => (as σ S).bind fun ds S1 => match ds with
  | [.int i, .int j] => if rngOk i j then .ok (rngItems i (j - i).toNat) S1 else .no
  | _ => .no
def miRng3 (as : MA) : MI := fun σ S => (as σ S).bind fun ds S1 => match ds with
  | [.int i, .int j, .int c] => if decide (c ≠ 0) && decide (c.natAbs < 1073741824) && Builtin.Range.small i j c then .ok ((List.range (Builtin.Range.rangeSize i j c).toNat).map fun k => .int (i + (k : Nat) * c)) S1 else .no
  | _ => .no
theorem it_rng {K : PySem.W.Frag} {F : Hp} {μ : List Addr} (i : Int) (n : Nat) : ItOk K F μ (Itr i n) (rngItems i n) :=
  it_same walk_range (by simp [rngItems]) (fun _ _ _ _ _ _ _ => trivial) fun k d H x H' F1 μ1 S1 hd W f m y => by
    obtain ⟨rfl, rfl⟩ := y
    unfold rngItems at hd
    rw [List.getElem?_map] at hd
    cases q : (List.range n)[k]? with
    | none => rw [q] at hd; cases hd
    | some j =>
      obtain ⟨hi, e⟩ := List.getElem?_eq_some_iff.mp q
      rw [List.getElem_range] at e
      subst e
      rw [q] at hd
      have hd' : D.int (i + (k : Int)) = d := Option.some.inj hd
      subst hd'
      exact ⟨F1, .refl, W, .int _⟩
theorem it_rngC {K : PySem.W.Frag} {F : Hp} {μ : List Addr} (i c : Int) (n : Nat) : ItOk K F μ (Itc i c n) ((List.range n).map fun k => .int (i + (k : Nat) * c)) :=
  it_same walk_rangeC (by simp) (fun _ _ _ _ _ _ _ => trivial) fun k d H x H' F1 μ1 S1 hd W f m y => by
    obtain ⟨rfl, rfl⟩ := y
    rw [List.getElem?_map] at hd
    cases q : (List.range n)[k]? with
    | none => rw [q] at hd; cases hd
    | some j =>
      obtain ⟨hi, e⟩ := List.getElem?_eq_some_iff.mp q
      rw [List.getElem_range] at e
      subst e
      rw [q] at hd
      have hd' : D.int (i + (k : Nat) * c) = d := Option.some.inj hd
      subst hd'
      exact ⟨F1, .refl, W, .int _⟩
theorem rngOk_ok {i j : Int} (h : rngOk i j = true) : -1000000 ≤ i ∧ i ≤ 1000000 ∧ -1000000 ≤ j ∧ j ≤ 1000000 := by
  simp only [rngOk, Bool.and_eq_true, decide_eq_true_eq] at h
  exact ⟨h.1.1.1, h.1.1.2, h.1.2, h.2⟩
theorem si_rng1 {a : Expr} {p pos : Pos} (hg : Gl X "range") (hm : X.mg "range" = none) (ha : PA X [a] (tA X.K E mas)) (hs : starEach [a] X.env = [(false, eval a X.env)] := by rfl) : PI X tg (.Call (.Name "range" p) [a] [] pos) (tI X.K E (miRng1 mas)) :=
  (pi_range1 hg hm ha hs).imp fun τ H Q ⟨F, μ, σ, S, W, hs, h⟩ => ⟨F, μ, σ, S, W, hs, (h.split W).mono fun ds S1 H1 F1 μ1 e1 W1 h1 vs q => by
    cases q with
    | nil => exact h1.elim
    | cons r q =>
      cases q with
      | cons => cases r <;> exact h1.elim
      | nil =>
        cases r with
        | int j =>
          have h1' : Done X.K _ H1 F1 μ1 S1 (if rngOk 0 j then .ok (rngItems 0 j.toNat) S1 else .no) _ := h1
          split at h1'
          · rename_i hk
            have := rngOk_ok hk
            exact ⟨j, rfl, by omega, by omega, h1'.here W1 _ (it_rng 0 _)⟩
          · exact h1'.elim
        | _ => exact h1.elim⟩
theorem si_rng2 {a b : Expr} {p pos : Pos} (hg : Gl X "range") (hm : X.mg "range" = none) (ha : PA X [a, b] (tA X.K E mas)) (hs : starEach [a, b] X.env = [(false, eval a X.env), (false, eval b X.env)] := by rfl) (hs2 : starEach [b] X.env = [(false, eval b X.env)] := by rfl) : PI X tg (.Call (.Name "range" p) [a, b] [] pos) (tI X.K E (miRng2 mas)) :=
  (pi_range2 hg hm ha hs hs2).imp fun τ H Q ⟨F, μ, σ, S, W, hs, h⟩ => ⟨F, μ, σ, S, W, hs, (h.split W).mono fun ds S1 H1 F1 μ1 e1 W1 h1 vs q => by
    cases q with
    | nil => exact h1.elim
    | cons r q =>
      cases q with
      | nil => cases r <;> exact h1.elim
      | cons r2 q =>
        cases q with
        | cons => cases r <;> cases r2 <;> exact h1.elim
        | nil =>
          cases r with
          | int i =>
            cases r2 with
            | int j =>
              have h1' : Done X.K _ H1 F1 μ1 S1 (if rngOk i j then .ok (rngItems i (j - i).toNat) S1 else .no) _ := h1
              split at h1'
              · rename_i hk
                have := rngOk_ok hk
                exact ⟨i, j, rfl, ⟨by omega, by omega, by omega, by omega⟩, h1'.here W1 _ (it_rng i _)⟩
              · exact h1'.elim
            | _ => exact h1.elim
          | _ => exact h1.elim⟩
theorem si_rng3 {a b c : Expr} {p pos : Pos} (hg : Gl X "range") (hm : X.mg "range" = none) (ha : PA X [a, b, c] (tA X.K E mas)) (hs : starEach [a, b, c] X.env = (false, eval a X.env) :: starEach [b, c] X.env := by rfl) (hpl : (backTo pos (starEach [b, c] X.env)).any (·.1) = false := by rfl) : PI X tg (.Call (.Name "range" p) [a, b, c] [] pos) (tI X.K E (miRng3 mas)) :=
  (pi_range3 hg hm ha hs hpl).imp fun τ H Q ⟨F, μ, σ, S, W, hs, h⟩ => ⟨F, μ, σ, S, W, hs, (h.split W).mono fun ds S1 H1 F1 μ1 e1 W1 h1 vs q => by
    cases q with
    | nil => exact h1.elim
    | cons r q =>
      cases q with
      | nil => cases r <;> exact h1.elim
      | cons r2 q =>
        cases q with
        | nil => cases r <;> cases r2 <;> exact h1.elim
        | cons r3 q =>
          cases q with
          | cons => cases r <;> cases r2 <;> cases r3 <;> exact h1.elim
          | nil =>
            cases r with
            | int i =>
              cases r2 with
              | int j =>
                cases r3 with
                | int c =>
                  have h1' : Done X.K _ H1 F1 μ1 S1 (if decide (c ≠ 0) && decide (c.natAbs < 1073741824) && Builtin.Range.small i j c then .ok _ S1 else .no) _ := h1
                  split at h1'
                  · rename_i hk
                    simp only [Bool.and_eq_true, decide_eq_true_eq] at hk
                    exact ⟨i, j, c, _, rfl, ⟨hk.1.1, hk.1.2, hk.2, rangeSize_toNat i j c⟩, h1'.here W1 _ (it_rngC i c _)⟩
                  · exact h1'.elim
                | _ => exact h1.elim
              | _ => exact h1.elim
            | _ => exact h1.elim⟩
/-- enumerate(list) -/
def enumItems (xs : List D) : List D := (List.range xs.length).map fun (i : Nat) => .tup [.int (i : Int), xs.getD i .non]
def lstOf (d : D) (S : Store) : R (List D) := match d with
  | .lst xs => .ok xs S
  | .scr xs => .ok xs S
  | .ref l => match freezeAt l S with
    | some (xs, S') => .ok xs S'
    | none => .no
  | _ => .no
def miEnum (as : MA) : MI := fun σ S => (as σ S).bind fun ds S1 => match ds with
  | [d] => (lstOf d S1).bind fun xs S2 => .ok (enumItems xs) S2
  | _ => .no
theorem lstOf_ok {E : XK} {K : PySem.W.Frag} {H F : Hp} {μ : List Addr} {S : Store} {d : D} {v : V} {P : List D → Store → Hp → Hp → List Addr → Prop} (W : Wd K H F μ S) (r : Rep K F μ d v) (h : Done K E H F μ S (lstOf d S) P) :
    ∃ F' S' xs a vs, v = .ref a ∧ Ext H F μ S H F' μ S' ∧ Wd K H F' μ S' ∧ SqL K F' a vs ∧ Reps K F' μ xs vs ∧ P xs S' H F' μ := by
  cases r with
  | lst ha r => exact ⟨F, S, _, _, _, rfl, .refl, W, SqL.of ha, r, h.here W⟩
  | scr ha r => exact ⟨F, S, _, _, _, rfl, .refl, W, ha, r, h.here W⟩
  | ref ha =>
    rename_i l a
    have h1' : Done K E H F μ S (match freezeAt l S with | some (xs, S') => .ok xs S' | none => .no) _ := h
    cases q : freezeAt l S with
    | none => rw [q] at h1'; exact h1'.elim
    | some p =>
      obtain ⟨xs, S2⟩ := p
      rw [q] at h1'
      obtain ⟨F2, vs, e2, w2, hF, r⟩ := freeze_ok W ha q
      exact ⟨F2, S2, xs, a, vs, rfl, e2, w2, SqL.of hF, r, h1' _ _ _ e2 w2⟩
  | _ => exact h.elim
theorem it_enum {K : PySem.W.Frag} {F : Hp} {μ : List Addr} {a : Addr} {xs : List D} {vs : List V} (h : SqL K F a vs) (r : Reps K F μ xs vs) : ItOk K F μ (Ite K a) (enumItems xs) := by
  have w := it_pair (K := K) (F := F) (μ := μ) (f := fun i => D.int (i : Nat)) (g := fun i => xs.getD i .non) (walk_enum (K := K) (a := a) (xs := vs)) (fun H F1 μ1 S1 W f m => sqL_mono W.sub (sqL_mono f h)) (fun i x _ e => by cases e; exact .int _) fun i x hi e => by
    obtain ⟨d, h1, h2⟩ := r.get' e
    rw [List.getD_eq_getElem?_getD, h1]
    exact h2
  unfold enumItems
  rw [r.length]
  exact w
theorem si_enum {p pos tpos : Pos} {elts : List Expr} {kk : Nat} (hg : Gl X "enumerate") (hm : X.mg "enumerate" = none) (ha : PA X [e] (tA X.K E mas)) (hs : starEach [e] X.env = [(false, eval e X.env)] := by rfl) : PI X (.Tuple elts kk tpos) (.Call (.Name "enumerate" p) [e] [] pos) (tI X.K E (miEnum mas)) :=
  (pi_enum hg hm ha hs).imp fun τ H Q ⟨F, μ, σ, S, W, hs, h⟩ => ⟨F, μ, σ, S, W, hs, (h.split W).mono fun ds S1 H1 F1 μ1 e1 W1 h1 vs q => by
    cases q with
    | nil => exact h1.elim
    | cons r q =>
      cases q with
      | cons => exact h1.elim
      | nil =>
        obtain ⟨F2, S2, xs, a, us, rfl, e2, W2, hq, rr, h2⟩ := lstOf_ok W1 r (Done.split W1 h1)
        exact ⟨a, us, rfl, sqL_mono W2.sub hq, h2.here W2 _ (it_enum hq rr)⟩⟩
end
end MM

set_option Elab.async false
set_option linter.all false
set_option maxRecDepth 100000
/-! Comprehensions. -/
namespace MM
open PySem PySem.Spec PyProof.Rows L2

theorem R.bind_ok {α β : Type} {r : R α} {k : α → Store → R β} {b : β} {S' : Store} (h : r.bind k = .ok b S') : ∃ a S1, r = .ok a S1 ∧ k a S1 = .ok b S' := by
  cases r with
  | ok a S1 => exact ⟨a, S1, rfl, h⟩
  | ex e S1 => cases h
  | no => cases h

section
variable {K : PySem.W.Frag} {H F H1 F1 : Hp} {μ μ1 : List Addr} {S S1 : Store} {p : Addr} {o o' : HO}
/-- an object that no world speaks of -/
theorem Wd.add (W : Wd K H F μ S) (hp : H p = none) : Wd K (upd H p o) F μ S ∧ Ext H F μ S (upd H p o) F μ S := by
  have hf := W.fnone hp
  refine ⟨⟨fun a o' h => ?_, W.len, W.nd, W.out, fun l c a h1 h2 => ?_⟩, ⟨fun _ _ h => h, fun _ _ h => h, fun a o' h _ => ?_, fun a h => ?_, fun _ _ h => .inl h, fun a h => .inl h, fun _ _ _ h => h, Nat.le_refl _⟩⟩
  · rw [upd_ne (ne_of_none h hf)]; exact W.sub _ _ h
  · exact (W.cell l c a h1 h2).mono (fun _ _ h => h) (fun _ _ h => h) fun _ => upd_ne (W.ne hp (mem_of_ix h2))
  · rw [upd_ne (ne_of_none h hp)]; exact h
  · by_cases e : a = p
    · subst e; exact hp
    · rw [upd_ne e] at h; exact h
structure Aside (H F : Hp) (μ : List Addr) (p : Addr) (o : HO) : Prop where
  at_ : H p = some o
  fr : F p = none
  mu : p ∉ μ
  nt : ∀ vs, o ≠ .tup vs := by intro _ h; cases h
theorem Aside.ext (e : Ext H F μ S H1 F1 μ1 S1) (h : Aside H F μ p o) : Aside H1 F1 μ1 p o := by
  refine ⟨e.keep _ _ h.at_ fun ⟨l, c, h1, _⟩ => h.mu (mem_of_ix h1), ?_, fun hm => ?_, h.nt⟩
  · cases q : F1 p with
    | none => rfl
    | some u =>
      rcases e.fnew p (by rw [q]; simp) with z | z | z | ⟨vs, z⟩
      · exact absurd h.fr z
      · rw [h.at_] at z; cases z
      · exact absurd z h.mu
      · rw [h.at_] at z; exact (h.nt vs (Option.some.inj z)).elim
  · obtain ⟨l, hl⟩ := List.getElem?_of_mem hm
    rcases e.new l p hl with z | z
    · exact h.mu (mem_of_ix z)
    · rw [h.at_] at z; cases z
theorem Wd.aside (W : Wd K H F μ S) (h : Aside H F μ p o) : Wd K (upd H p o') F μ S := by
  refine ⟨fun a o' q => ?_, W.len, W.nd, W.out, fun l c a h1 h2 => ?_⟩
  · rw [upd_ne (ne_of_none q h.fr)]; exact W.sub _ _ q
  · exact (W.cell l c a h1 h2).mono (fun _ _ h => h) (fun _ _ h => h) fun _ => upd_ne fun e => h.mu (by rw [← e]; exact mem_of_ix h2)
theorem Ext.aside (e : Ext H F μ S H1 F1 μ1 S1) (hp : H p = none) : Ext H F μ S (upd H1 p o') F1 μ1 S1 :=
  ⟨e.fz, e.mu, fun a o q n => by rw [upd_ne (ne_of_none q hp)]; exact e.keep a o q n, fun a q => by
    by_cases z : a = p
    · subst z; exact hp
    · rw [upd_ne z] at q; exact e.dom a q, e.new, e.fnew, e.cf, e.le⟩
/-- it is frozen at last -/
theorem Wd.asideF (W : Wd K H F μ S) (h : Aside H F μ p o) : Wd K H (upd F p o) μ S := by
  have mono := upd_mono (F := F) (o := o) h.fr
  refine ⟨fun a o' q => ?_, W.len, W.nd, fun a q => ?_, fun l c a h1 h2 => (W.cell l c a h1 h2).mono mono (fun _ _ h => h) fun _ => rfl⟩
  · by_cases z : a = p
    · subst z; rw [upd_same] at q; cases q; exact h.at_
    · rw [upd_ne z] at q; exact W.sub _ _ q
  · have hm : a ∈ μ := by obtain ⟨l, c, h1, _⟩ := q; exact mem_of_ix h1
    rw [upd_ne fun z => h.mu (by rw [← z]; exact hm)]
    exact W.out a q
theorem Ext.asideF (W : Wd K H F μ S) (e : Ext H F μ S H1 F1 μ1 S1) (hp : H p = none) (h : F1 p = none) : Ext H F μ S H1 (upd F1 p o) μ1 S1 :=
  ⟨fun a o q => upd_mono h a o (e.fz a o q), e.mu, e.keep, e.dom, e.new, fun a q => by
    by_cases z : a = p
    · subst z; exact .inr (.inl hp)
    · rw [upd_ne z] at q; exact e.fnew a q, e.cf, e.le⟩
/-- .. or becomes a cell -/
theorem Wd.asideC {xs : List D} {vs : List V} (W : Wd K H F μ S) (h : Aside H F μ p (.lst vs)) (r : Reps K F μ xs vs) : Wd K H F (μ ++ [p]) (S ++ [.lst xs]) := by
  have hm : ∀ (l : Nat) a, μ[l]? = some a → (μ ++ [p])[l]? = some a := fun l a h => by
    rw [List.getElem?_append_left (List.getElem?_eq_some_iff.mp h).1]; exact h
  refine ⟨W.sub, by simp [W.len], ?_, fun a q => ?_, fun l c a h1 h2 => ?_⟩
  · rw [List.nodup_append]
    refine ⟨W.nd, by simp, fun a ha b hb e => ?_⟩
    simp at hb
    subst hb
    exact h.mu (by rw [← e]; exact ha)
  · obtain ⟨l, c, h1, h2, h3⟩ := q
    rcases ix_append h1 with z | ⟨_, rfl⟩
    · have hl : l < S.length := by rw [← W.len]; exact (List.getElem?_eq_some_iff.mp z).1
      rw [List.getElem?_append_left hl] at h2
      exact W.out a ⟨l, c, z, h2, h3⟩
    · exact h.fr
  · rcases ix_append h2 with z | ⟨rfl, rfl⟩
    · have hl : l < S.length := by rw [← W.len]; exact (List.getElem?_eq_some_iff.mp z).1
      rw [List.getElem?_append_left hl] at h1
      exact (W.cell l c a h1 z).mono (fun _ _ h => h) hm fun _ => rfl
    · rw [W.len] at h1
      simp at h1
      subst h1
      exact ⟨vs, h.at_, r.mono (fun _ _ h => h) hm⟩
theorem Ext.asideC {xs : List D} (e : Ext H F μ S H1 F1 μ1 S1) (hp : H p = none) : Ext H F μ S H1 F1 (μ1 ++ [p]) (S1 ++ [.lst xs]) :=
  ⟨e.fz, fun l a q => by
    have q := e.mu l a q
    rw [List.getElem?_append_left (List.getElem?_eq_some_iff.mp q).1]; exact q, e.keep, e.dom, fun l a q => by
    rcases ix_append q with z | ⟨_, rfl⟩
    · exact e.new l a z
    · exact .inr hp, e.fnew, fun l ys hwf q => by
    have q := e.cf l ys hwf q
    rw [List.getElem?_append_left (List.getElem?_eq_some_iff.mp q).1]; exact q, by
    rw [List.length_append]
    exact Nat.le_trans e.le (Nat.le_add_right _ _)⟩
end

theorem wipe_ix (τ : L2.St) : ∀ (vs : List Nat) (i : Nat), (L2.wipe τ vs)[i]? = if i ∈ vs ∧ i < τ.length then some none else τ[i]?
  | [], i => by simp [L2.wipe]
  | v :: vs, i => by
    have ih := wipe_ix τ vs i
    show ((L2.wipe τ vs).set v none)[i]? = _
    by_cases e : v = i
    · subst e
      by_cases hl : v < τ.length
      · rw [List.getElem?_set_self (by rw [L2.wipe_length]; exact hl)]
        simp [hl]
      · rw [List.getElem?_eq_none (by rw [List.length_set, L2.wipe_length]; omega)]
        simp [hl]
    · rw [List.getElem?_set_ne e, ih]
      have : (i ∈ v :: vs) ↔ i ∈ vs := by simp [Ne.symm e]
      simp [this]
theorem wipe_off {ow vs : List Nat} {τ τ2 : L2.St} (h : Off ow (L2.wipe τ vs) τ2) (hv : ∀ i ∈ ow, i ∈ vs) : L2.wipe τ2 vs = L2.wipe τ vs := by
  have hl : τ2.length = τ.length := by rw [h.1, L2.wipe_length]
  apply List.ext_getElem?
  intro i
  rw [wipe_ix, wipe_ix, hl]
  by_cases hi : i ∈ vs
  · by_cases hi2 : i < τ.length
    · rw [if_pos ⟨hi, hi2⟩, if_pos ⟨hi, hi2⟩]
    · rw [if_neg fun z => hi2 z.2, if_neg fun z => hi2 z.2, List.getElem?_eq_none (by omega), List.getElem?_eq_none (by omega)]
  · rw [if_neg fun z => hi z.1, if_neg fun z => hi z.1, h.2 i fun z => hi (hv i z), wipe_ix, if_neg fun z => hi z.1]

def runLc (σ0 : Sg) (g : MG) (t : MT) (me : ME) : List D → Store → R (List D)
  | [], S => .ok [] S
  | d :: ds, S => (g d σ0 S).bind fun σ1 S1 => (t σ1 S1).bind fun b S2 => if b then (me σ1 S2).bind fun y S3 => (runLc σ0 g t me ds S3).bind fun ys S4 => .ok (y :: ys) S4 else runLc σ0 g t me ds S2
def fin0 (ys : List D) (S : Store) : R D := .ok (.lst ys) S
def finM (ys : List D) (S : Store) : R D := .ok (.ref S.length) (S ++ [.lst ys])
def mLcF (fin : List D → Store → R D) (own : List Nat) (mi : MI) (g : MG) (t : MT) (me : ME) : ME := fun σ S => (mi σ S).bind fun xs S1 => if xs.length ≤ 1000000 then (runLc (wipeM σ own) g t me xs S1).quiet.bind fin else .no
def mLc := mLcF fin0
def mLcM := mLcF finM
def mYes : MT := fun _ S => .ok true S
section
variable {mt : MT} {me : ME} {g : MG} {mi : MI} {ow own : List Nat}
theorem lc_go {E : XK} {fin : List D → Store → R D} {K : PySem.W.Frag} {τ : L2.St} {Q : VK} {H1 F1 : Hp} {μ1 : List Addr} {S1 : Store} {σ : Sg} {J : It} {xs : List D}
    (hfin : ∀ {H1 F1 μ1 S1 H F μ S p ys vs}, Wd K H1 F1 μ1 S1 → H1 p = none → Ext H1 F1 μ1 S1 H F μ S → Wd K H F μ S → Aside H F μ p (.lst vs) → Reps K F μ ys vs → Done K E H1 F1 μ1 S1 (fin ys S) (fun d _ H' F' μ' => ∀ v, Rep K F' μ' d v → Q v H') → Q (.ref p) H)
    (W1 : Wd K H1 F1 μ1 S1) (hs1 : Sl K F1 μ1 σ τ) (hJ : ItOk K F1 μ1 J xs) (hv : ∀ i ∈ ow, i ∈ own)
    (h1 : Done K E H1 F1 μ1 S1 (if xs.length ≤ 1000000 then (runLc (wipeM σ own) g mt me xs S1).quiet.bind fin else .no) (fun d _ H' F' μ' => ∀ v, Rep K F' μ' d v → Q v H')) :
    tLc (fun _ _ R => R J H1) (tG K W0 ow g) (tT K W0 mt) (tE K W0 me) own τ H1 Q := by
  intro p hp
  by_cases hz : xs.length ≤ 1000000
  case neg => rw [if_neg hz] at h1; exact h1.elim
  rw [if_pos hz] at h1
  cases hr : runLc (wipeM σ own) g mt me xs S1 with
  | no => rw [hr] at h1; exact h1.elim
  | ex e S' => rw [hr] at h1; exact h1.elim
  | ok ys Sz =>
    rw [hr] at h1
    have h1 : Done K E H1 F1 μ1 S1 (fin ys Sz) (fun d _ H' F' μ' => ∀ v, Rep K F' μ' d v → Q v H') := h1
    let G : Nat → Hp → Prop := fun i H => ∃ F μ S as vs zs, Ext H1 F1 μ1 S1 H F μ S ∧ Wd K H F μ S ∧ Aside H F μ p (.lst vs) ∧ Reps K F μ as vs ∧ as.length ≤ i ∧ runLc (wipeM σ own) g mt me (xs.drop i) S = .ok zs Sz ∧ as ++ zs = ys
    obtain ⟨Wp, ep⟩ := W1.add (o := .lst []) hp
    refine ⟨fun i m H => m = xs.length - i ∧ i ≤ xs.length ∧ G i H, ⟨xs.length, by simp, Nat.zero_le _, F1, μ1, S1, [], [], ys, ep, Wp, ⟨upd_same, W1.fnone hp, fun hm => W1.there hm hp, fun _ h => by cases h⟩, .nil, Nat.le_refl _, hr, rfl⟩, ?_⟩
    rintro i m H2 ⟨rfl, hi, F2, μ2, S2, as, vs, zs, e2, W2, A2, r2, hl2, hr2, hy⟩
    obtain ⟨j1, j2⟩ := hJ H2 F2 μ2 S2 W2 e2.fz e2.mu
    by_cases hlt : i < xs.length
    case neg =>
      have e : i = xs.length := by omega
      subst e
      rw [List.drop_length] at hr2
      cases hr2
      rw [List.append_nil] at hy
      subst hy
      exact .inl ⟨j2, hfin W1 hp e2 W2 A2 r2 h1⟩
    refine .inr ⟨(j1 i xs[i] (List.getElem?_eq_getElem hlt)).1, G (i + 1), fun H' q => ⟨xs.length - (i + 1), by omega, rfl, hlt, q⟩, fun x H' y => ?_⟩
    obtain ⟨F3, e3, W3, q3⟩ := (j1 i xs[i] (List.getElem?_eq_getElem hlt)).2 x H' y
    rw [List.drop_eq_getElem_cons hlt] at hr2
    obtain ⟨σ4, S4, g4, hr2⟩ := R.bind_ok hr2
    obtain ⟨b, S5, t5, hr2⟩ := R.bind_ok hr2
    refine ⟨F3, μ2, wipeM σ own, S2, xs[i], W3, ((hs1.ext e2).ext e3).wipe own, q3, ?_⟩
    rw [g4]
    intro H4 F4 μ4 e4 W4 τ4 hs4 o4
    refine ⟨wipe_off o4 hv, F4, μ4, σ4, S4, W4, hs4, ?_⟩
    rw [t5]
    intro H5 F5 μ5 e5 W5
    have A5 := ((A2.ext e3).ext e4).ext e5
    have E5 := ((e2.trans W1 e3).trans W1 e4).trans W1 e5
    have R5 := ((r2.ext e3).ext e4).ext e5
    cases b with
    | false =>
      refine iteF ?_
      exact ⟨F5, μ5, S5, as, vs, zs, E5, W5, A5, R5, by omega, hr2, hy⟩
    | true =>
      refine iteT ⟨F5, μ5, σ4, S5, W5, hs4.ext e5, ?_⟩
      obtain ⟨y0, S6, g6, hr2⟩ := R.bind_ok (show (R.bind (me σ4 S5) _) = _ from hr2)
      obtain ⟨zs', S7, g7, hr2⟩ := R.bind_ok hr2
      cases hr2
      rw [g6]
      intro H6 F6 μ6 e6 W6 v6 q6
      have A6 := A5.ext e6
      refine ⟨vs, A6.at_, ?_, F6, μ6, S6, as ++ [y0], vs ++ [v6], zs', (E5.trans W1 e6).aside hp, W6.aside A6, ⟨upd_same, A6.fr, A6.mu, fun _ h => by cases h⟩, (R5.ext e6).append (.cons q6 .nil), by simp; omega, g7, by simp [← hy]⟩
      have := r2.length
      rw [sizeLine_eq]
      omega
theorem t_lc {E : WX} {fin : List D → Store → R D} {K : PySem.W.Frag} {τ H Q}
    (hfin : ∀ {H1 F1 μ1 S1 H F μ S p ys vs}, Wd K H1 F1 μ1 S1 → H1 p = none → Ext H1 F1 μ1 S1 H F μ S → Wd K H F μ S → Aside H F μ p (.lst vs) → Reps K F μ ys vs → Done K (WE E τ) H1 F1 μ1 S1 (fin ys S) (fun d _ H' F' μ' => ∀ v, Rep K F' μ' d v → Q v H') → Q (.ref p) H)
    (h : tE K E (mLcF fin own mi g mt me) τ H Q) (hv : ∀ i ∈ ow, i ∈ own) : tLc (tI K E mi) (tG K W0 ow g) (tT K W0 mt) (tE K W0 me) own τ H Q := by
  obtain ⟨F, μ, σ, S, W, hs, h⟩ := h
  exact ⟨F, μ, σ, S, W, hs, (Done.split W h).mono fun xs S1 H1 F1 μ1 e1 W1 h1 J hJ => lc_go (E := WE E τ) hfin W1 (hs.ext e1) hJ hv h1⟩
theorem fin0_ok {E : XK} {K : PySem.W.Frag} {Q : VK} {H1 F1 μ1 S1 H F μ S p ys vs} (W1 : Wd K H1 F1 μ1 S1) (hp : H1 p = none) (e : Ext H1 F1 μ1 S1 H F μ S) (W : Wd K H F μ S) (A : Aside H F μ p (.lst vs)) (r : Reps K F μ ys vs)
    (h : Done K E H1 F1 μ1 S1 (fin0 ys S) (fun d _ H' F' μ' => ∀ v, Rep K F' μ' d v → Q v H')) : Q (.ref p) H :=
  h H (upd F p (.lst vs)) μ (e.asideF W1 hp A.fr) (W.asideF A) _ (rep_newL r A.fr)
theorem finM_ok {E : XK} {K : PySem.W.Frag} {Q : VK} {H1 F1 μ1 S1 H F μ S p ys vs} (W1 : Wd K H1 F1 μ1 S1) (hp : H1 p = none) (e : Ext H1 F1 μ1 S1 H F μ S) (W : Wd K H F μ S) (A : Aside H F μ p (.lst vs)) (r : Reps K F μ ys vs)
    (h : Done K E H1 F1 μ1 S1 (finM ys S) (fun d _ H' F' μ' => ∀ v, Rep K F' μ' d v → Q v H')) : Q (.ref p) H :=
  h H F (μ ++ [p]) (e.asideC hp) (W.asideC A r) _ (.ref (by rw [← W.len]; simp))
end
section
variable {X : Cx} {E : WX} {elt tg iter c : Expr} {ifs : List Expr} {scope : Scope} {own : List (Str × Nat)} {mt : MT} {me : ME} {g : MG} {mi : MI} {ow : List Nat} {pos : Pos}
theorem sts_nil : PTs X [] (tT X.K E mYes) := ⟨fun pins s σ H Q I h => pts_nil.run pins s σ H Q I (by obtain ⟨F, μ, σ, S, W, hs, h⟩ := h; exact h.here W)⟩
theorem sts_one (h : PT X c (tT X.K E mt)) : PTs X [c] (tT X.K E mt) := pts_one h
theorem se_lc (hc : X.calm = true) (hN : X.N.Nodup) (hi : PI X tg iter (tI X.K E mi)) (ok : BlkOk X.N X.env.scope scope own)
    (hg : ∀ (s : Shared) (H : Hp) (C : Addr) (cl : List (Str × Addr)) (fp : List Addr), PG (X.blk s H scope (compEnvC scope cl C X.env) fp) tg (tG X.K W0 ow g)) (ht : ∀ (s : Shared) (H : Hp) (C : Addr) (cl : List (Str × Addr)) (fp : List Addr), PTs (X.blk s H scope (compEnvC scope cl C X.env) fp) ifs (tT X.K W0 mt))
    (he : ∀ (s : Shared) (H : Hp) (C : Addr) (cl : List (Str × Addr)) (fp : List Addr), PE (X.blk s H scope (compEnvC scope cl C X.env) fp) elt (tE X.K W0 me)) (hv : ∀ i ∈ ow, i ∈ own.map (·.2) := by decide) (hs : ∀ x, foldedSetIterable iter X.env x = pure x := by intro _; rfl) :
    PE X (.ListComp elt [⟨tg, iter, ifs, 0⟩] scope pos) (tE X.K E (mLc (own.map (·.2)) mi g mt me)) := (pe_lc hc hN hi ok hg ht he hs).imp fun _ _ _ h => t_lc (fun a b c d e f => fin0_ok a b c d e f) h hv
theorem se_lcM (hc : X.calm = true) (hN : X.N.Nodup) (hi : PI X tg iter (tI X.K E mi)) (ok : BlkOk X.N X.env.scope scope own)
    (hg : ∀ (s : Shared) (H : Hp) (C : Addr) (cl : List (Str × Addr)) (fp : List Addr), PG (X.blk s H scope (compEnvC scope cl C X.env) fp) tg (tG X.K W0 ow g)) (ht : ∀ (s : Shared) (H : Hp) (C : Addr) (cl : List (Str × Addr)) (fp : List Addr), PTs (X.blk s H scope (compEnvC scope cl C X.env) fp) ifs (tT X.K W0 mt))
    (he : ∀ (s : Shared) (H : Hp) (C : Addr) (cl : List (Str × Addr)) (fp : List Addr), PE (X.blk s H scope (compEnvC scope cl C X.env) fp) elt (tE X.K W0 me)) (hv : ∀ i ∈ ow, i ∈ own.map (·.2) := by decide) (hs : ∀ x, foldedSetIterable iter X.env x = pure x := by intro _; rfl) :
    PE X (.ListComp elt [⟨tg, iter, ifs, 0⟩] scope pos) (tE X.K E (mLcM (own.map (·.2)) mi g mt me)) := (pe_lc hc hN hi ok hg ht he hs).imp fun _ _ _ h => t_lc (fun a b c d e f => finM_ok a b c d e f) h hv
theorem s_lc {i : Nat} {y : Str} {py spos : Pos} {fin : List D → Store → R D} (hc : X.calm = true) (hN : X.N.Nodup) (hi : PI X tg iter (tI X.K E mi)) (ok : BlkOk X.N X.env.scope scope own)
    (hg : ∀ (s : Shared) (H : Hp) (C : Addr) (cl : List (Str × Addr)) (fp : List Addr), PG (X.blk s H scope (compEnvC scope cl C X.env) fp) tg (tG X.K W0 ow g)) (ht : ∀ (s : Shared) (H : Hp) (C : Addr) (cl : List (Str × Addr)) (fp : List Addr), PTs (X.blk s H scope (compEnvC scope cl C X.env) fp) ifs (tT X.K W0 mt))
    (he : ∀ (s : Shared) (H : Hp) (C : Addr) (cl : List (Str × Addr)) (fp : List Addr), PE (X.blk s H scope (compEnvC scope cl C X.env) fp) elt (tE X.K W0 me))
    (hfin : ∀ {E : XK} {Q : VK} {H1 F1 μ1 S1 H F μ S p ys vs}, Wd X.K H1 F1 μ1 S1 → H1 p = none → Ext H1 F1 μ1 S1 H F μ S → Wd X.K H F μ S → Aside H F μ p (.lst vs) → Reps X.K F μ ys vs → Done X.K E H1 F1 μ1 S1 (fin ys S) (fun d _ H' F' μ' => ∀ v, Rep X.K F' μ' d v → Q v H') → Q (.ref p) H)
    (hsw : swapsWith (.ListComp elt [⟨tg, iter, ifs, 0⟩] scope pos) (some (.Name y py)) spos.line X.env = pure true) (hy : X.N[i]? = some y := by rfl) (hyl : X.env.scope.names.lookup y = some .local := by rfl) (hv : ∀ i ∈ ow, i ∈ own.map (·.2) := by decide) (hs : ∀ x, foldedSetIterable iter X.env x = pure x := by intro _; rfl) :
    PS X (.Assign [.Name y py] (.ListComp elt [⟨tg, iter, ifs, 0⟩] scope pos) spos) (tS X.K E (mAsg (mLcF fin (own.map (·.2)) mi g mt me) (gN i))) :=
  (ps_setLc hc hN hy hyl hsw hi ok hg ht he hs).imp fun D τ H ⟨F, μ, σ, S, W, hs, h⟩ => by
    show tLc _ _ _ _ _ τ H (fun x H1 => D.nx (τ.set i (some x)) H1)
    refine t_lc (E := E) hfin ⟨F, μ, σ, S, W, hs, (h.split W hs).mono fun d S1 H1 F1 μ1 e1 W1 h1 v q => ?_⟩ hv
    exact h1.here W1 ((hs.ext e1).set q)
end
end MM

set_option Elab.async false
set_option linter.all false
set_option maxRecDepth 100000
/-! Defs and their calls. -/
namespace MM
open PySem PySem.Spec PyProof.Rows L2

def spM (K : PySem.W.Frag) (f : List D → Store → R D) : Sp := fun vs H Q E => ∃ F μ S ds, Wd K H F μ S ∧ Reps K F μ ds vs ∧ Done K E H F μ S (f ds S) (fun d _ H' F' μ' => ∀ v, Rep K F' μ' d v → Q v H')
/-- the def at f keeps to its mirror -/
structure FnM (P : Program) (w : World) (K : PySem.W.Frag) (mg : Str → Option Value) (base : Heap) (k : Nat) (f : Addr) (fd : FuncData) (ps : List Str) (mf : List D → Store → R D) : Prop where
  len : ∀ ds S, ds.length ≠ ps.length → mf ds S = .no
  run : ∀ (A : Around) (outer : List Env) (s : Shared) (H : Hp) (args : Args) (us : List Value) (vs : List V) (Q : VK) (E : XK), Room k A → A.guards = some [] → Env0 P w K mg base A outer s H → BindsTo s fd args (ps.zip us) → Vals vs us → spM K mf vs H Q E →
    codeAny (model P w) A (.call (.ref f) args) (CR (L2.CX P w) outer P w H s Q E) s
theorem FnM.mono {P w K mg base j k f fd ps mf} (F : FnM P w K mg base j f fd ps mf) (h : j ≤ k) : FnM P w K mg base k f fd ps mf := ⟨F.len, fun A outer s H args us vs Q E hr => F.run A outer s H args us vs Q E (hr.mono h)⟩
/-- a weaker mirror -/
theorem FnM.imp {P w K mg base k f fd ps mf mf'} (F : FnM P w K mg base k f fd ps mf) (hl : ∀ ds S, ds.length ≠ ps.length → mf' ds S = .no) (h : ∀ vs H Q E, spM K mf' vs H Q E → spM K mf vs H Q E) : FnM P w K mg base k f fd ps mf' :=
  ⟨hl, fun A outer s H args us vs Q E hr hg he hb hv hs => F.run A outer s H args us vs Q E hr hg he hb hv (h _ _ _ _ hs)⟩
theorem FnM.size {P w K mg base k f fd ps mf} (F : FnM P w K mg base k f fd ps mf) {vs H Q E} (h : spM K mf vs H Q E) : vs.length = ps.length := by
  obtain ⟨F1, μ, S, ds, W, r, h⟩ := h
  rw [← r.length]
  by_cases e : ds.length = ps.length
  · exact e
  · rw [F.len ds S e] at h; exact h.elim

def retO (o : O) : R D := match o with
  | .nx _ S => .ok .non S
  | .rt d S => .ok d S
  | .ex e _ S => .ex e S
  | _ => .no
def mDef (n N : Nat) (body : MS) : List D → Store → R D := fun ds S => if ds.length = n then retO (body (ds.map some ++ List.replicate (N - n) none) S) else .no
theorem mDef_len {n N : Nat} {body : MS} {ds : List D} {S : Store} (h : ds.length ≠ n) : mDef n N body ds S = .no := if_neg h

section
variable {P : Program} {w : World} {K : PySem.W.Frag} {mg : Str → Option Value} {base : Heap}
theorem sl_start {F : Hp} {μ : List Addr} {ds : List D} {vs : List V} {N : List Str} (r : Reps K F μ ds vs) (n : Nat) (hn : ds.length = n) : Sl K F μ (ds.map some ++ List.replicate (N.length - n) none) (L2.start N vs) := by
  refine ⟨by unfold L2.start; rw [← hn]; simp [r.length], fun i d h => ?_⟩
  by_cases hi : i < ds.length
  · rw [List.getElem?_append_left (by simpa using hi), List.getElem?_map] at h
    cases q : ds[i]? with
    | none => rw [q] at h; cases h
    | some d' =>
      rw [q] at h
      cases h
      obtain ⟨v, h1, h2⟩ := r.get q
      refine ⟨v, ?_, h2⟩
      unfold L2.start
      rw [List.getElem?_append_left (by simpa [← r.length] using hi), List.getElem?_map, h1]
      rfl
  · rw [List.getElem?_append_right (by simpa using hi), List.getElem?_replicate] at h
    split at h <;> cases h
theorem done_ret {E : XK} {H F : Hp} {μ : List Addr} {S : Store} {o : O} {Q : VK} (h : Done K E H F μ S (retO o) (fun d _ H' F' μ' => ∀ v, Rep K F' μ' d v → Q v H')) : DoneS K (fun c d _ H' => E c d H') H F μ S o { nx := fun _ H' => Q .non H', rt := Q } := by
  cases o with
  | nx σ S' => exact fun H' F' μ' τ e w _ => h H' F' μ' e w .non .non
  | rt d S' => exact fun H' F' μ' v e w r => h H' F' μ' e w v r
  | ex e σ S' => exact fun H' F' μ' τ c od e w _ q => h H' F' μ' c od e w q
  | bk σ S' => exact h.elim
  | ct σ S' => exact h.elim
  | no => exact h
/-- THE RULE: a def by its body -/
theorem fnm_of {x qual : Str} {st : Stmt} {f : Addr} {fd : FuncData} {N ps : List Str} {k : Nat} {body : MS} (F : Fun K x qual st f fd) (S : FnScope N ps (defScope st))
    (hbody : ∀ (cdv : Value) (A : Around) (outer : List Env) (s : Shared) (H : Hp) (E : XK), Room k (A.deeper (envOfC qual (defScope st) s.heap.objs.size f cdv)) → (A.deeper (envOfC qual (defScope st) s.heap.objs.size f cdv)).guards = some [] →
      PSs (cxOf (L2.CX P w) P w K mg base N qual (defScope st) f cdv A outer s H E) (defBody st) (tS K (fun c d _ H' => E c d H') body)) : FnM P w K mg base (k + 1) f fd ps (mDef ps.length N.length body) := by
  obtain ⟨oc, od, kV, doc, pm, an, cdv, ct, osl, rfl, lk, hcd⟩ := F.ex
  refine ⟨fun ds S h => mDef_len h, fun A outer s H args us vs Q E hr hgd e0 hb r hsp => ?_⟩
  obtain ⟨Fz, μ, S0, ds, W, rd, h⟩ := hsp
  have hl : ds.length = ps.length := by
    by_cases e : ds.length = ps.length
    · exact e
    · rw [mDef_len e] at h; exact h.elim
  have hlv : vs.length = ps.length := by rw [← rd.length]; exact hl
  have KX : K.In s.heap := e0.mod.kin.keeps fun b o e => (e0.bs b o e).1
  have lim : s.heap.NoLimit := e0.mod.nolimit.keeps fun b o e => (e0.bs b o e).1
  have hkind : ∀ y ∈ ps.zip us, (defScope st).names.lookup y.1 = some .local ∨ ((defScope st).names.lookup y.1 = some .cell ∧ ((cellsFrom (s.heap.objs.size + 1) (defScope st).names []).lookup y.1).isSome = true) := fun ⟨n, v⟩ hy => by
    rcases S.par n (List.of_mem_zip hy).1 with q | q
    · exact .inl q
    · exact .inr ⟨q, PySem.W.cellsFrom_some _ _ _ (.inl q)⟩
  refine codeAny_call_function hr.depth (KX _ _ lk) rfl S.co S.gen rfl (PySem.W.codeRec_of KX hcd) (hb _ _ _ _ ?_)
  refine wpAny_newFunctionEnv_cells S.kind hkind fun env he s1 x => ?_
  subst he
  refine ⟨lim.keeps x.toInCall.keep, codeAny_func ?_⟩
  have ht := hbody cdv A outer s H E (hr.deeper _) hgd
  have hq : tS K (fun c d _ H' => E c d H') body { nx := fun _ H' => Q .non H', rt := Q } (L2.start N vs) H := by
    have h' : Done K E H Fz μ S0 (if ds.length = ps.length then retO (body (ds.map some ++ List.replicate (N.length - ps.length) none) S0) else .no) _ := h
    rw [if_pos hl] at h'
    exact ⟨Fz, μ, _, S0, W, sl_start rd _ hl, done_ret h'⟩
  have I : Inv (cxOf (L2.CX P w) P w K mg base N qual (defScope st) f cdv A outer s H E) [] (L2.start N vs) H s1 := inv_start S hr.hd e0 hlv r x
  refine wpAny_mono (ht.run [] s1 (L2.start N vs) H _ I hq) (fun fl s' hs => ?_) fun e s' hs => hs
  have fin : ∀ {σ' : L2.St} {H' : Hp} {v : V} {u : Value}, Inv (cxOf (L2.CX P w) P w K mg base N qual (defScope st) f cdv A outer s H E) [] σ' H' s' → RelV v u → Q v H' → CE outer P w H s Q u s' :=
    fun {σ' H' v u} J rv q => ⟨v, H', J.os, J.bare, J.base, J.hok, rv, q⟩
  cases fl with
  | ret u =>
    obtain ⟨v, σ', H', J, rv, q⟩ := hs
    exact fin J rv q
  | next =>
    obtain ⟨σ', H', J, q⟩ := hs
    exact fin (v := V.non) (u := Value.none) J rfl q
  | brk =>
    obtain ⟨_, _, _, q⟩ := hs
    exact False.elim q
  | cont =>
    obtain ⟨_, _, _, q⟩ := hs
    exact False.elim q
/-- no error leaves it -/
def mDefQ (n N : Nat) (body : MS) : List D → Store → R D := fun ds S => (mDef n N body ds S).quiet
theorem tS_quiet {E : WX} {body : MS} {D τ H} (h : tS K E (fun σ S => match body σ S with | .ex _ _ _ => .no | o => o) D τ H) : tS K W0 body D τ H := by
  obtain ⟨F, μ, σ, S, W, hs, h⟩ := h
  refine ⟨F, μ, σ, S, W, hs, ?_⟩
  dsimp only at h
  cases q : body σ S with
  | nx => rw [q] at h; exact h
  | rt => rw [q] at h; exact h
  | bk => rw [q] at h; exact h
  | ct => rw [q] at h; exact h
  | ex => rw [q] at h; exact h.elim
  | no => rw [q] at h; exact h
theorem fnm_nox {x qual : Str} {st : Stmt} {f : Addr} {fd : FuncData} {N ps : List Str} {k : Nat} {body : MS} (F : Fun K x qual st f fd) (S : FnScope N ps (defScope st))
    (hbody : ∀ (cdv : Value) (A : Around) (outer : List Env) (s : Shared) (H : Hp) (E : XK), Room k (A.deeper (envOfC qual (defScope st) s.heap.objs.size f cdv)) → (A.deeper (envOfC qual (defScope st) s.heap.objs.size f cdv)).guards = some [] →
      PSs (cxOf (L2.CX P w) P w K mg base N qual (defScope st) f cdv A outer s H E).nox (defBody st) (tS K W0 body)) : FnM P w K mg base (k + 1) f fd ps (mDefQ ps.length N.length body) := by
  refine (fnm_of (body := fun σ S => match body σ S with | .ex _ _ _ => .no | o => o) F S fun cdv A outer s H E hr hg => (hbody cdv A outer s H E hr hg).nox.imp fun D τ H h => tS_quiet h).imp (fun ds S h => by unfold mDefQ; rw [mDef_len h]; rfl) fun vs H Q E ⟨Fz, μ, S0, ds, W, rd, h⟩ => ⟨Fz, μ, S0, ds, W, rd, ?_⟩
  unfold mDefQ at h
  by_cases hl : ds.length = ps.length
  · unfold mDef at h ⊢
    rw [if_pos hl] at h ⊢
    dsimp only
    cases q : body (ds.map some ++ List.replicate (N.length - ps.length) none) S0 with
    | nx => rw [q] at h; exact h
    | rt => rw [q] at h; exact h
    | bk => rw [q] at h; exact h.elim
    | ct => rw [q] at h; exact h.elim
    | ex => rw [q] at h; exact h.elim
    | no => rw [q] at h; exact h.elim
  · rw [mDef_len hl] at h; exact h.elim
end

/-! ### how a call keeps a mirror from the caller's cells -/
mutual
def D.out (S : Store) : D → Option D
  | .ref l => match S[l]? with
    | some (.lst xs) => if pureAll xs then some (.lst xs) else none
    | some (.fz xs) => if pureAll xs then some (.lst xs) else none
    | some (.fd ks xs) => if pureAll xs then some (.dct ks xs) else none
    | some (.ob c fs) => if pureAll (fs.map (·.2)) then some (.obj c (fs.map (·.1)) (fs.map (·.2))) else none
    | _ => none
  | .tup xs => (outAll S xs).map .tup
  | .lst xs => (outAll S xs).map .lst
  | .scr xs => if pureAll xs then some (.scr xs) else none
  | .dct ks xs => if pureAll xs then some (.dct ks xs) else none
  | .obj c fs xs => if pureAll xs then some (.obj c fs xs) else none
  | .non => some .non
  | .bl b => some (.bl b)
  | .int i => some (.int i)
  | .str x => some (.str x)
def outAll (S : Store) : List D → Option (List D)
  | [] => some []
  | d :: ds => match d.out S, outAll S ds with
    | some e, some es => some (e :: es)
    | _, _ => none
end
/-- arguments without cells, a result without cells: the callee runs over a store of its own -/
def pureF (f : List D → Store → R D) : List D → Store → R D := fun ds S => if pureAll ds then (match f ds [] with
  | .ok d S1 => match d.out S1 with
    | some e => .ok e S
    | none => .no
  | .ex e _ => .ex e S
  | .no => .no) else .no
section
variable {K : PySem.W.Frag} {H F H1 F1 : Hp} {μ μ1 : List Addr} {S S1 : Store}
mutual
theorem out_pure : ∀ {d e : D}, d.out S = some e → e.pure = true
  | .ref l, e, h => by
    simp only [D.out] at h
    split at h
    · split at h
      · cases h; rename_i q; simpa [D.pure] using q
      · cases h
    · split at h
      · cases h; rename_i q; simpa [D.pure] using q
      · cases h
    · split at h
      · cases h; rename_i q; simpa [D.pure] using q
      · cases h
    · split at h
      · cases h; rename_i q; simpa [D.pure] using q
      · cases h
    · cases h
  | .dct ks xs, e, h => by
    simp only [D.out] at h
    split at h
    · cases h; rename_i q; simpa [D.pure] using q
    · cases h
  | .obj c fs xs, e, h => by
    simp only [D.out] at h
    split at h
    · cases h; rename_i q; simpa [D.pure] using q
    · cases h
  | .tup xs, e, h => by
    simp only [D.out, Option.map_eq_some_iff] at h
    obtain ⟨ys, h1, rfl⟩ := h
    simpa [D.pure] using outAll_pure h1
  | .lst xs, e, h => by
    simp only [D.out, Option.map_eq_some_iff] at h
    obtain ⟨ys, h1, rfl⟩ := h
    simpa [D.pure] using outAll_pure h1
  | .scr xs, e, h => by
    simp only [D.out] at h
    split at h
    · cases h; rename_i q; simpa [D.pure] using q
    · cases h
  | .non, e, h => by cases h; rfl
  | .bl b, e, h => by cases h; rfl
  | .int b, e, h => by cases h; rfl
  | .str b, e, h => by cases h; rfl
theorem outAll_pure : ∀ {ds es : List D}, outAll S ds = some es → pureAll es = true
  | [], es, h => by cases h; rfl
  | d :: ds, es, h => by
    simp only [outAll] at h
    split at h
    · rename_i e es' h1 h2
      cases h
      rw [pureAll, out_pure h1, outAll_pure h2]
      rfl
    · cases h
end
/-- every list's cell frozen at once -/
def allF (H F : Hp) (μ : List Addr) : Hp := fun a => match F a with
  | some o => some o
  | none => if a ∈ μ then H a else none
theorem allF_mono : ∀ a o, F a = some o → allF H F μ a = some o := fun a o h => by unfold allF; rw [h]
theorem allF_sub (hs : ∀ a o, F a = some o → H a = some o) : ∀ a o, allF H F μ a = some o → H a = some o := fun a o h => by
  unfold allF at h
  split at h
  · rename_i o' q; cases h; exact hs a _ q
  · split at h
    · exact h
    · cases h
theorem allF_in {a : Addr} {l : Nat} {o : HO} (hf : F a = none) (ha : μ[l]? = some a) (h : H a = some o) : allF H F μ a = some o := by
  unfold allF
  rw [hf]
  dsimp only
  rw [if_pos (mem_of_ix ha), h]
mutual
theorem out_rep (W : Wd K H F μ S) : ∀ {d e : D} {v : V}, d.out S = some e → Rep K F μ d v → Rep K (allF H F μ) μ1 e v
  | .ref l, e, v, h, r => by
    cases r with
    | ref ha =>
      rename_i a
      simp only [D.out] at h
      split at h
      · rename_i xs q
        split at h
        · rename_i hp
          cases h
          obtain ⟨vs, h1, h2⟩ := W.cell l _ a q ha
          have hf : F a = none := W.out a ⟨l, _, ha, q, rfl⟩
          refine .lst ?_ (Reps.anyMu hp (h2.mono (F' := allF H F μ) (μ' := μ) allF_mono fun _ _ h => h))
          unfold allF
          rw [hf]
          dsimp only
          rw [if_pos (mem_of_ix ha), h1]
        · cases h
      · rename_i xs q
        split at h
        · rename_i hp
          cases h
          obtain ⟨vs, h1, h2⟩ := W.cell l _ a q ha
          exact .lst (allF_mono _ _ h1) (Reps.anyMu hp (h2.mono (F' := allF H F μ) (μ' := μ) allF_mono fun _ _ h => h))
        · cases h
      · rename_i ks xs q
        split at h
        · rename_i hp
          cases h
          have z : Rep K F μ (.dct ks xs) (.ref a) := W.cell l _ a q ha
          exact Rep.anyMu (by simpa [D.pure] using hp) (z.mono (F' := allF H F μ) (μ' := μ) allF_mono fun _ _ h => h)
        · cases h
      · rename_i c fs q
        split at h
        · rename_i hp
          cases h
          obtain ⟨C, dx, us, h1, h2, h3, h4⟩ := W.cell l _ a q ha
          have hf : F a = none := W.out a ⟨l, _, ha, q, rfl⟩
          exact .obj (allF_in hf ha h1) h2 h3 rfl (Reps.anyMu hp (h4.mono (F' := allF H F μ) (μ' := μ) allF_mono fun _ _ h => h))
        · cases h
      · cases h
  | .dct ks xs, e, v, h, r => by
    simp only [D.out] at h
    split at h
    · rename_i hp
      cases h
      exact Rep.anyMu (by simpa [D.pure] using hp) (r.mono (F' := allF H F μ) (μ' := μ) allF_mono fun _ _ h => h)
    · cases h
  | .obj c fs xs, e, v, h, r => by
    simp only [D.out] at h
    split at h
    · rename_i hp
      cases h
      exact Rep.anyMu (by simpa [D.pure] using hp) (r.mono (F' := allF H F μ) (μ' := μ) allF_mono fun _ _ h => h)
    · cases h
  | .tup xs, e, v, h, r => by
    simp only [D.out, Option.map_eq_some_iff] at h
    obtain ⟨ys, h1, rfl⟩ := h
    cases r with
    | tup ha r => exact .tup (allF_mono _ _ ha) (outAll_rep W h1 r)
  | .lst xs, e, v, h, r => by
    simp only [D.out, Option.map_eq_some_iff] at h
    obtain ⟨ys, h1, rfl⟩ := h
    cases r with
    | lst ha r => exact .lst (allF_mono _ _ ha) (outAll_rep W h1 r)
  | .scr xs, e, v, h, r => by
    simp only [D.out] at h
    split at h
    · rename_i hp
      cases h
      cases r with
      | scr ha r => exact .scr (sqL_mono allF_mono ha) (Reps.anyMu hp (r.mono (F' := allF H F μ) (μ' := μ) allF_mono fun _ _ h => h))
    · cases h
  | .non, e, v, h, r => by cases h; cases r; exact .non
  | .bl b, e, v, h, r => by cases h; cases r; exact .bl b
  | .int b, e, v, h, r => by cases h; cases r; exact .int b
  | .str b, e, v, h, r => by cases h; cases r; exact .str b
theorem outAll_rep (W : Wd K H F μ S) : ∀ {ds es : List D} {vs : List V}, outAll S ds = some es → Reps K F μ ds vs → Reps K (allF H F μ) μ1 es vs
  | [], es, vs, h, r => by cases h; cases r; exact .nil
  | d :: ds, es, vs, h, r => by
    simp only [outAll] at h
    split at h
    · rename_i e es' h1 h2
      cases h
      cases r with
      | cons q r => exact .cons (out_rep W h1 q) (outAll_rep W h2 r)
    · cases h
end
theorem Wd.none (W : Wd K H F μ S) : Wd K H F [] [] := ⟨W.sub, rfl, List.nodup_nil, fun a ⟨l, c, h, _⟩ => by simp at h, fun l c a h _ => by simp at h⟩
/-- back from a callee over a store of its own -/
theorem back_pure (W : Wd K H F μ S) (e : Ext H F [] [] H1 F1 μ1 S1) (W1 : Wd K H1 F1 μ1 S1) : Ext H F μ S H1 (allF H1 F1 μ1) μ S ∧ Wd K H1 (allF H1 F1 μ1) μ S := by
  have fresh : ∀ a, allF H1 F1 μ1 a ≠ none → F a ≠ none ∨ H a = none ∨ ∃ vs, H a = some (.tup vs) := fun a h => by
    have h' := h
    unfold allF at h
    split at h
    · rename_i o q
      rcases e.fnew a (by rw [q]; simp) with z | z | z | z
      · exact .inl z
      · exact .inr (.inl z)
      · cases z
      · exact .inr (.inr z)
    · split at h
      · rename_i q hm
        obtain ⟨l, hl⟩ := List.getElem?_of_mem hm
        rcases e.new l a hl with z | z
        · simp at z
        · exact .inr (.inl z)
      · exact absurd rfl h
  have keep : ∀ a o, H a = some o → H1 a = some o := fun a o h => e.keep a o h fun ⟨l, c, h, _⟩ => by simp at h
  refine ⟨⟨fun a o h => allF_mono a o (e.fz a o h), fun _ _ h => h, fun a o h _ => keep a o h, e.dom, fun _ _ h => .inl h, fun a h => (fresh a h).imp id fun z => z.imp id .inr, fun _ _ _ h => h, Nat.le_refl _⟩, ⟨allF_sub W1.sub, W.len, W.nd, fun a h => ?_, fun l c a h1 h2 => ?_⟩⟩
  · have hm : a ∈ μ := by obtain ⟨l, c, h1, _⟩ := h; exact mem_of_ix h1
    cases q : allF H1 F1 μ1 a with
    | none => rfl
    | some o =>
      rcases fresh a (by rw [q]; simp) with z | z | ⟨vs, z⟩
      · exact absurd (W.out a h) z
      · exact absurd z (W.there hm)
      · exact absurd z (W.notTup hm vs)
  · refine (W.cell l c a h1 h2).mono (fun a o h => allF_mono a o (e.fz a o h)) (fun _ _ h => h) fun _ => ?_
    cases q : H a with
    | none => exact absurd q (W.there (mem_of_ix h2))
    | some o => exact keep a o q
theorem RepEx.anyMu {e : Ex} {c : Value} {od : Option Addr} (h : RepEx K F μ e c od) : RepEx K F μ1 e c od := ⟨h.pure, h.cls, h.dict.imp_right fun ⟨dx, us, a, b, c⟩ => ⟨dx, us, a, b, c.1, Reps.anyMu h.pure c.2⟩⟩
theorem RepEx.monoF {e : Ex} {c : Value} {od : Option Addr} (hF : ∀ a o, F a = some o → F1 a = some o) (h : RepEx K F μ e c od) : RepEx K F1 μ e c od := ⟨h.pure, h.cls, h.dict.imp_right fun ⟨dx, us, a, b, c⟩ => ⟨dx, us, a, hF _ _ b, c.1, c.2.mono hF fun _ _ h => h⟩⟩
end
theorem FnM.pure {P w K mg base k f fd ps mf} (F : FnM P w K mg base k f fd ps mf) : FnM P w K mg base k f fd ps (pureF mf) := by
  refine F.imp (fun ds S h => ?_) fun vs H Q E ⟨Fz, μ, S, ds, W, rd, h⟩ => ?_
  · unfold pureF
    split
    · rw [F.len ds [] h]
    · rfl
  · unfold pureF at h
    by_cases hp : pureAll ds = true
    case neg => rw [if_neg hp] at h; exact h.elim
    rw [if_pos hp] at h
    refine ⟨Fz, [], [], ds, W.none, Reps.anyMu hp rd, ?_⟩
    cases q : mf ds [] with
    | no => rw [q] at h; exact h
    | ex e S1 =>
      rw [q] at h
      intro H1 F1 μ1 c od e1 W1 r1
      obtain ⟨e2, W2⟩ := back_pure W e1 W1
      exact h _ _ _ c od e2 W2 (r1.monoF allF_mono).anyMu
    | ok d S1 =>
      rw [q] at h
      dsimp only at h
      intro H1 F1 μ1 e1 W1 v r1
      cases qo : d.out S1 with
      | none => rw [qo] at h; exact h.elim
      | some d' =>
        rw [qo] at h
        obtain ⟨e2, W2⟩ := back_pure W e1 W1
        exact h _ _ _ e2 W2 v (out_rep W1 qo r1)

/-! ### the rules for calls -/
section
variable {X : Cx} {k : Nat} {f : Addr} {fd : FuncData} {ps : List Str} {mf : List D → Store → R D} {E : WX} {x : Str} {p pos : Pos} {e : Expr} {es : List Expr} {mas mks : MA} {ks : List Str} {kws : List Keyword} {g : List Value → List Value → List Value} {gV : List V → List V → List V} {gD : List D → List D → List D}
theorem runm_fn {E : XK} {args : Args} {pins : List (Addr × Obj)} {σ : L2.St} {H : Hp} {s : Shared} {Q : VK} {us : List Value} {vs : List V} (F : FnM X.prog X.w X.K X.mg X.base k f fd ps mf) (hr : Room k X.A) (hg : X.A.guards = some []) (hx : PassesAt (L2.CX X.prog X.w) X σ E)
    (I : Inv X pins σ H s) (hb : us.length = ps.length → BindsTo s fd args (ps.zip us)) (r : Vals vs us) (h : spM X.K mf vs H Q E) : wpAny (model X.prog X.w) X.A (call (.ref f) args.pos args.kw) (EP X pins σ Q) X.xe s := by
  have hl : us.length = ps.length := by rw [← r.length]; exact F.size h
  refine wpAny_call (codeAny_mono (F.run X.A X.stack s H args us vs Q E hr hg I.env0 (hb hl) r h) fun r s' hq => ?_)
  cases r with
  | error e => exact hx pins H s e s' I hq
  | ok fl =>
    cases fl with
    | ret u => exact I.after hq
    | next => exact False.elim hq
    | brk => exact False.elim hq
    | cont => exact False.elim hq
theorem se_call (F : FnM X.prog X.w X.K X.mg X.base k f fd ps mf) (hr : Room k X.A) (hgd : X.A.guards = some []) (hm : X.mg x = some (.ref f)) (hk : PySem.W.keepIn X.K (.ref f) = true) (hb : Binds X.K fd ps []) (hx : ∀ σ, PassesAt (L2.CX X.prog X.w) X σ (WE E σ))
    (ha : PA X (e :: es) (tA X.K E mas)) (hg : Gl X x := by rfl) (hdb : (x == ("__debug__" : Str)) = false := by decide) (he : starEach (e :: es) X.env = (false, eval e X.env) :: starEach es X.env := by rfl) (hpl : (backTo pos (starEach es X.env)).any (·.1) = false := by rfl) :
    PE X (.Call (.Name x p) (e :: es) [] pos) (tE X.K E (mN mf mas)) := by
  refine ⟨fun pins s σ H Q I h => ?_⟩
  obtain ⟨Fz, μ, σ', S, W, hs, h⟩ := h
  refine wpAny_Call_Name_kw (ld_glob I hg hm ?_ hdb)
  refine PySem.W.callWith_K (h₀ := X.base) I.ok.mod.kin hk (thn (ha.run pos pins s σ H _ I ⟨Fz, μ, σ', S, W, hs, (h.split W).mono fun xs S1 H1 F1 μ1 e1 W1 h1 vs q => (⟨F1, μ1, S1, xs, W1, q, h1⟩ : spM X.K mf vs H1 Q (WE E σ))⟩) fun us s1 ⟨vs, H1, I1, r, q⟩ => ⟨I1.kIn, ?_⟩) he hpl
  exact runm_fn (args := ⟨us, []⟩) F hr hgd (hx σ) I1 (fun hl => by have := hb s1 us I1.kIn (by simpa using hl); simpa using this) r q
theorem se_call0 (F : FnM X.prog X.w X.K X.mg X.base k f fd ps mf) (hr : Room k X.A) (hgd : X.A.guards = some []) (hm : X.mg x = some (.ref f)) (hk : PySem.W.keepIn X.K (.ref f) = true) (hb : Binds X.K fd ps []) (hx : ∀ σ, PassesAt (L2.CX X.prog X.w) X σ (WE E σ))
    (hg : Gl X x := by rfl) (hdb : (x == ("__debug__" : Str)) = false := by decide) : PE X (.Call (.Name x p) [] [] pos) (tE X.K E (mN mf mNil)) := by
  refine ⟨fun pins s σ H Q I h => ?_⟩
  obtain ⟨Fz, μ, σ', S, W, hs, h⟩ := h
  refine wpAny_Call_Name_kw (ld_glob I hg hm ?_ hdb)
  exact PySem.W.callWith_K0 I.kIn hk (runm_fn (args := ⟨[], []⟩) (us := []) F hr hgd (hx σ) I (fun hl => by have := hb s [] I.kIn (by simpa using hl); simpa using this) .nil ⟨Fz, μ, S, [], W, .nil, h⟩)
/-- how keywords are bound, over data too -/
structure KB (K : PySem.W.Frag) (fd : FuncData) (ps : List Str) (n : Nat) (ks : List Str) (g : List Value → List Value → List Value) (gV : List V → List V → List V) (gD : List D → List D → List D) : Prop where
  to : ∀ (s : Shared) (us ws : List Value), K.In s.heap → us.length = n → ws.length = ks.length → BindsTo s fd ⟨us, ks.zip ws⟩ (ps.zip (g us ws))
  rel : ∀ {vs : List V} {us : List Value} {zs : List V} {ws : List Value}, Vals vs us → Vals zs ws → Vals (gV vs zs) (g us ws)
  rep : ∀ {F : Hp} {μ : List Addr} {ds : List D} {vs : List V} {es : List D} {zs : List V}, Reps K F μ ds vs → Reps K F μ es zs → Reps K F μ (gD ds es) (gV vs zs)
def mNK (n k : Nat) (f : List D → Store → R D) (gD : List D → List D → List D) (as ks : MA) : ME := fun σ S => (as σ S).bind fun xs S1 => (ks σ S1).bind fun ys S2 => if xs.length = n ∧ ys.length = k then f (gD xs ys) S2 else .no
theorem se_callK {n : Nat} (F : FnM X.prog X.w X.K X.mg X.base k f fd ps mf) (hr : Room k X.A) (hgd : X.A.guards = some []) (hm : X.mg x = some (.ref f)) (hk : PySem.W.keepIn X.K (.ref f) = true) (hb : KB X.K fd ps n ks g gV gD) (hx : ∀ σ, PassesAt (L2.CX X.prog X.w) X σ (WE E σ))
    (ha : PA X (e :: es) (tA X.K E mas)) (hkw : PK X kws (tA X.K E mks)) (hall : (backToKw pos (keywordEach kws X.env)).all (·.1.isSome) = true := by rfl) (hks : (backToKw pos (keywordEach kws X.env)).filterMap (·.1) = ks := by rfl)
    (hg : Gl X x := by rfl) (hdb : (x == ("__debug__" : Str)) = false := by decide) (he : starEach (e :: es) X.env = (false, eval e X.env) :: starEach es X.env := by rfl)
    (hpl : ((backTo pos (starEach (e :: es) X.env)).any (·.1) || (backToKw pos (keywordEach kws X.env)).any (·.1.isNone)) = false := by rfl) :
    PE X (.Call (.Name x p) (e :: es) kws pos) (tE X.K E (mNK n ks.length mf gD mas mks)) := by
  refine ⟨fun pins s σ H Q I h => ?_⟩
  obtain ⟨Fz, μ, σ', S, W, hs, h⟩ := h
  refine wpAny_Call_Name_kw (ld_glob I hg hm ?_ hdb)
  refine PySem.W.callWith_KW (h₀ := X.base) I.ok.mod.kin hk hall (thn (ha.run pos pins s σ H (fun vs H1 => tA X.K E mks σ H1 fun zs H2 => vs.length = n ∧ zs.length = ks.length ∧ spM X.K mf (gV vs zs) H2 Q (WE E σ)) I ⟨Fz, μ, σ', S, W, hs, (h.split W).mono fun xs S1 H1 F1 μ1 e1 W1 h1 vs q => ⟨F1, μ1, σ', S1, W1, hs.ext e1, (h1.split W1).mono fun ys S2 H2 F2 μ2 e2 W2 h2 zs q2 => ?_⟩⟩) fun us s1 ⟨vs, H1, I1, r, q⟩ => ?_) hpl he
  · by_cases hc : xs.length = n ∧ ys.length = ks.length
    · rw [if_pos hc] at h2
      exact ⟨by rw [← q.length]; exact hc.1, by rw [← q2.length]; exact hc.2, F2, μ2, S2, _, W2, hb.rep (q.ext e2) q2, h2⟩
    · rw [if_neg hc] at h2; exact h2.elim
  · refine thn (hkw.run pos pins s1 σ H1 _ I1 q) fun ws s2 ⟨zs, H2, I2, rz, hl1, hl2, q2⟩ => ⟨I2.kIn, ?_⟩
    rw [hks]
    exact runm_fn (args := ⟨us, ks.zip ws⟩) F hr hgd (hx σ) I2 (fun _ => hb.to s2 us ws I2.kIn (by rw [← r.length]; exact hl1) (by rw [← rz.length]; exact hl2)) (hb.rel r rz) q2
/-- keywords alone -/
theorem se_callK0 (F : FnM X.prog X.w X.K X.mg X.base k f fd ps mf) (hr : Room k X.A) (hgd : X.A.guards = some []) (hm : X.mg x = some (.ref f)) (hk : PySem.W.keepIn X.K (.ref f) = true) (hb : KB X.K fd ps 0 ks g gV gD) (hx : ∀ σ, PassesAt (L2.CX X.prog X.w) X σ (WE E σ))
    (hkw : PK X kws (tA X.K E mks)) (hall : (backToKw pos (keywordEach kws X.env)).all (·.1.isSome) = true := by rfl) (hks : (backToKw pos (keywordEach kws X.env)).filterMap (·.1) = ks := by rfl)
    (hg : Gl X x := by rfl) (hdb : (x == ("__debug__" : Str)) = false := by decide)
    (hpl : ((backTo pos (starEach [] X.env)).any (·.1) || (backToKw pos (keywordEach kws X.env)).any (·.1.isNone)) = false := by rfl) :
    PE X (.Call (.Name x p) [] kws pos) (tE X.K E (mNK 0 ks.length mf gD mNil mks)) := by
  refine ⟨fun pins s σ H Q I h => ?_⟩
  obtain ⟨Fz, μ, σ', S, W, hs, h⟩ := h
  have h : Done X.K (WE E σ) H Fz μ S ((mks σ' S).bind fun ys S2 => if ([] : List D).length = 0 ∧ ys.length = ks.length then mf (gD [] ys) S2 else .no) (fun d _ H' F' μ' => ∀ v, Rep X.K F' μ' d v → Q v H') := h
  refine wpAny_Call_Name_kw (ld_glob I hg hm ?_ hdb)
  refine PySem.W.callWith_KW0 (h₀ := X.base) I.ok.mod.kin hk hall (thn (hkw.run pos pins s σ H (fun zs H2 => zs.length = ks.length ∧ spM X.K mf (gV [] zs) H2 Q (WE E σ)) I ⟨Fz, μ, σ', S, W, hs, (Done.split W h).mono fun ys S2 H2 F2 μ2 e2 W2 h2 zs q2 => ?_⟩) fun ws s2 ⟨zs, H2, I2, rz, hl2, q2⟩ => ⟨I2.kIn, ?_⟩) hpl
  · by_cases hc : ([] : List D).length = 0 ∧ ys.length = ks.length
    · rw [if_pos hc] at h2
      exact ⟨by rw [← q2.length]; exact hc.2, F2, μ2, S2, _, W2, hb.rep .nil q2, h2⟩
    · rw [if_neg hc] at h2; exact h2.elim
  · rw [hks]
    exact runm_fn (args := ⟨[], ks.zip ws⟩) F hr hgd (hx σ) I2 (fun _ => hb.to s2 [] ws I2.kIn rfl (by rw [← rz.length]; exact hl2)) (hb.rel .nil rz) q2
end
end MM

set_option Elab.async false
set_option linter.all false
set_option maxRecDepth 100000
/-! Operators by values. -/
namespace MM
open PySem PySem.Spec PyProof.Rows L2

def lim (n : Nat) : Bool := decide (n ≤ 1000000)
theorem lim_le {n : Nat} (h : lim n = true) : n ≤ sizeLine := lim_ok (of_decide_eq_true h)
/-- a list's items, read -/
def rdL (S : Store) (d : D) : Option (List D) := match d with
  | .lst xs => some xs
  | .ref l => match S[l]? with
    | some (.lst xs) => some xs
    | some (.fz xs) => some xs
    | _ => none
  | _ => none
/-- a list's or a tuple's items, read -/
def rdS (S : Store) (d : D) : Option (List D) := match d with
  | .tup xs => some xs
  | .scr xs => some xs
  | d => rdL S d
def newL (m : Bool) (xs : List D) (S : Store) : R D := if m then .ok (.ref S.length) (S ++ [.lst xs]) else .ok (.lst xs) S
section
variable {K : PySem.W.Frag} {E : XK} {H F : Hp} {μ : List Addr} {S : Store} {d : D} {v : V} {xs : List D}
theorem rdL_ok (W : Wd K H F μ S) (r : Rep K F μ d v) (h : rdL S d = some xs) : ∃ a vs, v = .ref a ∧ H a = some (.lst vs) ∧ Reps K F μ xs vs := by
  cases r with
  | lst ha r => cases h; exact ⟨_, _, rfl, W.sub _ _ ha, r⟩
  | ref ha =>
    rename_i l a
    simp only [rdL] at h
    split at h
    · rename_i ys q
      cases h
      obtain ⟨vs, h1, h2⟩ := W.cell l _ a q ha
      exact ⟨a, vs, rfl, h1, h2⟩
    · rename_i ys q
      cases h
      obtain ⟨vs, h1, h2⟩ := W.cell l _ a q ha
      exact ⟨a, vs, rfl, W.sub _ _ h1, h2⟩
    · cases h
  | _ => cases h
theorem rdS_ok (W : Wd K H F μ S) (r : Rep K F μ d v) (h : rdS S d = some xs) : ∃ a vs, v = .ref a ∧ (SqL K H a vs ∨ SqT K H a vs) ∧ Reps K F μ xs vs := by
  cases r with
  | tup ha r => cases h; exact ⟨_, _, rfl, .inr (SqT.of (W.sub _ _ ha)), r⟩
  | scr ha r => cases h; exact ⟨_, _, rfl, .inl (sqL_mono W.sub ha), r⟩
  | lst ha r => cases h; exact ⟨_, _, rfl, .inl (SqL.of (W.sub _ _ ha)), r⟩
  | ref ha =>
    obtain ⟨a, vs, h1, h2, h3⟩ := rdL_ok W (.ref ha) (show rdL S (.ref _) = some xs from h)
    exact ⟨a, vs, h1, .inl (SqL.of h2), h3⟩
  | _ => cases h
theorem newL_ok {m : Bool} {vs : List V} {P : D → Store → Hp → Hp → List Addr → Prop} (W : Wd K H F μ S) (q : Reps K F μ xs vs) (h : Done K E H F μ S (newL m xs S) P) {p : Addr} (hp : H p = none) :
    ∃ F' μ' d' S', P d' S' (upd H p (.lst vs)) F' μ' ∧ Rep K F' μ' d' (.ref p) := by
  cases m with
  | true =>
    obtain ⟨h1, h2⟩ := new_cell W q (show Done K E H F μ S (.ok (.ref S.length) (S ++ [.lst xs])) P from h) hp
    exact ⟨_, _, _, _, h1, h2⟩
  | false =>
    obtain ⟨_, _, h1⟩ := Done.newF (d := .lst xs) W h (o := .lst vs) hp
    exact ⟨_, _, _, _, h1, rep_newL q (W.fnone hp)⟩
end
/-- the first that answers -/
def R.or {α : Type} (r r' : R α) : R α := match r with
  | .no => r'
  | r => r
theorem Done.or {α : Type} {K : PySem.W.Frag} {E : XK} {H F : Hp} {μ : List Addr} {S : Store} {r r' : R α} {P : α → Store → Hp → Hp → List Addr → Prop} (h : Done K E H F μ S (r.or r') P) : Done K E H F μ S r P ∨ Done K E H F μ S r' P := by
  cases r with
  | ok a S' => exact .inl h
  | ex e S' => exact .inl h
  | no => exact .inr h
def or2 (f g : D → D → Store → R D) : D → D → Store → R D := fun x y S => (f x y S).or (g x y S)
def or1 (f g : D → Store → R D) : D → Store → R D := fun x S => (f x S).or (g x S)
def orN (f g : List D → Store → R D) : List D → Store → R D := fun x S => (f x S).or (g x S)
section
variable {X : Cx} {E : XK}
theorem r2_or {K : PySem.W.Frag} {f g : D → D → Store → R D} {x y H Q} (h : r2 K (or2 f g) x y H Q) : r2 K f x y H Q ∨ r2 K g x y H Q := by
  obtain ⟨E, F, μ, S, d, e, W, r, q, h⟩ := h
  rcases Done.or h with h | h
  · exact .inl ⟨E, F, μ, S, d, e, W, r, q, h⟩
  · exact .inr ⟨E, F, μ, S, d, e, W, r, q, h⟩
theorem od_or {op : Value → Value → Sem Value} {f g : D → D → Store → R D} (h1 : OpR X op (r2 X.K f)) (h2 : OpR X op (r2 X.K g)) : OpR X op (r2 X.K (or2 f g)) := (h1.or h2).imp fun _ _ _ _ => r2_or
theorem ix_or {f g : D → D → Store → R D} (h1 : IxR X (r2 X.K f)) (h2 : IxR X (r2 X.K g)) : IxR X (r2 X.K (or2 f g)) := (h1.or h2).imp fun _ _ _ _ => r2_or
theorem cd_or {f : Value} {g k : List D → Store → R D} (h1 : CallR X f (rN X.K g)) (h2 : CallR X f (rN X.K k)) : CallR X f (rN X.K (orN g k)) := (h1.or h2).imp fun xs H Q ⟨E, F, μ, S, ds, W, r, h⟩ => by
  rcases Done.or h with h | h
  · exact .inl ⟨E, F, μ, S, ds, W, r, h⟩
  · exact .inr ⟨E, F, μ, S, ds, W, r, h⟩
end
/-! ### arithmetic -/
def onII (f : Int → Int → Store → R D) (x y : D) (S : Store) : R D := match x, y with
  | .int i, .int j => f i j S
  | _, _ => .no
def onSS (f : Str → Str → Store → R D) (x y : D) (S : Store) : R D := match x, y with
  | .str i, .str j => f i j S
  | _, _ => .no
def onTT (f : List D → List D → Store → R D) (x y : D) (S : Store) : R D := match x, y with
  | .tup i, .tup j => f i j S
  | _, _ => .no
def onLL (f : List D → List D → Store → R D) (x y : D) (S : Store) : R D := match rdL S x, rdL S y with
  | some i, some j => f i j S
  | _, _ => .no
def onLI (f : List D → Int → Store → R D) (x y : D) (S : Store) : R D := match rdL S x, y with
  | some i, .int j => f i j S
  | _, _ => .no
def need {α : Type} (b : Bool) (r : R α) : R α := if b then r else .no
theorem Done.need {α : Type} {K : PySem.W.Frag} {E : XK} {H F : Hp} {μ : List Addr} {S : Store} {b : Bool} {r : R α} {P : α → Store → Hp → Hp → List Addr → Prop} (h : Done K E H F μ S (MM.need b r) P) : b = true ∧ Done K E H F μ S r P := by
  cases b with
  | true => exact ⟨rfl, h⟩
  | false => exact h.elim
section
variable {X : Cx} {E : WX} {op : Value → Value → Sem Value}
abbrev PV (K : PySem.W.Frag) (Q : VK) : D → Store → Hp → Hp → List Addr → Prop := fun d _ H' F' μ' => ∀ v, Rep K F' μ' d v → Q v H'
theorem od_II {f : Int → Int → Store → R D} {r : R2} (h : OpR X op r) (hi : ∀ (E : XK) i j H F μ S Q, Wd X.K H F μ S → Done X.K E H F μ S (f i j S) (PV X.K Q) → r (.int i) (.int j) H Q) : OpR X op (r2 X.K (onII f)) := h.imp fun x y H Q ⟨E, F, μ, S, d, e, W, rd, re, h⟩ => by
  cases rd with
  | int i =>
    cases re with
    | int j => exact hi E i j H F μ S Q W h
    | _ => exact h.elim
  | _ => exact h.elim
theorem od_SS {f : Str → Str → Store → R D} {r : R2} (h : OpR X op r) (hi : ∀ (E : XK) i j H F μ S Q, Wd X.K H F μ S → Done X.K E H F μ S (f i j S) (PV X.K Q) → r (.str i) (.str j) H Q) : OpR X op (r2 X.K (onSS f)) := h.imp fun x y H Q ⟨E, F, μ, S, d, e, W, rd, re, h⟩ => by
  cases rd with
  | str i =>
    cases re with
    | str j => exact hi E i j H F μ S Q W h
    | _ => exact h.elim
  | _ => exact h.elim
theorem od_TT {f : List D → List D → Store → R D} {r : R2} (h : OpR X op r) (hi : ∀ (E : XK) xs ys a b vs us H F μ S Q, Wd X.K H F μ S → F a = some (.tup vs) → Reps X.K F μ xs vs → F b = some (.tup us) → Reps X.K F μ ys us → Done X.K E H F μ S (f xs ys S) (PV X.K Q) → r (.ref a) (.ref b) H Q) : OpR X op (r2 X.K (onTT f)) := h.imp fun x y H Q ⟨E, F, μ, S, d, e, W, rd, re, h⟩ => by
  cases rd with
  | tup ha ra =>
    cases re with
    | tup hb rb => exact hi E _ _ _ _ _ _ H F μ S Q W ha ra hb rb h
    | _ => exact h.elim
  | _ => exact h.elim
theorem od_LL {f : List D → List D → Store → R D} {r : R2} (h : OpR X op r) (hi : ∀ (E : XK) xs ys a b vs us H F μ S Q, Wd X.K H F μ S → H a = some (.lst vs) → Reps X.K F μ xs vs → H b = some (.lst us) → Reps X.K F μ ys us → Done X.K E H F μ S (f xs ys S) (PV X.K Q) → r (.ref a) (.ref b) H Q) : OpR X op (r2 X.K (onLL f)) := h.imp fun x y H Q ⟨E, F, μ, S, d, e, W, rd, re, h⟩ => by
  unfold onLL at h
  cases hd : rdL S d with
  | none => rw [hd] at h; exact h.elim
  | some xs =>
    cases he : rdL S e with
    | none => rw [hd, he] at h; exact h.elim
    | some ys =>
      rw [hd, he] at h
      obtain ⟨a, vs, rfl, ha, ra⟩ := rdL_ok W rd hd
      obtain ⟨b, us, rfl, hb, rb⟩ := rdL_ok W re he
      exact hi E xs ys a b vs us H F μ S Q W ha ra hb rb h
theorem od_LI {f : List D → Int → Store → R D} {r : R2} (h : OpR X op r) (hi : ∀ (E : XK) xs j a vs H F μ S Q, Wd X.K H F μ S → H a = some (.lst vs) → Reps X.K F μ xs vs → Done X.K E H F μ S (f xs j S) (PV X.K Q) → r (.ref a) (.int j) H Q) : OpR X op (r2 X.K (onLI f)) := h.imp fun x y H Q ⟨E, F, μ, S, d, e, W, rd, re, h⟩ => by
  unfold onLI at h
  cases hd : rdL S d with
  | none => rw [hd] at h; exact h.elim
  | some xs =>
    rw [hd] at h
    obtain ⟨a, vs, rfl, ha, ra⟩ := rdL_ok W rd hd
    cases re with
    | int j => exact hi E xs j a vs H F μ S Q W ha ra h
    | _ => exact h.elim
def b64 (i : Int) : Bool := decide (-(2 ^ 64) < i) && decide (i < 2 ^ 64)
theorem b64_ok {i : Int} (h : b64 i = true) : -(2 ^ 64) < i ∧ i < 2 ^ 64 := by simpa [b64] using h
def addI := onII fun i j S => .ok (.int (i + j)) S
def addS := onSS fun i j S => MM.need (lim (i.length + j.length)) (.ok (.str (i ++ j)) S)
def addT := onTT fun xs ys S => MM.need (lim (xs.length + ys.length)) (.ok (.tup (xs ++ ys)) S)
def addL (m : Bool) := onLL fun xs ys S => MM.need (lim (xs.length + ys.length)) (newL m (xs ++ ys) S)
def dAdd (m : Bool) := or2 addI (or2 addS (or2 addT (addL m)))
theorem od_addI : OpR X (binaryOp .Add) (r2 X.K addI) := od_II op_add fun E i j H F μ S Q W h => ⟨i, j, rfl, rfl, h.here W _ (.int _)⟩
theorem od_addS : OpR X (binaryOp .Add) (r2 X.K addS) := od_SS op_add_str fun E i j H F μ S Q W h => let ⟨hb, h⟩ := h.need; ⟨i, j, rfl, rfl, lim_le hb, h.here W _ (.str _)⟩
theorem od_addT : OpR X (binaryOp .Add) (r2 X.K addT) := od_TT op_catA fun E xs ys a b vs us H F μ S Q W ha ra hb rb h => by
  obtain ⟨hz, h⟩ := Done.need h
  refine ⟨a, b, vs, us, rfl, rfl, SqT.of (W.sub _ _ ha), SqT.of (W.sub _ _ hb), by rw [← ra.length, ← rb.length]; exact lim_le hz, fun e => ?_, fun n e => ?_, fun n1 n2 p hp => ?_⟩
  · subst e
    cases ra
    exact h.here W _ (.tup hb rb)
  · subst e
    cases rb
    rw [List.append_nil] at h
    exact h.here W _ (.tup ha ra)
  · obtain ⟨_, _, h1⟩ := Done.newF W h (o := .tup (vs ++ us)) hp
    exact h1 _ (rep_newT (ra.append rb) (W.fnone hp))
theorem od_addL {m : Bool} : OpR X (binaryOp .Add) (r2 X.K (addL m)) := od_LL op_cat fun E xs ys a b vs us H F μ S Q W ha ra hb rb h => by
  obtain ⟨hz, h⟩ := Done.need h
  refine ⟨a, b, vs, us, rfl, rfl, ha, hb, by rw [← ra.length, ← rb.length]; exact lim_le hz, fun p hp => ?_⟩
  obtain ⟨_, _, _, _, h1, h2⟩ := newL_ok W (ra.append rb) h hp
  exact h1 _ h2
theorem od_add {m : Bool} : OpR X (binaryOp .Add) (r2 X.K (dAdd m)) := od_or od_addI (od_or od_addS (od_or od_addT od_addL))
def dSub := onII fun i j S => .ok (.int (i - j)) S
theorem od_sub : OpR X (binaryOp .Sub) (r2 X.K dSub) := od_II op_sub fun E i j H F μ S Q W h => ⟨i, j, rfl, rfl, h.here W _ (.int _)⟩
def mulI := onII fun i j S => MM.need (b64 i || b64 j) (.ok (.int (i * j)) S)
def mulL (m : Bool) := onLI fun xs k S => MM.need (decide (-1000000 ≤ k) && decide (k ≤ 1000000) && lim (xs.length * k.toNat)) (newL m (List.replicate k.toNat xs).flatten S)
def dMul (m : Bool) := or2 mulI (mulL m)
theorem od_mulI : OpR X (binaryOp .Mult) (r2 X.K mulI) := od_II op_mul fun E i j H F μ S Q W h => by
  obtain ⟨hb, h⟩ := h.need
  refine ⟨i, j, rfl, rfl, ?_, h.here W _ (.int _)⟩
  rcases Bool.or_eq_true_iff.mp hb with z | z
  · exact .inl (b64_ok z)
  · exact .inr (b64_ok z)
theorem od_mulL {m : Bool} : OpR X (binaryOp .Mult) (r2 X.K (mulL m)) := od_LI op_rep fun E xs k a vs H F μ S Q W ha ra h => by
  obtain ⟨hb, h⟩ := Done.need h
  simp only [Bool.and_eq_true, decide_eq_true_eq] at hb
  refine ⟨a, k, vs, rfl, rfl, ha, by omega, by omega, by rw [← ra.length]; exact lim_le hb.2, fun p hp => ?_⟩
  obtain ⟨_, _, _, _, h1, h2⟩ := newL_ok W (ra.rep k.toNat) h hp
  exact h1 _ h2
theorem od_mul {m : Bool} : OpR X (binaryOp .Mult) (r2 X.K (dMul m)) := od_or od_mulI od_mulL
def dDiv := onII fun i j S => MM.need (decide (j ≠ 0) && decide (j.natAbs < 1073741824)) (.ok (.int (i.fdiv j)) S)
theorem od_div : OpR X (binaryOp .FloorDiv) (r2 X.K dDiv) := od_II op_fdivN fun E i j H F μ S Q W h => by
  obtain ⟨hb, h⟩ := h.need
  simp only [Bool.and_eq_true, decide_eq_true_eq] at hb
  exact ⟨i, j, rfl, rfl, ⟨hb.1, hb.2⟩, h.here W _ (.int _)⟩
def dMod := onII fun i j S => MM.need (decide (j ≠ 0)) (.ok (.int (i.fmod j)) S)
theorem od_mod : OpR X (binaryOp .Mod) (r2 X.K dMod) := od_II op_modN fun E i j H F μ S Q W h => by
  obtain ⟨hb, h⟩ := h.need
  exact ⟨i, j, rfl, rfl, of_decide_eq_true hb, h.here W _ (.int _)⟩
def dPow := onII fun i j S => MM.need (decide (0 ≤ j) && decide (j ≤ 10000) && decide (i.natAbs < 2 ^ 64)) (.ok (.int (i ^ j.toNat)) S)
theorem od_pow : OpR X (binaryOp .Pow) (r2 X.K dPow) := od_II op_pow fun E i j H F μ S Q W h => by
  obtain ⟨hb, h⟩ := h.need
  simp only [Bool.and_eq_true, decide_eq_true_eq] at hb
  exact ⟨i, j, rfl, rfl, ⟨hb.1.1, by omega, hb.2⟩, h.here W _ (.int _)⟩
def dNeg (x : D) (S : Store) : R D := match x with
  | .int i => .ok (.int (-i)) S
  | _ => .no
theorem ud_neg : UnR X (unaryOp .USub) (r1 X.K dNeg) := (un_neg).imp fun x H Q ⟨E, F, μ, S, d, W, r, h⟩ => by
  cases r with
  | int i => exact ⟨i, rfl, h.here W _ (.int _)⟩
  | _ => exact h.elim
/-! ### comparisons -/
def dCmp (p : Int → Int → Bool) := onII fun i j S => .ok (.bl (p i j)) S
def dLt := dCmp fun i j => decide (i < j)
def dLe := dCmp fun i j => decide (i ≤ j)
def dGt := dCmp fun i j => decide (j < i)
def dGe := dCmp fun i j => decide (j ≤ i)
theorem od_lt : OpR X (compareOp .Lt) (r2 X.K dLt) := od_II op_lt fun E i j H F μ S Q W h => ⟨i, j, rfl, rfl, h.here W _ (.bl _)⟩
theorem od_le : OpR X (compareOp .LtE) (r2 X.K dLe) := od_II op_le fun E i j H F μ S Q W h => ⟨i, j, rfl, rfl, h.here W _ (.bl _)⟩
theorem od_gt : OpR X (compareOp .Gt) (r2 X.K dGt) := od_II op_gt fun E i j H F μ S Q W h => ⟨i, j, rfl, rfl, h.here W _ (.bl _)⟩
theorem od_ge : OpR X (compareOp .GtE) (r2 X.K dGe) := od_II op_ge fun E i j H F μ S Q W h => ⟨i, j, rfl, rfl, h.here W _ (.bl _)⟩
end
/-! == of data -/
mutual
def D.pd : D → PyData
  | .non => .none
  | .bl b => .bool b
  | .int i => .int i
  | .str x => .str x
  | .tup xs => .tuple (pdAll xs)
  | .lst xs => .list (pdAll xs)
  | .scr xs => .list (pdAll xs)
  | .ref _ => .none
  | .dct _ _ => .none
  | .obj _ _ _ => .none
def pdAll : List D → List PyData
  | [] => []
  | x :: xs => x.pd :: pdAll xs
end
mutual
def eqD : D → D → Bool
  | .non, .non => true
  | .bl a, .bl b => a == b
  | .bl a, .int j => (if a then 1 else 0) == j
  | .int i, .bl b => i == (if b then 1 else 0)
  | .int i, .int j => i == j
  | .str x, .str y => x == y
  | .lst xs, .lst ys => eqAll xs ys
  | .lst xs, .scr ys => eqAll xs ys
  | .scr xs, .lst ys => eqAll xs ys
  | .scr xs, .scr ys => eqAll xs ys
  | .tup xs, .tup ys => eqAll xs ys
  | _, _ => false
def eqAll : List D → List D → Bool
  | [], [] => true
  | x :: xs, y :: ys => eqD x y && eqAll xs ys
  | _, _ => false
end
/-! no cells, at most n deep -/
mutual
def D.shal : Nat → D → Bool
  | n + 1, .tup xs => shalAll n xs
  | n + 1, .lst xs => shalAll n xs
  | n + 1, .scr xs => shalAll n xs
  | _, .non => true
  | _, .bl _ => true
  | _, .int _ => true
  | _, .str x => PyData.strOk x
  | _, _ => false
def shalAll : Nat → List D → Bool
  | _, [] => true
  | n, x :: xs => x.shal n && shalAll n xs
end
/-! data alone: no cells, dicts, objects -/
mutual
def D.dat : D → Bool
  | .tup xs => datAll xs
  | .lst xs => datAll xs
  | .scr xs => datAll xs
  | .ref _ => false
  | .dct _ _ => false
  | .obj _ _ _ => false
  | _ => true
def datAll : List D → Bool
  | [] => true
  | x :: xs => x.dat && datAll xs
end
mutual
theorem dat_pure : ∀ {x : D}, x.dat = true → x.pure = true
  | .non, _ => rfl
  | .bl _, _ => rfl
  | .int _, _ => rfl
  | .str _, _ => rfl
  | .tup xs, h => by simpa [D.pure] using datAll_pure (by simpa [D.dat] using h)
  | .lst xs, h => by simpa [D.pure] using datAll_pure (by simpa [D.dat] using h)
  | .scr xs, h => by simpa [D.pure] using datAll_pure (by simpa [D.dat] using h)
  | .ref _, h => by simp [D.dat] at h
  | .dct _ _, h => by simp [D.dat] at h
  | .obj _ _ _, h => by simp [D.dat] at h
theorem datAll_pure : ∀ {xs : List D}, datAll xs = true → pureAll xs = true
  | [], _ => rfl
  | x :: xs, h => by
    rw [datAll, Bool.and_eq_true] at h
    rw [pureAll, dat_pure h.1, datAll_pure h.2]; rfl
end
mutual
theorem eqD_eqv : ∀ {x y : D}, x.dat = true → y.dat = true → PyData.eqv x.pd y.pd = eqD x y
  | .non, y, p, q => by cases y <;> first | rfl | (simp [D.dat] at q; done)
  | .bl a, y, p, q => by cases y <;> first | rfl | (simp [D.dat] at q; done)
  | .int a, y, p, q => by cases y <;> first | rfl | (simp [D.dat] at q; done)
  | .str a, y, p, q => by cases y <;> first | rfl | (simp [D.dat] at q; done)
  | .tup xs, y, p, q => by
    cases y with
    | tup ys => exact eqAll_eqv (by simpa [D.dat] using p) (by simpa [D.dat] using q)
    | _ => first | rfl | (simp [D.dat] at q; done)
  | .lst xs, y, p, q => by
    cases y with
    | lst ys => exact eqAll_eqv (by simpa [D.dat] using p) (by simpa [D.dat] using q)
    | scr ys => exact eqAll_eqv (by simpa [D.dat] using p) (by simpa [D.dat] using q)
    | _ => first | rfl | (simp [D.dat] at q; done)
  | .scr xs, y, p, q => by
    cases y with
    | lst ys => exact eqAll_eqv (by simpa [D.dat] using p) (by simpa [D.dat] using q)
    | scr ys => exact eqAll_eqv (by simpa [D.dat] using p) (by simpa [D.dat] using q)
    | _ => first | rfl | (simp [D.dat] at q; done)
  | .ref l, y, p, q => by simp [D.dat] at p
  | .dct _ _, y, p, q => by simp [D.dat] at p
  | .obj _ _ _, y, p, q => by simp [D.dat] at p
theorem eqAll_eqv : ∀ {xs ys : List D}, datAll xs = true → datAll ys = true → PyData.eqvAll (pdAll xs) (pdAll ys) = eqAll xs ys
  | [], [], _, _ => rfl
  | [], _ :: _, _, _ => rfl
  | _ :: _, [], _, _ => rfl
  | x :: xs, y :: ys, p, q => by
    rw [datAll, Bool.and_eq_true] at p q
    show (PyData.eqv x.pd y.pd && PyData.eqvAll (pdAll xs) (pdAll ys)) = (eqD x y && eqAll xs ys)
    rw [eqD_eqv p.1 q.1, eqAll_eqv p.2 q.2]
end
mutual
theorem shal_ok : ∀ {n : Nat} {x : D}, x.shal n = true → x.dat = true ∧ x.pd.canLay0 = true ∧ x.pd.depth ≤ n
  | n, .non, h => ⟨rfl, rfl, Nat.zero_le _⟩
  | n, .bl b, h => ⟨rfl, rfl, Nat.zero_le _⟩
  | n, .int i, h => ⟨rfl, rfl, Nat.zero_le _⟩
  | 0, .str x, h => ⟨rfl, by simpa [D.shal, D.pd, PyData.canLay0] using h, Nat.zero_le _⟩
  | n + 1, .str x, h => ⟨rfl, by simpa [D.shal, D.pd, PyData.canLay0] using h, Nat.zero_le _⟩
  | 0, .tup xs, h => by cases h
  | 0, .lst xs, h => by cases h
  | 0, .scr xs, h => by cases h
  | n + 1, .tup xs, h => by
    obtain ⟨a, b, c⟩ := shalAll_ok (n := n) (xs := xs) (by simpa [D.shal] using h)
    exact ⟨by simpa [D.dat] using a, by simpa [D.pd, PyData.canLay0] using b, by simp only [D.pd, PyData.depth]; omega⟩
  | n + 1, .lst xs, h => by
    obtain ⟨a, b, c⟩ := shalAll_ok (n := n) (xs := xs) (by simpa [D.shal] using h)
    exact ⟨by simpa [D.dat] using a, by simpa [D.pd, PyData.canLay0] using b, by simp only [D.pd, PyData.depth]; omega⟩
  | n + 1, .scr xs, h => by
    obtain ⟨a, b, c⟩ := shalAll_ok (n := n) (xs := xs) (by simpa [D.shal] using h)
    exact ⟨by simpa [D.dat] using a, by simpa [D.pd, PyData.canLay0] using b, by simp only [D.pd, PyData.depth]; omega⟩
  | 0, .ref l, h => by cases h
  | n + 1, .ref l, h => by cases h
  | 0, .dct _ _, h => by cases h
  | n + 1, .dct _ _, h => by cases h
  | 0, .obj _ _ _, h => by cases h
  | n + 1, .obj _ _ _, h => by cases h
theorem shalAll_ok : ∀ {n : Nat} {xs : List D}, shalAll n xs = true → datAll xs = true ∧ PyData.canLayAll0 (pdAll xs) = true ∧ PyData.depthAll (pdAll xs) ≤ n
  | n, [], h => ⟨rfl, rfl, Nat.zero_le _⟩
  | n, x :: xs, h => by
    rw [shalAll, Bool.and_eq_true] at h
    obtain ⟨a, b, c⟩ := shal_ok h.1
    obtain ⟨a', b', c'⟩ := shalAll_ok h.2
    exact ⟨by rw [datAll, a, a']; rfl, by simp only [pdAll, PyData.canLayAll0, b, b']; rfl, by simp only [pdAll, PyData.depthAll]; omega⟩
end
section
variable {K : PySem.W.Frag} {H F : Hp} {μ : List Addr} {S : Store}
mutual
theorem dp_of (hs : ∀ a o, F a = some o → H a = some o) : ∀ {d : D} {v : V}, d.dat = true → Rep K F μ d v → Dp K H v d.pd
  | _, _, _, .non => .non
  | _, _, _, .bl b => .bl b
  | _, _, _, .int i => .int i
  | _, _, _, .str x => .str x
  | _, _, p, .tup h r => .tup (SqT.of (hs _ _ h)) (dpAll_of hs (by simpa [D.dat] using p) r)
  | _, _, p, .lst h r => .lst (SqL.of (hs _ _ h)) (dpAll_of hs (by simpa [D.dat] using p) r)
  | _, _, p, .scr h r => .lst (sqL_mono hs h) (dpAll_of hs (by simpa [D.dat] using p) r)
  | _, _, p, .ref h => by simp [D.dat] at p
  | _, _, p, .dct _ _ _ _ _ => by simp [D.dat] at p
  | _, _, p, .dck _ _ _ _ => by simp [D.dat] at p
  | _, _, p, .dcT _ _ _ _ => by simp [D.dat] at p
  | _, _, p, .obj _ _ _ _ _ => by simp [D.dat] at p
theorem dpAll_of (hs : ∀ a o, F a = some o → H a = some o) : ∀ {ds : List D} {vs : List V}, datAll ds = true → Reps K F μ ds vs → DpAll K H vs (pdAll ds)
  | _, _, _, .nil => .nil
  | _, _, p, .cons h r => by
    rw [datAll, Bool.and_eq_true] at p
    exact .cons (dp_of hs p.1 h) (dpAll_of hs p.2 r)
end
/-- the data as it stands, a list's cell read -/
def rd (S : Store) (d : D) : Option D := match d with
  | .ref l => match rdL S (.ref l) with
    | some xs => some (.lst xs)
    | none => none
  | d => some d
theorem rd_dp (W : Wd K H F μ S) {d e : D} {v : V} (r : Rep K F μ d v) (h : rd S d = some e) (p : e.dat = true) : Dp K H v e.pd := by
  cases r with
  | ref ha =>
    rename_i l a
    simp only [rd] at h
    split at h
    · rename_i xs q
      cases h
      obtain ⟨b, vs, e1, h1, h2⟩ := rdL_ok W (.ref ha) q
      cases e1
      exact .lst (SqL.of h1) (dpAll_of W.sub (by simpa [D.dat] using p) h2)
    · cases h
  | non => cases h; exact .non
  | bl => cases h; exact .bl _
  | int => cases h; exact .int _
  | str => cases h; exact .str _
  | tup a b => cases h; exact dp_of W.sub p (.tup a b)
  | lst a b => cases h; exact dp_of W.sub p (.lst a b)
  | scr a b => cases h; exact dp_of W.sub p (.scr a b)
  | dct a b c d e => cases h; simp [D.dat] at p
  | dck a b c d => cases h; simp [D.dat] at p
  | dcT a b c d => cases h; simp [D.dat] at p
  | obj a b c d e => cases h; simp [D.dat] at p
end
def onDD (f : D → D → Store → R D) (x y : D) (S : Store) : R D := match rd S x, rd S y with
  | some d, some e => MM.need (d.shal 40 && e.shal 40) (f d e S)
  | _, _ => .no
section
variable {X : Cx} {E : WX} {op : Value → Value → Sem Value}
theorem od_DD {f : D → D → Store → R D} {r : R2} (h : OpR X op r) (hi : ∀ (E : XK) d e x y H F μ S Q, Wd X.K H F μ S → Dp X.K H x d.pd → Dp X.K H y e.pd → d.dat = true → e.dat = true → SeqAt.shaped d.pd = true → SeqAt.shaped e.pd = true → Done X.K E H F μ S (f d e S) (PV X.K Q) → r x y H Q) : OpR X op (r2 X.K (onDD f)) := h.imp fun x y H Q ⟨E, F, μ, S, d, e, W, rd1, rd2, h⟩ => by
  unfold onDD at h
  cases h1 : rd S d with
  | none => rw [h1] at h; exact h.elim
  | some d' =>
    cases h2 : rd S e with
    | none => rw [h1, h2] at h; exact h.elim
    | some e' =>
      rw [h1, h2] at h
      obtain ⟨hb, h⟩ := Done.need h
      rw [Bool.and_eq_true] at hb
      obtain ⟨p1, c1, l1⟩ := shal_ok hb.1
      obtain ⟨p2, c2, l2⟩ := shal_ok hb.2
      exact hi E d' e' x y H F μ S Q W (rd_dp W rd1 h1 p1) (rd_dp W rd2 h2 p2) p1 p2 (by simp only [SeqAt.shaped, c1, Bool.true_and, decide_eq_true_eq]; omega) (by simp only [SeqAt.shaped, c2, Bool.true_and, decide_eq_true_eq]; omega) h
def dEq := onDD fun d e S => .ok (.bl (eqD d e)) S
def dNe := onDD fun d e S => .ok (.bl (!eqD d e)) S
theorem od_eq (hu : X.A.units + 64 < cLine) : OpR X (compareOp .Eq) (r2 X.K dEq) := od_DD (op_eqD hu) fun E d e x y H F μ S Q W r1 r2 p1 p2 s1 s2 h => ⟨d.pd, e.pd, r1, r2, s1, s2, by rw [eqD_eqv p1 p2]; exact h.here W _ (.bl _)⟩
theorem od_ne (hu : X.A.units + 64 < cLine) : OpR X (compareOp .NotEq) (r2 X.K dNe) := od_DD (op_neD hu) fun E d e x y H F μ S Q W r1 r2 p1 p2 s1 s2 h => ⟨d.pd, e.pd, r1, r2, s1, s2, by rw [eqD_eqv p1 p2]; exact h.here W _ (.bl _)⟩
/-! ### is -/
def isN (n : Bool) (x y : D) (S : Store) : R D := match y with
  | .non => match x with
    | .non => .ok (.bl n) S
    | _ => .ok (.bl (!n)) S
  | _ => .no
def isB (n : Bool) (x y : D) (S : Store) : R D := match x, y with
  | .bl a, .bl b => .ok (.bl (decide (a = b) == n)) S
  | _, _ => .no
def dIs (n : Bool) := or2 (isN n) (isB n)
theorem rep_non {K : PySem.W.Frag} {F : Hp} {μ : List Addr} {d : D} {v : V} (r : Rep K F μ d v) : (v = .non) ↔ d = .non := by
  cases r <;> simp
theorem od_is : OpR X (compareOp .Is) (r2 X.K (dIs true)) := od_or (op_isN.imp fun x y H Q ⟨E, F, μ, S, d, e, W, r, q, h⟩ => by
    cases q with
    | non =>
      refine ⟨rfl, ?_⟩
      by_cases z : d = .non
      · subst z; cases r; exact Done.here (a := D.bl true) (P := PV X.K Q) W h _ (.bl true)
      · rw [decide_eq_false fun z' => z ((rep_non r).mp z')]
        have h' : Done X.K E H F μ S (.ok (.bl false) S) (PV X.K Q) := by cases d <;> first | exact h | exact absurd rfl z
        exact h'.here W _ (.bl _)
    | _ => exact h.elim) (op_isBl.imp fun x y H Q ⟨E, F, μ, S, d, e, W, r, q, h⟩ => by
    cases r with
    | bl a =>
      cases q with
      | bl b => exact ⟨a, b, rfl, rfl, Done.here (P := PV X.K Q) W h _ (by have := @Rep.bl X.K F μ (decide (a = b)); simpa using this)⟩
      | _ => exact h.elim
    | _ => cases q <;> exact h.elim)
theorem od_isnot : OpR X (compareOp .IsNot) (r2 X.K (dIs false)) := od_or (op_notN.imp fun x y H Q ⟨E, F, μ, S, d, e, W, r, q, h⟩ => by
    cases q with
    | non =>
      refine ⟨rfl, ?_⟩
      by_cases z : d = .non
      · subst z; cases r; exact Done.here (a := D.bl false) (P := PV X.K Q) W h _ (.bl false)
      · rw [decide_eq_false fun z' => z ((rep_non r).mp z')]
        have h' : Done X.K E H F μ S (.ok (.bl true) S) (PV X.K Q) := by cases d <;> first | exact h | exact absurd rfl z
        exact h'.here W _ (.bl _)
    | _ => exact h.elim) (op_notBl.imp fun x y H Q ⟨E, F, μ, S, d, e, W, r, q, h⟩ => by
    cases r with
    | bl a =>
      cases q with
      | bl b => exact ⟨a, b, rfl, rfl, Done.here (P := PV X.K Q) W h _ (by have := @Rep.bl X.K F μ (!decide (a = b)); simpa using this)⟩
      | _ => exact h.elim
    | _ => cases q <;> exact h.elim)
end
end MM

set_option Elab.async false
set_option linter.all false
set_option maxRecDepth 100000
/-! Subscripts, slices, built-ins, methods, dicts, stores. -/
namespace MM
open PySem PySem.Spec PyProof.Rows L2

/-! ### subscripts -/
section
variable {K : PySem.W.Frag} {F H : Hp} {μ : List Addr} {S : Store}
theorem atI_rep {xs : List D} {vs : List V} {i : Int} {d : D} (r : Reps K F μ xs vs) (h : atI xs i = some d) : ∃ v, atI vs i = some v ∧ Rep K F μ d v := by
  unfold atI at h ⊢
  rw [r.length] at h
  cases q : ixN vs.length i with
  | none => rw [q] at h; cases h
  | some j =>
    rw [q] at h
    exact r.get h
end
def ixSeq (x y : D) (S : Store) : R D := match rdS S x, y with
  | some xs, .int i => match atI xs i with
    | some d => .ok d S
    | none => .no
  | _, _ => .no
def ixStr (x y : D) (S : Store) : R D := match x, y with
  | .str z, .int i => match atI z.cps.toList i with
    | some c => MM.need (lim z.length) (.ok (.str ⟨#[c]⟩) S)
    | none => .no
  | _, _ => .no
def dIx := or2 ixSeq ixStr
section
variable {X : Cx} {E : XK}
theorem xd_seq : IxR X (r2 X.K ixSeq) := (ix_list.or ix_tup).imp fun x y H Q ⟨E, F, μ, S, d, e, W, r, q, h⟩ => by
  unfold ixSeq at h
  cases hd : rdS S d with
  | none => rw [hd] at h; exact h.elim
  | some xs =>
    rw [hd] at h
    obtain ⟨a, vs, rfl, hs, ra⟩ := rdS_ok W r hd
    cases q with
    | int i =>
      dsimp only at h
      cases hi : atI xs i with
      | none => rw [hi] at h; exact h.elim
      | some d' =>
        rw [hi] at h
        obtain ⟨v, h1, h2⟩ := atI_rep ra hi
        rcases hs with hs | hs
        · exact .inl ⟨a, vs, i, v, rfl, rfl, hs, h1, h.here W _ h2⟩
        · exact .inr ⟨a, vs, i, v, rfl, rfl, hs, h1, h.here W _ h2⟩
    | _ => exact h.elim
theorem xd_str : IxR X (r2 X.K ixStr) := ix_str.imp fun x y H Q ⟨E, F, μ, S, d, e, W, r, q, h⟩ => by
  cases r with
  | str z =>
    cases q with
    | int i =>
      unfold ixStr at h
      dsimp only at h
      cases hi : atI z.cps.toList i with
      | none => rw [hi] at h; exact h.elim
      | some c =>
        rw [hi] at h
        obtain ⟨hz, h⟩ := Done.need h
        exact ⟨z, i, c, rfl, rfl, lim_le hz, hi, h.here W _ (.str _)⟩
    | _ => exact h.elim
  | _ => exact h.elim
theorem xd_ix : IxR X (r2 X.K dIx) := ix_or xd_seq xd_str
end
/-! ### slices -/
abbrev MP := Sg → Store → R (Option Int)
def tP (K : PySem.W.Frag) (E : WX) (m : MP) : TO := fun τ H Q => ∃ F μ σ S, Wd K H F μ S ∧ Sl K F μ σ τ ∧ Done K (WE E τ) H F μ S (m σ S) (fun o _ H' _ _ => Q o H')
def mpN : MP := fun _ S => .ok none S
def mpS (m : ME) : MP := fun σ S => (m σ S).bind fun d S1 => match d with
  | .int i => .ok (some i) S1
  | _ => .no
def cutD {α : Type} (xs : List α) (lo hi : Option Int) : List α := (xs.drop (HT.sIx xs.length 0 lo)).take (HT.sIx xs.length xs.length hi - HT.sIx xs.length 0 lo)
def slL (m : Bool) (x : D) (lo hi : Option Int) (S : Store) : R D := match x with
  | .scr xs => newL m (cutD xs lo hi) S
  | d => match rdL S d with
    | some xs => newL m (cutD xs lo hi) S
    | none => .no
def slT (x : D) (lo hi : Option Int) (S : Store) : R D := match x with
  | .tup xs => .ok (.tup (cutD xs lo hi)) S
  | _ => .no
def slS (x : D) (lo hi : Option Int) (S : Store) : R D := match x with
  | .str z => MM.need (lim z.length) (.ok (.str (cutS z lo hi)) S)
  | _ => .no
def dSl (m : Bool) (x : D) (lo hi : Option Int) (S : Store) : R D := (slL m x lo hi S).or ((slT x lo hi S).or (slS x lo hi S))
def mSl (m : Bool) (e : ME) (lo hi : MP) : ME := fun σ S => (e σ S).bind fun x S1 => (lo σ S1).bind fun l S2 => (hi σ S2).bind fun h S3 => dSl m x l h S3
section
variable {X : Cx} {E : WX} {e : Expr} {me : ME} {lo hi : Option Expr} {ml mh : MP} {pos p2 : Pos}
theorem sp_none : PO X none (tP X.K E mpN) := ⟨fun pins s σ H Q I h => po_none.run pins s σ H Q I (by obtain ⟨F, μ, σ', S, W, hs, h⟩ := h; exact h.here W)⟩
theorem sp_some (h : PE X e (tE X.K E me)) : PO X (some e) (tP X.K E (mpS me)) := ⟨fun pins s σ H Q I hw => (po_some h).run pins s σ H Q I (by
  obtain ⟨F, μ, σ', S, W, hs, h⟩ := hw
  refine ⟨F, μ, σ', S, W, hs, (h.split W).mono fun d S1 H1 F1 μ1 e1 W1 h1 v q => ?_⟩
  cases q with
  | int i => exact ⟨i, rfl, h1.here W1⟩
  | _ => exact h1.elim)⟩
def rSl (K : PySem.W.Frag) (m : Bool) : V → Option Int → Option Int → Hp → VK → Prop := fun x lo hi H Q => ∃ (E : XK) (F : Hp) (μ : List Addr) (S : Store) (d : D), Wd K H F μ S ∧ Rep K F μ d x ∧ Done K E H F μ S (dSl m d lo hi S) (PV K Q)
theorem sd_sl {m : Bool} : SlR X (rSl X.K m) := by
  intro pins s σ H x v vl vu lo hi sl Q I rx hs pl pu h
  refine (SlR.or sl_list (SlR.or sl_tupA sl_str)) pins s σ H x v vl vu lo hi sl Q I rx hs pl pu ?_
  obtain ⟨E, F, μ, S, d, W, r, h⟩ := h
  have cut : ∀ {xs : List D} {vs : List V}, Reps X.K F μ xs vs → Reps X.K F μ (cutD xs lo hi) (cutV vs lo hi) := fun {xs vs} r => by
    unfold cutD cutV
    rw [r.length]
    exact (r.drop _).take _
  rcases Done.or h with h | h
  · refine .inl ?_
    have go : ∀ {xs : List D} {a : Addr} {vs : List V}, SqL X.K H a vs → Reps X.K F μ xs vs → Done X.K E H F μ S (newL m (cutD xs lo hi) S) (PV X.K Q) → rSlL X.K (.ref a) lo hi H Q := fun {xs a vs} hq r h => ⟨a, vs, rfl, hq, fun p hp => by
      obtain ⟨_, _, _, _, h1, h2⟩ := newL_ok W (cut r) h hp
      exact h1 _ h2⟩
    cases r with
    | scr ha r => exact go (sqL_mono W.sub ha) r h
    | lst ha r => exact go (SqL.of (W.sub _ _ ha)) r h
    | @ref l a ha =>
      have h' : Done X.K _ H F μ S (match rdL S (.ref l) with | some xs => newL m (cutD xs lo hi) S | none => .no) (PV X.K Q) := h
      cases q : rdL S (.ref l) with
      | none => rw [q] at h'; exact h'.elim
      | some xs =>
        rw [q] at h'
        obtain ⟨b, vs, e1, h1, h2⟩ := rdL_ok W (.ref ha) q
        cases e1
        exact go (SqL.of h1) h2 h'
    | _ => exact h.elim
  rcases Done.or h with h | h
  · refine .inr (.inl ?_)
    cases r with
    | @tup a vs xs ha r =>
      refine ⟨a, vs, rfl, SqT.of (W.sub _ _ ha), fun hw => ?_, fun hw p hp => ?_⟩
      · have e : cutD xs lo hi = xs := by
          unfold cutD
          rw [← r.length] at hw
          rw [hw.1, hw.2]
          simp
        have h' : Done X.K _ H F μ S (.ok (.tup (cutD xs lo hi)) S) (PV X.K Q) := h
        rw [e] at h'
        exact h'.here W _ (.tup ha r)
      · obtain ⟨_, _, h1⟩ := Done.newF (d := .tup (cutD xs lo hi)) W h (o := .tup (cutV vs lo hi)) hp
        exact h1 _ (rep_newT (cut r) (W.fnone hp))
    | _ => exact h.elim
  · refine .inr (.inr ?_)
    cases r with
    | str z =>
      obtain ⟨hz, h⟩ := Done.need h
      exact ⟨z, rfl, lim_le hz, h.here W _ (.str _)⟩
    | _ => exact h.elim
theorem se_sl {m : Bool} (he : PE X e (tE X.K E me)) (hl : PO X lo (tP X.K E ml)) (hh : PO X hi (tP X.K E mh)) : PE X (.Subscript e (.Slice lo hi none p2) pos) (tE X.K E (mSl m me ml mh)) :=
  (pe_slice sd_sl he hl hh).imp fun τ H Q ⟨F, μ, σ, S, W, hs, h⟩ => ⟨F, μ, σ, S, W, hs, (h.split W).mono fun d S1 H1 F1 μ1 e1 W1 h1 v q => ⟨F1, μ1, σ, S1, W1, hs.ext e1, (h1.split W1).mono fun l S2 H2 F2 μ2 e2 W2 h2 => ⟨F2, μ2, σ, S2, W2, (hs.ext e1).ext e2, (h2.split W2).mono fun u S3 H3 F3 μ3 e3 W3 h3 => ⟨_, F3, μ3, S3, d, W3, (q.ext e2).ext e3, h3⟩⟩⟩⟩
/-- xs[::-1] -/
def revL (m : Bool) (x : D) (S : Store) : R D := match x with
  | .scr xs => newL m xs.reverse S
  | d => match rdL S d with
    | some xs => newL m xs.reverse S
    | none => .no
theorem se_rev {m : Bool} {k : Nat} {p1 p2 p3 : Pos} (he : PE X e (tE X.K E me)) : PE X (.Subscript e (.Slice none none (some (.UnaryOp .USub (.Constant (.int 1) k p1) p2)) p3) pos) (tE X.K E (m1 (revL m) me)) :=
  (pe_revL he).imp fun τ H Q ⟨F, μ, σ, S, W, hs, h⟩ => ⟨F, μ, σ, S, W, hs, (h.split W).mono fun d S1 H1 F1 μ1 e1 W1 h1 v q => by
    have go : ∀ {xs : List D} {a : Addr} {vs : List V}, SqL X.K H1 a vs → Reps X.K F1 μ1 xs vs → Done X.K (WE E τ) H1 F1 μ1 S1 (newL m xs.reverse S1) (PV X.K Q) → ∃ a' xs', V.ref a = .ref a' ∧ SqL X.K H1 a' xs' ∧ ∀ p, H1 p = none → Q (.ref p) (upd H1 p (.lst xs'.reverse)) := fun {xs a vs} hq r h => ⟨a, vs, rfl, hq, fun p hp => by
      obtain ⟨_, _, _, _, h1, h2⟩ := newL_ok W1 r.reverse h hp
      exact h1 _ h2⟩
    cases q with
    | scr ha r => exact go (sqL_mono W1.sub ha) r h1
    | lst ha r => exact go (SqL.of (W1.sub _ _ ha)) r h1
    | @ref l a ha =>
      have h' : Done X.K _ H1 F1 μ1 S1 (match rdL S1 (.ref l) with | some xs => newL m xs.reverse S1 | none => .no) (PV X.K Q) := h1
      cases q : rdL S1 (.ref l) with
      | none => rw [q] at h'; exact h'.elim
      | some xs =>
        rw [q] at h'
        obtain ⟨b, vs, e1, h1, h2⟩ := rdL_ok W1 (.ref ha) q
        cases e1
        exact go (SqL.of h1) h2 h'
    | _ => exact h1.elim⟩
end
end MM

set_option Elab.async false
set_option linter.all false
set_option maxRecDepth 100000
namespace MM
open PySem PySem.Spec PyProof.Rows L2

/-! ### isinstance with a built-in class -/
inductive Ty where | int | bool | str | list | tuple | dict
def Ty.nm : Ty → String
  | .int => "int" | .bool => "bool" | .str => "str" | .list => "list" | .tuple => "tuple" | .dict => "dict"
def isTy (t : Ty) (S : Store) (d : D) : Option Bool := match d, t with
  | .non, _ => some false
  | .bl _, .bool => some true
  | .bl _, .int => some true
  | .bl _, _ => some false
  | .int _, .int => some true
  | .int _, _ => some false
  | .str _, .str => some true
  | .str _, _ => some false
  | .tup _, .tuple => some true
  | .tup _, _ => some false
  | .lst _, .list => some true
  | .lst _, _ => some false
  | .scr _, _ => none
  | .dct _ _, _ => none
  | .obj _ _ _, _ => none
  | .ref l, t => match S[l]?, t with
    | some (.dn _), _ => none
    | some (.ob _ _), _ => none
    | some (.dt _), _ => none
    | some (.fd _ _), _ => none
    | some (.dic _), .dict => some true
    | some (.dic _), _ => some false
    | some _, .list => some true
    | some _, _ => some false
    | none, _ => none
def dIsi (t : Ty) (x : D) (S : Store) : R D := match isTy t S x with
  | some b => .ok (.bl b) S
  | none => .no
section
variable {X : Cx} {E : WX} {e : Expr} {me : ME} {pos p q : Pos}
theorem isTy_ok {K : PySem.W.Frag} {H F : Hp} {μ : List Addr} {S : Store} {t : Ty} {d : D} {v : V} {b : Bool} (W : Wd K H F μ S) (r : Rep K F μ d v) (h : isTy t S d = some b) : ∃ ty, TyX K H v ty ∧ PySem.W.kitOne K ty (.type t.nm) = some b := by
  cases r with
  | non => exact ⟨_, .base .non, kit_ty (by cases t <;> cases h <;> decide +kernel)⟩
  | bl x => exact ⟨_, .base (.bl x), kit_ty (by cases t <;> cases h <;> decide +kernel)⟩
  | int x => exact ⟨_, .base (.int x), kit_ty (by cases t <;> cases h <;> decide +kernel)⟩
  | str x => exact ⟨_, .base (.str x), kit_ty (by cases t <;> cases h <;> decide +kernel)⟩
  | tup ha r =>
    have k : PySem.W.kitOne K (.type "tuple") (.type t.nm) = some b := kit_ty (by cases t <;> cases h <;> decide +kernel)
    exact ⟨_, .base (.tup (W.sub _ _ ha)), k⟩
  | lst ha r => exact ⟨_, .base (.lst (W.sub _ _ ha)), kit_ty (by cases t <;> cases h <;> decide +kernel)⟩
  | scr => cases h
  | dct => cases h
  | dck => cases h
  | dcT => cases h
  | obj => cases h
  | @ref l a ha =>
    simp only [isTy] at h
    cases q : S[l]? with
    | none => rw [q] at h; cases h
    | some c =>
      rw [q] at h
      have z := W.cell l c a q ha
      cases c with
      | lst xs =>
        obtain ⟨vs, h1, _⟩ := z
        exact ⟨_, .base (.lst h1), kit_ty (by cases t <;> cases h <;> decide +kernel)⟩
      | fz xs =>
        obtain ⟨vs, h1, _⟩ := z
        exact ⟨_, .base (.lst (W.sub _ _ h1)), kit_ty (by cases t <;> cases h <;> decide +kernel)⟩
      | dn xs => cases h
      | ob c xs => cases h
      | dt xs => cases h
      | fd ks xs => cases h
      | dic xs =>
        obtain ⟨vs, h1, _⟩ := z
        exact ⟨_, .base (.dK h1), kit_ty (by cases t <;> cases h <;> decide +kernel)⟩
theorem se_isi (t : Ty) {x : Str} (hm : X.mg "isinstance" = none) (hm2 : X.mg x = none) (he : PE X e (tE X.K E me)) (hg : Gl X "isinstance" := by rfl) (hg2 : Gl X x := by rfl) (hv : bootBuiltins x = some (.type t.nm) := by decide +kernel) (hn : x ≠ "__name__" := by decide) (hdb : (x == ("__debug__" : Str)) = false := by decide)
    (hs : starEach [e, .Name x q] X.env = (false, eval e X.env) :: starEach [.Name x q] X.env := by rfl) : PE X (.Call (.Name "isinstance" p) [e, .Name x q] [] pos) (tE X.K E (m1 (dIsi t) me)) :=
  (pe_callB call_isi hg hm (by decide +kernel) (pa_cons he (pa_cons (pe_bltn (v := .ty t.nm) hg2 hm2 hv rfl hn hdb) pa_nil rfl) hs) (by decide) (by decide) hs rfl).imp fun τ H Q ⟨F, μ, σ, S, W, hs, h⟩ => ⟨F, μ, σ, S, W, hs, (h.split W).mono fun d S1 H1 F1 μ1 e1 W1 h1 v q => by
    have h1' : Done X.K _ H1 F1 μ1 S1 (match isTy t S1 d with | some b => .ok (.bl b) S1 | none => .no) (PV X.K Q) := h1
    cases z : isTy t S1 d with
    | none => rw [z] at h1'; exact h1'.elim
    | some b =>
      rw [z] at h1'
      obtain ⟨ty, h2, h3⟩ := isTy_ok W1 q z
      exact ⟨v, .ty t.nm, ty, .type t.nm, b, rfl, .ty _, h2, h3, h1'.here W1 _ (.bl b)⟩⟩
end
end MM

set_option Elab.async false
set_option linter.all false
set_option maxRecDepth 100000
namespace MM
open PySem PySem.Spec PyProof.Rows L2

/-! ### built-ins -/
def on1 (f : D → Store → R D) : List D → Store → R D := fun ds S => match ds with
  | [d] => f d S
  | _ => .no
def lenSeq := on1 fun d S => match rdS S d with
  | some xs => .ok (.int xs.length) S
  | none => .no
def lenStr := on1 fun d S => match d with
  | .str x => MM.need (lim x.length) (.ok (.int x.length) S)
  | _ => .no
def dLen := orN lenSeq lenStr
def tupL := on1 fun d S => match d with
  | .tup xs => .ok (.tup xs) S
  | .scr xs => .ok (.tup xs) S
  | d => match rdL S d with
    | some xs => .ok (.tup xs) S
    | none => .no
def lstL (m : Bool) := on1 fun d S => match rdS S d with
  | some xs => newL m xs S
  | none => .no
def intI := on1 fun d S => match d with
  | .int i => .ok (.int i) S
  | .bl k => .ok (.int (if k then 1 else 0)) S
  | _ => .no
def dMax2 : List D → Store → R D := fun ds S => match ds with
  | [.int i, .int j] => .ok (.int (if j > i then j else i)) S
  | _ => .no
def dMin2 : List D → Store → R D := fun ds S => match ds with
  | [.int i, .int j] => .ok (.int (if j < i then j else i)) S
  | _ => .no
def blsOf : List D → Option (List Bool)
  | [] => some []
  | .bl b :: ds => (blsOf ds).map (b :: ·)
  | _ => none
def allB := on1 fun d S => match rdL S d with
  | some xs => match blsOf xs with
    | some bs => .ok (.bl (bs.all id)) S
    | none => .no
  | none => .no
def anyB := on1 fun d S => match rdL S d with
  | some xs => match blsOf xs with
    | some bs => .ok (.bl (bs.any id)) S
    | none => .no
  | none => .no
section
variable {X : Cx} {E : XK}
theorem on1_ok {K : PySem.W.Frag} {f : D → Store → R D} {xs H} {Q : VK} (h : rN K (on1 f) xs H Q) : ∃ (E : XK) (x : V) (F : Hp) (μ : List Addr) (S : Store) (d : D), xs = [x] ∧ Wd K H F μ S ∧ Rep K F μ d x ∧ Done K E H F μ S (f d S) (PV K Q) := by
  obtain ⟨E, F, μ, S, ds, W, r, h⟩ := h
  cases r with
  | nil => exact h.elim
  | cons q r =>
    cases r with
    | nil => exact ⟨E, _, F, μ, S, _, rfl, W, q, h⟩
    | cons => exact h.elim
theorem cd_lenSeq : CallR X (.builtin "len") (rN X.K lenSeq) := call_len_seq.imp fun xs H Q h => by
  replace h := on1_ok h
  obtain ⟨E, x, F, μ, S, d, rfl, W, r, h⟩ := h
  cases hd : rdS S d with
  | none => rw [hd] at h; exact h.elim
  | some ys =>
    rw [hd] at h
    obtain ⟨a, vs, rfl, hs, ra⟩ := rdS_ok W r hd
    exact ⟨a, vs, rfl, hs, by rw [← ra.length]; exact h.here W _ (.int _)⟩
theorem cd_lenStr : CallR X (.builtin "len") (rN X.K lenStr) := call_len_str.imp fun xs H Q h => by
  replace h := on1_ok h
  obtain ⟨E, x, F, μ, S, d, rfl, W, r, h⟩ := h
  cases r with
  | str z =>
    obtain ⟨hz, h⟩ := Done.need h
    exact ⟨z, rfl, lim_le hz, h.here W _ (.int _)⟩
  | _ => exact h.elim
theorem cd_len : CallR X (.builtin "len") (rN X.K dLen) := cd_or cd_lenSeq cd_lenStr
theorem cd_tup : CallR X (.type "tuple") (rN X.K tupL) := call_tuple_of.imp fun xs H Q h => by
  replace h := on1_ok h
  obtain ⟨E, x, F, μ, S, d, rfl, W, r, h⟩ := h
  have go : ∀ {ys : List D} {a : Addr} {vs : List V}, SqL X.K H a vs → Reps X.K F μ ys vs → Done X.K E H F μ S (.ok (.tup ys) S) (PV X.K Q) → ∃ p zs, [V.ref a] = [.ref p] ∧ ((SqL X.K H p zs ∧ ∀ l, H l = none → Q (.ref l) (upd H l (.tup zs))) ∨ (SqT X.K H p zs ∧ Q (.ref p) H)) := fun {ys a vs} hq r h => ⟨a, vs, rfl, .inl ⟨hq, fun p hp => by
    obtain ⟨_, _, h1⟩ := Done.newF W h (o := .tup vs) hp
    exact h1 _ (rep_newT r (W.fnone hp))⟩⟩
  cases r with
  | tup ha r => exact ⟨_, _, rfl, .inr ⟨SqT.of (W.sub _ _ ha), Done.here W h _ (.tup ha r)⟩⟩
  | scr ha r => exact go (sqL_mono W.sub ha) r h
  | lst ha r => exact go (SqL.of (W.sub _ _ ha)) r h
  | @ref l a ha =>
    have h' : Done X.K _ H F μ S (match rdL S (.ref l) with | some xs => .ok (.tup xs) S | none => .no) (PV X.K Q) := h
    cases q : rdL S (.ref l) with
    | none => rw [q] at h'; exact h'.elim
    | some xs =>
      rw [q] at h'
      obtain ⟨b, vs, e1, h1, h2⟩ := rdL_ok W (.ref ha) q
      cases e1
      exact go (SqL.of h1) h2 h'
  | _ => exact h.elim
theorem cd_lst {m : Bool} : CallR X (.type "list") (rN X.K (lstL m)) := call_list_of.imp fun xs H Q h => by
  replace h := on1_ok h
  obtain ⟨E, x, F, μ, S, d, rfl, W, r, h⟩ := h
  cases hd : rdS S d with
  | none => rw [hd] at h; exact h.elim
  | some ys =>
    rw [hd] at h
    obtain ⟨a, vs, rfl, hs, ra⟩ := rdS_ok W r hd
    refine ⟨a, vs, rfl, hs, fun p hp => ?_⟩
    obtain ⟨_, _, _, _, h1, h2⟩ := newL_ok W ra h hp
    exact h1 _ h2
theorem cd_int : CallR X (.type "int") (rN X.K intI) := call_int1.imp fun xs H Q h => by
  replace h := on1_ok h
  obtain ⟨E, x, F, μ, S, d, rfl, W, r, h⟩ := h
  cases r with
  | int i => exact .inl ⟨i, rfl, Done.here W h _ (.int i)⟩
  | bl k => exact .inr ⟨k, rfl, Done.here W h _ (.int _)⟩
  | _ => exact h.elim
theorem cd_max2 (hc : X.calm = true) : CallR X (.builtin "max") (rN X.K dMax2) := (call_max2 hc).imp fun xs H Q ⟨E, F, μ, S, ds, W, r, h⟩ => by
  cases r with
  | nil => exact h.elim
  | cons q r =>
    cases r with
    | nil => cases q <;> exact h.elim
    | cons q2 r =>
      cases r with
      | cons => cases q <;> cases q2 <;> exact h.elim
      | nil =>
        cases q with
        | int i =>
          cases q2 with
          | int j => exact ⟨i, j, rfl, Done.here W h _ (.int _)⟩
          | _ => exact h.elim
        | _ => exact h.elim
theorem cd_min2 (hc : X.calm = true) : CallR X (.builtin "min") (rN X.K dMin2) := (call_min2 hc).imp fun xs H Q ⟨E, F, μ, S, ds, W, r, h⟩ => by
  cases r with
  | nil => exact h.elim
  | cons q r =>
    cases r with
    | nil => cases q <;> exact h.elim
    | cons q2 r =>
      cases r with
      | cons => cases q <;> cases q2 <;> exact h.elim
      | nil =>
        cases q with
        | int i =>
          cases q2 with
          | int j => exact ⟨i, j, rfl, Done.here W h _ (.int _)⟩
          | _ => exact h.elim
        | _ => exact h.elim
theorem bls_reps {K : PySem.W.Frag} {F : Hp} {μ : List Addr} : ∀ {xs : List D} {bs : List Bool} {vs : List V}, blsOf xs = some bs → Reps K F μ xs vs → vs = bs.map V.bl
  | [], bs, vs, h, r => by cases h; cases r; rfl
  | d :: xs, bs, vs, h, r => by
    cases r with
    | cons q r =>
      cases q with
      | bl b =>
        simp only [blsOf, Option.map_eq_some_iff] at h
        obtain ⟨cs, h1, rfl⟩ := h
        rw [bls_reps h1 r]
        rfl
      | _ => cases h
theorem cd_all (hc : X.calm = true) : CallR X (.builtin "all") (rN X.K allB) := (cr_all hc).imp fun xs H Q h => by
  replace h := on1_ok h
  obtain ⟨E, x, F, μ, S, d, rfl, W, r, h⟩ := h
  cases hd : rdL S d with
  | none => rw [hd] at h; exact h.elim
  | some ys =>
    rw [hd] at h
    obtain ⟨a, vs, rfl, hs, ra⟩ := rdL_ok W r hd
    dsimp only at h
    cases hb : blsOf ys with
    | none => rw [hb] at h; exact h.elim
    | some bs =>
      rw [hb] at h
      have := bls_reps hb ra
      subst this
      exact ⟨a, bs, rfl, SqL.of hs, h.here W _ (.bl _)⟩
theorem cd_any (hc : X.calm = true) : CallR X (.builtin "any") (rN X.K anyB) := (cr_any hc).imp fun xs H Q h => by
  replace h := on1_ok h
  obtain ⟨E, x, F, μ, S, d, rfl, W, r, h⟩ := h
  cases hd : rdL S d with
  | none => rw [hd] at h; exact h.elim
  | some ys =>
    rw [hd] at h
    obtain ⟨a, vs, rfl, hs, ra⟩ := rdL_ok W r hd
    dsimp only at h
    cases hb : blsOf ys with
    | none => rw [hb] at h; exact h.elim
    | some bs =>
      rw [hb] at h
      have := bls_reps hb ra
      subst this
      exact ⟨a, bs, rfl, SqL.of hs, h.here W _ (.bl _)⟩
end
/-- list(range(..)) -/
def mLstRg (m : Bool) (mi : MI) : ME := fun σ S => (mi σ S).bind fun xs S1 => newL m xs S1
section
variable {X : Cx} {E : WX} {a b : Expr} {ma mb : ME} {pos p p2 pos2 : Pos}
theorem rg_reps {K : PySem.W.Frag} {F : Hp} {μ : List Addr} (i j : Int) : Reps K F μ (rngItems i (j - i).toNat) (rgV i j) := by
  unfold rngItems rgV
  generalize (j - i).toNat = n
  have : ∀ l : List Nat, Reps K F μ (l.map fun (k : Nat) => D.int (i + (k : Int))) (l.map fun (k : Nat) => V.int (i + (k : Nat))) := fun l => by
    induction l with
    | nil => exact .nil
    | cons k l ih => exact .cons (.int _) ih
  exact this _
theorem se_lstRg1 {m : Bool} (hc : X.calm = true) (hm : X.mg "list" = none) (hm2 : X.mg "range" = none) (ha : PE X a (tE X.K E ma)) (hg : Gl X "list" := by rfl) (hg2 : Gl X "range" := by rfl) (na : starEach [a] X.env = (false, eval a X.env) :: starEach [] X.env := by rfl) :
    PE X (.Call (.Name "list" p) [.Call (.Name "range" p2) [a] [] pos2] [] pos) (tE X.K E (mLstRg m (miRng1 (mCons ma mNil)))) :=
  (pe_listRg hc hg hm (prg_1 hg2 hm2 ha na) rfl).imp fun τ H Q ⟨F, μ, σ, S, W, hs, h⟩ => by
    have h : Done X.K (WE E τ) H F μ S ((ma σ S).bind fun d S1 => (match d with | .int j => if rngOk 0 j then .ok (rngItems 0 j.toNat) S1 else .no | _ => .no : R (List D)).bind fun xs S1 => newL m xs S1) (PV X.K Q) := by
      unfold mLstRg miRng1 mCons mNil at h
      cases q : ma σ S with
      | ok d S1 => rw [q] at h; cases d <;> exact h
      | ex e S1 => rw [q] at h; exact h
      | no => rw [q] at h; exact h
    refine ⟨F, μ, σ, S, W, hs, (h.split W).mono fun d S1 H1 F1 μ1 e1 W1 h1 v q => ?_⟩
    cases q with
    | int j =>
      dsimp only at h1
      by_cases hk : rngOk 0 j = true
      · rw [if_pos hk] at h1
        have := rngOk_ok hk
        refine ⟨j, rfl, ⟨by omega, by omega, by omega, by omega, by omega⟩, fun p hp => ?_⟩
        have rr : Reps X.K F1 μ1 (rngItems 0 j.toNat) (rgV 0 j) := by simpa using rg_reps 0 j
        obtain ⟨_, _, _, _, h2, h3⟩ := newL_ok (P := PV X.K Q) W1 rr h1 hp
        exact h2 _ h3
      · rw [if_neg hk] at h1; exact h1.elim
    | _ => exact h1.elim
end
end MM

set_option Elab.async false
set_option linter.all false
set_option maxRecDepth 100000
namespace MM
open PySem PySem.Spec PyProof.Rows L2

/-! ### methods of lists -/
def mMeth (T : Ty) (f : D → List D → Store → R D) (a : ME) (as : MA) : ME := fun σ S => (a σ S).bind fun x S1 => match isTy T S1 x with
  | some true => (as σ S1).bind fun xs S2 => f x xs S2
  | _ => .no
def onCell (f : Nat → List D → List D → Store → R D) (x : D) (as : List D) (S : Store) : R D := match x with
  | .ref l => match S[l]? with
    | some (.lst xs) => f l xs as S
    | _ => .no
  | _ => .no
def dAppend := onCell fun l xs as S => match as with
  | [y] => MM.need (lim (xs.length + 1)) (.ok .non (S.set l (.lst (xs ++ [y]))))
  | _ => .no
def dPop := onCell fun l xs as S => match as with
  | [] => match xs[xs.length - 1]? with
    | some y => .ok y (S.set l (.lst xs.dropLast))
    | none => .no
  | _ => .no
def dExtend := onCell fun l xs as S => match as with
  | [y] => match rdL S y with
    | some ys => MM.need (lim (xs.length + ys.length)) (.ok .non (S.set l (.lst (xs ++ ys))))
    | none => .no
  | _ => .no
section
variable {X : Cx} {E : WX} {o e : Expr} {es : List Expr} {mo : ME} {mas : MA} {name : Str} {apos cpos : Pos} {id : String}
theorem tyV_list {K : PySem.W.Frag} {H F : Hp} {μ : List Addr} {S : Store} {d : D} {v : V} (W : Wd K H F μ S) (r : Rep K F μ d v) (h : isTy .list S d = some true) : tyV K "list" v H := by
  cases r with
  | lst ha r => exact .inl ⟨rfl, _, SqL.of (W.sub _ _ ha)⟩
  | @ref l a ha =>
    simp only [isTy] at h
    cases q : S[l]? with
    | none => rw [q] at h; cases h
    | some c =>
      rw [q] at h
      have z := W.cell l c a q ha
      cases c with
      | lst xs => obtain ⟨vs, h1, _⟩ := z; exact .inl ⟨rfl, _, SqL.of h1⟩
      | fz xs => obtain ⟨vs, h1, _⟩ := z; exact .inl ⟨rfl, _, SqL.of (W.sub _ _ h1)⟩
      | dic xs => cases h
      | dn xs => cases h
      | ob c xs => cases h
      | dt xs => cases h
      | fd ks xs => cases h
  | _ => cases h
theorem tyV_str {K : PySem.W.Frag} {H F : Hp} {μ : List Addr} {S : Store} {d : D} {v : V} (W : Wd K H F μ S) (r : Rep K F μ d v) (h : isTy .str S d = some true) : tyV K "str" v H := by
  cases r with
  | str => exact rfl
  | ref ha =>
    simp only [isTy] at h
    split at h <;> simp_all
  | _ => cases h
theorem tBM_of {K : PySem.W.Frag} {T : Ty} {f : D → List D → Store → R D} {τ H Q} (hT : ∀ {H F μ S d v}, Wd K H F μ S → Rep K F μ d v → isTy T S d = some true → tyV K T.nm v H) (h : tE K E (mMeth T f mo mas) τ H Q) : tBM K T.nm (r1N K f) (tE K E mo) (tA K E mas) τ H Q := by
  obtain ⟨F, μ, σ, S, W, hs, h⟩ := h
  refine ⟨F, μ, σ, S, W, hs, (h.split W).mono fun d S1 H1 F1 μ1 e1 W1 h1 v q => ?_⟩
  cases z : isTy T S1 d with
  | none => rw [z] at h1; exact h1.elim
  | some b =>
    cases b with
    | false => rw [z] at h1; exact h1.elim
    | true =>
      rw [z] at h1
      exact ⟨hT W1 q z, F1, μ1, σ, S1, W1, hs.ext e1, (Done.split W1 h1).mono fun xs S2 H2 F2 μ2 e2 W2 h2 vs q2 => ⟨_, F2, μ2, S2, d, xs, W2, q.ext e2, q2, h2⟩⟩
theorem se_lm {f : D → List D → Store → R D} (slot : Slot "list" name id) (hty : typeOf (.builtin id) = pure (.type "method_descriptor")) (hm : MtR X id (r1N X.K f)) (ho : PE X o (tE X.K E mo)) (ha : PA X (e :: es) (tA X.K E mas))
    (hbase : attributeBase o name X.env (eval o X.env) = eval o X.env := by rfl)
    (hfew : ((backTo cpos (starEach (e :: es) X.env)).all (fun x => !x.1) && (backToKw cpos (keywordEach [] X.env)).all (fun x => x.1.isSome)
      && decide ((e :: es).length + ([] : List Keyword).length + (if ([] : List Keyword).isEmpty then 0 else 1) < 30)) = true := by rfl)
    (hline : (apos.endLine == cpos.line) = true := by rfl) (hs : starEach (e :: es) X.env = (false, eval e X.env) :: starEach es X.env := by rfl) (hplain : (backTo cpos (starEach es X.env)).any (·.1) = false := by rfl) :
    PE X (.Call (.Attribute o name apos) (e :: es) [] cpos) (tE X.K E (mMeth .list f mo mas)) := (pe_bm PySem.F.plainAttrs_list slot hty hm ho ha hbase hfew hline hs hplain).imp fun _ _ _ h => tBM_of (fun W r z => tyV_list W r z) h
theorem se_lm0 {f : D → List D → Store → R D} (slot : Slot "list" name id) (hty : typeOf (.builtin id) = pure (.type "method_descriptor")) (hm : MtR X id (r1N X.K f)) (ho : PE X o (tE X.K E mo))
    (hbase : attributeBase o name X.env (eval o X.env) = eval o X.env := by rfl) (hline : (apos.endLine == cpos.line) = true := by rfl) : PE X (.Call (.Attribute o name apos) [] [] cpos) (tE X.K E (mMeth .list f mo mNil)) :=
  (pe_bm0 PySem.F.plainAttrs_list slot hty hm ho hbase hline).imp fun τ H Q ⟨F, μ, σ, S, W, hs, h⟩ => ⟨F, μ, σ, S, W, hs, (h.split W).mono fun d S1 H1 F1 μ1 e1 W1 h1 v q => by
    cases z : isTy .list S1 d with
    | none => rw [z] at h1; exact h1.elim
    | some b =>
      cases b with
      | false => rw [z] at h1; exact h1.elim
      | true =>
        rw [z] at h1
        exact ⟨tyV_list W1 q z, _, F1, μ1, S1, d, [], W1, q, .nil, h1⟩⟩
theorem onCell_ok {K : PySem.W.Frag} {f : Nat → List D → List D → Store → R D} {x : V} {us : List V} {H} {Q : VK} (h : r1N K (onCell f) x us H Q) : ∃ (E : XK) (a : Addr) (F : Hp) (μ : List Addr) (S : Store) (l : Nat) (xs : List D) (vs : List V) (as : List D), x = .ref a ∧ Wd K H F μ S ∧ μ[l]? = some a ∧ S[l]? = some (.lst xs) ∧ H a = some (.lst vs) ∧ Reps K F μ xs vs ∧ Reps K F μ as us ∧ Done K E H F μ S (f l xs as S) (PV K Q) := by
  obtain ⟨E, F, μ, S, d, as, W, r, rs, h⟩ := h
  cases r with
  | @ref l a ha =>
    have h' : Done K E H F μ S (match S[l]? with | some (.lst xs) => f l xs as S | _ => .no) (PV K Q) := h
    cases q : S[l]? with
    | none => rw [q] at h'; exact h'.elim
    | some c =>
      cases c with
      | lst xs =>
        rw [q] at h'
        obtain ⟨vs, h1, h2⟩ := W.cell l _ a q ha
        exact ⟨E, a, F, μ, S, l, xs, vs, as, rfl, W, ha, q, h1, h2, rs, h'⟩
      | fz xs => rw [q] at h'; exact h'.elim
      | dic xs => rw [q] at h'; exact h'.elim
      | dn xs => rw [q] at h'; exact h'.elim
      | ob c xs => rw [q] at h'; exact h'.elim
      | dt xs => rw [q] at h'; exact h'.elim
      | fd ks xs => rw [q] at h'; exact h'.elim
  | _ => exact h.elim
theorem set_cell {E : XK} {K : PySem.W.Frag} {H F : Hp} {μ : List Addr} {S : Store} {a : Addr} {l : Nat} {xs ys : List D} {us : List V} {d : D} {P : D → Store → Hp → Hp → List Addr → Prop} (W : Wd K H F μ S) (ha : μ[l]? = some a) (hl : S[l]? = some (.lst xs)) (r : Reps K F μ ys us)
    (h : Done K E H F μ S (.ok d (S.set l (.lst ys))) P) : P d (S.set l (.lst ys)) (upd H a (.lst us)) F μ := by
  obtain ⟨w, e⟩ := W.write (o := .lst us) (c' := .lst ys) hl rfl ha ⟨us, upd_same, r⟩ rfl
  exact h _ _ _ e w
theorem md_append : MtR X "list.append" (r1N X.K dAppend) := MtR.imp mt_append fun x us H Q h => by
  replace h := onCell_ok h
  obtain ⟨E, a, F, μ, S, l, xs, vs, as, rfl, W, ha, hl, hv, rx, ra, h⟩ := h
  cases ra with
  | nil => exact h.elim
  | cons q r =>
    cases r with
    | cons => exact h.elim
    | nil =>
      obtain ⟨hz, h⟩ := Done.need h
      refine ⟨a, vs, _, rfl, rfl, hv, ?_, set_cell (P := PV X.K Q) W ha hl (rx.append (.cons q .nil)) h _ .non⟩
      have := of_decide_eq_true hz
      rw [sizeLine_eq, ← rx.length]
      omega
theorem md_pop : MtR X "list.pop" (r1N X.K dPop) := MtR.imp mt_pop fun x us H Q h => by
  replace h := onCell_ok h
  obtain ⟨E, a, F, μ, S, l, xs, vs, as, rfl, W, ha, hl, hv, rx, ra, h⟩ := h
  cases ra with
  | cons => exact h.elim
  | nil =>
    dsimp only at h
    cases q : xs[xs.length - 1]? with
    | none => rw [q] at h; exact h.elim
    | some y =>
      rw [q] at h
      obtain ⟨v, h1, h2⟩ := rx.get q
      exact ⟨a, vs, v, rfl, rfl, hv, by rw [← rx.length]; exact h1, set_cell (P := PV X.K Q) W ha hl rx.dropLast h _ h2⟩
theorem md_extend : MtR X "list.extend" (r1N X.K dExtend) := MtR.imp mt_extend fun x us H Q h => by
  replace h := onCell_ok h
  obtain ⟨E, a, F, μ, S, l, xs, vs, as, rfl, W, ha, hl, hv, rx, ra, h⟩ := h
  cases ra with
  | nil => exact h.elim
  | cons q r =>
    cases r with
    | cons => exact h.elim
    | nil =>
      rename_i d u
      dsimp only at h
      cases z : rdL S d with
      | none => rw [z] at h; exact h.elim
      | some ys =>
        rw [z] at h
        obtain ⟨b, ws, rfl, hb, rb⟩ := rdL_ok W q z
        obtain ⟨hz, h⟩ := Done.need h
        exact ⟨a, b, vs, ws, rfl, rfl, hv, hb, by rw [← rx.length, ← rb.length]; exact lim_le hz, set_cell (P := PV X.K Q) W ha hl (rx.append rb) h _ .non⟩
end
end MM

set_option Elab.async false
set_option linter.all false
set_option maxRecDepth 100000
namespace MM
open PySem PySem.Spec PyProof.Rows L2

/-! ### o[i] = v -/
def setL (o i v : D) (S : Store) : R Unit := match o, i with
  | .ref l, .int k => match S[l]? with
    | some (.lst xs) => match ixN xs.length k with
      | some j => .ok () (S.set l (.lst (xs.set j v)))
      | none => .no
    | _ => .no
  | _, _ => .no
def gSub (mo mi : ME) : MG := fun v σ S => (mo σ S).bind fun o S1 => (mi σ S1).bind fun i S2 => (setL o i v S2).bind fun _ S3 => .ok σ S3
section
variable {X : Cx} {E : WX} {o i : Expr} {mo mi : ME} {pos : Pos}
theorem sg_sub (ho : PE X o (tE X.K E mo)) (hi : PE X i (tE X.K E mi))
    (ha : ∀ v, assign (.Subscript o i pos) X.env v = (do
      let ov ← holding [v] (eval o X.env)
      let iv ← holding [v, ov] (eval i X.env)
      standAt pos
      holding [v, ov, iv] (setItem ov iv v)
      release [v, ov, iv] []) := by intro _; rfl) : PG X (.Subscript o i pos) (tG X.K E [] (gSub mo mi)) :=
  (pg_sub ho hi set_list ha).imp fun v τ H Q ⟨F, μ, σ, S, d, W, hs, r, h⟩ => ⟨F, μ, σ, S, W, hs, (Done.split W h).mono fun x S1 H1 F1 μ1 e1 W1 h1 w q => ⟨F1, μ1, σ, S1, W1, hs.ext e1, (h1.split W1).mono fun y S2 H2 F2 μ2 e2 W2 h2 u q2 => by
    have rd := (r.ext e1).ext e2
    have q' := q.ext e2
    cases q' with
    | @ref l a ha =>
      cases q2 with
      | int k =>
        have h2' : Done X.K _ H2 F2 μ2 S2 ((match S2[l]? with
            | some (.lst xs) => match ixN xs.length k with
              | some j => .ok () (S2.set l (.lst (xs.set j d)))
              | none => .no
            | _ => .no : R Unit).bind fun _ S3 => .ok σ S3) _ := h2
        cases hl : S2[l]? with
        | none => rw [hl] at h2'; exact h2'.elim
        | some c =>
          cases c with
          | fz xs => rw [hl] at h2'; exact h2'.elim
          | dic xs => rw [hl] at h2'; exact h2'.elim
          | dn xs => rw [hl] at h2'; exact h2'.elim
          | ob c xs => rw [hl] at h2'; exact h2'.elim
          | dt xs => rw [hl] at h2'; exact h2'.elim
          | fd ks xs => rw [hl] at h2'; exact h2'.elim
          | lst xs =>
            rw [hl] at h2'
            obtain ⟨vs, hv, rx⟩ := W2.cell l _ a hl ha
            dsimp only at h2'
            cases hj : ixN xs.length k with
            | none => rw [hj] at h2'; exact h2'.elim
            | some j =>
              rw [hj] at h2'
              refine ⟨a, vs, k, j, rfl, rfl, hv, by rw [← rx.length]; exact hj, ?_⟩
              obtain ⟨w3, e3⟩ := W2.write (o := .lst (vs.set j v)) (c' := .lst (xs.set j d)) hl rfl ha ⟨_, upd_same, Reps.set rd j rx⟩ rfl
              exact h2' _ _ _ e3 w3 τ (((hs.ext e1).ext e2).ext e3) off_refl
      | _ => exact h2.elim
    | _ => exact h2.elim⟩⟩
end
end MM

set_option Elab.async false
set_option linter.all false
set_option maxRecDepth 100000
namespace MM
open PySem PySem.Spec PyProof.Rows L2

/-! ### dicts -/
def valD (kvs : List (Key × D)) (k : Key) : Option D := match kvs with
  | [] => none
  | (k', d) :: r => if k' = k then some d else valD r k
def putD (kvs : List (Key × D)) (k : Key) (d : D) : List (Key × D) := match kvs with
  | [] => [(k, d)]
  | (k', e) :: r => if k' = k then (k', d) :: r else (k', e) :: putD r k d
section
variable {K : PySem.W.Frag} {F : Hp} {μ : List Addr}
theorem repKV_cons {k : Key} {d : D} {r : List (Key × D)} {us : List (Key × V)} (h : RepKV K F μ ((k, d) :: r) us) : ∃ v ur, us = (k, v) :: ur ∧ Rep K F μ d v ∧ RepKV K F μ r ur := by
  obtain ⟨h1, h2⟩ := h
  cases us with
  | nil => cases h1
  | cons p ur =>
    obtain ⟨k', v⟩ := p
    rw [List.map_cons, List.map_cons] at h1 h2
    cases h2 with
    | cons r1 r2 =>
      injection h1 with e1 e2
      have e1 : k = k' := e1
      subst e1
      exact ⟨v, ur, rfl, r1, e2, r2⟩
theorem valD_ok {k : Key} : ∀ {kvs : List (Key × D)} {us : List (Key × V)} {d : D}, RepKV K F μ kvs us → valD kvs k = some d → ∃ v, valV us k = some v ∧ Rep K F μ d v
  | [], _, _, _, h => by cases h
  | (k', e) :: r, us, d, q, h => by
    obtain ⟨v, ur, rfl, r1, r2⟩ := repKV_cons q
    unfold valD at h
    by_cases z : k' = k
    · rw [if_pos z] at h
      cases h
      exact ⟨v, valV_pos z, r1⟩
    · rw [if_neg z] at h
      rw [valV_neg z]
      exact valD_ok r2 h
theorem putK_cons {p : Key × V} {r : List (Key × V)} {k : Key} {v : V} (n : p.1 ∉ r.map (fun q => q.1)) : putK (p :: r) k v = if p.1 = k then (p.1, v) :: r else p :: putK r k v := by
  by_cases z : p.1 = k
  · rw [if_pos z]
    unfold putK
    have : ((p :: r).any fun kv => decide (kv.1 = k)) = true := by simp [z]
    rw [if_pos this, List.map_cons, if_pos z]
    congr 1
    have : ∀ q ∈ r, ¬ q.1 = k := fun q hq e => n (by rw [z, ← e]; exact List.mem_map_of_mem (f := fun q : Key × V => q.1) hq)
    conv => rhs; rw [← List.map_id r]
    exact List.map_congr_left fun q hq => by rw [if_neg (this q hq)]; rfl
  · rw [if_neg z]
    unfold putK
    have e : ((p :: r).any fun kv => decide (kv.1 = k)) = (r.any fun kv => decide (kv.1 = k)) := by simp [z]
    rw [e]
    split
    · rw [List.map_cons, if_neg z]
    · rfl
theorem putD_ok {k : Key} {d : D} {v : V} (rd : Rep K F μ d v) : ∀ {kvs : List (Key × D)} {us : List (Key × V)}, (us.map (·.1)).Nodup → RepKV K F μ kvs us → RepKV K F μ (putD kvs k d) (putK us k v)
  | [], us, n, q => by
    obtain ⟨h1, h2⟩ := q
    cases us with
    | nil => exact ⟨rfl, .cons rd .nil⟩
    | cons => cases h1
  | (k', e) :: r, us, n, q => by
    obtain ⟨w, ur, rfl, r1, r2⟩ := repKV_cons q
    rw [List.map_cons, List.nodup_cons] at n
    rw [putK_cons n.1]
    unfold putD
    by_cases z : k' = k
    · rw [if_pos z, if_pos z]
      exact ⟨by rw [List.map_cons, List.map_cons, r2.1], .cons rd r2.2⟩
    · rw [if_neg z, if_neg z]
      have ih := putD_ok (k := k) rd n.2 r2
      exact ⟨by rw [List.map_cons, List.map_cons, ih.1], .cons r1 ih.2⟩
end
def getD (k : Key) (x : D) (S : Store) : R D := match x with
  | .ref l => match S[l]? with
    | some (.dic kvs) => match valD kvs k with
      | some d => .ok d S
      | none => .no
    | _ => .no
  | _ => .no
def nodupK : List Key → Bool
  | [] => true
  | k :: ks => !(ks.any fun j => decide (j = k)) && nodupK ks
theorem nodupK_ok : ∀ {ks : List Key}, nodupK ks = true → ks.Nodup
  | [], _ => List.nodup_nil
  | k :: ks, h => by
    rw [nodupK, Bool.and_eq_true, Bool.not_eq_true'] at h
    refine List.nodup_cons.mpr ⟨fun hm => ?_, nodupK_ok h.2⟩
    have := h.1
    rw [List.any_eq_false] at this
    exact this k hm (by simp)
def mPutD (k : Key) (mo mv : ME) : MS := fun σ S => (mv σ S).toO σ fun d S1 => (mo σ S1).toO σ fun x S2 => match x with
  | .ref l => match S2[l]? with
    | some (.dic kvs) => if lim (kvs.length + 1) && nodupK (kvs.map (·.1)) then .nx σ (S2.set l (.dic (putD kvs k d))) else .no
    | _ => .no
  | _ => .no
def mDict (ks : List Key) (as : MA) : ME := fun σ S => (as σ S).bind fun ds S1 => if ds.length = ks.length ∧ ks.length ≤ 15 ∧ nodupK ks = true then .ok (.ref S1.length) (S1 ++ [.dic (ks.zip ds)]) else .no
section
variable {X : Cx} {E : WX} {o i value : Expr} {mo mv : ME} {k : Key} {pos pos' : Pos}
theorem se_getD (hu : X.A.units + 1 < cLine) (ho : PE X o (tE X.K E mo)) (hi : PE X i (tC (kV k))) (hs : NoSl i := by intro _ _; rfl) : PE X (.Subscript o i pos) (tE X.K E (m1 (getD k) mo)) :=
  (pe_dget hu ho hi hs).imp fun τ H Q ⟨F, μ, σ, S, W, hs, h⟩ => ⟨F, μ, σ, S, W, hs, (h.split W).mono fun d S1 H1 F1 μ1 e1 W1 h1 v q => by
    cases q with
    | @ref l a ha =>
      have h1' : Done X.K _ H1 F1 μ1 S1 (match S1[l]? with | some (.dic kvs) => (match valD kvs k with | some d => .ok d S1 | none => .no) | _ => .no) (PV X.K Q) := h1
      cases hl : S1[l]? with
      | none => rw [hl] at h1'; exact h1'.elim
      | some c =>
        cases c with
        | lst => rw [hl] at h1'; exact h1'.elim
        | fz => rw [hl] at h1'; exact h1'.elim
        | dn => rw [hl] at h1'; exact h1'.elim
        | ob => rw [hl] at h1'; exact h1'.elim
        | dt => rw [hl] at h1'; exact h1'.elim
        | fd => rw [hl] at h1'; exact h1'.elim
        | dic kvs =>
          rw [hl] at h1'
          obtain ⟨us, hv, rx⟩ := W1.cell l _ a hl ha
          dsimp only at h1'
          cases hj : valD kvs k with
          | none => rw [hj] at h1'; exact h1'.elim
          | some d' =>
            rw [hj] at h1'
            obtain ⟨w, h2, h3⟩ := valD_ok rx hj
            refine ⟨a, w, rfl, ?_, h1'.here W1 _ h3⟩
            rw [← h2]
            exact DGet.k hv
    | _ => exact h1.elim⟩
theorem s_putD (hu : X.A.units + 1 < cLine) (ho : PE X o (tE X.K E mo)) (hv : PE X value (tE X.K E mv)) (hi : PE X i (tC (kV k))) (hs : swapsWith value (some (.Subscript o i pos')) pos.line X.env = pure false := by rfl) : PS X (.Assign [.Subscript o i pos'] value pos) (tS X.K E (mPutD k mo mv)) :=
  (ps_dput hu ho hi hv hs).imp fun D τ H ⟨F, μ, σ, S, W, hs, h⟩ => ⟨F, μ, σ, S, W, hs, (h.split W hs).mono fun d S1 H1 F1 μ1 e1 W1 h1 v rv => ⟨F1, μ1, σ, S1, W1, hs.ext e1, (h1.split W1 (hs.ext e1)).mono fun x S2 H2 F2 μ2 e2 W2 h2 w q => by
    cases q with
    | @ref l a ha =>
      have h2' : DoneS X.K E H2 F2 μ2 S2 (match S2[l]? with | some (.dic kvs) => if lim (kvs.length + 1) && nodupK (kvs.map (·.1)) then .nx σ (S2.set l (.dic (putD kvs k d))) else .no | _ => .no) D := h2
      cases hl : S2[l]? with
      | none => rw [hl] at h2'; exact h2'.elim
      | some c =>
        cases c with
        | lst => rw [hl] at h2'; exact h2'.elim
        | fz => rw [hl] at h2'; exact h2'.elim
        | dn => rw [hl] at h2'; exact h2'.elim
        | ob => rw [hl] at h2'; exact h2'.elim
        | dt => rw [hl] at h2'; exact h2'.elim
        | fd => rw [hl] at h2'; exact h2'.elim
        | dic kvs =>
          rw [hl] at h2'
          obtain ⟨us, hv, rx⟩ := W2.cell l _ a hl ha
          dsimp only at h2'
          by_cases hz : (lim (kvs.length + 1) && nodupK (kvs.map (·.1))) = true
          · rw [if_pos hz] at h2'
            rw [Bool.and_eq_true] at hz
            have hz1 := of_decide_eq_true hz.1
            have hlen : kvs.length = us.length := by have := congrArg List.length rx.1; simpa using this
            have hn : (us.map (·.1)).Nodup := by rw [← rx.1]; exact nodupK_ok hz.2
            have hp := putD_ok (k := k) (rv.ext e2) hn rx
            obtain ⟨w3, e3⟩ := W2.write (o := .dK (putK us k v)) (c' := .dic (putD kvs k d)) hl rfl ha ⟨_, upd_same, hp⟩ rfl
            exact ⟨a, _, rfl, DPut.k hv (by rw [sizeLine_eq]; omega), h2' _ _ _ τ e3 w3 (((hs.ext e1).ext e2).ext e3)⟩
          · rw [if_neg hz] at h2'; exact h2'.elim
    | _ => exact h2.elim⟩⟩
theorem _root_.MM.Wd.asideC' {K : PySem.W.Frag} {H F : Hp} {μ : List Addr} {S : Store} {p : Addr} {o : HO} {c : Cell} (W : Wd K H F μ S) (h : Aside H F μ p o) (hc : CellOk K H F (μ ++ [p]) p c) : Wd K H F (μ ++ [p]) (S ++ [c]) := by
  have hm : ∀ (l : Nat) a, μ[l]? = some a → (μ ++ [p])[l]? = some a := fun l a h => by
    rw [List.getElem?_append_left (List.getElem?_eq_some_iff.mp h).1]; exact h
  refine ⟨W.sub, by simp [W.len], ?_, fun a q => ?_, fun l c' a h1 h2 => ?_⟩
  · rw [List.nodup_append]
    refine ⟨W.nd, by simp, fun a ha b hb e => ?_⟩
    simp at hb
    subst hb
    exact h.mu (by rw [← e]; exact ha)
  · obtain ⟨l, c', h1, h2, h3⟩ := q
    rcases ix_append h1 with z | ⟨_, rfl⟩
    · have hl : l < S.length := by rw [← W.len]; exact (List.getElem?_eq_some_iff.mp z).1
      rw [List.getElem?_append_left hl] at h2
      exact W.out a ⟨l, c', z, h2, h3⟩
    · exact h.fr
  · rcases ix_append h2 with z | ⟨rfl, rfl⟩
    · have hl : l < S.length := by rw [← W.len]; exact (List.getElem?_eq_some_iff.mp z).1
      rw [List.getElem?_append_left hl] at h1
      exact (W.cell l c' a h1 z).mono (fun _ _ h => h) hm fun _ => rfl
    · rw [W.len] at h1
      simp at h1
      subst h1
      exact hc
theorem _root_.MM.Ext.asideC' {H F H1 F1 : Hp} {μ μ1 : List Addr} {S S1 : Store} {p : Addr} {c : Cell} (e : Ext H F μ S H1 F1 μ1 S1) (hp : H p = none) : Ext H F μ S H1 F1 (μ1 ++ [p]) (S1 ++ [c]) :=
  ⟨e.fz, fun l a q => by
    have q := e.mu l a q
    rw [List.getElem?_append_left (List.getElem?_eq_some_iff.mp q).1]; exact q, e.keep, e.dom, fun l a q => by
    rcases ix_append q with z | ⟨_, rfl⟩
    · exact e.new l a z
    · exact .inr hp, e.fnew, fun l ys hwf q => by
    have q := e.cf l ys hwf q
    rw [List.getElem?_append_left (List.getElem?_eq_some_iff.mp q).1]; exact q, by
    rw [List.length_append]
    exact Nat.le_trans e.le (Nat.le_add_right _ _)⟩
/-- the trees of a display: keys written, values by their mirrors -/
inductive PPd (X : Cx) (E : WX) (pos : Pos) : List (Option Expr) → List Expr → List Key → MA → Prop
  | nil : PPd X E pos [] [] [] mNil
  | cons {e v : Expr} {es : List (Option Expr)} {vs : List Expr} {k : Key} {ks : List Key} {m : ME} {ms : MA} : PE X e (tC (kV k)) → PE X v (tE X.K E m) → PPd X E pos es vs ks ms → PPd X E pos (some e :: es) (v :: vs) (k :: ks) (mCons m ms)
theorem mergeK_nodup {ps : List (Key × V)} : ∀ {acc : List (Key × V)}, ((acc ++ ps).map (·.1)).Nodup → mergeK acc ps = acc ++ ps := by
  induction ps with
  | nil => intro acc _; simp [mergeK]
  | cons p ps ih =>
    intro acc h
    have hn : (acc.any fun kv => decide (kv.1 = p.1)) = false := by
      rw [List.any_eq_false]
      intro q hq e
      have e : q.1 = p.1 := of_decide_eq_true e
      rw [List.map_append, List.nodup_append] at h
      exact h.2.2 q.1 (List.mem_map_of_mem hq) p.1 (by simp) e
    show mergeK (putK acc p.1 p.2) ps = _
    have e : putK acc p.1 p.2 = acc ++ [p] := by
      unfold putK
      rw [if_neg (by rw [hn]; simp)]
    rw [e, ih (by simpa using h)]
    simp
theorem ppd_run {keys : List (Option Expr)} {values : List Expr} {ks : List Key} {as : MA} (h : PPd X E pos keys values ks as) : ∃ trs, PPs X pos keys values trs ∧ ∀ (p : Addr) τ H Q,
    (∃ F μ σ S, Wd X.K H F μ S ∧ Sl X.K F μ σ τ ∧ Done X.K (WE E τ) H F μ S (as σ S) (fun ds _ H' F' μ' => ∀ vs, Reps X.K F' μ' ds vs → Q (ks.zip vs |>.map fun kv => (kV kv.1, kv.2)) H')) → tPairs trs τ H Q := by
  induction h with
  | nil => exact ⟨[], pps_nil, fun p τ H Q ⟨F, μ, σ, S, W, hs, h⟩ => h.here W [] .nil⟩
  | cons he hv hr ih =>
    rename_i e v es vs k ks m ms
    obtain ⟨trs, h1, h2⟩ := ih
    refine ⟨_, pps_cons he hv h1, fun p τ H Q ⟨F, μ, σ, S, W, hs, h⟩ => ?_⟩
    refine ⟨F, μ, σ, S, W, hs, (Done.split W h).mono fun d S1 H1 F1 μ1 e1 W1 h3 u q => h2 p τ H1 _ ⟨F1, μ1, σ, S1, W1, hs.ext e1, (h3.split W1).mono fun ds S2 H2 F2 μ2 e2 W2 h4 us q2 => h4.here W2 _ (.cons (q.ext e2) q2)⟩⟩
theorem se_dict {keys : List (Option Expr)} {values : List Expr} {ks : List Key} {as : MA} (h : PPd X E pos keys values ks as) (hall : keys.all (·.isSome) = true := by rfl) (hl : keys.length = values.length := by rfl) (h0 : keys ≠ [] := by exact fun z => by cases z) (h15 : keys.length ≤ 15 := by decide) :
    PE X (.Dict keys values pos) (tE X.K E (mDict ks as)) := by
  obtain ⟨trs, h1, h2⟩ := ppd_run h
  refine (pe_disp h1 hall hl h0 h15).imp fun τ H Q ⟨F, μ, σ, S, W, hs, h⟩ p hp => ?_
  obtain ⟨Wp, ep⟩ := W.add (o := .dK []) hp
  have A0 : Aside (upd H p (.dK [])) F μ p (.dK []) := ⟨upd_same, W.fnone hp, fun hm => W.there hm hp, fun _ h => by cases h⟩
  refine h2 p τ _ _ ⟨F, μ, σ, S, Wp, hs, ?_⟩
  unfold mDict at h
  cases ha : as σ S with
  | no => rw [ha] at h; exact h
  | ex e S1 => rw [ha] at h; exact Done.from (r := (.ex e S1 : R (List D))) (P := fun _ _ _ _ _ => True) W ep h
  | ok ds S1 =>
    rw [ha] at h
    intro H1 F1 μ1 e1 W1 us q
    have A1 := A0.ext e1
    by_cases hc : ds.length = ks.length ∧ ks.length ≤ 15 ∧ nodupK ks = true
    · have h3 : Done X.K _ H F μ S (if ds.length = ks.length ∧ ks.length ≤ 15 ∧ nodupK ks = true then .ok (.ref S1.length) (S1 ++ [.dic (ks.zip ds)]) else .no) (PV X.K Q) := h
      rw [if_pos hc] at h3
      have hz : ks.length = us.length := by rw [← q.length]; exact hc.1.symm
      refine ⟨A1.at_, ks.zip us, rfl, by rw [List.length_zip]; omega, ?_⟩
      have hk : ((ks.zip us).map (fun x => x.1)) = ks := by
        have := List.map_fst_zip (l₁ := ks) (l₂ := us) (by omega)
        exact this
      have hm : mergeK [] (ks.zip us) = ks.zip us := by
        have := mergeK_nodup (acc := []) (ps := ks.zip us) (by
          rw [List.nil_append]
          rw [hk]
          exact nodupK_ok hc.2.2)
        simpa using this
      rw [hm]
      have E1 : Ext H F μ S (upd H1 p (.dK (ks.zip us))) F1 μ1 S1 := (ep.trans W e1).aside hp
      have W2 : Wd X.K (upd H1 p (.dK (ks.zip us))) F1 μ1 S1 := W1.aside A1
      have A2 : Aside (upd H1 p (.dK (ks.zip us))) F1 μ1 p (.dK (ks.zip us)) := ⟨upd_same, A1.fr, A1.mu, fun _ h => by cases h⟩
      have hm' : ∀ (l : Nat) a, μ1[l]? = some a → (μ1 ++ [p])[l]? = some a := fun l a h => by
        rw [List.getElem?_append_left (List.getElem?_eq_some_iff.mp h).1]; exact h
      have hcell : CellOk X.K (upd H1 p (.dK (ks.zip us))) F1 (μ1 ++ [p]) p (.dic (ks.zip ds)) := by
        refine ⟨ks.zip us, upd_same, ?_, ?_⟩
        · have e1 := List.map_fst_zip (l₁ := ks) (l₂ := ds) (by omega)
          have e2 := List.map_fst_zip (l₁ := ks) (l₂ := us) (by omega)
          exact e1.trans e2.symm
        · have e1 := List.map_snd_zip (l₁ := ks) (l₂ := ds) (by omega)
          have e2 := List.map_snd_zip (l₁ := ks) (l₂ := us) (by omega)
          have q' := q.mono (F' := F1) (fun _ _ h => h) hm'
          rw [← e1, ← e2] at q'
          exact q'
      exact h3 _ _ _ (E1.asideC' hp) (W2.asideC' A2 hcell) _ (.ref (by rw [← W1.len]; simp))
    · have h3 : Done X.K _ H F μ S (if ds.length = ks.length ∧ ks.length ≤ 15 ∧ nodupK ks = true then .ok (.ref S1.length) (S1 ++ [.dic (ks.zip ds)]) else .no) (PV X.K Q) := h
      rw [if_neg hc] at h3; exact h3.elim
end
end MM

set_option maxRecDepth 100000
namespace PySem.SeqAt
open PySem PySem.Calls PyProof.Rows PySem.W
variable {A : Around} {s : Shared}
theorem call_tuple_ltM {prog : Program} {w : World} {E : Value → Shared → Prop} {Q : Value → Shared → Prop} {l b : Addr} {items items2 : Array Value} {e r : Nat → Bool} (hl : s.heap.IsTuple l items) (hb : s.heap.IsTuple b items2)
    (he : ∀ j (h1 : j < items.size) (h2 : j < items2.size), EqAt A.in1 s items[j] items2[j] (e j)) (hr : ∀ j (h1 : j < items.size) (h2 : j < items2.size), e j = false → RcLt A.in1 s items[j] items2[j] (r j))
    (h : Q (.bool (firstLt e r (decide (items.size < items2.size)) (List.range (min items.size items2.size)))) s) : wpAny (model prog w) A (call (.builtin "tuple.__lt__") [.ref l, .ref b]) Q E s := by
  obtain ⟨⟨cls, dd, data, sl⟩, ho, hc, n, hd⟩ := id hl
  obtain ⟨⟨cls2, dd2, data2, sl2⟩, ho2, hc2, n2, hd2⟩ := id hb
  simp only at hc hd hc2 hd2
  subst hc hd hc2 hd2
  exact call_meets F.slot_tuple_lt ⟨_, ho, rfl⟩ F.entry_tuple_lt (F.args_tuple_lt_2 _ _) (tuple_ltAt l b items items2 n n2 dd dd2 sl sl2 e r) ⟨ho, ho2, he, hr, h⟩
end PySem.SeqAt
namespace PySem.W
open PySem PySem.Calls PyProof.Rows PySem.SeqAt
section
variable {prog : Program} {w : World} {A : Around} {E : Value → Shared → Prop} {s : Shared}
theorem oneLt_tupsM {xs ys : List PyData} {a b : Value} {as bs : List Addr} {Q : Bool → Shared → Prop} (ra : Reads s.heap a (.tuple xs) as) (rb : Reads s.heap b (.tuple ys) bs) (h : alike (.tuple xs) (.tuple ys) = true)
    (hu : A.units + min (PyData.tuple xs).depth (PyData.tuple ys).depth < cLine) (hq : Q (dataLt (.tuple xs) (.tuple ys)) s) : wpAny (model prog w) A (oneLt' true a b) Q E s := by
  have hal : alikeAll xs ys = true := by simpa [alike] using h
  cases ra with
  | @tuple l o vs n _ as₁ h1 h2 h3 h4 =>
    cases rb with
    | @tuple l' o' vs' n' _ bs₁ k1 k2 k3 k4 =>
      have n1 : vs.size = xs.length := by simpa using ReadsAll.length _ _ _ h4
      have n2 : vs'.size = ys.length := by simpa using ReadsAll.length _ _ _ k4
      rw [dataLt_tuple, ← firstLt_toks xs ys hal, ← n1, ← n2] at hq
      rw [oneLt'_eq]
      simp only [if_true]
      refine wpAny_bind (wpAny_cRoomFor (room_here hu) ?_)
      refine wpAny_bind (wpAny_callSpecialIfBound?_slot (T := "tuple") ⟨_, h1, h2⟩ F.slot_tuple_lt (call_tuple_ltM (e := pairEq xs ys) (r := fun j => dataLt (xs.getD j .none) (ys.getD j .none)) ⟨_, h1, h2, _, h3⟩ ⟨_, k1, k2, _, k3⟩ (fun j j1 j2 => ?_) (fun j j1 j2 hj => ?_) ?_))
      · have := eqAt_alikeAll xs ys A.in1 s vs.toList vs'.toList _ _ h4 k4 hal (room_in hu) j (by simpa using j1) (by simpa using j2)
        simpa using this
      · have := rcLt_alikeAll xs ys A.in1 s vs.toList vs'.toList _ _ h4 k4 hal (room_in hu) j (by simpa using j1) (by simpa using j2) hj
        simpa using this
      · exact wpAny_truthy_bool hq

/-- the first items of tuples, of the empty ones none -/
theorem firsts_tups {M : Model} : ∀ (vs : List Value) (ds : List PyData) {Q : List (Option Value) → Shared → Prop}, EachIs (fun v d => ∃ as, Reads s.heap v d as) vs ds → (∀ d, d ∈ ds → ∃ xs, d = .tuple xs) → (∀ fs : List (Option Value), fs.length = vs.length → Q fs s) → wpAny M A (vs.mapM firstOfTuple') Q E s
  | _, _, Q, .nil, _, h => by rw [List.mapM_nil]; exact wpAny_pure (h [] rfl)
  | _, _, Q, .cons (b := d) (a := v) (as := vs) (bs := ds) ⟨as, r⟩ t, ht, h => by
    obtain ⟨xs, rfl⟩ := ht d (List.mem_cons_self ..)
    cases r with
    | @tuple a o vv n _ _ ho hc hd hr =>
      rw [List.mapM_cons]
      refine wpAny_bind ?_
      rw [kas_first_eq]
      refine wpAny_bind (Looks.here (show Looks M s.heap (typeOf (.ref a)) o.cls from (Looks.ld ho).andThen .now) ?_)
      rw [hc, if_neg (by first | decide | simp)]
      refine wpAny_bind (listItems_at ho hd (wpAny_pure ?_))
      exact wpAny_bind (firsts_tups _ _ (Q := fun bs s' => wpAny M A (pure (vv[0]? :: bs)) Q E s') t (fun d hd => ht d (List.mem_cons_of_mem _ hd)) (fun fs hl => wpAny_pure (h _ (by rw [List.length_cons, List.length_cons, hl]))))

theorem kind_nilM {M : Model} {vs : List Value} {ds : List PyData} {Q : SortKind → Shared → Prop} (h2 : 2 ≤ vs.length) (e : EachIs (fun v d => ∃ as, Reads s.heap v d as) vs (.tuple [] :: ds)) (ht : ∀ d, d ∈ ds → ∃ xs, d = .tuple xs) (h : Q oneType' s) :
    wpAny M A (keyKind' vs.toArray) Q E s := by
  cases e with
  | @cons v _ vs' _ hv t =>
    obtain ⟨as, r⟩ := id hv
    have hT : ∀ u ∈ v :: vs', Looks M s.heap (typeOf u) (Value.type "tuple") := by
      intro u hu
      rcases List.mem_cons.mp hu with rfl | hu
      · exact looks_reads r
      · obtain ⟨d, hd, as, r⟩ := t.left u hu
        obtain ⟨xs, rfl⟩ := ht d hd
        exact looks_reads r
    cases r with
    | @tuple a o vv n _ _ ho hc hd hr =>
      have hn : vv.toList = [] := by cases hq : vv.toList with
        | nil => rfl
        | cons x y => rw [hq] at hr; cases hr
      have hv0 : vv[0]? = none := by rw [← Array.getElem?_toList, hn]; rfl
      rw [keyKind'_eq, List.mapM_toArray, map_eq_pure_bind, List.mapM_cons]
      refine wpAny_bind (wpAny_bind (wpAny_bind ?_))
      rw [kas_first_eq]
      refine wpAny_bind (Looks.here (show Looks M s.heap (typeOf (.ref a)) o.cls from (Looks.ld ho).andThen .now) ?_)
      rw [hc, if_neg (by first | decide | simp)]
      refine wpAny_bind (listItems_at ho hd (wpAny_pure ?_))
      rw [hv0]
      refine wpAny_bind (firsts_tups _ _ t ht fun fs hl => ?_)
      refine wpAny_pure (wpAny_pure ?_)
      rw [if_neg (by simp), if_neg (by simp)]
      rw [oneTypeOnly'_eq, List.mapM_toArray, map_eq_pure_bind]
      refine wpAny_bind (wpAny_bind (wpAny_bind (kas_mapM (r := Value.type "tuple") _ (fun v hv Q' hq => (hT v hv).here hq) (wpAny_pure ?_))))
      have hall : ((List.map (fun _ => Value.type "tuple") (Value.ref a :: vs')).toArray.all fun x => x == Value.type "tuple") = true := by
        simp only [List.all_toArray, List.all_map, List.all_eq_true]
        intro _ _
        exact beq_self_eq_true _
      have h0 : (List.map (fun _ => Value.type "tuple") (Value.ref a :: vs')).toArray[0]? = some (Value.type "tuple") := by simp
      rw [h0]
      simp only [hall, if_true]
      exact wpAny_pure (wpAny_pure h)

/-- tuples of which the first one is empty -/
theorem SortsAt.nilM {vs : List Value} {ds : List PyData} (e : EachIs (fun v d => ∃ as, Reads s.heap v d as) vs (.tuple [] :: ds)) (hal : AllAlike (.tuple [] :: ds)) (ht : ∀ d, d ∈ ds → ∃ xs, d = .tuple xs) (hu : ∀ d, d ∈ PyData.tuple [] :: ds → A.units + d.depth < cLine) : SortsAt prog w A s (dataKind s.heap (.tuple [] :: ds)) vs := by
  have room : ∀ {d d' : PyData}, d ∈ PyData.tuple [] :: ds → A.units + min d.depth d'.depth < cLine := fun {d d'} hd => Nat.lt_of_le_of_lt (Nat.add_le_add_left (Nat.min_le_left _ _) _) (hu d hd)
  have ht' : ∀ d, d ∈ PyData.tuple [] :: ds → ∃ xs, d = .tuple xs := fun d hd => by
    rcases List.mem_cons.mp hd with rfl | hd
    · exact ⟨_, rfl⟩
    · exact ht d hd
  refine ⟨fun v hv => ?_, oneType', ?_, fun h2 E Q hq => kind_nilM h2 e ht hq⟩
  · obtain ⟨d, hd, as, r⟩ := e.left v hv
    exact ⟨_, dataKind_some hal hd r⟩
  · intro E x y a b Q ha hb hq
    obtain ⟨d, as, hd, ra, rfl⟩ := dataKind_inv ha
    obtain ⟨d', as', hd', rb, rfl⟩ := dataKind_inv hb
    obtain ⟨xs, rfl⟩ := ht' d hd
    obtain ⟨ys, rfl⟩ := ht' d' hd'
    rw [keyLt'_oneType]
    exact oneLt_tupsM ra rb (hal _ hd _ hd') (room hd) hq
/-- both ways of being sortable -/
theorem SortsAt.anyM {vs : List Value} {ds : List PyData} (e : EachIs (fun v d => ∃ as, Reads s.heap v d as) vs ds) (hal : AllAlike ds) (hk : Sortable ds ∨ ∃ ds', ds = .tuple [] :: ds' ∧ ∀ d, d ∈ ds' → ∃ xs, d = .tuple xs) (hu : ∀ d, d ∈ ds → A.units + d.depth < cLine) : SortsAt prog w A s (dataKind s.heap ds) vs := by
  rcases hk with hk | ⟨ds', rfl, ht⟩
  · exact SortsAt.data e hal hk hu
  · exact SortsAt.nilM e hal ht hu
end
end PySem.W

set_option Elab.async false
set_option linter.all false
set_option maxRecDepth 100000
/-! sorted; < of data that are alike. -/
namespace MM
open PySem PySem.Spec PyProof.Rows L2 PySem.W

/-! ### insertion, as mergeSort does it -/
section
variable {α β : Type}
def insB (le : α → α → Bool) (a : α) : List α → List α
  | [] => [a]
  | b :: l => if le a b then a :: b :: l else b :: insB le a l
def isortB (le : α → α → Bool) : List α → List α
  | [] => []
  | a :: l => insB le a (isortB le l)
theorem insB_at {le : α → α → Bool} {a : α} : ∀ {l m : List α}, (∀ b ∈ l, le a b = false) → (∀ b ∈ m, le a b = true) → insB le a (l ++ m) = l ++ a :: m
  | [], [], _, _ => rfl
  | [], b :: m, _, h => by
    show (if le a b then a :: b :: m else b :: insB le a m) = _
    rw [if_pos (h b List.mem_cons_self)]
    rfl
  | b :: l, m, h1, h2 => by
    show (if le a b then a :: b :: (l ++ m) else b :: insB le a (l ++ m)) = _
    rw [if_neg (by rw [h1 b List.mem_cons_self]; simp), insB_at (fun c hc => h1 c (List.mem_cons_of_mem _ hc)) h2]
    rfl
theorem mergeSort_isort {le : α → α → Bool} (tr : ∀ a b c, le a b = true → le b c = true → le a c = true) (tot : ∀ a b, (le a b || le b a) = true) : ∀ l : List α, l.mergeSort le = isortB le l
  | [] => by simp [isortB]
  | a :: l => by
    obtain ⟨l1, l2, e1, e2, h⟩ := List.mergeSort_cons tr tot a l
    have hs := List.pairwise_mergeSort (le := le) tr tot (a :: l)
    rw [e1]
    show _ = insB le a (isortB le l)
    rw [← mergeSort_isort tr tot l, e2]
    refine (insB_at (fun b hb => ?_) fun b hb => ?_).symm
    · have := h b hb
      simpa using this
    · rw [e1, List.pairwise_append] at hs
      exact (List.pairwise_cons.mp hs.2.1).1 b hb
theorem insB_map {le : α → α → Bool} {f : β → α} (b : β) : ∀ l : List β, (insB (fun x y => le (f x) (f y)) b l).map f = insB le (f b) (l.map f)
  | [] => rfl
  | c :: l => by
    show (if le (f b) (f c) then b :: c :: l else c :: insB _ b l).map f = (if le (f b) (f c) then f b :: f c :: l.map f else f c :: insB le (f b) (l.map f))
    split
    · rfl
    · rw [List.map_cons, insB_map b l]
theorem isortB_map {le : α → α → Bool} {f : β → α} : ∀ l : List β, (isortB (fun x y => le (f x) (f y)) l).map f = isortB le (l.map f)
  | [] => rfl
  | b :: l => by
    show (insB _ b (isortB _ l)).map f = insB le (f b) (isortB le (l.map f))
    rw [insB_map, isortB_map l]
theorem insB_len {le : α → α → Bool} {a : α} : ∀ l : List α, (insB le a l).length = l.length + 1
  | [] => rfl
  | b :: l => by
    unfold insB
    split
    · rfl
    · rw [List.length_cons, insB_len l, List.length_cons]
theorem isortB_len {le : α → α → Bool} : ∀ l : List α, (isortB le l).length = l.length
  | [] => rfl
  | b :: l => by
    show (insB le b (isortB le l)).length = _
    rw [insB_len, isortB_len l, List.length_cons]
end

/-- not y < x -/
def leD (x y : D) : Bool := !dataLt y.pd x.pd
def noTN : D → Bool
  | .tup _ => false
  | .non => false
  | .dct _ _ => false
  | .obj _ _ _ => false
  | _ => true
def isTup1 : D → Bool
  | .tup (_ :: _) => true
  | _ => false
def isTup0 : D → Bool
  | .tup _ => true
  | _ => false
def nilFst : List D → Bool
  | .tup [] :: r => r.all isTup0
  | _ => false
def sortable (xs : List D) : Bool := xs.all (fun x => x.shal 40) && (xs.all fun x => xs.all fun y => alike x.pd y.pd) && (xs.all isTup1 || xs.all noTN || nilFst xs)
def sortedD (m : Bool) := on1 fun d S => match rdS S d with
  | some xs => MM.need (sortable xs && lim xs.length) (newL m (isortB leD xs) S)
  | none => .no

section
variable {prog : Program} {w : World} {A : Around} {E : Value → Shared → Prop} {s : Shared}
/-- the items of what is sorted, gathered -/
def Coll (prog : Program) (w : World) (A : Around) (s : Shared) (a : Addr) (R : List Value → Prop) : Prop := ∀ (Q : List Value → Shared → Prop) (E : Value → Shared → Prop), (∀ (h' : Heap) (tk : Nat) (its : List Value), (∀ b o', s.heap.get? b = some o' → h'.get? b = some o') → R its → its.length ≤ sizeLine → Q its { s with heap := h', toks := tk }) → wpAny (model prog w) A (collect (.ref a)) Q E s
theorem sorted_gen {a : Addr} {R : List Value → Prop} {Q : Value → Shared → Prop} (col : Coll prog w A.in1 s a R)
    (body : ∀ (h' : Heap) (tk : Nat) (its : List Value), (∀ b o', s.heap.get? b = some o' → h'.get? b = some o') → R its → its.length ≤ sizeLine → ∀ E' : Value → Shared → Prop, wpAny (model prog w) A.in1.in1 (Builtin.«list.sort» ⟨[.ref h'.objs.size], []⟩) (fun f s' => f = .done (.ret .none) ∧ Q (.ref h'.objs.size) s') E' { s with heap := h'.push (seqObj "list" its.toArray 0), toks := tk }) :
    wpAny (model prog w) A (call (.builtin "sorted") [.ref a] []) Q E s := by
  refine call_function_entry_kw kind_sorted plain_sorted entry_sorted (args_sorted1 _) ?_
  unfold Builtin.«sorted»
  refine wpAny_bind (m := checkCount "sorted" 1 1 _) (wpAny_pure ?_)
  refine wpAny_bind (col _ _ fun h' tk its kp hr hz => ?_)
  refine wpAny_bind (wpAny_newList ?_ hz)
  refine wpAny_bind (wpAny_holding (wpAny_call_entry_kw slot_list_sort ⟨_, Heap.get?_push_size _ rfl, rfl⟩ entry_list_sort ?body (args_list_sort _)))
  case body =>
    refine wpAny_mono (body h' tk its kp hr hz _) (fun f s' hf => ?_) fun _ _ e => e
    obtain ⟨rfl, hq⟩ := hf
    exact ⟨_, rfl, wpAny_pure ⟨_, rfl, hq⟩⟩
theorem coll_seq {a : Addr} {T : String} {o : Obj} {vs : List Value} {n : Nat} (hT : T = "list" ∨ T = "tuple") (ho : s.heap.get? a = some o) (hc : o.cls = .type T) (hd : o.data = .seq vs.toArray n) (hz : vs.length ≤ sizeLine) {R : List Value → Prop} (hr : R vs) : Coll prog w A s a R := fun Q E h =>
  wpAny_collect_seq a hT ho hc hd (fun h' kp => h h' s.toks vs kp hr hz) (by simp only [List.size_toArray]; exact hz)
end

section
variable {X : Cx}
theorem dataLe_total (enc : D × V → PyData) : (∀ a b c, dataLe false enc a b = true → dataLe false enc b c = true → dataLe false enc a c = true) ∧ ∀ a b, (dataLe false enc a b || dataLe false enc b a) = true := by
  have t := sortLe_total (listOrd itemOrd) false fun b : D × V => keyToks (enc b)
  exact ⟨t.trans, fun a b => Bool.or_eq_true_iff.mpr (t.total a b)⟩
theorem pairs_each {K : PySem.W.Frag} {F : Hp} {μ : List Addr} : ∀ {xs : List D} {vs : List V} {us : List Value}, Reps K F μ xs vs → Vals vs us → EachIs (fun u (p : D × V) => RelV p.2 u ∧ Rep K F μ p.1 p.2) us (xs.zip vs)
  | _, _, _, .nil, .nil => .nil
  | _, _, _, .cons r rs, .cons q qs => .cons ⟨q, r⟩ (pairs_each rs qs)
theorem each_pairs {K : PySem.W.Frag} {F : Hp} {μ : List Addr} : ∀ {ps : List (D × V)} {us : List Value}, EachIs (fun u (p : D × V) => RelV p.2 u ∧ Rep K F μ p.1 p.2) us ps → Vals (ps.map (·.2)) us ∧ Reps K F μ (ps.map (·.1)) (ps.map (·.2))
  | _, _, .nil => ⟨.nil, .nil⟩
  | _, _, .cons h t => let ⟨a, b⟩ := each_pairs t; ⟨.cons h.1 a, .cons h.2 b⟩
theorem each_and {α β : Type} {R R' : α → β → Prop} : ∀ {as : List α} {bs : List β}, EachIs R as bs → (∀ a b, b ∈ bs → R a b → R' a b) → EachIs R' as bs
  | _, _, .nil, _ => .nil
  | _, _, .cons h t, f => .cons (f _ _ List.mem_cons_self h) (each_and t fun a b hb => f a b (List.mem_cons_of_mem _ hb))
theorem mem_zip_fst {α β : Type} : ∀ {xs : List α} {vs : List β} {p : α × β}, p ∈ xs.zip vs → p.1 ∈ xs
  | x :: xs, v :: vs, p, h => by
    rw [List.zip_cons_cons] at h
    rcases List.mem_cons.mp h with e | h
    · subst e; exact List.mem_cons_self
    · exact List.mem_cons_of_mem _ (mem_zip_fst h)
  | [], _, _, h => by simp at h
  | _ :: _, [], _, h => by simp at h
theorem sortable_ok {xs : List D} {vs : List V} (h : sortable xs = true) : (∀ x ∈ xs, x.shal 40 = true) ∧ AllAlike ((xs.zip vs).map fun p => p.1.pd) ∧ (Sortable ((xs.zip vs).map fun p => p.1.pd) ∨ ∃ ds', ((xs.zip vs).map fun p => p.1.pd) = .tuple [] :: ds' ∧ ∀ d, d ∈ ds' → ∃ ys, d = .tuple ys) := by
  unfold sortable at h
  simp only [Bool.and_eq_true, List.all_eq_true] at h
  obtain ⟨⟨h1, h2⟩, h3⟩ := h
  refine ⟨h1, fun d hd d' hd' => ?_, ?_⟩
  · obtain ⟨p, hp, rfl⟩ := List.mem_map.mp hd
    obtain ⟨p', hp', rfl⟩ := List.mem_map.mp hd'
    exact h2 _ (mem_zip_fst hp) _ (mem_zip_fst hp')
  · rcases Bool.or_eq_true_iff.mp h3 with h3 | h3
    rcases Bool.or_eq_true_iff.mp h3 with h3 | h3
    · refine .inl (.inl fun d hd => ?_)
      obtain ⟨p, hp, rfl⟩ := List.mem_map.mp hd
      have := List.all_eq_true.mp h3 _ (mem_zip_fst hp)
      cases q : p.1 with
      | tup ys =>
        cases ys with
        | nil => rw [q] at this; cases this
        | cons y ys => exact ⟨_, _, rfl⟩
      | _ => rw [q] at this; cases this
    · refine .inl (.inr fun d hd => ?_)
      obtain ⟨p, hp, rfl⟩ := List.mem_map.mp hd
      have := List.all_eq_true.mp h3 _ (mem_zip_fst hp)
      cases q : p.1 with
      | tup ys => rw [q] at this; cases this
      | non => rw [q] at this; cases this
      | dct _ _ => rw [q] at this; cases this
      | obj _ _ _ => rw [q] at this; cases this
      | ref l => 
        have z := h1 _ (mem_zip_fst hp)
        rw [q] at z; cases z
      | _ => exact ⟨fun z => by simp [D.pd] at z, fun ys z => by simp [D.pd] at z⟩
    · cases xs with
      | nil => cases h3
      | cons x r =>
        cases vs with
        | nil => exact .inl (.inl fun d hd => by cases hd)
        | cons v vs =>
          cases x with
          | tup ys =>
            cases ys with
            | cons y ys => cases h3
            | nil =>
              refine .inr ⟨_, rfl, fun d hd => ?_⟩
              obtain ⟨p, hp, rfl⟩ := List.mem_map.mp hd
              have := List.all_eq_true.mp h3 _ (mem_zip_fst hp)
              cases q : p.1 with
              | tup ys => exact ⟨_, rfl⟩
              | _ => rw [q] at this; cases this
          | _ => cases h3
theorem sort_core {m : Bool} (hu : X.A.units + 64 < cLine) {pins : List (Addr × Obj)} {s : Shared} {σ : L2.St} {H F : Hp} {μ : List Addr} {S : Store} {E : XK} {a : Addr} {xs : List D} {vs : List V} {Q : VK} (I : Inv X pins σ H s) (W : Wd X.K H F μ S) (ra : Reps X.K F μ xs vs) (hb : (sortable xs && lim xs.length) = true)
    (col : Coll X.prog X.w X.A.in1 s a (Vals vs)) (h : Done X.K E H F μ S (newL m (isortB leD xs) S) (PV X.K Q)) : wpAny (model X.prog X.w) X.A (call (.builtin "sorted") [.ref a] []) (EP X pins σ Q) X.xe s := by
  rw [Bool.and_eq_true] at hb
  obtain ⟨s1, s2, s3⟩ := sortable_ok (vs := vs) hb.1
  have hl : xs.length = vs.length := ra.length
  refine sorted_gen col fun h' tk its kp rv hz E' => ?_
  let hh := h'.push (seqObj "list" its.toArray 0)
  have I1 : Inv X pins σ H { s with heap := h', toks := tk } := I.kept (t' := tk) kp
  have hL : hh.get? h'.objs.size = some (seqObj "list" its.toArray 0) := Heap.get?_push_size _ rfl
  have I2 : Inv X pins σ H { s with heap := hh, toks := tk } := I1.kept (t' := tk) fun b o e => Heap.get?_push_of_some _ e
  have I3 : Inv X pins σ H { s with heap := sortingHeap hh h'.objs.size its, toks := tk } := I1.kept (t' := tk) fun b o e => sortingHeap_old (Nat.ne_of_lt (Heap.lt_size e)) (Heap.get?_push_of_some _ e)
  have e := pairs_each ra rv
  have er : EachIs (fun v (p : D × V) => ∃ as, Reads (sortingHeap hh h'.objs.size its) v p.1.pd as) its (xs.zip vs) := each_and e fun u p hp ⟨q1, q2⟩ => by
    obtain ⟨p1, _, _⟩ := shal_ok (s1 _ (mem_zip_fst hp))
    exact Dp.reads I3 _ _ _ (dp_of W.sub p1 q2) q1
  have hA : ∀ d, d ∈ (xs.zip vs).map (fun p => p.1.pd) → X.A.in1.in1.units + d.depth < cLine := fun d hd => by
    obtain ⟨p, hp, rfl⟩ := List.mem_map.mp hd
    obtain ⟨_, _, l1⟩ := shal_ok (s1 _ (mem_zip_fst hp))
    have : X.A.in1.in1.units = X.A.units + 2 := rfl
    omega
  refine list_sort_vals (κ := dataKind (sortingHeap hh h'.objs.size its) ((xs.zip vs).map fun p => p.1.pd)) (s := { s with heap := hh, toks := tk }) hL (SortsAt.anyM (s := { s with heap := sortingHeap hh h'.objs.size its, toks := tk }) (each_map (R := fun v d => ∃ as, Reads (sortingHeap hh h'.objs.size its) v d as) (fun p : D × V => p.1.pd) er) s2 s3 hA) hz ⟨rfl, ?_⟩
  have out := sortVals_data (h' := sortingHeap hh h'.objs.size its) (enc := fun p : D × V => p.1.pd) false e er s2
  have e1 : (xs.zip vs).mergeSort (dataLe false fun p : D × V => p.1.pd) = isortB (fun p q : D × V => leD p.1 q.1) (xs.zip vs) := mergeSort_isort (dataLe_total _).1 (dataLe_total _).2 _
  rw [e1] at out
  obtain ⟨o1, o2⟩ := each_pairs out
  have e2 : (isortB (fun p q : D × V => leD p.1 q.1) (xs.zip vs)).map (·.1) = isortB leD xs := by
    have := isortB_map (le := leD) (f := fun p : D × V => p.1) (xs.zip vs)
    rw [this, List.map_fst_zip (by omega)]
  rw [e2] at o2
  generalize sortVals (dataKind (sortingHeap hh h'.objs.size its) ((xs.zip vs).map fun p => p.1.pd)) false its its = outv at o1
  generalize (isortB (fun p q : D × V => leD p.1 q.1) (xs.zip vs)).map (·.2) = ws at o1 o2
  have hws : ws.length ≤ sizeLine := by
    rw [← o2.length, isortB_len]
    exact lim_le hb.2
  obtain ⟨ep, he'⟩ := sortedHeap_at (vs := its) (out := outv.toArray) hL
  have hfr : H h'.objs.size = none := I1.hok.fresh (Nat.le_refl _)
  obtain ⟨_, _, _, _, h1, h2⟩ := newL_ok (P := PV X.K Q) W o2 h hfr
  refine ⟨.ref h'.objs.size, upd H h'.objs.size (.lst ws), I1.laid (t' := tk) (fun b o e => ?_) (Nat.le_refl _) ⟨hws, outv, ep, o1, he'⟩, rfl, h1 _ h2⟩
  rw [sortedHeap_old (Nat.ne_of_lt (Heap.lt_size e)) (Nat.lt_of_lt_of_le (Heap.lt_size e) (by rw [size_push']; exact Nat.le_succ _))]
  exact Heap.get?_push_of_some _ e
theorem cd_sorted {m : Bool} (hu : X.A.units + 64 < cLine) : CallR X (.builtin "sorted") (rN X.K (sortedD m)) := by
  intro pins s σ H zs us Q I r h
  replace h := on1_ok h
  obtain ⟨E, x, F, μ, S, d, rfl, W, rd, h⟩ := h
  cases hd : rdS S d with
  | none => rw [hd] at h; exact h.elim
  | some xs =>
    rw [hd] at h
    obtain ⟨hb, h⟩ := Done.need h
    obtain ⟨a, vs, rfl, hs, ra⟩ := rdS_ok W rd hd
    obtain ⟨u, rfl, rx⟩ := vals1 r
    cases rx
    have hz0 : vs.length ≤ sizeLine := by rw [← ra.length]; exact lim_le (by rw [Bool.and_eq_true] at hb; exact hb.2)
    obtain ⟨its, rv, T, o, n, hT, ho, hc, hdd⟩ : ∃ its, Vals vs its ∧ ∃ (T : String) (o : Obj) (n : Nat), (T = "list" ∨ T = "tuple") ∧ s.heap.get? a = some o ∧ o.cls = .type T ∧ o.data = .seq its.toArray n := by
      rcases hs with hq | hq
      · obtain ⟨its, r', pl, hz⟩ := I.list hq
        obtain ⟨o, ho, hc, n, hd⟩ := pl.isList
        exact ⟨its, r', _, o, n, .inl rfl, ho, hc, hd⟩
      · obtain ⟨its, r', pl, hz⟩ := I.tuple hq
        obtain ⟨o, ho, hc, n, hd⟩ := pl
        exact ⟨its, r', _, o, n, .inr rfl, ho, hc, hd⟩
    exact sort_core hu I W ra hb (coll_seq hT ho hc hdd (by have := rv.length; omega) rv) h
end
end MM

set_option Elab.async false
set_option linter.all false
set_option maxRecDepth 100000
/-! x = zip(a, b), walked by the statement behind it. -/
namespace MM
open PySem PySem.Spec PyProof.Rows L2

def ObjO (a : Addr) (o : Obj) : HO := .ext fun h => h.get? a = some o
theorem objO_ok {P : Program} {w : World} {H : Hp} {h : Heap} {a : Addr} {o : Obj} (e : h.get? a = some o) : ObjOk P w H h a (ObjO a o) := ⟨e, ⟨o, e⟩, fun _ _ p k => k o p⟩
theorem objO_get {P : Program} {w : World} {H : Hp} {h : Heap} {a : Addr} {o : Obj} (e : ObjOk P w H h a (ObjO a o)) : h.get? a = some o := e.1
/-- H is H0 and an iterator at rest -/
structure Pz (P : Program) (w : World) (K : PySem.W.Frag) (n : Nat) (H0 H : Hp) (z : Addr) (J : It) : Prop where
  ex : ∃ ch : List (Addr × Obj), (∀ p ∈ ch, n ≤ p.1 ∧ H0 p.1 = none ∧ H p.1 = some (ObjO p.1 p.2)) ∧ (∀ a, (∀ p ∈ ch, a ≠ p.1) → H a = H0 a) ∧
    ∀ (elts : List Expr) (kk : Nat) (tpos : Pos), ∃ St : Nat → Heap → Prop, Turn P w K (.Tuple elts kk tpos) J (ch.map (·.1)) z St ∧ ∀ h : Heap, (∀ p ∈ ch, h.get? p.1 = some p.2) → St 0 h
/-- .. held by the slot k -/
def iPz (P : Program) (w : World) (K : PySem.W.Frag) (n : Nat) (k : Nat) : TI := fun σ H R => ∃ z H0 J, σ[k]? = some (some (.ref z)) ∧ Pz P w K n H0 H z J ∧ R J H0
section
variable {X : Cx} {k : Nat} {x : Str} {p pos tpos : Pos} {elts : List Expr} {kk : Nat}
theorem pi_pz (hN : X.N[k]? = some x) (hv : Vis X.env.scope x := by first | exact Or.inl rfl | exact Or.inr (Or.inl rfl) | exact Or.inr (Or.inr rfl)) (hd : (x == ("__debug__" : Str)) = false := by decide) (hcd : (x == ("__classdict__" : Str)) = false := by decide) :
    PI X (.Tuple elts kk tpos) (.Name x p) (iPz X.prog X.w X.K X.s_0.heap.objs.size k) := by
  refine ⟨fun pins s σ H R I h => ?_⟩
  obtain ⟨z, H0, J, hs, ⟨ch, h1, h2, h3⟩, q⟩ := h
  refine thn ((pe_var (pos := p) (i := k) hN hv hd hcd).run pins s σ H (fun v H1 => v = .ref z ∧ H1 = H) I ⟨.ref z, hs, rfl, rfl⟩) fun u s1 ⟨v, H1, I1, r1, ev, eH⟩ => ?_
  subst ev
  rw [eH] at I1
  cases r1
  obtain ⟨St, T, h4⟩ := h3 elts kk tpos
  have st : St 0 s1.heap := h4 _ fun p hp => objO_get (I1.hok _ _ (h1 p hp).2.2)
  have other : ∀ b u, H b = some u → (∀ ψ, u ≠ .ext ψ) → H0 b = some u := fun b u e n => by
    rw [← h2 b fun p hp z => ?_]
    · exact e
    · rw [z, (h1 p hp).2.2] at e
      exact n _ (Option.some.inj e).symm
  have non : ∀ b, H b = none → H0 b = none := fun b e => by
    rw [← h2 b fun p hp z => ?_]
    · exact e
    · rw [z, (h1 p hp).2.2] at e
      cases e
  have hok : HOk X.prog X.w H0 s1.heap := fun b u e => by
    have e' : H b = some u := by
      rw [h2 b fun p hp z => ?_]
      · exact e
      · rw [z, (h1 p hp).2.1] at e
        cases e
    exact (I1.hok b u e').stay (fun _ _ _ z => z) (fun c z => other c _ z fun _ w => (nomatch w)) fun c xs z => other c _ z fun _ w => (nomatch w)
  have un : Un X.fs [] H H0 s1.heap s1.heap := ⟨fun _ _ e _ _ _ => e, fun _ o e _ _ _ => ⟨o.slots, e⟩, fun b _ _ z _ => non b z, fun _ o e _ => ⟨o, e⟩, fun b xs z => other b _ z fun _ w => (nomatch w),
    fun b o x z => other b _ z fun _ w => (nomatch w), fun b ps z => ⟨#[], by rw [other b _ z fun _ w => (nomatch w)]; simp⟩⟩
  have I2 : Inv X pins σ H0 s1 := I1.un (t' := s1.toks) un hok
  refine T.self X.A 0 s1 _ _ st ?_
  refine ⟨z, ch.map (·.1), St, J, H0, rfl, I2, T, st, fun b hb => ?_, q⟩
  obtain ⟨p, hp, rfl⟩ := List.mem_map.mp hb
  obtain ⟨g1, g2, g3⟩ := h1 p hp
  refine ⟨g2, fun z => ?_, fun z => ?_, .inr g1, fun x c e z => ?_, fun p' hp' z => ?_⟩
  · rw [z, I1.free] at g3
    cases g3
  · obtain ⟨_, o, ho, _⟩ := I1.ok.funs.mem z
    exact absurd (Nat.lt_of_lt_of_le (Heap.lt_size ho) g1) (Nat.lt_irrefl _)
  · have q := I1.freeC x c e
    rw [z, g3] at q
    cases q
  · have q := (I1.pin p' hp').2.1
    rw [z, g3] at q
    cases q
/-- five new objects, tracked as they are -/
theorem track {P : Program} {w : World} {K : PySem.W.Frag} {pins : List (Addr × Obj)} {σ : L2.St} {H : Hp} {s : Shared} {h' : Heap} (I : Inv X pins σ H s) (ch : List (Addr × Obj)) (kp : ∀ b o, s.heap.get? b = some o → h'.get? b = some o)
    (hn : ∀ p ∈ ch, s.heap.objs.size ≤ p.1) (hg : ∀ p ∈ ch, h'.get? p.1 = some p.2) : ∃ H2 : Hp, Inv X pins σ H2 { s with heap := h' } ∧ (∀ p ∈ ch, X.s_0.heap.objs.size ≤ p.1 ∧ H p.1 = none ∧ H2 p.1 = some (ObjO p.1 p.2)) ∧ ∀ a, (∀ p ∈ ch, a ≠ p.1) → H2 a = H a := by
  let H2 : Hp := fun a => match ch.find? (fun p => p.1 == a) with
    | some p => match h'.get? a with
      | some o => some (ObjO a o)
      | none => none
    | none => H a
  have at_ : ∀ p ∈ ch, H2 p.1 = some (ObjO p.1 p.2) := fun p hp => by
    have hf : (ch.find? (fun q => q.1 == p.1)).isSome = true := List.find?_isSome.mpr ⟨p, hp, by simp⟩
    show (match ch.find? (fun q => q.1 == p.1) with | some q => (match h'.get? p.1 with | some o => some (ObjO p.1 o) | none => none) | none => H p.1) = _
    cases q : ch.find? (fun q => q.1 == p.1) with
    | none => rw [q] at hf; cases hf
    | some p' => rw [hg p hp]
  have off : ∀ a, (∀ p ∈ ch, a ≠ p.1) → H2 a = H a := fun a ha => by
    have hf : ch.find? (fun q => q.1 == a) = none := List.find?_eq_none.mpr fun p hp z => ha p hp (by simpa using Eq.symm (eq_of_beq z))
    show (match ch.find? (fun q => q.1 == a) with | some q => (match h'.get? a with | some o => some (ObjO a o) | none => none) | none => H a) = _
    rw [hf]
  have fresh : ∀ p ∈ ch, H p.1 = none := fun p hp => I.hok.fresh (hn p hp)
  have old : ∀ b u, H b = some u → H2 b = some u := fun b u e => by
    rw [off b fun p hp z => ?_]
    · exact e
    · rw [z, fresh p hp] at e; cases e
  have un : Un X.fs [] H H2 s.heap h' := ⟨fun _ _ e _ _ _ => kp _ _ e, fun _ o e _ _ _ => ⟨o.slots, kp _ _ e⟩, fun b o e z _ => by
      rw [off b fun p hp z' => absurd (Heap.lt_size e) (by rw [z']; exact Nat.not_lt.mpr (hn p hp))]
      exact z, fun _ o e _ => ⟨o, kp _ _ e⟩, fun b xs z => old b _ z,
    fun b o x z => old b _ z, fun b ps z => ⟨#[], by rw [old b _ z]; simp⟩⟩
  have hok : HOk X.prog X.w H2 h' := fun b u e => by
    by_cases hb : ∃ p ∈ ch, b = p.1
    · obtain ⟨p, hp, rfl⟩ := hb
      rw [at_ p hp] at e
      cases e
      exact objO_ok (hg p hp)
    · have hb' : ∀ p ∈ ch, b ≠ p.1 := fun p hp z => hb ⟨p, hp, z⟩
      rw [off b hb'] at e
      exact (I.hok b u e).stay (fun _ _ _ z => kp _ _ z) (fun c z => old c _ z) fun c xs z => old c _ z
  exact ⟨H2, I.un (t' := s.toks) un hok, fun p hp => ⟨Nat.le_trans I.sz (hn p hp), fresh p hp, at_ p hp⟩, off⟩
def tZipE (P : Program) (w : World) (K : PySem.W.Frag) (n : Nat) (ta : TA) : TE := fun σ H Q => ta σ H fun vs H1 => ∃ a b xs ys, vs = [.ref a, .ref b] ∧
  ((SqL K H1 a xs ∧ SqL K H1 b ys ∧ ∀ z H2, Pz P w K n H1 H2 z (Itz K a b) → Q (.ref z) H2) ∨ (SqT K H1 a xs ∧ SqT K H1 b ys ∧ ∀ z H2, Pz P w K n H1 H2 z (RZ.ItzT K a b) → Q (.ref z) H2))
theorem pe_zip {e e2 : Expr} {ta : TA} (hg : Gl X "zip") (hm : X.mg "zip" = none) (ha : PA X [e, e2] ta)
    (hs : starEach [e, e2] X.env = (false, eval e X.env) :: starEach [e2] X.env := by rfl) (hpl : (backTo pos (starEach [e2] X.env)).any (·.1) = false := by rfl) :
    PE X (.Call (.Name "zip" p) [e, e2] [] pos) (tZipE X.prog X.w X.K X.s_0.heap.objs.size ta) := by
  refine ⟨fun pins s σ H R I h => ?_⟩
  refine Call_ (ld_blt I hg hm PyProof.Rows.boot_zip (PyProof.Rows.callWith_type1 (thn (ha.run pos pins s σ H _ I h) fun us s1 ⟨vs, H1, I1, r1, q1⟩ => ?_) hs hpl))
  obtain ⟨a, b, xs, ys, ex, q1⟩ := q1
  subst ex
  cases r1 with
  | cons r rr =>
    cases rr with
    | cons r' rr =>
      cases rr
      cases r
      cases r'
      rcases q1 with ⟨hqx, hqy, q⟩ | ⟨hqx, hqy, q⟩
      · obtain ⟨its, rv, p1, _⟩ := I1.list hqx
        obtain ⟨its2, rv2, p2, _⟩ := I1.list hqy
        refine call_zip_2 p1.isList p2.isList fun h' hz hTI hTO h1 h2 hsz hk => ?_
        obtain ⟨o1, e1, c1, d1⟩ := id h1
        obtain ⟨o2, e2, c2, d2⟩ := id h2
        let oz := ((h'.get? (s1.heap.objs.size + 4)).getD default)
        obtain ⟨H2, I2, k1, k2⟩ := track (P := X.prog) (w := X.w) (K := X.K) I1 [(s1.heap.objs.size + 4, _), (s1.heap.objs.size + 2, _), (s1.heap.objs.size + 3, _), (s1.heap.objs.size, o1), (s1.heap.objs.size + 1, o2)] hk (by
          intro p hp
          simp only [List.mem_cons, List.not_mem_nil, or_false] at hp
          rcases hp with rfl | rfl | rfl | rfl | rfl <;> simp) (by
          intro p hp
          simp only [List.mem_cons, List.not_mem_nil, or_false] at hp
          rcases hp with rfl | rfl | rfl | rfl | rfl
          · exact hz
          · exact hTI
          · exact hTO
          · exact e1
          · exact e2)
        refine ⟨.ref _, H2, I2, rfl, q _ H2 ⟨_, k1, k2, fun elts kk tpos => ⟨_, turn_zip (PySem.W.ktu_apart s1.heap.objs.size a b p1.lt p2.lt), fun h hh => ?_⟩⟩⟩
        simp only [List.mem_cons, List.not_mem_nil, or_false] at hh
        refine ⟨hh (_, _) (.inl rfl), hh (_, _) (.inr (.inl rfl)), ⟨_, _, hh (_, _) (.inr (.inr (.inl rfl)))⟩, ⟨o1, hh (_, _) (.inr (.inr (.inr (.inl rfl)))), c1, d1⟩, ⟨o2, hh (_, _) (.inr (.inr (.inr (.inr rfl)))), c2, d2⟩⟩
      · obtain ⟨its, rv, p1, _⟩ := I1.tuple hqx
        obtain ⟨its2, rv2, p2, _⟩ := I1.tuple hqy
        obtain ⟨oo1, ho1, _⟩ := id p1
        obtain ⟨oo2, ho2, _⟩ := id p2
        refine RZ.call_zipT (show s1.heap.IsTuple a its.toArray from p1) (show s1.heap.IsTuple b its2.toArray from p2) fun h' hz hTI hTO h1 h2 hsz hk => ?_
        obtain ⟨o1, e1, c1, d1⟩ := id h1
        obtain ⟨o2, e2, c2, d2⟩ := id h2
        obtain ⟨H2, I2, k1, k2⟩ := track (P := X.prog) (w := X.w) (K := X.K) I1 [(s1.heap.objs.size + 4, _), (s1.heap.objs.size + 2, _), (s1.heap.objs.size + 3, _), (s1.heap.objs.size, o1), (s1.heap.objs.size + 1, o2)] hk (by
          intro p hp
          simp only [List.mem_cons, List.not_mem_nil, or_false] at hp
          rcases hp with rfl | rfl | rfl | rfl | rfl <;> simp) (by
          intro p hp
          simp only [List.mem_cons, List.not_mem_nil, or_false] at hp
          rcases hp with rfl | rfl | rfl | rfl | rfl
          · exact hz
          · exact hTI
          · exact hTO
          · exact e1
          · exact e2)
        refine ⟨.ref _, H2, I2, rfl, q _ H2 ⟨_, k1, k2, fun elts kk tpos => ⟨_, RZ.turn_zipT (PySem.W.ktu_apart s1.heap.objs.size a b (Heap.lt_size ho1) (Heap.lt_size ho2)), fun h hh => ?_⟩⟩⟩
        simp only [List.mem_cons, List.not_mem_nil, or_false] at hh
        refine ⟨hh (_, _) (.inl rfl), hh (_, _) (.inr (.inl rfl)), ⟨_, _, hh (_, _) (.inr (.inr (.inl rfl)))⟩, ⟨o1, hh (_, _) (.inr (.inr (.inr (.inl rfl)))), c1, d1⟩, ⟨o2, hh (_, _) (.inr (.inr (.inr (.inr rfl)))), c2, d2⟩⟩
end
end MM

set_option Elab.async false
set_option linter.all false
set_option maxRecDepth 100000
/-! zip: the mirrors. -/
namespace MM
open PySem PySem.Spec PyProof.Rows L2

def zipD : List D → List D → List D
  | x :: xs, y :: ys => .tup [x, y] :: zipD xs ys
  | _, _ => []
theorem zipD_eq : ∀ xs ys : List D, (List.range (min xs.length ys.length)).map (fun i => D.tup [xs.getD i .non, ys.getD i .non]) = zipD xs ys
  | [], ys => by simp [zipD]
  | _ :: _, [] => by simp [zipD]
  | x :: xs, y :: ys => by
    rw [List.length_cons, List.length_cons, Nat.succ_min_succ, List.range_succ_eq_map, List.map_cons, List.map_map]
    show D.tup [x, y] :: _ = D.tup [x, y] :: zipD xs ys
    rw [← zipD_eq xs ys]
    rfl
section
variable {K : PySem.W.Frag} {F : Hp} {μ : List Addr} {a b : Addr} {xs ys : List D} {vs us : List V}
theorem getD_rep (r : Reps K F μ xs vs) {i : Nat} {x : V} (e : vs[i]? = some x) : Rep K F μ (xs.getD i .non) x := by
  obtain ⟨d, h1, h2⟩ := r.get' e
  rw [List.getD_eq_getElem?_getD, h1]
  exact h2
theorem it_zip (ha : SqL K F a vs) (hb : SqL K F b us) (ra : Reps K F μ xs vs) (rb : Reps K F μ ys us) : ItOk K F μ (Itz K a b) (zipD xs ys) := by
  rw [← zipD_eq]
  exact it_pair (walk_zip (by rw [ra.length, rb.length])) (fun H F1 μ1 S1 W f m => ⟨sqL_mono W.sub (sqL_mono f ha), sqL_mono W.sub (sqL_mono f hb)⟩) (fun i x _ e => getD_rep ra e) fun i x _ e => getD_rep rb e
theorem walk_zipT {xs ys : List V} {n : Nat} (hn : n = min xs.length ys.length) : Walk (RZ.ItzT K a b) n (fun H => SqT K H a xs ∧ SqT K H b ys) (YPair (fun i => xs[i]?) (fun i => ys[i]?)) where
  goes i H hi q := ⟨xs, ys, xs[i]'(by omega), ys[i]'(by omega), q.1, q.2, List.getElem?_eq_getElem (by omega), List.getElem?_eq_getElem (by omega)⟩
  yields i H x H' hi q y := by
    obtain ⟨T, u, v, rfl, hT, rfl, h1, h2⟩ := y
    exact ⟨T, u, v, rfl, hT, rfl, h1 _ q.1, h2 _ q.2⟩
  stops H q := ⟨xs, ys, q.1, q.2, by omega⟩
theorem it_zipT (ha : SqT K F a vs) (hb : SqT K F b us) (ra : Reps K F μ xs vs) (rb : Reps K F μ ys us) : ItOk K F μ (RZ.ItzT K a b) (zipD xs ys) := by
  rw [← zipD_eq]
  exact it_pair (walk_zipT (by rw [ra.length, rb.length])) (fun H F1 μ1 S1 W f m => ⟨sqT_mono W.sub (sqT_mono f ha), sqT_mono W.sub (sqT_mono f hb)⟩) (fun i x _ e => getD_rep ra e) fun i x _ e => getD_rep rb e
end
def zip2 (ds : List D) (S : Store) : R (List D) := match ds with
  | [.tup xs, .tup ys] => .ok (zipD xs ys) S
  | [d, e] => (lstOf d S).bind fun xs S1 => (lstOf e S1).bind fun ys S2 => .ok (zipD xs ys) S2
  | _ => .no
theorem zip2_ok {K : PySem.W.Frag} {E : XK} {H F : Hp} {μ : List Addr} {S : Store} {ds : List D} {ws : List V} {P : List D → Store → Hp → Hp → List Addr → Prop} (W : Wd K H F μ S) (r : Reps K F μ ds ws) (h : Done K E H F μ S (zip2 ds S) P) :
    ∃ F' S' xs a b vs us, ws = [.ref a, .ref b] ∧ Ext H F μ S H F' μ S' ∧ Wd K H F' μ S' ∧ P xs S' H F' μ ∧ ((SqL K F' a vs ∧ SqL K F' b us ∧ ItOk K F' μ (Itz K a b) xs) ∨ (SqT K F' a vs ∧ SqT K F' b us ∧ ItOk K F' μ (RZ.ItzT K a b) xs)) := by
  cases r with
  | nil => exact h.elim
  | cons r1 r =>
    cases r with
    | nil => cases r1 <;> exact h.elim
    | cons r2 r =>
      cases r with
      | cons => cases r1 <;> cases r2 <;> exact h.elim
      | nil =>
        rename_i d1 v1 d2 v2
        have gen : Done K E H F μ S ((lstOf d1 S).bind fun xs S1 => (lstOf d2 S1).bind fun ys S2 => .ok (zipD xs ys) S2) P → ∃ F' S' xs a b vs us, [v1, v2] = [V.ref a, V.ref b] ∧ Ext H F μ S H F' μ S' ∧ Wd K H F' μ S' ∧ P xs S' H F' μ ∧ ((SqL K F' a vs ∧ SqL K F' b us ∧ ItOk K F' μ (Itz K a b) xs) ∨ (SqT K F' a vs ∧ SqT K F' b us ∧ ItOk K F' μ (RZ.ItzT K a b) xs)) := fun h => by
          obtain ⟨F1, S1, xs, a, vs, rfl, e1, W1, h1, q1, h⟩ := lstOf_ok W r1 (Done.split W h)
          obtain ⟨F2, S2, ys, b, us, rfl, e2, W2, h2, q2, h⟩ := lstOf_ok W1 (r2.ext e1) (Done.split W1 h)
          exact ⟨F2, S2, zipD xs ys, a, b, vs, us, rfl, e1.trans W e2, W2, h.here W2, .inl ⟨sqL_mono e2.fz h1, h2, it_zip (sqL_mono e2.fz h1) h2 (q1.ext e2) q2⟩⟩
        cases r1 with
        | tup ha ra =>
          cases r2 with
          | tup hb rb => exact ⟨F, S, _, _, _, _, _, rfl, .refl, W, Done.here W h, .inr ⟨SqT.of ha, SqT.of hb, it_zipT (SqT.of ha) (SqT.of hb) ra rb⟩⟩
          | lst ha ra => exact gen h
          | scr ha ra => exact gen h
          | ref ha => exact gen h
          | _ => exact (gen h)
        | lst ha ra => exact gen (by cases r2 <;> exact h)
        | scr ha ra => exact gen (by cases r2 <;> exact h)
        | ref ha => exact gen (by cases r2 <;> exact h)
        | _ => exact gen (by cases r2 <;> exact h)
def miZip (as : MA) : MI := fun σ S => (as σ S).bind zip2
section
variable {X : Cx} {E : WX} {e e2 : Expr} {mas : MA} {p pos tpos : Pos} {elts : List Expr} {kk : Nat}
theorem si_zip (hg : Gl X "zip") (hm : X.mg "zip" = none) (ha : PA X [e, e2] (tA X.K E mas)) (hs : starEach [e, e2] X.env = (false, eval e X.env) :: starEach [e2] X.env := by rfl) (hpl : (backTo pos (starEach [e2] X.env)).any (·.1) = false := by rfl) :
    PI X (.Tuple elts kk tpos) (.Call (.Name "zip" p) [e, e2] [] pos) (tI X.K E (miZip mas)) :=
  (RZ.pi_zipA hg hm ha hs hpl).imp fun τ H Q ⟨F, μ, σ, S, W, hs, h⟩ => ⟨F, μ, σ, S, W, hs, (h.split W).mono fun ds S1 H1 F1 μ1 e1 W1 h1 vs q => by
    obtain ⟨F2, S2, xs, a, b, us, ws, rfl, e2, W2, h2, hz⟩ := zip2_ok W1 q h1
    rcases hz with ⟨h3, h4, h5⟩ | ⟨h3, h4, h5⟩
    · exact ⟨a, b, us, ws, rfl, .inl ⟨sqL_mono W2.sub h3, sqL_mono W2.sub h4, h2 _ h5⟩⟩
    · exact ⟨a, b, us, ws, rfl, .inr ⟨sqT_mono W2.sub h3, sqT_mono W2.sub h4, h2 _ h5⟩⟩⟩
end
/-! ### x = zip(..); then a statement that walks x once -/
section
variable (P : Program) (w : World) (K : PySem.W.Frag) (E : WX) (n k : Nat) (items : List D)
/-- the worlds without the iterator -/
def tEz (m : ME) : TE := fun τ H Q => ∃ H0 F μ σ S z J, τ[k]? = some (some (.ref z)) ∧ Pz P w K n H0 H z J ∧ ItOk K F μ J items ∧ Wd K H0 F μ S ∧ Sl K F μ σ τ ∧ Done K (WE E τ) H0 F μ S (m σ S) (fun d _ H' F' μ' => ∀ v, Rep K F' μ' d v → Q v H')
def tAz (m : MA) : TA := fun τ H Q => ∃ H0 F μ σ S z J, τ[k]? = some (some (.ref z)) ∧ Pz P w K n H0 H z J ∧ ItOk K F μ J items ∧ Wd K H0 F μ S ∧ Sl K F μ σ τ ∧ Done K (WE E τ) H0 F μ S (m σ S) (fun d _ H' F' μ' => ∀ v, Reps K F' μ' d v → Q v H')
def tSz (m : MS) : TS := fun D τ H => ∃ H0 F μ σ S z J, τ[k]? = some (some (.ref z)) ∧ Pz P w K n H0 H z J ∧ ItOk K F μ J items ∧ Wd K H0 F μ S ∧ Sl K F μ σ τ ∧ DoneS K E H0 F μ S (m σ S) D
end
def miK (items : List D) : MI := fun _ S => .ok items S
def mZip (k : Nat) (as : MA) (body : List D → MS) : MS := fun σ S => (as σ S).toO σ fun ds S1 => (zip2 ds S1).toO σ fun xs S2 => body xs (σ.set k none) S2
section
variable {X : Cx} {E : WX} {k : Nat} {items : List D} {x : Str} {e e2 a : Expr} {es : List Expr} {mas : MA} {m ma : ME} {ms : MS} {p pos tpos : Pos} {elts : List Expr} {kk : Nat}
abbrev zE (X : Cx) (E : WX) (k : Nat) (items : List D) (m : ME) : TE := tEz X.prog X.w X.K E X.s_0.heap.objs.size k items m
abbrev zA (X : Cx) (E : WX) (k : Nat) (items : List D) (m : MA) : TA := tAz X.prog X.w X.K E X.s_0.heap.objs.size k items m
abbrev zS (X : Cx) (E : WX) (k : Nat) (items : List D) (m : MS) : TS := tSz X.prog X.w X.K E X.s_0.heap.objs.size k items m
theorem z_lcF {fin : List D → Store → R D} {elt : Expr} {ifs : List Expr} {scope : Scope} {own : List (Str × Nat)} {mt : MT} {me : ME} {g : MG} {ow : List Nat} (hc : X.calm = true) (hN : X.N.Nodup) (ok : BlkOk X.N X.env.scope scope own)
    (hfin : ∀ {E : XK} {Q : VK} {H1 F1 μ1 S1 H F μ S p ys vs}, Wd X.K H1 F1 μ1 S1 → H1 p = none → Ext H1 F1 μ1 S1 H F μ S → Wd X.K H F μ S → Aside H F μ p (.lst vs) → Reps X.K F μ ys vs → Done X.K E H1 F1 μ1 S1 (fin ys S) (fun d _ H' F' μ' => ∀ v, Rep X.K F' μ' d v → Q v H') → Q (.ref p) H)
    (hg : ∀ (s : Shared) (H : Hp) (C : Addr) (cl : List (Str × Addr)) (fp : List Addr), PG (X.blk s H scope (compEnvC scope cl C X.env) fp) (.Tuple elts kk tpos) (tG X.K W0 ow g)) (ht : ∀ (s : Shared) (H : Hp) (C : Addr) (cl : List (Str × Addr)) (fp : List Addr), PTs (X.blk s H scope (compEnvC scope cl C X.env) fp) ifs (tT X.K W0 mt))
    (he : ∀ (s : Shared) (H : Hp) (C : Addr) (cl : List (Str × Addr)) (fp : List Addr), PE (X.blk s H scope (compEnvC scope cl C X.env) fp) elt (tE X.K W0 me)) (hk : X.N[k]? = some x := by rfl) (hvis : Vis X.env.scope x := by first | exact Or.inl rfl | exact Or.inr (Or.inl rfl) | exact Or.inr (Or.inr rfl)) (hd : (x == ("__debug__" : Str)) = false := by decide) (hcd : (x == ("__classdict__" : Str)) = false := by decide)
    (hv : ∀ i ∈ ow, i ∈ own.map (·.2) := by decide) (hs : ∀ y, foldedSetIterable (.Name x p) X.env y = pure y := by intro _; rfl) :
    PE X (.ListComp elt [⟨.Tuple elts kk tpos, .Name x p, ifs, 0⟩] scope pos) (zE X E k items (mLcF fin (own.map (·.2)) (miK items) g mt me)) :=
  (pe_lc hc hN (pi_pz hk hvis hd hcd) ok hg ht he hs).imp fun τ H Q ⟨H0, F, μ, σ, S, z, J, hz, hp, hJ, W, hs, h⟩ => ⟨z, H0, J, hz, hp, lc_go (E := WE E τ) (fun a b c d e f => hfin a b c d e f) W hs hJ hv h⟩
theorem z_one (ha : PE X e (zE X E k items m)) (hs : starEach [e] X.env = (false, eval e X.env) :: starEach [] X.env := by rfl) : PA X [e] (zA X E k items (mCons m mNil)) :=
  (pa_cons ha pa_nil hs).imp fun τ H Q ⟨H0, F, μ, σ, S, z, J, hz, hp, hJ, W, hs, h⟩ => ⟨H0, F, μ, σ, S, z, J, hz, hp, hJ, W, hs, (Done.split W h).mono fun d S1 H1 F1 μ1 e1 W1 h1 v q => h1.here W1 _ (.cons q .nil)⟩
theorem z_callB {p : Pos} {id : String} {f : List D → Store → R D} (hc : CallR X (.builtin id) (rN X.K f)) (hg : Gl X x) (hm : X.mg x = none) (hv : bootBuiltins x = some (.builtin id)) (ha : PA X (e :: es) (zA X E k items mas)) (hn : x ≠ "__name__" := by decide) (hdb : (x == ("__debug__" : Str)) = false := by decide)
    (he : starEach (e :: es) X.env = (false, eval e X.env) :: starEach es X.env := by rfl) (hpl : (backTo pos (starEach es X.env)).any (·.1) = false := by rfl) : PE X (.Call (.Name x p) (e :: es) [] pos) (zE X E k items (mN f mas)) :=
  (pe_callB hc hg hm hv ha hn hdb he hpl).imp fun τ H Q ⟨H0, F, μ, σ, S, z, J, hz, hp, hJ, W, hs, h⟩ => ⟨H0, F, μ, σ, S, z, J, hz, hp, hJ, W, hs, (h.split W).mono fun xs S1 H1 F1 μ1 e1 W1 h1 vs q => ⟨_, F1, μ1, S1, xs, W1, q, h1⟩⟩
theorem z_callTy {p : Pos} {T : String} {f : List D → Store → R D} (hc : CallR X (.type T) (rN X.K f)) (hg : Gl X x) (hm : X.mg x = none) (hv : bootBuiltins x = some (.type T)) (ha : PA X (e :: es) (zA X E k items mas)) (hn : x ≠ "__name__" := by decide) (hdb : (x == ("__debug__" : Str)) = false := by decide)
    (he : starEach (e :: es) X.env = (false, eval e X.env) :: starEach es X.env := by rfl) (hpl : (backTo pos (starEach es X.env)).any (·.1) = false := by rfl) : PE X (.Call (.Name x p) (e :: es) [] pos) (zE X E k items (mN f mas)) :=
  (pe_callTy hc hg hm hv ha hn hdb he hpl).imp fun τ H Q ⟨H0, F, μ, σ, S, z, J, hz, hp, hJ, W, hs, h⟩ => ⟨H0, F, μ, σ, S, z, J, hz, hp, hJ, W, hs, (h.split W).mono fun xs S1 H1 F1 μ1 e1 W1 h1 vs q => ⟨_, F1, μ1, S1, xs, W1, q, h1⟩⟩
theorem z_not (ha : PE X a (zE X E k items ma)) : PE X (.UnaryOp .Not a pos) (zE X E k items (mNot ma)) :=
  (pe_not ha).imp fun τ H Q ⟨H0, F, μ, σ, S, z, J, hz, hp, hJ, W, hs, h⟩ => ⟨H0, F, μ, σ, S, z, J, hz, hp, hJ, W, hs, (h.split W).mono fun d S1 H1 F1 μ1 e1 W1 h1 v q => by
    cases q with
    | bl c => exact ⟨c, rfl, h1.here W1 _ (.bl _)⟩
    | _ => exact h1.elim⟩
theorem z_ret (he : PE X e (zE X E k items m)) : PS X (.Return (some e) pos) (zS X E k items (mRet m)) :=
  (ps_ret he).imp fun D τ H ⟨H0, F, μ, σ, S, z, J, hz, hp, hJ, W, hs, h⟩ => ⟨H0, F, μ, σ, S, z, J, hz, hp, hJ, W, hs, (h.split W hs).mono fun d S1 H1 F1 μ1 e1 W1 h1 v q => h1 H1 F1 μ1 v .refl W1 q⟩
theorem Pz.start {P : Program} {w : World} {K : PySem.W.Frag} {n : Nat} {H0 H : Hp} {z : Addr} {J : It} (h : Pz P w K n H0 H z J) : Pz P w K n H0 H z J := h
theorem _root_.MM.Sl.hide {K : PySem.W.Frag} {F : Hp} {μ : List Addr} {σ : Sg} {τ : L2.St} {v : V} (h : Sl K F μ σ τ) (k : Nat) : Sl K F μ (σ.set k none) (τ.set k (some v)) := by
  refine ⟨by simp [h.len], fun j e q => ?_⟩
  by_cases hj : k = j
  · subst hj
    by_cases hi : k < σ.length
    · rw [List.getElem?_set_self hi] at q; cases q
    · rw [List.getElem?_eq_none (by simpa using hi)] at q; cases q
  · rw [List.getElem?_set_ne hj] at q ⊢
    exact h.get j e q
theorem ss_zip {st : Stmt} {xp spos : Pos} {body : List D → MS} (hN : X.N.Nodup) (hg : Gl X "zip") (hm : X.mg "zip" = none) (ha : PA X [e, e2] (tA X.K E mas)) (hb : ∀ items, PS X st (zS X E k items (body items))) (hi : X.N[k]? = some x := by rfl)
    (hx : Loc X.env.scope x := by first | exact Or.inl rfl | exact Or.inr rfl) (hsw : swapsWith (.Call (.Name "zip" p) [e, e2] [] pos) (some (.Name x xp)) spos.line X.env = pure false := by rfl) (hf : X.fn x = true ∨ X.env.scope.names.lookup x = some .local := by first | exact .inl rfl | exact .inr rfl)
    (hs : starEach [e, e2] X.env = (false, eval e X.env) :: starEach [e2] X.env := by rfl) (hpl : (backTo pos (starEach [e2] X.env)).any (·.1) = false := by rfl) :
    PSs X [.Assign [.Name x xp] (.Call (.Name "zip" p) [e, e2] [] pos) spos, st] (tS X.K E (mZip k mas body)) := by
  refine ⟨fun pins s σ H D I h => ?_⟩
  refine (pss_cons (ps_set hN hi hx (pe_zip hg hm ha hs hpl) hsw hf) (pss_one (t := fun D σ H => ∃ items, zS X E k items (body items) D σ H) ⟨fun pins s σ H D I ⟨items, h⟩ => (hb items).run pins s σ H D I h⟩)).run pins s σ H D I ?_
  obtain ⟨F, μ, σ', S, W, hs, h⟩ := h
  refine ⟨F, μ, σ', S, W, hs, (h.split W hs).mono fun ds S1 H1 F1 μ1 e1 W1 h1 vs q => ?_⟩
  have hk : k < σ.length := by
    rw [I.len]
    exact (List.getElem?_eq_some_iff.mp hi).1
  obtain ⟨F2, S2, xs, a, b, us, ws, rfl, e2, W2, h2, hz⟩ := zip2_ok (E := WE E σ) W1 q (DoneS.split (D := D) W1 (hs.ext e1) h1)
  have fin : ∀ {J : It} {z : Addr} {H2 : Hp}, ItOk X.K F2 μ1 J xs → Pz X.prog X.w X.K X.s_0.heap.objs.size H1 H2 z J → zS X E k xs (body xs) D (σ.set k (some (.ref z))) H2 := fun {J z H2} hJ hp =>
    ⟨H1, F2, μ1, _, S2, z, J, by rw [List.getElem?_set_self hk], hp, hJ, W2, ((hs.ext e1).ext e2).hide k, h2⟩
  rcases hz with ⟨h3, h4, h5⟩ | ⟨h3, h4, h5⟩
  · exact ⟨a, b, us, ws, rfl, .inl ⟨sqL_mono W2.sub h3, sqL_mono W2.sub h4, fun z H2 hp => ⟨xs, fin h5 hp⟩⟩⟩
  · exact ⟨a, b, us, ws, rfl, .inr ⟨sqT_mono W2.sub h3, sqT_mono W2.sub h4, fun z H2 hp => ⟨xs, fin h5 hp⟩⟩⟩
end
end MM

set_option Elab.async false
set_option linter.all false
set_option maxRecDepth 100000
/-! Chains of comparisons; a, b, c = ..; repr; comparisons of data. -/
namespace MM
open PySem PySem.Spec PyProof.Rows L2

/-! ### chains -/
abbrev MC := D → ME
def tC1 (K : PySem.W.Frag) (E : WX) (m : MC) : V → TE := fun x τ H Q => ∃ F μ σ S d, Wd K H F μ S ∧ Sl K F μ σ τ ∧ Rep K F μ d x ∧ Done K (WE E τ) H F μ S (m d σ S) (fun d _ H' F' μ' => ∀ v, Rep K F' μ' d v → Q v H')
def mcL (f : D → D → Store → R D) (b : ME) : MC := fun x σ S => (b σ S).bind fun y S1 => f x y S1
def mcC (f : D → D → Store → R D) (b : ME) (r : MC) : MC := fun x σ S => (b σ S).bind fun y S1 => (f x y S1).bind fun t S2 => match t with
  | .bl true => r y σ S2
  | .bl false => .ok (.bl false) S2
  | _ => .no
def mCh (a : ME) (c : MC) : ME := fun σ S => (a σ S).bind fun x S1 => c x σ S1
structure PCh (X : Cx) (ops : List CmpOp) (es : List Expr) (t : V → TE) : Prop where
  val : ∀ (pos : Pos) (pins : List (Addr × Obj)) (s : Shared) (σ : L2.St) (H : Hp) (Q : VK) (x : V) (v : Value), Inv X pins σ H s → RelV x v → t x σ H Q → wpAny (model X.prog X.w) X.A (compareChain pos v ops (evalEach es X.env)) (EP X pins σ Q) X.xe s
  tst : ∀ (pos : Pos) (pins : List (Addr × Obj)) (s : Shared) (σ : L2.St) (H : Hp) (Q : Bool → Hp → Prop) (x : V) (v : Value), Inv X pins σ H s → RelV x v → t x σ H (fun y H' => ∃ k, y = .bl k ∧ Q k H') → wpAny (model X.prog X.w) X.A (testChain pos v ops (evalEach es X.env)) (TP X pins σ Q) X.xe s
section
variable {X : Cx} {E : WX} {a b b' : Expr} {es : List Expr} {op op' : CmpOp} {ops : List CmpOp} {ma mb : ME} {mr : MC} {f : D → D → Store → R D} {pos : Pos}
theorem sc_last (ho : OpR X (compareOp op) (r2 X.K f)) (hb : PE X b (tE X.K E mb)) : PCh X [op] [b] (tC1 X.K E (mcL f mb)) := by
  refine ⟨fun pos pins s σ H Q x v I rx h => ?_, fun pos pins s σ H Q x v I rx h => ?_⟩
  · obtain ⟨F, μ, σ', S, d, W, hs, rd, h⟩ := h
    refine chain_last (thn (hb.run pins s σ H (fun y H2 => r2 X.K f x y H2 Q) I ⟨F, μ, σ', S, W, hs, (Done.split W h).mono fun y S1 H1 F1 μ1 e1 W1 h1 u q => ⟨_, F1, μ1, S1, d, y, W1, rd.ext e1, q, h1⟩⟩) fun u s2 ⟨y, H2, I2, r2, q2⟩ => ho pins s2 σ H2 x y v u Q I2 rx r2 q2)
  · obtain ⟨F, μ, σ', S, d, W, hs, rd, h⟩ := h
    refine test_last (thn (hb.run pins s σ H (fun y H2 => r2 X.K f x y H2 fun z H' => ∃ k, z = .bl k ∧ Q k H') I ⟨F, μ, σ', S, W, hs, (Done.split W h).mono fun y S1 H1 F1 μ1 e1 W1 h1 u q => ⟨_, F1, μ1, S1, d, y, W1, rd.ext e1, q, h1⟩⟩) fun u s2 ⟨y, H2, I2, r2, q2⟩ => thn (ho pins s2 σ H2 x y v u _ I2 rx r2 q2) fun c s3 ⟨z, H3, I3, r3, k, e, q3⟩ => ?_)
    subst e
    cases r3
    exact wpAny_truthy_bool ⟨H3, I3, q3⟩
theorem chain_mid (h : R D) : True := trivial
theorem sc_link (ho : OpR X (compareOp op) (r2 X.K f)) (hb : PE X b (tE X.K E mb)) (hr : PCh X (op' :: ops) (b' :: es) (tC1 X.K E mr)) : PCh X (op :: op' :: ops) (b :: b' :: es) (tC1 X.K E (mcC f mb mr)) := by
  have mid : ∀ {x : V} {σ : L2.St} {H : Hp} {Q : VK}, tC1 X.K E (mcC f mb mr) x σ H Q → tE X.K E mb σ H fun y H2 => r2 X.K f x y H2 fun z H3 => ∃ k, z = .bl k ∧ (if k = true then tC1 X.K E mr y σ H3 Q else Q (.bl false) H3) := fun {x σ H Q} h => by
    obtain ⟨F, μ, σ', S, d, W, hs, rd, h⟩ := h
    refine ⟨F, μ, σ', S, W, hs, (Done.split W h).mono fun y S1 H1 F1 μ1 e1 W1 h1 u q => ⟨_, F1, μ1, S1, d, y, W1, rd.ext e1, q, (Done.split W1 h1).mono fun t S2 H2 F2 μ2 e2 W2 h2 c qc => ?_⟩⟩
    cases qc with
    | bl k =>
      cases k with
      | true => exact ⟨true, rfl, iteT ⟨F2, μ2, σ', S2, y, W2, (hs.ext e1).ext e2, q.ext e2, h2⟩⟩
      | false => exact ⟨false, rfl, iteF (h2.here W2 _ (.bl false))⟩
    | _ => exact h2.elim
  refine ⟨fun pos pins s σ H Q x v I rx h => ?_, fun pos pins s σ H Q x v I rx h => ?_⟩
  · refine chain_link (thn (hb.run pins s σ H _ I (mid h)) fun u s2 ⟨y, H2, I2, r2, q2⟩ => thn (ho pins s2 σ H2 x y v u _ I2 rx r2 q2) fun d s3 ⟨z, H3, I3, r3, k, e, q3⟩ => ?_)
    subst e
    cases r3
    refine wpAny_truthy_bool ?_
    cases k with
    | false => exact ite_ff ⟨.bl false, H3, I3, rfl, q3⟩
    | true => exact ite_tt (hr.val pos pins s3 σ H3 Q y u I3 r2 q3)
  · refine test_link (thn (hb.run pins s σ H _ I (mid h)) fun u s2 ⟨y, H2, I2, r2, q2⟩ => thn (ho pins s2 σ H2 x y v u _ I2 rx r2 q2) fun d s3 ⟨z, H3, I3, r3, k, e, q3⟩ => ?_)
    subst e
    cases r3
    refine wpAny_truthy_bool ?_
    cases k with
    | false =>
      obtain ⟨k', e', q'⟩ := q3
      cases e'
      exact ite_ff ⟨H3, I3, q'⟩
    | true => exact ite_tt (hr.tst pos pins s3 σ H3 Q y u I3 r2 q3)
theorem tCh {K : PySem.W.Frag} {τ H Q} (h : tE K E (mCh ma mr) τ H Q) : tE K E ma τ H fun x H1 => tC1 K E mr x τ H1 Q := by
  obtain ⟨F, μ, σ, S, W, hs, h⟩ := h
  exact ⟨F, μ, σ, S, W, hs, (Done.split W h).mono fun x S1 H1 F1 μ1 e1 W1 h1 v q => ⟨F1, μ1, σ, S1, x, W1, hs.ext e1, q, h1⟩⟩
theorem se_chain (ha : PE X a (tE X.K E ma)) (hc : PCh X (op :: op' :: ops) (b :: b' :: es) (tC1 X.K E mr)) (hm : lastMarks (op :: op' :: ops) (b :: b' :: es) = false := by with_unfolding_all rfl) :
    PE X (.Compare a (op :: op' :: ops) (b :: b' :: es) pos) (tE X.K E (mCh ma mr)) := by
  refine ⟨fun pins s σ H Q I h => ?_⟩
  exact Compare_chain (thn (ha.run pins s σ H _ I (tCh h)) fun v s1 ⟨x, H1, I1, r1, q1⟩ => hc.val pos pins s1 σ H1 Q x v I1 r1 q1) hm
theorem st_chain (ha : PE X a (tE X.K E ma)) (hc : PCh X (op :: op' :: ops) (b :: b' :: es) (tC1 X.K E mr)) (hm : lastMarks (op :: op' :: ops) (b :: b' :: es) = false := by with_unfolding_all rfl) :
    PT X (.Compare a (op :: op' :: ops) (b :: b' :: es) pos) (tT X.K E (mBool (mCh ma mr))) := by
  refine ⟨fun pins s σ H Q I h => ?_⟩
  exact isTrue_chain (thn (ha.run pins s σ H _ I (tCh (E := E) (tB_of h))) fun v s1 ⟨x, H1, I1, r1, q1⟩ => hc.tst pos pins s1 σ H1 Q x v I1 r1 q1) hm
end

/-! ### a, b, c = x, y, z -/
section
variable {X : Cx} {E : WX} {a b c : Expr} {pos : Pos}
theorem s_par3 {x y z : Str} {px py pz pt : Pos} {kt k2 pt2} {mas : MA} (i j l : Nat) (hc : X.calm = true) (hN : X.N.Nodup) (ha : PA X [a, b, c] (tA X.K E mas)) (hij : i ≠ j := by decide) (hil : i ≠ l := by decide) (hjl : j ≠ l := by decide) (hi : X.N[i]? = some x := by rfl) (hj : X.N[j]? = some y := by rfl) (hl : X.N[l]? = some z := by rfl)
    (hx : X.env.scope.names.lookup x = some .local := by rfl) (hy : X.env.scope.names.lookup y = some .local := by rfl) (hz : X.env.scope.names.lookup z = some .local := by rfl)
    (hw : swappedStores [.Tuple [.Name x px, .Name y py, .Name z pz] kt pt] (.Tuple [a, b, c] k2 pt2) X.env = pure (some [x, y, z]) := by rfl)
    (hs : swapsWithSole [.Tuple [.Name x px, .Name y py, .Name z pz] kt pt] (.Tuple [a, b, c] k2 pt2) pos.line X.env = pure false := by rfl) :
    PS X (.Assign [.Tuple [.Name x px, .Name y py, .Name z pz] kt pt] (.Tuple [a, b, c] k2 pt2) pos) (tS X.K E (mPar3 i j l mas)) :=
  (ps_par3 hc hN hi hj hl hij hil hjl hx hy hz ha hw hs).imp fun D τ H ⟨F, μ, σ, S, W, hs, h⟩ => ⟨F, μ, σ, S, W, hs, (h.split W hs).mono fun ds S1 H1 F1 μ1 e1 W1 h1 vs q => by
    cases q with
    | nil => exact h1.elim
    | cons r1 q =>
      cases q with
      | nil => exact h1.elim
      | cons r2 q =>
        cases q with
        | nil => exact h1.elim
        | cons r3 q =>
          cases q with
          | nil => exact ⟨_, _, _, rfl, DoneS.here W1 ((((hs.ext e1).set r1).set r2).set r3) h1⟩
          | cons => exact h1.elim⟩
end

/-! ### repr -/
mutual
theorem pd_noDict : ∀ d : D, d.pd.hasDict = false
  | .non => rfl
  | .bl _ => rfl
  | .int _ => rfl
  | .str _ => rfl
  | .tup xs => by simpa [D.pd, PyData.hasDict] using pdAll_noDict xs
  | .lst xs => by simpa [D.pd, PyData.hasDict] using pdAll_noDict xs
  | .scr xs => by simpa [D.pd, PyData.hasDict] using pdAll_noDict xs
  | .ref _ => rfl
  | .dct _ _ => rfl
  | .obj _ _ _ => rfl
theorem pdAll_noDict : ∀ ds : List D, PyData.hasDictAll (pdAll ds) = false
  | [] => rfl
  | d :: ds => by simp only [pdAll, PyData.hasDictAll, pd_noDict d, pdAll_noDict ds, Bool.or_self]
end
def isSeq : D → Bool
  | .tup _ => true
  | .lst _ => true
  | .scr _ => true
  | _ => false
def dRepr := on1 fun d S => match rd S d with
  | some e => MM.need (isSeq e && e.shal 40 && e.pd.showable && lim e.pd.shown.length) (.ok (.str e.pd.shown) S)
  | none => .no
section
variable {X : Cx}
theorem rep_seq {K : PySem.W.Frag} {H F : Hp} {μ : List Addr} {S : Store} {d e : D} {v : V} (r : Rep K F μ d v) (h : rd S d = some e) (hs : isSeq e = true) : ∃ a, v = .ref a := by
  cases r with
  | non => cases h; cases hs
  | bl => cases h; cases hs
  | int => cases h; cases hs
  | str => cases h; cases hs
  | _ => exact ⟨_, rfl⟩
theorem cd_repr (hu : X.A.units + 64 < cLine) (hgd : X.A.guards = some []) : CallR X (.builtin "repr") (rN X.K dRepr) := by
  intro pins s σ H zs us Q I r h
  replace h := on1_ok h
  obtain ⟨E, x, F, μ, S, d, rfl, W, rq, h⟩ := h
  cases hd : rd S d with
  | none => rw [hd] at h; exact h.elim
  | some e =>
    rw [hd] at h
    obtain ⟨hb, h⟩ := Done.need h
    simp only [Bool.and_eq_true] at hb
    obtain ⟨⟨⟨b1, b2⟩, b3⟩, b4⟩ := hb
    obtain ⟨a, rfl⟩ := rep_seq (H := H) rq hd b1
    obtain ⟨u, rfl, rx⟩ := vals1 r
    cases rx
    obtain ⟨p1, c1, l1⟩ := shal_ok b2
    obtain ⟨as, rr⟩ := Dp.reads I _ _ _ (rd_dp W rq hd p1) (show RelV (.ref a) (.ref a) from rfl)
    refine repr_of_reads' rr b3 (fun z => by rw [pd_noDict] at z; cases z) hgd (by omega) (fun _ _ e => e) (fun h' u tk hk => ?_) (lim_le b4)
    exact ⟨.str _, H, I.kept hk, ⟨u, rfl⟩, h.here W _ (.str _)⟩
end

/-! ### < of data -/
def notN : D → Bool
  | .non => false
  | _ => true
def cmpD (f : D → D → Bool) (x y : D) (S : Store) : R D := match rd S x, rd S y with
  | some d, some e => MM.need (d.shal 40 && e.shal 40 && PySem.W.alike d.pd e.pd && notN d) (.ok (.bl (f d e)) S)
  | _, _ => .no
def ltD (x y : D) : Bool := PySem.W.dataLt x.pd y.pd
def dLtD := cmpD ltD
def dGtD := cmpD fun x y => ltD y x
def dLeD := cmpD fun x y => !ltD y x
def dGeD := cmpD fun x y => !ltD x y
section
variable {X : Cx}
theorem notN_ok {d : D} (h : notN d = true) (p : d.dat = true) : d.pd ≠ .none := by
  cases d with
  | non => cases h
  | ref => simp [D.dat] at p
  | dct => simp [D.dat] at p
  | obj => simp [D.dat] at p
  | _ => simp [D.pd]
theorem cmpD_ok {f : D → D → Bool} {op : CmpOp} (hu : X.A.units + 64 < cLine) (hop : ∀ {s : Shared} {Q : Value → Shared → Prop} {Ex : Value → Shared → Prop} {a b : Value} {d e : D} {as bs : List Addr}, Reads s.heap a d.pd as → Reads s.heap b e.pd bs → PySem.W.alike d.pd e.pd = true → d.pd ≠ .none → X.A.units + min d.pd.depth e.pd.depth < cLine → Q (.bool (f d e)) s → wpAny (model X.prog X.w) X.A (compareOp op a b) Q Ex s) :
    OpR X (compareOp op) (r2 X.K (cmpD f)) := by
  intro pins s σ H x y v u Q I rx ry h
  obtain ⟨E, F, μ, S, d, e, W, r1, r2, h⟩ := h
  unfold cmpD at h
  cases h1 : rd S d with
  | none => rw [h1] at h; exact h.elim
  | some d' =>
    cases h2 : rd S e with
    | none => rw [h1, h2] at h; exact h.elim
    | some e' =>
      rw [h1, h2] at h
      obtain ⟨hb, h⟩ := Done.need h
      simp only [Bool.and_eq_true] at hb
      obtain ⟨⟨⟨b1, b2⟩, b3⟩, b4⟩ := hb
      obtain ⟨p1, c1, l1⟩ := shal_ok b1
      obtain ⟨p2, c2, l2⟩ := shal_ok b2
      obtain ⟨as, q1⟩ := Dp.reads I _ _ _ (rd_dp W r1 h1 p1) rx
      obtain ⟨bs, q2⟩ := Dp.reads I _ _ _ (rd_dp W r2 h2 p2) ry
      exact hop q1 q2 b3 (notN_ok b4 p1) (by omega) ⟨.bl _, H, I, rfl, h.here W _ (.bl _)⟩
theorem od_ltD (hu : X.A.units + 64 < cLine) : OpR X (compareOp .Lt) (r2 X.K dLtD) := cmpD_ok hu fun a b c d e f => PySem.W.lt_data a b c d e f
theorem od_gtD (hu : X.A.units + 64 < cLine) : OpR X (compareOp .Gt) (r2 X.K dGtD) := cmpD_ok hu fun a b c d e f => PySem.W.gt_data a b c d e f
theorem od_leD (hu : X.A.units + 64 < cLine) : OpR X (compareOp .LtE) (r2 X.K dLeD) := cmpD_ok hu fun a b c d e f => PySem.W.le_data a b c d e f
theorem od_geD (hu : X.A.units + 64 < cLine) : OpR X (compareOp .GtE) (r2 X.K dGeD) := cmpD_ok hu fun a b c d e f => PySem.W.ge_data a b c d e f
end
end MM

set_option Elab.async false
set_option linter.all false
set_option maxRecDepth 100000
/-! The end: a law by its mirror. -/
namespace MM
open PySem PySem.Spec PyProof.Rows L2

theorem law_callM {P : Program} {w : World} {K : PySem.W.Frag} {mg mb : Str → Option Value} {k : Nat} {fa a : Addr} {fd : FuncData} {x : Str} {mf : List D → Store → R D} {s₁ : Shared} {vs : List Value} {ns : List Int}
    (KX : K.In s₁.heap) (hns : s₁.heap.Ns mainGlobals mg) (hb : s₁.heap.Ns builtinsNs mb) (hbb : ∀ x : Str, x ≠ "__name__" → mb x = bootBuiltins x) (hlim : s₁.heap.NoLimit) (hg : s₁.gens = #[])
    (ha : s₁.heap.get? a = some { cls := .type "list", data := .seq vs.toArray }) (hi : IntsAre vs ns) (hl : ns.length ≤ sizeLine) (hr : Room k callerA)
    (F : ∀ base : Heap, K.In base → base.Ns mainGlobals mg → FnM P w K mg base k fa fd [x] mf) (hbind : ∀ (s : Shared) (u : Value), BindsTo s fd ⟨[u], []⟩ [(x, u)])
    (hsp : ∀ H : Hp, Only H → SqL K H a (ns.map V.int) → spM K mf [.ref a] H (fun v _ => v = .bl true) fun _ _ _ => False) :
    codeAny (model P w) callerA (.call (.ref fa) ⟨[.ref a], []⟩) (fun r s' => r = .ok (.ret (.bool true)) ∧ OldK s₁.heap s'.heap ∧ s'.os = s₁.os ∧ AllBare s'.gens) s₁ := by
  have rv := vals_ints hi
  have lenV := hi.length
  -- from an abstract heap in which nothing but the script may be tracked
  have core : ∀ H : Hp, Only H → SqL K H a (ns.map V.int) → HOk P w H s₁.heap → (∀ b, H b ≠ none → b = a) → (H a ≠ none → K.lookup a = none) →
      codeAny (model P w) callerA (.call (.ref fa) ⟨[.ref a], []⟩) (fun r s' => r = .ok (.ret (.bool true)) ∧ OldK s₁.heap s'.heap ∧ s'.os = s₁.os ∧ AllBare s'.gens) s₁ := by
    intro H hO hS hok hA hK
    have base_of : ∀ {b : Addr} {o : Obj}, s₁.heap.get? b = some o → H b = none → (hidT s₁.heap H).get? b = some o := fun e n => hidT_get e n
    have noA : ∀ {b : Addr} {o : Obj} {es : Array DictEntry} {ep : Nat}, s₁.heap.get? b = some o → o.data = .dict es ep → H b = none := fun {b o es ep} e d => by
      cases q : H b with
      | none => rfl
      | some u =>
        have e' : b = a := hA b (by rw [q]; simp)
        subst e'
        rw [ha] at e; cases e
        have d' : Data.seq vs.toArray _ = Data.dict es ep := d
        cases d'
    have nsK : ∀ {b : Addr} {m : Str → Option Value}, s₁.heap.Ns b m → (hidT s₁.heap H).Ns b m := fun {b m} ⟨o, es, ep, e, d, r⟩ => ⟨o, es, ep, base_of e (noA e d), d, r⟩
    have hKb : K.In (hidT s₁.heap H) := fun b o e => base_of (KX b o e) (by
      cases q : H b with
      | none => rfl
      | some u =>
        have e' : b = a := hA b (by rw [q]; simp)
        subst e'
        rw [hK (by rw [q]; simp)] at e; cases e)
    have hM : Mod K mg (hidT s₁.heap H) := ⟨hKb, nsK hns, ⟨mb, nsK hb, hbb⟩, let ⟨mc, h1, h2⟩ := hlim; ⟨mc, nsK h1, h2⟩⟩
    have e0 : Env0 P w K mg (hidT s₁.heap H) callerA [] s₁ H := ⟨rfl, hM, fun b o e => of_hidT e, Nat.le_of_eq (hidT_size _ _), trivial, fun b hb => absurd (show b ∈ ([] : List Addr) from hb) (by simp), hok, .of_eq hg⟩
    refine codeAny_mono ((F _ hKb (nsK hns)).run callerA [] s₁ H ⟨[.ref a], []⟩ [.ref a] [.ref a] _ _ hr rfl e0 (hbind s₁ (.ref a)) (.cons rfl .nil) (hsp H hO hS)) fun r s' h => ?_
    cases r with
    | error e =>
      obtain ⟨_, _, _, _, _, _, _, _, _, _, _, _, hf⟩ := h
      exact hf.elim
    | ok fl =>
      cases fl with
      | next => exact False.elim h
      | brk => exact False.elim h
      | cont => exact False.elim h
      | ret u =>
        obtain ⟨v, H', os, bare, un, hok', r', q⟩ := h
        have q' : v = .bl true := q
        subst q'
        obtain rfl : u = Value.bool true := r'
        refine ⟨rfl, OldK.of_keep fun b o e => ?_, os, bare⟩
        cases q : H b with
        | none => exact un.keep b o e q (by intro z; exact absurd (show b ∈ ([] : List Addr) from z) (by simp)) (by simp)
        | some u =>
          rcases hO b with z | ⟨ob, xs, z⟩
          · rw [q] at z; cases z
          · have z2 := un.frzs b ob _ z
            obtain ⟨e1, _⟩ := hok b _ z
            obtain ⟨e2, _⟩ := hok' b _ z2
            rw [e] at e1; cases e1
            exact e2
  cases hk : K.lookup a with
  | some o =>
    -- the script is one of the module's own objects
    have e := KX a o hk
    rw [ha] at e
    cases e
    refine core (fun _ => none) (fun _ => .inl rfl) (.inr ⟨_, vs.toArray, _, hk, rfl, rfl, rfl, by rw [List.size_toArray, lenV]; exact hl, by simpa using rv⟩) (fun b u z => by have z' : (none : Option HO) = some u := z; cases z') (fun b z => absurd rfl z) fun z => absurd rfl z
  | none =>
    refine core (fun b => if b = a then some (.frz { cls := .type "list", data := .seq vs.toArray } (.lst (ns.map V.int))) else none) (fun b => ?_) (.inl (.inr ⟨{ cls := .type "list", data := .seq vs.toArray }, if_pos rfl⟩)) (fun b u z => ?_) (fun b z => ?_) fun _ => hk
    · by_cases hb : b = a
      · exact .inr ⟨_, _, if_pos hb⟩
      · exact .inl (if_neg hb)
    · by_cases hb : b = a
      · have z' := (if_pos hb).symm.trans z
        cases z'
        subst hb
        exact ⟨ha, by rw [List.length_map]; exact hl, vs, _, rv, ha⟩
      · have z' := (if_neg hb).symm.trans z
        cases z'
    · by_cases hb : b = a
      · exact hb
      · exact absurd (if_neg hb) z

theorem walkM {l : PySem.W.OpenLaw} {n k : Nat} {q : Program} {loose : List Str} {XP : (Str → Option Value) → Heap → Prop} {YP : World → Heap → Prop} {d : DefRec} {K : Params → PySem.W.Frag} {mf : List D → Store → R D} {x : Str}
    (hn : l.most = some n) (hn2 : n ≤ sizeLine) (hdf : d.params.defaults = []) (hr : Room k callerA)
    (hY : ∀ (w : World) (h : Heap), YP w h → (K w.params).In h)
    (F : ∀ (w : World) (mg : Str → Option Value) (fa : Addr) (h : Heap), (K w.params).In h → h.Ns mainGlobals mg → mg d.name = some (.ref fa) →
      ∃ fd : FuncData, (∀ (s : Shared) (u : Value), BindsTo s fd ⟨[u], []⟩ [(x, u)]) ∧
        ∀ base : Heap, (K w.params).In base → base.Ns mainGlobals mg → FnM l.prog w (K w.params) mg base k fa fd [x] mf)
    (hsp : ∀ ns : List Int, ns.length ≤ n → ∃ S, mf [.scr (ns.map D.int)] [] = .ok (.bl true) S) :
    PySem.W.WalkO q loose XP YP l.row.toRowW d [] (fun f vs => PySem.call f vs) := by
  refine Att.attach_call hn hdf fun w s₀ s₁ mg mb fa o pm cd doc a vs ns G Y ho hd hcd hmg hobj hints hlen hg => ?_
  have KX := hY w _ Y
  obtain ⟨fd, hb, hF⟩ := F w mg fa _ KX G.T.g hmg
  refine law_callM KX G.T.g G.T.b G.T.builtins G.T.nolimit hg hobj hints (Nat.le_trans hlen hn2) hr hF hb fun H hO hS => ?_
  obtain ⟨S, hS'⟩ := hsp ns hlen
  refine ⟨H, [], [], [.scr (ns.map D.int)], ⟨fun _ _ h => h, rfl, List.nodup_nil, fun a ⟨l, c, h, _⟩ => by simp at h, fun l c a h _ => by simp at h⟩, .cons (.scr hS (reps_ints ns)) .nil, ?_⟩
  rw [hS']
  intro H' F' μ' e w v r
  cases r
  rfl
end MM

set_option Elab.async false
set_option linter.all false
set_option maxRecDepth 100000
/-! What the printed texts lean on. -/
namespace MM
open PySem PySem.Spec PyProof.Rows L2

/-- nothing is let out -/
theorem pW0 {X : Cx} : ∀ σ, PassesAt (L2.CX X.prog X.w) X σ (WE W0 σ) := fun σ pins H s e s' I h => by
  obtain ⟨_, _, _, _, _, _, _, _, _, _, _, _, hf⟩ := h
  exact hf.elim
/-- what is never reached -/
def mNo : MS := fun _ _ => .no
theorem s_never {X : Cx} {E : WX} {st : Stmt} : PS X st (tS X.K E mNo) := ⟨fun pins s σ H D I h => by
  obtain ⟨F, μ, σ', S, W, hs, h⟩ := h
  exact h.elim⟩
theorem ss_never {X : Cx} {E : WX} {st : List Stmt} : PSs X st (tS X.K E mNo) := ⟨fun pins s σ H D I h => by
  obtain ⟨F, μ, σ', S, W, hs, h⟩ := h
  exact h.elim⟩
/-- a written value of the module -/
theorem se_gl {X : Cx} {E : WX} {x : Str} {pos : Pos} {d : D} {v : V} (h : ∃ u, X.mg x = some u ∧ RelV v u) (hr : ∀ F μ, Rep X.K F μ d v) (hg : Gl X x := by rfl) (hd : (x == ("__debug__" : Str)) = false := by decide) : PE X (.Name x pos) (tE X.K E (mK d)) := by
  obtain ⟨u, h1, h2⟩ := h
  exact se_k (pe_glob hg h1 h2 hd) hr
theorem se_gi {X : Cx} {E : WX} {x : Str} {pos : Pos} {i : Int} (h : ∃ t, X.mg x = some (.int i t)) (hg : Gl X x := by rfl) (hd : (x == ("__debug__" : Str)) = false := by decide) : PE X (.Name x pos) (tE X.K E (mK (.int i))) := by
  obtain ⟨t, h1⟩ := h
  exact se_gl (v := .int i) ⟨_, h1, (show RelV (.int i) (.int i t) from ⟨t, rfl⟩)⟩ (fun _ _ => .int i) hg hd
/-! ### keywords -/
def pick {α : Type} (idx : List Nat) (l : List α) : List α := idx.filterMap fun i => l[i]?
theorem vals_get {vs : List V} {us : List Value} (h : Vals vs us) : ∀ i : Nat, (vs[i]? = none ∧ us[i]? = none) ∨ ∃ v u, vs[i]? = some v ∧ us[i]? = some u ∧ RelV v u := by
  induction h with
  | nil => exact fun i => .inl ⟨by simp, by simp⟩
  | cons r t ih =>
    intro i
    cases i with
    | zero => exact .inr ⟨_, _, rfl, rfl, r⟩
    | succ i => simpa using ih i
theorem vals_pick {vs : List V} {us : List Value} (h : Vals vs us) : ∀ idx : List Nat, Vals (pick idx vs) (pick idx us)
  | [] => .nil
  | i :: idx => by
    unfold pick
    rcases vals_get h i with ⟨h1, h2⟩ | ⟨v, u, h1, h2, r⟩
    · rw [List.filterMap_cons_none h1, List.filterMap_cons_none h2]
      exact vals_pick h idx
    · rw [List.filterMap_cons_some h1, List.filterMap_cons_some h2]
      exact .cons r (vals_pick h idx)
theorem reps_pick {K : PySem.W.Frag} {F : Hp} {μ : List Addr} {ds : List D} {vs : List V} (h : Reps K F μ ds vs) : ∀ idx : List Nat, Reps K F μ (pick idx ds) (pick idx vs)
  | [] => .nil
  | i :: idx => by
    unfold pick
    cases q : ds[i]? with
    | none =>
      have q2 : vs[i]? = none := by
        rw [List.getElem?_eq_none_iff] at q ⊢
        rw [← h.length]; exact q
      rw [List.filterMap_cons_none q, List.filterMap_cons_none q2]
      exact reps_pick h idx
    | some d =>
      obtain ⟨v, h1, h2⟩ := h.get q
      rw [List.filterMap_cons_some q, List.filterMap_cons_some h1]
      exact .cons h2 (reps_pick h idx)
theorem vals_append {vs ws : List V} {us zs : List Value} (h : Vals vs us) (h' : Vals ws zs) : Vals (vs ++ ws) (us ++ zs) := by
  induction h with
  | nil => exact h'
  | cons r t ih => exact .cons r ih
def pk {α : Type} (idx : List Nat) (a b : List α) : List α := pick idx (a ++ b)
theorem kb_of {K : PySem.W.Frag} {x qual : Str} {st : Stmt} {f : Addr} {fd : FuncData} {ps : List Str} (n : Nat) (ks : List Str) (idx : List Nat) (F : Fun K x qual st f fd)
    (h : ∀ (kV doc pm : Value) (an : Option Addr) (cdv ct : Value) (us ws : List Value), us.length = n → ws.length = ks.length → bindArgs (PySem.W.fnOf x qual (defArgs st) (defBody st) (defScope st) .none kV doc pm an cdv ct) ⟨us, ks.zip ws⟩ = pure (ps.zip (pk idx us ws))) :
    KB K fd ps n ks (pk idx) (pk idx) (pk idx) := by
  obtain ⟨oc, od, kV, doc, pm, an, cdv, ct, osl, rfl, lk, hcd⟩ := F.ex
  exact ⟨fun s us ws _ h1 h2 => .of_eq (h kV doc pm an cdv ct us ws h1 h2), fun r1 r2 => vals_pick (vals_append r1 r2) idx, fun r1 r2 => reps_pick (r1.append r2) idx⟩
/-- a def as its callers see it -/
structure Cal (P : Program) (w : World) (K : PySem.W.Frag) (mg : Str → Option Value) (base : Heap) (k : Nat) (x : Str) (st : Stmt) (ps : List Str) (f : Addr) (fd : FuncData) (mf : List D → Store → R D) : Prop where
  F : Fun K x x st f fd
  ok : FnM P w K mg base k f fd ps mf
  mg : mg x = some (.ref f)
  b : Binds K fd ps []
theorem FnM.none {P : Program} {w : World} {K : PySem.W.Frag} {mg : Str → Option Value} {base : Heap} {k : Nat} {f : Addr} {fd : FuncData} {ps : List Str} : FnM P w K mg base k f fd ps (fun _ _ => .no) := ⟨fun _ _ _ => rfl, fun A outer s H args us vs Q E _ _ _ _ _ h => by
  obtain ⟨F, μ, S, ds, W, r, h⟩ := h
  exact h.elim⟩
section
variable {P : Program} {w : World} {K : PySem.W.Frag} {mg : Str → Option Value} {base : Heap} {X : Cx} {E : WX} {k : Nat} {x : Str} {st : Stmt} {ps ks : List Str} {f : Addr} {fd : FuncData} {mf : List D → Store → R D} {e : Expr} {es : List Expr} {mas mks : MA} {kws : List Keyword} {p pos : Pos} {idx : List Nat}
theorem c_call (C : Cal X.prog X.w X.K X.mg X.base k x st ps f fd mf) (hr : Room k X.A) (hgd : X.A.guards = some []) (hx : ∀ σ, PassesAt (L2.CX X.prog X.w) X σ (WE E σ)) (ha : PA X (e :: es) (tA X.K E mas)) (hg : Gl X x := by rfl) (hdb : (x == ("__debug__" : Str)) = false := by decide) (he : starEach (e :: es) X.env = (false, eval e X.env) :: starEach es X.env := by rfl) (hpl : (backTo pos (starEach es X.env)).any (·.1) = false := by rfl) :
    PE X (.Call (.Name x p) (e :: es) [] pos) (tE X.K E (mN mf mas)) := se_call C.ok hr hgd C.mg C.F.kp C.b hx ha hg hdb he hpl
theorem c_call0 (C : Cal X.prog X.w X.K X.mg X.base k x st ps f fd mf) (hr : Room k X.A) (hgd : X.A.guards = some []) (hx : ∀ σ, PassesAt (L2.CX X.prog X.w) X σ (WE E σ)) (hg : Gl X x := by rfl) (hdb : (x == ("__debug__" : Str)) = false := by decide) :
    PE X (.Call (.Name x p) [] [] pos) (tE X.K E (mN mf mNil)) := se_call0 C.ok hr hgd C.mg C.F.kp C.b hx hg hdb
theorem c_callK (n : Nat) (C : Cal X.prog X.w X.K X.mg X.base k x st ps f fd mf) (hb : KB X.K fd ps n ks (pk idx) (pk idx) (pk idx)) (hr : Room k X.A) (hgd : X.A.guards = some []) (hx : ∀ σ, PassesAt (L2.CX X.prog X.w) X σ (WE E σ)) (ha : PA X (e :: es) (tA X.K E mas)) (hkw : PK X kws (tA X.K E mks)) (hall : (backToKw pos (keywordEach kws X.env)).all (·.1.isSome) = true := by rfl) (hks : (backToKw pos (keywordEach kws X.env)).filterMap (·.1) = ks := by rfl)
    (hg : Gl X x := by rfl) (hdb : (x == ("__debug__" : Str)) = false := by decide) (he : starEach (e :: es) X.env = (false, eval e X.env) :: starEach es X.env := by rfl)
    (hpl : ((backTo pos (starEach (e :: es) X.env)).any (·.1) || (backToKw pos (keywordEach kws X.env)).any (·.1.isNone)) = false := by rfl) :
    PE X (.Call (.Name x p) (e :: es) kws pos) (tE X.K E (mNK n ks.length mf (pk idx) mas mks)) := se_callK C.ok hr hgd C.mg C.F.kp hb hx ha hkw hall hks hg hdb he hpl
theorem c_callK0 (C : Cal X.prog X.w X.K X.mg X.base k x st ps f fd mf) (hb : KB X.K fd ps 0 ks (pk idx) (pk idx) (pk idx)) (hr : Room k X.A) (hgd : X.A.guards = some []) (hx : ∀ σ, PassesAt (L2.CX X.prog X.w) X σ (WE E σ)) (hkw : PK X kws (tA X.K E mks)) (hall : (backToKw pos (keywordEach kws X.env)).all (·.1.isSome) = true := by rfl) (hks : (backToKw pos (keywordEach kws X.env)).filterMap (·.1) = ks := by rfl)
    (hg : Gl X x := by rfl) (hdb : (x == ("__debug__" : Str)) = false := by decide)
    (hpl : ((backTo pos (starEach [] X.env)).any (·.1) || (backToKw pos (keywordEach kws X.env)).any (·.1.isNone)) = false := by rfl) :
    PE X (.Call (.Name x p) [] kws pos) (tE X.K E (mNK 0 ks.length mf (pk idx) mNil mks)) := se_callK0 C.ok hr hgd C.mg C.F.kp hb hx hkw hall hks hg hdb hpl
theorem hu64 {k : Nat} {A : Around} (hr : Room k A) : A.units + 64 < cLine := by have := hr.un; omega
end
end MM

set_option Elab.async false
set_option linter.all false
set_option maxRecDepth 100000
/-! Tools for laws over mirrors; the deck. -/
namespace MM
open PySem PySem.Spec PyProof.Rows L2

theorem pureF_any {f : List D → Store → R D} {ds : List D} {d : D} {S S0 : Store} (h : pureF f ds [] = .ok d S0) : pureF f ds S = .ok d S := by
  unfold pureF at h ⊢
  split at h
  · rename_i hp
    rw [if_pos hp]
    cases q : f ds [] with
    | ok e S1 =>
      rw [q] at h
      dsimp only at h ⊢
      cases z : e.out S1 with
      | none => rw [z] at h; cases h
      | some e' => rw [z] at h; cases h; rfl
    | ex e S1 => rw [q] at h; cases h
    | no => rw [q] at h; cases h
  · cases h
/-- lists of nums -/
abbrev nums (ns : List Int) : List D := ns.map D.int
theorem pure_nums : ∀ ns : List Int, pureAll (nums ns) = true
  | [] => rfl
  | n :: ns => pure_nums ns
theorem shal_nums (k : Nat) : ∀ ns : List Int, shalAll k (nums ns) = true
  | [] => by cases k <;> rfl
  | n :: ns => by
    show ((D.int n).shal k && shalAll k (nums ns)) = true
    rw [shal_nums k ns]
    cases k <;> rfl
theorem eqAll_nums : ∀ xs ys : List Int, eqAll (nums xs) (nums ys) = decide (xs = ys)
  | [], [] => rfl
  | [], _ :: _ => rfl
  | _ :: _, [] => rfl
  | x :: xs, y :: ys => by
    show ((x == y) && eqAll (nums xs) (nums ys)) = _
    rw [eqAll_nums xs ys]
    by_cases h : x = y
    · subst h; simp
    · simp [h]
theorem out_pureD {S : Store} : ∀ {d : D}, d.pure = true → d.out S = some d := by
  have main : ∀ n, ∀ d : D, sizeOf d ≤ n → d.pure = true → d.out S = some d := by
    intro n
    induction n with
    | zero => intro d h; cases d <;> simp at h
    | succ n ih =>
      have all : ∀ xs : List D, sizeOf xs ≤ n → pureAll xs = true → outAll S xs = some xs := by
        intro xs
        induction xs with
        | nil => intro _ _; rfl
        | cons x xs ihx =>
          intro hs hp
          rw [pureAll, Bool.and_eq_true] at hp
          simp at hs
          simp only [outAll, ih x (by omega) hp.1, ihx (by omega) hp.2]
      intro d h hp
      cases d with
      | ref l => simp [D.pure] at hp
      | tup xs => simp [D.pure] at hp; simp at h; simp [D.out, all xs (by omega) hp]
      | lst xs => simp [D.pure] at hp; simp at h; simp [D.out, all xs (by omega) hp]
      | scr xs => simp [D.pure] at hp; simp [D.out, hp]
      | dct ks xs => simp [D.pure] at hp; simp [D.out, hp]
      | obj c fs xs => simp [D.pure] at hp; simp [D.out, hp]
      | _ => rfl
  exact fun {d} h => main (sizeOf d) d (Nat.le_refl _) h
theorem outAll_pureD {S : Store} : ∀ {ds : List D}, pureAll ds = true → outAll S ds = some ds
  | [], _ => rfl
  | d :: ds, h => by
    rw [pureAll, Bool.and_eq_true] at h
    simp only [outAll, out_pureD h.1, outAll_pureD h.2]

theorem mSeq_nx {a b : MS} {σ σ' : Sg} {S S' : Store} (h : a σ S = .nx σ' S') : mSeq a b σ S = b σ' S' := by unfold mSeq; rw [h]; rfl
theorem mSeq_rt {a b : MS} {σ : Sg} {S S' : Store} {d : D} (h : a σ S = .rt d S') : mSeq a b σ S = .rt d S' := by unfold mSeq; rw [h]; rfl
theorem mIf_t {c : MT} {a b : MS} {σ : Sg} {S S' : Store} (h : c σ S = .ok true S') : mIf c a b σ S = a σ S' := by unfold mIf; rw [h]; rfl
theorem mIf_f {c : MT} {a b : MS} {σ : Sg} {S S' : Store} (h : c σ S = .ok false S') : mIf c a b σ S = b σ S' := by unfold mIf; rw [h]; rfl
theorem call_plain {n N : Nat} {body : MS} {ds : List D} {d : D} {S S1 : Store} (hl : ds.length = n) (h : body (ds.map some ++ List.replicate (N - n) none) S = .rt d S1) : mDefQ n N body ds S = .ok d S1 := by
  unfold mDefQ mDef
  rw [if_pos hl, h]
  rfl
theorem call_plainN {n N : Nat} {body : MS} {ds : List D} {σ : Sg} {S S1 : Store} (hl : ds.length = n) (h : body (ds.map some ++ List.replicate (N - n) none) S = .nx σ S1) : mDefQ n N body ds S = .ok .non S1 := by
  unfold mDefQ mDef
  rw [if_pos hl, h]
  rfl
theorem call_pure {n N : Nat} {body : MS} {ds : List D} {d d' : D} {S S1 : Store} (hl : ds.length = n) (hp : pureAll ds = true) (h : body (ds.map some ++ List.replicate (N - n) none) [] = .rt d S1) (ho : d.out S1 = some d') : pureF (mDefQ n N body) ds S = .ok d' S := by
  unfold pureF
  rw [if_pos hp, call_plain hl h]
  dsimp only
  rw [ho]
theorem call_pureN {n N : Nat} {body : MS} {ds : List D} {σ : Sg} {S S1 : Store} (hl : ds.length = n) (hp : pureAll ds = true) (h : body (ds.map some ++ List.replicate (N - n) none) [] = .nx σ S1) : pureF (mDefQ n N body) ds S = .ok .non S := by
  unfold pureF
  rw [if_pos hp, call_plainN hl h]
  rfl
section
variable {f : D → D → Store → R D} {f1 : D → Store → R D} {fN : List D → Store → R D} {a b : ME} {as ks : MA} {σ : Sg} {S S1 S2 : Store} {x y : D} {xs ys : List D} {r : R D}
theorem m2_ok (h1 : a σ S = .ok x S1) (h2 : b σ S1 = .ok y S2) (h : f x y S2 = r) : m2 f a b σ S = r := by unfold m2; rw [h1]; simp only [R.bind]; rw [h2]; exact h
theorem m1_ok (h1 : a σ S = .ok x S1) (h : f1 x S1 = r) : m1 f1 a σ S = r := by unfold m1; rw [h1]; exact h
theorem mN_ok (h1 : as σ S = .ok xs S1) (h : fN xs S1 = r) : mN fN as σ S = r := by unfold mN; rw [h1]; exact h
theorem mNK_ok {n k : Nat} {g : List D → List D → List D} (h1 : as σ S = .ok xs S1) (h2 : ks σ S1 = .ok ys S2) (hl : xs.length = n ∧ ys.length = k) (h : fN (g xs ys) S2 = r) : mNK n k fN g as ks σ S = r := by
  unfold mNK; rw [h1]; simp only [R.bind]; rw [h2]; simp only; rw [if_pos hl]; exact h
theorem mBool_ok {c : Bool} (h1 : a σ S = .ok (.bl c) S1) : mBool a σ S = .ok c S1 := by unfold mBool; rw [h1]; rfl
theorem mRet_ok (h1 : a σ S = .ok x S1) : mRet a σ S = .rt x S1 := by unfold mRet; rw [h1]; rfl
theorem mExpr_ok (h1 : a σ S = .ok x S1) : mExpr a σ S = .nx σ S1 := by unfold mExpr; rw [h1]; rfl
theorem mAsg_ok {g : MG} {σ1 : Sg} (h1 : a σ S = .ok x S1) (h2 : g x σ S1 = .ok σ1 S2) : mAsg a g σ S = .nx σ1 S2 := by unfold mAsg; rw [h1]; simp only [R.toO]; rw [h2]
theorem mCons_ok (h1 : a σ S = .ok x S1) (h2 : as σ S1 = .ok xs S2) : mCons a as σ S = .ok (x :: xs) S2 := by unfold mCons; rw [h1]; simp only [R.bind]; rw [h2]
theorem mVar_ok {i : Nat} {d : D} (h : σ[i]? = some (some d)) : mVar i σ S = .ok d S := by unfold mVar; rw [h]
theorem miRng1_ok {j : Int} (h : as σ S = .ok [.int j] S1) (hk : rngOk 0 j = true) : miRng1 as σ S = .ok (rngItems 0 j.toNat) S1 := by unfold miRng1; rw [h]; simp only [R.bind]; rw [if_pos hk]
theorem need_t {α : Type} {b : Bool} {r : R α} (h : b = true) : MM.need b r = r := by rw [h]; rfl
theorem dEq_ok {S : Store} {x y d e : D} (h1 : rd S x = some d) (h2 : rd S y = some e) (s1 : d.shal 40 = true) (s2 : e.shal 40 = true) : dEq x y S = .ok (.bl (eqD d e)) S := by
  unfold dEq onDD; rw [h1, h2]; exact need_t (by rw [s1, s2]; rfl)
theorem dNe_ok {S : Store} {x y d e : D} (h1 : rd S x = some d) (h2 : rd S y = some e) (s1 : d.shal 40 = true) (s2 : e.shal 40 = true) : dNe x y S = .ok (.bl (!eqD d e)) S := by
  unfold dNe onDD; rw [h1, h2]; exact need_t (by rw [s1, s2]; rfl)
theorem mLc_ok {own : List Nat} {mi : MI} {g : MG} {t : MT} {me : ME} {items : List D} (h1 : mi σ S = .ok items S1) (hz : items.length ≤ 1000000) (h2 : runLc (wipeM σ own) g t me items S1 = .ok ys S2) : mLc own mi g t me σ S = .ok (.lst ys) S2 := by
  unfold mLc mLcF; rw [h1]; simp only [R.bind]; rw [if_pos hz, h2]; rfl
theorem mLcM_ok {own : List Nat} {mi : MI} {g : MG} {t : MT} {me : ME} {items : List D} (h1 : mi σ S = .ok items S1) (hz : items.length ≤ 1000000) (h2 : runLc (wipeM σ own) g t me items S1 = .ok ys S2) : mLcM own mi g t me σ S = .ok (.ref S2.length) (S2 ++ [.lst ys]) := by
  unfold mLcM mLcF; rw [h1]; simp only [R.bind]; rw [if_pos hz, h2]; rfl
theorem mFor_ok {mi : MI} {g : MG} {b : MS} {items : List D} {o : O} (h1 : mi σ S = .ok items S1) (h2 : runFor g b items σ S1 = o) : mFor mi g b σ S = o := by
  unfold mFor; rw [h1]; exact h2
theorem eqD_refl_all : ∀ n : Nat, ∀ d : D, sizeOf d ≤ n → d.dat = true → eqD d d = true := by
  intro n
  induction n with
  | zero => intro d h; cases d <;> simp at h
  | succ n ih =>
    have all : ∀ xs : List D, sizeOf xs ≤ n → datAll xs = true → eqAll xs xs = true := by
      intro xs
      induction xs with
      | nil => intro _ _; rfl
      | cons x xs ihx =>
        intro hs hp
        rw [datAll, Bool.and_eq_true] at hp
        simp at hs
        simp only [eqAll, ih x (by omega) hp.1, ihx (by omega) hp.2, Bool.and_self]
    intro d h hp
    cases d with
    | ref l => simp [D.dat] at hp
    | dct ks xs => simp [D.dat] at hp
    | obj c fs xs => simp [D.dat] at hp
    | tup xs => simp [D.dat] at hp; simp at h; simp [eqD, all xs (by omega) hp]
    | lst xs => simp [D.dat] at hp; simp at h; simp [eqD, all xs (by omega) hp]
    | scr xs => simp [D.dat] at hp; simp at h; simp [eqD, all xs (by omega) hp]
    | _ => simp [eqD]
theorem eqD_refl {d : D} (h : d.dat = true) : eqD d d = true := eqD_refl_all _ d (Nat.le_refl _) h
end
/-! ### the deck: cells, one number -/
def deckS (fld : Str) (cells : List Int) (x : Int) (T : Store) : Store := .lst (nums cells) :: .dic [(.inr "cells", .ref 0), (.inr fld, .int x)] :: T
def drawB (fld : Str) : MS := mSeq (mIf (mBool (m2 dNe (m1 (getD (.inr "cells")) (mVar 0)) (mLst (mNil)))) (mSeq (mAsg (mMeth .list dPop (m1 (getD (.inr "cells")) (mVar 0)) mNil) (gN 2)) (mSeq (mIf (mBool (m2 dGe (mVar 2) (m2 dPow (mK (.int 10)) (mK (.int 18))))) (mSeq (mExpr (mMeth .list dAppend (m1 (getD (.inr "cells")) (mVar 0)) (mCons (m2 dDiv (mVar 2) (mN dMax2 (mCons (mK (.int 2)) (mCons (mVar 1) (mNil))))) (mNil)))) (mRet (m2 dMod (mVar 2) (mVar 1)))) (mSkip)) (mPutD (.inr fld) (mVar 0) (m2 dMod (m2 (dAdd false) (m1 (getD (.inr fld)) (mVar 0)) (mVar 2)) (mK (.int 2147483647)))))) (mSkip)) (mSeq (mPutD (.inr fld) (mVar 0) (m2 dMod (m2 (dAdd false) (m2 (dMul false) (m1 (getD (.inr fld)) (mVar 0)) (mK (.int 16807))) (mK (.int 1087517))) (mK (.int 2147483647)))) (mRet (m2 dMod (m2 dDiv (m1 (getD (.inr fld)) (mVar 0)) (mK (.int 64))) (mVar 1))))
section
variable {fld : Str} {x b : Int} {T : Store} {cells : List Int}
theorem draw_tail {σ : Sg} {o : Option D} (hf : (Sum.inr ("cells" : Str) : Key) ≠ .inr fld) (hb : 0 < b) : ∃ v x', (mSeq (mPutD (.inr fld) (mVar 0) (m2 dMod (m2 (dAdd false) (m2 (dMul false) (m1 (getD (.inr fld)) (mVar 0)) (mK (.int 16807))) (mK (.int 1087517))) (mK (.int 2147483647)))) (mRet (m2 dMod (m2 dDiv (m1 (getD (.inr fld)) (mVar 0)) (mK (.int 64))) (mVar 1)))) [some (.ref 1), some (.int b), o] (deckS fld cells x T) = .rt (.int v) (deckS fld cells x' T) ∧ 0 ≤ v ∧ v < b := by
  have e1 : decide (b ≠ 0) = true := decide_eq_true (by omega)
  refine ⟨(((x * 16807 + 1087517).fmod 2147483647).fdiv 64).fmod b, (x * 16807 + 1087517).fmod 2147483647, ?_, Int.fmod_nonneg_of_pos _ hb, Int.fmod_lt_of_pos _ hb⟩
  simp [mSeq, mPutD, mRet, m2, m1, mVar, mK, R.bind, R.toO, O.seq, dMod, dDiv, dAdd, dMul, or2, addI, mulI, onII, MM.need, R.or, b64, getD, deckS, valD, putD, hf, hf.symm, lim, nodupK, e1, show b ≠ 0 by omega]

theorem fmod_nb {c b : Int} (h : 0 < b) : 0 ≤ c.fmod b ∧ c.fmod b < b := ⟨Int.fmod_nonneg_of_pos _ h, Int.fmod_lt_of_pos _ h⟩
/-- what one draw does -/
theorem draw_run {σ : Sg} (hf : (Sum.inr ("cells" : Str) : Key) ≠ .inr fld) (hb : 0 < b) (hb2 : b < 1073741824) (hl : cells.length ≤ 1000) : ∃ v cells' x', drawB fld [some (.ref 1), some (.int b), none] (deckS fld cells x T) = .rt (.int v) (deckS fld cells' x' T) ∧ cells'.length ≤ cells.length ∧ 0 ≤ v ∧ v < b := by
  unfold drawB
  rcases List.eq_nil_or_concat cells with rfl | ⟨cs, c, rfl⟩
  · obtain ⟨v, x', h, h1, h2⟩ := draw_tail (fld := fld) (x := x) (T := T) (cells := []) (σ := []) (o := none) hf hb
    refine ⟨v, [], x', ?_, Nat.le_refl _, h1, h2⟩
    rw [← h]
    have e : (mIf (mBool (m2 dNe (m1 (getD (.inr "cells")) (mVar 0)) (mLst (mNil)))) (mSeq (mAsg (mMeth .list dPop (m1 (getD (.inr "cells")) (mVar 0)) mNil) (gN 2)) (mSeq (mIf (mBool (m2 dGe (mVar 2) (m2 dPow (mK (.int 10)) (mK (.int 18))))) (mSeq (mExpr (mMeth .list dAppend (m1 (getD (.inr "cells")) (mVar 0)) (mCons (m2 dDiv (mVar 2) (mN dMax2 (mCons (mK (.int 2)) (mCons (mVar 1) (mNil))))) (mNil)))) (mRet (m2 dMod (mVar 2) (mVar 1)))) (mSkip)) (mPutD (.inr fld) (mVar 0) (m2 dMod (m2 (dAdd false) (m1 (getD (.inr fld)) (mVar 0)) (mVar 2)) (mK (.int 2147483647)))))) (mSkip)) [some (.ref 1), some (.int b), none] (deckS fld [] x T) = .nx [some (.ref 1), some (.int b), none] (deckS fld [] x T) := by
      simp [mIf, mBool, m2, m1, mVar, mLst, mNil, getD, deckS, valD, R.bind, R.toO, dNe, onDD, rd, rdL, MM.need, D.shal, shalAll, eqD, eqAll, mSkip]
    exact mSeq_nx e
  · rw [List.concat_eq_append] at hl ⊢
    have hlen : cs.length + 1 ≤ 1000 := by simpa using hl
    -- the tests
    have e1 : mBool (m2 dNe (m1 (getD (.inr "cells")) (mVar 0)) (mLst (mNil))) [some (.ref 1), some (.int b), none] (deckS fld (cs ++ [c]) x T) = .ok true (deckS fld (cs ++ [c]) x T) := by
      have e2 : eqAll (nums (cs ++ [c])) [] = false := by
        have := eqAll_nums (cs ++ [c]) []
        exact this.trans (decide_eq_false (by simp))
      have e2' : shalAll 39 (nums (cs ++ [c])) = true := shal_nums 39 _
      unfold deckS
      generalize nums (cs ++ [c]) = zs at e2 e2' ⊢
      simp [mBool, m2, m1, mVar, mLst, mNil, getD, valD, R.bind, dNe, onDD, rd, rdL, MM.need, D.shal, shalAll, eqD, e2, e2']
    have e3 : (mAsg (mMeth .list dPop (m1 (getD (.inr "cells")) (mVar 0)) mNil) (gN 2)) [some (.ref 1), some (.int b), none] (deckS fld (cs ++ [c]) x T) = .nx [some (.ref 1), some (.int b), some (.int c)] (deckS fld cs x T) := by
      simp [mAsg, mMeth, m1, mVar, getD, deckS, valD, R.bind, R.toO, isTy, mNil, dPop, onCell, gN]
    have e5 : (10 : Int) ^ (18 : Nat) = 1000000000000000000 := by decide
    have e4 : mBool (m2 dGe (mVar 2) (m2 dPow (mK (.int 10)) (mK (.int 18)))) [some (.ref 1), some (.int b), some (.int c)] (deckS fld cs x T) = .ok (decide (10 ^ 18 ≤ c)) (deckS fld cs x T) := by
      simp [mBool, m2, mVar, mK, R.bind, dPow, onII, MM.need, dGe, dCmp]
    by_cases hc : 10 ^ 18 ≤ c
    · refine ⟨c.fmod b, cs ++ [c.fdiv (if b > 2 then b else 2)], x, ?_, by simp, (fmod_nb hb).1, (fmod_nb hb).2⟩
      have m0 : (if b > 2 then b else 2) ≠ (0 : Int) := by split <;> omega
      have m1' : (if b > 2 then b else 2).natAbs < 1073741824 := by split <;> omega
      have e6 : (mSeq (mExpr (mMeth .list dAppend (m1 (getD (.inr "cells")) (mVar 0)) (mCons (m2 dDiv (mVar 2) (mN dMax2 (mCons (mK (.int 2)) (mCons (mVar 1) (mNil))))) (mNil)))) (mRet (m2 dMod (mVar 2) (mVar 1)))) [some (.ref 1), some (.int b), some (.int c)] (deckS fld cs x T) = .rt (.int (c.fmod b)) (deckS fld (cs ++ [c.fdiv (if b > 2 then b else 2)]) x T) := by
        simp only [mSeq, mExpr, mMeth, m1, mVar, getD, deckS, valD, R.bind, R.toO, isTy, List.getElem?_cons_zero, List.getElem?_cons_succ, if_true, mCons, mNil, m2, mN, mK, dMax2, dDiv, onII]
        simp [MM.need, m0, m1', dAppend, onCell, lim, show cs.length + 1 ≤ 1000000 by omega, O.seq, mRet, m2, mVar, R.bind, R.toO, dMod, onII, show b ≠ 0 by omega]
      refine mSeq_rt ?_
      rw [mIf_t e1, mSeq_nx e3]
      refine mSeq_rt ?_
      rw [mIf_t (by rw [e4, decide_eq_true hc])]
      exact e6
    · obtain ⟨v, x', h, h1, h2⟩ := draw_tail (fld := fld) (x := (x + c).fmod 2147483647) (T := T) (cells := cs) (σ := []) (o := some (.int c)) hf hb
      refine ⟨v, cs, x', ?_, by simp, h1, h2⟩
      rw [← h]
      have e7 : (mPutD (.inr fld) (mVar 0) (m2 dMod (m2 (dAdd false) (m1 (getD (.inr fld)) (mVar 0)) (mVar 2)) (mK (.int 2147483647)))) [some (.ref 1), some (.int b), some (.int c)] (deckS fld cs x T) = .nx [some (.ref 1), some (.int b), some (.int c)] (deckS fld cs ((x + c).fmod 2147483647) T) := by
        simp [mPutD, m2, m1, mVar, mK, R.bind, R.toO, dMod, dAdd, or2, addI, onII, MM.need, R.or, getD, deckS, valD, putD, hf, hf.symm, lim, nodupK]
      refine mSeq_nx ?_
      rw [mIf_t e1, mSeq_nx e3, mSeq_nx (by rw [mIf_f (by rw [e4, decide_eq_false hc])]; rfl)]
      exact e7
def drawM (fld : Str) : List D → Store → R D := mDefQ 2 3 (drawB fld)
theorem draw_ok (hf : (Sum.inr ("cells" : Str) : Key) ≠ .inr fld) (hb : 0 < b) (hb2 : b < 1073741824) (hl : cells.length ≤ 1000) : ∃ v cells' x', drawM fld [.ref 1, .int b] (deckS fld cells x T) = .ok (.int v) (deckS fld cells' x' T) ∧ cells'.length ≤ cells.length ∧ 0 ≤ v ∧ v < b := by
  obtain ⟨v, cells', x', h, h1⟩ := draw_run (fld := fld) (x := x) (T := T) (cells := cells) (σ := []) hf hb hb2 hl
  refine ⟨v, cells', x', ?_, h1⟩
  exact call_plain rfl h

def pickB (mdraw : List D → Store → R D) : MS := mRet (m2 dIx (mVar 1) (mN mdraw (mCons (mVar 0) (mCons (mN dLen (mCons (mVar 1) (mNil))) (mNil)))))
theorem getInt {xs : List D} {v : Int} (h0 : 0 ≤ v) (h1 : v < xs.length) : ∃ x, atI xs v = some x ∧ x ∈ xs := by
  have hv : v.toNat < xs.length := by omega
  refine ⟨xs[v.toNat], ?_, List.getElem_mem _⟩
  unfold atI ixN
  simp [show ¬ v < 0 by omega, h0, h1]
theorem pick_ok (hf : (Sum.inr ("cells" : Str) : Key) ≠ .inr fld) {xs : List D} (h1 : xs ≠ []) (h2 : xs.length < 1073741824) (hl : cells.length ≤ 1000) : ∃ y cells' x', mDefQ 2 2 (pickB (drawM fld)) [.ref 1, .lst xs] (deckS fld cells x T) = .ok y (deckS fld cells' x' T) ∧ cells'.length ≤ cells.length ∧ y ∈ xs := by
  have hp : (0 : Int) < xs.length := by
    cases xs with
    | nil => exact absurd rfl h1
    | cons => simp
  obtain ⟨v, cells', x', h, hc, v0, v1⟩ := draw_ok (x := x) (T := T) hf hp (by omega) hl
  obtain ⟨y, hy, hm⟩ := getInt v0 v1
  refine ⟨y, cells', x', call_plain rfl ?_, hc, hm⟩
  have e : mN (drawM fld) (mCons (mVar 0) (mCons (mN dLen (mCons (mVar 1) (mNil))) (mNil))) [some (.ref 1), some (.lst xs)] (deckS fld cells x T) = .ok (.int v) (deckS fld cells' x' T) := by
    rw [← h]
    simp [mN, mCons, mVar, mNil, R.bind, dLen, orN, lenSeq, on1, rdS, rdL, R.or]
  show (pickB (drawM fld)) [some (.ref 1), some (.lst xs)] (deckS fld cells x T) = _
  unfold pickB
  show (R.toO (m2 dIx (mVar 1) (mN (drawM fld) (mCons (mVar 0) (mCons (mN dLen (mCons (mVar 1) (mNil))) (mNil)))) [some (.ref 1), some (.lst xs)] (deckS fld cells x T)) [some (.ref 1), some (.lst xs)] fun d S1 => .rt d S1) = _
  simp only [m2, mVar, List.getElem?_cons_succ, List.getElem?_cons_zero, R.bind]
  rw [e]
  simp [R.toO, dIx, or2, ixSeq, rdS, rdL, hy, R.or]

end
theorem runLc_cons {σ0 σ1 : Sg} {g : MG} {t : MT} {me : ME} {d y : D} {ds ys : List D} {S S1 S2 S3 S4 : Store} (h1 : g d σ0 S = .ok σ1 S1) (h2 : t σ1 S1 = .ok true S2) (h3 : me σ1 S2 = .ok y S3) (h4 : runLc σ0 g t me ds S3 = .ok ys S4) : runLc σ0 g t me (d :: ds) S = .ok (y :: ys) S4 := by
  unfold runLc
  rw [h1]; simp only [R.bind]; rw [h2]; simp only [if_true]; rw [h3]; simp only [R.bind]; rw [h4]
theorem runLc_skip {σ0 σ1 : Sg} {g : MG} {t : MT} {me : ME} {d : D} {ds ys : List D} {S S1 S2 S4 : Store} (h1 : g d σ0 S = .ok σ1 S1) (h2 : t σ1 S1 = .ok false S2) (h4 : runLc σ0 g t me ds S2 = .ok ys S4) : runLc σ0 g t me (d :: ds) S = .ok ys S4 := by
  unfold runLc
  rw [h1]; simp only [R.bind]; rw [h2]; simp only [Bool.false_eq_true, if_false]; rw [h4]
theorem runFor_cons {g : MG} {b : MS} {d : D} {ds : List D} {σ σ1 σ2 : Sg} {S S1 S2 : Store} (h1 : g d σ S = .ok σ1 S1) (h2 : b σ1 S1 = .nx σ2 S2) : runFor g b (d :: ds) σ S = runFor g b ds σ2 S2 := by
  show (R.toO (g d σ S) σ fun σ1 S1 => (b σ1 S1).next (runFor g b ds)) = _
  rw [h1]
  show (b σ1 S1).next _ = _
  rw [h2]
  rfl
theorem runFor_rt {g : MG} {b : MS} {d r : D} {ds : List D} {σ σ1 : Sg} {S S1 S2 : Store} (h1 : g d σ S = .ok σ1 S1) (h2 : b σ1 S1 = .rt r S2) : runFor g b (d :: ds) σ S = .rt r S2 := by
  show (R.toO (g d σ S) σ fun σ1 S1 => (b σ1 S1).next (runFor g b ds)) = _
  rw [h1]
  show (b σ1 S1).next _ = _
  rw [h2]
  rfl
theorem cut_nums (ns : List Int) (lo hi : Option Int) : cutD (nums ns) lo hi = nums (cutD ns lo hi) := by
  unfold cutD
  rw [List.length_map]
  show _ = List.map D.int _
  rw [List.map_take, List.map_drop]
theorem cut_len {α : Type} (ns : List α) (lo hi : Option Int) : (cutD ns lo hi).length ≤ ns.length := by
  unfold cutD
  rw [List.length_take, List.length_drop]
  omega
theorem ints_lc (σ0 : Sg) (k : Nat) (hk : k < σ0.length) (S : Store) : ∀ ns : List Int, runLc σ0 (gN k) mYes (mN intI (mCons (mVar k) mNil)) (nums ns) S = .ok (nums ns) S
  | [] => rfl
  | n :: ns => runLc_cons (σ1 := σ0.set k (some (.int n))) rfl rfl (by
      simp only [mN, mCons, mNil, mVar, List.getElem?_set_self hk, R.bind]
      rfl) (ints_lc σ0 k hk S ns)
def deckB (fld : Str) (c0 c1 c2 c3 c4 top : Int) : MS := mSeq (mPar 1 2 (mCons (mLc [3] (miSeq (mSl false (mVar 0) mpN (mpS (mK (.int top))))) (gN 3) (mYes) (mN intI (mCons (mVar 3) (mNil)))) (mCons (mK (.int c0)) (mNil)))) (mSeq (mFor (miSeq (mVar 1)) (gN 3) (mAsg (m2 dMod (m2 (dAdd false) (m2 (dAdd false) (m2 (dMul false) (mVar 2) (mK (.int c1))) (m2 dMod (mVar 3) (mK (.int c2)))) (mK (.int c3))) (mK (.int c4))) (gN 2))) (mRet (mDict [.inr "cells", .inr fld] (mCons (m1 (revL true) (mVar 1)) (mCons (mVar 2) (mNil))))))
section
variable {fld : Str} {c0 c1 c2 c3 c4 top : Int} {ns : List Int}
theorem deck_for (h1 : b64 c1 = true) (h2 : c2 ≠ 0) (h4 : c4 ≠ 0) (a0 a1 : Option D) (S : Store) : ∀ (ns : List Int) (x : Int) (o : Option D), ∃ (x' : Int) (o' : Option D), runFor (gN 3) (mAsg (m2 dMod (m2 (dAdd false) (m2 (dAdd false) (m2 (dMul false) (mVar 2) (mK (.int c1))) (m2 dMod (mVar 3) (mK (.int c2)))) (mK (.int c3))) (mK (.int c4))) (gN 2)) (nums ns) [a0, a1, some (.int x), o] S = .nx [a0, a1, some (.int x'), o'] S
  | [], x, o => ⟨x, o, rfl⟩
  | n :: ns, x, o => by
    obtain ⟨x', o', h⟩ := deck_for h1 h2 h4 a0 a1 S ns ((x * c1 + n.fmod c2 + c3).fmod c4) (some (.int n))
    refine ⟨x', o', ?_⟩
    rw [← h]
    refine runFor_cons (σ1 := [a0, a1, some (.int x), some (.int n)]) rfl ?_
    simp [mAsg, m2, mVar, mK, R.bind, R.toO, dMod, dAdd, dMul, or2, addI, mulI, onII, MM.need, R.or, h1, h2, h4, gN]
theorem deck_ok (h1 : b64 c1 = true) (h2 : c2 ≠ 0) (h4 : c4 ≠ 0) (hl : ns.length ≤ 1000) (hf : (Sum.inr ("cells" : Str) : Key) ≠ .inr fld) : ∃ cells x, mDefQ 1 4 (deckB fld c0 c1 c2 c3 c4 top) [.scr (nums ns)] [] = .ok (.ref 1) (deckS fld cells x []) ∧ cells.length ≤ ns.length := by
  have hlen := cut_len ns none (some top)
  let cs := cutD ns none (some top)
  obtain ⟨x', o', hx⟩ := deck_for (c3 := c3) h1 h2 h4 (some (.scr (nums ns))) (some (.lst (nums cs))) [] cs c0 none
  refine ⟨cs.reverse, x', call_plain rfl ?_, by rw [List.length_reverse]; exact hlen⟩
  unfold deckB
  have e1 : (mPar 1 2 (mCons (mLc [3] (miSeq (mSl false (mVar 0) mpN (mpS (mK (.int top))))) (gN 3) (mYes) (mN intI (mCons (mVar 3) (mNil)))) (mCons (mK (.int c0)) (mNil)))) [some (.scr (nums ns)), none, none, none] [] = .nx [some (.scr (nums ns)), some (.lst (nums cs)), some (.int c0), none] [] := by
    have e0 : miSeq (mSl false (mVar 0) mpN (mpS (mK (.int top)))) [some (.scr (nums ns)), none, none, none] [] = .ok (nums cs) [] := by
      simp [miSeq, mSl, mVar, mpN, mpS, mK, R.bind, dSl, slL, newL, R.or, itemsOf, cs, ← cut_nums]
    have e2 : mLc [3] (miSeq (mSl false (mVar 0) mpN (mpS (mK (.int top))))) (gN 3) (mYes) (mN intI (mCons (mVar 3) (mNil))) [some (.scr (nums ns)), none, none, none] [] = .ok (.lst (nums cs)) [] := by
      unfold mLc mLcF
      rw [e0]
      simp only [R.bind]
      rw [if_pos (by rw [List.length_map]; exact Nat.le_trans hlen (by omega)), ints_lc _ _ (by simp [wipeM])]
      rfl
    simp only [mPar, mCons, mNil, mK]
    rw [e2]
    rfl
  rw [show (List.map some [D.scr (nums ns)] ++ List.replicate (4 - 1) none) = [some (.scr (nums ns)), none, none, none] from rfl, mSeq_nx e1]
  have e3 : (mFor (miSeq (mVar 1)) (gN 3) (mAsg (m2 dMod (m2 (dAdd false) (m2 (dAdd false) (m2 (dMul false) (mVar 2) (mK (.int c1))) (m2 dMod (mVar 3) (mK (.int c2)))) (mK (.int c3))) (mK (.int c4))) (gN 2))) [some (.scr (nums ns)), some (.lst (nums cs)), some (.int c0), none] [] = .nx [some (.scr (nums ns)), some (.lst (nums cs)), some (.int x'), o'] [] := by
    rw [← hx]
    rfl
  rw [mSeq_nx e3]
  have e4 : nodupK [(.inr "cells" : Key), .inr fld] = true := by simp [nodupK, hf.symm]
  simp [mRet, mDict, mCons, mNil, m1, mVar, revL, rdL, newL, R.bind, R.toO, e4, deckS]
end
end MM

set_option Elab.async false
set_option linter.all false
set_option maxRecDepth 100000
set_option maxHeartbeats 2000000
/-! Own errors: the __init__ that says super().__init__(p..); self.p = p. At the machine. -/
namespace MX
open PySem PySem.W PySem.Calls PyProof.Rows Builtin Builtin.ObjectAttr

abbrev xTail : List Value := ESX.exTail
/-- what the top says of an error class at C, derived from the one at B; its __init__ at fI -/
structure ErrCls (K : Frag) (C B : Addr) : Prop where
  cls : ∃ nm q N bs sn sub ab col dd k0 k1 k2 k3 k5, K.lookup C = some (excClassObj nm q C N bs (.ref B :: xTail) true sn sub ab col dd k0 k1 k2 k3 k5 "Exception.__new__")
  sa : findIn K (.ref C) "__setattr__" = some (some (.builtin "object.__setattr__"))
  al : alongIn K "__init__" (.ref B :: xTail) = some (some (.builtin "Exception.__init__"))
  any : nsIn K cStatics "thirdparty.any" = some none
theorem bTail (B : Addr) (X : String) : (Value.ref B :: xTail).contains (.type X) = xTail.contains (.type X) := by
  rw [List.contains_cons]; rfl
section
variable {prog : Program} {w : World} {A : Around} {E : Value → Shared → Prop} {R : Result → Shared → Prop} {K : Frag} {C B : Addr} {hp : Heap} {g : Array GenState} {d : Drawn} {t : Nat} {os : OsState}
theorem ErrCls.data (T : ErrCls K C B) : ∃ cd : ClassData, clsIn K C = some cd ∧ cd.mro = .ref C :: .ref B :: xTail ∧ cd.hasDict = true := by
  obtain ⟨nm, q, N, bs, sn, sub, ab, col, dd, k0, k1, k2, k3, k5, hC⟩ := T.cls
  refine ⟨{ name := nm, bases := bs, mro := .ref C :: .ref B :: xTail, ns := N, qualname := q, hasDict := true, slotNames := sn, subclasses := sub, abstract := ab, collection := col, hasDel := false }, ?_, rfl, rfl⟩
  unfold clsIn; rw [hC]
theorem ErrCls.over (T : ErrCls K C B) : excOver K C xTail = true := by
  obtain ⟨cd, h1, h2, _⟩ := T.data
  unfold excOver
  rw [h1]
  show (match cd.mro with | .ref C' :: bm => C' == C && excTail xTail bm | _ => false) = true
  rw [h2]
  show (C == C && excTail xTail (.ref B :: xTail)) = true
  rw [beq_self_eq_true, Bool.true_and]
  show excTail xTail xTail = true
  decide +kernel
/-- self.p = v, no dict as yet -/
theorem set_first (T : ErrCls K C B) {name : Str} {v : Value} {x : Addr} {fv : Array Value} {Q : Unit → Shared → Prop} (X : K.In hp) (hx : hp.get? x = some { cls := .ref C, data := .fields fv }) (ha : findIn K (.ref C) name = some none)
    (hq : ∀ h' tk' dx, (∀ b o, b ≠ x → hp.get? b = some o → h'.get? b = some o) → hp.objs.size ≤ dx → dx ≠ x → h'.get? x = some { cls := .ref C, dict := some dx, data := .fields fv } →
      h'.Ns1 dx (fun y => if y = name then some v else none) → Q () ⟨h', g, d, tk', os⟩) : wpAny (model prog w) A (setAttr (.ref x) name v) Q E ⟨hp, g, d, t, os⟩ := by
  obtain ⟨cd, hcd, hm, hh⟩ := T.data
  have I : InstAt hp x { cls := .ref C, data := .fields fv } C none := ⟨hx, rfl, rfl, trivial⟩
  have ne : x ≠ hp.objs.size := Nat.ne_of_lt (Heap.lt_size hx)
  refine set_plain X I T.sa (osa_openX F.store_Exception X I T.over (r := none) (by unfold takerIn; rw [ha]; rfl) fun b => ?_)
  have hcls : Looks (model prog w) hp (classData C) cd := looks_clsIn X hcd
  obtain ⟨nm, bs, mro, ns, qn, hd, sn, sb, ab, col, del⟩ := cd
  cases (show hd = true from hh)
  dsimp only
  unfold storeInOwnDict ownDictForStores
  repeat (first | with_reducible refine HandSPX.store_in_new ?_ ?_ | with_reducible refine wpAny_loadPart_at hx ?_ | with_reducible refine hcls.at ?_ | wp_step)
  · have z := Heap.get?_push_at (h := hp) (o := { cls := .type "dict", data := .dict #[] }) rfl rfl
    rw [← Heap.get?_update_ne _ _ _ _ ne.symm] at z
    exact ⟨_, #[], _, z, rfl, fun e he => absurd he (by simp), fun _ => rfl⟩
  · intro h1 t1 n1 s1
    have px := Heap.get?_push_of_some { cls := .type "dict", data := .dict #[] } hx
    refine hq h1 t1 hp.objs.size (fun b o hb ho => ?_) (Nat.le_refl _) ne.symm ?_ n1
    · rw [s1.2 b (Nat.ne_of_lt (Heap.lt_size ho)), Heap.get?_update_ne _ _ _ _ hb]
      exact Heap.get?_push_of_some _ ho
    · rw [s1.2 x ne]
      exact Heap.get?_update_self _ px rfl
/-- self.p = v, a further one -/
theorem set_more (T : ErrCls K C B) {name : Str} {v : Value} {x dx : Addr} {fv : Array Value} {m0 : Str → Option Value} {nl : List Str} {Q : Unit → Shared → Prop} (X : K.In hp) (hx : hp.get? x = some { cls := .ref C, dict := some dx, data := .fields fv })
    (hns : hp.Ns1 dx m0) (hw : Within m0 nl) (hz : nl.length ≤ 1000) (ha : findIn K (.ref C) name = some none)
    (hq : ∀ h' tk', (∀ b o, b ≠ dx → hp.get? b = some o → h'.get? b = some o) → h'.Ns1 dx (fun y => if y = name then some v else m0 y) → Q () ⟨h', g, d, tk', os⟩) : wpAny (model prog w) A (setAttr (.ref x) name v) Q E ⟨hp, g, d, t, os⟩ := by
  obtain ⟨cd, hcd, hm, hh⟩ := T.data
  obtain ⟨oD, _, _, hoD, _, _⟩ := hns.count hw
  have I : InstAt hp x { cls := .ref C, dict := some dx, data := .fields fv } C (some oD) := ⟨hx, rfl, rfl, hoD⟩
  refine set_plain X I T.sa (osa_openX F.store_Exception X I T.over (r := none) (by unfold takerIn; rw [ha]; rfl) fun b => ?_)
  have hcls : Looks (model prog w) hp (classData C) cd := looks_clsIn X hcd
  obtain ⟨nm, bs, mro, ns, qn, hd, sn, sb, ab, col, del⟩ := cd
  cases (show hd = true from hh)
  dsimp only
  unfold storeInOwnDict ownDictForStores
  repeat (first | with_reducible refine ESX.store_in_old hns hw hz ?_ | with_reducible refine wpAny_loadPart_at hx ?_ | with_reducible refine hcls.at ?_ | wp_step)
  intro h1 t1 n1 s1
  exact hq h1 t1 (fun b o hb ho => by rw [s1.2 b hb]; exact ho) n1
/-- the written __init__: its function object, its code, its cell -/
structure InitFn (prog : Program) (K : Frag) (q : Str) (params : Arguments) (body : List Stmt) (scope : Scope) (C fI cc cda : Addr) : Prop where
  fn : ∃ (oc : Value) (od : Option Addr) (kV doc pm : Value) (an : Option Addr) (ct : Value) (osl : Array (Option Value)), K.lookup fI = some ⟨oc, od, .func (ksFn "__init__" q params body scope .none kV doc pm an (.ref cda) ct cc), osl⟩
  cod : codeIn K (.ref cda) q = true
  code : ∃ (ccl : Value) (cdd : Option Addr) (vs : Array Value) (ccs : Array (Option Value)) (file : Str) (tf : Tok), K.lookup cda = some ⟨ccl, cdd, .fields vs, ccs⟩ ∧ vs[2]? = some (.str file tf) ∧ ((prog.main.file : Str) == file) = true
  cell : ∃ (cl : Value) (cld : Option Addr) (csl : Array (Option Value)), K.lookup cc = some ⟨cl, cld, .cell (some (.ref C)), csl⟩
  sub : mroIn K C (.ref C) = some true
  self : ∃ ar : Arg, (params.posonlyargs ++ params.args).head? = some ar ∧ ar.arg = "self"
  ks : scope.names.lookup ("super" : Str) = some .globalImplicit
  kc : scope.names.lookup ("__class__" : Str) = some .free
  ka : scope.names.lookup ("self" : Str) = some .local
  kf : scope.kind = .function
  top : (prog.main.scope.names.lookup ("super" : Str)).isSome = false
  exc : mroIn K C (.type "Exception") = some true
theorem sup_obj (T : ErrCls K C B) {q : Str} {params : Arguments} {body body0 : List Stmt} {scope : Scope} {fI cc cda L x t0 : Addr} {mg mb m : Str → Option Value} {attr : Str} {p0 p1 : Pos} {whole : Sem Value} {Q : Value → Shared → Prop} (J : InitFn prog K q params body scope C fI cc cda) (X : K.In hp)
    (hg : hp.Ns mainGlobals mg) (hs : mg "super" = none) (hb : hp.Ns builtinsNs mb) (hbb : mb "super" = some (.type "super")) (hL : hp.Ns L m) (hx : m "self" = some (.ref x)) (hxo : hp.get? x = some (HandSPX.excO C t0)) (hat : (attr == ("__class__" : Str)) = false)
    (h : ∀ h', h'.get? hp.objs.size = some { cls := .type "super", dict := none, data := .fields #[.ref C, .ref x, .ref C], slots := #[] } → (∀ y o, hp.get? y = some o → h'.get? y = some o) → Q (.ref hp.objs.size) ⟨h', g, d, t, os⟩) :
    _root_.PySem.wpAt (model prog w) A (.func body0 (ksEnv q scope L fI (.ref cda) cc)) (attributeBase (.Call (.Name "super" p0) [] [] p1) attr (ksEnv q scope L fI (.ref cda) cc) whole) Q E ⟨hp, g, d, t, os⟩ := by
  obtain ⟨oc, od, kV, doc, pm, an, ct, osl, hf⟩ := J.fn
  obtain ⟨ccl, cdd, vs, ccs, file, tf, hcode, hvs, hfile⟩ := J.code
  obtain ⟨cl, cld, csl, hcell⟩ := J.cell
  obtain ⟨ar, har, hself⟩ := J.self
  obtain ⟨nm, q1, N, bs, sn, sub, ab, col, dd, k0, k1, k2, k3, k5, hC⟩ := T.cls
  refine ks_wpAt_super_base (env := ksEnv q scope L fI (.ref cda) cc) J.ks J.kc hat rfl (X _ _ hf) rfl har rfl (X _ _ hcode) rfl hvs hfile J.top ?_
  refine ks_loadName_global J.kf J.ks (loadGlobal_builtin (env := ksEnv q scope L fI (.ref cda) cc) hg hs hb hbb ⟨rfl, ?_⟩)
  refine wpAny_loadName_free J.kf J.kc rfl ⟨_, X _ _ hcell, rfl⟩ ?_
  rw [hself]
  refine wpAny_loadName_local J.kf J.ka hL hx ?_
  refine ks_wpAny_isType_cls (X _ _ hC) rfl ⟨rfl, ?_⟩
  exact ks_wpAny_call_super (X _ _ hC) rfl hxo rfl (fun c e => by cases e) (looks_mroIn X J.sub) fun h' e k => h h' e k
theorem sup_meth (T : ErrCls K C B) {so x t0 : Addr} {pl : Sem Bool} {Q : Value × List Value → Shared → Prop} (X : K.In hp) (hexc : mroIn K C (.type "Exception") = some true)
    (hso : hp.get? so = some { cls := .type "super", dict := none, data := .fields #[.ref C, .ref x, .ref C], slots := #[] }) (hxo : hp.get? x = some (HandSPX.excO C t0)) (h : Q (.ref hp.objs.size, []) ⟨hp.push (ESX.bw x), g, d, t + 1, os⟩) :
    wpAny (model prog w) A (getMethod (.ref so) "__init__" pl) Q E ⟨hp, g, d, t, os⟩ := by
  obtain ⟨cd, hcd, hm, hh⟩ := T.data
  obtain ⟨nm, q1, N, bs, sn, sub, ab, col, dd, k0, k1, k2, k3, k5, hC⟩ := T.cls
  have I : InstAt hp x (HandSPX.excO C t0) C none := ⟨hxo, rfl, rfl, trivial⟩
  have hmr : Looks (model prog w) hp (mroOf (.ref C)) cd.mro := (looks_clsIn X hcd).andThen .now
  rw [hm] at hmr
  have ne : x ≠ C := fun z => by
    have e := X _ _ hC
    rw [← z, hxo] at e
    cases e
  exact ESX.getMethod_super hso (looks_opaque X T.any) hmr (ESX.drop_own C _) X T.al ne (by decide) (I.type.andThen (looks_mroIn X hexc)) h
/-- super().__init__(e, ..), the arguments evaluated without a trace -/
theorem sup_init (T : ErrCls K C B) {q : Str} {params : Arguments} {body body0 : List Stmt} {scope : Scope} {fI cc cda L x t0 : Addr} {mg mb m : Str → Option Value} {p0 p1 p2 p3 : Pos} {e : Expr} {es : List Expr} {us : List Value} {pl : Sem Bool} {Q : Value → Shared → Prop} (J : InitFn prog K q params body scope C fI cc cda) (X : K.In hp)
    (hg : hp.Ns mainGlobals mg) (hs : mg "super" = none) (hb : hp.Ns builtinsNs mb) (hbb : mb "super" = some (.type "super")) (hL : hp.Ns L m) (hx : m "self" = some (.ref x)) (hxo : hp.get? x = some (HandSPX.excO C t0)) (hz : us.length ≤ sizeLine)
    (hev : ∀ (h' : Heap) (t' : Nat), (∀ b o, hp.get? b = some o → h'.get? b = some o) → ∀ (Q' : List Value → Shared → Prop), Q' us ⟨h', g, d, t', os⟩ → wpAny (model prog w) A (spliced (backTo p3 (starEach (e :: es) (ksEnv q scope L fI (.ref cda) cc)))) Q' E ⟨h', g, d, t', os⟩)
    (h : ∀ h' t' t1, (∀ b o, b ≠ x → hp.get? b = some o → h'.get? b = some o) → h'.get? x = some (HandSPX.excO C t1) → Q .none ⟨h', g, d, t', os⟩)
    (he : eval (.Call (.Attribute (.Call (.Name "super" p0) [] [] p1) "__init__" p2) (e :: es) [] p3) (ksEnv q scope L fI (.ref cda) cc) = (do
      let ov ← attributeBase (.Call (.Name "super" p0) [] [] p1) "__init__" (ksEnv q scope L fI (.ref cda) cc) (eval (.Call (.Name "super" p0) [] [] p1) (ksEnv q scope L fI (.ref cda) cc))
      standAt p2.atName
      let (f, first) ← holding [ov] (getMethod ov "__init__" pl)
      callWith p3 f first (backTo p3 (starEach (e :: es) (ksEnv q scope L fI (.ref cda) cc))) []) := by rfl)
    (hse : starEach (e :: es) (ksEnv q scope L fI (.ref cda) cc) = (false, eval e (ksEnv q scope L fI (.ref cda) cc)) :: starEach es (ksEnv q scope L fI (.ref cda) cc) := by rfl) (hpl : (backTo p3 (starEach es (ksEnv q scope L fI (.ref cda) cc))).any (·.1) = false := by rfl) :
    _root_.PySem.wpAt (model prog w) A (.func body0 (ksEnv q scope L fI (.ref cda) cc)) (eval (.Call (.Attribute (.Call (.Name "super" p0) [] [] p1) "__init__" p2) (e :: es) [] p3) (ksEnv q scope L fI (.ref cda) cc)) Q E ⟨hp, g, d, t, os⟩ := by
  obtain ⟨nm, q1, N, bs, sn, sub, ab, col, dd, k0, k1, k2, k3, k5, hC⟩ := T.cls
  refine ks_wpAt_MethodCall (pl := pl) (sup_obj T J X hg hs hb hbb hL hx hxo (by decide) fun h1 e1 kp1 => ?_) he
  have X1 : K.In h1 := X.keeps kp1
  refine sup_meth T X1 J.exc e1 (kp1 _ _ hxo) ?_
  have kp2 : ∀ y o, hp.get? y = some o → (h1.push (ESX.bw x)).get? y = some o := fun y o z => Heap.get?_push_of_some _ (kp1 y o z)
  show wpAny (model prog w) A (callWith p3 (.ref h1.objs.size) [] (backTo p3 (starEach (e :: es) (ksEnv q scope L fI (.ref cda) cc))) []) Q E _
  refine ESX.callWith_bound (x := x) (hev _ _ kp2 _ ⟨Heap.get?_push_size _ rfl, ?_⟩) hse hpl
  refine ESX.call_bw (kp2 _ _ (X _ _ hC)) (kp2 _ _ hxo) (Heap.get?_push_size _ rfl) hz fun h3 t1 k3 hx3 => ?_
  exact h h3 _ t1 (fun b o hb ho => k3 b o hb (kp2 b o ho)) hx3
end
end MX

set_option Elab.async false
set_option linter.all false
set_option maxRecDepth 100000
set_option maxHeartbeats 2000000
/-! __init__(self, p): super().__init__(p); self.p = p. -/
namespace MX
open PySem PySem.W PySem.Calls PyProof.Rows Builtin Builtin.ObjectAttr
section
variable {prog : Program} {w : World} {A : Around} {E : Value → Shared → Prop} {R : Result → Shared → Prop} {K : Frag} {C B : Addr} {hp : Heap} {g : Array GenState} {d : Drawn} {t : Nat} {os : OsState}
/-- a local name, read -/
theorem rd_loc {q : Str} {scope : Scope} {L fI cc : Addr} {cd : Value} {m : Str → Option Value} {x : Str} {pos : Pos} {v : Value} {Q : Value → Shared → Prop} {s : Shared} (hn : s.heap.Ns L m) (hv : m x = some v) (hk : scope.kind = .function) (hl : scope.names.lookup x = some .local) (hd : (x == ("__debug__" : Str)) = false) (h : Q v s) :
    wpAny (model prog w) A (eval (.Name x pos) (ksEnv q scope L fI cd cc)) Q E s := wpAny_Name (wpAny_loadName_local hk hl hn hv h) hd
theorem in_but {K : Frag} {h h' : Heap} {x : Addr} (X : K.In h) (hx : K.lookup x = none) (k : ∀ b o, b ≠ x → h.get? b = some o → h'.get? b = some o) : K.In h' := fun a o e =>
  k a o (fun z => by rw [z, hx] at e; cases e) (X a o e)
theorem one_fits (v : Value) : [v].length ≤ sizeLine := by
  rw [sizeLine_eq]
  show 1 ≤ _
  omega
theorem init1 (T : ErrCls K C B) {pl : Sem Bool} {q P : Str} {params : Arguments} {scope : Scope} {fI cc cda x t0 : Addr} {v : Value} {mg mb : Str → Option Value} {p0 p1 p2 p3 p4 p5 p6 p7 p8 p9 : Pos}
    (J : InitFn prog K q params [.Expr (.Call (.Attribute (.Call (.Name "super" p0) [] [] p1) "__init__" p2) [.Name P p3] [] p4) p5, .Assign [.Attribute (.Name "self" p6) P p7] (.Name P p8) p9] scope C fI cc cda)
    (hPl : scope.names.lookup P = some .local) (hdb : (P == ("__debug__" : Str)) = false) (hsd : (("self" : Str) == P) = false) (hno : findIn K (.ref C) P = some none) (hco : scope.isCoroutine = false) (hgen : scope.isGenerator = false) (hcell : ∀ y ∈ scope.names, y.2 ≠ .cell)
    (hbind : ∀ (s : Shared) (kV doc pm : Value) (an : Option Addr) (ct : Value), BindsTo s (ksFn "__init__" q params [.Expr (.Call (.Attribute (.Call (.Name "super" p0) [] [] p1) "__init__" p2) [.Name P p3] [] p4) p5, .Assign [.Attribute (.Name "self" p6) P p7] (.Name P p8) p9] scope .none kV doc pm an (.ref cda) ct cc) ⟨[.ref x, v], []⟩ [("self", .ref x), (P, v)])
    (he : ∀ L, eval (.Call (.Attribute (.Call (.Name "super" p0) [] [] p1) "__init__" p2) [.Name P p3] [] p4) (ksEnv q scope L fI (.ref cda) cc) = (do
      let ov ← attributeBase (.Call (.Name "super" p0) [] [] p1) "__init__" (ksEnv q scope L fI (.ref cda) cc) (eval (.Call (.Name "super" p0) [] [] p1) (ksEnv q scope L fI (.ref cda) cc))
      standAt p2.atName
      let (f, first) ← holding [ov] (getMethod ov "__init__" pl)
      callWith p4 f first (backTo p4 (starEach [.Name P p3] (ksEnv q scope L fI (.ref cda) cc))) []))
    (hse : ∀ L, starEach [.Name P p3] (ksEnv q scope L fI (.ref cda) cc) = (false, eval (.Name P p3) (ksEnv q scope L fI (.ref cda) cc)) :: starEach [] (ksEnv q scope L fI (.ref cda) cc))
    (hi : ∀ L, interactive (ksEnv q scope L fI (.ref cda) cc) = false) (hsw : ∀ L, swapsWith (.Call (.Attribute (.Call (.Name "super" p0) [] [] p1) "__init__" p2) [.Name P p3] [] p4) none p5.line (ksEnv q scope L fI (.ref cda) cc) = pure false)
    (hsw2 : ∀ L, swapsWith (.Name P p8) (some (.Attribute (.Name "self" p6) P p7)) p9.line (ksEnv q scope L fI (.ref cda) cc) = pure false)
    (X : K.In hp) (hlim : hp.NoLimit) (hroom : A.depth < recursionLimit) (hg : hp.Ns mainGlobals mg) (hs : mg "super" = none) (hb : hp.Ns builtinsNs mb) (hbb : mb "super" = some (.type "super")) (hxo : hp.get? x = some (HandSPX.excO C t0)) (hnx : K.lookup x = none)
    (hq : ∀ h' tk dx t1, (∀ b o, b ≠ x → hp.get? b = some o → h'.get? b = some o) → hp.objs.size ≤ dx → dx ≠ x → h'.get? x = some { cls := .ref C, dict := some dx, data := .fields #[.ref t1, .none, .none, .none, .bool false, .none] } →
      h'.Ns1 dx (fun y => if y = P then some v else none) → R (.ok (.ret .none)) ⟨h', g, d, tk, os⟩) :
    codeAny (model prog w) A (.call (.ref fI) ⟨[.ref x, v], []⟩) R ⟨hp, g, d, t, os⟩ := by
  obtain ⟨oc, od, kV, doc, pm, an, ct, osl, hf⟩ := J.fn
  refine ks_codeAny_call_defAt hroom (X _ _ hf) rfl hlim (codeRec_of X J.cod) rfl (hbind _ kV doc pm an ct) hcell (fun y hy => ?_) (fun h1 hns kp => ?_) hco hgen J.kf
  · simp only [List.mem_cons, List.not_mem_nil, or_false] at hy
    rcases hy with rfl | rfl
    · exact J.ka
    · exact hPl
  have X1 : K.In h1 := X.keeps kp
  have mS : (fun y => List.lookup y ([("self", Value.ref x), (P, v)] : List (Str × Value)).reverse) "self" = some (.ref x) := by
    show List.lookup ("self" : Str) [(P, v), ("self", Value.ref x)] = _
    simp [List.lookup, hsd]
  have mP : (fun y => List.lookup y ([("self", Value.ref x), (P, v)] : List (Str × Value)).reverse) P = some v := by
    show List.lookup P [(P, v), ("self", Value.ref x)] = _
    simp [List.lookup]
  have xL : hp.objs.size ≠ x := Nat.ne_of_gt (Heap.lt_size hxo)
  show _root_.PySem.wpAt (model prog w) _ _ (execs _ (ksEnv q scope hp.objs.size fI (.ref cda) cc)) _ _ _
  have h1L : hp.objs.size < h1.objs.size := hns.lt
  refine ks_wpAt_execs_cons (ks_wpAt_Expr_any (sup_init (us := [v]) (pl := pl) T J X1 (hg.keeps kp) hs (hb.keeps kp) hbb hns mS (kp _ _ hxo) (one_fits v) (fun h2 t2 k2 Q' hQ => ?_) (fun h2 t2 t1 k2 hx2 => ?_) (he _) (hse _) rfl) (hi _) (hsw _))
  · have hn2 : h2.Ns hp.objs.size (fun y => List.lookup y ([("self", Value.ref x), (P, v)] : List (Str × Value)).reverse) := hns.keeps k2
    exact PyProof.Rows.spliced_more (rd_loc hn2 mP J.kf hPl hdb (PyProof.Rows.spliced_none hQ)) (hse _)
  · have X2 : K.In h2 := in_but X1 hnx k2
    have hn2 : h2.Ns hp.objs.size (fun y => List.lookup y ([("self", Value.ref x), (P, v)] : List (Str × Value)).reverse) := hns.at fun o e => k2 _ _ xL e
    refine ks_wpAt_execs_cons (ks_wpAt_Assign_Attr (PySem.wpAt_of_wpAny (rd_loc hn2 mP J.kf hPl hdb (rd_loc hn2 mS J.kf J.ka (by decide) ?_))) (hsw2 _))
    refine set_first T X2 hx2 hno fun h3 t3 dx k3 dn dne hx3 hn3 => ?_
    refine PySem.wpAt_of_wpAny (wpAny_execs_nil ?_)
    refine hq h3 _ dx t1 (fun b o hb ho => k3 b o hb (k2 b o hb (kp b o ho))) ?_ dne hx3 hn3
    exact Nat.le_trans (Nat.le_of_lt hn2.lt) dn
end
end MX

set_option Elab.async false
set_option linter.all false
set_option maxRecDepth 100000
set_option maxHeartbeats 2000000
/-! An error is made: C(v). -/
namespace MX
open PySem PySem.W PySem.Calls PyProof.Rows Builtin Builtin.ObjectAttr
/-- what an __init__ of one parameter does: a fresh error at x gets its args anew and a dict of one entry -/
def Init1 (prog : Program) (w : World) (K : Frag) (mg : Str → Option Value) (C fI : Addr) (P : Str) : Prop :=
  ∀ (A : Around) (R : Result → Shared → Prop) (hp : Heap) (g : Array GenState) (d : Drawn) (t : Nat) (os : OsState) (x t0 : Addr) (v : Value) (mb : Str → Option Value), K.In hp → hp.NoLimit → A.depth < recursionLimit → hp.Ns mainGlobals mg → hp.Ns builtinsNs mb → mb "super" = some (.type "super") →
    hp.get? x = some (HandSPX.excO C t0) → K.lookup x = none →
    (∀ h' tk dx t1, (∀ b o, b ≠ x → hp.get? b = some o → h'.get? b = some o) → hp.objs.size ≤ dx → dx ≠ x → h'.get? x = some { cls := .ref C, dict := some dx, data := .fields #[.ref t1, .none, .none, .none, .bool false, .none] } →
      h'.Ns1 dx (fun y => if y = P then some v else none) → R (.ok (.ret .none)) ⟨h', g, d, tk, os⟩) →
    codeAny (model prog w) A (.call (.ref fI) ⟨[.ref x, v], []⟩) R ⟨hp, g, d, t, os⟩
/-- a made error -/
structure Made1 (h h' : Heap) (e C dx : Addr) (P : Str) (v : Value) : Prop where
  keep : ∀ b o, h.get? b = some o → h'.get? b = some o
  new : h.objs.size ≤ e
  obj : ∃ t1 : Addr, h'.get? e = some { cls := .ref C, dict := some dx, data := .fields #[.ref t1, .none, .none, .none, .bool false, .none] }
  dbig : h.objs.size ≤ dx
  dne : dx ≠ e
  ns : h'.Ns1 dx (fun y => if y = P then some v else none)
section
variable {prog : Program} {w : World} {A : Around} {R : Result → Shared → Prop} {K : Frag} {C B fI : Addr} {mg mb : Str → Option Value} {P : Str} {hp : Heap} {g : Array GenState} {d : Drawn} {t : Nat} {os : OsState}
theorem made1 (T : ErrCls K C B) (iC : findIn K (.ref C) "__init__" = some (some (.ref fI))) (tI : typeIn K (.ref fI) = some (.type "function")) (Hi : Init1 prog w K mg C fI P) {v : Value} (X : K.In hp) (hlim : hp.NoLimit) (hroom : A.depth + 1 < recursionLimit)
    (hg : hp.Ns mainGlobals mg) (hb : hp.Ns builtinsNs mb) (hbb : mb "super" = some (.type "super")) (hq : ∀ h' tk e dx, Made1 hp h' e C dx P v → R (.ok (.ret (.ref e))) ⟨h', g, d, tk, os⟩) :
    codeAny (model prog w) A (.call (.ref C) ⟨[v], []⟩) R ⟨hp, g, d, t, os⟩ := by
  obtain ⟨nm, q1, N, bs, sn, sub, ab, col, dd, k0, k1, k2, k3, k5, hC⟩ := T.cls
  have up : ∀ b o, hp.get? b = some o → ((hp.push (kdv_tup [v])).push (HandSPX.excO C hp.objs.size)).get? b = some o := fun b o z => Heap.get?_push_of_some _ (Heap.get?_push_of_some _ z)
  have at_ : ((hp.push (kdv_tup [v])).push (HandSPX.excO C hp.objs.size)).get? (hp.objs.size + 1) = some (HandSPX.excO C hp.objs.size) := by heap_get
  have sz : ((hp.push (kdv_tup [v])).push (HandSPX.excO C hp.objs.size)).objs.size = hp.objs.size + 2 := by rw [Heap.size_push, Heap.size_push]
  have nx : K.lookup (hp.objs.size + 1) = none := by
    cases z : K.lookup (hp.objs.size + 1) with
    | none => rfl
    | some o => exact absurd (Nat.lt_of_succ_lt (Heap.lt_size (X _ _ z))) (Nat.lt_irrefl _)
  refine HandSPX.call_own F.excBase_Exception (bTail B) (X _ _ hC) (looks_findIn X iC) (fun self => bind_fn X self tI) (one_fits v) ?_
  refine Hi _ _ _ g d t os _ hp.objs.size v mb (X.keeps up) (hlim.keeps up) ?_ (hg.keeps up) (hb.keeps up) hbb at_ nx fun h1 t1 dx a1 k1 dn dne hx hn => ?_
  · show A.depth + 1 < recursionLimit
    exact hroom
  · rw [sz] at dn
    exact ⟨rfl, hq h1 t1 _ dx ⟨fun b o z => k1 b o (Nat.ne_of_lt (Nat.lt_succ_of_lt (Heap.lt_size z))) (up b o z), Nat.le_succ _, ⟨_, hx⟩, Nat.le_trans (Nat.le_add_right _ 2) dn, dne, hn⟩⟩
end
end MX

set_option Elab.async false
set_option linter.all false
set_option maxRecDepth 100000
set_option maxHeartbeats 2000000
/-! raise C(v), as a rule. -/
namespace MM
open PySem PySem.Spec PyProof.Rows L2

theorem relO_one {P : Str} {v : V} {u : Value} (r : RelV v u) (f : Str) : RelO (List.lookup f [(P, v)]) (if f = P then some u else none) := by
  by_cases z : f = P
  · subst z
    simp only [List.lookup, beq_self_eq_true, if_true]
    exact r
  · have zb : (f == P) = false := beq_eq_false_iff_ne.mpr z
    simp only [List.lookup, zb, if_neg z]
    trivial
/-- what the walk asks of an error class -/
structure ErrOf (K : PySem.W.Frag) (mg : Str → Option Value) (nm : Str) (C B fI : Addr) : Prop where
  cls : MX.ErrCls K C B
  gC : mg nm = some (.ref C)
  iC : PySem.W.findIn K (.ref C) "__init__" = some (some (.ref fI))
  tI : PySem.W.typeIn K (.ref fI) = some (.type "function")
  kC : PySem.W.keepIn K (.ref C) = true
  exC : PySem.W.subIn K (.ref C) (.type "BaseException") = some true
  tyC : PySem.W.typeIn K (.ref C) = some (.type "type")
section
variable {X : Cx} {nm P : Str} {C B fI : Addr} {a : Expr} {ta : TA} {p pos pos2 : Pos} {k : Nat}
def tMk1 (C : Addr) (P : Str) (ta : TA) : L2.St → Hp → XK → Prop := fun σ H Q => ta σ H fun vs H1 => ∃ v, vs = [v] ∧ ∀ dx, H1 dx = none → Q (.ref C) (some dx) (upd H1 dx (.xd [(P, v)]))
theorem pmk1 (T : ErrOf X.K X.mg nm C B fI) (Hi : MX.Init1 X.prog X.w X.K X.mg C fI P) (hr : Room k X.A) (ha : PA X [a] ta) (hg : Gl X nm := by rfl) (hdb : (nm == ("__debug__" : Str)) = false := by decide)
    (he : starEach (a :: []) X.env = (false, eval a X.env) :: starEach [] X.env := by rfl) (hpl : (backTo pos (starEach [] X.env)).any (·.1) = false := by rfl) : PMk X (.Call (.Name nm p) [a] [] pos) (tMk1 C P ta) := by
  intro pins s σ H Q I h
  refine wpAny_Call_Name_kw (ld_glob I hg T.gC ?_ hdb)
  refine PySem.W.callWith_K (h₀ := X.base) I.ok.mod.kin T.kC (thn (ha.run pos pins s σ H _ I h) fun us s1 ⟨vs, H1, I1, r1, v, ev, q1⟩ => ⟨I1.kIn, ?_⟩) he hpl
  subst ev
  obtain ⟨u, rfl, rv⟩ := vals1 r1
  show wpAny _ _ (call (.ref C) [u]) _ _ _
  have hlim := I1.nolimit
  obtain ⟨mb, hb, hbb⟩ := I1.mod.blt
  have hgm := I1.mod.glob
  have bk := I1.bk
  obtain ⟨hp, g, dr, tk, os⟩ := s1
  refine wpAny_call (MX.made1 T.cls T.iC T.tI Hi I1.kIn hlim (by have := hr.dp; omega) (hgm.keeps bk) (hb.keeps bk) (hbb _ (by decide)) fun h' tk' e dx M => ?_)
  show MkP X pins σ Q (.ref e) ⟨h', g, dr, tk', os⟩
  obtain ⟨t1, hoe⟩ := M.obj
  have old_sz : ∀ b o, hp.get? b = some o → b ≠ e := fun b o q => Nat.ne_of_lt (Nat.lt_of_lt_of_le (Heap.lt_size q) M.new)
  -- the heap read without the error itself
  obtain ⟨G, g1, g2⟩ := restrict h' fun b => decide (b ≠ e)
  have same : ∀ b, b ≠ e → G.get? b = h'.get? b := fun b z => g1 b (decide_eq_true z)
  have gone : G.get? e = none := g2 e (by simp)
  have kept : ∀ b o, hp.get? b = some o → G.get? b = some o := fun b o q => by
    rw [same b (old_sz b o q)]
    exact M.keep b o q
  have shape : ObjOk X.prog X.w (upd H1 dx (.xd [(P, v)])) G dx (.xd [(P, v)]) := by
    refine ⟨_, M.ns.at (fun o q => ?_), relO_one rv⟩
    rw [same dx M.dne]
    exact q
  have I2 : L2.Inv X pins σ (upd H1 dx (.xd [(P, v)])) ⟨G, g, dr, tk, os⟩ := I1.laid (t' := tk) kept M.dbig shape
  have hne : (upd H1 dx (.xd [(P, v)])) e = none := by
    rw [upd_ne (Ne.symm M.dne)]
    exact I1.hok.fresh M.new
  have lift : ∀ b o, G.get? b = some o → h'.get? b = some o := fun b o q => by
    by_cases z : b = e
    · rw [z, gone] at q
      cases q
    · rw [← same b z]
      exact q
  exact ⟨e, _, _, ⟨G, g, dr, tk, os⟩, _, .ref C, some dx, rfl, I2, lift, gone, hoe, ⟨rfl, rfl⟩, rfl, rfl, hne, rfl, I1.bare, raises_own T.exC T.tyC, q1 dx (I1.hok.fresh M.dbig)⟩
end
end MM

set_option Elab.async false
set_option linter.all false
set_option maxRecDepth 100000
set_option maxHeartbeats 2000000
/-! raise C(v) on mirrors. -/
namespace MM
open PySem PySem.Spec PyProof.Rows L2
/-- the error holds what it was made of -/
def mRaise1 (nm P : Str) (mas : MA) : MS := fun σ S => (mas σ S).toO σ fun xs S1 => match xs with
  | [d] => if d.pure then .ex ⟨nm, [(P, d)]⟩ σ S1 else .no
  | _ => .no
section
variable {X : Cx} {nm P : Str} {C B fI : Addr} {a : Expr} {mas : MA} {p pos pos2 : Pos} {k : Nat} {E : WX}
theorem s_raise1 (hc : X.calm = true) (tk : Takes X E) (T : ErrOf X.K X.mg nm C B fI) (Hi : MX.Init1 X.prog X.w X.K X.mg C fI P) (hn : PySem.W.nsIn X.K mainGlobals nm = some (some (.ref C))) (hr : Room k X.A) (ha : PA X [a] (tA X.K E mas)) (hg : Gl X nm := by rfl) (hdb : (nm == ("__debug__" : Str)) = false := by decide)
    (he : starEach (a :: []) X.env = (false, eval a X.env) :: starEach [] X.env := by rfl) (hpl : (backTo pos (starEach [] X.env)).any (·.1) = false := by rfl) : PS X (.Raise (some (.Call (.Name nm p) [a] [] pos)) none pos2) (tS X.K E (mRaise1 nm P mas)) := by
  refine (ps_raise hc tk (pmk1 T Hi hr ha hg hdb he hpl)).imp ?_
  rintro D τ H ⟨F, μ, σ, S, W, hs, h⟩
  refine ⟨F, μ, σ, S, W, hs, (DoneS.split W hs h).mono fun xs S1 H1 F1 μ1 e1 W1 h1 vs q => ?_⟩
  match xs, q, h1 with
  | [d], q, h1 =>
    cases q with
    | cons rv rn =>
      rename_i v us
      cases rn
      refine ⟨v, rfl, fun dx hdx => ?_⟩
      obtain ⟨w2, e2⟩ := W1.newF (o := .xd [(P, v)]) hdx
      by_cases z : d.pure = true
      · have h1 : DoneS X.K E H1 F1 μ1 S1 (if d.pure then .ex ⟨nm, [(P, d)]⟩ σ S1 else .no) D := h1
        rw [if_pos z] at h1
        have up : ∀ b o, F1 b = some o → upd F1 dx (.xd [(P, v)]) b = some o := fun b o q => by
          by_cases y : b = dx
          · rw [y, W1.fnone hdx] at q; cases q
          · rw [upd_ne y]; exact q
        exact h1 _ _ _ τ _ _ e2 w2 ((hs.ext e1).ext e2) ⟨by simp [pureAll, z], ⟨C, rfl, hn⟩, .inr ⟨dx, _, rfl, upd_same, rfl, .cons (rv.mono up fun _ _ h => h) .nil⟩⟩
      · have h1 : DoneS X.K E H1 F1 μ1 S1 (if d.pure then .ex ⟨nm, [(P, d)]⟩ σ S1 else .no) D := h1
        rw [if_neg z] at h1
        exact h1.elim
  | [], q, h1 => exact False.elim h1
  | _ :: _ :: _, q, h1 => exact False.elim h1
end
end MM

set_option Elab.async false
set_option linter.all false
set_option maxRecDepth 100000
set_option maxHeartbeats 2000000
/-! __init__(self, p, r). -/
namespace MX
open PySem PySem.W PySem.Calls PyProof.Rows Builtin Builtin.ObjectAttr
section
variable {prog : Program} {w : World} {A : Around} {E : Value → Shared → Prop} {R : Result → Shared → Prop} {K : Frag} {C B : Addr} {hp : Heap} {g : Array GenState} {d : Drawn} {t : Nat} {os : OsState}
theorem two_fits (v v2 : Value) : [v, v2].length ≤ sizeLine := by
  rw [sizeLine_eq]
  show 2 ≤ _
  omega
theorem init2 (T : ErrCls K C B) {pl : Sem Bool} {q P P2 : Str} {params : Arguments} {scope : Scope} {fI cc cda x t0 : Addr} {v v2 : Value} {mg mb : Str → Option Value} {p0 p1 p2 p3 p4 p5 p6 p7 p8 p9 p10 p11 p12 p13 p14 : Pos}
    (J : InitFn prog K q params [.Expr (.Call (.Attribute (.Call (.Name "super" p0) [] [] p1) "__init__" p2) [.Name P p3, .Name P2 p10] [] p4) p5, .Assign [.Attribute (.Name "self" p6) P p7] (.Name P p8) p9, .Assign [.Attribute (.Name "self" p11) P2 p12] (.Name P2 p13) p14] scope C fI cc cda)
    (hPl : scope.names.lookup P = some .local) (hPl2 : scope.names.lookup P2 = some .local) (hPP : (P == P2) = false) (hdb2 : (P2 == ("__debug__" : Str)) = false) (hsd2 : (("self" : Str) == P2) = false) (hno2 : findIn K (.ref C) P2 = some none) (hdb : (P == ("__debug__" : Str)) = false) (hsd : (("self" : Str) == P) = false) (hno : findIn K (.ref C) P = some none) (hco : scope.isCoroutine = false) (hgen : scope.isGenerator = false) (hcell : ∀ y ∈ scope.names, y.2 ≠ .cell)
    (hbind : ∀ (s : Shared) (kV doc pm : Value) (an : Option Addr) (ct : Value), BindsTo s (ksFn "__init__" q params [.Expr (.Call (.Attribute (.Call (.Name "super" p0) [] [] p1) "__init__" p2) [.Name P p3, .Name P2 p10] [] p4) p5, .Assign [.Attribute (.Name "self" p6) P p7] (.Name P p8) p9, .Assign [.Attribute (.Name "self" p11) P2 p12] (.Name P2 p13) p14] scope .none kV doc pm an (.ref cda) ct cc) ⟨[.ref x, v, v2], []⟩ [("self", .ref x), (P, v), (P2, v2)])
    (he : ∀ L, eval (.Call (.Attribute (.Call (.Name "super" p0) [] [] p1) "__init__" p2) [.Name P p3, .Name P2 p10] [] p4) (ksEnv q scope L fI (.ref cda) cc) = (do
      let ov ← attributeBase (.Call (.Name "super" p0) [] [] p1) "__init__" (ksEnv q scope L fI (.ref cda) cc) (eval (.Call (.Name "super" p0) [] [] p1) (ksEnv q scope L fI (.ref cda) cc))
      standAt p2.atName
      let (f, first) ← holding [ov] (getMethod ov "__init__" pl)
      callWith p4 f first (backTo p4 (starEach [.Name P p3, .Name P2 p10] (ksEnv q scope L fI (.ref cda) cc))) []))
    (hse : ∀ L, starEach [.Name P p3, .Name P2 p10] (ksEnv q scope L fI (.ref cda) cc) = (false, eval (.Name P p3) (ksEnv q scope L fI (.ref cda) cc)) :: starEach [.Name P2 p10] (ksEnv q scope L fI (.ref cda) cc))
    (hse2 : ∀ L, starEach [.Name P2 p10] (ksEnv q scope L fI (.ref cda) cc) = (false, eval (.Name P2 p10) (ksEnv q scope L fI (.ref cda) cc)) :: starEach [] (ksEnv q scope L fI (.ref cda) cc))
    (hpl : ∀ L, (backTo p4 (starEach [.Name P2 p10] (ksEnv q scope L fI (.ref cda) cc))).any (·.1) = false)
    (hsw3 : ∀ L, swapsWith (.Name P2 p13) (some (.Attribute (.Name "self" p11) P2 p12)) p14.line (ksEnv q scope L fI (.ref cda) cc) = pure false)
    (hi : ∀ L, interactive (ksEnv q scope L fI (.ref cda) cc) = false) (hsw : ∀ L, swapsWith (.Call (.Attribute (.Call (.Name "super" p0) [] [] p1) "__init__" p2) [.Name P p3, .Name P2 p10] [] p4) none p5.line (ksEnv q scope L fI (.ref cda) cc) = pure false)
    (hsw2 : ∀ L, swapsWith (.Name P p8) (some (.Attribute (.Name "self" p6) P p7)) p9.line (ksEnv q scope L fI (.ref cda) cc) = pure false)
    (X : K.In hp) (hlim : hp.NoLimit) (hroom : A.depth < recursionLimit) (hg : hp.Ns mainGlobals mg) (hs : mg "super" = none) (hb : hp.Ns builtinsNs mb) (hbb : mb "super" = some (.type "super")) (hxo : hp.get? x = some (HandSPX.excO C t0)) (hnx : K.lookup x = none)
    (hq : ∀ h' tk dx t1, (∀ b o, b ≠ x → hp.get? b = some o → h'.get? b = some o) → hp.objs.size ≤ dx → dx ≠ x → h'.get? x = some { cls := .ref C, dict := some dx, data := .fields #[.ref t1, .none, .none, .none, .bool false, .none] } →
      h'.Ns1 dx (fun y => if y = P2 then some v2 else if y = P then some v else none) → R (.ok (.ret .none)) ⟨h', g, d, tk, os⟩) :
    codeAny (model prog w) A (.call (.ref fI) ⟨[.ref x, v, v2], []⟩) R ⟨hp, g, d, t, os⟩ := by
  obtain ⟨oc, od, kV, doc, pm, an, ct, osl, hf⟩ := J.fn
  refine ks_codeAny_call_defAt hroom (X _ _ hf) rfl hlim (codeRec_of X J.cod) rfl (hbind _ kV doc pm an ct) hcell (fun y hy => ?_) (fun h1 hns kp => ?_) hco hgen J.kf
  · simp only [List.mem_cons, List.not_mem_nil, or_false] at hy
    rcases hy with rfl | rfl | rfl
    · exact J.ka
    · exact hPl
    · exact hPl2
  have X1 : K.In h1 := X.keeps kp
  have mS : (fun y => List.lookup y ([("self", Value.ref x), (P, v), (P2, v2)] : List (Str × Value)).reverse) "self" = some (.ref x) := by
    show List.lookup ("self" : Str) [(P2, v2), (P, v), ("self", Value.ref x)] = _
    simp [List.lookup, hsd, hsd2]
  have mP : (fun y => List.lookup y ([("self", Value.ref x), (P, v), (P2, v2)] : List (Str × Value)).reverse) P = some v := by
    show List.lookup P [(P2, v2), (P, v), ("self", Value.ref x)] = _
    simp [List.lookup, hPP]
  have mP2 : (fun y => List.lookup y ([("self", Value.ref x), (P, v), (P2, v2)] : List (Str × Value)).reverse) P2 = some v2 := by
    show List.lookup P2 [(P2, v2), (P, v), ("self", Value.ref x)] = _
    simp [List.lookup]
  have xL : hp.objs.size ≠ x := Nat.ne_of_gt (Heap.lt_size hxo)
  show _root_.PySem.wpAt (model prog w) _ _ (execs _ (ksEnv q scope hp.objs.size fI (.ref cda) cc)) _ _ _
  have h1L : hp.objs.size < h1.objs.size := hns.lt
  refine ks_wpAt_execs_cons (ks_wpAt_Expr_any (sup_init (us := [v, v2]) (pl := pl) T J X1 (hg.keeps kp) hs (hb.keeps kp) hbb hns mS (kp _ _ hxo) (two_fits v v2) (fun h2 t2 k2 Q' hQ => ?_) (fun h2 t2 t1 k2 hx2 => ?_) (he _) (hse _) (hpl _)) (hi _) (hsw _))
  · have hn2 : h2.Ns hp.objs.size (fun y => List.lookup y ([("self", Value.ref x), (P, v), (P2, v2)] : List (Str × Value)).reverse) := hns.keeps k2
    exact PyProof.Rows.spliced_more (rd_loc hn2 mP J.kf hPl hdb (PyProof.Rows.spliced_more (rd_loc hn2 mP2 J.kf hPl2 hdb2 (PyProof.Rows.spliced_none hQ)) (hse2 _))) (hse _)
  · have X2 : K.In h2 := in_but X1 hnx k2
    have hn2 : h2.Ns hp.objs.size (fun y => List.lookup y ([("self", Value.ref x), (P, v), (P2, v2)] : List (Str × Value)).reverse) := hns.at fun o e => k2 _ _ xL e
    refine ks_wpAt_execs_cons (ks_wpAt_Assign_Attr (PySem.wpAt_of_wpAny (rd_loc hn2 mP J.kf hPl hdb (rd_loc hn2 mS J.kf J.ka (by decide) ?_))) (hsw2 _))
    refine set_first T X2 hx2 hno fun h3 t3 dx k3 dn dne hx3 hn3 => ?_
    have X3 : K.In h3 := in_but X2 hnx fun b o hb ho => k3 b o hb ho
    have dL : hp.objs.size ≠ dx := Nat.ne_of_lt (Nat.lt_of_lt_of_le hn2.lt dn)
    have hn3' : h3.Ns hp.objs.size (fun y => List.lookup y ([("self", Value.ref x), (P, v), (P2, v2)] : List (Str × Value)).reverse) := hn2.at fun o e => k3 _ _ xL e
    have w3 : Within (fun y => if y = P then some v else none) [P] := fun y u => by
      by_cases z : y = P
      · rw [z]; exact List.mem_cons_self
      · exact absurd (if_neg z) u
    refine ks_wpAt_execs_cons (ks_wpAt_Assign_Attr (PySem.wpAt_of_wpAny (rd_loc hn3' mP2 J.kf hPl2 hdb2 (rd_loc hn3' mS J.kf J.ka (by decide) ?_))) (hsw3 _))
    refine set_more T X3 hx3 hn3 w3 (by simp) hno2 fun h4 t4 k4 hn4 => ?_
    refine PySem.wpAt_of_wpAny (wpAny_execs_nil ?_)
    refine hq h4 _ dx t1 (fun b o hb ho => k4 b o (fun z => ?_) (k3 b o hb (k2 b o hb (kp b o ho)))) ?_ dne (k4 _ _ (Ne.symm dne) hx3) hn4
    · have hlt : b < hp.objs.size := Heap.lt_size ho
      have hdx : hp.objs.size < dx := Nat.lt_of_lt_of_le hn2.lt dn
      rw [z] at hlt
      exact absurd hlt (Nat.lt_asymm hdx)
    · exact Nat.le_trans (Nat.le_of_lt hn2.lt) dn
end
end MX

set_option Elab.async false
set_option linter.all false
set_option maxRecDepth 100000
set_option maxHeartbeats 2000000
/-! Errors of two fields: C(v, r) made, raised. -/
namespace MX
open PySem PySem.W PySem.Calls PyProof.Rows Builtin Builtin.ObjectAttr
/-- what an __init__ of one parameter does: a fresh error at x gets its args anew and a dict of one entry -/
def Init2 (prog : Program) (w : World) (K : Frag) (mg : Str → Option Value) (C fI : Addr) (P P2 : Str) : Prop :=
  ∀ (A : Around) (R : Result → Shared → Prop) (hp : Heap) (g : Array GenState) (d : Drawn) (t : Nat) (os : OsState) (x t0 : Addr) (v v2 : Value) (mb : Str → Option Value), K.In hp → hp.NoLimit → A.depth < recursionLimit → hp.Ns mainGlobals mg → hp.Ns builtinsNs mb → mb "super" = some (.type "super") →
    hp.get? x = some (HandSPX.excO C t0) → K.lookup x = none →
    (∀ h' tk dx t1, (∀ b o, b ≠ x → hp.get? b = some o → h'.get? b = some o) → hp.objs.size ≤ dx → dx ≠ x → h'.get? x = some { cls := .ref C, dict := some dx, data := .fields #[.ref t1, .none, .none, .none, .bool false, .none] } →
      h'.Ns1 dx (fun y => if y = P2 then some v2 else if y = P then some v else none) → R (.ok (.ret .none)) ⟨h', g, d, tk, os⟩) →
    codeAny (model prog w) A (.call (.ref fI) ⟨[.ref x, v, v2], []⟩) R ⟨hp, g, d, t, os⟩
/-- a made error -/
structure Made2 (h h' : Heap) (e C dx : Addr) (P P2 : Str) (v v2 : Value) : Prop where
  keep : ∀ b o, h.get? b = some o → h'.get? b = some o
  new : h.objs.size ≤ e
  obj : ∃ t1 : Addr, h'.get? e = some { cls := .ref C, dict := some dx, data := .fields #[.ref t1, .none, .none, .none, .bool false, .none] }
  dbig : h.objs.size ≤ dx
  dne : dx ≠ e
  ns : h'.Ns1 dx (fun y => if y = P2 then some v2 else if y = P then some v else none)
section
variable {prog : Program} {w : World} {A : Around} {R : Result → Shared → Prop} {K : Frag} {C B fI : Addr} {mg mb : Str → Option Value} {P P2 : Str} {hp : Heap} {g : Array GenState} {d : Drawn} {t : Nat} {os : OsState}
theorem made2 (T : ErrCls K C B) (iC : findIn K (.ref C) "__init__" = some (some (.ref fI))) (tI : typeIn K (.ref fI) = some (.type "function")) (Hi : Init2 prog w K mg C fI P P2) {v v2 : Value} (X : K.In hp) (hlim : hp.NoLimit) (hroom : A.depth + 1 < recursionLimit)
    (hg : hp.Ns mainGlobals mg) (hb : hp.Ns builtinsNs mb) (hbb : mb "super" = some (.type "super")) (hq : ∀ h' tk e dx, Made2 hp h' e C dx P P2 v v2 → R (.ok (.ret (.ref e))) ⟨h', g, d, tk, os⟩) :
    codeAny (model prog w) A (.call (.ref C) ⟨[v, v2], []⟩) R ⟨hp, g, d, t, os⟩ := by
  obtain ⟨nm, q1, N, bs, sn, sub, ab, col, dd, k0, k1, k2, k3, k5, hC⟩ := T.cls
  have up : ∀ b o, hp.get? b = some o → ((hp.push (kdv_tup [v, v2])).push (HandSPX.excO C hp.objs.size)).get? b = some o := fun b o z => Heap.get?_push_of_some _ (Heap.get?_push_of_some _ z)
  have at_ : ((hp.push (kdv_tup [v, v2])).push (HandSPX.excO C hp.objs.size)).get? (hp.objs.size + 1) = some (HandSPX.excO C hp.objs.size) := by heap_get
  have sz : ((hp.push (kdv_tup [v, v2])).push (HandSPX.excO C hp.objs.size)).objs.size = hp.objs.size + 2 := by rw [Heap.size_push, Heap.size_push]
  have nx : K.lookup (hp.objs.size + 1) = none := by
    cases z : K.lookup (hp.objs.size + 1) with
    | none => rfl
    | some o => exact absurd (Nat.lt_of_succ_lt (Heap.lt_size (X _ _ z))) (Nat.lt_irrefl _)
  refine HandSPX.call_own F.excBase_Exception (bTail B) (X _ _ hC) (looks_findIn X iC) (fun self => bind_fn X self tI) (two_fits v v2) ?_
  refine Hi _ _ _ g d t os _ hp.objs.size v v2 mb (X.keeps up) (hlim.keeps up) ?_ (hg.keeps up) (hb.keeps up) hbb at_ nx fun h1 t1 dx a1 k1 dn dne hx hn => ?_
  · show A.depth + 1 < recursionLimit
    exact hroom
  · rw [sz] at dn
    exact ⟨rfl, hq h1 t1 _ dx ⟨fun b o z => k1 b o (Nat.ne_of_lt (Nat.lt_succ_of_lt (Heap.lt_size z))) (up b o z), Nat.le_succ _, ⟨_, hx⟩, Nat.le_trans (Nat.le_add_right _ 2) dn, dne, hn⟩⟩
end
end MX
namespace MM
open PySem PySem.Spec PyProof.Rows L2
theorem relO_two {P P2 : Str} {v v2 : V} {u u2 : Value} (hPP : (P == P2) = false) (r : RelV v u) (r2 : RelV v2 u2) (f : Str) : RelO (List.lookup f [(P, v), (P2, v2)]) (if f = P2 then some u2 else if f = P then some u else none) := by
  by_cases z2 : f = P2
  · subst z2
    have hb : (f == P) = false := by
      rw [beq_eq_false_iff_ne] at hPP ⊢
      exact Ne.symm hPP
    simp only [List.lookup, hb, beq_self_eq_true, if_true]
    exact r2
  · have zb : (f == P2) = false := beq_eq_false_iff_ne.mpr z2
    by_cases z : f = P
    · subst z
      simp only [List.lookup, beq_self_eq_true, if_neg z2, if_true]
      exact r
    · have zc : (f == P) = false := beq_eq_false_iff_ne.mpr z
      simp only [List.lookup, zb, zc, if_neg z, if_neg z2]
      trivial
theorem vals2 {v v2 : V} {us : List Value} (r : Vals [v, v2] us) : ∃ u u2, us = [u, u2] ∧ RelV v u ∧ RelV v2 u2 := by
  cases r with
  | cons a rn =>
    cases rn with
    | cons b rm =>
      cases rm
      exact ⟨_, _, rfl, a, b⟩
section
variable {X : Cx} {nm P P2 : Str} {C B fI : Addr} {a a2 : Expr} {ta : TA} {p pos pos2 : Pos} {k : Nat}
def tMk2 (C : Addr) (P P2 : Str) (ta : TA) : L2.St → Hp → XK → Prop := fun σ H Q => ta σ H fun vs H1 => ∃ v v2, vs = [v, v2] ∧ ∀ dx, H1 dx = none → Q (.ref C) (some dx) (upd H1 dx (.xd [(P, v), (P2, v2)]))
theorem pmk2 (T : ErrOf X.K X.mg nm C B fI) (Hi : MX.Init2 X.prog X.w X.K X.mg C fI P P2) (hPP : (P == P2) = false) (hr : Room k X.A) (ha : PA X [a, a2] ta) (hg : Gl X nm := by rfl) (hdb : (nm == ("__debug__" : Str)) = false := by decide)
    (he : starEach (a :: [a2]) X.env = (false, eval a X.env) :: starEach [a2] X.env := by rfl) (hpl : (backTo pos (starEach [a2] X.env)).any (·.1) = false := by rfl) : PMk X (.Call (.Name nm p) [a, a2] [] pos) (tMk2 C P P2 ta) := by
  intro pins s σ H Q I h
  refine wpAny_Call_Name_kw (ld_glob I hg T.gC ?_ hdb)
  refine PySem.W.callWith_K (h₀ := X.base) I.ok.mod.kin T.kC (thn (ha.run pos pins s σ H _ I h) fun us s1 ⟨vs, H1, I1, r1, v, v2, ev, q1⟩ => ⟨I1.kIn, ?_⟩) he hpl
  subst ev
  obtain ⟨u, u2, rfl, rv, rv2⟩ := vals2 r1
  show wpAny _ _ (call (.ref C) [u, u2]) _ _ _
  have hlim := I1.nolimit
  obtain ⟨mb, hb, hbb⟩ := I1.mod.blt
  have hgm := I1.mod.glob
  have bk := I1.bk
  obtain ⟨hp, g, dr, tk, os⟩ := s1
  refine wpAny_call (MX.made2 T.cls T.iC T.tI Hi I1.kIn hlim (by have := hr.dp; omega) (hgm.keeps bk) (hb.keeps bk) (hbb _ (by decide)) fun h' tk' e dx M => ?_)
  show MkP X pins σ Q (.ref e) ⟨h', g, dr, tk', os⟩
  obtain ⟨t1, hoe⟩ := M.obj
  have old_sz : ∀ b o, hp.get? b = some o → b ≠ e := fun b o q => Nat.ne_of_lt (Nat.lt_of_lt_of_le (Heap.lt_size q) M.new)
  -- the heap read without the error itself
  obtain ⟨G, g1, g2⟩ := restrict h' fun b => decide (b ≠ e)
  have same : ∀ b, b ≠ e → G.get? b = h'.get? b := fun b z => g1 b (decide_eq_true z)
  have gone : G.get? e = none := g2 e (by simp)
  have kept : ∀ b o, hp.get? b = some o → G.get? b = some o := fun b o q => by
    rw [same b (old_sz b o q)]
    exact M.keep b o q
  have shape : ObjOk X.prog X.w (upd H1 dx (.xd [(P, v), (P2, v2)])) G dx (.xd [(P, v), (P2, v2)]) := by
    refine ⟨_, M.ns.at (fun o q => ?_), relO_two hPP rv rv2⟩
    rw [same dx M.dne]
    exact q
  have I2 : L2.Inv X pins σ (upd H1 dx (.xd [(P, v), (P2, v2)])) ⟨G, g, dr, tk, os⟩ := I1.laid (t' := tk) kept M.dbig shape
  have hne : (upd H1 dx (.xd [(P, v), (P2, v2)])) e = none := by
    rw [upd_ne (Ne.symm M.dne)]
    exact I1.hok.fresh M.new
  have lift : ∀ b o, G.get? b = some o → h'.get? b = some o := fun b o q => by
    by_cases z : b = e
    · rw [z, gone] at q
      cases q
    · rw [← same b z]
      exact q
  exact ⟨e, _, _, ⟨G, g, dr, tk, os⟩, _, .ref C, some dx, rfl, I2, lift, gone, hoe, ⟨rfl, rfl⟩, rfl, rfl, hne, rfl, I1.bare, raises_own T.exC T.tyC, q1 dx (I1.hok.fresh M.dbig)⟩
end
/-- the error holds what it was made of -/
def mRaise2 (nm P P2 : Str) (mas : MA) : MS := fun σ S => (mas σ S).toO σ fun xs S1 => match xs with
  | [d, d2] => if d.pure && d2.pure then .ex ⟨nm, [(P, d), (P2, d2)]⟩ σ S1 else .no
  | _ => .no
section
variable {X : Cx} {nm P P2 : Str} {C B fI : Addr} {a a2 : Expr} {mas : MA} {p pos pos2 : Pos} {k : Nat} {E : WX}
theorem s_raise2 (hc : X.calm = true) (tk : Takes X E) (T : ErrOf X.K X.mg nm C B fI) (Hi : MX.Init2 X.prog X.w X.K X.mg C fI P P2) (hPP : (P == P2) = false) (hn : PySem.W.nsIn X.K mainGlobals nm = some (some (.ref C))) (hr : Room k X.A) (ha : PA X [a, a2] (tA X.K E mas)) (hg : Gl X nm := by rfl) (hdb : (nm == ("__debug__" : Str)) = false := by decide)
    (he : starEach (a :: [a2]) X.env = (false, eval a X.env) :: starEach [a2] X.env := by rfl) (hpl : (backTo pos (starEach [a2] X.env)).any (·.1) = false := by rfl) : PS X (.Raise (some (.Call (.Name nm p) [a, a2] [] pos)) none pos2) (tS X.K E (mRaise2 nm P P2 mas)) := by
  refine (ps_raise hc tk (pmk2 T Hi hPP hr ha hg hdb he hpl)).imp ?_
  rintro D τ H ⟨F, μ, σ, S, W, hs, h⟩
  refine ⟨F, μ, σ, S, W, hs, (DoneS.split W hs h).mono fun xs S1 H1 F1 μ1 e1 W1 h1 vs q => ?_⟩
  match xs, q, h1 with
  | [d, d2], q, h1 =>
    cases q with
    | cons rv rn =>
      rename_i v us
      cases rn with
      | cons rv2 rm =>
        rename_i v2 us2
        cases rm
        refine ⟨v, v2, rfl, fun dx hdx => ?_⟩
        obtain ⟨w2, e2⟩ := W1.newF (o := .xd [(P, v), (P2, v2)]) hdx
        have h1 : DoneS X.K E H1 F1 μ1 S1 (if d.pure && d2.pure then .ex ⟨nm, [(P, d), (P2, d2)]⟩ σ S1 else .no) D := h1
        by_cases z : (d.pure && d2.pure) = true
        · rw [if_pos z] at h1
          have z1 : d.pure = true ∧ d2.pure = true := by simpa using z
          have up : ∀ b o, F1 b = some o → upd F1 dx (.xd [(P, v), (P2, v2)]) b = some o := fun b o q => by
            by_cases y : b = dx
            · rw [y, W1.fnone hdx] at q; cases q
            · rw [upd_ne y]; exact q
          exact h1 _ _ _ τ _ _ e2 w2 ((hs.ext e1).ext e2) ⟨by simp [pureAll, z1.1, z1.2], ⟨C, rfl, hn⟩, .inr ⟨dx, _, rfl, upd_same, rfl, .cons (rv.mono up fun _ _ h => h) (.cons (rv2.mono up fun _ _ h => h) .nil)⟩⟩
        · rw [if_neg z] at h1
          exact h1.elim
  | [], q, h1 => exact False.elim h1
  | [_], q, h1 => exact False.elim h1
  | _ :: _ :: _ :: _, q, h1 => exact False.elim h1
end
end MM

set_option Elab.async false
set_option linter.all false
set_option maxRecDepth 100000
set_option maxHeartbeats 2000000
/-! Errors without fields: C() made, raised. -/
namespace MX
open PySem PySem.W PySem.Calls PyProof.Rows Builtin Builtin.ObjectAttr
section
variable {prog : Program} {w : World} {A : Around} {E : Value → Shared → Prop} {R : Result → Shared → Prop} {K : Frag} {C B : Addr} {hp : Heap} {g : Array GenState} {d : Drawn} {t : Nat} {os : OsState}
theorem none_fits : ([] : List Value).length ≤ sizeLine := by
  rw [sizeLine_eq]
  show 0 ≤ _
  omega

theorem sup_init0 (T : ErrCls K C B) {q : Str} {params : Arguments} {body body0 : List Stmt} {scope : Scope} {fI cc cda L x t0 : Addr} {mg mb m : Str → Option Value} {p0 p1 p2 p3 : Pos} {pl : Sem Bool} {Q : Value → Shared → Prop} (J : InitFn prog K q params body scope C fI cc cda) (X : K.In hp)
    (hg : hp.Ns mainGlobals mg) (hs : mg "super" = none) (hb : hp.Ns builtinsNs mb) (hbb : mb "super" = some (.type "super")) (hL : hp.Ns L m) (hx : m "self" = some (.ref x)) (hxo : hp.get? x = some (HandSPX.excO C t0))
    (h : ∀ h' t' t1, (∀ b o, b ≠ x → hp.get? b = some o → h'.get? b = some o) → h'.get? x = some (HandSPX.excO C t1) → Q .none ⟨h', g, d, t', os⟩)
    (he : eval (.Call (.Attribute (.Call (.Name "super" p0) [] [] p1) "__init__" p2) [] [] p3) (ksEnv q scope L fI (.ref cda) cc) = (do
      let ov ← attributeBase (.Call (.Name "super" p0) [] [] p1) "__init__" (ksEnv q scope L fI (.ref cda) cc) (eval (.Call (.Name "super" p0) [] [] p1) (ksEnv q scope L fI (.ref cda) cc))
      standAt p2.atName
      let (f, first) ← holding [ov] (getMethod ov "__init__" pl)
      callWith p3 f first (backTo p3 (starEach [] (ksEnv q scope L fI (.ref cda) cc))) []) := by rfl) :
    _root_.PySem.wpAt (model prog w) A (.func body0 (ksEnv q scope L fI (.ref cda) cc)) (eval (.Call (.Attribute (.Call (.Name "super" p0) [] [] p1) "__init__" p2) [] [] p3) (ksEnv q scope L fI (.ref cda) cc)) Q E ⟨hp, g, d, t, os⟩ := by
  obtain ⟨nm, q1, N, bs, sn, sub, ab, col, dd, k0, k1, k2, k3, k5, hC⟩ := T.cls
  refine ks_wpAt_MethodCall (pl := pl) (sup_obj T J X hg hs hb hbb hL hx hxo (by decide) fun h1 e1 kp1 => ?_) he
  have X1 : K.In h1 := X.keeps kp1
  refine sup_meth T X1 J.exc e1 (kp1 _ _ hxo) ?_
  have kp2 : ∀ y o, hp.get? y = some o → (h1.push (ESX.bw x)).get? y = some o := fun y o z => Heap.get?_push_of_some _ (kp1 y o z)
  show wpAny (model prog w) A (callWith p3 (.ref h1.objs.size) [] (backTo p3 (starEach [] (ksEnv q scope L fI (.ref cda) cc))) []) Q E _
  refine ESX.callWith_bw (x := x) rfl (evalArgs_nil3 ⟨Heap.get?_push_size _ rfl, ?_⟩)
  refine ESX.call_bw (rest := []) (kp2 _ _ (X _ _ hC)) (kp2 _ _ hxo) (Heap.get?_push_size _ rfl) none_fits fun h3 t1 k3 hx3 => ?_
  exact h h3 _ t1 (fun b o hb ho => k3 b o hb (kp2 b o ho)) hx3
theorem init0 (T : ErrCls K C B) {pl : Sem Bool} {q : Str} {params : Arguments} {scope : Scope} {fI cc cda x t0 : Addr} {mg mb : Str → Option Value} {p0 p1 p2 p3 p4 p5 p6 p7 p8 p9 : Pos}
    (J : InitFn prog K q params [.Expr (.Call (.Attribute (.Call (.Name "super" p0) [] [] p1) "__init__" p2) [] [] p4) p5] scope C fI cc cda)
    (hco : scope.isCoroutine = false) (hgen : scope.isGenerator = false) (hcell : ∀ y ∈ scope.names, y.2 ≠ .cell)
    (hbind : ∀ (s : Shared) (kV doc pm : Value) (an : Option Addr) (ct : Value), BindsTo s (ksFn "__init__" q params [.Expr (.Call (.Attribute (.Call (.Name "super" p0) [] [] p1) "__init__" p2) [] [] p4) p5] scope .none kV doc pm an (.ref cda) ct cc) ⟨[.ref x], []⟩ [("self", .ref x)])
    (he : ∀ L, eval (.Call (.Attribute (.Call (.Name "super" p0) [] [] p1) "__init__" p2) [] [] p4) (ksEnv q scope L fI (.ref cda) cc) = (do
      let ov ← attributeBase (.Call (.Name "super" p0) [] [] p1) "__init__" (ksEnv q scope L fI (.ref cda) cc) (eval (.Call (.Name "super" p0) [] [] p1) (ksEnv q scope L fI (.ref cda) cc))
      standAt p2.atName
      let (f, first) ← holding [ov] (getMethod ov "__init__" pl)
      callWith p4 f first (backTo p4 (starEach [] (ksEnv q scope L fI (.ref cda) cc))) []))
    (hi : ∀ L, interactive (ksEnv q scope L fI (.ref cda) cc) = false) (hsw : ∀ L, swapsWith (.Call (.Attribute (.Call (.Name "super" p0) [] [] p1) "__init__" p2) [] [] p4) none p5.line (ksEnv q scope L fI (.ref cda) cc) = pure false)
    (X : K.In hp) (hlim : hp.NoLimit) (hroom : A.depth < recursionLimit) (hg : hp.Ns mainGlobals mg) (hs : mg "super" = none) (hb : hp.Ns builtinsNs mb) (hbb : mb "super" = some (.type "super")) (hxo : hp.get? x = some (HandSPX.excO C t0)) (hnx : K.lookup x = none)
    (hq : ∀ h' tk t1, (∀ b o, b ≠ x → hp.get? b = some o → h'.get? b = some o) → h'.get? x = some (HandSPX.excO C t1) → R (.ok (.ret .none)) ⟨h', g, d, tk, os⟩) :
    codeAny (model prog w) A (.call (.ref fI) ⟨[.ref x], []⟩) R ⟨hp, g, d, t, os⟩ := by
  obtain ⟨oc, od, kV, doc, pm, an, ct, osl, hf⟩ := J.fn
  refine ks_codeAny_call_defAt hroom (X _ _ hf) rfl hlim (codeRec_of X J.cod) rfl (hbind _ kV doc pm an ct) hcell (fun y hy => ?_) (fun h1 hns kp => ?_) hco hgen J.kf
  · simp only [List.mem_cons, List.not_mem_nil, or_false] at hy
    subst hy
    exact J.ka
  have X1 : K.In h1 := X.keeps kp
  have mS : (fun y => List.lookup y ([("self", Value.ref x)] : List (Str × Value)).reverse) "self" = some (.ref x) := by
    show List.lookup ("self" : Str) [("self", Value.ref x)] = _
    simp [List.lookup]
  have xL : hp.objs.size ≠ x := Nat.ne_of_gt (Heap.lt_size hxo)
  show _root_.PySem.wpAt (model prog w) _ _ (execs _ (ksEnv q scope hp.objs.size fI (.ref cda) cc)) _ _ _
  have h1L : hp.objs.size < h1.objs.size := hns.lt
  refine ks_wpAt_execs_cons (ks_wpAt_Expr_any (sup_init0 (pl := pl) T J X1 (hg.keeps kp) hs (hb.keeps kp) hbb hns mS (kp _ _ hxo) (fun h2 t2 t1 k2 hx2 => ?_) (he _)) (hi _) (hsw _))
  refine PySem.wpAt_of_wpAny (wpAny_execs_nil ?_)
  exact hq h2 _ t1 (fun b o hb ho => k2 b o hb (kp b o ho)) hx2
end
end MX

set_option Elab.async false
set_option linter.all false
set_option maxRecDepth 100000
set_option maxHeartbeats 2000000
/-! Errors without fields: the rules. -/
namespace MX
open PySem PySem.W PySem.Calls PyProof.Rows Builtin Builtin.ObjectAttr
/-- what an __init__ without parameters does -/
def Init0 (prog : Program) (w : World) (K : Frag) (mg : Str → Option Value) (C fI : Addr) : Prop :=
  ∀ (A : Around) (R : Result → Shared → Prop) (hp : Heap) (g : Array GenState) (d : Drawn) (t : Nat) (os : OsState) (x t0 : Addr) (mb : Str → Option Value), K.In hp → hp.NoLimit → A.depth < recursionLimit → hp.Ns mainGlobals mg → hp.Ns builtinsNs mb → mb "super" = some (.type "super") →
    hp.get? x = some (HandSPX.excO C t0) → K.lookup x = none →
    (∀ h' tk t1, (∀ b o, b ≠ x → hp.get? b = some o → h'.get? b = some o) → h'.get? x = some (HandSPX.excO C t1) → R (.ok (.ret .none)) ⟨h', g, d, tk, os⟩) →
    codeAny (model prog w) A (.call (.ref fI) ⟨[.ref x], []⟩) R ⟨hp, g, d, t, os⟩
structure Made0 (h h' : Heap) (e C : Addr) : Prop where
  keep : ∀ b o, h.get? b = some o → h'.get? b = some o
  new : h.objs.size ≤ e
  obj : ∃ t1 : Addr, h'.get? e = some (HandSPX.excO C t1)
section
variable {prog : Program} {w : World} {A : Around} {R : Result → Shared → Prop} {K : Frag} {C B fI : Addr} {mg mb : Str → Option Value} {hp : Heap} {g : Array GenState} {d : Drawn} {t : Nat} {os : OsState}
theorem made0 (T : ErrCls K C B) (iC : findIn K (.ref C) "__init__" = some (some (.ref fI))) (tI : typeIn K (.ref fI) = some (.type "function")) (Hi : Init0 prog w K mg C fI) (X : K.In hp) (hlim : hp.NoLimit) (hroom : A.depth + 1 < recursionLimit)
    (hg : hp.Ns mainGlobals mg) (hb : hp.Ns builtinsNs mb) (hbb : mb "super" = some (.type "super")) (hq : ∀ h' tk e, Made0 hp h' e C → R (.ok (.ret (.ref e))) ⟨h', g, d, tk, os⟩) :
    codeAny (model prog w) A (.call (.ref C) ⟨[], []⟩) R ⟨hp, g, d, t, os⟩ := by
  obtain ⟨nm, q1, N, bs, sn, sub, ab, col, dd, k0, k1, k2, k3, k5, hC⟩ := T.cls
  have up : ∀ b o, hp.get? b = some o → ((hp.push (kdv_tup [])).push (HandSPX.excO C hp.objs.size)).get? b = some o := fun b o z => Heap.get?_push_of_some _ (Heap.get?_push_of_some _ z)
  have at_ : ((hp.push (kdv_tup [])).push (HandSPX.excO C hp.objs.size)).get? (hp.objs.size + 1) = some (HandSPX.excO C hp.objs.size) := by heap_get
  have sz : ((hp.push (kdv_tup [])).push (HandSPX.excO C hp.objs.size)).objs.size = hp.objs.size + 2 := by rw [Heap.size_push, Heap.size_push]
  have nx : K.lookup (hp.objs.size + 1) = none := by
    cases z : K.lookup (hp.objs.size + 1) with
    | none => rfl
    | some o => exact absurd (Nat.lt_of_succ_lt (Heap.lt_size (X _ _ z))) (Nat.lt_irrefl _)
  refine HandSPX.call_own F.excBase_Exception (bTail B) (X _ _ hC) (looks_findIn X iC) (fun self => bind_fn X self tI) none_fits ?_
  refine Hi _ _ _ g d t os _ hp.objs.size mb (X.keeps up) (hlim.keeps up) ?_ (hg.keeps up) (hb.keeps up) hbb at_ nx fun h1 t1 a1 k1 hx => ?_
  · show A.depth + 1 < recursionLimit
    exact hroom
  · exact ⟨rfl, hq h1 t1 _ ⟨fun b o z => k1 b o (Nat.ne_of_lt (Nat.lt_succ_of_lt (Heap.lt_size z))) (up b o z), Nat.le_succ _, ⟨_, hx⟩⟩⟩
end
end MX
namespace MM
open PySem PySem.Spec PyProof.Rows L2
section
variable {X : Cx} {nm : Str} {C B fI : Addr} {p pos pos2 : Pos} {k : Nat} {E : WX}
def tMk0 (C : Addr) : L2.St → Hp → XK → Prop := fun σ H Q => Q (.ref C) none H
theorem pmk0 (T : ErrOf X.K X.mg nm C B fI) (Hi : MX.Init0 X.prog X.w X.K X.mg C fI) (hr : Room k X.A) (hg : Gl X nm := by rfl) (hdb : (nm == ("__debug__" : Str)) = false := by decide) : PMk X (.Call (.Name nm p) [] [] pos) (tMk0 C) := by
  intro pins s σ H Q I h
  refine wpAny_Call_Name_kw (ld_glob I hg T.gC ?_ hdb)
  refine PySem.W.callWith_K0 I.kIn T.kC ?_
  show wpAny _ _ (call (.ref C) []) _ _ _
  have hlim := I.nolimit
  obtain ⟨mb, hb, hbb⟩ := I.mod.blt
  have hgm := I.mod.glob
  obtain ⟨hp, g, dr, tk, os⟩ := s
  refine wpAny_call (MX.made0 T.cls T.iC T.tI Hi I.kIn hlim (by have := hr.dp; omega) (hgm.keeps I.bk) (hb.keeps I.bk) (hbb _ (by decide)) fun h' tk' e M => ?_)
  show MkP X pins σ Q (.ref e) ⟨h', g, dr, tk', os⟩
  obtain ⟨t1, hoe⟩ := M.obj
  have ge : hp.get? e = none := by
    cases z : hp.get? e with
    | none => rfl
    | some o => exact absurd (Heap.lt_size z) (Nat.not_lt.mpr M.new)
  exact ⟨e, _, _, ⟨hp, g, dr, tk, os⟩, H, .ref C, none, rfl, I, M.keep, ge, hoe, ⟨rfl, rfl⟩, rfl, rfl, I.hok.fresh M.new, rfl, I.bare, raises_own T.exC T.tyC, h⟩
def mRaise0 (nm : Str) : MS := fun σ S => .ex ⟨nm, []⟩ σ S
theorem s_raise0 (hc : X.calm = true) (tk : Takes X E) (T : ErrOf X.K X.mg nm C B fI) (Hi : MX.Init0 X.prog X.w X.K X.mg C fI) (hn : PySem.W.nsIn X.K mainGlobals nm = some (some (.ref C))) (hr : Room k X.A) (hg : Gl X nm := by rfl) (hdb : (nm == ("__debug__" : Str)) = false := by decide) :
    PS X (.Raise (some (.Call (.Name nm p) [] [] pos)) none pos2) (tS X.K E (mRaise0 nm)) := by
  refine (ps_raise hc tk (pmk0 T Hi hr hg hdb)).imp ?_
  rintro D τ H ⟨F, μ, σ, S, W, hs, h⟩
  have h : DoneS X.K E H F μ S (.ex ⟨nm, []⟩ σ S) D := h
  exact h _ _ _ τ _ _ Ext.refl W hs ⟨rfl, ⟨C, rfl, hn⟩, .inl ⟨rfl, rfl⟩⟩
end
end MM

set_option Elab.async false
set_option linter.all false
set_option maxRecDepth 100000
set_option maxHeartbeats 2000000
/-! The suite of an except .. as: a mode of its own. -/
namespace MM
open PySem PySem.Spec PyProof.Rows L2
theorem RepEx.ext {K : PySem.W.Frag} {H F H1 F1 : Hp} {μ μ1 : List Addr} {S S1 : Store} {e : Ex} {c : Value} {od : Option Addr} (h : RepEx K F μ e c od) (x : Ext H F μ S H1 F1 μ1 S1) : RepEx K F1 μ1 e c od := (h.monoF x.fz).anyMu
section
variable (K : PySem.W.Frag) (E : WX) (k : Nat) (a : Addr) (er : Ex) (cls : Value) (dd : Option Addr)
/-- the error is held in slot k, at a -/
def tEh (m : ME) : TE := fun τ H Q => ∃ F μ σ S, Wd K H F μ S ∧ Sl K F μ σ τ ∧ τ[k]? = some (some (.ref a)) ∧ RepEx K F μ er cls dd ∧ Done K (WE E τ) H F μ S (m σ S) (fun d _ H' F' μ' => ∀ v, Rep K F' μ' d v → Q v H')
def tAh (m : MA) : TA := fun τ H Q => ∃ F μ σ S, Wd K H F μ S ∧ Sl K F μ σ τ ∧ τ[k]? = some (some (.ref a)) ∧ RepEx K F μ er cls dd ∧ Done K (WE E τ) H F μ S (m σ S) (fun d _ H' F' μ' => ∀ v, Reps K F' μ' d v → Q v H')
def tSh (m : MS) : TS := fun D τ H => ∃ F μ σ S, Wd K H F μ S ∧ Sl K F μ σ τ ∧ τ[k]? = some (some (.ref a)) ∧ RepEx K F μ er cls dd ∧ DoneS K E H F μ S (m σ S) D
end
section
variable {X : Cx} {E : WX} {k : Nat} {a : Addr} {er : Ex} {cls : Value} {dd : Option Addr} {x : Expr} {es : List Expr} {mas : MA} {m : ME} {pos : Pos}
theorem h_lift (h : PE X x (tE X.K E m)) : PE X x (tEh X.K E k a er cls dd m) := h.imp fun τ H Q ⟨F, μ, σ, S, W, hs, _, _, h⟩ => ⟨F, μ, σ, S, W, hs, h⟩
theorem h_liftA (h : PA X es (tA X.K E mas)) : PA X es (tAh X.K E k a er cls dd mas) := h.imp fun τ H Q ⟨F, μ, σ, S, W, hs, _, _, h⟩ => ⟨F, μ, σ, S, W, hs, h⟩
theorem h_cons (hx : PE X x (tEh X.K E k a er cls dd m)) (hr : PA X es (tAh X.K E k a er cls dd mas)) (hst : starEach (x :: es) X.env = (false, eval x X.env) :: starEach es X.env := by rfl) : PA X (x :: es) (tAh X.K E k a er cls dd (mCons m mas)) :=
  (pa_cons hx hr hst).imp fun τ H Q ⟨F, μ, σ, S, W, hs, hz, hr, h⟩ => ⟨F, μ, σ, S, W, hs, hz, hr, (h.split W).mono fun d S1 H1 F1 μ1 e1 W1 h1 v q => ⟨F1, μ1, σ, S1, W1, hs.ext e1, hz, hr.ext e1, (h1.split W1).mono fun ds S2 H2 F2 μ2 e2 W2 h2 vs qs => h2.here W2 _ (.cons (q.ext e2) qs)⟩⟩
theorem h_tup {kk} (h : PA X es (tAh X.K E k a er cls dd mas)) : PE X (.Tuple es kk pos) (tEh X.K E k a er cls dd (mTup mas)) := by
  refine (pe_tup h).imp ?_
  rintro τ H Q ⟨F, μ, σ, S, W, hs, hz, hr, h⟩
  refine ⟨F, μ, σ, S, W, hs, hz, hr, (h.split W).mono fun xs S1 H1 F1 μ1 e1 W1 h1 vs q => ?_⟩
  by_cases z : xs.length ≤ 1000000
  · rw [if_pos z] at h1
    refine ⟨by rw [← q.length]; exact lim_ok z, fun p hp => ?_⟩
    obtain ⟨_, _, h2⟩ := h1.newF W1 (o := .tup vs) hp
    exact h2 _ (rep_newT q (W1.fnone hp))
  · rw [if_neg z] at h1; exact h1.elim
theorem h_ret (he : PE X x (tEh X.K E k a er cls dd m)) : PS X (.Return (some x) pos) (tSh X.K E k a er cls dd (mRet m)) :=
  (ps_ret he).imp fun D τ H ⟨F, μ, σ, S, W, hs, hz, hr, h⟩ => ⟨F, μ, σ, S, W, hs, hz, hr, (h.split W hs).mono fun d S1 H1 F1 μ1 e1 W1 h1 v q => h1 H1 F1 μ1 v .refl W1 q⟩
end
end MM

set_option Elab.async false
set_option linter.all false
set_option maxRecDepth 100000
set_option maxHeartbeats 2000000
/-! e.field in the suite. -/
namespace MM
open PySem PySem.Spec PyProof.Rows L2
/-- what reading a field asks of the class -/
structure ErrGet (K : PySem.W.Frag) (C : Addr) (f : Str) : Prop where
  ga : PySem.W.findIn K (.ref C) "__getattribute__" = some (some (.builtin "BaseException.__getattribute__"))
  gg : ∃ gt, PySem.W.findIn K (.ref C) "__getattr__" = some gt
  ex : PySem.W.subIn K (.ref C) (.type "BaseException") = some true
  hd : PySem.W.hasDictIn K C = true
  no : PySem.W.findIn K (.ref C) f = some none
theorem fs_look {K : PySem.W.Frag} {F : Hp} {μ : List Addr} {f : Str} {d : D} : ∀ {fs : List (Str × D)} {us : List (Str × V)}, RepFs K F μ fs us → fs.lookup f = some d → ∃ v, us.lookup f = some v ∧ Rep K F μ d v
  | [], _, _, h => by cases h
  | (n, x) :: fs, [], h, _ => by cases h.1
  | (n, x) :: fs, (n', v) :: us, ⟨h1, h2⟩, h => by
    simp only [List.map_cons, List.cons.injEq] at h1
    obtain ⟨rfl, h1⟩ := h1
    cases h2 with
    | cons r rs =>
      by_cases z : (f == n) = true
      · simp only [List.lookup, z, Option.some.injEq] at h ⊢
        subst h
        exact ⟨_, rfl, r⟩
      · have z : (f == n) = false := by simpa using z
        simp only [List.lookup, z] at h ⊢
        exact fs_look ⟨h1, rs⟩ h
section
variable {X : Cx} {E : WX} {k : Nat} {a : Addr} {er : Ex} {cls : Value} {dd : Option Addr} {oe : Obj} {pn : List (Addr × Obj)} {n f : Str} {p pos : Pos} {d : D}
theorem h_field (hz : Zc cls dd oe) (hf : ∃ vs, oe.data = .fields vs) (hC : ∀ C, PySem.W.nsIn X.K mainGlobals er.cls = some (some (.ref C)) → ErrGet X.K C f) (hl : er.fs.lookup f = some d) (hN : X.N[k]? = some n) (hv : Vis X.env.scope n) (hdb : (n == ("__debug__" : Str)) = false := by decide) (hcd : (n == ("__classdict__" : Str)) = false := by decide)
    (hb : attributeBase (.Name n p) f X.env (eval (.Name n p) X.env) = eval (.Name n p) X.env := by rfl) : PE (X.suite a ((a, oe) :: pn)) (.Attribute (.Name n p) f pos) (tEh X.K E k a er cls dd (mK d)) := by
  refine ⟨fun pins s σ H Q I h => ?_⟩
  obtain ⟨F, μ, σ', S, W, hs, ht, hr, h⟩ := h
  refine attr_of hb (thn ((pe_var (X := X.suite a ((a, oe) :: pn)) hN hv hdb hcd).run pins s σ H (fun v H' => v = .ref a ∧ H' = H) I ⟨_, ht, rfl, rfl⟩) fun u s1 hh => ?_)
  obtain ⟨x, H1, I1, rx, ex, eh⟩ := hh
  subst ex
  subst eh
  obtain rfl : u = Value.ref a := rx
  obtain ⟨C, rfl, hn⟩ := hr.cls
  obtain ⟨gt, hg⟩ := (hC C hn).gg
  rcases hr.dict with ⟨e0, _⟩ | ⟨dx, us, rfl, hF, hfs⟩
  · rw [e0] at hl
    cases hl
  obtain ⟨v, hv1, rv⟩ := fs_look hfs hl
  obtain ⟨ha, _⟩ := I1.pin (a, oe) (List.mem_append_left _ List.mem_cons_self)
  obtain ⟨vs, hdat⟩ := hf
  have hx : ObjOk X.prog X.w H1 s1.heap dx (.xd us) := I1.hok dx _ (W.sub _ _ hF)
  obtain ⟨mA, hns, hrel⟩ := hx
  obtain ⟨od, ho, hlk⟩ := lookIn_ns hns
  obtain ⟨w, hw, rw1⟩ := RelO.some_of (v := v) (o := mA f) (by rw [← hv1]; exact hrel f)
  have J : PySem.W.InstAt s1.heap a oe C (some od) := ⟨ha, hz.1, by unfold PySem.W.notCls; rw [hdat] <;> rfl, by rw [hz.2]; exact ho⟩
  exact HandSPX.exc_get I1.kIn J (hC C hn).ga hg (hC C hn).ex (PySem.W.findObj_own (hC C hn).hd (hC C hn).no rfl (by rw [hlk, hw])) (handed_of rw1) ⟨v, H1, I1.tok _, rw1, h _ _ _ .refl W v rv⟩
end
end MM

set_option Elab.async false
set_option linter.all false
set_option maxRecDepth 100000
set_option maxHeartbeats 4000000
/-! isinstance(e, C) for a caught error that has its own dict. -/
namespace MX
open PySem PySem.W PySem.Calls PyProof.Rows
/-- what the class says -/
structure ErrKit (K : Frag) (D : Addr) : Prop where
  ga : findIn K (.ref D) "__getattribute__" = some (some (.builtin "BaseException.__getattribute__"))
  gg : findIn K (.ref D) "__getattr__" = some none
  ex : subIn K (.ref D) (.type "BaseException") = some true
  hd : hasDictIn K D = true
  cl : findIn K (.ref D) "__class__" = some (some (.builtin "object.__class__"))
  gt : specialIn K (.builtin "object.__class__") "__get__" = some (some (.builtin "getset_descriptor.__get__"))
  tk : takesIn K (.builtin "object.__class__") = some true
  ob : mroIn K D (.type "object") = some true
section
variable {prog : Program} {w : World} {A : Around} {E : Value → Shared → Prop} {s : Shared} {K : Frag} {e D : Addr} {oe : Obj} {od : Option Obj}
theorem ErrKit.cd (T : ErrKit K D) : ∃ cd : ClassData, clsIn K D = some cd := by
  obtain ⟨cd, hc, _⟩ := any_some T.hd
  exact ⟨cd, hc⟩
theorem ErrKit.cls (T : ErrKit K D) : findObj K D od "__class__" = some (.bind (.builtin "getset_descriptor.__get__") (.builtin "object.__class__")) := by
  obtain ⟨cd, hc⟩ := T.cd
  have l1 := T.cl
  have l2 := T.gt
  have l3 := T.tk
  unfold findObj
  rw [hc, Option.bind_some, l1, Option.bind_some]
  simp [l2, l3]
theorem ErrKit.asks (T : ErrKit K D) {Q : Option Value → Shared → Prop} (X : K.In s.heap) (I : InstAt s.heap e oe D od) (q : Q (some (.ref D)) { s with toks := s.toks + 1 }) : wpAny (model prog w) A (getAttr? (.ref e) "__class__") Q E s := by
  obtain ⟨h0, g0, d0, t0, os0⟩ := s
  have ty := I.type (M := model prog w)
  have lga := looks_findIn (M := model prog w) X T.ga
  have lgg := looks_findIn (M := model prog w) X T.gg
  have lcl := looks_find (M := model prog w) X I (T.cls (od := od))
  have isE : Looks (model prog w) h0 (isInstance (.ref e) (.type "BaseException")) true := ty.andThen (looks_subIn X T.ex)
  have b1 : (onTheHeap (Value.ref D) && Value.builtin "BaseException.__getattribute__" == Value.builtin "object.__getattribute__") = false := by
    have b2 : (Value.builtin "BaseException.__getattribute__" == Value.builtin "object.__getattribute__") = false := by decide +kernel
    rw [b2, Bool.and_false]
  have b3 : (false && onTheHeap (Value.builtin "BaseException.__getattribute__")) = false := rfl
  unfold getAttr? getAttrBy? getAttrBy
  refine wpAny_bind (wpAny_mkText (wpAny_bind (wpAny_attempt (wpAny_holding (wpAny_bind (ty.at (wpAny_bind (lga.at ?_))))))))
  dsimp only
  rw [b1, if_neg Bool.false_ne_true]
  unfold getAttrByItsOwn hookBefore
  refine wpAny_bind ?_
  rw [if_pos (show onTheHeap (Value.ref D) = true from rfl)]
  refine lgg.at (wpAny_bind (wpAny_attempt (wpAny_holding ?_)))
  unfold callGetattribute
  rw [b3, if_neg Bool.false_ne_true]
  unfold boundAndCalled
  rw [PySem.F.excAttr_ValueError.ga.bind (.ref e)]
  refine wpAny_bind (wpAny_pure ?_)
  change wpAny _ _ (call (.builtin "BaseException.__getattribute__") [.ref e, .str "__class__" t0]) _ _ _
  refine wpAny_call (codeAny_call_builtin PySem.F.excAttr_ValueError.ga.plain PySem.F.entry_bexc_ga ?_)
  refine @check_slot (model prog w) _ _ ⟨h0, g0, d0, t0 + 1, os0⟩ "BaseException.__getattribute__" "BaseException" "__getattribute__" (.ref e) [.str "__class__" t0] [] _ (by decide +kernel) (by decide +kernel) isE (PySem.F.args_bexc_ga (.ref e) (.str "__class__" t0)) ?_
  unfold Builtin.«object.__getattribute__»
  refine wpAny_bind (wpAny_of_eq (a := ((Value.ref e : Value), [Value.str "__class__" t0])) (by first | rfl | (simp only [slotArgs]; rfl)) ?_)
  refine wpAny_bind (wpAny_pure (wpAny_bind (ty.at (wpAny_bind (lcl.at ?_)))))
  change wpAny _ _ (holding [Value.builtin "object.__class__"] (call (.builtin "getset_descriptor.__get__") [.builtin "object.__class__", .ref e, .ref D]) >>= ret) _ _ _
  refine wpAny_bind (wpAny_holding (wpAny_call (class_get (s := ⟨h0, g0, d0, t0 + 1, os0⟩) (ox := oe) (od := od) X I T.ob ?_)))
  refine wpAny_pure ?_
  change wpAny _ _ (handedOut (.ref D)) _ _ _
  rw [handedOut_of (v := .ref D) rfl]
  first
    | exact wpAny_pure (wpAny_pure q)
    | exact wpAny_pure q
    | exact wpAny_pure (wpAny_bind (wpAny_pure (wpAny_pure q)))
theorem ErrKit.lies (T : ErrKit K D) : ∃ c dd cd sl, K.lookup D = some ⟨c, dd, .cls cd, sl⟩ := by
  obtain ⟨cd, hc⟩ := T.cd
  unfold clsIn at hc
  split at hc
  · rename_i c dd cd' sl ho
    exact ⟨c, dd, cd', sl, ho⟩
  · cases hc
theorem ErrKit.kit (T : ErrKit K D) : KitX K (.ref e) (.ref D) (fun h => InstAt h e oe D od) where
  ty := fun _ _ _ I => I.type
  it := fun _ _ X _ => by
    obtain ⟨c, dd, cd, sl, ho⟩ := T.lies
    intro A' Q' E' s' k q
    unfold isType loadHead
    exact wpAny_bind (wpAny_loadPart (k _ _ (X _ _ ho)) (wpAny_pure q))
  ne := fun h tp d1 its n s1 X htp => by
    obtain ⟨c, dd, cd, sl, ho⟩ := T.lies
    refine Bool.eq_false_iff.mpr fun z => ?_
    have z : D = tp := Value.ref.inj (beq_iff_eq.mp z)
    rw [← z, X _ _ ho] at htp
    cases htp
  ca := fun X I k => T.asks X I k
end
end MX

set_option Elab.async false
set_option linter.all false
set_option maxRecDepth 100000
set_option maxHeartbeats 2000000
/-! try .. except C as e, on mirrors; more rules for its suite. -/
namespace MM
open PySem PySem.Spec PyProof.Rows L2
/-- which of the known classes the clause names -/
abbrev Hits := List (Str × Bool)
def O.back (i : Nat) (o : O) : O := match o with
  | .nx σ S => .nx (σ.set i none) S
  | .bk σ S => .bk (σ.set i none) S
  | .ct σ S => .ct (σ.set i none) S
  | .rt d S => .rt d S
  | _ => .no
def mTry (i : Nat) (hit : Hits) (mb : MS) (mh : Ex → MS) : MS := fun σ S => match mb σ S with
  | .ex e σ1 S1 => match hit.lookup e.cls with
    | some true => if i < σ1.length then (mh e (σ1.set i none) S1).back i else .no
    | some false => .ex e σ1 S1
    | none => .no
  | o => o
/-- what is told of the classes -/
def HitsOk (K : PySem.W.Frag) (c : Value) (hit : Hits) : Prop := ∀ nm b, hit.lookup nm = some b → ∀ C, PySem.W.nsIn K mainGlobals nm = some (some (.ref C)) → PySem.W.exmOne K (.ref C) c = some b
section
variable {X : Cx} {E : WX} {k : Nat} {a : Addr} {er : Ex} {cls : Value} {dd : Option Addr} {x e : Expr} {es rest : List Expr} {mas : MA} {m ma mb : ME} {pos : Pos}
theorem t2h {f : D → D → Store → R D} {K : PySem.W.Frag} {τ H Q} (h : tEh K E k a er cls dd (m2 f ma mb) τ H Q) : tOp (r2 K f) (tEh K E k a er cls dd ma) (tEh K E k a er cls dd mb) τ H Q := by
  obtain ⟨F, μ, σ, S, W, hs, ht, hr, h⟩ := h
  exact ⟨F, μ, σ, S, W, hs, ht, hr, (h.split W).mono fun x S1 H1 F1 μ1 e1 W1 h1 v1 q1 => ⟨F1, μ1, σ, S1, W1, hs.ext e1, ht, hr.ext e1, (h1.split W1).mono fun y S2 H2 F2 μ2 e2 W2 h2 v2 q2 => ⟨_, F2, μ2, S2, x, y, W2, q1.ext e2, q2, h2⟩⟩⟩
theorem h_cmp {op : CmpOp} {a' b' : Expr} {f : D → D → Store → R D} (ho : OpR X (compareOp op) (r2 X.K f)) (ha : PE X a' (tEh X.K E k a er cls dd ma)) (hb : PE X b' (tEh X.K E k a er cls dd mb)) (hm : behindInMarks op b' = false := by first | exact nomark _ | rfl) : PE X (.Compare a' [op] [b'] pos) (tEh X.K E k a er cls dd (m2 f ma mb)) := (pe_cmpR ho ha hb hm).imp fun _ _ _ => t2h
theorem h_op {op : Operator} {a' b' : Expr} {f : D → D → Store → R D} (ho : OpR X (binaryOp op) (r2 X.K f)) (ha : PE X a' (tEh X.K E k a er cls dd ma)) (hb : PE X b' (tEh X.K E k a er cls dd mb)) : PE X (.BinOp a' op b' pos) (tEh X.K E k a er cls dd (m2 f ma mb)) := (pe_op ho ha hb).imp fun _ _ _ => t2h
theorem h_one {op} {a' : Expr} (h : PE X a' (tEh X.K E k a er cls dd m)) : PE X (.BoolOp op [a'] pos) (tEh X.K E k a er cls dd m) := pe_one h
theorem h_and {a' b' : Expr} (ha : PE X a' (tEh X.K E k a er cls dd ma)) (hb : PE X (.BoolOp .And (b' :: rest) pos) (tEh X.K E k a er cls dd mb)) : PE X (.BoolOp .And (a' :: b' :: rest) pos) (tEh X.K E k a er cls dd (mAnd ma mb)) :=
  (pe_and ha hb).imp fun τ H Q h => by
    obtain ⟨F, μ, σ, S, W, hs, ht, hr, h⟩ := h
    refine ⟨F, μ, σ, S, W, hs, ht, hr, (h.split W).mono fun d S1 H1 F1 μ1 e1 W1 h1 v q => ?_⟩
    cases q with
    | bl c =>
      cases c with
      | true => exact ⟨true, rfl, iteT ⟨F1, μ1, σ, S1, W1, hs.ext e1, ht, hr.ext e1, h1⟩⟩
      | false => exact ⟨false, rfl, iteF (h1.here W1 _ (.bl false))⟩
    | _ => exact h1.elim
theorem h_nil : PA X [] (tAh X.K E k a er cls dd mNil) := h_liftA sa_nil
theorem h_set {n : Str} {pos' : Pos} (i : Nat) (hik : i ≠ k) (hN : X.N.Nodup) (he : PE X e (tEh X.K E k a er cls dd m)) (hi : X.N[i]? = some n := by rfl) (hx : Loc X.env.scope n := by first | exact Or.inl rfl | exact Or.inr rfl) (hs : swapsWith e (some (.Name n pos')) pos.line X.env = pure false := by rfl) (hf : X.fn n = true ∨ X.env.scope.names.lookup n = some .local := by first | exact .inl rfl | exact .inr rfl) :
    PS X (.Assign [.Name n pos'] e pos) (tSh X.K E k a er cls dd (mAsg m (gN i))) :=
  (ps_set hN hi hx he hs hf).imp fun D τ H ⟨F, μ, σ, S, W, hs, ht, hr, h⟩ => ⟨F, μ, σ, S, W, hs, ht, hr, (h.split W hs).mono fun d S1 H1 F1 μ1 e1 W1 h1 v q => h1.here W1 ((hs.ext e1).set q)⟩
theorem h_ss {st : Stmt} {ms : MS} (h : PS X st (tSh X.K E k a er cls dd ms)) : PSs X [st] (tSh X.K E k a er cls dd ms) := pss_one h
end
section
variable {X : Cx} {x n : Str} {c : Value} {body suite : List Stmt} {b₀ : Stmt} {np pos pos' : Pos} {E : WX} {mb : MS} {mh : Ex → MS} {hit : Hits}
theorem DoneS.tryD {K : PySem.W.Frag} {H F : Hp} {μ : List Addr} {S : Store} {i : Nat} {o : O} {Dd : Ends} {k : O → O} (hk : ∀ o', k o' = o'.back i) (h : DoneS K E H F μ S (o.back i) Dd) : DoneS K W0 H F μ S o { nx := fun σ' H' => Dd.nx (σ'.set i none) H', rt := Dd.rt, bk := fun σ' H' => Dd.bk (σ'.set i none) H', ct := fun σ' H' => Dd.ct (σ'.set i none) H' } := by
  cases o with
  | nx σ S' => exact fun H' F' μ' τ e w s => h H' F' μ' _ e w s.unset
  | rt d S' => exact fun H' F' μ' v e w s => h H' F' μ' v e w s
  | bk σ S' => exact fun H' F' μ' τ e w s => h H' F' μ' _ e w s.unset
  | ct σ S' => exact fun H' F' μ' τ e w s => h H' F' μ' _ e w s.unset
  | ex e σ S' => exact h.elim
  | no => exact h
/-- THE RULE: try: body except x as n: suite -/
theorem s_try (i : Nat) (hs : X.stack = X.env :: X.outer) (hf : X.env.frame = some X.env.locals) (hN : X.N.Nodup) (hi : X.N[i]? = some n) (hln : X.env.kindOf n = some .local) (hc : Names X x c) (tk : Takes X E) (hh : HitsOk X.K c hit)
    (hb : ∀ (W : WX) (pn : List (Addr × Obj)) (xe : Value → Shared → Prop), Takes (X.tr pn xe) W → PassesOwn (model X.prog X.w) X.A X.env xe → PSs (X.tr pn xe) body (tS X.K W mb))
    (hsu : ∀ (a : Addr) (oe : Obj) (cls : Value) (d : Option Addr) (pn : List (Addr × Obj)) (er : Ex), hit.lookup er.cls = some true → Zc cls d oe → (∃ vs, oe.data = .fields vs) → PSs (X.suite a ((a, oe) :: pn)) (b₀ :: suite) (tSh X.K W0 i a er cls d (mh er))) :
    PS X (.Try body [.ExceptHandler (some (.Name x np)) (some n) (b₀ :: suite) pos'] [] [] pos) (tS X.K E (mTry i hit mb mh)) := by
  refine (ps_try_as (ts := fun a cls d => fun D τ H => ∃ er, hit.lookup er.cls = some true ∧ tSh X.K W0 i a er cls d (mh er) D τ H) (tb := fun W => tS X.K W mb) (Wout := E) hs hf hN hi hln hc tk hb fun a oe cls d pn hz hd => ⟨fun pins s σ H D I ⟨er, he, h⟩ => (hsu a oe cls d pn er he hz hd).run pins s σ H D I h⟩).imp ?_
  rintro D τ H ⟨F, μ, σ, S, W, hsl, h⟩
  have hlt : i < X.N.length := (List.getElem?_eq_some_iff.mp hi).1
  refine ⟨F, μ, σ, S, W, hsl, ?_⟩
  unfold mTry at h
  cases q : mb σ S with
  | nx => rw [q] at h; exact h
  | rt => rw [q] at h; exact h
  | bk => rw [q] at h; exact h
  | ct => rw [q] at h; exact h
  | no => rw [q] at h; exact h
  | ex e σ1 S1 =>
    rw [q] at h
    dsimp only at h
    intro H1 F1 μ1 τ1 c1 od e1 W1 s1 r1
    cases hl : hit.lookup e.cls with
    | none => rw [hl] at h; exact h.elim
    | some b =>
      rw [hl] at h
      obtain ⟨C, rfl, hC⟩ := r1.cls
      refine ⟨b, hh _ _ hl C hC, fun eb a ha => ?_, fun eb => ?_⟩
      · subst eb
        dsimp only at h
        by_cases hi' : i < σ1.length
        · rw [if_pos hi'] at h
          exact ⟨e, hl, F1, μ1, σ1.set i none, S1, W1, s1.hide i, List.getElem?_set_self (by rw [← s1.len]; exact hi'), r1, DoneS.tryD (k := fun o => o.back i) (fun _ => rfl) (DoneS.from W e1 h)⟩
        · rw [if_neg hi'] at h; exact h.elim
      · subst eb
        exact h H1 F1 μ1 τ1 _ od e1 W1 s1 r1
end
end MM

set_option Elab.async false
set_option linter.all false
set_option maxRecDepth 100000
set_option maxHeartbeats 2000000
/-! isinstance(e, C) in the suite. -/
namespace MM
open PySem PySem.Spec PyProof.Rows L2
/-- isinstance(e, c), e the exception that the suite holds, with or without a dict of its own -/
def rIsH (K : PySem.W.Frag) (D a : Addr) : List V → Hp → VK → Prop := fun xs H Q => ∃ (c : V) (cv : Value) (b : Bool), xs = [.ref a, c] ∧ (∀ u, RelV c u → u = cv) ∧ PySem.W.kitOne K (.ref D) cv = some b ∧ Q (.bl b) H
theorem call_isH {X : Cx} {a D : Addr} {oe : Obj} {dd : Option Addr} {pn : List (Addr × Obj)} (C : MX.ErrKit X.K D) (hz : Zc (.ref D) dd oe) (hf : ∃ vs, oe.data = .fields vs) :
    CallR (X.suite a ((a, oe) :: pn)) (.builtin "isinstance") (fun xs H Q => (∀ dx, dd = some dx → ∃ us, H dx = some (.xd us)) ∧ rIsH X.K D a xs H Q) := by
  intro pins s σ H xs us Q I r h
  obtain ⟨hdx, c, cv, b, rfl, hcv, e, q⟩ := h
  cases r with
  | cons rx rr =>
    cases rr with
    | cons rt rr =>
      cases rr
      cases rx
      have ec := hcv _ rt
      subst ec
      obtain ⟨hget, _⟩ := I.pin (a, oe) (List.mem_append.mpr (.inl List.mem_cons_self))
      obtain ⟨vs, hv⟩ := hf
      cases dd with
      | none =>
        have J : PySem.W.InstAt s.heap a oe D none := ⟨hget, hz.1, by unfold PySem.W.notCls; rw [hv] <;> rfl, by rw [hz.2]; trivial⟩
        exact PySem.W.kia_one C.kit I.kIn J e (fun z => nomatch z) fun tk => ⟨.bl b, H, I.kept (t' := tk) fun _ _ z => z, rfl, q⟩
      | some dx =>
        obtain ⟨us, hu⟩ := hdx dx rfl
        have hx : ObjOk X.prog X.w H s.heap dx (.xd us) := I.hok dx _ hu
        obtain ⟨mA, hns, hrel⟩ := hx
        obtain ⟨od, ho, hlk⟩ := lookIn_ns hns
        have J : PySem.W.InstAt s.heap a oe D (some od) := ⟨hget, hz.1, by unfold PySem.W.notCls; rw [hv] <;> rfl, by rw [hz.2]; exact ho⟩
        exact PySem.W.kia_one C.kit I.kIn J e (fun z => nomatch z) fun tk => ⟨.bl b, H, I.kept (t' := tk) fun _ _ z => z, rfl, q⟩
section
variable {X : Cx} {E : WX} {k : Nat} {a D : Addr} {er : Ex} {cls : Value} {dd : Option Addr} {oe : Obj} {pn : List (Addr × Obj)} {n x : Str} {p q r pos : Pos} {b : Bool}
theorem h_isi (hz : Zc cls dd oe) (hf : ∃ vs, oe.data = .fields vs) (hm : X.mg "isinstance" = none) (hD : X.mg x = some (.ref D)) (hC : ∀ C, PySem.W.nsIn X.K mainGlobals er.cls = some (some (.ref C)) → MX.ErrKit X.K C ∧ PySem.W.kitOne X.K (.ref C) (.ref D) = some b)
    (hN : X.N[k]? = some n) (hv : Vis X.env.scope n) (hdb : (n == ("__debug__" : Str)) = false := by decide) (hcd : (n == ("__classdict__" : Str)) = false := by decide) (hg : Gl X "isinstance" := by rfl) (hg2 : Gl X x := by rfl) (hdb2 : (x == ("__debug__" : Str)) = false := by decide)
    (hs : starEach [.Name n p, .Name x q] X.env = (false, eval (.Name n p) X.env) :: starEach [.Name x q] X.env := by rfl) (hs2 : starEach [.Name x q] X.env = (false, eval (.Name x q) X.env) :: starEach [] X.env := by rfl) :
    PE (X.suite a ((a, oe) :: pn)) (.Call (.Name "isinstance" r) [.Name n p, .Name x q] [] pos) (tEh X.K E k a er cls dd (mK (.bl b))) := by
  refine ⟨fun pins s σ H Q I h => ?_⟩
  obtain ⟨F, μ, σ', S, W, hsl, ht, hr, h⟩ := h
  obtain ⟨C, rfl, hn⟩ := hr.cls
  obtain ⟨hk, hkit⟩ := hC C hn
  refine (pe_callB (X := X.suite a ((a, oe) :: pn)) (call_isH hk hz hf) hg hm (by decide +kernel) (pa_cons (pe_var (X := X.suite a ((a, oe) :: pn)) hN hv hdb hcd) (pa_cons (pe_glob (v := .ref D) hg2 hD (rfl : Value.ref D = Value.ref D) hdb2) pa_nil hs2) hs) (by decide) (by decide) hs rfl).run pins s σ H Q I ?_
  refine ⟨.ref a, ht, ?_⟩
  refine ⟨fun dx e => ?_, .ref D, .ref D, b, rfl, fun u z => z, hkit, h.here W _ (.bl b)⟩
  rcases hr.dict with ⟨_, e0⟩ | ⟨dx', us, e1, hF, _⟩
  · rw [e0] at e; cases e
  · rw [e1] at e; cases e
    exact ⟨us, W.sub _ _ hF⟩
end
end MM

set_option Elab.async false
set_option linter.all false
set_option maxRecDepth 100000
set_option maxHeartbeats 2000000
/-! The error classes of a text, as the printed rules want them. -/
namespace MM
open PySem PySem.Spec PyProof.Rows L2
def clsInit (s : Stmt) : Stmt := match s with
  | .ClassDef _ _ _ body _ _ _ _ _ _ _ => body.getD 0 (.Pass ⟨0, 0, 0, 0⟩)
  | _ => .Pass ⟨0, 0, 0, 0⟩
def initB1 (P : Str) (p0 p1 p2 p3 p4 p5 p6 p7 p8 p9 : Pos) : List Stmt := [.Expr (.Call (.Attribute (.Call (.Name "super" p0) [] [] p1) "__init__" p2) [.Name P p3] [] p4) p5, .Assign [.Attribute (.Name "self" p6) P p7] (.Name P p8) p9]
/-- an error class of one parameter -/
structure Err1 (P : Program) (w : World) (K : PySem.W.Frag) (mg : Str → Option Value) (nm p : Str) (C B fI : Addr) : Prop where
  of : ErrOf K mg nm C B fI
  ini : MX.Init1 P w K mg C fI p
  ns : PySem.W.nsIn K mainGlobals nm = some (some (.ref C))
  get : ErrGet K C p
  kit : MX.ErrKit K C
  me : PySem.W.exmOne K (.ref C) (.ref C) = some true
structure Err0 (P : Program) (w : World) (K : PySem.W.Frag) (mg : Str → Option Value) (nm : Str) (C B fI : Addr) : Prop where
  of : ErrOf K mg nm C B fI
  ini : MX.Init0 P w K mg C fI
  ns : PySem.W.nsIn K mainGlobals nm = some (some (.ref C))
  kit : MX.ErrKit K C
  me : PySem.W.exmOne K (.ref C) (.ref C) = some true
/-- the facts that the walk tells of a class -/
structure ErrF (K : PySem.W.Frag) (mg : Str → Option Value) (nm q : Str) (st : Stmt) (C B fI cc cda : Addr) : Prop where
  sup : mg "super" = none
  ns : PySem.W.nsIn K mainGlobals nm = some (some (.ref C))
  gC : mg nm = some (.ref C)
  cls : ∃ nm q N bs sn sub ab col dd k0 k1 k2 k3 k5, K.lookup C = some (excClassObj nm q C N bs (.ref B :: MX.xTail) true sn sub ab col dd k0 k1 k2 k3 k5 "Exception.__new__")
  sa : PySem.W.findIn K (.ref C) "__setattr__" = some (some (.builtin "object.__setattr__"))
  al : PySem.W.alongIn K "__init__" (.ref B :: MX.xTail) = some (some (.builtin "Exception.__init__"))
  any : PySem.W.nsIn K cStatics "thirdparty.any" = some none
  ga : PySem.W.findIn K (.ref C) "__getattribute__" = some (some (.builtin "BaseException.__getattribute__"))
  gg : PySem.W.findIn K (.ref C) "__getattr__" = some none
  iC : PySem.W.findIn K (.ref C) "__init__" = some (some (.ref fI))
  tI : PySem.W.typeIn K (.ref fI) = some (.type "function")
  kC : PySem.W.keepIn K (.ref C) = true
  exC : PySem.W.subIn K (.ref C) (.type "BaseException") = some true
  tyC : PySem.W.typeIn K (.ref C) = some (.type "type")
  hd : PySem.W.hasDictIn K C = true
  cl : PySem.W.findIn K (.ref C) "__class__" = some (some (.builtin "object.__class__"))
  gt : PySem.W.specialIn K (.builtin "object.__class__") "__get__" = some (some (.builtin "getset_descriptor.__get__"))
  tk : PySem.W.takesIn K (.builtin "object.__class__") = some true
  ob : PySem.W.mroIn K C (.type "object") = some true
  fn : ∃ (oc : Value) (od : Option Addr) (kV doc pm : Value) (an : Option Addr) (ct : Value) (osl : Array (Option Value)), K.lookup fI = some ⟨oc, od, .func (PySem.W.ksFn "__init__" q (defArgs (clsInit st)) (defBody (clsInit st)) (defScope (clsInit st)) .none kV doc pm an (.ref cda) ct cc), osl⟩
  cod : PySem.W.codeIn K (.ref cda) q = true
  code : ∃ (ccl : Value) (cdd : Option Addr) (vs : Array Value) (ccs : Array (Option Value)) (file : Str) (tf : Tok), K.lookup cda = some ⟨ccl, cdd, .fields vs, ccs⟩ ∧ vs[2]? = some (.str file tf) ∧ file = "/claim/cut.py"
  cell : ∃ (cl : Value) (cld : Option Addr) (csl : Array (Option Value)), K.lookup cc = some ⟨cl, cld, .cell (some (.ref C)), csl⟩
  sub : PySem.W.mroIn K C (.ref C) = some true
  exc : PySem.W.mroIn K C (.type "Exception") = some true
  se : PySem.W.subIn K (.ref C) (.ref C) = some true
section
variable {P : Program} {w : World} {K : PySem.W.Frag} {mg : Str → Option Value} {nm q p : Str} {st : Stmt} {C B fI cc cda : Addr}
theorem ErrF.ecls (T : ErrF K mg nm q st C B fI cc cda) : MX.ErrCls K C B := ⟨T.cls, T.sa, T.al, T.any⟩
theorem ErrF.of (T : ErrF K mg nm q st C B fI cc cda) : ErrOf K mg nm C B fI := ⟨T.ecls, T.gC, T.iC, T.tI, T.kC, T.exC, T.tyC⟩
theorem ErrF.kit (T : ErrF K mg nm q st C B fI cc cda) : MX.ErrKit K C := ⟨T.ga, T.gg, T.exC, T.hd, T.cl, T.gt, T.tk, T.ob⟩
theorem ErrF.me (T : ErrF K mg nm q st C B fI cc cda) : PySem.W.exmOne K (.ref C) (.ref C) = some true := PySem.W.exm_ref T.exC T.hd T.tyC T.se
theorem ErrF.init (T : ErrF K mg nm q st C B fI cc cda) (hf : (P.main.file : Str) = "/claim/cut.py") (h1 : ∃ ar : Arg, ((defArgs (clsInit st)).posonlyargs ++ (defArgs (clsInit st)).args).head? = some ar ∧ ar.arg = "self")
    (h2 : (defScope (clsInit st)).names.lookup ("super" : Str) = some .globalImplicit) (h3 : (defScope (clsInit st)).names.lookup ("__class__" : Str) = some .free) (h4 : (defScope (clsInit st)).names.lookup ("self" : Str) = some .local)
    (h5 : (defScope (clsInit st)).kind = .function) (h6 : (P.main.scope.names.lookup ("super" : Str)).isSome = false) : MX.InitFn P K q (defArgs (clsInit st)) (defBody (clsInit st)) (defScope (clsInit st)) C fI cc cda :=
  ⟨T.fn, T.cod, let ⟨a, b, c, d, e, f, g, h, i⟩ := T.code; ⟨a, b, c, d, e, f, g, h, by rw [i, hf]; exact beq_self_eq_true _⟩, T.cell, T.sub, h1, h2, h3, h4, h5, h6, T.exc⟩
theorem err1_mk {pl : Sem Bool} {p0 p1 p2 p3 p4 p5 p6 p7 p8 p9 : Pos} (T : ErrF K mg nm q st C B fI cc cda) (no : PySem.W.findIn K (.ref C) p = some none) (hf : (P.main.file : Str) = "/claim/cut.py") (h6 : (P.main.scope.names.lookup ("super" : Str)).isSome = false)
    (h1 : ∃ ar : Arg, ((defArgs (clsInit st)).posonlyargs ++ (defArgs (clsInit st)).args).head? = some ar ∧ ar.arg = "self")
    (hB : defBody (clsInit st) = initB1 p p0 p1 p2 p3 p4 p5 p6 p7 p8 p9)
    (h2 : (defScope (clsInit st)).names.lookup ("super" : Str) = some .globalImplicit := by rfl) (h3 : (defScope (clsInit st)).names.lookup ("__class__" : Str) = some .free := by rfl) (h4 : (defScope (clsInit st)).names.lookup ("self" : Str) = some .local := by rfl)
    (h5 : (defScope (clsInit st)).kind = .function := by rfl) 
    (hPl : (defScope (clsInit st)).names.lookup p = some .local := by rfl) (hdb : (p == ("__debug__" : Str)) = false := by decide) (hsd : (("self" : Str) == p) = false := by decide) (hco : (defScope (clsInit st)).isCoroutine = false := by rfl) (hgen : (defScope (clsInit st)).isGenerator = false := by rfl) (hcell : ∀ y ∈ (defScope (clsInit st)).names, y.2 ≠ .cell := by decide +kernel)
    (hbind : ∀ (s : Shared) (x : Addr) (v : Value) (kV doc pm : Value) (an : Option Addr) (ct : Value), BindsTo s (PySem.W.ksFn "__init__" q (defArgs (clsInit st)) (initB1 p p0 p1 p2 p3 p4 p5 p6 p7 p8 p9) (defScope (clsInit st)) .none kV doc pm an (.ref cda) ct cc) ⟨[.ref x, v], []⟩ [("self", .ref x), (p, v)])
    (he : ∀ L, eval (.Call (.Attribute (.Call (.Name "super" p0) [] [] p1) "__init__" p2) [.Name p p3] [] p4) (PySem.W.ksEnv q (defScope (clsInit st)) L fI (.ref cda) cc) = (do
      let ov ← attributeBase (.Call (.Name "super" p0) [] [] p1) "__init__" (PySem.W.ksEnv q (defScope (clsInit st)) L fI (.ref cda) cc) (eval (.Call (.Name "super" p0) [] [] p1) (PySem.W.ksEnv q (defScope (clsInit st)) L fI (.ref cda) cc))
      standAt p2.atName
      let (f, first) ← holding [ov] (getMethod ov "__init__" pl)
      callWith p4 f first (backTo p4 (starEach [.Name p p3] (PySem.W.ksEnv q (defScope (clsInit st)) L fI (.ref cda) cc))) []))
    (hse : ∀ L, starEach [.Name p p3] (PySem.W.ksEnv q (defScope (clsInit st)) L fI (.ref cda) cc) = (false, eval (.Name p p3) (PySem.W.ksEnv q (defScope (clsInit st)) L fI (.ref cda) cc)) :: starEach [] (PySem.W.ksEnv q (defScope (clsInit st)) L fI (.ref cda) cc))
    (hi : ∀ L, interactive (PySem.W.ksEnv q (defScope (clsInit st)) L fI (.ref cda) cc) = false) (hsw : ∀ L, swapsWith (.Call (.Attribute (.Call (.Name "super" p0) [] [] p1) "__init__" p2) [.Name p p3] [] p4) none p5.line (PySem.W.ksEnv q (defScope (clsInit st)) L fI (.ref cda) cc) = pure false)
    (hsw2 : ∀ L, swapsWith (.Name p p8) (some (.Attribute (.Name "self" p6) p p7)) p9.line (PySem.W.ksEnv q (defScope (clsInit st)) L fI (.ref cda) cc) = pure false) : Err1 P w K mg nm p C B fI := by
  refine ⟨T.of, fun A R hp g d t os x t0 v mb X hlim hroom hg hb hbb hxo hnx hq => ?_, T.ns, ⟨T.ga, ⟨_, T.gg⟩, T.exC, T.hd, no⟩, T.kit, T.me⟩
  have J := T.init hf h1 h2 h3 h4 h5 h6
  rw [hB] at J
  exact MX.init1 (pl := pl) T.ecls J hPl hdb hsd no hco hgen hcell (fun s => hbind s x v) he hse hi hsw hsw2 X hlim hroom hg T.sup hb hbb hxo hnx hq
end
/-! ### the rules as they are printed -/
section
variable {X : Cx} {nm P : Str} {C B fI : Addr} {a : Expr} {mas : MA} {p pos pos2 : Pos} {k : Nat} {E : WX}
theorem c_raise1 (T : Err1 X.prog X.w X.K X.mg nm P C B fI) (hr : Room 1 X.A) (tk : Takes X E) (hc : X.calm = true) (ha : PA X [a] (tA X.K E mas)) (hg : Gl X nm := by rfl) (hdb : (nm == ("__debug__" : Str)) = false := by decide)
    (he : starEach (a :: []) X.env = (false, eval a X.env) :: starEach [] X.env := by rfl) (hpl : (backTo pos (starEach [] X.env)).any (·.1) = false := by rfl) : PS X (.Raise (some (.Call (.Name nm p) [a] [] pos)) none pos2) (tS X.K E (mRaise1 nm P mas)) :=
  s_raise1 hc tk T.of T.ini T.ns hr ha hg hdb he hpl
end
theorem hits_nil {K : PySem.W.Frag} {c : Value} : HitsOk K c [] := fun nm b h => by cases h
theorem hits_cons {K : PySem.W.Frag} {c : Value} {nm : Str} {b : Bool} {C : Addr} {r : Hits} (hn : PySem.W.nsIn K mainGlobals nm = some (some (.ref C))) (h : PySem.W.exmOne K (.ref C) c = some b) (t : HitsOk K c r) : HitsOk K c ((nm, b) :: r) := fun n b' h' C' hC' => by
  by_cases z : (n == nm) = true
  · simp only [List.lookup, z, Option.some.injEq] at h'
    have z : n = nm := by simpa using z
    subst z
    rw [hn] at hC'
    cases hC'
    subst h'
    exact h
  · have z : (n == nm) = false := by simpa using z
    simp only [List.lookup, z] at h'
    exact t n b' h' C' hC'
end MM

set_option Elab.async false
set_option linter.all false
set_option maxRecDepth 100000
set_option maxHeartbeats 2000000
/-! list(range(..)) of all forms, t[::-1] of tuples, x += e. -/
namespace MX
open PySem PySem.Spec PyProof.Rows L2 HT
section
variable {prog : Program} {w : World} {A : Around} {E : Value → Shared → Prop} {s : Shared}
theorem adjust_rev (n : Nat) : Builtin.Slice.sliceAdjust none none (-1) (n : Int) = ((n : Int) - 1, -1) := by
  simp [Builtin.Slice.sliceAdjust]
theorem places_rev (n : Nat) : Builtin.Slice.slicePlaces ((n : Int) - 1) (-1) (-1) = n := by
  unfold Builtin.Slice.slicePlaces
  by_cases h : (n : Int) - 1 > -1
  · simp only [show ¬ ((-1 : Int) > 0) by decide, if_false, h, if_true]
    have e : ((n : Int) - 1 - -1 - 1) / (- -1) = (n : Int) - 1 := by
      rw [show (- -1 : Int) = 1 by decide, Int.ediv_one]; omega
    rw [e]; omega
  · have e : n = 0 := by omega
    subst e
    simp
theorem sliceApplied_rev {sl : Addr} {vl vu vs : Value} {n : Nat} {Q : Int × Int × Nat → Shared → Prop} (hs : s.heap.IsSliceOf sl vl vu vs) (pl : IsPart vl none) (pu : IsPart vu none) (ps : IsPart vs (some (-1)))
    (h : Q ((n : Int) - 1, -1, n) s) : wpAny (model prog w) A (Builtin.Slice.sliceApplied (.ref sl) (pure (n : Int))) Q E s := by
  obtain ⟨os, hos, hcs, hds⟩ := id hs
  unfold Builtin.Slice.sliceApplied Builtin.Slice.sliceFields
  refine wpAny_bind (wpAny_bind (wpAny_field hos hds (x := vl) rfl (wpAny_bind (wpAny_field hos hds (x := vu) rfl (wpAny_bind (wpAny_field hos hds (x := vs) rfl (wpAny_pure ?_)))))))
  refine wpAny_bind (slicePart_ ps ?_)
  show wpAny _ _ (if ((-1 : Int) == 0) = true then _ else _) _ _ s
  rw [if_neg (by decide)]
  refine wpAny_bind (slicePart_ pl (wpAny_bind (slicePart_ pu (wpAny_bind (wpAny_pure ?_)))))
  show wpAny _ _ (match Builtin.Slice.sliceAdjust none none (-1) (n : Int) with | (lo, hi) => pure (lo, (-1 : Int), Builtin.Slice.slicePlaces lo hi (-1))) _ _ s
  rw [adjust_rev n]
  show wpAny _ _ (pure ((n : Int) - 1, (-1 : Int), Builtin.Slice.slicePlaces ((n : Int) - 1) (-1) (-1))) _ _ s
  rw [places_rev]
  exact wpAny_pure h
theorem pick_rev (xs : Array Value) : ((List.range xs.size).filterMap fun (m : Nat) => xs[(((xs.size : Int) - 1) + (m : Int) * (-1)).toNat]?).toArray = xs.toList.reverse.toArray := by
  have e : ((List.range xs.size).filterMap fun (m : Nat) => xs[(((xs.size : Int) - 1) + (m : Int) * (-1)).toNat]?) = ((List.range xs.size).map (fun k => xs.size - 1 - k)).filterMap (xs[·]?) := by
    rw [List.filterMap_map]
    congr 1
    funext m
    have : (((xs.size : Int) - 1) + (m : Int) * (-1)).toNat = xs.size - 1 - m := by omega
    show _ = xs[xs.size - 1 - m]?
    rw [this]
  rw [e, PySem.W.krv_range, List.filterMap_reverse, PySem.W.krv_all]
theorem getItem_tuple_rev {t sl : Addr} {items : Array Value} {vl vu vs : Value} {Q : Value → Shared → Prop} (ht : IsTup s.heap t items) (hs : s.heap.IsSliceOf sl vl vu vs) (pl : IsPart vl none) (pu : IsPart vu none) (ps : IsPart vs (some (-1)))
    (h : Q (.ref s.heap.objs.size) { s with heap := s.heap.push { cls := .type "tuple", data := .seq items.toList.reverse.toArray } })
    (hsz : items.size ≤ sizeLine) : wpAny (model prog w) A (getItem (.ref t) (.ref sl)) Q E s := by
  have htake : sizeOk (.seq items.toList.reverse.toArray) := by
    show items.toList.reverse.toArray.size ≤ sizeLine
    rw [List.size_toArray, List.length_reverse, Array.length_toList]
    exact hsz
  obtain ⟨os, hos, hcs, hds⟩ := id hs
  have hTs : s.TypeIs (.ref sl) "slice" := ⟨os, hos, hcs⟩
  unfold getItem
  try with_reducible refine wpAny_holding ?_
  first | refine wpAny_bind (wpAny_pure ?_) | skip
  refine wpAny_bind (wpAny_sequenceKey ht.typeIs (by decide) ?_)
  refine wpAny_bind (wpAny_callSpecial?_slot (name := Str.ofString "__getitem__") ht.typeIs PyProof.Rows.slot_tuple_getitem
    (wpAny_call_entry PyProof.Rows.slot_tuple_getitem ht.typeIs entry_tuple_getitem ?_ (args_tuple_getitem _ _)))
  show wpAny _ _ (Builtin.Tuple.tupleItemsOf (.ref t) >>= _) _ _ s
  refine wpAny_bind (tupleItemsOf_ ht ?_)
  refine wpAny_bind (wpAny_typeOf hTs ?_)
  rw [if_pos (by decide)]
  refine wpAny_bind (sliceApplied_rev hs pl pu ps ?_)
  have hno : ¬ (((((items.size : Nat) : Int) - 1) == 0 && (-1 : Int) == 1 && items.size == items.size) = true) := by
    intro q
    rw [Bool.and_eq_true, Bool.and_eq_true] at q
    exact absurd q.1.2 (by decide)
  show wpAny _ _ (if ((((items.size : Nat) : Int) - 1) == 0 && (-1 : Int) == 1 && items.size == items.size) = true then _ else _) _ _ s
  rw [if_neg hno, pick_rev]
  first
    | exact wpAny_bind (m := Builtin.Tuple.tupleExact _) (wpAny_newObj_type (wpAny_pure ⟨_, rfl, wpAny_pure h⟩) htake)
    | exact wpAny_bind (m := Builtin.Tuple.tupleExact _) (wpAny_newObj_type (wpAny_bind (wpAny_pure (wpAny_pure ⟨_, rfl, wpAny_pure h⟩))) htake)
    | exact wpAny_bind (wpAny_bind (m := Builtin.Tuple.tupleExact _) (wpAny_newObj_type (wpAny_pure (wpAny_pure ⟨_, rfl, wpAny_pure h⟩)) htake))
    | exact wpAny_bind (wpAny_bind (m := Builtin.Tuple.tupleExact _) (wpAny_newObj_type (wpAny_pure ⟨_, rfl, wpAny_pure h⟩) htake))
end
end MX
namespace MM
open PySem PySem.Spec PyProof.Rows L2
section
variable {X : Cx} {E : WX} {e a b c : Expr} {me ma mb mc : ME} {mas : MA} {pos p p2 pos2 : Pos}
def tRevT (K : PySem.W.Frag) (te : TE) : TE := fun σ H Q => te σ H fun x H1 => ∃ a xs, x = .ref a ∧ SqT K H1 a xs ∧ ∀ p, H1 p = none → Q (.ref p) (upd H1 p (.tup xs.reverse))
theorem pe_revT {e : Expr} {te : TE} {k : Nat} {p1 p2 p3 pos : Pos} (he : PE X e te) : PE X (.Subscript e (.Slice none none (some (.UnaryOp .USub (.Constant (.int 1) k p1) p2)) p3) pos) (tRevT X.K te) := by
  refine ⟨fun pins s σ H Q I h => ?_⟩
  refine Subscript_ (thn (he.run pins s σ H _ I h) fun v s1 ⟨x, H1, I1, r1, q1⟩ => ?_)
  obtain ⟨a, xs, ex, hx, q⟩ := q1
  subst ex
  cases r1
  have hst : PO X (some (.UnaryOp .USub (.Constant (.int 1) k p1) p2)) (tPart (tUn (rU fun i => .int (-i)) (tC (.int 1)))) := po_some (pe_un un_neg pe_int)
  refine wpAny_Slice (thn (po_none.run pins s1 σ H1 (fun o H2 => o = none ∧ H2 = H1) I1 ⟨rfl, rfl⟩) fun vl s2 ⟨l, H2, I2, pl, el, e2⟩ => ?_)
  subst el e2
  refine thn (po_none.run pins s2 σ H2 (fun o H3 => o = none ∧ H3 = H2) I2 ⟨rfl, rfl⟩) fun vu s3 ⟨u, H3, I3, pu, eu, e3⟩ => ?_
  subst eu e3
  refine thn (hst.run pins s3 σ H3 (fun o H4 => o = some (-1) ∧ H4 = H3) I3 ⟨1, rfl, -1, rfl, rfl, rfl⟩) fun vs s4 ⟨o, H4, I4, ps, eo, e4⟩ => ?_
  subst eo e4
  have I5 : Inv X pins σ H4 { s4 with heap := s4.heap.push { cls := .type "slice", data := .fields #[vl, vu, vs] } } := I4.kept (t' := s4.toks) fun b ob q => Heap.get?_push_of_some _ q
  obtain ⟨its, r, ht, hz⟩ := I5.tuple hx
  have hlen := r.length
  show wpAny (model X.prog X.w) X.A (subscriptTail e (.Slice none none (some (.UnaryOp .USub (.Constant (.int 1) k p1) p2)) p3) (.ref a) (.ref s4.heap.objs.size)) (EP X pins σ Q) X.xe { s4 with heap := s4.heap.push { cls := .type "slice", data := .fields #[vl, vu, vs] } }
  refine tail_any (ops := [.ref a, .ref s4.heap.objs.size]) ht.typeIs (PySem.F.slot_tuple_getitem.lookup) ?_ (by with_unfolding_all rfl)
  refine MX.getItem_tuple_rev ht (Heap.IsSliceOf.new _ vl vu vs) pl pu ps ?_ (by rw [List.size_toArray]; omega)
  refine ⟨.ref _, _, I5.laid (t' := s4.toks) (o := .tup xs.reverse) (fun b ob q => Heap.get?_push_of_some _ q) (Nat.le_refl _) ?_, rfl, q _ (I5.hok.fresh (Nat.le_refl _))⟩
  exact ⟨by rw [List.length_reverse]; exact hz, _, r.reverse, IsTup.new _ _⟩
def revT (x : D) (S : Store) : R D := match x with
  | .tup xs => .ok (.tup xs.reverse) S
  | _ => .no
theorem se_revT {k : Nat} {p1 p2 p3 : Pos} (he : PE X e (tE X.K E me)) : PE X (.Subscript e (.Slice none none (some (.UnaryOp .USub (.Constant (.int 1) k p1) p2)) p3) pos) (tE X.K E (m1 revT me)) :=
  (pe_revT he).imp fun τ H Q ⟨F, μ, σ, S, W, hs, h⟩ => ⟨F, μ, σ, S, W, hs, (h.split W).mono fun d S1 H1 F1 μ1 e1 W1 h1 v q => by
    cases q with
    | tup ha r =>
      refine ⟨_, _, rfl, SqT.of (W1.sub _ _ ha), fun p hp => ?_⟩
      obtain ⟨_, _, h2⟩ := Done.newF (d := .tup _) W1 h1 (o := .tup _) hp
      exact h2 _ (rep_newT r.reverse (W1.fnone hp))
    | _ => exact h1.elim⟩
/-! ### list(range(..)) -/
def rgVC (a c : Int) (n : Nat) : List V := (List.range n).map fun i => V.int (a + (i : Nat) * c)
theorem vals_rgC {a c : Int} {n : Nat} {acc : Array Value} (h : ItemsOf (fun i v => ∃ t, v = .int (a + i * c) t) acc n) : Vals (rgVC a c n) acc.toList := by
  have e : acc.toList.length = n := by rw [Array.length_toList]; exact h.1
  unfold rgVC
  rw [← e]
  refine vals_of_get acc.toList _ fun j u hj => ?_
  obtain ⟨t, rfl⟩ := h.2 j u (by rw [← hj, Array.getElem?_toList])
  exact ⟨t, rfl⟩
def rgItemsC (i c : Int) (n : Nat) : List D := (List.range n).map fun (k : Nat) => D.int (i + (k : Nat) * c)
theorem rgC_reps {K : PySem.W.Frag} {F : Hp} {μ : List Addr} (i c : Int) (n : Nat) : Reps K F μ (rgItemsC i c n) (rgVC i c n) := by
  unfold rgItemsC rgVC
  have : ∀ l : List Nat, Reps K F μ (l.map fun (k : Nat) => D.int (i + (k : Nat) * c)) (l.map fun (k : Nat) => V.int (i + (k : Nat) * c)) := fun l => by
    induction l with
    | nil => exact .nil
    | cons k l ih => exact .cons (.int _) ih
  exact this _
/-- an expression that makes a range -/
def PRgC (X : Cx) (e : Expr) (t : L2.St → Hp → (Int → Int → Int → Hp → Prop) → Prop) : Prop :=
  ∀ (pins : List (Addr × Obj)) (s : Shared) (σ : L2.St) (H : Hp) (Q : Int → Int → Int → Hp → Prop), Inv X pins σ H s → t σ H Q →
    wpAny (model X.prog X.w) X.A (eval e X.env) (fun x s' => ∃ r a b c t u v H', x = .ref r ∧ IsRange s'.heap r a b c t u v ∧ Inv X pins σ H' s' ∧ Q a b c H') X.xe s
def tRgC (ta : TA) : L2.St → Hp → (Int → Int → Int → Hp → Prop) → Prop := fun σ H Q => ta σ H fun vs H1 => ∃ i j k, vs = [.int i, .int j, .int k] ∧ k ≠ 0 ∧ k.natAbs < 1073741824 ∧ Q i j k H1
theorem prgC {ta : TA} (hg : Gl X "range") (hm : X.mg "range" = none) (ha : PA X [a, b, c] ta)
    (hs : starEach [a, b, c] X.env = (false, eval a X.env) :: starEach [b, c] X.env := by rfl) (hpl : (backTo pos (starEach [b, c] X.env)).any (·.1) = false := by rfl) : PRgC X (.Call (.Name "range" p) [a, b, c] [] pos) (tRgC ta) := by
  intro pins s σ H Q I h
  refine Call_ (ld_blt I hg hm boot_range (PyProof.Rows.callWith_type1 (thn (ha.run pos pins s σ H _ I h) fun us s1 ⟨vs, H1, I1, r1, q1⟩ => ?_) hs hpl))
  obtain ⟨i, j, k, e, c0, c1, q⟩ := q1
  subst e
  cases r1 with
  | cons r rr =>
    cases rr with
    | cons r' rr =>
      cases rr with
      | cons r'' rr =>
        cases rr
        obtain ⟨t, rfl⟩ := r
        obtain ⟨t', rfl⟩ := r'
        obtain ⟨t'', rfl⟩ := r''
        exact call_range_3 c0 ⟨_, i, j, k, _, _, _, H1, rfl, IsRange.new _ _ _ _ _ _ _, I1.kept (t' := s1.toks) fun b o e => Heap.get?_push_of_some _ e, q⟩ (.inl (PyProof.noPylong_small c1))
theorem prgC_1 {ta : TE} (h : PRg X e (tRg1 ta)) : PRgC X e (fun σ H Q => tRg1 ta σ H fun a b H1 => Q a b 1 H1) := fun pins s σ H Q I q => thn (h pins s σ H (fun a b H1 => Q a b 1 H1) I q) fun x s1 ⟨r, a, b, t, u, v, H', ex, hr, I1, q1⟩ => ⟨r, a, b, 1, t, u, v, H', ex, hr, I1, q1⟩
theorem prgC_2 {ta tb : TE} (h : PRg X e (tRg2 ta tb)) : PRgC X e (fun σ H Q => tRg2 ta tb σ H fun a b H1 => Q a b 1 H1) := fun pins s σ H Q I q => thn (h pins s σ H (fun a b H1 => Q a b 1 H1) I q) fun x s1 ⟨r, a, b, t, u, v, H', ex, hr, I1, q1⟩ => ⟨r, a, b, 1, t, u, v, H', ex, hr, I1, q1⟩
def tLstRgC (te : L2.St → Hp → (Int → Int → Int → Hp → Prop) → Prop) : TE := fun σ H Q => te σ H fun a b c H1 => ∃ n : Nat, Builtin.Range.small a b c = true ∧ Builtin.Range.rangeSize a b c = n ∧ n ≤ 1000000 ∧ ∀ q, H1 q = none → Q (.ref q) (upd H1 q (.lst (rgVC a c n)))
def tTupRgC (te : L2.St → Hp → (Int → Int → Int → Hp → Prop) → Prop) : TE := fun σ H Q => te σ H fun a b c H1 => ∃ n : Nat, Builtin.Range.small a b c = true ∧ Builtin.Range.rangeSize a b c = n ∧ n ≤ 1000000 ∧ ∀ q, H1 q = none → Q (.ref q) (upd H1 q (.tup (rgVC a c n)))
theorem pe_listRgC {te} (hc : X.calm = true) (hg : Gl X "list") (hm : X.mg "list" = none) (he : PRgC X e te) (na : starEach [e] X.env = (false, eval e X.env) :: starEach [] X.env := by rfl) : PE X (.Call (.Name "list" p) [e] [] pos) (tLstRgC te) := by
  refine ⟨fun pins s σ H Q I h => ?_⟩
  refine Call_ (ld_blt I hg hm boot_list (PyProof.Rows.callWith_type1 (args_cons (thn (he pins s σ H _ I h) fun x s1 ⟨r, a, b, c, t, u, v, H1, ex, hr, I1, n, ok1, ok2, ok3, q⟩ => args_nil ?_) na) na))
  subst ex
  refine call_list_range (n := n) (I1.ok.hd hc) hr ok1 ok2 (by omega) fun h' tk acc c' hk e' hi => ?_
  refine ⟨.ref s1.heap.objs.size, upd H1 s1.heap.objs.size (.lst (rgVC a c n)), I1.laid hk (Nat.le_refl _) (show ObjOk X.prog X.w _ _ _ (.lst (rgVC a c n)) from ⟨?_, acc.toList, c', vals_rgC hi, ?_⟩), rfl, q _ (I1.hok.fresh (Nat.le_refl _))⟩
  · show ((List.range n).map _).length ≤ _
    rw [List.length_map, List.length_range, sizeLine_eq]; omega
  · rw [Array.toArray_toList]; exact e'
theorem pe_tupRgC {te} (hc : X.calm = true) (hg : Gl X "tuple") (hm : X.mg "tuple" = none) (he : PRgC X e te) (na : starEach [e] X.env = (false, eval e X.env) :: starEach [] X.env := by rfl) : PE X (.Call (.Name "tuple" p) [e] [] pos) (tTupRgC te) := by
  refine ⟨fun pins s σ H Q I h => ?_⟩
  refine Call_ (ld_blt I hg hm boot_tuple (PyProof.Rows.callWith_type1 (args_cons (thn (he pins s σ H _ I h) fun x s1 ⟨r, a, b, c, t, u, v, H1, ex, hr, I1, n, ok1, ok2, ok3, q⟩ => args_nil ?_) na) na))
  subst ex
  refine call_tuple_range (n := n) (I1.ok.hd hc) hr ok1 ok2 (by omega) fun h' tk acc hk hi => ?_
  have I2 : Inv X pins σ H1 { s1 with heap := h', toks := tk } := I1.kept hk
  refine ⟨.ref h'.objs.size, upd H1 h'.objs.size (.tup (rgVC a c n)), I2.laid (t' := tk) (fun c o e => Heap.get?_push_of_some _ e) (Nat.le_refl _) (show ObjOk X.prog X.w _ _ _ (.tup (rgVC a c n)) from ⟨?_, acc.toList, vals_rgC hi, ?_⟩), rfl, q _ (I2.hok.fresh (Nat.le_refl _))⟩
  · show ((List.range n).map _).length ≤ _
    rw [List.length_map, List.length_range, sizeLine_eq]; omega
  · rw [Array.toArray_toList]; exact IsTup.new _ _
/-- the ends of a range -/
abbrev RgE := List D → Option (Int × Int × Int)
def rg1 : RgE := fun ds => match ds with
  | [.int j] => some (0, j, 1)
  | _ => none
def rg2 : RgE := fun ds => match ds with
  | [.int i, .int j] => some (i, j, 1)
  | _ => none
def rg3 : RgE := fun ds => match ds with
  | [.int i, .int j, .int k] => some (i, j, k)
  | _ => none
def rgGood (i j k : Int) : Bool := decide (k ≠ 0) && decide (k.natAbs < 1073741824) && Builtin.Range.small i j k && decide ((Builtin.Range.rangeSize i j k).toNat ≤ 1000000)
def mRgL (ends : RgE) (m : Bool) (mas : MA) : ME := fun σ S => (mas σ S).bind fun ds S1 => match ends ds with
  | some (i, j, k) => if rgGood i j k then newL m (rgItemsC i k (Builtin.Range.rangeSize i j k).toNat) S1 else .no
  | none => .no
def mRgT (ends : RgE) (mas : MA) : ME := fun σ S => (mas σ S).bind fun ds S1 => match ends ds with
  | some (i, j, k) => if rgGood i j k then .ok (.tup (rgItemsC i k (Builtin.Range.rangeSize i j k).toNat)) S1 else .no
  | none => .no
theorem rgGood_ok {i j k : Int} (h : rgGood i j k = true) : k ≠ 0 ∧ k.natAbs < 1073741824 ∧ Builtin.Range.small i j k = true ∧ Builtin.Range.rangeSize i j k = (Builtin.Range.rangeSize i j k).toNat ∧ (Builtin.Range.rangeSize i j k).toNat ≤ 1000000 := by
  simp only [rgGood, Bool.and_eq_true, decide_eq_true_eq] at h
  exact ⟨h.1.1.1, h.1.1.2, h.1.2, rangeSize_toNat i j k, h.2⟩
theorem lst_goal {K : PySem.W.Frag} {E : XK} {m : Bool} {H F : Hp} {μ : List Addr} {S : Store} {i j k : Int} {Q : VK} (W : Wd K H F μ S) (h : Done K E H F μ S (if rgGood i j k then newL m (rgItemsC i k (Builtin.Range.rangeSize i j k).toNat) S else .no) (PV K Q)) :
    rgGood i j k = true ∧ ∃ n : Nat, Builtin.Range.small i j k = true ∧ Builtin.Range.rangeSize i j k = n ∧ n ≤ 1000000 ∧ ∀ q, H q = none → Q (.ref q) (upd H q (.lst (rgVC i k n))) := by
  by_cases z : rgGood i j k = true
  · rw [if_pos z] at h
    obtain ⟨_, _, h3, h4, h5⟩ := rgGood_ok z
    refine ⟨z, _, h3, h4, h5, fun p hp => ?_⟩
    obtain ⟨_, _, _, _, h6, h7⟩ := newL_ok (P := PV K Q) W (rgC_reps i k _) h hp
    exact h6 _ h7
  · rw [if_neg z] at h; exact h.elim
theorem tup_goal {K : PySem.W.Frag} {E : XK} {H F : Hp} {μ : List Addr} {S : Store} {i j k : Int} {Q : VK} (W : Wd K H F μ S) (h : Done K E H F μ S (if rgGood i j k then .ok (.tup (rgItemsC i k (Builtin.Range.rangeSize i j k).toNat)) S else .no) (PV K Q)) :
    rgGood i j k = true ∧ ∃ n : Nat, Builtin.Range.small i j k = true ∧ Builtin.Range.rangeSize i j k = n ∧ n ≤ 1000000 ∧ ∀ q, H q = none → Q (.ref q) (upd H q (.tup (rgVC i k n))) := by
  by_cases z : rgGood i j k = true
  · rw [if_pos z] at h
    obtain ⟨_, _, h3, h4, h5⟩ := rgGood_ok z
    refine ⟨z, _, h3, h4, h5, fun p hp => ?_⟩
    obtain ⟨_, _, h6⟩ := Done.newF W h (o := .tup _) hp
    exact h6 _ (rep_newT (rgC_reps i k _) (W.fnone hp))
  · rw [if_neg z] at h; exact h.elim
theorem t1 {K : PySem.W.Frag} {τ H} {α : Type} {Q : α → Store → Hp → Hp → List Addr → Prop} {f : List D → Store → R α} {F μ σ S} (W : Wd K H F μ S) (hs : Sl K F μ σ τ) (h : Done K (WE E τ) H F μ S ((mCons ma mNil σ S).bind f) Q) :
    tE K E ma τ H fun x H1 => ∃ F1 μ1 S1 d, Wd K H1 F1 μ1 S1 ∧ Rep K F1 μ1 d x ∧ Done K (WE E τ) H1 F1 μ1 S1 (f [d] S1) Q := by
  have h : Done K (WE E τ) H F μ S ((ma σ S).bind fun d S1 => f [d] S1) Q := by
    unfold mCons mNil at h
    cases q : ma σ S with
    | ok d S1 => rw [q] at h; exact h
    | ex e S1 => rw [q] at h; exact h
    | no => rw [q] at h; exact h
  exact ⟨F, μ, σ, S, W, hs, (h.split W).mono fun d S1 H1 F1 μ1 e1 W1 h1 v q => ⟨F1, μ1, S1, d, W1, q, h1⟩⟩
/-- two made one by one -/
theorem t2' {K : PySem.W.Frag} {τ H} {α : Type} {Q : α → Store → Hp → Hp → List Addr → Prop} {f : List D → Store → R α} {F μ σ S} (W : Wd K H F μ S) (hs : Sl K F μ σ τ) (h : Done K (WE E τ) H F μ S ((mCons ma (mCons mb mNil) σ S).bind f) Q) :
    tE K E ma τ H fun x H1 => tE K E mb τ H1 fun y H2 => ∃ F2 μ2 S2 d e, Wd K H2 F2 μ2 S2 ∧ Rep K F2 μ2 d x ∧ Rep K F2 μ2 e y ∧ Done K (WE E τ) H2 F2 μ2 S2 (f [d, e] S2) Q := by
  have h : Done K (WE E τ) H F μ S ((ma σ S).bind fun d S1 => (mb σ S1).bind fun e S2 => f [d, e] S2) Q := by
    unfold mCons mNil at h
    cases q : ma σ S with
    | ok d S1 =>
      rw [q] at h
      simp only [R.bind] at h ⊢
      cases q2 : mb σ S1 with
      | ok e S2 => rw [q2] at h; exact h
      | ex e S2 => rw [q2] at h; exact h
      | no => rw [q2] at h; exact h
    | ex e S1 => rw [q] at h; exact h
    | no => rw [q] at h; exact h
  exact ⟨F, μ, σ, S, W, hs, (h.split W).mono fun d S1 H1 F1 μ1 e1 W1 h1 v q => ⟨F1, μ1, σ, S1, W1, hs.ext e1, (h1.split W1).mono fun e S2 H2 F2 μ2 e2 W2 h2 v2 q2 => ⟨F2, μ2, S2, d, e, W2, q.ext e2, q2, h2⟩⟩⟩
theorem rg_c3 {K : PySem.W.Frag} {H F H1 : Hp} {μ : List Addr} {S : Store} {E : XK} {k : Int → Int → Int → R D} {ds : List D} {vs : List V} {Q : VK} (q : Reps K F μ ds vs) (h : Done K E H F μ S (match rg3 ds with | some (i, j, k') => k i j k' | none => .no) (PV K Q)) :
    ∃ i j l, vs = [.int i, .int j, .int l] ∧ Done K E H F μ S (k i j l) (PV K Q) := by
  cases q with
  | nil => exact h.elim
  | cons r q =>
    cases q with
    | nil => cases r <;> exact h.elim
    | cons r2 q =>
      cases q with
      | nil => cases r <;> cases r2 <;> exact h.elim
      | cons r3 q =>
        cases q with
        | cons => cases r <;> cases r2 <;> cases r3 <;> exact h.elim
        | nil =>
          cases r with
          | int i =>
            cases r2 with
            | int j =>
              cases r3 with
              | int c => exact ⟨i, j, c, rfl, h⟩
              | _ => exact h.elim
            | _ => exact h.elim
          | _ => exact h.elim
section
variable (hc : X.calm = true) (hm2 : X.mg "range" = none)
include hc hm2
theorem se_lstRg1C {m : Bool} (hm : X.mg "list" = none) (ha : PE X a (tE X.K E ma)) (hg : Gl X "list" := by rfl) (hg2 : Gl X "range" := by rfl) (na : starEach [a] X.env = (false, eval a X.env) :: starEach [] X.env := by rfl) :
    PE X (.Call (.Name "list" p) [.Call (.Name "range" p2) [a] [] pos2] [] pos) (tE X.K E (mRgL rg1 m (mCons ma mNil))) :=
  (pe_listRgC hc hg hm (prgC_1 (prg_1 hg2 hm2 ha na)) rfl).imp fun τ H Q ⟨F, μ, σ, S, W, hs, h⟩ => by
    obtain ⟨F0, μ0, σ0, S0, W0', hs0, h0⟩ := t1 W hs h
    refine ⟨F0, μ0, σ0, S0, W0', hs0, h0.mono fun d S1 H1 F1 μ1 e1 W1 h1 v q => ?_⟩
    obtain ⟨F2, μ2, S2, d2, W2, q2, h2⟩ := h1 v q
    cases q2 with
    | int j => exact ⟨j, rfl, (lst_goal (i := 0) (j := j) (k := 1) W2 h2).2⟩
    | _ => exact h2.elim
theorem se_tupRg1C (hm : X.mg "tuple" = none) (ha : PE X a (tE X.K E ma)) (hg : Gl X "tuple" := by rfl) (hg2 : Gl X "range" := by rfl) (na : starEach [a] X.env = (false, eval a X.env) :: starEach [] X.env := by rfl) :
    PE X (.Call (.Name "tuple" p) [.Call (.Name "range" p2) [a] [] pos2] [] pos) (tE X.K E (mRgT rg1 (mCons ma mNil))) :=
  (pe_tupRgC hc hg hm (prgC_1 (prg_1 hg2 hm2 ha na)) rfl).imp fun τ H Q ⟨F, μ, σ, S, W, hs, h⟩ => by
    obtain ⟨F0, μ0, σ0, S0, W0', hs0, h0⟩ := t1 W hs h
    refine ⟨F0, μ0, σ0, S0, W0', hs0, h0.mono fun d S1 H1 F1 μ1 e1 W1 h1 v q => ?_⟩
    obtain ⟨F2, μ2, S2, d2, W2, q2, h2⟩ := h1 v q
    cases q2 with
    | int j => exact ⟨j, rfl, (tup_goal (i := 0) (j := j) (k := 1) W2 h2).2⟩
    | _ => exact h2.elim
theorem se_lstRg2C {m : Bool} (hm : X.mg "list" = none) (ha : PE X a (tE X.K E ma)) (hb : PE X b (tE X.K E mb)) (hg : Gl X "list" := by rfl) (hg2 : Gl X "range" := by rfl) (na : starEach [a, b] X.env = (false, eval a X.env) :: starEach [b] X.env := by rfl) (nb : starEach [b] X.env = (false, eval b X.env) :: starEach [] X.env := by rfl)
    (hp : (backTo pos2 (starEach [b] X.env)).any (·.1) = false := by rfl) : PE X (.Call (.Name "list" p) [.Call (.Name "range" p2) [a, b] [] pos2] [] pos) (tE X.K E (mRgL rg2 m (mCons ma (mCons mb mNil)))) :=
  (pe_listRgC hc hg hm (prgC_2 (prg_2 hg2 hm2 ha hb na nb hp)) rfl).imp fun τ H Q ⟨F, μ, σ, S, W, hs, h⟩ => by
    obtain ⟨F0, μ0, σ0, S0, W0', hs0, h0⟩ := t2' W hs h
    refine ⟨F0, μ0, σ0, S0, W0', hs0, h0.mono fun d S1 H1 F1 μ1 e1 W1 h1 v q => ?_⟩
    obtain ⟨F2, μ2, σ2, S2, W2, hs2, h2⟩ := h1 v q
    refine ⟨F2, μ2, σ2, S2, W2, hs2, h2.mono fun d S1 H1 F1 μ1 e1 W1 h1 v q => ?_⟩
    obtain ⟨F3, μ3, S3, d3, e3, W3, q3, q4, h3⟩ := h1 v q
    cases q3 with
    | int i =>
      cases q4 with
      | int j => exact ⟨i, j, rfl, rfl, (lst_goal (i := i) (j := j) (k := 1) W3 h3).2⟩
      | _ => exact h3.elim
    | _ => exact h3.elim
theorem se_tupRg2C (hm : X.mg "tuple" = none) (ha : PE X a (tE X.K E ma)) (hb : PE X b (tE X.K E mb)) (hg : Gl X "tuple" := by rfl) (hg2 : Gl X "range" := by rfl) (na : starEach [a, b] X.env = (false, eval a X.env) :: starEach [b] X.env := by rfl) (nb : starEach [b] X.env = (false, eval b X.env) :: starEach [] X.env := by rfl)
    (hp : (backTo pos2 (starEach [b] X.env)).any (·.1) = false := by rfl) : PE X (.Call (.Name "tuple" p) [.Call (.Name "range" p2) [a, b] [] pos2] [] pos) (tE X.K E (mRgT rg2 (mCons ma (mCons mb mNil)))) :=
  (pe_tupRgC hc hg hm (prgC_2 (prg_2 hg2 hm2 ha hb na nb hp)) rfl).imp fun τ H Q ⟨F, μ, σ, S, W, hs, h⟩ => by
    obtain ⟨F0, μ0, σ0, S0, W0', hs0, h0⟩ := t2' W hs h
    refine ⟨F0, μ0, σ0, S0, W0', hs0, h0.mono fun d S1 H1 F1 μ1 e1 W1 h1 v q => ?_⟩
    obtain ⟨F2, μ2, σ2, S2, W2, hs2, h2⟩ := h1 v q
    refine ⟨F2, μ2, σ2, S2, W2, hs2, h2.mono fun d S1 H1 F1 μ1 e1 W1 h1 v q => ?_⟩
    obtain ⟨F3, μ3, S3, d3, e3, W3, q3, q4, h3⟩ := h1 v q
    cases q3 with
    | int i =>
      cases q4 with
      | int j => exact ⟨i, j, rfl, rfl, (tup_goal (i := i) (j := j) (k := 1) W3 h3).2⟩
      | _ => exact h3.elim
    | _ => exact h3.elim
theorem se_lstRg3C {m : Bool} (hm : X.mg "list" = none) (ha : PA X [a, b, c] (tA X.K E mas)) (hg : Gl X "list" := by rfl) (hg2 : Gl X "range" := by rfl)
    (hs : starEach [a, b, c] X.env = (false, eval a X.env) :: starEach [b, c] X.env := by rfl) (hpl : (backTo pos2 (starEach [b, c] X.env)).any (·.1) = false := by rfl) :
    PE X (.Call (.Name "list" p) [.Call (.Name "range" p2) [a, b, c] [] pos2] [] pos) (tE X.K E (mRgL rg3 m mas)) :=
  (pe_listRgC hc hg hm (prgC hg2 hm2 ha hs hpl) rfl).imp fun τ H Q ⟨F, μ, σ, S, W, hs, h⟩ => ⟨F, μ, σ, S, W, hs, (h.split W).mono fun ds S1 H1 F1 μ1 e1 W1 h1 vs q => by
    obtain ⟨i, j, k, e, h2⟩ := rg_c3 (k := fun i j k => if rgGood i j k then newL m (rgItemsC i k (Builtin.Range.rangeSize i j k).toNat) S1 else .no) (H1 := H1) q h1
    obtain ⟨g1, g2⟩ := lst_goal W1 h2
    obtain ⟨z1, z2, _⟩ := rgGood_ok g1
    exact ⟨i, j, k, e, z1, z2, g2⟩⟩
theorem se_tupRg3C (hm : X.mg "tuple" = none) (ha : PA X [a, b, c] (tA X.K E mas)) (hg : Gl X "tuple" := by rfl) (hg2 : Gl X "range" := by rfl)
    (hs : starEach [a, b, c] X.env = (false, eval a X.env) :: starEach [b, c] X.env := by rfl) (hpl : (backTo pos2 (starEach [b, c] X.env)).any (·.1) = false := by rfl) :
    PE X (.Call (.Name "tuple" p) [.Call (.Name "range" p2) [a, b, c] [] pos2] [] pos) (tE X.K E (mRgT rg3 mas)) :=
  (pe_tupRgC hc hg hm (prgC hg2 hm2 ha hs hpl) rfl).imp fun τ H Q ⟨F, μ, σ, S, W, hs, h⟩ => ⟨F, μ, σ, S, W, hs, (h.split W).mono fun ds S1 H1 F1 μ1 e1 W1 h1 vs q => by
    obtain ⟨i, j, k, e, h2⟩ := rg_c3 (k := fun i j k => if rgGood i j k then .ok (.tup (rgItemsC i k (Builtin.Range.rangeSize i j k).toNat)) S1 else .no) (H1 := H1) q h1
    obtain ⟨g1, g2⟩ := tup_goal W1 h2
    obtain ⟨z1, z2, _⟩ := rgGood_ok g1
    exact ⟨i, j, k, e, z1, z2, g2⟩⟩
end
end
/-! ### x op= e -/
def mAug (i : Nat) (f : D → D → Store → R D) (e : ME) : MS := fun σ S => match σ[i]? with
  | some (some d) => (e σ S).toO σ fun x S1 => (f d x S1).toO σ fun y S2 => .nx (σ.set i (some y)) S2
  | _ => .no
section
variable {X : Cx} {E : WX} {e : Expr} {me : ME} {pos : Pos}
theorem s_aug {n : Str} {pos' : Pos} {op : Operator} {f : D → D → Store → R D} (i : Nat) (hN : X.N.Nodup) (ho : OpR X (inplaceOp op) (r2 X.K f)) (he : PE X e (tE X.K E me)) (hi : X.N[i]? = some n := by rfl) (hx : Loc X.env.scope n := by first | exact Or.inl rfl | exact Or.inr rfl) (hf : X.fn n = true ∨ X.env.scope.names.lookup n = some .local := by first | exact .inl rfl | exact .inr rfl) :
    PS X (.AugAssign (.Name n pos') op e pos) (tS X.K E (mAug i f me)) :=
  (ps_aug (ti := r2 X.K f) hN hi hx he ho hf).imp fun D τ H ⟨F, μ, σ, S, W, hs, h⟩ => by
    unfold mAug at h
    cases q : σ[i]? with
    | none => rw [q] at h; exact h.elim
    | some o =>
      cases o with
      | none => rw [q] at h; exact h.elim
      | some d =>
        rw [q] at h
        obtain ⟨v, h1, r⟩ := hs.get i d q
        exact ⟨v, h1, F, μ, σ, S, W, hs, (h.split W hs).mono fun x S1 H1 F1 μ1 e1 W1 h1 w qw => ⟨WE E τ, F1, μ1, S1, d, x, W1, r.ext e1, qw, (h1.split W1 (hs.ext e1)).mono fun y S2 H2 F2 μ2 e2 W2 h2 z qz => h2.here W2 (((hs.ext e1).ext e2).set qz)⟩⟩
theorem ag_add : OpR X (inplaceOp .Add) (r2 X.K (or2 addI addS)) := od_or (od_II iop_add fun E i j H F μ S Q W h => ⟨i, j, rfl, rfl, h.here W _ (.int _)⟩) (od_SS iop_add_str fun E i j H F μ S Q W h => by
  obtain ⟨hz, h⟩ := Done.need h
  exact ⟨i, j, rfl, rfl, lim_le hz, h.here W _ (.str _)⟩)
theorem ag_sub : OpR X (inplaceOp .Sub) (r2 X.K dSub) := od_II iop_sub fun E i j H F μ S Q W h => ⟨i, j, rfl, rfl, h.here W _ (.int _)⟩
end
end MM

set_option Elab.async false
set_option linter.all false
set_option maxRecDepth 100000
set_option maxHeartbeats 2000000
/-! What the printed texts lean on, errors. -/
namespace MM
open PySem PySem.Spec PyProof.Rows L2
def mFld (er : Ex) (f : Str) : ME := fun _ S => match er.fs.lookup f with
  | some d => .ok d S
  | none => .no
section
variable {X : Cx} {E : WX} {k : Nat} {a : Addr} {er : Ex} {cls : Value} {dd : Option Addr} {oe : Obj} {pn : List (Addr × Obj)} {n f : Str} {p pos : Pos}
theorem h_fld (hz : Zc cls dd oe) (hf : ∃ vs, oe.data = .fields vs) (hC : ∀ C, PySem.W.nsIn X.K mainGlobals er.cls = some (some (.ref C)) → ErrGet X.K C f) (hN : X.N[k]? = some n := by rfl) (hv : Vis X.env.scope n := by first | exact Or.inl rfl | exact Or.inr (Or.inl rfl) | exact Or.inr (Or.inr rfl)) (hdb : (n == ("__debug__" : Str)) = false := by decide) (hcd : (n == ("__classdict__" : Str)) = false := by decide)
    (hb : attributeBase (.Name n p) f X.env (eval (.Name n p) X.env) = eval (.Name n p) X.env := by rfl) : PE (X.suite a ((a, oe) :: pn)) (.Attribute (.Name n p) f pos) (tEh X.K E k a er cls dd (mFld er f)) := by
  cases q : er.fs.lookup f with
  | some d =>
    refine (h_field (E := E) (d := d) hz hf hC q hN hv hdb hcd hb).imp ?_
    rintro τ H Q ⟨F, μ, σ, S, W, hs, ht, hr, h⟩
    unfold mFld at h
    rw [q] at h
    exact ⟨F, μ, σ, S, W, hs, ht, hr, h⟩
  | none =>
    refine ⟨fun pins s σ H Q I h => ?_⟩
    obtain ⟨F, μ, σ, S, W, hs, ht, hr, h⟩ := h
    unfold mFld at h
    rw [q] at h
    exact h.elim
theorem hit_one {nm x : Str} (h : List.lookup x [(nm, true)] = some true) : x = nm := by
  by_cases z : (x == nm) = true
  · simpa using z
  · have z : (x == nm) = false := by simpa using z
    simp [List.lookup, z] at h
/-- of one class alone -/
theorem get_one {P w mg nm q C B fI} (T : Err1 P w X.K mg nm q C B fI) (h : List.lookup er.cls [(nm, true)] = some true) : ∀ C', PySem.W.nsIn X.K mainGlobals er.cls = some (some (.ref C')) → ErrGet X.K C' q := fun C' hC => by
  rw [hit_one h, T.ns] at hC
  cases hC
  exact T.get
theorem names_of {P w nm q C B fI} (T : Err1 P w X.K X.mg nm q C B fI) (hg : Gl X nm := by rfl) (hd : (nm == ("__debug__" : Str)) = false := by decide) : Names X nm (.ref C) := ⟨hg, hd, .inl T.of.gC⟩
theorem hits_one {K : PySem.W.Frag} {P w mg nm q C B fI} (T : Err1 P w K mg nm q C B fI) : HitsOk K (.ref C) [(nm, true)] := hits_cons T.ns T.me hits_nil
/-- either -/
theorem se_or1 {e : Expr} {me : ME} {f g : D → Store → R D} (h1 : PE X e (tE X.K E (m1 f me))) (h2 : PE X e (tE X.K E (m1 g me))) : PE X e (tE X.K E (m1 (or1 f g) me)) := ⟨fun pins s τ H Q I h => by
  obtain ⟨F, μ, σ, S, W, hs, h⟩ := h
  cases q : me σ S with
  | no => exact absurd h (by unfold m1; rw [q]; exact id)
  | ex e S1 => exact h1.run pins s τ H Q I ⟨F, μ, σ, S, W, hs, by unfold m1 at h ⊢; rw [q] at h ⊢; exact h⟩
  | ok d S1 =>
    cases z : f d S1 with
    | no => exact h2.run pins s τ H Q I ⟨F, μ, σ, S, W, hs, by unfold m1 at h ⊢; rw [q] at h ⊢; unfold or1 at h; simp only [R.bind, z, R.or] at h ⊢; exact h⟩
    | ok d' S2 => exact h1.run pins s τ H Q I ⟨F, μ, σ, S, W, hs, by unfold m1 at h ⊢; rw [q] at h ⊢; unfold or1 at h; simp only [R.bind, z, R.or] at h ⊢; exact h⟩
    | ex e' S2 => exact h1.run pins s τ H Q I ⟨F, μ, σ, S, W, hs, by unfold m1 at h ⊢; rw [q] at h ⊢; unfold or1 at h; simp only [R.bind, z, R.or] at h ⊢; exact h⟩⟩
theorem tk0 {X : Cx} : Takes X W0 := takes0
theorem tkE {X : Cx} (hs : X.stack = X.env :: X.outer) (hf : X.env.frame = some X.env.locals) (hex : X.ex = []) {E : XK} {E₁ : Value → Shared → Prop}
    (hx : X.xe = fun e s' => wpAny (model X.prog X.w) X.A (leaving X.env e) (fun _ s'' => L2.CX X.prog X.w X.outer X.H_0 X.s_0 E e s'') E₁ s') : Takes X (fun cls d _ H => E cls d H) := takes_of hs hf hex hx
end
theorem al_of {K : PySem.W.Frag} {B N : Addr} {nm q : Str} {bs : List Value} {sn : List Str} {sub : List Value} {ab : Bool} {col : Option Bool} {dd : Option Addr} {k0 k1 k2 k3 k5 : Option Value} (h : K.lookup B = some (excClassObj nm q B N bs MX.xTail true sn sub ab col dd k0 k1 k2 k3 k5 "Exception.__new__"))
    (f : PySem.W.findIn K (.ref B) "__init__" = some (some (.builtin "Exception.__init__"))) : PySem.W.alongIn K "__init__" (.ref B :: MX.xTail) = some (some (.builtin "Exception.__init__")) := by
  unfold PySem.W.findIn at f
  dsimp only at f
  rw [h] at f
  exact f
end MM

set_option Elab.async false
set_option linter.all false
set_option maxRecDepth 100000
/-! Equality of data, told by a look. -/
namespace MM
open PySem
mutual
def sameD : D → D → Bool
  | .non, .non => true
  | .bl a, .bl b => a == b
  | .int i, .int j => i == j
  | .str x, .str y => x == y
  | .lst xs, .lst ys => sameAll xs ys
  | .tup xs, .tup ys => sameAll xs ys
  | _, _ => false
def sameAll : List D → List D → Bool
  | [], [] => true
  | x :: xs, y :: ys => sameD x y && sameAll xs ys
  | _, _ => false
end
mutual
theorem sameD_ok : ∀ {x y : D}, sameD x y = true → x = y
  | .non, y, h => by cases y <;> first | rfl | (simp [sameD] at h; done)
  | .bl a, y, h => by cases y <;> simp [sameD] at h <;> rw [h]
  | .int a, y, h => by cases y <;> simp [sameD] at h <;> rw [h]
  | .str a, y, h => by cases y <;> simp [sameD] at h <;> rw [h]
  | .tup xs, y, h => by
    cases y <;> simp only [sameD, Bool.false_eq_true] at h
    rw [sameAll_ok h]
  | .lst xs, y, h => by
    cases y <;> simp only [sameD, Bool.false_eq_true] at h
    rw [sameAll_ok h]
  | .scr xs, y, h => by cases y <;> simp [sameD] at h
  | .ref l, y, h => by cases y <;> simp [sameD] at h
theorem sameAll_ok : ∀ {xs ys : List D}, sameAll xs ys = true → xs = ys
  | [], [], _ => rfl
  | [], _ :: _, h => by simp [sameAll] at h
  | _ :: _, [], h => by simp [sameAll] at h
  | x :: xs, y :: ys, h => by
    rw [sameAll, Bool.and_eq_true] at h
    rw [sameD_ok h.1, sameAll_ok h.2]
end
/-- a run over a store of its own ends with d -/
def gives (r : R D) (d : D) : Bool := match r with
  | .ok e [] => sameD e d
  | _ => false
theorem gives_ok {r : R D} {d : D} (h : gives r d = true) : r = .ok d [] := by
  unfold gives at h
  split at h
  · rw [sameD_ok h]
  · cases h
/-- it ends with an error of one field -/
def givesX (r : R D) (c f : Str) (d : D) : Bool := match r with
  | .ex e [] => match e with
    | ⟨c', [(f', d')]⟩ => c' == c && f' == f && sameD d' d
    | _ => false
  | _ => false
theorem givesX_ok {r : R D} {c f : Str} {d : D} (h : givesX r c f d = true) : r = .ex ⟨c, [(f, d)]⟩ [] := by
  unfold givesX at h
  split at h
  · split at h
    · rw [Bool.and_eq_true, Bool.and_eq_true] at h
      rw [eq_of_beq h.1.1, eq_of_beq h.1.2, sameD_ok h.2]
    · cases h
  · cases h
end MM

set_option Elab.async false
set_option linter.all false
set_option maxRecDepth 100000
set_option maxHeartbeats 2000000
/-! x in y: lists and tuples of data, texts. -/
namespace MM
open PySem PySem.Spec PyProof.Rows L2
section
variable {X : Cx}
def rInT (K : PySem.W.Frag) (n : Bool) : R2 := fun x y H Q => ∃ d ds, Dp K H x d ∧ Dp K H y (.tuple ds) ∧ SeqAt.shaped d = true ∧ SeqAt.shaped (.tuple ds) = true ∧ Q (.bl ((ds.any fun z => PyData.eqv z d) != n)) H
theorem op_inT (hu : X.A.units + 65 < cLine) : OpR X (compareOp .In) (rInT X.K false) := by
  intro pins s σ H x y v u Q I rx ry h
  obtain ⟨d, ds, hd, he, sd, se, q⟩ := h
  obtain ⟨as, r1⟩ := Dp.reads I d x v hd rx
  obtain ⟨bs, r2⟩ := Dp.reads I (.tuple ds) y u he ry
  exact SeqAt.in_tuple_reads r2 r1 (SeqAt.canLay_of_shaped se) (SeqAt.canLay_of_shaped sd) (room_in_shaped sd hu) ⟨.bl _, H, I, rfl, by simpa using q⟩
theorem op_notInT (hu : X.A.units + 65 < cLine) : OpR X (compareOp .NotIn) (rInT X.K true) := by
  intro pins s σ H x y v u Q I rx ry h
  obtain ⟨d, ds, hd, he, sd, se, q⟩ := h
  obtain ⟨as, r1⟩ := Dp.reads I d x v hd rx
  obtain ⟨bs, r2⟩ := Dp.reads I (.tuple ds) y u he ry
  exact SeqAt.notIn_tuple_reads r2 r1 (SeqAt.canLay_of_shaped se) (SeqAt.canLay_of_shaped sd) (room_in_shaped sd hu) ⟨.bl _, H, I, rfl, by simpa using q⟩
/-- is it among them -/
def memD (x : D) (xs : List D) : Bool := xs.any fun z => eqD z x
/-- y's items, and what it is as data -/
def inDD (n : Bool) (x y : D) (S : Store) : R D := match rd S x, rd S y with
  | some d, some (.lst ys) => MM.need (d.shal 40 && shalAll 40 ys) (.ok (.bl (memD d ys != n)) S)
  | some d, some (.scr ys) => MM.need (d.shal 40 && shalAll 40 ys) (.ok (.bl (memD d ys != n)) S)
  | some d, some (.tup ys) => MM.need (d.shal 40 && shalAll 40 ys) (.ok (.bl (memD d ys != n)) S)
  | _, _ => .no
def inSS (n : Bool) := onSS fun i j S => .ok (.bl ((!(Builtin.Str.occurrences j i 0 j.length 1).isEmpty) != n)) S
def dIn (n : Bool) := or2 (inDD n) (inSS n)
theorem any_pd {x : D} (px : x.dat = true) : ∀ {ys : List D}, datAll ys = true → ((pdAll ys).any fun z => PyData.eqv z x.pd) = memD x ys
  | [], _ => rfl
  | y :: ys, p => by
    rw [datAll, Bool.and_eq_true] at p
    show (PyData.eqv y.pd x.pd || (pdAll ys).any fun z => PyData.eqv z x.pd) = (eqD y x || memD x ys)
    rw [eqD_eqv p.1 px, any_pd px p.2]
theorem shaped_all {ys : List D} (h : shalAll 40 ys = true) : datAll ys = true ∧ SeqAt.shaped (.list (pdAll ys)) = true ∧ SeqAt.shaped (.tuple (pdAll ys)) = true := by
  obtain ⟨a, b, c⟩ := shalAll_ok h
  refine ⟨a, ?_, ?_⟩
  · show (PyData.canLay0 (.list (pdAll ys)) && decide (PyData.depth (.list (pdAll ys)) ≤ 64)) = true
    rw [Bool.and_eq_true]
    exact ⟨by simpa [PyData.canLay0] using b, decide_eq_true (by simp only [PyData.depth]; omega)⟩
  · show (PyData.canLay0 (.tuple (pdAll ys)) && decide (PyData.depth (.tuple (pdAll ys)) ≤ 64)) = true
    rw [Bool.and_eq_true]
    exact ⟨by simpa [PyData.canLay0] using b, decide_eq_true (by simp only [PyData.depth]; omega)⟩
theorem in_split {n : Bool} {K : PySem.W.Frag} {x y : V} {H : Hp} {Q : VK} (h : r2 K (inDD n) x y H Q) : (∃ d ds, Dp K H x d ∧ Dp K H y (.list ds) ∧ SeqAt.shaped d = true ∧ SeqAt.shaped (.list ds) = true ∧ Q (.bl ((ds.any fun z => PyData.eqv z d) != n)) H) ∨ rInT K n x y H Q := by
  obtain ⟨E, F, μ, S, d, e, W, r1, r2, h⟩ := h
  unfold inDD at h
  cases h1 : rd S d with
  | none => rw [h1] at h; exact h.elim
  | some d' =>
    have key : ∀ {ys : List D} {e' : D}, rd S e = some e' → e'.pd = .list (pdAll ys) → e'.dat = datAll ys → Done K E H F μ S (MM.need (d'.shal 40 && shalAll 40 ys) (.ok (.bl (memD d' ys != n)) S)) (PV K Q) → ∃ d ds, Dp K H x d ∧ Dp K H y (.list ds) ∧ SeqAt.shaped d = true ∧ SeqAt.shaped (.list ds) = true ∧ Q (.bl ((ds.any fun z => PyData.eqv z d) != n)) H := fun {ys e'} h2 ep pp h => by
      obtain ⟨hb, h⟩ := Done.need h
      rw [Bool.and_eq_true] at hb
      obtain ⟨p1, c1, l1⟩ := shal_ok hb.1
      obtain ⟨p2, s2, _⟩ := shaped_all hb.2
      refine ⟨d'.pd, pdAll ys, rd_dp W r1 h1 p1, by rw [← ep]; exact rd_dp W r2 h2 (by rw [pp]; exact p2), by simp only [SeqAt.shaped, c1, Bool.true_and, decide_eq_true_eq]; omega, s2, ?_⟩
      rw [any_pd p1 p2]
      exact h.here W _ (.bl _)
    cases h2 : rd S e with
    | none => rw [h1, h2] at h; exact h.elim
    | some e' =>
      rw [h1, h2] at h
      cases e' with
      | lst ys => exact .inl (key h2 rfl rfl h)
      | scr ys => exact .inl (key h2 rfl rfl h)
      | tup ys =>
        obtain ⟨hb, h⟩ := Done.need h
        rw [Bool.and_eq_true] at hb
        obtain ⟨p1, c1, l1⟩ := shal_ok hb.1
        obtain ⟨p2, _, s2⟩ := shaped_all hb.2
        refine .inr ⟨d'.pd, pdAll ys, rd_dp W r1 h1 p1, rd_dp W r2 h2 (by simpa [D.dat] using p2), by simp only [SeqAt.shaped, c1, Bool.true_and, decide_eq_true_eq]; omega, s2, ?_⟩
        rw [any_pd p1 p2]
        exact h.here W _ (.bl _)
      | _ => exact h.elim
theorem od_in (hu : X.A.units + 65 < cLine) : OpR X (compareOp .In) (r2 X.K (dIn false)) := od_or (fun pins s σ H x y v u Q I rx ry h => by
  rcases in_split h with ⟨d, ds, a, b, c, e, q⟩ | h
  · exact op_inD hu pins s σ H x y v u Q I rx ry ⟨d, ds, a, b, c, e, by simpa using q⟩
  · exact op_inT hu pins s σ H x y v u Q I rx ry h) (od_SS op_in_str fun E i j H F μ S Q W h => ⟨i, j, rfl, rfl, by simpa using h.here W _ (.bl _)⟩)
theorem od_notin (hu : X.A.units + 65 < cLine) : OpR X (compareOp .NotIn) (r2 X.K (dIn true)) := od_or (fun pins s σ H x y v u Q I rx ry h => by
  rcases in_split h with ⟨d, ds, a, b, c, e, q⟩ | h
  · exact op_notInD hu pins s σ H x y v u Q I rx ry ⟨d, ds, a, b, c, e, by simpa using q⟩
  · exact op_notInT hu pins s σ H x y v u Q I rx ry h) (od_SS op_notin_str fun E i j H F μ S Q W h => ⟨i, j, rfl, rfl, by simpa using h.here W _ (.bl _)⟩)
end
end MM

set_option Elab.async false
set_option linter.all false
set_option maxRecDepth 100000
set_option maxHeartbeats 2000000
/-! List comprehensions of two clauses. -/
namespace MM
open PySem PySem.Spec PyProof.Rows L2
def runLc2 (σ0 : Sg) (g : MG) (t : MT) (mi1 : MI) (vs1 : List Nat) (g1 : MG) (t1 : MT) (me : ME) : List D → Store → R (List D)
  | [], S => .ok [] S
  | d :: ds, S => (g d σ0 S).bind fun σ1 S1 => (t σ1 S1).bind fun b S2 => if b then (mi1 σ1 S2).bind fun es S3 => (runLc (wipeM σ1 vs1) g1 t1 me es S3).bind fun ys S4 => (runLc2 σ0 g t mi1 vs1 g1 t1 me ds S4).bind fun zs S5 => .ok (ys ++ zs) S5 else runLc2 σ0 g t mi1 vs1 g1 t1 me ds S2
def mLc2F (fin : List D → Store → R D) (own vs1 : List Nat) (mi : MI) (g : MG) (t : MT) (mi1 : MI) (g1 : MG) (t1 : MT) (me : ME) : ME := fun σ S => (mi σ S).bind fun xs S1 => ((runLc2 (wipeM σ own) g t mi1 vs1 g1 t1 me xs S1).quiet).bind fun ys S2 => if ys.length ≤ 1000000 then fin ys S2 else .no
theorem Sl.mono {K : PySem.W.Frag} {F F1 : Hp} {μ μ1 : List Addr} {σ : Sg} {τ : L2.St} (h : Sl K F μ σ τ) (hF : ∀ a o, F a = some o → F1 a = some o) (hm : ∀ (l : Nat) a, μ[l]? = some a → μ1[l]? = some a) : Sl K F1 μ1 σ τ := ⟨h.len, fun i d q => let ⟨v, h1, h2⟩ := h.get i d q; ⟨v, h1, h2.mono hF hm⟩⟩
section
variable {mt mt1 : MT} {me : ME} {g g1 : MG} {mi mi1 : MI} {ow ow1 own vs1 : List Nat}
theorem lc2_go {E : XK} {fin : List D → Store → R D} {K : PySem.W.Frag} {τ : L2.St} {Q : VK} {H1 F1 : Hp} {μ1 : List Addr} {S1 : Store} {σ : Sg} {J : It} {xs : List D}
    (hfin : ∀ {H1 F1 μ1 S1 H F μ S p ys vs}, Wd K H1 F1 μ1 S1 → H1 p = none → Ext H1 F1 μ1 S1 H F μ S → Wd K H F μ S → Aside H F μ p (.lst vs) → Reps K F μ ys vs → Done K E H1 F1 μ1 S1 (fin ys S) (fun d _ H' F' μ' => ∀ v, Rep K F' μ' d v → Q v H') → Q (.ref p) H)
    (W1 : Wd K H1 F1 μ1 S1) (hs1 : Sl K F1 μ1 σ τ) (hJ : ItOk K F1 μ1 J xs) (hv : ∀ i ∈ ow, i ∈ own) (hv1 : ∀ i ∈ ow1, i ∈ vs1)
    (h1 : Done K E H1 F1 μ1 S1 (((runLc2 (wipeM σ own) g mt mi1 vs1 g1 mt1 me xs S1).quiet).bind fun ys S2 => if ys.length ≤ 1000000 then fin ys S2 else .no) (fun d _ H' F' μ' => ∀ v, Rep K F' μ' d v → Q v H')) :
    tLc2 (fun _ _ R => R J H1) (tG K W0 ow g) (tT K W0 mt) (tI K W0 mi1) (tG K W0 ow1 g1) (tT K W0 mt1) (tE K W0 me) own vs1 τ H1 Q := by
  intro p hp
  cases hr : runLc2 (wipeM σ own) g mt mi1 vs1 g1 mt1 me xs S1 with
  | no => rw [hr] at h1; exact h1.elim
  | ex e S' => rw [hr] at h1; exact h1.elim
  | ok ys Sz =>
    rw [hr] at h1
    have h1 : Done K E H1 F1 μ1 S1 (if ys.length ≤ 1000000 then fin ys Sz else .no) (fun d _ H' F' μ' => ∀ v, Rep K F' μ' d v → Q v H') := h1
    by_cases hz : ys.length ≤ 1000000
    case neg => rw [if_neg hz] at h1; exact h1.elim
    rw [if_pos hz] at h1
    let G : Nat → Hp → Prop := fun i H => ∃ F μ S as vs zs, Ext H1 F1 μ1 S1 H F μ S ∧ Wd K H F μ S ∧ Aside H F μ p (.lst vs) ∧ Reps K F μ as vs ∧ runLc2 (wipeM σ own) g mt mi1 vs1 g1 mt1 me (xs.drop i) S = .ok zs Sz ∧ as ++ zs = ys
    obtain ⟨Wp, ep⟩ := W1.add (o := .lst []) hp
    refine ⟨fun i m H => m = xs.length - i ∧ i ≤ xs.length ∧ G i H, ⟨xs.length, by simp, Nat.zero_le _, F1, μ1, S1, [], [], ys, ep, Wp, ⟨upd_same, W1.fnone hp, fun hm => W1.there hm hp, fun _ h => by cases h⟩, .nil, hr, rfl⟩, ?_⟩
    rintro i m H2 ⟨rfl, hi, F2, μ2, S2, as, vs, zs, e2, W2, A2, r2, hr2, hy⟩
    obtain ⟨j1, j2⟩ := hJ H2 F2 μ2 S2 W2 e2.fz e2.mu
    by_cases hlt : i < xs.length
    case neg =>
      have e : i = xs.length := by omega
      subst e
      rw [List.drop_length] at hr2
      cases hr2
      rw [List.append_nil] at hy
      subst hy
      exact .inl ⟨j2, hfin W1 hp e2 W2 A2 r2 h1⟩
    refine .inr ⟨(j1 i xs[i] (List.getElem?_eq_getElem hlt)).1, G (i + 1), fun H' q => ⟨xs.length - (i + 1), by omega, rfl, hlt, q⟩, fun x H' y => ?_⟩
    obtain ⟨F3, e3, W3, q3⟩ := (j1 i xs[i] (List.getElem?_eq_getElem hlt)).2 x H' y
    rw [List.drop_eq_getElem_cons hlt] at hr2
    obtain ⟨σ4, S4, g4, hr2⟩ := R.bind_ok hr2
    obtain ⟨b, S5, t5, hr2⟩ := R.bind_ok hr2
    refine ⟨F3, μ2, wipeM σ own, S2, xs[i], W3, ((hs1.ext e2).ext e3).wipe own, q3, ?_⟩
    rw [g4]
    intro H4 F4 μ4 e4 W4 τ4 hs4 o4
    refine ⟨wipe_off o4 hv, F4, μ4, σ4, S4, W4, hs4, ?_⟩
    rw [t5]
    intro H5 F5 μ5 e5 W5
    have A5 := ((A2.ext e3).ext e4).ext e5
    have E5 := ((e2.trans W1 e3).trans W1 e4).trans W1 e5
    have R5 := ((r2.ext e3).ext e4).ext e5
    cases b with
    | false =>
      refine iteF ?_
      exact ⟨F5, μ5, S5, as, vs, zs, E5, W5, A5, R5, hr2, hy⟩
    | true =>
      obtain ⟨es, S6, i6, hr2⟩ := R.bind_ok (show (R.bind (mi1 σ4 S5) _) = _ from hr2)
      obtain ⟨us, S7, g7, hr2⟩ := R.bind_ok hr2
      obtain ⟨zs', S8, g8, hr2⟩ := R.bind_ok hr2
      cases hr2
      refine iteT ⟨F5, μ5, σ4, S5, W5, hs4.ext e5, ?_⟩
      rw [i6]
      intro H6 F6 μ6 e6 W6 J1 hJ1
      have A6 := A5.ext e6
      let G1 : Nat → Hp → Prop := fun j H => ∃ F μ S as vs zs, Ext H1 F1 μ1 S1 H F μ S ∧ (∀ a o, F6 a = some o → F a = some o) ∧ (∀ (l : Nat) a, μ6[l]? = some a → μ[l]? = some a) ∧ Wd K H F μ S ∧ Aside H F μ p (.lst vs) ∧ Reps K F μ as vs ∧ runLc (wipeM σ4 vs1) g1 mt1 me (es.drop j) S = .ok zs S7 ∧ as ++ (zs ++ zs') = ys
      refine ⟨fun j k H => k = es.length - j ∧ j ≤ es.length ∧ G1 j H, ⟨es.length, by simp, Nat.zero_le _, F6, μ6, S6, as, vs, us, E5.trans W1 e6, fun _ _ h => h, fun _ _ h => h, W6, A6, R5.ext e6, g7, hy⟩, ?_⟩
      rintro j k Ha ⟨rfl, hj, Fa, μa, Sa, as', vs', zs2, ea, fa, ma, Wa, Aa, ra, hra, hya⟩
      obtain ⟨k1, k2⟩ := hJ1 Ha Fa μa Sa Wa fa ma
      by_cases hlt1 : j < es.length
      case neg =>
        have e : j = es.length := by omega
        subst e
        rw [List.drop_length] at hra
        cases hra
        exact .inl ⟨k2, Fa, μa, S7, as', vs', zs', ea, Wa, Aa, ra, g8, hya⟩
      refine .inr ⟨(k1 j es[j] (List.getElem?_eq_getElem hlt1)).1, G1 (j + 1), fun H' q => ⟨es.length - (j + 1), by omega, rfl, hlt1, q⟩, fun x' Hb yb => ?_⟩
      obtain ⟨Fb, eb, Wb, qb⟩ := (k1 j es[j] (List.getElem?_eq_getElem hlt1)).2 x' Hb yb
      rw [List.drop_eq_getElem_cons hlt1] at hra
      obtain ⟨σc, Sc, gc, hra⟩ := R.bind_ok hra
      obtain ⟨b', Sd, td, hra⟩ := R.bind_ok hra
      refine ⟨Fb, μa, wipeM σ4 vs1, Sa, es[j], Wb, ((((hs4.ext e5).ext e6).mono fa ma).ext eb).wipe vs1, qb, ?_⟩
      rw [gc]
      intro Hc Fc μc ec Wc τc hsc oc
      refine ⟨wipe_off oc hv1, Fc, μc, σc, Sc, Wc, hsc, ?_⟩
      rw [td]
      intro Hd Fd μd ed Wd'
      have Ad := ((Aa.ext eb).ext ec).ext ed
      have Ed := ((ea.trans W1 eb).trans W1 ec).trans W1 ed
      have fd : ∀ a o, F6 a = some o → Fd a = some o := fun a o h => ed.fz _ _ (ec.fz _ _ (eb.fz _ _ (fa _ _ h)))
      have md : ∀ (l : Nat) a, μ6[l]? = some a → μd[l]? = some a := fun l a h => ed.mu _ _ (ec.mu _ _ (eb.mu _ _ (ma _ _ h)))
      have Rd := ((ra.ext eb).ext ec).ext ed
      cases b' with
      | false =>
        refine iteF ?_
        exact ⟨Fd, μd, Sd, as', vs', zs2, Ed, fd, md, Wd', Ad, Rd, hra, hya⟩
      | true =>
        refine iteT ⟨Fd, μd, σc, Sd, Wd', hsc.ext ed, ?_⟩
        obtain ⟨y0, Se, ge, hra⟩ := R.bind_ok (show (R.bind (me σc Sd) _) = _ from hra)
        obtain ⟨zs3, Sf, gf, hra⟩ := R.bind_ok hra
        cases hra
        rw [ge]
        intro He Fe μe ee We v6 q6
        have Ae := Ad.ext ee
        refine ⟨vs', Ae.at_, ?_, ?_⟩
        · have := ra.length
          have h3 : (as' ++ (y0 :: zs3 ++ zs')).length = ys.length := by rw [← hya]
          rw [sizeLine_eq]
          simp at h3
          omega
        · exact ⟨Fe, μe, Se, as' ++ [y0], vs' ++ [v6], zs3, (Ed.trans W1 ee).aside hp, fun a o h => ee.fz _ _ (fd _ _ h), fun l a h => ee.mu _ _ (md _ _ h), We.aside Ae, ⟨upd_same, Ae.fr, Ae.mu, fun _ h => by cases h⟩, (Rd.ext ee).append (.cons q6 .nil), gf, by simp [← hya]⟩
theorem t_lc2 {E : WX} {fin : List D → Store → R D} {K : PySem.W.Frag} {τ H Q}
    (hfin : ∀ {H1 F1 μ1 S1 H F μ S p ys vs}, Wd K H1 F1 μ1 S1 → H1 p = none → Ext H1 F1 μ1 S1 H F μ S → Wd K H F μ S → Aside H F μ p (.lst vs) → Reps K F μ ys vs → Done K (WE E τ) H1 F1 μ1 S1 (fin ys S) (fun d _ H' F' μ' => ∀ v, Rep K F' μ' d v → Q v H') → Q (.ref p) H)
    (h : tE K E (mLc2F fin own vs1 mi g mt mi1 g1 mt1 me) τ H Q) (hv : ∀ i ∈ ow, i ∈ own) (hv1 : ∀ i ∈ ow1, i ∈ vs1) : tLc2 (tI K E mi) (tG K W0 ow g) (tT K W0 mt) (tI K W0 mi1) (tG K W0 ow1 g1) (tT K W0 mt1) (tE K W0 me) own vs1 τ H Q := by
  obtain ⟨F, μ, σ, S, W, hs, h⟩ := h
  exact ⟨F, μ, σ, S, W, hs, (Done.split W h).mono fun xs S1 H1 F1 μ1 e1 W1 h1 J hJ => lc2_go (E := WE E τ) hfin W1 (hs.ext e1) hJ hv hv1 h1⟩
end
section
variable {X : Cx} {E : WX} {elt tg iter tg1 iter1 : Expr} {ifs ifs1 : List Expr} {scope : Scope} {own : List (Str × Nat)} {mt mt1 : MT} {me : ME} {g g1 : MG} {mi mi1 : MI} {ow ow1 : List Nat} {pos : Pos}
theorem se_lc2 (vs1 : List Nat) (hc : X.calm = true) (hN : X.N.Nodup) (hi : PI X tg iter (tI X.K E mi)) (ok : BlkOk X.N X.env.scope scope own)
    (hg : ∀ (s : Shared) (H : Hp) (C : Addr) (cl : List (Str × Addr)) (fp : List Addr), PG (X.blk s H scope (compEnvC scope cl C X.env) fp) tg (tG X.K W0 ow g)) (ht : ∀ (s : Shared) (H : Hp) (C : Addr) (cl : List (Str × Addr)) (fp : List Addr), PTs (X.blk s H scope (compEnvC scope cl C X.env) fp) ifs (tT X.K W0 mt))
    (hi1 : ∀ (s : Shared) (H : Hp) (C : Addr) (cl : List (Str × Addr)) (fp : List Addr), PI (X.blk s H scope (compEnvC scope cl C X.env) fp) tg1 iter1 (tI X.K W0 mi1))
    (hg1 : ∀ (s : Shared) (H : Hp) (C : Addr) (cl : List (Str × Addr)) (fp : List Addr), PG (X.blk s H scope (compEnvC scope cl C X.env) fp) tg1 (tG X.K W0 ow1 g1)) (ht1 : ∀ (s : Shared) (H : Hp) (C : Addr) (cl : List (Str × Addr)) (fp : List Addr), PTs (X.blk s H scope (compEnvC scope cl C X.env) fp) ifs1 (tT X.K W0 mt1))
    (he : ∀ (s : Shared) (H : Hp) (C : Addr) (cl : List (Str × Addr)) (fp : List Addr), PE (X.blk s H scope (compEnvC scope cl C X.env) fp) elt (tE X.K W0 me)) (hv : ∀ i ∈ ow, i ∈ own.map (·.2) := by decide) (hv1 : ∀ i ∈ ow1, i ∈ vs1 := by decide) (hvv : ∀ i ∈ vs1, i ∈ own.map (·.2) := by decide) (hs : ∀ x, foldedSetIterable iter X.env x = pure x := by intro _; rfl) (hs1 : ∀ env x, foldedSetIterable iter1 env x = pure x := by intro _ _; rfl) :
    PE X (.ListComp elt [⟨tg, iter, ifs, 0⟩, ⟨tg1, iter1, ifs1, 0⟩] scope pos) (tE X.K E (mLc2F fin0 (own.map (·.2)) vs1 mi g mt mi1 g1 mt1 me)) := (pe_lc2 hc hN hi ok hvv hg ht hi1 hg1 ht1 he hs hs1).imp fun _ _ _ h => t_lc2 (fun a b c d e f => fin0_ok a b c d e f) h hv hv1
theorem s_lc2 {i : Nat} (vs1 : List Nat) {y : Str} {py spos : Pos} {fin : List D → Store → R D} (hc : X.calm = true) (hN : X.N.Nodup) (hi : PI X tg iter (tI X.K E mi)) (ok : BlkOk X.N X.env.scope scope own)
    (hg : ∀ (s : Shared) (H : Hp) (C : Addr) (cl : List (Str × Addr)) (fp : List Addr), PG (X.blk s H scope (compEnvC scope cl C X.env) fp) tg (tG X.K W0 ow g)) (ht : ∀ (s : Shared) (H : Hp) (C : Addr) (cl : List (Str × Addr)) (fp : List Addr), PTs (X.blk s H scope (compEnvC scope cl C X.env) fp) ifs (tT X.K W0 mt))
    (hi1 : ∀ (s : Shared) (H : Hp) (C : Addr) (cl : List (Str × Addr)) (fp : List Addr), PI (X.blk s H scope (compEnvC scope cl C X.env) fp) tg1 iter1 (tI X.K W0 mi1))
    (hg1 : ∀ (s : Shared) (H : Hp) (C : Addr) (cl : List (Str × Addr)) (fp : List Addr), PG (X.blk s H scope (compEnvC scope cl C X.env) fp) tg1 (tG X.K W0 ow1 g1)) (ht1 : ∀ (s : Shared) (H : Hp) (C : Addr) (cl : List (Str × Addr)) (fp : List Addr), PTs (X.blk s H scope (compEnvC scope cl C X.env) fp) ifs1 (tT X.K W0 mt1))
    (he : ∀ (s : Shared) (H : Hp) (C : Addr) (cl : List (Str × Addr)) (fp : List Addr), PE (X.blk s H scope (compEnvC scope cl C X.env) fp) elt (tE X.K W0 me))
    (hfin : ∀ {E : XK} {Q : VK} {H1 F1 μ1 S1 H F μ S p ys vs}, Wd X.K H1 F1 μ1 S1 → H1 p = none → Ext H1 F1 μ1 S1 H F μ S → Wd X.K H F μ S → Aside H F μ p (.lst vs) → Reps X.K F μ ys vs → Done X.K E H1 F1 μ1 S1 (fin ys S) (fun d _ H' F' μ' => ∀ v, Rep X.K F' μ' d v → Q v H') → Q (.ref p) H)
    (hsw : swapsWith (.ListComp elt [⟨tg, iter, ifs, 0⟩, ⟨tg1, iter1, ifs1, 0⟩] scope pos) (some (.Name y py)) spos.line X.env = pure true) (hy : X.N[i]? = some y := by rfl) (hyl : X.env.scope.names.lookup y = some .local := by rfl) (hv : ∀ i ∈ ow, i ∈ own.map (·.2) := by decide) (hv1 : ∀ i ∈ ow1, i ∈ vs1 := by decide) (hvv : ∀ i ∈ vs1, i ∈ own.map (·.2) := by decide) (hs : ∀ x, foldedSetIterable iter X.env x = pure x := by intro _; rfl) (hs1 : ∀ env x, foldedSetIterable iter1 env x = pure x := by intro _ _; rfl) :
    PS X (.Assign [.Name y py] (.ListComp elt [⟨tg, iter, ifs, 0⟩, ⟨tg1, iter1, ifs1, 0⟩] scope pos) spos) (tS X.K E (mAsg (mLc2F fin (own.map (·.2)) vs1 mi g mt mi1 g1 mt1 me) (gN i))) :=
  (ps_setLc2 hc hN hy hyl hsw hi ok hvv hg ht hi1 hg1 ht1 he hs hs1).imp fun D τ H ⟨F, μ, σ, S, W, hs, h⟩ => by
    show tLc2 _ _ _ _ _ _ _ _ _ τ H (fun x H1 => D.nx (τ.set i (some x)) H1)
    refine t_lc2 (E := E) hfin ⟨F, μ, σ, S, W, hs, (h.split W hs).mono fun d S1 H1 F1 μ1 e1 W1 h1 v q => ?_⟩ hv hv1
    exact h1.here W1 ((hs.ext e1).set q)
end
end MM

set_option Elab.async false
set_option linter.all false
set_option maxRecDepth 100000
set_option maxHeartbeats 2000000
/-! What the printed texts lean on, more. -/
namespace MM
open PySem PySem.Spec PyProof.Rows L2
theorem hu65 {k : Nat} {A : Around} (hr : Room k A) : A.units + 65 < cLine := by have := hr.un; omega
theorem kit_one {K : PySem.W.Frag} {P w mg nm q C B fI} {er : Ex} {D : Addr} {b : Bool} (T : Err1 P w K mg nm q C B fI) (h : List.lookup er.cls [(nm, true)] = some true) (hk : ∀ C, PySem.W.nsIn K mainGlobals nm = some (some (.ref C)) → PySem.W.kitOne K (.ref C) (.ref D) = some b) :
    ∀ C', PySem.W.nsIn K mainGlobals er.cls = some (some (.ref C')) → MX.ErrKit K C' ∧ PySem.W.kitOne K (.ref C') (.ref D) = some b := fun C' hC => by
  rw [hit_one h] at hC
  refine ⟨?_, hk C' hC⟩
  rw [T.ns] at hC
  cases hC
  exact T.kit
theorem kit_of {K : PySem.W.Frag} {C D : Addr} (h1 : PySem.W.hasDictIn K D = true) (h2 : PySem.W.typeIn K (.ref D) = some (.type "type")) (h3 : PySem.W.subIn K (.ref C) (.ref D) = some true) : PySem.W.kitOne K (.ref C) (.ref D) = some true := by
  obtain ⟨cd, hc, _⟩ := PySem.W.any_some h1
  have e2 : ((PySem.W.clsIn K D).isSome && PySem.W.typeIn K (.ref D) == some (.type "type")) = true := by rw [hc, h2] <;> rfl
  unfold PySem.W.kitOne
  split
  · rfl
  · show (if ((PySem.W.clsIn K D).isSome && PySem.W.typeIn K (.ref D) == some (.type "type")) = true then PySem.W.subIn K (.ref C) (.ref D) else none) = some true
    rw [if_pos e2]
    exact h3
end MM

set_option Elab.async false
set_option linter.all false
set_option maxRecDepth 100000
/-! The deck of "rest", "mixed", "turn". -/
namespace MM
open PySem PySem.Spec PyProof.Rows L2
abbrev kR : Key := .inr "rest"
abbrev kM : Key := .inr "mixed"
abbrev kT : Key := .inr "turn"
theorem kRM : kR ≠ kM := by decide +kernel
theorem kRT : kR ≠ kT := by decide +kernel
theorem kMT : kM ≠ kT := by decide +kernel
def deckR (cells : List Int) (x t : Int) (T : Store) : Store := .lst (nums cells) :: .dic [(kR, .ref 0), (kM, .int x), (kT, .int t)] :: T
def drawTail : MS := (mSeq (mAsg (m2 dMod (m2 (dAdd false) (m1 (getD (.inr "mixed")) (mVar 0)) (m2 (dMul false) (m2 (dMul false) (mK (.int 40692)) (m1 (getD (.inr "turn")) (mVar 0))) (m1 (getD (.inr "turn")) (mVar 0)))) (mK (.int 2147483399))) (gN 3)) (mSeq (mAsg (m2 dMod (m2 (dMul false) (mVar 3) (mVar 3)) (mK (.int 2147483563))) (gN 3)) (mRet (m2 dMod (m2 dDiv (m2 dMod (m2 (dAdd false) (m2 (dMul false) (mVar 3) (mK (.int 39373))) (m2 (dMul false) (m1 (getD (.inr "turn")) (mVar 0)) (mK (.int 7919)))) (mK (.int 2147483629))) (mK (.int 64))) (mVar 1)))))
def drawMid : MS := (mSeq (mAsg (mMeth .list dPop (m1 (getD (.inr "rest")) (mVar 0)) mNil) (gN 2)) (mSeq (mIf (mBool (m2 dGe (mVar 2) (m2 dPow (mK (.int 10)) (mK (.int 6))))) (mExpr (mMeth .list dAppend (m1 (getD (.inr "rest")) (mVar 0)) (mCons (m2 dDiv (mVar 2) (mN dMax2 (mCons (mK (.int 2)) (mCons (mVar 1) (mNil))))) (mNil)))) (mSkip)) (mRet (m2 dMod (mVar 2) (mVar 1)))))
def drawRB : MS := mSeq (mPutD (.inr "turn") (mVar 0) (m2 (dAdd false) (m1 (getD (.inr "turn")) (mVar 0)) (mK (.int 1)))) (mSeq (mIf (mBool (m2 dNe (m1 (getD (.inr "rest")) (mVar 0)) (mLst (mNil)))) drawMid (mSkip)) drawTail)
section
variable {x t b : Int} {T : Store} {cells : List Int}
theorem b64_of {i : Int} (h0 : 0 ≤ i) (h1 : i < 18446744073709551616) : b64 i = true := by
  simp only [b64, Bool.and_eq_true, decide_eq_true_eq]
  constructor
  · have : (2 : Int) ^ 64 = 18446744073709551616 := by decide
    omega
  · have : (2 : Int) ^ 64 = 18446744073709551616 := by decide
    omega
theorem valT {k : Key} {d e f : D} : valD [(kR, d), (kM, e), (kT, f)] k = if kR = k then some d else if kM = k then some e else if kT = k then some f else none := by
  simp only [valD]
theorem get_rest : getD (.inr "rest") (.ref 1) (deckR cells x t T) = .ok (.ref 0) (deckR cells x t T) := by
  show (match valD [(kR, D.ref 0), (kM, D.int x), (kT, D.int t)] kR with | some d => R.ok d (deckR cells x t T) | none => R.no) = _
  rw [valT, if_pos rfl]
theorem get_mixed : getD (.inr "mixed") (.ref 1) (deckR cells x t T) = .ok (.int x) (deckR cells x t T) := by
  show (match valD [(kR, D.ref 0), (kM, D.int x), (kT, D.int t)] kM with | some d => R.ok d (deckR cells x t T) | none => R.no) = _
  rw [valT, if_neg kRM, if_pos rfl]
theorem get_turn : getD (.inr "turn") (.ref 1) (deckR cells x t T) = .ok (.int t) (deckR cells x t T) := by
  show (match valD [(kR, D.ref 0), (kM, D.int x), (kT, D.int t)] kT with | some d => R.ok d (deckR cells x t T) | none => R.no) = _
  rw [valT, if_neg kRT, if_neg kMT, if_pos rfl]
theorem nodup3 : nodupK [kR, kM, kT] = true := by decide +kernel
theorem put_turn {σ : Sg} {o : Option D} {r : Sg} {S' : Store} (h : σ = some (.ref 1) :: r) : mPutD (.inr "turn") (mVar 0) (m2 (dAdd false) (m1 (getD (.inr "turn")) (mVar 0)) (mK (.int 1))) σ (deckR cells x t T) = .nx σ (deckR cells x (t + 1) T) := by
  subst h
  unfold mPutD
  have e : (m2 (dAdd false) (m1 (getD (.inr "turn")) (mVar 0)) (mK (.int 1))) (some (.ref 1) :: r) (deckR cells x t T) = .ok (.int (t + 1)) (deckR cells x t T) :=
    m2_ok (x := .int t) (m1_ok (x := .ref 1) rfl get_turn) rfl rfl
  rw [e]
  simp only [R.toO]
  show (if lim (3 + 1) && nodupK [kR, kM, kT] then O.nx _ ((deckR cells x t T).set 1 (.dic (putD [(kR, .ref 0), (kM, .int x), (kT, .int t)] kT (.int (t + 1))))) else .no) = _
  rw [nodup3, show (lim (3 + 1) && true) = true from rfl, if_pos rfl]
  simp only [putD, if_neg kRT, if_neg kMT, if_pos, if_true]
  rfl
theorem mulI_ok {i j : Int} {S : Store} (h : (b64 i || b64 j) = true) : dMul false (.int i) (.int j) S = .ok (.int (i * j)) S := by
  simp only [dMul, or2, mulI, onII, MM.need, h, if_true, R.or]
theorem addI_ok {i j : Int} {S : Store} : dAdd false (.int i) (.int j) S = .ok (.int (i + j)) S := rfl
theorem modI_ok {i j : Int} {S : Store} (h : j ≠ 0) : dMod (.int i) (.int j) S = .ok (.int (i.fmod j)) S := by
  simp [dMod, onII, MM.need, h]
theorem divI_ok {i j : Int} {S : Store} (h : j ≠ 0) (h2 : j.natAbs < 1073741824) : dDiv (.int i) (.int j) S = .ok (.int (i.fdiv j)) S := by
  simp [dDiv, onII, MM.need, h, h2]
theorem drawTail_ok {o p : Option D} (hb : 0 < b) (h0 : 0 ≤ t) (h1 : t ≤ 1000001) : ∃ v, drawTail [some (.ref 1), some (.int b), o, p] (deckR cells x t T) = .rt (.int v) (deckR cells x t T) ∧ 0 ≤ v ∧ v < b := by
  have bt : b64 t = true := b64_of h0 (by omega)
  have f1 := fmod_nb (c := x + 40692 * t * t) (b := 2147483399) (by decide)
  have bn : b64 ((x + 40692 * t * t).fmod 2147483399) = true := b64_of f1.1 (by omega)
  refine ⟨((((((x + 40692 * t * t).fmod 2147483399) * ((x + 40692 * t * t).fmod 2147483399)).fmod 2147483563 * 39373 + t * 7919).fmod 2147483629).fdiv 64).fmod b, ?_, (fmod_nb hb).1, (fmod_nb hb).2⟩
  unfold drawTail
  generalize hn : (x + 40692 * t * t).fmod 2147483399 = n at bn ⊢
  have s1 : (mAsg (m2 dMod (m2 (dAdd false) (m1 (getD (.inr "mixed")) (mVar 0)) (m2 (dMul false) (m2 (dMul false) (mK (.int 40692)) (m1 (getD (.inr "turn")) (mVar 0))) (m1 (getD (.inr "turn")) (mVar 0)))) (mK (.int 2147483399))) (gN 3)) [some (.ref 1), some (.int b), o, p] (deckR cells x t T) = .nx [some (.ref 1), some (.int b), o, some (.int n)] (deckR cells x t T) := by
    refine mAsg_ok (m2_ok (m2_ok (m1_ok (x := .ref 1) rfl get_mixed) (m2_ok (m2_ok rfl (m1_ok (x := .ref 1) rfl get_turn) (mulI_ok (by rw [bt, Bool.or_true]))) (m1_ok (x := .ref 1) rfl get_turn) (mulI_ok (by rw [bt, Bool.or_true]))) addI_ok) rfl (modI_ok (by decide))) ?_
    rw [hn]; rfl
  refine (mSeq_nx s1).trans ?_
  have s2 : (mAsg (m2 dMod (m2 (dMul false) (mVar 3) (mVar 3)) (mK (.int 2147483563))) (gN 3)) [some (.ref 1), some (.int b), o, some (.int n)] (deckR cells x t T) = .nx [some (.ref 1), some (.int b), o, some (.int ((n * n).fmod 2147483563))] (deckR cells x t T) :=
    mAsg_ok (m2_ok (m2_ok rfl rfl (mulI_ok (by rw [bn, Bool.or_true]))) rfl (modI_ok (by decide))) rfl
  refine (mSeq_nx s2).trans ?_
  exact mRet_ok (m2_ok (m2_ok (m2_ok (m2_ok (m2_ok rfl rfl (mulI_ok (by rw [show b64 39373 = true from by decide +kernel, Bool.or_true]))) (m2_ok (m1_ok (x := .ref 1) rfl get_turn) rfl (mulI_ok (by rw [show b64 7919 = true from by decide +kernel, Bool.or_true]))) addI_ok) rfl (modI_ok (by decide))) rfl (divI_ok (by decide) (by decide))) rfl (modI_ok (by omega)))
theorem draw_runR (hb : 0 < b) (hb2 : b < 1073741824) (hl : cells.length ≤ 1000) (h0 : 0 ≤ t) (h1 : t ≤ 1000000) : ∃ v cells', drawRB [some (.ref 1), some (.int b), none, none] (deckR cells x t T) = .rt (.int v) (deckR cells' x (t + 1) T) ∧ cells'.length ≤ cells.length ∧ 0 ≤ v ∧ v < b := by
  unfold drawRB
  rw [mSeq_nx (put_turn (S' := []) (o := none) rfl)]
  rcases List.eq_nil_or_concat cells with rfl | ⟨cs, c, rfl⟩
  · obtain ⟨v, h, v0, v1⟩ := drawTail_ok (x := x) (t := t + 1) (T := T) (cells := []) (o := none) (p := none) hb (by omega) (by omega)
    refine ⟨v, [], ?_, Nat.le_refl _, v0, v1⟩
    rw [← h]
    refine mSeq_nx ?_
    rw [mIf_f (S' := deckR [] x (t + 1) T) (mBool_ok (m2_ok (m1_ok (x := .ref 1) rfl get_rest) rfl (by rfl)))]
    rfl
  · rw [List.concat_eq_append] at hl ⊢
    have hlen : cs.length + 1 ≤ 1000 := by simpa using hl
    have e1 : mBool (m2 dNe (m1 (getD (.inr "rest")) (mVar 0)) (mLst (mNil))) [some (.ref 1), some (.int b), none, none] (deckR (cs ++ [c]) x (t + 1) T) = .ok true (deckR (cs ++ [c]) x (t + 1) T) := by
      refine mBool_ok (m2_ok (m1_ok (x := .ref 1) rfl get_rest) rfl ?_)
      have e2 : eqAll (nums (cs ++ [c])) [] = false := (eqAll_nums (cs ++ [c]) []).trans (decide_eq_false (by simp))
      refine (dNe_ok (d := .lst (nums (cs ++ [c]))) (e := .lst []) rfl rfl (shal_nums 39 _) rfl).trans ?_
      show R.ok (D.bl (!eqAll (nums (cs ++ [c])) [])) _ = _
      rw [e2]; rfl
    have e3 : (mAsg (mMeth .list dPop (m1 (getD (.inr "rest")) (mVar 0)) mNil) (gN 2)) [some (.ref 1), some (.int b), none, none] (deckR (cs ++ [c]) x (t + 1) T) = .nx [some (.ref 1), some (.int b), some (.int c), none] (deckR cs x (t + 1) T) := by
      refine mAsg_ok (S1 := deckR cs x (t + 1) T) (x := .int c) ?_ rfl
      unfold mMeth
      rw [m1_ok (x := .ref 1) rfl get_rest]
      simp [deckR, isTy, R.bind, mNil, dPop, onCell]
    have hm : drawMid [some (.ref 1), some (.int b), none, none] (deckR (cs ++ [c]) x (t + 1) T) = .rt (.int (c.fmod b)) (deckR (if 10 ^ 6 ≤ c then cs ++ [c.fdiv (if b > 2 then b else 2)] else cs) x (t + 1) T) := by
      unfold drawMid
      refine (mSeq_nx e3).trans ?_
      have e5 : mBool (m2 dGe (mVar 2) (m2 dPow (mK (.int 10)) (mK (.int 6)))) [some (.ref 1), some (.int b), some (.int c), none] (deckR cs x (t + 1) T) = .ok (decide (10 ^ 6 ≤ c)) (deckR cs x (t + 1) T) := by
        simp [mBool, m2, mVar, mK, R.bind, dPow, onII, MM.need, dGe, dCmp]
      have m0 : (if b > 2 then b else 2) ≠ (0 : Int) := by split <;> omega
      have m1' : (if b > 2 then b else 2).natAbs < 1073741824 := by split <;> omega
      have fin : ∀ S : Store, mRet (m2 dMod (mVar 2) (mVar 1)) [some (.ref 1), some (.int b), some (.int c), none] S = .rt (.int (c.fmod b)) S := fun S => mRet_ok (m2_ok rfl rfl (modI_ok (by omega)))
      by_cases hc : 10 ^ 6 ≤ c
      · rw [if_pos hc]
        refine (mSeq_nx (S' := deckR (cs ++ [c.fdiv (if b > 2 then b else 2)]) x (t + 1) T) ?_).trans (fin _)
        rw [mIf_t (by rw [e5, decide_eq_true hc])]
        refine mExpr_ok (x := .non) ?_
        unfold mMeth
        rw [m1_ok (x := .ref 1) rfl get_rest]
        have ea : (mCons (m2 dDiv (mVar 2) (mN dMax2 (mCons (mK (.int 2)) (mCons (mVar 1) (mNil))))) (mNil)) [some (.ref 1), some (.int b), some (.int c), none] (deckR cs x (t + 1) T) = .ok [.int (c.fdiv (if b > 2 then b else 2))] (deckR cs x (t + 1) T) :=
          mCons_ok (m2_ok rfl (mN_ok rfl rfl) (divI_ok m0 m1')) rfl
        simp only [R.bind]
        show (match isTy .list (deckR cs x (t + 1) T) (.ref 0) with | some true => R.bind _ _ | _ => .no) = _
        show R.bind _ _ = _
        rw [ea]
        simp [R.bind, dAppend, onCell, deckR, MM.need, lim, show cs.length + 1 ≤ 1000000 by omega]
      · rw [if_neg hc]
        refine (mSeq_nx (S' := deckR cs x (t + 1) T) ?_).trans (fin _)
        rw [mIf_f (by rw [e5, decide_eq_false hc])]
        rfl
    refine ⟨c.fmod b, if 10 ^ 6 ≤ c then cs ++ [c.fdiv (if b > 2 then b else 2)] else cs, ?_, by split <;> simp, (fmod_nb hb).1, (fmod_nb hb).2⟩
    refine mSeq_rt ?_
    rw [mIf_t e1]
    exact hm
def drawR : List D → Store → R D := mDefQ 2 4 drawRB
theorem draw_okR (hb : 0 < b) (hb2 : b < 1073741824) (hl : cells.length ≤ 1000) (h0 : 0 ≤ t) (h1 : t ≤ 1000000) : ∃ v cells', drawR [.ref 1, .int b] (deckR cells x t T) = .ok (.int v) (deckR cells' x (t + 1) T) ∧ cells'.length ≤ cells.length ∧ 0 ≤ v ∧ v < b := by
  obtain ⟨v, cells', h, r⟩ := draw_runR (x := x) (t := t) (T := T) hb hb2 hl h0 h1
  exact ⟨v, cells', call_plain rfl h, r⟩
/-- a pick of a list or a tuple -/
theorem pick_okR {d : D} {xs : List D} (hd : ∀ S, rdS S d = some xs) (h1 : xs ≠ []) (h2 : xs.length < 1073741824) (hl : cells.length ≤ 1000) (h0 : 0 ≤ t) (ht : t ≤ 1000000) : ∃ y cells', mDefQ 2 2 (pickB drawR) [.ref 1, d] (deckR cells x t T) = .ok y (deckR cells' x (t + 1) T) ∧ cells'.length ≤ cells.length ∧ y ∈ xs := by
  have hp : (0 : Int) < xs.length := by
    cases xs with
    | nil => exact absurd rfl h1
    | cons => simp
  obtain ⟨v, cells', h, hc, v0, v1⟩ := draw_okR (x := x) (T := T) hp (by omega) hl h0 ht
  obtain ⟨y, hy, hm⟩ := getInt v0 v1
  refine ⟨y, cells', call_plain rfl ?_, hc, hm⟩
  have el : dLen [d] (deckR cells x t T) = .ok (.int xs.length) (deckR cells x t T) := by
    simp [dLen, orN, lenSeq, on1, hd, R.or]
  refine mRet_ok (m2_ok (x := d) (S1 := deckR cells x t T) rfl (mN_ok (xs := [.ref 1, .int xs.length]) (S1 := deckR cells x t T) (mCons_ok rfl (mCons_ok (mN_ok (xs := [d]) (S1 := deckR cells x t T) rfl el) rfl)) h) ?_)
  simp [dIx, or2, ixSeq, hd, hy, R.or]
end
def deckRB (c0 c1 c3 : Int) : MS := mSeq (mPar 1 2 (mCons (mLc [3] (miSeq (mSl false (mVar 0) mpN (mpS (mK (.int 63))))) (gN 3) (mYes) (m2 dMod (mN intI (mCons (mVar 3) (mNil))) (m2 (dAdd false) (m2 dPow (mK (.int 10)) (mK (.int 24))) (mK (.int 7))))) (mCons (mK (.int c0)) (mNil)))) (mSeq (mFor (miSeq (mVar 1)) (gN 3) (mAsg (m2 dMod (m2 (dAdd false) (m2 (dAdd false) (m2 (dMul false) (mVar 2) (mK (.int c1))) (m2 dMod (mVar 3) (mK (.int 2147483543)))) (mK (.int c3))) (mK (.int 2147483647))) (gN 2))) (mRet (mDict [.inr "rest", .inr "mixed", .inr "turn"] (mCons (m1 (revL true) (mVar 1)) (mCons (mVar 2) (mCons (mK (.int 0)) (mNil)))))))
theorem mod_lc (σ0 : Sg) (k : Nat) (hk : k < σ0.length) (S : Store) : ∀ ns : List Int, runLc σ0 (gN k) mYes (m2 dMod (mN intI (mCons (mVar k) (mNil))) (m2 (dAdd false) (m2 dPow (mK (.int 10)) (mK (.int 24))) (mK (.int 7)))) (nums ns) S = .ok (nums (ns.map fun n => n.fmod (10 ^ 24 + 7))) S
  | [] => rfl
  | n :: ns => by
    refine runLc_cons (σ1 := σ0.set k (some (.int n))) rfl rfl (m2_ok (mN_ok (xs := [.int n]) (S1 := S) (mCons_ok (mVar_ok (List.getElem?_set_self hk)) rfl) rfl) (m2_ok (x := .int (10 ^ 24)) (S1 := S) (m2_ok rfl rfl (by rfl)) rfl addI_ok) (modI_ok (by decide))) (mod_lc σ0 k hk S ns)
theorem deck_okR {c0 c1 c3 : Int} {ns : List Int} (h1 : b64 c1 = true) (hl : ns.length ≤ 1000) : ∃ cells x, mDefQ 1 4 (deckRB c0 c1 c3) [.scr (nums ns)] [] = .ok (.ref 1) (deckR cells x 0 []) ∧ cells.length ≤ ns.length := by
  have hlen := cut_len ns none (some 63)
  let cs := (cutD ns none (some 63)).map fun n => n.fmod (10 ^ 24 + 7)
  obtain ⟨x', o', hx⟩ := deck_for (c3 := c3) h1 (c2 := 2147483543) (c4 := 2147483647) (by decide) (by decide) (some (.scr (nums ns))) (some (.lst (nums cs))) [] cs c0 none
  refine ⟨cs.reverse, x', call_plain rfl ?_, by rw [List.length_reverse, List.length_map]; exact hlen⟩
  unfold deckRB
  have e1 : (mPar 1 2 (mCons (mLc [3] (miSeq (mSl false (mVar 0) mpN (mpS (mK (.int 63))))) (gN 3) (mYes) (m2 dMod (mN intI (mCons (mVar 3) (mNil))) (m2 (dAdd false) (m2 dPow (mK (.int 10)) (mK (.int 24))) (mK (.int 7))))) (mCons (mK (.int c0)) (mNil)))) [some (.scr (nums ns)), none, none, none] [] = .nx [some (.scr (nums ns)), some (.lst (nums cs)), some (.int c0), none] [] := by
    have e0 : miSeq (mSl false (mVar 0) mpN (mpS (mK (.int 63)))) [some (.scr (nums ns)), none, none, none] [] = .ok (nums (cutD ns none (some 63))) [] := by
      simp [miSeq, mSl, mVar, mpN, mpS, mK, R.bind, dSl, slL, newL, R.or, itemsOf, ← cut_nums]
    have e2 : mLc [3] (miSeq (mSl false (mVar 0) mpN (mpS (mK (.int 63))))) (gN 3) (mYes) (m2 dMod (mN intI (mCons (mVar 3) (mNil))) (m2 (dAdd false) (m2 dPow (mK (.int 10)) (mK (.int 24))) (mK (.int 7)))) [some (.scr (nums ns)), none, none, none] [] = .ok (.lst (nums cs)) [] :=
      mLc_ok e0 (by rw [List.length_map]; exact Nat.le_trans hlen (by omega)) (mod_lc _ _ (by simp [wipeM]) _ _)
    simp only [mPar, mCons, mNil, mK]
    rw [e2]
    rfl
  rw [show (List.map some [D.scr (nums ns)] ++ List.replicate (4 - 1) none) = [some (.scr (nums ns)), none, none, none] from rfl, mSeq_nx e1]
  have e3 : (mFor (miSeq (mVar 1)) (gN 3) (mAsg (m2 dMod (m2 (dAdd false) (m2 (dAdd false) (m2 (dMul false) (mVar 2) (mK (.int c1))) (m2 dMod (mVar 3) (mK (.int 2147483543)))) (mK (.int c3))) (mK (.int 2147483647))) (gN 2))) [some (.scr (nums ns)), some (.lst (nums cs)), some (.int c0), none] [] = .nx [some (.scr (nums ns)), some (.lst (nums cs)), some (.int x'), o'] [] := by
    rw [← hx]
    rfl
  rw [mSeq_nx e3]
  have e4 : nodupK [(.inr "rest" : Key), .inr "mixed", .inr "turn"] = true := nodup3
  simp [mRet, mDict, mCons, mNil, m1, mVar, mK, revL, rdL, newL, R.bind, R.toO, e4, deckR]
end MM

set_option Elab.async false
set_option linter.all false
set_option maxRecDepth 100000
/-! repr of bools, None, ints. -/
namespace MM
open PySem PySem.Spec PyProof.Rows L2
def boolText (b : Bool) : Str := if b then "True" else "False"
def dReprS := on1 fun d S => match d with
  | .bl b => .ok (.str (boolText b)) S
  | .non => .ok (.str "None") S
  | .int i => MM.need (decide (i.natAbs.log2 < 1920)) (.ok (.str (toString i : String)) S)
  | _ => .no
def dReprA := orN dRepr dReprS
section
variable {X : Cx}
theorem cd_reprS : CallR X (.builtin "repr") (rN X.K dReprS) := by
  intro pins s σ H zs us Q I r h
  replace h := on1_ok h
  obtain ⟨E, x, F, μ, S, d, rfl, W, rq, h⟩ := h
  cases rq with
  | bl b =>
    obtain ⟨u, rfl, rx⟩ := vals1 r
    obtain rfl : u = Value.bool b := rx
    exact PySem.call_repr_gives (T := "bool") rfl PySem.F.slot_bool_repr PySem.F.entry_bool_repr (PySem.F.args_bool_repr_1 _) (PySem.gives_bool_repr b) ⟨.str _, H, I.tok _, ⟨_, rfl⟩, h.here W _ (.str _)⟩ rfl (by cases b <;> decide +kernel)
  | non =>
    obtain ⟨u, rfl, rx⟩ := vals1 r
    obtain rfl : u = Value.none := rx
    exact PySem.call_repr_gives (T := "NoneType") rfl PySem.F.slot_NoneType_repr PySem.F.entry_NoneType_repr (PySem.F.args_NoneType_repr_1 _) PySem.gives_none_repr ⟨.str _, H, I.tok _, ⟨_, rfl⟩, h.here W _ (.str _)⟩ rfl (by decide +kernel)
  | int i =>
    obtain ⟨hb, h⟩ := Done.need h
    exact SkE.call_repr_int pins s σ H _ us Q I r ⟨i, rfl, of_decide_eq_true hb, h.here W _ (.str _)⟩
  | _ => exact h.elim
theorem cd_reprA (hu : X.A.units + 64 < cLine) (hgd : X.A.guards = some []) : CallR X (.builtin "repr") (rN X.K dReprA) := cd_or (cd_repr hu hgd) cd_reprS
end
end MM

set_option Elab.async false
set_option linter.all false
set_option maxRecDepth 100000
set_option maxHeartbeats 2000000
/-! Methods of texts (join, replace); enumerate of a text. -/
namespace MM
open PySem PySem.Spec PyProof.Rows L2
section
variable {X : Cx} {E : WX} {o e : Expr} {es : List Expr} {mo : ME} {mas : MA} {name : Str} {apos cpos : Pos} {id : String}
theorem se_sm {f : D → List D → Store → R D} (slot : Slot "str" name id) (hty : typeOf (.builtin id) = pure (.type "method_descriptor")) (hm : MtR X id (r1N X.K f)) (ho : PE X o (tE X.K E mo)) (ha : PA X (e :: es) (tA X.K E mas))
    (hbase : attributeBase o name X.env (eval o X.env) = eval o X.env := by rfl)
    (hfew : ((backTo cpos (starEach (e :: es) X.env)).all (fun x => !x.1) && (backToKw cpos (keywordEach [] X.env)).all (fun x => x.1.isSome)
      && decide ((e :: es).length + ([] : List Keyword).length + (if ([] : List Keyword).isEmpty then 0 else 1) < 30)) = true := by rfl)
    (hline : (apos.endLine == cpos.line) = true := by rfl) (hs : starEach (e :: es) X.env = (false, eval e X.env) :: starEach es X.env := by rfl) (hplain : (backTo cpos (starEach es X.env)).any (·.1) = false := by rfl) :
    PE X (.Call (.Attribute o name apos) (e :: es) [] cpos) (tE X.K E (mMeth .str f mo mas)) := (pe_bm PySem.F.plainAttrs_str slot hty hm ho ha hbase hfew hline hs hplain).imp fun _ _ _ h => tBM_of (fun W r z => tyV_str W r z) h
def strsOf : List D → Option (List Str)
  | [] => some []
  | .str x :: ds => (strsOf ds).map (x :: ·)
  | _ => none
theorem strsOf_ok {K : PySem.W.Frag} {F : Hp} {μ : List Addr} : ∀ {ds : List D} {ys : List Str} {vs : List V}, strsOf ds = some ys → Reps K F μ ds vs → vs = ys.map V.str
  | [], ys, vs, h, r => by
    cases r
    cases h
    rfl
  | d :: ds, ys, vs, h, r => by
    cases r with
    | cons q qs =>
      cases q with
      | str x =>
        simp only [strsOf] at h
        cases z : strsOf ds with
        | none => rw [z] at h; cases h
        | some zs =>
          rw [z] at h
          cases h
          rw [strsOf_ok z qs]
          rfl
      | _ => cases h
def dJoin (x : D) (as : List D) (S : Store) : R D := match x, as with
  | .str a, [y] => match rdS S y with
    | some ds => match strsOf ds with
      | some ys => MM.need (decide ((ys.map (·.length)).sum + ys.length * a.length ≤ 16777216)) (.ok (.str (Txt.join a ys)) S)
      | none => .no
    | none => .no
  | _, _ => .no
theorem md_join : MtR X "str.join" (r1N X.K dJoin) := MtR.imp mt_join fun x us H Q h => by
  obtain ⟨E, F, μ, S, d, as, W, r, rs, h⟩ := h
  cases r with
  | str a =>
    cases rs with
    | nil => exact h.elim
    | cons q rs =>
      cases rs with
      | cons => exact h.elim
      | nil =>
        rename_i y v
        have h' : Done X.K E H F μ S (match rdS S y with
          | some ds => match strsOf ds with
            | some ys => MM.need (decide ((ys.map (·.length)).sum + ys.length * a.length ≤ 16777216)) (.ok (.str (Txt.join a ys)) S)
            | none => .no
          | none => .no) (PV X.K Q) := h
        cases hd : rdS S y with
        | none => rw [hd] at h'; exact h'.elim
        | some ds =>
          rw [hd] at h'
          dsimp only at h'
          cases hz : strsOf ds with
          | none => rw [hz] at h'; exact h'.elim
          | some ys =>
            rw [hz] at h'
            obtain ⟨hb, h2⟩ := Done.need h'
            obtain ⟨p, vs, rfl, hs, ra⟩ := rdS_ok W q hd
            have e := strsOf_ok hz ra
            subst e
            exact ⟨a, p, ys, rfl, rfl, hs, of_decide_eq_true hb, h2.here (P := PV X.K Q) W _ (.str _)⟩
  | _ => exact h.elim
end
/-! enumerate of a text -/
theorem next_enum_endS {prog : Program} {w : World} {A : Around} {E : Value → Shared → Prop} {s : Shared} {e it : Addr} {i : Int} {j : Nat} {old : Value} {x : Str} {t : Tok} {ty : String} {Q : Option Value → Shared → Prop} (hh : A.handled = none) (hty : ty = "str_ascii_iterator" ∨ ty = "str_iterator")
    (he : IsEnum s.heap e it i old) (hst : s.heap.IsStrIter it ty x t j) (hx : x.cps[j]? = none) (hQ : ∀ h', Heap.ExtBut it s.heap h' → Q none { s with heap := h' }) : wpAny (model prog w) A (pyNext (.ref e)) Q E s := by
  have hT : s.TypeIs (.ref e) "enumerate" := ⟨_, he, rfl⟩
  unfold pyNext
  refine wpAny_bind (wpAny_attempt (wpAny_callSpecial?_slot (name := Str.ofString "__next__") hT PySem.F.slot_enumerate_next
    (wpAny_call_entry PySem.F.slot_enumerate_next hT PySem.F.entry_enumerate_next ?_ (PySem.F.args_enumerate_next_1 _))))
  show wpAny _ _ (field (.ref e) 2 >>= _) _ _ _
  refine wpAny_bind (wpAny_field he rfl (x := .ref it) rfl ?_)
  rcases hty with e1 | e1
  · rw [e1] at hst
    refine wpAny_bind (wpAny_nextOf_ascii_end hh hst hx fun h' v he' hx' => ?_)
    obtain ⟨o, ho, hc⟩ := hx'
    refine wpAny_bind (wpAny_isInstance (T := "StopIteration") (b := true) ⟨o, ho, hc⟩ isSubtype_stop ?_)
    exact wpAny_pure (hQ _ he')
  · rw [e1] at hst
    refine wpAny_bind (wpAny_nextOf_wide_end hh hst hx fun h' v he' hx' => ?_)
    obtain ⟨o, ho, hc⟩ := hx'
    refine wpAny_bind (wpAny_isInstance (T := "StopIteration") (b := true) ⟨o, ho, hc⟩ isSubtype_stop ?_)
    exact wpAny_pure (hQ _ he')
def Itse (x : Str) : It := ⟨fun i _ => i < x.cps.size, fun i H v H' => ∃ T c, v = .ref T ∧ H T = none ∧ H' = upd H T (.tup [.int (i : Nat), .str ⟨#[c]⟩]) ∧ x.cps[i]? = some c, fun i _ => x.cps.size ≤ i⟩
theorem turn_enumS {P : Program} {w : World} {K : PySem.W.Frag} {elts : List Expr} {kk : Nat} {tpos : Pos} (e it : Addr) (x : Str) (t : Tok) (ty : String) (hty : ty = "str_ascii_iterator" ∨ ty = "str_iterator") :
    Turn P w K (.Tuple elts kk tpos) (Itse x) [e, it] e (fun i h => (∃ old, IsEnum h e it ((i : Nat) : Int) old) ∧ h.IsStrIter it ty x t i ∧ e ≠ it) where
  mem := by simp
  obj := fun i h st b hb => by
    obtain ⟨⟨old, he⟩, ⟨o, ho, hc, hd⟩, _⟩ := st
    have e' : b = e ∨ b = it := by simpa using hb
    rcases e' with z | z
    · rw [z]; exact ⟨_, he, fun v q => nomatch q⟩
    · rw [z]; exact ⟨o, ho, fun v q => by rw [hd] at q; cases q⟩
  keep := fun i h h' st k => let ⟨⟨old, he⟩, hi, hne⟩ := st; ⟨⟨old, k e (by simp) _ he⟩, (let ⟨o, ho, r⟩ := hi; ⟨o, k it (by simp) o ho, r⟩), hne⟩
  item := by
    intro X hP hw hK hc i pins s σ H E I hf st hg
    subst hP hw hK
    obtain ⟨⟨old, he⟩, hit, hne⟩ := st
    have hlt : i < x.cps.size := hg
    have hel : e < s.heap.objs.size := Heap.lt_size he
    have hil : it < s.heap.objs.size := by obtain ⟨_, q, _⟩ := hit; exact Heap.lt_size q
    have D : Draws X.prog X.w X.A.in1 it [it] x.cps.size (fun i v => ∃ c u, x.cps[i]? = some c ∧ v = .str ⟨#[c]⟩ u) (fun i h => h.IsStrIter it ty x t i) := by
      rcases hty with e | e
      · rw [e]; exact Draws.strAscii (A := X.A.in1) (I.ok.hd hc) it x t
      · rw [e]; exact Draws.strWide (A := X.A.in1) (I.ok.hd hc) it x t
    refine wpAny_pyNext_enum_itemD D he hit hlt hne (by simpa using hne) fun v h' tk hv ho hit' hT hsz hk => ?_
    obtain ⟨c, u, hcx, rfl⟩ := hv
    refine ⟨_, rfl, wpAny_letOwnedTupleGo_enum (s := { s with heap := h', toks := tk + 1 }) ho fun h'' he' sb => ?_⟩
    have hT2 : h''.get? s.heap.objs.size = some { cls := .type "tuple", data := .seq #[.int i tk, .str ⟨#[c]⟩ u] } := (sb.2 _ (Nat.ne_of_gt hel)).trans hT
    have new : ObjOk X.prog X.w (upd H s.heap.objs.size (.tup [.int (i : Nat), .str ⟨#[c]⟩])) h'' s.heap.objs.size (.tup [.int (i : Nat), .str ⟨#[c]⟩]) :=
      ⟨by show 2 ≤ sizeLine; decide, [.int i tk, .str ⟨#[c]⟩ u], .cons ⟨_, rfl⟩ (.cons ⟨u, rfl⟩ .nil), ⟨_, hT2, rfl, _, rfl⟩⟩
    have I1 : Inv X pins σ (upd H s.heap.objs.size (.tup [.int (i : Nat), .str ⟨#[c]⟩])) { s with heap := h'', toks := tk + 1 } :=
      I.turnedNew (ch := [e, it]) (fun b ob hb q => (sb.2 b (fun z => hb (by simp [z]))).trans (hk b ob (fun z => hb (by simp [z])) (fun z => hb (by simp [z])) q)) hf (Nat.le_refl _) new
    refine ⟨.ref s.heap.objs.size, _, I1, rfl, ⟨_, c, rfl, I.hok.fresh (Nat.le_refl _), rfl, hcx⟩, ⟨⟨.str ⟨#[c]⟩ u, ?_⟩, (let ⟨o, ho, r⟩ := hit'; ⟨o, (sb.2 it (Ne.symm hne)).trans ho, r⟩), hne⟩, fun b hb => ?_⟩
    · have e1 : ((i + 1 : Nat) : Int) = (i : Int) + 1 := by omega
      rw [e1]; exact he'
    · have hb' : b < s.heap.objs.size := by
        have e' : b = e ∨ b = it := by simpa using hb
        rcases e' with z | z
        · rw [z]; exact hel
        · rw [z]; exact hil
      rw [upd_ne (Nat.ne_of_lt hb')]
      exact (hf b hb).1
  done := by
    intro X hP hw hK hc i pins s σ H E I hf st hg
    subst hP hw hK
    obtain ⟨⟨old, he⟩, hit, hne⟩ := st
    obtain ⟨f0, f1, f2, f3, f4, f5⟩ := hf it (by simp)
    have hx : x.cps[i]? = none := Array.getElem?_eq_none hg
    exact next_enum_endS (I.ok.hd hc) hty he hit hx fun h' eb => ⟨rfl, I.turned (t' := s.toks) (fun b o hb q => eb b o hb q) f0 f1 f3 f4 f5⟩
  self := fun A i s Q E st h => let ⟨⟨_, he⟩, _⟩ := st; wpAny_pyIter_enum he h
/-- enumerate of a list or a text -/
def iEnumA (K : PySem.W.Frag) (ta : TA) : TI := fun σ H R => ta σ H fun vs H1 => (∃ a xs, vs = [.ref a] ∧ SqL K H1 a xs ∧ R (Ite K a) H1) ∨ ∃ x, vs = [.str x] ∧ R (Itse x) H1
theorem pi_enumA {X : Cx} {e : Expr} {ta : TA} {p pos tpos : Pos} {elts : List Expr} {kk : Nat} (hg : Gl X "enumerate") (hm : X.mg "enumerate" = none) (ha : PA X [e] ta) (hs : starEach [e] X.env = [(false, eval e X.env)] := by rfl) :
    PI X (.Tuple elts kk tpos) (.Call (.Name "enumerate" p) [e] [] pos) (iEnumA X.K ta) := by
  refine ⟨fun pins s σ H R I h => ?_⟩
  refine Call_ (ld_blt I hg hm boot_enumerate (PyProof.Rows.callWith_type1 (thn (ha.run pos pins s σ H _ I h) fun us s1 ⟨vs, H1, I1, r1, q1⟩ => ?_) hs rfl))
  rcases q1 with ⟨a, xs, ex, hq, q⟩ | ⟨x, ex, q⟩
  · subst ex
    cases r1 with
    | cons r rr =>
      cases rr
      cases r
      obtain ⟨its, rv, p', hz⟩ := I1.list hq
      refine call_enumerate_list p'.isList fun h' he hit hsz hk => wpAny_pyIter_enum he ?_
      have I2 : Inv X pins σ H1 { s1 with heap := h' } := I1.kept (t' := s1.toks) hk
      refine ⟨s1.heap.objs.size + 1, [s1.heap.objs.size + 1, s1.heap.objs.size], _, _, H1, rfl, I2, turn_enum a (s1.heap.objs.size + 1) s1.heap.objs.size, ⟨⟨.none, he⟩, hit, Nat.succ_ne_self _⟩, fun b hb => ?_, q⟩
      have e' : b = s1.heap.objs.size + 1 ∨ b = s1.heap.objs.size := by simpa using hb
      have hle : s1.heap.objs.size ≤ b := by
        rcases e' with z | z
        · rw [z]; exact Nat.le_add_right _ _
        · rw [z]; exact Nat.le_refl _
      exact I1.fpOk hle (I1.hok.fresh hle)
  · subst ex
    cases r1 with
    | cons r rr =>
      cases rr
      obtain ⟨t, rfl⟩ := r
      refine call_enumerate_str fun h' he hit hsz hk => wpAny_pyIter_enum he ?_
      have I2 : Inv X pins σ H1 { s1 with heap := h' } := I1.kept (t' := s1.toks) hk
      have hty : strIterType x = "str_ascii_iterator" ∨ strIterType x = "str_iterator" := by
        unfold strIterType
        split
        · exact .inl rfl
        · exact .inr rfl
      refine ⟨s1.heap.objs.size + 1, [s1.heap.objs.size + 1, s1.heap.objs.size], _, _, H1, rfl, I2, turn_enumS (s1.heap.objs.size + 1) s1.heap.objs.size x t _ hty, ⟨⟨.none, he⟩, hit, Nat.succ_ne_self _⟩, fun b hb => ?_, q⟩
      have e' : b = s1.heap.objs.size + 1 ∨ b = s1.heap.objs.size := by simpa using hb
      have hle : s1.heap.objs.size ≤ b := by
        rcases e' with z | z
        · rw [z]; exact Nat.le_add_right _ _
        · rw [z]; exact Nat.le_refl _
      exact I1.fpOk hle (I1.hok.fresh hle)
theorem walk_enumS {x : Str} : Walk (Itse x) x.cps.size (fun _ => True) (YPair (fun i => some (.int (i : Nat))) (fun i => x.cps[i]?.map fun c => .str ⟨#[c]⟩)) := by
  refine ⟨fun _ _ hi _ => hi, fun _ _ => Nat.le_refl _, fun i H v H' _ q y => ?_⟩
  obtain ⟨T, c, h1, h2, h3, h4⟩ := y
  exact ⟨T, .int (i : Nat), .str ⟨#[c]⟩, h1, h2, h3, rfl, by simp [h4]⟩
def enumA (d : D) (S : Store) : R (List D) := match d with
  | .str x => .ok (enumItems (signs x)) S
  | d => (lstOf d S).bind fun xs S2 => .ok (enumItems xs) S2
def miEnumA (as : MA) : MI := fun σ S => (as σ S).bind fun ds S1 => match ds with
  | [d] => enumA d S1
  | _ => .no
theorem it_enumS {K : PySem.W.Frag} {F : Hp} {μ : List Addr} (x : Str) : ItOk K F μ (Itse x) (enumItems (signs x)) := by
  have w := it_pair (K := K) (F := F) (μ := μ) (f := fun i => D.int (i : Nat)) (g := fun i => (signs x).getD i .non) (walk_enumS (x := x)) (fun H F1 μ1 S1 W f m => trivial) (fun i x _ e => by cases e; exact .int _) fun i v hi e => by
    rw [List.getD_eq_getElem?_getD]
    unfold signs
    rw [List.getElem?_map, Array.getElem?_toList]
    cases q : x.cps[i]? with
    | none => rw [q] at e; cases e
    | some c =>
      rw [q] at e
      cases e
      exact .str _
  unfold enumItems
  have hl : (signs x).length = x.cps.size := by simp [signs]
  rw [hl]
  exact w
section
variable {X : Cx} {E : WX} {e : Expr} {mas : MA}
theorem si_enumA {p pos tpos : Pos} {elts : List Expr} {kk : Nat} (hg : Gl X "enumerate") (hm : X.mg "enumerate" = none) (ha : PA X [e] (tA X.K E mas)) (hs : starEach [e] X.env = [(false, eval e X.env)] := by rfl) : PI X (.Tuple elts kk tpos) (.Call (.Name "enumerate" p) [e] [] pos) (tI X.K E (miEnumA mas)) :=
  (pi_enumA hg hm ha hs).imp fun τ H Q ⟨F, μ, σ, S, W, hs, h⟩ => ⟨F, μ, σ, S, W, hs, (h.split W).mono fun ds S1 H1 F1 μ1 e1 W1 h1 vs q => by
    cases q with
    | nil => exact h1.elim
    | cons r q =>
      cases q with
      | cons => exact h1.elim
      | nil =>
        rename_i d v
        by_cases hd : ∃ x, d = .str x
        · obtain ⟨x, rfl⟩ := hd
          cases r
          exact .inr ⟨x, rfl, h1.here W1 _ (it_enumS x)⟩
        · have h1' : Done X.K (WE E τ) H1 F1 μ1 S1 (enumA d S1) (fun xs x H' F' μ' => ∀ (J : It), ItOk X.K F' μ' J xs → Q J H') := h1
          have e0 : enumA d S1 = (lstOf d S1).bind fun xs S2 => .ok (enumItems xs) S2 := by
            cases d with
            | str x => exact absurd ⟨x, rfl⟩ hd
            | _ => rfl
          rw [e0] at h1'
          obtain ⟨F2, S2, xs, a, us, rfl, e2, W2, hq, rr, h2⟩ := lstOf_ok W1 r (Done.split W1 h1')
          exact .inl ⟨a, us, rfl, sqL_mono W2.sub hq, h2.here W2 _ (it_enum hq rr)⟩⟩
end
end MM

set_option Elab.async false
set_option linter.all false
set_option maxRecDepth 100000
set_option maxHeartbeats 2000000
/-! enumerate of a tuple. -/
namespace MM
open PySem PySem.Spec PyProof.Rows L2
open PySem.W in
theorem meets_enumerate_newB1 {v : Value} {o : Obj} {H : Heap → Prop} (B : Begins v o H) :
    Meets (Builtin.«enumerate.__new__» ⟨[.type "enumerate", v], []⟩) (fun _ R s => H s.heap ∧
      R (.ok (.ret (.ref (s.heap.push o).objs.size))) { s with heap := (s.heap.push o).push { cls := .type "enumerate", data := .fields #[.none, .bool false, .ref s.heap.objs.size, rawInt 0, .none, .none] } }) :=
  .of_wp fun prog w A R s h => by
    obtain ⟨hp, g, d, tk, os⟩ := s; obtain ⟨h1, h⟩ := h
    have hsub := sub_enumerate
    have q1 : ∀ {A' : Around} {E : Value → Shared → Prop} {Q : Value → Shared → Prop}, Q (.ref hp.objs.size) ⟨hp.push o, g, d, tk, os⟩ → wpAny (model prog w) A' (pyIter v) Q E ⟨hp, g, d, tk, os⟩ :=
      fun q => B.iter prog w _ _ ⟨hp, g, d, tk, os⟩ _ h1 q
    wp_walk using q1
    refine wpAny_stack_any fun st => wpAny_pure ?_
    split
    · rename_i c _ _ _ _ _
      cases (c == Value.type "enumerate")
      · wp_walk using q1
        exact ⟨_, rfl, h⟩
      · wp_walk using q1
        exact ⟨_, rfl, h⟩
    · wp_walk using q1
      exact ⟨_, rfl, h⟩
section
variable {prog : Program} {w : World} {A : Around} {E : Value → Shared → Prop} {s : Shared}
theorem call_enumerate_tuple {l : Addr} {items : Array Value} {Q : Value → Shared → Prop} (hL : s.heap.IsTuple l items)
    (h : ∀ h', IsEnum h' (s.heap.objs.size + 1) s.heap.objs.size 0 .none → h'.IsTupleIter s.heap.objs.size l 0 → h'.objs.size = s.heap.objs.size + 2 →
      (∀ b o, s.heap.get? b = some o → h'.get? b = some o) → Q (.ref (s.heap.objs.size + 1)) { s with heap := h' }) :
    wpAny (model prog w) A (call (.type "enumerate") [.ref l]) Q E s := by
  have B := begins_tuple l items
  refine callType_new PySem.F.called_enumerate (by decide) (PySem.F.typeCall_enumerate_1 _) (PySem.F.newCall_enumerate_1 _) (fun obj => PySem.F.args_object_init_2 obj _) PySem.F.entry_enumerate_new
    (meets_enumerate_newB1 B) ⟨hL, ?_⟩
  have hz : (s.heap.push { cls := .type "tuple_iterator", data := .fields #[.ref l, .int 0 0] }).objs.size = s.heap.objs.size + 1 := Heap.size_push ..
  show _ ∧ _
  rw [hz]
  have he : IsEnum ((s.heap.push { cls := .type "tuple_iterator", data := .fields #[.ref l, .int 0 0] }).push
      { cls := .type "enumerate", data := .fields #[.none, .bool false, .ref s.heap.objs.size, rawInt 0, .none, .none] }) (s.heap.objs.size + 1) s.heap.objs.size 0 .none := by
    have := Heap.get?_push_size (s.heap.push { cls := .type "tuple_iterator", data := .fields #[.ref l, .int 0 0] })
      (o := { cls := .type "enumerate", data := .fields #[.none, .bool false, .ref s.heap.objs.size, rawInt 0, .none, .none] }) rfl
    rw [hz] at this; exact this
  refine ⟨⟨_, he, rfl⟩, h _ he ⟨_, Heap.get?_push_of_some _ (Heap.get?_push_size _ rfl), rfl, rfl⟩ (by rw [Heap.size_push, hz]) fun b o x => Heap.get?_push_of_some _ (Heap.get?_push_of_some _ x)⟩
theorem next_enum_endT {e it l : Addr} {i : Int} {j : Nat} {old : Value} {items : Array Value} {Q : Option Value → Shared → Prop} (hh : A.handled = none)
    (he : IsEnum s.heap e it i old) (hst : s.heap.IsTupleIter it l j) (hl : s.heap.IsTuple l items) (hx : items[j]? = none) (hQ : ∀ h', Heap.ExtBut it s.heap h' → Q none { s with heap := h' }) : wpAny (model prog w) A (pyNext (.ref e)) Q E s := by
  have hT : s.TypeIs (.ref e) "enumerate" := ⟨_, he, rfl⟩
  unfold pyNext
  refine wpAny_bind (wpAny_attempt (wpAny_callSpecial?_slot (name := Str.ofString "__next__") hT PySem.F.slot_enumerate_next
    (wpAny_call_entry PySem.F.slot_enumerate_next hT PySem.F.entry_enumerate_next ?_ (PySem.F.args_enumerate_next_1 _))))
  show wpAny _ _ (field (.ref e) 2 >>= _) _ _ _
  refine wpAny_bind (wpAny_field he rfl (x := .ref it) rfl ?_)
  refine wpAny_bind (wpAny_nextOf_tuple_end hh hst hl hx fun h' v he' hx' => ?_)
  obtain ⟨o, ho, hc⟩ := hx'
  refine wpAny_bind (wpAny_isInstance (T := "StopIteration") (b := true) ⟨o, ho, hc⟩ isSubtype_stop ?_)
  exact wpAny_pure (hQ _ he')
end
def Itet (K : PySem.W.Frag) (a : Addr) : It :=
  ⟨fun i H => ∃ (xs : List V) (x : V), SqT K H a xs ∧ xs[i]? = some x, fun i H v H' => ∃ T x, v = .ref T ∧ H T = none ∧ H' = upd H T (.tup [.int (i : Nat), x]) ∧ ∀ xs, SqT K H a xs → xs[i]? = some x, fun i H => ∃ xs : List V, SqT K H a xs ∧ xs.length ≤ i⟩
theorem turn_enumT {P : Program} {w : World} {K : PySem.W.Frag} {elts : List Expr} {kk : Nat} {tpos : Pos} (a e it : Addr) (hai : a ≠ it) (hae : a ≠ e) :
    Turn P w K (.Tuple elts kk tpos) (Itet K a) [e, it] e (fun i h => (∃ old, IsEnum h e it ((i : Nat) : Int) old) ∧ h.IsTupleIter it a i ∧ e ≠ it) where
  mem := by simp
  obj := fun i h st b hb => by
    obtain ⟨⟨old, he⟩, ⟨o, ho, hc, hd⟩, _⟩ := st
    have e' : b = e ∨ b = it := by simpa using hb
    rcases e' with z | z
    · rw [z]; exact ⟨_, he, fun v q => nomatch q⟩
    · rw [z]; exact ⟨o, ho, fun v q => by rw [hd] at q; cases q⟩
  keep := fun i h h' st k => let ⟨⟨old, he⟩, hi, hne⟩ := st; ⟨⟨old, k e (by simp) _ he⟩, hi.at fun o q => k it (by simp) o q, hne⟩
  item := by
    intro X hP hw hK hc i pins s σ H E I hf st hg
    subst hP hw hK
    obtain ⟨⟨old, he⟩, hit, hne⟩ := st
    obtain ⟨xs, x, hq, hx⟩ := hg
    obtain ⟨its, rv, p, hz⟩ := I.tuple hq
    obtain ⟨u, hu, ru⟩ := rv.get hx
    have hlt : i < its.toArray.size := by
      rw [List.size_toArray]
      rcases Nat.lt_or_ge i its.length with h' | h'
      · exact h'
      · rw [List.getElem?_eq_none h'] at hu; cases hu
    have hel : e < s.heap.objs.size := Heap.lt_size he
    have hil : it < s.heap.objs.size := by obtain ⟨_, q, _⟩ := hit; exact Heap.lt_size q
    have D := Draws.tuple (prog := X.prog) (w := X.w) (A := X.A.in1) (I.ok.hd hc) it a hai its.toArray
    refine wpAny_pyNext_enum_itemD D he ⟨hit, p⟩ hlt hne (by simpa using ⟨hne, fun z => hae z.symm⟩) fun v h' tk hv ho hit' hT hsz hk => ?_
    have hv' : its[i]? = some v := by simpa using hv
    obtain rfl : u = v := Option.some.inj (hu.symm.trans hv')
    refine ⟨_, rfl, wpAny_letOwnedTupleGo_enum (s := { s with heap := h', toks := tk + 1 }) ho fun h'' he' sb => ?_⟩
    have hT2 : h''.get? s.heap.objs.size = some { cls := .type "tuple", data := .seq #[.int i tk, u] } := (sb.2 _ (Nat.ne_of_gt hel)).trans hT
    have new : ObjOk X.prog X.w (upd H s.heap.objs.size (.tup [.int (i : Nat), x])) h'' s.heap.objs.size (.tup [.int (i : Nat), x]) :=
      ⟨by show 2 ≤ sizeLine; decide, [.int i tk, u], .cons ⟨_, rfl⟩ (.cons ru .nil), ⟨_, hT2, rfl, _, rfl⟩⟩
    have I1 : Inv X pins σ (upd H s.heap.objs.size (.tup [.int (i : Nat), x])) { s with heap := h'', toks := tk + 1 } :=
      I.turnedNew (ch := [e, it]) (fun b ob hb q => (sb.2 b (fun z => hb (by simp [z]))).trans (hk b ob (fun z => hb (by simp [z])) (fun z => hb (by simp [z])) q)) hf (Nat.le_refl _) new
    refine ⟨.ref s.heap.objs.size, _, I1, rfl, ⟨_, x, rfl, I.hok.fresh (Nat.le_refl _), rfl, fun ys hy => by rw [I.tuple_inj hy hq]; exact hx⟩, ⟨⟨u, ?_⟩, hit'.1.at fun o q => (sb.2 it (Ne.symm hne)).trans q, hne⟩, fun b hb => ?_⟩
    · have e1 : ((i + 1 : Nat) : Int) = (i : Int) + 1 := by omega
      rw [e1]; exact he'
    · have hb' : b < s.heap.objs.size := by
        have e' : b = e ∨ b = it := by simpa using hb
        rcases e' with z | z
        · rw [z]; exact hel
        · rw [z]; exact hil
      rw [upd_ne (Nat.ne_of_lt hb')]
      exact (hf b hb).1
  done := by
    intro X hP hw hK hc i pins s σ H E I hf st hg
    subst hP hw hK
    obtain ⟨⟨old, he⟩, hit, hne⟩ := st
    obtain ⟨xs, hq, hx⟩ := hg
    obtain ⟨its, rv, p, hz⟩ := I.tuple hq
    obtain ⟨f0, f1, f2, f3, f4, f5⟩ := hf it (by simp)
    have hl := rv.length
    exact next_enum_endT (I.ok.hd hc) he hit p (by simp; omega) fun h' eb => ⟨rfl, I.turned (t' := s.toks) (fun b o hb q => eb b o hb q) f0 f1 f3 f4 f5⟩
  self := fun A i s Q E st h => let ⟨⟨_, he⟩, _⟩ := st; wpAny_pyIter_enum he h
/-- enumerate of a list, a text, a tuple -/
def iEnumB (K : PySem.W.Frag) (ta : TA) : TI := fun σ H R => ta σ H fun vs H1 => (∃ a xs, vs = [.ref a] ∧ SqL K H1 a xs ∧ R (Ite K a) H1) ∨ (∃ x, vs = [.str x] ∧ R (Itse x) H1) ∨ ∃ a xs, vs = [.ref a] ∧ SqT K H1 a xs ∧ R (Itet K a) H1
theorem pi_enumB {X : Cx} {e : Expr} {ta : TA} {p pos tpos : Pos} {elts : List Expr} {kk : Nat} (hg : Gl X "enumerate") (hm : X.mg "enumerate" = none) (ha : PA X [e] ta) (hs : starEach [e] X.env = [(false, eval e X.env)] := by rfl) :
    PI X (.Tuple elts kk tpos) (.Call (.Name "enumerate" p) [e] [] pos) (iEnumB X.K ta) := by
  refine ⟨fun pins s σ H R I h => ?_⟩
  refine Call_ (ld_blt I hg hm boot_enumerate (PyProof.Rows.callWith_type1 (thn (ha.run pos pins s σ H _ I h) fun us s1 ⟨vs, H1, I1, r1, q1⟩ => ?_) hs rfl))
  have low : ∀ b, b ∈ [s1.heap.objs.size + 1, s1.heap.objs.size] → s1.heap.objs.size ≤ b := fun b hb => by
    have e' : b = s1.heap.objs.size + 1 ∨ b = s1.heap.objs.size := by simpa using hb
    rcases e' with z | z
    · rw [z]; exact Nat.le_add_right _ _
    · rw [z]; exact Nat.le_refl _
  rcases q1 with ⟨a, xs, ex, hq, q⟩ | ⟨x, ex, q⟩ | ⟨a, xs, ex, hq, q⟩
  · subst ex
    cases r1 with
    | cons r rr =>
      cases rr
      cases r
      obtain ⟨its, rv, p', hz⟩ := I1.list hq
      refine call_enumerate_list p'.isList fun h' he hit hsz hk => wpAny_pyIter_enum he ?_
      have I2 : Inv X pins σ H1 { s1 with heap := h' } := I1.kept (t' := s1.toks) hk
      exact ⟨s1.heap.objs.size + 1, [s1.heap.objs.size + 1, s1.heap.objs.size], _, _, H1, rfl, I2, turn_enum a (s1.heap.objs.size + 1) s1.heap.objs.size, ⟨⟨.none, he⟩, hit, Nat.succ_ne_self _⟩, fun b hb => I1.fpOk (low b hb) (I1.hok.fresh (low b hb)), q⟩
  · subst ex
    cases r1 with
    | cons r rr =>
      cases rr
      obtain ⟨t, rfl⟩ := r
      refine call_enumerate_str fun h' he hit hsz hk => wpAny_pyIter_enum he ?_
      have I2 : Inv X pins σ H1 { s1 with heap := h' } := I1.kept (t' := s1.toks) hk
      have hty : strIterType x = "str_ascii_iterator" ∨ strIterType x = "str_iterator" := by
        unfold strIterType
        split
        · exact .inl rfl
        · exact .inr rfl
      exact ⟨s1.heap.objs.size + 1, [s1.heap.objs.size + 1, s1.heap.objs.size], _, _, H1, rfl, I2, turn_enumS (s1.heap.objs.size + 1) s1.heap.objs.size x t _ hty, ⟨⟨.none, he⟩, hit, Nat.succ_ne_self _⟩, fun b hb => I1.fpOk (low b hb) (I1.hok.fresh (low b hb)), q⟩
  · subst ex
    cases r1 with
    | cons r rr =>
      cases rr
      cases r
      obtain ⟨its, rv, p', hz⟩ := I1.tuple hq
      have hal : a < s1.heap.objs.size := by obtain ⟨o, ho, _⟩ := p'; exact Heap.lt_size ho
      refine call_enumerate_tuple p' fun h' he hit hsz hk => wpAny_pyIter_enum he ?_
      have I2 : Inv X pins σ H1 { s1 with heap := h' } := I1.kept (t' := s1.toks) hk
      exact ⟨s1.heap.objs.size + 1, [s1.heap.objs.size + 1, s1.heap.objs.size], _, _, H1, rfl, I2, turn_enumT a (s1.heap.objs.size + 1) s1.heap.objs.size (Nat.ne_of_lt hal) (Nat.ne_of_lt (Nat.lt_succ_of_lt hal)), ⟨⟨.none, he⟩, hit, Nat.succ_ne_self _⟩, fun b hb => I1.fpOk (low b hb) (I1.hok.fresh (low b hb)), q⟩
theorem walk_enumT {K : PySem.W.Frag} {a : Addr} {xs : List V} : Walk (Itet K a) xs.length (fun H => SqT K H a xs) (YPair (fun i => some (.int (i : Nat))) (fun i => xs[i]?)) := by
  refine ⟨fun i _ hi q => ⟨xs, xs[i], q, by simp [hi]⟩, fun _ q => ⟨xs, q, Nat.le_refl _⟩, fun i H v H' _ q y => ?_⟩
  obtain ⟨T, x, h1, h2, h3, h4⟩ := y
  exact ⟨T, .int (i : Nat), x, h1, h2, h3, rfl, h4 xs q⟩
theorem it_enumT {K : PySem.W.Frag} {F : Hp} {μ : List Addr} {a : Addr} {xs : List D} {vs : List V} (h : SqT K F a vs) (r : Reps K F μ xs vs) : ItOk K F μ (Itet K a) (enumItems xs) := by
  have w := it_pair (K := K) (F := F) (μ := μ) (f := fun i => D.int (i : Nat)) (g := fun i => xs.getD i .non) (walk_enumT (K := K) (a := a) (xs := vs)) (fun H F1 μ1 S1 W f m => sqT_mono W.sub (sqT_mono f h)) (fun i x _ e => by cases e; exact .int _) fun i x hi e => by
    obtain ⟨d, h1, h2⟩ := r.get' e
    rw [List.getD_eq_getElem?_getD, h1]
    exact h2
  unfold enumItems
  rw [r.length]
  exact w
def enumB (d : D) (S : Store) : R (List D) := match d with
  | .tup xs => .ok (enumItems xs) S
  | d => enumA d S
def miEnumB (as : MA) : MI := fun σ S => (as σ S).bind fun ds S1 => match ds with
  | [d] => enumB d S1
  | _ => .no
section
variable {X : Cx} {E : WX} {e : Expr} {mas : MA}
theorem si_enumB {p pos tpos : Pos} {elts : List Expr} {kk : Nat} (hg : Gl X "enumerate") (hm : X.mg "enumerate" = none) (ha : PA X [e] (tA X.K E mas)) (hs : starEach [e] X.env = [(false, eval e X.env)] := by rfl) : PI X (.Tuple elts kk tpos) (.Call (.Name "enumerate" p) [e] [] pos) (tI X.K E (miEnumB mas)) :=
  (pi_enumB hg hm ha hs).imp fun τ H Q ⟨F, μ, σ, S, W, hs, h⟩ => ⟨F, μ, σ, S, W, hs, (h.split W).mono fun ds S1 H1 F1 μ1 e1 W1 h1 vs q => by
    cases q with
    | nil => exact h1.elim
    | cons r q =>
      cases q with
      | cons => exact h1.elim
      | nil =>
        rename_i d v
        have h1' : Done X.K (WE E τ) H1 F1 μ1 S1 (enumB d S1) (fun xs x H' F' μ' => ∀ (J : It), ItOk X.K F' μ' J xs → Q J H') := h1
        cases r with
        | tup ha r => exact .inr (.inr ⟨_, _, rfl, SqT.of (W1.sub _ _ ha), h1'.here W1 _ (it_enumT (SqT.of ha) r)⟩)
        | str x => exact .inr (.inl ⟨x, rfl, h1'.here W1 _ (it_enumS x)⟩)
        | lst ha r =>
          obtain ⟨F2, S2, xs, a, us, e3, e2, W2, hq, rr, h2⟩ := lstOf_ok (E := WE E τ) (P := fun xs S' H' F' μ' => Done X.K (WE E τ) H' F' μ' S' (.ok (enumItems xs) S') (fun xs x H' F' μ' => ∀ (J : It), ItOk X.K F' μ' J xs → Q J H')) W1 (.lst ha r) (Done.split W1 h1')
          exact .inl ⟨a, us, by rw [e3], sqL_mono W2.sub hq, h2.here W2 _ (it_enum hq rr)⟩
        | scr ha r =>
          obtain ⟨F2, S2, xs, a, us, e3, e2, W2, hq, rr, h2⟩ := lstOf_ok (E := WE E τ) (P := fun xs S' H' F' μ' => Done X.K (WE E τ) H' F' μ' S' (.ok (enumItems xs) S') (fun xs x H' F' μ' => ∀ (J : It), ItOk X.K F' μ' J xs → Q J H')) W1 (.scr ha r) (Done.split W1 h1')
          exact .inl ⟨a, us, by rw [e3], sqL_mono W2.sub hq, h2.here W2 _ (it_enum hq rr)⟩
        | ref ha =>
          obtain ⟨F2, S2, xs, a, us, e3, e2, W2, hq, rr, h2⟩ := lstOf_ok (E := WE E τ) (P := fun xs S' H' F' μ' => Done X.K (WE E τ) H' F' μ' S' (.ok (enumItems xs) S') (fun xs x H' F' μ' => ∀ (J : It), ItOk X.K F' μ' J xs → Q J H')) W1 (.ref ha) (Done.split W1 h1')
          exact .inl ⟨a, us, by rw [e3], sqL_mono W2.sub hq, h2.here W2 _ (it_enum hq rr)⟩
        | _ => exact h1'.elim⟩
end
end MM

set_option Elab.async false
set_option linter.all false
set_option maxRecDepth 100000
set_option maxHeartbeats 2000000
/-! Dicts whose keys are ints in tuples (cells dn), and dicts with int and text keys, keys computed: {}, d[k], d[k] = v, k in d. -/
namespace MM
open PySem PySem.Spec PyProof.Rows L2

/-! ### keys -/
mutual
def keyOf : D → Option NestedKey
  | .int i => some (.num i)
  | .tup xs => match keysOf xs with
    | some ks => some (.tup ks)
    | none => none
  | _ => none
def keysOf : List D → Option (List NestedKey)
  | [] => some []
  | x :: xs => match keyOf x, keysOf xs with
    | some k, some ks => some (k :: ks)
    | _, _ => none
end
def key1 : D → Option Key
  | .int i => some (.inl i)
  | .str x => some (.inr x)
  | _ => none
/-- flat tuples of ints and texts -/
def flatK : List D → Option (List Key)
  | [] => some []
  | x :: xs => match key1 x, flatK xs with
    | some k, some ks => some (k :: ks)
    | _, _ => none
def kfl : D → Option (List Key)
  | .tup xs => flatK xs
  | _ => none
/-! any key -/
mutual
def keyB : D → Option NestedKey
  | .int i => some (.num i)
  | .str x => some (.text x)
  | .tup xs => match keysB xs with
    | some ks => some (.tup ks)
    | none => none
  | _ => none
def keysB : List D → Option (List NestedKey)
  | [] => some []
  | x :: xs => match keyB x, keysB xs with
    | some k, some ks => some (k :: ks)
    | _, _ => none
end
def isNum : NestedKey → Bool
  | .num _ => true
  | _ => false
def isAtom : NestedKey → Bool
  | .num _ => true
  | .text _ => true
  | _ => false
def isTxt : NestedKey → Bool
  | .text _ => true
  | _ => false
/-- a dict's kind by its first key: a tuple with tuples (2), a flat one with texts (1), an atom (0), else it is not told (3) -/
def clsOf : NestedKey → Nat
  | .tup ks => if ks.all isAtom then (if ks.any isTxt then 1 else 3) else 2
  | .num _ => 0
  | .text _ => 0
  | .none => 3
def okC (c : Nat) (k : NestedKey) : Bool := match c, k with
  | 0, .num _ => true
  | 0, .text _ => true
  | 1, .tup ks => ks.all isAtom
  | 2, .tup ks => okN (.tup ks)
  | _, _ => false
def valC : List NestedKey → List D → NestedKey → Option D
  | k' :: ks, x :: xs, k => if NestedKey.beq k' k then some x else valC ks xs k
  | _, _, _ => none
def lookC (ks : List NestedKey) (xs : List D) (y : D) : Option (Option D) := match keyB y, ks with
  | some k, k0 :: _ => if okC (clsOf k0) k then some (valC ks xs k) else none
  | _, _ => none
section
variable {K : PySem.W.Frag} {F : Hp} {μ : List Addr}
mutual
theorem key_ok : ∀ {d : D} {v : V} {k : NestedKey}, Rep K F μ d v → keyOf d = some k → Kp K F v k
  | _, _, _, .non, h => by simp [keyOf] at h
  | _, _, _, .bl _, h => by simp [keyOf] at h
  | _, _, _, .int i, h => by simp [keyOf] at h; subst h; exact .int i
  | _, _, _, .str _, h => by simp [keyOf] at h
  | _, _, _, .lst _ _, h => by simp [keyOf] at h
  | _, _, _, .scr _ _, h => by simp [keyOf] at h
  | _, _, _, .ref _, h => by simp [keyOf] at h
  | _, _, _, .dct _ _ _ _ _, h => by simp [keyOf] at h
  | _, _, _, .dck _ _ _ _, h => by simp [keyOf] at h
  | _, _, _, .dcT _ _ _ _, h => by simp [keyOf] at h
  | _, _, _, .obj _ _ _ _ _, h => by simp [keyOf] at h
  | .tup xs, _, _, .tup hq r, h => by
    rw [keyOf] at h
    cases e : keysOf xs with
    | none => rw [e] at h; cases h
    | some ks =>
      rw [e] at h
      cases h
      obtain ⟨h1, h2⟩ := keys_ok r e
      exact .tup hq h1 h2
theorem keys_ok : ∀ {ds : List D} {vs : List V} {ks : List NestedKey}, Reps K F μ ds vs → keysOf ds = some ks → vs.length = ks.length ∧ ∀ (i : Nat) (v : V) (k : NestedKey), vs[i]? = some v → ks[i]? = some k → Kp K F v k
  | _, _, _, .nil, h => by
    rw [keysOf] at h
    cases h
    exact ⟨rfl, fun i v k e => by simp at e⟩
  | d :: ds, _, _, .cons r rs, h => by
    rw [keysOf] at h
    cases e1 : keyOf d with
    | none => rw [e1] at h; cases h
    | some k =>
      cases e2 : keysOf ds with
      | none => rw [e1, e2] at h; cases h
      | some ks =>
        rw [e1, e2] at h
        cases h
        obtain ⟨h1, h2⟩ := keys_ok rs e2
        refine ⟨by rw [List.length_cons, List.length_cons, h1], fun i v' k' a b => ?_⟩
        cases i with
        | zero =>
          simp at a b
          subst a b
          exact key_ok r e1
        | succ i => exact h2 i v' k' (by simpa using a) (by simpa using b)
end
theorem key1_ok {d : D} {v : V} {k : Key} (r : Rep K F μ d v) (h : key1 d = some k) : v = kV k := by
  cases r with
  | int i => cases h; rfl
  | str x => cases h; rfl
  | _ => cases h
theorem keyTup {d : D} {v : V} {ks : List NestedKey} (r : Rep K F μ d v) (h : keyOf d = some (.tup ks)) : ∃ b, v = .ref b := by
  cases r with
  | tup hq r => exact ⟨_, rfl⟩
  | int i => simp [keyOf] at h
  | non => simp [keyOf] at h
  | bl _ => simp [keyOf] at h
  | str _ => simp [keyOf] at h
  | lst _ _ => simp [keyOf] at h
  | scr _ _ => simp [keyOf] at h
  | ref _ => simp [keyOf] at h
  | dct _ _ _ _ _ => simp [keyOf] at h
  | dck _ _ _ _ => simp [keyOf] at h
  | dcT _ _ _ _ => simp [keyOf] at h
  | obj _ _ _ _ _ => simp [keyOf] at h
end
section
variable {X : Cx} {pins : List (Addr × Obj)} {σ : L2.St} {H : Hp} {s : Shared}
theorem nestedAll_of {h : Heap} : ∀ {vs : List V} {us : List Value} {ks : List NestedKey}, Vals vs us → vs.length = ks.length → (∀ (i : Nat) (v : V) (k : NestedKey), vs[i]? = some v → ks[i]? = some k → ∀ {u : Value}, RelV v u → NestedIs h k u) → NestedAll h ks us
  | _, _, [], .nil, _, _ => .nil
  | _, _, _ :: _, .nil, h, _ => by simp at h
  | _, _, [], .cons _ _, h, _ => by simp at h
  | _, _, k :: ks, .cons r rs, h, g => .cons (g 0 _ k rfl rfl r) (nestedAll_of rs (by simpa using h) fun i v k' a b => g (i + 1) v k' (by simpa using a) (by simpa using b))
theorem Kp.is (I : Inv X pins σ H s) {v : V} {k : NestedKey} (h : Kp X.K H v k) : ∀ {u : Value}, RelV v u → NestedIs s.heap k u := by
  induction h with
  | int i =>
    intro u r
    obtain ⟨t, rfl⟩ := r
    exact .int i t
  | tup h1 h2 _ ih =>
    intro u r
    cases r
    obtain ⟨its, rv, ⟨o, ho, hc, n, hd⟩, _⟩ := I.tuple (SqT.of h1)
    exact .tup ho hc hd (nestedAll_of (by simpa using rv) h2 ih)
theorem okN_parts {k : NestedKey} (h : okN k = true) : okT k = true ∧ k.depth ≤ 8 := by
  unfold okN at h
  rw [Bool.and_eq_true] at h
  exact ⟨h.1, of_decide_eq_true h.2⟩
theorem KN.mem {us : List NU} {xs : List NV} (r : KN us xs) : ∀ x ∈ xs, ∃ u ∈ us, u.1 = x.1 ∧ u.2.1 = x.2.1 ∧ RelV u.2.2 x.2.2 := by
  induction r with
  | nil => intro x hx; cases hx
  | cons h t ih =>
    intro x hx
    rcases List.mem_cons.mp hx with e | hx
    · subst e; exact ⟨_, List.mem_cons_self, h⟩
    · obtain ⟨u, hu, q⟩ := ih x hx; exact ⟨u, List.mem_cons_of_mem _ hu, q⟩
/-- the dict that is tracked -/
theorem dn_at (I : Inv X pins σ H s) {a : Addr} {us : List NU} (e : Rd H a (.ext (dnP a us))) (hk : ∀ x ∈ us, Kp X.K H (.ref x.2.1) x.1) : us.length ≤ sizeLine ∧ (a == sysModules) = false ∧ (∀ x ∈ us, okN x.1 = true) ∧ ∃ xs, KN us xs ∧ s.heap.DictOfH (nestedKind X.prog X.w) a xs := by
  obtain ⟨⟨y, z, ok, o, es, ep, xs, ho, hc, hd, he, rel, hn⟩, _⟩ := (show ObjOk X.prog X.w H s.heap a (.ext (dnP a us)) from e.ok I.hok)
  have hm : ∀ x ∈ xs, okN x.1 = true := fun x hx => by
    obtain ⟨u, hu, e1, _⟩ := rel.mem x hx
    rw [← e1]; exact ok u hu
  refine ⟨z, y, ok, xs, rel, o, es, ep, ho, hc, hd, ?_, fun x hx => ?_, hn⟩
  · rw [he]
    refine List.map_congr_left fun x hx => ?_
    show (⟨hashN x.1, .ref x.2.1, x.2.2⟩ : DictEntry) = ⟨x.1.hash X.w, .ref x.2.1, x.2.2⟩
    rw [hashN_eq X.w x.1 (okN_parts (hm x hx)).1]
  · obtain ⟨u, hu, e1, e2, _⟩ := rel.mem x hx
    exact ⟨by rw [← e1, ← e2]; exact (hk u hu).is I rfl, (okN_parts (hm x hx)).2⟩

/-! ### look, put -/
def valU (us : List NU) (k : NestedKey) : Option V := match us with
  | [] => none
  | x :: r => if x.1 = k then some x.2.2 else valU r k
def putU (us : List NU) (k : NestedKey) (b : Addr) (v : V) : List NU := if us.any (fun x => decide (x.1 = k)) then us.map (fun x => if x.1 = k then (x.1, x.2.1, v) else x) else us ++ [(k, b, v)]
theorem KN.val {us : List NU} {xs : List NV} (r : KN us xs) (k : NestedKey) : RelO (valU us k) ((atKey xs k).map (·.2)) := by
  induction r with
  | nil => exact True.intro
  | @cons u x us xs h t ih =>
    obtain ⟨h1, h2, h3⟩ := h
    unfold valU atKey
    by_cases e : u.1 = k
    · rw [if_pos e]
      have e' : x.1 = k := h1.symm.trans e
      simp only [List.find?_cons, e', decide_true, Option.map_some]
      exact h3
    · rw [if_neg e]
      have e' : ¬ x.1 = k := fun q => e (h1.trans q)
      simp only [List.find?_cons, e', decide_false]
      exact ih
theorem any_KN {us : List NU} {xs : List NV} (r : KN us xs) (k : NestedKey) : (us.any fun x => decide (x.1 = k)) = (atKey xs k).isSome := by
  induction r with
  | nil => rfl
  | @cons u x us xs h t ih =>
    obtain ⟨h1, h2, h3⟩ := h
    unfold atKey
    by_cases e : x.1 = k
    · simp [h1, e]
    · have ih' : (us.any fun x => decide (x.1 = k)) = (((xs.find? fun x => decide (x.1 = k)).map (·.2))).isSome := ih
      simpa [h1, e] using ih'
theorem map_KN {k : NestedKey} {v : V} {u : Value} (hv : RelV v u) {us : List NU} {xs : List NV} (r : KN us xs) : KN (us.map fun x => if x.1 = k then (x.1, x.2.1, v) else x) (xs.map (putAt k u)) := by
  induction r with
  | nil => exact .nil
  | @cons a x us xs h t ih =>
    obtain ⟨h1, h2, h3⟩ := h
    rw [List.map_cons, List.map_cons]
    refine .cons ?_ ih
    unfold putAt
    by_cases e : a.1 = k
    · rw [if_pos e, if_pos (h1.symm.trans e)]; exact ⟨h1, h2, hv⟩
    · rw [if_neg e, if_neg fun q => e (h1.trans q)]; exact ⟨h1, h2, h3⟩
theorem snoc_KN {us : List NU} {xs : List NV} (r : KN us xs) {a : NU} {x : NV} (h : a.1 = x.1 ∧ a.2.1 = x.2.1 ∧ RelV a.2.2 x.2.2) : KN (us ++ [a]) (xs ++ [x]) := by
  induction r with
  | nil => exact .cons h .nil
  | cons h' t ih => exact .cons h' ih
theorem put_KN {us : List NU} {xs : List NV} (r : KN us xs) (k : NestedKey) (b : Addr) {v : V} {u : Value} (hv : RelV v u) : KN (putU us k b v) (storedH xs k b u) := by
  unfold putU storedH
  rw [any_KN r]
  split
  · exact map_KN hv r
  · exact snoc_KN r ⟨rfl, rfl, hv⟩
theorem putU_len (us : List NU) (k : NestedKey) (b : Addr) (v : V) : (putU us k b v).length ≤ us.length + 1 := by
  unfold putU
  split
  · rw [List.length_map]; omega
  · rw [List.length_append]; simp
theorem putU_mem {us : List NU} {k : NestedKey} {b : Addr} {v : V} {P : NestedKey → Addr → Prop} (h : ∀ x ∈ us, P x.1 x.2.1) (hk : P k b) : ∀ x ∈ putU us k b v, P x.1 x.2.1 := by
  intro x hx
  unfold putU at hx
  split at hx
  · obtain ⟨y, hy, e⟩ := List.mem_map.mp hx
    subst e
    split
    · exact h y hy
    · exact h y hy
  · rcases List.mem_append.mp hx with hx | hx
    · exact h x hx
    · rw [List.mem_singleton] at hx
      subst hx
      exact hk
end

/-- what the dict at a holds at the key y -/
def NGet (K : PySem.W.Frag) (H : Hp) (a : Addr) (y : V) (r : Option V) : Prop := ∃ us k b, Rd H a (.ext (dnP a us)) ∧ (∀ x ∈ us, Kp K H (.ref x.2.1) x.1) ∧ y = .ref b ∧ Kp K H (.ref b) k ∧ okN k = true ∧ r = valU us k
def NPut (K : PySem.W.Frag) (H : Hp) (a : Addr) (y v : V) (H' : Hp) : Prop := ∃ us k b, H a = some (.ext (dnP a us)) ∧ (∀ x ∈ us, Kp K H (.ref x.2.1) x.1) ∧ y = .ref b ∧ Kp K H (.ref b) k ∧ okN k = true ∧ us.length < sizeLine ∧ H' = upd H a (.ext (dnP a (putU us k b v)))
def DGet2 (K : PySem.W.Frag) (H : Hp) (a : Addr) (y : V) (r : Option V) : Prop := DGet H a y r ∨ NGet K H a y r
def DPut2 (K : PySem.W.Frag) (H : Hp) (a : Addr) (y v : V) (H' : Hp) : Prop := DPut H a y v H' ∨ NPut K H a y v H'
theorem room8 {prog : Program} {w : World} {A : Around} (hu : A.units + 65 < cLine) : (nestedKind prog w).room A.in1 := by
  show A.in1.units + 8 < cLine
  rw [Around.in1_units]; omega
section
variable {X : Cx} {pins : List (Addr × Obj)} {σ : L2.St} {H : Hp} {s : Shared} {a : Addr} {y v : V} {u r : Value} {o : Option V} {A : Around} {E : Value → Shared → Prop}
theorem d2_getItem {Q : Value → Shared → Prop} (hu : A.units + 65 < cLine) (I : Inv X pins σ H s) (g : DGet2 X.K H a y (some v)) (ry : RelV y u) (h : ∀ w' s', Inv X pins σ H s' → RelV v w' → Q w' s') :
    wpAny (model X.prog X.w) A (getItem (.ref a) u) Q E s := by
  rcases g with g | ⟨us, k, b, e, hk, ey, kb, ok, l⟩
  · exact d_getItem (by omega) I g ry h
  · subst ey
    cases (show u = Value.ref b from ry)
    obtain ⟨z, hd, _, xs, rel, dd⟩ := dn_at I e hk
    obtain ⟨w', hw, rw'⟩ := RelO.some_of (v := v) (o := (atKey xs k).map (·.2)) (by rw [l]; exact rel.val k)
    obtain ⟨p, hp, hp2⟩ := Option.map_eq_some_iff.mp hw
    refine wpAny_getItem_heap (room8 hu) ⟨kb.is I rfl, (okN_parts ok).2⟩ dd hp ?_
    rw [hp2]
    exact h w' _ (I.tok _) rw'
theorem d2_in {Q : Value → Shared → Prop} (hu : A.units + 65 < cLine) (I : Inv X pins σ H s) (g : DGet2 X.K H a y o) (ry : RelV y u) (h : ∀ s', Inv X pins σ H s' → Q (.bool o.isSome) s') :
    wpAny (model X.prog X.w) A (compareOp .In u (.ref a)) Q E s := by
  rcases g with g | ⟨us, k, b, e, hk, ey, kb, ok, l⟩
  · exact d_in (by omega) I g ry h
  · subst ey
    cases (show u = Value.ref b from ry)
    obtain ⟨z, hd, _, xs, rel, dd⟩ := dn_at I e hk
    refine wpAny_in_heap (room8 hu) ⟨kb.is I rfl, (okN_parts ok).2⟩ hd dd ?_
    have q := (rel.val k).isSome_eq
    rw [Option.isSome_map] at q
    rw [← q, ← l]
    exact h _ (I.tok _)
theorem d2_notIn {Q : Value → Shared → Prop} (hu : A.units + 65 < cLine) (I : Inv X pins σ H s) (g : DGet2 X.K H a y o) (ry : RelV y u) (h : ∀ s', Inv X pins σ H s' → Q (.bool (!o.isSome)) s') :
    wpAny (model X.prog X.w) A (compareOp .NotIn u (.ref a)) Q E s := by
  rcases g with g | ⟨us, k, b, e, hk, ey, kb, ok, l⟩
  · exact d_notIn (by omega) I g ry h
  · subst ey
    cases (show u = Value.ref b from ry)
    obtain ⟨z, hd, _, xs, rel, dd⟩ := dn_at I e hk
    refine wpAny_notIn_heap (room8 hu) ⟨kb.is I rfl, (okN_parts ok).2⟩ hd dd ?_
    have q := (rel.val k).isSome_eq
    rw [Option.isSome_map] at q
    rw [← q, ← l]
    exact h _ (I.tok _)
theorem d2_setItem {H' : Hp} {Q : Unit → Shared → Prop} (hu : A.units + 65 < cLine) (I : Inv X pins σ H s) (g : DPut2 X.K H a y v H') (ry : RelV y u) (rv : RelV v r) (h : ∀ s', Inv X pins σ H' s' → Q () s') :
    wpAny (model X.prog X.w) A (setItem (.ref a) u r) Q E s := by
  rcases g with g | ⟨us, k, b, e, hk, ey, kb, ok, hl, eH⟩
  · exact d_setItem (by omega) I g ry rv h
  · subst ey eH
    cases (show u = Value.ref b from ry)
    obtain ⟨z, hd, oks, xs, rel, dd⟩ := dn_at I (.inl e) hk
    have hz : xs.length ≤ sizeLine := by rw [← Paired.length rel]; exact z
    refine wpAny_setItem_heap (hsz := hz) (room8 hu) ⟨kb.is I rfl, (okN_parts ok).2⟩ dd fun h' dd' hs => h _ ?_
    obtain ⟨q, es, ep, hq, h2, h3, h4, _, h5⟩ := dd'
    refine d_write I (by rw [e]; exact True.intro) hs ⟨q, hq⟩ (dnP_ok ?_)
    have oks' : ∀ x ∈ putU us k b v, okN x.1 = true := putU_mem (P := fun k _ => okN k = true) oks ok
    have rel' := put_KN rel k b rv
    refine ⟨hd, Nat.le_trans (putU_len us k b v) hl, oks', q, es, ep, _, hq, h2, h3, ?_, rel', h5⟩
    rw [h4]
    refine List.map_congr_left fun x hx => ?_
    obtain ⟨c, hc, e1, _⟩ := rel'.mem x hx
    show (⟨x.1.hash X.w, .ref x.2.1, x.2.2⟩ : DictEntry) = ⟨hashN x.1, .ref x.2.1, x.2.2⟩
    rw [hashN_eq X.w x.1 (by rw [← e1]; exact (okN_parts (oks' c hc)).1)]
theorem dict2_at (I : Inv X pins σ H s) (g : DGet2 X.K H a y o) : s.TypeIs (.ref a) "dict" := by
  rcases g with g | ⟨us, k, b, e, hk, _⟩
  · exact dict_typeIs I g
  · obtain ⟨_, _, _, xs, _, dd⟩ := dn_at I e hk
    exact dd.typeIs
end

/-! ### the mirrors -/
def valN (kvs : List (NestedKey × D)) (k : NestedKey) : Option D := match kvs with
  | [] => none
  | (k', d) :: r => if NestedKey.beq k' k then some d else valN r k
def putN (kvs : List (NestedKey × D)) (k : NestedKey) (d : D) : List (NestedKey × D) := if kvs.any (fun x => NestedKey.beq x.1 k) then kvs.map (fun x => if NestedKey.beq x.1 k then (x.1, d) else x) else kvs ++ [(k, d)]
def RepN (K : PySem.W.Frag) (F : Hp) (μ : List Addr) (kvs : List (NestedKey × D)) (us : List NU) : Prop := us.map (·.1) = kvs.map (·.1) ∧ Reps K F μ (kvs.map (·.2)) (us.map (·.2.2))
theorem beq_iff {a b : NestedKey} : NestedKey.beq a b = true ↔ a = b := ⟨NestedKey.eq_of_beq a b, fun e => by rw [e]; exact NestedKey.beq_self b⟩
section
variable {K : PySem.W.Frag} {F : Hp} {μ : List Addr}
theorem repN_cons {k : NestedKey} {d : D} {r : List (NestedKey × D)} {us : List NU} (h : RepN K F μ ((k, d) :: r) us) : ∃ b v ur, us = (k, b, v) :: ur ∧ Rep K F μ d v ∧ RepN K F μ r ur := by
  obtain ⟨h1, h2⟩ := h
  cases us with
  | nil => cases h1
  | cons p ur =>
    obtain ⟨k', b, v⟩ := p
    rw [List.map_cons, List.map_cons] at h1 h2
    cases h2 with
    | cons r1 r2 =>
      injection h1 with e1 e2
      have e1 : k' = k := e1
      subst e1
      exact ⟨b, v, ur, rfl, r1, e2, r2⟩
theorem valN_ok {k : NestedKey} : ∀ {kvs : List (NestedKey × D)} {us : List NU}, RepN K F μ kvs us → match valN kvs k with | some d => ∃ v, valU us k = some v ∧ Rep K F μ d v | none => valU us k = none
  | [], us, q => by
    obtain ⟨h1, _⟩ := q
    cases us with
    | nil => exact rfl
    | cons => cases h1
  | (k', e) :: r, us, q => by
    obtain ⟨b, v, ur, rfl, r1, r2⟩ := repN_cons q
    unfold valN valU
    by_cases z : k' = k
    · rw [if_pos (beq_iff.mpr z), if_pos z]; exact ⟨v, rfl, r1⟩
    · rw [if_neg (fun h => z (beq_iff.mp h)), if_neg z]; exact valN_ok r2
theorem any_N {k : NestedKey} : ∀ {kvs : List (NestedKey × D)} {us : List NU}, us.map (·.1) = kvs.map (·.1) → (us.any fun x => decide (x.1 = k)) = kvs.any fun x => NestedKey.beq x.1 k
  | [], [], _ => rfl
  | [], _ :: _, h => by cases h
  | _ :: _, [], h => by cases h
  | p :: kvs, u :: us, h => by
    injection h with e1 e2
    have e1 : u.1 = p.1 := e1
    rw [List.any_cons, List.any_cons, any_N e2, NestedKey.decide_eq, e1]
theorem mapN_ok {k : NestedKey} {d : D} {v : V} (rd : Rep K F μ d v) : ∀ {kvs : List (NestedKey × D)} {us : List NU}, RepN K F μ kvs us → RepN K F μ (kvs.map fun x => if NestedKey.beq x.1 k then (x.1, d) else x) (us.map fun x => if x.1 = k then (x.1, x.2.1, v) else x)
  | [], us, q => by
    obtain ⟨h1, _⟩ := q
    cases us with
    | nil => exact ⟨rfl, .nil⟩
    | cons => cases h1
  | (k', e) :: r, us, q => by
    obtain ⟨b, w, ur, rfl, r1, r2⟩ := repN_cons q
    obtain ⟨i1, i2⟩ := mapN_ok (k := k) rd r2
    rw [List.map_cons, List.map_cons]
    by_cases z : k' = k
    · have z' := beq_iff.mpr z
      refine ⟨?_, ?_⟩
      · rw [List.map_cons, List.map_cons, i1]; simp [z, z', NestedKey.beq_self]
      · rw [List.map_cons, List.map_cons]
        have e1 : (if NestedKey.beq k' k = true then (k', d) else (k', e)).2 = d := by rw [if_pos z']
        have e2 : (if k' = k then (k', b, v) else (k', b, w)).2.2 = v := by rw [if_pos z]
        dsimp only
        rw [e1, e2]
        exact .cons rd i2
    · have z' : ¬ NestedKey.beq k' k = true := fun h => z (beq_iff.mp h)
      refine ⟨?_, ?_⟩
      · rw [List.map_cons, List.map_cons, i1, if_neg z', if_neg z]
      · rw [List.map_cons, List.map_cons]
        dsimp only
        rw [if_neg z', if_neg z]
        exact .cons r1 i2
theorem putN_ok {k : NestedKey} {b : Addr} {d : D} {v : V} (rd : Rep K F μ d v) {kvs : List (NestedKey × D)} {us : List NU} (q : RepN K F μ kvs us) : RepN K F μ (putN kvs k d) (putU us k b v) := by
  unfold putN putU
  rw [any_N q.1]
  split
  · exact mapN_ok rd q
  · refine ⟨?_, ?_⟩
    · rw [List.map_append, List.map_append, q.1]; rfl
    · rw [List.map_append, List.map_append]; exact q.2.append (.cons rd .nil)
end
def valTT (kvs : List (List Key × D)) (k : List Key) : Option D := match kvs with
  | [] => none
  | (k', d) :: r => if k' = k then some d else valTT r k
def putTT (kvs : List (List Key × D)) (k : List Key) (d : D) : List (List Key × D) := if kvs.any (fun x => decide (x.1 = k)) then kvs.map (fun x => if x.1 = k then (x.1, d) else x) else kvs ++ [(k, d)]
/-- the value at a key: none if there is none, no answer if it is no dict, no key -/
def lookD (x y : D) (S : Store) : Option (Option D) := match x with
  | .ref l => match S[l]? with
    | some (.dn kvs) => match keyOf y with
      | some (.tup ks) => if okN (.tup ks) then some (valN kvs (.tup ks)) else none
      | _ => none
    | some (.dic kvs) => match key1 y with
      | some k => some (valD kvs k)
      | none => none
    | some (.dt kvs) => match kfl y with
      | some k => some (valTT kvs k)
      | none => none
    | some (.fd ks xs) => lookC ks xs y
    | _ => none
  | .dct ks xs => lookC ks xs y
  | _ => none
def dGetA (x y : D) (S : Store) : R D := match lookD x y S with
  | some (some d) => .ok d S
  | _ => .no
def dInA (n : Bool) (y x : D) (S : Store) : R D := match lookD x y S with
  | some o => .ok (.bl (o.isSome != n)) S
  | none => .no
def putA (x y d : D) (S : Store) : R Unit := match x with
  | .ref l => match S[l]? with
    | some (.dn kvs) => match keyOf y with
      | some (.tup ks) => if okN (.tup ks) && lim (kvs.length + 1) then .ok () (S.set l (.dn (putN kvs (.tup ks) d))) else .no
      | _ => .no
    | some (.dic kvs) => match key1 y with
      | some k => if lim (kvs.length + 1) && nodupK (kvs.map (·.1)) then .ok () (S.set l (.dic (putD kvs k d))) else .no
      | none => .no
    | some (.dt kvs) => match kfl y with
      | some k => if lim (kvs.length + 1) then .ok () (S.set l (.dt (putTT kvs k d))) else .no
      | none => .no
    | _ => .no
  | _ => .no
section
variable {K : PySem.W.Frag} {H F : Hp} {μ : List Addr} {S : Store}
theorem valD_none {k : Key} : ∀ {kvs : List (Key × D)} {us : List (Key × V)}, RepKV K F μ kvs us → valD kvs k = none → valV us k = none
  | [], us, q, _ => by
    obtain ⟨h1, _⟩ := q
    cases us with
    | nil => rfl
    | cons => cases h1
  | (k', e) :: r, us, q, h => by
    obtain ⟨v, ur, rfl, r1, r2⟩ := repKV_cons q
    unfold valD at h
    by_cases z : k' = k
    · rw [if_pos z] at h; cases h
    · rw [if_neg z] at h
      rw [valV_neg z]
      exact valD_none r2 h
abbrev RepO (K : PySem.W.Frag) (F : Hp) (μ : List Addr) (o : Option D) (r : Option V) : Prop := match o with | some d => ∃ z, r = some z ∧ Rep K F μ d z | none => r = none
theorem flat_ok : ∀ {xs : List D} {vs : List V} {ks : List Key}, Reps K F μ xs vs → flatK xs = some ks → vs = ks.map kV
  | [], _, _, .nil, h => by cases h; rfl
  | x :: xs, _, _, .cons r rs, h => by
    rw [flatK] at h
    cases e1 : key1 x with
    | none => rw [e1] at h; cases h
    | some k =>
      cases e2 : flatK xs with
      | none => rw [e1, e2] at h; cases h
      | some ks =>
        rw [e1, e2] at h
        cases h
        rw [List.map_cons, key1_ok r e1, flat_ok rs e2]
theorem kfl_ok {y : D} {u : V} {k : List Key} (r : Rep K F μ y u) (h : kfl y = some k) : ∃ b, u = .ref b ∧ F b = some (.tup (k.map kV)) := by
  cases r with
  | tup hq rs =>
    have e := flat_ok rs h
    subst e
    exact ⟨_, rfl, hq⟩
  | _ => cases h
/-! the dicts of flat tuples -/
def RepT (K : PySem.W.Frag) (F : Hp) (μ : List Addr) (kvs : List (List Key × D)) (us : List (List Key × V)) : Prop := us.map (·.1) = kvs.map (·.1) ∧ Reps K F μ (kvs.map (·.2)) (us.map (·.2))
theorem repT_cons {k : List Key} {d : D} {r : List (List Key × D)} {us : List (List Key × V)} (h : RepT K F μ ((k, d) :: r) us) : ∃ v ur, us = (k, v) :: ur ∧ Rep K F μ d v ∧ RepT K F μ r ur := by
  obtain ⟨h1, h2⟩ := h
  cases us with
  | nil => cases h1
  | cons p ur =>
    obtain ⟨k', v⟩ := p
    rw [List.map_cons, List.map_cons] at h1 h2
    cases h2 with
    | cons r1 r2 =>
      injection h1 with e1 e2
      have e1 : k' = k := e1
      subst e1
      exact ⟨v, ur, rfl, r1, e2, r2⟩
theorem valTT_ok {k : List Key} : ∀ {kvs : List (List Key × D)} {us : List (List Key × V)}, RepT K F μ kvs us → match valTT kvs k with | some d => ∃ v, valV us k = some v ∧ Rep K F μ d v | none => valV us k = none
  | [], us, q => by
    obtain ⟨h1, _⟩ := q
    cases us with
    | nil => exact rfl
    | cons => cases h1
  | (k', e) :: r, us, q => by
    obtain ⟨v, ur, rfl, r1, r2⟩ := repT_cons q
    unfold valTT
    by_cases z : k' = k
    · rw [if_pos z, valV_pos z]; exact ⟨v, rfl, r1⟩
    · rw [if_neg z, valV_neg z]; exact valTT_ok r2
theorem mapTT_ok {k : List Key} {d : D} {v : V} (rd : Rep K F μ d v) : ∀ {kvs : List (List Key × D)} {us : List (List Key × V)}, RepT K F μ kvs us → RepT K F μ (kvs.map fun x => if x.1 = k then (x.1, d) else x) (us.map fun x => if x.1 = k then (x.1, v) else x)
  | [], us, q => by
    obtain ⟨h1, _⟩ := q
    cases us with
    | nil => exact ⟨rfl, .nil⟩
    | cons => cases h1
  | (k', e) :: r, us, q => by
    obtain ⟨w, ur, rfl, r1, r2⟩ := repT_cons q
    obtain ⟨i1, i2⟩ := mapTT_ok (k := k) rd r2
    rw [List.map_cons, List.map_cons]
    by_cases z : k' = k
    · refine ⟨?_, ?_⟩
      · rw [List.map_cons, List.map_cons, i1]; simp [z]
      · rw [List.map_cons, List.map_cons]
        dsimp only
        rw [if_pos z, if_pos z]
        exact .cons rd i2
    · refine ⟨?_, ?_⟩
      · rw [List.map_cons, List.map_cons, i1, if_neg z, if_neg z]
      · rw [List.map_cons, List.map_cons]
        dsimp only
        rw [if_neg z, if_neg z]
        exact .cons r1 i2
theorem putTT_ok {k : List Key} {d : D} {v : V} (rd : Rep K F μ d v) {kvs : List (List Key × D)} {us : List (List Key × V)} (q : RepT K F μ kvs us) : RepT K F μ (putTT kvs k d) (putK us k v) := by
  have e : (us.any fun kv => decide (kv.1 = k)) = kvs.any fun x => decide (x.1 = k) := by
    have h1 : (us.map (·.1)).any (fun z => decide (z = k)) = (kvs.map (·.1)).any (fun z => decide (z = k)) := by rw [q.1]
    rw [List.any_map, List.any_map] at h1
    exact h1
  unfold putTT putK
  rw [e]
  split
  · exact mapTT_ok rd q
  · refine ⟨?_, ?_⟩
    · rw [List.map_append, List.map_append, q.1]; rfl
    · rw [List.map_append, List.map_append]; exact q.2.append (.cons rd .nil)
/-! dicts as data -/
theorem Kp.noText {v : V} {k : NestedKey} (h : Kp K F v k) : okT k = true := by
  induction h with
  | int i => rfl
  | @tup a vs ks h1 h2 h3 ih =>
    have all : ∀ (ks : List NestedKey), (∀ k ∈ ks, okT k = true) → okTs ks = true := by
      intro ks
      induction ks with
      | nil => intro _; rfl
      | cons k ks ihk => intro h; rw [okTs, h k List.mem_cons_self, ihk fun z hz => h z (List.mem_cons_of_mem _ hz)]; rfl
    show okTs ks = true
    refine all ks fun k hk => ?_
    obtain ⟨i, hi, e⟩ := List.mem_iff_getElem.mp hk
    have hv : i < vs.length := by omega
    exact ih i vs[i] k (List.getElem?_eq_getElem hv) (by rw [List.getElem?_eq_getElem hi, e])
mutual
theorem keyB_of : ∀ {y : D} {k : NestedKey}, keyB y = some k → okT k = true → keyOf y = some k
  | .int i, _, h, _ => h
  | .str x, k, h, o => by simp [keyB] at h; subst h; simp [okT] at o
  | .tup xs, k, h, o => by
    rw [keyB] at h
    cases e : keysB xs with
    | none => rw [e] at h; cases h
    | some ks =>
      rw [e] at h
      cases h
      rw [keyOf, keysB_of e (by simpa [okT] using o)]
  | .non, _, h, _ => by simp [keyB] at h
  | .bl _, _, h, _ => by simp [keyB] at h
  | .lst _, _, h, _ => by simp [keyB] at h
  | .scr _, _, h, _ => by simp [keyB] at h
  | .ref _, _, h, _ => by simp [keyB] at h
  | .dct _ _, _, h, _ => by simp [keyB] at h
  | .obj _ _ _, _, h, _ => by simp [keyB] at h
theorem keysB_of : ∀ {xs : List D} {ks : List NestedKey}, keysB xs = some ks → okTs ks = true → keysOf xs = some ks
  | [], _, h, _ => h
  | x :: xs, ks, h, o => by
    rw [keysB] at h
    cases e1 : keyB x with
    | none => rw [e1] at h; cases h
    | some k =>
      cases e2 : keysB xs with
      | none => rw [e1, e2] at h; cases h
      | some ks' =>
        rw [e1, e2] at h
        cases h
        rw [okTs, Bool.and_eq_true] at o
        rw [keysOf, keyB_of e1 o.1, keysB_of e2 o.2]
end
theorem flatB : ∀ {xs : List D} {ks : List NestedKey}, keysB xs = some ks → ks.all isAtom = true → ∃ l : List Key, flatK xs = some l ∧ l.map nkOf = ks
  | [], ks, h, _ => by cases h; exact ⟨[], rfl, rfl⟩
  | x :: xs, ks, h, o => by
    rw [keysB] at h
    cases e1 : keyB x with
    | none => rw [e1] at h; cases h
    | some k =>
      cases e2 : keysB xs with
      | none => rw [e1, e2] at h; cases h
      | some ks' =>
        rw [e1, e2] at h
        cases h
        rw [List.all_cons, Bool.and_eq_true] at o
        obtain ⟨l, h1, h2⟩ := flatB e2 o.2
        cases x with
        | int i => simp [keyB] at e1; subst e1; exact ⟨.inl i :: l, by rw [flatK, h1]; rfl, by rw [List.map_cons, h2]; rfl⟩
        | str i => simp [keyB] at e1; subst e1; exact ⟨.inr i :: l, by rw [flatK, h1]; rfl, by rw [List.map_cons, h2]; rfl⟩
        | tup ys =>
          rw [keyB] at e1
          cases e3 : keysB ys with
          | none => rw [e3] at e1; cases e1
          | some z => rw [e3] at e1; cases e1; simp [isAtom] at o
        | _ => simp [keyB] at e1
theorem nkOfs_eq (l : List Key) : nkOfs l = .tup (l.map nkOf) := by
  unfold nkOfs
  congr 1
theorem nkOf_inj {a b : Key} (h : nkOf a = nkOf b) : a = b := by
  cases a <;> cases b <;> simp [nkOf] at h <;> rw [h]
theorem nkOfs_inj : ∀ {a b : List Key}, a.map nkOf = b.map nkOf → a = b
  | [], [], _ => rfl
  | [], _ :: _, h => by cases h
  | _ :: _, [], h => by cases h
  | x :: a, y :: b, h => by
    injection h with h1 h2
    rw [nkOf_inj h1, nkOfs_inj h2]
theorem nkOf_atom (a : Key) : isAtom (nkOf a) = true := by cases a <;> rfl
theorem valC_U {k : NestedKey} : ∀ {us : List NU} {xs : List D}, Reps K F μ xs (us.map (·.2.2)) → match valC (us.map (·.1)) xs k with | some d => ∃ v, valU us k = some v ∧ Rep K F μ d v | none => valU us k = none
  | [], xs, r => by cases r; exact rfl
  | u :: us, _, r => by
    rw [List.map_cons] at r
    cases r with
    | cons r1 r2 =>
      rw [List.map_cons]
      unfold valC valU
      by_cases z : u.1 = k
      · rw [if_pos (beq_iff.mpr z), if_pos z]; exact ⟨_, rfl, r1⟩
      · rw [if_neg (fun h => z (beq_iff.mp h)), if_neg z]; exact valC_U r2
theorem valC_V {κ : Type} [DecidableEq κ] {f : κ → NestedKey} (inj : ∀ {a b : κ}, f a = f b → a = b) {k : κ} : ∀ {us : List (κ × V)} {xs : List D}, Reps K F μ xs (us.map (·.2)) → match valC (us.map fun u => f u.1) xs (f k) with | some d => ∃ v, valV us k = some v ∧ Rep K F μ d v | none => valV us k = none
  | [], xs, r => by cases r; exact rfl
  | u :: us, _, r => by
    rw [List.map_cons] at r
    cases r with
    | cons r1 r2 =>
      rw [List.map_cons]
      unfold valC
      by_cases z : u.1 = k
      · rw [if_pos (beq_iff.mpr (by rw [z])), valV_pos z]; exact ⟨_, rfl, r1⟩
      · rw [if_neg (fun h => z (inj (beq_iff.mp h))), valV_neg z]; exact valC_V inj r2
theorem lookC_ok (hs : ∀ a o, F a = some o → H a = some o) {ks : List NestedKey} {xs : List D} {a : Addr} {y : D} {u : V} {o : Option D} (rx : Rep K F μ (.dct ks xs) (.ref a)) (ry : Rep K F μ y u) (h : lookC ks xs y = some o) : ∃ r, DGet2 K H a u r ∧ RepO K F μ o r := by
  unfold lookC at h
  cases hk : keyB y with
  | none => rw [hk] at h; cases h
  | some k =>
    cases ks with
    | nil => rw [hk] at h; cases h
    | cons k0 ks =>
      rw [hk] at h
      dsimp only at h
      by_cases hc : okC (clsOf k0) k = true
      · rw [if_pos hc] at h
        have h := Option.some.inj h
        cases rx with
        | @dct _ ob us _ _ _ hF h1 h2 h3 r =>
          subst h3
          cases us with
          | nil => cases h1
          | cons x0 us =>
            have e0 : x0.1 = k0 := by injection h1
            have kp := h2 x0 List.mem_cons_self
            rw [e0] at kp
            have nt := kp.noText
            cases k0 with
            | none => cases kp
            | num _ => cases kp
            | text _ => cases kp
            | tup k0s =>
              have c2 : clsOf (.tup k0s) = 2 ∨ clsOf (.tup k0s) = 3 := by
                show (if k0s.all isAtom then (if k0s.any isTxt then 1 else 3) else 2) = 2 ∨ (if k0s.all isAtom then (if k0s.any isTxt then 1 else 3) else 2) = 3
                split
                · split
                  · rename_i q
                    obtain ⟨z, hz, hz2⟩ := List.any_eq_true.mp q
                    exfalso
                    have all : ∀ (l : List NestedKey), okTs l = true → ∀ z ∈ l, okT z = true := by
                      intro l
                      induction l with
                      | nil => intro _ z hz; cases hz
                      | cons a l ih => intro h z hz; rw [okTs, Bool.and_eq_true] at h; rcases List.mem_cons.mp hz with rfl | hz; exact h.1; exact ih h.2 z hz
                    have := all k0s (by simpa [okT] using nt) z hz
                    cases z <;> simp [isTxt, okT] at hz2 this
                  · exact .inr rfl
                · exact .inl rfl
              rcases c2 with c2 | c2
              · rw [c2] at hc
                cases k with
                | tup kk =>
                  have hok : okN (.tup kk) = true := hc
                  have ko := keyB_of hk (okN_parts hok).1
                  obtain ⟨b, rfl⟩ := keyTup ry ko
                  refine ⟨valU (x0 :: us) (.tup kk), .inr ⟨_, _, b, .inr ⟨_, hs _ _ hF⟩, fun x hx => (h2 x hx).mono hs, rfl, (key_ok ry ko).mono hs, hok, rfl⟩, ?_⟩
                  have z := valC_U (k := .tup kk) r
                  rw [h1, h] at z
                  cases o <;> exact z
                | _ => cases hc
              · rw [c2] at hc
                cases k <;> cases hc
        | @dck _ ob us _ _ _ hF h1 h2 r =>
          subst h2
          cases us with
          | nil => cases h1
          | cons x0 us =>
            have e0 : nkOf x0.1 = k0 := by injection h1
            have c0 : clsOf k0 = 0 := by rw [← e0]; cases x0.1 <;> rfl
            rw [c0] at hc
            obtain ⟨q, rfl, e⟩ : ∃ q : Key, u = kV q ∧ nkOf q = k := by
              cases ry with
              | int i => simp [keyB] at hk; subst hk; exact ⟨.inl i, rfl, rfl⟩
              | str i => simp [keyB] at hk; subst hk; exact ⟨.inr i, rfl, rfl⟩
              | @tup _ _ ys _ _ =>
                rw [keyB] at hk
                cases e3 : keysB ys with
                | none => rw [e3] at hk; cases hk
                | some z => rw [e3] at hk; cases hk; cases hc
              | _ => simp [keyB] at hk
            subst e
            refine ⟨valV (x0 :: us) q, .inl (.inl ⟨_, q, .inr ⟨_, hs _ _ hF⟩, rfl, rfl⟩), ?_⟩
            have z := valC_V (f := nkOf) (fun h => nkOf_inj h) (k := q) r
            rw [h1, h] at z
            cases o <;> exact z
        | @dcT _ ob us _ _ _ hF h1 h2 r =>
          subst h2
          cases us with
          | nil => cases h1
          | cons x0 us =>
            have e0 : nkOfs x0.1 = k0 := by injection h1
            have al : (x0.1.map nkOf).all isAtom = true := by
              rw [List.all_map, List.all_eq_true]; exact fun z _ => nkOf_atom z
            have c1 : clsOf k0 = 1 ∨ clsOf k0 = 3 := by
              rw [← e0, nkOfs_eq]
              show (if (x0.1.map nkOf).all isAtom then (if (x0.1.map nkOf).any isTxt then 1 else 3) else 2) = 1 ∨ (if (x0.1.map nkOf).all isAtom then (if (x0.1.map nkOf).any isTxt then 1 else 3) else 2) = 3
              rw [if_pos al]
              split
              · exact .inl rfl
              · exact .inr rfl
            rcases c1 with c1 | c1
            · rw [c1] at hc
              cases k with
              | tup kk =>
                have hat : kk.all isAtom = true := hc
                cases ry with
                | @tup b vs ys hq rs =>
                  rw [keyB] at hk
                  cases e3 : keysB ys with
                  | none => rw [e3] at hk; cases hk
                  | some z =>
                    rw [e3] at hk
                    cases hk
                    obtain ⟨l, f1, f2⟩ := flatB e3 hat
                    have ev := flat_ok rs f1
                    subst ev f2
                    refine ⟨valV (x0 :: us) l, .inl (.inr ⟨_, l, b, .inr ⟨_, hs _ _ hF⟩, rfl, hs _ _ hq, rfl⟩), ?_⟩
                    have w := valC_V (f := nkOfs) (fun {a b} h => nkOfs_inj (by rw [nkOfs_eq, nkOfs_eq] at h; injection h)) (k := l) r
                    rw [h1, nkOfs_eq, h] at w
                    cases o <;> exact w
                | _ => simp [keyB] at hk
              | _ => cases hc
            · rw [c1] at hc
              cases k <;> cases hc
      · rw [if_neg hc] at h; cases h
theorem look_ok (W : Wd K H F μ S) {x y : D} {v u : V} {o : Option D} (rx : Rep K F μ x v) (ry : Rep K F μ y u) (h : lookD x y S = some o) : ∃ a r, v = .ref a ∧ DGet2 K H a u r ∧ RepO K F μ o r := by
  cases rx with
  | @ref l a ha =>
    have h : (match S[l]? with
    | some (.dn kvs) => match keyOf y with
      | some (.tup ks) => if okN (.tup ks) then some (valN kvs (.tup ks)) else none
      | _ => none
    | some (.dic kvs) => match key1 y with
      | some k => some (valD kvs k)
      | none => none
    | some (.dt kvs) => match kfl y with
      | some k => some (valTT kvs k)
      | none => none
    | some (.fd ks xs) => lookC ks xs y
    | _ => none : Option (Option D)) = some o := h
    cases hl : S[l]? with
    | none => rw [hl] at h; cases h
    | some c =>
      cases c with
      | lst => rw [hl] at h; cases h
      | fz => rw [hl] at h; cases h
      | ob => rw [hl] at h; cases h
      | fd ks xs =>
        rw [hl] at h
        have z : Rep K F μ (.dct ks xs) (.ref a) := W.cell l _ a hl ha
        obtain ⟨r, g, q⟩ := lookC_ok W.sub z ry h
        exact ⟨a, r, rfl, g, q⟩
      | dt kvs =>
        rw [hl] at h
        dsimp only at h
        obtain ⟨us, hv, rk⟩ := W.cell l _ a hl ha
        cases hk : kfl y with
        | none => rw [hk] at h; cases h
        | some k =>
          rw [hk] at h
          have h := Option.some.inj h
          obtain ⟨b, rfl, hb⟩ := kfl_ok ry hk
          refine ⟨a, valV us k, rfl, .inl (.inr ⟨us, k, b, .inl hv, rfl, W.sub _ _ hb, rfl⟩), ?_⟩
          have z := valTT_ok (k := k) (K := K) (F := F) (μ := μ) rk
          rw [h] at z
          cases o <;> exact z
      | dic kvs =>
        rw [hl] at h
        dsimp only at h
        obtain ⟨us, hv, rk⟩ := W.cell l _ a hl ha
        cases hk : key1 y with
        | none => rw [hk] at h; cases h
        | some k =>
          rw [hk] at h
          have h := Option.some.inj h
          have e := key1_ok ry hk
          subst e
          refine ⟨a, valV us k, rfl, .inl (DGet.k hv), ?_⟩
          cases o with
          | none => exact valD_none rk h
          | some d =>
            obtain ⟨z, h1, h2⟩ := valD_ok rk h
            exact ⟨z, h1, h2⟩
      | dn kvs =>
        rw [hl] at h
        dsimp only at h
        obtain ⟨us, hv, e1, e2, hks⟩ := W.cell l _ a hl ha
        cases hk : keyOf y with
        | none => rw [hk] at h; cases h
        | some k =>
          rw [hk] at h
          cases k with
          | tup ks =>
            dsimp only at h
            by_cases hok : okN (.tup ks) = true
            · rw [if_pos hok] at h
              have h := Option.some.inj h
              obtain ⟨b, rfl⟩ := keyTup ry hk
              refine ⟨a, valU us (.tup ks), rfl, .inr ⟨us, _, b, .inl hv, fun x hx => (hks x hx).mono W.sub, rfl, (key_ok ry hk).mono W.sub, hok, rfl⟩, ?_⟩
              have z := valN_ok (k := .tup ks) (K := K) (F := F) (μ := μ) (kvs := kvs) (us := us) ⟨e1, e2⟩
              rw [h] at z
              cases o with
              | none => exact z
              | some d => exact z
            · rw [if_neg hok] at h; cases h
          | _ => cases h
  | dct a1 a2 a3 a4 a5 =>
    obtain ⟨r, g, q⟩ := lookC_ok W.sub (Rep.dct a1 a2 a3 a4 a5) ry h
    exact ⟨_, r, rfl, g, q⟩
  | dck a1 a2 a3 a4 =>
    obtain ⟨r, g, q⟩ := lookC_ok W.sub (Rep.dck a1 a2 a3 a4) ry h
    exact ⟨_, r, rfl, g, q⟩
  | dcT a1 a2 a3 a4 =>
    obtain ⟨r, g, q⟩ := lookC_ok W.sub (Rep.dcT a1 a2 a3 a4) ry h
    exact ⟨_, r, rfl, g, q⟩
  | _ => cases h
theorem put_ok (W : Wd K H F μ S) {x y d : D} {v u z : V} {E : XK} {P : Unit → Store → Hp → Hp → List Addr → Prop} (rx : Rep K F μ x v) (ry : Rep K F μ y u) (rd : Rep K F μ d z) (h : Done K E H F μ S (putA x y d S) P) : ∃ a H' S', v = .ref a ∧ DPut2 K H a u z H' ∧ P () S' H' F μ ∧ Wd K H' F μ S' ∧ Ext H F μ S H' F μ S' := by
  cases rx with
  | @ref l a ha =>
    have h : Done K E H F μ S (match S[l]? with
    | some (.dn kvs) => match keyOf y with
      | some (.tup ks) => if okN (.tup ks) && lim (kvs.length + 1) then .ok () (S.set l (.dn (putN kvs (.tup ks) d))) else .no
      | _ => .no
    | some (.dic kvs) => match key1 y with
      | some k => if lim (kvs.length + 1) && nodupK (kvs.map (·.1)) then .ok () (S.set l (.dic (putD kvs k d))) else .no
      | none => .no
    | some (.dt kvs) => match kfl y with
      | some k => if lim (kvs.length + 1) then .ok () (S.set l (.dt (putTT kvs k d))) else .no
      | none => .no
    | _ => .no : R Unit) P := h
    cases hl : S[l]? with
    | none => rw [hl] at h; exact h.elim
    | some c =>
      cases c with
      | lst => rw [hl] at h; exact h.elim
      | fz => rw [hl] at h; exact h.elim
      | ob => rw [hl] at h; exact h.elim
      | dt kvs =>
        rw [hl] at h
        dsimp only at h
        obtain ⟨us, hv, rk⟩ := W.cell l _ a hl ha
        cases hk : kfl y with
        | none => rw [hk] at h; exact h.elim
        | some k =>
          rw [hk] at h
          dsimp only at h
          obtain ⟨b, rfl, hb⟩ := kfl_ok ry hk
          by_cases hz : lim (kvs.length + 1) = true
          · rw [if_pos hz] at h
            have hz1 := of_decide_eq_true hz
            have hlen : us.length = kvs.length := by have := congrArg List.length rk.1; simpa using this
            have hp := putTT_ok (k := k) rd rk
            obtain ⟨w3, e3⟩ := W.write (o := .dT (putK us k z)) (c' := .dt (putTT kvs k d)) hl rfl ha ⟨_, upd_same, hp⟩ rfl
            exact ⟨a, _, _, rfl, .inl (DPut.t hv (W.sub _ _ hb) (by rw [sizeLine_eq]; omega)), h _ _ _ e3 w3, w3, e3⟩
          · rw [if_neg hz] at h; exact h.elim
      | fd => rw [hl] at h; exact h.elim
      | dic kvs =>
        rw [hl] at h
        dsimp only at h
        obtain ⟨us, hv, rk⟩ := W.cell l _ a hl ha
        cases hk : key1 y with
        | none => rw [hk] at h; exact h.elim
        | some k =>
          rw [hk] at h
          dsimp only at h
          have e := key1_ok ry hk
          subst e
          by_cases hz : (lim (kvs.length + 1) && nodupK (kvs.map (·.1))) = true
          · rw [if_pos hz] at h
            rw [Bool.and_eq_true] at hz
            have hz1 := of_decide_eq_true hz.1
            have hlen : kvs.length = us.length := by have := congrArg List.length rk.1; simpa using this
            have hn : (us.map (·.1)).Nodup := by rw [← rk.1]; exact nodupK_ok hz.2
            have hp := putD_ok (k := k) rd hn rk
            obtain ⟨w3, e3⟩ := W.write (o := .dK (putK us k z)) (c' := .dic (putD kvs k d)) hl rfl ha ⟨_, upd_same, hp⟩ rfl
            exact ⟨a, _, _, rfl, .inl (DPut.k hv (by rw [sizeLine_eq]; omega)), h _ _ _ e3 w3, w3, e3⟩
          · rw [if_neg hz] at h; exact h.elim
      | dn kvs =>
        rw [hl] at h
        dsimp only at h
        obtain ⟨us, hv, e1, e2, hks⟩ := W.cell l _ a hl ha
        cases hk : keyOf y with
        | none => rw [hk] at h; exact h.elim
        | some k =>
          rw [hk] at h
          cases k with
          | tup ks =>
            dsimp only at h
            by_cases hz : (okN (.tup ks) && lim (kvs.length + 1)) = true
            · rw [if_pos hz] at h
              rw [Bool.and_eq_true] at hz
              obtain ⟨b, rfl⟩ := keyTup ry hk
              have hz1 := of_decide_eq_true hz.2
              have hlen : us.length = kvs.length := by have := congrArg List.length e1; simpa using this
              have rn := putN_ok (k := .tup ks) (b := b) rd (kvs := kvs) (us := us) ⟨e1, e2⟩
              have hkk := putU_mem (us := us) (k := .tup ks) (b := b) (v := z) (P := fun k b => Kp K F (.ref b) k) hks (key_ok ry hk)
              obtain ⟨w3, e3⟩ := W.write (o := .ext (dnP a (putU us (.tup ks) b z))) (c' := .dn (putN kvs (.tup ks) d)) hl rfl ha ⟨_, upd_same, rn.1, rn.2, hkk⟩ rfl
              exact ⟨a, _, _, rfl, .inr ⟨us, _, b, hv, fun x hx => (hks x hx).mono W.sub, rfl, (key_ok ry hk).mono W.sub, hz.1, by rw [sizeLine_eq]; omega, rfl⟩, h _ _ _ e3 w3, w3, e3⟩
            · rw [if_neg hz] at h; exact h.elim
          | _ => exact h.elim
  | _ => exact h.elim
end

/-! ### rules -/
def tDGet2 (K : PySem.W.Frag) (td ty : TE) : TE := fun σ H Q => td σ H fun x H1 => ty σ H1 fun y H2 => ∃ a v, x = .ref a ∧ DGet2 K H2 a y (some v) ∧ Q v H2
def rSetD2 (K : PySem.W.Frag) : TSet := fun o i v H Q => ∃ a H', o = .ref a ∧ DPut2 K H a i v H' ∧ Q H'
def rIn2 (K : PySem.W.Frag) (n : Bool) : R2 := fun y x H Q => ∃ a o, x = .ref a ∧ DGet2 K H a y o ∧ Q (.bl (o.isSome != n)) H
def gSubD (mo mi : ME) : MG := fun v σ S => (mo σ S).bind fun o S1 => (mi σ S1).bind fun i S2 => (putA o i v S2).bind fun _ S3 => .ok σ S3
def mDictN : ME := fun _ S => .ok (.ref S.length) (S ++ [.dn []])
def mDictT : ME := fun _ S => .ok (.ref S.length) (S ++ [.dt []])
def mDictK : ME := fun _ S => .ok (.ref S.length) (S ++ [.dic []])
section
variable {X : Cx} {E : WX} {o i : Expr} {mo mi : ME} {pos : Pos}
theorem se_dget (hu : X.A.units + 65 < cLine) (ho : PE X o (tE X.K E mo)) (hi : PE X i (tE X.K E mi)) (hs : NoSl i := by intro _ _; rfl) : PE X (.Subscript o i pos) (tE X.K E (m2 dGetA mo mi)) := by
  have h0 : PE X (.Subscript o i pos) (tDGet2 X.K (tE X.K E mo) (tE X.K E mi)) := by
    refine ⟨fun pins s σ H Q I h => ?_⟩
    refine subD_of PySem.F.slot_dict_getitem.lookup hs (thn (ho.run pins s σ H _ I h) fun u s1 ⟨x, H1, I1, rx, q1⟩ => thn (hi.run pins s1 σ H1 _ I1 q1) fun iv s2 ⟨y, H2, I2, ry, a, v, ex, g, q2⟩ => ?_)
    subst ex
    obtain rfl : u = Value.ref a := rx
    exact ⟨dict2_at I2 g, d2_getItem hu I2 g ry fun w' s3 I3 rw' => ⟨v, H2, I3, rw', q2⟩⟩
  exact h0.imp fun τ H Q ⟨F, μ, σ, S, W, hs, h⟩ => ⟨F, μ, σ, S, W, hs, (h.split W).mono fun x S1 H1 F1 μ1 e1 W1 h1 v q => ⟨F1, μ1, σ, S1, W1, hs.ext e1, (Done.split W1 h1).mono fun y S2 H2 F2 μ2 e2 W2 h2 u q2 => by
    have h2' : Done X.K _ H2 F2 μ2 S2 (match lookD x y S2 with | some (some d) => .ok d S2 | _ => .no) (PV X.K Q) := h2
    cases hl : lookD x y S2 with
    | none => rw [hl] at h2'; exact h2'.elim
    | some o =>
      cases o with
      | none => rw [hl] at h2'; exact h2'.elim
      | some d =>
        rw [hl] at h2'
        obtain ⟨a, r, rfl, g, z, rfl, rz⟩ := look_ok W2 (q.ext e2) q2 hl
        exact ⟨a, z, rfl, g, h2'.here W2 _ rz⟩⟩⟩
theorem set_dict2 (hu : X.A.units + 65 < cLine) : PSet X (rSetD2 X.K) := by
  intro pins s σ H o i v ov iv u Q I ro ri rv h
  obtain ⟨a, H', eo, g, q⟩ := h
  subst eo
  cases (show ov = Value.ref a from ro)
  exact d2_setItem hu I g ri rv fun s' I' => ⟨H', I', q⟩
theorem sg_subD (hu : X.A.units + 65 < cLine) (ho : PE X o (tE X.K E mo)) (hi : PE X i (tE X.K E mi))
    (ha : ∀ v, assign (.Subscript o i pos) X.env v = (do
      let ov ← holding [v] (eval o X.env)
      let iv ← holding [v, ov] (eval i X.env)
      standAt pos
      holding [v, ov, iv] (setItem ov iv v)
      release [v, ov, iv] []) := by intro _; rfl) : PG X (.Subscript o i pos) (tG X.K E [] (gSubD mo mi)) :=
  (pg_sub ho hi (set_dict2 hu) ha).imp fun v τ H Q ⟨F, μ, σ, S, d, W, hs, r, h⟩ => ⟨F, μ, σ, S, W, hs, (Done.split W h).mono fun x S1 H1 F1 μ1 e1 W1 h1 w q => ⟨F1, μ1, σ, S1, W1, hs.ext e1, (h1.split W1).mono fun y S2 H2 F2 μ2 e2 W2 h2 u q2 => by
    obtain ⟨a, H', S', rfl, g, hp, w3, e3⟩ := put_ok W2 (q.ext e2) q2 ((r.ext e1).ext e2) (h2.split W2)
    exact ⟨a, H', rfl, g, hp.here w3 τ (((hs.ext e1).ext e2).ext e3) off_refl⟩⟩⟩
theorem r2_in {n : Bool} {K : PySem.W.Frag} {y x : V} {H : Hp} {Q : VK} (h : r2 K (dInA n) y x H Q) : rIn2 K n y x H Q := by
  obtain ⟨E, F, μ, S, d, e, W, r1, r2, h⟩ := h
  have h' : Done K E H F μ S (match lookD e d S with | some o => .ok (.bl (o.isSome != n)) S | none => .no) (PV K Q) := h
  cases hl : lookD e d S with
  | none => rw [hl] at h'; exact h'.elim
  | some o =>
    rw [hl] at h'
    obtain ⟨a, r, rfl, g, z⟩ := look_ok W r2 r1 hl
    refine ⟨a, r, rfl, g, ?_⟩
    have e : r.isSome = o.isSome := by
      cases o with
      | none => rw [z]; rfl
      | some d => obtain ⟨z, rfl, _⟩ := z; rfl
    rw [e]
    exact h'.here W _ (.bl _)
theorem od_inA (hu : X.A.units + 65 < cLine) : OpR X (compareOp .In) (r2 X.K (dInA false)) := fun pins s σ H y x v u Q I ry rx h => by
  obtain ⟨a, o, rfl, g, q⟩ := r2_in h
  cases (show u = Value.ref a from rx)
  exact d2_in hu I g ry fun s' I' => ⟨.bl o.isSome, H, I', rfl, by simpa using q⟩
theorem od_notinA (hu : X.A.units + 65 < cLine) : OpR X (compareOp .NotIn) (r2 X.K (dInA true)) := fun pins s σ H y x v u Q I ry rx h => by
  obtain ⟨a, o, rfl, g, q⟩ := r2_in h
  cases (show u = Value.ref a from rx)
  exact d2_notIn hu I g ry fun s' I' => ⟨.bl (!o.isSome), H, I', rfl, by simpa using q⟩
def tDNewN : TE := fun _ H Q => ∀ p, H p = none → Q (.ref p) (upd H p (.ext (dnP p [])))
theorem pe_dnewN : PE X (.Dict [] [] pos) tDNewN := ⟨fun pins s σ H Q I h =>
  wpAny_Dict_empty ⟨.ref s.heap.objs.size, _, I.laid (a := s.heap.objs.size) (o := .ext (dnP s.heap.objs.size [])) (t' := s.toks) (fun _ _ q => Heap.get?_push_of_some _ q) (Nat.le_refl _)
    (dnP_ok ⟨beq_eq_false_iff_ne.mpr (Ne.symm (Nat.ne_of_lt I.big)), Nat.zero_le _, fun _ h => (nomatch h), _, #[], 0, [], Heap.get?_push_size _ rfl, ⟨rfl, rfl, rfl⟩, rfl, rfl, .nil, List.nodup_nil⟩), rfl, h _ (I.hok.fresh (Nat.le_refl _))⟩⟩
theorem new_cellD {K : PySem.W.Frag} {Ex : XK} {H F : Hp} {μ : List Addr} {S : Store} {p : Addr} {o : HO} {c : Cell} {P : D → Store → Hp → Hp → List Addr → Prop} (W : Wd K H F μ S) (hp : H p = none) (hc : CellOk K (upd H p o) F (μ ++ [p]) p c) (hw : c.w = true) (h : Done K Ex H F μ S (.ok (.ref S.length) (S ++ [c])) P) :
    Rep K F (μ ++ [p]) (.ref S.length) (.ref p) ∧ P (.ref S.length) (S ++ [c]) (upd H p o) F (μ ++ [p]) := by
  obtain ⟨w, e⟩ := W.newC hp hc hw
  exact ⟨.ref (by rw [← W.len]; simp), h _ _ _ e w⟩
theorem se_dictN : PE X (.Dict [] [] pos) (tE X.K E mDictN) := pe_dnewN.imp fun τ H Q ⟨F, μ, σ, S, W, hs, h⟩ p hp => by
  obtain ⟨r, h⟩ := new_cellD (o := .ext (dnP p [])) (c := .dn []) W hp ⟨[], upd_same, rfl, .nil, fun _ h => (nomatch h)⟩ rfl h
  exact h _ r
theorem se_dictT : PE X (.Dict [] [] pos) (tE X.K E mDictT) := pe_dnewT.imp fun τ H Q ⟨F, μ, σ, S, W, hs, h⟩ p hp => by
  obtain ⟨r, h⟩ := new_cellD (o := .dT []) (c := .dt []) W hp ⟨[], upd_same, rfl, .nil⟩ rfl h
  exact h _ r
theorem se_dictK : PE X (.Dict [] [] pos) (tE X.K E mDictK) := pe_dnewK.imp fun τ H Q ⟨F, μ, σ, S, W, hs, h⟩ p hp => by
  obtain ⟨r, h⟩ := new_cellD (o := .dK []) (c := .dic []) W hp ⟨[], upd_same, rfl, .nil⟩ rfl h
  exact h _ r
end
/-! ### a dict locked: data from now on -/
/-- what a dict's cell holds, as data -/
def datOf : Cell → Option (List NestedKey × List D)
  | .dn kvs => some (kvs.map (·.1), kvs.map (·.2))
  | .dic kvs => some (kvs.map (fun kv => nkOf kv.1), kvs.map (·.2))
  | .dt kvs => some (kvs.map (fun kv => nkOfs kv.1), kvs.map (·.2))
  | _ => none
theorem datOf_w : ∀ {c : Cell} {p : List NestedKey × List D}, datOf c = some p → c.w = true
  | .lst _, _, h => by cases h
  | .fz _, _, h => by cases h
  | .ob _ _, _, h => by cases h
  | .fd _ _, _, h => by cases h
  | .dn _, _, _ => rfl
  | .dic _, _, _ => rfl
  | .dt _, _, _ => rfl
/-- its object in the abstract heap, and that it is locked as data -/
theorem datOf_ok {K : PySem.W.Frag} {H F : Hp} {μ : List Addr} {a : Addr} {c : Cell} {p : List NestedKey × List D} (hf : F a = none) (h : datOf c = some p) (hc : CellOk K H F μ a c) : ∃ u, H a = some u ∧ Mut (some u) ∧ ∀ o : Obj, Rep K (upd F a (.frz o u)) μ (.dct p.1 p.2) (.ref a) := by
  cases c with
  | dn kvs =>
    cases h
    obtain ⟨us, h1, h2, h3, h4⟩ := hc
    exact ⟨_, h1, True.intro, fun o => .dct upd_same h2 (fun x hx => (h4 x hx).mono (upd_mono hf)) rfl (h3.mono (upd_mono hf) fun _ _ h => h)⟩
  | dic kvs =>
    cases h
    obtain ⟨us, h1, h2, h3⟩ := hc
    refine ⟨_, h1, True.intro, fun o => .dck upd_same ?_ rfl (h3.mono (upd_mono hf) fun _ _ h => h)⟩
    have z := congrArg (List.map nkOf) h2
    rw [List.map_map, List.map_map] at z
    exact z.symm
  | dt kvs =>
    cases h
    obtain ⟨us, h1, h2, h3⟩ := hc
    refine ⟨_, h1, True.intro, fun o => .dcT upd_same ?_ rfl (h3.mono (upd_mono hf) fun _ _ h => h)⟩
    have z := congrArg (List.map nkOfs) h2
    rw [List.map_map, List.map_map] at z
    exact z
  | _ => cases h
def lockAt (l : Nat) (S : Store) : Option (List NestedKey × List D × Store) := match S[l]? with
  | some (.fd ks xs) => some (ks, xs, S)
  | some c => match datOf c with
    | some p => some (p.1, p.2, S.set l (.fd p.1 p.2))
    | none => none
  | none => none
/-- a dict's cell as data; all else as it is -/
def lockD (d : D) (S : Store) : R D := match d with
  | .ref l => match lockAt l S with
    | some (ks, xs, S') => .ok (.dct ks xs) S'
    | none => .ok d S
  | _ => .ok d S
def mLock (m : ME) : ME := m1 lockD m
section
variable {X : Cx} {pins : List (Addr × Obj)} {σ : L2.St} {H F : Hp} {s : Shared} {μ : List Addr} {S S' : Store} {l : Nat} {a : Addr} {ks : List NestedKey} {xs : List D}
theorem lock_ok (I : Inv X pins σ H s) (W : Wd X.K H F μ S) (ha : μ[l]? = some a) (h : lockAt l S = some (ks, xs, S')) : ∃ H' F', Inv X pins σ H' s ∧ Ext H F μ S H' F' μ S' ∧ Wd X.K H' F' μ S' ∧ Rep X.K F' μ (.dct ks xs) (.ref a) := by
  unfold lockAt at h
  have key : ∀ c p, S[l]? = some c → datOf c = some p → (p.1, p.2, S.set l (.fd p.1 p.2)) = (ks, xs, S') → ∃ H' F', Inv X pins σ H' s ∧ Ext H F μ S H' F' μ S' ∧ Wd X.K H' F' μ S' ∧ Rep X.K F' μ (.dct ks xs) (.ref a) := fun c p hl hp e => by
    obtain ⟨p1, p2⟩ := p
    cases e
    have hf := W.out a ⟨l, c, ha, hl, datOf_w hp⟩
    obtain ⟨u, h1, mu, r⟩ := datOf_ok hf hp (W.cell l c a hl ha)
    obtain ⟨o, I'⟩ := I.lock h1 mu
    obtain ⟨w, e⟩ := W.lockG (o := .frz o u) (c' := .fd p1 p2) hl (datOf_w hp) ha (r o) rfl
    exact ⟨_, _, I', e, w, r o⟩
  cases hl : S[l]? with
  | none => rw [hl] at h; cases h
  | some c =>
    rw [hl] at h
    cases c with
    | fd ks' xs' =>
      cases h
      exact ⟨H, F, I, .refl, W, W.cell l _ a hl ha⟩
    | lst _ => cases h
    | fz _ => cases h
    | ob _ _ => cases h
    | dn kvs => exact key _ _ hl rfl (Option.some.inj h)
    | dic kvs => exact key _ _ hl rfl (Option.some.inj h)
    | dt kvs => exact key _ _ hl rfl (Option.some.inj h)
end
section
variable {X : Cx} {E : WX} {e : Expr} {m : ME}
/-- a dict's cell becomes data -/
theorem se_lock (he : PE X e (tE X.K E m)) : PE X e (tE X.K E (mLock m)) := by
  refine ⟨fun pins s σ H Q I h => ?_⟩
  obtain ⟨F, μ, σd, S, W, hs, h⟩ := h
  let T : V → Hp → Prop := fun v H1 => ∃ F1 μ1 S1 d, Wd X.K H1 F1 μ1 S1 ∧ Rep X.K F1 μ1 d v ∧ Done X.K (WE E σ) H1 F1 μ1 S1 (lockD d S1) (PV X.K Q)
  refine thn (he.run pins s σ H T I ⟨F, μ, σd, S, W, hs, (h.split W).mono fun d S1 H1 F1 μ1 e1 W1 h1 v r => ⟨F1, μ1, S1, d, W1, r, h1⟩⟩) fun u s1 ⟨v, H1, I1, rv, F1, μ1, S1, d, W1, r, h1⟩ => ?_
  have plain : Done X.K (WE E σ) H1 F1 μ1 S1 (.ok d S1) (PV X.K Q) → ∃ v H', Inv X pins σ H' s1 ∧ RelV v u ∧ Q v H' := fun h1 => ⟨v, H1, I1, rv, h1.here W1 v r⟩
  cases r with
  | @ref l a ha =>
    have h1' : Done X.K (WE E σ) H1 F1 μ1 S1 (match lockAt l S1 with | some (ks, xs, S') => .ok (.dct ks xs) S' | none => .ok (.ref l) S1) (PV X.K Q) := h1
    cases q : lockAt l S1 with
    | none => rw [q] at h1'; exact plain h1'
    | some p =>
      obtain ⟨ks, xs, S2⟩ := p
      rw [q] at h1'
      obtain ⟨H2, F2, I2, e2, W2, r2⟩ := lock_ok I1 W1 ha q
      exact ⟨_, H2, I2, rv, h1' _ _ _ e2 W2 _ r2⟩
  | _ => exact plain h1
end
end MM

set_option Elab.async false
set_option linter.all false
set_option maxRecDepth 100000
set_option maxHeartbeats 2000000
/-! Dicts walked: for k in d, [.. for k in d]; sorted(d). -/
namespace MM
open PySem PySem.Spec PyProof.Rows L2

/-! ### keys as data -/
mutual
def dOfK : NestedKey → D
  | .none => .non
  | .num i => .int i
  | .text x => .str x
  | .tup ks => .tup (dsOfK ks)
def dsOfK : List NestedKey → List D
  | [] => []
  | k :: ks => dOfK k :: dsOfK ks
end
theorem dsOfK_len : ∀ ks : List NestedKey, (dsOfK ks).length = ks.length
  | [] => rfl
  | k :: ks => by rw [dsOfK, List.length_cons, List.length_cons, dsOfK_len ks]
theorem dsOfK_get : ∀ (ks : List NestedKey) (i : Nat), (dsOfK ks)[i]? = (ks[i]?).map dOfK
  | [], i => by simp [dsOfK]
  | k :: ks, 0 => by simp [dsOfK]
  | k :: ks, i + 1 => by rw [dsOfK]; simpa using dsOfK_get ks i
section
variable {K : PySem.W.Frag} {F : Hp} {μ : List Addr}
theorem reps_of : ∀ {ds : List D} {vs : List V}, ds.length = vs.length → (∀ (i : Nat) d v, ds[i]? = some d → vs[i]? = some v → Rep K F μ d v) → Reps K F μ ds vs
  | [], [], _, _ => .nil
  | [], _ :: _, h, _ => by simp at h
  | _ :: _, [], h, _ => by simp at h
  | d :: ds, v :: vs, h, g => .cons (g 0 d v rfl rfl) (reps_of (by simpa using h) fun i a b h1 h2 => g (i + 1) a b (by simpa using h1) (by simpa using h2))
theorem Kp.rep {v : V} {k : NestedKey} (h : Kp K F v k) : Rep K F μ (dOfK k) v := by
  induction h with
  | int i => exact .int i
  | @tup a vs ks h1 h2 h3 ih =>
    refine .tup h1 (reps_of (by rw [dsOfK_len, h2]) fun i d v e1 e2 => ?_)
    rw [dsOfK_get] at e1
    cases hk : ks[i]? with
    | none => rw [hk] at e1; cases e1
    | some k =>
      rw [hk] at e1
      cases e1
      exact ih i v k e2 hk
theorem rep_flat : ∀ l : List Key, Reps K F μ (dsOfK (l.map nkOf)) (l.map kV)
  | [] => .nil
  | .inl i :: l => .cons (.int i) (rep_flat l)
  | .inr x :: l => .cons (.str x) (rep_flat l)
end

/-! ### the walk of a dict with keys that are ints in tuples -/
def Itn (d : Addr) (o : Obj) (us : List NU) : It :=
  ⟨fun i H => H d = some (.frz o (.ext (dnP d us))) ∧ i < us.length, fun i H x H' => H' = H ∧ ∃ u : NU, us[i]? = some u ∧ x = .ref u.2.1, fun i H => H d = some (.frz o (.ext (dnP d us))) ∧ us.length ≤ i⟩
theorem KN.get {us : List NU} {xs : List NV} (r : KN us xs) {i : Nat} {u : NU} (h : us[i]? = some u) : ∃ x, xs[i]? = some x ∧ u.2.1 = x.2.1 := by
  induction r generalizing i with
  | nil => simp at h
  | cons q t ih =>
    cases i with
    | zero => simp at h; subst h; exact ⟨_, rfl, q.2.1⟩
    | succ i => simpa using ih (by simpa using h)
theorem dn_raw {X : Cx} {pins : List (Addr × Obj)} {σ : L2.St} {H : Hp} {s : Shared} {d : Addr} {o : Obj} {us : List NU} (I : Inv X pins σ H s) (h : H d = some (.frz o (.ext (dnP d us)))) :
    (d == sysModules) = false ∧ s.heap.get? d = some o ∧ o.ExactDict ∧ ∃ (es : Array DictEntry) (ep : Nat), o.data = .dict es ep ∧ es.size = us.length ∧ ∀ (i : Nat) (u : NU), us[i]? = some u → ∃ en : DictEntry, es[i]? = some en ∧ en.key = .ref u.2.1 := by
  obtain ⟨h0, ⟨y, z, ok, o', es, ep, xs, ho, hc, hd, he, rel, hn⟩, _⟩ := I.hok d _ h
  rw [h0] at ho
  cases ho
  have hl : us.length = xs.length := Paired.length rel
  refine ⟨y, h0, hc, es, ep, hd, ?_, fun i u hu => ?_⟩
  · rw [← Array.length_toList, he, List.length_map, hl]
  · obtain ⟨x, hx, e⟩ := rel.get hu
    refine ⟨entN x, ?_, by rw [e]; rfl⟩
    rw [← Array.getElem?_toList, he, List.getElem?_map, hx]
    rfl
section
variable {P : Program} {w : World} {K : PySem.W.Frag} {tg : Expr} {d : Addr} {o : Obj} {es : Array DictEntry} {ep : Nat} {us : List NU}
theorem turn_nk (it : Addr) (hod : o.data = .dict es ep) : Turn P w K tg (Itn d o us) [it] it (fun i h => h.IsKeyIter it d i us.length ep) where
  mem := List.mem_singleton.mpr rfl
  obj := fun i h st b hb => by
    obtain rfl := List.mem_singleton.mp hb
    obtain ⟨ob, e1, e2, e3⟩ := st
    exact ⟨ob, e1, fun v z => by rw [e3] at z; cases z⟩
  keep := fun i h h' st k => st.at fun ob e => k it (List.mem_singleton.mpr rfl) ob e
  item := by
    intro X h1 h2 h3 hc i pins s σ H E I hf st hg
    subst h1 h2 h3
    obtain ⟨a1, a2, a3, a4, a5, a6⟩ := hf it (List.mem_singleton.mpr rfl)
    obtain ⟨hgo, hlt⟩ : H d = some (.frz o (.ext (dnP d us))) ∧ i < us.length := hg
    obtain ⟨g1, g2, g3, es', ep', g4, g5, g6⟩ := dn_raw I hgo
    obtain ⟨rfl, rfl⟩ := dict_ep hod g4
    have hu : us[i]? = some us[i] := List.getElem?_eq_getElem hlt
    obtain ⟨en, hen, hkey⟩ := g6 i us[i] hu
    refine next_key_item st g2 g4 g5 hen fun h' st' sb => ?_
    have I' : Inv X pins σ H { s with heap := h' } := I.turned (t' := s.toks) (fun b ob hb q => (sb.2 b hb).trans q) a1 a2 a4 a5 a6
    obtain ⟨ob, e1, e2, e3⟩ := id st'
    exact ⟨en.key, rfl, go_of (s := { s with heap := h' }) e1 e2 e3 (by decide) ⟨.ref us[i].2.1, H, I', hkey, ⟨rfl, us[i], hu, rfl⟩, st', fun b hb => (hf b hb).1⟩⟩
  done := by
    intro X h1 h2 h3 hc i pins s σ H E I hf st hg
    subst h1 h2 h3
    obtain ⟨a1, a2, a3, a4, a5, a6⟩ := hf it (List.mem_singleton.mpr rfl)
    obtain ⟨g1, g2, g3, es', ep', g4, g5, g6⟩ := dn_raw I hg.1
    obtain ⟨rfl, rfl⟩ := dict_ep hod g4
    exact next_key_end (I.ok.hd hc) st g2 g4 g5 hg.2 fun h' eb => ⟨rfl, I.turned (t' := s.toks) (fun b ob hb q => eb b ob hb q) a1 a2 a4 a5 a6⟩
  self := fun A i s Q E st h => wpAny_pyIter_keyiter st h
theorem walk_nk : Walk (Itn d o us) us.length (fun H => H d = some (.frz o (.ext (dnP d us)))) (fun i H x H' => H' = H ∧ ∃ u : NU, us[i]? = some u ∧ x = .ref u.2.1) :=
  ⟨fun i H hi h => ⟨h, hi⟩, fun H h => ⟨h, Nat.le_refl _⟩, fun i H x H' _ _ y => y⟩
end
/-- what is walked: a locked dict of one of the three kinds -/
def iDict (te : TE) : TI := fun σ H R => te σ H fun x H1 => ∃ d o, x = .ref d ∧ ((∃ kvs, H1 d = some (.frz o (.dK kvs)) ∧ R (Itk d o kvs) H1) ∨ (∃ kvs, H1 d = some (.frz o (.dT kvs)) ∧ R (Itkt d o kvs) H1) ∨ ∃ us, H1 d = some (.frz o (.ext (dnP d us))) ∧ R (Itn d o us) H1)
section
variable {X : Cx} {E : WX} {tg e : Expr} {m : ME}
theorem pi_dict {te : TE} (he : PE X e te) : PI X tg e (iDict te) := by
  refine ⟨fun pins s σ H R I h => ?_⟩
  refine thn (he.run pins s σ H _ I h) fun v s1 ⟨x, H1, I1, r1, d, o, ex, q⟩ => ?_
  subst ex
  obtain rfl : v = Value.ref d := r1
  rcases q with ⟨kvs, hd, q⟩ | ⟨kvs, hd, q⟩ | ⟨us, hd, q⟩
  · obtain ⟨k1, k2, k3, es, ep, vs, k4, k5, _⟩ := I1.frzK hd
    exact iter_keys k1 k2 k3 k4 (pi_one (tk := s1.toks) I1 _ (turn_keys _ k4) ⟨_, Heap.get?_push_size _ rfl, rfl, by rw [k5]; rfl⟩ q)
  · obtain ⟨k1, k2, k3, es, ep, k4, k5, _⟩ := I1.frzT hd
    exact iter_keys k1 k2 k3 k4 (pi_one (tk := s1.toks) I1 _ (turn_keysT _ k4) ⟨_, Heap.get?_push_size _ rfl, rfl, by rw [k5]; rfl⟩ q)
  · obtain ⟨k1, k2, k3, es, ep, k4, k5, _⟩ := dn_raw I1 hd
    exact iter_keys k1 k2 k3 k4 (pi_one (tk := s1.toks) I1 _ (turn_nk _ k4) ⟨_, Heap.get?_push_size _ rfl, rfl, by rw [k5]; rfl⟩ q)
end
section
variable {K : PySem.W.Frag} {F : Hp} {μ : List Addr} {a : Addr}
/-- the walk of data -/
theorem it_dict {H : Hp} (hs : ∀ a o, F a = some o → H a = some o) {ks : List NestedKey} {xs : List D} (r : Rep K F μ (.dct ks xs) (.ref a)) : ∃ o, ((∃ kvs, H a = some (.frz o (.dK kvs)) ∧ ItOk K F μ (Itk a o kvs) (ks.map dOfK)) ∨ (∃ kvs, H a = some (.frz o (.dT kvs)) ∧ ItOk K F μ (Itkt a o kvs) (ks.map dOfK)) ∨ ∃ us, H a = some (.frz o (.ext (dnP a us))) ∧ ItOk K F μ (Itn a o us) (ks.map dOfK)) := by
  cases r with
  | @dct _ o us _ _ _ hF h1 h2 h3 r =>
    subst h1
    refine ⟨o, .inr (.inr ⟨us, hs _ _ hF, it_same walk_nk (by simp) (fun H F1 μ1 S1 W f m => W.sub _ _ (f _ _ hF)) fun i d H x H' F1 μ1 S1 hd W f m y => ?_⟩)⟩
    obtain ⟨rfl, u, hu, rfl⟩ := y
    rw [List.getElem?_map, List.getElem?_map, hu] at hd
    cases hd
    exact ⟨F1, .refl, W, ((h2 u (List.mem_of_getElem? hu)).mono f).rep⟩
  | @dck _ o us _ _ _ hF h1 h2 r =>
    subst h1
    refine ⟨o, .inl ⟨us, hs _ _ hF, it_same walk_keys (by simp) (fun H F1 μ1 S1 W f m => W.sub _ _ (f _ _ hF)) fun i d H x H' F1 μ1 S1 hd W f m y => ?_⟩⟩
    obtain ⟨rfl, k, v, hk, rfl⟩ := y
    rw [List.getElem?_map, List.getElem?_map, hk] at hd
    cases hd
    refine ⟨F1, .refl, W, ?_⟩
    cases k with
    | inl i => exact .int i
    | inr x => exact .str x
  | @dcT _ o us _ _ _ hF h1 h2 r =>
    subst h1
    refine ⟨o, .inr (.inl ⟨us, hs _ _ hF, it_same walk_keysT (by simp) (fun H F1 μ1 S1 W f m => W.sub _ _ (f _ _ hF)) fun i d H x H' F1 μ1 S1 hd W f m y => ?_⟩)⟩
    obtain ⟨rfl, k, v, q, hk, rfl, hq⟩ := y
    rw [List.getElem?_map, List.getElem?_map, hk] at hd
    cases hd
    obtain ⟨F2, e2, W2, hF2⟩ := W.know hq
    refine ⟨F2, e2, W2, ?_⟩
    show Rep K F2 μ1 (dOfK (nkOfs k)) (.ref q)
    rw [nkOfs_eq]
    exact .tup hF2 (rep_flat k)
end
/-- the keys of a dict; a cell is locked -/
def keysOfD (d : D) (S : Store) : R (List D) := match d with
  | .dct ks _ => .ok (ks.map dOfK) S
  | .ref l => match lockAt l S with
    | some (ks, _, S') => .ok (ks.map dOfK) S'
    | none => .no
  | _ => .no
def miDict (m : ME) : MI := fun σ S => (m σ S).bind keysOfD
section
variable {X : Cx} {E : WX} {tg e : Expr} {m : ME}
theorem si_dict (he : PE X e (tE X.K E m)) : PI X tg e (tI X.K E (miDict m)) := by
  refine (pi_dict (se_lock he)).imp fun τ H Q ⟨F, μ, σ, S, W, hs, h⟩ => ⟨F, μ, σ, S, W, hs, ?_⟩
  have h' : Done X.K (WE E τ) H F μ S ((m σ S).bind keysOfD) (fun xs _ H' F' μ' => ∀ J, ItOk X.K F' μ' J xs → Q J H') := h
  unfold mLock m1
  cases hm : m σ S with
  | no => rw [hm] at h'; exact h'.elim
  | ex e S1 => rw [hm] at h'; exact h'
  | ok d S1 =>
    rw [hm] at h'
    have h' : Done X.K (WE E τ) H F μ S (keysOfD d S1) (fun xs _ H' F' μ' => ∀ J, ItOk X.K F' μ' J xs → Q J H') := h'
    show Done X.K _ H F μ S (lockD d S1) _
    have fin : ∀ {ks xs H' F' μ' S'}, Wd X.K H' F' μ' S' → (∀ J, ItOk X.K F' μ' J (ks.map dOfK) → Q J H') → ∀ v, Rep X.K F' μ' (.dct ks xs) v → ∃ d o, v = .ref d ∧ ((∃ kvs, H' d = some (.frz o (.dK kvs)) ∧ Q (Itk d o kvs) H') ∨ (∃ kvs, H' d = some (.frz o (.dT kvs)) ∧ Q (Itkt d o kvs) H') ∨ ∃ us, H' d = some (.frz o (.ext (dnP d us))) ∧ Q (Itn d o us) H') := fun {ks xs H' F' μ' S'} W' hq v r => by
      obtain ⟨a, rfl⟩ : ∃ a, v = .ref a := by cases r <;> exact ⟨_, rfl⟩
      obtain ⟨o, ⟨kvs, h1, h2⟩ | ⟨kvs, h1, h2⟩ | ⟨us, h1, h2⟩⟩ := it_dict W'.sub r
      · exact ⟨a, o, rfl, .inl ⟨kvs, h1, hq _ h2⟩⟩
      · exact ⟨a, o, rfl, .inr (.inl ⟨kvs, h1, hq _ h2⟩)⟩
      · exact ⟨a, o, rfl, .inr (.inr ⟨us, h1, hq _ h2⟩)⟩
    unfold keysOfD at h'
    unfold lockD
    cases d with
    | dct ks xs =>
      intro H2 F2 μ2 e2 W2 v r
      exact fin W2 (h' H2 F2 μ2 e2 W2) v r
    | ref l =>
      dsimp only at h' ⊢
      cases hl : lockAt l S1 with
      | none => rw [hl] at h'; exact h'.elim
      | some p =>
        obtain ⟨ks, xs, S2⟩ := p
        rw [hl] at h'
        intro H2 F2 μ2 e2 W2 v r
        exact fin W2 (h' H2 F2 μ2 e2 W2) v r
    | _ => exact h'.elim
end
end MM

set_option Elab.async false
set_option linter.all false
set_option maxRecDepth 100000
set_option maxHeartbeats 2000000
/-! Shifts, &, sums, abs; dict(..) of a list of pairs; sorted(d); displays with int keys. -/
namespace MM
open PySem PySem.Spec PyProof.Rows L2

def dShl := onII fun i j S => MM.need (decide (0 ≤ j) && decide (j ≤ 10000) && decide (i.natAbs < 2 ^ 64)) (.ok (.int (i * 2 ^ j.toNat)) S)
def dAnd2 := onII fun i j S => .ok (.int (Builtin.bitAnd i j)) S
def intsOf : List D → Option (List Int)
  | [] => some []
  | .int i :: ds => (intsOf ds).map (i :: ·)
  | _ => none
def dSum := on1 fun d S => match rdL S d with
  | some xs => match intsOf xs with
    | some ns => .ok (.int ns.sum) S
    | none => .no
  | none => .no
section
variable {X : Cx}
theorem od_shl : OpR X (binaryOp .LShift) (r2 X.K dShl) := od_II op_shl fun E i j H F μ S Q W h => by
  obtain ⟨hb, h⟩ := h.need
  simp only [Bool.and_eq_true, decide_eq_true_eq] at hb
  exact ⟨i, j, rfl, rfl, ⟨hb.1.1, by omega, hb.2⟩, h.here W _ (.int _)⟩
theorem od_and2 : OpR X (binaryOp .BitAnd) (r2 X.K dAnd2) := od_II op_and fun E i j H F μ S Q W h => ⟨i, j, rfl, rfl, h.here W _ (.int _)⟩
theorem intsOf_ok {K : PySem.W.Frag} {F : Hp} {μ : List Addr} : ∀ {ds : List D} {vs : List V} {ns : List Int}, Reps K F μ ds vs → intsOf ds = some ns → vs = ns.map V.int
  | [], _, _, .nil, h => by cases h; rfl
  | d :: ds, _, ns, .cons r rs, h => by
    cases r with
    | int i =>
      rw [intsOf] at h
      cases e : intsOf ds with
      | none => rw [e] at h; cases h
      | some ms => rw [e] at h; cases h; rw [List.map_cons, intsOf_ok rs e]
    | _ => cases h
theorem cd_sum (hc : X.calm = true) : CallR X (.builtin "sum") (rN X.K dSum) := (cr_sum hc).imp fun xs H Q h => by
  replace h := on1_ok h
  obtain ⟨E, x, F, μ, S, d, rfl, W, r, h⟩ := h
  cases hd : rdL S d with
  | none => rw [hd] at h; exact h.elim
  | some ys =>
    rw [hd] at h
    cases hn : intsOf ys with
    | none => dsimp only at h; rw [hn] at h; exact h.elim
    | some ns =>
      dsimp only at h
      rw [hn] at h
      obtain ⟨a, vs, rfl, hs, ra⟩ := rdL_ok W r hd
      have e := intsOf_ok ra hn
      subst e
      exact ⟨a, ns, rfl, SqL.of hs, h.here W _ (.int _)⟩
end

/-! ### dict(xs) of pairs -/
def foldU (us : List NU) : List NU := us.foldl (fun acc u => putU acc u.1 u.2.1 u.2.2) []
section
variable {X : Cx}
theorem pairsN_of {pins : List (Addr × Obj)} {σ : L2.St} {H : Hp} {s : Shared} (I : Inv X pins σ H s) : ∀ {ps : List Addr} {us : List NU}, Paired (fun p (u : NU) => SqT X.K H p [V.ref u.2.1, u.2.2]) ps us →
    ∃ xs : List NV, KN us xs ∧ xs.length = ps.length ∧ ∀ (j : Nat) (x : NV), xs[j]? = some x → ∃ b : Addr, ps[j]? = some b ∧ s.heap.IsTuple b #[.ref x.2.1, x.2.2]
  | _, _, .nil => ⟨[], .nil, rfl, fun j q e => by simp at e⟩
  | _, _, .cons (a := p) (b := u) h t => by
    obtain ⟨xs, r, hl, hp⟩ := pairsN_of I t
    obtain ⟨its, rv, ht, _⟩ := I.tuple h
    obtain ⟨k, y, ei, ru, ry⟩ := vals2 rv
    subst ei
    cases ru
    refine ⟨(u.1, u.2.1, y) :: xs, .cons ⟨rfl, rfl, ry⟩ r, by rw [List.length_cons, List.length_cons, hl], fun j x e => ?_⟩
    cases j with
    | zero =>
      have e' : (u.1, u.2.1, y) = x := Option.some.inj e
      subst e'
      exact ⟨p, rfl, ht⟩
    | succ j =>
      obtain ⟨b, e1, e2⟩ := hp j x (by simpa using e)
      exact ⟨b, by simpa using e1, e2⟩
theorem fold_KN {us : List NU} {xs : List NV} (r : KN us xs) : ∀ {ua : List NU} {xa : List NV}, KN ua xa → KN (us.foldl (fun acc u => putU acc u.1 u.2.1 u.2.2) ua) (storedAllH xa xs) := by
  induction r with
  | nil => exact fun ra => ra
  | @cons u x us xs h t ih =>
    intro ua xa ra
    obtain ⟨h1, h2, h3⟩ := h
    rw [List.foldl_cons]
    show KN _ (storedAllH (storedH xa x.1 x.2.1 x.2.2) xs)
    refine ih ?_
    rw [h1, h2]
    exact put_KN ra x.1 x.2.1 h3
theorem foldU_len : ∀ (us : List NU) (ua : List NU), (us.foldl (fun acc u => putU acc u.1 u.2.1 u.2.2) ua).length ≤ ua.length + us.length
  | [], ua => Nat.le_refl _
  | u :: us, ua => by
    rw [List.foldl_cons]
    have h1 := foldU_len us (putU ua u.1 u.2.1 u.2.2)
    have h2 := putU_len ua u.1 u.2.1 u.2.2
    rw [List.length_cons]
    omega
theorem foldU_mem {P : NestedKey → Addr → Prop} : ∀ {us ua : List NU}, (∀ x ∈ ua, P x.1 x.2.1) → (∀ x ∈ us, P x.1 x.2.1) → ∀ x ∈ us.foldl (fun acc u => putU acc u.1 u.2.1 u.2.2) ua, P x.1 x.2.1
  | [], _, h, _ => h
  | u :: us, ua, h, g => foldU_mem (us := us) (putU_mem (v := u.2.2) h (g u List.mem_cons_self)) fun x hx => g x (List.mem_cons_of_mem _ hx)
theorem call_dictN (hcalm : X.calm = true) (hu : X.A.units + 65 < cLine) : CallR X (.type "dict") (fun xs H Q => ∃ (a : Addr) (ps : List Addr) (us : List NU), xs = [.ref a] ∧ SqL X.K H a (ps.map V.ref) ∧ Paired (fun p (u : NU) => SqT X.K H p [V.ref u.2.1, u.2.2]) ps us ∧ (∀ u ∈ us, okN u.1 = true ∧ Kp X.K H (.ref u.2.1) u.1) ∧
    ∀ p, H p = none → Q (.ref p) (upd H p (.ext (dnP p (foldU us))))) := by
  intro pins s σ H vs ws Q I r q
  obtain ⟨a, ps, us, ex, hq, hp, hk, q⟩ := q
  subst ex
  obtain ⟨u, eu, rx⟩ := vals1 r
  subst eu
  cases rx
  obtain ⟨its, rv, pl, hz⟩ := I.list hq
  have ei := refs_at rv
  subst ei
  rw [List.length_map] at hz
  obtain ⟨xs, rel, hl, hpr⟩ := pairsN_of I hp
  obtain ⟨o, n, ho, hc, hd, hdat⟩ := pl
  have hx : ∀ x ∈ xs, okN x.1 = true ∧ NestedIs s.heap x.1 (.ref x.2.1) := fun x hx => by
    obtain ⟨c, hc, e1, e2, _⟩ := rel.mem x hx
    obtain ⟨g1, g2⟩ := hk c hc
    rw [← e1, ← e2]
    exact ⟨g1, g2.is I rfl⟩
  have hlu : us.length = xs.length := Paired.length rel
  have hm : (s.heap.objs.size == sysModules) = false := beq_eq_false_iff_ne.mpr (Nat.ne_of_gt I.big)
  refine call_dict_pairsH (knd := nestedKind X.prog X.w) (ps := xs) (PairArg.list a (ps.map Value.ref).toArray (fun j => ps.getD j 0) (xs.map fun x => (Value.ref x.2.1, x.2.2))) (I.ok.hd hcalm) (show X.A.in1.in1.units + 8 < cLine by rw [Around.in1_units, Around.in1_units]; omega) ⟨⟨o, n, ho, hc, hd, hdat⟩, by simp [hl], fun j k v e => ?_⟩ ⟨by simp, fun i k v e => ?_⟩
    (fun h' kp x hx' => nestedKind_stays.stays (fun b ob vs n e _ => kp b ob (Nat.ne_of_lt (Heap.lt_size e)) (fun hm => nomatch hm) e) ⟨(hx x hx').2, (okN_parts (hx x hx').1).2⟩) (by simpa [hl] using hz) fun h' tk hd' kp => ?_
  · rw [List.getElem?_map] at e
    cases hj : xs[j]? with
    | none => rw [hj] at e; cases e
    | some x =>
      rw [hj] at e
      cases e
      obtain ⟨b, e1, e2⟩ := hpr j x hj
      have eb : ps.getD j 0 = b := by rw [List.getD_eq_getElem?_getD, e1]; rfl
      dsimp only
      rw [eb]
      exact ⟨by simp [e1], .inl e2⟩
  · have e : (xs.map fun x => (Value.ref x.2.1, x.2.2))[i]? = some (k, v) := e
    rw [List.getElem?_map] at e
    cases hj : xs[i]? with
    | none => rw [hj] at e; cases e
    | some x =>
      rw [hj] at e
      cases e
      exact ⟨x.1, x.2.1, hj ▸ rfl, rfl⟩
  · have kn : KN (foldU us) (storedAllH [] xs) := fold_KN rel .nil
    have oks : ∀ x ∈ foldU us, okN x.1 = true := foldU_mem (P := fun k _ => okN k = true) (fun x hx => nomatch hx) fun x hx => (hk x hx).1
    have hlen : (foldU us).length ≤ sizeLine := by
      refine Nat.le_trans (foldU_len us []) ?_
      rw [List.length_nil, Nat.zero_add, hlu, hl]
      exact hz
    obtain ⟨ob, es, ep, hq1, h2, h3, h4, _, h5⟩ := hd'
    refine ⟨.ref s.heap.objs.size, upd H s.heap.objs.size (.ext (dnP s.heap.objs.size (foldU us))), I.laid (t' := tk) (fun b ob e => kp b ob (fun hm => nomatch hm) e) (Nat.le_refl _) (dnP_ok ⟨hm, hlen, oks, ob, es, ep, _, hq1, h2, h3, ?_, kn, h5⟩), rfl, q _ (I.hok.fresh (Nat.le_refl _))⟩
    rw [h4]
    refine List.map_congr_left fun x hx => ?_
    obtain ⟨c, hc, e1, _⟩ := kn.mem x hx
    show (⟨x.1.hash X.w, .ref x.2.1, x.2.2⟩ : DictEntry) = ⟨hashN x.1, .ref x.2.1, x.2.2⟩
    rw [hashN_eq X.w x.1 (by rw [← e1]; exact (okN_parts (oks c hc)).1)]
end

def pairsD : List D → Option (List (NestedKey × D))
  | [] => some []
  | .tup [k, v] :: r => match keyOf k, pairsD r with
    | some (.tup ks), some q => if okN (.tup ks) then some ((.tup ks, v) :: q) else none
    | _, _ => none
  | _ => none
def foldN (ps : List (NestedKey × D)) : List (NestedKey × D) := ps.foldl (fun acc p => putN acc p.1 p.2) []
def dictN : List D → Store → R D := on1 fun d S => match rdL S d with
  | some xs => match pairsD xs with
    | some ps => .ok (.ref S.length) (S ++ [.dn (foldN ps)])
    | none => .no
  | none => .no
section
variable {K : PySem.W.Frag} {H F : Hp} {μ : List Addr}
theorem pairsD_ok (hs : ∀ a o, F a = some o → H a = some o) : ∀ {xs : List D} {vs : List V} {kvs : List (NestedKey × D)}, Reps K F μ xs vs → pairsD xs = some kvs → ∃ (ps : List Addr) (us : List NU), vs = ps.map V.ref ∧ Paired (fun p (u : NU) => SqT K H p [V.ref u.2.1, u.2.2]) ps us ∧ (∀ u ∈ us, okN u.1 = true ∧ Kp K F (.ref u.2.1) u.1) ∧ RepN K F μ kvs us
  | [], _, _, .nil, h => by cases h; exact ⟨[], [], rfl, .nil, fun _ h => (nomatch h), rfl, .nil⟩
  | x :: xs, _, kvs, .cons (v := v) (vs := vs) r rs, h => by
    cases r with
    | @tup a ws ys hF r =>
      cases r with
      | nil => simp [pairsD] at h
      | @cons k vk ys1 ws1 rk r1 =>
        cases r1 with
        | nil => simp [pairsD] at h
        | @cons d vd ys2 ws2 rd r2 =>
          cases r2 with
          | cons _ _ => simp [pairsD] at h
          | nil =>
            rw [pairsD] at h
            cases e1 : keyOf k with
            | none => rw [e1] at h; cases h
            | some kk =>
              cases e2 : pairsD xs with
              | none => rw [e1, e2] at h; cases kk <;> cases h
              | some q =>
                rw [e1, e2] at h
                cases kk with
                | tup ks =>
                  dsimp only at h
                  by_cases hz : okN (.tup ks) = true
                  · rw [if_pos hz] at h
                    cases h
                    obtain ⟨b, rfl⟩ := keyTup rk e1
                    obtain ⟨ps, us, g1, g2, g3, g4, g5⟩ := pairsD_ok hs rs e2
                    refine ⟨a :: ps, (.tup ks, b, vd) :: us, by rw [g1]; rfl, .cons (SqT.of (hs _ _ hF)) g2, fun u hu => ?_, by rw [List.map_cons, List.map_cons, g4], .cons rd g5⟩
                    rcases List.mem_cons.mp hu with rfl | hu
                    · exact ⟨hz, key_ok rk e1⟩
                    · exact g3 u hu
                  · rw [if_neg hz] at h; cases h
                | _ => cases h
    | _ => simp [pairsD] at h
theorem foldN_ok : ∀ {ps : List (NestedKey × D)} {us : List NU} {pa : List (NestedKey × D)} {ua : List NU}, RepN K F μ ps us → RepN K F μ pa ua → RepN K F μ (ps.foldl (fun acc p => putN acc p.1 p.2) pa) (us.foldl (fun acc u => putU acc u.1 u.2.1 u.2.2) ua)
  | [], us, _, _, q, r => by
    obtain ⟨h1, _⟩ := q
    cases us with
    | nil => exact r
    | cons => cases h1
  | (k, d) :: ps, us, _, _, q, r => by
    obtain ⟨b, v, ur, rfl, r1, r2⟩ := repN_cons q
    rw [List.foldl_cons, List.foldl_cons]
    exact foldN_ok r2 (putN_ok r1 r)
end
section
variable {X : Cx}
theorem cd_dictN (hc : X.calm = true) (hu : X.A.units + 65 < cLine) : CallR X (.type "dict") (rN X.K dictN) := (call_dictN hc hu).imp fun xs H Q h => by
  replace h := on1_ok h
  obtain ⟨E, x, F, μ, S, d, rfl, W, r, h⟩ := h
  cases hd : rdL S d with
  | none => rw [hd] at h; exact h.elim
  | some ys =>
    rw [hd] at h
    cases hn : pairsD ys with
    | none => dsimp only at h; rw [hn] at h; exact h.elim
    | some ps =>
      dsimp only at h
      rw [hn] at h
      obtain ⟨a, vs, rfl, hs, ra⟩ := rdL_ok W r hd
      obtain ⟨ads, us, rfl, g2, g3, g4⟩ := pairsD_ok W.sub ra hn
      refine ⟨a, ads, us, rfl, SqL.of hs, g2, fun u hu => ⟨(g3 u hu).1, (g3 u hu).2.mono W.sub⟩, fun p hp => ?_⟩
      have rn := foldN_ok (pa := []) (ua := []) g4 ⟨rfl, .nil⟩
      have hk : ∀ x ∈ foldU us, Kp X.K F (.ref x.2.1) x.1 := foldU_mem (P := fun k b => Kp X.K F (.ref b) k) (fun x hx => nomatch hx) fun x hx => (g3 x hx).2
      obtain ⟨r', h'⟩ := new_cellD (o := .ext (dnP p (foldU us))) (c := .dn (foldN ps)) W hp ⟨_, upd_same, rn.1, rn.2.mono (fun _ _ h => h) (fun l b q => by rw [List.getElem?_append_left (List.getElem?_eq_some_iff.mp q).1]; exact q), hk⟩ rfl h
      exact h' _ r'
end

/-! ### sorted(d) -/
def cls02 (ks : List NestedKey) : Bool := match ks with
  | k :: _ => clsOf k == 0 || clsOf k == 2
  | [] => false
def sortedDct (m : Bool) := on1 fun d S => match d with
  | .dct ks _ => MM.need (cls02 ks && (sortable (ks.map dOfK) && lim (ks.map dOfK).length)) (newL m (isortB leD (ks.map dOfK)) S)
  | _ => .no
def dSortedA (m : Bool) := orN (sortedD m) (sortedDct m)
section
variable {X : Cx}
theorem vals_same {us : List NU} {es : Array DictEntry} (h : es.size = us.length) (g : ∀ (i : Nat) (u : NU), us[i]? = some u → ∃ en : DictEntry, es[i]? = some en ∧ en.key = .ref u.2.1) {acc : Array Value} (h1 : acc.size = es.size) (h2 : ∀ (j : Nat) v, acc[j]? = some v → ∃ hi : j < es.size, v = es[j].key) : Vals (us.map fun u => V.ref u.2.1) acc.toList := by
  have e : acc.toList = us.map fun u => Value.ref u.2.1 := by
    apply List.ext_getElem?
    intro i
    rw [List.getElem?_map, Array.getElem?_toList]
    cases hu : us[i]? with
    | none =>
      have := List.getElem?_eq_none_iff.mp hu
      rw [Array.getElem?_eq_none (by omega)]; rfl
    | some u =>
      have hi : i < us.length := (List.getElem?_eq_some_iff.mp hu).1
      have hi2 : i < acc.size := by omega
      obtain ⟨en, k1, k2⟩ := g i u hu
      obtain ⟨hj, hv⟩ := h2 i acc[i] (Array.getElem?_eq_getElem hi2)
      rw [Array.getElem?_eq_getElem hi2, hv]
      rw [Array.getElem?_eq_getElem hj] at k1
      cases k1
      rw [k2]; rfl
  rw [e]
  clear h g h2 h1 e
  induction us with
  | nil => exact .nil
  | cons u us ih => exact .cons rfl ih
theorem reps_keys {K : PySem.W.Frag} {F : Hp} {μ : List Addr} : ∀ {us : List NU}, (∀ x ∈ us, Kp K F (.ref x.2.1) x.1) → Reps K F μ ((us.map (·.1)).map dOfK) (us.map fun u => V.ref u.2.1)
  | [], _ => .nil
  | u :: us, h => .cons (h u List.mem_cons_self).rep (reps_keys fun x hx => h x (List.mem_cons_of_mem _ hx))
theorem kv_keys {K : PySem.W.Frag} {F : Hp} {μ : List Addr} : ∀ {us : List (Key × V)}, Reps K F μ ((us.map fun u => nkOf u.1).map dOfK) (us.map fun u => kV u.1)
  | [] => .nil
  | (k, _) :: us => by
    cases k with
    | inl i => exact .cons (.int i) (kv_keys (us := us))
    | inr x => exact .cons (.str x) (kv_keys (us := us))
theorem rel_kV {k : Key} {v : Value} (h : keyIs k v = true) : RelV (kV k) v := by
  rcases keyIs_shape h with ⟨i, t, rfl, rfl⟩ | ⟨x, t, rfl, rfl⟩
  · exact ⟨t, rfl⟩
  · exact ⟨t, rfl⟩
theorem vals_of_at : ∀ {ks : List V} {us : List Value}, ks.length = us.length → (∀ (i : Nat) k u, ks[i]? = some k → us[i]? = some u → RelV k u) → Vals ks us
  | [], [], _, _ => .nil
  | [], _ :: _, h, _ => by simp at h
  | _ :: _, [], h, _ => by simp at h
  | k :: ks, u :: us, h, g => .cons (g 0 k u rfl rfl) (vals_of_at (by simpa using h) fun i a b h1 h2 => g (i + 1) a b (by simpa using h1) (by simpa using h2))
theorem kvs_key {us : List (Key × V)} {vs : List (Key × Value)} (r : KV us vs) : us.map (·.1) = vs.map (·.1) := by
  induction r with
  | nil => rfl
  | cons h t ih => rw [List.map_cons, List.map_cons, h.1, ih]
theorem vals_keys {P : Program} {w : World} {us : List (Key × V)} {vs : List (Key × Value)} (r : KV us vs) {acc : Array Value} (h1 : acc.size = vs.length) (h2 : ∀ (j : Nat) v, acc[j]? = some v → ∃ k x, vs[j]? = some (k, x) ∧ (mixKind P w).is k v = true) : Vals (us.map fun u => kV u.1) acc.toList := by
  have e := kvs_key r
  have hl : us.length = vs.length := by have := congrArg List.length e; simpa using this
  refine vals_of_at (by simp [h1, hl]) fun i k u a b => ?_
  rw [Array.getElem?_toList] at b
  obtain ⟨q, x, g1, g2⟩ := h2 i u b
  rw [List.getElem?_map] at a
  cases hu : us[i]? with
  | none => rw [hu] at a; cases a
  | some p =>
    rw [hu] at a
    cases a
    have z := congrArg (fun l : List Key => l[i]?) e
    simp only [List.getElem?_map, hu, g1, Option.map_some] at z
    show RelV (kV p.1) u
    rw [Option.some.inj z]
    exact rel_kV g2
theorem cd_sortedDct {m : Bool} (hc : X.calm = true) (hu : X.A.units + 64 < cLine) : CallR X (.builtin "sorted") (rN X.K (sortedDct m)) := by
  intro pins s σ H zs us Q I r h
  replace h := on1_ok h
  obtain ⟨E, x, F, μ, S, d, rfl, W, rd, h⟩ := h
  cases d with
  | dct ks xs =>
    obtain ⟨hb, h⟩ := Done.need h
    obtain ⟨hcl, hb⟩ := (Bool.and_eq_true _ _).mp hb
    obtain ⟨u, rfl, rx⟩ := vals1 r
    have hlim : (ks.map dOfK).length ≤ sizeLine := lim_le (by rw [Bool.and_eq_true] at hb; exact hb.2)
    have hh : X.A.in1.handled = none := I.ok.hd hc
    cases rd with
    | @dct a o us _ _ _ hF h1 h2 h3 rr =>
      cases rx
      subst h1
      obtain ⟨g1, g2, g3, es, ep, g4, g5, g6⟩ := dn_raw I (W.sub _ _ hF)
      refine sort_core hu I W (reps_keys h2) hb (fun Q' E' hq => ?_) h
      refine PySem.W.kdu_collect (PySem.KdlSrc.rawDict (es := es) (ep := ep) g1) hh ⟨o, g2, g3, g4⟩ (by simpa [g5] using hlim) fun h' tk acc kp hacc => hq h' tk acc.toList kp (vals_same g5 g6 hacc.1 hacc.2) (by rw [Array.length_toList, hacc.1]; simpa [g5] using hlim)
    | @dck a o us _ _ _ hF h1 h2 rr =>
      cases rx
      subst h1
      obtain ⟨g1, g2, g3, es, ep, vs, g4, g5, g6, g7⟩ := I.frzK (W.sub _ _ hF)
      have hl : us.length = vs.length := Paired.length g6
      refine sort_core hu I W kv_keys hb (fun Q' E' hq => ?_) h
      refine PySem.W.kdu_collect (PySem.W.kdl_dict (kvs := vs) (ep := ep) g1) hh g7 (by simpa [hl] using hlim) fun h' tk acc kp hacc => hq h' tk acc.toList kp ?_ (by rw [Array.length_toList, hacc.1]; simpa [hl] using hlim)
      exact vals_keys g6 (by rw [hacc.1]) hacc.2
    | @dcT a o us _ _ _ hF h1 h2 rr =>
      exfalso
      subst h1
      cases us with
      | nil => cases hcl
      | cons x us =>
        have e : (List.map nkOf x.1).all isAtom = true := List.all_eq_true.mpr fun z hz => by
          obtain ⟨y, _, rfl⟩ := List.mem_map.mp hz
          exact nkOf_atom y
        have c : clsOf (nkOfs x.1) = 1 ∨ clsOf (nkOfs x.1) = 3 := by
          rw [nkOfs_eq]
          show (if (List.map nkOf x.1).all isAtom then (if (List.map nkOf x.1).any isTxt then 1 else 3) else 2) = 1 ∨ (if (List.map nkOf x.1).all isAtom then (if (List.map nkOf x.1).any isTxt then 1 else 3) else 2) = 3
          rw [if_pos e]
          split
          · exact .inl rfl
          · exact .inr rfl
        have z : (clsOf (nkOfs x.1) == 0 || clsOf (nkOfs x.1) == 2) = true := hcl
        rcases c with c | c <;> (rw [c] at z; cases z)
  | _ => exact h.elim
end
end MM

set_option Elab.async false
set_option linter.all false
set_option maxRecDepth 100000
/-! The deck of cells and one number, with constants of any kind. -/
namespace MM
open PySem PySem.Spec PyProof.Rows L2
def drawBg (fld : Str) (k1 k2 k3 : Int) : MS := mSeq (mIf (mBool (m2 dNe (m1 (getD (.inr "cells")) (mVar 0)) (mLst (mNil)))) (mSeq (mAsg (mMeth .list dPop (m1 (getD (.inr "cells")) (mVar 0)) mNil) (gN 2)) (mSeq (mIf (mBool (m2 dGe (mVar 2) (m2 dPow (mK (.int 10)) (mK (.int 18))))) (mSeq (mExpr (mMeth .list dAppend (m1 (getD (.inr "cells")) (mVar 0)) (mCons (m2 dDiv (mVar 2) (mN dMax2 (mCons (mK (.int 2)) (mCons (mVar 1) (mNil))))) (mNil)))) (mRet (m2 dMod (mVar 2) (mVar 1)))) (mSkip)) (mPutD (.inr fld) (mVar 0) (m2 dMod (m2 (dAdd false) (m1 (getD (.inr fld)) (mVar 0)) (mVar 2)) (mK (.int 2147483647)))))) (mSkip)) (mSeq (mPutD (.inr fld) (mVar 0) (m2 dMod (m2 (dAdd false) (m2 (dMul false) (m1 (getD (.inr fld)) (mVar 0)) (mK (.int k1))) (mK (.int k2))) (mK (.int 2147483647)))) (mRet (m2 dMod (m2 dDiv (m1 (getD (.inr fld)) (mVar 0)) (mK (.int k3))) (mVar 1))))
section
variable {fld : Str} {k1 k2 k3 x b : Int} {T : Store} {cells : List Int}
theorem drawg_tail {σ : Sg} {o : Option D} (g1 : b64 k1 = true) (g3 : k3 ≠ 0) (g4 : k3.natAbs < 1073741824) (hf : (Sum.inr ("cells" : Str) : Key) ≠ .inr fld) (hb : 0 < b) : ∃ v x', (mSeq (mPutD (.inr fld) (mVar 0) (m2 dMod (m2 (dAdd false) (m2 (dMul false) (m1 (getD (.inr fld)) (mVar 0)) (mK (.int k1))) (mK (.int k2))) (mK (.int 2147483647)))) (mRet (m2 dMod (m2 dDiv (m1 (getD (.inr fld)) (mVar 0)) (mK (.int k3))) (mVar 1)))) [some (.ref 1), some (.int b), o] (deckS fld cells x T) = .rt (.int v) (deckS fld cells x' T) ∧ 0 ≤ v ∧ v < b := by
  have e1 : decide (b ≠ 0) = true := decide_eq_true (by omega)
  refine ⟨(((x * k1 + k2).fmod 2147483647).fdiv k3).fmod b, (x * k1 + k2).fmod 2147483647, ?_, Int.fmod_nonneg_of_pos _ hb, Int.fmod_lt_of_pos _ hb⟩
  simp [mSeq, mPutD, mRet, m2, m1, mVar, mK, R.bind, R.toO, O.seq, dMod, dDiv, dAdd, dMul, or2, addI, mulI, onII, MM.need, R.or, getD, deckS, valD, putD, hf, hf.symm, lim, nodupK, e1, g1, g3, g4, show b ≠ 0 by omega]

/-- what one draw does -/
theorem drawg_run {σ : Sg} (g1 : b64 k1 = true) (g3 : k3 ≠ 0) (g4 : k3.natAbs < 1073741824) (hf : (Sum.inr ("cells" : Str) : Key) ≠ .inr fld) (hb : 0 < b) (hb2 : b < 1073741824) (hl : cells.length ≤ 1000) : ∃ v cells' x', drawBg fld k1 k2 k3 [some (.ref 1), some (.int b), none] (deckS fld cells x T) = .rt (.int v) (deckS fld cells' x' T) ∧ cells'.length ≤ cells.length ∧ 0 ≤ v ∧ v < b := by
  unfold drawBg
  rcases List.eq_nil_or_concat cells with rfl | ⟨cs, c, rfl⟩
  · obtain ⟨v, x', h, h1, h2⟩ := drawg_tail (k1 := k1) (k2 := k2) (k3 := k3) g1 g3 g4 (fld := fld) (x := x) (T := T) (cells := []) (σ := []) (o := none) hf hb
    refine ⟨v, [], x', ?_, Nat.le_refl _, h1, h2⟩
    rw [← h]
    have e : (mIf (mBool (m2 dNe (m1 (getD (.inr "cells")) (mVar 0)) (mLst (mNil)))) (mSeq (mAsg (mMeth .list dPop (m1 (getD (.inr "cells")) (mVar 0)) mNil) (gN 2)) (mSeq (mIf (mBool (m2 dGe (mVar 2) (m2 dPow (mK (.int 10)) (mK (.int 18))))) (mSeq (mExpr (mMeth .list dAppend (m1 (getD (.inr "cells")) (mVar 0)) (mCons (m2 dDiv (mVar 2) (mN dMax2 (mCons (mK (.int 2)) (mCons (mVar 1) (mNil))))) (mNil)))) (mRet (m2 dMod (mVar 2) (mVar 1)))) (mSkip)) (mPutD (.inr fld) (mVar 0) (m2 dMod (m2 (dAdd false) (m1 (getD (.inr fld)) (mVar 0)) (mVar 2)) (mK (.int 2147483647)))))) (mSkip)) [some (.ref 1), some (.int b), none] (deckS fld [] x T) = .nx [some (.ref 1), some (.int b), none] (deckS fld [] x T) := by
      simp [mIf, mBool, m2, m1, mVar, mLst, mNil, getD, deckS, valD, R.bind, R.toO, dNe, onDD, rd, rdL, MM.need, D.shal, shalAll, eqD, eqAll, mSkip]
    exact mSeq_nx e
  · rw [List.concat_eq_append] at hl ⊢
    have hlen : cs.length + 1 ≤ 1000 := by simpa using hl
    -- the tests
    have e1 : mBool (m2 dNe (m1 (getD (.inr "cells")) (mVar 0)) (mLst (mNil))) [some (.ref 1), some (.int b), none] (deckS fld (cs ++ [c]) x T) = .ok true (deckS fld (cs ++ [c]) x T) := by
      have e2 : eqAll (nums (cs ++ [c])) [] = false := by
        have := eqAll_nums (cs ++ [c]) []
        exact this.trans (decide_eq_false (by simp))
      have e2' : shalAll 39 (nums (cs ++ [c])) = true := shal_nums 39 _
      unfold deckS
      generalize nums (cs ++ [c]) = zs at e2 e2' ⊢
      simp [mBool, m2, m1, mVar, mLst, mNil, getD, valD, R.bind, dNe, onDD, rd, rdL, MM.need, D.shal, shalAll, eqD, e2, e2']
    have e3 : (mAsg (mMeth .list dPop (m1 (getD (.inr "cells")) (mVar 0)) mNil) (gN 2)) [some (.ref 1), some (.int b), none] (deckS fld (cs ++ [c]) x T) = .nx [some (.ref 1), some (.int b), some (.int c)] (deckS fld cs x T) := by
      simp [mAsg, mMeth, m1, mVar, getD, deckS, valD, R.bind, R.toO, isTy, mNil, dPop, onCell, gN]
    have e5 : (10 : Int) ^ (18 : Nat) = 1000000000000000000 := by decide
    have e4 : mBool (m2 dGe (mVar 2) (m2 dPow (mK (.int 10)) (mK (.int 18)))) [some (.ref 1), some (.int b), some (.int c)] (deckS fld cs x T) = .ok (decide (10 ^ 18 ≤ c)) (deckS fld cs x T) := by
      simp [mBool, m2, mVar, mK, R.bind, dPow, onII, MM.need, dGe, dCmp]
    by_cases hc : 10 ^ 18 ≤ c
    · refine ⟨c.fmod b, cs ++ [c.fdiv (if b > 2 then b else 2)], x, ?_, by simp, (fmod_nb hb).1, (fmod_nb hb).2⟩
      have m0 : (if b > 2 then b else 2) ≠ (0 : Int) := by split <;> omega
      have m1' : (if b > 2 then b else 2).natAbs < 1073741824 := by split <;> omega
      have e6 : (mSeq (mExpr (mMeth .list dAppend (m1 (getD (.inr "cells")) (mVar 0)) (mCons (m2 dDiv (mVar 2) (mN dMax2 (mCons (mK (.int 2)) (mCons (mVar 1) (mNil))))) (mNil)))) (mRet (m2 dMod (mVar 2) (mVar 1)))) [some (.ref 1), some (.int b), some (.int c)] (deckS fld cs x T) = .rt (.int (c.fmod b)) (deckS fld (cs ++ [c.fdiv (if b > 2 then b else 2)]) x T) := by
        simp only [mSeq, mExpr, mMeth, m1, mVar, getD, deckS, valD, R.bind, R.toO, isTy, List.getElem?_cons_zero, List.getElem?_cons_succ, if_true, mCons, mNil, m2, mN, mK, dMax2, dDiv, onII]
        simp [MM.need, m0, m1', dAppend, onCell, lim, show cs.length + 1 ≤ 1000000 by omega, O.seq, mRet, m2, mVar, R.bind, R.toO, dMod, onII, show b ≠ 0 by omega]
      refine mSeq_rt ?_
      rw [mIf_t e1, mSeq_nx e3]
      refine mSeq_rt ?_
      rw [mIf_t (by rw [e4, decide_eq_true hc])]
      exact e6
    · obtain ⟨v, x', h, h1, h2⟩ := drawg_tail (k1 := k1) (k2 := k2) (k3 := k3) g1 g3 g4 (fld := fld) (x := (x + c).fmod 2147483647) (T := T) (cells := cs) (σ := []) (o := some (.int c)) hf hb
      refine ⟨v, cs, x', ?_, by simp, h1, h2⟩
      rw [← h]
      have e7 : (mPutD (.inr fld) (mVar 0) (m2 dMod (m2 (dAdd false) (m1 (getD (.inr fld)) (mVar 0)) (mVar 2)) (mK (.int 2147483647)))) [some (.ref 1), some (.int b), some (.int c)] (deckS fld cs x T) = .nx [some (.ref 1), some (.int b), some (.int c)] (deckS fld cs ((x + c).fmod 2147483647) T) := by
        simp [mPutD, m2, m1, mVar, mK, R.bind, R.toO, dMod, dAdd, or2, addI, onII, MM.need, R.or, getD, deckS, valD, putD, hf, hf.symm, lim, nodupK]
      refine mSeq_nx ?_
      rw [mIf_t e1, mSeq_nx e3, mSeq_nx (by rw [mIf_f (by rw [e4, decide_eq_false hc])]; rfl)]
      exact e7
def drawMg (fld : Str) (k1 k2 k3 : Int) : List D → Store → R D := mDefQ 2 3 (drawBg fld k1 k2 k3)
theorem drawg_ok (g1 : b64 k1 = true) (g3 : k3 ≠ 0) (g4 : k3.natAbs < 1073741824) (hf : (Sum.inr ("cells" : Str) : Key) ≠ .inr fld) (hb : 0 < b) (hb2 : b < 1073741824) (hl : cells.length ≤ 1000) : ∃ v cells' x', drawMg fld k1 k2 k3 [.ref 1, .int b] (deckS fld cells x T) = .ok (.int v) (deckS fld cells' x' T) ∧ cells'.length ≤ cells.length ∧ 0 ≤ v ∧ v < b := by
  obtain ⟨v, cells', x', h, h1⟩ := drawg_run g1 g3 g4 (fld := fld) (x := x) (T := T) (cells := cells) (σ := []) hf hb hb2 hl
  refine ⟨v, cells', x', ?_, h1⟩
  exact call_plain rfl h

theorem pickg_ok (g1 : b64 k1 = true) (g3 : k3 ≠ 0) (g4 : k3.natAbs < 1073741824) (hf : (Sum.inr ("cells" : Str) : Key) ≠ .inr fld) {xs : List D} (h1 : xs ≠ []) (h2 : xs.length < 1073741824) (hl : cells.length ≤ 1000) : ∃ y cells' x', mDefQ 2 2 (pickB (drawMg fld k1 k2 k3)) [.ref 1, .lst xs] (deckS fld cells x T) = .ok y (deckS fld cells' x' T) ∧ cells'.length ≤ cells.length ∧ y ∈ xs := by
  have hp : (0 : Int) < xs.length := by
    cases xs with
    | nil => exact absurd rfl h1
    | cons => simp
  obtain ⟨v, cells', x', h, hc, v0, v1⟩ := drawg_ok (k1 := k1) (k2 := k2) (k3 := k3) (x := x) (T := T) g1 g3 g4 hf hp (by omega) hl
  obtain ⟨y, hy, hm⟩ := getInt v0 v1
  refine ⟨y, cells', x', call_plain rfl ?_, hc, hm⟩
  have e : mN (drawMg fld k1 k2 k3) (mCons (mVar 0) (mCons (mN dLen (mCons (mVar 1) (mNil))) (mNil))) [some (.ref 1), some (.lst xs)] (deckS fld cells x T) = .ok (.int v) (deckS fld cells' x' T) := by
    rw [← h]
    simp [mN, mCons, mVar, mNil, R.bind, dLen, orN, lenSeq, on1, rdS, rdL, R.or]
  show (pickB (drawMg fld k1 k2 k3)) [some (.ref 1), some (.lst xs)] (deckS fld cells x T) = _
  unfold pickB
  show (R.toO (m2 dIx (mVar 1) (mN (drawMg fld k1 k2 k3) (mCons (mVar 0) (mCons (mN dLen (mCons (mVar 1) (mNil))) (mNil)))) [some (.ref 1), some (.lst xs)] (deckS fld cells x T)) [some (.ref 1), some (.lst xs)] fun d S1 => .rt d S1) = _
  simp only [m2, mVar, List.getElem?_cons_succ, List.getElem?_cons_zero, R.bind]
  rw [e]
  simp [R.toO, dIx, or2, ixSeq, rdS, rdL, hy, R.or]

end
end MM

set_option Elab.async false
set_option linter.all false
set_option maxRecDepth 100000
/-! Tools for typed runs: comprehensions and loops over a typed list. -/
namespace MM
open PySem PySem.Spec PyProof.Rows L2
section
variable {α : Type} {f r : α → D} {p : α → Bool} {σ0 σ : Sg} {g : MG} {t : MT} {me : ME} {mi : MI} {S S1 : Store} {own : List Nat}
theorem lc_map : ∀ (as : List α), (∀ a ∈ as, ∃ σ1, g (f a) σ0 S = .ok σ1 S ∧ t σ1 S = .ok (p a) S ∧ (p a = true → me σ1 S = .ok (r a) S)) → runLc σ0 g t me (as.map f) S = .ok ((as.filter p).map r) S
  | [], _ => rfl
  | a :: as, h => by
    obtain ⟨σ1, h1, h2, h3⟩ := h a List.mem_cons_self
    have ih := lc_map as fun b hb => h b (List.mem_cons_of_mem _ hb)
    rw [List.map_cons]
    cases hp : p a with
    | true => rw [List.filter_cons_of_pos hp, List.map_cons]; exact runLc_cons h1 (by rw [h2, hp]) (h3 hp) ih
    | false => rw [List.filter_cons_of_neg (by rw [hp]; simp)]; exact runLc_skip h1 (by rw [h2, hp]) ih
theorem mLc_map {as : List α} (h1 : mi σ S = .ok (as.map f) S1) (hz : as.length ≤ 1000000) (h : ∀ a ∈ as, ∃ σ1, g (f a) (wipeM σ own) S1 = .ok σ1 S1 ∧ t σ1 S1 = .ok (p a) S1 ∧ (p a = true → me σ1 S1 = .ok (r a) S1)) : mLc own mi g t me σ S = .ok (.lst ((as.filter p).map r)) S1 :=
  mLc_ok h1 (by rw [List.length_map]; exact hz) (lc_map as h)
/-- the same, each item kept -/
theorem mLc_all {as : List α} (h1 : mi σ S = .ok (as.map f) S1) (hz : as.length ≤ 1000000) (h : ∀ a ∈ as, ∃ σ1, g (f a) (wipeM σ own) S1 = .ok σ1 S1 ∧ me σ1 S1 = .ok (r a) S1) : mLc own mi g mYes me σ S = .ok (.lst (as.map r)) S1 := by
  have := mLc_map (p := fun _ => true) (t := mYes) (me := me) (r := r) h1 hz fun a ha => let ⟨σ1, e1, e2⟩ := h a ha; ⟨σ1, e1, rfl, fun _ => e2⟩
  rw [this, List.filter_eq_self.mpr fun _ _ => rfl]
theorem mLcF_map {as : List α} (h1 : mi σ S = .ok (as.map f) S1) (hz : as.length ≤ 1000000) (h : ∀ a ∈ as, ∃ σ1, g (f a) (wipeM σ own) S1 = .ok σ1 S1 ∧ t σ1 S1 = .ok (p a) S1 ∧ (p a = true → me σ1 S1 = .ok (r a) S1)) : mLcF fin0 own mi g t me σ S = .ok (.lst ((as.filter p).map r)) S1 := mLc_map h1 hz h
/-- a loop that appends to a list's cell, or not -/
theorem runFor_app {b : MS} {l B : Nat} {inv : Sg → Prop} : ∀ (as : List α) (σ : Sg) (S : Store) (acc : List D), inv σ → S[l]? = some (.lst acc) → acc.length + as.length ≤ B →
    (∀ a ∈ as, ∀ σ acc', inv σ → acc'.length + 1 ≤ B → ∃ σ1 σ2, g (f a) σ (S.set l (.lst acc')) = .ok σ1 (S.set l (.lst acc')) ∧ inv σ2 ∧ b σ1 (S.set l (.lst acc')) = .nx σ2 (S.set l (.lst (if p a then acc' ++ [r a] else acc')))) →
    ∃ σ', inv σ' ∧ runFor g b (as.map f) σ S = .nx σ' (S.set l (.lst (acc ++ (as.filter p).map r)))
  | [], σ, S, acc, hi, hS, _, _ => by
    refine ⟨σ, hi, ?_⟩
    have e : S.set l (.lst (acc ++ [])) = S := by
      rw [List.append_nil]
      apply List.ext_getElem?
      intro i
      by_cases hil : l = i
      · subst hil
        have hl := (List.getElem?_eq_some_iff.mp hS).1
        rw [List.getElem?_set_self hl, hS]
      · rw [List.getElem?_set_ne hil]
    show O.nx σ S = _
    exact congrArg (O.nx σ) e.symm
  | a :: as, σ, S, acc, hi, hS, hB, h => by
    rw [List.length_cons] at hB
    have hl := (List.getElem?_eq_some_iff.mp hS).1
    have e0 : S.set l (.lst acc) = S := by
      apply List.ext_getElem?
      intro i
      by_cases hil : l = i
      · subst hil; rw [List.getElem?_set_self hl, hS]
      · rw [List.getElem?_set_ne hil]
    obtain ⟨σ1, σ2, h1, h2, h3⟩ := h a List.mem_cons_self σ acc hi (by omega)
    rw [e0] at h1 h3
    rw [List.map_cons, runFor_cons h1 h3]
    have ss : ∀ (c c' : Cell), (S.set l c).set l c' = S.set l c' := fun c c' => List.set_set ..
    obtain ⟨σ', g1, g2⟩ := runFor_app (B := B) as σ2 (S.set l (.lst (if p a then acc ++ [r a] else acc))) (if p a then acc ++ [r a] else acc) h2 (List.getElem?_set_self hl) (by by_cases hp : p a = true <;> simp [hp] <;> omega) fun b hb τ acc' hτ hz => by
      obtain ⟨τ1, τ2, k1, k2, k3⟩ := h b (List.mem_cons_of_mem _ hb) τ acc' hτ hz
      exact ⟨τ1, τ2, by rw [ss]; exact k1, k2, by rw [ss, ss]; exact k3⟩
    refine ⟨σ', g1, ?_⟩
    rw [g2, ss]
    cases hp : p a with
    | true => rw [List.filter_cons_of_pos hp]; simp
    | false => rw [List.filter_cons_of_neg (by rw [hp]; simp)]; simp
theorem append_ok {l : Nat} {xs : List D} {y : D} {S : Store} (h : S[l]? = some (.lst xs)) (hz : lim (xs.length + 1) = true) : dAppend (.ref l) [y] S = .ok .non (S.set l (.lst (xs ++ [y]))) := by
  unfold dAppend onCell
  dsimp only
  rw [h]
  exact need_t hz
theorem app_ok {c : MT} {y : D} {l : Nat} {acc : List D} {x : Bool} {i k : Nat} (hc : c σ S = .ok x S) (hl : σ[i]? = some (some (.ref l))) (hy : σ[k]? = some (some y)) (hS : S[l]? = some (.lst acc)) (hz : acc.length + 1 ≤ 1000000) : mIf c (mExpr (mMeth .list dAppend (mVar i) (mCons (mVar k) (mNil)))) (mSkip) σ S = .nx σ (S.set l (.lst (if x then acc ++ [y] else acc))) := by
  have hll := (List.getElem?_eq_some_iff.mp hS).1
  cases x with
  | false =>
    have e : S.set l (.lst acc) = S := by
      apply List.ext_getElem?
      intro j
      by_cases hj : l = j
      · subst hj; rw [List.getElem?_set_self hll, hS]
      · rw [List.getElem?_set_ne hj]
    refine (mIf_f hc).trans ?_
    show O.nx σ S = _
    exact congrArg (O.nx σ) e.symm
  | true =>
    refine (mIf_t hc).trans (mExpr_ok (x := .non) ?_)
    unfold mMeth
    rw [mVar_ok hl]
    show (match isTy .list S (.ref l) with | some true => _ | _ => _) = _
    have e : isTy .list S (.ref l) = some true := by unfold isTy; dsimp only; rw [hS]
    rw [e]
    dsimp only
    rw [mCons_ok (mVar_ok hy) (as := mNil) rfl]
    exact append_ok hS (decide_eq_true hz)
theorem mTup_ok {as : MA} {xs : List D} (h : as σ S = .ok xs S1) (hz : xs.length ≤ 1000000) : mTup as σ S = .ok (.tup xs) S1 := by unfold mTup; rw [h]; exact if_pos hz
theorem miSeq_lst {m : ME} {xs : List D} (h : m σ S = .ok (.lst xs) S1) : miSeq m σ S = .ok xs S1 := by unfold miSeq; rw [h]; rfl
theorem miSeq_tup {m : ME} {xs : List D} (h : m σ S = .ok (.tup xs) S1) : miSeq m σ S = .ok xs S1 := by unfold miSeq; rw [h]; rfl
theorem miDict_dct {m : ME} {ks : List NestedKey} {xs : List D} (h : m σ S = .ok (.dct ks xs) S1) : miDict m σ S = .ok (ks.map dOfK) S1 := by unfold miDict; rw [h]; rfl
theorem mLock_data {m : ME} {ks : List NestedKey} {xs : List D} (h : m σ S = .ok (.dct ks xs) S1) : mLock m σ S = .ok (.dct ks xs) S1 := m1_ok h rfl
end
end MM

set_option Elab.async false
set_option linter.all false
set_option maxRecDepth 100000
/-! How long the texts of data are; repr of data that need not be run. -/
namespace MM
open PySem PySem.Spec PyProof.Rows L2
theorem piled_le {k : Nat} : ∀ {ts : List Str}, (∀ t ∈ ts, t.length ≤ k) → piled ts ≤ ts.length * (k + 2)
  | [], _ => by simp [piled]
  | t :: r, h => by
    have ih := piled_le (k := k) (ts := r) fun x hx => h x (List.mem_cons_of_mem _ hx)
    have h1 := h t List.mem_cons_self
    rw [piled_cons, List.length_cons, Nat.add_mul]
    omega
theorem tupT_len {k : Nat} {ts : List Str} (h : ∀ t ∈ ts, t.length ≤ k) : (tupleText ts).length ≤ 3 + ts.length * (k + 2) := by
  unfold tupleText
  rw [strLen_append, strLen_append]
  have e1 : ((("(" : String) : Str)).length = 1 := rfl
  have e3 : (((if ts.length == 1 then ",)" else ")" : String) : Str)).length ≤ 2 := by split <;> decide
  rw [e1]
  have hp := piled_le h
  by_cases hn : ts = []
  · subst hn
    have : (Str.join ", " []).length = 0 := rfl
    omega
  · have := join_length_add ts hn
    omega
theorem lstT_len {k : Nat} {ts : List Str} (h : ∀ t ∈ ts, t.length ≤ k) : (listText ts).length ≤ 3 + ts.length * (k + 2) := by
  unfold listText
  rw [strLen_append]
  have h1 := textFrom_len_le ts 0 "["
  have e1 : ((("[" : String) : Str)).length = 1 := rfl
  have e2 : ((("]" : String) : Str)).length = 1 := rfl
  have e3 : (ts.map (·.length)).sum + 2 * ts.length ≤ ts.length * (k + 2) := by
    clear h1
    induction ts with
    | nil => simp
    | cons t r ih =>
      have h1 := h t List.mem_cons_self
      have := ih fun x hx => h x (List.mem_cons_of_mem _ hx)
      rw [List.map_cons, List.sum_cons, List.length_cons, Nat.add_mul]
      omega
  rw [e2]
  rw [e1] at h1
  omega
theorem shown_map : ∀ xs : List D, PyData.shownAll (pdAll xs) = xs.map fun x => x.pd.shown
  | [] => rfl
  | x :: xs => by
    show x.pd.shown :: PyData.shownAll (pdAll xs) = _
    rw [shown_map xs]; rfl
theorem ok_app {a b : Str} (h1 : PyData.strOk a = true) (h2 : PyData.strOk b = true) : PyData.strOk (a ++ b) = true := by
  show (a.cps ++ b.cps).all (· < 0x110000) = true
  rw [Array.all_append]
  have h1' : a.cps.all (· < 0x110000) = true := h1
  have h2' : b.cps.all (· < 0x110000) = true := h2
  rw [h1', h2']; rfl
theorem ok_join : ∀ {ts : List Str}, (∀ t ∈ ts, PyData.strOk t = true) → PyData.strOk (Str.join ", " ts) = true
  | [], _ => by decide +kernel
  | [x], h => h x List.mem_cons_self
  | x :: y :: r, h => by
    show PyData.strOk (x ++ ", " ++ Str.join ", " (y :: r)) = true
    exact ok_app (ok_app (h x List.mem_cons_self) (by decide +kernel)) (ok_join fun t ht => h t (List.mem_cons_of_mem _ ht))
theorem ok_tupT {ts : List Str} (h : ∀ t ∈ ts, PyData.strOk t = true) : PyData.strOk (tupleText ts) = true := by
  unfold tupleText
  exact ok_app (ok_app (by decide +kernel) (ok_join h)) (by split <;> decide +kernel)
theorem ok_from : ∀ (ts : List Str) (k : Nat) (acc : Str), PyData.strOk acc = true → (∀ t ∈ ts, PyData.strOk t = true) → PyData.strOk (textFrom k acc ts) = true
  | [], _, _, h, _ => h
  | t :: r, k, acc, h, g => ok_from r (k + 1) (acc ++ (if k > 0 then ", " else "" : String) ++ t) (ok_app (ok_app h (by split <;> decide +kernel)) (g t List.mem_cons_self)) fun x hx => g x (List.mem_cons_of_mem _ hx)
theorem ok_lstT {ts : List Str} (h : ∀ t ∈ ts, PyData.strOk t = true) : PyData.strOk (listText ts) = true := ok_app (ok_from ts 0 "[" (by decide +kernel) h) (by decide +kernel)
/-- what can be told as a text of at most k signs -/
def Tells (k : Nat) (d : D) : Prop := d.pd.showable = true ∧ d.pd.shown.length ≤ k ∧ PyData.strOk d.pd.shown = true
theorem tells_all {k : Nat} : ∀ {xs : List D}, (∀ x ∈ xs, Tells k x) → PyData.showableAll (pdAll xs) = true
  | [], _ => rfl
  | x :: xs, h => by
    show (x.pd.showable && PyData.showableAll (pdAll xs)) = true
    rw [(h x List.mem_cons_self).1, tells_all fun y hy => h y (List.mem_cons_of_mem _ hy)]; rfl
theorem tells_tup {k m : Nat} {xs : List D} (h : ∀ x ∈ xs, Tells k x) (hm : 3 + xs.length * (k + 2) ≤ m) : Tells m (.tup xs) := by
  have e : (D.tup xs).pd.shown = tupleText (xs.map fun x => x.pd.shown) := by
    show tupleText (PyData.shownAll (pdAll xs)) = _
    rw [shown_map]
  refine ⟨tells_all h, ?_, ?_⟩
  · rw [e]
    refine Nat.le_trans (tupT_len (k := k) fun t ht => ?_) (by rw [List.length_map]; exact hm)
    obtain ⟨x, hx, rfl⟩ := List.mem_map.mp ht
    exact (h x hx).2.1
  · rw [e]
    refine ok_tupT fun t ht => ?_
    obtain ⟨x, hx, rfl⟩ := List.mem_map.mp ht
    exact (h x hx).2.2
theorem tells_lst {k m : Nat} {xs : List D} (h : ∀ x ∈ xs, Tells k x) (hm : 3 + xs.length * (k + 2) ≤ m) : Tells m (.lst xs) := by
  have e : (D.lst xs).pd.shown = listText (xs.map fun x => x.pd.shown) := by
    show listText (PyData.shownAll (pdAll xs)) = _
    rw [shown_map]
  refine ⟨tells_all h, ?_, ?_⟩
  · rw [e]
    refine Nat.le_trans (lstT_len (k := k) fun t ht => ?_) (by rw [List.length_map]; exact hm)
    obtain ⟨x, hx, rfl⟩ := List.mem_map.mp ht
    exact (h x hx).2.1
  · rw [e]
    refine ok_lstT fun t ht => ?_
    obtain ⟨x, hx, rfl⟩ := List.mem_map.mp ht
    exact (h x hx).2.2
theorem tells_bl (b : Bool) : Tells 5 (.bl b) := by cases b <;> exact ⟨rfl, by decide, by decide +kernel⟩
theorem repr_ok {S : Store} {d e : D} {k : Nat} (hr : rd S d = some e) (hs : isSeq e = true) (h4 : e.shal 40 = true) (ht : Tells k e) (hk : k ≤ 1000000) : dReprA [d] S = .ok (.str e.pd.shown) S := by
  have e1 : dRepr [d] S = .ok (.str e.pd.shown) S := by
    unfold dRepr on1
    dsimp only
    rw [hr]
    exact need_t (by rw [hs, h4, ht.1, show lim e.pd.shown.length = true from decide_eq_true (by have := ht.2.1; omega)]; rfl)
  unfold dReprA orN
  rw [e1]; rfl
theorem ne_str {S : Store} {x : Str} (h : PyData.strOk x = true) : dNe (.str x) (.str x) S = .ok (.bl false) S := by
  rw [dNe_ok (d := .str x) (e := .str x) rfl rfl h h]
  simp [eqD]
section
variable {fld : Str} {k1 k2 k3 x b : Int} {T : Store} {cells : List Int}
/-- a pick of a list or a tuple -/
theorem pickg_okD (g1 : b64 k1 = true) (g3 : k3 ≠ 0) (g4 : k3.natAbs < 1073741824) (hf : (Sum.inr ("cells" : Str) : Key) ≠ .inr fld) {d : D} {xs : List D} (hd : ∀ S, rdS S d = some xs) (h1 : xs ≠ []) (h2 : xs.length < 1073741824) (hl : cells.length ≤ 1000) : ∃ y cells' x', mDefQ 2 2 (pickB (drawMg fld k1 k2 k3)) [.ref 1, d] (deckS fld cells x T) = .ok y (deckS fld cells' x' T) ∧ cells'.length ≤ cells.length ∧ y ∈ xs := by
  have hp : (0 : Int) < xs.length := by
    cases xs with
    | nil => exact absurd rfl h1
    | cons => simp
  obtain ⟨v, cells', x', h, hc, v0, v1⟩ := drawg_ok (k1 := k1) (k2 := k2) (k3 := k3) (x := x) (T := T) g1 g3 g4 hf hp (by omega) hl
  obtain ⟨y, hy, hm⟩ := getInt v0 v1
  refine ⟨y, cells', x', call_plain rfl ?_, hc, hm⟩
  have e : mN (drawMg fld k1 k2 k3) (mCons (mVar 0) (mCons (mN dLen (mCons (mVar 1) (mNil))) (mNil))) [some (.ref 1), some d] (deckS fld cells x T) = .ok (.int v) (deckS fld cells' x' T) := by
    rw [← h]
    have el : dLen [d] (deckS fld cells x T) = .ok (.int xs.length) (deckS fld cells x T) := by
      unfold dLen orN lenSeq on1
      dsimp only
      rw [hd]; rfl
    refine mN_ok (mCons_ok (mVar_ok rfl) (mCons_ok (mN_ok (mCons_ok (mVar_ok rfl) rfl) el) rfl)) rfl
  show (pickB (drawMg fld k1 k2 k3)) [some (.ref 1), some d] (deckS fld cells x T) = _
  unfold pickB
  refine mRet_ok (m2_ok (x := d) (y := .int v) (S1 := deckS fld cells x T) (S2 := deckS fld cells' x' T) (mVar_ok rfl) e ?_)
  have ei : ixSeq d (.int v) (deckS fld cells' x' T) = .ok y (deckS fld cells' x' T) := by
    unfold ixSeq
    rw [hd]
    dsimp only
    rw [hy]
  unfold dIx or2
  rw [ei]; rfl
end
end MM

set_option Elab.async false
set_option linter.all false
set_option maxRecDepth 100000
/-! Classes of the program's own: an instance is made, its attributes are set and read. -/
namespace MM
open PySem PySem.Spec PyProof.Rows L2

def outNon (S : Store) : R D → R D
  | .ok .non S1 => match (D.ref 0).out S1 with
    | some e => .ok e S
    | none => .no
  | .ok _ _ => .no
  | .ex e _ => .ex e S
  | .no => .no
/-- C(..): __init__ runs over a store of its own, with the instance alone in it; what comes back is data -/
def mMake (c : Str) (mi : List D → Store → R D) : List D → Store → R D := fun ds S => if pureAll ds then outNon S (mi (.ref 0 :: ds) [.ob c []]) else .no

section
variable {K : PySem.W.Frag} {H F : Hp} {μ : List Addr} {S : Store}
/-- a new object that nothing is said of -/
theorem Wd.newH (W : Wd K H F μ S) {p : Addr} {o : HO} (hp : H p = Option.none) : Wd K (upd H p o) F μ S ∧ Ext H F μ S (upd H p o) F μ S := by
  have hf := W.fnone hp
  refine ⟨⟨fun a o' h => ?_, W.len, W.nd, W.out, fun l c a h1 h2 => ?_⟩, ⟨fun _ _ h => h, fun _ _ h => h, fun a o' h _ => ?_, fun a h => ?_, fun _ _ h => .inl h, fun a h => .inl h, fun _ _ _ h => h, Nat.le_refl _⟩⟩
  · rw [upd_ne (ne_of_none h hf)]; exact W.sub _ _ h
  · exact (W.cell l c a h1 h2).mono (fun _ _ h => h) (fun _ _ h => h) fun _ => upd_ne (W.ne hp (mem_of_ix h2))
  · rw [upd_ne (ne_of_none h hp)]; exact h
  · by_cases e : a = p
    · subst e; exact hp
    · rw [upd_ne e] at h; exact h
end
section
variable {X : Cx} {E : WX} {k : Nat} {C f : Addr} {c x : Str} {fd : FuncData} {ps : List Str} {mi : List D → Store → R D} {e : Expr} {es : List Expr} {mas : MA} {p pos : Pos}
theorem runm_make {E : XK} {pins : List (Addr × Obj)} {σ : L2.St} {H : Hp} {s : Shared} {Q : VK} {us : List Value} {vs : List V} (M : Mk X.K C f) (F : FnM X.prog X.w X.K X.mg X.base k f fd ps mi) (hr : Room (k + 1) X.A) (hg : X.A.guards = some []) (hb : Binds X.K fd ps []) (hx : PassesAt (L2.CX X.prog X.w) X σ E)
    (I : Inv X pins σ H s) (r : Vals vs us) (h : ∀ x dx, H x = none → H dx = none → dx ≠ x → spM X.K mi (.ref x :: vs) (upd (upd H dx (.own x)) x (.ins C dx [])) (fun v H2 => v = .non ∧ Q (.ref x) H2) E) :
    wpAny (model X.prog X.w) X.A (call (.ref C) us) (EP X pins σ Q) X.xe s := by
  have hq := h (s.heap.objs.size + 1) s.heap.objs.size (I.hok.fresh (Nat.le_succ _)) (I.hok.fresh (Nat.le_refl _)) (Nat.ne_of_lt (Nat.lt_succ_self _))
  have I2 := Inv.made (C := C) I
  have r2 : Vals (V.ref (s.heap.objs.size + 1) :: vs) (Value.ref (s.heap.objs.size + 1) :: us) := .cons rfl r
  have hl : (Value.ref (s.heap.objs.size + 1) :: us).length = ps.length := by
    have e := r2.length
    rw [F.size hq] at e
    exact e.symm
  have hgm : (X.A.under (.builtin "type.__call__" ⟨.ref C :: us, []⟩)).guards = some [] := by
    first | exact hg | simpa [Around.under, Code.weight, Code.isCreation, Code.isGuard, Code.isCaller, Code.frames, Code.isFrame, guardIds] using hg
  refine wpAny_call (make_map (f := f) I.kIn M.makes M.init (beq_iff_eq.mp M.fn) (codeAny_mono (F.run _ X.stack _ _ ⟨Value.ref (s.heap.objs.size + 1) :: us, []⟩ (Value.ref (s.heap.objs.size + 1) :: us) _ _ E (hr.make C us []) hgm
    (I2.env0.make C us []) (by have := hb _ (Value.ref (s.heap.objs.size + 1) :: us) I2.kIn (by simpa using hl); simpa using this) r2 hq) fun r s' hq' => ?_))
  cases r with
  | error e => exact hx pins _ _ e s' I2 hq'
  | ok fl =>
    cases fl with
    | ret u =>
      obtain ⟨v, H', I3, rv, ev, q3⟩ := I2.after hq'
      subst ev
      exact ⟨rv, ⟨V.ref (s.heap.objs.size + 1), H', I3, rfl, q3⟩⟩
    | next => exact False.elim hq'
    | brk => exact False.elim hq'
    | cont => exact False.elim hq'
/-- THE RULE for C(e, ..) -/
theorem se_make (M : Mk X.K C f) (F : FnM X.prog X.w X.K X.mg X.base k f fd ps mi) (hn : PySem.W.nsIn X.K mainGlobals c = some (some (.ref C))) (hr : Room (k + 1) X.A) (hgd : X.A.guards = some []) (hm : X.mg c = some (.ref C)) (hb : Binds X.K fd ps []) (hx : ∀ σ, PassesAt (L2.CX X.prog X.w) X σ (WE E σ))
    (ha : PA X (e :: es) (tA X.K E mas)) (hg : Gl X c := by rfl) (hdb : (c == ("__debug__" : Str)) = false := by decide) (he : starEach (e :: es) X.env = (false, eval e X.env) :: starEach es X.env := by rfl) (hpl : (backTo pos (starEach es X.env)).any (·.1) = false := by rfl) :
    PE X (.Call (.Name c p) (e :: es) [] pos) (tE X.K E (mN (mMake c mi) mas)) := by
  refine ⟨fun pins s σ H Q I h => ?_⟩
  obtain ⟨Fz, μ, σ', S, W, hs, h⟩ := h
  refine wpAny_Call_Name_kw (ld_glob I hg hm ?_ hdb)
  refine PySem.W.callWith_K (h₀ := X.base) I.ok.mod.kin M.kp (thn (ha.run pos pins s σ H (fun vs H1 => ∀ x dx, H1 x = none → H1 dx = none → dx ≠ x → spM X.K mi (.ref x :: vs) (upd (upd H1 dx (.own x)) x (.ins C dx [])) (fun v H2 => v = .non ∧ Q (.ref x) H2) (WE E σ)) I ⟨Fz, μ, σ', S, W, hs, (h.split W).mono fun xs S1 H1 F1 μ1 e1 W1 h1 vs q => ?_⟩) fun us s1 ⟨vs, H1, I1, r, q⟩ => ⟨I1.kIn, ?_⟩) he hpl
  · intro x dx hx0 hd0 hne
    have h1 : Done X.K (WE E σ) H1 F1 μ1 S1 (if pureAll xs then outNon S1 (mi (.ref 0 :: xs) [.ob c []]) else .no) _ := h1
    by_cases hp : pureAll xs = true
    case neg => rw [if_neg hp] at h1; exact h1.elim
    rw [if_pos hp] at h1
    have W0 : Wd X.K H1 F1 [] [] := W1.none
    obtain ⟨Wa, ea⟩ := W0.newH (p := dx) (o := .own x) hd0
    have hx1 : upd H1 dx (.own x) x = none := by rw [upd_ne (Ne.symm hne)]; exact hx0
    obtain ⟨Wb, eb⟩ := Wa.newC (p := x) (o := .ins C dx []) (c := .ob c []) hx1 ⟨C, dx, [], upd_same, hn, rfl, .nil⟩ rfl
    have eab := ea.trans W0 eb
    refine ⟨F1, [x], [.ob c []], .ref 0 :: xs, Wb, .cons (.ref rfl) (Reps.anyMu hp q), ?_⟩
    cases hmi : mi (.ref 0 :: xs) [.ob c []] with
    | no => rw [hmi] at h1; exact h1.elim
    | ex er S2 =>
      rw [hmi] at h1
      intro H' F' μ' cc od e2 W2 r2
      obtain ⟨e3, W3⟩ := back_pure W1 (eab.trans W0 e2) W2
      exact h1 _ _ _ cc od e3 W3 (r2.monoF allF_mono).anyMu
    | ok d S2 =>
      rw [hmi] at h1
      cases d with
      | non =>
        have h1 : Done X.K (WE E σ) H1 F1 μ1 S1 (match (D.ref 0).out S2 with | some e => .ok e S1 | none => .no) _ := h1
        cases ho : (D.ref 0).out S2 with
        | none => rw [ho] at h1; exact h1.elim
        | some d' =>
          rw [ho] at h1
          intro H' F' μ' e2 W2 v rv
          obtain ⟨e3, W3⟩ := back_pure W1 (eab.trans W0 e2) W2
          cases rv
          exact ⟨rfl, h1 _ _ _ e3 W3 _ (out_rep W2 ho (.ref (e2.mu 0 x rfl)))⟩
      | _ => exact h1.elim
  · exact runm_make M F hr hgd hb (hx σ) I1 r q
/-- an attribute of data, or of a cell -/
def dAttr (cs : List Str) (f : Str) (d : D) (S : Store) : R D := match d with
  | .obj c fs xs => if cs.contains c then (match (fs.zip xs).lookup f with | some y => .ok y S | none => .no) else .no
  | .ref l => (match S[l]? with
    | some (.ob c fs) => if cs.contains c then (match fs.lookup f with | some y => .ok y S | none => .no) else .no
    | _ => .no)
  | _ => .no
/-- what is asked of the classes -/
def Atts (K : PySem.W.Frag) (cs : List Str) (f : Str) : Prop := ∀ c ∈ cs, ∀ C, PySem.W.nsIn K mainGlobals c = some (some (.ref C)) → Cls K C ∧ NoAttr K C f
theorem lookup_rep {K : PySem.W.Frag} {F : Hp} {μ : List Addr} {f : Str} : ∀ {us : List (Str × V)} {fs : List Str} {vs : List V} {xs : List D} {y : D}, us.map (·.1) = fs → us.map (·.2) = vs → Reps K F μ xs vs → (fs.zip xs).lookup f = some y → ∃ v, us.lookup f = some v ∧ Rep K F μ y v
  | [], _, _, _, _, rfl, rfl, _, h => by simp at h
  | (g, u) :: us, _, _, _, _, rfl, rfl, r, h => by
    cases r with
    | @cons d v ds vs rd rt =>
      rw [List.map_cons, List.zip_cons_cons] at h
      by_cases e : f == g
      · simp only [List.lookup, e] at h ⊢
        cases h
        exact ⟨_, rfl, rd⟩
      · have e : (f == g) = false := by simpa using e
        simp only [List.lookup, e] at h ⊢
        exact lookup_rep rfl rfl rt h
theorem lookup_pair {fs : List (Str × D)} {f : Str} : ((fs.map (·.1)).zip (fs.map (·.2))).lookup f = fs.lookup f := by
  congr 1
  induction fs with
  | nil => rfl
  | cons a fs ih => rw [List.map_cons, List.map_cons, List.zip_cons_cons, ih]
theorem se_attr {f : Str} {cs : List Str} {m : ME} (hc : Atts X.K cs f) (he : PE X e (tE X.K E m)) (hb : attributeBase e f X.env (eval e X.env) = eval e X.env := by rfl) : PE X (.Attribute e f pos) (tE X.K E (m1 (dAttr cs f) m)) := by
  refine (pe_fld (f := f) (pos := pos) he hb).imp fun τ H Q ⟨F, μ, σ, S, W, hs, h⟩ => ?_
  refine ⟨F, μ, σ, S, W, hs, (h.split W).mono fun d S1 H1 F1 μ1 e1 W1 h1 v r => ?_⟩
  cases r with
  | @obj a C dx us c fs vs xs h2 h3 h4 h5 h6 =>
    have h1 : Done X.K (WE E τ) H1 F1 μ1 S1 (if cs.contains c then (match (fs.zip xs).lookup f with | some y => .ok y S1 | none => .no) else .no) _ := h1
    by_cases hcc : cs.contains c = true
    case neg => rw [if_neg hcc] at h1; exact h1.elim
    rw [if_pos hcc] at h1
    cases hl : (fs.zip xs).lookup f with
    | none => rw [hl] at h1; exact h1.elim
    | some y =>
      rw [hl] at h1
      obtain ⟨v, h7, h8⟩ := lookup_rep h4 h5 h6 hl
      obtain ⟨cl, na⟩ := hc c (by simpa using hcc) C h3
      exact ⟨a, C, dx, us, v, rfl, W1.sub _ _ h2, cl, na, h7, h1.here W1 v h8⟩
  | @ref l a ha =>
    have h1 : Done X.K (WE E τ) H1 F1 μ1 S1 (match S1[l]? with | some (.ob c fs) => if cs.contains c then (match fs.lookup f with | some y => .ok y S1 | none => .no) else .no | _ => .no) _ := h1
    cases hS : S1[l]? with
    | none => rw [hS] at h1; exact h1.elim
    | some cl =>
      rw [hS] at h1
      cases cl with
      | ob c fs =>
        dsimp only at h1
        by_cases hcc : cs.contains c = true
        case neg => rw [if_neg hcc] at h1; exact h1.elim
        rw [if_pos hcc] at h1
        obtain ⟨C, dx, us, g1, g2, g3, g4⟩ := W1.cell l _ a hS ha
        cases hl : fs.lookup f with
        | none => rw [hl] at h1; exact h1.elim
        | some y =>
          rw [hl] at h1
          obtain ⟨v, h7, h8⟩ := lookup_rep g3 rfl g4 (by rw [lookup_pair]; exact hl)
          obtain ⟨cl, na⟩ := hc c (by simpa using hcc) C g2
          exact ⟨a, C, dx, us, v, rfl, g1, cl, na, h7, h1.here W1 v h8⟩
      | _ => exact h1.elim
  | _ => exact h1.elim
/-- self.f = value -/
def putFD (f : Str) (d : D) : List (Str × D) → List (Str × D)
  | [] => [(f, d)]
  | (g, x) :: r => if g = f then (g, d) :: r else (g, x) :: putFD f d r
theorem putFD_keys {f : Str} {d : D} {v : V} : ∀ {us : List (Str × V)} {fs : List (Str × D)}, us.map (·.1) = fs.map (·.1) → (putF f v us).map (·.1) = (putFD f d fs).map (·.1)
  | [], [], _ => rfl
  | [], _ :: _, h => by simp at h
  | _ :: _, [], h => by simp at h
  | (a, u) :: us, (b, x) :: fs, h => by
    rw [List.map_cons, List.map_cons, List.cons.injEq] at h
    obtain ⟨h1, h2⟩ := h
    have h1 : a = b := h1
    subst h1
    show (if a = f then (a, v) :: us else (a, u) :: putF f v us).map (·.1) = (if a = f then (a, d) :: fs else (a, x) :: putFD f d fs).map (·.1)
    split
    · rw [List.map_cons, List.map_cons, h2]
    · rw [List.map_cons, List.map_cons, putFD_keys h2]
theorem putFD_rep {K : PySem.W.Frag} {F : Hp} {μ : List Addr} {f : Str} {d : D} {v : V} (r : Rep K F μ d v) : ∀ {us : List (Str × V)} {fs : List (Str × D)}, us.map (·.1) = fs.map (·.1) → Reps K F μ (fs.map (·.2)) (us.map (·.2)) → Reps K F μ ((putFD f d fs).map (·.2)) ((putF f v us).map (·.2))
  | [], [], _, _ => .cons r .nil
  | [], _ :: _, h, _ => by simp at h
  | _ :: _, [], h, _ => by simp at h
  | (a, u) :: us, (b, x) :: fs, h, q => by
    rw [List.map_cons, List.map_cons, List.cons.injEq] at h
    obtain ⟨h1, h2⟩ := h
    have h1 : a = b := h1
    subst h1
    rw [List.map_cons, List.map_cons] at q
    cases q with
    | cons q1 q2 =>
      show Reps K F μ ((if a = f then (a, d) :: fs else (a, x) :: putFD f d fs).map (·.2)) ((if a = f then (a, v) :: us else (a, u) :: putF f v us).map (·.2))
      split
      · exact .cons r q2
      · exact .cons q1 (putFD_rep r h2 q2)
def mSetA (cs : List Str) (f : Str) (mo mv : ME) : MS := fun σ S => (mv σ S).toO σ fun y S1 => (mo σ S1).toO σ fun x S2 => match x with
  | .ref l => (match S2[l]? with
    | some (.ob c fs) => if cs.contains c && Nat.blt fs.length 100 then .nx σ (S2.set l (.ob c (putFD f y fs))) else .no
    | _ => .no)
  | _ => .no
theorem s_setA {o value : Expr} {pos' : Pos} {f : Str} {cs : List Str} {mo mv : ME} (hc : Atts X.K cs f) (ho : PE X o (tE X.K E mo)) (hv : PE X value (tE X.K E mv)) (hs : swapsWith value (some (.Attribute o f pos')) pos.line X.env = pure false := by rfl) : PS X (.Assign [.Attribute o f pos'] value pos) (tS X.K E (mSetA cs f mo mv)) :=
  (ps_fld (f := f) ho hv hs).imp fun D τ H ⟨F, μ, σ, S, W, hs, h⟩ => ⟨F, μ, σ, S, W, hs, (h.split W hs).mono fun d S1 H1 F1 μ1 e1 W1 h1 v rv => ⟨F1, μ1, σ, S1, W1, hs.ext e1, (h1.split W1 (hs.ext e1)).mono fun x S2 H2 F2 μ2 e2 W2 h2 w q => by
    cases q with
    | @ref l a ha =>
      have h2' : DoneS X.K E H2 F2 μ2 S2 (match S2[l]? with | some (.ob c fs) => if cs.contains c && Nat.blt fs.length 100 then .nx σ (S2.set l (.ob c (putFD f d fs))) else .no | _ => .no) D := h2
      cases hl : S2[l]? with
      | none => rw [hl] at h2'; exact h2'.elim
      | some c =>
        rw [hl] at h2'
        cases c with
        | ob c fs =>
          dsimp only at h2'
          by_cases hz : (cs.contains c && Nat.blt fs.length 100) = true
          case neg => rw [if_neg hz] at h2'; exact h2'.elim
          rw [if_pos hz] at h2'
          rw [Bool.and_eq_true] at hz
          obtain ⟨C, dx, us, g1, g2, g3, g4⟩ := W2.cell l _ a hl ha
          obtain ⟨cl, na⟩ := hc c (by simpa using hz.1) C g2
          have hlen : us.length = fs.length := by have := congrArg List.length g3; simpa using this
          obtain ⟨w3, e3⟩ := W2.write (o := .ins C dx (putF f v us)) (c' := .ob c (putFD f d fs)) hl rfl ha ⟨C, dx, _, upd_same, g2, putFD_keys g3, putFD_rep (rv.ext e2) g3 g4⟩ rfl
          have hz2 : fs.length < 100 := by simpa [Nat.blt_eq] using hz.2
          exact ⟨a, C, dx, us, rfl, g1, cl, na, by omega, h2' _ _ _ τ e3 w3 (((hs.ext e1).ext e2).ext e3)⟩
        | _ => exact h2'.elim
    | _ => exact h2.elim⟩⟩
end
end MM

set_option Elab.async false
set_option linter.all false
set_option maxRecDepth 100000
/-! Own classes: isinstance, ==, !=, len, str. -/
namespace MM
open PySem PySem.Spec PyProof.Rows L2

/-! ### what a value's class is -/
inductive BT where | non | bl | int | str | tup | lst | dct
def BT.nm : BT → String
  | .non => "NoneType" | .bl => "bool" | .int => "int" | .str => "str" | .tup => "tuple" | .lst => "list" | .dct => "dict"
def tyOfD (S : Store) : D → Option (BT ⊕ Str)
  | .non => some (.inl .non)
  | .bl _ => some (.inl .bl)
  | .int _ => some (.inl .int)
  | .str _ => some (.inl .str)
  | .tup _ => some (.inl .tup)
  | .lst _ => some (.inl .lst)
  | .scr _ => none
  | .dct _ _ => some (.inl .dct)
  | .obj c _ _ => some (.inr c)
  | .ref l => match S[l]? with
    | some (.lst _) => some (.inl .lst)
    | some (.fz _) => some (.inl .lst)
    | some (.dic _) => some (.inl .dct)
    | some (.dn _) => some (.inl .dct)
    | some (.dt _) => some (.inl .dct)
    | some (.fd _ _) => some (.inl .dct)
    | some (.ob c _) => some (.inr c)
    | none => none
def isBT : BT → Ty → Bool
  | .bl, .bool => true
  | .bl, .int => true
  | .int, .int => true
  | .str, .str => true
  | .tup, .tuple => true
  | .lst, .list => true
  | .dct, .dict => true
  | _, _ => false
theorem kitB_is (a : BT) (t : Ty) : kitB a.nm t.nm = some (isBT a t) := by cases a <;> cases t <;> decide +kernel
inductive TyM (K : PySem.W.Frag) (H : Hp) : V → Value → Prop where
  | x {v : V} {t : Value} (h : TyX K H v t) : TyM K H v t
  | ext {a : Addr} {us : List NU} (h : Rd H a (.ext (dnP a us))) : TyM K H (.ref a) (.type "dict")
  | fT {a : Addr} {o : Obj} {us : List (List Key × V)} (h : H a = some (.frz o (.dT us))) : TyM K H (.ref a) (.type "dict")
section
variable {X : Cx} {pins : List (Addr × Obj)} {σ : L2.St} {H : Hp} {s : Shared}
theorem kit_ofM {x : V} {u t : Value} (I : Inv X pins σ H s) (rx : RelV x u) (ty : TyM X.K H x t) : ∃ P : Heap → Prop, PySem.W.KitX X.K u t P ∧ P s.heap ∧ u ≠ .builtin "__main__.__loader__#opaque" := by
  cases ty with
  | x h => exact L2.kit_of I rx h
  | @ext a us h =>
    cases (show u = Value.ref a from rx)
    obtain ⟨⟨_, _, _, o, es, ep, xs, ho, hc, _⟩, _⟩ := (show ObjOk X.prog X.w H s.heap a (.ext (dnP a us)) from h.ok I.hok)
    exact ⟨_, PySem.W.kitx_dict, ⟨o, ho, hc.1⟩, fun z => nomatch z⟩
  | @fT a o us h =>
    cases (show u = Value.ref a from rx)
    obtain ⟨_, _, _, xs, _, o, es, ep, h1, h2, _⟩ := (show ObjOk X.prog X.w H s.heap a (.frz o (.dT us)) from I.hok a _ h)
    exact ⟨_, PySem.W.kitx_dict, ⟨o, h1, h2.1⟩, fun z => nomatch z⟩
end
def rIsiM (K : PySem.W.Frag) : List V → Hp → VK → Prop := fun xs H Q => ∃ (x c : V) (t u : Value) (b : Bool), xs = [x, c] ∧ ClsV c u ∧ TyM K H x t ∧ PySem.W.kitOne K t u = some b ∧ Q (.bl b) H
theorem call_isiM {X : Cx} : CallR X (.builtin "isinstance") (rIsiM X.K) := by
  intro pins s σ H xs us Q I r h
  obtain ⟨x, c, t, u, b, rfl, k, ty, e, q⟩ := h
  obtain ⟨u1, u2, rfl, r1, r2⟩ := vals2 r
  have e2 := k.eq r2
  subst e2
  obtain ⟨P, Z, p, hx⟩ := kit_ofM I r1 ty
  exact PySem.W.kia_one Z I.kIn p e hx fun tk => ⟨.bl b, H, I.tok tk, rfl, q⟩
/-- what is asked of the class at C -/
structure IsK (K : PySem.W.Frag) (C : Addr) : Prop where
  cl : Cls K C
  ha : PySem.W.findIn K (.ref C) "__class__" = some (some (.builtin "object.__class__"))
  hn : PySem.W.specialIn K (.builtin "object.__class__") "__get__" = some (some (.builtin "getset_descriptor.__get__"))
  ht : PySem.W.takesIn K (.builtin "object.__class__") = some true
  hm : PySem.W.mroIn K C (.type "object") = some true
  ty : PySem.W.typeIn K (.ref C) = some (.type "type")
  int : PySem.W.mroIn K C (.type "int") = some false
  bool : PySem.W.mroIn K C (.type "bool") = some false
  str : PySem.W.mroIn K C (.type "str") = some false
  tuple : PySem.W.mroIn K C (.type "tuple") = some false
  list : PySem.W.mroIn K C (.type "list") = some false
  dict : PySem.W.mroIn K C (.type "dict") = some false
/-- of all classes cs, and of each two of them -/
structure Own (K : PySem.W.Frag) (cs : List Str) : Prop where
  one : ∀ c ∈ cs, ∀ C, PySem.W.nsIn K mainGlobals c = some (some (.ref C)) → IsK K C
  two : ∀ c ∈ cs, ∀ c' ∈ cs, ∀ C C', PySem.W.nsIn K mainGlobals c = some (some (.ref C)) → PySem.W.nsIn K mainGlobals c' = some (some (.ref C')) → PySem.W.mroIn K C' (.ref C) = some (c' == c) ∧ (c' == c) = (C' == C)
section
variable {K : PySem.W.Frag} {H F : Hp} {μ : List Addr} {S : Store} {d : D} {v : V} {cs : List Str}
theorem tyOf_ok (W : Wd K H F μ S) (r : Rep K F μ d v) {a : BT} (h : tyOfD S d = some (.inl a)) : TyM K H v (.type a.nm) := by
  cases r with
  | non => cases h; exact .x (.base .non)
  | bl x => cases h; exact .x (.base (.bl x))
  | int x => cases h; exact .x (.base (.int x))
  | str x => cases h; exact .x (.base (.str x))
  | tup ha r => cases h; exact .x (.base (.tup (W.sub _ _ ha)))
  | lst ha r => cases h; exact .x (.base (.lst (W.sub _ _ ha)))
  | scr => cases h
  | dct h1 => cases h; exact .ext (.inr ⟨_, W.sub _ _ h1⟩)
  | dck h1 => cases h; exact .x (.fDict (W.sub _ _ h1))
  | dcT h1 => cases h; exact .fT (W.sub _ _ h1)
  | obj => cases h
  | @ref l a ha =>
    simp only [tyOfD] at h
    cases q : S[l]? with
    | none => rw [q] at h; cases h
    | some c =>
      rw [q] at h
      have z := W.cell l c a q ha
      cases c with
      | lst xs => cases h; obtain ⟨vs, h1, _⟩ := z; exact .x (.base (.lst h1))
      | fz xs => cases h; obtain ⟨vs, h1, _⟩ := z; exact .x (.base (.lst (W.sub _ _ h1)))
      | dic xs => cases h; obtain ⟨vs, h1, _⟩ := z; exact .x (.base (.dK h1))
      | dn xs => cases h; obtain ⟨us, h1, _⟩ := z; exact .ext (.inl h1)
      | dt xs => cases h; obtain ⟨us, h1, _⟩ := z; exact .x (.base (.dT h1))
      | fd ks xs =>
        cases h
        have z : Rep K F μ (.dct ks xs) (.ref a) := z
        cases z with
        | dct h1 => exact .ext (.inr ⟨_, W.sub _ _ h1⟩)
        | dck h1 => exact .x (.fDict (W.sub _ _ h1))
        | dcT h1 => exact .fT (W.sub _ _ h1)
      | ob c fs => cases h
theorem tyOf_own (W : Wd K H F μ S) (r : Rep K F μ d v) {c : Str} (h : tyOfD S d = some (.inr c)) : ∃ a C dx us, v = .ref a ∧ H a = some (.ins C dx us) ∧ PySem.W.nsIn K mainGlobals c = some (some (.ref C)) := by
  cases r with
  | @obj a C dx us c fs vs xs h2 h3 => cases h; exact ⟨a, C, dx, us, rfl, W.sub _ _ h2, h3⟩
  | @ref l a ha =>
    simp only [tyOfD] at h
    cases q : S[l]? with
    | none => rw [q] at h; cases h
    | some cl =>
      rw [q] at h
      have z := W.cell l cl a q ha
      cases cl with
      | ob c fs => cases h; obtain ⟨C, dx, us, h1, h2, _⟩ := z; exact ⟨a, C, dx, us, rfl, h1, h2⟩
      | _ => cases h
  | _ => cases h
theorem IsK.tyM {C a dx : Addr} {us : List (Str × V)} (k : IsK K C) (h : H a = some (.ins C dx us)) : TyM K H (.ref a) (.ref C) := .x (.base (.ins h k.cl k.ha k.hn k.ht k.hm))
theorem kit_own_ty {C : Addr} (k : IsK K C) (t : Ty) : PySem.W.kitOne K (.ref C) (.type t.nm) = some false := by
  unfold PySem.W.kitOne
  rw [if_neg (fun h => by cases (eq_of_beq h))]
  show (if PySem.W.kitMeta t.nm = true then PySem.W.subIn K (.ref C) (.type t.nm) else none) = some false
  rw [if_pos (show PySem.W.kitMeta t.nm = true from by cases t <;> decide +kernel)]
  cases t
  · exact k.int
  · exact k.bool
  · exact k.str
  · exact k.list
  · exact k.tuple
  · exact k.dict
theorem clsIn_of {C : Addr} (k : IsK K C) : (PySem.W.clsIn K C).isSome = true := by
  obtain ⟨cd, hc, _⟩ := PySem.W.any_some k.cl.hd
  rw [hc]; rfl
theorem sub_ty_own (a : BT) (C : Addr) : PySem.W.subIn K (.type a.nm) (.ref C) = some false := by
  cases a <;> rfl
theorem kit_ty_own {C : Addr} (k : IsK K C) (a : BT) : PySem.W.kitOne K (.type a.nm) (.ref C) = some false := by
  unfold PySem.W.kitOne
  rw [if_neg (fun h => by cases (eq_of_beq h))]
  show (if ((PySem.W.clsIn K C).isSome && PySem.W.typeIn K (.ref C) == some (.type "type")) = true then PySem.W.subIn K (.type a.nm) (.ref C) else none) = some false
  rw [if_pos (by rw [clsIn_of k, k.ty]; rfl)]
  exact sub_ty_own a C
theorem kit_own_own {C C' : Addr} {b : Bool} (k : IsK K C) (h : PySem.W.mroIn K C' (.ref C) = some b) (e : b = (C' == C)) : PySem.W.kitOne K (.ref C') (.ref C) = some b := by
  unfold PySem.W.kitOne
  split
  · rename_i h'
    have : C' = C := by cases (eq_of_beq h'); rfl
    subst this
    rw [e]; simp
  · show (if ((PySem.W.clsIn K C).isSome && PySem.W.typeIn K (.ref C) == some (.type "type")) = true then PySem.W.subIn K (.ref C') (.ref C) else none) = some b
    rw [if_pos (by rw [clsIn_of k, k.ty]; rfl)]
    exact h
end
/-- isinstance(x, T) where x may be an instance -/
def dIsiT (cs : List Str) (t : Ty) (x : D) (S : Store) : R D := match tyOfD S x with
  | some (.inl a) => .ok (.bl (isBT a t)) S
  | some (.inr c) => if cs.contains c then .ok (.bl false) S else .no
  | none => .no
/-- isinstance(x, C) -/
def dIsiC (cs : List Str) (c : Str) (x : D) (S : Store) : R D := match tyOfD S x with
  | some (.inl _) => .ok (.bl false) S
  | some (.inr c') => if cs.contains c' then .ok (.bl (c' == c)) S else .no
  | none => .no
section
variable {X : Cx} {E : WX} {e : Expr} {me : ME} {pos p q : Pos} {cs : List Str}
theorem se_isiT (t : Ty) {x : Str} (O : Own X.K cs) (hm : X.mg "isinstance" = none) (hm2 : X.mg x = none) (he : PE X e (tE X.K E me)) (hg : Gl X "isinstance" := by rfl) (hg2 : Gl X x := by rfl) (hv : bootBuiltins x = some (.type t.nm) := by decide +kernel) (hn : x ≠ "__name__" := by decide) (hdb : (x == ("__debug__" : Str)) = false := by decide)
    (hs : starEach [e, .Name x q] X.env = (false, eval e X.env) :: starEach [.Name x q] X.env := by rfl) : PE X (.Call (.Name "isinstance" p) [e, .Name x q] [] pos) (tE X.K E (m1 (dIsiT cs t) me)) :=
  (pe_callB call_isiM hg hm (by decide +kernel) (pa_cons he (pa_cons (pe_bltn (v := .ty t.nm) hg2 hm2 hv rfl hn hdb) pa_nil rfl) hs) (by decide) (by decide) hs rfl).imp fun τ H Q ⟨F, μ, σ, S, W, hs, h⟩ => ⟨F, μ, σ, S, W, hs, (h.split W).mono fun d S1 H1 F1 μ1 e1 W1 h1 v q => by
    have h1' : Done X.K _ H1 F1 μ1 S1 (match tyOfD S1 d with | some (.inl a) => .ok (.bl (isBT a t)) S1 | some (.inr c) => if cs.contains c then .ok (.bl false) S1 else .no | none => .no) (PV X.K Q) := h1
    cases z : tyOfD S1 d with
    | none => rw [z] at h1'; exact h1'.elim
    | some b =>
      rw [z] at h1'
      cases b with
      | inl a => exact ⟨v, .ty t.nm, _, .type t.nm, isBT a t, rfl, .ty _, tyOf_ok W1 q z, kit_ty (kitB_is a t), h1'.here W1 _ (.bl _)⟩
      | inr c =>
        dsimp only at h1'
        by_cases hc : cs.contains c = true
        case neg => rw [if_neg hc] at h1'; exact h1'.elim
        rw [if_pos hc] at h1'
        obtain ⟨a, C, dx, us, rfl, g1, g2⟩ := tyOf_own W1 q z
        have k := O.one c (by simpa using hc) C g2
        exact ⟨_, .ty t.nm, .ref C, .type t.nm, false, rfl, .ty _, k.tyM g1, kit_own_ty k t, h1'.here W1 _ (.bl _)⟩⟩
theorem se_isiC {c : Str} {C : Addr} (O : Own X.K cs) (hcs : cs.contains c = true) (hC : PySem.W.nsIn X.K mainGlobals c = some (some (.ref C))) (hm : X.mg "isinstance" = none) (hm2 : X.mg c = some (.ref C)) (he : PE X e (tE X.K E me)) (hg : Gl X "isinstance" := by rfl) (hg2 : Gl X c := by rfl) (hdb : (c == ("__debug__" : Str)) = false := by decide)
    (hs : starEach [e, .Name c q] X.env = (false, eval e X.env) :: starEach [.Name c q] X.env := by rfl) : PE X (.Call (.Name "isinstance" p) [e, .Name c q] [] pos) (tE X.K E (m1 (dIsiC cs c) me)) :=
  (pe_callB call_isiM hg hm (by decide +kernel) (pa_cons he (pa_cons (pe_glob (v := .ref C) hg2 hm2 rfl hdb) pa_nil rfl) hs) (by decide) (by decide) hs rfl).imp fun τ H Q ⟨F, μ, σ, S, W, hs, h⟩ => ⟨F, μ, σ, S, W, hs, (h.split W).mono fun d S1 H1 F1 μ1 e1 W1 h1 v q => by
    have kC := O.one c (by simpa using hcs) C hC
    have h1' : Done X.K _ H1 F1 μ1 S1 (match tyOfD S1 d with | some (.inl _) => .ok (.bl false) S1 | some (.inr c') => if cs.contains c' then .ok (.bl (c' == c)) S1 else .no | none => .no) (PV X.K Q) := h1
    cases z : tyOfD S1 d with
    | none => rw [z] at h1'; exact h1'.elim
    | some b =>
      rw [z] at h1'
      cases b with
      | inl a => exact ⟨v, .ref C, _, .ref C, false, rfl, .own _, tyOf_ok W1 q z, kit_ty_own kC a, h1'.here W1 _ (.bl _)⟩
      | inr c' =>
        dsimp only at h1'
        by_cases hc : cs.contains c' = true
        case neg => rw [if_neg hc] at h1'; exact h1'.elim
        rw [if_pos hc] at h1'
        obtain ⟨a, C', dx, us, rfl, g1, g2⟩ := tyOf_own W1 q z
        have k := O.one c' (by simpa using hc) C' g2
        have t := O.two c (by simpa using hcs) c' (by simpa using hc) C C' hC g2
        exact ⟨_, .ref C, .ref C', .ref C, _, rfl, .own _, k.tyM g1, kit_own_own kC t.1 t.2, h1'.here W1 _ (.bl _)⟩⟩
end
end MM

set_option Elab.async false
set_option linter.all false
set_option maxRecDepth 100000
/-! Own methods that the language calls: len, str, ==, !=. -/
namespace MM
open PySem PySem.Spec PyProof.Rows L2
section
variable {X : Cx} {k : Nat} {f : Addr} {fd : FuncData} {ps : List Str} {mf : List D → Store → R D}
theorem runm_at {A : Around} {E : XK} {pins : List (Addr × Obj)} {σ : L2.St} {H : Hp} {s : Shared} {Q : VK} {us : List Value} {vs : List V} (F : FnM X.prog X.w X.K X.mg X.base k f fd ps mf) (hr : Room k A) (hg : A.guards = some []) (hA : A.frames = X.A.frames) (hx : PassesAt (L2.CX X.prog X.w) X σ E)
    (I : Inv X pins σ H s) (hb : Binds X.K fd ps []) (r : Vals vs us) (h : spM X.K mf vs H Q E) : wpAny (model X.prog X.w) A (call (.ref f) us) (EP X pins σ Q) X.xe s := by
  have hl : us.length = ps.length := by rw [← r.length]; exact F.size h
  have e0 : Env0 X.prog X.w X.K X.mg X.base A X.stack s H := by
    have e := I.env0
    exact ⟨by rw [hA]; exact e.frames, e.mod, e.bs, e.bsz, e.funs, e.frf, e.hok, e.bare⟩
  refine wpAny_call (codeAny_mono (F.run A X.stack s H ⟨us, []⟩ us vs Q E hr hg e0 (by have := hb s us I.kIn (by simpa using hl); simpa using this) r h) fun r s' hq => ?_)
  cases r with
  | error e => exact hx pins H s e s' I hq
  | ok fl =>
    cases fl with
    | ret u => exact I.after hq
    | next => exact False.elim hq
    | brk => exact False.elim hq
    | cont => exact False.elim hq
end
/-- a method of the class at C that the language looks for: a plain def -/
structure Sp1 (K : PySem.W.Frag) (c m : Str) (f : Addr) : Prop where
  at_ : ∀ C, PySem.W.nsIn K mainGlobals c = some (some (.ref C)) → PySem.W.findIn K (.ref C) m = some (some (.ref f))
  fn : PySem.W.isFn K (.ref f) = true
/-- a quiet look at what a method gives -/
def intOf : R D → R D
  | .ok (.int n) S => if 0 ≤ n ∧ n < 9223372036854775808 then .ok (.int n) S else .no
  | _ => .no
def strOfR : R D → R D
  | .ok (.str x) S => .ok (.str x) S
  | _ => .no
def dLenO (c : Str) (ml : List D → Store → R D) : List D → Store → R D := on1 fun d S => match d with
  | .obj c' fs xs => if c' == c then intOf (ml [.obj c' fs xs] S) else .no
  | _ => .no
def dStrO (c : Str) (ml : List D → Store → R D) : List D → Store → R D := on1 fun d S => match d with
  | .obj c' fs xs => if c' == c then strOfR (ml [.obj c' fs xs] S) else .no
  | _ => .no
section
variable {X : Cx} {k : Nat} {c : Str} {f : Addr} {fd : FuncData} {ps : List Str} {ml : List D → Store → R D}
theorem cd_lenO (M : Sp1 X.K c "__len__" f) (F : FnM X.prog X.w X.K X.mg X.base k f fd ps ml) (hb : Binds X.K fd ps []) (hr : Room (k + 1) X.A) (hgd : X.A.guards = some []) : CallR X (.builtin "len") (rN X.K (dLenO c ml)) := by
  intro pins s σ H zs us Q I r h
  replace h := on1_ok h
  obtain ⟨E, x, Fz, μ, S, d, rfl, W, rq, h⟩ := h
  cases rq with
  | @obj a C dx ws c' fs vs xs h2 h3 h4 h5 h6 =>
    replace h : Done X.K E H Fz μ S (if c' == c then intOf (ml [.obj c' fs xs] S) else .no) _ := h
    by_cases hc : (c' == c) = true
    case neg => rw [if_neg hc] at h; exact h.elim
    rw [if_pos hc] at h
    obtain rfl : c' = c := by simpa using hc
    obtain ⟨u, rfl, rx⟩ := vals1 r
    cases rx
    obtain ⟨mA, J, _⟩ := ins_get I.hok (W.sub _ _ h2)
    obtain ⟨od, J, _⟩ := J.look
    obtain ⟨m, hF⟩ := I.fr
    refine PySem.W.len_K hF I.ok.mod.kin J (M.at_ C h3) M.fn (wpAny_mono (runm_at (E := fun _ _ _ => False) (Q := fun v H' => ∃ n : Int, v = .int n ∧ (0 ≤ n ∧ n < 9223372036854775808) ∧ Q (.int n) H') F hr.in1 hgd rfl (fun pn H s e s' _ q => by obtain ⟨_, _, _, _, _, _, _, _, _, _, _, _, hf⟩ := q; exact hf.elim) I hb (show Vals [V.ref a] [Value.ref a] from .cons rfl .nil) ⟨Fz, μ, S, _, W, .cons (.obj h2 h3 h4 h5 h6) .nil, ?_⟩) (fun v s' hv => ?_) fun _ _ e => e)
    · cases q : ml [.obj c' fs xs] S with
      | no => rw [q] at h; exact h.elim
      | ex e S1 => rw [q] at h; exact h.elim
      | ok d S1 =>
        rw [q] at h
        cases d with
        | int n =>
          have h : Done X.K E H Fz μ S (if 0 ≤ n ∧ n < 9223372036854775808 then .ok (D.int n) S1 else .no) (PV X.K Q) := h
          by_cases hn : 0 ≤ n ∧ n < 9223372036854775808
          case neg => rw [if_neg hn] at h; exact h.elim
          rw [if_pos hn] at h
          intro H' F' μ' e' W' v rv
          cases rv
          exact ⟨n, rfl, hn, h _ _ _ e' W' (V.int n) (Rep.int n)⟩
        | _ => exact h.elim
    · obtain ⟨w, H', I', rw', n, rfl, hn, q⟩ := hv
      obtain ⟨t, rfl⟩ := (show ∃ t, v = Value.int n t from rw')
      exact ⟨⟨hn.1, by have : (2 : Int) ^ 63 = 9223372036854775808 := by decide
                       omega⟩, ⟨.int n, H', I'.tok _, ⟨_, rfl⟩, q⟩⟩
  | _ => exact h.elim
theorem cd_strO (M : Sp1 X.K c "__str__" f) (F : FnM X.prog X.w X.K X.mg X.base k f fd ps ml) (hb : Binds X.K fd ps []) (hr : Room (k + 2) X.A) (hgd : X.A.guards = some []) : CallR X (.type "str") (rN X.K (dStrO c ml)) := by
  intro pins s σ H zs us Q I r h
  replace h := on1_ok h
  obtain ⟨E, x, Fz, μ, S, d, rfl, W, rq, h⟩ := h
  cases rq with
  | @obj a C dx ws c' fs vs xs h2 h3 h4 h5 h6 =>
    replace h : Done X.K E H Fz μ S (if c' == c then strOfR (ml [.obj c' fs xs] S) else .no) _ := h
    by_cases hc : (c' == c) = true
    case neg => rw [if_neg hc] at h; exact h.elim
    rw [if_pos hc] at h
    obtain rfl : c' = c := by simpa using hc
    obtain ⟨u, rfl, rx⟩ := vals1 r
    cases rx
    obtain ⟨mA, J, _⟩ := ins_get I.hok (W.sub _ _ h2)
    obtain ⟨od, J, _⟩ := J.look
    refine PySem.W.kso_call (hr.in1.in1.units0) I.kIn J (M.at_ C h3) M.fn (wpAny_mono (runm_at (E := fun _ _ _ => False) (Q := fun v H' => ∃ y : Str, v = .str y ∧ Q (.str y) H') F hr.in1.in1 hgd rfl (fun pn H s e s' _ q => by obtain ⟨_, _, _, _, _, _, _, _, _, _, _, _, hf⟩ := q; exact hf.elim) I hb (show Vals [V.ref a] [Value.ref a] from .cons rfl .nil) ⟨Fz, μ, S, _, W, .cons (.obj h2 h3 h4 h5 h6) .nil, ?_⟩) (fun v s' hv => ?_) fun _ _ e => e)
    · cases q : ml [.obj c' fs xs] S with
      | no => rw [q] at h; exact h.elim
      | ex e S1 => rw [q] at h; exact h.elim
      | ok d S1 =>
        rw [q] at h
        cases d with
        | str y =>
          intro H' F' μ' e' W' v rv
          cases rv
          exact ⟨y, rfl, h _ _ _ e' W' (V.str y) (Rep.str y)⟩
        | _ => exact h.elim
    · obtain ⟨w, H', I', rw', y, rfl, q⟩ := hv
      obtain ⟨t, rfl⟩ := (show ∃ t, v = Value.str y t from rw')
      exact ⟨.str y, H', I', ⟨_, rfl⟩, q⟩
  | _ => exact h.elim
end
/-! ### == and != -/
/-- what is asked of the class c for == -/
structure EqK (K : PySem.W.Frag) (c : Str) (f : Addr) : Prop where
  eq : Sp1 K c "__eq__" f
  ne : ∀ C, PySem.W.nsIn K mainGlobals c = some (some (.ref C)) → PySem.W.findIn K (.ref C) "__ne__" = some (some (.builtin "object.__ne__"))
section
variable {prog : Program} {w : World} {A : Around} {E : Value → Shared → Prop} {s : Shared} {K : PySem.W.Frag} {x C f : Addr} {ox : Obj} {od : Option Obj} {b tb : Value}
theorem ifBound_B {M : Model} {args : List Value} {name : Str} {id : String} {Q : Option Value → Shared → Prop} (X : K.In s.heap) (I : PySem.W.InstAt s.heap x ox C od) (hs : PySem.W.findIn K (.ref C) name = some (some (.builtin id))) (hb : ∀ self, bindSpecial (.builtin id) self = pure (.builtin id, [self]))
    (h : wpAny M A (call (.builtin id) (.ref x :: args)) (fun v => Q (some v)) E s) : wpAny M A (callSpecialIfBound? (.ref x) name args) Q E s := by
  simp only [callSpecialIfBound?, bindSpecialIfBound?]
  refine wpAny_holding (wpAny_bind (wpAny_bind (wpAny_bind (I.type.here ((PySem.W.looks_findIn X hs).here ?_)))))
  refine wpAny_bind (wpAny_askSetting (wpAny_ite ?_))
  have fin : wpAny M A (call (.builtin id) ([.ref x] ++ args) >>= fun v => pure (some v)) Q E s := wpAny_bind (wpAny_mono h (fun v s' h' => wpAny_pure h') fun _ _ h' => h')
  split
  · exact wpAny_bind ((PySem.W.Looks.of_pure (hb _)).here (wpAny_pure (by exact fin)))
  · exact wpAny_tryCatch (wpAny_bind ((PySem.W.Looks.of_pure (hb _)).here (wpAny_pure (by exact fin))))
theorem ne_K {Q : Value → Shared → Prop} (hu : A.units + 1 < cLine) (X : K.In s.heap) (I : PySem.W.InstAt s.heap x ox C od) (hb : PySem.W.Looks (model prog w) s.heap (typeOf b) tb) (hn : PySem.W.notFirst K C tb = true) (hm : PySem.W.mroIn K C (.type "object") = some true)
    (hs : PySem.W.findIn K (.ref C) "__eq__" = some (some (.ref f))) (hs2 : PySem.W.findIn K (.ref C) "__ne__" = some (some (.builtin "object.__ne__"))) (hf : PySem.W.isFn K (.ref f) = true)
    (h : wpAny (model prog w) A.in1 (call (.ref f) [.ref x, b]) (fun v s' => ∃ z, v = .bool z ∧ Q (.bool (!z)) s') E s) : wpAny (model prog w) A (richCompare .NotEq (.ref x) b) Q E s := by
  have one : wpAny (model prog w) A (tryCompare (.ref x) "__ne__" b) (fun r s' => ∃ v, r = some v ∧ Q v s') E s := by
    unfold tryCompare
    refine wpAny_bind (ifBound_B X I hs2 PySem.F.slot_object_ne.bind (wpAny_call (codeAny_call_builtin PySem.F.slot_object_ne.plain F.cmpEntry_ne (PySem.W.check_slot (i := "object.__ne__") (owner := "object") (n := "__ne__") F.cmpKind_ne F.cmpSplit_ne (I.type.andThen (PySem.W.looks_mroIn X hm)) (F.cmpArgs_ne _ _) ?_))))
    unfold Builtin.«object.__ne__»
    refine wpAny_bind (m := slotArgs "__ne__" 1 _) (wpAny_pure ?_)
    refine wpAny_bind (m := cRoomFor _ _) (wpAny_cRoomFor hu ?_)
    refine wpAny_bind (m := callSpecialIfBound? (.ref x) (Str.ofString "__eq__") [b]) (PySem.W.ifBound_K X I hs hf (wpAny_mono h (fun v s' hv => ?_) fun _ _ e => e))
    obtain ⟨z, rfl, q⟩ := hv
    refine wpAny_bind (wpAny_truthy_bool ?_)
    refine wpAny_pure ?_
    first | exact ⟨_, rfl, q⟩ | exact wpAny_pure ⟨_, rfl, q⟩ | exact wpAny_pure (wpAny_pure ⟨_, rfl, q⟩)
  unfold richCompare
  simp only [oneThing_ref]
  rw [cmpInfo_NotEq]
  dsimp only
  refine wpAny_holding (wpAny_bind (wpAny_cRoomFor (by omega) ?_))
  refine wpAny_bind (I.type.here (wpAny_bind (hb.here ?_)))
  split
  · rename_i q
    have e : PySem.W.subIn K tb (.ref C) = some false := by
      rcases Bool.or_eq_true_iff.mp hn with e | e
      · rw [beq_iff_eq.mp e] at q; simp at q
      · exact beq_iff_eq.mp e
    refine wpAny_bind ((PySem.W.looks_subIn X e).here ?_)
    simp only [Bool.false_eq_true, if_false]
    refine wpAny_bind (wpAny_mono one (fun r s' z => ?_) fun _ _ e => e)
    obtain ⟨v, rfl, hq⟩ := z
    exact wpAny_pure hq
  · refine wpAny_bind (wpAny_pure ?_)
    simp only [Bool.false_eq_true, if_false]
    refine wpAny_bind (wpAny_mono one (fun r s' z => ?_) fun _ _ e => e)
    obtain ⟨v, rfl, hq⟩ := z
    exact wpAny_pure hq
end
def boolOf : R D → R D
  | .ok (.bl b) S => .ok (.bl b) S
  | _ => .no
def notOf : R D → R D
  | .ok (.bl b) S => .ok (.bl (!b)) S
  | _ => .no
def okTy (cs : List Str) (S : Store) (y : D) : Bool := match tyOfD S y with
  | some (.inl _) => true
  | some (.inr c) => cs.contains c
  | none => false
def dEqO (cs : List Str) (c : Str) (me : List D → Store → R D) (x y : D) (S : Store) : R D := match x with
  | .obj c' fs xs => if c' == c && okTy cs S y then boolOf (me [.obj c' fs xs, y] S) else .no
  | _ => .no
def dNeO (cs : List Str) (c : Str) (me : List D → Store → R D) (x y : D) (S : Store) : R D := match x with
  | .obj c' fs xs => if c' == c && okTy cs S y then notOf (me [.obj c' fs xs, y] S) else .no
  | _ => .no
section
variable {X : Cx} {k : Nat} {c : Str} {cs : List Str} {f : Addr} {fd : FuncData} {ps : List Str} {me : List D → Store → R D}
theorem okTy_ok {pins : List (Addr × Obj)} {σ : L2.St} {H F : Hp} {s : Shared} {μ : List Addr} {S : Store} {y : D} {v : V} {u : Value} {C : Addr} (O : Own X.K cs) (hcs : cs.contains c = true) (hC : PySem.W.nsIn X.K mainGlobals c = some (some (.ref C))) (I : Inv X pins σ H s) (W : Wd X.K H F μ S) (r : Rep X.K F μ y v) (ru : RelV v u) (h : okTy cs S y = true) :
    ∃ tb, PySem.W.Looks (model X.prog X.w) s.heap (typeOf u) tb ∧ PySem.W.notFirst X.K C tb = true := by
  unfold okTy at h
  cases q : tyOfD S y with
  | none => rw [q] at h; cases h
  | some b =>
    rw [q] at h
    cases b with
    | inl a =>
      obtain ⟨P, Z, p, _⟩ := kit_ofM I ru (tyOf_ok W r q)
      refine ⟨_, Z.ty _ _ I.kIn p, ?_⟩
      unfold PySem.W.notFirst
      rw [sub_ty_own]; simp
    | inr c' =>
      obtain ⟨a, C', dx, us, rfl, g1, g2⟩ := tyOf_own W r q
      have k := O.one c' (by simpa using h) C' g2
      obtain ⟨P, Z, p, _⟩ := kit_ofM I ru (k.tyM g1)
      refine ⟨_, Z.ty _ _ I.kIn p, ?_⟩
      obtain ⟨t1, t2⟩ := O.two c (by simpa using hcs) c' (by simpa using h) C C' hC g2
      unfold PySem.W.notFirst
      rw [show PySem.W.subIn X.K (.ref C') (.ref C) = PySem.W.mroIn X.K C' (.ref C) from rfl, t1]
      cases hcc : c' == c with
      | false => simp
      | true =>
        rw [hcc] at t2
        have : C' = C := by simpa using t2.symm
        subst this
        simp
theorem od_eqO (O : Own X.K cs) (hcs : cs.contains c = true) (M : EqK X.K c f) (F : FnM X.prog X.w X.K X.mg X.base k f fd ps me) (hb : Binds X.K fd ps []) (hr : Room k X.A) (hgd : X.A.guards = some []) : OpR X (compareOp .Eq) (r2 X.K (dEqO cs c me)) := by
  intro pins s σ H x y v u Q I rx ry h
  obtain ⟨E, Fz, μ, S, d, e, W, r1, r2, h⟩ := h
  cases r1 with
  | @obj a C dx ws c' fs vs xs h2 h3 h4 h5 h6 =>
    replace h : Done X.K E H Fz μ S (if c' == c && okTy cs S e then boolOf (me [.obj c' fs xs, e] S) else .no) _ := h
    by_cases hc : (c' == c && okTy cs S e) = true
    case neg => rw [if_neg hc] at h; exact h.elim
    rw [if_pos hc] at h
    rw [Bool.and_eq_true] at hc
    obtain rfl : c' = c := by simpa using hc.1
    cases rx
    obtain ⟨mA, J, _⟩ := ins_get I.hok (W.sub _ _ h2)
    obtain ⟨od, J, _⟩ := J.look
    obtain ⟨m, hF⟩ := I.fr
    obtain ⟨tb, t1, t2⟩ := okTy_ok O hcs h3 I W r2 ry hc.2
    show wpAny (model X.prog X.w) X.A (richCompare .Eq (.ref a) u) (EP X pins σ Q) X.xe s
    refine PySem.W.cmp_K (op := .Eq) hr.units0 hF I.ok.mod.kin J t1 t2 (M.eq.at_ C h3) M.eq.fn (wpAny_mono (runm_at (E := fun _ _ _ => False) (Q := fun v H' => ∃ b : Bool, v = .bl b ∧ Q (.bl b) H') F hr hgd rfl (fun pn H s e s' _ q => by obtain ⟨_, _, _, _, _, _, _, _, _, _, _, _, hf⟩ := q; exact hf.elim) I hb (show Vals [V.ref a, y] [Value.ref a, u] from .cons rfl (.cons ry .nil)) ⟨Fz, μ, S, _, W, .cons (.obj h2 h3 h4 h5 h6) (.cons r2 .nil), ?_⟩) (fun v s' hv => ?_) fun _ _ e => e)
    · cases q : me [.obj c' fs xs, e] S with
      | no => rw [q] at h; exact h.elim
      | ex e S1 => rw [q] at h; exact h.elim
      | ok d S1 =>
        rw [q] at h
        cases d with
        | bl z =>
          intro H' F' μ' e' W' v rv
          cases rv
          exact ⟨z, rfl, h _ _ _ e' W' (V.bl z) (Rep.bl z)⟩
        | _ => exact h.elim
    · obtain ⟨w, H', I', rw', z, rfl, q⟩ := hv
      obtain rfl : v = Value.bool z := rw'
      exact ⟨.bl z, H', I', rfl, q⟩
  | _ => exact h.elim
theorem od_neO (O : Own X.K cs) (hcs : cs.contains c = true) (M : EqK X.K c f) (F : FnM X.prog X.w X.K X.mg X.base k f fd ps me) (hb : Binds X.K fd ps []) (hr : Room (k + 1) X.A) (hgd : X.A.guards = some []) : OpR X (compareOp .NotEq) (r2 X.K (dNeO cs c me)) := by
  intro pins s σ H x y v u Q I rx ry h
  obtain ⟨E, Fz, μ, S, d, e, W, r1, r2, h⟩ := h
  cases r1 with
  | @obj a C dx ws c' fs vs xs h2 h3 h4 h5 h6 =>
    replace h : Done X.K E H Fz μ S (if c' == c && okTy cs S e then notOf (me [.obj c' fs xs, e] S) else .no) _ := h
    by_cases hc : (c' == c && okTy cs S e) = true
    case neg => rw [if_neg hc] at h; exact h.elim
    rw [if_pos hc] at h
    rw [Bool.and_eq_true] at hc
    obtain rfl : c' = c := by simpa using hc.1
    cases rx
    obtain ⟨mA, J, _⟩ := ins_get I.hok (W.sub _ _ h2)
    obtain ⟨od, J, _⟩ := J.look
    obtain ⟨tb, t1, t2⟩ := okTy_ok O hcs h3 I W r2 ry hc.2
    show wpAny (model X.prog X.w) X.A (richCompare .NotEq (.ref a) u) (EP X pins σ Q) X.xe s
    refine ne_K (by have := hr.units; omega) I.kIn J t1 t2 (O.one c' (by simpa using hcs) C h3).hm (M.eq.at_ C h3) (M.ne C h3) M.eq.fn (wpAny_mono (runm_at (E := fun _ _ _ => False) (Q := fun v H' => ∃ b : Bool, v = .bl b ∧ Q (.bl (!b)) H') F hr.in1 hgd rfl (fun pn H s e s' _ q => by obtain ⟨_, _, _, _, _, _, _, _, _, _, _, _, hf⟩ := q; exact hf.elim) I hb (show Vals [V.ref a, y] [Value.ref a, u] from .cons rfl (.cons ry .nil)) ⟨Fz, μ, S, _, W, .cons (.obj h2 h3 h4 h5 h6) (.cons r2 .nil), ?_⟩) (fun v s' hv => ?_) fun _ _ e => e)
    · cases q : me [.obj c' fs xs, e] S with
      | no => rw [q] at h; exact h.elim
      | ex e S1 => rw [q] at h; exact h.elim
      | ok d S1 =>
        rw [q] at h
        cases d with
        | bl z =>
          intro H' F' μ' e' W' v rv
          cases rv
          exact ⟨z, rfl, h _ _ _ e' W' (V.bl (!z)) (Rep.bl (!z))⟩
        | _ => exact h.elim
    · obtain ⟨w, H', I', rw', z, rfl, q⟩ := hv
      obtain rfl : v = Value.bool z := rw'
      exact ⟨z, rfl, ⟨.bl (!z), H', I', rfl, q⟩⟩
  | _ => exact h.elim
end
end MM

set_option Elab.async false
set_option linter.all false
set_option maxRecDepth 100000
set_option maxHeartbeats 2000000
/-! try with several clauses, each with a name. -/
namespace MM
open PySem PySem.Spec PyProof.Rows L2
abbrev Ts3 := Addr → Value → Option Addr → TS
def unsetE (i : Nat) (D : Ends) : Ends := { nx := fun τ H => D.nx (τ.set i none) H, rt := D.rt, bk := fun τ H => D.bk (τ.set i none) H, ct := fun τ H => D.ct (τ.set i none) H }
/-- what is wished of an error of the body: clause by clause -/
def wClauses (K : PySem.W.Frag) (Wo : WX) (D : Ends) : List (Nat × Value × Ts3) → WX
  | [] => Wo
  | (i, c, ts) :: r => fun cls d τ H => ∃ b, PySem.W.exmOne K cls c = some b ∧ (b = true → ∀ a, H a = none → ts a cls d (unsetE i D) (τ.set i (some (.ref a))) H) ∧ (b = false → wClauses K Wo D r cls d τ H)
inductive Clauses (X : Cx) : List ExceptHandler → List (Nat × Value × Ts3) → Prop
  | nil : Clauses X [] []
  | cons {x n : Str} {i : Nat} {c : Value} {ts : Ts3} {b₀ : Stmt} {rest : List Stmt} {np pp : Pos} {hs : List ExceptHandler} {l : List (Nat × Value × Ts3)} (hi : X.N[i]? = some n) (hl : X.env.kindOf n = some .local) (hc : Names X x c)
      (run : ∀ (a : Addr) (o : Obj) (cls : Value) (d : Option Addr) (pn : List (Addr × Obj)), Zc cls d o → (∃ vs, o.data = .fields vs) → PSs (X.suite a ((a, o) :: pn)) (b₀ :: rest) (ts a cls d)) (r : Clauses X hs l) :
      Clauses X (.ExceptHandler (some (.Name x np)) (some n) (b₀ :: rest) pp :: hs) ((i, c, ts) :: l)
section
variable {X : Cx} {body : List Stmt} {g : ExceptHandler} {gs : List ExceptHandler} {l : List (Nat × Value × Ts3)} {pos : Pos} {tb : WX → TS} {Wo : WX}
theorem ps_try_clauses (hst : X.stack = X.env :: X.outer) (hf : X.env.frame = some X.env.locals) (hN : X.N.Nodup) (tk : Takes X Wo)
    (hb : ∀ (W : WX) (pn : List (Addr × Obj)) (xe : Value → Shared → Prop), Takes (X.tr pn xe) W → PassesOwn (model X.prog X.w) X.A X.env xe → PSs (X.tr pn xe) body (tb W))
    (cl : Clauses X (g :: gs) l) : PS X (.Try body (g :: gs) [] [] pos) (fun D τ H => tb (wClauses X.K Wo D l) D τ H) := by
  refine ⟨fun pins s τ H D I h => ?_⟩
  have ok := I.ok
  have frm : X.A.frames = some (X.env :: X.outer) := by rw [ok.frames, hst]
  refine wpAny_Try_except (wpAny_mono ((hb (wClauses X.K Wo D l) (X.pn ++ pins) (fun e s₁ => wpAny (model X.prog X.w) X.A (noteFrame e X.env) (fun _ s₂ => wpAny (model X.prog X.w) X.A (setFlight e none) (fun _ s₃ =>
    wpAny (model X.prog X.w) X.A (handleBy e X.env (g :: gs)) (SP X pins D) X.xe s₃) X.xe s₂) X.xe s₁) (fun u s' xx => ?_) PassesOwn.looking).run [] s τ H D (I.toTry _) h) (fun f s1 hsp => ?_) fun e s1 he => he)
  · obtain ⟨a, B, sI, pins', τ', H', cls, d, rfl, J', nb, up, sky, na, os, ag, wish⟩ := xx
    have J : Inv X pins τ' H' sI := J'.ofTry ok
    have sky' : Sky B (X.env :: X.outer) a (Zc cls d) X.env.locals s'.heap := by rw [← hst]; exact sky
    show wpAny (model X.prog X.w) X.A (noteFrame (.ref a) X.env) _ _ _
    refine Sky.land Zc.steady frm hf sky' fun h3 fl up3 => ?_
    have J3 : Inv X pins τ' H' { s' with heap := h3 } := J.landed nb fl.1 (up.trans up3) os ag
    obtain ⟨o3, vs3, e3, z3, d3⟩ := fl.there
    have apart : a ∉ frs (X.env :: X.outer) := fun hm => by
      obtain ⟨_, o', e', hnf⟩ := fl.2.2.1.mem hm
      rw [e3] at e'; cases e'
      exact hnf _ d3
    have aL : a ≠ X.env.locals := fun z => apart (List.mem_filterMap.mpr ⟨X.env, List.mem_cons_self, by rw [hf, z]⟩)
    have aF : a ∉ X.fs := fun hm => by
      obtain ⟨e, he, q⟩ := List.mem_filterMap.mp hm
      exact apart (List.mem_filterMap.mpr ⟨e, List.mem_cons_of_mem _ he, q⟩)
    have S3 := J3.suite e3 d3 na aL aF
    have go : ∀ {hs : List ExceptHandler} {l' : List (Nat × Value × Ts3)}, Clauses X hs l' → wClauses X.K Wo D l' cls d τ' H' → wpAny (model X.prog X.w) X.A (handleBy (.ref a) X.env hs) (SP X pins D) X.xe { s' with heap := h3 } := by
      intro hs l' hk
      induction hk with
      | nil =>
        intro w
        refine wpAny_handleBy_nil ?_
        obtain ⟨k1, k2, k3, oe, vs, T, oT, ts', he, hz, hd, h1, hr⟩ := id fl
        unfold PySem.passOn
        refine wpAny_bind (wpAny_field he hd h1 ?_)
        rw [if_neg (show ¬ ((Value.ref T == Value.none) = true) from by simp)]
        have out : wpAny (model X.prog X.w) X.A (setFlight (.ref a) X.env.frame) (fun _ s4 => wpAny (model X.prog X.w) X.A (throw (.ref a) : Sem Flow) (SP X pins D) X.xe s4) X.xe { s' with heap := h3 } := by
          rw [hf]
          exact HandSPX.setFlight_upZ fl fun h4 hh4 up4 => wpAny_throw (tk _ _ ⟨a, B, sI, pins, τ', H', cls, d, rfl, J, nb, (up.trans up3).trans up4, .inr (.inr (by rw [hst]; exact hh4)), na, os, ag, w⟩)
        first
          | exact wpAny_bind (wpAny_pure (wpAny_bind out))
          | exact wpAny_bind out
      | @cons x n i c ts b₀ rest np pp hs2 l2 hi hl hc run r ih =>
        rintro ⟨b, hb1, yes, no⟩
        have hloc : Loc X.env.scope n := .inl hl
        refine wpAny_handleBy_cons (codeAny_handlers_test ?_) (by intro q; cases q)
        have LT : PySem.W.Looks (model X.prog X.w) h3 (typeOf (.ref a)) cls := fun A Q E s k q => wpAny_typeOf_ref (k _ _ e3) (by rw [z3.1]; exact q)
        have LM := PySem.W.exm_one (M := model X.prog X.w) (J3.kIn) LT hb1
        have test : ∀ {Q : Value → Shared → Prop} {E : Value → Shared → Prop}, Q c { s' with heap := h3 } → wpAny (model X.prog X.w) (X.A.mark (some (.ref a))) (eval (.Name x np) X.env) Q E { s' with heap := h3 } := fun {Q E} q => by
          obtain ⟨h1, h2, h4 | ⟨h4, h5, h6⟩⟩ := hc
          · exact ld_glob (X := X.suite a ((a, o3) :: (X.pn ++ pins))) S3 h1 h4 q h2
          · exact ld_blt (X := X.suite a ((a, o3) :: (X.pn ++ pins))) S3 h1 h4 h5 q h6 h2
        refine test (LM.here ?_)
        cases b with
        | false =>
          show wpAny _ X.A (handleBy (.ref a) X.env hs2) _ _ _
          exact ih (no rfl)
        | true =>
          refine codeAny_handlers_suite_as (HandSPX.lands_againZ fl fun h4 fl4 up4 => ?_)
          have J4 : Inv X pins τ' H' { s' with heap := h4 } := J.landed nb fl4.1 ((up.trans up3).trans up4) os ag
          obtain ⟨o4, vs4, e4, z4, d4⟩ := fl4.there
          have S4 := J4.suite e4 d4 na aL aF
          refine store_ok (X := X.suite a ((a, o4) :: (X.pn ++ pins))) (v := .ref a) S4 hN hi hloc rfl (fun s5 S5 => ?_) (.inr hl)
          refine wpAny_mono ((run a o4 cls d (X.pn ++ pins) z4 ⟨_, d4⟩).run [] s5 _ H' _ S5 (yes rfl a na)) (fun f s6 hsp => ?_) fun _ _ z => False.elim z
          have away : ∀ {τ6 : L2.St} {H6 : Hp} {Q : Shared → Prop}, Inv (X.suite a ((a, o4) :: (X.pn ++ pins))) [] τ6 H6 s6 → (∀ s7, Inv X pins (τ6.set i none) H6 s7 → Q s7) →
              wpAny (model X.prog X.w) X.A (do bindName X.env n .none; unbindBehindTheSuite X.env n pp) (fun _ s7 => Q s7) X.xe s6 := fun {τ6 H6 Q} S6 hq => gone_ok (S6.unsuite ok) hN hi hl hq
          cases f with
          | next => obtain ⟨τ6, H6, S6, q6⟩ := hsp; exact away S6 fun s7 J7 => ⟨_, _, J7, q6⟩
          | brk => obtain ⟨τ6, H6, S6, q6⟩ := hsp; exact away S6 fun s7 J7 => ⟨_, _, J7, q6⟩
          | cont => obtain ⟨τ6, H6, S6, q6⟩ := hsp; exact away S6 fun s7 J7 => ⟨_, _, J7, q6⟩
          | ret u => obtain ⟨v6, τ6, H6, S6, r6, q6⟩ := hsp; exact away S6 fun s7 J7 => ⟨_, _, _, J7, r6, q6⟩
    exact go cl wish
  · cases f with
    | next => obtain ⟨τ', H', J', q⟩ := hsp; exact wpAny_execs_nil ⟨τ', H', J'.ofTry ok, q⟩
    | brk => obtain ⟨τ', H', J', q⟩ := hsp; exact ⟨τ', H', J'.ofTry ok, q⟩
    | cont => obtain ⟨τ', H', J', q⟩ := hsp; exact ⟨τ', H', J'.ofTry ok, q⟩
    | ret u => obtain ⟨v, τ', H', J', r, q⟩ := hsp; exact ⟨v, τ', H', J'.ofTry ok, r, q⟩
end
abbrev Cls1 := Nat × Hits × (Ex → MS)
def mClauses (e : Ex) (σ : Sg) (S : Store) : List Cls1 → O
  | [] => .ex e σ S
  | (i, hit, mh) :: r => match hit.lookup e.cls with
    | some true => if i < σ.length then (mh e (σ.set i none) S).back i else .no
    | some false => mClauses e σ S r
    | none => .no
def mTryM (cl : List Cls1) (mb : MS) : MS := fun σ S => match mb σ S with
  | .ex e σ1 S1 => mClauses e σ1 S1 cl
  | o => o
section
variable {X : Cx} {E : WX}
inductive ClausesM (X : Cx) : List ExceptHandler → List (Nat × Value × Ts3) → List Cls1 → Prop
  | nil : ClausesM X [] [] []
  | cons {x n : Str} {i : Nat} {c : Value} {hit : Hits} {mh : Ex → MS} {b₀ : Stmt} {rest : List Stmt} {np pp : Pos} {hs : List ExceptHandler} {l : List (Nat × Value × Ts3)} {m : List Cls1} (hi : X.N[i]? = some n) (hl : X.env.kindOf n = some .local) (hc : Names X x c) (hh : HitsOk X.K c hit)
      (run : ∀ (a : Addr) (o : Obj) (cls : Value) (d : Option Addr) (pn : List (Addr × Obj)) (er : Ex), hit.lookup er.cls = some true → Zc cls d o → (∃ vs, o.data = .fields vs) → PSs (X.suite a ((a, o) :: pn)) (b₀ :: rest) (tSh X.K W0 i a er cls d (mh er))) (r : ClausesM X hs l m) :
      ClausesM X (.ExceptHandler (some (.Name x np)) (some n) (b₀ :: rest) pp :: hs) ((i, c, fun a cls d => fun D τ H => ∃ er, hit.lookup er.cls = some true ∧ tSh X.K W0 i a er cls d (mh er) D τ H) :: l) ((i, hit, mh) :: m)
theorem ClausesM.of : ∀ {hs l m}, ClausesM X hs l m → Clauses X hs l
  | _, _, _, .nil => .nil
  | _, _, _, .cons hi hl hc hh run r => .cons hi hl hc (fun a o cls d pn hz hd => ⟨fun pins s σ H D I ⟨er, he, h⟩ => (run a o cls d pn er he hz hd).run pins s σ H D I h⟩) r.of
/-- THE RULE -/
theorem s_tryM {body : List Stmt} {g : ExceptHandler} {gs : List ExceptHandler} {l : List (Nat × Value × Ts3)} {m : List Cls1} {pos : Pos} {mb : MS} (hst : X.stack = X.env :: X.outer) (hf : X.env.frame = some X.env.locals) (hN : X.N.Nodup) (tk : Takes X E)
    (hb : ∀ (W : WX) (pn : List (Addr × Obj)) (xe : Value → Shared → Prop), Takes (X.tr pn xe) W → PassesOwn (model X.prog X.w) X.A X.env xe → PSs (X.tr pn xe) body (tS X.K W mb))
    (cl : ClausesM X (g :: gs) l m) : PS X (.Try body (g :: gs) [] [] pos) (tS X.K E (mTryM m mb)) := by
  refine (ps_try_clauses (tb := fun W => tS X.K W mb) (Wo := E) hst hf hN tk hb cl.of).imp ?_
  rintro D τ H ⟨F, μ, σ, S, W, hsl, h⟩
  refine ⟨F, μ, σ, S, W, hsl, ?_⟩
  unfold mTryM at h
  cases q : mb σ S with
  | nx => rw [q] at h; exact h
  | rt => rw [q] at h; exact h
  | bk => rw [q] at h; exact h
  | ct => rw [q] at h; exact h
  | no => rw [q] at h; exact h
  | ex e σ1 S1 =>
    rw [q] at h
    dsimp only at h
    intro H1 F1 μ1 τ1 c1 od e1 W1 s1 r1
    have go : ∀ {hs l m}, ClausesM X hs l m → DoneS X.K E H F μ S (mClauses e σ1 S1 m) D → wClauses X.K E D l c1 od τ1 H1 := by
      intro hs l m hk
      induction hk with
      | nil => exact fun h => h H1 F1 μ1 τ1 _ od e1 W1 s1 r1
      | @cons x n i c hit mh b₀ rest np pp hs2 l2 m2 hi hl hc hh run r ih =>
        intro h
        have h : DoneS X.K E H F μ S (match hit.lookup e.cls with | some true => if i < σ1.length then (mh e (σ1.set i none) S1).back i else .no | some false => mClauses e σ1 S1 m2 | none => .no) D := h
        cases hl' : hit.lookup e.cls with
        | none => rw [hl'] at h; exact h.elim
        | some b =>
          rw [hl'] at h
          obtain ⟨C, rfl, hC⟩ := r1.cls
          refine ⟨b, hh _ _ hl' C hC, fun eb a ha => ?_, fun eb => ?_⟩
          · subst eb
            dsimp only at h
            by_cases hi' : i < σ1.length
            · rw [if_pos hi'] at h
              exact ⟨e, hl', F1, μ1, σ1.set i none, S1, W1, s1.hide i, List.getElem?_set_self (by rw [← s1.len]; exact hi'), r1, DoneS.tryD (k := fun o => o.back i) (fun _ => rfl) (DoneS.from W e1 h)⟩
            · rw [if_neg hi'] at h; exact h.elim
          · subst eb
            exact ih h
    exact go cl h
end
end MM

set_option Elab.async false
set_option linter.all false
set_option maxRecDepth 100000
set_option maxHeartbeats 2000000
/-! What the printed texts lean on: errors without fields, own classes, written tuples. -/
namespace MM
open PySem PySem.Spec PyProof.Rows L2
/-! ### errors without fields -/
def initB0 (p0 p1 p2 p4 p5 : Pos) : List Stmt := [.Expr (.Call (.Attribute (.Call (.Name "super" p0) [] [] p1) "__init__" p2) [] [] p4) p5]
section
variable {P : Program} {w : World} {K : PySem.W.Frag} {mg : Str → Option Value} {nm q : Str} {st : Stmt} {C B fI cc cda : Addr}
theorem err0_mk {pl : Sem Bool} {p0 p1 p2 p4 p5 : Pos} (T : ErrF K mg nm q st C B fI cc cda) (hf : (P.main.file : Str) = "/claim/cut.py") (h6 : (P.main.scope.names.lookup ("super" : Str)).isSome = false)
    (h1 : ∃ ar : Arg, ((defArgs (clsInit st)).posonlyargs ++ (defArgs (clsInit st)).args).head? = some ar ∧ ar.arg = "self")
    (hB : defBody (clsInit st) = initB0 p0 p1 p2 p4 p5)
    (h2 : (defScope (clsInit st)).names.lookup ("super" : Str) = some .globalImplicit := by rfl) (h3 : (defScope (clsInit st)).names.lookup ("__class__" : Str) = some .free := by rfl) (h4 : (defScope (clsInit st)).names.lookup ("self" : Str) = some .local := by rfl)
    (h5 : (defScope (clsInit st)).kind = .function := by rfl) (hco : (defScope (clsInit st)).isCoroutine = false := by rfl) (hgen : (defScope (clsInit st)).isGenerator = false := by rfl) (hcell : ∀ y ∈ (defScope (clsInit st)).names, y.2 ≠ .cell := by decide +kernel)
    (hbind : ∀ (s : Shared) (x : Addr) (kV doc pm : Value) (an : Option Addr) (ct : Value), BindsTo s (PySem.W.ksFn "__init__" q (defArgs (clsInit st)) (initB0 p0 p1 p2 p4 p5) (defScope (clsInit st)) .none kV doc pm an (.ref cda) ct cc) ⟨[.ref x], []⟩ [("self", .ref x)])
    (he : ∀ L, eval (.Call (.Attribute (.Call (.Name "super" p0) [] [] p1) "__init__" p2) [] [] p4) (PySem.W.ksEnv q (defScope (clsInit st)) L fI (.ref cda) cc) = (do
      let ov ← attributeBase (.Call (.Name "super" p0) [] [] p1) "__init__" (PySem.W.ksEnv q (defScope (clsInit st)) L fI (.ref cda) cc) (eval (.Call (.Name "super" p0) [] [] p1) (PySem.W.ksEnv q (defScope (clsInit st)) L fI (.ref cda) cc))
      standAt p2.atName
      let (f, first) ← holding [ov] (getMethod ov "__init__" pl)
      callWith p4 f first (backTo p4 (starEach [] (PySem.W.ksEnv q (defScope (clsInit st)) L fI (.ref cda) cc))) []))
    (hi : ∀ L, interactive (PySem.W.ksEnv q (defScope (clsInit st)) L fI (.ref cda) cc) = false) (hsw : ∀ L, swapsWith (.Call (.Attribute (.Call (.Name "super" p0) [] [] p1) "__init__" p2) [] [] p4) none p5.line (PySem.W.ksEnv q (defScope (clsInit st)) L fI (.ref cda) cc) = pure false) : Err0 P w K mg nm C B fI := by
  refine ⟨T.of, fun A R hp g d t os x t0 mb X hlim hroom hg hb hbb hxo hnx hq => ?_, T.ns, T.kit, T.me⟩
  have J := T.init hf h1 h2 h3 h4 h5 h6
  rw [hB] at J
  exact MX.init0 (pl := pl) (p0 := p0) (p1 := p1) (p2 := p2) (p3 := p0) (p4 := p4) (p5 := p5) (p6 := p0) (p7 := p0) (p8 := p0) (p9 := p0) T.ecls J hco hgen hcell (fun s => hbind s x) he hi hsw X hlim hroom hg T.sup hb hbb hxo hnx hq
end
section
variable {X : Cx} {nm : Str} {C B fI : Addr} {p pos pos2 : Pos} {E : WX}
theorem c_raise0 (T : Err0 X.prog X.w X.K X.mg nm C B fI) (hr : Room 1 X.A) (tk : Takes X E) (hc : X.calm = true) (hg : Gl X nm := by rfl) (hdb : (nm == ("__debug__" : Str)) = false := by decide) :
    PS X (.Raise (some (.Call (.Name nm p) [] [] pos)) none pos2) (tS X.K E (mRaise0 nm)) := s_raise0 hc tk T.of T.ini T.ns hr hg hdb
theorem names_of0 (T : Err0 X.prog X.w X.K X.mg nm C B fI) (hg : Gl X nm := by rfl) (hd : (nm == ("__debug__" : Str)) = false := by decide) : Names X nm (.ref C) := ⟨hg, hd, .inl T.of.gC⟩
end
section
variable {K : PySem.W.Frag} {P : Program} {w : World} {mg : Str → Option Value} {nm q : Str} {C B fI : Addr} {er : Ex} {D : Addr} {b : Bool} {hit : Hits}
/-- the one class that the clause catches -/
theorem hit_of {nm x : Str} {hit : Hits} (hx : ∀ y ∈ hit, y.2 = true → y.1 = nm) (h : List.lookup x hit = some true) : x = nm := by
  have : (x, true) ∈ hit := by
    induction hit with
    | nil => cases h
    | cons a r ih =>
      obtain ⟨a1, a2⟩ := a
      by_cases z : (x == a1) = true
      · simp only [List.lookup, z, Option.some.injEq] at h
        subst h
        have z : x = a1 := by simpa using z
        subst z
        exact List.mem_cons_self
      · have z : (x == a1) = false := by simpa using z
        simp only [List.lookup, z] at h
        exact List.mem_cons_of_mem _ (ih (fun y hy => hx y (List.mem_cons_of_mem _ hy)) h)
  exact hx _ this rfl
theorem get_hit (T : Err1 P w K mg nm q C B fI) (hx : ∀ y ∈ hit, y.2 = true → y.1 = nm) (h : List.lookup er.cls hit = some true) : ∀ C', PySem.W.nsIn K mainGlobals er.cls = some (some (.ref C')) → ErrGet K C' q := fun C' hC => by
  rw [hit_of hx h, T.ns] at hC
  cases hC
  exact T.get
theorem kit_hit (T : Err1 P w K mg nm q C B fI) (hx : ∀ y ∈ hit, y.2 = true → y.1 = nm) (h : List.lookup er.cls hit = some true) (hk : ∀ C, PySem.W.nsIn K mainGlobals nm = some (some (.ref C)) → PySem.W.kitOne K (.ref C) (.ref D) = some b) :
    ∀ C', PySem.W.nsIn K mainGlobals er.cls = some (some (.ref C')) → MX.ErrKit K C' ∧ PySem.W.kitOne K (.ref C') (.ref D) = some b := fun C' hC => by
  rw [hit_of hx h] at hC
  refine ⟨?_, hk C' hC⟩
  rw [T.ns] at hC
  cases hC
  exact T.kit
theorem kit_hit0 (T : Err0 P w K mg nm C B fI) (hx : ∀ y ∈ hit, y.2 = true → y.1 = nm) (h : List.lookup er.cls hit = some true) (hk : ∀ C, PySem.W.nsIn K mainGlobals nm = some (some (.ref C)) → PySem.W.kitOne K (.ref C) (.ref D) = some b) :
    ∀ C', PySem.W.nsIn K mainGlobals er.cls = some (some (.ref C')) → MX.ErrKit K C' ∧ PySem.W.kitOne K (.ref C') (.ref D) = some b := fun C' hC => by
  rw [hit_of hx h] at hC
  refine ⟨?_, hk C' hC⟩
  rw [T.ns] at hC
  cases hC
  exact T.kit
end
/-- one error class against another one -/
def Apart (K : PySem.W.Frag) (c d : Str) : Prop := ∀ C D, PySem.W.nsIn K mainGlobals c = some (some (.ref C)) → PySem.W.nsIn K mainGlobals d = some (some (.ref D)) → PySem.W.exmOne K (.ref C) (.ref D) = some false
/-! ### own classes, as they are printed -/
structure CalM (P : Program) (w : World) (K : PySem.W.Frag) (mg : Str → Option Value) (base : Heap) (k : Nat) (x qual : Str) (st : Stmt) (ps : List Str) (f : Addr) (fd : FuncData) (mf : List D → Store → R D) : Prop where
  F : Fun K x qual st f fd
  ok : FnM P w K mg base k f fd ps mf
  b : Binds K fd ps []
structure ClsM (K : PySem.W.Frag) (mg : Str → Option Value) (c : Str) (C f : Addr) : Prop where
  ns : PySem.W.nsIn K mainGlobals c = some (some (.ref C))
  mg : mg c = some (.ref C)
  made : Mk K C f
section
variable {X : Cx} {E : WX} {k : Nat} {c m x qual : Str} {st : Stmt} {ps : List Str} {f C : Addr} {fd : FuncData} {mf : List D → Store → R D} {e : Expr} {es : List Expr} {mas : MA} {p pos q : Pos} {cs : List Str} {me : ME}
theorem c_make (Q : CalM X.prog X.w X.K X.mg X.base k x qual st ps f fd mf) (L : ClsM X.K X.mg c C f) (hr : Room (k + 1) X.A) (hgd : X.A.guards = some []) (hx : ∀ σ, PassesAt (L2.CX X.prog X.w) X σ (WE E σ)) (ha : PA X (e :: es) (tA X.K E mas)) (hg : Gl X c := by rfl) (hdb : (c == ("__debug__" : Str)) = false := by decide) (he : starEach (e :: es) X.env = (false, eval e X.env) :: starEach es X.env := by rfl) (hpl : (backTo pos (starEach es X.env)).any (·.1) = false := by rfl) :
    PE X (.Call (.Name c p) (e :: es) [] pos) (tE X.K E (mN (mMake c mf) mas)) := se_make L.made Q.ok L.ns hr hgd L.mg Q.b hx ha hg hdb he hpl
theorem c_isiC (O : Own X.K cs) (hcs : cs.contains c = true) (L : ClsM X.K X.mg c C f) (hm : X.mg "isinstance" = none) (he : PE X e (tE X.K E me)) (hg : Gl X "isinstance" := by rfl) (hg2 : Gl X c := by rfl) (hdb : (c == ("__debug__" : Str)) = false := by decide)
    (hs : starEach [e, .Name c q] X.env = (false, eval e X.env) :: starEach [.Name c q] X.env := by rfl) : PE X (.Call (.Name "isinstance" p) [e, .Name c q] [] pos) (tE X.K E (m1 (dIsiC cs c) me)) := se_isiC O hcs L.ns hm L.mg he hg hg2 hdb hs
end
/-- the instances' method m: where the language finds it -/
structure Meths (K : PySem.W.Frag) (c : Str) (C : Addr) (m : Str) (f : Addr) : Prop where
  at_ : PySem.W.findIn K (.ref C) m = some (some (.ref f))
  fn : PySem.W.isFn K (.ref f) = true
theorem sp1_of {K : PySem.W.Frag} {c m : Str} {C f : Addr} (hn : PySem.W.nsIn K mainGlobals c = some (some (.ref C))) (h1 : PySem.W.findIn K (.ref C) m = some (some (.ref f))) (h2 : PySem.W.isFn K (.ref f) = true) : Sp1 K c m f := ⟨fun C' h => by rw [hn] at h; cases h; exact h1, h2⟩
theorem eqK_of {K : PySem.W.Frag} {c : Str} {C f : Addr} (hn : PySem.W.nsIn K mainGlobals c = some (some (.ref C))) (h : Sp1 K c "__eq__" f) (h2 : PySem.W.findIn K (.ref C) "__ne__" = some (some (.builtin "object.__ne__"))) : EqK K c f := ⟨h, fun C' h' => by rw [hn] at h'; cases h'; exact h2⟩
theorem atts_nil {K : PySem.W.Frag} {f : Str} : Atts K [] f := fun _ h => nomatch h
theorem atts_cons {K : PySem.W.Frag} {c f : Str} {cs : List Str} {C : Addr} (hn : PySem.W.nsIn K mainGlobals c = some (some (.ref C))) (h1 : Cls K C) (h2 : NoAttr K C f) (t : Atts K cs f) : Atts K (c :: cs) f := fun c' hc C' h => by
  rcases List.mem_cons.mp hc with e | hc
  · subst e
    rw [hn] at h
    cases h
    exact ⟨h1, h2⟩
  · exact t c' hc C' h
theorem own_one {K : PySem.W.Frag} {c : Str} {C : Addr} (hn : PySem.W.nsIn K mainGlobals c = some (some (.ref C))) (h : IsK K C) (hs : PySem.W.mroIn K C (.ref C) = some true) : Own K [c] := by
  refine ⟨fun c' hc C' h' => ?_, fun c1 h1 c2 h2 C1 C2 k1 k2 => ?_⟩
  · simp at hc; subst hc; rw [hn] at h'; cases h'; exact h
  · simp at h1 h2
    subst h1; subst h2
    rw [hn] at k1 k2
    cases k1; cases k2
    exact ⟨by rw [hs]; simp, by simp⟩
/-! ### x in a written tuple -/
def dV : D → Option V
  | .non => some .non
  | .bl b => some (.bl b)
  | .int i => some (.int i)
  | .str x => some (.str x)
  | _ => none
theorem dV_ok {K : PySem.W.Frag} {F : Hp} {μ : List Addr} {d : D} {v w : V} (r : Rep K F μ d v) (h : dV d = some w) : v = w ∧ flatV v = true := by
  cases r <;> first | (cases h; exact ⟨rfl, rfl⟩) | cases h
def dInC (neg : Bool) (ks : List V) (d : D) (S : Store) : R D := match dV d with
  | some v => .ok (.bl (if neg then !inV v ks else inV v ks)) S
  | none => .no
/-- a name of the module that stands for a written tuple -/
def TupC (K : PySem.W.Frag) (mg : Str → Option Value) (x : Str) (ks : List V) : Prop := ∃ (a : Addr) (o : Obj) (its : Array Value) (n : Nat), mg x = some (.ref a) ∧ K.lookup a = some o ∧ o.cls = .type "tuple" ∧ o.data = .seq its n ∧ its.size ≤ sizeLine ∧ Vals ks its.toList
section
variable {X : Cx} {E : WX} {e : Expr} {m : ME} {x : Str} {ks : List V} {p pos : Pos}
theorem se_inC {neg : Bool} {op : CmpOp} (hop : OpR X (compareOp op) (rIn X.K neg)) (T : TupC X.K X.mg x ks) (hk : ks.all flatV = true) (he : PE X e (tE X.K E m)) (hg : Gl X x := by rfl) (hdb : (x == ("__debug__" : Str)) = false := by decide) (hm : behindInMarks op (.Name x p) = false := by rfl) :
    PE X (.Compare e [op] [.Name x p] pos) (tE X.K E (m1 (dInC neg ks) m)) := by
  obtain ⟨a, o, its, n, h1, h2, h3, h4, h5, h6⟩ := T
  refine (pe_cmpR hop he (pe_glob (v := .ref a) hg h1 rfl hdb) hm).imp fun τ H Q ⟨F, μ, σ, S, W, hs, h⟩ => ⟨F, μ, σ, S, W, hs, (h.split W).mono fun d S1 H1 F1 μ1 e1 W1 h1' v r => ?_⟩
  have h1' : Done X.K (WE E τ) H1 F1 μ1 S1 (match dV d with | some v => .ok (D.bl (if neg then !inV v ks else inV v ks)) S1 | none => .no) (PV X.K Q) := h1'
  cases q : dV d with
  | none => rw [q] at h1'; exact h1'.elim
  | some w =>
    rw [q] at h1'
    obtain ⟨rfl, fl⟩ := dV_ok r q
    exact ⟨a, ks, rfl, .inr (.inr ⟨o, its, n, h2, h3, h4, h5, h6⟩), fl, hk, h1'.here W1 _ (.bl _)⟩
end
end MM

set_option Elab.async false
set_option linter.all false
set_option maxRecDepth 100000
set_option maxHeartbeats 2000000
/-! repr of data with empty dicts in it. -/
namespace MM
open PySem PySem.Spec PyProof.Rows L2
mutual
inductive RdN (h : Heap) : Value → PyData → Prop
  | none : RdN h .none .none
  | bool (b : Bool) : RdN h (.bool b) (.bool b)
  | int (i : Int) (t : Tok) : RdN h (.int i t) (.int i)
  | str (x : Str) (t : Tok) : RdN h (.str x t) (.str x)
  | list {a : Addr} {o : Obj} {vs : Array Value} {n : Nat} {xs : List PyData} : h.get? a = some o → o.cls = .type "list" → o.data = .seq vs n → RdNs h vs.toList xs → RdN h (.ref a) (.list xs)
  | tuple {a : Addr} {o : Obj} {vs : Array Value} {n : Nat} {xs : List PyData} : h.get? a = some o → o.cls = .type "tuple" → o.data = .seq vs n → RdNs h vs.toList xs → RdN h (.ref a) (.tuple xs)
  | dict {a : Addr} {o : Obj} {es : Array DictEntry} {n : Nat} : h.get? a = some o → o.cls = .type "dict" → o.data = .dict es n → es.toList = [] → (a == sysModules) = false → RdN h (.ref a) (.dict [])
inductive RdNs (h : Heap) : List Value → List PyData → Prop
  | nil : RdNs h [] []
  | cons {v : Value} {d : PyData} {vs : List Value} {ds : List PyData} : RdN h v d → RdNs h vs ds → RdNs h (v :: vs) (d :: ds)
end
section
variable {h₀ : Heap} {prog : Program} {w : World}
mutual
theorem RdN.reads : ∀ {v : Value} {d : PyData}, RdN h₀ v d → ∃ as, Reads h₀ v d as
  | _, _, .none => ⟨_, .none⟩
  | _, _, .bool b => ⟨_, .bool b⟩
  | _, _, .int i t => ⟨_, .int i t⟩
  | _, _, .str x t => ⟨_, .str x t⟩
  | _, _, .list h1 h2 h3 h4 => let ⟨_, r⟩ := RdNs.reads h4; ⟨_, .list h1 h2 h3 r⟩
  | _, _, .tuple h1 h2 h3 h4 => let ⟨_, r⟩ := RdNs.reads h4; ⟨_, .tuple h1 h2 h3 r⟩
  | _, _, .dict h1 h2 h3 h4 _ => ⟨_, .dict h1 h2 h3 (by rw [h4]; exact .nil) (by rw [h4]; exact .nil)⟩
theorem RdNs.reads : ∀ {vs : List Value} {ds : List PyData}, RdNs h₀ vs ds → ∃ as, ReadsAll h₀ vs ds as
  | _, _, .nil => ⟨_, .nil⟩
  | _, _, .cons h1 h2 => let ⟨_, r1⟩ := RdN.reads h1; let ⟨_, r2⟩ := RdNs.reads h2; ⟨_, .cons r1 r2⟩
end
mutual
theorem RdN.repr : ∀ {v : Value} {d : PyData}, RdN h₀ v d → d.showable = true → d.shown.length ≤ sizeLine → ∃ bs, ReadAtMost h₀ d.depth bs ∧ ReprK prog w bs h₀ d.depth v d.shown
  | _, _, .none, _, _ => ⟨[], (fun _ h => nomatch h), by simp only [PyData.shown]; exact .of_is ReprIs.none _ _ _⟩
  | _, _, .bool b, _, _ => ⟨[], (fun _ h => nomatch h), by simp only [PyData.shown]; exact .of_is (ReprIs.bool b) _ _ _⟩
  | _, _, .int i t, hs, _ => ⟨[], (fun _ h => nomatch h), by simp only [PyData.shown]; exact .of_is (ReprIs.int t (by simpa [PyData.showable] using hs)) _ _ _⟩
  | _, _, .str x t, _, hz => ⟨[], (fun _ h => nomatch h), by simp only [PyData.shown]; exact .of_is (ReprIs.str x t (by simpa only [PyData.shown] using hz)) _ _ _⟩
  | _, _, .list (a := a) (vs := vs) (xs := xs) h1 h2 h3 h4, hs, hz => by
    have hz2 : (listText (PyData.shownAll xs)).length ≤ sizeLine := by simpa only [PyData.shown] using hz
    obtain ⟨bs, hb, hk⟩ := RdNs.repr h4 (by simpa [PyData.showable] using hs) fun t ht => Nat.le_trans (listText_mem_le ht) hz2
    obtain ⟨as, r⟩ := RdN.reads (.list h1 h2 h3 h4)
    refine ⟨a :: bs, ReadAtMost.cons r (by simp only [PyData.depth]; omega) hb, ?_⟩
    have away : a ∉ bs := not_mem_of_deeper r (by simp only [PyData.depth]; omega) hb
    simp only [PyData.depth, PyData.shown]
    obtain ⟨l⟩ := vs
    cases l with
    | nil =>
      have h5 : RdNs h₀ [] xs := h4
      cases h5
      simp only [PyData.shownAll, listText_nil]
      exact ReprK.listEmpty h1 h2 h3
    | cons x l => exact ReprK.list h1 h2 h3 away (by simpa using hk.length_eq) (fun i y e => hk.item i y (by simpa using e))
  | _, _, .tuple (a := a) (xs := xs) h1 h2 h3 h4, hs, hz => by
    have hz2 : (tupleText (PyData.shownAll xs)).length ≤ sizeLine := by simpa only [PyData.shown] using hz
    obtain ⟨bs, hb, hk⟩ := RdNs.repr h4 (by simpa [PyData.showable] using hs) fun t ht => Nat.le_trans (tupleText_mem_le ht) hz2
    obtain ⟨as, r⟩ := RdN.reads (.tuple h1 h2 h3 h4)
    refine ⟨a :: bs, ReadAtMost.cons r (by simp only [PyData.depth]; omega) hb, ?_⟩
    simp only [PyData.depth, PyData.shown]
    exact ReprK.tuple h1 h2 h3 (not_mem_of_deeper r (by simp only [PyData.depth]; omega) hb) hk
  | _, _, .dict (a := a) (es := es) h1 h2 h3 h4 h5, _, _ => by
    obtain ⟨as, r⟩ := RdN.reads (.dict h1 h2 h3 h4 h5)
    refine ⟨[a], ReadAtMost.cons (bs := []) (n := 0) r (Nat.zero_le _) (fun _ h => nomatch h), ?_⟩
    have := ReprK.dict (prog := prog) (w := w) (as := []) (d := 0) (ps := []) h1 h2 h3 h5 (by simp) (by rw [h4]; exact .nil)
    simpa only [PyData.depth, PyData.shown, PyData.shownKv, PyData.depthKv] using this
theorem RdNs.repr : ∀ {vs : List Value} {ds : List PyData}, RdNs h₀ vs ds → PyData.showableAll ds = true → (∀ t ∈ PyData.shownAll ds, t.length ≤ sizeLine) → ∃ bs, ReadAtMost h₀ (PyData.depthAll ds) bs ∧ ReprAllK prog w bs h₀ (PyData.depthAll ds) vs (PyData.shownAll ds)
  | _, _, .nil, _, _ => ⟨[], (fun _ h => nomatch h), by simp only [PyData.shownAll]; exact .nil⟩
  | _, _, .cons (d := d) (ds := ds) r rs, hs, hz => by
    have hs2 : d.showable = true ∧ PyData.showableAll ds = true := by simpa [PyData.showableAll] using hs
    obtain ⟨b1, hb1, k1⟩ := RdN.repr r hs2.1 (hz _ (by simp only [PyData.shownAll]; exact List.mem_cons_self ..))
    obtain ⟨b2, hb2, k2⟩ := RdNs.repr rs hs2.2 fun t ht => hz t (by simp only [PyData.shownAll]; exact List.mem_cons_of_mem _ ht)
    refine ⟨b1 ++ b2, ReadAtMost.append (hb1.mono (by simp only [PyData.depthAll]; exact Nat.le_max_left _ _)) (hb2.mono (by simp only [PyData.depthAll]; exact Nat.le_max_right _ _)), ?_⟩
    simp only [PyData.depthAll, PyData.shownAll]
    exact .cons ((k1.more fun b hb => List.mem_append_left _ hb).level_le (Nat.le_max_left _ _)) (k2.more_le (fun b hb => List.mem_append_right _ hb) (Nat.le_max_right _ _))
end
theorem repr_RdN {A : Around} {E : Value → Shared → Prop} {s : Shared} {Q : Value → Shared → Prop} {a : Addr} {xs : List PyData} {l : Bool} (r : RdN h₀ (.ref a) (if l then .list xs else .tuple xs)) (hs : PyData.showable (if l then .list xs else .tuple xs) = true) (hg : A.guards = some []) (hu : A.units + ((PyData.depth (if l then .list xs else .tuple xs)) + 1) < cLine) (hk0 : ∀ b o, h₀.get? b = some o → s.heap.get? b = some o)
    (hQ : ∀ h' u tk, (∀ b o, s.heap.get? b = some o → h'.get? b = some o) → Q (.str (PyData.shown (if l then .list xs else .tuple xs)) u) { s with heap := h', toks := tk })
    (hsz : (PyData.shown (if l then .list xs else .tuple xs)).length ≤ sizeLine) : wpAny (model prog w) A (call (.builtin "repr") [.ref a]) Q E s := by
  cases l with
  | true =>
    simp only [if_true] at r hs hu hQ hsz
    obtain ⟨as, rr⟩ := r.reads
    cases r with
    | @list _ o vs n _ h1 h2 h3 h4 =>
      have hz2 : (listText (PyData.shownAll xs)).length ≤ sizeLine := by simpa only [PyData.shown] using hsz
      obtain ⟨bs, hb, hk⟩ := RdNs.repr (prog := prog) (w := w) h4 (by simpa [PyData.showable] using hs) fun t ht => Nat.le_trans (listText_mem_le ht) hz2
      have away : a ∉ bs := not_mem_of_deeper rr (by simp only [PyData.depth]; omega) hb
      simp only [PyData.depth] at hu
      simp only [PyData.shown] at hQ
      refine call_repr_slot (by omega) ⟨o, hk0 _ _ h1, h2⟩ F.slot_list_repr.toG ?_
      obtain ⟨l⟩ := vs
      cases l with
      | nil =>
        have h5 : RdNs h₀ [] xs := h4
        cases h5
        simp only [PyData.shownAll, listText_nil] at hQ
        exact call_list_repr_empty ⟨o, hk0 _ _ h1, h2⟩ (hk0 _ _ h1) h3 ⟨_, _, rfl, hQ s.heap _ _ fun _ _ e => e⟩
      | cons x l =>
        exact call_list_reprK h1 h2 h3 away (by simpa using hk.length_eq) (fun i y e => hk.item i y (by simpa using e)) (A := A.in1) hg (fun b _ => Clear.nil b) (by show A.units + 1 + _ < cLine; omega) hk0 (fun h' u tk hk => ⟨_, _, rfl, hQ h' u tk hk⟩) hz2
  | false =>
    simp only [Bool.false_eq_true, if_false] at r hs hu hQ hsz
    obtain ⟨as, rr⟩ := r.reads
    cases r with
    | @tuple _ o vs n _ h1 h2 h3 h4 =>
      have hz2 : (tupleText (PyData.shownAll xs)).length ≤ sizeLine := by simpa only [PyData.shown] using hsz
      obtain ⟨bs, hb, hk⟩ := RdNs.repr (prog := prog) (w := w) h4 (by simpa [PyData.showable] using hs) fun t ht => Nat.le_trans (tupleText_mem_le ht) hz2
      have away : a ∉ bs := not_mem_of_deeper rr (by simp only [PyData.depth]; omega) hb
      simp only [PyData.depth] at hu
      simp only [PyData.shown] at hQ
      refine call_repr_slot (by omega) ⟨o, hk0 _ _ h1, h2⟩ F.slot_tuple_repr ?_
      exact call_tuple_reprK h1 h2 h3 away hk (A := A.in1) hg (fun b _ => Clear.nil b) (by show A.units + 1 + _ < cLine; omega) hk0 (fun h' u tk hk => ⟨_, _, rfl, hQ h' u tk hk⟩) hz2
end
/-! ### the mirror -/
mutual
def D.pdd : D → PyData
  | .non => .none
  | .bl b => .bool b
  | .int i => .int i
  | .str x => .str x
  | .tup xs => .tuple (pddAll xs)
  | .lst xs => .list (pddAll xs)
  | .dct _ _ => .dict []
  | _ => .none
def pddAll : List D → List PyData
  | [] => []
  | x :: xs => x.pdd :: pddAll xs
end
/-! data of a depth of at most k, in it no dicts but empty ones -/
mutual
def D.sh2 : Nat → D → Bool
  | _, .non => true
  | _, .bl _ => true
  | _, .int _ => true
  | _, .str _ => true
  | k + 1, .tup xs => sh2All k xs
  | k + 1, .lst xs => sh2All k xs
  | _ + 1, .dct ks xs => ks.isEmpty && xs.isEmpty
  | _, _ => false
def sh2All : Nat → List D → Bool
  | _, [] => true
  | k, x :: xs => x.sh2 k && sh2All k xs
end
mutual
theorem D.sh2_depth : ∀ {k : Nat} {d : D}, d.sh2 k = true → d.pdd.depth ≤ k
  | _, .non, _ => Nat.zero_le _
  | _, .bl _, _ => Nat.zero_le _
  | _, .int _, _ => Nat.zero_le _
  | _, .str _, _ => Nat.zero_le _
  | 0, .tup _, h => by simp [D.sh2] at h
  | 0, .lst _, h => by simp [D.sh2] at h
  | 0, .dct _ _, h => by simp [D.sh2] at h
  | k + 1, .tup xs, h => by
    have := sh2All_depth (k := k) (xs := xs) (by simpa [D.sh2] using h)
    simp only [D.pdd, PyData.depth]; omega
  | k + 1, .lst xs, h => by
    have := sh2All_depth (k := k) (xs := xs) (by simpa [D.sh2] using h)
    simp only [D.pdd, PyData.depth]; omega
  | k + 1, .dct _ _, _ => by simp only [D.pdd, PyData.depth, PyData.depthKv]; omega
  | _, .scr _, h => by simp [D.sh2] at h
  | _, .ref _, h => by simp [D.sh2] at h
  | _, .obj _ _ _, h => by simp [D.sh2] at h
theorem sh2All_depth : ∀ {k : Nat} {xs : List D}, sh2All k xs = true → PyData.depthAll (pddAll xs) ≤ k
  | _, [], _ => by simp [pddAll, PyData.depthAll]
  | k, x :: xs, h => by
    rw [sh2All, Bool.and_eq_true] at h
    have h1 := D.sh2_depth h.1
    have h2 := sh2All_depth h.2
    simp only [pddAll, PyData.depthAll]
    omega
end
section
variable {X : Cx} {pins : List (Addr × Obj)} {σ : L2.St} {H F : Hp} {s : Shared} {μ : List Addr}
mutual
theorem Rep.rdN (I : Inv X pins σ H s) (hs : ∀ a o, F a = some o → H a = some o) : ∀ {k : Nat} {d : D} {v : V} {u : Value}, d.sh2 k = true → Rep X.K F μ d v → RelV v u → RdN s.heap u d.pdd
  | _, _, _, _, _, .non, r => by cases r; exact .none
  | _, _, _, _, _, .bl b, r => by cases r; exact .bool b
  | _, _, _, _, _, .int i, r => by obtain ⟨t, rfl⟩ := r; exact .int i t
  | _, _, _, _, _, .str x, r => by obtain ⟨t, rfl⟩ := r; exact .str x t
  | 0, _, _, _, h, .tup _ _, _ => by simp [D.sh2] at h
  | 0, _, _, _, h, .lst _ _, _ => by simp [D.sh2] at h
  | k + 1, _, _, _, h, .tup ha q, r => by
    cases r
    obtain ⟨_, its, rv, o, ho, hc, n, hd⟩ := I.hok _ _ (hs _ _ ha)
    exact .tuple ho hc hd (Reps.rdN I hs (k := k) (by simpa [D.sh2] using h) q rv)
  | k + 1, _, _, _, h, .lst ha q, r => by
    cases r
    obtain ⟨_, its, n, rv, ho⟩ := I.hok _ _ (hs _ _ ha)
    exact .list ho rfl rfl (Reps.rdN I hs (k := k) (by simpa [D.sh2] using h) q rv)
  | _, _, _, _, h, .scr _ _, _ => by simp [D.sh2] at h
  | _, _, _, _, h, .ref _, _ => by simp [D.sh2] at h
  | _, _, _, _, h, .obj _ _ _ _ _, _ => by simp [D.sh2] at h
  | 0, _, _, _, h, .dct _ _ _ _ _, _ => by simp [D.sh2] at h
  | 0, _, _, _, h, .dck _ _ _ _, _ => by simp [D.sh2] at h
  | 0, _, _, _, h, .dcT _ _ _ _, _ => by simp [D.sh2] at h
  | k + 1, _, _, _, h, .dct (us := us) h1 h2 _ _ _, r => by
    cases r
    have e : us = [] := by
      simp only [D.sh2, Bool.and_eq_true] at h
      have h2' := h.1
      rw [← h2] at h2'
      simpa using h2'
    subst e
    obtain ⟨_, ⟨z, _, _, o, es, ep, xs, ho, hc, hd, he, hk, _⟩, _⟩ := I.hok _ _ (hs _ _ h1)
    cases hk
    exact .dict ho hc.1 hd (by simpa using he) z
  | k + 1, _, _, _, h, .dck (us := us) h1 h2 _ _, r => by
    cases r
    have e : us = [] := by
      simp only [D.sh2, Bool.and_eq_true] at h
      have h2' := h.1
      rw [← h2] at h2'
      simpa using h2'
    subst e
    obtain ⟨_, _, z, vs, kv, o, es, ep, ho, hc, hd, hk, he, _⟩ := I.hok _ _ (hs _ _ h1)
    cases kv
    exact .dict ho hc.1 hd (by cases q : es.toList with | nil => rfl | cons x r => rw [q] at he; cases he) z
  | k + 1, _, _, _, h, .dcT (us := us) h1 h2 _ _, r => by
    cases r
    have e : us = [] := by
      simp only [D.sh2, Bool.and_eq_true] at h
      have h2' := h.1
      rw [← h2] at h2'
      simpa using h2'
    subst e
    obtain ⟨_, _, z, xs, hp, o, es, ep, ho, hc, hd, he, _⟩ := I.hok _ _ (hs _ _ h1)
    cases hp
    exact .dict ho hc.1 hd (by simpa using he) z
theorem Reps.rdN (I : Inv X pins σ H s) (hs : ∀ a o, F a = some o → H a = some o) : ∀ {k : Nat} {ds : List D} {vs : List V} {us : List Value}, sh2All k ds = true → Reps X.K F μ ds vs → Vals vs us → RdNs s.heap us (pddAll ds)
  | _, _, _, _, _, .nil, r => by cases r; exact .nil
  | k, _, _, _, h, .cons h1 h2, r => by
    rw [sh2All, Bool.and_eq_true] at h
    cases r with
    | cons r1 r2 => exact .cons (Rep.rdN I hs h.1 h1 r1) (Reps.rdN I hs h.2 h2 r2)
end
end
def dReprD := on1 fun d S => match d with
  | .lst xs => MM.need ((D.lst xs).sh2 40 && (D.lst xs).pdd.showable && lim (D.lst xs).pdd.shown.length) (.ok (.str (D.lst xs).pdd.shown) S)
  | .tup xs => MM.need ((D.tup xs).sh2 40 && (D.tup xs).pdd.showable && lim (D.tup xs).pdd.shown.length) (.ok (.str (D.tup xs).pdd.shown) S)
  | _ => .no
section
variable {X : Cx}
theorem cd_reprD (hu : X.A.units + 64 < cLine) (hgd : X.A.guards = some []) : CallR X (.builtin "repr") (rN X.K dReprD) := by
  intro pins s σ H zs us Q I r h
  replace h := on1_ok h
  obtain ⟨E, x, F, μ, S, d, rfl, W, rq, h⟩ := h
  cases d with
  | lst xs =>
    obtain ⟨hb, h⟩ := Done.need h
    simp only [Bool.and_eq_true] at hb
    obtain ⟨⟨b1, b2⟩, b3⟩ := hb
    cases rq with
    | @lst a vs _ ha q =>
      obtain ⟨u, rfl, rx⟩ := vals1 r
      cases rx
      have hd := D.sh2_depth b1
      exact repr_RdN (l := true) (Rep.rdN I W.sub b1 (.lst ha q) (show RelV (.ref a) (.ref a) from rfl)) b2 hgd (by show X.A.units + ((D.lst xs).pdd.depth + 1) < cLine; omega) (fun _ _ e => e) (fun h' u tk hk => ⟨.str _, H, I.kept hk, ⟨u, rfl⟩, h.here W _ (.str _)⟩) (lim_le b3)
  | tup xs =>
    obtain ⟨hb, h⟩ := Done.need h
    simp only [Bool.and_eq_true] at hb
    obtain ⟨⟨b1, b2⟩, b3⟩ := hb
    cases rq with
    | @tup a vs _ ha q =>
      obtain ⟨u, rfl, rx⟩ := vals1 r
      cases rx
      have hd := D.sh2_depth b1
      exact repr_RdN (l := false) (Rep.rdN I W.sub b1 (.tup ha q) (show RelV (.ref a) (.ref a) from rfl)) b2 hgd (by show X.A.units + ((D.tup xs).pdd.depth + 1) < cLine; omega) (fun _ _ e => e) (fun h' u tk hk => ⟨.str _, H, I.kept hk, ⟨u, rfl⟩, h.here W _ (.str _)⟩) (lim_le b3)
  | _ => exact h.elim
def dReprB := orN dReprA dReprD
theorem cd_reprB (hu : X.A.units + 64 < cLine) (hgd : X.A.guards = some []) : CallR X (.builtin "repr") (rN X.K dReprB) := cd_or (cd_reprA hu hgd) (cd_reprD hu hgd)
end
end MM

set_option Elab.async false
set_option linter.all false
set_option maxRecDepth 100000
/-! abs; error classes apart; more of what is printed. -/
namespace MM
open PySem PySem.Spec PyProof.Rows L2
def dAbs := on1 fun d S => match d with
  | .int i => .ok (.int (if i < 0 then -i else i)) S
  | _ => .no
section
variable {X : Cx}
theorem cd_abs : CallR X (.builtin "abs") (rN X.K dAbs) := by
  intro pins s σ H zs us Q I r h
  replace h := on1_ok h
  obtain ⟨E, x, F, μ, S, d, rfl, W, rq, h⟩ := h
  cases rq with
  | int i => exact call_abs pins s σ H _ us Q I r ⟨i, rfl, h.here W _ (.int _)⟩
  | _ => exact h.elim
end
theorem apart_mk {K : PySem.W.Frag} {mg : Str → Option Value} {c d q : Str} {st : Stmt} {C D B fI cc cda : Addr} (T : ErrF K mg d q st D B fI cc cda) (hc : PySem.W.nsIn K mainGlobals c = some (some (.ref C))) (h : PySem.W.subIn K (.ref C) (.ref D) = some false) : Apart K c d := fun C' D' k1 k2 => by
  rw [hc] at k1
  rw [T.ns] at k2
  cases k1; cases k2
  exact PySem.W.exm_ref T.exC T.hd T.tyC h
theorem hits_ap {K : PySem.W.Frag} {c d : Str} {C D : Addr} {r : Hits} (hc : PySem.W.nsIn K mainGlobals c = some (some (.ref C))) (hd : PySem.W.nsIn K mainGlobals d = some (some (.ref D))) (a : Apart K c d) (t : HitsOk K (.ref D) r) : HitsOk K (.ref D) ((c, false) :: r) := hits_cons hc (a _ _ hc hd) t
/-- the def at place j of a class -/
def clsDef (s : Stmt) (j : Nat) : Stmt := match s with
  | .ClassDef _ _ _ body _ _ _ _ _ _ _ => body.getD j (.Pass ⟨0, 0, 0, 0⟩)
  | _ => .Pass ⟨0, 0, 0, 0⟩
/-- a written text -/
theorem se_gs {X : Cx} {E : WX} {x y : Str} {pos : Pos} (h : ∃ t, X.mg x = some (.str y t)) (hg : Gl X x := by rfl) (hd : (x == ("__debug__" : Str)) = false := by decide) : PE X (.Name x pos) (tE X.K E (mK (.str y))) := by
  obtain ⟨t, h1⟩ := h
  exact se_gl (v := .str y) ⟨_, h1, (show RelV (.str y) (.str y t) from ⟨t, rfl⟩)⟩ (fun _ _ => .str y) hg hd
section
variable {X : Cx} {E : WX} {e : Expr} {m : ME} {x : Str} {ks : List V} {p pos : Pos}
theorem st_inC {neg : Bool} {op : CmpOp} (hop : OpR X (compareOp op) (rIn X.K neg)) (T : TupC X.K X.mg x ks) (hk : ks.all flatV = true) (he : PE X e (tE X.K E m)) (hg : Gl X x := by rfl) (hdb : (x == ("__debug__" : Str)) = false := by decide) (hm : behindInMarks op (.Name x p) = false := by rfl) :
    PT X (.Compare e [op] [.Name x p] pos) (tT X.K E (mBool (m1 (dInC neg ks) m))) := by
  obtain ⟨a, o, its, n, h1, h2, h3, h4, h5, h6⟩ := T
  refine (pt_cmpR hop he (pe_glob (v := .ref a) hg h1 rfl hdb) hm).imp fun τ H Q ⟨F, μ, σ, S, W, hs, h⟩ => ⟨F, μ, σ, S, W, hs, ?_⟩
  have h : Done X.K (WE E τ) H F μ S ((m σ S).bind fun d S1 => (dInC neg ks d S1).bind fun d S2 => match d with | .bl b => .ok b S2 | _ => .no) (fun b _ H' _ _ => Q b H') := by
    have e : mBool (m1 (dInC neg ks) m) σ S = ((m σ S).bind fun d S1 => (dInC neg ks d S1).bind fun d S2 => match d with | .bl b => R.ok b S2 | _ => .no) := by
      unfold mBool m1
      cases m σ S <;> rfl
    rw [← e]; exact h
  refine (Done.split W h).mono fun d S1 H1 F1 μ1 e1 W1 h1' v r => ?_
  unfold dInC at h1'
  cases q : dV d with
  | none => rw [q] at h1'; exact h1'.elim
  | some w =>
    rw [q] at h1'
    obtain ⟨rfl, fl⟩ := dV_ok r q
    exact ⟨a, ks, rfl, .inr (.inr ⟨o, its, n, h2, h3, h4, h5, h6⟩), fl, hk, _, rfl, h1'.here W1⟩
end
end MM

set_option Elab.async false
set_option linter.all false
set_option maxRecDepth 100000
/-! The deck of "cells", "mixed", "turn". -/
namespace MM
open PySem PySem.Spec PyProof.Rows L2
abbrev kC : Key := .inr "cells"
theorem kCM : kC ≠ kM := by decide +kernel
theorem kCT : kC ≠ kT := by decide +kernel
def deckT (cells : List Int) (x t : Int) (T : Store) : Store := .lst (nums cells) :: .dic [(kC, .ref 0), (kM, .int x), (kT, .int t)] :: T
def drawTPop : MS := mSeq (mAsg (mMeth .list dPop (m1 (getD (.inr "cells")) (mVar 0)) mNil) (gN 2)) (mSeq (mIf (mBool (m2 dGe (mVar 2) (m2 dPow (mK (.int 10)) (mK (.int 18))))) (mSeq (mExpr (mMeth .list dAppend (m1 (getD (.inr "cells")) (mVar 0)) (mCons (m2 dDiv (mVar 2) (mN dMax2 (mCons (mK (.int 2)) (mCons (mVar 1) (mNil))))) (mNil)))) (mRet (m2 dMod (mVar 2) (mVar 1)))) (mSkip)) (mPutD (.inr "mixed") (mVar 0) (m2 dMod (m2 (dAdd false) (m2 (dAdd false) (m1 (getD (.inr "mixed")) (mVar 0)) (m2 dMod (mVar 2) (mK (.int 2147483399)))) (mK (.int 1))) (mK (.int 2147483399)))))
def drawTTail (k : Int) : MS := mSeq (mAsg (m2 dMod (m2 (dAdd false) (m2 (dAdd false) (m2 (dMul false) (m1 (getD (.inr "mixed")) (mVar 0)) (mK (.int 48271))) (m2 (dMul false) (m1 (getD (.inr "turn")) (mVar 0)) (mK (.int 7919)))) (mK (.int k))) (mK (.int 2147483647))) (gN 3)) (mSeq (mPutD (.inr "mixed") (mVar 0) (m2 dMod (m2 (dAdd false) (m2 (dMul false) (mVar 3) (mVar 3)) (m1 (getD (.inr "turn")) (mVar 0))) (mK (.int 2147483399)))) (mRet (m2 dMod (m2 dDiv (m1 (getD (.inr "mixed")) (mVar 0)) (mK (.int 97))) (mVar 1))))
def drawTB (k : Int) : MS := mSeq (mPutD (.inr "turn") (mVar 0) (m2 (dAdd false) (m1 (getD (.inr "turn")) (mVar 0)) (mK (.int 1)))) (mSeq (mIf (mBool (m2 dNe (m1 (getD (.inr "cells")) (mVar 0)) (mLst (mNil)))) drawTPop (mSkip)) (drawTTail k))
section
variable {x t b k : Int} {T : Store} {cells : List Int}
theorem valT2 {k : Key} {d e f : D} : valD [(kC, d), (kM, e), (kT, f)] k = if kC = k then some d else if kM = k then some e else if kT = k then some f else none := by
  simp only [valD]
theorem getT_cells : getD (.inr "cells") (.ref 1) (deckT cells x t T) = .ok (.ref 0) (deckT cells x t T) := by
  show (match valD [(kC, D.ref 0), (kM, D.int x), (kT, D.int t)] kC with | some d => R.ok d (deckT cells x t T) | none => R.no) = _
  rw [valT2, if_pos rfl]
theorem getT_mixed : getD (.inr "mixed") (.ref 1) (deckT cells x t T) = .ok (.int x) (deckT cells x t T) := by
  show (match valD [(kC, D.ref 0), (kM, D.int x), (kT, D.int t)] kM with | some d => R.ok d (deckT cells x t T) | none => R.no) = _
  rw [valT2, if_neg kCM, if_pos rfl]
theorem getT_turn : getD (.inr "turn") (.ref 1) (deckT cells x t T) = .ok (.int t) (deckT cells x t T) := by
  show (match valD [(kC, D.ref 0), (kM, D.int x), (kT, D.int t)] kT with | some d => R.ok d (deckT cells x t T) | none => R.no) = _
  rw [valT2, if_neg kCT, if_neg kMT, if_pos rfl]
theorem nodup3T : nodupK [kC, kM, kT] = true := by decide +kernel
theorem putT_turn {r : Sg} {m : ME} {v : Int} (h : m (some (.ref 1) :: r) (deckT cells x t T) = .ok (.int v) (deckT cells x t T)) : mPutD (.inr "turn") (mVar 0) m (some (.ref 1) :: r) (deckT cells x t T) = .nx (some (.ref 1) :: r) (deckT cells x v T) := by
  unfold mPutD
  rw [h]
  simp only [R.toO]
  show (if lim (3 + 1) && nodupK [kC, kM, kT] then O.nx _ ((deckT cells x t T).set 1 (.dic (putD [(kC, .ref 0), (kM, .int x), (kT, .int t)] kT (.int v)))) else .no) = _
  rw [nodup3T, show (lim (3 + 1) && true) = true from rfl, if_pos rfl]
  simp only [putD, if_neg kCT, if_neg kMT, if_pos, if_true]
  rfl
theorem putT_mixed {r : Sg} {m : ME} {v : Int} (h : m (some (.ref 1) :: r) (deckT cells x t T) = .ok (.int v) (deckT cells x t T)) : mPutD (.inr "mixed") (mVar 0) m (some (.ref 1) :: r) (deckT cells x t T) = .nx (some (.ref 1) :: r) (deckT cells v t T) := by
  unfold mPutD
  rw [h]
  simp only [R.toO]
  show (if lim (3 + 1) && nodupK [kC, kM, kT] then O.nx _ ((deckT cells x t T).set 1 (.dic (putD [(kC, .ref 0), (kM, .int x), (kT, .int t)] kM (.int v)))) else .no) = _
  rw [nodup3T, show (lim (3 + 1) && true) = true from rfl, if_pos rfl]
  simp only [putD, if_neg kCM, if_pos, if_true]
  rfl
theorem b64k (k : Int) (h : b64 k = true) {i : Int} : (b64 i || b64 k) = true := by rw [h, Bool.or_true]
theorem drawTTail_ok {o p : Option D} (hb : 0 < b) : ∃ v x', drawTTail k [some (.ref 1), some (.int b), o, p] (deckT cells x t T) = .rt (.int v) (deckT cells x' t T) ∧ 0 ≤ v ∧ v < b := by
  have f1 := fmod_nb (c := x * 48271 + t * 7919 + k) (b := 2147483647) (by decide)
  have bn : b64 ((x * 48271 + t * 7919 + k).fmod 2147483647) = true := b64_of f1.1 (by omega)
  unfold drawTTail
  generalize hn : (x * 48271 + t * 7919 + k).fmod 2147483647 = n at bn
  refine ⟨(((n * n + t).fmod 2147483399).fdiv 97).fmod b, (n * n + t).fmod 2147483399, ?_, (fmod_nb hb).1, (fmod_nb hb).2⟩
  have s1 : (mAsg (m2 dMod (m2 (dAdd false) (m2 (dAdd false) (m2 (dMul false) (m1 (getD (.inr "mixed")) (mVar 0)) (mK (.int 48271))) (m2 (dMul false) (m1 (getD (.inr "turn")) (mVar 0)) (mK (.int 7919)))) (mK (.int k))) (mK (.int 2147483647))) (gN 3)) [some (.ref 1), some (.int b), o, p] (deckT cells x t T) = .nx [some (.ref 1), some (.int b), o, some (.int n)] (deckT cells x t T) := by
    refine mAsg_ok (m2_ok (m2_ok (m2_ok (m2_ok (m1_ok (x := .ref 1) rfl getT_mixed) rfl (mulI_ok (b64k 48271 (by decide +kernel)))) (m2_ok (m1_ok (x := .ref 1) rfl getT_turn) rfl (mulI_ok (b64k 7919 (by decide +kernel)))) addI_ok) rfl addI_ok) rfl (modI_ok (by decide))) ?_
    rw [hn]; rfl
  refine (mSeq_nx s1).trans ?_
  refine (mSeq_nx (putT_mixed (v := (n * n + t).fmod 2147483399) (m2_ok (m2_ok (m2_ok rfl rfl (mulI_ok (b64k _ bn))) (m1_ok (x := .ref 1) rfl getT_turn) addI_ok) rfl (modI_ok (by decide))))).trans ?_
  exact mRet_ok (m2_ok (m2_ok (m1_ok (x := .ref 1) rfl getT_mixed) rfl (divI_ok (by decide) (by decide))) rfl (modI_ok (by omega)))
theorem draw_runT (hb : 0 < b) (hb2 : b < 1073741824) (hl : cells.length ≤ 1000) : ∃ v cells' x', drawTB k [some (.ref 1), some (.int b), none, none] (deckT cells x t T) = .rt (.int v) (deckT cells' x' (t + 1) T) ∧ cells'.length ≤ cells.length ∧ 0 ≤ v ∧ v < b := by
  unfold drawTB
  rw [mSeq_nx (putT_turn (v := t + 1) (m2_ok (x := .int t) (m1_ok (x := .ref 1) rfl getT_turn) rfl rfl))]
  rcases List.eq_nil_or_concat cells with rfl | ⟨cs, c, rfl⟩
  · obtain ⟨v, x', h, v0, v1⟩ := drawTTail_ok (x := x) (t := t + 1) (T := T) (k := k) (cells := []) (o := none) (p := none) hb
    refine ⟨v, [], x', ?_, Nat.le_refl _, v0, v1⟩
    rw [← h]
    refine mSeq_nx ?_
    rw [mIf_f (S' := deckT [] x (t + 1) T) (mBool_ok (m2_ok (m1_ok (x := .ref 1) rfl getT_cells) rfl (by rfl)))]
    rfl
  · rw [List.concat_eq_append] at hl ⊢
    have hlen : cs.length + 1 ≤ 1000 := by simpa using hl
    have e1 : mBool (m2 dNe (m1 (getD (.inr "cells")) (mVar 0)) (mLst (mNil))) [some (.ref 1), some (.int b), none, none] (deckT (cs ++ [c]) x (t + 1) T) = .ok true (deckT (cs ++ [c]) x (t + 1) T) := by
      refine mBool_ok (m2_ok (m1_ok (x := .ref 1) rfl getT_cells) rfl ?_)
      have e2 : eqAll (nums (cs ++ [c])) [] = false := (eqAll_nums (cs ++ [c]) []).trans (decide_eq_false (by simp))
      refine (dNe_ok (d := .lst (nums (cs ++ [c]))) (e := .lst []) rfl rfl (shal_nums 39 _) rfl).trans ?_
      show R.ok (D.bl (!eqAll (nums (cs ++ [c])) [])) _ = _
      rw [e2]; rfl
    have e3 : (mAsg (mMeth .list dPop (m1 (getD (.inr "cells")) (mVar 0)) mNil) (gN 2)) [some (.ref 1), some (.int b), none, none] (deckT (cs ++ [c]) x (t + 1) T) = .nx [some (.ref 1), some (.int b), some (.int c), none] (deckT cs x (t + 1) T) := by
      refine mAsg_ok (S1 := deckT cs x (t + 1) T) (x := .int c) ?_ rfl
      unfold mMeth
      rw [m1_ok (x := .ref 1) rfl getT_cells]
      simp [deckT, isTy, R.bind, mNil, dPop, onCell]
    have e5 : mBool (m2 dGe (mVar 2) (m2 dPow (mK (.int 10)) (mK (.int 18)))) [some (.ref 1), some (.int b), some (.int c), none] (deckT cs x (t + 1) T) = .ok (decide (10 ^ 18 ≤ c)) (deckT cs x (t + 1) T) := by
      simp [mBool, m2, mVar, mK, R.bind, dPow, onII, MM.need, dGe, dCmp]
    have m0 : (if b > 2 then b else 2) ≠ (0 : Int) := by split <;> omega
    have m1' : (if b > 2 then b else 2).natAbs < 1073741824 := by split <;> omega
    by_cases hc : 10 ^ 18 ≤ c
    · refine ⟨c.fmod b, cs ++ [c.fdiv (if b > 2 then b else 2)], x, ?_, by simp, (fmod_nb hb).1, (fmod_nb hb).2⟩
      refine mSeq_rt ?_
      rw [mIf_t e1]
      unfold drawTPop
      refine (mSeq_nx e3).trans (mSeq_rt ?_)
      rw [mIf_t (by rw [e5, decide_eq_true hc])]
      refine (mSeq_nx (σ' := [some (.ref 1), some (.int b), some (.int c), none]) (S' := deckT (cs ++ [c.fdiv (if b > 2 then b else 2)]) x (t + 1) T) (mExpr_ok (x := .non) ?_)).trans (mRet_ok (m2_ok rfl rfl (modI_ok (by omega))))
      unfold mMeth
      rw [m1_ok (x := .ref 1) rfl getT_cells]
      have ea : (mCons (m2 dDiv (mVar 2) (mN dMax2 (mCons (mK (.int 2)) (mCons (mVar 1) (mNil))))) (mNil)) [some (.ref 1), some (.int b), some (.int c), none] (deckT cs x (t + 1) T) = .ok [.int (c.fdiv (if b > 2 then b else 2))] (deckT cs x (t + 1) T) :=
        mCons_ok (m2_ok rfl (mN_ok rfl rfl) (divI_ok m0 m1')) rfl
      simp only [R.bind]
      show (match isTy .list (deckT cs x (t + 1) T) (.ref 0) with | some true => R.bind _ _ | _ => .no) = _
      show R.bind _ _ = _
      rw [ea]
      simp [R.bind, dAppend, onCell, deckT, MM.need, lim, show cs.length + 1 ≤ 1000000 by omega]
    · obtain ⟨v, x', h, v0, v1⟩ := drawTTail_ok (x := (x + c.fmod 2147483399 + 1).fmod 2147483399) (t := t + 1) (T := T) (k := k) (cells := cs) (o := some (.int c)) (p := none) hb
      refine ⟨v, cs, x', ?_, by simp, v0, v1⟩
      rw [← h]
      refine mSeq_nx ?_
      rw [mIf_t e1]
      unfold drawTPop
      refine (mSeq_nx e3).trans ((mSeq_nx (σ' := [some (.ref 1), some (.int b), some (.int c), none]) (S' := deckT cs x (t + 1) T) (by rw [mIf_f (by rw [e5, decide_eq_false hc])]; rfl)).trans ?_)
      exact putT_mixed (m2_ok (m2_ok (m2_ok (m1_ok (x := .ref 1) rfl getT_mixed) (m2_ok rfl rfl (modI_ok (by decide))) addI_ok) rfl addI_ok) rfl (modI_ok (by decide)))
def drawT (k : Int) : List D → Store → R D := mDefQ 2 4 (drawTB k)
theorem draw_okT (hb : 0 < b) (hb2 : b < 1073741824) (hl : cells.length ≤ 1000) : ∃ v cells' x', drawT k [.ref 1, .int b] (deckT cells x t T) = .ok (.int v) (deckT cells' x' (t + 1) T) ∧ cells'.length ≤ cells.length ∧ 0 ≤ v ∧ v < b := by
  obtain ⟨v, cells', x', h, r⟩ := draw_runT (x := x) (t := t) (T := T) (k := k) hb hb2 hl
  exact ⟨v, cells', x', call_plain rfl h, r⟩
/-- a pick of a list or a tuple -/
theorem pick_okT {d : D} {xs : List D} (hd : ∀ S, rdS S d = some xs) (h1 : xs ≠ []) (h2 : xs.length < 1073741824) (hl : cells.length ≤ 1000) : ∃ y cells' x', mDefQ 2 2 (pickB (drawT k)) [.ref 1, d] (deckT cells x t T) = .ok y (deckT cells' x' (t + 1) T) ∧ cells'.length ≤ cells.length ∧ y ∈ xs := by
  have hp : (0 : Int) < xs.length := by
    cases xs with
    | nil => exact absurd rfl h1
    | cons => simp
  obtain ⟨v, cells', x', h, hc, v0, v1⟩ := draw_okT (x := x) (T := T) (t := t) (k := k) hp (by omega) hl
  obtain ⟨y, hy, hm⟩ := getInt v0 v1
  refine ⟨y, cells', x', call_plain rfl ?_, hc, hm⟩
  have el : dLen [d] (deckT cells x t T) = .ok (.int xs.length) (deckT cells x t T) := by
    simp [dLen, orN, lenSeq, on1, hd, R.or]
  refine mRet_ok (m2_ok (x := d) (S1 := deckT cells x t T) rfl (mN_ok (xs := [.ref 1, .int xs.length]) (S1 := deckT cells x t T) (mCons_ok rfl (mCons_ok (mN_ok (xs := [d]) (S1 := deckT cells x t T) rfl el) rfl)) h) ?_)
  simp [dIx, or2, ixSeq, hd, hy, R.or]
end
def deckTB (c0 c3 : Int) : MS := mSeq (mPar 1 2 (mCons (mLc [3] (miSeq (mSl false (mVar 0) mpN (mpS (mK (.int 63))))) (gN 3) (mYes) (mN intI (mCons (mVar 3) (mNil)))) (mCons (mK (.int c0)) (mNil)))) (mSeq (mFor (miSeq (mVar 1)) (gN 3) (mAsg (m2 dMod (m2 (dAdd false) (m2 (dAdd false) (m2 (dMul false) (mVar 2) (mK (.int 40692))) (m2 dMod (mVar 3) (mK (.int 2147483563)))) (mK (.int c3))) (mK (.int 2147483399))) (gN 2))) (mRet (mDict [.inr "cells", .inr "mixed", .inr "turn"] (mCons (m1 (revL true) (mVar 1)) (mCons (mVar 2) (mCons (mK (.int 0)) (mNil)))))))
theorem deck_okT {c0 c3 : Int} {ns : List Int} (hl : ns.length ≤ 1000) : ∃ cells x, mDefQ 1 4 (deckTB c0 c3) [.scr (nums ns)] [] = .ok (.ref 1) (deckT cells x 0 []) ∧ cells.length ≤ ns.length := by
  have hlen := cut_len ns none (some 63)
  let cs := cutD ns none (some 63)
  obtain ⟨x', o', hx⟩ := deck_for (c1 := 40692) (c2 := 2147483563) (c3 := c3) (c4 := 2147483399) (by decide +kernel) (by decide) (by decide) (some (.scr (nums ns))) (some (.lst (nums cs))) [] cs c0 none
  refine ⟨cs.reverse, x', call_plain rfl ?_, by rw [List.length_reverse]; exact hlen⟩
  unfold deckTB
  have e1 : (mPar 1 2 (mCons (mLc [3] (miSeq (mSl false (mVar 0) mpN (mpS (mK (.int 63))))) (gN 3) (mYes) (mN intI (mCons (mVar 3) (mNil)))) (mCons (mK (.int c0)) (mNil)))) [some (.scr (nums ns)), none, none, none] [] = .nx [some (.scr (nums ns)), some (.lst (nums cs)), some (.int c0), none] [] := by
    have e0 : miSeq (mSl false (mVar 0) mpN (mpS (mK (.int 63)))) [some (.scr (nums ns)), none, none, none] [] = .ok (nums cs) [] := by
      simp [miSeq, mSl, mVar, mpN, mpS, mK, R.bind, dSl, slL, newL, R.or, itemsOf, cs, ← cut_nums]
    have e2 : mLc [3] (miSeq (mSl false (mVar 0) mpN (mpS (mK (.int 63))))) (gN 3) (mYes) (mN intI (mCons (mVar 3) (mNil))) [some (.scr (nums ns)), none, none, none] [] = .ok (.lst (nums cs)) [] := by
      unfold mLc mLcF
      rw [e0]
      simp only [R.bind]
      rw [if_pos (by rw [List.length_map]; exact Nat.le_trans hlen (by omega)), ints_lc _ _ (by simp [wipeM])]
      rfl
    simp only [mPar, mCons, mNil, mK]
    rw [e2]
    rfl
  rw [show (List.map some [D.scr (nums ns)] ++ List.replicate (4 - 1) none) = [some (.scr (nums ns)), none, none, none] from rfl, mSeq_nx e1]
  have e3 : (mFor (miSeq (mVar 1)) (gN 3) (mAsg (m2 dMod (m2 (dAdd false) (m2 (dAdd false) (m2 (dMul false) (mVar 2) (mK (.int 40692))) (m2 dMod (mVar 3) (mK (.int 2147483563)))) (mK (.int c3))) (mK (.int 2147483399))) (gN 2))) [some (.scr (nums ns)), some (.lst (nums cs)), some (.int c0), none] [] = .nx [some (.scr (nums ns)), some (.lst (nums cs)), some (.int x'), o'] [] := by
    rw [← hx]
    rfl
  rw [mSeq_nx e3]
  have e4 : nodupK [(.inr "cells" : Key), .inr "mixed", .inr "turn"] = true := nodup3T
  simp [mRet, mDict, mCons, mNil, m1, mVar, mK, revL, rdL, newL, R.bind, R.toO, e4, deckT]
end MM

set_option Elab.async false
set_option linter.all false
set_option maxRecDepth 100000
/-! More tools for laws. -/
namespace MM
open PySem PySem.Spec PyProof.Rows L2
theorem all_at {α : Type} {l : List α} {f : α → Bool} (h : l.all f = true) {a : α} (ha : a ∈ l) : f a = true := List.all_eq_true.mp h a ha
theorem runFor_st {α β : Type} {f : α → D} {g : MG} {b : MS} {st : β → Store} {step : β → α → β} {inv : β → List α → Sg → Prop} : ∀ (as : List α) (x : β) (σ : Sg), inv x as σ → (∀ a as x σ, inv x (a :: as) σ → ∃ σ1 σ2, g (f a) σ (st x) = .ok σ1 (st x) ∧ b σ1 (st x) = .nx σ2 (st (step x a)) ∧ inv (step x a) as σ2) →
    ∃ σ', inv (as.foldl step x) [] σ' ∧ runFor g b (as.map f) σ (st x) = .nx σ' (st (as.foldl step x))
  | [], x, σ, hi, _ => ⟨σ, hi, rfl⟩
  | a :: as, x, σ, hi, h => by
    obtain ⟨σ1, σ2, h1, h2, h3⟩ := h a as x σ hi
    obtain ⟨σ', g1, g2⟩ := runFor_st as (step x a) σ2 h3 h
    exact ⟨σ', g1, (runFor_cons h1 h2).trans g2⟩
theorem runFor_inv {α : Type} {f : α → D} {g : MG} {b : MS} {inv : Sg → Store → Prop} : ∀ (as : List α) (σ : Sg) (S : Store), inv σ S → (∀ a ∈ as, ∀ σ S, inv σ S → ∃ σ1 σ2 S2, g (f a) σ S = .ok σ1 S ∧ b σ1 S = .nx σ2 S2 ∧ inv σ2 S2) → ∃ σ' S', inv σ' S' ∧ runFor g b (as.map f) σ S = .nx σ' S'
  | [], σ, S, hi, _ => ⟨σ, S, hi, rfl⟩
  | a :: as, σ, S, hi, h => by
    obtain ⟨σ1, σ2, S2, h1, h2, h3⟩ := h a List.mem_cons_self σ S hi
    obtain ⟨σ', S', g1, g2⟩ := runFor_inv as σ2 S2 h3 fun c hc => h c (List.mem_cons_of_mem _ hc)
    exact ⟨σ', S', g1, (runFor_cons h1 h2).trans g2⟩
/-- a comprehension whose items change the store -/
theorem runLc_inv {α β : Type} {f : α → D} {r : β → D} {g : MG} {me : ME} {σ0 : Sg} {inv : Store → Prop} {ok : β → Prop} : ∀ (as : List α) (S : Store), inv S → (∀ a ∈ as, ∀ S, inv S → ∃ σ1 S2 b, g (f a) σ0 S = .ok σ1 S ∧ me σ1 S = .ok (r b) S2 ∧ ok b ∧ inv S2) → ∃ (bs : List β) (S' : Store), inv S' ∧ (∀ b ∈ bs, ok b) ∧ bs.length = as.length ∧ runLc σ0 g mYes me (as.map f) S = .ok (bs.map r) S'
  | [], S, hi, _ => ⟨[], S, hi, (fun _ h => nomatch h), rfl, rfl⟩
  | a :: as, S, hi, h => by
    obtain ⟨σ1, S2, b, h1, h2, h3, h4⟩ := h a List.mem_cons_self S hi
    obtain ⟨bs, S', g1, g2, g3, g4⟩ := runLc_inv as S2 h4 fun c hc => h c (List.mem_cons_of_mem _ hc)
    refine ⟨b :: bs, S', g1, fun c hc => ?_, by rw [List.length_cons, List.length_cons, g3], runLc_cons h1 rfl h2 g4⟩
    rcases List.mem_cons.mp hc with rfl | hc
    · exact h3
    · exact g2 c hc
section
variable {a b : ME} {c d : MT} {σ : Sg} {S S1 S2 : Store} {x y : Bool} {z w : D}
theorem mAnd_ok (h1 : a σ S = .ok (.bl x) S) (h2 : x = true → b σ S = .ok (.bl y) S) : mAnd a b σ S = .ok (.bl (x && y)) S := by
  unfold mAnd
  rw [h1]
  cases x with
  | true => exact (h2 rfl)
  | false => rfl
theorem mOr_ok (h1 : a σ S = .ok (.bl x) S) (h2 : x = false → b σ S = .ok (.bl y) S) : mOr a b σ S = .ok (.bl (x || y)) S := by
  unfold mOr
  rw [h1]
  cases x with
  | true => rfl
  | false => exact (h2 rfl)
theorem mNot_ok (h : a σ S = .ok (.bl x) S1) : mNot a σ S = .ok (.bl (!x)) S1 := by unfold mNot; rw [h]; rfl
theorem mNotT_ok (h : c σ S = .ok x S1) : mNotT c σ S = .ok (!x) S1 := by unfold mNotT; rw [h]; rfl
theorem mAndT_ok (h1 : c σ S = .ok x S) (h2 : x = true → d σ S = .ok y S) : mAndT c d σ S = .ok (x && y) S := by
  unfold mAndT
  rw [h1]
  cases x with
  | true => exact (h2 rfl)
  | false => rfl
theorem mOrT_ok (h1 : c σ S = .ok x S) (h2 : x = false → d σ S = .ok y S) : mOrT c d σ S = .ok (x || y) S := by
  unfold mOrT
  rw [h1]
  cases x with
  | true => rfl
  | false => exact (h2 rfl)
theorem mIfE_ok (h : c σ S = .ok x S1) (h1 : x = true → a σ S1 = .ok z S2) (h2 : x = false → b σ S1 = .ok z S2) : mIfE c a b σ S = .ok z S2 := by
  unfold mIfE
  rw [h]
  cases x with
  | true => exact h1 rfl
  | false => exact h2 rfl
theorem mPar_ok {i j : Nat} {as : MA} (h : as σ S = .ok [z, w] S1) : mPar i j as σ S = .nx ((σ.set i (some z)).set j (some w)) S1 := by unfold mPar; rw [h]; rfl
theorem mIf_ft {p q : MS} (h : c σ S = .ok false S1) {o : O} (h2 : q σ S1 = o) : mIf c p q σ S = o := (mIf_f h).trans h2
theorem mIf_tt {p q : MS} (h : c σ S = .ok true S1) {o : O} (h2 : p σ S1 = o) : mIf c p q σ S = o := (mIf_t h).trans h2
/-- a test that does not hold, nothing else -/
theorem mIf_no {p : MS} (h : c σ S = .ok false S1) : mIf c p mSkip σ S = .nx σ S1 := (mIf_f h).trans rfl
theorem mLst_ok {as : MA} {xs : List D} (h : as σ S = .ok xs S1) (hz : xs.length ≤ 1000000) : mLst as σ S = .ok (.lst xs) S1 := by unfold mLst; rw [h]; exact if_pos hz
theorem tup_lst {xs : List D} : tupL [.lst xs] S = .ok (.tup xs) S := rfl
theorem tup_ref {l : Nat} {xs : List D} (h : S[l]? = some (.lst xs)) : tupL [.ref l] S = .ok (.tup xs) S := by
  show (match rdL S (.ref l) with | some xs => R.ok (D.tup xs) S | none => .no) = _
  have e : rdL S (.ref l) = some xs := by show (match S[l]? with | some (.lst xs) => some xs | some (.fz xs) => some xs | _ => none) = _; rw [h]
  rw [e]
theorem or2_l {f g : D → D → Store → R D} {p q e : D} (h : f p q S = .ok e S1) : or2 f g p q S = .ok e S1 := by unfold or2; rw [h]; rfl
theorem or2_r {f g : D → D → Store → R D} {p q : D} {r : R D} (h1 : f p q S = .no) (h : g p q S = r) : or2 f g p q S = r := by unfold or2; rw [h1]; exact h
end
theorem beq_int {a b : Nat} : ((a : Int) == (b : Int)) = Nat.beq a b := by
  by_cases h : a = b
  · subst h; rw [Nat.beq_refl]; simp
  · rw [beq_eq_false_iff_ne.mpr (fun z => h (by omega))]
    cases z : Nat.beq a b with
    | true => exact (h (Nat.eq_of_beq_eq_true z)).elim
    | false => rfl
theorem eq_int {S : Store} {i j : Int} : dEq (.int i) (.int j) S = .ok (.bl (i == j)) S := rfl
theorem ne_int {S : Store} {i j : Int} : dNe (.int i) (.int j) S = .ok (.bl (!(i == j))) S := rfl
theorem runFor_nx {α : Type} {f : α → D} {g : MG} {b : MS} {S : Store} {inv : Sg → Prop} : ∀ (as : List α) (σ : Sg), inv σ → (∀ a ∈ as, ∀ σ, inv σ → ∃ σ1 σ2, g (f a) σ S = .ok σ1 S ∧ b σ1 S = .nx σ2 S ∧ inv σ2) → ∃ σ', inv σ' ∧ runFor g b (as.map f) σ S = .nx σ' S
  | [], σ, hi, _ => ⟨σ, hi, rfl⟩
  | a :: as, σ, hi, h => by
    obtain ⟨σ1, σ2, h1, h2, h3⟩ := h a List.mem_cons_self σ hi
    obtain ⟨σ', g1, g2⟩ := runFor_nx as σ2 h3 fun c hc => h c (List.mem_cons_of_mem _ hc)
    exact ⟨σ', g1, (runFor_cons h1 h2).trans g2⟩
/-! ### own instances -/
section
variable {c : Str} {mi : List D → Store → R D} {ds : List D} {S S1 : Store} {fs : List (Str × D)}
theorem make_ok (hp : pureAll ds = true) (h : mi (.ref 0 :: ds) [.ob c []] = .ok .non [.ob c fs]) (hf : pureAll (fs.map (·.2)) = true) : mMake c mi ds S = .ok (.obj c (fs.map (·.1)) (fs.map (·.2))) S := by
  unfold mMake
  rw [if_pos hp, h]
  show (match (D.ref 0).out [.ob c fs] with | some e => R.ok e S | none => .no) = _
  have : (D.ref 0).out [.ob c fs] = some (.obj c (fs.map (·.1)) (fs.map (·.2))) := by
    show (if pureAll (fs.map (·.2)) then some (D.obj c (fs.map (·.1)) (fs.map (·.2))) else none) = _
    rw [if_pos hf]
  rw [this]
end
theorem repr_okB {S : Store} {d : D} {k : Nat} (hr : rd S d = some d) (hs : isSeq d = true) (h4 : d.shal 40 = true) (ht : Tells k d) (hk : k ≤ 1000000) : dReprB [d] S = .ok (.str d.pd.shown) S := by
  unfold dReprB orN
  rw [repr_ok hr hs h4 ht hk]; rfl
end MM

set_option Elab.async false
set_option linter.all false
set_option maxRecDepth 100000
set_option maxHeartbeats 4000000
/-! Mirrors and rule terms, printed by gen.py. -/
namespace LW
open PySem PySem.Spec PyProof.Rows L2 MM
def top (i : Nat) : Stmt := PySem.Challenge.pw_twocompanies_k08_boards_turned_and_joine.main.body.getD i (.Pass ⟨0, 0, 0, 0⟩)
/-! the mirrors -/
/-- Board.__eq__: 0 self, 1 other -/
def b_Board_eq : MS := mRet (mAnd (m1 (dIsiC ["Board"] "Board") (mVar 1)) (mAnd (m2 dEq (m1 (dAttr ["Board"] "size") (mVar 0)) (m1 (dAttr ["Board"] "size") (mVar 1))) (m2 dEq (m1 (dAttr ["Board"] "pieces") (mVar 0)) (m1 (dAttr ["Board"] "pieces") (mVar 1)))))
def m_Board_eq : List D → Store → R D := pureF (mDefQ 2 2 b_Board_eq)
/-- Board.__len__: 0 self -/
def b_Board_len : MS := mRet (mN dLen (mCons (m1 (dAttr ["Board"] "pieces") (mVar 0)) (mNil)))
def m_Board_len : List D → Store → R D := pureF (mDefQ 1 1 b_Board_len)
/-- _law_deck: 0 _law_script, 1 _law_cells, 2 _law_mixed, 3 _law_cell -/
def b_w_deck : MS := mSeq (mPar 1 2 (mCons (mLc [3] (miSeq (mSl false (mVar 0) mpN (mpS (mK (.int 63))))) (gN 3) (mYes) (mN intI (mCons (mVar 3) (mNil)))) (mCons (mK (.int 1087508)) (mNil)))) (mSeq (mFor (miSeq (mVar 1)) (gN 3) (mAsg (m2 dMod (m2 (dAdd false) (m2 (dAdd false) (m2 (dMul false) (mVar 2) (mK (.int 40692))) (m2 dMod (mVar 3) (mK (.int 2147483563)))) (mK (.int 39))) (mK (.int 2147483399))) (gN 2))) (mRet (mDict [.inr "cells", .inr "mixed", .inr "turn"] (mCons (m1 (revL true) (mVar 1)) (mCons (mVar 2) (mCons (mK (.int 0)) (mNil)))))))
def m_w_deck : List D → Store → R D := (mDefQ 1 4 b_w_deck)
/-- is_whole: 0 thing -/
def b_is_whole : MS := mRet (mAnd (m1 (dIsiT ["Board"] .int) (mVar 0)) (mNot (m1 (dIsiT ["Board"] .bool) (mVar 0))))
def m_is_whole : List D → Store → R D := pureF (mDefQ 1 1 b_is_whole)
/-- is_size: 0 thing, 1 most -/
def b_is_size : MS := mRet (mAnd (mN m_is_whole (mCons (mVar 0) (mNil))) (mCh (mK (.int 1)) (mcC dLe (mVar 0) (mcL dLe (mVar 1)))))
def m_is_size : List D → Store → R D := pureF (mDefQ 2 2 b_is_size)
/-- is_place: 0 size, 1 thing -/
def b_is_place : MS := mRet (mAnd (mN m_is_whole (mCons (mVar 1) (mNil))) (mCh (mK (.int 0)) (mcC dLe (mVar 1) (mcL dLt (mVar 0)))))
def m_is_place : List D → Store → R D := pureF (mDefQ 2 2 b_is_place)
/-- is_letter: 0 thing, 1 sign -/
def b_is_letter : MS := mRet (mAnd (m1 (dIsiT ["Board"] .str) (mVar 0)) (mAnd (mCh (mK (.int 1)) (mcC dLe (mN dLen (mCons (mVar 0) (mNil))) (mcL dLe (mK (.int 8))))) (mN allB (mCons (mLc [1] (miSeq (mVar 0)) (gN 1) (mYes) (m2 (dIn false) (mVar 1) (mK (.str "abcdefghijklmnopqrstuvwxyz")))) (mNil)))))
def m_is_letter : List D → Store → R D := pureF (mDefQ 1 2 b_is_letter)
/-- is_number: 0 thing -/
def b_is_number : MS := mRet (mAnd (m1 (dIsiT ["Board"] .tuple) (mVar 0)) (mAnd (m2 dEq (mN dLen (mCons (mVar 0) (mNil))) (mK (.int 2))) (mAnd (mN m_is_whole (mCons (m2 dIx (mVar 0) (mK (.int 0))) (mNil))) (mAnd (mN m_is_whole (mCons (m2 dIx (mVar 0) (mK (.int 1))) (mNil))) (m2 dGt (m2 dIx (mVar 0) (mK (.int 1))) (mK (.int 0)))))))
def m_is_number : List D → Store → R D := pureF (mDefQ 1 1 b_is_number)
/-- is_weight: 0 thing -/
def b_is_weight : MS := mRet (mOr (mN m_is_letter (mCons (mVar 0) (mNil))) (mAnd (mN m_is_number (mCons (mVar 0) (mNil))) (m2 dGe (m2 dIx (mVar 0) (mK (.int 0))) (mK (.int 0)))))
def m_is_weight : List D → Store → R D := pureF (mDefQ 1 1 b_is_weight)
/-- is_piece: 0 size, 1 thing -/
def b_is_piece : MS := mSeq (mIf (mOrT (mNotT (mBool (m1 (dIsiT ["Board"] .tuple) (mVar 1)))) (mOrT (mBool (m2 dLt (mN dLen (mCons (mVar 1) (mNil))) (mK (.int 2)))) (mNotT (mBool (m1 (dIsiT ["Board"] .str) (m2 dIx (mVar 1) (mK (.int 0)))))))) (mRet (mK (.bl false))) (mSkip)) (mSeq (mIf (mBool (m2 dEq (m2 dIx (mVar 1) (mK (.int 0))) (mK (.str "meet")))) (mRet (mAnd (m2 dEq (mN dLen (mCons (mVar 1) (mNil))) (mK (.int 2))) (mN m_is_place (mCons (m2 dSub (mVar 0) (mK (.int 1))) (mCons (m2 dIx (mVar 1) (mK (.int 1))) (mNil)))))) (mSkip)) (mSeq (mIf (mOrT (mBool (m2 dNe (mN dLen (mCons (mVar 1) (mNil))) (mK (.int 3)))) (mNotT (mBool (mN m_is_weight (mCons (m2 dIx (mVar 1) (mK (.int 2))) (mNil)))))) (mRet (mK (.bl false))) (mSkip)) (mSeq (mIf (mBool (m1 (dInC false [V.str "down", V.str "up"]) (m2 dIx (mVar 1) (mK (.int 0))))) (mRet (mN m_is_place (mCons (m2 dSub (mVar 0) (mK (.int 1))) (mCons (m2 dIx (mVar 1) (mK (.int 1))) (mNil))))) (mSkip)) (mRet (mAnd (m2 dEq (m2 dIx (mVar 1) (mK (.int 0))) (mK (.str "pass"))) (mN m_is_place (mCons (mVar 0) (mCons (m2 dIx (mVar 1) (mK (.int 1))) (mNil)))))))))
def m_is_piece : List D → Store → R D := pureF (mDefQ 2 2 b_is_piece)
/-- common: 0 one, 1 other -/
def b_common : MS := mSeq (runWhile (mBool (m2 dNe (mVar 1) (mK (.int 0)))) (mPar 0 1 (mCons (mVar 1) (mCons (m2 dMod (mVar 0) (mVar 1)) (mNil)))) 30) (mRet (mVar 0))
def m_common : List D → Store → R D := pureF (mDefQ 2 2 b_common)
/-- lowest: 0 number, 1 top, 2 bottom, 3 by -/
def b_lowest : MS := mSeq (mAsg (mVar 0) (gT 2 (gsCons (gN 1) (gsCons (gN 2) (gsNil))))) (mSeq (mAsg (mN m_common (mCons (mN dAbs (mCons (mVar 1) (mNil))) (mCons (mVar 2) (mNil)))) (gN 3)) (mRet (mTup (mCons (m2 dDiv (mVar 1) (mVar 3)) (mCons (m2 dDiv (mVar 2) (mVar 3)) (mNil))))))
def m_lowest : List D → Store → R D := pureF (mDefQ 1 4 b_lowest)
/-- kept_weight: 0 weight -/
def b_kept_weight : MS := mRet (mIfE (mBool (m1 (dIsiT ["Board"] .str) (mVar 0))) (mVar 0) (mN m_lowest (mCons (mVar 0) (mNil))))
def m_kept_weight : List D → Store → R D := pureF (mDefQ 1 1 b_kept_weight)
/-- kept_piece: 0 piece -/
def b_kept_piece : MS := mRet (mIfE (mBool (m2 dEq (m2 dIx (mVar 0) (mK (.int 0))) (mK (.str "meet")))) (mVar 0) (mTup (mCons (m2 dIx (mVar 0) (mK (.int 0))) (mCons (m2 dIx (mVar 0) (mK (.int 1))) (mCons (mN m_kept_weight (mCons (m2 dIx (mVar 0) (mK (.int 2))) (mNil))) (mNil))))))
def m_kept_piece : List D → Store → R D := pureF (mDefQ 1 1 b_kept_piece)
/-- Board.__init__: 0 self, 1 size, 2 pieces, 3 number, 4 piece -/
def b_Board_init : MS := mSeq (mIf (mNotT (mBool (mN m_is_size (mCons (mVar 1) (mCons (mK (.int 9)) (mNil)))))) (mNo) (mSkip)) (mSeq (mIf (mNotT (mBool (m1 (dIsiT ["Board"] .tuple) (mVar 2)))) (mNo) (mSkip)) (mSeq (mFor (miEnumB (mCons (mVar 2) (mNil))) (gT 2 (gsCons (gN 3) (gsCons (gN 4) (gsNil)))) (mIf (mNotT (mBool (mN m_is_piece (mCons (mVar 1) (mCons (mVar 4) (mNil)))))) (mNo) (mSkip))) (mSeq (mSetA ["Board"] "size" (mVar 0) (mVar 1)) (mSetA ["Board"] "pieces" (mVar 0) (mN tupL (mCons (mLc [4] (miSeq (mVar 2)) (gN 4) (mYes) (mN m_kept_piece (mCons (mVar 4) (mNil)))) (mNil)))))))
def m_Board_init : List D → Store → R D := (mDefQ 3 5 b_Board_init)
/-- straight: 0 size -/
def b_straight : MS := mSeq (mIf (mNotT (mBool (mN m_is_size (mCons (mVar 0) (mCons (mK (.int 9)) (mNil)))))) (mRaise1 "BadSize" "thing" (mCons (mVar 0) (mNil))) (mSkip)) (mRet (mN (mMake "Board" m_Board_init) (mCons (mVar 0) (mCons (mTup (mNil)) (mNil)))))
def m_straight : List D → Store → R D := pureF (mDef 1 1 b_straight)
/-- _law_draw: 0 _law_deck_here, 1 _law_limit, 2 _law_cell, 3 _law_mixed -/
def b_w_draw : MS := mSeq (mPutD (.inr "turn") (mVar 0) (m2 (dAdd false) (m1 (getD (.inr "turn")) (mVar 0)) (mK (.int 1)))) (mSeq (mIf (mBool (m2 dNe (m1 (getD (.inr "cells")) (mVar 0)) (mLst (mNil)))) (mSeq (mAsg (mMeth .list dPop (m1 (getD (.inr "cells")) (mVar 0)) mNil) (gN 2)) (mSeq (mIf (mBool (m2 dGe (mVar 2) (m2 dPow (mK (.int 10)) (mK (.int 18))))) (mSeq (mExpr (mMeth .list dAppend (m1 (getD (.inr "cells")) (mVar 0)) (mCons (m2 dDiv (mVar 2) (mN dMax2 (mCons (mK (.int 2)) (mCons (mVar 1) (mNil))))) (mNil)))) (mRet (m2 dMod (mVar 2) (mVar 1)))) (mSkip)) (mPutD (.inr "mixed") (mVar 0) (m2 dMod (m2 (dAdd false) (m2 (dAdd false) (m1 (getD (.inr "mixed")) (mVar 0)) (m2 dMod (mVar 2) (mK (.int 2147483399)))) (mK (.int 1))) (mK (.int 2147483399)))))) (mSkip)) (mSeq (mAsg (m2 dMod (m2 (dAdd false) (m2 (dAdd false) (m2 (dMul false) (m1 (getD (.inr "mixed")) (mVar 0)) (mK (.int 48271))) (m2 (dMul false) (m1 (getD (.inr "turn")) (mVar 0)) (mK (.int 7919)))) (mK (.int 13))) (mK (.int 2147483647))) (gN 3)) (mSeq (mPutD (.inr "mixed") (mVar 0) (m2 dMod (m2 (dAdd false) (m2 (dMul false) (mVar 3) (mVar 3)) (m1 (getD (.inr "turn")) (mVar 0))) (mK (.int 2147483399)))) (mRet (m2 dMod (m2 dDiv (m1 (getD (.inr "mixed")) (mVar 0)) (mK (.int 97))) (mVar 1))))))
def m_w_draw : List D → Store → R D := (mDefQ 2 4 b_w_draw)
/-- _law_pick: 0 _law_deck_here, 1 _law_some -/
def b_w_pick : MS := mRet (m2 dIx (mVar 1) (mN m_w_draw (mCons (mVar 0) (mCons (mN dLen (mCons (mVar 1) (mNil))) (mNil)))))
def m_w_pick : List D → Store → R D := (mDefQ 2 2 b_w_pick)
/-- behind: 0 one, 1 other -/
def b_behind : MS := mSeq (mIf (mBool (m2 dNe (m1 (dAttr ["Board"] "size") (mVar 0)) (m1 (dAttr ["Board"] "size") (mVar 1)))) (mRaise0 "OtherSizes") (mSkip)) (mRet (mN (mMake "Board" m_Board_init) (mCons (m1 (dAttr ["Board"] "size") (mVar 0)) (mCons (m2 (dAdd false) (m1 (dAttr ["Board"] "pieces") (mVar 0)) (m1 (dAttr ["Board"] "pieces") (mVar 1))) (mNil)))))
def m_behind : List D → Store → R D := pureF (mDef 2 2 b_behind)
/-- moved: 0 piece, 1 by -/
def b_moved : MS := mRet (m2 (dAdd false) (mTup (mCons (m2 dIx (mVar 0) (mK (.int 0))) (mCons (m2 (dAdd false) (m2 dIx (mVar 0) (mK (.int 1))) (mVar 1)) (mNil)))) (mSl false (mVar 0) (mpS (mK (.int 2))) mpN))
def m_moved : List D → Store → R D := pureF (mDefQ 2 2 b_moved)
/-- below: 0 one, 1 other, 2 size, 3 piece -/
def b_below : MS := mSeq (mAsg (m2 (dAdd false) (m1 (dAttr ["Board"] "size") (mVar 0)) (m1 (dAttr ["Board"] "size") (mVar 1))) (gN 2)) (mSeq (mIf (mBool (m2 dGt (mVar 2) (mK (.int 9)))) (mRaise1 "BadSize" "thing" (mCons (mVar 2) (mNil))) (mSkip)) (mRet (mN (mMake "Board" m_Board_init) (mCons (mVar 2) (mCons (m2 (dAdd false) (m1 (dAttr ["Board"] "pieces") (mVar 0)) (mN tupL (mCons (mLc [3] (miSeq (m1 (dAttr ["Board"] "pieces") (mVar 1))) (gN 3) (mYes) (mN m_moved (mCons (mVar 3) (mCons (m1 (dAttr ["Board"] "size") (mVar 0)) (mNil))))) (mNil)))) (mNil))))))
def m_below : List D → Store → R D := pureF (mDef 2 4 b_below)
/-- _law_refused: 0 _law_way, 1 _law_one, 2 _law_other, 3 _law_told, 4 e -/
def b_w_refused : MS := mTryM [(4, [("OtherSizes", true), ("BadSize", false)], fun er => mRet (mTup (mCons (mK (.str "sizes")) (mCons (mK (.bl true)) (mNil))))), (4, [("OtherSizes", false), ("BadSize", true)], fun er => mRet (mTup (mCons (mK (.str "size")) (mCons (mFld er "thing") (mCons (mK (.bl true)) (mNil))))))] (mSeq (mIf (mBool (m2 dEq (mVar 0) (mK (.int 0)))) (mAsg (mN m_behind (mCons (mVar 1) (mCons (mVar 2) (mNil)))) (gN 3)) (mIf (mBool (m2 dEq (mVar 0) (mK (.int 1)))) (mAsg (mN m_below (mCons (mVar 1) (mCons (mVar 2) (mNil)))) (gN 3)) (mIf (mBool (m2 dEq (mVar 0) (mK (.int 2)))) (mAsg (mN m_straight (mCons (mVar 1) (mNil))) (gN 3)) (mIf (mBool (m2 dEq (mVar 0) (mK (.int 3)))) (mAsg (mNK 0 2 m_behind (pk [1, 0]) mNil (mCons (mVar 2) (mCons (mVar 1) (mNil)))) (gN 3)) (mIf (mBool (m2 dEq (mVar 0) (mK (.int 4)))) (mAsg (mNK 0 2 m_below (pk [1, 0]) mNil (mCons (mVar 2) (mCons (mVar 1) (mNil)))) (gN 3)) (mAsg (mNK 0 1 m_straight (pk [0]) mNil (mCons (mVar 1) (mNil))) (gN 3))))))) (mRet (mTup (mCons (mK (.str "board")) (mCons (m1 (dAttr ["Board"] "size") (mVar 3)) (mCons (m1 (dAttr ["Board"] "pieces") (mVar 3)) (mCons (m1 (dIsiC ["Board"] "Board") (mVar 3)) (mNil))))))))
def m_w_refused : List D → Store → R D := pureF (mDefQ 3 5 b_w_refused)
/-- _law_piece: 0 _law_deck_here, 1 _law_size, 2 _law_word, 3 _law_k, 4 _law_some -/
def b_w_piece : MS := mSeq (mAsg (mIfE (mBool (m2 dGt (mVar 1) (mK (.int 1)))) (mN m_w_pick (mCons (mVar 0) (mCons (mLst (mCons (mK (.str "down")) (mCons (mK (.str "up")) (mCons (mK (.str "pass")) (mCons (mK (.str "meet")) (mNil)))))) (mNil)))) (mK (.str "pass"))) (gN 2)) (mSeq (mAsg (mN m_w_draw (mCons (mVar 0) (mCons (mIfE (mBool (m2 dEq (mVar 2) (mK (.str "pass")))) (mVar 1) (m2 dSub (mVar 1) (mK (.int 1)))) (mNil)))) (gN 3)) (mSeq (mAsg (mLst (mCons (mK (.str "a")) (mCons (mK (.str "zz")) (mCons (mK (.str "abcdefgh")) (mCons (mTup (mCons (mK (.int 1)) (mCons (mK (.int 1)) (mNil)))) (mCons (mTup (mCons (mK (.int 0)) (mCons (mK (.int 1)) (mNil)))) (mCons (mTup (mCons (mK (.int 1)) (mCons (mK (.int 2)) (mNil)))) (mCons (mTup (mCons (mK (.int 2)) (mCons (mK (.int 1)) (mNil)))) (mCons (mTup (mCons (mK (.int 999999)) (mCons (mK (.int 1)) (mNil)))) (mCons (mTup (mCons (mK (.int 8)) (mCons (mK (.int 999999)) (mNil)))) (mNil))))))))))) (gN 4)) (mRet (mIfE (mBool (m2 dEq (mVar 2) (mK (.str "meet")))) (mTup (mCons (mVar 2) (mCons (mVar 3) (mNil)))) (mTup (mCons (mVar 2) (mCons (mVar 3) (mCons (mN m_w_pick (mCons (mVar 0) (mCons (mVar 4) (mNil)))) (mNil)))))))))
def m_w_piece : List D → Store → R D := (mDefQ 2 5 b_w_piece)
/-- _law_pieces: 0 _law_deck_here, 1 _law_size, 2 _law_turn -/
def b_w_pieces : MS := mRet (mN tupL (mCons (mLc [2] (miRng1 (mCons (mN m_w_pick (mCons (mVar 0) (mCons (mLst (mCons (mK (.int 2)) (mCons (mK (.int 3)) (mCons (mK (.int 1)) (mCons (mK (.int 0)) (mCons (mK (.int 4)) (mCons (mK (.int 30)) (mCons (mK (.int 7)) (mNil))))))))) (mNil)))) (mNil))) (gN 2) (mYes) (mN m_w_piece (mCons (mVar 0) (mCons (mVar 1) (mNil))))) (mNil)))
def m_w_pieces : List D → Store → R D := (mDefQ 2 3 b_w_pieces)
/-- _law_lifted: 0 _law_pieces_here, 1 _law_size, 2 _law_piece_here -/
def b_w_lifted : MS := mRet (mN tupL (mCons (mLc [2] (miSeq (mVar 0)) (gN 2) (mYes) (m2 (dAdd false) (mTup (mCons (m2 dIx (mVar 2) (mK (.int 0))) (mCons (m2 (dAdd false) (m2 dIx (mVar 2) (mK (.int 1))) (mVar 1)) (mNil)))) (mSl false (mVar 2) (mpS (mK (.int 2))) mpN))) (mNil)))
def m_w_lifted : List D → Store → R D := pureF (mDefQ 2 3 b_w_lifted)
/-- _law_are_joined_right: 0 _law_sizes, 1 _law_rows, 2 _law_one, 3 _law_other, 4 _law_due -/
def b_w_are_joined_right : MS := mSeq (mAsg (mIfE (mBool (m2 dEq (m2 dIx (mVar 0) (mK (.int 0))) (m2 dIx (mVar 0) (mK (.int 1))))) (mTup (mCons (mK (.str "board")) (mCons (m2 dIx (mVar 0) (mK (.int 0))) (mCons (m2 (dAdd false) (m2 dIx (mVar 1) (mK (.int 0))) (m2 dIx (mVar 1) (mK (.int 1)))) (mCons (mK (.bl true)) (mNil)))))) (mTup (mCons (mK (.str "sizes")) (mCons (mK (.bl true)) (mNil))))) (gN 4)) (mSeq (mIf (mBool (m2 dNe (mN dReprB (mCons (mLst (mCons (mN m_w_refused (mCons (mK (.int 0)) (mCons (mVar 2) (mCons (mVar 3) (mNil))))) (mCons (mN m_w_refused (mCons (mK (.int 3)) (mCons (mVar 2) (mCons (mVar 3) (mNil))))) (mNil)))) (mNil))) (mN dReprB (mCons (mLst (mCons (mVar 4) (mCons (mVar 4) (mNil)))) (mNil))))) (mRet (mK (.bl false))) (mSkip)) (mSeq (mAsg (mTup (mCons (mK (.str "board")) (mCons (m2 (dAdd false) (m2 dIx (mVar 0) (mK (.int 0))) (m2 dIx (mVar 0) (mK (.int 1)))) (mCons (m2 (dAdd false) (m2 dIx (mVar 1) (mK (.int 0))) (mN m_w_lifted (mCons (m2 dIx (mVar 1) (mK (.int 1))) (mCons (m2 dIx (mVar 0) (mK (.int 0))) (mNil))))) (mCons (mK (.bl true)) (mNil)))))) (gN 4)) (mSeq (mIf (mBool (m2 dGt (m2 (dAdd false) (m2 dIx (mVar 0) (mK (.int 0))) (m2 dIx (mVar 0) (mK (.int 1)))) (mK (.int 9)))) (mAsg (mTup (mCons (mK (.str "size")) (mCons (m2 (dAdd false) (m2 dIx (mVar 0) (mK (.int 0))) (m2 dIx (mVar 0) (mK (.int 1)))) (mCons (mK (.bl true)) (mNil))))) (gN 4)) (mSkip)) (mRet (m2 dEq (mN dReprB (mCons (mLst (mCons (mN m_w_refused (mCons (mK (.int 1)) (mCons (mVar 2) (mCons (mVar 3) (mNil))))) (mCons (mN m_w_refused (mCons (mK (.int 4)) (mCons (mVar 2) (mCons (mVar 3) (mNil))))) (mNil)))) (mNil))) (mN dReprB (mCons (mLst (mCons (mVar 4) (mCons (mVar 4) (mNil)))) (mNil))))))))
def m_w_are_joined_right : List D → Store → R D := pureF (mDefQ 4 5 b_w_are_joined_right)
/-- turned_word: 0 word -/
def b_turned_word : MS := mSeq (mIf (mBool (m2 dEq (mVar 0) (mK (.str "down")))) (mRet (mK (.str "up"))) (mSkip)) (mRet (mIfE (mBool (m2 dEq (mVar 0) (mK (.str "up")))) (mK (.str "down")) (mVar 0)))
def m_turned_word : List D → Store → R D := pureF (mDefQ 1 1 b_turned_word)
/-- backwards: 0 board, 1 piece -/
def b_backwards : MS := mRet (mN (mMake "Board" m_Board_init) (mCons (m1 (dAttr ["Board"] "size") (mVar 0)) (mCons (mN tupL (mCons (mLc [1] (miSeq (m1 (or1 (revL false) revT) (m1 (dAttr ["Board"] "pieces") (mVar 0)))) (gN 1) (mYes) (m2 (dAdd false) (mTup (mCons (mN m_turned_word (mCons (m2 dIx (mVar 1) (mK (.int 0))) (mNil))) (mNil))) (mSl false (mVar 1) (mpS (mK (.int 1))) mpN))) (mNil))) (mNil))))
def m_backwards : List D → Store → R D := pureF (mDefQ 1 2 b_backwards)
/-- mirrored: 0 size, 1 piece, 2 last -/
def b_mirrored : MS := mSeq (mAsg (mIfE (mBool (m2 dEq (m2 dIx (mVar 1) (mK (.int 0))) (mK (.str "pass")))) (m2 dSub (mVar 0) (mK (.int 1))) (m2 dSub (mVar 0) (mK (.int 2)))) (gN 2)) (mRet (m2 (dAdd false) (mTup (mCons (mN m_turned_word (mCons (m2 dIx (mVar 1) (mK (.int 0))) (mNil))) (mCons (m2 dSub (mVar 2) (m2 dIx (mVar 1) (mK (.int 1)))) (mNil)))) (mSl false (mVar 1) (mpS (mK (.int 2))) mpN)))
def m_mirrored : List D → Store → R D := pureF (mDefQ 2 3 b_mirrored)
/-- upside_down: 0 board, 1 piece -/
def b_upside_down : MS := mRet (mN (mMake "Board" m_Board_init) (mCons (m1 (dAttr ["Board"] "size") (mVar 0)) (mCons (mN tupL (mCons (mLc [1] (miSeq (m1 (dAttr ["Board"] "pieces") (mVar 0))) (gN 1) (mYes) (mN m_mirrored (mCons (m1 (dAttr ["Board"] "size") (mVar 0)) (mCons (mVar 1) (mNil))))) (mNil))) (mNil))))
def m_upside_down : List D → Store → R D := pureF (mDefQ 1 2 b_upside_down)
/-- _law_turned: 0 _law_size, 1 _law_pieces_here, 2 _law_is_back, 3 _law_swapped, 4 _law_found, 5 _law_piece_here, 6 _law_k -/
def b_w_turned : MS := mSeq (mPar 3 4 (mCons (mDict [.inr "down", .inr "up", .inr "pass", .inr "meet"] (mCons (mK (.str "up")) (mCons (mK (.str "down")) (mCons (mK (.str "pass")) (mCons (mK (.str "meet")) (mNil)))))) (mCons (mLstM (mNil)) (mNil)))) (mSeq (mFor (miSeq (mVar 1)) (gN 5) (mSeq (mAsg (mIfE (mBool (mVar 2)) (m2 dIx (mVar 5) (mK (.int 1))) (m2 dSub (m2 dSub (mVar 0) (mIfE (mBool (m2 dEq (m2 dIx (mVar 5) (mK (.int 0))) (mK (.str "pass")))) (mK (.int 1)) (mK (.int 2)))) (m2 dIx (mVar 5) (mK (.int 1))))) (gN 6)) (mExpr (mMeth .list dAppend (mVar 4) (mCons (m2 (dAdd false) (mTup (mCons (m2 dGetA (mVar 3) (m2 dIx (mVar 5) (mK (.int 0)))) (mCons (mVar 6) (mNil)))) (mSl false (mVar 5) (mpS (mK (.int 2))) mpN)) (mNil)))))) (mRet (mN tupL (mCons (mIfE (mBool (mVar 2)) (m1 (revL false) (mVar 4)) (mVar 4)) (mNil)))))
def m_w_turned : List D → Store → R D := pureF (mDefQ 3 7 b_w_turned)
/-- _law_is_turned_right: 0 _law_size, 1 _law_pieces_here, 2 _law_board, 3 _law_back, 4 _law_upside -/
def b_w_is_turned_right : MS := mSeq (mPar 3 4 (mCons (mN m_backwards (mCons (mVar 2) (mNil))) (mCons (mN m_upside_down (mCons (mVar 2) (mNil))) (mNil)))) (mSeq (mIf (mOrT (mBool (m2 dNe (mN dReprB (mCons (m1 (dAttr ["Board"] "pieces") (mVar 3)) (mNil))) (mN dReprB (mCons (mN m_w_turned (mCons (mVar 0) (mCons (mVar 1) (mCons (mK (.bl true)) (mNil))))) (mNil))))) (mBool (m2 dNe (m1 (dAttr ["Board"] "size") (mVar 3)) (mVar 0)))) (mRet (mK (.bl false))) (mSkip)) (mSeq (mIf (mOrT (mBool (m2 dNe (mN dReprB (mCons (m1 (dAttr ["Board"] "pieces") (mVar 4)) (mNil))) (mN dReprB (mCons (mN m_w_turned (mCons (mVar 0) (mCons (mVar 1) (mCons (mK (.bl false)) (mNil))))) (mNil))))) (mBool (m2 dNe (m1 (dAttr ["Board"] "size") (mVar 4)) (mVar 0)))) (mRet (mK (.bl false))) (mSkip)) (mSeq (mIf (mOrT (mBool (m2 (or2 (dNeO ["Board"] "Board" m_Board_eq) dNe) (mNK 0 1 m_backwards (pk [0]) mNil (mCons (mVar 3) (mNil))) (mVar 2))) (mBool (m2 (or2 (dNeO ["Board"] "Board" m_Board_eq) dNe) (mNK 0 1 m_upside_down (pk [0]) mNil (mCons (mVar 4) (mNil))) (mVar 2)))) (mRet (mK (.bl false))) (mSkip)) (mRet (mAnd (m2 (or2 (dEqO ["Board"] "Board" m_Board_eq) dEq) (mN m_upside_down (mCons (mVar 3) (mNil))) (mN m_backwards (mCons (mVar 4) (mNil)))) (m2 (or2 (dEqO ["Board"] "Board" m_Board_eq) dEq) (mVar 3) (mN (mMake "Board" m_Board_init) (mCons (mVar 0) (mCons (mN m_w_turned (mCons (mVar 0) (mCons (mVar 1) (mCons (mK (.bl true)) (mNil))))) (mNil))))))))))
def m_w_is_turned_right : List D → Store → R D := pureF (mDefQ 3 5 b_w_is_turned_right)
/-- law: 0 _law_script, 1 _law_deck_here, 2 _law_first, 3 _law_sizes, 4 _law_rows, 5 _law_size, 6 _law_one, 7 _law_other, 8 _law_near, 9 _law_far, 10 _law_boards, 11 _law_bare, 12 _law_some, 13 _law_strange, 14 _law_is_right, 15 _law_due, 16 _law_told -/
def b_law : MS := mSeq (mAsg (mN m_w_deck (mCons (mVar 0) (mNil))) (gN 1)) (mSeq (mAsg (m2 (dAdd false) (mK (.int 1)) (mN m_w_draw (mCons (mVar 1) (mCons (mK (.int 9)) (mNil))))) (gN 2)) (mSeq (mAsg (mLst (mCons (mVar 2) (mCons (mN m_w_pick (mCons (mVar 1) (mCons (mLst (mCons (mVar 2) (mCons (m2 (dAdd false) (mK (.int 1)) (mN m_w_draw (mCons (mVar 1) (mCons (mK (.int 9)) (mNil))))) (mCons (mN dMax2 (mCons (mK (.int 1)) (mCons (m2 dSub (mK (.int 9)) (mVar 2)) (mNil)))) (mCons (mN dMin2 (mCons (mK (.int 9)) (mCons (m2 dSub (mK (.int 10)) (mVar 2)) (mNil)))) (mNil)))))) (mNil)))) (mNil)))) (gN 3)) (mSeq (mAsg (mLcF fin0 [5] (miSeq (mVar 3)) (gN 5) (mYes) (mN m_w_pieces (mCons (mVar 1) (mCons (mVar 5) (mNil))))) (gN 4)) (mSeq (mPar 6 7 (mCons (mN (mMake "Board" m_Board_init) (mCons (m2 dIx (mVar 3) (mK (.int 0))) (mCons (m2 dIx (mVar 4) (mK (.int 0))) (mNil)))) (mCons (mN (mMake "Board" m_Board_init) (mCons (m2 dIx (mVar 3) (mK (.int 1))) (mCons (m2 dIx (mVar 4) (mK (.int 1))) (mNil)))) (mNil)))) (mSeq (mFor (miSeq (mTup (mCons (mTup (mCons (mK (.int 0)) (mCons (mK (.int 1)) (mNil)))) (mCons (mTup (mCons (mK (.int 1)) (mCons (mK (.int 0)) (mNil)))) (mCons (mTup (mCons (mK (.int 0)) (mCons (mK (.int 0)) (mNil)))) (mNil)))))) (gT 2 (gsCons (gN 8) (gsCons (gN 9) (gsNil)))) (mSeq (mAsg (mLst (mCons (mVar 6) (mCons (mVar 7) (mNil)))) (gN 10)) (mIf (mNotT (mBool (mN m_w_are_joined_right (mCons (mLst (mCons (m2 dIx (mVar 3) (mVar 8)) (mCons (m2 dIx (mVar 3) (mVar 9)) (mNil)))) (mCons (mLst (mCons (m2 dIx (mVar 4) (mVar 8)) (mCons (m2 dIx (mVar 4) (mVar 9)) (mNil)))) (mCons (m2 dIx (mVar 10) (mVar 8)) (mCons (m2 dIx (mVar 10) (mVar 9)) (mNil)))))))) (mRet (mK (.bl false))) (mSkip)))) (mSeq (mIf (mOrT (mNotT (mBool (mN m_w_is_turned_right (mCons (m2 dIx (mVar 3) (mK (.int 0))) (mCons (m2 dIx (mVar 4) (mK (.int 0))) (mCons (mVar 6) (mNil))))))) (mNotT (mBool (mN m_w_is_turned_right (mCons (m2 dIx (mVar 3) (mK (.int 1))) (mCons (m2 dIx (mVar 4) (mK (.int 1))) (mCons (mVar 7) (mNil)))))))) (mRet (mK (.bl false))) (mSkip)) (mSeq (mIf (mAndT (mBool (m2 (or2 (dEqO ["Board"] "Board" m_Board_eq) dEq) (mVar 2) (m2 dIx (mVar 3) (mK (.int 1))))) (mBool (m2 (or2 (dNeO ["Board"] "Board" m_Board_eq) dNe) (mN m_backwards (mCons (mN m_behind (mCons (mVar 6) (mCons (mVar 7) (mNil)))) (mNil))) (mN m_behind (mCons (mN m_backwards (mCons (mVar 7) (mNil))) (mCons (mN m_backwards (mCons (mVar 6) (mNil))) (mNil))))))) (mRet (mK (.bl false))) (mSkip)) (mSeq (mAsg (mN m_straight (mCons (mVar 2) (mNil))) (gN 11)) (mSeq (mIf (mOrT (mBool (m2 (or2 (dNeO ["Board"] "Board" m_Board_eq) dNe) (mVar 11) (mN (mMake "Board" m_Board_init) (mCons (mVar 2) (mCons (mTup (mNil)) (mNil)))))) (mOrT (mBool (m2 (or2 (dNeO ["Board"] "Board" m_Board_eq) dNe) (mN (dLenO "Board" m_Board_len) (mCons (mVar 11) (mNil))) (mK (.int 0)))) (mOrT (mBool (m2 (or2 (dNeO ["Board"] "Board" m_Board_eq) dNe) (mN m_behind (mCons (mVar 11) (mCons (mVar 6) (mNil)))) (mVar 6))) (mBool (m2 (or2 (dNeO ["Board"] "Board" m_Board_eq) dNe) (mN m_behind (mCons (mVar 6) (mCons (mVar 11) (mNil)))) (mVar 6)))))) (mRet (mK (.bl false))) (mSkip)) (mSeq (mIf (mOrT (mBool (m2 (or2 (dNeO ["Board"] "Board" m_Board_eq) dNe) (mN m_backwards (mCons (mVar 11) (mNil))) (mVar 11))) (mBool (m2 (or2 (dNeO ["Board"] "Board" m_Board_eq) dNe) (mN m_upside_down (mCons (mVar 11) (mNil))) (mVar 11)))) (mRet (mK (.bl false))) (mSkip)) (mSeq (mAsg (mLst (mCons (mK (.int 0)) (mCons (mK (.int 10)) (mCons (m1 dNeg (mK (.int 1))) (mCons (mK (.bl true)) (mCons (mK (.bl false)) (mCons (mK .non) (mCons (mK (.str "2")) (mCons (mTup (mCons (mK (.int 2)) (mNil))) (mCons (mLst (mCons (mK (.int 3)) (mNil))) (mCons (m2 dPow (mK (.int 10)) (mK (.int 39))) (mCons (mLock (mDictK)) (mCons (mK (.str "")) (mCons (mTup (mNil)) (mCons (m1 dNeg (m2 dPow (mK (.int 10)) (mK (.int 39)))) (mCons (mK (.int 9)) (mCons (mK (.int 1)) (mNil)))))))))))))))))) (gN 12)) (mSeq (mAsg (mN m_w_pick (mCons (mVar 1) (mCons (mVar 12) (mNil)))) (gN 13)) (mSeq (mAsg (mAnd (m1 (dIsiT ["Board"] .int) (mVar 13)) (mAnd (mNot (m1 (dIsiT ["Board"] .bool) (mVar 13))) (mCh (mK (.int 1)) (mcC dLe (mVar 13) (mcL dLe (mK (.int 9))))))) (gN 14)) (mSeq (mAsg (mIfE (mBool (mVar 14)) (mTup (mCons (mK (.str "board")) (mCons (mVar 13) (mCons (mTup (mNil)) (mCons (mK (.bl true)) (mNil)))))) (mTup (mCons (mK (.str "size")) (mCons (mVar 13) (mCons (mK (.bl true)) (mNil)))))) (gN 15)) (mSeq (mIf (mBool (m2 dNe (mN dReprB (mCons (mLst (mCons (mN m_w_refused (mCons (mK (.int 2)) (mCons (mVar 13) (mCons (mK .non) (mNil))))) (mCons (mN m_w_refused (mCons (mK (.int 5)) (mCons (mVar 13) (mCons (mK .non) (mNil))))) (mNil)))) (mNil))) (mN dReprB (mCons (mLst (mCons (mVar 15) (mCons (mVar 15) (mNil)))) (mNil))))) (mRet (mK (.bl false))) (mSkip)) (mSeq (mAsg (mN m_w_refused (mCons (mK (.int 2)) (mCons (mVar 7) (mCons (mK .non) (mNil))))) (gN 16)) (mSeq (mIf (mOrT (mBool (m2 (or2 (dNeO ["Board"] "Board" m_Board_eq) dNe) (m2 dIx (mVar 16) (mK (.int 0))) (mK (.str "size")))) (mBool (m2 (or2 (dNeO ["Board"] "Board" m_Board_eq) dNe) (m2 dIx (mVar 16) (mK (.int 1))) (mVar 7)))) (mRet (mK (.bl false))) (mSkip)) (mRet (mAnd (m2 dEq (m1 (dAttr ["Board"] "size") (mVar 6)) (mVar 2)) (mAnd (m2 dEq (m1 (dAttr ["Board"] "pieces") (mVar 6)) (m2 dIx (mVar 4) (mK (.int 0)))) (mAnd (m2 dEq (m1 (dAttr ["Board"] "size") (mVar 7)) (m2 dIx (mVar 3) (mK (.int 1)))) (m2 dEq (m1 (dAttr ["Board"] "pieces") (mVar 7)) (m2 dIx (mVar 4) (mK (.int 1)))))))))))))))))))))))))
def m_law : List D → Store → R D := (mDefQ 1 17 b_law)
/-! what the top tells -/
structure Txt (P : Program) (w : World) (K : PySem.W.Frag) (mg : Str → Option Value) : Prop where
  z_isinstance : mg "isinstance" = none
  z_len : mg "len" = none
  z_int : mg "int" = none
  z_bool : mg "bool" = none
  z_str : mg "str" = none
  z_all : mg "all" = none
  z_tuple : mg "tuple" = none
  z_abs : mg "abs" = none
  z_enumerate : mg "enumerate" = none
  z_max : mg "max" = none
  z_range : mg "range" = none
  z_repr : mg "repr" = none
  z_min : mg "min" = none
  y_SMALL : ∃ t, mg "SMALL" = some (.str "abcdefghijklmnopqrstuvwxyz" t)
  y_MOST_SIZE : ∃ t, mg "MOST_SIZE" = some (.int 9 t)
  t_SLANTED : TupC K mg "SLANTED" [V.str "down", V.str "up"]
  o_own : Own K ["Board"]
  a_size : Atts K ["Board"] "size"
  a_pieces : Atts K ["Board"] "pieces"
  x_OtherSizes : ∃ C B fI : Addr, Err0 P w K mg "OtherSizes" C B fI
  p_OtherSizes_BadSize : Apart K "OtherSizes" "BadSize"
  p_BadSize_OtherSizes : Apart K "BadSize" "OtherSizes"
  x_BadSize : ∃ C B fI : Addr, Err1 P w K mg "BadSize" "thing" C B fI
  k_OtherSizes_CompanyError : ∃ D : Addr, mg "CompanyError" = some (.ref D) ∧ ∀ C, PySem.W.nsIn K mainGlobals "OtherSizes" = some (some (.ref C)) → PySem.W.kitOne K (.ref C) (.ref D) = some true
  k_BadSize_CompanyError : ∃ D : Addr, mg "CompanyError" = some (.ref D) ∧ ∀ C, PySem.W.nsIn K mainGlobals "BadSize" = some (some (.ref C)) → PySem.W.kitOne K (.ref C) (.ref D) = some true
abbrev s_Board_eq : Stmt := clsDef (top 31) 2
abbrev ps_Board_eq : List Str := ["self", "other"]
abbrev N_Board_eq : List Str := ["self", "other"]
theorem sc_Board_eq : FnScope N_Board_eq ps_Board_eq (defScope s_Board_eq) := ⟨rfl, rfl, rfl, by decide +kernel, rfl, by decide +kernel, by decide +kernel⟩
abbrev s_Board_len : Stmt := clsDef (top 31) 1
abbrev ps_Board_len : List Str := ["self"]
abbrev N_Board_len : List Str := ["self"]
theorem sc_Board_len : FnScope N_Board_len ps_Board_len (defScope s_Board_len) := ⟨rfl, rfl, rfl, by decide +kernel, rfl, by decide +kernel, by decide +kernel⟩
abbrev s_w_deck : Stmt := top 42
abbrev ps_w_deck : List Str := ["_law_script"]
abbrev N_w_deck : List Str := ["_law_script", "_law_cells", "_law_mixed", "_law_cell"]
theorem sc_w_deck : FnScope N_w_deck ps_w_deck (defScope s_w_deck) := ⟨rfl, rfl, rfl, by decide +kernel, rfl, by decide +kernel, by decide +kernel⟩
abbrev s_is_whole : Stmt := top 9
abbrev ps_is_whole : List Str := ["thing"]
abbrev N_is_whole : List Str := ["thing"]
theorem sc_is_whole : FnScope N_is_whole ps_is_whole (defScope s_is_whole) := ⟨rfl, rfl, rfl, by decide +kernel, rfl, by decide +kernel, by decide +kernel⟩
abbrev s_is_size : Stmt := top 11
abbrev ps_is_size : List Str := ["thing", "most"]
abbrev N_is_size : List Str := ["thing", "most"]
theorem sc_is_size : FnScope N_is_size ps_is_size (defScope s_is_size) := ⟨rfl, rfl, rfl, by decide +kernel, rfl, by decide +kernel, by decide +kernel⟩
abbrev s_is_place : Stmt := top 10
abbrev ps_is_place : List Str := ["size", "thing"]
abbrev N_is_place : List Str := ["size", "thing"]
theorem sc_is_place : FnScope N_is_place ps_is_place (defScope s_is_place) := ⟨rfl, rfl, rfl, by decide +kernel, rfl, by decide +kernel, by decide +kernel⟩
abbrev s_is_letter : Stmt := top 13
abbrev ps_is_letter : List Str := ["thing"]
abbrev N_is_letter : List Str := ["thing", "sign"]
theorem sc_is_letter : FnScope N_is_letter ps_is_letter (defScope s_is_letter) := ⟨rfl, rfl, rfl, by decide +kernel, rfl, by decide +kernel, by decide +kernel⟩
abbrev s_is_number : Stmt := top 12
abbrev ps_is_number : List Str := ["thing"]
abbrev N_is_number : List Str := ["thing"]
theorem sc_is_number : FnScope N_is_number ps_is_number (defScope s_is_number) := ⟨rfl, rfl, rfl, by decide +kernel, rfl, by decide +kernel, by decide +kernel⟩
abbrev s_is_weight : Stmt := top 14
abbrev ps_is_weight : List Str := ["thing"]
abbrev N_is_weight : List Str := ["thing"]
theorem sc_is_weight : FnScope N_is_weight ps_is_weight (defScope s_is_weight) := ⟨rfl, rfl, rfl, by decide +kernel, rfl, by decide +kernel, by decide +kernel⟩
abbrev s_is_piece : Stmt := top 26
abbrev ps_is_piece : List Str := ["size", "thing"]
abbrev N_is_piece : List Str := ["size", "thing"]
theorem sc_is_piece : FnScope N_is_piece ps_is_piece (defScope s_is_piece) := ⟨rfl, rfl, rfl, by decide +kernel, rfl, by decide +kernel, by decide +kernel⟩
abbrev s_common : Stmt := top 15
abbrev ps_common : List Str := ["one", "other"]
abbrev N_common : List Str := ["one", "other"]
theorem sc_common : FnScope N_common ps_common (defScope s_common) := ⟨rfl, rfl, rfl, by decide +kernel, rfl, by decide +kernel, by decide +kernel⟩
abbrev s_lowest : Stmt := top 16
abbrev ps_lowest : List Str := ["number"]
abbrev N_lowest : List Str := ["number", "top", "bottom", "by"]
theorem sc_lowest : FnScope N_lowest ps_lowest (defScope s_lowest) := ⟨rfl, rfl, rfl, by decide +kernel, rfl, by decide +kernel, by decide +kernel⟩
abbrev s_kept_weight : Stmt := top 22
abbrev ps_kept_weight : List Str := ["weight"]
abbrev N_kept_weight : List Str := ["weight"]
theorem sc_kept_weight : FnScope N_kept_weight ps_kept_weight (defScope s_kept_weight) := ⟨rfl, rfl, rfl, by decide +kernel, rfl, by decide +kernel, by decide +kernel⟩
abbrev s_kept_piece : Stmt := top 27
abbrev ps_kept_piece : List Str := ["piece"]
abbrev N_kept_piece : List Str := ["piece"]
theorem sc_kept_piece : FnScope N_kept_piece ps_kept_piece (defScope s_kept_piece) := ⟨rfl, rfl, rfl, by decide +kernel, rfl, by decide +kernel, by decide +kernel⟩
abbrev s_Board_init : Stmt := clsDef (top 31) 0
abbrev ps_Board_init : List Str := ["self", "size", "pieces"]
abbrev N_Board_init : List Str := ["self", "size", "pieces", "number", "piece"]
theorem sc_Board_init : FnScope N_Board_init ps_Board_init (defScope s_Board_init) := ⟨rfl, rfl, rfl, by decide +kernel, rfl, by decide +kernel, by decide +kernel⟩
abbrev s_straight : Stmt := top 40
abbrev ps_straight : List Str := ["size"]
abbrev N_straight : List Str := ["size"]
theorem sc_straight : FnScope N_straight ps_straight (defScope s_straight) := ⟨rfl, rfl, rfl, by decide +kernel, rfl, by decide +kernel, by decide +kernel⟩
abbrev s_w_draw : Stmt := top 43
abbrev ps_w_draw : List Str := ["_law_deck_here", "_law_limit"]
abbrev N_w_draw : List Str := ["_law_deck_here", "_law_limit", "_law_cell", "_law_mixed"]
theorem sc_w_draw : FnScope N_w_draw ps_w_draw (defScope s_w_draw) := ⟨rfl, rfl, rfl, by decide +kernel, rfl, by decide +kernel, by decide +kernel⟩
abbrev s_w_pick : Stmt := top 44
abbrev ps_w_pick : List Str := ["_law_deck_here", "_law_some"]
abbrev N_w_pick : List Str := ["_law_deck_here", "_law_some"]
theorem sc_w_pick : FnScope N_w_pick ps_w_pick (defScope s_w_pick) := ⟨rfl, rfl, rfl, by decide +kernel, rfl, by decide +kernel, by decide +kernel⟩
abbrev s_behind : Stmt := top 33
abbrev ps_behind : List Str := ["one", "other"]
abbrev N_behind : List Str := ["one", "other"]
theorem sc_behind : FnScope N_behind ps_behind (defScope s_behind) := ⟨rfl, rfl, rfl, by decide +kernel, rfl, by decide +kernel, by decide +kernel⟩
abbrev s_moved : Stmt := top 34
abbrev ps_moved : List Str := ["piece", "by"]
abbrev N_moved : List Str := ["piece", "by"]
theorem sc_moved : FnScope N_moved ps_moved (defScope s_moved) := ⟨rfl, rfl, rfl, by decide +kernel, rfl, by decide +kernel, by decide +kernel⟩
abbrev s_below : Stmt := top 35
abbrev ps_below : List Str := ["one", "other"]
abbrev N_below : List Str := ["one", "other", "size", "piece"]
theorem sc_below : FnScope N_below ps_below (defScope s_below) := ⟨rfl, rfl, rfl, by decide +kernel, rfl, by decide +kernel, by decide +kernel⟩
abbrev s_w_refused : Stmt := top 49
abbrev ps_w_refused : List Str := ["_law_way", "_law_one", "_law_other"]
abbrev N_w_refused : List Str := ["_law_way", "_law_one", "_law_other", "_law_told", "e"]
theorem sc_w_refused : FnScope N_w_refused ps_w_refused (defScope s_w_refused) := ⟨rfl, rfl, rfl, by decide +kernel, rfl, by decide +kernel, by decide +kernel⟩
abbrev s_w_piece : Stmt := top 45
abbrev ps_w_piece : List Str := ["_law_deck_here", "_law_size"]
abbrev N_w_piece : List Str := ["_law_deck_here", "_law_size", "_law_word", "_law_k", "_law_some"]
theorem sc_w_piece : FnScope N_w_piece ps_w_piece (defScope s_w_piece) := ⟨rfl, rfl, rfl, by decide +kernel, rfl, by decide +kernel, by decide +kernel⟩
abbrev s_w_pieces : Stmt := top 46
abbrev ps_w_pieces : List Str := ["_law_deck_here", "_law_size"]
abbrev N_w_pieces : List Str := ["_law_deck_here", "_law_size", "_law_turn"]
theorem sc_w_pieces : FnScope N_w_pieces ps_w_pieces (defScope s_w_pieces) := ⟨rfl, rfl, rfl, by decide +kernel, rfl, by decide +kernel, by decide +kernel⟩
abbrev s_w_lifted : Stmt := top 47
abbrev ps_w_lifted : List Str := ["_law_pieces_here", "_law_size"]
abbrev N_w_lifted : List Str := ["_law_pieces_here", "_law_size", "_law_piece_here"]
theorem sc_w_lifted : FnScope N_w_lifted ps_w_lifted (defScope s_w_lifted) := ⟨rfl, rfl, rfl, by decide +kernel, rfl, by decide +kernel, by decide +kernel⟩
abbrev s_w_are_joined_right : Stmt := top 50
abbrev ps_w_are_joined_right : List Str := ["_law_sizes", "_law_rows", "_law_one", "_law_other"]
abbrev N_w_are_joined_right : List Str := ["_law_sizes", "_law_rows", "_law_one", "_law_other", "_law_due"]
theorem sc_w_are_joined_right : FnScope N_w_are_joined_right ps_w_are_joined_right (defScope s_w_are_joined_right) := ⟨rfl, rfl, rfl, by decide +kernel, rfl, by decide +kernel, by decide +kernel⟩
abbrev s_turned_word : Stmt := top 36
abbrev ps_turned_word : List Str := ["word"]
abbrev N_turned_word : List Str := ["word"]
theorem sc_turned_word : FnScope N_turned_word ps_turned_word (defScope s_turned_word) := ⟨rfl, rfl, rfl, by decide +kernel, rfl, by decide +kernel, by decide +kernel⟩
abbrev s_backwards : Stmt := top 37
abbrev ps_backwards : List Str := ["board"]
abbrev N_backwards : List Str := ["board", "piece"]
theorem sc_backwards : FnScope N_backwards ps_backwards (defScope s_backwards) := ⟨rfl, rfl, rfl, by decide +kernel, rfl, by decide +kernel, by decide +kernel⟩
abbrev s_mirrored : Stmt := top 38
abbrev ps_mirrored : List Str := ["size", "piece"]
abbrev N_mirrored : List Str := ["size", "piece", "last"]
theorem sc_mirrored : FnScope N_mirrored ps_mirrored (defScope s_mirrored) := ⟨rfl, rfl, rfl, by decide +kernel, rfl, by decide +kernel, by decide +kernel⟩
abbrev s_upside_down : Stmt := top 39
abbrev ps_upside_down : List Str := ["board"]
abbrev N_upside_down : List Str := ["board", "piece"]
theorem sc_upside_down : FnScope N_upside_down ps_upside_down (defScope s_upside_down) := ⟨rfl, rfl, rfl, by decide +kernel, rfl, by decide +kernel, by decide +kernel⟩
abbrev s_w_turned : Stmt := top 48
abbrev ps_w_turned : List Str := ["_law_size", "_law_pieces_here", "_law_is_back"]
abbrev N_w_turned : List Str := ["_law_size", "_law_pieces_here", "_law_is_back", "_law_swapped", "_law_found", "_law_piece_here", "_law_k"]
theorem sc_w_turned : FnScope N_w_turned ps_w_turned (defScope s_w_turned) := ⟨rfl, rfl, rfl, by decide +kernel, rfl, by decide +kernel, by decide +kernel⟩
abbrev s_w_is_turned_right : Stmt := top 51
abbrev ps_w_is_turned_right : List Str := ["_law_size", "_law_pieces_here", "_law_board"]
abbrev N_w_is_turned_right : List Str := ["_law_size", "_law_pieces_here", "_law_board", "_law_back", "_law_upside"]
theorem sc_w_is_turned_right : FnScope N_w_is_turned_right ps_w_is_turned_right (defScope s_w_is_turned_right) := ⟨rfl, rfl, rfl, by decide +kernel, rfl, by decide +kernel, by decide +kernel⟩
abbrev s_law : Stmt := top 52
abbrev ps_law : List Str := ["_law_script"]
abbrev N_law : List Str := ["_law_script", "_law_deck_here", "_law_first", "_law_sizes", "_law_rows", "_law_size", "_law_one", "_law_other", "_law_near", "_law_far", "_law_boards", "_law_bare", "_law_some", "_law_strange", "_law_is_right", "_law_due", "_law_told"]
theorem sc_law : FnScope N_law ps_law (defScope s_law) := ⟨rfl, rfl, rfl, by decide +kernel, rfl, by decide +kernel, by decide +kernel⟩
section
variable {P : Program} {w : World} {K : PySem.W.Frag} {mg : Str → Option Value} {base : Heap}
theorem kb_behind_1_0 {f : Addr} {fd : FuncData} (F : Fun K "behind" "behind" s_behind f fd) : KB K fd ps_behind 0 ["other", "one"] (pk [1, 0]) (pk [1, 0]) (pk [1, 0]) := kb_of 0 ["other", "one"] [1, 0] F fun _ _ _ _ _ _ us ws h1 h2 => match us, ws, h1, h2 with | [], [_, _], _, _ => rfl
theorem kb_below_1_0 {f : Addr} {fd : FuncData} (F : Fun K "below" "below" s_below f fd) : KB K fd ps_below 0 ["other", "one"] (pk [1, 0]) (pk [1, 0]) (pk [1, 0]) := kb_of 0 ["other", "one"] [1, 0] F fun _ _ _ _ _ _ us ws h1 h2 => match us, ws, h1, h2 with | [], [_, _], _, _ => rfl
theorem kb_straight_0 {f : Addr} {fd : FuncData} (F : Fun K "straight" "straight" s_straight f fd) : KB K fd ps_straight 0 ["size"] (pk [0]) (pk [0]) (pk [0]) := kb_of 0 ["size"] [0] F fun _ _ _ _ _ _ us ws h1 h2 => match us, ws, h1, h2 with | [], [_], _, _ => rfl
theorem kb_backwards_0 {f : Addr} {fd : FuncData} (F : Fun K "backwards" "backwards" s_backwards f fd) : KB K fd ps_backwards 0 ["board"] (pk [0]) (pk [0]) (pk [0]) := kb_of 0 ["board"] [0] F fun _ _ _ _ _ _ us ws h1 h2 => match us, ws, h1, h2 with | [], [_], _, _ => rfl
theorem kb_upside_down_0 {f : Addr} {fd : FuncData} (F : Fun K "upside_down" "upside_down" s_upside_down f fd) : KB K fd ps_upside_down 0 ["board"] (pk [0]) (pk [0]) (pk [0]) := kb_of 0 ["board"] [0] F fun _ _ _ _ _ _ us ws h1 h2 => match us, ws, h1, h2 with | [], [_], _, _ => rfl
theorem bd_Board_eq {f : Addr} {fd : FuncData} (F : Fun K "__eq__" "Board.__eq__" s_Board_eq f fd) : Binds K fd ps_Board_eq [] := F.binds fun _ _ _ _ _ _ us hl => match us, hl with | [_, _], _ => rfl
theorem st_Board_eq {f : Addr} {fd : FuncData} (T : Txt P w K mg) (F : Fun K "__eq__" "Board.__eq__" s_Board_eq f fd) {f_Board_init : Addr} {C_Board : Addr} (L_Board : ClsM K mg "Board" C_Board f_Board_init) : FnM P w K mg base 1 f fd ps_Board_eq (mDefQ 2 2 b_Board_eq) := by
  refine fnm_nox (k := 0) (N := N_Board_eq) (ps := ps_Board_eq) (body := b_Board_eq) F sc_Board_eq fun cdv A outer s H E hr hgd => ?_
  have hu := hu64 hr
  have hu5 := hu65 hr
  have hu1 : (A.deeper (envOfC "Board.__eq__" (defScope s_Board_eq) s.heap.objs.size f cdv)).units + 1 < cLine := by omega
  have nd := sc_Board_eq.nd
  exact ss_one (s_ret (se_and (c_isiC T.o_own rfl L_Board T.z_isinstance (se_var 1)) (se_and (se_cmp (od_eq hu) (se_attr T.a_size (se_var 0)) (se_attr T.a_size (se_var 1))) (se_one (se_cmp (od_eq hu) (se_attr T.a_pieces (se_var 0)) (se_attr T.a_pieces (se_var 1)))))))
theorem ok_Board_eq {f : Addr} {fd : FuncData} (T : Txt P w K mg) (F : Fun K "__eq__" "Board.__eq__" s_Board_eq f fd) {f_Board_init : Addr} {C_Board : Addr} (L_Board : ClsM K mg "Board" C_Board f_Board_init) : CalM P w K mg base 1 "__eq__" "Board.__eq__" s_Board_eq ps_Board_eq f fd m_Board_eq := ⟨F, (st_Board_eq T F L_Board).pure, bd_Board_eq F⟩
theorem bd_Board_len {f : Addr} {fd : FuncData} (F : Fun K "__len__" "Board.__len__" s_Board_len f fd) : Binds K fd ps_Board_len [] := F.binds fun _ _ _ _ _ _ us hl => match us, hl with | [_], _ => rfl
theorem st_Board_len {f : Addr} {fd : FuncData} (T : Txt P w K mg) (F : Fun K "__len__" "Board.__len__" s_Board_len f fd)  : FnM P w K mg base 1 f fd ps_Board_len (mDefQ 1 1 b_Board_len) := by
  refine fnm_nox (k := 0) (N := N_Board_len) (ps := ps_Board_len) (body := b_Board_len) F sc_Board_len fun cdv A outer s H E hr hgd => ?_
  have hu := hu64 hr
  have hu5 := hu65 hr
  have hu1 : (A.deeper (envOfC "Board.__len__" (defScope s_Board_len) s.heap.objs.size f cdv)).units + 1 < cLine := by omega
  have nd := sc_Board_len.nd
  exact ss_one (s_ret (se_callB cd_len (by rfl) T.z_len (by decide +kernel) (sa_cons (se_attr T.a_pieces (se_var 0)) (sa_nil))))
theorem ok_Board_len {f : Addr} {fd : FuncData} (T : Txt P w K mg) (F : Fun K "__len__" "Board.__len__" s_Board_len f fd)  : CalM P w K mg base 1 "__len__" "Board.__len__" s_Board_len ps_Board_len f fd m_Board_len := ⟨F, (st_Board_len T F ).pure, bd_Board_len F⟩
theorem bd_w_deck {f : Addr} {fd : FuncData} (F : Fun K "_law_deck" "_law_deck" s_w_deck f fd) : Binds K fd ps_w_deck [] := F.binds fun _ _ _ _ _ _ us hl => match us, hl with | [_], _ => rfl
theorem st_w_deck {f : Addr} {fd : FuncData} (T : Txt P w K mg) (F : Fun K "_law_deck" "_law_deck" s_w_deck f fd)  : FnM P w K mg base 1 f fd ps_w_deck (mDefQ 1 4 b_w_deck) := by
  refine fnm_nox (k := 0) (N := N_w_deck) (ps := ps_w_deck) (body := b_w_deck) F sc_w_deck fun cdv A outer s H E hr hgd => ?_
  have hu := hu64 hr
  have hu5 := hu65 hr
  have hu1 : (A.deeper (envOfC "_law_deck" (defScope s_w_deck) s.heap.objs.size f cdv)).units + 1 < cLine := by omega
  have nd := sc_w_deck.nd
  exact ss_cons (s_par 1 2 (by rfl) nd (sa_cons (se_lc (own := [("_law_cell", 3)]) (by rfl) nd (si_seq (se_sl (m := false) (se_var 0) sp_none (sp_some (se_int)))) (blkOk_by (by kernel_rfl)) (fun _ _ _ _ _ => sg_name 3 nd) (fun _ _ _ _ _ => sts_nil) (fun _ _ _ _ _ => se_callTy cd_int (by rfl) T.z_int (by decide +kernel) (sa_cons (se_var 3) (sa_nil)))) (sa_cons (se_int) (sa_nil)))) (ss_cons (s_for PassesOwn.never (by rfl) (si_seq (se_var 1)) (sg_name 3 nd) (ss_one (s_set 2 nd (se_op (od_mod) (se_op (od_add (m := false)) (se_op (od_add (m := false)) (se_op (od_mul (m := false)) (se_var 2) (se_int)) (se_op (od_mod) (se_var 3) (se_int))) (se_int)) (se_int))))) (ss_one (s_ret (se_dict (.cons pe_str (se_rev (m := true) (se_var 1)) (.cons pe_str (se_var 2) (.cons pe_str (se_int) (.nil))))))))
theorem ok_w_deck {f : Addr} {fd : FuncData} (T : Txt P w K mg) (F : Fun K "_law_deck" "_law_deck" s_w_deck f fd) (hm : mg "_law_deck" = some (.ref f))  : Cal P w K mg base 1 "_law_deck" s_w_deck ps_w_deck f fd m_w_deck := ⟨F, (st_w_deck T F ), hm, bd_w_deck F⟩
theorem bd_is_whole {f : Addr} {fd : FuncData} (F : Fun K "is_whole" "is_whole" s_is_whole f fd) : Binds K fd ps_is_whole [] := F.binds fun _ _ _ _ _ _ us hl => match us, hl with | [_], _ => rfl
theorem st_is_whole {f : Addr} {fd : FuncData} (T : Txt P w K mg) (F : Fun K "is_whole" "is_whole" s_is_whole f fd)  : FnM P w K mg base 1 f fd ps_is_whole (mDefQ 1 1 b_is_whole) := by
  refine fnm_nox (k := 0) (N := N_is_whole) (ps := ps_is_whole) (body := b_is_whole) F sc_is_whole fun cdv A outer s H E hr hgd => ?_
  have hu := hu64 hr
  have hu5 := hu65 hr
  have hu1 : (A.deeper (envOfC "is_whole" (defScope s_is_whole) s.heap.objs.size f cdv)).units + 1 < cLine := by omega
  have nd := sc_is_whole.nd
  exact ss_one (s_ret (se_and (se_isiT .int T.o_own T.z_isinstance T.z_int (se_var 0)) (se_one (se_not (se_isiT .bool T.o_own T.z_isinstance T.z_bool (se_var 0))))))
theorem ok_is_whole {f : Addr} {fd : FuncData} (T : Txt P w K mg) (F : Fun K "is_whole" "is_whole" s_is_whole f fd) (hm : mg "is_whole" = some (.ref f))  : Cal P w K mg base 1 "is_whole" s_is_whole ps_is_whole f fd m_is_whole := ⟨F, (st_is_whole T F ).pure, hm, bd_is_whole F⟩
theorem bd_is_size {f : Addr} {fd : FuncData} (F : Fun K "is_size" "is_size" s_is_size f fd) : Binds K fd ps_is_size [] := F.binds fun _ _ _ _ _ _ us hl => match us, hl with | [_, _], _ => rfl
theorem st_is_size {f : Addr} {fd : FuncData} (T : Txt P w K mg) (F : Fun K "is_size" "is_size" s_is_size f fd) {f_is_whole : Addr} {fd_is_whole : FuncData} (C_is_whole : Cal P w K mg base 1 "is_whole" s_is_whole ps_is_whole f_is_whole fd_is_whole m_is_whole) : FnM P w K mg base 2 f fd ps_is_size (mDefQ 2 2 b_is_size) := by
  refine fnm_nox (k := 1) (N := N_is_size) (ps := ps_is_size) (body := b_is_size) F sc_is_size fun cdv A outer s H E hr hgd => ?_
  have hu := hu64 hr
  have hu5 := hu65 hr
  have hu1 : (A.deeper (envOfC "is_size" (defScope s_is_size) s.heap.objs.size f cdv)).units + 1 < cLine := by omega
  have nd := sc_is_size.nd
  exact ss_one (s_ret (se_and (c_call C_is_whole (hr.mono (by decide)) hgd pW0 (sa_cons (se_var 0) (sa_nil))) (se_one (se_chain (se_int) (sc_link od_le (se_var 0) (sc_last od_le (se_var 1)))))))
theorem ok_is_size {f : Addr} {fd : FuncData} (T : Txt P w K mg) (F : Fun K "is_size" "is_size" s_is_size f fd) (hm : mg "is_size" = some (.ref f)) {f_is_whole : Addr} {fd_is_whole : FuncData} (C_is_whole : Cal P w K mg base 1 "is_whole" s_is_whole ps_is_whole f_is_whole fd_is_whole m_is_whole) : Cal P w K mg base 2 "is_size" s_is_size ps_is_size f fd m_is_size := ⟨F, (st_is_size T F C_is_whole).pure, hm, bd_is_size F⟩
theorem bd_is_place {f : Addr} {fd : FuncData} (F : Fun K "is_place" "is_place" s_is_place f fd) : Binds K fd ps_is_place [] := F.binds fun _ _ _ _ _ _ us hl => match us, hl with | [_, _], _ => rfl
theorem st_is_place {f : Addr} {fd : FuncData} (T : Txt P w K mg) (F : Fun K "is_place" "is_place" s_is_place f fd) {f_is_whole : Addr} {fd_is_whole : FuncData} (C_is_whole : Cal P w K mg base 1 "is_whole" s_is_whole ps_is_whole f_is_whole fd_is_whole m_is_whole) : FnM P w K mg base 2 f fd ps_is_place (mDefQ 2 2 b_is_place) := by
  refine fnm_nox (k := 1) (N := N_is_place) (ps := ps_is_place) (body := b_is_place) F sc_is_place fun cdv A outer s H E hr hgd => ?_
  have hu := hu64 hr
  have hu5 := hu65 hr
  have hu1 : (A.deeper (envOfC "is_place" (defScope s_is_place) s.heap.objs.size f cdv)).units + 1 < cLine := by omega
  have nd := sc_is_place.nd
  exact ss_one (s_ret (se_and (c_call C_is_whole (hr.mono (by decide)) hgd pW0 (sa_cons (se_var 1) (sa_nil))) (se_one (se_chain (se_int) (sc_link od_le (se_var 1) (sc_last od_lt (se_var 0)))))))
theorem ok_is_place {f : Addr} {fd : FuncData} (T : Txt P w K mg) (F : Fun K "is_place" "is_place" s_is_place f fd) (hm : mg "is_place" = some (.ref f)) {f_is_whole : Addr} {fd_is_whole : FuncData} (C_is_whole : Cal P w K mg base 1 "is_whole" s_is_whole ps_is_whole f_is_whole fd_is_whole m_is_whole) : Cal P w K mg base 2 "is_place" s_is_place ps_is_place f fd m_is_place := ⟨F, (st_is_place T F C_is_whole).pure, hm, bd_is_place F⟩
theorem bd_is_letter {f : Addr} {fd : FuncData} (F : Fun K "is_letter" "is_letter" s_is_letter f fd) : Binds K fd ps_is_letter [] := F.binds fun _ _ _ _ _ _ us hl => match us, hl with | [_], _ => rfl
theorem st_is_letter {f : Addr} {fd : FuncData} (T : Txt P w K mg) (F : Fun K "is_letter" "is_letter" s_is_letter f fd)  : FnM P w K mg base 1 f fd ps_is_letter (mDefQ 1 2 b_is_letter) := by
  refine fnm_nox (k := 0) (N := N_is_letter) (ps := ps_is_letter) (body := b_is_letter) F sc_is_letter fun cdv A outer s H E hr hgd => ?_
  have hu := hu64 hr
  have hu5 := hu65 hr
  have hu1 : (A.deeper (envOfC "is_letter" (defScope s_is_letter) s.heap.objs.size f cdv)).units + 1 < cLine := by omega
  have nd := sc_is_letter.nd
  exact ss_one (s_ret (se_and (se_isiT .str T.o_own T.z_isinstance T.z_str (se_var 0)) (se_and (se_chain (se_int) (sc_link od_le (se_callB cd_len (by rfl) T.z_len (by decide +kernel) (sa_cons (se_var 0) (sa_nil))) (sc_last od_le (se_int)))) (se_one (se_callB (cd_all (by rfl)) (by rfl) T.z_all (by decide +kernel) (sa_cons (se_lc (own := [("sign", 1)]) (by rfl) nd (si_seq (se_var 0)) (blkOk_by (by kernel_rfl)) (fun _ _ _ _ _ => sg_name 1 nd) (fun _ _ _ _ _ => sts_nil) (fun _ _ _ _ _ => se_cmp (od_in hu5) (se_var 1) (se_gs T.y_SMALL))) (sa_nil)))))))
theorem ok_is_letter {f : Addr} {fd : FuncData} (T : Txt P w K mg) (F : Fun K "is_letter" "is_letter" s_is_letter f fd) (hm : mg "is_letter" = some (.ref f))  : Cal P w K mg base 1 "is_letter" s_is_letter ps_is_letter f fd m_is_letter := ⟨F, (st_is_letter T F ).pure, hm, bd_is_letter F⟩
theorem bd_is_number {f : Addr} {fd : FuncData} (F : Fun K "is_number" "is_number" s_is_number f fd) : Binds K fd ps_is_number [] := F.binds fun _ _ _ _ _ _ us hl => match us, hl with | [_], _ => rfl
theorem st_is_number {f : Addr} {fd : FuncData} (T : Txt P w K mg) (F : Fun K "is_number" "is_number" s_is_number f fd) {f_is_whole : Addr} {fd_is_whole : FuncData} (C_is_whole : Cal P w K mg base 1 "is_whole" s_is_whole ps_is_whole f_is_whole fd_is_whole m_is_whole) : FnM P w K mg base 2 f fd ps_is_number (mDefQ 1 1 b_is_number) := by
  refine fnm_nox (k := 1) (N := N_is_number) (ps := ps_is_number) (body := b_is_number) F sc_is_number fun cdv A outer s H E hr hgd => ?_
  have hu := hu64 hr
  have hu5 := hu65 hr
  have hu1 : (A.deeper (envOfC "is_number" (defScope s_is_number) s.heap.objs.size f cdv)).units + 1 < cLine := by omega
  have nd := sc_is_number.nd
  exact ss_one (s_ret (se_and (se_isiT .tuple T.o_own T.z_isinstance T.z_tuple (se_var 0)) (se_and (se_cmp (od_eq hu) (se_callB cd_len (by rfl) T.z_len (by decide +kernel) (sa_cons (se_var 0) (sa_nil))) (se_int)) (se_and (c_call C_is_whole (hr.mono (by decide)) hgd pW0 (sa_cons (se_ix xd_ix (se_var 0) (se_int)) (sa_nil))) (se_and (c_call C_is_whole (hr.mono (by decide)) hgd pW0 (sa_cons (se_ix xd_ix (se_var 0) (se_int)) (sa_nil))) (se_one (se_cmp od_gt (se_ix xd_ix (se_var 0) (se_int)) (se_int))))))))
theorem ok_is_number {f : Addr} {fd : FuncData} (T : Txt P w K mg) (F : Fun K "is_number" "is_number" s_is_number f fd) (hm : mg "is_number" = some (.ref f)) {f_is_whole : Addr} {fd_is_whole : FuncData} (C_is_whole : Cal P w K mg base 1 "is_whole" s_is_whole ps_is_whole f_is_whole fd_is_whole m_is_whole) : Cal P w K mg base 2 "is_number" s_is_number ps_is_number f fd m_is_number := ⟨F, (st_is_number T F C_is_whole).pure, hm, bd_is_number F⟩
theorem bd_is_weight {f : Addr} {fd : FuncData} (F : Fun K "is_weight" "is_weight" s_is_weight f fd) : Binds K fd ps_is_weight [] := F.binds fun _ _ _ _ _ _ us hl => match us, hl with | [_], _ => rfl
theorem st_is_weight {f : Addr} {fd : FuncData} (T : Txt P w K mg) (F : Fun K "is_weight" "is_weight" s_is_weight f fd) {f_is_letter : Addr} {fd_is_letter : FuncData} (C_is_letter : Cal P w K mg base 1 "is_letter" s_is_letter ps_is_letter f_is_letter fd_is_letter m_is_letter) {f_is_number : Addr} {fd_is_number : FuncData} (C_is_number : Cal P w K mg base 2 "is_number" s_is_number ps_is_number f_is_number fd_is_number m_is_number) : FnM P w K mg base 3 f fd ps_is_weight (mDefQ 1 1 b_is_weight) := by
  refine fnm_nox (k := 2) (N := N_is_weight) (ps := ps_is_weight) (body := b_is_weight) F sc_is_weight fun cdv A outer s H E hr hgd => ?_
  have hu := hu64 hr
  have hu5 := hu65 hr
  have hu1 : (A.deeper (envOfC "is_weight" (defScope s_is_weight) s.heap.objs.size f cdv)).units + 1 < cLine := by omega
  have nd := sc_is_weight.nd
  exact ss_one (s_ret (se_or (c_call C_is_letter (hr.mono (by decide)) hgd pW0 (sa_cons (se_var 0) (sa_nil))) (se_one (se_and (c_call C_is_number (hr.mono (by decide)) hgd pW0 (sa_cons (se_var 0) (sa_nil))) (se_one (se_cmp od_ge (se_ix xd_ix (se_var 0) (se_int)) (se_int)))))))
theorem ok_is_weight {f : Addr} {fd : FuncData} (T : Txt P w K mg) (F : Fun K "is_weight" "is_weight" s_is_weight f fd) (hm : mg "is_weight" = some (.ref f)) {f_is_letter : Addr} {fd_is_letter : FuncData} (C_is_letter : Cal P w K mg base 1 "is_letter" s_is_letter ps_is_letter f_is_letter fd_is_letter m_is_letter) {f_is_number : Addr} {fd_is_number : FuncData} (C_is_number : Cal P w K mg base 2 "is_number" s_is_number ps_is_number f_is_number fd_is_number m_is_number) : Cal P w K mg base 3 "is_weight" s_is_weight ps_is_weight f fd m_is_weight := ⟨F, (st_is_weight T F C_is_letter C_is_number).pure, hm, bd_is_weight F⟩
theorem bd_is_piece {f : Addr} {fd : FuncData} (F : Fun K "is_piece" "is_piece" s_is_piece f fd) : Binds K fd ps_is_piece [] := F.binds fun _ _ _ _ _ _ us hl => match us, hl with | [_, _], _ => rfl
theorem st_is_piece {f : Addr} {fd : FuncData} (T : Txt P w K mg) (F : Fun K "is_piece" "is_piece" s_is_piece f fd) {f_is_place : Addr} {fd_is_place : FuncData} (C_is_place : Cal P w K mg base 2 "is_place" s_is_place ps_is_place f_is_place fd_is_place m_is_place) {f_is_weight : Addr} {fd_is_weight : FuncData} (C_is_weight : Cal P w K mg base 3 "is_weight" s_is_weight ps_is_weight f_is_weight fd_is_weight m_is_weight) : FnM P w K mg base 4 f fd ps_is_piece (mDefQ 2 2 b_is_piece) := by
  refine fnm_nox (k := 3) (N := N_is_piece) (ps := ps_is_piece) (body := b_is_piece) F sc_is_piece fun cdv A outer s H E hr hgd => ?_
  have hu := hu64 hr
  have hu5 := hu65 hr
  have hu1 : (A.deeper (envOfC "is_piece" (defScope s_is_piece) s.heap.objs.size f cdv)).units + 1 < cLine := by omega
  have nd := sc_is_piece.nd
  exact ss_cons (s_if ((sw_or (st_not (st_val (se_isiT .tuple T.o_own T.z_isinstance T.z_tuple (se_var 1)))) (sw_or (st_cmp od_lt (se_callB cd_len (by rfl) T.z_len (by decide +kernel) (sa_cons (se_var 1) (sa_nil))) (se_int)) (sw_or1 (st_not (st_val (se_isiT .str T.o_own T.z_isinstance T.z_str (se_ix xd_ix (se_var 1) (se_int)))))))).pt) (ss_one (s_ret (se_bl))) (ss_nil)) (ss_cons (s_if (st_cmp (od_eq hu) (se_ix xd_ix (se_var 1) (se_int)) (se_str)) (ss_one (s_ret (se_and (se_cmp (od_eq hu) (se_callB cd_len (by rfl) T.z_len (by decide +kernel) (sa_cons (se_var 1) (sa_nil))) (se_int)) (se_one (c_call C_is_place (hr.mono (by decide)) hgd pW0 (sa_cons (se_op (od_sub) (se_var 0) (se_int)) (sa_cons (se_ix xd_ix (se_var 1) (se_int)) (sa_nil)))))))) (ss_nil)) (ss_cons (s_if ((sw_or (st_cmp (od_ne hu) (se_callB cd_len (by rfl) T.z_len (by decide +kernel) (sa_cons (se_var 1) (sa_nil))) (se_int)) (sw_or1 (st_not (st_val (c_call C_is_weight (hr.mono (by decide)) hgd pW0 (sa_cons (se_ix xd_ix (se_var 1) (se_int)) (sa_nil))))))).pt) (ss_one (s_ret (se_bl))) (ss_nil)) (ss_cons (s_if (st_inC (neg := false) op_in_seq T.t_SLANTED rfl (se_ix xd_ix (se_var 1) (se_int))) (ss_one (s_ret (c_call C_is_place (hr.mono (by decide)) hgd pW0 (sa_cons (se_op (od_sub) (se_var 0) (se_int)) (sa_cons (se_ix xd_ix (se_var 1) (se_int)) (sa_nil)))))) (ss_nil)) (ss_one (s_ret (se_and (se_cmp (od_eq hu) (se_ix xd_ix (se_var 1) (se_int)) (se_str)) (se_one (c_call C_is_place (hr.mono (by decide)) hgd pW0 (sa_cons (se_var 0) (sa_cons (se_ix xd_ix (se_var 1) (se_int)) (sa_nil)))))))))))
theorem ok_is_piece {f : Addr} {fd : FuncData} (T : Txt P w K mg) (F : Fun K "is_piece" "is_piece" s_is_piece f fd) (hm : mg "is_piece" = some (.ref f)) {f_is_place : Addr} {fd_is_place : FuncData} (C_is_place : Cal P w K mg base 2 "is_place" s_is_place ps_is_place f_is_place fd_is_place m_is_place) {f_is_weight : Addr} {fd_is_weight : FuncData} (C_is_weight : Cal P w K mg base 3 "is_weight" s_is_weight ps_is_weight f_is_weight fd_is_weight m_is_weight) : Cal P w K mg base 4 "is_piece" s_is_piece ps_is_piece f fd m_is_piece := ⟨F, (st_is_piece T F C_is_place C_is_weight).pure, hm, bd_is_piece F⟩
theorem bd_common {f : Addr} {fd : FuncData} (F : Fun K "common" "common" s_common f fd) : Binds K fd ps_common [] := F.binds fun _ _ _ _ _ _ us hl => match us, hl with | [_, _], _ => rfl
theorem st_common {f : Addr} {fd : FuncData} (T : Txt P w K mg) (F : Fun K "common" "common" s_common f fd)  : FnM P w K mg base 1 f fd ps_common (mDefQ 2 2 b_common) := by
  refine fnm_nox (k := 0) (N := N_common) (ps := ps_common) (body := b_common) F sc_common fun cdv A outer s H E hr hgd => ?_
  have hu := hu64 hr
  have hu5 := hu65 hr
  have hu1 : (A.deeper (envOfC "common" (defScope s_common) s.heap.objs.size f cdv)).units + 1 < cLine := by omega
  have nd := sc_common.nd
  exact ss_cons (s_while 30 PassesOwn.never (st_cmp (od_ne hu) (se_var 1) (se_int)) (ss_one (s_par 0 1 (by rfl) nd (sa_cons (se_var 1) (sa_cons (se_op (od_mod) (se_var 0) (se_var 1)) (sa_nil)))))) (ss_one (s_ret (se_var 0)))
theorem ok_common {f : Addr} {fd : FuncData} (T : Txt P w K mg) (F : Fun K "common" "common" s_common f fd) (hm : mg "common" = some (.ref f))  : Cal P w K mg base 1 "common" s_common ps_common f fd m_common := ⟨F, (st_common T F ).pure, hm, bd_common F⟩
theorem bd_lowest {f : Addr} {fd : FuncData} (F : Fun K "lowest" "lowest" s_lowest f fd) : Binds K fd ps_lowest [] := F.binds fun _ _ _ _ _ _ us hl => match us, hl with | [_], _ => rfl
theorem st_lowest {f : Addr} {fd : FuncData} (T : Txt P w K mg) (F : Fun K "lowest" "lowest" s_lowest f fd) {f_common : Addr} {fd_common : FuncData} (C_common : Cal P w K mg base 1 "common" s_common ps_common f_common fd_common m_common) : FnM P w K mg base 2 f fd ps_lowest (mDefQ 1 4 b_lowest) := by
  refine fnm_nox (k := 1) (N := N_lowest) (ps := ps_lowest) (body := b_lowest) F sc_lowest fun cdv A outer s H E hr hgd => ?_
  have hu := hu64 hr
  have hu5 := hu65 hr
  have hu1 : (A.deeper (envOfC "lowest" (defScope s_lowest) s.heap.objs.size f cdv)).units + 1 < cLine := by omega
  have nd := sc_lowest.nd
  exact ss_cons (s_asg (se_var 0) (sg_tup (by rfl) (sgs_cons (sg_name 1 nd) (sgs_cons (sg_name 2 nd) (sgs_nil))))) (ss_cons (s_set 3 nd (c_call C_common (hr.mono (by decide)) hgd pW0 (sa_cons (se_callB cd_abs (by rfl) T.z_abs (by decide +kernel) (sa_cons (se_var 1) (sa_nil))) (sa_cons (se_var 2) (sa_nil))))) (ss_one (s_ret (se_tup (sa_cons (se_op (od_div) (se_var 1) (se_var 3)) (sa_cons (se_op (od_div) (se_var 2) (se_var 3)) (sa_nil)))))))
theorem ok_lowest {f : Addr} {fd : FuncData} (T : Txt P w K mg) (F : Fun K "lowest" "lowest" s_lowest f fd) (hm : mg "lowest" = some (.ref f)) {f_common : Addr} {fd_common : FuncData} (C_common : Cal P w K mg base 1 "common" s_common ps_common f_common fd_common m_common) : Cal P w K mg base 2 "lowest" s_lowest ps_lowest f fd m_lowest := ⟨F, (st_lowest T F C_common).pure, hm, bd_lowest F⟩
theorem bd_kept_weight {f : Addr} {fd : FuncData} (F : Fun K "kept_weight" "kept_weight" s_kept_weight f fd) : Binds K fd ps_kept_weight [] := F.binds fun _ _ _ _ _ _ us hl => match us, hl with | [_], _ => rfl
theorem st_kept_weight {f : Addr} {fd : FuncData} (T : Txt P w K mg) (F : Fun K "kept_weight" "kept_weight" s_kept_weight f fd) {f_lowest : Addr} {fd_lowest : FuncData} (C_lowest : Cal P w K mg base 2 "lowest" s_lowest ps_lowest f_lowest fd_lowest m_lowest) : FnM P w K mg base 3 f fd ps_kept_weight (mDefQ 1 1 b_kept_weight) := by
  refine fnm_nox (k := 2) (N := N_kept_weight) (ps := ps_kept_weight) (body := b_kept_weight) F sc_kept_weight fun cdv A outer s H E hr hgd => ?_
  have hu := hu64 hr
  have hu5 := hu65 hr
  have hu1 : (A.deeper (envOfC "kept_weight" (defScope s_kept_weight) s.heap.objs.size f cdv)).units + 1 < cLine := by omega
  have nd := sc_kept_weight.nd
  exact ss_one (s_ret (se_ifE (st_val (se_isiT .str T.o_own T.z_isinstance T.z_str (se_var 0))) (se_var 0) (c_call C_lowest (hr.mono (by decide)) hgd pW0 (sa_cons (se_var 0) (sa_nil)))))
theorem ok_kept_weight {f : Addr} {fd : FuncData} (T : Txt P w K mg) (F : Fun K "kept_weight" "kept_weight" s_kept_weight f fd) (hm : mg "kept_weight" = some (.ref f)) {f_lowest : Addr} {fd_lowest : FuncData} (C_lowest : Cal P w K mg base 2 "lowest" s_lowest ps_lowest f_lowest fd_lowest m_lowest) : Cal P w K mg base 3 "kept_weight" s_kept_weight ps_kept_weight f fd m_kept_weight := ⟨F, (st_kept_weight T F C_lowest).pure, hm, bd_kept_weight F⟩
theorem bd_kept_piece {f : Addr} {fd : FuncData} (F : Fun K "kept_piece" "kept_piece" s_kept_piece f fd) : Binds K fd ps_kept_piece [] := F.binds fun _ _ _ _ _ _ us hl => match us, hl with | [_], _ => rfl
theorem st_kept_piece {f : Addr} {fd : FuncData} (T : Txt P w K mg) (F : Fun K "kept_piece" "kept_piece" s_kept_piece f fd) {f_kept_weight : Addr} {fd_kept_weight : FuncData} (C_kept_weight : Cal P w K mg base 3 "kept_weight" s_kept_weight ps_kept_weight f_kept_weight fd_kept_weight m_kept_weight) : FnM P w K mg base 4 f fd ps_kept_piece (mDefQ 1 1 b_kept_piece) := by
  refine fnm_nox (k := 3) (N := N_kept_piece) (ps := ps_kept_piece) (body := b_kept_piece) F sc_kept_piece fun cdv A outer s H E hr hgd => ?_
  have hu := hu64 hr
  have hu5 := hu65 hr
  have hu1 : (A.deeper (envOfC "kept_piece" (defScope s_kept_piece) s.heap.objs.size f cdv)).units + 1 < cLine := by omega
  have nd := sc_kept_piece.nd
  exact ss_one (s_ret (se_ifE (st_cmp (od_eq hu) (se_ix xd_ix (se_var 0) (se_int)) (se_str)) (se_var 0) (se_tup (sa_cons (se_ix xd_ix (se_var 0) (se_int)) (sa_cons (se_ix xd_ix (se_var 0) (se_int)) (sa_cons (c_call C_kept_weight (hr.mono (by decide)) hgd pW0 (sa_cons (se_ix xd_ix (se_var 0) (se_int)) (sa_nil))) (sa_nil)))))))
theorem ok_kept_piece {f : Addr} {fd : FuncData} (T : Txt P w K mg) (F : Fun K "kept_piece" "kept_piece" s_kept_piece f fd) (hm : mg "kept_piece" = some (.ref f)) {f_kept_weight : Addr} {fd_kept_weight : FuncData} (C_kept_weight : Cal P w K mg base 3 "kept_weight" s_kept_weight ps_kept_weight f_kept_weight fd_kept_weight m_kept_weight) : Cal P w K mg base 4 "kept_piece" s_kept_piece ps_kept_piece f fd m_kept_piece := ⟨F, (st_kept_piece T F C_kept_weight).pure, hm, bd_kept_piece F⟩
theorem bd_Board_init {f : Addr} {fd : FuncData} (F : Fun K "__init__" "Board.__init__" s_Board_init f fd) : Binds K fd ps_Board_init [] := F.binds fun _ _ _ _ _ _ us hl => match us, hl with | [_, _, _], _ => rfl
theorem st_Board_init {f : Addr} {fd : FuncData} (T : Txt P w K mg) (F : Fun K "__init__" "Board.__init__" s_Board_init f fd) {f_kept_piece : Addr} {fd_kept_piece : FuncData} (C_kept_piece : Cal P w K mg base 4 "kept_piece" s_kept_piece ps_kept_piece f_kept_piece fd_kept_piece m_kept_piece) {f_is_piece : Addr} {fd_is_piece : FuncData} (C_is_piece : Cal P w K mg base 4 "is_piece" s_is_piece ps_is_piece f_is_piece fd_is_piece m_is_piece) {f_is_size : Addr} {fd_is_size : FuncData} (C_is_size : Cal P w K mg base 2 "is_size" s_is_size ps_is_size f_is_size fd_is_size m_is_size) : FnM P w K mg base 5 f fd ps_Board_init (mDefQ 3 5 b_Board_init) := by
  refine fnm_nox (k := 4) (N := N_Board_init) (ps := ps_Board_init) (body := b_Board_init) F sc_Board_init fun cdv A outer s H E hr hgd => ?_
  have hu := hu64 hr
  have hu5 := hu65 hr
  have hu1 : (A.deeper (envOfC "Board.__init__" (defScope s_Board_init) s.heap.objs.size f cdv)).units + 1 < cLine := by omega
  have nd := sc_Board_init.nd
  exact ss_cons (s_if (st_not (st_val (c_call C_is_size (hr.mono (by decide)) hgd pW0 (sa_cons (se_var 1) (sa_cons (se_gi T.y_MOST_SIZE) (sa_nil)))))) (ss_one (s_never)) (ss_nil)) (ss_cons (s_if (st_not (st_val (se_isiT .tuple T.o_own T.z_isinstance T.z_tuple (se_var 2)))) (ss_one (s_never)) (ss_nil)) (ss_cons (s_for PassesOwn.never (by rfl) (si_enumB (by rfl) T.z_enumerate (sa_cons (se_var 2) (sa_nil))) (sg_tup (by rfl) (sgs_cons (sg_name 3 nd) (sgs_cons (sg_name 4 nd) (sgs_nil)))) (ss_one (s_if (st_not (st_val (c_call C_is_piece (hr.mono (by decide)) hgd pW0 (sa_cons (se_var 1) (sa_cons (se_var 4) (sa_nil)))))) (ss_one (s_never)) (ss_nil)))) (ss_cons (s_setA T.a_size (se_var 0) (se_var 1)) (ss_one (s_setA T.a_pieces (se_var 0) (se_callTy cd_tup (by rfl) T.z_tuple (by decide +kernel) (sa_cons (se_lc (own := [("piece", 4)]) (by rfl) nd (si_seq (se_var 2)) (blkOk_by (by kernel_rfl)) (fun _ _ _ _ _ => sg_name 4 nd) (fun _ _ _ _ _ => sts_nil) (fun _ _ _ _ _ => c_call C_kept_piece (hr.mono (by decide)) hgd pW0 (sa_cons (se_var 4) (sa_nil)))) (sa_nil))))))))
theorem ok_Board_init {f : Addr} {fd : FuncData} (T : Txt P w K mg) (F : Fun K "__init__" "Board.__init__" s_Board_init f fd) {f_kept_piece : Addr} {fd_kept_piece : FuncData} (C_kept_piece : Cal P w K mg base 4 "kept_piece" s_kept_piece ps_kept_piece f_kept_piece fd_kept_piece m_kept_piece) {f_is_piece : Addr} {fd_is_piece : FuncData} (C_is_piece : Cal P w K mg base 4 "is_piece" s_is_piece ps_is_piece f_is_piece fd_is_piece m_is_piece) {f_is_size : Addr} {fd_is_size : FuncData} (C_is_size : Cal P w K mg base 2 "is_size" s_is_size ps_is_size f_is_size fd_is_size m_is_size) : CalM P w K mg base 5 "__init__" "Board.__init__" s_Board_init ps_Board_init f fd m_Board_init := ⟨F, (st_Board_init T F C_kept_piece C_is_piece C_is_size), bd_Board_init F⟩
theorem bd_straight {f : Addr} {fd : FuncData} (F : Fun K "straight" "straight" s_straight f fd) : Binds K fd ps_straight [] := F.binds fun _ _ _ _ _ _ us hl => match us, hl with | [_], _ => rfl
theorem st_straight {f : Addr} {fd : FuncData} (T : Txt P w K mg) (F : Fun K "straight" "straight" s_straight f fd) {f_is_size : Addr} {fd_is_size : FuncData} (C_is_size : Cal P w K mg base 2 "is_size" s_is_size ps_is_size f_is_size fd_is_size m_is_size) {f_Board_init : Addr} {fd_Board_init : FuncData} (C_Board_init : CalM P w K mg base 5 "__init__" "Board.__init__" s_Board_init ps_Board_init f_Board_init fd_Board_init m_Board_init) {C_Board : Addr} (L_Board : ClsM K mg "Board" C_Board f_Board_init) : FnM P w K mg base 7 f fd ps_straight (mDef 1 1 b_straight) := by
  obtain ⟨C_BadSize, B_BadSize, fI_BadSize, X_BadSize⟩ := T.x_BadSize
  refine fnm_of (k := 6) (N := N_straight) (ps := ps_straight) (body := b_straight) F sc_straight fun cdv A outer s H E hr hgd => ?_
  have tk := tkE (X := cxOf (L2.CX P w) P w K mg base N_straight "straight" (defScope s_straight) f cdv A outer s H E) rfl rfl rfl rfl
  have hu := hu64 hr
  have hu5 := hu65 hr
  have hu1 : (A.deeper (envOfC "straight" (defScope s_straight) s.heap.objs.size f cdv)).units + 1 < cLine := by omega
  have nd := sc_straight.nd
  exact ss_cons (s_if (st_not (st_val (c_call C_is_size (hr.mono (by decide)) hgd (fun σ => passAt tk σ) (sa_cons (se_var 0) (sa_cons (se_gi T.y_MOST_SIZE) (sa_nil)))))) (ss_one (c_raise1 X_BadSize (hr.mono (by decide)) tk rfl (sa_cons (se_var 0) (sa_nil)))) (ss_nil)) (ss_one (s_ret (c_make C_Board_init L_Board (hr.mono (by decide)) hgd (fun σ => passAt tk σ) (sa_cons (se_var 0) (sa_cons (se_tup (sa_nil)) (sa_nil))))))
theorem ok_straight {f : Addr} {fd : FuncData} (T : Txt P w K mg) (F : Fun K "straight" "straight" s_straight f fd) (hm : mg "straight" = some (.ref f)) {f_is_size : Addr} {fd_is_size : FuncData} (C_is_size : Cal P w K mg base 2 "is_size" s_is_size ps_is_size f_is_size fd_is_size m_is_size) {f_Board_init : Addr} {fd_Board_init : FuncData} (C_Board_init : CalM P w K mg base 5 "__init__" "Board.__init__" s_Board_init ps_Board_init f_Board_init fd_Board_init m_Board_init) {C_Board : Addr} (L_Board : ClsM K mg "Board" C_Board f_Board_init) : Cal P w K mg base 7 "straight" s_straight ps_straight f fd m_straight := ⟨F, (st_straight T F C_is_size C_Board_init L_Board).pure, hm, bd_straight F⟩
theorem bd_w_draw {f : Addr} {fd : FuncData} (F : Fun K "_law_draw" "_law_draw" s_w_draw f fd) : Binds K fd ps_w_draw [] := F.binds fun _ _ _ _ _ _ us hl => match us, hl with | [_, _], _ => rfl
theorem st_w_draw {f : Addr} {fd : FuncData} (T : Txt P w K mg) (F : Fun K "_law_draw" "_law_draw" s_w_draw f fd)  : FnM P w K mg base 1 f fd ps_w_draw (mDefQ 2 4 b_w_draw) := by
  refine fnm_nox (k := 0) (N := N_w_draw) (ps := ps_w_draw) (body := b_w_draw) F sc_w_draw fun cdv A outer s H E hr hgd => ?_
  have hu := hu64 hr
  have hu5 := hu65 hr
  have hu1 : (A.deeper (envOfC "_law_draw" (defScope s_w_draw) s.heap.objs.size f cdv)).units + 1 < cLine := by omega
  have nd := sc_w_draw.nd
  exact ss_cons (s_putD (k := .inr "turn") hu1 (se_var 0) (se_op (od_add (m := false)) (se_getD (k := .inr "turn") hu1 (se_var 0) pe_str) (se_int)) pe_str) (ss_cons (s_if (st_cmp (od_ne hu) (se_getD (k := .inr "cells") hu1 (se_var 0) pe_str) (se_lst (sa_nil))) (ss_cons (s_set 2 nd (se_lm0 PySem.F.slot_list_pop PySem.F.type_list_pop md_pop (se_getD (k := .inr "cells") hu1 (se_var 0) pe_str))) (ss_cons (s_if (st_cmp od_ge (se_var 2) (se_op (od_pow) (se_int) (se_int))) (ss_cons (s_expr (se_lm PySem.F.slot_list_append PySem.F.type_list_append md_append (se_getD (k := .inr "cells") hu1 (se_var 0) pe_str) (sa_cons (se_op (od_div) (se_var 2) (se_callB (cd_max2 (by rfl)) (by rfl) T.z_max (by decide +kernel) (sa_cons (se_int) (sa_cons (se_var 1) (sa_nil))))) (sa_nil)))) (ss_one (s_ret (se_op (od_mod) (se_var 2) (se_var 1))))) (ss_nil)) (ss_one (s_putD (k := .inr "mixed") hu1 (se_var 0) (se_op (od_mod) (se_op (od_add (m := false)) (se_op (od_add (m := false)) (se_getD (k := .inr "mixed") hu1 (se_var 0) pe_str) (se_op (od_mod) (se_var 2) (se_int))) (se_int)) (se_int)) pe_str)))) (ss_nil)) (ss_cons (s_set 3 nd (se_op (od_mod) (se_op (od_add (m := false)) (se_op (od_add (m := false)) (se_op (od_mul (m := false)) (se_getD (k := .inr "mixed") hu1 (se_var 0) pe_str) (se_int)) (se_op (od_mul (m := false)) (se_getD (k := .inr "turn") hu1 (se_var 0) pe_str) (se_int))) (se_int)) (se_int))) (ss_cons (s_putD (k := .inr "mixed") hu1 (se_var 0) (se_op (od_mod) (se_op (od_add (m := false)) (se_op (od_mul (m := false)) (se_var 3) (se_var 3)) (se_getD (k := .inr "turn") hu1 (se_var 0) pe_str)) (se_int)) pe_str) (ss_one (s_ret (se_op (od_mod) (se_op (od_div) (se_getD (k := .inr "mixed") hu1 (se_var 0) pe_str) (se_int)) (se_var 1)))))))
theorem ok_w_draw {f : Addr} {fd : FuncData} (T : Txt P w K mg) (F : Fun K "_law_draw" "_law_draw" s_w_draw f fd) (hm : mg "_law_draw" = some (.ref f))  : Cal P w K mg base 1 "_law_draw" s_w_draw ps_w_draw f fd m_w_draw := ⟨F, (st_w_draw T F ), hm, bd_w_draw F⟩
theorem bd_w_pick {f : Addr} {fd : FuncData} (F : Fun K "_law_pick" "_law_pick" s_w_pick f fd) : Binds K fd ps_w_pick [] := F.binds fun _ _ _ _ _ _ us hl => match us, hl with | [_, _], _ => rfl
theorem st_w_pick {f : Addr} {fd : FuncData} (T : Txt P w K mg) (F : Fun K "_law_pick" "_law_pick" s_w_pick f fd) {f_w_draw : Addr} {fd_w_draw : FuncData} (C_w_draw : Cal P w K mg base 1 "_law_draw" s_w_draw ps_w_draw f_w_draw fd_w_draw m_w_draw) : FnM P w K mg base 2 f fd ps_w_pick (mDefQ 2 2 b_w_pick) := by
  refine fnm_nox (k := 1) (N := N_w_pick) (ps := ps_w_pick) (body := b_w_pick) F sc_w_pick fun cdv A outer s H E hr hgd => ?_
  have hu := hu64 hr
  have hu5 := hu65 hr
  have hu1 : (A.deeper (envOfC "_law_pick" (defScope s_w_pick) s.heap.objs.size f cdv)).units + 1 < cLine := by omega
  have nd := sc_w_pick.nd
  exact ss_one (s_ret (se_ix xd_ix (se_var 1) (c_call C_w_draw (hr.mono (by decide)) hgd pW0 (sa_cons (se_var 0) (sa_cons (se_callB cd_len (by rfl) T.z_len (by decide +kernel) (sa_cons (se_var 1) (sa_nil))) (sa_nil))))))
theorem ok_w_pick {f : Addr} {fd : FuncData} (T : Txt P w K mg) (F : Fun K "_law_pick" "_law_pick" s_w_pick f fd) (hm : mg "_law_pick" = some (.ref f)) {f_w_draw : Addr} {fd_w_draw : FuncData} (C_w_draw : Cal P w K mg base 1 "_law_draw" s_w_draw ps_w_draw f_w_draw fd_w_draw m_w_draw) : Cal P w K mg base 2 "_law_pick" s_w_pick ps_w_pick f fd m_w_pick := ⟨F, (st_w_pick T F C_w_draw), hm, bd_w_pick F⟩
theorem bd_behind {f : Addr} {fd : FuncData} (F : Fun K "behind" "behind" s_behind f fd) : Binds K fd ps_behind [] := F.binds fun _ _ _ _ _ _ us hl => match us, hl with | [_, _], _ => rfl
theorem st_behind {f : Addr} {fd : FuncData} (T : Txt P w K mg) (F : Fun K "behind" "behind" s_behind f fd) {f_Board_init : Addr} {fd_Board_init : FuncData} (C_Board_init : CalM P w K mg base 5 "__init__" "Board.__init__" s_Board_init ps_Board_init f_Board_init fd_Board_init m_Board_init) {C_Board : Addr} (L_Board : ClsM K mg "Board" C_Board f_Board_init) : FnM P w K mg base 7 f fd ps_behind (mDef 2 2 b_behind) := by
  obtain ⟨C_OtherSizes, B_OtherSizes, fI_OtherSizes, X_OtherSizes⟩ := T.x_OtherSizes
  refine fnm_of (k := 6) (N := N_behind) (ps := ps_behind) (body := b_behind) F sc_behind fun cdv A outer s H E hr hgd => ?_
  have tk := tkE (X := cxOf (L2.CX P w) P w K mg base N_behind "behind" (defScope s_behind) f cdv A outer s H E) rfl rfl rfl rfl
  have hu := hu64 hr
  have hu5 := hu65 hr
  have hu1 : (A.deeper (envOfC "behind" (defScope s_behind) s.heap.objs.size f cdv)).units + 1 < cLine := by omega
  have nd := sc_behind.nd
  exact ss_cons (s_if (st_cmp (od_ne hu) (se_attr T.a_size (se_var 0)) (se_attr T.a_size (se_var 1))) (ss_one (c_raise0 X_OtherSizes (hr.mono (by decide)) tk rfl)) (ss_nil)) (ss_one (s_ret (c_make C_Board_init L_Board (hr.mono (by decide)) hgd (fun σ => passAt tk σ) (sa_cons (se_attr T.a_size (se_var 0)) (sa_cons (se_op (od_add (m := false)) (se_attr T.a_pieces (se_var 0)) (se_attr T.a_pieces (se_var 1))) (sa_nil))))))
theorem ok_behind {f : Addr} {fd : FuncData} (T : Txt P w K mg) (F : Fun K "behind" "behind" s_behind f fd) (hm : mg "behind" = some (.ref f)) {f_Board_init : Addr} {fd_Board_init : FuncData} (C_Board_init : CalM P w K mg base 5 "__init__" "Board.__init__" s_Board_init ps_Board_init f_Board_init fd_Board_init m_Board_init) {C_Board : Addr} (L_Board : ClsM K mg "Board" C_Board f_Board_init) : Cal P w K mg base 7 "behind" s_behind ps_behind f fd m_behind := ⟨F, (st_behind T F C_Board_init L_Board).pure, hm, bd_behind F⟩
theorem bd_moved {f : Addr} {fd : FuncData} (F : Fun K "moved" "moved" s_moved f fd) : Binds K fd ps_moved [] := F.binds fun _ _ _ _ _ _ us hl => match us, hl with | [_, _], _ => rfl
theorem st_moved {f : Addr} {fd : FuncData} (T : Txt P w K mg) (F : Fun K "moved" "moved" s_moved f fd)  : FnM P w K mg base 1 f fd ps_moved (mDefQ 2 2 b_moved) := by
  refine fnm_nox (k := 0) (N := N_moved) (ps := ps_moved) (body := b_moved) F sc_moved fun cdv A outer s H E hr hgd => ?_
  have hu := hu64 hr
  have hu5 := hu65 hr
  have hu1 : (A.deeper (envOfC "moved" (defScope s_moved) s.heap.objs.size f cdv)).units + 1 < cLine := by omega
  have nd := sc_moved.nd
  exact ss_one (s_ret (se_op (od_add (m := false)) (se_tup (sa_cons (se_ix xd_ix (se_var 0) (se_int)) (sa_cons (se_op (od_add (m := false)) (se_ix xd_ix (se_var 0) (se_int)) (se_var 1)) (sa_nil)))) (se_sl (m := false) (se_var 0) (sp_some (se_int)) sp_none)))
theorem ok_moved {f : Addr} {fd : FuncData} (T : Txt P w K mg) (F : Fun K "moved" "moved" s_moved f fd) (hm : mg "moved" = some (.ref f))  : Cal P w K mg base 1 "moved" s_moved ps_moved f fd m_moved := ⟨F, (st_moved T F ).pure, hm, bd_moved F⟩
theorem bd_below {f : Addr} {fd : FuncData} (F : Fun K "below" "below" s_below f fd) : Binds K fd ps_below [] := F.binds fun _ _ _ _ _ _ us hl => match us, hl with | [_, _], _ => rfl
theorem st_below {f : Addr} {fd : FuncData} (T : Txt P w K mg) (F : Fun K "below" "below" s_below f fd) {f_moved : Addr} {fd_moved : FuncData} (C_moved : Cal P w K mg base 1 "moved" s_moved ps_moved f_moved fd_moved m_moved) {f_Board_init : Addr} {fd_Board_init : FuncData} (C_Board_init : CalM P w K mg base 5 "__init__" "Board.__init__" s_Board_init ps_Board_init f_Board_init fd_Board_init m_Board_init) {C_Board : Addr} (L_Board : ClsM K mg "Board" C_Board f_Board_init) : FnM P w K mg base 7 f fd ps_below (mDef 2 4 b_below) := by
  obtain ⟨C_BadSize, B_BadSize, fI_BadSize, X_BadSize⟩ := T.x_BadSize
  refine fnm_of (k := 6) (N := N_below) (ps := ps_below) (body := b_below) F sc_below fun cdv A outer s H E hr hgd => ?_
  have tk := tkE (X := cxOf (L2.CX P w) P w K mg base N_below "below" (defScope s_below) f cdv A outer s H E) rfl rfl rfl rfl
  have hu := hu64 hr
  have hu5 := hu65 hr
  have hu1 : (A.deeper (envOfC "below" (defScope s_below) s.heap.objs.size f cdv)).units + 1 < cLine := by omega
  have nd := sc_below.nd
  exact ss_cons (s_set 2 nd (se_op (od_add (m := false)) (se_attr T.a_size (se_var 0)) (se_attr T.a_size (se_var 1)))) (ss_cons (s_if (st_cmp od_gt (se_var 2) (se_gi T.y_MOST_SIZE)) (ss_one (c_raise1 X_BadSize (hr.mono (by decide)) tk rfl (sa_cons (se_var 2) (sa_nil)))) (ss_nil)) (ss_one (s_ret (c_make C_Board_init L_Board (hr.mono (by decide)) hgd (fun σ => passAt tk σ) (sa_cons (se_var 2) (sa_cons (se_op (od_add (m := false)) (se_attr T.a_pieces (se_var 0)) (se_callTy cd_tup (by rfl) T.z_tuple (by decide +kernel) (sa_cons (se_lc (own := [("piece", 3)]) (by rfl) nd (si_seq (se_attr T.a_pieces (se_var 1))) (blkOk_by (by kernel_rfl)) (fun _ _ _ _ _ => sg_name 3 nd) (fun _ _ _ _ _ => sts_nil) (fun _ _ _ _ _ => c_call C_moved (hr.mono (by decide)) hgd pW0 (sa_cons (se_var 3) (sa_cons (se_attr T.a_size (se_var 0)) (sa_nil))))) (sa_nil)))) (sa_nil)))))))
theorem ok_below {f : Addr} {fd : FuncData} (T : Txt P w K mg) (F : Fun K "below" "below" s_below f fd) (hm : mg "below" = some (.ref f)) {f_moved : Addr} {fd_moved : FuncData} (C_moved : Cal P w K mg base 1 "moved" s_moved ps_moved f_moved fd_moved m_moved) {f_Board_init : Addr} {fd_Board_init : FuncData} (C_Board_init : CalM P w K mg base 5 "__init__" "Board.__init__" s_Board_init ps_Board_init f_Board_init fd_Board_init m_Board_init) {C_Board : Addr} (L_Board : ClsM K mg "Board" C_Board f_Board_init) : Cal P w K mg base 7 "below" s_below ps_below f fd m_below := ⟨F, (st_below T F C_moved C_Board_init L_Board).pure, hm, bd_below F⟩
theorem bd_w_refused {f : Addr} {fd : FuncData} (F : Fun K "_law_refused" "_law_refused" s_w_refused f fd) : Binds K fd ps_w_refused [] := F.binds fun _ _ _ _ _ _ us hl => match us, hl with | [_, _, _], _ => rfl
theorem st_w_refused {f : Addr} {fd : FuncData} (T : Txt P w K mg) (F : Fun K "_law_refused" "_law_refused" s_w_refused f fd) {f_behind : Addr} {fd_behind : FuncData} (C_behind : Cal P w K mg base 7 "behind" s_behind ps_behind f_behind fd_behind m_behind) {f_below : Addr} {fd_below : FuncData} (C_below : Cal P w K mg base 7 "below" s_below ps_below f_below fd_below m_below) {f_straight : Addr} {fd_straight : FuncData} (C_straight : Cal P w K mg base 7 "straight" s_straight ps_straight f_straight fd_straight m_straight) {f_Board_init : Addr} {C_Board : Addr} (L_Board : ClsM K mg "Board" C_Board f_Board_init) : FnM P w K mg base 8 f fd ps_w_refused (mDefQ 3 5 b_w_refused) := by
  obtain ⟨C_OtherSizes, B_OtherSizes, fI_OtherSizes, X_OtherSizes⟩ := T.x_OtherSizes
  obtain ⟨C_BadSize, B_BadSize, fI_BadSize, X_BadSize⟩ := T.x_BadSize
  obtain ⟨D_OtherSizes_CompanyError, G_OtherSizes_CompanyError, K_OtherSizes_CompanyError⟩ := T.k_OtherSizes_CompanyError
  obtain ⟨D_BadSize_CompanyError, G_BadSize_CompanyError, K_BadSize_CompanyError⟩ := T.k_BadSize_CompanyError
  refine fnm_nox (k := 7) (N := N_w_refused) (ps := ps_w_refused) (body := b_w_refused) F sc_w_refused fun cdv A outer s H E hr hgd => ?_
  have hu := hu64 hr
  have hu5 := hu65 hr
  have hu1 : (A.deeper (envOfC "_law_refused" (defScope s_w_refused) s.heap.objs.size f cdv)).units + 1 < cLine := by omega
  have nd := sc_w_refused.nd
  exact ss_one (s_tryM rfl rfl nd tk0 (fun W pn xe tk _ => ss_cons (s_if (st_cmp (od_eq hu) (se_var 0) (se_int)) (ss_one (s_set 3 nd (c_call C_behind (hr.mono (by decide)) hgd (fun σ => passAt tk σ) (sa_cons (se_var 1) (sa_cons (se_var 2) (sa_nil)))))) (ss_one (s_if (st_cmp (od_eq hu) (se_var 0) (se_int)) (ss_one (s_set 3 nd (c_call C_below (hr.mono (by decide)) hgd (fun σ => passAt tk σ) (sa_cons (se_var 1) (sa_cons (se_var 2) (sa_nil)))))) (ss_one (s_if (st_cmp (od_eq hu) (se_var 0) (se_int)) (ss_one (s_set 3 nd (c_call C_straight (hr.mono (by decide)) hgd (fun σ => passAt tk σ) (sa_cons (se_var 1) (sa_nil))))) (ss_one (s_if (st_cmp (od_eq hu) (se_var 0) (se_int)) (ss_one (s_set 3 nd (c_callK0 C_behind (kb_behind_1_0 C_behind.F) (hr.mono (by decide)) hgd (fun σ => passAt tk σ) (sk_cons (se_var 2) (sk_cons (se_var 1) (sk_nil)))))) (ss_one (s_if (st_cmp (od_eq hu) (se_var 0) (se_int)) (ss_one (s_set 3 nd (c_callK0 C_below (kb_below_1_0 C_below.F) (hr.mono (by decide)) hgd (fun σ => passAt tk σ) (sk_cons (se_var 2) (sk_cons (se_var 1) (sk_nil)))))) (ss_one (s_set 3 nd (c_callK0 C_straight (kb_straight_0 C_straight.F) (hr.mono (by decide)) hgd (fun σ => passAt tk σ) (sk_cons (se_var 1) (sk_nil)))))))))))))) (ss_one (s_ret (se_tup (sa_cons (se_str) (sa_cons (se_attr T.a_size (se_var 3)) (sa_cons (se_attr T.a_pieces (se_var 3)) (sa_cons (c_isiC T.o_own rfl L_Board T.z_isinstance (se_var 3)) (sa_nil))))))))) (.cons rfl rfl (names_of0 X_OtherSizes) (hits_cons X_OtherSizes.ns X_OtherSizes.me (hits_ap X_BadSize.ns X_OtherSizes.ns T.p_BadSize_OtherSizes (hits_nil))) (fun a oe cls dd pn er he hz hf => h_ss (h_ret (h_tup (h_cons (h_lift (se_str)) (h_cons (h_isi hz hf T.z_isinstance G_OtherSizes_CompanyError (fun C hC => kit_hit0 X_OtherSizes (by decide +kernel) he K_OtherSizes_CompanyError C hC) rfl (by first | exact Or.inl rfl | exact Or.inr (Or.inl rfl) | exact Or.inr (Or.inr rfl))) (h_nil)))))) (.cons rfl rfl (names_of X_BadSize) (hits_ap X_OtherSizes.ns X_BadSize.ns T.p_OtherSizes_BadSize (hits_cons X_BadSize.ns X_BadSize.me (hits_nil))) (fun a oe cls dd pn er he hz hf => h_ss (h_ret (h_tup (h_cons (h_lift (se_str)) (h_cons (h_fld hz hf (get_hit X_BadSize (by decide +kernel) he)) (h_cons (h_isi hz hf T.z_isinstance G_BadSize_CompanyError (fun C hC => kit_hit X_BadSize (by decide +kernel) he K_BadSize_CompanyError C hC) rfl (by first | exact Or.inl rfl | exact Or.inr (Or.inl rfl) | exact Or.inr (Or.inr rfl))) (h_nil))))))) (.nil))))
theorem ok_w_refused {f : Addr} {fd : FuncData} (T : Txt P w K mg) (F : Fun K "_law_refused" "_law_refused" s_w_refused f fd) (hm : mg "_law_refused" = some (.ref f)) {f_behind : Addr} {fd_behind : FuncData} (C_behind : Cal P w K mg base 7 "behind" s_behind ps_behind f_behind fd_behind m_behind) {f_below : Addr} {fd_below : FuncData} (C_below : Cal P w K mg base 7 "below" s_below ps_below f_below fd_below m_below) {f_straight : Addr} {fd_straight : FuncData} (C_straight : Cal P w K mg base 7 "straight" s_straight ps_straight f_straight fd_straight m_straight) {f_Board_init : Addr} {C_Board : Addr} (L_Board : ClsM K mg "Board" C_Board f_Board_init) : Cal P w K mg base 8 "_law_refused" s_w_refused ps_w_refused f fd m_w_refused := ⟨F, (st_w_refused T F C_behind C_below C_straight L_Board).pure, hm, bd_w_refused F⟩
theorem bd_w_piece {f : Addr} {fd : FuncData} (F : Fun K "_law_piece" "_law_piece" s_w_piece f fd) : Binds K fd ps_w_piece [] := F.binds fun _ _ _ _ _ _ us hl => match us, hl with | [_, _], _ => rfl
theorem st_w_piece {f : Addr} {fd : FuncData} (T : Txt P w K mg) (F : Fun K "_law_piece" "_law_piece" s_w_piece f fd) {f_w_pick : Addr} {fd_w_pick : FuncData} (C_w_pick : Cal P w K mg base 2 "_law_pick" s_w_pick ps_w_pick f_w_pick fd_w_pick m_w_pick) {f_w_draw : Addr} {fd_w_draw : FuncData} (C_w_draw : Cal P w K mg base 1 "_law_draw" s_w_draw ps_w_draw f_w_draw fd_w_draw m_w_draw) : FnM P w K mg base 3 f fd ps_w_piece (mDefQ 2 5 b_w_piece) := by
  refine fnm_nox (k := 2) (N := N_w_piece) (ps := ps_w_piece) (body := b_w_piece) F sc_w_piece fun cdv A outer s H E hr hgd => ?_
  have hu := hu64 hr
  have hu5 := hu65 hr
  have hu1 : (A.deeper (envOfC "_law_piece" (defScope s_w_piece) s.heap.objs.size f cdv)).units + 1 < cLine := by omega
  have nd := sc_w_piece.nd
  exact ss_cons (s_set 2 nd (se_ifE (st_cmp od_gt (se_var 1) (se_int)) (c_call C_w_pick (hr.mono (by decide)) hgd pW0 (sa_cons (se_var 0) (sa_cons (se_lst (sa_cons (se_str) (sa_cons (se_str) (sa_cons (se_str) (sa_cons (se_str) (sa_nil)))))) (sa_nil)))) (se_str))) (ss_cons (s_set 3 nd (c_call C_w_draw (hr.mono (by decide)) hgd pW0 (sa_cons (se_var 0) (sa_cons (se_ifE (st_cmp (od_eq hu) (se_var 2) (se_str)) (se_var 1) (se_op (od_sub) (se_var 1) (se_int))) (sa_nil))))) (ss_cons (s_set 4 nd (se_lst (sa_cons (se_str) (sa_cons (se_str) (sa_cons (se_str) (sa_cons (se_tup (sa_cons (se_int) (sa_cons (se_int) (sa_nil)))) (sa_cons (se_tup (sa_cons (se_int) (sa_cons (se_int) (sa_nil)))) (sa_cons (se_tup (sa_cons (se_int) (sa_cons (se_int) (sa_nil)))) (sa_cons (se_tup (sa_cons (se_int) (sa_cons (se_int) (sa_nil)))) (sa_cons (se_tup (sa_cons (se_int) (sa_cons (se_int) (sa_nil)))) (sa_cons (se_tup (sa_cons (se_int) (sa_cons (se_int) (sa_nil)))) (sa_nil)))))))))))) (ss_one (s_ret (se_ifE (st_cmp (od_eq hu) (se_var 2) (se_str)) (se_tup (sa_cons (se_var 2) (sa_cons (se_var 3) (sa_nil)))) (se_tup (sa_cons (se_var 2) (sa_cons (se_var 3) (sa_cons (c_call C_w_pick (hr.mono (by decide)) hgd pW0 (sa_cons (se_var 0) (sa_cons (se_var 4) (sa_nil)))) (sa_nil))))))))))
theorem ok_w_piece {f : Addr} {fd : FuncData} (T : Txt P w K mg) (F : Fun K "_law_piece" "_law_piece" s_w_piece f fd) (hm : mg "_law_piece" = some (.ref f)) {f_w_pick : Addr} {fd_w_pick : FuncData} (C_w_pick : Cal P w K mg base 2 "_law_pick" s_w_pick ps_w_pick f_w_pick fd_w_pick m_w_pick) {f_w_draw : Addr} {fd_w_draw : FuncData} (C_w_draw : Cal P w K mg base 1 "_law_draw" s_w_draw ps_w_draw f_w_draw fd_w_draw m_w_draw) : Cal P w K mg base 3 "_law_piece" s_w_piece ps_w_piece f fd m_w_piece := ⟨F, (st_w_piece T F C_w_pick C_w_draw), hm, bd_w_piece F⟩
theorem bd_w_pieces {f : Addr} {fd : FuncData} (F : Fun K "_law_pieces" "_law_pieces" s_w_pieces f fd) : Binds K fd ps_w_pieces [] := F.binds fun _ _ _ _ _ _ us hl => match us, hl with | [_, _], _ => rfl
theorem st_w_pieces {f : Addr} {fd : FuncData} (T : Txt P w K mg) (F : Fun K "_law_pieces" "_law_pieces" s_w_pieces f fd) {f_w_pick : Addr} {fd_w_pick : FuncData} (C_w_pick : Cal P w K mg base 2 "_law_pick" s_w_pick ps_w_pick f_w_pick fd_w_pick m_w_pick) {f_w_piece : Addr} {fd_w_piece : FuncData} (C_w_piece : Cal P w K mg base 3 "_law_piece" s_w_piece ps_w_piece f_w_piece fd_w_piece m_w_piece) : FnM P w K mg base 4 f fd ps_w_pieces (mDefQ 2 3 b_w_pieces) := by
  refine fnm_nox (k := 3) (N := N_w_pieces) (ps := ps_w_pieces) (body := b_w_pieces) F sc_w_pieces fun cdv A outer s H E hr hgd => ?_
  have hu := hu64 hr
  have hu5 := hu65 hr
  have hu1 : (A.deeper (envOfC "_law_pieces" (defScope s_w_pieces) s.heap.objs.size f cdv)).units + 1 < cLine := by omega
  have nd := sc_w_pieces.nd
  exact ss_one (s_ret (se_callTy cd_tup (by rfl) T.z_tuple (by decide +kernel) (sa_cons (se_lc (own := [("_law_turn", 2)]) (by rfl) nd (si_rng1 (by rfl) T.z_range (sa_cons (c_call C_w_pick (hr.mono (by decide)) hgd pW0 (sa_cons (se_var 0) (sa_cons (se_lst (sa_cons (se_int) (sa_cons (se_int) (sa_cons (se_int) (sa_cons (se_int) (sa_cons (se_int) (sa_cons (se_int) (sa_cons (se_int) (sa_nil))))))))) (sa_nil)))) (sa_nil))) (blkOk_by (by kernel_rfl)) (fun _ _ _ _ _ => sg_name 2 nd) (fun _ _ _ _ _ => sts_nil) (fun _ _ _ _ _ => c_call C_w_piece (hr.mono (by decide)) hgd pW0 (sa_cons (se_var 0) (sa_cons (se_var 1) (sa_nil))))) (sa_nil))))
theorem ok_w_pieces {f : Addr} {fd : FuncData} (T : Txt P w K mg) (F : Fun K "_law_pieces" "_law_pieces" s_w_pieces f fd) (hm : mg "_law_pieces" = some (.ref f)) {f_w_pick : Addr} {fd_w_pick : FuncData} (C_w_pick : Cal P w K mg base 2 "_law_pick" s_w_pick ps_w_pick f_w_pick fd_w_pick m_w_pick) {f_w_piece : Addr} {fd_w_piece : FuncData} (C_w_piece : Cal P w K mg base 3 "_law_piece" s_w_piece ps_w_piece f_w_piece fd_w_piece m_w_piece) : Cal P w K mg base 4 "_law_pieces" s_w_pieces ps_w_pieces f fd m_w_pieces := ⟨F, (st_w_pieces T F C_w_pick C_w_piece), hm, bd_w_pieces F⟩
theorem bd_w_lifted {f : Addr} {fd : FuncData} (F : Fun K "_law_lifted" "_law_lifted" s_w_lifted f fd) : Binds K fd ps_w_lifted [] := F.binds fun _ _ _ _ _ _ us hl => match us, hl with | [_, _], _ => rfl
theorem st_w_lifted {f : Addr} {fd : FuncData} (T : Txt P w K mg) (F : Fun K "_law_lifted" "_law_lifted" s_w_lifted f fd)  : FnM P w K mg base 1 f fd ps_w_lifted (mDefQ 2 3 b_w_lifted) := by
  refine fnm_nox (k := 0) (N := N_w_lifted) (ps := ps_w_lifted) (body := b_w_lifted) F sc_w_lifted fun cdv A outer s H E hr hgd => ?_
  have hu := hu64 hr
  have hu5 := hu65 hr
  have hu1 : (A.deeper (envOfC "_law_lifted" (defScope s_w_lifted) s.heap.objs.size f cdv)).units + 1 < cLine := by omega
  have nd := sc_w_lifted.nd
  exact ss_one (s_ret (se_callTy cd_tup (by rfl) T.z_tuple (by decide +kernel) (sa_cons (se_lc (own := [("_law_piece_here", 2)]) (by rfl) nd (si_seq (se_var 0)) (blkOk_by (by kernel_rfl)) (fun _ _ _ _ _ => sg_name 2 nd) (fun _ _ _ _ _ => sts_nil) (fun _ _ _ _ _ => se_op (od_add (m := false)) (se_tup (sa_cons (se_ix xd_ix (se_var 2) (se_int)) (sa_cons (se_op (od_add (m := false)) (se_ix xd_ix (se_var 2) (se_int)) (se_var 1)) (sa_nil)))) (se_sl (m := false) (se_var 2) (sp_some (se_int)) sp_none))) (sa_nil))))
theorem ok_w_lifted {f : Addr} {fd : FuncData} (T : Txt P w K mg) (F : Fun K "_law_lifted" "_law_lifted" s_w_lifted f fd) (hm : mg "_law_lifted" = some (.ref f))  : Cal P w K mg base 1 "_law_lifted" s_w_lifted ps_w_lifted f fd m_w_lifted := ⟨F, (st_w_lifted T F ).pure, hm, bd_w_lifted F⟩
theorem bd_w_are_joined_right {f : Addr} {fd : FuncData} (F : Fun K "_law_are_joined_right" "_law_are_joined_right" s_w_are_joined_right f fd) : Binds K fd ps_w_are_joined_right [] := F.binds fun _ _ _ _ _ _ us hl => match us, hl with | [_, _, _, _], _ => rfl
theorem st_w_are_joined_right {f : Addr} {fd : FuncData} (T : Txt P w K mg) (F : Fun K "_law_are_joined_right" "_law_are_joined_right" s_w_are_joined_right f fd) {f_w_refused : Addr} {fd_w_refused : FuncData} (C_w_refused : Cal P w K mg base 8 "_law_refused" s_w_refused ps_w_refused f_w_refused fd_w_refused m_w_refused) {f_w_lifted : Addr} {fd_w_lifted : FuncData} (C_w_lifted : Cal P w K mg base 1 "_law_lifted" s_w_lifted ps_w_lifted f_w_lifted fd_w_lifted m_w_lifted) : FnM P w K mg base 9 f fd ps_w_are_joined_right (mDefQ 4 5 b_w_are_joined_right) := by
  refine fnm_nox (k := 8) (N := N_w_are_joined_right) (ps := ps_w_are_joined_right) (body := b_w_are_joined_right) F sc_w_are_joined_right fun cdv A outer s H E hr hgd => ?_
  have hu := hu64 hr
  have hu5 := hu65 hr
  have hu1 : (A.deeper (envOfC "_law_are_joined_right" (defScope s_w_are_joined_right) s.heap.objs.size f cdv)).units + 1 < cLine := by omega
  have nd := sc_w_are_joined_right.nd
  exact ss_cons (s_set 4 nd (se_ifE (st_cmp (od_eq hu) (se_ix xd_ix (se_var 0) (se_int)) (se_ix xd_ix (se_var 0) (se_int))) (se_tup (sa_cons (se_str) (sa_cons (se_ix xd_ix (se_var 0) (se_int)) (sa_cons (se_op (od_add (m := false)) (se_ix xd_ix (se_var 1) (se_int)) (se_ix xd_ix (se_var 1) (se_int))) (sa_cons (se_bl) (sa_nil)))))) (se_tup (sa_cons (se_str) (sa_cons (se_bl) (sa_nil)))))) (ss_cons (s_if (st_cmp (od_ne hu) (se_callB (cd_reprB hu hgd) (by rfl) T.z_repr (by decide +kernel) (sa_cons (se_lst (sa_cons (c_call C_w_refused (hr.mono (by decide)) hgd pW0 (sa_cons (se_int) (sa_cons (se_var 2) (sa_cons (se_var 3) (sa_nil))))) (sa_cons (c_call C_w_refused (hr.mono (by decide)) hgd pW0 (sa_cons (se_int) (sa_cons (se_var 2) (sa_cons (se_var 3) (sa_nil))))) (sa_nil)))) (sa_nil))) (se_callB (cd_reprB hu hgd) (by rfl) T.z_repr (by decide +kernel) (sa_cons (se_lst (sa_cons (se_var 4) (sa_cons (se_var 4) (sa_nil)))) (sa_nil)))) (ss_one (s_ret (se_bl))) (ss_nil)) (ss_cons (s_set 4 nd (se_tup (sa_cons (se_str) (sa_cons (se_op (od_add (m := false)) (se_ix xd_ix (se_var 0) (se_int)) (se_ix xd_ix (se_var 0) (se_int))) (sa_cons (se_op (od_add (m := false)) (se_ix xd_ix (se_var 1) (se_int)) (c_call C_w_lifted (hr.mono (by decide)) hgd pW0 (sa_cons (se_ix xd_ix (se_var 1) (se_int)) (sa_cons (se_ix xd_ix (se_var 0) (se_int)) (sa_nil))))) (sa_cons (se_bl) (sa_nil))))))) (ss_cons (s_if (st_cmp od_gt (se_op (od_add (m := false)) (se_ix xd_ix (se_var 0) (se_int)) (se_ix xd_ix (se_var 0) (se_int))) (se_int)) (ss_one (s_set 4 nd (se_tup (sa_cons (se_str) (sa_cons (se_op (od_add (m := false)) (se_ix xd_ix (se_var 0) (se_int)) (se_ix xd_ix (se_var 0) (se_int))) (sa_cons (se_bl) (sa_nil))))))) (ss_nil)) (ss_one (s_ret (se_cmp (od_eq hu) (se_callB (cd_reprB hu hgd) (by rfl) T.z_repr (by decide +kernel) (sa_cons (se_lst (sa_cons (c_call C_w_refused (hr.mono (by decide)) hgd pW0 (sa_cons (se_int) (sa_cons (se_var 2) (sa_cons (se_var 3) (sa_nil))))) (sa_cons (c_call C_w_refused (hr.mono (by decide)) hgd pW0 (sa_cons (se_int) (sa_cons (se_var 2) (sa_cons (se_var 3) (sa_nil))))) (sa_nil)))) (sa_nil))) (se_callB (cd_reprB hu hgd) (by rfl) T.z_repr (by decide +kernel) (sa_cons (se_lst (sa_cons (se_var 4) (sa_cons (se_var 4) (sa_nil)))) (sa_nil)))))))))
theorem ok_w_are_joined_right {f : Addr} {fd : FuncData} (T : Txt P w K mg) (F : Fun K "_law_are_joined_right" "_law_are_joined_right" s_w_are_joined_right f fd) (hm : mg "_law_are_joined_right" = some (.ref f)) {f_w_refused : Addr} {fd_w_refused : FuncData} (C_w_refused : Cal P w K mg base 8 "_law_refused" s_w_refused ps_w_refused f_w_refused fd_w_refused m_w_refused) {f_w_lifted : Addr} {fd_w_lifted : FuncData} (C_w_lifted : Cal P w K mg base 1 "_law_lifted" s_w_lifted ps_w_lifted f_w_lifted fd_w_lifted m_w_lifted) : Cal P w K mg base 9 "_law_are_joined_right" s_w_are_joined_right ps_w_are_joined_right f fd m_w_are_joined_right := ⟨F, (st_w_are_joined_right T F C_w_refused C_w_lifted).pure, hm, bd_w_are_joined_right F⟩
theorem bd_turned_word {f : Addr} {fd : FuncData} (F : Fun K "turned_word" "turned_word" s_turned_word f fd) : Binds K fd ps_turned_word [] := F.binds fun _ _ _ _ _ _ us hl => match us, hl with | [_], _ => rfl
theorem st_turned_word {f : Addr} {fd : FuncData} (T : Txt P w K mg) (F : Fun K "turned_word" "turned_word" s_turned_word f fd)  : FnM P w K mg base 1 f fd ps_turned_word (mDefQ 1 1 b_turned_word) := by
  refine fnm_nox (k := 0) (N := N_turned_word) (ps := ps_turned_word) (body := b_turned_word) F sc_turned_word fun cdv A outer s H E hr hgd => ?_
  have hu := hu64 hr
  have hu5 := hu65 hr
  have hu1 : (A.deeper (envOfC "turned_word" (defScope s_turned_word) s.heap.objs.size f cdv)).units + 1 < cLine := by omega
  have nd := sc_turned_word.nd
  exact ss_cons (s_if (st_cmp (od_eq hu) (se_var 0) (se_str)) (ss_one (s_ret (se_str))) (ss_nil)) (ss_one (s_ret (se_ifE (st_cmp (od_eq hu) (se_var 0) (se_str)) (se_str) (se_var 0))))
theorem ok_turned_word {f : Addr} {fd : FuncData} (T : Txt P w K mg) (F : Fun K "turned_word" "turned_word" s_turned_word f fd) (hm : mg "turned_word" = some (.ref f))  : Cal P w K mg base 1 "turned_word" s_turned_word ps_turned_word f fd m_turned_word := ⟨F, (st_turned_word T F ).pure, hm, bd_turned_word F⟩
theorem bd_backwards {f : Addr} {fd : FuncData} (F : Fun K "backwards" "backwards" s_backwards f fd) : Binds K fd ps_backwards [] := F.binds fun _ _ _ _ _ _ us hl => match us, hl with | [_], _ => rfl
theorem st_backwards {f : Addr} {fd : FuncData} (T : Txt P w K mg) (F : Fun K "backwards" "backwards" s_backwards f fd) {f_turned_word : Addr} {fd_turned_word : FuncData} (C_turned_word : Cal P w K mg base 1 "turned_word" s_turned_word ps_turned_word f_turned_word fd_turned_word m_turned_word) {f_Board_init : Addr} {fd_Board_init : FuncData} (C_Board_init : CalM P w K mg base 5 "__init__" "Board.__init__" s_Board_init ps_Board_init f_Board_init fd_Board_init m_Board_init) {C_Board : Addr} (L_Board : ClsM K mg "Board" C_Board f_Board_init) : FnM P w K mg base 7 f fd ps_backwards (mDefQ 1 2 b_backwards) := by
  refine fnm_nox (k := 6) (N := N_backwards) (ps := ps_backwards) (body := b_backwards) F sc_backwards fun cdv A outer s H E hr hgd => ?_
  have hu := hu64 hr
  have hu5 := hu65 hr
  have hu1 : (A.deeper (envOfC "backwards" (defScope s_backwards) s.heap.objs.size f cdv)).units + 1 < cLine := by omega
  have nd := sc_backwards.nd
  exact ss_one (s_ret (c_make C_Board_init L_Board (hr.mono (by decide)) hgd pW0 (sa_cons (se_attr T.a_size (se_var 0)) (sa_cons (se_callTy cd_tup (by rfl) T.z_tuple (by decide +kernel) (sa_cons (se_lc (own := [("piece", 1)]) (by rfl) nd (si_seq (se_or1 (se_rev (m := false) (se_attr T.a_pieces (se_var 0))) (se_revT (se_attr T.a_pieces (se_var 0))))) (blkOk_by (by kernel_rfl)) (fun _ _ _ _ _ => sg_name 1 nd) (fun _ _ _ _ _ => sts_nil) (fun _ _ _ _ _ => se_op (od_add (m := false)) (se_tup (sa_cons (c_call C_turned_word (hr.mono (by decide)) hgd pW0 (sa_cons (se_ix xd_ix (se_var 1) (se_int)) (sa_nil))) (sa_nil))) (se_sl (m := false) (se_var 1) (sp_some (se_int)) sp_none))) (sa_nil))) (sa_nil)))))
theorem ok_backwards {f : Addr} {fd : FuncData} (T : Txt P w K mg) (F : Fun K "backwards" "backwards" s_backwards f fd) (hm : mg "backwards" = some (.ref f)) {f_turned_word : Addr} {fd_turned_word : FuncData} (C_turned_word : Cal P w K mg base 1 "turned_word" s_turned_word ps_turned_word f_turned_word fd_turned_word m_turned_word) {f_Board_init : Addr} {fd_Board_init : FuncData} (C_Board_init : CalM P w K mg base 5 "__init__" "Board.__init__" s_Board_init ps_Board_init f_Board_init fd_Board_init m_Board_init) {C_Board : Addr} (L_Board : ClsM K mg "Board" C_Board f_Board_init) : Cal P w K mg base 7 "backwards" s_backwards ps_backwards f fd m_backwards := ⟨F, (st_backwards T F C_turned_word C_Board_init L_Board).pure, hm, bd_backwards F⟩
theorem bd_mirrored {f : Addr} {fd : FuncData} (F : Fun K "mirrored" "mirrored" s_mirrored f fd) : Binds K fd ps_mirrored [] := F.binds fun _ _ _ _ _ _ us hl => match us, hl with | [_, _], _ => rfl
theorem st_mirrored {f : Addr} {fd : FuncData} (T : Txt P w K mg) (F : Fun K "mirrored" "mirrored" s_mirrored f fd) {f_turned_word : Addr} {fd_turned_word : FuncData} (C_turned_word : Cal P w K mg base 1 "turned_word" s_turned_word ps_turned_word f_turned_word fd_turned_word m_turned_word) : FnM P w K mg base 2 f fd ps_mirrored (mDefQ 2 3 b_mirrored) := by
  refine fnm_nox (k := 1) (N := N_mirrored) (ps := ps_mirrored) (body := b_mirrored) F sc_mirrored fun cdv A outer s H E hr hgd => ?_
  have hu := hu64 hr
  have hu5 := hu65 hr
  have hu1 : (A.deeper (envOfC "mirrored" (defScope s_mirrored) s.heap.objs.size f cdv)).units + 1 < cLine := by omega
  have nd := sc_mirrored.nd
  exact ss_cons (s_set 2 nd (se_ifE (st_cmp (od_eq hu) (se_ix xd_ix (se_var 1) (se_int)) (se_str)) (se_op (od_sub) (se_var 0) (se_int)) (se_op (od_sub) (se_var 0) (se_int)))) (ss_one (s_ret (se_op (od_add (m := false)) (se_tup (sa_cons (c_call C_turned_word (hr.mono (by decide)) hgd pW0 (sa_cons (se_ix xd_ix (se_var 1) (se_int)) (sa_nil))) (sa_cons (se_op (od_sub) (se_var 2) (se_ix xd_ix (se_var 1) (se_int))) (sa_nil)))) (se_sl (m := false) (se_var 1) (sp_some (se_int)) sp_none))))
theorem ok_mirrored {f : Addr} {fd : FuncData} (T : Txt P w K mg) (F : Fun K "mirrored" "mirrored" s_mirrored f fd) (hm : mg "mirrored" = some (.ref f)) {f_turned_word : Addr} {fd_turned_word : FuncData} (C_turned_word : Cal P w K mg base 1 "turned_word" s_turned_word ps_turned_word f_turned_word fd_turned_word m_turned_word) : Cal P w K mg base 2 "mirrored" s_mirrored ps_mirrored f fd m_mirrored := ⟨F, (st_mirrored T F C_turned_word).pure, hm, bd_mirrored F⟩
theorem bd_upside_down {f : Addr} {fd : FuncData} (F : Fun K "upside_down" "upside_down" s_upside_down f fd) : Binds K fd ps_upside_down [] := F.binds fun _ _ _ _ _ _ us hl => match us, hl with | [_], _ => rfl
theorem st_upside_down {f : Addr} {fd : FuncData} (T : Txt P w K mg) (F : Fun K "upside_down" "upside_down" s_upside_down f fd) {f_mirrored : Addr} {fd_mirrored : FuncData} (C_mirrored : Cal P w K mg base 2 "mirrored" s_mirrored ps_mirrored f_mirrored fd_mirrored m_mirrored) {f_Board_init : Addr} {fd_Board_init : FuncData} (C_Board_init : CalM P w K mg base 5 "__init__" "Board.__init__" s_Board_init ps_Board_init f_Board_init fd_Board_init m_Board_init) {C_Board : Addr} (L_Board : ClsM K mg "Board" C_Board f_Board_init) : FnM P w K mg base 7 f fd ps_upside_down (mDefQ 1 2 b_upside_down) := by
  refine fnm_nox (k := 6) (N := N_upside_down) (ps := ps_upside_down) (body := b_upside_down) F sc_upside_down fun cdv A outer s H E hr hgd => ?_
  have hu := hu64 hr
  have hu5 := hu65 hr
  have hu1 : (A.deeper (envOfC "upside_down" (defScope s_upside_down) s.heap.objs.size f cdv)).units + 1 < cLine := by omega
  have nd := sc_upside_down.nd
  exact ss_one (s_ret (c_make C_Board_init L_Board (hr.mono (by decide)) hgd pW0 (sa_cons (se_attr T.a_size (se_var 0)) (sa_cons (se_callTy cd_tup (by rfl) T.z_tuple (by decide +kernel) (sa_cons (se_lc (own := [("piece", 1)]) (by rfl) nd (si_seq (se_attr T.a_pieces (se_var 0))) (blkOk_by (by kernel_rfl)) (fun _ _ _ _ _ => sg_name 1 nd) (fun _ _ _ _ _ => sts_nil) (fun _ _ _ _ _ => c_call C_mirrored (hr.mono (by decide)) hgd pW0 (sa_cons (se_attr T.a_size (se_var 0)) (sa_cons (se_var 1) (sa_nil))))) (sa_nil))) (sa_nil)))))
theorem ok_upside_down {f : Addr} {fd : FuncData} (T : Txt P w K mg) (F : Fun K "upside_down" "upside_down" s_upside_down f fd) (hm : mg "upside_down" = some (.ref f)) {f_mirrored : Addr} {fd_mirrored : FuncData} (C_mirrored : Cal P w K mg base 2 "mirrored" s_mirrored ps_mirrored f_mirrored fd_mirrored m_mirrored) {f_Board_init : Addr} {fd_Board_init : FuncData} (C_Board_init : CalM P w K mg base 5 "__init__" "Board.__init__" s_Board_init ps_Board_init f_Board_init fd_Board_init m_Board_init) {C_Board : Addr} (L_Board : ClsM K mg "Board" C_Board f_Board_init) : Cal P w K mg base 7 "upside_down" s_upside_down ps_upside_down f fd m_upside_down := ⟨F, (st_upside_down T F C_mirrored C_Board_init L_Board).pure, hm, bd_upside_down F⟩
theorem bd_w_turned {f : Addr} {fd : FuncData} (F : Fun K "_law_turned" "_law_turned" s_w_turned f fd) : Binds K fd ps_w_turned [] := F.binds fun _ _ _ _ _ _ us hl => match us, hl with | [_, _, _], _ => rfl
theorem st_w_turned {f : Addr} {fd : FuncData} (T : Txt P w K mg) (F : Fun K "_law_turned" "_law_turned" s_w_turned f fd)  : FnM P w K mg base 1 f fd ps_w_turned (mDefQ 3 7 b_w_turned) := by
  refine fnm_nox (k := 0) (N := N_w_turned) (ps := ps_w_turned) (body := b_w_turned) F sc_w_turned fun cdv A outer s H E hr hgd => ?_
  have hu := hu64 hr
  have hu5 := hu65 hr
  have hu1 : (A.deeper (envOfC "_law_turned" (defScope s_w_turned) s.heap.objs.size f cdv)).units + 1 < cLine := by omega
  have nd := sc_w_turned.nd
  exact ss_cons (s_par 3 4 (by rfl) nd (sa_cons (se_dict (.cons pe_str (se_str) (.cons pe_str (se_str) (.cons pe_str (se_str) (.cons pe_str (se_str) (.nil)))))) (sa_cons (se_lstM (sa_nil)) (sa_nil)))) (ss_cons (s_for PassesOwn.never (by rfl) (si_seq (se_var 1)) (sg_name 5 nd) (ss_cons (s_set 6 nd (se_ifE (st_val (se_var 2)) (se_ix xd_ix (se_var 5) (se_int)) (se_op (od_sub) (se_op (od_sub) (se_var 0) (se_ifE (st_cmp (od_eq hu) (se_ix xd_ix (se_var 5) (se_int)) (se_str)) (se_int) (se_int))) (se_ix xd_ix (se_var 5) (se_int))))) (ss_one (s_expr (se_lm PySem.F.slot_list_append PySem.F.type_list_append md_append (se_var 4) (sa_cons (se_op (od_add (m := false)) (se_tup (sa_cons (se_dget hu5 (se_var 3) (se_ix xd_ix (se_var 5) (se_int))) (sa_cons (se_var 6) (sa_nil)))) (se_sl (m := false) (se_var 5) (sp_some (se_int)) sp_none)) (sa_nil))))))) (ss_one (s_ret (se_callTy cd_tup (by rfl) T.z_tuple (by decide +kernel) (sa_cons (se_ifE (st_val (se_var 2)) (se_rev (m := false) (se_var 4)) (se_var 4)) (sa_nil))))))
theorem ok_w_turned {f : Addr} {fd : FuncData} (T : Txt P w K mg) (F : Fun K "_law_turned" "_law_turned" s_w_turned f fd) (hm : mg "_law_turned" = some (.ref f))  : Cal P w K mg base 1 "_law_turned" s_w_turned ps_w_turned f fd m_w_turned := ⟨F, (st_w_turned T F ).pure, hm, bd_w_turned F⟩
theorem bd_w_is_turned_right {f : Addr} {fd : FuncData} (F : Fun K "_law_is_turned_right" "_law_is_turned_right" s_w_is_turned_right f fd) : Binds K fd ps_w_is_turned_right [] := F.binds fun _ _ _ _ _ _ us hl => match us, hl with | [_, _, _], _ => rfl
theorem st_w_is_turned_right {f : Addr} {fd : FuncData} (T : Txt P w K mg) (F : Fun K "_law_is_turned_right" "_law_is_turned_right" s_w_is_turned_right f fd) {f_upside_down : Addr} {fd_upside_down : FuncData} (C_upside_down : Cal P w K mg base 7 "upside_down" s_upside_down ps_upside_down f_upside_down fd_upside_down m_upside_down) {f_backwards : Addr} {fd_backwards : FuncData} (C_backwards : Cal P w K mg base 7 "backwards" s_backwards ps_backwards f_backwards fd_backwards m_backwards) {f_w_turned : Addr} {fd_w_turned : FuncData} (C_w_turned : Cal P w K mg base 1 "_law_turned" s_w_turned ps_w_turned f_w_turned fd_w_turned m_w_turned) {f_Board_eq : Addr} {fd_Board_eq : FuncData} (C_Board_eq : CalM P w K mg base 1 "__eq__" "Board.__eq__" s_Board_eq ps_Board_eq f_Board_eq fd_Board_eq m_Board_eq) {f_Board_init : Addr} {fd_Board_init : FuncData} (C_Board_init : CalM P w K mg base 5 "__init__" "Board.__init__" s_Board_init ps_Board_init f_Board_init fd_Board_init m_Board_init) {C_Board : Addr} (L_Board : ClsM K mg "Board" C_Board f_Board_init) (E_Board : EqK K "Board" f_Board_eq) : FnM P w K mg base 8 f fd ps_w_is_turned_right (mDefQ 3 5 b_w_is_turned_right) := by
  refine fnm_nox (k := 7) (N := N_w_is_turned_right) (ps := ps_w_is_turned_right) (body := b_w_is_turned_right) F sc_w_is_turned_right fun cdv A outer s H E hr hgd => ?_
  have hu := hu64 hr
  have hu5 := hu65 hr
  have hu1 : (A.deeper (envOfC "_law_is_turned_right" (defScope s_w_is_turned_right) s.heap.objs.size f cdv)).units + 1 < cLine := by omega
  have nd := sc_w_is_turned_right.nd
  exact ss_cons (s_par 3 4 (by rfl) nd (sa_cons (c_call C_backwards (hr.mono (by decide)) hgd pW0 (sa_cons (se_var 2) (sa_nil))) (sa_cons (c_call C_upside_down (hr.mono (by decide)) hgd pW0 (sa_cons (se_var 2) (sa_nil))) (sa_nil)))) (ss_cons (s_if ((sw_or (st_cmp (od_ne hu) (se_callB (cd_reprB hu hgd) (by rfl) T.z_repr (by decide +kernel) (sa_cons (se_attr T.a_pieces (se_var 3)) (sa_nil))) (se_callB (cd_reprB hu hgd) (by rfl) T.z_repr (by decide +kernel) (sa_cons (c_call C_w_turned (hr.mono (by decide)) hgd pW0 (sa_cons (se_var 0) (sa_cons (se_var 1) (sa_cons (se_bl) (sa_nil))))) (sa_nil)))) (sw_or1 (st_cmp (od_ne hu) (se_attr T.a_size (se_var 3)) (se_var 0)))).pt) (ss_one (s_ret (se_bl))) (ss_nil)) (ss_cons (s_if ((sw_or (st_cmp (od_ne hu) (se_callB (cd_reprB hu hgd) (by rfl) T.z_repr (by decide +kernel) (sa_cons (se_attr T.a_pieces (se_var 4)) (sa_nil))) (se_callB (cd_reprB hu hgd) (by rfl) T.z_repr (by decide +kernel) (sa_cons (c_call C_w_turned (hr.mono (by decide)) hgd pW0 (sa_cons (se_var 0) (sa_cons (se_var 1) (sa_cons (se_bl) (sa_nil))))) (sa_nil)))) (sw_or1 (st_cmp (od_ne hu) (se_attr T.a_size (se_var 4)) (se_var 0)))).pt) (ss_one (s_ret (se_bl))) (ss_nil)) (ss_cons (s_if ((sw_or (st_cmp (od_or (od_neO T.o_own rfl E_Board C_Board_eq.ok C_Board_eq.b (hr.mono (by decide)) hgd) (od_ne hu)) (c_callK0 C_backwards (kb_backwards_0 C_backwards.F) (hr.mono (by decide)) hgd pW0 (sk_cons (se_var 3) (sk_nil))) (se_var 2)) (sw_or1 (st_cmp (od_or (od_neO T.o_own rfl E_Board C_Board_eq.ok C_Board_eq.b (hr.mono (by decide)) hgd) (od_ne hu)) (c_callK0 C_upside_down (kb_upside_down_0 C_upside_down.F) (hr.mono (by decide)) hgd pW0 (sk_cons (se_var 4) (sk_nil))) (se_var 2)))).pt) (ss_one (s_ret (se_bl))) (ss_nil)) (ss_one (s_ret (se_and (se_cmp (od_or (od_eqO T.o_own rfl E_Board C_Board_eq.ok C_Board_eq.b (hr.mono (by decide)) hgd) (od_eq hu)) (c_call C_upside_down (hr.mono (by decide)) hgd pW0 (sa_cons (se_var 3) (sa_nil))) (c_call C_backwards (hr.mono (by decide)) hgd pW0 (sa_cons (se_var 4) (sa_nil)))) (se_one (se_cmp (od_or (od_eqO T.o_own rfl E_Board C_Board_eq.ok C_Board_eq.b (hr.mono (by decide)) hgd) (od_eq hu)) (se_var 3) (c_make C_Board_init L_Board (hr.mono (by decide)) hgd pW0 (sa_cons (se_var 0) (sa_cons (c_call C_w_turned (hr.mono (by decide)) hgd pW0 (sa_cons (se_var 0) (sa_cons (se_var 1) (sa_cons (se_bl) (sa_nil))))) (sa_nil))))))))))))
theorem ok_w_is_turned_right {f : Addr} {fd : FuncData} (T : Txt P w K mg) (F : Fun K "_law_is_turned_right" "_law_is_turned_right" s_w_is_turned_right f fd) (hm : mg "_law_is_turned_right" = some (.ref f)) {f_upside_down : Addr} {fd_upside_down : FuncData} (C_upside_down : Cal P w K mg base 7 "upside_down" s_upside_down ps_upside_down f_upside_down fd_upside_down m_upside_down) {f_backwards : Addr} {fd_backwards : FuncData} (C_backwards : Cal P w K mg base 7 "backwards" s_backwards ps_backwards f_backwards fd_backwards m_backwards) {f_w_turned : Addr} {fd_w_turned : FuncData} (C_w_turned : Cal P w K mg base 1 "_law_turned" s_w_turned ps_w_turned f_w_turned fd_w_turned m_w_turned) {f_Board_eq : Addr} {fd_Board_eq : FuncData} (C_Board_eq : CalM P w K mg base 1 "__eq__" "Board.__eq__" s_Board_eq ps_Board_eq f_Board_eq fd_Board_eq m_Board_eq) {f_Board_init : Addr} {fd_Board_init : FuncData} (C_Board_init : CalM P w K mg base 5 "__init__" "Board.__init__" s_Board_init ps_Board_init f_Board_init fd_Board_init m_Board_init) {C_Board : Addr} (L_Board : ClsM K mg "Board" C_Board f_Board_init) (E_Board : EqK K "Board" f_Board_eq) : Cal P w K mg base 8 "_law_is_turned_right" s_w_is_turned_right ps_w_is_turned_right f fd m_w_is_turned_right := ⟨F, (st_w_is_turned_right T F C_upside_down C_backwards C_w_turned C_Board_eq C_Board_init L_Board E_Board).pure, hm, bd_w_is_turned_right F⟩
theorem bd_law {f : Addr} {fd : FuncData} (F : Fun K "law" "law" s_law f fd) : Binds K fd ps_law [] := F.binds fun _ _ _ _ _ _ us hl => match us, hl with | [_], _ => rfl
theorem st_law {f : Addr} {fd : FuncData} (T : Txt P w K mg) (F : Fun K "law" "law" s_law f fd) {f_w_refused : Addr} {fd_w_refused : FuncData} (C_w_refused : Cal P w K mg base 8 "_law_refused" s_w_refused ps_w_refused f_w_refused fd_w_refused m_w_refused) {f_w_pick : Addr} {fd_w_pick : FuncData} (C_w_pick : Cal P w K mg base 2 "_law_pick" s_w_pick ps_w_pick f_w_pick fd_w_pick m_w_pick) {f_backwards : Addr} {fd_backwards : FuncData} (C_backwards : Cal P w K mg base 7 "backwards" s_backwards ps_backwards f_backwards fd_backwards m_backwards) {f_upside_down : Addr} {fd_upside_down : FuncData} (C_upside_down : Cal P w K mg base 7 "upside_down" s_upside_down ps_upside_down f_upside_down fd_upside_down m_upside_down) {f_behind : Addr} {fd_behind : FuncData} (C_behind : Cal P w K mg base 7 "behind" s_behind ps_behind f_behind fd_behind m_behind) {f_straight : Addr} {fd_straight : FuncData} (C_straight : Cal P w K mg base 7 "straight" s_straight ps_straight f_straight fd_straight m_straight) {f_w_is_turned_right : Addr} {fd_w_is_turned_right : FuncData} (C_w_is_turned_right : Cal P w K mg base 8 "_law_is_turned_right" s_w_is_turned_right ps_w_is_turned_right f_w_is_turned_right fd_w_is_turned_right m_w_is_turned_right) {f_w_are_joined_right : Addr} {fd_w_are_joined_right : FuncData} (C_w_are_joined_right : Cal P w K mg base 9 "_law_are_joined_right" s_w_are_joined_right ps_w_are_joined_right f_w_are_joined_right fd_w_are_joined_right m_w_are_joined_right) {f_w_pieces : Addr} {fd_w_pieces : FuncData} (C_w_pieces : Cal P w K mg base 4 "_law_pieces" s_w_pieces ps_w_pieces f_w_pieces fd_w_pieces m_w_pieces) {f_w_draw : Addr} {fd_w_draw : FuncData} (C_w_draw : Cal P w K mg base 1 "_law_draw" s_w_draw ps_w_draw f_w_draw fd_w_draw m_w_draw) {f_w_deck : Addr} {fd_w_deck : FuncData} (C_w_deck : Cal P w K mg base 1 "_law_deck" s_w_deck ps_w_deck f_w_deck fd_w_deck m_w_deck) {f_Board_eq : Addr} {fd_Board_eq : FuncData} (C_Board_eq : CalM P w K mg base 1 "__eq__" "Board.__eq__" s_Board_eq ps_Board_eq f_Board_eq fd_Board_eq m_Board_eq) {f_Board_init : Addr} {fd_Board_init : FuncData} (C_Board_init : CalM P w K mg base 5 "__init__" "Board.__init__" s_Board_init ps_Board_init f_Board_init fd_Board_init m_Board_init) {f_Board_len : Addr} {fd_Board_len : FuncData} (C_Board_len : CalM P w K mg base 1 "__len__" "Board.__len__" s_Board_len ps_Board_len f_Board_len fd_Board_len m_Board_len) {C_Board : Addr} (L_Board : ClsM K mg "Board" C_Board f_Board_init) (E_Board : EqK K "Board" f_Board_eq) (N_Board : Sp1 K "Board" "__len__" f_Board_len) : FnM P w K mg base 10 f fd ps_law (mDefQ 1 17 b_law) := by
  refine fnm_nox (k := 9) (N := N_law) (ps := ps_law) (body := b_law) F sc_law fun cdv A outer s H E hr hgd => ?_
  have hu := hu64 hr
  have hu5 := hu65 hr
  have hu1 : (A.deeper (envOfC "law" (defScope s_law) s.heap.objs.size f cdv)).units + 1 < cLine := by omega
  have nd := sc_law.nd
  exact ss_cons (s_set 1 nd (c_call C_w_deck (hr.mono (by decide)) hgd pW0 (sa_cons (se_var 0) (sa_nil)))) (ss_cons (s_set 2 nd (se_op (od_add (m := false)) (se_int) (c_call C_w_draw (hr.mono (by decide)) hgd pW0 (sa_cons (se_var 1) (sa_cons (se_int) (sa_nil)))))) (ss_cons (s_set 3 nd (se_lst (sa_cons (se_var 2) (sa_cons (c_call C_w_pick (hr.mono (by decide)) hgd pW0 (sa_cons (se_var 1) (sa_cons (se_lst (sa_cons (se_var 2) (sa_cons (se_op (od_add (m := false)) (se_int) (c_call C_w_draw (hr.mono (by decide)) hgd pW0 (sa_cons (se_var 1) (sa_cons (se_int) (sa_nil))))) (sa_cons (se_callB (cd_max2 (by rfl)) (by rfl) T.z_max (by decide +kernel) (sa_cons (se_int) (sa_cons (se_op (od_sub) (se_int) (se_var 2)) (sa_nil)))) (sa_cons (se_callB (cd_min2 (by rfl)) (by rfl) T.z_min (by decide +kernel) (sa_cons (se_int) (sa_cons (se_op (od_sub) (se_int) (se_var 2)) (sa_nil)))) (sa_nil)))))) (sa_nil)))) (sa_nil))))) (ss_cons (s_lc (fin := fin0) (i := 4) (own := [("_law_size", 5)]) (by rfl) nd (si_seq (se_var 3)) (blkOk_by (by kernel_rfl)) (fun _ _ _ _ _ => sg_name 5 nd) (fun _ _ _ _ _ => sts_nil) (fun _ _ _ _ _ => c_call C_w_pieces (hr.mono (by decide)) hgd pW0 (sa_cons (se_var 1) (sa_cons (se_var 5) (sa_nil)))) (fun a b c d e f => fin0_ok a b c d e f) (sw_true rfl rfl rfl (by decide +kernel))) (ss_cons (s_par 6 7 (by rfl) nd (sa_cons (c_make C_Board_init L_Board (hr.mono (by decide)) hgd pW0 (sa_cons (se_ix xd_ix (se_var 3) (se_int)) (sa_cons (se_ix xd_ix (se_var 4) (se_int)) (sa_nil)))) (sa_cons (c_make C_Board_init L_Board (hr.mono (by decide)) hgd pW0 (sa_cons (se_ix xd_ix (se_var 3) (se_int)) (sa_cons (se_ix xd_ix (se_var 4) (se_int)) (sa_nil)))) (sa_nil)))) (ss_cons (s_for PassesOwn.never (by rfl) (si_seq (se_tup (sa_cons (se_tup (sa_cons (se_int) (sa_cons (se_int) (sa_nil)))) (sa_cons (se_tup (sa_cons (se_int) (sa_cons (se_int) (sa_nil)))) (sa_cons (se_tup (sa_cons (se_int) (sa_cons (se_int) (sa_nil)))) (sa_nil)))))) (sg_tup (by rfl) (sgs_cons (sg_name 8 nd) (sgs_cons (sg_name 9 nd) (sgs_nil)))) (ss_cons (s_set 10 nd (se_lst (sa_cons (se_var 6) (sa_cons (se_var 7) (sa_nil))))) (ss_one (s_if (st_not (st_val (c_call C_w_are_joined_right (hr.mono (by decide)) hgd pW0 (sa_cons (se_lst (sa_cons (se_ix xd_ix (se_var 3) (se_var 8)) (sa_cons (se_ix xd_ix (se_var 3) (se_var 9)) (sa_nil)))) (sa_cons (se_lst (sa_cons (se_ix xd_ix (se_var 4) (se_var 8)) (sa_cons (se_ix xd_ix (se_var 4) (se_var 9)) (sa_nil)))) (sa_cons (se_ix xd_ix (se_var 10) (se_var 8)) (sa_cons (se_ix xd_ix (se_var 10) (se_var 9)) (sa_nil)))))))) (ss_one (s_ret (se_bl))) (ss_nil))))) (ss_cons (s_if ((sw_or (st_not (st_val (c_call C_w_is_turned_right (hr.mono (by decide)) hgd pW0 (sa_cons (se_ix xd_ix (se_var 3) (se_int)) (sa_cons (se_ix xd_ix (se_var 4) (se_int)) (sa_cons (se_var 6) (sa_nil))))))) (sw_or1 (st_not (st_val (c_call C_w_is_turned_right (hr.mono (by decide)) hgd pW0 (sa_cons (se_ix xd_ix (se_var 3) (se_int)) (sa_cons (se_ix xd_ix (se_var 4) (se_int)) (sa_cons (se_var 7) (sa_nil))))))))).pt) (ss_one (s_ret (se_bl))) (ss_nil)) (ss_cons (s_if ((sw_and (st_cmp (od_or (od_eqO T.o_own rfl E_Board C_Board_eq.ok C_Board_eq.b (hr.mono (by decide)) hgd) (od_eq hu)) (se_var 2) (se_ix xd_ix (se_var 3) (se_int))) (sw_and1 (st_cmp (od_or (od_neO T.o_own rfl E_Board C_Board_eq.ok C_Board_eq.b (hr.mono (by decide)) hgd) (od_ne hu)) (c_call C_backwards (hr.mono (by decide)) hgd pW0 (sa_cons (c_call C_behind (hr.mono (by decide)) hgd pW0 (sa_cons (se_var 6) (sa_cons (se_var 7) (sa_nil)))) (sa_nil))) (c_call C_behind (hr.mono (by decide)) hgd pW0 (sa_cons (c_call C_backwards (hr.mono (by decide)) hgd pW0 (sa_cons (se_var 7) (sa_nil))) (sa_cons (c_call C_backwards (hr.mono (by decide)) hgd pW0 (sa_cons (se_var 6) (sa_nil))) (sa_nil))))))).pt) (ss_one (s_ret (se_bl))) (ss_nil)) (ss_cons (s_set 11 nd (c_call C_straight (hr.mono (by decide)) hgd pW0 (sa_cons (se_var 2) (sa_nil)))) (ss_cons (s_if ((sw_or (st_cmp (od_or (od_neO T.o_own rfl E_Board C_Board_eq.ok C_Board_eq.b (hr.mono (by decide)) hgd) (od_ne hu)) (se_var 11) (c_make C_Board_init L_Board (hr.mono (by decide)) hgd pW0 (sa_cons (se_var 2) (sa_cons (se_tup (sa_nil)) (sa_nil))))) (sw_or (st_cmp (od_or (od_neO T.o_own rfl E_Board C_Board_eq.ok C_Board_eq.b (hr.mono (by decide)) hgd) (od_ne hu)) (se_callB (cd_lenO N_Board C_Board_len.ok C_Board_len.b (hr.mono (by decide)) hgd) (by rfl) T.z_len (by decide +kernel) (sa_cons (se_var 11) (sa_nil))) (se_int)) (sw_or (st_cmp (od_or (od_neO T.o_own rfl E_Board C_Board_eq.ok C_Board_eq.b (hr.mono (by decide)) hgd) (od_ne hu)) (c_call C_behind (hr.mono (by decide)) hgd pW0 (sa_cons (se_var 11) (sa_cons (se_var 6) (sa_nil)))) (se_var 6)) (sw_or1 (st_cmp (od_or (od_neO T.o_own rfl E_Board C_Board_eq.ok C_Board_eq.b (hr.mono (by decide)) hgd) (od_ne hu)) (c_call C_behind (hr.mono (by decide)) hgd pW0 (sa_cons (se_var 6) (sa_cons (se_var 11) (sa_nil)))) (se_var 6)))))).pt) (ss_one (s_ret (se_bl))) (ss_nil)) (ss_cons (s_if ((sw_or (st_cmp (od_or (od_neO T.o_own rfl E_Board C_Board_eq.ok C_Board_eq.b (hr.mono (by decide)) hgd) (od_ne hu)) (c_call C_backwards (hr.mono (by decide)) hgd pW0 (sa_cons (se_var 11) (sa_nil))) (se_var 11)) (sw_or1 (st_cmp (od_or (od_neO T.o_own rfl E_Board C_Board_eq.ok C_Board_eq.b (hr.mono (by decide)) hgd) (od_ne hu)) (c_call C_upside_down (hr.mono (by decide)) hgd pW0 (sa_cons (se_var 11) (sa_nil))) (se_var 11)))).pt) (ss_one (s_ret (se_bl))) (ss_nil)) (ss_cons (s_set 12 nd (se_lst (sa_cons (se_int) (sa_cons (se_int) (sa_cons (se_un ud_neg (se_int)) (sa_cons (se_bl) (sa_cons (se_bl) (sa_cons (se_non) (sa_cons (se_str) (sa_cons (se_tup (sa_cons (se_int) (sa_nil))) (sa_cons (se_lst (sa_cons (se_int) (sa_nil))) (sa_cons (se_op (od_pow) (se_int) (se_int)) (sa_cons (se_lock (se_dictK)) (sa_cons (se_str) (sa_cons (se_tup (sa_nil)) (sa_cons (se_un ud_neg (se_op (od_pow) (se_int) (se_int))) (sa_cons (se_int) (sa_cons (se_int) (sa_nil))))))))))))))))))) (ss_cons (s_set 13 nd (c_call C_w_pick (hr.mono (by decide)) hgd pW0 (sa_cons (se_var 1) (sa_cons (se_var 12) (sa_nil))))) (ss_cons (s_set 14 nd (se_and (se_isiT .int T.o_own T.z_isinstance T.z_int (se_var 13)) (se_and (se_not (se_isiT .bool T.o_own T.z_isinstance T.z_bool (se_var 13))) (se_one (se_chain (se_int) (sc_link od_le (se_var 13) (sc_last od_le (se_int)))))))) (ss_cons (s_set 15 nd (se_ifE (st_val (se_var 14)) (se_tup (sa_cons (se_str) (sa_cons (se_var 13) (sa_cons (se_tup (sa_nil)) (sa_cons (se_bl) (sa_nil)))))) (se_tup (sa_cons (se_str) (sa_cons (se_var 13) (sa_cons (se_bl) (sa_nil))))))) (ss_cons (s_if (st_cmp (od_ne hu) (se_callB (cd_reprB hu hgd) (by rfl) T.z_repr (by decide +kernel) (sa_cons (se_lst (sa_cons (c_call C_w_refused (hr.mono (by decide)) hgd pW0 (sa_cons (se_int) (sa_cons (se_var 13) (sa_cons (se_non) (sa_nil))))) (sa_cons (c_call C_w_refused (hr.mono (by decide)) hgd pW0 (sa_cons (se_int) (sa_cons (se_var 13) (sa_cons (se_non) (sa_nil))))) (sa_nil)))) (sa_nil))) (se_callB (cd_reprB hu hgd) (by rfl) T.z_repr (by decide +kernel) (sa_cons (se_lst (sa_cons (se_var 15) (sa_cons (se_var 15) (sa_nil)))) (sa_nil)))) (ss_one (s_ret (se_bl))) (ss_nil)) (ss_cons (s_set 16 nd (c_call C_w_refused (hr.mono (by decide)) hgd pW0 (sa_cons (se_int) (sa_cons (se_var 7) (sa_cons (se_non) (sa_nil)))))) (ss_cons (s_if ((sw_or (st_cmp (od_or (od_neO T.o_own rfl E_Board C_Board_eq.ok C_Board_eq.b (hr.mono (by decide)) hgd) (od_ne hu)) (se_ix xd_ix (se_var 16) (se_int)) (se_str)) (sw_or1 (st_cmp (od_or (od_neO T.o_own rfl E_Board C_Board_eq.ok C_Board_eq.b (hr.mono (by decide)) hgd) (od_ne hu)) (se_ix xd_ix (se_var 16) (se_int)) (se_var 7)))).pt) (ss_one (s_ret (se_bl))) (ss_nil)) (ss_one (s_ret (se_and (se_cmp (od_eq hu) (se_attr T.a_size (se_var 6)) (se_var 2)) (se_and (se_cmp (od_eq hu) (se_attr T.a_pieces (se_var 6)) (se_ix xd_ix (se_var 4) (se_int))) (se_and (se_cmp (od_eq hu) (se_attr T.a_size (se_var 7)) (se_ix xd_ix (se_var 3) (se_int))) (se_one (se_cmp (od_eq hu) (se_attr T.a_pieces (se_var 7)) (se_ix xd_ix (se_var 4) (se_int))))))))))))))))))))))))))
theorem ok_law {f : Addr} {fd : FuncData} (T : Txt P w K mg) (F : Fun K "law" "law" s_law f fd) (hm : mg "law" = some (.ref f)) {f_w_refused : Addr} {fd_w_refused : FuncData} (C_w_refused : Cal P w K mg base 8 "_law_refused" s_w_refused ps_w_refused f_w_refused fd_w_refused m_w_refused) {f_w_pick : Addr} {fd_w_pick : FuncData} (C_w_pick : Cal P w K mg base 2 "_law_pick" s_w_pick ps_w_pick f_w_pick fd_w_pick m_w_pick) {f_backwards : Addr} {fd_backwards : FuncData} (C_backwards : Cal P w K mg base 7 "backwards" s_backwards ps_backwards f_backwards fd_backwards m_backwards) {f_upside_down : Addr} {fd_upside_down : FuncData} (C_upside_down : Cal P w K mg base 7 "upside_down" s_upside_down ps_upside_down f_upside_down fd_upside_down m_upside_down) {f_behind : Addr} {fd_behind : FuncData} (C_behind : Cal P w K mg base 7 "behind" s_behind ps_behind f_behind fd_behind m_behind) {f_straight : Addr} {fd_straight : FuncData} (C_straight : Cal P w K mg base 7 "straight" s_straight ps_straight f_straight fd_straight m_straight) {f_w_is_turned_right : Addr} {fd_w_is_turned_right : FuncData} (C_w_is_turned_right : Cal P w K mg base 8 "_law_is_turned_right" s_w_is_turned_right ps_w_is_turned_right f_w_is_turned_right fd_w_is_turned_right m_w_is_turned_right) {f_w_are_joined_right : Addr} {fd_w_are_joined_right : FuncData} (C_w_are_joined_right : Cal P w K mg base 9 "_law_are_joined_right" s_w_are_joined_right ps_w_are_joined_right f_w_are_joined_right fd_w_are_joined_right m_w_are_joined_right) {f_w_pieces : Addr} {fd_w_pieces : FuncData} (C_w_pieces : Cal P w K mg base 4 "_law_pieces" s_w_pieces ps_w_pieces f_w_pieces fd_w_pieces m_w_pieces) {f_w_draw : Addr} {fd_w_draw : FuncData} (C_w_draw : Cal P w K mg base 1 "_law_draw" s_w_draw ps_w_draw f_w_draw fd_w_draw m_w_draw) {f_w_deck : Addr} {fd_w_deck : FuncData} (C_w_deck : Cal P w K mg base 1 "_law_deck" s_w_deck ps_w_deck f_w_deck fd_w_deck m_w_deck) {f_Board_eq : Addr} {fd_Board_eq : FuncData} (C_Board_eq : CalM P w K mg base 1 "__eq__" "Board.__eq__" s_Board_eq ps_Board_eq f_Board_eq fd_Board_eq m_Board_eq) {f_Board_init : Addr} {fd_Board_init : FuncData} (C_Board_init : CalM P w K mg base 5 "__init__" "Board.__init__" s_Board_init ps_Board_init f_Board_init fd_Board_init m_Board_init) {f_Board_len : Addr} {fd_Board_len : FuncData} (C_Board_len : CalM P w K mg base 1 "__len__" "Board.__len__" s_Board_len ps_Board_len f_Board_len fd_Board_len m_Board_len) {C_Board : Addr} (L_Board : ClsM K mg "Board" C_Board f_Board_init) (E_Board : EqK K "Board" f_Board_eq) (N_Board : Sp1 K "Board" "__len__" f_Board_len) : Cal P w K mg base 10 "law" s_law ps_law f fd m_law := ⟨F, (st_law T F C_w_refused C_w_pick C_backwards C_upside_down C_behind C_straight C_w_is_turned_right C_w_are_joined_right C_w_pieces C_w_draw C_w_deck C_Board_eq C_Board_init C_Board_len L_Board E_Board N_Board), hm, bd_law F⟩
end
theorem all_mk {l : PySem.W.OpenLaw} {w : World} {K : PySem.W.Frag} {h : Heap} {mg : Str → Option Value} {fa : Addr} {oC0 : Addr} {uA0 : Addr} {uD0 : Option Addr} {uN0 : Nat} {uS0 : Array (Option Value)} {uT0_0 uT0_1 : Tok} {f1 : Addr} {od1 an1 : Option Addr} {sl1 : Array (Option Value)} {oc1 kV1 dc1 pm1 cd1 ct1 : Value} {f2 : Addr} {od2 an2 : Option Addr} {sl2 : Array (Option Value)} {oc2 kV2 dc2 pm2 cd2 ct2 : Value} {f3 : Addr} {od3 an3 : Option Addr} {sl3 : Array (Option Value)} {oc3 kV3 dc3 pm3 cd3 ct3 : Value} {f4 : Addr} {od4 an4 : Option Addr} {sl4 : Array (Option Value)} {oc4 kV4 dc4 pm4 cd4 ct4 : Value} {f5 : Addr} {od5 an5 : Option Addr} {sl5 : Array (Option Value)} {oc5 kV5 dc5 pm5 cd5 ct5 : Value} {f6 : Addr} {od6 an6 : Option Addr} {sl6 : Array (Option Value)} {oc6 kV6 dc6 pm6 cd6 ct6 : Value} {f7 : Addr} {od7 an7 : Option Addr} {sl7 : Array (Option Value)} {oc7 kV7 dc7 pm7 cd7 ct7 : Value} {f8 : Addr} {od8 an8 : Option Addr} {sl8 : Array (Option Value)} {oc8 kV8 dc8 pm8 cd8 ct8 : Value} {f9 : Addr} {od9 an9 : Option Addr} {sl9 : Array (Option Value)} {oc9 kV9 dc9 pm9 cd9 ct9 : Value} {f10 : Addr} {od10 an10 : Option Addr} {sl10 : Array (Option Value)} {oc10 kV10 dc10 pm10 cd10 ct10 : Value} {f11 : Addr} {od11 an11 : Option Addr} {sl11 : Array (Option Value)} {oc11 kV11 dc11 pm11 cd11 ct11 : Value} {f12 : Addr} {od12 an12 : Option Addr} {sl12 : Array (Option Value)} {oc12 kV12 dc12 pm12 cd12 ct12 : Value} {f13 : Addr} {od13 an13 : Option Addr} {sl13 : Array (Option Value)} {oc13 kV13 dc13 pm13 cd13 ct13 : Value} {f14 : Addr} {od14 an14 : Option Addr} {sl14 : Array (Option Value)} {oc14 kV14 dc14 pm14 cd14 ct14 : Value} {f15 : Addr} {od15 an15 : Option Addr} {sl15 : Array (Option Value)} {oc15 kV15 dc15 pm15 cd15 ct15 : Value} {f16 : Addr} {od16 an16 : Option Addr} {sl16 : Array (Option Value)} {oc16 kV16 dc16 pm16 cd16 ct16 : Value} {f17 : Addr} {od17 an17 : Option Addr} {sl17 : Array (Option Value)} {oc17 kV17 dc17 pm17 cd17 ct17 : Value} {f18 : Addr} {od18 an18 : Option Addr} {sl18 : Array (Option Value)} {oc18 kV18 dc18 pm18 cd18 ct18 : Value} {f19 : Addr} {od19 an19 : Option Addr} {sl19 : Array (Option Value)} {oc19 kV19 dc19 pm19 cd19 ct19 : Value} {f20 : Addr} {od20 an20 : Option Addr} {sl20 : Array (Option Value)} {oc20 kV20 dc20 pm20 cd20 ct20 : Value} {f21 : Addr} {od21 an21 : Option Addr} {sl21 : Array (Option Value)} {oc21 kV21 dc21 pm21 cd21 ct21 : Value} {f22 : Addr} {od22 an22 : Option Addr} {sl22 : Array (Option Value)} {oc22 kV22 dc22 pm22 cd22 ct22 : Value} {f23 : Addr} {od23 an23 : Option Addr} {sl23 : Array (Option Value)} {oc23 kV23 dc23 pm23 cd23 ct23 : Value} {f24 : Addr} {od24 an24 : Option Addr} {sl24 : Array (Option Value)} {oc24 kV24 dc24 pm24 cd24 ct24 : Value} {f25 : Addr} {od25 an25 : Option Addr} {sl25 : Array (Option Value)} {oc25 kV25 dc25 pm25 cd25 ct25 : Value} {f26 : Addr} {od26 an26 : Option Addr} {sl26 : Array (Option Value)} {oc26 kV26 dc26 pm26 cd26 ct26 : Value} {f27 : Addr} {od27 an27 : Option Addr} {sl27 : Array (Option Value)} {oc27 kV27 dc27 pm27 cd27 ct27 : Value} {f28 : Addr} {od28 an28 : Option Addr} {sl28 : Array (Option Value)} {oc28 kV28 dc28 pm28 cd28 ct28 : Value} {f29 : Addr} {od29 an29 : Option Addr} {sl29 : Array (Option Value)} {oc29 kV29 dc29 pm29 cd29 ct29 : Value} {f30 : Addr} {od30 an30 : Option Addr} {sl30 : Array (Option Value)} {oc30 kV30 dc30 pm30 cd30 ct30 : Value} {f31 : Addr} {od31 an31 : Option Addr} {sl31 : Array (Option Value)} {oc31 kV31 dc31 pm31 cd31 ct31 : Value} {f32 : Addr} {od32 an32 : Option Addr} {sl32 : Array (Option Value)} {oc32 kV32 dc32 pm32 cd32 ct32 : Value} {f33 : Addr} {od33 an33 : Option Addr} {sl33 : Array (Option Value)} {oc33 kV33 dc33 pm33 cd33 ct33 : Value} {t0 : Tok} {t1 : Tok} {C0 B0 e0 cc0 da0 : Addr} {xn0 xq0 : Str} {xN0 : Addr} {xb0 : List Value} {xs0 : List Str} {xu0 : List Value} {xa0 : Bool} {xc0 : Option Bool} {xd0 : Option Addr} {m00 m10 m20 m30 m50 : Option Value} {eoc0 : Value} {eod0 : Option Addr} {ekV0 edc0 epm0 : Value} {ean0 : Option Addr} {ect0 : Value} {esl0 : Array (Option Value)} {dcl0 : Value} {dd0 : Option Addr} {dvs0 : Array Value} {dsl0 : Array (Option Value)} {dtf0 : Tok} {lcl0 : Value} {lcd0 : Option Addr} {lsl0 : Array (Option Value)} {bn0 bq0 : Str} {bN0 : Addr} {bb0 : List Value} {bs0 : List Str} {bu0 : List Value} {ba0 : Bool} {bc0 : Option Bool} {bd0 : Option Addr} {n00 n10 n20 n30 n50 : Option Value} {C1 B1 e1 cc1 da1 : Addr} {xn1 xq1 : Str} {xN1 : Addr} {xb1 : List Value} {xs1 : List Str} {xu1 : List Value} {xa1 : Bool} {xc1 : Option Bool} {xd1 : Option Addr} {m01 m11 m21 m31 m51 : Option Value} {eoc1 : Value} {eod1 : Option Addr} {ekV1 edc1 epm1 : Value} {ean1 : Option Addr} {ect1 : Value} {esl1 : Array (Option Value)} {dcl1 : Value} {dd1 : Option Addr} {dvs1 : Array Value} {dsl1 : Array (Option Value)} {dtf1 : Tok} {lcl1 : Value} {lcd1 : Option Addr} {lsl1 : Array (Option Value)} {bn1 bq1 : Str} {bN1 : Addr} {bb1 : List Value} {bs1 : List Str} {bu1 : List Value} {ba1 : Bool} {bc1 : Option Bool} {bd1 : Option Addr} {n01 n11 n21 n31 n51 : Option Value} {gD0 : Addr} {gD1 : Addr} (X : K.In h) (G : h.Ns mainGlobals mg) (hfa : mg "law" = some (.ref fa)) (hfile : (l.prog.main.file : Str) = "/claim/cut.py") (hsup : (l.prog.main.scope.names.lookup ("super" : Str)).isSome = false)
    (oN0 : PySem.W.nsIn K mainGlobals "Board" = some (some (.ref oC0)))
    (oA0 : PySem.W.plainGet K oC0 Str.empty = true)
    (oB0 : PySem.W.hasDictIn K oC0 = true)
    (oD0 : PySem.W.plainOver K oC0 = true)
    (oE0 : PySem.W.findIn K (.ref oC0) "__setattr__" = some (some (.builtin "object.__setattr__")))
    (oF0 : PySem.W.makesIn K oC0 = true)
    (oG0 : PySem.W.keepIn K (.ref oC0) = true)
    (oH0 : PySem.W.mroIn K oC0 (.type "object") = some true)
    (oI0 : PySem.W.mroIn K oC0 (.ref oC0) = some true)
    (oJ0 : PySem.W.typeIn K (.ref oC0) = some (.type "type"))
    (oK0 : PySem.W.findIn K (.ref oC0) "__class__" = some (some (.builtin "object.__class__")))
    (oTint_0 : PySem.W.mroIn K oC0 (.type "int") = some false)
    (oTbool_0 : PySem.W.mroIn K oC0 (.type "bool") = some false)
    (oTstr_0 : PySem.W.mroIn K oC0 (.type "str") = some false)
    (oTtuple_0 : PySem.W.mroIn K oC0 (.type "tuple") = some false)
    (oTlist_0 : PySem.W.mroIn K oC0 (.type "list") = some false)
    (oTdict_0 : PySem.W.mroIn K oC0 (.type "dict") = some false)
    (oQ0 : PySem.W.findIn K (.ref oC0) "__ne__" = some (some (.builtin "object.__ne__")))
    (oRsize_0 : PySem.W.findIn K (.ref oC0) "size" = some none)
    (oRpieces_0 : PySem.W.findIn K (.ref oC0) "pieces" = some none)
    (ogt : PySem.W.specialIn K (.builtin "object.__class__") "__get__" = some (some (.builtin "getset_descriptor.__get__"))) (otk : PySem.W.takesIn K (.builtin "object.__class__") = some true)
    (uX0 : PySem.W.nsIn K mainGlobals "SLANTED" = some (some (.ref uA0))) (uY0 : K.lookup uA0 = some ⟨.type "tuple", uD0, .seq #[.str "down" uT0_0, .str "up" uT0_1] uN0, uS0⟩)
    (a1 : PySem.W.findIn K (.ref oC0) "__eq__" = some (some (.ref f1))) (l1 : K.lookup f1 = some ⟨oc1, od1, .func (PySem.W.fnOf "__eq__" "Board.__eq__" (defArgs s_Board_eq) (defBody s_Board_eq) (defScope s_Board_eq) .none kV1 dc1 pm1 an1 cd1 ct1), sl1⟩) (c1 : PySem.W.codeIn K cd1 "Board.__eq__" = true) (k1 : PySem.W.keepIn K (.ref f1) = true)
    (n1 : PySem.W.isFn K (.ref f1) = true)
    (a2 : PySem.W.findIn K (.ref oC0) "__len__" = some (some (.ref f2))) (l2 : K.lookup f2 = some ⟨oc2, od2, .func (PySem.W.fnOf "__len__" "Board.__len__" (defArgs s_Board_len) (defBody s_Board_len) (defScope s_Board_len) .none kV2 dc2 pm2 an2 cd2 ct2), sl2⟩) (c2 : PySem.W.codeIn K cd2 "Board.__len__" = true) (k2 : PySem.W.keepIn K (.ref f2) = true)
    (n2 : PySem.W.isFn K (.ref f2) = true)
    (a3 : PySem.W.nsIn K mainGlobals "_law_deck" = some (some (.ref f3))) (l3 : K.lookup f3 = some ⟨oc3, od3, .func (PySem.W.fnOf "_law_deck" "_law_deck" (defArgs s_w_deck) (defBody s_w_deck) (defScope s_w_deck) .none kV3 dc3 pm3 an3 cd3 ct3), sl3⟩) (c3 : PySem.W.codeIn K cd3 "_law_deck" = true) (k3 : PySem.W.keepIn K (.ref f3) = true)
    (a4 : PySem.W.nsIn K mainGlobals "is_whole" = some (some (.ref f4))) (l4 : K.lookup f4 = some ⟨oc4, od4, .func (PySem.W.fnOf "is_whole" "is_whole" (defArgs s_is_whole) (defBody s_is_whole) (defScope s_is_whole) .none kV4 dc4 pm4 an4 cd4 ct4), sl4⟩) (c4 : PySem.W.codeIn K cd4 "is_whole" = true) (k4 : PySem.W.keepIn K (.ref f4) = true)
    (a5 : PySem.W.nsIn K mainGlobals "is_size" = some (some (.ref f5))) (l5 : K.lookup f5 = some ⟨oc5, od5, .func (PySem.W.fnOf "is_size" "is_size" (defArgs s_is_size) (defBody s_is_size) (defScope s_is_size) .none kV5 dc5 pm5 an5 cd5 ct5), sl5⟩) (c5 : PySem.W.codeIn K cd5 "is_size" = true) (k5 : PySem.W.keepIn K (.ref f5) = true)
    (a6 : PySem.W.nsIn K mainGlobals "is_place" = some (some (.ref f6))) (l6 : K.lookup f6 = some ⟨oc6, od6, .func (PySem.W.fnOf "is_place" "is_place" (defArgs s_is_place) (defBody s_is_place) (defScope s_is_place) .none kV6 dc6 pm6 an6 cd6 ct6), sl6⟩) (c6 : PySem.W.codeIn K cd6 "is_place" = true) (k6 : PySem.W.keepIn K (.ref f6) = true)
    (a7 : PySem.W.nsIn K mainGlobals "is_letter" = some (some (.ref f7))) (l7 : K.lookup f7 = some ⟨oc7, od7, .func (PySem.W.fnOf "is_letter" "is_letter" (defArgs s_is_letter) (defBody s_is_letter) (defScope s_is_letter) .none kV7 dc7 pm7 an7 cd7 ct7), sl7⟩) (c7 : PySem.W.codeIn K cd7 "is_letter" = true) (k7 : PySem.W.keepIn K (.ref f7) = true)
    (a8 : PySem.W.nsIn K mainGlobals "is_number" = some (some (.ref f8))) (l8 : K.lookup f8 = some ⟨oc8, od8, .func (PySem.W.fnOf "is_number" "is_number" (defArgs s_is_number) (defBody s_is_number) (defScope s_is_number) .none kV8 dc8 pm8 an8 cd8 ct8), sl8⟩) (c8 : PySem.W.codeIn K cd8 "is_number" = true) (k8 : PySem.W.keepIn K (.ref f8) = true)
    (a9 : PySem.W.nsIn K mainGlobals "is_weight" = some (some (.ref f9))) (l9 : K.lookup f9 = some ⟨oc9, od9, .func (PySem.W.fnOf "is_weight" "is_weight" (defArgs s_is_weight) (defBody s_is_weight) (defScope s_is_weight) .none kV9 dc9 pm9 an9 cd9 ct9), sl9⟩) (c9 : PySem.W.codeIn K cd9 "is_weight" = true) (k9 : PySem.W.keepIn K (.ref f9) = true)
    (a10 : PySem.W.nsIn K mainGlobals "is_piece" = some (some (.ref f10))) (l10 : K.lookup f10 = some ⟨oc10, od10, .func (PySem.W.fnOf "is_piece" "is_piece" (defArgs s_is_piece) (defBody s_is_piece) (defScope s_is_piece) .none kV10 dc10 pm10 an10 cd10 ct10), sl10⟩) (c10 : PySem.W.codeIn K cd10 "is_piece" = true) (k10 : PySem.W.keepIn K (.ref f10) = true)
    (a11 : PySem.W.nsIn K mainGlobals "common" = some (some (.ref f11))) (l11 : K.lookup f11 = some ⟨oc11, od11, .func (PySem.W.fnOf "common" "common" (defArgs s_common) (defBody s_common) (defScope s_common) .none kV11 dc11 pm11 an11 cd11 ct11), sl11⟩) (c11 : PySem.W.codeIn K cd11 "common" = true) (k11 : PySem.W.keepIn K (.ref f11) = true)
    (a12 : PySem.W.nsIn K mainGlobals "lowest" = some (some (.ref f12))) (l12 : K.lookup f12 = some ⟨oc12, od12, .func (PySem.W.fnOf "lowest" "lowest" (defArgs s_lowest) (defBody s_lowest) (defScope s_lowest) .none kV12 dc12 pm12 an12 cd12 ct12), sl12⟩) (c12 : PySem.W.codeIn K cd12 "lowest" = true) (k12 : PySem.W.keepIn K (.ref f12) = true)
    (a13 : PySem.W.nsIn K mainGlobals "kept_weight" = some (some (.ref f13))) (l13 : K.lookup f13 = some ⟨oc13, od13, .func (PySem.W.fnOf "kept_weight" "kept_weight" (defArgs s_kept_weight) (defBody s_kept_weight) (defScope s_kept_weight) .none kV13 dc13 pm13 an13 cd13 ct13), sl13⟩) (c13 : PySem.W.codeIn K cd13 "kept_weight" = true) (k13 : PySem.W.keepIn K (.ref f13) = true)
    (a14 : PySem.W.nsIn K mainGlobals "kept_piece" = some (some (.ref f14))) (l14 : K.lookup f14 = some ⟨oc14, od14, .func (PySem.W.fnOf "kept_piece" "kept_piece" (defArgs s_kept_piece) (defBody s_kept_piece) (defScope s_kept_piece) .none kV14 dc14 pm14 an14 cd14 ct14), sl14⟩) (c14 : PySem.W.codeIn K cd14 "kept_piece" = true) (k14 : PySem.W.keepIn K (.ref f14) = true)
    (a15 : PySem.W.findIn K (.ref oC0) "__init__" = some (some (.ref f15))) (l15 : K.lookup f15 = some ⟨oc15, od15, .func (PySem.W.fnOf "__init__" "Board.__init__" (defArgs s_Board_init) (defBody s_Board_init) (defScope s_Board_init) .none kV15 dc15 pm15 an15 cd15 ct15), sl15⟩) (c15 : PySem.W.codeIn K cd15 "Board.__init__" = true) (k15 : PySem.W.keepIn K (.ref f15) = true)
    (n15 : PySem.W.isFn K (.ref f15) = true)
    (a16 : PySem.W.nsIn K mainGlobals "straight" = some (some (.ref f16))) (l16 : K.lookup f16 = some ⟨oc16, od16, .func (PySem.W.fnOf "straight" "straight" (defArgs s_straight) (defBody s_straight) (defScope s_straight) .none kV16 dc16 pm16 an16 cd16 ct16), sl16⟩) (c16 : PySem.W.codeIn K cd16 "straight" = true) (k16 : PySem.W.keepIn K (.ref f16) = true)
    (a17 : PySem.W.nsIn K mainGlobals "_law_draw" = some (some (.ref f17))) (l17 : K.lookup f17 = some ⟨oc17, od17, .func (PySem.W.fnOf "_law_draw" "_law_draw" (defArgs s_w_draw) (defBody s_w_draw) (defScope s_w_draw) .none kV17 dc17 pm17 an17 cd17 ct17), sl17⟩) (c17 : PySem.W.codeIn K cd17 "_law_draw" = true) (k17 : PySem.W.keepIn K (.ref f17) = true)
    (a18 : PySem.W.nsIn K mainGlobals "_law_pick" = some (some (.ref f18))) (l18 : K.lookup f18 = some ⟨oc18, od18, .func (PySem.W.fnOf "_law_pick" "_law_pick" (defArgs s_w_pick) (defBody s_w_pick) (defScope s_w_pick) .none kV18 dc18 pm18 an18 cd18 ct18), sl18⟩) (c18 : PySem.W.codeIn K cd18 "_law_pick" = true) (k18 : PySem.W.keepIn K (.ref f18) = true)
    (a19 : PySem.W.nsIn K mainGlobals "behind" = some (some (.ref f19))) (l19 : K.lookup f19 = some ⟨oc19, od19, .func (PySem.W.fnOf "behind" "behind" (defArgs s_behind) (defBody s_behind) (defScope s_behind) .none kV19 dc19 pm19 an19 cd19 ct19), sl19⟩) (c19 : PySem.W.codeIn K cd19 "behind" = true) (k19 : PySem.W.keepIn K (.ref f19) = true)
    (a20 : PySem.W.nsIn K mainGlobals "moved" = some (some (.ref f20))) (l20 : K.lookup f20 = some ⟨oc20, od20, .func (PySem.W.fnOf "moved" "moved" (defArgs s_moved) (defBody s_moved) (defScope s_moved) .none kV20 dc20 pm20 an20 cd20 ct20), sl20⟩) (c20 : PySem.W.codeIn K cd20 "moved" = true) (k20 : PySem.W.keepIn K (.ref f20) = true)
    (a21 : PySem.W.nsIn K mainGlobals "below" = some (some (.ref f21))) (l21 : K.lookup f21 = some ⟨oc21, od21, .func (PySem.W.fnOf "below" "below" (defArgs s_below) (defBody s_below) (defScope s_below) .none kV21 dc21 pm21 an21 cd21 ct21), sl21⟩) (c21 : PySem.W.codeIn K cd21 "below" = true) (k21 : PySem.W.keepIn K (.ref f21) = true)
    (a22 : PySem.W.nsIn K mainGlobals "_law_refused" = some (some (.ref f22))) (l22 : K.lookup f22 = some ⟨oc22, od22, .func (PySem.W.fnOf "_law_refused" "_law_refused" (defArgs s_w_refused) (defBody s_w_refused) (defScope s_w_refused) .none kV22 dc22 pm22 an22 cd22 ct22), sl22⟩) (c22 : PySem.W.codeIn K cd22 "_law_refused" = true) (k22 : PySem.W.keepIn K (.ref f22) = true)
    (a23 : PySem.W.nsIn K mainGlobals "_law_piece" = some (some (.ref f23))) (l23 : K.lookup f23 = some ⟨oc23, od23, .func (PySem.W.fnOf "_law_piece" "_law_piece" (defArgs s_w_piece) (defBody s_w_piece) (defScope s_w_piece) .none kV23 dc23 pm23 an23 cd23 ct23), sl23⟩) (c23 : PySem.W.codeIn K cd23 "_law_piece" = true) (k23 : PySem.W.keepIn K (.ref f23) = true)
    (a24 : PySem.W.nsIn K mainGlobals "_law_pieces" = some (some (.ref f24))) (l24 : K.lookup f24 = some ⟨oc24, od24, .func (PySem.W.fnOf "_law_pieces" "_law_pieces" (defArgs s_w_pieces) (defBody s_w_pieces) (defScope s_w_pieces) .none kV24 dc24 pm24 an24 cd24 ct24), sl24⟩) (c24 : PySem.W.codeIn K cd24 "_law_pieces" = true) (k24 : PySem.W.keepIn K (.ref f24) = true)
    (a25 : PySem.W.nsIn K mainGlobals "_law_lifted" = some (some (.ref f25))) (l25 : K.lookup f25 = some ⟨oc25, od25, .func (PySem.W.fnOf "_law_lifted" "_law_lifted" (defArgs s_w_lifted) (defBody s_w_lifted) (defScope s_w_lifted) .none kV25 dc25 pm25 an25 cd25 ct25), sl25⟩) (c25 : PySem.W.codeIn K cd25 "_law_lifted" = true) (k25 : PySem.W.keepIn K (.ref f25) = true)
    (a26 : PySem.W.nsIn K mainGlobals "_law_are_joined_right" = some (some (.ref f26))) (l26 : K.lookup f26 = some ⟨oc26, od26, .func (PySem.W.fnOf "_law_are_joined_right" "_law_are_joined_right" (defArgs s_w_are_joined_right) (defBody s_w_are_joined_right) (defScope s_w_are_joined_right) .none kV26 dc26 pm26 an26 cd26 ct26), sl26⟩) (c26 : PySem.W.codeIn K cd26 "_law_are_joined_right" = true) (k26 : PySem.W.keepIn K (.ref f26) = true)
    (a27 : PySem.W.nsIn K mainGlobals "turned_word" = some (some (.ref f27))) (l27 : K.lookup f27 = some ⟨oc27, od27, .func (PySem.W.fnOf "turned_word" "turned_word" (defArgs s_turned_word) (defBody s_turned_word) (defScope s_turned_word) .none kV27 dc27 pm27 an27 cd27 ct27), sl27⟩) (c27 : PySem.W.codeIn K cd27 "turned_word" = true) (k27 : PySem.W.keepIn K (.ref f27) = true)
    (a28 : PySem.W.nsIn K mainGlobals "backwards" = some (some (.ref f28))) (l28 : K.lookup f28 = some ⟨oc28, od28, .func (PySem.W.fnOf "backwards" "backwards" (defArgs s_backwards) (defBody s_backwards) (defScope s_backwards) .none kV28 dc28 pm28 an28 cd28 ct28), sl28⟩) (c28 : PySem.W.codeIn K cd28 "backwards" = true) (k28 : PySem.W.keepIn K (.ref f28) = true)
    (a29 : PySem.W.nsIn K mainGlobals "mirrored" = some (some (.ref f29))) (l29 : K.lookup f29 = some ⟨oc29, od29, .func (PySem.W.fnOf "mirrored" "mirrored" (defArgs s_mirrored) (defBody s_mirrored) (defScope s_mirrored) .none kV29 dc29 pm29 an29 cd29 ct29), sl29⟩) (c29 : PySem.W.codeIn K cd29 "mirrored" = true) (k29 : PySem.W.keepIn K (.ref f29) = true)
    (a30 : PySem.W.nsIn K mainGlobals "upside_down" = some (some (.ref f30))) (l30 : K.lookup f30 = some ⟨oc30, od30, .func (PySem.W.fnOf "upside_down" "upside_down" (defArgs s_upside_down) (defBody s_upside_down) (defScope s_upside_down) .none kV30 dc30 pm30 an30 cd30 ct30), sl30⟩) (c30 : PySem.W.codeIn K cd30 "upside_down" = true) (k30 : PySem.W.keepIn K (.ref f30) = true)
    (a31 : PySem.W.nsIn K mainGlobals "_law_turned" = some (some (.ref f31))) (l31 : K.lookup f31 = some ⟨oc31, od31, .func (PySem.W.fnOf "_law_turned" "_law_turned" (defArgs s_w_turned) (defBody s_w_turned) (defScope s_w_turned) .none kV31 dc31 pm31 an31 cd31 ct31), sl31⟩) (c31 : PySem.W.codeIn K cd31 "_law_turned" = true) (k31 : PySem.W.keepIn K (.ref f31) = true)
    (a32 : PySem.W.nsIn K mainGlobals "_law_is_turned_right" = some (some (.ref f32))) (l32 : K.lookup f32 = some ⟨oc32, od32, .func (PySem.W.fnOf "_law_is_turned_right" "_law_is_turned_right" (defArgs s_w_is_turned_right) (defBody s_w_is_turned_right) (defScope s_w_is_turned_right) .none kV32 dc32 pm32 an32 cd32 ct32), sl32⟩) (c32 : PySem.W.codeIn K cd32 "_law_is_turned_right" = true) (k32 : PySem.W.keepIn K (.ref f32) = true)
    (a33 : PySem.W.nsIn K mainGlobals "law" = some (some (.ref f33))) (l33 : K.lookup f33 = some ⟨oc33, od33, .func (PySem.W.fnOf "law" "law" (defArgs s_law) (defBody s_law) (defScope s_law) .none kV33 dc33 pm33 an33 cd33 ct33), sl33⟩) (c33 : PySem.W.codeIn K cd33 "law" = true) (k33 : PySem.W.keepIn K (.ref f33) = true)
    (z0 : PySem.W.nsIn K mainGlobals "isinstance" = some none)
    (z1 : PySem.W.nsIn K mainGlobals "len" = some none)
    (z2 : PySem.W.nsIn K mainGlobals "int" = some none)
    (z3 : PySem.W.nsIn K mainGlobals "bool" = some none)
    (z4 : PySem.W.nsIn K mainGlobals "str" = some none)
    (z5 : PySem.W.nsIn K mainGlobals "all" = some none)
    (z6 : PySem.W.nsIn K mainGlobals "tuple" = some none)
    (z7 : PySem.W.nsIn K mainGlobals "abs" = some none)
    (z8 : PySem.W.nsIn K mainGlobals "enumerate" = some none)
    (z9 : PySem.W.nsIn K mainGlobals "max" = some none)
    (z10 : PySem.W.nsIn K mainGlobals "range" = some none)
    (z11 : PySem.W.nsIn K mainGlobals "repr" = some none)
    (z12 : PySem.W.nsIn K mainGlobals "min" = some none)
    (y0 : PySem.W.nsIn K mainGlobals "SMALL" = some (some (.str "abcdefghijklmnopqrstuvwxyz" t0)))
    (y1 : PySem.W.nsIn K mainGlobals "MOST_SIZE" = some (some (.int 9 t1)))
    (zs : PySem.W.nsIn K mainGlobals "super" = some none)
    (xany : PySem.W.nsIn K cStatics "thirdparty.any" = some none) (xgt : PySem.W.specialIn K (.builtin "object.__class__") "__get__" = some (some (.builtin "getset_descriptor.__get__"))) (xtk : PySem.W.takesIn K (.builtin "object.__class__") = some true)
    (xA0 : PySem.W.nsIn K mainGlobals "BadSize" = some (some (.ref C0)))
    (xL0 : K.lookup C0 = some (excClassObj xn0 xq0 C0 xN0 xb0 (.ref B0 :: MX.xTail) true xs0 xu0 xa0 xc0 xd0 m00 m10 m20 m30 m50 "Exception.__new__"))
    (xsa0 : PySem.W.findIn K (.ref C0) "__setattr__" = some (some (.builtin "object.__setattr__")))
    (xB0 : K.lookup B0 = some (excClassObj bn0 bq0 B0 bN0 bb0 MX.xTail true bs0 bu0 ba0 bc0 bd0 n00 n10 n20 n30 n50 "Exception.__new__"))
    (xBi0 : PySem.W.findIn K (.ref B0) "__init__" = some (some (.builtin "Exception.__init__")))
    (xga0 : PySem.W.findIn K (.ref C0) "__getattribute__" = some (some (.builtin "BaseException.__getattribute__")))
    (xgg0 : PySem.W.findIn K (.ref C0) "__getattr__" = some none)
    (xi0 : PySem.W.findIn K (.ref C0) "__init__" = some (some (.ref e0)))
    (xt0 : PySem.W.typeIn K (.ref e0) = some (.type "function"))
    (xk0 : PySem.W.keepIn K (.ref C0) = true)
    (xe0 : PySem.W.subIn K (.ref C0) (.type "BaseException") = some true)
    (xty0 : PySem.W.typeIn K (.ref C0) = some (.type "type"))
    (xh0 : PySem.W.hasDictIn K C0 = true)
    (xcl0 : PySem.W.findIn K (.ref C0) "__class__" = some (some (.builtin "object.__class__")))
    (xob0 : PySem.W.mroIn K C0 (.type "object") = some true)
    (xno0 : PySem.W.findIn K (.ref C0) "thing" = some none)
    (xfn0 : K.lookup e0 = some ⟨eoc0, eod0, .func (PySem.W.ksFn "__init__" "BadSize.__init__" (defArgs (clsInit (top 4))) (defBody (clsInit (top 4))) (defScope (clsInit (top 4))) .none ekV0 edc0 epm0 ean0 (.ref da0) ect0 cc0), esl0⟩)
    (xco0 : PySem.W.codeIn K (.ref da0) "BadSize.__init__" = true)
    (xcd0 : K.lookup da0 = some ⟨dcl0, dd0, .fields dvs0, dsl0⟩)
    (xcf0 : dvs0[2]? = some (.str "/claim/cut.py" dtf0))
    (xce0 : K.lookup cc0 = some ⟨lcl0, lcd0, .cell (some (.ref C0)), lsl0⟩)
    (xms0 : PySem.W.mroIn K C0 (.ref C0) = some true)
    (xme0 : PySem.W.mroIn K C0 (.type "Exception") = some true)
    (xse0 : PySem.W.subIn K (.ref C0) (.ref C0) = some true)
    (xA1 : PySem.W.nsIn K mainGlobals "OtherSizes" = some (some (.ref C1)))
    (xL1 : K.lookup C1 = some (excClassObj xn1 xq1 C1 xN1 xb1 (.ref B1 :: MX.xTail) true xs1 xu1 xa1 xc1 xd1 m01 m11 m21 m31 m51 "Exception.__new__"))
    (xsa1 : PySem.W.findIn K (.ref C1) "__setattr__" = some (some (.builtin "object.__setattr__")))
    (xB1 : K.lookup B1 = some (excClassObj bn1 bq1 B1 bN1 bb1 MX.xTail true bs1 bu1 ba1 bc1 bd1 n01 n11 n21 n31 n51 "Exception.__new__"))
    (xBi1 : PySem.W.findIn K (.ref B1) "__init__" = some (some (.builtin "Exception.__init__")))
    (xga1 : PySem.W.findIn K (.ref C1) "__getattribute__" = some (some (.builtin "BaseException.__getattribute__")))
    (xgg1 : PySem.W.findIn K (.ref C1) "__getattr__" = some none)
    (xi1 : PySem.W.findIn K (.ref C1) "__init__" = some (some (.ref e1)))
    (xt1 : PySem.W.typeIn K (.ref e1) = some (.type "function"))
    (xk1 : PySem.W.keepIn K (.ref C1) = true)
    (xe1 : PySem.W.subIn K (.ref C1) (.type "BaseException") = some true)
    (xty1 : PySem.W.typeIn K (.ref C1) = some (.type "type"))
    (xh1 : PySem.W.hasDictIn K C1 = true)
    (xcl1 : PySem.W.findIn K (.ref C1) "__class__" = some (some (.builtin "object.__class__")))
    (xob1 : PySem.W.mroIn K C1 (.type "object") = some true)
    (xfn1 : K.lookup e1 = some ⟨eoc1, eod1, .func (PySem.W.ksFn "__init__" "OtherSizes.__init__" (defArgs (clsInit (top 2))) (defBody (clsInit (top 2))) (defScope (clsInit (top 2))) .none ekV1 edc1 epm1 ean1 (.ref da1) ect1 cc1), esl1⟩)
    (xco1 : PySem.W.codeIn K (.ref da1) "OtherSizes.__init__" = true)
    (xcd1 : K.lookup da1 = some ⟨dcl1, dd1, .fields dvs1, dsl1⟩)
    (xcf1 : dvs1[2]? = some (.str "/claim/cut.py" dtf1))
    (xce1 : K.lookup cc1 = some ⟨lcl1, lcd1, .cell (some (.ref C1)), lsl1⟩)
    (xms1 : PySem.W.mroIn K C1 (.ref C1) = some true)
    (xme1 : PySem.W.mroIn K C1 (.type "Exception") = some true)
    (xse1 : PySem.W.subIn K (.ref C1) (.ref C1) = some true)
    (gn0 : PySem.W.nsIn K mainGlobals "CompanyError" = some (some (.ref gD0))) (gh0 : PySem.W.hasDictIn K gD0 = true) (gt0 : PySem.W.typeIn K (.ref gD0) = some (.type "type")) (gs0 : PySem.W.subIn K (.ref C1) (.ref gD0) = some true)
    (gn1 : PySem.W.nsIn K mainGlobals "CompanyError" = some (some (.ref gD1))) (gh1 : PySem.W.hasDictIn K gD1 = true) (gt1 : PySem.W.typeIn K (.ref gD1) = some (.type "type")) (gs1 : PySem.W.subIn K (.ref C0) (.ref gD1) = some true)
    (xp0 : PySem.W.subIn K (.ref C1) (.ref C0) = some false)
    (xp1 : PySem.W.subIn K (.ref C0) (.ref C1) = some false) :
    ∃ fd : FuncData, (∀ (s : Shared) (v : Value), BindsTo s fd ⟨[v], []⟩ [("_law_script", v)]) ∧ ∀ base : Heap, K.In base → base.Ns mainGlobals mg → FnM l.prog w K mg base 10 fa fd ps_law m_law := by
  have e := hfa.symm.trans (PySem.W.mg_of X G a33)
  cases e
  have EF0 : ErrF K mg "BadSize" "BadSize.__init__" (top 4) C0 B0 e0 cc0 da0 := ⟨PySem.W.mg_none_of X G zs, xA0, PySem.W.mg_of X G xA0, ⟨_, _, _, _, _, _, _, _, _, _, _, _, _, _, xL0⟩, xsa0, al_of xB0 xBi0, xany, xga0, xgg0, xi0, xt0, xk0, xe0, xty0, xh0, xcl0, xgt, xtk, xob0, ⟨_, _, _, _, _, _, _, _, xfn0⟩, xco0, ⟨_, _, _, _, _, _, xcd0, xcf0, rfl⟩, ⟨_, _, _, xce0⟩, xms0, xme0, xse0⟩
  have EX0 : Err1 l.prog w K mg "BadSize" "thing" C0 B0 e0 := err1_mk EF0 xno0 hfile hsup ⟨_, rfl, rfl⟩ rfl (hbind := fun s x v kV doc pm an ct => .of_eq rfl) (he := fun _ => rfl) (hse := fun _ => rfl) (hi := fun _ => rfl) (hsw := fun _ => rfl) (hsw2 := fun _ => rfl)
  have EF1 : ErrF K mg "OtherSizes" "OtherSizes.__init__" (top 2) C1 B1 e1 cc1 da1 := ⟨PySem.W.mg_none_of X G zs, xA1, PySem.W.mg_of X G xA1, ⟨_, _, _, _, _, _, _, _, _, _, _, _, _, _, xL1⟩, xsa1, al_of xB1 xBi1, xany, xga1, xgg1, xi1, xt1, xk1, xe1, xty1, xh1, xcl1, xgt, xtk, xob1, ⟨_, _, _, _, _, _, _, _, xfn1⟩, xco1, ⟨_, _, _, _, _, _, xcd1, xcf1, rfl⟩, ⟨_, _, _, xce1⟩, xms1, xme1, xse1⟩
  have EX1 : Err0 l.prog w K mg "OtherSizes" C1 B1 e1 := err0_mk EF1 hfile hsup ⟨_, rfl, rfl⟩ rfl (hbind := fun s x kV doc pm an ct => .of_eq rfl) (he := fun _ => rfl) (hi := fun _ => rfl) (hsw := fun _ => rfl)
  have oL0 : Cls K oC0 := ⟨oA0, oB0, oD0, oE0⟩
  have oM0 : IsK K oC0 := ⟨oL0, oK0, ogt, otk, oH0, oJ0, oTint_0, oTbool_0, oTstr_0, oTtuple_0, oTlist_0, oTdict_0⟩
  have T : Txt l.prog w K mg := ⟨PySem.W.mg_none_of X G z0, PySem.W.mg_none_of X G z1, PySem.W.mg_none_of X G z2, PySem.W.mg_none_of X G z3, PySem.W.mg_none_of X G z4, PySem.W.mg_none_of X G z5, PySem.W.mg_none_of X G z6, PySem.W.mg_none_of X G z7, PySem.W.mg_none_of X G z8, PySem.W.mg_none_of X G z9, PySem.W.mg_none_of X G z10, PySem.W.mg_none_of X G z11, PySem.W.mg_none_of X G z12, ⟨_, PySem.W.mg_of X G y0⟩, ⟨_, PySem.W.mg_of X G y1⟩, ⟨uA0, _, _, _, PySem.W.mg_of X G uX0, uY0, rfl, rfl, by rw [sizeLine_eq]; show 2 ≤ _; omega, .cons ⟨_, rfl⟩ (.cons ⟨_, rfl⟩ (.nil))⟩, own_one oN0 oM0 oI0, atts_cons oN0 oL0 oRsize_0 (atts_nil), atts_cons oN0 oL0 oRpieces_0 (atts_nil), ⟨_, _, _, EX1⟩, apart_mk EF0 xA1 xp0, apart_mk EF1 xA0 xp1, ⟨_, _, _, EX0⟩, ⟨gD0, PySem.W.mg_of X G gn0, fun C hC => by rw [xA1] at hC; cases hC; exact kit_of gh0 gt0 gs0⟩, ⟨gD1, PySem.W.mg_of X G gn1, fun C hC => by rw [xA0] at hC; cases hC; exact kit_of gh1 gt1 gs1⟩⟩
  have F1 := fun_mk (x := "__eq__") (qual := "Board.__eq__") (st := s_Board_eq) l1 c1 k1
  have F2 := fun_mk (x := "__len__") (qual := "Board.__len__") (st := s_Board_len) l2 c2 k2
  have F3 := fun_mk (x := "_law_deck") (qual := "_law_deck") (st := s_w_deck) l3 c3 k3
  have F4 := fun_mk (x := "is_whole") (qual := "is_whole") (st := s_is_whole) l4 c4 k4
  have F5 := fun_mk (x := "is_size") (qual := "is_size") (st := s_is_size) l5 c5 k5
  have F6 := fun_mk (x := "is_place") (qual := "is_place") (st := s_is_place) l6 c6 k6
  have F7 := fun_mk (x := "is_letter") (qual := "is_letter") (st := s_is_letter) l7 c7 k7
  have F8 := fun_mk (x := "is_number") (qual := "is_number") (st := s_is_number) l8 c8 k8
  have F9 := fun_mk (x := "is_weight") (qual := "is_weight") (st := s_is_weight) l9 c9 k9
  have F10 := fun_mk (x := "is_piece") (qual := "is_piece") (st := s_is_piece) l10 c10 k10
  have F11 := fun_mk (x := "common") (qual := "common") (st := s_common) l11 c11 k11
  have F12 := fun_mk (x := "lowest") (qual := "lowest") (st := s_lowest) l12 c12 k12
  have F13 := fun_mk (x := "kept_weight") (qual := "kept_weight") (st := s_kept_weight) l13 c13 k13
  have F14 := fun_mk (x := "kept_piece") (qual := "kept_piece") (st := s_kept_piece) l14 c14 k14
  have F15 := fun_mk (x := "__init__") (qual := "Board.__init__") (st := s_Board_init) l15 c15 k15
  have F16 := fun_mk (x := "straight") (qual := "straight") (st := s_straight) l16 c16 k16
  have F17 := fun_mk (x := "_law_draw") (qual := "_law_draw") (st := s_w_draw) l17 c17 k17
  have F18 := fun_mk (x := "_law_pick") (qual := "_law_pick") (st := s_w_pick) l18 c18 k18
  have F19 := fun_mk (x := "behind") (qual := "behind") (st := s_behind) l19 c19 k19
  have F20 := fun_mk (x := "moved") (qual := "moved") (st := s_moved) l20 c20 k20
  have F21 := fun_mk (x := "below") (qual := "below") (st := s_below) l21 c21 k21
  have F22 := fun_mk (x := "_law_refused") (qual := "_law_refused") (st := s_w_refused) l22 c22 k22
  have F23 := fun_mk (x := "_law_piece") (qual := "_law_piece") (st := s_w_piece) l23 c23 k23
  have F24 := fun_mk (x := "_law_pieces") (qual := "_law_pieces") (st := s_w_pieces) l24 c24 k24
  have F25 := fun_mk (x := "_law_lifted") (qual := "_law_lifted") (st := s_w_lifted) l25 c25 k25
  have F26 := fun_mk (x := "_law_are_joined_right") (qual := "_law_are_joined_right") (st := s_w_are_joined_right) l26 c26 k26
  have F27 := fun_mk (x := "turned_word") (qual := "turned_word") (st := s_turned_word) l27 c27 k27
  have F28 := fun_mk (x := "backwards") (qual := "backwards") (st := s_backwards) l28 c28 k28
  have F29 := fun_mk (x := "mirrored") (qual := "mirrored") (st := s_mirrored) l29 c29 k29
  have F30 := fun_mk (x := "upside_down") (qual := "upside_down") (st := s_upside_down) l30 c30 k30
  have F31 := fun_mk (x := "_law_turned") (qual := "_law_turned") (st := s_w_turned) l31 c31 k31
  have F32 := fun_mk (x := "_law_is_turned_right") (qual := "_law_is_turned_right") (st := s_w_is_turned_right) l32 c32 k32
  have F33 := fun_mk (x := "law") (qual := "law") (st := s_law) l33 c33 k33
  have L_Board : ClsM K mg "Board" oC0 _ := ⟨oN0, PySem.W.mg_of X G oN0, ⟨oF0, a15, n15, oG0⟩⟩
  have E_Board := eqK_of oN0 (sp1_of oN0 a1 n1) oQ0
  have N_Board := sp1_of oN0 a2 n2
  refine ⟨PySem.W.fnOf "law" "law" (defArgs s_law) (defBody s_law) (defScope s_law) .none kV33 dc33 pm33 an33 cd33 ct33, fun s v => .of_eq rfl, fun base _ _ => ?_⟩
  have C_Board_eq := ok_Board_eq (P := l.prog) (w := w) (base := base) T F1  L_Board
  have C_Board_len := ok_Board_len (P := l.prog) (w := w) (base := base) T F2  
  have C_w_deck := ok_w_deck (P := l.prog) (w := w) (base := base) T F3 (PySem.W.mg_of X G a3) 
  have C_is_whole := ok_is_whole (P := l.prog) (w := w) (base := base) T F4 (PySem.W.mg_of X G a4) 
  have C_is_size := ok_is_size (P := l.prog) (w := w) (base := base) T F5 (PySem.W.mg_of X G a5) C_is_whole
  have C_is_place := ok_is_place (P := l.prog) (w := w) (base := base) T F6 (PySem.W.mg_of X G a6) C_is_whole
  have C_is_letter := ok_is_letter (P := l.prog) (w := w) (base := base) T F7 (PySem.W.mg_of X G a7) 
  have C_is_number := ok_is_number (P := l.prog) (w := w) (base := base) T F8 (PySem.W.mg_of X G a8) C_is_whole
  have C_is_weight := ok_is_weight (P := l.prog) (w := w) (base := base) T F9 (PySem.W.mg_of X G a9) C_is_letter C_is_number
  have C_is_piece := ok_is_piece (P := l.prog) (w := w) (base := base) T F10 (PySem.W.mg_of X G a10) C_is_place C_is_weight
  have C_common := ok_common (P := l.prog) (w := w) (base := base) T F11 (PySem.W.mg_of X G a11) 
  have C_lowest := ok_lowest (P := l.prog) (w := w) (base := base) T F12 (PySem.W.mg_of X G a12) C_common
  have C_kept_weight := ok_kept_weight (P := l.prog) (w := w) (base := base) T F13 (PySem.W.mg_of X G a13) C_lowest
  have C_kept_piece := ok_kept_piece (P := l.prog) (w := w) (base := base) T F14 (PySem.W.mg_of X G a14) C_kept_weight
  have C_Board_init := ok_Board_init (P := l.prog) (w := w) (base := base) T F15  C_kept_piece C_is_piece C_is_size
  have C_straight := ok_straight (P := l.prog) (w := w) (base := base) T F16 (PySem.W.mg_of X G a16) C_is_size C_Board_init L_Board
  have C_w_draw := ok_w_draw (P := l.prog) (w := w) (base := base) T F17 (PySem.W.mg_of X G a17) 
  have C_w_pick := ok_w_pick (P := l.prog) (w := w) (base := base) T F18 (PySem.W.mg_of X G a18) C_w_draw
  have C_behind := ok_behind (P := l.prog) (w := w) (base := base) T F19 (PySem.W.mg_of X G a19) C_Board_init L_Board
  have C_moved := ok_moved (P := l.prog) (w := w) (base := base) T F20 (PySem.W.mg_of X G a20) 
  have C_below := ok_below (P := l.prog) (w := w) (base := base) T F21 (PySem.W.mg_of X G a21) C_moved C_Board_init L_Board
  have C_w_refused := ok_w_refused (P := l.prog) (w := w) (base := base) T F22 (PySem.W.mg_of X G a22) C_behind C_below C_straight L_Board
  have C_w_piece := ok_w_piece (P := l.prog) (w := w) (base := base) T F23 (PySem.W.mg_of X G a23) C_w_pick C_w_draw
  have C_w_pieces := ok_w_pieces (P := l.prog) (w := w) (base := base) T F24 (PySem.W.mg_of X G a24) C_w_pick C_w_piece
  have C_w_lifted := ok_w_lifted (P := l.prog) (w := w) (base := base) T F25 (PySem.W.mg_of X G a25) 
  have C_w_are_joined_right := ok_w_are_joined_right (P := l.prog) (w := w) (base := base) T F26 (PySem.W.mg_of X G a26) C_w_refused C_w_lifted
  have C_turned_word := ok_turned_word (P := l.prog) (w := w) (base := base) T F27 (PySem.W.mg_of X G a27) 
  have C_backwards := ok_backwards (P := l.prog) (w := w) (base := base) T F28 (PySem.W.mg_of X G a28) C_turned_word C_Board_init L_Board
  have C_mirrored := ok_mirrored (P := l.prog) (w := w) (base := base) T F29 (PySem.W.mg_of X G a29) C_turned_word
  have C_upside_down := ok_upside_down (P := l.prog) (w := w) (base := base) T F30 (PySem.W.mg_of X G a30) C_mirrored C_Board_init L_Board
  have C_w_turned := ok_w_turned (P := l.prog) (w := w) (base := base) T F31 (PySem.W.mg_of X G a31) 
  have C_w_is_turned_right := ok_w_is_turned_right (P := l.prog) (w := w) (base := base) T F32 (PySem.W.mg_of X G a32) C_upside_down C_backwards C_w_turned C_Board_eq C_Board_init L_Board E_Board
  have C_law := ok_law (P := l.prog) (w := w) (base := base) T F33 (PySem.W.mg_of X G a33) C_w_refused C_w_pick C_backwards C_upside_down C_behind C_straight C_w_is_turned_right C_w_are_joined_right C_w_pieces C_w_draw C_w_deck C_Board_eq C_Board_init C_Board_len L_Board E_Board N_Board
  exact C_law.ok
theorem walk {l : PySem.W.OpenLaw} {q : Program} {loose : List Str} {XP : (Str → Option Value) → Heap → Prop} {YP : World → Heap → Prop} {d : DefRec} {K : Params → PySem.W.Frag} (hn : l.most = some 63) (hdf : d.params.defaults = [])
    (hY : ∀ (w : World) (h : Heap), YP w h → (K w.params).In h)
    (F : ∀ (w : World) (mg : Str → Option Value) (fa : Addr) (h : Heap), (K w.params).In h → h.Ns mainGlobals mg → mg d.name = some (.ref fa) →
      ∃ fd : FuncData, (∀ (s : Shared) (u : Value), BindsTo s fd ⟨[u], []⟩ [("_law_script", u)]) ∧ ∀ base : Heap, (K w.params).In base → base.Ns mainGlobals mg → FnM l.prog w (K w.params) mg base 10 fa fd ps_law m_law)
    (hlaw : ∀ ns : List Int, ns.length ≤ 63 → ∃ S, m_law [.scr (ns.map D.int)] [] = .ok (.bl true) S) : PySem.W.WalkO q loose XP YP l.row.toRowW d [] (fun f vs => PySem.call f vs) :=
  walkM (n := 63) (k := 10) (x := "_law_script") (mf := m_law) hn (by decide) hdf ⟨rfl, by decide, by decide⟩ hY F hlaw
end LW

set_option Elab.async false
set_option linter.all false
set_option maxRecDepth 100000
/-! Pieces, typed; leaves. -/
namespace LW
open PySem MM L2
structure Pc where
  w : Nat
  k : Nat
  x : Nat
def wdS : Nat → Str
  | 0 => "down"
  | 1 => "up"
  | 2 => "pass"
  | _ => "meet"
def wtD : Nat → D
  | 0 => .str "a"
  | 1 => .str "zz"
  | 2 => .str "abcdefgh"
  | 3 => .tup [.int 1, .int 1]
  | 4 => .tup [.int 0, .int 1]
  | 5 => .tup [.int 1, .int 2]
  | 6 => .tup [.int 2, .int 1]
  | 7 => .tup [.int 999999, .int 1]
  | _ => .tup [.int 8, .int 999999]
def restD (p : Pc) : List D := if Nat.beq p.w 3 then [] else [wtD p.x]
def mkP (p : Pc) : D := .tup (.str (wdS p.w) :: .int (p.k : Int) :: restD p)
def okP (n : Nat) (p : Pc) : Bool := Nat.blt p.w 4 && (Nat.blt p.x 9 && (if Nat.beq p.w 2 then Nat.blt p.k n else Nat.blt (p.k + 1) n))
def ranN (n : Nat) : List Nat := List.range n
def allPc (n : Nat) : List Pc := (ranN 4).flatMap fun w => (ranN n).flatMap fun k => (ranN 9).map fun x => ⟨w, k, x⟩
def kPc (n : Nat) : Bool := (allPc n).all fun p => !okP n p || (gives (m_is_piece [.int (n : Int), mkP p] []) (.bl true) && gives (m_kept_piece [mkP p] []) (mkP p))
theorem fP1 : kPc 1 = true := by kernel_rfl
theorem fP2 : kPc 2 = true := by kernel_rfl
theorem fP3 : kPc 3 = true := by kernel_rfl
theorem fP4 : kPc 4 = true := by kernel_rfl
theorem fP5 : kPc 5 = true := by kernel_rfl
theorem fP6 : kPc 6 = true := by kernel_rfl
theorem fP7 : kPc 7 = true := by kernel_rfl
theorem fP8 : kPc 8 = true := by kernel_rfl
theorem fP9 : kPc 9 = true := by kernel_rfl
def kSz (n : Nat) : Bool := gives (m_is_size [.int (n : Int), .int 9] []) (.bl true)
theorem fS : ((List.range 9).all fun i => kSz (i + 1)) = true := by kernel_rfl
end LW

set_option Elab.async false
set_option linter.all false
set_option maxRecDepth 100000
/-! Boards, made, put together, turned. -/
namespace LW
open PySem MM L2
def mkB (n : Nat) (ps : List Pc) : D := .obj "Board" ["size", "pieces"] [.int (n : Int), .tup (ps.map mkP)]
theorem pure_wt (x : Nat) : (wtD x).pure = true := by
  unfold wtD
  split <;> rfl
theorem pure_P (p : Pc) : (mkP p).pure = true := by
  unfold mkP restD
  split
  · rfl
  · show (true && (true && ((wtD p.x).pure && true))) = true
    rw [pure_wt]; rfl
theorem pure_Ps : ∀ ps : List Pc, pureAll (ps.map mkP) = true
  | [] => rfl
  | p :: ps => by show ((mkP p).pure && pureAll (ps.map mkP)) = true; rw [pure_P, pure_Ps ps]; rfl
theorem pure_B (n : Nat) (ps : List Pc) : (mkB n ps).pure = true := by
  show (true && (pureAll (ps.map mkP) && true)) = true
  rw [pure_Ps]; rfl
theorem nine {P : Nat → Prop} (a1 : P 1) (a2 : P 2) (a3 : P 3) (a4 : P 4) (a5 : P 5) (a6 : P 6) (a7 : P 7) (a8 : P 8) (a9 : P 9) {n : Nat} (h1 : 1 ≤ n) (h9 : n ≤ 9) : P n := by
  match n, h1, h9 with
  | 1, _, _ => exact a1
  | 2, _, _ => exact a2
  | 3, _, _ => exact a3
  | 4, _, _ => exact a4
  | 5, _, _ => exact a5
  | 6, _, _ => exact a6
  | 7, _, _ => exact a7
  | 8, _, _ => exact a8
  | 9, _, _ => exact a9
theorem ltB {a b : Nat} : Nat.blt a b = true ↔ a < b := by simp [Nat.blt_eq]
theorem ok_iff {n : Nat} {p : Pc} : okP n p = true ↔ p.w < 4 ∧ p.x < 9 ∧ (if p.w = 2 then p.k < n else p.k + 1 < n) := by
  unfold okP
  rw [Bool.and_eq_true, Bool.and_eq_true, ltB, ltB]
  by_cases h : p.w = 2
  · rw [if_pos h, if_pos (by rw [h]; rfl), ltB]
  · rw [if_neg h, if_neg (fun z => h (Nat.eq_of_beq_eq_true z)), ltB]
theorem in_all {n : Nat} {p : Pc} (h : okP n p = true) : p ∈ allPc n := by
  obtain ⟨h1, h2, h3⟩ := ok_iff.mp h
  have hk : p.k < n := by split at h3 <;> omega
  unfold allPc ranN
  rw [List.mem_flatMap]
  refine ⟨p.w, List.mem_range.mpr h1, List.mem_flatMap.mpr ⟨p.k, List.mem_range.mpr hk, List.mem_map.mpr ⟨p.x, List.mem_range.mpr h2, rfl⟩⟩⟩
section
variable {n : Nat} {S : Store} {p : Pc} {ps : List Pc}
theorem pc_at (h1 : 1 ≤ n) (h9 : n ≤ 9) (h : okP n p = true) : m_is_piece [.int (n : Int), mkP p] S = .ok (.bl true) S ∧ m_kept_piece [mkP p] S = .ok (mkP p) S := by
  have k := nine (P := fun n => kPc n = true) fP1 fP2 fP3 fP4 fP5 fP6 fP7 fP8 fP9 h1 h9
  have q := all_at k (in_all h)
  rw [h] at q
  simp only [Bool.not_true, Bool.false_or, Bool.and_eq_true] at q
  exact ⟨pureF_any (gives_ok q.1), pureF_any (gives_ok q.2)⟩
theorem sz_at (h1 : 1 ≤ n) (h9 : n ≤ 9) : m_is_size [.int (n : Int), .int 9] S = .ok (.bl true) S := by
  have k := all_at fS (a := n - 1) (List.mem_range.mpr (by omega))
  have e : n - 1 + 1 = n := by omega
  simp only [e] at k
  exact pureF_any (gives_ok k)
theorem init_ok (h1 : 1 ≤ n) (h9 : n ≤ 9) (hp : ∀ p ∈ ps, okP n p = true) (hl : ps.length ≤ 1000) : m_Board_init [.ref 0, .int (n : Int), .tup (ps.map mkP)] [.ob "Board" []] = .ok .non [.ob "Board" [("size", .int (n : Int)), ("pieces", .tup (ps.map mkP))]] := by
  have ex : ∃ o3 o4, b_Board_init [some (.ref 0), some (.int (n : Int)), some (.tup (ps.map mkP)), none, none] [.ob "Board" []] = .nx [some (.ref 0), some (.int (n : Int)), some (.tup (ps.map mkP)), o3, o4] [.ob "Board" [("size", .int (n : Int)), ("pieces", .tup (ps.map mkP))]] := by
    unfold b_Board_init
    obtain ⟨σ', ⟨o3, o4, rfl⟩, e⟩ := runFor_nx (f := fun i : Nat => .tup [.int (i : Int), (ps.map mkP).getD i .non]) (g := gT 2 (gsCons (gN 3) (gsCons (gN 4) (gsNil)))) (b := mIf (mNotT (mBool (mN m_is_piece (mCons (mVar 1) (mCons (mVar 4) (mNil)))))) (mNo) (mSkip)) (S := [.ob "Board" []]) (inv := fun σ => ∃ o3 o4, σ = [some (.ref 0), some (.int (n : Int)), some (.tup (ps.map mkP)), o3, o4]) (List.range ps.length) [some (.ref 0), some (.int (n : Int)), some (.tup (ps.map mkP)), none, none] ⟨none, none, rfl⟩ (by
      rintro i hi σ ⟨o3, o4, rfl⟩
      have hi := List.mem_range.mp hi
      have e : (ps.map mkP).getD i .non = mkP ps[i] := by
        rw [List.getD_eq_getElem?_getD, List.getElem?_map, List.getElem?_eq_getElem hi]; rfl
      refine ⟨[some (.ref 0), some (.int (n : Int)), some (.tup (ps.map mkP)), some (.int (i : Int)), some (mkP ps[i])], _, ?_, mIf_no (mNotT_ok (mBool_ok (mN_ok (mCons_ok (mVar_ok rfl) (mCons_ok (mVar_ok rfl) rfl)) (pc_at h1 h9 (hp _ (List.getElem_mem hi))).1))), ⟨_, _, rfl⟩⟩
      rw [e]; rfl)
    refine ⟨o3, o4, ?_⟩
    refine (mSeq_nx (mIf_no (mNotT_ok (mBool_ok (mN_ok (mCons_ok (mVar_ok rfl) (mCons_ok rfl rfl)) (sz_at h1 h9)))))).trans ?_
    refine (mSeq_nx (σ' := [some (.ref 0), some (.int (n : Int)), some (.tup (ps.map mkP)), none, none]) (S' := [.ob "Board" []]) (by rfl)).trans ?_
    have it : miEnumB (mCons (mVar 2) (mNil)) [some (.ref 0), some (.int (n : Int)), some (.tup (ps.map mkP)), none, none] [.ob "Board" []] = .ok ((List.range ps.length).map fun i : Nat => .tup [.int (i : Int), (ps.map mkP).getD i .non]) [.ob "Board" []] := by
      show R.ok (enumItems (ps.map mkP)) _ = _
      unfold enumItems
      rw [List.length_map]
    refine (mSeq_nx (mFor_ok it e)).trans ?_
    refine (mSeq_nx (σ' := [some (.ref 0), some (.int (n : Int)), some (.tup (ps.map mkP)), o3, o4]) (S' := [.ob "Board" [("size", .int (n : Int))]]) (by rfl)).trans ?_
    have kp : mN tupL (mCons (mLc [4] (miSeq (mVar 2)) (gN 4) (mYes) (mN m_kept_piece (mCons (mVar 4) (mNil)))) (mNil)) [some (.ref 0), some (.int (n : Int)), some (.tup (ps.map mkP)), o3, o4] [.ob "Board" [("size", .int (n : Int))]] = .ok (.tup (ps.map mkP)) [.ob "Board" [("size", .int (n : Int))]] :=
      mN_ok (mCons_ok (mLc_all (as := ps) (f := mkP) (r := mkP) (miSeq_tup (mVar_ok rfl)) (by omega) fun p h => ⟨[some (.ref 0), some (.int (n : Int)), some (.tup (ps.map mkP)), o3, some (mkP p)], rfl, mN_ok (mCons_ok (mVar_ok rfl) rfl) (pc_at h1 h9 (hp p h)).2⟩) rfl) tup_lst
    unfold mSetA
    rw [kp]
    rfl
  obtain ⟨o3, o4, e⟩ := ex
  exact call_plainN rfl e
theorem BI (h1 : 1 ≤ n) (h9 : n ≤ 9) (hp : ∀ p ∈ ps, okP n p = true) (hl : ps.length ≤ 1000) : mMake "Board" m_Board_init [.int (n : Int), .tup (ps.map mkP)] S = .ok (mkB n ps) S :=
  make_ok (by show (true && (pureAll (ps.map mkP) && true)) = true; rw [pure_Ps]; rfl) (init_ok h1 h9 hp hl) (by show (true && (pureAll (ps.map mkP) && true)) = true; rw [pure_Ps]; rfl)
end
end LW

set_option Elab.async false
set_option linter.all false
set_option maxRecDepth 100000
/-! Pieces turned, moved, mirrored. -/
namespace LW
open PySem MM L2
def twW : Nat → Nat
  | 0 => 1
  | 1 => 0
  | n => n
def tw (p : Pc) : Pc := ⟨twW p.w, p.k, p.x⟩
def mov (s : Nat) (p : Pc) : Pc := ⟨p.w, p.k + s, p.x⟩
def mir (n : Nat) (p : Pc) : Pc := ⟨twW p.w, (if p.w = 2 then n - 1 else n - 2) - p.k, p.x⟩
theorem w4 {P : Nat → Prop} (a0 : P 0) (a1 : P 1) (a2 : P 2) (a3 : P 3) {w : Nat} (h : w < 4) : P w := by
  match w, h with
  | 0, _ => exact a0
  | 1, _ => exact a1
  | 2, _ => exact a2
  | 3, _ => exact a3
theorem twW_lt {w : Nat} (h : w < 4) : twW w < 4 := w4 (P := fun w => twW w < 4) (by decide) (by decide) (by decide) (by decide) h
theorem twW_2 {w : Nat} (h : w < 4) : (twW w = 2) = (w = 2) := w4 (P := fun w => (twW w = 2) = (w = 2)) (by decide) (by decide) (by decide) (by decide) h
theorem twW_3 {w : Nat} (h : w < 4) : Nat.beq (twW w) 3 = Nat.beq w 3 := w4 (P := fun w => Nat.beq (twW w) 3 = Nat.beq w 3) rfl rfl rfl rfl h
theorem twtw {w : Nat} (h : w < 4) : twW (twW w) = w := w4 (P := fun w => twW (twW w) = w) rfl rfl rfl rfl h
theorem ok_tw {n : Nat} {p : Pc} (h : okP n p = true) : okP n (tw p) = true := by
  obtain ⟨h1, h2, h3⟩ := ok_iff.mp h
  refine ok_iff.mpr ⟨twW_lt h1, h2, ?_⟩
  show if twW p.w = 2 then p.k < n else p.k + 1 < n
  rw [show (if twW p.w = 2 then p.k < n else p.k + 1 < n) = (if p.w = 2 then p.k < n else p.k + 1 < n) from by simp only [twW_2 h1]]
  exact h3
theorem ok_mov {n m s : Nat} {p : Pc} (h : okP n p = true) (hm : n + s ≤ m) : okP m (mov s p) = true := by
  obtain ⟨h1, h2, h3⟩ := ok_iff.mp h
  refine ok_iff.mpr ⟨h1, h2, ?_⟩
  show if p.w = 2 then p.k + s < m else p.k + s + 1 < m
  split
  · rename_i q; rw [if_pos q] at h3; omega
  · rename_i q; rw [if_neg q] at h3; omega
theorem ok_mir {n : Nat} {p : Pc} (h : okP n p = true) : okP n (mir n p) = true := by
  obtain ⟨h1, h2, h3⟩ := ok_iff.mp h
  refine ok_iff.mpr ⟨twW_lt h1, h2, ?_⟩
  show if twW p.w = 2 then (if p.w = 2 then n - 1 else n - 2) - p.k < n else (if p.w = 2 then n - 1 else n - 2) - p.k + 1 < n
  by_cases q : p.w = 2
  · rw [if_pos ((twW_2 h1).mpr q), if_pos q]
    rw [if_pos q] at h3; omega
  · rw [if_neg (fun z => q ((twW_2 h1).mp z)), if_neg q]
    rw [if_neg q] at h3; omega
theorem tw_tw {n : Nat} {p : Pc} (h : okP n p = true) : tw (tw p) = p := by
  obtain ⟨h1, h2, h3⟩ := ok_iff.mp h
  show Pc.mk (twW (twW p.w)) p.k p.x = p
  rw [twtw h1]
theorem mir_mir {n : Nat} {p : Pc} (h : okP n p = true) : mir n (mir n p) = p := by
  obtain ⟨h1, h2, h3⟩ := ok_iff.mp h
  obtain ⟨w, k, x⟩ := p
  show Pc.mk (twW (twW w)) ((if twW w = 2 then n - 1 else n - 2) - ((if w = 2 then n - 1 else n - 2) - k)) x = ⟨w, k, x⟩
  rw [twtw h1]
  congr 1
  by_cases q : w = 2
  · rw [if_pos ((twW_2 h1).mpr q), if_pos q]
    have h3 : (if w = 2 then k < n else k + 1 < n) := h3
    rw [if_pos q] at h3; omega
  · rw [if_neg (fun z => q ((twW_2 h1).mp z)), if_neg q]
    have h3 : (if w = 2 then k < n else k + 1 < n) := h3
    rw [if_neg q] at h3; omega
theorem mir_tw {n : Nat} {p : Pc} (h : okP n p = true) : mir n (tw p) = tw (mir n p) := by
  obtain ⟨h1, h2, h3⟩ := ok_iff.mp h
  show Pc.mk (twW (twW p.w)) ((if twW p.w = 2 then n - 1 else n - 2) - p.k) p.x = Pc.mk (twW (twW p.w)) ((if p.w = 2 then n - 1 else n - 2) - p.k) p.x
  congr 1
  by_cases q : p.w = 2
  · rw [if_pos ((twW_2 h1).mpr q), if_pos q]
  · rw [if_neg (fun z => q ((twW_2 h1).mp z)), if_neg q]
def kTw : Bool := (ranN 4).all fun w => gives (m_turned_word [.str (wdS w)] []) (.str (wdS (twW w)))
theorem fTw : kTw = true := by kernel_rfl
section
variable {S : Store} {p : Pc} {n : Nat} {σ : Sg} {i : Nat}
theorem tword {w : Nat} (h : w < 4) : m_turned_word [.str (wdS w)] S = .ok (.str (wdS (twW w))) S :=
  pureF_any (gives_ok (all_at fTw (List.mem_range.mpr h)))
theorem ix0 (h : p.w < 4) : dIx (mkP p) (.int 0) S = .ok (.str (wdS p.w)) S := by
  obtain ⟨w, k, x⟩ := p
  exact w4 (P := fun w => dIx (mkP ⟨w, k, x⟩) (.int 0) S = .ok (.str (wdS w)) S) rfl rfl rfl rfl h
theorem ix1 (h : p.w < 4) : dIx (mkP p) (.int 1) S = .ok (.int (p.k : Int)) S := by
  obtain ⟨w, k, x⟩ := p
  exact w4 (P := fun w => dIx (mkP ⟨w, k, x⟩) (.int 1) S = .ok (.int (k : Int)) S) rfl rfl rfl rfl h
theorem sl1 (h : p.w < 4) (hv : σ[i]? = some (some (mkP p))) : mSl false (mVar i) (mpS (mK (.int 1))) mpN σ S = .ok (.tup (.int (p.k : Int) :: restD p)) S := by
  unfold mSl
  rw [mVar_ok hv]
  show dSl false (mkP p) (some 1) none S = _
  obtain ⟨w, k, x⟩ := p
  exact w4 (P := fun w => dSl false (mkP ⟨w, k, x⟩) (some 1) none S = .ok (.tup (.int (k : Int) :: restD ⟨w, k, x⟩)) S) rfl rfl rfl rfl h
theorem sl2 (h : p.w < 4) (hv : σ[i]? = some (some (mkP p))) : mSl false (mVar i) (mpS (mK (.int 2))) mpN σ S = .ok (.tup (restD p)) S := by
  unfold mSl
  rw [mVar_ok hv]
  show dSl false (mkP p) (some 2) none S = _
  obtain ⟨w, k, x⟩ := p
  exact w4 (P := fun w => dSl false (mkP ⟨w, k, x⟩) (some 2) none S = .ok (.tup (restD ⟨w, k, x⟩)) S) rfl rfl rfl rfl h
theorem rest_len : (restD p).length ≤ 1 := by unfold restD; split <;> simp
theorem add_tup {xs ys : List D} (h : xs.length + ys.length ≤ 1000000) : dAdd false (.tup xs) (.tup ys) S = .ok (.tup (xs ++ ys)) S := by
  unfold dAdd
  refine or2_r rfl (or2_r rfl (or2_l ?_))
  unfold addT
  first
    | rfl
    | (exact if_pos h)
    | (exact need_t (decide_eq_true h))
theorem rest_tw (h : p.w < 4) : restD (tw p) = restD p := by
  show (if Nat.beq (twW p.w) 3 then [] else [wtD p.x]) = if Nat.beq p.w 3 then [] else [wtD p.x]
  rw [twW_3 h]
theorem rest_mir (h : p.w < 4) : restD (mir n p) = restD p := by
  show (if Nat.beq (twW p.w) 3 then [] else [wtD p.x]) = if Nat.beq p.w 3 then [] else [wtD p.x]
  rw [twW_3 h]
theorem rest_mov : restD (mov n p) = restD p := rfl
/-- one piece of backwards -/
theorem back1 (h : p.w < 4) (hv : σ[1]? = some (some (mkP p))) : m2 (dAdd false) (mTup (mCons (mN m_turned_word (mCons (m2 dIx (mVar 1) (mK (.int 0))) (mNil))) (mNil))) (mSl false (mVar 1) (mpS (mK (.int 1))) mpN) σ S = .ok (mkP (tw p)) S := by
  refine m2_ok (mTup_ok (xs := [.str (wdS (twW p.w))]) (mCons_ok (mN_ok (mCons_ok (m2_ok (mVar_ok hv) rfl (ix0 h)) rfl) (tword h)) rfl) (by simp)) (sl1 h hv) ((add_tup ?_).trans ?_)
  · have := rest_len (p := p); simp only [List.length_cons, List.length_nil]; omega
  · show R.ok (D.tup (.str (wdS (twW p.w)) :: .int (p.k : Int) :: restD p)) S = _
    rw [← rest_tw h]; rfl
theorem pure_2 {d : D} {n : Int} : pureAll [mkP p, .int n] = true := by show ((mkP p).pure && (true && true)) = true; rw [pure_P]; rfl
theorem pure_2' {n : Int} : pureAll [.int n, mkP p] = true := by show (true && ((mkP p).pure && true)) = true; rw [pure_P]; rfl
theorem moved_ok {s : Nat} (h : p.w < 4) : m_moved [mkP p, .int (s : Int)] S = .ok (mkP (mov s p)) S := by
  refine call_pure (S1 := []) rfl (pure_2 (d := .non)) ?_ (out_pureD (pure_P _))
  refine mRet_ok (m2_ok (S1 := []) (S2 := []) (mTup_ok (xs := [.str (wdS p.w), .int (p.k + s : Nat)]) (mCons_ok (m2_ok (mVar_ok rfl) rfl (ix0 h)) (mCons_ok (m2_ok (m2_ok (mVar_ok rfl) rfl (ix1 h)) (mVar_ok rfl) rfl) rfl)) (by simp)) (sl2 h rfl) ((add_tup ?_).trans rfl))
  have := rest_len (p := p); simp only [List.length_cons, List.length_nil]; omega
/-- one piece of lifted -/
theorem lift1 {s : Nat} (h : p.w < 4) (hv : σ[2]? = some (some (mkP p))) (hs : σ[1]? = some (some (.int (s : Int)))) : m2 (dAdd false) (mTup (mCons (m2 dIx (mVar 2) (mK (.int 0))) (mCons (m2 (dAdd false) (m2 dIx (mVar 2) (mK (.int 1))) (mVar 1)) (mNil)))) (mSl false (mVar 2) (mpS (mK (.int 2))) mpN) σ S = .ok (mkP (mov s p)) S := by
  refine m2_ok (mTup_ok (xs := [.str (wdS p.w), .int (p.k + s : Nat)]) (mCons_ok (m2_ok (mVar_ok hv) rfl (ix0 h)) (mCons_ok (m2_ok (m2_ok (mVar_ok hv) rfl (ix1 h)) (mVar_ok hs) rfl) rfl)) (by simp)) (sl2 h hv) ((add_tup ?_).trans rfl)
  have := rest_len (p := p); simp only [List.length_cons, List.length_nil]; omega
theorem shal_wd {w : Nat} (h : w < 4) : (D.str (wdS w)).shal 40 = true := w4 (P := fun w => (D.str (wdS w)).shal 40 = true) (by decide +kernel) (by decide +kernel) (by decide +kernel) (by decide +kernel) h
theorem isPass (h : p.w < 4) {e : ME} (he : e σ S = .ok (.str (wdS p.w)) S) : mBool (m2 dEq e (mK (.str "pass"))) σ S = .ok (Nat.beq p.w 2) S := by
  refine mBool_ok (m2_ok he rfl ?_)
  rw [dEq_ok (d := .str (wdS p.w)) (e := .str "pass") rfl rfl (shal_wd h) (by decide +kernel)]
  rw [w4 (P := fun w => eqD (.str (wdS w)) (.str "pass") = Nat.beq w 2) (by decide +kernel) (by decide +kernel) (by decide +kernel) (by decide +kernel) h]
theorem mirk (h : okP n p = true) : ((mir n p).k : Int) = (if p.w = 2 then (n : Int) - 1 else (n : Int) - 2) - p.k := by
  obtain ⟨h1, h2, h3⟩ := ok_iff.mp h
  show ((((if p.w = 2 then n - 1 else n - 2) - p.k : Nat)) : Int) = _
  by_cases q : p.w = 2
  · rw [if_pos q, if_pos q]; rw [if_pos q] at h3; omega
  · rw [if_neg q, if_neg q]; rw [if_neg q] at h3; omega
theorem mirrored_ok (h : okP n p = true) : m_mirrored [.int (n : Int), mkP p] S = .ok (mkP (mir n p)) S := by
  obtain ⟨h1, h2, h3⟩ := ok_iff.mp h
  refine call_pure (S1 := []) rfl pure_2' ?_ (out_pureD (pure_P _))
  let L : Int := if p.w = 2 then (n : Int) - 1 else (n : Int) - 2
  refine (mSeq_nx (σ' := [some (.int (n : Int)), some (mkP p), some (.int L)]) (S' := []) (mAsg_ok (x := .int L) (mIfE_ok (x := Nat.beq p.w 2) (isPass h1 (m2_ok (mVar_ok rfl) rfl (ix0 h1))) (fun q => ?_) (fun q => ?_)) rfl)).trans ?_
  · show R.ok (D.int ((n : Int) - 1)) _ = _
    rw [show L = (n : Int) - 1 from if_pos (Nat.eq_of_beq_eq_true q)]
  · show R.ok (D.int ((n : Int) - 2)) _ = _
    rw [show L = (n : Int) - 2 from if_neg (fun z => by rw [z] at q; cases q)]
  · refine mRet_ok (m2_ok (S1 := []) (S2 := []) (mTup_ok (xs := [.str (wdS (twW p.w)), .int ((mir n p).k : Int)]) (mCons_ok (mN_ok (mCons_ok (m2_ok (mVar_ok rfl) rfl (ix0 h1)) rfl) (tword h1)) (mCons_ok (m2_ok (mVar_ok rfl) (m2_ok (mVar_ok rfl) rfl (ix1 h1)) ?_) rfl)) (by simp)) (sl2 h1 rfl) ((add_tup ?_).trans ?_))
    · rw [mirk h]; rfl
    · have := rest_len (p := p); simp only [List.length_cons, List.length_nil]; omega
    · show R.ok (D.tup (.str (wdS (twW p.w)) :: .int ((mir n p).k : Int) :: restD p)) _ = _
      rw [← rest_mir h1]; rfl
end
end LW

set_option Elab.async false
set_option linter.all false
set_option maxRecDepth 100000
/-! Boards joined and turned. -/
namespace LW
open PySem MM L2
theorem call_pureE {n N : Nat} {body : MS} {ds : List D} {d d' : D} {S S1 : Store} (hl : ds.length = n) (hp : pureAll ds = true) (h : body (ds.map some ++ List.replicate (N - n) none) [] = .rt d S1) (ho : d.out S1 = some d') : pureF (mDef n N body) ds S = .ok d' S := by
  unfold pureF mDef
  rw [if_pos hp, if_pos hl, h]
  show (match d.out S1 with | some e => R.ok e S | none => .no) = _
  rw [ho]
theorem call_pureX {n N : Nat} {body : MS} {ds : List D} {e : Ex} {σ : Sg} {S S1 : Store} (hl : ds.length = n) (hp : pureAll ds = true) (h : body (ds.map some ++ List.replicate (N - n) none) [] = .ex e σ S1) : pureF (mDef n N body) ds S = .ex e S := by
  unfold pureF mDef
  rw [if_pos hp, if_pos hl, h]
  rfl
theorem mSeq_ex {a b : MS} {σ σ' : Sg} {S S' : Store} {e : Ex} (h : a σ S = .ex e σ' S') : mSeq a b σ S = .ex e σ' S' := by unfold mSeq; rw [h]; rfl
def xS : Ex := ⟨"OtherSizes", []⟩
def xZ (d : D) : Ex := ⟨"BadSize", [("thing", d)]⟩
section
variable {n m : Nat} {S : Store} {p : Pc} {ps qs : List Pc} {σ : Sg}
theorem atS {i : Nat} (h : σ[i]? = some (some (mkB n ps))) : m1 (dAttr ["Board"] "size") (mVar i) σ S = .ok (.int (n : Int)) S := m1_ok (mVar_ok h) rfl
theorem atP {i : Nat} (h : σ[i]? = some (some (mkB n ps))) : m1 (dAttr ["Board"] "pieces") (mVar i) σ S = .ok (.tup (ps.map mkP)) S := m1_ok (mVar_ok h) rfl
theorem pure1 : pureAll [mkB n ps] = true := by show ((mkB n ps).pure && true) = true; rw [pure_B]; rfl
theorem pure2 : pureAll [mkB n ps, mkB m qs] = true := by show ((mkB n ps).pure && ((mkB m qs).pure && true)) = true; rw [pure_B, pure_B]; rfl
/-- a board of at most 1000 good pieces -/
structure Ok (n : Nat) (ps : List Pc) (l : Nat) : Prop where
  h1 : 1 ≤ n
  h9 : n ≤ 9
  hp : ∀ p ∈ ps, okP n p = true
  hl : ps.length ≤ l
theorem Ok.mono {l l' : Nat} (h : Ok n ps l) (hl : l ≤ l') : Ok n ps l' := ⟨h.h1, h.h9, h.hp, Nat.le_trans h.hl hl⟩
theorem Ok.make (h : Ok n ps 1000) : mMake "Board" m_Board_init [.int (n : Int), .tup (ps.map mkP)] S = .ok (mkB n ps) S := BI h.h1 h.h9 h.hp h.hl
theorem Ok.app {l l' : Nat} (h : Ok n ps l) (g : Ok n qs l') : Ok n (ps ++ qs) (l + l') := ⟨h.h1, h.h9, fun p hp => by
  rcases List.mem_append.mp hp with z | z
  · exact h.hp p z
  · exact g.hp p z, by rw [List.length_append]; have := h.hl; have := g.hl; omega⟩
theorem Ok.below {l l' : Nat} (h : Ok n ps l) (g : Ok m qs l') (hm : n + m ≤ 9) : Ok (n + m) (ps ++ qs.map (mov n)) (l + l') := ⟨by have := h.h1; omega, hm, fun p hp => by
  rcases List.mem_append.mp hp with z | z
  · have := h.hp p z
    rw [show p = mov 0 p from rfl]
    exact ok_mov this (by omega)
  · obtain ⟨q, hq, rfl⟩ := List.mem_map.mp z
    exact ok_mov (g.hp q hq) (by omega), by rw [List.length_append, List.length_map]; have := h.hl; have := g.hl; omega⟩
theorem Ok.map {l : Nat} {f : Pc → Pc} (h : Ok n ps l) (hf : ∀ p, okP n p = true → okP n (f p) = true) : Ok n (ps.map f) l := ⟨h.h1, h.h9, fun p hp => by
  obtain ⟨q, hq, rfl⟩ := List.mem_map.mp hp
  exact hf q (h.hp q hq), by rw [List.length_map]; exact h.hl⟩
theorem Ok.rev {l : Nat} (h : Ok n ps l) : Ok n ps.reverse l := ⟨h.h1, h.h9, fun p hp => h.hp p (List.mem_reverse.mp hp), by rw [List.length_reverse]; exact h.hl⟩
theorem Ok.w4 {l : Nat} (h : Ok n ps l) : ∀ p ∈ ps, p.w < 4 := fun p hp => (ok_iff.mp (h.hp p hp)).1
theorem behind_ok (h : Ok n (ps ++ qs) 1000) : m_behind [mkB n ps, mkB n qs] S = .ok (mkB n (ps ++ qs)) S := by
  refine call_pureE (S1 := []) rfl pure2 ?_ (out_pureD (pure_B _ _))
  refine (mSeq_nx (S' := []) (mIf_no (mBool_ok (m2_ok (S1 := []) (S2 := []) (atS rfl) (atS rfl) ?_)))).trans (mRet_ok (S1 := []) (mN_ok (mCons_ok (atS rfl) (mCons_ok (m2_ok (atP rfl) (atP rfl) (add_tup ?_)) rfl)) ?_))
  · rw [ne_int, beq_self_eq_true]; rfl
  · rw [List.length_map, List.length_map, ← List.length_append]; exact Nat.le_trans h.hl (by omega)
  · rw [← List.map_append]; exact h.make
theorem behind_ne (h : n ≠ m) : m_behind [mkB n ps, mkB m qs] S = .ex xS S := by
  refine call_pureX (S1 := []) rfl pure2 (mSeq_ex (mIf_tt (S1 := []) (mBool_ok (m2_ok (S1 := []) (S2 := []) (atS rfl) (atS rfl) ?_)) rfl))
  rw [ne_int, beq_eq_false_iff_ne.mpr (show (n : Int) ≠ m by omega)]; rfl
theorem below_ok (h : Ok (n + m) (ps ++ qs.map (mov n)) 1000) (hq : ∀ p ∈ qs, p.w < 4) : m_below [mkB n ps, mkB m qs] S = .ok (mkB (n + m) (ps ++ qs.map (mov n))) S := by
  refine call_pureE (S1 := []) rfl pure2 ?_ (out_pureD (pure_B _ _))
  have hl : ps.length + qs.length ≤ 1000 := by have := h.hl; rw [List.length_append, List.length_map] at this; omega
  refine (mSeq_nx (σ' := [some (mkB n ps), some (mkB m qs), some (.int ((n + m : Nat) : Int)), none]) (S' := []) (mAsg_ok (m2_ok (atS rfl) (atS rfl) rfl) rfl)).trans ?_
  refine (mSeq_nx (mIf_no (mBool_ok (m2_ok (mVar_ok rfl) rfl (?_ : dGt (.int ((n + m : Nat) : Int)) (.int 9) [] = .ok (.bl false) []))))).trans ?_
  · show R.ok (D.bl (decide ((9 : Int) < ((n + m : Nat) : Int)))) [] = _
    rw [decide_eq_false (by have := h.h9; omega)]
  refine mRet_ok (mN_ok (mCons_ok (mVar_ok rfl) (mCons_ok (m2_ok (atP rfl) (mN_ok (mCons_ok (mLc_all (as := qs) (f := mkP) (r := fun p => mkP (mov n p)) (miSeq_tup (atP rfl)) (by omega) fun p hp => ⟨[some (mkB n ps), some (mkB m qs), some (.int ((n + m : Nat) : Int)), some (mkP p)], rfl, mN_ok (mCons_ok (mVar_ok rfl) (mCons_ok (atS rfl) rfl)) (moved_ok (hq p hp))⟩) rfl) tup_lst) (add_tup ?_)) rfl)) ?_)
  · rw [List.length_map, List.length_map]; omega
  · rw [show ps.map mkP ++ qs.map (fun p => mkP (mov n p)) = (ps ++ qs.map (mov n)).map mkP from by rw [List.map_append, List.map_map]; rfl]
    exact h.make
theorem below_big (h : 9 < n + m) : m_below [mkB n ps, mkB m qs] S = .ex (xZ (.int ((n + m : Nat) : Int))) S := by
  refine call_pureX (S1 := []) rfl pure2 ((mSeq_nx (σ' := [some (mkB n ps), some (mkB m qs), some (.int ((n + m : Nat) : Int)), none]) (S' := []) (mAsg_ok (m2_ok (atS rfl) (atS rfl) rfl) rfl)).trans (mSeq_ex (mIf_tt (mBool_ok (m2_ok (mVar_ok rfl) rfl (?_ : dGt (.int ((n + m : Nat) : Int)) (.int 9) [] = .ok (.bl true) []))) rfl)))
  show R.ok (D.bl (decide ((9 : Int) < ((n + m : Nat) : Int)))) [] = _
  rw [decide_eq_true (by omega)]
def bk (ps : List Pc) : List Pc := ps.reverse.map tw
def ud (n : Nat) (ps : List Pc) : List Pc := ps.map (mir n)
theorem Ok.bk {l : Nat} (h : Ok n ps l) : Ok n (bk ps) l := h.rev.map fun p => ok_tw
theorem Ok.ud {l : Nat} (h : Ok n ps l) : Ok n (ud n ps) l := h.map fun p => ok_mir
theorem backwards_ok (h : Ok n ps 1000) : m_backwards [mkB n ps] S = .ok (mkB n (bk ps)) S := by
  refine call_pure (S1 := []) rfl pure1 ?_ (out_pureD (pure_B _ _))
  have hr : m1 (or1 (revL false) revT) (m1 (dAttr ["Board"] "pieces") (mVar 0)) [some (mkB n ps), none] [] = .ok (.tup (ps.reverse.map mkP)) [] := m1_ok (atP rfl) (by
    show (R.ok (D.tup (ps.map mkP).reverse) [] : R D) = _
    rw [List.map_reverse])
  refine mRet_ok (mN_ok (mCons_ok (atS rfl) (mCons_ok (mN_ok (mCons_ok (mLc_all (as := ps.reverse) (f := mkP) (r := fun p => mkP (tw p)) (miSeq_tup hr) (by rw [List.length_reverse]; have := h.hl; omega) fun p hp => ⟨[some (mkB n ps), some (mkP p)], rfl, back1 (h.w4 p (List.mem_reverse.mp hp)) rfl⟩) rfl) tup_lst) rfl)) ?_)
  rw [show ps.reverse.map (fun p => mkP (tw p)) = (LW.bk ps).map mkP from by unfold LW.bk; rw [List.map_map]; rfl]
  exact h.bk.make
theorem upside_ok (h : Ok n ps 1000) : m_upside_down [mkB n ps] S = .ok (mkB n (ud n ps)) S := by
  refine call_pure (S1 := []) rfl pure1 ?_ (out_pureD (pure_B _ _))
  refine mRet_ok (mN_ok (mCons_ok (atS rfl) (mCons_ok (mN_ok (mCons_ok (mLc_all (as := ps) (f := mkP) (r := fun p => mkP (mir n p)) (miSeq_tup (atP rfl)) (by have := h.hl; omega) fun p hp => ⟨[some (mkB n ps), some (mkP p)], rfl, mN_ok (mCons_ok (atS rfl) (mCons_ok (mVar_ok rfl) rfl)) (mirrored_ok (h.hp p hp))⟩) rfl) tup_lst) rfl)) ?_)
  rw [show ps.map (fun p => mkP (mir n p)) = (LW.ud n ps).map mkP from by unfold LW.ud; rw [List.map_map]; rfl]
  exact h.ud.make
theorem straight_ok (h1 : 1 ≤ n) (h9 : n ≤ 9) : m_straight [.int (n : Int)] S = .ok (mkB n []) S := by
  refine call_pureE (S1 := []) rfl rfl ?_ (out_pureD (pure_B _ _))
  refine (mSeq_nx (mIf_no (mNotT_ok (mBool_ok (mN_ok (mCons_ok (mVar_ok rfl) (mCons_ok rfl rfl)) (sz_at h1 h9)))))).trans (mRet_ok (mN_ok (mCons_ok (mVar_ok rfl) (mCons_ok rfl rfl)) (BI (ps := []) h1 h9 (fun _ h => nomatch h) (by simp))))
theorem straight_bd : m_straight [mkB n ps] S = .ex (xZ (mkB n ps)) S := by
  have e : m_is_size [mkB n ps, .int 9] [] = .ok (.bl false) [] := by
    have e1 : m_is_whole [mkB n ps] [] = .ok (.bl false) [] := by
      exact call_pure (S1 := []) (d := .bl false) rfl pure1 rfl rfl
    refine call_pure (S1 := []) (d := .bl false) rfl (by show ((mkB n ps).pure && (true && true)) = true; rw [pure_B]; rfl) (mRet_ok (mAnd_ok (x := false) (y := false) (mN_ok (mCons_ok (mVar_ok rfl) rfl) e1) (fun z => nomatch z))) rfl
  refine call_pureX (S1 := []) (σ := [some (mkB n ps)]) rfl pure1 (mSeq_ex (mIf_tt (mNotT_ok (mBool_ok (mN_ok (mCons_ok (mVar_ok rfl) (mCons_ok rfl rfl)) e))) ?_))
  show (if (mkB n ps).pure then O.ex ⟨"BadSize", [("thing", mkB n ps)]⟩ [some (mkB n ps)] [] else .no) = _
  rw [if_pos (pure_B _ _)]; rfl
end
end LW

set_option Elab.async false
set_option linter.all false
set_option maxRecDepth 100000
/-! Boards compared; what is refused; lifted. -/
namespace LW
open PySem MM L2
def chn : MS := mIf (mBool (m2 dEq (mVar 0) (mK (.int 0)))) (mAsg (mN m_behind (mCons (mVar 1) (mCons (mVar 2) (mNil)))) (gN 3)) (mIf (mBool (m2 dEq (mVar 0) (mK (.int 1)))) (mAsg (mN m_below (mCons (mVar 1) (mCons (mVar 2) (mNil)))) (gN 3)) (mIf (mBool (m2 dEq (mVar 0) (mK (.int 2)))) (mAsg (mN m_straight (mCons (mVar 1) (mNil))) (gN 3)) (mIf (mBool (m2 dEq (mVar 0) (mK (.int 3)))) (mAsg (mNK 0 2 m_behind (pk [1, 0]) mNil (mCons (mVar 2) (mCons (mVar 1) (mNil)))) (gN 3)) (mIf (mBool (m2 dEq (mVar 0) (mK (.int 4)))) (mAsg (mNK 0 2 m_below (pk [1, 0]) mNil (mCons (mVar 2) (mCons (mVar 1) (mNil)))) (gN 3)) (mAsg (mNK 0 1 m_straight (pk [0]) mNil (mCons (mVar 1) (mNil))) (gN 3))))))
def rtn : MS := mRet (mTup (mCons (mK (.str "board")) (mCons (m1 (dAttr ["Board"] "size") (mVar 3)) (mCons (m1 (dAttr ["Board"] "pieces") (mVar 3)) (mCons (m1 (dIsiC ["Board"] "Board") (mVar 3)) (mNil))))))
def cls : List Cls1 := [(4, [("OtherSizes", true), ("BadSize", false)], fun er => mRet (mTup (mCons (mK (.str "sizes")) (mCons (mK (.bl true)) (mNil))))), (4, [("OtherSizes", false), ("BadSize", true)], fun er => mRet (mTup (mCons (mK (.str "size")) (mCons (mFld er "thing") (mCons (mK (.bl true)) (mNil))))))]
theorem ref_body : b_w_refused = mTryM cls (mSeq chn rtn) := rfl
def dueB (k : Nat) (rs : List Pc) : D := .tup [.str "board", .int (k : Int), .tup (rs.map mkP), .bl true]
def dueS : D := .tup [.str "sizes", .bl true]
def dueZ (d : D) : D := .tup [.str "size", d, .bl true]
section
variable {n m k : Nat} {S : Store} {p : Pc} {ps qs rs : List Pc} {σ : Sg} {w a b d : D}
theorem pure_dueB : (dueB k rs).pure = true := by
  show (true && (true && (pureAll (rs.map mkP) && (true && true)))) = true
  rw [pure_Ps]; rfl
theorem pure_dueZ (h : d.pure = true) : (dueZ d).pure = true := by
  show (true && (d.pure && (true && true))) = true
  rw [h]; rfl
theorem ref_ok (hp : pureAll [w, a, b] = true) (h : chn [some w, some a, some b, none, none] [] = .nx [some w, some a, some b, some (mkB k rs), none] []) : m_w_refused [w, a, b] S = .ok (dueB k rs) S := by
  refine call_pure (S1 := []) rfl hp ?_ (out_pureD pure_dueB)
  show b_w_refused [some w, some a, some b, none, none] [] = _
  rw [ref_body]
  have e : mSeq chn rtn [some w, some a, some b, none, none] [] = .rt (dueB k rs) [] := (mSeq_nx h).trans (mRet_ok (mTup_ok (mCons_ok rfl (mCons_ok (atS rfl) (mCons_ok (atP rfl) (mCons_ok (m1_ok (mVar_ok rfl) rfl) rfl)))) (by simp)))
  unfold mTryM
  rw [e]
theorem ref_s (hp : pureAll [w, a, b] = true) (h : chn [some w, some a, some b, none, none] [] = .ex xS [some w, some a, some b, none, none] []) : m_w_refused [w, a, b] S = .ok dueS S := by
  refine call_pure (S1 := []) rfl hp ?_ (out_pureD rfl)
  show b_w_refused [some w, some a, some b, none, none] [] = _
  rw [ref_body]
  unfold mTryM
  rw [mSeq_ex h]
  rfl
theorem ref_z (hd : d.pure = true) (hp : pureAll [w, a, b] = true) (h : chn [some w, some a, some b, none, none] [] = .ex (xZ d) [some w, some a, some b, none, none] []) : m_w_refused [w, a, b] S = .ok (dueZ d) S := by
  refine call_pure (S1 := []) rfl hp ?_ (out_pureD (pure_dueZ hd))
  show b_w_refused [some w, some a, some b, none, none] [] = _
  rw [ref_body]
  unfold mTryM
  rw [mSeq_ex h]
  rfl
def put3 (w a b : D) (r : R D) : O := r.toO [some w, some a, some b, none, none] fun d S => .nx [some w, some a, some b, some d, none] S
theorem chn0 : chn [some (.int 0), some a, some b, none, none] [] = put3 (.int 0) a b (m_behind [a, b] []) := rfl
theorem chn1 : chn [some (.int 1), some a, some b, none, none] [] = put3 (.int 1) a b (m_below [a, b] []) := rfl
theorem chn2 : chn [some (.int 2), some a, some b, none, none] [] = put3 (.int 2) a b (m_straight [a] []) := rfl
theorem chn3 : chn [some (.int 3), some a, some b, none, none] [] = put3 (.int 3) a b (m_behind [a, b] []) := rfl
theorem chn4 : chn [some (.int 4), some a, some b, none, none] [] = put3 (.int 4) a b (m_below [a, b] []) := rfl
end
end LW

set_option Elab.async false
set_option linter.all false
set_option maxRecDepth 100000
/-! Boards compared and told; what is joined is right. -/
namespace LW
open PySem MM L2
theorem shal_str (k : Nat) (x : Str) : (D.str x).shal k = PyData.strOk x := by cases k <;> rfl
theorem shal_int (k : Nat) (i : Int) : (D.int i).shal k = true := by cases k <;> rfl
theorem shal_bl (k : Nat) (i : Bool) : (D.bl i).shal k = true := by cases k <;> rfl
theorem shal_ii (k : Nat) (i j : Int) : (D.tup [.int i, .int j]).shal (k + 1) = true := by
  show ((D.int i).shal k && ((D.int j).shal k && true)) = true
  rw [shal_int, shal_int]; rfl
theorem shal_wt (k x : Nat) : (wtD x).shal (k + 1) = true := by
  unfold wtD
  split <;> first | (rw [shal_str]; decide +kernel) | (exact shal_ii k _ _)
theorem shal_wk {w : Nat} (h : w < 4) (k : Nat) : (D.str (wdS w)).shal k = true := by
  rw [shal_str]
  exact LW.w4 (P := fun w => PyData.strOk (wdS w) = true) (by decide +kernel) (by decide +kernel) (by decide +kernel) (by decide +kernel) h
theorem dat_wt (x : Nat) : (wtD x).dat = true := by unfold wtD; split <;> rfl
def tellB (k : Nat) (d : D) : Bool := d.pd.showable && Nat.ble d.pd.shown.length k && PyData.strOk d.pd.shown
theorem tell_of {k : Nat} {d : D} (h : tellB k d = true) : Tells k d := by
  unfold tellB at h
  rw [Bool.and_eq_true, Bool.and_eq_true] at h
  exact ⟨h.1.1, Nat.le_of_ble_eq_true h.1.2, h.2⟩
def kTw4 : Bool := (ranN 4).all fun w => tellB 20 (.str (wdS w))
theorem fTw4 : kTw4 = true := by kernel_rfl
def kTwt : Bool := (ranN 9).all fun w => tellB 20 (wtD w)
theorem fTwt : kTwt = true := by kernel_rfl
def kTeN : Bool := (ranN 19).all fun n => tellB 20 (.int (n : Int))
theorem fTeN : kTeN = true := by kernel_rfl
section
variable {n m k : Nat} {S : Store} {p : Pc} {ps qs rs : List Pc} {σ : Sg} {w a b d : D}
theorem shal_P (h : p.w < 4) (k : Nat) : (mkP p).shal (k + 2) = true := by
  unfold mkP restD
  split
  · show ((D.str (wdS p.w)).shal (k + 1) && ((D.int p.k).shal (k + 1) && true)) = true
    rw [shal_wk h, shal_int]; rfl
  · show ((D.str (wdS p.w)).shal (k + 1) && ((D.int p.k).shal (k + 1) && ((wtD p.x).shal (k + 1) && true))) = true
    rw [shal_wk h, shal_int, shal_wt]; rfl
theorem shal_Ps (k : Nat) : ∀ {ps : List Pc}, (∀ p ∈ ps, p.w < 4) → shalAll (k + 2) (ps.map mkP) = true
  | [], _ => rfl
  | p :: ps, h => by
    show ((mkP p).shal (k + 2) && shalAll (k + 2) (ps.map mkP)) = true
    rw [shal_P (h p List.mem_cons_self), shal_Ps k fun q hq => h q (List.mem_cons_of_mem _ hq)]; rfl
theorem dat_P : (mkP p).dat = true := by
  unfold mkP restD
  split
  · rfl
  · show (true && (true && ((wtD p.x).dat && true))) = true
    rw [dat_wt]; rfl
theorem dat_Ps : ∀ {ps : List Pc}, datAll (ps.map mkP) = true
  | [] => rfl
  | p :: ps => by
    show ((mkP p).dat && datAll (ps.map mkP)) = true
    rw [dat_P, dat_Ps]; rfl
theorem rd_pd : ∀ {S : Store} {xs : List D}, datAll xs = true → rd S (.tup xs) = some (.tup xs) := fun _ => rfl
theorem eq_Ps (h : ∀ p ∈ ps, p.w < 4) : dEq (.tup (ps.map mkP)) (.tup (ps.map mkP)) S = .ok (.bl true) S := by
  rw [dEq_ok (d := .tup (ps.map mkP)) (e := .tup (ps.map mkP)) rfl rfl (shal_Ps 37 h) (shal_Ps 37 h), eqD_refl (show (D.tup (ps.map mkP)).dat = true from dat_Ps)]
theorem beq_ok (h : ∀ p ∈ ps, p.w < 4) : m_Board_eq [mkB n ps, mkB n ps] S = .ok (.bl true) S := by
  refine call_pure (S1 := []) rfl pure2 (mRet_ok (mAnd_ok (x := true) (y := true) (m1_ok (mVar_ok rfl) rfl) fun _ => mAnd_ok (x := true) (y := true) (m2_ok (atS rfl) (atS rfl) ?_) fun _ => m2_ok (atP rfl) (atP rfl) (eq_Ps h))) rfl
  rw [eq_int, beq_self_eq_true]
theorem eqB (h : ∀ p ∈ ps, p.w < 4) : or2 (dEqO ["Board"] "Board" m_Board_eq) dEq (mkB n ps) (mkB n ps) S = .ok (.bl true) S := by
  refine or2_l ?_
  show boolOf (m_Board_eq [mkB n ps, mkB n ps] S) = _
  rw [beq_ok h]; rfl
theorem neB (h : ∀ p ∈ ps, p.w < 4) : or2 (dNeO ["Board"] "Board" m_Board_eq) dNe (mkB n ps) (mkB n ps) S = .ok (.bl false) S := by
  refine or2_l ?_
  show notOf (m_Board_eq [mkB n ps, mkB n ps] S) = _
  rw [beq_ok h]; rfl
theorem Tells.mono {j k : Nat} (h : Tells j d) (hk : j ≤ k) : Tells k d := ⟨h.1, Nat.le_trans h.2.1 hk, h.2.2⟩
theorem tell_N (h : n < 19) : Tells 20 (.int (n : Int)) := tell_of (all_at fTeN (List.mem_range.mpr h))
theorem all2 {P : D → Prop} (ha : P a) (hb : P b) : ∀ d ∈ [a, b], P d := fun d h => by
  rcases List.mem_cons.mp h with rfl | h
  · exact ha
  · rcases List.mem_cons.mp h with rfl | h
    · exact hb
    · exact nomatch h
theorem all3 {c : D} {P : D → Prop} (ha : P a) (hb : P b) (hc : P c) : ∀ d ∈ [a, b, c], P d := fun d h => by
  rcases List.mem_cons.mp h with rfl | h
  · exact ha
  · exact all2 hb hc d h
theorem all4 {c e : D} {P : D → Prop} (ha : P a) (hb : P b) (hc : P c) (he : P e) : ∀ d ∈ [a, b, c, e], P d := fun d h => by
  rcases List.mem_cons.mp h with rfl | h
  · exact ha
  · exact all3 hb hc he d h
theorem tell_P (h : p.w < 4) (hk : p.k < 19) (hx : p.x < 9) : Tells 100 (mkP p) := by
  have t1 : Tells 20 (.str (wdS p.w)) := tell_of (all_at fTw4 (List.mem_range.mpr h))
  have t2 : Tells 20 (.int (p.k : Int)) := tell_N hk
  have t3 : Tells 20 (wtD p.x) := tell_of (all_at fTwt (List.mem_range.mpr hx))
  unfold mkP restD
  split
  · exact tells_tup (k := 20) (all2 t1 t2) (by simp only [List.length_cons, List.length_nil]; omega)
  · exact tells_tup (k := 20) (all3 t1 t2 t3) (by simp only [List.length_cons, List.length_nil]; omega)
theorem tell_Ps (hp : ∀ p ∈ ps, okP n p = true) (h9 : n ≤ 9) (hl : ps.length ≤ 60) : Tells 6200 (.tup (ps.map mkP)) := by
  refine tells_tup (k := 100) (fun d hd => ?_) (by rw [List.length_map]; omega)
  obtain ⟨p, hp', rfl⟩ := List.mem_map.mp hd
  obtain ⟨a, b, c⟩ := ok_iff.mp (hp p hp')
  exact tell_P a (by split at c <;> omega) b
theorem tell_dueB (hp : ∀ p ∈ ps, okP n p = true) (h9 : n ≤ 9) (hl : ps.length ≤ 60) : Tells 25000 (dueB n ps) :=
  tells_tup (k := 6200) (all4 (Tells.mono (j := 20) (tell_of (by decide +kernel)) (by decide)) (Tells.mono (tell_N (by omega)) (by decide)) (tell_Ps hp h9 hl) (Tells.mono (tells_bl _) (by decide))) (by simp only [List.length_cons, List.length_nil]; omega)
theorem shal_dueB (h : ∀ p ∈ ps, p.w < 4) : (dueB n ps).shal 39 = true := by
  show ((D.str "board").shal 38 && ((D.int (n : Int)).shal 38 && (shalAll 37 (ps.map mkP) && ((D.bl true).shal 38 && true)))) = true
  rw [shal_int, shal_bl, shal_Ps 35 h, show (D.str "board").shal 38 = true from by decide +kernel]; rfl
theorem tell_dueS : Tells 25000 dueS := Tells.mono (j := 100) (tell_of (by decide +kernel)) (by decide)
theorem tell_dueN (h : n < 19) : Tells 25000 (dueZ (.int (n : Int))) :=
  tells_tup (k := 20) (all3 (tell_of (by decide +kernel)) (tell_N h) (Tells.mono (tells_bl _) (by decide))) (by simp only [List.length_cons, List.length_nil]; omega)
theorem shal_dueN : (dueZ (.int (n : Int))).shal 39 = true := by
  show ((D.str "size").shal 38 && ((D.int (n : Int)).shal 38 && ((D.bl true).shal 38 && true))) = true
  rw [shal_int, shal_bl, show (D.str "size").shal 38 = true from by decide +kernel]; rfl
theorem rd_due {xs : List D} : rd S (.lst xs) = some (.lst xs) := rfl
/-- two alike, told -/
theorem repr2 (hd : d.shal 39 = true) (ht : Tells 25000 d) : dReprB [.lst [d, d]] S = .ok (.str (D.lst [d, d]).pd.shown) S ∧ PyData.strOk (D.lst [d, d]).pd.shown = true := by
  have t : Tells 60000 (.lst [d, d]) := tells_lst (k := 25000) (all2 ht ht) (by simp only [List.length_cons, List.length_nil]; omega)
  exact ⟨repr_okB (k := 60000) rfl rfl (by show (d.shal 39 && (d.shal 39 && true)) = true; rw [hd]; rfl) t (by decide), t.2.2⟩
theorem eq_strT {x : Str} (h : PyData.strOk x = true) : dEq (.str x) (.str x) S = .ok (.bl true) S := by
  rw [dEq_ok (d := .str x) (e := .str x) rfl rfl (by rw [shal_str]; exact h) (by rw [shal_str]; exact h), eqD_refl (show (D.str x).dat = true from rfl)]
theorem mov_map {s : Nat} : qs.map (fun p => mkP (mov s p)) = (qs.map (mov s)).map mkP := by rw [List.map_map]; rfl
theorem pureL {n : Int} : pureAll [.tup (qs.map mkP), .int n] = true := by
  show (pureAll (qs.map mkP) && (true && true)) = true
  rw [pure_Ps]; rfl
theorem lifted_ok (h : ∀ p ∈ qs, p.w < 4) (hl : qs.length ≤ 1000) : m_w_lifted [.tup (qs.map mkP), .int (m : Int)] S = .ok (.tup ((qs.map (mov m)).map mkP)) S := by
  refine call_pure (S1 := []) rfl pureL ?_ (out_pureD (by show pureAll _ = true; exact pure_Ps _))
  refine mRet_ok (mN_ok (mCons_ok (mLc_all (as := qs) (f := mkP) (r := fun p => mkP (mov m p)) (miSeq_tup (mVar_ok rfl)) (by omega) fun p hp => ⟨[some (.tup (qs.map mkP)), some (.int (m : Int)), some (mkP p)], rfl, lift1 (h p hp) rfl rfl⟩) rfl) ?_)
  rw [mov_map]; exact tup_lst
end
end LW

set_option Elab.async false
set_option linter.all false
set_option maxRecDepth 100000
/-! What is joined is right. -/
namespace LW
open PySem MM L2
section
variable {n m k : Nat} {S : Store} {p : Pc} {ps qs rs : List Pc} {σ : Sg} {w a b d : D}
theorem pure3 {i : Int} : pureAll [.int i, mkB n ps, mkB m qs] = true := by show (true && pureAll [mkB n ps, mkB m qs]) = true; rw [pure2]; rfl
/-- told twice what is due -/
theorem told2 {i j : Int} {oa ob x : D} (h1 : m_w_refused [.int i, a, b] [] = .ok d []) (h2 : m_w_refused [.int j, a, b] [] = .ok d []) (hs : d.shal 39 = true) (ht : Tells 25000 d) :
    mN dReprB (mCons (mLst (mCons (mN m_w_refused (mCons (mK (.int i)) (mCons (mVar 2) (mCons (mVar 3) (mNil))))) (mCons (mN m_w_refused (mCons (mK (.int j)) (mCons (mVar 2) (mCons (mVar 3) (mNil))))) (mNil)))) (mNil)) [some oa, some ob, some a, some b, some x] [] = .ok (.str (D.lst [d, d]).pd.shown) [] :=
  mN_ok (mCons_ok (mLst_ok (xs := [d, d]) (mCons_ok (mN_ok (mCons_ok rfl (mCons_ok (mVar_ok rfl) (mCons_ok (mVar_ok rfl) rfl))) h1) (mCons_ok (mN_ok (mCons_ok rfl (mCons_ok (mVar_ok rfl) (mCons_ok (mVar_ok rfl) rfl))) h2) rfl)) (by simp)) rfl) (repr2 hs ht).1
theorem due2 {i : Nat} (hv : σ[i]? = some (some d)) (hs : d.shal 39 = true) (ht : Tells 25000 d) : mN dReprB (mCons (mLst (mCons (mVar i) (mCons (mVar i) (mNil)))) (mNil)) σ S = .ok (.str (D.lst [d, d]).pd.shown) S :=
  mN_ok (mCons_ok (mLst_ok (xs := [d, d]) (mCons_ok (mVar_ok hv) (mCons_ok (mVar_ok hv) rfl)) (by simp)) rfl) (repr2 hs ht).1
theorem joined_ok (h : Ok n ps 30) (g : Ok m qs 30) : m_w_are_joined_right [.lst [.int (n : Int), .int (m : Int)], .lst [.tup (ps.map mkP), .tup (qs.map mkP)], mkB n ps, mkB m qs] S = .ok (.bl true) S := by
  have hp : pureAll [.lst [.int (n : Int), .int (m : Int)], .lst [.tup (ps.map mkP), .tup (qs.map mkP)], mkB n ps, mkB m qs] = true := by
    show (true && ((pureAll (ps.map mkP) && (pureAll (qs.map mkP) && true)) && pureAll [mkB n ps, mkB m qs])) = true
    rw [pure_Ps, pure_Ps, pure2]; rfl
  refine call_pure (S1 := []) (d := .bl true) rfl hp ?_ rfl
  let L1 : D := .lst [.int (n : Int), .int (m : Int)]
  let L2 : D := .lst [.tup (ps.map mkP), .tup (qs.map mkP)]
  have hl : ps.length + qs.length ≤ 60 := by have := h.hl; have := g.hl; omega
  -- what is due of behind
  have e1 : ∃ d, mIfE (mBool (m2 dEq (m2 dIx (mVar 0) (mK (.int 0))) (m2 dIx (mVar 0) (mK (.int 1))))) (mTup (mCons (mK (.str "board")) (mCons (m2 dIx (mVar 0) (mK (.int 0))) (mCons (m2 (dAdd false) (m2 dIx (mVar 1) (mK (.int 0))) (m2 dIx (mVar 1) (mK (.int 1)))) (mCons (mK (.bl true)) (mNil)))))) (mTup (mCons (mK (.str "sizes")) (mCons (mK (.bl true)) (mNil)))) [some L1, some L2, some (mkB n ps), some (mkB m qs), none] [] = .ok d [] ∧ m_w_refused [.int 0, mkB n ps, mkB m qs] [] = .ok d [] ∧ m_w_refused [.int 3, mkB n ps, mkB m qs] [] = .ok d [] ∧ d.shal 39 = true ∧ Tells 25000 d := by
    have ht : mBool (m2 dEq (m2 dIx (mVar 0) (mK (.int 0))) (m2 dIx (mVar 0) (mK (.int 1)))) [some L1, some L2, some (mkB n ps), some (mkB m qs), none] [] = .ok ((n : Int) == (m : Int)) [] := mBool_ok (m2_ok (x := .int (n : Int)) (y := .int (m : Int)) (S1 := []) (S2 := []) (m2_ok (mVar_ok rfl) rfl rfl) (m2_ok (mVar_ok rfl) rfl rfl) rfl)
    by_cases q : n = m
    · subst q
      have k := (h.app g)
      refine ⟨dueB n (ps ++ qs), mIfE_ok ht (fun _ => mTup_ok (mCons_ok rfl (mCons_ok (m2_ok (mVar_ok rfl) rfl rfl) (mCons_ok (x := .tup ((ps ++ qs).map mkP)) (m2_ok (x := .tup (ps.map mkP)) (y := .tup (qs.map mkP)) (S1 := []) (S2 := []) (m2_ok (mVar_ok rfl) rfl rfl) (m2_ok (mVar_ok rfl) rfl rfl) ((add_tup (by rw [List.length_map, List.length_map]; omega)).trans (by rw [← List.map_append]))) rfl))) (by simp)) (fun z => by rw [beq_self_eq_true] at z; cases z), ref_ok pure3 (by rw [chn0, behind_ok (k.mono (by decide))]; rfl), ref_ok pure3 (by rw [chn3, behind_ok (k.mono (by decide))]; rfl), shal_dueB k.w4, tell_dueB k.hp k.h9 k.hl⟩
    · refine ⟨dueS, mIfE_ok ht (fun z => (q (by have := eq_of_beq z; omega)).elim) (fun _ => rfl), ref_s pure3 (by rw [chn0, behind_ne q]; rfl), ref_s pure3 (by rw [chn3, behind_ne q]; rfl), by decide +kernel, tell_dueS⟩
  obtain ⟨d1, e1, r0, r3, s1, t1⟩ := e1
  refine (mSeq_nx (σ' := [some L1, some L2, some (mkB n ps), some (mkB m qs), some d1]) (S' := []) (mAsg_ok e1 rfl)).trans ?_
  refine (mSeq_nx (mIf_no (mBool_ok (m2_ok (told2 r0 r3 s1 t1) (due2 rfl s1 t1) (ne_str (repr2 (S := []) s1 t1).2))))).trans ?_
  -- what is due of below
  have e2 : ∃ d2, mTup (mCons (mK (.str "board")) (mCons (m2 (dAdd false) (m2 dIx (mVar 0) (mK (.int 0))) (m2 dIx (mVar 0) (mK (.int 1)))) (mCons (m2 (dAdd false) (m2 dIx (mVar 1) (mK (.int 0))) (mN m_w_lifted (mCons (m2 dIx (mVar 1) (mK (.int 1))) (mCons (m2 dIx (mVar 0) (mK (.int 0))) (mNil))))) (mCons (mK (.bl true)) (mNil))))) [some L1, some L2, some (mkB n ps), some (mkB m qs), some d1] [] = .ok d2 [] ∧ d2 = dueB (n + m) (ps ++ qs.map (mov n)) :=
    ⟨_, mTup_ok (mCons_ok rfl (mCons_ok (x := .int ((n + m : Nat) : Int)) (m2_ok (x := .int (n : Int)) (y := .int (m : Int)) (S1 := []) (S2 := []) (m2_ok (mVar_ok rfl) rfl rfl) (m2_ok (mVar_ok rfl) rfl rfl) rfl) (mCons_ok (x := .tup ((ps ++ qs.map (mov n)).map mkP)) (m2_ok (x := .tup (ps.map mkP)) (y := .tup ((qs.map (mov n)).map mkP)) (S1 := []) (S2 := []) (m2_ok (mVar_ok rfl) rfl rfl) (mN_ok (mCons_ok (m2_ok (mVar_ok rfl) rfl rfl) (mCons_ok (m2_ok (mVar_ok rfl) rfl rfl) rfl)) (lifted_ok g.w4 (by omega))) ((add_tup (by rw [List.length_map, List.length_map, List.length_map]; omega)).trans (by rw [← List.map_append]))) rfl))) (by simp), rfl⟩
  obtain ⟨d2, e2, q2⟩ := e2
  refine (mSeq_nx (σ' := [some L1, some L2, some (mkB n ps), some (mkB m qs), some d2]) (S' := []) (mAsg_ok e2 rfl)).trans ?_
  have ht : mBool (m2 dGt (m2 (dAdd false) (m2 dIx (mVar 0) (mK (.int 0))) (m2 dIx (mVar 0) (mK (.int 1)))) (mK (.int 9))) [some L1, some L2, some (mkB n ps), some (mkB m qs), some d2] [] = .ok (decide ((9 : Int) < ((n + m : Nat) : Int))) [] := mBool_ok (m2_ok (x := .int ((n + m : Nat) : Int)) (S1 := []) (S2 := []) (m2_ok (x := .int (n : Int)) (y := .int (m : Int)) (S1 := []) (S2 := []) (m2_ok (mVar_ok rfl) rfl rfl) (m2_ok (mVar_ok rfl) rfl rfl) rfl) rfl rfl)
  by_cases q : 9 < n + m
  · have t : Tells 25000 (dueZ (.int ((n + m : Nat) : Int))) := tell_dueN (by have := h.h9; have := g.h9; omega)
    have s : (dueZ (.int ((n + m : Nat) : Int))).shal 39 = true := shal_dueN
    refine (mSeq_nx (σ' := [some L1, some L2, some (mkB n ps), some (mkB m qs), some (dueZ (.int ((n + m : Nat) : Int)))]) (S' := []) (mIf_tt (by rw [ht, decide_eq_true (by omega)]) (mAsg_ok (mTup_ok (mCons_ok rfl (mCons_ok (x := .int ((n + m : Nat) : Int)) (m2_ok (x := .int (n : Int)) (y := .int (m : Int)) (S1 := []) (S2 := []) (m2_ok (mVar_ok rfl) rfl rfl) (m2_ok (mVar_ok rfl) rfl rfl) rfl) (mCons_ok rfl rfl))) (by simp)) rfl))).trans ?_
    exact mRet_ok (m2_ok (told2 (ref_z rfl pure3 (by rw [chn1, below_big q]; rfl)) (ref_z rfl pure3 (by rw [chn4, below_big q]; rfl)) s t) (due2 rfl s t) (eq_strT (repr2 (S := []) s t).2))
  · have k := h.below g (by omega)
    have s : d2.shal 39 = true := by rw [q2]; exact shal_dueB k.w4
    have t : Tells 25000 d2 := by rw [q2]; exact tell_dueB k.hp k.h9 k.hl
    refine (mSeq_nx (σ' := [some L1, some L2, some (mkB n ps), some (mkB m qs), some d2]) (S' := []) (mIf_no (by rw [ht, decide_eq_false (by omega)]))).trans ?_
    refine mRet_ok (m2_ok (told2 ?_ ?_ s t) (due2 rfl s t) (eq_strT (repr2 (S := []) s t).2))
    · rw [q2]; exact ref_ok pure3 (by rw [chn1, below_ok (k.mono (by decide)) g.w4]; rfl)
    · rw [q2]; exact ref_ok pure3 (by rw [chn4, below_ok (k.mono (by decide)) g.w4]; rfl)
end
end LW

set_option Elab.async false
set_option linter.all false
set_option maxRecDepth 100000
/-! What is turned is right. -/
namespace LW
open PySem MM L2
def dW : List (Key × D) := [(.inr "down", .str "up"), (.inr "up", .str "down"), (.inr "pass", .str "pass"), (.inr "meet", .str "meet")]
def tr (b : Bool) (n : Nat) (p : Pc) : Pc := if b then tw p else mir n p
def isO (o : Option D) (d : D) : Bool := match o with
  | some e => sameD e d
  | none => false
theorem val_at {o : Option D} {d : D} (h : isO o d = true) : o = some d := by
  unfold isO at h
  split at h
  · rw [sameD_ok h]
  · cases h
section
variable {n m k : Nat} {S : Store} {p : Pc} {ps qs rs : List Pc} {σ : Sg} {w a b d : D} {T : Store} {c : Bool}
theorem swapped {w : Nat} (h : w < 4) : dGetA (.ref 0) (.str (wdS w)) (.dic dW :: T) = .ok (.str (wdS (twW w))) (.dic dW :: T) := by
  have e : lookD (.ref 0) (.str (wdS w)) (.dic dW :: T) = some (some (.str (wdS (twW w)))) := by
    show some (valD dW (.inr (wdS w))) = _
    exact congrArg some (val_at (w4 (P := fun w => isO (valD dW (.inr (wdS w))) (.str (wdS (twW w))) = true) (by decide +kernel) (by decide +kernel) (by decide +kernel) (by decide +kernel) h))
  unfold dGetA
  rw [e]
theorem pureT {c : Bool} : pureAll [.int (n : Int), .tup (ps.map mkP), .bl c] = true := by
  show (true && (pureAll (ps.map mkP) && (true && true))) = true
  rw [pure_Ps]; rfl
theorem add_tup0 {xs ys : List D} (h : xs.length + ys.length ≤ 1000000) : dAdd false (.tup xs) (.tup ys) S = .ok (.tup (xs ++ ys)) S := add_tup h
theorem turned_ok (h : Ok n ps 1000) : m_w_turned [.int (n : Int), .tup (ps.map mkP), .bl c] S = .ok (.tup (if c then ((ps.map (tr c n)).reverse.map mkP) else (ps.map (tr c n)).map mkP)) S := by
  refine call_pure (S1 := [.dic dW, .lst ((ps.map (tr c n)).map mkP)]) rfl pureT ?_ (out_pureD (by split <;> exact pure_Ps _))
  have e0 : mDict [.inr "down", .inr "up", .inr "pass", .inr "meet"] (mCons (mK (.str "up")) (mCons (mK (.str "down")) (mCons (mK (.str "pass")) (mCons (mK (.str "meet")) (mNil))))) [some (.int (n : Int)), some (.tup (ps.map mkP)), some (.bl c), none, none, none, none] [] = .ok (.ref 0) [.dic dW] := by
    unfold mDict
    rw [show (mCons (mK (.str "up")) (mCons (mK (.str "down")) (mCons (mK (.str "pass")) (mCons (mK (.str "meet")) (mNil))))) [some (.int (n : Int)), some (.tup (ps.map mkP)), some (.bl c), none, none, none, none] [] = .ok [.str "up", .str "down", .str "pass", .str "meet"] [] from rfl]
    have hn : nodupK [.inr "down", .inr "up", .inr "pass", .inr "meet"] = true := by decide +kernel
    simp only [R.bind, List.length_cons, List.length_nil, hn]
    rfl
  refine (mSeq_nx (σ' := [some (.int (n : Int)), some (.tup (ps.map mkP)), some (.bl c), some (.ref 0), some (.ref 1), none, none]) (S' := [.dic dW, .lst []]) (mPar_ok (mCons_ok e0 (mCons_ok rfl rfl)))).trans ?_
  obtain ⟨σ', ⟨o5, o6, rfl⟩, e⟩ := runFor_app (f := mkP) (g := gN 5) (p := fun _ => true) (r := fun p => mkP (tr c n p)) (l := 1) (B := 1000) (b := (mSeq (mAsg (mIfE (mBool (mVar 2)) (m2 dIx (mVar 5) (mK (.int 1))) (m2 dSub (m2 dSub (mVar 0) (mIfE (mBool (m2 dEq (m2 dIx (mVar 5) (mK (.int 0))) (mK (.str "pass")))) (mK (.int 1)) (mK (.int 2)))) (m2 dIx (mVar 5) (mK (.int 1))))) (gN 6)) (mExpr (mMeth .list dAppend (mVar 4) (mCons (m2 (dAdd false) (mTup (mCons (m2 dGetA (mVar 3) (m2 dIx (mVar 5) (mK (.int 0)))) (mCons (mVar 6) (mNil)))) (mSl false (mVar 5) (mpS (mK (.int 2))) mpN)) (mNil))))))
    (inv := fun σ => ∃ o5 o6, σ = [some (.int (n : Int)), some (.tup (ps.map mkP)), some (.bl c), some (.ref 0), some (.ref 1), o5, o6]) ps _ [.dic dW, .lst []] [] ⟨none, none, rfl⟩ rfl (by simpa using h.hl) (by
      rintro p hp σ acc ⟨o5, o6, rfl⟩ hB
      have hw := h.w4 p hp
      have hk := h.hp p hp
      have q : (mkP (tr c n p)) = .tup (.str (wdS (twW p.w)) :: .int ((tr c n p).k : Int) :: restD p) := by
        cases c with
        | true => show mkP (tw p) = _; rw [← rest_tw hw]; rfl
        | false => show mkP (mir n p) = _; rw [← rest_mir (n := n) hw]; rfl
      refine ⟨[some (.int (n : Int)), some (.tup (ps.map mkP)), some (.bl c), some (.ref 0), some (.ref 1), some (mkP p), o6], [some (.int (n : Int)), some (.tup (ps.map mkP)), some (.bl c), some (.ref 0), some (.ref 1), some (mkP p), some (.int ((tr c n p).k : Int))], rfl, ⟨_, _, rfl⟩, ?_⟩
      refine (mSeq_nx (σ' := [some (.int (n : Int)), some (.tup (ps.map mkP)), some (.bl c), some (.ref 0), some (.ref 1), some (mkP p), some (.int ((tr c n p).k : Int))]) (S' := [.dic dW, .lst acc]) (mAsg_ok (x := .int ((tr c n p).k : Int)) (S1 := [.dic dW, .lst acc]) (mIfE_ok (x := c) (S1 := [.dic dW, .lst acc]) (mBool_ok (mVar_ok rfl)) (fun z => ?_) (fun z => ?_)) rfl)).trans ?_
      · subst z; exact m2_ok (mVar_ok rfl) rfl (ix1 hw)
      · subst z
        refine m2_ok (x := .int (if p.w = 2 then (n : Int) - 1 else (n : Int) - 2)) (S1 := [.dic dW, .lst acc]) (m2_ok (x := .int (n : Int)) (y := .int (if p.w = 2 then 1 else 2)) (S1 := [.dic dW, .lst acc]) (S2 := [.dic dW, .lst acc]) (mVar_ok rfl) (mIfE_ok (x := Nat.beq p.w 2) (isPass hw (m2_ok (mVar_ok rfl) rfl (ix0 hw))) (fun z => ?_) (fun z => ?_)) ?_) (m2_ok (mVar_ok rfl) rfl (ix1 hw)) ?_
        · rw [if_pos (Nat.eq_of_beq_eq_true z)]; rfl
        · rw [if_neg (fun y => by rw [y] at z; cases z)]; rfl
        · show R.ok (D.int ((n : Int) - (if p.w = 2 then 1 else 2))) _ = _
          split <;> rfl
        · show R.ok (D.int ((if p.w = 2 then (n : Int) - 1 else (n : Int) - 2) - (p.k : Int))) _ = _
          rw [← mirk hk]; rfl
      · refine mExpr_ok (x := .non) ?_
        have ev : m2 (dAdd false) (mTup (mCons (m2 dGetA (mVar 3) (m2 dIx (mVar 5) (mK (.int 0)))) (mCons (mVar 6) (mNil)))) (mSl false (mVar 5) (mpS (mK (.int 2))) mpN) [some (.int (n : Int)), some (.tup (ps.map mkP)), some (.bl c), some (.ref 0), some (.ref 1), some (mkP p), some (.int ((tr c n p).k : Int))] [.dic dW, .lst acc] = .ok (mkP (tr c n p)) [.dic dW, .lst acc] := by
          rw [q]
          refine m2_ok (mTup_ok (xs := [.str (wdS (twW p.w)), .int ((tr c n p).k : Int)]) (mCons_ok (m2_ok (mVar_ok rfl) (m2_ok (mVar_ok rfl) rfl (ix0 hw)) (swapped hw)) (mCons_ok (mVar_ok rfl) rfl)) (by simp)) (sl2 hw rfl) ((add_tup ?_).trans rfl)
          have := rest_len (p := p); simp only [List.length_cons, List.length_nil]; omega
        unfold mMeth
        show (R.bind (mCons _ mNil _ _) _) = _
        rw [mCons_ok ev rfl]
        show MM.need (lim (acc.length + 1)) _ = _
        rw [show lim (acc.length + 1) = true from decide_eq_true (by omega)]
        rfl)
  refine (mSeq_nx (mFor_ok (miSeq_tup (mVar_ok rfl)) e)).trans ?_
  have ec : ps.map (fun p => mkP (tr c n p)) = (ps.map (tr c n)).map mkP := by rw [List.map_map]; rfl
  rw [List.filter_eq_self.mpr fun _ _ => rfl, List.nil_append, ec]
  have ev : mIfE (mBool (mVar 2)) (m1 (revL false) (mVar 4)) (mVar 4) [some (.int (n : Int)), some (.tup (ps.map mkP)), some (.bl c), some (.ref 0), some (.ref 1), o5, o6] [.dic dW, .lst ((ps.map (tr c n)).map mkP)] = .ok (if c then .lst ((ps.map (tr c n)).reverse.map mkP) else .ref 1) [.dic dW, .lst ((ps.map (tr c n)).map mkP)] := by
    refine mIfE_ok (x := c) (S1 := [.dic dW, .lst ((ps.map (tr c n)).map mkP)]) (mBool_ok (mVar_ok rfl)) (fun z => ?_) (fun z => ?_)
    · subst z
      show (R.ok (D.lst ((ps.map (tr true n)).map mkP).reverse) _ : R D) = _
      rw [← List.map_reverse]; rfl
    · subst z; rfl
  refine mRet_ok (mN_ok (mCons_ok ev rfl) ?_)
  cases c <;> rfl
theorem bk_eq : ((ps.map (tr true n)).reverse.map mkP) = (bk ps).map mkP := by
  unfold bk
  rw [← List.map_reverse]; rfl
theorem ud_eq : ((ps.map (tr false n)).map mkP) = (ud n ps).map mkP := rfl
theorem map_id' {α : Type} {f : α → α} : ∀ {l : List α}, (∀ a ∈ l, f a = a) → l.map f = l
  | [], _ => rfl
  | a :: l, h => by rw [List.map_cons, h a List.mem_cons_self, map_id' fun b hb => h b (List.mem_cons_of_mem _ hb)]
theorem bk_bk {l : Nat} (h : Ok n ps l) : bk (bk ps) = ps := by
  unfold bk
  rw [← List.map_reverse, List.reverse_reverse, List.map_map]
  exact map_id' fun p hp => tw_tw (h.hp p hp)
theorem ud_ud {l : Nat} (h : Ok n ps l) : ud n (ud n ps) = ps := by
  unfold ud
  rw [List.map_map]
  exact map_id' fun p hp => mir_mir (h.hp p hp)
theorem map_eq' {α β : Type} {f g : α → β} : ∀ {l : List α}, (∀ a ∈ l, f a = g a) → l.map f = l.map g
  | [], _ => rfl
  | a :: l, h => by rw [List.map_cons, List.map_cons, h a List.mem_cons_self, map_eq' fun b hb => h b (List.mem_cons_of_mem _ hb)]
theorem ud_bk {l : Nat} (h : Ok n ps l) : ud n (bk ps) = bk (ud n ps) := by
  unfold ud bk
  rw [← List.map_reverse, List.map_map, List.map_map]
  exact map_eq' fun p hp => mir_tw (h.hp p (List.mem_reverse.mp hp))
theorem pureTR : pureAll [.int (n : Int), .tup (ps.map mkP), mkB n ps] = true := by
  show (true && (pureAll (ps.map mkP) && pureAll [mkB n ps])) = true
  rw [pure_Ps, pure1]; rfl
/-- a row of pieces told -/
theorem repr1 {xs : List D} (hs : shalAll 39 xs = true) (ht : Tells 6200 (.tup xs)) : dReprB [.tup xs] S = .ok (.str (D.tup xs).pd.shown) S := repr_okB (k := 6200) rfl rfl hs ht (by decide)
theorem turned_right (h : Ok n ps 30) : m_w_is_turned_right [.int (n : Int), .tup (ps.map mkP), mkB n ps] S = .ok (.bl true) S := by
  refine call_pure (S1 := []) (d := .bl true) rfl pureTR ?_ rfl
  have H := h.mono (l' := 1000) (by decide)
  have hb := H.bk
  have hu := H.ud
  refine (mSeq_nx (σ' := [some (.int (n : Int)), some (.tup (ps.map mkP)), some (mkB n ps), some (mkB n (bk ps)), some (mkB n (ud n ps))]) (S' := []) (mPar_ok (mCons_ok (mN_ok (mCons_ok (mVar_ok rfl) rfl) (backwards_ok H)) (mCons_ok (mN_ok (mCons_ok (mVar_ok rfl) rfl) (upside_ok H)) rfl)))).trans ?_
  let σ : Sg := [some (.int (n : Int)), some (.tup (ps.map mkP)), some (mkB n ps), some (mkB n (bk ps)), some (mkB n (ud n ps))]
  have T1 : Tells 6200 (.tup ((bk ps).map mkP)) := tell_Ps hb.hp h.h9 (h.bk.mono (l' := 60) (by decide)).hl
  have T2 : Tells 6200 (.tup ((ud n ps).map mkP)) := tell_Ps hu.hp h.h9 (h.ud.mono (l' := 60) (by decide)).hl
  have sz : ∀ {i : Nat} {qs : List Pc}, σ[i]? = some (some (mkB n qs)) → mBool (m2 dNe (m1 (dAttr ["Board"] "size") (mVar i)) (mVar 0)) σ [] = .ok false [] := fun hv => mBool_ok (m2_ok (S1 := []) (S2 := []) (atS hv) (mVar_ok rfl) (by rw [ne_int, beq_self_eq_true]; rfl))
  have t1 : mN m_w_turned (mCons (mVar 0) (mCons (mVar 1) (mCons (mK (.bl true)) (mNil)))) σ [] = .ok (.tup ((bk ps).map mkP)) [] := mN_ok (mCons_ok (mVar_ok rfl) (mCons_ok (mVar_ok rfl) (mCons_ok rfl rfl))) ((turned_ok H).trans (by rw [if_pos rfl, bk_eq]))
  have t2 : mN m_w_turned (mCons (mVar 0) (mCons (mVar 1) (mCons (mK (.bl false)) (mNil)))) σ [] = .ok (.tup ((ud n ps).map mkP)) [] := mN_ok (mCons_ok (mVar_ok rfl) (mCons_ok (mVar_ok rfl) (mCons_ok rfl rfl))) ((turned_ok H).trans (by rw [if_neg (by decide), ud_eq]))
  have b2 : m_backwards [mkB n (bk ps)] [] = .ok (mkB n ps) [] := by rw [backwards_ok hb, bk_bk h]
  have u2 : m_upside_down [mkB n (ud n ps)] [] = .ok (mkB n ps) [] := by rw [upside_ok hu, ud_ud h]
  have bu : m_backwards [mkB n (ud n ps)] [] = .ok (mkB n (ud n (bk ps))) [] := by rw [backwards_ok hu, ud_bk h]
  refine (mSeq_nx (mIf_no (mOrT_ok (x := false) (y := false) (mBool_ok (m2_ok (mN_ok (mCons_ok (atP rfl) rfl) (repr1 (shal_Ps 37 hb.w4) T1)) (mN_ok (mCons_ok t1 rfl) (repr1 (shal_Ps 37 hb.w4) T1)) (ne_str T1.2.2))) fun _ => sz rfl))).trans ?_
  refine (mSeq_nx (mIf_no (mOrT_ok (x := false) (y := false) (mBool_ok (m2_ok (mN_ok (mCons_ok (atP rfl) rfl) (repr1 (shal_Ps 37 hu.w4) T2)) (mN_ok (mCons_ok t2 rfl) (repr1 (shal_Ps 37 hu.w4) T2)) (ne_str T2.2.2))) fun _ => sz rfl))).trans ?_
  have c1 : mBool (m2 (or2 (dNeO ["Board"] "Board" m_Board_eq) dNe) (mNK 0 1 m_backwards (pk [0]) mNil (mCons (mVar 3) (mNil))) (mVar 2)) σ [] = .ok false [] :=
    mBool_ok (m2_ok (x := mkB n ps) (y := mkB n ps) (S1 := []) (S2 := []) (mNK_ok (xs := []) (ys := [mkB n (bk ps)]) (S1 := []) (S2 := []) rfl rfl ⟨rfl, rfl⟩ b2) rfl (neB H.w4))
  have c2 : mBool (m2 (or2 (dNeO ["Board"] "Board" m_Board_eq) dNe) (mNK 0 1 m_upside_down (pk [0]) mNil (mCons (mVar 4) (mNil))) (mVar 2)) σ [] = .ok false [] :=
    mBool_ok (m2_ok (x := mkB n ps) (y := mkB n ps) (S1 := []) (S2 := []) (mNK_ok (xs := []) (ys := [mkB n (ud n ps)]) (S1 := []) (S2 := []) rfl rfl ⟨rfl, rfl⟩ u2) rfl (neB H.w4))
  refine (mSeq_nx (mIf_no (mOrT_ok (x := false) (y := false) c1 fun _ => c2))).trans ?_
  refine mRet_ok (mAnd_ok (x := true) (y := true) (m2_ok (mN_ok (mCons_ok (mVar_ok rfl) rfl) (upside_ok hb)) (mN_ok (mCons_ok (mVar_ok rfl) rfl) bu) (eqB (n := n) hb.ud.w4)) fun _ => m2_ok (mVar_ok rfl) (mN_ok (mCons_ok (mVar_ok rfl) (mCons_ok t1 rfl)) hb.make) (eqB (n := n) hb.w4))
end
end LW

set_option Elab.async false
set_option linter.all false
set_option maxRecDepth 100000
/-! Pieces drawn. -/
namespace LW
open PySem MM L2
theorem deck_eq : m_w_deck = mDefQ 1 4 (deckTB 1087508 39) := rfl
theorem draw_eq : m_w_draw = drawT 13 := rfl
theorem pick_eq : m_w_pick = mDefQ 2 2 (pickB (drawT 13)) := rfl
/-- a deck, T behind it -/
def Dk (T S : Store) : Prop := ∃ cells x t, S = deckT cells x t T ∧ cells.length ≤ 1000
section
variable {T S : Store} {n : Nat} {b : Int}
theorem dk_draw (h : Dk T S) (hb : 0 < b) (hb2 : b < 1073741824) : ∃ (v : Nat) (S' : Store), m_w_draw [.ref 1, .int b] S = .ok (.int (v : Int)) S' ∧ Dk T S' ∧ (v : Int) < b := by
  obtain ⟨cells, x, t, rfl, hl⟩ := h
  obtain ⟨v, c', x', e, hc, v0, v1⟩ := draw_okT (k := 13) (x := x) (t := t) (T := T) hb hb2 hl
  refine ⟨v.toNat, deckT c' x' (t + 1) T, ?_, ⟨c', x', t + 1, rfl, by omega⟩, by omega⟩
  rw [draw_eq, e, show ((v.toNat : Nat) : Int) = v from Int.toNat_of_nonneg v0]
theorem dk_pick (h : Dk T S) {xs : List D} (h1 : xs ≠ []) (h2 : xs.length < 1073741824) : ∃ (y : D) (S' : Store), m_w_pick [.ref 1, .lst xs] S = .ok y S' ∧ Dk T S' ∧ y ∈ xs := by
  obtain ⟨cells, x, t, rfl, hl⟩ := h
  obtain ⟨y, c', x', e, hc, hy⟩ := pick_okT (k := 13) (x := x) (t := t) (T := T) (d := .lst xs) (xs := xs) (fun _ => rfl) h1 h2 hl
  exact ⟨y, deckT c' x' (t + 1) T, by rw [pick_eq]; exact e, ⟨c', x', t + 1, rfl, by omega⟩, hy⟩
def wts : List D := (List.range 9).map wtD
theorem isWord {w : Nat} (h : w < 4) {σ : Sg} {e : ME} (he : e σ S = .ok (.str (wdS w)) S) : mBool (m2 dEq e (mK (.str "meet"))) σ S = .ok (Nat.beq w 3) S := by
  refine mBool_ok (m2_ok he rfl ?_)
  rw [dEq_ok (d := .str (wdS w)) (e := .str "meet") rfl rfl (shal_wk h _) (by decide +kernel)]
  rw [w4 (P := fun w => eqD (.str (wdS w)) (.str "meet") = Nat.beq w 3) (by decide +kernel) (by decide +kernel) (by decide +kernel) (by decide +kernel) h]
theorem isPassW {w : Nat} (h : w < 4) {σ : Sg} {e : ME} (he : e σ S = .ok (.str (wdS w)) S) : mBool (m2 dEq e (mK (.str "pass"))) σ S = .ok (Nat.beq w 2) S := isPass (p := ⟨w, 0, 0⟩) h he
theorem piece_drawn (hd : Dk T S) (h1 : 1 ≤ n) (h9 : n ≤ 9) : ∃ (p : Pc) (S' : Store), m_w_piece [.ref 1, .int (n : Int)] S = .ok (mkP p) S' ∧ okP n p = true ∧ Dk T S' := by
  -- the word
  have e1 : ∃ w S1, w < 4 ∧ (n = 1 → w = 2) ∧ Dk T S1 ∧ mIfE (mBool (m2 dGt (mVar 1) (mK (.int 1)))) (mN m_w_pick (mCons (mVar 0) (mCons (mLst (mCons (mK (.str "down")) (mCons (mK (.str "up")) (mCons (mK (.str "pass")) (mCons (mK (.str "meet")) (mNil)))))) (mNil)))) (mK (.str "pass")) [some (.ref 1), some (.int (n : Int)), none, none, none] S = .ok (.str (wdS w)) S1 := by
    have ht : mBool (m2 dGt (mVar 1) (mK (.int 1))) [some (.ref 1), some (.int (n : Int)), none, none, none] S = .ok (decide ((1 : Int) < (n : Int))) S := rfl
    by_cases q : n = 1
    · subst q
      exact ⟨2, S, by decide, fun _ => rfl, hd, mIfE_ok ht (fun z => by cases z) (fun _ => rfl)⟩
    · obtain ⟨y, S1, e, hd1, hy⟩ := dk_pick hd (xs := [.str "down", .str "up", .str "pass", .str "meet"]) (by simp) (by simp)
      have : ∃ w, w < 4 ∧ y = .str (wdS w) := by
        rcases List.mem_cons.mp hy with rfl | hy
        · exact ⟨0, by decide, rfl⟩
        rcases List.mem_cons.mp hy with rfl | hy
        · exact ⟨1, by decide, rfl⟩
        rcases List.mem_cons.mp hy with rfl | hy
        · exact ⟨2, by decide, rfl⟩
        rcases List.mem_cons.mp hy with rfl | hy
        · exact ⟨3, by decide, rfl⟩
        · exact nomatch hy
      obtain ⟨w, hw, rfl⟩ := this
      exact ⟨w, S1, hw, fun z => (q z).elim, hd1, mIfE_ok ht (fun _ => mN_ok (mCons_ok (mVar_ok rfl) (mCons_ok (mLst_ok (mCons_ok rfl (mCons_ok rfl (mCons_ok rfl (mCons_ok rfl rfl)))) (by simp)) rfl)) e) (fun z => by rw [decide_eq_true (by omega)] at z; cases z)⟩
  obtain ⟨w, S1, hw, hn, hd1, e1⟩ := e1
  -- the place
  let bd : Int := if w = 2 then (n : Int) else (n : Int) - 1
  have hbd : 0 < bd ∧ bd ≤ 9 := by
    show 0 < (if w = 2 then (n : Int) else (n : Int) - 1) ∧ (if w = 2 then (n : Int) else (n : Int) - 1) ≤ 9
    by_cases q : w = 2
    · rw [if_pos q]; omega
    · rw [if_neg q]
      have : n ≠ 1 := fun z => q (hn z)
      omega
  obtain ⟨v, S2, e2, hd2, hv⟩ := dk_draw hd1 hbd.1 (by omega)
  have e2' : mN m_w_draw (mCons (mVar 0) (mCons (mIfE (mBool (m2 dEq (mVar 2) (mK (.str "pass")))) (mVar 1) (m2 dSub (mVar 1) (mK (.int 1)))) (mNil))) [some (.ref 1), some (.int (n : Int)), some (.str (wdS w)), none, none] S1 = .ok (.int (v : Int)) S2 := by
    refine mN_ok (mCons_ok (mVar_ok rfl) (mCons_ok (mIfE_ok (z := .int bd) (isPassW hw (mVar_ok rfl)) (fun z => ?_) (fun z => ?_)) rfl)) e2
    · rw [show bd = (n : Int) from if_pos (Nat.eq_of_beq_eq_true z)]; rfl
    · rw [show bd = (n : Int) - 1 from if_neg (fun y => by rw [y] at z; cases z)]; rfl
  have okp : ∀ x, x < 9 → okP n ⟨w, v, x⟩ = true := fun x hx => ok_iff.mpr ⟨hw, hx, by
    show if w = 2 then v < n else v + 1 < n
    by_cases q : w = 2
    · rw [if_pos q]; rw [show bd = (n : Int) from if_pos q] at hv; omega
    · rw [if_neg q]; rw [show bd = (n : Int) - 1 from if_neg q] at hv; omega⟩
  have e3 : (mLst (mCons (mK (.str "a")) (mCons (mK (.str "zz")) (mCons (mK (.str "abcdefgh")) (mCons (mTup (mCons (mK (.int 1)) (mCons (mK (.int 1)) (mNil)))) (mCons (mTup (mCons (mK (.int 0)) (mCons (mK (.int 1)) (mNil)))) (mCons (mTup (mCons (mK (.int 1)) (mCons (mK (.int 2)) (mNil)))) (mCons (mTup (mCons (mK (.int 2)) (mCons (mK (.int 1)) (mNil)))) (mCons (mTup (mCons (mK (.int 999999)) (mCons (mK (.int 1)) (mNil)))) (mCons (mTup (mCons (mK (.int 8)) (mCons (mK (.int 999999)) (mNil)))) (mNil)))))))))))  [some (.ref 1), some (.int (n : Int)), some (.str (wdS w)), some (.int (v : Int)), none] S2 = .ok (.lst wts) S2 := rfl
  let σ3 : Sg := [some (.ref 1), some (.int (n : Int)), some (.str (wdS w)), some (.int (v : Int)), some (.lst wts)]
  have last : ∃ (p : Pc) (S' : Store), mIfE (mBool (m2 dEq (mVar 2) (mK (.str "meet")))) (mTup (mCons (mVar 2) (mCons (mVar 3) (mNil)))) (mTup (mCons (mVar 2) (mCons (mVar 3) (mCons (mN m_w_pick (mCons (mVar 0) (mCons (mVar 4) (mNil)))) (mNil))))) σ3 S2 = .ok (mkP p) S' ∧ okP n p = true ∧ Dk T S' := by
    by_cases q : w = 3
    · subst q
      exact ⟨⟨3, v, 0⟩, S2, mIfE_ok (isWord hw (mVar_ok rfl)) (fun _ => mTup_ok (xs := [.str (wdS 3), .int (v : Int)]) (mCons_ok (mVar_ok rfl) (mCons_ok (mVar_ok rfl) rfl)) (by simp)) (fun z => by cases z), okp 0 (by decide), hd2⟩
    · obtain ⟨y, S3, e, hd3, hy⟩ := dk_pick hd2 (xs := wts) (by unfold wts; simp) (by unfold wts; simp)
      obtain ⟨x, hx, rfl⟩ := List.mem_map.mp hy
      have qb : Nat.beq w 3 = false := by
        cases z : Nat.beq w 3 with
        | true => exact (q (Nat.eq_of_beq_eq_true z)).elim
        | false => rfl
      refine ⟨⟨w, v, x⟩, S3, mIfE_ok (isWord hw (mVar_ok rfl)) (fun z => by rw [qb] at z; cases z) (fun _ => ?_), okp x (List.mem_range.mp hx), hd3⟩
      refine (mTup_ok (mCons_ok (mVar_ok rfl) (mCons_ok (mVar_ok rfl) (mCons_ok (mN_ok (mCons_ok (mVar_ok rfl) (mCons_ok (mVar_ok rfl) rfl)) e) rfl))) (by simp)).trans ?_
      unfold mkP restD
      rw [qb]; rfl
  obtain ⟨p, S', el, hp, hd'⟩ := last
  refine ⟨p, S', call_plain rfl ?_, hp, hd'⟩
  exact (mSeq_nx (mAsg_ok e1 rfl)).trans ((mSeq_nx (mAsg_ok e2' rfl)).trans ((mSeq_nx (mAsg_ok e3 rfl)).trans (mRet_ok el)))
theorem pieces_drawn (hd : Dk T S) (h1 : 1 ≤ n) (h9 : n ≤ 9) : ∃ (ps : List Pc) (S' : Store), m_w_pieces [.ref 1, .int (n : Int)] S = .ok (.tup (ps.map mkP)) S' ∧ Ok n ps 30 ∧ Dk T S' := by
  obtain ⟨y, S1, e, hd1, hy⟩ := dk_pick hd (xs := [.int 2, .int 3, .int 1, .int 0, .int 4, .int 30, .int 7]) (by simp) (by simp)
  have : ∃ j : Nat, j ≤ 30 ∧ y = .int (j : Int) := by
    rcases List.mem_cons.mp hy with rfl | hy
    · exact ⟨2, by decide, rfl⟩
    rcases List.mem_cons.mp hy with rfl | hy
    · exact ⟨3, by decide, rfl⟩
    rcases List.mem_cons.mp hy with rfl | hy
    · exact ⟨1, by decide, rfl⟩
    rcases List.mem_cons.mp hy with rfl | hy
    · exact ⟨0, by decide, rfl⟩
    rcases List.mem_cons.mp hy with rfl | hy
    · exact ⟨4, by decide, rfl⟩
    rcases List.mem_cons.mp hy with rfl | hy
    · exact ⟨30, by decide, rfl⟩
    rcases List.mem_cons.mp hy with rfl | hy
    · exact ⟨7, by decide, rfl⟩
    · exact nomatch hy
  obtain ⟨j, hj, rfl⟩ := this
  have ei : miRng1 (mCons (mN m_w_pick (mCons (mVar 0) (mCons (mLst (mCons (mK (.int 2)) (mCons (mK (.int 3)) (mCons (mK (.int 1)) (mCons (mK (.int 0)) (mCons (mK (.int 4)) (mCons (mK (.int 30)) (mCons (mK (.int 7)) (mNil))))))))) (mNil)))) (mNil)) [some (.ref 1), some (.int (n : Int)), none] S = .ok (rngItems 0 j) S1 := by
    refine (miRng1_ok (j := (j : Int)) (mCons_ok (mN_ok (mCons_ok (mVar_ok rfl) (mCons_ok (mLst_ok (mCons_ok rfl (mCons_ok rfl (mCons_ok rfl (mCons_ok rfl (mCons_ok rfl (mCons_ok rfl (mCons_ok rfl rfl))))))) (by simp)) rfl)) e) rfl) ?_).trans (by rw [Int.toNat_natCast])
    unfold rngOk
    simp
    omega
  obtain ⟨ps, S', hd', hp, hlen, el⟩ := runLc_inv (f := fun k : Nat => .int (0 + (k : Int))) (r := mkP) (g := gN 2) (me := mN m_w_piece (mCons (mVar 0) (mCons (mVar 1) (mNil)))) (σ0 := [some (.ref 1), some (.int (n : Int)), none]) (inv := Dk T) (ok := fun p => okP n p = true) (List.range j) S1 hd1 (by
    intro a _ S hd
    obtain ⟨p, S2, e, hp, hd2⟩ := piece_drawn hd h1 h9
    exact ⟨[some (.ref 1), some (.int (n : Int)), some (.int (0 + (a : Int)))], S2, p, rfl, mN_ok (mCons_ok (mVar_ok rfl) (mCons_ok (mVar_ok rfl) rfl)) e, hp, hd2⟩)
  rw [List.length_range] at hlen
  refine ⟨ps, S', call_plain rfl (mRet_ok (mN_ok (mCons_ok (mLc_ok ei ?_ el) rfl) tup_lst)), ⟨h1, h9, hp, by omega⟩, hd'⟩
  unfold rngItems
  rw [List.length_map, List.length_range]; omega
end
end LW

set_option Elab.async false
set_option linter.all false
set_option maxRecDepth 100000
/-! The law. -/
namespace LW
open PySem MM L2
def szs (f s : Nat) : D := .lst [.int (f : Int), .int (s : Int)]
def rws (ps qs : List Pc) : D := .lst [.tup (ps.map mkP), .tup (qs.map mkP)]
def oddL : List D := [.int 0, .int 10, .int (-1), .bl true, .bl false, .non, .str "2", .tup [.int 2], .lst [.int 3], .int (10 ^ 39), .dct [] [], .str "", .tup [], .int (-(10 ^ 39)), .int 9, .int 1]
def rOf : D → Bool
  | .int i => decide (1 ≤ i) && decide (i ≤ 9)
  | _ => false
def dueOf (d : D) : D := if rOf d then .tup [.str "board", d, .tup [], .bl true] else dueZ d
def tOf (d : D) : Str := (D.lst [dueOf d, dueOf d]).pdd.shown
structure Str1 (d : D) : Prop where
  r2 : m_w_refused [.int 2, d, .non] [] = .ok (dueOf d) []
  r5 : m_w_refused [.int 5, d, .non] [] = .ok (dueOf d) []
  tl : ∀ S, dReprB [.lst [dueOf d, dueOf d]] S = .ok (.str (tOf d)) S
  ok : PyData.strOk (tOf d) = true

theorem st0 : Str1 (.int 0) := ⟨by kernel_rfl, by kernel_rfl, (fun S => by kernel_rfl), by decide +kernel⟩
theorem st1 : Str1 (.int 10) := ⟨by kernel_rfl, by kernel_rfl, (fun S => by kernel_rfl), by decide +kernel⟩
theorem st2 : Str1 (.int (-1)) := ⟨by kernel_rfl, by kernel_rfl, (fun S => by kernel_rfl), by decide +kernel⟩
theorem st3 : Str1 (.bl true) := ⟨by kernel_rfl, by kernel_rfl, (fun S => by kernel_rfl), by decide +kernel⟩
theorem st4 : Str1 (.bl false) := ⟨by kernel_rfl, by kernel_rfl, (fun S => by kernel_rfl), by decide +kernel⟩
theorem st5 : Str1 (.non) := ⟨by kernel_rfl, by kernel_rfl, (fun S => by kernel_rfl), by decide +kernel⟩
theorem st6 : Str1 (.str "2") := ⟨by kernel_rfl, by kernel_rfl, (fun S => by kernel_rfl), by decide +kernel⟩
theorem st7 : Str1 (.tup [.int 2]) := ⟨by kernel_rfl, by kernel_rfl, (fun S => by kernel_rfl), by decide +kernel⟩
theorem st8 : Str1 (.lst [.int 3]) := ⟨by kernel_rfl, by kernel_rfl, (fun S => by kernel_rfl), by decide +kernel⟩
theorem st9 : Str1 (.int (10 ^ 39)) := ⟨by kernel_rfl, by kernel_rfl, (fun S => by kernel_rfl), by decide +kernel⟩
theorem st10 : Str1 (.dct [] []) := ⟨by kernel_rfl, by kernel_rfl, (fun S => by kernel_rfl), by decide +kernel⟩
theorem st11 : Str1 (.str "") := ⟨by kernel_rfl, by kernel_rfl, (fun S => by kernel_rfl), by decide +kernel⟩
theorem st12 : Str1 (.tup []) := ⟨by kernel_rfl, by kernel_rfl, (fun S => by kernel_rfl), by decide +kernel⟩
theorem st13 : Str1 (.int (-(10 ^ 39))) := ⟨by kernel_rfl, by kernel_rfl, (fun S => by kernel_rfl), by decide +kernel⟩
theorem st14 : Str1 (.int 9) := ⟨by kernel_rfl, by kernel_rfl, (fun S => by kernel_rfl), by decide +kernel⟩
theorem st15 : Str1 (.int 1) := ⟨by kernel_rfl, by kernel_rfl, (fun S => by kernel_rfl), by decide +kernel⟩
theorem st_all {d : D} (h : d ∈ oddL) : Str1 d := by
  rcases List.mem_cons.mp h with rfl | h
  · exact st0
  rcases List.mem_cons.mp h with rfl | h
  · exact st1
  rcases List.mem_cons.mp h with rfl | h
  · exact st2
  rcases List.mem_cons.mp h with rfl | h
  · exact st3
  rcases List.mem_cons.mp h with rfl | h
  · exact st4
  rcases List.mem_cons.mp h with rfl | h
  · exact st5
  rcases List.mem_cons.mp h with rfl | h
  · exact st6
  rcases List.mem_cons.mp h with rfl | h
  · exact st7
  rcases List.mem_cons.mp h with rfl | h
  · exact st8
  rcases List.mem_cons.mp h with rfl | h
  · exact st9
  rcases List.mem_cons.mp h with rfl | h
  · exact st10
  rcases List.mem_cons.mp h with rfl | h
  · exact st11
  rcases List.mem_cons.mp h with rfl | h
  · exact st12
  rcases List.mem_cons.mp h with rfl | h
  · exact st13
  rcases List.mem_cons.mp h with rfl | h
  · exact st14
  rcases List.mem_cons.mp h with rfl | h
  · exact st15
  · exact nomatch h
def P0 : MS := mAsg (mN m_w_deck (mCons (mVar 0) (mNil))) (gN 1)
def P1 : MS := mAsg (m2 (dAdd false) (mK (.int 1)) (mN m_w_draw (mCons (mVar 1) (mCons (mK (.int 9)) (mNil))))) (gN 2)
def P2 : MS := mAsg (mLst (mCons (mVar 2) (mCons (mN m_w_pick (mCons (mVar 1) (mCons (mLst (mCons (mVar 2) (mCons (m2 (dAdd false) (mK (.int 1)) (mN m_w_draw (mCons (mVar 1) (mCons (mK (.int 9)) (mNil))))) (mCons (mN dMax2 (mCons (mK (.int 1)) (mCons (m2 dSub (mK (.int 9)) (mVar 2)) (mNil)))) (mCons (mN dMin2 (mCons (mK (.int 9)) (mCons (m2 dSub (mK (.int 10)) (mVar 2)) (mNil)))) (mNil)))))) (mNil)))) (mNil)))) (gN 3)
def P3 : MS := mAsg (mLcF fin0 [5] (miSeq (mVar 3)) (gN 5) (mYes) (mN m_w_pieces (mCons (mVar 1) (mCons (mVar 5) (mNil))))) (gN 4)
def P4 : MS := mPar 6 7 (mCons (mN (mMake "Board" m_Board_init) (mCons (m2 dIx (mVar 3) (mK (.int 0))) (mCons (m2 dIx (mVar 4) (mK (.int 0))) (mNil)))) (mCons (mN (mMake "Board" m_Board_init) (mCons (m2 dIx (mVar 3) (mK (.int 1))) (mCons (m2 dIx (mVar 4) (mK (.int 1))) (mNil)))) (mNil)))
def B5 : MS := mSeq (mAsg (mLst (mCons (mVar 6) (mCons (mVar 7) (mNil)))) (gN 10)) (mIf (mNotT (mBool (mN m_w_are_joined_right (mCons (mLst (mCons (m2 dIx (mVar 3) (mVar 8)) (mCons (m2 dIx (mVar 3) (mVar 9)) (mNil)))) (mCons (mLst (mCons (m2 dIx (mVar 4) (mVar 8)) (mCons (m2 dIx (mVar 4) (mVar 9)) (mNil)))) (mCons (m2 dIx (mVar 10) (mVar 8)) (mCons (m2 dIx (mVar 10) (mVar 9)) (mNil)))))))) (mRet (mK (.bl false))) (mSkip))
def P5 : MS := mFor (miSeq (mTup (mCons (mTup (mCons (mK (.int 0)) (mCons (mK (.int 1)) (mNil)))) (mCons (mTup (mCons (mK (.int 1)) (mCons (mK (.int 0)) (mNil)))) (mCons (mTup (mCons (mK (.int 0)) (mCons (mK (.int 0)) (mNil)))) (mNil)))))) (gT 2 (gsCons (gN 8) (gsCons (gN 9) (gsNil)))) B5

def P6 : MS := mIf (mOrT (mNotT (mBool (mN m_w_is_turned_right (mCons (m2 dIx (mVar 3) (mK (.int 0))) (mCons (m2 dIx (mVar 4) (mK (.int 0))) (mCons (mVar 6) (mNil))))))) (mNotT (mBool (mN m_w_is_turned_right (mCons (m2 dIx (mVar 3) (mK (.int 1))) (mCons (m2 dIx (mVar 4) (mK (.int 1))) (mCons (mVar 7) (mNil)))))))) (mRet (mK (.bl false))) (mSkip)
def P7 : MS := mIf (mAndT (mBool (m2 (or2 (dEqO ["Board"] "Board" m_Board_eq) dEq) (mVar 2) (m2 dIx (mVar 3) (mK (.int 1))))) (mBool (m2 (or2 (dNeO ["Board"] "Board" m_Board_eq) dNe) (mN m_backwards (mCons (mN m_behind (mCons (mVar 6) (mCons (mVar 7) (mNil)))) (mNil))) (mN m_behind (mCons (mN m_backwards (mCons (mVar 7) (mNil))) (mCons (mN m_backwards (mCons (mVar 6) (mNil))) (mNil))))))) (mRet (mK (.bl false))) (mSkip)
def P8 : MS := mAsg (mN m_straight (mCons (mVar 2) (mNil))) (gN 11)
def P9 : MS := mIf (mOrT (mBool (m2 (or2 (dNeO ["Board"] "Board" m_Board_eq) dNe) (mVar 11) (mN (mMake "Board" m_Board_init) (mCons (mVar 2) (mCons (mTup (mNil)) (mNil)))))) (mOrT (mBool (m2 (or2 (dNeO ["Board"] "Board" m_Board_eq) dNe) (mN (dLenO "Board" m_Board_len) (mCons (mVar 11) (mNil))) (mK (.int 0)))) (mOrT (mBool (m2 (or2 (dNeO ["Board"] "Board" m_Board_eq) dNe) (mN m_behind (mCons (mVar 11) (mCons (mVar 6) (mNil)))) (mVar 6))) (mBool (m2 (or2 (dNeO ["Board"] "Board" m_Board_eq) dNe) (mN m_behind (mCons (mVar 6) (mCons (mVar 11) (mNil)))) (mVar 6)))))) (mRet (mK (.bl false))) (mSkip)
def P10 : MS := mIf (mOrT (mBool (m2 (or2 (dNeO ["Board"] "Board" m_Board_eq) dNe) (mN m_backwards (mCons (mVar 11) (mNil))) (mVar 11))) (mBool (m2 (or2 (dNeO ["Board"] "Board" m_Board_eq) dNe) (mN m_upside_down (mCons (mVar 11) (mNil))) (mVar 11)))) (mRet (mK (.bl false))) (mSkip)
def P11 : MS := mAsg (mLst (mCons (mK (.int 0)) (mCons (mK (.int 10)) (mCons (m1 dNeg (mK (.int 1))) (mCons (mK (.bl true)) (mCons (mK (.bl false)) (mCons (mK .non) (mCons (mK (.str "2")) (mCons (mTup (mCons (mK (.int 2)) (mNil))) (mCons (mLst (mCons (mK (.int 3)) (mNil))) (mCons (m2 dPow (mK (.int 10)) (mK (.int 39))) (mCons (mLock (mDictK)) (mCons (mK (.str "")) (mCons (mTup (mNil)) (mCons (m1 dNeg (m2 dPow (mK (.int 10)) (mK (.int 39)))) (mCons (mK (.int 9)) (mCons (mK (.int 1)) (mNil)))))))))))))))))) (gN 12)
def P12 : MS := mAsg (mN m_w_pick (mCons (mVar 1) (mCons (mVar 12) (mNil)))) (gN 13)
def P13 : MS := mAsg (mAnd (m1 (dIsiT ["Board"] .int) (mVar 13)) (mAnd (mNot (m1 (dIsiT ["Board"] .bool) (mVar 13))) (mCh (mK (.int 1)) (mcC dLe (mVar 13) (mcL dLe (mK (.int 9))))))) (gN 14)
def P14 : MS := mAsg (mIfE (mBool (mVar 14)) (mTup (mCons (mK (.str "board")) (mCons (mVar 13) (mCons (mTup (mNil)) (mCons (mK (.bl true)) (mNil)))))) (mTup (mCons (mK (.str "size")) (mCons (mVar 13) (mCons (mK (.bl true)) (mNil)))))) (gN 15)
def P15 : MS := mIf (mBool (m2 dNe (mN dReprB (mCons (mLst (mCons (mN m_w_refused (mCons (mK (.int 2)) (mCons (mVar 13) (mCons (mK .non) (mNil))))) (mCons (mN m_w_refused (mCons (mK (.int 5)) (mCons (mVar 13) (mCons (mK .non) (mNil))))) (mNil)))) (mNil))) (mN dReprB (mCons (mLst (mCons (mVar 15) (mCons (mVar 15) (mNil)))) (mNil))))) (mRet (mK (.bl false))) (mSkip)
def P16 : MS := mAsg (mN m_w_refused (mCons (mK (.int 2)) (mCons (mVar 7) (mCons (mK .non) (mNil))))) (gN 16)
def P17 : MS := mIf (mOrT (mBool (m2 (or2 (dNeO ["Board"] "Board" m_Board_eq) dNe) (m2 dIx (mVar 16) (mK (.int 0))) (mK (.str "size")))) (mBool (m2 (or2 (dNeO ["Board"] "Board" m_Board_eq) dNe) (m2 dIx (mVar 16) (mK (.int 1))) (mVar 7)))) (mRet (mK (.bl false))) (mSkip)
def P18 : MS := mRet (mAnd (m2 dEq (m1 (dAttr ["Board"] "size") (mVar 6)) (mVar 2)) (mAnd (m2 dEq (m1 (dAttr ["Board"] "pieces") (mVar 6)) (m2 dIx (mVar 4) (mK (.int 0)))) (mAnd (m2 dEq (m1 (dAttr ["Board"] "size") (mVar 7)) (m2 dIx (mVar 3) (mK (.int 1)))) (m2 dEq (m1 (dAttr ["Board"] "pieces") (mVar 7)) (m2 dIx (mVar 4) (mK (.int 1)))))))
theorem law_eq : b_law = mSeq P0 (mSeq P1 (mSeq P2 (mSeq P3 (mSeq P4 (mSeq P5 (mSeq P6 (mSeq P7 (mSeq P8 (mSeq P9 (mSeq P10 (mSeq P11 (mSeq P12 (mSeq P13 (mSeq P14 (mSeq P15 (mSeq P16 (mSeq P17 P18))))))))))))))))) := rfl
section
variable {f s : Nat} {S T : Store} {ps qs : List Pc} {d : D} {o0 o5 o8 o9 o10 : Option D}
theorem p13 (h : d ∈ oddL) : P13 [o0, some (.ref 1), some (.int (f : Int)), some (szs f s), some (rws ps qs), o5, some (mkB f ps), some (mkB s qs), o8, o9, o10, some (mkB f []), some (.lst oddL), some d, none, none, none] S = .nx [o0, some (.ref 1), some (.int (f : Int)), some (szs f s), some (rws ps qs), o5, some (mkB f ps), some (mkB s qs), o8, o9, o10, some (mkB f []), some (.lst oddL), some d, some (.bl (rOf d)), none, none] S := by
  unfold P13
  refine mAsg_ok (x := .bl (rOf d)) (S1 := S) ?_ rfl
  rcases List.mem_cons.mp h with rfl | h
  · rfl
  rcases List.mem_cons.mp h with rfl | h
  · rfl
  rcases List.mem_cons.mp h with rfl | h
  · rfl
  rcases List.mem_cons.mp h with rfl | h
  · rfl
  rcases List.mem_cons.mp h with rfl | h
  · rfl
  rcases List.mem_cons.mp h with rfl | h
  · rfl
  rcases List.mem_cons.mp h with rfl | h
  · rfl
  rcases List.mem_cons.mp h with rfl | h
  · rfl
  rcases List.mem_cons.mp h with rfl | h
  · rfl
  rcases List.mem_cons.mp h with rfl | h
  · rfl
  rcases List.mem_cons.mp h with rfl | h
  · rfl
  rcases List.mem_cons.mp h with rfl | h
  · rfl
  rcases List.mem_cons.mp h with rfl | h
  · rfl
  rcases List.mem_cons.mp h with rfl | h
  · rfl
  rcases List.mem_cons.mp h with rfl | h
  · rfl
  rcases List.mem_cons.mp h with rfl | h
  · rfl
  · exact nomatch h
theorem p14 (h : d ∈ oddL) : P14 [o0, some (.ref 1), some (.int (f : Int)), some (szs f s), some (rws ps qs), o5, some (mkB f ps), some (mkB s qs), o8, o9, o10, some (mkB f []), some (.lst oddL), some d, some (.bl (rOf d)), none, none] S = .nx [o0, some (.ref 1), some (.int (f : Int)), some (szs f s), some (rws ps qs), o5, some (mkB f ps), some (mkB s qs), o8, o9, o10, some (mkB f []), some (.lst oddL), some d, some (.bl (rOf d)), some (dueOf d), none] S := by
  unfold P14
  refine mAsg_ok (x := dueOf d) (S1 := S) ?_ rfl
  rcases List.mem_cons.mp h with rfl | h
  · rfl
  rcases List.mem_cons.mp h with rfl | h
  · rfl
  rcases List.mem_cons.mp h with rfl | h
  · rfl
  rcases List.mem_cons.mp h with rfl | h
  · rfl
  rcases List.mem_cons.mp h with rfl | h
  · rfl
  rcases List.mem_cons.mp h with rfl | h
  · rfl
  rcases List.mem_cons.mp h with rfl | h
  · rfl
  rcases List.mem_cons.mp h with rfl | h
  · rfl
  rcases List.mem_cons.mp h with rfl | h
  · rfl
  rcases List.mem_cons.mp h with rfl | h
  · rfl
  rcases List.mem_cons.mp h with rfl | h
  · rfl
  rcases List.mem_cons.mp h with rfl | h
  · rfl
  rcases List.mem_cons.mp h with rfl | h
  · rfl
  rcases List.mem_cons.mp h with rfl | h
  · rfl
  rcases List.mem_cons.mp h with rfl | h
  · rfl
  rcases List.mem_cons.mp h with rfl | h
  · rfl
  · exact nomatch h
theorem p15 (h : d ∈ oddL) : P15 [o0, some (.ref 1), some (.int (f : Int)), some (szs f s), some (rws ps qs), o5, some (mkB f ps), some (mkB s qs), o8, o9, o10, some (mkB f []), some (.lst oddL), some d, some (.bl (rOf d)), some (dueOf d), none] S = .nx [o0, some (.ref 1), some (.int (f : Int)), some (szs f s), some (rws ps qs), o5, some (mkB f ps), some (mkB s qs), o8, o9, o10, some (mkB f []), some (.lst oddL), some d, some (.bl (rOf d)), some (dueOf d), none] S := by
  have t := st_all h
  have e1 : ∀ {i : Int}, m_w_refused [.int i, d, .non] S = .ok (dueOf d) S → mN m_w_refused (mCons (mK (.int i)) (mCons (mVar 13) (mCons (mK .non) (mNil)))) [o0, some (.ref 1), some (.int (f : Int)), some (szs f s), some (rws ps qs), o5, some (mkB f ps), some (mkB s qs), o8, o9, o10, some (mkB f []), some (.lst oddL), some d, some (.bl (rOf d)), some (dueOf d), none] S = .ok (dueOf d) S := fun h => mN_ok (mCons_ok rfl (mCons_ok (mVar_ok rfl) (mCons_ok rfl rfl))) h
  exact mIf_no (mBool_ok (m2_ok (mN_ok (mCons_ok (mLst_ok (mCons_ok (e1 (pureF_any t.r2)) (mCons_ok (e1 (pureF_any t.r5)) rfl)) (by simp)) rfl) (t.tl S)) (mN_ok (mCons_ok (mLst_ok (mCons_ok (mVar_ok rfl) (mCons_ok (mVar_ok rfl) rfl)) (by simp)) rfl) (t.tl S)) (ne_str t.ok)))

theorem pureBN {i : Int} : pureAll [.int i, mkB s qs, .non] = true := by
  show (true && ((mkB s qs).pure && (true && true))) = true
  rw [pure_B]; rfl
theorem p16 : P16 [o0, some (.ref 1), some (.int (f : Int)), some (szs f s), some (rws ps qs), o5, some (mkB f ps), some (mkB s qs), o8, o9, o10, some (mkB f []), some (.lst oddL), some d, some (.bl (rOf d)), some (dueOf d), none] S = .nx [o0, some (.ref 1), some (.int (f : Int)), some (szs f s), some (rws ps qs), o5, some (mkB f ps), some (mkB s qs), o8, o9, o10, some (mkB f []), some (.lst oddL), some d, some (.bl (rOf d)), some (dueOf d), some (dueZ (mkB s qs))] S := by
  have e : m_w_refused [.int 2, mkB s qs, .non] S = .ok (dueZ (mkB s qs)) S := ref_z (pure_B _ _) pureBN (by rw [chn2, straight_bd]; rfl)
  exact mAsg_ok (mN_ok (mCons_ok rfl (mCons_ok (mVar_ok rfl) (mCons_ok rfl rfl))) e) rfl
theorem ne_or {x : Str} (h : PyData.strOk x = true) : or2 (dNeO ["Board"] "Board" m_Board_eq) dNe (.str x) (.str x) S = .ok (.bl false) S := or2_r rfl (ne_str h)
theorem p17 (hq : ∀ p ∈ qs, p.w < 4) : P17 [o0, some (.ref 1), some (.int (f : Int)), some (szs f s), some (rws ps qs), o5, some (mkB f ps), some (mkB s qs), o8, o9, o10, some (mkB f []), some (.lst oddL), some d, some (.bl (rOf d)), some (dueOf d), some (dueZ (mkB s qs))] S = .nx [o0, some (.ref 1), some (.int (f : Int)), some (szs f s), some (rws ps qs), o5, some (mkB f ps), some (mkB s qs), o8, o9, o10, some (mkB f []), some (.lst oddL), some d, some (.bl (rOf d)), some (dueOf d), some (dueZ (mkB s qs))] S :=
  mIf_no (mOrT_ok (x := false) (y := false) (mBool_ok (m2_ok (m2_ok (mVar_ok rfl) rfl rfl) rfl (ne_or (by decide +kernel)))) fun _ => mBool_ok (m2_ok (x := mkB s qs) (y := mkB s qs) (S1 := S) (S2 := S) (m2_ok (mVar_ok rfl) rfl rfl) (mVar_ok rfl) (neB hq)))
theorem eqI {i : Nat} : dEq (.int (i : Int)) (.int (i : Int)) S = .ok (.bl true) S := by rw [eq_int, beq_self_eq_true]
theorem p18 (hp : ∀ p ∈ ps, p.w < 4) (hq : ∀ p ∈ qs, p.w < 4) : P18 [o0, some (.ref 1), some (.int (f : Int)), some (szs f s), some (rws ps qs), o5, some (mkB f ps), some (mkB s qs), o8, o9, o10, some (mkB f []), some (.lst oddL), some d, some (.bl (rOf d)), some (dueOf d), some (dueZ (mkB s qs))] S = .rt (.bl true) S :=
  mRet_ok (mAnd_ok (x := true) (y := true) (m2_ok (atS rfl) (mVar_ok rfl) eqI) fun _ => mAnd_ok (x := true) (y := true) (m2_ok (S1 := S) (S2 := S) (atP rfl) (m2_ok (mVar_ok rfl) rfl rfl) (eq_Ps hp)) fun _ => mAnd_ok (x := true) (y := true) (m2_ok (S1 := S) (S2 := S) (y := .int (s : Int)) (atS rfl) (m2_ok (mVar_ok rfl) rfl rfl) eqI) fun _ => m2_ok (S1 := S) (S2 := S) (atP rfl) (m2_ok (mVar_ok rfl) rfl rfl) (eq_Ps hq))

end
end LW

set_option Elab.async false
set_option linter.all false
set_option maxRecDepth 100000
/-! The law, joined. -/
namespace LW
open PySem MM L2
section
variable {f s n m : Nat} {S T : Store} {ps qs ps' qs' : List Pc} {d : D} {o0 o5 o8 o9 o10 : Option D}
theorem p1 (hd : Dk T S) : ∃ (f : Nat) (S' : Store), 1 ≤ f ∧ f ≤ 9 ∧ Dk T S' ∧ P1 [o0, some (.ref 1), none, none, none, none, none, none, none, none, none, none, none, none, none, none, none] S = .nx [o0, some (.ref 1), some (.int (f : Int)), none, none, none, none, none, none, none, none, none, none, none, none, none, none] S' := by
  obtain ⟨v, S', e, hd', hv⟩ := dk_draw hd (b := 9) (by decide) (by decide)
  refine ⟨1 + v, S', by omega, by omega, hd', mAsg_ok (x := .int ((1 + v : Nat) : Int)) (m2_ok (x := .int 1) (S1 := S) rfl (mN_ok (mCons_ok (mVar_ok rfl) (mCons_ok rfl rfl)) e) ?_) rfl⟩
  show R.ok (D.int (1 + (v : Int))) _ = _
  rw [show ((1 + v : Nat) : Int) = 1 + (v : Int) by omega]
theorem p2 (hd : Dk T S) (h1 : 1 ≤ f) (h9 : f ≤ 9) : ∃ (s : Nat) (S' : Store), 1 ≤ s ∧ s ≤ 9 ∧ Dk T S' ∧ P2 [o0, some (.ref 1), some (.int (f : Int)), none, none, none, none, none, none, none, none, none, none, none, none, none, none] S = .nx [o0, some (.ref 1), some (.int (f : Int)), some (szs f s), none, none, none, none, none, none, none, none, none, none, none, none, none] S' := by
  obtain ⟨v, S1, e, hd1, hv⟩ := dk_draw hd (b := 9) (by decide) (by decide)
  obtain ⟨y, S2, e2, hd2, hy⟩ := dk_pick hd1 (xs := [.int (f : Int), .int (1 + (v : Int)), .int (if (9 : Int) - (f : Int) > 1 then (9 : Int) - (f : Int) else 1), .int (if (10 : Int) - (f : Int) < 9 then (10 : Int) - (f : Int) else 9)]) (by simp) (by simp)
  have : ∃ s : Nat, 1 ≤ s ∧ s ≤ 9 ∧ y = .int (s : Int) := by
    rcases List.mem_cons.mp hy with rfl | hy
    · exact ⟨f, h1, h9, rfl⟩
    rcases List.mem_cons.mp hy with rfl | hy
    · exact ⟨1 + v, by omega, by omega, by rw [show ((1 + v : Nat) : Int) = 1 + (v : Int) by omega]⟩
    rcases List.mem_cons.mp hy with rfl | hy
    · by_cases q : (9 : Int) - (f : Int) > 1
      · exact ⟨9 - f, by omega, by omega, by rw [if_pos q]; exact congrArg D.int (by omega)⟩
      · exact ⟨1, by omega, by omega, by rw [if_neg q]; rfl⟩
    rcases List.mem_cons.mp hy with rfl | hy
    · by_cases q : (10 : Int) - (f : Int) < 9
      · exact ⟨10 - f, by omega, by omega, by rw [if_pos q]; exact congrArg D.int (by omega)⟩
      · exact ⟨9, by omega, by omega, by rw [if_neg q]; rfl⟩
    · exact nomatch hy
  obtain ⟨s, hs1, hs9, rfl⟩ := this
  refine ⟨s, S2, hs1, hs9, hd2, mAsg_ok (x := szs f s) (mLst_ok (mCons_ok (mVar_ok rfl) (mCons_ok (mN_ok (mCons_ok (mVar_ok rfl) (mCons_ok (S1 := S1) (mLst_ok (xs := [.int (f : Int), .int (1 + (v : Int)), .int (if (9 : Int) - (f : Int) > 1 then (9 : Int) - (f : Int) else 1), .int (if (10 : Int) - (f : Int) < 9 then (10 : Int) - (f : Int) else 9)]) (mCons_ok (mVar_ok rfl) (mCons_ok (m2_ok (x := .int 1) (S1 := S) rfl (mN_ok (mCons_ok (mVar_ok rfl) (mCons_ok rfl rfl)) e) rfl) (mCons_ok rfl (mCons_ok rfl rfl)))) (by simp)) rfl)) e2) rfl)) (by simp)) rfl⟩
theorem p3 (hd : Dk T S) (h1 : 1 ≤ f) (h9 : f ≤ 9) (s1 : 1 ≤ s) (s9 : s ≤ 9) : ∃ (ps qs : List Pc) (S' : Store), Ok f ps 30 ∧ Ok s qs 30 ∧ Dk T S' ∧ P3 [o0, some (.ref 1), some (.int (f : Int)), some (szs f s), none, none, none, none, none, none, none, none, none, none, none, none, none] S = .nx [o0, some (.ref 1), some (.int (f : Int)), some (szs f s), some (rws ps qs), none, none, none, none, none, none, none, none, none, none, none, none] S' := by
  obtain ⟨ps, S1, e1, k1, d1⟩ := pieces_drawn hd h1 h9
  obtain ⟨qs, S2, e2, k2, d2⟩ := pieces_drawn d1 s1 s9
  refine ⟨ps, qs, S2, k1, k2, d2, mAsg_ok (x := rws ps qs) (S1 := S2) ?_ rfl⟩
  have er : runLc [o0, some (.ref 1), some (.int (f : Int)), some (szs f s), none, none, none, none, none, none, none, none, none, none, none, none, none] (gN 5) mYes (mN m_w_pieces (mCons (mVar 1) (mCons (mVar 5) (mNil)))) [.int (f : Int), .int (s : Int)] S = .ok [.tup (ps.map mkP), .tup (qs.map mkP)] S2 :=
    runLc_cons (σ1 := [o0, some (.ref 1), some (.int (f : Int)), some (szs f s), none, some (.int (f : Int)), none, none, none, none, none, none, none, none, none, none, none]) rfl rfl (mN_ok (mCons_ok (mVar_ok rfl) (mCons_ok (mVar_ok rfl) rfl)) e1) (runLc_cons (σ1 := [o0, some (.ref 1), some (.int (f : Int)), some (szs f s), none, some (.int (s : Int)), none, none, none, none, none, none, none, none, none, none, none]) rfl rfl (mN_ok (mCons_ok (mVar_ok rfl) (mCons_ok (mVar_ok rfl) rfl)) e2) rfl)
  exact mLc_ok (own := [5]) (miSeq_lst (mVar_ok rfl)) (by simp) er
theorem p4 (k1 : Ok f ps 30) (k2 : Ok s qs 30) : P4 [o0, some (.ref 1), some (.int (f : Int)), some (szs f s), some (rws ps qs), none, none, none, none, none, none, none, none, none, none, none, none] S = .nx [o0, some (.ref 1), some (.int (f : Int)), some (szs f s), some (rws ps qs), none, some (mkB f ps), some (mkB s qs), none, none, none, none, none, none, none, none, none] S := by
  refine mPar_ok (mCons_ok (S1 := S) (mN_ok (xs := [.int (f : Int), .tup (ps.map mkP)]) (S1 := S) (mCons_ok (m2_ok (mVar_ok rfl) rfl rfl) (mCons_ok (m2_ok (mVar_ok rfl) rfl rfl) rfl)) (k1.mono (by decide)).make) (mCons_ok (S1 := S) (mN_ok (xs := [.int (s : Int), .tup (qs.map mkP)]) (S1 := S) (mCons_ok (m2_ok (mVar_ok rfl) rfl rfl) (mCons_ok (m2_ok (mVar_ok rfl) rfl rfl) rfl)) (k2.mono (by decide)).make) rfl))

theorem it {i j : Int} (h1 : dIx (szs f s) (.int i) S = .ok (.int (n : Int)) S) (h2 : dIx (szs f s) (.int j) S = .ok (.int (m : Int)) S) (h3 : dIx (rws ps qs) (.int i) S = .ok (.tup (ps'.map mkP)) S) (h4 : dIx (rws ps qs) (.int j) S = .ok (.tup (qs'.map mkP)) S) (h5 : dIx (.lst [mkB f ps, mkB s qs]) (.int i) S = .ok (mkB n ps') S) (h6 : dIx (.lst [mkB f ps, mkB s qs]) (.int j) S = .ok (mkB m qs') S) (k1 : Ok n ps' 30) (k2 : Ok m qs' 30) :
    B5 [o0, some (.ref 1), some (.int (f : Int)), some (szs f s), some (rws ps qs), none, some (mkB f ps), some (mkB s qs), some (.int i), some (.int j), o10, none, none, none, none, none, none] S = .nx [o0, some (.ref 1), some (.int (f : Int)), some (szs f s), some (rws ps qs), none, some (mkB f ps), some (mkB s qs), some (.int i), some (.int j), some (.lst [mkB f ps, mkB s qs]), none, none, none, none, none, none] S := by
  refine (mSeq_nx (σ' := [o0, some (.ref 1), some (.int (f : Int)), some (szs f s), some (rws ps qs), none, some (mkB f ps), some (mkB s qs), some (.int i), some (.int j), some (.lst [mkB f ps, mkB s qs]), none, none, none, none, none, none]) (S' := S) (mAsg_ok (mLst_ok (mCons_ok (mVar_ok rfl) (mCons_ok (mVar_ok rfl) rfl)) (by simp)) rfl)).trans (mIf_no (mNotT_ok (mBool_ok (mN_ok (xs := [.lst [.int (n : Int), .int (m : Int)], .lst [.tup (ps'.map mkP), .tup (qs'.map mkP)], mkB n ps', mkB m qs']) (S1 := S) ?_ (joined_ok k1 k2)))))
  refine mCons_ok (mLst_ok (mCons_ok (m2_ok (mVar_ok rfl) (mVar_ok rfl) h1) (mCons_ok (m2_ok (mVar_ok rfl) (mVar_ok rfl) h2) rfl)) (by simp)) (mCons_ok (mLst_ok (mCons_ok (m2_ok (mVar_ok rfl) (mVar_ok rfl) h3) (mCons_ok (m2_ok (mVar_ok rfl) (mVar_ok rfl) h4) rfl)) (by simp)) (mCons_ok (m2_ok (mVar_ok rfl) (mVar_ok rfl) h5) (mCons_ok (m2_ok (mVar_ok rfl) (mVar_ok rfl) h6) rfl)))

theorem p5 (k1 : Ok f ps 30) (k2 : Ok s qs 30) : P5 [o0, some (.ref 1), some (.int (f : Int)), some (szs f s), some (rws ps qs), none, some (mkB f ps), some (mkB s qs), none, none, none, none, none, none, none, none, none] S = .nx [o0, some (.ref 1), some (.int (f : Int)), some (szs f s), some (rws ps qs), none, some (mkB f ps), some (mkB s qs), some (.int 0), some (.int 0), some (.lst [mkB f ps, mkB s qs]), none, none, none, none, none, none] S := by
  refine mFor_ok (items := [.tup [.int 0, .int 1], .tup [.int 1, .int 0], .tup [.int 0, .int 0]]) (S1 := S) rfl ?_
  refine (runFor_cons (σ1 := [o0, some (.ref 1), some (.int (f : Int)), some (szs f s), some (rws ps qs), none, some (mkB f ps), some (mkB s qs), some (.int 0), some (.int 1), none, none, none, none, none, none, none]) (S1 := S) rfl (it rfl rfl rfl rfl rfl rfl k1 k2)).trans ?_
  refine (runFor_cons (σ1 := [o0, some (.ref 1), some (.int (f : Int)), some (szs f s), some (rws ps qs), none, some (mkB f ps), some (mkB s qs), some (.int 1), some (.int 0), some (.lst [mkB f ps, mkB s qs]), none, none, none, none, none, none]) (S1 := S) rfl (it rfl rfl rfl rfl rfl rfl k2 k1)).trans ?_
  exact (runFor_cons (σ1 := [o0, some (.ref 1), some (.int (f : Int)), some (szs f s), some (rws ps qs), none, some (mkB f ps), some (mkB s qs), some (.int 0), some (.int 0), some (.lst [mkB f ps, mkB s qs]), none, none, none, none, none, none]) (S1 := S) rfl (it rfl rfl rfl rfl rfl rfl k1 k1)).trans rfl

theorem p6 (k1 : Ok f ps 30) (k2 : Ok s qs 30) : P6 [o0, some (.ref 1), some (.int (f : Int)), some (szs f s), some (rws ps qs), o5, some (mkB f ps), some (mkB s qs), o8, o9, o10, none, none, none, none, none, none] S = .nx [o0, some (.ref 1), some (.int (f : Int)), some (szs f s), some (rws ps qs), o5, some (mkB f ps), some (mkB s qs), o8, o9, o10, none, none, none, none, none, none] S := by
  refine mIf_no (mOrT_ok (x := false) (y := false) (mNotT_ok (mBool_ok (mN_ok (xs := [.int (f : Int), .tup (ps.map mkP), mkB f ps]) (S1 := S) (mCons_ok (m2_ok (mVar_ok rfl) rfl rfl) (mCons_ok (m2_ok (mVar_ok rfl) rfl rfl) (mCons_ok (mVar_ok rfl) rfl))) (turned_right k1)))) fun _ => mNotT_ok (mBool_ok (mN_ok (xs := [.int (s : Int), .tup (qs.map mkP), mkB s qs]) (S1 := S) (mCons_ok (m2_ok (mVar_ok rfl) rfl rfl) (mCons_ok (m2_ok (mVar_ok rfl) rfl rfl) (mCons_ok (mVar_ok rfl) rfl))) (turned_right k2))))
theorem bk_app : bk (ps ++ qs) = bk qs ++ bk ps := by unfold bk; rw [List.reverse_append, List.map_append]
theorem eqO {i j : Int} : or2 (dEqO ["Board"] "Board" m_Board_eq) dEq (.int i) (.int j) S = .ok (.bl (i == j)) S := or2_r rfl eq_int
theorem neO {i j : Int} : or2 (dNeO ["Board"] "Board" m_Board_eq) dNe (.int i) (.int j) S = .ok (.bl (!(i == j))) S := or2_r rfl ne_int
theorem p7 (k1 : Ok f ps 30) (k2 : Ok s qs 30) : P7 [o0, some (.ref 1), some (.int (f : Int)), some (szs f s), some (rws ps qs), o5, some (mkB f ps), some (mkB s qs), o8, o9, o10, none, none, none, none, none, none] S = .nx [o0, some (.ref 1), some (.int (f : Int)), some (szs f s), some (rws ps qs), o5, some (mkB f ps), some (mkB s qs), o8, o9, o10, none, none, none, none, none, none] S := by
  refine mIf_no ((mAndT_ok (x := ((f : Int) == (s : Int))) (y := false) (mBool_ok (m2_ok (y := .int (s : Int)) (S1 := S) (S2 := S) (mVar_ok rfl) (m2_ok (mVar_ok rfl) rfl rfl) eqO)) fun z => ?_).trans (by rw [Bool.and_false]))
  have q : f = s := by have := eq_of_beq z; omega
  subst q
  have k := (k1.app k2).mono (l' := 1000) (by decide)
  have h1 : m_backwards [mkB f ps] S = .ok (mkB f (bk ps)) S := backwards_ok (k1.mono (by decide))
  have h2 : m_backwards [mkB f qs] S = .ok (mkB f (bk qs)) S := backwards_ok (k2.mono (by decide))
  have h3 : m_behind [mkB f (bk qs), mkB f (bk ps)] S = .ok (mkB f (bk qs ++ bk ps)) S := behind_ok ((k2.bk.app k1.bk).mono (by decide))
  have h4 : m_behind [mkB f ps, mkB f qs] S = .ok (mkB f (ps ++ qs)) S := behind_ok k
  have h5 : m_backwards [mkB f (ps ++ qs)] S = .ok (mkB f (bk qs ++ bk ps)) S := by rw [backwards_ok k, bk_app]
  exact mBool_ok (m2_ok (x := mkB f (bk qs ++ bk ps)) (y := mkB f (bk qs ++ bk ps)) (S1 := S) (S2 := S) (mN_ok (mCons_ok (mN_ok (mCons_ok (mVar_ok rfl) (mCons_ok (mVar_ok rfl) rfl)) h4) rfl) h5) (mN_ok (mCons_ok (mN_ok (mCons_ok (mVar_ok rfl) rfl) h2) (mCons_ok (mN_ok (mCons_ok (mVar_ok rfl) rfl) h1) rfl)) h3) (neB (k2.bk.app k1.bk).w4))
theorem p8 (h1 : 1 ≤ f) (h9 : f ≤ 9) : P8 [o0, some (.ref 1), some (.int (f : Int)), some (szs f s), some (rws ps qs), o5, some (mkB f ps), some (mkB s qs), o8, o9, o10, none, none, none, none, none, none] S = .nx [o0, some (.ref 1), some (.int (f : Int)), some (szs f s), some (rws ps qs), o5, some (mkB f ps), some (mkB s qs), o8, o9, o10, some (mkB f []), none, none, none, none, none] S := mAsg_ok (mN_ok (mCons_ok (mVar_ok rfl) rfl) (straight_ok h1 h9)) rfl
theorem ok0 (h1 : 1 ≤ f) (h9 : f ≤ 9) : Ok f [] 30 := ⟨h1, h9, (fun _ h => nomatch h), by decide⟩
theorem len0 : dLenO "Board" m_Board_len [mkB f []] S = .ok (.int 0) S := by
  have e : m_Board_len [mkB f []] S = .ok (.int 0) S := call_pure (S1 := []) (d := .int 0) rfl pure1 rfl rfl
  show intOf (m_Board_len [mkB f []] S) = _
  rw [e]; rfl
theorem p9 (k1 : Ok f ps 30) : P9 [o0, some (.ref 1), some (.int (f : Int)), some (szs f s), some (rws ps qs), o5, some (mkB f ps), some (mkB s qs), o8, o9, o10, some (mkB f []), none, none, none, none, none] S = .nx [o0, some (.ref 1), some (.int (f : Int)), some (szs f s), some (rws ps qs), o5, some (mkB f ps), some (mkB s qs), o8, o9, o10, some (mkB f []), none, none, none, none, none] S := by
  have k0 := ok0 k1.h1 k1.h9
  have h1 : m_behind [mkB f [], mkB f ps] S = .ok (mkB f ps) S := behind_ok (ps := []) (k1.mono (by decide))
  have h2 : m_behind [mkB f ps, mkB f []] S = .ok (mkB f ps) S := by
    have := behind_ok (S := S) (n := f) (ps := ps) (qs := []) (by rw [List.append_nil]; exact k1.mono (by decide))
    rw [List.append_nil] at this; exact this
  refine mIf_no (mOrT_ok (x := false) (y := false) (mBool_ok (m2_ok (y := mkB f []) (S1 := S) (S2 := S) (mVar_ok rfl) (mN_ok (xs := [.int (f : Int), .tup []]) (S1 := S) (mCons_ok (mVar_ok rfl) (mCons_ok rfl rfl)) (k0.mono (l' := 1000) (by decide)).make) (neB (fun _ h => nomatch h)))) fun _ => mOrT_ok (x := false) (y := false) (mBool_ok (m2_ok (x := .int 0) (y := .int 0) (S1 := S) (S2 := S) (mN_ok (mCons_ok (mVar_ok rfl) rfl) len0) rfl neO)) fun _ => mOrT_ok (x := false) (y := false) (mBool_ok (m2_ok (x := mkB f ps) (y := mkB f ps) (S1 := S) (S2 := S) (mN_ok (mCons_ok (mVar_ok rfl) (mCons_ok (mVar_ok rfl) rfl)) h1) (mVar_ok rfl) (neB k1.w4))) fun _ => mBool_ok (m2_ok (x := mkB f ps) (y := mkB f ps) (S1 := S) (S2 := S) (mN_ok (mCons_ok (mVar_ok rfl) (mCons_ok (mVar_ok rfl) rfl)) h2) (mVar_ok rfl) (neB k1.w4)))
theorem p10 (h1 : 1 ≤ f) (h9 : f ≤ 9) : P10 [o0, some (.ref 1), some (.int (f : Int)), some (szs f s), some (rws ps qs), o5, some (mkB f ps), some (mkB s qs), o8, o9, o10, some (mkB f []), none, none, none, none, none] S = .nx [o0, some (.ref 1), some (.int (f : Int)), some (szs f s), some (rws ps qs), o5, some (mkB f ps), some (mkB s qs), o8, o9, o10, some (mkB f []), none, none, none, none, none] S := by
  have k0 := (ok0 h1 h9).mono (l' := 1000) (by decide)
  have e1 : m_backwards [mkB f []] S = .ok (mkB f []) S := backwards_ok k0
  have e2 : m_upside_down [mkB f []] S = .ok (mkB f []) S := upside_ok k0
  refine mIf_no (mOrT_ok (x := false) (y := false) (mBool_ok (m2_ok (x := mkB f []) (y := mkB f []) (S1 := S) (S2 := S) (mN_ok (mCons_ok (mVar_ok rfl) rfl) e1) (mVar_ok rfl) (neB (fun _ h => nomatch h)))) fun _ => mBool_ok (m2_ok (x := mkB f []) (y := mkB f []) (S1 := S) (S2 := S) (mN_ok (mCons_ok (mVar_ok rfl) rfl) e2) (mVar_ok rfl) (neB (fun _ h => nomatch h))))
theorem p11 {cells : List Int} {x t : Int} : P11 [o0, some (.ref 1), some (.int (f : Int)), some (szs f s), some (rws ps qs), o5, some (mkB f ps), some (mkB s qs), o8, o9, o10, some (mkB f []), none, none, none, none, none] (deckT cells x t []) = .nx [o0, some (.ref 1), some (.int (f : Int)), some (szs f s), some (rws ps qs), o5, some (mkB f ps), some (mkB s qs), o8, o9, o10, some (mkB f []), some (.lst oddL), none, none, none, none] (deckT cells x t [.fd [] []]) := rfl
theorem p12 (hd : Dk T S) : ∃ (d : D) (S' : Store), d ∈ oddL ∧ P12 [o0, some (.ref 1), some (.int (f : Int)), some (szs f s), some (rws ps qs), o5, some (mkB f ps), some (mkB s qs), o8, o9, o10, some (mkB f []), some (.lst oddL), none, none, none, none] S = .nx [o0, some (.ref 1), some (.int (f : Int)), some (szs f s), some (rws ps qs), o5, some (mkB f ps), some (mkB s qs), o8, o9, o10, some (mkB f []), some (.lst oddL), some d, none, none, none] S' := by
  obtain ⟨y, S2, e2, hd2, hy⟩ := dk_pick hd (xs := oddL) (by unfold oddL; simp) (by unfold oddL; simp)
  exact ⟨y, S2, hy, mAsg_ok (mN_ok (mCons_ok (mVar_ok rfl) (mCons_ok (mVar_ok rfl) rfl)) e2) rfl⟩
end
theorem law_right (ns : List Int) (h : ns.length ≤ 63) : ∃ S, m_law [.scr (ns.map D.int)] [] = .ok (.bl true) S := by
  obtain ⟨cells, x, ed, hl⟩ := deck_okT (c0 := 1087508) (c3 := 39) (ns := ns) (by omega)
  let o0 : Option D := some (.scr (ns.map D.int))
  have hd0 : Dk [] (deckT cells x 0 []) := ⟨cells, x, 0, rfl, by omega⟩
  have e0 : P0 [o0, none, none, none, none, none, none, none, none, none, none, none, none, none, none, none, none] [] = .nx [o0, some (.ref 1), none, none, none, none, none, none, none, none, none, none, none, none, none, none, none] (deckT cells x 0 []) := mAsg_ok (mN_ok (mCons_ok (mVar_ok rfl) rfl) ed) rfl
  obtain ⟨f, S1, f1, f9, hd1, e1⟩ := p1 (o0 := o0) hd0
  obtain ⟨s, S2, s1, s9, hd2, e2⟩ := p2 (o0 := o0) hd1 f1 f9
  obtain ⟨ps, qs, S3, k1, k2, hd3, e3⟩ := p3 (o0 := o0) hd2 f1 f9 s1 s9
  obtain ⟨c3, x3, t3, rfl, hl3⟩ := hd3
  obtain ⟨d, S', hd, e12⟩ := p12 (T := [.fd [] []]) (S := deckT c3 x3 t3 [.fd [] []]) (f := f) (s := s) (ps := ps) (qs := qs) (o0 := o0) (o5 := none) (o8 := some (.int 0)) (o9 := some (.int 0)) (o10 := some (.lst [mkB f ps, mkB s qs])) ⟨c3, x3, t3, rfl, hl3⟩
  refine ⟨S', ?_⟩
  refine call_plain rfl ?_
  show b_law [o0, none, none, none, none, none, none, none, none, none, none, none, none, none, none, none, none] [] = _
  rw [law_eq]
  refine (mSeq_nx e0).trans ((mSeq_nx e1).trans ((mSeq_nx e2).trans ((mSeq_nx e3).trans ((mSeq_nx (p4 k1 k2)).trans ((mSeq_nx (p5 k1 k2)).trans ((mSeq_nx (p6 k1 k2)).trans ((mSeq_nx (p7 k1 k2)).trans ((mSeq_nx (p8 f1 f9)).trans ((mSeq_nx (p9 k1)).trans ((mSeq_nx (p10 f1 f9)).trans ((mSeq_nx p11).trans ((mSeq_nx e12).trans ?_))))))))))))
  exact (mSeq_nx (p13 hd)).trans ((mSeq_nx (p14 hd)).trans ((mSeq_nx (p15 hd)).trans ((mSeq_nx p16).trans ((mSeq_nx (p17 k2.w4)).trans (p18 k1.w4 k2.w4)))))
end LW

open PySem PySem.W PyProof.Rows
set_option maxRecDepth 100000 in
set_option maxHeartbeats 0 in
theorem PySem.Challenge.cw_twocompanies_k08_boards_turned_and_joine_holds : PySem.Challenge.rw_twocompanies_k08_boards_turned_and_joine.Holds := by
  w_on; o_law; k_head; (case hw => w_witness2)
  k_fill
  refine LW.walk (l := PySem.Challenge.rw_twocompanies_k08_boards_turned_and_joine) rfl rfl (fun w h Y => PySem.W.kIn_of Y) ?F LW.law_right
  case F =>
    intro w mg fa h KX G hmg
    refine' LW.all_mk KX G hmg rfl rfl ?oN0 ?oA0 ?oB0 ?oD0 ?oE0 ?oF0 ?oG0 ?oH0 ?oI0 ?oJ0 ?oK0 ?oTint_0 ?oTbool_0 ?oTstr_0 ?oTtuple_0 ?oTlist_0 ?oTdict_0 ?oQ0 ?oRsize_0 ?oRpieces_0 ?ogt ?otk ?uX0 ?uY0 ?a1 ?l1 ?c1 ?k1 ?n1 ?a2 ?l2 ?c2 ?k2 ?n2 ?a3 ?l3 ?c3 ?k3 ?a4 ?l4 ?c4 ?k4 ?a5 ?l5 ?c5 ?k5 ?a6 ?l6 ?c6 ?k6 ?a7 ?l7 ?c7 ?k7 ?a8 ?l8 ?c8 ?k8 ?a9 ?l9 ?c9 ?k9 ?a10 ?l10 ?c10 ?k10 ?a11 ?l11 ?c11 ?k11 ?a12 ?l12 ?c12 ?k12 ?a13 ?l13 ?c13 ?k13 ?a14 ?l14 ?c14 ?k14 ?a15 ?l15 ?c15 ?k15 ?n15 ?a16 ?l16 ?c16 ?k16 ?a17 ?l17 ?c17 ?k17 ?a18 ?l18 ?c18 ?k18 ?a19 ?l19 ?c19 ?k19 ?a20 ?l20 ?c20 ?k20 ?a21 ?l21 ?c21 ?k21 ?a22 ?l22 ?c22 ?k22 ?a23 ?l23 ?c23 ?k23 ?a24 ?l24 ?c24 ?k24 ?a25 ?l25 ?c25 ?k25 ?a26 ?l26 ?c26 ?k26 ?a27 ?l27 ?c27 ?k27 ?a28 ?l28 ?c28 ?k28 ?a29 ?l29 ?c29 ?k29 ?a30 ?l30 ?c30 ?k30 ?a31 ?l31 ?c31 ?k31 ?a32 ?l32 ?c32 ?k32 ?a33 ?l33 ?c33 ?k33 ?z0 ?z1 ?z2 ?z3 ?z4 ?z5 ?z6 ?z7 ?z8 ?z9 ?z10 ?z11 ?z12 ?y0 ?y1 ?zs ?xany ?xgt ?xtk ?xA0 ?xL0 ?xsa0 ?xB0 ?xBi0 ?xga0 ?xgg0 ?xi0 ?xt0 ?xk0 ?xe0 ?xty0 ?xh0 ?xcl0 ?xob0 ?xno0 ?xfn0 ?xco0 ?xcd0 ?xcf0 ?xce0 ?xms0 ?xme0 ?xse0 ?xA1 ?xL1 ?xsa1 ?xB1 ?xBi1 ?xga1 ?xgg1 ?xi1 ?xt1 ?xk1 ?xe1 ?xty1 ?xh1 ?xcl1 ?xob1 ?xfn1 ?xco1 ?xcd1 ?xcf1 ?xce1 ?xms1 ?xme1 ?xse1 ?gn0 ?gh0 ?gt0 ?gs0 ?gn1 ?gh1 ?gt1 ?gs1 ?xp0 ?xp1
    (case oN0 => k_is); (case oA0 => k_is); (case oB0 => k_is); (case oD0 => k_is); (case oE0 => k_is); (case oF0 => k_is)
    (case oG0 => k_is); (case oH0 => k_is); (case oI0 => k_is); (case oJ0 => k_is); (case oK0 => k_is); (case oTint_0 => k_is)
    (case oTbool_0 => k_is); (case oTstr_0 => k_is); (case oTtuple_0 => k_is); (case oTlist_0 => k_is); (case oTdict_0 => k_is); (case oQ0 => k_is)
    (case oRsize_0 => k_is); (case oRpieces_0 => k_is); (case ogt => k_is); (case otk => k_is); (case uX0 => k_is); (case uY0 => k_is)
    (case a1 => k_is); (case l1 => k_is); (case c1 => k_is); (case k1 => k_is); (case n1 => k_is); (case a2 => k_is)
    (case l2 => k_is); (case c2 => k_is); (case k2 => k_is); (case n2 => k_is); (case a3 => k_is); (case l3 => k_is)
    (case c3 => k_is); (case k3 => k_is); (case a4 => k_is); (case l4 => k_is); (case c4 => k_is); (case k4 => k_is)
    (case a5 => k_is); (case l5 => k_is); (case c5 => k_is); (case k5 => k_is); (case a6 => k_is); (case l6 => k_is)
    (case c6 => k_is); (case k6 => k_is); (case a7 => k_is); (case l7 => k_is); (case c7 => k_is); (case k7 => k_is)
    (case a8 => k_is); (case l8 => k_is); (case c8 => k_is); (case k8 => k_is); (case a9 => k_is); (case l9 => k_is)
    (case c9 => k_is); (case k9 => k_is); (case a10 => k_is); (case l10 => k_is); (case c10 => k_is); (case k10 => k_is)
    (case a11 => k_is); (case l11 => k_is); (case c11 => k_is); (case k11 => k_is); (case a12 => k_is); (case l12 => k_is)
    (case c12 => k_is); (case k12 => k_is); (case a13 => k_is); (case l13 => k_is); (case c13 => k_is); (case k13 => k_is)
    (case a14 => k_is); (case l14 => k_is); (case c14 => k_is); (case k14 => k_is); (case a15 => k_is); (case l15 => k_is)
    (case c15 => k_is); (case k15 => k_is); (case n15 => k_is); (case a16 => k_is); (case l16 => k_is); (case c16 => k_is)
    (case k16 => k_is); (case a17 => k_is); (case l17 => k_is); (case c17 => k_is); (case k17 => k_is); (case a18 => k_is)
    (case l18 => k_is); (case c18 => k_is); (case k18 => k_is); (case a19 => k_is); (case l19 => k_is); (case c19 => k_is)
    (case k19 => k_is); (case a20 => k_is); (case l20 => k_is); (case c20 => k_is); (case k20 => k_is); (case a21 => k_is)
    (case l21 => k_is); (case c21 => k_is); (case k21 => k_is); (case a22 => k_is); (case l22 => k_is); (case c22 => k_is)
    (case k22 => k_is); (case a23 => k_is); (case l23 => k_is); (case c23 => k_is); (case k23 => k_is); (case a24 => k_is)
    (case l24 => k_is); (case c24 => k_is); (case k24 => k_is); (case a25 => k_is); (case l25 => k_is); (case c25 => k_is)
    (case k25 => k_is); (case a26 => k_is); (case l26 => k_is); (case c26 => k_is); (case k26 => k_is); (case a27 => k_is)
    (case l27 => k_is); (case c27 => k_is); (case k27 => k_is); (case a28 => k_is); (case l28 => k_is); (case c28 => k_is)
    (case k28 => k_is); (case a29 => k_is); (case l29 => k_is); (case c29 => k_is); (case k29 => k_is); (case a30 => k_is)
    (case l30 => k_is); (case c30 => k_is); (case k30 => k_is); (case a31 => k_is); (case l31 => k_is); (case c31 => k_is)
    (case k31 => k_is); (case a32 => k_is); (case l32 => k_is); (case c32 => k_is); (case k32 => k_is); (case a33 => k_is)
    (case l33 => k_is); (case c33 => k_is); (case k33 => k_is); (case z0 => k_is); (case z1 => k_is); (case z2 => k_is)
    (case z3 => k_is); (case z4 => k_is); (case z5 => k_is); (case z6 => k_is); (case z7 => k_is); (case z8 => k_is)
    (case z9 => k_is); (case z10 => k_is); (case z11 => k_is); (case z12 => k_is); (case y0 => k_is); (case y1 => k_is)
    (case zs => k_is); (case xany => k_is); (case xgt => k_is); (case xtk => k_is); (case xA0 => k_is); (case xL0 => k_is)
    (case xsa0 => k_is); (case xB0 => k_is); (case xBi0 => k_is); (case xga0 => k_is); (case xgg0 => k_is); (case xi0 => k_is)
    (case xt0 => k_is); (case xk0 => k_is); (case xe0 => k_is); (case xty0 => k_is); (case xh0 => k_is); (case xcl0 => k_is)
    (case xob0 => k_is); (case xno0 => k_is); (case xfn0 => k_is); (case xco0 => k_is); (case xcd0 => k_is); (case xcf0 => exact rfl)
    (case xce0 => k_is); (case xms0 => k_is); (case xme0 => k_is); (case xse0 => k_is); (case xA1 => k_is); (case xL1 => k_is)
    (case xsa1 => k_is); (case xB1 => k_is); (case xBi1 => k_is); (case xga1 => k_is); (case xgg1 => k_is); (case xi1 => k_is)
    (case xt1 => k_is); (case xk1 => k_is); (case xe1 => k_is); (case xty1 => k_is); (case xh1 => k_is); (case xcl1 => k_is)
    (case xob1 => k_is); (case xfn1 => k_is); (case xco1 => k_is); (case xcd1 => k_is); (case xcf1 => exact rfl); (case xce1 => k_is)
    (case xms1 => k_is); (case xme1 => k_is); (case xse1 => k_is); (case gn0 => k_is); (case gh0 => k_is); (case gt0 => k_is)
    (case gs0 => k_is); (case gn1 => k_is); (case gh1 => k_is); (case gt1 => k_is); (case gs1 => k_is); (case xp0 => k_is)
    (case xp1 => k_is)
#print axioms PySem.Challenge.cw_twocompanies_k08_boards_turned_and_joine_holds
