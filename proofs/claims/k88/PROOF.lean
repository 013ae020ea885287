import PyProof.Rows.All
import Wide.All
import OpenK.AllK
import Wide.FinOn
import HandS.ForMost
import HandS.TupAny
import HandS.Wide
import HandS.Small
import HandS.Style
import HandS.Steps
import HandS.TupLen
import HandS.NoneIn
import HandS.Defaults
import HandS.Rev
import KE.GoesMore
import KE.GoesEnum
import KE.GoesNew
import HandS.RevTup
import HandS.SortKw
import KE.KDictPairs
import KE.DatumOrd
import HandS.Words
import HandS.Head0
import HandS.Head1
import HandS.Head2
import HandS.HeadEnd
import HandS.HeadHook1
import HandS.HeadHook2
import PySem.Challenge.RW_pursewright_k88_whole_over_a_chain
import KE.KStateDown
import Lean
set_option Elab.async false
set_option linter.all false
set_option maxRecDepth 100000
/-! own layer, part 1: values D, objects O, what they stand for -/
namespace IL
open PySem L2

/-- a value: tuples by value (tup: made at run time, kt: a constant of the module), sl: the script, loc: a thing that may change -/
inductive D where
  | non | bl (b : Bool) | int (i : Int) | str (x : Str) | tup (xs : List D) | kt (xs : List D) | sl (xs : List D) | loc (n : Nat)
/-- a thing that may change: list, dict (keys ints and texts), dict (keys tuples of such), instance of class number c -/
inductive O where
  | lst (xs : List D) | dic (kvs : List (Key × D)) | dit (kvs : List (List Key × D)) | ins (c : Nat) (fs : List (Str × D))
abbrev IH := List O
abbrev IEnv := List (Option D)

/-- the context of meanings: the written part, the classes' addresses -/
structure Ct where
  K : PySem.W.Frag
  cls : Nat → Addr

/-- a plain tuple: a constant of the module, or one that stays -/
def KTup (K : PySem.W.Frag) (H : Hp) (a : Addr) (xs : List V) : Prop :=
  (∃ o, H a = some (.frz o (.tup xs)) ∧ o.dict = none) ∨
    ∃ (o : Obj) (its : Array Value) (n : Nat), K.lookup a = some o ∧ o.cls = .type "tuple" ∧ o.dict = none ∧ o.data = .seq its n ∧ its.size ≤ sizeLine ∧ Vals xs its.toList
/-- the script: a list that stays -/
def KSl (K : PySem.W.Frag) (H : Hp) (a : Addr) (xs : List V) : Prop :=
  (∃ o, H a = some (.frz o (.lst xs))) ∨
    ∃ (o : Obj) (its : Array Value) (n : Nat), K.lookup a = some o ∧ o.cls = .type "list" ∧ o.dict = none ∧ o.data = .seq its n ∧ its.size ≤ sizeLine ∧ Vals xs its.toList

mutual
inductive Rep (c : Ct) (ι : List Addr) (H : Hp) : V → D → Prop
  | non : Rep c ι H .non .non
  | bl (b : Bool) : Rep c ι H (.bl b) (.bl b)
  | int (i : Int) : Rep c ι H (.int i) (.int i)
  | str (x : Str) : Rep c ι H (.str x) (.str x)
  | tup {a : Addr} {vs : List V} {xs : List D} : H a = some (.tup vs) → Reps c ι H vs xs → Rep c ι H (.ref a) (.tup xs)
  | kt {a : Addr} {vs : List V} {xs : List D} : KTup c.K H a vs → Reps c ι H vs xs → Rep c ι H (.ref a) (.kt xs)
  | sl {a : Addr} {vs : List V} {xs : List D} : KSl c.K H a vs → Reps c ι H vs xs → Rep c ι H (.ref a) (.sl xs)
  | loc {a : Addr} {n : Nat} : ι[n]? = some a → Rep c ι H (.ref a) (.loc n)
inductive Reps (c : Ct) (ι : List Addr) (H : Hp) : List V → List D → Prop
  | nil : Reps c ι H [] []
  | cons {v : V} {vs : List V} {d : D} {ds : List D} : Rep c ι H v d → Reps c ι H vs ds → Reps c ι H (v :: vs) (d :: ds)
end

/-- what stays: the numbers' addresses, tuples, frozen things -/
structure Evo (ι : List Addr) (H : Hp) (ι' : List Addr) (H' : Hp) : Prop where
  pre : ∃ m, ι' = ι ++ m
  tup : ∀ a xs, H a = some (.tup xs) → H' a = some (.tup xs)
  frz : ∀ a o u, H a = some (.frz o u) → H' a = some (.frz o u)
theorem Evo.refl (ι : List Addr) (H : Hp) : Evo ι H ι H := ⟨⟨[], by simp⟩, fun _ _ h => h, fun _ _ _ h => h⟩
theorem Evo.trans {ι ι1 ι2 : List Addr} {H H1 H2 : Hp} (a : Evo ι H ι1 H1) (b : Evo ι1 H1 ι2 H2) : Evo ι H ι2 H2 := by
  obtain ⟨⟨m, rfl⟩, t1, f1⟩ := a
  obtain ⟨⟨m', rfl⟩, t2, f2⟩ := b
  exact ⟨⟨m ++ m', by simp⟩, fun a xs h => t2 a xs (t1 a xs h), fun a o u h => f2 a o u (f1 a o u h)⟩
theorem Evo.get {ι ι' : List Addr} {H H' : Hp} (e : Evo ι H ι' H') {n : Nat} {a : Addr} (h : ι[n]? = some a) : ι'[n]? = some a := by
  obtain ⟨m, rfl⟩ := e.pre
  have hn : n < ι.length := (List.getElem?_eq_some_iff.mp h).1
  rw [List.getElem?_append_left hn]; exact h

theorem KTup.mono {K : PySem.W.Frag} {H H' : Hp} {a : Addr} {xs : List V} (h : KTup K H a xs) (f : ∀ a o u, H a = some (.frz o u) → H' a = some (.frz o u)) : KTup K H' a xs := by
  rcases h with ⟨o, h, d⟩ | h
  · exact .inl ⟨o, f _ _ _ h, d⟩
  · exact .inr h
theorem KSl.mono {K : PySem.W.Frag} {H H' : Hp} {a : Addr} {xs : List V} (h : KSl K H a xs) (f : ∀ a o u, H a = some (.frz o u) → H' a = some (.frz o u)) : KSl K H' a xs := by
  rcases h with ⟨o, h⟩ | h
  · exact .inl ⟨o, f _ _ _ h⟩
  · exact .inr h
/-! locs below -/
mutual
def D.lo (n : Nat) : D → Bool
  | .non => true | .bl _ => true | .int _ => true | .str _ => true
  | .tup xs => D.los n xs
  | .kt xs => D.los n xs
  | .sl xs => D.los n xs
  | .loc m => decide (m < n)
def D.los (n : Nat) : List D → Bool
  | [] => true
  | d :: ds => D.lo n d && D.los n ds
end
mutual
theorem Rep.mono' {c : Ct} {ι ι' : List Addr} {H H' : Hp} (hp : ∀ (n : Nat) (a : Addr), ι[n]? = some a → ι'[n]? = some a) (ht : ∀ a xs, H a = some (.tup xs) → H' a = some (.tup xs)) (hf : ∀ a o u, H a = some (.frz o u) → H' a = some (.frz o u)) :
    ∀ {v : V} {d : D}, Rep c ι H v d → Rep c ι' H' v d
  | _, _, .non => .non
  | _, _, .bl b => .bl b
  | _, _, .int i => .int i
  | _, _, .str x => .str x
  | _, _, .tup h r => .tup (ht _ _ h) (Reps.mono' hp ht hf r)
  | _, _, .kt h r => .kt (h.mono hf) (Reps.mono' hp ht hf r)
  | _, _, .sl h r => .sl (h.mono hf) (Reps.mono' hp ht hf r)
  | _, _, .loc h => .loc (hp _ _ h)
theorem Reps.mono' {c : Ct} {ι ι' : List Addr} {H H' : Hp} (hp : ∀ (n : Nat) (a : Addr), ι[n]? = some a → ι'[n]? = some a) (ht : ∀ a xs, H a = some (.tup xs) → H' a = some (.tup xs)) (hf : ∀ a o u, H a = some (.frz o u) → H' a = some (.frz o u)) :
    ∀ {vs : List V} {ds : List D}, Reps c ι H vs ds → Reps c ι' H' vs ds
  | _, _, .nil => .nil
  | _, _, .cons h r => .cons (Rep.mono' hp ht hf h) (Reps.mono' hp ht hf r)
end
/-! a value whose locs lie below n means the same by the first n addresses -/
mutual
theorem Rep.cut {c : Ct} {ι ι' : List Addr} {H : Hp} {n : Nat} (hp : ∀ m : Nat, m < n → ι[m]? = ι'[m]?) :
    ∀ {v : V} {d : D}, Rep c ι H v d → d.lo n = true → Rep c ι' H v d
  | _, _, .non, _ => .non
  | _, _, .bl b, _ => .bl b
  | _, _, .int i, _ => .int i
  | _, _, .str x, _ => .str x
  | _, _, .tup h r, b => .tup h (Reps.cut hp r (by simpa [D.lo] using b))
  | _, _, .kt h r, b => .kt h (Reps.cut hp r (by simpa [D.lo] using b))
  | _, _, .sl h r, b => .sl h (Reps.cut hp r (by simpa [D.lo] using b))
  | _, _, .loc h, b => .loc (by rw [← hp _ (by simpa [D.lo] using b)]; exact h)
theorem Reps.cut {c : Ct} {ι ι' : List Addr} {H : Hp} {n : Nat} (hp : ∀ m : Nat, m < n → ι[m]? = ι'[m]?) :
    ∀ {vs : List V} {ds : List D}, Reps c ι H vs ds → D.los n ds = true → Reps c ι' H vs ds
  | _, _, .nil, _ => .nil
  | _, _, .cons h r, b => by
    have b' := Bool.and_eq_true_iff.mp b
    exact .cons (Rep.cut hp h b'.1) (Reps.cut hp r b'.2)
end
/-! what is represented lies below the addresses' number -/
mutual
theorem Rep.lt {c : Ct} {ι : List Addr} {H : Hp} : ∀ {v : V} {d : D}, Rep c ι H v d → d.lo ι.length = true
  | _, _, .non => rfl
  | _, _, .bl b => rfl
  | _, _, .int i => rfl
  | _, _, .str x => rfl
  | _, _, .tup h r => by simpa [D.lo] using Reps.lt r
  | _, _, .kt h r => by simpa [D.lo] using Reps.lt r
  | _, _, .sl h r => by simpa [D.lo] using Reps.lt r
  | _, _, .loc h => by simpa [D.lo] using (List.getElem?_eq_some_iff.mp h).1
theorem Reps.lt {c : Ct} {ι : List Addr} {H : Hp} : ∀ {vs : List V} {ds : List D}, Reps c ι H vs ds → D.los ι.length ds = true
  | _, _, .nil => rfl
  | _, _, .cons h r => by simp [D.los, Rep.lt h, Reps.lt r]
end
section
variable {c : Ct} {ι ι' : List Addr} {H H' : Hp} {v : V} {d : D} {vs : List V} {ds : List D}
theorem Rep.mono (r : Rep c ι H v d) (e : Evo ι H ι' H') : Rep c ι' H' v d := Rep.mono' (fun _ _ h => e.get h) e.tup e.frz r
theorem Reps.mono (r : Reps c ι H vs ds) (e : Evo ι H ι' H') : Reps c ι' H' vs ds := Reps.mono' (fun _ _ h => e.get h) e.tup e.frz r
theorem Reps.length : ∀ {vs : List V} {ds : List D}, Reps c ι H vs ds → vs.length = ds.length
  | _, _, .nil => rfl
  | _, _, .cons _ r => by simp [Reps.length r]
theorem Reps.get : ∀ {vs : List V} {ds : List D} {i : Nat} {d : D}, Reps c ι H vs ds → ds[i]? = some d → ∃ v, vs[i]? = some v ∧ Rep c ι H v d
  | _, _, i, d, .nil, h => by simp at h
  | _, _, 0, d, .cons r _, h => by simp at h; subst h; exact ⟨_, by simp, r⟩
  | _, _, i + 1, d, .cons _ r, h => by
    obtain ⟨v, h1, h2⟩ := Reps.get r (i := i) (d := d) (by simpa using h)
    exact ⟨v, by simpa using h1, h2⟩
theorem Reps.getV : ∀ {vs : List V} {ds : List D} {i : Nat} {v : V}, Reps c ι H vs ds → vs[i]? = some v → ∃ d, ds[i]? = some d ∧ Rep c ι H v d
  | _, _, i, d, .nil, h => by simp at h
  | _, _, 0, d, .cons r _, h => by simp at h; subst h; exact ⟨_, by simp, r⟩
  | _, _, i + 1, d, .cons _ r, h => by
    obtain ⟨v, h1, h2⟩ := Reps.getV r (i := i) (v := d) (by simpa using h)
    exact ⟨v, by simpa using h1, h2⟩
theorem Reps.append : ∀ {vs us : List V} {ds es : List D}, Reps c ι H vs ds → Reps c ι H us es → Reps c ι H (vs ++ us) (ds ++ es)
  | _, _, _, _, .nil, s => s
  | _, _, _, _, .cons r t, s => .cons r (Reps.append t s)
theorem Reps.take : ∀ {vs : List V} {ds : List D} (n : Nat), Reps c ι H vs ds → Reps c ι H (vs.take n) (ds.take n)
  | _, _, 0, _ => .nil
  | _, _, _ + 1, .nil => .nil
  | _, _, n + 1, .cons r t => .cons r (Reps.take n t)
theorem Reps.drop : ∀ {vs : List V} {ds : List D} (n : Nat), Reps c ι H vs ds → Reps c ι H (vs.drop n) (ds.drop n)
  | _, _, 0, r => r
  | _, _, _ + 1, .nil => .nil
  | _, _, n + 1, .cons _ t => Reps.drop n t
theorem Reps.set {v : V} {d : D} (r : Rep c ι H v d) : ∀ {vs : List V} {ds : List D} (n : Nat), Reps c ι H vs ds → Reps c ι H (vs.set n v) (ds.set n d)
  | _, _, _, .nil => .nil
  | _, _, 0, .cons _ t => .cons r t
  | _, _, n + 1, .cons q t => .cons q (Reps.set r n t)
theorem Reps.one (r : Rep c ι H v d) : Reps c ι H [v] [d] := .cons r .nil
theorem Reps.reverse : ∀ {vs : List V} {ds : List D}, Reps c ι H vs ds → Reps c ι H vs.reverse ds.reverse
  | _, _, .nil => .nil
  | _, _, .cons r t => by
    rw [List.reverse_cons, List.reverse_cons]
    exact (Reps.reverse t).append (.one r)
theorem Reps.dropLast {vs : List V} {ds : List D} (h : Reps c ι H vs ds) : Reps c ι H vs.dropLast ds.dropLast := by
  rw [List.dropLast_eq_take, List.dropLast_eq_take, h.length]
  exact h.take _
theorem Rep.int_inv {i : Int} (r : Rep c ι H v (.int i)) : v = .int i := by cases r; rfl
theorem Rep.str_inv {x : Str} (r : Rep c ι H v (.str x)) : v = .str x := by cases r; rfl
theorem Rep.bl_inv {b : Bool} (r : Rep c ι H v (.bl b)) : v = .bl b := by cases r; rfl
theorem Rep.non_inv (r : Rep c ι H v .non) : v = .non := by cases r; rfl
theorem Rep.tup_inv {xs : List D} (r : Rep c ι H v (.tup xs)) : ∃ a vs, v = .ref a ∧ H a = some (.tup vs) ∧ Reps c ι H vs xs := by
  cases r with
  | tup h r => exact ⟨_, _, rfl, h, r⟩
theorem Rep.loc_inv {n : Nat} (r : Rep c ι H v (.loc n)) : ∃ a, v = .ref a ∧ ι[n]? = some a := by
  cases r with
  | loc h => exact ⟨_, rfl, h⟩
theorem Rep.kt_inv {xs : List D} (r : Rep c ι H v (.kt xs)) : ∃ a vs, v = .ref a ∧ KTup c.K H a vs ∧ Reps c ι H vs xs := by
  cases r with
  | kt h r => exact ⟨_, _, rfl, h, r⟩
theorem Rep.sl_inv {xs : List D} (r : Rep c ι H v (.sl xs)) : ∃ a vs, v = .ref a ∧ KSl c.K H a vs ∧ Reps c ι H vs xs := by
  cases r with
  | sl h r => exact ⟨_, _, rfl, h, r⟩
theorem KTup.sq {K : PySem.W.Frag} {a : Addr} {xs : List V} (h : KTup K H a xs) : SqT K H a xs := by
  rcases h with ⟨o, h, _⟩ | ⟨o, its, n, h1, h2, _, h3⟩
  · exact .inl (.inr ⟨o, h⟩)
  · exact .inr ⟨o, its, n, h1, h2, h3⟩
theorem KSl.sq {K : PySem.W.Frag} {a : Addr} {xs : List V} (h : KSl K H a xs) : SqL K H a xs := by
  rcases h with h | h
  · exact .inl (.inr h)
  · exact .inr h
theorem Reps.ints : ∀ {vs : List V} {ns : List Int}, Reps c ι H vs (ns.map D.int) → vs = ns.map V.int
  | _, [], .nil => rfl
  | _, n :: ns, .cons r t => by rw [List.map_cons, r.int_inv, Reps.ints t]
theorem Reps.of_ints : ∀ (ns : List Int), Reps c ι H (ns.map V.int) (ns.map D.int)
  | [] => .nil
  | n :: ns => .cons (.int n) (Reps.of_ints ns)
theorem Reps.strs : ∀ {vs : List V} {ns : List Str}, Reps c ι H vs (ns.map D.str) → vs = ns.map V.str
  | _, [], .nil => rfl
  | _, n :: ns, .cons r t => by rw [List.map_cons, r.str_inv, Reps.strs t]
theorem Reps.of_strs : ∀ (ns : List Str), Reps c ι H (ns.map V.str) (ns.map D.str)
  | [] => .nil
  | n :: ns => .cons (.str n) (Reps.of_strs ns)
theorem Reps.bls : ∀ {vs : List V} {ns : List Bool}, Reps c ι H vs (ns.map D.bl) → vs = ns.map V.bl
  | _, [], .nil => rfl
  | _, n :: ns, .cons r t => by rw [List.map_cons, r.bl_inv, Reps.bls t]
end

/-! ### objects -/
/-- a dict's pairs -/
inductive Prs (c : Ct) (ι : List Addr) (H : Hp) {κ : Type} : List (κ × V) → List (κ × D) → Prop
  | nil : Prs c ι H [] []
  | cons {k : κ} {v : V} {d : D} {vs : List (κ × V)} {ds : List (κ × D)} : Rep c ι H v d → Prs c ι H vs ds → Prs c ι H ((k, v) :: vs) ((k, d) :: ds)
def OSim (c : Ct) (ι : List Addr) (H : Hp) (a : Addr) : O → Prop
  | .lst xs => ∃ vs, H a = some (.lst vs) ∧ Reps c ι H vs xs
  | .dic kvs => ∃ vs, H a = some (.dK vs) ∧ Prs c ι H vs kvs
  | .dit kvs => ∃ vs, H a = some (.dT vs) ∧ Prs c ι H vs kvs
  | .ins k fs => ∃ dx vs, H a = some (.ins (c.cls k) dx vs) ∧ H dx = some (.own a) ∧ Prs c ι H vs fs
def O.lo (n : Nat) : O → Bool
  | .lst xs => D.los n xs
  | .dic kvs => D.los n (kvs.map (·.2))
  | .dit kvs => D.los n (kvs.map (·.2))
  | .ins _ fs => D.los n (fs.map (·.2))
section
variable {c : Ct} {ι ι' : List Addr} {H H' : Hp} {κ : Type}
theorem Prs.mono' (hp : ∀ (n : Nat) (a : Addr), ι[n]? = some a → ι'[n]? = some a) (ht : ∀ a xs, H a = some (.tup xs) → H' a = some (.tup xs)) (hf : ∀ a o u, H a = some (.frz o u) → H' a = some (.frz o u)) :
    ∀ {vs : List (κ × V)} {ds : List (κ × D)}, Prs c ι H vs ds → Prs c ι' H' vs ds
  | _, _, .nil => .nil
  | _, _, .cons r t => .cons (Rep.mono' hp ht hf r) (Prs.mono' hp ht hf t)
theorem Prs.cut {n : Nat} (hp : ∀ m : Nat, m < n → ι[m]? = ι'[m]?) : ∀ {vs : List (κ × V)} {ds : List (κ × D)}, Prs c ι H vs ds → D.los n (ds.map (·.2)) = true → Prs c ι' H vs ds
  | _, _, .nil, _ => .nil
  | _, _, .cons r t, b => by
    have b' := Bool.and_eq_true_iff.mp b
    exact .cons (Rep.cut hp r b'.1) (Prs.cut hp t b'.2)
theorem Prs.lt : ∀ {vs : List (κ × V)} {ds : List (κ × D)}, Prs c ι H vs ds → D.los ι.length (ds.map (·.2)) = true
  | _, _, .nil => rfl
  | _, _, .cons r t => by simp [D.los, Rep.lt r, Prs.lt t]
theorem Prs.length : ∀ {vs : List (κ × V)} {ds : List (κ × D)}, Prs c ι H vs ds → vs.length = ds.length
  | _, _, .nil => rfl
  | _, _, .cons _ t => by simp [Prs.length t]
theorem OSim.mono' (hp : ∀ (n : Nat) (a : Addr), ι[n]? = some a → ι'[n]? = some a) (ht : ∀ a xs, H a = some (.tup xs) → H' a = some (.tup xs)) (hf : ∀ a o u, H a = some (.frz o u) → H' a = some (.frz o u))
    {a : Addr} {o : O} (ha : H' a = H a) (how : ∀ dx, H dx = some (.own a) → H' dx = some (.own a)) (h : OSim c ι H a o) : OSim c ι' H' a o := by
  cases o with
  | lst xs => obtain ⟨vs, h1, h2⟩ := h; exact ⟨vs, by rw [ha]; exact h1, Reps.mono' hp ht hf h2⟩
  | dic xs => obtain ⟨vs, h1, h2⟩ := h; exact ⟨vs, by rw [ha]; exact h1, Prs.mono' hp ht hf h2⟩
  | dit xs => obtain ⟨vs, h1, h2⟩ := h; exact ⟨vs, by rw [ha]; exact h1, Prs.mono' hp ht hf h2⟩
  | ins k fs => obtain ⟨dx, vs, h1, h3, h2⟩ := h; exact ⟨dx, vs, by rw [ha]; exact h1, how _ h3, Prs.mono' hp ht hf h2⟩
theorem OSim.cut {n : Nat} (hp : ∀ m : Nat, m < n → ι[m]? = ι'[m]?) {a : Addr} {o : O} (h : OSim c ι H a o) (b : o.lo n = true) : OSim c ι' H a o := by
  cases o with
  | lst xs => obtain ⟨vs, h1, h2⟩ := h; exact ⟨vs, h1, Reps.cut hp h2 b⟩
  | dic xs => obtain ⟨vs, h1, h2⟩ := h; exact ⟨vs, h1, Prs.cut hp h2 b⟩
  | dit xs => obtain ⟨vs, h1, h2⟩ := h; exact ⟨vs, h1, Prs.cut hp h2 b⟩
  | ins k fs => obtain ⟨dx, vs, h1, h3, h2⟩ := h; exact ⟨dx, vs, h1, h3, Prs.cut hp h2 b⟩
theorem OSim.lt {a : Addr} {o : O} (h : OSim c ι H a o) : o.lo ι.length = true := by
  cases o with
  | lst xs => obtain ⟨vs, h1, h2⟩ := h; exact Reps.lt h2
  | dic xs => obtain ⟨vs, h1, h2⟩ := h; exact Prs.lt h2
  | dit xs => obtain ⟨vs, h1, h2⟩ := h; exact Prs.lt h2
  | ins k fs => obtain ⟨dx, vs, h1, h3, h2⟩ := h; exact Prs.lt h2
/-- there something stands that may be written -/
theorem OSim.at_ {a : Addr} {o : O} (h : OSim c ι H a o) : ∃ u, H a = some u ∧ Mut (some u) := by
  cases o with
  | lst xs => obtain ⟨vs, h1, h2⟩ := h; exact ⟨_, h1, trivial⟩
  | dic xs => obtain ⟨vs, h1, h2⟩ := h; exact ⟨_, h1, trivial⟩
  | dit xs => obtain ⟨vs, h1, h2⟩ := h; exact ⟨_, h1, trivial⟩
  | ins k fs => obtain ⟨dx, vs, h1, h3, h2⟩ := h; exact ⟨_, h1, trivial⟩
end

/-- the heap of numbered objects is what stands at their addresses -/
structure Sim (c : Ct) (ι : List Addr) (h : IH) (H : Hp) : Prop where
  len : ι.length = h.length
  nd : ι.Nodup
  at_ : ∀ (n : Nat) (a : Addr) (o : O), ι[n]? = some a → h[n]? = some o → OSim c ι H a o

section
variable {c : Ct} {ι ι' : List Addr} {h : IH} {H H' : Hp} {a : Addr} {n : Nat} {o : O} {u : HO}
theorem Sim.obj (S : Sim c ι h H) (e : h[n]? = some o) : ∃ a, ι[n]? = some a ∧ OSim c ι H a o := by
  have hn : n < ι.length := by rw [S.len]; exact (List.getElem?_eq_some_iff.mp e).1
  exact ⟨ι[n], List.getElem?_eq_getElem hn, S.at_ n _ o (List.getElem?_eq_getElem hn) e⟩
theorem Sim.oat (S : Sim c ι h H) (ha : ι[n]? = some a) (e : h[n]? = some o) : OSim c ι H a o := S.at_ n a o ha e
theorem Sim.has (S : Sim c ι h H) (ha : ι[n]? = some a) : ∃ o, h[n]? = some o := by
  have hn : n < h.length := by rw [← S.len]; exact (List.getElem?_eq_some_iff.mp ha).1
  exact ⟨h[n], List.getElem?_eq_getElem hn⟩
theorem Sim.mut (S : Sim c ι h H) (ha : ι[n]? = some a) : ∃ u, H a = some u ∧ Mut (some u) := by
  obtain ⟨o, e⟩ := S.has ha
  exact (S.at_ n a o ha e).at_
/-- addresses of unlike numbers are unlike -/
theorem Sim.inj (S : Sim c ι h H) {m : Nat} (h1 : ι[n]? = some a) (h2 : ι[m]? = some a) : n = m := by
  obtain ⟨h1, e1⟩ := List.getElem?_eq_some_iff.mp h1
  obtain ⟨h2, e2⟩ := List.getElem?_eq_some_iff.mp h2
  exact (List.getElem_inj S.nd).mp (e1.trans e2.symm)
/-- a new address is none of them -/
theorem Sim.fresh (S : Sim c ι h H) (hp : H a = none) : a ∉ ι := fun hm => by
  obtain ⟨n, e⟩ := List.mem_iff_getElem?.mp hm
  obtain ⟨u, e', _⟩ := S.mut e
  rw [hp] at e'; cases e'
/-- something new stands at an address that was free: what is numbered stays -/
theorem evo_new (hp : H a = none) : Evo ι H ι (upd H a u) :=
  ⟨⟨[], by simp⟩, fun b xs e => by rw [upd_ne (ne_of_none e hp)]; exact e, fun b o w e => by rw [upd_ne (ne_of_none e hp)]; exact e⟩
theorem Sim.mono (S : Sim c ι h H) (ht : ∀ a xs, H a = some (.tup xs) → H' a = some (.tup xs)) (hf : ∀ a o u, H a = some (.frz o u) → H' a = some (.frz o u)) (hs : ∀ (n : Nat) (a : Addr), ι[n]? = some a → H' a = H a)
    (ho : ∀ (n : Nat) (a dx : Addr), ι[n]? = some a → H dx = some (.own a) → H' dx = some (.own a)) : Sim c ι h H' :=
  ⟨S.len, S.nd, fun n a o e1 e2 => (S.at_ n a o e1 e2).mono' (fun _ _ e => e) ht hf (hs n a e1) (fun dx e => ho n a dx e1 e)⟩
theorem Sim.new (S : Sim c ι h H) (hp : H a = none) : Sim c ι h (upd H a u) :=
  S.mono (evo_new (ι := ι) hp).tup (evo_new (ι := ι) hp).frz (fun n b e => by
    obtain ⟨u', e', _⟩ := S.mut e
    exact upd_ne (ne_of_none e' hp)) (fun n b dx _ e => by rw [upd_ne (ne_of_none e hp)]; exact e)
/-- .. and is numbered -/
theorem Sim.push (S : Sim c ι h H) (hn : a ∉ ι) (hO : OSim c (ι ++ [a]) H a o) : Sim c (ι ++ [a]) (h ++ [o]) H := by
  refine ⟨by simp [S.len], List.nodup_append.mpr ⟨S.nd, by simp, fun x hx y hy e => ?_⟩, fun n b o' e1 e2 => ?_⟩
  · have : y = a := by simpa using hy
    subst this; subst e; exact hn hx
  · by_cases hl : n < ι.length
    · rw [List.getElem?_append_left hl] at e1
      rw [List.getElem?_append_left (by rw [← S.len]; exact hl)] at e2
      refine (S.at_ n b o' e1 e2).mono' (fun m x e => ?_) (fun _ _ e => e) (fun _ _ _ e => e) rfl (fun _ e => e)
      rw [List.getElem?_append_left (List.getElem?_eq_some_iff.mp e).1]; exact e
    · rw [List.getElem?_append_right (by omega)] at e1
      rw [List.getElem?_append_right (by rw [← S.len]; omega), ← S.len] at e2
      by_cases hz : n - ι.length = 0
      · rw [hz] at e1 e2
        simp at e1 e2
        subst e1; subst e2; exact hO
      · rw [List.getElem?_eq_none (by simp; omega)] at e1; cases e1
theorem evo_push (a : Addr) : Evo ι H (ι ++ [a]) H := ⟨⟨[a], rfl⟩, fun _ _ e => e, fun _ _ _ e => e⟩
/-- the object at n is written -/
theorem Sim.set (S : Sim c ι h H) (ha : ι[n]? = some a) (hO : OSim c ι (upd H a u) a o) (hu : ∀ x, H a ≠ some (.own x)) : Sim c ι (h.set n o) (upd H a u) := by
  obtain ⟨w, ew, mw⟩ := S.mut ha
  have nt : ∀ b xs, H b = some (.tup xs) → b ≠ a := fun b xs e z => by subst z; rw [ew] at e; cases e; exact mw
  have nf : ∀ b q xs, H b = some (.frz q xs) → b ≠ a := fun b q xs e z => by subst z; rw [ew] at e; cases e; exact mw
  refine ⟨by simp [S.len], S.nd, fun m b o' e1 e2 => ?_⟩
  by_cases hm : m = n
  · subst hm
    rw [ha] at e1; cases e1
    have hl : m < h.length := by rw [← S.len]; exact (List.getElem?_eq_some_iff.mp ha).1
    rw [List.getElem?_set_self hl] at e2; cases e2
    exact hO
  · rw [List.getElem?_set_ne (Ne.symm hm)] at e2
    have hb : b ≠ a := fun z => by subst z; exact hm (S.inj e1 ha)
    exact (S.at_ m b o' e1 e2).mono' (fun _ _ e => e) (fun b xs e => by rw [upd_ne (nt b xs e)]; exact e) (fun b q xs e => by rw [upd_ne (nf b q xs e)]; exact e) (upd_ne hb)
      (fun dx e => by rw [upd_ne (fun z => hu b (by rw [← z]; exact e))]; exact e)
theorem Sim.evo_set (S : Sim c ι h H) (ha : ι[n]? = some a) : Evo ι H ι (upd H a u) := by
  obtain ⟨w, ew, mw⟩ := S.mut ha
  exact ⟨⟨[], by simp⟩, fun b xs e => by rw [upd_ne (fun z => by subst z; rw [ew] at e; cases e; exact mw)]; exact e, fun b q xs e => by rw [upd_ne (fun z => by subst z; rw [ew] at e; cases e; exact mw)]; exact e⟩
/-- a write at a numbered address keeps what is represented -/
theorem Sim.reps_set (S : Sim c ι h H) (ha : ι[n]? = some a) {vs : List V} {ds : List D} (r : Reps c ι H vs ds) : Reps c ι (upd H a u) vs ds := r.mono (S.evo_set ha)
theorem Sim.rep_set (S : Sim c ι h H) (ha : ι[n]? = some a) {v : V} {d : D} (r : Rep c ι H v d) : Rep c ι (upd H a u) v d := r.mono (S.evo_set ha)
/-- the last numbers are forgotten -/
theorem Sim.cut {m : Nat} (S : Sim c ι h H) (hm : m ≤ h.length) (b : ∀ (n : Nat) (o : O), n < m → h[n]? = some o → o.lo m = true) : Sim c (ι.take m) (h.take m) H := by
  have hl : (ι.take m).length = m := by rw [List.length_take, S.len]; omega
  have hp : ∀ k, k < m → ι[k]? = (ι.take m)[k]? := fun k hk => by rw [List.getElem?_take_of_lt hk]
  refine ⟨by simp [S.len], S.nd.sublist (List.take_sublist _ _), fun n a o e1 e2 => ?_⟩
  have hn : n < m := by have := (List.getElem?_eq_some_iff.mp e1).1; omega
  rw [List.getElem?_take_of_lt hn] at e1 e2
  exact (S.at_ n a o e1 e2).cut hp (b n o hn e2)
end
end IL

/-! own layer, part 2: expressions -/
namespace IL
open PySem PySem.Spec PyProof.Rows L2

abbrev IE := IEnv → IH → Option (D × IH)
abbrev IA := IEnv → IH → Option (List D × IH)
abbrev IT := IEnv → IH → Option (Bool × IH)
abbrev Fn := List D → IH → Option (D × IH)

structure EnvR (c : Ct) (ι : List Addr) (H : Hp) (σ : L2.St) (env : IEnv) : Prop where
  len : σ.length = env.length
  at_ : ∀ (i : Nat) (d : D), env[i]? = some (some d) → ∃ v, σ[i]? = some (some v) ∧ Rep c ι H v d
theorem EnvR.mono {c : Ct} {ι ι' : List Addr} {H H' : Hp} {σ : L2.St} {env : IEnv} (E : EnvR c ι H σ env) (e : Evo ι H ι' H') : EnvR c ι' H' σ env :=
  ⟨E.len, fun i d h => let ⟨v, h1, h2⟩ := E.at_ i d h; ⟨v, h1, h2.mono e⟩⟩
theorem EnvR.set {c : Ct} {ι : List Addr} {H : Hp} {σ : L2.St} {env : IEnv} (E : EnvR c ι H σ env) {v : V} {d : D} (r : Rep c ι H v d) (i : Nat) : EnvR c ι H (σ.set i (some v)) (env.set i (some d)) := by
  refine ⟨by simp [E.len], fun j e h => ?_⟩
  by_cases hj : i = j
  · subst hj
    have hl : i < env.length := by have := (List.getElem?_eq_some_iff.mp h).1; simpa using this
    rw [List.getElem?_set_self hl] at h
    cases h
    exact ⟨v, by rw [List.getElem?_set_self (by rw [E.len]; exact hl)], r⟩
  · rw [List.getElem?_set_ne hj] at h ⊢
    exact E.at_ j e h
/-- what follows -/
def Post (c : Ct) (ι : List Addr) (H : Hp) (h' : IH) (d : D) (Q : VK) : Prop := ∀ ι' H' v, Evo ι H ι' H' → Sim c ι' h' H' → Rep c ι' H' v d → Q v H'
theorem Post.evo {c : Ct} {ι ι' : List Addr} {H H' : Hp} {h' : IH} {d : D} {Q : VK} (p : Post c ι H h' d Q) (e : Evo ι H ι' H') : Post c ι' H' h' d Q := fun ι2 H2 v e2 S r => p ι2 H2 v (e.trans e2) S r
theorem Post.now {c : Ct} {ι : List Addr} {H : Hp} {h : IH} {d : D} {Q : VK} (p : Post c ι H h d Q) (S : Sim c ι h H) {v : V} (r : Rep c ι H v d) : Q v H := p ι H v (Evo.refl _ _) S r

/-! ### the readings -/
def tI (c : Ct) (f : IE) : TE := fun σ H Q => ∃ ι h env d h', Sim c ι h H ∧ EnvR c ι H σ env ∧ f env h = some (d, h') ∧ Post c ι H h' d Q
def tJ (c : Ct) (f : IT) : TT := fun σ H Q => ∃ ι h env b h', Sim c ι h H ∧ EnvR c ι H σ env ∧ f env h = some (b, h') ∧ ∀ ι' H', Evo ι H ι' H' → Sim c ι' h' H' → Q b H'
def tK (c : Ct) (f : IA) : TA := fun σ H Q => ∃ ι h env ds h', Sim c ι h H ∧ EnvR c ι H σ env ∧ f env h = some (ds, h') ∧ ∀ ι' H' vs, Evo ι H ι' H' → Sim c ι' h' H' → Reps c ι' H' vs ds → Q vs H'
theorem PE.imp {X : Cx} {e : Expr} {t t' : TE} (h : PE X e t) (k : ∀ σ H Q, t' σ H Q → t σ H Q) : PE X e t' := ⟨fun pins s σ H Q I q => h.run pins s σ H Q I (k σ H Q q)⟩
theorem PT.imp {X : Cx} {e : Expr} {t t' : TT} (h : PT X e t) (k : ∀ σ H Q, t' σ H Q → t σ H Q) : PT X e t' := ⟨fun pins s σ H Q I q => h.run pins s σ H Q I (k σ H Q q)⟩
theorem PW.imp {X : Cx} {e : Expr} {t t' : TT} (h : PW X e t) (k : ∀ σ H Q, t' σ H Q → t σ H Q) : PW X e t' := ⟨fun wh pins s σ H Q I q => h.run wh pins s σ H Q I (k σ H Q q)⟩
theorem PA.imp {X : Cx} {e : List Expr} {t t' : TA} (h : PA X e t) (k : ∀ σ H Q, t' σ H Q → t σ H Q) : PA X e t' := ⟨fun p pins s σ H Q I q => h.run p pins s σ H Q I (k σ H Q q)⟩
theorem PS.imp {X : Cx} {e : Stmt} {t t' : TS} (h : PS X e t) (k : ∀ D σ H, t' D σ H → t D σ H) : PS X e t' := ⟨fun pins s σ H Q I q => h.run pins s σ H Q I (k Q σ H q)⟩
theorem PSs.imp {X : Cx} {e : List Stmt} {t t' : TS} (h : PSs X e t) (k : ∀ D σ H, t' D σ H → t D σ H) : PSs X e t' := ⟨fun pins s σ H Q I q => h.run pins s σ H Q I (k Q σ H q)⟩
theorem PG.imp {X : Cx} {e : Expr} {t t' : TG} (h : PG X e t) (k : ∀ v σ H Q, t' v σ H Q → t v σ H Q) : PG X e t' := ⟨fun pins s σ H v u Q I r q => h.run pins s σ H v u Q I r (k v σ H Q q)⟩
theorem PGs.imp {X : Cx} {e : List Expr} {t t' : TGs} (h : PGs X e t) (k : ∀ v σ H Q, t' v σ H Q → t v σ H Q) : PGs X e t' := ⟨fun pins s σ H v u Q I r q => h.run pins s σ H v u Q I r (k v σ H Q q)⟩
theorem PI.imp {X : Cx} {tg e : Expr} {t t' : TI} (h : PI X tg e t) (k : ∀ σ H R, t' σ H R → t σ H R) : PI X tg e t' := ⟨fun pins s σ H R I q => h.run pins s σ H R I (k σ H R q)⟩

/-- the judgements of this layer -/
abbrev IX (X : Cx) (cls : Nat → Addr) (e : Expr) (f : IE) : Prop := PE X e (tI ⟨X.K, cls⟩ f)
abbrev JX (X : Cx) (cls : Nat → Addr) (e : Expr) (f : IT) : Prop := PT X e (tJ ⟨X.K, cls⟩ f)
abbrev WX' (X : Cx) (cls : Nat → Addr) (e : Expr) (f : IT) : Prop := PW X e (tJ ⟨X.K, cls⟩ f)
abbrev KX (X : Cx) (cls : Nat → Addr) (e : List Expr) (f : IA) : Prop := PA X e (tK ⟨X.K, cls⟩ f)

/-! ### names, constants -/
def iVar (i : Nat) : IE := fun env h => match env[i]? with
  | some (some d) => some (d, h)
  | _ => none
def iC (d : D) : IE := fun _ h => some (d, h)
section
variable {X : Cx} {cls : Nat → Addr} {c : Ct} {σ : L2.St} {H : Hp} {Q : VK} {pos : Pos}
theorem iVar_some {i : Nat} {env : IEnv} {h h' : IH} {d : D} (e : iVar i env h = some (d, h')) : env[i]? = some (some d) ∧ h' = h := by
  unfold iVar at e
  split at e
  · rename_i x hx
    have := Option.some.inj e
    cases this
    exact ⟨hx, rfl⟩
  · cases e
theorem ix_var {i : Nat} {x : Str} (hN : X.N[i]? = some x) (hv : Vis X.env.scope x) (hd : (x == ("__debug__" : Str)) = false := by decide) (hcd : (x == ("__classdict__" : Str)) = false := by decide) : IX X cls (.Name x pos) (iVar i) := by
  refine PE.imp (pe_var hN hv hd hcd) fun σ H Q ⟨ι, h, env, d, h', S, E, e, p⟩ => ?_
  obtain ⟨e1, rfl⟩ := iVar_some e
  obtain ⟨v, h1, r⟩ := E.at_ i d e1
  exact ⟨v, h1, p.now S r⟩
theorem ix_const {e : Expr} {v : V} {d : D} (h : PE X e (tC v)) (hr : ∀ ι H, Rep ⟨X.K, cls⟩ ι H v d) : IX X cls e (iC d) := by
  refine PE.imp h fun σ H Q ⟨ι, h, env, d', h', S, E, e, p⟩ => ?_
  cases (Option.some.inj e)
  exact p.now S (hr ι H)
theorem ix_int {i j pos} : IX X cls (.Constant (.int i) j pos) (iC (.int i)) := ix_const pe_int fun _ _ => .int i
theorem ix_bl {b j pos} : IX X cls (.Constant (.bool b) j pos) (iC (.bl b)) := ix_const pe_bl fun _ _ => .bl b
theorem ix_non {j pos} : IX X cls (.Constant .none j pos) (iC .non) := ix_const pe_non fun _ _ => .non
theorem ix_str {x j pos} : IX X cls (.Constant (.str x) j pos) (iC (.str x)) := ix_const pe_str fun _ _ => .str x
end

/-! ### operators -/
def iOp (g : D → D → IH → Option (D × IH)) (fa fb : IE) : IE := fun env h => (fa env h).bind fun (x, h1) => (fb env h1).bind fun (y, h2) => g x y h2
theorem iOp_some {g : D → D → IH → Option (D × IH)} {fa fb : IE} {env : IEnv} {h h' : IH} {d : D} (e : iOp g fa fb env h = some (d, h')) : ∃ x h1 y h2, fa env h = some (x, h1) ∧ fb env h1 = some (y, h2) ∧ g x y h2 = some (d, h') := by
  unfold iOp at e
  obtain ⟨⟨x, h1⟩, e1, e⟩ := Option.bind_eq_some_iff.mp e
  obtain ⟨⟨y, h2⟩, e2, e⟩ := Option.bind_eq_some_iff.mp e
  exact ⟨x, h1, y, h2, e1, e2, e⟩
/-- an operation by values means g -/
def SndR (c : Ct) (r : R2) (g : D → D → IH → Option (D × IH)) : Prop :=
  ∀ (ι : List Addr) (h : IH) (H : Hp) (v u : V) (x y d : D) (h' : IH) (Q : VK), Sim c ι h H → Rep c ι H v x → Rep c ι H u y → g x y h = some (d, h') → Post c ι H h' d Q → r v u H Q
section
variable {X : Cx} {cls : Nat → Addr} {c : Ct} {σ : L2.St} {H : Hp} {Q : VK} {pos : Pos} {a b : Expr} {fa fb : IE} {r : R2} {g : D → D → IH → Option (D × IH)}
theorem snd_op (hs : SndR c r g) (q : tI c (iOp g fa fb) σ H Q) : tOp r (tI c fa) (tI c fb) σ H Q := by
  obtain ⟨ι, h, env, d, h', S, E, e, p⟩ := q
  obtain ⟨x, h1, y, h2, e1, e2, e3⟩ := iOp_some e
  refine ⟨ι, h, env, x, h1, S, E, e1, fun ι1 H1 v v1 S1 r1 => ⟨ι1, h1, env, y, h2, S1, E.mono v1, e2, fun ι2 H2 u v2 S2 r2 => ?_⟩⟩
  exact hs ι2 h2 H2 v u x y d h' Q S2 (r1.mono v2) r2 e3 (p.evo (v1.trans v2))
theorem ix_bin {op : Operator} (ho : OpR X (binaryOp op) r) (hs : SndR ⟨X.K, cls⟩ r g) (ha : IX X cls a fa) (hb : IX X cls b fb) : IX X cls (.BinOp a op b pos) (iOp g fa fb) := PE.imp (pe_op ho ha hb) fun _ _ _ q => snd_op hs q
theorem ix_cmp {op : CmpOp} (ho : OpR X (compareOp op) r) (hs : SndR ⟨X.K, cls⟩ r g) (hm : behindInMarks op b = false) (ha : IX X cls a fa) (hb : IX X cls b fb) : IX X cls (.Compare a [op] [b] pos) (iOp g fa fb) := PE.imp (pe_cmpR ho ha hb hm) fun _ _ _ q => snd_op hs q
end
end IL

/-! own layer, part 3: operators -/
namespace IL
open PySem PySem.Spec PyProof.Rows L2

section
variable {c : Ct} {ι : List Addr} {h : IH} {H : Hp} {Q : VK} {p a : Addr} {o : O} {u : HO} {vs : List V} {ds : List D}
theorem fin_new (S : Sim c ι h H) (hp : H p = none) (hO : OSim c (ι ++ [p]) (upd H p u) p o) (P : Post c ι H (h ++ [o]) (.loc h.length) Q) : Q (.ref p) (upd H p u) :=
  P (ι ++ [p]) (upd H p u) (.ref p) ((evo_new hp).trans (evo_push p)) ((S.new hp).push (S.fresh hp) hO) (.loc (by rw [← S.len]; simp))
theorem fin_lst (S : Sim c ι h H) (r : Reps c ι H vs ds) (P : Post c ι H (h ++ [.lst ds]) (.loc h.length) Q) (hp : H p = none) : Q (.ref p) (upd H p (.lst vs)) :=
  fin_new (o := .lst ds) S hp ⟨vs, upd_same, r.mono ((evo_new hp).trans (evo_push p))⟩ P
theorem fin_tup (S : Sim c ι h H) (r : Reps c ι H vs ds) (P : Post c ι H h (.tup ds) Q) (hp : H p = none) : Q (.ref p) (upd H p (.tup vs)) :=
  P ι (upd H p (.tup vs)) (.ref p) (evo_new hp) (S.new hp) (.tup upd_same (r.mono (evo_new hp)))
end

/-! ### arithmetic -/
def gInt (C : Int → Int → Bool) (f : Int → Int → D) : D → D → IH → Option (D × IH)
  | .int i, .int j, h => if C i j = true then some (f i j, h) else none
  | _, _, _ => none
theorem gInt_some {C : Int → Int → Bool} {f : Int → Int → D} {x y d : D} {h h' : IH} (e : gInt C f x y h = some (d, h')) : ∃ i j, x = .int i ∧ y = .int j ∧ C i j = true ∧ d = f i j ∧ h' = h := by
  cases x <;> cases y <;> first
    | (rename_i i j
       simp only [gInt] at e
       split at e
       · rename_i hc
         cases (Option.some.inj e)
         exact ⟨i, j, rfl, rfl, hc, rfl, rfl⟩
       · cases e)
    | (simp [gInt] at e)
theorem snd_int {c : Ct} {C : Int → Int → Bool} {C' : Int → Int → Prop} {f : Int → Int → Int} (hC : ∀ i j, C i j = true → C' i j) : SndR c (rI C' fun i j => .int (f i j)) (gInt C fun i j => .int (f i j)) := by
  intro ι h H v u x y d h' Q S rv ru e P
  obtain ⟨i, j, rfl, rfl, hc, rfl, rfl⟩ := gInt_some e
  cases rv.int_inv
  cases ru.int_inv
  exact ⟨i, j, rfl, rfl, hC _ _ hc, P.now S (.int _)⟩
theorem snd_int0 {c : Ct} {f : Int → Int → Int} : SndR c (rI0 fun i j => .int (f i j)) (gInt (fun _ _ => true) fun i j => .int (f i j)) := by
  intro ι h H v u x y d h' Q S rv ru e P
  obtain ⟨i, j, rfl, rfl, hc, rfl, rfl⟩ := gInt_some e
  cases rv.int_inv
  cases ru.int_inv
  exact ⟨i, j, rfl, rfl, P.now S (.int _)⟩
theorem snd_int0b {c : Ct} {f : Int → Int → Bool} : SndR c (rI0 fun i j => .bl (f i j)) (gInt (fun _ _ => true) fun i j => .bl (f i j)) := by
  intro ι h H v u x y d h' Q S rv ru e P
  obtain ⟨i, j, rfl, rfl, hc, rfl, rfl⟩ := gInt_some e
  cases rv.int_inv
  cases ru.int_inv
  exact ⟨i, j, rfl, rfl, P.now S (.bl _)⟩
abbrev gSub := gInt (fun _ _ => true) fun i j => .int (i - j)
abbrev gLt := gInt (fun _ _ => true) fun i j => .bl (decide (i < j))
abbrev gLe := gInt (fun _ _ => true) fun i j => .bl (decide (i ≤ j))
abbrev gGt := gInt (fun _ _ => true) fun i j => .bl (decide (j < i))
abbrev gGe := gInt (fun _ _ => true) fun i j => .bl (decide (j ≤ i))
abbrev cDiv (_ j : Int) : Bool := decide (0 < j) && decide (j.natAbs.log2 < 9000)
abbrev gDiv := gInt cDiv fun i j => .int (i / j)
abbrev cMod (_ j : Int) : Bool := decide (0 < j)
abbrev gMod := gInt cMod fun i j => .int (i % j)
abbrev cPow (i j : Int) : Bool := decide (0 ≤ j) && (decide (j ≤ 1000000) && decide (i.natAbs < 2 ^ 64))
abbrev gPow := gInt cPow fun i j => .int (i ^ j.toNat)
abbrev cMulW (i j : Int) : Bool := decide (i.natAbs.log2 + j.natAbs.log2 < 1000000)
abbrev gMulI := gInt cMulW fun i j => .int (i * j)
section
variable {X : Cx} {cls : Nat → Addr} {pos : Pos} {a b : Expr} {fa fb : IE}
theorem ix_sub (ha : IX X cls a fa) (hb : IX X cls b fb) : IX X cls (.BinOp a .Sub b pos) (iOp gSub fa fb) := ix_bin op_sub snd_int0 ha hb
theorem ix_fdiv (ha : IX X cls a fa) (hb : IX X cls b fb) : IX X cls (.BinOp a .FloorDiv b pos) (iOp gDiv fa fb) := ix_bin op_fdivW (snd_int fun i j h => by simpa [cDiv, CDivW] using h) ha hb
theorem ix_mod (ha : IX X cls a fa) (hb : IX X cls b fb) : IX X cls (.BinOp a .Mod b pos) (iOp gMod fa fb) := ix_bin op_mod (snd_int fun i j h => by simpa [cMod] using h) ha hb
theorem ix_pow (ha : IX X cls a fa) (hb : IX X cls b fb) : IX X cls (.BinOp a .Pow b pos) (iOp gPow fa fb) := ix_bin op_pow (snd_int fun i j h => by simpa [cPow, CPow] using h) ha hb
theorem ix_lt (hm : behindInMarks .Lt b = false) (ha : IX X cls a fa) (hb : IX X cls b fb) : IX X cls (.Compare a [.Lt] [b] pos) (iOp gLt fa fb) := ix_cmp op_lt snd_int0b hm ha hb
theorem ix_le (hm : behindInMarks .LtE b = false) (ha : IX X cls a fa) (hb : IX X cls b fb) : IX X cls (.Compare a [.LtE] [b] pos) (iOp gLe fa fb) := ix_cmp op_le snd_int0b hm ha hb
theorem ix_gt (hm : behindInMarks .Gt b = false) (ha : IX X cls a fa) (hb : IX X cls b fb) : IX X cls (.Compare a [.Gt] [b] pos) (iOp gGt fa fb) := ix_cmp op_gt snd_int0b hm ha hb
theorem ix_ge (hm : behindInMarks .GtE b = false) (ha : IX X cls a fa) (hb : IX X cls b fb) : IX X cls (.Compare a [.GtE] [b] pos) (iOp gGe fa fb) := ix_cmp op_ge snd_int0b hm ha hb
end

/-! ### + -/
def gAddS : D → D → IH → Option (D × IH)
  | .str x, .str y, h => if x.length + y.length ≤ sizeLine then some (.str (x ++ y), h) else none
  | _, _, _ => none
def gAddT : D → D → IH → Option (D × IH)
  | .tup xs, .tup ys, h => if xs.length + ys.length ≤ sizeLine then some (.tup (xs ++ ys), h) else none
  | .kt xs, .tup ys, h => if xs.length + ys.length ≤ sizeLine ∧ xs ≠ [] then some (if ys.isEmpty then .kt xs else .tup (xs ++ ys), h) else none
  | _, _, _ => none
def gAddL : D → D → IH → Option (D × IH)
  | .loc m, .loc n, h => match h[m]?, h[n]? with
    | some (.lst xs), some (.lst ys) => if xs.length + ys.length ≤ sizeLine then some (.loc h.length, h ++ [.lst (xs ++ ys)]) else none
    | _, _ => none
  | _, _, _ => none
def gAdd (x y : D) (h : IH) : Option (D × IH) := match x with
  | .int _ => gInt (fun _ _ => true) (fun i j => .int (i + j)) x y h
  | .str _ => gAddS x y h
  | .tup _ => gAddT x y h
  | .kt _ => gAddT x y h
  | .loc _ => gAddL x y h
  | _ => none
theorem snd_addS {c : Ct} : SndR c (fun x y H Q => ∃ i j, x = .str i ∧ y = .str j ∧ i.length + j.length ≤ sizeLine ∧ Q (.str (i ++ j)) H) gAddS := by
  intro ι h H v u x y d h' Q S rv ru e P
  cases x <;> cases y <;> first
    | (rename_i i j
       simp only [gAddS] at e
       split at e
       · rename_i hc
         cases (Option.some.inj e)
         exact ⟨i, j, rv.str_inv, ru.str_inv, hc, P.now S (.str _)⟩
       · cases e)
    | (simp [gAddS] at e)
theorem snd_addT {c : Ct} : SndR c (rCatA c.K) gAddT := by
  intro ι h H v u x y d h' Q S rv ru e P
  cases x <;> cases y <;> first
    | (rename_i xs ys
       simp only [gAddT] at e
       split at e
       · rename_i hc
         cases (Option.some.inj e)
         obtain ⟨a, vs, rfl, ha, ra⟩ := rv.tup_inv
         obtain ⟨b, us, rfl, hb, rb⟩ := ru.tup_inv
         refine ⟨a, b, vs, us, rfl, rfl, .of ha, .of hb, by rw [ra.length, rb.length]; exact hc, fun e0 => ?_, fun e1 e2 => ?_, fun e1 e2 p hp => ?_⟩
         · subst e0
           cases ra
           exact P.now S (.tup hb rb)
         · subst e2
           cases rb
           exact P.now S (.tup ha (by simpa using ra))
         · exact fin_tup S (ra.append rb) P hp
       · cases e)
    | (rename_i xs ys
       simp only [gAddT] at e
       split at e
       · rename_i hc
         cases (Option.some.inj e)
         obtain ⟨a, vs, rfl, ha, ra⟩ := rv.kt_inv
         obtain ⟨b, us, rfl, hb, rb⟩ := ru.tup_inv
         refine ⟨a, b, vs, us, rfl, rfl, ha.sq, .of hb, by rw [ra.length, rb.length]; exact hc.1, fun e0 => ?_, fun e1 e2 => ?_, fun e1 e2 p hp => ?_⟩
         · subst e0
           cases ra
           exact absurd rfl hc.2
         · subst e2
           cases rb
           exact P.now S (.kt ha ra)
         · cases ys with
           | nil => cases rb; exact absurd rfl e2
           | cons y ys => exact fin_tup S (ra.append rb) P hp
       · cases e)
    | (simp [gAddT] at e)
theorem snd_addL {c : Ct} : SndR c rCat gAddL := by
  intro ι h H v u x y d h' Q S rv ru e P
  cases x <;> cases y <;> first
    | (rename_i m n
       simp only [gAddL] at e
       split at e
       · rename_i xs ys e1 e2
         split at e
         · rename_i hc
           cases (Option.some.inj e)
           obtain ⟨a, rfl, ha⟩ := rv.loc_inv
           obtain ⟨b, rfl, hb⟩ := ru.loc_inv
           obtain ⟨vs, h1, ra⟩ := S.oat ha e1
           obtain ⟨us, h2, rb⟩ := S.oat hb e2
           exact ⟨a, b, vs, us, rfl, rfl, h1, h2, by rw [ra.length, rb.length]; exact hc, fun p hp => fin_lst S (ra.append rb) P hp⟩
         · cases e
       · cases e)
    | (simp [gAddL] at e)
theorem snd_add {c : Ct} : SndR c (fun x y H Q => (rI0 (fun i j => .int (i + j)) x y H Q ∨ (∃ i j, x = .str i ∧ y = .str j ∧ i.length + j.length ≤ sizeLine ∧ Q (.str (i ++ j)) H)) ∨ (rCatA c.K x y H Q ∨ rCat x y H Q)) gAdd := by
  intro ι h H v u x y d h' Q S rv ru e P
  cases x <;> simp only [gAdd] at e <;> first
    | exact .inl (.inl (snd_int0 ι h H v u _ y d h' Q S rv ru e P))
    | exact .inl (.inr (snd_addS ι h H v u _ y d h' Q S rv ru e P))
    | exact .inr (.inl (snd_addT ι h H v u _ y d h' Q S rv ru e P))
    | exact .inr (.inr (snd_addL ι h H v u _ y d h' Q S rv ru e P))
    | cases e
section
variable {X : Cx} {cls : Nat → Addr} {pos : Pos} {a b : Expr} {fa fb : IE}
theorem ix_add (ha : IX X cls a fa) (hb : IX X cls b fb) : IX X cls (.BinOp a .Add b pos) (iOp gAdd fa fb) :=
  ix_bin (.or (.or op_add op_add_str) (.or op_catA op_cat)) snd_add ha hb
end

/-! ### * : ints, a text so often, a list so often -/
def rMulS : R2 := fun x y H Q => ∃ (z : Str) (n : Int), x = .str z ∧ y = .int n ∧ 0 ≤ n ∧ n < 1000 ∧ z.length ≤ 1000 ∧ Q (.str ⟨(List.replicate n.toNat z.cps.toList).flatten.toArray⟩) H
theorem foldl_rep (n : Nat) (a b : Array Nat) : (List.replicate n a).foldl (· ++ ·) b = b ++ (List.replicate n a.toList).flatten.toArray := by
  induction n generalizing b with
  | zero => simp
  | succ n ih =>
    rw [List.replicate_succ, List.foldl_cons, ih, List.replicate_succ, List.flatten_cons]
    apply Array.ext'
    simp
theorem op_mulS {X : Cx} : OpR X (binaryOp .Mult) rMulS := by
  intro pins s σ H x y v u Q I rx ry h
  obtain ⟨z, n, rfl, rfl, h0, h1, h2, q⟩ := h
  obtain ⟨t, rfl⟩ := rx
  obtain ⟨t', rfl⟩ := ry
  have fin : ∀ k : Str, k = (⟨(List.replicate n.toNat z.cps.toList).flatten.toArray⟩ : Str) → EP X pins σ Q (.str k s.toks) { s with toks := s.toks + 1 } := fun k e => by
    subst e
    exact ⟨.str _, H, I.tok _, ⟨_, rfl⟩, q⟩
  refine P.mul_str (by
      have e1 : ¬ n < -(2 ^ 63 : Int) := by omega
      have e2 : ¬ n ≥ 2 ^ 63 := by omega
      rw [decide_eq_false e1, decide_eq_false e2]; rfl) (fun h3 _ => ?_) (fun h3 _ => ?_) ?_
  · have : (1000 : Int) ≤ (2 ^ 63 - 1) / n := by
      rw [Int.le_ediv_iff_mul_le (by omega)]
      omega
    have h2' : (z.length : Int) ≤ 1000 := by exact_mod_cast h2
    omega
  · have h4 : n.toNat ≤ 1000 := by omega
    have : z.length * n.toNat ≤ 1000 * 1000 := Nat.mul_le_mul h2 h4
    exact decide_eq_false (by unfold sizeLine; omega)
  · by_cases h3 : n < 1
    · rw [if_pos h3]
      have e0 : n.toNat = 0 := by omega
      exact ⟨by decide, fin _ (by rw [e0]; rfl)⟩
    · rw [if_neg h3]
      by_cases h4 : (n == 1 || z.length == 0) = true
      · rw [if_pos h4]
        refine ⟨.str _, H, I, ⟨t, rfl⟩, ?_⟩
        have e : z = (⟨(List.replicate n.toNat z.cps.toList).flatten.toArray⟩ : Str) := by
          rcases Bool.or_eq_true_iff.mp h4 with h5 | h5
          · have : n = 1 := by simpa using h5
            subst this
            cases z
            simp
          · have : z.length = 0 := by simpa using h5
            have e1 : z.cps = #[] := Array.eq_empty_of_size_eq_zero this
            cases z
            simp at e1
            subst e1
            simp
        rw [← e] at q
        exact q
      · rw [if_neg h4]
        refine ⟨?_, fin _ ?_⟩
        · have h4 : n.toNat ≤ 1000 := by omega
          have e3 : z.length * n.toNat ≤ 1000 * 1000 := Nat.mul_le_mul h2 h4
          rw [foldl_rep]
          have e4 : (#[] ++ (List.replicate n.toNat z.cps.toList).flatten.toArray).size = n.toNat * z.cps.size := by simp
          show (#[] ++ (List.replicate n.toNat z.cps.toList).flatten.toArray).size ≤ sizeLine
          rw [e4, Nat.mul_comm]
          exact Nat.le_trans e3 (by decide)
        · rw [foldl_rep]
          simp
end IL

/-! own layer, part 4: *, ==, in, is, subscripts, slices -/
namespace IL
open PySem PySem.Spec PyProof.Rows L2

/-! ### * -/
def gMulS : D → D → IH → Option (D × IH)
  | .str z, .int n, h => if (decide (0 ≤ n) && (decide (n < 1000) && decide (z.length ≤ 1000))) = true then some (.str ⟨(List.replicate n.toNat z.cps.toList).flatten.toArray⟩, h) else none
  | _, _, _ => none
def gMulL : D → D → IH → Option (D × IH)
  | .loc m, .int k, h => match h[m]? with
    | some (.lst xs) => if (decide (-(2 ^ 63) ≤ k) && (decide (k < 2 ^ 63) && decide (xs.length * k.toNat ≤ sizeLine))) = true then some (.loc h.length, h ++ [.lst (List.replicate k.toNat xs).flatten]) else none
    | _ => none
  | _, _, _ => none
def gMul (x y : D) (h : IH) : Option (D × IH) := match x with
  | .int _ => gMulI x y h
  | .str _ => gMulS x y h
  | .loc _ => gMulL x y h
  | _ => none
theorem Reps.rep {c : Ct} {ι : List Addr} {H : Hp} {vs : List V} {ds : List D} (r : Reps c ι H vs ds) : ∀ n : Nat, Reps c ι H (List.replicate n vs).flatten (List.replicate n ds).flatten
  | 0 => .nil
  | n + 1 => by
    rw [List.replicate_succ, List.replicate_succ, List.flatten_cons, List.flatten_cons]
    exact r.append (Reps.rep r n)
theorem snd_mul {c : Ct} : SndR c (fun x y H Q => rI CMulW (fun i j => .int (i * j)) x y H Q ∨ (rMulS x y H Q ∨ rRep x y H Q)) gMul := by
  intro ι h H v u x y d h' Q S rv ru e P
  cases x <;> simp only [gMul] at e
  case int i => exact .inl (snd_int (C := cMulW) (C' := CMulW) (fun i j h => by simpa [cMulW, CMulW] using h) ι h H v u _ y d h' Q S rv ru e P)
  case str z =>
    cases y <;> simp only [gMulS] at e <;> try (cases e; done)
    rename_i n
    split at e
    · rename_i hc
      simp only [Bool.and_eq_true, decide_eq_true_eq] at hc
      cases (Option.some.inj e)
      exact .inr (.inl ⟨z, n, rv.str_inv, ru.int_inv, hc.1, hc.2.1, hc.2.2, P.now S (.str _)⟩)
    · cases e
  case loc m =>
    cases y <;> simp only [gMulL] at e <;> try (cases e; done)
    rename_i k
    split at e
    · rename_i xs e1
      split at e
      · rename_i hc
        simp only [Bool.and_eq_true, decide_eq_true_eq] at hc
        cases (Option.some.inj e)
        obtain ⟨a, rfl, ha⟩ := rv.loc_inv
        obtain ⟨vs, h1, ra⟩ := S.oat ha e1
        exact .inr (.inr ⟨a, k, vs, rfl, ru.int_inv, h1, hc.1, hc.2.1, by rw [ra.length]; exact hc.2.2, fun p hp => fin_lst S (ra.rep _) P hp⟩)
      · cases e
    · cases e
  all_goals cases e
section
variable {X : Cx} {cls : Nat → Addr} {pos : Pos} {a b : Expr} {fa fb : IE}
theorem ix_mul (ha : IX X cls a fa) (hb : IX X cls b fb) : IX X cls (.BinOp a .Mult b pos) (iOp gMul fa fb) := ix_bin (.or op_mulW (.or op_mulS op_rep)) snd_mul ha hb
end

/-! ### == -/
mutual
def D.py : D → Option PyData
  | .non => some .none
  | .bl b => some (.bool b)
  | .int i => some (.int i)
  | .str x => some (.str x)
  | .tup xs => (D.pys xs).map .tuple
  | .kt xs => (D.pys xs).map .tuple
  | .sl xs => (D.pys xs).map .list
  | .loc _ => none
def D.pys : List D → Option (List PyData)
  | [] => some []
  | d :: ds => (D.py d).bind fun p => (D.pys ds).map fun ps => p :: ps
end
def pyH (h : IH) : D → Option PyData
  | .loc n => match h[n]? with
    | some (.lst xs) => (D.pys xs).map .list
    | _ => none
  | d => d.py
mutual
theorem Rep.dp {c : Ct} {ι : List Addr} {H : Hp} : ∀ {v : V} {d : D} {p : PyData}, Rep c ι H v d → d.py = some p → Dp c.K H v p
  | _, _, _, .non, e => by cases (Option.some.inj e); exact .non
  | _, _, _, .bl b, e => by cases (Option.some.inj e); exact .bl b
  | _, _, _, .int i, e => by cases (Option.some.inj e); exact .int i
  | _, _, _, .str x, e => by cases (Option.some.inj e); exact .str x
  | _, _, _, .tup h r, e => by
    simp only [D.py] at e
    obtain ⟨ps, e1, rfl⟩ := Option.map_eq_some_iff.mp e
    exact .tup (.of h) (Reps.dp r e1)
  | _, _, _, .kt h r, e => by
    simp only [D.py] at e
    obtain ⟨ps, e1, rfl⟩ := Option.map_eq_some_iff.mp e
    exact .tup h.sq (Reps.dp r e1)
  | _, _, _, .sl h r, e => by
    simp only [D.py] at e
    obtain ⟨ps, e1, rfl⟩ := Option.map_eq_some_iff.mp e
    exact .lst h.sq (Reps.dp r e1)
  | _, _, _, .loc h, e => by simp [D.py] at e
theorem Reps.dp {c : Ct} {ι : List Addr} {H : Hp} : ∀ {vs : List V} {ds : List D} {ps : List PyData}, Reps c ι H vs ds → D.pys ds = some ps → DpAll c.K H vs ps
  | _, _, _, .nil, e => by cases (Option.some.inj e); exact .nil
  | _, _, _, .cons h r, e => by
    simp only [D.pys] at e
    obtain ⟨p, e1, e2⟩ := Option.bind_eq_some_iff.mp e
    obtain ⟨ps, e3, rfl⟩ := Option.map_eq_some_iff.mp e2
    exact .cons (Rep.dp h e1) (Reps.dp r e3)
end
theorem pyH_dp {c : Ct} {ι : List Addr} {h : IH} {H : Hp} {v : V} {d : D} {p : PyData} (S : Sim c ι h H) (r : Rep c ι H v d) (e : pyH h d = some p) : Dp c.K H v p := by
  cases d <;> simp only [pyH] at e
  case loc n =>
    split at e
    · rename_i xs e1
      obtain ⟨ps, e2, rfl⟩ := Option.map_eq_some_iff.mp e
      obtain ⟨a, rfl, ha⟩ := r.loc_inv
      obtain ⟨vs, h1, ra⟩ := S.oat ha e1
      exact .lst (.of h1) (ra.dp e2)
    · cases e
  all_goals exact r.dp e
def laid (d : PyData) : Bool := d.canLay0 && decide (d.depth ≤ 400)
def rEqL (K : PySem.W.Frag) : R2 := fun x y H Q => ∃ d e, Dp K H x d ∧ Dp K H y e ∧ laid d = true ∧ laid e = true ∧ Q (.bl (PyData.eqv d e)) H
def rNeL (K : PySem.W.Frag) : R2 := fun x y H Q => ∃ d e, Dp K H x d ∧ Dp K H y e ∧ laid d = true ∧ laid e = true ∧ Q (.bl (!PyData.eqv d e)) H
theorem laid_room {A : Around} {d e : PyData} (h : laid d = true) (hu : A.units + 450 < cLine) : A.units + min d.depth e.depth < cLine := by
  have h1 : d.depth ≤ 400 := of_decide_eq_true (Bool.and_eq_true_iff.mp h).2
  have h2 : min d.depth e.depth ≤ d.depth := Nat.min_le_left _ _
  omega
theorem op_eqL {X : Cx} (hu : X.A.units + 450 < cLine) : OpR X (compareOp .Eq) (rEqL X.K) := by
  intro pins s σ H x y v u Q I rx ry h
  obtain ⟨d, e, hd, he, sd, se, q⟩ := h
  obtain ⟨as, r1⟩ := Dp.reads I d x v hd rx
  obtain ⟨bs, r2⟩ := Dp.reads I e y u he ry
  exact SeqAt.compareEq_reads r1 r2 (Bool.and_eq_true_iff.mp sd).1 (Bool.and_eq_true_iff.mp se).1 (laid_room sd hu) ⟨.bl _, H, I, rfl, q⟩
theorem op_neL {X : Cx} (hu : X.A.units + 450 < cLine) : OpR X (compareOp .NotEq) (rNeL X.K) := by
  intro pins s σ H x y v u Q I rx ry h
  obtain ⟨d, e, hd, he, sd, se, q⟩ := h
  obtain ⟨as, r1⟩ := Dp.reads I d x v hd rx
  obtain ⟨bs, r2⟩ := Dp.reads I e y u he ry
  exact SeqAt.compareNe_reads r1 r2 (Bool.and_eq_true_iff.mp sd).1 (Bool.and_eq_true_iff.mp se).1 (laid_room sd hu) ⟨.bl _, H, I, rfl, q⟩
/-- scalars alike: told at once -/
def eqS : D → D → Option Bool
  | .int i, .int j => some (decide (i = j))
  | .str i, .str j => some (decide (i = j))
  | .bl i, .bl j => some (decide (i = j))
  | .non, .non => some true
  | .int _, .str _ => some false
  | .str _, .int _ => some false
  | .non, .int _ => some false
  | .non, .str _ => some false
  | .int _, .non => some false
  | .str _, .non => some false
  | _, _ => none
def eqD (x y : D) (h : IH) : Option Bool := match eqS x y with
  | some b => some b
  | none => (pyH h x).bind fun p => (pyH h y).bind fun q => if (laid p && laid q) = true then some (PyData.eqv p q) else none
def gEq (x y : D) (h : IH) : Option (D × IH) := (eqD x y h).map fun b => (.bl b, h)
def gNe (x y : D) (h : IH) : Option (D × IH) := (eqD x y h).map fun b => (.bl (!b), h)
theorem eqS_ok {c : Ct} {ι : List Addr} {H : Hp} {v u : V} {x y : D} {b : Bool} (rv : Rep c ι H v x) (ru : Rep c ι H u y) (e : eqS x y = some b) : scal v u = true ∧ decide (v = u) = b := by
  cases x <;> cases y <;> simp only [eqS] at e <;> first
    | cases e
    | skip
  all_goals (cases rv; cases ru)
  all_goals first
    | (refine ⟨rfl, ?_⟩; simp; done)
theorem eqD_ok {c : Ct} {ι : List Addr} {h : IH} {H : Hp} {v u : V} {x y : D} {b : Bool} (S : Sim c ι h H) (rv : Rep c ι H v x) (ru : Rep c ι H u y) (e : eqD x y h = some b) :
    (scal v u = true ∧ decide (v = u) = b) ∨ ∃ p q, Dp c.K H v p ∧ Dp c.K H u q ∧ laid p = true ∧ laid q = true ∧ PyData.eqv p q = b := by
  unfold eqD at e
  split at e
  · rename_i b' e1
    cases e
    exact .inl (eqS_ok rv ru e1)
  · obtain ⟨p, e1, e⟩ := Option.bind_eq_some_iff.mp e
    obtain ⟨q, e2, e⟩ := Option.bind_eq_some_iff.mp e
    split at e
    · rename_i hl
      have hl := Bool.and_eq_true_iff.mp hl
      exact .inr ⟨p, q, pyH_dp S rv e1, pyH_dp S ru e2, hl.1, hl.2, Option.some.inj e⟩
    · cases e
theorem snd_eq {c : Ct} : SndR c (fun x y H Q => rEq x y H Q ∨ rEqL c.K x y H Q) gEq := by
  intro ι h H v u x y d h' Q S rv ru e P
  obtain ⟨b, e1, e2⟩ := Option.map_eq_some_iff.mp e
  cases e2
  rcases eqD_ok S rv ru e1 with ⟨h1, h2⟩ | ⟨p, q, h1, h2, h3, h4, h5⟩
  · exact .inl ⟨h1, by rw [h2]; exact P.now S (.bl _)⟩
  · exact .inr ⟨p, q, h1, h2, h3, h4, by rw [h5]; exact P.now S (.bl _)⟩
theorem snd_ne {c : Ct} : SndR c (fun x y H Q => rNe x y H Q ∨ rNeL c.K x y H Q) gNe := by
  intro ι h H v u x y d h' Q S rv ru e P
  obtain ⟨b, e1, e2⟩ := Option.map_eq_some_iff.mp e
  cases e2
  rcases eqD_ok S rv ru e1 with ⟨h1, h2⟩ | ⟨p, q, h1, h2, h3, h4, h5⟩
  · exact .inl ⟨h1, by rw [h2]; exact P.now S (.bl _)⟩
  · exact .inr ⟨p, q, h1, h2, h3, h4, by rw [h5]; exact P.now S (.bl _)⟩

/-! ### is -/
def gIs : D → D → IH → Option (D × IH)
  | .non, .non, h => some (.bl true, h)
  | _, .non, h => some (.bl false, h)
  | .bl a, .bl b, h => some (.bl (decide (a = b)), h)
  | _, _, _ => none
def gIsNot : D → D → IH → Option (D × IH)
  | .non, .non, h => some (.bl false, h)
  | _, .non, h => some (.bl true, h)
  | .bl a, .bl b, h => some (.bl (!decide (a = b)), h)
  | _, _, _ => none
theorem snd_is {c : Ct} : SndR c (fun x y H Q => (y = .non ∧ Q (.bl (decide (x = .non))) H) ∨ rIsB x y H Q) gIs := by
  intro ι h H v u x y d h' Q S rv ru e P
  cases y
  case non =>
    cases ru
    cases x <;> simp only [gIs] at e <;> cases e <;> cases rv <;> exact .inl ⟨rfl, P.now S (.bl _)⟩
  case bl b =>
    cases ru
    cases x <;> simp only [gIs] at e <;> cases e
    cases rv
    exact .inr ⟨_, _, rfl, rfl, P.now S (.bl _)⟩
  all_goals (cases x <;> simp [gIs] at e)
theorem snd_isNot {c : Ct} : SndR c (fun x y H Q => (y = .non ∧ Q (.bl (!decide (x = .non))) H) ∨ rNotB x y H Q) gIsNot := by
  intro ι h H v u x y d h' Q S rv ru e P
  cases y
  case non =>
    cases ru
    cases x <;> simp only [gIsNot] at e <;> cases e <;> cases rv <;> exact .inl ⟨rfl, P.now S (.bl _)⟩
  case bl b =>
    cases ru
    cases x <;> simp only [gIsNot] at e <;> cases e
    cases rv
    exact .inr ⟨_, _, rfl, rfl, P.now S (.bl _)⟩
  all_goals (cases x <;> simp [gIsNot] at e)
section
variable {X : Cx} {cls : Nat → Addr} {pos : Pos} {a b : Expr} {fa fb : IE}
theorem ix_eq (hu : X.A.units + 450 < cLine) (hm : behindInMarks .Eq b = false) (ha : IX X cls a fa) (hb : IX X cls b fb) : IX X cls (.Compare a [.Eq] [b] pos) (iOp gEq fa fb) := ix_cmp (.or op_eq (op_eqL hu)) snd_eq hm ha hb
theorem ix_ne (hu : X.A.units + 450 < cLine) (hm : behindInMarks .NotEq b = false) (ha : IX X cls a fa) (hb : IX X cls b fb) : IX X cls (.Compare a [.NotEq] [b] pos) (iOp gNe fa fb) := ix_cmp (.or op_ne (op_neL hu)) snd_ne hm ha hb
theorem ix_is (hm : behindInMarks .Is b = false) (ha : IX X cls a fa) (hb : IX X cls b fb) : IX X cls (.Compare a [.Is] [b] pos) (iOp gIs fa fb) := ix_cmp (.or op_isN op_isBl) snd_is hm ha hb
theorem ix_isNot (hm : behindInMarks .IsNot b = false) (ha : IX X cls a fa) (hb : IX X cls b fb) : IX X cls (.Compare a [.IsNot] [b] pos) (iOp gIsNot fa fb) := ix_cmp (.or op_notN op_notBl) snd_isNot hm ha hb
end
end IL

/-! own layer, part 5: in, subscripts, slices, displays, arguments, tests -/
namespace IL
open PySem PySem.Spec PyProof.Rows L2

/-! ### dicts -/
def keyD : D → Option Key
  | .int i => some (.inl i)
  | .str x => some (.inr x)
  | _ => none
def keysD : List D → Option (List Key)
  | [] => some []
  | d :: ds => (keyD d).bind fun k => (keysD ds).map fun ks => k :: ks
def valD {κ : Type} [DecidableEq κ] : List (κ × D) → κ → Option D
  | [], _ => none
  | (k', d) :: r, k => if k' = k then some d else valD r k
def putD {κ : Type} [DecidableEq κ] : List (κ × D) → κ → D → List (κ × D)
  | [], k, d => [(k, d)]
  | (k', d') :: r, k, d => if k' = k then (k', d) :: r else (k', d') :: putD r k d
section
variable {c : Ct} {ι : List Addr} {H : Hp} {κ : Type} [DecidableEq κ]
theorem keyD_ok {v : V} {d : D} {k : Key} (r : Rep c ι H v d) (e : keyD d = some k) : v = kV k := by
  cases d <;> simp only [keyD] at e <;> cases e <;> cases r <;> rfl
theorem keysD_ok : ∀ {vs : List V} {ds : List D} {ks : List Key}, Reps c ι H vs ds → keysD ds = some ks → vs = ks.map kV
  | _, _, _, .nil, e => by cases (Option.some.inj e); rfl
  | _, _, _, .cons r t, e => by
    simp only [keysD] at e
    obtain ⟨k, e1, e2⟩ := Option.bind_eq_some_iff.mp e
    obtain ⟨ks, e3, rfl⟩ := Option.map_eq_some_iff.mp e2
    rw [List.map_cons, keyD_ok r e1, keysD_ok t e3]
theorem Prs.val {k : κ} : ∀ {vs : List (κ × V)} {ds : List (κ × D)}, Prs c ι H vs ds → (∀ d, valD ds k = some d → ∃ v, valV vs k = some v ∧ Rep c ι H v d) ∧ (valD ds k = none → valV vs k = none)
  | _, _, .nil => ⟨fun d e => by simp [valD] at e, fun _ => rfl⟩
  | (k', v) :: vs, (_, d) :: ds, .cons r t => by
    by_cases h : k' = k
    · refine ⟨fun d' e => ?_, fun e => ?_⟩
      · simp only [valD, if_pos h] at e
        cases e
        exact ⟨v, valV_pos h, r⟩
      · simp only [valD, if_pos h] at e
        cases e
    · simp only [valD, if_neg h, valV_neg (p := (k', v)) h]
      exact Prs.val t
theorem Prs.any {k : κ} {vs : List (κ × V)} {ds : List (κ × D)} (r : Prs c ι H vs ds) : (vs.any fun kv => decide (kv.1 = k)) = (valD ds k).isSome := by
  rw [valV_any]
  cases e : valD ds k with
  | none => rw [r.val.2 e]; rfl
  | some d =>
    obtain ⟨v, e', _⟩ := r.val.1 d e
    rw [e']
    rfl
theorem putD_none {k : κ} {d : D} : ∀ {ds : List (κ × D)}, valD ds k = none → putD ds k d = ds ++ [(k, d)]
  | [], _ => rfl
  | (k', d') :: r, e => by
    by_cases h : k' = k
    · simp [valD, h] at e
    · simp only [valD, if_neg h] at e
      simp only [putD, if_neg h, putD_none e, List.cons_append]
theorem Prs.append : ∀ {vs us : List (κ × V)} {ds es : List (κ × D)}, Prs c ι H vs ds → Prs c ι H us es → Prs c ι H (vs ++ us) (ds ++ es)
  | _, _, _, _, .nil, s => s
  | _, _, _, _, .cons r t, s => .cons r (Prs.append t s)
theorem Prs.mapPut {k : κ} {v : V} {d : D} (r : Rep c ι H v d) : ∀ {vs : List (κ × V)} {ds : List (κ × D)}, Prs c ι H vs ds → (ds.map (·.1)).Nodup →
    (valD ds k).isSome = true → Prs c ι H (vs.map fun kv => if kv.1 = k then (kv.1, v) else kv) (putD ds k d)
  | _, _, .nil, _, e => by simp [valD] at e
  | (k', v') :: vs, (_, d') :: ds, .cons r' t, nd, e => by
    have nd' := List.nodup_cons.mp nd
    by_cases h : k' = k
    · simp only [List.map_cons, putD, if_pos h]
      refine .cons r ?_
      subst h
      have : ∀ {vs : List (κ × V)} {ds : List (κ × D)}, Prs c ι H vs ds → k' ∉ ds.map (·.1) → Prs c ι H (vs.map fun kv => if kv.1 = k' then (kv.1, v) else kv) ds := by
        intro vs ds q
        induction q with
        | nil => intro _; exact .nil
        | @cons k2 v2 d2 vs ds r2 t2 ih =>
          intro hn
          have hk : k2 ≠ k' := fun z => hn (by simp [z])
          rw [List.map_cons, if_neg hk]
          exact .cons r2 (ih fun z => hn (by simp at z ⊢; exact .inr z))
      exact this t nd'.1
    · simp only [List.map_cons, putD, if_neg h]
      refine .cons r' (Prs.mapPut r t nd'.2 ?_)
      simpa [valD, if_neg h] using e
/-- the keys are unlike: told by the list itself -/
def keysOk (ds : List (κ × D)) : Bool := decide (ds.map (·.1)).Nodup
theorem Prs.put {k : κ} {v : V} {d : D} (r : Rep c ι H v d) {vs : List (κ × V)} {ds : List (κ × D)} (t : Prs c ι H vs ds) (nd : keysOk ds = true) : Prs c ι H (putK vs k v) (putD ds k d) := by
  unfold putK
  rw [t.any]
  cases e : valD ds k with
  | none =>
    rw [if_neg (by simp), putD_none e]
    exact t.append (.cons r .nil)
  | some d' =>
    rw [if_pos (by simp)]
    exact t.mapPut r (of_decide_eq_true nd) (by rw [e]; rfl)
end

/-- what stands at a key -/
inductive Found where
  | at_ (d : D) | no
def dictAt (h : IH) (n : Nat) (y : D) : Option (Option D) := match h[n]? with
  | some (.dic kvs) => (keyD y).map fun k => valD kvs k
  | some (.dit kvs) => match y with
    | .tup ys => (keysD ys).map fun k => valD kvs k
    | _ => none
  | _ => none
theorem dictAt_ok {c : Ct} {ι : List Addr} {h : IH} {H : Hp} {n : Nat} {a : Addr} {u : V} {y : D} {o : Option D} (S : Sim c ι h H) (ha : ι[n]? = some a) (ru : Rep c ι H u y) (e : dictAt h n y = some o) :
    ∃ o', DGet H a u o' ∧ (∀ d, o = some d → ∃ v, o' = some v ∧ Rep c ι H v d) ∧ (o = none → o' = none) := by
  unfold dictAt at e
  split at e
  · rename_i kvs e1
    obtain ⟨k, e2, rfl⟩ := Option.map_eq_some_iff.mp e
    obtain ⟨vs, h1, r⟩ := S.oat ha e1
    cases keyD_ok ru e2
    exact ⟨_, DGet.k h1, fun d q => r.val.1 d q, fun q => r.val.2 q⟩
  · rename_i kvs e1
    split at e
    · rename_i ys
      obtain ⟨k, e2, rfl⟩ := Option.map_eq_some_iff.mp e
      obtain ⟨vs, h1, r⟩ := S.oat ha e1
      obtain ⟨b, us, rfl, hb, rb⟩ := ru.tup_inv
      cases keysD_ok rb e2
      exact ⟨_, DGet.t h1 hb, fun d q => r.val.1 d q, fun q => r.val.2 q⟩
    · cases e
  · cases e

/-! ### in -/
def flatD : D → Bool
  | .non => true | .bl _ => true | .int _ => true | .str _ => true
  | _ => false
def eqF : D → D → Bool
  | .non, .non => true
  | .bl a, .bl b => a == b
  | .bl a, .int b => (if a then 1 else 0) == b
  | .int a, .bl b => a == (if b then 1 else 0)
  | .int a, .int b => a == b
  | .str a, .str b => a == b
  | _, _ => false
def inD (x : D) (xs : List D) : Bool := xs.any fun y => eqF y x
theorem Rep.flat {c : Ct} {ι : List Addr} {H : Hp} {v : V} {d : D} (r : Rep c ι H v d) (f : flatD d = true) : flatV v = true := by
  cases d <;> simp only [flatD] at f <;> first
    | (cases r; rfl)
    | cases f
theorem Reps.flats {c : Ct} {ι : List Addr} {H : Hp} : ∀ {vs : List V} {ds : List D}, Reps c ι H vs ds → ds.all flatD = true → vs.all flatV = true
  | _, _, .nil, _ => rfl
  | _, _, .cons r t, f => by
    rw [List.all_cons, Bool.and_eq_true] at f ⊢
    exact ⟨r.flat f.1, Reps.flats t f.2⟩
theorem eqF_ok {c : Ct} {ι : List Addr} {H : Hp} {v u : V} {x y : D} (rv : Rep c ι H v x) (ru : Rep c ι H u y) (fx : flatD x = true) (fy : flatD y = true) : eqV v u = eqF x y := by
  cases x <;> simp only [flatD] at fx <;> try (cases fx; done)
  all_goals (cases y <;> simp only [flatD] at fy <;> try (cases fy; done))
  all_goals (cases rv; cases ru; rfl)
theorem inD_ok {c : Ct} {ι : List Addr} {H : Hp} {v : V} {x : D} (rv : Rep c ι H v x) (fx : flatD x = true) : ∀ {us : List V} {ys : List D}, Reps c ι H us ys → ys.all flatD = true → inV v us = inD x ys
  | _, _, .nil, _ => rfl
  | _, _, .cons r t, f => by
    rw [List.all_cons, Bool.and_eq_true] at f
    have := inD_ok rv fx t f.2
    simp only [inV, inD, List.any_cons] at this ⊢
    rw [this, eqF_ok r rv f.1 fx]
def seqD (h : IH) : D → Option (List D)
  | .tup xs => some xs
  | .kt xs => some xs
  | .sl xs => some xs
  | .loc n => match h[n]? with
    | some (.lst xs) => some xs
    | _ => none
  | _ => none
theorem seqD_ok {c : Ct} {ι : List Addr} {h : IH} {H : Hp} {u : V} {y : D} {ys : List D} (S : Sim c ι h H) (ru : Rep c ι H u y) (e : seqD h y = some ys) : ∃ a us, u = .ref a ∧ (SqL c.K H a us ∨ SqT c.K H a us) ∧ Reps c ι H us ys := by
  cases y <;> simp only [seqD] at e <;> try (cases e; done)
  case tup xs =>
    cases e
    obtain ⟨b, us, rfl, hb, rb⟩ := ru.tup_inv
    exact ⟨b, us, rfl, .inr (.of hb), rb⟩
  case kt xs =>
    cases e
    obtain ⟨b, us, rfl, hb, rb⟩ := ru.kt_inv
    exact ⟨b, us, rfl, .inr hb.sq, rb⟩
  case sl xs =>
    cases e
    obtain ⟨b, us, rfl, hb, rb⟩ := ru.sl_inv
    exact ⟨b, us, rfl, .inl hb.sq, rb⟩
  case loc n =>
    split at e
    · rename_i xs e1
      cases e
      obtain ⟨a, rfl, ha⟩ := ru.loc_inv
      obtain ⟨vs, h1, r⟩ := S.oat ha e1
      exact ⟨a, vs, rfl, .inl (.of h1), r⟩
    · cases e
/-- is x in y: none where this layer doesn't tell -/
def isIn (x y : D) (h : IH) : Option Bool := match y with
  | .str z => match x with
    | .str w => match w.cps.toList with
      | [k] => some (decide (k ∈ z.cps.toList))
      | _ => none
    | _ => none
  | .loc n => match h[n]? with
    | some (.lst xs) => if (flatD x && xs.all flatD) = true then some (inD x xs) else none
    | _ => (dictAt h n x).map Option.isSome
  | y => (seqD h y).bind fun xs => if (flatD x && xs.all flatD) = true then some (inD x xs) else none
def rInAny (K : PySem.W.Frag) (f : Bool → Bool) : R2 := fun x y H Q => (∃ (c : Nat) (z : Str), x = .str ⟨#[c]⟩ ∧ y = .str z ∧ Q (.bl (f (decide (c ∈ z.cps.toList)))) H) ∨
  (∃ p xs, y = .ref p ∧ (SqL K H p xs ∨ SqT K H p xs) ∧ flatV x = true ∧ xs.all flatV = true ∧ Q (.bl (f (inV x xs))) H) ∨ ∃ a o, y = .ref a ∧ DGet H a x o ∧ Q (.bl (f o.isSome)) H
theorem op_inAny {X : Cx} (hu : X.A.units + 1 < cLine) : OpR X (compareOp .In) (rInAny X.K id) := by
  intro pins s σ H x y v u Q I rx ry h
  rcases h with h | ⟨p, xs, e1, h1, h2, h3, q⟩ | ⟨a, o, e1, g, q⟩
  · exact op_inS pins s σ H x y v u Q I rx ry h
  · exact op_in_seq pins s σ H x y v u Q I rx ry ⟨p, xs, e1, h1, h2, h3, q⟩
  · subst e1
    cases (show u = Value.ref a from ry)
    exact d_in hu I g rx fun s3 I3 => ⟨.bl _, H, I3, rfl, q⟩
theorem op_notInAny {X : Cx} (hu : X.A.units + 1 < cLine) : OpR X (compareOp .NotIn) (rInAny X.K (!·)) := by
  intro pins s σ H x y v u Q I rx ry h
  rcases h with h | ⟨p, xs, e1, h1, h2, h3, q⟩ | ⟨a, o, e1, g, q⟩
  · exact op_notInS pins s σ H x y v u Q I rx ry h
  · exact op_notIn_seq pins s σ H x y v u Q I rx ry ⟨p, xs, e1, h1, h2, h3, q⟩
  · subst e1
    cases (show u = Value.ref a from ry)
    exact d_notIn hu I g rx fun s3 I3 => ⟨.bl _, H, I3, rfl, q⟩
def gIn (x y : D) (h : IH) : Option (D × IH) := (isIn x y h).map fun b => (.bl b, h)
def gNotIn (x y : D) (h : IH) : Option (D × IH) := (isIn x y h).map fun b => (.bl (!b), h)
theorem snd_inAny {c : Ct} {f : Bool → Bool} : SndR c (rInAny c.K f) (fun x y h => (isIn x y h).map fun b => (.bl (f b), h)) := by
  intro ι h H v u x y d h' Q S rv ru e P
  obtain ⟨b, e1, e2⟩ := Option.map_eq_some_iff.mp e
  cases e2
  have seq : ∀ ys, seqD h y = some ys → (if (flatD x && ys.all flatD) = true then some (inD x ys) else none) = some b → rInAny c.K f v u H Q := fun ys e3 e4 => by
    split at e4
    · rename_i hf
      have hf := Bool.and_eq_true_iff.mp hf
      cases e4
      obtain ⟨a, us, rfl, hq, r⟩ := seqD_ok S ru e3
      exact .inr (.inl ⟨a, us, rfl, hq, rv.flat hf.1, r.flats hf.2, by rw [inD_ok rv hf.1 r hf.2]; exact P.now S (.bl _)⟩)
    · cases e4
  cases y <;> simp only [isIn] at e1
  case str z =>
    split at e1
    · rename_i w
      split at e1
      · rename_i k hk
        cases e1
        cases rv
        cases ru
        have : w = ⟨#[k]⟩ := by
          cases w
          simp at hk ⊢
          exact Array.ext' (by simpa using hk)
        subst this
        exact .inl ⟨k, z, rfl, rfl, P.now S (.bl _)⟩
      · cases e1
    · cases e1
  case loc n =>
    split at e1
    · rename_i xs e2
      exact seq xs (by simp only [seqD, e2]) e1
    · obtain ⟨o, e3, rfl⟩ := Option.map_eq_some_iff.mp e1
      obtain ⟨a, rfl, ha⟩ := ru.loc_inv
      obtain ⟨o', g, h1, h2⟩ := dictAt_ok S ha rv e3
      refine .inr (.inr ⟨a, o', rfl, g, ?_⟩)
      cases o with
      | none => rw [h2 rfl]; exact P.now S (.bl _)
      | some d =>
        obtain ⟨w, rfl, _⟩ := h1 d rfl
        exact P.now S (.bl _)
  all_goals
    obtain ⟨ys, e2, e3⟩ := Option.bind_eq_some_iff.mp e1
    exact seq ys e2 e3
section
variable {X : Cx} {cls : Nat → Addr} {pos : Pos} {a b : Expr} {fa fb : IE}
theorem ix_in (hu : X.A.units + 450 < cLine) (hm : behindInMarks .In b = false) (ha : IX X cls a fa) (hb : IX X cls b fb) : IX X cls (.Compare a [.In] [b] pos) (iOp gIn fa fb) := ix_cmp (op_inAny (by omega)) (snd_inAny (f := id)) hm ha hb
theorem ix_notIn (hu : X.A.units + 450 < cLine) (hm : behindInMarks .NotIn b = false) (ha : IX X cls a fa) (hb : IX X cls b fb) : IX X cls (.Compare a [.NotIn] [b] pos) (iOp gNotIn fa fb) := ix_cmp (op_notInAny (by omega)) (snd_inAny (f := (!·))) hm ha hb
end

/-! ### subscripts -/
def ixSeq (xs : List D) (y : D) (h : IH) : Option (D × IH) := match y with
  | .int i => (atI xs i).map fun d => (d, h)
  | _ => none
def gIx (x y : D) (h : IH) : Option (D × IH) := match x with
  | .str z => match y with
    | .int i => if z.length ≤ sizeLine then (atI z.cps.toList i).map fun k => (.str ⟨#[k]⟩, h) else none
    | _ => none
  | x => match seqD h x with
    | some xs => ixSeq xs y h
    | none => match x with
      | .loc n => match dictAt h n y with
        | some (some d) => some (d, h)
        | _ => none
      | _ => none
theorem atI_map {c : Ct} {ι : List Addr} {H : Hp} {vs : List V} {ds : List D} {i : Int} {d : D} (r : Reps c ι H vs ds) (e : atI ds i = some d) : ∃ v, atI vs i = some v ∧ Rep c ι H v d := by
  unfold atI at e ⊢
  rw [r.length]
  obtain ⟨j, e1, e2⟩ := Option.bind_eq_some_iff.mp e
  obtain ⟨v, h1, h2⟩ := r.get e2
  exact ⟨v, by rw [e1]; exact h1, h2⟩
def rIxAny (K : PySem.W.Frag) : R2 := fun x y H Q => (rIxL K x y H Q ∨ rIxT K x y H Q) ∨ rIxS x y H Q ∨ ∃ a v, x = .ref a ∧ DGet H a y (some v) ∧ Q v H
theorem ix_any {X : Cx} (hu : X.A.units + 1 < cLine) : IxR X (rIxAny X.K) := by
  intro value slice pins s σ H x y v u Q I rx ry q hs
  rcases q with (q | q) | q | ⟨a, w, rfl, g, q⟩
  · exact ix_list value slice pins s σ H x y v u Q I rx ry q hs
  · exact ix_tup value slice pins s σ H x y v u Q I rx ry q hs
  · exact L2.ix_str value slice pins s σ H x y v u Q I rx ry q hs
  · cases rx
    exact tail_any (dict_typeIs I g) PySem.F.slot_dict_getitem.lookup (d_getItem hu I g ry fun w' s3 I3 rw' => ⟨w, H, I3, rw', q⟩) hs
theorem snd_ix {c : Ct} : SndR c (rIxAny c.K) gIx := by
  intro ι h H v u x y d h' Q S rv ru e P
  have seq : ∀ xs, seqD h x = some xs → ixSeq xs y h = some (d, h') → rIxAny c.K v u H Q := fun xs e1 e2 => by
    cases y <;> simp only [ixSeq] at e2 <;> try (cases e2; done)
    rename_i i
    obtain ⟨d', e3, e4⟩ := Option.map_eq_some_iff.mp e2
    cases e4
    obtain ⟨a, us, rfl, hq, r⟩ := seqD_ok S rv e1
    obtain ⟨w, e5, r5⟩ := atI_map r e3
    cases ru
    rcases hq with hq | hq
    · exact .inl (.inl ⟨a, us, i, w, rfl, rfl, hq, e5, P.now S r5⟩)
    · exact .inl (.inr ⟨a, us, i, w, rfl, rfl, hq, e5, P.now S r5⟩)
  cases x <;> simp only [gIx] at e
  case str z =>
    cases y <;> simp only at e <;> try (cases e; done)
    rename_i i
    split at e
    · rename_i hz
      obtain ⟨k, e3, e4⟩ := Option.map_eq_some_iff.mp e
      cases e4
      cases rv
      cases ru
      exact .inr (.inl ⟨z, i, k, rfl, rfl, hz, e3, P.now S (.str _)⟩)
    · cases e
  case loc n =>
    split at e
    · rename_i xs e1
      exact seq xs e1 e
    · split at e
      · rename_i d' e1
        cases e
        obtain ⟨a, rfl, ha⟩ := rv.loc_inv
        obtain ⟨o', g, h1, h2⟩ := dictAt_ok S ha ru e1
        obtain ⟨w, rfl, r⟩ := h1 _ rfl
        exact .inr (.inr ⟨a, w, rfl, g, P.now S r⟩)
      · cases e
  all_goals
    split at e
    · rename_i xs e1
      exact seq xs e1 e
    · cases e
section
variable {X : Cx} {cls : Nat → Addr} {pos : Pos} {a b : Expr} {fa fb : IE}
theorem ix_sub_ (hu : X.A.units + 450 < cLine) (hs : PlainIx b) (ha : IX X cls a fa) (hb : IX X cls b fb) : IX X cls (.Subscript a b pos) (iOp gIx fa fb) := PE.imp (pe_ix (ix_any (by omega)) ha hb hs) fun _ _ _ q => snd_op snd_ix q
end
end IL

/-! own layer, part 6: slices, displays, arguments, tests, attributes -/
namespace IL
open PySem PySem.Spec PyProof.Rows L2

/-! ### slices -/
abbrev IO := IEnv → IH → Option (Option Int × IH)
def tN (c : Ct) (f : IO) : TO := fun σ H Q => ∃ ι h env o h', Sim c ι h H ∧ EnvR c ι H σ env ∧ f env h = some (o, h') ∧ ∀ ι' H', Evo ι H ι' H' → Sim c ι' h' H' → Q o H'
theorem PO.imp {X : Cx} {e : Option Expr} {t t' : TO} (h : PO X e t) (k : ∀ σ H Q, t' σ H Q → t σ H Q) : PO X e t' := ⟨fun pins s σ H Q I q => h.run pins s σ H Q I (k σ H Q q)⟩
abbrev NX (X : Cx) (cls : Nat → Addr) (e : Option Expr) (f : IO) : Prop := PO X e (tN ⟨X.K, cls⟩ f)
def iNo : IO := fun _ h => some (none, h)
def iPart (f : IE) : IO := fun env h => (f env h).bind fun (d, h1) => match d with
  | .int i => some (some i, h1)
  | _ => none
section
variable {X : Cx} {cls : Nat → Addr} {pos : Pos} {a : Expr} {fa : IE}
theorem nx_no : NX X cls none iNo := PO.imp po_none fun σ H Q ⟨ι, h, env, o, h', S, E, e, p⟩ => by
  cases (Option.some.inj e)
  exact p ι H (Evo.refl _ _) S
theorem nx_part (ha : IX X cls a fa) : NX X cls (some a) (iPart fa) := PO.imp (po_some ha) fun σ H Q ⟨ι, h, env, o, h', S, E, e, p⟩ => by
  obtain ⟨⟨d, h1⟩, e1, e2⟩ := Option.bind_eq_some_iff.mp e
  refine ⟨ι, h, env, d, h1, S, E, e1, fun ι' H' v v1 S1 r => ?_⟩
  cases d <;> simp only at e2 <;> cases e2
  cases r
  exact ⟨_, rfl, p ι' H' v1 S1⟩
end
def cutD (xs : List D) (lo hi : Option Int) : List D := (xs.drop (HT.sIx xs.length 0 lo)).take (HT.sIx xs.length xs.length hi - HT.sIx xs.length 0 lo)
theorem Reps.cutV {c : Ct} {ι : List Addr} {H : Hp} {vs : List V} {ds : List D} (r : Reps c ι H vs ds) (lo hi : Option Int) : Reps c ι H (L2.cutV vs lo hi) (cutD ds lo hi) := by
  unfold L2.cutV cutD
  rw [r.length]
  exact (r.drop _).take _
def gSl (x : D) (lo hi : Option Int) (h : IH) : Option (D × IH) := match x with
  | .str z => if z.length ≤ sizeLine then some (.str (cutS z lo hi), h) else none
  | .tup xs => some (.tup (cutD xs lo hi), h)
  | .sl xs => some (.loc h.length, h ++ [.lst (cutD xs lo hi)])
  | .loc n => match h[n]? with
    | some (.lst xs) => some (.loc h.length, h ++ [.lst (cutD xs lo hi)])
    | _ => none
  | _ => none
def iSl (fa : IE) (fl fu : IO) : IE := fun env h => (fa env h).bind fun (x, h1) => (fl env h1).bind fun (l, h2) => (fu env h2).bind fun (u, h3) => gSl x l u h3
theorem snd_sl {c : Ct} {ι : List Addr} {h : IH} {H : Hp} {v : V} {x d : D} {lo hi : Option Int} {h' : IH} {Q : VK} (S : Sim c ι h H) (rv : Rep c ι H v x) (e : gSl x lo hi h = some (d, h')) (P : Post c ι H h' d Q) :
    (rSlA c.K v lo hi H Q ∨ rSlL c.K v lo hi H Q) ∨ rSlS v lo hi H Q := by
  cases x <;> simp only [gSl] at e <;> try (cases e; done)
  case str z =>
    split at e
    · rename_i hz
      cases e
      cases rv
      exact .inr ⟨z, rfl, hz, P.now S (.str _)⟩
    · cases e
  case tup xs =>
    cases e
    obtain ⟨a, vs, rfl, ha, r⟩ := rv.tup_inv
    refine .inl (.inl ⟨a, vs, rfl, .of ha, fun hw => ?_, fun _ p hp => fin_tup S (r.cutV lo hi) P hp⟩)
    have e1 : cutD xs lo hi = xs := by
      unfold cutD
      rw [← r.length, hw.1, hw.2]
      simp [r.length]
    rw [e1] at P
    exact P.now S (.tup ha r)
  case sl xs =>
    cases e
    obtain ⟨a, vs, rfl, ha, r⟩ := rv.sl_inv
    exact .inl (.inr ⟨a, vs, rfl, ha.sq, fun p hp => fin_lst S (r.cutV lo hi) P hp⟩)
  case loc n =>
    split at e
    · rename_i xs e1
      cases e
      obtain ⟨a, rfl, ha⟩ := rv.loc_inv
      obtain ⟨vs, h1, r⟩ := S.oat ha e1
      exact .inl (.inr ⟨a, vs, rfl, .of h1, fun p hp => fin_lst S (r.cutV lo hi) P hp⟩)
    · cases e
section
variable {X : Cx} {cls : Nat → Addr} {pos p2 : Pos} {a : Expr} {fa : IE} {lo hi : Option Expr} {fl fu : IO}
theorem ix_slice (ha : IX X cls a fa) (hl : NX X cls lo fl) (hu : NX X cls hi fu) : IX X cls (.Subscript a (.Slice lo hi none p2) pos) (iSl fa fl fu) := by
  refine PE.imp (pe_slice (.or (.or sl_tupA sl_list) sl_str) ha hl hu) fun σ H Q ⟨ι, h, env, d, h', S, E, e, p⟩ => ?_
  obtain ⟨⟨x, h1⟩, e1, e⟩ := Option.bind_eq_some_iff.mp e
  obtain ⟨⟨l, h2⟩, e2, e⟩ := Option.bind_eq_some_iff.mp e
  obtain ⟨⟨u, h3⟩, e3, e⟩ := Option.bind_eq_some_iff.mp e
  refine ⟨ι, h, env, x, h1, S, E, e1, fun ι1 H1 v v1 S1 r1 => ⟨ι1, h1, env, l, h2, S1, E.mono v1, e2, fun ι2 H2 v2 S2 => ⟨ι2, h2, env, u, h3, S2, E.mono (v1.trans v2), e3, fun ι3 H3 v3 S3 => ?_⟩⟩⟩
  exact snd_sl S3 (r1.mono (v2.trans v3)) e (p.evo (v1.trans (v2.trans v3)))
end

/-! ### arguments, displays -/
def iNil : IA := fun _ h => some ([], h)
def iCons (f : IE) (g : IA) : IA := fun env h => (f env h).bind fun (d, h1) => (g env h1).bind fun (ds, h2) => some (d :: ds, h2)
def iTup (g : IA) : IE := fun env h => (g env h).bind fun (ds, h1) => if ds.length ≤ sizeLine then some (.tup ds, h1) else none
def iLst (g : IA) : IE := fun env h => (g env h).bind fun (ds, h1) => if ds.length ≤ sizeLine then some (.loc h1.length, h1 ++ [.lst ds]) else none
section
variable {X : Cx} {cls : Nat → Addr} {pos : Pos} {e : Expr} {es : List Expr} {f : IE} {g : IA}
theorem kx_nil : KX X cls [] iNil := PA.imp pa_nil fun σ H Q ⟨ι, h, env, o, h', S, E, e, p⟩ => by
  cases (Option.some.inj e)
  exact p ι H [] (Evo.refl _ _) S .nil
theorem kx_cons (ha : IX X cls e f) (hr : KX X cls es g) (hs : starEach (e :: es) X.env = (false, eval e X.env) :: starEach es X.env := by rfl) : KX X cls (e :: es) (iCons f g) := by
  refine PA.imp (pa_cons ha hr hs) fun σ H Q ⟨ι, h, env, o, h', S, E, e, p⟩ => ?_
  obtain ⟨⟨d, h1⟩, e1, e⟩ := Option.bind_eq_some_iff.mp e
  obtain ⟨⟨ds, h2⟩, e2, e⟩ := Option.bind_eq_some_iff.mp e
  cases (Option.some.inj e)
  exact ⟨ι, h, env, d, h1, S, E, e1, fun ι1 H1 v v1 S1 r1 => ⟨ι1, h1, env, ds, _, S1, E.mono v1, e2, fun ι2 H2 vs v2 S2 r2 => p ι2 H2 _ (v1.trans v2) S2 (.cons (r1.mono v2) r2)⟩⟩
theorem ix_tup_ {x1} (h : KX X cls es g) : IX X cls (.Tuple es x1 pos) (iTup g) := by
  refine PE.imp (pe_tup h) fun σ H Q ⟨ι, h, env, d, h', S, E, e, p⟩ => ?_
  obtain ⟨⟨ds, h1⟩, e1, e⟩ := Option.bind_eq_some_iff.mp e
  refine ⟨ι, h, env, ds, h1, S, E, e1, fun ι1 H1 vs v1 S1 r1 => ?_⟩
  simp only at e
  split at e
  · rename_i hl
    cases (Option.some.inj e)
    exact ⟨by rw [r1.length]; exact hl, fun q hq => fin_tup S1 r1 (p.evo v1) hq⟩
  · cases e
theorem ix_lst_ (h : KX X cls es g) : IX X cls (.List es pos) (iLst g) := by
  refine PE.imp (pe_lst h) fun σ H Q ⟨ι, h, env, d, h', S, E, e, p⟩ => ?_
  obtain ⟨⟨ds, h1⟩, e1, e⟩ := Option.bind_eq_some_iff.mp e
  refine ⟨ι, h, env, ds, h1, S, E, e1, fun ι1 H1 vs v1 S1 r1 => ?_⟩
  simp only at e
  split at e
  · rename_i hl
    cases (Option.some.inj e)
    exact ⟨by rw [r1.length]; exact hl, fun q hq => fin_lst S1 r1 (p.evo v1) hq⟩
  · cases e
end
/-- {} of the two kinds -/
def iDicK : IE := fun _ h => some (.loc h.length, h ++ [.dic []])
def iDicT : IE := fun _ h => some (.loc h.length, h ++ [.dit []])
section
variable {X : Cx} {cls : Nat → Addr} {pos : Pos}
theorem ix_dicK : IX X cls (.Dict [] [] pos) iDicK := by
  refine PE.imp pe_dnewK fun σ H Q ⟨ι, h, env, d, h', S, E, e, p⟩ => ?_
  cases (Option.some.inj e)
  exact fun q hq => fin_new (o := .dic []) S hq ⟨[], upd_same, .nil⟩ p
theorem ix_dicT : IX X cls (.Dict [] [] pos) iDicT := by
  refine PE.imp pe_dnewT fun σ H Q ⟨ι, h, env, d, h', S, E, e, p⟩ => ?_
  cases (Option.some.inj e)
  exact fun q hq => fin_new (o := .dit []) S hq ⟨[], upd_same, .nil⟩ p
end
/-- the pairs of a display -/
abbrev IP2 := IEnv → IH → Option (List (D × D) × IH)
def iPNil : IP2 := fun _ h => some ([], h)
def iPCons (fk fv : IE) (g : IP2) : IP2 := fun env h => (fk env h).bind fun (k, h1) => (fv env h1).bind fun (d, h2) => (g env h2).bind fun (ds, h3) => some ((k, d) :: ds, h3)
inductive Pr2 (c : Ct) (ι : List Addr) (H : Hp) : List (V × V) → List (D × D) → Prop
  | nil : Pr2 c ι H [] []
  | cons {k v : V} {k' d : D} {vs : List (V × V)} {ds : List (D × D)} : Rep c ι H k k' → Rep c ι H v d → Pr2 c ι H vs ds → Pr2 c ι H ((k, v) :: vs) ((k', d) :: ds)
/-- a display's pairs mean g -/
structure DX (X : Cx) (cls : Nat → Addr) (pos : Pos) (keys : List (Option Expr)) (values : List Expr) (g : IP2) : Prop where
  ex : ∃ trs, PPs X pos keys values trs ∧ ∀ (ι : List Addr) (h : IH) (H : Hp) (σ : L2.St) (env : IEnv) (ds : List (D × D)) (h' : IH) (Q : List (V × V) → Hp → Prop), Sim ⟨X.K, cls⟩ ι h H → EnvR ⟨X.K, cls⟩ ι H σ env → g env h = some (ds, h') →
    (∀ ι' H' vs, Evo ι H ι' H' → Sim ⟨X.K, cls⟩ ι' h' H' → Pr2 ⟨X.K, cls⟩ ι' H' vs ds → Q vs H') → tPairs trs σ H Q
theorem dx_nil {X : Cx} {cls : Nat → Addr} {pos : Pos} : DX X cls pos [] [] iPNil := ⟨[], pps_nil, fun ι h H σ env ds h' Q S E e p => by
  cases (Option.some.inj e)
  exact p ι H [] (Evo.refl _ _) S .nil⟩
theorem dx_cons {X : Cx} {cls : Nat → Addr} {pos : Pos} {k v : Expr} {ks : List (Option Expr)} {vs : List Expr} {fk fv : IE} {g : IP2} (hk : IX X cls k fk) (hv : IX X cls v fv) (hr : DX X cls pos ks vs g) : DX X cls pos (some k :: ks) (v :: vs) (iPCons fk fv g) := by
  obtain ⟨trs, h1, h2⟩ := hr.ex
  refine ⟨_ :: trs, pps_cons hk hv h1, fun ι h H σ env ds h' Q S E e p => ?_⟩
  obtain ⟨⟨k', ha⟩, e1, e⟩ := Option.bind_eq_some_iff.mp e
  obtain ⟨⟨d, hb⟩, e2, e⟩ := Option.bind_eq_some_iff.mp e
  obtain ⟨⟨ds', hc⟩, e3, e⟩ := Option.bind_eq_some_iff.mp e
  cases (Option.some.inj e)
  refine ⟨ι, h, env, k', ha, S, E, e1, fun ι1 H1 v v1 S1 r1 => ⟨ι1, ha, env, d, hb, S1, E.mono v1, e2, fun ι2 H2 u v2 S2 r2 => ?_⟩⟩
  refine h2 ι2 hb H2 σ env ds' _ _ S2 (E.mono (v1.trans v2)) e3 fun ι3 H3 vs v3 S3 r3 => ?_
  exact p ι3 H3 _ (v1.trans (v2.trans v3)) S3 (.cons (r1.mono (v2.trans v3)) (r2.mono v3) r3)
def keyed : List (D × D) → Option (List (Key × D))
  | [] => some []
  | (k, d) :: r => (keyD k).bind fun k' => (keyed r).map fun r' => (k', d) :: r'
theorem keyed_ok {c : Ct} {ι : List Addr} {H : Hp} : ∀ {vs : List (V × V)} {ds : List (D × D)} {ks : List (Key × D)}, Pr2 c ι H vs ds → keyed ds = some ks → ∃ kvs : List (Key × V), vs = kvs.map (fun kv => (kV kv.1, kv.2)) ∧ Prs c ι H kvs ks
  | _, _, _, .nil, e => by cases (Option.some.inj e); exact ⟨[], rfl, .nil⟩
  | _, _, _, .cons rk rv t, e => by
    simp only [keyed] at e
    obtain ⟨k, e1, e2⟩ := Option.bind_eq_some_iff.mp e
    obtain ⟨ks, e3, rfl⟩ := Option.map_eq_some_iff.mp e2
    obtain ⟨kvs, rfl, r⟩ := keyed_ok t e3
    cases keyD_ok rk e1
    exact ⟨(k, _) :: kvs, rfl, .cons rv r⟩
theorem mergeK_app : ∀ (kvs acc : List (Key × V)), ((acc ++ kvs).map (·.1)).Nodup → mergeK acc kvs = acc ++ kvs
  | [], acc, _ => by simp [mergeK]
  | p :: r, acc, nd => by
    have e1 : putK acc p.1 p.2 = acc ++ [p] := by
      unfold putK
      rw [if_neg]
      intro h
      obtain ⟨q, hq, e⟩ := List.any_eq_true.mp h
      rw [List.map_append, List.nodup_append] at nd
      exact nd.2.2 q.1 (List.mem_map.mpr ⟨q, hq, rfl⟩) p.1 (by simp) (of_decide_eq_true e)
    show mergeK (putK acc p.1 p.2) r = _
    rw [e1, mergeK_app r (acc ++ [p]) (by simpa using nd)]
    simp
theorem Prs.keys {c : Ct} {ι : List Addr} {H : Hp} {κ : Type} : ∀ {vs : List (κ × V)} {ds : List (κ × D)}, Prs c ι H vs ds → vs.map (·.1) = ds.map (·.1)
  | _, _, .nil => rfl
  | _, _, .cons _ t => by simp [Prs.keys t]
def emptyAt (h : IH) (n : Nat) : Bool := match h[n]? with
  | some (.dic []) => true
  | _ => false
theorem emptyAt_ok {h : IH} {n : Nat} (e : emptyAt h n = true) : h[n]? = some (.dic []) := by
  unfold emptyAt at e
  split at e
  · assumption
  · cases e
def iDict (g : IP2) : IE := fun env h => (g env (h ++ [.dic []])).bind fun (ds, h1) => (keyed ds).bind fun kvs =>
  if (keysOk kvs && (decide (kvs.length ≤ 15) && emptyAt h1 h.length)) = true then some (.loc h.length, h1.set h.length (.dic kvs)) else none
theorem own_none {c : Ct} {ι : List Addr} {h : IH} {H : Hp} {n : Nat} {a : Addr} (S : Sim c ι h H) (ha : ι[n]? = some a) : ∀ x, H a ≠ some (.own x) := fun x e => by
  obtain ⟨u, e', m⟩ := S.mut ha
  rw [e] at e'; cases e'
  exact m
section
variable {X : Cx} {cls : Nat → Addr} {pos : Pos} {keys : List (Option Expr)} {values : List Expr} {g : IP2}
theorem ix_dict (hd : DX X cls pos keys values g) (hall : keys.all (·.isSome) = true) (hl : keys.length = values.length) (h0 : keys ≠ []) (h15 : keys.length ≤ 15) : IX X cls (.Dict keys values pos) (iDict g) := by
  obtain ⟨trs, h1, h2⟩ := hd.ex
  refine PE.imp (pe_disp h1 hall hl h0 h15) fun σ H Q ⟨ι, h, env, d, h', S, E, e, p⟩ q hq => ?_
  obtain ⟨⟨ds, ha⟩, e1, e⟩ := Option.bind_eq_some_iff.mp e
  obtain ⟨kvs, e2, e⟩ := Option.bind_eq_some_iff.mp e
  split at e
  · rename_i hc
    obtain ⟨c1, hc⟩ := Bool.and_eq_true_iff.mp hc
    obtain ⟨c2, c3⟩ := Bool.and_eq_true_iff.mp hc
    have c2 := of_decide_eq_true c2
    have c3 := emptyAt_ok c3
    cases (Option.some.inj e)
    have v0 : Evo ι H (ι ++ [q]) (upd H q (.dK [])) := (evo_new hq).trans (evo_push q)
    have S0 : Sim ⟨X.K, cls⟩ (ι ++ [q]) (h ++ [.dic []]) (upd H q (.dK [])) := (S.new hq).push (S.fresh hq) ⟨[], upd_same, .nil⟩
    refine h2 (ι ++ [q]) (h ++ [.dic []]) _ σ env ds ha _ S0 (E.mono v0) e1 fun ι1 H1 vs v1 S1 r1 => ?_
    obtain ⟨kvs', rfl, r2⟩ := keyed_ok r1 e2
    have hi : ι1[h.length]? = some q := v1.get (by rw [← S.len]; simp)
    obtain ⟨vs0, e4, r4⟩ := S1.oat hi c3
    cases r4
    refine ⟨e4, kvs', rfl, by rw [r2.length]; exact c2, ?_⟩
    rw [mergeK_app kvs' [] (by rw [List.nil_append, r2.keys]; exact of_decide_eq_true c1), List.nil_append]
    refine p ι1 _ _ (v0.trans (v1.trans (S1.evo_set hi))) (S1.set hi ⟨kvs', upd_same, ?_⟩ (own_none S1 hi)) (.loc hi)
    have vv : Evo ι1 H1 ι1 (upd H1 q (.dK kvs')) := S1.evo_set hi
    exact Prs.mono' (fun _ _ e => e) vv.tup vv.frz r2
  · cases e
end

/-! ### tests -/
def jVal (f : IE) : IT := fun env h => (f env h).bind fun (d, h1) => match d with
  | .bl b => some (b, h1)
  | _ => none
def jAnd (f g : IT) : IT := fun env h => (f env h).bind fun (b, h1) => if b = true then g env h1 else some (false, h1)
def jOr (f g : IT) : IT := fun env h => (f env h).bind fun (b, h1) => if b = true then some (true, h1) else g env h1
def jNot (f : IT) : IT := fun env h => (f env h).bind fun (b, h1) => some (!b, h1)
def iIf (t : IT) (f g : IE) : IE := fun env h => (t env h).bind fun (b, h1) => if b = true then f env h1 else g env h1
def iAnd (f g : IE) : IE := fun env h => (f env h).bind fun (d, h1) => match d with
  | .bl b => if b = true then g env h1 else some (.bl false, h1)
  | _ => none
def iOr (f g : IE) : IE := fun env h => (f env h).bind fun (d, h1) => match d with
  | .bl b => if b = true then some (.bl true, h1) else g env h1
  | _ => none
def iNot (f : IE) : IE := fun env h => (f env h).bind fun (d, h1) => match d with
  | .bl b => some (.bl (!b), h1)
  | _ => none
section
variable {X : Cx} {cls : Nat → Addr} {pos : Pos} {a b c : Expr} {rest : List Expr} {f g : IE} {s t : IT}
theorem tB_of {ct : Ct} {σ : L2.St} {H : Hp} {Q : Bool → Hp → Prop} (q : tJ ct (jVal f) σ H Q) : tB (tI ct f) σ H Q := by
  obtain ⟨ι, h, env, b, h', S, E, e, p⟩ := q
  obtain ⟨⟨d, h1⟩, e1, e⟩ := Option.bind_eq_some_iff.mp e
  refine ⟨ι, h, env, d, h1, S, E, e1, fun ι1 H1 v v1 S1 r1 => ?_⟩
  cases d <;> simp only at e <;> cases e
  cases r1
  exact ⟨_, rfl, p ι1 H1 v1 S1⟩
theorem jx_val (ha : IX X cls a f) (he : ∀ whole, isTrue a X.env whole = (do let v ← whole; standAt a.pos; holding [v] (truthy v))) : JX X cls a (jVal f) := PT.imp (pt_val ha he) fun _ _ _ q => tB_of q
theorem jx_cmp {op : CmpOp} {r : R2} {g : D → D → IH → Option (D × IH)} {fa fb : IE} (ho : OpR X (compareOp op) r) (hs : SndR ⟨X.K, cls⟩ r g) (hm : behindInMarks op b = false) (ha : IX X cls a fa) (hb : IX X cls b fb) : JX X cls (.Compare a [op] [b] pos) (jVal (iOp g fa fb)) := by
  refine PT.imp (pt_cmpR ho ha hb hm) fun σ H Q ⟨ι, h, env, b, h', S, E, e, p⟩ => ?_
  obtain ⟨⟨d, h1⟩, e1, e⟩ := Option.bind_eq_some_iff.mp e
  refine snd_op hs ⟨ι, h, env, d, h1, S, E, e1, fun ι1 H1 v v1 S1 r1 => ?_⟩
  cases d <;> simp only at e <;> cases e
  cases r1
  exact ⟨_, rfl, p ι1 H1 v1 S1⟩
theorem jx_not (ha : JX X cls a s) : JX X cls (.UnaryOp .Not a pos) (jNot s) := PT.imp (pt_not ha) fun σ H Q ⟨ι, h, env, b, h', S, E, e, p⟩ => by
  obtain ⟨⟨d, h1⟩, e1, e⟩ := Option.bind_eq_some_iff.mp e
  cases (Option.some.inj e)
  exact ⟨ι, h, env, d, _, S, E, e1, p⟩
theorem wx_and1 (ha : JX X cls a s) : WX' X cls (.BoolOp .And [a] pos) s := pw_and1 ha
theorem wx_or1 (ha : JX X cls a s) : WX' X cls (.BoolOp .Or [a] pos) s := pw_or1 ha
theorem wx_and (ha : JX X cls a s) (hb : WX' X cls (.BoolOp .And (b :: rest) pos) t) : WX' X cls (.BoolOp .And (a :: b :: rest) pos) (jAnd s t) := PW.imp (pw_and ha hb) fun σ H Q ⟨ι, h, env, b, h', S, E, e, p⟩ => by
  obtain ⟨⟨d, h1⟩, e1, e⟩ := Option.bind_eq_some_iff.mp e
  refine ⟨ι, h, env, d, h1, S, E, e1, fun ι1 H1 v1 S1 => ?_⟩
  cases d
  · cases (Option.some.inj e)
    exact p ι1 H1 v1 S1
  · exact ⟨ι1, h1, env, b, h', S1, E.mono v1, e, fun ι2 H2 v2 S2 => p ι2 H2 (v1.trans v2) S2⟩
theorem wx_or (ha : JX X cls a s) (hb : WX' X cls (.BoolOp .Or (b :: rest) pos) t) : WX' X cls (.BoolOp .Or (a :: b :: rest) pos) (jOr s t) := PW.imp (pw_or ha hb) fun σ H Q ⟨ι, h, env, b, h', S, E, e, p⟩ => by
  obtain ⟨⟨d, h1⟩, e1, e⟩ := Option.bind_eq_some_iff.mp e
  refine ⟨ι, h, env, d, h1, S, E, e1, fun ι1 H1 v1 S1 => ?_⟩
  cases d
  · exact ⟨ι1, h1, env, b, h', S1, E.mono v1, e, fun ι2 H2 v2 S2 => p ι2 H2 (v1.trans v2) S2⟩
  · cases (Option.some.inj e)
    exact p ι1 H1 v1 S1
theorem wx_pt {e : Expr} (h : WX' X cls e s) : JX X cls e s := PW.pt h
theorem ix_if {fa fb : IE} (hc : JX X cls c s) (ha : IX X cls a fa) (hb : IX X cls b fb) : IX X cls (.IfExp c a b pos) (iIf s fa fb) := PE.imp (pe_ifExp hc ha hb) fun σ H Q ⟨ι, h, env, b, h', S, E, e, p⟩ => by
  obtain ⟨⟨d, h1⟩, e1, e⟩ := Option.bind_eq_some_iff.mp e
  refine ⟨ι, h, env, d, h1, S, E, e1, fun ι1 H1 v1 S1 => ?_⟩
  cases d
  · exact ⟨ι1, h1, env, b, h', S1, E.mono v1, e, p.evo v1⟩
  · exact ⟨ι1, h1, env, b, h', S1, E.mono v1, e, p.evo v1⟩
theorem ix_one {op} (h : IX X cls a f) : IX X cls (.BoolOp op [a] pos) f := pe_one h
theorem ix_and (ha : IX X cls a f) (hb : IX X cls (.BoolOp .And (b :: rest) pos) g) : IX X cls (.BoolOp .And (a :: b :: rest) pos) (iAnd f g) := PE.imp (pe_and ha hb) fun σ H Q ⟨ι, h, env, d', h', S, E, e, p⟩ => by
  obtain ⟨⟨d, h1⟩, e1, e⟩ := Option.bind_eq_some_iff.mp e
  refine ⟨ι, h, env, d, h1, S, E, e1, fun ι1 H1 v v1 S1 r1 => ?_⟩
  cases d <;> simp only at e <;> try (cases e; done)
  rename_i k
  cases r1
  refine ⟨k, rfl, ?_⟩
  cases k
  · cases (Option.some.inj e)
    exact p ι1 H1 _ v1 S1 (.bl _)
  · exact ⟨ι1, h1, env, d', h', S1, E.mono v1, e, p.evo v1⟩
theorem ix_or (ha : IX X cls a f) (hb : IX X cls (.BoolOp .Or (b :: rest) pos) g) : IX X cls (.BoolOp .Or (a :: b :: rest) pos) (iOr f g) := PE.imp (pe_or ha hb) fun σ H Q ⟨ι, h, env, d', h', S, E, e, p⟩ => by
  obtain ⟨⟨d, h1⟩, e1, e⟩ := Option.bind_eq_some_iff.mp e
  refine ⟨ι, h, env, d, h1, S, E, e1, fun ι1 H1 v v1 S1 r1 => ?_⟩
  cases d <;> simp only at e <;> try (cases e; done)
  rename_i k
  cases r1
  refine ⟨k, rfl, ?_⟩
  cases k
  · exact ⟨ι1, h1, env, d', h', S1, E.mono v1, e, p.evo v1⟩
  · cases (Option.some.inj e)
    exact p ι1 H1 _ v1 S1 (.bl _)
theorem ix_not (ha : IX X cls a f) : IX X cls (.UnaryOp .Not a pos) (iNot f) := PE.imp (pe_not ha) fun σ H Q ⟨ι, h, env, d', h', S, E, e, p⟩ => by
  obtain ⟨⟨d, h1⟩, e1, e⟩ := Option.bind_eq_some_iff.mp e
  refine ⟨ι, h, env, d, h1, S, E, e1, fun ι1 H1 v v1 S1 r1 => ?_⟩
  cases d <;> simp only at e <;> cases e
  cases r1
  exact ⟨_, rfl, p ι1 H1 _ v1 S1 (.bl _)⟩
end

/-! ### unary minus, chains of comparisons -/
def iNeg (f : IE) : IE := fun env h => (f env h).bind fun (d, h1) => match d with
  | .int i => some (.int (-i), h1)
  | _ => none
def iChain (g g' : D → D → IH → Option (D × IH)) (fa fb fc : IE) : IE := fun env h => (fa env h).bind fun (x, h1) => (fb env h1).bind fun (y, h2) => (g x y h2).bind fun (z, h3) => match z with
  | .bl true => (fc env h3).bind fun (w, h4) => g' y w h4
  | .bl false => some (.bl false, h3)
  | _ => none
section
variable {X : Cx} {cls : Nat → Addr} {pos : Pos} {a b c : Expr} {f : IE}
theorem ix_neg (ha : IX X cls a f) : IX X cls (.UnaryOp .USub a pos) (iNeg f) := PE.imp (pe_un un_neg ha) fun σ H Q ⟨ι, h, env, d', h', S, E, e, p⟩ => by
  obtain ⟨⟨d, h1⟩, e1, e⟩ := Option.bind_eq_some_iff.mp e
  refine ⟨ι, h, env, d, h1, S, E, e1, fun ι1 H1 v v1 S1 r1 => ?_⟩
  cases d <;> simp only at e <;> cases e
  cases r1
  exact ⟨_, rfl, p ι1 H1 _ v1 S1 (.int _)⟩
theorem ix_chain {op op' : CmpOp} {r r' : R2} {g g' : D → D → IH → Option (D × IH)} {fa fb fc : IE} (ho : OpR X (compareOp op) r) (hs : SndR ⟨X.K, cls⟩ r g) (ho' : OpR X (compareOp op') r') (hs' : SndR ⟨X.K, cls⟩ r' g')
    (h : PE X (.Compare a [op, op'] [b, c] pos) (tChain r r' (tI ⟨X.K, cls⟩ fa) (tI ⟨X.K, cls⟩ fb) (tI ⟨X.K, cls⟩ fc))) : IX X cls (.Compare a [op, op'] [b, c] pos) (iChain g g' fa fb fc) := PE.imp h fun σ H Q ⟨ι, h, env, d', h', S, E, e, p⟩ => by
  obtain ⟨⟨x, h1⟩, e1, e⟩ := Option.bind_eq_some_iff.mp e
  obtain ⟨⟨y, h2⟩, e2, e⟩ := Option.bind_eq_some_iff.mp e
  obtain ⟨⟨z, h3⟩, e3, e⟩ := Option.bind_eq_some_iff.mp e
  refine ⟨ι, h, env, x, h1, S, E, e1, fun ι1 H1 v v1 S1 r1 => ⟨ι1, h1, env, y, h2, S1, E.mono v1, e2, fun ι2 H2 u v2 S2 r2 => ?_⟩⟩
  refine hs ι2 h2 H2 v u x y z h3 _ S2 (r1.mono v2) r2 e3 fun ι3 H3 w v3 S3 r3 => ?_
  cases z <;> simp only at e <;> try (cases e; done)
  rename_i k
  cases r3
  refine ⟨k, rfl, ?_⟩
  cases k
  · cases (Option.some.inj e)
    exact p ι3 H3 _ (v1.trans (v2.trans v3)) S3 (.bl _)
  · obtain ⟨⟨w, h4⟩, e4, e⟩ := Option.bind_eq_some_iff.mp e
    exact ⟨ι3, h3, env, w, h4, S3, E.mono (v1.trans (v2.trans v3)), e4, fun ι4 H4 w' v4 S4 r4 => hs' ι4 h4 H4 u w' y w d' h' Q S4 (r2.mono (v3.trans v4)) r4 e (p.evo (v1.trans (v2.trans (v3.trans v4))))⟩
end

/-! ### attributes -/
def putFD (f : Str) (d : D) : List (Str × D) → List (Str × D)
  | [] => [(f, d)]
  | (g, x) :: r => if g = f then (g, d) :: r else (g, x) :: putFD f d r
theorem Prs.look {c : Ct} {ι : List Addr} {H : Hp} {f : Str} : ∀ {vs : List (Str × V)} {ds : List (Str × D)}, Prs c ι H vs ds → (∀ d, ds.lookup f = some d → ∃ v, vs.lookup f = some v ∧ Rep c ι H v d) ∧ (ds.lookup f = none → vs.lookup f = none)
  | _, _, .nil => ⟨fun d e => by simp at e, fun _ => rfl⟩
  | _, _, .cons (k := k) (v := v) (d := d) r t => by
    simp only [List.lookup]
    split
    · exact ⟨fun d' e => by cases e; exact ⟨v, rfl, r⟩, fun e => by cases e⟩
    · exact Prs.look t
theorem Prs.putF {c : Ct} {ι : List Addr} {H : Hp} {f : Str} {v : V} {d : D} (r : Rep c ι H v d) : ∀ {vs : List (Str × V)} {ds : List (Str × D)}, Prs c ι H vs ds → Prs c ι H (L2.putF f v vs) (putFD f d ds)
  | _, _, .nil => .cons r .nil
  | _, _, .cons (k := k) r' t => by
    simp only [L2.putF, putFD]
    split
    · exact .cons r t
    · exact .cons r' (Prs.putF r t)
def insAt (k : Nat) (x : D) (h : IH) : Option (Nat × List (Str × D)) := match x with
  | .loc n => match h[n]? with
    | some (.ins k' fs) => if k' = k then some (n, fs) else none
    | _ => none
  | _ => none
theorem insAt_some {k : Nat} {x : D} {h : IH} {n : Nat} {fs : List (Str × D)} (e : insAt k x h = some (n, fs)) : x = .loc n ∧ h[n]? = some (.ins k fs) := by
  unfold insAt at e
  split at e
  · split at e
    · rename_i e2
      split at e
      · rename_i hk
        subst hk
        cases e
        exact ⟨rfl, e2⟩
      · cases e
    · cases e
  · cases e
def iFld (k : Nat) (f : Str) (o : IE) : IE := fun env h => (o env h).bind fun (x, h1) => (insAt k x h1).bind fun (_, fs) => (fs.lookup f).map fun d => (d, h1)
section
variable {X : Cx} {cls : Nat → Addr} {pos : Pos} {a : Expr} {fa : IE}
theorem ix_fld {k : Nat} {f : Str} (hc : Cls X.K (cls k)) (hn : NoAttr X.K (cls k) f) (ha : IX X cls a fa) (hb : attributeBase a f X.env (eval a X.env) = eval a X.env) : IX X cls (.Attribute a f pos) (iFld k f fa) := PE.imp (pe_fld ha hb) fun σ H Q ⟨ι, h, env, d', h', S, E, e, p⟩ => by
  obtain ⟨⟨x, h1⟩, e1, e⟩ := Option.bind_eq_some_iff.mp e
  obtain ⟨⟨n, fs⟩, e2, e⟩ := Option.bind_eq_some_iff.mp e
  obtain ⟨d, e3, e4⟩ := Option.map_eq_some_iff.mp e
  cases e4
  obtain ⟨rfl, e5⟩ := insAt_some e2
  refine ⟨ι, h, env, _, _, S, E, e1, fun ι1 H1 v v1 S1 r1 => ?_⟩
  obtain ⟨b, rfl, hb⟩ := r1.loc_inv
  obtain ⟨dx, vs, h1', _, r2⟩ := S1.oat hb e5
  obtain ⟨w, h3, r3⟩ := (r2.look (f := f)).1 _ e3
  exact ⟨b, _, dx, vs, w, rfl, h1', hc, hn, h3, p ι1 H1 w v1 S1 r3⟩
end
end IL

/-! own layer, part 7: calls -/
namespace IL
open PySem PySem.Spec PyProof.Rows L2

/-! ### defs of the text -/
/-- the promise of a def that means F -/
def spI (c : Ct) (n : Nat) (F : Fn) : Sp := fun vs H Q _ => vs.length = n ∧ ∃ ι h ds d h', Sim c ι h H ∧ Reps c ι H vs ds ∧ F ds h = some (d, h') ∧ Post c ι H h' d Q
def iCall (F : Fn) (g : IA) : IE := fun env h => (g env h).bind fun (ds, h1) => F ds h1
theorem snd_call {c : Ct} {F : Fn} {n : Nat} {g : IA} {E' : XK} {σ : L2.St} {H : Hp} {Q : VK} (hn : ∀ env h ds h', g env h = some (ds, h') → ds.length = n) (q : tI c (iCall F g) σ H Q) : tCall (spI c n F) [] E' (tK c g) σ H Q := by
  obtain ⟨ι, h, env, d, h', S, E, e, p⟩ := q
  obtain ⟨⟨ds, h1⟩, e1, e⟩ := Option.bind_eq_some_iff.mp e
  refine ⟨ι, h, env, ds, h1, S, E, e1, fun ι1 H1 vs v1 S1 r1 => ?_⟩
  show spI c n F (vs ++ []) H1 Q E'
  rw [List.append_nil]
  exact ⟨by rw [r1.length]; exact hn env h ds h1 e1, ι1, h1, ds, d, h', S1, r1, e, p.evo v1⟩
theorem iNil_len (env : IEnv) (h : IH) (ds : List D) (h' : IH) (e : iNil env h = some (ds, h')) : ds.length = 0 := by
  cases (Option.some.inj e); rfl
theorem iCons_len {f : IE} {g : IA} {n : Nat} (hg : ∀ env h ds h', g env h = some (ds, h') → ds.length = n) (env : IEnv) (h : IH) (ds : List D) (h' : IH) (e : iCons f g env h = some (ds, h')) : ds.length = n + 1 := by
  obtain ⟨⟨d, h1⟩, e1, e⟩ := Option.bind_eq_some_iff.mp e
  obtain ⟨⟨ds', h2⟩, e2, e⟩ := Option.bind_eq_some_iff.mp e
  cases (Option.some.inj e)
  simp [hg env h1 ds' _ e2]
section
variable {X : Cx} {cls : Nat → Addr} {CX : CXT} {k n : Nat} {f : Addr} {fd : FuncData} {ps : List Str} {F : Fn} {E : XK} {x : Str} {p pos apos : Pos} {e o : Expr} {es : List Expr} {g : IA} {fo : IE} {m : Str}
theorem ix_call (G : FnOk X.prog X.w X.K X.mg X.base CX k f fd ps (spI ⟨X.K, cls⟩ n F)) (hr : Room k X.A) (hg : Gl X x) (hm : X.mg x = some (.ref f)) (hk : PySem.W.keepIn X.K (.ref f) = true) (hb : Binds X.K fd ps []) (hx : Passes CX X E)
    (ha : KX X cls (e :: es) g) (hn : ∀ env h ds h', g env h = some (ds, h') → ds.length = n) (hdb : (x == ("__debug__" : Str)) = false) (he : starEach (e :: es) X.env = (false, eval e X.env) :: starEach es X.env) (hpl : (backTo pos (starEach es X.env)).any (·.1) = false) :
    IX X cls (.Call (.Name x p) (e :: es) [] pos) (iCall F g) := PE.imp (pe_call G hr hg hm hk hb .nil hx ha hdb he hpl) fun _ _ _ q => snd_call hn q
theorem ix_call0 (G : FnOk X.prog X.w X.K X.mg X.base CX k f fd ps (spI ⟨X.K, cls⟩ 0 F)) (hr : Room k X.A) (hg : Gl X x) (hm : X.mg x = some (.ref f)) (hk : PySem.W.keepIn X.K (.ref f) = true) (hb : Binds X.K fd ps []) (hx : Passes CX X E)
    (hdb : (x == ("__debug__" : Str)) = false) : IX X cls (.Call (.Name x p) [] [] pos) (iCall F iNil) := PE.imp (pe_call0 G hr hg hm hk hb .nil hx hdb) fun σ H Q ⟨ι, h, env, d, h', S, E, e, p⟩ => by
  exact ⟨rfl, ι, h, [], d, h', S, .nil, e, p⟩
/-- o.m(..): o is of class number j -/
def iMeth (j : Nat) (m : Str) (F : Fn) (fo : IE) (g : IA) : IE := fun env h => (fo env h).bind fun (x, h1) => (insAt j x h1).bind fun (_, fs) => if (fs.lookup m).isNone = true then (g env h1).bind fun (ds, h2) => F (x :: ds) h2 else none
theorem snd_meth {j : Nat} {E' : XK} {σ : L2.St} {H : Hp} {Q : VK} {c : Ct} (hn : ∀ env h ds h', g env h = some (ds, h') → ds.length = n) (q : tI c (iMeth j m F fo g) σ H Q) : tMeth (c.cls j) m (spI c (n + 1) F) [] E' (tI c fo) (tK c g) σ H Q := by
  obtain ⟨ι, h, env, d, h', S, E, e, p⟩ := q
  obtain ⟨⟨x, h1⟩, e1, e⟩ := Option.bind_eq_some_iff.mp e
  obtain ⟨⟨n', fs⟩, e2, e⟩ := Option.bind_eq_some_iff.mp e
  replace e : (if (fs.lookup m).isNone = true then (g env h1).bind (fun (ds, h2) => F (x :: ds) h2) else none) = some (d, h') := e
  split at e
  · rename_i hm
    obtain ⟨⟨ds, h2⟩, e3, e⟩ := Option.bind_eq_some_iff.mp e
    obtain ⟨rfl, e5⟩ := insAt_some e2
    refine ⟨ι, h, env, _, h1, S, E, e1, fun ι1 H1 v v1 S1 r1 => ?_⟩
    obtain ⟨b, rfl, hb⟩ := r1.loc_inv
    obtain ⟨dx, vs, h1', _, r2⟩ := S1.oat hb e5
    refine ⟨b, dx, vs, rfl, h1', (r2.look (f := m)).2 (by simpa using hm), ι1, h1, env, ds, h2, S1, E.mono v1, e3, fun ι2 H2 us v2 S2 r3 => ?_⟩
    show spI c (n + 1) F (V.ref b :: (us ++ [])) H2 Q E'
    rw [List.append_nil]
    exact ⟨by simp [r3.length, hn _ _ _ _ e3], ι2, h2, _, d, h', S2, .cons (r1.mono v2) r3, e, p.evo (v1.trans v2)⟩
  · cases e
theorem ix_meth {j : Nat} {pl : Sem Bool} (he : IX X cls o fo) (c : Cls X.K (cls j)) (hm : Meth X.K (cls j) m f) (G : FnOk X.prog X.w X.K X.mg X.base CX k f fd ps (spI ⟨X.K, cls⟩ (n + 1) F)) (hr : Room k X.A) (hb : Binds X.K fd ps []) (hx : Passes CX X E) (ha : KX X cls (e :: es) g)
    (hn : ∀ env h ds h', g env h = some (ds, h') → ds.length = n) (hst : starEach (e :: es) X.env = (false, eval e X.env) :: starEach es X.env) (hpl : (backTo pos (starEach es X.env)).any (·.1) = false)
    (ht : eval (.Call (.Attribute o m apos) (e :: es) [] pos) X.env = (do
      let ov ← eval o X.env
      standAt apos.atName
      let (f, first) ← holding [ov] (getMethod ov m pl)
      callWith pos f first (backTo pos (starEach (e :: es) X.env)) (backToKw pos (keywordEach [] X.env)))) :
    IX X cls (.Call (.Attribute o m apos) (e :: es) [] pos) (iMeth j m F fo g) := PE.imp (pe_meth he c hm G hr hb .nil hx ha hst hpl ht) fun _ _ _ q => snd_meth hn q
theorem ix_meth0 {j : Nat} {pl : Sem Bool} (he : IX X cls o fo) (c : Cls X.K (cls j)) (hm : Meth X.K (cls j) m f) (G : FnOk X.prog X.w X.K X.mg X.base CX k f fd ps (spI ⟨X.K, cls⟩ 1 F)) (hr : Room k X.A) (hb : Binds X.K fd ps []) (hx : Passes CX X E)
    (ht : eval (.Call (.Attribute o m apos) [] [] pos) X.env = (do
      let ov ← eval o X.env
      standAt apos.atName
      let (f, first) ← holding [ov] (getMethod ov m pl)
      callWith pos f first (backTo pos (starEach [] X.env)) (backToKw pos (keywordEach [] X.env)))) :
    IX X cls (.Call (.Attribute o m apos) [] [] pos) (iMeth j m F fo iNil) := PE.imp (pe_meth0 he c hm G hr hb .nil hx ht) fun σ H Q q => by
  obtain ⟨ι, h, env, d, h', S, E, e, p⟩ := q
  obtain ⟨⟨x, h1⟩, e1, e⟩ := Option.bind_eq_some_iff.mp e
  obtain ⟨⟨n', fs⟩, e2, e⟩ := Option.bind_eq_some_iff.mp e
  replace e : (if (fs.lookup m).isNone = true then (iNil env h1).bind (fun (ds, h2) => F (x :: ds) h2) else none) = some (d, h') := e
  split at e
  · rename_i hm
    obtain ⟨⟨ds, h2⟩, e3, e⟩ := Option.bind_eq_some_iff.mp e
    cases (Option.some.inj e3)
    obtain ⟨rfl, e5⟩ := insAt_some e2
    refine ⟨ι, h, env, _, _, S, E, e1, fun ι1 H1 v v1 S1 r1 => ?_⟩
    obtain ⟨b, rfl, hb⟩ := r1.loc_inv
    obtain ⟨dx, vs, h1', _, r2⟩ := S1.oat hb e5
    exact ⟨b, dx, vs, rfl, h1', (r2.look (f := m)).2 (by simpa using hm), rfl, ι1, _, _, d, h', S1, .cons r1 .nil, e, p.evo v1⟩
  · cases e
/-- C(..), C class number j with its own __init__, which means F -/
def iMake (j : Nat) (F : Fn) (g : IA) : IE := fun env h => (g env h).bind fun (ds, h1) => (F (.loc h1.length :: ds) (h1 ++ [.ins j []])).bind fun (d, h2) => match d with
  | .non => if h1.length < h2.length then some (.loc h1.length, h2) else none
  | _ => none
theorem ix_make {j : Nat} (M : Mk X.K (cls j) f) (G : FnOk X.prog X.w X.K X.mg X.base CX k f fd ps (spI ⟨X.K, cls⟩ (n + 1) F)) (hr : Room (k + 1) X.A) (hg : Gl X x) (hm : X.mg x = some (.ref (cls j))) (hb : Binds X.K fd ps []) (hx : Passes CX X E)
    (ha : KX X cls (e :: es) g) (hn : ∀ env h ds h', g env h = some (ds, h') → ds.length = n) (hdb : (x == ("__debug__" : Str)) = false) (he : starEach (e :: es) X.env = (false, eval e X.env) :: starEach es X.env) (hpl : (backTo pos (starEach es X.env)).any (·.1) = false) :
    IX X cls (.Call (.Name x p) (e :: es) [] pos) (iMake j F g) := PE.imp (pe_make M G hr hg hm hb .nil hx ha hdb he hpl) fun σ H Q q => by
  obtain ⟨ι, h, env, d, h', S, E, e, p⟩ := q
  obtain ⟨⟨ds, h1⟩, e1, e⟩ := Option.bind_eq_some_iff.mp e
  obtain ⟨⟨d2, h2⟩, e2, e⟩ := Option.bind_eq_some_iff.mp e
  refine ⟨ι, h, env, ds, h1, S, E, e1, fun ι1 H1 vs v1 S1 r1 => fun a dx na ndx nda => ?_⟩
  rw [List.append_nil]
  have hdx : ∀ (u : HO), (upd H1 dx u) a = none := fun u => by rw [upd_ne (Ne.symm nda)]; exact na
  have v2 : Evo ι1 H1 (ι1 ++ [a]) (upd (upd H1 dx (.own a)) a (.ins (cls j) dx [])) := (evo_new ndx).trans ((evo_new (hdx _)).trans (evo_push a))
  have S2 : Sim ⟨X.K, cls⟩ (ι1 ++ [a]) (h1 ++ [.ins j []]) (upd (upd H1 dx (.own a)) a (.ins (cls j) dx [])) :=
    ((S1.new ndx).new (hdx _)).push (S1.fresh na) ⟨dx, [], upd_same, by rw [upd_ne nda, upd_same], .nil⟩
  have ha : (ι1 ++ [a])[h1.length]? = some a := by rw [← S1.len]; simp
  refine ⟨by simp [r1.length, hn _ _ _ _ e1], ι1 ++ [a], _, _, d2, h2, S2, .cons (.loc ha) (r1.mono v2), e2, fun ι3 H3 v v3 S3 r3 => ?_⟩
  cases d2 <;> simp only at e <;> try (cases e; done)
  split at e
  · cases (Option.some.inj e)
    cases r3
    exact ⟨rfl, p ι3 H3 _ (v1.trans (v2.trans v3)) S3 (.loc (v3.get ha))⟩
  · cases e
end

/-! ### built-ins by values -/
abbrev GC := List D → IH → Option (D × IH)
def SndC (c : Ct) (r : List V → Hp → VK → Prop) (g : GC) : Prop :=
  ∀ (ι : List Addr) (h : IH) (H : Hp) (vs : List V) (ds : List D) (d : D) (h' : IH) (Q : VK), Sim c ι h H → Reps c ι H vs ds → g ds h = some (d, h') → Post c ι H h' d Q → r vs H Q
def iB (g : GC) (a : IA) : IE := fun env h => (a env h).bind fun (ds, h1) => g ds h1
theorem snd_B {c : Ct} {r : List V → Hp → VK → Prop} {g : GC} {a : IA} {σ : L2.St} {H : Hp} {Q : VK} (hs : SndC c r g) (q : tI c (iB g a) σ H Q) : tCB r (tK c a) σ H Q := by
  obtain ⟨ι, h, env, d, h', S, E, e, p⟩ := q
  obtain ⟨⟨ds, h1⟩, e1, e⟩ := Option.bind_eq_some_iff.mp e
  exact ⟨ι, h, env, ds, h1, S, E, e1, fun ι1 H1 vs v1 S1 r1 => hs ι1 h1 H1 vs ds d h' Q S1 r1 e (p.evo v1)⟩
section
variable {X : Cx} {cls : Nat → Addr} {x : Str} {p pos : Pos} {e : Expr} {es : List Expr} {a : IA} {id T : String} {r : List V → Hp → VK → Prop} {g : GC}
theorem ix_callB (hs : SndC ⟨X.K, cls⟩ r g) (hc : CallR X (.builtin id) r) (hg : Gl X x) (hm : X.mg x = none) (hv : bootBuiltins x = some (.builtin id)) (ha : KX X cls (e :: es) a) (hn : x ≠ "__name__") (hdb : (x == ("__debug__" : Str)) = false)
    (he : starEach (e :: es) X.env = (false, eval e X.env) :: starEach es X.env) (hpl : (backTo pos (starEach es X.env)).any (·.1) = false) : IX X cls (.Call (.Name x p) (e :: es) [] pos) (iB g a) := PE.imp (pe_callB hc hg hm hv ha hn hdb he hpl) fun _ _ _ q => snd_B hs q
theorem ix_callTy (hs : SndC ⟨X.K, cls⟩ r g) (hc : CallR X (.type T) r) (hg : Gl X x) (hm : X.mg x = none) (hv : bootBuiltins x = some (.type T)) (ha : KX X cls (e :: es) a) (hn : x ≠ "__name__") (hdb : (x == ("__debug__" : Str)) = false)
    (he : starEach (e :: es) X.env = (false, eval e X.env) :: starEach es X.env) (hpl : (backTo pos (starEach es X.env)).any (·.1) = false) : IX X cls (.Call (.Name x p) (e :: es) [] pos) (iB g a) := PE.imp (pe_callTy hc hg hm hv ha hn hdb he hpl) fun _ _ _ q => snd_B hs q
end
def one (f : D → IH → Option (D × IH)) : GC := fun ds h => match ds with
  | [d] => f d h
  | _ => none
def two (f : D → D → IH → Option (D × IH)) : GC := fun ds h => match ds with
  | [d, e] => f d e h
  | _ => none
theorem one_some {f : D → IH → Option (D × IH)} {ds : List D} {h : IH} {z : D × IH} (e : one f ds h = some z) : ∃ d, ds = [d] ∧ f d h = some z := by
  unfold one at e
  split at e
  · exact ⟨_, rfl, e⟩
  · cases e
theorem two_some {f : D → D → IH → Option (D × IH)} {ds : List D} {h : IH} {z : D × IH} (e : two f ds h = some z) : ∃ d d', ds = [d, d'] ∧ f d d' h = some z := by
  unfold two at e
  split at e
  · exact ⟨_, _, rfl, e⟩
  · cases e
theorem Reps.one_inv {c : Ct} {ι : List Addr} {H : Hp} {vs : List V} {d : D} (r : Reps c ι H vs [d]) : ∃ v, vs = [v] ∧ Rep c ι H v d := by
  cases r with
  | cons r t => cases t; exact ⟨_, rfl, r⟩
theorem Reps.two_inv {c : Ct} {ι : List Addr} {H : Hp} {vs : List V} {d e : D} (r : Reps c ι H vs [d, e]) : ∃ v u, vs = [v, u] ∧ Rep c ι H v d ∧ Rep c ι H u e := by
  cases r with
  | cons r t => cases t with
    | cons r' t' => cases t'; exact ⟨_, _, rfl, r, r'⟩
/-- len -/
def fLen (x : D) (h : IH) : Option (D × IH) := match x with
  | .str z => if z.length ≤ sizeLine then some (.int z.length, h) else none
  | x => match seqD h x with
    | some xs => some (.int xs.length, h)
    | none => match x with
      | .loc n => match h[n]? with
        | some (.dic kvs) => some (.int kvs.length, h)
        | some (.dit kvs) => some (.int kvs.length, h)
        | _ => none
      | _ => none
def gLen : GC := one fLen
def rLenAny (K : PySem.W.Frag) : List V → Hp → VK → Prop := fun xs H Q => ((∃ p ys, xs = [.ref p] ∧ (SqL K H p ys ∨ SqT K H p ys) ∧ Q (.int ys.length) H) ∨ (∃ z, xs = [.str z] ∧ z.length ≤ sizeLine ∧ Q (.int z.length) H)) ∨
  ((∃ a kvs, xs = [V.ref a] ∧ H a = some (.dK kvs) ∧ Q (.int kvs.length) H) ∨ rLenT xs H Q)
theorem cr_len {X : Cx} : CallR X (.builtin "len") (rLenAny X.K) := .or (.or call_len_seq call_len_str) (.or call_lenD call_len_dT)
theorem snd_len {c : Ct} : SndC c (rLenAny c.K) gLen := by
  intro ι h H vs ds d h' Q S r e P
  have e0 := one_some e
  clear e
  obtain ⟨x, rfl, e⟩ := e0
  obtain ⟨v, rfl, rv⟩ := r.one_inv
  have seq : ∀ xs, seqD h x = some xs → some (D.int xs.length, h) = some (d, h') → rLenAny c.K [v] H Q := fun xs e1 e2 => by
    cases e2
    obtain ⟨a, us, rfl, hq, r⟩ := seqD_ok S rv e1
    exact .inl (.inl ⟨a, us, rfl, hq, by rw [r.length]; exact P.now S (.int _)⟩)
  cases x <;> simp only [fLen] at e
  case str z =>
    split at e
    · rename_i hz
      cases e
      cases rv
      exact .inl (.inr ⟨z, rfl, hz, P.now S (.int _)⟩)
    · cases e
  case loc n =>
    split at e
    · rename_i xs e1
      exact seq xs e1 e
    · split at e
      · rename_i kvs e2
        cases e
        obtain ⟨a, rfl, ha⟩ := rv.loc_inv
        obtain ⟨us, h1, r⟩ := S.oat ha e2
        exact .inr (.inl ⟨a, us, rfl, h1, by rw [r.length]; exact P.now S (.int _)⟩)
      · rename_i kvs e2
        cases e
        obtain ⟨a, rfl, ha⟩ := rv.loc_inv
        obtain ⟨us, h1, r⟩ := S.oat ha e2
        exact .inr (.inr ⟨a, us, rfl, h1, by rw [r.length]; exact P.now S (.int _)⟩)
      · cases e
  all_goals
    split at e
    · rename_i xs e1
      exact seq xs e1 e
    · cases e
/-- max, min of two ints; abs; int of an int, a truth -/
def gMax2 : GC := two (gInt (fun _ _ => true) fun i j => .int (if j > i then j else i))
def gMin2 : GC := two (gInt (fun _ _ => true) fun i j => .int (if j < i then j else i))
theorem snd_max2 {c : Ct} : SndC c (fun xs H Q => ∃ i j, xs = [.int i, .int j] ∧ Q (.int (if j > i then j else i)) H) gMax2 := by
  intro ι h H vs ds d h' Q S r e P
  obtain ⟨x, y, rfl, e⟩ := two_some e
  obtain ⟨v, u, rfl, rv, ru⟩ := r.two_inv
  obtain ⟨i, j, rfl, rfl, _, rfl, rfl⟩ := gInt_some e
  cases rv; cases ru
  exact ⟨i, j, rfl, P.now S (.int _)⟩
theorem snd_min2 {c : Ct} : SndC c (fun xs H Q => ∃ i j, xs = [.int i, .int j] ∧ Q (.int (if j < i then j else i)) H) gMin2 := by
  intro ι h H vs ds d h' Q S r e P
  obtain ⟨x, y, rfl, e⟩ := two_some e
  obtain ⟨v, u, rfl, rv, ru⟩ := r.two_inv
  obtain ⟨i, j, rfl, rfl, _, rfl, rfl⟩ := gInt_some e
  cases rv; cases ru
  exact ⟨i, j, rfl, P.now S (.int _)⟩
def fIntOf (x : D) (h : IH) : Option (D × IH) := match x with
  | .int i => some (.int i, h)
  | .bl b => some (.int (if b then 1 else 0), h)
  | _ => none
def gIntOf : GC := one fIntOf
theorem snd_intOf {c : Ct} : SndC c (fun xs H Q => (∃ i, xs = [.int i] ∧ Q (.int i) H) ∨ ∃ k, xs = [.bl k] ∧ Q (.int (if k then 1 else 0)) H) gIntOf := by
  intro ι h H vs ds d h' Q S r e P
  have e0 := one_some e
  clear e
  obtain ⟨x, rfl, e⟩ := e0
  obtain ⟨v, rfl, rv⟩ := r.one_inv
  cases x <;> simp only [fIntOf] at e <;> cases e <;> cases rv
  · exact .inr ⟨_, rfl, P.now S (.int _)⟩
  · exact .inl ⟨_, rfl, P.now S (.int _)⟩
/-- tuple(x), list(x) -/
def fTupOf (x : D) (h : IH) : Option (D × IH) := match x with
  | .tup xs => some (.tup xs, h)
  | .kt xs => some (.kt xs, h)
  | .loc n => match h[n]? with
    | some (.lst xs) => some (.tup xs, h)
    | _ => none
  | _ => none
def gTupOf : GC := one fTupOf
theorem snd_tupOf {c : Ct} : SndC c (fun xs H Q => ∃ p ys, xs = [.ref p] ∧ ((SqL c.K H p ys ∧ ∀ l, H l = none → Q (.ref l) (upd H l (.tup ys))) ∨ (SqT c.K H p ys ∧ Q (.ref p) H))) gTupOf := by
  intro ι h H vs ds d h' Q S r e P
  have e0 := one_some e
  clear e
  obtain ⟨x, rfl, e⟩ := e0
  obtain ⟨v, rfl, rv⟩ := r.one_inv
  cases x <;> simp only [fTupOf] at e <;> try (cases e; done)
  case tup xs =>
    cases e
    obtain ⟨a, us, rfl, ha, ra⟩ := id rv.tup_inv
    exact ⟨a, us, rfl, .inr ⟨.of ha, P.now S rv⟩⟩
  case kt xs =>
    cases e
    obtain ⟨a, us, rfl, ha, ra⟩ := id rv.kt_inv
    exact ⟨a, us, rfl, .inr ⟨ha.sq, P.now S rv⟩⟩
  case loc n =>
    split at e
    · rename_i xs e1
      cases e
      obtain ⟨a, rfl, ha⟩ := rv.loc_inv
      obtain ⟨us, h1, r⟩ := S.oat ha e1
      exact ⟨a, us, rfl, .inl ⟨.of h1, fun l hl => fin_tup S r P hl⟩⟩
    · cases e
def gListOf : GC := one fun x h => (seqD h x).bind fun xs => some (.loc h.length, h ++ [.lst xs])
theorem snd_listOf {c : Ct} : SndC c (fun xs H Q => ∃ p ys, xs = [.ref p] ∧ (SqL c.K H p ys ∨ SqT c.K H p ys) ∧ ∀ l, H l = none → Q (.ref l) (upd H l (.lst ys))) gListOf := by
  intro ι h H vs ds d h' Q S r e P
  have e0 := one_some e
  clear e
  obtain ⟨x, rfl, e⟩ := e0
  obtain ⟨v, rfl, rv⟩ := r.one_inv
  obtain ⟨xs, e1, e⟩ := Option.bind_eq_some_iff.mp e
  cases (Option.some.inj e)
  obtain ⟨a, us, rfl, hq, r⟩ := seqD_ok S rv e1
  exact ⟨a, us, rfl, hq, fun l hl => fin_lst S r P hl⟩
/-- the ints, truths of a list -/
def intsD : List D → Option (List Int)
  | [] => some []
  | .int i :: r => (intsD r).map (i :: ·)
  | _ :: _ => none
def blsD : List D → Option (List Bool)
  | [] => some []
  | .bl i :: r => (blsD r).map (i :: ·)
  | _ :: _ => none
theorem intsD_ok : ∀ {ds : List D} {ns : List Int}, intsD ds = some ns → ds = ns.map D.int
  | [], _, e => by cases e; rfl
  | d :: ds, ns, e => by
    cases d <;> simp only [intsD] at e <;> try (cases e; done)
    obtain ⟨ms, e1, rfl⟩ := Option.map_eq_some_iff.mp e
    rw [intsD_ok e1, List.map_cons]
theorem blsD_ok : ∀ {ds : List D} {ns : List Bool}, blsD ds = some ns → ds = ns.map D.bl
  | [], _, e => by cases e; rfl
  | d :: ds, ns, e => by
    cases d <;> simp only [blsD] at e <;> try (cases e; done)
    obtain ⟨ms, e1, rfl⟩ := Option.map_eq_some_iff.mp e
    rw [blsD_ok e1, List.map_cons]
theorem intsD_map (ns : List Int) : intsD (ns.map D.int) = some ns := by
  induction ns with
  | nil => rfl
  | cons n ns ih => simp [intsD, ih]
theorem blsD_map (ns : List Bool) : blsD (ns.map D.bl) = some ns := by
  induction ns with
  | nil => rfl
  | cons n ns ih => simp [blsD, ih]
def lstD (h : IH) : D → Option (List D)
  | .loc n => match h[n]? with
    | some (.lst xs) => some xs
    | _ => none
  | .sl xs => some xs
  | _ => none
theorem lstD_ok {c : Ct} {ι : List Addr} {h : IH} {H : Hp} {u : V} {y : D} {ys : List D} (S : Sim c ι h H) (ru : Rep c ι H u y) (e : lstD h y = some ys) : ∃ a us, u = .ref a ∧ SqL c.K H a us ∧ Reps c ι H us ys := by
  cases y <;> simp only [lstD] at e <;> try (cases e; done)
  case sl xs =>
    cases e
    obtain ⟨b, us, rfl, hb, rb⟩ := ru.sl_inv
    exact ⟨b, us, rfl, hb.sq, rb⟩
  case loc n =>
    split at e
    · rename_i xs e1
      cases e
      obtain ⟨a, rfl, ha⟩ := ru.loc_inv
      obtain ⟨vs, h1, r⟩ := S.oat ha e1
      exact ⟨a, vs, rfl, .of h1, r⟩
    · cases e
def gSum : GC := one fun x h => (lstD h x).bind fun xs => (intsD xs).map fun ns => (.int ns.sum, h)
theorem snd_sum {c : Ct} : SndC c (rSum c.K) gSum := by
  intro ι h H vs ds d h' Q S r e P
  have e0 := one_some e
  clear e
  obtain ⟨x, rfl, e⟩ := e0
  obtain ⟨v, rfl, rv⟩ := r.one_inv
  obtain ⟨xs, e1, e⟩ := Option.bind_eq_some_iff.mp e
  obtain ⟨ns, e2, e3⟩ := Option.map_eq_some_iff.mp e
  cases e3
  obtain ⟨a, us, rfl, hq, r⟩ := lstD_ok S rv e1
  cases intsD_ok e2
  cases r.ints
  exact ⟨a, ns, rfl, hq, P.now S (.int _)⟩
def gAll : GC := one fun x h => (lstD h x).bind fun xs => (blsD xs).map fun ns => (.bl (ns.all id), h)
def gAny : GC := one fun x h => (lstD h x).bind fun xs => (blsD xs).map fun ns => (.bl (ns.any id), h)
theorem snd_all {c : Ct} : SndC c (rAll c.K) gAll := by
  intro ι h H vs ds d h' Q S r e P
  have e0 := one_some e
  clear e
  obtain ⟨x, rfl, e⟩ := e0
  obtain ⟨v, rfl, rv⟩ := r.one_inv
  obtain ⟨xs, e1, e⟩ := Option.bind_eq_some_iff.mp e
  obtain ⟨ns, e2, e3⟩ := Option.map_eq_some_iff.mp e
  cases e3
  obtain ⟨a, us, rfl, hq, r⟩ := lstD_ok S rv e1
  cases blsD_ok e2
  cases r.bls
  exact ⟨a, ns, rfl, hq, P.now S (.bl _)⟩
theorem snd_any {c : Ct} : SndC c (rAny c.K) gAny := by
  intro ι h H vs ds d h' Q S r e P
  have e0 := one_some e
  clear e
  obtain ⟨x, rfl, e⟩ := e0
  obtain ⟨v, rfl, rv⟩ := r.one_inv
  obtain ⟨xs, e1, e⟩ := Option.bind_eq_some_iff.mp e
  obtain ⟨ns, e2, e3⟩ := Option.map_eq_some_iff.mp e
  cases e3
  obtain ⟨a, us, rfl, hq, r⟩ := lstD_ok S rv e1
  cases blsD_ok e2
  cases r.bls
  exact ⟨a, ns, rfl, hq, P.now S (.bl _)⟩
end IL

/-! own layer, part 8: methods of built-ins -/
namespace IL
open PySem PySem.Spec PyProof.Rows L2

/-! ### list.extend of a tuple -/
theorem extend_tup_meets {l b : Addr} {items items2 : Array Value} {n n2 : Nat} {ob : Obj} (hc : ob.cls = .type "tuple") (hd : ob.data = .seq items2 n2)
    (hlong : ¬ (!items.isEmpty && Builtin.List.listTooLong (items.size + items2.size)) = true) (h1 : items.size ≤ sizeLine) (h2 : items.size + items2.size ≤ sizeLine + 1) :
    Meets (Builtin.«list.extend» ⟨[.ref l, .ref b], []⟩) (fun _ R s => s.heap.get? l = some { cls := .type "list", dict := none, data := .seq items n, slots := #[] } ∧ s.heap.get? b = some ob ∧
      R (.ok (.ret Value.none)) { s with heap := s.heap.update l (Obj.mapSeq fun x => x ++ items2), toks := s.toks }) :=
  .of_wp fun prog w A R s h => by
    obtain ⟨hl, hb, h⟩ := h
    unfold Builtin.«list.extend»
    refine wpAny_bind ?_
    show wpAny _ A.in1 (pure (Value.ref l, Value.ref b)) _ _ s
    refine wpAny_pure ?_
    show wpAny _ A.in1 (Builtin.List.listExtendWith (.ref l) (.ref b) .none) _ _ s
    unfold Builtin.List.listExtendWith
    refine wpAny_bind (wpAny_typeOf ⟨ob, hb, hc⟩ ?_)
    have e1 : (Builtin.List.listSameRef (.ref l) (.ref b) || Value.type "tuple" == Value.type "list" || Value.type "tuple" == Value.type "tuple") = true := by simp
    simp only [e1, if_true]
    refine wpAny_bind ?_
    unfold Builtin.List.listItems
    refine wpAny_bind (wpAny_seqItems hb hd (wpAny_pure ?_))
    refine wpAny_bind ?_
    refine wpAny_bind (wpAny_seqItems hl rfl (wpAny_pure ?_))
    rw [if_neg hlong]
    have hz' : (items ++ items2).size ≤ sizeLine + 1 := by rw [Array.size_append]; exact h2
    show wpAny _ A.in1 (updateSeq l (· ++ items2) >>= fun _ => ret .none) _ _ s
    refine wpAny_bind (wpAny_updateSeq hl rfl (hz := h1) (_hz' := hz') ?_)
    exact wpAny_pure ⟨_, rfl, h⟩
def rExtT (K : PySem.W.Frag) : V → List V → Hp → VK → Prop := fun x vs H Q => ∃ l b xs zs, x = .ref l ∧ vs = [.ref b] ∧ H l = some (.lst xs) ∧ SqT K H b zs ∧ xs.length + zs.length ≤ sizeLine ∧ Q .non (upd H l (.lst (xs ++ zs)))
theorem mt_extT {X : Cx} : MtM X "list.extend" (rExtT X.K) := by
  intro pins s σ H x vs v us Q I rx rv h
  obtain ⟨l, b, xs, zs, rfl, rfl, hH, hB, hz, q⟩ := h
  cases rx
  obtain ⟨u, rfl, ru⟩ := rv.one
  cases ru
  obtain ⟨z, its, n, r, hl, e⟩ := I.lstM hH
  obtain ⟨its2, r2, ⟨ob, hb, hc, n2, hd⟩, hz2⟩ := I.tuple hB
  have hl2 := r2.length
  have hsz : its.toArray.size + its2.toArray.size ≤ sizeLine := by rw [List.size_toArray, List.size_toArray]; omega
  have hlong : ¬ (!its.toArray.isEmpty && Builtin.List.listTooLong (its.toArray.size + its2.toArray.size)) = true := by
    rw [notLongL hsz, Bool.and_false]
    exact Bool.false_ne_true
  refine call_meets PySem.F.slot_list_extend ⟨_, e, rfl⟩ PySem.F.entry_list_extend (PySem.F.args_list_extend_2 _ _)
    (extend_tup_meets (n := n) hc hd hlong (by rw [List.size_toArray]; omega) (by omega)) ⟨e, hb, ?_⟩
  refine ⟨.non, _, I.lset (its' := its ++ its2) hH e (by simp) (r.append r2) ?_, rfl, q⟩
  rw [List.length_append]
  omega

/-! ### o.m(..) of built-ins -/
abbrev GM := D → List D → IH → Option (D × IH)
def SndM (c : Ct) (T : String) (r : V → List V → Hp → VK → Prop) (g : GM) : Prop :=
  ∀ (ι : List Addr) (h : IH) (H : Hp) (v : V) (vs : List V) (x d : D) (ds : List D) (h' : IH) (Q : VK), Sim c ι h H → Rep c ι H v x → Reps c ι H vs ds → g x ds h = some (d, h') → Post c ι H h' d Q → r v vs H Q
/-- the receiver is of the type -/
def isTy (T : String) (x : D) (h : IH) : Bool := match x with
  | .str _ => decide (T = "str")
  | .loc n => match h[n]? with
    | some (.lst _) => decide (T = "list")
    | some (.dic _) => decide (T = "dict")
    | some (.dit _) => decide (T = "dict")
    | _ => false
  | _ => false
theorem isTy_ok {c : Ct} {ι : List Addr} {h : IH} {H : Hp} {v : V} {x : D} {T : String} (S : Sim c ι h H) (r : Rep c ι H v x) (e : isTy T x h = true) : tyV c.K T v H := by
  cases x <;> simp only [isTy] at e <;> try (cases e; done)
  case str z =>
    cases r
    show T = "str"
    exact of_decide_eq_true e
  case loc n =>
    obtain ⟨a, rfl, ha⟩ := r.loc_inv
    split at e
    · rename_i xs e1
      obtain ⟨vs, h1, r⟩ := S.oat ha e1
      exact .inl ⟨of_decide_eq_true e, vs, .of h1⟩
    · rename_i xs e1
      obtain ⟨vs, h1, r⟩ := S.oat ha e1
      exact .inr (.inr (.inl ⟨of_decide_eq_true e, .inl ⟨vs, h1⟩⟩))
    · rename_i xs e1
      obtain ⟨vs, h1, r⟩ := S.oat ha e1
      exact .inr (.inr (.inl ⟨of_decide_eq_true e, .inr ⟨vs, h1⟩⟩))
    · cases e
def iBM (T : String) (g : GM) (fo : IE) (a : IA) : IE := fun env h => (fo env h).bind fun (x, h1) => if isTy T x h1 = true then (a env h1).bind fun (ds, h2) => g x ds h2 else none
section
variable {X : Cx} {cls : Nat → Addr} {o e : Expr} {es : List Expr} {name : Str} {apos cpos : Pos} {T id : String} {r : V → List V → Hp → VK → Prop} {g : GM} {fo : IE} {a : IA}
theorem snd_bm {c : Ct} {σ : L2.St} {H : Hp} {Q : VK} (hs : SndM c T r g) (q : tI c (iBM T g fo a) σ H Q) : tBM c.K T r (tI c fo) (tK c a) σ H Q := by
  obtain ⟨ι, h, env, d, h', S, E, e, p⟩ := q
  obtain ⟨⟨x, h1⟩, e1, e⟩ := Option.bind_eq_some_iff.mp e
  replace e : (if isTy T x h1 = true then (a env h1).bind (fun (ds, h2) => g x ds h2) else none) = some (d, h') := e
  split at e
  · rename_i ht
    obtain ⟨⟨ds, h2⟩, e2, e⟩ := Option.bind_eq_some_iff.mp e
    refine ⟨ι, h, env, x, h1, S, E, e1, fun ι1 H1 v v1 S1 r1 => ⟨isTy_ok S1 r1 ht, ι1, h1, env, ds, h2, S1, E.mono v1, e2, fun ι2 H2 vs v2 S2 r2 => ?_⟩⟩
    exact hs ι2 h2 H2 v vs x d ds h' Q S2 (r1.mono v2) r2 e (p.evo (v1.trans v2))
  · cases e
theorem ix_bm (hs : SndM ⟨X.K, cls⟩ T r g) (pa : PlainAttrs T) (slot : Slot T name id) (hty : typeOf (.builtin id) = pure (.type "method_descriptor")) (hm : MtR X id r) (ho : IX X cls o fo) (ha : KX X cls (e :: es) a)
    (hbase : attributeBase o name X.env (eval o X.env) = eval o X.env)
    (hfew : ((backTo cpos (starEach (e :: es) X.env)).all (fun x => !x.1) && (backToKw cpos (keywordEach [] X.env)).all (fun x => x.1.isSome)
      && decide ((e :: es).length + ([] : List Keyword).length + (if ([] : List Keyword).isEmpty then 0 else 1) < 30)) = true)
    (hline : (apos.endLine == cpos.line) = true) (hst : starEach (e :: es) X.env = (false, eval e X.env) :: starEach es X.env) (hplain : (backTo cpos (starEach es X.env)).any (·.1) = false) :
    IX X cls (.Call (.Attribute o name apos) (e :: es) [] cpos) (iBM T g fo a) := PE.imp (pe_bm pa slot hty hm ho ha hbase hfew hline hst hplain) fun _ _ _ q => snd_bm hs q
theorem ix_bm0 (hs : SndM ⟨X.K, cls⟩ T r g) (pa : PlainAttrs T) (slot : Slot T name id) (hty : typeOf (.builtin id) = pure (.type "method_descriptor")) (hm : MtR X id r) (ho : IX X cls o fo)
    (hbase : attributeBase o name X.env (eval o X.env) = eval o X.env) (hline : (apos.endLine == cpos.line) = true) : IX X cls (.Call (.Attribute o name apos) [] [] cpos) (iBM T g fo iNil) := PE.imp (pe_bm0 pa slot hty hm ho hbase hline) fun σ H Q q => by
  obtain ⟨ι, h, env, d, h', S, E, e, p⟩ := q
  obtain ⟨⟨x, h1⟩, e1, e⟩ := Option.bind_eq_some_iff.mp e
  replace e : (if isTy T x h1 = true then (iNil env h1).bind (fun (ds, h2) => g x ds h2) else none) = some (d, h') := e
  split at e
  · rename_i ht
    obtain ⟨⟨ds, h2⟩, e2, e⟩ := Option.bind_eq_some_iff.mp e
    cases (Option.some.inj e2)
    refine ⟨ι, h, env, x, _, S, E, e1, fun ι1 H1 v v1 S1 r1 => ⟨isTy_ok S1 r1 ht, ?_⟩⟩
    exact hs ι1 _ H1 v [] x d [] h' Q S1 r1 .nil e (p.evo v1)
  · cases e
end
section
variable {c : Ct}
theorem Post.write {ι : List Addr} {h : IH} {H : Hp} {n : Nat} {a : Addr} {o : O} {u : HO} {d : D} {v : V} {Q : VK} (P : Post c ι H (h.set n o) d Q) (S : Sim c ι h H) (ha : ι[n]? = some a) (hO : OSim c ι (upd H a u) a o) (r : Rep c ι H v d) : Q v (upd H a u) :=
  P ι (upd H a u) v (S.evo_set ha) (S.set ha hO (own_none S ha)) (S.rep_set ha r)
theorem OSim.lst' {ι : List Addr} {h : IH} {H : Hp} {n : Nat} {a : Addr} {vs : List V} {ds : List D} (S : Sim c ι h H) (ha : ι[n]? = some a) (r : Reps c ι H vs ds) : OSim c ι (upd H a (.lst vs)) a (.lst ds) := ⟨vs, upd_same, S.reps_set ha r⟩
def fLst (f : Nat → List D → IH → Option (D × IH)) (x : D) (h : IH) : Option (D × IH) := match x with
  | .loc n => match h[n]? with
    | some (.lst xs) => f n xs h
    | _ => none
  | _ => none
theorem fLst_some {f : Nat → List D → IH → Option (D × IH)} {x : D} {h : IH} {z : D × IH} (e : fLst f x h = some z) : ∃ n xs, x = .loc n ∧ h[n]? = some (.lst xs) ∧ f n xs h = some z := by
  unfold fLst at e
  split at e
  · split at e
    · rename_i e1
      exact ⟨_, _, rfl, e1, e⟩
    · cases e
  · cases e
def gAppend : GM := fun x ds => one (fun d => fLst (fun n xs h => if xs.length < sizeLine then some (.non, h.set n (.lst (xs ++ [d]))) else none) x) ds
theorem snd_append : SndM c "list" rAppend gAppend := by
  intro ι h H v vs x d ds h' Q S rv rs e P
  have e0 := one_some e
  clear e
  obtain ⟨y, rfl, e⟩ := e0
  obtain ⟨u, rfl, ru⟩ := rs.one_inv
  obtain ⟨n, xs, rfl, e1, e⟩ := fLst_some e
  split at e
  · rename_i hz
    cases (Option.some.inj e)
    obtain ⟨a, rfl, ha⟩ := rv.loc_inv
    obtain ⟨us, h1, r⟩ := S.oat ha e1
    exact ⟨a, us, u, rfl, rfl, h1, by rw [r.length]; exact hz, P.write S ha (.lst' S ha (r.append (.one ru))) .non⟩
  · cases e
def gExtend : GM := fun x ds => one (fun d => fLst (fun n xs h => match seqD h d with
  | some zs => match d with
    | .sl _ => none
    | _ => if xs.length + zs.length ≤ sizeLine then some (.non, h.set n (.lst (xs ++ zs))) else none
  | none => none) x) ds
theorem snd_extend : SndM c "list" (fun x vs H Q => rExtend x vs H Q ∨ rExtT c.K x vs H Q) gExtend := by
  intro ι h H v vs x d ds h' Q S rv rs e P
  have e0 := one_some e
  clear e
  obtain ⟨y, rfl, e⟩ := e0
  obtain ⟨u, rfl, ru⟩ := rs.one_inv
  obtain ⟨n, xs, rfl, e1, e⟩ := fLst_some e
  obtain ⟨a, rfl, ha⟩ := rv.loc_inv
  obtain ⟨us, h1, r⟩ := S.oat ha e1
  split at e
  · rename_i zs e2
    obtain ⟨b, ws, rfl, hq, rw'⟩ := seqD_ok S ru e2
    cases y <;> simp only at e <;> try (cases e; done)
    all_goals
      split at e
      · rename_i hz
        cases (Option.some.inj e)
        first
          | (obtain ⟨b', ws', eb, hb, rb⟩ := ru.tup_inv
             cases eb
             cases (Option.some.inj e2)
             exact .inr ⟨a, b, us, ws', rfl, rfl, h1, .of hb, by rw [r.length, rb.length]; exact hz, P.write S ha (.lst' S ha (r.append rb)) .non⟩)
          | (obtain ⟨b', ws', eb, hb, rb⟩ := ru.kt_inv
             cases eb
             cases (Option.some.inj e2)
             exact .inr ⟨a, b, us, ws', rfl, rfl, h1, hb.sq, by rw [r.length, rb.length]; exact hz, P.write S ha (.lst' S ha (r.append rb)) .non⟩)
          | (obtain ⟨b', eb, hb⟩ := ru.loc_inv
             cases eb
             simp only [seqD] at e2
             split at e2
             · rename_i e3
               cases (Option.some.inj e2)
               obtain ⟨ws', h3, rb⟩ := S.oat hb e3
               exact .inl ⟨a, b, us, ws', rfl, rfl, h1, h3, by rw [r.length, rb.length]; exact hz, P.write S ha (.lst' S ha (r.append rb)) .non⟩
             · cases e2)
          | (simp [seqD] at e2)
      · cases e
  · cases e
theorem Reps.getLast {ι : List Addr} {H : Hp} {vs : List V} {ds : List D} {d : D} (r : Reps c ι H vs ds) (e : ds[ds.length - 1]? = some d) : ∃ v, vs[vs.length - 1]? = some v ∧ Rep c ι H v d := by
  rw [r.length]; exact r.get e
def gPop : GM := fun x ds h => match ds with
  | [] => fLst (fun n xs h => (xs[xs.length - 1]?).map fun d => (d, h.set n (.lst xs.dropLast))) x h
  | _ => none
theorem snd_pop : SndM c "list" rPop gPop := by
  intro ι h H v vs x d ds h' Q S rv rs e P
  unfold gPop at e
  split at e
  · cases rs
    obtain ⟨n, xs, rfl, e1, e⟩ := fLst_some e
    obtain ⟨d', e2, e3⟩ := Option.map_eq_some_iff.mp e
    cases e3
    obtain ⟨a, rfl, ha⟩ := rv.loc_inv
    obtain ⟨us, h1, r⟩ := S.oat ha e1
    obtain ⟨w, h2, rw'⟩ := r.getLast e2
    exact ⟨a, us, w, rfl, rfl, h1, h2, P.write S ha (.lst' S ha r.dropLast) rw'⟩
  · cases e
/-- the place of the first item that equals -/
def firstAt (y : D) : List D → Option Nat
  | [] => none
  | d :: ds => if eqF d y = true then some 0 else (firstAt y ds).map (· + 1)
theorem firstAt_ok {y : D} : ∀ {ds : List D} {j : Nat}, firstAt y ds = some j → ∃ d, ds[j]? = some d ∧ eqF d y = true ∧ ∀ (m : Nat) d', m < j → ds[m]? = some d' → eqF d' y = false
  | [], _, e => by cases e
  | d :: ds, j, e => by
    simp only [firstAt] at e
    split at e
    · rename_i hd
      cases e
      exact ⟨d, rfl, hd, fun m d' hm => absurd hm (Nat.not_lt_zero _)⟩
    · rename_i hd
      obtain ⟨k, e1, rfl⟩ := Option.map_eq_some_iff.mp e
      obtain ⟨d', h1, h2, h3⟩ := firstAt_ok e1
      refine ⟨d', by simpa using h1, h2, fun m d2 hm hd2 => ?_⟩
      cases m with
      | zero =>
        have : d = d2 := by simpa using hd2
        rw [← this]
        exact Bool.eq_false_iff.mpr hd
      | succ m => exact h3 m d2 (by omega) (by simpa using hd2)
def gIndex : GM := fun x ds => one (fun y h => (lstD h x).bind fun xs => if (flatD y && xs.all flatD) = true then (firstAt y xs).map fun j => (.int (j : Nat), h) else none) ds
theorem snd_index : SndM c "list" (rIndex c.K) gIndex := by
  intro ι h H v vs x d ds h' Q S rv rs e P
  have e0 := one_some e
  clear e
  obtain ⟨y, rfl, e⟩ := e0
  obtain ⟨u, rfl, ru⟩ := rs.one_inv
  obtain ⟨xs, e1, e⟩ := Option.bind_eq_some_iff.mp e
  split at e
  · rename_i hf
    have hf := Bool.and_eq_true_iff.mp hf
    obtain ⟨j, e2, e3⟩ := Option.map_eq_some_iff.mp e
    cases e3
    obtain ⟨a, us, rfl, hq, r⟩ := lstD_ok S rv e1
    obtain ⟨d', h1, h2, h3⟩ := firstAt_ok e2
    obtain ⟨w, hw, rw'⟩ := r.get h1
    have fl : ∀ {d : D} {m : Nat}, xs[m]? = some d → flatD d = true := fun hd => List.all_eq_true.mp hf.2 _ (List.mem_of_getElem? hd)
    refine ⟨a, us, u, j, w, rfl, rfl, hq, ru.flat hf.1, r.flats hf.2, hw, by rw [eqF_ok rw' ru (fl h1) hf.1]; exact h2, fun m z hm hz => ?_, P.now S (.int _)⟩
    obtain ⟨d2, hd2, rd2⟩ := r.getV hz
    rw [eqF_ok rd2 ru (fl hd2) hf.1]
    exact h3 m d2 hm hd2
  · cases e
/-- the texts of a list -/
def strsD : List D → Option (List Str)
  | [] => some []
  | .str i :: r => (strsD r).map (i :: ·)
  | _ :: _ => none
theorem strsD_ok : ∀ {ds : List D} {ns : List Str}, strsD ds = some ns → ds = ns.map D.str
  | [], _, e => by cases e; rfl
  | d :: ds, ns, e => by
    cases d <;> simp only [strsD] at e <;> try (cases e; done)
    obtain ⟨ms, e1, rfl⟩ := Option.map_eq_some_iff.mp e
    rw [strsD_ok e1, List.map_cons]
theorem strsD_map (ns : List Str) : strsD (ns.map D.str) = some ns := by
  induction ns with
  | nil => rfl
  | cons n ns ih => simp [strsD, ih]
def fJoin (x y : D) (h : IH) : Option (D × IH) := match x with
  | .str a => (lstD h y).bind fun ys => (strsD ys).bind fun zs => if (zs.map (·.length)).sum + zs.length * a.length ≤ 16777216 then some (.str (Txt.join a zs), h) else none
  | _ => none
def gJoin : GM := fun x ds => one (fun y h => fJoin x y h) ds
theorem snd_join : SndM c "str" (fun x xs H Q => ∃ a p, ∃ ys : List Str, x = .str a ∧ xs = [.ref p] ∧ (SqL c.K H p (ys.map V.str) ∨ SqT c.K H p (ys.map V.str)) ∧ (ys.map (·.length)).sum + ys.length * a.length ≤ 16777216 ∧ Q (.str (Txt.join a ys)) H) gJoin := by
  intro ι h H v vs x d ds h' Q S rv rs e P
  have e0 := one_some e
  clear e
  obtain ⟨y, rfl, e⟩ := e0
  obtain ⟨u, rfl, ru⟩ := rs.one_inv
  cases x <;> simp only [fJoin] at e <;> try (cases e; done)
  rename_i a
  obtain ⟨xs, e1, e⟩ := Option.bind_eq_some_iff.mp e
  obtain ⟨zs, e2, e⟩ := Option.bind_eq_some_iff.mp e
  split at e
  · rename_i hz
    cases (Option.some.inj e)
    obtain ⟨b, us, rfl, hq, r⟩ := lstD_ok S ru e1
    cases strsD_ok e2
    cases r.strs
    cases rv
    exact ⟨a, b, zs, rfl, rfl, .inl hq, hz, P.now S (.str _)⟩
  · cases e
end
section
variable {X : Cx} {cls : Nat → Addr} {o e f : Expr} {apos cpos : Pos} {fo fe ff : IE}
/-- d.get(k, x) -/
def iGet2 (fo fe ff : IE) : IE := fun env h => (fo env h).bind fun (x, h1) => match x with
  | .loc n => if isTy "dict" x h1 = true then (fe env h1).bind fun (y, h2) => (ff env h2).bind fun (z, h3) => (dictAt h3 n y).map fun o => (o.getD z, h3) else none
  | _ => none
theorem ix_get2 (hu : X.A.units + 450 < cLine) (ho : IX X cls o fo) (he : IX X cls e fe) (hf : IX X cls f ff) (m : M2 X o "get" apos e f cpos) : IX X cls (.Call (.Attribute o "get" apos) [e, f] [] cpos) (iGet2 fo fe ff) := PE.imp (pe_dget2 (by omega) ho he hf m) fun σ H Q q => by
  obtain ⟨ι, h, env, d, h', S, E, e, p⟩ := q
  obtain ⟨⟨x, h1⟩, e1, e⟩ := Option.bind_eq_some_iff.mp e
  refine ⟨ι, h, env, x, h1, S, E, e1, fun ι1 H1 v v1 S1 r1 => ?_⟩
  cases x <;> try (exact absurd e (by intro z; cases z))
  rename_i n
  replace e : (if isTy "dict" (.loc n) h1 = true then (fe env h1).bind (fun (y, h2) => (ff env h2).bind fun (z, h3) => (dictAt h3 n y).map fun o => (o.getD z, h3)) else none) = some (d, h') := e
  split at e
  · rename_i ht
    obtain ⟨⟨y, h2⟩, e2, e⟩ := Option.bind_eq_some_iff.mp e
    obtain ⟨⟨z, h3⟩, e3, e⟩ := Option.bind_eq_some_iff.mp e
    obtain ⟨o', e4, e5⟩ := Option.map_eq_some_iff.mp e
    cases e5
    have ty := isTy_ok S1 r1 ht
    obtain ⟨a, rfl, ha⟩ := r1.loc_inv
    have isd : IsD H1 a := by
      rcases ty with ⟨z, _⟩ | ⟨z, _⟩ | ⟨_, h | h⟩ | ⟨z, _⟩
      · exact absurd z (by decide)
      · exact absurd z (by decide)
      · obtain ⟨kvs, h⟩ := h; exact .inl ⟨kvs, .inl h⟩
      · obtain ⟨kvs, h⟩ := h; exact .inr ⟨kvs, .inl h⟩
      · exact absurd z (by decide)
    refine ⟨a, rfl, isd, ι1, h1, env, y, h2, S1, E.mono v1, e2, fun ι2 H2 u v2 S2 r2 => ⟨ι2, h2, env, z, _, S2, E.mono (v1.trans v2), e3, fun ι3 H3 w v3 S3 r3 => ?_⟩⟩
    obtain ⟨o2, g, g1, g2⟩ := dictAt_ok S3 ((v2.trans v3).get ha) (r2.mono v3) e4
    refine ⟨o2, g, ?_⟩
    cases o' with
    | none => rw [g2 rfl]; exact p ι3 H3 w (v1.trans (v2.trans v3)) S3 r3
    | some d' =>
      obtain ⟨w', rfl, rw'⟩ := g1 d' rfl
      exact p ι3 H3 w' (v1.trans (v2.trans v3)) S3 rw'
  · cases e
end
end IL

/-! own layer, part 9: statements, targets, loops, comprehensions, defs -/
namespace IL
open PySem PySem.Spec PyProof.Rows L2

inductive Fl where
  | nx | bk | ct | rt (d : D)
abbrev IS := IEnv → IH → Option (Fl × IEnv × IH)
def Go (c : Ct) (fl : Fl) (env' : IEnv) (Dn : Ends) (ι' : List Addr) (H' : Hp) : Prop := match fl with
  | .nx => ∀ σ', EnvR c ι' H' σ' env' → Dn.nx σ' H'
  | .bk => ∀ σ', EnvR c ι' H' σ' env' → Dn.bk σ' H'
  | .ct => ∀ σ', EnvR c ι' H' σ' env' → Dn.ct σ' H'
  | .rt d => ∀ v, Rep c ι' H' v d → Dn.rt v H'
def tS (c : Ct) (f : IS) : TS := fun Dn σ H => ∃ ι h env fl env' h', Sim c ι h H ∧ EnvR c ι H σ env ∧ f env h = some (fl, env', h') ∧ ∀ ι' H', Evo ι H ι' H' → Sim c ι' h' H' → Go c fl env' Dn ι' H'
abbrev SX (X : Cx) (cls : Nat → Addr) (st : Stmt) (f : IS) : Prop := PS X st (tS ⟨X.K, cls⟩ f)
abbrev SSX (X : Cx) (cls : Nat → Addr) (st : List Stmt) (f : IS) : Prop := PSs X st (tS ⟨X.K, cls⟩ f)

def sSkip : IS := fun env h => some (.nx, env, h)
def sBreak : IS := fun env h => some (.bk, env, h)
def sCont : IS := fun env h => some (.ct, env, h)
def sNever : IS := fun _ _ => none
def sSeq (f g : IS) : IS := fun env h => (f env h).bind fun (fl, env1, h1) => match fl with
  | .nx => g env1 h1
  | fl => some (fl, env1, h1)
def sExpr (f : IE) : IS := fun env h => (f env h).bind fun (_, h1) => some (.nx, env, h1)
def sRet (f : IE) : IS := fun env h => (f env h).bind fun (d, h1) => some (.rt d, env, h1)
def sRetN : IS := fun env h => some (.rt .non, env, h)
def sIf (t : IT) (f g : IS) : IS := fun env h => (t env h).bind fun (b, h1) => if b = true then f env h1 else g env h1
section
variable {X : Cx} {cls : Nat → Addr} {st : Stmt} {rest a b : List Stmt} {e c : Expr} {f g : IS} {fe : IE} {t : IT} {pos : Pos}
theorem sx_pass : SX X cls (.Pass pos) sSkip := PS.imp ps_pass fun D σ H ⟨ι, h, env, fl, env', h', S, E, e, p⟩ => by
  cases (Option.some.inj e)
  exact p ι H (Evo.refl _ _) S σ E
theorem sx_break : SX X cls (.Break pos) sBreak := PS.imp ps_break fun D σ H ⟨ι, h, env, fl, env', h', S, E, e, p⟩ => by
  cases (Option.some.inj e)
  exact p ι H (Evo.refl _ _) S σ E
theorem sx_cont : SX X cls (.Continue pos) sCont := PS.imp ps_continue fun D σ H ⟨ι, h, env, fl, env', h', S, E, e, p⟩ => by
  cases (Option.some.inj e)
  exact p ι H (Evo.refl _ _) S σ E
theorem sx_never : SX X cls st sNever := PS.imp ps_never fun D σ H ⟨ι, h, env, fl, env', h', S, E, e, p⟩ => by cases e
theorem ssx_nil : SSX X cls [] sSkip := PSs.imp pss_nil fun D σ H ⟨ι, h, env, fl, env', h', S, E, e, p⟩ => by
  cases (Option.some.inj e)
  exact p ι H (Evo.refl _ _) S σ E
theorem ssx_cons (h1 : SX X cls st f) (h2 : SSX X cls rest g) : SSX X cls (st :: rest) (sSeq f g) := PSs.imp (pss_cons h1 h2) fun D σ H ⟨ι, h, env, fl, env', h', S, E, e, p⟩ => by
  obtain ⟨⟨fl1, env1, h1⟩, e1, e⟩ := Option.bind_eq_some_iff.mp e
  refine ⟨ι, h, env, fl1, env1, h1, S, E, e1, fun ι1 H1 v1 S1 => ?_⟩
  cases fl1
  case nx => exact fun σ1 E1 => ⟨ι1, h1, env1, fl, env', h', S1, E1, e, fun ι2 H2 v2 S2 => p ι2 H2 (v1.trans v2) S2⟩
  all_goals
    cases (Option.some.inj e)
    exact p ι1 H1 v1 S1
theorem ssx_one (h1 : SX X cls st f) : SSX X cls [st] f := pss_one h1
theorem sx_expr (he : IX X cls e fe) (hs : swapsWith e none pos.line X.env = pure false) : SX X cls (.Expr e pos) (sExpr fe) := PS.imp (ps_expr he hs) fun D σ H ⟨ι, h, env, fl, env', h', S, E, e, p⟩ => by
  obtain ⟨⟨d, h1⟩, e1, e⟩ := Option.bind_eq_some_iff.mp e
  cases (Option.some.inj e)
  exact ⟨ι, h, env, d, _, S, E, e1, fun ι1 H1 v v1 S1 r1 => p ι1 H1 v1 S1 σ (E.mono v1)⟩
theorem sx_ret (he : IX X cls e fe) : SX X cls (.Return (some e) pos) (sRet fe) := PS.imp (ps_ret he) fun D σ H ⟨ι, h, env, fl, env', h', S, E, e, p⟩ => by
  obtain ⟨⟨d, h1⟩, e1, e⟩ := Option.bind_eq_some_iff.mp e
  cases (Option.some.inj e)
  exact ⟨ι, h, env, d, _, S, E, e1, fun ι1 H1 v v1 S1 r1 => p ι1 H1 v1 S1 v r1⟩
theorem sx_retN : SX X cls (.Return none pos) sRetN := PS.imp ps_retN fun D σ H ⟨ι, h, env, fl, env', h', S, E, e, p⟩ => by
  cases (Option.some.inj e)
  exact p ι H (Evo.refl _ _) S _ .non
theorem sx_if (hc : JX X cls c t) (ha : SSX X cls a f) (hb : SSX X cls b g) : SX X cls (.If c a b pos) (sIf t f g) := PS.imp (ps_if hc ha hb) fun D σ H ⟨ι, h, env, fl, env', h', S, E, e, p⟩ => by
  obtain ⟨⟨d, h1⟩, e1, e⟩ := Option.bind_eq_some_iff.mp e
  refine ⟨ι, h, env, d, h1, S, E, e1, fun ι1 H1 v1 S1 => ?_⟩
  cases d
  · exact ⟨ι1, h1, env, fl, env', h', S1, E.mono v1, e, fun ι2 H2 v2 S2 => p ι2 H2 (v1.trans v2) S2⟩
  · exact ⟨ι1, h1, env, fl, env', h', S1, E.mono v1, e, fun ι2 H2 v2 S2 => p ι2 H2 (v1.trans v2) S2⟩
end

/-! ### targets -/
abbrev IG := D → IEnv → IH → Option (IEnv × IH)
abbrev IGs := List D → IEnv → IH → Option (IEnv × IH)
def tG (c : Ct) (g : IG) : TG := fun v σ H Q => ∃ ι h env d env' h', Sim c ι h H ∧ EnvR c ι H σ env ∧ Rep c ι H v d ∧ g d env h = some (env', h') ∧ ∀ ι' H' σ', Evo ι H ι' H' → Sim c ι' h' H' → EnvR c ι' H' σ' env' → Q σ' H'
def tGs (c : Ct) (g : IGs) : TGs := fun vs σ H Q => ∃ ι h env ds env' h', Sim c ι h H ∧ EnvR c ι H σ env ∧ Reps c ι H vs ds ∧ g ds env h = some (env', h') ∧ ∀ ι' H' σ', Evo ι H ι' H' → Sim c ι' h' H' → EnvR c ι' H' σ' env' → Q σ' H'
abbrev GX (X : Cx) (cls : Nat → Addr) (e : Expr) (g : IG) : Prop := PG X e (tG ⟨X.K, cls⟩ g)
abbrev GsX (X : Cx) (cls : Nat → Addr) (e : List Expr) (g : IGs) : Prop := PGs X e (tGs ⟨X.K, cls⟩ g)
def gNm (i : Nat) : IG := fun d env h => some (env.set i (some d), h)
def gsNil : IGs := fun ds env h => match ds with
  | [] => some (env, h)
  | _ => none
def gsCons (g : IG) (gs : IGs) : IGs := fun ds env h => match ds with
  | d :: r => (g d env h).bind fun (env1, h1) => gs r env1 h1
  | [] => none
def gTp (n : Nat) (gs : IGs) : IG := fun d env h => (seqD h d).bind fun xs => if xs.length = n then gs xs env h else none
/-- o[i] = v by values -/
def putAt (x y d : D) (h : IH) : Option IH := match x with
  | .loc n => match h[n]? with
    | some (.lst xs) => match y with
      | .int k => (ixN xs.length k).map fun j => h.set n (.lst (xs.set j d))
      | _ => none
    | some (.dic kvs) => (keyD y).bind fun k => if (keysOk kvs && decide (kvs.length < sizeLine)) = true then some (h.set n (.dic (putD kvs k d))) else none
    | some (.dit kvs) => match y with
      | .tup ys => (keysD ys).bind fun k => if (keysOk kvs && decide (kvs.length < sizeLine)) = true then some (h.set n (.dit (putD kvs k d))) else none
      | _ => none
    | _ => none
  | _ => none
def rSetAny : TSet := fun o i v H Q => rSetL o i v H Q ∨ rSetD o i v H Q
theorem set_any {X : Cx} (hu : X.A.units + 1 < cLine) : PSet X rSetAny := by
  intro pins s σ H o i v ov iv u Q I ro ri rv h
  rcases h with h | h
  · exact set_list pins s σ H o i v ov iv u Q I ro ri rv h
  · exact set_dict hu pins s σ H o i v ov iv u Q I ro ri rv h
theorem putAt_ok {c : Ct} {ι : List Addr} {h h' : IH} {H : Hp} {o i v : V} {x y d : D} {Q : Hp → Prop} (S : Sim c ι h H) (ro : Rep c ι H o x) (ri : Rep c ι H i y) (rv : Rep c ι H v d) (e : putAt x y d h = some h') (P : ∀ H', Evo ι H ι H' → Sim c ι h' H' → Q H') :
    rSetAny o i v H Q := by
  cases x <;> simp only [putAt] at e <;> try (cases e; done)
  rename_i n
  obtain ⟨a, rfl, ha⟩ := ro.loc_inv
  have fin : ∀ (o' : O) (u : HO), h' = h.set n o' → OSim c ι (upd H a u) a o' → Q (upd H a u) := fun o' u e1 hO => by
    subst e1
    exact P _ (S.evo_set ha) (S.set ha hO (own_none S ha))
  split at e
  · rename_i xs e1
    obtain ⟨vs, h1, r⟩ := S.oat ha e1
    cases y <;> simp only at e <;> try (cases e; done)
    rename_i k
    obtain ⟨j, e2, e3⟩ := Option.map_eq_some_iff.mp e
    cases ri
    exact .inl ⟨a, vs, k, j, rfl, rfl, h1, by rw [r.length]; exact e2, fin _ _ e3.symm ⟨_, upd_same, S.reps_set ha (r.set rv j)⟩⟩
  · rename_i kvs e1
    obtain ⟨vs, h1, r⟩ := S.oat ha e1
    obtain ⟨k, e2, e⟩ := Option.bind_eq_some_iff.mp e
    split at e
    · rename_i hk
      obtain ⟨k1, k2⟩ := Bool.and_eq_true_iff.mp hk
      cases keyD_ok ri e2
      have vv : Evo ι H ι (upd H a (.dK (putK vs k v))) := S.evo_set ha
      exact .inr ⟨a, _, rfl, DPut.k h1 (by rw [r.length]; exact of_decide_eq_true k2), fin _ _ (Option.some.inj e).symm ⟨_, upd_same, Prs.mono' (fun _ _ e => e) vv.tup vv.frz (r.put rv k1)⟩⟩
    · cases e
  · rename_i kvs e1
    obtain ⟨vs, h1, r⟩ := S.oat ha e1
    cases y <;> simp only at e <;> try (cases e; done)
    obtain ⟨k, e2, e⟩ := Option.bind_eq_some_iff.mp e
    split at e
    · rename_i hk
      obtain ⟨k1, k2⟩ := Bool.and_eq_true_iff.mp hk
      obtain ⟨b, us, rfl, hb, rb⟩ := ri.tup_inv
      cases keysD_ok rb e2
      have vv : Evo ι H ι (upd H a (.dT (putK vs k v))) := S.evo_set ha
      exact .inr ⟨a, _, rfl, DPut.t h1 hb (by rw [r.length]; exact of_decide_eq_true k2), fin _ _ (Option.some.inj e).symm ⟨_, upd_same, Prs.mono' (fun _ _ e => e) vv.tup vv.frz (r.put rv k1)⟩⟩
    · cases e
  · cases e
def gSb (fo fi : IE) : IG := fun d env h => (fo env h).bind fun (x, h1) => (fi env h1).bind fun (y, h2) => (putAt x y d h2).map fun h3 => (env, h3)
section
variable {X : Cx} {cls : Nat → Addr} {pos : Pos} {e o i : Expr} {es : List Expr} {g : IG} {gs : IGs} {fo fi : IE}
theorem gx_name {k : Nat} {x : Str} (hN : X.N.Nodup) (hi : X.N[k]? = some x) (hx : Loc X.env.scope x) (hf : X.fn x = true ∨ X.env.scope.names.lookup x = some .local) : GX X cls (.Name x pos) (gNm k) := PG.imp (pg_name hN hi hx hf) fun v σ H Q ⟨ι, h, env, d, env', h', S, E, r, e, p⟩ => by
  cases (Option.some.inj e)
  exact p ι H _ (Evo.refl _ _) S (E.set r k)
theorem gsx_nil : GsX X cls [] gsNil := PGs.imp pgs_nil fun v σ H Q ⟨ι, h, env, d, env', h', S, E, r, e, p⟩ => by
  cases d <;> simp only [gsNil] at e <;> cases e
  cases r
  exact ⟨rfl, p ι H _ (Evo.refl _ _) S E⟩
theorem gsx_cons (h1 : GX X cls e g) (h2 : GsX X cls es gs) (hs : (assignEach (e :: es) X.env).map (·.2) = assign e X.env :: (assignEach es X.env).map (·.2)) : GsX X cls (e :: es) (gsCons g gs) := PGs.imp (pgs_cons h1 h2 hs) fun v σ H Q ⟨ι, h, env, d, env', h', S, E, r, e, p⟩ => by
  cases d <;> simp only [gsCons] at e <;> try (cases e; done)
  obtain ⟨⟨env1, h1⟩, e1, e⟩ := Option.bind_eq_some_iff.mp e
  cases r with
  | cons r rr =>
    exact ⟨_, _, rfl, ι, h, env, _, env1, h1, S, E, r, e1, fun ι1 H1 σ1 v1 S1 E1 => ⟨ι1, h1, env1, _, env', h', S1, E1, rr.mono v1, e, fun ι2 H2 σ2 v2 S2 E2 => p ι2 H2 σ2 (v1.trans v2) S2 E2⟩⟩
theorem pg_seq {es : List Expr} {k : Nat} {t : TGs} {n : Nat} (hc : X.calm = true) (h : PGs X es t) (hn : (assignEach es X.env).length = n) (hst : (assignEach es X.env).findIdx? (·.1) = none) :
    PG X (.Tuple es k pos) (fun v σ H Q => gTup X.K n t v σ H Q ∨ gUnl X.K n t v σ H Q) := ⟨fun pins s σ H v u Q I r hw => hw.elim ((pg_tup hc h hn hst).run pins s σ H v u Q I r) ((pg_unl hc h hn hst).run pins s σ H v u Q I r)⟩
theorem gx_tup {k n : Nat} (hc : X.calm = true) (h : GsX X cls es gs) (hn : (assignEach es X.env).length = n) (hst : (assignEach es X.env).findIdx? (·.1) = none) : GX X cls (.Tuple es k pos) (gTp n gs) := PG.imp (pg_seq hc h hn hst) fun v σ H Q ⟨ι, h, env, d, env', h', S, E, r, e, p⟩ => by
  obtain ⟨xs, e1, e⟩ := Option.bind_eq_some_iff.mp e
  split at e
  · rename_i hl
    obtain ⟨a, us, rfl, hq, ra⟩ := seqD_ok S r e1
    rcases hq with hq | hq
    · exact .inr ⟨a, us, rfl, hq, by rw [ra.length]; exact hl, ι, h, env, _, env', h', S, E, ra, e, p⟩
    · exact .inl ⟨a, us, rfl, hq, by rw [ra.length]; exact hl, ι, h, env, _, env', h', S, E, ra, e, p⟩
  · cases e
theorem gx_sub (hu : X.A.units + 450 < cLine) (ho : IX X cls o fo) (hi : IX X cls i fi) (ha : ∀ v, assign (.Subscript o i pos) X.env v = (do
      let ov ← holding [v] (eval o X.env)
      let iv ← holding [v, ov] (eval i X.env)
      standAt pos
      holding [v, ov, iv] (setItem ov iv v)
      release [v, ov, iv] [])) : GX X cls (.Subscript o i pos) (gSb fo fi) := PG.imp (pg_sub ho hi (set_any (by omega)) ha) fun v σ H Q ⟨ι, h, env, d, env', h', S, E, r, e, p⟩ => by
  obtain ⟨⟨x, h1⟩, e1, e⟩ := Option.bind_eq_some_iff.mp e
  obtain ⟨⟨y, h2⟩, e2, e⟩ := Option.bind_eq_some_iff.mp e
  obtain ⟨h3, e3, e4⟩ := Option.map_eq_some_iff.mp e
  cases e4
  refine ⟨ι, h, env, x, h1, S, E, e1, fun ι1 H1 w v1 S1 r1 => ⟨ι1, h1, env, y, h2, S1, E.mono v1, e2, fun ι2 H2 u v2 S2 r2 => ?_⟩⟩
  exact putAt_ok S2 (r1.mono v2) r2 (r.mono (v1.trans v2)) e3 fun H3 v3 S3 => p ι2 H3 σ (v1.trans (v2.trans v3)) S3 (E.mono (v1.trans (v2.trans v3)))
end

/-! ### stores -/
def sAsg (f : IE) (g : IG) : IS := fun env h => (f env h).bind fun (d, h1) => (g d env h1).bind fun (env1, h2) => some (.nx, env1, h2)
theorem snd_asg {c : Ct} {f : IE} {g : IG} {D : Ends} {σ : L2.St} {H : Hp} (q : tS c (sAsg f g) D σ H) : tAsg (tI c f) (tG c g) D σ H := by
  obtain ⟨ι, h, env, fl, env', h', S, E, e, p⟩ := q
  obtain ⟨⟨d, h1⟩, e1, e⟩ := Option.bind_eq_some_iff.mp e
  obtain ⟨⟨env1, h2⟩, e2, e⟩ := Option.bind_eq_some_iff.mp e
  cases (Option.some.inj e)
  exact ⟨ι, h, env, d, h1, S, E, e1, fun ι1 H1 v v1 S1 r1 => ⟨ι1, h1, env, d, _, _, S1, E.mono v1, r1, e2, fun ι2 H2 σ2 v2 S2 E2 => p ι2 H2 (v1.trans v2) S2 σ2 E2⟩⟩
/-- o.f = e -/
def sFl (k : Nat) (f : Str) (fo fe : IE) : IS := fun env h => (fe env h).bind fun (d, h1) => (fo env h1).bind fun (x, h2) => (insAt k x h2).bind fun (n, fs) => if fs.length < 1000 then some (.nx, env, h2.set n (.ins k (putFD f d fs))) else none
section
variable {X : Cx} {cls : Nat → Addr} {pos pos' tpos : Pos} {tg e o i : Expr} {f fo fe fi : IE} {g : IG}
theorem sx_asg (he : IX X cls e f) (hg : GX X cls tg g) (hs : swapsWithSole [tg] e pos.line X.env = pure false) (hw : swappedStores [tg] e X.env = pure none) (h1 : (assignEach [tg] X.env).map (·.2) = [assign tg X.env]) : SX X cls (.Assign [tg] e pos) (sAsg f g) := PS.imp (ps_asg he hg hs hw h1) fun _ _ _ q => snd_asg q
theorem sx_set {k : Nat} {x : Str} (hN : X.N.Nodup) (hi : X.N[k]? = some x) (hx : Loc X.env.scope x) (he : IX X cls e f) (hs : swapsWith e (some (.Name x pos')) pos.line X.env = pure false) (hf : X.fn x = true ∨ X.env.scope.names.lookup x = some .local) : SX X cls (.Assign [.Name x pos'] e pos) (sAsg f (gNm k)) := PS.imp (ps_set hN hi hx he hs hf) fun D σ H q => by
  obtain ⟨ι, h, env, fl, env', h', S, E, e, p⟩ := q
  obtain ⟨⟨d, h1⟩, e1, e⟩ := Option.bind_eq_some_iff.mp e
  cases (Option.some.inj e)
  exact ⟨ι, h, env, d, _, S, E, e1, fun ι1 H1 v v1 S1 r1 => p ι1 H1 v1 S1 _ ((E.mono v1).set r1 k)⟩
theorem sx_fld {k : Nat} {fn : Str} (hc : Cls X.K (cls k)) (hn : NoAttr X.K (cls k) fn) (ha : IX X cls o fo) (hv : IX X cls e fe) (hs : swapsWith e (some (.Attribute o fn pos')) pos.line X.env = pure false) : SX X cls (.Assign [.Attribute o fn pos'] e pos) (sFl k fn fo fe) := PS.imp (ps_fld ha hv hs) fun D σ H q => by
  obtain ⟨ι, h, env, fl, env', h', S, E, e, p⟩ := q
  obtain ⟨⟨d, h1⟩, e1, e⟩ := Option.bind_eq_some_iff.mp e
  obtain ⟨⟨x, h2⟩, e2, e⟩ := Option.bind_eq_some_iff.mp e
  obtain ⟨⟨n, fs⟩, e3, e⟩ := Option.bind_eq_some_iff.mp e
  replace e : (if fs.length < 1000 then some (Fl.nx, env, h2.set n (.ins k (putFD fn d fs))) else none) = some (fl, env', h') := e
  split at e
  · rename_i hl
    cases (Option.some.inj e)
    obtain ⟨rfl, e5⟩ := insAt_some e3
    refine ⟨ι, h, env, d, h1, S, E, e1, fun ι1 H1 v v1 S1 r1 => ⟨ι1, h1, env, _, h2, S1, E.mono v1, e2, fun ι2 H2 u v2 S2 r2 => ?_⟩⟩
    obtain ⟨b, rfl, hb⟩ := r2.loc_inv
    obtain ⟨dx, vs, h1', h3', r⟩ := S2.oat hb e5
    have vv : Evo ι2 H2 ι2 (upd H2 b (.ins (cls k) dx (L2.putF fn v vs))) := S2.evo_set hb
    have ne : dx ≠ b := fun z => by rw [z, h1'] at h3'; cases h3'
    refine ⟨b, _, dx, vs, rfl, h1', hc, hn, by rw [r.length]; exact hl, ?_⟩
    exact p ι2 _ (v1.trans (v2.trans vv)) (S2.set hb ⟨dx, _, upd_same, by rw [upd_ne ne]; exact h3', Prs.mono' (fun _ _ e => e) vv.tup vv.frz (r.putF (r1.mono v2))⟩ (own_none S2 hb)) σ (E.mono (v1.trans (v2.trans vv)))
  · cases e
end
/-- o[i] by values, of lists and dicts -/
def rGet (K : PySem.W.Frag) : R2 := fun x y H Q => rIxL K x y H Q ∨ ∃ a v, x = .ref a ∧ DGet H a y (some v) ∧ Q v H
theorem pget_any {X : Cx} (hu : X.A.units + 1 < cLine) : PGet X (rGet X.K) := by
  intro pins s σ H x y v u Q I rx ry h
  rcases h with ⟨p, xs, i, z, rfl, rfl, hq, he, q⟩ | ⟨a, w, rfl, g, q⟩
  · cases rx
    obtain ⟨t, rfl⟩ := ry
    obtain ⟨its, r, pl, hz⟩ := I.list hq
    obtain ⟨j, h1, h2, h3, h4, h5⟩ := atI_get he
    obtain ⟨w, ew, rw'⟩ := r.get h2
    have hl := r.length
    have hn := line63
    have fin : EP X pins σ Q w s := ⟨z, H, I, rw', q⟩
    by_cases h0 : 0 ≤ i
    · have hj : i.toNat = j := by
        rw [seqIndex_of h0 h5] at h1
        exact Option.some.inj h1
      exact wpAny_getItem_list pl.isList h0 (by omega) (by rw [hj]; simpa using ew) fin
    · have hj : (i + (its.toArray.size : Int)).toNat = j := by
        rw [seqIndex_neg (by omega) h4] at h1
        rw [List.size_toArray, ← hl]
        exact Option.some.inj h1
      exact wpAny_getItem_list_neg pl.isList (by omega) (by rw [List.size_toArray] <;> omega) (by omega) (by rw [hj]; simpa using ew) fin
  · cases rx
    exact d_getItem hu I g ry fun w' s3 I3 rw' => ⟨w, H, I3, rw', q⟩
def gGet (x y : D) (h : IH) : Option (D × IH) := match lstD h x with
  | some xs => ixSeq xs y h
  | none => match x with
    | .loc n => match dictAt h n y with
      | some (some d) => some (d, h)
      | _ => none
    | _ => none
theorem snd_get {c : Ct} : SndR c (rGet c.K) gGet := by
  intro ι h H v u x y d h' Q S rv ru e P
  unfold gGet at e
  split at e
  · rename_i xs e1
    obtain ⟨a, us, rfl, hq, r⟩ := lstD_ok S rv e1
    cases y <;> simp only [ixSeq] at e <;> try (cases e; done)
    rename_i i
    obtain ⟨d', e3, e4⟩ := Option.map_eq_some_iff.mp e
    cases e4
    obtain ⟨w, e5, r5⟩ := atI_map r e3
    cases ru
    exact .inl ⟨a, us, i, w, rfl, rfl, hq, e5, P.now S r5⟩
  · cases x <;> simp only at e <;> try (cases e; done)
    split at e
    · rename_i d' e1
      cases e
      obtain ⟨a, rfl, ha⟩ := rv.loc_inv
      obtain ⟨o', g, h1, h2⟩ := dictAt_ok S ha ru e1
      obtain ⟨w, rfl, r⟩ := h1 _ rfl
      exact .inr ⟨a, w, rfl, g, P.now S r⟩
    · cases e
/-- o[i] += e, of ints -/
def sAugS (f : Int → Int → Int) (fo fi fe : IE) : IS := fun env h => (fo env h).bind fun (x, h1) => (fi env h1).bind fun (y, h2) => (gGet x y h2).bind fun (z, h3) => (fe env h3).bind fun (w, h4) =>
  (gInt (fun _ _ => true) (fun i j => .int (f i j)) z w h4).bind fun (u, h5) => (putAt x y u h5).map fun h6 => (.nx, env, h6)
section
variable {X : Cx} {cls : Nat → Addr} {pos pos' tpos : Pos} {tg e o i : Expr} {f fo fe fi : IE} {g : IG}
theorem sx_aug {op : Operator} {fn : Int → Int → Int} (hu : X.A.units + 450 < cLine) (hp : PIp X op (ipI fn)) (ho : IX X cls o fo) (hi : IX X cls i fi) (he : IX X cls e fe)
    (ha : ∀ ov iv new, augStore i ov iv new = (do holding [new, ov, iv] (setItem ov iv new); release [new, ov, iv] []; pure .next)) : SX X cls (.AugAssign (.Subscript o i tpos) op e pos) (sAugS fn fo fi fe) := PS.imp (ps_augS ho hi (pget_any (by omega)) he hp (set_any (by omega)) ha) fun D σ H q => by
  obtain ⟨ι, h, env, fl, env', h', S, E, e, p⟩ := q
  obtain ⟨⟨x, h1⟩, e1, e⟩ := Option.bind_eq_some_iff.mp e
  obtain ⟨⟨y, h2⟩, e2, e⟩ := Option.bind_eq_some_iff.mp e
  obtain ⟨⟨z, h3⟩, e3, e⟩ := Option.bind_eq_some_iff.mp e
  obtain ⟨⟨w, h4⟩, e4, e⟩ := Option.bind_eq_some_iff.mp e
  obtain ⟨⟨u, h5⟩, e5, e⟩ := Option.bind_eq_some_iff.mp e
  obtain ⟨h6, e6, e7⟩ := Option.map_eq_some_iff.mp e
  cases e7
  refine ⟨ι, h, env, x, h1, S, E, e1, fun ι1 H1 vx v1 S1 r1 => ⟨ι1, h1, env, y, h2, S1, E.mono v1, e2, fun ι2 H2 vy v2 S2 r2 => ?_⟩⟩
  refine snd_get ι2 h2 H2 vx vy x y z h3 _ S2 (r1.mono v2) r2 e3 fun ι3 H3 vz v3 S3 r3 => ?_
  refine ⟨ι3, h3, env, w, h4, S3, E.mono (v1.trans (v2.trans v3)), e4, fun ι4 H4 vw v4 S4 r4 => ?_⟩
  obtain ⟨a, b, rfl, rfl, _, rfl, rfl⟩ := gInt_some e5
  cases (r3.mono v4).int_inv
  cases r4
  refine ⟨a, b, rfl, rfl, ?_⟩
  exact putAt_ok S4 (r1.mono (v2.trans (v3.trans v4))) (r2.mono (v3.trans v4)) (.int _) e6 fun H5 v5 S5 => p ι4 H5 (v1.trans (v2.trans (v3.trans (v4.trans v5)))) S5 σ (E.mono (v1.trans (v2.trans (v3.trans (v4.trans v5)))))
/-- name op= int -/
def sAugN (fn : Int → Int → Int) (k : Nat) (fe : IE) : IS := fun env h => (iVar k env h).bind fun (z, h0) => (fe env h0).bind fun (w, h4) => (gInt (fun _ _ => true) (fun i j => .int (fn i j)) z w h4).bind fun (u, h5) => some (.nx, env.set k (some u), h5)
theorem sx_augN {op : Operator} {fn : Int → Int → Int} {k : Nat} {x : Str} (hN : X.N.Nodup) (hi : X.N[k]? = some x) (hx : Loc X.env.scope x) (he : IX X cls e fe) (hp : PIp X op (ipI fn)) (hf : X.fn x = true ∨ X.env.scope.names.lookup x = some .local) :
    SX X cls (.AugAssign (.Name x pos') op e pos) (sAugN fn k fe) := PS.imp (ps_aug hN hi hx he hp hf) fun D σ H q => by
  obtain ⟨ι, h, env, fl, env', h', S, E, e, p⟩ := q
  obtain ⟨⟨z, h0⟩, e1, e⟩ := Option.bind_eq_some_iff.mp e
  obtain ⟨⟨w, h4⟩, e2, e⟩ := Option.bind_eq_some_iff.mp e
  obtain ⟨⟨u, h5⟩, e3, e⟩ := Option.bind_eq_some_iff.mp e
  cases (Option.some.inj e)
  obtain ⟨e4, rfl⟩ := iVar_some e1
  obtain ⟨v, h1, r⟩ := E.at_ k z e4
  refine ⟨v, h1, ι, _, env, w, h4, S, E, e2, fun ι1 H1 vw v1 S1 r1 => ?_⟩
  obtain ⟨a, b, rfl, rfl, _, rfl, rfl⟩ := gInt_some e3
  cases (r.mono v1).int_inv
  cases r1
  exact ⟨a, b, rfl, rfl, p ι1 H1 v1 S1 _ ((E.mono v1).set (.int _) k)⟩
/-- a, b = x, y of plain names -/
def parSet (i j : Nat) (ds : List D) (env : IEnv) : Option IEnv := match ds with
  | [d, d'] => some ((env.set i (some d)).set j (some d'))
  | _ => none
theorem parSet_some {i j : Nat} {ds : List D} {env env' : IEnv} (e : parSet i j ds env = some env') : ∃ d d', ds = [d, d'] ∧ env' = (env.set i (some d)).set j (some d') := by
  unfold parSet at e
  split at e
  · cases e
    exact ⟨_, _, rfl, rfl⟩
  · cases e
def sPar (i j : Nat) (a : IA) : IS := fun env h => (a env h).bind fun (ds, h1) => (parSet i j ds env).map fun env' => (.nx, env', h1)
theorem sx_par {k j : Nat} {x y : Str} {a b : Expr} {px py pt : Pos} {kt k2 pt2} {g : IA} (hc : X.calm = true) (hN : X.N.Nodup) (hi : X.N[k]? = some x) (hj : X.N[j]? = some y) (hij : k ≠ j)
    (hx : X.env.scope.names.lookup x = some .local) (hy : X.env.scope.names.lookup y = some .local) (ha : KX X cls [a, b] g)
    (hw : swappedStores [.Tuple [.Name x px, .Name y py] kt pt] (.Tuple [a, b] k2 pt2) X.env = pure (some [x, y]))
    (hs : swapsWithSole [.Tuple [.Name x px, .Name y py] kt pt] (.Tuple [a, b] k2 pt2) pos.line X.env = pure false) :
    SX X cls (.Assign [.Tuple [.Name x px, .Name y py] kt pt] (.Tuple [a, b] k2 pt2) pos) (sPar k j g) := PS.imp (ps_par hc hN hi hj hij hx hy ha hw hs) fun D σ H q => by
  obtain ⟨ι, h, env, fl, env', h', S, E, e, p⟩ := q
  obtain ⟨⟨ds, h1⟩, e1, e⟩ := Option.bind_eq_some_iff.mp e
  obtain ⟨env2, e2, e3⟩ := Option.map_eq_some_iff.mp e
  cases e3
  obtain ⟨d, d', rfl, rfl⟩ := parSet_some e2
  refine ⟨ι, h, env, _, _, S, E, e1, fun ι1 H1 vs v1 S1 r1 => ?_⟩
  obtain ⟨v, u, rfl, rv, ru⟩ := r1.two_inv
  exact ⟨v, u, rfl, p ι1 H1 v1 S1 _ (((E.mono v1).set rv k).set ru j)⟩
end

/-! ### while -/
def whileN (t : IT) (f : IS) : Nat → IS
  | 0 => fun _ _ => none
  | n + 1 => fun env h => (t env h).bind fun (b, h1) => if b = true then (f env h1).bind fun (fl, env2, h2) => (match fl with
    | .nx => whileN t f n env2 h2
    | .ct => whileN t f n env2 h2
    | .bk => some (.nx, env2, h2)
    | .rt d => some (.rt d, env2, h2)) else some (.nx, env, h1)
theorem whileN_succ (t : IT) (f : IS) : ∀ (n : Nat) (env : IEnv) (h : IH) (z : Fl × IEnv × IH), whileN t f n env h = some z → whileN t f (n + 1) env h = some z
  | 0, _, _, _, e => by cases e
  | n + 1, env, h, z, e => by
    simp only [whileN] at e ⊢
    obtain ⟨⟨b, h1⟩, e1, e⟩ := Option.bind_eq_some_iff.mp e
    refine Option.bind_eq_some_iff.mpr ⟨(b, h1), e1, ?_⟩
    simp only at e ⊢
    split at e
    · rename_i hb
      rw [if_pos hb]
      obtain ⟨⟨fl, env2, h2⟩, e2, e⟩ := Option.bind_eq_some_iff.mp e
      refine Option.bind_eq_some_iff.mpr ⟨(fl, env2, h2), e2, ?_⟩
      cases fl
      case nx => exact whileN_succ t f n env2 h2 z e
      case ct => exact whileN_succ t f n env2 h2 z e
      all_goals exact e
    · rename_i hb
      rw [if_neg hb]
      exact e
theorem whileN_le {t : IT} {f : IS} {n m : Nat} (hm : n ≤ m) {env : IEnv} {h : IH} {z : Fl × IEnv × IH} (e : whileN t f n env h = some z) : whileN t f m env h = some z := by
  induction hm with
  | refl => exact e
  | step _ ih => exact whileN_succ t f _ env h z ih
open Classical in
noncomputable def sWhile (t : IT) (f : IS) : IS := fun env h => if hx : ∃ (n : Nat) (z : Fl × IEnv × IH), whileN t f n env h = some z then some hx.choose_spec.choose else none
theorem sWhile_of {t : IT} {f : IS} {n : Nat} {env : IEnv} {h : IH} {z : Fl × IEnv × IH} (e : whileN t f n env h = some z) : sWhile t f env h = some z := by
  have hx : ∃ (n : Nat) (z : Fl × IEnv × IH), whileN t f n env h = some z := ⟨n, z, e⟩
  unfold sWhile
  rw [dif_pos hx]
  have e2 := hx.choose_spec.choose_spec
  have e3 := whileN_le (Nat.le_max_left n hx.choose) e
  have e4 := whileN_le (Nat.le_max_right n hx.choose) e2
  rw [e3] at e4
  exact e4.symm
theorem sWhile_some {t : IT} {f : IS} {env : IEnv} {h : IH} {z : Fl × IEnv × IH} (e : sWhile t f env h = some z) : ∃ n, whileN t f n env h = some z := by
  unfold sWhile at e
  split at e
  · rename_i hx
    have e2 := hx.choose_spec.choose_spec
    rw [Option.some.inj e] at e2
    exact ⟨_, e2⟩
  · cases e
/-- one turn -/
theorem sWhile_turn {t : IT} {f : IS} {env : IEnv} {h h1 : IH} {env2 : IEnv} {h2 : IH} (e1 : t env h = some (true, h1)) (e2 : f env h1 = some (.nx, env2, h2)) {z : Fl × IEnv × IH} (e : sWhile t f env2 h2 = some z) : sWhile t f env h = some z := by
  obtain ⟨n, e⟩ := sWhile_some e
  refine sWhile_of (n := n + 1) ?_
  simp only [whileN, e1, Option.bind_some, if_true, e2, e]
theorem sWhile_ret {t : IT} {f : IS} {env : IEnv} {h h1 : IH} {env2 : IEnv} {h2 : IH} {d : D} (e1 : t env h = some (true, h1)) (e2 : f env h1 = some (.rt d, env2, h2)) : sWhile t f env h = some (.rt d, env2, h2) := by
  refine sWhile_of (n := 1) ?_
  simp only [whileN, e1, Option.bind_some, if_true, e2]
theorem sWhile_end {t : IT} {f : IS} {env : IEnv} {h h1 : IH} (e1 : t env h = some (false, h1)) : sWhile t f env h = some (.nx, env, h1) := by
  refine sWhile_of (n := 1) ?_
  simp [whileN, e1]
section
variable {X : Cx} {cls : Nat → Addr} {pos : Pos} {c : Expr} {body : List Stmt} {t : IT} {f : IS}
theorem sx_while (hp : PassesOwn (model X.prog X.w) X.A X.env X.xe) (hc : JX X cls c t) (hb : SSX X cls body f) : SX X cls (.While c body [] pos) (sWhile t f) := PS.imp (ps_while hp hc hb) fun Dn σ H q => by
  obtain ⟨ι, h, env, fl, env', h', S, E, e, p⟩ := q
  obtain ⟨n, e⟩ := sWhile_some e
  refine ⟨fun m σ2 H2 => ∃ ι2 h2 env2, Evo ι H ι2 H2 ∧ Sim ⟨X.K, cls⟩ ι2 h2 H2 ∧ EnvR ⟨X.K, cls⟩ ι2 H2 σ2 env2 ∧ whileN t f m env2 h2 = some (fl, env', h'), ⟨n, ι, h, env, Evo.refl _ _, S, E, e⟩, ?_⟩
  rintro m σ2 H2 ⟨ι2, h2, env2, v2, S2, E2, e2⟩
  cases m with
  | zero => cases e2
  | succ m =>
    simp only [whileN] at e2
    obtain ⟨⟨b, h3⟩, e3, e4⟩ := Option.bind_eq_some_iff.mp e2
    refine ⟨ι2, h2, env2, b, h3, S2, E2, e3, fun ι3 H3 v3 S3 => ?_⟩
    simp only at e4
    split at e4
    · rename_i hb'
      rw [if_pos hb']
      obtain ⟨⟨fl5, env5, h5⟩, e5, e6⟩ := Option.bind_eq_some_iff.mp e4
      refine ⟨fun σ6 H6 => ∃ ι6 h6 env6, Evo ι H ι6 H6 ∧ Sim ⟨X.K, cls⟩ ι6 h6 H6 ∧ EnvR ⟨X.K, cls⟩ ι6 H6 σ6 env6 ∧ whileN t f m env6 h6 = some (fl, env', h'), fun σ' H' hw => ⟨m, Nat.lt_succ_self m, hw⟩, ?_⟩
      refine ⟨ι3, h3, env2, fl5, env5, h5, S3, E2.mono v3, e5, fun ι7 H7 v7 S7 => ?_⟩
      cases fl5
      case nx => exact fun σ7 E7 => ⟨ι7, h5, env5, v2.trans (v3.trans v7), S7, E7, e6⟩
      case ct => exact fun σ7 E7 => ⟨ι7, h5, env5, v2.trans (v3.trans v7), S7, E7, e6⟩
      case bk =>
        cases (Option.some.inj e6)
        exact p ι7 H7 (v2.trans (v3.trans v7)) S7
      case rt d =>
        cases (Option.some.inj e6)
        exact p ι7 H7 (v2.trans (v3.trans v7)) S7
    · rename_i hb'
      rw [if_neg hb']
      cases (Option.some.inj e4)
      exact p ι3 H3 (v2.trans v3) S3 σ2 (E2.mono v3)
end
end IL

/-! own layer, part 10: what a loop walks -/
namespace IL
open PySem PySem.Spec PyProof.Rows L2

/-- some untracked records turn, a new tuple is laid -/
theorem inv_turn_new {X : Cx} {pins : List (Addr × Obj)} {σ : L2.St} {H : Hp} {s : Shared} {ch : List Addr} {T : Addr} {vs : List V} {its : List Value} {h' : Heap} {tk : Nat} (I : Inv X pins σ H s) (hch : ∀ b ∈ ch, FpOk X pins H b)
    (hk : ∀ b o, b ∉ ch → s.heap.get? b = some o → h'.get? b = some o) (hT : s.heap.objs.size ≤ T) (hz : vs.length ≤ sizeLine) (rv : Vals vs its) (hv : h'.IsTuple T its.toArray) :
    Inv X pins σ (upd H T (.tup vs)) { s with heap := h', toks := tk } := by
  have hTn : H T = none := I.hok.fresh hT
  have ltT : ∀ b o, s.heap.get? b = some o → b ≠ T := fun b o e => Nat.ne_of_lt (Nat.lt_of_lt_of_le (Heap.lt_size e) hT)
  have nch : ∀ b u, H b = some u → b ∉ ch := fun b u e hb => by
    rw [(hch b hb).1] at e
    cases e
  refine I.step (g' := s.gens) (d' := s.drawn) (ch := ch) (fun b hb => ⟨(hch b hb).2.2.2.1, (hch b hb).2.1, (hch b hb).2.2.2.2.1, (hch b hb).2.2.2.2.2⟩) (fun b o _ _ hc e _ => hk b o hc e) (fun b o _ _ hc e _ => ⟨o.slots, hk b o hc e⟩)
    (fun b o _ e n => by rw [upd_ne (ltT b o e)]; exact n) (fun b o hc e => ⟨o, hk b o hc e⟩) (fun b xs e => by rw [upd_ne (ne_of_none e hTn)]; exact e) (fun b o u e => by rw [upd_ne (ne_of_none e hTn)]; exact e)
    (fun b ps e => ⟨#[], by rw [upd_ne (ne_of_none e hTn), e]; simp⟩) (fun m hm => ?_) (fun b u e => ?_) I.bare
  · obtain ⟨o, es, ep, ho, r⟩ := hm
    exact ⟨o, es, ep, hk _ o (fun hb => (hch _ hb).2.1 rfl) ho, r⟩
  · by_cases hb : b = T
    · subst hb
      rw [upd_same] at e
      cases e
      exact ⟨hz, its, rv, hv⟩
    · rw [upd_ne hb] at e
      refine (I.hok b u e).stay (fun c v hc q => hk c v ?_ q) (fun c q => by rw [upd_ne (ne_of_none q hTn)]; exact q) fun c xs q => by rw [upd_ne (ne_of_none q hTn)]; exact q
      rcases hc with hc | hc
      · rw [hc]; exact nch b u e
      · exact nch c _ hc

/-! ### sequences: a list, a tuple -/
/-- false: a list, true: a tuple -/
def SqX (k : Bool) (K : PySem.W.Frag) (H : Hp) (a : Addr) (xs : List V) : Prop := match k with
  | false => SqL K H a xs
  | true => SqT K H a xs
def ItX (k : Bool) (h : Heap) (it a : Addr) (i : Nat) : Prop := match k with
  | false => h.IsListIter it a i
  | true => h.IsTupleIter it a i
def ObX (k : Bool) (h : Heap) (a : Addr) (items : Array Value) : Prop := match k with
  | false => h.IsList a items
  | true => h.IsTuple a items
theorem SqX.inv {k : Bool} {X : Cx} {pins : List (Addr × Obj)} {σ : L2.St} {H : Hp} {s : Shared} {a : Addr} {xs : List V} (I : Inv X pins σ H s) (h : SqX k X.K H a xs) : ∃ its : List Value, Vals xs its ∧ ObX k s.heap a its.toArray ∧ xs.length ≤ sizeLine := by
  cases k with
  | false => obtain ⟨its, r, p, z⟩ := I.list h; exact ⟨its, r, p.isList, z⟩
  | true => obtain ⟨its, r, p, z⟩ := I.tuple h; exact ⟨its, r, p, z⟩
theorem SqX.uniq {k : Bool} {X : Cx} {pins : List (Addr × Obj)} {σ : L2.St} {H : Hp} {s : Shared} {a : Addr} {xs ys : List V} (I : Inv X pins σ H s) (h : SqX k X.K H a xs) (h' : SqX k X.K H a ys) : xs = ys := by
  cases k with
  | false => exact I.list_inj h h'
  | true => exact I.tuple_inj h h'
theorem draws_X {prog : Program} {w : World} {A : Around} (k : Bool) (hh : A.handled = none) (it l : Addr) (hne : l ≠ it) (items : Array Value) :
    Draws prog w A it [it, l] items.size (fun i v => items[i]? = some v) (fun i h => ItX k h it l i ∧ ObX k h l items) := by
  cases k with
  | false => exact Draws.list hh it l hne items
  | true => exact Draws.tuple hh it l hne items
def objX (k : Bool) (l : Addr) : Obj := { cls := .type (match k with | false => "list_iterator" | true => "tuple_iterator"), data := .fields #[.ref l, .int 0 0] }
theorem begins_X (k : Bool) (l : Addr) (items : Array Value) : Begins (.ref l) (objX k l) fun h => ObX k h l items := by
  cases k with
  | false => exact begins_list l items
  | true => exact begins_tuple l items
theorem ItX.start {k : Bool} {h : Heap} {it l : Addr} (e : h.get? it = some (objX k l)) : ItX k h it l 0 := by
  cases k with
  | false => exact ⟨_, e, rfl, rfl⟩
  | true => exact ⟨_, e, rfl, rfl⟩
theorem ItX.keep {k : Bool} {h h' : Heap} {it l : Addr} {i : Nat} (st : ItX k h it l i) (e : ∀ o, h.get? it = some o → h'.get? it = some o) : ItX k h' it l i := by
  cases k with
  | false => exact Heap.IsListIter.at st e
  | true => exact Heap.IsTupleIter.at st e
theorem ItX.obj {k : Bool} {h : Heap} {it l : Addr} {i : Nat} (st : ItX k h it l i) : ∃ o, h.get? it = some o ∧ ∀ v, o.data ≠ .cell v := by
  cases k with
  | false =>
    obtain ⟨o, e, _, d⟩ := st
    exact ⟨o, e, fun v z => by rw [d] at z; cases z⟩
  | true =>
    obtain ⟨o, e, _, d⟩ := st
    exact ⟨o, e, fun v z => by rw [d] at z; cases z⟩
theorem ObX.ne {k : Bool} {h : Heap} {it l : Addr} {k' : Bool} {l' : Addr} {items : Array Value} {i : Nat} (o : ObX k h l items) (st : ItX k' h it l' i) : l ≠ it := by
  intro e
  subst e
  have h1 : ∃ o n, h.get? l = some o ∧ o.data = .seq items n := by
    cases k with
    | false => obtain ⟨o, ho, _, n, d⟩ := o; exact ⟨o, n, ho, d⟩
    | true => obtain ⟨o, ho, _, n, d⟩ := o; exact ⟨o, n, ho, d⟩
  obtain ⟨o1, n, e1, d1⟩ := h1
  have h2 : ∃ o vs, h.get? l = some o ∧ o.data = .fields vs := by
    cases k' with
    | false => obtain ⟨o, ho, _, d⟩ := st; exact ⟨o, _, ho, d⟩
    | true => obtain ⟨o, ho, _, d⟩ := st; exact ⟨o, _, ho, d⟩
  obtain ⟨o2, vs, e2, d2⟩ := h2
  rw [e1] at e2
  cases e2
  rw [d1] at d2
  cases d2

/-! ### zip of two sequences -/
def ItZ (K : PySem.W.Frag) (k1 k2 : Bool) (a b : Addr) : It :=
  ⟨fun i H => ∃ (xs ys : List V), SqX k1 K H a xs ∧ SqX k2 K H b ys ∧ i < xs.length ∧ i < ys.length,
   fun i H v H' => ∃ T x y, v = .ref T ∧ H T = none ∧ H' = upd H T (.tup [x, y]) ∧ (∀ xs, SqX k1 K H a xs → xs[i]? = some x) ∧ ∀ ys, SqX k2 K H b ys → ys[i]? = some y,
   fun i H => ∃ xs ys : List V, SqX k1 K H a xs ∧ SqX k2 K H b ys ∧ i = min xs.length ys.length⟩
theorem fp_ne {X : Cx} {pins : List (Addr × Obj)} {σ : L2.St} {H : Hp} {s : Shared} {k : Bool} {a b : Addr} {xs : List V} (I : Inv X pins σ H s) (q : SqX k X.K H a xs) (hf : FpOk X pins H b) : a ≠ b := by
  rintro rfl
  have inK : ∀ o : Obj, X.K.lookup a = some o → False := fun o hk => by
    have hb := I.ok.mod.kin a o hk
    rcases hf.2.2.2.1 with h | h
    · exact I.ok.noex a o hb h
    · exact absurd (Nat.lt_of_lt_of_le (Heap.lt_size hb) (Nat.le_trans I.ok.bsz h)) (Nat.lt_irrefl _)
  have inH : ∀ u : HO, Rd H a u → False := fun u hr => by
    rcases hr with h | ⟨o, h⟩
    · rw [hf.1] at h; cases h
    · rw [hf.1] at h; cases h
  cases k with
  | false =>
    rcases q with h | ⟨o, _, _, hk, _⟩
    · exact inH _ h
    · exact inK o hk
  | true =>
    rcases q with h | ⟨o, _, _, hk, _⟩
    · exact inH _ h
    · exact inK o hk
theorem sub4 {c z TI TO i1 i2 : Addr} (h : c ∈ [z, TO, i1, i2]) : c ∈ [z, TI, TO, i1, i2] := by
  simp only [List.mem_cons, List.not_mem_nil, or_false] at h ⊢
  rcases h with h | h | h | h <;> simp [h]
/-- some untracked records turn -/
theorem inv_turns {X : Cx} {pins : List (Addr × Obj)} {σ : L2.St} {H : Hp} {s : Shared} {ch : List Addr} {h' : Heap} {tk : Nat} (I : Inv X pins σ H s) (hch : ∀ b ∈ ch, FpOk X pins H b)
    (hk : ∀ b o, b ∉ ch → s.heap.get? b = some o → h'.get? b = some o) : Inv X pins σ H { s with heap := h', toks := tk } := by
  have nch : ∀ b u, H b = some u → b ∉ ch := fun b u e hb => by
    rw [(hch b hb).1] at e
    cases e
  refine I.step (g' := s.gens) (d' := s.drawn) (ch := ch) (fun b hb => ⟨(hch b hb).2.2.2.1, (hch b hb).2.1, (hch b hb).2.2.2.2.1, (hch b hb).2.2.2.2.2⟩) (fun b o _ _ hc e _ => hk b o hc e) (fun b o _ _ hc e _ => ⟨o.slots, hk b o hc e⟩)
    (fun b o _ e n => n) (fun b o hc e => ⟨o, hk b o hc e⟩) (fun b xs e => e) (fun b o u e => e) (fun b ps e => ⟨#[], by rw [e]; simp⟩) (fun m hm => ?_) (fun b u e => ?_) I.bare
  · obtain ⟨o, es, ep, ho, r⟩ := hm
    exact ⟨o, es, ep, hk _ o (fun hb => (hch _ hb).2.1 rfl) ho, r⟩
  · refine (I.hok b u e).stay (fun c v hc q => hk c v ?_ q) (fun c q => q) fun c xs q => q
    rcases hc with hc | hc
    · rw [hc]; exact nch b u e
    · exact nch c _ hc
theorem sep_more {z TI TO i1 i2 a b : Addr} (S : ZipSep2 z TI TO i1 i2 [i1] [i2]) (ha : ∀ c ∈ [z, TI, TO, i1, i2], a ≠ c) (hb : ∀ c ∈ [z, TI, TO, i1, i2], b ≠ c) : ZipSep2 z TI TO i1 i2 [i1, a] [i2, b] := by
  have z1 : z ≠ i1 := S.zi1
  have z2 : z ≠ i2 := S.zi2
  have t1 : TO ≠ i1 := S.Ti1
  have t2 : TO ≠ i2 := S.Ti2
  have d : i1 ≠ i2 := fun e => S.sep1_2 (by simp [e])
  have ha := fun c h => (ha c h).symm
  have hb := fun c h => (hb c h).symm
  simp only [List.mem_cons, List.not_mem_nil, or_false, forall_eq_or_imp, forall_eq] at ha hb
  exact ⟨S.TIz, S.TOz, S.TITO, S.TIi1, by simp, by simp [z1, ha.1], by simp [t1, ha.2.2.1], S.TIi2, by simp, by simp [z2, hb.1], by simp [t2, hb.2.2.1], by simp [d, hb.2.2.2.1], by simp [d.symm, ha.2.2.2.2]⟩
theorem turn_zipX {P : Program} {w : World} {K : PySem.W.Frag} {elts : List Expr} {kk : Nat} {tpos : Pos} {k1 k2 : Bool} {a b z TI TO i1 i2 : Addr} (S0 : ZipSep2 z TI TO i1 i2 [i1] [i2]) :
    Turn P w K (.Tuple elts kk tpos) (ItZ K k1 k2 a b) [z, TI, TO, i1, i2] z
      (fun i h => IsZip h z TI TO .none ∧ IsTupOf2 h TI (.ref i1) (.ref i2) ∧ (∃ a1 a2, IsTupOf2 h TO a1 a2) ∧ ItX k1 h i1 a i ∧ ItX k2 h i2 b i) where
  mem := by simp
  obj := fun i h ⟨h1, h2, ⟨a1, a2, h3⟩, h4, h5⟩ c hc => by
    have hc' : c = z ∨ c = TI ∨ c = TO ∨ c = i1 ∨ c = i2 := by simpa using hc
    rcases hc' with rfl | rfl | rfl | rfl | rfl
    · exact ⟨_, h1, fun v z => by cases z⟩
    · exact ⟨_, h2, fun v z => by cases z⟩
    · exact ⟨_, h3, fun v z => by cases z⟩
    · exact h4.obj
    · exact h5.obj
  keep := fun i h h' ⟨h1, h2, ⟨a1, a2, h3⟩, h4, h5⟩ k => ⟨k _ (by simp) _ h1, k _ (by simp) _ h2, ⟨a1, a2, k _ (by simp) _ h3⟩, h4.keep fun o e => k _ (by simp) o e, h5.keep fun o e => k _ (by simp) o e⟩
  item := by
    intro X hP hw hK hc i pins s σ H E I hf ⟨h1, h2, h3, h4, h5⟩ hg
    subst hP hw hK
    obtain ⟨xs, ys, q1, q2, l1, l2⟩ := hg
    obtain ⟨its1, r1, o1, z1⟩ := q1.inv I
    obtain ⟨its2, r2, o2, z2⟩ := q2.inv I
    have na : ∀ c ∈ [z, TI, TO, i1, i2], a ≠ c := fun c hm => fp_ne I q1 (hf c hm)
    have nb : ∀ c ∈ [z, TI, TO, i1, i2], b ≠ c := fun c hm => fp_ne I q2 (hf c hm)
    have hh : X.A.in1.handled = none := I.ok.hd hc
    have W := GoesN.zip2 (elts := elts) (x1 := kk) (pos := tpos) (sep_more S0 na nb) (draws_X (prog := X.prog) (w := X.w) (A := X.A.in1) k1 hh i1 a (na i1 (by simp)) its1.toArray) (draws_X (prog := X.prog) (w := X.w) (A := X.A.in1) k2 hh i2 b (nb i2 (by simp)) its2.toArray)
    have e1 := r1.length
    have e2 := r2.length
    refine wpAny_mono (W.goes i s (fun u s2 => ∃ x H', Inv X pins σ H' s2 ∧ RelV x u ∧ (ItZ X.K k1 k2 a b).yld i H x H' ∧ (IsZip s2.heap z TI TO .none ∧ IsTupOf2 s2.heap TI (.ref i1) (.ref i2) ∧ (∃ a1 a2, IsTupOf2 s2.heap TO a1 a2) ∧ ItX k1 s2.heap i1 a (i + 1) ∧ ItX k2 s2.heap i2 b (i + 1)) ∧ ∀ b ∈ [z, TI, TO, i1, i2], H' b = none) E
      (by simp only [List.size_toArray]; omega) ⟨h1, h2, h3, ⟨h4, o1⟩, h5, o2⟩ fun v h' tk hY st' hk htk => ?_) (fun r s1 q => q) fun _ _ e => e
    obtain ⟨T, x, y, rfl, hT, hx, hy, ht⟩ := hY
    have hx' : its1[i]? = some x := by simpa using hx
    have hy' : its2[i]? = some y := by simpa using hy
    have gx : xs[i]? = some xs[i] := List.getElem?_eq_getElem l1
    have gy : ys[i]? = some ys[i] := List.getElem?_eq_getElem l2
    obtain ⟨ux, hux, rx⟩ := r1.get gx
    obtain ⟨uy, huy, ry⟩ := r2.get gy
    rw [hx'] at hux
    rw [hy'] at huy
    cases hux
    cases huy
    have hTn : H T = none := I.hok.fresh hT
    have I2 : Inv X pins σ (upd H T (.tup [xs[i], ys[i]])) { s with heap := h', toks := tk } := inv_turn_new (ch := [z, TI, TO, i1, i2]) I hf (fun c o hn e => hk c o (fun hm => hn (sub4 hm)) e) hT (by show 2 ≤ sizeLine; decide) (.cons rx (.cons ry .nil)) ht
    refine ⟨.ref T, _, I2, rfl, ⟨T, _, _, rfl, hTn, rfl, fun zs hz => ?_, fun zs hz => ?_⟩, ⟨st'.1, st'.2.1, st'.2.2.1, st'.2.2.2.1.1, st'.2.2.2.2.1⟩, fun c hc => ?_⟩
    · rw [hz.uniq I q1]; exact gx
    · rw [hz.uniq I q2]; exact gy
    · have hn := (hf c hc).1
      by_cases hcT : c = T
      · subst hcT
        have hc' : c = z ∨ c = TI ∨ c = TO ∨ c = i1 ∨ c = i2 := by simpa using hc
        have : ∃ o, s.heap.get? c = some o := by
          obtain ⟨a1, a2, h3⟩ := h3
          rcases hc' with rfl | rfl | rfl | rfl | rfl
          · exact ⟨_, h1⟩
          · exact ⟨_, h2⟩
          · exact ⟨_, h3⟩
          · obtain ⟨o', e', _⟩ := h4.obj
            exact ⟨o', e'⟩
          · obtain ⟨o', e', _⟩ := h5.obj
            exact ⟨o', e'⟩
        obtain ⟨o, e⟩ := this
        exact absurd (Nat.lt_of_lt_of_le (Heap.lt_size e) hT) (Nat.lt_irrefl _)
      · rw [upd_ne hcT]; exact hn
  done := by
    intro X hP hw hK hc i pins s σ H E I hf ⟨h1, h2, h3, h4, h5⟩ hg
    subst hP hw hK
    obtain ⟨xs, ys, q1, q2, l1⟩ := hg
    obtain ⟨its1, r1, o1, z1⟩ := q1.inv I
    obtain ⟨its2, r2, o2, z2⟩ := q2.inv I
    have na : ∀ c ∈ [z, TI, TO, i1, i2], a ≠ c := fun c hm => fp_ne I q1 (hf c hm)
    have nb : ∀ c ∈ [z, TI, TO, i1, i2], b ≠ c := fun c hm => fp_ne I q2 (hf c hm)
    have hh : X.A.in1.handled = none := I.ok.hd hc
    have W := GoesN.zip2 (elts := elts) (x1 := kk) (pos := tpos) (sep_more S0 na nb) (draws_X (prog := X.prog) (w := X.w) (A := X.A.in1) k1 hh i1 a (na i1 (by simp)) its1.toArray) (draws_X (prog := X.prog) (w := X.w) (A := X.A.in1) k2 hh i2 b (nb i2 (by simp)) its2.toArray)
    have e1 := r1.length
    have e2 := r2.length
    have ei : i = min its1.toArray.size its2.toArray.size := by simp only [List.size_toArray]; omega
    rw [ei] at h4 h5
    exact W.stops s (fun s1 => Inv X pins σ H s1) E ⟨h1, h2, h3, ⟨h4, o1⟩, h5, o2⟩ fun h' tk hk htk => inv_turns (ch := [z, TI, TO, i1, i2]) I hf fun c o hn e => hk c o (fun hm => hn (sub4 hm)) e
  self := fun A i s Q E ⟨h1, _⟩ h => wpAny_pyIter_zip h1 h
end IL

/-! own layer, part 11: enumerate; the judgement of what a loop walks -/
namespace IL
open PySem PySem.Spec PyProof.Rows L2

/-! ### enumerate of a sequence -/
set_option maxHeartbeats 2000000 in
theorem enum_meets1 {v : Value} {o : Obj} {W : Heap → Prop} (B : Begins v o W) : Meets (Builtin.«enumerate.__new__» ⟨[.type "enumerate", v], []⟩) (fun _ R s0 => W s0.heap ∧
      R (.ok (.ret (.ref (s0.heap.push o).objs.size))) { s0 with heap := (s0.heap.push o).push { cls := .type "enumerate", data := .fields #[.none, .bool false, .ref s0.heap.objs.size, rawInt 0, .none, .none] } }) :=
  .of_wp fun pr wo A R s0 hs => by
    obtain ⟨hp, gg, dd, tt, ss⟩ := s0
    obtain ⟨hw, hr⟩ := hs
    have sb := sub_enumerate
    have itr : ∀ {A' : Around} {E' : Value → Shared → Prop} {Q' : Value → Shared → Prop}, Q' (.ref hp.objs.size) ⟨hp.push o, gg, dd, tt, ss⟩ → wpAny (model pr wo) A' (pyIter v) Q' E' ⟨hp, gg, dd, tt, ss⟩ := fun q' => B.iter pr wo _ _ ⟨hp, gg, dd, tt, ss⟩ _ hw q'
    wp_walk using itr
    refine wpAny_stack_any fun stk => wpAny_pure ?_
    split
    · rename_i cc _ _ _ _ _
      cases (cc == Value.type "enumerate")
      all_goals (wp_walk using itr; exact ⟨_, rfl, hr⟩)
    · (wp_walk using itr; exact ⟨_, rfl, hr⟩)
theorem enum_call1 {prog : Program} {w : World} {A : Around} {E : Value → Shared → Prop} {s : Shared} {v : Value} {o : Obj} {W : Heap → Prop} {Q : Value → Shared → Prop} (B : Begins v o W) (hw : W s.heap)
    (k : ∀ hq, IsEnum hq (s.heap.objs.size + 1) s.heap.objs.size 0 .none → hq.get? s.heap.objs.size = some o → (∀ b ob, s.heap.get? b = some ob → hq.get? b = some ob) → Q (.ref (s.heap.objs.size + 1)) { s with heap := hq }) :
    wpAny (model prog w) A (call (.type "enumerate") [v]) Q E s := by
  have e1 : (s.heap.push o).objs.size = s.heap.objs.size + 1 := Heap.size_push ..
  have e2 : ((s.heap.push o).push { cls := .type "enumerate", data := .fields #[.none, .bool false, .ref s.heap.objs.size, rawInt 0, .none, .none] }).get? (s.heap.push o).objs.size = some { cls := .type "enumerate", data := .fields #[.none, .bool false, .ref s.heap.objs.size, rawInt 0, .none, .none] } := Heap.get?_push_size _ rfl
  refine callType_new F.called_enumerate (by decide) (F.typeCall_enumerate_1 _) (F.newCall_enumerate_1 _) (fun ob => F.args_object_init_2 ob _) F.entry_enumerate_new (enum_meets1 B) ⟨hw, ?_⟩
  show _ ∧ _
  rw [e1] at e2 ⊢
  exact ⟨⟨_, e2, rfl⟩, k _ e2 (Heap.get?_push_of_some _ (Heap.get?_push_size _ B.free)) fun b ob x => Heap.get?_push_of_some _ (Heap.get?_push_of_some _ x)⟩
def ItE (K : PySem.W.Frag) (k : Bool) (a : Addr) : It :=
  ⟨fun i H => ∃ xs : List V, SqX k K H a xs ∧ i < xs.length,
   fun i H v H' => ∃ T x, v = .ref T ∧ H T = none ∧ H' = upd H T (.tup [.int (i : Nat), x]) ∧ ∀ xs, SqX k K H a xs → xs[i]? = some x,
   fun i H => ∃ xs : List V, SqX k K H a xs ∧ i = xs.length⟩
theorem turn_enumX {P : Program} {w : World} {K : PySem.W.Frag} {elts : List Expr} {kk : Nat} {tpos : Pos} {k : Bool} {a e it : Addr} (hei : e ≠ it) :
    Turn P w K (.Tuple elts kk tpos) (ItE K k a) [e, it] e (fun i h => (∃ old, IsEnum h e it (0 + (i : Int)) old) ∧ ItX k h it a i) where
  mem := by simp
  obj := fun i h ⟨⟨old, h1⟩, h2⟩ c hc => by
    have hc' : c = e ∨ c = it := by simpa using hc
    rcases hc' with rfl | rfl
    · exact ⟨_, h1, fun v z => by cases z⟩
    · exact h2.obj
  keep := fun i h h' ⟨⟨old, h1⟩, h2⟩ q => ⟨⟨old, q _ (by simp) _ h1⟩, h2.keep fun o x => q _ (by simp) o x⟩
  item := by
    intro X hP hw hK hc i pins s σ H E I hf ⟨h1, h2⟩ hg
    subst hP hw hK
    obtain ⟨xs, q1, l1⟩ := hg
    obtain ⟨its1, r1, o1, z1⟩ := q1.inv I
    have na : ∀ c ∈ [e, it], a ≠ c := fun c hm => fp_ne I q1 (hf c hm)
    have hh : X.A.in1.handled = none := I.ok.hd hc
    have nea := na e (by simp)
    have W := GoesN.enumFrom (elts := elts) (x1 := kk) (pos := tpos) 0 (draws_X (prog := X.prog) (w := X.w) (A := X.A.in1) k hh it a (na it (by simp)) its1.toArray) e hei (by simp [hei, nea.symm]) (by simp)
    have e1 := r1.length
    refine wpAny_mono (W.goes i s (fun u s2 => ∃ x H', Inv X pins σ H' s2 ∧ RelV x u ∧ (ItE X.K k a).yld i H x H' ∧ ((∃ old, IsEnum s2.heap e it (0 + ((i + 1 : Nat) : Int)) old) ∧ ItX k s2.heap it a (i + 1)) ∧ ∀ b ∈ [e, it], H' b = none) E
      (by simp only [List.size_toArray]; omega) ⟨h1, h2, o1⟩ fun v h' tk hY st' hk htk => ?_) (fun r s1 q => q) fun _ _ e => e
    obtain ⟨T, t, x, rfl, hT, hx, ht⟩ := hY
    have hx' : its1[i]? = some x := by simpa using hx
    have gx : xs[i]? = some xs[i] := List.getElem?_eq_getElem l1
    obtain ⟨ux, hux, rx⟩ := r1.get gx
    rw [hx'] at hux
    cases hux
    have hTn : H T = none := I.hok.fresh hT
    have ez : (0 : Int) + (i : Int) = (i : Int) := by omega
    rw [ez] at ht
    have I2 : Inv X pins σ (upd H T (.tup [.int (i : Nat), xs[i]])) { s with heap := h', toks := tk } := inv_turn_new (ch := [e, it]) I hf hk hT (by show 2 ≤ sizeLine; decide) (.cons ⟨t, rfl⟩ (.cons rx .nil)) ht
    refine ⟨.ref T, _, I2, rfl, ⟨T, _, rfl, hTn, rfl, fun zs hz => ?_⟩, ⟨st'.1, st'.2.1⟩, fun c hc => ?_⟩
    · rw [hz.uniq I q1]; exact gx
    · have hn := (hf c hc).1
      by_cases hcT : c = T
      · subst hcT
        have hc' : c = e ∨ c = it := by simpa using hc
        have : ∃ o, s.heap.get? c = some o := by
          obtain ⟨old, h1⟩ := h1
          rcases hc' with rfl | rfl
          · exact ⟨_, h1⟩
          · obtain ⟨o', e', _⟩ := h2.obj
            exact ⟨o', e'⟩
        obtain ⟨o, e⟩ := this
        exact absurd (Nat.lt_of_lt_of_le (Heap.lt_size e) hT) (Nat.lt_irrefl _)
      · rw [upd_ne hcT]; exact hn
  done := by
    intro X hP hw hK hc i pins s σ H E I hf ⟨h1, h2⟩ hg
    subst hP hw hK
    obtain ⟨xs, q1, l1⟩ := hg
    obtain ⟨its1, r1, o1, z1⟩ := q1.inv I
    have na : ∀ c ∈ [e, it], a ≠ c := fun c hm => fp_ne I q1 (hf c hm)
    have hh : X.A.in1.handled = none := I.ok.hd hc
    have nea := na e (by simp)
    have W := GoesN.enumFrom (elts := elts) (x1 := kk) (pos := tpos) 0 (draws_X (prog := X.prog) (w := X.w) (A := X.A.in1) k hh it a (na it (by simp)) its1.toArray) e hei (by simp [hei, nea.symm]) (by simp)
    have e1 := r1.length
    have ei : i = its1.toArray.size := by simp only [List.size_toArray]; omega
    rw [ei] at h1 h2
    exact W.stops s (fun s1 => Inv X pins σ H s1) E ⟨h1, h2, o1⟩ fun h' tk hk htk => inv_turns (ch := [e, it]) I hf hk
  self := fun A i s Q E ⟨⟨old, h1⟩, _⟩ h => wpAny_pyIter_enum h1 h

section
variable {X : Cx} {tg e e2 : Expr} {te : TE} {ta : TA} {p pos tpos : Pos} {elts : List Expr} {kk : Nat}
def iZipX (K : PySem.W.Frag) (ta : TA) : TI := fun σ H R => ta σ H fun vs H1 => ∃ a b xs ys k1 k2, vs = [.ref a, .ref b] ∧ SqX k1 K H1 a xs ∧ SqX k2 K H1 b ys ∧ R (ItZ K k1 k2 a b) H1
theorem zip_sep0 (N : Nat) : ZipSep2 (N + 4) (N + 2) (N + 3) N (N + 1) [N] [N + 1] := zip_sep2 (fp1 := []) (fp2 := []) (fun b hb => absurd hb (by simp)) (fun b hb => absurd hb (by simp))
theorem pi_zipX (hg : Gl X "zip") (hm : X.mg "zip" = none) (ha : PA X [e, e2] ta) (hs : starEach [e, e2] X.env = (false, eval e X.env) :: starEach [e2] X.env) (hpl : (backTo pos (starEach [e2] X.env)).any (·.1) = false) :
    PI X (.Tuple elts kk tpos) (.Call (.Name "zip" p) [e, e2] [] pos) (iZipX X.K ta) := by
  refine ⟨fun pins s σ H R I hh => ?_⟩
  refine Call_ (ld_blt I hg hm PyProof.Rows.boot_zip (PyProof.Rows.callWith_type1 (thn (ha.run pos pins s σ H _ I hh) fun us s1 ⟨vs, H1, I1, r1, q1⟩ => ?_) hs hpl))
  obtain ⟨a, b, xs, ys, k1, k2, rfl, hqx, hqy, q⟩ := q1
  obtain ⟨u1, u2, rfl, ru1, ru2⟩ := r1.two
  cases ru1
  cases ru2
  obtain ⟨its, rv, p1, _⟩ := hqx.inv I1
  obtain ⟨its2, rv2, p2, _⟩ := hqy.inv I1
  refine zip_begins2 (begins_X k1 a its.toArray) (begins_X k2 b its2.toArray) p1 p2 fun hq hz hTI hTO g1 g2 hsz hk => wpAny_pyIter_zip hz ?_
  refine ⟨s1.heap.objs.size + 4, [s1.heap.objs.size + 4, s1.heap.objs.size + 2, s1.heap.objs.size + 3, s1.heap.objs.size, s1.heap.objs.size + 1], _, _, H1, rfl, I1.kept (t' := s1.toks) hk, turn_zipX (zip_sep0 _), ⟨hz, hTI, ⟨_, _, hTO⟩, .start g1, .start g2⟩, fun c hc => ?_, q⟩
  have hle : s1.heap.objs.size ≤ c := by
    simp only [List.mem_cons, List.not_mem_nil, or_false] at hc
    rcases hc with z | z | z | z | z <;> rw [z] <;> first
      | exact Nat.le_refl _
      | exact Nat.le_add_right _ _
  exact I1.fpOk hle (I1.hok.fresh hle)
def iEnumX (K : PySem.W.Frag) (ta : TA) : TI := fun σ H R => ta σ H fun vs H1 => ∃ a xs k, vs = [.ref a] ∧ SqX k K H1 a xs ∧ R (ItE K k a) H1
theorem pi_enumX (hg : Gl X "enumerate") (hm : X.mg "enumerate" = none) (ha : PA X [e] ta) (hs : starEach [e] X.env = [(false, eval e X.env)]) :
    PI X (.Tuple elts kk tpos) (.Call (.Name "enumerate" p) [e] [] pos) (iEnumX X.K ta) := by
  refine ⟨fun pins s σ H R I hh => ?_⟩
  refine Call_ (ld_blt I hg hm boot_enumerate (PyProof.Rows.callWith_type1 (thn (ha.run pos pins s σ H _ I hh) fun us s1 ⟨vs, H1, I1, r1, q1⟩ => ?_) hs rfl))
  obtain ⟨a, xs, k, rfl, hq, q⟩ := q1
  obtain ⟨u, rfl, ru⟩ := r1.one
  cases ru
  obtain ⟨its, rv, p1, _⟩ := hq.inv I1
  refine enum_call1 (begins_X k a its.toArray) p1 fun h2 he g1 hk => wpAny_pyIter_enum he ?_
  refine ⟨s1.heap.objs.size + 1, [s1.heap.objs.size + 1, s1.heap.objs.size], _, _, H1, rfl, I1.kept (t' := s1.toks) hk, turn_enumX (Nat.succ_ne_self _), ⟨⟨.none, he⟩, .start g1⟩, fun c hc => ?_, q⟩
  have hle : s1.heap.objs.size ≤ c := by
    simp only [List.mem_cons, List.not_mem_nil, or_false] at hc
    rcases hc with z | z <;> rw [z] <;> first
      | exact Nat.le_refl _
      | exact Nat.le_add_right _ _
  exact I1.fpOk hle (I1.hok.fresh hle)
/-- e itself: a list, a tuple, a text -/
def iSeq (K : PySem.W.Frag) (te : TE) : TI := fun σ H R => te σ H fun v H1 => (∃ a xs, v = .ref a ∧ SqL K H1 a xs ∧ R (Itl K a) H1) ∨ (∃ a xs, v = .ref a ∧ SqT K H1 a xs ∧ R (Itt K a) H1) ∨ ∃ x, v = .str x ∧ R (Its x) H1
theorem pi_seq (he : PE X e te) : PI X tg e (iSeq X.K te) := by
  refine ⟨fun pins s σ H R I hh => ?_⟩
  refine thn (he.run pins s σ H _ I hh) fun v s1 ⟨x, H1, I1, r1, q1⟩ => ?_
  rcases q1 with ⟨a, xs, rfl, hq, q⟩ | ⟨a, xs, rfl, hq, q⟩ | ⟨z, rfl, q⟩
  · cases r1
    obtain ⟨its, rv, pl, hz⟩ := I1.list hq
    exact wpAny_pyIter_list pl.isList (pi_one (tk := s1.toks) I1 _ (turn_list a _) ⟨_, Heap.get?_push_size _ rfl, rfl, rfl⟩ q)
  · cases r1
    obtain ⟨its, rv, pt, hz⟩ := I1.tuple hq
    exact wpAny_pyIter_tuple (show s1.heap.IsTuple a its.toArray from pt) (pi_one (tk := s1.toks) I1 _ (turn_tuple a _) ⟨_, Heap.get?_push_size _ rfl, rfl, rfl⟩ q)
  · obtain ⟨t, rfl⟩ := r1
    cases ha : z.cps.all (· < 128)
    · exact wpAny_pyIter_wide ha (pi_one (tk := s1.toks) I1 _ (turn_str _ z t "str_iterator" (.inr rfl)) ⟨_, Heap.get?_push_size _ rfl, rfl, rfl⟩ q)
    · exact wpAny_pyIter_ascii ha (pi_one (tk := s1.toks) I1 _ (turn_str _ z t "str_ascii_iterator" (.inl rfl)) ⟨_, Heap.get?_push_size _ rfl, rfl, rfl⟩ q)
end

/-! ### the judgement -/
abbrev Deps := List (Nat × List D)
def depsOk (dp : Deps) (h : IH) : Prop := ∀ q ∈ dp, h[q.1]? = some (.lst q.2)
abbrev ISrc := IEnv → IH → Option (List D × Deps × IH)
/-- the iterator yields the items, as long as the lists below it stand -/
def SrcOk (c : Ct) (J : It) (ι0 : List Addr) (H0 : Hp) (items : List D) (dp : Deps) : Prop := ∀ (ι : List Addr) (H : Hp) (h : IH), Evo ι0 H0 ι H → Sim c ι h H → depsOk dp h →
  (∀ (i : Nat) (d : D), items[i]? = some d → J.go i H ∧ ∀ x H', J.yld i H x H' → Evo ι H ι H' ∧ Sim c ι h H' ∧ Rep c ι H' x d) ∧ J.stop items.length H
def tP (c : Ct) (f : ISrc) : TI := fun σ H R => ∃ ι h env items dp h', Sim c ι h H ∧ EnvR c ι H σ env ∧ f env h = some (items, dp, h') ∧ depsOk dp h' ∧ ∀ ι' H' J, Evo ι H ι' H' → Sim c ι' h' H' → SrcOk c J ι' H' items dp → R J H'
abbrev PX (X : Cx) (cls : Nat → Addr) (tg e : Expr) (f : ISrc) : Prop := PI X tg e (tP ⟨X.K, cls⟩ f)
/-- a sequence's kind, items and what it hangs on -/
def seqSrc (h : IH) : D → Option (Bool × List D × Deps)
  | .tup xs => some (true, xs, [])
  | .kt xs => some (true, xs, [])
  | .sl xs => some (false, xs, [])
  | .loc n => match h[n]? with
    | some (.lst xs) => some (false, xs, [(n, xs)])
    | _ => none
  | _ => none
theorem seqSrc_ok {c : Ct} {ι : List Addr} {h : IH} {H : Hp} {v : V} {x : D} {k : Bool} {xs : List D} {dp : Deps} (S : Sim c ι h H) (r : Rep c ι H v x) (e : seqSrc h x = some (k, xs, dp)) :
    depsOk dp h ∧ ∃ a, v = .ref a ∧ ∀ (ι' : List Addr) (H' : Hp) (h' : IH), Evo ι H ι' H' → Sim c ι' h' H' → depsOk dp h' → ∃ vs, SqX k c.K H' a vs ∧ Reps c ι' H' vs xs := by
  cases x <;> simp only [seqSrc] at e <;> try (cases e; done)
  case tup =>
    cases e
    obtain ⟨a, vs, rfl, ha, ra⟩ := r.tup_inv
    exact ⟨(fun q hq => by cases hq), a, rfl, fun ι' H' h' ev S' _ => ⟨vs, .of (ev.tup _ _ ha), ra.mono ev⟩⟩
  case kt =>
    cases e
    obtain ⟨a, vs, rfl, ha, ra⟩ := r.kt_inv
    exact ⟨(fun q hq => by cases hq), a, rfl, fun ι' H' h' ev S' _ => ⟨vs, (ha.mono ev.frz).sq, ra.mono ev⟩⟩
  case sl =>
    cases e
    obtain ⟨a, vs, rfl, ha, ra⟩ := r.sl_inv
    exact ⟨(fun q hq => by cases hq), a, rfl, fun ι' H' h' ev S' _ => ⟨vs, (ha.mono ev.frz).sq, ra.mono ev⟩⟩
  case loc n =>
    split at e
    · rename_i ys e1
      cases e
      obtain ⟨a, rfl, ha⟩ := r.loc_inv
      refine ⟨fun q hq => ?_, a, rfl, fun ι' H' h' ev S' dk => ?_⟩
      · have : q = (n, xs) := by simpa using hq
        subst this
        exact e1
      · obtain ⟨vs, h1, r1⟩ := S'.oat (ev.get ha) (dk (n, xs) (by simp))
        exact ⟨vs, .of h1, r1⟩
    · cases e
def chars (z : Str) : List D := z.cps.toList.map fun k => .str ⟨#[k]⟩
/-- a plain source -/
def pSeq (f : IE) : ISrc := fun env h => (f env h).bind fun (x, h1) => match x with
  | .str z => some (chars z, [], h1)
  | x => (seqSrc h1 x).map fun (_, xs, dp) => (xs, dp, h1)
def pZip (a : IA) : ISrc := fun env h => (a env h).bind fun (ds, h1) => match ds with
  | [x, y] => (seqSrc h1 x).bind fun (_, xs, dp) => (seqSrc h1 y).map fun (_, ys, dq) => ((xs.zip ys).map fun (x, y) => .tup [x, y], dp ++ dq, h1)
  | _ => none
def enumD (n : Nat) : List D → List D
  | [] => []
  | d :: ds => .tup [.int n, d] :: enumD (n + 1) ds
def pEnum (a : IA) : ISrc := fun env h => (a env h).bind fun (ds, h1) => match ds with
  | [x] => (seqSrc h1 x).map fun (_, xs, dp) => (enumD 0 xs, dp, h1)
  | _ => none
def rangeD (lo : Int) (n : Nat) : List D := (List.range n).map fun i => .int (lo + (i : Nat))
def pRange1 (a : IA) : ISrc := fun env h => (a env h).bind fun (ds, h1) => match ds with
  | [.int j] => if (decide (-(2 ^ 62) ≤ j) && decide (j < 2 ^ 62)) = true then some (rangeD 0 j.toNat, [], h1) else none
  | _ => none
def pRange2 (a : IA) : ISrc := fun env h => (a env h).bind fun (ds, h1) => match ds with
  | [.int i, .int j] => if (decide (-(2 ^ 62) ≤ i) && decide (i < 2 ^ 62) && (decide (-(2 ^ 62) ≤ j) && decide (j < 2 ^ 62))) = true then some (rangeD i (j - i).toNat, [], h1) else none
  | _ => none
def pRev (f : IE) : ISrc := fun env h => (f env h).bind fun (x, h1) => (seqSrc h1 x).map fun (_, xs, dp) => (xs.reverse, dp, h1)
theorem enumD_get : ∀ (xs : List D) (n i : Nat) (d : D), (enumD n xs)[i]? = some d → ∃ x, xs[i]? = some x ∧ d = .tup [.int ((n + i : Nat) : Int), x]
  | [], _, _, _, e => by simp [enumD] at e
  | x :: xs, n, 0, d, e => by
    simp [enumD] at e
    exact ⟨x, by simp, by rw [← e]; simp⟩
  | x :: xs, n, i + 1, d, e => by
    obtain ⟨y, h1, h2⟩ := enumD_get xs (n + 1) i d (by simpa [enumD] using e)
    exact ⟨y, by simpa using h1, by rw [h2, show n + 1 + i = n + (i + 1) by omega]⟩
theorem enumD_len : ∀ (xs : List D) (n : Nat), (enumD n xs).length = xs.length
  | [], _ => rfl
  | _ :: xs, n => by simp [enumD, enumD_len xs]
theorem rangeD_get {lo : Int} {n i : Nat} {d : D} (e : (rangeD lo n)[i]? = some d) : i < n ∧ d = .int (lo + (i : Nat)) := by
  unfold rangeD at e
  rw [List.getElem?_map] at e
  obtain ⟨j, e1, rfl⟩ := Option.map_eq_some_iff.mp e
  have hi : i < n := by
    have := (List.getElem?_eq_some_iff.mp e1).1
    simpa using this
  rw [List.getElem?_range hi] at e1
  cases e1
  exact ⟨hi, rfl⟩
section
variable {X : Cx} {cls : Nat → Addr} {tg e e2 : Expr} {f : IE} {a : IA} {p pos tpos : Pos} {elts : List Expr} {kk : Nat}
theorem srcOk_static {c : Ct} {J : It} {ι0 : List Addr} {H0 : Hp} {items : List D} (hs : ∀ (ι : List Addr) (H : Hp) (h : IH), Evo ι0 H0 ι H → Sim c ι h H → (∀ (i : Nat) (d : D), items[i]? = some d → J.go i H ∧ ∀ x H', J.yld i H x H' → H' = H ∧ Rep c ι H x d) ∧ J.stop items.length H) : SrcOk c J ι0 H0 items [] := by
  intro ι H h ev S _
  obtain ⟨h1, h2⟩ := hs ι H h ev S
  refine ⟨fun i d hd => ⟨(h1 i d hd).1, fun x H' hy => ?_⟩, h2⟩
  obtain ⟨rfl, r⟩ := (h1 i d hd).2 x H' hy
  exact ⟨Evo.refl _ _, S, r⟩
theorem px_seq (he : IX X cls e f) : PX X cls tg e (pSeq f) := PI.imp (pi_seq he) fun σ H R ⟨ι, h, env, items, dp, h', S, E, ex, hd, P⟩ => by
  obtain ⟨⟨x, h1⟩, e1, ex⟩ := Option.bind_eq_some_iff.mp ex
  refine ⟨ι, h, env, x, h1, S, E, e1, fun ι1 H1 v v1 S1 r1 => ?_⟩
  have seq : (seqSrc h1 x).map (fun (_, xs, dp) => (xs, dp, h1)) = some (items, dp, h') → (∃ a xs, v = .ref a ∧ SqL X.K H1 a xs ∧ R (Itl X.K a) H1) ∨ (∃ a xs, v = .ref a ∧ SqT X.K H1 a xs ∧ R (Itt X.K a) H1) ∨ ∃ x, v = .str x ∧ R (Its x) H1 := fun e2 => by
    obtain ⟨⟨k, xs, dp'⟩, e3, e4⟩ := Option.map_eq_some_iff.mp e2
    cases e4
    obtain ⟨d1, b, rfl, d2⟩ := seqSrc_ok S1 r1 e3
    obtain ⟨vs, q1, _⟩ := d2 ι1 H1 _ (Evo.refl _ _) S1 d1
    have uq : ∀ (H : Hp) (us ws : List V), SqX k X.K H b us → SqX k X.K H b ws → True := fun _ _ _ _ _ => trivial
    cases k with
    | false =>
      refine .inl ⟨b, vs, rfl, q1, P ι1 H1 _ v1 S1 fun ι2 H2 h2 v2 S2 dk => ?_⟩
      obtain ⟨ws, q2, r2⟩ := d2 ι2 H2 h2 v2 S2 dk
      refine ⟨fun i d hd => ?_, ⟨ws, q2, Nat.le_of_eq r2.length⟩⟩
      obtain ⟨w, hw, rw'⟩ := r2.get hd
      refine ⟨⟨ws, w, q2, hw⟩, fun x H' hy => ?_⟩
      obtain ⟨rfl, hy⟩ := hy
      have := hy ws q2
      rw [hw] at this
      cases this
      exact ⟨Evo.refl _ _, S2, rw'⟩
    | true =>
      refine .inr (.inl ⟨b, vs, rfl, q1, P ι1 H1 _ v1 S1 fun ι2 H2 h2 v2 S2 dk => ?_⟩)
      obtain ⟨ws, q2, r2⟩ := d2 ι2 H2 h2 v2 S2 dk
      refine ⟨fun i d hd => ?_, ⟨ws, q2, Nat.le_of_eq r2.length⟩⟩
      obtain ⟨w, hw, rw'⟩ := r2.get hd
      refine ⟨⟨ws, w, q2, hw⟩, fun x H' hy => ?_⟩
      obtain ⟨rfl, hy⟩ := hy
      have := hy ws q2
      rw [hw] at this
      cases this
      exact ⟨Evo.refl _ _, S2, rw'⟩
  cases x <;> simp only at ex <;> try (exact seq ex)
  rename_i z
  cases (Option.some.inj ex)
  cases r1
  refine .inr (.inr ⟨z, rfl, P ι1 H1 _ v1 S1 (srcOk_static fun ι2 H2 h2 v2 S2 => ⟨fun i d hd => ?_, ?_⟩)⟩)
  · unfold chars at hd
    rw [List.getElem?_map] at hd
    obtain ⟨k, hk, rfl⟩ := Option.map_eq_some_iff.mp hd
    have hk' : z.cps[i]? = some k := by simpa using hk
    refine ⟨(Array.getElem?_eq_some_iff.mp hk').1, fun x H' hy => ?_⟩
    obtain ⟨rfl, c', hc, rfl⟩ := hy
    rw [hk'] at hc
    cases hc
    exact ⟨rfl, .str _⟩
  · show z.cps.size ≤ _
    simp [chars]
theorem px_zip (hg : Gl X "zip") (hm : X.mg "zip" = none) (ha : KX X cls [e, e2] a) (hs : starEach [e, e2] X.env = (false, eval e X.env) :: starEach [e2] X.env) (hpl : (backTo pos (starEach [e2] X.env)).any (·.1) = false) :
    PX X cls (.Tuple elts kk tpos) (.Call (.Name "zip" p) [e, e2] [] pos) (pZip a) := PI.imp (pi_zipX hg hm ha hs hpl) fun σ H R ⟨ι, h, env, items, dp, h', S, E, ex, hd, P⟩ => by
  obtain ⟨⟨ds, h1⟩, e1, ex⟩ := Option.bind_eq_some_iff.mp ex
  refine ⟨ι, h, env, ds, h1, S, E, e1, fun ι1 H1 vs v1 S1 r1 => ?_⟩
  simp only at ex
  split at ex
  · rename_i x y
    obtain ⟨⟨k1, xs, d1⟩, e2, ex⟩ := Option.bind_eq_some_iff.mp ex
    obtain ⟨⟨k2, ys, d2⟩, e3, ex⟩ := Option.map_eq_some_iff.mp ex
    cases ex
    obtain ⟨v, u, rfl, rv, ru⟩ := r1.two_inv
    obtain ⟨a1, b1, rfl, s1⟩ := seqSrc_ok S1 rv e2
    obtain ⟨a2, b2, rfl, s2⟩ := seqSrc_ok S1 ru e3
    obtain ⟨vs, q1, _⟩ := s1 ι1 H1 _ (Evo.refl _ _) S1 a1
    obtain ⟨us, q2, _⟩ := s2 ι1 H1 _ (Evo.refl _ _) S1 a2
    refine ⟨b1, b2, vs, us, k1, k2, rfl, q1, q2, P ι1 H1 _ v1 S1 fun ι2 H2 h2 v2 S2 dk => ?_⟩
    obtain ⟨ws, q3, r3⟩ := s1 ι2 H2 h2 v2 S2 fun q hq => dk q (List.mem_append_left _ hq)
    obtain ⟨zs, q4, r4⟩ := s2 ι2 H2 h2 v2 S2 fun q hq => dk q (List.mem_append_right _ hq)
    refine ⟨fun i d hd => ?_, ⟨ws, zs, q3, q4, by rw [r3.length, r4.length]; simp⟩⟩
    rw [List.getElem?_map] at hd
    obtain ⟨⟨x, y⟩, hxy, rfl⟩ := Option.map_eq_some_iff.mp hd
    rw [List.getElem?_zip_eq_some] at hxy
    obtain ⟨w1, hw1, rw1⟩ := r3.get hxy.1
    obtain ⟨w2, hw2, rw2⟩ := r4.get hxy.2
    refine ⟨⟨ws, zs, q3, q4, (List.getElem?_eq_some_iff.mp hw1).1, (List.getElem?_eq_some_iff.mp hw2).1⟩, fun x' H' hy => ?_⟩
    obtain ⟨T, t1, t2, rfl, hT, rfl, y1, y2⟩ := hy
    have g1 := y1 ws q3
    have g2 := y2 zs q4
    rw [hw1] at g1
    rw [hw2] at g2
    cases g1
    cases g2
    exact ⟨evo_new hT, S2.new hT, .tup upd_same (.cons (rw1.mono (evo_new hT)) (.cons (rw2.mono (evo_new hT)) .nil))⟩
  · cases ex
theorem px_enum (hg : Gl X "enumerate") (hm : X.mg "enumerate" = none) (ha : KX X cls [e] a) (hs : starEach [e] X.env = [(false, eval e X.env)]) :
    PX X cls (.Tuple elts kk tpos) (.Call (.Name "enumerate" p) [e] [] pos) (pEnum a) := PI.imp (pi_enumX hg hm ha hs) fun σ H R ⟨ι, h, env, items, dp, h', S, E, ex, hd, P⟩ => by
  obtain ⟨⟨ds, h1⟩, e1, ex⟩ := Option.bind_eq_some_iff.mp ex
  refine ⟨ι, h, env, ds, h1, S, E, e1, fun ι1 H1 vs v1 S1 r1 => ?_⟩
  simp only at ex
  split at ex
  · rename_i x
    obtain ⟨⟨k1, xs, d1⟩, e2, ex⟩ := Option.map_eq_some_iff.mp ex
    cases ex
    obtain ⟨v, rfl, rv⟩ := r1.one_inv
    obtain ⟨a1, b1, rfl, s1⟩ := seqSrc_ok S1 rv e2
    obtain ⟨vs, q1, _⟩ := s1 ι1 H1 _ (Evo.refl _ _) S1 a1
    refine ⟨b1, vs, k1, rfl, q1, P ι1 H1 _ v1 S1 fun ι2 H2 h2 v2 S2 dk => ?_⟩
    obtain ⟨ws, q3, r3⟩ := s1 ι2 H2 h2 v2 S2 dk
    refine ⟨fun i d hd => ?_, ⟨ws, q3, by rw [r3.length]; exact enumD_len _ _⟩⟩
    obtain ⟨x, hx, rfl⟩ := enumD_get _ _ _ _ hd
    obtain ⟨w1, hw1, rw1⟩ := r3.get hx
    refine ⟨⟨ws, q3, (List.getElem?_eq_some_iff.mp hw1).1⟩, fun x' H' hy => ?_⟩
    obtain ⟨T, t1, rfl, hT, rfl, y1⟩ := hy
    have g1 := y1 ws q3
    rw [hw1] at g1
    cases g1
    rw [Nat.zero_add]
    exact ⟨evo_new hT, S2.new hT, .tup upd_same (.cons (.int _) (.cons (rw1.mono (evo_new hT)) .nil))⟩
  · cases ex
theorem srcOk_range {c : Ct} {ι0 : List Addr} {H0 : Hp} (lo : Int) (n : Nat) : SrcOk c (Itr lo n) ι0 H0 (rangeD lo n) [] := srcOk_static fun ι2 H2 h2 v2 S2 => ⟨fun i d hd => by
  obtain ⟨hi, rfl⟩ := rangeD_get hd
  refine ⟨hi, fun x H' hy => ?_⟩
  obtain ⟨rfl, rfl⟩ := hy
  exact ⟨rfl, .int _⟩, by show n ≤ _; simp [rangeD]⟩
theorem px_range1 (hg : Gl X "range") (hm : X.mg "range" = none) (ha : KX X cls [e] a) (hs : starEach [e] X.env = [(false, eval e X.env)]) : PX X cls tg (.Call (.Name "range" p) [e] [] pos) (pRange1 a) := PI.imp (pi_range1 hg hm ha hs) fun σ H R ⟨ι, h, env, items, dp, h', S, E, ex, hd, P⟩ => by
  obtain ⟨⟨ds, h1⟩, e1, ex⟩ := Option.bind_eq_some_iff.mp ex
  refine ⟨ι, h, env, ds, h1, S, E, e1, fun ι1 H1 vs v1 S1 r1 => ?_⟩
  simp only at ex
  split at ex
  · rename_i j
    split at ex
    · rename_i hb
      obtain ⟨b1, b2⟩ := Bool.and_eq_true_iff.mp hb
      cases (Option.some.inj ex)
      obtain ⟨v, rfl, rv⟩ := r1.one_inv
      cases rv
      exact ⟨j, rfl, of_decide_eq_true b1, of_decide_eq_true b2, P ι1 H1 _ v1 S1 (srcOk_range 0 _)⟩
    · cases ex
  · cases ex
theorem px_range2 (hg : Gl X "range") (hm : X.mg "range" = none) (ha : KX X cls [e, e2] a) (hs : starEach [e, e2] X.env = [(false, eval e X.env), (false, eval e2 X.env)]) (hs2 : starEach [e2] X.env = [(false, eval e2 X.env)]) : PX X cls tg (.Call (.Name "range" p) [e, e2] [] pos) (pRange2 a) := PI.imp (pi_range2 hg hm ha hs hs2) fun σ H R ⟨ι, h, env, items, dp, h', S, E, ex, hd, P⟩ => by
  obtain ⟨⟨ds, h1⟩, e1, ex⟩ := Option.bind_eq_some_iff.mp ex
  refine ⟨ι, h, env, ds, h1, S, E, e1, fun ι1 H1 vs v1 S1 r1 => ?_⟩
  simp only at ex
  split at ex
  · rename_i i j
    split at ex
    · rename_i hb
      simp only [Bool.and_eq_true, decide_eq_true_eq] at hb
      cases (Option.some.inj ex)
      obtain ⟨v, u, rfl, rv, ru⟩ := r1.two_inv
      cases rv
      cases ru
      exact ⟨i, j, rfl, ⟨hb.1.1, hb.1.2, hb.2.1, hb.2.2⟩, P ι1 H1 _ v1 S1 (srcOk_range i _)⟩
    · cases ex
  · cases ex
theorem px_rev (hg : Gl X "reversed") (hm : X.mg "reversed" = none) (he : IX X cls e f) (hs : starEach [e] X.env = (false, eval e X.env) :: starEach [] X.env) : PX X cls tg (.Call (.Name "reversed" p) [e] [] pos) (pRev f) := PI.imp (RT.pi_revA hg hm he hs) fun σ H R ⟨ι, h, env, items, dp, h', S, E, ex, hd, P⟩ => by
  obtain ⟨⟨x, h1⟩, e1, ex⟩ := Option.bind_eq_some_iff.mp ex
  refine ⟨ι, h, env, x, h1, S, E, e1, fun ι1 H1 v v1 S1 r1 => ?_⟩
  obtain ⟨⟨k, xs, dp'⟩, e3, e4⟩ := Option.map_eq_some_iff.mp ex
  cases e4
  obtain ⟨d1, b, rfl, d2⟩ := seqSrc_ok S1 r1 e3
  obtain ⟨vs, q1, r0⟩ := d2 ι1 H1 _ (Evo.refl _ _) S1 d1
  have el := r0.length
  have at_ : ∀ {ι2 : List Addr} {H2 : Hp} {ws : List V} {i : Nat} {d : D}, Reps ⟨X.K, cls⟩ ι2 H2 ws xs → xs.reverse[i]? = some d → i < vs.length ∧ ∃ w, ws[vs.length - 1 - i]? = some w ∧ Rep ⟨X.K, cls⟩ ι2 H2 w d := by
    intro ι2 H2 ws i d r hd
    have hi : i < xs.length := by
      have := (List.getElem?_eq_some_iff.mp hd).1
      simpa using this
    rw [List.getElem?_reverse hi] at hd
    rw [el]
    exact ⟨hi, r.get hd⟩
  cases k with
  | false =>
    refine ⟨b, vs, rfl, .inl ⟨q1, P ι1 H1 _ v1 S1 fun ι2 H2 h2 v2 S2 dk => ?_⟩⟩
    obtain ⟨ws, q2, r2⟩ := d2 ι2 H2 h2 v2 S2 dk
    refine ⟨fun i d hd => ?_, by show vs.length ≤ _; simp [el]⟩
    obtain ⟨hi, w, hw, rw'⟩ := at_ r2 hd
    refine ⟨⟨hi, ws, w, q2, hw⟩, fun x H' hy => ?_⟩
    obtain ⟨rfl, hy⟩ := hy
    have := hy ws q2
    rw [hw] at this
    cases this
    exact ⟨Evo.refl _ _, S2, rw'⟩
  | true =>
    refine ⟨b, vs, rfl, .inr ⟨q1, P ι1 H1 _ v1 S1 fun ι2 H2 h2 v2 S2 dk => ?_⟩⟩
    obtain ⟨ws, q2, r2⟩ := d2 ι2 H2 h2 v2 S2 dk
    refine ⟨fun i d hd => ?_, by show vs.length ≤ _; simp [el]⟩
    obtain ⟨hi, w, hw, rw'⟩ := at_ r2 hd
    refine ⟨⟨hi, ws, w, q2, hw⟩, fun x H' hy => ?_⟩
    obtain ⟨rfl, hy⟩ := hy
    have := hy ws q2
    rw [hw] at this
    cases this
    exact ⟨Evo.refl _ _, S2, rw'⟩
end
end IL

/-! own layer, part 12: for, comprehensions, cleaning, defs -/
namespace IL
open PySem PySem.Spec PyProof.Rows L2

/-! ### for -/
open Classical in
noncomputable def forI (dp : Deps) (g : IG) (f : IS) : List D → IS
  | [] => fun env h => if depsOk dp h then some (.nx, env, h) else none
  | d :: ds => fun env h => if depsOk dp h then (g d env h).bind fun (env1, h1) => (f env1 h1).bind fun (fl, env2, h2) => (match fl with
    | .nx => forI dp g f ds env2 h2
    | .ct => forI dp g f ds env2 h2
    | .bk => some (.nx, env2, h2)
    | .rt d => some (.rt d, env2, h2)) else none
noncomputable def sFor (p : ISrc) (g : IG) (f : IS) : IS := fun env h => (p env h).bind fun (items, dp, h1) => forI dp g f items env h1
section
variable {X : Cx} {cls : Nat → Addr} {pos : Pos} {tg iter : Expr} {body : List Stmt} {p : ISrc} {g : IG} {f : IS}
theorem sx_for (hp : PassesOwn (model X.prog X.w) X.A X.env X.xe) (hc : X.calm = true) (hi : PX X cls tg iter p) (hg : GX X cls tg g) (hb : SSX X cls body f) (hs : ∀ x, foldedSetIterable iter X.env x = pure x) (hd : ∀ env h items dp h', p env h = some (items, dp, h') → depsOk dp h' → True) :
    SX X cls (.For tg iter body [] pos) (sFor p g f) := PS.imp (ps_for hp hc hi hg hb hs) fun Dn σ H q => by
  obtain ⟨ι, h, env, fl, env', h', S, E, e, P⟩ := q
  obtain ⟨⟨items, dp, h1⟩, e1, e⟩ := Option.bind_eq_some_iff.mp e
  have dk1 : depsOk dp h1 := by
    cases items <;> simp only [forI] at e <;> (split at e; assumption; cases e)
  refine ⟨ι, h, env, items, dp, h1, S, E, e1, dk1, fun ι1 H1 J v1 S1 src => ?_⟩
  refine ⟨fun i m σ2 H2 => i ≤ items.length ∧ m = items.length - i ∧ ∃ ι2 h2 env2, Evo ι1 H1 ι2 H2 ∧ Sim ⟨X.K, cls⟩ ι2 h2 H2 ∧ EnvR ⟨X.K, cls⟩ ι2 H2 σ2 env2 ∧ forI dp g f (items.drop i) env2 h2 = some (fl, env', h'),
    ⟨items.length, Nat.zero_le _, rfl, ι1, h1, env, Evo.refl _ _, S1, E.mono v1, by rw [List.drop_zero]; exact e⟩, ?_⟩
  rintro i m σ2 H2 ⟨hi, rfl, ι2, h2, env2, v2, S2, E2, e2⟩
  by_cases hlt : i < items.length
  · have hd : items[i]? = some items[i] := List.getElem?_eq_getElem hlt
    rw [List.drop_eq_getElem_cons hlt] at e2
    simp only [forI] at e2
    split at e2
    · rename_i dk
      obtain ⟨go, yl⟩ := (src ι2 H2 h2 v2 S2 dk).1 i _ hd
      obtain ⟨⟨env3, h3⟩, e3, e2⟩ := Option.bind_eq_some_iff.mp e2
      obtain ⟨⟨fl4, env4, h4⟩, e4, e2⟩ := Option.bind_eq_some_iff.mp e2
      refine .inr ⟨go, fun σ5 H5 => ∃ ι5 h5 env5, Evo ι1 H1 ι5 H5 ∧ Sim ⟨X.K, cls⟩ ι5 h5 H5 ∧ EnvR ⟨X.K, cls⟩ ι5 H5 σ5 env5 ∧ forI dp g f (items.drop (i + 1)) env5 h5 = some (fl, env', h'), fun σ5 H5 hw => ⟨items.length - (i + 1), by omega, hlt, rfl, hw⟩, fun x H3 hy => ?_⟩
      obtain ⟨v3, S3, r3⟩ := yl x H3 hy
      refine ⟨ι2, h2, env2, _, env3, h3, S3, E2.mono v3, r3, e3, fun ι4 H4 σ4 v4 S4 E4 => ?_⟩
      refine ⟨ι4, h3, env3, fl4, env4, h4, S4, E4, e4, fun ι5 H5 v5 S5 => ?_⟩
      have v15 : Evo ι1 H1 ι5 H5 := v2.trans (v3.trans (v4.trans v5))
      cases fl4
      case nx => exact fun σ5 E5 => ⟨ι5, h4, env4, v15, S5, E5, e2⟩
      case ct => exact fun σ5 E5 => ⟨ι5, h4, env4, v15, S5, E5, e2⟩
      case bk =>
        cases (Option.some.inj e2)
        exact P ι5 H5 (v1.trans v15) S5
      case rt d =>
        cases (Option.some.inj e2)
        exact P ι5 H5 (v1.trans v15) S5
    · cases e2
  · have ei : i = items.length := by omega
    subst ei
    rw [List.drop_length] at e2
    simp only [forI] at e2
    split at e2
    · rename_i dk
      cases (Option.some.inj e2)
      exact .inl ⟨(src ι2 H2 _ v2 S2 dk).2, P ι2 H2 (v1.trans v2) S2 σ2 E2⟩
    · cases e2
end

/-! ### comprehensions -/
/-- a comprehension's target: one name, several -/
inductive CT where
  | nm (i : Nat) | tp (is : List Nat)
def setAll : IEnv → List Nat → List D → IEnv
  | env, i :: is, d :: ds => setAll (env.set i (some d)) is ds
  | env, _, _ => env
def CT.put (t : CT) (d : D) (env : IEnv) : Option IEnv := match t with
  | .nm i => some (env.set i (some d))
  | .tp is => match d with
    | .tup xs => if xs.length = is.length then some (setAll env is xs) else none
    | .kt xs => if xs.length = is.length then some (setAll env is xs) else none
    | _ => none
def CT.slots : CT → List Nat
  | .nm i => [i]
  | .tp is => is
def wipeD (env : IEnv) : List Nat → IEnv
  | [] => env
  | v :: vs => (wipeD env vs).set v none
/-- the target's reading -/
def gNs : List Nat → TGs
  | [] => gNil
  | i :: is => gCons (gName i) (gNs is)
def CT.rd (K : PySem.W.Frag) : CT → TG
  | .nm i => gName i
  | .tp is => gTup K is.length (gNs is)
def setV : L2.St → List Nat → List V → L2.St
  | σ, i :: is, v :: vs => setV (σ.set i (some v)) is vs
  | σ, _, _ => σ
theorem gNs_of : ∀ {is : List Nat} {vs : List V} {σ : L2.St} {H : Hp} {Q : L2.St → Hp → Prop}, vs.length = is.length → Q (setV σ is vs) H → gNs is vs σ H Q
  | [], [], _, _, _, _, q => ⟨rfl, q⟩
  | [], _ :: _, _, _, _, h, _ => by cases h
  | _ :: _, [], _, _, _, h, _ => by cases h
  | i :: is, v :: vs, σ, H, Q, h, q => ⟨v, vs, rfl, gNs_of (by simpa using h) q⟩
theorem setAll_ok {c : Ct} {ι : List Addr} {H : Hp} : ∀ {is : List Nat} {vs : List V} {ds : List D} {σ : L2.St} {env : IEnv}, EnvR c ι H σ env → Reps c ι H vs ds → EnvR c ι H (setV σ is vs) (setAll env is ds)
  | [], _, _, _, _, E, _ => by simpa [setV, setAll] using E
  | i :: is, _, _, _, _, E, .nil => by simpa [setV, setAll] using E
  | i :: is, v :: vs, d :: ds, σ, env, E, .cons r t => by
    show EnvR c ι H (setV (σ.set i (some v)) is vs) (setAll (env.set i (some d)) is ds)
    exact setAll_ok (E.set r i) t
theorem wipe_ok {c : Ct} {ι : List Addr} {H : Hp} {σ : L2.St} {env : IEnv} (E : EnvR c ι H σ env) : ∀ (vs : List Nat), EnvR c ι H (wipe σ vs) (wipeD env vs)
  | [] => E
  | v :: vs => by
    have E1 := wipe_ok E vs
    refine ⟨by simp [wipe, wipeD, E1.len], fun i d h => ?_⟩
    by_cases hv : v = i
    · subst hv
      simp only [wipeD] at h
      by_cases hl : v < (wipeD env vs).length
      · rw [List.getElem?_set_self hl] at h; cases h
      · rw [List.getElem?_eq_none (by simpa using hl)] at h; cases h
    · simp only [wipeD, wipe] at h ⊢
      rw [List.getElem?_set_ne hv] at h ⊢
      exact E1.at_ i d h
theorem wipe_get {σ : L2.St} {i : Nat} : ∀ {vs : List Nat}, (wipe σ vs)[i]? = if i ∈ vs then (σ[i]?).map (fun _ => none) else σ[i]?
  | [] => by simp [wipe]
  | v :: vs => by
    simp only [wipe]
    by_cases hv : v = i
    · subst hv
      simp only [List.mem_cons, true_or, if_true]
      by_cases hl : v < σ.length
      · rw [List.getElem?_set_self (by rw [wipe_length]; exact hl), List.getElem?_eq_getElem hl]; rfl
      · rw [List.getElem?_eq_none (by rw [List.length_set, wipe_length]; omega), List.getElem?_eq_none (by omega)]; rfl
    · rw [List.getElem?_set_ne hv, wipe_get]
      have : (i ∈ v :: vs) ↔ i ∈ vs := by simp [Ne.symm hv]
      simp only [this]
theorem wipe_eq {σ σ' : L2.St} {vs : List Nat} (hl : σ'.length = σ.length) (h : ∀ i, i ∉ vs → σ'[i]? = σ[i]?) : wipe σ' vs = wipe σ vs := by
  apply List.ext_getElem?
  intro i
  rw [wipe_get, wipe_get]
  split
  · by_cases hi : i < σ.length
    · rw [List.getElem?_eq_getElem hi, List.getElem?_eq_getElem (by omega)]; rfl
    · rw [List.getElem?_eq_none (by omega), List.getElem?_eq_none (by omega)]
  · rename_i hi
    exact h i hi
theorem setV_len : ∀ {is : List Nat} {vs : List V} {σ : L2.St}, (setV σ is vs).length = σ.length
  | [], _, _ => by simp [setV]
  | _ :: _, [], _ => by simp [setV]
  | i :: is, v :: vs, σ => by simp [setV, setV_len (is := is)]
theorem setV_other : ∀ {is : List Nat} {vs : List V} {σ : L2.St} {i : Nat}, i ∉ is → (setV σ is vs)[i]? = σ[i]?
  | [], _, _, _, _ => by simp [setV]
  | _ :: _, [], _, _, _ => by simp [setV]
  | j :: is, v :: vs, σ, i, h => by
    simp only [List.mem_cons, not_or] at h
    simp only [setV]
    rw [setV_other h.2, List.getElem?_set_ne (Ne.symm h.1)]
theorem wipe_wipe {σ : L2.St} {vs : List Nat} : wipe (wipe σ vs) vs = wipe σ vs := wipe_eq (wipe_length σ vs) fun i hi => by rw [wipe_get, if_neg hi]
open Classical in
/-- the turns: n is the new list's number -/
noncomputable def compI (dp : Deps) (t : CT) (vs : List Nat) (tt : IT) (te : IE) (n : Nat) (env : IEnv) : List D → IH → Option IH
  | [], h => if depsOk dp h then some h else none
  | d :: ds, h => if depsOk dp h then (t.put d (wipeD env vs)).bind fun env1 => (tt env1 h).bind fun (b, h1) =>
      if b = true then (te env1 h1).bind fun (y, h2) => match h2[n]? with
        | some (.lst acc) => if acc.length < sizeLine then compI dp t vs tt te n env ds (h2.set n (.lst (acc ++ [y]))) else none
        | _ => none
      else compI dp t vs tt te n env ds h1
    else none
open Classical in
noncomputable def iComp (p : ISrc) (t : CT) (vs : List Nat) (tt : IT) (te : IE) : IE := fun env h => (p env h).bind fun (items, dp, h1) => if depsOk dp h1 then (compI dp t vs tt te h1.length env items (h1 ++ [.lst []])).map fun h2 => (.loc h1.length, h2) else none
def jYes : IT := fun _ h => some (true, h)
theorem depsOk_push {dp : Deps} {h : IH} {o : O} (d : depsOk dp h) : depsOk dp (h ++ [o]) := fun q hq => by
  have e := d q hq
  rw [List.getElem?_append_left (List.getElem?_eq_some_iff.mp e).1]; exact e
theorem put_rd {c : Ct} {ι : List Addr} {H : Hp} {t : CT} {vs : List Nat} {σ : L2.St} {env env1 : IEnv} {x : V} {d : D} {Q : L2.St → Hp → Prop} (hs : ∀ i ∈ t.slots, i ∈ vs) (E : EnvR c ι H σ env) (r : Rep c ι H x d) (e : t.put d (wipeD env vs) = some env1)
    (q : ∀ σ2, wipe σ2 vs = wipe σ vs → EnvR c ι H σ2 env1 → Q σ2 H) : t.rd c.K x (wipe σ vs) H Q := by
  cases t with
  | nm i =>
    cases (Option.some.inj e)
    refine q _ ((wipe_eq (σ := wipe σ vs) (by simp) fun j hj => ?_).trans wipe_wipe) ((wipe_ok E vs).set r i)
    rw [List.getElem?_set_ne (fun z => hj (by rw [← z]; exact hs i (by simp [CT.slots])))]
  | tp is =>
    have fin : ∀ (us : List V) (xs : List D), Reps c ι H us xs → env1 = setAll (wipeD env vs) is xs → Q (setV (wipe σ vs) is us) H := fun us xs rr e1 => by
      subst e1
      exact q _ ((wipe_eq (σ := wipe σ vs) setV_len fun j hj => setV_other fun hm => hj (hs j (show j ∈ CT.slots (.tp is) from hm))).trans wipe_wipe) (setAll_ok (wipe_ok E vs) rr)
    cases d <;> simp only [CT.put] at e <;> try (cases e; done)
    all_goals
      split at e
      · rename_i hl
        first
          | (obtain ⟨a, us, rfl, ha, ra⟩ := r.tup_inv
             exact ⟨a, us, rfl, .of ha, by rw [ra.length]; exact hl, gNs_of (by rw [ra.length]; exact hl) (fin us _ ra (Option.some.inj e).symm)⟩)
          | (obtain ⟨a, us, rfl, ha, ra⟩ := r.kt_inv
             exact ⟨a, us, rfl, ha.sq, by rw [ra.length]; exact hl, gNs_of (by rw [ra.length]; exact hl) (fin us _ ra (Option.some.inj e).symm)⟩)
      · cases e
theorem snd_comp {c : Ct} {p : ISrc} {t : CT} {vs : List Nat} {tt : IT} {te : IE} {σ : L2.St} {H : Hp} {Q : VK} (hs : ∀ i ∈ t.slots, i ∈ vs) (q : tI c (iComp p t vs tt te) σ H Q) : tLc (tP c p) (t.rd c.K) (tJ c tt) (tI c te) vs σ H Q := by
  obtain ⟨ι, h, env, d, h', S, E, e, P⟩ := q
  obtain ⟨⟨items, dp, h1⟩, e1, e⟩ := Option.bind_eq_some_iff.mp e
  simp only at e
  split at e
  · rename_i dk1
    obtain ⟨hf, e2, e3⟩ := Option.map_eq_some_iff.mp e
    cases e3
    refine ⟨ι, h, env, items, dp, h1, S, E, e1, dk1, fun ι1 H1 J v1 S1 src A hA => ?_⟩
    have vA : Evo ι1 H1 (ι1 ++ [A]) (upd H1 A (.lst [])) := (evo_new hA).trans (evo_push A)
    have SA : Sim c (ι1 ++ [A]) (h1 ++ [.lst []]) (upd H1 A (.lst [])) := (S1.new hA).push (S1.fresh hA) ⟨[], upd_same, .nil⟩
    have iA : (ι1 ++ [A])[h1.length]? = some A := by rw [← S1.len]; simp
    refine ⟨fun i m H2 => i ≤ items.length ∧ m = items.length - i ∧ ∃ ι2 h2, Evo (ι1 ++ [A]) (upd H1 A (.lst [])) ι2 H2 ∧ Sim c ι2 h2 H2 ∧ compI dp t vs tt te h1.length env (items.drop i) h2 = some h',
      ⟨items.length, Nat.zero_le _, rfl, _, _, Evo.refl _ _, SA, by rw [List.drop_zero]; exact e2⟩, ?_⟩
    rintro i m H2 ⟨hi, rfl, ι2, h2, v2, S2, e4⟩
    have v12 : Evo ι1 H1 ι2 H2 := vA.trans v2
    by_cases hlt : i < items.length
    · have hd : items[i]? = some items[i] := List.getElem?_eq_getElem hlt
      rw [List.drop_eq_getElem_cons hlt] at e4
      simp only [compI] at e4
      split at e4
      · rename_i dk
        obtain ⟨go, yl⟩ := (src ι2 H2 h2 v12 S2 dk).1 i _ hd
        obtain ⟨env1, e5, e4⟩ := Option.bind_eq_some_iff.mp e4
        obtain ⟨⟨b, h3⟩, e6, e4⟩ := Option.bind_eq_some_iff.mp e4
        refine .inr ⟨go, fun H5 => ∃ ι5 h5, Evo (ι1 ++ [A]) (upd H1 A (.lst [])) ι5 H5 ∧ Sim c ι5 h5 H5 ∧ compI dp t vs tt te h1.length env (items.drop (i + 1)) h5 = some h', fun H5 hw => ⟨items.length - (i + 1), by omega, hlt, rfl, hw⟩, fun x H3 hy => ?_⟩
        obtain ⟨v3, S3, r3⟩ := yl x H3 hy
        refine put_rd hs (E.mono (v1.trans (v12.trans v3))) r3 e5 fun σ2 hw E2 => ⟨hw, ι2, h2, env1, b, h3, S3, E2, e6, fun ι4 H4 v4 S4 => ?_⟩
        simp only at e4
        split at e4
        · rename_i hb
          rw [if_pos hb]
          obtain ⟨⟨y, h5⟩, e7, e4⟩ := Option.bind_eq_some_iff.mp e4
          refine ⟨ι4, h3, env1, y, h5, S4, E2.mono v4, e7, fun ι5 H5 w v5 S5 r5 => ?_⟩
          simp only at e4
          split at e4
          · rename_i acc e8
            split at e4
            · rename_i hl
              have v25 : Evo (ι1 ++ [A]) (upd H1 A (.lst [])) ι5 H5 := v2.trans (v3.trans (v4.trans v5))
              have i5 : ι5[h1.length]? = some A := v25.get iA
              obtain ⟨us, h9, r9⟩ := S5.oat i5 e8
              exact ⟨us, h9, by rw [r9.length]; exact hl, ι5, _, v25.trans (S5.evo_set i5), S5.set i5 (.lst' S5 i5 (r9.append (.one r5))) (own_none S5 i5), e4⟩
            · cases e4
          · cases e4
        · rename_i hb
          rw [if_neg hb]
          exact ⟨ι4, h3, v2.trans (v3.trans v4), S4, e4⟩
      · cases e4
    · have ei : i = items.length := by omega
      subst ei
      rw [List.drop_length] at e4
      simp only [compI] at e4
      split at e4
      · rename_i dk
        cases (Option.some.inj e4)
        exact .inl ⟨(src ι2 H2 _ v12 S2 dk).2, P ι2 H2 _ (v1.trans v12) S2 (.loc (v2.get iA))⟩
      · cases e4
  · cases e
section
variable {X : Cx} {cls : Nat → Addr} {pos spos py : Pos} {elt tg iter : Expr} {ifs : List Expr} {scope : Scope} {own : List (Str × Nat)} {p : ISrc} {t : CT} {tt : IT} {te : IE}
abbrev TsX (X : Cx) (cls : Nat → Addr) (ifs : List Expr) (f : IT) : Prop := PTs X ifs (tJ ⟨X.K, cls⟩ f)
theorem PTs.imp {X : Cx} {e : List Expr} {t t' : TT} (h : PTs X e t) (k : ∀ σ H Q, t' σ H Q → t σ H Q) : PTs X e t' := ⟨fun pins s σ H Q I q => h.run pins s σ H Q I (k σ H Q q)⟩
theorem tx_nil : TsX X cls [] jYes := PTs.imp pts_nil fun σ H Q ⟨ι, h, env, b, h', S, E, e, P⟩ => by
  cases (Option.some.inj e)
  exact P ι H (Evo.refl _ _) S
theorem tx_one {c : Expr} {f : IT} (h : JX X cls c f) : TsX X cls [c] f := pts_one h
theorem ix_comp (hc : X.calm = true) (hN : X.N.Nodup) (hi : PX X cls tg iter p) (ok : BlkOk X.N X.env.scope scope own) (hs : ∀ i ∈ t.slots, i ∈ own.map (·.2))
    (hg : ∀ (s : Shared) (H : Hp) (C : Addr) (cl : List (Str × Addr)) (fp : List Addr), PG (X.blk s H scope (compEnvC scope cl C X.env) fp) tg (t.rd X.K)) (ht : ∀ (s : Shared) (H : Hp) (C : Addr) (cl : List (Str × Addr)) (fp : List Addr), TsX (X.blk s H scope (compEnvC scope cl C X.env) fp) cls ifs tt)
    (he : ∀ (s : Shared) (H : Hp) (C : Addr) (cl : List (Str × Addr)) (fp : List Addr), IX (X.blk s H scope (compEnvC scope cl C X.env) fp) cls elt te) (hf : ∀ x, foldedSetIterable iter X.env x = pure x) :
    IX X cls (.ListComp elt [⟨tg, iter, ifs, 0⟩] scope pos) (iComp p t (own.map (·.2)) tt te) := PE.imp (pe_lc hc hN hi ok hg ht he hf) fun _ _ _ q => snd_comp (c := ⟨X.K, cls⟩) hs q
theorem sx_setComp {i : Nat} {y : Str} (hc : X.calm = true) (hN : X.N.Nodup) (hy : X.N[i]? = some y) (hyl : X.env.scope.names.lookup y = some .local) (hsw : swapsWith (.ListComp elt [⟨tg, iter, ifs, 0⟩] scope pos) (some (.Name y py)) spos.line X.env = pure true)
    (hi : PX X cls tg iter p) (ok : BlkOk X.N X.env.scope scope own) (hs : ∀ i ∈ t.slots, i ∈ own.map (·.2))
    (hg : ∀ (s : Shared) (H : Hp) (C : Addr) (cl : List (Str × Addr)) (fp : List Addr), PG (X.blk s H scope (compEnvC scope cl C X.env) fp) tg (t.rd X.K)) (ht : ∀ (s : Shared) (H : Hp) (C : Addr) (cl : List (Str × Addr)) (fp : List Addr), TsX (X.blk s H scope (compEnvC scope cl C X.env) fp) cls ifs tt)
    (he : ∀ (s : Shared) (H : Hp) (C : Addr) (cl : List (Str × Addr)) (fp : List Addr), IX (X.blk s H scope (compEnvC scope cl C X.env) fp) cls elt te) (hf : ∀ x, foldedSetIterable iter X.env x = pure x) :
    SX X cls (.Assign [.Name y py] (.ListComp elt [⟨tg, iter, ifs, 0⟩] scope pos) spos) (sAsg (iComp p t (own.map (·.2)) tt te) (gNm i)) := PS.imp (ps_setLc hc hN hy hyl hsw hi ok hg ht he hf) fun D σ H q => by
  obtain ⟨ι, h, env, fl, env', h', S, E, e, p⟩ := q
  obtain ⟨⟨d, h1⟩, e1, e⟩ := Option.bind_eq_some_iff.mp e
  cases (Option.some.inj e)
  exact snd_comp (c := ⟨X.K, cls⟩) hs ⟨ι, h, env, d, _, S, E, e1, fun ι1 H1 v v1 S1 r1 => p ι1 H1 v1 S1 _ ((E.mono v1).set r1 i)⟩
end
end IL

/-! own layer, part 13: list(reversed(x)), max with a default, dict of pairs -/
namespace IL
open PySem PySem.Spec PyProof.Rows L2

/-! ### list(reversed(a list)) -/
section
variable {prog : Program} {w : World} {A : Around} {E : Value → Shared → Prop} {s : Shared}
theorem call_list_rev {it l : Addr} {items : Array Value} {Q : Value → Shared → Prop} (hh : A.handled = none) (hit : s.heap.IsRevIter it l ((items.size : Int) - 1)) (hl : s.heap.IsList l items) (hne : l ≠ it) (hn : items.size ≤ sizeLine)
    (hQ : ∀ (h' : Heap) (tk : Nat) (acc : Array Value) (c : Nat), (∀ b o, b ≠ it → s.heap.get? b = some o → h'.get? b = some o) → h'.get? s.heap.objs.size = some { cls := .type "list", dict := none, data := .seq acc c, slots := #[] } →
      ItemsOf (fun i v => items[items.size - 1 - i]? = some v) acc items.size → Q (.ref s.heap.objs.size) { s with heap := h', toks := tk }) :
    wpAny (model prog w) A (call (.type "list") [.ref it]) Q E s := by
  have W := (Walks.listRev (prog := prog) (w := w) (A := A.in1.in1) hh it l hne items).toS
  obtain ⟨oi, hoi, _⟩ := id hit
  obtain ⟨ol, hol, _⟩ := id hl
  have hSi : s.heap.objs.size ≠ it := Nat.ne_of_gt (Heap.lt_size hoi)
  have hSl : s.heap.objs.size ≠ l := Nat.ne_of_gt (Heap.lt_size hol)
  have hSf : s.heap.objs.size ∉ [it, l] := by simp only [List.mem_cons, List.not_mem_nil, or_false, not_or]; exact ⟨hSi, hSl⟩
  refine callType_codes (Q₁ := fun obj s₁ => obj = .ref s.heap.objs.size ∧ s₁ = { s with heap := s.heap.push { cls := .type "list", data := .seq #[] } }) F.called_list (F.typeCall_list_1 _) F.entry_list_init
    (code_list_new _ ⟨rfl, rfl⟩) fun obj s₁ h₁ => ?_
  obtain ⟨rfl, rfl⟩ := h₁
  have hS : (s.heap.push { cls := .type "list", data := .seq #[] }).get? s.heap.objs.size = some { cls := .type "list", data := .seq #[] } := Heap.get?_push_size _ rfl
  refine ⟨⟨_, hS, rfl⟩, F.args_list_init_2 _ _, ?_⟩
  show wpAny _ A.in1.in1 (do let old ← Builtin.List.listItems (.ref s.heap.objs.size); Builtin.List.listUpdate (.ref s.heap.objs.size) (fun _ => #[]); letGo old.toList.reverse; Builtin.List.listExtendWith (.ref s.heap.objs.size) (.ref it) .none) _ _ _
  refine wpAny_bind ?_
  unfold Builtin.List.listItems
  refine wpAny_bind (wpAny_seqItems hS rfl (wpAny_pure ?_))
  show wpAny _ A.in1.in1 (updateSeq s.heap.objs.size (fun _ => #[]) >>= fun _ => letGo (#[] : Array Value).toList.reverse >>= fun _ => Builtin.List.listExtendWith (.ref s.heap.objs.size) (.ref it) .none) _ _ _
  refine wpAny_bind (wpAny_updateSeq hS rfl ?_)
  have hS₂ := Heap.get?_update_self (Obj.mapSeq (fun _ => (#[] : Array Value))) hS rfl
  have oth : ∀ b o, b ≠ s.heap.objs.size → (s.heap.push { cls := .type "list", data := .seq #[] }).get? b = some o → ((s.heap.push { cls := .type "list", data := .seq #[] }).update s.heap.objs.size (Obj.mapSeq (fun _ => (#[] : Array Value)))).get? b = some o :=
    fun b o hb e => (Heap.get?_update_other _ _ (Ne.symm hb)).trans e
  refine wpAny_bind (wpAny_letGo ?_)
  have hit1 := (hit.at fun o e => Heap.get?_push_of_some { cls := .type "list", data := .seq #[] } e).at fun o e => oth it o (Ne.symm hSi) e
  have hl1 := (hl.push { cls := .type "list", data := .seq #[] }).at fun o e => oth l o (Ne.symm hSl) e
  have hT : ({ s with heap := (s.heap.push { cls := .type "list", data := .seq #[] }).update s.heap.objs.size (Obj.mapSeq (fun _ => (#[] : Array Value))) } : Shared).TypeIs (.ref it) "list_reverseiterator" :=
    Heap.IsRevIter.typeIs (s := { s with heap := (s.heap.push { cls := .type "list", data := .seq #[] }).update s.heap.objs.size (Obj.mapSeq (fun _ => (#[] : Array Value))) }) hit1
  have h1 : Builtin.List.listSameRef (.ref s.heap.objs.size) (.ref it) = false := by simp [Builtin.List.listSameRef, hSi]
  unfold Builtin.List.listExtendWith
  refine wpAny_bind (wpAny_typeOf hT ?_)
  rw [if_neg (by rw [h1]; decide)]
  refine wpAny_bind (wpAny_pyIter_revIter (s := { s with heap := (s.heap.push { cls := .type "list", data := .seq #[] }).update s.heap.objs.size (Obj.mapSeq (fun _ => (#[] : Array Value))) }) hit1 ?_)
  refine wpAny_bind (wpAny_holding ?_)
  unfold Builtin.List.listLengthHint
  refine wpAny_bind (wpAny_specialOf hT RT.nolen_lri ?_)
  show wpAny _ A.in1.in1 (specialOf (Value.ref it) (Str.ofString "__length_hint__") >>= _) _ _ _
  refine wpAny_bind (wpAny_specialOf hT RT.hint_lri ?_)
  generalize hid : ("list_reverseiterator.__length_hint__" : String) = id0
  wp_delta
  rw [show splitId id0 = some ("list_reverseiterator", "__length_hint__") from by subst hid; decide +kernel]
  subst hid
  refine wpAny_bind (wpAny_isInstance (b := true) hT (by rw [isSubtype_type]; kernel_rfl) ?_)
  refine wpAny_pure ?_
  rw [if_neg (by decide)]
  have e0 : ((items.size : Nat) : Int) - 1 - ((0 : Nat) : Int) = (items.size : Int) - 1 := by omega
  refine wpAny_pure ⟨plainId_quiet F.plain_extend_loop _, codeAny_extend_loopS W hn _ hSf _ items.size 0 _ _ _ rfl (Nat.zero_le _) ⟨Nat.zero_le _, by rw [e0]; exact hit1, hl1⟩ hS₂ (ItemsOf.nil _) fun s' acc' c' hm hS' hacc => ?_⟩
  refine ⟨rfl, ?_⟩
  rw [Moved.eq_with hm]
  refine hQ s'.heap s'.toks acc' c' (fun b o hb e => hm.heap b o (fun hmem => ?_) (oth b o (Nat.ne_of_lt (Heap.lt_size e)) (Heap.get?_push_of_some _ e))) hS' hacc
  rcases List.mem_cons.mp hmem with e' | hmem
  · exact absurd (Heap.lt_size e) (by rw [e']; exact Nat.lt_irrefl _)
  · exact hb (List.mem_singleton.mp hmem)
end
/-- list(reversed(x)), x a list: a new list -/
def tListRev (K : PySem.W.Frag) (te : TE) : TE := fun σ H Q => te σ H fun v H1 => ∃ (a : Addr) (xs : List V), v = .ref a ∧ SqL K H1 a xs ∧ ∀ q, H1 q = none → Q (.ref q) (upd H1 q (.lst xs.reverse))
def iListRev (f : IE) : IE := fun env h => (f env h).bind fun (x, h1) => (lstD h1 x).map fun xs => (.loc h1.length, h1 ++ [.lst xs.reverse])
theorem Reps.rev {c : Ct} {ι : List Addr} {H : Hp} : ∀ {vs : List V} {ds : List D}, Reps c ι H vs ds → Reps c ι H vs.reverse ds.reverse
  | _, _, .nil => .nil
  | _, _, .cons r t => by
    rw [List.reverse_cons, List.reverse_cons]
    exact (Reps.rev t).append (.one r)
section
variable {X : Cx} {cls : Nat → Addr} {e : Expr} {te : TE} {fe : IE} {p p2 pos pos2 : Pos}
theorem pe_listRev (hc : X.calm = true) (hg : Gl X "list") (hm : X.mg "list" = none) (hg2 : Gl X "reversed") (hm2 : X.mg "reversed" = none) (he : PE X e te)
    (hs : starEach [e] X.env = (false, eval e X.env) :: starEach [] X.env)
    (hs2 : starEach [.Call (.Name "reversed" p2) [e] [] pos2] X.env = (false, eval (.Call (.Name "reversed" p2) [e] [] pos2) X.env) :: starEach [] X.env) :
    PE X (.Call (.Name "list" p) [.Call (.Name "reversed" p2) [e] [] pos2] [] pos) (tListRev X.K te) := by
  refine ⟨fun pins s σ H Q I h => ?_⟩
  refine Call_ (ld_blt I hg hm boot_list (PyProof.Rows.callWith_type1 (args_cons (Call_ (ld_blt I hg2 hm2 PyProof.Rows.boot_reversed (PyProof.Rows.callWith_type1 (args_cons (thn (he.run pins s σ H _ I h) fun u s1 ⟨v, H1, I1, r1, q1⟩ => args_nil ?_) hs) hs rfl))) hs2) hs2 rfl))
  obtain ⟨a, xs, ev, hq, q⟩ := q1
  subst ev
  obtain rfl : u = Value.ref a := r1
  obtain ⟨its, rv, p', hz⟩ := I1.list hq
  refine call_reversed_list p'.isList (args_nil ?_)
  have hl := p'.isList
  obtain ⟨ol, hol, _⟩ := id hl
  have hne : a ≠ s1.heap.objs.size := Nat.ne_of_lt (Heap.lt_size hol)
  have hn : its.toArray.size ≤ sizeLine := by rw [List.size_toArray, ← rv.length]; exact hz
  refine call_list_rev (s := { s1 with heap := s1.heap.push (revObj a ((its.toArray.size : Int) - 1)) }) (I1.ok.hd hc) ⟨_, Heap.get?_push_size _ rfl, rfl, rfl⟩ (hl.push _) hne hn fun h' tk acc c' hk hS hi => ?_
  have sz : (s1.heap.push (revObj a ((its.toArray.size : Int) - 1))).objs.size = s1.heap.objs.size + 1 := by simp [Heap.push]
  refine ⟨.ref _, upd H1 (s1.heap.push (revObj a ((its.toArray.size : Int) - 1))).objs.size (.lst xs.reverse), I1.laid (t' := tk) (fun b o e => hk b o (Nat.ne_of_lt (Heap.lt_size e)) (Heap.get?_push_of_some _ e)) (by rw [sz]; exact Nat.le_succ _)
    (show ObjOk X.prog X.w _ _ _ (.lst xs.reverse) from ⟨by rw [List.length_reverse]; exact hz, acc.toList, c', RT.vals_rev rv hi, ?_⟩), rfl, q _ (I1.hok.fresh (by rw [sz]; exact Nat.le_succ _))⟩
  rw [Array.toArray_toList]
  exact hS
theorem ix_listRev (hc : X.calm = true) (hg : Gl X "list") (hm : X.mg "list" = none) (hg2 : Gl X "reversed") (hm2 : X.mg "reversed" = none) (he : IX X cls e fe)
    (hs : starEach [e] X.env = (false, eval e X.env) :: starEach [] X.env)
    (hs2 : starEach [.Call (.Name "reversed" p2) [e] [] pos2] X.env = (false, eval (.Call (.Name "reversed" p2) [e] [] pos2) X.env) :: starEach [] X.env) :
    IX X cls (.Call (.Name "list" p) [.Call (.Name "reversed" p2) [e] [] pos2] [] pos) (iListRev fe) := PE.imp (pe_listRev hc hg hm hg2 hm2 he hs hs2) fun σ H Q ⟨ι, h, env, d, h', S, E, e, P⟩ => by
  obtain ⟨⟨x, h1⟩, e1, e⟩ := Option.bind_eq_some_iff.mp e
  obtain ⟨xs, e2, e3⟩ := Option.map_eq_some_iff.mp e
  cases e3
  refine ⟨ι, h, env, x, h1, S, E, e1, fun ι1 H1 v v1 S1 r1 => ?_⟩
  obtain ⟨a, us, rfl, hq, r⟩ := lstD_ok S1 r1 e2
  exact ⟨a, us, rfl, hq, fun q hq => fin_lst S1 r.rev (P.evo v1) hq⟩
end

/-! ### max(ints, default=d) -/
section
variable {X : Cx} {cls : Nat → Addr} {e : Expr} {kws : List Keyword} {a b : IA} {p pos : Pos}
def rMaxDef (K : PySem.W.Frag) : List V → List V → Hp → VK → Prop := fun vs zs H Q => ∃ (a : Addr) (ns : List Int) (d : V), vs = [.ref a] ∧ zs = [d] ∧ SqL K H a (ns.map V.int) ∧ (ns = [] → Q d H) ∧ ∀ n r, ns = n :: r → Q (.int (r.foldl max n)) H
theorem maxOf_int (n : Int) (ns : List Int) : PySem.W.maxOf n ns = ns.foldl max n := by
  unfold PySem.W.maxOf
  congr 1
  funext x y
  show (if decide (x < y) = true then y else x) = max x y
  by_cases h : x < y
  · rw [if_pos (by simpa using h)]; omega
  · rw [if_neg (by simpa using h)]; omega
theorem cr_maxDef (hc : X.calm = true) (hu : X.A.units + 450 < cLine) : CallRK X (.builtin "max") [Str.ofString "default"] (rMaxDef X.K) := by
  intro pins s σ H vs zs us ws Q I r rz q
  obtain ⟨a, ns, d, rfl, rfl, hs, q0, q1⟩ := q
  obtain rfl := Vals.ref1 r
  obtain ⟨w1, rfl, e1⟩ := vals1 rz
  obtain ⟨its, rv, hl, hz⟩ := I.list hs
  have hi := PySem.W.HoldAll.of_ints (h := s.heap) rv.ints
  show wpAny (model X.prog X.w) X.A (call (.builtin "max") [.ref a] [(Str.ofString "default", w1)]) _ _ _
  refine PySem.W.max_list_datum_default (xs := ns) (I.ok.hd hc) hl.isList (by simpa using hi) (by show X.A.units + 1 + 0 < cLine; omega) (fun e h' tk k => ⟨d, H, I.kept (t' := tk) k, e1, q0 e⟩) fun y ys i v h' tk e _ hv k => ?_
  obtain ⟨t, rfl⟩ : ∃ t, v = .int (PySem.W.maxOf y ys) t := by
    obtain ⟨as, r⟩ := hv
    cases r
    exact ⟨_, rfl⟩
  rw [maxOf_int]
  exact ⟨.int _, H, I.kept (t' := tk) k, ⟨t, rfl⟩, q1 y ys e⟩
def iMaxDef (f g : IE) : IE := fun env h => (f env h).bind fun (x, h1) => (g env h1).bind fun (d, h2) => (lstD h2 x).bind fun xs => (intsD xs).map fun ns => match ns with
    | [] => (d, h2)
    | n :: r => (.int (r.foldl max n), h2)
theorem ix_maxDef {e2 : Expr} {f g : IE} {kpos : Pos} (hc : X.calm = true) (hu : X.A.units + 450 < cLine) (hg : Gl X "max") (hm : X.mg "max" = none) (ha : IX X cls e f) (hk : IX X cls e2 g)
    (hst : starEach [e] X.env = (false, eval e X.env) :: starEach [] X.env)
    (he : backTo pos (starEach [e] X.env) = (false, eval e X.env) :: backTo pos (starEach [] X.env)) (hpl : (backTo pos (starEach [e] X.env)).any (·.1) = false) :
    IX X cls (.Call (.Name "max" p) [e] [⟨some "default", e2, kpos⟩] pos) (iMaxDef f g) := by
  refine PE.imp (pe_callBK (x := "max") (cr_maxDef hc hu) hg hm PyProof.Rows.boot_max (pa_cons ha pa_nil hst) (pk_cons hk pk_nil) (by decide) (by decide) he hpl rfl rfl rfl) fun σ H Q ⟨ι, h, env, d, h', S, E, e, P⟩ => ?_
  obtain ⟨⟨x, h1⟩, e1, e⟩ := Option.bind_eq_some_iff.mp e
  obtain ⟨⟨y, h2⟩, e2, e⟩ := Option.bind_eq_some_iff.mp e
  obtain ⟨xs, e3, e⟩ := Option.bind_eq_some_iff.mp e
  obtain ⟨ns, e4, e⟩ := Option.map_eq_some_iff.mp e
  refine ⟨ι, h, env, x, h1, S, E, e1, fun ι1 H1 v v1 S1 r1 => ?_⟩
  refine ⟨ι1, h1, env, y, h2, S1, E.mono v1, e2, fun ι2 H2 u v2 S2 r2 => ?_⟩
  have rx := r1.mono v2
  obtain ⟨a, us, rfl, hq, r⟩ := lstD_ok S2 rx e3
  cases intsD_ok e4
  cases r.ints
  refine ⟨a, ns, u, rfl, rfl, hq, fun z => ?_, fun n r z => ?_⟩
  · subst z
    obtain ⟨rfl, rfl⟩ := Prod.mk.inj (show (y, h2) = (d, h') from Option.some.inj e)
    exact P ι2 H2 u (v1.trans v2) S2 r2
  · subst z
    rw [intsD_map] at e
    obtain ⟨rfl, rfl⟩ := Prod.mk.inj (Option.some.inj e)
    exact P ι2 H2 _ (v1.trans v2) S2 (.int _)
end

/-! ### dict(pairs) -/
def pairsD : List D → Option (List (Key × D))
  | [] => some []
  | .tup [k, d] :: r => (keyD k).bind fun k' => (pairsD r).map fun r' => (k', d) :: r'
  | _ :: _ => none
theorem pairsD_ok {c : Ct} {ι : List Addr} {H : Hp} : ∀ {us : List V} {xs : List D} {ks : List (Key × D)}, Reps c ι H us xs → pairsD xs = some ks →
    ∃ (ps : List Addr) (kvs : List (Key × V)), us = ps.map V.ref ∧ Paired (fun p kv => SqT c.K H p [kV kv.1, kv.2]) ps kvs ∧ Prs c ι H kvs ks
  | _, _, _, .nil, e => by cases (Option.some.inj e); exact ⟨[], [], rfl, .nil, .nil⟩
  | _, _, _, .cons (d := d) r t, e => by
    cases d <;> (try (simp only [pairsD] at e; cases e; done))
    case tup zs =>
      match zs, r, e with
      | [], _, e => simp only [pairsD] at e; cases e
      | [_], _, e => simp only [pairsD] at e; cases e
      | _ :: _ :: _ :: _, _, e => simp only [pairsD] at e; cases e
      | [k, x], r, e =>
        simp only [pairsD] at e
        obtain ⟨k', e1, e2⟩ := Option.bind_eq_some_iff.mp e
        obtain ⟨ks', e3, rfl⟩ := Option.map_eq_some_iff.mp e2
        obtain ⟨ps, kvs, rfl, hp, hr⟩ := pairsD_ok t e3
        obtain ⟨a, us, rfl, ha, ra⟩ := r.tup_inv
        obtain ⟨v, u, rfl, rv, ru⟩ := ra.two_inv
        cases keyD_ok rv e1
        exact ⟨a :: ps, (k', u) :: kvs, rfl, .cons (.of ha) hp, .cons ru hr⟩
theorem KTup.plain {X : Cx} {pins : List (Addr × Obj)} {σ : L2.St} {H : Hp} {s : Shared} {a : Addr} {xs : List V} (I : L2.Inv X pins σ H s) (h : KTup X.K H a xs) : ∃ its : List Value, Vals xs its ∧ PlainSeq "tuple" s.heap a its.toArray ∧ xs.length ≤ sizeLine := by
  rcases h with ⟨o, h, hd⟩ | ⟨o, its, n, h1, h2, h3, h4, h5, h6⟩
  · obtain ⟨ho, hz, its, r, o', ho', hc, n, hd'⟩ := (show ObjOk X.prog X.w H s.heap a (.frz o (.tup xs)) from I.hok a _ h)
    rw [ho] at ho'
    cases ho'
    exact ⟨its, r, ⟨o, n, ho, hc, hd, hd'⟩, hz⟩
  · refine ⟨its.toList, h6, ⟨o, n, I.kIn a o h1, h2, h3, by simpa using h4⟩, ?_⟩
    have e := h6.length
    simp only [Array.length_toList] at e
    omega
section
variable {X : Cx}
theorem call_dictPT (hcalm : X.calm = true) : CallR X (.type "dict") (fun xs H Q => ∃ (a : Addr) (ps : List Addr) (kvs : List (Key × V)), xs = [.ref a] ∧ (SqL X.K H a (ps.map V.ref) ∨ KTup X.K H a (ps.map V.ref)) ∧ Paired (fun p kv => SqT X.K H p [kV kv.1, kv.2]) ps kvs ∧
    ∀ p, H p = none → Q (.ref p) (upd H p (.dK (mergeK [] kvs)))) := by
  intro pins s σ H xs us Q I r q
  obtain ⟨a, ps, kvs, ex, hq, hp, q⟩ := q
  rcases hq with hq | hq
  · exact call_dictP hcalm pins s σ H xs us Q I r ⟨a, ps, kvs, ex, hq, hp, q⟩
  subst ex
  obtain ⟨u, eu, rx⟩ := vals1 r
  subst eu
  cases rx
  obtain ⟨its, rv, pl, hz⟩ := hq.plain I
  have ei := refs_at rv
  subst ei
  rw [List.length_map] at hz
  obtain ⟨prs, rel, hl, hpr⟩ := pairs_of I hp
  let kys : List (Value × Value) := (List.range prs.length).map fun j => match (ps.map Value.ref)[j]? with
    | some (Value.ref b) => (match s.heap.get? b with
      | some ⟨_, _, .seq us _, _⟩ => (us[0]!, us[1]!)
      | _ => (.none, .none))
    | _ => (.none, .none)
  have hk : ∀ (j : Nat) (q : Key × Value), prs[j]? = some q → ∃ (b : Addr) (u : Value), ps[j]? = some b ∧ kys[j]? = some (u, q.2) ∧ s.heap.IsTuple b #[u, q.2] ∧ keyIs q.1 u = true := fun j q e => by
    obtain ⟨b, u, e1, e2, e3⟩ := hpr j q e
    have hj : j < prs.length := (List.getElem?_eq_some_iff.mp e).1
    refine ⟨b, u, e1, ?_, e2, e3⟩
    obtain ⟨o, ho, hc, n, hd⟩ := e2
    obtain ⟨oc, od, dat, sl⟩ := o
    simp only at hd
    subst hd
    show ((List.range prs.length).map _)[j]? = _
    rw [List.getElem?_map, List.getElem?_range hj]
    simp [e1, ho]
  have hkl : kys.length = prs.length := by simp [kys]
  have hsz : (ps.map Value.ref).toArray.size = kys.length := by simp [hkl, hl]
  have hPI : PairItems s.heap (ps.map Value.ref).toArray (fun j => ps.getD j 0) kys := by
    refine ⟨hsz, fun j k v e => ?_⟩
    have hj : j < prs.length := by rw [← hkl]; exact (List.getElem?_eq_some_iff.mp e).1
    obtain ⟨b, u, e1, e2, e3, e4⟩ := hk j prs[j] (List.getElem?_eq_getElem hj)
    rw [e] at e2
    obtain ⟨rfl, rfl⟩ := Prod.mk.inj (Option.some.inj e2)
    have eb : ps.getD j 0 = b := by simp [List.getD, e1]
    show (ps.map Value.ref).toArray[j]? = some (Value.ref (ps.getD j 0)) ∧ PairAt s.heap (ps.getD j 0) k prs[j].2
    rw [eb]
    exact ⟨by simp [e1], .inl e3⟩
  have hH : PairsHave (mixKind X.prog X.w) kys.length (PairRel kys) prs := by
    refine ⟨hkl.symm, fun i key v e => ?_⟩
    have hj : i < prs.length := by rw [← hkl]; exact (List.getElem?_eq_some_iff.mp e).1
    obtain ⟨b, u, e1, e2, e3, e4⟩ := hk i prs[i] (List.getElem?_eq_getElem hj)
    have e' : kys[i]? = some (key, v) := e
    rw [e'] at e2
    obtain ⟨rfl, rfl⟩ := Prod.mk.inj (Option.some.inj e2)
    exact ⟨prs[i].1, List.getElem?_eq_getElem hj, e4⟩
  refine PySem.call_dict_pairs (PairArg.tuple a _ _ kys) (I.ok.hd hcalm) ⟨pl, hPI⟩ hH (by rw [hkl, hl]; exact hz) fun h' tk hd' k => ?_
  have hm : (s.heap.objs.size == sysModules) = false := beq_eq_false_iff_ne.mpr (Nat.ne_of_gt I.big)
  have hlen : (mergeK [] kvs).length ≤ sizeLine := by
    refine Nat.le_trans (length_mergeK kvs []) ?_
    rw [List.length_nil, Nat.zero_add, rel.length, hl]
    exact hz
  exact ⟨.ref s.heap.objs.size, upd H s.heap.objs.size (.dK (mergeK [] kvs)), I.laid (t' := tk) (fun b o e => k b o (by simp) e) (Nat.le_refl _) (show ObjOk X.prog X.w _ _ _ (.dK (mergeK [] kvs)) from ⟨hlen, hm, merged [] prs, KV.merge rel .nil, hd'⟩), rfl, q _ (I.hok.fresh (Nat.le_refl _))⟩
def fDictOf (x : D) (h : IH) : Option (D × IH) := (match x with
  | .kt xs => some xs
  | x => lstD h x).bind fun xs => (pairsD xs).bind fun ks => if keysOk ks = true then some (.loc h.length, h ++ [O.dic ks]) else none
def gDictOf : GC := one fDictOf
theorem snd_dictOf {c : Ct} : SndC c (fun xs H Q => ∃ (a : Addr) (ps : List Addr) (kvs : List (Key × V)), xs = [.ref a] ∧ (SqL c.K H a (ps.map V.ref) ∨ KTup c.K H a (ps.map V.ref)) ∧ Paired (fun p kv => SqT c.K H p [kV kv.1, kv.2]) ps kvs ∧
    ∀ p, H p = none → Q (.ref p) (upd H p (.dK (mergeK [] kvs)))) gDictOf := by
  intro ι h H vs ds d h' Q S r e P
  have e0 := one_some e
  clear e
  obtain ⟨x, rfl, e⟩ := e0
  obtain ⟨v, rfl, rv⟩ := r.one_inv
  obtain ⟨xs, e1, e⟩ := Option.bind_eq_some_iff.mp e
  obtain ⟨ks, e2, e⟩ := Option.bind_eq_some_iff.mp e
  split at e
  · rename_i hko
    cases (Option.some.inj e)
    have key : ∃ a us, v = .ref a ∧ (SqL c.K H a us ∨ KTup c.K H a us) ∧ Reps c ι H us xs := by
      cases x
      case kt ys =>
        cases (Option.some.inj e1)
        obtain ⟨a, us, rfl, ha, ra⟩ := rv.kt_inv
        exact ⟨a, us, rfl, .inr ha, ra⟩
      all_goals
        obtain ⟨a, us, rfl, hq, ra⟩ := lstD_ok S rv e1
        exact ⟨a, us, rfl, .inl hq, ra⟩
    obtain ⟨a, us, rfl, hq, ra⟩ := key
    obtain ⟨ps, kvs, rfl, hp, hr⟩ := pairsD_ok ra e2
    refine ⟨a, ps, kvs, rfl, hq, hp, fun p hn => ?_⟩
    rw [mergeK_app kvs [] (by rw [List.nil_append, hr.keys]; exact of_decide_eq_true hko), List.nil_append]
    have ev := (evo_new (ι := ι) (u := .dK kvs) hn).trans (evo_push p)
    exact fin_new (o := .dic ks) S hn ⟨kvs, upd_same, Prs.mono' (fun _ _ e => ev.get e) ev.tup ev.frz hr⟩ P
  · cases e
end

/-! ### plain tuples made -/
theorem fin_kt {c : Ct} {ι : List Addr} {h : IH} {H : Hp} {vs : List V} {ds : List D} {o : Obj} {p : Addr} {Q : VK} (S : Sim c ι h H) (r : Reps c ι H vs ds) (P : Post c ι H h (.kt ds) Q) (hp : H p = none) (hd : o.dict = none) : Q (.ref p) (upd H p (.frz o (.tup vs))) :=
  P ι (upd H p (.frz o (.tup vs))) (.ref p) (evo_new hp) (S.new hp) (.kt (.inl ⟨o, upd_same, hd⟩) (r.mono (evo_new hp)))
def tTupF (t : TA) : TE := fun σ H Q => t σ H fun xs H1 => xs.length ≤ sizeLine ∧ ∀ q o, H1 q = none → o.dict = none → Q (.ref q) (upd H1 q (.frz o (.tup xs)))
def rTupF (K : PySem.W.Frag) : List V → Hp → VK → Prop := fun xs H Q => ∃ p ys, xs = [.ref p] ∧ SqL K H p ys ∧ ∀ q o, H q = none → o.dict = none → Q (.ref q) (upd H q (.frz o (.tup ys)))
def fTupP (x : D) (h : IH) : Option (D × IH) := (lstD h x).map fun xs => (.kt xs, h)
/-- tuple(a list) as a plain tuple -/
def gTupP : GC := one fTupP
/-- a display as a plain tuple -/
def iTupP (g : IA) : IE := fun env h => (g env h).bind fun (ds, h1) => if ds.length ≤ sizeLine then some (.kt ds, h1) else none
section
variable {X : Cx} {cls : Nat → Addr} {es : List Expr} {pos : Pos} {t : TA} {g : IA}
theorem pe_tupF {x1} (h : PA X es t) : PE X (.Tuple es x1 pos) (tTupF t) := by
  refine ⟨fun pins s σ H Q I hq => ?_⟩
  refine wpAny_Tuple_spliced (thn (h.run pos pins s σ H _ I hq) fun us s1 ⟨xs, H1, I1, r, z, q⟩ => ⟨by rw [← r.length]; exact z, ?_⟩)
  have hf : H1 s1.heap.objs.size = none := I1.hok.fresh (Nat.le_refl _)
  refine ⟨.ref s1.heap.objs.size, upd H1 s1.heap.objs.size (.frz { cls := .type "tuple", data := .seq us.toArray } (.tup xs)), I1.laid (t' := s1.toks) (fun b u e => Heap.get?_push_of_some _ e) (Nat.le_refl _) ?_, rfl, q _ _ hf rfl⟩
  exact ⟨Heap.get?_push_size _ rfl, z, us, r, ⟨_, Heap.get?_push_size _ rfl, rfl, _, rfl⟩⟩
theorem ix_tupP {x1} (h : KX X cls es g) : IX X cls (.Tuple es x1 pos) (iTupP g) := by
  refine PE.imp (pe_tupF h) fun σ H Q ⟨ι, h, env, d, h', S, E, e, p⟩ => ?_
  obtain ⟨⟨ds, h1⟩, e1, e⟩ := Option.bind_eq_some_iff.mp e
  refine ⟨ι, h, env, ds, h1, S, E, e1, fun ι1 H1 vs v1 S1 r1 => ?_⟩
  simp only at e
  split at e
  · rename_i hl
    cases (Option.some.inj e)
    exact ⟨by rw [r1.length]; exact hl, fun q o hq hd => fin_kt S1 r1 (p.evo v1) hq hd⟩
  · cases e
theorem cr_tupP : CallR X (.type "tuple") (rTupF X.K) := by
  intro pins s σ H xs us Q I r h
  obtain ⟨p, ys, rfl, hq, q⟩ := h
  obtain ⟨u, rfl, rx⟩ := vals1 r
  cases rx
  obtain ⟨its, r', pl, hz⟩ := I.list hq
  have hlen := r'.length
  refine call_tuple_list pl.isList (fun h' kp => ?_) (by simp only [List.size_toArray] <;> omega)
  have I1 : L2.Inv X pins σ H { s with heap := h' } := I.kept (t' := s.toks) kp
  have I2 : L2.Inv X pins σ (upd H h'.objs.size (.frz { cls := .type "tuple", data := .seq its.toArray } (.tup ys))) { s with heap := h'.push { cls := .type "tuple", data := .seq its.toArray } } :=
    I1.laid (t' := s.toks) (fun b o e => Heap.get?_push_of_some _ e) (Nat.le_refl _) (show ObjOk X.prog X.w _ _ _ (.frz _ (.tup ys)) from ⟨Heap.get?_push_size _ rfl, hz, its, r', IsTup.new _ _⟩)
  exact ⟨.ref h'.objs.size, _, I2, rfl, q _ _ (I1.hok.fresh (Nat.le_refl _)) rfl⟩
theorem snd_tupP {c : Ct} : SndC c (rTupF c.K) gTupP := by
  intro ι h H vs ds d h' Q S r e P
  have e0 := one_some e
  clear e
  obtain ⟨x, rfl, e⟩ := e0
  obtain ⟨v, rfl, rv⟩ := r.one_inv
  obtain ⟨xs, e1, e2⟩ := Option.map_eq_some_iff.mp e
  cases e2
  obtain ⟨a, us, rfl, hq, ra⟩ := lstD_ok S rv e1
  exact ⟨a, us, rfl, hq, fun q o hn hd => fin_kt S ra P hn hd⟩
end
end IL

/-! own layer, part 14: defs, the table of defs -/
namespace IL
open PySem PySem.Spec PyProof.Rows L2

/-- a def's meaning: n parameters of N names -/
def iFun (n N : Nat) (f : IS) : Fn := fun ds h => if ds.length = n then (f (ds.map some ++ List.replicate (N - n) none) h).bind fun (fl, _, h') => match fl with
    | .nx => some (.non, h')
    | .rt d => some (d, h')
    | _ => none
  else none
theorem envR_start {c : Ct} {ι : List Addr} {H : Hp} {vs : List V} {ds : List D} {N : List Str} (r : Reps c ι H vs ds) : EnvR c ι H (start N vs) (ds.map some ++ List.replicate (N.length - ds.length) none) := by
  have hl := r.length
  refine ⟨by simp [L2.start, hl], fun i d e => ?_⟩
  by_cases hi : i < ds.length
  · rw [List.getElem?_append_left (by simpa using hi), List.getElem?_map] at e
    obtain ⟨d', e1, e2⟩ := Option.map_eq_some_iff.mp e
    cases e2
    obtain ⟨v, h1, h2⟩ := r.get e1
    refine ⟨v, ?_, h2⟩
    simp only [L2.start]
    rw [List.getElem?_append_left (by simpa [hl] using hi), List.getElem?_map, h1]
    rfl
  · rw [List.getElem?_append_right (by simpa using hi)] at e
    simp [List.getElem?_replicate] at e
/-- a def keeps its meaning's promise -/
theorem fn_keeps {P : Program} {w : World} {K : PySem.W.Frag} {mg : Str → Option Value} {base : Heap} {x qual : Str} {params : Arguments} {body : List Stmt} {scope : Scope} {f : Addr} {fd : FuncData} {cls : Nat → Addr} {N ps : List Str} {k n : Nat} {g : IS}
    (F : FunD K x qual params body scope [] [] f fd) (S : FnScope N ps scope) (hn : ps.length = n)
    (hbody : ∀ (cdv : Value) (A : Around) (outer : List Env) (s : Shared) (H : Hp) (E : XK), Room k (A.deeper (envOfC qual scope s.heap.objs.size f cdv)) → SSX (cxOf CX0 P w K mg base N qual scope f cdv A outer s H E).nox cls body g) :
    FnOk P w K mg base CX0 (k + 1) f fd ps (spI ⟨K, cls⟩ n (iFun n N.length g)) := by
  refine F.ok S (fun vs H Q E h => by rw [h.1, hn]) fun cdv A outer s H vs Q E hr h => ⟨_, PSs.nox (hbody cdv A outer s H E hr), ?_⟩
  obtain ⟨hl, ι, h, ds, d, h', Sm, r, e, p⟩ := h
  have hd : ds.length = n := by rw [← r.length]; exact hl
  unfold iFun at e
  rw [if_pos hd] at e
  obtain ⟨⟨fl, env', h1⟩, e1, e2⟩ := Option.bind_eq_some_iff.mp e
  refine ⟨ι, h, _, fl, env', h1, Sm, envR_start r, by rw [hd]; exact e1, ?_⟩
  cases fl <;> simp only at e2
  case nx =>
    cases (Option.some.inj e2)
    exact fun ι' H' v S' σ' E' => p ι' H' _ v S' .non
  case rt d' =>
    cases (Option.some.inj e2)
    exact fun ι' H' v S' u ru => p ι' H' u v S' ru
  all_goals cases e2
/-- the module's name x is a tuple of texts -/
def strsB (K : PySem.W.Frag) (x : Str) (zs : List Str) : Bool := match K.lookup (He.ga K x) with
  | some ⟨.type c, none, .seq its _, _⟩ => decide (c = "tuple") && (decide (its.size ≤ sizeLine) && He.relAll (zs.map V.str) its.toList)
  | _ => false
theorem strsB_ok {K : PySem.W.Frag} {x : Str} {zs : List Str} (h : strsB K x zs = true) (H : Hp) : KTup K H (He.ga K x) (zs.map V.str) := by
  unfold strsB at h
  cases q : K.lookup (He.ga K x) with
  | none =>
    rw [q] at h
    cases h
  | some o =>
    obtain ⟨oc, od, dt, osl⟩ := o
    rw [q] at h
    cases oc with
    | type c =>
      cases od with
      | none =>
        cases dt with
        | seq its n =>
          obtain ⟨h1, h2⟩ := He.ba (show (decide (c = "tuple") && (decide (its.size ≤ sizeLine) && He.relAll (zs.map V.str) its.toList)) = true from h)
          obtain ⟨h3, h4⟩ := He.ba h2
          exact .inr ⟨_, its, n, q, congrArg Value.type (of_decide_eq_true h1), rfl, rfl, of_decide_eq_true h3, He.relAll_ok h4⟩
        | _ => cases h
      | some a => cases dt <;> cases h
    | _ => cases od <;> cases dt <;> cases h
/-- a def's data: where it stands, its names, its parameters -/
structure DefI where
  d : He.DefD
  N : List Str
  ps : List Str
/-- what a body leans on: facts of the text, the defs' meanings t at level k -/
structure Has (X : Cx) (cls : Nat → Addr) (k : Nat) (fa : List He.Fa) (dfs : List DefI) (cs : List Str) (sts : List (Str × List Str)) (t : Nat → Fn) : Prop where
  calm : X.calm = true
  room : Room (k + 1) X.A
  fact : ∀ (i : Nat) (f : He.Fa), fa[i]? = some f → f.ok X.K = true
  glo : ∀ (i : Nat) (x : Str), fa[i]? = some (.glo x) → X.mg x = some (.ref (He.ga X.K x))
  free : ∀ (i : Nat) (x : Str), fa[i]? = some (.free x) → X.mg x = none
  int : ∀ (i : Nat) (x : Str) (n : Int), fa[i]? = some (.int x n) → ∃ t, X.mg x = some (.int n t)
  cl : ∀ (j : Nat) (x : Str), cs[j]? = some x → cls j = He.ga X.K x
  txts : ∀ (i : Nat) (x : Str) (zs : List Str), sts[i]? = some (x, zs) → strsB X.K x zs = true
  fn : ∀ (i : Nat) (d : DefI), dfs[i]? = some d → ∃ fd, FnOk X.prog X.w X.K X.mg X.base CX0 k (He.fAd X.K d.d.at_) fd d.ps (spI ⟨X.K, cls⟩ d.ps.length (t i)) ∧ Binds X.K fd d.ps [] ∧ PySem.W.keepIn X.K (.ref (He.fAd X.K d.d.at_)) = true
theorem Has.hu {X : Cx} {cls : Nat → Addr} {k : Nat} {fa : List He.Fa} {dfs : List DefI} {cs : List Str} {sts : List (Str × List Str)} {t : Nat → Fn} (C : Has X cls k fa dfs cs sts t) (hk : 16 ≤ k) : X.A.units + 450 < cLine := by
  have := C.room.un
  omega
theorem Has.blk {X : Cx} {cls : Nat → Addr} {k : Nat} {fa : List He.Fa} {dfs : List DefI} {cs : List Str} {sts : List (Str × List Str)} {t : Nat → Fn} (C : Has X cls k fa dfs cs sts t) (s : Shared) (H : Hp) (sc : Scope) (env : Env) (fp : List Addr) : Has (X.blk s H sc env fp) cls k fa dfs cs sts t :=
  ⟨C.calm, C.room, C.fact, C.glo, C.free, C.int, C.cl, C.txts, C.fn⟩
section
variable {X : Cx} {cls : Nat → Addr} {k : Nat} {fa : List He.Fa} {dfs : List DefI} {cs : List Str} {sts : List (Str × List Str)} {t : Nat → Fn} {x m : Str} {p pos apos : Pos} {e o : Expr} {es : List Expr} {g : IA} {fo : IE} {d : DefI}
theorem hx_call (C : Has X cls k fa dfs cs sts t) (i n j : Nat) (hd : dfs[i]? = some d) (hn : d.ps.length = n) (hat : d.d.at_ = (x, none)) (hf : fa[j]? = some (.glo x)) (hg : Gl X x) (ha : KX X cls (e :: es) g) (hl : ∀ env h ds h', g env h = some (ds, h') → ds.length = n)
    (hdb : (x == ("__debug__" : Str)) = false := by decide) (he : starEach (e :: es) X.env = (false, eval e X.env) :: starEach es X.env := by rfl) (hpl : (backTo pos (starEach es X.env)).any (·.1) = false := by rfl) : IX X cls (.Call (.Name x p) (e :: es) [] pos) (iCall (t i) g) := by
  obtain ⟨fd, F, B, kp⟩ := C.fn i d hd
  have ea : He.fAd X.K d.d.at_ = He.ga X.K x := by rw [hat]; rfl
  rw [ea] at F kp
  rw [hn] at F
  exact ix_call F (C.room.mono (Nat.le_succ _)) hg (C.glo j x hf) kp B pass0 ha hl hdb he hpl
theorem hx_call0 (C : Has X cls k fa dfs cs sts t) (i j : Nat) (hd : dfs[i]? = some d) (hn : d.ps.length = 0) (hat : d.d.at_ = (x, none)) (hf : fa[j]? = some (.glo x)) (hg : Gl X x)
    (hdb : (x == ("__debug__" : Str)) = false := by decide) : IX X cls (.Call (.Name x p) [] [] pos) (iCall (t i) iNil) := by
  obtain ⟨fd, F, B, kp⟩ := C.fn i d hd
  have ea : He.fAd X.K d.d.at_ = He.ga X.K x := by rw [hat]; rfl
  rw [ea] at F kp
  rw [hn] at F
  exact ix_call0 F (C.room.mono (Nat.le_succ _)) hg (C.glo j x hf) kp B pass0 hdb
theorem hx_cls (C : Has X cls k fa dfs cs sts t) (j ic : Nat) {y : Str} (hc : cs[j]? = some y) (hcf : fa[ic]? = some (.cls y)) : Cls X.K (cls j) := by
  rw [C.cl j y hc]
  exact He.cls_ok (C.fact ic _ hcf)
theorem hx_meth (C : Has X cls k fa dfs cs sts t) (i n j ic im : Nat) {y : Str} {pl : Sem Bool} (hd : dfs[i]? = some d) (hn : d.ps.length = n + 1) (hat : d.d.at_ = (y, some m)) (hc : cs[j]? = some y) (hcf : fa[ic]? = some (.cls y)) (hmf : fa[im]? = some (.meth y m))
    (ho : IX X cls o fo) (ha : KX X cls (e :: es) g) (hl : ∀ env h ds h', g env h = some (ds, h') → ds.length = n)
    (hst : starEach (e :: es) X.env = (false, eval e X.env) :: starEach es X.env := by rfl) (hpl : (backTo pos (starEach es X.env)).any (·.1) = false := by rfl)
    (ht : eval (.Call (.Attribute o m apos) (e :: es) [] pos) X.env = (do
      let ov ← eval o X.env
      standAt apos.atName
      let (f, first) ← holding [ov] (getMethod ov m pl)
      callWith pos f first (backTo pos (starEach (e :: es) X.env)) (backToKw pos (keywordEach [] X.env))) := by rfl) :
    IX X cls (.Call (.Attribute o m apos) (e :: es) [] pos) (iMeth j m (t i) fo g) := by
  obtain ⟨fd, F, B, kp⟩ := C.fn i d hd
  have ea : He.fAd X.K d.d.at_ = He.ma X.K (He.ga X.K y) m := by rw [hat]; rfl
  rw [ea] at F kp
  rw [hn] at F
  have hm := He.meth_ok (C.fact im _ hmf)
  rw [← C.cl j y hc] at hm F
  exact ix_meth ho (hx_cls C j ic hc hcf) hm F (C.room.mono (Nat.le_succ _)) B pass0 ha hl hst hpl ht
theorem hx_meth0 (C : Has X cls k fa dfs cs sts t) (i j ic im : Nat) {y : Str} {pl : Sem Bool} (hd : dfs[i]? = some d) (hn : d.ps.length = 1) (hat : d.d.at_ = (y, some m)) (hc : cs[j]? = some y) (hcf : fa[ic]? = some (.cls y)) (hmf : fa[im]? = some (.meth y m))
    (ho : IX X cls o fo)
    (ht : eval (.Call (.Attribute o m apos) [] [] pos) X.env = (do
      let ov ← eval o X.env
      standAt apos.atName
      let (f, first) ← holding [ov] (getMethod ov m pl)
      callWith pos f first (backTo pos (starEach [] X.env)) (backToKw pos (keywordEach [] X.env))) := by rfl) :
    IX X cls (.Call (.Attribute o m apos) [] [] pos) (iMeth j m (t i) fo iNil) := by
  obtain ⟨fd, F, B, kp⟩ := C.fn i d hd
  have ea : He.fAd X.K d.d.at_ = He.ma X.K (He.ga X.K y) m := by rw [hat]; rfl
  rw [ea] at F kp
  rw [hn] at F
  have hm := He.meth_ok (C.fact im _ hmf)
  rw [← C.cl j y hc] at hm F
  exact ix_meth0 ho (hx_cls C j ic hc hcf) hm F (C.room.mono (Nat.le_succ _)) B pass0 ht
theorem hx_make (C : Has X cls k fa dfs cs sts t) (i n j ig ik : Nat) (hd : dfs[i]? = some d) (hn : d.ps.length = n + 1) (hat : d.d.at_ = (x, some ("__init__" : Str))) (hc : cs[j]? = some x) (hgf : fa[ig]? = some (.glo x)) (hkf : fa[ik]? = some (.mkr x)) (hg : Gl X x)
    (ha : KX X cls (e :: es) g) (hl : ∀ env h ds h', g env h = some (ds, h') → ds.length = n)
    (hdb : (x == ("__debug__" : Str)) = false := by decide) (he : starEach (e :: es) X.env = (false, eval e X.env) :: starEach es X.env := by rfl) (hpl : (backTo pos (starEach es X.env)).any (·.1) = false := by rfl) :
    IX X cls (.Call (.Name x p) (e :: es) [] pos) (iMake j (t i) g) := by
  obtain ⟨fd, F, B, kp⟩ := C.fn i d hd
  have ea : He.fAd X.K d.d.at_ = He.ma X.K (He.ga X.K x) "__init__" := by rw [hat]; rfl
  rw [ea] at F kp
  rw [hn] at F
  have hm := He.mkr_ok (C.fact ik _ hkf)
  have hx := C.glo ig x hgf
  rw [← C.cl j x hc] at hm F hx
  exact ix_make hm F C.room hg hx B pass0 ha hl hdb he hpl
theorem hx_fld (C : Has X cls k fa dfs cs sts t) (j ic ia : Nat) {y f : Str} (hc : cs[j]? = some y) (hcf : fa[ic]? = some (.cls y)) (haf : fa[ia]? = some (.noat y f)) (ho : IX X cls o fo) (hb : attributeBase o f X.env (eval o X.env) = eval o X.env := by rfl) : IX X cls (.Attribute o f pos) (iFld j f fo) := by
  have hn := He.noat_ok (C.fact ia _ haf)
  rw [← C.cl j y hc] at hn
  exact ix_fld (hx_cls C j ic hc hcf) hn ho hb
theorem hs_fld {pos' : Pos} {fe : IE} (C : Has X cls k fa dfs cs sts t) (j ic ia : Nat) {y f : Str} (hc : cs[j]? = some y) (hcf : fa[ic]? = some (.cls y)) (haf : fa[ia]? = some (.noat y f)) (ho : IX X cls o fo) (hv : IX X cls e fe) (hs : swapsWith e (some (.Attribute o f pos')) pos.line X.env = pure false := by rfl) :
    SX X cls (.Assign [.Attribute o f pos'] e pos) (sFl j f fo fe) := by
  have hn := He.noat_ok (C.fact ia _ haf)
  rw [← C.cl j y hc] at hn
  exact sx_fld (hx_cls C j ic hc hcf) hn ho hv hs
theorem hx_gint (C : Has X cls k fa dfs cs sts t) (j : Nat) {n : Int} (hf : fa[j]? = some (.int x n)) (hg : Gl X x) (hdb : (x == ("__debug__" : Str)) = false := by decide) : IX X cls (.Name x p) (iC (.int n)) := by
  obtain ⟨u, hu⟩ := C.int j x n hf
  exact ix_const (pe_glob (v := .int n) hg hu ⟨u, rfl⟩ hdb) fun _ _ => .int n
end
theorem reps_strs {c : Ct} {ι : List Addr} {H : Hp} : ∀ zs : List Str, Reps c ι H (zs.map V.str) (zs.map D.str)
  | [] => .nil
  | z :: zs => .cons (.str z) (reps_strs zs)
theorem hx_gstrs {X : Cx} {cls : Nat → Addr} {k : Nat} {fa : List He.Fa} {dfs : List DefI} {cs : List Str} {sts : List (Str × List Str)} {t : Nat → Fn} {x : Str} {zs : List Str} {p : Pos} (C : Has X cls k fa dfs cs sts t) (i j : Nat) (hs : sts[i]? = some (x, zs)) (hf : fa[j]? = some (.glo x)) (hg : Gl X x)
    (hdb : (x == ("__debug__" : Str)) = false := by decide) : IX X cls (.Name x p) (iC (.kt (zs.map D.str))) := by
  refine PE.imp (pe_glob (v := .ref (He.ga X.K x)) hg (C.glo j x hf) rfl hdb) fun σ H Q ⟨ι, h, env, d', h', S, E, e, P⟩ => ?_
  cases (Option.some.inj e)
  exact P.now S (.kt (strsB_ok (C.txts i x zs hs) H) (reps_strs zs))
/-- a def's context -/
abbrev cxD (P : Program) (w : World) (K : PySem.W.Frag) (mg : Str → Option Value) (base : Heap) (d : DefI) (f : Addr) (cdv : Value) (A : Around) (outer : List Env) (s : Shared) (H : Hp) (E : XK) : Cx := (cxOf CX0 P w K mg base d.N d.d.qual d.d.scope f cdv A outer s H E).nox
abbrev FunI (K : PySem.W.Frag) (d : DefI) (fd : FuncData) : Prop := FunD K d.d.name d.d.qual d.d.params d.d.body d.d.scope [] [] (He.fAd K d.d.at_) fd
/-- the text's facts -/
structure Txt (K : PySem.W.Frag) (mg : Str → Option Value) (cls : Nat → Addr) (fa : List He.Fa) (dfs : List DefI) (cs : List Str) (sts : List (Str × List Str)) : Prop where
  fact : ∀ (i : Nat) (f : He.Fa), fa[i]? = some f → f.ok K = true
  glo : ∀ (i : Nat) (x : Str), fa[i]? = some (.glo x) → mg x = some (.ref (He.ga K x))
  free : ∀ (i : Nat) (x : Str), fa[i]? = some (.free x) → mg x = none
  int : ∀ (i : Nat) (x : Str) (n : Int), fa[i]? = some (.int x n) → ∃ t, mg x = some (.int n t)
  cl : ∀ (j : Nat) (x : Str), cs[j]? = some x → cls j = He.ga K x
  txts : ∀ (i : Nat) (x : Str) (zs : List Str), sts[i]? = some (x, zs) → strsB K x zs = true
  fn : ∀ (i : Nat) (d : DefI), dfs[i]? = some d → ∃ fd, FunI K d fd ∧ Binds K fd d.ps []
/-- all defs keep their meanings t at level k -/
def Lv (P : Program) (w : World) (K : PySem.W.Frag) (mg : Str → Option Value) (base : Heap) (cls : Nat → Addr) (dfs : List DefI) (k : Nat) (t : Nat → Fn) : Prop :=
  ∀ (i : Nat) (d : DefI), dfs[i]? = some d → ∀ fd, FunI K d fd → FnOk P w K mg base CX0 k (He.fAd K d.d.at_) fd d.ps (spI ⟨K, cls⟩ d.ps.length (t i))
/-- a def's body means g -/
structure BodyOk (cls : Nat → Addr) (k : Nat) (fa : List He.Fa) (dfs : List DefI) (cs : List Str) (sts : List (Str × List Str)) (t : Nat → Fn) (d : DefI) (F : Fn) : Prop where
  sc : FnScope d.N d.ps d.d.scope
  ex : ∃ (m n : Nat) (g : IS), m = d.ps.length ∧ n = d.N.length ∧ F = iFun m n g ∧ ∀ (P : Program) (w : World) (K : PySem.W.Frag) (mg : Str → Option Value) (base : Heap) (f : Addr) (cdv : Value) (A : Around) (outer : List Env) (s : Shared) (H : Hp) (E : XK),
    Has (cxD P w K mg base d f cdv A outer s H E) cls k fa dfs cs sts t → SSX (cxD P w K mg base d f cdv A outer s H E) cls d.d.body g
section
variable {P : Program} {w : World} {K : PySem.W.Frag} {mg : Str → Option Value} {base : Heap} {cls : Nat → Addr} {fa : List He.Fa} {dfs : List DefI} {cs : List Str} {sts : List (Str × List Str)} {k : Nat} {t t' : Nat → Fn}
theorem lv_zero : Lv P w K mg base cls dfs k (fun _ _ _ => none) := fun i d hd fd F => ⟨fun vs H Q E h => h.1, fun A outer s H args us vs Q E hr he hb hv hs => by
  obtain ⟨_, _, _, _, _, _, _, _, e, _⟩ := hs
  cases e⟩
theorem lv_step (T : Txt K mg cls fa dfs cs sts) (L : Lv P w K mg base cls dfs k t) (hb : ∀ (i : Nat) (d : DefI), dfs[i]? = some d → BodyOk cls k fa dfs cs sts t d (t' i)) : Lv P w K mg base cls dfs (k + 2) t' := fun i d hd fd F => by
  obtain ⟨m, n, g, rfl, rfl, e, hg⟩ := (hb i d hd).ex
  rw [e]
  refine fn_keeps F (hb i d hd).sc rfl fun cdv A outer s H E hr => hg P w K mg base _ cdv A outer s H E ?_
  refine ⟨rfl, hr, T.fact, T.glo, T.free, T.int, T.cl, T.txts, fun j d' hd' => ?_⟩
  obtain ⟨fd', F', B'⟩ := T.fn j d' hd'
  exact ⟨fd', L j d' hd' fd' F', B', F'.kp⟩
end
/-- the meanings by depth -/
def tower (B : (Nat → Fn) → Nat → Fn) : Nat → Nat → Fn
  | 0 => fun _ _ _ => none
  | n + 1 => B (tower B n)
theorem lv_all {P : Program} {w : World} {K : PySem.W.Frag} {mg : Str → Option Value} {base : Heap} {cls : Nat → Addr} {fa : List He.Fa} {dfs : List DefI} {cs : List Str} {sts : List (Str × List Str)} {B : (Nat → Fn) → Nat → Fn} (T : Txt K mg cls fa dfs cs sts)
    (hb : ∀ (k : Nat) (t : Nat → Fn), 20 ≤ k → ∀ (i : Nat) (d : DefI), dfs[i]? = some d → BodyOk cls k fa dfs cs sts t d (B t i)) : ∀ n : Nat, Lv P w K mg base cls dfs (2 * n + 20) (tower B n)
  | 0 => lv_zero
  | n + 1 => by
    have e : 2 * (n + 1) + 20 = (2 * n + 20) + 2 := by omega
    rw [e]
    exact lv_step T (lv_all T hb n) (hb (2 * n + 20) (tower B n) (by omega))
end IL

/-! own layer, part 15: comparisons as tests -/
namespace IL
open PySem PySem.Spec PyProof.Rows L2
section
variable {X : Cx} {cls : Nat → Addr} {pos : Pos} {a b : Expr} {fa fb : IE}
theorem jx_lt (hm : behindInMarks .Lt b = false) (ha : IX X cls a fa) (hb : IX X cls b fb) : JX X cls (.Compare a [.Lt] [b] pos) (jVal (iOp gLt fa fb)) := jx_cmp op_lt snd_int0b hm ha hb
theorem jx_le (hm : behindInMarks .LtE b = false) (ha : IX X cls a fa) (hb : IX X cls b fb) : JX X cls (.Compare a [.LtE] [b] pos) (jVal (iOp gLe fa fb)) := jx_cmp op_le snd_int0b hm ha hb
theorem jx_gt (hm : behindInMarks .Gt b = false) (ha : IX X cls a fa) (hb : IX X cls b fb) : JX X cls (.Compare a [.Gt] [b] pos) (jVal (iOp gGt fa fb)) := jx_cmp op_gt snd_int0b hm ha hb
theorem jx_ge (hm : behindInMarks .GtE b = false) (ha : IX X cls a fa) (hb : IX X cls b fb) : JX X cls (.Compare a [.GtE] [b] pos) (jVal (iOp gGe fa fb)) := jx_cmp op_ge snd_int0b hm ha hb
theorem jx_eq (hu : X.A.units + 450 < cLine) (hm : behindInMarks .Eq b = false) (ha : IX X cls a fa) (hb : IX X cls b fb) : JX X cls (.Compare a [.Eq] [b] pos) (jVal (iOp gEq fa fb)) := jx_cmp (.or op_eq (op_eqL hu)) snd_eq hm ha hb
theorem jx_ne (hu : X.A.units + 450 < cLine) (hm : behindInMarks .NotEq b = false) (ha : IX X cls a fa) (hb : IX X cls b fb) : JX X cls (.Compare a [.NotEq] [b] pos) (jVal (iOp gNe fa fb)) := jx_cmp (.or op_ne (op_neL hu)) snd_ne hm ha hb
theorem jx_is (hm : behindInMarks .Is b = false) (ha : IX X cls a fa) (hb : IX X cls b fb) : JX X cls (.Compare a [.Is] [b] pos) (jVal (iOp gIs fa fb)) := jx_cmp (.or op_isN op_isBl) snd_is hm ha hb
theorem jx_isNot (hm : behindInMarks .IsNot b = false) (ha : IX X cls a fa) (hb : IX X cls b fb) : JX X cls (.Compare a [.IsNot] [b] pos) (jVal (iOp gIsNot fa fb)) := jx_cmp (.or op_notN op_notBl) snd_isNot hm ha hb
theorem jx_in (hu : X.A.units + 450 < cLine) (hm : behindInMarks .In b = false) (ha : IX X cls a fa) (hb : IX X cls b fb) : JX X cls (.Compare a [.In] [b] pos) (jVal (iOp gIn fa fb)) := jx_cmp (op_inAny (by omega)) (snd_inAny (f := id)) hm ha hb
theorem jx_notIn (hu : X.A.units + 450 < cLine) (hm : behindInMarks .NotIn b = false) (ha : IX X cls a fa) (hb : IX X cls b fb) : JX X cls (.Compare a [.NotIn] [b] pos) (jVal (iOp gNotIn fa fb)) := jx_cmp (op_notInAny (by omega)) (snd_inAny (f := (!·))) hm ha hb
end
end IL

/-! own layer, part 16: the head's facts with the tuples of texts -/
namespace IL
open PySem PySem.Spec PyProof.Rows L2
abbrev AlX : Type := He.AlD × Bool
def obsX (fa : List He.Fa) (fn : List He.DefD) (ts : List (Str × List Str)) (K : PySem.W.Frag) : AlX := (He.obsD fa fn K, ts.all fun q => strsB K q.1 q.2)
def valX (fn : List He.DefD) : AlX := (He.valD fn, true)
def SaysX (fa : List He.Fa) (fn : List He.DefD) (ts : List (Str × List Str)) (K : PySem.W.Frag) : Prop := obsX fa fn ts K = valX fn
def obsXG (n : Nat) (fa : List He.Fa) (fn : List He.DefD) (ts : List (Str × List Str)) (g : Addr → Option Obj) : AlX := obsX fa fn ts (He.frG g (He.asD g n))
def hookX (n : Nat) (fa : List He.Fa) (fn : List He.DefD) (ts : List (Str × List Str)) : PySem.W.Hook where
  α := AlX
  obs := fun s => obsXG n fa fn ts s.heap.get?
  val := fun _ => valX fn
  says := fun _ h => ∃ K : PySem.W.Frag, K.In h ∧ SaysX fa fn ts K
  of := fun _ _ e => ⟨_, He.frG_in, e⟩
  keeps := fun _ _ _ ⟨K, hK, c⟩ k => ⟨K, PySem.W.Frag.In.keeps hK k, c⟩
theorem obsXG_eq {n : Nat} {fa : List He.Fa} {fn : List He.DefD} {ts : List (Str × List Str)} {g : Addr → Option Obj} {s : Shared} (h : ∀ a, g a = s.heap.get? a) : obsXG n fa fn ts g = (hookX n fa fn ts).obs s := by
  have e : g = s.heap.get? := funext h
  rw [e] <;> rfl
theorem SaysX.d {fa : List He.Fa} {fn : List He.DefD} {ts : List (Str × List Str)} {K : PySem.W.Frag} (c : SaysX fa fn ts K) : He.SaysD fa fn K := congrArg (fun z : AlX => z.1) c
theorem SaysX.txt {fa : List He.Fa} {fn : List He.DefD} {ts : List (Str × List Str)} {K : PySem.W.Frag} (c : SaysX fa fn ts K) (i : Nat) (x : Str) (zs : List Str) (h : ts[i]? = some (x, zs)) : strsB K x zs = true := by
  have e : (ts.all fun q => strsB K q.1 q.2) = true := congrArg (fun z : AlX => z.2) c
  exact List.all_eq_true.mp e (x, zs) (List.mem_of_getElem? h)
/-- the facts as the defs want them -/
theorem txt_of {fa : List He.Fa} {dfs : List DefI} {cs : List Str} {ts : List (Str × List Str)} {K : PySem.W.Frag} {h : Heap} {mg : Str → Option Value} {cls : Nat → Addr} (X : K.In h) (G : h.Ns mainGlobals mg) (c : SaysX fa (dfs.map (·.d)) ts K)
    (hcl : ∀ (j : Nat) (x : Str), cs[j]? = some x → cls j = He.ga K x) (hdf : ∀ d ∈ dfs, d.d.dfl = [] ∧ d.d.kwd = [])
    (hb : ∀ (i : Nat) (d : DefI), dfs[i]? = some d → ∀ fd, FunI K d fd → Binds K fd d.ps []) : Txt K mg cls fa dfs cs ts where
  fact := fun i f hf => c.d.fact i hf
  glo := fun i x hf => He.glo_ok X G (c.d.fact i hf)
  free := fun i x hf => He.free_ok X G (c.d.fact i hf)
  int := fun i x n hf => He.int_ok X G (c.d.fact i hf)
  cl := hcl
  txts := fun i x zs hz => c.txt i x zs hz
  fn := fun i d hd => by
    have hm : (dfs.map (·.d))[i]? = some d.d := by rw [List.getElem?_map, hd]; rfl
    obtain ⟨fd, F⟩ := c.d.def_ i hm
    obtain ⟨e1, e2⟩ := hdf d (List.mem_of_getElem? hd)
    have e3 : d.d.dvs K = [] := by unfold He.DefD.dvs; rw [e1]; rfl
    have e4 : d.d.kws K = [] := by unfold He.DefD.kws; rw [e2]; rfl
    rw [e3, e4] at F
    exact ⟨fd, F, hb i d hd fd F⟩
end IL

/-! own layer, part 17: reckoning with meanings -/
namespace IL
open PySem PySem.Spec PyProof.Rows L2
/-- x ends, in Q -/
def Ok {α : Type} (x : Option α) (Q : α → Prop) : Prop := ∃ a, x = some a ∧ Q a
section
variable {α β : Type} {Q R : α → Prop}
theorem Ok.imp {x : Option α} (h : Ok x Q) (k : ∀ a, Q a → R a) : Ok x R := let ⟨a, e, q⟩ := h; ⟨a, e, k a q⟩
theorem Ok_some {a : α} : Ok (some a) Q ↔ Q a := ⟨fun ⟨_, e, q⟩ => by cases e; exact q, fun q => ⟨a, rfl, q⟩⟩
theorem Ok_bind {x : Option α} {f : α → Option β} {S : β → Prop} : Ok (x.bind f) S ↔ Ok x fun a => Ok (f a) S :=
  ⟨fun ⟨b, e, q⟩ => let ⟨a, e1, e2⟩ := Option.bind_eq_some_iff.mp e; ⟨a, e1, b, e2, q⟩, fun ⟨a, e1, b, e2, q⟩ => ⟨b, Option.bind_eq_some_iff.mpr ⟨a, e1, e2⟩, q⟩⟩
theorem Ok_map {x : Option α} {f : α → β} {S : β → Prop} : Ok (x.map f) S ↔ Ok x fun a => S (f a) :=
  ⟨fun ⟨b, e, q⟩ => let ⟨a, e1, e2⟩ := Option.map_eq_some_iff.mp e; ⟨a, e1, by subst e2; exact q⟩, fun ⟨a, e1, q⟩ => ⟨f a, by rw [e1]; rfl, q⟩⟩
theorem Ok.of {x : Option α} {a : α} (e : x = some a) (q : Q a) : Ok x Q := ⟨a, e, q⟩
end
/-! ### statements, one behind another -/
def SK (g : IS) (Q : Fl × IEnv × IH → Prop) : Fl × IEnv × IH → Prop
  | (.nx, env, h) => Ok (g env h) Q
  | r => Q r
section
variable {f g : IS} {env : IEnv} {h : IH} {Q : Fl × IEnv × IH → Prop}
theorem ok_seq (k : Ok (f env h) (SK g Q)) : Ok (sSeq f g env h) Q := by
  unfold sSeq
  rw [Ok_bind]
  refine k.imp ?_
  rintro ⟨fl, env1, h1⟩ q
  cases fl <;> first | exact q | exact Ok_some.mpr q
theorem SK_nx (k : Ok (g env h) Q) : SK g Q (.nx, env, h) := k
theorem SK_rt {d : D} (k : Q (.rt d, env, h)) : SK g Q (.rt d, env, h) := k
theorem SK_bk (k : Q (.bk, env, h)) : SK g Q (.bk, env, h) := k
theorem SK_ct (k : Q (.ct, env, h)) : SK g Q (.ct, env, h) := k
end
/-- what a def's end tells -/
def RK (Q : D × IH → Prop) : Fl × IEnv × IH → Prop
  | (.nx, _, h) => Q (.non, h)
  | (.rt d, _, h) => Q (d, h)
  | _ => False
theorem ok_fun {n N : Nat} {f : IS} {ds : List D} {h : IH} {Q : D × IH → Prop} (hl : ds.length = n) (k : Ok (f (ds.map some ++ List.replicate (N - n) none) h) (RK Q)) : Ok (iFun n N f ds h) Q := by
  unfold iFun
  rw [if_pos hl, Ok_bind]
  refine k.imp ?_
  rintro ⟨fl, env1, h1⟩ q
  cases fl <;> first | exact Ok_some.mpr q | exact q.elim
theorem ok_if {t : IT} {f g : IS} {env : IEnv} {h : IH} {Q : Fl × IEnv × IH → Prop} (k : Ok (t env h) fun r => if r.1 = true then Ok (f env r.2) Q else Ok (g env r.2) Q) : Ok (sIf t f g env h) Q := by
  unfold sIf
  rw [Ok_bind]
  refine k.imp ?_
  rintro ⟨b, h1⟩ q
  cases b <;> exact q
/-! ### loops -/
def WK (t : IT) (f : IS) (Q : Fl × IEnv × IH → Prop) (I : IEnv → IH → Prop) : Fl × IEnv × IH → Prop
  | (.nx, env, h) => I env h
  | (.ct, env, h) => I env h
  | (.bk, env, h) => Q (.nx, env, h)
  | (.rt d, env, h) => Q (.rt d, env, h)
/-- while: I with a measure -/
theorem ok_while {t : IT} {f : IS} {Q : Fl × IEnv × IH → Prop} (I : Nat → IEnv → IH → Prop)
    (step : ∀ m env h, I m env h → Ok (t env h) fun r => if r.1 = true then Ok (f env r.2) (WK t f Q fun env' h' => ∃ m', m' < m ∧ I m' env' h') else Q (.nx, env, r.2)) :
    ∀ {m : Nat} {env : IEnv} {h : IH}, I m env h → Ok (sWhile t f env h) Q := by
  have key : ∀ (m : Nat) (env : IEnv) (h : IH), I m env h → ∃ n z, whileN t f n env h = some z ∧ Q z := by
    intro m
    induction m using Nat.strongRecOn with
    | ind m ih =>
      intro env h hI
      obtain ⟨⟨b, h1⟩, e1, q⟩ := step m env h hI
      cases b
      · exact ⟨1, (.nx, env, h1), by simp [whileN, e1], q⟩
      · obtain ⟨⟨fl, env2, h2⟩, e2, q2⟩ := (show Ok (f env h1) _ from q)
        cases fl
        case nx =>
          obtain ⟨m', hm, q3⟩ := q2
          obtain ⟨n, z, e3, q4⟩ := ih m' hm env2 h2 q3
          exact ⟨n + 1, z, by simp only [whileN, e1, Option.bind_some, if_true, e2, e3], q4⟩
        case ct =>
          obtain ⟨m', hm, q3⟩ := q2
          obtain ⟨n, z, e3, q4⟩ := ih m' hm env2 h2 q3
          exact ⟨n + 1, z, by simp only [whileN, e1, Option.bind_some, if_true, e2, e3], q4⟩
        case bk => exact ⟨1, _, by simp only [whileN, e1, Option.bind_some, if_true, e2], q2⟩
        case rt d => exact ⟨1, _, by simp only [whileN, e1, Option.bind_some, if_true, e2], q2⟩
  intro m env h hI
  obtain ⟨n, z, e, q⟩ := key m env h hI
  exact ⟨z, sWhile_of e, q⟩
/-- for: I by the number of turns -/
theorem ok_forI {dp : Deps} {g : IG} {f : IS} {Q : Fl × IEnv × IH → Prop} {items : List D} (I : Nat → IEnv → IH → Prop) (hd : ∀ i env h, I i env h → depsOk dp h)
    (step : ∀ i d env h, items[i]? = some d → I i env h → Ok (g d env h) fun r => Ok (f r.1 r.2) (WK (fun _ _ => none) f Q (I (i + 1)))) (fin : ∀ env h, I items.length env h → Q (.nx, env, h)) :
    ∀ {env : IEnv} {h : IH}, I 0 env h → Ok (forI dp g f items env h) Q := by
  have key : ∀ (l : List D) (i : Nat) (env : IEnv) (h : IH), items.drop i = l → i ≤ items.length → I i env h → Ok (forI dp g f l env h) Q := by
    intro l
    induction l with
    | nil =>
      intro i env h e hi hI
      have : i = items.length := by
        have := congrArg List.length e
        simp at this
        omega
      subst this
      unfold forI
      rw [if_pos (hd _ _ _ hI)]
      exact Ok_some.mpr (fin env h hI)
    | cons d l ih =>
      intro i env h e hi hI
      have hlt : i < items.length := by
        have := congrArg List.length e
        simp at this
        omega
      rw [List.drop_eq_getElem_cons hlt] at e
      injection e with e1 e2
      unfold forI
      rw [if_pos (hd _ _ _ hI), Ok_bind]
      refine (step i d env h (by rw [List.getElem?_eq_getElem hlt, e1]) hI).imp ?_
      rintro ⟨env1, h1⟩ q
      rw [Ok_bind]
      refine Ok.imp q ?_
      rintro ⟨fl, env2, h2⟩ q
      cases fl
      case nx => exact ih (i + 1) env2 h2 e2 hlt q
      case ct => exact ih (i + 1) env2 h2 e2 hlt q
      case bk => exact Ok_some.mpr q
      case rt d => exact Ok_some.mpr q
  intro env h hI
  exact key items 0 env h (by simp) (Nat.zero_le _) hI
theorem ok_for {p : ISrc} {g : IG} {f : IS} {Q : Fl × IEnv × IH → Prop} {env : IEnv} {h : IH} (k : Ok (p env h) fun r => Ok (forI r.2.1 g f r.1 env r.2.2) Q) : Ok (sFor p g f env h) Q := by
  unfold sFor
  rw [Ok_bind]
  exact k
/-- a comprehension: I by the number of turns, the new list's items -/
theorem ok_compI {dp : Deps} {t : CT} {vs : List Nat} {tt : IT} {te : IE} {n : Nat} {env : IEnv} {items : List D} {Q : IH → Prop} (I : Nat → IH → Prop) (hd : ∀ i h, I i h → depsOk dp h)
    (step : ∀ i d h, items[i]? = some d → I i h → Ok (t.put d (wipeD env vs)) fun env1 => Ok (tt env1 h) fun r => if r.1 = true then Ok (te env1 r.2) (fun y => ∃ acc, y.2[n]? = some (.lst acc) ∧ acc.length < sizeLine ∧ I (i + 1) (y.2.set n (.lst (acc ++ [y.1])))) else I (i + 1) r.2)
    (fin : ∀ h, I items.length h → Q h) : ∀ {h : IH}, I 0 h → Ok (compI dp t vs tt te n env items h) Q := by
  have key : ∀ (l : List D) (i : Nat) (h : IH), items.drop i = l → i ≤ items.length → I i h → Ok (compI dp t vs tt te n env l h) Q := by
    intro l
    induction l with
    | nil =>
      intro i h e hi hI
      have : i = items.length := by
        have := congrArg List.length e
        simp at this
        omega
      subst this
      unfold compI
      rw [if_pos (hd _ _ hI)]
      exact Ok_some.mpr (fin h hI)
    | cons d l ih =>
      intro i h e hi hI
      have hlt : i < items.length := by
        have := congrArg List.length e
        simp at this
        omega
      rw [List.drop_eq_getElem_cons hlt] at e
      injection e with e1 e2
      unfold compI
      rw [if_pos (hd _ _ hI), Ok_bind]
      refine (step i d h (by rw [List.getElem?_eq_getElem hlt, e1]) hI).imp ?_
      intro env1 q
      rw [Ok_bind]
      refine Ok.imp q ?_
      rintro ⟨b, h1⟩ q
      cases b
      · exact ih (i + 1) h1 e2 hlt q
      · show Ok (if true = true then _ else _) Q
        rw [if_pos rfl, Ok_bind]
        refine Ok.imp (show Ok (te env1 h1) _ from q) ?_
        rintro ⟨y, h2⟩ ⟨acc, e3, hl, q⟩
        show Ok (match h2[n]? with
          | some (.lst acc) => if acc.length < sizeLine then compI dp t vs tt te n env l (h2.set n (.lst (acc ++ [y]))) else none
          | _ => none) Q
        rw [e3]
        show Ok (if acc.length < sizeLine then _ else _) Q
        rw [if_pos hl]
        exact ih (i + 1) _ e2 hlt q
  intro h hI
  exact key items 0 h (by simp) (Nat.zero_le _) hI
theorem ok_comp {p : ISrc} {t : CT} {vs : List Nat} {tt : IT} {te : IE} {env : IEnv} {h : IH} {Q : D × IH → Prop} (k : Ok (p env h) fun r => depsOk r.2.1 r.2.2 ∧ Ok (compI r.2.1 t vs tt te r.2.2.length env r.1 (r.2.2 ++ [.lst []])) fun h2 => Q (.loc r.2.2.length, h2)) :
    Ok (iComp p t vs tt te env h) Q := by
  unfold iComp
  rw [Ok_bind]
  refine k.imp ?_
  rintro ⟨items, dp, h1⟩ ⟨dk, q⟩
  simp only [if_pos dk, Ok_map]
  exact q
/-! ### heaps -/
/-- h' holds all that h holds, but at S -/
structure Ext (S : Nat → Prop) (h h' : IH) : Prop where
  le : h.length ≤ h'.length
  at_ : ∀ (i : Nat) (o : O), h[i]? = some o → ¬ S i → h'[i]? = some o
theorem Ext.refl {S : Nat → Prop} (h : IH) : Ext S h h := ⟨Nat.le_refl _, fun _ _ e _ => e⟩
theorem Ext.trans {S : Nat → Prop} {h h1 h2 : IH} (a : Ext S h h1) (b : Ext S h1 h2) : Ext S h h2 := ⟨Nat.le_trans a.le b.le, fun i o e n => b.at_ i o (a.at_ i o e n) n⟩
theorem Ext.mono {S S' : Nat → Prop} {h h' : IH} (a : Ext S h h') (k : ∀ i, i < h.length → S i → S' i) : Ext S' h h' := ⟨a.le, fun i o e n => a.at_ i o e fun s => n (k i (List.getElem?_eq_some_iff.mp e).1 s)⟩
theorem Ext.push {S : Nat → Prop} (h : IH) (o : O) : Ext S h (h ++ [o]) := ⟨by simp, fun i o' e _ => by rw [List.getElem?_append_left (List.getElem?_eq_some_iff.mp e).1]; exact e⟩
theorem Ext.app {S : Nat → Prop} (h l : IH) : Ext S h (h ++ l) := ⟨by simp, fun i o' e _ => by rw [List.getElem?_append_left (List.getElem?_eq_some_iff.mp e).1]; exact e⟩
theorem Ext.set {S : Nat → Prop} (h : IH) (n : Nat) (o : O) (hs : S n) : Ext S h (h.set n o) := ⟨by simp, fun i o' e hn => by
  rw [List.getElem?_set_ne (fun z => hn (by rw [← z]; exact hs))]; exact e⟩
/-- nothing that was there changes -/
abbrev Keep := Ext fun _ => False
theorem Keep.get {h h' : IH} (k : Keep h h') {i : Nat} {o : O} (e : h[i]? = some o) : h'[i]? = some o := k.at_ i o e id
theorem Ext.keep {S : Nat → Prop} {h h' : IH} (k : Keep h h') : Ext S h h' := k.mono fun _ _ z => z.elim
/-- a change of what is new -/
theorem Ext.setNew {S : Nat → Prop} {h h' : IH} (k : Ext S h h') (n : Nat) (o : O) (hn : h.length ≤ n) : Ext S h (h'.set n o) := ⟨by simpa using k.le, fun i o' e hs => by
  have : i < h.length := (List.getElem?_eq_some_iff.mp e).1
  rw [List.getElem?_set_ne (by omega)]; exact k.at_ i o' e hs⟩
theorem get_new {h : IH} {o : O} : (h ++ [o])[h.length]? = some o := by simp
theorem get_old {h : IH} {o o' : O} {i : Nat} (e : h[i]? = some o) : (h ++ [o'])[i]? = some o := by rw [List.getElem?_append_left (List.getElem?_eq_some_iff.mp e).1]; exact e
theorem set_at {h : IH} {o o' : O} {i : Nat} (e : h[i]? = some o) : (h.set i o')[i]? = some o' := by rw [List.getElem?_set_self (List.getElem?_eq_some_iff.mp e).1]
theorem set_ne {h : IH} {o' : O} {i j : Nat} (e : i ≠ j) : (h.set i o')[j]? = h[j]? := List.getElem?_set_ne e
theorem lt_of_get {h : IH} {o : O} {i : Nat} (e : h[i]? = some o) : i < h.length := (List.getElem?_eq_some_iff.mp e).1
end IL
namespace IL
open PySem PySem.Spec PyProof.Rows L2
section
variable {h : IH} {xs : List D} {i j : Int} {a b : Str} {n : Nat} {d : D}
theorem atI_0 {α : Type} {xs : List α} : atI xs 0 = xs[0]? := by cases xs <;> simp [atI, ixN]
theorem atI_nat {α : Type} {xs : List α} (k : Nat) : atI xs (k : Int) = xs[k]? := by
  unfold atI ixN
  rw [if_pos (by omega)]
  by_cases hk : k < xs.length
  · rw [if_pos (by omega)]; simp
  · rw [if_neg (by omega), List.getElem?_eq_none (by omega)]; rfl
theorem atI_1 {α : Type} {xs : List α} : atI xs 1 = xs[1]? := atI_nat 1
theorem atI_2 {α : Type} {xs : List α} : atI xs 2 = xs[2]? := atI_nat 2
theorem atI_3 {α : Type} {xs : List α} : atI xs 3 = xs[3]? := atI_nat 3
theorem atI_4 {α : Type} {xs : List α} : atI xs 4 = xs[4]? := atI_nat 4
theorem atI_5 {α : Type} {xs : List α} : atI xs 5 = xs[5]? := atI_nat 5
theorem atI_m1 {α : Type} {xs : List α} : atI xs (-1) = xs.getLast? := by
  unfold atI ixN
  rw [if_neg (by omega)]
  by_cases hk : xs = []
  · subst hk; rfl
  · have : 0 < xs.length := List.length_pos_iff.mpr hk
    rw [if_pos (by omega), List.getLast?_eq_getElem?]
    show xs[((-1 : Int) + (xs.length : Int)).toNat]? = _
    congr 1
    omega
theorem gIx_tup : gIx (.tup xs) (.int i) h = (atI xs i).map fun d => (d, h) := rfl
theorem gIx_kt : gIx (.kt xs) (.int i) h = (atI xs i).map fun d => (d, h) := rfl
theorem gIx_sl : gIx (.sl xs) (.int i) h = (atI xs i).map fun d => (d, h) := rfl
theorem gIx_lst (e : h[n]? = some (.lst xs)) : gIx (.loc n) (.int i) h = (atI xs i).map fun d => (d, h) := by simp only [gIx, seqD, e, ixSeq]
theorem gEq_str : gEq (.str a) (.str b) h = some (.bl (decide (a = b)), h) := rfl
theorem gNe_str : gNe (.str a) (.str b) h = some (.bl (!decide (a = b)), h) := rfl
theorem gEq_int : gEq (.int i) (.int j) h = some (.bl (decide (i = j)), h) := rfl
theorem gNe_int : gNe (.int i) (.int j) h = some (.bl (!decide (i = j)), h) := rfl
theorem gAdd_int : gAdd (.int i) (.int j) h = some (.int (i + j), h) := rfl
theorem gAdd_str (e : a.length + b.length ≤ sizeLine) : gAdd (.str a) (.str b) h = some (.str (a ++ b), h) := by
  simp only [gAdd, gAddS, if_pos e]
theorem gAdd_tup {ys : List D} (e : xs.length + ys.length ≤ sizeLine) : gAdd (.tup xs) (.tup ys) h = some (.tup (xs ++ ys), h) := by
  simp only [gAdd, gAddT, if_pos e]
theorem gAdd_lst {m : Nat} {ys : List D} (e1 : h[m]? = some (.lst xs)) (e2 : h[n]? = some (.lst ys)) (e : xs.length + ys.length ≤ sizeLine) : gAdd (.loc m) (.loc n) h = some (.loc h.length, h ++ [.lst (xs ++ ys)]) := by
  simp only [gAdd, gAddL, e1, e2, if_pos e]
theorem seqD_tup : seqD h (.tup xs) = some xs := rfl
theorem seqD_kt : seqD h (.kt xs) = some xs := rfl
theorem seqD_sl : seqD h (.sl xs) = some xs := rfl
theorem seqD_lst (e : h[n]? = some (.lst xs)) : seqD h (.loc n) = some xs := by simp only [seqD, e]
theorem lstD_lst (e : h[n]? = some (.lst xs)) : lstD h (.loc n) = some xs := by simp only [lstD, e]
theorem gLen_tup : gLen [.tup xs] h = some (.int xs.length, h) := rfl
theorem gLen_kt : gLen [.kt xs] h = some (.int xs.length, h) := rfl
theorem gLen_lst (e : h[n]? = some (.lst xs)) : gLen [.loc n] h = some (.int xs.length, h) := by simp only [gLen, one, fLen, seqD, e]
theorem gLen_str (e : a.length ≤ sizeLine) : gLen [.str a] h = some (.int a.length, h) := by simp only [gLen, one, fLen, if_pos e]
theorem gTupOf_lst (e : h[n]? = some (.lst xs)) : gTupOf [.loc n] h = some (.tup xs, h) := by simp only [gTupOf, one, fTupOf, e]
theorem gTupOf_tup : gTupOf [.tup xs] h = some (.tup xs, h) := rfl
theorem gListOf_tup : gListOf [.tup xs] h = some (.loc h.length, h ++ [.lst xs]) := rfl
theorem gListOf_lst (e : h[n]? = some (.lst xs)) : gListOf [.loc n] h = some (.loc h.length, h ++ [.lst xs]) := by simp only [gListOf, one, seqD, e, Option.bind_some]
theorem gAppend_lst (e : h[n]? = some (.lst xs)) (hl : xs.length < sizeLine) : gAppend (.loc n) [d] h = some (.non, h.set n (.lst (xs ++ [d]))) := by
  simp only [gAppend, one, fLst, e, if_pos hl]
theorem seqSrc_tup : seqSrc h (.tup xs) = some (true, xs, []) := rfl
theorem seqSrc_kt : seqSrc h (.kt xs) = some (true, xs, []) := rfl
theorem seqSrc_sl : seqSrc h (.sl xs) = some (false, xs, []) := rfl
theorem seqSrc_lst (e : h[n]? = some (.lst xs)) : seqSrc h (.loc n) = some (false, xs, [(n, xs)]) := by simp only [seqSrc, e]
theorem depsOk_nil : depsOk [] h := fun _ hq => by cases hq
theorem depsOk_one (e : h[n]? = some (.lst xs)) : depsOk [(n, xs)] h := fun q hq => by
  have : q = (n, xs) := by simpa using hq
  subst this; exact e
end
/-- a source that is one value -/
theorem ok_pSeq {f : IE} {env : IEnv} {h : IH} {Q : List D × Deps × IH → Prop} (k : Ok (f env h) fun r => ∃ z xs dp, (∀ s, r.1 ≠ .str s) ∧ seqSrc r.2 r.1 = some (z, xs, dp) ∧ Q (xs, dp, r.2)) : Ok (pSeq f env h) Q := by
  unfold pSeq
  rw [Ok_bind]
  refine k.imp ?_
  rintro ⟨x, h1⟩ ⟨z, xs, dp, hx, e, q⟩
  have e' : seqSrc h1 x = some (z, xs, dp) := e
  cases x <;> first
    | exact absurd rfl (hx _)
    | exact Ok_map.mpr (Ok.of e' q)
theorem sz1 : (0 + 1 ≤ sizeLine) = True := eq_true (by rw [sizeLine_eq]; decide)
theorem sz2 : (0 + 1 + 1 ≤ sizeLine) = True := eq_true (by rw [sizeLine_eq]; decide)
theorem sz3 : (0 + 1 + 1 + 1 ≤ sizeLine) = True := eq_true (by rw [sizeLine_eq]; decide)
theorem sz4 : (0 + 1 + 1 + 1 + 1 ≤ sizeLine) = True := eq_true (by rw [sizeLine_eq]; decide)
theorem sz5 : (0 + 1 + 1 + 1 + 1 + 1 ≤ sizeLine) = True := eq_true (by rw [sizeLine_eq]; decide)
theorem sz6 : (0 + 1 + 1 + 1 + 1 + 1 + 1 ≤ sizeLine) = True := eq_true (by rw [sizeLine_eq]; decide)
theorem sz7 : (0 + 1 + 1 + 1 + 1 + 1 + 1 + 1 ≤ sizeLine) = True := eq_true (by rw [sizeLine_eq]; decide)
theorem sz8 : (0 + 1 + 1 + 1 + 1 + 1 + 1 + 1 + 1 ≤ sizeLine) = True := eq_true (by rw [sizeLine_eq]; decide)
theorem sz9 : (0 + 1 + 1 + 1 + 1 + 1 + 1 + 1 + 1 + 1 ≤ sizeLine) = True := eq_true (by rw [sizeLine_eq]; decide)
theorem sz10 : (0 + 1 + 1 + 1 + 1 + 1 + 1 + 1 + 1 + 1 + 1 ≤ sizeLine) = True := eq_true (by rw [sizeLine_eq]; decide)
theorem sz11 : (0 + 1 + 1 + 1 + 1 + 1 + 1 + 1 + 1 + 1 + 1 + 1 ≤ sizeLine) = True := eq_true (by rw [sizeLine_eq]; decide)
theorem sz12 : (0 + 1 + 1 + 1 + 1 + 1 + 1 + 1 + 1 + 1 + 1 + 1 + 1 ≤ sizeLine) = True := eq_true (by rw [sizeLine_eq]; decide)
theorem sz_of {n : Nat} (h : n ≤ 1000000) : n ≤ sizeLine := by rw [sizeLine_eq]; omega
theorem sz_lt {n : Nat} (h : n ≤ 1000000) : n < sizeLine := by rw [sizeLine_eq]; omega
end IL
namespace IL
open PySem PySem.Spec PyProof.Rows L2
theorem gPop_lst {h : IH} {n : Nat} {xs : List D} {d : D} (e : h[n]? = some (.lst (xs ++ [d]))) : gPop (.loc n) [] h = some (d, h.set n (.lst xs)) := by
  simp [gPop, fLst, e]
theorem gExtend_lst {h : IH} {n m : Nat} {xs ys : List D} (e : h[n]? = some (.lst xs)) (e2 : h[m]? = some (.lst ys)) (hn : n ≠ m) (hl : xs.length + ys.length ≤ sizeLine) : gExtend (.loc n) [.loc m] h = some (.non, h.set n (.lst (xs ++ ys))) := by
  simp [gExtend, fLst, one, e, e2, hn, seqD, hl]
theorem gExtend_tup {h : IH} {n : Nat} {xs ys : List D} (e : h[n]? = some (.lst xs)) (hl : xs.length + ys.length ≤ sizeLine) : gExtend (.loc n) [.tup ys] h = some (.non, h.set n (.lst (xs ++ ys))) := by
  simp [gExtend, fLst, one, e, seqD, hl]
theorem isTy_lst {h : IH} {n : Nat} {xs : List D} (e : h[n]? = some (.lst xs)) : isTy "list" (.loc n) h = true := by simp only [isTy, e, decide_true]
theorem isTy_dic {h : IH} {n : Nat} {xs : List (Key × D)} (e : h[n]? = some (.dic xs)) : isTy "dict" (.loc n) h = true := by simp only [isTy, e, decide_true]
theorem isTy_str {h : IH} {z : Str} : isTy "str" (.str z) h = true := by simp only [isTy, decide_true]
/-- a built-in's method: the receiver, the arguments -/
theorem ok_bm {T : String} {g : GM} {fo : IE} {a : IA} {env : IEnv} {h : IH} {Q : D × IH → Prop} (k : Ok (fo env h) fun r => isTy T r.1 r.2 = true ∧ Ok (a env r.2) fun q => Ok (g r.1 q.1 q.2) Q) : Ok (iBM T g fo a env h) Q := by
  unfold iBM
  rw [Ok_bind]
  refine k.imp ?_
  rintro ⟨x, h1⟩ ⟨ty, q⟩
  simp only at ty
  simp only [if_pos ty, Ok_bind]
  exact q
end IL

/-! own layer, part 18: values that compare deep -/
namespace IL
open PySem PySem.Spec PyProof.Rows L2
/-! None, ints, texts, tuples of these, nested at most n deep -/
mutual
def D.fine : D → Nat → Bool
  | .non, _ => true
  | .int _, _ => true
  | .str x, _ => PySem.PyData.strOk x
  | .tup xs, n => match n with
    | 0 => false
    | n + 1 => D.fines xs n
  | _, _ => false
def D.fines : List D → Nat → Bool
  | [], _ => true
  | d :: ds, n => D.fine d n && D.fines ds n
end
theorem fines_iff : ∀ {xs : List D} {n : Nat}, D.fines xs n = true ↔ ∀ x ∈ xs, D.fine x n = true
  | [], _ => by simp [D.fines]
  | d :: ds, n => by simp [D.fines, fines_iff (xs := ds)]
theorem fine_tup {xs : List D} {n : Nat} : D.fine (.tup xs) (n + 1) = D.fines xs n := by simp only [D.fine]
theorem fine_str {x : Str} {n : Nat} : D.fine (.str x) n = PySem.PyData.strOk x := by cases n <;> simp only [D.fine]
theorem fine_int {x : Int} {n : Nat} : D.fine (.int x) n = true := by cases n <;> simp only [D.fine]
theorem fine_non {n : Nat} : D.fine .non n = true := by cases n <;> simp only [D.fine]
mutual
theorem fine_py : ∀ {d : D} {n : Nat}, d.fine n = true → ∃ p, d.py = some p ∧ p.canLay0 = true ∧ p.depth ≤ n
  | .non, n, _ => ⟨.none, rfl, by simp only [PyData.canLay0], by simp [PyData.depth]⟩
  | .int i, n, _ => ⟨.int i, rfl, by simp only [PyData.canLay0], by simp [PyData.depth]⟩
  | .str x, n, h => ⟨.str x, rfl, by simp only [PyData.canLay0]; rw [fine_str] at h; exact h, by simp [PyData.depth]⟩
  | .tup xs, 0, h => by simp [D.fine] at h
  | .tup xs, n + 1, h => by
    rw [fine_tup] at h
    obtain ⟨ps, e, l, m⟩ := fines_py h
    exact ⟨.tuple ps, by simp only [D.py, e, Option.map_some], by simp only [PyData.canLay0]; exact l, by simp only [PyData.depth]; omega⟩
  | .bl _, n, h => by simp [D.fine] at h
  | .kt _, n, h => by simp [D.fine] at h
  | .sl _, n, h => by simp [D.fine] at h
  | .loc _, n, h => by simp [D.fine] at h
theorem fines_py : ∀ {ds : List D} {n : Nat}, D.fines ds n = true → ∃ ps, D.pys ds = some ps ∧ PyData.canLayAll0 ps = true ∧ PyData.depthAll ps ≤ n
  | [], n, _ => ⟨[], rfl, by simp only [PyData.canLayAll0], by simp [PyData.depthAll]⟩
  | d :: ds, n, h => by
    simp only [D.fines, Bool.and_eq_true] at h
    obtain ⟨p, e1, l1, m1⟩ := fine_py h.1
    obtain ⟨ps, e2, l2, m2⟩ := fines_py h.2
    exact ⟨p :: ps, by simp only [D.pys, e1, e2, Option.bind_some, Option.map_some], by simp only [PyData.canLayAll0, l1, l2, Bool.and_self], by simp only [PyData.depthAll]; omega⟩
end
mutual
theorem fine_eqv : ∀ {d e : D} {n m : Nat} {p q : PyData}, d.fine n = true → e.fine m = true → d.py = some p → e.py = some q → (PyData.eqv p q = true ↔ d = e)
  | .non, e, n, m, p, q, hd, he, e1, e2 => by
    cases (Option.some.inj e1)
    cases e <;> simp only [D.py] at e2 <;> simp only [D.fine, Bool.false_eq_true] at he
    case non => cases (Option.some.inj e2); simp [PyData.eqv]
    case int => cases (Option.some.inj e2); simp [PyData.eqv]
    case str => cases (Option.some.inj e2); simp [PyData.eqv]
    case tup =>
      obtain ⟨ps, _, rfl⟩ := Option.map_eq_some_iff.mp e2
      simp [PyData.eqv]
  | .int i, e, n, m, p, q, hd, he, e1, e2 => by
    cases (Option.some.inj e1)
    cases e <;> simp only [D.py] at e2 <;> simp only [D.fine, Bool.false_eq_true] at he
    case non => cases (Option.some.inj e2); simp [PyData.eqv]
    case int => cases (Option.some.inj e2); simp [PyData.eqv]
    case str => cases (Option.some.inj e2); simp [PyData.eqv]
    case tup =>
      obtain ⟨ps, _, rfl⟩ := Option.map_eq_some_iff.mp e2
      simp [PyData.eqv]
  | .str x, e, n, m, p, q, hd, he, e1, e2 => by
    cases (Option.some.inj e1)
    cases e <;> simp only [D.py] at e2 <;> simp only [D.fine, Bool.false_eq_true] at he
    case non => cases (Option.some.inj e2); simp [PyData.eqv]
    case int => cases (Option.some.inj e2); simp [PyData.eqv]
    case str => cases (Option.some.inj e2); simp [PyData.eqv]
    case tup =>
      obtain ⟨ps, _, rfl⟩ := Option.map_eq_some_iff.mp e2
      simp [PyData.eqv]
  | .tup xs, e, n, m, p, q, hd, he, e1, e2 => by
    simp only [D.py] at e1
    obtain ⟨ps, e3, rfl⟩ := Option.map_eq_some_iff.mp e1
    cases e <;> simp only [D.py] at e2
    case non => cases (Option.some.inj e2); simp [PyData.eqv]
    case int => cases (Option.some.inj e2); simp [PyData.eqv]
    case str => cases (Option.some.inj e2); simp [PyData.eqv]
    case tup ys =>
      obtain ⟨qs, e4, rfl⟩ := Option.map_eq_some_iff.mp e2
      cases n with
      | zero => simp [D.fine] at hd
      | succ n =>
        cases m with
        | zero => simp [D.fine] at he
        | succ m =>
          rw [fine_tup] at hd he
          simp only [PyData.eqv, D.tup.injEq]
          exact fines_eqv hd he e3 e4
    all_goals (cases m <;> simp [D.fine] at he)
  | .bl _, e, n, m, p, q, hd, _, _, _ => by cases n <;> simp [D.fine] at hd
  | .kt _, e, n, m, p, q, hd, _, _, _ => by cases n <;> simp [D.fine] at hd
  | .sl _, e, n, m, p, q, hd, _, _, _ => by cases n <;> simp [D.fine] at hd
  | .loc _, e, n, m, p, q, hd, _, _, _ => by cases n <;> simp [D.fine] at hd
theorem fines_eqv : ∀ {ds es : List D} {n m : Nat} {ps qs : List PyData}, D.fines ds n = true → D.fines es m = true → D.pys ds = some ps → D.pys es = some qs → (PyData.eqvAll ps qs = true ↔ ds = es)
  | [], es, n, m, ps, qs, _, he, e1, e2 => by
    cases (Option.some.inj e1)
    cases es with
    | nil => cases (Option.some.inj e2); simp [PyData.eqvAll]
    | cons e es =>
      simp only [D.pys] at e2
      obtain ⟨q, _, e2⟩ := Option.bind_eq_some_iff.mp e2
      obtain ⟨qs', _, rfl⟩ := Option.map_eq_some_iff.mp e2
      simp [PyData.eqvAll]
  | d :: ds, es, n, m, ps, qs, hd, he, e1, e2 => by
    simp only [D.pys] at e1
    obtain ⟨p, e3, e1⟩ := Option.bind_eq_some_iff.mp e1
    obtain ⟨ps', e4, rfl⟩ := Option.map_eq_some_iff.mp e1
    simp only [D.fines, Bool.and_eq_true] at hd
    cases es with
    | nil => cases (Option.some.inj e2); simp [PyData.eqvAll]
    | cons e es =>
      simp only [D.pys] at e2
      obtain ⟨q, e5, e2⟩ := Option.bind_eq_some_iff.mp e2
      obtain ⟨qs', e6, rfl⟩ := Option.map_eq_some_iff.mp e2
      simp only [D.fines, Bool.and_eq_true] at he
      simp only [PyData.eqvAll, Bool.and_eq_true, List.cons.injEq]
      rw [fine_eqv hd.1 he.1 e3 e5, fines_eqv hd.2 he.2 e4 e6]
end
/-- == of fine values -/
theorem eqD_fine {x y : D} {h : IH} {n m : Nat} (hx : x.fine n = true) (hy : y.fine m = true) (hn : n ≤ 400) (hm : m ≤ 400) : ∃ b : Bool, eqD x y h = some b ∧ (b = true ↔ x = y) := by
  obtain ⟨p, e1, l1, m1⟩ := fine_py hx
  obtain ⟨q, e2, l2, m2⟩ := fine_py hy
  have e1' : pyH h x = some p := by cases x <;> first | exact e1 | (cases n <;> simp [D.fine] at hx)
  have e2' : pyH h y = some q := by cases y <;> first | exact e2 | (cases m <;> simp [D.fine] at hy)
  unfold eqD
  cases e3 : eqS x y with
  | some b =>
    refine ⟨b, rfl, ?_⟩
    cases x <;> cases y <;> simp only [eqS] at e3 <;> first
      | (cases e3; done)
      | (cases (Option.some.inj e3); simp)
  | none =>
    refine ⟨PyData.eqv p q, ?_, fine_eqv hx hy e1 e2⟩
    have la : laid p = true := by simp [laid, l1]; omega
    have lb : laid q = true := by simp [laid, l2]; omega
    simp only [e1', e2', Option.bind_some, la, lb, Bool.and_self, if_true]
/-- a list against [] -/
theorem eqD_nil {m k : Nat} {h : IH} {xs : List D} {n : Nat} (e1 : h[m]? = some (.lst xs)) (e2 : h[k]? = some (.lst [])) (hx : D.fines xs n = true) (hn : n < 400) : eqD (.loc m) (.loc k) h = some xs.isEmpty := by
  obtain ⟨ps, e3, l, d⟩ := fines_py hx
  have la : laid (.list ps) = true := by
    have hd : (PyData.list ps).depth ≤ 400 := by simp only [PyData.depth]; omega
    have hl : (PyData.list ps).canLay0 = true := by simp only [PyData.canLay0]; exact l
    simp only [laid, hl, hd, decide_true, Bool.and_self]
  have lb : laid (.list []) = true := by decide
  show (pyH h (.loc m)).bind _ = _
  simp only [pyH, e1, e2, e3, D.pys, Option.map_some, Option.bind_some, la, lb, Bool.and_self, if_true, PyData.eqv]
  cases xs with
  | nil => cases (Option.some.inj e3); simp [PyData.eqvAll]
  | cons x xs =>
    simp only [D.pys] at e3
    obtain ⟨q, _, e3⟩ := Option.bind_eq_some_iff.mp e3
    obtain ⟨qs', _, rfl⟩ := Option.map_eq_some_iff.mp e3
    simp [PyData.eqvAll]
theorem fine_mono : ∀ {d : D} {n m : Nat}, d.fine n = true → n ≤ m → d.fine m = true := by
  intro d n m
  induction n generalizing d m with
  | zero =>
    intro h hm
    cases d <;> simp [D.fine] at h ⊢
    exact h
  | succ n ih =>
    intro h hm
    cases d <;> try (simp [D.fine] at h ⊢; done)
    · rw [fine_str] at h ⊢; exact h
    · obtain ⟨m, rfl⟩ : ∃ k, m = k + 1 := ⟨m - 1, by omega⟩
      rw [fine_tup, fines_iff] at h ⊢
      exact fun x hx => ih (h x hx) (by omega)
theorem gNe_nil {m k : Nat} {h : IH} {xs : List D} {n : Nat} (e1 : h[m]? = some (.lst xs)) (e2 : h[k]? = some (.lst [])) (hx : D.fines xs n = true) (hn : n < 400) : gNe (.loc m) (.loc k) h = some (.bl (!xs.isEmpty), h) := by
  simp only [gNe, eqD_nil e1 e2 hx hn, Option.map_some]
theorem gEq_nil {m k : Nat} {h : IH} {xs : List D} {n : Nat} (e1 : h[m]? = some (.lst xs)) (e2 : h[k]? = some (.lst [])) (hx : D.fines xs n = true) (hn : n < 400) : gEq (.loc m) (.loc k) h = some (.bl xs.isEmpty, h) := by
  simp only [gEq, eqD_nil e1 e2 hx hn, Option.map_some]
theorem len_push {h : IH} {o : O} : (h ++ [o]).length = h.length + 1 := by simp
end IL

/-! own layer, part 19: comprehensions that map, that choose -/
namespace IL
open PySem PySem.Spec PyProof.Rows L2
theorem depsOk_keep {dp : Deps} {h h' : IH} (d : depsOk dp h) (k : Keep h h') : depsOk dp h' := fun q hq => k.get (d q hq)
theorem depsOk_ext {S : Nat → Prop} {dp : Deps} {h h' : IH} (d : depsOk dp h) (k : Ext S h h') (hS : ∀ q ∈ dp, ¬ S q.1) : depsOk dp h' := fun q hq => k.at_ _ _ (d q hq) (hS q hq)
section
variable {p : ISrc} {t : CT} {vs : List Nat} {tt : IT} {te : IE} {env : IEnv} {h h1 : IH} {Q : D × IH → Prop} {items : List D} {dp : Deps}
/-- each item's value; what S holds may change, J tells of it -/
theorem ok_mapS (S : Nat → Prop) (J : IH → Prop) (P : Nat → D → Prop) (e : p env h = some (items, dp, h1)) (dk : depsOk dp h1) (hl : items.length ≤ 1000000) (hS : ∀ i, S i → i < h1.length) (hdp : ∀ q ∈ dp, ¬ S q.1)
    (hJ : ∀ h' h'' : IH, J h' → (∀ i, S i → h''[i]? = h'[i]?) → J h'') (J0 : J h1)
    (step : ∀ i d h', items[i]? = some d → Ext S h1 h' → J h' → Ok (t.put d (wipeD env vs)) fun env1 => Ok (te env1 h') fun y => P i y.1 ∧ Ext S h' y.2 ∧ J y.2)
    (fin : ∀ (ys : List D) (h' : IH), ys.length = items.length → (∀ i y, ys[i]? = some y → P i y) → Ext S h1 h' → J h' → h'[h1.length]? = some (.lst ys) → Q (.loc h1.length, h')) : Ok (iComp p t vs jYes te env h) Q := by
  refine ok_comp (Ok.of e ⟨dk, ?_⟩)
  refine ok_compI (fun i h' => ∃ ys : List D, ys.length = i ∧ i ≤ items.length ∧ (∀ j y, ys[j]? = some y → P j y) ∧ Ext S h1 h' ∧ J h' ∧ h'[h1.length]? = some (.lst ys)) (fun i h' hI => ?_) (fun i d h' hd hI => ?_) (fun h' hI => ?_) ?_
  · obtain ⟨ys, _, _, _, k, _, _⟩ := hI
    exact depsOk_ext dk k hdp
  · obtain ⟨ys, hl1, hi, hP, k, hj, hn⟩ := hI
    have hlt : i < items.length := (List.getElem?_eq_some_iff.mp hd).1
    refine (step i d h' hd k hj).imp fun env1 q => Ok_some.mpr ?_
    show Ok (te env1 h') _
    refine Ok.imp q ?_
    rintro ⟨y, h2⟩ ⟨hy, k2, j2⟩
    have nS : ¬ S h1.length := fun z => Nat.lt_irrefl _ (hS _ z)
    have hn2 : h2[h1.length]? = some (.lst ys) := k2.at_ _ _ hn nS
    refine ⟨ys, hn2, by rw [sizeLine_eq]; omega, ys ++ [y], by simp [hl1], hlt, fun j z hz => ?_, (k.trans k2).setNew _ _ (Nat.le_refl _), hJ h2 _ j2 fun i hi => ?_, set_at hn2⟩
    · rcases Nat.lt_or_ge j ys.length with hj' | hj'
      · rw [List.getElem?_append_left hj'] at hz; exact hP j z hz
      · rw [List.getElem?_append_right hj'] at hz
        have : j = i := by
          have := (List.getElem?_eq_some_iff.mp hz).1
          simp at this
          omega
        subst this
        rw [hl1, Nat.sub_self] at hz
        cases hz
        exact hy
    · rw [set_ne (fun z => nS (by rw [z]; exact hi))]
  · obtain ⟨ys, hl1, hi, hP, k, hj, hn⟩ := hI
    exact fin ys h' hl1 hP k hj hn
  · refine ⟨[], rfl, Nat.zero_le _, fun j y hy => by simp at hy, Ext.push _ _, hJ h1 _ J0 fun i hi => ?_, get_new⟩
    rw [List.getElem?_append_left (hS i hi)]
/-- nothing old changes -/
theorem ok_mapK (P : Nat → D → Prop) (e : p env h = some (items, dp, h1)) (dk : depsOk dp h1) (hl : items.length ≤ 1000000)
    (step : ∀ i d h', items[i]? = some d → Keep h1 h' → Ok (t.put d (wipeD env vs)) fun env1 => Ok (te env1 h') fun y => P i y.1 ∧ Keep h' y.2)
    (fin : ∀ (ys : List D) (h' : IH), ys.length = items.length → (∀ i y, ys[i]? = some y → P i y) → Keep h1 h' → h'[h1.length]? = some (.lst ys) → Q (.loc h1.length, h')) : Ok (iComp p t vs jYes te env h) Q :=
  ok_mapS (fun _ => False) (fun _ => True) P e dk hl (fun _ z => z.elim) (fun _ _ z => z) (fun _ _ _ _ => trivial) trivial (fun i d h' hd k _ => (step i d h' hd k).imp fun env1 q => Ok.imp q fun y z => ⟨z.1, z.2, trivial⟩)
    (fun ys h' hl hP k _ hn => fin ys h' hl hP k hn)
/-- a map by values -/
theorem ok_mapF (f : D → D) (e : p env h = some (items, dp, h1)) (dk : depsOk dp h1) (hl : items.length ≤ 1000000)
    (step : ∀ d ∈ items, ∀ h', Keep h1 h' → Ok (t.put d (wipeD env vs)) fun env1 => Ok (te env1 h') fun y => y.1 = f d ∧ Keep h' y.2)
    (fin : ∀ (h' : IH), Keep h1 h' → h'[h1.length]? = some (.lst (items.map f)) → Q (.loc h1.length, h')) : Ok (iComp p t vs jYes te env h) Q :=
  ok_mapK (fun i y => ∃ d, items[i]? = some d ∧ y = f d) e dk hl (fun i d h' hd k => (step d (List.mem_of_getElem? hd) h' k).imp fun env1 q => Ok.imp q fun y z => ⟨⟨d, hd, z.1⟩, z.2⟩) fun ys h' hl hP k hn => by
    have : ys = items.map f := by
      apply List.ext_getElem?
      intro i
      by_cases hi : i < ys.length
      · obtain ⟨d, e1, e2⟩ := hP i ys[i] (List.getElem?_eq_getElem hi)
        rw [List.getElem?_eq_getElem hi, List.getElem?_map, e1, e2]; rfl
      · rw [List.getElem?_eq_none (by omega), List.getElem?_eq_none (by simp; omega)]
    rw [this] at hn
    exact fin h' k hn
/-- those that pass, by values -/
theorem ok_filterF (g : D → Bool) (f : D → D) (e : p env h = some (items, dp, h1)) (dk : depsOk dp h1) (hl : items.length ≤ 1000000)
    (step : ∀ d ∈ items, ∀ h', Keep h1 h' → Ok (t.put d (wipeD env vs)) fun env1 => Ok (tt env1 h') fun r => r.1 = g d ∧ Keep h' r.2 ∧ (g d = true → Ok (te env1 r.2) fun y => y.1 = f d ∧ Keep r.2 y.2))
    (fin : ∀ (h' : IH), Keep h1 h' → h'[h1.length]? = some (.lst ((items.filter g).map f)) → Q (.loc h1.length, h')) : Ok (iComp p t vs tt te env h) Q := by
  refine ok_comp (Ok.of e ⟨dk, ?_⟩)
  refine ok_compI (fun i h' => Keep h1 h' ∧ h'[h1.length]? = some (.lst (((items.take i).filter g).map f))) (fun i h' hI => depsOk_keep dk hI.1) (fun i d h' hd hI => ?_) (fun h' hI => ?_) ⟨Ext.push _ _, by simp⟩
  · obtain ⟨k, hn⟩ := hI
    have et : items.take (i + 1) = items.take i ++ [d] := by rw [List.take_succ, hd]; rfl
    refine (step d (List.mem_of_getElem? hd) h' k).imp fun env1 q => Ok.imp q ?_
    rintro ⟨b, h2⟩ ⟨hb, k2, q⟩
    simp only at hb k2 q
    subst hb
    cases hg : g d
    · refine ⟨k.trans k2, ?_⟩
      rw [et, List.filter_append]
      simp only [List.filter_cons, hg, Bool.false_eq_true, if_false, List.filter_nil, List.append_nil]
      exact k2.get hn
    · simp only [if_true]
      refine Ok.imp (q hg) ?_
      rintro ⟨y, h3⟩ ⟨hy, k3⟩
      simp only at hy k3
      subst hy
      have hn3 := k3.get (k2.get hn)
      refine ⟨_, hn3, ?_, ((k.trans k2).trans k3).setNew _ _ (Nat.le_refl _), ?_⟩
      · have h1 := List.length_filter_le g (items.take i)
        have h2 : (items.take i).length ≤ items.length := by rw [List.length_take]; omega
        rw [sizeLine_eq, List.length_map]
        omega
      · rw [set_at hn3, et, List.filter_append]
        simp [List.filter_cons, hg]
  · have := hI.2
    rw [List.take_length] at this
    exact fin h' hI.1 this
end
end IL
namespace IL
open PySem PySem.Spec PyProof.Rows L2
theorem sIx_some (n d k : Nat) : HT.sIx n d (some (k : Int)) = min k n := HT.sIx_nat n d k
theorem cutD_take {xs : List D} {k : Nat} : cutD xs none (some (k : Int)) = xs.take k := by
  unfold cutD
  rw [sIx_some]
  show ((xs.drop 0).take (min k xs.length - 0)) = xs.take k
  rw [List.drop_zero, Nat.sub_zero]
  rcases Nat.le_total k xs.length with h | h
  · rw [Nat.min_eq_left h]
  · rw [Nat.min_eq_right h, List.take_length, List.take_of_length_le h]
theorem cutD_drop {xs : List D} {k : Nat} : cutD xs (some (k : Int)) none = xs.drop k := by
  unfold cutD
  rw [sIx_some]
  show ((xs.drop (min k xs.length)).take (xs.length - min k xs.length)) = xs.drop k
  rw [List.take_of_length_le (by rw [List.length_drop]; omega)]
  rcases Nat.le_total k xs.length with h | h
  · rw [Nat.min_eq_left h]
  · rw [Nat.min_eq_right h, List.drop_length, List.drop_eq_nil_of_le h]
theorem cutD_mid {xs : List D} {j k : Nat} (hj : j ≤ k) (hk : k ≤ xs.length) : cutD xs (some (j : Int)) (some (k : Int)) = (xs.drop j).take (k - j) := by
  unfold cutD
  rw [sIx_some, sIx_some, Nat.min_eq_left hk, Nat.min_eq_left (by omega)]
theorem cutD_take2 {xs : List D} : cutD xs none (some 2) = xs.take 2 := cutD_take (k := 2)
theorem gSl_lst {h : IH} {n : Nat} {xs : List D} {lo hi : Option Int} (e : h[n]? = some (.lst xs)) : gSl (.loc n) lo hi h = some (.loc h.length, h ++ [.lst (cutD xs lo hi)]) := by
  simp only [gSl, e]
theorem gSl_sl {h : IH} {xs : List D} {lo hi : Option Int} : gSl (.sl xs) lo hi h = some (.loc h.length, h ++ [.lst (cutD xs lo hi)]) := rfl
theorem eqF_str (a b : Str) : eqF (.str a) (.str b) = (a == b) := rfl
theorem isIn_lst {h : IH} {n : Nat} {xs : List D} {x : D} (e : h[n]? = some (.lst xs)) (f : (flatD x && xs.all flatD) = true) : isIn x (.loc n) h = some (inD x xs) := by
  simp only [isIn, e, f, if_true]
theorem isIn_tup {h : IH} {xs : List D} {x : D} (f : (flatD x && xs.all flatD) = true) : isIn x (.tup xs) h = some (inD x xs) := by
  simp only [isIn, seqD, Option.bind_some, f, if_true]
theorem inD_strs (x : Str) (xs : List Str) : inD (.str x) (xs.map D.str) = decide (x ∈ xs) := by
  unfold inD
  rw [List.any_map, Bool.eq_iff_iff]
  simp [eqF]
theorem flat_strs (xs : List Str) : (xs.map D.str).all flatD = true := by simp [flatD]
theorem firstAt_strs (y : Str) (xs : List Str) : firstAt (.str y) (xs.map D.str) = xs.findIdx? (fun x => x == y) := by
  induction xs with
  | nil => rfl
  | cons x xs ih =>
    simp only [List.map_cons, firstAt, eqF, List.findIdx?_cons, ih]
end IL

set_option maxHeartbeats 0
/-! each def's meaning and derivation: printed by gen.py -/
namespace K88
open PySem PySem.Spec PyProof.Rows L2 IL
def top (i : Nat) : Stmt := PySem.Challenge.pw_pursewright_k88_whole_over_a_chain.main.body.getD i (.Pass ⟨0, 0, 0, 0⟩)
/-! 0: spare_names (0 function, 1 taken, 2 param, 3 name) -/
def df_0 : DefI := ⟨⟨("spare_names", none), "spare_names", "spare_names", defArgs (top 2), defBody (top 2), defScope (top 2), [], []⟩, ["function", "taken", "param", "name"], ["function"]⟩
/-! 1: with_more (0 program, 1 kinds, 2 function) -/
def df_1 : DefI := ⟨⟨("with_more", none), "with_more", "with_more", defArgs (top 3), defBody (top 3), defScope (top 3), [], []⟩, ["program", "kinds", "function"], ["program", "kinds", "function"]⟩
/-! 2: chained (0 program, 1 f, 2 g, 3 name, 4 first, 5 second, 6 between, 7 told, 8 params, 9 body, 10 param) -/
def df_2 : DefI := ⟨⟨("chained", none), "chained", "chained", defArgs (top 4), defBody (top 4), defScope (top 4), [], []⟩, ["program", "f", "g", "name", "first", "second", "between", "told", "params", "body", "param"], ["program", "f", "g", "name"]⟩
/-! 3: over (0 program, 1 f, 2 names, 3 taken, 4 none, 5 more, 6 given, 7 empty, 8 longer, 9 name, 10 function, 11 thing, 12 kinds, 13 nothing, 14 each, 15 body) -/
def df_3 : DefI := ⟨⟨("over", none), "over", "over", defArgs (top 5), defBody (top 5), defScope (top 5), [], []⟩, ["program", "f", "names", "taken", "none", "more", "given", "empty", "longer", "name", "function", "thing", "kinds", "nothing", "each", "body"], ["program", "f", "names"]⟩
/-! 4: bodies_in (0 piece, 1 arm) -/
def df_4 : DefI := ⟨⟨("bodies_in", none), "bodies_in", "bodies_in", defArgs (top 7), defBody (top 7), defScope (top 7), [], []⟩, ["piece", "arm"], ["piece"]⟩
/-! 5: pieces (0 body, 1 found, 2 left, 3 piece) -/
def df_5 : DefI := ⟨⟨("pieces", none), "pieces", "pieces", defArgs (top 8), defBody (top 8), defScope (top 8), [], []⟩, ["body", "found", "left", "piece"], ["body"]⟩
/-! 6: number_of (0 program, 1 name, 2 function) -/
def df_6 : DefI := ⟨⟨("number_of", none), "number_of", "number_of", defArgs (top 9), defBody (top 9), defScope (top 9), [], []⟩, ["program", "name", "function"], ["program", "name"]⟩
/-! 7: makers_in (0 value, 1 found, 2 left, 3 maker, 4 parts) -/
def df_7 : DefI := ⟨⟨("makers_in", none), "makers_in", "makers_in", defArgs (top 11), defBody (top 11), defScope (top 11), [], []⟩, ["value", "found", "left", "maker", "parts"], ["value"]⟩
/-! 8: size (0 value) -/
def df_8 : DefI := ⟨⟨("size", none), "size", "size", defArgs (top 12), defBody (top 12), defScope (top 12), [], []⟩, ["value"], ["value"]⟩
/-! 9: deep (0 value, 1 part) -/
def df_9 : DefI := ⟨⟨("deep", none), "deep", "deep", defArgs (top 13), defBody (top 13), defScope (top 13), [], []⟩, ["value", "part"], ["value"]⟩
/-! 10: Walk.__init__ (0 self, 1 program, 2 f, 3 args, 4 coins, 5 function) -/
def df_10 : DefI := ⟨⟨("Walk", some ("__init__" : Str)), "__init__", "Walk.__init__", defArgs ((inClass (top 17) 0)), defBody ((inClass (top 17) 0)), defScope ((inClass (top 17) 0)), [], []⟩, ["self", "program", "f", "args", "coins", "function"], ["self", "program", "f", "args", "coins"]⟩
/-! 11: Walk.begin (0 self, 1 f, 2 args, 3 known, 4 param, 5 value) -/
def df_11 : DefI := ⟨⟨("Walk", some ("begin" : Str)), "begin", "Walk.begin", defArgs ((inClass (top 17) 1)), defBody ((inClass (top 17) 1)), defScope ((inClass (top 17) 1)), [], []⟩, ["self", "f", "args", "known", "param", "value"], ["self", "f", "args"]⟩
/-! 12: Walk.purse (0 self) -/
def df_12 : DefI := ⟨⟨("Walk", some ("purse" : Str)), "purse", "Walk.purse", defArgs ((inClass (top 17) 3)), defBody ((inClass (top 17) 3)), defScope ((inClass (top 17) 3)), [], []⟩, ["self"], ["self"]⟩
/-! 13: Walk.steps (0 self) -/
def df_13 : DefI := ⟨⟨("Walk", some ("steps" : Str)), "steps", "Walk.steps", defArgs ((inClass (top 17) 4)), defBody ((inClass (top 17) 4)), defScope ((inClass (top 17) 4)), [], []⟩, ["self"], ["self"]⟩
/-! 14: Walk.end (0 self) -/
def df_14 : DefI := ⟨⟨("Walk", some ("end" : Str)), "end", "Walk.end", defArgs ((inClass (top 17) 5)), defBody ((inClass (top 17) 5)), defScope ((inClass (top 17) 5)), [], []⟩, ["self"], ["self"]⟩
/-! 15: Walk.stop (0 self, 1 finish) -/
def df_15 : DefI := ⟨⟨("Walk", some ("stop" : Str)), "stop", "Walk.stop", defArgs ((inClass (top 17) 6)), defBody ((inClass (top 17) 6)), defScope ((inClass (top 17) 6)), [], []⟩, ["self", "finish"], ["self", "finish"]⟩
/-! 16: Walk.bind (0 self, 1 x, 2 value) -/
def df_16 : DefI := ⟨⟨("Walk", some ("bind" : Str)), "bind", "Walk.bind", defArgs ((inClass (top 17) 7)), defBody ((inClass (top 17) 7)), defScope ((inClass (top 17) 7)), [], []⟩, ["self", "x", "value"], ["self", "x", "value"]⟩
/-! 17: Walk.turn (0 self, 1 f, 2 n, 3 known) -/
def df_17 : DefI := ⟨⟨("Walk", some ("turn" : Str)), "turn", "Walk.turn", defArgs ((inClass (top 17) 8)), defBody ((inClass (top 17) 8)), defScope ((inClass (top 17) 8)), [], []⟩, ["self", "f", "n", "known"], ["self"]⟩
/-! 18: Walk.do_piece (0 self, 1 piece, 2 known, 3 word, 4 y) -/
def df_18 : DefI := ⟨⟨("Walk", some ("do_piece" : Str)), "do_piece", "Walk.do_piece", defArgs ((inClass (top 17) 9)), defBody ((inClass (top 17) 9)), defScope ((inClass (top 17) 9)), [], []⟩, ["self", "piece", "known", "word", "y"], ["self", "piece", "known"]⟩
/-! 19: Walk.make (0 self, 1 piece, 2 parts, 3 many, 4 within, 5 part) -/
def df_19 : DefI := ⟨⟨("Walk", some ("make" : Str)), "make", "Walk.make", defArgs ((inClass (top 17) 10)), defBody ((inClass (top 17) 10)), defScope ((inClass (top 17) 10)), [], []⟩, ["self", "piece", "parts", "many", "within", "part"], ["self", "piece", "parts"]⟩
/-! 20: Walk.choose (0 self, 1 piece, 2 known, 3 maker, 4 parts, 5 ahead, 6 arm, 7 names, 8 body, 9 x, 10 part) -/
def df_20 : DefI := ⟨⟨("Walk", some ("choose" : Str)), "choose", "Walk.choose", defArgs ((inClass (top 17) 11)), defBody ((inClass (top 17) 11)), defScope ((inClass (top 17) 11)), [], []⟩, ["self", "piece", "known", "maker", "parts", "ahead", "arm", "names", "body", "x", "part"], ["self", "piece", "known"]⟩
/-! 21: Walk.give (0 self, 1 value, 2 f, 3 n, 4 known) -/
def df_21 : DefI := ⟨⟨("Walk", some ("give" : Str)), "give", "Walk.give", defArgs ((inClass (top 17) 12)), defBody ((inClass (top 17) 12)), defScope ((inClass (top 17) 12)), [], []⟩, ["self", "value", "f", "n", "known"], ["self", "value"]⟩
/-! 22: ran (0 program, 1 f, 2 args, 3 coins, 4 most, 5 walk, 6 end) -/
def df_22 : DefI := ⟨⟨("ran", none), "ran", "ran", defArgs (top 19), defBody (top 19), defScope (top 19), [], []⟩, ["program", "f", "args", "coins", "most", "walk", "end"], ["program", "f", "args", "coins", "most"]⟩
/-! 23: _law_deal (0 _law_script, 1 _law_base, 2 _law_cells, 3 _law_number, 4 _law_cell) -/
def df_23 : DefI := ⟨⟨("_law_deal", none), "_law_deal", "_law_deal", defArgs (top 21), defBody (top 21), defScope (top 21), [], []⟩, ["_law_script", "_law_base", "_law_cells", "_law_number", "_law_cell"], ["_law_script", "_law_base"]⟩
/-! 24: _law_draw (0 _law_deal_here, 1 _law_many, 2 _law_number, 3 _law_one, 4 _law_other) -/
def df_24 : DefI := ⟨⟨("_law_draw", none), "_law_draw", "_law_draw", defArgs (top 22), defBody (top 22), defScope (top 22), [], []⟩, ["_law_deal_here", "_law_many", "_law_number", "_law_one", "_law_other"], ["_law_deal_here", "_law_many"]⟩
/-! 25: _law_words (0 _law_deal_here, 1 _law_many, 2 _law_letters, 3 _law_core, 4 _law_at, 5 _law_turn, 6 _law_found, 7 _law_k, 8 _law_own, 9 _law_word, 10 _law_near) -/
def df_25 : DefI := ⟨⟨("_law_words", none), "_law_words", "_law_words", defArgs (top 23), defBody (top 23), defScope (top 23), [], []⟩, ["_law_deal_here", "_law_many", "_law_letters", "_law_core", "_law_at", "_law_turn", "_law_found", "_law_k", "_law_own", "_law_word", "_law_near"], ["_law_deal_here", "_law_many"]⟩
/-! 26: _law_kinds (0 _law_deal_here, 1 _law_words_here, 2 _law_form, 3 _law_a, 4 _law_b, 5 _law_m, 6 _law_found, 7 _law_many, 8 _law_made, 9 _law_k, 10 _law_makers, 11 _law_j, 12 _law_fields, 13 _law_i) -/
def df_26 : DefI := ⟨⟨("_law_kinds", none), "_law_kinds", "_law_kinds", defArgs (top 24), defBody (top 24), defScope (top 24), [], []⟩, ["_law_deal_here", "_law_words_here", "_law_form", "_law_a", "_law_b", "_law_m", "_law_found", "_law_many", "_law_made", "_law_k", "_law_makers", "_law_j", "_law_fields", "_law_i"], ["_law_deal_here", "_law_words_here"]⟩
/-! 27: _law_fill (0 _law_deal_here, 1 _law_scope, 2 _law_some, 3 _law_found, 4 _law_kind, 5 _law_own, 6 _law_name, 7 _law_other) -/
def df_27 : DefI := ⟨⟨("_law_fill", none), "_law_fill", "_law_fill", defArgs (top 25), defBody (top 25), defScope (top 25), [], []⟩, ["_law_deal_here", "_law_scope", "_law_some", "_law_found", "_law_kind", "_law_own", "_law_name", "_law_other"], ["_law_deal_here", "_law_scope", "_law_some"]⟩
/-! 28: _law_ended (0 _law_deal_here, 1 _law_world, 2 _law_scope, 3 _law_kind, 4 _law_f, 5 _law_kinds_here, 6 _law_heads, 7 _law_words_here, 8 _law_own, 9 _law_x, 10 _law_maker, 11 _law_fields, 12 _law_names, 13 _law_name, 14 _law_other) -/
def df_28 : DefI := ⟨⟨("_law_ended", none), "_law_ended", "_law_ended", defArgs (top 26), defBody (top 26), defScope (top 26), [], []⟩, ["_law_deal_here", "_law_world", "_law_scope", "_law_kind", "_law_f", "_law_kinds_here", "_law_heads", "_law_words_here", "_law_own", "_law_x", "_law_maker", "_law_fields", "_law_names", "_law_name", "_law_other"], ["_law_deal_here", "_law_world", "_law_scope", "_law_kind", "_law_f"]⟩
/-! 29: _law_case (0 _law_deal_here, 1 _law_world, 2 _law_scope, 3 _law_f, 4 _law_room, 5 _law_kinds_here, 6 _law_heads, 7 _law_words_here, 8 _law_x, 9 _law_kind, 10 _law_makers, 11 _law_arms, 12 _law_maker, 13 _law_fields, 14 _law_more, 15 _law_names, 16 _law_k, 17 _law_field, 18 _law_name) -/
def df_29 : DefI := ⟨⟨("_law_case", none), "_law_case", "_law_case", defArgs (top 27), defBody (top 27), defScope (top 27), [], []⟩, ["_law_deal_here", "_law_world", "_law_scope", "_law_f", "_law_room", "_law_kinds_here", "_law_heads", "_law_words_here", "_law_x", "_law_kind", "_law_makers", "_law_arms", "_law_maker", "_law_fields", "_law_more", "_law_names", "_law_k", "_law_field", "_law_name"], ["_law_deal_here", "_law_world", "_law_scope", "_law_f", "_law_room"]⟩
/-! 30: _law_body (0 _law_deal_here, 1 _law_world, 2 _law_scope, 3 _law_f, 4 _law_room, 5 _law_kinds_here, 6 _law_heads, 7 _law_words_here, 8 _law_kind, 9 _law_form, 10 _law_x, 11 _law_coins, 12 _law_word, 13 _law_y, 14 _law_other, 15 _law_g, 16 _law_names, 17 _law_name, 18 _law_makers, 19 _law_maker, 20 _law_fields, 21 _law_param) -/
def df_30 : DefI := ⟨⟨("_law_body", none), "_law_body", "_law_body", defArgs (top 28), defBody (top 28), defScope (top 28), [], []⟩, ["_law_deal_here", "_law_world", "_law_scope", "_law_f", "_law_room", "_law_kinds_here", "_law_heads", "_law_words_here", "_law_kind", "_law_form", "_law_x", "_law_coins", "_law_word", "_law_y", "_law_other", "_law_g", "_law_names", "_law_name", "_law_makers", "_law_maker", "_law_fields", "_law_param"], ["_law_deal_here", "_law_world", "_law_scope", "_law_f", "_law_room"]⟩
/-! 31: _law_two (0 _law_deal_here, 1 _law_most, 2 _law_room, 3 _law_words_here, 4 _law_kinds_here, 5 _law_heads, 6 _law_f, 7 _law_many, 8 _law_params, 9 _law_kind, 10 _law_turn, 11 _law_other, 12 _law_functions, 13 _law_head, 14 _law_body_here, 15 _law_k) -/
def df_31 : DefI := ⟨⟨("_law_two", none), "_law_two", "_law_two", defArgs (top 29), defBody (top 29), defScope (top 29), [], []⟩, ["_law_deal_here", "_law_most", "_law_room", "_law_words_here", "_law_kinds_here", "_law_heads", "_law_f", "_law_many", "_law_params", "_law_kind", "_law_turn", "_law_other", "_law_functions", "_law_head", "_law_body_here", "_law_k"], ["_law_deal_here", "_law_most", "_law_room"]⟩
/-! 32: _law_sizes (0 _law_kinds_here, 1 _law_found, 2 _law_turn, 3 _law_kind, 4 _law_makers, 5 _law_maker, 6 _law_fields, 7 _law_great, 8 _law_field) -/
def df_32 : DefI := ⟨⟨("_law_sizes", none), "_law_sizes", "_law_sizes", defArgs (top 30), defBody (top 30), defScope (top 30), [], []⟩, ["_law_kinds_here", "_law_found", "_law_turn", "_law_kind", "_law_makers", "_law_maker", "_law_fields", "_law_great", "_law_field"], ["_law_kinds_here"]⟩
/-! 33: _law_value (0 _law_deal_here, 1 _law_kinds_here, 2 _law_sizes_here, 3 _law_kind, 4 _law_room, 5 _law_some, 6 _law_maker, 7 _law_fields, 8 _law_great, 9 _law_left, 10 _law_parts, 11 _law_k, 12 _law_field, 13 _law_own, 14 _law_one) -/
def df_33 : DefI := ⟨⟨("_law_value", none), "_law_value", "_law_value", defArgs (top 31), defBody (top 31), defScope (top 31), [], []⟩, ["_law_deal_here", "_law_kinds_here", "_law_sizes_here", "_law_kind", "_law_room", "_law_some", "_law_maker", "_law_fields", "_law_great", "_law_left", "_law_parts", "_law_k", "_law_field", "_law_own", "_law_one"], ["_law_deal_here", "_law_kinds_here", "_law_sizes_here", "_law_kind", "_law_room"]⟩
/-! 34: _law_listed (0 _law_none, 1 _law_more, 2 _law_things_here, 3 _law_found, 4 _law_thing) -/
def df_34 : DefI := ⟨⟨("_law_listed", none), "_law_listed", "_law_listed", defArgs (top 32), defBody (top 32), defScope (top 32), [], []⟩, ["_law_none", "_law_more", "_law_things_here", "_law_found", "_law_thing"], ["_law_none", "_law_more", "_law_things_here"]⟩
/-! 35: _law_things (0 _law_value_here, 1 _law_found) -/
def df_35 : DefI := ⟨⟨("_law_things", none), "_law_things", "_law_things", defArgs (top 33), defBody (top 33), defScope (top 33), [], []⟩, ["_law_value_here", "_law_found"], ["_law_value_here"]⟩
/-! 36: _law_given (0 _law_end, 1 _law_none, 2 _law_more, 3 _law_found) -/
def df_36 : DefI := ⟨⟨("_law_given", none), "_law_given", "_law_given", defArgs (top 34), defBody (top 34), defScope (top 34), [], []⟩, ["_law_end", "_law_none", "_law_more", "_law_found"], ["_law_end", "_law_none", "_law_more"]⟩
/-! 37: _law_right (0 _law_longer, 1 _law_names, 2 _law_things_here, 3 _law_both, 4 _law_one, 5 _law_other, 6 _law_at, 7 _law_whole, 8 _law_first, 9 _law_between, 10 _law_second, 11 _law_due, 12 _law_steps) -/
def df_37 : DefI := ⟨⟨("_law_right", none), "_law_right", "_law_right", defArgs (top 35), defBody (top 35), defScope (top 35), [], []⟩, ["_law_longer", "_law_names", "_law_things_here", "_law_both", "_law_one", "_law_other", "_law_at", "_law_whole", "_law_first", "_law_between", "_law_second", "_law_due", "_law_steps"], ["_law_longer", "_law_names", "_law_things_here"]⟩
/-! 38: law (0 _law_script, 1 _law_deal_here, 2 _law_program, 3 _law_words_here, 4 _law_many, 5 _law_names, 6 _law_longer, 7 _law_sizes_here, 8 _law_kind, 9 _law_turn, 10 _law_things_here, 11 _law_k) -/
def df_38 : DefI := ⟨⟨("law", none), "law", "law", defArgs (top 36), defBody (top 36), defScope (top 36), [], []⟩, ["_law_script", "_law_deal_here", "_law_program", "_law_words_here", "_law_many", "_law_names", "_law_longer", "_law_sizes_here", "_law_kind", "_law_turn", "_law_things_here", "_law_k"], ["_law_script"]⟩
def dfs : List DefI := [df_0, df_1, df_2, df_3, df_4, df_5, df_6, df_7, df_8, df_9, df_10, df_11, df_12, df_13, df_14, df_15, df_16, df_17, df_18, df_19, df_20, df_21, df_22, df_23, df_24, df_25, df_26, df_27, df_28, df_29, df_30, df_31, df_32, df_33, df_34, df_35, df_36, df_37, df_38]
def fas : List He.Fa := [.glo "SPARE", .free "tuple", .glo "with_more", .glo "spare_names", .glo "bodies_in", .free "list", .free "reversed", .free "len", .glo "makers_in", .glo "deep", .free "max", .cls "Walk", .meth "Walk" "begin", .noat "Walk" "finish", .noat "Walk" "taken", .noat "Walk" "coins", .noat "Walk" "stack", .glo "pieces", .noat "Walk" "listed", .noat "Walk" "program", .free "zip", .meth "Walk" "do_piece", .meth "Walk" "make", .glo "number_of", .meth "Walk" "bind", .meth "Walk" "choose", .meth "Walk" "give", .meth "Walk" "stop", .free "int", .int "MOST_MAKERS" 200, .int "MOST_DEEP" 60, .glo "size", .free "sum", .meth "Walk" "steps", .meth "Walk" "purse", .meth "Walk" "end", .meth "Walk" "turn", .glo "Walk", .mkr "Walk", .glo "_law_draw", .free "range", .free "dict", .glo "_law_fill", .glo "_law_body", .free "enumerate", .glo "_law_ended", .glo "_law_case", .glo "_law_kinds", .glo "_law_words", .free "all", .free "min", .glo "_law_value", .glo "_law_listed", .glo "_law_things", .glo "_law_given", .glo "ran", .glo "_law_right", .glo "_law_sizes", .glo "over", .glo "chained", .glo "_law_two", .glo "_law_deal", .glo "law"]
def css : List Str := ["Walk"]
def tus : List (Str × List Str) := [("SPARE", ["va", "vb", "vc", "vd", "ve", "vf"])]
noncomputable def b_0 (t : Nat → Fn) : IS := (sSeq (sAsg (iComp (pSeq (iOp gIx (iVar 0) (iC (.int 1)))) (CT.nm 2) [2] jYes (iOp gIx (iVar 2) (iC (.int 0)))) (gNm 1)) (sRet (iSl (iComp (pSeq (iC (.kt (List.map D.str ["va", "vb", "vc", "vd", "ve", "vf"])))) (CT.nm 3) [3] (jVal (iOp gNotIn (iVar 3) (iVar 1))) (iVar 3)) iNo (iPart (iC (.int 2))))))
noncomputable def b_1 (t : Nat → Fn) : IS := (sRet (iTup (iCons (iOp gAdd (iOp gIx (iVar 0) (iC (.int 0))) (iB gTupOf (iCons (iVar 1) iNil))) (iCons (iOp gAdd (iOp gIx (iVar 0) (iC (.int 1))) (iTup (iCons (iVar 2) iNil))) iNil))))
noncomputable def b_2 (t : Nat → Fn) : IS := (sSeq (sPar 4 5 (iCons (iOp gIx (iOp gIx (iVar 0) (iC (.int 1))) (iVar 1)) (iCons (iOp gIx (iOp gIx (iVar 0) (iC (.int 1))) (iVar 2)) iNil))) (sSeq (sAsg (iCall (t 0) (iCons (iVar 4) iNil)) (gTp 2 (gsCons (gNm 6) (gsCons (gNm 7) gsNil)))) (sSeq (sAsg (iB gTupOf (iCons (iComp (pSeq (iOp gIx (iVar 4) (iC (.int 1)))) (CT.nm 10) [10] jYes (iOp gIx (iVar 10) (iC (.int 0)))) iNil)) (gNm 8)) (sSeq (sAsg (iTup (iCons (iC (.str "call")) (iCons (iVar 7) (iCons (iOp gIx (iVar 5) (iC (.int 0))) (iCons (iTup (iCons (iVar 6) iNil)) (iCons (iTup (iCons (iC (.str "give")) (iCons (iVar 7) iNil))) iNil)))))) (gNm 9)) (sSeq (sAsg (iTup (iCons (iC (.str "call")) (iCons (iVar 6) (iCons (iOp gIx (iVar 4) (iC (.int 0))) (iCons (iVar 8) (iCons (iVar 9) iNil)))))) (gNm 9)) (sRet (iCall (t 1) (iCons (iVar 0) (iCons (iLst iNil) (iCons (iTup (iCons (iVar 3) (iCons (iOp gIx (iVar 4) (iC (.int 1))) (iCons (iOp gIx (iVar 5) (iC (.int 2))) (iCons (iVar 9) iNil))))) iNil))))))))))
noncomputable def b_3 (t : Nat → Fn) : IS := (sSeq (sAsg (iVar 2) (gTp 7 (gsCons (gNm 3) (gsCons (gNm 4) (gsCons (gNm 5) (gsCons (gNm 6) (gsCons (gNm 7) (gsCons (gNm 8) (gsCons (gNm 9) gsNil))))))))) (sSeq (sAsg (iOp gIx (iOp gIx (iVar 0) (iC (.int 1))) (iVar 1)) (gNm 10)) (sSeq (sAsg (iOp gIx (iOp gIx (iOp gIx (iVar 10) (iC (.int 1))) (iC (.int 0))) (iC (.int 1))) (gNm 11)) (sSeq (sAsg (iLst (iCons (iTup (iCons (iVar 3) (iCons (iTup (iCons (iTup (iCons (iVar 4) (iCons (iTup iNil) iNil))) (iCons (iTup (iCons (iVar 5) (iCons (iTup (iCons (iVar 11) (iCons (iVar 3) iNil))) iNil))) iNil))) iNil))) (iCons (iTup (iCons (iVar 6) (iCons (iTup (iCons (iTup (iCons (iVar 7) (iCons (iTup iNil) iNil))) (iCons (iTup (iCons (iVar 8) (iCons (iTup (iCons (iOp gIx (iVar 10) (iC (.int 2))) (iCons (iVar 6) iNil))) iNil))) iNil))) iNil))) iNil))) (gNm 12)) (sSeq (sAsg (iTup (iCons (iC (.str "make")) (iCons (iC (.str "list")) (iCons (iVar 7) (iCons (iTup iNil) (iCons (iTup (iCons (iC (.str "give")) (iCons (iC (.str "list")) iNil))) iNil)))))) (gNm 13)) (sSeq (sAsg (iTup (iCons (iC (.str "make")) (iCons (iC (.str "list")) (iCons (iVar 8) (iCons (iTup (iCons (iC (.str "told")) (iCons (iC (.str "others")) iNil))) (iCons (iTup (iCons (iC (.str "give")) (iCons (iC (.str "list")) iNil))) iNil)))))) (gNm 14)) (sSeq (sAsg (iTup (iCons (iC (.str "call")) (iCons (iC (.str "told")) (iCons (iOp gIx (iVar 10) (iC (.int 0))) (iCons (iTup (iCons (iC (.str "thing")) iNil)) (iCons (iTup (iCons (iC (.str "call")) (iCons (iC (.str "others")) (iCons (iVar 9) (iCons (iTup (iCons (iC (.str "rest")) iNil)) (iCons (iVar 14) iNil)))))) iNil)))))) (gNm 14)) (sSeq (sAsg (iTup (iCons (iC (.str "case")) (iCons (iC (.str "things")) (iCons (iTup (iCons (iTup (iCons (iVar 4) (iCons (iTup iNil) (iCons (iVar 13) iNil)))) (iCons (iTup (iCons (iVar 5) (iCons (iTup (iCons (iC (.str "thing")) (iCons (iC (.str "rest")) iNil))) (iCons (iVar 14) iNil)))) iNil))) iNil)))) (gNm 15)) (sRet (iCall (t 1) (iCons (iVar 0) (iCons (iVar 12) (iCons (iTup (iCons (iVar 9) (iCons (iTup (iCons (iTup (iCons (iC (.str "things")) (iCons (iVar 3) iNil))) iNil)) (iCons (iVar 6) (iCons (iVar 15) iNil))))) iNil)))))))))))))
noncomputable def b_4 (t : Nat → Fn) : IS := (sSeq (sIf (jVal (iOp gEq (iOp gIx (iVar 0) (iC (.int 0))) (iC (.str "give")))) (sRet (iLst iNil)) sSkip) (sSeq (sIf (jVal (iOp gEq (iOp gIx (iVar 0) (iC (.int 0))) (iC (.str "case")))) (sRet (iComp (pSeq (iOp gIx (iVar 0) (iC (.int 2)))) (CT.nm 1) [1] jYes (iOp gIx (iVar 1) (iC (.int 2))))) sSkip) (sRet (iLst (iCons (iOp gIx (iVar 0) (iNeg (iC (.int 1)))) iNil)))))
noncomputable def b_5 (t : Nat → Fn) : IS := (sSeq (sAsg (iLst iNil) (gNm 1)) (sSeq (sAsg (iLst (iCons (iVar 0) iNil)) (gNm 2)) (sSeq (sWhile (jVal (iOp gNe (iVar 2) (iLst iNil))) (sSeq (sAsg (iBM "list" gPop (iVar 2) iNil) (gNm 3)) (sSeq (sExpr (iBM "list" gAppend (iVar 1) (iCons (iVar 3) iNil))) (sExpr (iBM "list" gExtend (iVar 2) (iCons (iListRev (iCall (t 4) (iCons (iVar 3) iNil))) iNil)))))) (sRet (iVar 1)))))
noncomputable def b_6 (t : Nat → Fn) : IS := (sRet (iBM "list" gIndex (iComp (pSeq (iOp gIx (iVar 0) (iC (.int 1)))) (CT.nm 2) [2] jYes (iOp gIx (iVar 2) (iC (.int 0)))) (iCons (iVar 1) iNil)))
noncomputable def b_7 (t : Nat → Fn) : IS := (sSeq (sAsg (iLst iNil) (gNm 1)) (sSeq (sAsg (iLst (iCons (iVar 0) iNil)) (gNm 2)) (sSeq (sWhile (jVal (iOp gGt (iB gLen (iCons (iVar 2) iNil)) (iC (.int 0)))) (sSeq (sAsg (iBM "list" gPop (iVar 2) iNil) (gTp 2 (gsCons (gNm 3) (gsCons (gNm 4) gsNil)))) (sSeq (sExpr (iBM "list" gAppend (iVar 1) (iCons (iVar 3) iNil))) (sExpr (iBM "list" gExtend (iVar 2) (iCons (iVar 4) iNil)))))) (sRet (iVar 1)))))
noncomputable def b_8 (t : Nat → Fn) : IS := (sRet (iB gLen (iCons (iCall (t 7) (iCons (iVar 0) iNil)) iNil)))
noncomputable def b_9 (t : Nat → Fn) : IS := (sRet (iOp gAdd (iC (.int 1)) (iMaxDef (iComp (pSeq (iOp gIx (iVar 0) (iC (.int 1)))) (CT.nm 1) [1] jYes (iCall (t 9) (iCons (iVar 1) iNil))) (iC (.int 0)))))
noncomputable def b_10 (t : Nat → Fn) : IS := (sSeq (sFl 0 "program" (iVar 0) (iVar 1)) (sSeq (sFl 0 "listed" (iVar 0) (iComp (pSeq (iOp gIx (iVar 1) (iC (.int 1)))) (CT.nm 5) [5] jYes (iCall (t 5) (iCons (iOp gIx (iVar 5) (iC (.int 3))) iNil)))) (sSeq (sFl 0 "stack" (iVar 0) (iLst iNil)) (sSeq (sFl 0 "coins" (iVar 0) (iVar 4)) (sSeq (sFl 0 "taken" (iVar 0) (iC (.int 0))) (sSeq (sFl 0 "finish" (iVar 0) (iC .non)) (sExpr (iMeth 0 "begin" (t 11) (iVar 0) (iCons (iVar 2) (iCons (iB gListOf (iCons (iVar 3) iNil)) iNil))))))))))
noncomputable def b_11 (t : Nat → Fn) : IS := (sSeq (sAsg (iDicK) (gNm 3)) (sSeq (sFor (pZip (iCons (iOp gIx (iOp gIx (iOp gIx (iFld 0 "program" (iVar 0)) (iC (.int 1))) (iVar 1)) (iC (.int 1))) (iCons (iVar 2) iNil))) (gTp 2 (gsCons (gNm 4) (gsCons (gNm 5) gsNil))) (sAsg (iVar 5) (gSb (iVar 3) (iOp gIx (iVar 4) (iC (.int 0)))))) (sExpr (iBM "list" gAppend (iFld 0 "stack" (iVar 0)) (iCons (iLst (iCons (iVar 1) (iCons (iC (.int 0)) (iCons (iVar 3) iNil)))) iNil)))))
noncomputable def b_12 (t : Nat → Fn) : IS := (sRet (iFld 0 "coins" (iVar 0)))
noncomputable def b_13 (t : Nat → Fn) : IS := (sRet (iFld 0 "taken" (iVar 0)))
noncomputable def b_14 (t : Nat → Fn) : IS := (sRet (iFld 0 "finish" (iVar 0)))
noncomputable def b_15 (t : Nat → Fn) : IS := (sSeq (sFl 0 "finish" (iVar 0) (iVar 1)) (sFl 0 "stack" (iVar 0) (iLst iNil)))
noncomputable def b_16 (t : Nat → Fn) : IS := (sSeq (sAsg (iVar 2) (gSb (iOp gIx (iOp gIx (iFld 0 "stack" (iVar 0)) (iNeg (iC (.int 1)))) (iC (.int 2))) (iVar 1))) (sAugS (fun i j => i + j) (iOp gIx (iFld 0 "stack" (iVar 0)) (iNeg (iC (.int 1)))) (iC (.int 1)) (iC (.int 1))))
noncomputable def b_17 (t : Nat → Fn) : IS := (sSeq (sIf (jVal (iOp gIs (iFld 0 "finish" (iVar 0)) (iC .non))) (sSeq (sAsg (iOp gIx (iFld 0 "stack" (iVar 0)) (iNeg (iC (.int 1)))) (gTp 3 (gsCons (gNm 1) (gsCons (gNm 2) (gsCons (gNm 3) gsNil))))) (sSeq (sFl 0 "taken" (iVar 0) (iOp gAdd (iFld 0 "taken" (iVar 0)) (iC (.int 1)))) (sExpr (iMeth 0 "do_piece" (t 18) (iVar 0) (iCons (iOp gIx (iOp gIx (iFld 0 "listed" (iVar 0)) (iVar 1)) (iVar 2)) (iCons (iVar 3) iNil)))))) sSkip) (sRet (iOp gIs (iFld 0 "finish" (iVar 0)) (iC .non))))
noncomputable def b_18 (t : Nat → Fn) : IS := (sSeq (sAsg (iOp gIx (iVar 1) (iC (.int 0))) (gNm 3)) (sIf (jVal (iOp gEq (iVar 3) (iC (.str "make")))) (sExpr (iMeth 0 "make" (t 19) (iVar 0) (iCons (iVar 1) (iCons (iB gTupOf (iCons (iComp (pSeq (iOp gIx (iVar 1) (iC (.int 3)))) (CT.nm 4) [4] jYes (iOp gIx (iVar 2) (iVar 4))) iNil)) iNil)))) (sIf (jVal (iOp gEq (iVar 3) (iC (.str "call")))) (sExpr (iMeth 0 "begin" (t 11) (iVar 0) (iCons (iCall (t 6) (iCons (iFld 0 "program" (iVar 0)) (iCons (iOp gIx (iVar 1) (iC (.int 2))) iNil))) (iCons (iComp (pSeq (iOp gIx (iVar 1) (iC (.int 3)))) (CT.nm 4) [4] jYes (iOp gIx (iVar 2) (iVar 4))) iNil)))) (sIf (jVal (iOp gEq (iVar 3) (iC (.str "name")))) (sExpr (iMeth 0 "bind" (t 16) (iVar 0) (iCons (iOp gIx (iVar 1) (iC (.int 1))) (iCons (iOp gIx (iVar 2) (iOp gIx (iVar 1) (iC (.int 2)))) iNil)))) (sIf (jVal (iOp gEq (iVar 3) (iC (.str "case")))) (sExpr (iMeth 0 "choose" (t 20) (iVar 0) (iCons (iVar 1) (iCons (iVar 2) iNil)))) (sIf (jVal (iOp gEq (iVar 3) (iC (.str "give")))) (sExpr (iMeth 0 "give" (t 21) (iVar 0) (iCons (iOp gIx (iVar 2) (iOp gIx (iVar 1) (iC (.int 1)))) iNil))) (sIf ((jAnd (jVal (iOp gEq (iVar 3) (iC (.str "pay")))) (jVal (iOp gLt (iFld 0 "coins" (iVar 0)) (iOp gIx (iVar 1) (iC (.int 1))))))) (sExpr (iMeth 0 "stop" (t 15) (iVar 0) (iCons (iTup (iCons (iC (.str "short")) (iCons (iOp gIx (iVar 1) (iC (.int 1))) iNil))) iNil))) (sSeq (sFl 0 "coins" (iVar 0) (iOp gAdd (iFld 0 "coins" (iVar 0)) (iOp gIx (iLst (iCons (iOp gIx (iVar 1) (iC (.int 1))) (iCons (iOp gSub (iC (.int 0)) (iOp gIx (iVar 1) (iC (.int 1)))) iNil))) (iB gIntOf (iCons (iOp gEq (iVar 3) (iC (.str "pay"))) iNil))))) (sAugS (fun i j => i + j) (iOp gIx (iFld 0 "stack" (iVar 0)) (iNeg (iC (.int 1)))) (iC (.int 1)) (iC (.int 1)))))))))))
noncomputable def b_19 (t : Nat → Fn) : IS := (sSeq (sAsg (iOp gAdd (iC (.int 1)) (iB gSum (iCons (iComp (pSeq (iVar 2)) (CT.nm 5) [5] jYes (iCall (t 8) (iCons (iVar 5) iNil))) iNil))) (gNm 3)) (sSeq (sAsg (iOp gAdd (iC (.int 1)) (iMaxDef (iComp (pSeq (iVar 2)) (CT.nm 5) [5] jYes (iCall (t 9) (iCons (iVar 5) iNil))) (iC (.int 0)))) (gNm 4)) (sIf ((jOr (jVal (iOp gGt (iVar 3) (iC (.int 200)))) (jVal (iOp gGt (iVar 4) (iC (.int 60)))))) (sExpr (iMeth 0 "stop" (t 15) (iVar 0) (iCons (iTup (iCons (iC (.str "great")) (iCons (iOp gIx (iVar 1) (iC (.int 2))) iNil))) iNil))) (sExpr (iMeth 0 "bind" (t 16) (iVar 0) (iCons (iOp gIx (iVar 1) (iC (.int 1))) (iCons (iTup (iCons (iOp gIx (iVar 1) (iC (.int 2))) (iCons (iVar 2) iNil))) iNil)))))))
noncomputable def b_20 (t : Nat → Fn) : IS := (sSeq (sAsg (iOp gIx (iVar 2) (iOp gIx (iVar 1) (iC (.int 1)))) (gTp 2 (gsCons (gNm 3) (gsCons (gNm 4) gsNil)))) (sSeq (sAsg (iC (.int 1)) (gNm 5)) (sFor (pSeq (iOp gIx (iVar 1) (iC (.int 2)))) (gTp 3 (gsCons (gNm 6) (gsCons (gNm 7) (gsCons (gNm 8) gsNil)))) (sSeq (sIf (jVal (iOp gEq (iVar 6) (iVar 3))) (sSeq (sFor (pZip (iCons (iVar 7) (iCons (iVar 4) iNil))) (gTp 2 (gsCons (gNm 9) (gsCons (gNm 10) gsNil))) (sAsg (iVar 10) (gSb (iVar 2) (iVar 9)))) (sSeq (sAugS (fun i j => i + j) (iOp gIx (iFld 0 "stack" (iVar 0)) (iNeg (iC (.int 1)))) (iC (.int 1)) (iVar 5)) (sRetN))) sSkip) (sAsg (iOp gAdd (iVar 5) (iB gLen (iCons (iCall (t 5) (iCons (iVar 8) iNil)) iNil))) (gNm 5))))))
noncomputable def b_21 (t : Nat → Fn) : IS := (sSeq (sExpr (iBM "list" gPop (iFld 0 "stack" (iVar 0)) iNil)) (sIf (jVal (iOp gEq (iB gLen (iCons (iFld 0 "stack" (iVar 0)) iNil)) (iC (.int 0)))) (sExpr (iMeth 0 "stop" (t 15) (iVar 0) (iCons (iTup (iCons (iC (.str "gave")) (iCons (iVar 1) iNil))) iNil))) (sSeq (sAsg (iOp gIx (iFld 0 "stack" (iVar 0)) (iNeg (iC (.int 1)))) (gTp 3 (gsCons (gNm 2) (gsCons (gNm 3) (gsCons (gNm 4) gsNil))))) (sExpr (iMeth 0 "bind" (t 16) (iVar 0) (iCons (iOp gIx (iOp gIx (iOp gIx (iFld 0 "listed" (iVar 0)) (iVar 2)) (iVar 3)) (iC (.int 1))) (iCons (iVar 1) iNil)))))))
noncomputable def b_22 (t : Nat → Fn) : IS := (sSeq (sAsg (iMake 0 (t 10) (iCons (iVar 0) (iCons (iVar 1) (iCons (iVar 2) (iCons (iVar 3) iNil))))) (gNm 5)) (sSeq (sWhile ((jAnd (jVal (iOp gLt (iMeth 0 "steps" (t 13) (iVar 5) iNil) (iVar 4))) (jVal (iOp gIs (iMeth 0 "end" (t 14) (iVar 5) iNil) (iC .non))))) (sExpr (iMeth 0 "turn" (t 17) (iVar 5) iNil))) (sSeq (sAsg (iMeth 0 "end" (t 14) (iVar 5) iNil) (gNm 6)) (sSeq (sIf (jVal (iOp gIs (iVar 6) (iC .non))) (sAsg (iTup (iCons (iC (.str "late")) iNil)) (gNm 6)) sSkip) (sRet (iTup (iCons (iVar 6) (iCons (iMeth 0 "purse" (t 12) (iVar 5) iNil) (iCons (iMeth 0 "steps" (t 13) (iVar 5) iNil) iNil)))))))))
noncomputable def b_23 (t : Nat → Fn) : IS := (sSeq (sAsg (iComp (pSeq (iSl (iVar 0) (iPart (iVar 1)) (iPart (iC (.int 63))))) (CT.nm 4) [4] jYes (iB gMax2 (iCons (iVar 4) (iCons (iOp gSub (iC (.int 0)) (iVar 4)) iNil)))) (gNm 2)) (sSeq (sAsg (iOp gAdd (iC (.int 7919)) (iVar 1)) (gNm 3)) (sSeq (sFor (pSeq (iVar 2)) (gNm 4) (sAsg (iOp gMod (iOp gAdd (iOp gMul (iVar 3) (iC (.int 48271))) (iOp gMod (iVar 4) (iC (.int 2147483629)))) (iC (.int 2147483647))) (gNm 3))) (sRet (iDict (iPCons (iC (.str "seed")) (iVar 3) (iPCons (iC (.str "number")) (iC (.int 0)) (iPCons (iC (.str "left")) (iListRev (iComp (pSeq (iVar 2)) (CT.nm 4) [4] (jVal (iOp gGe (iVar 4) (iOp gPow (iC (.int 10)) (iC (.int 18))))) (iVar 4))) iPNil))))))))
noncomputable def b_24 (t : Nat → Fn) : IS := (sSeq (sWhile ((jAnd (jVal (iOp gEq (iOp gIx (iVar 0) (iC (.str "number"))) (iC (.int 0)))) (jVal (iOp gGt (iB gLen (iCons (iOp gIx (iVar 0) (iC (.str "left"))) iNil)) (iC (.int 0)))))) (sAsg (iBM "list" gPop (iOp gIx (iVar 0) (iC (.str "left"))) iNil) (gSb (iVar 0) (iC (.str "number"))))) (sSeq (sAsg (iOp gIx (iVar 0) (iC (.str "number"))) (gNm 2)) (sSeq (sIf (jVal (iOp gGt (iVar 2) (iC (.int 0)))) (sSeq (sAsg (iOp gDiv (iVar 2) (iVar 1)) (gSb (iVar 0) (iC (.str "number")))) (sRet (iOp gMod (iVar 2) (iVar 1)))) sSkip) (sSeq (sAsg (iOp gMod (iOp gAdd (iOp gMul (iOp gIx (iVar 0) (iC (.str "seed"))) (iC (.int 48271))) (iC (.int 7919))) (iC (.int 2147483647))) (gNm 3)) (sSeq (sAsg (iOp gMod (iOp gAdd (iOp gMul (iVar 3) (iC (.int 40692))) (iC (.int 104729))) (iC (.int 2147483399))) (gSb (iVar 0) (iC (.str "seed")))) (sSeq (sAsg (iOp gMod (iOp gMul (iOp gIx (iVar 0) (iC (.str "seed"))) (iOp gIx (iVar 0) (iC (.str "seed")))) (iC (.int 2147483563))) (gNm 4)) (sRet (iOp gMod (iOp gAdd (iOp gMul (iOp gMod (iOp gMul (iVar 3) (iVar 3)) (iC (.int 2147483629))) (iC (.int 2147483563))) (iVar 4)) (iVar 1)))))))))
noncomputable def b_25 (t : Nat → Fn) : IS := (sSeq (sAsg (iC (.str "abcdefghijklmnopqrstuvwxyz")) (gNm 2)) (sSeq (sAsg (iBM "str" gJoin (iC (.str "")) (iCons (iComp (pRange1 (iCons (iCall (t 24) (iCons (iVar 0) (iCons (iC (.int 5)) iNil))) iNil)) (CT.nm 7) [7] jYes (iOp gIx (iVar 2) (iCall (t 24) (iCons (iVar 0) (iCons (iC (.int 26)) iNil))))) iNil)) (gNm 3)) (sSeq (sAsg (iCall (t 24) (iCons (iVar 0) (iCons (iOp gAdd (iB gLen (iCons (iVar 3) iNil)) (iC (.int 1))) iNil))) (gNm 4)) (sSeq (sAsg (iCall (t 24) (iCons (iVar 0) (iCons (iC (.int 26)) iNil))) (gNm 5)) (sSeq (sAsg (iLst iNil) (gNm 6)) (sSeq (sFor (pRange1 (iCons (iVar 1) iNil)) (gNm 7) (sSeq (sAsg (iOp gIx (iVar 2) (iOp gMod (iOp gAdd (iVar 5) (iOp gMul (iC (.int 7)) (iVar 7))) (iC (.int 26)))) (gNm 8)) (sSeq (sAsg (iOp gAdd (iOp gAdd (iOp gAdd (iOp gAdd (iSl (iVar 3) iNo (iPart (iVar 4))) (iVar 8)) (iSl (iVar 3) (iPart (iVar 4)) iNo)) (iOp gMul (iC (.str "x")) (iOp gMod (iVar 7) (iC (.int 2))))) (iOp gMul (iC (.str "y")) (iOp gDiv (iVar 7) (iC (.int 26))))) (gNm 9)) (sSeq (sIf (jVal (iOp gIn (iVar 9) (iTup (iCons (iC (.str "kind")) (iCons (iC (.str "def")) (iCons (iC (.str "to")) (iCons (iC (.str "let")) (iCons (iC (.str "make")) (iCons (iC (.str "call")) iNil))))))))) (sAsg (iOp gAdd (iVar 9) (iC (.str "q"))) (gNm 9)) sSkip) (sSeq (sIf (jVal (iOp gIn (iVar 9) (iTup (iCons (iC (.str "name")) (iCons (iC (.str "case")) (iCons (iC (.str "end")) (iCons (iC (.str "pay")) (iCons (iC (.str "get")) (iCons (iC (.str "give")) iNil))))))))) (sAsg (iOp gAdd (iVar 9) (iC (.str "q"))) (gNm 9)) sSkip) (sExpr (iBM "list" gAppend (iVar 6) (iCons (iVar 9) iNil)))))))) (sSeq (sAsg (iLst (iCons (iC (.str "lets")) (iCons (iC (.str "callx")) (iCons (iC (.str "payer")) (iCons (iC (.str "ender")) (iCons (iC (.str "tom")) (iCons (iC (.str "nameb")) iNil))))))) (gNm 10)) (sSeq (sAsg (iOp gAdd (iVar 10) (iLst (iCons (iC (.str "makes")) (iCons (iC (.str "gets")) (iCons (iC (.str "giver")) (iCons (iC (.str "kinds")) (iCons (iC (.str "defs")) (iCons (iC (.str "cases")) iNil)))))))) (gNm 10)) (sSeq (sAsg (iOp gIx (iVar 10) (iCall (t 24) (iCons (iVar 0) (iCons (iC (.int 12)) iNil)))) (gNm 9)) (sSeq (sIf ((jAnd (jVal (iOp gEq (iCall (t 24) (iCons (iVar 0) (iCons (iC (.int 3)) iNil))) (iC (.int 1)))) (jVal (iOp gNotIn (iVar 9) (iVar 6))))) (sAsg (iVar 9) (gSb (iVar 6) (iCall (t 24) (iCons (iVar 0) (iCons (iVar 1) iNil))))) sSkip) (sRet (iVar 6))))))))))))
noncomputable def b_26 (t : Nat → Fn) : IS := (sSeq (sAsg (iCall (t 24) (iCons (iVar 0) (iCons (iC (.int 8)) iNil))) (gNm 2)) (sSeq (sPar 3 4 (iCons (iOp gIx (iVar 1) (iC (.int 0))) (iCons (iOp gIx (iVar 1) (iC (.int 1))) iNil))) (sSeq (sAsg (iOp gAdd (iSl (iVar 1) (iPart (iC (.int 4))) iNo) (iSl (iVar 1) iNo (iPart (iC (.int 4))))) (gNm 5)) (sSeq (sIf (jVal (iOp gEq (iVar 2) (iC (.int 0)))) (sRet (iTupP (iCons (iTup (iCons (iVar 3) (iCons (iTup (iCons (iTup (iCons (iOp gIx (iVar 5) (iC (.int 0))) (iCons (iTup iNil) iNil))) (iCons (iTup (iCons (iOp gIx (iVar 5) (iC (.int 1))) (iCons (iTup (iCons (iVar 3) iNil)) iNil))) iNil))) iNil))) iNil))) sSkip) (sSeq (sIf (jVal (iOp gEq (iVar 2) (iC (.int 1)))) (sRet (iTupP (iCons (iTup (iCons (iVar 3) (iCons (iTup (iCons (iTup (iCons (iOp gIx (iVar 5) (iC (.int 0))) (iCons (iTup iNil) iNil))) (iCons (iTup (iCons (iOp gIx (iVar 5) (iC (.int 1))) (iCons (iTup (iCons (iVar 3) iNil)) iNil))) (iCons (iTup (iCons (iOp gIx (iVar 5) (iC (.int 2))) (iCons (iTup (iCons (iVar 3) iNil)) iNil))) iNil)))) iNil))) iNil))) sSkip) (sSeq (sIf (jVal (iOp gEq (iVar 2) (iC (.int 2)))) (sRet (iTupP (iCons (iTup (iCons (iVar 3) (iCons (iTup (iCons (iTup (iCons (iOp gIx (iVar 5) (iC (.int 0))) (iCons (iTup iNil) iNil))) (iCons (iTup (iCons (iOp gIx (iVar 5) (iC (.int 1))) (iCons (iTup iNil) iNil))) iNil))) iNil))) (iCons (iTup (iCons (iVar 4) (iCons (iTup (iCons (iTup (iCons (iOp gIx (iVar 5) (iC (.int 2))) (iCons (iTup iNil) iNil))) (iCons (iTup (iCons (iOp gIx (iVar 5) (iC (.int 3))) (iCons (iTup (iCons (iVar 3) (iCons (iVar 4) iNil))) iNil))) iNil))) iNil))) iNil)))) sSkip) (sSeq (sIf (jVal (iOp gEq (iVar 2) (iC (.int 3)))) (sRet (iTupP (iCons (iTup (iCons (iVar 3) (iCons (iTup (iCons (iTup (iCons (iOp gIx (iVar 5) (iC (.int 0))) (iCons (iTup iNil) iNil))) (iCons (iTup (iCons (iOp gIx (iVar 5) (iC (.int 1))) (iCons (iTup (iCons (iVar 3) (iCons (iVar 3) iNil))) iNil))) iNil))) iNil))) iNil))) sSkip) (sSeq (sIf (jVal (iOp gEq (iVar 2) (iC (.int 4)))) (sRet (iTupP (iCons (iTup (iCons (iVar 3) (iCons (iTup (iCons (iTup (iCons (iOp gIx (iVar 5) (iC (.int 0))) (iCons (iTup iNil) iNil))) (iCons (iTup (iCons (iOp gIx (iVar 5) (iC (.int 1))) (iCons (iTup (iCons (iVar 4) iNil)) iNil))) iNil))) iNil))) (iCons (iTup (iCons (iVar 4) (iCons (iTup (iCons (iTup (iCons (iOp gIx (iVar 5) (iC (.int 2))) (iCons (iTup (iCons (iVar 3) iNil)) iNil))) iNil)) iNil))) iNil)))) sSkip) (sSeq (sAsg (iLst iNil) (gNm 6)) (sSeq (sAsg (iOp gAdd (iC (.int 1)) (iCall (t 24) (iCons (iVar 0) (iCons (iC (.int 3)) iNil)))) (gNm 7)) (sSeq (sAsg (iC (.int 0)) (gNm 8)) (sSeq (sFor (pRange1 (iCons (iVar 7) iNil)) (gNm 9) (sSeq (sAsg (iLst iNil) (gNm 10)) (sSeq (sFor (pRange1 (iCons (iOp gAdd (iC (.int 1)) (iCall (t 24) (iCons (iVar 0) (iCons (iC (.int 3)) iNil)))) iNil)) (gNm 11) (sSeq (sAsg (iComp (pRange1 (iCons (iOp gMul (iCall (t 24) (iCons (iVar 0) (iCons (iC (.int 3)) iNil))) (iB gIntOf (iCons (iOp gGt (iOp gAdd (iVar 9) (iVar 11)) (iC (.int 0))) iNil))) iNil)) (CT.nm 13) [13] jYes (iOp gIx (iVar 1) (iCall (t 24) (iCons (iVar 0) (iCons (iVar 7) iNil))))) (gNm 12)) (sSeq (sExpr (iBM "list" gAppend (iVar 10) (iCons (iTup (iCons (iOp gIx (iVar 5) (iVar 8)) (iCons (iB gTupOf (iCons (iVar 12) iNil)) iNil))) iNil))) (sAsg (iOp gAdd (iVar 8) (iC (.int 1))) (gNm 8))))) (sExpr (iBM "list" gAppend (iVar 6) (iCons (iTup (iCons (iOp gIx (iVar 1) (iVar 9)) (iCons (iB gTupOf (iCons (iVar 10) iNil)) iNil))) iNil)))))) (sRet (iB gTupP (iCons (iVar 6) iNil)))))))))))))))
noncomputable def b_27 (t : Nat → Fn) : IS := (sSeq (sAsg (iLst iNil) (gNm 3)) (sSeq (sFor (pSeq (iVar 2)) (gNm 4) (sSeq (sAsg (iComp (pSeq (iVar 1)) (CT.tp [6, 7]) [6, 7] (jVal (iOp gEq (iVar 7) (iVar 4))) (iVar 6)) (gNm 5)) (sSeq (sIf (jVal (iOp gEq (iVar 5) (iLst iNil))) (sRet (iC .non)) sSkip) (sExpr (iBM "list" gAppend (iVar 3) (iCons (iOp gIx (iVar 5) (iB gMax2 (iCons (iCall (t 24) (iCons (iVar 0) (iCons (iB gLen (iCons (iVar 5) iNil)) iNil))) (iCons (iCall (t 24) (iCons (iVar 0) (iCons (iB gLen (iCons (iVar 5) iNil)) iNil))) iNil)))) iNil)))))) (sRet (iB gTupOf (iCons (iVar 3) iNil)))))
noncomputable def b_28 (t : Nat → Fn) : IS := (sSeq (sAsg (iVar 1) (gTp 3 (gsCons (gNm 5) (gsCons (gNm 6) (gsCons (gNm 7) gsNil))))) (sSeq (sAsg (iCall (t 27) (iCons (iVar 0) (iCons (iVar 2) (iCons (iLst (iCons (iVar 3) iNil)) iNil)))) (gNm 8)) (sSeq (sIf (jVal (iOp gIsNot (iVar 8) (iC .non))) (sRet (iTup (iCons (iC (.str "give")) (iCons (iOp gIx (iVar 8) (iC (.int 0))) iNil)))) sSkip) (sSeq (sAsg (iOp gIx (iVar 7) (iB gLen (iCons (iVar 2) iNil))) (gNm 9)) (sSeq (sFor (pSeq (iOp gIx (iB gDictOf (iCons (iVar 5) iNil)) (iVar 3))) (gTp 2 (gsCons (gNm 10) (gsCons (gNm 11) gsNil))) (sSeq (sAsg (iCall (t 27) (iCons (iVar 0) (iCons (iVar 2) (iCons (iVar 11) iNil)))) (gNm 12)) (sIf (jVal (iOp gIsNot (iVar 12) (iC .non))) (sRet (iTup (iCons (iC (.str "make")) (iCons (iVar 9) (iCons (iVar 10) (iCons (iVar 12) (iCons (iTup (iCons (iC (.str "give")) (iCons (iVar 9) iNil))) iNil))))))) sSkip))) (sSeq (sAsg (iB gTupOf (iCons (iComp (pSeq (iSl (iVar 2) iNo (iPart (iB gLen (iCons (iOp gIx (iOp gIx (iVar 6) (iVar 4)) (iC (.int 1))) iNil))))) (CT.tp [13, 14]) [13, 14] jYes (iVar 13)) iNil)) (gNm 12)) (sRet (iTup (iCons (iC (.str "call")) (iCons (iVar 9) (iCons (iOp gIx (iOp gIx (iVar 6) (iVar 4)) (iC (.int 0))) (iCons (iVar 12) (iCons (iTup (iCons (iC (.str "give")) (iCons (iVar 9) iNil))) iNil)))))))))))))
noncomputable def b_29 (t : Nat → Fn) : IS := (sSeq (sAsg (iVar 1) (gTp 3 (gsCons (gNm 5) (gsCons (gNm 6) (gsCons (gNm 7) gsNil))))) (sSeq (sAsg (iOp gIx (iVar 2) (iB gMax2 (iCons (iCall (t 24) (iCons (iVar 0) (iCons (iB gLen (iCons (iVar 2) iNil)) iNil))) (iCons (iCall (t 24) (iCons (iVar 0) (iCons (iB gLen (iCons (iVar 2) iNil)) iNil))) iNil)))) (gTp 2 (gsCons (gNm 8) (gsCons (gNm 9) gsNil)))) (sSeq (sAsg (iOp gIx (iB gDictOf (iCons (iVar 5) iNil)) (iVar 9)) (gNm 10)) (sSeq (sAsg (iOp gSub (iOp gIx (iVar 4) (iC (.int 0))) (iB gLen (iCons (iVar 10) iNil))) (gSb (iVar 4) (iC (.int 0)))) (sSeq (sAsg (iLst iNil) (gNm 11)) (sSeq (sFor (pSeq (iVar 10)) (gTp 2 (gsCons (gNm 12) (gsCons (gNm 13) gsNil))) (sSeq (sAsg (iComp (pEnum (iCons (iVar 13) iNil)) (CT.tp [16, 17]) [16, 17] jYes (iTup (iCons (iOp gIx (iVar 7) (iOp gAdd (iB gLen (iCons (iVar 2) iNil)) (iVar 16))) (iCons (iVar 17) iNil)))) (gNm 14)) (sSeq (sAsg (iB gTupOf (iCons (iComp (pSeq (iVar 14)) (CT.tp [18, 17]) [18, 17] jYes (iVar 18)) iNil)) (gNm 15)) (sExpr (iBM "list" gAppend (iVar 11) (iCons (iTup (iCons (iVar 12) (iCons (iVar 15) (iCons (iCall (t 30) (iCons (iVar 0) (iCons (iVar 1) (iCons (iOp gAdd (iVar 2) (iVar 14)) (iCons (iVar 3) (iCons (iVar 4) iNil)))))) iNil)))) iNil)))))) (sRet (iTup (iCons (iC (.str "case")) (iCons (iVar 8) (iCons (iB gTupOf (iCons (iVar 11) iNil)) iNil)))))))))))
noncomputable def b_30 (t : Nat → Fn) : IS := (sSeq (sAsg (iVar 1) (gTp 3 (gsCons (gNm 5) (gsCons (gNm 6) (gsCons (gNm 7) gsNil))))) (sSeq (sAsg (iOp gIx (iOp gIx (iVar 6) (iVar 3)) (iC (.int 2))) (gNm 8)) (sSeq (sAsg (iCall (t 24) (iCons (iVar 0) (iCons (iC (.int 10)) iNil))) (gNm 9)) (sSeq (sIf ((jOr (jVal (iOp gLt (iOp gIx (iVar 4) (iC (.int 0))) (iC (.int 1)))) (jOr (jVal (iOp gEq (iVar 9) (iC (.int 9)))) (jVal (iOp gGt (iB gLen (iCons (iVar 2) iNil)) (iC (.int 16))))))) (sRet (iCall (t 28) (iCons (iVar 0) (iCons (iVar 1) (iCons (iVar 2) (iCons (iVar 8) (iCons (iVar 3) iNil))))))) sSkip) (sSeq (sAsg (iOp gSub (iOp gIx (iVar 4) (iC (.int 0))) (iC (.int 1))) (gSb (iVar 4) (iC (.int 0)))) (sSeq (sAsg (iOp gIx (iVar 7) (iB gLen (iCons (iVar 2) iNil))) (gNm 10)) (sSeq (sIf (jVal (iOp gLt (iVar 9) (iC (.int 2)))) (sSeq (sAsg (iOp gAdd (iC (.int 1)) (iCall (t 24) (iCons (iVar 0) (iCons (iOp gIx (iLst (iCons (iC (.int 3)) (iCons (iC (.int 9)) (iCons (iC (.int 1000)) iNil)))) (iCall (t 24) (iCons (iVar 0) (iCons (iC (.int 3)) iNil)))) iNil)))) (gNm 11)) (sSeq (sAsg (iOp gIx (iLst (iCons (iC (.str "pay")) (iCons (iC (.str "pay")) (iCons (iC (.str "get")) iNil)))) (iCall (t 24) (iCons (iVar 0) (iCons (iC (.int 3)) iNil)))) (gNm 12)) (sRet (iTup (iCons (iVar 12) (iCons (iVar 11) (iCons (iCall (t 30) (iCons (iVar 0) (iCons (iVar 1) (iCons (iVar 2) (iCons (iVar 3) (iCons (iVar 4) iNil)))))) iNil))))))) sSkip) (sSeq (sIf ((jAnd (jVal (iOp gLt (iVar 9) (iC (.int 5)))) (jVal (iOp gNe (iVar 2) (iLst iNil))))) (sRet (iCall (t 29) (iCons (iVar 0) (iCons (iVar 1) (iCons (iVar 2) (iCons (iVar 3) (iCons (iVar 4) iNil))))))) sSkip) (sSeq (sIf ((jAnd (jVal (iOp gEq (iVar 9) (iC (.int 5)))) (jVal (iOp gNe (iVar 2) (iLst iNil))))) (sSeq (sAsg (iOp gIx (iVar 2) (iCall (t 24) (iCons (iVar 0) (iCons (iB gLen (iCons (iVar 2) iNil)) iNil)))) (gTp 2 (gsCons (gNm 13) (gsCons (gNm 14) gsNil)))) (sRet (iTup (iCons (iC (.str "name")) (iCons (iVar 10) (iCons (iVar 13) (iCons (iCall (t 30) (iCons (iVar 0) (iCons (iVar 1) (iCons (iOp gAdd (iVar 2) (iLst (iCons (iTup (iCons (iVar 10) (iCons (iVar 14) iNil))) iNil))) (iCons (iVar 3) (iCons (iVar 4) iNil)))))) iNil))))))) sSkip) (sSeq (sIf (jVal (iOp gEq (iVar 9) (iC (.int 6)))) (sSeq (sAsg (iCall (t 24) (iCons (iVar 0) (iCons (iB gLen (iCons (iVar 6) iNil)) iNil))) (gNm 15)) (sSeq (sAsg (iCall (t 27) (iCons (iVar 0) (iCons (iVar 2) (iCons (iComp (pSeq (iOp gIx (iOp gIx (iVar 6) (iVar 15)) (iC (.int 1)))) (CT.nm 21) [21] jYes (iOp gIx (iVar 21) (iC (.int 1)))) iNil)))) (gNm 16)) (sIf (jVal (iOp gIsNot (iVar 16) (iC .non))) (sRet (iTup (iCons (iC (.str "call")) (iCons (iVar 10) (iCons (iOp gIx (iOp gIx (iVar 6) (iVar 15)) (iC (.int 0))) (iCons (iVar 16) (iCons (iCall (t 30) (iCons (iVar 0) (iCons (iVar 1) (iCons (iOp gAdd (iVar 2) (iLst (iCons (iTup (iCons (iVar 10) (iCons (iOp gIx (iOp gIx (iVar 6) (iVar 15)) (iC (.int 2))) iNil))) iNil))) (iCons (iVar 3) (iCons (iVar 4) iNil)))))) iNil))))))) sSkip))) sSkip) (sSeq (sAsg (iOp gIx (iVar 5) (iCall (t 24) (iCons (iVar 0) (iCons (iB gLen (iCons (iVar 5) iNil)) iNil)))) (gTp 2 (gsCons (gNm 17) (gsCons (gNm 18) gsNil)))) (sSeq (sAsg (iOp gIx (iVar 18) (iCall (t 24) (iCons (iVar 0) (iCons (iB gLen (iCons (iVar 18) iNil)) iNil)))) (gTp 2 (gsCons (gNm 19) (gsCons (gNm 20) gsNil)))) (sSeq (sAsg (iCall (t 27) (iCons (iVar 0) (iCons (iVar 2) (iCons (iVar 20) iNil)))) (gNm 16)) (sSeq (sIf (jVal (iOp gIs (iVar 16) (iC .non))) (sRet (iCall (t 28) (iCons (iVar 0) (iCons (iVar 1) (iCons (iVar 2) (iCons (iVar 8) (iCons (iVar 3) iNil))))))) sSkip) (sRet (iTup (iCons (iC (.str "make")) (iCons (iVar 10) (iCons (iVar 19) (iCons (iVar 16) (iCons (iCall (t 30) (iCons (iVar 0) (iCons (iVar 1) (iCons (iOp gAdd (iVar 2) (iLst (iCons (iTup (iCons (iVar 10) (iCons (iVar 17) iNil))) iNil))) (iCons (iVar 3) (iCons (iVar 4) iNil)))))) iNil)))))))))))))))))))))
noncomputable def b_31 (t : Nat → Fn) : IS := (sSeq (sAsg (iCall (t 25) (iCons (iVar 0) (iCons (iC (.int 40)) iNil))) (gNm 3)) (sSeq (sAsg (iCall (t 26) (iCons (iVar 0) (iCons (iVar 3) iNil))) (gNm 4)) (sSeq (sAsg (iLst iNil) (gNm 5)) (sSeq (sFor (pRange1 (iCons (iOp gAdd (iC (.int 1)) (iCall (t 24) (iCons (iVar 0) (iCons (iVar 1) iNil)))) iNil)) (gNm 6) (sSeq (sAsg (iOp gIx (iLst (iCons (iC (.int 1)) (iCons (iC (.int 1)) (iCons (iC (.int 2)) (iCons (iC (.int 2)) (iCons (iC (.int 0)) (iCons (iC (.int 3)) iNil))))))) (iCall (t 24) (iCons (iVar 0) (iCons (iC (.int 6)) iNil)))) (gNm 7)) (sSeq (sAsg (iComp (pRange1 (iCons (iVar 7) iNil)) (CT.nm 15) [15] jYes (iTup (iCons (iOp gIx (iVar 3) (iVar 15)) (iCons (iOp gIx (iOp gIx (iVar 4) (iCall (t 24) (iCons (iVar 0) (iCons (iB gLen (iCons (iVar 4) iNil)) iNil)))) (iC (.int 0))) iNil)))) (gNm 8)) (sExpr (iBM "list" gAppend (iVar 5) (iCons (iTup (iCons (iOp gIx (iVar 3) (iOp gSub (iC (.int 39)) (iVar 6))) (iCons (iB gTupOf (iCons (iVar 8) iNil)) (iCons (iOp gIx (iOp gIx (iVar 4) (iCall (t 24) (iCons (iVar 0) (iCons (iB gLen (iCons (iVar 4) iNil)) iNil)))) (iC (.int 0))) iNil)))) iNil)))))) (sSeq (sAsg (iOp gIx (iOp gIx (iVar 4) (iCall (t 24) (iCons (iVar 0) (iCons (iB gLen (iCons (iVar 4) iNil)) iNil)))) (iC (.int 0))) (gNm 9)) (sSeq (sFor (pRange1 (iCons (iC (.int 2)) iNil)) (gNm 10) (sSeq (sAsg (iOp gIx (iOp gIx (iVar 4) (iCall (t 24) (iCons (iVar 0) (iCons (iB gLen (iCons (iVar 4) iNil)) iNil)))) (iC (.int 0))) (gNm 11)) (sSeq (sExpr (iBM "list" gAppend (iVar 5) (iCons (iTup (iCons (iOp gIx (iVar 3) (iOp gSub (iC (.int 39)) (iB gLen (iCons (iVar 5) iNil)))) (iCons (iTup (iCons (iTup (iCons (iOp gIx (iVar 3) (iC (.int 0))) (iCons (iVar 9) iNil))) iNil)) (iCons (iVar 11) iNil)))) iNil))) (sAsg (iVar 11) (gNm 9))))) (sSeq (sAsg (iLst iNil) (gNm 12)) (sSeq (sFor (pEnum (iCons (iVar 5) iNil)) (gTp 2 (gsCons (gNm 6) (gsCons (gNm 13) gsNil))) (sSeq (sAsg (iCall (t 30) (iCons (iVar 0) (iCons (iTup (iCons (iVar 4) (iCons (iVar 5) (iCons (iVar 3) iNil)))) (iCons (iB gListOf (iCons (iOp gIx (iVar 13) (iC (.int 1))) iNil)) (iCons (iVar 6) (iCons (iLst (iCons (iVar 2) iNil)) iNil)))))) (gNm 14)) (sExpr (iBM "list" gAppend (iVar 12) (iCons (iOp gAdd (iVar 13) (iTup (iCons (iVar 14) iNil))) iNil))))) (sRet (iTup (iCons (iTup (iCons (iVar 4) (iCons (iB gTupOf (iCons (iVar 12) iNil)) iNil))) (iCons (iVar 3) iNil))))))))))))
noncomputable def b_32 (t : Nat → Fn) : IS := (sSeq (sAsg (iDicK) (gNm 1)) (sSeq (sFor (pSeq (iVar 0)) (gNm 2) (sFor (pSeq (iVar 0)) (gTp 2 (gsCons (gNm 3) (gsCons (gNm 4) gsNil))) (sFor (pSeq (iVar 4)) (gTp 2 (gsCons (gNm 5) (gsCons (gNm 6) gsNil))) (sIf (jVal (iB gAll (iCons (iComp (pSeq (iVar 6)) (CT.nm 8) [8] jYes (iOp gIn (iVar 8) (iVar 1))) iNil))) (sSeq (sAsg (iOp gAdd (iC (.int 1)) (iB gSum (iCons (iComp (pSeq (iVar 6)) (CT.nm 8) [8] jYes (iOp gIx (iVar 1) (iVar 8))) iNil))) (gNm 7)) (sAsg (iB gMin2 (iCons (iGet2 (iVar 1) (iVar 3) (iVar 7)) (iCons (iVar 7) iNil))) (gSb (iVar 1) (iVar 3)))) sSkip)))) (sRet (iVar 1))))
noncomputable def b_33 (t : Nat → Fn) : IS := (sSeq (sAsg (iLst iNil) (gNm 5)) (sSeq (sFor (pSeq (iOp gIx (iB gDictOf (iCons (iVar 1) iNil)) (iVar 3))) (gTp 2 (gsCons (gNm 6) (gsCons (gNm 7) gsNil))) (sIf (jVal (iB gAll (iCons (iComp (pSeq (iVar 7)) (CT.nm 12) [12] jYes (iOp gIn (iVar 12) (iVar 2))) iNil))) (sExpr (iBM "list" gAppend (iVar 5) (iCons (iTup (iCons (iOp gAdd (iC (.int 1)) (iB gSum (iCons (iComp (pSeq (iVar 7)) (CT.nm 12) [12] jYes (iOp gIx (iVar 2) (iVar 12))) iNil))) (iCons (iVar 6) (iCons (iVar 7) iNil)))) iNil))) sSkip)) (sSeq (sAsg (iComp (pSeq (iVar 5)) (CT.nm 14) [14] (jVal (iOp gLe (iOp gIx (iVar 14) (iC (.int 0))) (iB gMax2 (iCons (iVar 4) (iCons (iOp gIx (iVar 2) (iVar 3)) iNil))))) (iVar 14)) (gNm 5)) (sSeq (sAsg (iOp gIx (iVar 5) (iCall (t 24) (iCons (iVar 0) (iCons (iB gLen (iCons (iVar 5) iNil)) iNil)))) (gTp 3 (gsCons (gNm 8) (gsCons (gNm 6) (gsCons (gNm 7) gsNil))))) (sSeq (sAsg (iOp gSub (iVar 4) (iC (.int 1))) (gNm 9)) (sSeq (sAsg (iLst iNil) (gNm 10)) (sSeq (sFor (pEnum (iCons (iVar 7) iNil)) (gTp 2 (gsCons (gNm 11) (gsCons (gNm 12) gsNil))) (sSeq (sAsg (iOp gIx (iLst (iCons (iVar 9) (iCons (iCall (t 24) (iCons (iVar 0) (iCons (iOp gAdd (iB gMax2 (iCons (iC (.int 1)) (iCons (iVar 9) iNil))) (iC (.int 1))) iNil))) iNil))) (iB gIntOf (iCons (iOp gLt (iOp gAdd (iVar 11) (iC (.int 1))) (iB gLen (iCons (iVar 7) iNil))) iNil))) (gNm 13)) (sSeq (sExpr (iBM "list" gAppend (iVar 10) (iCons (iCall (t 33) (iCons (iVar 0) (iCons (iVar 1) (iCons (iVar 2) (iCons (iVar 12) (iCons (iVar 13) iNil)))))) iNil))) (sAsg (iOp gSub (iVar 9) (iVar 13)) (gNm 9))))) (sRet (iTup (iCons (iVar 6) (iCons (iB gTupOf (iCons (iVar 10) iNil)) iNil)))))))))))
noncomputable def b_34 (t : Nat → Fn) : IS := (sSeq (sAsg (iTup (iCons (iVar 0) (iCons (iTup iNil) iNil))) (gNm 3)) (sSeq (sFor (pRev (iVar 2)) (gNm 4) (sAsg (iTup (iCons (iVar 1) (iCons (iTup (iCons (iVar 4) (iCons (iVar 3) iNil))) iNil))) (gNm 3))) (sRet (iVar 3))))
noncomputable def b_35 (t : Nat → Fn) : IS := (sSeq (sAsg (iLst iNil) (gNm 1)) (sSeq (sWhile (jVal (iOp gEq (iB gLen (iCons (iOp gIx (iVar 0) (iC (.int 1))) iNil)) (iC (.int 2)))) (sSeq (sExpr (iBM "list" gAppend (iVar 1) (iCons (iOp gIx (iOp gIx (iVar 0) (iC (.int 1))) (iC (.int 0))) iNil))) (sAsg (iOp gIx (iOp gIx (iVar 0) (iC (.int 1))) (iC (.int 1))) (gNm 0)))) (sRet (iVar 1))))
noncomputable def b_36 (t : Nat → Fn) : IS := (sSeq (sIf (jVal (iOp gNe (iOp gIx (iVar 0) (iC (.int 0))) (iC (.str "gave")))) (sRet (iC .non)) sSkip) (sSeq (sAsg (iCall (t 35) (iCons (iOp gIx (iVar 0) (iC (.int 1))) iNil)) (gNm 3)) (sRet (iOp gIx (iLst (iCons (iC .non) (iCons (iVar 3) iNil))) (iB gIntOf (iCons (iOp gEq (iOp gIx (iVar 0) (iC (.int 1))) (iCall (t 34) (iCons (iVar 1) (iCons (iVar 2) (iCons (iVar 3) iNil))))) iNil))))))
noncomputable def b_37 (t : Nat → Fn) : IS := (sSeq (sAsg (iVar 1) (gTp 3 (gsCons (gNm 3) (gsCons (gNm 4) (gsCons (gNm 5) gsNil))))) (sSeq (sAsg (iOp gSub (iB gLen (iCons (iOp gIx (iVar 0) (iC (.int 1))) iNil)) (iC (.int 3))) (gNm 6)) (sSeq (sAsg (iCall (t 22) (iCons (iVar 0) (iCons (iVar 6) (iCons (iLst (iCons (iCall (t 34) (iCons (iOp gIx (iVar 3) (iC (.int 1))) (iCons (iOp gIx (iVar 3) (iC (.int 2))) (iCons (iVar 2) iNil)))) iNil)) (iCons (iOp gPow (iC (.int 10)) (iC (.int 9))) (iCons (iC (.int 400)) iNil)))))) (gNm 7)) (sSeq (sAsg (iCall (t 22) (iCons (iVar 0) (iCons (iOp gAdd (iVar 6) (iC (.int 1))) (iCons (iLst (iCons (iCall (t 34) (iCons (iOp gIx (iVar 4) (iC (.int 1))) (iCons (iOp gIx (iVar 4) (iC (.int 2))) (iCons (iVar 2) iNil)))) iNil)) (iCons (iOp gPow (iC (.int 10)) (iC (.int 9))) (iCons (iC (.int 150)) iNil)))))) (gNm 8)) (sSeq (sAsg (iCall (t 36) (iCons (iOp gIx (iVar 8) (iC (.int 0))) (iCons (iOp gIx (iVar 4) (iC (.int 4))) (iCons (iOp gIx (iVar 4) (iC (.int 5))) iNil)))) (gNm 9)) (sSeq (sIf (jVal (iOp gIs (iVar 9) (iC .non))) (sRet (iOp gIn (iOp gIx (iOp gIx (iVar 8) (iC (.int 0))) (iC (.int 0))) (iTup (iCons (iC (.str "great")) (iCons (iC (.str "late")) iNil))))) sSkip) (sSeq (sAsg (iCall (t 22) (iCons (iVar 0) (iCons (iOp gAdd (iVar 6) (iC (.int 2))) (iCons (iLst (iCons (iCall (t 34) (iCons (iOp gIx (iVar 5) (iC (.int 1))) (iCons (iOp gIx (iVar 5) (iC (.int 2))) (iCons (iVar 9) iNil)))) iNil)) (iCons (iOp gIx (iVar 8) (iC (.int 1))) (iCons (iC (.int 150)) iNil)))))) (gNm 10)) (sSeq (sAsg (iCall (t 36) (iCons (iOp gIx (iVar 10) (iC (.int 0))) (iCons (iOp gIx (iVar 5) (iC (.int 4))) (iCons (iOp gIx (iVar 5) (iC (.int 5))) iNil)))) (gNm 11)) (sSeq (sIf (jVal (iOp gIs (iVar 11) (iC .non))) (sRet (iOp gIn (iOp gIx (iOp gIx (iVar 10) (iC (.int 0))) (iC (.int 0))) (iTup (iCons (iC (.str "great")) (iCons (iC (.str "late")) iNil))))) sSkip) (sSeq (sIf ((jOr (jVal (iOp gNe (iB gLen (iCons (iVar 9) iNil)) (iB gLen (iCons (iVar 2) iNil)))) (jVal (iOp gNe (iB gLen (iCons (iVar 11) iNil)) (iB gLen (iCons (iVar 2) iNil)))))) (sRet (iC (.bl false))) sSkip) (sSeq (sAsg (iOp gSub (iOp gSub (iOp gAdd (iOp gIx (iVar 8) (iC (.int 2))) (iOp gIx (iVar 10) (iC (.int 2)))) (iOp gMul (iC (.int 2)) (iB gLen (iCons (iVar 2) iNil)))) (iC (.int 3))) (gNm 12)) (sRet (iOp gEq (iVar 7) (iTup (iCons (iTup (iCons (iC (.str "gave")) (iCons (iCall (t 34) (iCons (iOp gIx (iVar 3) (iC (.int 4))) (iCons (iOp gIx (iVar 3) (iC (.int 5))) (iCons (iVar 11) iNil)))) iNil))) (iCons (iOp gIx (iVar 10) (iC (.int 1))) (iCons (iVar 12) iNil)))))))))))))))))
noncomputable def b_38 (t : Nat → Fn) : IS := (sSeq (sAsg (iCall (t 23) (iCons (iVar 0) (iCons (iC (.int 0)) iNil))) (gNm 1)) (sSeq (sAsg (iCall (t 31) (iCons (iVar 1) (iCons (iC (.int 2)) (iCons (iOp gAdd (iC (.int 3)) (iCall (t 24) (iCons (iVar 1) (iCons (iC (.int 5)) iNil)))) iNil)))) (gTp 2 (gsCons (gNm 2) (gsCons (gNm 3) gsNil)))) (sSeq (sAsg (iB gLen (iCons (iOp gIx (iVar 2) (iC (.int 1))) iNil)) (gNm 4)) (sSeq (sAsg (iComp (pRange1 (iCons (iC (.int 3)) iNil)) (CT.nm 11) [11] jYes (iB gTupOf (iCons (iSl (iVar 3) (iPart (iOp gAdd (iC (.int 13)) (iOp gMul (iC (.int 7)) (iVar 11)))) (iPart (iOp gAdd (iC (.int 20)) (iOp gMul (iC (.int 7)) (iVar 11))))) iNil))) (gNm 5)) (sSeq (sAsg (iCall (t 2) (iCons (iVar 2) (iCons (iOp gSub (iVar 4) (iC (.int 2))) (iCons (iOp gSub (iVar 4) (iC (.int 1))) (iCons (iOp gIx (iVar 3) (iC (.int 34))) iNil))))) (gNm 6)) (sSeq (sAsg (iCall (t 3) (iCons (iVar 6) (iCons (iVar 4) (iCons (iOp gIx (iVar 5) (iC (.int 0))) iNil)))) (gNm 6)) (sSeq (sAsg (iCall (t 3) (iCons (iVar 6) (iCons (iOp gSub (iVar 4) (iC (.int 2))) (iCons (iOp gIx (iVar 5) (iC (.int 1))) iNil)))) (gNm 6)) (sSeq (sAsg (iCall (t 3) (iCons (iVar 6) (iCons (iOp gSub (iVar 4) (iC (.int 1))) (iCons (iOp gIx (iVar 5) (iC (.int 2))) iNil)))) (gNm 6)) (sSeq (sAsg (iCall (t 32) (iCons (iOp gIx (iVar 2) (iC (.int 0))) iNil)) (gNm 7)) (sSeq (sAsg (iOp gIx (iOp gIx (iOp gIx (iOp gIx (iOp gIx (iVar 2) (iC (.int 1))) (iOp gSub (iVar 4) (iC (.int 2)))) (iC (.int 1))) (iC (.int 0))) (iC (.int 1))) (gNm 8)) (sSeq (sFor (pRange1 (iCons (iC (.int 2)) iNil)) (gNm 9) (sSeq (sAsg (iLst iNil) (gNm 10)) (sSeq (sFor (pRange1 (iCons (iOp gMul (iCall (t 24) (iCons (iVar 1) (iCons (iOp gIx (iLst (iCons (iC (.int 3)) (iCons (iC (.int 6)) iNil))) (iVar 9)) iNil))) (iB gIntOf (iCons (iOp gIn (iVar 8) (iVar 7)) iNil))) iNil)) (gNm 11) (sExpr (iBM "list" gAppend (iVar 10) (iCons (iCall (t 33) (iCons (iVar 1) (iCons (iOp gIx (iVar 2) (iC (.int 0))) (iCons (iVar 7) (iCons (iVar 8) (iCons (iCall (t 24) (iCons (iVar 1) (iCons (iC (.int 7)) iNil))) iNil)))))) iNil)))) (sIf (jNot (jVal (iCall (t 37) (iCons (iVar 6) (iCons (iVar 5) (iCons (iVar 10) iNil)))))) (sRet (iC (.bl false))) sSkip)))) (sRet (iC (.bl true))))))))))))))
noncomputable def meant (t : Nat → Fn) : Nat → Fn
  | 0 => iFun 1 4 (b_0 t)
  | 1 => iFun 3 3 (b_1 t)
  | 2 => iFun 4 11 (b_2 t)
  | 3 => iFun 3 16 (b_3 t)
  | 4 => iFun 1 2 (b_4 t)
  | 5 => iFun 1 4 (b_5 t)
  | 6 => iFun 2 3 (b_6 t)
  | 7 => iFun 1 5 (b_7 t)
  | 8 => iFun 1 1 (b_8 t)
  | 9 => iFun 1 2 (b_9 t)
  | 10 => iFun 5 6 (b_10 t)
  | 11 => iFun 3 6 (b_11 t)
  | 12 => iFun 1 1 (b_12 t)
  | 13 => iFun 1 1 (b_13 t)
  | 14 => iFun 1 1 (b_14 t)
  | 15 => iFun 2 2 (b_15 t)
  | 16 => iFun 3 3 (b_16 t)
  | 17 => iFun 1 4 (b_17 t)
  | 18 => iFun 3 5 (b_18 t)
  | 19 => iFun 3 6 (b_19 t)
  | 20 => iFun 3 11 (b_20 t)
  | 21 => iFun 2 5 (b_21 t)
  | 22 => iFun 5 7 (b_22 t)
  | 23 => iFun 2 5 (b_23 t)
  | 24 => iFun 2 5 (b_24 t)
  | 25 => iFun 2 11 (b_25 t)
  | 26 => iFun 2 14 (b_26 t)
  | 27 => iFun 3 8 (b_27 t)
  | 28 => iFun 5 15 (b_28 t)
  | 29 => iFun 5 19 (b_29 t)
  | 30 => iFun 5 22 (b_30 t)
  | 31 => iFun 3 16 (b_31 t)
  | 32 => iFun 1 9 (b_32 t)
  | 33 => iFun 5 15 (b_33 t)
  | 34 => iFun 3 5 (b_34 t)
  | 35 => iFun 1 2 (b_35 t)
  | 36 => iFun 3 4 (b_36 t)
  | 37 => iFun 3 13 (b_37 t)
  | 38 => iFun 1 12 (b_38 t)
  | _ => fun _ _ => none
theorem sc_0 : FnScope df_0.N df_0.ps df_0.d.scope := ⟨rfl, rfl, rfl, by decide +kernel, rfl, by decide +kernel, by decide +kernel⟩
theorem sc_1 : FnScope df_1.N df_1.ps df_1.d.scope := ⟨rfl, rfl, rfl, by decide +kernel, rfl, by decide +kernel, by decide +kernel⟩
theorem sc_2 : FnScope df_2.N df_2.ps df_2.d.scope := ⟨rfl, rfl, rfl, by decide +kernel, rfl, by decide +kernel, by decide +kernel⟩
theorem sc_3 : FnScope df_3.N df_3.ps df_3.d.scope := ⟨rfl, rfl, rfl, by decide +kernel, rfl, by decide +kernel, by decide +kernel⟩
theorem sc_4 : FnScope df_4.N df_4.ps df_4.d.scope := ⟨rfl, rfl, rfl, by decide +kernel, rfl, by decide +kernel, by decide +kernel⟩
theorem sc_5 : FnScope df_5.N df_5.ps df_5.d.scope := ⟨rfl, rfl, rfl, by decide +kernel, rfl, by decide +kernel, by decide +kernel⟩
theorem sc_6 : FnScope df_6.N df_6.ps df_6.d.scope := ⟨rfl, rfl, rfl, by decide +kernel, rfl, by decide +kernel, by decide +kernel⟩
theorem sc_7 : FnScope df_7.N df_7.ps df_7.d.scope := ⟨rfl, rfl, rfl, by decide +kernel, rfl, by decide +kernel, by decide +kernel⟩
theorem sc_8 : FnScope df_8.N df_8.ps df_8.d.scope := ⟨rfl, rfl, rfl, by decide +kernel, rfl, by decide +kernel, by decide +kernel⟩
theorem sc_9 : FnScope df_9.N df_9.ps df_9.d.scope := ⟨rfl, rfl, rfl, by decide +kernel, rfl, by decide +kernel, by decide +kernel⟩
theorem sc_10 : FnScope df_10.N df_10.ps df_10.d.scope := ⟨rfl, rfl, rfl, by decide +kernel, rfl, by decide +kernel, by decide +kernel⟩
theorem sc_11 : FnScope df_11.N df_11.ps df_11.d.scope := ⟨rfl, rfl, rfl, by decide +kernel, rfl, by decide +kernel, by decide +kernel⟩
theorem sc_12 : FnScope df_12.N df_12.ps df_12.d.scope := ⟨rfl, rfl, rfl, by decide +kernel, rfl, by decide +kernel, by decide +kernel⟩
theorem sc_13 : FnScope df_13.N df_13.ps df_13.d.scope := ⟨rfl, rfl, rfl, by decide +kernel, rfl, by decide +kernel, by decide +kernel⟩
theorem sc_14 : FnScope df_14.N df_14.ps df_14.d.scope := ⟨rfl, rfl, rfl, by decide +kernel, rfl, by decide +kernel, by decide +kernel⟩
theorem sc_15 : FnScope df_15.N df_15.ps df_15.d.scope := ⟨rfl, rfl, rfl, by decide +kernel, rfl, by decide +kernel, by decide +kernel⟩
theorem sc_16 : FnScope df_16.N df_16.ps df_16.d.scope := ⟨rfl, rfl, rfl, by decide +kernel, rfl, by decide +kernel, by decide +kernel⟩
theorem sc_17 : FnScope df_17.N df_17.ps df_17.d.scope := ⟨rfl, rfl, rfl, by decide +kernel, rfl, by decide +kernel, by decide +kernel⟩
theorem sc_18 : FnScope df_18.N df_18.ps df_18.d.scope := ⟨rfl, rfl, rfl, by decide +kernel, rfl, by decide +kernel, by decide +kernel⟩
theorem sc_19 : FnScope df_19.N df_19.ps df_19.d.scope := ⟨rfl, rfl, rfl, by decide +kernel, rfl, by decide +kernel, by decide +kernel⟩
theorem sc_20 : FnScope df_20.N df_20.ps df_20.d.scope := ⟨rfl, rfl, rfl, by decide +kernel, rfl, by decide +kernel, by decide +kernel⟩
theorem sc_21 : FnScope df_21.N df_21.ps df_21.d.scope := ⟨rfl, rfl, rfl, by decide +kernel, rfl, by decide +kernel, by decide +kernel⟩
theorem sc_22 : FnScope df_22.N df_22.ps df_22.d.scope := ⟨rfl, rfl, rfl, by decide +kernel, rfl, by decide +kernel, by decide +kernel⟩
theorem sc_23 : FnScope df_23.N df_23.ps df_23.d.scope := ⟨rfl, rfl, rfl, by decide +kernel, rfl, by decide +kernel, by decide +kernel⟩
theorem sc_24 : FnScope df_24.N df_24.ps df_24.d.scope := ⟨rfl, rfl, rfl, by decide +kernel, rfl, by decide +kernel, by decide +kernel⟩
theorem sc_25 : FnScope df_25.N df_25.ps df_25.d.scope := ⟨rfl, rfl, rfl, by decide +kernel, rfl, by decide +kernel, by decide +kernel⟩
theorem sc_26 : FnScope df_26.N df_26.ps df_26.d.scope := ⟨rfl, rfl, rfl, by decide +kernel, rfl, by decide +kernel, by decide +kernel⟩
theorem sc_27 : FnScope df_27.N df_27.ps df_27.d.scope := ⟨rfl, rfl, rfl, by decide +kernel, rfl, by decide +kernel, by decide +kernel⟩
theorem sc_28 : FnScope df_28.N df_28.ps df_28.d.scope := ⟨rfl, rfl, rfl, by decide +kernel, rfl, by decide +kernel, by decide +kernel⟩
theorem sc_29 : FnScope df_29.N df_29.ps df_29.d.scope := ⟨rfl, rfl, rfl, by decide +kernel, rfl, by decide +kernel, by decide +kernel⟩
theorem sc_30 : FnScope df_30.N df_30.ps df_30.d.scope := ⟨rfl, rfl, rfl, by decide +kernel, rfl, by decide +kernel, by decide +kernel⟩
theorem sc_31 : FnScope df_31.N df_31.ps df_31.d.scope := ⟨rfl, rfl, rfl, by decide +kernel, rfl, by decide +kernel, by decide +kernel⟩
theorem sc_32 : FnScope df_32.N df_32.ps df_32.d.scope := ⟨rfl, rfl, rfl, by decide +kernel, rfl, by decide +kernel, by decide +kernel⟩
theorem sc_33 : FnScope df_33.N df_33.ps df_33.d.scope := ⟨rfl, rfl, rfl, by decide +kernel, rfl, by decide +kernel, by decide +kernel⟩
theorem sc_34 : FnScope df_34.N df_34.ps df_34.d.scope := ⟨rfl, rfl, rfl, by decide +kernel, rfl, by decide +kernel, by decide +kernel⟩
theorem sc_35 : FnScope df_35.N df_35.ps df_35.d.scope := ⟨rfl, rfl, rfl, by decide +kernel, rfl, by decide +kernel, by decide +kernel⟩
theorem sc_36 : FnScope df_36.N df_36.ps df_36.d.scope := ⟨rfl, rfl, rfl, by decide +kernel, rfl, by decide +kernel, by decide +kernel⟩
theorem sc_37 : FnScope df_37.N df_37.ps df_37.d.scope := ⟨rfl, rfl, rfl, by decide +kernel, rfl, by decide +kernel, by decide +kernel⟩
theorem sc_38 : FnScope df_38.N df_38.ps df_38.d.scope := ⟨rfl, rfl, rfl, by decide +kernel, rfl, by decide +kernel, by decide +kernel⟩
theorem bk_0 {cls : Nat → Addr} {k : Nat} {t : Nat → Fn} (hk : 16 ≤ k) : BodyOk cls k fas dfs css tus t df_0 (meant t 0) := ⟨sc_0, 1, 4, b_0 t, rfl, rfl, rfl, fun P w K mg base f cdv A outer s H E C =>
  (ssx_cons (sx_set (k := 1) sc_0.nd rfl (.inr rfl) (ix_comp C.calm sc_0.nd (t := (CT.nm 2)) (own := [("param", 2)]) (px_seq (ix_sub_ (C.hu hk) (fun _ _ => rfl) (ix_var (i := 0) rfl (.inl rfl)) (ix_int))) (blkOk_by rfl) (by decide) (fun _ _ _ _ _ => pg_name sc_0.nd (i := 2) rfl (.inl rfl) (.inr rfl)) (fun _ _ _ _ _ => tx_nil) (fun _ _ _ _ _ => (ix_sub_ ((Has.blk C _ _ _ _ _).hu hk) (fun _ _ => rfl) (ix_var (i := 2) rfl (.inl rfl)) (ix_int))) (fun _ => rfl)) rfl (.inl rfl)) (ssx_one (sx_ret (ix_slice (ix_comp C.calm sc_0.nd (t := (CT.nm 3)) (own := [("name", 3)]) (px_seq (hx_gstrs C 0 0 rfl rfl rfl)) (blkOk_by rfl) (by decide) (fun _ _ _ _ _ => pg_name sc_0.nd (i := 3) rfl (.inl rfl) (.inr rfl)) (fun _ _ _ _ _ => (tx_one (jx_notIn ((Has.blk C _ _ _ _ _).hu hk) rfl (ix_var (i := 3) rfl (.inl rfl)) (ix_var (i := 1) rfl (.inr (.inl rfl)))))) (fun _ _ _ _ _ => (ix_var (i := 3) rfl (.inl rfl))) (fun _ => rfl)) nx_no (nx_part (ix_int))))))⟩
theorem bk_1 {cls : Nat → Addr} {k : Nat} {t : Nat → Fn} (hk : 16 ≤ k) : BodyOk cls k fas dfs css tus t df_1 (meant t 1) := ⟨sc_1, 3, 3, b_1 t, rfl, rfl, rfl, fun P w K mg base f cdv A outer s H E C =>
  (ssx_one (sx_ret (ix_tup_ (kx_cons (ix_add (ix_sub_ (C.hu hk) (fun _ _ => rfl) (ix_var (i := 0) rfl (.inl rfl)) (ix_int)) (ix_callTy snd_tupOf call_tuple_of rfl (C.free 1 _ rfl) PyProof.Rows.boot_tuple (kx_cons (ix_var (i := 1) rfl (.inl rfl)) kx_nil) (by decide) (by decide) rfl rfl)) (kx_cons (ix_add (ix_sub_ (C.hu hk) (fun _ _ => rfl) (ix_var (i := 0) rfl (.inl rfl)) (ix_int)) (ix_tup_ (kx_cons (ix_var (i := 2) rfl (.inl rfl)) kx_nil))) kx_nil)))))⟩
theorem bk_2 {cls : Nat → Addr} {k : Nat} {t : Nat → Fn} (hk : 16 ≤ k) : BodyOk cls k fas dfs css tus t df_2 (meant t 2) := ⟨sc_2, 4, 11, b_2 t, rfl, rfl, rfl, fun P w K mg base f cdv A outer s H E C =>
  (ssx_cons (sx_par (k := 4) (j := 5) C.calm sc_2.nd rfl rfl (by decide) rfl rfl (kx_cons (ix_sub_ (C.hu hk) (fun _ _ => rfl) (ix_sub_ (C.hu hk) (fun _ _ => rfl) (ix_var (i := 0) rfl (.inl rfl)) (ix_int)) (ix_var (i := 1) rfl (.inl rfl))) (kx_cons (ix_sub_ (C.hu hk) (fun _ _ => rfl) (ix_sub_ (C.hu hk) (fun _ _ => rfl) (ix_var (i := 0) rfl (.inl rfl)) (ix_int)) (ix_var (i := 2) rfl (.inl rfl))) kx_nil)) rfl rfl) (ssx_cons (sx_asg (hx_call C 0 1 3 (d := df_0) rfl rfl rfl rfl rfl (kx_cons (ix_var (i := 4) rfl (.inl rfl)) kx_nil) (iCons_len iNil_len)) (gx_tup C.calm (gsx_cons (gx_name (k := 6) sc_2.nd rfl (.inl rfl) (.inl rfl)) (gsx_cons (gx_name (k := 7) sc_2.nd rfl (.inl rfl) (.inl rfl)) gsx_nil rfl) rfl) rfl rfl) rfl rfl rfl) (ssx_cons (sx_set (k := 8) sc_2.nd rfl (.inl rfl) (ix_callTy snd_tupOf call_tuple_of rfl (C.free 1 _ rfl) PyProof.Rows.boot_tuple (kx_cons (ix_comp C.calm sc_2.nd (t := (CT.nm 10)) (own := [("param", 10)]) (px_seq (ix_sub_ (C.hu hk) (fun _ _ => rfl) (ix_var (i := 4) rfl (.inl rfl)) (ix_int))) (blkOk_by rfl) (by decide) (fun _ _ _ _ _ => pg_name sc_2.nd (i := 10) rfl (.inl rfl) (.inr rfl)) (fun _ _ _ _ _ => tx_nil) (fun _ _ _ _ _ => (ix_sub_ ((Has.blk C _ _ _ _ _).hu hk) (fun _ _ => rfl) (ix_var (i := 10) rfl (.inl rfl)) (ix_int))) (fun _ => rfl)) kx_nil) (by decide) (by decide) rfl rfl) rfl (.inl rfl)) (ssx_cons (sx_set (k := 9) sc_2.nd rfl (.inl rfl) (ix_tup_ (kx_cons (ix_str) (kx_cons (ix_var (i := 7) rfl (.inl rfl)) (kx_cons (ix_sub_ (C.hu hk) (fun _ _ => rfl) (ix_var (i := 5) rfl (.inl rfl)) (ix_int)) (kx_cons (ix_tup_ (kx_cons (ix_var (i := 6) rfl (.inl rfl)) kx_nil)) (kx_cons (ix_tup_ (kx_cons (ix_str) (kx_cons (ix_var (i := 7) rfl (.inl rfl)) kx_nil))) kx_nil)))))) rfl (.inl rfl)) (ssx_cons (sx_set (k := 9) sc_2.nd rfl (.inl rfl) (ix_tup_ (kx_cons (ix_str) (kx_cons (ix_var (i := 6) rfl (.inl rfl)) (kx_cons (ix_sub_ (C.hu hk) (fun _ _ => rfl) (ix_var (i := 4) rfl (.inl rfl)) (ix_int)) (kx_cons (ix_var (i := 8) rfl (.inl rfl)) (kx_cons (ix_var (i := 9) rfl (.inl rfl)) kx_nil)))))) rfl (.inl rfl)) (ssx_one (sx_ret (hx_call C 1 3 2 (d := df_1) rfl rfl rfl rfl rfl (kx_cons (ix_var (i := 0) rfl (.inl rfl)) (kx_cons (ix_lst_ kx_nil) (kx_cons (ix_tup_ (kx_cons (ix_var (i := 3) rfl (.inl rfl)) (kx_cons (ix_sub_ (C.hu hk) (fun _ _ => rfl) (ix_var (i := 4) rfl (.inl rfl)) (ix_int)) (kx_cons (ix_sub_ (C.hu hk) (fun _ _ => rfl) (ix_var (i := 5) rfl (.inl rfl)) (ix_int)) (kx_cons (ix_var (i := 9) rfl (.inl rfl)) kx_nil))))) kx_nil))) (iCons_len (iCons_len (iCons_len iNil_len)))))))))))⟩
theorem bk_3 {cls : Nat → Addr} {k : Nat} {t : Nat → Fn} (hk : 16 ≤ k) : BodyOk cls k fas dfs css tus t df_3 (meant t 3) := ⟨sc_3, 3, 16, b_3 t, rfl, rfl, rfl, fun P w K mg base f cdv A outer s H E C =>
  (ssx_cons (sx_asg (ix_var (i := 2) rfl (.inl rfl)) (gx_tup C.calm (gsx_cons (gx_name (k := 3) sc_3.nd rfl (.inl rfl) (.inl rfl)) (gsx_cons (gx_name (k := 4) sc_3.nd rfl (.inl rfl) (.inl rfl)) (gsx_cons (gx_name (k := 5) sc_3.nd rfl (.inl rfl) (.inl rfl)) (gsx_cons (gx_name (k := 6) sc_3.nd rfl (.inl rfl) (.inl rfl)) (gsx_cons (gx_name (k := 7) sc_3.nd rfl (.inl rfl) (.inl rfl)) (gsx_cons (gx_name (k := 8) sc_3.nd rfl (.inl rfl) (.inl rfl)) (gsx_cons (gx_name (k := 9) sc_3.nd rfl (.inl rfl) (.inl rfl)) gsx_nil rfl) rfl) rfl) rfl) rfl) rfl) rfl) rfl rfl) rfl rfl rfl) (ssx_cons (sx_set (k := 10) sc_3.nd rfl (.inl rfl) (ix_sub_ (C.hu hk) (fun _ _ => rfl) (ix_sub_ (C.hu hk) (fun _ _ => rfl) (ix_var (i := 0) rfl (.inl rfl)) (ix_int)) (ix_var (i := 1) rfl (.inl rfl))) rfl (.inl rfl)) (ssx_cons (sx_set (k := 11) sc_3.nd rfl (.inl rfl) (ix_sub_ (C.hu hk) (fun _ _ => rfl) (ix_sub_ (C.hu hk) (fun _ _ => rfl) (ix_sub_ (C.hu hk) (fun _ _ => rfl) (ix_var (i := 10) rfl (.inl rfl)) (ix_int)) (ix_int)) (ix_int)) rfl (.inl rfl)) (ssx_cons (sx_set (k := 12) sc_3.nd rfl (.inl rfl) (ix_lst_ (kx_cons (ix_tup_ (kx_cons (ix_var (i := 3) rfl (.inl rfl)) (kx_cons (ix_tup_ (kx_cons (ix_tup_ (kx_cons (ix_var (i := 4) rfl (.inl rfl)) (kx_cons (ix_tup_ kx_nil) kx_nil))) (kx_cons (ix_tup_ (kx_cons (ix_var (i := 5) rfl (.inl rfl)) (kx_cons (ix_tup_ (kx_cons (ix_var (i := 11) rfl (.inl rfl)) (kx_cons (ix_var (i := 3) rfl (.inl rfl)) kx_nil))) kx_nil))) kx_nil))) kx_nil))) (kx_cons (ix_tup_ (kx_cons (ix_var (i := 6) rfl (.inl rfl)) (kx_cons (ix_tup_ (kx_cons (ix_tup_ (kx_cons (ix_var (i := 7) rfl (.inl rfl)) (kx_cons (ix_tup_ kx_nil) kx_nil))) (kx_cons (ix_tup_ (kx_cons (ix_var (i := 8) rfl (.inl rfl)) (kx_cons (ix_tup_ (kx_cons (ix_sub_ (C.hu hk) (fun _ _ => rfl) (ix_var (i := 10) rfl (.inl rfl)) (ix_int)) (kx_cons (ix_var (i := 6) rfl (.inl rfl)) kx_nil))) kx_nil))) kx_nil))) kx_nil))) kx_nil))) rfl (.inl rfl)) (ssx_cons (sx_set (k := 13) sc_3.nd rfl (.inl rfl) (ix_tup_ (kx_cons (ix_str) (kx_cons (ix_str) (kx_cons (ix_var (i := 7) rfl (.inl rfl)) (kx_cons (ix_tup_ kx_nil) (kx_cons (ix_tup_ (kx_cons (ix_str) (kx_cons (ix_str) kx_nil))) kx_nil)))))) rfl (.inl rfl)) (ssx_cons (sx_set (k := 14) sc_3.nd rfl (.inl rfl) (ix_tup_ (kx_cons (ix_str) (kx_cons (ix_str) (kx_cons (ix_var (i := 8) rfl (.inl rfl)) (kx_cons (ix_tup_ (kx_cons (ix_str) (kx_cons (ix_str) kx_nil))) (kx_cons (ix_tup_ (kx_cons (ix_str) (kx_cons (ix_str) kx_nil))) kx_nil)))))) rfl (.inl rfl)) (ssx_cons (sx_set (k := 14) sc_3.nd rfl (.inl rfl) (ix_tup_ (kx_cons (ix_str) (kx_cons (ix_str) (kx_cons (ix_sub_ (C.hu hk) (fun _ _ => rfl) (ix_var (i := 10) rfl (.inl rfl)) (ix_int)) (kx_cons (ix_tup_ (kx_cons (ix_str) kx_nil)) (kx_cons (ix_tup_ (kx_cons (ix_str) (kx_cons (ix_str) (kx_cons (ix_var (i := 9) rfl (.inl rfl)) (kx_cons (ix_tup_ (kx_cons (ix_str) kx_nil)) (kx_cons (ix_var (i := 14) rfl (.inl rfl)) kx_nil)))))) kx_nil)))))) rfl (.inl rfl)) (ssx_cons (sx_set (k := 15) sc_3.nd rfl (.inl rfl) (ix_tup_ (kx_cons (ix_str) (kx_cons (ix_str) (kx_cons (ix_tup_ (kx_cons (ix_tup_ (kx_cons (ix_var (i := 4) rfl (.inl rfl)) (kx_cons (ix_tup_ kx_nil) (kx_cons (ix_var (i := 13) rfl (.inl rfl)) kx_nil)))) (kx_cons (ix_tup_ (kx_cons (ix_var (i := 5) rfl (.inl rfl)) (kx_cons (ix_tup_ (kx_cons (ix_str) (kx_cons (ix_str) kx_nil))) (kx_cons (ix_var (i := 14) rfl (.inl rfl)) kx_nil)))) kx_nil))) kx_nil)))) rfl (.inl rfl)) (ssx_one (sx_ret (hx_call C 1 3 2 (d := df_1) rfl rfl rfl rfl rfl (kx_cons (ix_var (i := 0) rfl (.inl rfl)) (kx_cons (ix_var (i := 12) rfl (.inl rfl)) (kx_cons (ix_tup_ (kx_cons (ix_var (i := 9) rfl (.inl rfl)) (kx_cons (ix_tup_ (kx_cons (ix_tup_ (kx_cons (ix_str) (kx_cons (ix_var (i := 3) rfl (.inl rfl)) kx_nil))) kx_nil)) (kx_cons (ix_var (i := 6) rfl (.inl rfl)) (kx_cons (ix_var (i := 15) rfl (.inl rfl)) kx_nil))))) kx_nil))) (iCons_len (iCons_len (iCons_len iNil_len))))))))))))))⟩
theorem bk_4 {cls : Nat → Addr} {k : Nat} {t : Nat → Fn} (hk : 16 ≤ k) : BodyOk cls k fas dfs css tus t df_4 (meant t 4) := ⟨sc_4, 1, 2, b_4 t, rfl, rfl, rfl, fun P w K mg base f cdv A outer s H E C =>
  (ssx_cons (sx_if (jx_eq (C.hu hk) rfl (ix_sub_ (C.hu hk) (fun _ _ => rfl) (ix_var (i := 0) rfl (.inl rfl)) (ix_int)) (ix_str)) (ssx_one (sx_ret (ix_lst_ kx_nil))) ssx_nil) (ssx_cons (sx_if (jx_eq (C.hu hk) rfl (ix_sub_ (C.hu hk) (fun _ _ => rfl) (ix_var (i := 0) rfl (.inl rfl)) (ix_int)) (ix_str)) (ssx_one (sx_ret (ix_comp C.calm sc_4.nd (t := (CT.nm 1)) (own := [("arm", 1)]) (px_seq (ix_sub_ (C.hu hk) (fun _ _ => rfl) (ix_var (i := 0) rfl (.inl rfl)) (ix_int))) (blkOk_by rfl) (by decide) (fun _ _ _ _ _ => pg_name sc_4.nd (i := 1) rfl (.inl rfl) (.inr rfl)) (fun _ _ _ _ _ => tx_nil) (fun _ _ _ _ _ => (ix_sub_ ((Has.blk C _ _ _ _ _).hu hk) (fun _ _ => rfl) (ix_var (i := 1) rfl (.inl rfl)) (ix_int))) (fun _ => rfl)))) ssx_nil) (ssx_one (sx_ret (ix_lst_ (kx_cons (ix_sub_ (C.hu hk) (fun _ _ => rfl) (ix_var (i := 0) rfl (.inl rfl)) (ix_neg (ix_int))) kx_nil))))))⟩
theorem bk_5 {cls : Nat → Addr} {k : Nat} {t : Nat → Fn} (hk : 16 ≤ k) : BodyOk cls k fas dfs css tus t df_5 (meant t 5) := ⟨sc_5, 1, 4, b_5 t, rfl, rfl, rfl, fun P w K mg base f cdv A outer s H E C =>
  (ssx_cons (sx_set (k := 1) sc_5.nd rfl (.inl rfl) (ix_lst_ kx_nil) rfl (.inl rfl)) (ssx_cons (sx_set (k := 2) sc_5.nd rfl (.inl rfl) (ix_lst_ (kx_cons (ix_var (i := 0) rfl (.inl rfl)) kx_nil)) rfl (.inl rfl)) (ssx_cons (sx_while PassesOwn.never (jx_ne (C.hu hk) rfl (ix_var (i := 2) rfl (.inl rfl)) (ix_lst_ kx_nil)) (ssx_cons (sx_set (k := 3) sc_5.nd rfl (.inl rfl) (ix_bm0 snd_pop PySem.F.plainAttrs_list PySem.F.slot_list_pop PySem.F.type_list_pop mt_pop (ix_var (i := 2) rfl (.inl rfl)) rfl rfl) rfl (.inl rfl)) (ssx_cons (sx_expr (ix_bm snd_append PySem.F.plainAttrs_list PySem.F.slot_list_append PySem.F.type_list_append mt_append (ix_var (i := 1) rfl (.inl rfl)) (kx_cons (ix_var (i := 3) rfl (.inl rfl)) kx_nil) rfl rfl rfl rfl rfl) rfl) (ssx_one (sx_expr (ix_bm snd_extend PySem.F.plainAttrs_list PySem.F.slot_list_extend PySem.F.type_list_extend (MtR.or mt_extend mt_extT) (ix_var (i := 2) rfl (.inl rfl)) (kx_cons (ix_listRev C.calm rfl (C.free 5 _ rfl) rfl (C.free 6 _ rfl) (hx_call C 4 1 4 (d := df_4) rfl rfl rfl rfl rfl (kx_cons (ix_var (i := 3) rfl (.inl rfl)) kx_nil) (iCons_len iNil_len)) rfl rfl) kx_nil) rfl rfl rfl rfl rfl) rfl))))) (ssx_one (sx_ret (ix_var (i := 1) rfl (.inl rfl)))))))⟩
theorem bk_6 {cls : Nat → Addr} {k : Nat} {t : Nat → Fn} (hk : 16 ≤ k) : BodyOk cls k fas dfs css tus t df_6 (meant t 6) := ⟨sc_6, 2, 3, b_6 t, rfl, rfl, rfl, fun P w K mg base f cdv A outer s H E C =>
  (ssx_one (sx_ret (ix_bm snd_index PySem.F.plainAttrs_list PySem.F.slot_list_index PySem.F.type_list_index mt_index (ix_comp C.calm sc_6.nd (t := (CT.nm 2)) (own := [("function", 2)]) (px_seq (ix_sub_ (C.hu hk) (fun _ _ => rfl) (ix_var (i := 0) rfl (.inl rfl)) (ix_int))) (blkOk_by rfl) (by decide) (fun _ _ _ _ _ => pg_name sc_6.nd (i := 2) rfl (.inl rfl) (.inr rfl)) (fun _ _ _ _ _ => tx_nil) (fun _ _ _ _ _ => (ix_sub_ ((Has.blk C _ _ _ _ _).hu hk) (fun _ _ => rfl) (ix_var (i := 2) rfl (.inl rfl)) (ix_int))) (fun _ => rfl)) (kx_cons (ix_var (i := 1) rfl (.inl rfl)) kx_nil) rfl rfl rfl rfl rfl)))⟩
theorem bk_7 {cls : Nat → Addr} {k : Nat} {t : Nat → Fn} (hk : 16 ≤ k) : BodyOk cls k fas dfs css tus t df_7 (meant t 7) := ⟨sc_7, 1, 5, b_7 t, rfl, rfl, rfl, fun P w K mg base f cdv A outer s H E C =>
  (ssx_cons (sx_set (k := 1) sc_7.nd rfl (.inl rfl) (ix_lst_ kx_nil) rfl (.inl rfl)) (ssx_cons (sx_set (k := 2) sc_7.nd rfl (.inl rfl) (ix_lst_ (kx_cons (ix_var (i := 0) rfl (.inl rfl)) kx_nil)) rfl (.inl rfl)) (ssx_cons (sx_while PassesOwn.never (jx_gt rfl (ix_callB snd_len cr_len rfl (C.free 7 _ rfl) boot_len (kx_cons (ix_var (i := 2) rfl (.inl rfl)) kx_nil) (by decide) (by decide) rfl rfl) (ix_int)) (ssx_cons (sx_asg (ix_bm0 snd_pop PySem.F.plainAttrs_list PySem.F.slot_list_pop PySem.F.type_list_pop mt_pop (ix_var (i := 2) rfl (.inl rfl)) rfl rfl) (gx_tup C.calm (gsx_cons (gx_name (k := 3) sc_7.nd rfl (.inl rfl) (.inl rfl)) (gsx_cons (gx_name (k := 4) sc_7.nd rfl (.inl rfl) (.inl rfl)) gsx_nil rfl) rfl) rfl rfl) rfl rfl rfl) (ssx_cons (sx_expr (ix_bm snd_append PySem.F.plainAttrs_list PySem.F.slot_list_append PySem.F.type_list_append mt_append (ix_var (i := 1) rfl (.inl rfl)) (kx_cons (ix_var (i := 3) rfl (.inl rfl)) kx_nil) rfl rfl rfl rfl rfl) rfl) (ssx_one (sx_expr (ix_bm snd_extend PySem.F.plainAttrs_list PySem.F.slot_list_extend PySem.F.type_list_extend (MtR.or mt_extend mt_extT) (ix_var (i := 2) rfl (.inl rfl)) (kx_cons (ix_var (i := 4) rfl (.inl rfl)) kx_nil) rfl rfl rfl rfl rfl) rfl))))) (ssx_one (sx_ret (ix_var (i := 1) rfl (.inl rfl)))))))⟩
theorem bk_8 {cls : Nat → Addr} {k : Nat} {t : Nat → Fn} (hk : 16 ≤ k) : BodyOk cls k fas dfs css tus t df_8 (meant t 8) := ⟨sc_8, 1, 1, b_8 t, rfl, rfl, rfl, fun P w K mg base f cdv A outer s H E C =>
  (ssx_one (sx_ret (ix_callB snd_len cr_len rfl (C.free 7 _ rfl) boot_len (kx_cons (hx_call C 7 1 8 (d := df_7) rfl rfl rfl rfl rfl (kx_cons (ix_var (i := 0) rfl (.inl rfl)) kx_nil) (iCons_len iNil_len)) kx_nil) (by decide) (by decide) rfl rfl)))⟩
theorem bk_9 {cls : Nat → Addr} {k : Nat} {t : Nat → Fn} (hk : 16 ≤ k) : BodyOk cls k fas dfs css tus t df_9 (meant t 9) := ⟨sc_9, 1, 2, b_9 t, rfl, rfl, rfl, fun P w K mg base f cdv A outer s H E C =>
  (ssx_one (sx_ret (ix_add (ix_int) (ix_maxDef C.calm (C.hu hk) rfl (C.free 10 _ rfl) (ix_comp C.calm sc_9.nd (t := (CT.nm 1)) (own := [("part", 1)]) (px_seq (ix_sub_ (C.hu hk) (fun _ _ => rfl) (ix_var (i := 0) rfl (.inl rfl)) (ix_int))) (blkOk_by rfl) (by decide) (fun _ _ _ _ _ => pg_name sc_9.nd (i := 1) rfl (.inl rfl) (.inr rfl)) (fun _ _ _ _ _ => tx_nil) (fun _ _ _ _ _ => (hx_call (Has.blk C _ _ _ _ _) 9 1 9 (d := df_9) rfl rfl rfl rfl rfl (kx_cons (ix_var (i := 1) rfl (.inl rfl)) kx_nil) (iCons_len iNil_len))) (fun _ => rfl)) (ix_int) rfl rfl rfl))))⟩
theorem bk_10 {cls : Nat → Addr} {k : Nat} {t : Nat → Fn} (hk : 16 ≤ k) : BodyOk cls k fas dfs css tus t df_10 (meant t 10) := ⟨sc_10, 5, 6, b_10 t, rfl, rfl, rfl, fun P w K mg base f cdv A outer s H E C =>
  (ssx_cons (hs_fld C 0 11 19 (y := "Walk") (f := "program") rfl rfl rfl (ix_var (i := 0) rfl (.inl rfl)) (ix_var (i := 1) rfl (.inl rfl)) rfl) (ssx_cons (hs_fld C 0 11 18 (y := "Walk") (f := "listed") rfl rfl rfl (ix_var (i := 0) rfl (.inl rfl)) (ix_comp C.calm sc_10.nd (t := (CT.nm 5)) (own := [("function", 5)]) (px_seq (ix_sub_ (C.hu hk) (fun _ _ => rfl) (ix_var (i := 1) rfl (.inl rfl)) (ix_int))) (blkOk_by rfl) (by decide) (fun _ _ _ _ _ => pg_name sc_10.nd (i := 5) rfl (.inl rfl) (.inr rfl)) (fun _ _ _ _ _ => tx_nil) (fun _ _ _ _ _ => (hx_call (Has.blk C _ _ _ _ _) 5 1 17 (d := df_5) rfl rfl rfl rfl rfl (kx_cons (ix_sub_ ((Has.blk C _ _ _ _ _).hu hk) (fun _ _ => rfl) (ix_var (i := 5) rfl (.inl rfl)) (ix_int)) kx_nil) (iCons_len iNil_len))) (fun _ => rfl)) rfl) (ssx_cons (hs_fld C 0 11 16 (y := "Walk") (f := "stack") rfl rfl rfl (ix_var (i := 0) rfl (.inl rfl)) (ix_lst_ kx_nil) rfl) (ssx_cons (hs_fld C 0 11 15 (y := "Walk") (f := "coins") rfl rfl rfl (ix_var (i := 0) rfl (.inl rfl)) (ix_var (i := 4) rfl (.inl rfl)) rfl) (ssx_cons (hs_fld C 0 11 14 (y := "Walk") (f := "taken") rfl rfl rfl (ix_var (i := 0) rfl (.inl rfl)) (ix_int) rfl) (ssx_cons (hs_fld C 0 11 13 (y := "Walk") (f := "finish") rfl rfl rfl (ix_var (i := 0) rfl (.inl rfl)) (ix_non) rfl) (ssx_one (sx_expr (hx_meth C 11 2 0 11 12 (y := "Walk") (m := "begin") (d := df_11) rfl rfl rfl rfl rfl rfl (ix_var (i := 0) rfl (.inl rfl)) (kx_cons (ix_var (i := 2) rfl (.inl rfl)) (kx_cons (ix_callTy snd_listOf call_list_of rfl (C.free 5 _ rfl) PyProof.Rows.boot_list (kx_cons (ix_var (i := 3) rfl (.inl rfl)) kx_nil) (by decide) (by decide) rfl rfl) kx_nil)) (iCons_len (iCons_len iNil_len))) rfl))))))))⟩
theorem bk_11 {cls : Nat → Addr} {k : Nat} {t : Nat → Fn} (hk : 16 ≤ k) : BodyOk cls k fas dfs css tus t df_11 (meant t 11) := ⟨sc_11, 3, 6, b_11 t, rfl, rfl, rfl, fun P w K mg base f cdv A outer s H E C =>
  (ssx_cons (sx_set (k := 3) sc_11.nd rfl (.inl rfl) (ix_dicK) rfl (.inl rfl)) (ssx_cons (sx_for PassesOwn.never C.calm (px_zip rfl (C.free 20 _ rfl) (kx_cons (ix_sub_ (C.hu hk) (fun _ _ => rfl) (ix_sub_ (C.hu hk) (fun _ _ => rfl) (ix_sub_ (C.hu hk) (fun _ _ => rfl) (hx_fld C 0 11 19 (y := "Walk") (f := "program") rfl rfl rfl (ix_var (i := 0) rfl (.inl rfl))) (ix_int)) (ix_var (i := 1) rfl (.inl rfl))) (ix_int)) (kx_cons (ix_var (i := 2) rfl (.inl rfl)) kx_nil)) rfl rfl) (gx_tup C.calm (gsx_cons (gx_name (k := 4) sc_11.nd rfl (.inl rfl) (.inl rfl)) (gsx_cons (gx_name (k := 5) sc_11.nd rfl (.inl rfl) (.inl rfl)) gsx_nil rfl) rfl) rfl rfl) (ssx_one (sx_asg (ix_var (i := 5) rfl (.inl rfl)) (gx_sub (C.hu hk) (ix_var (i := 3) rfl (.inl rfl)) (ix_sub_ (C.hu hk) (fun _ _ => rfl) (ix_var (i := 4) rfl (.inl rfl)) (ix_int)) (fun _ => rfl)) rfl rfl rfl)) (fun _ => rfl) (fun _ _ _ _ _ _ _ => trivial)) (ssx_one (sx_expr (ix_bm snd_append PySem.F.plainAttrs_list PySem.F.slot_list_append PySem.F.type_list_append mt_append (hx_fld C 0 11 16 (y := "Walk") (f := "stack") rfl rfl rfl (ix_var (i := 0) rfl (.inl rfl))) (kx_cons (ix_lst_ (kx_cons (ix_var (i := 1) rfl (.inl rfl)) (kx_cons (ix_int) (kx_cons (ix_var (i := 3) rfl (.inl rfl)) kx_nil)))) kx_nil) rfl rfl rfl rfl rfl) rfl))))⟩
theorem bk_12 {cls : Nat → Addr} {k : Nat} {t : Nat → Fn} (hk : 16 ≤ k) : BodyOk cls k fas dfs css tus t df_12 (meant t 12) := ⟨sc_12, 1, 1, b_12 t, rfl, rfl, rfl, fun P w K mg base f cdv A outer s H E C =>
  (ssx_one (sx_ret (hx_fld C 0 11 15 (y := "Walk") (f := "coins") rfl rfl rfl (ix_var (i := 0) rfl (.inl rfl)))))⟩
theorem bk_13 {cls : Nat → Addr} {k : Nat} {t : Nat → Fn} (hk : 16 ≤ k) : BodyOk cls k fas dfs css tus t df_13 (meant t 13) := ⟨sc_13, 1, 1, b_13 t, rfl, rfl, rfl, fun P w K mg base f cdv A outer s H E C =>
  (ssx_one (sx_ret (hx_fld C 0 11 14 (y := "Walk") (f := "taken") rfl rfl rfl (ix_var (i := 0) rfl (.inl rfl)))))⟩
theorem bk_14 {cls : Nat → Addr} {k : Nat} {t : Nat → Fn} (hk : 16 ≤ k) : BodyOk cls k fas dfs css tus t df_14 (meant t 14) := ⟨sc_14, 1, 1, b_14 t, rfl, rfl, rfl, fun P w K mg base f cdv A outer s H E C =>
  (ssx_one (sx_ret (hx_fld C 0 11 13 (y := "Walk") (f := "finish") rfl rfl rfl (ix_var (i := 0) rfl (.inl rfl)))))⟩
theorem bk_15 {cls : Nat → Addr} {k : Nat} {t : Nat → Fn} (hk : 16 ≤ k) : BodyOk cls k fas dfs css tus t df_15 (meant t 15) := ⟨sc_15, 2, 2, b_15 t, rfl, rfl, rfl, fun P w K mg base f cdv A outer s H E C =>
  (ssx_cons (hs_fld C 0 11 13 (y := "Walk") (f := "finish") rfl rfl rfl (ix_var (i := 0) rfl (.inl rfl)) (ix_var (i := 1) rfl (.inl rfl)) rfl) (ssx_one (hs_fld C 0 11 16 (y := "Walk") (f := "stack") rfl rfl rfl (ix_var (i := 0) rfl (.inl rfl)) (ix_lst_ kx_nil) rfl)))⟩
theorem bk_16 {cls : Nat → Addr} {k : Nat} {t : Nat → Fn} (hk : 16 ≤ k) : BodyOk cls k fas dfs css tus t df_16 (meant t 16) := ⟨sc_16, 3, 3, b_16 t, rfl, rfl, rfl, fun P w K mg base f cdv A outer s H E C =>
  (ssx_cons (sx_asg (ix_var (i := 2) rfl (.inl rfl)) (gx_sub (C.hu hk) (ix_sub_ (C.hu hk) (fun _ _ => rfl) (ix_sub_ (C.hu hk) (fun _ _ => rfl) (hx_fld C 0 11 16 (y := "Walk") (f := "stack") rfl rfl rfl (ix_var (i := 0) rfl (.inl rfl))) (ix_neg (ix_int))) (ix_int)) (ix_var (i := 1) rfl (.inl rfl)) (fun _ => rfl)) rfl rfl rfl) (ssx_one (sx_aug (C.hu hk) ip_add (ix_sub_ (C.hu hk) (fun _ _ => rfl) (hx_fld C 0 11 16 (y := "Walk") (f := "stack") rfl rfl rfl (ix_var (i := 0) rfl (.inl rfl))) (ix_neg (ix_int))) (ix_int) (ix_int) (fun _ _ _ => rfl))))⟩
theorem bk_17 {cls : Nat → Addr} {k : Nat} {t : Nat → Fn} (hk : 16 ≤ k) : BodyOk cls k fas dfs css tus t df_17 (meant t 17) := ⟨sc_17, 1, 4, b_17 t, rfl, rfl, rfl, fun P w K mg base f cdv A outer s H E C =>
  (ssx_cons (sx_if (jx_is rfl (hx_fld C 0 11 13 (y := "Walk") (f := "finish") rfl rfl rfl (ix_var (i := 0) rfl (.inl rfl))) (ix_non)) (ssx_cons (sx_asg (ix_sub_ (C.hu hk) (fun _ _ => rfl) (hx_fld C 0 11 16 (y := "Walk") (f := "stack") rfl rfl rfl (ix_var (i := 0) rfl (.inl rfl))) (ix_neg (ix_int))) (gx_tup C.calm (gsx_cons (gx_name (k := 1) sc_17.nd rfl (.inl rfl) (.inl rfl)) (gsx_cons (gx_name (k := 2) sc_17.nd rfl (.inl rfl) (.inl rfl)) (gsx_cons (gx_name (k := 3) sc_17.nd rfl (.inl rfl) (.inl rfl)) gsx_nil rfl) rfl) rfl) rfl rfl) rfl rfl rfl) (ssx_cons (hs_fld C 0 11 14 (y := "Walk") (f := "taken") rfl rfl rfl (ix_var (i := 0) rfl (.inl rfl)) (ix_add (hx_fld C 0 11 14 (y := "Walk") (f := "taken") rfl rfl rfl (ix_var (i := 0) rfl (.inl rfl))) (ix_int)) rfl) (ssx_one (sx_expr (hx_meth C 18 2 0 11 21 (y := "Walk") (m := "do_piece") (d := df_18) rfl rfl rfl rfl rfl rfl (ix_var (i := 0) rfl (.inl rfl)) (kx_cons (ix_sub_ (C.hu hk) (fun _ _ => rfl) (ix_sub_ (C.hu hk) (fun _ _ => rfl) (hx_fld C 0 11 18 (y := "Walk") (f := "listed") rfl rfl rfl (ix_var (i := 0) rfl (.inl rfl))) (ix_var (i := 1) rfl (.inl rfl))) (ix_var (i := 2) rfl (.inl rfl))) (kx_cons (ix_var (i := 3) rfl (.inl rfl)) kx_nil)) (iCons_len (iCons_len iNil_len))) rfl)))) ssx_nil) (ssx_one (sx_ret (ix_is rfl (hx_fld C 0 11 13 (y := "Walk") (f := "finish") rfl rfl rfl (ix_var (i := 0) rfl (.inl rfl))) (ix_non)))))⟩
theorem bk_18 {cls : Nat → Addr} {k : Nat} {t : Nat → Fn} (hk : 16 ≤ k) : BodyOk cls k fas dfs css tus t df_18 (meant t 18) := ⟨sc_18, 3, 5, b_18 t, rfl, rfl, rfl, fun P w K mg base f cdv A outer s H E C =>
  (ssx_cons (sx_set (k := 3) sc_18.nd rfl (.inl rfl) (ix_sub_ (C.hu hk) (fun _ _ => rfl) (ix_var (i := 1) rfl (.inl rfl)) (ix_int)) rfl (.inl rfl)) (ssx_one (sx_if (jx_eq (C.hu hk) rfl (ix_var (i := 3) rfl (.inl rfl)) (ix_str)) (ssx_one (sx_expr (hx_meth C 19 2 0 11 22 (y := "Walk") (m := "make") (d := df_19) rfl rfl rfl rfl rfl rfl (ix_var (i := 0) rfl (.inl rfl)) (kx_cons (ix_var (i := 1) rfl (.inl rfl)) (kx_cons (ix_callTy snd_tupOf call_tuple_of rfl (C.free 1 _ rfl) PyProof.Rows.boot_tuple (kx_cons (ix_comp C.calm sc_18.nd (t := (CT.nm 4)) (own := [("y", 4)]) (px_seq (ix_sub_ (C.hu hk) (fun _ _ => rfl) (ix_var (i := 1) rfl (.inl rfl)) (ix_int))) (blkOk_by rfl) (by decide) (fun _ _ _ _ _ => pg_name sc_18.nd (i := 4) rfl (.inl rfl) (.inr rfl)) (fun _ _ _ _ _ => tx_nil) (fun _ _ _ _ _ => (ix_sub_ ((Has.blk C _ _ _ _ _).hu hk) (fun _ _ => rfl) (ix_var (i := 2) rfl (.inr (.inl rfl))) (ix_var (i := 4) rfl (.inl rfl)))) (fun _ => rfl)) kx_nil) (by decide) (by decide) rfl rfl) kx_nil)) (iCons_len (iCons_len iNil_len))) rfl)) (ssx_one (sx_if (jx_eq (C.hu hk) rfl (ix_var (i := 3) rfl (.inl rfl)) (ix_str)) (ssx_one (sx_expr (hx_meth C 11 2 0 11 12 (y := "Walk") (m := "begin") (d := df_11) rfl rfl rfl rfl rfl rfl (ix_var (i := 0) rfl (.inl rfl)) (kx_cons (hx_call C 6 2 23 (d := df_6) rfl rfl rfl rfl rfl (kx_cons (hx_fld C 0 11 19 (y := "Walk") (f := "program") rfl rfl rfl (ix_var (i := 0) rfl (.inl rfl))) (kx_cons (ix_sub_ (C.hu hk) (fun _ _ => rfl) (ix_var (i := 1) rfl (.inl rfl)) (ix_int)) kx_nil)) (iCons_len (iCons_len iNil_len))) (kx_cons (ix_comp C.calm sc_18.nd (t := (CT.nm 4)) (own := [("y", 4)]) (px_seq (ix_sub_ (C.hu hk) (fun _ _ => rfl) (ix_var (i := 1) rfl (.inl rfl)) (ix_int))) (blkOk_by rfl) (by decide) (fun _ _ _ _ _ => pg_name sc_18.nd (i := 4) rfl (.inl rfl) (.inr rfl)) (fun _ _ _ _ _ => tx_nil) (fun _ _ _ _ _ => (ix_sub_ ((Has.blk C _ _ _ _ _).hu hk) (fun _ _ => rfl) (ix_var (i := 2) rfl (.inr (.inl rfl))) (ix_var (i := 4) rfl (.inl rfl)))) (fun _ => rfl)) kx_nil)) (iCons_len (iCons_len iNil_len))) rfl)) (ssx_one (sx_if (jx_eq (C.hu hk) rfl (ix_var (i := 3) rfl (.inl rfl)) (ix_str)) (ssx_one (sx_expr (hx_meth C 16 2 0 11 24 (y := "Walk") (m := "bind") (d := df_16) rfl rfl rfl rfl rfl rfl (ix_var (i := 0) rfl (.inl rfl)) (kx_cons (ix_sub_ (C.hu hk) (fun _ _ => rfl) (ix_var (i := 1) rfl (.inl rfl)) (ix_int)) (kx_cons (ix_sub_ (C.hu hk) (fun _ _ => rfl) (ix_var (i := 2) rfl (.inr (.inl rfl))) (ix_sub_ (C.hu hk) (fun _ _ => rfl) (ix_var (i := 1) rfl (.inl rfl)) (ix_int))) kx_nil)) (iCons_len (iCons_len iNil_len))) rfl)) (ssx_one (sx_if (jx_eq (C.hu hk) rfl (ix_var (i := 3) rfl (.inl rfl)) (ix_str)) (ssx_one (sx_expr (hx_meth C 20 2 0 11 25 (y := "Walk") (m := "choose") (d := df_20) rfl rfl rfl rfl rfl rfl (ix_var (i := 0) rfl (.inl rfl)) (kx_cons (ix_var (i := 1) rfl (.inl rfl)) (kx_cons (ix_var (i := 2) rfl (.inr (.inl rfl))) kx_nil)) (iCons_len (iCons_len iNil_len))) rfl)) (ssx_one (sx_if (jx_eq (C.hu hk) rfl (ix_var (i := 3) rfl (.inl rfl)) (ix_str)) (ssx_one (sx_expr (hx_meth C 21 1 0 11 26 (y := "Walk") (m := "give") (d := df_21) rfl rfl rfl rfl rfl rfl (ix_var (i := 0) rfl (.inl rfl)) (kx_cons (ix_sub_ (C.hu hk) (fun _ _ => rfl) (ix_var (i := 2) rfl (.inr (.inl rfl))) (ix_sub_ (C.hu hk) (fun _ _ => rfl) (ix_var (i := 1) rfl (.inl rfl)) (ix_int))) kx_nil) (iCons_len iNil_len)) rfl)) (ssx_one (sx_if (wx_pt (wx_and (jx_eq (C.hu hk) rfl (ix_var (i := 3) rfl (.inl rfl)) (ix_str)) (wx_and1 (jx_lt rfl (hx_fld C 0 11 15 (y := "Walk") (f := "coins") rfl rfl rfl (ix_var (i := 0) rfl (.inl rfl))) (ix_sub_ (C.hu hk) (fun _ _ => rfl) (ix_var (i := 1) rfl (.inl rfl)) (ix_int)))))) (ssx_one (sx_expr (hx_meth C 15 1 0 11 27 (y := "Walk") (m := "stop") (d := df_15) rfl rfl rfl rfl rfl rfl (ix_var (i := 0) rfl (.inl rfl)) (kx_cons (ix_tup_ (kx_cons (ix_str) (kx_cons (ix_sub_ (C.hu hk) (fun _ _ => rfl) (ix_var (i := 1) rfl (.inl rfl)) (ix_int)) kx_nil))) kx_nil) (iCons_len iNil_len)) rfl)) (ssx_cons (hs_fld C 0 11 15 (y := "Walk") (f := "coins") rfl rfl rfl (ix_var (i := 0) rfl (.inl rfl)) (ix_add (hx_fld C 0 11 15 (y := "Walk") (f := "coins") rfl rfl rfl (ix_var (i := 0) rfl (.inl rfl))) (ix_sub_ (C.hu hk) (fun _ _ => rfl) (ix_lst_ (kx_cons (ix_sub_ (C.hu hk) (fun _ _ => rfl) (ix_var (i := 1) rfl (.inl rfl)) (ix_int)) (kx_cons (ix_sub (ix_int) (ix_sub_ (C.hu hk) (fun _ _ => rfl) (ix_var (i := 1) rfl (.inl rfl)) (ix_int))) kx_nil))) (ix_callTy snd_intOf call_int1 rfl (C.free 28 _ rfl) PyProof.Rows.boot_int (kx_cons (ix_eq (C.hu hk) rfl (ix_var (i := 3) rfl (.inl rfl)) (ix_str)) kx_nil) (by decide) (by decide) rfl rfl))) rfl) (ssx_one (sx_aug (C.hu hk) ip_add (ix_sub_ (C.hu hk) (fun _ _ => rfl) (hx_fld C 0 11 16 (y := "Walk") (f := "stack") rfl rfl rfl (ix_var (i := 0) rfl (.inl rfl))) (ix_neg (ix_int))) (ix_int) (ix_int) (fun _ _ _ => rfl)))))))))))))))))⟩
theorem bk_19 {cls : Nat → Addr} {k : Nat} {t : Nat → Fn} (hk : 16 ≤ k) : BodyOk cls k fas dfs css tus t df_19 (meant t 19) := ⟨sc_19, 3, 6, b_19 t, rfl, rfl, rfl, fun P w K mg base f cdv A outer s H E C =>
  (ssx_cons (sx_set (k := 3) sc_19.nd rfl (.inl rfl) (ix_add (ix_int) (ix_callB snd_sum (cr_sum C.calm) rfl (C.free 32 _ rfl) PyProof.Rows.boot_sum (kx_cons (ix_comp C.calm sc_19.nd (t := (CT.nm 5)) (own := [("part", 5)]) (px_seq (ix_var (i := 2) rfl (.inl rfl))) (blkOk_by rfl) (by decide) (fun _ _ _ _ _ => pg_name sc_19.nd (i := 5) rfl (.inl rfl) (.inr rfl)) (fun _ _ _ _ _ => tx_nil) (fun _ _ _ _ _ => (hx_call (Has.blk C _ _ _ _ _) 8 1 31 (d := df_8) rfl rfl rfl rfl rfl (kx_cons (ix_var (i := 5) rfl (.inl rfl)) kx_nil) (iCons_len iNil_len))) (fun _ => rfl)) kx_nil) (by decide) (by decide) rfl rfl)) rfl (.inl rfl)) (ssx_cons (sx_set (k := 4) sc_19.nd rfl (.inl rfl) (ix_add (ix_int) (ix_maxDef C.calm (C.hu hk) rfl (C.free 10 _ rfl) (ix_comp C.calm sc_19.nd (t := (CT.nm 5)) (own := [("part", 5)]) (px_seq (ix_var (i := 2) rfl (.inl rfl))) (blkOk_by rfl) (by decide) (fun _ _ _ _ _ => pg_name sc_19.nd (i := 5) rfl (.inl rfl) (.inr rfl)) (fun _ _ _ _ _ => tx_nil) (fun _ _ _ _ _ => (hx_call (Has.blk C _ _ _ _ _) 9 1 9 (d := df_9) rfl rfl rfl rfl rfl (kx_cons (ix_var (i := 5) rfl (.inl rfl)) kx_nil) (iCons_len iNil_len))) (fun _ => rfl)) (ix_int) rfl rfl rfl)) rfl (.inl rfl)) (ssx_one (sx_if (wx_pt (wx_or (jx_gt rfl (ix_var (i := 3) rfl (.inl rfl)) (hx_gint C 29 rfl rfl)) (wx_or1 (jx_gt rfl (ix_var (i := 4) rfl (.inl rfl)) (hx_gint C 30 rfl rfl))))) (ssx_one (sx_expr (hx_meth C 15 1 0 11 27 (y := "Walk") (m := "stop") (d := df_15) rfl rfl rfl rfl rfl rfl (ix_var (i := 0) rfl (.inl rfl)) (kx_cons (ix_tup_ (kx_cons (ix_str) (kx_cons (ix_sub_ (C.hu hk) (fun _ _ => rfl) (ix_var (i := 1) rfl (.inl rfl)) (ix_int)) kx_nil))) kx_nil) (iCons_len iNil_len)) rfl)) (ssx_one (sx_expr (hx_meth C 16 2 0 11 24 (y := "Walk") (m := "bind") (d := df_16) rfl rfl rfl rfl rfl rfl (ix_var (i := 0) rfl (.inl rfl)) (kx_cons (ix_sub_ (C.hu hk) (fun _ _ => rfl) (ix_var (i := 1) rfl (.inl rfl)) (ix_int)) (kx_cons (ix_tup_ (kx_cons (ix_sub_ (C.hu hk) (fun _ _ => rfl) (ix_var (i := 1) rfl (.inl rfl)) (ix_int)) (kx_cons (ix_var (i := 2) rfl (.inl rfl)) kx_nil))) kx_nil)) (iCons_len (iCons_len iNil_len))) rfl))))))⟩
theorem bk_20 {cls : Nat → Addr} {k : Nat} {t : Nat → Fn} (hk : 16 ≤ k) : BodyOk cls k fas dfs css tus t df_20 (meant t 20) := ⟨sc_20, 3, 11, b_20 t, rfl, rfl, rfl, fun P w K mg base f cdv A outer s H E C =>
  (ssx_cons (sx_asg (ix_sub_ (C.hu hk) (fun _ _ => rfl) (ix_var (i := 2) rfl (.inl rfl)) (ix_sub_ (C.hu hk) (fun _ _ => rfl) (ix_var (i := 1) rfl (.inl rfl)) (ix_int))) (gx_tup C.calm (gsx_cons (gx_name (k := 3) sc_20.nd rfl (.inl rfl) (.inl rfl)) (gsx_cons (gx_name (k := 4) sc_20.nd rfl (.inl rfl) (.inl rfl)) gsx_nil rfl) rfl) rfl rfl) rfl rfl rfl) (ssx_cons (sx_set (k := 5) sc_20.nd rfl (.inl rfl) (ix_int) rfl (.inl rfl)) (ssx_one (sx_for PassesOwn.never C.calm (px_seq (ix_sub_ (C.hu hk) (fun _ _ => rfl) (ix_var (i := 1) rfl (.inl rfl)) (ix_int))) (gx_tup C.calm (gsx_cons (gx_name (k := 6) sc_20.nd rfl (.inl rfl) (.inl rfl)) (gsx_cons (gx_name (k := 7) sc_20.nd rfl (.inl rfl) (.inl rfl)) (gsx_cons (gx_name (k := 8) sc_20.nd rfl (.inl rfl) (.inl rfl)) gsx_nil rfl) rfl) rfl) rfl rfl) (ssx_cons (sx_if (jx_eq (C.hu hk) rfl (ix_var (i := 6) rfl (.inl rfl)) (ix_var (i := 3) rfl (.inl rfl))) (ssx_cons (sx_for PassesOwn.never C.calm (px_zip rfl (C.free 20 _ rfl) (kx_cons (ix_var (i := 7) rfl (.inl rfl)) (kx_cons (ix_var (i := 4) rfl (.inl rfl)) kx_nil)) rfl rfl) (gx_tup C.calm (gsx_cons (gx_name (k := 9) sc_20.nd rfl (.inl rfl) (.inl rfl)) (gsx_cons (gx_name (k := 10) sc_20.nd rfl (.inl rfl) (.inl rfl)) gsx_nil rfl) rfl) rfl rfl) (ssx_one (sx_asg (ix_var (i := 10) rfl (.inl rfl)) (gx_sub (C.hu hk) (ix_var (i := 2) rfl (.inl rfl)) (ix_var (i := 9) rfl (.inl rfl)) (fun _ => rfl)) rfl rfl rfl)) (fun _ => rfl) (fun _ _ _ _ _ _ _ => trivial)) (ssx_cons (sx_aug (C.hu hk) ip_add (ix_sub_ (C.hu hk) (fun _ _ => rfl) (hx_fld C 0 11 16 (y := "Walk") (f := "stack") rfl rfl rfl (ix_var (i := 0) rfl (.inl rfl))) (ix_neg (ix_int))) (ix_int) (ix_var (i := 5) rfl (.inl rfl)) (fun _ _ _ => rfl)) (ssx_one (sx_retN)))) ssx_nil) (ssx_one (sx_set (k := 5) sc_20.nd rfl (.inl rfl) (ix_add (ix_var (i := 5) rfl (.inl rfl)) (ix_callB snd_len cr_len rfl (C.free 7 _ rfl) boot_len (kx_cons (hx_call C 5 1 17 (d := df_5) rfl rfl rfl rfl rfl (kx_cons (ix_var (i := 8) rfl (.inl rfl)) kx_nil) (iCons_len iNil_len)) kx_nil) (by decide) (by decide) rfl rfl)) rfl (.inl rfl)))) (fun _ => rfl) (fun _ _ _ _ _ _ _ => trivial)))))⟩
theorem bk_21 {cls : Nat → Addr} {k : Nat} {t : Nat → Fn} (hk : 16 ≤ k) : BodyOk cls k fas dfs css tus t df_21 (meant t 21) := ⟨sc_21, 2, 5, b_21 t, rfl, rfl, rfl, fun P w K mg base f cdv A outer s H E C =>
  (ssx_cons (sx_expr (ix_bm0 snd_pop PySem.F.plainAttrs_list PySem.F.slot_list_pop PySem.F.type_list_pop mt_pop (hx_fld C 0 11 16 (y := "Walk") (f := "stack") rfl rfl rfl (ix_var (i := 0) rfl (.inl rfl))) rfl rfl) rfl) (ssx_one (sx_if (jx_eq (C.hu hk) rfl (ix_callB snd_len cr_len rfl (C.free 7 _ rfl) boot_len (kx_cons (hx_fld C 0 11 16 (y := "Walk") (f := "stack") rfl rfl rfl (ix_var (i := 0) rfl (.inl rfl))) kx_nil) (by decide) (by decide) rfl rfl) (ix_int)) (ssx_one (sx_expr (hx_meth C 15 1 0 11 27 (y := "Walk") (m := "stop") (d := df_15) rfl rfl rfl rfl rfl rfl (ix_var (i := 0) rfl (.inl rfl)) (kx_cons (ix_tup_ (kx_cons (ix_str) (kx_cons (ix_var (i := 1) rfl (.inl rfl)) kx_nil))) kx_nil) (iCons_len iNil_len)) rfl)) (ssx_cons (sx_asg (ix_sub_ (C.hu hk) (fun _ _ => rfl) (hx_fld C 0 11 16 (y := "Walk") (f := "stack") rfl rfl rfl (ix_var (i := 0) rfl (.inl rfl))) (ix_neg (ix_int))) (gx_tup C.calm (gsx_cons (gx_name (k := 2) sc_21.nd rfl (.inl rfl) (.inl rfl)) (gsx_cons (gx_name (k := 3) sc_21.nd rfl (.inl rfl) (.inl rfl)) (gsx_cons (gx_name (k := 4) sc_21.nd rfl (.inl rfl) (.inl rfl)) gsx_nil rfl) rfl) rfl) rfl rfl) rfl rfl rfl) (ssx_one (sx_expr (hx_meth C 16 2 0 11 24 (y := "Walk") (m := "bind") (d := df_16) rfl rfl rfl rfl rfl rfl (ix_var (i := 0) rfl (.inl rfl)) (kx_cons (ix_sub_ (C.hu hk) (fun _ _ => rfl) (ix_sub_ (C.hu hk) (fun _ _ => rfl) (ix_sub_ (C.hu hk) (fun _ _ => rfl) (hx_fld C 0 11 18 (y := "Walk") (f := "listed") rfl rfl rfl (ix_var (i := 0) rfl (.inl rfl))) (ix_var (i := 2) rfl (.inl rfl))) (ix_var (i := 3) rfl (.inl rfl))) (ix_int)) (kx_cons (ix_var (i := 1) rfl (.inl rfl)) kx_nil)) (iCons_len (iCons_len iNil_len))) rfl))))))⟩
theorem bk_22 {cls : Nat → Addr} {k : Nat} {t : Nat → Fn} (hk : 16 ≤ k) : BodyOk cls k fas dfs css tus t df_22 (meant t 22) := ⟨sc_22, 5, 7, b_22 t, rfl, rfl, rfl, fun P w K mg base f cdv A outer s H E C =>
  (ssx_cons (sx_set (k := 5) sc_22.nd rfl (.inl rfl) (hx_make C 10 4 0 37 38 (d := df_10) rfl rfl rfl rfl rfl rfl rfl (kx_cons (ix_var (i := 0) rfl (.inl rfl)) (kx_cons (ix_var (i := 1) rfl (.inl rfl)) (kx_cons (ix_var (i := 2) rfl (.inl rfl)) (kx_cons (ix_var (i := 3) rfl (.inl rfl)) kx_nil)))) (iCons_len (iCons_len (iCons_len (iCons_len iNil_len))))) rfl (.inl rfl)) (ssx_cons (sx_while PassesOwn.never (wx_pt (wx_and (jx_lt rfl (hx_meth0 C 13 0 11 33 (y := "Walk") (m := "steps") (d := df_13) rfl rfl rfl rfl rfl rfl (ix_var (i := 5) rfl (.inl rfl))) (ix_var (i := 4) rfl (.inl rfl))) (wx_and1 (jx_is rfl (hx_meth0 C 14 0 11 35 (y := "Walk") (m := "end") (d := df_14) rfl rfl rfl rfl rfl rfl (ix_var (i := 5) rfl (.inl rfl))) (ix_non))))) (ssx_one (sx_expr (hx_meth0 C 17 0 11 36 (y := "Walk") (m := "turn") (d := df_17) rfl rfl rfl rfl rfl rfl (ix_var (i := 5) rfl (.inl rfl))) rfl))) (ssx_cons (sx_set (k := 6) sc_22.nd rfl (.inl rfl) (hx_meth0 C 14 0 11 35 (y := "Walk") (m := "end") (d := df_14) rfl rfl rfl rfl rfl rfl (ix_var (i := 5) rfl (.inl rfl))) rfl (.inl rfl)) (ssx_cons (sx_if (jx_is rfl (ix_var (i := 6) rfl (.inl rfl)) (ix_non)) (ssx_one (sx_set (k := 6) sc_22.nd rfl (.inl rfl) (ix_tup_ (kx_cons (ix_str) kx_nil)) rfl (.inl rfl))) ssx_nil) (ssx_one (sx_ret (ix_tup_ (kx_cons (ix_var (i := 6) rfl (.inl rfl)) (kx_cons (hx_meth0 C 12 0 11 34 (y := "Walk") (m := "purse") (d := df_12) rfl rfl rfl rfl rfl rfl (ix_var (i := 5) rfl (.inl rfl))) (kx_cons (hx_meth0 C 13 0 11 33 (y := "Walk") (m := "steps") (d := df_13) rfl rfl rfl rfl rfl rfl (ix_var (i := 5) rfl (.inl rfl))) kx_nil))))))))))⟩
theorem bk_23 {cls : Nat → Addr} {k : Nat} {t : Nat → Fn} (hk : 16 ≤ k) : BodyOk cls k fas dfs css tus t df_23 (meant t 23) := ⟨sc_23, 2, 5, b_23 t, rfl, rfl, rfl, fun P w K mg base f cdv A outer s H E C =>
  (ssx_cons (sx_setComp (i := 2) C.calm sc_23.nd rfl rfl rfl (t := (CT.nm 4)) (own := [("_law_cell", 4)]) (px_seq (ix_slice (ix_var (i := 0) rfl (.inl rfl)) (nx_part (ix_var (i := 1) rfl (.inl rfl))) (nx_part (ix_int)))) (blkOk_by rfl) (by decide) (fun _ _ _ _ _ => pg_name sc_23.nd (i := 4) rfl (.inl rfl) (.inr rfl)) (fun _ _ _ _ _ => tx_nil) (fun _ _ _ _ _ => (ix_callB snd_max2 (call_max2 (Has.blk C _ _ _ _ _).calm) rfl ((Has.blk C _ _ _ _ _).free 10 _ rfl) PyProof.Rows.boot_max (kx_cons (ix_var (i := 4) rfl (.inl rfl)) (kx_cons (ix_sub (ix_int) (ix_var (i := 4) rfl (.inl rfl))) kx_nil)) (by decide) (by decide) rfl rfl)) (fun _ => rfl)) (ssx_cons (sx_set (k := 3) sc_23.nd rfl (.inl rfl) (ix_add (ix_int) (ix_var (i := 1) rfl (.inl rfl))) rfl (.inl rfl)) (ssx_cons (sx_for PassesOwn.never C.calm (px_seq (ix_var (i := 2) rfl (.inl rfl))) (gx_name (k := 4) sc_23.nd rfl (.inl rfl) (.inl rfl)) (ssx_one (sx_set (k := 3) sc_23.nd rfl (.inl rfl) (ix_mod (ix_add (ix_mul (ix_var (i := 3) rfl (.inl rfl)) (ix_int)) (ix_mod (ix_var (i := 4) rfl (.inl rfl)) (ix_int))) (ix_int)) rfl (.inl rfl))) (fun _ => rfl) (fun _ _ _ _ _ _ _ => trivial)) (ssx_one (sx_ret (ix_dict (dx_cons (ix_str) (ix_var (i := 3) rfl (.inl rfl)) (dx_cons (ix_str) (ix_int) (dx_cons (ix_str) (ix_listRev C.calm rfl (C.free 5 _ rfl) rfl (C.free 6 _ rfl) (ix_comp C.calm sc_23.nd (t := (CT.nm 4)) (own := [("_law_cell", 4)]) (px_seq (ix_var (i := 2) rfl (.inl rfl))) (blkOk_by rfl) (by decide) (fun _ _ _ _ _ => pg_name sc_23.nd (i := 4) rfl (.inl rfl) (.inr rfl)) (fun _ _ _ _ _ => (tx_one (jx_ge rfl (ix_var (i := 4) rfl (.inl rfl)) (ix_pow (ix_int) (ix_int))))) (fun _ _ _ _ _ => (ix_var (i := 4) rfl (.inl rfl))) (fun _ => rfl)) rfl rfl) dx_nil))) rfl rfl (fun z => nomatch z) (by decide)))))))⟩
theorem bk_24 {cls : Nat → Addr} {k : Nat} {t : Nat → Fn} (hk : 16 ≤ k) : BodyOk cls k fas dfs css tus t df_24 (meant t 24) := ⟨sc_24, 2, 5, b_24 t, rfl, rfl, rfl, fun P w K mg base f cdv A outer s H E C =>
  (ssx_cons (sx_while PassesOwn.never (wx_pt (wx_and (jx_eq (C.hu hk) rfl (ix_sub_ (C.hu hk) (fun _ _ => rfl) (ix_var (i := 0) rfl (.inl rfl)) (ix_str)) (ix_int)) (wx_and1 (jx_gt rfl (ix_callB snd_len cr_len rfl (C.free 7 _ rfl) boot_len (kx_cons (ix_sub_ (C.hu hk) (fun _ _ => rfl) (ix_var (i := 0) rfl (.inl rfl)) (ix_str)) kx_nil) (by decide) (by decide) rfl rfl) (ix_int))))) (ssx_one (sx_asg (ix_bm0 snd_pop PySem.F.plainAttrs_list PySem.F.slot_list_pop PySem.F.type_list_pop mt_pop (ix_sub_ (C.hu hk) (fun _ _ => rfl) (ix_var (i := 0) rfl (.inl rfl)) (ix_str)) rfl rfl) (gx_sub (C.hu hk) (ix_var (i := 0) rfl (.inl rfl)) (ix_str) (fun _ => rfl)) rfl rfl rfl))) (ssx_cons (sx_set (k := 2) sc_24.nd rfl (.inl rfl) (ix_sub_ (C.hu hk) (fun _ _ => rfl) (ix_var (i := 0) rfl (.inl rfl)) (ix_str)) rfl (.inl rfl)) (ssx_cons (sx_if (jx_gt rfl (ix_var (i := 2) rfl (.inl rfl)) (ix_int)) (ssx_cons (sx_asg (ix_fdiv (ix_var (i := 2) rfl (.inl rfl)) (ix_var (i := 1) rfl (.inl rfl))) (gx_sub (C.hu hk) (ix_var (i := 0) rfl (.inl rfl)) (ix_str) (fun _ => rfl)) rfl rfl rfl) (ssx_one (sx_ret (ix_mod (ix_var (i := 2) rfl (.inl rfl)) (ix_var (i := 1) rfl (.inl rfl)))))) ssx_nil) (ssx_cons (sx_set (k := 3) sc_24.nd rfl (.inl rfl) (ix_mod (ix_add (ix_mul (ix_sub_ (C.hu hk) (fun _ _ => rfl) (ix_var (i := 0) rfl (.inl rfl)) (ix_str)) (ix_int)) (ix_int)) (ix_int)) rfl (.inl rfl)) (ssx_cons (sx_asg (ix_mod (ix_add (ix_mul (ix_var (i := 3) rfl (.inl rfl)) (ix_int)) (ix_int)) (ix_int)) (gx_sub (C.hu hk) (ix_var (i := 0) rfl (.inl rfl)) (ix_str) (fun _ => rfl)) rfl rfl rfl) (ssx_cons (sx_set (k := 4) sc_24.nd rfl (.inl rfl) (ix_mod (ix_mul (ix_sub_ (C.hu hk) (fun _ _ => rfl) (ix_var (i := 0) rfl (.inl rfl)) (ix_str)) (ix_sub_ (C.hu hk) (fun _ _ => rfl) (ix_var (i := 0) rfl (.inl rfl)) (ix_str))) (ix_int)) rfl (.inl rfl)) (ssx_one (sx_ret (ix_mod (ix_add (ix_mul (ix_mod (ix_mul (ix_var (i := 3) rfl (.inl rfl)) (ix_var (i := 3) rfl (.inl rfl))) (ix_int)) (ix_int)) (ix_var (i := 4) rfl (.inl rfl))) (ix_var (i := 1) rfl (.inl rfl)))))))))))⟩
theorem bk_25 {cls : Nat → Addr} {k : Nat} {t : Nat → Fn} (hk : 16 ≤ k) : BodyOk cls k fas dfs css tus t df_25 (meant t 25) := ⟨sc_25, 2, 11, b_25 t, rfl, rfl, rfl, fun P w K mg base f cdv A outer s H E C =>
  (ssx_cons (sx_set (k := 2) sc_25.nd rfl (.inr rfl) (ix_str) rfl (.inl rfl)) (ssx_cons (sx_set (k := 3) sc_25.nd rfl (.inl rfl) (ix_bm snd_join PySem.F.plainAttrs_str PySem.F.slot_str_join PySem.F.type_str_join mt_join (ix_str) (kx_cons (ix_comp C.calm sc_25.nd (t := (CT.nm 7)) (own := [("_law_k", 7)]) (px_range1 rfl (C.free 40 _ rfl) (kx_cons (hx_call C 24 2 39 (d := df_24) rfl rfl rfl rfl rfl (kx_cons (ix_var (i := 0) rfl (.inr (.inl rfl))) (kx_cons (ix_int) kx_nil)) (iCons_len (iCons_len iNil_len))) kx_nil) rfl) (blkOk_by rfl) (by decide) (fun _ _ _ _ _ => pg_name sc_25.nd (i := 7) rfl (.inl rfl) (.inr rfl)) (fun _ _ _ _ _ => tx_nil) (fun _ _ _ _ _ => (ix_sub_ ((Has.blk C _ _ _ _ _).hu hk) (fun _ _ => rfl) (ix_var (i := 2) rfl (.inr (.inl rfl))) (hx_call (Has.blk C _ _ _ _ _) 24 2 39 (d := df_24) rfl rfl rfl rfl rfl (kx_cons (ix_var (i := 0) rfl (.inr (.inl rfl))) (kx_cons (ix_int) kx_nil)) (iCons_len (iCons_len iNil_len))))) (fun _ => rfl)) kx_nil) rfl rfl rfl rfl rfl) rfl (.inl rfl)) (ssx_cons (sx_set (k := 4) sc_25.nd rfl (.inl rfl) (hx_call C 24 2 39 (d := df_24) rfl rfl rfl rfl rfl (kx_cons (ix_var (i := 0) rfl (.inr (.inl rfl))) (kx_cons (ix_add (ix_callB snd_len cr_len rfl (C.free 7 _ rfl) boot_len (kx_cons (ix_var (i := 3) rfl (.inl rfl)) kx_nil) (by decide) (by decide) rfl rfl) (ix_int)) kx_nil)) (iCons_len (iCons_len iNil_len))) rfl (.inl rfl)) (ssx_cons (sx_set (k := 5) sc_25.nd rfl (.inl rfl) (hx_call C 24 2 39 (d := df_24) rfl rfl rfl rfl rfl (kx_cons (ix_var (i := 0) rfl (.inr (.inl rfl))) (kx_cons (ix_int) kx_nil)) (iCons_len (iCons_len iNil_len))) rfl (.inl rfl)) (ssx_cons (sx_set (k := 6) sc_25.nd rfl (.inl rfl) (ix_lst_ kx_nil) rfl (.inl rfl)) (ssx_cons (sx_for PassesOwn.never C.calm (px_range1 rfl (C.free 40 _ rfl) (kx_cons (ix_var (i := 1) rfl (.inl rfl)) kx_nil) rfl) (gx_name (k := 7) sc_25.nd rfl (.inl rfl) (.inl rfl)) (ssx_cons (sx_set (k := 8) sc_25.nd rfl (.inl rfl) (ix_sub_ (C.hu hk) (fun _ _ => rfl) (ix_var (i := 2) rfl (.inr (.inl rfl))) (ix_mod (ix_add (ix_var (i := 5) rfl (.inl rfl)) (ix_mul (ix_int) (ix_var (i := 7) rfl (.inl rfl)))) (ix_int))) rfl (.inl rfl)) (ssx_cons (sx_set (k := 9) sc_25.nd rfl (.inl rfl) (ix_add (ix_add (ix_add (ix_add (ix_slice (ix_var (i := 3) rfl (.inl rfl)) nx_no (nx_part (ix_var (i := 4) rfl (.inl rfl)))) (ix_var (i := 8) rfl (.inl rfl))) (ix_slice (ix_var (i := 3) rfl (.inl rfl)) (nx_part (ix_var (i := 4) rfl (.inl rfl))) nx_no)) (ix_mul (ix_str) (ix_mod (ix_var (i := 7) rfl (.inl rfl)) (ix_int)))) (ix_mul (ix_str) (ix_fdiv (ix_var (i := 7) rfl (.inl rfl)) (ix_int)))) rfl (.inl rfl)) (ssx_cons (sx_if (jx_in (C.hu hk) rfl (ix_var (i := 9) rfl (.inl rfl)) (ix_tup_ (kx_cons (ix_str) (kx_cons (ix_str) (kx_cons (ix_str) (kx_cons (ix_str) (kx_cons (ix_str) (kx_cons (ix_str) kx_nil)))))))) (ssx_one (sx_set (k := 9) sc_25.nd rfl (.inl rfl) (ix_add (ix_var (i := 9) rfl (.inl rfl)) (ix_str)) rfl (.inl rfl))) ssx_nil) (ssx_cons (sx_if (jx_in (C.hu hk) rfl (ix_var (i := 9) rfl (.inl rfl)) (ix_tup_ (kx_cons (ix_str) (kx_cons (ix_str) (kx_cons (ix_str) (kx_cons (ix_str) (kx_cons (ix_str) (kx_cons (ix_str) kx_nil)))))))) (ssx_one (sx_set (k := 9) sc_25.nd rfl (.inl rfl) (ix_add (ix_var (i := 9) rfl (.inl rfl)) (ix_str)) rfl (.inl rfl))) ssx_nil) (ssx_one (sx_expr (ix_bm snd_append PySem.F.plainAttrs_list PySem.F.slot_list_append PySem.F.type_list_append mt_append (ix_var (i := 6) rfl (.inl rfl)) (kx_cons (ix_var (i := 9) rfl (.inl rfl)) kx_nil) rfl rfl rfl rfl rfl) rfl)))))) (fun _ => rfl) (fun _ _ _ _ _ _ _ => trivial)) (ssx_cons (sx_set (k := 10) sc_25.nd rfl (.inl rfl) (ix_lst_ (kx_cons (ix_str) (kx_cons (ix_str) (kx_cons (ix_str) (kx_cons (ix_str) (kx_cons (ix_str) (kx_cons (ix_str) kx_nil))))))) rfl (.inl rfl)) (ssx_cons (sx_set (k := 10) sc_25.nd rfl (.inl rfl) (ix_add (ix_var (i := 10) rfl (.inl rfl)) (ix_lst_ (kx_cons (ix_str) (kx_cons (ix_str) (kx_cons (ix_str) (kx_cons (ix_str) (kx_cons (ix_str) (kx_cons (ix_str) kx_nil)))))))) rfl (.inl rfl)) (ssx_cons (sx_set (k := 9) sc_25.nd rfl (.inl rfl) (ix_sub_ (C.hu hk) (fun _ _ => rfl) (ix_var (i := 10) rfl (.inl rfl)) (hx_call C 24 2 39 (d := df_24) rfl rfl rfl rfl rfl (kx_cons (ix_var (i := 0) rfl (.inr (.inl rfl))) (kx_cons (ix_int) kx_nil)) (iCons_len (iCons_len iNil_len)))) rfl (.inl rfl)) (ssx_cons (sx_if (wx_pt (wx_and (jx_eq (C.hu hk) rfl (hx_call C 24 2 39 (d := df_24) rfl rfl rfl rfl rfl (kx_cons (ix_var (i := 0) rfl (.inr (.inl rfl))) (kx_cons (ix_int) kx_nil)) (iCons_len (iCons_len iNil_len))) (ix_int)) (wx_and1 (jx_notIn (C.hu hk) rfl (ix_var (i := 9) rfl (.inl rfl)) (ix_var (i := 6) rfl (.inl rfl)))))) (ssx_one (sx_asg (ix_var (i := 9) rfl (.inl rfl)) (gx_sub (C.hu hk) (ix_var (i := 6) rfl (.inl rfl)) (hx_call C 24 2 39 (d := df_24) rfl rfl rfl rfl rfl (kx_cons (ix_var (i := 0) rfl (.inr (.inl rfl))) (kx_cons (ix_var (i := 1) rfl (.inl rfl)) kx_nil)) (iCons_len (iCons_len iNil_len))) (fun _ => rfl)) rfl rfl rfl)) ssx_nil) (ssx_one (sx_ret (ix_var (i := 6) rfl (.inl rfl))))))))))))))⟩
theorem bk_26 {cls : Nat → Addr} {k : Nat} {t : Nat → Fn} (hk : 16 ≤ k) : BodyOk cls k fas dfs css tus t df_26 (meant t 26) := ⟨sc_26, 2, 14, b_26 t, rfl, rfl, rfl, fun P w K mg base f cdv A outer s H E C =>
  (ssx_cons (sx_set (k := 2) sc_26.nd rfl (.inl rfl) (hx_call C 24 2 39 (d := df_24) rfl rfl rfl rfl rfl (kx_cons (ix_var (i := 0) rfl (.inr (.inl rfl))) (kx_cons (ix_int) kx_nil)) (iCons_len (iCons_len iNil_len))) rfl (.inl rfl)) (ssx_cons (sx_par (k := 3) (j := 4) C.calm sc_26.nd rfl rfl (by decide) rfl rfl (kx_cons (ix_sub_ (C.hu hk) (fun _ _ => rfl) (ix_var (i := 1) rfl (.inr (.inl rfl))) (ix_int)) (kx_cons (ix_sub_ (C.hu hk) (fun _ _ => rfl) (ix_var (i := 1) rfl (.inr (.inl rfl))) (ix_int)) kx_nil)) rfl rfl) (ssx_cons (sx_set (k := 5) sc_26.nd rfl (.inl rfl) (ix_add (ix_slice (ix_var (i := 1) rfl (.inr (.inl rfl))) (nx_part (ix_int)) nx_no) (ix_slice (ix_var (i := 1) rfl (.inr (.inl rfl))) nx_no (nx_part (ix_int)))) rfl (.inl rfl)) (ssx_cons (sx_if (jx_eq (C.hu hk) rfl (ix_var (i := 2) rfl (.inl rfl)) (ix_int)) (ssx_one (sx_ret (ix_tupP (kx_cons (ix_tup_ (kx_cons (ix_var (i := 3) rfl (.inl rfl)) (kx_cons (ix_tup_ (kx_cons (ix_tup_ (kx_cons (ix_sub_ (C.hu hk) (fun _ _ => rfl) (ix_var (i := 5) rfl (.inl rfl)) (ix_int)) (kx_cons (ix_tup_ kx_nil) kx_nil))) (kx_cons (ix_tup_ (kx_cons (ix_sub_ (C.hu hk) (fun _ _ => rfl) (ix_var (i := 5) rfl (.inl rfl)) (ix_int)) (kx_cons (ix_tup_ (kx_cons (ix_var (i := 3) rfl (.inl rfl)) kx_nil)) kx_nil))) kx_nil))) kx_nil))) kx_nil)))) ssx_nil) (ssx_cons (sx_if (jx_eq (C.hu hk) rfl (ix_var (i := 2) rfl (.inl rfl)) (ix_int)) (ssx_one (sx_ret (ix_tupP (kx_cons (ix_tup_ (kx_cons (ix_var (i := 3) rfl (.inl rfl)) (kx_cons (ix_tup_ (kx_cons (ix_tup_ (kx_cons (ix_sub_ (C.hu hk) (fun _ _ => rfl) (ix_var (i := 5) rfl (.inl rfl)) (ix_int)) (kx_cons (ix_tup_ kx_nil) kx_nil))) (kx_cons (ix_tup_ (kx_cons (ix_sub_ (C.hu hk) (fun _ _ => rfl) (ix_var (i := 5) rfl (.inl rfl)) (ix_int)) (kx_cons (ix_tup_ (kx_cons (ix_var (i := 3) rfl (.inl rfl)) kx_nil)) kx_nil))) (kx_cons (ix_tup_ (kx_cons (ix_sub_ (C.hu hk) (fun _ _ => rfl) (ix_var (i := 5) rfl (.inl rfl)) (ix_int)) (kx_cons (ix_tup_ (kx_cons (ix_var (i := 3) rfl (.inl rfl)) kx_nil)) kx_nil))) kx_nil)))) kx_nil))) kx_nil)))) ssx_nil) (ssx_cons (sx_if (jx_eq (C.hu hk) rfl (ix_var (i := 2) rfl (.inl rfl)) (ix_int)) (ssx_one (sx_ret (ix_tupP (kx_cons (ix_tup_ (kx_cons (ix_var (i := 3) rfl (.inl rfl)) (kx_cons (ix_tup_ (kx_cons (ix_tup_ (kx_cons (ix_sub_ (C.hu hk) (fun _ _ => rfl) (ix_var (i := 5) rfl (.inl rfl)) (ix_int)) (kx_cons (ix_tup_ kx_nil) kx_nil))) (kx_cons (ix_tup_ (kx_cons (ix_sub_ (C.hu hk) (fun _ _ => rfl) (ix_var (i := 5) rfl (.inl rfl)) (ix_int)) (kx_cons (ix_tup_ kx_nil) kx_nil))) kx_nil))) kx_nil))) (kx_cons (ix_tup_ (kx_cons (ix_var (i := 4) rfl (.inl rfl)) (kx_cons (ix_tup_ (kx_cons (ix_tup_ (kx_cons (ix_sub_ (C.hu hk) (fun _ _ => rfl) (ix_var (i := 5) rfl (.inl rfl)) (ix_int)) (kx_cons (ix_tup_ kx_nil) kx_nil))) (kx_cons (ix_tup_ (kx_cons (ix_sub_ (C.hu hk) (fun _ _ => rfl) (ix_var (i := 5) rfl (.inl rfl)) (ix_int)) (kx_cons (ix_tup_ (kx_cons (ix_var (i := 3) rfl (.inl rfl)) (kx_cons (ix_var (i := 4) rfl (.inl rfl)) kx_nil))) kx_nil))) kx_nil))) kx_nil))) kx_nil))))) ssx_nil) (ssx_cons (sx_if (jx_eq (C.hu hk) rfl (ix_var (i := 2) rfl (.inl rfl)) (ix_int)) (ssx_one (sx_ret (ix_tupP (kx_cons (ix_tup_ (kx_cons (ix_var (i := 3) rfl (.inl rfl)) (kx_cons (ix_tup_ (kx_cons (ix_tup_ (kx_cons (ix_sub_ (C.hu hk) (fun _ _ => rfl) (ix_var (i := 5) rfl (.inl rfl)) (ix_int)) (kx_cons (ix_tup_ kx_nil) kx_nil))) (kx_cons (ix_tup_ (kx_cons (ix_sub_ (C.hu hk) (fun _ _ => rfl) (ix_var (i := 5) rfl (.inl rfl)) (ix_int)) (kx_cons (ix_tup_ (kx_cons (ix_var (i := 3) rfl (.inl rfl)) (kx_cons (ix_var (i := 3) rfl (.inl rfl)) kx_nil))) kx_nil))) kx_nil))) kx_nil))) kx_nil)))) ssx_nil) (ssx_cons (sx_if (jx_eq (C.hu hk) rfl (ix_var (i := 2) rfl (.inl rfl)) (ix_int)) (ssx_one (sx_ret (ix_tupP (kx_cons (ix_tup_ (kx_cons (ix_var (i := 3) rfl (.inl rfl)) (kx_cons (ix_tup_ (kx_cons (ix_tup_ (kx_cons (ix_sub_ (C.hu hk) (fun _ _ => rfl) (ix_var (i := 5) rfl (.inl rfl)) (ix_int)) (kx_cons (ix_tup_ kx_nil) kx_nil))) (kx_cons (ix_tup_ (kx_cons (ix_sub_ (C.hu hk) (fun _ _ => rfl) (ix_var (i := 5) rfl (.inl rfl)) (ix_int)) (kx_cons (ix_tup_ (kx_cons (ix_var (i := 4) rfl (.inl rfl)) kx_nil)) kx_nil))) kx_nil))) kx_nil))) (kx_cons (ix_tup_ (kx_cons (ix_var (i := 4) rfl (.inl rfl)) (kx_cons (ix_tup_ (kx_cons (ix_tup_ (kx_cons (ix_sub_ (C.hu hk) (fun _ _ => rfl) (ix_var (i := 5) rfl (.inl rfl)) (ix_int)) (kx_cons (ix_tup_ (kx_cons (ix_var (i := 3) rfl (.inl rfl)) kx_nil)) kx_nil))) kx_nil)) kx_nil))) kx_nil))))) ssx_nil) (ssx_cons (sx_set (k := 6) sc_26.nd rfl (.inl rfl) (ix_lst_ kx_nil) rfl (.inl rfl)) (ssx_cons (sx_set (k := 7) sc_26.nd rfl (.inr rfl) (ix_add (ix_int) (hx_call C 24 2 39 (d := df_24) rfl rfl rfl rfl rfl (kx_cons (ix_var (i := 0) rfl (.inr (.inl rfl))) (kx_cons (ix_int) kx_nil)) (iCons_len (iCons_len iNil_len)))) rfl (.inl rfl)) (ssx_cons (sx_set (k := 8) sc_26.nd rfl (.inl rfl) (ix_int) rfl (.inl rfl)) (ssx_cons (sx_for PassesOwn.never C.calm (px_range1 rfl (C.free 40 _ rfl) (kx_cons (ix_var (i := 7) rfl (.inr (.inl rfl))) kx_nil) rfl) (gx_name (k := 9) sc_26.nd rfl (.inl rfl) (.inl rfl)) (ssx_cons (sx_set (k := 10) sc_26.nd rfl (.inl rfl) (ix_lst_ kx_nil) rfl (.inl rfl)) (ssx_cons (sx_for PassesOwn.never C.calm (px_range1 rfl (C.free 40 _ rfl) (kx_cons (ix_add (ix_int) (hx_call C 24 2 39 (d := df_24) rfl rfl rfl rfl rfl (kx_cons (ix_var (i := 0) rfl (.inr (.inl rfl))) (kx_cons (ix_int) kx_nil)) (iCons_len (iCons_len iNil_len)))) kx_nil) rfl) (gx_name (k := 11) sc_26.nd rfl (.inl rfl) (.inl rfl)) (ssx_cons (sx_setComp (i := 12) C.calm sc_26.nd rfl rfl rfl (t := (CT.nm 13)) (own := [("_law_i", 13)]) (px_range1 rfl (C.free 40 _ rfl) (kx_cons (ix_mul (hx_call C 24 2 39 (d := df_24) rfl rfl rfl rfl rfl (kx_cons (ix_var (i := 0) rfl (.inr (.inl rfl))) (kx_cons (ix_int) kx_nil)) (iCons_len (iCons_len iNil_len))) (ix_callTy snd_intOf call_int1 rfl (C.free 28 _ rfl) PyProof.Rows.boot_int (kx_cons (ix_gt rfl (ix_add (ix_var (i := 9) rfl (.inl rfl)) (ix_var (i := 11) rfl (.inl rfl))) (ix_int)) kx_nil) (by decide) (by decide) rfl rfl)) kx_nil) rfl) (blkOk_by rfl) (by decide) (fun _ _ _ _ _ => pg_name sc_26.nd (i := 13) rfl (.inl rfl) (.inr rfl)) (fun _ _ _ _ _ => tx_nil) (fun _ _ _ _ _ => (ix_sub_ ((Has.blk C _ _ _ _ _).hu hk) (fun _ _ => rfl) (ix_var (i := 1) rfl (.inr (.inl rfl))) (hx_call (Has.blk C _ _ _ _ _) 24 2 39 (d := df_24) rfl rfl rfl rfl rfl (kx_cons (ix_var (i := 0) rfl (.inr (.inl rfl))) (kx_cons (ix_var (i := 7) rfl (.inr (.inl rfl))) kx_nil)) (iCons_len (iCons_len iNil_len))))) (fun _ => rfl)) (ssx_cons (sx_expr (ix_bm snd_append PySem.F.plainAttrs_list PySem.F.slot_list_append PySem.F.type_list_append mt_append (ix_var (i := 10) rfl (.inl rfl)) (kx_cons (ix_tup_ (kx_cons (ix_sub_ (C.hu hk) (fun _ _ => rfl) (ix_var (i := 5) rfl (.inl rfl)) (ix_var (i := 8) rfl (.inl rfl))) (kx_cons (ix_callTy snd_tupOf call_tuple_of rfl (C.free 1 _ rfl) PyProof.Rows.boot_tuple (kx_cons (ix_var (i := 12) rfl (.inl rfl)) kx_nil) (by decide) (by decide) rfl rfl) kx_nil))) kx_nil) rfl rfl rfl rfl rfl) rfl) (ssx_one (sx_set (k := 8) sc_26.nd rfl (.inl rfl) (ix_add (ix_var (i := 8) rfl (.inl rfl)) (ix_int)) rfl (.inl rfl))))) (fun _ => rfl) (fun _ _ _ _ _ _ _ => trivial)) (ssx_one (sx_expr (ix_bm snd_append PySem.F.plainAttrs_list PySem.F.slot_list_append PySem.F.type_list_append mt_append (ix_var (i := 6) rfl (.inl rfl)) (kx_cons (ix_tup_ (kx_cons (ix_sub_ (C.hu hk) (fun _ _ => rfl) (ix_var (i := 1) rfl (.inr (.inl rfl))) (ix_var (i := 9) rfl (.inl rfl))) (kx_cons (ix_callTy snd_tupOf call_tuple_of rfl (C.free 1 _ rfl) PyProof.Rows.boot_tuple (kx_cons (ix_var (i := 10) rfl (.inl rfl)) kx_nil) (by decide) (by decide) rfl rfl) kx_nil))) kx_nil) rfl rfl rfl rfl rfl) rfl)))) (fun _ => rfl) (fun _ _ _ _ _ _ _ => trivial)) (ssx_one (sx_ret (ix_callTy snd_tupP cr_tupP rfl (C.free 1 _ rfl) PyProof.Rows.boot_tuple (kx_cons (ix_var (i := 6) rfl (.inl rfl)) kx_nil) (by decide) (by decide) rfl rfl)))))))))))))))⟩
theorem bk_27 {cls : Nat → Addr} {k : Nat} {t : Nat → Fn} (hk : 16 ≤ k) : BodyOk cls k fas dfs css tus t df_27 (meant t 27) := ⟨sc_27, 3, 8, b_27 t, rfl, rfl, rfl, fun P w K mg base f cdv A outer s H E C =>
  (ssx_cons (sx_set (k := 3) sc_27.nd rfl (.inl rfl) (ix_lst_ kx_nil) rfl (.inl rfl)) (ssx_cons (sx_for PassesOwn.never C.calm (px_seq (ix_var (i := 2) rfl (.inl rfl))) (gx_name (k := 4) sc_27.nd rfl (.inr rfl) (.inl rfl)) (ssx_cons (sx_setComp (i := 5) C.calm sc_27.nd rfl rfl rfl (t := (CT.tp [6, 7])) (own := [("_law_name", 6), ("_law_other", 7)]) (px_seq (ix_var (i := 1) rfl (.inl rfl))) (blkOk_by rfl) (by decide) (fun _ _ _ _ _ => pg_tup (Has.blk C _ _ _ _ _).calm (pgs_cons (pg_name sc_27.nd (i := 6) rfl (.inl rfl) (.inr rfl)) (pgs_cons (pg_name sc_27.nd (i := 7) rfl (.inl rfl) (.inr rfl)) pgs_nil)) rfl rfl) (fun _ _ _ _ _ => (tx_one (jx_eq ((Has.blk C _ _ _ _ _).hu hk) rfl (ix_var (i := 7) rfl (.inl rfl)) (ix_var (i := 4) rfl (.inr (.inl rfl)))))) (fun _ _ _ _ _ => (ix_var (i := 6) rfl (.inl rfl))) (fun _ => rfl)) (ssx_cons (sx_if (jx_eq (C.hu hk) rfl (ix_var (i := 5) rfl (.inl rfl)) (ix_lst_ kx_nil)) (ssx_one (sx_ret (ix_non))) ssx_nil) (ssx_one (sx_expr (ix_bm snd_append PySem.F.plainAttrs_list PySem.F.slot_list_append PySem.F.type_list_append mt_append (ix_var (i := 3) rfl (.inl rfl)) (kx_cons (ix_sub_ (C.hu hk) (fun _ _ => rfl) (ix_var (i := 5) rfl (.inl rfl)) (ix_callB snd_max2 (call_max2 C.calm) rfl (C.free 10 _ rfl) PyProof.Rows.boot_max (kx_cons (hx_call C 24 2 39 (d := df_24) rfl rfl rfl rfl rfl (kx_cons (ix_var (i := 0) rfl (.inl rfl)) (kx_cons (ix_callB snd_len cr_len rfl (C.free 7 _ rfl) boot_len (kx_cons (ix_var (i := 5) rfl (.inl rfl)) kx_nil) (by decide) (by decide) rfl rfl) kx_nil)) (iCons_len (iCons_len iNil_len))) (kx_cons (hx_call C 24 2 39 (d := df_24) rfl rfl rfl rfl rfl (kx_cons (ix_var (i := 0) rfl (.inl rfl)) (kx_cons (ix_callB snd_len cr_len rfl (C.free 7 _ rfl) boot_len (kx_cons (ix_var (i := 5) rfl (.inl rfl)) kx_nil) (by decide) (by decide) rfl rfl) kx_nil)) (iCons_len (iCons_len iNil_len))) kx_nil)) (by decide) (by decide) rfl rfl)) kx_nil) rfl rfl rfl rfl rfl) rfl)))) (fun _ => rfl) (fun _ _ _ _ _ _ _ => trivial)) (ssx_one (sx_ret (ix_callTy snd_tupOf call_tuple_of rfl (C.free 1 _ rfl) PyProof.Rows.boot_tuple (kx_cons (ix_var (i := 3) rfl (.inl rfl)) kx_nil) (by decide) (by decide) rfl rfl)))))⟩
theorem bk_28 {cls : Nat → Addr} {k : Nat} {t : Nat → Fn} (hk : 16 ≤ k) : BodyOk cls k fas dfs css tus t df_28 (meant t 28) := ⟨sc_28, 5, 15, b_28 t, rfl, rfl, rfl, fun P w K mg base f cdv A outer s H E C =>
  (ssx_cons (sx_asg (ix_var (i := 1) rfl (.inl rfl)) (gx_tup C.calm (gsx_cons (gx_name (k := 5) sc_28.nd rfl (.inl rfl) (.inl rfl)) (gsx_cons (gx_name (k := 6) sc_28.nd rfl (.inl rfl) (.inl rfl)) (gsx_cons (gx_name (k := 7) sc_28.nd rfl (.inl rfl) (.inl rfl)) gsx_nil rfl) rfl) rfl) rfl rfl) rfl rfl rfl) (ssx_cons (sx_set (k := 8) sc_28.nd rfl (.inl rfl) (hx_call C 27 3 42 (d := df_27) rfl rfl rfl rfl rfl (kx_cons (ix_var (i := 0) rfl (.inl rfl)) (kx_cons (ix_var (i := 2) rfl (.inl rfl)) (kx_cons (ix_lst_ (kx_cons (ix_var (i := 3) rfl (.inl rfl)) kx_nil)) kx_nil))) (iCons_len (iCons_len (iCons_len iNil_len)))) rfl (.inl rfl)) (ssx_cons (sx_if (jx_isNot rfl (ix_var (i := 8) rfl (.inl rfl)) (ix_non)) (ssx_one (sx_ret (ix_tup_ (kx_cons (ix_str) (kx_cons (ix_sub_ (C.hu hk) (fun _ _ => rfl) (ix_var (i := 8) rfl (.inl rfl)) (ix_int)) kx_nil))))) ssx_nil) (ssx_cons (sx_set (k := 9) sc_28.nd rfl (.inl rfl) (ix_sub_ (C.hu hk) (fun _ _ => rfl) (ix_var (i := 7) rfl (.inl rfl)) (ix_callB snd_len cr_len rfl (C.free 7 _ rfl) boot_len (kx_cons (ix_var (i := 2) rfl (.inl rfl)) kx_nil) (by decide) (by decide) rfl rfl)) rfl (.inl rfl)) (ssx_cons (sx_for PassesOwn.never C.calm (px_seq (ix_sub_ (C.hu hk) (fun _ _ => rfl) (ix_callTy snd_dictOf (call_dictPT C.calm) rfl (C.free 41 _ rfl) PyProof.Rows.boot_dict (kx_cons (ix_var (i := 5) rfl (.inl rfl)) kx_nil) (by decide) (by decide) rfl rfl) (ix_var (i := 3) rfl (.inl rfl)))) (gx_tup C.calm (gsx_cons (gx_name (k := 10) sc_28.nd rfl (.inl rfl) (.inl rfl)) (gsx_cons (gx_name (k := 11) sc_28.nd rfl (.inl rfl) (.inl rfl)) gsx_nil rfl) rfl) rfl rfl) (ssx_cons (sx_set (k := 12) sc_28.nd rfl (.inl rfl) (hx_call C 27 3 42 (d := df_27) rfl rfl rfl rfl rfl (kx_cons (ix_var (i := 0) rfl (.inl rfl)) (kx_cons (ix_var (i := 2) rfl (.inl rfl)) (kx_cons (ix_var (i := 11) rfl (.inl rfl)) kx_nil))) (iCons_len (iCons_len (iCons_len iNil_len)))) rfl (.inl rfl)) (ssx_one (sx_if (jx_isNot rfl (ix_var (i := 12) rfl (.inl rfl)) (ix_non)) (ssx_one (sx_ret (ix_tup_ (kx_cons (ix_str) (kx_cons (ix_var (i := 9) rfl (.inl rfl)) (kx_cons (ix_var (i := 10) rfl (.inl rfl)) (kx_cons (ix_var (i := 12) rfl (.inl rfl)) (kx_cons (ix_tup_ (kx_cons (ix_str) (kx_cons (ix_var (i := 9) rfl (.inl rfl)) kx_nil))) kx_nil)))))))) ssx_nil))) (fun _ => rfl) (fun _ _ _ _ _ _ _ => trivial)) (ssx_cons (sx_set (k := 12) sc_28.nd rfl (.inl rfl) (ix_callTy snd_tupOf call_tuple_of rfl (C.free 1 _ rfl) PyProof.Rows.boot_tuple (kx_cons (ix_comp C.calm sc_28.nd (t := (CT.tp [13, 14])) (own := [("_law_name", 13), ("_law_other", 14)]) (px_seq (ix_slice (ix_var (i := 2) rfl (.inl rfl)) nx_no (nx_part (ix_callB snd_len cr_len rfl (C.free 7 _ rfl) boot_len (kx_cons (ix_sub_ (C.hu hk) (fun _ _ => rfl) (ix_sub_ (C.hu hk) (fun _ _ => rfl) (ix_var (i := 6) rfl (.inl rfl)) (ix_var (i := 4) rfl (.inl rfl))) (ix_int)) kx_nil) (by decide) (by decide) rfl rfl)))) (blkOk_by rfl) (by decide) (fun _ _ _ _ _ => pg_tup (Has.blk C _ _ _ _ _).calm (pgs_cons (pg_name sc_28.nd (i := 13) rfl (.inl rfl) (.inr rfl)) (pgs_cons (pg_name sc_28.nd (i := 14) rfl (.inl rfl) (.inr rfl)) pgs_nil)) rfl rfl) (fun _ _ _ _ _ => tx_nil) (fun _ _ _ _ _ => (ix_var (i := 13) rfl (.inl rfl))) (fun _ => rfl)) kx_nil) (by decide) (by decide) rfl rfl) rfl (.inl rfl)) (ssx_one (sx_ret (ix_tup_ (kx_cons (ix_str) (kx_cons (ix_var (i := 9) rfl (.inl rfl)) (kx_cons (ix_sub_ (C.hu hk) (fun _ _ => rfl) (ix_sub_ (C.hu hk) (fun _ _ => rfl) (ix_var (i := 6) rfl (.inl rfl)) (ix_var (i := 4) rfl (.inl rfl))) (ix_int)) (kx_cons (ix_var (i := 12) rfl (.inl rfl)) (kx_cons (ix_tup_ (kx_cons (ix_str) (kx_cons (ix_var (i := 9) rfl (.inl rfl)) kx_nil))) kx_nil))))))))))))))⟩
theorem bk_29 {cls : Nat → Addr} {k : Nat} {t : Nat → Fn} (hk : 16 ≤ k) : BodyOk cls k fas dfs css tus t df_29 (meant t 29) := ⟨sc_29, 5, 19, b_29 t, rfl, rfl, rfl, fun P w K mg base f cdv A outer s H E C =>
  (ssx_cons (sx_asg (ix_var (i := 1) rfl (.inl rfl)) (gx_tup C.calm (gsx_cons (gx_name (k := 5) sc_29.nd rfl (.inl rfl) (.inl rfl)) (gsx_cons (gx_name (k := 6) sc_29.nd rfl (.inl rfl) (.inl rfl)) (gsx_cons (gx_name (k := 7) sc_29.nd rfl (.inr rfl) (.inl rfl)) gsx_nil rfl) rfl) rfl) rfl rfl) rfl rfl rfl) (ssx_cons (sx_asg (ix_sub_ (C.hu hk) (fun _ _ => rfl) (ix_var (i := 2) rfl (.inr (.inl rfl))) (ix_callB snd_max2 (call_max2 C.calm) rfl (C.free 10 _ rfl) PyProof.Rows.boot_max (kx_cons (hx_call C 24 2 39 (d := df_24) rfl rfl rfl rfl rfl (kx_cons (ix_var (i := 0) rfl (.inl rfl)) (kx_cons (ix_callB snd_len cr_len rfl (C.free 7 _ rfl) boot_len (kx_cons (ix_var (i := 2) rfl (.inr (.inl rfl))) kx_nil) (by decide) (by decide) rfl rfl) kx_nil)) (iCons_len (iCons_len iNil_len))) (kx_cons (hx_call C 24 2 39 (d := df_24) rfl rfl rfl rfl rfl (kx_cons (ix_var (i := 0) rfl (.inl rfl)) (kx_cons (ix_callB snd_len cr_len rfl (C.free 7 _ rfl) boot_len (kx_cons (ix_var (i := 2) rfl (.inr (.inl rfl))) kx_nil) (by decide) (by decide) rfl rfl) kx_nil)) (iCons_len (iCons_len iNil_len))) kx_nil)) (by decide) (by decide) rfl rfl)) (gx_tup C.calm (gsx_cons (gx_name (k := 8) sc_29.nd rfl (.inl rfl) (.inl rfl)) (gsx_cons (gx_name (k := 9) sc_29.nd rfl (.inl rfl) (.inl rfl)) gsx_nil rfl) rfl) rfl rfl) rfl rfl rfl) (ssx_cons (sx_set (k := 10) sc_29.nd rfl (.inl rfl) (ix_sub_ (C.hu hk) (fun _ _ => rfl) (ix_callTy snd_dictOf (call_dictPT C.calm) rfl (C.free 41 _ rfl) PyProof.Rows.boot_dict (kx_cons (ix_var (i := 5) rfl (.inl rfl)) kx_nil) (by decide) (by decide) rfl rfl) (ix_var (i := 9) rfl (.inl rfl))) rfl (.inl rfl)) (ssx_cons (sx_asg (ix_sub (ix_sub_ (C.hu hk) (fun _ _ => rfl) (ix_var (i := 4) rfl (.inl rfl)) (ix_int)) (ix_callB snd_len cr_len rfl (C.free 7 _ rfl) boot_len (kx_cons (ix_var (i := 10) rfl (.inl rfl)) kx_nil) (by decide) (by decide) rfl rfl)) (gx_sub (C.hu hk) (ix_var (i := 4) rfl (.inl rfl)) (ix_int) (fun _ => rfl)) rfl rfl rfl) (ssx_cons (sx_set (k := 11) sc_29.nd rfl (.inl rfl) (ix_lst_ kx_nil) rfl (.inl rfl)) (ssx_cons (sx_for PassesOwn.never C.calm (px_seq (ix_var (i := 10) rfl (.inl rfl))) (gx_tup C.calm (gsx_cons (gx_name (k := 12) sc_29.nd rfl (.inl rfl) (.inl rfl)) (gsx_cons (gx_name (k := 13) sc_29.nd rfl (.inl rfl) (.inl rfl)) gsx_nil rfl) rfl) rfl rfl) (ssx_cons (sx_setComp (i := 14) C.calm sc_29.nd rfl rfl rfl (t := (CT.tp [16, 17])) (own := [("_law_k", 16), ("_law_field", 17)]) (px_enum rfl (C.free 44 _ rfl) (kx_cons (ix_var (i := 13) rfl (.inl rfl)) kx_nil) rfl) (blkOk_by rfl) (by decide) (fun _ _ _ _ _ => pg_tup (Has.blk C _ _ _ _ _).calm (pgs_cons (pg_name sc_29.nd (i := 16) rfl (.inl rfl) (.inr rfl)) (pgs_cons (pg_name sc_29.nd (i := 17) rfl (.inl rfl) (.inr rfl)) pgs_nil)) rfl rfl) (fun _ _ _ _ _ => tx_nil) (fun _ _ _ _ _ => (ix_tup_ (kx_cons (ix_sub_ ((Has.blk C _ _ _ _ _).hu hk) (fun _ _ => rfl) (ix_var (i := 7) rfl (.inr (.inl rfl))) (ix_add (ix_callB snd_len cr_len rfl ((Has.blk C _ _ _ _ _).free 7 _ rfl) boot_len (kx_cons (ix_var (i := 2) rfl (.inr (.inl rfl))) kx_nil) (by decide) (by decide) rfl rfl) (ix_var (i := 16) rfl (.inl rfl)))) (kx_cons (ix_var (i := 17) rfl (.inl rfl)) kx_nil)))) (fun _ => rfl)) (ssx_cons (sx_set (k := 15) sc_29.nd rfl (.inl rfl) (ix_callTy snd_tupOf call_tuple_of rfl (C.free 1 _ rfl) PyProof.Rows.boot_tuple (kx_cons (ix_comp C.calm sc_29.nd (t := (CT.tp [18, 17])) (own := [("_law_name", 18), ("_law_field", 17)]) (px_seq (ix_var (i := 14) rfl (.inl rfl))) (blkOk_by rfl) (by decide) (fun _ _ _ _ _ => pg_tup (Has.blk C _ _ _ _ _).calm (pgs_cons (pg_name sc_29.nd (i := 18) rfl (.inl rfl) (.inr rfl)) (pgs_cons (pg_name sc_29.nd (i := 17) rfl (.inl rfl) (.inr rfl)) pgs_nil)) rfl rfl) (fun _ _ _ _ _ => tx_nil) (fun _ _ _ _ _ => (ix_var (i := 18) rfl (.inl rfl))) (fun _ => rfl)) kx_nil) (by decide) (by decide) rfl rfl) rfl (.inl rfl)) (ssx_one (sx_expr (ix_bm snd_append PySem.F.plainAttrs_list PySem.F.slot_list_append PySem.F.type_list_append mt_append (ix_var (i := 11) rfl (.inl rfl)) (kx_cons (ix_tup_ (kx_cons (ix_var (i := 12) rfl (.inl rfl)) (kx_cons (ix_var (i := 15) rfl (.inl rfl)) (kx_cons (hx_call C 30 5 43 (d := df_30) rfl rfl rfl rfl rfl (kx_cons (ix_var (i := 0) rfl (.inl rfl)) (kx_cons (ix_var (i := 1) rfl (.inl rfl)) (kx_cons (ix_add (ix_var (i := 2) rfl (.inr (.inl rfl))) (ix_var (i := 14) rfl (.inl rfl))) (kx_cons (ix_var (i := 3) rfl (.inl rfl)) (kx_cons (ix_var (i := 4) rfl (.inl rfl)) kx_nil))))) (iCons_len (iCons_len (iCons_len (iCons_len (iCons_len iNil_len)))))) kx_nil)))) kx_nil) rfl rfl rfl rfl rfl) rfl)))) (fun _ => rfl) (fun _ _ _ _ _ _ _ => trivial)) (ssx_one (sx_ret (ix_tup_ (kx_cons (ix_str) (kx_cons (ix_var (i := 8) rfl (.inl rfl)) (kx_cons (ix_callTy snd_tupOf call_tuple_of rfl (C.free 1 _ rfl) PyProof.Rows.boot_tuple (kx_cons (ix_var (i := 11) rfl (.inl rfl)) kx_nil) (by decide) (by decide) rfl rfl) kx_nil))))))))))))⟩
theorem bk_30 {cls : Nat → Addr} {k : Nat} {t : Nat → Fn} (hk : 16 ≤ k) : BodyOk cls k fas dfs css tus t df_30 (meant t 30) := ⟨sc_30, 5, 22, b_30 t, rfl, rfl, rfl, fun P w K mg base f cdv A outer s H E C =>
  (ssx_cons (sx_asg (ix_var (i := 1) rfl (.inl rfl)) (gx_tup C.calm (gsx_cons (gx_name (k := 5) sc_30.nd rfl (.inl rfl) (.inl rfl)) (gsx_cons (gx_name (k := 6) sc_30.nd rfl (.inl rfl) (.inl rfl)) (gsx_cons (gx_name (k := 7) sc_30.nd rfl (.inl rfl) (.inl rfl)) gsx_nil rfl) rfl) rfl) rfl rfl) rfl rfl rfl) (ssx_cons (sx_set (k := 8) sc_30.nd rfl (.inl rfl) (ix_sub_ (C.hu hk) (fun _ _ => rfl) (ix_sub_ (C.hu hk) (fun _ _ => rfl) (ix_var (i := 6) rfl (.inl rfl)) (ix_var (i := 3) rfl (.inl rfl))) (ix_int)) rfl (.inl rfl)) (ssx_cons (sx_set (k := 9) sc_30.nd rfl (.inl rfl) (hx_call C 24 2 39 (d := df_24) rfl rfl rfl rfl rfl (kx_cons (ix_var (i := 0) rfl (.inl rfl)) (kx_cons (ix_int) kx_nil)) (iCons_len (iCons_len iNil_len))) rfl (.inl rfl)) (ssx_cons (sx_if (wx_pt (wx_or (jx_lt rfl (ix_sub_ (C.hu hk) (fun _ _ => rfl) (ix_var (i := 4) rfl (.inl rfl)) (ix_int)) (ix_int)) (wx_or (jx_eq (C.hu hk) rfl (ix_var (i := 9) rfl (.inl rfl)) (ix_int)) (wx_or1 (jx_gt rfl (ix_callB snd_len cr_len rfl (C.free 7 _ rfl) boot_len (kx_cons (ix_var (i := 2) rfl (.inl rfl)) kx_nil) (by decide) (by decide) rfl rfl) (ix_int)))))) (ssx_one (sx_ret (hx_call C 28 5 45 (d := df_28) rfl rfl rfl rfl rfl (kx_cons (ix_var (i := 0) rfl (.inl rfl)) (kx_cons (ix_var (i := 1) rfl (.inl rfl)) (kx_cons (ix_var (i := 2) rfl (.inl rfl)) (kx_cons (ix_var (i := 8) rfl (.inl rfl)) (kx_cons (ix_var (i := 3) rfl (.inl rfl)) kx_nil))))) (iCons_len (iCons_len (iCons_len (iCons_len (iCons_len iNil_len)))))))) ssx_nil) (ssx_cons (sx_asg (ix_sub (ix_sub_ (C.hu hk) (fun _ _ => rfl) (ix_var (i := 4) rfl (.inl rfl)) (ix_int)) (ix_int)) (gx_sub (C.hu hk) (ix_var (i := 4) rfl (.inl rfl)) (ix_int) (fun _ => rfl)) rfl rfl rfl) (ssx_cons (sx_set (k := 10) sc_30.nd rfl (.inl rfl) (ix_sub_ (C.hu hk) (fun _ _ => rfl) (ix_var (i := 7) rfl (.inl rfl)) (ix_callB snd_len cr_len rfl (C.free 7 _ rfl) boot_len (kx_cons (ix_var (i := 2) rfl (.inl rfl)) kx_nil) (by decide) (by decide) rfl rfl)) rfl (.inl rfl)) (ssx_cons (sx_if (jx_lt rfl (ix_var (i := 9) rfl (.inl rfl)) (ix_int)) (ssx_cons (sx_set (k := 11) sc_30.nd rfl (.inl rfl) (ix_add (ix_int) (hx_call C 24 2 39 (d := df_24) rfl rfl rfl rfl rfl (kx_cons (ix_var (i := 0) rfl (.inl rfl)) (kx_cons (ix_sub_ (C.hu hk) (fun _ _ => rfl) (ix_lst_ (kx_cons (ix_int) (kx_cons (ix_int) (kx_cons (ix_int) kx_nil)))) (hx_call C 24 2 39 (d := df_24) rfl rfl rfl rfl rfl (kx_cons (ix_var (i := 0) rfl (.inl rfl)) (kx_cons (ix_int) kx_nil)) (iCons_len (iCons_len iNil_len)))) kx_nil)) (iCons_len (iCons_len iNil_len)))) rfl (.inl rfl)) (ssx_cons (sx_set (k := 12) sc_30.nd rfl (.inl rfl) (ix_sub_ (C.hu hk) (fun _ _ => rfl) (ix_lst_ (kx_cons (ix_str) (kx_cons (ix_str) (kx_cons (ix_str) kx_nil)))) (hx_call C 24 2 39 (d := df_24) rfl rfl rfl rfl rfl (kx_cons (ix_var (i := 0) rfl (.inl rfl)) (kx_cons (ix_int) kx_nil)) (iCons_len (iCons_len iNil_len)))) rfl (.inl rfl)) (ssx_one (sx_ret (ix_tup_ (kx_cons (ix_var (i := 12) rfl (.inl rfl)) (kx_cons (ix_var (i := 11) rfl (.inl rfl)) (kx_cons (hx_call C 30 5 43 (d := df_30) rfl rfl rfl rfl rfl (kx_cons (ix_var (i := 0) rfl (.inl rfl)) (kx_cons (ix_var (i := 1) rfl (.inl rfl)) (kx_cons (ix_var (i := 2) rfl (.inl rfl)) (kx_cons (ix_var (i := 3) rfl (.inl rfl)) (kx_cons (ix_var (i := 4) rfl (.inl rfl)) kx_nil))))) (iCons_len (iCons_len (iCons_len (iCons_len (iCons_len iNil_len)))))) kx_nil)))))))) ssx_nil) (ssx_cons (sx_if (wx_pt (wx_and (jx_lt rfl (ix_var (i := 9) rfl (.inl rfl)) (ix_int)) (wx_and1 (jx_ne (C.hu hk) rfl (ix_var (i := 2) rfl (.inl rfl)) (ix_lst_ kx_nil))))) (ssx_one (sx_ret (hx_call C 29 5 46 (d := df_29) rfl rfl rfl rfl rfl (kx_cons (ix_var (i := 0) rfl (.inl rfl)) (kx_cons (ix_var (i := 1) rfl (.inl rfl)) (kx_cons (ix_var (i := 2) rfl (.inl rfl)) (kx_cons (ix_var (i := 3) rfl (.inl rfl)) (kx_cons (ix_var (i := 4) rfl (.inl rfl)) kx_nil))))) (iCons_len (iCons_len (iCons_len (iCons_len (iCons_len iNil_len)))))))) ssx_nil) (ssx_cons (sx_if (wx_pt (wx_and (jx_eq (C.hu hk) rfl (ix_var (i := 9) rfl (.inl rfl)) (ix_int)) (wx_and1 (jx_ne (C.hu hk) rfl (ix_var (i := 2) rfl (.inl rfl)) (ix_lst_ kx_nil))))) (ssx_cons (sx_asg (ix_sub_ (C.hu hk) (fun _ _ => rfl) (ix_var (i := 2) rfl (.inl rfl)) (hx_call C 24 2 39 (d := df_24) rfl rfl rfl rfl rfl (kx_cons (ix_var (i := 0) rfl (.inl rfl)) (kx_cons (ix_callB snd_len cr_len rfl (C.free 7 _ rfl) boot_len (kx_cons (ix_var (i := 2) rfl (.inl rfl)) kx_nil) (by decide) (by decide) rfl rfl) kx_nil)) (iCons_len (iCons_len iNil_len)))) (gx_tup C.calm (gsx_cons (gx_name (k := 13) sc_30.nd rfl (.inl rfl) (.inl rfl)) (gsx_cons (gx_name (k := 14) sc_30.nd rfl (.inl rfl) (.inl rfl)) gsx_nil rfl) rfl) rfl rfl) rfl rfl rfl) (ssx_one (sx_ret (ix_tup_ (kx_cons (ix_str) (kx_cons (ix_var (i := 10) rfl (.inl rfl)) (kx_cons (ix_var (i := 13) rfl (.inl rfl)) (kx_cons (hx_call C 30 5 43 (d := df_30) rfl rfl rfl rfl rfl (kx_cons (ix_var (i := 0) rfl (.inl rfl)) (kx_cons (ix_var (i := 1) rfl (.inl rfl)) (kx_cons (ix_add (ix_var (i := 2) rfl (.inl rfl)) (ix_lst_ (kx_cons (ix_tup_ (kx_cons (ix_var (i := 10) rfl (.inl rfl)) (kx_cons (ix_var (i := 14) rfl (.inl rfl)) kx_nil))) kx_nil))) (kx_cons (ix_var (i := 3) rfl (.inl rfl)) (kx_cons (ix_var (i := 4) rfl (.inl rfl)) kx_nil))))) (iCons_len (iCons_len (iCons_len (iCons_len (iCons_len iNil_len)))))) kx_nil)))))))) ssx_nil) (ssx_cons (sx_if (jx_eq (C.hu hk) rfl (ix_var (i := 9) rfl (.inl rfl)) (ix_int)) (ssx_cons (sx_set (k := 15) sc_30.nd rfl (.inl rfl) (hx_call C 24 2 39 (d := df_24) rfl rfl rfl rfl rfl (kx_cons (ix_var (i := 0) rfl (.inl rfl)) (kx_cons (ix_callB snd_len cr_len rfl (C.free 7 _ rfl) boot_len (kx_cons (ix_var (i := 6) rfl (.inl rfl)) kx_nil) (by decide) (by decide) rfl rfl) kx_nil)) (iCons_len (iCons_len iNil_len))) rfl (.inl rfl)) (ssx_cons (sx_set (k := 16) sc_30.nd rfl (.inl rfl) (hx_call C 27 3 42 (d := df_27) rfl rfl rfl rfl rfl (kx_cons (ix_var (i := 0) rfl (.inl rfl)) (kx_cons (ix_var (i := 2) rfl (.inl rfl)) (kx_cons (ix_comp C.calm sc_30.nd (t := (CT.nm 21)) (own := [("_law_param", 21)]) (px_seq (ix_sub_ (C.hu hk) (fun _ _ => rfl) (ix_sub_ (C.hu hk) (fun _ _ => rfl) (ix_var (i := 6) rfl (.inl rfl)) (ix_var (i := 15) rfl (.inl rfl))) (ix_int))) (blkOk_by rfl) (by decide) (fun _ _ _ _ _ => pg_name sc_30.nd (i := 21) rfl (.inl rfl) (.inr rfl)) (fun _ _ _ _ _ => tx_nil) (fun _ _ _ _ _ => (ix_sub_ ((Has.blk C _ _ _ _ _).hu hk) (fun _ _ => rfl) (ix_var (i := 21) rfl (.inl rfl)) (ix_int))) (fun _ => rfl)) kx_nil))) (iCons_len (iCons_len (iCons_len iNil_len)))) rfl (.inl rfl)) (ssx_one (sx_if (jx_isNot rfl (ix_var (i := 16) rfl (.inl rfl)) (ix_non)) (ssx_one (sx_ret (ix_tup_ (kx_cons (ix_str) (kx_cons (ix_var (i := 10) rfl (.inl rfl)) (kx_cons (ix_sub_ (C.hu hk) (fun _ _ => rfl) (ix_sub_ (C.hu hk) (fun _ _ => rfl) (ix_var (i := 6) rfl (.inl rfl)) (ix_var (i := 15) rfl (.inl rfl))) (ix_int)) (kx_cons (ix_var (i := 16) rfl (.inl rfl)) (kx_cons (hx_call C 30 5 43 (d := df_30) rfl rfl rfl rfl rfl (kx_cons (ix_var (i := 0) rfl (.inl rfl)) (kx_cons (ix_var (i := 1) rfl (.inl rfl)) (kx_cons (ix_add (ix_var (i := 2) rfl (.inl rfl)) (ix_lst_ (kx_cons (ix_tup_ (kx_cons (ix_var (i := 10) rfl (.inl rfl)) (kx_cons (ix_sub_ (C.hu hk) (fun _ _ => rfl) (ix_sub_ (C.hu hk) (fun _ _ => rfl) (ix_var (i := 6) rfl (.inl rfl)) (ix_var (i := 15) rfl (.inl rfl))) (ix_int)) kx_nil))) kx_nil))) (kx_cons (ix_var (i := 3) rfl (.inl rfl)) (kx_cons (ix_var (i := 4) rfl (.inl rfl)) kx_nil))))) (iCons_len (iCons_len (iCons_len (iCons_len (iCons_len iNil_len)))))) kx_nil)))))))) ssx_nil)))) ssx_nil) (ssx_cons (sx_asg (ix_sub_ (C.hu hk) (fun _ _ => rfl) (ix_var (i := 5) rfl (.inl rfl)) (hx_call C 24 2 39 (d := df_24) rfl rfl rfl rfl rfl (kx_cons (ix_var (i := 0) rfl (.inl rfl)) (kx_cons (ix_callB snd_len cr_len rfl (C.free 7 _ rfl) boot_len (kx_cons (ix_var (i := 5) rfl (.inl rfl)) kx_nil) (by decide) (by decide) rfl rfl) kx_nil)) (iCons_len (iCons_len iNil_len)))) (gx_tup C.calm (gsx_cons (gx_name (k := 17) sc_30.nd rfl (.inl rfl) (.inl rfl)) (gsx_cons (gx_name (k := 18) sc_30.nd rfl (.inl rfl) (.inl rfl)) gsx_nil rfl) rfl) rfl rfl) rfl rfl rfl) (ssx_cons (sx_asg (ix_sub_ (C.hu hk) (fun _ _ => rfl) (ix_var (i := 18) rfl (.inl rfl)) (hx_call C 24 2 39 (d := df_24) rfl rfl rfl rfl rfl (kx_cons (ix_var (i := 0) rfl (.inl rfl)) (kx_cons (ix_callB snd_len cr_len rfl (C.free 7 _ rfl) boot_len (kx_cons (ix_var (i := 18) rfl (.inl rfl)) kx_nil) (by decide) (by decide) rfl rfl) kx_nil)) (iCons_len (iCons_len iNil_len)))) (gx_tup C.calm (gsx_cons (gx_name (k := 19) sc_30.nd rfl (.inl rfl) (.inl rfl)) (gsx_cons (gx_name (k := 20) sc_30.nd rfl (.inl rfl) (.inl rfl)) gsx_nil rfl) rfl) rfl rfl) rfl rfl rfl) (ssx_cons (sx_set (k := 16) sc_30.nd rfl (.inl rfl) (hx_call C 27 3 42 (d := df_27) rfl rfl rfl rfl rfl (kx_cons (ix_var (i := 0) rfl (.inl rfl)) (kx_cons (ix_var (i := 2) rfl (.inl rfl)) (kx_cons (ix_var (i := 20) rfl (.inl rfl)) kx_nil))) (iCons_len (iCons_len (iCons_len iNil_len)))) rfl (.inl rfl)) (ssx_cons (sx_if (jx_is rfl (ix_var (i := 16) rfl (.inl rfl)) (ix_non)) (ssx_one (sx_ret (hx_call C 28 5 45 (d := df_28) rfl rfl rfl rfl rfl (kx_cons (ix_var (i := 0) rfl (.inl rfl)) (kx_cons (ix_var (i := 1) rfl (.inl rfl)) (kx_cons (ix_var (i := 2) rfl (.inl rfl)) (kx_cons (ix_var (i := 8) rfl (.inl rfl)) (kx_cons (ix_var (i := 3) rfl (.inl rfl)) kx_nil))))) (iCons_len (iCons_len (iCons_len (iCons_len (iCons_len iNil_len)))))))) ssx_nil) (ssx_one (sx_ret (ix_tup_ (kx_cons (ix_str) (kx_cons (ix_var (i := 10) rfl (.inl rfl)) (kx_cons (ix_var (i := 19) rfl (.inl rfl)) (kx_cons (ix_var (i := 16) rfl (.inl rfl)) (kx_cons (hx_call C 30 5 43 (d := df_30) rfl rfl rfl rfl rfl (kx_cons (ix_var (i := 0) rfl (.inl rfl)) (kx_cons (ix_var (i := 1) rfl (.inl rfl)) (kx_cons (ix_add (ix_var (i := 2) rfl (.inl rfl)) (ix_lst_ (kx_cons (ix_tup_ (kx_cons (ix_var (i := 10) rfl (.inl rfl)) (kx_cons (ix_var (i := 17) rfl (.inl rfl)) kx_nil))) kx_nil))) (kx_cons (ix_var (i := 3) rfl (.inl rfl)) (kx_cons (ix_var (i := 4) rfl (.inl rfl)) kx_nil))))) (iCons_len (iCons_len (iCons_len (iCons_len (iCons_len iNil_len)))))) kx_nil))))))))))))))))))))))⟩
theorem bk_31 {cls : Nat → Addr} {k : Nat} {t : Nat → Fn} (hk : 16 ≤ k) : BodyOk cls k fas dfs css tus t df_31 (meant t 31) := ⟨sc_31, 3, 16, b_31 t, rfl, rfl, rfl, fun P w K mg base f cdv A outer s H E C =>
  (ssx_cons (sx_set (k := 3) sc_31.nd rfl (.inr rfl) (hx_call C 25 2 48 (d := df_25) rfl rfl rfl rfl rfl (kx_cons (ix_var (i := 0) rfl (.inr (.inl rfl))) (kx_cons (ix_int) kx_nil)) (iCons_len (iCons_len iNil_len))) rfl (.inl rfl)) (ssx_cons (sx_set (k := 4) sc_31.nd rfl (.inr rfl) (hx_call C 26 2 47 (d := df_26) rfl rfl rfl rfl rfl (kx_cons (ix_var (i := 0) rfl (.inr (.inl rfl))) (kx_cons (ix_var (i := 3) rfl (.inr (.inl rfl))) kx_nil)) (iCons_len (iCons_len iNil_len))) rfl (.inl rfl)) (ssx_cons (sx_set (k := 5) sc_31.nd rfl (.inl rfl) (ix_lst_ kx_nil) rfl (.inl rfl)) (ssx_cons (sx_for PassesOwn.never C.calm (px_range1 rfl (C.free 40 _ rfl) (kx_cons (ix_add (ix_int) (hx_call C 24 2 39 (d := df_24) rfl rfl rfl rfl rfl (kx_cons (ix_var (i := 0) rfl (.inr (.inl rfl))) (kx_cons (ix_var (i := 1) rfl (.inl rfl)) kx_nil)) (iCons_len (iCons_len iNil_len)))) kx_nil) rfl) (gx_name (k := 6) sc_31.nd rfl (.inl rfl) (.inl rfl)) (ssx_cons (sx_set (k := 7) sc_31.nd rfl (.inl rfl) (ix_sub_ (C.hu hk) (fun _ _ => rfl) (ix_lst_ (kx_cons (ix_int) (kx_cons (ix_int) (kx_cons (ix_int) (kx_cons (ix_int) (kx_cons (ix_int) (kx_cons (ix_int) kx_nil))))))) (hx_call C 24 2 39 (d := df_24) rfl rfl rfl rfl rfl (kx_cons (ix_var (i := 0) rfl (.inr (.inl rfl))) (kx_cons (ix_int) kx_nil)) (iCons_len (iCons_len iNil_len)))) rfl (.inl rfl)) (ssx_cons (sx_setComp (i := 8) C.calm sc_31.nd rfl rfl rfl (t := (CT.nm 15)) (own := [("_law_k", 15)]) (px_range1 rfl (C.free 40 _ rfl) (kx_cons (ix_var (i := 7) rfl (.inl rfl)) kx_nil) rfl) (blkOk_by rfl) (by decide) (fun _ _ _ _ _ => pg_name sc_31.nd (i := 15) rfl (.inl rfl) (.inr rfl)) (fun _ _ _ _ _ => tx_nil) (fun _ _ _ _ _ => (ix_tup_ (kx_cons (ix_sub_ ((Has.blk C _ _ _ _ _).hu hk) (fun _ _ => rfl) (ix_var (i := 3) rfl (.inr (.inl rfl))) (ix_var (i := 15) rfl (.inl rfl))) (kx_cons (ix_sub_ ((Has.blk C _ _ _ _ _).hu hk) (fun _ _ => rfl) (ix_sub_ ((Has.blk C _ _ _ _ _).hu hk) (fun _ _ => rfl) (ix_var (i := 4) rfl (.inr (.inl rfl))) (hx_call (Has.blk C _ _ _ _ _) 24 2 39 (d := df_24) rfl rfl rfl rfl rfl (kx_cons (ix_var (i := 0) rfl (.inr (.inl rfl))) (kx_cons (ix_callB snd_len cr_len rfl ((Has.blk C _ _ _ _ _).free 7 _ rfl) boot_len (kx_cons (ix_var (i := 4) rfl (.inr (.inl rfl))) kx_nil) (by decide) (by decide) rfl rfl) kx_nil)) (iCons_len (iCons_len iNil_len)))) (ix_int)) kx_nil)))) (fun _ => rfl)) (ssx_one (sx_expr (ix_bm snd_append PySem.F.plainAttrs_list PySem.F.slot_list_append PySem.F.type_list_append mt_append (ix_var (i := 5) rfl (.inl rfl)) (kx_cons (ix_tup_ (kx_cons (ix_sub_ (C.hu hk) (fun _ _ => rfl) (ix_var (i := 3) rfl (.inr (.inl rfl))) (ix_sub (ix_int) (ix_var (i := 6) rfl (.inl rfl)))) (kx_cons (ix_callTy snd_tupOf call_tuple_of rfl (C.free 1 _ rfl) PyProof.Rows.boot_tuple (kx_cons (ix_var (i := 8) rfl (.inl rfl)) kx_nil) (by decide) (by decide) rfl rfl) (kx_cons (ix_sub_ (C.hu hk) (fun _ _ => rfl) (ix_sub_ (C.hu hk) (fun _ _ => rfl) (ix_var (i := 4) rfl (.inr (.inl rfl))) (hx_call C 24 2 39 (d := df_24) rfl rfl rfl rfl rfl (kx_cons (ix_var (i := 0) rfl (.inr (.inl rfl))) (kx_cons (ix_callB snd_len cr_len rfl (C.free 7 _ rfl) boot_len (kx_cons (ix_var (i := 4) rfl (.inr (.inl rfl))) kx_nil) (by decide) (by decide) rfl rfl) kx_nil)) (iCons_len (iCons_len iNil_len)))) (ix_int)) kx_nil)))) kx_nil) rfl rfl rfl rfl rfl) rfl)))) (fun _ => rfl) (fun _ _ _ _ _ _ _ => trivial)) (ssx_cons (sx_set (k := 9) sc_31.nd rfl (.inl rfl) (ix_sub_ (C.hu hk) (fun _ _ => rfl) (ix_sub_ (C.hu hk) (fun _ _ => rfl) (ix_var (i := 4) rfl (.inr (.inl rfl))) (hx_call C 24 2 39 (d := df_24) rfl rfl rfl rfl rfl (kx_cons (ix_var (i := 0) rfl (.inr (.inl rfl))) (kx_cons (ix_callB snd_len cr_len rfl (C.free 7 _ rfl) boot_len (kx_cons (ix_var (i := 4) rfl (.inr (.inl rfl))) kx_nil) (by decide) (by decide) rfl rfl) kx_nil)) (iCons_len (iCons_len iNil_len)))) (ix_int)) rfl (.inl rfl)) (ssx_cons (sx_for PassesOwn.never C.calm (px_range1 rfl (C.free 40 _ rfl) (kx_cons (ix_int) kx_nil) rfl) (gx_name (k := 10) sc_31.nd rfl (.inl rfl) (.inl rfl)) (ssx_cons (sx_set (k := 11) sc_31.nd rfl (.inl rfl) (ix_sub_ (C.hu hk) (fun _ _ => rfl) (ix_sub_ (C.hu hk) (fun _ _ => rfl) (ix_var (i := 4) rfl (.inr (.inl rfl))) (hx_call C 24 2 39 (d := df_24) rfl rfl rfl rfl rfl (kx_cons (ix_var (i := 0) rfl (.inr (.inl rfl))) (kx_cons (ix_callB snd_len cr_len rfl (C.free 7 _ rfl) boot_len (kx_cons (ix_var (i := 4) rfl (.inr (.inl rfl))) kx_nil) (by decide) (by decide) rfl rfl) kx_nil)) (iCons_len (iCons_len iNil_len)))) (ix_int)) rfl (.inl rfl)) (ssx_cons (sx_expr (ix_bm snd_append PySem.F.plainAttrs_list PySem.F.slot_list_append PySem.F.type_list_append mt_append (ix_var (i := 5) rfl (.inl rfl)) (kx_cons (ix_tup_ (kx_cons (ix_sub_ (C.hu hk) (fun _ _ => rfl) (ix_var (i := 3) rfl (.inr (.inl rfl))) (ix_sub (ix_int) (ix_callB snd_len cr_len rfl (C.free 7 _ rfl) boot_len (kx_cons (ix_var (i := 5) rfl (.inl rfl)) kx_nil) (by decide) (by decide) rfl rfl))) (kx_cons (ix_tup_ (kx_cons (ix_tup_ (kx_cons (ix_sub_ (C.hu hk) (fun _ _ => rfl) (ix_var (i := 3) rfl (.inr (.inl rfl))) (ix_int)) (kx_cons (ix_var (i := 9) rfl (.inl rfl)) kx_nil))) kx_nil)) (kx_cons (ix_var (i := 11) rfl (.inl rfl)) kx_nil)))) kx_nil) rfl rfl rfl rfl rfl) rfl) (ssx_one (sx_set (k := 9) sc_31.nd rfl (.inl rfl) (ix_var (i := 11) rfl (.inl rfl)) rfl (.inl rfl))))) (fun _ => rfl) (fun _ _ _ _ _ _ _ => trivial)) (ssx_cons (sx_set (k := 12) sc_31.nd rfl (.inl rfl) (ix_lst_ kx_nil) rfl (.inl rfl)) (ssx_cons (sx_for PassesOwn.never C.calm (px_enum rfl (C.free 44 _ rfl) (kx_cons (ix_var (i := 5) rfl (.inl rfl)) kx_nil) rfl) (gx_tup C.calm (gsx_cons (gx_name (k := 6) sc_31.nd rfl (.inl rfl) (.inl rfl)) (gsx_cons (gx_name (k := 13) sc_31.nd rfl (.inl rfl) (.inl rfl)) gsx_nil rfl) rfl) rfl rfl) (ssx_cons (sx_set (k := 14) sc_31.nd rfl (.inl rfl) (hx_call C 30 5 43 (d := df_30) rfl rfl rfl rfl rfl (kx_cons (ix_var (i := 0) rfl (.inr (.inl rfl))) (kx_cons (ix_tup_ (kx_cons (ix_var (i := 4) rfl (.inr (.inl rfl))) (kx_cons (ix_var (i := 5) rfl (.inl rfl)) (kx_cons (ix_var (i := 3) rfl (.inr (.inl rfl))) kx_nil)))) (kx_cons (ix_callTy snd_listOf call_list_of rfl (C.free 5 _ rfl) PyProof.Rows.boot_list (kx_cons (ix_sub_ (C.hu hk) (fun _ _ => rfl) (ix_var (i := 13) rfl (.inl rfl)) (ix_int)) kx_nil) (by decide) (by decide) rfl rfl) (kx_cons (ix_var (i := 6) rfl (.inl rfl)) (kx_cons (ix_lst_ (kx_cons (ix_var (i := 2) rfl (.inl rfl)) kx_nil)) kx_nil))))) (iCons_len (iCons_len (iCons_len (iCons_len (iCons_len iNil_len)))))) rfl (.inl rfl)) (ssx_one (sx_expr (ix_bm snd_append PySem.F.plainAttrs_list PySem.F.slot_list_append PySem.F.type_list_append mt_append (ix_var (i := 12) rfl (.inl rfl)) (kx_cons (ix_add (ix_var (i := 13) rfl (.inl rfl)) (ix_tup_ (kx_cons (ix_var (i := 14) rfl (.inl rfl)) kx_nil))) kx_nil) rfl rfl rfl rfl rfl) rfl))) (fun _ => rfl) (fun _ _ _ _ _ _ _ => trivial)) (ssx_one (sx_ret (ix_tup_ (kx_cons (ix_tup_ (kx_cons (ix_var (i := 4) rfl (.inr (.inl rfl))) (kx_cons (ix_callTy snd_tupOf call_tuple_of rfl (C.free 1 _ rfl) PyProof.Rows.boot_tuple (kx_cons (ix_var (i := 12) rfl (.inl rfl)) kx_nil) (by decide) (by decide) rfl rfl) kx_nil))) (kx_cons (ix_var (i := 3) rfl (.inr (.inl rfl))) kx_nil)))))))))))))⟩
theorem bk_32 {cls : Nat → Addr} {k : Nat} {t : Nat → Fn} (hk : 16 ≤ k) : BodyOk cls k fas dfs css tus t df_32 (meant t 32) := ⟨sc_32, 1, 9, b_32 t, rfl, rfl, rfl, fun P w K mg base f cdv A outer s H E C =>
  (ssx_cons (sx_set (k := 1) sc_32.nd rfl (.inr rfl) (ix_dicK) rfl (.inl rfl)) (ssx_cons (sx_for PassesOwn.never C.calm (px_seq (ix_var (i := 0) rfl (.inl rfl))) (gx_name (k := 2) sc_32.nd rfl (.inl rfl) (.inl rfl)) (ssx_one (sx_for PassesOwn.never C.calm (px_seq (ix_var (i := 0) rfl (.inl rfl))) (gx_tup C.calm (gsx_cons (gx_name (k := 3) sc_32.nd rfl (.inl rfl) (.inl rfl)) (gsx_cons (gx_name (k := 4) sc_32.nd rfl (.inl rfl) (.inl rfl)) gsx_nil rfl) rfl) rfl rfl) (ssx_one (sx_for PassesOwn.never C.calm (px_seq (ix_var (i := 4) rfl (.inl rfl))) (gx_tup C.calm (gsx_cons (gx_name (k := 5) sc_32.nd rfl (.inl rfl) (.inl rfl)) (gsx_cons (gx_name (k := 6) sc_32.nd rfl (.inl rfl) (.inl rfl)) gsx_nil rfl) rfl) rfl rfl) (ssx_one (sx_if (jx_val (ix_callB snd_all (cr_all C.calm) rfl (C.free 49 _ rfl) PyProof.Rows.boot_all (kx_cons (ix_comp C.calm sc_32.nd (t := (CT.nm 8)) (own := [("_law_field", 8)]) (px_seq (ix_var (i := 6) rfl (.inl rfl))) (blkOk_by rfl) (by decide) (fun _ _ _ _ _ => pg_name sc_32.nd (i := 8) rfl (.inl rfl) (.inr rfl)) (fun _ _ _ _ _ => tx_nil) (fun _ _ _ _ _ => (ix_in ((Has.blk C _ _ _ _ _).hu hk) rfl (ix_var (i := 8) rfl (.inl rfl)) (ix_var (i := 1) rfl (.inr (.inl rfl))))) (fun _ => rfl)) kx_nil) (by decide) (by decide) rfl rfl) (fun _ => rfl)) (ssx_cons (sx_set (k := 7) sc_32.nd rfl (.inl rfl) (ix_add (ix_int) (ix_callB snd_sum (cr_sum C.calm) rfl (C.free 32 _ rfl) PyProof.Rows.boot_sum (kx_cons (ix_comp C.calm sc_32.nd (t := (CT.nm 8)) (own := [("_law_field", 8)]) (px_seq (ix_var (i := 6) rfl (.inl rfl))) (blkOk_by rfl) (by decide) (fun _ _ _ _ _ => pg_name sc_32.nd (i := 8) rfl (.inl rfl) (.inr rfl)) (fun _ _ _ _ _ => tx_nil) (fun _ _ _ _ _ => (ix_sub_ ((Has.blk C _ _ _ _ _).hu hk) (fun _ _ => rfl) (ix_var (i := 1) rfl (.inr (.inl rfl))) (ix_var (i := 8) rfl (.inl rfl)))) (fun _ => rfl)) kx_nil) (by decide) (by decide) rfl rfl)) rfl (.inl rfl)) (ssx_one (sx_asg (ix_callB snd_min2 (call_min2 C.calm) rfl (C.free 50 _ rfl) PyProof.Rows.boot_min (kx_cons (ix_get2 (C.hu hk) (ix_var (i := 1) rfl (.inr (.inl rfl))) (ix_var (i := 3) rfl (.inl rfl)) (ix_var (i := 7) rfl (.inl rfl)) ⟨rfl, rfl, rfl, rfl⟩) (kx_cons (ix_var (i := 7) rfl (.inl rfl)) kx_nil)) (by decide) (by decide) rfl rfl) (gx_sub (C.hu hk) (ix_var (i := 1) rfl (.inr (.inl rfl))) (ix_var (i := 3) rfl (.inl rfl)) (fun _ => rfl)) rfl rfl rfl))) ssx_nil)) (fun _ => rfl) (fun _ _ _ _ _ _ _ => trivial))) (fun _ => rfl) (fun _ _ _ _ _ _ _ => trivial))) (fun _ => rfl) (fun _ _ _ _ _ _ _ => trivial)) (ssx_one (sx_ret (ix_var (i := 1) rfl (.inr (.inl rfl)))))))⟩
theorem bk_33 {cls : Nat → Addr} {k : Nat} {t : Nat → Fn} (hk : 16 ≤ k) : BodyOk cls k fas dfs css tus t df_33 (meant t 33) := ⟨sc_33, 5, 15, b_33 t, rfl, rfl, rfl, fun P w K mg base f cdv A outer s H E C =>
  (ssx_cons (sx_set (k := 5) sc_33.nd rfl (.inl rfl) (ix_lst_ kx_nil) rfl (.inl rfl)) (ssx_cons (sx_for PassesOwn.never C.calm (px_seq (ix_sub_ (C.hu hk) (fun _ _ => rfl) (ix_callTy snd_dictOf (call_dictPT C.calm) rfl (C.free 41 _ rfl) PyProof.Rows.boot_dict (kx_cons (ix_var (i := 1) rfl (.inl rfl)) kx_nil) (by decide) (by decide) rfl rfl) (ix_var (i := 3) rfl (.inr (.inl rfl))))) (gx_tup C.calm (gsx_cons (gx_name (k := 6) sc_33.nd rfl (.inl rfl) (.inl rfl)) (gsx_cons (gx_name (k := 7) sc_33.nd rfl (.inl rfl) (.inl rfl)) gsx_nil rfl) rfl) rfl rfl) (ssx_one (sx_if (jx_val (ix_callB snd_all (cr_all C.calm) rfl (C.free 49 _ rfl) PyProof.Rows.boot_all (kx_cons (ix_comp C.calm sc_33.nd (t := (CT.nm 12)) (own := [("_law_field", 12)]) (px_seq (ix_var (i := 7) rfl (.inl rfl))) (blkOk_by rfl) (by decide) (fun _ _ _ _ _ => pg_name sc_33.nd (i := 12) rfl (.inl rfl) (.inr rfl)) (fun _ _ _ _ _ => tx_nil) (fun _ _ _ _ _ => (ix_in ((Has.blk C _ _ _ _ _).hu hk) rfl (ix_var (i := 12) rfl (.inl rfl)) (ix_var (i := 2) rfl (.inr (.inl rfl))))) (fun _ => rfl)) kx_nil) (by decide) (by decide) rfl rfl) (fun _ => rfl)) (ssx_one (sx_expr (ix_bm snd_append PySem.F.plainAttrs_list PySem.F.slot_list_append PySem.F.type_list_append mt_append (ix_var (i := 5) rfl (.inl rfl)) (kx_cons (ix_tup_ (kx_cons (ix_add (ix_int) (ix_callB snd_sum (cr_sum C.calm) rfl (C.free 32 _ rfl) PyProof.Rows.boot_sum (kx_cons (ix_comp C.calm sc_33.nd (t := (CT.nm 12)) (own := [("_law_field", 12)]) (px_seq (ix_var (i := 7) rfl (.inl rfl))) (blkOk_by rfl) (by decide) (fun _ _ _ _ _ => pg_name sc_33.nd (i := 12) rfl (.inl rfl) (.inr rfl)) (fun _ _ _ _ _ => tx_nil) (fun _ _ _ _ _ => (ix_sub_ ((Has.blk C _ _ _ _ _).hu hk) (fun _ _ => rfl) (ix_var (i := 2) rfl (.inr (.inl rfl))) (ix_var (i := 12) rfl (.inl rfl)))) (fun _ => rfl)) kx_nil) (by decide) (by decide) rfl rfl)) (kx_cons (ix_var (i := 6) rfl (.inl rfl)) (kx_cons (ix_var (i := 7) rfl (.inl rfl)) kx_nil)))) kx_nil) rfl rfl rfl rfl rfl) rfl)) ssx_nil)) (fun _ => rfl) (fun _ _ _ _ _ _ _ => trivial)) (ssx_cons (sx_setComp (i := 5) C.calm sc_33.nd rfl rfl rfl (t := (CT.nm 14)) (own := [("_law_one", 14)]) (px_seq (ix_var (i := 5) rfl (.inl rfl))) (blkOk_by rfl) (by decide) (fun _ _ _ _ _ => pg_name sc_33.nd (i := 14) rfl (.inl rfl) (.inr rfl)) (fun _ _ _ _ _ => (tx_one (jx_le rfl (ix_sub_ ((Has.blk C _ _ _ _ _).hu hk) (fun _ _ => rfl) (ix_var (i := 14) rfl (.inl rfl)) (ix_int)) (ix_callB snd_max2 (call_max2 (Has.blk C _ _ _ _ _).calm) rfl ((Has.blk C _ _ _ _ _).free 10 _ rfl) PyProof.Rows.boot_max (kx_cons (ix_var (i := 4) rfl (.inr (.inl rfl))) (kx_cons (ix_sub_ ((Has.blk C _ _ _ _ _).hu hk) (fun _ _ => rfl) (ix_var (i := 2) rfl (.inr (.inl rfl))) (ix_var (i := 3) rfl (.inr (.inl rfl)))) kx_nil)) (by decide) (by decide) rfl rfl)))) (fun _ _ _ _ _ => (ix_var (i := 14) rfl (.inl rfl))) (fun _ => rfl)) (ssx_cons (sx_asg (ix_sub_ (C.hu hk) (fun _ _ => rfl) (ix_var (i := 5) rfl (.inl rfl)) (hx_call C 24 2 39 (d := df_24) rfl rfl rfl rfl rfl (kx_cons (ix_var (i := 0) rfl (.inl rfl)) (kx_cons (ix_callB snd_len cr_len rfl (C.free 7 _ rfl) boot_len (kx_cons (ix_var (i := 5) rfl (.inl rfl)) kx_nil) (by decide) (by decide) rfl rfl) kx_nil)) (iCons_len (iCons_len iNil_len)))) (gx_tup C.calm (gsx_cons (gx_name (k := 8) sc_33.nd rfl (.inl rfl) (.inl rfl)) (gsx_cons (gx_name (k := 6) sc_33.nd rfl (.inl rfl) (.inl rfl)) (gsx_cons (gx_name (k := 7) sc_33.nd rfl (.inl rfl) (.inl rfl)) gsx_nil rfl) rfl) rfl) rfl rfl) rfl rfl rfl) (ssx_cons (sx_set (k := 9) sc_33.nd rfl (.inl rfl) (ix_sub (ix_var (i := 4) rfl (.inr (.inl rfl))) (ix_int)) rfl (.inl rfl)) (ssx_cons (sx_set (k := 10) sc_33.nd rfl (.inl rfl) (ix_lst_ kx_nil) rfl (.inl rfl)) (ssx_cons (sx_for PassesOwn.never C.calm (px_enum rfl (C.free 44 _ rfl) (kx_cons (ix_var (i := 7) rfl (.inl rfl)) kx_nil) rfl) (gx_tup C.calm (gsx_cons (gx_name (k := 11) sc_33.nd rfl (.inl rfl) (.inl rfl)) (gsx_cons (gx_name (k := 12) sc_33.nd rfl (.inl rfl) (.inl rfl)) gsx_nil rfl) rfl) rfl rfl) (ssx_cons (sx_set (k := 13) sc_33.nd rfl (.inl rfl) (ix_sub_ (C.hu hk) (fun _ _ => rfl) (ix_lst_ (kx_cons (ix_var (i := 9) rfl (.inl rfl)) (kx_cons (hx_call C 24 2 39 (d := df_24) rfl rfl rfl rfl rfl (kx_cons (ix_var (i := 0) rfl (.inl rfl)) (kx_cons (ix_add (ix_callB snd_max2 (call_max2 C.calm) rfl (C.free 10 _ rfl) PyProof.Rows.boot_max (kx_cons (ix_int) (kx_cons (ix_var (i := 9) rfl (.inl rfl)) kx_nil)) (by decide) (by decide) rfl rfl) (ix_int)) kx_nil)) (iCons_len (iCons_len iNil_len))) kx_nil))) (ix_callTy snd_intOf call_int1 rfl (C.free 28 _ rfl) PyProof.Rows.boot_int (kx_cons (ix_lt rfl (ix_add (ix_var (i := 11) rfl (.inl rfl)) (ix_int)) (ix_callB snd_len cr_len rfl (C.free 7 _ rfl) boot_len (kx_cons (ix_var (i := 7) rfl (.inl rfl)) kx_nil) (by decide) (by decide) rfl rfl)) kx_nil) (by decide) (by decide) rfl rfl)) rfl (.inl rfl)) (ssx_cons (sx_expr (ix_bm snd_append PySem.F.plainAttrs_list PySem.F.slot_list_append PySem.F.type_list_append mt_append (ix_var (i := 10) rfl (.inl rfl)) (kx_cons (hx_call C 33 5 51 (d := df_33) rfl rfl rfl rfl rfl (kx_cons (ix_var (i := 0) rfl (.inl rfl)) (kx_cons (ix_var (i := 1) rfl (.inl rfl)) (kx_cons (ix_var (i := 2) rfl (.inr (.inl rfl))) (kx_cons (ix_var (i := 12) rfl (.inl rfl)) (kx_cons (ix_var (i := 13) rfl (.inl rfl)) kx_nil))))) (iCons_len (iCons_len (iCons_len (iCons_len (iCons_len iNil_len)))))) kx_nil) rfl rfl rfl rfl rfl) rfl) (ssx_one (sx_set (k := 9) sc_33.nd rfl (.inl rfl) (ix_sub (ix_var (i := 9) rfl (.inl rfl)) (ix_var (i := 13) rfl (.inl rfl))) rfl (.inl rfl))))) (fun _ => rfl) (fun _ _ _ _ _ _ _ => trivial)) (ssx_one (sx_ret (ix_tup_ (kx_cons (ix_var (i := 6) rfl (.inl rfl)) (kx_cons (ix_callTy snd_tupOf call_tuple_of rfl (C.free 1 _ rfl) PyProof.Rows.boot_tuple (kx_cons (ix_var (i := 10) rfl (.inl rfl)) kx_nil) (by decide) (by decide) rfl rfl) kx_nil))))))))))))⟩
theorem bk_34 {cls : Nat → Addr} {k : Nat} {t : Nat → Fn} (hk : 16 ≤ k) : BodyOk cls k fas dfs css tus t df_34 (meant t 34) := ⟨sc_34, 3, 5, b_34 t, rfl, rfl, rfl, fun P w K mg base f cdv A outer s H E C =>
  (ssx_cons (sx_set (k := 3) sc_34.nd rfl (.inl rfl) (ix_tup_ (kx_cons (ix_var (i := 0) rfl (.inl rfl)) (kx_cons (ix_tup_ kx_nil) kx_nil))) rfl (.inl rfl)) (ssx_cons (sx_for PassesOwn.never C.calm (px_rev rfl (C.free 6 _ rfl) (ix_var (i := 2) rfl (.inl rfl)) rfl) (gx_name (k := 4) sc_34.nd rfl (.inl rfl) (.inl rfl)) (ssx_one (sx_set (k := 3) sc_34.nd rfl (.inl rfl) (ix_tup_ (kx_cons (ix_var (i := 1) rfl (.inl rfl)) (kx_cons (ix_tup_ (kx_cons (ix_var (i := 4) rfl (.inl rfl)) (kx_cons (ix_var (i := 3) rfl (.inl rfl)) kx_nil))) kx_nil))) rfl (.inl rfl))) (fun _ => rfl) (fun _ _ _ _ _ _ _ => trivial)) (ssx_one (sx_ret (ix_var (i := 3) rfl (.inl rfl))))))⟩
theorem bk_35 {cls : Nat → Addr} {k : Nat} {t : Nat → Fn} (hk : 16 ≤ k) : BodyOk cls k fas dfs css tus t df_35 (meant t 35) := ⟨sc_35, 1, 2, b_35 t, rfl, rfl, rfl, fun P w K mg base f cdv A outer s H E C =>
  (ssx_cons (sx_set (k := 1) sc_35.nd rfl (.inl rfl) (ix_lst_ kx_nil) rfl (.inl rfl)) (ssx_cons (sx_while PassesOwn.never (jx_eq (C.hu hk) rfl (ix_callB snd_len cr_len rfl (C.free 7 _ rfl) boot_len (kx_cons (ix_sub_ (C.hu hk) (fun _ _ => rfl) (ix_var (i := 0) rfl (.inl rfl)) (ix_int)) kx_nil) (by decide) (by decide) rfl rfl) (ix_int)) (ssx_cons (sx_expr (ix_bm snd_append PySem.F.plainAttrs_list PySem.F.slot_list_append PySem.F.type_list_append mt_append (ix_var (i := 1) rfl (.inl rfl)) (kx_cons (ix_sub_ (C.hu hk) (fun _ _ => rfl) (ix_sub_ (C.hu hk) (fun _ _ => rfl) (ix_var (i := 0) rfl (.inl rfl)) (ix_int)) (ix_int)) kx_nil) rfl rfl rfl rfl rfl) rfl) (ssx_one (sx_set (k := 0) sc_35.nd rfl (.inl rfl) (ix_sub_ (C.hu hk) (fun _ _ => rfl) (ix_sub_ (C.hu hk) (fun _ _ => rfl) (ix_var (i := 0) rfl (.inl rfl)) (ix_int)) (ix_int)) rfl (.inl rfl))))) (ssx_one (sx_ret (ix_var (i := 1) rfl (.inl rfl))))))⟩
theorem bk_36 {cls : Nat → Addr} {k : Nat} {t : Nat → Fn} (hk : 16 ≤ k) : BodyOk cls k fas dfs css tus t df_36 (meant t 36) := ⟨sc_36, 3, 4, b_36 t, rfl, rfl, rfl, fun P w K mg base f cdv A outer s H E C =>
  (ssx_cons (sx_if (jx_ne (C.hu hk) rfl (ix_sub_ (C.hu hk) (fun _ _ => rfl) (ix_var (i := 0) rfl (.inl rfl)) (ix_int)) (ix_str)) (ssx_one (sx_ret (ix_non))) ssx_nil) (ssx_cons (sx_set (k := 3) sc_36.nd rfl (.inl rfl) (hx_call C 35 1 53 (d := df_35) rfl rfl rfl rfl rfl (kx_cons (ix_sub_ (C.hu hk) (fun _ _ => rfl) (ix_var (i := 0) rfl (.inl rfl)) (ix_int)) kx_nil) (iCons_len iNil_len)) rfl (.inl rfl)) (ssx_one (sx_ret (ix_sub_ (C.hu hk) (fun _ _ => rfl) (ix_lst_ (kx_cons (ix_non) (kx_cons (ix_var (i := 3) rfl (.inl rfl)) kx_nil))) (ix_callTy snd_intOf call_int1 rfl (C.free 28 _ rfl) PyProof.Rows.boot_int (kx_cons (ix_eq (C.hu hk) rfl (ix_sub_ (C.hu hk) (fun _ _ => rfl) (ix_var (i := 0) rfl (.inl rfl)) (ix_int)) (hx_call C 34 3 52 (d := df_34) rfl rfl rfl rfl rfl (kx_cons (ix_var (i := 1) rfl (.inl rfl)) (kx_cons (ix_var (i := 2) rfl (.inl rfl)) (kx_cons (ix_var (i := 3) rfl (.inl rfl)) kx_nil))) (iCons_len (iCons_len (iCons_len iNil_len))))) kx_nil) (by decide) (by decide) rfl rfl))))))⟩
theorem bk_37 {cls : Nat → Addr} {k : Nat} {t : Nat → Fn} (hk : 16 ≤ k) : BodyOk cls k fas dfs css tus t df_37 (meant t 37) := ⟨sc_37, 3, 13, b_37 t, rfl, rfl, rfl, fun P w K mg base f cdv A outer s H E C =>
  (ssx_cons (sx_asg (ix_var (i := 1) rfl (.inl rfl)) (gx_tup C.calm (gsx_cons (gx_name (k := 3) sc_37.nd rfl (.inl rfl) (.inl rfl)) (gsx_cons (gx_name (k := 4) sc_37.nd rfl (.inl rfl) (.inl rfl)) (gsx_cons (gx_name (k := 5) sc_37.nd rfl (.inl rfl) (.inl rfl)) gsx_nil rfl) rfl) rfl) rfl rfl) rfl rfl rfl) (ssx_cons (sx_set (k := 6) sc_37.nd rfl (.inl rfl) (ix_sub (ix_callB snd_len cr_len rfl (C.free 7 _ rfl) boot_len (kx_cons (ix_sub_ (C.hu hk) (fun _ _ => rfl) (ix_var (i := 0) rfl (.inl rfl)) (ix_int)) kx_nil) (by decide) (by decide) rfl rfl) (ix_int)) rfl (.inl rfl)) (ssx_cons (sx_set (k := 7) sc_37.nd rfl (.inl rfl) (hx_call C 22 5 55 (d := df_22) rfl rfl rfl rfl rfl (kx_cons (ix_var (i := 0) rfl (.inl rfl)) (kx_cons (ix_var (i := 6) rfl (.inl rfl)) (kx_cons (ix_lst_ (kx_cons (hx_call C 34 3 52 (d := df_34) rfl rfl rfl rfl rfl (kx_cons (ix_sub_ (C.hu hk) (fun _ _ => rfl) (ix_var (i := 3) rfl (.inl rfl)) (ix_int)) (kx_cons (ix_sub_ (C.hu hk) (fun _ _ => rfl) (ix_var (i := 3) rfl (.inl rfl)) (ix_int)) (kx_cons (ix_var (i := 2) rfl (.inl rfl)) kx_nil))) (iCons_len (iCons_len (iCons_len iNil_len)))) kx_nil)) (kx_cons (ix_pow (ix_int) (ix_int)) (kx_cons (ix_int) kx_nil))))) (iCons_len (iCons_len (iCons_len (iCons_len (iCons_len iNil_len)))))) rfl (.inl rfl)) (ssx_cons (sx_set (k := 8) sc_37.nd rfl (.inl rfl) (hx_call C 22 5 55 (d := df_22) rfl rfl rfl rfl rfl (kx_cons (ix_var (i := 0) rfl (.inl rfl)) (kx_cons (ix_add (ix_var (i := 6) rfl (.inl rfl)) (ix_int)) (kx_cons (ix_lst_ (kx_cons (hx_call C 34 3 52 (d := df_34) rfl rfl rfl rfl rfl (kx_cons (ix_sub_ (C.hu hk) (fun _ _ => rfl) (ix_var (i := 4) rfl (.inl rfl)) (ix_int)) (kx_cons (ix_sub_ (C.hu hk) (fun _ _ => rfl) (ix_var (i := 4) rfl (.inl rfl)) (ix_int)) (kx_cons (ix_var (i := 2) rfl (.inl rfl)) kx_nil))) (iCons_len (iCons_len (iCons_len iNil_len)))) kx_nil)) (kx_cons (ix_pow (ix_int) (ix_int)) (kx_cons (ix_int) kx_nil))))) (iCons_len (iCons_len (iCons_len (iCons_len (iCons_len iNil_len)))))) rfl (.inl rfl)) (ssx_cons (sx_set (k := 9) sc_37.nd rfl (.inl rfl) (hx_call C 36 3 54 (d := df_36) rfl rfl rfl rfl rfl (kx_cons (ix_sub_ (C.hu hk) (fun _ _ => rfl) (ix_var (i := 8) rfl (.inl rfl)) (ix_int)) (kx_cons (ix_sub_ (C.hu hk) (fun _ _ => rfl) (ix_var (i := 4) rfl (.inl rfl)) (ix_int)) (kx_cons (ix_sub_ (C.hu hk) (fun _ _ => rfl) (ix_var (i := 4) rfl (.inl rfl)) (ix_int)) kx_nil))) (iCons_len (iCons_len (iCons_len iNil_len)))) rfl (.inl rfl)) (ssx_cons (sx_if (jx_is rfl (ix_var (i := 9) rfl (.inl rfl)) (ix_non)) (ssx_one (sx_ret (ix_in (C.hu hk) rfl (ix_sub_ (C.hu hk) (fun _ _ => rfl) (ix_sub_ (C.hu hk) (fun _ _ => rfl) (ix_var (i := 8) rfl (.inl rfl)) (ix_int)) (ix_int)) (ix_tup_ (kx_cons (ix_str) (kx_cons (ix_str) kx_nil)))))) ssx_nil) (ssx_cons (sx_set (k := 10) sc_37.nd rfl (.inl rfl) (hx_call C 22 5 55 (d := df_22) rfl rfl rfl rfl rfl (kx_cons (ix_var (i := 0) rfl (.inl rfl)) (kx_cons (ix_add (ix_var (i := 6) rfl (.inl rfl)) (ix_int)) (kx_cons (ix_lst_ (kx_cons (hx_call C 34 3 52 (d := df_34) rfl rfl rfl rfl rfl (kx_cons (ix_sub_ (C.hu hk) (fun _ _ => rfl) (ix_var (i := 5) rfl (.inl rfl)) (ix_int)) (kx_cons (ix_sub_ (C.hu hk) (fun _ _ => rfl) (ix_var (i := 5) rfl (.inl rfl)) (ix_int)) (kx_cons (ix_var (i := 9) rfl (.inl rfl)) kx_nil))) (iCons_len (iCons_len (iCons_len iNil_len)))) kx_nil)) (kx_cons (ix_sub_ (C.hu hk) (fun _ _ => rfl) (ix_var (i := 8) rfl (.inl rfl)) (ix_int)) (kx_cons (ix_int) kx_nil))))) (iCons_len (iCons_len (iCons_len (iCons_len (iCons_len iNil_len)))))) rfl (.inl rfl)) (ssx_cons (sx_set (k := 11) sc_37.nd rfl (.inl rfl) (hx_call C 36 3 54 (d := df_36) rfl rfl rfl rfl rfl (kx_cons (ix_sub_ (C.hu hk) (fun _ _ => rfl) (ix_var (i := 10) rfl (.inl rfl)) (ix_int)) (kx_cons (ix_sub_ (C.hu hk) (fun _ _ => rfl) (ix_var (i := 5) rfl (.inl rfl)) (ix_int)) (kx_cons (ix_sub_ (C.hu hk) (fun _ _ => rfl) (ix_var (i := 5) rfl (.inl rfl)) (ix_int)) kx_nil))) (iCons_len (iCons_len (iCons_len iNil_len)))) rfl (.inl rfl)) (ssx_cons (sx_if (jx_is rfl (ix_var (i := 11) rfl (.inl rfl)) (ix_non)) (ssx_one (sx_ret (ix_in (C.hu hk) rfl (ix_sub_ (C.hu hk) (fun _ _ => rfl) (ix_sub_ (C.hu hk) (fun _ _ => rfl) (ix_var (i := 10) rfl (.inl rfl)) (ix_int)) (ix_int)) (ix_tup_ (kx_cons (ix_str) (kx_cons (ix_str) kx_nil)))))) ssx_nil) (ssx_cons (sx_if (wx_pt (wx_or (jx_ne (C.hu hk) rfl (ix_callB snd_len cr_len rfl (C.free 7 _ rfl) boot_len (kx_cons (ix_var (i := 9) rfl (.inl rfl)) kx_nil) (by decide) (by decide) rfl rfl) (ix_callB snd_len cr_len rfl (C.free 7 _ rfl) boot_len (kx_cons (ix_var (i := 2) rfl (.inl rfl)) kx_nil) (by decide) (by decide) rfl rfl)) (wx_or1 (jx_ne (C.hu hk) rfl (ix_callB snd_len cr_len rfl (C.free 7 _ rfl) boot_len (kx_cons (ix_var (i := 11) rfl (.inl rfl)) kx_nil) (by decide) (by decide) rfl rfl) (ix_callB snd_len cr_len rfl (C.free 7 _ rfl) boot_len (kx_cons (ix_var (i := 2) rfl (.inl rfl)) kx_nil) (by decide) (by decide) rfl rfl))))) (ssx_one (sx_ret (ix_bl))) ssx_nil) (ssx_cons (sx_set (k := 12) sc_37.nd rfl (.inl rfl) (ix_sub (ix_sub (ix_add (ix_sub_ (C.hu hk) (fun _ _ => rfl) (ix_var (i := 8) rfl (.inl rfl)) (ix_int)) (ix_sub_ (C.hu hk) (fun _ _ => rfl) (ix_var (i := 10) rfl (.inl rfl)) (ix_int))) (ix_mul (ix_int) (ix_callB snd_len cr_len rfl (C.free 7 _ rfl) boot_len (kx_cons (ix_var (i := 2) rfl (.inl rfl)) kx_nil) (by decide) (by decide) rfl rfl))) (ix_int)) rfl (.inl rfl)) (ssx_one (sx_ret (ix_eq (C.hu hk) rfl (ix_var (i := 7) rfl (.inl rfl)) (ix_tup_ (kx_cons (ix_tup_ (kx_cons (ix_str) (kx_cons (hx_call C 34 3 52 (d := df_34) rfl rfl rfl rfl rfl (kx_cons (ix_sub_ (C.hu hk) (fun _ _ => rfl) (ix_var (i := 3) rfl (.inl rfl)) (ix_int)) (kx_cons (ix_sub_ (C.hu hk) (fun _ _ => rfl) (ix_var (i := 3) rfl (.inl rfl)) (ix_int)) (kx_cons (ix_var (i := 11) rfl (.inl rfl)) kx_nil))) (iCons_len (iCons_len (iCons_len iNil_len)))) kx_nil))) (kx_cons (ix_sub_ (C.hu hk) (fun _ _ => rfl) (ix_var (i := 10) rfl (.inl rfl)) (ix_int)) (kx_cons (ix_var (i := 12) rfl (.inl rfl)) kx_nil))))))))))))))))))⟩
theorem bk_38 {cls : Nat → Addr} {k : Nat} {t : Nat → Fn} (hk : 16 ≤ k) : BodyOk cls k fas dfs css tus t df_38 (meant t 38) := ⟨sc_38, 1, 12, b_38 t, rfl, rfl, rfl, fun P w K mg base f cdv A outer s H E C =>
  (ssx_cons (sx_set (k := 1) sc_38.nd rfl (.inl rfl) (hx_call C 23 2 61 (d := df_23) rfl rfl rfl rfl rfl (kx_cons (ix_var (i := 0) rfl (.inl rfl)) (kx_cons (ix_int) kx_nil)) (iCons_len (iCons_len iNil_len))) rfl (.inl rfl)) (ssx_cons (sx_asg (hx_call C 31 3 60 (d := df_31) rfl rfl rfl rfl rfl (kx_cons (ix_var (i := 1) rfl (.inl rfl)) (kx_cons (ix_int) (kx_cons (ix_add (ix_int) (hx_call C 24 2 39 (d := df_24) rfl rfl rfl rfl rfl (kx_cons (ix_var (i := 1) rfl (.inl rfl)) (kx_cons (ix_int) kx_nil)) (iCons_len (iCons_len iNil_len)))) kx_nil))) (iCons_len (iCons_len (iCons_len iNil_len)))) (gx_tup C.calm (gsx_cons (gx_name (k := 2) sc_38.nd rfl (.inl rfl) (.inl rfl)) (gsx_cons (gx_name (k := 3) sc_38.nd rfl (.inr rfl) (.inl rfl)) gsx_nil rfl) rfl) rfl rfl) rfl rfl rfl) (ssx_cons (sx_set (k := 4) sc_38.nd rfl (.inl rfl) (ix_callB snd_len cr_len rfl (C.free 7 _ rfl) boot_len (kx_cons (ix_sub_ (C.hu hk) (fun _ _ => rfl) (ix_var (i := 2) rfl (.inl rfl)) (ix_int)) kx_nil) (by decide) (by decide) rfl rfl) rfl (.inl rfl)) (ssx_cons (sx_setComp (i := 5) C.calm sc_38.nd rfl rfl rfl (t := (CT.nm 11)) (own := [("_law_k", 11)]) (px_range1 rfl (C.free 40 _ rfl) (kx_cons (ix_int) kx_nil) rfl) (blkOk_by rfl) (by decide) (fun _ _ _ _ _ => pg_name sc_38.nd (i := 11) rfl (.inl rfl) (.inr rfl)) (fun _ _ _ _ _ => tx_nil) (fun _ _ _ _ _ => (ix_callTy snd_tupOf call_tuple_of rfl ((Has.blk C _ _ _ _ _).free 1 _ rfl) PyProof.Rows.boot_tuple (kx_cons (ix_slice (ix_var (i := 3) rfl (.inr (.inl rfl))) (nx_part (ix_add (ix_int) (ix_mul (ix_int) (ix_var (i := 11) rfl (.inl rfl))))) (nx_part (ix_add (ix_int) (ix_mul (ix_int) (ix_var (i := 11) rfl (.inl rfl)))))) kx_nil) (by decide) (by decide) rfl rfl)) (fun _ => rfl)) (ssx_cons (sx_set (k := 6) sc_38.nd rfl (.inl rfl) (hx_call C 2 4 59 (d := df_2) rfl rfl rfl rfl rfl (kx_cons (ix_var (i := 2) rfl (.inl rfl)) (kx_cons (ix_sub (ix_var (i := 4) rfl (.inl rfl)) (ix_int)) (kx_cons (ix_sub (ix_var (i := 4) rfl (.inl rfl)) (ix_int)) (kx_cons (ix_sub_ (C.hu hk) (fun _ _ => rfl) (ix_var (i := 3) rfl (.inr (.inl rfl))) (ix_int)) kx_nil)))) (iCons_len (iCons_len (iCons_len (iCons_len iNil_len))))) rfl (.inl rfl)) (ssx_cons (sx_set (k := 6) sc_38.nd rfl (.inl rfl) (hx_call C 3 3 58 (d := df_3) rfl rfl rfl rfl rfl (kx_cons (ix_var (i := 6) rfl (.inl rfl)) (kx_cons (ix_var (i := 4) rfl (.inl rfl)) (kx_cons (ix_sub_ (C.hu hk) (fun _ _ => rfl) (ix_var (i := 5) rfl (.inl rfl)) (ix_int)) kx_nil))) (iCons_len (iCons_len (iCons_len iNil_len)))) rfl (.inl rfl)) (ssx_cons (sx_set (k := 6) sc_38.nd rfl (.inl rfl) (hx_call C 3 3 58 (d := df_3) rfl rfl rfl rfl rfl (kx_cons (ix_var (i := 6) rfl (.inl rfl)) (kx_cons (ix_sub (ix_var (i := 4) rfl (.inl rfl)) (ix_int)) (kx_cons (ix_sub_ (C.hu hk) (fun _ _ => rfl) (ix_var (i := 5) rfl (.inl rfl)) (ix_int)) kx_nil))) (iCons_len (iCons_len (iCons_len iNil_len)))) rfl (.inl rfl)) (ssx_cons (sx_set (k := 6) sc_38.nd rfl (.inl rfl) (hx_call C 3 3 58 (d := df_3) rfl rfl rfl rfl rfl (kx_cons (ix_var (i := 6) rfl (.inl rfl)) (kx_cons (ix_sub (ix_var (i := 4) rfl (.inl rfl)) (ix_int)) (kx_cons (ix_sub_ (C.hu hk) (fun _ _ => rfl) (ix_var (i := 5) rfl (.inl rfl)) (ix_int)) kx_nil))) (iCons_len (iCons_len (iCons_len iNil_len)))) rfl (.inl rfl)) (ssx_cons (sx_set (k := 7) sc_38.nd rfl (.inl rfl) (hx_call C 32 1 57 (d := df_32) rfl rfl rfl rfl rfl (kx_cons (ix_sub_ (C.hu hk) (fun _ _ => rfl) (ix_var (i := 2) rfl (.inl rfl)) (ix_int)) kx_nil) (iCons_len iNil_len)) rfl (.inl rfl)) (ssx_cons (sx_set (k := 8) sc_38.nd rfl (.inl rfl) (ix_sub_ (C.hu hk) (fun _ _ => rfl) (ix_sub_ (C.hu hk) (fun _ _ => rfl) (ix_sub_ (C.hu hk) (fun _ _ => rfl) (ix_sub_ (C.hu hk) (fun _ _ => rfl) (ix_sub_ (C.hu hk) (fun _ _ => rfl) (ix_var (i := 2) rfl (.inl rfl)) (ix_int)) (ix_sub (ix_var (i := 4) rfl (.inl rfl)) (ix_int))) (ix_int)) (ix_int)) (ix_int)) rfl (.inl rfl)) (ssx_cons (sx_for PassesOwn.never C.calm (px_range1 rfl (C.free 40 _ rfl) (kx_cons (ix_int) kx_nil) rfl) (gx_name (k := 9) sc_38.nd rfl (.inl rfl) (.inl rfl)) (ssx_cons (sx_set (k := 10) sc_38.nd rfl (.inl rfl) (ix_lst_ kx_nil) rfl (.inl rfl)) (ssx_cons (sx_for PassesOwn.never C.calm (px_range1 rfl (C.free 40 _ rfl) (kx_cons (ix_mul (hx_call C 24 2 39 (d := df_24) rfl rfl rfl rfl rfl (kx_cons (ix_var (i := 1) rfl (.inl rfl)) (kx_cons (ix_sub_ (C.hu hk) (fun _ _ => rfl) (ix_lst_ (kx_cons (ix_int) (kx_cons (ix_int) kx_nil))) (ix_var (i := 9) rfl (.inl rfl))) kx_nil)) (iCons_len (iCons_len iNil_len))) (ix_callTy snd_intOf call_int1 rfl (C.free 28 _ rfl) PyProof.Rows.boot_int (kx_cons (ix_in (C.hu hk) rfl (ix_var (i := 8) rfl (.inl rfl)) (ix_var (i := 7) rfl (.inl rfl))) kx_nil) (by decide) (by decide) rfl rfl)) kx_nil) rfl) (gx_name (k := 11) sc_38.nd rfl (.inl rfl) (.inl rfl)) (ssx_one (sx_expr (ix_bm snd_append PySem.F.plainAttrs_list PySem.F.slot_list_append PySem.F.type_list_append mt_append (ix_var (i := 10) rfl (.inl rfl)) (kx_cons (hx_call C 33 5 51 (d := df_33) rfl rfl rfl rfl rfl (kx_cons (ix_var (i := 1) rfl (.inl rfl)) (kx_cons (ix_sub_ (C.hu hk) (fun _ _ => rfl) (ix_var (i := 2) rfl (.inl rfl)) (ix_int)) (kx_cons (ix_var (i := 7) rfl (.inl rfl)) (kx_cons (ix_var (i := 8) rfl (.inl rfl)) (kx_cons (hx_call C 24 2 39 (d := df_24) rfl rfl rfl rfl rfl (kx_cons (ix_var (i := 1) rfl (.inl rfl)) (kx_cons (ix_int) kx_nil)) (iCons_len (iCons_len iNil_len))) kx_nil))))) (iCons_len (iCons_len (iCons_len (iCons_len (iCons_len iNil_len)))))) kx_nil) rfl rfl rfl rfl rfl) rfl)) (fun _ => rfl) (fun _ _ _ _ _ _ _ => trivial)) (ssx_one (sx_if (jx_not (jx_val (hx_call C 37 3 56 (d := df_37) rfl rfl rfl rfl rfl (kx_cons (ix_var (i := 6) rfl (.inl rfl)) (kx_cons (ix_var (i := 5) rfl (.inl rfl)) (kx_cons (ix_var (i := 10) rfl (.inl rfl)) kx_nil))) (iCons_len (iCons_len (iCons_len iNil_len)))) (fun _ => rfl))) (ssx_one (sx_ret (ix_bl))) ssx_nil)))) (fun _ => rfl) (fun _ _ _ _ _ _ _ => trivial)) (ssx_one (sx_ret (ix_bl))))))))))))))⟩
theorem bks {cls : Nat → Addr} (k : Nat) (t : Nat → Fn) (hk : 20 ≤ k) : ∀ (i : Nat) (d : DefI), dfs[i]? = some d → BodyOk cls k fas dfs css tus t d (meant t i)
  | 0, d, hd => by obtain rfl : df_0 = d := Option.some.inj hd; exact bk_0 (by omega)
  | 1, d, hd => by obtain rfl : df_1 = d := Option.some.inj hd; exact bk_1 (by omega)
  | 2, d, hd => by obtain rfl : df_2 = d := Option.some.inj hd; exact bk_2 (by omega)
  | 3, d, hd => by obtain rfl : df_3 = d := Option.some.inj hd; exact bk_3 (by omega)
  | 4, d, hd => by obtain rfl : df_4 = d := Option.some.inj hd; exact bk_4 (by omega)
  | 5, d, hd => by obtain rfl : df_5 = d := Option.some.inj hd; exact bk_5 (by omega)
  | 6, d, hd => by obtain rfl : df_6 = d := Option.some.inj hd; exact bk_6 (by omega)
  | 7, d, hd => by obtain rfl : df_7 = d := Option.some.inj hd; exact bk_7 (by omega)
  | 8, d, hd => by obtain rfl : df_8 = d := Option.some.inj hd; exact bk_8 (by omega)
  | 9, d, hd => by obtain rfl : df_9 = d := Option.some.inj hd; exact bk_9 (by omega)
  | 10, d, hd => by obtain rfl : df_10 = d := Option.some.inj hd; exact bk_10 (by omega)
  | 11, d, hd => by obtain rfl : df_11 = d := Option.some.inj hd; exact bk_11 (by omega)
  | 12, d, hd => by obtain rfl : df_12 = d := Option.some.inj hd; exact bk_12 (by omega)
  | 13, d, hd => by obtain rfl : df_13 = d := Option.some.inj hd; exact bk_13 (by omega)
  | 14, d, hd => by obtain rfl : df_14 = d := Option.some.inj hd; exact bk_14 (by omega)
  | 15, d, hd => by obtain rfl : df_15 = d := Option.some.inj hd; exact bk_15 (by omega)
  | 16, d, hd => by obtain rfl : df_16 = d := Option.some.inj hd; exact bk_16 (by omega)
  | 17, d, hd => by obtain rfl : df_17 = d := Option.some.inj hd; exact bk_17 (by omega)
  | 18, d, hd => by obtain rfl : df_18 = d := Option.some.inj hd; exact bk_18 (by omega)
  | 19, d, hd => by obtain rfl : df_19 = d := Option.some.inj hd; exact bk_19 (by omega)
  | 20, d, hd => by obtain rfl : df_20 = d := Option.some.inj hd; exact bk_20 (by omega)
  | 21, d, hd => by obtain rfl : df_21 = d := Option.some.inj hd; exact bk_21 (by omega)
  | 22, d, hd => by obtain rfl : df_22 = d := Option.some.inj hd; exact bk_22 (by omega)
  | 23, d, hd => by obtain rfl : df_23 = d := Option.some.inj hd; exact bk_23 (by omega)
  | 24, d, hd => by obtain rfl : df_24 = d := Option.some.inj hd; exact bk_24 (by omega)
  | 25, d, hd => by obtain rfl : df_25 = d := Option.some.inj hd; exact bk_25 (by omega)
  | 26, d, hd => by obtain rfl : df_26 = d := Option.some.inj hd; exact bk_26 (by omega)
  | 27, d, hd => by obtain rfl : df_27 = d := Option.some.inj hd; exact bk_27 (by omega)
  | 28, d, hd => by obtain rfl : df_28 = d := Option.some.inj hd; exact bk_28 (by omega)
  | 29, d, hd => by obtain rfl : df_29 = d := Option.some.inj hd; exact bk_29 (by omega)
  | 30, d, hd => by obtain rfl : df_30 = d := Option.some.inj hd; exact bk_30 (by omega)
  | 31, d, hd => by obtain rfl : df_31 = d := Option.some.inj hd; exact bk_31 (by omega)
  | 32, d, hd => by obtain rfl : df_32 = d := Option.some.inj hd; exact bk_32 (by omega)
  | 33, d, hd => by obtain rfl : df_33 = d := Option.some.inj hd; exact bk_33 (by omega)
  | 34, d, hd => by obtain rfl : df_34 = d := Option.some.inj hd; exact bk_34 (by omega)
  | 35, d, hd => by obtain rfl : df_35 = d := Option.some.inj hd; exact bk_35 (by omega)
  | 36, d, hd => by obtain rfl : df_36 = d := Option.some.inj hd; exact bk_36 (by omega)
  | 37, d, hd => by obtain rfl : df_37 = d := Option.some.inj hd; exact bk_37 (by omega)
  | 38, d, hd => by obtain rfl : df_38 = d := Option.some.inj hd; exact bk_38 (by omega)
  | n + 39, d, hd => by simp [dfs] at hd
theorem bds (K : PySem.W.Frag) : ∀ (i : Nat) (d : DefI), dfs[i]? = some d → ∀ fd, FunI K d fd → Binds K fd d.ps []
  | 0, d, hd, fd, F => by obtain rfl : df_0 = d := Option.some.inj hd; exact FunD.bindsN F fun _ _ _ _ _ _ us hl => match us, hl with | [_], _ => rfl
  | 1, d, hd, fd, F => by obtain rfl : df_1 = d := Option.some.inj hd; exact FunD.bindsN F fun _ _ _ _ _ _ us hl => match us, hl with | [_, _, _], _ => rfl
  | 2, d, hd, fd, F => by obtain rfl : df_2 = d := Option.some.inj hd; exact FunD.bindsN F fun _ _ _ _ _ _ us hl => match us, hl with | [_, _, _, _], _ => rfl
  | 3, d, hd, fd, F => by obtain rfl : df_3 = d := Option.some.inj hd; exact FunD.bindsN F fun _ _ _ _ _ _ us hl => match us, hl with | [_, _, _], _ => rfl
  | 4, d, hd, fd, F => by obtain rfl : df_4 = d := Option.some.inj hd; exact FunD.bindsN F fun _ _ _ _ _ _ us hl => match us, hl with | [_], _ => rfl
  | 5, d, hd, fd, F => by obtain rfl : df_5 = d := Option.some.inj hd; exact FunD.bindsN F fun _ _ _ _ _ _ us hl => match us, hl with | [_], _ => rfl
  | 6, d, hd, fd, F => by obtain rfl : df_6 = d := Option.some.inj hd; exact FunD.bindsN F fun _ _ _ _ _ _ us hl => match us, hl with | [_, _], _ => rfl
  | 7, d, hd, fd, F => by obtain rfl : df_7 = d := Option.some.inj hd; exact FunD.bindsN F fun _ _ _ _ _ _ us hl => match us, hl with | [_], _ => rfl
  | 8, d, hd, fd, F => by obtain rfl : df_8 = d := Option.some.inj hd; exact FunD.bindsN F fun _ _ _ _ _ _ us hl => match us, hl with | [_], _ => rfl
  | 9, d, hd, fd, F => by obtain rfl : df_9 = d := Option.some.inj hd; exact FunD.bindsN F fun _ _ _ _ _ _ us hl => match us, hl with | [_], _ => rfl
  | 10, d, hd, fd, F => by obtain rfl : df_10 = d := Option.some.inj hd; exact FunD.bindsN F fun _ _ _ _ _ _ us hl => match us, hl with | [_, _, _, _, _], _ => rfl
  | 11, d, hd, fd, F => by obtain rfl : df_11 = d := Option.some.inj hd; exact FunD.bindsN F fun _ _ _ _ _ _ us hl => match us, hl with | [_, _, _], _ => rfl
  | 12, d, hd, fd, F => by obtain rfl : df_12 = d := Option.some.inj hd; exact FunD.bindsN F fun _ _ _ _ _ _ us hl => match us, hl with | [_], _ => rfl
  | 13, d, hd, fd, F => by obtain rfl : df_13 = d := Option.some.inj hd; exact FunD.bindsN F fun _ _ _ _ _ _ us hl => match us, hl with | [_], _ => rfl
  | 14, d, hd, fd, F => by obtain rfl : df_14 = d := Option.some.inj hd; exact FunD.bindsN F fun _ _ _ _ _ _ us hl => match us, hl with | [_], _ => rfl
  | 15, d, hd, fd, F => by obtain rfl : df_15 = d := Option.some.inj hd; exact FunD.bindsN F fun _ _ _ _ _ _ us hl => match us, hl with | [_, _], _ => rfl
  | 16, d, hd, fd, F => by obtain rfl : df_16 = d := Option.some.inj hd; exact FunD.bindsN F fun _ _ _ _ _ _ us hl => match us, hl with | [_, _, _], _ => rfl
  | 17, d, hd, fd, F => by obtain rfl : df_17 = d := Option.some.inj hd; exact FunD.bindsN F fun _ _ _ _ _ _ us hl => match us, hl with | [_], _ => rfl
  | 18, d, hd, fd, F => by obtain rfl : df_18 = d := Option.some.inj hd; exact FunD.bindsN F fun _ _ _ _ _ _ us hl => match us, hl with | [_, _, _], _ => rfl
  | 19, d, hd, fd, F => by obtain rfl : df_19 = d := Option.some.inj hd; exact FunD.bindsN F fun _ _ _ _ _ _ us hl => match us, hl with | [_, _, _], _ => rfl
  | 20, d, hd, fd, F => by obtain rfl : df_20 = d := Option.some.inj hd; exact FunD.bindsN F fun _ _ _ _ _ _ us hl => match us, hl with | [_, _, _], _ => rfl
  | 21, d, hd, fd, F => by obtain rfl : df_21 = d := Option.some.inj hd; exact FunD.bindsN F fun _ _ _ _ _ _ us hl => match us, hl with | [_, _], _ => rfl
  | 22, d, hd, fd, F => by obtain rfl : df_22 = d := Option.some.inj hd; exact FunD.bindsN F fun _ _ _ _ _ _ us hl => match us, hl with | [_, _, _, _, _], _ => rfl
  | 23, d, hd, fd, F => by obtain rfl : df_23 = d := Option.some.inj hd; exact FunD.bindsN F fun _ _ _ _ _ _ us hl => match us, hl with | [_, _], _ => rfl
  | 24, d, hd, fd, F => by obtain rfl : df_24 = d := Option.some.inj hd; exact FunD.bindsN F fun _ _ _ _ _ _ us hl => match us, hl with | [_, _], _ => rfl
  | 25, d, hd, fd, F => by obtain rfl : df_25 = d := Option.some.inj hd; exact FunD.bindsN F fun _ _ _ _ _ _ us hl => match us, hl with | [_, _], _ => rfl
  | 26, d, hd, fd, F => by obtain rfl : df_26 = d := Option.some.inj hd; exact FunD.bindsN F fun _ _ _ _ _ _ us hl => match us, hl with | [_, _], _ => rfl
  | 27, d, hd, fd, F => by obtain rfl : df_27 = d := Option.some.inj hd; exact FunD.bindsN F fun _ _ _ _ _ _ us hl => match us, hl with | [_, _, _], _ => rfl
  | 28, d, hd, fd, F => by obtain rfl : df_28 = d := Option.some.inj hd; exact FunD.bindsN F fun _ _ _ _ _ _ us hl => match us, hl with | [_, _, _, _, _], _ => rfl
  | 29, d, hd, fd, F => by obtain rfl : df_29 = d := Option.some.inj hd; exact FunD.bindsN F fun _ _ _ _ _ _ us hl => match us, hl with | [_, _, _, _, _], _ => rfl
  | 30, d, hd, fd, F => by obtain rfl : df_30 = d := Option.some.inj hd; exact FunD.bindsN F fun _ _ _ _ _ _ us hl => match us, hl with | [_, _, _, _, _], _ => rfl
  | 31, d, hd, fd, F => by obtain rfl : df_31 = d := Option.some.inj hd; exact FunD.bindsN F fun _ _ _ _ _ _ us hl => match us, hl with | [_, _, _], _ => rfl
  | 32, d, hd, fd, F => by obtain rfl : df_32 = d := Option.some.inj hd; exact FunD.bindsN F fun _ _ _ _ _ _ us hl => match us, hl with | [_], _ => rfl
  | 33, d, hd, fd, F => by obtain rfl : df_33 = d := Option.some.inj hd; exact FunD.bindsN F fun _ _ _ _ _ _ us hl => match us, hl with | [_, _, _, _, _], _ => rfl
  | 34, d, hd, fd, F => by obtain rfl : df_34 = d := Option.some.inj hd; exact FunD.bindsN F fun _ _ _ _ _ _ us hl => match us, hl with | [_, _, _], _ => rfl
  | 35, d, hd, fd, F => by obtain rfl : df_35 = d := Option.some.inj hd; exact FunD.bindsN F fun _ _ _ _ _ _ us hl => match us, hl with | [_], _ => rfl
  | 36, d, hd, fd, F => by obtain rfl : df_36 = d := Option.some.inj hd; exact FunD.bindsN F fun _ _ _ _ _ _ us hl => match us, hl with | [_, _, _], _ => rfl
  | 37, d, hd, fd, F => by obtain rfl : df_37 = d := Option.some.inj hd; exact FunD.bindsN F fun _ _ _ _ _ _ us hl => match us, hl with | [_, _, _], _ => rfl
  | 38, d, hd, fd, F => by obtain rfl : df_38 = d := Option.some.inj hd; exact FunD.bindsN F fun _ _ _ _ _ _ us hl => match us, hl with | [_], _ => rfl
  | n + 39, d, hd, _, _ => by simp [dfs] at hd
theorem plain : ∀ d ∈ dfs, d.d.dfl = [] ∧ d.d.kwd = [] := by
  intro d hd
  simp only [dfs, List.mem_cons, List.not_mem_nil, or_false] at hd
  rcases hd with rfl | rfl | rfl | rfl | rfl | rfl | rfl | rfl | rfl | rfl | rfl | rfl | rfl | rfl | rfl | rfl | rfl | rfl | rfl | rfl | rfl | rfl | rfl | rfl | rfl | rfl | rfl | rfl | rfl | rfl | rfl | rfl | rfl | rfl | rfl | rfl | rfl | rfl | rfl <;> exact ⟨rfl, rfl⟩
def lawNo : Nat := 38
end K88

/-! what the defs reckon, part 1: the program's pieces -/
namespace K88
open PySem PySem.Spec PyProof.Rows L2 IL
/-! ### texts that stand in the program, unlike -/
theorem le1 : (("case" : Str) = "give") = False := by decide
theorem le2 : (("make" : Str) = "give") = False := by decide
theorem le3 : (("call" : Str) = "give") = False := by decide
theorem le4 : (("name" : Str) = "give") = False := by decide
theorem le5 : (("pay" : Str) = "give") = False := by decide
theorem le6 : (("get" : Str) = "give") = False := by decide
theorem le7 : (("make" : Str) = "case") = False := by decide
theorem le8 : (("call" : Str) = "case") = False := by decide
theorem le9 : (("name" : Str) = "case") = False := by decide
theorem le10 : (("pay" : Str) = "case") = False := by decide
theorem le11 : (("get" : Str) = "case") = False := by decide
theorem size_big : (1000000 : Nat) ≤ sizeLine := by rw [sizeLine_eq]; decide
/-! ### pieces -/
mutual
inductive Pc where
  | make (x c : Str) (ys : List Str) (r : Pc)
  | call (x f : Str) (ys : List Str) (r : Pc)
  | name (x y : Str) (r : Pc)
  | case (x : Str) (as : Arms)
  | give (x : Str)
  | pay (n : Int) (r : Pc)
  | get (n : Int) (r : Pc)
inductive Arms where
  | nil
  | cons (c : Str) (ns : List Str) (b : Pc) (r : Arms)
end
def eS (xs : List Str) : D := .tup (xs.map D.str)
mutual
def eP : Pc → D
  | .make x c ys r => .tup [.str "make", .str x, .str c, eS ys, eP r]
  | .call x f ys r => .tup [.str "call", .str x, .str f, eS ys, eP r]
  | .name x y r => .tup [.str "name", .str x, .str y, eP r]
  | .case x as => .tup [.str "case", .str x, .tup (eA as)]
  | .give x => .tup [.str "give", .str x]
  | .pay n r => .tup [.str "pay", .int n, eP r]
  | .get n r => .tup [.str "get", .int n, eP r]
def eA : Arms → List D
  | .nil => []
  | .cons c ns b r => .tup [.str c, eS ns, eP b] :: eA r
end
def Arms.bodies : Arms → List Pc
  | .nil => []
  | .cons _ _ b r => b :: r.bodies
def Pc.subs : Pc → List Pc
  | .make _ _ _ r => [r]
  | .call _ _ _ r => [r]
  | .name _ _ r => [r]
  | .case _ as => as.bodies
  | .give _ => []
  | .pay _ r => [r]
  | .get _ r => [r]
mutual
def flat : Pc → List Pc
  | .make x c ys r => .make x c ys r :: flat r
  | .call x f ys r => .call x f ys r :: flat r
  | .name x y r => .name x y r :: flat r
  | .case x as => .case x as :: flats as
  | .give x => [.give x]
  | .pay n r => .pay n r :: flat r
  | .get n r => .get n r :: flat r
def flats : Arms → List Pc
  | .nil => []
  | .cons _ _ b r => flat b ++ flats r
end
theorem flats_eq : ∀ as : Arms, flats as = as.bodies.flatMap flat
  | .nil => rfl
  | .cons c ns b r => by simp [flats, Arms.bodies, flats_eq r]
theorem flat_eq (p : Pc) : flat p = p :: p.subs.flatMap flat := by
  cases p <;> simp [flat, Pc.subs, flats_eq]
theorem eA_len : ∀ as : Arms, (eA as).length = as.bodies.length
  | .nil => rfl
  | .cons c ns b r => by simp [eA, Arms.bodies, eA_len r]
theorem eA_get : ∀ (as : Arms) (i : Nat) (d : D), (eA as)[i]? = some d → ∃ c ns b, d = .tup [.str c, eS ns, eP b] ∧ as.bodies[i]? = some b
  | .nil, _, _, e => by simp [eA] at e
  | .cons c ns b r, 0, d, e => by
    simp [eA] at e
    exact ⟨c, ns, b, e.symm, by simp [Arms.bodies]⟩
  | .cons c ns b r, i + 1, d, e => by
    obtain ⟨c', ns', b', h1, h2⟩ := eA_get r i d (by simpa [eA] using e)
    exact ⟨c', ns', b', h1, by simpa [Arms.bodies] using h2⟩
local macro_rules | `(tactic| walk_at "ev") => `(tactic| simp (config := { decide := false }) only [iVar, iC, iOp, iCons, iNil, iB, iBM, iCall, iMeth, jVal, jAnd, jOr, jNot, iIf, iNeg, iNot, IL.iTup, IL.iTupP, IL.iLst, iSl, iNo, iPart, iFld, sAsg, sExpr, sRet, sRetN, sSkip, sFl, sAugN, sAugS, sPar, gNm, gTp, gsCons, gsNil, gSb, one, two, gInt, jYes, CT.put, wipeD, iListRev,
  List.getElem?_cons_zero, List.getElem?_cons_succ, List.set_cons_zero, List.set_cons_succ, List.map_cons, List.map_nil, List.cons_append, List.nil_append, List.replicate_succ, List.replicate_zero, List.getLast?_cons_cons, List.getLast?_singleton,
  Option.bind_some, Option.map_some, Ok_some, Ok_bind, Ok_map, if_true, if_false, Bool.false_eq_true, decide_true, decide_false, List.length_cons, List.length_nil, Nat.zero_le, sz1, sz2, sz3, sz4, sz5, sz6, sz7, sz8, sz9, sz10, sz11, sz12, Bool.not_true, Bool.not_false,
  gIx_tup, gIx_kt, gIx_sl, atI_0, atI_1, atI_2, atI_3, atI_4, atI_5, atI_m1, gEq_str, gEq_int, gNe_str, gNe_int, gAdd_int, Int.reduceNeg, len_push,
  le1, le2, le3, le4, le5, le6, le7, le8, le9, le10, le11])
/-- bodies_in -/
theorem bodies_in_spec (t : Nat → Fn) (p : Pc) (h : IH) (hl : p.subs.length < 1000) : Ok (meant t 4 [eP p] h) fun r => ∃ L, r.1 = .loc L ∧ h.length ≤ L ∧ Keep h r.2 ∧ r.2[L]? = some (.lst (p.subs.map eP)) := by
  refine ok_fun rfl ?_
  unfold b_4
  cases p with
  | give x =>
    simp only [eP]
    refine ok_seq (ok_if ?_)
    walk_at "ev"
    exact ⟨h.length, rfl, Nat.le_refl _, Ext.push h _, by simp [Pc.subs]⟩
  | case x as =>
    simp only [eP]
    refine ok_seq (ok_if ?_)
    walk_at "ev"
    refine SK_nx (ok_seq (ok_if ?_))
    walk_at "ev"
    refine ok_comp (ok_pSeq ?_)
    walk_at "ev"
    refine ⟨true, eA as, [], (fun s z => by cases z), rfl, depsOk_nil, ?_⟩
    refine ok_compI (fun i h' => Keep h h' ∧ h'[h.length]? = some (.lst ((as.bodies.take i).map eP))) (fun _ _ _ => depsOk_nil) (fun i d h' hd hI => ?_) (fun h' hI => ?_) ⟨Ext.push h _, by simp⟩
    · obtain ⟨c, ns, b, rfl, hb⟩ := eA_get as i d hd
      walk_at "ev"
      refine ⟨_, hI.2, ?_, hI.1.setNew _ _ (Nat.le_refl _), ?_⟩
      · simp only [Pc.subs] at hl
        exact sz_lt (by simp; omega)
      · rw [set_at hI.2, List.take_succ, hb]
        simp
    · refine ⟨h.length, rfl, Nat.le_refl _, hI.1, ?_⟩
      have e : (as.bodies.take (eA as).length) = as.bodies := by rw [eA_len, List.take_length]
      rw [e] at hI
      exact hI.2
  | _ =>
    simp only [eP]
    refine ok_seq (ok_if ?_)
    walk_at "ev"
    refine SK_nx (ok_seq (ok_if ?_))
    walk_at "ev"
    refine SK_nx ?_
    walk_at "ev"
    exact ⟨h.length, rfl, Nat.le_refl _, Ext.push h _, by simp [Pc.subs]⟩
/-! ### pieces -/
/-- a piece that may be compared, not too long -/
structure PcOk (n : Nat) (p : Pc) : Prop where
  fine : (eP p).fine n = true
  len : (flat p).length ≤ 1000
theorem flat_pos (p : Pc) : 0 < (flat p).length := by rw [flat_eq]; simp
theorem subs_le (p : Pc) : p.subs.length < (flat p).length := by
  rw [flat_eq, List.length_cons]
  have : ∀ l : List Pc, l.length ≤ (l.flatMap flat).length := by
    intro l
    induction l with
    | nil => simp
    | cons a l ih => have := flat_pos a; rw [List.flatMap_cons, List.length_append, List.length_cons]; omega
  have := this p.subs
  omega
theorem sub_len {p q : Pc} (h : q ∈ p.subs) : (flat q).length < (flat p).length := by
  rw [flat_eq p, List.length_cons]
  have : ∀ l : List Pc, q ∈ l → (flat q).length ≤ (l.flatMap flat).length := by
    intro l
    induction l with
    | nil => simp
    | cons a l ih =>
      intro hm
      rcases List.mem_cons.mp hm with rfl | hm
      · simp
      · have := ih hm; rw [List.flatMap_cons, List.length_append]; omega
  have := this p.subs h
  omega
theorem fines_mem {xs : List D} {n : Nat} {d : D} (h : D.fines xs n = true) (hm : d ∈ xs) : d.fine n = true := fines_iff.mp h d hm
theorem fine_of_tup {xs : List D} {n : Nat} {d : D} (h : (D.tup xs).fine n = true) (hm : d ∈ xs) : d.fine n = true := by
  cases n with
  | zero => simp [D.fine] at h
  | succ n =>
    rw [fine_tup] at h
    exact fine_mono (fines_mem h hm) (Nat.le_succ _)
theorem eA_bodies {as : Arms} {q : Pc} (h : q ∈ as.bodies) : ∃ c ns, D.tup [.str c, eS ns, eP q] ∈ eA as := by
  obtain ⟨i, hi, e⟩ := List.mem_iff_getElem.mp h
  have hi' : i < (eA as).length := by rw [eA_len]; exact hi
  obtain ⟨c, ns, b, e1, e2⟩ := eA_get as i _ (List.getElem?_eq_getElem hi')
  rw [List.getElem?_eq_getElem hi, e] at e2
  cases e2
  exact ⟨c, ns, by rw [← e1]; exact List.getElem_mem hi'⟩
theorem sub_fine {p q : Pc} {n : Nat} (h : q ∈ p.subs) (hp : (eP p).fine n = true) : (eP q).fine n = true := by
  cases p with
  | case x as =>
    obtain ⟨c, ns, hm⟩ := eA_bodies h
    simp only [eP] at hp
    have h1 := fine_of_tup hp (d := .tup (eA as)) (by simp)
    have h2 := fine_of_tup h1 hm
    exact fine_of_tup h2 (by simp)
  | give x => simp [Pc.subs] at h
  | _ =>
    simp only [Pc.subs, List.mem_singleton] at h
    subst h
    simp only [eP] at hp
    exact fine_of_tup hp (by simp)
theorem PcOk.sub {p q : Pc} {n : Nat} (h : q ∈ p.subs) (hp : PcOk n p) : PcOk n q := ⟨sub_fine h hp.fine, Nat.le_of_lt (Nat.lt_of_lt_of_le (sub_len h) hp.len)⟩
abbrev BodiesSp (F : Fn) : Prop := ∀ (p : Pc) (h : IH), p.subs.length < 1000 → Ok (F [eP p] h) fun r => ∃ L, r.1 = .loc L ∧ h.length ≤ L ∧ Keep h r.2 ∧ r.2[L]? = some (.lst (p.subs.map eP))
theorem pieces_spec (t : Nat → Fn) (h4 : BodiesSp (t 4)) (p : Pc) (h : IH) (n : Nat) (hn : n < 400) (hp : PcOk n p) : Ok (meant t 5 [eP p] h) fun r => ∃ L, r.1 = .loc L ∧ h.length ≤ L ∧ Keep h r.2 ∧ r.2[L]? = some (.lst ((flat p).map eP)) := by
  refine ok_fun rfl ?_
  unfold b_5
  refine ok_seq ?_
  walk_at "ev"
  refine SK_nx (ok_seq ?_)
  walk_at "ev"
  refine SK_nx (ok_seq ?_)
  refine ok_while (fun m env h' => ∃ (w : Option D) (done left : List Pc), env = [some (eP p), some (.loc h.length), some (.loc (h.length + 1)), w] ∧ Keep h h' ∧ h'[h.length]? = some (.lst (done.map eP)) ∧ h'[h.length + 1]? = some (.lst (left.map eP)) ∧
    flat p = done ++ left.reverse.flatMap flat ∧ (∀ q ∈ left, PcOk n q) ∧ m = (left.flatMap flat).length) ?_ (m := (flat p).length) ?_
  · rintro m env h' ⟨w, done, left, rfl, K, e1, e2, e3, hq, rfl⟩
    walk_at "ev"
    have fx : D.fines (left.map eP) n = true := fines_iff.mpr fun x hx => by
      obtain ⟨q, hm, rfl⟩ := List.mem_map.mp hx
      exact (hq q hm).fine
    refine Ok.of (gNe_nil (get_old e2) get_new fx hn) ?_
    walk_at "ev"
    rcases List.eq_nil_or_concat left with rfl | ⟨l', q, rfl⟩
    · refine SK_nx ?_
      walk_at "ev"
      refine ⟨h.length, rfl, Nat.le_refl _, K.trans (Ext.push _ _), ?_⟩
      rw [e3]
      simpa using get_old e1
    · have e4 := get_old (o' := .lst []) e2
      have e5 := get_old (o' := .lst []) e1
      have K5 : Keep h (h' ++ [.lst []]) := K.trans (Ext.push _ _)
      generalize h' ++ [O.lst []] = h5 at *
      simp only [List.concat_eq_append, List.map_append, List.map_cons, List.map_nil] at e4 ⊢
      have hb : (!(List.map eP l' ++ [eP q]).isEmpty) = true := by simp
      simp only [hb, if_true]
      refine ok_seq ?_
      simp only [sAsg, Ok_bind]
      refine ok_bm ?_
      walk_at "ev"
      refine ⟨isTy_lst e4, Ok.of (gPop_lst e4) ?_⟩
      walk_at "ev"
      have e6 := set_at (o' := .lst (l'.map eP)) e4
      have e7 : (h5.set (h.length + 1) (.lst (l'.map eP)))[h.length]? = some (.lst (done.map eP)) := by rw [set_ne (by omega)]; exact e5
      have K6 : Keep h (h5.set (h.length + 1) (.lst (l'.map eP))) := K5.setNew _ _ (by omega)
      generalize h5.set (h.length + 1) (O.lst (l'.map eP)) = h6 at *
      have hlen : done.length ≤ 1000 := by
        have := hp.len
        rw [e3, List.length_append] at this
        omega
      refine SK_nx (ok_seq ?_)
      simp only [sExpr, Ok_bind]
      refine ok_bm ?_
      walk_at "ev"
      refine ⟨isTy_lst e7, Ok.of (gAppend_lst e7 (sz_lt (by simp; omega))) ?_⟩
      walk_at "ev"
      have e8 := set_at (o' := .lst (done.map eP ++ [eP q])) e7
      have e9 : (h6.set h.length (.lst (done.map eP ++ [eP q])))[h.length + 1]? = some (.lst (l'.map eP)) := by rw [set_ne (by omega)]; exact e6
      have K7 : Keep h (h6.set h.length (.lst (done.map eP ++ [eP q]))) := K6.setNew _ _ (by omega)
      generalize h6.set h.length (O.lst (done.map eP ++ [eP q])) = h7 at *
      refine SK_nx ?_
      simp only [sExpr, Ok_bind]
      refine ok_bm ?_
      walk_at "ev"
      refine ⟨isTy_lst e9, ?_⟩
      have hq' : PcOk n q := hq q (by simp)
      refine (h4 q h7 (Nat.lt_of_lt_of_le (subs_le q) hq'.len)).imp ?_
      rintro ⟨d, h8⟩ ⟨L, rfl, hL, K8, e10⟩
      simp only at K8 e10
      simp only [lstD_lst e10]
      walk_at "ev"
      have g1 := lt_of_get e9
      have e11 := get_old (o' := .lst (q.subs.map eP).reverse) (K8.get e9)
      have e12 := get_old (o' := .lst (q.subs.map eP).reverse) (K8.get e8)
      have e13 : (h8 ++ [.lst (q.subs.map eP).reverse])[h8.length]? = some (.lst (q.subs.map eP).reverse) := get_new
      have K9 : Keep h (h8 ++ [.lst (q.subs.map eP).reverse]) := (K7.trans K8).trans (Ext.push _ _)
      have hlt := K8.le
      have hsz : ((l'.map eP).length + ((q.subs.map eP).reverse).length) ≤ sizeLine := by
        have h1 := hp.len
        have h2 := subs_le q
        have h3 : l'.length ≤ (l'.reverse.flatMap flat).length := by
          have : ∀ l : List Pc, l.length ≤ (l.flatMap flat).length := by
            intro l
            induction l with
            | nil => simp
            | cons a l ih => have := flat_pos a; rw [List.flatMap_cons, List.length_append, List.length_cons]; omega
          simpa using this l'.reverse
        have h4 := hq'.len
        rw [e3] at h1
        simp only [List.concat_eq_append, List.reverse_append, List.reverse_cons, List.reverse_nil, List.nil_append, List.singleton_append, List.flatMap_cons, List.length_append] at h1
        refine sz_of ?_
        simp only [List.length_map, List.length_reverse]
        omega
      refine Ok.of (gExtend_lst e11 e13 (by omega) hsz) ?_
      refine ⟨_, ?_, some (eP q), done ++ [q], l' ++ q.subs.reverse, rfl, K9.setNew _ _ (by omega), ?_, ?_, ?_, ?_, rfl⟩
      · simp only [List.concat_eq_append, List.flatMap_append, List.length_append, List.flatMap_cons, List.flatMap_nil, List.append_nil]
        rw [flat_eq q, List.length_cons]
        have : (q.subs.reverse.flatMap flat).length = (q.subs.flatMap flat).length := by simp [List.length_flatMap]
        omega
      · rw [set_ne (by omega), e12]; simp
      · rw [set_at e11]; simp [List.map_reverse]
      · rw [e3]; simp [flat_eq q]
      · intro z hz
        rcases List.mem_append.mp hz with hz | hz
        · exact hq z (by simp [hz])
        · exact hq'.sub (List.mem_reverse.mp hz)
  · exact ⟨none, [], [p], rfl, (Ext.push h _).trans (Ext.push _ _), by simp, by simp, by simp, by simpa using hp, by simp⟩
end K88

namespace K88
open PySem PySem.Spec PyProof.Rows L2 IL
local macro_rules | `(tactic| walk_at "ev") => `(tactic| simp (config := { decide := false }) only [iVar, iC, iOp, iCons, iNil, iB, iCall, jVal, jAnd, jOr, jNot, iIf, iNeg, iNot, IL.iTup, IL.iTupP, IL.iLst, iSl, iNo, iPart, sAsg, sExpr, sRet, sRetN, sSkip, sAugN, sAugS, sPar, gNm, gTp, gsCons, gsNil, gSb, one, two, gInt, jYes, CT.put, wipeD, setAll, iListRev, parSet,
  List.getElem?_cons_zero, List.getElem?_cons_succ, List.set_cons_zero, List.set_cons_succ, List.map_cons, List.map_nil, List.cons_append, List.nil_append, List.replicate_succ, List.replicate_zero, List.getLast?_cons_cons, List.getLast?_singleton,
  Option.bind_some, Option.map_some, Ok_some, Ok_bind, Ok_map, if_true, if_false, Bool.false_eq_true, decide_true, decide_false, List.length_cons, List.length_nil, Nat.zero_le, sz1, sz2, sz3, sz4, sz5, sz6, sz7, sz8, sz9, sz10, sz11, sz12, Bool.not_true, Bool.not_false,
  gIx_tup, gIx_kt, gIx_sl, atI_0, atI_1, atI_2, atI_3, atI_4, atI_5, atI_m1, gEq_str, gEq_int, gNe_str, gNe_int, gAdd_int, seqD_tup, seqD_kt, gLen_tup, gLen_kt, Int.reduceNeg, len_push,
  le1, le2, le3, le4, le5, le6, le7, le8, le9, le10, le11])
/-! ### values -/
inductive Val where
  | mk (m : Str) (ps : List Val)
mutual
def eV : Val → D
  | .mk m ps => .tup [.str m, .tup (eVs ps)]
def eVs : List Val → List D
  | [] => []
  | v :: vs => eV v :: eVs vs
end
mutual
def vsize : Val → Nat
  | .mk _ ps => 1 + vsizes ps
def vsizes : List Val → Nat
  | [] => 0
  | v :: vs => vsize v + vsizes vs
end
mutual
def vdeep : Val → Nat
  | .mk _ ps => 1 + vdeeps ps
def vdeeps : List Val → Nat
  | [] => 0
  | v :: vs => max (vdeep v) (vdeeps vs)
end
theorem eVs_map : ∀ vs : List Val, eVs vs = vs.map eV
  | [] => rfl
  | v :: vs => by simp [eVs, eVs_map vs]
theorem vsizes_sum : ∀ vs : List Val, vsizes vs = (vs.map vsize).sum
  | [] => rfl
  | v :: vs => by simp [vsizes, vsizes_sum vs]
theorem vsize_pos : ∀ v : Val, 0 < vsize v
  | .mk _ _ => by simp only [vsize]; omega
theorem vsizes_len : ∀ vs : List Val, vs.length ≤ vsizes vs
  | [] => by simp [vsizes]
  | v :: vs => by have := vsize_pos v; have := vsizes_len vs; simp only [vsizes, List.length_cons]; omega
theorem vsizes_app : ∀ vs us : List Val, vsizes (vs ++ us) = vsizes vs + vsizes us
  | [], us => by simp [vsizes]
  | v :: vs, us => by simp only [List.cons_append, vsizes, vsizes_app vs us]; omega
theorem vdeep_le {v : Val} : ∀ {vs : List Val}, v ∈ vs → vdeep v ≤ vdeeps vs
  | u :: vs, h => by
    simp only [vdeeps]
    rcases List.mem_cons.mp h with rfl | h
    · omega
    · have := vdeep_le h; omega
theorem vsize_le {v : Val} : ∀ {vs : List Val}, v ∈ vs → vsize v ≤ vsizes vs
  | u :: vs, h => by
    simp only [vsizes]
    rcases List.mem_cons.mp h with rfl | h
    · omega
    · have := vsize_le h; omega
/-- makers_in, size -/
theorem makers_spec (t : Nat → Fn) (v : Val) (h : IH) (hv : vsize v ≤ 100000) : Ok (meant t 7 [eV v] h) fun r => ∃ L xs, r.1 = .loc L ∧ Keep h r.2 ∧ r.2[L]? = some (.lst xs) ∧ xs.length = vsize v := by
  refine ok_fun rfl ?_
  unfold b_7
  refine ok_seq ?_
  walk_at "ev"
  refine SK_nx (ok_seq ?_)
  walk_at "ev"
  refine SK_nx (ok_seq ?_)
  refine ok_while (fun m env h' => ∃ (w w2 : Option D) (done : List D) (left : List Val), env = [some (eV v), some (.loc h.length), some (.loc (h.length + 1)), w, w2] ∧ Keep h h' ∧ h'[h.length]? = some (.lst done) ∧ h'[h.length + 1]? = some (.lst (left.map eV)) ∧
    vsize v = done.length + vsizes left ∧ m = vsizes left) ?_ (m := vsize v) ?_
  · rintro m env h' ⟨w, w2, done, left, rfl, K, e1, e2, e3, rfl⟩
    walk_at "ev"
    refine Ok.of (gLen_lst e2) ?_
    walk_at "ev"
    rcases List.eq_nil_or_concat left with rfl | ⟨l', q, rfl⟩
    · simp only [List.map_nil, List.length_nil, show decide ((0 : Int) < ((0 : Nat) : Int)) = false from rfl, Bool.false_eq_true, if_false]
      refine SK_nx ?_
      walk_at "ev"
      refine ⟨h.length, done, rfl, K, e1, ?_⟩
      simp only [vsizes] at e3
      omega
    · have hb : decide ((0 : Int) < (((l'.concat q).map eV).length : Nat)) = true := decide_eq_true (by simp)
      simp only [hb, if_true]
      simp only [List.concat_eq_append, List.map_append, List.map_cons, List.map_nil] at e2 ⊢
      rw [List.concat_eq_append, vsizes_app] at e3
      refine ok_seq ?_
      simp only [sAsg, Ok_bind]
      refine ok_bm ?_
      walk_at "ev"
      refine ⟨isTy_lst e2, Ok.of (gPop_lst e2) ?_⟩
      obtain ⟨mk, ps⟩ := q
      simp only [eV]
      walk_at "ev"
      have e6 := set_at (o' := .lst (l'.map eV)) e2
      have e7 : (h'.set (h.length + 1) (.lst (l'.map eV)))[h.length]? = some (.lst done) := by rw [set_ne (by omega)]; exact e1
      have K6 : Keep h (h'.set (h.length + 1) (.lst (l'.map eV))) := K.setNew _ _ (by omega)
      generalize h'.set (h.length + 1) (O.lst (l'.map eV)) = h6 at *
      simp only [vsizes, vsize] at e3
      have hl2 := vsizes_len l'
      have hl3 := vsizes_len ps
      refine SK_nx (ok_seq ?_)
      simp only [sExpr, Ok_bind]
      refine ok_bm ?_
      walk_at "ev"
      refine ⟨isTy_lst e7, Ok.of (gAppend_lst e7 (sz_lt (by omega))) ?_⟩
      walk_at "ev"
      have e8 := set_at (o' := .lst (done ++ [.str mk])) e7
      have e9 : (h6.set h.length (.lst (done ++ [.str mk])))[h.length + 1]? = some (.lst (l'.map eV)) := by rw [set_ne (by omega)]; exact e6
      have K7 : Keep h (h6.set h.length (.lst (done ++ [.str mk]))) := K6.setNew _ _ (by omega)
      generalize h6.set h.length (O.lst (done ++ [.str mk])) = h7 at *
      refine SK_nx ?_
      simp only [sExpr, Ok_bind]
      refine ok_bm ?_
      walk_at "ev"
      refine ⟨isTy_lst e9, Ok.of (gExtend_tup e9 (sz_of (by rw [eVs_map]; simp; omega))) ?_⟩
      refine ⟨vsizes (l' ++ ps), ?_, some (.str mk), some (.tup (eVs ps)), done ++ [.str mk], l' ++ ps, rfl, K7.setNew _ _ (by omega), ?_, ?_, ?_, rfl⟩
      · rw [vsizes_app, vsizes_app]
        simp only [vsizes, vsize]
        omega
      · rw [set_ne (by omega)]; exact e8
      · rw [set_at e9, eVs_map]; simp
      · rw [vsizes_app]; simp; omega
  · exact ⟨none, none, [], [v], rfl, (Ext.push h _).trans (Ext.push _ _), by simp, by simp, by simp [vsizes], by simp [vsizes]⟩
theorem size_spec (t : Nat → Fn) (h7 : ∀ (v : Val) (h : IH), vsize v ≤ 100000 → Ok (t 7 [eV v] h) fun r => ∃ L xs, r.1 = .loc L ∧ Keep h r.2 ∧ r.2[L]? = some (.lst xs) ∧ xs.length = vsize v) (v : Val) (h : IH) (hv : vsize v ≤ 100000) :
    Ok (meant t 8 [eV v] h) fun r => r.1 = .int (vsize v) ∧ Keep h r.2 := by
  refine ok_fun rfl ?_
  unfold b_8
  walk_at "ev"
  refine (h7 v h hv).imp ?_
  rintro ⟨d, h'⟩ ⟨L, xs, rfl, K, e, el⟩
  refine Ok.of (gLen_lst e) ?_
  rw [el]
  exact ⟨rfl, K⟩
theorem intsD_nats : ∀ ns : List Nat, intsD (ns.map fun n => D.int (n : Nat)) = some (ns.map fun n => ((n : Nat) : Int)) := fun ns => by
  have := intsD_map (ns.map fun n => ((n : Nat) : Int))
  rw [List.map_map] at this
  exact this
theorem foldl_max (ns : List Nat) (a : Nat) : (ns.map fun n => ((n : Nat) : Int)).foldl max (a : Int) = ((ns.foldl max a : Nat) : Int) := by
  induction ns generalizing a with
  | nil => rfl
  | cons n ns ih =>
    simp only [List.map_cons, List.foldl_cons]
    have : max (a : Int) (n : Int) = ((max a n : Nat) : Int) := by omega
    rw [this, ih]
theorem vdeeps_fold : ∀ (vs : List Val) (a : Nat), (vs.map vdeep).foldl max a = max a (vdeeps vs)
  | [], a => by simp [vdeeps]
  | v :: vs, a => by simp only [List.map_cons, List.foldl_cons, vdeeps, vdeeps_fold vs]; omega
/-- deep, n calls deep -/
theorem deep_spec : ∀ (n : Nat) (v : Val) (h : IH), vdeep v ≤ n → vsize v ≤ 100000 → Ok (tower meant n 9 [eV v] h) fun r => r.1 = .int (vdeep v) ∧ Keep h r.2
  | 0, .mk m ps, h, hd, _ => by simp only [vdeep] at hd; omega
  | n + 1, .mk m ps, h, hd, hs => by
    show Ok (meant (tower meant n) 9 _ h) _
    refine ok_fun rfl ?_
    unfold b_9
    simp only [eV, vsize, vdeep] at *
    walk_at "ev"
    simp only [iMaxDef, Ok_bind]
    have hl := vsizes_len ps
    refine ok_mapK (items := ps.map eV) (dp := []) (h1 := h) (fun i y => ∃ v, ps[i]? = some v ∧ y = .int (vdeep v)) ?_ depsOk_nil (by simp; omega) ?_ ?_
    · rw [eVs_map]
      unfold pSeq
      walk_at "ev"
      rfl
    · intro i d h' hd' K
      rw [List.getElem?_map] at hd'
      obtain ⟨v, e1, rfl⟩ := Option.map_eq_some_iff.mp hd'
      have hm := List.mem_of_getElem? e1
      have h1 := vdeep_le hm
      have h2 := vsize_le hm
      walk_at "ev"
      exact (deep_spec n v h' (by omega) (by omega)).imp fun r hr => ⟨⟨v, e1, hr.1⟩, hr.2⟩
    · intro ys h' hl1 hP K hn
      have ey : ys = (ps.map vdeep).map fun n => D.int (n : Nat) := by
        apply List.ext_getElem?
        intro i
        by_cases hi : i < ys.length
        · obtain ⟨v, e1, e2⟩ := hP i ys[i] (List.getElem?_eq_getElem hi)
          rw [List.getElem?_eq_getElem hi, List.getElem?_map, List.getElem?_map, e1, e2]; rfl
        · rw [List.getElem?_eq_none (by omega), List.getElem?_eq_none (by simp at hl1 ⊢; omega)]
      subst ey
      walk_at "ev"
      simp only [lstD_lst hn, Option.bind_some, intsD_nats, Option.map_some, Ok_some]
      cases ps with
      | nil =>
        simp only [List.map_nil, gAdd_int, Ok_some, vdeeps]
        exact ⟨rfl, K⟩
      | cons v vs =>
        simp only [List.map_cons, foldl_max, gAdd_int, Ok_some]
        refine ⟨?_, K⟩
        have := vdeeps_fold vs (vdeep v)
        show D.int _ = D.int _
        congr 1
        rw [this]
        simp only [vdeeps]
        omega
/-! ### lists of values -/
def listV (none more : Str) : List Val → Val
  | [] => .mk none []
  | v :: vs => .mk more [v, listV none more vs]
theorem listed_spec (t : Nat → Fn) (none more : Str) (vs : List Val) (h : IH) (n : Nat) (e : h[n]? = some (.lst (vs.map eV))) : Ok (meant t 34 [.str none, .str more, .loc n] h) fun r => r = (eV (listV none more vs), h) := by
  refine ok_fun rfl ?_
  unfold b_34
  refine ok_seq ?_
  walk_at "ev"
  refine SK_nx (ok_seq (ok_for ?_))
  unfold pRev
  walk_at "ev"
  simp only [seqSrc_lst e]
  walk_at "ev"
  refine ok_forI (fun i env h' => ∃ w : Option D, h' = h ∧ env = [some (.str none), some (.str more), some (.loc n), some (eV (listV none more (vs.drop (vs.length - i)))), w]) (fun i env h' hI => ?_) (fun i d env h' hd hI => ?_) (fun env h' hI => ?_) ?_
  · obtain ⟨w, rfl, _⟩ := hI
    exact depsOk_one e
  · obtain ⟨w, rfl, rfl⟩ := hI
    rw [← List.map_reverse, List.getElem?_map] at hd
    obtain ⟨v, e1, rfl⟩ := Option.map_eq_some_iff.mp hd
    have hi : i < vs.length := by
      have := (List.getElem?_eq_some_iff.mp e1).1
      simpa using this
    walk_at "ev"
    refine ⟨some (eV v), rfl, ?_⟩
    rw [List.getElem?_reverse hi] at e1
    have e2 : vs.drop (vs.length - (i + 1)) = v :: vs.drop (vs.length - i) := by
      have h1 : vs.length - (i + 1) < vs.length := by omega
      rw [List.drop_eq_getElem_cons h1]
      have h2 : vs.length - 1 - i = vs.length - (i + 1) := by omega
      rw [h2, List.getElem?_eq_getElem h1] at e1
      rw [Option.some.inj e1]
      congr 2
      omega
    rw [e2]
    simp only [listV, eV, eVs]
  · obtain ⟨w, rfl, rfl⟩ := hI
    refine SK_nx ?_
    walk_at "ev"
    simp [RK]
  · exact ⟨Option.none, rfl, by simp [listV, eV, eVs]⟩
theorem things_spec (t : Nat → Fn) (none more : Str) (vs : List Val) (h : IH) (hl : vs.length ≤ 1000) : Ok (meant t 35 [eV (listV none more vs)] h) fun r => ∃ L, r.1 = .loc L ∧ h.length ≤ L ∧ Keep h r.2 ∧ r.2[L]? = some (.lst (vs.map eV)) := by
  refine ok_fun rfl ?_
  unfold b_35
  refine ok_seq ?_
  walk_at "ev"
  refine SK_nx (ok_seq ?_)
  refine ok_while (fun m env h' => ∃ k, k ≤ vs.length ∧ m = vs.length - k ∧ env = [some (eV (listV none more (vs.drop k))), some (.loc h.length)] ∧ Keep h h' ∧ h'[h.length]? = some (.lst ((vs.take k).map eV))) ?_ (m := vs.length) ?_
  · rintro m env h' ⟨k, hk, rfl, rfl, K, e1⟩
    by_cases hlt : k < vs.length
    · rw [List.drop_eq_getElem_cons hlt]
      simp only [listV, eV, eVs]
      walk_at "ev"
      simp only [show decide (((0 + 1 + 1 : Nat) : Int) = 2) = true from rfl, if_true]
      refine ok_seq ?_
      simp only [sExpr, Ok_bind]
      refine ok_bm ?_
      walk_at "ev"
      refine ⟨isTy_lst e1, Ok.of (gAppend_lst e1 (sz_lt (by simp; omega))) ?_⟩
      refine SK_nx ?_
      walk_at "ev"
      refine ⟨vs.length - (k + 1), by omega, k + 1, hlt, rfl, rfl, K.setNew _ _ (Nat.le_refl _), ?_⟩
      rw [set_at e1, List.take_succ, List.getElem?_eq_getElem hlt, List.map_append]
      rfl
    · have hk' : k = vs.length := by omega
      subst hk'
      rw [List.drop_length]
      simp only [listV, eV, eVs]
      walk_at "ev"
      simp only [show decide (((0 : Nat) : Int) = 2) = false from rfl, Bool.false_eq_true, if_false]
      refine SK_nx ?_
      walk_at "ev"
      rw [List.take_length] at e1
      exact ⟨h.length, rfl, Nat.le_refl _, K, e1⟩
  · exact ⟨0, Nat.zero_le _, rfl, rfl, Ext.push _ _, by simp⟩
end K88

namespace K88
open PySem PySem.Spec PyProof.Rows L2 IL
local macro_rules | `(tactic| walk_at "ev") => `(tactic| simp (config := { decide := false }) only [iVar, iC, iOp, iCons, iNil, iB, iCall, jVal, jAnd, jOr, jNot, iIf, iNeg, iNot, IL.iTup, IL.iTupP, IL.iLst, iSl, iNo, iPart, sAsg, sExpr, sRet, sRetN, sSkip, sAugN, sAugS, sPar, gNm, gTp, gsCons, gsNil, gSb, one, two, gInt, jYes, CT.put, wipeD, setAll, iListRev, parSet,
  List.getElem?_cons_zero, List.getElem?_cons_succ, List.set_cons_zero, List.set_cons_succ, List.map_cons, List.map_nil, List.cons_append, List.nil_append, List.replicate_succ, List.replicate_zero, List.getLast?_cons_cons, List.getLast?_singleton,
  Option.bind_some, Option.map_some, Ok_some, Ok_bind, Ok_map, if_true, if_false, Bool.false_eq_true, decide_true, decide_false, List.length_cons, List.length_nil, Nat.zero_le, sz1, sz2, sz3, sz4, sz5, sz6, sz7, sz8, sz9, sz10, sz11, sz12, Bool.not_true, Bool.not_false,
  gIx_tup, gIx_kt, gIx_sl, atI_0, atI_1, atI_2, atI_3, atI_4, atI_5, atI_m1, gEq_str, gEq_int, gNe_str, gNe_int, gAdd_int, seqD_tup, seqD_kt, gLen_tup, gLen_kt, Int.reduceNeg, len_push,
  le1, le2, le3, le4, le5, le6, le7, le8, le9, le10, le11])
/-! ### functions, programs -/
structure Fd where
  name : Str
  params : List (Str × Str)
  res : Str
  body : Pc
def eQ (q : Str × Str) : D := .tup [.str q.1, .str q.2]
def eF (f : Fd) : D := .tup [.str f.name, .tup (f.params.map eQ), .str f.res, eP f.body]
def ePr (kd : D) (fs : List Fd) : D := .tup [kd, .tup (fs.map eF)]
theorem number_spec (t : Nat → Fn) (kd : D) (fs : List Fd) (y : Str) (i : Nat) (h : IH) (hi : (fs.map (·.name)).findIdx? (fun x => x == y) = some i) (hl : fs.length ≤ 1000) : Ok (meant t 6 [ePr kd fs, .str y] h) fun r => r.1 = .int i ∧ Keep h r.2 := by
  refine ok_fun rfl ?_
  unfold b_6 ePr
  simp only [sRet, Ok_bind]
  refine ok_bm ?_
  refine ok_mapF (items := fs.map eF) (dp := []) (h1 := h) (fun d => match d with
    | .tup (z :: _) => z
    | d => d) ?_ depsOk_nil (by simp; omega) ?_ ?_
  · unfold pSeq
    walk_at "ev"
    rfl
  · intro d hd h' K
    obtain ⟨f, _, rfl⟩ := List.mem_map.mp hd
    simp only [eF]
    walk_at "ev"
    exact ⟨trivial, Ext.refl _⟩
  · intro h' K hn
    have e : ((fs.map eF).map fun d => match d with
      | .tup (z :: _) => z
      | d => d) = (fs.map (·.name)).map D.str := by
      rw [List.map_map, List.map_map]
      rfl
    rw [e] at hn
    walk_at "ev"
    refine ⟨isTy_lst hn, ?_⟩
    simp only [gIndex, one, lstD_lst hn, Option.bind_some, flat_strs, flatD, Bool.and_self, if_true, firstAt_strs, hi, Option.map_some, Ok_some]
    exact ⟨rfl, K⟩
theorem spare_spec (t : Nat → Fn) (f : Fd) (p k : Str) (h : IH) (hp : f.params = [(p, k)]) : Ok (meant t 0 [eF f] h) fun r => ∃ (L : Nat) (a b : Str), r.1 = .loc L ∧ Keep h r.2 ∧ r.2[L]? = some (.lst [.str a, .str b]) ∧ a ≠ p ∧ b ≠ p ∧ a ≠ b ∧ PyData.strOk a = true ∧ PyData.strOk b = true := by
  refine ok_fun rfl ?_
  unfold b_0 eF
  rw [hp]
  refine ok_seq ?_
  simp only [sAsg, Ok_bind]
  refine ok_mapF (items := [eQ (p, k)]) (dp := []) (h1 := h) (fun d => .str p) ?_ depsOk_nil (by simp) ?_ ?_
  · unfold pSeq
    walk_at "ev"
    rfl
  · intro d hd h' K
    rw [List.mem_singleton] at hd
    subst hd
    unfold eQ
    walk_at "ev"
    exact ⟨trivial, Ext.refl _⟩
  · intro h' K hn
    walk_at "ev"
    refine SK_nx ?_
    simp only [sRet, iSl, Ok_bind]
    refine ok_filterF (items := List.map D.str ["va", "vb", "vc", "vd", "ve", "vf"]) (dp := []) (h1 := h') (fun d => match d with
      | .str z => !decide (z = p)
      | _ => false) id ?_ depsOk_nil (by simp) ?_ ?_
    · unfold pSeq
      walk_at "ev"
      rfl
    · intro d hd h2 K2
      obtain ⟨z, _, rfl⟩ := List.mem_map.mp hd
      walk_at "ev"
      simp only [gNotIn, isIn_lst (K2.get hn) (show (flatD (.str z) && [D.str p].all flatD) = true from rfl), Option.map_some, Ok_some]
      walk_at "ev"
      refine ⟨?_, Ext.refl _, fun _ => ⟨rfl, Ext.refl _⟩⟩
      have := inD_strs z [p]
      simp only [List.map_cons, List.map_nil] at this
      rw [this]
      simp
    · intro h2 K2 hn2
      walk_at "ev"
      refine Ok.of (gSl_lst hn2) ?_
      rw [cutD_take2]
      simp only [RK]
      have K3 : Keep h (h2 ++ [O.lst ((List.map id (List.filter (fun d => match d with
        | .str z => !decide (z = p)
        | _ => false) (List.map D.str ["va", "vb", "vc", "vd", "ve", "vf"]))).take 2)]) := (K.trans K2).trans (Ext.push _ _)
      by_cases h1 : ("va" : Str) = p
      · subst h1
        exact ⟨h2.length, "vb", "vc", rfl, K3, by rw [get_new]; rfl, by decide, by decide, by decide, by decide +kernel, by decide +kernel⟩
      · by_cases h3 : ("vb" : Str) = p
        · subst h3
          exact ⟨h2.length, "va", "vc", rfl, K3, by rw [get_new]; rfl, by decide, by decide, by decide, by decide +kernel, by decide +kernel⟩
        · refine ⟨h2.length, "va", "vb", rfl, K3, ?_, h1, h3, by decide, by decide +kernel, by decide +kernel⟩
          rw [get_new]
          simp [List.filter_cons, h1, h3]
/-- the kinds' table: plain or not -/
def KdOk (n : Nat) (kd : D) : Prop := ∃ xs : List D, xs.length ≤ n ∧ ((kd = .kt xs ∧ xs ≠ []) ∨ kd = .tup xs)
theorem with_more_spec (t : Nat → Fn) (kd : D) (fs : List Fd) (f : Fd) (ks : List D) (m n : Nat) (h : IH) (e : h[m]? = some (.lst ks)) (hk : KdOk n kd) (hn : n ≤ 1000) (hks : ks.length ≤ 1000) (hl : fs.length ≤ 1000) :
    Ok (meant t 1 [ePr kd fs, .loc m, eF f] h) fun r => ∃ kd', r = (ePr kd' (fs ++ [f]), h) ∧ KdOk (n + ks.length) kd' := by
  refine ok_fun rfl ?_
  unfold b_1 ePr
  walk_at "ev"
  simp only [gTupOf_lst e, Ok_some]
  obtain ⟨xs, hx, ⟨rfl, hne⟩ | rfl⟩ := hk
  · simp only [gAdd, gAddT]
    rw [if_pos ⟨sz_of (by omega), hne⟩]
    walk_at "ev"
    simp only [if_pos (sz_of (show (fs.map eF).length + (0 + 1) ≤ 1000000 by simp; omega)), Ok_some]
    cases ks with
    | nil => exact ⟨.kt xs, by simp [RK, eF], xs, by simp; omega, .inl ⟨rfl, hne⟩⟩
    | cons k ks => exact ⟨.tup (xs ++ k :: ks), by simp [RK, eF], _, by simp at *; omega, .inr rfl⟩
  · simp only [gAdd, gAddT]
    rw [if_pos (sz_of (by omega))]
    walk_at "ev"
    simp only [if_pos (sz_of (show (fs.map eF).length + (0 + 1) ≤ 1000000 by simp; omega)), Ok_some]
    exact ⟨.tup (xs ++ ks), by simp [RK, eF], _, by simp; omega, .inr rfl⟩
abbrev SpareSp (F : Fn) : Prop := ∀ (f : Fd) (p k : Str) (h : IH), f.params = [(p, k)] → Ok (F [eF f] h) fun r => ∃ (L : Nat) (a b : Str), r.1 = .loc L ∧ Keep h r.2 ∧ r.2[L]? = some (.lst [.str a, .str b]) ∧ a ≠ p ∧ b ≠ p ∧ a ≠ b ∧ PyData.strOk a = true ∧ PyData.strOk b = true
abbrev MoreSp (F : Fn) : Prop := ∀ (kd : D) (fs : List Fd) (f : Fd) (ks : List D) (m n : Nat) (h : IH), h[m]? = some (.lst ks) → KdOk n kd → n ≤ 1000 → ks.length ≤ 1000 → fs.length ≤ 1000 →
    Ok (F [ePr kd fs, .loc m, eF f] h) fun r => ∃ kd', r = (ePr kd' (fs ++ [f]), h) ∧ KdOk (n + ks.length) kd'
/-- the chain of F and G -/
def chainF (F G : Fd) (p name a b : Str) : Fd := ⟨name, F.params, G.res, .call a F.name [p] (.call b G.name [a] (.give b))⟩
theorem atI_int {xs : List D} {i : Nat} {d : D} (e : xs[i]? = some d) : atI xs (i : Int) = some d := L2.atI_nat e
theorem chained_spec (t : Nat → Fn) (h0 : SpareSp (t 0)) (h1 : MoreSp (t 1)) (kd : D) (fs : List Fd) (i j : Nat) (F G : Fd) (p k name : Str) (n : Nat) (h : IH) (hF : fs[i]? = some F) (hG : fs[j]? = some G) (hp : F.params = [(p, k)]) (hk : KdOk n kd) (hn : n ≤ 1000) (hl : fs.length ≤ 1000) :
    Ok (meant t 2 [ePr kd fs, .int i, .int j, .str name] h) fun r => ∃ a b kd', r.1 = ePr kd' (fs ++ [chainF F G p name a b]) ∧ KdOk n kd' ∧ Keep h r.2 ∧ a ≠ p ∧ b ≠ p ∧ a ≠ b ∧ PyData.strOk a = true ∧ PyData.strOk b = true := by
  have eFi : (fs.map eF)[i]? = some (eF F) := by rw [List.getElem?_map, hF]; rfl
  have eGj : (fs.map eF)[j]? = some (eF G) := by rw [List.getElem?_map, hG]; rfl
  refine ok_fun rfl ?_
  unfold b_2 ePr
  refine ok_seq ?_
  walk_at "ev"
  simp only [atI_int eFi, atI_int eGj]
  walk_at "ev"
  refine SK_nx (ok_seq ?_)
  walk_at "ev"
  refine (h0 F p k h hp).imp ?_
  rintro ⟨d, h'⟩ ⟨L, a, b, rfl, K, e, ha, hb, hab, sa, sb⟩
  simp only at K e
  simp only [seqD_lst e]
  walk_at "ev"
  refine SK_nx (ok_seq ?_)
  simp only [sAsg, iB, iCons, iNil, Ok_bind]
  refine ok_mapF (items := F.params.map eQ) (dp := []) (h1 := h') (fun d => .str p) ?_ depsOk_nil (by simp [hp]) ?_ ?_
  · unfold pSeq eF
    walk_at "ev"
    rfl
  · intro d hd h2 K2
    rw [hp] at hd
    simp only [List.map_cons, List.map_nil, List.mem_singleton] at hd
    subst hd
    unfold eQ
    walk_at "ev"
    exact ⟨trivial, Ext.refl _⟩
  · intro h2 K2 hn2
    walk_at "ev"
    simp only [gTupOf_lst hn2]
    walk_at "ev"
    refine SK_nx (ok_seq ?_)
    rw [show eF F = D.tup [.str F.name, .tup (F.params.map eQ), .str F.res, eP F.body] from rfl, show eF G = D.tup [.str G.name, .tup (G.params.map eQ), .str G.res, eP G.body] from rfl]
    walk_at "ev"
    refine SK_nx (ok_seq ?_)
    walk_at "ev"
    refine SK_nx ?_
    walk_at "ev"
    have e2 : (h2 ++ [O.lst []])[h2.length]? = some (.lst []) := get_new
    have hq : (List.map (fun d => D.str p) (List.map eQ F.params)) = [.str p] := by rw [hp]; rfl
    rw [hq]
    have key : eF (chainF F G p name a b) = D.tup [.str name, .tup (F.params.map eQ), .str G.res, .tup [.str "call", .str a, .str F.name, .tup [.str p], .tup [.str "call", .str b, .str G.name, .tup [.str a], .tup [.str "give", .str b]]]] := by
      simp only [eF, chainF, eP, eS, List.map_cons, List.map_nil]
    rw [← key]
    refine Ok.imp (h1 kd fs (chainF F G p name a b) [] h2.length n _ e2 hk hn (by simp) hl) ?_
    rintro ⟨d, h3⟩ ⟨kd', er, hk'⟩
    cases er
    exact ⟨a, b, kd', rfl, by simpa using hk', (K.trans K2).trans (Ext.push _ _), ha, hb, hab, sa, sb⟩
/-- F over each thing of a list -/
def overF (F : Fd) (taken none more given empty longer name : Str) : Fd := ⟨name, [("things", taken)], given, .case "things" (.cons none [] (.make "list" empty [] (.give "list"))
  (.cons more ["thing", "rest"] (.call "told" F.name ["thing"] (.call "others" name ["rest"] (.make "list" longer ["told", "others"] (.give "list")))) .nil))⟩
theorem over_spec (t : Nat → Fn) (h1 : MoreSp (t 1)) (kd : D) (fs : List Fd) (i : Nat) (F : Fd) (p k taken none more given empty longer name : Str) (n : Nat) (h : IH) (hF : fs[i]? = some F) (hp : F.params = [(p, k)]) (hk : KdOk n kd) (hn : n ≤ 1000) (hl : fs.length ≤ 1000) :
    Ok (meant t 3 [ePr kd fs, .int i, eS [taken, none, more, given, empty, longer, name]] h) fun r => ∃ kd', r.1 = ePr kd' (fs ++ [overF F taken none more given empty longer name]) ∧ KdOk (n + 2) kd' ∧ Keep h r.2 := by
  have eFi : (fs.map eF)[i]? = some (eF F) := by rw [List.getElem?_map, hF]; rfl
  refine ok_fun rfl ?_
  unfold b_3 ePr eS
  refine ok_seq ?_
  walk_at "ev"
  refine SK_nx (ok_seq ?_)
  walk_at "ev"
  simp only [atI_int eFi]
  rw [show eF F = D.tup [.str F.name, .tup (F.params.map eQ), .str F.res, eP F.body] from rfl]
  walk_at "ev"
  refine SK_nx (ok_seq ?_)
  rw [hp]
  unfold eQ
  walk_at "ev"
  refine SK_nx (ok_seq ?_)
  walk_at "ev"
  refine SK_nx (ok_seq ?_)
  walk_at "ev"
  refine SK_nx (ok_seq ?_)
  walk_at "ev"
  refine SK_nx (ok_seq ?_)
  walk_at "ev"
  refine SK_nx (ok_seq ?_)
  walk_at "ev"
  refine SK_nx ?_
  walk_at "ev"
  have key : eF (overF F taken none more given empty longer name) = D.tup [.str name, .tup [.tup [.str "things", .str taken]], .str given, .tup [.str "case", .str "things", .tup [.tup [.str none, .tup [], .tup [.str "make", .str "list", .str empty, .tup [], .tup [.str "give", .str "list"]]],
      .tup [.str more, .tup [.str "thing", .str "rest"], .tup [.str "call", .str "told", .str F.name, .tup [.str "thing"], .tup [.str "call", .str "others", .str name, .tup [.str "rest"], .tup [.str "make", .str "list", .str longer, .tup [.str "told", .str "others"], .tup [.str "give", .str "list"]]]]]]]] := by
    simp only [eF, overF, eP, eA, eS, eQ, List.map_cons, List.map_nil]
  rw [← key]
  refine Ok.imp (h1 kd fs (overF F taken none more given empty longer name) _ h.length n _ get_new hk hn (by simp) hl) ?_
  rintro ⟨d, h3⟩ ⟨kd', er, hk'⟩
  cases er
  exact ⟨kd', rfl, by simpa using hk', Ext.push _ _⟩
end K88

namespace K88
open PySem PySem.Spec PyProof.Rows L2 IL
local macro_rules | `(tactic| walk_at "ev") => `(tactic| simp (config := { decide := false }) only [iVar, iC, iOp, iCons, iNil, iB, iCall, jVal, jAnd, jOr, jNot, iIf, iNeg, iNot, IL.iTup, IL.iTupP, IL.iLst, iSl, iNo, iPart, sAsg, sExpr, sRet, sRetN, sSkip, sAugN, sAugS, sPar, gNm, gTp, gsCons, gsNil, gSb, one, two, gInt, jYes, CT.put, wipeD, setAll, iListRev, parSet,
  List.getElem?_cons_zero, List.getElem?_cons_succ, List.set_cons_zero, List.set_cons_succ, List.map_cons, List.map_nil, List.cons_append, List.nil_append, List.replicate_succ, List.replicate_zero, List.getLast?_cons_cons, List.getLast?_singleton,
  Option.bind_some, Option.map_some, Ok_some, Ok_bind, Ok_map, if_true, if_false, Bool.false_eq_true, decide_true, decide_false, List.length_cons, List.length_nil, Nat.zero_le, sz1, sz2, sz3, sz4, sz5, sz6, sz7, sz8, sz9, sz10, sz11, sz12, Bool.not_true, Bool.not_false,
  gIx_tup, gIx_kt, gIx_sl, atI_0, atI_1, atI_2, atI_3, atI_4, atI_5, atI_m1, gEq_str, gEq_int, gNe_str, gNe_int, gAdd_int, seqD_tup, seqD_kt, gLen_tup, gLen_kt, Int.reduceNeg, len_push,
  le1, le2, le3, le4, le5, le6, le7, le8, le9, le10, le11])
/-! ### the names that a frame knows -/
abbrev Kn := List (Str × Val)
def getK : Kn → Str → Option Val
  | [], _ => none
  | (y, v) :: r, x => if y = x then some v else getK r x
def putK : Kn → Str → Val → Kn
  | [], x, v => [(x, v)]
  | (y, u) :: r, x, v => if y = x then (y, v) :: r else (y, u) :: putK r x v
def eK (kn : Kn) : List (Key × D) := kn.map fun q => (Sum.inr q.1, eV q.2)
theorem eK_get : ∀ (kn : Kn) (x : Str), valD (eK kn) (Sum.inr x : Key) = (getK kn x).map eV
  | [], _ => rfl
  | (y, v) :: r, x => by
    have ih := eK_get r x
    unfold eK at ih ⊢
    by_cases h : y = x
    · subst h; simp [valD, getK]
    · simp only [List.map_cons, valD, getK, if_neg h, if_neg (show ¬ (Sum.inr y : Key) = Sum.inr x from fun z => h (Sum.inr.inj z))]
      exact ih
theorem eK_put : ∀ (kn : Kn) (x : Str) (v : Val), putD (eK kn) (Sum.inr x : Key) (eV v) = eK (putK kn x v)
  | [], _, _ => rfl
  | (y, u) :: r, x, v => by
    have ih := eK_put r x v
    unfold eK at ih ⊢
    by_cases h : y = x
    · subst h; simp [putD, putK]
    · simp only [List.map_cons, putD, putK, if_neg h, if_neg (show ¬ (Sum.inr y : Key) = Sum.inr x from fun z => h (Sum.inr.inj z)), ih]
theorem putK_get (kn : Kn) (x y : Str) (v : Val) : getK (putK kn x v) y = if x = y then some v else getK kn y := by
  induction kn with
  | nil => simp [putK, getK]
  | cons q r ih =>
    obtain ⟨z, u⟩ := q
    by_cases h : z = x
    · subst h
      simp only [putK, if_true, getK]
      split <;> rfl
    · simp only [putK, if_neg h, getK, ih]
      by_cases h1 : z = y
      · subst h1; rw [if_pos rfl, if_neg (fun z => h z.symm), if_pos rfl]
      · simp [h1]
theorem putK_keys (kn : Kn) (x : Str) (v : Val) : (putK kn x v).map (·.1) = if x ∈ kn.map (·.1) then kn.map (·.1) else kn.map (·.1) ++ [x] := by
  induction kn with
  | nil => simp [putK]
  | cons q r ih =>
    obtain ⟨z, u⟩ := q
    by_cases h : z = x
    · subst h; simp [putK]
    · simp only [putK, if_neg h, List.map_cons, ih]
      have : ¬ x = z := fun e => h e.symm
      by_cases h2 : x ∈ r.map (·.1)
      · simp [h2]
      · rw [if_neg h2, if_neg (by simp only [List.mem_cons, not_or]; exact ⟨this, h2⟩)]; rfl
theorem putK_nodup {kn : Kn} {x : Str} {v : Val} (h : (kn.map (·.1)).Nodup) : ((putK kn x v).map (·.1)).Nodup := by
  rw [putK_keys]
  split
  · exact h
  · rename_i hx
    rw [List.nodup_append]
    exact ⟨h, by simp, fun a ha b hb => by simp at hb; subst hb; intro e; subst e; exact hx ha⟩
theorem putK_len (kn : Kn) (x : Str) (v : Val) : (putK kn x v).length ≤ kn.length + 1 := by
  have := congrArg List.length (putK_keys kn x v)
  rw [List.length_map] at this
  rw [this]
  split <;> simp
theorem keysOk_eK {kn : Kn} (h : (kn.map (·.1)).Nodup) : keysOk (eK kn) = true := by
  unfold keysOk eK
  rw [decide_eq_true_iff, List.map_map]
  have : ((fun (q : Key × D) => q.1) ∘ fun (q : Str × Val) => ((Sum.inr q.1 : Key), eV q.2)) = (fun x => (Sum.inr x : Key)) ∘ fun q => q.1 := rfl
  rw [this, ← List.map_map]
  rw [List.nodup_iff_pairwise_ne] at h ⊢
  exact List.pairwise_map.mpr (h.imp fun hab e => hab (Sum.inr.inj e))
/-! ### the walk -/
structure Fr where
  f : Nat
  n : Nat
  kn : Kn
structure WSt where
  stk : List Fr
  coins : Int
  taken : Nat
  fin : D
def wFlds (P : D) (Ls S : Nat) (c : Int) (k : Nat) (fin : D) : List (Str × D) := [("program", P), ("listed", .loc Ls), ("stack", .loc S), ("coins", .int c), ("taken", .int k), ("finish", fin)]
/-- the lists of pieces -/
def Listed (fs : List Fd) (h : IH) (s0 Ls : Nat) : Prop := Ls < s0 ∧ ∃ ls : List Nat, h[Ls]? = some (.lst (ls.map D.loc)) ∧ ls.length = fs.length ∧ ∀ (i l : Nat) (f : Fd), ls[i]? = some l → fs[i]? = some f → l < s0 ∧ h[l]? = some (.lst ((flat f.body).map eP))
/-- a frame at a, what it knows at b -/
structure FrAt (h : IH) (s0 : Nat) (q : Nat × Nat) (r : Fr) : Prop where
  lst : h[q.1]? = some (.lst [.int r.f, .int r.n, .loc q.2])
  dic : h[q.2]? = some (.dic (eK r.kn))
  nd : (r.kn.map (·.1)).Nodup
  lo : s0 ≤ q.1 ∧ s0 ≤ q.2
inductive FrsAt (h : IH) (s0 : Nat) : List (Nat × Nat) → List Fr → Prop
  | nil : FrsAt h s0 [] []
  | cons {q qs r rs} : FrAt h s0 q r → FrsAt h s0 qs rs → FrsAt h s0 (q :: qs) (r :: rs)
/-- the walk at w; behind s0 what turns change -/
structure WR (kd : D) (fs : List Fd) (h : IH) (w s0 Ls S : Nat) (qs : List (Nat × Nat)) (st : WSt) : Prop where
  ins : h[w]? = some (.ins 0 (wFlds (ePr kd fs) Ls S st.coins st.taken st.fin))
  lw : w < s0
  lS : s0 ≤ S
  stk : h[S]? = some (.lst (qs.reverse.map fun q => D.loc q.1))
  frs : FrsAt h s0 qs st.stk
  ndS : ∀ q ∈ qs, q.1 ≠ S
  nd1 : (qs.map (·.1)).Nodup
  nd2 : (qs.map (·.2)).Nodup
  lis : Listed fs h s0 Ls
/-- what a turn may change -/
abbrev Mv (w s0 : Nat) : Nat → Prop := fun i => i = w ∨ s0 ≤ i
section
variable {kd : D} {fs : List Fd} {h h' : IH} {w s0 Ls S : Nat} {qs : List (Nat × Nat)} {st : WSt}
theorem FrAt.of {q : Nat × Nat} {r : Fr} (F : FrAt h s0 q r) (h1 : h'[q.1]? = h[q.1]?) (h2 : h'[q.2]? = h[q.2]?) : FrAt h' s0 q r := ⟨h1 ▸ F.lst, h2 ▸ F.dic, F.nd, F.lo⟩
theorem FrsAt.of {rs : List Fr} (F : FrsAt h s0 qs rs) (k : ∀ q ∈ qs, h'[q.1]? = h[q.1]? ∧ h'[q.2]? = h[q.2]?) : FrsAt h' s0 qs rs := by
  induction F with
  | nil => exact .nil
  | cons f t ih => exact .cons (f.of (k _ (List.mem_cons_self ..)).1 (k _ (List.mem_cons_self ..)).2) (ih fun q hq => k q (List.mem_cons_of_mem _ hq))
theorem FrsAt.at {rs : List Fr} (F : FrsAt h s0 qs rs) : ∀ q ∈ qs, ∃ r, FrAt h s0 q r := by
  induction F with
  | nil => intro q hq; cases hq
  | cons f t ih =>
    intro q hq
    rcases List.mem_cons.mp hq with rfl | hq
    · exact ⟨_, f⟩
    · exact ih q hq
theorem FrsAt.len {rs : List Fr} (F : FrsAt h s0 qs rs) : qs.length = rs.length := by
  induction F with
  | nil => rfl
  | cons f t ih => simp [ih]
theorem Listed.of (l : Listed fs h s0 Ls) (x : Ext (Mv w s0) h h') (hw : ∃ o, h[w]? = some (.ins 0 o)) : Listed fs h' s0 Ls := by
  obtain ⟨h1, ls, h2, h3, h4⟩ := l
  obtain ⟨o, hw⟩ := hw
  have ne : ∀ i xs, h[i]? = some (.lst xs) → i < s0 → ¬ Mv w s0 i := fun i xs e hi hm => by
    rcases hm with rfl | hm
    · rw [hw] at e; cases e
    · omega
  exact ⟨h1, ls, x.at_ _ _ h2 (ne _ _ h2 h1), h3, fun i l f e1 e2 => ⟨(h4 i l f e1 e2).1, x.at_ _ _ (h4 i l f e1 e2).2 (ne _ _ (h4 i l f e1 e2).2 (h4 i l f e1 e2).1)⟩⟩
end
end K88

namespace K88
open PySem PySem.Spec PyProof.Rows L2 IL
local macro_rules | `(tactic| walk_at "ev") => `(tactic| simp (config := { decide := false }) only [iVar, iC, iOp, iCons, iNil, iB, iCall, jVal, jAnd, jOr, jNot, iIf, iNeg, iNot, IL.iTup, IL.iTupP, IL.iLst, iSl, iNo, iPart, sAsg, sExpr, sRet, sRetN, sSkip, sAugN, sAugS, sPar, gNm, gTp, gsCons, gsNil, gSb, one, two, gInt, jYes, CT.put, wipeD, setAll, iListRev, parSet,
  List.getElem?_cons_zero, List.getElem?_cons_succ, List.set_cons_zero, List.set_cons_succ, List.map_cons, List.map_nil, List.cons_append, List.nil_append, List.replicate_succ, List.replicate_zero, List.getLast?_cons_cons, List.getLast?_singleton,
  Option.bind_some, Option.map_some, Ok_some, Ok_bind, Ok_map, if_true, if_false, Bool.false_eq_true, decide_true, decide_false, List.length_cons, List.length_nil, Nat.zero_le, sz1, sz2, sz3, sz4, sz5, sz6, sz7, sz8, sz9, sz10, sz11, sz12, Bool.not_true, Bool.not_false,
  iFld, iMeth, gIx_tup, gIx_kt, gIx_sl, atI_0, atI_1, atI_2, atI_3, atI_4, atI_5, atI_m1, gEq_str, gEq_int, gNe_str, gNe_int, gAdd_int, seqD_tup, seqD_kt, gLen_tup, gLen_kt, Int.reduceNeg, len_push,
  le1, le2, le3, le4, le5, le6, le7, le8, le9, le10, le11])
section
variable {h : IH} {n : Nat} {d : D}
theorem gIx_last {xs : List D} (e : h[n]? = some (.lst (xs ++ [d]))) : gIx (.loc n) (.int (-1)) h = some (d, h) := by
  rw [gIx_lst e, atI_m1]; simp
theorem gGet_lst {xs : List D} {i : Int} (e : h[n]? = some (.lst xs)) : gGet (.loc n) (.int i) h = (atI xs i).map fun d => (d, h) := by
  simp only [gGet, lstD, e, ixSeq]
theorem putAt_1 {x y z : D} (e : h[n]? = some (.lst [x, y, z])) : IL.putAt (.loc n) (.int 1) d h = some (h.set n (.lst [x, d, z])) := by
  simp only [IL.putAt, e]; rfl
theorem putAt_dic {kn : Kn} {x : Str} {v : Val} (e : h[n]? = some (.dic (eK kn))) (nd : (kn.map (·.1)).Nodup) (hl : kn.length ≤ 100000) : IL.putAt (.loc n) (.str x) (eV v) h = some (h.set n (.dic (eK (putK kn x v)))) := by
  have h1 : decide ((eK kn).length < sizeLine) = true := decide_eq_true (sz_lt (by simp [eK]; omega))
  simp only [IL.putAt, e, keyD, Option.bind_some, keysOk_eK nd, h1, Bool.and_self, if_true, eK_put]
theorem gIx_dic {kn : Kn} {x : Str} {v : Val} (e : h[n]? = some (.dic (eK kn))) (g : getK kn x = some v) : gIx (.loc n) (.str x) h = some (eV v, h) := by
  simp only [gIx, seqD, e, dictAt, keyD, Option.map_some, eK_get, g]
theorem insAt_of {k : Nat} {fs : List (Str × D)} (e : h[n]? = some (.ins k fs)) : insAt k (.loc n) h = some (n, fs) := by
  simp only [insAt, e, if_true]
end
section
variable {P : D} {Ls S S' : Nat} {c c' : Int} {k k' : Nat} {fin fin' : D}
theorem wl1 : (wFlds P Ls S c k fin).lookup ("program" : Str) = some P := rfl
theorem wl2 : (wFlds P Ls S c k fin).lookup ("listed" : Str) = some (.loc Ls) := rfl
theorem wl3 : (wFlds P Ls S c k fin).lookup ("stack" : Str) = some (.loc S) := rfl
theorem wl4 : (wFlds P Ls S c k fin).lookup ("coins" : Str) = some (.int c) := rfl
theorem wl5 : (wFlds P Ls S c k fin).lookup ("taken" : Str) = some (.int k) := rfl
theorem wl6 : (wFlds P Ls S c k fin).lookup ("finish" : Str) = some fin := rfl
theorem wp3 : putFD "stack" (.loc S') (wFlds P Ls S c k fin) = wFlds P Ls S' c k fin := rfl
theorem wp4 : putFD "coins" (.int c') (wFlds P Ls S c k fin) = wFlds P Ls S c' k fin := rfl
theorem wp5 : putFD "taken" (.int (k' : Nat)) (wFlds P Ls S c k fin) = wFlds P Ls S c k' fin := rfl
theorem wp6 : putFD "finish" fin' (wFlds P Ls S c k fin) = wFlds P Ls S c k fin' := rfl
theorem wn1 : ((wFlds P Ls S c k fin).lookup ("begin" : Str)).isNone = true := rfl
theorem wn2 : ((wFlds P Ls S c k fin).lookup ("bind" : Str)).isNone = true := rfl
theorem wn3 : ((wFlds P Ls S c k fin).lookup ("stop" : Str)).isNone = true := rfl
theorem wn4 : ((wFlds P Ls S c k fin).lookup ("make" : Str)).isNone = true := rfl
theorem wn5 : ((wFlds P Ls S c k fin).lookup ("choose" : Str)).isNone = true := rfl
theorem wn6 : ((wFlds P Ls S c k fin).lookup ("give" : Str)).isNone = true := rfl
theorem wn7 : ((wFlds P Ls S c k fin).lookup ("do_piece" : Str)).isNone = true := rfl
theorem wn8 : ((wFlds P Ls S c k fin).lookup ("turn" : Str)).isNone = true := rfl
theorem wn9 : ((wFlds P Ls S c k fin).lookup ("steps" : Str)).isNone = true := rfl
theorem wn10 : ((wFlds P Ls S c k fin).lookup ("end" : Str)).isNone = true := rfl
theorem wn11 : ((wFlds P Ls S c k fin).lookup ("purse" : Str)).isNone = true := rfl
theorem wfl : (wFlds P Ls S c k fin).length < 1000 := by show 6 < 1000; decide
end
section
variable {kd : D} {fs : List Fd} {h h' : IH} {w s0 Ls S : Nat} {q : Nat × Nat} {qs : List (Nat × Nat)} {r : Fr} {rs : List Fr} {c : Int} {k : Nat} {fin : D}
theorem WR.top (R : WR kd fs h w s0 Ls S (q :: qs) ⟨r :: rs, c, k, fin⟩) : h[S]? = some (.lst (qs.reverse.map (fun q => D.loc q.1) ++ [.loc q.1])) := by
  have := R.stk
  simpa using this
theorem WR.fr (R : WR kd fs h w s0 Ls S (q :: qs) ⟨r :: rs, c, k, fin⟩) : FrAt h s0 q r := by
  cases R.frs with
  | cons f _ => exact f
theorem WR.setK (R : WR kd fs h w s0 Ls S (q :: qs) ⟨r :: rs, c, k, fin⟩) (kn : Kn) (nd : (kn.map (·.1)).Nodup) : WR kd fs (h.set q.2 (.dic (eK kn))) w s0 Ls S (q :: qs) ⟨{ r with kn := kn } :: rs, c, k, fin⟩ := by
  have F := R.fr
  have nl : ∀ i xs, h[i]? = some (.lst xs) → q.2 ≠ i := fun i xs e z => by rw [← z, F.dic] at e; cases e
  have nw : q.2 ≠ w := fun z => by have := R.ins; rw [← z, F.dic] at this; cases this
  refine ⟨by rw [set_ne nw]; exact R.ins, R.lw, R.lS, by rw [set_ne (nl _ _ R.stk)]; exact R.stk, ?_, R.ndS, R.nd1, R.nd2, R.lis.of (Ext.set _ _ _ (.inr F.lo.2)) ⟨_, R.ins⟩⟩
  cases R.frs with
  | cons f t =>
    refine .cons ⟨by rw [set_ne (nl _ _ F.lst)]; exact F.lst, set_at F.dic, nd, F.lo⟩ (t.of fun p hp => ?_)
    obtain ⟨_, f'⟩ := t.at p hp
    refine ⟨set_ne (nl _ _ f'.lst), set_ne fun z => ?_⟩
    have := R.nd2
    rw [List.map_cons, List.nodup_cons] at this
    exact this.1 (List.mem_map.mpr ⟨p, hp, z.symm⟩)
theorem WR.setN (R : WR kd fs h w s0 Ls S (q :: qs) ⟨r :: rs, c, k, fin⟩) (n : Nat) : WR kd fs (h.set q.1 (.lst [.int r.f, .int n, .loc q.2])) w s0 Ls S (q :: qs) ⟨{ r with n := n } :: rs, c, k, fin⟩ := by
  have F := R.fr
  have nl : ∀ i xs, h[i]? = some (.dic xs) → q.1 ≠ i := fun i xs e z => by rw [← z, F.lst] at e; cases e
  have nw : q.1 ≠ w := fun z => by have := R.ins; rw [← z, F.lst] at this; cases this
  refine ⟨by rw [set_ne nw]; exact R.ins, R.lw, R.lS, by rw [set_ne (R.ndS q (by simp))]; exact R.stk, ?_, R.ndS, R.nd1, R.nd2, R.lis.of (Ext.set _ _ _ (.inr F.lo.1)) ⟨_, R.ins⟩⟩
  cases R.frs with
  | cons f t =>
    refine .cons ⟨set_at F.lst, by rw [set_ne (nl _ _ F.dic)]; exact F.dic, F.nd, F.lo⟩ (t.of fun p hp => ?_)
    obtain ⟨_, f'⟩ := t.at p hp
    refine ⟨set_ne fun z => ?_, set_ne (nl _ _ f'.dic)⟩
    have := R.nd1
    rw [List.map_cons, List.nodup_cons] at this
    exact this.1 (List.mem_map.mpr ⟨p, hp, z.symm⟩)
/-- what the walk's own attributes hold is changed -/
theorem WR.setW (R : WR kd fs h w s0 Ls S qs ⟨rs, c, k, fin⟩) (c' : Int) (k' : Nat) (fin' : D) : WR kd fs (h.set w (.ins 0 (wFlds (ePr kd fs) Ls S c' k' fin'))) w s0 Ls S qs ⟨rs, c', k', fin'⟩ := by
  have nl : ∀ i xs, h[i]? = some (.lst xs) → w ≠ i := fun i xs e z => by rw [← z, R.ins] at e; cases e
  have nd : ∀ i xs, h[i]? = some (.dic xs) → w ≠ i := fun i xs e z => by rw [← z, R.ins] at e; cases e
  refine ⟨set_at R.ins, R.lw, R.lS, by rw [set_ne (nl _ _ R.stk)]; exact R.stk, R.frs.of fun p hp => ?_, R.ndS, R.nd1, R.nd2, R.lis.of (Ext.set _ _ _ (.inl rfl)) ⟨_, R.ins⟩⟩
  obtain ⟨_, f⟩ := R.frs.at p hp
  exact ⟨set_ne (nl _ _ f.lst), set_ne (nd _ _ f.dic)⟩
/-- new things behind -/
theorem WR.push (R : WR kd fs h w s0 Ls S qs ⟨rs, c, k, fin⟩) (x : Keep h h') : WR kd fs h' w s0 Ls S qs ⟨rs, c, k, fin⟩ := by
  refine ⟨x.get R.ins, R.lw, R.lS, x.get R.stk, R.frs.of fun p hp => ?_, R.ndS, R.nd1, R.nd2, R.lis.of (Ext.keep x) ⟨_, R.ins⟩⟩
  obtain ⟨_, f⟩ := R.frs.at p hp
  exact ⟨(x.get f.lst).trans f.lst.symm, (x.get f.dic).trans f.dic.symm⟩
end
theorem stop_spec (t : Nat → Fn) {kd : D} {fs : List Fd} {h : IH} {w s0 Ls S : Nat} {qs : List (Nat × Nat)} {st : WSt} (R : WR kd fs h w s0 Ls S qs st) (fin : D) :
    Ok (meant t 15 [.loc w, fin] h) fun r => r.1 = .non ∧ Ext (Mv w s0) h r.2 ∧ ∃ S', WR kd fs r.2 w s0 Ls S' [] { st with fin := fin, stk := [] } := by
  obtain ⟨rs, c, k, fin0⟩ := st
  refine ok_fun rfl ?_
  unfold b_15
  refine ok_seq ?_
  have e1 := insAt_of R.ins
  simp only at e1
  have R1 := R.setW c k fin
  have K1 : Ext (Mv w s0) h (h.set w (.ins 0 (wFlds (ePr kd fs) Ls S c k fin))) := Ext.set _ _ _ (.inl rfl)
  simp only [sFl]
  walk_at "ev"
  simp only [e1]
  walk_at "ev"
  simp only [wfl, if_true, wp6, Ok_some]
  generalize h.set w (O.ins 0 (wFlds (ePr kd fs) Ls S c k fin)) = h1 at *
  refine SK_nx ?_
  simp only [sFl]
  walk_at "ev"
  have e2 := insAt_of (get_old (o' := .lst []) R1.ins)
  simp only at e2
  simp only [e2]
  walk_at "ev"
  simp only [wfl, if_true, wp3, Ok_some]
  have hle := K1.le
  have hlw := lt_of_get R.ins
  have ls := lt_of_get R.stk
  have e3 := get_old (o' := .lst []) R1.ins
  refine ⟨rfl, (K1.trans (Ext.push _ _)).trans (Ext.set _ _ _ (.inl rfl)), h1.length, set_at e3, R.lw, by have := R.lS; omega, ?_, .nil, (fun q hq => by cases hq), by simp, by simp, ?_⟩
  · have : w ≠ h1.length := by have := lt_of_get R1.ins; omega
    rw [set_ne this, get_new]
    rfl
  · exact R1.lis.of ((Ext.push _ _).trans (Ext.set _ _ _ (.inl rfl))) ⟨_, R1.ins⟩
theorem bind_spec (t : Nat → Fn) {kd : D} {fs : List Fd} {h : IH} {w s0 Ls S : Nat} {q : Nat × Nat} {qs : List (Nat × Nat)} {r : Fr} {rs : List Fr} {c : Int} {k : Nat} {fin : D} (R : WR kd fs h w s0 Ls S (q :: qs) ⟨r :: rs, c, k, fin⟩) (x : Str) (v : Val) (hl : r.kn.length ≤ 100000) :
    Ok (meant t 16 [.loc w, .str x, eV v] h) fun z => z.1 = .non ∧ Ext (Mv w s0) h z.2 ∧ WR kd fs z.2 w s0 Ls S (q :: qs) ⟨⟨r.f, r.n + 1, putK r.kn x v⟩ :: rs, c, k, fin⟩ := by
  have e1 := insAt_of R.ins
  simp only at e1
  have F := R.fr
  refine ok_fun rfl ?_
  unfold b_16
  refine ok_seq ?_
  walk_at "ev"
  simp only [e1]
  walk_at "ev"
  simp only [wl3]
  walk_at "ev"
  simp only [gIx_last R.top]
  walk_at "ev"
  simp only [gIx_lst F.lst]
  walk_at "ev"
  simp only [putAt_dic F.dic F.nd hl]
  walk_at "ev"
  have R1 := R.setK (putK r.kn x v) (putK_nodup F.nd)
  have K1 : Ext (Mv w s0) h (h.set q.2 (.dic (eK (putK r.kn x v)))) := Ext.set _ _ _ (.inr F.lo.2)
  generalize h.set q.2 (O.dic (eK (putK r.kn x v))) = h1 at *
  refine SK_nx ?_
  have e2 := insAt_of R1.ins
  simp only at e2
  walk_at "ev"
  simp only [e2]
  walk_at "ev"
  simp only [wl3]
  walk_at "ev"
  simp only [gIx_last R1.top]
  walk_at "ev"
  simp only [gGet_lst R1.fr.lst]
  walk_at "ev"
  simp only [putAt_1 R1.fr.lst]
  walk_at "ev"
  have R2 := R1.setN (r.n + 1)
  exact ⟨rfl, K1.trans (Ext.set _ _ _ (.inr F.lo.1)), R2⟩
end K88

namespace K88
open PySem PySem.Spec PyProof.Rows L2 IL
local macro_rules | `(tactic| walk_at "ev") => `(tactic| simp (config := { decide := false }) only [iVar, iC, iOp, iCons, iNil, iB, iCall, jVal, jAnd, jOr, jNot, iIf, iNeg, iNot, IL.iTup, IL.iTupP, IL.iLst, iSl, iNo, iPart, sAsg, sExpr, sRet, sRetN, sSkip, sAugN, sAugS, sPar, gNm, gTp, gsCons, gsNil, gSb, one, two, gInt, jYes, CT.put, wipeD, setAll, iListRev, parSet,
  List.getElem?_cons_zero, List.getElem?_cons_succ, List.set_cons_zero, List.set_cons_succ, List.map_cons, List.map_nil, List.cons_append, List.nil_append, List.replicate_succ, List.replicate_zero, List.getLast?_cons_cons, List.getLast?_singleton,
  Option.bind_some, Option.map_some, Ok_some, Ok_bind, Ok_map, if_true, if_false, Bool.false_eq_true, decide_true, decide_false, List.length_cons, List.length_nil, Nat.zero_le, sz1, sz2, sz3, sz4, sz5, sz6, sz7, sz8, sz9, sz10, sz11, sz12, Bool.not_true, Bool.not_false,
  iFld, iMeth, iDicK, gIx_tup, gIx_kt, gIx_sl, atI_0, atI_1, atI_2, atI_3, atI_4, atI_5, atI_m1, gEq_str, gEq_int, gNe_str, gNe_int, gAdd_int, seqD_tup, seqD_kt, gLen_tup, gLen_kt, Int.reduceNeg, len_push,
  le1, le2, le3, le4, le5, le6, le7, le8, le9, le10, le11])
/-! ### begin -/
def bindAll (kn : Kn) (l : List (Str × Val)) : Kn := l.foldl (fun kn q => putK kn q.1 q.2) kn
theorem bindAll_nodup {l : List (Str × Val)} : ∀ {kn : Kn}, (kn.map (·.1)).Nodup → ((bindAll kn l).map (·.1)).Nodup := by
  induction l with
  | nil => intro kn h; exact h
  | cons q l ih => intro kn h; exact ih (putK_nodup h)
theorem bindAll_len {l : List (Str × Val)} : ∀ {kn : Kn}, (bindAll kn l).length ≤ kn.length + l.length := by
  induction l with
  | nil => intro kn; simp [bindAll]
  | cons q l ih => intro kn; have := @ih (putK kn q.1 q.2); have := putK_len kn q.1 q.2; simp only [bindAll, List.foldl_cons, List.length_cons] at *; omega
theorem bindAll_snoc {l : List (Str × Val)} {q : Str × Val} {kn : Kn} : bindAll kn (l ++ [q]) = putK (bindAll kn l) q.1 q.2 := by
  simp [bindAll]
theorem set_last {h : IH} {o o' : O} : (h ++ [o]).set h.length o' = h ++ [o'] := by simp
theorem begin_spec (t : Nat → Fn) {kd : D} {fs : List Fd} {h : IH} {w s0 Ls S : Nat} {qs : List (Nat × Nat)} {rs : List Fr} {c : Int} {k : Nat} {fin : D} (R : WR kd fs h w s0 Ls S qs ⟨rs, c, k, fin⟩) (f : Nat) (F : Fd) (vs : List Val) (m : Nat)
    (hF : fs[f]? = some F) (e : h[m]? = some (.lst (vs.map eV))) (hl : F.params.length ≤ 1000) (hq : qs.length ≤ 100000) :
    Ok (meant t 11 [.loc w, .int f, .loc m] h) fun z => z.1 = .non ∧ Ext (Mv w s0) h z.2 ∧ ∃ q, WR kd fs z.2 w s0 Ls S (q :: qs) ⟨⟨f, 0, bindAll [] ((F.params.map (·.1)).zip vs)⟩ :: rs, c, k, fin⟩ := by
  have e1 := get_old (o' := .dic []) R.ins
  have e1 := insAt_of e1
  simp only at e1
  have hSle := lt_of_get R.stk
  have hm := lt_of_get e
  have hls := R.lS
  refine ok_fun rfl ?_
  unfold b_11
  refine ok_seq ?_
  walk_at "ev"
  refine SK_nx (ok_seq (ok_for ?_))
  unfold pZip
  walk_at "ev"
  simp only [e1]
  walk_at "ev"
  simp only [wl1, ePr]
  walk_at "ev"
  simp only [atI_int (show (fs.map eF)[f]? = some (eF F) by rw [List.getElem?_map, hF]; rfl)]
  rw [show eF F = D.tup [.str F.name, .tup (F.params.map eQ), .str F.res, eP F.body] from rfl]
  walk_at "ev"
  simp only [seqSrc_tup, seqSrc_lst (get_old (o' := .dic []) e)]
  walk_at "ev"
  generalize hz : (F.params.map (·.1)).zip vs = zs
  have items : (List.map (fun x => D.tup [x.1, x.2]) ((F.params.map eQ).zip (vs.map eV))) = (F.params.zip vs).map fun q => D.tup [eQ q.1, eV q.2] := by
    rw [List.zip_map, List.map_map]; rfl
  have hzl : zs.length ≤ 1000 := by rw [← hz]; simp; omega
  refine ok_forI (fun i env h' => ∃ w4 w5 : Option D, env = [some (.loc w), some (.int f), some (.loc m), some (.loc h.length), w4, w5] ∧ h' = h ++ [.dic (eK (bindAll [] (zs.take i)))]) (fun i env h' hI => ?_) (fun i d env h' hd hI => ?_) (fun env h' hI => ?_) ?_
  · obtain ⟨w4, w5, rfl, rfl⟩ := hI
    exact depsOk_one (get_old e)
  · obtain ⟨w4, w5, rfl, rfl⟩ := hI
    rw [items, List.getElem?_map] at hd
    obtain ⟨⟨pq, v⟩, e2, rfl⟩ := Option.map_eq_some_iff.mp hd
    have e3 : zs[i]? = some (pq.1, v) := by
      rw [← hz, List.zip_map_left, List.getElem?_map, e2]; rfl
    simp only [eQ]
    walk_at "ev"
    have nd : ((bindAll [] (zs.take i)).map (·.1)).Nodup := bindAll_nodup (by simp)
    have hll : (bindAll [] (zs.take i)).length ≤ 100000 := by
      have := @bindAll_len (zs.take i) []
      rw [List.length_take] at this
      simp at this
      omega
    simp only [putAt_dic (n := h.length) get_new nd hll]
    walk_at "ev"
    refine ⟨_, _, rfl, ?_⟩
    rw [set_last, List.take_succ, e3]
    show _ = h ++ [O.dic (eK (bindAll [] (zs.take i ++ [(pq.1, v)])))]
    rw [bindAll_snoc]
  · obtain ⟨w4, w5, rfl, rfl⟩ := hI
    have el : (zs.take (List.map (fun x => D.tup [x.1, x.2]) ((F.params.map eQ).zip (vs.map eV))).length) = zs := by
      rw [items, List.length_map, ← hz]
      apply List.take_of_length_le
      simp
    rw [el]
    refine SK_nx ?_
    simp only [sExpr, Ok_bind]
    refine ok_bm ?_
    have R1 : WR kd fs (h ++ [.dic (eK (bindAll [] zs))]) w s0 Ls S qs ⟨rs, c, k, fin⟩ := R.push (Ext.push _ _)
    have e2 := insAt_of R1.ins
    simp only at e2
    walk_at "ev"
    simp only [e2]
    walk_at "ev"
    simp only [wl3]
    walk_at "ev"
    refine ⟨isTy_lst R1.stk, ?_⟩
    have e3 := get_old (o' := .lst [.int f, .int 0, .loc h.length]) R1.stk
    refine Ok.of (gAppend_lst e3 (sz_lt (by simp; omega))) ?_
    have R2 : WR kd fs (h ++ [.dic (eK (bindAll [] zs))] ++ [.lst [.int f, .int 0, .loc h.length]]) w s0 Ls S qs ⟨rs, c, k, fin⟩ := R1.push (Ext.push _ _)
    have a1 : (h ++ [O.dic (eK (bindAll [] zs))] ++ [O.lst [.int f, .int 0, .loc h.length]])[h.length + 1]? = some (.lst [.int f, .int 0, .loc h.length]) := by simp
    have a2 : (h ++ [O.dic (eK (bindAll [] zs))] ++ [O.lst [.int f, .int 0, .loc h.length]])[h.length]? = some (.dic (eK (bindAll [] zs))) := by simp
    have K2 : Ext (Mv w s0) h (h ++ [O.dic (eK (bindAll [] zs))] ++ [O.lst [.int f, .int 0, .loc h.length]]) := (Ext.push _ _).trans (Ext.push _ _)
    have old : ∀ p ∈ qs, p.1 < h.length ∧ p.2 < h.length := fun p hp => by
      obtain ⟨_, f'⟩ := R.frs.at p hp
      exact ⟨lt_of_get f'.lst, lt_of_get f'.dic⟩
    generalize h ++ [O.dic (eK (bindAll [] zs))] ++ [O.lst [.int f, .int 0, .loc h.length]] = h2 at *
    refine ⟨rfl, K2.trans (Ext.set _ _ _ (.inr R.lS)), (h.length + 1, h.length), ?_⟩
    have nl : ∀ i xs, h2[i]? = some (.dic xs) → S ≠ i := fun i xs e z => by rw [← z, R2.stk] at e; cases e
    have nw : S ≠ w := fun z => by have := R2.ins; rw [← z, R2.stk] at this; cases this
    refine ⟨by rw [set_ne nw]; exact R2.ins, R.lw, R.lS, ?_, ?_, ?_, ?_, ?_, R2.lis.of (Ext.set _ _ _ (.inr R.lS)) ⟨_, R2.ins⟩⟩
    · rw [set_at R2.stk]; simp
    · refine .cons ⟨?_, ?_, bindAll_nodup (by simp), by omega, by omega⟩ (R2.frs.of fun p hp => ?_)
      · rw [set_ne (by omega)]; exact a1
      · rw [set_ne (nl _ _ a2)]; exact a2
      · obtain ⟨_, f'⟩ := R2.frs.at p hp
        exact ⟨set_ne fun z => R.ndS p hp z.symm, set_ne (nl _ _ f'.dic)⟩
    · intro p hp
      rcases List.mem_cons.mp hp with rfl | hp
      · show h.length + 1 ≠ S; omega
      · exact R.ndS p hp
    · rw [List.map_cons, List.nodup_cons]
      refine ⟨fun hm => ?_, R.nd1⟩
      obtain ⟨p, hp, z⟩ := List.mem_map.mp hm
      have := (old p hp).1
      simp only at z
      omega
    · rw [List.map_cons, List.nodup_cons]
      refine ⟨fun hm => ?_, R.nd2⟩
      obtain ⟨p, hp, z⟩ := List.mem_map.mp hm
      have := (old p hp).2
      simp only at z
      omega
  · exact ⟨none, none, rfl, by simp [bindAll, eK]⟩
end K88

namespace K88
open PySem PySem.Spec PyProof.Rows L2 IL
local macro_rules | `(tactic| walk_at "ev") => `(tactic| simp (config := { decide := false }) only [iVar, iC, iOp, iCons, iNil, iB, iCall, jVal, jAnd, jOr, jNot, iIf, iNeg, iNot, IL.iTup, IL.iTupP, IL.iLst, iSl, iNo, iPart, sAsg, sExpr, sRet, sRetN, sSkip, sAugN, sAugS, sPar, gNm, gTp, gsCons, gsNil, gSb, one, two, gInt, jYes, CT.put, wipeD, setAll, iListRev, parSet,
  List.getElem?_cons_zero, List.getElem?_cons_succ, List.set_cons_zero, List.set_cons_succ, List.map_cons, List.map_nil, List.cons_append, List.nil_append, List.replicate_succ, List.replicate_zero, List.getLast?_cons_cons, List.getLast?_singleton,
  Option.bind_some, Option.map_some, Ok_some, Ok_bind, Ok_map, if_true, if_false, Bool.false_eq_true, decide_true, decide_false, List.length_cons, List.length_nil, Nat.zero_le, sz1, sz2, sz3, sz4, sz5, sz6, sz7, sz8, sz9, sz10, sz11, sz12, Bool.not_true, Bool.not_false,
  iFld, iMeth, iDicK, gIx_tup, gIx_kt, gIx_sl, atI_0, atI_1, atI_2, atI_3, atI_4, atI_5, atI_m1, gEq_str, gEq_int, gNe_str, gNe_int, gAdd_int, seqD_tup, seqD_kt, gLen_tup, gLen_kt, Int.reduceNeg, len_push,
  le1, le2, le3, le4, le5, le6, le7, le8, le9, le10, le11])
/-! ### choose -/
def Arms.l : Arms → List (Str × List Str × Pc)
  | .nil => []
  | .cons c ns b r => (c, ns, b) :: r.l
def eArm (a : Str × List Str × Pc) : D := .tup [.str a.1, eS a.2.1, eP a.2.2]
theorem eA_l : ∀ as : Arms, eA as = as.l.map eArm
  | .nil => rfl
  | .cons c ns b r => by simp only [eA, Arms.l, List.map_cons, eA_l r, eArm]
theorem bodies_l : ∀ as : Arms, as.bodies = as.l.map (·.2.2)
  | .nil => rfl
  | .cons c ns b r => by simp only [Arms.bodies, Arms.l, List.map_cons, bodies_l r]
/-- the arm of a maker: its names, how far ahead its body stands -/
def findArm (m : Str) : List (Str × List Str × Pc) → Nat → Option (List Str × Nat × Pc)
  | [], _ => none
  | a :: r, k => if a.1 = m then some (a.2.1, k, a.2.2) else findArm m r (k + (flat a.2.2).length)
abbrev PiecesSp (F : Fn) : Prop := ∀ (p : Pc) (h : IH) (n : Nat), n < 400 → PcOk n p → Ok (F [eP p] h) fun r => ∃ L, r.1 = .loc L ∧ h.length ≤ L ∧ Keep h r.2 ∧ r.2[L]? = some (.lst ((flat p).map eP))
/-- what choose leaves -/
def chosen (r : Fr) (m : Str) (ps : List Val) (as : Arms) : Fr := match findArm m as.l 1 with
  | some (ns, k, _) => ⟨r.f, r.n + k, bindAll r.kn (ns.zip ps)⟩
  | none => r
theorem choose_spec (t : Nat → Fn) (h5 : PiecesSp (t 5)) {kd : D} {fs : List Fd} {h : IH} {w s0 Ls S : Nat} {q : Nat × Nat} {qs : List (Nat × Nat)} {r : Fr} {rs : List Fr} {c : Int} {k : Nat} {fin : D} (R : WR kd fs h w s0 Ls S (q :: qs) ⟨r :: rs, c, k, fin⟩)
    (x m : Str) (as : Arms) (ps : List Val) (n : Nat) (hn : n < 400) (hx : getK r.kn x = some (.mk m ps)) (hok : ∀ a ∈ as.l, PcOk n a.2.2 ∧ a.2.1.length ≤ 1000) (hl : r.kn.length ≤ 50000) :
    Ok (meant t 20 [.loc w, eP (.case x as), .loc q.2] h) fun z => z.1 = .non ∧ Ext (Mv w s0) h z.2 ∧ WR kd fs z.2 w s0 Ls S (q :: qs) ⟨chosen r m ps as :: rs, c, k, fin⟩ := by
  refine ok_fun rfl ?_
  unfold b_20
  simp only [eP]
  refine ok_seq ?_
  walk_at "ev"
  simp only [gIx_dic R.fr.dic hx, eV]
  walk_at "ev"
  refine SK_nx (ok_seq ?_)
  walk_at "ev"
  refine SK_nx (ok_for (ok_pSeq ?_))
  walk_at "ev"
  refine ⟨true, as.l.map eArm, [], (fun s z => by cases z), by rw [eA_l]; rfl, ?_⟩
  refine ok_forI (fun i env h' => ∃ (w6 w7 w8 w9 w10 : Option D) (a : Nat), env = [some (.loc w), some (.tup [.str "case", .str x, .tup (eA as)]), some (.loc q.2), some (.str m), some (.tup (eVs ps)), some (.int a), w6, w7, w8, w9, w10] ∧ Keep h h' ∧ findArm m as.l 1 = findArm m (as.l.drop i) a) (fun _ _ _ _ => depsOk_nil) (fun i d env h' hd hI => ?_) (fun env h' hI => ?_) ?_
  · obtain ⟨w6, w7, w8, w9, w10, a, rfl, K, hf⟩ := hI
    rw [List.getElem?_map] at hd
    obtain ⟨⟨c', ns, b⟩, e1, rfl⟩ := Option.map_eq_some_iff.mp hd
    have hb := hok _ (List.mem_of_getElem? e1)
    have hlt := (List.getElem?_eq_some_iff.mp e1).1
    rw [List.drop_eq_getElem_cons hlt, show as.l[i] = (c', ns, b) from by rw [List.getElem?_eq_getElem hlt] at e1; exact Option.some.inj e1] at hf
    simp only [findArm] at hf
    simp only [eArm]
    walk_at "ev"
    refine ok_seq (ok_if ?_)
    walk_at "ev"
    by_cases hc : c' = m
    · subst hc
      simp only [if_true] at hf
      simp only [decide_true, if_true]
      refine ok_seq (ok_for ?_)
      unfold pZip eS
      walk_at "ev"
      simp only [seqSrc_tup]
      walk_at "ev"
      have R0 : WR kd fs h' w s0 Ls S (q :: qs) ⟨r :: rs, c, k, fin⟩ := R.push K
      have items : (List.map (fun x => D.tup [x.1, x.2]) ((ns.map D.str).zip (eVs ps))) = (ns.zip ps).map fun q => D.tup [.str q.1, eV q.2] := by
        rw [eVs_map, List.zip_map, List.map_map]; rfl
      have hb2 : ns.length ≤ 1000 := hb.2
      have hzl : (ns.zip ps).length ≤ 1000 := by simp; omega
      refine ok_forI (fun j env h2 => ∃ (w9 w10 : Option D), env = [some (.loc w), some (.tup [.str "case", .str x, .tup (eA as)]), some (.loc q.2), some (.str c'), some (.tup (eVs ps)), some (.int a), some (.str c'), some (.tup (ns.map D.str)), some (eP b), w9, w10] ∧ Ext (Mv w s0) h' h2 ∧
        WR kd fs h2 w s0 Ls S (q :: qs) ⟨{ r with kn := bindAll r.kn ((ns.zip ps).take j) } :: rs, c, k, fin⟩) (fun _ _ _ _ => depsOk_nil) (fun j d env h2 hd hI => ?_) (fun env h2 hI => ?_) ?_
      · obtain ⟨w9, w10, rfl, K2, R2⟩ := hI
        rw [items, List.getElem?_map] at hd
        obtain ⟨⟨y, v⟩, e2, rfl⟩ := Option.map_eq_some_iff.mp hd
        walk_at "ev"
        have hll : (bindAll r.kn ((ns.zip ps).take j)).length ≤ 100000 := by
          have := @bindAll_len ((ns.zip ps).take j) r.kn
          rw [List.length_take] at this
          omega
        have D2 := R2.fr.dic
        simp only at D2
        simp only [putAt_dic D2 R2.fr.nd hll]
        walk_at "ev"
        refine ⟨_, _, rfl, K2.trans (Ext.set _ _ _ (.inr R2.fr.lo.2)), ?_⟩
        have := R2.setK (putK (bindAll r.kn ((ns.zip ps).take j)) y v) (putK_nodup R2.fr.nd)
        rw [List.take_succ, e2]
        show WR _ _ _ _ _ _ _ _ ⟨{ r with kn := bindAll r.kn ((ns.zip ps).take j ++ [(y, v)]) } :: rs, c, k, fin⟩
        rw [bindAll_snoc]
        exact this
      · obtain ⟨w9, w10, rfl, K2, R2⟩ := hI
        have el : (ns.zip ps).take (List.map (fun x => D.tup [x.1, x.2]) ((ns.map D.str).zip (eVs ps))).length = ns.zip ps := by
          rw [items, List.length_map, List.take_length]
        rw [el] at R2
        refine SK_nx (ok_seq ?_)
        have e3 := insAt_of R2.ins
        simp only at e3
        walk_at "ev"
        simp only [e3]
        walk_at "ev"
        simp only [wl3]
        walk_at "ev"
        simp only [gIx_last R2.top]
        walk_at "ev"
        simp only [gGet_lst R2.fr.lst]
        walk_at "ev"
        simp only [putAt_1 R2.fr.lst]
        walk_at "ev"
        refine SK_nx ?_
        walk_at "ev"
        have R3 := R2.setN (r.n + a)
        refine ⟨rfl, ((Ext.keep K).trans K2).trans (Ext.set _ _ _ (.inr R2.fr.lo.1)), ?_⟩
        unfold chosen
        rw [hf]
        have ea : ((r.n : Int) + (a : Int)) = ((r.n + a : Nat) : Int) := by omega
        rw [ea]
        exact R3
      · exact ⟨w9, w10, rfl, Ext.refl _, by simpa [bindAll] using R0⟩
    · rw [if_neg hc] at hf
      simp only [show decide (c' = m) = false from decide_eq_false hc, Bool.false_eq_true, if_false]
      refine SK_nx ?_
      walk_at "ev"
      refine (h5 b h' n hn hb.1).imp ?_
      rintro ⟨d, h2⟩ ⟨L, rfl, hL, K2, e2⟩
      simp only at K2 e2
      refine Ok.of (gLen_lst e2) ?_
      walk_at "ev"
      have ea : ((a : Int) + (((flat b).map eP).length : Nat)) = ((a + (flat b).length : Nat) : Int) := by rw [List.length_map]; omega
      rw [ea]
      exact ⟨_, _, _, _, _, a + (flat b).length, rfl, K.trans K2, hf⟩
  · obtain ⟨w6, w7, w8, w9, w10, a, rfl, K, hf⟩ := hI
    have hf2 : findArm m as.l 1 = none := by
      rw [hf]
      simp [findArm]
    refine ⟨rfl, Ext.keep K, ?_⟩
    unfold chosen
    rw [hf2]
    exact R.push K
  · exact ⟨none, none, none, none, none, 1, rfl, Ext.refl _, rfl⟩
end K88

namespace K88
open PySem PySem.Spec PyProof.Rows L2 IL
local macro_rules | `(tactic| walk_at "ev") => `(tactic| simp (config := { decide := false }) only [iVar, iC, iOp, iCons, iNil, iB, iCall, jVal, jAnd, jOr, jNot, iIf, iNeg, iNot, IL.iTup, IL.iTupP, IL.iLst, iSl, iNo, iPart, sAsg, sExpr, sRet, sRetN, sSkip, sAugN, sAugS, sPar, gNm, gTp, gsCons, gsNil, gSb, one, two, gInt, jYes, CT.put, wipeD, setAll, iListRev, parSet,
  List.getElem?_cons_zero, List.getElem?_cons_succ, List.set_cons_zero, List.set_cons_succ, List.map_cons, List.map_nil, List.cons_append, List.nil_append, List.replicate_succ, List.replicate_zero, List.getLast?_cons_cons, List.getLast?_singleton,
  Option.bind_some, Option.map_some, Ok_some, Ok_bind, Ok_map, if_true, if_false, Bool.false_eq_true, decide_true, decide_false, List.length_cons, List.length_nil, Nat.zero_le, sz1, sz2, sz3, sz4, sz5, sz6, sz7, sz8, sz9, sz10, sz11, sz12, Bool.not_true, Bool.not_false,
  iFld, iMeth, iDicK, gIx_tup, gIx_kt, gIx_sl, atI_0, atI_1, atI_2, atI_3, atI_4, atI_5, atI_m1, gEq_str, gEq_int, gNe_str, gNe_int, gAdd_int, seqD_tup, seqD_kt, gLen_tup, gLen_kt, Int.reduceNeg, len_push,
  le1, le2, le3, le4, le5, le6, le7, le8, le9, le10, le11])
theorem lw1 : (("call" : Str) = "make") = False := by decide
theorem lw2 : (("name" : Str) = "make") = False := by decide
theorem lw3 : (("name" : Str) = "call") = False := by decide
theorem lw4 : (("case" : Str) = "make") = False := by decide
theorem lw5 : (("case" : Str) = "call") = False := by decide
theorem lw6 : (("case" : Str) = "name") = False := by decide
theorem lw7 : (("give" : Str) = "make") = False := by decide
theorem lw8 : (("give" : Str) = "call") = False := by decide
theorem lw9 : (("give" : Str) = "name") = False := by decide
theorem lw10 : (("give" : Str) = "case") = False := by decide
theorem lw11 : (("pay" : Str) = "make") = False := by decide
theorem lw12 : (("pay" : Str) = "call") = False := by decide
theorem lw13 : (("pay" : Str) = "name") = False := by decide
theorem lw14 : (("get" : Str) = "make") = False := by decide
theorem lw15 : (("get" : Str) = "call") = False := by decide
theorem lw16 : (("get" : Str) = "name") = False := by decide
theorem lw17 : (("get" : Str) = "pay") = False := by decide
/-- a value that is not too great -/
def VOk (v : Val) : Prop := vdeep v ≤ 60 ∧ vsize v ≤ 10000
abbrev SizeSp (F : Fn) : Prop := ∀ (v : Val) (h : IH), vsize v ≤ 100000 → Ok (F [eV v] h) fun r => r.1 = .int (vsize v) ∧ Keep h r.2
abbrev DeepSp (F : Fn) : Prop := ∀ (v : Val) (h : IH), vdeep v ≤ 60 → vsize v ≤ 100000 → Ok (F [eV v] h) fun r => r.1 = .int (vdeep v) ∧ Keep h r.2
abbrev StopSp (F : Fn) : Prop := ∀ {kd : D} {fs : List Fd} {h : IH} {w s0 Ls S : Nat} {qs : List (Nat × Nat)} {st : WSt}, WR kd fs h w s0 Ls S qs st → ∀ fin : D,
    Ok (F [.loc w, fin] h) fun r => r.1 = .non ∧ Ext (Mv w s0) h r.2 ∧ ∃ S', WR kd fs r.2 w s0 Ls S' [] { st with fin := fin, stk := [] }
abbrev BindSp (F : Fn) : Prop := ∀ {kd : D} {fs : List Fd} {h : IH} {w s0 Ls S : Nat} {q : Nat × Nat} {qs : List (Nat × Nat)} {r : Fr} {rs : List Fr} {c : Int} {k : Nat} {fin : D}, WR kd fs h w s0 Ls S (q :: qs) ⟨r :: rs, c, k, fin⟩ → ∀ (x : Str) (v : Val), r.kn.length ≤ 100000 →
    Ok (F [.loc w, .str x, eV v] h) fun z => z.1 = .non ∧ Ext (Mv w s0) h z.2 ∧ WR kd fs z.2 w s0 Ls S (q :: qs) ⟨⟨r.f, r.n + 1, putK r.kn x v⟩ :: rs, c, k, fin⟩
/-- the walk stands so, somewhere -/
def At (kd : D) (fs : List Fd) (w s0 Ls : Nat) (st : WSt) (h h' : IH) : Prop := Ext (Mv w s0) h h' ∧ ∃ S qs, WR kd fs h' w s0 Ls S qs st
def fGreat (c : Str) : D := .tup [.str "great", .str c]
def fGave (v : Val) : D := .tup [.str "gave", eV v]
def fShort (n : Int) : D := .tup [.str "short", .int n]
theorem sum_sizes (vs : List Val) : (vs.map fun v => ((vsize v : Nat) : Int)).sum = ((vsizes vs : Nat) : Int) := by
  induction vs with
  | nil => rfl
  | cons v vs ih => simp only [List.map_cons, List.sum_cons, ih, vsizes]; omega
theorem max_deeps (vs : List Val) : ∀ (v : Val), (vs.map fun v => ((vdeep v : Nat) : Int)).foldl max (vdeep v : Int) = ((vdeeps (v :: vs) : Nat) : Int) := fun v => by
  have h1 := foldl_max (vs.map vdeep) (vdeep v)
  rw [List.map_map] at h1
  have h2 := vdeeps_fold vs (vdeep v)
  rw [h2] at h1
  simp only [vdeeps]
  exact h1
theorem ok_maxDef {f g : IE} {env : IEnv} {h : IH} {Q : D × IH → Prop} (k : Ok (f env h) fun r => Ok (g env r.2) fun z => ∃ xs ns m, lstD z.2 r.1 = some xs ∧ intsD xs = some ns ∧ (ns = [] → z.1 = .int m) ∧ (∀ n l, ns = n :: l → l.foldl max n = m) ∧ Q (.int m, z.2)) : Ok (iMaxDef f g env h) Q := by
  unfold iMaxDef
  rw [Ok_bind]
  refine k.imp ?_
  rintro ⟨x, h1⟩ q
  rw [Ok_bind]
  refine Ok.imp q ?_
  rintro ⟨d, h2⟩ ⟨xs, ns, m, e1, e2, q1, q2, q3⟩
  simp only at e1 q1 q2 q3
  simp only [e1, e2, Option.bind_some, Option.map_some, Ok_some]
  cases ns with
  | nil => rw [q1 rfl]; exact q3
  | cons n l =>
    show Q (D.int (l.foldl max n), h2)
    rw [q2 n l rfl]; exact q3
def madeSt (r : Fr) (rs : List Fr) (cn : Int) (k : Nat) (x c : Str) (vs : List Val) : WSt :=
  if 200 < 1 + vsizes vs ∨ 60 < 1 + vdeeps vs then ⟨[], cn, k, fGreat c⟩ else ⟨⟨r.f, r.n + 1, putK r.kn x (.mk c vs)⟩ :: rs, cn, k, .non⟩
theorem make_spec (t : Nat → Fn) (h8 : SizeSp (t 8)) (h9 : DeepSp (t 9)) (h15 : StopSp (t 15)) (h16 : BindSp (t 16)) {kd : D} {fs : List Fd} {h : IH} {w s0 Ls S : Nat} {q : Nat × Nat} {qs : List (Nat × Nat)} {r : Fr} {rs : List Fr} {cn : Int} {k : Nat}
    (R : WR kd fs h w s0 Ls S (q :: qs) ⟨r :: rs, cn, k, .non⟩) (x c : Str) (ys : List Str) (p : Pc) (vs : List Val) (hv : ∀ v ∈ vs, VOk v) (hl : vs.length ≤ 1000) (hk : r.kn.length ≤ 100000) :
    Ok (meant t 19 [.loc w, eP (.make x c ys p), .tup (vs.map eV)] h) fun z => At kd fs w s0 Ls (madeSt r rs cn k x c vs) h z.2 := by
  refine ok_fun rfl ?_
  unfold b_19
  simp only [eP]
  refine ok_seq ?_
  simp only [sAsg, iOp, iB, iCons, iNil, iC, Ok_bind, Ok_some]
  refine ok_mapK (items := vs.map eV) (dp := []) (h1 := h) (fun i y => ∃ v, vs[i]? = some v ∧ y = .int (vsize v)) ?_ depsOk_nil (by simp; omega) ?_ ?_
  · unfold pSeq
    walk_at "ev"
    rfl
  · intro i d h' hd K
    rw [List.getElem?_map] at hd
    obtain ⟨v, e1, rfl⟩ := Option.map_eq_some_iff.mp hd
    have hm := hv v (List.mem_of_getElem? e1)
    walk_at "ev"
    exact (h8 v h' (by have := hm.2; omega)).imp fun z hz => ⟨⟨v, e1, hz.1⟩, hz.2⟩
  intro ys1 h1 hl1 hP1 K1 hn1
  have ey1 : ys1 = (vs.map fun v => ((vsize v : Nat) : Int)).map D.int := by
    apply List.ext_getElem?
    intro i
    by_cases hi : i < ys1.length
    · obtain ⟨v, e1, e2⟩ := hP1 i ys1[i] (List.getElem?_eq_getElem hi)
      rw [List.getElem?_eq_getElem hi, List.getElem?_map, List.getElem?_map, e1, e2]; rfl
    · rw [List.getElem?_eq_none (by omega), List.getElem?_eq_none (by simp at hl1 ⊢; omega)]
  subst ey1
  simp only [gSum, one, lstD_lst hn1, Option.bind_some, intsD_map, Option.map_some, Ok_some, sum_sizes, gAdd_int]
  walk_at "ev"
  refine SK_nx (ok_seq ?_)
  simp only [sAsg, iOp, iC, Ok_bind, Ok_some]
  refine ok_maxDef ?_
  refine ok_mapK (items := vs.map eV) (dp := []) (h1 := h1) (fun i y => ∃ v, vs[i]? = some v ∧ y = .int (vdeep v)) ?_ depsOk_nil (by simp; omega) ?_ ?_
  · unfold pSeq
    walk_at "ev"
    rfl
  · intro i d h' hd K
    rw [List.getElem?_map] at hd
    obtain ⟨v, e1, rfl⟩ := Option.map_eq_some_iff.mp hd
    have hm := hv v (List.mem_of_getElem? e1)
    walk_at "ev"
    exact (h9 v h' hm.1 (by have := hm.2; omega)).imp fun z hz => ⟨⟨v, e1, hz.1⟩, hz.2⟩
  intro ys2 h2 hl2 hP2 K2 hn2
  have ey2 : ys2 = (vs.map fun v => ((vdeep v : Nat) : Int)).map D.int := by
    apply List.ext_getElem?
    intro i
    by_cases hi : i < ys2.length
    · obtain ⟨v, e1, e2⟩ := hP2 i ys2[i] (List.getElem?_eq_getElem hi)
      rw [List.getElem?_eq_getElem hi, List.getElem?_map, List.getElem?_map, e1, e2]; rfl
    · rw [List.getElem?_eq_none (by omega), List.getElem?_eq_none (by simp at hl2 ⊢; omega)]
  subst ey2
  walk_at "ev"
  refine ⟨_, _, ((vdeeps vs : Nat) : Int), lstD_lst hn2, intsD_map _, fun z => ?_, fun n l z => ?_, ?_⟩
  · cases vs with
    | nil => rfl
    | cons v vs => cases z
  · cases vs with
    | nil => cases z
    | cons v vs =>
      rw [List.map_cons] at z
      injection z with z1 z2
      rw [← z1, ← z2, max_deeps]
  have R2 : WR kd fs h2 w s0 Ls S (q :: qs) ⟨r :: rs, cn, k, .non⟩ := R.push (K1.trans K2)
  have e1 := insAt_of R2.ins
  simp only at e1
  unfold madeSt
  have i1 : ((200 : Int) < 1 + ((vsizes vs : Nat) : Int)) ↔ 200 < 1 + vsizes vs := by omega
  have i2 : ((60 : Int) < 1 + ((vdeeps vs : Nat) : Int)) ↔ 60 < 1 + vdeeps vs := by omega
  refine SK_nx (ok_if (Ok.of (a := (decide (200 < 1 + vsizes vs ∨ 60 < 1 + vdeeps vs), h2)) ?_ ?_))
  · by_cases c1 : 200 < 1 + vsizes vs
    · simp [jOr, jVal, iOp, iVar, iC, gInt, c1, i1]
    · by_cases c2 : 60 < 1 + vdeeps vs
      · simp [jOr, jVal, iOp, iVar, iC, gInt, c1, c2, i1, i2]
      · simp [jOr, jVal, iOp, iVar, iC, gInt, c1, c2, i1, i2]
  · by_cases hb : 200 < 1 + vsizes vs ∨ 60 < 1 + vdeeps vs
    · simp only [decide_eq_true hb, if_true, if_pos hb]
      walk_at "ev"
      simp only [e1]
      walk_at "ev"
      simp only [wn3, if_true]
      refine (h15 R2 (fGreat c)).imp ?_
      rintro ⟨d, h3⟩ ⟨_, K3, S', R3⟩
      exact ⟨(Ext.keep (K1.trans K2)).trans K3, S', [], R3⟩
    · simp only [decide_eq_false hb, Bool.false_eq_true, if_false, if_neg hb]
      walk_at "ev"
      simp only [e1]
      walk_at "ev"
      simp only [wn2, if_true]
      have ev : D.tup [.str c, .tup (vs.map eV)] = eV (.mk c vs) := by simp only [eV, eVs_map]
      rw [ev]
      refine (h16 R2 x (.mk c vs) hk).imp ?_
      rintro ⟨d, h3⟩ ⟨_, K3, R3⟩
      exact ⟨(Ext.keep (K1.trans K2)).trans K3, S, q :: qs, R3⟩
end K88

namespace K88
open PySem PySem.Spec PyProof.Rows L2 IL
local macro_rules | `(tactic| walk_at "ev") => `(tactic| simp (config := { decide := false }) only [iVar, iC, iOp, iCons, iNil, iB, iCall, jVal, jAnd, jOr, jNot, iIf, iNeg, iNot, IL.iTup, IL.iTupP, IL.iLst, iSl, iNo, iPart, sAsg, sExpr, sRet, sRetN, sSkip, sAugN, sAugS, sPar, gNm, gTp, gsCons, gsNil, gSb, one, two, gInt, jYes, CT.put, wipeD, setAll, iListRev, parSet,
  List.getElem?_cons_zero, List.getElem?_cons_succ, List.set_cons_zero, List.set_cons_succ, List.map_cons, List.map_nil, List.cons_append, List.nil_append, List.replicate_succ, List.replicate_zero, List.getLast?_cons_cons, List.getLast?_singleton,
  Option.bind_some, Option.map_some, Ok_some, Ok_bind, Ok_map, if_true, if_false, Bool.false_eq_true, decide_true, decide_false, List.length_cons, List.length_nil, Nat.zero_le, sz1, sz2, sz3, sz4, sz5, sz6, sz7, sz8, sz9, sz10, sz11, sz12, Bool.not_true, Bool.not_false,
  iFld, iMeth, iDicK, gIx_tup, gIx_kt, gIx_sl, atI_0, atI_1, atI_2, atI_3, atI_4, atI_5, atI_m1, gEq_str, gEq_int, gNe_str, gNe_int, gAdd_int, seqD_tup, seqD_kt, gLen_tup, gLen_kt, Int.reduceNeg, len_push,
  le1, le2, le3, le4, le5, le6, le7, le8, le9, le10, le11, lw1, lw2, lw3, lw4, lw5, lw6, lw7, lw8, lw9, lw10, lw11, lw12, lw13, lw14, lw15, lw16, lw17])
/-! ### give -/
theorem WR.pop {kd : D} {fs : List Fd} {h : IH} {w s0 Ls S : Nat} {q : Nat × Nat} {qs : List (Nat × Nat)} {r : Fr} {rs : List Fr} {c : Int} {k : Nat} {fin : D} (R : WR kd fs h w s0 Ls S (q :: qs) ⟨r :: rs, c, k, fin⟩) :
    WR kd fs (h.set S (.lst (qs.reverse.map fun q => D.loc q.1))) w s0 Ls S qs ⟨rs, c, k, fin⟩ := by
  have nl : ∀ i xs, h[i]? = some (.dic xs) → S ≠ i := fun i xs e z => by rw [← z, R.stk] at e; cases e
  have nw : S ≠ w := fun z => by have := R.ins; rw [← z, R.stk] at this; cases this
  have t : FrsAt h s0 qs rs := by
    cases R.frs with
    | cons f t => exact t
  have n1 := R.nd1
  have n2 := R.nd2
  rw [List.map_cons, List.nodup_cons] at n1 n2
  refine ⟨by rw [set_ne nw]; exact R.ins, R.lw, R.lS, set_at R.stk, t.of fun p hp => ?_, fun p hp => R.ndS p (List.mem_cons_of_mem _ hp), n1.2, n2.2, R.lis.of (Ext.set _ _ _ (.inr R.lS)) ⟨_, R.ins⟩⟩
  obtain ⟨_, f'⟩ := t.at p hp
  exact ⟨set_ne fun z => R.ndS p (List.mem_cons_of_mem _ hp) z.symm, set_ne (nl _ _ f'.dic)⟩
theorem WR.piece {kd : D} {fs : List Fd} {h : IH} {w s0 Ls S : Nat} {qs : List (Nat × Nat)} {st : WSt} (R : WR kd fs h w s0 Ls S qs st) {f n : Nat} {F : Fd} {p : Pc} (hF : fs[f]? = some F) (hp : (flat F.body)[n]? = some p) :
    ∃ (ls : List Nat) (l : Nat), h[Ls]? = some (.lst (ls.map D.loc)) ∧ (ls.map D.loc)[f]? = some (.loc l) ∧ h[l]? = some (.lst ((flat F.body).map eP)) ∧ ((flat F.body).map eP)[n]? = some (eP p) := by
  obtain ⟨_, ls, h1, h2, h3⟩ := R.lis
  have hf : f < ls.length := by rw [h2]; exact (List.getElem?_eq_some_iff.mp hF).1
  have e := List.getElem?_eq_getElem hf
  exact ⟨ls, ls[f], h1, by rw [List.getElem?_map, e]; rfl, (h3 f _ F e hF).2, by rw [List.getElem?_map, hp]; rfl⟩
/-- what give leaves -/
def gaveSt (rs : List Fr) (c : Int) (k : Nat) (x : Str) (v : Val) : WSt := match rs with
  | [] => ⟨[], c, k, fGave v⟩
  | r :: rs => ⟨⟨r.f, r.n + 1, putK r.kn x v⟩ :: rs, c, k, .non⟩
theorem give_spec (t : Nat → Fn) (h15 : StopSp (t 15)) (h16 : BindSp (t 16)) {kd : D} {fs : List Fd} {h : IH} {w s0 Ls S : Nat} {q : Nat × Nat} {qs : List (Nat × Nat)} {r : Fr} {rs : List Fr} {c : Int} {k : Nat}
    (R : WR kd fs h w s0 Ls S (q :: qs) ⟨r :: rs, c, k, .non⟩) (x : Str) (v : Val) (hr : ∀ r' ∈ rs.head?, ∃ F g ys p, fs[r'.f]? = some F ∧ (flat F.body)[r'.n]? = some (.call x g ys p) ∧ r'.kn.length ≤ 100000) :
    Ok (meant t 21 [.loc w, eV v] h) fun z => At kd fs w s0 Ls (gaveSt rs c k x v) h z.2 := by
  have e1 := insAt_of R.ins
  simp only at e1
  refine ok_fun rfl ?_
  unfold b_21
  refine ok_seq ?_
  simp only [sExpr, Ok_bind]
  refine ok_bm ?_
  walk_at "ev"
  simp only [e1]
  walk_at "ev"
  simp only [wl3]
  walk_at "ev"
  refine ⟨isTy_lst R.stk, Ok.of (gPop_lst R.top) ?_⟩
  have R1 := R.pop
  have K1 : Ext (Mv w s0) h (h.set S (.lst (qs.reverse.map fun q => D.loc q.1))) := Ext.set _ _ _ (.inr R.lS)
  simp only [Ok_some]
  generalize h.set S (O.lst (qs.reverse.map fun q => D.loc q.1)) = h1 at *
  have e2 := insAt_of R1.ins
  simp only at e2
  have hl := R1.frs.len
  simp only at hl
  refine SK_nx (ok_if (Ok.of (a := (decide (rs = []), h1)) ?_ ?_))
  · simp only [jVal, iOp, iB, iCons, iNil, iFld, iVar, iC, List.getElem?_cons_zero, Option.bind_some, e2, wl3, Option.map_some, gLen_lst R1.stk, gEq_int]
    congr 2
    rw [decide_eq_decide]
    simp only [List.length_map, List.length_reverse]
    rw [hl]
    constructor
    · intro z; exact List.eq_nil_of_length_eq_zero (by omega)
    · intro z; subst z; rfl
  · cases rs with
    | nil =>
      simp only [decide_true, if_true]
      walk_at "ev"
      simp only [e2]
      walk_at "ev"
      simp only [wn3, if_true]
      refine (h15 R1 (fGave v)).imp ?_
      rintro ⟨d, h3⟩ ⟨_, K3, S', R3⟩
      exact ⟨K1.trans K3, S', [], R3⟩
    | cons r' rs =>
      simp only [show decide (r' :: rs = []) = false from rfl, Bool.false_eq_true, if_false]
      obtain ⟨F, g, ys, p, hF, hp, hk⟩ := hr r' rfl
      obtain ⟨q', qs', rfl⟩ : ∃ q' qs', qs = q' :: qs' := by
        cases qs with
        | nil => cases hl
        | cons a b => exact ⟨a, b, rfl⟩
      obtain ⟨ls, l, a1, a2, a3, a4⟩ := R1.piece hF hp
      refine ok_seq ?_
      walk_at "ev"
      simp only [e2]
      walk_at "ev"
      simp only [wl3]
      walk_at "ev"
      simp only [gIx_last R1.top]
      walk_at "ev"
      simp only [seqD_lst R1.fr.lst]
      walk_at "ev"
      refine SK_nx ?_
      walk_at "ev"
      simp only [e2]
      walk_at "ev"
      simp only [wn2, if_true, wl2]
      walk_at "ev"
      simp only [gIx_lst a1, atI_int a2]
      walk_at "ev"
      simp only [gIx_lst a3, atI_int a4]
      walk_at "ev"
      simp only [eP]
      walk_at "ev"
      refine (h16 R1 x v hk).imp ?_
      rintro ⟨d, h3⟩ ⟨_, K3, R3⟩
      exact ⟨K1.trans K3, S, q' :: qs', R3⟩
end K88

namespace K88
open PySem PySem.Spec PyProof.Rows L2 IL
local macro_rules | `(tactic| walk_at "ev") => `(tactic| simp (config := { decide := false }) only [iVar, iC, iOp, iCons, iNil, iB, iCall, jVal, jAnd, jOr, jNot, iIf, iNeg, iNot, IL.iTup, IL.iTupP, IL.iLst, iSl, iNo, iPart, sAsg, sExpr, sRet, sRetN, sSkip, sAugN, sAugS, sPar, gNm, gTp, gsCons, gsNil, gSb, one, two, gInt, jYes, CT.put, wipeD, setAll, iListRev, parSet,
  List.getElem?_cons_zero, List.getElem?_cons_succ, List.set_cons_zero, List.set_cons_succ, List.map_cons, List.map_nil, List.cons_append, List.nil_append, List.replicate_succ, List.replicate_zero, List.getLast?_cons_cons, List.getLast?_singleton,
  Option.bind_some, Option.map_some, Ok_some, Ok_bind, Ok_map, if_true, if_false, Bool.false_eq_true, decide_true, decide_false, List.length_cons, List.length_nil, Nat.zero_le, sz1, sz2, sz3, sz4, sz5, sz6, sz7, sz8, sz9, sz10, sz11, sz12, Bool.not_true, Bool.not_false,
  iFld, iMeth, iDicK, gIx_tup, gIx_kt, gIx_sl, atI_0, atI_1, atI_2, atI_3, atI_4, atI_5, atI_m1, gEq_str, gEq_int, gNe_str, gNe_int, gAdd_int, seqD_tup, seqD_kt, gLen_tup, gLen_kt, Int.reduceNeg, len_push,
  le1, le2, le3, le4, le5, le6, le7, le8, le9, le10, le11, lw1, lw2, lw3, lw4, lw5, lw6, lw7, lw8, lw9, lw10, lw11, lw12, lw13, lw14, lw15, lw16, lw17])
/-! ### do_piece -/
def Look (kn : Kn) (ys : List Str) (vs : List Val) : Prop := ys.map (getK kn) = vs.map some
theorem Look.at {kn : Kn} {ys : List Str} {vs : List Val} (l : Look kn ys vs) {i : Nat} {y : Str} (e : ys[i]? = some y) : ∃ v, vs[i]? = some v ∧ getK kn y = some v := by
  have h := congrArg (fun l => l[i]?) l
  simp only [List.getElem?_map, e, Option.map_some] at h
  cases e2 : vs[i]? with
  | none => rw [e2] at h; cases h
  | some v => rw [e2] at h; exact ⟨v, rfl, Option.some.inj h⟩
theorem Look.len {kn : Kn} {ys : List Str} {vs : List Val} (l : Look kn ys vs) : ys.length = vs.length := by
  have h := congrArg List.length l
  simpa using h
section
variable {kd : D} {fs : List Fd} {h : IH} {w s0 Ls S : Nat} {q : Nat × Nat} {qs : List (Nat × Nat)} {r : Fr} {rs : List Fr} {c : Int} {k : Nat} {t : Nat → Fn}
/-- [known[y] for y in piece[3]] -/
theorem ok_args {env : IEnv} {Q : D × IH → Prop} {x z : Str} {ys : List Str} {vs : List Val} {p : Pc} {h1 : IH} {a b : D} (hz : env = [some (.loc w), some (.tup [.str a1, .str a2, .str a3, eS ys, b]), some (.loc q.2), some a, none]) (F : FrAt h1 s0 q r) (l : Look r.kn ys vs) (hl : ys.length ≤ 1000)
    (k : ∀ h', Keep h1 h' → h'[h1.length]? = some (.lst (vs.map eV)) → Q (.loc h1.length, h')) :
    Ok (iComp (pSeq (iOp gIx (iVar 1) (iC (.int 3)))) (CT.nm 4) [4] jYes (iOp gIx (iVar 2) (iVar 4)) env h1) Q := by
  subst hz
  refine ok_mapK (items := ys.map D.str) (dp := []) (h1 := h1) (fun i y => ∃ v, vs[i]? = some v ∧ y = eV v) ?_ depsOk_nil (by simp; omega) ?_ ?_
  · unfold pSeq eS
    walk_at "ev"
    rfl
  · intro i d h' hd K
    rw [List.getElem?_map] at hd
    obtain ⟨y, e1, rfl⟩ := Option.map_eq_some_iff.mp hd
    obtain ⟨v, e2, e3⟩ := l.at e1
    walk_at "ev"
    simp only [gIx_dic (K.get F.dic) e3, Ok_some]
    exact ⟨⟨v, e2, rfl⟩, Ext.refl _⟩
  · intro zs h' hl1 hP K hn
    have ez : zs = vs.map eV := by
      apply List.ext_getElem?
      intro i
      have := l.len
      by_cases hi : i < zs.length
      · obtain ⟨v, e1, e2⟩ := hP i zs[i] (List.getElem?_eq_getElem hi)
        rw [List.getElem?_eq_getElem hi, List.getElem?_map, e1, e2]; rfl
      · rw [List.getElem?_eq_none (by omega), List.getElem?_eq_none (by simp at hl1 ⊢; omega)]
    subst ez
    exact k h' K hn
theorem do_make (h19 : ∀ {kd : D} {fs : List Fd} {h : IH} {w s0 Ls S : Nat} {q : Nat × Nat} {qs : List (Nat × Nat)} {r : Fr} {rs : List Fr} {cn : Int} {k : Nat}, WR kd fs h w s0 Ls S (q :: qs) ⟨r :: rs, cn, k, .non⟩ → ∀ (x c : Str) (ys : List Str) (p : Pc) (vs : List Val), (∀ v ∈ vs, VOk v) → vs.length ≤ 1000 → r.kn.length ≤ 100000 →
      Ok (t 19 [.loc w, eP (.make x c ys p), .tup (vs.map eV)] h) fun z => At kd fs w s0 Ls (madeSt r rs cn k x c vs) h z.2)
    (R : WR kd fs h w s0 Ls S (q :: qs) ⟨r :: rs, c, k, .non⟩) (x m : Str) (ys : List Str) (p : Pc) (vs : List Val) (l : Look r.kn ys vs) (hv : ∀ v ∈ vs, VOk v) (hl : ys.length ≤ 1000) (hk : r.kn.length ≤ 100000) :
    Ok (meant t 18 [.loc w, eP (.make x m ys p), .loc q.2] h) fun z => At kd fs w s0 Ls (madeSt r rs c k x m vs) h z.2 := by
  have e1 := insAt_of R.ins
  simp only at e1
  refine ok_fun rfl ?_
  unfold b_18
  rw [show eP (.make x m ys p) = .tup [.str "make", .str x, .str m, eS ys, eP p] from by simp only [eP]]
  refine ok_seq ?_
  walk_at "ev"
  refine SK_nx (ok_if ?_)
  walk_at "ev"
  simp only [e1]
  walk_at "ev"
  simp only [wn4, if_true]
  walk_at "ev"
  refine ok_args (x := x) (z := x) (p := p) rfl R.fr l hl fun h' K hn => ?_
  simp only [gTupOf_lst hn]
  walk_at "ev"
  rw [show D.tup [.str "make", .str x, .str m, eS ys, eP p] = eP (.make x m ys p) from by simp only [eP]]
  refine (h19 (R.push K) x m ys p vs hv (by have := l.len; omega) hk).imp ?_
  rintro ⟨d, h3⟩ ⟨K3, z⟩
  exact ⟨(Ext.keep K).trans K3, z⟩
abbrev BeginSp (F : Fn) : Prop := ∀ {kd : D} {fs : List Fd} {h : IH} {w s0 Ls S : Nat} {qs : List (Nat × Nat)} {rs : List Fr} {c : Int} {k : Nat} {fin : D}, WR kd fs h w s0 Ls S qs ⟨rs, c, k, fin⟩ → ∀ (f : Nat) (G : Fd) (vs : List Val) (m : Nat), fs[f]? = some G → h[m]? = some (.lst (vs.map eV)) → G.params.length ≤ 1000 → qs.length ≤ 100000 →
    Ok (F [.loc w, .int f, .loc m] h) fun z => z.1 = .non ∧ Ext (Mv w s0) h z.2 ∧ ∃ q, WR kd fs z.2 w s0 Ls S (q :: qs) ⟨⟨f, 0, bindAll [] ((G.params.map (·.1)).zip vs)⟩ :: rs, c, k, fin⟩
abbrev NumberSp (F : Fn) : Prop := ∀ (kd : D) (fs : List Fd) (y : Str) (i : Nat) (h : IH), (fs.map (·.name)).findIdx? (fun x => x == y) = some i → fs.length ≤ 1000 → Ok (F [ePr kd fs, .str y] h) fun r => r.1 = .int i ∧ Keep h r.2
abbrev ChooseSp (F : Fn) : Prop := ∀ {kd : D} {fs : List Fd} {h : IH} {w s0 Ls S : Nat} {q : Nat × Nat} {qs : List (Nat × Nat)} {r : Fr} {rs : List Fr} {c : Int} {k : Nat} {fin : D}, WR kd fs h w s0 Ls S (q :: qs) ⟨r :: rs, c, k, fin⟩ →
    ∀ (x m : Str) (as : Arms) (ps : List Val) (n : Nat), n < 400 → getK r.kn x = some (.mk m ps) → (∀ a ∈ as.l, PcOk n a.2.2 ∧ a.2.1.length ≤ 1000) → r.kn.length ≤ 50000 →
    Ok (F [.loc w, eP (.case x as), .loc q.2] h) fun z => z.1 = .non ∧ Ext (Mv w s0) h z.2 ∧ WR kd fs z.2 w s0 Ls S (q :: qs) ⟨chosen r m ps as :: rs, c, k, fin⟩
abbrev GiveSp (F : Fn) : Prop := ∀ {kd : D} {fs : List Fd} {h : IH} {w s0 Ls S : Nat} {q : Nat × Nat} {qs : List (Nat × Nat)} {r : Fr} {rs : List Fr} {c : Int} {k : Nat}, WR kd fs h w s0 Ls S (q :: qs) ⟨r :: rs, c, k, .non⟩ →
    ∀ (x : Str) (v : Val), (∀ r' ∈ rs.head?, ∃ G g ys p, fs[r'.f]? = some G ∧ (flat G.body)[r'.n]? = some (.call x g ys p) ∧ r'.kn.length ≤ 100000) →
    Ok (F [.loc w, eV v] h) fun z => At kd fs w s0 Ls (gaveSt rs c k x v) h z.2
theorem do_call (h6 : NumberSp (t 6)) (h11 : BeginSp (t 11)) (R : WR kd fs h w s0 Ls S (q :: qs) ⟨r :: rs, c, k, .non⟩) (x g : Str) (ys : List Str) (p : Pc) (vs : List Val) (l : Look r.kn ys vs) (hl : ys.length ≤ 1000) (i : Nat) (G : Fd)
    (hi : (fs.map (·.name)).findIdx? (fun x => x == g) = some i) (hG : fs[i]? = some G) (hp : G.params.length ≤ 1000) (hq : rs.length ≤ 50000) (hfs : fs.length ≤ 1000) :
    Ok (meant t 18 [.loc w, eP (.call x g ys p), .loc q.2] h) fun z => At kd fs w s0 Ls ⟨⟨i, 0, bindAll [] ((G.params.map (·.1)).zip vs)⟩ :: r :: rs, c, k, .non⟩ h z.2 := by
  have e1 := insAt_of R.ins
  simp only at e1
  refine ok_fun rfl ?_
  unfold b_18
  rw [show eP (.call x g ys p) = .tup [.str "call", .str x, .str g, eS ys, eP p] from by simp only [eP]]
  refine ok_seq ?_
  walk_at "ev"
  refine SK_nx (ok_if ?_)
  walk_at "ev"
  refine ok_if ?_
  walk_at "ev"
  simp only [e1]
  walk_at "ev"
  simp only [wn1, wl1, if_true]
  walk_at "ev"
  refine (h6 kd fs g i h hi hfs).imp ?_
  rintro ⟨d, h1⟩ ⟨rfl, K1⟩
  simp only at K1
  have R1 := R.push K1
  walk_at "ev"
  refine ok_args (x := x) (z := x) (p := p) rfl R1.fr l hl fun h' K hn => ?_
  walk_at "ev"
  have R2 := R1.push K
  have hlen := R.frs.len
  simp only [List.length_cons] at hlen
  refine (h11 R2 i G vs _ hG hn hp (by simp only [List.length_cons]; omega)).imp ?_
  rintro ⟨d, h3⟩ ⟨_, K3, q', z⟩
  exact ⟨(Ext.keep (K1.trans K)).trans K3, S, q' :: q :: qs, z⟩
theorem do_name (h16 : BindSp (t 16)) (R : WR kd fs h w s0 Ls S (q :: qs) ⟨r :: rs, c, k, .non⟩) (x y : Str) (p : Pc) (v : Val) (hv : getK r.kn y = some v) (hk : r.kn.length ≤ 100000) :
    Ok (meant t 18 [.loc w, eP (.name x y p), .loc q.2] h) fun z => At kd fs w s0 Ls ⟨⟨r.f, r.n + 1, putK r.kn x v⟩ :: rs, c, k, .non⟩ h z.2 := by
  have e1 := insAt_of R.ins
  simp only at e1
  refine ok_fun rfl ?_
  unfold b_18
  rw [show eP (.name x y p) = .tup [.str "name", .str x, .str y, eP p] from by simp only [eP]]
  refine ok_seq ?_
  walk_at "ev"
  refine SK_nx (ok_if ?_)
  walk_at "ev"
  refine ok_if ?_
  walk_at "ev"
  refine ok_if ?_
  walk_at "ev"
  simp only [e1]
  walk_at "ev"
  simp only [wn2, if_true]
  simp only [gIx_dic R.fr.dic hv]
  walk_at "ev"
  refine (h16 R x v hk).imp ?_
  rintro ⟨d, h3⟩ ⟨_, K3, z⟩
  exact ⟨K3, S, q :: qs, z⟩
theorem do_case (h20 : ChooseSp (t 20)) (R : WR kd fs h w s0 Ls S (q :: qs) ⟨r :: rs, c, k, .non⟩) (x m : Str) (as : Arms) (ps : List Val) (n : Nat) (hn : n < 400) (hv : getK r.kn x = some (.mk m ps)) (ha : ∀ a ∈ as.l, PcOk n a.2.2 ∧ a.2.1.length ≤ 1000) (hk : r.kn.length ≤ 50000) :
    Ok (meant t 18 [.loc w, eP (.case x as), .loc q.2] h) fun z => At kd fs w s0 Ls ⟨chosen r m ps as :: rs, c, k, .non⟩ h z.2 := by
  have e1 := insAt_of R.ins
  simp only at e1
  refine ok_fun rfl ?_
  unfold b_18
  have ep : eP (.case x as) = .tup [.str "case", .str x, .tup (eA as)] := by simp only [eP]
  rw [ep]
  refine ok_seq ?_
  walk_at "ev"
  refine SK_nx (ok_if ?_)
  walk_at "ev"
  refine ok_if ?_
  walk_at "ev"
  refine ok_if ?_
  walk_at "ev"
  refine ok_if ?_
  walk_at "ev"
  simp only [e1]
  walk_at "ev"
  simp only [wn5, if_true]
  rw [← ep]
  refine (h20 R x m as ps n hn hv ha hk).imp ?_
  rintro ⟨d, h3⟩ ⟨_, K3, z⟩
  exact ⟨K3, S, q :: qs, z⟩
theorem do_give (h21 : GiveSp (t 21)) (R : WR kd fs h w s0 Ls S (q :: qs) ⟨r :: rs, c, k, .non⟩) (x y : Str) (v : Val) (hv : getK r.kn y = some v) (hr : ∀ r' ∈ rs.head?, ∃ G g ys p, fs[r'.f]? = some G ∧ (flat G.body)[r'.n]? = some (.call x g ys p) ∧ r'.kn.length ≤ 100000) :
    Ok (meant t 18 [.loc w, eP (.give y), .loc q.2] h) fun z => At kd fs w s0 Ls (gaveSt rs c k x v) h z.2 := by
  have e1 := insAt_of R.ins
  simp only at e1
  refine ok_fun rfl ?_
  unfold b_18
  rw [show eP (.give y) = .tup [.str "give", .str y] from by simp only [eP]]
  refine ok_seq ?_
  walk_at "ev"
  refine SK_nx (ok_if ?_)
  walk_at "ev"
  refine ok_if ?_
  walk_at "ev"
  refine ok_if ?_
  walk_at "ev"
  refine ok_if ?_
  walk_at "ev"
  refine ok_if ?_
  walk_at "ev"
  simp only [e1]
  walk_at "ev"
  simp only [wn6, if_true]
  simp only [gIx_dic R.fr.dic hv]
  walk_at "ev"
  exact h21 R x v hr
theorem ok_step {h' : IH} (R : WR kd fs h' w s0 Ls S (q :: qs) ⟨r :: rs, c, k, .non⟩) {Q : D × IH → Prop} {x y : D} (hQ : ∀ h2, At kd fs w s0 Ls ⟨⟨r.f, r.n + 1, r.kn⟩ :: rs, c, k, .non⟩ h' h2 → Q (.non, h2)) :
    Ok (sAugS (fun i j => i + j) (iOp gIx (iFld 0 "stack" (iVar 0)) (iNeg (iC (.int 1)))) (iC (.int 1)) (iC (.int 1)) [some (.loc w), x, y, z, u] h') (RK Q) := by
  have e2 := insAt_of R.ins
  simp only at e2
  walk_at "ev"
  simp only [e2]
  walk_at "ev"
  simp only [wl3]
  walk_at "ev"
  simp only [gIx_last R.top]
  walk_at "ev"
  simp only [gGet_lst R.fr.lst]
  walk_at "ev"
  simp only [putAt_1 R.fr.lst]
  walk_at "ev"
  have R2 := R.setN (r.n + 1)
  exact hQ _ ⟨Ext.set _ _ _ (.inr R.fr.lo.1), S, q :: qs, R2⟩
theorem do_pay (R : WR kd fs h w s0 Ls S (q :: qs) ⟨r :: rs, c, k, .non⟩) (n : Int) (p : Pc) (hn : n ≤ c) :
    Ok (meant t 18 [.loc w, eP (.pay n p), .loc q.2] h) fun z => At kd fs w s0 Ls ⟨⟨r.f, r.n + 1, r.kn⟩ :: rs, c - n, k, .non⟩ h z.2 := by
  have e1 := insAt_of R.ins
  simp only at e1
  refine ok_fun rfl ?_
  unfold b_18
  rw [show eP (.pay n p) = .tup [.str "pay", .int n, eP p] from by simp only [eP]]
  refine ok_seq ?_
  walk_at "ev"
  refine SK_nx (ok_if ?_)
  walk_at "ev"
  refine ok_if ?_
  walk_at "ev"
  refine ok_if ?_
  walk_at "ev"
  refine ok_if ?_
  walk_at "ev"
  refine ok_if ?_
  walk_at "ev"
  refine ok_if ?_
  walk_at "ev"
  simp only [e1]
  walk_at "ev"
  simp only [wl4]
  walk_at "ev"
  simp only [show decide (c < n) = false from decide_eq_false (by omega), Bool.false_eq_true, if_false]
  refine ok_seq ?_
  simp only [sFl]
  walk_at "ev"
  simp only [e1]
  walk_at "ev"
  simp only [wl4]
  walk_at "ev"
  have en : h[h.length]? = none := by simp
  have e5 : (h ++ [O.lst [D.int n, D.int (0 - n)]])[h.length]? = some (.lst [D.int n, D.int (0 - n)]) := get_new
  have e6 := insAt_of (get_old (o' := .lst [D.int n, D.int (0 - n)]) R.ins)
  simp only at e6
  refine Ok.of (a := (.int 1, h ++ [O.lst [D.int n, D.int (0 - n)]])) rfl ?_
  simp only [gIx_lst e5]
  walk_at "ev"
  simp only [e6]
  walk_at "ev"
  simp only [wfl, if_true, wp4, Ok_some]
  have R1 : WR kd fs _ w s0 Ls S (q :: qs) ⟨r :: rs, c, k, .non⟩ := R.push (Ext.push h (.lst [D.int n, D.int (0 - n)]))
  have R2 := R1.setW (c - n) k .non
  have K2 : Ext (Mv w s0) h ((h ++ [O.lst [D.int n, D.int (0 - n)]]).set w (.ins 0 (wFlds (ePr kd fs) Ls S (c - n) k .non))) := (Ext.push _ _).trans (Ext.set _ _ _ (.inl rfl))
  simp only [show c + (0 - n) = c - n from by omega]
  refine SK_nx (ok_step R2 ?_)
  intro h2 hA
  exact ⟨K2.trans hA.1, hA.2⟩
theorem do_get (R : WR kd fs h w s0 Ls S (q :: qs) ⟨r :: rs, c, k, .non⟩) (n : Int) (p : Pc) :
    Ok (meant t 18 [.loc w, eP (.get n p), .loc q.2] h) fun z => At kd fs w s0 Ls ⟨⟨r.f, r.n + 1, r.kn⟩ :: rs, c + n, k, .non⟩ h z.2 := by
  have e1 := insAt_of R.ins
  simp only at e1
  refine ok_fun rfl ?_
  unfold b_18
  rw [show eP (.get n p) = .tup [.str "get", .int n, eP p] from by simp only [eP]]
  refine ok_seq ?_
  walk_at "ev"
  refine SK_nx (ok_if ?_)
  walk_at "ev"
  refine ok_if ?_
  walk_at "ev"
  refine ok_if ?_
  walk_at "ev"
  refine ok_if ?_
  walk_at "ev"
  refine ok_if ?_
  walk_at "ev"
  refine ok_if ?_
  walk_at "ev"
  refine ok_seq ?_
  simp only [sFl]
  walk_at "ev"
  simp only [e1]
  walk_at "ev"
  simp only [wl4]
  walk_at "ev"
  have en : h[h.length]? = none := by simp
  have e5 : (h ++ [O.lst [D.int n, D.int (0 - n)]])[h.length]? = some (.lst [D.int n, D.int (0 - n)]) := get_new
  have e6 := insAt_of (get_old (o' := .lst [D.int n, D.int (0 - n)]) R.ins)
  simp only at e6
  refine Ok.of (a := (.int 0, h ++ [O.lst [D.int n, D.int (0 - n)]])) rfl ?_
  simp only [gIx_lst e5]
  walk_at "ev"
  simp only [e6]
  walk_at "ev"
  simp only [wfl, if_true, wp4, Ok_some]
  have R1 : WR kd fs _ w s0 Ls S (q :: qs) ⟨r :: rs, c, k, .non⟩ := R.push (Ext.push h (.lst [D.int n, D.int (0 - n)]))
  have R2 := R1.setW (c + n) k .non
  have K2 : Ext (Mv w s0) h ((h ++ [O.lst [D.int n, D.int (0 - n)]]).set w (.ins 0 (wFlds (ePr kd fs) Ls S (c + n) k .non))) := (Ext.push _ _).trans (Ext.set _ _ _ (.inl rfl))
  refine SK_nx (ok_step R2 ?_)
  intro h2 hA
  exact ⟨K2.trans hA.1, hA.2⟩
end
end K88

namespace K88
open PySem PySem.Spec PyProof.Rows L2 IL
/-! ### the machine, piece by piece -/
abbrev Stk := List (Pc × Kn)
inductive Ev where
  | go (s : Stk) (d : Int)
  | gave (v : Val)
  | great (c : Str)
def looks (kn : Kn) : List Str → Option (List Val)
  | [] => some []
  | y :: ys => (getK kn y).bind fun v => (looks kn ys).map fun vs => v :: vs
abbrev tooBig (vs : List Val) : Prop := 200 < 1 + vsizes vs ∨ 60 < 1 + vdeeps vs
def findF (fs : List Fd) (g : Str) : Option Fd := fs.find? (fun f => f.name == g)
def back (v : Val) : Stk → Option Ev
  | [] => some (.gave v)
  | (.call y _ _ r, kn) :: rs => some (.go ((r, putK kn y v) :: rs) 0)
  | _ => none
def caseA (x : Str) (as : Arms) (kn : Kn) (rs : Stk) : Val → Ev
  | .mk m ps => match findArm m as.l 1 with
    | some (ns, _, b) => .go ((b, bindAll kn (ns.zip ps)) :: rs) 0
    | none => .go ((.case x as, kn) :: rs) 0
def stepA (fs : List Fd) : Stk → Option Ev
  | [] => none
  | (.make x c ys r, kn) :: rs => (looks kn ys).map fun vs => if tooBig vs then .great c else .go ((r, putK kn x (.mk c vs)) :: rs) 0
  | (.call x g ys r, kn) :: rs => (looks kn ys).bind fun vs => (findF fs g).map fun F => .go ((F.body, bindAll [] ((F.params.map (·.1)).zip vs)) :: (.call x g ys r, kn) :: rs) 0
  | (.name x y r, kn) :: rs => (getK kn y).map fun v => .go ((r, putK kn x v) :: rs) 0
  | (.case x as, kn) :: rs => (getK kn x).map fun v => caseA x as kn rs v
  | (.give x, kn) :: rs => (getK kn x).bind fun v => back v rs
  | (.pay n r, kn) :: rs => some (.go ((r, kn) :: rs) (-n))
  | (.get n r, kn) :: rs => some (.go ((r, kn) :: rs) n)
inductive Out where
  | gave (v : Val)
  | great (c : Str)
  | late
  | stuck
def runA (fs : List Fd) : Nat → Stk → Out × Int × Nat
  | 0, _ => (.late, 0, 0)
  | n + 1, s => match stepA fs s with
    | none => (.stuck, 0, 0)
    | some (.gave v) => (.gave v, 0, 1)
    | some (.great c) => (.great c, 0, 1)
    | some (.go s' d) => ((runA fs n s').1, d + (runA fs n s').2.1, 1 + (runA fs n s').2.2)
inductive Gives (fs : List Fd) : Stk → Val → Int → Nat → Prop
  | gave {s v} : stepA fs s = some (.gave v) → Gives fs s v 0 1
  | go {s s' d v e k} : stepA fs s = some (.go s' d) → Gives fs s' v e k → Gives fs s v (d + e) (1 + k)
section
variable {fs : List Fd}
theorem gives_of_run : ∀ {n : Nat} {s : Stk} {v : Val} {e : Int} {k : Nat}, runA fs n s = (.gave v, e, k) → Gives fs s v e k ∧ k ≤ n
  | 0, s, v, e, k, h => by simp [runA] at h
  | n + 1, s, v, e, k, h => by
    simp only [runA] at h
    split at h
    · simp at h
    · rename_i u hs
      simp only [Prod.mk.injEq, Out.gave.injEq] at h
      obtain ⟨rfl, rfl, rfl⟩ := h
      exact ⟨.gave hs, by omega⟩
    · simp at h
    · rename_i s' d hs
      simp only [Prod.mk.injEq] at h
      obtain ⟨h1, h2, h3⟩ := h
      obtain ⟨g, l⟩ := gives_of_run (n := n) (s := s') (v := v) (e := (runA fs n s').2.1) (k := (runA fs n s').2.2) (by rw [← h1])
      rw [← h2, ← h3]
      exact ⟨.go hs g, by omega⟩
theorem run_of_gives {s : Stk} {v : Val} {e : Int} {k : Nat} (g : Gives fs s v e k) : ∀ {n : Nat}, k ≤ n → runA fs n s = (.gave v, e, k) := by
  induction g with
  | gave hs =>
    intro n hn
    obtain ⟨m, rfl⟩ : ∃ m, n = m + 1 := ⟨n - 1, by omega⟩
    simp only [runA, hs]
  | go hs g ih =>
    intro n hn
    obtain ⟨m, rfl⟩ : ∃ m, n = m + 1 := ⟨n - 1, by omega⟩
    simp only [runA, hs, ih (n := m) (by omega)]
theorem Gives.inv {s s' : Stk} {d : Int} {v : Val} {e : Int} {k : Nat} (g : Gives fs s v e k) (h : stepA fs s = some (.go s' d)) : ∃ e' k', Gives fs s' v e' k' ∧ e = d + e' ∧ k = 1 + k' := by
  cases g with
  | gave hs => rw [h] at hs; simp at hs
  | go hs g =>
    rw [h] at hs
    simp only [Option.some.injEq, Ev.go.injEq] at hs
    obtain ⟨rfl, rfl⟩ := hs
    exact ⟨_, _, g, rfl, rfl⟩
theorem Gives.invGave {s : Stk} {u v : Val} {e : Int} {k : Nat} (g : Gives fs s v e k) (h : stepA fs s = some (.gave u)) : v = u ∧ e = 0 ∧ k = 1 := by
  cases g with
  | gave hs => rw [h] at hs; simp at hs; exact ⟨hs.symm, rfl, rfl⟩
  | go hs g => rw [h] at hs; simp at hs
theorem Gives.not_great {s : Stk} {c : Str} {v : Val} {e : Int} {k : Nat} (g : Gives fs s v e k) (h : stepA fs s = some (.great c)) : False := by
  cases g with
  | gave hs => rw [h] at hs; simp at hs
  | go hs g => rw [h] at hs; simp at hs
theorem back_app {v : Val} {s rs : Stk} {ev : Ev} (h : back v s = some ev) (hs : s ≠ []) : ∃ s', ev = .go s' 0 ∧ s' ≠ [] ∧ back v (s ++ rs) = some (.go (s' ++ rs) 0) := by
  cases s with
  | nil => exact absurd rfl hs
  | cons q s =>
    obtain ⟨p, kn⟩ := q
    cases p <;> simp only [back] at h
    all_goals first
      | (cases h; done)
      | (simp only [Option.some.injEq] at h
         subst h
         exact ⟨_, rfl, by simp, rfl⟩)
theorem step_go_app {s s' : Stk} {d : Int} (rs : Stk) (h : stepA fs s = some (.go s' d)) : stepA fs (s ++ rs) = some (.go (s' ++ rs) d) ∧ s' ≠ [] := by
  cases s with
  | nil => simp [stepA] at h
  | cons q s =>
    obtain ⟨p, kn⟩ := q
    cases p with
    | make x c ys r =>
      simp only [stepA, List.cons_append] at h ⊢
      cases hl : looks kn ys with
      | none => rw [hl] at h; simp at h
      | some vs =>
        rw [hl] at h
        simp only [Option.map_some, Option.some.injEq] at h ⊢
        split at h
        · simp at h
        · rename_i hb
          simp only [Ev.go.injEq] at h
          obtain ⟨rfl, rfl⟩ := h
          rw [if_neg hb]
          exact ⟨rfl, by simp⟩
    | call x g ys r =>
      simp only [stepA, List.cons_append] at h ⊢
      cases hl : looks kn ys with
      | none => rw [hl] at h; simp at h
      | some vs =>
        cases hf : findF fs g with
        | none => rw [hl, hf] at h; simp at h
        | some F =>
          rw [hl, hf] at h
          simp only [Option.map_some, Option.bind_some, Option.some.injEq, Ev.go.injEq] at h ⊢
          obtain ⟨rfl, rfl⟩ := h
          exact ⟨⟨rfl, rfl⟩, by simp⟩
    | name x y r =>
      simp only [stepA, List.cons_append] at h ⊢
      cases hl : getK kn y with
      | none => rw [hl] at h; simp at h
      | some v =>
        rw [hl] at h
        simp only [Option.map_some, Option.some.injEq, Ev.go.injEq] at h ⊢
        obtain ⟨rfl, rfl⟩ := h
        exact ⟨⟨rfl, rfl⟩, by simp⟩
    | case x as =>
      simp only [stepA, List.cons_append] at h ⊢
      cases hl : getK kn x with
      | none => rw [hl] at h; simp at h
      | some v =>
        rw [hl] at h
        obtain ⟨m, ps⟩ := v
        simp only [Option.map_some, Option.some.injEq, caseA] at h ⊢
        cases hf : findArm m as.l 1 with
        | none =>
          rw [hf] at h
          simp only [Ev.go.injEq] at h ⊢
          obtain ⟨rfl, rfl⟩ := h
          exact ⟨⟨rfl, rfl⟩, by simp⟩
        | some q =>
          obtain ⟨ns, k, b⟩ := q
          rw [hf] at h
          simp only [Ev.go.injEq] at h ⊢
          obtain ⟨rfl, rfl⟩ := h
          exact ⟨⟨rfl, rfl⟩, by simp⟩
    | give x =>
      simp only [stepA, List.cons_append] at h ⊢
      cases hl : getK kn x with
      | none => rw [hl] at h; simp at h
      | some v =>
        rw [hl] at h
        simp only [Option.bind_some] at h ⊢
        have hs : s ≠ [] := fun z => by subst z; simp [back] at h
        obtain ⟨s2, e1, e2, e3⟩ := back_app (rs := rs) h hs
        simp only [Ev.go.injEq] at e1
        obtain ⟨rfl, rfl⟩ := e1
        exact ⟨e3, e2⟩
    | pay n r =>
      simp only [stepA, List.cons_append, Option.some.injEq, Ev.go.injEq] at h ⊢
      obtain ⟨rfl, rfl⟩ := h
      exact ⟨⟨rfl, rfl⟩, by simp⟩
    | get n r =>
      simp only [stepA, List.cons_append, Option.some.injEq, Ev.go.injEq] at h ⊢
      obtain ⟨rfl, rfl⟩ := h
      exact ⟨⟨rfl, rfl⟩, by simp⟩
theorem step_gave {s : Stk} {v : Val} (h : stepA fs s = some (.gave v)) (rs : Stk) : stepA fs (s ++ rs) = back v rs := by
  cases s with
  | nil => simp [stepA] at h
  | cons q s =>
    obtain ⟨p, kn⟩ := q
    cases p with
    | give x =>
      simp only [stepA, List.cons_append] at h ⊢
      cases hl : getK kn x with
      | none => rw [hl] at h; simp at h
      | some u =>
        rw [hl] at h
        simp only [Option.bind_some] at h ⊢
        by_cases hs : s = []
        · subst hs
          simp only [back, Option.some.injEq, Ev.gave.injEq] at h
          subst h
          rfl
        · obtain ⟨s2, e1, _⟩ := back_app (rs := rs) h hs
          cases e1
    | make x c ys r =>
      simp only [stepA] at h
      cases hl : looks kn ys with
      | none => rw [hl] at h; simp at h
      | some vs =>
        rw [hl] at h
        simp only [Option.map_some, Option.some.injEq] at h
        split at h <;> cases h
    | call x g ys r =>
      simp only [stepA] at h
      cases hl : looks kn ys with
      | none => rw [hl] at h; simp at h
      | some vs =>
        cases hf : findF fs g with
        | none => rw [hl, hf] at h; simp at h
        | some F => rw [hl, hf] at h; simp at h
    | name x y r =>
      simp only [stepA] at h
      cases hl : getK kn y with
      | none => rw [hl] at h; simp at h
      | some v => rw [hl] at h; simp at h
    | case x as =>
      simp only [stepA] at h
      cases hl : getK kn x with
      | none => rw [hl] at h; simp at h
      | some v =>
        rw [hl] at h
        obtain ⟨m, ps⟩ := v
        simp only [Option.map_some, Option.some.injEq, caseA] at h
        split at h <;> cases h
    | pay n r => simp [stepA] at h
    | get n r => simp [stepA] at h
theorem step_great {s : Stk} {c : Str} (h : stepA fs s = some (.great c)) (rs : Stk) : stepA fs (s ++ rs) = some (.great c) := by
  cases s with
  | nil => simp [stepA] at h
  | cons q s =>
    obtain ⟨p, kn⟩ := q
    cases p with
    | give x =>
      simp only [stepA] at h
      cases hl : getK kn x with
      | none => rw [hl] at h; simp at h
      | some u =>
        rw [hl] at h
        simp only [Option.bind_some] at h
        by_cases hs : s = []
        · subst hs
          simp [back] at h
        · obtain ⟨s2, e1, _⟩ := back_app (rs := rs) h hs
          cases e1
    | make x c ys r =>
      simp only [stepA, List.cons_append] at h ⊢
      cases hl : looks kn ys with
      | none => rw [hl] at h; simp at h
      | some vs =>
        rw [hl] at h
        simp only [Option.map_some, Option.some.injEq] at h ⊢
        split at h
        · rename_i hb
          rw [if_pos hb]
          exact h
        · cases h
    | call x g ys r =>
      simp only [stepA] at h
      cases hl : looks kn ys with
      | none => rw [hl] at h; simp at h
      | some vs =>
        cases hf : findF fs g with
        | none => rw [hl, hf] at h; simp at h
        | some F => rw [hl, hf] at h; simp at h
    | name x y r =>
      simp only [stepA] at h
      cases hl : getK kn y with
      | none => rw [hl] at h; simp at h
      | some v => rw [hl] at h; simp at h
    | case x as =>
      simp only [stepA] at h
      cases hl : getK kn x with
      | none => rw [hl] at h; simp at h
      | some v =>
        rw [hl] at h
        obtain ⟨m, ps⟩ := v
        simp only [Option.map_some, Option.some.injEq, caseA] at h
        split at h <;> cases h
    | pay n r => simp [stepA] at h
    | get n r => simp [stepA] at h
theorem step_none {s : Stk} (h : stepA fs s = none) (hs : s ≠ []) (rs : Stk) : stepA fs (s ++ rs) = none := by
  cases s with
  | nil => exact absurd rfl hs
  | cons q s =>
    obtain ⟨p, kn⟩ := q
    cases p <;> simp only [stepA, List.cons_append, Option.map_eq_none_iff, Option.bind_eq_none_iff] at h ⊢ <;> try exact h
    · intro v hv
      have := h v hv
      cases s with
      | nil => simp [back] at this
      | cons q s =>
        obtain ⟨p, kn⟩ := q
        cases p <;> first | (simp [back] at this; done) | rfl
    all_goals cases h
/-- a call's frames, then what waits below -/
theorem Gives.app {s : Stk} {v : Val} {e : Int} {k : Nat} (g : Gives fs s v e k) {y f : Str} {ys : List Str} {r : Pc} {kn : Kn} {rs : Stk} {w : Val} {e' : Int} {k' : Nat} (g2 : Gives fs ((r, putK kn y v) :: rs) w e' k') :
    Gives fs (s ++ (.call y f ys r, kn) :: rs) w (e + e') (k + k') := by
  induction g with
  | gave hs => exact .go ((step_gave hs _).trans rfl) g2
  | go hs g ih =>
    have := ih g2
    rw [Int.add_assoc, Nat.add_assoc]
    exact .go (step_go_app _ hs).1 this
theorem Gives.split {s0 : Stk} {w : Val} {e : Int} {k : Nat} (g : Gives fs s0 w e k) : ∀ {s : Stk} {y f : Str} {ys : List Str} {r : Pc} {kn : Kn} {rs : Stk}, s0 = s ++ (.call y f ys r, kn) :: rs → s ≠ [] →
    ∃ v e1 k1 e2 k2, Gives fs s v e1 k1 ∧ Gives fs ((r, putK kn y v) :: rs) w e2 k2 ∧ e = e1 + e2 ∧ k = k1 + k2 := by
  induction g with
  | gave hs =>
    intro s y f ys r kn rs e0 hs0
    subst e0
    cases h : stepA fs s with
    | none => rw [step_none h hs0] at hs; cases hs
    | some ev =>
      cases ev with
      | go s' d => rw [(step_go_app _ h).1] at hs; cases hs
      | gave u => rw [step_gave h] at hs; cases hs
      | great c => rw [step_great h] at hs; cases hs
  | go hs g ih =>
    intro s y f ys r kn rs e0 hs0
    subst e0
    cases h : stepA fs s with
    | none => rw [step_none h hs0] at hs; cases hs
    | some ev =>
      cases ev with
      | go s' d =>
        rw [(step_go_app _ h).1] at hs
        simp only [Option.some.injEq, Ev.go.injEq] at hs
        obtain ⟨rfl, rfl⟩ := hs
        obtain ⟨v, e1, k1, e2, k2, g1, g2, rfl, rfl⟩ := ih rfl (step_go_app [] h).2
        exact ⟨v, _, _, e2, k2, .go h g1, g2, by omega, by omega⟩
      | gave u =>
        rw [step_gave h] at hs
        simp only [back, Option.some.injEq, Ev.go.injEq] at hs
        obtain ⟨rfl, rfl⟩ := hs
        exact ⟨u, 0, 1, _, _, .gave h, g, by omega, by omega⟩
      | great c => rw [step_great h] at hs; cases hs
end
end K88

namespace K88
open PySem PySem.Spec PyProof.Rows L2 IL
/-! ### a function over each thing of a list -/
theorem nms : ¬ (("things" : Str) = "thing") ∧ ¬ (("things" : Str) = "rest") ∧ ¬ (("things" : Str) = "told") ∧ ¬ (("things" : Str) = "others") ∧ ¬ (("things" : Str) = "list") ∧ ¬ (("thing" : Str) = "things") ∧ ¬ (("thing" : Str) = "rest") ∧ ¬ (("thing" : Str) = "told") ∧ ¬ (("thing" : Str) = "others") ∧ ¬ (("thing" : Str) = "list") ∧ ¬ (("rest" : Str) = "things") ∧ ¬ (("rest" : Str) = "thing") ∧ ¬ (("rest" : Str) = "told") ∧ ¬ (("rest" : Str) = "others") ∧ ¬ (("rest" : Str) = "list") ∧ ¬ (("told" : Str) = "things") ∧ ¬ (("told" : Str) = "thing") ∧ ¬ (("told" : Str) = "rest") ∧ ¬ (("told" : Str) = "others") ∧ ¬ (("told" : Str) = "list") ∧ ¬ (("others" : Str) = "things") ∧ ¬ (("others" : Str) = "thing") ∧ ¬ (("others" : Str) = "rest") ∧ ¬ (("others" : Str) = "told") ∧ ¬ (("others" : Str) = "list") ∧ ¬ (("list" : Str) = "things") ∧ ¬ (("list" : Str) = "thing") ∧ ¬ (("list" : Str) = "rest") ∧ ¬ (("list" : Str) = "told") ∧ ¬ (("list" : Str) = "others") := by decide
/-- F, called with v, gives w -/
def CallG (fs : List Fd) (F : Fd) (v w : Val) (e : Int) (k : Nat) : Prop := Gives fs [(F.body, bindAll [] ((F.params.map (·.1)).zip [v]))] w e k
inductive Each (P : Val → Val → Int → Nat → Prop) : List Val → List Val → Int → Nat → Prop
  | nil : Each P [] [] 0 0
  | cons {v w vs ws e k e' k'} : P v w e k → Each P vs ws e' k' → Each P (v :: vs) (w :: ws) (e + e') (k + k')
theorem Gives.cast {fs : List Fd} {s : Stk} {v : Val} {e e' : Int} {k k' : Nat} (g : Gives fs s v e k) (h1 : e = e') (h2 : k = k') : Gives fs s v e' k' := by subst h1 h2; exact g
theorem Each.cast {P : Val → Val → Int → Nat → Prop} {vs ws : List Val} {e e' : Int} {k k' : Nat} (g : Each P vs ws e k) (h1 : e = e') (h2 : k = k') : Each P vs ws e' k' := by subst h1 h2; exact g
theorem Each.len {P : Val → Val → Int → Nat → Prop} {vs ws : List Val} {e : Int} {k : Nat} (h : Each P vs ws e k) : ws.length = vs.length := by
  induction h with
  | nil => rfl
  | cons _ _ ih => simp [ih]
def listS : List Val → Nat
  | [] => 1
  | v :: vs => 1 + (vsize v + (listS vs + 0))
def listD : List Val → Nat
  | [] => 1
  | v :: vs => 1 + max (vdeep v) (max (listD vs) 0)
theorem listV_size (a b : Str) : ∀ vs : List Val, vsize (listV a b vs) = listS vs
  | [] => by simp [listV, vsize, vsizes, listS]
  | v :: vs => by simp only [listV, vsize, vsizes, listS, listV_size a b vs]
theorem listV_deep (a b : Str) : ∀ vs : List Val, vdeep (listV a b vs) = listD vs
  | [] => by simp [listV, vdeep, vdeeps, listD]
  | v :: vs => by simp only [listV, vdeep, vdeeps, listD, listV_deep a b vs]
def okL : List Val → Prop
  | [] => True
  | v :: vs => (¬ (200 < listS (v :: vs) ∨ 60 < listD (v :: vs))) ∧ okL vs
theorem big_cons (a b : Str) (v : Val) (vs : List Val) : tooBig [v, listV a b vs] ↔ (200 < listS (v :: vs) ∨ 60 < listD (v :: vs)) := by
  unfold tooBig
  simp only [vsizes, vdeeps, listV_size, listV_deep, listS, listD]
theorem small_nil : ¬ tooBig [] := by unfold tooBig; simp [vsizes, vdeeps]
/-- what the over functions need -/
structure OverIn (fs : List Fd) (F : Fd) (p k taken none more given empty longer name : Str) : Prop where
  par : F.params = [(p, k)]
  ne : none ≠ more
  inF : findF fs F.name = some F
  inO : findF fs name = some (overF F taken none more given empty longer name)
section
variable {fs : List Fd} {F : Fd} {p k taken none more given empty longer name : Str}
abbrev kn0 (v : Val) : Kn := [("things", v)]
abbrev pGive (x : Str) : Pc := .give x
abbrev pMk (longer : Str) : Pc := .make "list" longer ["told", "others"] (.give "list")
abbrev pRest (longer name : Str) : Pc := .call "others" name ["rest"] (pMk longer)
abbrev pEach (F : Fd) (longer name : Str) : Pc := .call "told" F.name ["thing"] (pRest longer name)
abbrev pCase (F : Fd) (none more empty longer name : Str) : Pc := .case "things" (.cons none [] (.make "list" empty [] (.give "list")) (.cons more ["thing", "rest"] (pEach F longer name) .nil))
abbrev kn1 (v u t : Val) : Kn := [("things", v), ("thing", u), ("rest", t)]
abbrev kn2 (v u t w : Val) : Kn := [("things", v), ("thing", u), ("rest", t), ("told", w)]
abbrev kn3 (v u t w x : Val) : Kn := [("things", v), ("thing", u), ("rest", t), ("told", w), ("others", x)]
theorem st_nil : stepA fs [(pCase F none more empty longer name, kn0 (listV none more []))] = some (.go [(.make "list" empty [] (.give "list"), kn0 (listV none more []))] 0) := by
  simp [nms, stepA, getK, listV, caseA, Arms.l, findArm, bindAll]
theorem st_nil2 {v : Val} : stepA fs [(.make "list" empty [] (.give "list"), kn0 v)] = some (.go [(.give "list", [("things", v), ("list", .mk empty [])])] 0) := by
  have := small_nil
  simp [nms, stepA, looks, this, putK]
theorem st_give {kn : Kn} {x : Str} {v : Val} (h : getK kn x = some v) : stepA fs [(.give x, kn)] = some (.gave v) := by
  simp [nms, stepA, h, back]
theorem st_cons (ne : none ≠ more) {v : Val} {vs : List Val} : stepA fs [(pCase F none more empty longer name, kn0 (listV none more (v :: vs)))] = some (.go [(pEach F longer name, kn1 (listV none more (v :: vs)) v (listV none more vs))] 0) := by
  simp [nms, stepA, getK, listV, caseA, Arms.l, findArm, bindAll, ne, putK]
theorem st_call {y g : Str} {ys : List Str} {r : Pc} {kn : Kn} {G : Fd} {vs : List Val} (h : findF fs g = some G) (hl : looks kn ys = some vs) : stepA fs [(.call y g ys r, kn)] = some (.go [(G.body, bindAll [] ((G.params.map (·.1)).zip vs)), (.call y g ys r, kn)] 0) := by
  simp [nms, stepA, h, hl]
theorem over_gives (h : OverIn fs F p k taken none more given empty longer name) : ∀ (vs : List Val) {U : Val} {e : Int} {n : Nat}, Gives fs [(pCase F none more empty longer name, kn0 (listV none more vs))] U e n →
    ∃ ws n', U = listV empty longer ws ∧ Each (CallG fs F) vs ws e n' ∧ okL ws ∧ n = 3 + 5 * vs.length + n'
  | [], U, e, n, g => by
    obtain ⟨e1, k1, g1, rfl, rfl⟩ := g.inv st_nil
    obtain ⟨e2, k2, g2, rfl, rfl⟩ := g1.inv st_nil2
    obtain ⟨rfl, rfl, rfl⟩ := g2.invGave (st_give rfl)
    exact ⟨[], 0, rfl, .nil, trivial, rfl⟩
  | v :: vs, U, e, n, g => by
    obtain ⟨e1, k1, g1, rfl, rfl⟩ := g.inv (st_cons h.ne)
    obtain ⟨e2, k2, g2, rfl, rfl⟩ := g1.inv (st_call h.inF (vs := [v]) (by simp [nms, looks, getK]))
    obtain ⟨w, e3, k3, e4, k4, g3, g4, rfl, rfl⟩ := g2.split (s := [_]) rfl (by simp)
    have g4' : Gives fs [(pRest longer name, kn2 (listV none more (v :: vs)) v (listV none more vs) w)] U e4 k4 := by simpa [nms, putK] using g4
    obtain ⟨e5, k5, g5, rfl, rfl⟩ := g4'.inv (st_call h.inO (vs := [listV none more vs]) (by simp [nms, looks, getK]))
    obtain ⟨x, e6, k6, e7, k7, g6, g7, rfl, rfl⟩ := g5.split (s := [_]) rfl (by simp)
    obtain ⟨ws, n', rfl, hE, hO, rfl⟩ := over_gives h vs g6
    have g7' : Gives fs [(pMk longer, kn3 (listV none more (v :: vs)) v (listV none more vs) w (listV empty longer ws))] U e7 k7 := by simpa [nms, putK] using g7
    have hl : looks (kn3 (listV none more (v :: vs)) v (listV none more vs) w (listV empty longer ws)) ["told", "others"] = some [w, listV empty longer ws] := by simp [nms, looks, getK]
    by_cases hb : tooBig [w, listV empty longer ws]
    · exact (g7'.not_great (c := longer) (by simp only [stepA, hl, Option.map_some, if_pos hb])).elim
    · obtain ⟨e8, k8, g8, rfl, rfl⟩ := g7'.inv (s' := [(.give "list", putK (kn3 (listV none more (v :: vs)) v (listV none more vs) w (listV empty longer ws)) "list" (.mk longer [w, listV empty longer ws]))]) (d := 0) (by simp only [stepA, hl, Option.map_some, if_neg hb])
      obtain ⟨rfl, rfl, rfl⟩ := g8.invGave (st_give (v := .mk longer [w, listV empty longer ws]) (by simp [nms, putK, getK]))
      refine ⟨w :: ws, k3 + n', rfl, ?_, ⟨fun z => hb ((big_cons _ _ _ _).mpr z), hO⟩, by simp only [List.length_cons]; omega⟩
      have := Each.cons g3 hE
      have ee : 0 + (0 + (e3 + (0 + (e6 + (0 + 0))))) = e3 + e6 := by omega
      rw [ee]
      exact this
theorem over_back (h : OverIn fs F p k taken none more given empty longer name) {vs ws : List Val} {e : Int} {n : Nat} (hE : Each (CallG fs F) vs ws e n) (hO : okL ws) :
    Gives fs [(pCase F none more empty longer name, kn0 (listV none more vs))] (listV empty longer ws) e (3 + 5 * vs.length + n) := by
  induction hE with
  | nil => exact .go st_nil (.go st_nil2 (.gave (st_give rfl)))
  | cons hp hE ih =>
    rename_i v w vs ws e k e' k'
    have g6 := ih hO.2
    have hb : ¬ tooBig [w, listV empty longer ws] := fun z => hO.1 ((big_cons _ _ _ _).mp z)
    have hl : looks (kn3 (listV none more (v :: vs)) v (listV none more vs) w (listV empty longer ws)) ["told", "others"] = some [w, listV empty longer ws] := by simp [nms, looks, getK]
    have g8 : Gives fs [(.give "list", putK (kn3 (listV none more (v :: vs)) v (listV none more vs) w (listV empty longer ws)) "list" (.mk longer [w, listV empty longer ws]))] (listV empty longer (w :: ws)) 0 1 := .gave (st_give (by simp [nms, putK, getK, listV]))
    have g7 : Gives fs [(pMk longer, kn3 (listV none more (v :: vs)) v (listV none more vs) w (listV empty longer ws))] (listV empty longer (w :: ws)) (0 + 0) (1 + 1) := .go (by simp only [stepA, hl, Option.map_some, if_neg hb]) g8
    have g5 := Gives.app g6 (y := "others") (f := name) (ys := ["rest"]) (r := pMk longer) (kn := kn2 (listV none more (v :: vs)) v (listV none more vs) w) (rs := []) (w := listV empty longer (w :: ws)) (by simpa [nms, putK] using g7)
    have g4 : Gives fs [(pRest longer name, kn2 (listV none more (v :: vs)) v (listV none more vs) w)] (listV empty longer (w :: ws)) _ _ := .go (st_call h.inO (vs := [listV none more vs]) (by simp [nms, looks, getK])) g5
    have g3 := Gives.app hp (y := "told") (f := F.name) (ys := ["thing"]) (r := pRest longer name) (kn := kn1 (listV none more (v :: vs)) v (listV none more vs)) (rs := []) (w := listV empty longer (w :: ws)) (by simpa [nms, putK] using g4)
    have g2 : Gives fs [(pEach F longer name, kn1 (listV none more (v :: vs)) v (listV none more vs))] (listV empty longer (w :: ws)) _ _ := .go (st_call h.inF (vs := [v]) (by simp [nms, looks, getK])) g3
    have g1 := Gives.go (st_cons (F := F) (empty := empty) (longer := longer) (name := name) h.ne) g2
    exact g1.cast (by omega) (by simp only [List.length_cons]; omega)
end
/-- the chain of two -/
theorem chain_back {fs : List Fd} {F G H : Fd} {p k q kq a b : Str} (hp : F.params = [(p, k)]) (hq : G.params = [(q, kq)]) (hF : findF fs F.name = some F) (hG : findF fs G.name = some G) (hHp : H.params = F.params) (hHb : H.body = .call a F.name [p] (.call b G.name [a] (.give b)))
    {v w x : Val} {e1 e2 : Int} {k1 k2 : Nat} (g1 : CallG fs F v w e1 k1) (g2 : CallG fs G w x e2 k2) : CallG fs H v x (e1 + e2) (3 + k1 + k2) := by
  unfold CallG at *
  rw [hHp, hHb]
  rw [hp] at g1 ⊢
  rw [hq] at g2
  have s1 : Gives fs [(.give b, putK (putK [(p, v)] a w) b x)] x 0 1 := .gave (st_give (by rw [putK_get, if_pos rfl]))
  have s2 := Gives.app g2 (y := b) (f := G.name) (ys := [a]) (r := .give b) (kn := putK [(p, v)] a w) (rs := []) (w := x) s1
  have s3 : Gives fs [(.call b G.name [a] (.give b), putK [(p, v)] a w)] x _ _ := .go (st_call hG (vs := [w]) (by simp [nms, looks, putK_get])) (by rw [hq]; exact s2)
  have s4 := Gives.app g1 (y := a) (f := F.name) (ys := [p]) (r := .call b G.name [a] (.give b)) (kn := [(p, v)]) (rs := []) (w := x) s3
  have s5 : Gives fs [(.call a F.name [p] (.call b G.name [a] (.give b)), [(p, v)])] x _ _ := .go (st_call hF (vs := [v]) (by simp [nms, looks, getK])) (by rw [hp]; exact s4)
  exact s5.cast (by omega) (by omega)
theorem each_chain {P Q R : Val → Val → Int → Nat → Prop} (h : ∀ (v w x : Val) (e1 : Int) (k1 : Nat) (e2 : Int) (k2 : Nat), P v w e1 k1 → Q w x e2 k2 → R v x (e1 + e2) (3 + k1 + k2)) {vs ws : List Val} {e : Int} {k : Nat} (hp : Each P vs ws e k) :
    ∀ {xs : List Val} {e' : Int} {k' : Nat}, Each Q ws xs e' k' → Each R vs xs (e + e') (3 * vs.length + k + k') := by
  induction hp with
  | nil => intro xs e' k' hq; cases hq; exact .nil
  | cons p hp ih =>
    intro xs e' k' hq
    cases hq with
    | cons q hq =>
      rename_i e1 k1 v w vs ws e2 k2 x xs e3 k3 e4 k4
      refine (Each.cons (h _ _ _ _ _ _ _ p q) (ih hq)).cast (by omega) (by simp only [List.length_cons]; omega)
/-- all five functions -/
structure Five (fs : List Fd) (F G H : Fd) (p k q kq a b t1 n1 m1 g1 e1 l1 o1 t2 n2 m2 g2 e2 l2 o2 t3 n3 m3 g3 e3 l3 o3 : Str) : Prop where
  oH : OverIn fs H p k t1 n1 m1 g1 e1 l1 o1
  oF : OverIn fs F p k t2 n2 m2 g2 e2 l2 o2
  oG : OverIn fs G q kq t3 n3 m3 g3 e3 l3 o3
  body : H.body = .call a F.name [p] (.call b G.name [a] (.give b))
/-- what the law asks, of the runs -/
theorem plain_law {fs : List Fd} {F G H : Fd} {p k q kq a b t1 n1 m1 g1 e1 l1 o1 t2 n2 m2 g2 e2 l2 o2 t3 n3 m3 g3 e3 l3 o3 : Str} (h : Five fs F G H p k q kq a b t1 n1 m1 g1 e1 l1 o1 t2 n2 m2 g2 e2 l2 o2 t3 n3 m3 g3 e3 l3 o3) {vs : List Val} {U : Val} {c : Int} {s : Nat}
    (r1 : runA fs 150 [((overF F t2 n2 m2 g2 e2 l2 o2).body, [("things", listV n2 m2 vs)])] = (.gave U, c, s)) : ∃ ws, U = listV e2 l2 ws ∧ ws.length = vs.length ∧
      ∀ {U' : Val} {c' : Int} {s' : Nat}, runA fs 150 [((overF G t3 n3 m3 g3 e3 l3 o3).body, [("things", listV n3 m3 ws)])] = (.gave U', c', s') →
        ∃ xs z, U' = listV e3 l3 xs ∧ xs.length = vs.length ∧ s + s' = z + 2 * vs.length + 3 ∧ runA fs 400 [((overF H t1 n1 m1 g1 e1 l1 o1).body, [("things", listV n1 m1 vs)])] = (.gave (listV e1 l1 xs), c + c', z) := by
  obtain ⟨d1, h1⟩ := gives_of_run r1
  obtain ⟨ws, k1, rfl, E1, _, rfl⟩ := over_gives h.oF vs d1
  refine ⟨ws, rfl, E1.len, fun {U'} {c'} {s'} r2 => ?_⟩
  obtain ⟨d2, h2⟩ := gives_of_run r2
  obtain ⟨xs, k2, rfl, E2, O2, rfl⟩ := over_gives h.oG ws d2
  have E3 := each_chain (P := CallG fs F) (Q := CallG fs G) (R := CallG fs H) (fun v w x e1 k1 e2 k2 a b => chain_back h.oF.par h.oG.par h.oF.inF h.oG.inF (h.oH.par.trans h.oF.par.symm) h.body a b) E1 E2
  have d3 := over_back h.oH E3 O2
  have hl := E1.len
  refine ⟨xs, _, rfl, E2.len.trans E1.len, ?_, run_of_gives d3 (by omega)⟩
  omega
end K88

namespace K88
open PySem PySem.Spec PyProof.Rows L2 IL
/-! ### what keeps the machine going -/
mutual
def Wf (ar : Str → Nat) (fa : Str → Option Nat) : List Str → Pc → Prop
  | sc, .make x c ys r => (∀ y ∈ ys, y ∈ sc) ∧ ys.length = ar c ∧ Wf ar fa (x :: sc) r
  | sc, .call x g ys r => (∀ y ∈ ys, y ∈ sc) ∧ fa g = some ys.length ∧ Wf ar fa (x :: sc) r
  | sc, .name x y r => y ∈ sc ∧ Wf ar fa (x :: sc) r
  | sc, .case x as => x ∈ sc ∧ Wfs ar fa sc as
  | sc, .give x => x ∈ sc
  | sc, .pay n r => n ≤ 1000 ∧ Wf ar fa sc r
  | sc, .get n r => 0 ≤ n ∧ Wf ar fa sc r
def Wfs (ar : Str → Nat) (fa : Str → Option Nat) : List Str → Arms → Prop
  | _, .nil => True
  | sc, .cons c ns b r => ns.length = ar c ∧ Wf ar fa (ns ++ sc) b ∧ Wfs ar fa sc r
end
mutual
theorem Wf.mono {ar : Str → Nat} {fa fa' : Str → Option Nat} (hf : ∀ g n, fa g = some n → fa' g = some n) : ∀ {p : Pc} {sc sc' : List Str}, Wf ar fa sc p → (∀ y ∈ sc, y ∈ sc') → Wf ar fa' sc' p
  | .make x c ys r, sc, sc', h, hs => by
    simp only [Wf] at h ⊢
    exact ⟨fun y hy => hs y (h.1 y hy), h.2.1, Wf.mono hf h.2.2 fun y hy => by
      rcases List.mem_cons.mp hy with rfl | hy
      · exact List.mem_cons_self ..
      · exact List.mem_cons_of_mem _ (hs y hy)⟩
  | .call x g ys r, sc, sc', h, hs => by
    simp only [Wf] at h ⊢
    exact ⟨fun y hy => hs y (h.1 y hy), hf _ _ h.2.1, Wf.mono hf h.2.2 fun y hy => by
      rcases List.mem_cons.mp hy with rfl | hy
      · exact List.mem_cons_self ..
      · exact List.mem_cons_of_mem _ (hs y hy)⟩
  | .name x y r, sc, sc', h, hs => by
    simp only [Wf] at h ⊢
    exact ⟨hs _ h.1, Wf.mono hf h.2 fun y hy => by
      rcases List.mem_cons.mp hy with rfl | hy
      · exact List.mem_cons_self ..
      · exact List.mem_cons_of_mem _ (hs y hy)⟩
  | .case x as, sc, sc', h, hs => by
    simp only [Wf] at h ⊢
    exact ⟨hs _ h.1, Wfs.mono hf h.2 hs⟩
  | .give x, sc, sc', h, hs => by
    simp only [Wf] at h ⊢
    exact hs _ h
  | .pay n r, sc, sc', h, hs => by
    simp only [Wf] at h ⊢
    exact ⟨h.1, Wf.mono hf h.2 hs⟩
  | .get n r, sc, sc', h, hs => by
    simp only [Wf] at h ⊢
    exact ⟨h.1, Wf.mono hf h.2 hs⟩
theorem Wfs.mono {ar : Str → Nat} {fa fa' : Str → Option Nat} (hf : ∀ g n, fa g = some n → fa' g = some n) : ∀ {as : Arms} {sc sc' : List Str}, Wfs ar fa sc as → (∀ y ∈ sc, y ∈ sc') → Wfs ar fa' sc' as
  | .nil, sc, sc', h, hs => by simp only [Wfs]
  | .cons c ns b r, sc, sc', h, hs => by
    simp only [Wfs] at h ⊢
    exact ⟨h.1, Wf.mono hf h.2.1 fun y hy => by
      rcases List.mem_append.mp hy with hy | hy
      · exact List.mem_append_left _ hy
      · exact List.mem_append_right _ (hs y hy), Wfs.mono hf h.2.2 hs⟩
end
/-! ### values that keep the makers' numbers of parts -/
mutual
def AV (ar : Str → Nat) : Val → Prop
  | .mk m ps => PyData.strOk m = true ∧ ps.length = ar m ∧ AVs ar ps
def AVs (ar : Str → Nat) : List Val → Prop
  | [] => True
  | v :: vs => AV ar v ∧ AVs ar vs
end
theorem AVs_iff {ar : Str → Nat} : ∀ {vs : List Val}, AVs ar vs ↔ ∀ v ∈ vs, AV ar v
  | [] => by simp [AVs]
  | v :: vs => by simp [AVs, AVs_iff (vs := vs)]
def VG (ar : Str → Nat) (v : Val) : Prop := VOk v ∧ AV ar v
theorem VG.part {ar : Str → Nat} {m : Str} {ps : List Val} {v : Val} (h : VG ar (.mk m ps)) (hv : v ∈ ps) : VG ar v := by
  obtain ⟨⟨h1, h2⟩, h3⟩ := h
  simp only [vdeep, vsize, AV] at h1 h2 h3
  have := vdeep_le hv
  have := vsize_le hv
  exact ⟨⟨by omega, by omega⟩, AVs_iff.mp h3.2.2 v hv⟩
theorem vdeeps_le_of {n : Nat} : ∀ {vs : List Val}, (∀ v ∈ vs, vdeep v ≤ n) → vdeeps vs ≤ n
  | [], _ => by simp [vdeeps]
  | v :: vs, h => by
    simp only [vdeeps]
    have := h v (List.mem_cons_self ..)
    have := vdeeps_le_of (vs := vs) fun v hv => h v (List.mem_cons_of_mem _ hv)
    omega
theorem VG.mk {ar : Str → Nat} {m : Str} {ps : List Val} (hs : PyData.strOk m = true) (hb : ¬ tooBig ps) (hl : ps.length = ar m) (hp : ∀ v ∈ ps, VG ar v) : VG ar (.mk m ps) := by
  unfold tooBig at hb
  refine ⟨⟨?_, ?_⟩, ?_⟩
  · simp only [vdeep]; omega
  · simp only [vsize]; omega
  · simp only [AV]
    exact ⟨hs, hl, AVs_iff.mpr fun v hv => (hp v hv).2⟩
/-! ### a frame and what it stands for -/
structure KnG (ar : Str → Nat) (sc : List Str) (kn : Kn) (B : Nat) : Prop where
  has : ∀ y ∈ sc, ∃ v, getK kn y = some v
  vals : ∀ y v, getK kn y = some v → VG ar v
  len : kn.length ≤ B
theorem KnG.put {ar : Str → Nat} {sc : List Str} {kn : Kn} {B : Nat} {x : Str} {v : Val} (h : KnG ar sc kn B) (hv : VG ar v) : KnG ar (x :: sc) (putK kn x v) (B + 1) := by
  refine ⟨fun y hy => ?_, fun y u hu => ?_, by have := putK_len kn x v; have := h.len; omega⟩
  · rw [putK_get]
    split
    · exact ⟨v, rfl⟩
    · rename_i hne
      rcases List.mem_cons.mp hy with rfl | hy
      · exact absurd rfl hne
      · exact h.has y hy
  · rw [putK_get] at hu
    split at hu
    · cases hu; exact hv
    · exact h.vals y u hu
theorem KnG.mono {ar : Str → Nat} {sc sc' : List Str} {kn : Kn} {B B' : Nat} (h : KnG ar sc kn B) (hs : ∀ y ∈ sc', y ∈ sc) (hB : B ≤ B') : KnG ar sc' kn B' := ⟨fun y hy => h.has y (hs y hy), h.vals, Nat.le_trans h.len hB⟩
theorem KnG.bind {ar : Str → Nat} : ∀ {ns : List Str} {vs : List Val} {sc : List Str} {kn : Kn} {B : Nat}, KnG ar sc kn B → ns.length = vs.length → (∀ v ∈ vs, VG ar v) → KnG ar (ns ++ sc) (bindAll kn (ns.zip vs)) (B + ns.length)
  | [], vs, sc, kn, B, h, _, _ => by simpa [bindAll] using h
  | n :: ns, [], sc, kn, B, h, hl, _ => by simp at hl
  | n :: ns, v :: vs, sc, kn, B, h, hl, hv => by
    have h1 := KnG.bind (ns := ns) (vs := vs) (h.put (x := n) (hv v (List.mem_cons_self ..))) (by simpa using hl) fun u hu => hv u (List.mem_cons_of_mem _ hu)
    refine h1.mono (fun y hy => ?_) (by simp only [List.length_cons]; omega)
    simp only [List.mem_append, List.mem_cons] at hy ⊢
    rcases hy with (rfl | hy) | hy
    · exact .inr (.inl rfl)
    · exact .inl hy
    · exact .inr (.inr hy)
structure FOk (ar : Str → Nat) (fa : Str → Option Nat) (fs : List Fd) (B : Nat) (r : Fr) (q : Pc × Kn) : Prop where
  kn : r.kn = q.2
  suf : ∃ F tail, fs[r.f]? = some F ∧ (flat F.body).drop r.n = flat q.1 ++ tail
  wf : ∃ sc, Wf ar fa sc q.1 ∧ KnG ar sc q.2 B
  ok : PcOk 300 q.1
theorem FOk.mono {ar : Str → Nat} {fa : Str → Option Nat} {fs : List Fd} {B B' : Nat} {r : Fr} {q : Pc × Kn} (h : FOk ar fa fs B r q) (hB : B ≤ B') : FOk ar fa fs B' r q := by
  obtain ⟨h1, h2, ⟨sc, h3, h4⟩, h5⟩ := h
  exact ⟨h1, h2, ⟨sc, h3, h4.mono (fun _ z => z) hB⟩, h5⟩
theorem FOk.piece {ar : Str → Nat} {fa : Str → Option Nat} {fs : List Fd} {B : Nat} {r : Fr} {q : Pc × Kn} (h : FOk ar fa fs B r q) : ∃ F, fs[r.f]? = some F ∧ (flat F.body)[r.n]? = some q.1 := by
  obtain ⟨F, tail, h1, h2⟩ := h.suf
  refine ⟨F, h1, ?_⟩
  have := congrArg (fun l => l[0]?) h2
  simp only [List.getElem?_drop, Nat.add_zero] at this
  rw [this, flat_eq]
  rfl
/-- the frames below wait for what is called -/
inductive FsOk (ar : Str → Nat) (fa : Str → Option Nat) (fs : List Fd) (B : Nat) : List Fr → Stk → Prop
  | nil : FsOk ar fa fs B [] []
  | cons {r rs x g ys p kn stk} : FOk ar fa fs B r (.call x g ys p, kn) → FsOk ar fa fs B rs stk → FsOk ar fa fs B (r :: rs) ((.call x g ys p, kn) :: stk)
theorem FsOk.mono {ar : Str → Nat} {fa : Str → Option Nat} {fs : List Fd} {B B' : Nat} {rs : List Fr} {stk : Stk} (h : FsOk ar fa fs B rs stk) (hB : B ≤ B') : FsOk ar fa fs B' rs stk := by
  induction h with
  | nil => exact .nil
  | cons f t ih => exact .cons (f.mono hB) ih
/-- the next piece, one further -/
theorem FOk.next {ar : Str → Nat} {fa : Str → Option Nat} {fs : List Fd} {B B' : Nat} {r : Fr} {p p' : Pc} {kn kn' : Kn} {sc : List Str} (h : FOk ar fa fs B r (p, kn)) (hf : flat p = p :: flat p') (hs : p.subs = [p']) (hw : Wf ar fa sc p') (hk : KnG ar sc kn' B') :
    FOk ar fa fs B' ⟨r.f, r.n + 1, kn'⟩ (p', kn') := by
  obtain ⟨F, tail, h1, h2⟩ := h.suf
  refine ⟨rfl, ⟨F, tail, h1, ?_⟩, ⟨sc, hw, hk⟩, h.ok.sub (by rw [hs]; simp)⟩
  rw [← List.drop_drop, h2]
  simp only [hf]
  rfl
theorem flats_l : ∀ (as : Arms), flats as = as.l.flatMap fun a => flat a.2.2
  | .nil => rfl
  | .cons c ns b r => by simp only [flats, Arms.l, List.flatMap_cons, flats_l r]
theorem findArm_at {m : Str} : ∀ {l : List (Str × List Str × Pc)} {k : Nat} {ns : List Str} {j : Nat} {b : Pc}, findArm m l k = some (ns, j, b) → ∃ c, (c, ns, b) ∈ l ∧ c = m ∧ ∃ tail, k ≤ j ∧ (l.flatMap fun a => flat a.2.2).drop (j - k) = flat b ++ tail
  | [], _, _, _, _, h => by simp [findArm] at h
  | a :: l, k, ns, j, b, h => by
    simp only [findArm] at h
    split at h
    · rename_i he
      simp only [Option.some.injEq, Prod.mk.injEq] at h
      obtain ⟨rfl, rfl, rfl⟩ := h
      exact ⟨a.1, by simp, he, l.flatMap fun a => flat a.2.2, Nat.le_refl _, by simp⟩
    · obtain ⟨c, h1, h2, tail, h3, h4⟩ := findArm_at h
      refine ⟨c, List.mem_cons_of_mem _ h1, h2, tail, by omega, ?_⟩
      rw [List.flatMap_cons, show j - k = (flat a.2.2).length + (j - (k + (flat a.2.2).length)) from by omega, ← List.drop_drop, List.drop_left, h4]
theorem Wfs_mem {ar : Str → Nat} {fa : Str → Option Nat} {sc : List Str} : ∀ {as : Arms}, Wfs ar fa sc as → ∀ a ∈ as.l, a.2.1.length = ar a.1 ∧ Wf ar fa (a.2.1 ++ sc) a.2.2
  | .nil, _, a, ha => by simp [Arms.l] at ha
  | .cons c ns b r, h, a, ha => by
    simp only [Wfs] at h
    simp only [Arms.l, List.mem_cons] at ha
    rcases ha with rfl | ha
    · exact ⟨h.1, h.2.1⟩
    · exact Wfs_mem h.2.2 a ha
theorem looks_Look {kn : Kn} : ∀ {ys : List Str} {vs : List Val}, looks kn ys = some vs → Look kn ys vs
  | [], vs, h => by cases (Option.some.inj h); rfl
  | y :: ys, vs, h => by
    simp only [looks] at h
    obtain ⟨v, h1, h⟩ := Option.bind_eq_some_iff.mp h
    obtain ⟨vs', h2, rfl⟩ := Option.map_eq_some_iff.mp h
    have := looks_Look h2
    unfold Look at this ⊢
    simp only [List.map_cons, h1, this]
theorem looks_ok {ar : Str → Nat} {sc : List Str} {kn : Kn} {B : Nat} (h : KnG ar sc kn B) : ∀ {ys : List Str}, (∀ y ∈ ys, y ∈ sc) → ∃ vs, looks kn ys = some vs ∧ vs.length = ys.length ∧ ∀ v ∈ vs, VG ar v
  | [], _ => ⟨[], rfl, rfl, by simp⟩
  | y :: ys, hy => by
    obtain ⟨v, h1⟩ := h.has y (hy y (List.mem_cons_self ..))
    obtain ⟨vs, h2, h3, h4⟩ := looks_ok h (ys := ys) fun z hz => hy z (List.mem_cons_of_mem _ hz)
    refine ⟨v :: vs, by simp only [looks, h1, h2, Option.bind_some, Option.map_some], by simp [h3], fun u hu => ?_⟩
    rcases List.mem_cons.mp hu with rfl | hu
    · exact h.vals y _ h1
    · exact h4 u hu
/-- a program whose functions are well made -/
structure PrOk (ar : Str → Nat) (fs : List Fd) : Prop where
  small : ∀ m, ar m ≤ 20
  len : fs.length ≤ 1000
  bodies : ∀ F ∈ fs, Wf ar (fun g => (findF fs g).map fun F => F.params.length) (F.params.map (·.1)) F.body ∧ PcOk 300 F.body ∧ F.params.length ≤ 20
theorem findF_at {fs : List Fd} {g : Str} {F : Fd} (h : findF fs g = some F) : ∃ i, (fs.map (·.name)).findIdx? (fun x => x == g) = some i ∧ fs[i]? = some F := by
  induction fs with
  | nil => simp [findF] at h
  | cons G fs ih =>
    simp only [findF, List.find?_cons] at h
    simp only [List.map_cons, List.findIdx?_cons]
    cases hc : (G.name == g)
    · rw [hc] at h
      obtain ⟨i, h1, h2⟩ := ih h
      exact ⟨i + 1, by simp [h1], by simpa using h2⟩
    · rw [hc] at h
      cases h
      exact ⟨0, by simp, rfl⟩
end K88

namespace K88
open PySem PySem.Spec PyProof.Rows L2 IL
/-! ### one turn's piece, and the machine's step -/
abbrev MakeSp (F : Fn) : Prop := ∀ {kd : D} {fs : List Fd} {h : IH} {w s0 Ls S : Nat} {q : Nat × Nat} {qs : List (Nat × Nat)} {r : Fr} {rs : List Fr} {cn : Int} {k : Nat}, WR kd fs h w s0 Ls S (q :: qs) ⟨r :: rs, cn, k, .non⟩ → ∀ (x c : Str) (ys : List Str) (p : Pc) (vs : List Val), (∀ v ∈ vs, VOk v) → vs.length ≤ 1000 → r.kn.length ≤ 100000 →
      Ok (F [.loc w, eP (.make x c ys p), .tup (vs.map eV)] h) fun z => At kd fs w s0 Ls (madeSt r rs cn k x c vs) h z.2
structure Sps (t : Nat → Fn) : Prop where
  h6 : NumberSp (t 6)
  h11 : BeginSp (t 11)
  h16 : BindSp (t 16)
  h19 : MakeSp (t 19)
  h20 : ChooseSp (t 20)
  h21 : GiveSp (t 21)
abbrev faOf (fs : List Fd) : Str → Option Nat := fun g => (findF fs g).map fun F => F.params.length
def Live (ar : Str → Nat) (fs : List Fd) (B : Nat) (rs : List Fr) : Stk → Prop
  | [] => False
  | q :: stk => ∃ r rs', rs = r :: rs' ∧ FOk ar (faOf fs) fs B r q ∧ FsOk ar (faOf fs) fs B rs' stk ∧ rs'.length ≤ B
def After (ar : Str → Nat) (fs : List Fd) (B k : Nat) (c : Int) : Ev → WSt → Prop
  | .go stk d, st => st.fin = .non ∧ st.coins = c + d ∧ st.taken = k ∧ Live ar fs B st.stk stk ∧ -1000 ≤ d
  | .gave v, st => st.fin = fGave v ∧ st.coins = c ∧ st.taken = k ∧ VG ar v
  | .great m, st => st.fin = fGreat m ∧ st.coins = c ∧ st.taken = k
theorem PrOk.at {ar : Str → Nat} {fs : List Fd} (P : PrOk ar fs) {i : Nat} {F : Fd} (h : fs[i]? = some F) : Wf ar (faOf fs) (F.params.map (·.1)) F.body ∧ PcOk 300 F.body ∧ F.params.length ≤ 20 := P.bodies F (List.mem_of_getElem? h)
theorem do_spec {t : Nat → Fn} (T : Sps t) {ar : Str → Nat} {kd : D} {fs : List Fd} (P : PrOk ar fs) {h : IH} {w s0 Ls S : Nat} {q : Nat × Nat} {qs : List (Nat × Nat)} {r : Fr} {rs : List Fr} {c : Int} {k : Nat} (R : WR kd fs h w s0 Ls S (q :: qs) ⟨r :: rs, c, k, .non⟩)
    {p : Pc} {kn : Kn} {stk : Stk} {B : Nat} (f : FOk ar (faOf fs) fs B r (p, kn)) (g : FsOk ar (faOf fs) fs B rs stk) (hB : B ≤ 10000) (hrs : rs.length ≤ B) (hc : 1000 ≤ c) :
    Ok (meant t 18 [.loc w, eP p, .loc q.2] h) fun z => ∃ ev st', stepA fs ((p, kn) :: stk) = some ev ∧ At kd fs w s0 Ls st' h z.2 ∧ After ar fs (B + 20) k c ev st' := by
  obtain ⟨rf, rn, rk⟩ := r
  have hkn := f.kn
  simp only at hkn
  subst hkn
  obtain ⟨sc, hw, hk⟩ := f.wf
  simp only at hw hk
  have hlen := hk.len
  have gB := g.mono (B' := B + 20) (by omega)
  have sm := P.small
  cases p with
  | make x m ys p' =>
    simp only [Wf] at hw
    obtain ⟨w1, w2, w3⟩ := hw
    obtain ⟨vs, l1, l2, l3⟩ := looks_ok hk w1
    have := sm m
    refine (do_make T.h19 R x m ys p' vs (looks_Look l1) (fun v hv => (l3 v hv).1) (by omega) (by simp only; omega)).imp ?_
    intro z hA
    refine ⟨_, _, show stepA fs _ = some (if tooBig vs then .great m else .go ((p', putK rk x (.mk m vs)) :: stk) 0) from by simp only [stepA, l1, Option.map_some], hA, ?_⟩
    unfold madeSt
    by_cases hb : tooBig vs
    · rw [if_pos hb, if_pos hb]
      exact ⟨rfl, rfl, rfl⟩
    · rw [if_neg hb, if_neg hb]
      have hsm : PyData.strOk m = true := by
        have z := f.ok.fine
        simp only [eP] at z
        have := fine_of_tup z (d := .str m) (by simp)
        rwa [fine_str] at this
      refine ⟨rfl, by simp only; omega, rfl, ⟨_, _, rfl, (f.next rfl rfl w3 (hk.put (VG.mk hsm hb (by omega) l3))).mono (by omega), gB, by omega⟩, by omega⟩
  | call x gn ys p' =>
    simp only [Wf] at hw
    obtain ⟨w1, w2, w3⟩ := hw
    obtain ⟨vs, l1, l2, l3⟩ := looks_ok hk w1
    obtain ⟨G, hG, hGl⟩ := Option.map_eq_some_iff.mp w2
    obtain ⟨i, hi, hGi⟩ := findF_at hG
    obtain ⟨g1, g2, g3⟩ := P.at hGi
    refine (do_call T.h6 T.h11 R x gn ys p' vs (looks_Look l1) (by omega) i G hi hGi (by omega) (by omega) P.len).imp ?_
    intro z hA
    refine ⟨_, _, show stepA fs _ = some (Ev.go ((G.body, bindAll [] ((G.params.map (·.1)).zip vs)) :: (.call x gn ys p', rk) :: stk) 0) from by simp only [stepA, l1, hG, Option.map_some, Option.bind_some], hA, ?_⟩
    refine ⟨rfl, by simp only; omega, rfl, ⟨_, _, rfl, ⟨rfl, ⟨G, [], hGi, by simp⟩, ⟨_, g1, ?_⟩, g2⟩, .cons (f.mono (by omega)) gB, by simp only [List.length_cons]; omega⟩, by omega⟩
    have e0 : KnG ar [] [] 0 := ⟨by simp, by intro y v h; simp [getK] at h, by simp⟩
    have e1 := e0.bind (ns := G.params.map (·.1)) (vs := vs) (by simp; omega) l3
    exact e1.mono (by simp) (by simp; omega)
  | name x y p' =>
    simp only [Wf] at hw
    obtain ⟨w1, w3⟩ := hw
    obtain ⟨v, hv⟩ := hk.has y w1
    refine (do_name T.h16 R x y p' v hv (by simp only; omega)).imp ?_
    intro z hA
    refine ⟨_, _, show stepA fs _ = some (Ev.go ((p', putK rk x v) :: stk) 0) from by simp only [stepA, hv, Option.map_some], hA, ?_⟩
    exact ⟨rfl, by simp only; omega, rfl, ⟨_, _, rfl, (f.next rfl rfl w3 (hk.put (hk.vals _ _ hv))).mono (by omega), gB, by omega⟩, by omega⟩
  | case x as =>
    simp only [Wf] at hw
    obtain ⟨w1, w3⟩ := hw
    obtain ⟨⟨m, ps⟩, hv⟩ := hk.has x w1
    have hvg := hk.vals _ _ hv
    have hal := Wfs_mem w3
    have hok : ∀ a ∈ as.l, PcOk 300 a.2.2 ∧ a.2.1.length ≤ 1000 := fun a ha => ⟨f.ok.sub (by simp only [Pc.subs, bodies_l]; exact List.mem_map.mpr ⟨a, ha, rfl⟩), by have := (hal a ha).1; have := sm a.1; omega⟩
    refine (do_case T.h20 R x m as ps 300 (by omega) hv hok (by simp only; omega)).imp ?_
    intro z hA
    refine ⟨_, _, show stepA fs _ = some (caseA x as rk stk (.mk m ps)) from by simp only [stepA, hv, Option.map_some], hA, ?_⟩
    simp only [caseA]
    unfold chosen
    cases hf : findArm m as.l 1 with
    | none => exact ⟨rfl, by simp only; omega, rfl, ⟨_, _, rfl, f.mono (by omega), gB, by omega⟩, by omega⟩
    | some z =>
      obtain ⟨ns, j, b⟩ := z
      obtain ⟨c', a1, rfl, tail, a2, a3⟩ := findArm_at hf
      have hps : ps.length = ar c' := by have := hvg.2; simp only [AV] at this; exact this.2.1
      have hns := hal _ a1
      simp only at hns
      obtain ⟨F, tl, f1, f2⟩ := f.suf
      simp only at f1 f2
      refine ⟨rfl, by simp only; omega, rfl, ⟨_, _, rfl, ⟨rfl, ⟨F, tail ++ tl, f1, ?_⟩, ⟨_, hns.2, (hk.bind (by omega) fun v hv => hvg.part hv).mono (fun _ z => z) (by have := sm c'; omega)⟩, (hok _ a1).1⟩, gB, by omega⟩, by omega⟩
      rw [← List.drop_drop, f2]
      simp only [flat]
      rw [show j = (j - 1) + 1 from by omega, List.cons_append, List.drop_succ_cons, flats_l]
      have hlt : j - 1 ≤ (as.l.flatMap fun a => flat a.2.2).length := by
        have := congrArg List.length a3
        rw [List.length_drop, List.length_append] at this
        have := flat_pos b
        omega
      rw [List.drop_append_of_le_length hlt, a3, List.append_assoc]
  | give x =>
    simp only [Wf] at hw
    obtain ⟨v, hv⟩ := hk.has x hw
    cases g with
    | nil =>
      refine (do_give T.h21 R x x v hv (by simp)).imp ?_
      intro z hA
      refine ⟨_, _, show stepA fs _ = some (Ev.gave v) from by simp only [stepA, hv, Option.bind_some, back], hA, ?_⟩
      exact ⟨rfl, rfl, rfl, hk.vals _ _ hv⟩
    | cons f' g' =>
      rename_i r' rs' x' gn ys p' kn' stk'
      obtain ⟨G, e1, e2⟩ := f'.piece
      obtain ⟨rf', rn', rk'⟩ := r'
      have hkn' := f'.kn
      simp only at hkn'
      subst hkn'
      obtain ⟨sc', hw', hk'⟩ := f'.wf
      have hl' := hk'.len
      simp only at hl'
      simp only [Wf] at hw'
      simp only [List.length_cons] at hrs
      refine (do_give T.h21 R x' x v hv (by
        intro r'' hr
        simp only [List.head?_cons, Option.mem_def, Option.some.injEq] at hr
        subst hr
        exact ⟨G, gn, ys, p', e1, e2, by simp only; omega⟩)).imp ?_
      intro z hA
      refine ⟨_, _, show stepA fs _ = some (Ev.go ((p', putK rk' x' v) :: stk') 0) from by simp only [stepA, hv, Option.bind_some, back], hA, ?_⟩
      exact ⟨rfl, by simp only [gaveSt]; omega, rfl, ⟨_, _, rfl, (f'.next rfl rfl hw'.2.2 (hk'.put (hk.vals _ _ hv))).mono (by omega), g'.mono (by omega), by omega⟩, by omega⟩
  | pay n p' =>
    simp only [Wf] at hw
    refine (do_pay R n p' (by omega)).imp ?_
    intro z hA
    refine ⟨_, _, rfl, hA, ?_⟩
    exact ⟨rfl, by simp only; omega, rfl, ⟨_, _, rfl, (f.next rfl rfl hw.2 hk).mono (by omega), gB, by omega⟩, by omega⟩
  | get n p' =>
    simp only [Wf] at hw
    refine (do_get R n p').imp ?_
    intro z hA
    refine ⟨_, _, rfl, hA, ?_⟩
    exact ⟨rfl, by simp only, rfl, ⟨_, _, rfl, (f.next rfl rfl hw.2 hk).mono (by omega), gB, by omega⟩, by omega⟩
end K88

namespace K88
open PySem PySem.Spec PyProof.Rows L2 IL
local macro_rules | `(tactic| walk_at "ev") => `(tactic| simp (config := { decide := false }) only [iVar, iC, iOp, iCons, iNil, iB, iCall, jVal, jAnd, jOr, jNot, iIf, iNeg, iNot, IL.iTup, IL.iTupP, IL.iLst, iSl, iNo, iPart, sAsg, sExpr, sRet, sRetN, sSkip, sAugN, sAugS, sPar, gNm, gTp, gsCons, gsNil, gSb, one, two, gInt, jYes, CT.put, wipeD, setAll, iListRev, parSet,
  List.getElem?_cons_zero, List.getElem?_cons_succ, List.set_cons_zero, List.set_cons_succ, List.map_cons, List.map_nil, List.cons_append, List.nil_append, List.replicate_succ, List.replicate_zero, List.getLast?_cons_cons, List.getLast?_singleton,
  Option.bind_some, Option.map_some, Ok_some, Ok_bind, Ok_map, if_true, if_false, Bool.false_eq_true, decide_true, decide_false, List.length_cons, List.length_nil, Nat.zero_le, sz1, sz2, sz3, sz4, sz5, sz6, sz7, sz8, sz9, sz10, sz11, sz12, Bool.not_true, Bool.not_false,
  iFld, iMeth, iDicK, gIx_tup, gIx_kt, gIx_sl, atI_0, atI_1, atI_2, atI_3, atI_4, atI_5, atI_m1, gEq_str, gEq_int, gNe_str, gNe_int, gAdd_int, seqD_tup, seqD_kt, gLen_tup, gLen_kt, Int.reduceNeg, len_push,
  le1, le2, le3, le4, le5, le6, le7, le8, le9, le10, le11, lw1, lw2, lw3, lw4, lw5, lw6, lw7, lw8, lw9, lw10, lw11, lw12, lw13, lw14, lw15, lw16, lw17])
/-! ### a turn -/
abbrev DoSp (F : Fn) : Prop := ∀ {ar : Str → Nat} {kd : D} {fs : List Fd}, PrOk ar fs → ∀ {h : IH} {w s0 Ls S : Nat} {q : Nat × Nat} {qs : List (Nat × Nat)} {r : Fr} {rs : List Fr} {c : Int} {k : Nat}, WR kd fs h w s0 Ls S (q :: qs) ⟨r :: rs, c, k, .non⟩ →
    ∀ {p : Pc} {kn : Kn} {stk : Stk} {B : Nat}, FOk ar (faOf fs) fs B r (p, kn) → FsOk ar (faOf fs) fs B rs stk → B ≤ 10000 → rs.length ≤ B → 1000 ≤ c →
    Ok (F [.loc w, eP p, .loc q.2] h) fun z => ∃ ev st', stepA fs ((p, kn) :: stk) = some ev ∧ At kd fs w s0 Ls st' h z.2 ∧ After ar fs (B + 20) k c ev st'
theorem gIs_non (d : D) (h : IH) : gIs d .non h = some (.bl (match d with | .non => true | _ => false), h) := by cases d <;> rfl
theorem ok_fin {kd : D} {fs : List Fd} {h : IH} {w s0 Ls S : Nat} {qs : List (Nat × Nat)} {st : WSt} (R : WR kd fs h w s0 Ls S qs st) : insAt 0 (.loc w) h = some (w, wFlds (ePr kd fs) Ls S st.coins st.taken st.fin) := insAt_of R.ins
theorem turn_spec {t : Nat → Fn} (h18 : DoSp (t 18)) {ar : Str → Nat} {kd : D} {fs : List Fd} (P : PrOk ar fs) {h : IH} {w s0 Ls S : Nat} {qs : List (Nat × Nat)} {rs : List Fr} {c : Int} {k : Nat} (R : WR kd fs h w s0 Ls S qs ⟨rs, c, k, .non⟩)
    {stk : Stk} {B : Nat} (l : Live ar fs B rs stk) (hB : B ≤ 10000) (hc : 1000 ≤ c) :
    Ok (meant t 17 [.loc w] h) fun z => ∃ ev st', stepA fs stk = some ev ∧ At kd fs w s0 Ls st' h z.2 ∧ After ar fs (B + 20) (k + 1) c ev st' := by
  cases stk with
  | nil => exact l.elim
  | cons q0 stk =>
  obtain ⟨p, kn⟩ := q0
  obtain ⟨r, rs', rfl, f, g, hl⟩ := l
  have hlen := R.frs.len
  obtain ⟨q, qs', rfl⟩ : ∃ q' qs', qs = q' :: qs' := by
    cases qs with
    | nil => cases hlen
    | cons a b => exact ⟨a, b, rfl⟩
  have e1 := ok_fin R
  simp only at e1
  refine ok_fun rfl ?_
  unfold b_17
  refine ok_seq (ok_if ?_)
  walk_at "ev"
  simp only [e1]
  walk_at "ev"
  simp only [wl6, gIs_non]
  walk_at "ev"
  refine ok_seq ?_
  walk_at "ev"
  simp only [e1]
  walk_at "ev"
  simp only [wl3]
  walk_at "ev"
  simp only [gIx_last R.top]
  walk_at "ev"
  simp only [seqD_lst R.fr.lst]
  walk_at "ev"
  refine SK_nx (ok_seq ?_)
  simp only [sFl]
  walk_at "ev"
  simp only [e1]
  walk_at "ev"
  simp only [wl5]
  walk_at "ev"
  simp only [e1]
  walk_at "ev"
  have ek : ((k : Int) + 1) = ((k + 1 : Nat) : Int) := by omega
  simp only [ek, wfl, if_true, wp5, Ok_some]
  have R1 := R.setW c (k + 1) .non
  have K1 : Ext (Mv w s0) h (h.set w (.ins 0 (wFlds (ePr kd fs) Ls S c (k + 1) .non))) := Ext.set _ _ _ (.inl rfl)
  generalize h.set w (O.ins 0 (wFlds (ePr kd fs) Ls S c (k + 1) .non)) = h1 at *
  have e2 := ok_fin R1
  simp only at e2
  obtain ⟨F, hF, hp⟩ := f.piece
  obtain ⟨ls, l1, a1, a2, a3, a4⟩ := R1.piece hF hp
  refine SK_nx ?_
  walk_at "ev"
  simp only [e2]
  walk_at "ev"
  simp only [wn7, wl2, if_true]
  walk_at "ev"
  simp only [gIx_lst a1, atI_int a2]
  walk_at "ev"
  simp only [gIx_lst a3, atI_int a4]
  walk_at "ev"
  refine (h18 P R1 f g hB hl hc).imp ?_
  rintro ⟨d, h3⟩ ⟨ev, st', hs, ⟨K3, S', qs'', R3⟩, hA⟩
  simp only at K3 R3
  refine SK_nx ?_
  have e3 := ok_fin R3
  walk_at "ev"
  simp only [e3]
  walk_at "ev"
  simp only [wl6, gIs_non]
  walk_at "ev"
  exact ⟨ev, st', hs, ⟨K1.trans K3, S', qs'', R3⟩, hA⟩
end K88

namespace K88
open PySem PySem.Spec PyProof.Rows L2 IL
local macro_rules | `(tactic| walk_at "ev") => `(tactic| simp (config := { decide := false }) only [iVar, iC, iOp, iCons, iNil, iB, iCall, jVal, jAnd, jOr, jNot, iIf, iNeg, iNot, IL.iTup, IL.iTupP, IL.iLst, iSl, iNo, iPart, sAsg, sExpr, sRet, sRetN, sSkip, sAugN, sAugS, sPar, gNm, gTp, gsCons, gsNil, gSb, one, two, gInt, jYes, CT.put, wipeD, setAll, iListRev, parSet,
  List.getElem?_cons_zero, List.getElem?_cons_succ, List.set_cons_zero, List.set_cons_succ, List.map_cons, List.map_nil, List.cons_append, List.nil_append, List.replicate_succ, List.replicate_zero, List.getLast?_cons_cons, List.getLast?_singleton,
  Option.bind_some, Option.map_some, Ok_some, Ok_bind, Ok_map, if_true, if_false, Bool.false_eq_true, decide_true, decide_false, List.length_cons, List.length_nil, Nat.zero_le, sz1, sz2, sz3, sz4, sz5, sz6, sz7, sz8, sz9, sz10, sz11, sz12, Bool.not_true, Bool.not_false,
  iFld, iMeth, iDicK, gIx_tup, gIx_kt, gIx_sl, atI_0, atI_1, atI_2, atI_3, atI_4, atI_5, atI_m1, gEq_str, gEq_int, gNe_str, gNe_int, gAdd_int, seqD_tup, seqD_kt, gLen_tup, gLen_kt, Int.reduceNeg, len_push,
  le1, le2, le3, le4, le5, le6, le7, le8, le9, le10, le11, lw1, lw2, lw3, lw4, lw5, lw6, lw7, lw8, lw9, lw10, lw11, lw12, lw13, lw14, lw15, lw16, lw17])
/-! ### a new walk -/
theorem pf1 {P : D} : putFD "program" P [] = ([("program", P)] : List (Str × D)) := rfl
theorem pf2 {P x : D} : putFD "listed" x ([("program", P)] : List (Str × D)) = ([("program", P), ("listed", x)] : List (Str × D)) := rfl
theorem pf3 {P x y : D} : putFD "stack" y ([("program", P), ("listed", x)] : List (Str × D)) = ([("program", P), ("listed", x), ("stack", y)] : List (Str × D)) := rfl
theorem pf4 {P x y z : D} : putFD "coins" z ([("program", P), ("listed", x), ("stack", y)] : List (Str × D)) = ([("program", P), ("listed", x), ("stack", y), ("coins", z)] : List (Str × D)) := rfl
theorem pf5 {P x y z u : D} : putFD "taken" u ([("program", P), ("listed", x), ("stack", y), ("coins", z)] : List (Str × D)) = ([("program", P), ("listed", x), ("stack", y), ("coins", z), ("taken", u)] : List (Str × D)) := rfl
theorem pf6 {P x y z u v : D} : putFD "finish" v ([("program", P), ("listed", x), ("stack", y), ("coins", z), ("taken", u)] : List (Str × D)) = ([("program", P), ("listed", x), ("stack", y), ("coins", z), ("taken", u), ("finish", v)] : List (Str × D)) := rfl
theorem lt0 : ([] : List (Str × D)).length < 1000 := by decide
theorem lt1 {a : Str × D} : [a].length < 1000 := by simp
theorem lt2 {a b : Str × D} : [a, b].length < 1000 := by simp
theorem lt3 {a b c : Str × D} : [a, b, c].length < 1000 := by simp
theorem lt4 {a b c d : Str × D} : [a, b, c, d].length < 1000 := by simp
theorem lt5 {a b c d e : Str × D} : [a, b, c, d, e].length < 1000 := by simp
theorem init_spec {t : Nat → Fn} (h5 : PiecesSp (t 5)) (h11 : BeginSp (t 11)) {ar : Str → Nat} {kd : D} {fs : List Fd} (P : PrOk ar fs) {h : IH} {w m f : Nat} {c : Int} {G : Fd} {vs : List Val} (ew : h[w]? = some (O.ins 0 [])) (em : h[m]? = some (.lst (vs.map eV))) (hG : fs[f]? = some G) :
    Ok (meant t 10 [.loc w, ePr kd fs, .int f, .loc m, .int c] h) fun z => z.1 = .non ∧ Ext (fun i => i = w) h z.2 ∧ h.length ≤ z.2.length ∧ ∃ s0 Ls S q, h.length ≤ s0 ∧ WR kd fs z.2 w s0 Ls S [q] ⟨[⟨f, 0, bindAll [] ((G.params.map (·.1)).zip vs)⟩], c, 0, .non⟩ := by
  refine ok_fun rfl ?_
  unfold b_10
  refine ok_seq ?_
  simp only [sFl]
  walk_at "ev"
  simp only [insAt_of ew, Ok_some]
  simp only [lt0, if_true, pf1, Ok_some]
  have K1 : Ext (fun i => i = w) h (h.set w (O.ins 0 [("program", ePr kd fs)])) := Ext.set _ _ _ rfl
  have e1 : (h.set w (O.ins 0 [("program", ePr kd fs)]))[w]? = some (O.ins 0 [("program", ePr kd fs)]) := set_at ew
  have l1 : (h.set w (O.ins 0 [("program", ePr kd fs)])).length = h.length := by simp
  have wm : m ≠ w := fun z => by rw [z, ew] at em; cases em
  have em1 : (h.set w (O.ins 0 [("program", ePr kd fs)]))[m]? = some (.lst (vs.map eV)) := by rw [set_ne (Ne.symm wm)]; exact em
  generalize h.set w (O.ins 0 [("program", ePr kd fs)]) = h1 at *
  refine SK_nx (ok_seq ?_)
  simp only [sFl, Ok_bind]
  have hw1 := lt_of_get e1
  refine ok_comp (ok_pSeq ?_)
  simp only [ePr] at *
  walk_at "ev"
  refine ⟨true, fs.map eF, [], (fun s z => by cases z), rfl, depsOk_nil, ?_⟩
  refine ok_compI (fun i h' => Keep h1 h' ∧ ∃ ls : List Nat, h'[h1.length]? = some (.lst (ls.map D.loc)) ∧ ls.length = i ∧ ∀ (j l : Nat) (F : Fd), ls[j]? = some l → fs[j]? = some F → h1.length < l ∧ l < h'.length ∧ h'[l]? = some (.lst ((flat F.body).map eP))) (fun _ _ _ => depsOk_nil) (fun i d h' hd hI => ?_) (fun h' hI => ?_) ⟨Ext.push h1 _, [], by simp, rfl, by simp⟩
  · obtain ⟨K, ls, e2, e3, e4⟩ := hI
    rw [List.getElem?_map] at hd
    obtain ⟨F, hF, rfl⟩ := Option.map_eq_some_iff.mp hd
    have hlt := lt_of_get e2
    have hfl := (List.getElem?_eq_some_iff.mp hF).1
    have hpl := P.len
    rw [show eF F = D.tup [.str F.name, .tup (F.params.map eQ), .str F.res, eP F.body] from rfl]
    walk_at "ev"
    refine (h5 F.body h' 300 (by omega) (P.at hF).2.1).imp ?_
    rintro ⟨d, h2⟩ ⟨L, rfl, hL, K2, eL⟩
    simp only at K2 eL
    have e5 := K2.get e2
    refine ⟨_, e5, sz_lt (by simp; omega), (K.trans K2).setNew _ _ (Nat.le_refl _), ls ++ [L], by rw [set_at e5]; simp, by simp [e3], fun j l G' hj hG' => ?_⟩
    have hle := K2.le
    have hLl := lt_of_get eL
    rcases Nat.lt_or_ge j ls.length with hj' | hj'
    · rw [List.getElem?_append_left hj'] at hj
      obtain ⟨g1, g2, g3⟩ := e4 j l G' hj hG'
      exact ⟨g1, by simp only [List.length_set]; omega, by rw [set_ne (by omega)]; exact K2.get g3⟩
    · rw [List.getElem?_append_right hj'] at hj
      have hj2 : j = i := by
        have := (List.getElem?_eq_some_iff.mp hj).1
        simp at this
        omega
      subst hj2
      rw [e3, Nat.sub_self] at hj
      cases hj
      rw [hF] at hG'
      cases hG'
      exact ⟨by omega, by simp only [List.length_set]; omega, by rw [set_ne (by omega)]; exact eL⟩
  obtain ⟨K, ls, e2, e3, e4⟩ := hI
  rw [List.length_map] at e3
  have hl2 := lt_of_get e2
  have e5 := K.get e1
  have em2 := K.get em1
  simp only [insAt_of e5, Ok_some]
  simp only [lt1, if_true, pf2, Ok_some]
  have K2 : Ext (fun i => i = w) h1 (h'.set w (O.ins 0 [("program", D.tup [kd, .tup (fs.map eF)]), ("listed", .loc h1.length)])) := (Ext.keep K).trans (Ext.set _ _ _ rfl)
  have e6 : (h'.set w (O.ins 0 [("program", D.tup [kd, .tup (fs.map eF)]), ("listed", .loc h1.length)]))[w]? = some _ := set_at e5
  have ne : ∀ (j : Nat) (xs : List D), h'[j]? = some (O.lst xs) → (h'.set w (O.ins 0 [("program", D.tup [kd, .tup (fs.map eF)]), ("listed", .loc h1.length)]))[j]? = some (O.lst xs) := fun j xs e => by
    rw [set_ne (fun z => by rw [← z, e5] at e; cases e)]; exact e
  have em3 := ne _ _ em2
  have e7 := ne _ _ e2
  have e8 : ∀ (j l : Nat) (F : Fd), ls[j]? = some l → fs[j]? = some F → l < h'.length ∧ (h'.set w (O.ins 0 [("program", D.tup [kd, .tup (fs.map eF)]), ("listed", .loc h1.length)]))[l]? = some (.lst ((flat F.body).map eP)) := fun j l F a b => ⟨(e4 j l F a b).2.1, ne _ _ (e4 j l F a b).2.2⟩
  have l2 : (h'.set w (O.ins 0 [("program", D.tup [kd, .tup (fs.map eF)]), ("listed", .loc h1.length)])).length = h'.length := by simp
  have l3 := K.le
  generalize h'.set w (O.ins 0 [("program", D.tup [kd, .tup (fs.map eF)]), ("listed", .loc h1.length)]) = h2 at *
  clear e2 e4 e5 em2 ne K
  refine SK_nx (ok_seq ?_)
  simp only [sFl]
  walk_at "ev"
  have e9 := get_old (o' := .lst []) e6
  simp only [insAt_of e9, Ok_some]
  simp only [lt2, if_true, pf3, Ok_some]
  refine SK_nx (ok_seq ?_)
  simp only [sFl]
  walk_at "ev"
  have e10 := set_at (o' := .ins 0 [("program", D.tup [kd, .tup (fs.map eF)]), ("listed", .loc h1.length), ("stack", .loc h2.length)]) e9
  simp only [insAt_of e10, Ok_some]
  simp only [lt3, if_true, pf4, Ok_some, List.set_set]
  refine SK_nx (ok_seq ?_)
  simp only [sFl]
  walk_at "ev"
  have e11 := set_at (o' := .ins 0 [("program", D.tup [kd, .tup (fs.map eF)]), ("listed", .loc h1.length), ("stack", .loc h2.length), ("coins", .int c)]) e9
  simp only [insAt_of e11, Ok_some]
  simp only [lt4, if_true, pf5, Ok_some, List.set_set]
  refine SK_nx (ok_seq ?_)
  simp only [sFl]
  walk_at "ev"
  have e12 := set_at (o' := .ins 0 [("program", D.tup [kd, .tup (fs.map eF)]), ("listed", .loc h1.length), ("stack", .loc h2.length), ("coins", .int c), ("taken", .int 0)]) e9
  simp only [insAt_of e12, Ok_some]
  simp only [lt5, if_true, pf6, Ok_some, List.set_set]
  have ewl := lt_of_get e6
  have R : WR kd fs ((h2 ++ [O.lst []]).set w (O.ins 0 (wFlds (ePr kd fs) h1.length h2.length c 0 .non))) w h2.length h1.length h2.length [] ⟨[], c, 0, .non⟩ := by
    refine ⟨set_at e9, by omega, Nat.le_refl _, ?_, .nil, (fun q hq => by cases hq), by simp, by simp, ⟨by omega, ls, ?_, e3, fun j l F a b => ⟨by have := (e8 j l F a b).1; omega, ?_⟩⟩⟩
    · rw [set_ne (by omega), get_new]; rfl
    · rw [set_ne (fun z => by rw [← z, e6] at e7; cases e7)]; exact get_old e7
    · have := (e8 j l F a b).2
      rw [set_ne (fun z => by rw [← z, e6] at this; cases this)]; exact get_old this
  have K3 : Ext (fun i => i = w) h2 ((h2 ++ [O.lst []]).set w (O.ins 0 (wFlds (ePr kd fs) h1.length h2.length c 0 .non))) := (Ext.push _ _).trans (Ext.set _ _ _ rfl)
  have em4 : ((h2 ++ [O.lst []]).set w (O.ins 0 (wFlds (ePr kd fs) h1.length h2.length c 0 .non)))[m]? = some (.lst (vs.map eV)) := by rw [set_ne (Ne.symm wm)]; exact get_old em3
  refine SK_nx ?_
  show Ok (sExpr (iMeth 0 "begin" (t 11) (iVar 0) (iCons (iVar 2) (iCons (iB gListOf (iCons (iVar 3) iNil)) iNil))) _ ((h2 ++ [O.lst []]).set w (O.ins 0 (wFlds (ePr kd fs) h1.length h2.length c 0 .non)))) _
  have l4 : ((h2 ++ [O.lst []]).set w (O.ins 0 (wFlds (ePr kd fs) h1.length h2.length c 0 .non))).length = h2.length + 1 := by simp
  generalize (h2 ++ [O.lst []]).set w (O.ins 0 (wFlds (ePr kd fs) h1.length h2.length c 0 .non)) = h3 at *
  have e13 := ok_fin R
  simp only at e13
  walk_at "ev"
  simp only [e13]
  walk_at "ev"
  simp only [wn1, if_true]
  walk_at "ev"
  simp only [gListOf_lst em4]
  walk_at "ev"
  have R' : WR kd fs (h3 ++ [O.lst (vs.map eV)]) w h2.length h1.length h2.length [] ⟨[], c, 0, .non⟩ := R.push (Ext.push _ _)
  refine (h11 R' f G vs h3.length hG get_new (by have := (P.at hG).2.2; omega) (by simp)).imp ?_
  rintro ⟨d, h4⟩ ⟨hd, K4, q, R4⟩
  simp only at hd K4 R4
  subst hd
  have K5 : Ext (fun i => i = w) h (h3 ++ [O.lst (vs.map eV)]) := ((K1.trans K2).trans K3).trans (Ext.push _ _)
  have l5 := K5.le
  have l6 : _ ≤ h4.length := K4.le
  show (_ ∧ Ext _ h h4 ∧ h.length ≤ h4.length ∧ _)
  exact ⟨rfl, ⟨by omega, fun i o e hn => K4.at_ i o (K5.at_ i o e hn) fun hM => hM.elim hn fun z => by have := lt_of_get e; omega⟩, by omega, h2.length, h1.length, h2.length, q, by omega, R4⟩
end K88

namespace K88
open PySem PySem.Spec PyProof.Rows L2 IL
local macro_rules | `(tactic| walk_at "ev") => `(tactic| simp (config := { decide := false }) only [iVar, iC, iOp, iCons, iNil, iB, iCall, jVal, jAnd, jOr, jNot, iIf, iNeg, iNot, IL.iTup, IL.iTupP, IL.iLst, iSl, iNo, iPart, sAsg, sExpr, sRet, sRetN, sSkip, sAugN, sAugS, sPar, gNm, gTp, gsCons, gsNil, gSb, one, two, gInt, jYes, CT.put, wipeD, setAll, iListRev, parSet,
  List.getElem?_cons_zero, List.getElem?_cons_succ, List.set_cons_zero, List.set_cons_succ, List.map_cons, List.map_nil, List.cons_append, List.nil_append, List.replicate_succ, List.replicate_zero, List.getLast?_cons_cons, List.getLast?_singleton,
  Option.bind_some, Option.map_some, Ok_some, Ok_bind, Ok_map, if_true, if_false, Bool.false_eq_true, decide_true, decide_false, List.length_cons, List.length_nil, Nat.zero_le, sz1, sz2, sz3, sz4, sz5, sz6, sz7, sz8, sz9, sz10, sz11, sz12, Bool.not_true, Bool.not_false,
  iFld, iMeth, iDicK, gIx_tup, gIx_kt, gIx_sl, atI_0, atI_1, atI_2, atI_3, atI_4, atI_5, atI_m1, gEq_str, gEq_int, gNe_str, gNe_int, gAdd_int, seqD_tup, seqD_kt, gLen_tup, gLen_kt, Int.reduceNeg, len_push,
  le1, le2, le3, le4, le5, le6, le7, le8, le9, le10, le11, lw1, lw2, lw3, lw4, lw5, lw6, lw7, lw8, lw9, lw10, lw11, lw12, lw13, lw14, lw15, lw16, lw17])
/-! ### a run -/
theorem purse_spec (t : Nat → Fn) {kd : D} {fs : List Fd} {h : IH} {w s0 Ls S : Nat} {qs : List (Nat × Nat)} {st : WSt} (R : WR kd fs h w s0 Ls S qs st) : Ok (meant t 12 [.loc w] h) fun z => z = (.int st.coins, h) := by
  refine ok_fun rfl ?_
  unfold b_12
  have e1 := ok_fin R
  walk_at "ev"
  simp only [e1]
  walk_at "ev"
  simp only [wl4]
  walk_at "ev"
  rfl
theorem steps_spec (t : Nat → Fn) {kd : D} {fs : List Fd} {h : IH} {w s0 Ls S : Nat} {qs : List (Nat × Nat)} {st : WSt} (R : WR kd fs h w s0 Ls S qs st) : Ok (meant t 13 [.loc w] h) fun z => z = (.int st.taken, h) := by
  refine ok_fun rfl ?_
  unfold b_13
  have e1 := ok_fin R
  walk_at "ev"
  simp only [e1]
  walk_at "ev"
  simp only [wl5]
  walk_at "ev"
  rfl
theorem end_spec (t : Nat → Fn) {kd : D} {fs : List Fd} {h : IH} {w s0 Ls S : Nat} {qs : List (Nat × Nat)} {st : WSt} (R : WR kd fs h w s0 Ls S qs st) : Ok (meant t 14 [.loc w] h) fun z => z = (st.fin, h) := by
  refine ok_fun rfl ?_
  unfold b_14
  have e1 := ok_fin R
  walk_at "ev"
  simp only [e1]
  walk_at "ev"
  simp only [wl6]
  walk_at "ev"
  rfl
abbrev FldSp (F : Fn) (g : WSt → D) : Prop := ∀ {kd : D} {fs : List Fd} {h : IH} {w s0 Ls S : Nat} {qs : List (Nat × Nat)} {st : WSt}, WR kd fs h w s0 Ls S qs st → Ok (F [.loc w] h) fun z => z = (g st, h)
abbrev TurnSp (F : Fn) : Prop := ∀ {ar : Str → Nat} {kd : D} {fs : List Fd}, PrOk ar fs → ∀ {h : IH} {w s0 Ls S : Nat} {qs : List (Nat × Nat)} {rs : List Fr} {c : Int} {k : Nat}, WR kd fs h w s0 Ls S qs ⟨rs, c, k, .non⟩ →
    ∀ {stk : Stk} {B : Nat}, Live ar fs B rs stk → B ≤ 10000 → 1000 ≤ c →
    Ok (F [.loc w] h) fun z => ∃ ev st', stepA fs stk = some ev ∧ At kd fs w s0 Ls st' h z.2 ∧ After ar fs (B + 20) (k + 1) c ev st'
abbrev InitSp (F : Fn) : Prop := ∀ {ar : Str → Nat} {kd : D} {fs : List Fd}, PrOk ar fs → ∀ {h : IH} {w m f : Nat} {c : Int} {G : Fd} {vs : List Val}, h[w]? = some (.ins 0 []) → h[m]? = some (.lst (vs.map eV)) → fs[f]? = some G →
    Ok (F [.loc w, ePr kd fs, .int f, .loc m, .int c] h) fun z => z.1 = .non ∧ Ext (fun i => i = w) h z.2 ∧ h.length ≤ z.2.length ∧ ∃ s0 Ls S q, h.length ≤ s0 ∧ WR kd fs z.2 w s0 Ls S [q] ⟨[⟨f, 0, bindAll [] ((G.params.map (·.1)).zip vs)⟩], c, 0, .non⟩
theorem keep_mv {h h' h2 : IH} {w s0 : Nat} (K : Keep h h') (x : Ext (Mv w s0) h' h2) (hw : h.length ≤ w) (hs : h.length ≤ s0) : Keep h h2 := ⟨Nat.le_trans K.le x.le, fun i o e _ => x.at_ i o (K.get e) fun z => by
  have := lt_of_get e
  rcases z with rfl | z <;> omega⟩
def eO : Out → D
  | .gave v => fGave v
  | .great c => fGreat c
  | .late => .tup [.str "late"]
  | .stuck => .non
def OutG (ar : Str → Nat) : Out → Prop
  | .gave v => VG ar v
  | .stuck => False
  | _ => True
/-- where a run stands -/
def Mid (ar : Str → Nat) (fs : List Fd) (most : Nat) (stk0 : Stk) (c : Int) (st : WSt) : Prop := st.taken ≤ most ∧ c - 1000 * st.taken ≤ st.coins ∧
  ((st.fin = .non ∧ ∃ stk, Live ar fs (20 + 20 * st.taken) st.stk stk ∧ runA fs most stk0 = ((runA fs (most - st.taken) stk).1, (st.coins - c) + (runA fs (most - st.taken) stk).2.1, st.taken + (runA fs (most - st.taken) stk).2.2))
  ∨ (∃ xs out, st.fin = .tup xs ∧ st.fin = eO out ∧ OutG ar out ∧ runA fs most stk0 = (out, st.coins - c, st.taken)))
theorem Mid.step {ar : Str → Nat} {fs : List Fd} {most : Nat} {stk0 stk : Stk} {c : Int} {st st' : WSt} {ev : Ev} (hlt : st.taken < most) (hc : c - 1000 * st.taken ≤ st.coins)
    (hr : runA fs most stk0 = ((runA fs (most - st.taken) stk).1, (st.coins - c) + (runA fs (most - st.taken) stk).2.1, st.taken + (runA fs (most - st.taken) stk).2.2)) (hs : stepA fs stk = some ev) (hA : After ar fs (20 + 20 * st.taken + 20) (st.taken + 1) st.coins ev st') : Mid ar fs most stk0 c st' := by
  obtain ⟨n, hn⟩ : ∃ n, most - st.taken = n + 1 := ⟨most - st.taken - 1, by omega⟩
  rw [hn] at hr
  simp only [runA, hs] at hr
  cases ev with
  | go stk' d =>
    obtain ⟨a1, a2, a3, a4, a5⟩ := hA
    simp only at hr
    refine ⟨by omega, by rw [a2, a3]; omega, .inl ⟨a1, stk', by rw [a3, show 20 + 20 * (st.taken + 1) = 20 + 20 * st.taken + 20 from by omega]; exact a4, ?_⟩⟩
    rw [a3, a2, show most - (st.taken + 1) = n from by omega, hr]
    simp only [Prod.mk.injEq, true_and]
    constructor <;> omega
  | gave v =>
    obtain ⟨a1, a2, a3, a4⟩ := hA
    simp only at hr
    refine ⟨by omega, by rw [a2, a3]; omega, .inr ⟨_, .gave v, a1, a1, a4, ?_⟩⟩
    rw [a3, a2, hr]
    simp
  | great m =>
    obtain ⟨a1, a2, a3⟩ := hA
    simp only at hr
    refine ⟨by omega, by rw [a2, a3]; omega, .inr ⟨_, .great m, a1, a1, trivial, ?_⟩⟩
    rw [a3, a2, hr]
    simp
/-- what a run tells at its end -/
theorem ran_tail {t : Nat → Fn} (h12 : FldSp (t 12) fun st => .int st.coins) (h13 : FldSp (t 13) fun st => .int st.taken) (h14 : FldSp (t 14) fun st => st.fin) {ar : Str → Nat} {kd : D} {fs : List Fd} {h h' : IH} {a1 a2 a3 a4 a5 : Option D} {w s0 Ls S most : Nat} {qs : List (Nat × Nat)} {st : WSt} {stk0 : Stk} {c : Int}
    (K : Keep h h') (R : WR kd fs h' w s0 Ls S qs st) (M : Mid ar fs most stk0 c st) (he : st.fin = .non → st.taken = most) :
    Ok (sSeq (sAsg (iMeth 0 "end" (t 14) (iVar 5) iNil) (gNm 6)) (sSeq (sIf (jVal (iOp gIs (iVar 6) (iC .non))) (sAsg (IL.iTup (iCons (iC (.str "late")) iNil)) (gNm 6)) sSkip) (sRet (IL.iTup (iCons (iVar 6) (iCons (iMeth 0 "purse" (t 12) (iVar 5) iNil) (iCons (iMeth 0 "steps" (t 13) (iVar 5) iNil) iNil)))))) [a1, a2, a3, a4, a5, some (.loc w), none] h')
      (RK fun z => ∃ out d s, runA fs most stk0 = (out, d, s) ∧ z.1 = .tup [eO out, .int (c + d), .int (s : Nat)] ∧ Keep h z.2 ∧ s ≤ most ∧ -(1000 * s : Int) ≤ d ∧ OutG ar out) := by
  have ef := ok_fin R
  obtain ⟨m1, m2, m3⟩ := M
  refine ok_seq ?_
  walk_at "ev"
  simp only [ef]
  walk_at "ev"
  simp only [wn10, if_true]
  refine (h14 R).imp ?_
  rintro _ rfl
  walk_at "ev"
  refine SK_nx (ok_seq (ok_if ?_))
  walk_at "ev"
  simp only [gIs_non]
  walk_at "ev"
  rcases m3 with ⟨hf, stk, hL, hr⟩ | ⟨xs, out, hf, hf2, hO, hr⟩
  · simp only [hf, if_true]
    refine SK_nx ?_
    walk_at "ev"
    simp only [ef]
    walk_at "ev"
    simp only [wn11, if_true]
    refine (h12 R).imp ?_
    rintro _ rfl
    walk_at "ev"
    simp only [ef]
    walk_at "ev"
    simp only [wn9, if_true]
    refine (h13 R).imp ?_
    rintro _ rfl
    have ht := he hf
    rw [ht, Nat.sub_self] at hr
    simp only [runA] at hr
    refine ⟨.late, st.coins - c, st.taken, ?_, ?_, K, m1, by omega, trivial⟩
    · rw [hr, ht]; simp
    · simp only [eO, show c + (st.coins - c) = st.coins from by omega]
  · rw [hf]
    simp only [Bool.false_eq_true, if_false]
    refine SK_nx ?_
    walk_at "ev"
    simp only [ef]
    walk_at "ev"
    simp only [wn11, if_true]
    refine (h12 R).imp ?_
    rintro _ rfl
    walk_at "ev"
    simp only [ef]
    walk_at "ev"
    simp only [wn9, if_true]
    refine (h13 R).imp ?_
    rintro _ rfl
    refine ⟨out, st.coins - c, st.taken, hr, ?_, K, m1, by omega, hO⟩
    simp only [← hf2, ← hf, show c + (st.coins - c) = st.coins from by omega]
theorem ran_spec {t : Nat → Fn} (h10 : InitSp (t 10)) (h12 : FldSp (t 12) fun st => .int st.coins) (h13 : FldSp (t 13) fun st => .int st.taken) (h14 : FldSp (t 14) fun st => st.fin) (h17 : TurnSp (t 17)) {ar : Str → Nat} {kd : D} {fs : List Fd} (P : PrOk ar fs)
    {h : IH} {m f most : Nat} {c : Int} {G : Fd} {vs : List Val} (em : h[m]? = some (.lst (vs.map eV))) (hG : fs[f]? = some G) (hm : most ≤ 450) (hc : 1000 * most + 1000 ≤ c) (hv : ∀ v ∈ vs, VG ar v) (hl : G.params.length = vs.length) :
    Ok (meant t 22 [ePr kd fs, .int f, .loc m, .int c, .int most] h) fun z => ∃ out d s, runA fs most [(G.body, bindAll [] ((G.params.map (·.1)).zip vs))] = (out, d, s) ∧ z.1 = .tup [eO out, .int (c + d), .int (s : Nat)] ∧ Keep h z.2 ∧ s ≤ most ∧ -(1000 * s : Int) ≤ d ∧ OutG ar out := by
  refine ok_fun rfl ?_
  unfold b_22
  refine ok_seq ?_
  simp only [sAsg, iMake, Ok_bind]
  walk_at "ev"
  have ew : (h ++ [O.ins 0 []])[h.length]? = some (.ins 0 []) := get_new
  refine (h10 P ew (get_old em) hG).imp ?_
  rintro ⟨d, h1⟩ ⟨hd, K1, l1, s0, Ls, S, q, hs0, R⟩
  simp only at hd K1 l1 R
  subst hd
  have hlt : h.length < h1.length := by simp at l1; omega
  simp only [if_pos hlt]
  walk_at "ev"
  have K : Keep h h1 := ⟨by omega, fun i o e _ => K1.at_ i o (get_old e) fun z => by have := lt_of_get e; omega⟩
  have hs : h.length ≤ s0 := by simp at hs0; omega
  clear K1 l1 hlt hs0 ew
  obtain ⟨g1, g2, g3⟩ := P.at hG
  have e0 : KnG ar [] [] 0 := ⟨by simp, by intro y v h; simp [getK] at h, by simp⟩
  have e1 := e0.bind (ns := G.params.map (·.1)) (vs := vs) (by simp; omega) hv
  generalize hst : [(G.body, bindAll [] ((G.params.map (·.1)).zip vs))] = stk0
  have M0 : Mid ar fs most stk0 c ⟨[⟨f, 0, bindAll [] ((G.params.map (·.1)).zip vs)⟩], c, 0, .non⟩ := by
    refine ⟨Nat.zero_le _, by simp, .inl ⟨rfl, stk0, ?_, by simp⟩⟩
    subst hst
    exact ⟨_, _, rfl, ⟨rfl, ⟨G, [], hG, by simp⟩, ⟨_, g1, e1.mono (by simp) (by simp; omega)⟩, g2⟩, .nil, by simp⟩
  refine SK_nx (ok_seq (ok_while (fun n env h' => env = [some (ePr kd fs), some (.int f), some (.loc m), some (.int c), some (.int most), some (.loc h.length), none] ∧ Keep h h' ∧ ∃ S qs st, WR kd fs h' h.length s0 Ls S qs st ∧ Mid ar fs most stk0 c st ∧ n = most - st.taken) ?_ (m := most) ?_))
  · rintro n env h' ⟨rfl, K', S', qs, st, R', M, rfl⟩
    have ef := ok_fin R'
    walk_at "ev"
    simp only [ef]
    walk_at "ev"
    simp only [wn9, if_true]
    refine (h13 R').imp ?_
    rintro _ rfl
    walk_at "ev"
    obtain ⟨m1, m2, m3⟩ := M
    by_cases hk : st.taken < most
    · simp only [show decide ((st.taken : Int) < (most : Int)) = true from decide_eq_true (by omega), if_true]
      walk_at "ev"
      simp only [ef]
      walk_at "ev"
      simp only [wn10, if_true]
      refine (h14 R').imp ?_
      rintro _ rfl
      simp only [gIs_non]
      walk_at "ev"
      rcases m3 with ⟨hf, stk, hL, hr⟩ | ⟨xs, out, hf, hf2, hO, hr⟩
      · obtain ⟨rs, cn, tk, fn⟩ := st
        simp only at hf hL hr hk m2 ef
        subst hf
        simp only [if_true]
        simp only [ef]
        walk_at "ev"
        simp only [wn8, if_true]
        refine (h17 P R' hL (by omega) (by omega)).imp ?_
        rintro ⟨d, h2⟩ ⟨ev, st', hs', ⟨K2, S2, qs2, R2⟩, hA⟩
        simp only at K2 R2
        have M2 := Mid.step (st := ⟨rs, cn, tk, .non⟩) hk m2 hr hs' hA
        have ht : st'.taken = tk + 1 := by
          cases ev with
          | go s d => exact hA.2.2.1
          | gave v => exact hA.2.2.1
          | great c => exact hA.2.2
        exact ⟨most - st'.taken, by rw [ht]; omega, rfl, keep_mv K' K2 (Nat.le_refl _) hs, S2, qs2, st', R2, M2, rfl⟩
      · rw [hf]
        exact ran_tail h12 h13 h14 K' R' ⟨m1, m2, .inr ⟨xs, out, hf, hf2, hO, hr⟩⟩ (fun z => by rw [hf] at z; cases z)
    · simp only [show decide ((st.taken : Int) < (most : Int)) = false from decide_eq_false (by omega), Bool.false_eq_true, if_false, Ok_some]
      exact ran_tail h12 h13 h14 K' R' ⟨m1, m2, m3⟩ (fun _ => by omega)
  · exact ⟨rfl, K, S, [q], _, R, M0, rfl⟩
end K88

namespace K88
open PySem PySem.Spec PyProof.Rows L2 IL
local macro_rules | `(tactic| walk_at "ev") => `(tactic| simp (config := { decide := false }) only [iVar, iC, iOp, iCons, iNil, iB, iCall, jVal, jAnd, jOr, jNot, iIf, iNeg, iNot, IL.iTup, IL.iTupP, IL.iLst, iSl, iNo, iPart, sAsg, sExpr, sRet, sRetN, sSkip, sAugN, sAugS, sPar, gNm, gTp, gsCons, gsNil, gSb, one, two, gInt, jYes, CT.put, wipeD, setAll, iListRev, parSet,
  List.getElem?_cons_zero, List.getElem?_cons_succ, List.set_cons_zero, List.set_cons_succ, List.map_cons, List.map_nil, List.cons_append, List.nil_append, List.replicate_succ, List.replicate_zero, List.getLast?_cons_cons, List.getLast?_singleton,
  Option.bind_some, Option.map_some, Ok_some, Ok_bind, Ok_map, if_true, if_false, Bool.false_eq_true, decide_true, decide_false, List.length_cons, List.length_nil, Nat.zero_le, sz1, sz2, sz3, sz4, sz5, sz6, sz7, sz8, sz9, sz10, sz11, sz12, Bool.not_true, Bool.not_false,
  iFld, iMeth, iDicK, gIx_tup, gIx_kt, gIx_sl, atI_0, atI_1, atI_2, atI_3, atI_4, atI_5, atI_m1, gEq_str, gEq_int, gNe_str, gNe_int, gAdd_int, seqD_tup, seqD_kt, gLen_tup, gLen_kt, Int.reduceNeg, len_push,
  le1, le2, le3, le4, le5, le6, le7, le8, le9, le10, le11, lw1, lw2, lw3, lw4, lw5, lw6, lw7, lw8, lw9, lw10, lw11, lw12, lw13, lw14, lw15, lw16, lw17])
/-! ### what a run gave -/
mutual
theorem fine_eV {ar : Str → Nat} : ∀ {v : Val}, AV ar v → (eV v).fine (2 * vdeep v) = true
  | .mk m ps, h => by
    simp only [AV] at h
    have := fine_eVs h.2.2
    simp only [eV, vdeep, show 2 * (1 + vdeeps ps) = (2 * vdeeps ps + 1) + 1 from by omega, fine_tup, D.fines, fine_str, h.1, Bool.true_and, Bool.and_true]
    exact this
theorem fine_eVs {ar : Str → Nat} : ∀ {vs : List Val}, AVs ar vs → D.fines (eVs vs) (2 * vdeeps vs) = true
  | [], _ => by simp [eVs, D.fines]
  | v :: vs, h => by
    simp only [AVs] at h
    have h1 := fine_mono (m := 2 * vdeeps (v :: vs)) (fine_eV h.1) (by simp only [vdeeps]; omega)
    have h2 : D.fines (eVs vs) (2 * vdeeps (v :: vs)) = true := fines_iff.mpr fun x hx => fine_mono (fines_iff.mp (fine_eVs h.2) x hx) (by simp only [vdeeps]; omega)
    simp only [eVs, D.fines, h1, h2, Bool.and_self]
end
theorem gEq_self {x : D} {n : Nat} (h : x.fine n = true) (hn : n ≤ 400) (H : IH) : gEq x x H = some (.bl true, H) := by
  obtain ⟨b, e, i⟩ := eqD_fine (h := H) h h hn hn
  simp only [gEq, e, i.mpr rfl, Option.map_some]
abbrev ListedSp (F : Fn) : Prop := ∀ (none more : Str) (vs : List Val) (h : IH) (n : Nat), h[n]? = some (.lst (vs.map eV)) → Ok (F [.str none, .str more, .loc n] h) fun r => r = (eV (listV none more vs), h)
abbrev ThingsSp (F : Fn) : Prop := ∀ (none more : Str) (vs : List Val) (h : IH), vs.length ≤ 1000 → Ok (F [eV (listV none more vs)] h) fun r => ∃ L, r.1 = .loc L ∧ h.length ≤ L ∧ Keep h r.2 ∧ r.2[L]? = some (.lst (vs.map eV))
theorem lz1 : (("gave" : Str) = "gave") = True := by simp
theorem lz2 : (("great" : Str) = "gave") = False := by decide
theorem lz3 : (("late" : Str) = "gave") = False := by decide
theorem given_no {t : Nat → Fn} (out : Out) (ho : (∃ c, out = .great c) ∨ out = .late) (none more : Str) (h : IH) : Ok (meant t 36 [eO out, .str none, .str more] h) fun z => z = (.non, h) := by
  refine ok_fun rfl ?_
  unfold b_36
  refine ok_seq (ok_if ?_)
  rcases ho with ⟨c, rfl⟩ | rfl
  · simp only [eO, fGreat]
    walk_at "ev"
    simp only [lz2, decide_false, Bool.not_false, if_true]
    rfl
  · simp only [eO]
    walk_at "ev"
    simp only [lz3, decide_false, Bool.not_false, if_true]
    rfl
theorem given_yes {t : Nat → Fn} (h34 : ListedSp (t 34)) (h35 : ThingsSp (t 35)) {ar : Str → Nat} (none more : Str) (vs : List Val) (h : IH) (hl : vs.length ≤ 1000) (hv : VG ar (listV none more vs)) :
    Ok (meant t 36 [eO (.gave (listV none more vs)), .str none, .str more] h) fun z => ∃ L, z.1 = .loc L ∧ Keep h z.2 ∧ z.2[L]? = some (.lst (vs.map eV)) := by
  refine ok_fun rfl ?_
  unfold b_36
  refine ok_seq (ok_if ?_)
  simp only [eO, fGave]
  walk_at "ev"
  refine SK_nx (ok_seq ?_)
  walk_at "ev"
  refine (h35 none more vs h hl).imp ?_
  rintro ⟨d, h1⟩ ⟨L, rfl, hL, K, e⟩
  simp only at K e
  walk_at "ev"
  refine SK_nx ?_
  walk_at "ev"
  have e2 := get_old (o' := O.lst [.non, .loc L]) e
  refine (h34 none more vs _ L e2).imp ?_
  rintro _ rfl
  have hf := fine_eV hv.2
  have hd := hv.1.1
  simp only [gEq_self hf (by omega)]
  walk_at "ev"
  have e3 : (h1 ++ [O.lst [.non, .loc L]])[h1.length]? = some (.lst [.non, .loc L]) := get_new
  refine Ok.of (a := (.int 1, h1 ++ [O.lst [.non, .loc L]])) rfl ?_
  simp only [gIx_lst e3]
  walk_at "ev"
  exact ⟨L, rfl, K.trans (Ext.push _ _), e2⟩
end K88

namespace K88
open PySem PySem.Spec PyProof.Rows L2 IL
local macro_rules | `(tactic| walk_at "ev") => `(tactic| simp (config := { decide := false }) only [iVar, iC, iOp, iCons, iNil, iB, iCall, jVal, jAnd, jOr, jNot, iIf, iNeg, iNot, IL.iTup, IL.iTupP, IL.iLst, iSl, iNo, iPart, sAsg, sExpr, sRet, sRetN, sSkip, sAugN, sAugS, sPar, gNm, gTp, gsCons, gsNil, gSb, one, two, gInt, jYes, CT.put, wipeD, setAll, iListRev, parSet,
  List.getElem?_cons_zero, List.getElem?_cons_succ, List.set_cons_zero, List.set_cons_succ, List.map_cons, List.map_nil, List.cons_append, List.nil_append, List.replicate_succ, List.replicate_zero, List.getLast?_cons_cons, List.getLast?_singleton,
  Option.bind_some, Option.map_some, Ok_some, Ok_bind, Ok_map, if_true, if_false, Bool.false_eq_true, decide_true, decide_false, List.length_cons, List.length_nil, Nat.zero_le, sz1, sz2, sz3, sz4, sz5, sz6, sz7, sz8, sz9, sz10, sz11, sz12, Bool.not_true, Bool.not_false,
  iFld, iMeth, iDicK, gIx_tup, gIx_kt, gIx_sl, atI_0, atI_1, atI_2, atI_3, atI_4, atI_5, atI_m1, gEq_str, gEq_int, gNe_str, gNe_int, gAdd_int, seqD_tup, seqD_kt, gLen_tup, gLen_kt, Int.reduceNeg, len_push,
  le1, le2, le3, le4, le5, le6, le7, le8, le9, le10, le11, lw1, lw2, lw3, lw4, lw5, lw6, lw7, lw8, lw9, lw10, lw11, lw12, lw13, lw14, lw15, lw16, lw17])
/-! ### right -/
abbrev RanSp (F : Fn) : Prop := ∀ {ar : Str → Nat} {kd : D} {fs : List Fd}, PrOk ar fs → ∀ {h : IH} {m f most : Nat} {c : Int} {G : Fd} {vs : List Val}, h[m]? = some (.lst (vs.map eV)) → fs[f]? = some G → most ≤ 450 → 1000 * most + 1000 ≤ c → (∀ v ∈ vs, VG ar v) → G.params.length = vs.length →
    Ok (F [ePr kd fs, .int f, .loc m, .int c, .int most] h) fun z => ∃ out d s, runA fs most [(G.body, bindAll [] ((G.params.map (·.1)).zip vs))] = (out, d, s) ∧ z.1 = .tup [eO out, .int (c + d), .int (s : Nat)] ∧ Keep h z.2 ∧ s ≤ most ∧ -(1000 * s : Int) ≤ d ∧ OutG ar out
abbrev NoSp (F : Fn) : Prop := ∀ (out : Out), ((∃ c, out = .great c) ∨ out = .late) → ∀ (none more : Str) (h : IH), Ok (F [eO out, .str none, .str more] h) fun z => z = (.non, h)
abbrev YesSp (F : Fn) : Prop := ∀ {ar : Str → Nat} (none more : Str) (vs : List Val) (h : IH), vs.length ≤ 1000 → VG ar (listV none more vs) → Ok (F [eO (.gave (listV none more vs)), .str none, .str more] h) fun z => ∃ L, z.1 = .loc L ∧ Keep h z.2 ∧ z.2[L]? = some (.lst (vs.map eV))
/-- the makers of lists -/
structure LM (ar : Str → Nat) (a b : Str) : Prop where
  a0 : ar a = 0
  b2 : ar b = 2
  sa : PyData.strOk a = true
  sb : PyData.strOk b = true
theorem LM.list {ar : Str → Nat} {a b : Str} (l : LM ar a b) : ∀ {vs : List Val} {n s : Nat}, (∀ v ∈ vs, AV ar v ∧ vdeep v ≤ n ∧ vsize v ≤ s) → AV ar (listV a b vs) ∧ vdeep (listV a b vs) ≤ vs.length + n + 1 ∧ vsize (listV a b vs) ≤ vs.length * (s + 1) + 1
  | [], n, s, _ => by
    refine ⟨?_, ?_, ?_⟩
    · simp only [listV, AV]
      exact ⟨l.sa, by rw [l.a0]; rfl, trivial⟩
    · simp [listV, vdeep, vdeeps]
    · simp [listV, vsize, vsizes]
  | v :: vs, n, s, h => by
    obtain ⟨h1, h2, h3⟩ := l.list (vs := vs) fun u hu => h u (List.mem_cons_of_mem _ hu)
    obtain ⟨g1, g2, g3⟩ := h v (List.mem_cons_self ..)
    refine ⟨?_, ?_, ?_⟩
    · simp only [listV, AV, AVs]
      exact ⟨l.sb, by rw [l.b2]; rfl, g1, h1, trivial⟩
    · simp only [listV, vdeep, vdeeps, List.length_cons]; omega
    · simp only [listV, vsize, vsizes, List.length_cons]
      rw [Nat.succ_mul]
      omega
theorem AV_parts {ar : Str → Nat} {a b : Str} : ∀ {vs : List Val}, AV ar (listV a b vs) → ∀ v ∈ vs, AV ar v
  | [], _, v, hv => by cases hv
  | u :: vs, h, v, hv => by
    simp only [listV, AV, AVs] at h
    rcases List.mem_cons.mp hv with rfl | hv
    · exact h.2.2.1
    · exact AV_parts h.2.2.2.1 v hv
theorem AV_list {ar : Str → Nat} {a b : Str} (l : LM ar a b) : ∀ {vs : List Val}, (∀ v ∈ vs, AV ar v) → AV ar (listV a b vs)
  | [], _ => by
    simp only [listV, AV]
    exact ⟨l.sa, by rw [l.a0]; rfl, trivial⟩
  | v :: vs, h => by
    simp only [listV, AV, AVs]
    exact ⟨l.sb, by rw [l.b2]; rfl, h v (List.mem_cons_self ..), AV_list l (fun u hu => h u (List.mem_cons_of_mem _ hu)), trivial⟩
/-- the list, made of other makers -/
theorem VG.relist {ar : Str → Nat} {a b a' b' : Str} {vs : List Val} (h : VG ar (listV a b vs)) (l : LM ar a' b') : VG ar (listV a' b' vs) := by
  obtain ⟨⟨h1, h2⟩, h3⟩ := h
  rw [listV_deep] at h1
  rw [listV_size] at h2
  exact ⟨⟨by rw [listV_deep]; exact h1, by rw [listV_size]; exact h2⟩, AV_list l (AV_parts h3)⟩
structure Ready (ar : Str → Nat) (fs : List Fd) (F G H : Fd) (p k q kq a b t1 n1 m1 g1 e1 l1 o1 t2 n2 m2 g2 e2 l2 o2 t3 n3 m3 g3 e3 l3 o3 : Str) : Prop where
  five : Five fs F G H p k q kq a b t1 n1 m1 g1 e1 l1 o1 t2 n2 m2 g2 e2 l2 o2 t3 n3 m3 g3 e3 l3 o3
  ok : PrOk ar fs
  at_ : ∃ M, fs.length = M + 3 ∧ fs[M]? = some (overF H t1 n1 m1 g1 e1 l1 o1) ∧ fs[M + 1]? = some (overF F t2 n2 m2 g2 e2 l2 o2) ∧ fs[M + 2]? = some (overF G t3 n3 m3 g3 e3 l3 o3)
  i1 : LM ar n1 m1
  i2 : LM ar n2 m2
  i3 : LM ar n3 m3
theorem lz2' : (("great" : Str) = "late") = False := by decide
theorem lz3' : (("late" : Str) = "great") = False := by decide
theorem isIn_gl (x : Str) (h : IH) (hx : x = "great" ∨ x = "late") : gIn (.str x) (.tup [.str "great", .str "late"]) h = some (.bl true, h) := by
  have := inD_strs x ["great", "late"]
  simp only [List.map_cons, List.map_nil] at this
  simp only [gIn, isIn_tup (h := h) (xs := [D.str "great", .str "late"]) (x := .str x) rfl, Option.map_some, this]
  rcases hx with rfl | rfl <;> simp
theorem log2_lt64 {n : Nat} (h : n < 2 ^ 64) : n.log2 < 65 := by
  by_cases hn : n = 0
  · subst hn; decide
  · have := (Nat.log2_lt hn).mpr h
    omega
theorem gMul_int {i j : Int} {h : IH} (hi : i.natAbs < 2 ^ 64) (hj : j.natAbs < 2 ^ 64) : gMul (.int i) (.int j) h = some (.int (i * j), h) := by
  have h1 := log2_lt64 hi
  have h2 := log2_lt64 hj
  have e : cMulW i j = true := decide_eq_true (by omega)
  show gMulI (.int i) (.int j) h = _
  simp only [gMulI, gInt, e, if_true]
theorem p9 : (cPow 10 9 = true) = True := eq_true (by decide +kernel)
theorem i9 : ((10 : Int) ^ Int.toNat 9) = 1000000000 := by decide +kernel
theorem right_spec {t : Nat → Fn} (h22 : RanSp (t 22)) (h34 : ListedSp (t 34)) (hno : NoSp (t 36)) (hyes : YesSp (t 36)) {ar : Str → Nat} {fs : List Fd} {F G H : Fd} {p k q kq a b t1 n1 m1 g1 e1 l1 o1 t2 n2 m2 g2 e2 l2 o2 t3 n3 m3 g3 e3 l3 o3 : Str}
    (W : Ready ar fs F G H p k q kq a b t1 n1 m1 g1 e1 l1 o1 t2 n2 m2 g2 e2 l2 o2 t3 n3 m3 g3 e3 l3 o3) {kd : D} {h : IH} {nm vm : Nat} {vs : List Val} (en : h[nm]? = some (.lst [eS [t1, n1, m1, g1, e1, l1, o1], eS [t2, n2, m2, g2, e2, l2, o2], eS [t3, n3, m3, g3, e3, l3, o3]])) (ev : h[vm]? = some (.lst (vs.map eV)))
    (hl : vs.length ≤ 10) (hv : ∀ v ∈ vs, AV ar v ∧ vdeep v ≤ 20 ∧ vsize v ≤ 500) : Ok (meant t 37 [ePr kd fs, .loc nm, .loc vm] h) fun z => z.1 = .bl true ∧ Keep h z.2 := by
  obtain ⟨M, hM, f1, f2, f3⟩ := W.at_
  have vg : ∀ {x y : Str}, LM ar x y → VG ar (listV x y vs) := fun l => by
    obtain ⟨z1, z2, z3⟩ := l.list hv
    refine ⟨⟨by omega, ?_⟩, z1⟩
    have : vs.length * (500 + 1) ≤ 10 * 501 := Nat.mul_le_mul_right _ hl
    omega
  refine ok_fun rfl ?_
  unfold b_37
  refine ok_seq ?_
  walk_at "ev"
  simp only [seqD_lst en]
  walk_at "ev"
  refine SK_nx (ok_seq ?_)
  unfold ePr eS
  walk_at "ev"
  have eM : (((fs.map eF).length : Nat) : Int) - 3 = (M : Nat) := by rw [List.length_map, hM]; omega
  simp only [eM]
  refine SK_nx (ok_seq ?_)
  walk_at "ev"
  refine (h34 n1 m1 vs h vm ev).imp ?_
  rintro _ rfl
  walk_at "ev"
  simp only [p9, i9, if_true, Ok_some]
  have es1 : (h ++ [O.lst [eV (listV n1 m1 vs)]])[h.length]? = some (.lst ([listV n1 m1 vs].map eV)) := get_new
  have K1 : Keep h (h ++ [O.lst [eV (listV n1 m1 vs)]]) := Ext.push _ _
  generalize h ++ [O.lst [eV (listV n1 m1 vs)]] = h1 at *
  refine (h22 (kd := kd) (most := 400) (c := 1000000000) W.ok es1 f1 (by omega) (by omega) (by intro v hv; rw [List.mem_singleton] at hv; subst hv; exact vg W.i1) rfl).imp ?_
  rintro ⟨d, h2⟩ ⟨out1, c1, s1, r1, rfl, K2, b1, b2, og1⟩
  simp only at K2
  walk_at "ev"
  replace K2 : Keep h h2 := K1.trans K2
  have ev2 := K2.get ev
  have r1' : runA fs 400 [((overF H t1 n1 m1 g1 e1 l1 o1).body, [("things", listV n1 m1 vs)])] = (out1, c1, s1) := r1
  clear K1 es1 r1
  refine SK_nx (ok_seq ?_)
  walk_at "ev"
  refine (h34 n2 m2 vs h2 vm ev2).imp ?_
  rintro _ rfl
  walk_at "ev"
  simp only [p9, i9, if_true, Ok_some]
  have es2 : (h2 ++ [O.lst [eV (listV n2 m2 vs)]])[h2.length]? = some (.lst ([listV n2 m2 vs].map eV)) := get_new
  replace K2 : Keep h (h2 ++ [O.lst [eV (listV n2 m2 vs)]]) := K2.trans (Ext.push _ _)
  generalize h2 ++ [O.lst [eV (listV n2 m2 vs)]] = h3 at *
  refine (h22 (kd := kd) (most := 150) (c := 1000000000) (f := M + 1) W.ok es2 f2 (by omega) (by omega) (by intro v hv; rw [List.mem_singleton] at hv; subst hv; exact vg W.i2) rfl).imp ?_
  rintro ⟨d, h4⟩ ⟨out2, c2, s2, r2, rfl, K4, b3, b4, og2⟩
  simp only at K4
  replace K4 : Keep h h4 := K2.trans K4
  have ev4 := K4.get ev
  have r2' : runA fs 150 [((overF F t2 n2 m2 g2 e2 l2 o2).body, [("things", listV n2 m2 vs)])] = (out2, c2, s2) := r2
  clear K2 es2 r2 ev2
  refine SK_nx (ok_seq ?_)
  walk_at "ev"
  cases out2 with
  | stuck => exact og2.elim
  | late =>
    refine (hno .late (.inr rfl) e2 l2 h4).imp ?_
    rintro _ rfl
    walk_at "ev"
    refine SK_nx (ok_seq (ok_if ?_))
    walk_at "ev"
    simp only [gIs_non]
    walk_at "ev"
    simp only [eO]
    walk_at "ev"
    simp only [isIn_gl _ _ (.inr rfl)]
    walk_at "ev"
    exact ⟨rfl, K4⟩
  | great cc =>
    refine (hno (.great cc) (.inl ⟨cc, rfl⟩) e2 l2 h4).imp ?_
    rintro _ rfl
    walk_at "ev"
    refine SK_nx (ok_seq (ok_if ?_))
    walk_at "ev"
    simp only [gIs_non]
    walk_at "ev"
    simp only [eO, fGreat]
    walk_at "ev"
    simp only [isIn_gl _ _ (.inl rfl)]
    walk_at "ev"
    exact ⟨rfl, K4⟩
  | gave U =>
    obtain ⟨ws, rfl, hwl, key⟩ := plain_law W.five r2'
    refine (hyes (ar := ar) e2 l2 ws h4 (by omega) og2).imp ?_
    rintro ⟨d, h5⟩ ⟨L, rfl, K5, eL⟩
    simp only at K5 eL
    walk_at "ev"
    refine SK_nx (ok_seq (ok_if ?_))
    walk_at "ev"
    simp only [gIs_non]
    walk_at "ev"
    replace K5 : Keep h h5 := K4.trans K5
    have ev5 := K5.get ev
    clear ev4 K4
    refine SK_nx (ok_seq ?_)
    walk_at "ev"
    refine (h34 n3 m3 ws h5 L eL).imp ?_
    rintro _ rfl
    walk_at "ev"
    have es3 : (h5 ++ [O.lst [eV (listV n3 m3 ws)]])[h5.length]? = some (.lst ([listV n3 m3 ws].map eV)) := get_new
    have K6 : Keep h (h5 ++ [O.lst [eV (listV n3 m3 ws)]]) := K5.trans (Ext.push _ _)
    have K6' : Keep h5 (h5 ++ [O.lst [eV (listV n3 m3 ws)]]) := Ext.push _ _
    have eL6 := K6'.get eL
    clear K6'
    generalize h5 ++ [O.lst [eV (listV n3 m3 ws)]] = h6 at *
    refine (h22 (kd := kd) (most := 150) (c := 1000000000 + c2) (f := M + 2) W.ok es3 f3 (by omega) (by omega) (by intro v hv; rw [List.mem_singleton] at hv; subst hv; exact VG.relist og2 W.i3) rfl).imp ?_
    rintro ⟨d, h7⟩ ⟨out3, c3, s3, r3, rfl, K7, b5, b6, og3⟩
    simp only at K7
    have eL7 := K7.get eL6
    replace K7 : Keep h h7 := K6.trans K7
    have ev7 := K7.get ev
    have r3' : runA fs 150 [((overF G t3 n3 m3 g3 e3 l3 o3).body, [("things", listV n3 m3 ws)])] = (out3, c3, s3) := r3
    clear K6 es3 r3 ev5 K5 eL6
    refine SK_nx (ok_seq ?_)
    walk_at "ev"
    cases out3 with
    | stuck => exact og3.elim
    | late =>
      refine (hno .late (.inr rfl) e3 l3 h7).imp ?_
      rintro _ rfl
      walk_at "ev"
      refine SK_nx (ok_seq (ok_if ?_))
      walk_at "ev"
      simp only [gIs_non]
      walk_at "ev"
      simp only [eO]
      walk_at "ev"
      simp only [isIn_gl _ _ (.inr rfl)]
      walk_at "ev"
      exact ⟨rfl, K7⟩
    | great cc =>
      refine (hno (.great cc) (.inl ⟨cc, rfl⟩) e3 l3 h7).imp ?_
      rintro _ rfl
      walk_at "ev"
      refine SK_nx (ok_seq (ok_if ?_))
      walk_at "ev"
      simp only [gIs_non]
      walk_at "ev"
      simp only [eO, fGreat]
      walk_at "ev"
      simp only [isIn_gl _ _ (.inl rfl)]
      walk_at "ev"
      exact ⟨rfl, K7⟩
    | gave U' =>
      obtain ⟨xs, zz, rfl, hxl, hz, hr⟩ := key r3'
      rw [hr] at r1'
      simp only [Prod.mk.injEq] at r1'
      obtain ⟨rfl, rfl, rfl⟩ := r1'
      refine (hyes (ar := ar) e3 l3 xs h7 (by omega) og3).imp ?_
      rintro ⟨d, h8⟩ ⟨L', rfl, K8, eL'⟩
      simp only at K8 eL'
      have eL8 := K8.get eL7
      have ev8 := K8.get ev7
      replace K8 : Keep h h8 := K7.trans K8
      walk_at "ev"
      refine SK_nx (ok_seq (ok_if ?_))
      walk_at "ev"
      simp only [gIs_non]
      walk_at "ev"
      refine SK_nx (ok_seq (ok_if ?_))
      walk_at "ev"
      have q1 : gLen [D.loc L] h8 = some (.int (vs.length : Nat), h8) := by rw [gLen_lst eL8, List.length_map, hwl]
      have q2 : gLen [D.loc vm] h8 = some (.int (vs.length : Nat), h8) := by rw [gLen_lst ev8, List.length_map]
      have q3 : gLen [D.loc L'] h8 = some (.int (vs.length : Nat), h8) := by rw [gLen_lst eL', List.length_map, hxl]
      have q4 : ∀ (n : Nat), gNe (.int (n : Nat)) (.int (n : Nat)) h8 = some (.bl false, h8) := fun n => by rw [gNe_int]; simp
      simp only [q1, Ok_some]
      simp only [q2, Ok_some]
      simp only [q4, Ok_some]
      simp only [Bool.false_eq_true, if_false, q3, q2, q4, Option.bind_some, Ok_some]
      refine SK_nx (ok_seq ?_)
      walk_at "ev"
      have q5 : gMul (.int 2) (.int (vs.length : Nat)) h8 = some (.int (2 * (vs.length : Nat)), h8) := gMul_int (by decide) (by omega)
      simp only [q2, Ok_some]
      simp only [q5, Ok_some]
      walk_at "ev"
      have q6 : ((s2 : Nat) : Int) + ((s3 : Nat) : Int) - 2 * ((vs.length : Nat) : Int) - 3 = ((zz : Nat) : Int) := by omega
      simp only [q6]
      refine SK_nx ?_
      walk_at "ev"
      refine (h34 e1 l1 xs h8 L' eL').imp ?_
      rintro _ rfl
      walk_at "ev"
      have q7 : (D.tup [eO (.gave (listV e1 l1 xs)), D.int (1000000000 + (c2 + c3)), D.int (zz : Nat)]) = D.tup [D.tup [.str "gave", eV (listV e1 l1 xs)], .int (1000000000 + c2 + c3), .int (zz : Nat)] := by
        rw [Int.add_assoc]; rfl
      have q8 : (D.tup [D.tup [.str "gave", eV (listV e1 l1 xs)], .int (1000000000 + c2 + c3), .int (zz : Nat)]).fine 200 = true := by
        have f := fine_eV (v := listV e1 l1 xs) og1.2
        have g := og1.1.1
        have f2 := fine_mono (m := 198) f (by omega)
        have sg : PyData.strOk ("gave" : Str) = true := by decide +kernel
        rw [fine_tup]
        simp only [D.fines, fine_tup, fine_int, fine_str, f2, sg, Bool.and_self]
      simp only [q7, gEq_self q8 (by omega)]
      walk_at "ev"
      exact ⟨rfl, K8⟩
end K88

namespace K88
open PySem PySem.Spec PyProof.Rows L2 IL
local macro_rules | `(tactic| walk_at "ev") => `(tactic| simp (config := { decide := false }) only [iVar, iC, iOp, iCons, iNil, iB, iCall, jVal, jAnd, jOr, jNot, iIf, iNeg, iNot, IL.iTup, IL.iTupP, IL.iLst, iSl, iNo, iPart, sAsg, sExpr, sRet, sRetN, sSkip, sAugN, sAugS, sPar, gNm, gTp, gsCons, gsNil, gSb, one, two, gInt, jYes, CT.put, wipeD, setAll, iListRev, parSet,
  List.getElem?_cons_zero, List.getElem?_cons_succ, List.set_cons_zero, List.set_cons_succ, List.map_cons, List.map_nil, List.cons_append, List.nil_append, List.replicate_succ, List.replicate_zero, List.getLast?_cons_cons, List.getLast?_singleton,
  Option.bind_some, Option.map_some, Ok_some, Ok_bind, Ok_map, if_true, if_false, Bool.false_eq_true, decide_true, decide_false, List.length_cons, List.length_nil, Nat.zero_le, sz1, sz2, sz3, sz4, sz5, sz6, sz7, sz8, sz9, sz10, sz11, sz12, Bool.not_true, Bool.not_false,
  iFld, iMeth, iDicK, gIx_tup, gIx_kt, gIx_sl, atI_0, atI_1, atI_2, atI_3, atI_4, atI_5, atI_m1, gEq_str, gEq_int, gNe_str, gNe_int, gAdd_int, seqD_tup, seqD_kt, gLen_tup, gLen_kt, Int.reduceNeg, len_push,
  le1, le2, le3, le4, le5, le6, le7, le8, le9, le10, le11, lw1, lw2, lw3, lw4, lw5, lw6, lw7, lw8, lw9, lw10, lw11, lw12, lw13, lw14, lw15, lw16, lw17])
/-! ### the deal -/
def dealK (s u : Int) (m : Nat) : List (Key × D) := [(.inr "seed", .int s), (.inr "number", .int u), (.inr "left", .loc m)]
theorem dk1 {s u : Int} {m : Nat} : valD (dealK s u m) (Sum.inr "seed" : Key) = some (.int s) := rfl
theorem dk2 {s u : Int} {m : Nat} : valD (dealK s u m) (Sum.inr "number" : Key) = some (.int u) := rfl
theorem dk3 {s u : Int} {m : Nat} : valD (dealK s u m) (Sum.inr "left" : Key) = some (.loc m) := rfl
theorem dk4 {s u v : Int} {m : Nat} : putD (dealK s u m) (Sum.inr "seed" : Key) (.int v) = dealK v u m := rfl
theorem dk5 {s u v : Int} {m : Nat} : putD (dealK s u m) (Sum.inr "number" : Key) (.int v) = dealK s v m := rfl
theorem dk6 {s u : Int} {m : Nat} : keysOk (dealK s u m) = true := by
  show decide (List.Nodup [(Sum.inr "seed" : Key), .inr "number", .inr "left"]) = true
  decide
theorem dk7 {s u : Int} {m : Nat} : decide ((dealK s u m).length < sizeLine) = true := decide_eq_true (sz_lt (by simp [dealK]))
section
variable {h : IH} {n : Nat} {s u v : Int} {m : Nat}
theorem gIx_dk {kvs : List (Key × D)} {x : Str} {d : D} (e : h[n]? = some (.dic kvs)) (g : valD kvs (Sum.inr x : Key) = some d) : gIx (.loc n) (.str x) h = some (d, h) := by
  simp only [gIx, seqD, e, dictAt, keyD, Option.map_some, g]
theorem put_seed (e : h[n]? = some (.dic (dealK s u m))) : IL.putAt (.loc n) (.str "seed") (.int v) h = some (h.set n (.dic (dealK v u m))) := by
  simp only [IL.putAt, e, keyD, Option.bind_some, dk6, dk7, Bool.and_self, if_true, dk4]
theorem put_number (e : h[n]? = some (.dic (dealK s u m))) : IL.putAt (.loc n) (.str "number") (.int v) h = some (h.set n (.dic (dealK s v m))) := by
  simp only [IL.putAt, e, keyD, Option.bind_some, dk6, dk7, Bool.and_self, if_true, dk5]
end
/-- the deal at n, what is left of it at m -/
def Deal (h : IH) (n m : Nat) : Prop := ∃ (s u : Int) (xs : List Int), h[n]? = some (.dic (dealK s u m)) ∧ h[m]? = some (.lst (xs.map D.int)) ∧ 0 ≤ s ∧ s < 2 ^ 31 ∧ 0 ≤ u ∧ ∀ x ∈ xs, 0 < x
abbrev Dl (n m : Nat) : Nat → Prop := fun i => i = n ∨ i = m
theorem Deal.keep {h h' : IH} {n m : Nat} (d : Deal h n m) (k : Keep h h') : Deal h' n m := by
  obtain ⟨s, u, xs, e1, e2, r⟩ := d
  exact ⟨s, u, xs, k.get e1, k.get e2, r⟩
theorem cmT {i j : Int} (hj : 0 < j) : (cMod i j = true) = True := eq_true (decide_eq_true hj)
theorem cdT {i j : Int} (hj : 0 < j) (hj2 : j < 2 ^ 62) : (cDiv i j = true) = True := by
  have h2 := log2_lt64 (n := j.natAbs) (by omega)
  exact eq_true (by simp only [cDiv, Bool.and_eq_true, decide_eq_true_eq]; exact ⟨hj, by omega⟩)
theorem draw_spec (t : Nat → Fn) {h : IH} {n m : Nat} (hd : Deal h n m) (many : Int) (h1 : 0 < many) (h2 : many < 2 ^ 62) :
    Ok (meant t 24 [.loc n, .int many] h) fun r => ∃ k : Nat, r.1 = .int (k : Nat) ∧ (k : Int) < many ∧ Ext (Dl n m) h r.2 ∧ Deal r.2 n m := by
  obtain ⟨s, u, xs, e1, e2, hs1, hs2, hu, hx⟩ := hd
  have nm : n ≠ m := fun z => by rw [z, e2] at e1; cases e1
  refine ok_fun rfl ?_
  unfold b_24
  refine ok_seq ?_
  refine ok_while (fun k env h' => env = [some (.loc n), some (.int many), none, none, none] ∧ Ext (Dl n m) h h' ∧ ∃ (u : Int) (xs : List Int), h'[n]? = some (.dic (dealK s u m)) ∧ h'[m]? = some (.lst (xs.map D.int)) ∧ 0 ≤ u ∧ (∀ x ∈ xs, 0 < x) ∧ k = xs.length) ?_ (m := xs.length) ⟨rfl, Ext.refl _, u, xs, e1, e2, hu, hx, rfl⟩
  rintro k env h' ⟨rfl, K, u, xs, e3, e4, hu, hx, rfl⟩
  clear e1 e2
  walk_at "ev"
  simp only [gIx_dk e3 dk2]
  walk_at "ev"
  by_cases hc : u = 0 ∧ xs ≠ []
  · obtain ⟨rfl, hne⟩ := hc
    simp only [decide_true, if_true, gIx_dk e3 dk3, Option.bind_some, gLen_lst e4, gInt]
    have hb : decide (0 < (((xs.map D.int).length : Nat) : Int)) = true := decide_eq_true (by
      have := List.length_pos_iff.mpr hne
      rw [List.length_map]
      omega)
    simp only [hb, if_true, Ok_some]
    refine ok_bm ?_
    walk_at "ev"
    simp only [gIx_dk e3 dk3]
    walk_at "ev"
    obtain ⟨l, x, rfl⟩ : ∃ l x, xs = l ++ [x] := by
      rcases List.eq_nil_or_concat xs with z | ⟨l, x, z⟩
      · exact absurd z hne
      · exact ⟨l, x, by rw [z, List.concat_eq_append]⟩
    simp only [List.map_append, List.map_cons, List.map_nil] at e4
    refine ⟨isTy_lst e4, Ok.of (gPop_lst e4) ?_⟩
    walk_at "ev"
    have e5 : (h'.set m (.lst (l.map D.int)))[n]? = some (.dic (dealK s 0 m)) := by rw [set_ne (Ne.symm nm)]; exact e3
    simp only [put_number e5]
    walk_at "ev"
    have e6 := set_at (o' := .lst (l.map D.int)) e4
    refine ⟨l.length, by simp, rfl, (K.trans (Ext.set _ _ _ (.inr rfl))).trans (Ext.set _ _ _ (.inl rfl)), x, l, set_at e5, by rw [set_ne nm]; exact e6, ?_, fun y hy => hx y (by simp [hy]), rfl⟩
    have := hx x (by simp)
    omega
  · refine Ok.of (a := (false, h')) ?_ ?_
    · by_cases h0 : u = 0
      · have hxs : xs = [] := by
          by_cases z : xs = []
          · exact z
          · exact absurd ⟨h0, z⟩ hc
        subst hxs
        simp only [h0, decide_true, if_true, gIx_dk e3 dk3, Option.bind_some, gLen_lst e4, gInt]
        rfl
      · simp only [decide_eq_false h0, Bool.false_eq_true, if_false]
    simp only [Bool.false_eq_true, if_false]
    refine SK_nx (ok_seq ?_)
    walk_at "ev"
    simp only [gIx_dk e3 dk2]
    walk_at "ev"
    refine SK_nx (ok_seq (ok_if ?_))
    walk_at "ev"
    by_cases h0 : 0 < u
    · simp only [decide_eq_true h0, if_true]
      refine ok_seq ?_
      walk_at "ev"
      simp only [cdT h1 h2, if_true, Ok_some]
      have hd : 0 ≤ u / many := Int.ediv_nonneg hu (by omega)
      simp only [put_number e3]
      walk_at "ev"
      refine SK_nx ?_
      walk_at "ev"
      simp only [cmT h1, if_true, Ok_some]
      have hm0 := Int.emod_nonneg u (show many ≠ 0 by omega)
      have hm1 := Int.emod_lt_of_pos u h1
      refine SK_rt ⟨(u % many).toNat, ?_, by omega, K.trans (Ext.set _ _ _ (.inl rfl)), s, u / many, xs, set_at e3, by rw [set_ne nm]; exact e4, ?_⟩
      · show D.int _ = D.int _
        rw [Int.toNat_of_nonneg hm0]
      · exact ⟨hs1, hs2, hd, hx⟩
    · simp only [decide_eq_false h0, Bool.false_eq_true, if_false]
      refine SK_nx ?_
      have q1 : gMul (.int s) (.int 48271) h' = some (.int (s * 48271), h') := gMul_int (by omega) (by decide)
      refine ok_seq ?_
      walk_at "ev"
      simp only [gIx_dk e3 dk1]
      walk_at "ev"
      simp only [q1]
      walk_at "ev"
      simp only [cmT (show (0 : Int) < 2147483647 by decide), if_true, Ok_some]
      have x1a := Int.emod_nonneg (s * 48271 + 7919) (show (2147483647 : Int) ≠ 0 by decide)
      have x1b := Int.emod_lt_of_pos (s * 48271 + 7919) (show (0 : Int) < 2147483647 by decide)
      generalize (s * 48271 + 7919) % 2147483647 = x1 at *
      have q2 : gMul (.int x1) (.int 40692) h' = some (.int (x1 * 40692), h') := gMul_int (by omega) (by decide)
      refine SK_nx (ok_seq ?_)
      walk_at "ev"
      simp only [q2]
      walk_at "ev"
      simp only [cmT (show (0 : Int) < 2147483399 by decide), if_true, Ok_some]
      have x2a := Int.emod_nonneg (x1 * 40692 + 104729) (show (2147483399 : Int) ≠ 0 by decide)
      have x2b := Int.emod_lt_of_pos (x1 * 40692 + 104729) (show (0 : Int) < 2147483399 by decide)
      generalize (x1 * 40692 + 104729) % 2147483399 = x2 at *
      simp only [put_seed e3]
      walk_at "ev"
      have e5 := set_at (o' := .dic (dealK x2 u m)) e3
      have e6 : (h'.set n (.dic (dealK x2 u m)))[m]? = some (.lst (xs.map D.int)) := by rw [set_ne nm]; exact e4
      have K5 : Ext (Dl n m) h (h'.set n (.dic (dealK x2 u m))) := K.trans (Ext.set _ _ _ (.inl rfl))
      generalize h'.set n (O.dic (dealK x2 u m)) = h5 at *
      have q3 : gMul (.int x2) (.int x2) h5 = some (.int (x2 * x2), h5) := gMul_int (by omega) (by omega)
      refine SK_nx (ok_seq ?_)
      walk_at "ev"
      simp only [gIx_dk e5 dk1]
      walk_at "ev"
      simp only [gIx_dk e5 dk1]
      walk_at "ev"
      simp only [q3]
      walk_at "ev"
      simp only [cmT (show (0 : Int) < 2147483563 by decide), if_true, Ok_some]
      generalize x2 * x2 % 2147483563 = x3 at *
      have q4 : gMul (.int x1) (.int x1) h5 = some (.int (x1 * x1), h5) := gMul_int (by omega) (by omega)
      refine SK_nx ?_
      walk_at "ev"
      simp only [q4]
      walk_at "ev"
      simp only [cmT (show (0 : Int) < 2147483629 by decide), if_true, Ok_some]
      have x4a := Int.emod_nonneg (x1 * x1) (show (2147483629 : Int) ≠ 0 by decide)
      have x4b := Int.emod_lt_of_pos (x1 * x1) (show (0 : Int) < 2147483629 by decide)
      generalize x1 * x1 % 2147483629 = x4 at *
      have q5 : gMul (.int x4) (.int 2147483563) h5 = some (.int (x4 * 2147483563), h5) := gMul_int (by omega) (by decide)
      simp only [q5]
      walk_at "ev"
      simp only [cmT h1, if_true, Ok_some]
      generalize x4 * 2147483563 + x3 = x5 at *
      have hm0 := Int.emod_nonneg x5 (show many ≠ 0 by omega)
      have hm1 := Int.emod_lt_of_pos x5 h1
      refine ⟨(x5 % many).toNat, ?_, by omega, K5, x2, u, xs, e5, e6, x2a, by omega, hu, hx⟩
      show D.int _ = D.int _
      rw [Int.toNat_of_nonneg hm0]
end K88

namespace K88
open PySem PySem.Spec PyProof.Rows L2 IL
local macro_rules | `(tactic| walk_at "ev") => `(tactic| simp (config := { decide := false }) only [iVar, iC, iOp, iCons, iNil, iB, iCall, jVal, jAnd, jOr, jNot, iIf, iNeg, iNot, IL.iTup, IL.iTupP, IL.iLst, iSl, iNo, iPart, sAsg, sExpr, sRet, sRetN, sSkip, sAugN, sAugS, sPar, gNm, gTp, gsCons, gsNil, gSb, one, two, gInt, jYes, CT.put, wipeD, setAll, iListRev, parSet,
  List.getElem?_cons_zero, List.getElem?_cons_succ, List.set_cons_zero, List.set_cons_succ, List.map_cons, List.map_nil, List.cons_append, List.nil_append, List.replicate_succ, List.replicate_zero, List.getLast?_cons_cons, List.getLast?_singleton,
  Option.bind_some, Option.map_some, Ok_some, Ok_bind, Ok_map, if_true, if_false, Bool.false_eq_true, decide_true, decide_false, List.length_cons, List.length_nil, Nat.zero_le, sz1, sz2, sz3, sz4, sz5, sz6, sz7, sz8, sz9, sz10, sz11, sz12, Bool.not_true, Bool.not_false,
  iFld, iMeth, iDicK, gIx_tup, gIx_kt, gIx_sl, atI_0, atI_1, atI_2, atI_3, atI_4, atI_5, atI_m1, gEq_str, gEq_int, gNe_str, gNe_int, gAdd_int, seqD_tup, seqD_kt, gLen_tup, gLen_kt, Int.reduceNeg, len_push,
  le1, le2, le3, le4, le5, le6, le7, le8, le9, le10, le11, lw1, lw2, lw3, lw4, lw5, lw6, lw7, lw8, lw9, lw10, lw11, lw12, lw13, lw14, lw15, lw16, lw17])
/-! ### dealing -/
theorem p18 : (cPow 10 18 = true) = True := eq_true (by decide +kernel)
theorem i18 : ((10 : Int) ^ Int.toNat 18) = 1000000000000000000 := by decide +kernel
def absI (c : Int) : Int := if 0 - c > c then 0 - c else c
theorem absI_nn (c : Int) : 0 ≤ absI c := by unfold absI; split <;> omega
theorem deal_spec (t : Nat → Fn) (ns : List Int) (hn : ns.length ≤ 63) (h : IH) : Ok (meant t 23 [.sl (ns.map D.int), .int 0] h) fun r => ∃ n m, r.1 = .loc n ∧ Deal r.2 n m := by
  refine ok_fun rfl ?_
  unfold b_23
  obtain ⟨ns', en, hn'⟩ : ∃ ns' : List Int, IL.cutD (ns.map D.int) (some 0) (some 63) = ns'.map D.int ∧ ns'.length ≤ 63 := by
    unfold IL.cutD
    rw [← List.map_drop, ← List.map_take]
    exact ⟨_, rfl, by rw [List.length_take, List.length_drop]; omega⟩
  refine ok_seq ?_
  simp only [sAsg, Ok_bind]
  refine ok_mapF (items := ns'.map D.int) (dp := [(h.length, ns'.map D.int)]) (h1 := h ++ [.lst (ns'.map D.int)]) (fun d => match d with
    | .int c => .int (absI c)
    | d => d) ?_ (depsOk_one get_new) (by simp; omega) ?_ ?_
  · unfold pSeq
    walk_at "ev"
    simp only [gSl_sl, en, Option.bind_some]
    simp only [seqSrc_lst (get_new (h := h) (o := O.lst (ns'.map D.int))), Option.map_some]
  · intro d hd h' K
    obtain ⟨c, _, rfl⟩ := List.mem_map.mp hd
    simp only [gMax2]
    walk_at "ev"
    exact ⟨rfl, Ext.refl _⟩
  · intro h' K hn
    have e0 : ((ns'.map D.int).map fun d => match d with
      | .int c => D.int (absI c)
      | d => d) = (ns'.map absI).map D.int := by rw [List.map_map, List.map_map]; rfl
    rw [e0] at hn
    have hcl : (ns'.map absI).length ≤ 63 := by simpa using hn'
    have hcp : ∀ c ∈ ns'.map absI, 0 ≤ c := fun c hc => by
      obtain ⟨x, _, rfl⟩ := List.mem_map.mp hc
      exact absI_nn x
    generalize ns'.map absI = cs at *
    generalize (h ++ [O.lst (ns'.map D.int)]).length = N at *
    clear K e0 en
    walk_at "ev"
    refine SK_nx (ok_seq ?_)
    walk_at "ev"
    refine SK_nx (ok_seq (ok_for (ok_pSeq ?_)))
    walk_at "ev"
    refine ⟨_, _, _, (fun s z => by cases z), seqSrc_lst hn, ?_⟩
    refine ok_forI (fun i env h2 => h2 = h' ∧ ∃ (s : Int) (w : Option D), env = [some (.sl (ns.map D.int)), some (.int 0), some (.loc N), some (.int s), w] ∧ 0 ≤ s ∧ s < 2 ^ 31) (fun i env h2 hI => by rw [hI.1]; exact depsOk_one hn) (fun i d env h2 hd hI => ?_) (fun env h2 hI => ?_) ⟨rfl, _, _, rfl, by decide, by decide⟩
    · obtain ⟨rfl, s, w, rfl, s1, s2⟩ := hI
      rw [List.getElem?_map] at hd
      obtain ⟨c, hc, rfl⟩ := Option.map_eq_some_iff.mp hd
      walk_at "ev"
      have q1 : gMul (.int s) (.int 48271) h2 = some (.int (s * 48271), h2) := gMul_int (by omega) (by decide)
      simp only [q1]
      walk_at "ev"
      simp only [cmT (show (0 : Int) < 2147483629 by decide), if_true, Ok_some]
      walk_at "ev"
      simp only [cmT (show (0 : Int) < 2147483647 by decide), if_true, Ok_some]
      have a1 := Int.emod_nonneg (s * 48271 + c % 2147483629) (show (2147483647 : Int) ≠ 0 by decide)
      have a2 := Int.emod_lt_of_pos (s * 48271 + c % 2147483629) (show (0 : Int) < 2147483647 by decide)
      exact ⟨rfl, _, _, rfl, a1, by omega⟩
    · obtain ⟨rfl, s, w, rfl, s1, s2⟩ := hI
      refine SK_nx ?_
      simp only [sRet, iDict]
      walk_at "ev"
      simp only [iPCons, iPNil, iListRev, Ok_bind]
      walk_at "ev"
      refine ok_filterF (items := cs.map D.int) (dp := [(N, cs.map D.int)]) (h1 := h2 ++ [O.dic []]) (fun d => match d with
        | .int c => decide (1000000000000000000 ≤ c)
        | _ => false) id ?_ (depsOk_one (get_old hn)) (by simp; omega) ?_ ?_
      · unfold pSeq
        walk_at "ev"
        simp only [seqSrc_lst (get_old (o' := O.dic []) hn), Option.map_some]
      · intro d hd h3 K3
        obtain ⟨c, _, rfl⟩ := List.mem_map.mp hd
        walk_at "ev"
        simp only [p18, i18, if_true, Ok_some]
        walk_at "ev"
        exact ⟨trivial, Ext.refl _, fun _ => ⟨rfl, Ext.refl _⟩⟩
      · intro h3 K3 hn3
        walk_at "ev"
        simp only [len_push] at hn3
        simp only [lstD_lst hn3, Ok_some]
        obtain ⟨xs, hxs, hxp⟩ : ∃ xs : List Int, (List.map id (List.filter (fun d => match d with
          | .int c => decide (1000000000000000000 ≤ c)
          | _ => false) (cs.map D.int))).reverse = xs.map D.int ∧ ∀ x ∈ xs, 0 < x := by
          refine ⟨(cs.filter fun c => decide (1000000000000000000 ≤ c)).reverse, ?_, fun x hx => ?_⟩
          · rw [List.map_id, List.filter_map, List.map_reverse]
            rfl
          · simp only [List.mem_reverse, List.mem_filter, decide_eq_true_eq] at hx
            omega
        simp only [hxs]
        simp only [keyed, keyD, Option.bind_some, Option.map_some, Ok_some]
        have hb : h2.length < (h2 ++ [O.dic []]).length := by simp
        have ek := K3.get (get_new (h := h2) (o := O.dic []))
        have ek2 := get_old (o' := O.lst (xs.map D.int)) ek
        have e1 : emptyAt (h3 ++ [O.lst (xs.map D.int)]) h2.length = true := by simp only [emptyAt, ek2]
        have e2 : keysOk [((Sum.inr "seed" : Key), D.int s), (.inr "number", .int 0), (.inr "left", .loc h3.length)] = true := dk6 (s := s) (u := 0)
        simp only [e1, e2, List.length_cons, List.length_nil, show decide (0 + 1 + 1 + 1 ≤ 15) = true from rfl, Bool.and_self, if_true, Ok_some]
        have hlt := lt_of_get ek
        refine ⟨h2.length, h3.length, rfl, s, 0, xs, set_at ek2, ?_, s1, s2, by decide, hxp⟩
        rw [set_ne (by omega), get_new]
end K88

namespace K88
open PySem PySem.Spec PyProof.Rows L2 IL
/-! ### dealing: tools -/
abbrev DrawSp (F : Fn) : Prop := ∀ {h : IH} {n m : Nat}, Deal h n m → ∀ (many : Int), 0 < many → many < 2 ^ 62 → Ok (F [.loc n, .int many] h) fun r => ∃ k : Nat, r.1 = .int (k : Nat) ∧ (k : Int) < many ∧ Ext (Dl n m) h r.2 ∧ Deal r.2 n m
theorem Deal.lt {h : IH} {n m : Nat} (d : Deal h n m) : n < h.length ∧ m < h.length := by
  obtain ⟨s, u, xs, e1, e2, _⟩ := d
  exact ⟨lt_of_get e1, lt_of_get e2⟩
theorem Deal.same {h h' : IH} {n m : Nat} (d : Deal h n m) (k : ∀ i, Dl n m i → h'[i]? = h[i]?) : Deal h' n m := by
  obtain ⟨s, u, xs, e1, e2, r⟩ := d
  exact ⟨s, u, xs, by rw [k n (.inl rfl)]; exact e1, by rw [k m (.inr rfl)]; exact e2, r⟩
theorem Deal.push {h : IH} {n m : Nat} (d : Deal h n m) (o : O) : Deal (h ++ [o]) n m := d.keep (Ext.push _ _)
theorem Deal.setNew {h : IH} {n m : Nat} (d : Deal h n m) {i : Nat} {o : O} (hi : ¬ Dl n m i) : Deal (h.set i o) n m := d.same fun j hj => set_ne fun z => hi (by rw [z]; exact hj)
/-- a thing that is no part of the deal stays -/
theorem dl_get {h h' : IH} {n m : Nat} (d : Deal h n m) (k : Ext (Dl n m) h h') {i : Nat} {xs : List D} (e : h[i]? = some (.lst xs)) (hi : i ≠ m) : h'[i]? = some (.lst xs) := by
  refine k.at_ _ _ e fun z => ?_
  rcases z with rfl | rfl
  · obtain ⟨s, u, ys, e1, _⟩ := d
    rw [e] at e1; cases e1
  · exact hi rfl
section
variable {p : ISrc} {t : CT} {vs : List Nat} {te : IE} {env : IEnv} {h h1 : IH} {Q : D × IH → Prop} {items : List D} {dp : Deps} {n m : Nat}
theorem ok_mapD (P : Nat → D → Prop) (e : p env h = some (items, dp, h1)) (dk : depsOk dp h1) (hl : items.length ≤ 1000000) (hdp : ∀ q ∈ dp, ¬ Dl n m q.1) (d0 : Deal h1 n m)
    (step : ∀ i d h', items[i]? = some d → Ext (Dl n m) h1 h' → Deal h' n m → Ok (t.put d (wipeD env vs)) fun env1 => Ok (te env1 h') fun y => P i y.1 ∧ Ext (Dl n m) h' y.2 ∧ Deal y.2 n m)
    (fin : ∀ (ys : List D) (h' : IH), ys.length = items.length → (∀ i y, ys[i]? = some y → P i y) → Ext (Dl n m) h1 h' → Deal h' n m → h'[h1.length]? = some (.lst ys) → Q (.loc h1.length, h')) : Ok (iComp p t vs jYes te env h) Q :=
  ok_mapS (Dl n m) (fun h => Deal h n m) P e dk hl (fun i hi => by
    rcases hi with rfl | rfl
    · exact d0.lt.1
    · exact d0.lt.2) hdp (fun h' h'' d k => d.same k) d0 step fin
end
theorem r62 {k : Nat} (hk : k ≤ 1000000) : (decide (-(2 ^ 62) ≤ ((k : Nat) : Int)) && decide (((k : Nat) : Int) < 2 ^ 62)) = true := by
  have h1 : -(2 ^ 62) ≤ ((k : Nat) : Int) := by omega
  have h2 : ((k : Nat) : Int) < 2 ^ 62 := by omega
  rw [decide_eq_true h1, decide_eq_true h2]
  rfl
theorem range_of {a : IA} {env : IEnv} {h h1 : IH} {k : Nat} (e : a env h = some ([.int (k : Nat)], h1)) (hk : k ≤ 1000000) : pRange1 a env h = some ((List.range k).map fun i => D.int (i : Nat), [], h1) := by
  have e2 : rangeD 0 ((k : Nat) : Int).toNat = (List.range k).map fun i => D.int (i : Nat) := by
    unfold rangeD
    rw [Int.toNat_natCast]
    simp only [Int.zero_add]
  unfold pRange1
  rw [e, Option.bind_some]
  simp only
  rw [if_pos (r62 hk), e2]
theorem range_get {k i : Nat} {d : D} (h : ((List.range k).map fun i => D.int (i : Nat))[i]? = some d) : i < k ∧ d = .int (i : Nat) := by
  rw [List.getElem?_map] at h
  obtain ⟨j, e, rfl⟩ := Option.map_eq_some_iff.mp h
  have hi := (List.getElem?_eq_some_iff.mp e).1
  rw [List.length_range] at hi
  rw [List.getElem?_range hi] at e
  cases e
  exact ⟨hi, rfl⟩
/-! ### words -/
theorem app_cps (a b : Str) : (a ++ b).cps.toList = a.cps.toList ++ b.cps.toList := by
  show (a.cps ++ b.cps).toList = _
  simp
theorem app_len (a b : Str) : (a ++ b).length = a.length + b.length := by
  show (a.cps ++ b.cps).size = _
  simp [Str.length]
theorem strOk_iff (a : Str) : PyData.strOk a = true ↔ ∀ c ∈ a.cps.toList, c < 1114112 := by
  unfold PyData.strOk
  rw [← Array.all_toList, List.all_eq_true]
  simp
theorem strOk_app {a b : Str} (ha : PyData.strOk a = true) (hb : PyData.strOk b = true) : PyData.strOk (a ++ b) = true := by
  rw [strOk_iff] at *
  intro c hc
  rw [app_cps] at hc
  rcases List.mem_append.mp hc with hc | hc
  · exact ha c hc
  · exact hb c hc
/-- the letter of k -/
def lett (k : Nat) : Nat := 97 + k
def abc : Str := "abcdefghijklmnopqrstuvwxyz"
theorem abc_list : abc.cps.toList = (List.range 26).map lett := by decide +kernel
theorem abc_at {h : IH} {k : Nat} (hk : k < 26) : gIx (.str abc) (.int (k : Nat)) h = some (.str ⟨#[lett k]⟩, h) := by
  have hl : abc.length ≤ sizeLine := sz_of (by decide +kernel)
  simp only [gIx, if_pos hl, abc_list, IL.atI_nat]
  rw [List.getElem?_map, List.getElem?_range hk]
  rfl
theorem cut_take {z : Str} {k : Nat} (hk : k ≤ z.length) : (L2.cutS z none (some (k : Int))).cps.toList = z.cps.toList.take k := by
  unfold L2.cutS
  rw [sIx_some]
  show ((z.cps.toList.drop 0).take (min k z.length - 0)) = _
  rw [List.drop_zero, Nat.sub_zero, Nat.min_eq_left hk]
theorem cut_drop {z : Str} {k : Nat} (hk : k ≤ z.length) : (L2.cutS z (some (k : Int)) none).cps.toList = z.cps.toList.drop k := by
  unfold L2.cutS
  rw [sIx_some, Nat.min_eq_left hk]
  show ((z.cps.toList.drop k).take (z.length - k)) = _
  rw [List.take_of_length_le]
  rw [List.length_drop]
  exact Nat.le_refl _
/-- a word: what every word has, but for its own letter and its tail -/
def PW (pre post : List Nat) (turn k : Nat) (w : Str) : Prop := ∃ X : List Nat, w.cps.toList = pre ++ lett ((turn + 7 * k) % 26) :: (post ++ X) ∧ (121 ∈ X ↔ 26 ≤ k) ∧ (∀ c ∈ X, c < 1000) ∧ X.length ≤ 4
theorem PW.ne {pre post : List Nat} {turn j k : Nat} {w : Str} (h1 : PW pre post turn j w) (h2 : PW pre post turn k w) (hj : j < 40) (hk : k < 40) : j = k := by
  obtain ⟨X, e1, a1, _⟩ := h1
  obtain ⟨Y, e2, a2, _⟩ := h2
  rw [e1] at e2
  have e3 := List.append_cancel_left e2
  injection e3 with e4 e5
  have e6 := List.append_cancel_left e5
  subst e6
  unfold lett at e4
  have : 26 ≤ j ↔ 26 ≤ k := a1.symm.trans a2
  omega
theorem PW.nodup {pre post : List Nat} {turn : Nat} {ws : List Str} (hl : ws.length ≤ 40) (h : ∀ k w, ws[k]? = some w → PW pre post turn k w) : ws.Nodup := by
  rw [List.nodup_iff_pairwise_ne, List.pairwise_iff_getElem]
  intro i j hi hj hij e
  have h1 := h i _ (List.getElem?_eq_getElem hi)
  have h2 := h j _ (List.getElem?_eq_getElem hj)
  rw [e] at h1
  have := h1.ne h2 (by omega) (by omega)
  omega
theorem nodup_set {ws : List Str} {k : Nat} {w : Str} (h : ws.Nodup) (hw : w ∉ ws) : (ws.set k w).Nodup := by
  rw [List.nodup_iff_pairwise_ne, List.pairwise_iff_getElem] at *
  intro i j hi hj hij e
  rw [List.length_set] at hi hj
  rw [List.getElem_set, List.getElem_set] at e
  split at e
  · split at e
    · omega
    · exact hw (by rw [e]; exact List.getElem_mem hj)
  · split at e
    · exact hw (by rw [← e]; exact List.getElem_mem hi)
    · exact h i j hi hj hij e
end K88

namespace K88
open PySem PySem.Spec PyProof.Rows L2 IL
local macro_rules | `(tactic| walk_at "ev") => `(tactic| simp (config := { decide := false }) only [iVar, iC, iOp, iCons, iNil, iB, iCall, jVal, jAnd, jOr, jNot, iIf, iNeg, iNot, IL.iTup, IL.iTupP, IL.iLst, iSl, iNo, iPart, sAsg, sExpr, sRet, sRetN, sSkip, sAugN, sAugS, sPar, gNm, gTp, gsCons, gsNil, gSb, one, two, gInt, jYes, CT.put, wipeD, setAll, iListRev, parSet,
  List.getElem?_cons_zero, List.getElem?_cons_succ, List.set_cons_zero, List.set_cons_succ, List.map_cons, List.map_nil, List.cons_append, List.nil_append, List.replicate_succ, List.replicate_zero, List.getLast?_cons_cons, List.getLast?_singleton,
  Option.bind_some, Option.map_some, Ok_some, Ok_bind, Ok_map, if_true, if_false, Bool.false_eq_true, decide_true, decide_false, List.length_cons, List.length_nil, Nat.zero_le, sz1, sz2, sz3, sz4, sz5, sz6, sz7, sz8, sz9, sz10, sz11, sz12, Bool.not_true, Bool.not_false,
  iFld, iMeth, iDicK, gIx_tup, gIx_kt, gIx_sl, atI_0, atI_1, atI_2, atI_3, atI_4, atI_5, atI_m1, gEq_str, gEq_int, gNe_str, gNe_int, gAdd_int, seqD_tup, seqD_kt, gLen_tup, gLen_kt, Int.reduceNeg, len_push,
  le1, le2, le3, le4, le5, le6, le7, le8, le9, le10, le11, lw1, lw2, lw3, lw4, lw5, lw6, lw7, lw8, lw9, lw10, lw11, lw12, lw13, lw14, lw15, lw16, lw17])
/-! ### the words -/
theorem mul_txt {c : Nat} {k : Int} {h : IH} (h0 : 0 ≤ k) (h1 : k < 1000) : gMul (.str ⟨#[c]⟩) (.int k) h = some (.str ⟨(List.replicate k.toNat c).toArray⟩, h) := by
  have e : (decide (0 ≤ k) && (decide (k < 1000) && decide ((⟨#[c]⟩ : Str).length ≤ 1000))) = true := by
    simp only [Bool.and_eq_true, decide_eq_true_eq]
    exact ⟨h0, h1, Nat.le_of_lt (show 1 < 1000 by decide)⟩
  show (if _ then _ else _) = _
  rw [if_pos e]
  have e2 : ∀ n : Nat, (List.replicate n ((⟨#[c]⟩ : Str).cps.toList)).flatten = List.replicate n c := fun n => by
    induction n with
    | zero => rfl
    | succ n ih => rw [List.replicate_succ, List.flatten_cons, ih, List.replicate_succ]; rfl
  rw [e2]
theorem isIn_any {w : Str} {h : IH} (ts : List Str) : gIn (.str w) (.tup (ts.map D.str)) h = some (.bl (decide (w ∈ ts)), h) := by
  simp only [gIn, isIn_tup (h := h) (xs := ts.map D.str) (x := .str w) (by rw [flat_strs]; rfl), inD_strs, Option.map_some]
theorem join_letts : ∀ (ss : List Str), (∀ s ∈ ss, ∃ c : Nat, c < 26 ∧ s = ⟨#[lett c]⟩) → (Str.join "" ss).length = ss.length ∧ ∀ c ∈ (Str.join "" ss).cps.toList, c < 1000
  | [], _ => ⟨rfl, fun c hc => by cases hc⟩
  | [x], h => by
    obtain ⟨c, hc, rfl⟩ := h x (by simp)
    refine ⟨rfl, fun c' hc' => ?_⟩
    have : c' = lett c := by simpa [Str.join] using hc'
    subst this
    unfold lett
    omega
  | x :: y :: r, h => by
    obtain ⟨h1, h2⟩ := join_letts (y :: r) fun s hs => h s (List.mem_cons_of_mem _ hs)
    obtain ⟨c, hc, rfl⟩ := h x (by simp)
    have e : Str.join "" ((⟨#[lett c]⟩ : Str) :: y :: r) = (⟨#[lett c]⟩ : Str) ++ ("" : Str) ++ Str.join "" (y :: r) := rfl
    rw [e]
    refine ⟨?_, fun c' hc' => ?_⟩
    · rw [app_len, app_len, h1]
      show 1 + 0 + (y :: r).length = _
      simp only [List.length_cons]
      omega
    · rw [app_cps, app_cps] at hc'
      rcases List.mem_append.mp hc' with hc' | hc'
      · rcases List.mem_append.mp hc' with hc' | hc'
        · have : c' = lett c := by simpa using hc'
          subst this
          unfold lett
          omega
        · cases hc'
      · exact h2 c' hc'
theorem xs_ : ("x" : Str) = ⟨#[120]⟩ := by decide +kernel
theorem ys_ : ("y" : Str) = ⟨#[121]⟩ := by decide +kernel
theorem qs_ : ("q" : Str) = ⟨#[113]⟩ := by decide +kernel
/-- a word under way -/
def PQ (pre post : List Nat) (c k r : Nat) (w : Str) : Prop := ∃ X : List Nat, w.cps.toList = pre ++ c :: (post ++ X) ∧ (121 ∈ X ↔ 26 ≤ k) ∧ (∀ c ∈ X, c < 1000) ∧ X.length ≤ r
theorem PQ.q {pre post : List Nat} {c k r : Nat} {w : Str} (h : PQ pre post c k r w) : PQ pre post c k (r + 1) (w ++ ("q" : Str)) := by
  obtain ⟨X, e, a, b, l⟩ := h
  refine ⟨X ++ [113], ?_, ?_, ?_, by simp; omega⟩
  · rw [app_cps, e, qs_]
    simp
  · rw [List.mem_append]
    constructor
    · rintro (z | z)
      · exact a.mp z
      · simp at z
    · exact fun z => .inl (a.mpr z)
  · intro x hx
    rcases List.mem_append.mp hx with hx | hx
    · exact b x hx
    · simp at hx; omega
theorem PQ.up {pre post : List Nat} {c k r : Nat} {w : Str} (h : PQ pre post c k r w) : PQ pre post c k (r + 1) w := by
  obtain ⟨X, e, a, b, l⟩ := h
  exact ⟨X, e, a, b, by omega⟩
theorem PQ.len {pre post : List Nat} {c k r : Nat} {w : Str} (h : PQ pre post c k r w) : w.length ≤ pre.length + post.length + r + 1 := by
  obtain ⟨X, e, a, b, l⟩ := h
  have := congrArg List.length e
  simp only [Array.length_toList, List.length_append, List.length_cons] at this
  show w.cps.size ≤ _
  omega
/-- a letter more, or none -/
theorem ok_wordq {pre post : List Nat} {c k r : Nat} {w : Str} {h : IH} {Q : Fl × IEnv × IH → Prop} {e : IE} (ts : List Str) (he : ∀ env h, e env h = some (.tup (ts.map D.str), h)) {a0 a1 a2 a3 a4 a5 a6 a7 a8 a10 : Option D} (hl : w.length ≤ 1000) (hw : PQ pre post c k r w)
    (key : ∀ w1, PQ pre post c k (r + 1) w1 → Q (.nx, [a0, a1, a2, a3, a4, a5, a6, a7, a8, some (.str w1), a10], h)) :
    Ok (sIf (jVal (iOp gIn (iVar 9) e)) (sAsg (iOp gAdd (iVar 9) (iC (.str "q"))) (gNm 9)) sSkip [a0, a1, a2, a3, a4, a5, a6, a7, a8, some (.str w), a10] h) Q := by
  refine ok_if ?_
  simp only [jVal, iOp, iVar, he, List.getElem?_cons_succ, List.getElem?_cons_zero, Option.bind_some, Option.map_some, isIn_any, Ok_some]
  cases hb : decide (w ∈ ts)
  · simp only [Bool.false_eq_true, if_false]
    walk_at "ev"
    exact key _ hw.up
  · simp only [if_true]
    walk_at "ev"
    have lq : ("q" : Str).length = 1 := by rw [qs_]; rfl
    rw [gAdd_str (sz_of (by omega))]
    walk_at "ev"
    exact key _ hw.q
def near : List Str := ["lets", "callx", "payer", "ender", "tom", "nameb", "makes", "gets", "giver", "kinds", "defs", "cases"]
theorem near_ok : ∀ x ∈ near, PyData.strOk x = true := by decide +kernel
/-- the words: forty, all unlike -/
structure Ws (ws : List Str) : Prop where
  len : ws.length = 40
  nd : ws.Nodup
  ok : ∀ w ∈ ws, PyData.strOk w = true
theorem words_spec {t : Nat → Fn} (h24 : DrawSp (t 24)) {h : IH} {n m : Nat} (hd : Deal h n m) : Ok (meant t 25 [.loc n, .int 40] h) fun r => ∃ (L : Nat) (ws : List Str), r.1 = .loc L ∧ L ≠ m ∧ Ws ws ∧ r.2[L]? = some (.lst (ws.map D.str)) ∧ Ext (Dl n m) h r.2 ∧ Deal r.2 n m := by
  refine ok_fun rfl ?_
  unfold b_25
  rw [show (("abcdefghijklmnopqrstuvwxyz" : Str)) = abc from rfl]
  refine ok_seq ?_
  walk_at "ev"
  refine SK_nx (ok_seq ?_)
  simp only [sAsg, Ok_bind]
  refine ok_bm ?_
  walk_at "ev"
  refine ⟨isTy_str, ?_⟩
  obtain ⟨⟨d, h1⟩, ex, k0, rfl, hk0, K1, D1⟩ := h24 hd 5 (by decide) (by decide)
  simp only at K1 D1
  refine ok_mapD (n := n) (m := m) (h1 := h1) (items := (List.range k0).map fun i => D.int (i : Nat)) (dp := []) (fun i y => ∃ c : Nat, c < 26 ∧ y = .str ⟨#[lett c]⟩) (range_of ?_ (by omega)) depsOk_nil (by simp; omega) (fun q hq => by cases hq) D1 ?_ ?_
  · walk_at "ev"
    rw [ex]
    rfl
  · intro i d h' hi K D'
    walk_at "ev"
    refine (h24 D' 26 (by decide) (by decide)).imp ?_
    rintro ⟨d, h2⟩ ⟨k, rfl, hk, K2, D2⟩
    simp only at K2 D2
    rw [abc_at (by omega)]
    walk_at "ev"
    exact ⟨⟨k, by omega, rfl⟩, K2, D2⟩
  · intro ys h' hl1 hP K D' hn
    walk_at "ev"
    obtain ⟨ss, rfl, hss⟩ : ∃ ss : List Str, ys = ss.map D.str ∧ ∀ s ∈ ss, ∃ c : Nat, c < 26 ∧ s = ⟨#[lett c]⟩ := by
      refine ⟨ys.map fun y => match y with
        | .str s => s
        | _ => "", ?_, fun s hs => ?_⟩
      · rw [List.map_map]
        apply List.ext_getElem?
        intro i
        rw [List.getElem?_map]
        cases e : ys[i]? with
        | none => rfl
        | some y =>
          obtain ⟨c, _, rfl⟩ := hP i y e
          rfl
      · obtain ⟨y, hy, rfl⟩ := List.mem_map.mp hs
        obtain ⟨i, hi, e⟩ := List.mem_iff_getElem.mp hy
        obtain ⟨c, hc, e2⟩ := hP i y (by rw [List.getElem?_eq_getElem hi, e])
        subst e2
        exact ⟨c, hc, rfl⟩
    obtain ⟨jl, jc⟩ := join_letts ss hss
    have hsl : ss.length ≤ 5 := by simp at hl1; omega
    have hsum : (ss.map (·.length)).sum = ss.length := by
      have : ∀ l : List Str, (∀ s ∈ l, ∃ c : Nat, c < 26 ∧ s = ⟨#[lett c]⟩) → (l.map (·.length)).sum = l.length := by
        intro l
        induction l with
        | nil => intro _; rfl
        | cons x l ih =>
          intro hl
          obtain ⟨c, _, rfl⟩ := hl x (by simp)
          rw [List.map_cons, List.sum_cons, ih fun s hs => hl s (List.mem_cons_of_mem _ hs), List.length_cons]
          show 1 + l.length = _
          omega
      exact this ss hss
    have ej : gJoin (.str "") [.loc h1.length] h' = some (.str (Str.join "" ss), h') := by
      have hb : (ss.map (·.length)).sum + ss.length * ("" : Str).length ≤ 16777216 := by
        rw [hsum, show ("" : Str).length = 0 from rfl, Nat.mul_zero]
        omega
      simp only [gJoin, one, fJoin, lstD_lst hn, Option.bind_some, strsD_map, if_pos hb, TL.join_eq]
    rw [ej]
    walk_at "ev"
    generalize Str.join "" ss = core at *
    have hcl : core.length ≤ 5 := by omega
    clear ej hsum hP hn jl hss hl1 hsl
    refine SK_nx (ok_seq ?_)
    walk_at "ev"
    simp only [gLen_str (h := h') (a := core) (sz_of (by omega))]
    walk_at "ev"
    refine (h24 D' ((core.length : Int) + 1) (by omega) (by omega)).imp ?_
    rintro ⟨d, h2⟩ ⟨at_, rfl, hat, K2, D2⟩
    simp only at K2 D2
    walk_at "ev"
    refine SK_nx (ok_seq ?_)
    walk_at "ev"
    refine (h24 D2 26 (by decide) (by decide)).imp ?_
    rintro ⟨d, h3⟩ ⟨turn, rfl, htu, K3, D3⟩
    simp only at K3 D3
    walk_at "ev"
    refine SK_nx (ok_seq ?_)
    walk_at "ev"
    have K4 : Ext (Dl n m) h (h3 ++ [O.lst []]) := (((K1.trans K).trans K2).trans K3).trans (Ext.push _ _)
    have D4 := D3.push (.lst [])
    have e4 : (h3 ++ [O.lst []])[h3.length]? = some (.lst []) := get_new
    have hhN : h.length ≤ h3.length := (((K1.trans K).trans K2).trans K3).le
    have hm3 := D3.lt.2
    have hn3 := D3.lt.1
    generalize hN : h3.length = N at *
    generalize h3 ++ [O.lst []] = h4 at *
    have nD : ¬ Dl n m N := fun z => by rcases z with z | z <;> omega
    clear K1 K K2 K3 D1 D' D2 D3 ex hN
    refine SK_nx (ok_seq (ok_for (Ok.of (range_of (k := 40) rfl (by decide)) ?_)))
    have pl : (core.cps.toList.take at_).length + (core.cps.toList.drop at_).length = core.length := by
      rw [List.length_take, List.length_drop, Array.length_toList]
      show min at_ core.length + (core.length - at_) = core.length
      omega
    refine ok_forI (fun i env h' => ∃ (w7 w8 w9 : Option D) (ws : List Str), env = [some (.loc n), some (.int 40), some (.str abc), some (.str core), some (.int (at_ : Nat)), some (.int (turn : Nat)), some (.loc N), w7, w8, w9, none] ∧ Ext (Dl n m) h h' ∧ Deal h' n m ∧ h'[N]? = some (.lst (ws.map D.str)) ∧ ws.length = i ∧
      ∀ (k : Nat) (w : Str), ws[k]? = some w → PW (core.cps.toList.take at_) (core.cps.toList.drop at_) turn k w) (fun _ _ _ _ => depsOk_nil) (fun i d env h' hi hI => ?_) (fun env h' hI => ?_) ⟨none, none, none, [], rfl, K4, D4, e4, rfl, by simp⟩
    · obtain ⟨hi, rfl⟩ := range_get hi
      obtain ⟨w7, w8, w9, ws, rfl, K5, D5, e5, rfl, hP⟩ := hI
      walk_at "ev"
      refine ok_seq ?_
      walk_at "ev"
      have q1 : gMul (.int 7) (.int (ws.length : Nat)) h' = some (.int (7 * (ws.length : Nat)), h') := gMul_int (by decide) (by omega)
      simp only [q1]
      walk_at "ev"
      simp only [cmT (show (0 : Int) < 26 by decide), if_true, Ok_some]
      have q2 : ((turn : Int) + 7 * (ws.length : Nat)) % 26 = (((turn + 7 * ws.length) % 26 : Nat) : Int) := by omega
      simp only [q2, abc_at (h := h') (k := (turn + 7 * ws.length) % 26) (by omega)]
      walk_at "ev"
      generalize hc : lett ((turn + 7 * ws.length) % 26) = c
      have hc1 : c < 1000 := by subst hc; unfold lett; omega
      refine SK_nx (ok_seq ?_)
      walk_at "ev"
      have q3 : gSl (.str core) none (some (at_ : Int)) h' = some (.str (L2.cutS core none (some (at_ : Int))), h') := by simp only [gSl, if_pos (sz_of (show core.length ≤ 1000000 by omega))]
      have q4 : gSl (.str core) (some (at_ : Int)) none h' = some (.str (L2.cutS core (some (at_ : Int)) none), h') := by simp only [gSl, if_pos (sz_of (show core.length ≤ 1000000 by omega))]
      have q5 := cut_take (z := core) (k := at_) (by omega)
      have q6 := cut_drop (z := core) (k := at_) (by omega)
      have l5 : (L2.cutS core none (some (at_ : Int))).length ≤ 5 := by
        have := congrArg List.length q5
        rw [Array.length_toList] at this
        show (L2.cutS core none (some (at_ : Int))).cps.size ≤ 5
        omega
      have l6 : (L2.cutS core (some (at_ : Int)) none).length ≤ 5 := by
        have := congrArg List.length q6
        rw [Array.length_toList] at this
        show (L2.cutS core (some (at_ : Int)) none).cps.size ≤ 5
        omega
      generalize L2.cutS core none (some (at_ : Int)) = A at *
      generalize L2.cutS core (some (at_ : Int)) none = B at *
      have l7 : (⟨#[c]⟩ : Str).length = 1 := rfl
      simp only [q3]
      walk_at "ev"
      rw [gAdd_str (sz_of (by omega))]
      walk_at "ev"
      simp only [q4]
      walk_at "ev"
      rw [gAdd_str (sz_of (by rw [app_len]; omega))]
      walk_at "ev"
      simp only [cmT (show (0 : Int) < 2 by decide), if_true, Ok_some]
      have lr1 : (⟨(List.replicate ((ws.length : Int) % 2).toNat 120).toArray⟩ : Str).length ≤ 1 := by
        show (List.replicate ((ws.length : Int) % 2).toNat 120).toArray.size ≤ 1
        simp
        omega
      have lr2 : (⟨(List.replicate ((ws.length : Int) / 26).toNat 121).toArray⟩ : Str).length ≤ 1 := by
        show (List.replicate ((ws.length : Int) / 26).toNat 121).toArray.size ≤ 1
        simp
        omega
      rw [xs_, mul_txt (by omega) (by omega)]
      walk_at "ev"
      rw [gAdd_str (sz_of (by rw [app_len, app_len]; omega))]
      walk_at "ev"
      simp only [cdT (show (0 : Int) < 26 by decide) (by decide), if_true, Ok_some]
      rw [ys_, mul_txt (by omega) (by omega)]
      walk_at "ev"
      rw [gAdd_str (sz_of (by rw [app_len, app_len, app_len]; omega))]
      walk_at "ev"
      have hw : PQ (core.cps.toList.take at_) (core.cps.toList.drop at_) c ws.length 2 (A ++ (⟨#[c]⟩ : Str) ++ B ++ (⟨(List.replicate ((ws.length : Int) % 2).toNat 120).toArray⟩ : Str) ++ (⟨(List.replicate ((ws.length : Int) / 26).toNat 121).toArray⟩ : Str)) := by
        refine ⟨List.replicate ((ws.length : Int) % 2).toNat 120 ++ List.replicate ((ws.length : Int) / 26).toNat 121, ?_, ?_, ?_, by simp; omega⟩
        · simp only [app_cps, q5, q6, List.append_assoc]
          rfl
        · simp only [List.mem_append, List.mem_replicate]
          constructor
          · rintro (⟨_, z⟩ | ⟨z, _⟩)
            · exact absurd z (by decide)
            · omega
          · exact fun z => .inr ⟨by omega, trivial⟩
        · intro x hx
          simp only [List.mem_append, List.mem_replicate] at hx
          omega
      generalize A ++ (⟨#[c]⟩ : Str) ++ B ++ (⟨(List.replicate ((ws.length : Int) % 2).toNat 120).toArray⟩ : Str) ++ (⟨(List.replicate ((ws.length : Int) / 26).toNat 121).toArray⟩ : Str) = w0 at *
      clear lr1 lr2 l5 l6 l7 q3 q4 q5 q6 q2 q1
      have lq : ("q" : Str).length = 1 := by rw [qs_]; rfl
      have hl0 := hw.len
      refine SK_nx (ok_seq (ok_wordq ["kind", "def", "to", "let", "make", "call"] (fun _ _ => by walk_at "ev") (by omega) hw fun w1 hw1 => ?_))
      have hl1 := hw1.len
      refine SK_nx (ok_seq (ok_wordq ["name", "case", "end", "pay", "get", "give"] (fun _ _ => by walk_at "ev") (by omega) hw1 fun w2 hw2 => ?_))
      refine SK_nx ?_
      simp only [sExpr, Ok_bind]
      refine ok_bm ?_
      walk_at "ev"
      refine ⟨isTy_lst e5, Ok.of (gAppend_lst e5 (sz_lt (by simp; omega))) ?_⟩
      walk_at "ev"
      refine ⟨_, _, _, ws ++ [w2], rfl, K5.setNew _ _ hhN, D5.setNew nD, ?_, by simp, fun k w hk => ?_⟩
      · rw [set_at e5]; simp
      · rcases Nat.lt_or_ge k ws.length with hk' | hk'
        · rw [List.getElem?_append_left hk'] at hk
          exact hP k w hk
        · rw [List.getElem?_append_right hk'] at hk
          have : k = ws.length := by
            have := (List.getElem?_eq_some_iff.mp hk).1
            simp at this
            omega
          subst this
          rw [Nat.sub_self] at hk
          cases hk
          unfold PW
          rw [hc]
          exact hw2
    · obtain ⟨w7, w8, w9, ws, rfl, K5, D5, e5, hl, hP⟩ := hI
      rw [List.length_map, List.length_range] at hl
      have hnd := PW.nodup (by omega) hP
      have hok : ∀ w ∈ ws, PyData.strOk w = true := fun w hw => by
        obtain ⟨i, hi, e⟩ := List.mem_iff_getElem.mp hw
        obtain ⟨X, ew, _, hx, _⟩ := hP i w (by rw [List.getElem?_eq_getElem hi, e])
        rw [strOk_iff]
        intro x hxw
        rw [ew] at hxw
        simp only [List.mem_append, List.mem_cons] at hxw
        rcases hxw with hxw | rfl | hxw | hxw
        · have := jc x (List.mem_of_mem_take hxw); omega
        · unfold lett; omega
        · have := jc x (List.mem_of_mem_drop hxw); omega
        · have := hx x hxw; omega
      clear hP e4
      refine SK_nx (ok_seq ?_)
      walk_at "ev"
      refine SK_nx (ok_seq ?_)
      walk_at "ev"
      have f1 := get_old (o' := O.lst [D.str "makes", D.str "gets", D.str "giver", D.str "kinds", D.str "defs", D.str "cases"]) (get_new (h := h') (o := O.lst [D.str "lets", D.str "callx", D.str "payer", D.str "ender", D.str "tom", D.str "nameb"]))
      have f2 := get_new (h := h' ++ [O.lst [D.str "lets", D.str "callx", D.str "payer", D.str "ender", D.str "tom", D.str "nameb"]]) (o := O.lst [D.str "makes", D.str "gets", D.str "giver", D.str "kinds", D.str "defs", D.str "cases"])
      simp only [len_push] at f2
      rw [gAdd_lst f1 f2 (sz_of (by decide))]
      walk_at "ev"
      generalize hH : h' ++ [O.lst [D.str "lets", D.str "callx", D.str "payer", D.str "ender", D.str "tom", D.str "nameb"]] ++ [O.lst [D.str "makes", D.str "gets", D.str "giver", D.str "kinds", D.str "defs", D.str "cases"]] ++ [O.lst [D.str "lets", D.str "callx", D.str "payer", D.str "ender", D.str "tom", D.str "nameb", D.str "makes", D.str "gets", D.str "giver", D.str "kinds", D.str "defs", D.str "cases"]] = H
      have KH : Keep h' H := by
        rw [← hH]
        exact ((Ext.push _ _).trans (Ext.push _ _)).trans (Ext.push _ _)
      have eN : H[h'.length + 1 + 1]? = some (.lst (near.map D.str)) := by
        rw [← hH]
        have g := get_new (h := h' ++ [O.lst [D.str "lets", D.str "callx", D.str "payer", D.str "ender", D.str "tom", D.str "nameb"]] ++ [O.lst [D.str "makes", D.str "gets", D.str "giver", D.str "kinds", D.str "defs", D.str "cases"]]) (o := O.lst (near.map D.str))
        simp only [len_push] at g
        exact g
      clear f1 f2 hH
      have eW := KH.get e5
      have DH := D5.keep KH
      have K6 : Ext (Dl n m) h H := K5.trans (Ext.keep KH)
      have hlt := lt_of_get e5
      have hlm := D5.lt
      have hNN : h'.length < h'.length + 1 + 1 := by omega
      generalize h'.length + 1 + 1 = NN at *
      clear K5 D5 e5
      refine SK_nx (ok_seq ?_)
      walk_at "ev"
      refine (h24 DH 12 (by decide) (by decide)).imp ?_
      rintro ⟨d, h6⟩ ⟨k1, rfl, hk1, K7, D7⟩
      simp only at K7 D7
      have eN7 := dl_get DH K7 eN (by omega)
      have eW7 := dl_get DH K7 eW (by omega)
      have hk1' : k1 < near.length := by show k1 < 12; omega
      have g1 : gIx (.loc NN) (.int (k1 : Nat)) h6 = some (.str near[k1], h6) := by
        rw [gIx_lst eN7, IL.atI_nat, List.getElem?_map, List.getElem?_eq_getElem hk1']
        rfl
      rw [g1]
      walk_at "ev"
      have hx := near_ok near[k1] (List.getElem_mem hk1')
      generalize near[k1] = x at *
      clear g1
      have K8 := K6.trans K7
      clear K6 K7 eN eN7 eW
      refine SK_nx (ok_seq (ok_if ?_))
      walk_at "ev"
      refine (h24 D7 3 (by decide) (by decide)).imp ?_
      rintro ⟨d, h7⟩ ⟨k2, rfl, hk2, K9, D9⟩
      simp only at K9 D9
      have eW9 := dl_get D7 K9 eW7 (by omega)
      have K10 := K8.trans K9
      clear K8 K9 D7 eW7
      walk_at "ev"
      have done : ∀ {env : IEnv} {h8 : IH}, h8 = h7 → env[6]? = some (some (.loc N)) → SK (sRet (iVar 6)) (RK fun r => ∃ (L : Nat) (ws : List Str), r.1 = .loc L ∧ L ≠ m ∧ Ws ws ∧ r.2[L]? = some (.lst (ws.map D.str)) ∧ Ext (Dl n m) h r.2 ∧ Deal r.2 n m) (.nx, env, h8) := by
        intro env h8 e8 e6
        subst e8
        refine SK_nx ?_
        simp only [sRet, iVar, e6, Option.bind_some, Option.map_some, Ok_bind, Ok_some]
        exact ⟨N, ws, rfl, by omega, ⟨hl, hnd, hok⟩, eW9, K10, D9⟩
      have gn : gNotIn (.str x) (.loc N) h7 = some (.bl (!decide (x ∈ ws)), h7) := by
        simp only [gNotIn, isIn_lst eW9 (x := .str x) (by rw [flat_strs]; rfl), inD_strs, Option.map_some]
      by_cases hb : k2 = 1 ∧ x ∉ ws
      · have h1' : decide ((k2 : Int) = 1) = true := decide_eq_true (by omega)
        simp only [h1', if_true, gn, Option.bind_some, decide_eq_false hb.2, Bool.not_false, Ok_some]
        refine (h24 D9 40 (by decide) (by decide)).imp ?_
        rintro ⟨d, h8⟩ ⟨k3, rfl, hk3, K11, D11⟩
        simp only at K11 D11
        have eW11 := dl_get D9 K11 eW9 (by omega)
        have hk3' : k3 < (ws.map D.str).length := by rw [List.length_map]; omega
        have gp : IL.putAt (.loc N) (.int (k3 : Nat)) (.str x) h8 = some (h8.set N (.lst ((ws.set k3 x).map D.str))) := by
          have ei : ixN (ws.map D.str).length ((k3 : Nat) : Int) = some k3 := by
            unfold ixN
            rw [if_pos (by omega), if_pos (by omega)]
            rfl
          simp only [IL.putAt, eW11, ei, Option.map_some, List.map_set]
        rw [gp]
        refine Ok_some.mpr (SK_nx ?_)
        simp only [sRet, iVar, List.getElem?_cons_succ, List.getElem?_cons_zero, Option.bind_some, Option.map_some, Ok_bind, Ok_some]
        refine ⟨N, ws.set k3 x, rfl, by omega, ⟨by rw [List.length_set]; exact hl, nodup_set hnd hb.2, fun w hw => ?_⟩, set_at eW11, (K10.trans K11).setNew _ _ hhN, D11.setNew nD⟩
        rcases List.mem_or_eq_of_mem_set hw with hw | rfl
        · exact hok w hw
        · exact hx
      · have hf : ∀ Q : Bool × IH → Prop, Q (false, h7) → Ok (if decide ((k2 : Int) = 1) = true then (gNotIn (.str x) (.loc N) h7).bind fun x => match x.1 with
            | .bl b => some (b, x.2)
            | _ => none else some (false, h7)) Q := fun Q q => by
          by_cases h1' : k2 = 1
          · have hm : x ∈ ws := by
              by_cases z : x ∈ ws
              · exact z
              · exact absurd ⟨h1', z⟩ hb
            simp only [show decide ((k2 : Int) = 1) = true from decide_eq_true (by omega), if_true, gn, decide_eq_true hm, Bool.not_true, Option.bind_some]
            exact Ok_some.mpr q
          · simp only [show decide ((k2 : Int) = 1) = false from decide_eq_false (by omega), Bool.false_eq_true, if_false]
            exact Ok_some.mpr q
        refine hf _ ?_
        simp only [Bool.false_eq_true, if_false]
        exact done rfl rfl
end K88

namespace K88
open PySem PySem.Spec PyProof.Rows L2 IL
local macro_rules | `(tactic| walk_at "ev") => `(tactic| simp (config := { decide := false }) only [iVar, iC, iOp, iCons, iNil, iB, iCall, jVal, jAnd, jOr, jNot, iIf, iNeg, iNot, IL.iTup, IL.iTupP, IL.iLst, iSl, iNo, iPart, sAsg, sExpr, sRet, sRetN, sSkip, sAugN, sAugS, sPar, gNm, gTp, gsCons, gsNil, gSb, one, two, gInt, jYes, CT.put, wipeD, setAll, iListRev, parSet,
  List.getElem?_cons_zero, List.getElem?_cons_succ, List.set_cons_zero, List.set_cons_succ, List.map_cons, List.map_nil, List.cons_append, List.nil_append, List.replicate_succ, List.replicate_zero, List.getLast?_cons_cons, List.getLast?_singleton,
  Option.bind_some, Option.map_some, Ok_some, Ok_bind, Ok_map, if_true, if_false, Bool.false_eq_true, decide_true, decide_false, List.length_cons, List.length_nil, Nat.zero_le, sz1, sz2, sz3, sz4, sz5, sz6, sz7, sz8, sz9, sz10, sz11, sz12, Bool.not_true, Bool.not_false,
  iFld, iMeth, iDicK, gIx_tup, gIx_kt, gIx_sl, atI_0, atI_1, atI_2, atI_3, atI_4, atI_5, atI_m1, gEq_str, gEq_int, gNe_str, gNe_int, gAdd_int, seqD_tup, seqD_kt, gLen_tup, gLen_kt, Int.reduceNeg, len_push,
  le1, le2, le3, le4, le5, le6, le7, le8, le9, le10, le11, lw1, lw2, lw3, lw4, lw5, lw6, lw7, lw8, lw9, lw10, lw11, lw12, lw13, lw14, lw15, lw16, lw17])
/-! ### the kinds -/
abbrev KD := List (Str × List (Str × List Str))
def eMk (q : Str × List Str) : D := .tup [.str q.1, eS q.2]
def eKi (q : Str × List (Str × List Str)) : D := .tup [.str q.1, .tup (q.2.map eMk)]
structure KEach (vs : List Str) (k : Str × List (Str × List Str)) : Prop where
  ne : k.2 ≠ []
  len : k.2.length ≤ 3
  fl : ∀ q ∈ k.2, q.2.length ≤ 2
  fin : ∀ q ∈ k.2, ∀ f ∈ q.2, f ∈ vs
structure Kds (ks : KD) (ws : List Str) : Prop where
  n1 : 1 ≤ ks.length
  n3 : ks.length ≤ 3
  names : ks.map (·.1) = ws.take ks.length
  makers : ∃ r, r ≤ 9 ∧ (ks.flatMap fun k => k.2.map (·.1)) = (ws.drop 4).take r
  each : ∀ k ∈ ks, KEach (ws.take ks.length) k
theorem Ws.open {ws : List Str} (h : Ws ws) : ∃ w0 w1 w2 w3 w4 w5 w6 w7 r, ws = w0 :: w1 :: w2 :: w3 :: w4 :: w5 :: w6 :: w7 :: r := by
  have := h.len
  rcases ws with _ | ⟨w0, _ | ⟨w1, _ | ⟨w2, _ | ⟨w3, _ | ⟨w4, _ | ⟨w5, _ | ⟨w6, _ | ⟨w7, r⟩⟩⟩⟩⟩⟩⟩⟩ <;> first
    | (simp at this; done)
    | exact ⟨_, _, _, _, _, _, _, _, _, rfl⟩
theorem kds0 {w0 w1 w2 w3 w4 w5 w6 w7 : Str} {r : List Str} : Kds [(w0, [(w4, []), (w5, [w0])])] (w0 :: w1 :: w2 :: w3 :: w4 :: w5 :: w6 :: w7 :: r) :=
  ⟨by simp, by simp, rfl, ⟨2, by decide, rfl⟩, by intro k hk; simp at hk; subst hk; exact ⟨by simp, by simp, by simp, by simp⟩⟩
theorem kds1 {w0 w1 w2 w3 w4 w5 w6 w7 : Str} {r : List Str} : Kds [(w0, [(w4, []), (w5, [w0]), (w6, [w0])])] (w0 :: w1 :: w2 :: w3 :: w4 :: w5 :: w6 :: w7 :: r) :=
  ⟨by simp, by simp, rfl, ⟨3, by decide, rfl⟩, by intro k hk; simp at hk; subst hk; exact ⟨by simp, by simp, by simp, by simp⟩⟩
theorem kds2 {w0 w1 w2 w3 w4 w5 w6 w7 : Str} {r : List Str} : Kds [(w0, [(w4, []), (w5, [])]), (w1, [(w6, []), (w7, [w0, w1])])] (w0 :: w1 :: w2 :: w3 :: w4 :: w5 :: w6 :: w7 :: r) :=
  ⟨by simp, by simp, rfl, ⟨4, by decide, rfl⟩, by intro k hk; simp at hk; rcases hk with rfl | rfl <;> exact ⟨by simp, by simp, by simp, by simp⟩⟩
theorem kds3 {w0 w1 w2 w3 w4 w5 w6 w7 : Str} {r : List Str} : Kds [(w0, [(w4, []), (w5, [w0, w0])])] (w0 :: w1 :: w2 :: w3 :: w4 :: w5 :: w6 :: w7 :: r) :=
  ⟨by simp, by simp, rfl, ⟨2, by decide, rfl⟩, by intro k hk; simp at hk; subst hk; exact ⟨by simp, by simp, by simp, by simp⟩⟩
theorem kds4 {w0 w1 w2 w3 w4 w5 w6 w7 : Str} {r : List Str} : Kds [(w0, [(w4, []), (w5, [w1])]), (w1, [(w6, [w0])])] (w0 :: w1 :: w2 :: w3 :: w4 :: w5 :: w6 :: w7 :: r) :=
  ⟨by simp, by simp, rfl, ⟨3, by decide, rfl⟩, by intro k hk; simp at hk; rcases hk with rfl | rfl <;> exact ⟨by simp, by simp, by simp, by simp⟩⟩
theorem strs_of {R : Str → Prop} {ys : List D} (h : ∀ (i : Nat) (y : D), ys[i]? = some y → ∃ w, R w ∧ y = .str w) : ∃ fs : List Str, ys = fs.map D.str ∧ ∀ f ∈ fs, R f := by
  induction ys with
  | nil => exact ⟨[], rfl, by simp⟩
  | cons y ys ih =>
    obtain ⟨w, hw, rfl⟩ := h 0 y rfl
    obtain ⟨fs, rfl, hf⟩ := ih fun i y e => h (i + 1) y (by simpa using e)
    exact ⟨w :: fs, rfl, fun f hm => by
      rcases List.mem_cons.mp hm with rfl | hm
      · exact hw
      · exact hf f hm⟩
theorem cut4a {xs : List D} : IL.cutD xs (some 4) none = xs.drop 4 := cutD_drop (k := 4)
theorem cut4b {xs : List D} : IL.cutD xs none (some 4) = xs.take 4 := cutD_take (k := 4)
theorem kinds_spec {t : Nat → Fn} (h24 : DrawSp (t 24)) {h : IH} {n m W : Nat} (hd : Deal h n m) {ws : List Str} (hW : Ws ws) (eW : h[W]? = some (.lst (ws.map D.str))) (hWm : W ≠ m) :
    Ok (meant t 26 [.loc n, .loc W] h) fun r => ∃ ks, r.1 = .kt (ks.map eKi) ∧ Kds ks ws ∧ Ext (Dl n m) h r.2 ∧ Deal r.2 n m := by
  refine ok_fun rfl ?_
  unfold b_26
  refine ok_seq ?_
  walk_at "ev"
  refine (h24 hd 8 (by decide) (by decide)).imp ?_
  rintro ⟨d, h1⟩ ⟨form, rfl, hform, K1, D1⟩
  simp only at K1 D1
  replace eW := dl_get hd K1 eW hWm
  clear hd
  walk_at "ev"
  have g : ∀ (i : Nat) (w : Str), ws[i]? = some w → gIx (.loc W) (.int (i : Nat)) h1 = some (.str w, h1) := fun i w e => by
    rw [gIx_lst eW, IL.atI_nat, List.getElem?_map, e]; rfl
  obtain ⟨w0, w1, w2, w3, w4, w5, w6, w7, r, ew⟩ := hW.open
  have g0 := g 0 w0 (by rw [ew]; rfl)
  have g1 := g 1 w1 (by rw [ew]; rfl)
  refine SK_nx (ok_seq ?_)
  walk_at "ev"
  rw [show gIx (.loc W) (.int 0) h1 = some (.str w0, h1) from g0]
  walk_at "ev"
  rw [show gIx (.loc W) (.int 1) h1 = some (.str w1, h1) from g1]
  walk_at "ev"
  refine SK_nx (ok_seq ?_)
  walk_at "ev"
  rw [gSl_lst eW]
  walk_at "ev"
  rw [gSl_lst (get_old eW)]
  walk_at "ev"
  have f1 := get_old (o' := O.lst (IL.cutD (ws.map D.str) none (some 4))) (get_new (h := h1) (o := O.lst (IL.cutD (ws.map D.str) (some 4) none)))
  have f2 := get_new (h := h1 ++ [O.lst (IL.cutD (ws.map D.str) (some 4) none)]) (o := O.lst (IL.cutD (ws.map D.str) none (some 4)))
  simp only [len_push] at f2
  have hwl := hW.len
  rw [gAdd_lst f1 f2 (sz_of (by rw [cut4a, cut4b]; simp; omega))]
  walk_at "ev"
  generalize hH : h1 ++ [O.lst (IL.cutD (ws.map D.str) (some 4) none)] ++ [O.lst (IL.cutD (ws.map D.str) none (some 4))] ++ [O.lst (IL.cutD (ws.map D.str) (some 4) none ++ IL.cutD (ws.map D.str) none (some 4))] = H
  have KH : Keep h1 H := by
    rw [← hH]
    exact ((Ext.push _ _).trans (Ext.push _ _)).trans (Ext.push _ _)
  have eM : H[h1.length + 1 + 1]? = some (.lst ((ws.drop 4 ++ ws.take 4).map D.str)) := by
    rw [← hH]
    have g := get_new (h := h1 ++ [O.lst (IL.cutD (ws.map D.str) (some 4) none)] ++ [O.lst (IL.cutD (ws.map D.str) none (some 4))]) (o := O.lst (IL.cutD (ws.map D.str) (some 4) none ++ IL.cutD (ws.map D.str) none (some 4)))
    simp only [len_push] at g
    rw [g, cut4a, cut4b, ← List.map_drop, ← List.map_take, List.map_append]
  clear f1 f2 hH g g0 g1
  have eW2 := KH.get eW
  have DH := D1.keep KH
  have K2 : Ext (Dl n m) h H := K1.trans (Ext.keep KH)
  have hlm := D1.lt
  have hMM : h1.length < h1.length + 1 + 1 := by omega
  generalize h1.length + 1 + 1 = M at *
  have nMm : M ≠ m := by omega
  clear K1 D1 eW KH hlm
  have gm : ∀ (i : Nat) (w : Str), (ws.drop 4)[i]? = some w → gIx (.loc M) (.int (i : Nat)) H = some (.str w, H) := fun i w e => by
    have hlt := (List.getElem?_eq_some_iff.mp e).1
    rw [gIx_lst eM, IL.atI_nat, List.getElem?_map, List.getElem?_append_left hlt, e]; rfl
  have g4 : gIx (.loc M) (.int 0) H = some (.str w4, H) := gm 0 w4 (by rw [ew]; rfl)
  have g5 : gIx (.loc M) (.int 1) H = some (.str w5, H) := gm 1 w5 (by rw [ew]; rfl)
  have g6 : gIx (.loc M) (.int 2) H = some (.str w6, H) := gm 2 w6 (by rw [ew]; rfl)
  have g7 : gIx (.loc M) (.int 3) H = some (.str w7, H) := gm 3 w7 (by rw [ew]; rfl)
  refine SK_nx (ok_seq (ok_if ?_))
  walk_at "ev"
  by_cases c0 : form = 0
  · subst c0
    simp only [show decide (((0 : Nat) : Int) = 0) = true from rfl, if_true]
    rw [g4]
    walk_at "ev"
    rw [g5]
    walk_at "ev"
    exact ⟨_, rfl, by rw [ew]; exact kds0, K2, DH⟩
  simp only [show decide ((form : Int) = 0) = false from decide_eq_false (by omega), Bool.false_eq_true, if_false]
  refine SK_nx (ok_seq (ok_if ?_))
  walk_at "ev"
  by_cases c1 : form = 1
  · subst c1
    simp only [show decide (((1 : Nat) : Int) = 1) = true from rfl, if_true]
    rw [g4]
    walk_at "ev"
    rw [g5]
    walk_at "ev"
    rw [g6]
    walk_at "ev"
    exact ⟨_, rfl, by rw [ew]; exact kds1, K2, DH⟩
  simp only [show decide ((form : Int) = 1) = false from decide_eq_false (by omega), Bool.false_eq_true, if_false]
  refine SK_nx (ok_seq (ok_if ?_))
  walk_at "ev"
  by_cases c2 : form = 2
  · subst c2
    simp only [show decide (((2 : Nat) : Int) = 2) = true from rfl, if_true]
    rw [g4]
    walk_at "ev"
    rw [g5]
    walk_at "ev"
    rw [g6]
    walk_at "ev"
    rw [g7]
    walk_at "ev"
    exact ⟨_, rfl, by rw [ew]; exact kds2, K2, DH⟩
  simp only [show decide ((form : Int) = 2) = false from decide_eq_false (by omega), Bool.false_eq_true, if_false]
  refine SK_nx (ok_seq (ok_if ?_))
  walk_at "ev"
  by_cases c3 : form = 3
  · subst c3
    simp only [show decide (((3 : Nat) : Int) = 3) = true from rfl, if_true]
    rw [g4]
    walk_at "ev"
    rw [g5]
    walk_at "ev"
    exact ⟨_, rfl, by rw [ew]; exact kds3, K2, DH⟩
  simp only [show decide ((form : Int) = 3) = false from decide_eq_false (by omega), Bool.false_eq_true, if_false]
  refine SK_nx (ok_seq (ok_if ?_))
  walk_at "ev"
  by_cases c4 : form = 4
  · subst c4
    simp only [show decide (((4 : Nat) : Int) = 4) = true from rfl, if_true]
    rw [g4]
    walk_at "ev"
    rw [g5]
    walk_at "ev"
    rw [g6]
    walk_at "ev"
    exact ⟨_, rfl, by rw [ew]; exact kds4, K2, DH⟩
  simp only [show decide ((form : Int) = 4) = false from decide_eq_false (by omega), Bool.false_eq_true, if_false]
  clear g4 g5 g6 g7 ew c0 c1 c2 c3 c4
  refine SK_nx (ok_seq ?_)
  walk_at "ev"
  refine SK_nx (ok_seq ?_)
  walk_at "ev"
  have D3 := DH.push (.lst [])
  have eF := get_new (h := H) (o := O.lst [])
  have eW3 := get_old (o' := O.lst []) eW2
  have eM3 := get_old (o' := O.lst []) eM
  have K3 : Ext (Dl n m) h (H ++ [O.lst []]) := K2.trans (Ext.push _ _)
  have hFm : H.length ≠ m := fun z => by have := DH.lt.2; omega
  have hFn : H.length ≠ n := fun z => by have := DH.lt.1; omega
  have hFW : H.length ≠ W := fun z => by have := lt_of_get eW2; omega
  have hFM : H.length ≠ M := fun z => by have := lt_of_get eM; omega
  have hFh : h.length ≤ H.length := K2.le
  generalize H.length = F at *
  generalize H ++ [O.lst []] = H3 at *
  clear eW2 eM DH K2 gm
  refine (h24 D3 3 (by decide) (by decide)).imp ?_
  rintro ⟨d, h4⟩ ⟨many', rfl, hmany, K4, D4⟩
  simp only at K4 D4
  have eW4 := dl_get D3 K4 eW3 hWm
  have eM4 := dl_get D3 K4 eM3 nMm
  have eF4 := dl_get D3 K4 eF hFm
  replace K4 := K3.trans K4
  clear K3 D3 eW3 eM3 eF
  walk_at "ev"
  obtain ⟨many, hmn⟩ : ∃ many : Nat, many = 1 + many' := ⟨_, rfl⟩
  have em : (1 : Int) + (many' : Int) = (many : Nat) := by omega
  simp only [em]
  have hm1 : 1 ≤ many := by omega
  have hm3 : many ≤ 3 := by omega
  clear em hmn hmany
  refine SK_nx (ok_seq ?_)
  walk_at "ev"
  refine SK_nx (ok_seq (ok_for (Ok.of (range_of (k := many) (h1 := h4) (by walk_at "ev") (by omega)) ?_)))
  refine ok_forI (fun i env h' => ∃ (made : Nat) (w9 w10 w11 w12 : Option D) (ks : KD), env = [some (.loc n), some (.loc W), some (.int (form : Nat)), some (.str w0), some (.str w1), some (.loc M), some (.loc F), some (.int (many : Nat)), some (.int (made : Nat)), w9, w10, w11, w12, none] ∧
      Ext (Dl n m) h h' ∧ Deal h' n m ∧ h'[W]? = some (.lst (ws.map D.str)) ∧ h'[M]? = some (.lst ((ws.drop 4 ++ ws.take 4).map D.str)) ∧ h'[F]? = some (.lst (ks.map eKi)) ∧ ks.length = i ∧ ks.map (·.1) = ws.take i ∧ (ks.flatMap fun k => k.2.map (·.1)) = (ws.drop 4).take made ∧ made ≤ 3 * i ∧ ∀ k ∈ ks, KEach (ws.take many) k)
    (fun _ _ _ _ => depsOk_nil) (fun i d env h' hi hI => ?_) (fun env h' hI => ?_) ⟨0, none, none, none, none, [], rfl, K4, D4, eW4, eM4, eF4, rfl, rfl, by simp, by omega, by simp⟩
  · obtain ⟨hi, rfl⟩ := range_get hi
    obtain ⟨made0, w9, w10, w11, w12, ks, rfl, K5, D5, eW5, eM5, eF5, hkl, hkn, hkf, hmd, hke⟩ := hI
    walk_at "ev"
    refine ok_seq ?_
    walk_at "ev"
    have D6 := D5.push (.lst [])
    have eL6 := get_new (h := h') (o := O.lst [])
    have eW6 := get_old (o' := O.lst []) eW5
    have eM6 := get_old (o' := O.lst []) eM5
    have eF6 := get_old (o' := O.lst []) eF5
    have K6 : Ext (Dl n m) h (h' ++ [O.lst []]) := K5.trans (Ext.push _ _)
    have hLm : h'.length ≠ m := fun z => by have := D5.lt.2; omega
    have hLn : h'.length ≠ n := fun z => by have := D5.lt.1; omega
    have hLW : h'.length ≠ W := fun z => by have := lt_of_get eW5; omega
    have hLM : h'.length ≠ M := fun z => by have := lt_of_get eM5; omega
    have hLF : h'.length ≠ F := fun z => by have := lt_of_get eF5; omega
    have hLh : h.length ≤ h'.length := K5.le
    generalize h'.length = L at *
    generalize h' ++ [O.lst []] = H6 at *
    clear eW5 eM5 eF5 D5 K5
    refine SK_nx (ok_seq (ok_for ?_))
    obtain ⟨⟨d, h7⟩, ex, k0, rfl, hk0, K7, D7⟩ := h24 D6 3 (by decide) (by decide)
    simp only at K7 D7
    have eL7 := dl_get D6 K7 eL6 hLm
    have eW7 := dl_get D6 K7 eW6 hWm
    have eM7 := dl_get D6 K7 eM6 nMm
    have eF7 := dl_get D6 K7 eF6 hFm
    replace K7 := K6.trans K7
    clear K6 D6 eL6 eW6 eM6 eF6
    refine Ok.of (range_of (k := 1 + k0) (h1 := h7) ?_ (by omega)) ?_
    · walk_at "ev"
      rw [ex]
      simp only [Option.bind_some, gAdd_int]
      rfl
    refine ok_forI (fun j env h2 => ∃ (w11 w12 : Option D) (ms : List (Str × List Str)), env = [some (.loc n), some (.loc W), some (.int (form : Nat)), some (.str w0), some (.str w1), some (.loc M), some (.loc F), some (.int (many : Nat)), some (.int ((made0 + j : Nat) : Nat)), some (.int (ks.length : Nat)), some (.loc L), w11, w12, none] ∧
        Ext (Dl n m) h h2 ∧ Deal h2 n m ∧ h2[W]? = some (.lst (ws.map D.str)) ∧ h2[M]? = some (.lst ((ws.drop 4 ++ ws.take 4).map D.str)) ∧ h2[F]? = some (.lst (ks.map eKi)) ∧ h2[L]? = some (.lst (ms.map eMk)) ∧ ms.length = j ∧ (ks.flatMap fun k => k.2.map (·.1)) ++ ms.map (·.1) = (ws.drop 4).take (made0 + j) ∧ ∀ q ∈ ms, q.2.length ≤ 2 ∧ ∀ f ∈ q.2, f ∈ ws.take many)
      (fun _ _ _ _ => depsOk_nil) (fun j d env h2 hj hI => ?_) (fun env h2 hI => ?_) ⟨w11, w12, [], by rw [Nat.add_zero, hkl], K7, D7, eW7, eM7, eF7, eL7, rfl, by simpa using hkf, by simp⟩
    · obtain ⟨hj, rfl⟩ := range_get hj
      obtain ⟨w11, w12, ms, rfl, K8, D8, eW8, eM8, eF8, eL8, hml, hmf, hme⟩ := hI
      walk_at "ev"
      refine ok_seq ?_
      simp only [sAsg, Ok_bind]
      obtain ⟨⟨d, h9⟩, ex9, k1, rfl, hk1, K9, D9⟩ := h24 D8 3 (by decide) (by decide)
      simp only at K9 D9
      have eL9 := dl_get D8 K9 eL8 hLm
      have eW9 := dl_get D8 K9 eW8 hWm
      have eM9 := dl_get D8 K9 eM8 nMm
      have eF9 := dl_get D8 K9 eF8 hFm
      replace K9 := K8.trans K9
      clear K8 D8 eL8 eW8 eM8 eF8
      obtain ⟨k2, hk2, eq2⟩ : ∃ k2 : Nat, k2 ≤ 2 ∧ ∀ g : IH, (gIntOf [.bl (decide ((0 : Int) < (ks.length : Int) + (j : Int)))] g).bind (fun x => gMul (.int (k1 : Nat)) x.1 x.2) = some (.int (k2 : Nat), g) := by
        cases hb : decide ((0 : Int) < (ks.length : Int) + (j : Int))
        · refine ⟨0, by omega, fun g => ?_⟩
          show gMul (.int (k1 : Nat)) (.int 0) g = _
          rw [gMul_int (by omega) (by decide), Int.mul_zero]
          rfl
        · refine ⟨k1, by omega, fun g => ?_⟩
          show gMul (.int (k1 : Nat)) (.int 1) g = _
          rw [gMul_int (by omega) (by decide), Int.mul_one]
      refine ok_mapD (n := n) (m := m) (h1 := h9) (items := (List.range k2).map fun i => D.int (i : Nat)) (dp := []) (fun i y => ∃ w, w ∈ ws.take many ∧ y = .str w) (range_of (k := k2) (h1 := h9) ?_ (by omega)) depsOk_nil (by simp; omega) (fun q hq => by cases hq) D9 ?_ ?_
      · walk_at "ev"
        rw [ex9]
        simp only [Option.bind_some, gInt, if_true, hkl]
        rw [hkl] at eq2
        rw [eq2]
        rfl
      · intro i' d h' hi' Kx Dx
        walk_at "ev"
        have eWx := dl_get D9 Kx eW9 hWm
        refine (h24 Dx (many : Nat) (by omega) (by omega)).imp ?_
        rintro ⟨d, h10⟩ ⟨k3, rfl, hk3, K10, D10⟩
        simp only at K10 D10
        have eW10 := dl_get Dx K10 eWx hWm
        have hk3' : k3 < ws.length := by omega
        have gw : gIx (.loc W) (.int (k3 : Nat)) h10 = some (.str ws[k3], h10) := by
          rw [gIx_lst eW10, IL.atI_nat, List.getElem?_map, List.getElem?_eq_getElem hk3']; rfl
        rw [gw]
        refine Ok_some.mpr ⟨⟨ws[k3], ?_, rfl⟩, K10, D10⟩
        rw [List.mem_iff_getElem]
        exact ⟨k3, by rw [List.length_take]; omega, by rw [List.getElem_take]⟩
      · intro ys h10 hyl hP K10 D10 hn10
        obtain ⟨fs, rfl, hfs⟩ := strs_of hP
        have hfl : fs.length ≤ 2 := by simp at hyl; omega
        have eL10 := dl_get D9 K10 eL9 hLm
        have eW10 := dl_get D9 K10 eW9 hWm
        have eM10 := dl_get D9 K10 eM9 nMm
        have eF10 := dl_get D9 K10 eF9 hFm
        replace K10 := K9.trans K10
        clear K9 D9 eL9 eW9 eM9 eF9
        walk_at "ev"
        refine SK_nx (ok_seq ?_)
        simp only [sExpr, Ok_bind]
        refine ok_bm ?_
        walk_at "ev"
        refine ⟨isTy_lst eL10, ?_⟩
        have hmd' : made0 + j < (ws.drop 4).length := by rw [List.length_drop]; omega
        have gmm : gIx (.loc M) (.int ((made0 + j : Nat) : Nat)) h10 = some (.str (ws.drop 4)[made0 + j], h10) := by
          rw [gIx_lst eM10, IL.atI_nat, List.getElem?_map, List.getElem?_append_left hmd', List.getElem?_eq_getElem hmd']; rfl
        rw [gmm]
        walk_at "ev"
        simp only [gTupOf_lst hn10]
        walk_at "ev"
        refine Ok.of (gAppend_lst eL10 (sz_lt (by simp; omega))) ?_
        refine SK_nx ?_
        walk_at "ev"
        have eadd : (((made0 + j : Nat) : Int) + 1) = ((made0 + (j + 1) : Nat) : Int) := by omega
        simp only [eadd]
        have nLD : ¬ Dl n m L := fun z => by rcases z with z | z <;> omega
        refine ⟨_, _, ms ++ [((ws.drop 4)[made0 + j], fs)], rfl, K10.setNew _ _ hLh, D10.setNew nLD, by rw [set_ne hLW]; exact eW10, by rw [set_ne hLM]; exact eM10, by rw [set_ne hLF]; exact eF10, ?_, by simp [hml], ?_, ?_⟩
        · rw [set_at eL10]
          simp [eMk, eS]
        · rw [List.map_append, ← List.append_assoc, hmf, ← Nat.add_assoc, List.take_succ, List.getElem?_eq_getElem hmd']
          rfl
        · intro q hq
          rcases List.mem_append.mp hq with hq | hq
          · exact hme q hq
          · rw [List.mem_singleton] at hq
            subst hq
            exact ⟨hfl, hfs⟩
    · obtain ⟨w11, w12, ms, rfl, K8, D8, eW8, eM8, eF8, eL8, hml, hmf, hme⟩ := hI
      rw [List.length_map, List.length_range] at hml hmf
      refine SK_nx ?_
      simp only [sExpr, Ok_bind]
      refine ok_bm ?_
      walk_at "ev"
      refine ⟨isTy_lst eF8, ?_⟩
      have hkw : ks.length < ws.length := by omega
      have gw : gIx (.loc W) (.int (ks.length : Nat)) h2 = some (.str ws[ks.length], h2) := by
        rw [gIx_lst eW8, IL.atI_nat, List.getElem?_map, List.getElem?_eq_getElem hkw]; rfl
      rw [gw]
      walk_at "ev"
      simp only [gTupOf_lst eL8]
      walk_at "ev"
      refine Ok.of (gAppend_lst eF8 (sz_lt (by simp; omega))) ?_
      walk_at "ev"
      have nFD : ¬ Dl n m F := fun z => by rcases z with z | z <;> omega
      refine ⟨made0 + (1 + k0), _, _, _, _, ks ++ [(ws[ks.length], ms)], by rw [List.length_map, List.length_range], K8.setNew _ _ hFh, D8.setNew nFD, by rw [set_ne hFW]; exact eW8, by rw [set_ne hFM]; exact eM8, ?_, by simp [hkl], ?_, ?_, by omega, ?_⟩
      · rw [set_at eF8]
        simp [eKi]
      · rw [List.map_append, hkn, ← hkl, List.take_succ, List.getElem?_eq_getElem hkw]
        rfl
      · rw [List.flatMap_append, ← hmf]
        simp
      · intro k hk
        rcases List.mem_append.mp hk with hk | hk
        · exact hke k hk
        · rw [List.mem_singleton] at hk
          subst hk
          exact ⟨fun z => by simp only at z; rw [z] at hml; simp at hml; omega, by show ms.length ≤ 3; omega, fun q hq => (hme q hq).1, fun q hq => (hme q hq).2⟩
  · obtain ⟨made, w9, w10, w11, w12, ks, rfl, K5, D5, eW5, eM5, eF5, hkl, hkn, hkf, hmd, hke⟩ := hI
    rw [List.length_map, List.length_range] at hkl hkn hmd
    refine SK_nx ?_
    simp only [sRet, Ok_bind]
    walk_at "ev"
    simp only [gTupP, one, fTupP, lstD_lst eF5, Option.map_some, Ok_some]
    refine ⟨ks, rfl, ⟨by omega, by omega, by rw [hkl]; exact hkn, ⟨made, by omega, hkf⟩, by rw [hkl]; exact hke⟩, K5, D5⟩
end K88

namespace K88
open PySem PySem.Spec PyProof.Rows L2 IL
local macro_rules | `(tactic| walk_at "ev") => `(tactic| simp (config := { decide := false }) only [iVar, iC, iOp, iCons, iNil, iB, iCall, jVal, jAnd, jOr, jNot, iIf, iNeg, iNot, IL.iTup, IL.iTupP, IL.iLst, iSl, iNo, iPart, sAsg, sExpr, sRet, sRetN, sSkip, sAugN, sAugS, sPar, gNm, gTp, gsCons, gsNil, gSb, one, two, gInt, jYes, CT.put, wipeD, setAll, iListRev, parSet,
  List.getElem?_cons_zero, List.getElem?_cons_succ, List.set_cons_zero, List.set_cons_succ, List.map_cons, List.map_nil, List.cons_append, List.nil_append, List.replicate_succ, List.replicate_zero, List.getLast?_cons_cons, List.getLast?_singleton,
  Option.bind_some, Option.map_some, Ok_some, Ok_bind, Ok_map, if_true, if_false, Bool.false_eq_true, decide_true, decide_false, List.length_cons, List.length_nil, Nat.zero_le, sz1, sz2, sz3, sz4, sz5, sz6, sz7, sz8, sz9, sz10, sz11, sz12, Bool.not_true, Bool.not_false,
  iFld, iMeth, iDicK, gIx_tup, gIx_kt, gIx_sl, atI_0, atI_1, atI_2, atI_3, atI_4, atI_5, atI_m1, gEq_str, gEq_int, gNe_str, gNe_int, gAdd_int, seqD_tup, seqD_kt, gLen_tup, gLen_kt, Int.reduceNeg, len_push,
  le1, le2, le3, le4, le5, le6, le7, le8, le9, le10, le11, lw1, lw2, lw3, lw4, lw5, lw6, lw7, lw8, lw9, lw10, lw11, lw12, lw13, lw14, lw15, lw16, lw17])
/-! ### names that fit -/
theorem seqSrc_eS {h : IH} (ks : List Str) : seqSrc h (eS ks) = some (true, ks.map D.str, []) := rfl
/-- a row of kinds: a tuple, a list -/
def Row (h : IH) (m : Nat) (so : D) (ks : List Str) : Prop := so = eS ks ∨ ∃ l, so = .loc l ∧ l ≠ m ∧ h[l]? = some (.lst (ks.map D.str))
theorem fill_spec {t : Nat → Fn} (h24 : DrawSp (t 24)) {h : IH} {n m Sc : Nat} (hd : Deal h n m) {sc : List (Str × Str)} (eS_ : h[Sc]? = some (.lst (sc.map eQ))) (hSm : Sc ≠ m) (hok : ∀ q ∈ sc, PyData.strOk q.1 = true) (hsl : sc.length ≤ 1000) {so : D} {ks : List Str} (hs : Row h m so ks) (hkl : ks.length ≤ 1000) :
    Ok (meant t 27 [.loc n, .loc Sc, so] h) fun r => (r.1 = .non ∨ ∃ ys : List Str, r.1 = eS ys ∧ ys.length = ks.length ∧ ∀ y ∈ ys, y ∈ sc.map (·.1)) ∧ Ext (Dl n m) h r.2 ∧ Deal r.2 n m := by
  refine ok_fun rfl ?_
  unfold b_27
  refine ok_seq ?_
  walk_at "ev"
  have eL := get_new (h := h) (o := O.lst [])
  have K0 : Ext (Dl n m) h (h ++ [O.lst []]) := Ext.push _ _
  have D0 := hd.push (.lst [])
  have nLD : ¬ Dl n m h.length := fun z => by rcases z with z | z <;> (have := hd.lt; omega)
  obtain ⟨b, dp, hsrc, hdp, hdl⟩ : ∃ b dp, seqSrc (h ++ [O.lst []]) so = some (b, ks.map D.str, dp) ∧ (∀ h', Ext (Dl n m) h h' → depsOk dp h') ∧ ∀ s, so ≠ .str s := by
    rcases hs with rfl | ⟨l, rfl, hlm, el⟩
    · exact ⟨true, [], rfl, fun _ _ => depsOk_nil, fun s z => by cases z⟩
    · exact ⟨false, _, seqSrc_lst (get_old el), fun h' K => depsOk_one (dl_get hd K el hlm), fun s z => by cases z⟩
  generalize h ++ [O.lst []] = H at *
  refine SK_nx (ok_seq (ok_for (ok_pSeq ?_)))
  walk_at "ev"
  refine ⟨b, ks.map D.str, dp, hdl, hsrc, ?_⟩
  refine ok_forI (fun i env h' => ∃ (w4 w5 : Option D) (ys : List Str), env = [some (.loc n), some (.loc Sc), some so, some (.loc h.length), w4, w5, none, none] ∧ Ext (Dl n m) h h' ∧ Deal h' n m ∧ h'[h.length]? = some (.lst (ys.map D.str)) ∧ ys.length = i ∧ ∀ y ∈ ys, y ∈ sc.map (·.1))
    (fun i env h' hI => by
      obtain ⟨_, _, _, _, K, _⟩ := hI
      exact hdp h' K) (fun i d env h' hi hI => ?_) (fun env h' hI => ?_) ⟨none, none, [], rfl, K0, D0, eL, rfl, by simp⟩
  · obtain ⟨w4, w5, ys, rfl, K, D1, eL1, hyl, hy⟩ := hI
    rw [List.getElem?_map] at hi
    obtain ⟨k, hk, rfl⟩ := Option.map_eq_some_iff.mp hi
    have hki := (List.getElem?_eq_some_iff.mp hk).1
    have eS1 := dl_get hd K eS_ hSm
    walk_at "ev"
    refine ok_seq ?_
    simp only [sAsg, Ok_bind]
    refine ok_filterF (items := sc.map eQ) (dp := [(Sc, sc.map eQ)]) (h1 := h') (fun d => match d with
      | .tup [_, .str k'] => decide (k' = k)
      | _ => false) (fun d => match d with
      | .tup [x, _] => x
      | d => d) ?_ (depsOk_one eS1) (by simp; omega) ?_ ?_
    · unfold pSeq
      walk_at "ev"
      simp only [seqSrc_lst eS1, Option.map_some]
    · intro d hd' h2 K2
      obtain ⟨⟨x, k'⟩, hq, rfl⟩ := List.mem_map.mp hd'
      simp only [eQ]
      walk_at "ev"
      exact ⟨trivial, Ext.refl _, fun _ => ⟨trivial, Ext.refl _⟩⟩
    · intro h2 K2 hn2
      obtain ⟨own, eo, hol, ho⟩ : ∃ own : List Str, List.map (fun d => match d with
          | .tup [x, _] => x
          | d => d) (List.filter (fun d => match d with
          | .tup [_, .str k'] => decide (k' = k)
          | _ => false) (sc.map eQ)) = own.map D.str ∧ own.length ≤ sc.length ∧ ∀ y ∈ own, y ∈ sc.map (·.1) := by
        refine ⟨(sc.filter fun q => decide (q.2 = k)).map (·.1), ?_, by rw [List.length_map]; exact List.length_filter_le _ _, fun y hy => ?_⟩
        · rw [List.filter_map, List.map_map, List.map_map]
          rfl
        · obtain ⟨q, hq, rfl⟩ := List.mem_map.mp hy
          exact List.mem_map.mpr ⟨q, (List.mem_filter.mp hq).1, rfl⟩
      rw [eo] at hn2
      clear eo
      have K3 := K.trans (Ext.keep K2)
      have D2 := D1.keep K2
      have eL2 := K2.get eL1
      walk_at "ev"
      refine SK_nx (ok_seq (ok_if ?_))
      walk_at "ev"
      have hfin : D.fines (own.map D.str) 1 = true := fines_iff.mpr fun x hx => by
        obtain ⟨y, hy', rfl⟩ := List.mem_map.mp hx
        rw [fine_str]
        obtain ⟨q, hq, rfl⟩ := List.mem_map.mp (ho y hy')
        exact hok q hq
      have en1 := get_old (o' := O.lst []) hn2
      rw [gEq_nil (h := h2 ++ [O.lst []]) en1 get_new hfin (by decide)]
      walk_at "ev"
      cases own with
      | nil =>
        simp only [List.map_nil, List.isEmpty_nil, if_true]
        exact ⟨.inl rfl, K3.trans (Ext.push _ _), D2.push _⟩
      | cons o own =>
        simp only [List.map_cons, List.isEmpty_cons, Bool.false_eq_true, if_false]
        have D3 := D2.push (.lst [])
        have K4 : Ext (Dl n m) h (h2 ++ [O.lst []]) := K3.trans (Ext.push _ _)
        have eL3 := get_old (o' := O.lst []) eL2
        have hn1 : h'.length ≠ m := fun z => by have := D1.lt.2; omega
        have hn3 : h.length < h'.length := lt_of_get eL1
        generalize h2 ++ [O.lst []] = h3 at *
        clear hn2 D2 K3 eL2 hfin
        refine SK_nx ?_
        simp only [sExpr, Ok_bind]
        refine ok_bm ?_
        walk_at "ev"
        refine ⟨isTy_lst eL3, ?_⟩
        have q1 : ∀ {g : IH}, g[h'.length]? = some (.lst ((o :: own).map D.str)) → gLen [.loc h'.length] g = some (.int ((own.length + 1 : Nat) : Nat), g) := fun e => by rw [gLen_lst e, List.length_map, List.length_cons]
        rw [q1 en1]
        simp only [List.length_cons] at hol
        refine Ok_some.mpr ?_
        refine (h24 D3 ((own.length + 1 : Nat) : Int) (by omega) (by omega)).imp ?_
        rintro ⟨d, h4⟩ ⟨k1, rfl, hk1, K5, D5⟩
        simp only at K5 D5
        have en5 := dl_get D3 K5 en1 hn1
        have eL5 := dl_get D3 K5 eL3 (fun z => nLD (.inr z))
        replace K5 := K4.trans K5
        clear K4 D3 en1 eL3
        walk_at "ev"
        rw [q1 en5]
        refine Ok_some.mpr ?_
        refine (h24 D5 ((own.length + 1 : Nat) : Int) (by omega) (by omega)).imp ?_
        rintro ⟨d, h6⟩ ⟨k2, rfl, hk2, K7, D7⟩
        simp only at K7 D7
        have en7 := dl_get D5 K7 en5 hn1
        have eL7 := dl_get D5 K7 eL5 (fun z => nLD (.inr z))
        replace K7 := K5.trans K7
        clear K5 D5 en5 eL5
        simp only [gMax2]
        walk_at "ev"
        obtain ⟨k3, hk3, e3⟩ : ∃ k3 : Nat, k3 < own.length + 1 ∧ (if (k2 : Int) > (k1 : Int) then (k2 : Int) else (k1 : Int)) = (k3 : Nat) := by
          by_cases hc : (k2 : Int) > (k1 : Int)
          · exact ⟨k2, by omega, by rw [if_pos hc]⟩
          · exact ⟨k1, by omega, by rw [if_neg hc]⟩
        rw [e3]
        have hk3' : k3 < (o :: own).length := by simp only [List.length_cons]; exact hk3
        have g3 : gIx (.loc h'.length) (.int (k3 : Nat)) h6 = some (.str (o :: own)[k3], h6) := by
          rw [gIx_lst en7, IL.atI_nat, List.getElem?_map, List.getElem?_eq_getElem hk3']; rfl
        rw [g3]
        refine Ok_some.mpr ?_
        refine Ok.of (gAppend_lst eL7 (sz_lt (by simp; omega))) ?_
        refine ⟨_, _, ys ++ [(o :: own)[k3]], rfl, K7.setNew _ _ (Nat.le_refl _), D7.setNew nLD, ?_, by simp [hyl], fun y hy' => ?_⟩
        · rw [set_at eL7]; simp
        · rcases List.mem_append.mp hy' with hy' | hy'
          · exact hy y hy'
          · rw [List.mem_singleton] at hy'
            subst hy'
            exact ho _ (List.getElem_mem hk3')
  · obtain ⟨w4, w5, ys, rfl, K, D1, eL1, hyl, hy⟩ := hI
    refine SK_nx ?_
    walk_at "ev"
    simp only [gTupOf_lst eL1]
    walk_at "ev"
    rw [List.length_map] at hyl
    exact ⟨.inr ⟨ys, rfl, hyl, hy⟩, K, D1⟩
end K88

namespace K88
open PySem PySem.Spec PyProof.Rows L2 IL
local macro_rules | `(tactic| walk_at "ev") => `(tactic| simp (config := { decide := false }) only [iVar, iC, iOp, iCons, iNil, iB, iCall, jVal, jAnd, jOr, jNot, iIf, iNeg, iNot, IL.iTup, IL.iTupP, IL.iLst, iSl, iNo, iPart, sAsg, sExpr, sRet, sRetN, sSkip, sAugN, sAugS, sPar, gNm, gTp, gsCons, gsNil, gSb, one, two, gInt, jYes, CT.put, wipeD, setAll, iListRev, parSet,
  List.getElem?_cons_zero, List.getElem?_cons_succ, List.set_cons_zero, List.set_cons_succ, List.map_cons, List.map_nil, List.cons_append, List.nil_append, List.replicate_succ, List.replicate_zero, List.getLast?_cons_cons, List.getLast?_singleton,
  Option.bind_some, Option.map_some, Ok_some, Ok_bind, Ok_map, if_true, if_false, Bool.false_eq_true, decide_true, decide_false, List.length_cons, List.length_nil, Nat.zero_le, sz1, sz2, sz3, sz4, sz5, sz6, sz7, sz8, sz9, sz10, sz11, sz12, Bool.not_true, Bool.not_false,
  iFld, iMeth, iDicK, gIx_tup, gIx_kt, gIx_sl, atI_0, atI_1, atI_2, atI_3, atI_4, atI_5, atI_m1, gEq_str, gEq_int, gNe_str, gNe_int, gAdd_int, seqD_tup, seqD_kt, gLen_tup, gLen_kt, Int.reduceNeg, len_push,
  le1, le2, le3, le4, le5, le6, le7, le8, le9, le10, le11, lw1, lw2, lw3, lw4, lw5, lw6, lw7, lw8, lw9, lw10, lw11, lw12, lw13, lw14, lw15, lw16, lw17])
/-! ### the world of a body -/
structure Hdd where
  name : Str
  params : List (Str × Str)
  res : Str
def eHd (f : Hdd) : D := .tup [.str f.name, .tup (f.params.map eQ), .str f.res]
structure Wd (ar : Str → Nat) (fa : Str → Option Nat) (ks : KD) (hs : List Hdd) (ws : List Str) : Prop where
  W : Ws ws
  K : Kds ks ws
  ar_ : ∀ k ∈ ks, ∀ q ∈ k.2, ar q.1 = q.2.length
  fa_ : ∀ q ∈ hs, fa q.name = some q.params.length
  hp : ∀ q ∈ hs, q.params.length ≤ 3 ∧ PyData.strOk q.name = true ∧ q.res ∈ ks.map (·.1) ∧ ∀ p ∈ q.params, p.2 ∈ ks.map (·.1)
  h1 : 1 ≤ hs.length
  h4 : hs.length ≤ 4
section
variable {ks : KD} {ws : List Str}
theorem Kds.nd (K : Kds ks ws) (W : Ws ws) : (ks.map (·.1)).Nodup := by
  rw [K.names]
  exact (List.take_sublist _ _).nodup W.nd
theorem Kds.kok (K : Kds ks ws) (W : Ws ws) : ∀ x ∈ ks.map (·.1), PyData.strOk x = true := fun x hx => by
  rw [K.names] at hx
  exact W.ok x (List.mem_of_mem_take hx)
theorem Kds.mok (K : Kds ks ws) (W : Ws ws) : ∀ k ∈ ks, ∀ q ∈ k.2, PyData.strOk q.1 = true := fun k hk q hq => by
  obtain ⟨r, _, e⟩ := K.makers
  have : q.1 ∈ ks.flatMap fun k => k.2.map (·.1) := List.mem_flatMap.mpr ⟨k, hk, List.mem_map.mpr ⟨q, hq, rfl⟩⟩
  rw [e] at this
  exact W.ok _ (List.mem_of_mem_drop (List.mem_of_mem_take this))
theorem Kds.fin (K : Kds ks ws) : ∀ k ∈ ks, ∀ q ∈ k.2, ∀ f ∈ q.2, f ∈ ks.map (·.1) := fun k hk q hq f hf => by
  rw [K.names]
  exact (K.each k hk).fin q hq f hf
end
def kdic (ks : KD) : List (Key × D) := ks.map fun k => (Sum.inr k.1, D.tup (k.2.map eMk))
theorem pairsD_ks : ∀ ks : KD, pairsD (ks.map eKi) = some (kdic ks)
  | [] => rfl
  | k :: ks => by
    have := pairsD_ks ks
    simp only [List.map_cons, eKi, pairsD, keyD, Option.bind_some, this, Option.map_some]
    rfl
theorem kdic_ok {ks : KD} (h : (ks.map (·.1)).Nodup) : keysOk (kdic ks) = true := by
  unfold keysOk kdic
  rw [decide_eq_true_iff, List.map_map]
  have : ((fun (q : Key × D) => q.1) ∘ fun (k : Str × List (Str × List Str)) => ((Sum.inr k.1 : Key), D.tup (k.2.map eMk))) = (fun x => (Sum.inr x : Key)) ∘ fun k => k.1 := rfl
  rw [this, ← List.map_map]
  rw [List.nodup_iff_pairwise_ne] at h ⊢
  exact List.pairwise_map.mpr (h.imp fun hab e => hab (Sum.inr.inj e))
theorem kdic_get : ∀ {ks : KD} {x : Str}, x ∈ ks.map (·.1) → ∃ k ∈ ks, k.1 = x ∧ valD (kdic ks) (Sum.inr x : Key) = some (.tup (k.2.map eMk))
  | k :: ks, x, h => by
    by_cases e : k.1 = x
    · subst e
      exact ⟨k, List.mem_cons_self .., rfl, by simp [kdic, valD]⟩
    · simp only [List.map_cons, List.mem_cons] at h
      obtain ⟨k', h1, h2, h3⟩ := kdic_get (h.resolve_left fun z => e z.symm)
      refine ⟨k', List.mem_cons_of_mem _ h1, h2, ?_⟩
      have ne : ¬ (Sum.inr k.1 : Key) = Sum.inr x := fun z => e (Sum.inr.inj z)
      show valD ((Sum.inr k.1, D.tup (k.2.map eMk)) :: kdic ks) (Sum.inr x) = _
      simp only [valD, if_neg ne]
      exact h3
theorem dict_ks {ks : KD} {ws : List Str} (K : Kds ks ws) (W : Ws ws) (h : IH) : gDictOf [.kt (ks.map eKi)] h = some (.loc h.length, h ++ [.dic (kdic ks)]) := by
  simp only [gDictOf, one, fDictOf, Option.bind_some, pairsD_ks, kdic_ok (K.nd W), if_true]
/-- a body as it should be: what it may be, how deep, how long -/
structure GP (ar : Str → Nat) (fa : Str → Option Nat) (sc : List (Str × Str)) (d L : Nat) (p : Pc) : Prop where
  wf : Wf ar fa (sc.map (·.1)) p
  fine : (eP p).fine d = true
  len : (flat p).length ≤ L
/-- what stands in the heap -/
structure At3 (h : IH) (n m W Hd Sc : Nat) (ks : KD) (hs : List Hdd) (ws : List Str) (sc : List (Str × Str)) : Prop where
  d : Deal h n m
  w : h[W]? = some (.lst (ws.map D.str))
  hd : h[Hd]? = some (.lst (hs.map eHd))
  s : h[Sc]? = some (.lst (sc.map eQ))
  wm : W ≠ m
  hm : Hd ≠ m
  sm : Sc ≠ m
theorem At3.ext {h h' : IH} {n m W Hd Sc : Nat} {ks : KD} {hs : List Hdd} {ws : List Str} {sc : List (Str × Str)} (a : At3 h n m W Hd Sc ks hs ws sc) (k : Ext (Dl n m) h h') (d : Deal h' n m) : At3 h' n m W Hd Sc ks hs ws sc :=
  ⟨d, dl_get a.d k a.w a.wm, dl_get a.d k a.hd a.hm, dl_get a.d k a.s a.sm, a.wm, a.hm, a.sm⟩
structure ScOk (ks : KD) (sc : List (Str × Str)) : Prop where
  ok : ∀ q ∈ sc, PyData.strOk q.1 = true ∧ q.2 ∈ ks.map (·.1)
  len : sc.length ≤ 18
theorem fine_eS {ys : List Str} (h : ∀ y ∈ ys, PyData.strOk y = true) {n : Nat} : (eS ys).fine (n + 1) = true := by
  unfold eS
  rw [fine_tup]
  exact fines_iff.mpr fun x hx => by
    obtain ⟨y, hy, rfl⟩ := List.mem_map.mp hx
    rw [fine_str]
    exact h y hy
theorem fine_give {x : Str} (h : PyData.strOk x = true) {n : Nat} : (eP (.give x)).fine (n + 1) = true := by
  have e : PyData.strOk ("give" : Str) = true := by decide +kernel
  simp only [eP, fine_tup, D.fines, fine_str, h, e, Bool.and_self]
theorem gp_give {ar : Str → Nat} {fa : Str → Option Nat} {sc : List (Str × Str)} {x : Str} (hx : x ∈ sc.map (·.1)) (h : PyData.strOk x = true) : GP ar fa sc 3 2 (.give x) :=
  ⟨by simp only [Wf]; exact hx, fine_give h, by simp [flat]⟩
theorem gp_make {ar : Str → Nat} {fa : Str → Option Nat} {sc : List (Str × Str)} {x c : Str} {ys : List Str} (h1 : ∀ y ∈ ys, y ∈ sc.map (·.1)) (h2 : ys.length = ar c) (hx : PyData.strOk x = true) (hc : PyData.strOk c = true) (hy : ∀ y ∈ ys, PyData.strOk y = true) : GP ar fa sc 3 2 (.make x c ys (.give x)) := by
  have e : PyData.strOk ("make" : Str) = true := by decide +kernel
  refine ⟨by simp only [Wf]; exact ⟨h1, h2, List.mem_cons_self ..⟩, ?_, by simp [flat]⟩
  rw [show eP (.make x c ys (.give x)) = .tup [.str "make", .str x, .str c, eS ys, eP (.give x)] from by simp only [eP]]
  simp only [fine_tup, D.fines, fine_str, hx, hc, e, fine_eS hy, fine_give hx, Bool.and_self]
theorem gp_call {ar : Str → Nat} {fa : Str → Option Nat} {sc : List (Str × Str)} {x c : Str} {ys : List Str} (h1 : ∀ y ∈ ys, y ∈ sc.map (·.1)) (h2 : fa c = some ys.length) (hx : PyData.strOk x = true) (hc : PyData.strOk c = true) (hy : ∀ y ∈ ys, PyData.strOk y = true) : GP ar fa sc 3 2 (.call x c ys (.give x)) := by
  have e : PyData.strOk ("call" : Str) = true := by decide +kernel
  refine ⟨by simp only [Wf]; exact ⟨h1, h2, List.mem_cons_self ..⟩, ?_, by simp [flat]⟩
  rw [show eP (.call x c ys (.give x)) = .tup [.str "call", .str x, .str c, eS ys, eP (.give x)] from by simp only [eP]]
  simp only [fine_tup, D.fines, fine_str, hx, hc, e, fine_eS hy, fine_give hx, Bool.and_self]
abbrev FillSp (F : Fn) : Prop := ∀ {h : IH} {n m Sc : Nat}, Deal h n m → ∀ {sc : List (Str × Str)}, h[Sc]? = some (.lst (sc.map eQ)) → Sc ≠ m → (∀ q ∈ sc, PyData.strOk q.1 = true) → sc.length ≤ 1000 → ∀ {so : D} {ks : List Str}, Row h m so ks → ks.length ≤ 1000 →
    Ok (F [.loc n, .loc Sc, so] h) fun r => (r.1 = .non ∨ ∃ ys : List Str, r.1 = eS ys ∧ ys.length = ks.length ∧ ∀ y ∈ ys, y ∈ sc.map (·.1)) ∧ Ext (Dl n m) h r.2 ∧ Deal r.2 n m
theorem gIsNot_tup {xs : List D} {h : IH} : gIsNot (.tup xs) .non h = some (.bl true, h) := rfl
theorem gIsNot_non {h : IH} : gIsNot .non .non h = some (.bl false, h) := rfl
theorem ended_spec {t : Nat → Fn} (h27 : FillSp (t 27)) {ar : Str → Nat} {fa : Str → Option Nat} {ks : KD} {hs : List Hdd} {ws : List Str} (G : Wd ar fa ks hs ws) {h : IH} {n m W Hd Sc : Nat} {sc : List (Str × Str)} (A : At3 h n m W Hd Sc ks hs ws sc) (S : ScOk ks sc) {k : Str} (hk : k ∈ ks.map (·.1)) {f : Nat} {F : Hdd} (hF : hs[f]? = some F) (hsc : F.params.length ≤ sc.length) :
    Ok (meant t 28 [.loc n, .tup [.kt (ks.map eKi), .loc Hd, .loc W], .loc Sc, .str k, .int (f : Nat)] h) fun r => ∃ p, r.1 = eP p ∧ GP ar fa sc 3 2 p ∧ Ext (Dl n m) h r.2 ∧ Deal r.2 n m := by
  have sok : ∀ q ∈ sc, PyData.strOk q.1 = true := fun q hq => (S.ok q hq).1
  have nok : ∀ y ∈ sc.map (·.1), PyData.strOk y = true := fun y hy => by
    obtain ⟨q, hq, rfl⟩ := List.mem_map.mp hy
    exact sok q hq
  have slen := S.len
  refine ok_fun rfl ?_
  unfold b_28
  refine ok_seq ?_
  walk_at "ev"
  refine SK_nx (ok_seq ?_)
  walk_at "ev"
  have A1 := A.ext (Ext.push h (.lst [.str k])) (A.d.push _)
  refine (h27 A1.d A1.s A1.sm sok (by omega) (ks := [k]) (.inr ⟨h.length, rfl, fun z => by have := A.d.lt.2; omega, get_new⟩) (by simp)).imp ?_
  rintro ⟨d, h2⟩ ⟨hr, K2, D2⟩
  simp only at hr K2 D2
  replace K2 : Ext (Dl n m) h h2 := (Ext.push _ _).trans K2
  have A2 := A.ext K2 D2
  clear A1
  walk_at "ev"
  refine SK_nx (ok_seq (ok_if ?_))
  walk_at "ev"
  rcases hr with rfl | ⟨ys, rfl, hyl, hy⟩
  · rw [gIsNot_non]
    simp only [Ok_some, Bool.false_eq_true, if_false]
    have hwl := G.W.len
    have hx : sc.length < ws.length := by omega
    have gx : ∀ {g : IH}, g[W]? = some (.lst (ws.map D.str)) → gIx (.loc W) (.int (sc.length : Nat)) g = some (.str ws[sc.length], g) := fun e => by
      rw [gIx_lst e, IL.atI_nat, List.getElem?_map, List.getElem?_eq_getElem hx]; rfl
    have xok : PyData.strOk ws[sc.length] = true := G.W.ok _ (List.getElem_mem hx)
    have gl : ∀ {g : IH}, g[Sc]? = some (.lst (sc.map eQ)) → gLen [.loc Sc] g = some (.int (sc.length : Nat), g) := fun e => by rw [gLen_lst e, List.length_map]
    refine SK_nx (ok_seq ?_)
    walk_at "ev"
    rw [gl A2.s]
    walk_at "ev"
    rw [gx A2.w]
    walk_at "ev"
    generalize ws[sc.length] = x at *
    clear gx
    refine SK_nx (ok_seq (ok_for (ok_pSeq ?_)))
    walk_at "ev"
    rw [dict_ks G.K G.W]
    walk_at "ev"
    obtain ⟨kk, hkk, rfl, hval⟩ := kdic_get hk
    rw [gIx_dk get_new hval]
    have A3 := A2.ext (Ext.push h2 (.dic (kdic ks))) (D2.push _)
    have K3 : Ext (Dl n m) h (h2 ++ [O.dic (kdic ks)]) := K2.trans (Ext.push _ _)
    generalize h2 ++ [O.dic (kdic ks)] = h3 at *
    refine Ok_some.mpr ⟨true, kk.2.map eMk, [], (fun s z => by cases z), rfl, ?_⟩
    have kE := G.K.each kk hkk
    refine ok_forI (fun i env h' => ∃ (w10 w11 w12 : Option D), env = [some (.loc n), some (.tup [.kt (ks.map eKi), .loc Hd, .loc W]), some (.loc Sc), some (.str kk.1), some (.int (f : Nat)), some (.kt (ks.map eKi)), some (.loc Hd), some (.loc W), some .non, some (.str x), w10, w11, w12, none, none] ∧ Ext (Dl n m) h h' ∧ At3 h' n m W Hd Sc ks hs ws sc)
      (fun _ _ _ _ => depsOk_nil) (fun i d env h' hi hI => ?_) (fun env h' hI => ?_) ⟨none, none, none, rfl, K3, A3⟩
    · obtain ⟨w10, w11, w12, rfl, K4, A4⟩ := hI
      rw [List.getElem?_map] at hi
      obtain ⟨q, hq, rfl⟩ := Option.map_eq_some_iff.mp hi
      have hqm := List.mem_of_getElem? hq
      have hfl := kE.fl q hqm
      unfold eMk
      walk_at "ev"
      refine ok_seq ?_
      walk_at "ev"
      refine (h27 A4.d A4.s A4.sm sok (by omega) (ks := q.2) (.inl rfl) (by omega)).imp ?_
      rintro ⟨d, h5⟩ ⟨hr, K5, D5⟩
      simp only at hr K5 D5
      have A5 := A4.ext K5 D5
      replace K5 := K4.trans K5
      clear K4 A4
      walk_at "ev"
      refine SK_nx (ok_if ?_)
      walk_at "ev"
      rcases hr with rfl | ⟨ys, rfl, hyl, hy⟩
      · rw [gIsNot_non]
        simp only [Ok_some, Bool.false_eq_true, if_false]
        exact ⟨_, _, _, rfl, K5, A5⟩
      · rw [show eS ys = .tup (ys.map D.str) from rfl, gIsNot_tup]
        walk_at "ev"
        refine ⟨.make x q.1 ys (.give x), ?_, gp_make hy (by rw [hyl, G.ar_ kk hkk q hqm]) xok (G.K.mok G.W kk hkk q hqm) (fun y hy' => nok y (hy y hy')), K5, A5.d⟩
        simp only [eP, eS]
    · obtain ⟨w10, w11, w12, rfl, K4, A4⟩ := hI
      refine SK_nx (ok_seq ?_)
      simp only [sAsg, iB, iCons, iNil, Ok_bind]
      have gf : ∀ {g : IH}, g[Hd]? = some (.lst (hs.map eHd)) → gIx (.loc Hd) (.int (f : Nat)) g = some (eHd F, g) := fun e => by
        rw [gIx_lst e, IL.atI_nat, List.getElem?_map, hF]; rfl
      refine ok_mapF (items := (sc.take F.params.length).map eQ) (dp := [(h'.length, (sc.take F.params.length).map eQ)]) (h1 := h' ++ [.lst ((sc.take F.params.length).map eQ)]) (fun d => match d with
        | .tup [x, _] => x
        | d => d) ?_ (depsOk_one get_new) (by simp; omega) ?_ ?_
      · unfold pSeq
        walk_at "ev"
        rw [gf A4.hd]
        unfold eHd
        walk_at "ev"
        simp only [List.length_map, gSl_lst A4.s, cutD_take, Option.bind_some]
        rw [← List.map_take, seqSrc_lst get_new]
        rfl
      · intro d hd' h6 K6
        obtain ⟨⟨a, b⟩, _, rfl⟩ := List.mem_map.mp hd'
        unfold eQ
        walk_at "ev"
        exact ⟨trivial, Ext.refl _⟩
      · intro h6 K6 hn6
        have e6 : (((sc.take F.params.length).map eQ).map fun d => match d with
          | .tup [x, _] => x
          | d => d) = ((sc.take F.params.length).map (·.1)).map D.str := by rw [List.map_map, List.map_map]; rfl
        rw [e6] at hn6
        simp only [len_push] at hn6
        walk_at "ev"
        simp only [gTupOf_lst hn6]
        walk_at "ev"
        have K7 : Keep h' h6 := (Ext.push _ _).trans K6
        have A7 := A4.ext (Ext.keep K7) (A4.d.keep K7)
        refine SK_nx ?_
        walk_at "ev"
        rw [gf A7.hd]
        unfold eHd
        walk_at "ev"
        have Fm := List.mem_of_getElem? hF
        have hy : ∀ y ∈ (sc.take F.params.length).map (·.1), y ∈ sc.map (·.1) := fun y hy => by
          obtain ⟨q, hq, rfl⟩ := List.mem_map.mp hy
          exact List.mem_map.mpr ⟨q, List.mem_of_mem_take hq, rfl⟩
        refine ⟨.call x F.name ((sc.take F.params.length).map (·.1)) (.give x), ?_, gp_call hy (by rw [G.fa_ F Fm, List.length_map, List.length_take]; congr 1; omega) xok (G.hp F Fm).2.1 (fun y hy' => nok y (hy y hy')), K4.trans (Ext.keep K7), A7.d⟩
        simp only [eP, eS]
  · unfold eS
    rw [gIsNot_tup]
    walk_at "ev"
    obtain ⟨y, rfl⟩ : ∃ y, ys = [y] := by
      rcases ys with _ | ⟨y, _ | ⟨z, r⟩⟩
      · simp at hyl
      · exact ⟨y, rfl⟩
      · simp at hyl
    walk_at "ev"
    refine ⟨.give y, ?_, gp_give (hy y (by simp)) (nok y (hy y (by simp))), K2, D2⟩
    simp only [eP]
end K88

namespace K88
open PySem PySem.Spec PyProof.Rows L2 IL
local macro_rules | `(tactic| walk_at "ev") => `(tactic| simp (config := { decide := false }) only [iVar, iC, iOp, iCons, iNil, iB, iCall, jVal, jAnd, jOr, jNot, iIf, iNeg, iNot, IL.iTup, IL.iTupP, IL.iLst, iSl, iNo, iPart, sAsg, sExpr, sRet, sRetN, sSkip, sAugN, sAugS, sPar, gNm, gTp, gsCons, gsNil, gSb, one, two, gInt, jYes, CT.put, wipeD, setAll, iListRev, parSet,
  List.getElem?_cons_zero, List.getElem?_cons_succ, List.set_cons_zero, List.set_cons_succ, List.map_cons, List.map_nil, List.cons_append, List.nil_append, List.replicate_succ, List.replicate_zero, List.getLast?_cons_cons, List.getLast?_singleton,
  Option.bind_some, Option.map_some, Ok_some, Ok_bind, Ok_map, if_true, if_false, Bool.false_eq_true, decide_true, decide_false, List.length_cons, List.length_nil, Nat.zero_le, sz1, sz2, sz3, sz4, sz5, sz6, sz7, sz8, sz9, sz10, sz11, sz12, Bool.not_true, Bool.not_false,
  iFld, iMeth, iDicK, gIx_tup, gIx_kt, gIx_sl, atI_0, atI_1, atI_2, atI_3, atI_4, atI_5, atI_m1, gEq_str, gEq_int, gNe_str, gNe_int, gAdd_int, seqD_tup, seqD_kt, gLen_tup, gLen_kt, Int.reduceNeg, len_push,
  le1, le2, le3, le4, le5, le6, le7, le8, le9, le10, le11, lw1, lw2, lw3, lw4, lw5, lw6, lw7, lw8, lw9, lw10, lw11, lw12, lw13, lw14, lw15, lw16, lw17])
/-! ### a case -/
abbrev Dr (n m R : Nat) : Nat → Prop := fun i => (i = n ∨ i = m) ∨ i = R
structure At4 (h : IH) (n m W Hd Sc R : Nat) (ks : KD) (hs : List Hdd) (ws : List Str) (sc : List (Str × Str)) (r : Int) : Prop where
  a : At3 h n m W Hd Sc ks hs ws sc
  r : h[R]? = some (.lst [.int r])
  rm : R ≠ m
  w40 : ws.length = 40
section
variable {h h' : IH} {n m W Hd Sc R : Nat} {ks : KD} {hs : List Hdd} {ws : List Str} {sc : List (Str × Str)} {r r' : Int}
theorem At4.nW (A : At4 h n m W Hd Sc R ks hs ws sc r) : W ≠ R := fun z => by
  have e := A.a.w
  rw [z, A.r] at e
  have := congrArg (fun o => match o with | some (O.lst l) => l.length | _ => 0) e
  simp only [List.length_map, List.length_cons, List.length_nil] at this
  have := A.w40
  omega
theorem At4.nH (A : At4 h n m W Hd Sc R ks hs ws sc r) : Hd ≠ R := fun z => by
  have e := A.a.hd
  rw [z, A.r] at e
  cases hs with
  | nil => simp at e
  | cons q l => simp [eHd] at e
theorem At4.nS (A : At4 h n m W Hd Sc R ks hs ws sc r) : Sc ≠ R := fun z => by
  have e := A.a.s
  rw [z, A.r] at e
  cases sc with
  | nil => simp at e
  | cons q l => simp [eQ] at e
theorem dr_get (d : Deal h n m) (k : Ext (Dr n m R) h h') {i : Nat} {xs : List D} (e : h[i]? = some (.lst xs)) (hi : i ≠ m) (hr : i ≠ R) : h'[i]? = some (.lst xs) := by
  refine k.at_ _ _ e fun z => ?_
  rcases z with (rfl | rfl) | rfl
  · obtain ⟨s, u, ys, e1, _⟩ := d
    rw [e] at e1; cases e1
  · exact hi rfl
  · exact hr rfl
theorem At4.ext (A : At4 h n m W Hd Sc R ks hs ws sc r) (k : Ext (Dr n m R) h h') (d : Deal h' n m) (e : h'[R]? = some (.lst [.int r'])) : At4 h' n m W Hd Sc R ks hs ws sc r' :=
  ⟨⟨d, dr_get A.a.d k A.a.w A.a.wm A.nW, dr_get A.a.d k A.a.hd A.a.hm A.nH, dr_get A.a.d k A.a.s A.a.sm A.nS, A.a.wm, A.a.hm, A.a.sm⟩, e, A.rm, A.w40⟩
theorem At4.dl (A : At4 h n m W Hd Sc R ks hs ws sc r) (k : Ext (Dl n m) h h') (d : Deal h' n m) : At4 h' n m W Hd Sc R ks hs ws sc r :=
  ⟨A.a.ext k d, dl_get A.a.d k A.r A.rm, A.rm, A.w40⟩
theorem At4.keep (A : At4 h n m W Hd Sc R ks hs ws sc r) (k : Keep h h') : At4 h' n m W Hd Sc R ks hs ws sc r := A.dl (Ext.keep k) (A.a.d.keep k)
theorem At4.scope (A : At4 h n m W Hd Sc R ks hs ws sc r) {Sc' : Nat} {sc' : List (Str × Str)} (e : h[Sc']? = some (.lst (sc'.map eQ))) (hm : Sc' ≠ m) : At4 h n m W Hd Sc' R ks hs ws sc' r :=
  ⟨⟨A.a.d, A.a.w, A.a.hd, e, A.a.wm, A.a.hm, hm⟩, A.r, A.rm, A.w40⟩
end
theorem dl_dr {n m R : Nat} {h h' : IH} (k : Ext (Dl n m) h h') : Ext (Dr n m R) h h' := k.mono fun _ _ z => .inl z
/-- what a body's call does -/
def BodyS (ar : Str → Nat) (fa : Str → Option Nat) (rr : Nat) (F : Fn) : Prop := ∀ {ks : KD} {hs : List Hdd} {ws : List Str}, Wd ar fa ks hs ws → ∀ {h : IH} {n m W Hd Sc R : Nat} {sc : List (Str × Str)} {r : Int}, At4 h n m W Hd Sc R ks hs ws sc r → ScOk ks sc → r ≤ rr → -3 ≤ r →
  ∀ {f : Nat} {H : Hdd}, hs[f]? = some H → H.params.length ≤ sc.length → Ok (F [.loc n, .tup [.kt (ks.map eKi), .loc Hd, .loc W], .loc Sc, .int (f : Nat), .loc R] h) fun z =>
    ∃ p r', z.1 = eP p ∧ Wf ar fa (sc.map (·.1)) p ∧ (eP p).fine (3 + 3 * rr) = true ∧ ((flat p).length : Int) ≤ 2 + 8 * (r - r') ∧ r' ≤ r ∧ -3 ≤ r' ∧ Ext (Dr n m R) h z.2 ∧ At4 z.2 n m W Hd Sc R ks hs ws sc r'
def CaseS (ar : Str → Nat) (fa : Str → Option Nat) (rr : Nat) (F : Fn) : Prop := ∀ {ks : KD} {hs : List Hdd} {ws : List Str}, Wd ar fa ks hs ws → ∀ {h : IH} {n m W Hd Sc R : Nat} {sc : List (Str × Str)} {r : Int}, At4 h n m W Hd Sc R ks hs ws sc r → ScOk ks sc → sc.length ≤ 16 → sc ≠ [] → r ≤ rr → 0 ≤ r →
  ∀ {f : Nat} {H : Hdd}, hs[f]? = some H → H.params.length ≤ sc.length → Ok (F [.loc n, .tup [.kt (ks.map eKi), .loc Hd, .loc W], .loc Sc, .int (f : Nat), .loc R] h) fun z =>
    ∃ p r', z.1 = eP p ∧ Wf ar fa (sc.map (·.1)) p ∧ (eP p).fine (6 + 3 * rr) = true ∧ ((flat p).length : Int) ≤ 1 + 8 * (r - r') ∧ r' ≤ r ∧ -3 ≤ r' ∧ Ext (Dr n m R) h z.2 ∧ At4 z.2 n m W Hd Sc R ks hs ws sc r'
def toArms : List (Str × List Str × Pc) → Arms
  | [] => .nil
  | a :: r => .cons a.1 a.2.1 a.2.2 (toArms r)
theorem toArms_l : ∀ l, (toArms l).l = l
  | [] => rfl
  | a :: r => by simp only [toArms, Arms.l, toArms_l r]
theorem toArms_wf {ar : Str → Nat} {fa : Str → Option Nat} {sc : List Str} : ∀ {l : List (Str × List Str × Pc)}, (∀ a ∈ l, a.2.1.length = ar a.1 ∧ Wf ar fa (a.2.1 ++ sc) a.2.2) → Wfs ar fa sc (toArms l)
  | [], _ => by simp only [toArms, Wfs]
  | a :: r, h => by
    simp only [toArms, Wfs]
    exact ⟨(h a (List.mem_cons_self ..)).1, (h a (List.mem_cons_self ..)).2, toArms_wf fun b hb => h b (List.mem_cons_of_mem _ hb)⟩
theorem pairs_of {R : Nat → Str × Str → Prop} : ∀ {ys : List D}, (∀ (i : Nat) (y : D), ys[i]? = some y → ∃ q, R i q ∧ y = eQ q) → ∃ qs : List (Str × Str), ys = qs.map eQ ∧ ∀ (i : Nat) (q : Str × Str), qs[i]? = some q → R i q := by
  intro ys
  induction ys generalizing R with
  | nil => intro _; exact ⟨[], rfl, by simp⟩
  | cons y ys ih =>
    intro h
    obtain ⟨q, hq, rfl⟩ := h 0 y rfl
    obtain ⟨qs, rfl, hf⟩ := ih (R := fun i => R (i + 1)) fun i y e => h (i + 1) y (by simpa using e)
    exact ⟨q :: qs, rfl, fun i q' e => by
      cases i with
      | zero => simp at e; subst e; exact hq
      | succ i => exact hf i q' (by simpa using e)⟩
theorem putAt_0 {h : IH} {n : Nat} {x d : D} (e : h[n]? = some (.lst [x])) : IL.putAt (.loc n) (.int 0) d h = some (h.set n (.lst [d])) := by
  simp only [IL.putAt, e]; rfl
theorem gIx_0 {h : IH} {n : Nat} {d : D} (e : h[n]? = some (.lst [d])) : gIx (.loc n) (.int 0) h = some (d, h) := by
  rw [gIx_lst e, atI_0]; rfl
end K88

namespace K88
open PySem PySem.Spec PyProof.Rows L2 IL
local macro_rules | `(tactic| walk_at "ev") => `(tactic| simp (config := { decide := false }) only [iVar, iC, iOp, iCons, iNil, iB, iCall, jVal, jAnd, jOr, jNot, iIf, iNeg, iNot, IL.iTup, IL.iTupP, IL.iLst, iSl, iNo, iPart, sAsg, sExpr, sRet, sRetN, sSkip, sAugN, sAugS, sPar, gNm, gTp, gsCons, gsNil, gSb, one, two, gInt, jYes, CT.put, wipeD, setAll, iListRev, parSet,
  List.getElem?_cons_zero, List.getElem?_cons_succ, List.set_cons_zero, List.set_cons_succ, List.map_cons, List.map_nil, List.cons_append, List.nil_append, List.replicate_succ, List.replicate_zero, List.getLast?_cons_cons, List.getLast?_singleton,
  Option.bind_some, Option.map_some, Ok_some, Ok_bind, Ok_map, if_true, if_false, Bool.false_eq_true, decide_true, decide_false, List.length_cons, List.length_nil, Nat.zero_le, sz1, sz2, sz3, sz4, sz5, sz6, sz7, sz8, sz9, sz10, sz11, sz12, Bool.not_true, Bool.not_false,
  iFld, iMeth, iDicK, gIx_tup, gIx_kt, gIx_sl, atI_0, atI_1, atI_2, atI_3, atI_4, atI_5, atI_m1, gEq_str, gEq_int, gNe_str, gNe_int, gAdd_int, seqD_tup, seqD_kt, gLen_tup, gLen_kt, Int.reduceNeg, len_push,
  le1, le2, le3, le4, le5, le6, le7, le8, le9, le10, le11, lw1, lw2, lw3, lw4, lw5, lw6, lw7, lw8, lw9, lw10, lw11, lw12, lw13, lw14, lw15, lw16, lw17])
theorem len_names {sc more : List (Str × Str)} : ∀ y ∈ (sc ++ more).map (·.1), y ∈ more.map (·.1) ++ sc.map (·.1) := fun y hy => by
  rw [List.map_append] at hy
  rcases List.mem_append.mp hy with hy | hy
  · exact List.mem_append_right _ hy
  · exact List.mem_append_left _ hy
theorem At4.setL {h : IH} {n m W Hd Sc R L : Nat} {ks : KD} {hs : List Hdd} {ws : List Str} {sc : List (Str × Str)} {r : Int} {o : O} (A : At4 h n m W Hd Sc R ks hs ws sc r) (h1 : ¬ Dl n m L) (h2 : L ≠ W) (h3 : L ≠ Hd) (h4 : L ≠ Sc) (h5 : L ≠ R) : At4 (h.set L o) n m W Hd Sc R ks hs ws sc r :=
  ⟨⟨A.a.d.setNew h1, by rw [set_ne h2]; exact A.a.w, by rw [set_ne h3]; exact A.a.hd, by rw [set_ne h4]; exact A.a.s, A.a.wm, A.a.hm, A.a.sm⟩, by rw [set_ne h5]; exact A.r, A.rm, A.w40⟩
theorem case_spec {t : Nat → Fn} {ar : Str → Nat} {fa : Str → Option Nat} {rr : Nat} (h24 : DrawSp (t 24)) (h30 : BodyS ar fa rr (t 30)) : CaseS ar fa rr (meant t 29) := by
  intro ks hs ws G h n m W Hd Sc R sc r A S h16 hne hr hr0 f H hH hHl
  have hsl : 0 < sc.length := List.length_pos_iff.mpr hne
  have gl : ∀ {g : IH}, g[Sc]? = some (.lst (sc.map eQ)) → gLen [.loc Sc] g = some (.int (sc.length : Nat), g) := fun e => by rw [gLen_lst e, List.length_map]
  refine ok_fun rfl ?_
  unfold b_29
  refine ok_seq ?_
  walk_at "ev"
  refine SK_nx (ok_seq ?_)
  walk_at "ev"
  rw [gl A.a.s]
  walk_at "ev"
  refine (h24 A.a.d ((sc.length : Nat) : Int) (by omega) (by omega)).imp ?_
  rintro ⟨d, h1⟩ ⟨k1, rfl, hk1, K1, D1⟩
  simp only at K1 D1
  have A1 := A.dl K1 D1
  walk_at "ev"
  rw [gl A1.a.s]
  walk_at "ev"
  refine (h24 D1 ((sc.length : Nat) : Int) (by omega) (by omega)).imp ?_
  rintro ⟨d, h2⟩ ⟨k2, rfl, hk2, K2, D2⟩
  simp only at K2 D2
  have A2 := A1.dl K2 D2
  replace K2 := K1.trans K2
  clear K1 D1 A1
  simp only [gMax2]
  walk_at "ev"
  obtain ⟨k3, hk3, e3⟩ : ∃ k3 : Nat, k3 < sc.length ∧ (if (k2 : Int) > (k1 : Int) then (k2 : Int) else (k1 : Int)) = (k3 : Nat) := by
    by_cases hc : (k2 : Int) > (k1 : Int)
    · exact ⟨k2, by omega, by rw [if_pos hc]⟩
    · exact ⟨k1, by omega, by rw [if_neg hc]⟩
  rw [e3]
  have g3 : gIx (.loc Sc) (.int (k3 : Nat)) h2 = some (eQ sc[k3], h2) := by
    rw [gIx_lst A2.a.s, IL.atI_nat, List.getElem?_map, List.getElem?_eq_getElem hk3]; rfl
  rw [g3]
  have hxm : sc[k3] ∈ sc := List.getElem_mem hk3
  generalize sc[k3] = x at *
  clear g3 e3 hk1 hk2
  unfold eQ
  walk_at "ev"
  obtain ⟨hxok, hxk⟩ := S.ok x hxm
  refine SK_nx (ok_seq ?_)
  walk_at "ev"
  rw [dict_ks G.K G.W]
  walk_at "ev"
  obtain ⟨kk, hkk, hkx, hval⟩ := kdic_get hxk
  rw [gIx_dk get_new hval]
  walk_at "ev"
  have A3 := A2.keep (Ext.push h2 (.dic (kdic ks)))
  have K3 : Ext (Dl n m) h (h2 ++ [O.dic (kdic ks)]) := K2.trans (Ext.push _ _)
  generalize h2 ++ [O.dic (kdic ks)] = h3 at *
  clear K2 D2 A2
  have kE := G.K.each kk hkk
  refine SK_nx (ok_seq ?_)
  walk_at "ev"
  rw [gIx_0 A3.r]
  walk_at "ev"
  rw [putAt_0 A3.r]
  walk_at "ev"
  have hal : 0 < kk.2.length := List.length_pos_iff.mpr kE.ne
  have hal3 := kE.len
  obtain ⟨a, ha⟩ : ∃ a : Nat, a = kk.2.length := ⟨_, rfl⟩
  have nRD : ¬ Dl n m R := fun z => by
    rcases z with z | z
    · obtain ⟨s, u, ys, e1, _⟩ := A3.a.d
      rw [← z, A3.r] at e1; cases e1
    · exact A3.rm z
  have K4 : Ext (Dr n m R) h (h3.set R (.lst [.int (r - ((kk.2.map eMk).length : Nat))])) := (dl_dr K3).trans (Ext.set _ _ _ (.inr rfl))
  have A4 := A3.ext (r' := r - a) (h' := h3.set R (.lst [.int (r - ((kk.2.map eMk).length : Nat))])) (Ext.set _ _ _ (.inr rfl)) (A3.a.d.setNew nRD) (by rw [set_at A3.r, List.length_map, ha])
  generalize h3.set R (O.lst [D.int (r - ((kk.2.map eMk).length : Nat))]) = h4 at *
  clear K3 A3
  refine SK_nx (ok_seq ?_)
  walk_at "ev"
  have A5 := A4.keep (Ext.push h4 (.lst []))
  have K5 : Ext (Dr n m R) h (h4 ++ [O.lst []]) := K4.trans (Ext.push _ _)
  have eL := get_new (h := h4) (o := O.lst [])
  have hLm : h4.length ≠ m := fun z => by have := A4.a.d.lt.2; omega
  have hLn : h4.length ≠ n := fun z => by have := A4.a.d.lt.1; omega
  have hLR : h4.length ≠ R := fun z => by have := lt_of_get A4.r; omega
  have hLh : h.length ≤ h4.length := K4.le
  have hLW : h4.length ≠ W := fun z => by have := lt_of_get A4.a.w; omega
  have hLH : h4.length ≠ Hd := fun z => by have := lt_of_get A4.a.hd; omega
  have hLS : h4.length ≠ Sc := fun z => by have := lt_of_get A4.a.s; omega
  generalize h4.length = L at *
  generalize h4 ++ [O.lst []] = h5 at *
  clear K4 A4
  have nLD : ¬ Dl n m L := fun z => by rcases z with z | z <;> omega
  refine SK_nx (ok_seq (ok_for (ok_pSeq ?_)))
  walk_at "ev"
  refine ⟨true, kk.2.map eMk, [], (fun s z => by cases z), rfl, ?_⟩
  refine ok_forI (fun i env h' => ∃ (w12 w13 w14 w15 : Option D) (arms : List (Str × List Str × Pc)) (rc : Int), env = [some (.loc n), some (.tup [.kt (ks.map eKi), .loc Hd, .loc W]), some (.loc Sc), some (.int (f : Nat)), some (.loc R), some (.kt (ks.map eKi)), some (.loc Hd), some (.loc W), some (.str x.1), some (.str x.2), some (.tup (kk.2.map eMk)), some (.loc L), w12, w13, w14, w15, none, none, none] ∧
      Ext (Dr n m R) h h' ∧ At4 h' n m W Hd Sc R ks hs ws sc rc ∧ h'[L]? = some (.lst (arms.map eArm)) ∧ arms.length = i ∧ (∀ a ∈ arms, a.2.1.length = ar a.1 ∧ Wf ar fa (a.2.1 ++ sc.map (·.1)) a.2.2 ∧ (eP a.2.2).fine (3 + 3 * rr) = true ∧ PyData.strOk a.1 = true ∧ ∀ y ∈ a.2.1, PyData.strOk y = true) ∧
      (((arms.flatMap fun a => flat a.2.2).length : Nat) : Int) ≤ 2 * i + 8 * (r - a - rc) ∧ rc ≤ r - a ∧ -3 ≤ rc) (fun _ _ _ _ => depsOk_nil) (fun i d env h' hi hI => ?_) (fun env h' hI => ?_) ⟨none, none, none, none, [], r - a, rfl, K5, A5, eL, rfl, by simp, by simp, by omega, by omega⟩
  · obtain ⟨w12, w13, w14, w15, arms, rc, rfl, K6, A6, eL6, hil, hP, hsum, hrc, hrc3⟩ := hI
    rw [List.getElem?_map] at hi
    obtain ⟨q, hq, rfl⟩ := Option.map_eq_some_iff.mp hi
    have hqm := List.mem_of_getElem? hq
    have hqi := (List.getElem?_eq_some_iff.mp hq).1
    have hfl := kE.fl q hqm
    have hff := G.K.fin kk hkk q hqm
    unfold eMk
    walk_at "ev"
    refine ok_seq ?_
    simp only [sAsg, Ok_bind]
    have hwl := G.W.len
    refine ok_mapK (items := enumD 0 (q.2.map D.str)) (dp := []) (h1 := h') (fun i y => ∃ p : Str × Str, (PyData.strOk p.1 = true ∧ p.2 ∈ ks.map (·.1)) ∧ y = eQ p) ?_ depsOk_nil (by rw [enumD_len]; simp; omega) ?_ ?_
    · unfold pEnum
      walk_at "ev"
      rfl
    · intro j d h7 hd7 K7
      obtain ⟨y, hy, rfl⟩ := enumD_get _ _ _ _ hd7
      rw [List.getElem?_map] at hy
      obtain ⟨fl, hfl', rfl⟩ := Option.map_eq_some_iff.mp hy
      have hj := (List.getElem?_eq_some_iff.mp hfl').1
      have A7 := A6.keep K7
      walk_at "ev"
      rw [gl A7.a.s]
      walk_at "ev"
      have e7 : ((sc.length : Int) + ((0 + j : Nat) : Int)) = ((sc.length + j : Nat) : Int) := by omega
      rw [e7]
      have hlt : sc.length + j < ws.length := by omega
      have gw : gIx (.loc W) (.int ((sc.length + j : Nat) : Nat)) h7 = some (.str ws[sc.length + j], h7) := by
        rw [gIx_lst A7.a.w, IL.atI_nat, List.getElem?_map, List.getElem?_eq_getElem hlt]; rfl
      rw [gw]
      walk_at "ev"
      exact ⟨⟨(ws[sc.length + j], fl), ⟨G.W.ok _ (List.getElem_mem hlt), hff fl (List.mem_of_getElem? hfl')⟩, rfl⟩, Ext.refl _⟩
    · intro ys h7 hyl hyP K7 hn7
      obtain ⟨more, rfl, hmore⟩ := pairs_of hyP
      have hml : more.length = q.2.length := by rw [List.length_map, enumD_len, List.length_map] at hyl; exact hyl
      have hmok : ∀ p ∈ more, PyData.strOk p.1 = true ∧ p.2 ∈ ks.map (·.1) := fun p hp => by
        obtain ⟨j, hj, e⟩ := List.mem_iff_getElem.mp hp
        exact hmore j p (by rw [List.getElem?_eq_getElem hj, e])
      have A7 := A6.keep K7
      have eL7 := K7.get eL6
      have K7' : Ext (Dr n m R) h h7 := K6.trans (Ext.keep K7)
      have hML : h'.length ≠ L := fun z => by have := lt_of_get eL6; omega
      generalize h'.length = M at *
      clear K6 A6 eL6 K7
      walk_at "ev"
      refine SK_nx (ok_seq ?_)
      simp only [sAsg, iB, iCons, iNil, Ok_bind]
      refine ok_mapF (items := more.map eQ) (dp := [(M, more.map eQ)]) (h1 := h7) (fun d => match d with
        | .tup [y, _] => y
        | d => d) ?_ (depsOk_one hn7) (by simp; omega) ?_ ?_
      · unfold pSeq
        walk_at "ev"
        rw [seqSrc_lst hn7]
        rfl
      · intro d hd' h8 K8
        obtain ⟨⟨u, v⟩, _, rfl⟩ := List.mem_map.mp hd'
        unfold eQ
        walk_at "ev"
        exact ⟨trivial, Ext.refl _⟩
      · intro h8 K8 hn8
        have e8 : ((more.map eQ).map fun d => match d with
          | .tup [y, _] => y
          | d => d) = (more.map (·.1)).map D.str := by rw [List.map_map, List.map_map]; rfl
        rw [e8] at hn8
        have A8 := A7.keep K8
        have eL8 := K8.get eL7
        have hM8 := K8.get hn7
        replace K8 : Ext (Dr n m R) h h8 := K7'.trans (Ext.keep K8)
        clear K7' A7 eL7 hn7
        walk_at "ev"
        simp only [gTupOf_lst hn8]
        walk_at "ev"
        refine SK_nx ?_
        simp only [sExpr, Ok_bind]
        refine ok_bm ?_
        walk_at "ev"
        refine ⟨isTy_lst eL8, ?_⟩
        rw [gAdd_lst A8.a.s hM8 (sz_of (by simp; omega))]
        walk_at "ev"
        have A9 := A8.keep (Ext.push h8 (.lst (sc.map eQ ++ more.map eQ)))
        have K9 : Ext (Dr n m R) h (h8 ++ [O.lst (sc.map eQ ++ more.map eQ)]) := K8.trans (Ext.push _ _)
        have eL9 := get_old (o' := O.lst (sc.map eQ ++ more.map eQ)) eL8
        have hm8 : h8.length ≠ m := fun z => by have := A8.a.d.lt.2; omega
        have eS9 : (h8 ++ [O.lst (sc.map eQ ++ more.map eQ)])[h8.length]? = some (.lst ((sc ++ more).map eQ)) := by rw [get_new, List.map_append]
        have A9' := A9.scope eS9 hm8
        generalize h8 ++ [O.lst (sc.map eQ ++ more.map eQ)] = h9 at *
        clear K8 A8 eL8 hn8 hM8
        refine (h30 G A9' ⟨fun p hp => ?_, by rw [List.length_append]; omega⟩ (by omega) hrc3 hH (by rw [List.length_append]; omega)).imp ?_
        · rcases List.mem_append.mp hp with hp | hp
          · exact S.ok p hp
          · exact hmok p hp
        rintro ⟨d, h10⟩ ⟨b, r', rfl, b1, b2, b3, b4, b5, K10, A10⟩
        simp only at K10 A10
        have eL10 := dr_get A9.a.d K10 eL9 hLm hLR
        have A11 := A9.ext K10 A10.a.d A10.r
        replace K10 := K9.trans K10
        walk_at "ev"
        refine Ok.of (gAppend_lst eL10 (sz_lt (by simp; omega))) ?_
        have nLR : ¬ Dr n m R L := fun z => by
          rcases z with z | z
          · exact nLD z
          · exact hLR z
        have A12 := A11.setL (o := O.lst (arms.map eArm ++ [D.tup [.str q.1, .tup ((more.map (·.1)).map D.str), eP b]])) nLD hLW hLH hLS hLR
        refine ⟨_, _, _, _, arms ++ [(q.1, more.map (·.1), b)], r', rfl, K10.setNew _ _ hLh, A12, ?_, by simp [hil], ?_, ?_, by omega, b5⟩
        · rw [set_at eL10]
          simp [eArm, eS]
        · intro a' ha'
          rcases List.mem_append.mp ha' with ha' | ha'
          · exact hP a' ha'
          · rw [List.mem_singleton] at ha'
            subst ha'
            refine ⟨by rw [List.length_map, hml]; exact (G.ar_ kk hkk q hqm).symm, b1.mono (fun _ _ z => z) len_names, b2, G.K.mok G.W kk hkk q hqm, fun y hy => ?_⟩
            obtain ⟨p, hp, rfl⟩ := List.mem_map.mp hy
            exact (hmok p hp).1
        · rw [List.flatMap_append, List.length_append]
          simp only [List.flatMap_cons, List.flatMap_nil, List.append_nil]
          omega
  · obtain ⟨w12, w13, w14, w15, arms, rc, rfl, K6, A6, eL6, hil, hP, hsum, hrc, hrc3⟩ := hI
    rw [List.length_map] at hil hsum
    refine SK_nx ?_
    walk_at "ev"
    simp only [gTupOf_lst eL6]
    walk_at "ev"
    refine ⟨.case x.1 (toArms arms), rc, ?_, ?_, ?_, ?_, by omega, hrc3, K6, A6⟩
    · simp only [eP, eA_l, toArms_l]
    · simp only [Wf]
      exact ⟨List.mem_map.mpr ⟨x, hxm, rfl⟩, toArms_wf fun a ha => ⟨(hP a ha).1, (hP a ha).2.1⟩⟩
    · have e : PyData.strOk ("case" : Str) = true := by decide +kernel
      rw [show eP (.case x.1 (toArms arms)) = .tup [.str "case", .str x.1, .tup (arms.map eArm)] from by simp only [eP, eA_l, toArms_l]]
      rw [show 6 + 3 * rr = (4 + 3 * rr + 1) + 1 from by omega]
      simp only [fine_tup, D.fines, fine_str, e, hxok, Bool.true_and, Bool.and_true]
      refine fines_iff.mpr fun d hd => ?_
      obtain ⟨a', ha', rfl⟩ := List.mem_map.mp hd
      obtain ⟨p1, p2, p3, p4, p5⟩ := hP a' ha'
      unfold eArm
      rw [show 4 + 3 * rr = (3 + 3 * rr) + 1 from by omega]
      simp only [fine_tup, D.fines, fine_str, p4, p3, Bool.true_and, Bool.and_true]
      rw [show 3 + 3 * rr = (2 + 3 * rr) + 1 from by omega]
      exact fine_eS p5
    · simp only [flat, flats_l, toArms_l, List.length_cons]
      omega
end K88

namespace K88
open PySem PySem.Spec PyProof.Rows L2 IL
local macro_rules | `(tactic| walk_at "ev") => `(tactic| simp (config := { decide := false }) only [iVar, iC, iOp, iCons, iNil, iB, iCall, jVal, jAnd, jOr, jNot, iIf, iNeg, iNot, IL.iTup, IL.iTupP, IL.iLst, iSl, iNo, iPart, sAsg, sExpr, sRet, sRetN, sSkip, sAugN, sAugS, sPar, gNm, gTp, gsCons, gsNil, gSb, one, two, gInt, jYes, CT.put, wipeD, setAll, iListRev, parSet,
  List.getElem?_cons_zero, List.getElem?_cons_succ, List.set_cons_zero, List.set_cons_succ, List.map_cons, List.map_nil, List.cons_append, List.nil_append, List.replicate_succ, List.replicate_zero, List.getLast?_cons_cons, List.getLast?_singleton,
  Option.bind_some, Option.map_some, Ok_some, Ok_bind, Ok_map, if_true, if_false, Bool.false_eq_true, decide_true, decide_false, List.length_cons, List.length_nil, Nat.zero_le, sz1, sz2, sz3, sz4, sz5, sz6, sz7, sz8, sz9, sz10, sz11, sz12, Bool.not_true, Bool.not_false,
  iFld, iMeth, iDicK, gIx_tup, gIx_kt, gIx_sl, atI_0, atI_1, atI_2, atI_3, atI_4, atI_5, atI_m1, gEq_str, gEq_int, gNe_str, gNe_int, gAdd_int, seqD_tup, seqD_kt, gLen_tup, gLen_kt, Int.reduceNeg, len_push,
  le1, le2, le3, le4, le5, le6, le7, le8, le9, le10, le11, lw1, lw2, lw3, lw4, lw5, lw6, lw7, lw8, lw9, lw10, lw11, lw12, lw13, lw14, lw15, lw16, lw17])
/-! ### a body -/
def EndedS (ar : Str → Nat) (fa : Str → Option Nat) (F : Fn) : Prop := ∀ {ks : KD} {hs : List Hdd} {ws : List Str}, Wd ar fa ks hs ws → ∀ {h : IH} {n m W Hd Sc : Nat} {sc : List (Str × Str)}, At3 h n m W Hd Sc ks hs ws sc → ScOk ks sc → ∀ {k : Str}, k ∈ ks.map (·.1) → ∀ {f : Nat} {H : Hdd}, hs[f]? = some H → H.params.length ≤ sc.length →
  Ok (F [.loc n, .tup [.kt (ks.map eKi), .loc Hd, .loc W], .loc Sc, .str k, .int (f : Nat)] h) fun r => ∃ p, r.1 = eP p ∧ GP ar fa sc 3 2 p ∧ Ext (Dl n m) h r.2 ∧ Deal r.2 n m
/-- what stands behind a body's piece -/
def BRes (ar : Str → Nat) (fa : Str → Option Nat) (rr : Nat) (h : IH) (n m W Hd Sc R : Nat) (ks : KD) (hs : List Hdd) (ws : List Str) (sc : List (Str × Str)) (r : Int) (z : D × IH) : Prop :=
  ∃ p r', z.1 = eP p ∧ Wf ar fa (sc.map (·.1)) p ∧ (eP p).fine (3 + 3 * rr) = true ∧ ((flat p).length : Int) ≤ 2 + 8 * (r - r') ∧ r' ≤ r ∧ -3 ≤ r' ∧ Ext (Dr n m R) h z.2 ∧ At4 z.2 n m W Hd Sc R ks hs ws sc r'
theorem bres_of {ar : Str → Nat} {fa : Str → Option Nat} {rr : Nat} {h h' : IH} {n m W Hd Sc R : Nat} {ks : KD} {hs : List Hdd} {ws : List Str} {sc : List (Str × Str)} {r : Int} {p : Pc} {z : IH} {g : GP ar fa sc 3 2 p} (A : At4 h' n m W Hd Sc R ks hs ws sc r) (K : Ext (Dr n m R) h h') (hr : -3 ≤ r) (k : Ext (Dl n m) h' z) (d : Deal z n m) :
    BRes ar fa rr h n m W Hd Sc R ks hs ws sc r (eP p, z) :=
  ⟨p, r, rfl, g.wf, fine_mono g.fine (by omega), by have := g.len; omega, Int.le_refl _, hr, K.trans (dl_dr k), A.dl k d⟩
section
variable {n : Int} {x y c : Str} {ys : List Str} {p : Pc} {d : Nat}
theorem fine_pay (hp : (eP p).fine (d + 1) = true) : (eP (.pay n p)).fine (d + 2) = true := by
  have e : PyData.strOk ("pay" : Str) = true := by decide +kernel
  simp only [eP, fine_tup, D.fines, fine_str, fine_int, e, hp, Bool.and_self]
theorem fine_get (hp : (eP p).fine (d + 1) = true) : (eP (.get n p)).fine (d + 2) = true := by
  have e : PyData.strOk ("get" : Str) = true := by decide +kernel
  simp only [eP, fine_tup, D.fines, fine_str, fine_int, e, hp, Bool.and_self]
theorem fine_name (hx : PyData.strOk x = true) (hy : PyData.strOk y = true) (hp : (eP p).fine (d + 1) = true) : (eP (.name x y p)).fine (d + 2) = true := by
  have e : PyData.strOk ("name" : Str) = true := by decide +kernel
  simp only [eP, fine_tup, D.fines, fine_str, hx, hy, e, hp, Bool.and_self]
theorem fine_call (hx : PyData.strOk x = true) (hc : PyData.strOk c = true) (hy : ∀ y ∈ ys, PyData.strOk y = true) (hp : (eP p).fine (d + 1) = true) : (eP (.call x c ys p)).fine (d + 2) = true := by
  have e : PyData.strOk ("call" : Str) = true := by decide +kernel
  simp only [eP, fine_tup, D.fines, fine_str, hx, hc, e, hp, fine_eS hy, Bool.and_self]
theorem fine_make (hx : PyData.strOk x = true) (hc : PyData.strOk c = true) (hy : ∀ y ∈ ys, PyData.strOk y = true) (hp : (eP p).fine (d + 1) = true) : (eP (.make x c ys p)).fine (d + 2) = true := by
  have e : PyData.strOk ("make" : Str) = true := by decide +kernel
  simp only [eP, fine_tup, D.fines, fine_str, hx, hc, e, hp, fine_eS hy, Bool.and_self]
end
theorem gNe_scope {ks : KD} {ws : List Str} (K : Kds ks ws) (W : Ws ws) {sc : List (Str × Str)} (S : ScOk ks sc) {h : IH} {a b : Nat} (e1 : h[a]? = some (.lst (sc.map eQ))) (e2 : h[b]? = some (.lst [])) : gNe (.loc a) (.loc b) h = some (.bl (!decide (sc = [])), h) := by
  have hf : D.fines (sc.map eQ) 2 = true := fines_iff.mpr fun x hx => by
    obtain ⟨q, hq, rfl⟩ := List.mem_map.mp hx
    have := S.ok q hq
    simp only [eQ, fine_tup, D.fines, fine_str, this.1, K.kok W _ this.2, Bool.and_self]
  rw [gNe_nil e1 e2 hf (by decide)]
  cases sc <;> rfl
theorem test_scope {ks : KD} {ws : List Str} (K : Kds ks ws) (W : Ws ws) {sc : List (Str × Str)} (S : ScOk ks sc) {p : IT} {b : Bool} {env : IEnv} {h : IH} {Sc : Nat} (hp : p env h = some (b, h)) (henv : env[2]? = some (some (.loc Sc))) (e : h[Sc]? = some (.lst (sc.map eQ))) :
    ∃ g, Keep h g ∧ jAnd p (jVal (iOp gNe (iVar 2) (iLst iNil))) env h = some (b && !decide (sc = []), g) := by
  cases b
  · exact ⟨h, Ext.refl _, by simp only [jAnd, hp, Option.bind_some, Bool.false_eq_true, if_false, Bool.false_and]⟩
  · refine ⟨h ++ [.lst []], Ext.push _ _, ?_⟩
    have hz : (0 ≤ sizeLine) = True := eq_true (Nat.zero_le _)
    simp only [jAnd, hp, Option.bind_some, if_true, jVal, iOp, iVar, henv, Option.map_some, IL.iLst, iNil, List.length_nil, hz, gNe_scope K W S (get_old e) (get_new (h := h) (o := O.lst [])), Bool.true_and]
theorem namesOne {sc : List (Str × Str)} {x k : Str} : ∀ y ∈ (sc ++ [(x, k)]).map (·.1), y ∈ x :: sc.map (·.1) := fun y hy => by
  rw [List.map_append] at hy
  rcases List.mem_append.mp hy with hy | hy
  · exact List.mem_cons_of_mem _ hy
  · simp at hy; subst hy; exact List.mem_cons_self ..
theorem grow {g : IH} {n m W Hd Sc R : Nat} {ks : KD} {hs : List Hdd} {ws : List Str} {sc : List (Str × Str)} {r : Int} (A : At4 g n m W Hd Sc R ks hs ws sc r) (hl : sc.length ≤ 100) (x k : Str) :
    ∃ g', gAdd (.loc Sc) (.loc g.length) (g ++ [.lst [.tup [.str x, .str k]]]) = some (.loc (g.length + 1), g') ∧ Keep g g' ∧ At4 g' n m W Hd (g.length + 1) R ks hs ws (sc ++ [(x, k)]) r ∧ At4 g' n m W Hd Sc R ks hs ws sc r := by
  have e1 := get_old (o' := O.lst [D.tup [.str x, .str k]]) A.a.s
  have e2 := get_new (h := g) (o := O.lst [D.tup [.str x, .str k]])
  have e3 := get_new (h := g ++ [O.lst [D.tup [.str x, .str k]]]) (o := O.lst (sc.map eQ ++ [D.tup [.str x, .str k]]))
  simp only [len_push] at e3
  have K : Keep g (g ++ [O.lst [D.tup [.str x, .str k]]] ++ [O.lst (sc.map eQ ++ [D.tup [.str x, .str k]])]) := (Ext.push _ _).trans (Ext.push _ _)
  have A2 := A.keep K
  refine ⟨_, by rw [gAdd_lst e1 e2 (sz_of (by simp; omega)), len_push], K, A2.scope ?_ (fun z => by have := A.a.d.lt.2; omega), A2⟩
  rw [e3, List.map_append]
  rfl
theorem body_spec {t : Nat → Fn} {ar : Str → Nat} {fa : Str → Option Nat} {rr : Nat} (h24 : DrawSp (t 24)) (h27 : FillSp (t 27)) (h28 : EndedS ar fa (t 28)) (hs_ : ∀ r', rr = r' + 1 → BodyS ar fa r' (t 30) ∧ CaseS ar fa r' (t 29)) : BodyS ar fa rr (meant t 30) := by
  intro ks hs ws G h n m W Hd Sc R sc r A S hr hr3 f H hH hHl
  show Ok _ (BRes ar fa rr h n m W Hd Sc R ks hs ws sc r)
  have gl : ∀ {g : IH}, g[Sc]? = some (.lst (sc.map eQ)) → gLen [.loc Sc] g = some (.int (sc.length : Nat), g) := fun e => by rw [gLen_lst e, List.length_map]
  have Hm := List.mem_of_getElem? hH
  have slen := S.len
  have wlen := A.w40
  have sok : ∀ q ∈ sc, PyData.strOk q.1 = true := fun q hq => (S.ok q hq).1
  have nok : ∀ y ∈ sc.map (·.1), PyData.strOk y = true := fun y hy => by
    obtain ⟨q, hq, rfl⟩ := List.mem_map.mp hy
    exact sok q hq
  refine ok_fun rfl ?_
  unfold b_30
  refine ok_seq ?_
  walk_at "ev"
  refine SK_nx (ok_seq ?_)
  walk_at "ev"
  have gh : ∀ {g : IH} {f : Nat} {H : Hdd}, hs[f]? = some H → g[Hd]? = some (.lst (hs.map eHd)) → gIx (.loc Hd) (.int (f : Nat)) g = some (eHd H, g) := fun hH e => by
    rw [gIx_lst e, IL.atI_nat, List.getElem?_map, hH]; rfl
  rw [gh hH A.a.hd]
  walk_at "ev"
  rw [show eHd H = D.tup [.str H.name, .tup (H.params.map eQ), .str H.res] from rfl]
  walk_at "ev"
  refine SK_nx (ok_seq ?_)
  walk_at "ev"
  refine (h24 A.a.d 10 (by decide) (by decide)).imp ?_
  rintro ⟨d, h1⟩ ⟨form, rfl, hform, K1, D1⟩
  simp only at K1 D1
  have A1 := A.dl K1 D1
  walk_at "ev"
  refine SK_nx (ok_seq (ok_if ?_))
  by_cases he : r < 1 ∨ form = 9 ∨ 16 < sc.length
  · refine Ok.of (a := (true, h1)) ?_ ?_
    · simp only [jOr, jVal, iOp, iVar, iC, iB, iCons, iNil, List.getElem?_cons_succ, List.getElem?_cons_zero, Option.bind_some, Option.map_some, gIx_0 A1.r, gInt, gEq_int, gl A1.a.s, if_true]
      by_cases c1 : r < 1
      · simp [c1]
      · by_cases c2 : form = 9
        · simp [c1, c2]
        · have c3 : 16 < sc.length := by
            rcases he with z | z | z
            · exact absurd z c1
            · exact absurd z c2
            · exact z
          have c3' : (16 : Int) < (sc.length : Nat) := by omega
          have c2' : ¬ ((form : Int) = 9) := by omega
          simp [c1, c2', c3']
    · simp only [if_true]
      walk_at "ev"
      refine (h28 G A1.a S (G.hp H Hm).2.2.1 hH hHl).imp ?_
      rintro ⟨d, h2⟩ ⟨p, rfl, g, K2, D2⟩
      exact bres_of (g := g) A1 (dl_dr K1) hr3 K2 D2
  · have c1 : ¬ r < 1 := fun z => he (.inl z)
    have c2 : form ≠ 9 := fun z => he (.inr (.inl z))
    have c3 : sc.length ≤ 16 := by
      have : ¬ 16 < sc.length := fun z => he (.inr (.inr z))
      omega
    clear he
    obtain ⟨r', rfl⟩ : ∃ r', rr = r' + 1 := ⟨rr - 1, by omega⟩
    obtain ⟨h30, h29⟩ := hs_ r' rfl
    clear hs_
    refine Ok.of (a := (false, h1)) ?_ ?_
    · have c3' : ¬ ((16 : Int) < (sc.length : Nat)) := by omega
      have c2' : ¬ ((form : Int) = 9) := by omega
      simp only [jOr, jVal, iOp, iVar, iC, iB, iCons, iNil, List.getElem?_cons_succ, List.getElem?_cons_zero, Option.bind_some, Option.map_some, gIx_0 A1.r, gInt, gEq_int, gl A1.a.s, if_true]
      simp [c1, c2', c3']
    simp only [Bool.false_eq_true, if_false, sSkip, Ok_some]
    refine SK_nx (ok_seq ?_)
    walk_at "ev"
    rw [gIx_0 A1.r]
    walk_at "ev"
    rw [putAt_0 A1.r]
    walk_at "ev"
    have nRD : ¬ Dl n m R := fun z => by
      rcases z with z | z
      · obtain ⟨s, u, ys, e1, _⟩ := A1.a.d
        rw [← z, A1.r] at e1; cases e1
      · exact A1.rm z
    have K2 : Ext (Dr n m R) h (h1.set R (.lst [.int (r - 1)])) := (dl_dr K1).trans (Ext.set _ _ _ (.inr rfl))
    have A2 := A1.ext (r' := r - 1) (h' := h1.set R (.lst [.int (r - 1)])) (Ext.set _ _ _ (.inr rfl)) (A1.a.d.setNew nRD) (set_at A1.r)
    generalize h1.set R (O.lst [D.int (r - 1)]) = h2 at *
    clear A1 K1 D1 A
    have hx : sc.length < ws.length := by omega
    have gx : ∀ {g : IH}, g[W]? = some (.lst (ws.map D.str)) → gIx (.loc W) (.int (sc.length : Nat)) g = some (.str ws[sc.length], g) := fun e => by
      rw [gIx_lst e, IL.atI_nat, List.getElem?_map, List.getElem?_eq_getElem hx]; rfl
    have xok : PyData.strOk ws[sc.length] = true := G.W.ok _ (List.getElem_mem hx)
    refine SK_nx (ok_seq ?_)
    walk_at "ev"
    rw [gl A2.a.s]
    walk_at "ev"
    rw [gx A2.a.w]
    walk_at "ev"
    generalize ws[sc.length] = x at *
    clear gx hx
    -- pay, get
    refine SK_nx (ok_seq (ok_if ?_))
    walk_at "ev"
    by_cases c4 : form < 2
    · simp only [show decide ((form : Int) < 2) = true from decide_eq_true (by omega), if_true]
      refine ok_seq ?_
      walk_at "ev"
      have A3 := A2.keep (Ext.push h2 (.lst [D.int 3, D.int 9, D.int 1000]))
      have K3 : Ext (Dr n m R) h (h2 ++ [O.lst [D.int 3, D.int 9, D.int 1000]]) := K2.trans (Ext.push _ _)
      have eV3 := get_new (h := h2) (o := O.lst [D.int 3, D.int 9, D.int 1000])
      have hVm : h2.length ≠ m := fun z => by have := A2.a.d.lt.2; omega
      generalize h2.length = V at *
      generalize h2 ++ [O.lst [D.int 3, D.int 9, D.int 1000]] = h3 at *
      clear A2 K2
      refine (h24 A3.a.d 3 (by decide) (by decide)).imp ?_
      rintro ⟨d, h4⟩ ⟨k1, rfl, hk1, K4, D4⟩
      simp only at K4 D4
      have A4 := A3.dl K4 D4
      have eV4 := dl_get A3.a.d K4 eV3 hVm
      replace K4 := K3.trans (dl_dr K4)
      clear K3 A3 eV3
      walk_at "ev"
      obtain ⟨v, hv1, hv2, gv⟩ : ∃ v : Int, 0 < v ∧ v ≤ 1000 ∧ gIx (.loc V) (.int (k1 : Nat)) h4 = some (.int v, h4) := by
        rw [gIx_lst eV4, IL.atI_nat]
        rcases k1 with _ | _ | _ | k1
        · exact ⟨3, by decide, by decide, rfl⟩
        · exact ⟨9, by decide, by decide, rfl⟩
        · exact ⟨1000, by decide, by decide, rfl⟩
        · omega
      rw [gv]
      walk_at "ev"
      refine (h24 D4 v hv1 (by omega)).imp ?_
      rintro ⟨d, h5⟩ ⟨k2, rfl, hk2, K5, D5⟩
      simp only at K5 D5
      have A5 := A4.dl K5 D5
      replace K5 := K4.trans (dl_dr K5)
      clear K4 A4 D4 eV4 gv
      walk_at "ev"
      refine SK_nx (ok_seq ?_)
      walk_at "ev"
      have A6 := A5.keep (Ext.push h5 (.lst [D.str "pay", D.str "pay", D.str "get"]))
      have K6 : Ext (Dr n m R) h (h5 ++ [O.lst [D.str "pay", D.str "pay", D.str "get"]]) := K5.trans (Ext.push _ _)
      have eV6 := get_new (h := h5) (o := O.lst [D.str "pay", D.str "pay", D.str "get"])
      have hUm : h5.length ≠ m := fun z => by have := A5.a.d.lt.2; omega
      generalize h5.length = U at *
      generalize h5 ++ [O.lst [D.str "pay", D.str "pay", D.str "get"]] = h6 at *
      clear A5 K5
      refine (h24 A6.a.d 3 (by decide) (by decide)).imp ?_
      rintro ⟨d, h7⟩ ⟨k3, rfl, hk3, K7, D7⟩
      simp only at K7 D7
      have A7 := A6.dl K7 D7
      have eV7 := dl_get A6.a.d K7 eV6 hUm
      replace K7 := K6.trans (dl_dr K7)
      clear K6 A6 eV6
      walk_at "ev"
      obtain ⟨v3, hv3, gv⟩ : ∃ v3 : Str, (v3 = "pay" ∨ v3 = "get") ∧ gIx (.loc U) (.int (k3 : Nat)) h7 = some (.str v3, h7) := by
        rw [gIx_lst eV7, IL.atI_nat]
        rcases k3 with _ | _ | _ | k3
        · exact ⟨"pay", .inl rfl, rfl⟩
        · exact ⟨"pay", .inl rfl, rfl⟩
        · exact ⟨"get", .inr rfl, rfl⟩
        · omega
      rw [gv]
      walk_at "ev"
      refine SK_nx ?_
      walk_at "ev"
      refine (h30 G A7 S (by omega) (by omega) hH hHl).imp ?_
      rintro ⟨d, h8⟩ ⟨p, r2, rfl, b1, b2, b3, b4, b5, K8, A8⟩
      simp only at K8 A8
      rcases hv3 with rfl | rfl
      · refine ⟨.pay (1 + (k2 : Nat)) p, r2, ?_, ?_, fine_mono (fine_pay (d := 2 + 3 * r') (by rw [show 2 + 3 * r' + 1 = 3 + 3 * r' from by omega]; exact b2)) (by omega), ?_, by omega, b5, K7.trans K8, A8⟩
        · simp only [eP]
        · simp only [Wf]; exact ⟨by omega, b1⟩
        · simp only [flat, List.length_cons]; omega
      · refine ⟨.get (1 + (k2 : Nat)) p, r2, ?_, ?_, fine_mono (fine_get (d := 2 + 3 * r') (by rw [show 2 + 3 * r' + 1 = 3 + 3 * r' from by omega]; exact b2)) (by omega), ?_, by omega, b5, K7.trans K8, A8⟩
        · simp only [eP]
        · simp only [Wf]; exact ⟨by omega, b1⟩
        · simp only [flat, List.length_cons]; omega
    simp only [show decide ((form : Int) < 2) = false from decide_eq_false (by omega), Bool.false_eq_true, if_false]
    refine SK_nx (ok_seq (ok_if ?_))
    -- case
    obtain ⟨g3, Kg3, eg3⟩ := test_scope G.K G.W S (p := jVal (iOp gLt (iVar 9) (iC (.int 5)))) (b := decide ((form : Int) < 5)) (env := [some (.loc n), some (.tup [.kt (ks.map eKi), .loc Hd, .loc W]), some (.loc Sc), some (.int (f : Nat)), some (.loc R), some (.kt (ks.map eKi)), some (.loc Hd), some (.loc W), some (.str H.res), some (.int (form : Nat)), some (.str x), none, none, none, none, none, none, none, none, none, none, none]) (h := h2) (by walk_at "ev") rfl A2.a.s
    refine Ok.of eg3 ?_
    have A3 := A2.keep Kg3
    have K3 : Ext (Dr n m R) h g3 := K2.trans (Ext.keep Kg3)
    clear eg3 Kg3 A2 K2
    by_cases c5 : form < 5 ∧ sc ≠ []
    · simp only [show decide ((form : Int) < 5) = true from decide_eq_true (by omega), decide_eq_false c5.2, Bool.not_false, Bool.and_self, if_true]
      walk_at "ev"
      refine (h29 G A3 S c3 c5.2 (by omega) (by omega) hH hHl).imp ?_
      rintro ⟨d, h8⟩ ⟨p, r2, rfl, b1, b2, b3, b4, b5, K8, A8⟩
      exact ⟨p, r2, rfl, b1, fine_mono b2 (by omega), by omega, by omega, b5, K3.trans K8, A8⟩
    simp only [show (decide ((form : Int) < 5) && !decide (sc = [])) = false from by
      by_cases z : sc = []
      · simp [z]
      · have : ¬ form < 5 := fun q => c5 ⟨q, z⟩
        simp [z]; omega, Bool.false_eq_true, if_false, sSkip, Ok_some]
    refine SK_nx (ok_seq (ok_if ?_))
    -- name
    obtain ⟨g4, Kg4, eg4⟩ := test_scope G.K G.W S (p := jVal (iOp gEq (iVar 9) (iC (.int 5)))) (b := decide ((form : Int) = 5)) (env := [some (.loc n), some (.tup [.kt (ks.map eKi), .loc Hd, .loc W]), some (.loc Sc), some (.int (f : Nat)), some (.loc R), some (.kt (ks.map eKi)), some (.loc Hd), some (.loc W), some (.str H.res), some (.int (form : Nat)), some (.str x), none, none, none, none, none, none, none, none, none, none, none]) (h := g3) (by walk_at "ev") rfl A3.a.s
    refine Ok.of eg4 ?_
    have A4 := A3.keep Kg4
    have K4 : Ext (Dr n m R) h g4 := K3.trans (Ext.keep Kg4)
    clear eg4 Kg4 A3 K3
    by_cases c6 : form = 5 ∧ sc ≠ []
    · simp only [show decide ((form : Int) = 5) = true from decide_eq_true (by omega), decide_eq_false c6.2, Bool.not_false, Bool.and_self, if_true]
      have hsl : 0 < sc.length := List.length_pos_iff.mpr c6.2
      refine ok_seq ?_
      walk_at "ev"
      rw [gl A4.a.s]
      walk_at "ev"
      refine (h24 A4.a.d ((sc.length : Nat) : Int) (by omega) (by omega)).imp ?_
      rintro ⟨d, h5⟩ ⟨k1, rfl, hk1, K5, D5⟩
      simp only at K5 D5
      have A5 := A4.dl K5 D5
      replace K5 := K4.trans (dl_dr K5)
      clear K4 A4
      walk_at "ev"
      have hk1' : k1 < sc.length := by omega
      have g1 : gIx (.loc Sc) (.int (k1 : Nat)) h5 = some (eQ sc[k1], h5) := by
        rw [gIx_lst A5.a.s, IL.atI_nat, List.getElem?_map, List.getElem?_eq_getElem hk1']; rfl
      rw [g1]
      have hym : sc[k1] ∈ sc := List.getElem_mem hk1'
      generalize sc[k1] = y at *
      obtain ⟨hy1, hy2⟩ := S.ok y hym
      unfold eQ
      walk_at "ev"
      refine SK_nx ?_
      walk_at "ev"
      obtain ⟨g6, eg6, Kg6, B6, A6⟩ := grow A5 (by omega) x y.2
      rw [eg6]
      walk_at "ev"
      replace K5 : Ext (Dr n m R) h g6 := K5.trans (Ext.keep Kg6)
      refine (h30 G B6 ⟨fun p hp => ?_, by rw [List.length_append]; simp; omega⟩ (by omega) (by omega) hH (by rw [List.length_append]; omega)).imp ?_
      · rcases List.mem_append.mp hp with hp | hp
        · exact S.ok p hp
        · rw [List.mem_singleton] at hp
          subst hp
          exact ⟨xok, hy2⟩
      rintro ⟨d, h8⟩ ⟨p, r2, rfl, b1, b2, b3, b4, b5, K8, A8⟩
      simp only at K8 A8
      refine ⟨.name x y.1 p, r2, ?_, ?_, fine_mono (fine_name (d := 2 + 3 * r') xok hy1 (by rw [show 2 + 3 * r' + 1 = 3 + 3 * r' from by omega]; exact b2)) (by omega), ?_, by omega, b5, K5.trans K8, A6.ext K8 A8.a.d A8.r⟩
      · simp only [eP]
      · simp only [Wf]; exact ⟨List.mem_map.mpr ⟨y, hym, rfl⟩, b1.mono (fun _ _ z => z) namesOne⟩
      · simp only [flat, List.length_cons]; omega
    simp only [show (decide ((form : Int) = 5) && !decide (sc = [])) = false from by
      by_cases z : sc = []
      · simp [z]
      · have : ¬ form = 5 := fun q => c6 ⟨q, z⟩
        simp [z]; omega, Bool.false_eq_true, if_false, sSkip, Ok_some]
    refine SK_nx (ok_seq (ok_if ?_))
    walk_at "ev"
    have tail : ∀ {h5 : IH} {w15 w16 : Option D}, Ext (Dr n m R) h h5 → At4 h5 n m W Hd Sc R ks hs ws sc (r - 1) →
        Ok ((sSeq (sAsg (iOp gIx (iVar 5) (iCall (t 24) (iCons (iVar 0) (iCons (iB gLen (iCons (iVar 5) iNil)) iNil)))) (gTp 2 (gsCons (gNm 17) (gsCons (gNm 18) gsNil)))) (sSeq (sAsg (iOp gIx (iVar 18) (iCall (t 24) (iCons (iVar 0) (iCons (iB gLen (iCons (iVar 18) iNil)) iNil)))) (gTp 2 (gsCons (gNm 19) (gsCons (gNm 20) gsNil)))) (sSeq (sAsg (iCall (t 27) (iCons (iVar 0) (iCons (iVar 2) (iCons (iVar 20) iNil)))) (gNm 16)) (sSeq (sIf (jVal (iOp gIs (iVar 16) (iC .non))) (sRet (iCall (t 28) (iCons (iVar 0) (iCons (iVar 1) (iCons (iVar 2) (iCons (iVar 8) (iCons (iVar 3) iNil))))))) sSkip) (sRet (IL.iTup (iCons (iC (.str "make")) (iCons (iVar 10) (iCons (iVar 19) (iCons (iVar 16) (iCons (iCall (t 30) (iCons (iVar 0) (iCons (iVar 1) (iCons (iOp gAdd (iVar 2) (iLst (iCons (IL.iTup (iCons (iVar 10) (iCons (iVar 17) iNil))) iNil))) (iCons (iVar 3) (iCons (iVar 4) iNil)))))) iNil)))))))))))
          [some (.loc n), some (.tup [.kt (ks.map eKi), .loc Hd, .loc W]), some (.loc Sc), some (.int (f : Nat)), some (.loc R), some (.kt (ks.map eKi)), some (.loc Hd), some (.loc W), some (.str H.res), some (.int (form : Nat)), some (.str x), none, none, none, none, w15, w16, none, none, none, none, none] h5) (RK (BRes ar fa (r' + 1) h n m W Hd Sc R ks hs ws sc r)) := by
      intro h5 w15 w16 K5 A5
      have hk1 := G.K.n1
      have hk3 := G.K.n3
      refine ok_seq ?_
      walk_at "ev"
      refine (h24 A5.a.d (((ks.map eKi).length : Nat) : Int) (by rw [List.length_map]; omega) (by rw [List.length_map]; omega)).imp ?_
      rintro ⟨d, h6⟩ ⟨g, rfl, hg, K6, D6⟩
      simp only at K6 D6
      rw [List.length_map] at hg
      have A6 := A5.dl K6 D6
      replace K6 := K5.trans (dl_dr K6)
      clear K5 A5
      walk_at "ev"
      have hg' : g < ks.length := by omega
      have e1 : atI (ks.map eKi) ((g : Nat) : Int) = some (eKi ks[g]) := by
        rw [IL.atI_nat, List.getElem?_map, List.getElem?_eq_getElem hg']; rfl
      rw [e1]
      have hkm : ks[g] ∈ ks := List.getElem_mem hg'
      generalize ks[g] = kk at *
      clear e1 hg
      have kE := G.K.each kk hkm
      unfold eKi
      walk_at "ev"
      refine SK_nx (ok_seq ?_)
      walk_at "ev"
      have hml := List.length_pos_iff.mpr kE.ne
      have hml3 := kE.len
      refine (h24 A6.a.d (((kk.2.map eMk).length : Nat) : Int) (by rw [List.length_map]; omega) (by rw [List.length_map]; omega)).imp ?_
      rintro ⟨d, h7⟩ ⟨g2, rfl, hg2, K7, D7⟩
      simp only at K7 D7
      rw [List.length_map] at hg2
      have A7 := A6.dl K7 D7
      replace K7 := K6.trans (dl_dr K7)
      clear K6 A6
      walk_at "ev"
      have hg2' : g2 < kk.2.length := by omega
      have e1 : atI (kk.2.map eMk) ((g2 : Nat) : Int) = some (eMk kk.2[g2]) := by
        rw [IL.atI_nat, List.getElem?_map, List.getElem?_eq_getElem hg2']; rfl
      rw [e1]
      have hqm : kk.2[g2] ∈ kk.2 := List.getElem_mem hg2'
      generalize kk.2[g2] = q at *
      clear e1 hg2
      unfold eMk
      walk_at "ev"
      refine SK_nx (ok_seq ?_)
      walk_at "ev"
      have hfl := kE.fl q hqm
      refine (h27 A7.a.d A7.a.s A7.a.sm sok (by omega) (ks := q.2) (.inl rfl) (by omega)).imp ?_
      rintro ⟨d, h8⟩ ⟨hr, K8, D8⟩
      simp only at hr K8 D8
      have A8 := A7.dl K8 D8
      replace K8 := K7.trans (dl_dr K8)
      clear K7 A7
      walk_at "ev"
      refine SK_nx (ok_seq (ok_if ?_))
      walk_at "ev"
      rcases hr with rfl | ⟨ys, rfl, hyl, hy⟩
      · rw [gIs_non]
        walk_at "ev"
        refine (h28 G A8.a S (G.hp H Hm).2.2.1 hH hHl).imp ?_
        rintro ⟨d, h9⟩ ⟨p, rfl, g9, K9, D9⟩
        exact ⟨p, r - 1, rfl, g9.wf, fine_mono g9.fine (by omega), by have := g9.len; omega, by omega, by omega, K8.trans (dl_dr K9), A8.dl K9 D9⟩
      · rw [gIs_non]
        rw [show eS ys = .tup (ys.map D.str) from rfl]
        walk_at "ev"
        obtain ⟨g9, eg9, Kg9, B9, A9⟩ := grow A8 (by omega) x kk.1
        refine SK_nx ?_
        walk_at "ev"
        rw [eg9]
        walk_at "ev"
        replace K8 : Ext (Dr n m R) h g9 := K8.trans (Ext.keep Kg9)
        refine (h30 G B9 ⟨fun p hp => ?_, by rw [List.length_append]; simp; omega⟩ (by omega) (by omega) hH (by rw [List.length_append]; omega)).imp ?_
        · rcases List.mem_append.mp hp with hp | hp
          · exact S.ok p hp
          · rw [List.mem_singleton] at hp
            subst hp
            exact ⟨xok, List.mem_map.mpr ⟨kk, hkm, rfl⟩⟩
        rintro ⟨d, h10⟩ ⟨p, r2, rfl, b1, b2, b3, b4, b5, K10, A10⟩
        simp only at K10 A10
        refine ⟨.make x q.1 ys p, r2, ?_, ?_, fine_mono (fine_make (d := 2 + 3 * r') xok (G.K.mok G.W kk hkm q hqm) (fun y hy' => nok y (hy y hy')) (by rw [show 2 + 3 * r' + 1 = 3 + 3 * r' from by omega]; exact b2)) (by omega), ?_, by omega, b5, K8.trans K10, A9.ext K10 A10.a.d A10.r⟩
        · simp only [eP, eS]
        · simp only [Wf]; exact ⟨hy, by rw [hyl, G.ar_ kk hkm q hqm], b1.mono (fun _ _ z => z) namesOne⟩
        · simp only [flat, List.length_cons]; omega
    by_cases c7 : form = 6
    · simp only [show decide ((form : Int) = 6) = true from decide_eq_true (by omega), if_true]
      have hhl := G.h1
      have hhl4 := G.h4
      refine ok_seq ?_
      walk_at "ev"
      rw [gLen_lst A4.a.hd, List.length_map]
      walk_at "ev"
      refine (h24 A4.a.d ((hs.length : Nat) : Int) (by omega) (by omega)).imp ?_
      rintro ⟨d, h5⟩ ⟨g, rfl, hg, K5, D5⟩
      simp only at K5 D5
      have A5 := A4.dl K5 D5
      replace K5 := K4.trans (dl_dr K5)
      clear K4 A4
      walk_at "ev"
      have hg' : g < hs.length := by omega
      have eG := List.getElem?_eq_getElem hg'
      have hGm : hs[g] ∈ hs := List.getElem_mem hg'
      generalize hs[g] = Q at *
      obtain ⟨q1, q2, q3, q4⟩ := G.hp Q hGm
      have q5 := G.fa_ Q hGm
      have eQd : eHd Q = D.tup [.str Q.name, .tup (Q.params.map eQ), .str Q.res] := rfl
      refine SK_nx (ok_seq ?_)
      simp only [sAsg, iCall, iCons, iNil, Ok_bind]
      walk_at "ev"
      refine ok_mapF (items := Q.params.map eQ) (dp := []) (h1 := h5) (fun d => match d with
        | .tup [_, k] => k
        | d => d) ?_ depsOk_nil (by simp; omega) ?_ ?_
      · unfold pSeq
        walk_at "ev"
        rw [gh eG A5.a.hd, eQd]
        walk_at "ev"
        rfl
      · intro d hd' h6 K6
        obtain ⟨⟨u, v⟩, _, rfl⟩ := List.mem_map.mp hd'
        unfold eQ
        walk_at "ev"
        exact ⟨trivial, Ext.refl _⟩
      · intro h6 K6 hn6
        have e6 : ((Q.params.map eQ).map fun d => match d with
          | .tup [_, k] => k
          | d => d) = (Q.params.map (·.2)).map D.str := by rw [List.map_map, List.map_map]; rfl
        rw [e6] at hn6
        have A6 := A5.keep K6
        replace K6 : Ext (Dr n m R) h h6 := K5.trans (Ext.keep K6)
        have h5m : h5.length ≠ m := fun z => by have := A5.a.d.lt.2; omega
        clear K5 A5 D5
        walk_at "ev"
        refine (h27 A6.a.d A6.a.s A6.a.sm sok (by omega) (ks := Q.params.map (·.2)) (.inr ⟨_, rfl, h5m, hn6⟩) (by simp; omega)).imp ?_
        rintro ⟨d, h7⟩ ⟨hr, K7, D7⟩
        simp only at hr K7 D7
        have A7 := A6.dl K7 D7
        replace K7 := K6.trans (dl_dr K7)
        clear K6 A6
        walk_at "ev"
        refine SK_nx (ok_if ?_)
        walk_at "ev"
        rcases hr with rfl | ⟨ys, rfl, hyl, hy⟩
        · rw [gIsNot_non]
          simp only [Ok_some, Bool.false_eq_true, if_false]
          exact tail K7 A7
        · rw [show eS ys = .tup (ys.map D.str) from rfl, gIsNot_tup]
          walk_at "ev"
          rw [gh eG A7.a.hd, eQd]
          walk_at "ev"
          rw [gh eG A7.a.hd, eQd]
          walk_at "ev"
          obtain ⟨g8, eg8, Kg8, B8, A8⟩ := grow A7 (by omega) x Q.res
          rw [eg8]
          walk_at "ev"
          replace K7 : Ext (Dr n m R) h g8 := K7.trans (Ext.keep Kg8)
          refine (h30 G B8 ⟨fun p hp => ?_, by rw [List.length_append]; simp; omega⟩ (by omega) (by omega) hH (by rw [List.length_append]; omega)).imp ?_
          · rcases List.mem_append.mp hp with hp | hp
            · exact S.ok p hp
            · rw [List.mem_singleton] at hp
              subst hp
              exact ⟨xok, q3⟩
          rintro ⟨d, h9⟩ ⟨p, r2, rfl, b1, b2, b3, b4, b5, K9, A9⟩
          simp only at K9 A9
          refine ⟨.call x Q.name ys p, r2, ?_, ?_, fine_mono (fine_call (d := 2 + 3 * r') xok q2 (fun y hy' => nok y (hy y hy')) (by rw [show 2 + 3 * r' + 1 = 3 + 3 * r' from by omega]; exact b2)) (by omega), ?_, by omega, b5, K7.trans K9, A8.ext K9 A9.a.d A9.r⟩
          · simp only [eP, eS]
          · simp only [Wf]; exact ⟨hy, by rw [q5, hyl, List.length_map], b1.mono (fun _ _ z => z) namesOne⟩
          · simp only [flat, List.length_cons]; omega
    · simp only [show decide ((form : Int) = 6) = false from decide_eq_false (by omega), Bool.false_eq_true, if_false]
      exact tail K4 A4
end K88

namespace K88
open PySem PySem.Spec PyProof.Rows L2 IL
/-! ### makers' numbers of parts, functions' numbers of params -/
def wa (ws : List Str) (i : Nat) : Str := ws.getD i ""
theorem wa_get {ws : List Str} {i : Nat} (h : i < ws.length) : ws[i]? = some (wa ws i) := by
  unfold wa
  rw [List.getD_eq_getElem?_getD, List.getElem?_eq_getElem h]
  rfl
theorem Ws.wok {ws : List Str} (W : Ws ws) {i : Nat} (h : i < 40) : PyData.strOk (wa ws i) = true := by
  have e := wa_get (ws := ws) (i := i) (by rw [W.len]; exact h)
  exact W.ok _ (List.mem_of_getElem? e)
theorem Ws.inj {ws : List Str} (W : Ws ws) {i j : Nat} (hi : i < 40) (hj : j < 40) (e : wa ws i = wa ws j) : i = j := by
  have h1 := wa_get (ws := ws) (i := i) (by rw [W.len]; exact hi)
  have h2 := wa_get (ws := ws) (i := j) (by rw [W.len]; exact hj)
  rw [e] at h1
  exact (List.getElem?_inj (by rw [W.len]; exact hi) W.nd).mp (h1.trans h2.symm)
theorem Ws.nodup {ws : List Str} (W : Ws ws) {I : List Nat} (hI : I.Nodup) (h : ∀ i ∈ I, i < 40) : (I.map (wa ws)).Nodup := by
  rw [List.nodup_iff_pairwise_ne] at hI ⊢
  refine List.pairwise_map.mpr ?_
  exact (hI.imp_of_mem (S := fun a b => wa ws a ≠ wa ws b) fun ha hb hne e => hne (W.inj (h _ ha) (h _ hb) e))
def lookL (l : List (Str × Nat)) (x : Str) : Option Nat := (l.find? fun q => q.1 == x).map (·.2)
theorem lookL_mem {l : List (Str × Nat)} (h : (l.map (·.1)).Nodup) {x : Str} {a : Nat} (hx : (x, a) ∈ l) : lookL l x = some a := by
  induction l with
  | nil => cases hx
  | cons q l ih =>
    obtain ⟨y, b⟩ := q
    rw [List.map_cons, List.nodup_cons] at h
    unfold lookL
    rw [List.find?_cons]
    by_cases e : y = x
    · subst e
      simp only [beq_self_eq_true, Option.map_some]
      rcases List.mem_cons.mp hx with z | z
      · cases z; rfl
      · exact absurd (List.mem_map.mpr ⟨_, z, rfl⟩) h.1
    · have : (y == x) = false := by simp [e]
      simp only [this]
      rcases List.mem_cons.mp hx with z | z
      · cases z; exact absurd rfl e
      · exact ih h.2 z
theorem lookL_le {l : List (Str × Nat)} {B : Nat} (h : ∀ q ∈ l, q.2 ≤ B) {x : Str} {a : Nat} (e : lookL l x = some a) : a ≤ B := by
  unfold lookL at e
  obtain ⟨q, h1, rfl⟩ := Option.map_eq_some_iff.mp e
  exact h q (List.mem_of_find?_eq_some h1)
def listI : List (Nat × Nat) := [(14, 0), (15, 2), (17, 0), (18, 2), (21, 0), (22, 2), (24, 0), (25, 2), (28, 0), (29, 2), (31, 0), (32, 2)]
def AL (ks : KD) (ws : List Str) : List (Str × Nat) := (ks.flatMap fun k => k.2.map fun q => (q.1, q.2.length)) ++ listI.map fun q => (wa ws q.1, q.2)
def arOf (ks : KD) (ws : List Str) (x : Str) : Nat := (lookL (AL ks ws) x).getD 0
theorem take_wa {ws : List Str} (hl : ws.length = 40) : ∀ {r : Nat}, r ≤ 9 → (ws.drop 4).take r = ((List.range r).map fun i => 4 + i).map (wa ws) := fun {r} hr => by
  apply List.ext_getElem?
  intro i
  rw [List.map_map, List.getElem?_map]
  by_cases hi : i < r
  · rw [List.getElem?_take_of_lt hi, List.getElem?_drop, wa_get (by omega), List.getElem?_range hi]
    rfl
  · rw [List.getElem?_eq_none (by rw [List.length_take]; omega), List.getElem?_eq_none (by rw [List.length_range]; omega)]
    rfl
theorem idx_nodup : ∀ r, r ≤ 9 → (((List.range r).map fun i => 4 + i) ++ listI.map Prod.fst).Nodup ∧ ∀ i ∈ ((List.range r).map fun i => 4 + i) ++ listI.map Prod.fst, i < 40 := by
  intro r hr
  have : ∀ r : Fin 10, (((List.range r.1).map fun i => 4 + i) ++ listI.map Prod.fst).Nodup ∧ ∀ i ∈ ((List.range r.1).map fun i => 4 + i) ++ listI.map Prod.fst, i < 40 := by decide +kernel
  exact this ⟨r, by omega⟩
theorem AL_nodup {ks : KD} {ws : List Str} (K : Kds ks ws) (W : Ws ws) : ((AL ks ws).map (·.1)).Nodup := by
  obtain ⟨r, hr, e⟩ := K.makers
  have e1 : (AL ks ws).map (·.1) = (((List.range r).map fun i => 4 + i) ++ listI.map Prod.fst).map (wa ws) := by
    unfold AL
    rw [List.map_append, List.map_append, ← take_wa W.len hr, ← e, List.map_map, List.map_map, List.map_flatMap]
    congr 1
    congr 1
    funext k
    rw [List.map_map]
    rfl
  rw [e1]
  exact W.nodup (idx_nodup r hr).1 (idx_nodup r hr).2
theorem ar_maker {ks : KD} {ws : List Str} (K : Kds ks ws) (W : Ws ws) : ∀ k ∈ ks, ∀ q ∈ k.2, arOf ks ws q.1 = q.2.length := fun k hk q hq => by
  unfold arOf
  rw [lookL_mem (AL_nodup K W) (a := q.2.length)]
  · rfl
  · unfold AL
    exact List.mem_append_left _ (List.mem_flatMap.mpr ⟨k, hk, List.mem_map.mpr ⟨q, hq, rfl⟩⟩)
theorem ar_list {ks : KD} {ws : List Str} (K : Kds ks ws) (W : Ws ws) {i a : Nat} (h : (i, a) ∈ listI) : arOf ks ws (wa ws i) = a := by
  unfold arOf
  rw [lookL_mem (AL_nodup K W) (a := a)]
  · rfl
  · unfold AL
    exact List.mem_append_right _ (List.mem_map.mpr ⟨_, h, rfl⟩)
theorem ar_small {ks : KD} {ws : List Str} (K : Kds ks ws) (x : Str) : arOf ks ws x ≤ 20 := by
  unfold arOf
  cases e : lookL (AL ks ws) x with
  | none => simp
  | some a =>
    have := lookL_le (B := 2) (fun q hq => ?_) e
    · simp; omega
    · unfold AL at hq
      rcases List.mem_append.mp hq with hq | hq
      · obtain ⟨k, hk, hq⟩ := List.mem_flatMap.mp hq
        obtain ⟨q', hq', rfl⟩ := List.mem_map.mp hq
        exact (K.each k hk).fl q' hq'
      · obtain ⟨q', hq', rfl⟩ := List.mem_map.mp hq
        have : ∀ q ∈ listI, q.2 ≤ 2 := by decide
        exact this q' hq'
/-- functions' numbers of params -/
def faH (hs : List Hdd) (g : Str) : Option Nat := lookL (hs.map fun q => (q.name, q.params.length)) g
structure TwoR (ks : KD) (ws : List Str) (hs : List Hdd) (fs : List Fd) : Prop where
  W : Ws ws
  K : Kds ks ws
  last : ∃ M k1 k2 k3, 1 ≤ M ∧ M ≤ 2 ∧ hs.length = M + 2 ∧ hs[M]? = some ⟨wa ws (39 - M), [(wa ws 0, k1)], k2⟩ ∧ hs[M + 1]? = some ⟨wa ws (39 - (M + 1)), [(wa ws 0, k2)], k3⟩ ∧ k1 ∈ ks.map (·.1)
  names : ∀ (i : Nat) (q : Hdd), hs[i]? = some q → q.name = wa ws (39 - i)
  hp : ∀ q ∈ hs, q.params.length ≤ 3
  fl : fs.length = hs.length
  fh : ∀ (i : Nat) (F : Fd) (q : Hdd), fs[i]? = some F → hs[i]? = some q → F.name = q.name ∧ F.params = q.params ∧ F.res = q.res ∧ Wf (arOf ks ws) (faH hs) (F.params.map (·.1)) F.body ∧ PcOk 300 F.body
end K88

namespace K88
open PySem PySem.Spec PyProof.Rows L2 IL
local macro_rules | `(tactic| walk_at "ev") => `(tactic| simp (config := { decide := false }) only [iVar, iC, iOp, iCons, iNil, iB, iCall, jVal, jAnd, jOr, jNot, iIf, iNeg, iNot, IL.iTup, IL.iTupP, IL.iLst, iSl, iNo, iPart, sAsg, sExpr, sRet, sRetN, sSkip, sAugN, sAugS, sPar, gNm, gTp, gsCons, gsNil, gSb, one, two, gInt, jYes, CT.put, wipeD, setAll, iListRev, parSet,
  List.getElem?_cons_zero, List.getElem?_cons_succ, List.set_cons_zero, List.set_cons_succ, List.map_cons, List.map_nil, List.cons_append, List.nil_append, List.replicate_succ, List.replicate_zero, List.getLast?_cons_cons, List.getLast?_singleton,
  Option.bind_some, Option.map_some, Ok_some, Ok_bind, Ok_map, if_true, if_false, Bool.false_eq_true, decide_true, decide_false, List.length_cons, List.length_nil, Nat.zero_le, sz1, sz2, sz3, sz4, sz5, sz6, sz7, sz8, sz9, sz10, sz11, sz12, Bool.not_true, Bool.not_false,
  iFld, iMeth, iDicK, gIx_tup, gIx_kt, gIx_sl, atI_0, atI_1, atI_2, atI_3, atI_4, atI_5, atI_m1, gEq_str, gEq_int, gNe_str, gNe_int, gAdd_int, seqD_tup, seqD_kt, gLen_tup, gLen_kt, Int.reduceNeg, len_push,
  le1, le2, le3, le4, le5, le6, le7, le8, le9, le10, le11, lw1, lw2, lw3, lw4, lw5, lw6, lw7, lw8, lw9, lw10, lw11, lw12, lw13, lw14, lw15, lw16, lw17])
/-! ### two -/
/-- the last two heads -/
def ChP (ws : List Str) (M : Nat) (k1 : Str) : List Hdd → Str → Prop
  | [], kc => kc = k1
  | [a], kc => a = ⟨wa ws (39 - M), [(wa ws 0, k1)], kc⟩
  | [a, b], kc => ∃ k2, a = ⟨wa ws (39 - M), [(wa ws 0, k1)], k2⟩ ∧ b = ⟨wa ws (39 - (M + 1)), [(wa ws 0, k2)], kc⟩
  | _, _ => False
theorem faH_mem {ws : List Str} (W : Ws ws) {hs : List Hdd} (hl : hs.length ≤ 39) (hn : ∀ (j : Nat) (q : Hdd), hs[j]? = some q → q.name = wa ws (39 - j)) : ∀ q ∈ hs, faH hs q.name = some q.params.length := fun q hq => by
  unfold faH
  refine lookL_mem ?_ (List.mem_map.mpr ⟨q, hq, rfl⟩)
  rw [List.map_map, List.nodup_iff_pairwise_ne, List.pairwise_iff_getElem]
  intro i j hi hj hij e
  rw [List.length_map] at hi hj
  simp only [List.getElem_map, Function.comp] at e
  rw [hn i _ (List.getElem?_eq_getElem hi), hn j _ (List.getElem?_eq_getElem hj)] at e
  have := W.inj (by omega) (by omega) e
  omega
theorem kdraw {t : Nat → Fn} (h24 : DrawSp (t 24)) {ks : KD} {ws : List Str} (K : Kds ks ws) {h : IH} {n m : Nat} (d : Deal h n m) {Q : D × IH → Prop}
    (k : ∀ (g : Nat) (kk : Str × List (Str × List Str)) (h' : IH), kk ∈ ks → atI (ks.map eKi) (g : Int) = some (D.tup [.str kk.1, .tup (kk.2.map eMk)]) → Ext (Dl n m) h h' → Deal h' n m → Q (.int (g : Nat), h')) : Ok (t 24 [.loc n, .int ((ks.map eKi).length : Nat)] h) Q := by
  have hk1 := K.n1
  have hk3 := K.n3
  refine (h24 d (((ks.map eKi).length : Nat) : Int) (by rw [List.length_map]; omega) (by rw [List.length_map]; omega)).imp ?_
  rintro ⟨x, h'⟩ ⟨g, rfl, hg, K1, D1⟩
  simp only at K1 D1
  rw [List.length_map] at hg
  have hg' : g < ks.length := by omega
  refine k g ks[g] h' (List.getElem_mem hg') ?_ K1 D1
  rw [IL.atI_nat, List.getElem?_map, List.getElem?_eq_getElem hg']; rfl
theorem two_spec {t : Nat → Fn} (h24 : DrawSp (t 24)) (h25 : ∀ {h : IH} {n m : Nat}, Deal h n m → Ok (t 25 [.loc n, .int 40] h) fun r => ∃ (L : Nat) (ws : List Str), r.1 = .loc L ∧ L ≠ m ∧ Ws ws ∧ r.2[L]? = some (.lst (ws.map D.str)) ∧ Ext (Dl n m) h r.2 ∧ Deal r.2 n m)
    (h26 : ∀ {h : IH} {n m W : Nat}, Deal h n m → ∀ {ws : List Str}, Ws ws → h[W]? = some (.lst (ws.map D.str)) → W ≠ m → Ok (t 26 [.loc n, .loc W] h) fun r => ∃ ks, r.1 = .kt (ks.map eKi) ∧ Kds ks ws ∧ Ext (Dl n m) h r.2 ∧ Deal r.2 n m)
    (h30 : ∀ ar fa, BodyS ar fa 7 (t 30)) {h : IH} {n m : Nat} (hd : Deal h n m) {rm : Int} (hr1 : 0 ≤ rm) (hr2 : rm ≤ 7) :
    Ok (meant t 31 [.loc n, .int 2, .int rm] h) fun z => ∃ ks ws hs fs W, z.1 = .tup [ePr (.kt (ks.map eKi)) fs, .loc W] ∧ z.2[W]? = some (.lst (ws.map D.str)) ∧ W ≠ m ∧ TwoR ks ws hs fs ∧ Ext (Dl n m) h z.2 ∧ Deal z.2 n m := by
  refine ok_fun rfl ?_
  unfold b_31
  refine ok_seq ?_
  walk_at "ev"
  refine (h25 hd).imp ?_
  rintro ⟨d, h1⟩ ⟨W, ws, rfl, hWm, hW, eW, K1, D1⟩
  simp only at eW K1 D1
  walk_at "ev"
  refine SK_nx (ok_seq ?_)
  walk_at "ev"
  refine (h26 D1 hW eW hWm).imp ?_
  rintro ⟨d, h2⟩ ⟨ks, rfl, hK, K2, D2⟩
  simp only at K2 D2
  have eW2 := dl_get D1 K2 eW hWm
  replace K2 := K1.trans K2
  clear K1 D1 eW hd
  walk_at "ev"
  refine SK_nx (ok_seq ?_)
  walk_at "ev"
  have K3 : Ext (Dl n m) h (h2 ++ [O.lst []]) := K2.trans (Ext.push _ _)
  have D3 := D2.push (.lst [])
  have eW3 := get_old (o' := O.lst []) eW2
  have eH3 := get_new (h := h2) (o := O.lst [])
  have hHm : h2.length ≠ m := fun z => by have := D2.lt.2; omega
  have hHn : h2.length ≠ n := fun z => by have := D2.lt.1; omega
  have hHW : h2.length ≠ W := fun z => by have := lt_of_get eW2; omega
  have hHh : h.length ≤ h2.length := K2.le
  generalize h2.length = Hd at *
  generalize h2 ++ [O.lst []] = h3 at *
  clear K2 D2 eW2
  have nHD : ¬ Dl n m Hd := fun z => by rcases z with z | z <;> omega
  have hk1 := hK.n1
  have hwl := hW.len
  obtain ⟨⟨d, h4⟩, ex, k0, rfl, hk0, K4, D4⟩ := h24 D3 2 (by decide) (by decide)
  simp only at K4 D4
  have eW4 := dl_get D3 K4 eW3 hWm
  have eH4 := dl_get D3 K4 eH3 hHm
  replace K4 := K3.trans K4
  clear K3 D3 eW3 eH3
  have gW : ∀ {g : IH} (i : Nat), i < 40 → g[W]? = some (.lst (ws.map D.str)) → gIx (.loc W) (.int (i : Nat)) g = some (.str (wa ws i), g) := fun i hi e => by
    rw [gIx_lst e, IL.atI_nat, List.getElem?_map, wa_get (by omega)]; rfl
  refine SK_nx (ok_seq (ok_for (Ok.of (range_of (k := 1 + k0) (h1 := h4) (by
    walk_at "ev"
    rw [ex]
    simp only [Option.bind_some, gAdd_int]
    rfl) (by omega)) ?_)))
  refine ok_forI (fun i env h' => ∃ (w6 w7 w8 : Option D) (hs : List Hdd), env = [some (.loc n), some (.int 2), some (.int rm), some (.loc W), some (.kt (ks.map eKi)), some (.loc Hd), w6, w7, w8, none, none, none, none, none, none, none] ∧ Ext (Dl n m) h h' ∧ Deal h' n m ∧ h'[W]? = some (.lst (ws.map D.str)) ∧ h'[Hd]? = some (.lst (hs.map eHd)) ∧ hs.length = i ∧
      (∀ (j : Nat) (q : Hdd), hs[j]? = some q → q.name = wa ws (39 - j)) ∧ ∀ q ∈ hs, q.params.length ≤ 3 ∧ q.res ∈ ks.map (·.1) ∧ ∀ p ∈ q.params, p.2 ∈ ks.map (·.1) ∧ PyData.strOk p.1 = true) (fun _ _ _ _ => depsOk_nil) (fun i d env h' hi hI => ?_) (fun env h' hI => ?_) ⟨none, none, none, [], rfl, K4, D4, eW4, eH4, rfl, by simp, by simp⟩
  · obtain ⟨hi, rfl⟩ := range_get hi
    obtain ⟨w6, w7, w8, hs, rfl, K5, D5, eW5, eH5, hsl, hnm, hhp⟩ := hI
    walk_at "ev"
    refine ok_seq ?_
    walk_at "ev"
    have eU := get_new (h := h') (o := O.lst [D.int 1, D.int 1, D.int 2, D.int 2, D.int 0, D.int 3])
    have hUm : h'.length ≠ m := fun z => by have := D5.lt.2; omega
    have eW6 := get_old (o' := O.lst [D.int 1, D.int 1, D.int 2, D.int 2, D.int 0, D.int 3]) eW5
    have eH6 := get_old (o' := O.lst [D.int 1, D.int 1, D.int 2, D.int 2, D.int 0, D.int 3]) eH5
    have D6 := D5.push (.lst [D.int 1, D.int 1, D.int 2, D.int 2, D.int 0, D.int 3])
    have K6 : Ext (Dl n m) h (h' ++ [O.lst [D.int 1, D.int 1, D.int 2, D.int 2, D.int 0, D.int 3]]) := K5.trans (Ext.push _ _)
    generalize h'.length = U at *
    generalize h' ++ [O.lst [D.int 1, D.int 1, D.int 2, D.int 2, D.int 0, D.int 3]] = h6 at *
    clear K5 D5 eW5 eH5
    refine (h24 D6 6 (by decide) (by decide)).imp ?_
    rintro ⟨d, h7⟩ ⟨k1, rfl, hk1', K7, D7⟩
    simp only at K7 D7
    have eU7 := dl_get D6 K7 eU hUm
    have eW7 := dl_get D6 K7 eW6 hWm
    have eH7 := dl_get D6 K7 eH6 hHm
    replace K7 := K6.trans K7
    clear K6 D6 eW6 eH6 eU
    obtain ⟨v, hv, gv⟩ : ∃ v : Nat, v ≤ 3 ∧ gIx (.loc U) (.int (k1 : Nat)) h7 = some (.int (v : Nat), h7) := by
      rw [gIx_lst eU7, IL.atI_nat]
      rcases k1 with _ | _ | _ | _ | _ | _ | k1
      · exact ⟨1, by decide, rfl⟩
      · exact ⟨1, by decide, rfl⟩
      · exact ⟨2, by decide, rfl⟩
      · exact ⟨2, by decide, rfl⟩
      · exact ⟨0, by decide, rfl⟩
      · exact ⟨3, by decide, rfl⟩
      · omega
    walk_at "ev"
    rw [gv]
    walk_at "ev"
    refine SK_nx (ok_seq ?_)
    simp only [sAsg, Ok_bind]
    refine ok_mapD (n := n) (m := m) (h1 := h7) (items := (List.range v).map fun i => D.int (i : Nat)) (dp := []) (fun i y => ∃ q : Str × Str, (PyData.strOk q.1 = true ∧ q.2 ∈ ks.map (·.1)) ∧ y = eQ q) (range_of (k := v) (h1 := h7) (by walk_at "ev") (by omega)) depsOk_nil (by simp; omega) (fun q hq => by cases hq) D7 ?_ ?_
    · intro i' d h8 hi' Kx Dx
      obtain ⟨hi', rfl⟩ := range_get hi'
      have eWx := dl_get D7 Kx eW7 hWm
      walk_at "ev"
      rw [gW i' (by omega) eWx]
      walk_at "ev"
      refine kdraw h24 hK Dx fun g kk h9 hkk e9 K9 D9 => ?_
      walk_at "ev"
      rw [e9]
      walk_at "ev"
      exact ⟨⟨(wa ws i', kk.1), ⟨hW.wok (by omega), List.mem_map.mpr ⟨kk, hkk, rfl⟩⟩, rfl⟩, K9, D9⟩
    · intro ys h8 hyl hyP K8 D8 hn8
      obtain ⟨ps, rfl, hps⟩ := pairs_of hyP
      have hpl : ps.length ≤ 3 := by simp at hyl; omega
      have hpok : ∀ p ∈ ps, PyData.strOk p.1 = true ∧ p.2 ∈ ks.map (·.1) := fun p hp => by
        obtain ⟨j, hj, e⟩ := List.mem_iff_getElem.mp hp
        exact hps j p (by rw [List.getElem?_eq_getElem hj, e])
      have eW8 := dl_get D7 K8 eW7 hWm
      have eH8 := dl_get D7 K8 eH7 hHm
      have h7m : h7.length ≠ m := fun z => by have := D7.lt.2; omega
      replace K8 := K7.trans K8
      clear K7 D7 eW7 eH7 eU7 gv
      walk_at "ev"
      refine SK_nx ?_
      simp only [sExpr, Ok_bind]
      refine ok_bm ?_
      walk_at "ev"
      refine ⟨isTy_lst eH8, ?_⟩
      have e39 : (39 : Int) - (i : Int) = ((39 - i : Nat) : Int) := by omega
      simp only [e39, gW (39 - i) (by omega) eW8]
      walk_at "ev"
      simp only [gTupOf_lst hn8]
      walk_at "ev"
      refine kdraw h24 hK D8 fun g kk h9 hkk e9 K9 D9 => ?_
      walk_at "ev"
      rw [e9]
      walk_at "ev"
      have eW9 := dl_get D8 K9 eW8 hWm
      have eH9 := dl_get D8 K9 eH8 hHm
      refine Ok.of (gAppend_lst eH9 (sz_lt (by simp; omega))) ?_
      refine ⟨_, _, _, hs ++ [⟨wa ws (39 - i), ps, kk.1⟩], rfl, (K8.trans K9).setNew _ _ hHh, D9.setNew nHD, by rw [set_ne hHW]; exact eW9, ?_, by simp [hsl], ?_, ?_⟩
      · rw [set_at eH9]; simp [eHd]
      · intro j q hj
        rcases Nat.lt_or_ge j hs.length with hj' | hj'
        · rw [List.getElem?_append_left hj'] at hj
          exact hnm j q hj
        · rw [List.getElem?_append_right hj'] at hj
          have hj2 : j = i := by
            have := (List.getElem?_eq_some_iff.mp hj).1
            simp at this
            omega
          rw [hj2, hsl, Nat.sub_self] at hj
          cases hj
          rw [hj2]
      · intro q hq
        rcases List.mem_append.mp hq with hq | hq
        · exact hhp q hq
        · rw [List.mem_singleton] at hq
          subst hq
          exact ⟨hpl, List.mem_map.mpr ⟨kk, hkk, rfl⟩, fun p hp => ⟨(hpok p hp).2, (hpok p hp).1⟩⟩
  · obtain ⟨w6, w7, w8, hs, rfl, K5, D5, eW5, eH5, hsl, hnm, hhp⟩ := hI
    rw [List.length_map, List.length_range] at hsl
    clear eW4 eH4 K4 D4 ex
    refine SK_nx (ok_seq ?_)
    walk_at "ev"
    refine kdraw h24 hK D5 fun g kk h9 hkk e9 K9 D9 => ?_
    walk_at "ev"
    rw [e9]
    walk_at "ev"
    have hk1m : kk.1 ∈ ks.map (·.1) := List.mem_map.mpr ⟨kk, hkk, rfl⟩
    have eW9 := dl_get D5 K9 eW5 hWm
    have eH9 := dl_get D5 K9 eH5 hHm
    replace K9 := K5.trans K9
    clear K5 D5 eW5 eH5 e9
    generalize kk.1 = k1 at *
    clear hkk
    have hM1 : 1 ≤ hs.length := by omega
    have hM2 : hs.length ≤ 2 := by omega
    refine SK_nx (ok_seq (ok_for (Ok.of (range_of (k := 2) (h1 := h9) (by walk_at "ev"; rfl) (by omega)) ?_)))
    refine ok_forI (fun i env h' => ∃ (w10 w11 : Option D) (exs : List Hdd) (kc : Str), env = [some (.loc n), some (.int 2), some (.int rm), some (.loc W), some (.kt (ks.map eKi)), some (.loc Hd), w6, w7, w8, some (.str kc), w10, w11, none, none, none, none] ∧ Ext (Dl n m) h h' ∧ Deal h' n m ∧ h'[W]? = some (.lst (ws.map D.str)) ∧ h'[Hd]? = some (.lst ((hs ++ exs).map eHd)) ∧ exs.length = i ∧ ChP ws hs.length k1 exs kc ∧ kc ∈ ks.map (·.1) ∧
        (∀ (j : Nat) (q : Hdd), (hs ++ exs)[j]? = some q → q.name = wa ws (39 - j)) ∧ ∀ q ∈ hs ++ exs, q.params.length ≤ 3 ∧ q.res ∈ ks.map (·.1) ∧ ∀ p ∈ q.params, p.2 ∈ ks.map (·.1) ∧ PyData.strOk p.1 = true) (fun _ _ _ _ => depsOk_nil) (fun i d env h' hi hI => ?_) (fun env h' hI => ?_) ⟨none, none, [], k1, rfl, K9, D9, eW9, by rw [List.append_nil]; exact eH9, rfl, rfl, hk1m, by rw [List.append_nil]; exact hnm, by rw [List.append_nil]; exact hhp⟩
    · obtain ⟨hi, rfl⟩ := range_get hi
      obtain ⟨w10, w11, exs, kc, rfl, K5, D5, eW5, eH5, hxl, hch, hkc, hnm', hhp'⟩ := hI
      walk_at "ev"
      refine ok_seq ?_
      walk_at "ev"
      refine kdraw h24 hK D5 fun g kk h10 hkk e10 K10 D10 => ?_
      walk_at "ev"
      rw [e10]
      walk_at "ev"
      have eW10 := dl_get D5 K10 eW5 hWm
      have eH10 := dl_get D5 K10 eH5 hHm
      replace K10 := K5.trans K10
      clear K5 D5 eW5 eH5 e10
      refine SK_nx (ok_seq ?_)
      simp only [sExpr, Ok_bind]
      refine ok_bm ?_
      walk_at "ev"
      refine ⟨isTy_lst eH10, ?_⟩
      rw [gLen_lst eH10]
      walk_at "ev"
      have e39 : (39 : Int) - ((((hs ++ exs).map eHd).length : Nat) : Int) = ((39 - (hs.length + i) : Nat) : Int) := by rw [List.length_map, List.length_append]; omega
      simp only [e39, gW (39 - (hs.length + i)) (by omega) eW10]
      walk_at "ev"
      have g0 : gIx (.loc W) (.int 0) h10 = some (.str (wa ws 0), h10) := gW 0 (by omega) eW10
      rw [g0]
      walk_at "ev"
      refine Ok.of (gAppend_lst eH10 (sz_lt (by simp; omega))) ?_
      refine SK_nx ?_
      walk_at "ev"
      have hkm : kk.1 ∈ ks.map (·.1) := List.mem_map.mpr ⟨kk, hkk, rfl⟩
      refine ⟨_, _, exs ++ [⟨wa ws (39 - (hs.length + i)), [(wa ws 0, kc)], kk.1⟩], kk.1, rfl, K10.setNew _ _ hHh, D10.setNew nHD, by rw [set_ne hHW]; exact eW10, ?_, by simp [hxl], ?_, hkm, ?_, ?_⟩
      · rw [set_at eH10, ← List.append_assoc, List.map_append (l₁ := hs ++ exs)]
        rfl
      · rcases exs with _ | ⟨a, _ | ⟨b, r⟩⟩
        · have hi0 : i = 0 := by simpa using hxl.symm
          subst hi0
          have : kc = k1 := hch
          subst this
          rfl
        · have hi0 : i = 1 := by simpa using hxl.symm
          subst hi0
          exact ⟨kc, hch, rfl⟩
        · simp at hxl; omega
      · intro j q hj
        rw [← List.append_assoc] at hj
        rcases Nat.lt_or_ge j (hs ++ exs).length with hj' | hj'
        · rw [List.getElem?_append_left hj'] at hj
          exact hnm' j q hj
        · rw [List.getElem?_append_right hj'] at hj
          have hj2 : j = hs.length + i := by
            have := (List.getElem?_eq_some_iff.mp hj).1
            simp at this hj'
            omega
          rw [hj2, show hs.length + i - (hs ++ exs).length = 0 from by rw [List.length_append]; omega] at hj
          cases hj
          rw [hj2]
      · intro q hq
        rw [← List.append_assoc] at hq
        rcases List.mem_append.mp hq with hq | hq
        · exact hhp' q hq
        · rw [List.mem_singleton] at hq
          subst hq
          exact ⟨by simp, hkm, fun p hp => by
            rw [List.mem_singleton] at hp
            subst hp
            exact ⟨hkc, hW.wok (by omega)⟩⟩
    · obtain ⟨w10, w11, exs, kc, rfl, K5, D5, eW5, eH5, hxl, hch, hkc, hnm', hhp'⟩ := hI
      rw [List.length_map, List.length_range] at hxl
      obtain ⟨a, b, rfl⟩ : ∃ a b, exs = [a, b] := by
        rcases exs with _ | ⟨a, _ | ⟨b, _ | ⟨c, r⟩⟩⟩
        · simp at hxl
        · simp at hxl
        · exact ⟨a, b, rfl⟩
        · simp at hxl
      obtain ⟨k2, rfl, rfl⟩ := hch
      obtain ⟨HS, hHS⟩ : ∃ HS, HS = hs ++ [(⟨wa ws (39 - hs.length), [(wa ws 0, k1)], k2⟩ : Hdd), ⟨wa ws (39 - (hs.length + 1)), [(wa ws 0, k2)], kc⟩] := ⟨_, rfl⟩
      have hla : HS[hs.length]? = some ⟨wa ws (39 - hs.length), [(wa ws 0, k1)], k2⟩ := by rw [hHS]; simp
      have hlb : HS[hs.length + 1]? = some ⟨wa ws (39 - (hs.length + 1)), [(wa ws 0, k2)], kc⟩ := by rw [hHS, List.getElem?_append_right (by omega)]; simp
      have hHl : HS.length = hs.length + 2 := by rw [hHS]; simp
      rw [← hHS] at hnm' hhp' eH5
      clear hHS hnm hhp eW9 eH9 K9 D9 hxl hsl
      generalize hs.length = M at *
      have hfa := faH_mem hW (hs := HS) (by omega) hnm'
      have G : Wd (arOf ks ws) (faH HS) ks HS ws := ⟨hW, hK, ar_maker hK hW, hfa, fun q hq => by
        obtain ⟨z1, z2, z3⟩ := hhp' q hq
        obtain ⟨j, hj, e⟩ := List.mem_iff_getElem.mp hq
        refine ⟨z1, ?_, z2, fun p hp => (z3 p hp).1⟩
        rw [hnm' j q (by rw [List.getElem?_eq_getElem hj, e])]
        exact hW.wok (by omega), by omega, by omega⟩
      refine SK_nx (ok_seq ?_)
      walk_at "ev"
      have D6 := D5.push (.lst [])
      have K6 : Ext (Dl n m) h (h' ++ [O.lst []]) := K5.trans (Ext.push _ _)
      have eW6 := get_old (o' := O.lst []) eW5
      have eH6 := get_old (o' := O.lst []) eH5
      have eF6 := get_new (h := h') (o := O.lst [])
      have hFm : h'.length ≠ m := fun z => by have := D5.lt.2; omega
      have hFn : h'.length ≠ n := fun z => by have := D5.lt.1; omega
      have hFW : h'.length ≠ W := fun z => by have := lt_of_get eW5; omega
      have hFH : h'.length ≠ Hd := fun z => by have := lt_of_get eH5; omega
      have hFh : h.length ≤ h'.length := K5.le
      generalize h'.length = Fl at *
      generalize h' ++ [O.lst []] = h6 at *
      clear K5 D5 eW5 eH5
      have nFD : ¬ Dl n m Fl := fun z => by rcases z with z | z <;> omega
      refine SK_nx (ok_seq (ok_for ?_))
      unfold pEnum
      walk_at "ev"
      rw [seqSrc_lst eH6]
      refine Ok_some.mpr ?_
      refine ok_forI (fun i env h' => ∃ (w6 w13 w14 : Option D) (fs : List Fd), env = [some (.loc n), some (.int 2), some (.int rm), some (.loc W), some (.kt (ks.map eKi)), some (.loc Hd), w6, w7, w8, some (.str kc), w10, w11, some (.loc Fl), w13, w14, none] ∧ Ext (Dl n m) h h' ∧ Deal h' n m ∧ h'[W]? = some (.lst (ws.map D.str)) ∧ h'[Hd]? = some (.lst (HS.map eHd)) ∧ h'[Fl]? = some (.lst (fs.map eF)) ∧ fs.length = i ∧
          ∀ (j : Nat) (F : Fd) (q : Hdd), fs[j]? = some F → HS[j]? = some q → F.name = q.name ∧ F.params = q.params ∧ F.res = q.res ∧ Wf (arOf ks ws) (faH HS) (F.params.map (·.1)) F.body ∧ PcOk 300 F.body)
        (fun i env h' hI => by
          obtain ⟨_, _, _, _, _, _, _, _, e, _⟩ := hI
          exact depsOk_one e) (fun i d env h' hi hI => ?_) (fun env h' hI => ?_) ⟨w6, none, none, [], rfl, K6, D6, eW6, eH6, eF6, rfl, by simp⟩
      · obtain ⟨w6, w13, w14, fs, rfl, K7, D7, eW7, eH7, eF7, hfl, hfh⟩ := hI
        obtain ⟨q', hq', rfl⟩ := enumD_get _ _ _ _ hi
        rw [List.getElem?_map] at hq'
        obtain ⟨q, hq, rfl⟩ := Option.map_eq_some_iff.mp hq'
        have hqm := List.mem_of_getElem? hq
        have hqi := (List.getElem?_eq_some_iff.mp hq).1
        obtain ⟨z1, z2, z3⟩ := hhp' q hqm
        unfold eHd
        walk_at "ev"
        refine ok_seq ?_
        walk_at "ev"
        simp only [gListOf_tup]
        walk_at "ev"
        have e1 := get_old (o' := O.lst [D.int rm]) (get_new (h := h') (o := O.lst (q.params.map eQ)))
        have e2 := get_new (h := h' ++ [O.lst (q.params.map eQ)]) (o := O.lst [D.int rm])
        simp only [len_push] at e2
        have Kp : Keep h' (h' ++ [O.lst (q.params.map eQ)] ++ [O.lst [D.int rm]]) := (Ext.push _ _).trans (Ext.push _ _)
        have A : At4 (h' ++ [O.lst (q.params.map eQ)] ++ [O.lst [D.int rm]]) n m W Hd h'.length (h'.length + 1) ks HS ws q.params rm :=
          ⟨⟨D7.keep Kp, Kp.get eW7, Kp.get eH7, e1, hWm, hHm, fun z => by have := D7.lt.2; omega⟩, e2, fun z => by have := D7.lt.2; omega, hwl⟩
        have eF8 := Kp.get eF7
        have hlt := lt_of_get eF7
        generalize h' ++ [O.lst (q.params.map eQ)] ++ [O.lst [D.int rm]] = h8 at *
        rw [show (((0 + i : Nat) : Nat) : Int) = ((i : Nat) : Int) from by omega]
        refine (h30 (arOf ks ws) (faH HS) G A ⟨fun p hp => ⟨(z3 p hp).2, (z3 p hp).1⟩, by omega⟩ (by omega) (by omega) hq (Nat.le_refl _)).imp ?_
        rintro ⟨d, h9⟩ ⟨p, r2, rfl, b1, b2, b3, b4, b5, K9, A9⟩
        simp only at K9 A9
        have eF9 := dr_get A.a.d K9 eF8 hFm (by omega)
        have K10 : Ext (Dl n m) h h9 := ⟨Nat.le_trans K7.le (Nat.le_trans Kp.le K9.le), fun j o e hn => K9.at_ j o (Kp.get (K7.at_ j o e hn)) fun z => by
          rcases z with z | z
          · exact hn z
          · have := lt_of_get e
            have := K7.le
            omega⟩
        walk_at "ev"
        refine SK_nx ?_
        simp only [sExpr, Ok_bind]
        refine ok_bm ?_
        walk_at "ev"
        refine ⟨isTy_lst eF9, ?_⟩
        rw [gAdd_tup (xs := [.str q.name, .tup (q.params.map eQ), .str q.res]) (ys := [eP p]) (sz_of (Nat.le_of_lt (show 4 < 1000000 by decide)))]
        walk_at "ev"
        refine Ok.of (gAppend_lst eF9 (sz_lt (by simp; omega))) ?_
        refine ⟨_, _, _, fs ++ [⟨q.name, q.params, q.res, p⟩], rfl, K10.setNew _ _ hFh, A9.a.d.setNew nFD, by rw [set_ne hFW]; exact A9.a.w, by rw [set_ne hFH]; exact A9.a.hd, ?_, by simp [hfl], ?_⟩
        · rw [set_at eF9]; simp [eF]
        · intro j F q2 hj hq2
          rcases Nat.lt_or_ge j fs.length with hj' | hj'
          · rw [List.getElem?_append_left hj'] at hj
            exact hfh j F q2 hj hq2
          · rw [List.getElem?_append_right hj'] at hj
            have hj2 : j = i := by
              have := (List.getElem?_eq_some_iff.mp hj).1
              simp at this
              omega
            rw [hj2, hfl, Nat.sub_self] at hj
            rw [hj2, hq] at hq2
            cases hj
            cases hq2
            exact ⟨rfl, rfl, rfl, b1, fine_mono b2 (by omega), by show (flat p).length ≤ 1000; omega⟩
      · obtain ⟨w6, w13, w14, fs, rfl, K7, D7, eW7, eH7, eF7, hfl, hfh⟩ := hI
        rw [enumD_len, List.length_map] at hfl
        refine SK_nx ?_
        walk_at "ev"
        simp only [gTupOf_lst eF7]
        walk_at "ev"
        exact ⟨ks, ws, HS, fs, W, rfl, eW7, hWm, ⟨hW, hK, ⟨M, k1, k2, kc, hM1, hM2, hHl, hla, hlb, hk1m⟩, hnm', fun q hq => (hhp' q hq).1, hfl, hfh⟩, K7, D7⟩
end K88

namespace K88
open PySem PySem.Spec PyProof.Rows L2 IL
/-! ### least sizes -/
abbrev Zs := List (Str × Nat)
def getZ : Zs → Str → Option Nat
  | [], _ => none
  | (y, v) :: r, x => if y = x then some v else getZ r x
def putZ : Zs → Str → Nat → Zs
  | [], x, v => [(x, v)]
  | (y, u) :: r, x, v => if y = x then (y, v) :: r else (y, u) :: putZ r x v
def eZ (zs : Zs) : List (Key × D) := zs.map fun q => (Sum.inr q.1, D.int (q.2 : Nat))
theorem eZ_get : ∀ (zs : Zs) (x : Str), valD (eZ zs) (Sum.inr x : Key) = (getZ zs x).map fun n => D.int (n : Nat)
  | [], _ => rfl
  | (y, v) :: r, x => by
    have ih := eZ_get r x
    unfold eZ at ih ⊢
    by_cases h : y = x
    · subst h; simp [valD, getZ]
    · simp only [List.map_cons, valD, getZ, if_neg h, if_neg (show ¬ (Sum.inr y : Key) = Sum.inr x from fun z => h (Sum.inr.inj z))]
      exact ih
theorem eZ_put : ∀ (zs : Zs) (x : Str) (v : Nat), putD (eZ zs) (Sum.inr x : Key) (.int (v : Nat)) = eZ (putZ zs x v)
  | [], _, _ => rfl
  | (y, u) :: r, x, v => by
    have ih := eZ_put r x v
    unfold eZ at ih ⊢
    by_cases h : y = x
    · subst h; simp [putD, putZ]
    · simp only [List.map_cons, putD, putZ, if_neg h, if_neg (show ¬ (Sum.inr y : Key) = Sum.inr x from fun z => h (Sum.inr.inj z)), ih]
theorem putZ_get (zs : Zs) (x y : Str) (v : Nat) : getZ (putZ zs x v) y = if x = y then some v else getZ zs y := by
  induction zs with
  | nil => simp [putZ, getZ]
  | cons q r ih =>
    obtain ⟨z, u⟩ := q
    by_cases h : z = x
    · subst h
      simp only [putZ, if_true, getZ]
      split <;> rfl
    · simp only [putZ, if_neg h, getZ, ih]
      by_cases h1 : z = y
      · subst h1; rw [if_pos rfl, if_neg (fun z => h z.symm), if_pos rfl]
      · simp [h1]
theorem putZ_keys (zs : Zs) (x : Str) (v : Nat) : (putZ zs x v).map (·.1) = if x ∈ zs.map (·.1) then zs.map (·.1) else zs.map (·.1) ++ [x] := by
  induction zs with
  | nil => simp [putZ]
  | cons q r ih =>
    obtain ⟨z, u⟩ := q
    by_cases h : z = x
    · subst h; simp [putZ]
    · simp only [putZ, if_neg h, List.map_cons, ih]
      have : ¬ x = z := fun e => h e.symm
      by_cases h2 : x ∈ r.map (·.1)
      · simp [h2]
      · rw [if_neg h2, if_neg (by simp only [List.mem_cons, not_or]; exact ⟨this, h2⟩)]; rfl
theorem getZ_mem : ∀ {zs : Zs} {x : Str}, x ∈ zs.map (·.1) ↔ ∃ s, getZ zs x = some s
  | [], x => by simp [getZ]
  | (y, v) :: r, x => by
    by_cases h : y = x
    · subst h; simp [getZ]
    · have := getZ_mem (zs := r) (x := x)
      simp only [List.map_cons, List.mem_cons, getZ, if_neg h, ← this]
      constructor
      · rintro (z | z)
        · exact absurd z.symm h
        · exact z
      · exact .inr
theorem keysOk_eZ {zs : Zs} (h : (zs.map (·.1)).Nodup) : keysOk (eZ zs) = true := by
  unfold keysOk eZ
  rw [decide_eq_true_iff, List.map_map]
  have : ((fun (q : Key × D) => q.1) ∘ fun (q : Str × Nat) => ((Sum.inr q.1 : Key), D.int (q.2 : Nat))) = (fun x => (Sum.inr x : Key)) ∘ fun q => q.1 := rfl
  rw [this, ← List.map_map]
  rw [List.nodup_iff_pairwise_ne] at h ⊢
  exact List.pairwise_map.mpr (h.imp fun hab e => hab (Sum.inr.inj e))
def sumZ (zs : Zs) : List Str → Option Nat
  | [] => some 0
  | f :: r => (getZ zs f).bind fun a => (sumZ zs r).map fun b => a + b
def Le (zs zs' : Zs) : Prop := ∀ f s, getZ zs f = some s → ∃ s', s' ≤ s ∧ getZ zs' f = some s'
theorem sumZ_le {zs zs' : Zs} (h : Le zs zs') : ∀ {fs : List Str} {a : Nat}, sumZ zs fs = some a → ∃ a', a' ≤ a ∧ sumZ zs' fs = some a'
  | [], a, e => ⟨0, Nat.zero_le _, rfl⟩
  | f :: r, a, e => by
    simp only [sumZ] at e ⊢
    obtain ⟨x, e1, e⟩ := Option.bind_eq_some_iff.mp e
    obtain ⟨y, e2, rfl⟩ := Option.map_eq_some_iff.mp e
    obtain ⟨x', h1, e3⟩ := h f x e1
    obtain ⟨y', h2, e4⟩ := sumZ_le h e2
    exact ⟨x' + y', by omega, by simp only [e3, e4, Option.bind_some, Option.map_some]⟩
theorem sumZ_bound {zs : Zs} {B : Nat} (h : ∀ f s, getZ zs f = some s → s ≤ B) : ∀ {fs : List Str} {a : Nat}, sumZ zs fs = some a → a ≤ fs.length * B
  | [], a, e => by cases e; simp
  | f :: r, a, e => by
    simp only [sumZ] at e
    obtain ⟨x, e1, e⟩ := Option.bind_eq_some_iff.mp e
    obtain ⟨y, e2, rfl⟩ := Option.map_eq_some_iff.mp e
    have h1 := h f x e1
    have h2 := sumZ_bound h e2
    rw [List.length_cons, Nat.succ_mul]
    omega
theorem sumZ_some {zs : Zs} : ∀ {fs : List Str}, (∀ f ∈ fs, ∃ s, getZ zs f = some s) → ∃ a, sumZ zs fs = some a
  | [], _ => ⟨0, rfl⟩
  | f :: r, h => by
    obtain ⟨x, e1⟩ := h f (List.mem_cons_self ..)
    obtain ⟨y, e2⟩ := sumZ_some (fs := r) fun g hg => h g (List.mem_cons_of_mem _ hg)
    exact ⟨x + y, by simp only [sumZ, e1, e2, Option.bind_some, Option.map_some]⟩
theorem sumZ_part {zs : Zs} : ∀ {fs : List Str} {a : Nat}, sumZ zs fs = some a → ∀ f ∈ fs, ∃ s, getZ zs f = some s ∧ s ≤ a
  | f :: r, a, e, g, hg => by
    simp only [sumZ] at e
    obtain ⟨x, e1, e⟩ := Option.bind_eq_some_iff.mp e
    obtain ⟨y, e2, rfl⟩ := Option.map_eq_some_iff.mp e
    rcases List.mem_cons.mp hg with rfl | hg
    · exact ⟨x, e1, by omega⟩
    · obtain ⟨s, h1, h2⟩ := sumZ_part e2 g hg
      exact ⟨s, h1, by omega⟩
theorem sumZ_len {zs : Zs} (h : ∀ f s, getZ zs f = some s → 1 ≤ s) : ∀ {fs : List Str} {a : Nat}, sumZ zs fs = some a → fs.length ≤ a
  | [], a, e => by simp
  | f :: r, a, e => by
    simp only [sumZ] at e
    obtain ⟨x, e1, e⟩ := Option.bind_eq_some_iff.mp e
    obtain ⟨y, e2, rfl⟩ := Option.map_eq_some_iff.mp e
    have h1 := h f x e1
    have h2 := sumZ_len h e2
    rw [List.length_cons]
    omega
/-- sizes as they should be -/
structure ZOk (ks : KD) (zs : Zs) : Prop where
  nd : (zs.map (·.1)).Nodup
  sub : ∀ x ∈ zs.map (·.1), x ∈ ks.map (·.1)
  pos : ∀ f s, getZ zs f = some s → 1 ≤ s
  top : ∀ f s, getZ zs f = some s → s + 1 ≤ 2 ^ zs.length
  wit : ∀ f s, getZ zs f = some s → ∃ kk ∈ ks, kk.1 = f ∧ ∃ q ∈ kk.2, ∃ a, sumZ zs q.2 = some a ∧ 1 + a ≤ s
theorem ZOk.put {ks : KD} {zs : Zs} (Z : ZOk ks zs) {kk : Str × List (Str × List Str)} (hk : kk ∈ ks) {q : Str × List Str} (hq : q ∈ kk.2) (hl : q.2.length ≤ 2) {a : Nat} (ha : sumZ zs q.2 = some a) :
    ZOk ks (putZ zs kk.1 (min ((getZ zs kk.1).getD (1 + a)) (1 + a))) := by
  have hle : Le zs (putZ zs kk.1 (min ((getZ zs kk.1).getD (1 + a)) (1 + a))) := fun f s e => by
    rw [putZ_get]
    by_cases h : kk.1 = f
    · subst h
      rw [if_pos rfl, e]
      exact ⟨_, by simp only [Option.getD_some]; omega, rfl⟩
    · rw [if_neg h]
      exact ⟨s, Nat.le_refl _, e⟩
  have hnew : min ((getZ zs kk.1).getD (1 + a)) (1 + a) ≤ 1 + a := Nat.min_le_right _ _
  have hlen : (putZ zs kk.1 (min ((getZ zs kk.1).getD (1 + a)) (1 + a))).length = if kk.1 ∈ zs.map (·.1) then zs.length else zs.length + 1 := by
    have := congrArg List.length (putZ_keys zs kk.1 (min ((getZ zs kk.1).getD (1 + a)) (1 + a)))
    rw [List.length_map] at this
    rw [this]
    split <;> simp
  have hab : a ≤ 2 * (2 ^ zs.length - 1) := by
    have h1 := sumZ_bound (B := 2 ^ zs.length - 1) (fun f s e => by have := Z.top f s e; omega) ha
    exact Nat.le_trans h1 (Nat.mul_le_mul_right _ hl)
  have hpow : 1 ≤ 2 ^ zs.length := Nat.one_le_two_pow
  refine ⟨?_, fun x hx => ?_, fun f s e => ?_, fun f s e => ?_, fun f s e => ?_⟩
  · rw [putZ_keys]
    split
    · exact Z.nd
    · rename_i hx
      rw [List.nodup_append]
      exact ⟨Z.nd, by simp, fun a ha b hb => by simp at hb; subst hb; intro e; subst e; exact hx ha⟩
  · rw [putZ_keys] at hx
    split at hx
    · exact Z.sub x hx
    · rcases List.mem_append.mp hx with hx | hx
      · exact Z.sub x hx
      · rw [List.mem_singleton] at hx
        subst hx
        exact List.mem_map.mpr ⟨kk, hk, rfl⟩
  · rw [putZ_get] at e
    split at e
    · cases e
      cases hg : getZ zs kk.1 with
      | none => simp
      | some s => have := Z.pos _ _ hg; simp only [Option.getD_some]; omega
    · exact Z.pos f s e
  · rw [hlen]
    rw [putZ_get] at e
    split at e
    · cases e
      cases hg : getZ zs kk.1 with
      | none =>
        rw [if_neg (fun z => by obtain ⟨s, h⟩ := getZ_mem.mp z; rw [hg] at h; cases h)]
        simp only [Option.getD_none, Nat.min_self, Nat.pow_succ]
        omega
      | some s =>
        rw [if_pos (getZ_mem.mpr ⟨s, hg⟩)]
        have := Z.top _ _ hg
        simp only [Option.getD_some]
        omega
    · have := Z.top f s e
      split
      · exact this
      · rw [Nat.pow_succ]; omega
  · rw [putZ_get] at e
    split at e
    · rename_i hf
      subst hf
      cases e
      by_cases hc : (getZ zs kk.1).getD (1 + a) ≤ 1 + a
      · cases hg : getZ zs kk.1 with
        | none =>
          obtain ⟨a', h1, h2⟩ := sumZ_le hle ha
          exact ⟨kk, hk, rfl, q, hq, a', by rw [hg] at h2; exact h2, by simp; omega⟩
        | some s =>
          obtain ⟨k', hk', e', q', hq', a2, h3, h4⟩ := Z.wit _ _ hg
          obtain ⟨a', h1, h2⟩ := sumZ_le hle h3
          rw [hg] at hc h2
          simp only [Option.getD_some] at hc
          exact ⟨k', hk', e', q', hq', a', h2, by simp only [Option.getD_some]; omega⟩
      · obtain ⟨a', h1, h2⟩ := sumZ_le hle ha
        exact ⟨kk, hk, rfl, q, hq, a', h2, by omega⟩
    · obtain ⟨k', hk', e', q', hq', a2, h3, h4⟩ := Z.wit f s e
      obtain ⟨a', h1, h2⟩ := sumZ_le hle h3
      exact ⟨k', hk', e', q', hq', a', h2, by omega⟩
theorem ZOk.nil {ks : KD} : ZOk ks [] := ⟨by simp, by simp, by simp [getZ], by simp [getZ], by simp [getZ]⟩
end K88

namespace K88
open PySem PySem.Spec PyProof.Rows L2 IL
local macro_rules | `(tactic| walk_at "ev") => `(tactic| simp (config := { decide := false }) only [iVar, iC, iOp, iCons, iNil, iB, iCall, jVal, jAnd, jOr, jNot, iIf, iNeg, iNot, IL.iTup, IL.iTupP, IL.iLst, iSl, iNo, iPart, sAsg, sExpr, sRet, sRetN, sSkip, sAugN, sAugS, sPar, gNm, gTp, gsCons, gsNil, gSb, one, two, gInt, jYes, CT.put, wipeD, setAll, iListRev, parSet,
  List.getElem?_cons_zero, List.getElem?_cons_succ, List.set_cons_zero, List.set_cons_succ, List.map_cons, List.map_nil, List.cons_append, List.nil_append, List.replicate_succ, List.replicate_zero, List.getLast?_cons_cons, List.getLast?_singleton,
  Option.bind_some, Option.map_some, Ok_some, Ok_bind, Ok_map, if_true, if_false, Bool.false_eq_true, decide_true, decide_false, List.length_cons, List.length_nil, Nat.zero_le, sz1, sz2, sz3, sz4, sz5, sz6, sz7, sz8, sz9, sz10, sz11, sz12, Bool.not_true, Bool.not_false,
  iFld, iMeth, iDicK, gIx_tup, gIx_kt, gIx_sl, atI_0, atI_1, atI_2, atI_3, atI_4, atI_5, atI_m1, gEq_str, gEq_int, gNe_str, gNe_int, gAdd_int, seqD_tup, seqD_kt, gLen_tup, gLen_kt, Int.reduceNeg, len_push,
  le1, le2, le3, le4, le5, le6, le7, le8, le9, le10, le11, lw1, lw2, lw3, lw4, lw5, lw6, lw7, lw8, lw9, lw10, lw11, lw12, lw13, lw14, lw15, lw16, lw17])
/-! ### sizes -/
theorem in_Z {h : IH} {N : Nat} {zs : Zs} {x : Str} (e : h[N]? = some (.dic (eZ zs))) : gIn (.str x) (.loc N) h = some (.bl (getZ zs x).isSome, h) := by
  simp only [gIn, isIn, e, dictAt, keyD, Option.map_some, eZ_get]
  cases getZ zs x <;> rfl
theorem ix_Z {h : IH} {N : Nat} {zs : Zs} {x : Str} {s : Nat} (e : h[N]? = some (.dic (eZ zs))) (g : getZ zs x = some s) : gIx (.loc N) (.str x) h = some (.int (s : Nat), h) := by
  refine gIx_dk e ?_
  rw [eZ_get, g]
  rfl
theorem gAll_bls {h : IH} {n : Nat} {bs : List Bool} (e : h[n]? = some (.lst (bs.map D.bl))) : gAll [.loc n] h = some (.bl (bs.all id), h) := by
  simp only [gAll, one, lstD_lst e, Option.bind_some, blsD_map, Option.map_some]
theorem gSum_ints {h : IH} {n : Nat} {bs : List Int} (e : h[n]? = some (.lst (bs.map D.int))) : gSum [.loc n] h = some (.int bs.sum, h) := by
  simp only [gSum, one, lstD_lst e, Option.bind_some, intsD_map, Option.map_some]
theorem sum_Z {zs : Zs} : ∀ {fs : List Str} {a : Nat}, sumZ zs fs = some a → ((fs.map fun x => ((((getZ zs x).getD 0 : Nat)) : Int)).sum) = (a : Nat)
  | [], a, e => by cases e; rfl
  | f :: r, a, e => by
    simp only [sumZ] at e
    obtain ⟨x, e1, e⟩ := Option.bind_eq_some_iff.mp e
    obtain ⟨y, e2, rfl⟩ := Option.map_eq_some_iff.mp e
    have := sum_Z e2
    simp only [List.map_cons, List.sum_cons, e1, Option.getD_some, this]
    omega
theorem all_Z {zs : Zs} {fs : List Str} : (fs.map fun x => (getZ zs x).isSome).all id = true ↔ ∀ f ∈ fs, ∃ s, getZ zs f = some s := by
  rw [List.all_map, List.all_eq_true]
  constructor
  · intro h f hf
    exact Option.isSome_iff_exists.mp (h f hf)
  · intro h f hf
    exact Option.isSome_iff_exists.mpr (h f hf)
theorem put_Z {h : IH} {N : Nat} {zs : Zs} {x : Str} {s : Nat} (e : h[N]? = some (.dic (eZ zs))) (nd : (zs.map (·.1)).Nodup) (hl : zs.length ≤ 100000) : IL.putAt (.loc N) (.str x) (.int (s : Nat)) h = some (h.set N (.dic (eZ (putZ zs x s)))) := by
  have h1 : decide ((eZ zs).length < sizeLine) = true := decide_eq_true (sz_lt (by simp [eZ]; omega))
  simp only [IL.putAt, e, keyD, Option.bind_some, keysOk_eZ nd, h1, Bool.and_self, if_true, eZ_put]
theorem ZOk.len {ks : KD} {zs : Zs} (Z : ZOk ks zs) : zs.length ≤ ks.length := by
  have h1 := List.Nodup.length_le_of_subset Z.nd (fun x hx => Z.sub x hx)
  simpa using h1
theorem sizes_spec {t : Nat → Fn} {ks : KD} {ws : List Str} (K : Kds ks ws) (h : IH) : Ok (meant t 32 [.kt (ks.map eKi)] h) fun z => ∃ N zs, z.1 = .loc N ∧ h.length ≤ N ∧ Keep h z.2 ∧ z.2[N]? = some (.dic (eZ zs)) ∧ ZOk ks zs := by
  have hk3 := K.n3
  refine ok_fun rfl ?_
  unfold b_32
  refine ok_seq ?_
  walk_at "ev"
  refine SK_nx (ok_seq (ok_for (ok_pSeq ?_)))
  walk_at "ev"
  refine ⟨true, ks.map eKi, [], (fun s z => by cases z), rfl, ?_⟩
  refine ok_forI (fun i env h' => ∃ (w2 w3 w4 w5 w6 w7 : Option D) (zs : Zs), env = [some (.kt (ks.map eKi)), some (.loc h.length), w2, w3, w4, w5, w6, w7, none] ∧ Keep h h' ∧ h'[h.length]? = some (.dic (eZ zs)) ∧ ZOk ks zs) (fun _ _ _ _ => depsOk_nil) (fun i d env h' hi hI => ?_) (fun env h' hI => ?_) ⟨none, none, none, none, none, none, [], rfl, Ext.push _ _, get_new, ZOk.nil⟩
  · obtain ⟨w2, w3, w4, w5, w6, w7, zs, rfl, K1, e1, Z1⟩ := hI
    walk_at "ev"
    refine ok_for (ok_pSeq ?_)
    walk_at "ev"
    refine ⟨true, ks.map eKi, [], (fun s z => by cases z), rfl, ?_⟩
    refine ok_forI (fun i env h' => ∃ (w3 w4 w5 w6 w7 : Option D) (zs : Zs), env = [some (.kt (ks.map eKi)), some (.loc h.length), some d, w3, w4, w5, w6, w7, none] ∧ Keep h h' ∧ h'[h.length]? = some (.dic (eZ zs)) ∧ ZOk ks zs) (fun _ _ _ _ => depsOk_nil) (fun j d2 env h' hj hI => ?_) (fun env h' hI => ?_) ⟨w3, w4, w5, w6, w7, zs, rfl, K1, e1, Z1⟩
    · obtain ⟨w3, w4, w5, w6, w7, zs, rfl, K1, e1, Z1⟩ := hI
      rw [List.getElem?_map] at hj
      obtain ⟨kk, hkk, rfl⟩ := Option.map_eq_some_iff.mp hj
      have hkm := List.mem_of_getElem? hkk
      have kE := K.each kk hkm
      unfold eKi
      walk_at "ev"
      refine ok_for (ok_pSeq ?_)
      walk_at "ev"
      refine ⟨true, kk.2.map eMk, [], (fun s z => by cases z), rfl, ?_⟩
      refine ok_forI (fun i env h' => ∃ (w5 w6 w7 : Option D) (zs : Zs), env = [some (.kt (ks.map eKi)), some (.loc h.length), some d, some (.str kk.1), some (.tup (kk.2.map eMk)), w5, w6, w7, none] ∧ Keep h h' ∧ h'[h.length]? = some (.dic (eZ zs)) ∧ ZOk ks zs) (fun _ _ _ _ => depsOk_nil) (fun l d3 env h' hl hI => ?_) (fun env h' hI => ?_) ⟨w5, w6, w7, zs, rfl, K1, e1, Z1⟩
      · obtain ⟨w5, w6, w7, zs, rfl, K1, e1, Z1⟩ := hI
        rw [List.getElem?_map] at hl
        obtain ⟨q, hq, rfl⟩ := Option.map_eq_some_iff.mp hl
        have hqm := List.mem_of_getElem? hq
        have hfl := kE.fl q hqm
        unfold eMk eS
        walk_at "ev"
        refine ok_if ?_
        simp only [jVal, iB, iCons, iNil, Ok_bind]
        refine ok_mapF (items := q.2.map D.str) (dp := []) (h1 := h') (fun d => match d with
          | .str x => .bl (getZ zs x).isSome
          | d => d) ?_ depsOk_nil (by simp; omega) ?_ ?_
        · unfold pSeq
          walk_at "ev"
          rfl
        · intro d' hd' h2 K2
          obtain ⟨x, _, rfl⟩ := List.mem_map.mp hd'
          walk_at "ev"
          rw [in_Z (K2.get e1)]
          exact Ok_some.mpr ⟨rfl, Ext.refl _⟩
        · intro h2 K2 hn2
          have e2 : ((q.2.map D.str).map fun d => match d with
            | .str x => .bl (getZ zs x).isSome
            | d => d) = (q.2.map fun x => (getZ zs x).isSome).map D.bl := by rw [List.map_map, List.map_map]; rfl
          rw [e2] at hn2
          have e3 := K2.get e1
          replace K2 := K1.trans K2
          simp only [Ok_some, gAll_bls hn2]
          by_cases hb : (q.2.map fun x => (getZ zs x).isSome).all id = true
          · simp only [hb, if_true]
            obtain ⟨a, ha⟩ := sumZ_some (all_Z.mp hb)
            refine ok_seq ?_
            simp only [sAsg, iOp, iB, iCons, iNil, iC, Ok_bind, Ok_some]
            refine ok_mapF (items := q.2.map D.str) (dp := []) (h1 := h2) (fun d => match d with
              | .str x => .int (((getZ zs x).getD 0 : Nat) : Int)
              | d => d) ?_ depsOk_nil (by simp; omega) ?_ ?_
            · unfold pSeq
              walk_at "ev"
              rfl
            · intro d' hd' h4 K4
              obtain ⟨x, hx, rfl⟩ := List.mem_map.mp hd'
              obtain ⟨s, hs⟩ := all_Z.mp hb x hx
              walk_at "ev"
              rw [ix_Z (K4.get e3) hs]
              refine Ok_some.mpr ⟨?_, Ext.refl _⟩
              simp only [hs, Option.getD_some]
            · intro h4 K4 hn4
              have e4 : ((q.2.map D.str).map fun d => match d with
                | .str x => .int (((getZ zs x).getD 0 : Nat) : Int)
                | d => d) = (q.2.map fun x => (((getZ zs x).getD 0 : Nat) : Int)).map D.int := by rw [List.map_map, List.map_map]; rfl
              rw [e4] at hn4
              have e5 := K4.get e3
              replace K4 := K2.trans K4
              rw [gSum_ints hn4, sum_Z ha]
              walk_at "ev"
              refine SK_nx ?_
              walk_at "ev"
              refine Ok.of (a := (.int (((getZ zs kk.1).getD (1 + a) : Nat) : Int), h4)) ?_ ?_
              · simp only [iGet2, iVar, List.getElem?_cons_succ, List.getElem?_cons_zero, Option.map_some, Option.bind_some, isTy_dic e5, if_true, dictAt, e5, keyD, eZ_get]
                cases getZ zs kk.1 with
                | none => simp
                | some s => rfl
              have q2 : gMin2 [.int (((getZ zs kk.1).getD (1 + a) : Nat) : Int), .int (1 + (a : Int))] h4 = some (.int ((min ((getZ zs kk.1).getD (1 + a)) (1 + a) : Nat) : Int), h4) := by
                show (if true = true then some (D.int (if (1 + (a : Int)) < (((getZ zs kk.1).getD (1 + a) : Nat) : Int) then 1 + (a : Int) else (((getZ zs kk.1).getD (1 + a) : Nat) : Int)), h4) else none) = _
                rw [if_pos rfl]
                congr 3
                split <;> omega
              rw [q2]
              refine Ok_some.mpr ?_
              rw [put_Z e5 Z1.nd (by have := Z1.len; omega)]
              exact Ok_some.mpr ⟨_, _, _, _, rfl, K4.setNew _ _ (Nat.le_refl _), set_at e5, Z1.put hkm hqm hfl ha⟩
          · have hb' : (q.2.map fun x => (getZ zs x).isSome).all id = false := by simpa using hb
            simp only [hb', Bool.false_eq_true, if_false]
            walk_at "ev"
            exact ⟨_, _, _, zs, rfl, K2, e3, Z1⟩
      · obtain ⟨w5, w6, w7, zs, rfl, K1, e1, Z1⟩ := hI
        exact ⟨_, _, _, _, _, zs, rfl, K1, e1, Z1⟩
    · obtain ⟨w3, w4, w5, w6, w7, zs, rfl, K1, e1, Z1⟩ := hI
      exact ⟨_, _, _, _, _, _, zs, rfl, K1, e1, Z1⟩
  · obtain ⟨w2, w3, w4, w5, w6, w7, zs, rfl, K1, e1, Z1⟩ := hI
    refine SK_nx ?_
    walk_at "ev"
    exact ⟨h.length, zs, rfl, Nat.le_refl _, K1, e1, Z1⟩
end K88

namespace K88
open PySem PySem.Spec PyProof.Rows L2 IL
local macro_rules | `(tactic| walk_at "ev") => `(tactic| simp (config := { decide := false }) only [iVar, iC, iOp, iCons, iNil, iB, iCall, jVal, jAnd, jOr, jNot, iIf, iNeg, iNot, IL.iTup, IL.iTupP, IL.iLst, iSl, iNo, iPart, sAsg, sExpr, sRet, sRetN, sSkip, sAugN, sAugS, sPar, gNm, gTp, gsCons, gsNil, gSb, one, two, gInt, jYes, CT.put, wipeD, setAll, iListRev, parSet,
  List.getElem?_cons_zero, List.getElem?_cons_succ, List.set_cons_zero, List.set_cons_succ, List.map_cons, List.map_nil, List.cons_append, List.nil_append, List.replicate_succ, List.replicate_zero, List.getLast?_cons_cons, List.getLast?_singleton,
  Option.bind_some, Option.map_some, Ok_some, Ok_bind, Ok_map, if_true, if_false, Bool.false_eq_true, decide_true, decide_false, List.length_cons, List.length_nil, Nat.zero_le, sz1, sz2, sz3, sz4, sz5, sz6, sz7, sz8, sz9, sz10, sz11, sz12, Bool.not_true, Bool.not_false,
  iFld, iMeth, iDicK, gIx_tup, gIx_kt, gIx_sl, atI_0, atI_1, atI_2, atI_3, atI_4, atI_5, atI_m1, gEq_str, gEq_int, gNe_str, gNe_int, gAdd_int, seqD_tup, seqD_kt, gLen_tup, gLen_kt, Int.reduceNeg, len_push,
  le1, le2, le3, le4, le5, le6, le7, le8, le9, le10, le11, lw1, lw2, lw3, lw4, lw5, lw6, lw7, lw8, lw9, lw10, lw11, lw12, lw13, lw14, lw15, lw16, lw17])
/-! ### a value -/
def ValueS (ar : Str → Nat) (c : Nat) (F : Fn) : Prop := ∀ {ks : KD} {ws : List Str}, Kds ks ws → Ws ws → (∀ k ∈ ks, ∀ q ∈ k.2, ar q.1 = q.2.length) → ∀ {zs : Zs}, ZOk ks zs → ∀ {h : IH} {n m N : Nat}, Deal h n m → h[N]? = some (.dic (eZ zs)) → N ≠ n → ∀ {k : Str} {s : Nat} {r : Int}, getZ zs k = some s → s ≤ c → r ≤ c →
  Ok (F [.loc n, .kt (ks.map eKi), .loc N, .str k, .int r] h) fun z => ∃ v, z.1 = eV v ∧ AV ar v ∧ vdeep v ≤ c ∧ vsize v + 1 ≤ 2 ^ c ∧ Ext (Dl n m) h z.2 ∧ Deal z.2 n m
theorem value_zero {ar : Str → Nat} {F : Fn} : ValueS ar 0 F := by
  intro ks ws K W har zs Z h n m N hd eN hNn k s r hs hc hr
  have := Z.pos _ _ hs
  omega
def eC (a : Nat × Str × List Str) : D := .tup [.int ((1 + a.1 : Nat) : Int), .str a.2.1, eS a.2.2]
theorem dl_dic {h h' : IH} {n m N : Nat} (d : Deal h n m) (k : Ext (Dl n m) h h') {x : List (Key × D)} (e : h[N]? = some (.dic x)) (hn : N ≠ n) : h'[N]? = some (.dic x) := by
  refine k.at_ _ _ e fun z => ?_
  rcases z with z | rfl
  · exact hn z
  · obtain ⟨s, u, ys, _, e2, _⟩ := d
    rw [e] at e2; cases e2
theorem vsizes_le {B : Nat} : ∀ {vs : List Val}, (∀ v ∈ vs, vsize v ≤ B) → vsizes vs ≤ vs.length * B
  | [], _ => by simp [vsizes]
  | v :: vs, h => by
    have h1 := h v (List.mem_cons_self ..)
    have h2 := vsizes_le (vs := vs) fun u hu => h u (List.mem_cons_of_mem _ hu)
    simp only [vsizes, List.length_cons, Nat.succ_mul]
    omega
theorem nodup_one {ks : KD} (nd : (ks.map (·.1)).Nodup) {a b : Str × List (Str × List Str)} (ha : a ∈ ks) (hb : b ∈ ks) (e : a.1 = b.1) : a = b := by
  induction ks with
  | nil => cases ha
  | cons k ks ih =>
    rw [List.map_cons, List.nodup_cons] at nd
    rcases List.mem_cons.mp ha with z1 | ha' <;> rcases List.mem_cons.mp hb with z2 | hb'
    · rw [z1, z2]
    · exact absurd (List.mem_map.mpr ⟨b, hb', by rw [← e, z1]⟩) nd.1
    · exact absurd (List.mem_map.mpr ⟨a, ha', by rw [e, z2]⟩) nd.1
    · exact ih nd.2 ha' hb'
theorem value_spec {t : Nat → Fn} {ar : Str → Nat} {c : Nat} (hc60 : c ≤ 60) (h24 : DrawSp (t 24)) (h33 : ValueS ar c (t 33)) : ValueS ar (c + 1) (meant t 33) := by
  intro ks ws K W har zs Z h n m N hd eN hNn k s r hs hsc hr
  have hkm : k ∈ ks.map (·.1) := Z.sub k (getZ_mem.mpr ⟨s, hs⟩)
  obtain ⟨kk, hkk, rfl, hval⟩ := kdic_get hkm
  have kE := K.each kk hkk
  refine ok_fun rfl ?_
  unfold b_33
  refine ok_seq ?_
  walk_at "ev"
  refine SK_nx (ok_seq (ok_for (ok_pSeq ?_)))
  walk_at "ev"
  rw [dict_ks K W]
  walk_at "ev"
  have gd : (h ++ [O.lst []] ++ [O.dic (kdic ks)])[h.length + 1]? = some (.dic (kdic ks)) := by
    have g := get_new (h := h ++ [O.lst []]) (o := O.dic (kdic ks))
    simp only [len_push] at g
    exact g
  rw [gIx_dk gd hval]
  clear gd
  have eA := get_old (o' := O.dic (kdic ks)) (get_new (h := h) (o := O.lst []))
  have K1 : Keep h (h ++ [O.lst []] ++ [O.dic (kdic ks)]) := (Ext.push _ _).trans (Ext.push _ _)
  generalize h ++ [O.lst []] ++ [O.dic (kdic ks)] = h1 at *
  refine Ok_some.mpr ⟨true, kk.2.map eMk, [], (fun s z => by cases z), rfl, ?_⟩
  refine ok_forI (fun i env h' => ∃ (w6 w7 : Option D) (cs : List (Nat × Str × List Str)), env = [some (.loc n), some (.kt (ks.map eKi)), some (.loc N), some (.str kk.1), some (.int r), some (.loc h.length), w6, w7, none, none, none, none, none, none, none] ∧ Keep h h' ∧ h'[h.length]? = some (.lst (cs.map eC)) ∧ cs.length ≤ i ∧ (∀ a ∈ cs, a.2 ∈ kk.2 ∧ sumZ zs a.2.2 = some a.1) ∧
      ∀ (j : Nat) (q : Str × List Str) (a : Nat), j < i → kk.2[j]? = some q → sumZ zs q.2 = some a → (a, q) ∈ cs) (fun _ _ _ _ => depsOk_nil) (fun i d env h' hi hI => ?_) (fun env h' hI => ?_) ⟨none, none, [], rfl, K1, eA, Nat.le_refl _, by simp, by intro j q a hj; omega⟩
  · obtain ⟨w6, w7, cs, rfl, K2, eA2, hcl, hcs, hcc⟩ := hI
    rw [List.getElem?_map] at hi
    obtain ⟨q, hq, rfl⟩ := Option.map_eq_some_iff.mp hi
    have hqi := (List.getElem?_eq_some_iff.mp hq).1
    have hqm := List.mem_of_getElem? hq
    have hfl := kE.fl q hqm
    have hal := kE.len
    unfold eMk eS
    walk_at "ev"
    refine ok_if ?_
    simp only [jVal, iB, iCons, iNil, Ok_bind]
    have eN2 := K2.get eN
    refine ok_mapF (items := q.2.map D.str) (dp := []) (h1 := h') (fun d => match d with
      | .str x => .bl (getZ zs x).isSome
      | d => d) ?_ depsOk_nil (by simp; omega) ?_ ?_
    · unfold pSeq
      walk_at "ev"
      rfl
    · intro d' hd' h2 K2'
      obtain ⟨x, _, rfl⟩ := List.mem_map.mp hd'
      walk_at "ev"
      rw [in_Z (K2'.get eN2)]
      exact Ok_some.mpr ⟨rfl, Ext.refl _⟩
    · intro h2 K2' hn2
      have e2 : ((q.2.map D.str).map fun d => match d with
        | .str x => .bl (getZ zs x).isSome
        | d => d) = (q.2.map fun x => (getZ zs x).isSome).map D.bl := by rw [List.map_map, List.map_map]; rfl
      rw [e2] at hn2
      have eN3 := K2'.get eN2
      have eA3 := K2'.get eA2
      replace K2' : Keep h h2 := K2.trans K2'
      clear eN2 eA2 K2
      simp only [Ok_some, gAll_bls hn2]
      by_cases hb : (q.2.map fun x => (getZ zs x).isSome).all id = true
      · simp only [hb, if_true]
        obtain ⟨a, ha⟩ := sumZ_some (all_Z.mp hb)
        simp only [sExpr, Ok_bind]
        refine ok_bm ?_
        simp only [iVar, List.getElem?_cons_succ, List.getElem?_cons_zero, Option.map_some, Ok_some]
        refine ⟨isTy_lst eA3, ?_⟩
        simp only [iCons, iNil, IL.iTup, iOp, iB, iC, Ok_bind, Ok_some, Ok_map]
        refine ok_mapF (items := q.2.map D.str) (dp := []) (h1 := h2) (fun d => match d with
          | .str x => .int (((getZ zs x).getD 0 : Nat) : Int)
          | d => d) ?_ depsOk_nil (by simp; omega) ?_ ?_
        · unfold pSeq
          walk_at "ev"
          rfl
        · intro d' hd' h4 K4
          obtain ⟨x, hx, rfl⟩ := List.mem_map.mp hd'
          obtain ⟨s', hs'⟩ := all_Z.mp hb x hx
          walk_at "ev"
          rw [ix_Z (K4.get eN3) hs']
          refine Ok_some.mpr ⟨?_, Ext.refl _⟩
          simp only [hs', Option.getD_some]
        · intro h4 K4 hn4
          have e4 : ((q.2.map D.str).map fun d => match d with
            | .str x => .int (((getZ zs x).getD 0 : Nat) : Int)
            | d => d) = (q.2.map fun x => (((getZ zs x).getD 0 : Nat) : Int)).map D.int := by rw [List.map_map, List.map_map]; rfl
          rw [e4] at hn4
          have eA4 := K4.get eA3
          replace K4 : Keep h h4 := K2'.trans K4
          rw [gSum_ints hn4, sum_Z ha]
          walk_at "ev"
          have hcs3 : cs.length ≤ 3 := by omega
          refine Ok.of (gAppend_lst eA4 (sz_lt (by simp; omega))) ?_
          refine ⟨_, _, cs ++ [(a, q)], rfl, K4.setNew _ _ (Nat.le_refl _), ?_, by simp; omega, fun x hx => ?_, fun j q2 a2 hj hq2 ha2 => ?_⟩
          · rw [set_at eA4]
            simp [eC, eS]
          · rcases List.mem_append.mp hx with hx | hx
            · exact hcs x hx
            · rw [List.mem_singleton] at hx
              subst hx
              exact ⟨hqm, ha⟩
          · rcases Nat.lt_or_ge j i with hj' | hj'
            · exact List.mem_append_left _ (hcc j q2 a2 hj' hq2 ha2)
            · have : j = i := by omega
              subst this
              rw [hq] at hq2
              cases hq2
              rw [ha] at ha2
              cases ha2
              exact List.mem_append_right _ (List.mem_singleton.mpr rfl)
      · have hb' : (q.2.map fun x => (getZ zs x).isSome).all id = false := by simpa using hb
        simp only [hb', Bool.false_eq_true, if_false]
        walk_at "ev"
        refine ⟨_, _, cs, rfl, K2', eA3, by omega, hcs, fun j q2 a hj hq2 ha => ?_⟩
        rcases Nat.lt_or_ge j i with hj' | hj'
        · exact hcc j q2 a hj' hq2 ha
        · have : j = i := by omega
          subst this
          rw [hq] at hq2
          cases hq2
          exact absurd (all_Z.mpr fun f hf => by obtain ⟨s', h1, _⟩ := sumZ_part ha f hf; exact ⟨s', h1⟩) hb
  · obtain ⟨w6, w7, cs, rfl, K2, eA2, hcl, hcs, hcc⟩ := hI
    rw [List.length_map] at hcl hcc
    have hal := kE.len
    have eN2 := K2.get eN
    -- those that fit
    obtain ⟨T, hT⟩ : ∃ T : Int, T = if (s : Int) > r then (s : Int) else r := ⟨_, rfl⟩
    have hTc : T ≤ c + 1 := by rw [hT]; split <;> omega
    have hTs : (s : Int) ≤ T := by rw [hT]; split <;> omega
    have hTr : r ≤ T := by rw [hT]; split <;> omega
    refine SK_nx (ok_seq ?_)
    simp only [sAsg, Ok_bind]
    refine ok_filterF (items := cs.map eC) (dp := [(h.length, cs.map eC)]) (h1 := h') (fun d => match d with
      | .tup (.int x :: _) => decide (x ≤ T)
      | _ => false) id ?_ (depsOk_one eA2) (by simp; omega) ?_ ?_
    · unfold pSeq
      walk_at "ev"
      rw [seqSrc_lst eA2]
      rfl
    · intro d' hd' h3 K3
      obtain ⟨⟨a, q⟩, _, rfl⟩ := List.mem_map.mp hd'
      unfold eC
      walk_at "ev"
      rw [ix_Z (K3.get eN2) hs]
      simp only [gMax2]
      walk_at "ev"
      rw [← hT]
      exact ⟨rfl, Ext.refl _, fun _ => ⟨rfl, Ext.refl _⟩⟩
    · intro h3 K3 hn3
      obtain ⟨ds, hds, hdm, hdne⟩ : ∃ ds : List (Nat × Str × List Str), List.map id (List.filter (fun d => match d with
          | .tup (.int x :: _) => decide (x ≤ T)
          | _ => false) (cs.map eC)) = ds.map eC ∧ (∀ a ∈ ds, a ∈ cs ∧ ((1 + a.1 : Nat) : Int) ≤ T) ∧ ds ≠ [] := by
        refine ⟨cs.filter fun a => decide (((1 + a.1 : Nat) : Int) ≤ T), ?_, fun a ha => ?_, ?_⟩
        · rw [List.map_id, List.filter_map]
          rfl
        · have := List.mem_filter.mp ha
          exact ⟨this.1, by simpa using this.2⟩
        · obtain ⟨k2, hk2, e2, q, hq, a, h4, h5⟩ := Z.wit _ _ hs
          have : k2 = kk := nodup_one (K.nd W) hk2 hkk e2
          subst this
          obtain ⟨j, hj, e⟩ := List.mem_iff_getElem.mp hq
          have hm := hcc j q a hj (by rw [List.getElem?_eq_getElem hj, e]) h4
          intro z
          have : (a, q) ∈ cs.filter fun a => decide (((1 + a.1 : Nat) : Int) ≤ T) := List.mem_filter.mpr ⟨hm, by simp; omega⟩
          rw [z] at this
          cases this
      rw [hds] at hn3
      replace K3 : Keep h h3 := K2.trans K3
      have D3 := hd.keep K3
      have eN3 := K3.get eN
      have hdl : 0 < ds.length := List.length_pos_iff.mpr hdne
      have hdl3 : ds.length ≤ 1000 := by
        have := congrArg List.length hds
        rw [List.length_map, List.length_map] at this
        have := List.length_filter_le (fun d => match d with
          | .tup (.int x :: _) => decide (x ≤ T)
          | _ => false) (cs.map eC)
        rw [List.length_map] at this
        omega
      have hLm : h'.length ≠ m := fun z => by have := (hd.keep K2).lt.2; omega
      clear eA2 K2 eN2 hds hcc
      walk_at "ev"
      refine SK_nx (ok_seq ?_)
      walk_at "ev"
      rw [gLen_lst hn3, List.length_map]
      walk_at "ev"
      refine (h24 D3 ((ds.length : Nat) : Int) (by omega) (by omega)).imp ?_
      rintro ⟨d, h4⟩ ⟨g, rfl, hg, K4, D4⟩
      simp only at K4 D4
      have hn4 := dl_get D3 K4 hn3 hLm
      have eN4 := dl_dic D3 K4 eN3 hNn
      replace K4 : Ext (Dl n m) h h4 := (Ext.keep K3).trans K4
      clear K3 D3 hn3 eN3
      walk_at "ev"
      have hg' : g < ds.length := by omega
      have gd : gIx (.loc h'.length) (.int (g : Nat)) h4 = some (eC ds[g], h4) := by
        rw [gIx_lst hn4, IL.atI_nat, List.getElem?_map, List.getElem?_eq_getElem hg']; rfl
      rw [gd]
      obtain ⟨hdc, hdT⟩ := hdm _ (List.getElem_mem hg')
      generalize ds[g] = aq at *
      obtain ⟨a, q⟩ := aq
      obtain ⟨hqm, ha⟩ := hcs _ hdc
      simp only at hqm ha hdT
      unfold eC eS
      walk_at "ev"
      clear gd hn4 hg hg' hdm hdne hdl hdl3 hcs
      have hfl := kE.fl q hqm
      have hfin := K.fin kk hkk q hqm
      refine SK_nx (ok_seq ?_)
      walk_at "ev"
      refine SK_nx (ok_seq ?_)
      walk_at "ev"
      have D5 := D4.push (.lst [])
      have K5 : Ext (Dl n m) h (h4 ++ [O.lst []]) := K4.trans (Ext.push _ _)
      have eN5 := get_old (o' := O.lst []) eN4
      have eP5 := get_new (h := h4) (o := O.lst [])
      have hPm : h4.length ≠ m := fun z => by have := D4.lt.2; omega
      have hPn : h4.length ≠ n := fun z => by have := D4.lt.1; omega
      have hPN : h4.length ≠ N := fun z => by have := lt_of_get eN4; omega
      have hPh : h.length ≤ h4.length := K4.le
      generalize h4.length = P at *
      generalize h4 ++ [O.lst []] = h5 at *
      clear K4 D4 eN4
      have nPD : ¬ Dl n m P := fun z => by rcases z with z | z <;> omega
      refine SK_nx (ok_seq (ok_for ?_))
      unfold pEnum
      walk_at "ev"
      rw [show seqSrc h5 (D.tup (q.2.map D.str)) = some (true, q.2.map D.str, []) from rfl]
      refine Ok_some.mpr ?_
      have hac : a ≤ c := by omega
      refine ok_forI (fun i env h' => ∃ (w5 w11 w12 w13 : Option D) (left : Int) (ps : List Val), env = [some (.loc n), some (.kt (ks.map eKi)), some (.loc N), some (.str kk.1), some (.int r), w5, some (.str q.1), some (.tup (q.2.map D.str)), some (.int ((1 + a : Nat) : Int)), some (.int left), some (.loc P), w11, w12, w13, none] ∧ Ext (Dl n m) h h' ∧ Deal h' n m ∧ h'[N]? = some (.dic (eZ zs)) ∧ h'[P]? = some (.lst (ps.map eV)) ∧ ps.length = i ∧ left ≤ c ∧ ∀ v ∈ ps, AV ar v ∧ vdeep v ≤ c ∧ vsize v + 1 ≤ 2 ^ c)
        (fun _ _ _ _ => depsOk_nil) (fun i d env h' hi hI => ?_) (fun env h' hI => ?_) ⟨_, none, none, none, r - 1, [], rfl, K5, D5, eN5, eP5, rfl, by omega, by simp⟩
      · obtain ⟨w5, w11, w12, w13, left, ps, rfl, K6, D6, eN6, eP6, hpl, hle, hps⟩ := hI
        obtain ⟨y, hy, rfl⟩ := enumD_get _ _ _ _ hi
        rw [List.getElem?_map] at hy
        obtain ⟨fl, hfl', rfl⟩ := Option.map_eq_some_iff.mp hy
        have hj := (List.getElem?_eq_some_iff.mp hfl').1
        obtain ⟨sf, hsf, hsa⟩ := sumZ_part ha fl (List.mem_of_getElem? hfl')
        have hlen := sumZ_len Z.pos ha
        walk_at "ev"
        refine ok_seq ?_
        simp only [gMax2]
        walk_at "ev"
        obtain ⟨M, hM, hM1, hM2⟩ : ∃ M : Int, M = (if left > 1 then left else 1) ∧ 1 ≤ M ∧ (M ≤ c ∨ M = 1) := by
          refine ⟨_, rfl, ?_, ?_⟩
          · split <;> omega
          · split <;> omega
        rw [← hM]
        refine (h24 D6 (M + 1) (by omega) (by omega)).imp ?_
        rintro ⟨d, h7⟩ ⟨g, rfl, hg, K7, D7⟩
        simp only at K7 D7
        have eP7 := dl_get D6 K7 eP6 hPm
        have eN7 := dl_dic D6 K7 eN6 hNn
        replace K7 := K6.trans K7
        clear K6 D6 eN6 eP6
        walk_at "ev"
        have eU := get_new (h := h7) (o := O.lst [D.int left, D.int (g : Nat)])
        have eP8 := get_old (o' := O.lst [D.int left, D.int (g : Nat)]) eP7
        have eN8 := get_old (o' := O.lst [D.int left, D.int (g : Nat)]) eN7
        have D8 := D7.push (.lst [D.int left, D.int (g : Nat)])
        have K8 : Ext (Dl n m) h (h7 ++ [O.lst [D.int left, D.int (g : Nat)]]) := K7.trans (Ext.push _ _)
        generalize h7.length = U at *
        generalize h7 ++ [O.lst [D.int left, D.int (g : Nat)]] = h8 at *
        clear K7 D7 eP7 eN7
        obtain ⟨own, ho1, ho2, go⟩ : ∃ own : Int, own ≤ c ∧ left - own ≤ c ∧ (gIntOf [D.bl (decide (((0 + i : Nat) : Int) + 1 < (((q.2.map D.str).length : Nat) : Int)))] h8).bind (fun x => gIx (.loc U) x.1 x.2) = some (.int own, h8) := by
          rw [List.length_map]
          by_cases hb : i + 1 < q.2.length
          · have hb' : decide (((0 + i : Nat) : Int) + 1 < ((q.2.length : Nat) : Int)) = true := decide_eq_true (by omega)
            refine ⟨(g : Nat), by omega, by omega, ?_⟩
            rw [hb']
            show gIx (.loc U) (.int 1) h8 = _
            rw [gIx_lst eU, atI_1]; rfl
          · have hb' : decide (((0 + i : Nat) : Int) + 1 < ((q.2.length : Nat) : Int)) = false := decide_eq_false (by omega)
            refine ⟨left, hle, by omega, ?_⟩
            rw [hb']
            show gIx (.loc U) (.int 0) h8 = _
            rw [gIx_lst eU, atI_0]; rfl
        obtain ⟨⟨dd, hh⟩, go1, go2⟩ := Option.bind_eq_some_iff.mp go
        rw [go1]
        refine Ok_some.mpr ?_
        simp only at go2
        rw [go2]
        refine Ok_some.mpr (SK_nx (ok_seq ?_))
        clear go go1 go2 eU
        simp only [sExpr, Ok_bind]
        refine ok_bm ?_
        walk_at "ev"
        refine ⟨isTy_lst eP8, ?_⟩
        refine (h33 K W har Z D8 eN8 hNn hsf (by omega) ho1).imp ?_
        rintro ⟨d, h9⟩ ⟨v, rfl, v1, v2, v3, K9, D9⟩
        simp only at K9 D9
        have eP9 := dl_get D8 K9 eP8 hPm
        have eN9 := dl_dic D8 K9 eN8 hNn
        replace K9 := K8.trans K9
        refine Ok.of (gAppend_lst eP9 (sz_lt (by simp; omega))) ?_
        refine SK_nx ?_
        walk_at "ev"
        refine ⟨_, _, _, _, left - own, ps ++ [v], rfl, K9.setNew _ _ hPh, D9.setNew nPD, by rw [set_ne hPN]; exact eN9, ?_, by simp [hpl], ho2, fun u hu => ?_⟩
        · rw [set_at eP9]; simp
        · rcases List.mem_append.mp hu with hu | hu
          · exact hps u hu
          · rw [List.mem_singleton] at hu
            subst hu
            exact ⟨v1, v2, v3⟩
      · obtain ⟨w5, w11, w12, w13, left, ps, rfl, K6, D6, eN6, eP6, hpl, hle, hps⟩ := hI
        rw [enumD_len, List.length_map] at hpl
        refine SK_nx ?_
        walk_at "ev"
        simp only [gTupOf_lst eP6]
        walk_at "ev"
        have hdp := vdeeps_le_of fun v hv => (hps v hv).2.1
        have hsz := vsizes_le (B := 2 ^ c - 1) fun v hv => by have := (hps v hv).2.2; omega
        have hsz2 : ps.length * (2 ^ c - 1) ≤ 2 * (2 ^ c - 1) := Nat.mul_le_mul_right _ (by omega)
        have hpw : 1 ≤ 2 ^ c := Nat.one_le_two_pow
        refine ⟨.mk q.1 ps, ?_, ?_, ?_, ?_, K6, D6⟩
        · simp only [eV, eVs_map]
        · simp only [AV]
          exact ⟨K.mok W kk hkk q hqm, by rw [har kk hkk q hqm, hpl], AVs_iff.mpr fun v hv => (hps v hv).1⟩
        · simp only [vdeep]; omega
        · simp only [vsize, Nat.pow_succ]; omega
end K88

namespace K88
open PySem PySem.Spec PyProof.Rows L2 IL
/-! ### the longer program -/
theorem findF_mem {fs : List Fd} (nd : (fs.map (·.name)).Nodup) {F : Fd} (h : F ∈ fs) : findF fs F.name = some F := by
  induction fs with
  | nil => cases h
  | cons G fs ih =>
    rw [List.map_cons, List.nodup_cons] at nd
    unfold findF
    rw [List.find?_cons]
    rcases List.mem_cons.mp h with rfl | h
    · simp
    · have hne : (G.name == F.name) = false := by
        rw [beq_eq_false_iff_ne]
        intro e
        exact nd.1 (List.mem_map.mpr ⟨F, h, e.symm⟩)
      simp only [hne]
      exact ih nd.2 h
theorem strs_all {l : List Str} (h : l.all PyData.strOk = true) : ∀ x ∈ l, PyData.strOk x = true := fun x hx => List.all_eq_true.mp h x hx
theorem fixed_ok : ∀ x ∈ (["things", "thing", "rest", "told", "others", "list", "make", "call", "give", "case"] : List Str), PyData.strOk x = true := strs_all (by decide +kernel)
theorem pc_over {F : Str} {none more empty longer name : Str} (h1 : PyData.strOk none = true) (h2 : PyData.strOk more = true) (h3 : PyData.strOk empty = true) (h4 : PyData.strOk longer = true) (h5 : PyData.strOk name = true) (h6 : PyData.strOk F = true) :
    PcOk 300 (.case "things" (.cons none [] (.make "list" empty [] (.give "list")) (.cons more ["thing", "rest"] (.call "told" F ["thing"] (.call "others" name ["rest"] (.make "list" longer ["told", "others"] (.give "list")))) .nil))) := by
  have f := fixed_ok
  simp only [List.mem_cons, List.not_mem_nil, or_false, forall_eq_or_imp, forall_eq] at f
  obtain ⟨a1, a2, a3, a4, a5, a6, a7, a8, a9, a10⟩ := f
  refine ⟨?_, by simp [flat, flats]⟩
  rw [show (300 : Nat) = 292 + 1 + 1 + 1 + 1 + 1 + 1 + 1 + 1 from rfl]
  simp only [eP, eA, eS, List.map_cons, List.map_nil, fine_tup, D.fines, fine_str, h1, h2, h3, h4, h5, h6, a1, a2, a3, a4, a5, a6, a7, a8, a9, a10, Bool.and_self]
theorem pc_chain {F G p a b : Str} (h1 : PyData.strOk F = true) (h2 : PyData.strOk G = true) (h3 : PyData.strOk p = true) (h4 : PyData.strOk a = true) (h5 : PyData.strOk b = true) : PcOk 300 (.call a F [p] (.call b G [a] (.give b))) := by
  have f := fixed_ok
  simp only [List.mem_cons, List.not_mem_nil, or_false, forall_eq_or_imp, forall_eq] at f
  obtain ⟨a1, a2, a3, a4, a5, a6, a7, a8, a9, a10⟩ := f
  refine ⟨?_, by simp [flat]⟩
  rw [show (300 : Nat) = 292 + 1 + 1 + 1 + 1 + 1 + 1 + 1 + 1 from rfl]
  simp only [eP, eS, List.map_cons, List.map_nil, fine_tup, D.fines, fine_str, h1, h2, h3, h4, h5, a8, a9, Bool.and_self]
theorem wf_over {ar : Str → Nat} {fa : Str → Option Nat} {F : Str} {none more empty longer name : Str} (h1 : ar none = 0) (h2 : ar more = 2) (h3 : ar empty = 0) (h4 : ar longer = 2) (h5 : fa F = some 1) (h6 : fa name = some 1) :
    Wf ar fa ["things"] (.case "things" (.cons none [] (.make "list" empty [] (.give "list")) (.cons more ["thing", "rest"] (.call "told" F ["thing"] (.call "others" name ["rest"] (.make "list" longer ["told", "others"] (.give "list")))) .nil))) := by
  simp [Wf, Wfs, h1, h2, h3, h4, h5, h6]
theorem wf_chain {ar : Str → Nat} {fa : Str → Option Nat} {F G p a b : Str} (h5 : fa F = some 1) (h6 : fa G = some 1) : Wf ar fa [p] (.call a F [p] (.call b G [a] (.give b))) := by
  simp [Wf, h5, h6]
def nmI (k : Nat) : List Nat := [13 + 7 * k, 14 + 7 * k, 15 + 7 * k, 16 + 7 * k, 17 + 7 * k, 18 + 7 * k, 19 + 7 * k]
abbrev ovr (ws : List Str) (k : Nat) (F : Fd) : Fd := overF F (wa ws (13 + 7 * k)) (wa ws (14 + 7 * k)) (wa ws (15 + 7 * k)) (wa ws (16 + 7 * k)) (wa ws (17 + 7 * k)) (wa ws (18 + 7 * k)) (wa ws (19 + 7 * k))
abbrev long4 (ws : List Str) (fs : List Fd) (F G : Fd) (a b : Str) : List Fd := fs ++ [chainF F G (wa ws 0) (wa ws 34) a b] ++ [ovr ws 0 (chainF F G (wa ws 0) (wa ws 34) a b)] ++ [ovr ws 1 F] ++ [ovr ws 2 G]
theorem ready_of {ks : KD} {ws : List Str} {hs : List Hdd} {fs : List Fd} (T : TwoR ks ws hs fs) {M : Nat} {k1 k2 k3 : Str} (hM2 : M ≤ 2) (hl : hs.length = M + 2) (ha : hs[M]? = some ⟨wa ws (39 - M), [(wa ws 0, k1)], k2⟩) (hb : hs[M + 1]? = some ⟨wa ws (39 - (M + 1)), [(wa ws 0, k2)], k3⟩)
    {F G : Fd} (hF : fs[M]? = some F) (hG : fs[M + 1]? = some G) {a b : Str} (sa : PyData.strOk a = true) (sb : PyData.strOk b = true) :
    Ready (arOf ks ws) (long4 ws fs F G a b) F G (chainF F G (wa ws 0) (wa ws 34) a b) (wa ws 0) k1 (wa ws 0) k2 a b
      (wa ws (13 + 7 * 0)) (wa ws (14 + 7 * 0)) (wa ws (15 + 7 * 0)) (wa ws (16 + 7 * 0)) (wa ws (17 + 7 * 0)) (wa ws (18 + 7 * 0)) (wa ws (19 + 7 * 0))
      (wa ws (13 + 7 * 1)) (wa ws (14 + 7 * 1)) (wa ws (15 + 7 * 1)) (wa ws (16 + 7 * 1)) (wa ws (17 + 7 * 1)) (wa ws (18 + 7 * 1)) (wa ws (19 + 7 * 1))
      (wa ws (13 + 7 * 2)) (wa ws (14 + 7 * 2)) (wa ws (15 + 7 * 2)) (wa ws (16 + 7 * 2)) (wa ws (17 + 7 * 2)) (wa ws (18 + 7 * 2)) (wa ws (19 + 7 * 2)) := by
  have W := T.W
  have K := T.K
  obtain ⟨fn, fp, fr, fw, fo⟩ := T.fh M F _ hF ha
  obtain ⟨gn, gp, gr, gw, go⟩ := T.fh (M + 1) G _ hG hb
  simp only at fn fp fr gn gp gr
  have flen := T.fl
  have names : (long4 ws fs F G a b).map (·.name) = (((List.range (M + 2)).map fun i => 39 - i) ++ [34, 19, 26, 33]).map (wa ws) := by
    have e1 : fs.map (·.name) = ((List.range (M + 2)).map fun i => 39 - i).map (wa ws) := by
      apply List.ext_getElem?
      intro i
      rw [List.map_map, List.getElem?_map, List.getElem?_map]
      by_cases hi : i < M + 2
      · have h1 := List.getElem?_eq_getElem (l := fs) (i := i) (by omega)
        have h2 := List.getElem?_eq_getElem (l := hs) (i := i) (by omega)
        rw [h1, List.getElem?_range hi]
        have := (T.fh i _ _ h1 h2).1
        simp only [Option.map_some, this, T.names i _ h2]
        rfl
      · rw [List.getElem?_eq_none (by omega), List.getElem?_eq_none (by rw [List.length_range]; omega)]
        rfl
    simp only [List.map_append, e1, List.append_assoc]
    rfl
  have nd : ((long4 ws fs F G a b).map (·.name)).Nodup := by
    rw [names]
    have hI : ∀ M : Fin 3, (((List.range (M.1 + 2)).map fun i => 39 - i) ++ [34, 19, 26, 33]).Nodup ∧ ∀ i ∈ ((List.range (M.1 + 2)).map fun i => 39 - i) ++ [34, 19, 26, 33], i < 40 := by decide +kernel
    exact W.nodup (hI ⟨M, by omega⟩).1 (hI ⟨M, by omega⟩).2
  have mem : ∀ {X : Fd}, X ∈ fs → X ∈ long4 ws fs F G a b := fun h => by simp [long4, h]
  have Fm := List.mem_of_getElem? hF
  have Gm := List.mem_of_getElem? hG
  have iF := findF_mem nd (mem Fm)
  have iG := findF_mem nd (mem Gm)
  have iH := findF_mem nd (F := chainF F G (wa ws 0) (wa ws 34) a b) (by simp [long4])
  have i1 := findF_mem nd (F := ovr ws 0 (chainF F G (wa ws 0) (wa ws 34) a b)) (by simp [long4])
  have i2 := findF_mem nd (F := ovr ws 1 F) (by simp [long4])
  have i3 := findF_mem nd (F := ovr ws 2 G) (by simp [long4])
  have nOk : ∀ {i : Nat}, i < 40 → PyData.strOk (wa ws i) = true := fun h => W.wok h
  have LMk : ∀ (i j : Nat), (i, 0) ∈ listI → (j, 2) ∈ listI → i < 40 → j < 40 → LM (arOf ks ws) (wa ws i) (wa ws j) := fun i j h1 h2 h3 h4 => ⟨ar_list K W h1, ar_list K W h2, nOk h3, nOk h4⟩
  have ne : ∀ {i j : Nat}, i < 40 → j < 40 → i ≠ j → wa ws i ≠ wa ws j := fun h1 h2 h3 e => h3 (W.inj h1 h2 e)
  have hpF : F.params.length = 1 := by rw [fp]; rfl
  have hpG : G.params.length = 1 := by rw [gp]; rfl
  have fok : PyData.strOk F.name = true := by rw [fn]; exact nOk (by omega)
  have gok : PyData.strOk G.name = true := by rw [gn]; exact nOk (by omega)
  have faF : faOf (long4 ws fs F G a b) F.name = some 1 := by rw [faOf, iF]; simp [hpF]
  have faG : faOf (long4 ws fs F G a b) G.name = some 1 := by rw [faOf, iG]; simp [hpG]
  have faHn : faOf (long4 ws fs F G a b) (wa ws 34) = some 1 := by
    have : findF (long4 ws fs F G a b) (wa ws 34) = _ := iH
    rw [faOf, this]; simp [chainF, hpF]
  have fa1 : faOf (long4 ws fs F G a b) (wa ws (19 + 7 * 0)) = some 1 := by
    have : findF (long4 ws fs F G a b) (wa ws (19 + 7 * 0)) = _ := i1
    rw [faOf, this]; rfl
  have fa2 : faOf (long4 ws fs F G a b) (wa ws (19 + 7 * 1)) = some 1 := by
    have : findF (long4 ws fs F G a b) (wa ws (19 + 7 * 1)) = _ := i2
    rw [faOf, this]; rfl
  have fa3 : faOf (long4 ws fs F G a b) (wa ws (19 + 7 * 2)) = some 1 := by
    have : findF (long4 ws fs F G a b) (wa ws (19 + 7 * 2)) = _ := i3
    rw [faOf, this]; rfl
  refine ⟨⟨⟨fp, ne (by omega) (by omega) (by omega), iH, i1⟩, ⟨fp, ne (by omega) (by omega) (by omega), iF, i2⟩, ⟨gp, ne (by omega) (by omega) (by omega), iG, i3⟩, rfl⟩, ⟨ar_small K, ?_, ?_⟩, ⟨M + 2 + 1, ?_, ?_, ?_, ?_⟩, LMk _ _ (by decide) (by decide) (by omega) (by omega), LMk _ _ (by decide) (by decide) (by omega) (by omega), LMk _ _ (by decide) (by decide) (by omega) (by omega)⟩
  · simp [long4]; omega
  · intro X hX
    simp only [long4, List.mem_append, List.mem_singleton] at hX
    rcases hX with (((hX | rfl) | rfl) | rfl) | rfl
    · obtain ⟨i, hi, e⟩ := List.mem_iff_getElem.mp hX
      have h1 := List.getElem?_eq_getElem (l := fs) (i := i) hi
      have h2 := List.getElem?_eq_getElem (l := hs) (i := i) (by omega)
      rw [e] at h1
      obtain ⟨x1, x2, x3, x4, x5⟩ := T.fh i X _ h1 h2
      have hq := T.hp _ (List.getElem_mem (l := hs) (n := i) (by omega))
      refine ⟨x4.mono (fun g k hgk => ?_) (fun _ z => z), x5, by rw [x2]; omega⟩
      unfold faH lookL at hgk
      obtain ⟨q, hq1, hq2⟩ := Option.map_eq_some_iff.mp hgk
      have hqm := List.mem_of_find?_eq_some hq1
      have hqn := List.find?_some hq1
      obtain ⟨Q, hQ, rfl⟩ := List.mem_map.mp hqm
      obtain ⟨j, hj, e2⟩ := List.mem_iff_getElem.mp hQ
      have h3 := List.getElem?_eq_getElem (l := fs) (i := j) (by omega)
      have h4 := List.getElem?_eq_getElem (l := hs) (i := j) hj
      rw [e2] at h4
      obtain ⟨y1, y2, y3, y4, y5⟩ := T.fh j _ Q h3 h4
      have h5 := findF_mem nd (mem (List.mem_of_getElem? h3))
      simp only [beq_iff_eq] at hqn
      rw [y1, hqn] at h5
      simp only at hq2
      show (findF (long4 ws fs F G a b) g).map _ = _
      rw [h5, Option.map_some, y2, hq2]
    · refine ⟨?_, pc_chain fok gok (nOk (by omega)) sa sb, by show F.params.length ≤ 20; omega⟩
      have : (chainF F G (wa ws 0) (wa ws 34) a b).params.map (·.1) = [wa ws 0] := by show F.params.map (·.1) = _; rw [fp]; rfl
      rw [this]
      exact wf_chain faF faG
    · exact ⟨wf_over (ar_list K W (by decide)) (ar_list K W (by decide)) (ar_list K W (by decide)) (ar_list K W (by decide)) faHn fa1, pc_over (nOk (by omega)) (nOk (by omega)) (nOk (by omega)) (nOk (by omega)) (nOk (by omega)) (nOk (by omega)), by show 1 ≤ 20; omega⟩
    · exact ⟨wf_over (ar_list K W (by decide)) (ar_list K W (by decide)) (ar_list K W (by decide)) (ar_list K W (by decide)) faF fa2, pc_over (nOk (by omega)) (nOk (by omega)) (nOk (by omega)) (nOk (by omega)) (nOk (by omega)) fok, by show 1 ≤ 20; omega⟩
    · exact ⟨wf_over (ar_list K W (by decide)) (ar_list K W (by decide)) (ar_list K W (by decide)) (ar_list K W (by decide)) faG fa3, pc_over (nOk (by omega)) (nOk (by omega)) (nOk (by omega)) (nOk (by omega)) (nOk (by omega)) gok, by show 1 ≤ 20; omega⟩
  · simp [long4]; omega
  · have : fs.length = M + 2 := by omega
    simp [long4, this]
  · have : fs.length = M + 2 := by omega
    simp [long4, this]
  · have : fs.length = M + 2 := by omega
    simp [long4, this]
end K88

namespace K88
open PySem PySem.Spec PyProof.Rows L2 IL
/-! ### all together: enough levels -/
noncomputable abbrev Tw (k : Nat) : Nat → Fn := tower meant k
theorem tw {k c : Nat} (h : c + 1 ≤ k) : ∃ j, k = j + 1 ∧ c ≤ j := ⟨k - 1, by omega, by omega⟩
theorem t4 {k : Nat} (h : 1 ≤ k) : BodiesSp (Tw k 4) := by
  obtain ⟨j, rfl, _⟩ := tw (c := 0) h
  exact fun p h hl => bodies_in_spec (Tw j) p h hl
theorem t5 {k : Nat} (h : 2 ≤ k) : PiecesSp (Tw k 5) := by
  obtain ⟨j, rfl, hj⟩ := tw h
  exact fun p h n hn hp => pieces_spec (Tw j) (t4 hj) p h n hn hp
theorem t6 {k : Nat} (h : 1 ≤ k) : NumberSp (Tw k 6) := by
  obtain ⟨j, rfl, _⟩ := tw (c := 0) h
  exact fun kd fs y i h hi hl => number_spec (Tw j) kd fs y i h hi hl
theorem t8 {k : Nat} (h : 2 ≤ k) : SizeSp (Tw k 8) := by
  obtain ⟨j, rfl, hj⟩ := tw h
  obtain ⟨i, rfl, _⟩ := tw (c := 0) hj
  exact fun v h hv => size_spec (Tw (i + 1)) (fun v h hv => makers_spec (Tw i) v h hv) v h hv
theorem t9 {k : Nat} (h : 60 ≤ k) : DeepSp (Tw k 9) := fun v h' hd hs => deep_spec k v h' (by omega) hs
theorem t11 {k : Nat} (h : 1 ≤ k) : BeginSp (Tw k 11) := by
  obtain ⟨j, rfl, _⟩ := tw (c := 0) h
  exact fun R f F vs m hF e hl hq => begin_spec (Tw j) R f F vs m hF e hl hq
theorem t15 {k : Nat} (h : 1 ≤ k) : StopSp (Tw k 15) := by
  obtain ⟨j, rfl, _⟩ := tw (c := 0) h
  exact fun R fin => stop_spec (Tw j) R fin
theorem t16 {k : Nat} (h : 1 ≤ k) : BindSp (Tw k 16) := by
  obtain ⟨j, rfl, _⟩ := tw (c := 0) h
  exact fun R x v hl => bind_spec (Tw j) R x v hl
theorem t19 {k : Nat} (h : 61 ≤ k) : MakeSp (Tw k 19) := by
  obtain ⟨j, rfl, hj⟩ := tw h
  exact fun R x c ys p vs hv hl hk => make_spec (Tw j) (t8 (by omega)) (t9 hj) (t15 (by omega)) (t16 (by omega)) R x c ys p vs hv hl hk
theorem t20 {k : Nat} (h : 3 ≤ k) : ChooseSp (Tw k 20) := by
  obtain ⟨j, rfl, hj⟩ := tw h
  exact fun R x m as ps n hn hx hok hl => choose_spec (Tw j) (t5 hj) R x m as ps n hn hx hok hl
theorem t21 {k : Nat} (h : 2 ≤ k) : GiveSp (Tw k 21) := by
  obtain ⟨j, rfl, hj⟩ := tw h
  exact fun R x v hr => give_spec (Tw j) (t15 hj) (t16 hj) R x v hr
theorem tSps {k : Nat} (h : 61 ≤ k) : Sps (Tw k) := ⟨t6 (by omega), t11 (by omega), t16 (by omega), t19 h, t20 (by omega), t21 (by omega)⟩
theorem t18 {k : Nat} (h : 62 ≤ k) : DoSp (Tw k 18) := by
  obtain ⟨j, rfl, hj⟩ := tw h
  exact fun P _ _ _ _ _ _ _ _ _ _ _ R _ _ _ _ f g hB hrs hc => do_spec (tSps hj) P R f g hB hrs hc
theorem t17 {k : Nat} (h : 63 ≤ k) : TurnSp (Tw k 17) := by
  obtain ⟨j, rfl, hj⟩ := tw h
  exact fun P _ _ _ _ _ _ _ _ _ R _ _ l hB hc => turn_spec (t18 hj) P R l hB hc
theorem t10 {k : Nat} (h : 3 ≤ k) : InitSp (Tw k 10) := by
  obtain ⟨j, rfl, hj⟩ := tw h
  exact fun P _ _ _ _ _ _ _ ew em hG => init_spec (t5 hj) (t11 (by omega)) P ew em hG
theorem t22 {k : Nat} (h : 64 ≤ k) : RanSp (Tw k 22) := by
  obtain ⟨j, rfl, hj⟩ := tw h
  obtain ⟨i, rfl, _⟩ := tw (c := 0) (k := j) (by omega)
  exact fun P _ _ _ _ _ _ _ em hG hm hc hv hl => ran_spec (t := Tw (i + 1)) (t10 (by omega)) (fun R => purse_spec (Tw i) R) (fun R => steps_spec (Tw i) R) (fun R => end_spec (Tw i) R) (t17 hj) P em hG hm hc hv hl
theorem t34 {k : Nat} (h : 1 ≤ k) : ListedSp (Tw k 34) := by
  obtain ⟨j, rfl, _⟩ := tw (c := 0) h
  exact fun none more vs h n e => listed_spec (Tw j) none more vs h n e
theorem t35 {k : Nat} (h : 1 ≤ k) : ThingsSp (Tw k 35) := by
  obtain ⟨j, rfl, _⟩ := tw (c := 0) h
  exact fun none more vs h hl => things_spec (Tw j) none more vs h hl
theorem t36n {k : Nat} (h : 2 ≤ k) : NoSp (Tw k 36) := by
  obtain ⟨j, rfl, hj⟩ := tw h
  exact fun out ho none more h => given_no out ho none more h
theorem t36y {k : Nat} (h : 2 ≤ k) : YesSp (Tw k 36) := by
  obtain ⟨j, rfl, hj⟩ := tw h
  exact fun none more vs h hl hv => given_yes (t34 hj) (t35 hj) none more vs h hl hv
theorem t24 {k : Nat} (h : 1 ≤ k) : DrawSp (Tw k 24) := by
  obtain ⟨j, rfl, _⟩ := tw (c := 0) h
  exact fun hd many h1 h2 => draw_spec (Tw j) hd many h1 h2
theorem t27 {k : Nat} (h : 2 ≤ k) : FillSp (Tw k 27) := by
  obtain ⟨j, rfl, hj⟩ := tw h
  exact fun hd _ e hm hok hl _ _ hs hk => fill_spec (t24 hj) hd e hm hok hl hs hk
theorem t28 {ar : Str → Nat} {fa : Str → Option Nat} {k : Nat} (h : 3 ≤ k) : EndedS ar fa (Tw k 28) := by
  obtain ⟨j, rfl, hj⟩ := tw h
  exact fun G _ _ _ _ _ _ _ A S _ hk _ _ hF hsc => ended_spec (t27 hj) G A S hk hF hsc
theorem t30 {ar : Str → Nat} {fa : Str → Option Nat} : ∀ {rr k : Nat}, 4 + 2 * rr ≤ k → BodyS ar fa rr (Tw k 30)
  | 0, k, h => by
    obtain ⟨j, rfl, hj⟩ := tw (c := 3) (k := k) (by omega)
    exact body_spec (t24 (by omega)) (t27 (by omega)) (t28 hj) (fun r' e => by omega)
  | rr + 1, k, h => by
    obtain ⟨j, rfl, hj⟩ := tw (c := 3 + 2 * (rr + 1)) (k := k) (by omega)
    refine body_spec (t24 (by omega)) (t27 (by omega)) (t28 (by omega)) (fun r' e => ?_)
    have : r' = rr := by omega
    subst this
    refine ⟨t30 (by omega), ?_⟩
    obtain ⟨i, rfl, hi⟩ := tw (c := 4 + 2 * r') (k := j) (by omega)
    exact case_spec (t24 (by omega)) (t30 hi)
theorem t33 {ar : Str → Nat} : ∀ {c k : Nat}, c ≤ 60 → c + 2 ≤ k → ValueS ar c (Tw k 33)
  | 0, k, _, _ => value_zero
  | c + 1, k, hc, h => by
    obtain ⟨j, rfl, hj⟩ := tw (c := c + 2) (k := k) (by omega)
    exact value_spec (by omega) (t24 (by omega)) (t33 (by omega) hj)
end K88

namespace K88
open PySem PySem.Spec PyProof.Rows L2 IL
local macro_rules | `(tactic| walk_at "ev") => `(tactic| simp (config := { decide := false }) only [iVar, iC, iOp, iCons, iNil, iB, iCall, jVal, jAnd, jOr, jNot, iIf, iNeg, iNot, IL.iTup, IL.iTupP, IL.iLst, iSl, iNo, iPart, sAsg, sExpr, sRet, sRetN, sSkip, sAugN, sAugS, sPar, gNm, gTp, gsCons, gsNil, gSb, one, two, gInt, jYes, CT.put, wipeD, setAll, iListRev, parSet,
  List.getElem?_cons_zero, List.getElem?_cons_succ, List.set_cons_zero, List.set_cons_succ, List.map_cons, List.map_nil, List.cons_append, List.nil_append, List.replicate_succ, List.replicate_zero, List.getLast?_cons_cons, List.getLast?_singleton,
  Option.bind_some, Option.map_some, Ok_some, Ok_bind, Ok_map, if_true, if_false, Bool.false_eq_true, decide_true, decide_false, List.length_cons, List.length_nil, Nat.zero_le, sz1, sz2, sz3, sz4, sz5, sz6, sz7, sz8, sz9, sz10, sz11, sz12, Bool.not_true, Bool.not_false,
  iFld, iMeth, iDicK, gIx_tup, gIx_kt, gIx_sl, atI_0, atI_1, atI_2, atI_3, atI_4, atI_5, atI_m1, gEq_str, gEq_int, gNe_str, gNe_int, gAdd_int, seqD_tup, seqD_kt, gLen_tup, gLen_kt, Int.reduceNeg, len_push,
  le1, le2, le3, le4, le5, le6, le7, le8, le9, le10, le11, lw1, lw2, lw3, lw4, lw5, lw6, lw7, lw8, lw9, lw10, lw11, lw12, lw13, lw14, lw15, lw16, lw17])
/-! ### the law -/
theorem t0 {k : Nat} (h : 1 ≤ k) : SpareSp (Tw k 0) := by
  obtain ⟨j, rfl, _⟩ := tw (c := 0) h
  exact fun f p k h hp => spare_spec (Tw j) f p k h hp
theorem t1 {k : Nat} (h : 1 ≤ k) : MoreSp (Tw k 1) := by
  obtain ⟨j, rfl, _⟩ := tw (c := 0) h
  exact fun kd fs f ks m n h e hk hn hks hl => with_more_spec (Tw j) kd fs f ks m n h e hk hn hks hl
theorem names_cut {ws : List Str} (hl : ws.length = 40) {k : Nat} (hk : k < 3) : ((ws.map D.str).drop (13 + 7 * k)).take (20 + 7 * k - (13 + 7 * k)) = ((nmI k).map (wa ws)).map D.str := by
  rw [← List.map_drop, ← List.map_take]
  congr 1
  apply List.ext_getElem?
  intro i
  rw [show 20 + 7 * k - (13 + 7 * k) = 7 from by omega]
  by_cases hi : i < 7
  · rw [List.getElem?_take_of_lt hi, List.getElem?_drop, wa_get (by omega), List.getElem?_map]
    rcases i with _ | _ | _ | _ | _ | _ | _ | i
    all_goals first
      | (simp [nmI]; done)
      | (simp [nmI]; congr 1; omega)
      | omega
  · rw [List.getElem?_eq_none (by rw [List.length_take]; omega), List.getElem?_eq_none (by simp [nmI]; omega)]
theorem rng_eq {k : Nat} (hk : k ≤ 1000000) (g : IH) : (match ([D.int ((k : Nat) : Int)] : List D) with
    | [D.int j] => if (decide (-(2 ^ 62) ≤ j) && decide (j < 2 ^ 62)) = true then some (rangeD 0 j.toNat, ([] : Deps), g) else none
    | _ => none) = some ((List.range k).map fun i => D.int (i : Nat), [], g) := by
  have e2 : rangeD 0 ((k : Nat) : Int).toNat = (List.range k).map fun i => D.int (i : Nat) := by
    unfold rangeD
    rw [Int.toNat_natCast]
    simp only [Int.zero_add]
  simp only
  rw [if_pos (r62 hk), e2]
theorem law_ok (ns : List Int) (hn : ns.length ≤ 63) : Ok (meant (Tw 104) 38 [.sl (ns.map D.int)] []) fun z => z.1 = .bl true := by
  refine ok_fun rfl ?_
  unfold b_38
  refine ok_seq ?_
  walk_at "ev"
  refine (deal_spec (Tw 103) ns hn []).imp ?_
  rintro ⟨d, h1⟩ ⟨n, m, rfl, D1⟩
  simp only at D1
  walk_at "ev"
  refine SK_nx (ok_seq ?_)
  walk_at "ev"
  refine (t24 (k := 104) (by omega) D1 5 (by decide) (by decide)).imp ?_
  rintro ⟨d, h2⟩ ⟨k0, rfl, hk0, K2, D2⟩
  simp only at K2 D2
  walk_at "ev"
  refine (two_spec (t := Tw 103) (t24 (by omega)) (fun hd => words_spec (t := Tw 102) (t24 (by omega)) hd) (fun hd _ hW eW hWm => kinds_spec (t := Tw 102) (t24 (by omega)) hd hW eW hWm) (fun ar fa => t30 (by omega)) D2 (rm := 3 + (k0 : Int)) (by omega) (by omega)).imp ?_
  rintro ⟨d, h3⟩ ⟨ks, ws, hs, fs, W, rfl, eW, hWm, T, K3, D3⟩
  simp only at eW K3 D3
  clear D1 D2 K2 K3
  obtain ⟨M, k1, k2, k3, hM1, hM2, hhl, ha, hb, hk1⟩ := T.last
  have flen := T.fl
  have hW := T.W
  have hK := T.K
  have hwl := hW.len
  have hF := List.getElem?_eq_getElem (l := fs) (i := M) (by omega)
  have hG := List.getElem?_eq_getElem (l := fs) (i := M + 1) (by omega)
  generalize fs[M] = F at *
  generalize fs[M + 1] = G at *
  obtain ⟨fn, fp, fr, fw, fo⟩ := T.fh M F _ hF ha
  obtain ⟨gn, gp, gr, gw, go⟩ := T.fh (M + 1) G _ hG hb
  simp only at fn fp fr gn gp gr
  walk_at "ev"
  refine SK_nx (ok_seq ?_)
  rw [show ePr (.kt (ks.map eKi)) fs = D.tup [.kt (ks.map eKi), .tup (fs.map eF)] from rfl]
  walk_at "ev"
  have eN : (((fs.map eF).length : Nat) : Int) = ((M + 2 : Nat) : Int) := by rw [List.length_map, flen, hhl]
  simp only [eN]
  refine SK_nx (ok_seq ?_)
  simp only [sAsg, Ok_bind]
  refine ok_mapK (items := (List.range 3).map fun i => D.int (i : Nat)) (dp := []) (h1 := h3) (fun i y => y = eS ((nmI i).map (wa ws))) (range_of (k := 3) (h1 := h3) (by walk_at "ev"; rfl) (by omega)) depsOk_nil (by simp) ?_ ?_
  · intro i d h' hi K'
    obtain ⟨hi, rfl⟩ := range_get hi
    walk_at "ev"
    have q1 : gMul (.int 7) (.int (i : Nat)) h' = some (.int (7 * (i : Nat)), h') := gMul_int (by decide) (by omega)
    simp only [q1]
    walk_at "ev"
    simp only [q1]
    walk_at "ev"
    rw [gSl_lst (K'.get eW)]
    walk_at "ev"
    have e1 : (13 : Int) + 7 * (i : Nat) = ((13 + 7 * i : Nat) : Int) := by omega
    have e2 : (20 : Int) + 7 * (i : Nat) = ((20 + 7 * i : Nat) : Int) := by omega
    rw [e1, e2, cutD_mid (by omega) (by rw [List.length_map]; omega), names_cut hwl (by omega)]
    simp only [gTupOf_lst get_new, Ok_some]
    exact ⟨rfl, Ext.push _ _⟩
  · intro ys h4 hyl hyP K4 hn4
    have ey : ys = [eS ((nmI 0).map (wa ws)), eS ((nmI 1).map (wa ws)), eS ((nmI 2).map (wa ws))] := by
      have hl3 : ys.length = 3 := by simpa using hyl
      obtain ⟨a, b, c, rfl⟩ : ∃ a b c, ys = [a, b, c] := by
        rcases ys with _ | ⟨a, _ | ⟨b, _ | ⟨c, _ | ⟨d, r⟩⟩⟩⟩ <;> first
          | (simp at hl3; done)
          | exact ⟨_, _, _, rfl⟩
      rw [hyP 0 a rfl, hyP 1 b rfl, hyP 2 c rfl]
    subst ey
    have eW4 := K4.get eW
    have D4 := D3.keep K4
    have hNm : h3.length ≠ m := fun z => by have := D3.lt.2; omega
    generalize h3.length = Nm at *
    clear K4 D3 eW hyP hyl
    walk_at "ev"
    have gW : ∀ {g : IH} (i : Nat), i < 40 → g[W]? = some (.lst (ws.map D.str)) → gIx (.loc W) (.int (i : Nat)) g = some (.str (wa ws i), g) := fun i hi e => by
      rw [gIx_lst e, IL.atI_nat, List.getElem?_map, wa_get (by omega)]; rfl
    have x2 : ((M + 2 : Nat) : Int) - 2 = ((M : Nat) : Int) := by omega
    have x1 : ((M + 2 : Nat) : Int) - 1 = ((M + 1 : Nat) : Int) := by omega
    have kd0 : KdOk 3 (.kt (ks.map eKi)) := ⟨ks.map eKi, by rw [List.length_map]; exact hK.n3, .inl ⟨rfl, fun z => by have := hK.n1; rw [List.map_eq_nil_iff] at z; rw [z] at this; simp at this⟩⟩
    refine SK_nx (ok_seq ?_)
    walk_at "ev"
    have g34 : gIx (.loc W) (.int 34) h4 = some (.str (wa ws 34), h4) := gW 34 (by omega) eW4
    rw [g34]
    walk_at "ev"
    simp only [x2, x1]
    refine (chained_spec (Tw 103) (t0 (by omega)) (t1 (by omega)) (.kt (ks.map eKi)) fs M (M + 1) F G (wa ws 0) k1 (wa ws 34) 3 h4 hF hG fp kd0 (by omega) (by omega)).imp ?_
    rintro ⟨d, h5⟩ ⟨a, b, kd1, rfl, hkd1, K5, hap, hbp, hab, sa, sb⟩
    simp only at K5
    have R := ready_of T hM2 hhl ha hb hF hG sa sb
    have D5 := D4.keep K5
    have hn5 := K5.get hn4
    clear K5 D4 hn4 eW4 g34
    walk_at "ev"
    have fl2 : fs.length = M + 2 := by omega
    have gn0 : ∀ {g : IH}, g[Nm]? = some (.lst [eS ((nmI 0).map (wa ws)), eS ((nmI 1).map (wa ws)), eS ((nmI 2).map (wa ws))]) → gIx (.loc Nm) (.int 0) g = some (eS ((nmI 0).map (wa ws)), g) ∧ gIx (.loc Nm) (.int 1) g = some (eS ((nmI 1).map (wa ws)), g) ∧ gIx (.loc Nm) (.int 2) g = some (eS ((nmI 2).map (wa ws)), g) := fun e => by
      refine ⟨?_, ?_, ?_⟩
      · rw [gIx_lst e, atI_0]; rfl
      · rw [gIx_lst e, atI_1]; rfl
      · rw [gIx_lst e, atI_2]; rfl
    refine SK_nx (ok_seq ?_)
    walk_at "ev"
    rw [(gn0 hn5).1]
    walk_at "ev"
    have eH : (fs ++ [chainF F G (wa ws 0) (wa ws 34) a b])[M + 2]? = some (chainF F G (wa ws 0) (wa ws 34) a b) := by simp [fl2]
    refine (over_spec (Tw 103) (t1 (by omega)) kd1 _ (M + 2) _ (wa ws 0) k1 (wa ws (13 + 7 * 0)) (wa ws (14 + 7 * 0)) (wa ws (15 + 7 * 0)) (wa ws (16 + 7 * 0)) (wa ws (17 + 7 * 0)) (wa ws (18 + 7 * 0)) (wa ws (19 + 7 * 0)) 3 h5 eH fp hkd1 (by omega) (by simp; omega)).imp ?_
    rintro ⟨d, h6⟩ ⟨kd2, rfl, hkd2, K6⟩
    simp only at K6
    have D6 := D5.keep K6
    have hn6 := K6.get hn5
    clear K6 D5 hn5
    walk_at "ev"
    refine SK_nx (ok_seq ?_)
    walk_at "ev"
    rw [(gn0 hn6).2.1]
    walk_at "ev"
    simp only [x2]
    have eF6 : (fs ++ [chainF F G (wa ws 0) (wa ws 34) a b] ++ [ovr ws 0 (chainF F G (wa ws 0) (wa ws 34) a b)])[M]? = some F := by
      rw [List.append_assoc, List.getElem?_append_left (by omega)]; exact hF
    refine (over_spec (Tw 103) (t1 (by omega)) kd2 _ M _ (wa ws 0) k1 (wa ws (13 + 7 * 1)) (wa ws (14 + 7 * 1)) (wa ws (15 + 7 * 1)) (wa ws (16 + 7 * 1)) (wa ws (17 + 7 * 1)) (wa ws (18 + 7 * 1)) (wa ws (19 + 7 * 1)) 5 h6 eF6 fp hkd2 (by omega) (by simp; omega)).imp ?_
    rintro ⟨d, h7⟩ ⟨kd3, rfl, hkd3, K7⟩
    simp only at K7
    have D7 := D6.keep K7
    have hn7 := K7.get hn6
    clear K7 D6 hn6
    walk_at "ev"
    refine SK_nx (ok_seq ?_)
    walk_at "ev"
    rw [(gn0 hn7).2.2]
    walk_at "ev"
    simp only [x1]
    have eG7 : (fs ++ [chainF F G (wa ws 0) (wa ws 34) a b] ++ [ovr ws 0 (chainF F G (wa ws 0) (wa ws 34) a b)] ++ [ovr ws 1 F])[M + 1]? = some G := by
      rw [List.append_assoc, List.append_assoc, List.getElem?_append_left (by omega)]; exact hG
    refine (over_spec (Tw 103) (t1 (by omega)) kd3 _ (M + 1) _ (wa ws 0) k2 (wa ws (13 + 7 * 2)) (wa ws (14 + 7 * 2)) (wa ws (15 + 7 * 2)) (wa ws (16 + 7 * 2)) (wa ws (17 + 7 * 2)) (wa ws (18 + 7 * 2)) (wa ws (19 + 7 * 2)) 7 h7 eG7 gp hkd3 (by omega) (by simp; omega)).imp ?_
    rintro ⟨d, h8⟩ ⟨kd4, rfl, hkd4, K8⟩
    simp only at K8
    have D8 := D7.keep K8
    have hn8 := K8.get hn7
    clear K8 D7 hn7 hkd1 hkd2 hkd3 hkd4
    walk_at "ev"
    refine SK_nx (ok_seq ?_)
    walk_at "ev"
    refine (sizes_spec (t := Tw 103) hK h8).imp ?_
    rintro ⟨d, h9⟩ ⟨N, zs, rfl, hN, K9, eZ9, Z⟩
    simp only at K9 eZ9
    have D9 := D8.keep K9
    have hn9 := K9.get hn8
    have hNn : N ≠ n := fun z => by have := D8.lt.1; omega
    clear K9 D8 hn8
    walk_at "ev"
    refine SK_nx (ok_seq ?_)
    walk_at "ev"
    have eFi : atI (fs.map eF) (((M + 2 : Nat) : Int) - 2) = some (eF F) := by
      rw [x2, IL.atI_nat, List.getElem?_map, hF]; rfl
    rw [eFi]
    refine Ok_some.mpr ?_
    rw [show eF F = D.tup [.str F.name, .tup (F.params.map eQ), .str F.res, eP F.body] from rfl, fp]
    walk_at "ev"
    rw [show eQ (wa ws 0, k1) = D.tup [.str (wa ws 0), .str k1] from rfl]
    walk_at "ev"
    have hs7 : ∀ s, getZ zs k1 = some s → s ≤ 7 := fun s hs => by
      have h1 := Z.top _ _ hs
      have h2 := Z.len
      have h3 := hK.n3
      have h4 : 2 ^ zs.length ≤ 2 ^ 3 := Nat.pow_le_pow_right (by decide) (by omega)
      omega
    refine SK_nx (ok_seq (ok_for (Ok.of (range_of (k := 2) (h1 := h9) (by walk_at "ev"; rfl) (by omega)) ?_)))
    refine ok_forI (fun i env h' => ∃ (w9 w10 w11 : Option D), env = [some (.sl (ns.map D.int)), some (.loc n), some (.tup [.kt (ks.map eKi), .tup (fs.map eF)]), some (.loc W), some (.int ((M + 2 : Nat) : Int)), some (.loc Nm), some (ePr kd4 (long4 ws fs F G a b)), some (.loc N), some (.str k1), w9, w10, w11] ∧ Deal h' n m ∧ h'[N]? = some (.dic (eZ zs)) ∧ h'[Nm]? = some (.lst [eS ((nmI 0).map (wa ws)), eS ((nmI 1).map (wa ws)), eS ((nmI 2).map (wa ws))]))
      (fun _ _ _ _ => depsOk_nil) (fun i d env h' hi hI => ?_) (fun env h' hI => ?_) ⟨none, none, none, rfl, D9, eZ9, hn9⟩
    · obtain ⟨hi, rfl⟩ := range_get hi
      obtain ⟨w9, w10, w11, rfl, D10, eZ10, hn10⟩ := hI
      walk_at "ev"
      refine ok_seq ?_
      walk_at "ev"
      have D11 := D10.push (.lst [])
      have eZ11 := get_old (o' := O.lst []) eZ10
      have hn11 := get_old (o' := O.lst []) hn10
      have eP11 := get_new (h := h') (o := O.lst [])
      have hPm : h'.length ≠ m := fun z => by have := D10.lt.2; omega
      have hPn : h'.length ≠ n := fun z => by have := D10.lt.1; omega
      have hPN : h'.length ≠ N := fun z => by have := lt_of_get eZ10; omega
      have hPNm : h'.length ≠ Nm := fun z => by have := lt_of_get hn10; omega
      generalize h'.length = P at *
      generalize h' ++ [O.lst []] = h11 at *
      clear D10 eZ10 hn10
      have nPD : ¬ Dl n m P := fun z => by rcases z with z | z <;> omega
      refine SK_nx (ok_seq (ok_for ?_))
      unfold pRange1
      walk_at "ev"
      have D12 := D11.push (.lst [D.int 3, D.int 6])
      have eZ12 := get_old (o' := O.lst [D.int 3, D.int 6]) eZ11
      have hn12 := get_old (o' := O.lst [D.int 3, D.int 6]) hn11
      have eP12 := get_old (o' := O.lst [D.int 3, D.int 6]) eP11
      have eV12 := get_new (h := h11) (o := O.lst [D.int 3, D.int 6])
      generalize h11.length = V at *
      generalize h11 ++ [O.lst [D.int 3, D.int 6]] = h12 at *
      clear D11 eZ11 hn11 eP11
      obtain ⟨v, hv1, hv2, gv⟩ : ∃ v : Int, 0 < v ∧ v ≤ 6 ∧ gIx (.loc V) (.int (i : Nat)) h12 = some (.int v, h12) := by
        rw [gIx_lst eV12, IL.atI_nat]
        rcases i with _ | _ | i
        · exact ⟨3, by decide, by decide, rfl⟩
        · exact ⟨6, by decide, by decide, rfl⟩
        · omega
      rw [gv]
      refine Ok_some.mpr ?_
      refine (t24 (k := 104) (by omega) D12 v hv1 (by omega)).imp ?_
      rintro ⟨d, h13⟩ ⟨g, rfl, hg, K13, D13⟩
      simp only at K13 D13
      have eZ13 := dl_dic D12 K13 eZ12 hNn
      have hn13 := dl_get D12 K13 hn12 hNm
      have eP13 := dl_get D12 K13 eP12 hPm
      clear D12 eZ12 hn12 eP12 eV12 gv K13
      walk_at "ev"
      rw [in_Z eZ13]
      refine Ok_some.mpr ?_
      obtain ⟨kt, hkt, hk0', gkt⟩ : ∃ kt : Nat, kt ≤ 6 ∧ ((getZ zs k1).isSome = false → kt = 0) ∧ (gIntOf [D.bl (getZ zs k1).isSome] h13).bind (fun x => gMul (.int (g : Nat)) x.1 x.2) = some (.int (kt : Nat), h13) := by
        cases hb : (getZ zs k1).isSome
        · refine ⟨0, by omega, fun _ => rfl, ?_⟩
          show gMul (.int (g : Nat)) (.int 0) h13 = _
          rw [gMul_int (by omega) (by decide), Int.mul_zero]; rfl
        · refine ⟨g, by omega, fun z => by simp at z, ?_⟩
          show gMul (.int (g : Nat)) (.int 1) h13 = _
          rw [gMul_int (by omega) (by decide), Int.mul_one]
      obtain ⟨⟨dd, hh⟩, gk1, gk2⟩ := Option.bind_eq_some_iff.mp gkt
      walk_at "ev"
      rw [gk1]
      refine Ok_some.mpr ?_
      simp only at gk2
      rw [gk2]
      refine Ok_some.mpr ?_
      refine Ok.of (rng_eq (k := kt) (by omega) h13) ?_
      clear gk1 gk2 gkt hg
      refine ok_forI (fun j env h' => ∃ (w11 : Option D) (vs : List Val), env = [some (.sl (ns.map D.int)), some (.loc n), some (.tup [.kt (ks.map eKi), .tup (fs.map eF)]), some (.loc W), some (.int ((M + 2 : Nat) : Int)), some (.loc Nm), some (ePr kd4 (long4 ws fs F G a b)), some (.loc N), some (.str k1), some (.int (i : Nat)), some (.loc P), w11] ∧ Deal h' n m ∧ h'[N]? = some (.dic (eZ zs)) ∧ h'[Nm]? = some (.lst [eS ((nmI 0).map (wa ws)), eS ((nmI 1).map (wa ws)), eS ((nmI 2).map (wa ws))]) ∧ h'[P]? = some (.lst (vs.map eV)) ∧ vs.length = j ∧
          ∀ v ∈ vs, AV (arOf ks ws) v ∧ vdeep v ≤ 20 ∧ vsize v ≤ 500) (fun _ _ _ _ => depsOk_nil) (fun j d env h' hj hI => ?_) (fun env h' hI => ?_) ⟨w11, [], rfl, D13, eZ13, hn13, eP13, rfl, by simp⟩
      · obtain ⟨hj, rfl⟩ := range_get hj
        obtain ⟨w11, vs, rfl, D14, eZ14, hn14, eP14, hvl, hvs⟩ := hI
        obtain ⟨sk, hsk⟩ : ∃ sk, getZ zs k1 = some sk := by
          cases hb : getZ zs k1 with
          | none => have := hk0' (by rw [hb]; rfl); omega
          | some sk => exact ⟨sk, rfl⟩
        walk_at "ev"
        refine ok_bm ?_
        walk_at "ev"
        refine ⟨isTy_lst eP14, ?_⟩
        refine (t24 (k := 104) (by omega) D14 7 (by decide) (by decide)).imp ?_
        rintro ⟨d, h15⟩ ⟨g, rfl, hg, K15, D15⟩
        simp only at K15 D15
        have eZ15 := dl_dic D14 K15 eZ14 hNn
        have hn15 := dl_get D14 K15 hn14 hNm
        have eP15 := dl_get D14 K15 eP14 hPm
        walk_at "ev"
        refine (t33 (ar := arOf ks ws) (c := 7) (k := 104) (by omega) (by omega) hK hW (ar_maker hK hW) Z D15 eZ15 hNn hsk (hs7 _ hsk) (by omega)).imp ?_
        rintro ⟨d, h16⟩ ⟨v, rfl, v1, v2, v3, K16, D16⟩
        simp only at K16 D16
        have eZ16 := dl_dic D15 K16 eZ15 hNn
        have hn16 := dl_get D15 K16 hn15 hNm
        have eP16 := dl_get D15 K16 eP15 hPm
        refine Ok.of (gAppend_lst eP16 (sz_lt (by simp; omega))) ?_
        refine ⟨_, vs ++ [v], rfl, D16.setNew nPD, by rw [set_ne hPN]; exact eZ16, by rw [set_ne hPNm]; exact hn16, by rw [set_at eP16]; simp, by simp [hvl], fun u hu => ?_⟩
        rcases List.mem_append.mp hu with hu | hu
        · exact hvs u hu
        · rw [List.mem_singleton] at hu
          subst hu
          exact ⟨v1, by omega, by omega⟩
      · obtain ⟨w11, vs, rfl, D14, eZ14, hn14, eP14, hvl, hvs⟩ := hI
        rw [List.length_map, List.length_range] at hvl
        refine SK_nx (ok_if ?_)
        walk_at "ev"
        refine (right_spec (t := Tw 103) (t22 (by omega)) (t34 (by omega)) (t36n (by omega)) (t36y (by omega)) R (kd := kd4) (h := h') (nm := Nm) (vm := P) (vs := vs) hn14 eP14 (by omega) hvs).imp ?_
        rintro ⟨d, h15⟩ ⟨rfl, K15⟩
        simp only at K15
        walk_at "ev"
        exact ⟨_, _, _, rfl, D14.keep K15, K15.get eZ14, K15.get hn14⟩
    · obtain ⟨w9, w10, w11, rfl, D10, eZ10, hn10⟩ := hI
      refine SK_nx ?_
      walk_at "ev"
      rfl
end K88

/-! the head -/
namespace K88
open PySem PySem.Spec PyProof.Rows L2 IL
abbrev RR : PySem.W.OpenRow := PySem.W.OpenLaw.row PySem.Challenge.rw_pursewright_k88_whole_over_a_chain
def defsD : List He.DefD := dfs.map (·.d)
abbrev hk : PySem.W.Hook := hookX 6 fas defsD tus
def ob (s : PySem.W.SharedT) : AlX := obsXG 6 fas defsD tus (HandSHeadRun.getT s)
theorem ob_eq (s : PySem.W.SharedT) : ob s = hk.obs s.abs := obsXG_eq (HandSHeadRun.getT_eq s)
def names1 : List Str := ["SPARE", "spare_names", "with_more", "chained", "over", "bodies_in", "pieces", "number_of", "makers_in", "size", "deep", "MOST_MAKERS", "MOST_DEEP", "Walk", "ran", "_law_deal", "_law_draw", "_law_words", "_law_kinds", "_law_fill", "_law_ended", "_law_case", "_law_body", "_law_two", "_law_sizes", "_law_value", "_law_listed", "_law_things", "_law_given", "_law_right"]
def names2 : List Str := []
theorem run (w : World) : HandSHeadRun.RunEq RR (PySem.W.view RR.prog [36]) hk ob 4000 (names1 ++ names2) w := by
  intro os
  kernel_rfl
end K88

namespace K88
open PySem PySem.Spec PyProof.Rows L2 IL
theorem law_true (ns : List Int) (hn : ns.length ≤ 63) : ∃ h', tower meant 105 38 [.sl (ns.map D.int)] [] = some (.bl true, h') := by
  obtain ⟨⟨d, h'⟩, e, q⟩ := law_ok ns hn
  simp only at q
  subst q
  exact ⟨h', e⟩
def spL (K : PySem.W.Frag) : Sp := fun vs H Q _ => ∃ (a : Addr) (ns : List Int), vs = [.ref a] ∧ Only H ∧ SqL K H a (ns.map V.int) ∧ ns.length ≤ 63 ∧ ∀ H', Q (.bl true) H'
theorem reps_ints {c : Ct} {ι : List Addr} {H : Hp} : ∀ ns : List Int, Reps c ι H (ns.map V.int) (ns.map D.int)
  | [] => .nil
  | n :: ns => .cons (.int n) (reps_ints ns)
theorem facts {P : Program} {w : World} {K : PySem.W.Frag} {h : Heap} {mg : Str → Option Value} {f : Addr} (X : K.In h) (G : h.Ns mainGlobals mg) (hfa : mg ("law" : Str) = some (.ref f)) (c : SaysX fas (dfs.map (·.d)) tus K) :
    ∃ fd : FuncData, (∀ (s : Shared) (v : Value), BindsTo s fd ⟨[v], []⟩ [("_law_script", v)]) ∧ ∀ base : Heap, K.In base → base.Ns mainGlobals mg → FnOk P w K mg base CX0 230 f fd ["_law_script"] (spL K) := by
  have T : Txt K mg (fun j => He.ga K ((css[j]?).getD "")) fas dfs css tus := txt_of X G c (fun j x hj => by show He.ga K ((css[j]?).getD "") = _; rw [hj]; rfl) plain (bds K)
  obtain ⟨fd, F, B⟩ := T.fn lawNo df_38 rfl
  have hg := He.glo_ok X G (c.d.fact 62 (f := .glo "law") rfl)
  rw [hfa] at hg
  cases hg
  have b := FunD.bindsA (ps := ["_law_script"]) F fun _ _ _ _ _ _ us hl => match us, hl with | [_], _ => rfl
  refine ⟨fd, fun s v => b s [v] rfl, fun base _ _ => ?_⟩
  have L := lv_all (P := P) (w := w) (base := base) (B := meant) T (fun k t hk => bks k t hk) 105 lawNo df_38 rfl fd F
  refine L.imp fun vs H Q E q => ?_
  obtain ⟨a, ns, rfl, hO, hS, hl, hQ⟩ := q
  obtain ⟨h', e⟩ := law_true ns hl
  have ks : KSl K H a (ns.map V.int) := by
    rcases hS with (hS | ⟨o, hS⟩) | hS
    · rcases hO a with z | ⟨o, xs, z⟩
      · rw [z] at hS; cases hS
      · rw [z] at hS; cases hS
    · exact .inl ⟨o, hS⟩
    · exact .inr hS
  refine ⟨rfl, [], [], [.sl (ns.map D.int)], .bl true, h', ⟨rfl, List.nodup_nil, fun n a o z => by simp at z⟩, .cons (.sl ks (reps_ints ns)) .nil, e, fun ι' H' v _ _ r => ?_⟩
  cases r
  exact hQ H'
end K88
open PySem PySem.W PySem.Calls PyProof.Rows
theorem PySem.Challenge.cw_pursewright_k88_whole_over_a_chain_holds : PySem.Challenge.rw_pursewright_k88_whole_over_a_chain.Holds := by
  w_on; o_law
  refine HandSHeadRun.head_any (r := K88.RR) (q := view K88.RR.prog [36]) (H := K88.hk) (ob := K88.ob) (M := 4000) (loose := K88.names1 ++ K88.names2) (d := HandSHeadRun.topDef K88.RR.prog 36) (kwd := []) K88.ob_eq
    (by kernel_rfl) (fun s => by kernel_rfl) K88.run (by kernel_rfl) (by kernel_rfl) (by kernel_rfl) (by rfl) (by first | assumption | decide +kernel) (by decide +kernel) ⟨rfl, rfl, rfl, rfl, rfl, by decide +kernel⟩ ?hw ?hc
  case hw => w_witness2
  case hc =>
    refine L2.walk_ofE (l := PySem.Challenge.rw_pursewright_k88_whole_over_a_chain) (n := 63) (k := 230) (x := "_law_script") (CX := L2.CX0) rfl (by decide) (by kernel_rfl) ⟨rfl, by decide, by decide⟩ ?F (fun _ _ _ _ z => z)
    intro w mg fa h Y G hmg0
    obtain ⟨K, KX, c⟩ := Y
    have hmg : mg ("law" : PySem.Str) = some (.ref fa) := by
      have e : (HandSHeadRun.topDef K88.RR.prog 36).name = ("law" : PySem.Str) := by kernel_rfl
      rw [← e]
      exact hmg0
    obtain ⟨fd, hb, hF⟩ := K88.facts (P := (PySem.Challenge.rw_pursewright_k88_whole_over_a_chain).prog) (w := w) KX G hmg c
    exact ⟨K, fd, K88.spL K, KX, hb, fun H a ns hl hO hS => ⟨a, ns, rfl, hO, hS, hl, fun _ => rfl⟩, hF⟩

