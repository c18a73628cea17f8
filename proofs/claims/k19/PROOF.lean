import PyProof.Rows.All
import Wide.All
import OpenK.AllK
import Wide.FinOn
import KE.KStateDown
import HandS.ForMost
import HandS.ForExc
import HandS.TupAny
import HandS.Conv
import HandS.DictComp
import HandS.IsInst
import HandS.Wide
import HandS.Zip
import HandS.Style
import HandS.SetKeys
import HandS.Head2
import HandS.HeadEnd
import HandS.HeadHook2
import KE.GoesEnum
import HandS.Finally
import HandS.Ends
import HandS.Words
import HandS.WordsExc
import HandS.Defaults
import HandS.Head0
import HandS.Head1
import HandS.HeadHook1
import HandS.OwnEq
import PyProof.InstNe
import PyProof.DictCopy
import HandS.Text
import HandS.SortInts
import PySem.Challenge.RW_onceknots_k19_whole_runs_in_any_order
set_option Elab.async false
set_option maxRecDepth 100000
section
set_option Elab.async false
set_option linter.all false
set_option maxRecDepth 100000
set_option maxHeartbeats 4000000
/-! A layer of values over HandS: data as trees, slots that share or own, readings over environments of values. -/
namespace VL
open PySem PySem.Spec PyProof.Rows L2
variable {K : PySem.W.Frag}

/-! ### data -/
/-- a text that is one: its signs, its length -/
def SOk (x : Str) : Prop := (x.cps.all (· < 0x110000)) = true ∧ x.length ≤ sizeLine
instance (x : Str) : Decidable (SOk x) := by unfold SOk; infer_instance
inductive D where
  | non | bl (b : Bool) | int (i : Int) | str (x : Str) | ref (a : Addr) | ty (n : String)
  | scr (ns : List Int) | tup (xs : List D) | lst (xs : List D) | dic (kvs : List (Key × D)) | ins (C : Addr) (fs : List (Str × D))

def KOk : Key → Prop
  | .inl _ => True
  | .inr x => SOk x
mutual
/-- v stands for the datum d, all of it in the heap S -/
inductive Rep (K : PySem.W.Frag) (S : Hp) : D → V → Prop
  | non : Rep K S .non .non
  | bl (b : Bool) : Rep K S (.bl b) (.bl b)
  | int (i : Int) : Rep K S (.int i) (.int i)
  | str (x : Str) (h : SOk x) : Rep K S (.str x) (.str x)
  | ref (a : Addr) : Rep K S (.ref a) (.ref a)
  | ty (n : String) : Rep K S (.ty n) (.ty n)
  | scr {p : Addr} {ns : List Int} (h : SqL K S p (ns.map V.int)) : Rep K S (.scr ns) (.ref p)
  | tup {p : Addr} {vs : List V} {xs : List D} (h : SqT K S p vs) (r : Reps K S xs vs) : Rep K S (.tup xs) (.ref p)
  | lst {p : Addr} {vs : List V} {xs : List D} (h : S p = some (.lst vs)) (r : Reps K S xs vs) : Rep K S (.lst xs) (.ref p)
  | dic {p : Addr} {o : Obj} {ws : List (Key × V)} {kvs : List (Key × D)} (h : S p = some (.frz o (.dK ws))) (r : Repk K S kvs ws) : Rep K S (.dic kvs) (.ref p)
  | ins {p dx C : Addr} {gs : List (Str × V)} {fs : List (Str × D)} (h : S p = some (.ins C dx gs)) (o : S dx = some (.own p)) (r : Repf K S fs gs) : Rep K S (.ins C fs) (.ref p)
inductive Reps (K : PySem.W.Frag) (S : Hp) : List D → List V → Prop
  | nil : Reps K S [] []
  | cons {d : D} {v : V} {ds : List D} {vs : List V} (h : Rep K S d v) (t : Reps K S ds vs) : Reps K S (d :: ds) (v :: vs)
inductive Repk (K : PySem.W.Frag) (S : Hp) : List (Key × D) → List (Key × V) → Prop
  | nil : Repk K S [] []
  | cons {k : Key} {d : D} {v : V} {ds : List (Key × D)} {vs : List (Key × V)} (hk : KOk k) (h : Rep K S d v) (t : Repk K S ds vs) : Repk K S ((k, d) :: ds) ((k, v) :: vs)
inductive Repf (K : PySem.W.Frag) (S : Hp) : List (Str × D) → List (Str × V) → Prop
  | nil : Repf K S [] []
  | cons {k : Str} {d : D} {v : V} {ds : List (Str × D)} {vs : List (Str × V)} (h : Rep K S d v) (t : Repf K S ds vs) : Repf K S ((k, d) :: ds) ((k, v) :: vs)
end

theorem rd_mono {S S' : Hp} (e : Same S S') {p : Addr} {u : HO} (h : Rd S p u) : Rd S' p u := by
  rcases h with h | ⟨o, h⟩
  · exact .inl (e _ _ h)
  · exact .inr ⟨o, e _ _ h⟩
theorem sqT_mono {S S' : Hp} (e : Same S S') {p : Addr} {vs : List V} (h : SqT K S p vs) : SqT K S' p vs := by
  rcases h with h | h
  · exact .inl (rd_mono e h)
  · exact .inr h
mutual
theorem Rep.mono {S S' : Hp} (e : Same S S') : ∀ {d : D} {v : V}, Rep K S d v → Rep K S' d v
  | _, _, .non => .non
  | _, _, .bl b => .bl b
  | _, _, .int i => .int i
  | _, _, .str x h => .str x h
  | _, _, .ref a => .ref a
  | _, _, .ty n => .ty n
  | _, _, .scr h => .scr (e.seq h)
  | _, _, .tup h r => .tup (sqT_mono e h) (Reps.mono e r)
  | _, _, .lst h r => .lst (e _ _ h) (Reps.mono e r)
  | _, _, .dic h r => .dic (e _ _ h) (Repk.mono e r)
  | _, _, .ins h o r => .ins (e _ _ h) (e _ _ o) (Repf.mono e r)
theorem Reps.mono {S S' : Hp} (e : Same S S') : ∀ {ds : List D} {vs : List V}, Reps K S ds vs → Reps K S' ds vs
  | _, _, .nil => .nil
  | _, _, .cons h t => .cons (Rep.mono e h) (Reps.mono e t)
theorem Repk.mono {S S' : Hp} (e : Same S S') : ∀ {ds : List (Key × D)} {vs : List (Key × V)}, Repk K S ds vs → Repk K S' ds vs
  | _, _, .nil => .nil
  | _, _, .cons hk h t => .cons hk (Rep.mono e h) (Repk.mono e t)
theorem Repf.mono {S S' : Hp} (e : Same S S') : ∀ {ds : List (Str × D)} {vs : List (Str × V)}, Repf K S ds vs → Repf K S' ds vs
  | _, _, .nil => .nil
  | _, _, .cons h t => .cons (Rep.mono e h) (Repf.mono e t)
end

theorem Reps.length {S : Hp} : ∀ {ds : List D} {vs : List V}, Reps K S ds vs → ds.length = vs.length
  | _, _, .nil => rfl
  | _, _, .cons _ t => by rw [List.length_cons, List.length_cons, Reps.length t]
theorem Reps.append {S : Hp} : ∀ {ds es : List D} {vs us : List V}, Reps K S ds vs → Reps K S es us → Reps K S (ds ++ es) (vs ++ us)
  | _, _, _, _, .nil, s => s
  | _, _, _, _, .cons h t, s => .cons h (Reps.append t s)
theorem Reps.get {S : Hp} : ∀ {ds : List D} {vs : List V} {i : Nat} {d : D}, Reps K S ds vs → ds[i]? = some d → ∃ v, vs[i]? = some v ∧ Rep K S d v
  | _, _, _, _, .nil, e => by simp at e
  | _, _, 0, _, .cons h _, e => by
    have e' := Option.some.inj e
    subst e'
    exact ⟨_, rfl, h⟩
  | _, _, i + 1, d, .cons _ t, e => by
    obtain ⟨v, h1, h2⟩ := Reps.get (i := i) (d := d) t (by simpa using e)
    exact ⟨v, by simpa using h1, h2⟩
theorem Reps.getV {S : Hp} : ∀ {ds : List D} {vs : List V} {i : Nat} {v : V}, Reps K S ds vs → vs[i]? = some v → ∃ d, ds[i]? = some d ∧ Rep K S d v
  | _, _, _, _, .nil, e => by simp at e
  | _, _, 0, _, .cons h _, e => by
    have e' := Option.some.inj e
    subst e'
    exact ⟨_, rfl, h⟩
  | _, _, i + 1, d, .cons _ t, e => by
    obtain ⟨v, h1, h2⟩ := Reps.getV (i := i) (v := d) t (by simpa using e)
    exact ⟨v, by simpa using h1, h2⟩
theorem Reps.set {S : Hp} {d : D} {v : V} (h : Rep K S d v) : ∀ {ds : List D} {vs : List V} (i : Nat), Reps K S ds vs → Reps K S (ds.set i d) (vs.set i v)
  | _, _, _, .nil => .nil
  | _, _, 0, .cons _ t => .cons h t
  | _, _, i + 1, .cons q t => .cons q (Reps.set h i t)
theorem Reps.take {S : Hp} : ∀ {ds : List D} {vs : List V} (n : Nat), Reps K S ds vs → Reps K S (ds.take n) (vs.take n)
  | _, _, 0, _ => .nil
  | _, _, _ + 1, .nil => .nil
  | _, _, n + 1, .cons h t => .cons h (Reps.take n t)
theorem Reps.drop {S : Hp} : ∀ {ds : List D} {vs : List V} (n : Nat), Reps K S ds vs → Reps K S (ds.drop n) (vs.drop n)
  | _, _, 0, h => h
  | _, _, _ + 1, .nil => .nil
  | _, _, n + 1, .cons _ t => Reps.drop n t
theorem Reps.dropLast {S : Hp} : ∀ {ds : List D} {vs : List V}, Reps K S ds vs → Reps K S ds.dropLast vs.dropLast
  | _, _, .nil => .nil
  | _, _, .cons _ .nil => .nil
  | _, _, .cons h (.cons h2 t) => .cons h (Reps.dropLast (.cons h2 t))
theorem Reps.reverse {S : Hp} : ∀ {ds : List D} {vs : List V}, Reps K S ds vs → Reps K S ds.reverse vs.reverse
  | _, _, .nil => .nil
  | _, _, .cons h t => by
    rw [List.reverse_cons, List.reverse_cons]
    exact Reps.append (Reps.reverse t) (.cons h .nil)
theorem Reps.flat {S : Hp} {ds : List D} {vs : List V} (h : Reps K S ds vs) : ∀ n : Nat, Reps K S (List.replicate n ds).flatten (List.replicate n vs).flatten
  | 0 => .nil
  | n + 1 => by
    rw [List.replicate_succ, List.replicate_succ, List.flatten_cons, List.flatten_cons]
    exact Reps.append h (Reps.flat h n)
theorem Repk.length {S : Hp} : ∀ {ds : List (Key × D)} {vs : List (Key × V)}, Repk K S ds vs → ds.length = vs.length
  | _, _, .nil => rfl
  | _, _, .cons _ _ t => by rw [List.length_cons, List.length_cons, Repk.length t]
/-- look-up, store in a dict of data -/
def dget (kvs : List (Key × D)) (k : Key) : Option D := (kvs.find? fun p => decide (p.1 = k)).map (·.2)
def dput (kvs : List (Key × D)) (k : Key) (d : D) : List (Key × D) :=
  if (kvs.any fun kv => decide (kv.1 = k)) = true then kvs.map (fun kv => if kv.1 = k then (kv.1, d) else kv) else kvs ++ [(k, d)]
theorem Repk.any {S : Hp} {k : Key} : ∀ {ds : List (Key × D)} {vs : List (Key × V)}, Repk K S ds vs → (ds.any fun kv => decide (kv.1 = k)) = (vs.any fun kv => decide (kv.1 = k))
  | _, _, .nil => rfl
  | _, _, .cons _ _ t => by rw [List.any_cons, List.any_cons, Repk.any t]
theorem Repk.map {S : Hp} {k : Key} {d : D} {v : V} (h : Rep K S d v) : ∀ {ds : List (Key × D)} {vs : List (Key × V)}, Repk K S ds vs → Repk K S (ds.map fun kv => if kv.1 = k then (kv.1, d) else kv) (vs.map fun kv => if kv.1 = k then (kv.1, v) else kv)
  | _, _, .nil => .nil
  | _, _, .cons (k := j) hk q t => by
    rw [List.map_cons, List.map_cons]
    by_cases e : j = k
    · rw [if_pos e, if_pos e]
      exact .cons hk h (Repk.map h t)
    · rw [if_neg e, if_neg e]
      exact .cons hk q (Repk.map h t)
theorem Repk.append {S : Hp} : ∀ {ds es : List (Key × D)} {vs us : List (Key × V)}, Repk K S ds vs → Repk K S es us → Repk K S (ds ++ es) (vs ++ us)
  | _, _, _, _, .nil, s => s
  | _, _, _, _, .cons hk h t, s => .cons hk h (Repk.append t s)
theorem Repk.put {S : Hp} {k : Key} {d : D} {v : V} {ds : List (Key × D)} {vs : List (Key × V)} (r : Repk K S ds vs) (hk : KOk k) (h : Rep K S d v) : Repk K S (dput ds k d) (putK vs k v) := by
  unfold dput putK
  rw [r.any (k := k)]
  by_cases c : (vs.any fun kv => decide (kv.1 = k)) = true
  · rw [if_pos c, if_pos c]
    exact r.map h
  · rw [if_neg c, if_neg c]
    exact r.append (.cons hk h .nil)
theorem Repk.look {S : Hp} {k : Key} : ∀ {ds : List (Key × D)} {vs : List (Key × V)}, Repk K S ds vs → (dget ds k = none ∧ valV vs k = none) ∨ ∃ d v, dget ds k = some d ∧ valV vs k = some v ∧ Rep K S d v
  | _, _, .nil => .inl ⟨rfl, rfl⟩
  | _, _, .cons (k := j) (d := d) (v := v) _ q t => by
    by_cases e : j = k
    · refine .inr ⟨d, v, ?_, valV_pos e, q⟩
      simp [dget, List.find?_cons, e]
    · rcases Repk.look (k := k) t with ⟨h1, h2⟩ | ⟨d, v, h1, h2, h3⟩
      · refine .inl ⟨?_, by rw [valV_neg (by exact e)]; exact h2⟩
        simpa [dget, List.find?_cons, e] using h1
      · refine .inr ⟨d, v, ?_, by rw [valV_neg (by exact e)]; exact h2, h3⟩
        simpa [dget, List.find?_cons, e] using h1
theorem Repk.get {S : Hp} : ∀ {ds : List (Key × D)} {vs : List (Key × V)} {i : Nat} {k : Key} {v : V}, Repk K S ds vs → vs[i]? = some (k, v) → ∃ d, ds[i]? = some (k, d) ∧ KOk k ∧ Rep K S d v
  | _, _, _, _, _, .nil, e => by simp at e
  | _, _, 0, _, _, .cons hk h _, e => by
    have e' := Option.some.inj e
    cases e'
    exact ⟨_, rfl, hk, h⟩
  | _, _, i + 1, k, v, .cons _ _ t, e => by
    obtain ⟨d, h1, h2, h3⟩ := Repk.get (i := i) (k := k) (v := v) t (by simpa using e)
    exact ⟨d, by simpa using h1, h2, h3⟩
/-- a key as a datum -/
def kD : Key → D
  | .inl i => .int i
  | .inr x => .str x
theorem rep_kD {S : Hp} {k : Key} (h : KOk k) : Rep K S (kD k) (kV k) := by
  cases k with
  | inl i => exact .int i
  | inr x => exact .str x h
theorem length_dput (kvs : List (Key × D)) (k : Key) (d : D) : (dput kvs k d).length ≤ kvs.length + 1 := by
  unfold dput
  split
  · rw [List.length_map]; exact Nat.le_succ _
  · rw [List.length_append]; exact Nat.le_refl _
/-- fields -/
theorem Repf.look {S : Hp} {f : Str} : ∀ {ds : List (Str × D)} {vs : List (Str × V)}, Repf K S ds vs → (ds.lookup f = none ∧ vs.lookup f = none) ∨ ∃ d v, ds.lookup f = some d ∧ vs.lookup f = some v ∧ Rep K S d v
  | _, _, .nil => .inl ⟨rfl, rfl⟩
  | _, _, .cons (k := j) (d := d) (v := v) q t => by
    cases e : (f == j) with
    | true => exact .inr ⟨d, v, by rw [List.lookup_cons, e], by rw [List.lookup_cons, e], q⟩
    | false =>
      rcases Repf.look (f := f) t with ⟨h1, h2⟩ | ⟨d, v, h1, h2, h3⟩
      · exact .inl ⟨by rw [List.lookup_cons, e]; exact h1, by rw [List.lookup_cons, e]; exact h2⟩
      · exact .inr ⟨d, v, by rw [List.lookup_cons, e]; exact h1, by rw [List.lookup_cons, e]; exact h2, h3⟩
def fput (f : Str) (d : D) : List (Str × D) → List (Str × D)
  | [] => [(f, d)]
  | (g, e) :: r => if g = f then (g, d) :: r else (g, e) :: fput f d r
theorem Repf.put {S : Hp} {f : Str} {d : D} {v : V} (h : Rep K S d v) : ∀ {ds : List (Str × D)} {vs : List (Str × V)}, Repf K S ds vs → Repf K S (fput f d ds) (putF f v vs)
  | _, _, .nil => .cons h .nil
  | _, _, .cons (k := j) q t => by
    unfold fput putF
    by_cases e : j = f
    · rw [if_pos e, if_pos e]
      exact .cons h t
    · rw [if_neg e, if_neg e]
      exact .cons q (Repf.put h t)
theorem Repf.length {S : Hp} : ∀ {ds : List (Str × D)} {vs : List (Str × V)}, Repf K S ds vs → ds.length = vs.length
  | _, _, .nil => rfl
  | _, _, .cons _ t => by rw [List.length_cons, List.length_cons, Repf.length t]

/-! ### owned objects, slots -/
/-- a field of an object of one's own: a datum; a list, a dict of its own, where it lies -/
inductive Fd where
  | d (x : D) | l (q : Addr) (xs : List D) | kd (q : Addr) (kvs : List (Key × D))
inductive O where
  | obj (C : Addr) (fs : List (Str × Fd)) | lst (xs : List D) | dic (kvs : List (Key × D)) | ins (C : Addr) (fs : List (Str × D)) | pot (t : Nat) | fdic (o : Obj) (ws : List (Key × V)) (kvs : List (Key × D))
def O.toD : O → Option D
  | .lst xs => some (.lst xs)
  | .dic _ => none
  | .ins C fs => some (.ins C fs)
  | .pot _ => none
  | .fdic _ _ _ => none
  | .obj _ _ => none
/-- what one sees -/
def O.see : O → Option D
  | .lst xs => some (.lst xs)
  | .dic kvs => some (.dic kvs)
  | .ins C fs => some (.ins C fs)
  | .pot _ => none
  | .fdic _ _ kvs => some (.dic kvs)
  | .obj _ _ => none
inductive OwnF (K : PySem.W.Frag) (S H : Hp) : List (Str × Fd) → List (Str × V) → List Addr → Prop
  | nil : OwnF K S H [] [] []
  | d {n : Str} {x : D} {v : V} {fs : List (Str × Fd)} {gs : List (Str × V)} {qs : List Addr} (h : Rep K S x v) (t : OwnF K S H fs gs qs) : OwnF K S H ((n, .d x) :: fs) ((n, v) :: gs) qs
  | l {n : Str} {q : Addr} {xs : List D} {vs : List V} {fs : List (Str × Fd)} {gs : List (Str × V)} {qs : List Addr} (h : H q = some (.lst vs)) (r : Reps K S xs vs) (t : OwnF K S H fs gs qs) : OwnF K S H ((n, .l q xs) :: fs) ((n, .ref q) :: gs) (q :: qs)
  | kd {n : Str} {q : Addr} {kvs : List (Key × D)} {ws : List (Key × V)} {fs : List (Str × Fd)} {gs : List (Str × V)} {qs : List Addr} (h : H q = some (.dK ws)) (r : Repk K S kvs ws) (t : OwnF K S H fs gs qs) : OwnF K S H ((n, .kd q kvs) :: fs) ((n, .ref q) :: gs) (q :: qs)
theorem OwnF.keep {S S' H H' : Hp} (e : Same S S') : ∀ {fs : List (Str × Fd)} {gs : List (Str × V)} {qs : List Addr}, OwnF K S H fs gs qs → (∀ a ∈ qs, H' a = H a) → OwnF K S' H' fs gs qs
  | _, _, _, .nil, _ => .nil
  | _, _, _, .d h t, c => .d (h.mono e) (OwnF.keep e t c)
  | _, _, _, .l h r t, c => .l ((c _ (by simp)).trans h) (r.mono e) (OwnF.keep e t fun a ha => c a (List.mem_cons_of_mem _ ha))
  | _, _, _, .kd h r t, c => .kd ((c _ (by simp)).trans h) (r.mono e) (OwnF.keep e t fun a ha => c a (List.mem_cons_of_mem _ ha))
theorem OwnF.there {S H : Hp} : ∀ {fs : List (Str × Fd)} {gs : List (Str × V)} {qs : List Addr}, OwnF K S H fs gs qs → ∀ a ∈ qs, H a ≠ none
  | _, _, _, .nil, a, h => by cases h
  | _, _, _, .d h t, a, ha => OwnF.there t a ha
  | _, _, _, .l h r t, a, ha => by
    rcases List.mem_cons.mp ha with rfl | ha
    · rw [h]; simp
    · exact OwnF.there t a ha
  | _, _, _, .kd h r t, a, ha => by
    rcases List.mem_cons.mp ha with rfl | ha
    · rw [h]; simp
    · exact OwnF.there t a ha
/-- the pot of a law: great numbers, small ones, the turn (at most t), the sum -/
structure PotAt (H : Hp) (t : Nat) (p g s : Addr) : Prop where
  ne : p ≠ g ∧ p ≠ s ∧ g ≠ s
  at_ : ∃ (gs ss : List Int) (turn sum : Int), H p = some (.lst [.ref g, .ref s, .int turn, .int sum]) ∧ H g = some (.lst (gs.map V.int)) ∧ H s = some (.lst (ss.map V.int)) ∧
    (∀ x ∈ gs, 0 ≤ x) ∧ (∀ x ∈ ss, 0 ≤ x ∧ x < 1000000007) ∧ ss ≠ [] ∧ ss.length ≤ 64 ∧ 0 ≤ turn ∧ turn ≤ t ∧ 0 ≤ sum ∧ sum < 999983
inductive OwnAt (K : PySem.W.Frag) (S H : Hp) : O → Addr → List Addr → Prop
  | lst {p : Addr} {vs : List V} {xs : List D} (h : H p = some (.lst vs)) (r : Reps K S xs vs) : OwnAt K S H (.lst xs) p [p]
  | dic {p : Addr} {ws : List (Key × V)} {kvs : List (Key × D)} (h : H p = some (.dK ws)) (r : Repk K S kvs ws) : OwnAt K S H (.dic kvs) p [p]
  | ins {p dx C : Addr} {gs : List (Str × V)} {fs : List (Str × D)} (h : H p = some (.ins C dx gs)) (o : H dx = some (.own p)) (r : Repf K S fs gs) : OwnAt K S H (.ins C fs) p [p, dx]
  | pot {p g s : Addr} {t : Nat} (h : PotAt H t p g s) : OwnAt K S H (.pot t) p [p, g, s]
  | fdic {p : Addr} {o : Obj} {ws : List (Key × V)} {kvs : List (Key × D)} (h : H p = some (.frz o (.dK ws))) (r : Repk K S kvs ws) : OwnAt K S H (.fdic o ws kvs) p [p]
  | obj {p dx C : Addr} {gs : List (Str × V)} {fs : List (Str × Fd)} {qs : List Addr} (h : H p = some (.ins C dx gs)) (o : H dx = some (.own p)) (r : OwnF K S H fs gs qs) (nd : (p :: dx :: qs).Nodup) : OwnAt K S H (.obj C fs) p (p :: dx :: qs)
theorem PotAt.keep {H H' : Hp} {t : Nat} {p g s : Addr} (h : PotAt H t p g s) (k : ∀ a ∈ [p, g, s], H' a = H a) : PotAt H' t p g s := by
  obtain ⟨ne, gs, ss, turn, sum, h1, h2, h3, r⟩ := h
  exact ⟨ne, gs, ss, turn, sum, (k p (by simp)).trans h1, (k g (by simp)).trans h2, (k s (by simp)).trans h3, r⟩
theorem OwnAt.keep {S S' H H' : Hp} {o : O} {p : Addr} {f : List Addr} (e : Same S S') (h : OwnAt K S H o p f) (k : ∀ a ∈ f, H' a = H a) : OwnAt K S' H' o p f := by
  cases h with
  | lst h r => exact .lst ((k p (by simp)).trans h) (r.mono e)
  | dic h r => exact .dic ((k p (by simp)).trans h) (r.mono e)
  | ins h o r => exact .ins ((k p (by simp)).trans h) ((k _ (by simp)).trans o) (r.mono e)
  | pot h => exact .pot (h.keep k)
  | fdic h r => exact .fdic ((k p (by simp)).trans h) (r.mono e)
  | obj h o r nd => exact .obj ((k p (by simp)).trans h) ((k _ (by simp)).trans o) (r.keep e fun a ha => k a (by simp [ha])) nd
theorem OwnAt.there {S H : Hp} {o : O} {p : Addr} {f : List Addr} (h : OwnAt K S H o p f) : ∀ a ∈ f, H a ≠ none := by
  intro a ha
  cases h with
  | lst h r => simp at ha; subst ha; rw [h]; simp
  | dic h r => simp at ha; subst ha; rw [h]; simp
  | ins h o r =>
    simp at ha
    rcases ha with rfl | rfl
    · rw [h]; simp
    · rw [o]; simp
  | pot h =>
    obtain ⟨ne, gs, ss, turn, sum, h1, h2, h3, r⟩ := h
    simp at ha
    rcases ha with rfl | rfl | rfl
    · rw [h1]; simp
    · rw [h2]; simp
    · rw [h3]; simp
  | fdic h r => simp at ha; subst ha; rw [h]; simp
  | obj h o r nd =>
    rcases List.mem_cons.mp ha with rfl | ha
    · rw [h]; simp
    · rcases List.mem_cons.mp ha with rfl | ha
      · rw [o]; simp
      · exact r.there a ha
theorem OwnAt.objInv {S H : Hp} {C : Addr} {fs : List (Str × Fd)} {p : Addr} {f : List Addr} (h : OwnAt K S H (.obj C fs) p f) : ∃ dx gs qs, f = p :: dx :: qs ∧ H p = some (.ins C dx gs) ∧ H dx = some (.own p) ∧ OwnF K S H fs gs qs ∧ (p :: dx :: qs).Nodup := by
  cases h with
  | obj h o r nd => exact ⟨_, _, _, rfl, h, o, r, nd⟩
theorem OwnAt.self {S H : Hp} {o : O} {p : Addr} {f : List Addr} (h : OwnAt K S H o p f) : p ∈ f := by
  cases h <;> simp

/-- a slot: nothing known, a shared datum, an object of one's own (a local's; a parameter's, handed in by the caller) -/
inductive Sl where
  | un | sh (d : D) | own (o : O) | par (o : O)
abbrev En := List Sl
def SlAt (K : PySem.W.Frag) (S H : Hp) (ov : Option (Option V)) : Sl → List Addr → Prop
  | .un, f => f = []
  | .sh d, f => f = [] ∧ ∃ v, ov = some (some v) ∧ Rep K S d v
  | .own o, f => ∃ p, ov = some (some (.ref p)) ∧ OwnAt K S H o p f
  | .par o, f => ∃ p, ov = some (some (.ref p)) ∧ OwnAt K S H o p f
/-- the ground of a def's run: what must stay, what is stable ahead, the slots at the entry -/
structure Gd where
  B : Hp
  S0 : Hp
  z : Nat → Option (Option V)
structure At (K : PySem.W.Frag) (G : Gd) (S : Hp) (σ : L2.St) (H : Hp) (e : En) (F : Nat → List Addr) : Prop where
  sh : Same S H
  bh : Same G.B H
  s0 : Same G.S0 S
  nw : ∀ a, S a ≠ none → G.S0 a = none → G.B a = none
  len : e.length = σ.length
  sl : ∀ (i : Nat) (s : Sl), e[i]? = some s → SlAt K S H σ[i]? s (F i)
  fr : ∀ i : Nat, e.length ≤ i → F i = []
  fS : ∀ (i : Nat) a, a ∈ F i → S a = none ∧ G.B a = none
  dj : ∀ (i j : Nat) a, a ∈ F i → a ∈ F j → i = j
  pr : ∀ (i : Nat) (o : O), e[i]? = some (Sl.par o) → σ[i]? = G.z i
inductive Re where
  | sh (d : D) | own (o : O) | bor (i : Nat) | fld (q : Addr) (i : Nat) (f : Str)
inductive ReAt (K : PySem.W.Frag) (G : Gd) (S H : Hp) (σ : L2.St) (F : Nat → List Addr) : Re → V → Prop
  | sh {d : D} {v : V} (h : Rep K S d v) : ReAt K G S H σ F (.sh d) v
  | own {o : O} {p : Addr} {f : List Addr} (h : OwnAt K S H o p f) (hf : ∀ a ∈ f, S a = none ∧ G.B a = none ∧ ∀ i, a ∉ F i) : ReAt K G S H σ F (.own o) (.ref p)
  | bor {i : Nat} {v : V} (h : σ[i]? = some (some v)) : ReAt K G S H σ F (.bor i) v
  | fld {q : Addr} {i : Nat} {f : Str} : ReAt K G S H σ F (.fld q i f) (.ref q)

section
variable {G : Gd} {S S' : Hp} {σ : L2.St} {H H' : Hp} {e : En} {F : Nat → List Addr}
theorem At.free (A : At K G S σ H e F) {p : Addr} (hp : H p = none) : S p = none ∧ G.B p = none ∧ ∀ i, p ∉ F i := by
  refine ⟨A.sh.free hp, A.bh.free hp, fun i hi => ?_⟩
  by_cases hl : e.length ≤ i
  · rw [A.fr i hl] at hi; simp at hi
  · obtain ⟨s, hs⟩ : ∃ s, e[i]? = some s := ⟨e[i]'(by omega), by simp⟩
    have h := A.sl i s hs
    cases s with
    | un => rw [show F i = [] from h] at hi; simp at hi
    | sh d => rw [h.1] at hi; simp at hi
    | own o => obtain ⟨q, _, ow⟩ := h; exact ow.there p hi hp
    | par o => obtain ⟨q, _, ow⟩ := h; exact ow.there p hi hp
/-- the heap may change where nothing of the state stands -/
theorem At.heap (A : At K G S σ H e F) (k1 : ∀ a, S a ≠ none → H' a = H a) (k2 : ∀ a, G.B a ≠ none → H' a = H a) (k3 : ∀ i a, a ∈ F i → H' a = H a) : At K G S σ H' e F where
  sh := fun a o h => by rw [k1 a (by rw [h]; simp)]; exact A.sh a o h
  bh := fun a o h => by rw [k2 a (by rw [h]; simp)]; exact A.bh a o h
  s0 := A.s0
  nw := A.nw
  len := A.len
  sl := fun i s hs => by
    have h := A.sl i s hs
    cases s with
    | un => exact h
    | sh d => exact h
    | own o => obtain ⟨q, hq, ow⟩ := h; exact ⟨q, hq, ow.keep (Same.refl S) (k3 i)⟩
    | par o => obtain ⟨q, hq, ow⟩ := h; exact ⟨q, hq, ow.keep (Same.refl S) (k3 i)⟩
  fr := A.fr
  fS := A.fS
  dj := A.dj
  pr := A.pr
/-- the stable part grows by what stands in the heap -/
theorem At.grow (A : At K G S σ H e F) (hs : Same S S') (hh : Same S' H) (hn : ∀ a, S' a ≠ none → S a = none → G.B a = none ∧ ∀ i, a ∉ F i) : At K G S' σ H e F where
  sh := hh
  bh := A.bh
  s0 := A.s0.trans hs
  nw := fun a h h0 => by
    cases q : S a with
    | none => exact (hn a h q).1
    | some o => exact A.nw a (by rw [q]; simp) h0
  len := A.len
  sl := fun i s h => by
    have h := A.sl i s h
    cases s with
    | un => exact h
    | sh d => obtain ⟨h1, v, hv, r⟩ := h; exact ⟨h1, v, hv, r.mono hs⟩
    | own o => obtain ⟨q, hq, ow⟩ := h; exact ⟨q, hq, ow.keep hs fun _ _ => rfl⟩
    | par o => obtain ⟨q, hq, ow⟩ := h; exact ⟨q, hq, ow.keep hs fun _ _ => rfl⟩
  fr := A.fr
  fS := fun i a ha => by
    refine ⟨?_, (A.fS i a ha).2⟩
    cases q : S' a with
    | none => rfl
    | some o => exact absurd ha ((hn a (by rw [q]; simp) (A.fS i a ha).1).2 i)
  dj := A.dj
  pr := A.pr
/-- a new object, owned by nobody yet -/
theorem At.laid (A : At K G S σ H e F) {p : Addr} {o : HO} (hp : H p = none) : At K G S σ (upd H p o) e F := by
  obtain ⟨h1, h2, h3⟩ := A.free hp
  refine A.heap (fun a ha => upd_ne fun z => ha (z ▸ h1)) (fun a ha => upd_ne fun z => ha (z ▸ h2)) fun i a ha => upd_ne fun z => h3 i (z ▸ ha)
theorem At.newS (A : At K G S σ H e F) {p : Addr} {o : HO} (hp : H p = none) : At K G (upd S p o) σ (upd H p o) e F ∧ Same S (upd S p o) := by
  obtain ⟨h1, h2, h3⟩ := A.free hp
  have hs : Same S (upd S p o) := fun a u ha => by rw [upd_ne (ne_of_none ha h1)]; exact ha
  refine ⟨(A.laid hp).grow hs (fun a u ha => ?_) fun a ha hz => ?_, hs⟩
  · by_cases c : a = p
    · subst c; rw [upd_same] at ha ⊢; exact ha
    · rw [upd_ne c] at ha ⊢; exact A.sh a u ha
  · by_cases c : a = p
    · subst c; exact ⟨h2, h3⟩
    · rw [upd_ne c] at ha; exact absurd hz ha
theorem At.newT (A : At K G S σ H e F) {p : Addr} {vs : List V} {xs : List D} (hp : H p = none) (r : Reps K S xs vs) : At K G (upd S p (.tup vs)) σ (upd H p (.tup vs)) e F ∧ Same S (upd S p (.tup vs)) ∧ Rep K (upd S p (.tup vs)) (.tup xs) (.ref p) := by
  obtain ⟨h1, h2⟩ := A.newS (o := .tup vs) hp
  exact ⟨h1, h2, .tup (.inl (.inl upd_same)) (r.mono h2)⟩
theorem At.newL (A : At K G S σ H e F) {p : Addr} {vs : List V} {xs : List D} (hp : H p = none) (r : Reps K S xs vs) : At K G S σ (upd H p (.lst vs)) e F ∧ ReAt K G S (upd H p (.lst vs)) σ F (.own (.lst xs)) (.ref p) := by
  obtain ⟨h1, h2, h3⟩ := A.free hp
  refine ⟨A.laid hp, .own (.lst upd_same r) fun a ha => ?_⟩
  simp at ha; subst ha
  exact ⟨h1, h2, h3⟩
theorem At.newK (A : At K G S σ H e F) {p : Addr} {ws : List (Key × V)} {kvs : List (Key × D)} (hp : H p = none) (r : Repk K S kvs ws) : At K G S σ (upd H p (.dK ws)) e F ∧ ReAt K G S (upd H p (.dK ws)) σ F (.own (.dic kvs)) (.ref p) := by
  obtain ⟨h1, h2, h3⟩ := A.free hp
  refine ⟨A.laid hp, .own (.dic upd_same r) fun a ha => ?_⟩
  simp at ha; subst ha
  exact ⟨h1, h2, h3⟩
/-- an owned object is shared from now on -/
theorem At.freeze (A : At K G S σ H e F) {o : O} {d : D} {p : Addr} {f : List Addr} (h : OwnAt K S H o p f) (hf : ∀ a ∈ f, S a = none ∧ G.B a = none ∧ ∀ i, a ∉ F i) (hd : o.toD = some d) :
    ∃ S', Same S S' ∧ At K G S' σ H e F ∧ Rep K S' d (.ref p) := by
  have hs : Same S (fun a => if a ∈ f then H a else S a) := fun a u ha => by
    show (if a ∈ f then H a else S a) = some u
    by_cases c : a ∈ f
    · rw [(hf a c).1] at ha; cases ha
    · rw [if_neg c]; exact ha
  refine ⟨fun a => if a ∈ f then H a else S a, hs, A.grow hs (fun a u ha => ?_) (fun a ha hz => ?_), ?_⟩
  · have ha : (if a ∈ f then H a else S a) = some u := ha
    by_cases c : a ∈ f
    · rw [if_pos c] at ha; exact ha
    · rw [if_neg c] at ha; exact A.sh a u ha
  · have ha : (if a ∈ f then H a else S a) ≠ none := ha
    by_cases c : a ∈ f
    · exact (hf a c).2
    · rw [if_neg c] at ha; exact absurd hz ha
  · cases h with
    | lst h r =>
      cases hd
      exact .lst (by show (if p ∈ [p] then H p else S p) = _; rw [if_pos (by simp)]; exact h) (r.mono hs)
    | dic h r => cases hd
    | @ins _ dx _ _ _ h o r =>
      cases hd
      refine .ins (by show (if p ∈ [p, dx] then H p else S p) = _; rw [if_pos (by simp)]; exact h) (by show (if dx ∈ [p, dx] then H dx else S dx) = _; rw [if_pos (by simp)]; exact o) (r.mono hs)
    | pot h => cases hd
    | fdic h r => cases hd
    | obj h o r nd => cases hd
end
end VL

end

section
set_option Elab.async false
set_option linter.all false
set_option maxRecDepth 100000
set_option maxHeartbeats 4000000
namespace VL
open PySem PySem.Spec PyProof.Rows L2
variable {K : PySem.W.Frag}

/-! ### readings over values -/
abbrev XC := Value × List (Str × D)
abbrev VX := XC → En → Prop
abbrev VTE := VX → En → (Re → En → Prop) → Prop
abbrev VTA := VX → En → (List Re → En → Prop) → Prop
abbrev VTT := VX → En → (Bool → En → Prop) → Prop
structure VE where
  nx : En → Prop
  rt : Re → En → Prop
  bk : En → Prop
  ct : En → Prop
  ex : VX
abbrev VTS := VE → En → Prop
def PayAt (K : PySem.W.Frag) (S H : Hp) (pay : List (Str × D)) (d : Option Addr) : Prop := (pay = [] ∧ d = none) ∨ ∃ dd gs, d = some dd ∧ H dd = some (.xd gs) ∧ Repf K S pay gs
def XOk (K : PySem.W.Frag) (G : Gd) (W : WX) (x : VX) : Prop := ∀ cls pay d S σ H e F, At K G S σ H e F → PayAt K S H pay d → x (cls, pay) e → W cls d σ H

/-- the heap's reading te is met by the reading t over values -/
def OkE (K : PySem.W.Frag) (W : WX) (te : TE) (t : VTE) : Prop := ∀ G S σ H e F (x : VX) (Q : Re → En → Prop) (R : VK), XOk K G W x → At K G S σ H e F → t x e Q →
  (∀ r v S' H' e' F', Same S S' → At K G S' σ H' e' F' → ReAt K G S' H' σ F' r v → Q r e' → R v H') → te σ H R
def OkT (K : PySem.W.Frag) (W : WX) (tt : TT) (t : VTT) : Prop := ∀ G S σ H e F (x : VX) (Q : Bool → En → Prop) (R : Bool → Hp → Prop), XOk K G W x → At K G S σ H e F → t x e Q →
  (∀ b S' H' e' F', Same S S' → At K G S' σ H' e' F' → Q b e' → R b H') → tt σ H R
/-- results of a list: shared, or borrowed -/
inductive ReAts (K : PySem.W.Frag) (G : Gd) (S H : Hp) (σ : L2.St) (F : Nat → List Addr) : List Re → List V → Prop
  | nil : ReAts K G S H σ F [] []
  | sh {d : D} {v : V} {rs : List Re} {vs : List V} (h : Rep K S d v) (t : ReAts K G S H σ F rs vs) : ReAts K G S H σ F (.sh d :: rs) (v :: vs)
  | bor {i : Nat} {v : V} {rs : List Re} {vs : List V} (h : σ[i]? = some (some v)) (t : ReAts K G S H σ F rs vs) : ReAts K G S H σ F (.bor i :: rs) (v :: vs)
  | fld {q : Addr} {i : Nat} {f : Str} {rs : List Re} {vs : List V} (t : ReAts K G S H σ F rs vs) : ReAts K G S H σ F (.fld q i f :: rs) (.ref q :: vs)
theorem ReAts.mono {G : Gd} {S S' H H' : Hp} {σ : L2.St} {F F' : Nat → List Addr} (e : Same S S') : ∀ {rs : List Re} {vs : List V}, ReAts K G S H σ F rs vs → ReAts K G S' H' σ F' rs vs
  | _, _, .nil => .nil
  | _, _, .sh h t => .sh (h.mono e) (ReAts.mono e t)
  | _, _, .bor h t => .bor h (ReAts.mono e t)
  | _, _, .fld t => .fld (ReAts.mono e t)
def OkA (K : PySem.W.Frag) (W : WX) (ta : TA) (t : VTA) : Prop := ∀ G S σ H e F (x : VX) (Q : List Re → En → Prop) (R : List V → Hp → Prop), XOk K G W x → At K G S σ H e F → t x e Q →
  (∀ rs vs S' H' e' F', Same S S' → At K G S' σ H' e' F' → ReAts K G S' H' σ F' rs vs → Q rs e' → R vs H') → ta σ H R
def EndsOk (K : PySem.W.Frag) (G : Gd) (W : WX) (E : VE) (D : Ends) : Prop :=
  (∀ S σ H e F, At K G S σ H e F → E.nx e → D.nx σ H) ∧ (∀ r v S σ H e F, At K G S σ H e F → ReAt K G S H σ F r v → E.rt r e → D.rt v H) ∧
  (∀ S σ H e F, At K G S σ H e F → E.bk e → D.bk σ H) ∧ (∀ S σ H e F, At K G S σ H e F → E.ct e → D.ct σ H) ∧ XOk K G W E.ex
def OkS (K : PySem.W.Frag) (W : WX) (ts : TS) (t : VTS) : Prop := ∀ G S σ H e F (E : VE) (D : Ends), At K G S σ H e F → t E e → EndsOk K G W E D → ts D σ H

structure VEx (X : Cx) (W : WX) (e : Expr) (u : TE) (t : VTE) : Prop where
  p : PE X e u
  o : OkE X.K W u t
structure VTx (X : Cx) (W : WX) (e : Expr) (u : TT) (t : VTT) : Prop where
  p : PT X e u
  o : OkT X.K W u t
structure VWx (X : Cx) (W : WX) (e : Expr) (u : TT) (t : VTT) : Prop where
  p : PW X e u
  o : OkT X.K W u t
structure VAx (X : Cx) (W : WX) (es : List Expr) (u : TA) (t : VTA) : Prop where
  p : PA X es u
  o : OkA X.K W u t
structure VSx (X : Cx) (W : WX) (st : Stmt) (u : TS) (t : VTS) : Prop where
  p : PS X st u
  o : OkS X.K W u t
structure VSs (X : Cx) (W : WX) (st : List Stmt) (u : TS) (t : VTS) : Prop where
  p : PSs X st u
  o : OkS X.K W u t

/-! ### operands -/
def fz : Re → Re
  | .own o => match o.toD with
    | some d => .sh d
    | none => .own o
  | r => r
/-- an object's field -/
def fldS (s : Option Sl) (f : Str) : Option Fd := match s with
  | some (.own (.obj _ fs)) => fs.lookup f
  | some (.par (.obj _ fs)) => fs.lookup f
  | _ => none
def seeF (q : Addr) : Option Fd → Option D
  | some (.l p xs) => if p = q then some (.lst xs) else none
  | some (.kd p kvs) => if p = q then some (.dic kvs) else none
  | _ => none
def cont (e : En) : Re → Option D
  | .fld q i f => seeF q (fldS e[i]? f)
  | .sh d => some d
  | .bor i => match e[i]? with
    | some (.own o) => o.see
    | some (.par o) => o.see
    | some (.sh d) => some d
    | _ => none
  | .own _ => none
/-- a datum as one sees it: what is within is stable -/
inductive RepT (K : PySem.W.Frag) (S H : Hp) : D → V → Prop
  | of {d : D} {v : V} (h : Rep K S d v) : RepT K S H d v
  | lst {p : Addr} {vs : List V} {xs : List D} (h : H p = some (.lst vs)) (r : Reps K S xs vs) : RepT K S H (.lst xs) (.ref p)
  | dic {p : Addr} {ws : List (Key × V)} {kvs : List (Key × D)} (h : H p = some (.dK ws)) (r : Repk K S kvs ws) : RepT K S H (.dic kvs) (.ref p)
  | ins {p dx C : Addr} {gs : List (Str × V)} {fs : List (Str × D)} (h : H p = some (.ins C dx gs)) (o : H dx = some (.own p)) (r : Repf K S fs gs) : RepT K S H (.ins C fs) (.ref p)
  | fdic {p : Addr} {o : Obj} {ws : List (Key × V)} {kvs : List (Key × D)} (h : H p = some (.frz o (.dK ws))) (r : Repk K S kvs ws) : RepT K S H (.dic kvs) (.ref p)
theorem RepT.mono {S S' H : Hp} {d : D} {v : V} (e : Same S S') (h : RepT K S H d v) : RepT K S' H d v := by
  cases h with
  | of h => exact .of (h.mono e)
  | lst h r => exact .lst h (r.mono e)
  | dic h r => exact .dic h (r.mono e)
  | ins h o r => exact .ins h o (r.mono e)
  | fdic h r => exact .fdic h (r.mono e)
theorem RepT.tup {S H : Hp} {xs : List D} {v : V} (h : RepT K S H (.tup xs) v) (e : Same S H) : ∃ p vs, v = .ref p ∧ SqT K H p vs ∧ Reps K S xs vs := by
  cases h with
  | of h => cases h with | tup h r => exact ⟨_, _, rfl, sqT_mono e h, r⟩
theorem RepT.list {S H : Hp} {xs : List D} {v : V} (h : RepT K S H (.lst xs) v) (e : Same S H) : ∃ p vs, v = .ref p ∧ H p = some (.lst vs) ∧ Reps K S xs vs := by
  cases h with
  | of h => cases h with | lst h r => exact ⟨_, _, rfl, e _ _ h, r⟩
  | lst h r => exact ⟨_, _, rfl, h, r⟩
theorem RepT.dict {S H : Hp} {xs : List (Key × D)} {v : V} (h : RepT K S H (.dic xs) v) (e : Same S H) : ∃ p ws, v = .ref p ∧ Rd H p (.dK ws) ∧ Repk K S xs ws := by
  cases h with
  | of h => cases h with | dic h r => exact ⟨_, _, rfl, .inr ⟨_, e _ _ h⟩, r⟩
  | dic h r => exact ⟨_, _, rfl, .inl h, r⟩
  | fdic h r => exact ⟨_, _, rfl, .inr ⟨_, h⟩, r⟩
theorem RepT.inst {S H : Hp} {C : Addr} {fs : List (Str × D)} {v : V} (h : RepT K S H (.ins C fs) v) (e : Same S H) : ∃ p dx gs, v = .ref p ∧ H p = some (.ins C dx gs) ∧ H dx = some (.own p) ∧ Repf K S fs gs := by
  cases h with
  | of h => cases h with | ins h o r => exact ⟨_, _, _, rfl, e _ _ h, e _ _ o, r⟩
  | ins h o r => exact ⟨_, _, _, rfl, h, o, r⟩
theorem RepT.scr {S H : Hp} {ns : List Int} {v : V} (h : RepT K S H (.scr ns) v) (e : Same S H) : ∃ p, v = .ref p ∧ SqL K H p (ns.map V.int) := by
  cases h with
  | of h => cases h with | scr h => exact ⟨_, rfl, e.seq h⟩
theorem RepT.int {S H : Hp} {i : Int} {v : V} (h : RepT K S H (.int i) v) : v = .int i := by cases h with | of h => cases h; rfl
theorem RepT.bl {S H : Hp} {i : Bool} {v : V} (h : RepT K S H (.bl i) v) : v = .bl i := by cases h with | of h => cases h; rfl
theorem RepT.str {S H : Hp} {i : Str} {v : V} (h : RepT K S H (.str i) v) : v = .str i ∧ SOk i := by cases h with | of h => cases h with | str _ h => exact ⟨rfl, h⟩
theorem RepT.non {S H : Hp} {v : V} (h : RepT K S H .non v) : v = .non := by cases h with | of h => cases h; rfl
theorem RepT.ty {S H : Hp} {i : String} {v : V} (h : RepT K S H (.ty i) v) : v = .ty i := by cases h with | of h => cases h; rfl
theorem RepT.ref {S H : Hp} {i : Addr} {v : V} (h : RepT K S H (.ref i) v) : v = .ref i := by cases h with | of h => cases h; rfl

theorem OwnF.see {S H : Hp} {f : Str} {q : Addr} {d : D} : ∀ {fs : List (Str × Fd)} {gs : List (Str × V)} {qs : List Addr}, OwnF K S H fs gs qs → seeF q (fs.lookup f) = some d → RepT K S H d (.ref q)
  | _, _, _, .nil, h => by cases h
  | _, _, _, .d (n := n) _ t, h => by
    rw [List.lookup_cons] at h
    cases c : (f == n) with
    | true => rw [c] at h; cases h
    | false => rw [c] at h; exact OwnF.see t h
  | _, _, _, .l (n := n) (q := p) h0 r t, h => by
    rw [List.lookup_cons] at h
    cases c : (f == n) with
    | true =>
      rw [c] at h
      simp only [seeF] at h
      split at h
      · rename_i e; cases h; subst e; exact .lst h0 r
      · cases h
    | false => rw [c] at h; exact OwnF.see t h
  | _, _, _, .kd (n := n) (q := p) h0 r t, h => by
    rw [List.lookup_cons] at h
    cases c : (f == n) with
    | true =>
      rw [c] at h
      simp only [seeF] at h
      split at h
      · rename_i e; cases h; subst e; exact .dic h0 r
      · cases h
    | false => rw [c] at h; exact OwnF.see t h
section
variable {G : Gd} {S S' : Hp} {σ : L2.St} {H H' : Hp} {e : En} {F : Nat → List Addr}
theorem At.opd (A : At K G S σ H e F) {r : Re} {v : V} (h : ReAt K G S H σ F r v) (hn : ∀ o, fz r ≠ .own o) : ∃ S', Same S S' ∧ At K G S' σ H e F ∧ ReAts K G S' H σ F [fz r] [v] := by
  cases h with
  | sh h => exact ⟨S, Same.refl S, A, .sh h .nil⟩
  | bor h => exact ⟨S, Same.refl S, A, .bor h .nil⟩
  | fld => exact ⟨S, Same.refl S, A, .fld .nil⟩
  | @own o p f h hf =>
    cases q : o.toD with
    | none =>
      have : fz (.own o) = .own o := by simp [fz, q]
      exact absurd this (hn o)
    | some d =>
      obtain ⟨S', h1, h2, h3⟩ := A.freeze h hf q
      refine ⟨S', h1, h2, ?_⟩
      have : fz (.own o) = .sh d := by simp [fz, q]
      rw [this]
      exact .sh h3 .nil
theorem At.cont (A : At K G S σ H e F) {r : Re} {v : V} {d : D} (h : ReAts K G S H σ F [r] [v]) (hc : VL.cont e r = some d) : RepT K S H d v := by
  have go : ∀ {p : Addr} {f : List Addr} {o : O}, OwnAt K S H o p f → o.see = some d → RepT K S H d (.ref p) := fun {p f o} ow hd => by
    cases ow with
    | lst h r => cases hd; exact .lst h r
    | dic h r => cases hd; exact .dic h r
    | ins h o r => cases hd; exact .ins h o r
    | pot h => cases hd
    | fdic h r => cases hd; exact .fdic h r
    | obj h o r nd => cases hd
  cases h with
  | sh h t =>
    cases hc
    exact .of h
  | @fld q i f _ _ t =>
    have hc : seeF q (fldS e[i]? f) = some d := hc
    cases z : e[i]? with
    | none => rw [z] at hc; cases hc
    | some s =>
      rw [z] at hc
      have sl := A.sl i s z
      cases s with
      | un => cases hc
      | sh d' => cases hc
      | own o =>
        obtain ⟨p, ep, ow⟩ := sl
        cases o with
        | obj C fs =>
          obtain ⟨_, _, _, _, _, _, r, _⟩ := ow.objInv
          exact r.see hc
        | _ => cases hc
      | par o =>
        obtain ⟨p, ep, ow⟩ := sl
        cases o with
        | obj C fs =>
          obtain ⟨_, _, _, _, _, _, r, _⟩ := ow.objInv
          exact r.see hc
        | _ => cases hc
  | @bor i _ _ _ h t =>
    simp only [VL.cont] at hc
    cases q : e[i]? with
    | none => rw [q] at hc; cases hc
    | some s =>
      rw [q] at hc
      have sl := A.sl i s q
      rw [h] at sl
      cases s with
      | un => cases hc
      | sh d' =>
        cases hc
        obtain ⟨_, u, eu, r⟩ := sl
        cases eu
        exact .of r
      | own o =>
        obtain ⟨p, ep, ow⟩ := sl
        cases ep
        exact go ow hc
      | par o =>
        obtain ⟨p, ep, ow⟩ := sl
        cases ep
        exact go ow hc
end
def oB {α : Type} (x : Option α) (k : α → Prop) : Prop := match x with
  | some a => k a
  | none => False
theorem oB_some {α : Type} {x : Option α} {k : α → Prop} (h : oB x k) : ∃ a, x = some a ∧ k a := by
  cases x with
  | none => exact h.elim
  | some a => exact ⟨a, rfl, h⟩
@[simp] theorem oB_s {α : Type} (a : α) (k : α → Prop) : oB (some a) k = k a := rfl
@[simp] theorem oB_n {α : Type} (k : α → Prop) : oB none k = False := rfl
theorem cont_fz {e : En} {r : Re} {d : D} (h : cont e (fz r) = some d) : ∀ o, fz r ≠ .own o := fun o z => by rw [z] at h; cases h

/-! ### names, constants -/
section
variable {X : Cx} {W : WX} {pos : Pos}
def vVar (i : Nat) : VTE := fun _ e Q => match e[i]? with
  | some (.sh d) => Q (.sh d) e
  | some (.own _) => Q (.bor i) e
  | some (.par _) => Q (.bor i) e
  | _ => False
theorem okE_var (i : Nat) : OkE K W (tVar i) (vVar i) := by
  intro G S σ H e F x Q R xo A h k
  unfold vVar at h
  cases q : e[i]? with
  | none => rw [q] at h; exact h.elim
  | some s =>
    rw [q] at h
    have sl := A.sl i s q
    cases s with
    | un => exact h.elim
    | sh d =>
      obtain ⟨_, v, hv, r⟩ := sl
      exact ⟨v, hv, k _ v S H e F (Same.refl S) A (.sh r) h⟩
    | own o =>
      obtain ⟨p, hv, ow⟩ := sl
      exact ⟨_, hv, k _ _ S H e F (Same.refl S) A (.bor hv) h⟩
    | par o =>
      obtain ⟨p, hv, ow⟩ := sl
      exact ⟨_, hv, k _ _ S H e F (Same.refl S) A (.bor hv) h⟩
theorem ve_var (i : Nat) {x : Str} (hN : X.N[i]? = some x := by rfl) (hv : Vis X.env.scope x := by first | exact Or.inl rfl | exact Or.inr (Or.inl rfl) | exact Or.inr (Or.inr rfl)) (hd : (x == ("__debug__" : Str)) = false := by decide)
    (hcd : (x == ("__classdict__" : Str)) = false := by decide) : VEx X W (.Name x pos) (tVar i) (vVar i) := ⟨pe_var hN hv hd hcd, okE_var i⟩
/-- a name whose own object is shared from now on (no dict) -/
def vVarF (i : Nat) : VTE := fun _ e Q => match e[i]? with
  | some (.sh d) => Q (.sh d) e
  | some (.own o) => oB o.toD fun d => Q (.sh d) (e.set i (.sh d))
  | _ => False
theorem At.shareSlot {G : Gd} {S : Hp} {σ : L2.St} {H : Hp} {e : En} {F : Nat → List Addr} (A : At K G S σ H e F) {i : Nat} {o : O} {d : D} (q : e[i]? = some (.own o)) (hd : o.toD = some d) :
    ∃ S' F' v, Same S S' ∧ At K G S' σ H (e.set i (.sh d)) F' ∧ σ[i]? = some (some v) ∧ Rep K S' d v := by
  obtain ⟨p, hv, ow⟩ := A.sl i _ q
  have hi : i < e.length := (List.getElem?_eq_some_iff.mp q).1
  -- first the slot is emptied
  have A1 : At K G S σ H (e.set i .un) (fun j => if j = i then [] else F j) := by
    refine ⟨A.sh, A.bh, A.s0, A.nw, by rw [List.length_set]; exact A.len, fun j s hj => ?_, fun j hj => ?_, fun j a ha => ?_, fun j l a ha hb => ?_, fun j o' hj => ?_⟩
    · by_cases c : j = i
      · subst c
        rw [List.getElem?_set_self hi] at hj
        cases hj
        show (if j = j then [] else F j) = []
        rw [if_pos rfl]
      · rw [List.getElem?_set_ne (Ne.symm c)] at hj
        show SlAt K S H σ[j]? s (if j = i then [] else F j)
        rw [if_neg c]
        exact A.sl j s hj
    · show (if j = i then [] else F j) = []
      rw [List.length_set] at hj
      rw [if_neg (by omega)]
      exact A.fr j hj
    · have ha : a ∈ (if j = i then [] else F j) := ha
      by_cases c : j = i
      · rw [if_pos c] at ha; simp at ha
      · rw [if_neg c] at ha; exact A.fS j a ha
    · have ha : a ∈ (if j = i then [] else F j) := ha
      have hb : a ∈ (if l = i then [] else F l) := hb
      by_cases c : j = i
      · rw [if_pos c] at ha; simp at ha
      · rw [if_neg c] at ha
        by_cases c2 : l = i
        · rw [if_pos c2] at hb; simp at hb
        · rw [if_neg c2] at hb; exact A.dj j l a ha hb
    · by_cases c : j = i
      · subst c
        rw [List.getElem?_set_self hi] at hj
        cases hj
      · rw [List.getElem?_set_ne (Ne.symm c)] at hj
        exact A.pr j o' hj
  obtain ⟨S', h1, A2, r⟩ := A1.freeze (f := F i) ow (fun a ha => ⟨(A.fS i a ha).1, (A.fS i a ha).2, fun j hj => by
    have hj : a ∈ (if j = i then [] else F j) := hj
    by_cases c : j = i
    · rw [if_pos c] at hj; simp at hj
    · rw [if_neg c] at hj; exact c (A.dj j i a hj ha)⟩) hd
  refine ⟨S', (fun j => if j = i then [] else F j), _, h1, ?_, hv, r⟩
  refine ⟨A2.sh, A2.bh, A2.s0, A2.nw, by have := A2.len; rw [List.length_set] at this ⊢; exact this, fun j s hj => ?_, fun j hj => A2.fr j (by rw [List.length_set] at hj ⊢; exact hj), A2.fS, A2.dj, fun j o' hj => ?_⟩
  · by_cases c : j = i
    · subst c
      rw [List.getElem?_set_self hi] at hj
      cases hj
      refine ⟨if_pos rfl, _, hv, r⟩
    · rw [List.getElem?_set_ne (Ne.symm c)] at hj
      exact A2.sl j s (by rw [List.getElem?_set_ne (Ne.symm c)]; exact hj)
  · by_cases c : j = i
    · subst c
      rw [List.getElem?_set_self hi] at hj
      cases hj
    · rw [List.getElem?_set_ne (Ne.symm c)] at hj
      exact A2.pr j o' (by rw [List.getElem?_set_ne (Ne.symm c)]; exact hj)
theorem okE_varF (i : Nat) : OkE K W (tVar i) (vVarF i) := by
  intro G S σ H e F x Q R xo A h k
  unfold vVarF at h
  cases q : e[i]? with
  | none => rw [q] at h; exact h.elim
  | some s =>
    rw [q] at h
    cases s with
    | un => exact h.elim
    | par o => exact h.elim
    | sh d =>
      obtain ⟨_, v, hv, r⟩ := A.sl i _ q
      exact ⟨v, hv, k _ v S H e F (Same.refl S) A (.sh r) h⟩
    | own o =>
      obtain ⟨d, hd, h⟩ := oB_some h
      obtain ⟨S', F', v, h1, A', hv, r⟩ := A.shareSlot q hd
      exact ⟨v, hv, k _ v S' H _ F' h1 A' (.sh r) h⟩
theorem ve_varF (i : Nat) {x : Str} (hN : X.N[i]? = some x := by rfl) (hv : Vis X.env.scope x := by first | exact Or.inl rfl | exact Or.inr (Or.inl rfl) | exact Or.inr (Or.inr rfl)) (hd : (x == ("__debug__" : Str)) = false := by decide)
    (hcd : (x == ("__classdict__" : Str)) = false := by decide) : VEx X W (.Name x pos) (tVar i) (vVarF i) := ⟨pe_var hN hv hd hcd, okE_varF i⟩
def vC (d : D) : VTE := fun _ e Q => Q (.sh d) e
theorem okE_c {d : D} {v : V} (h : ∀ S, Rep K S d v) : OkE K W (tC v) (vC d) := fun G S σ H e F x Q R xo A hq k => k _ v S H e F (Same.refl S) A (.sh (h S)) hq
theorem ve_int {i j pos} : VEx X W (.Constant (.int i) j pos) (tC (.int i)) (vC (.int i)) := ⟨pe_int, okE_c fun _ => .int i⟩
theorem ve_bl {b j pos} : VEx X W (.Constant (.bool b) j pos) (tC (.bl b)) (vC (.bl b)) := ⟨pe_bl, okE_c fun _ => .bl b⟩
theorem ve_non {j pos} : VEx X W (.Constant .none j pos) (tC .non) (vC .non) := ⟨pe_non, okE_c fun _ => .non⟩
theorem ve_str {x j pos} (h : SOk x := by decide +kernel) : VEx X W (.Constant (.str x) j pos) (tC (.str x)) (vC (.str x)) := ⟨pe_str, okE_c fun _ => .str x h⟩
/-- a module's name: an int, a text -/
theorem ve_gint {x : Str} {i : Int} (hm : ∃ t, X.mg x = some (.int i t)) (hg : Gl X x := by rfl) (hd : (x == ("__debug__" : Str)) = false := by decide) : VEx X W (.Name x pos) (tC (.int i)) (vC (.int i)) := by
  obtain ⟨t, hm⟩ := hm
  exact ⟨pe_glob (v := .int i) hg hm ⟨t, rfl⟩ hd, okE_c fun _ => .int i⟩
theorem ve_gstr {x : Str} {i : Str} (hi : SOk i) (hm : ∃ t, X.mg x = some (.str i t)) (hg : Gl X x := by rfl) (hd : (x == ("__debug__" : Str)) = false := by decide) : VEx X W (.Name x pos) (tC (.str i)) (vC (.str i)) := by
  obtain ⟨t, hm⟩ := hm
  exact ⟨pe_glob (v := .str i) hg hm ⟨t, rfl⟩ hd, okE_c fun _ => .str i hi⟩
/-- a def, a class of the module, as a value -/
theorem ve_gref {x : Str} {a : Addr} (hm : X.mg x = some (.ref a)) (hg : Gl X x := by rfl) (hd : (x == ("__debug__" : Str)) = false := by decide) : VEx X W (.Name x pos) (tC (.ref a)) (vC (.ref a)) :=
  ⟨pe_glob (v := .ref a) hg hm rfl hd, okE_c fun _ => .ref a⟩
/-- a built-in class as a value -/
theorem ve_bty {x : Str} {n : String} (hm : X.mg x = none) (hv : bootBuiltins x = some (.type n) := by first | rfl | decide +kernel) (hg : Gl X x := by rfl) (hn : x ≠ "__name__" := by decide) (hd : (x == ("__debug__" : Str)) = false := by decide) :
    VEx X W (.Name x pos) (tC (.ty n)) (vC (.ty n)) := ⟨pe_bltn (v := .ty n) hg hm hv rfl hn hd, okE_c fun _ => .ty n⟩

/-! ### operators by values -/
abbrev VO2 := D → D → (Re → Prop) → Prop
def OpV (K : PySem.W.Frag) (r2 : R2) (o : VO2) : Prop := ∀ G S σ H e F x y dx dy (P : Re → Prop) (R : VK), At K G S σ H e F → RepT K S H dx x → RepT K S H dy y → o dx dy P →
  (∀ r v S' H', Same S S' → At K G S' σ H' e F → ReAt K G S' H' σ F r v → P r → R v H') → r2 x y H R
def vOp (o : VO2) (ta tb : VTE) : VTE := fun x e Q => ta x e fun r1 e1 => tb x e1 fun r2 e2 => oB (cont e2 (fz r1)) fun d1 => oB (cont e2 (fz r2)) fun d2 => o d1 d2 fun r => Q r e2
theorem okE_op {r2 : R2} {o : VO2} {ta tb : TE} {va vb : VTE} (hv : OpV K r2 o) (ha : OkE K W ta va) (hb : OkE K W tb vb) : OkE K W (tOp r2 ta tb) (vOp o va vb) := by
  intro G S σ H e F x Q R xo A h k
  refine ha G S σ H e F x _ _ xo A h fun r1 v1 S1 H1 e1 F1 s1 A1 q1 h1 => ?_
  by_cases c1 : ∃ o, fz r1 = .own o
  · obtain ⟨o1, c1⟩ := c1
    refine hb G S1 σ H1 e1 F1 x _ _ xo A1 h1 fun r2 v2 S2 H2 e2 F2 s2 A2 q2 h2 => ?_
    obtain ⟨d, hd, _⟩ := oB_some h2
    exact absurd c1 (cont_fz hd o1)
  · obtain ⟨S1', s1', A1', q1'⟩ := A1.opd q1 fun o z => c1 ⟨o, z⟩
    refine hb G S1' σ H1 e1 F1 x _ _ xo A1' h1 fun r2 v2 S2 H2 e2 F2 s2 A2 q2 h2 => ?_
    obtain ⟨d1, hd1, h2⟩ := oB_some h2
    obtain ⟨d2, hd2, h2⟩ := oB_some h2
    obtain ⟨S2', s2', A2', q2'⟩ := A2.opd q2 (cont_fz hd2)
    have t1 := A2'.cont (q1'.mono (H' := H2) (F' := F2) (s2.trans s2')) hd1
    have t2 := A2'.cont q2' hd2
    exact hv G S2' σ H2 e2 F2 v1 v2 d1 d2 _ R A2' t1 t2 h2 fun r v S3 H3 s3 A3 q3 h3 => k r v S3 H3 e2 F2 (((s1.trans s1').trans (s2.trans s2')).trans s3) A3 q3 h3
theorem ve_op {op : Operator} {r2 : R2} {o : VO2} {a b : Expr} {ua ub : TE} {va vb : VTE} (ho : OpR X (binaryOp op) r2) (hv : OpV X.K r2 o) (ha : VEx X W a ua va) (hb : VEx X W b ub vb) : VEx X W (.BinOp a op b pos) (tOp r2 ua ub) (vOp o va vb) :=
  ⟨pe_op ho ha.p hb.p, okE_op hv ha.o hb.o⟩
theorem ve_cmp {op : CmpOp} {r2 : R2} {o : VO2} {a b : Expr} {ua ub : TE} {va vb : VTE} (ho : OpR X (compareOp op) r2) (hv : OpV X.K r2 o) (hm : behindInMarks op b = false) (ha : VEx X W a ua va) (hb : VEx X W b ub vb) : VEx X W (.Compare a [op] [b] pos) (tOp r2 ua ub) (vOp o va vb) :=
  ⟨pe_cmpR ho ha.p hb.p hm, okE_op hv ha.o hb.o⟩
/-- alternatives -/
def r2Or (r r' : R2) : R2 := fun x y H Q => r x y H Q ∨ r' x y H Q
theorem opR_or {f : Value → Value → Sem Value} {r r' : R2} (h : OpR X f r) (h' : OpR X f r') : OpR X f (r2Or r r') := h.or h'
/-- a result that is a flat value -/
theorem flatRes {G : Gd} {S : Hp} {σ : L2.St} {H : Hp} {e : En} {F : Nat → List Addr} {P : Re → Prop} {R : VK} {d : D} {v : V} (A : At K G S σ H e F) (h : Rep K S d v) (hp : P (.sh d))
    (k : ∀ r v S' H', Same S S' → At K G S' σ H' e F → ReAt K G S' H' σ F r v → P r → R v H') : R v H := k _ v S H (Same.refl S) A (.sh h) hp
end
end VL

end

section
set_option Elab.async false
set_option linter.all false
set_option maxRecDepth 100000
set_option maxHeartbeats 4000000
namespace VL
open PySem PySem.Spec PyProof.Rows L2
variable {K : PySem.W.Frag}

/-! ### arithmetic -/
def opAdd : VO2 := fun x y P => match x, y with
  | .int i, .int j => P (.sh (.int (i + j)))
  | .str a, .str b => a.length + b.length ≤ sizeLine ∧ P (.sh (.str (a ++ b)))
  | .tup xs, .tup ys => xs.length + ys.length ≤ sizeLine ∧ P (.sh (.tup (xs ++ ys)))
  | .lst xs, .lst ys => xs.length + ys.length ≤ sizeLine ∧ P (.own (.lst (xs ++ ys)))
  | _, _ => False
def rAddU (K : PySem.W.Frag) : R2 := r2Or (rI0 fun i j => .int (i + j)) (r2Or (fun x y H Q => ∃ i j, x = .str i ∧ y = .str j ∧ i.length + j.length ≤ sizeLine ∧ Q (.str (i ++ j)) H) (r2Or (rCatA K) rCat))
theorem opR_add {X : Cx} : OpR X (binaryOp .Add) (rAddU X.K) := opR_or op_add (opR_or op_add_str (opR_or op_catA op_cat))
theorem sok_append {a b : Str} (ha : SOk a) (hb : SOk b) (h : a.length + b.length ≤ sizeLine) : SOk (a ++ b) := by
  have e : (a ++ b).cps = a.cps ++ b.cps := rfl
  refine ⟨?_, ?_⟩
  · rw [e, Array.all_append, ha.1, hb.1]; rfl
  · show (a ++ b).cps.size ≤ sizeLine
    rw [e, Array.size_append]
    exact h
theorem opV_add : OpV K (rAddU K) opAdd := by
  intro G S σ H e F x y dx dy P R A hx hy h k
  cases dx with
  | int i => cases dy with
    | int j =>
      cases hx.int; cases hy.int
      exact .inl ⟨i, j, rfl, rfl, flatRes A (.int _) h k⟩
    | _ => exact h.elim
  | str a => cases dy with
    | str b =>
      obtain ⟨ea, sa⟩ := hx.str
      obtain ⟨eb, sb⟩ := hy.str
      subst ea eb
      obtain ⟨hz, h⟩ := h
      exact .inr (.inl ⟨a, b, rfl, rfl, hz, flatRes A (.str _ (sok_append sa sb hz)) h k⟩)
    | _ => exact h.elim
  | tup xs => cases dy with
    | tup ys =>
      obtain ⟨hz, h⟩ := h
      obtain ⟨p, vs, rfl, hp, rp⟩ := hx.tup A.sh
      obtain ⟨q, us, rfl, hq, rq⟩ := hy.tup A.sh
      have l1 := rp.length
      have l2 := rq.length
      refine .inr (.inr (.inl ⟨p, q, vs, us, rfl, rfl, hp, hq, by omega, fun z => ?_, fun _ z => ?_, fun _ _ a ha => ?_⟩))
      · subst z
        have e1 : xs = [] := List.length_eq_zero_iff.mp l1
        subst e1
        cases hy with
        | of hy => exact flatRes A hy h k
      · subst z
        have e1 : ys = [] := List.length_eq_zero_iff.mp l2
        subst e1
        rw [List.append_nil] at h
        cases hx with
        | of hx => exact flatRes A hx h k
      · obtain ⟨A', s', r'⟩ := A.newT ha (rp.append rq)
        exact k _ _ _ _ s' A' (.sh r') h
    | _ => exact h.elim
  | lst xs => cases dy with
    | lst ys =>
      obtain ⟨hz, h⟩ := h
      obtain ⟨p, vs, rfl, hp, rp⟩ := hx.list A.sh
      obtain ⟨q, us, rfl, hq, rq⟩ := hy.list A.sh
      have l1 := rp.length
      have l2 := rq.length
      refine .inr (.inr (.inr ⟨p, q, vs, us, rfl, rfl, hp, hq, by omega, fun a ha => ?_⟩))
      obtain ⟨A', r'⟩ := A.newL ha (rp.append rq)
      exact k _ _ _ _ (Same.refl S) A' r' h
    | _ => exact h.elim
  | _ => exact h.elim
def opI (C : Int → Int → Prop) (g : Int → Int → Int) : VO2 := fun x y P => match x, y with
  | .int i, .int j => C i j ∧ P (.sh (.int (g i j)))
  | _, _ => False
theorem opV_I {C : Int → Int → Prop} {g : Int → Int → Int} : OpV K (rI C fun i j => .int (g i j)) (opI C g) := by
  intro G S σ H e F x y dx dy P R A hx hy h k
  cases dx with
  | int i => cases dy with
    | int j =>
      cases hx.int; cases hy.int
      exact ⟨i, j, rfl, rfl, h.1, flatRes A (.int _) h.2 k⟩
    | _ => exact h.elim
  | _ => exact h.elim
def opI0 (g : Int → Int → Int) : VO2 := fun x y P => match x, y with
  | .int i, .int j => P (.sh (.int (g i j)))
  | _, _ => False
theorem opV_I0 {g : Int → Int → Int} : OpV K (rI0 fun i j => .int (g i j)) (opI0 g) := by
  intro G S σ H e F x y dx dy P R A hx hy h k
  cases dx with
  | int i => cases dy with
    | int j =>
      cases hx.int; cases hy.int
      exact ⟨i, j, rfl, rfl, flatRes A (.int _) h k⟩
    | _ => exact h.elim
  | _ => exact h.elim
abbrev opSub : VO2 := opI0 fun i j => i - j
abbrev opMod : VO2 := opI (fun _ j => 0 < j) fun i j => i % j
abbrev opFdiv : VO2 := opI CDivW fun i j => i / j
abbrev opPow : VO2 := opI CPow fun i j => i ^ j.toNat
/-- a product of ints, a list times an int -/
def opMul : VO2 := fun x y P => match x, y with
  | .int i, .int j => CMulW i j ∧ P (.sh (.int (i * j)))
  | .lst xs, .int k => -(2 ^ 63) ≤ k ∧ k < 2 ^ 63 ∧ xs.length * k.toNat ≤ sizeLine ∧ P (.own (.lst (List.replicate k.toNat xs).flatten))
  | _, _ => False
def rMulU : R2 := r2Or (rI CMulW fun i j => .int (i * j)) rRep
theorem opR_mul {X : Cx} : OpR X (binaryOp .Mult) rMulU := opR_or op_mulW op_rep
theorem opV_mul : OpV K rMulU opMul := by
  intro G S σ H e F x y dx dy P R A hx hy h k
  cases dx with
  | int i => cases dy with
    | int j =>
      cases hx.int; cases hy.int
      exact .inl ⟨i, j, rfl, rfl, h.1, flatRes A (.int _) h.2 k⟩
    | _ => exact h.elim
  | lst xs => cases dy with
    | int j =>
      obtain ⟨h1, h2, h3, h⟩ := h
      obtain ⟨p, vs, rfl, hp, rp⟩ := hx.list A.sh
      cases hy.int
      refine .inr ⟨p, j, vs, rfl, rfl, hp, h1, h2, by rw [← rp.length]; exact h3, fun a ha => ?_⟩
      obtain ⟨A', r'⟩ := A.newL ha (rp.flat j.toNat)
      exact k _ _ _ _ (Same.refl S) A' r' h
    | _ => exact h.elim
  | _ => exact h.elim
section
variable {X : Cx} {W : WX} {pos : Pos} {a b : Expr} {ua ub : TE} {va vb : VTE}
theorem ve_add (ha : VEx X W a ua va) (hb : VEx X W b ub vb) : VEx X W (.BinOp a .Add b pos) (tOp (rAddU X.K) ua ub) (vOp opAdd va vb) := ve_op opR_add opV_add ha hb
theorem ve_sub (ha : VEx X W a ua va) (hb : VEx X W b ub vb) : VEx X W (.BinOp a .Sub b pos) (tOp (rI0 fun i j => .int (i - j)) ua ub) (vOp opSub va vb) := ve_op op_sub opV_I0 ha hb
theorem ve_mul (ha : VEx X W a ua va) (hb : VEx X W b ub vb) : VEx X W (.BinOp a .Mult b pos) (tOp rMulU ua ub) (vOp opMul va vb) := ve_op opR_mul opV_mul ha hb
theorem ve_mod (ha : VEx X W a ua va) (hb : VEx X W b ub vb) : VEx X W (.BinOp a .Mod b pos) (tOp (rI (fun _ j => 0 < j) fun i j => .int (i % j)) ua ub) (vOp opMod va vb) := ve_op op_mod opV_I ha hb
theorem ve_fdiv (ha : VEx X W a ua va) (hb : VEx X W b ub vb) : VEx X W (.BinOp a .FloorDiv b pos) (tOp (rI CDivW fun i j => .int (i / j)) ua ub) (vOp opFdiv va vb) := ve_op op_fdivW opV_I ha hb
theorem ve_pow (ha : VEx X W a ua va) (hb : VEx X W b ub vb) : VEx X W (.BinOp a .Pow b pos) (tOp (rI CPow fun i j => .int (i ^ j.toNat)) ua ub) (vOp opPow va vb) := ve_op op_pow opV_I ha hb
end

/-! ### comparisons -/
def opC (g : Int → Int → Bool) : VO2 := fun x y P => match x, y with
  | .int i, .int j => P (.sh (.bl (g i j)))
  | _, _ => False
theorem opV_C {g : Int → Int → Bool} : OpV K (rI0 fun i j => .bl (g i j)) (opC g) := by
  intro G S σ H e F x y dx dy P R A hx hy h k
  cases dx with
  | int i => cases dy with
    | int j =>
      cases hx.int; cases hy.int
      exact ⟨i, j, rfl, rfl, flatRes A (.bl _) h k⟩
    | _ => exact h.elim
  | _ => exact h.elim
abbrev opLt : VO2 := opC fun i j => decide (i < j)
abbrev opLe : VO2 := opC fun i j => decide (i ≤ j)
abbrev opGt : VO2 := opC fun i j => decide (j < i)
abbrev opGe : VO2 := opC fun i j => decide (j ≤ i)
/-- a <= b of texts -/
def opLeS : VO2 := fun x y P => match x, y with
  | .str a, .str b => P (.sh (.bl (decide (a.cps.toList ≤ b.cps.toList))))
  | _, _ => False
theorem opV_leS : OpV K (fun x y H Q => ∃ i j, x = .str i ∧ y = .str j ∧ Q (.bl (decide (i.cps.toList ≤ j.cps.toList))) H) opLeS := by
  intro G S σ H e F x y dx dy P R A hx hy h k
  cases dx with
  | str i => cases dy with
    | str j =>
      obtain ⟨rfl, _⟩ := hx.str
      obtain ⟨rfl, _⟩ := hy.str
      exact ⟨i, j, rfl, rfl, flatRes A (.bl _) h k⟩
    | _ => exact h.elim
  | _ => exact h.elim

/-! ### == of data -/
mutual
def D.py : D → Option PyData
  | .non => some .none
  | .bl b => some (.bool b)
  | .int i => some (.int i)
  | .str x => some (.str x)
  | .tup xs => (D.pys xs).map .tuple
  | .lst xs => (D.pys xs).map .list
  | _ => none
def D.pys : List D → Option (List PyData)
  | [] => some []
  | x :: xs => match D.py x, D.pys xs with
    | some p, some ps => some (p :: ps)
    | _, _ => none
end
mutual
theorem D.py_dp {S H : Hp} (e : Same S H) : ∀ {d : D} {v : V} {p : PyData}, Rep K S d v → D.py d = some p → Dp K H v p ∧ p.canLay0 = true
  | _, _, _, .non, h => by cases h; exact ⟨.non, rfl⟩
  | _, _, _, .bl b, h => by cases h; exact ⟨.bl b, rfl⟩
  | _, _, _, .int i, h => by cases h; exact ⟨.int i, rfl⟩
  | _, _, _, .str x s, h => by cases h; exact ⟨.str x, s.1⟩
  | _, _, _, .ref _, h => by cases h
  | _, _, _, .ty _, h => by cases h
  | _, _, _, .scr _, h => by cases h
  | _, _, p, .tup (xs := xs) q r, h => by
    unfold D.py at h
    cases hx : D.pys xs with
    | none => rw [hx] at h; cases h
    | some ps =>
      rw [hx] at h
      cases h
      obtain ⟨h1, h2⟩ := D.pys_dp e r hx
      exact ⟨.tup (sqT_mono e q) h1, h2⟩
  | _, _, p, .lst (xs := xs) q r, h => by
    unfold D.py at h
    cases hx : D.pys xs with
    | none => rw [hx] at h; cases h
    | some ps =>
      rw [hx] at h
      cases h
      obtain ⟨h1, h2⟩ := D.pys_dp e r hx
      exact ⟨.lst (SqL.of (e _ _ q)) h1, h2⟩
  | _, _, _, .dic _ _, h => by cases h
  | _, _, _, .ins _ _ _, h => by cases h
theorem D.pys_dp {S H : Hp} (e : Same S H) : ∀ {ds : List D} {vs : List V} {ps : List PyData}, Reps K S ds vs → D.pys ds = some ps → DpAll K H vs ps ∧ PyData.canLayAll0 ps = true
  | _, _, _, .nil, h => by cases h; exact ⟨.nil, rfl⟩
  | _, _, ps, .cons (d := d) (ds := ds) q r, h => by
    unfold D.pys at h
    cases h1 : D.py d with
    | none => rw [h1] at h; cases h
    | some p =>
      cases h2 : D.pys ds with
      | none => rw [h1, h2] at h; cases h
      | some qs =>
        rw [h1, h2] at h
        cases h
        obtain ⟨a1, a2⟩ := D.py_dp e q h1
        obtain ⟨b1, b2⟩ := D.pys_dp e r h2
        refine ⟨.cons a1 b1, ?_⟩
        unfold PyData.canLayAll0
        rw [a2, b2]
        rfl
end
theorem D.py_dpT {S H : Hp} (e : Same S H) {d : D} {v : V} {p : PyData} (r : RepT K S H d v) (h : D.py d = some p) : Dp K H v p ∧ p.canLay0 = true := by
  cases r with
  | of r => exact D.py_dp e r h
  | @lst q vs xs hq r =>
    unfold D.py at h
    cases hx : D.pys xs with
    | none => rw [hx] at h; cases h
    | some ps =>
      rw [hx] at h
      cases h
      obtain ⟨h1, h2⟩ := D.pys_dp e r hx
      exact ⟨.lst (SqL.of hq) h1, h2⟩
  | dic _ _ => cases h
  | fdic _ _ => unfold D.py at h; cases h
  | ins _ _ _ => cases h
/-- == of data: scalars, lists, tuples; depth at most 64 -/
def opEq (neg : Bool) : VO2 := fun x y P => oB x.py fun p => oB y.py fun q => (p.depth ≤ 64 ∧ q.depth ≤ 64) ∧ P (.sh (.bl (if neg then !PyData.eqv p q else PyData.eqv p q)))
theorem shaped_of {p : PyData} (h1 : p.canLay0 = true) (h2 : p.depth ≤ 64) : SeqAt.shaped p = true := by
  show (p.canLay0 && decide (p.depth ≤ 64)) = true
  rw [h1, decide_eq_true h2]
  rfl
theorem opV_eq : OpV K (rEqD K) (opEq false) := by
  intro G S σ H e F x y dx dy P R A hx hy h k
  obtain ⟨p, hp, h⟩ := oB_some h
  obtain ⟨q, hq, h⟩ := oB_some h
  obtain ⟨d1, c1⟩ := D.py_dpT A.sh hx hp
  obtain ⟨d2, c2⟩ := D.py_dpT A.sh hy hq
  exact ⟨p, q, d1, d2, shaped_of c1 h.1.1, shaped_of c2 h.1.2, flatRes A (.bl _) h.2 k⟩
theorem opV_ne : OpV K (rNeD K) (opEq true) := by
  intro G S σ H e F x y dx dy P R A hx hy h k
  obtain ⟨p, hp, h⟩ := oB_some h
  obtain ⟨q, hq, h⟩ := oB_some h
  obtain ⟨d1, c1⟩ := D.py_dpT A.sh hx hp
  obtain ⟨d2, c2⟩ := D.py_dpT A.sh hy hq
  exact ⟨p, q, d1, d2, shaped_of c1 h.1.1, shaped_of c2 h.1.2, flatRes A (.bl _) h.2 k⟩
/-- is None; is of flags -/
def opIsN (neg : Bool) : VO2 := fun x y P => match y with
  | .non => P (.sh (.bl (match x with
    | .non => !neg
    | _ => neg)))
  | .bl b => match x with
    | .bl a => P (.sh (.bl (if neg then !decide (a = b) else decide (a = b))))
    | _ => False
  | _ => False
theorem RepT.notNone {S H : Hp} {d : D} {v : V} (h : RepT K S H d v) (hd : d ≠ .non) : v ≠ .non := by
  intro z
  subst z
  cases h with
  | of h => cases h; exact hd rfl
def rIsU : R2 := r2Or (fun x y H Q => y = .non ∧ Q (.bl (decide (x = .non))) H) (fun x y H Q => ∃ a b, x = .bl a ∧ y = .bl b ∧ Q (.bl (decide (a = b))) H)
def rIsNotU : R2 := r2Or (fun x y H Q => y = .non ∧ Q (.bl (!decide (x = .non))) H) (fun x y H Q => ∃ a b, x = .bl a ∧ y = .bl b ∧ Q (.bl (!decide (a = b))) H)
theorem opR_is {X : Cx} : OpR X (compareOp .Is) rIsU := opR_or op_isN op_isBl
theorem opR_isnot {X : Cx} : OpR X (compareOp .IsNot) rIsNotU := opR_or op_notN op_notBl
theorem opV_is : OpV K rIsU (opIsN false) := by
  intro G S σ H e F x y dx dy P R A hx hy h k
  cases dy with
  | non =>
    cases hy.non
    refine .inl ⟨rfl, ?_⟩
    cases dx with
    | non => cases hx.non; exact flatRes A (.bl _) h k
    | _ =>
      have z := hx.notNone (by simp)
      rw [decide_eq_false z]
      exact flatRes A (.bl _) h k
  | bl b => cases dx with
    | bl a =>
      cases hx.bl; cases hy.bl
      exact .inr ⟨a, b, rfl, rfl, flatRes A (.bl _) h k⟩
    | _ => exact h.elim
  | _ => exact h.elim
theorem opV_isnot : OpV K rIsNotU (opIsN true) := by
  intro G S σ H e F x y dx dy P R A hx hy h k
  cases dy with
  | non =>
    cases hy.non
    refine .inl ⟨rfl, ?_⟩
    cases dx with
    | non => cases hx.non; exact flatRes A (.bl _) h k
    | _ =>
      have z := hx.notNone (by simp)
      rw [decide_eq_false z]
      exact flatRes A (.bl _) h k
  | bl b => cases dx with
    | bl a =>
      cases hx.bl; cases hy.bl
      exact .inr ⟨a, b, rfl, rfl, flatRes A (.bl _) h k⟩
    | _ => exact h.elim
  | _ => exact h.elim

/-! ### in -/
/-- a flat datum -/
def flatD : D → Bool
  | .non | .bl _ | .int _ | .str _ => true
  | _ => false
def eqF : D → D → Bool
  | .non, .non => true
  | .bl a, .bl b => a == b
  | .bl a, .int b => (if a then 1 else 0) == b
  | .int a, .bl b => a == (if b then 1 else 0)
  | .int a, .int b => a == b
  | .str a, .str b => a == b
  | _, _ => false
theorem flat_rep {S : Hp} {d : D} {v : V} (h : Rep K S d v) (f : flatD d = true) : flatV v = true := by
  cases h <;> first | rfl | cases f
theorem eqF_rep {S : Hp} {d d' : D} {v v' : V} (h : Rep K S d v) (h' : Rep K S d' v') (f : flatD d = true) (f' : flatD d' = true) : eqV v v' = eqF d d' := by
  cases h <;> first | (cases f; done) | (cases h' <;> first | rfl | (cases f'; done))
theorem flats_rep {S : Hp} : ∀ {ds : List D} {vs : List V}, Reps K S ds vs → ds.all flatD = true → vs.all flatV = true
  | _, _, .nil, _ => rfl
  | _, _, .cons h t, f => by
    rw [List.all_cons, Bool.and_eq_true] at f
    rw [List.all_cons, flat_rep h f.1, flats_rep t f.2]
    rfl
theorem anyF_rep {S : Hp} {d : D} {v : V} (h : Rep K S d v) (f : flatD d = true) : ∀ {ds : List D} {vs : List V}, Reps K S ds vs → ds.all flatD = true → (vs.any fun y => eqV y v) = (ds.any fun y => eqF y d)
  | _, _, .nil, _ => rfl
  | _, _, .cons h' t, f' => by
    rw [List.all_cons, Bool.and_eq_true] at f'
    rw [List.any_cons, List.any_cons, eqF_rep h' h f'.1 f, anyF_rep h f t f'.2]
def keyD : D → Option Key
  | .int i => some (.inl i)
  | .str x => some (.inr x)
  | _ => none
theorem key_rep {S : Hp} {d : D} {v : V} {k : Key} (h : Rep K S d v) (f : keyD d = some k) : v = kV k := by
  cases h <;> first | (cases f; rfl) | (cases f; done)
theorem key_ok {S : Hp} {d : D} {v : V} {k : Key} (h : Rep K S d v) (f : keyD d = some k) : KOk k := by
  cases h <;> first | (cases f; trivial) | (cases f; assumption) | (cases f; done)
/-- x in a list, a tuple of flat items; a key in a dict; a sign in a text -/
def opIn (neg : Bool) : VO2 := fun x y P => match y with
  | .lst ys => (flatD x = true ∧ ys.all flatD = true) ∧ P (.sh (.bl (if neg then !(ys.any fun y => eqF y x) else ys.any fun y => eqF y x)))
  | .tup ys => (flatD x = true ∧ ys.all flatD = true) ∧ P (.sh (.bl (if neg then !(ys.any fun y => eqF y x) else ys.any fun y => eqF y x)))
  | .dic kvs => oB (keyD x) fun k => P (.sh (.bl (if neg then !(dget kvs k).isSome else (dget kvs k).isSome)))
  | .str z => match x with
    | .str c => c.cps.size = 1 ∧ P (.sh (.bl (if neg then !decide (c.cps.getD 0 0 ∈ z.cps.toList) else decide (c.cps.getD 0 0 ∈ z.cps.toList))))
    | _ => False
  | _ => False
def rInD (neg : Bool) : R2 := fun y x H Q => ∃ a o, x = .ref a ∧ DGet H a y o ∧ Q (.bl (if neg then !o.isSome else o.isSome)) H
theorem opR_inD {X : Cx} (hu : X.A.units + 1 < cLine) : OpR X (compareOp .In) (rInD false) := by
  intro pins s σ H x y v u Q I rx ry h
  obtain ⟨a, o, rfl, g, q⟩ := h
  cases ry
  exact d_in hu I g rx fun s' I' => ⟨.bl _, H, I', rfl, q⟩
theorem opR_niD {X : Cx} (hu : X.A.units + 1 < cLine) : OpR X (compareOp .NotIn) (rInD true) := by
  intro pins s σ H x y v u Q I rx ry h
  obtain ⟨a, o, rfl, g, q⟩ := h
  cases ry
  exact d_notIn hu I g rx fun s' I' => ⟨.bl _, H, I', rfl, q⟩
def rInS (neg : Bool) : R2 := fun x y H Q => ∃ (c : Nat) (z : Str), x = .str ⟨#[c]⟩ ∧ y = .str z ∧ Q (.bl (if neg then !decide (c ∈ z.cps.toList) else decide (c ∈ z.cps.toList))) H
theorem opR_inS {X : Cx} : OpR X (compareOp .In) (rInS false) := op_in_sign
theorem opR_niS {X : Cx} : OpR X (compareOp .NotIn) (rInS true) := op_notIn_sign
def rInU (K : PySem.W.Frag) (neg : Bool) : R2 := r2Or (rIn K neg) (r2Or (rInD neg) (rInS neg))
theorem opR_in {X : Cx} (hu : X.A.units + 1 < cLine) : OpR X (compareOp .In) (rInU X.K false) := opR_or op_in_seq (opR_or (opR_inD hu) opR_inS)
theorem opR_ni {X : Cx} (hu : X.A.units + 1 < cLine) : OpR X (compareOp .NotIn) (rInU X.K true) := opR_or op_notIn_seq (opR_or (opR_niD hu) opR_niS)
theorem one_sign {c : Str} (h : c.cps.size = 1) : c = ⟨#[c.cps.getD 0 0]⟩ := by
  obtain ⟨a⟩ := c
  have h : a.size = 1 := h
  congr 1
  apply Array.ext
  · rw [h]; rfl
  · intro i h1 h2
    have : i = 0 := by omega
    subst this
    show _ = a.getD 0 0
    rw [Array.getD_eq_getD_getElem?, Array.getElem?_eq_getElem h1]
    rfl
theorem dget_rep {S : Hp} {kvs : List (Key × D)} {ws : List (Key × V)} {k : Key} (r : Repk K S kvs ws) : (valV ws k).isSome = (dget kvs k).isSome := by
  rcases r.look (k := k) with ⟨h1, h2⟩ | ⟨d, v, h1, h2, _⟩
  · rw [h1, h2]; rfl
  · rw [h1, h2]; rfl
theorem RepT.flat {S H : Hp} {d : D} {v : V} (h : RepT K S H d v) (f : flatD d = true) : Rep K S d v := by
  cases h with
  | of h => exact h
  | lst _ _ => cases f
  | dic _ _ => cases f
  | ins _ _ _ => cases f
  | fdic _ _ => cases f
theorem opV_inn {neg : Bool} : OpV K (rInU K neg) (opIn neg) := by
  intro G S σ H e F x y dx dy P R A hx hy h k
  cases dy with
  | lst ys =>
    obtain ⟨⟨f1, f2⟩, h⟩ := h
    obtain ⟨p, vs, rfl, hp, rp⟩ := hy.list A.sh
    have rx := hx.flat f1
    refine .inl ⟨p, vs, rfl, .inl (SqL.of hp), flat_rep rx f1, flats_rep rp f2, ?_⟩
    rw [show inV x vs = _ from anyF_rep rx f1 rp f2]
    exact flatRes A (.bl _) h k
  | tup ys =>
    obtain ⟨⟨f1, f2⟩, h⟩ := h
    obtain ⟨p, vs, rfl, hp, rp⟩ := hy.tup A.sh
    have rx := hx.flat f1
    refine .inl ⟨p, vs, rfl, .inr hp, flat_rep rx f1, flats_rep rp f2, ?_⟩
    rw [show inV x vs = _ from anyF_rep rx f1 rp f2]
    exact flatRes A (.bl _) h k
  | dic kvs =>
    obtain ⟨key, hk, h⟩ := oB_some h
    obtain ⟨p, ws, rfl, hp, rp⟩ := hy.dict A.sh
    have f1 : flatD dx = true := by cases dx <;> first | rfl | cases hk
    have ex := key_rep (hx.flat f1) hk
    subst ex
    refine .inr (.inl ⟨p, _, rfl, .inl ⟨ws, key, hp, rfl, rfl⟩, ?_⟩)
    rw [dget_rep rp]
    exact flatRes A (.bl _) h k
  | str z => cases dx with
    | str c =>
      obtain ⟨h1, h⟩ := h
      obtain ⟨rfl, _⟩ := hx.str
      obtain ⟨rfl, _⟩ := hy.str
      refine .inr (.inr ⟨c.cps.getD 0 0, z, by rw [← one_sign h1], rfl, ?_⟩)
      exact flatRes A (.bl _) h k
    | _ => exact h.elim
  | _ => exact h.elim
section
variable {X : Cx} {W : WX} {pos : Pos} {a b : Expr} {ua ub : TE} {va vb : VTE}
theorem ve_lt (ha : VEx X W a ua va) (hb : VEx X W b ub vb) : VEx X W (.Compare a [.Lt] [b] pos) (tOp (rI0 fun i j => .bl (decide (i < j))) ua ub) (vOp opLt va vb) := ve_cmp op_lt opV_C (nomark _) ha hb
theorem ve_le (ha : VEx X W a ua va) (hb : VEx X W b ub vb) : VEx X W (.Compare a [.LtE] [b] pos) (tOp (rI0 fun i j => .bl (decide (i ≤ j))) ua ub) (vOp opLe va vb) := ve_cmp op_le opV_C (nomark _) ha hb
theorem ve_gt (ha : VEx X W a ua va) (hb : VEx X W b ub vb) : VEx X W (.Compare a [.Gt] [b] pos) (tOp (rI0 fun i j => .bl (decide (j < i))) ua ub) (vOp opGt va vb) := ve_cmp op_gt opV_C (nomark _) ha hb
theorem ve_ge (ha : VEx X W a ua va) (hb : VEx X W b ub vb) : VEx X W (.Compare a [.GtE] [b] pos) (tOp (rI0 fun i j => .bl (decide (j ≤ i))) ua ub) (vOp opGe va vb) := ve_cmp op_ge opV_C (nomark _) ha hb
theorem ve_eq (hu : X.A.units + 64 < cLine) (ha : VEx X W a ua va) (hb : VEx X W b ub vb) : VEx X W (.Compare a [.Eq] [b] pos) (tOp (rEqD X.K) ua ub) (vOp (opEq false) va vb) := ve_cmp (op_eqD hu) opV_eq (nomark _) ha hb
theorem ve_ne (hu : X.A.units + 64 < cLine) (ha : VEx X W a ua va) (hb : VEx X W b ub vb) : VEx X W (.Compare a [.NotEq] [b] pos) (tOp (rNeD X.K) ua ub) (vOp (opEq true) va vb) := ve_cmp (op_neD hu) opV_ne (nomark _) ha hb
theorem ve_is (ha : VEx X W a ua va) (hb : VEx X W b ub vb) : VEx X W (.Compare a [.Is] [b] pos) (tOp rIsU ua ub) (vOp (opIsN false) va vb) := ve_cmp opR_is opV_is (nomark _) ha hb
theorem ve_isnot (ha : VEx X W a ua va) (hb : VEx X W b ub vb) : VEx X W (.Compare a [.IsNot] [b] pos) (tOp rIsNotU ua ub) (vOp (opIsN true) va vb) := ve_cmp opR_isnot opV_isnot (nomark _) ha hb
theorem ve_in (hu : X.A.units + 64 < cLine) (ha : VEx X W a ua va) (hb : VEx X W b ub vb) (hm : behindInMarks .In b = false := by rfl) : VEx X W (.Compare a [.In] [b] pos) (tOp (rInU X.K false) ua ub) (vOp (opIn false) va vb) := ve_cmp (opR_in (by omega)) opV_inn hm ha hb
theorem ve_notin (hu : X.A.units + 64 < cLine) (ha : VEx X W a ua va) (hb : VEx X W b ub vb) (hm : behindInMarks .NotIn b = false := by rfl) : VEx X W (.Compare a [.NotIn] [b] pos) (tOp (rInU X.K true) ua ub) (vOp (opIn true) va vb) := ve_cmp (opR_ni (by omega)) opV_inn hm ha hb
end
end VL

end

section
set_option Elab.async false
set_option linter.all false
set_option maxRecDepth 100000
set_option maxHeartbeats 4000000
namespace VL
open PySem PySem.Spec PyProof.Rows L2
variable {K : PySem.W.Frag}

/-! ### tests -/
def vB (t : VTE) : VTT := fun x e Q => t x e fun r e1 => oB (cont e1 (fz r)) fun d => match d with
  | .bl b => Q b e1
  | _ => False
theorem okT_B {W : WX} {te : TE} {t : VTE} (h : OkE K W te t) : OkT K W (tB te) (vB t) := by
  intro G S σ H e F x Q R xo A hq k
  refine h G S σ H e F x _ _ xo A hq fun r v S1 H1 e1 F1 s1 A1 q1 h1 => ?_
  obtain ⟨d, hd, h1⟩ := oB_some h1
  obtain ⟨S2, s2, A2, q2⟩ := A1.opd q1 (cont_fz hd)
  have t1 := A2.cont q2 hd
  cases d with
  | bl b =>
    cases t1.bl
    exact ⟨b, rfl, k b S2 H1 e1 F1 (s1.trans s2) A2 h1⟩
  | _ => exact h1.elim
theorem okT_test {W : WX} {te : TE} {t : VTE} (h : OkE K W te t) : OkT K W (tTest te) (vB t) := okT_B h
section
variable {X : Cx} {W : WX} {pos : Pos} {a b c : Expr} {ua ub uc : TE} {wa wb : TT} {va vb vc : VTE} {ta tb : VTT}
/-- a value that is a flag, as a test -/
theorem vt_val (h : VEx X W a ua va) (he : ∀ whole, PySem.isTrue a X.env whole = (do let v ← whole; standAt a.pos; holding [v] (truthy v)) := by intro _; rfl) : VTx X W a (tB ua) (vB va) := ⟨pt_val h.p he, okT_B h.o⟩
theorem vt_cmp {op : CmpOp} {r2 : R2} {o : VO2} (ho : OpR X (compareOp op) r2) (hv : OpV X.K r2 o) (hm : behindInMarks op b = false) (ha : VEx X W a ua va) (hb : VEx X W b ub vb) : VTx X W (.Compare a [op] [b] pos) (tTest (tOp r2 ua ub)) (vB (vOp o va vb)) := ⟨pt_cmpR ho ha.p hb.p hm, okT_test (okE_op hv ha.o hb.o)⟩
theorem vt_lt (ha : VEx X W a ua va) (hb : VEx X W b ub vb) : VTx X W (.Compare a [.Lt] [b] pos) (tTest (tOp (rI0 fun i j => .bl (decide (i < j))) ua ub)) (vB (vOp opLt va vb)) := vt_cmp op_lt opV_C (nomark _) ha hb
theorem vt_le (ha : VEx X W a ua va) (hb : VEx X W b ub vb) : VTx X W (.Compare a [.LtE] [b] pos) (tTest (tOp (rI0 fun i j => .bl (decide (i ≤ j))) ua ub)) (vB (vOp opLe va vb)) := vt_cmp op_le opV_C (nomark _) ha hb
theorem vt_gt (ha : VEx X W a ua va) (hb : VEx X W b ub vb) : VTx X W (.Compare a [.Gt] [b] pos) (tTest (tOp (rI0 fun i j => .bl (decide (j < i))) ua ub)) (vB (vOp opGt va vb)) := vt_cmp op_gt opV_C (nomark _) ha hb
theorem vt_ge (ha : VEx X W a ua va) (hb : VEx X W b ub vb) : VTx X W (.Compare a [.GtE] [b] pos) (tTest (tOp (rI0 fun i j => .bl (decide (j ≤ i))) ua ub)) (vB (vOp opGe va vb)) := vt_cmp op_ge opV_C (nomark _) ha hb
theorem vt_eq (hu : X.A.units + 64 < cLine) (ha : VEx X W a ua va) (hb : VEx X W b ub vb) : VTx X W (.Compare a [.Eq] [b] pos) (tTest (tOp (rEqD X.K) ua ub)) (vB (vOp (opEq false) va vb)) := vt_cmp (op_eqD hu) opV_eq (nomark _) ha hb
theorem vt_ne (hu : X.A.units + 64 < cLine) (ha : VEx X W a ua va) (hb : VEx X W b ub vb) : VTx X W (.Compare a [.NotEq] [b] pos) (tTest (tOp (rNeD X.K) ua ub)) (vB (vOp (opEq true) va vb)) := vt_cmp (op_neD hu) opV_ne (nomark _) ha hb
theorem vt_is (ha : VEx X W a ua va) (hb : VEx X W b ub vb) : VTx X W (.Compare a [.Is] [b] pos) (tTest (tOp rIsU ua ub)) (vB (vOp (opIsN false) va vb)) := vt_cmp opR_is opV_is (nomark _) ha hb
theorem vt_isnot (ha : VEx X W a ua va) (hb : VEx X W b ub vb) : VTx X W (.Compare a [.IsNot] [b] pos) (tTest (tOp rIsNotU ua ub)) (vB (vOp (opIsN true) va vb)) := vt_cmp opR_isnot opV_isnot (nomark _) ha hb
theorem vt_in (hu : X.A.units + 64 < cLine) (ha : VEx X W a ua va) (hb : VEx X W b ub vb) (hm : behindInMarks .In b = false := by rfl) : VTx X W (.Compare a [.In] [b] pos) (tTest (tOp (rInU X.K false) ua ub)) (vB (vOp (opIn false) va vb)) := vt_cmp (opR_in (by omega)) opV_inn hm ha hb
theorem vt_notin (hu : X.A.units + 64 < cLine) (ha : VEx X W a ua va) (hb : VEx X W b ub vb) (hm : behindInMarks .NotIn b = false := by rfl) : VTx X W (.Compare a [.NotIn] [b] pos) (tTest (tOp (rInU X.K true) ua ub)) (vB (vOp (opIn true) va vb)) := vt_cmp (opR_ni (by omega)) opV_inn hm ha hb

/-! ### and, or, not, if -/
def vAnd (t u : VTT) : VTT := fun x e Q => t x e fun c e1 => if c = true then u x e1 Q else Q false e1
def vOr (t u : VTT) : VTT := fun x e Q => t x e fun c e1 => if c = true then Q true e1 else u x e1 Q
def vNot (t : VTT) : VTT := fun x e Q => t x e fun c e1 => Q (!c) e1
theorem vw_and1 (h : VTx X W a wa ta) : VWx X W (.BoolOp .And [a] pos) wa ta := ⟨pw_and1 h.p, h.o⟩
theorem vw_or1 (h : VTx X W a wa ta) : VWx X W (.BoolOp .Or [a] pos) wa ta := ⟨pw_or1 h.p, h.o⟩
theorem vw_and {rest : List Expr} (h : VTx X W a wa ta) (h2 : VWx X W (.BoolOp .And (b :: rest) pos) wb tb) : VWx X W (.BoolOp .And (a :: b :: rest) pos) (tAnd wa wb) (vAnd ta tb) := by
  obtain ⟨p, o⟩ := h
  obtain ⟨p2, o2⟩ := h2
  refine ⟨pw_and p p2, fun G S σ H e F x Q R xo A hq k => ?_⟩
  refine o G S σ H e F x _ _ xo A hq fun b S1 H1 e1 F1 s1 A1 q1 => ?_
  cases b with
  | true =>
    show wb σ H1 R
    exact o2 G S1 σ H1 e1 F1 x Q R xo A1 q1 fun b S2 H2 e2 F2 s2 A2 q2 => k b S2 H2 e2 F2 (s1.trans s2) A2 q2
  | false => exact k false S1 H1 e1 F1 s1 A1 q1
theorem vw_or {rest : List Expr} (h : VTx X W a wa ta) (h2 : VWx X W (.BoolOp .Or (b :: rest) pos) wb tb) : VWx X W (.BoolOp .Or (a :: b :: rest) pos) (tOr wa wb) (vOr ta tb) := by
  obtain ⟨p, o⟩ := h
  obtain ⟨p2, o2⟩ := h2
  refine ⟨pw_or p p2, fun G S σ H e F x Q R xo A hq k => ?_⟩
  refine o G S σ H e F x _ _ xo A hq fun b S1 H1 e1 F1 s1 A1 q1 => ?_
  cases b with
  | false =>
    show wb σ H1 R
    exact o2 G S1 σ H1 e1 F1 x Q R xo A1 q1 fun b S2 H2 e2 F2 s2 A2 q2 => k b S2 H2 e2 F2 (s1.trans s2) A2 q2
  | true => exact k true S1 H1 e1 F1 s1 A1 q1
theorem vt_w (h : VWx X W a wa ta) : VTx X W a wa ta := ⟨h.p.pt, h.o⟩
theorem vt_not (h : VTx X W a wa ta) : VTx X W (.UnaryOp .Not a pos) (tNot wa) (vNot ta) := by
  obtain ⟨p, o⟩ := h
  exact ⟨pt_not p, fun G S σ H e F x Q R xo A hq k => o G S σ H e F x _ _ xo A hq fun b S1 H1 e1 F1 s1 A1 q1 => k (!b) S1 H1 e1 F1 s1 A1 q1⟩
/-- and, or of values, all but the last flags -/
def vAndV (t u : VTE) : VTE := fun x e Q => t x e fun r e1 => oB (cont e1 (fz r)) fun d => match d with
  | .bl c => if c = true then u x e1 Q else Q (.sh (.bl false)) e1
  | _ => False
def vOrV (t u : VTE) : VTE := fun x e Q => t x e fun r e1 => oB (cont e1 (fz r)) fun d => match d with
  | .bl c => if c = true then Q (.sh (.bl true)) e1 else u x e1 Q
  | _ => False
theorem ve_one {op : BoolOp} (h : VEx X W a ua va) : VEx X W (.BoolOp op [a] pos) ua va := ⟨pe_one h.p, h.o⟩
theorem ve_and {rest : List Expr} (h : VEx X W a ua va) (h2 : VEx X W (.BoolOp .And (b :: rest) pos) ub vb) : VEx X W (.BoolOp .And (a :: b :: rest) pos) (tAndV ua ub) (vAndV va vb) := by
  obtain ⟨p, o⟩ := h
  obtain ⟨p2, o2⟩ := h2
  refine ⟨pe_and p p2, fun G S σ H e F x Q R xo A hq k => ?_⟩
  refine o G S σ H e F x _ _ xo A hq fun r v S1 H1 e1 F1 s1 A1 q1 h1 => ?_
  obtain ⟨d, hd, h1⟩ := oB_some h1
  obtain ⟨S2, s2, A2, q2⟩ := A1.opd q1 (cont_fz hd)
  have t1 := A2.cont q2 hd
  cases d with
  | bl c =>
    cases t1.bl
    refine ⟨c, rfl, ?_⟩
    cases c with
    | true =>
      show ub σ H1 R
      exact o2 G S2 σ H1 e1 F1 x Q R xo A2 h1 fun r v S3 H3 e3 F3 s3 A3 q3 h3 => k r v S3 H3 e3 F3 ((s1.trans s2).trans s3) A3 q3 h3
    | false => exact k _ _ S2 H1 e1 F1 (s1.trans s2) A2 (.sh (.bl false)) h1
  | _ => exact h1.elim
theorem ve_or {rest : List Expr} (h : VEx X W a ua va) (h2 : VEx X W (.BoolOp .Or (b :: rest) pos) ub vb) : VEx X W (.BoolOp .Or (a :: b :: rest) pos) (tOrV ua ub) (vOrV va vb) := by
  obtain ⟨p, o⟩ := h
  obtain ⟨p2, o2⟩ := h2
  refine ⟨pe_or p p2, fun G S σ H e F x Q R xo A hq k => ?_⟩
  refine o G S σ H e F x _ _ xo A hq fun r v S1 H1 e1 F1 s1 A1 q1 h1 => ?_
  obtain ⟨d, hd, h1⟩ := oB_some h1
  obtain ⟨S2, s2, A2, q2⟩ := A1.opd q1 (cont_fz hd)
  have t1 := A2.cont q2 hd
  cases d with
  | bl c =>
    cases t1.bl
    refine ⟨c, rfl, ?_⟩
    cases c with
    | false =>
      show ub σ H1 R
      exact o2 G S2 σ H1 e1 F1 x Q R xo A2 h1 fun r v S3 H3 e3 F3 s3 A3 q3 h3 => k r v S3 H3 e3 F3 ((s1.trans s2).trans s3) A3 q3 h3
    | true => exact k _ _ S2 H1 e1 F1 (s1.trans s2) A2 (.sh (.bl true)) h1
  | _ => exact h1.elim
/-- not, of a test, as a value -/
def vNotV (t : VTE) : VTE := fun x e Q => t x e fun r e1 => oB (cont e1 (fz r)) fun d => match d with
  | .bl c => Q (.sh (.bl (!c))) e1
  | _ => False
theorem ve_not (h : VEx X W a ua va) : VEx X W (.UnaryOp .Not a pos) (tNotV ua) (vNotV va) := by
  obtain ⟨p, o⟩ := h
  refine ⟨pe_not p, fun G S σ H e F x Q R xo A hq k => ?_⟩
  refine o G S σ H e F x _ _ xo A hq fun r v S1 H1 e1 F1 s1 A1 q1 h1 => ?_
  obtain ⟨d, hd, h1⟩ := oB_some h1
  obtain ⟨S2, s2, A2, q2⟩ := A1.opd q1 (cont_fz hd)
  have t1 := A2.cont q2 hd
  cases d with
  | bl c =>
    cases t1.bl
    exact ⟨c, rfl, k _ _ S2 H1 e1 F1 (s1.trans s2) A2 (.sh (.bl (!c))) h1⟩
  | _ => exact h1.elim
def vIf (t : VTT) (u w : VTE) : VTE := fun x e Q => t x e fun c e1 => if c = true then u x e1 Q else w x e1 Q
theorem ve_if (h : VTx X W c wa ta) (ha : VEx X W a ua va) (hb : VEx X W b ub vb) : VEx X W (.IfExp c a b pos) (tIf wa ua ub) (vIf ta va vb) := by
  obtain ⟨p, o⟩ := h
  obtain ⟨p1, o1⟩ := ha
  obtain ⟨p2, o2⟩ := hb
  refine ⟨pe_ifExp p p1 p2, fun G S σ H e F x Q R xo A hq k => ?_⟩
  refine o G S σ H e F x _ _ xo A hq fun c S1 H1 e1 F1 s1 A1 q1 => ?_
  cases c with
  | true =>
    show ua σ H1 R
    exact o1 G S1 σ H1 e1 F1 x Q R xo A1 q1 fun r v S2 H2 e2 F2 s2 A2 q2 h2 => k r v S2 H2 e2 F2 (s1.trans s2) A2 q2 h2
  | false =>
    show ub σ H1 R
    exact o2 G S1 σ H1 e1 F1 x Q R xo A1 q1 fun r v S2 H2 e2 F2 s2 A2 q2 h2 => k r v S2 H2 e2 F2 (s1.trans s2) A2 q2 h2
/-- a < b < c -/
def vChain (o o' : VO2) (ta tb tc : VTE) : VTE := fun x e Q => ta x e fun r1 e1 => tb x e1 fun r2 e2 => oB (cont e2 (fz r1)) fun d1 => oB (cont e2 (fz r2)) fun d2 => o d1 d2 fun r => match r with
  | .sh (.bl c) => if c = true then tc x e2 fun r3 e3 => oB (cont e3 (fz r2)) fun d2 => oB (cont e3 (fz r3)) fun d3 => o' d2 d3 fun r => Q r e3 else Q (.sh (.bl false)) e2
  | _ => False
theorem okE_chain {r r' : R2} {o o' : VO2} {ta tb tc : TE} (hv : OpV K r o) (hv' : OpV K r' o') (ha : OkE K W ta va) (hb : OkE K W tb vb) (hc : OkE K W tc vc) : OkE K W (tChain r r' ta tb tc) (vChain o o' va vb vc) := by
  intro G S σ H e F x Q R xo A h k
  refine ha G S σ H e F x _ _ xo A h fun r1 v1 S1 H1 e1 F1 s1 A1 q1 h1 => ?_
  by_cases c1 : ∃ o, fz r1 = .own o
  · obtain ⟨o1, c1⟩ := c1
    refine hb G S1 σ H1 e1 F1 x _ _ xo A1 h1 fun r2 v2 S2 H2 e2 F2 s2 A2 q2 h2 => ?_
    obtain ⟨d, hd, _⟩ := oB_some h2
    exact absurd c1 (cont_fz hd o1)
  · obtain ⟨S1', s1', A1', q1'⟩ := A1.opd q1 fun o z => c1 ⟨o, z⟩
    refine hb G S1' σ H1 e1 F1 x _ _ xo A1' h1 fun r2 v2 S2 H2 e2 F2 s2 A2 q2 h2 => ?_
    obtain ⟨d1, hd1, h2⟩ := oB_some h2
    obtain ⟨d2, hd2, h2⟩ := oB_some h2
    obtain ⟨S2', s2', A2', q2'⟩ := A2.opd q2 (cont_fz hd2)
    have t1 := A2'.cont (q1'.mono (H' := H2) (F' := F2) (s2.trans s2')) hd1
    have t2 := A2'.cont q2' hd2
    refine hv G S2' σ H2 e2 F2 v1 v2 d1 d2 _ _ A2' t1 t2 h2 fun r v S3 H3 s3 A3 q3 h3 => ?_
    cases r with
    | sh d => cases d with
      | bl c =>
        cases q3 with
        | sh q3 =>
          cases q3
          refine ⟨c, rfl, ?_⟩
          cases c with
          | false => exact k _ _ S3 H3 e2 F2 (((s1.trans s1').trans (s2.trans s2')).trans s3) A3 (.sh (.bl false)) h3
          | true =>
            show tc σ H3 fun w' H4 => r' v2 w' H4 R
            refine hc G S3 σ H3 e2 F2 x _ _ xo A3 h3 fun r4 v4 S4 H4 e4 F4 s4 A4 q4 h4 => ?_
            obtain ⟨d3, hd3, h4⟩ := oB_some h4
            obtain ⟨d4, hd4, h4⟩ := oB_some h4
            obtain ⟨S4', s4', A4', q4'⟩ := A4.opd q4 (cont_fz hd4)
            have t3 := A4'.cont (q2'.mono (H' := H4) (F' := F4) (s3.trans (s4.trans s4'))) hd3
            have t4 := A4'.cont q4' hd4
            exact hv' G S4' σ H4 e4 F4 v2 v4 d3 d4 _ R A4' t3 t4 h4 fun r v S5 H5 s5 A5 q5 h5 => k r v S5 H5 e4 F4 (((((s1.trans s1').trans (s2.trans s2')).trans s3).trans (s4.trans s4')).trans s5) A5 q5 h5
      | _ => exact h3.elim
    | own o => exact h3.elim
    | bor i => exact h3.elim
    | fld q i f => exact h3.elim
theorem ve_chain {op op' : CmpOp} {r r' : R2} {o o' : VO2} (ho : OpR X (compareOp op) r) (hv : OpV X.K r o) (ho' : OpR X (compareOp op') r') (hv' : OpV X.K r' o') (ha : VEx X W a ua va) (hb : VEx X W b ub vb) (hc : VEx X W c uc vc) (hl : lastMarks [op, op'] [b, c] = false := by rfl) :
    VEx X W (.Compare a [op, op'] [b, c] pos) (tChain r r' ua ub uc) (vChain o o' va vb vc) := ⟨pe_chain ho ho' ha.p hb.p hc.p hl, okE_chain hv hv' ha.o hb.o hc.o⟩
theorem vt_chain {op op' : CmpOp} {r r' : R2} {o o' : VO2} (ho : OpR X (compareOp op) r) (hv : OpV X.K r o) (ho' : OpR X (compareOp op') r') (hv' : OpV X.K r' o') (ha : VEx X W a ua va) (hb : VEx X W b ub vb) (hc : VEx X W c uc vc) (hl : lastMarks [op, op'] [b, c] = false := by rfl) :
    VTx X W (.Compare a [op, op'] [b, c] pos) (tTest (tChain r r' ua ub uc)) (vB (vChain o o' va vb vc)) := ⟨pt_chain ho ho' ha.p hb.p hc.p hl, okT_test (okE_chain hv hv' ha.o hb.o hc.o)⟩

/-! ### arguments, displays -/
def vNil : VTA := fun _ e Q => Q [] e
def vCons (t : VTE) (u : VTA) : VTA := fun x e Q => t x e fun r e1 => match fz r with
  | .own _ => False
  | r => u x e1 fun rs e2 => Q (r :: rs) e2
theorem va_nil : VAx X W [] tNil vNil := ⟨pa_nil, fun G S σ H e F x Q R xo A h k => k _ _ S H e F (Same.refl S) A .nil h⟩
theorem ReAts.cons1 {G : Gd} {S H : Hp} {σ : L2.St} {F : Nat → List Addr} {r : Re} {v : V} {rs : List Re} {vs : List V} (h : ReAts K G S H σ F [r] [v]) (t : ReAts K G S H σ F rs vs) : ReAts K G S H σ F (r :: rs) (v :: vs) := by
  cases h with
  | sh h _ => exact .sh h t
  | bor h _ => exact .bor h t
  | fld _ => exact .fld t
theorem va_cons {es : List Expr} {us : TA} {vs : VTA} (h : VEx X W a ua va) (hr : VAx X W es us vs) (hs : starEach (a :: es) X.env = (false, eval a X.env) :: starEach es X.env := by rfl) : VAx X W (a :: es) (tCons ua us) (vCons va vs) := by
  obtain ⟨p, o⟩ := h
  obtain ⟨p2, o2⟩ := hr
  refine ⟨pa_cons p p2 hs, fun G S σ H e F x Q R xo A hq k => ?_⟩
  refine o G S σ H e F x _ _ xo A hq fun r v S1 H1 e1 F1 s1 A1 q1 h1 => ?_
  have hn : ∀ o, fz r ≠ .own o := fun o z => by
    rw [z] at h1
    exact h1.elim
  obtain ⟨S2, s2, A2, q2⟩ := A1.opd q1 hn
  have h1' : vs x e1 fun rs e2 => Q (fz r :: rs) e2 := by
    cases z : fz r with
    | own o => exact absurd z (hn o)
    | sh d => rw [z] at h1; exact h1
    | bor i => rw [z] at h1; exact h1
    | fld q i f => rw [z] at h1; exact h1
  refine o2 G S2 σ H1 e1 F1 x _ _ xo A2 h1' fun rs us S3 H3 e3 F3 s3 A3 q3 h3 => ?_
  exact k _ _ S3 H3 e3 F3 ((s1.trans s2).trans s3) A3 ((q2.mono s3).cons1 q3) h3
/-- the data of results -/
def conts (e : En) : List Re → Option (List D)
  | [] => some []
  | r :: rs => match cont e r, conts e rs with
    | some d, some ds => some (d :: ds)
    | _, _ => none
inductive RepTs (K : PySem.W.Frag) (S H : Hp) : List D → List V → Prop
  | nil : RepTs K S H [] []
  | cons {d : D} {v : V} {ds : List D} {vs : List V} (h : RepT K S H d v) (t : RepTs K S H ds vs) : RepTs K S H (d :: ds) (v :: vs)
theorem At.conts {G : Gd} {S H : Hp} {σ : L2.St} {e : En} {F : Nat → List Addr} (A : At K G S σ H e F) : ∀ {rs : List Re} {vs : List V} {ds : List D}, ReAts K G S H σ F rs vs → VL.conts e rs = some ds → RepTs K S H ds vs
  | _, _, _, .nil, h => by cases h; exact .nil
  | _, _, ds, .sh (d := d) (rs := rs) q t, h => by
    unfold VL.conts at h
    cases h1 : VL.cont e (.sh d) with
    | none => rw [h1] at h; cases h
    | some d' =>
      cases h2 : VL.conts e rs with
      | none => rw [h1, h2] at h; cases h
      | some ds' =>
        rw [h1, h2] at h
        cases h
        exact .cons (A.cont (.sh q .nil) h1) (At.conts A t h2)
  | _, _, ds, .bor (i := i) (rs := rs) q t, h => by
    unfold VL.conts at h
    cases h1 : VL.cont e (.bor i) with
    | none => rw [h1] at h; cases h
    | some d' =>
      cases h2 : VL.conts e rs with
      | none => rw [h1, h2] at h; cases h
      | some ds' =>
        rw [h1, h2] at h
        cases h
        exact .cons (A.cont (.bor q .nil) h1) (At.conts A t h2)
  | _, _, ds, .fld (q := q) (i := i) (f := f) (rs := rs) t, h => by
    unfold VL.conts at h
    cases h1 : VL.cont e (.fld q i f) with
    | none => rw [h1] at h; cases h
    | some d' =>
      cases h2 : VL.conts e rs with
      | none => rw [h1, h2] at h; cases h
      | some ds' =>
        rw [h1, h2] at h
        cases h
        exact .cons (A.cont (.fld .nil) h1) (At.conts A t h2)
/-- shared ones alone -/
def shs : List Re → Option (List D)
  | [] => some []
  | .sh d :: rs => (shs rs).map (d :: ·)
  | _ :: _ => none
theorem shs_rep {G : Gd} {S H : Hp} {σ : L2.St} {F : Nat → List Addr} : ∀ {rs : List Re} {vs : List V} {ds : List D}, ReAts K G S H σ F rs vs → shs rs = some ds → Reps K S ds vs
  | _, _, _, .nil, h => by cases h; exact .nil
  | _, _, ds, .sh (d := d) (rs := rs) q t, h => by
    unfold shs at h
    cases h2 : shs rs with
    | none => rw [h2] at h; cases h
    | some ds' =>
      rw [h2] at h
      cases h
      exact .cons q (shs_rep t h2)
  | _, _, _, .bor _ _, h => by cases h
  | _, _, _, .fld _, h => by cases h
def vTup (t : VTA) : VTE := fun x e Q => t x e fun rs e1 => oB (shs rs) fun ds => ds.length ≤ sizeLine ∧ Q (.sh (.tup ds)) e1
def vLst (t : VTA) : VTE := fun x e Q => t x e fun rs e1 => oB (shs rs) fun ds => ds.length ≤ sizeLine ∧ Q (.own (.lst ds)) e1
theorem ve_tup {es : List Expr} {us : TA} {vs : VTA} {x1} (h : VAx X W es us vs) : VEx X W (.Tuple es x1 pos) (tTup us) (vTup vs) := by
  obtain ⟨p, o⟩ := h
  refine ⟨pe_tup p, fun G S σ H e F x Q R xo A hq k => ?_⟩
  refine o G S σ H e F x _ _ xo A hq fun rs vs S1 H1 e1 F1 s1 A1 q1 h1 => ?_
  obtain ⟨ds, hd, hz, h1⟩ := oB_some h1
  have r := shs_rep q1 hd
  refine ⟨by rw [← r.length]; exact hz, fun p hp => ?_⟩
  obtain ⟨A2, s2, r2⟩ := A1.newT hp r
  exact k _ _ _ _ e1 F1 (s1.trans s2) A2 (.sh r2) h1
theorem ve_lst {es : List Expr} {us : TA} {vs : VTA} (h : VAx X W es us vs) : VEx X W (.List es pos) (tLst us) (vLst vs) := by
  obtain ⟨p, o⟩ := h
  refine ⟨pe_lst p, fun G S σ H e F x Q R xo A hq k => ?_⟩
  refine o G S σ H e F x _ _ xo A hq fun rs vs S1 H1 e1 F1 s1 A1 q1 h1 => ?_
  obtain ⟨ds, hd, hz, h1⟩ := oB_some h1
  have r := shs_rep q1 hd
  refine ⟨by rw [← r.length]; exact hz, fun p hp => ?_⟩
  obtain ⟨A2, r2⟩ := A1.newL hp r
  exact k _ _ S1 _ e1 F1 s1 A2 r2 h1
/-- {} -/
def vDic0 : VTE := fun _ e Q => Q (.own (.dic [])) e
theorem ve_dic0 : VEx X W (.Dict [] [] pos) tDNewK vDic0 := ⟨pe_dnewK, fun G S σ H e F x Q R xo A hq k => fun p hp => by
  obtain ⟨A2, r2⟩ := A.newK (kvs := []) hp .nil
  exact k _ _ S _ e F (Same.refl S) A2 r2 hq⟩

/-! ### calls of built-ins -/
abbrev VOA := List D → (Re → Prop) → Prop
def CallV (K : PySem.W.Frag) (r : List V → Hp → VK → Prop) (o : VOA) : Prop := ∀ G S σ H e F xs ds (P : Re → Prop) (R : VK), At K G S σ H e F → RepTs K S H ds xs → o ds P →
  (∀ r v S' H', Same S S' → At K G S' σ H' e F → ReAt K G S' H' σ F r v → P r → R v H') → r xs H R
def vCallB (o : VOA) (t : VTA) : VTE := fun x e Q => t x e fun rs e1 => oB (conts e1 rs) fun ds => o ds fun r => Q r e1
theorem okE_callB {r : List V → Hp → VK → Prop} {o : VOA} {t : TA} {vt : VTA} (hv : CallV K r o) (h : OkA K W t vt) : OkE K W (tCB r t) (vCallB o vt) := by
  intro G S σ H e F x Q R xo A hq k
  refine h G S σ H e F x _ _ xo A hq fun rs vs S1 H1 e1 F1 s1 A1 q1 h1 => ?_
  obtain ⟨ds, hd, h1⟩ := oB_some h1
  exact hv G S1 σ H1 e1 F1 vs ds _ R A1 (A1.conts q1 hd) h1 fun r v S2 H2 s2 A2 q2 h2 => k r v S2 H2 e1 F1 (s1.trans s2) A2 q2 h2
theorem ve_callB {x : Str} {id : String} {p : Pos} {es : List Expr} {r : List V → Hp → VK → Prop} {o : VOA} {ut : TA} {vt : VTA} (hc : CallR X (.builtin id) r) (hv : CallV X.K r o) (hm : X.mg x = none) (h : VAx X W (a :: es) ut vt) (hg : Gl X x := by rfl)
    (hb : bootBuiltins x = some (.builtin id) := by first | rfl | decide +kernel) (hn : x ≠ "__name__" := by decide) (hdb : (x == ("__debug__" : Str)) = false := by decide)
    (he : starEach (a :: es) X.env = (false, eval a X.env) :: starEach es X.env := by rfl) (hpl : (backTo pos (starEach es X.env)).any (·.1) = false := by rfl) : VEx X W (.Call (.Name x p) (a :: es) [] pos) (tCB r ut) (vCallB o vt) := ⟨pe_callB hc hg hm hb h.p hn hdb he hpl, okE_callB hv h.o⟩
theorem ve_callTy {x : Str} {T : String} {p : Pos} {es : List Expr} {r : List V → Hp → VK → Prop} {o : VOA} {ut : TA} {vt : VTA} (hc : CallR X (.type T) r) (hv : CallV X.K r o) (hm : X.mg x = none) (h : VAx X W (a :: es) ut vt) (hg : Gl X x := by rfl)
    (hb : bootBuiltins x = some (.type T) := by first | rfl | decide +kernel) (hn : x ≠ "__name__" := by decide) (hdb : (x == ("__debug__" : Str)) = false := by decide)
    (he : starEach (a :: es) X.env = (false, eval a X.env) :: starEach es X.env := by rfl) (hpl : (backTo pos (starEach es X.env)).any (·.1) = false := by rfl) : VEx X W (.Call (.Name x p) (a :: es) [] pos) (tCB r ut) (vCallB o vt) := ⟨pe_callTy hc hg hm hb h.p hn hdb he hpl, okE_callB hv h.o⟩
end
/-- len -/
def oLen : VOA := fun ds P => match ds with
  | [.str z] => P (.sh (.int z.length))
  | [.tup xs] => P (.sh (.int xs.length))
  | [.lst xs] => P (.sh (.int xs.length))
  | [.scr xs] => P (.sh (.int xs.length))
  | [.dic xs] => P (.sh (.int xs.length))
  | _ => False
def rLenU (K : PySem.W.Frag) : List V → Hp → VK → Prop := fun xs H Q => (∃ x n, xs = [x] ∧ LenV K x H n ∧ Q (.int n) H) ∨ ∃ a kvs, xs = [.ref a] ∧ Rd H a (.dK kvs) ∧ Q (.int kvs.length) H
theorem callR_lenD {X : Cx} : CallR X (.builtin "len") (fun xs H Q => ∃ a kvs, xs = [.ref a] ∧ Rd H a (.dK kvs) ∧ Q (.int kvs.length) H) := by
  intro pins s σ H xs us Q I r h
  obtain ⟨a, kvs, rfl, e, q⟩ := h
  obtain ⟨u, rfl, ru⟩ := vals1 r
  cases ru
  exact d_len I e fun t s' I' => ⟨.int _, H, I', ⟨t, rfl⟩, q⟩
theorem callR_len {X : Cx} : CallR X (.builtin "len") (rLenU X.K) := call_len.or callR_lenD
theorem RepTs.one {S H : Hp} {d : D} {vs : List V} (h : RepTs K S H [d] vs) : ∃ v, vs = [v] ∧ RepT K S H d v := by
  cases h with
  | cons r t => cases t with
    | nil => exact ⟨_, rfl, r⟩
theorem RepTs.two {S H : Hp} {d d' : D} {vs : List V} (h : RepTs K S H [d, d'] vs) : ∃ v v', vs = [v, v'] ∧ RepT K S H d v ∧ RepT K S H d' v' := by
  cases h with
  | cons r t => cases t with
    | cons r2 t => cases t with
      | nil => exact ⟨_, _, rfl, r, r2⟩
theorem callV_len : CallV K (rLenU K) oLen := by
  intro G S σ H e F xs ds P R A rs h k
  unfold oLen at h
  split at h
  · obtain ⟨v, rfl, r⟩ := rs.one
    obtain ⟨rfl, s⟩ := r.str
    exact .inl ⟨_, _, rfl, ⟨s.2, rfl⟩, flatRes A (.int _) h k⟩
  · obtain ⟨v, rfl, r⟩ := rs.one
    obtain ⟨p, vs, rfl, hp, rp⟩ := r.tup A.sh
    refine .inl ⟨_, vs.length, rfl, .inr ⟨vs, hp, rfl⟩, ?_⟩
    rw [← rp.length]
    exact flatRes A (.int _) h k
  · obtain ⟨v, rfl, r⟩ := rs.one
    obtain ⟨p, vs, rfl, hp, rp⟩ := r.list A.sh
    refine .inl ⟨_, vs.length, rfl, .inl ⟨vs, SqL.of hp, rfl⟩, ?_⟩
    rw [← rp.length]
    exact flatRes A (.int _) h k
  · rename_i xs
    obtain ⟨v, rfl, r⟩ := rs.one
    obtain ⟨p, rfl, hp⟩ := r.scr A.sh
    exact .inl ⟨_, xs.length, rfl, .inl ⟨_, hp, by simp⟩, flatRes A (.int _) h k⟩
  · obtain ⟨v, rfl, r⟩ := rs.one
    obtain ⟨p, ws, rfl, hp, rp⟩ := r.dict A.sh
    refine .inr ⟨p, ws, rfl, hp, ?_⟩
    rw [← rp.length]
    exact flatRes A (.int _) h k
  · exact h.elim
/-- int of an int, a flag; abs; max, min of two -/
def oInt : VOA := fun ds P => match ds with
  | [.int i] => P (.sh (.int i))
  | [.bl b] => P (.sh (.int (if b then 1 else 0)))
  | _ => False
theorem callV_int : CallV K (fun xs H Q => (∃ i, xs = [.int i] ∧ Q (.int i) H) ∨ ∃ k, xs = [.bl k] ∧ Q (.int (if k then 1 else 0)) H) oInt := by
  intro G S σ H e F xs ds P R A rs h k
  unfold oInt at h
  split at h
  · obtain ⟨v, rfl, r⟩ := rs.one
    cases r.int
    exact .inl ⟨_, rfl, flatRes A (.int _) h k⟩
  · obtain ⟨v, rfl, r⟩ := rs.one
    cases r.bl
    exact .inr ⟨_, rfl, flatRes A (.int _) h k⟩
  · exact h.elim
def oAbs : VOA := fun ds P => match ds with
  | [.int i] => P (.sh (.int (if i < 0 then -i else i)))
  | _ => False
theorem callV_abs : CallV K (fun xs H Q => ∃ i, xs = [.int i] ∧ Q (.int (if i < 0 then -i else i)) H) oAbs := by
  intro G S σ H e F xs ds P R A rs h k
  unfold oAbs at h
  split at h
  · obtain ⟨v, rfl, r⟩ := rs.one
    cases r.int
    exact ⟨_, rfl, flatRes A (.int _) h k⟩
  · exact h.elim
def oBin (g : Int → Int → Int) : VOA := fun ds P => match ds with
  | [.int i, .int j] => P (.sh (.int (g i j)))
  | _ => False
theorem callV_bin {g : Int → Int → Int} : CallV K (fun xs H Q => ∃ i j, xs = [.int i, .int j] ∧ Q (.int (g i j)) H) (oBin g) := by
  intro G S σ H e F xs ds P R A rs h k
  unfold oBin at h
  split at h
  · cases rs with
    | cons r t => cases t with
      | cons r2 t => cases t with
        | nil =>
          cases r.int; cases r2.int
          exact ⟨_, _, rfl, flatRes A (.int _) h k⟩
  · exact h.elim
abbrev oMax : VOA := oBin fun i j => if j > i then j else i
abbrev oMin : VOA := oBin fun i j => if j < i then j else i
/-- sum of a list of intsD -/
def intsD : List D → Option (List Int)
  | [] => some []
  | .int i :: ds => (intsD ds).map (i :: ·)
  | _ :: _ => none
theorem intsD_rep {S : Hp} : ∀ {ds : List D} {vs : List V} {ns : List Int}, Reps K S ds vs → intsD ds = some ns → vs = ns.map V.int
  | _, _, _, .nil, h => by cases h; rfl
  | _, _, ns, .cons (ds := ds) q t, h => by
    cases q with
    | int i =>
      unfold intsD at h
      cases h2 : intsD ds with
      | none => rw [h2] at h; cases h
      | some ms =>
        rw [h2] at h
        cases h
        rw [List.map_cons, intsD_rep t h2]
    | _ => cases h
def oSum : VOA := fun ds P => match ds with
  | [.lst xs] => oB (intsD xs) fun ns => P (.sh (.int ns.sum))
  | _ => False
theorem callV_sum : CallV K (rSum K) oSum := by
  intro G S σ H e F xs ds P R A rs h k
  unfold oSum at h
  split at h
  · cases rs with
    | cons r t => cases t with
      | nil =>
        obtain ⟨ns, hn, h⟩ := oB_some h
        obtain ⟨p, vs, rfl, hp, rp⟩ := r.list A.sh
        have e := intsD_rep rp hn
        subst e
        exact ⟨p, ns, rfl, SqL.of hp, flatRes A (.int _) h k⟩
  · exact h.elim
/-- all, any of a list of flags -/
def blsD : List D → Option (List Bool)
  | [] => some []
  | .bl i :: ds => (blsD ds).map (i :: ·)
  | _ :: _ => none
theorem blsD_rep {S : Hp} : ∀ {ds : List D} {vs : List V} {ns : List Bool}, Reps K S ds vs → blsD ds = some ns → vs = ns.map V.bl
  | _, _, _, .nil, h => by cases h; rfl
  | _, _, ns, .cons (ds := ds) q t, h => by
    cases q with
    | bl i =>
      unfold blsD at h
      cases h2 : blsD ds with
      | none => rw [h2] at h; cases h
      | some ms =>
        rw [h2] at h
        cases h
        rw [List.map_cons, blsD_rep t h2]
    | _ => cases h
def oAll : VOA := fun ds P => match ds with
  | [.lst xs] => oB (blsD xs) fun ns => P (.sh (.bl (ns.all id)))
  | _ => False
def oAny : VOA := fun ds P => match ds with
  | [.lst xs] => oB (blsD xs) fun ns => P (.sh (.bl (ns.any id)))
  | _ => False
theorem callV_all : CallV K (rAll K) oAll := by
  intro G S σ H e F xs ds P R A rs h k
  unfold oAll at h
  split at h
  · cases rs with
    | cons r t => cases t with
      | nil =>
        obtain ⟨ns, hn, h⟩ := oB_some h
        obtain ⟨p, vs, rfl, hp, rp⟩ := r.list A.sh
        have e := blsD_rep rp hn
        subst e
        exact ⟨p, ns, rfl, SqL.of hp, flatRes A (.bl _) h k⟩
  · exact h.elim
theorem callV_any : CallV K (rAny K) oAny := by
  intro G S σ H e F xs ds P R A rs h k
  unfold oAny at h
  split at h
  · cases rs with
    | cons r t => cases t with
      | nil =>
        obtain ⟨ns, hn, h⟩ := oB_some h
        obtain ⟨p, vs, rfl, hp, rp⟩ := r.list A.sh
        have e := blsD_rep rp hn
        subst e
        exact ⟨p, ns, rfl, SqL.of hp, flatRes A (.bl _) h k⟩
  · exact h.elim
/-- tuple(xs), list(xs) -/
def oTup : VOA := fun ds P => match ds with
  | [.lst xs] => P (.sh (.tup xs))
  | [.tup xs] => P (.sh (.tup xs))
  | _ => False
def rTupU (K : PySem.W.Frag) : List V → Hp → VK → Prop := fun xs H Q => ∃ p ys, xs = [.ref p] ∧ ((SqL K H p ys ∧ ∀ l, H l = none → Q (.ref l) (upd H l (.tup ys))) ∨ (SqT K H p ys ∧ Q (.ref p) H))
theorem callV_tup : CallV K (rTupU K) oTup := by
  intro G S σ H e F xs ds P R A rs h k
  unfold oTup at h
  split at h
  · cases rs with
    | cons r t => cases t with
      | nil =>
        obtain ⟨p, vs, rfl, hp, rp⟩ := r.list A.sh
        refine ⟨p, vs, rfl, .inl ⟨SqL.of hp, fun l hl => ?_⟩⟩
        obtain ⟨A2, s2, r2⟩ := A.newT hl rp
        exact k _ _ _ _ s2 A2 (.sh r2) h
  · cases rs with
    | cons r t => cases t with
      | nil =>
        have r0 := r
        obtain ⟨p, vs, rfl, hp, rp⟩ := r.tup A.sh
        refine ⟨p, vs, rfl, .inr ⟨hp, ?_⟩⟩
        cases r0 with
        | of r0 => exact flatRes A r0 h k
  · exact h.elim
def oList : VOA := fun ds P => match ds with
  | [.lst xs] => P (.own (.lst xs))
  | [.tup xs] => P (.own (.lst xs))
  | _ => False
theorem callV_list : CallV K (fun xs H Q => ∃ p ys, xs = [.ref p] ∧ (SqL K H p ys ∨ SqT K H p ys) ∧ ∀ l, H l = none → Q (.ref l) (upd H l (.lst ys))) oList := by
  intro G S σ H e F xs ds P R A rs h k
  unfold oList at h
  split at h
  · cases rs with
    | cons r t => cases t with
      | nil =>
        obtain ⟨p, vs, rfl, hp, rp⟩ := r.list A.sh
        refine ⟨p, vs, rfl, .inl (SqL.of hp), fun l hl => ?_⟩
        obtain ⟨A2, r2⟩ := A.newL hl rp
        exact k _ _ S _ (Same.refl S) A2 r2 h
  · cases rs with
    | cons r t => cases t with
      | nil =>
        obtain ⟨p, vs, rfl, hp, rp⟩ := r.tup A.sh
        refine ⟨p, vs, rfl, .inr hp, fun l hl => ?_⟩
        obtain ⟨A2, r2⟩ := A.newL hl rp
        exact k _ _ S _ (Same.refl S) A2 r2 h
  · exact h.elim
section
variable {X : Cx} {W : WX} {pos p : Pos} {a b : Expr} {va vb : VTE}
end
end VL

end

section
set_option Elab.async false
set_option linter.all false
set_option maxRecDepth 100000
set_option maxHeartbeats 4000000
/-! enumerate over a tuple. -/
namespace PySem
open Sem (wp)
theorem meets_enum_newB1 {v : Value} {o : Obj} {H : Heap → Prop} (B : Begins v o H) :
    Meets (Builtin.«enumerate.__new__» ⟨[.type "enumerate", v], []⟩) (fun _ R s => H s.heap ∧
      R (.ok (.ret (.ref (s.heap.push o).objs.size))) { s with heap := (s.heap.push o).push { cls := .type "enumerate", data := .fields #[.none, .bool false, .ref s.heap.objs.size, rawInt 0, .none, .none] } }) :=
  .of_wp fun prog w A R s h => by
    obtain ⟨hp, g, d, tk, os⟩ := s; obtain ⟨h1, h⟩ := h
    have hsub := sub_enumerate
    have q1 : ∀ {A' : Around} {E : Value → Shared → Prop} {Q : Value → Shared → Prop}, Q (.ref hp.objs.size) ⟨hp.push o, g, d, tk, os⟩ → wpAny (model prog w) A' (pyIter v) Q E ⟨hp, g, d, tk, os⟩ :=
      fun q => B.iter prog w _ _ ⟨hp, g, d, tk, os⟩ _ h1 q
    wp_walk using q1
    refine wpAny_stack_any fun st => wpAny_pure ?_
    split
    · rename_i c _ _ _ _ _
      cases (c == Value.type "enumerate")
      · wp_walk using q1
        exact ⟨_, rfl, h⟩
      · wp_walk using q1
        exact ⟨_, rfl, h⟩
    · wp_walk using q1
      exact ⟨_, rfl, h⟩
section
variable {prog : Program} {w : World} {A : Around} {E : Value → Shared → Prop} {s : Shared}
theorem enum_begins1 {v : Value} {o : Obj} {H : Heap → Prop} {Q : Value → Shared → Prop} (B : Begins v o H) (h1 : H s.heap)
    (h : ∀ h', IsEnum h' (s.heap.objs.size + 1) s.heap.objs.size 0 .none → h'.get? s.heap.objs.size = some o → h'.objs.size = s.heap.objs.size + 2 →
      (∀ b o, s.heap.get? b = some o → h'.get? b = some o) → Q (.ref (s.heap.objs.size + 1)) { s with heap := h' }) :
    wpAny (model prog w) A (call (.type "enumerate") [v]) Q E s := by
  refine callType_new F.called_enumerate (by decide) (F.typeCall_enumerate_1 _) (F.newCall_enumerate_1 _) (fun obj => F.args_object_init_2 obj _) F.entry_enumerate_new
    (meets_enum_newB1 B) ⟨h1, ?_⟩
  have hz : (s.heap.push o).objs.size = s.heap.objs.size + 1 := Heap.size_push ..
  show _ ∧ _
  rw [hz]
  have he : IsEnum ((s.heap.push o).push { cls := .type "enumerate", data := .fields #[.none, .bool false, .ref s.heap.objs.size, rawInt 0, .none, .none] }) (s.heap.objs.size + 1) s.heap.objs.size 0 .none := by
    have := Heap.get?_push_size (s.heap.push o) (o := { cls := .type "enumerate", data := .fields #[.none, .bool false, .ref s.heap.objs.size, rawInt 0, .none, .none] }) rfl
    rw [hz] at this; exact this
  refine ⟨⟨_, he, rfl⟩, h _ he (Heap.get?_push_of_some _ (Heap.get?_push_size _ B.free)) (by rw [Heap.size_push, hz]) fun b o x => Heap.get?_push_of_some _ (Heap.get?_push_of_some _ x)⟩
end
end PySem
namespace VL
open PySem PySem.Spec PyProof.Rows L2
/-- the tuple at a, its items in new pairs with their numbers -/
def IteT (K : PySem.W.Frag) (a : Addr) : It :=
  ⟨fun i H => ∃ (xs : List V) (x : V), SqT K H a xs ∧ xs[i]? = some x, fun i H v H' => ∃ T x, v = .ref T ∧ H T = none ∧ H' = upd H T (.tup [.int (i : Nat), x]) ∧ ∀ xs, SqT K H a xs → xs[i]? = some x, fun i H => ∃ xs : List V, SqT K H a xs ∧ xs.length ≤ i⟩
theorem turn_enumT {P : Program} {w : World} {K : PySem.W.Frag} {elts : List Expr} {kk : Nat} {tpos : Pos} (a e it : Addr) :
    Turn P w K (.Tuple elts kk tpos) (IteT K a) [e, it] e (fun i h => (∃ old, IsEnum h e it ((i : Nat) : Int) old) ∧ h.IsTupleIter it a i ∧ e ≠ it) where
  mem := by simp
  obj := fun i h st b hb => by
    obtain ⟨⟨old, he⟩, ⟨o, ho, hc, hd⟩, _⟩ := st
    have e' : b = e ∨ b = it := by simpa using hb
    rcases e' with z | z
    · rw [z]; exact ⟨_, he, fun v q => nomatch q⟩
    · rw [z]; exact ⟨o, ho, fun v q => by rw [hd] at q; cases q⟩
  keep := fun i h h' st k => let ⟨⟨old, he⟩, hi, hne⟩ := st; ⟨⟨old, k e (by simp) _ he⟩, hi.at fun o q => k it (by simp) o q, hne⟩
  item := by
    intro X hP hw hK hc i pins s σ H E I hf st hg
    subst hP hw hK
    obtain ⟨⟨old, he⟩, hit, hne⟩ := st
    obtain ⟨xs, x, hq, hx⟩ := hg
    obtain ⟨its, rv, p, hz⟩ := I.tuple hq
    obtain ⟨u, hu, ru⟩ := rv.get hx
    have hel : e < s.heap.objs.size := Heap.lt_size he
    have hil : it < s.heap.objs.size := by obtain ⟨_, q, _⟩ := hit; exact Heap.lt_size q
    have pt : s.heap.IsTuple a its.toArray := p
    have ha1 : a ≠ it := fun z => by
      obtain ⟨o, ho, hc, _⟩ := pt
      obtain ⟨o2, ho2, hc2, _⟩ := hit
      rw [z, ho2] at ho; cases ho
      rw [hc2] at hc
      exact absurd hc (by decide)
    have ha2 : e ≠ a := fun z => by
      obtain ⟨o, ho, hc, _⟩ := pt
      rw [← z, he] at ho
      have ho := Option.some.inj ho
      rw [← ho] at hc
      exact absurd (show Value.type "enumerate" = Value.type "tuple" from hc) (by decide)
    have hlt : i < its.toArray.size := by
      have := (List.getElem?_eq_some_iff.mp hu).1
      simpa using this
    refine wpAny_pyNext_enum_itemD (Draws.tuple (A := X.A.in1) (show X.A.in1.handled = none from I.ok.hd hc) it a ha1 its.toArray) he ⟨hit, pt⟩ hlt hne (by simp; exact ⟨hne, ha2⟩) fun x' h' tk hP ho hs' hT hsz hk => ?_
    obtain ⟨hit', _⟩ := hs'
    have ex : x' = u := by
      have hP : its.toArray[i]? = some x' := hP
      rw [List.getElem?_toArray, hu] at hP
      exact (Option.some.inj hP).symm
    subst ex
    refine ⟨_, rfl, wpAny_letOwnedTupleGo_enum (s := { s with heap := h', toks := tk + 1 }) ho fun h'' he' sb => ?_⟩
    have hT2 : h''.get? s.heap.objs.size = some { cls := .type "tuple", data := .seq #[.int i tk, x'] } := (sb.2 _ (Nat.ne_of_gt hel)).trans hT
    have new : ObjOk X.prog X.w (upd H s.heap.objs.size (.tup [.int (i : Nat), x])) h'' s.heap.objs.size (.tup [.int (i : Nat), x]) :=
      ⟨by show 2 ≤ sizeLine; decide, [.int i tk, x'], .cons ⟨_, rfl⟩ (.cons ru .nil), ⟨_, hT2, rfl, _, rfl⟩⟩
    have I1 : Inv X pins σ (upd H s.heap.objs.size (.tup [.int (i : Nat), x])) { s with heap := h'', toks := tk + 1 } :=
      I.turnedNew (ch := [e, it]) (fun b ob hb q => (sb.2 b (fun z => hb (by simp [z]))).trans (hk b ob (fun z => hb (by simp [z])) (fun z => hb (by simp [z])) q)) hf (Nat.le_refl _) new
    refine ⟨.ref s.heap.objs.size, _, I1, rfl, ⟨_, x, rfl, I.hok.fresh (Nat.le_refl _), rfl, fun ys hy => by rw [I.tuple_inj hy hq]; exact hx⟩, ⟨⟨x', ?_⟩, hit'.at fun o q => (sb.2 it (Ne.symm hne)).trans q, hne⟩, fun b hb => ?_⟩
    · have e1 : ((i + 1 : Nat) : Int) = (i : Int) + 1 := by omega
      rw [e1]; exact he'
    · have hb' : b < s.heap.objs.size := by
        have e' : b = e ∨ b = it := by simpa using hb
        rcases e' with z | z
        · rw [z]; exact hel
        · rw [z]; exact hil
      rw [upd_ne (Nat.ne_of_lt hb')]
      exact (hf b hb).1
  done := by
    intro X hP hw hK hc i pins s σ H E I hf st hg
    subst hP hw hK
    obtain ⟨⟨old, he⟩, hit, hne⟩ := st
    obtain ⟨xs, hq, hx⟩ := hg
    obtain ⟨its, rv, p, hz⟩ := I.tuple hq
    obtain ⟨f0, f1, f2, f3, f4, f5⟩ := hf it (by simp)
    have hl := rv.length
    have pt : s.heap.IsTuple a its.toArray := p
    have hgo : ∀ h', Heap.ExtBut it s.heap h' → (none : Option Value) = none ∧ Inv X pins σ H { s with heap := h' } := fun h' eb => ⟨rfl, I.turned (t' := s.toks) (fun b o hb q => eb b o hb q) f0 f1 f3 f4 f5⟩
    have hT : s.TypeIs (.ref e) "enumerate" := ⟨_, he, rfl⟩
    unfold pyNext
    refine wpAny_bind (wpAny_attempt (wpAny_callSpecial?_slot (name := Str.ofString "__next__") hT F.slot_enumerate_next
      (wpAny_call_entry F.slot_enumerate_next hT F.entry_enumerate_next ?_ (F.args_enumerate_next_1 _))))
    show wpAny _ _ (field (.ref e) 2 >>= _) _ _ _
    refine wpAny_bind (wpAny_field he rfl (x := .ref it) rfl ?_)
    refine wpAny_bind (wpAny_nextOf_tuple_end (I.ok.hd hc) hit pt (by simp; omega) fun h' x he' hx' => ?_)
    obtain ⟨o, ho, hc⟩ := hx'
    refine wpAny_bind (wpAny_isInstance (T := "StopIteration") (b := true) ⟨o, ho, hc⟩ isSubtype_stop ?_)
    exact wpAny_pure (hgo _ he')
  self := fun A i s Q E st h => let ⟨⟨_, he⟩, _⟩ := st; wpAny_pyIter_enum he h
def iEnumU (K : PySem.W.Frag) (ta : TA) : TI := fun σ H R => ta σ H fun vs H1 => ∃ a xs, vs = [.ref a] ∧ ((SqL K H1 a xs ∧ R (Ite K a) H1) ∨ (SqT K H1 a xs ∧ R (IteT K a) H1))
theorem pi_enumU {X : Cx} {e : Expr} {ta : TA} {p pos tpos : Pos} {elts : List Expr} {kk : Nat} (hg : Gl X "enumerate") (hm : X.mg "enumerate" = none) (ha : PA X [e] ta) (hs : starEach [e] X.env = [(false, eval e X.env)] := by rfl) :
    PI X (.Tuple elts kk tpos) (.Call (.Name "enumerate" p) [e] [] pos) (iEnumU X.K ta) := by
  refine ⟨fun pins s σ H R I h => ?_⟩
  refine Call_ (ld_blt I hg hm boot_enumerate (PyProof.Rows.callWith_type1 (thn (ha.run pos pins s σ H _ I h) fun us s1 ⟨vs, H1, I1, r1, q1⟩ => ?_) hs rfl))
  obtain ⟨a, xs, ex, q⟩ := q1
  subst ex
  cases r1 with
  | cons r rr =>
    cases rr
    cases r
    have fp : ∀ b ∈ [s1.heap.objs.size + 1, s1.heap.objs.size], FpOk X pins H1 b := fun b hb => by
      have e' : b = s1.heap.objs.size + 1 ∨ b = s1.heap.objs.size := by simpa using hb
      have hle : s1.heap.objs.size ≤ b := by
        rcases e' with z | z
        · rw [z]; exact Nat.le_add_right _ _
        · rw [z]; exact Nat.le_refl _
      exact I1.fpOk hle (I1.hok.fresh hle)
    rcases q with ⟨hq, q⟩ | ⟨hq, q⟩
    · obtain ⟨its, rv, p', hz⟩ := I1.list hq
      refine call_enumerate_list p'.isList fun h' he hit hsz hk => wpAny_pyIter_enum he ?_
      have I2 : Inv X pins σ H1 { s1 with heap := h' } := I1.kept (t' := s1.toks) hk
      exact ⟨s1.heap.objs.size + 1, [s1.heap.objs.size + 1, s1.heap.objs.size], _, _, H1, rfl, I2, turn_enum a (s1.heap.objs.size + 1) s1.heap.objs.size, ⟨⟨.none, he⟩, hit, Nat.succ_ne_self _⟩, fp, q⟩
    · obtain ⟨its, rv, p', hz⟩ := I1.tuple hq
      refine enum_begins1 (begins_tuple a its.toArray) (show s1.heap.IsTuple a its.toArray from p') fun h' he hit hsz hk => wpAny_pyIter_enum he ?_
      have I2 : Inv X pins σ H1 { s1 with heap := h' } := I1.kept (t' := s1.toks) hk
      exact ⟨s1.heap.objs.size + 1, [s1.heap.objs.size + 1, s1.heap.objs.size], _, _, H1, rfl, I2, turn_enumT a (s1.heap.objs.size + 1) s1.heap.objs.size, ⟨⟨.none, he⟩, ⟨_, hit, rfl, rfl⟩, Nat.succ_ne_self _⟩, fp, q⟩
end VL

end

section
set_option Elab.async false
set_option linter.all false
set_option maxRecDepth 100000
set_option maxHeartbeats 4000000
namespace VL
open PySem PySem.Spec PyProof.Rows L2
variable {K : PySem.W.Frag}

/-! ### subscripts -/
theorem RepsAtI {S : Hp} {ds : List D} {vs : List V} (r : Reps K S ds vs) {i : Int} {d : D} (h : atI ds i = some d) : ∃ v, atI vs i = some v ∧ Rep K S d v := by
  unfold atI at h ⊢
  rw [← r.length]
  cases q : ixN ds.length i with
  | none => rw [q] at h; cases h
  | some j =>
    rw [q] at h
    exact r.get h
/-- xs[i], t[i], s[i], d[k] -/
def opIx : VO2 := fun x y P => match x, y with
  | .lst xs, .int i => oB (atI xs i) fun d => P (.sh d)
  | .tup xs, .int i => oB (atI xs i) fun d => P (.sh d)
  | .str z, .int i => oB (atI z.cps.toList i) fun c => P (.sh (.str ⟨#[c]⟩))
  | .dic kvs, k => oB (keyD k) fun k => oB (dget kvs k) fun d => P (.sh d)
  | _, _ => False
def rIxD : R2 := fun x y H Q => ∃ a v, x = .ref a ∧ DGet H a y (some v) ∧ Q v H
theorem ix_dict {X : Cx} (hu : X.A.units + 1 < cLine) : IxR X rIxD := by
  intro value slice pins s σ H x y v u Q I rx ry h hs
  obtain ⟨a, w, rfl, g, q⟩ := h
  cases rx
  have hT := dict_typeIs I g
  have h2 : wpAny (model X.prog X.w) X.A (getItem (.ref a) u) (EP X pins σ Q) X.xe s := d_getItem hu I g ry fun w' s3 I3 rw' => ⟨w, H, I3, rw', q⟩
  unfold subscriptTail
  refine wpAny_bind ?_
  rw [getitemInPython_of_ne hT.not_modules]
  refine wpAny_bind (wpAny_specialOf hT PySem.F.slot_dict_getitem.lookup ?_)
  have fin : wpAny (model X.prog X.w) X.A (subscripted slice false (.ref a) u) (fun r s₃ => wpAny (model X.prog X.w) X.A (letTemporaryGo value (.ref a) r >>= fun _ => pure r) (EP X pins σ Q) X.xe s₃) X.xe s := by
    rw [hs]
    exact wpAny_operating (wpAny_mono h2 (fun r s₃ h₃ => wpAny_bind (wpAny_letTemporaryGo (wpAny_pure h₃))) fun _ _ x => x)
  first
    | exact wpAny_pure (wpAny_bind fin)
    | exact wpAny_bind (wpAny_pure (wpAny_bind fin))
    | exact wpAny_bind fin
def rIxU (K : PySem.W.Frag) : R2 := r2Or (rIx K) rIxD
theorem ix_any {X : Cx} (hu : X.A.units + 1 < cLine) : IxR X (rIxU X.K) := ix_seq.or (ix_dict hu)
theorem sok_sign {z : Str} {i : Nat} {c : Nat} (h : SOk z) (hc : z.cps.toList[i]? = some c) : SOk ⟨#[c]⟩ := by
  have hm : c ∈ z.cps := by
    have := List.mem_of_getElem? hc
    simpa using this
  have ha := Array.all_eq_true_iff_forall_mem.mp h.1 c hm
  refine ⟨?_, ?_⟩
  · show (#[c] : Array Nat).all (fun x => decide (x < 0x110000)) = true
    rw [Array.all_eq_true_iff_forall_mem]
    intro x hx
    have : x = c := by simpa using hx
    rw [this]
    exact ha
  · show 1 ≤ sizeLine
    decide
theorem opV_ix : OpV K (rIxU K) opIx := by
  intro G S σ H e F x y dx dy P R A hx hy h k
  unfold opIx at h
  split at h
  · obtain ⟨d, hd, h⟩ := oB_some h
    obtain ⟨p, vs, rfl, hp, rp⟩ := hx.list A.sh
    cases hy.int
    obtain ⟨v, hv, rv⟩ := RepsAtI rp hd
    exact .inl (.inl ⟨p, vs, _, v, rfl, rfl, SqL.of hp, hv, flatRes A rv h k⟩)
  · obtain ⟨d, hd, h⟩ := oB_some h
    obtain ⟨p, vs, rfl, hp, rp⟩ := hx.tup A.sh
    cases hy.int
    obtain ⟨v, hv, rv⟩ := RepsAtI rp hd
    exact .inl (.inr (.inl ⟨p, vs, _, v, rfl, rfl, hp, hv, flatRes A rv h k⟩))
  · obtain ⟨c, hc, h⟩ := oB_some h
    obtain ⟨rfl, s⟩ := hx.str
    cases hy.int
    refine .inl (.inr (.inr ⟨_, _, c, rfl, rfl, s.2, hc, flatRes A (.str _ ?_) h k⟩))
    obtain ⟨j, _, hj, _⟩ := atI_get hc
    exact sok_sign s hj
  · rename_i kvs _
    obtain ⟨key, hk, h⟩ := oB_some h
    obtain ⟨d, hd, h⟩ := oB_some h
    obtain ⟨p, ws, rfl, hp, rp⟩ := hx.dict A.sh
    have f1 : flatD dy = true := by cases dy <;> first | rfl | cases hk
    have ex := key_rep (hy.flat f1) hk
    subst ex
    rcases rp.look (k := key) with ⟨h1, h2⟩ | ⟨d', v, h1, h2, h3⟩
    · rw [h1] at hd; cases hd
    · rw [h1] at hd; cases hd
      exact .inr ⟨p, v, rfl, by rw [← h2]; exact .inl ⟨ws, key, hp, rfl, rfl⟩, flatRes A h3 h k⟩
  · exact h.elim
section
variable {X : Cx} {W : WX} {pos : Pos} {a b : Expr} {ua ub : TE} {va vb : VTE}
theorem ve_ix (hu : X.A.units + 64 < cLine) (ha : VEx X W a ua va) (hb : VEx X W b ub vb) (hs : PlainIx b := by exact fun _ _ => rfl) : VEx X W (.Subscript a b pos) (tOp (rIxU X.K) ua ub) (vOp opIx va vb) := ⟨pe_ix (ix_any (by omega)) ha.p hb.p hs, okE_op opV_ix ha.o hb.o⟩
end

/-! ### slices -/
def cutD {α : Type} (xs : List α) (lo hi : Option Int) : List α := (xs.drop (HT.sIx xs.length 0 lo)).take (HT.sIx xs.length xs.length hi - HT.sIx xs.length 0 lo)
abbrev VTO := VX → En → (Option Int → En → Prop) → Prop
def OkO (K : PySem.W.Frag) (W : WX) (to : TO) (t : VTO) : Prop := ∀ G S σ H e F (x : VX) (Q : Option Int → En → Prop) (R : Option Int → Hp → Prop), XOk K G W x → At K G S σ H e F → t x e Q →
  (∀ o S' H' e' F', Same S S' → At K G S' σ H' e' F' → Q o e' → R o H') → to σ H R
structure VOx (X : Cx) (W : WX) (e : Option Expr) (u : TO) (t : VTO) : Prop where
  p : PO X e u
  o : OkO X.K W u t
def vNoPart : VTO := fun _ e Q => Q none e
def vPart (t : VTE) : VTO := fun x e Q => t x e fun r e1 => oB (cont e1 (fz r)) fun d => match d with
  | .int i => Q (some i) e1
  | _ => False
def opSl (x : D) (lo hi : Option Int) (P : Re → Prop) : Prop := match x with
  | .lst xs => P (.own (.lst (cutD xs lo hi)))
  | .tup xs => P (.sh (.tup (cutD xs lo hi)))
  | .str z => P (.sh (.str (cutS z lo hi)))
  | .scr ns => P (.own (.lst (cutD (ns.map D.int) lo hi)))
  | _ => False
def rSlU (K : PySem.W.Frag) : V → Option Int → Option Int → Hp → VK → Prop := fun x lo hi H Q => rSlL K x lo hi H Q ∨ rSlA K x lo hi H Q ∨ rSlS x lo hi H Q
theorem sl_any {X : Cx} : SlR X (rSlU X.K) := sl_list.or (sl_tupA.or sl_str)
theorem cut_rep {S : Hp} {ds : List D} {vs : List V} (r : Reps K S ds vs) (lo hi : Option Int) : Reps K S (cutD ds lo hi) (cutV vs lo hi) := by
  unfold cutD cutV
  rw [r.length]
  exact (r.drop _).take _
theorem sok_cut {z : Str} (h : SOk z) (lo hi : Option Int) : SOk (cutS z lo hi) := by
  have sub : ∀ c ∈ (cutS z lo hi).cps, c ∈ z.cps := fun c hc => by
    have : c ∈ ((z.cps.toList.drop (HT.sIx z.length 0 lo)).take (HT.sIx z.length z.length hi - HT.sIx z.length 0 lo)) := by
      have h2 : c ∈ (cutS z lo hi).cps.toList := by simpa using hc
      exact h2
    have h3 := List.mem_of_mem_drop (List.mem_of_mem_take this)
    simpa using h3
  refine ⟨Array.all_eq_true_iff_forall_mem.mpr fun c hc => Array.all_eq_true_iff_forall_mem.mp h.1 c (sub c hc), ?_⟩
  refine Nat.le_trans ?_ h.2
  show (cutS z lo hi).cps.size ≤ z.cps.size
  unfold cutS
  simp only [List.size_toArray, List.length_take, List.length_drop, Array.length_toList]
  omega
def vSl (t : VTE) (lo hi : VTO) : VTE := fun x e Q => t x e fun r e1 => lo x e1 fun l e2 => hi x e2 fun u e3 => oB (cont e3 (fz r)) fun d => opSl d l u fun r => Q r e3
theorem reps_ints {S : Hp} : ∀ ns : List Int, Reps K S (ns.map D.int) (ns.map V.int)
  | [] => .nil
  | n :: ns => .cons (.int n) (reps_ints ns)
section
variable {X : Cx} {W : WX} {pos : Pos} {a b : Expr} {ua ub : TE} {va vb : VTE}
theorem vo_none : VOx X W none tNoPart vNoPart := ⟨po_none, fun G S σ H e F x Q R xo A h k => k none S H e F (Same.refl S) A h⟩
theorem vo_some (h : VEx X W a ua va) : VOx X W (some a) (tPart ua) (vPart va) := by
  refine ⟨po_some h.p, fun G S σ H e F x Q R xo A hq k => ?_⟩
  refine h.o G S σ H e F x _ _ xo A hq fun r v S1 H1 e1 F1 s1 A1 q1 h1 => ?_
  obtain ⟨d, hd, h1⟩ := oB_some h1
  obtain ⟨S2, s2, A2, q2⟩ := A1.opd q1 (cont_fz hd)
  have t1 := A2.cont q2 hd
  cases d with
  | int i =>
    cases t1.int
    exact ⟨i, rfl, k _ S2 H1 e1 F1 (s1.trans s2) A2 h1⟩
  | _ => exact h1.elim
theorem ve_slice {lo hi : Option Expr} {tl th : TO} {vl vh : VTO} {p2 : Pos} (h : VEx X W a ua va) (hl : VOx X W lo tl vl) (hh : VOx X W hi th vh) : VEx X W (.Subscript a (.Slice lo hi none p2) pos) (tSl (rSlU X.K) ua tl th) (vSl va vl vh) := by
  refine ⟨pe_slice sl_any h.p hl.p hh.p, fun G S σ H e F x Q R xo A hq k => ?_⟩
  refine h.o G S σ H e F x _ _ xo A hq fun r v S1 H1 e1 F1 s1 A1 q1 h1 => ?_
  by_cases c1 : ∃ o, fz r = .own o
  · obtain ⟨o1, c1⟩ := c1
    refine hl.o G S1 σ H1 e1 F1 x _ _ xo A1 h1 fun l S2 H2 e2 F2 s2 A2 h2 => ?_
    refine hh.o G S2 σ H2 e2 F2 x _ _ xo A2 h2 fun u S3 H3 e3 F3 s3 A3 h3 => ?_
    obtain ⟨d, hd, _⟩ := oB_some h3
    exact absurd c1 (cont_fz hd o1)
  · obtain ⟨S1', s1', A1', q1'⟩ := A1.opd q1 fun o z => c1 ⟨o, z⟩
    refine hl.o G S1' σ H1 e1 F1 x _ _ xo A1' h1 fun l S2 H2 e2 F2 s2 A2 h2 => ?_
    refine hh.o G S2 σ H2 e2 F2 x _ _ xo A2 h2 fun u S3 H3 e3 F3 s3 A3 h3 => ?_
    obtain ⟨d, hd, h3⟩ := oB_some h3
    have t := A3.cont (q1'.mono (H' := H3) (F' := F3) (s2.trans s3)) hd
    have ss := ((s1.trans s1').trans s2).trans s3
    unfold opSl at h3
    split at h3
    · obtain ⟨p, vs, rfl, hp, rp⟩ := t.list A3.sh
      refine .inl ⟨p, vs, rfl, SqL.of hp, fun l hl => ?_⟩
      obtain ⟨A4, r4⟩ := A3.newL hl (cut_rep rp _ _)
      exact k _ _ S3 _ e3 F3 ss A4 r4 h3
    · have t0 := t
      obtain ⟨p, vs, rfl, hp, rp⟩ := t.tup A3.sh
      refine .inr (.inl ⟨p, vs, rfl, hp, fun z => ?_, fun _ l hl => ?_⟩)
      · rename_i xs
        have e1 : cutD xs l u = xs := by
          unfold cutD
          rw [rp.length, z.1, z.2, ← rp.length]
          simp
        rw [e1] at h3
        cases t0 with
        | of t0 => exact k _ _ S3 H3 e3 F3 ss A3 (.sh t0) h3
      · obtain ⟨A4, s4, r4⟩ := A3.newT hl (cut_rep rp _ _)
        exact k _ _ _ _ e3 F3 (ss.trans s4) A4 (.sh r4) h3
    · obtain ⟨rfl, s⟩ := t.str
      exact .inr (.inr ⟨_, rfl, s.2, k _ _ S3 H3 e3 F3 ss A3 (.sh (.str _ (sok_cut s _ _))) h3⟩)
    · rename_i ns
      obtain ⟨p, rfl, hp⟩ := t.scr A3.sh
      refine .inl ⟨p, _, rfl, hp, fun l hl => ?_⟩
      obtain ⟨A4, r4⟩ := A3.newL hl (cut_rep (reps_ints ns) _ _)
      exact k _ _ S3 _ e3 F3 ss A4 r4 h3
    · exact h3.elim

/-! ### fields -/
def vFld (t : VTE) (f : Str) : VTE := fun x e Q => t x e fun r e1 => oB (cont e1 (fz r)) fun d => match d with
  | .ins _ fs => oB (fs.lookup f) fun d => Q (.sh d) e1
  | _ => False
/-- what is known of a class: its fields are plain -/
structure ClsF (K : PySem.W.Frag) (f : Str) (C : Addr) : Prop where
  c : Cls K C
  n : NoAttr K C f
/-- the classes that a datum may be of, when its field f is read -/
def vFldC (Cs : List Addr) (t : VTE) (f : Str) : VTE := fun x e Q => t x e fun r e1 => oB (cont e1 (fz r)) fun d => match d with
  | .ins C fs => C ∈ Cs ∧ oB (fs.lookup f) fun d => Q (.sh d) e1
  | _ => False
theorem ve_fld {f : Str} {Cs : List Addr} (hC : ∀ C ∈ Cs, ClsF X.K f C) (h : VEx X W a ua va) (hb : attributeBase a f X.env (eval a X.env) = eval a X.env := by rfl) : VEx X W (.Attribute a f pos) (tFld X.K ua f) (vFldC Cs va f) := by
  refine ⟨pe_fld h.p hb, fun G S σ H e F x Q R xo A hq k => ?_⟩
  refine h.o G S σ H e F x _ _ xo A hq fun r v S1 H1 e1 F1 s1 A1 q1 h1 => ?_
  obtain ⟨d, hd, h1⟩ := oB_some h1
  obtain ⟨S2, s2, A2, q2⟩ := A1.opd q1 (cont_fz hd)
  have t1 := A2.cont q2 hd
  cases d with
  | ins C fs =>
    obtain ⟨hm, h1⟩ := h1
    obtain ⟨d, hd, h1⟩ := oB_some h1
    obtain ⟨p, dx, gs, rfl, hp, ho, rf⟩ := t1.inst A2.sh
    rcases rf.look (f := f) with ⟨z, _⟩ | ⟨d', v, z1, z2, z3⟩
    · rw [z] at hd; cases hd
    · rw [z1] at hd; cases hd
      exact ⟨p, C, dx, gs, v, rfl, hp, (hC C hm).c, (hC C hm).n, z2, k _ _ S2 H1 e1 F1 (s1.trans s2) A2 (.sh z3) h1⟩
  | _ => exact h1.elim
end

/-! ### isinstance -/
def tyD : D → Option Value
  | .non => some (.type "NoneType")
  | .bl _ => some (.type "bool")
  | .int _ => some (.type "int")
  | .str _ => some (.type "str")
  | .tup _ => some (.type "tuple")
  | .lst _ => some (.type "list")
  | .scr _ => some (.type "list")
  | .dic _ => some (.type "dict")
  | .ins C _ => some (.ref C)
  | _ => none
/-- what the written part says of an own class, for isinstance -/
structure ClsI (K : PySem.W.Frag) (C : Addr) : Prop where
  c : Cls K C
  a : PySem.W.findIn K (.ref C) "__class__" = some (some (.builtin "object.__class__"))
  n : PySem.W.specialIn K (.builtin "object.__class__") "__get__" = some (some (.builtin "getset_descriptor.__get__"))
  t : PySem.W.takesIn K (.builtin "object.__class__") = some true
  m : PySem.W.mroIn K C (.type "object") = some true
def oIsi (K : PySem.W.Frag) (Cs : List Addr) : VOA := fun ds P => match ds with
  | [x, .ty n] => (∀ C fs, x = .ins C fs → C ∈ Cs) ∧ oB (tyD x) fun t => oB (PySem.W.kitOne K t (.type n)) fun b => P (.sh (.bl b))
  | [x, .ref D] => (∀ C fs, x = .ins C fs → C ∈ Cs) ∧ oB (tyD x) fun t => oB (PySem.W.kitOne K t (.ref D)) fun b => P (.sh (.bl b))
  | _ => False
theorem tyX_of {S H : Hp} {d : D} {v : V} {t : Value} {Cs : List Addr} (e : Same S H) (hC : ∀ C ∈ Cs, ClsI K C) (hx : ∀ C fs, d = .ins C fs → C ∈ Cs) (r : RepT K S H d v) (h : tyD d = some t) : TyX K H v t := by
  cases d with
  | non => cases h; cases r.non; exact .base .non
  | bl b => cases h; cases r.bl; exact .base (.bl b)
  | int i => cases h; cases r.int; exact .base (.int i)
  | str x => cases h; obtain ⟨rfl, _⟩ := r.str; exact .base (.str x)
  | ref _ => cases h
  | ty _ => cases h
  | scr ns =>
    cases h
    obtain ⟨p, rfl, hp⟩ := r.scr e
    rcases hp with (hp | ⟨o, hp⟩) | ⟨o, its, n, h1, h2, _⟩
    · exact .base (.lst hp)
    · exact .base (.frz hp)
    · exact .kList h1 h2
  | tup xs =>
    cases h
    obtain ⟨p, vs, rfl, hp, _⟩ := r.tup e
    rcases hp with (hp | ⟨o, hp⟩) | ⟨o, its, n, h1, h2, _⟩
    · exact .base (.tup hp)
    · exact .fTuple hp
    · exact .kTuple h1 h2
  | lst xs => cases h; obtain ⟨p, vs, rfl, hp, _⟩ := r.list e; exact .base (.lst hp)
  | dic xs =>
    cases h
    obtain ⟨p, vs, rfl, hp, _⟩ := r.dict e
    rcases hp with hp | ⟨o, hp⟩
    · exact .base (.dK hp)
    · exact .fDict hp
  | ins C fs =>
    cases h
    obtain ⟨p, dx, gs, rfl, hp, _, _⟩ := r.inst e
    have c := hC C (hx C fs rfl)
    exact .base (.ins hp c.c c.a c.n c.t c.m)
theorem callV_isi {Cs : List Addr} (hC : ∀ C ∈ Cs, ClsI K C) : CallV K (rIsi K) (oIsi K Cs) := by
  intro G S σ H e F xs ds P R A rs h k
  unfold oIsi at h
  split at h
  · obtain ⟨hx, h⟩ := h
    obtain ⟨t, ht, h⟩ := oB_some h
    obtain ⟨b, hb, h⟩ := oB_some h
    obtain ⟨v, v', rfl, r1, r2⟩ := rs.two
    cases r2.ty
    exact ⟨v, _, t, _, b, rfl, .ty _, tyX_of A.sh hC hx r1 ht, hb, flatRes A (.bl _) h k⟩
  · obtain ⟨hx, h⟩ := h
    obtain ⟨t, ht, h⟩ := oB_some h
    obtain ⟨b, hb, h⟩ := oB_some h
    obtain ⟨v, v', rfl, r1, r2⟩ := rs.two
    cases r2.ref
    exact ⟨v, _, t, _, b, rfl, .own _, tyX_of A.sh hC hx r1 ht, hb, flatRes A (.bl _) h k⟩
  · exact h.elim
end VL

end

section
set_option Elab.async false
set_option linter.all false
set_option maxRecDepth 100000
set_option maxHeartbeats 4000000
namespace VL
open PySem PySem.Spec PyProof.Rows L2
variable {K : PySem.W.Frag}

/-! ### slots stored -/
def notPar (e : En) (i : Nat) : Prop := match e[i]? with
  | some (.par _) => False
  | some _ => True
  | none => False
section
variable {G : Gd} {S S' : Hp} {σ : L2.St} {H H' : Hp} {e : En} {F : Nat → List Addr}
theorem At.put (A : At K G S σ H e F) {i : Nat} {v : V} {s : Sl} {f : List Addr} (hi : notPar e i) (hs : SlAt K S H (some (some v)) s f) (np : ∀ o, s ≠ .par o) (hf : ∀ a ∈ f, S a = none ∧ G.B a = none ∧ ∀ j, a ∉ F j) :
    At K G S (σ.set i (some v)) H (e.set i s) (fun j => if j = i then f else F j) := by
  have hl : i < e.length := by
    unfold notPar at hi
    cases q : e[i]? with
    | none => rw [q] at hi; exact hi.elim
    | some s => exact (List.getElem?_eq_some_iff.mp q).1
  have hσ : i < σ.length := by rw [← A.len]; exact hl
  refine ⟨A.sh, A.bh, A.s0, A.nw, by rw [List.length_set, List.length_set]; exact A.len, fun j s' hj => ?_, fun j hj => ?_, fun j a ha => ?_, fun j l a ha hb => ?_, fun j o hj => ?_⟩
  · by_cases c : j = i
    · subst c
      rw [List.getElem?_set_self hl] at hj
      cases hj
      show SlAt K S H (σ.set j (some v))[j]? s (if j = j then f else F j)
      rw [if_pos rfl, List.getElem?_set_self hσ]
      exact hs
    · rw [List.getElem?_set_ne (Ne.symm c)] at hj
      show SlAt K S H (σ.set i (some v))[j]? s' (if j = i then f else F j)
      rw [if_neg c, List.getElem?_set_ne (Ne.symm c)]
      exact A.sl j s' hj
  · show (if j = i then f else F j) = []
    rw [List.length_set] at hj
    rw [if_neg (by omega)]
    exact A.fr j hj
  · have ha : a ∈ (if j = i then f else F j) := ha
    by_cases c : j = i
    · rw [if_pos c] at ha; exact ⟨(hf a ha).1, (hf a ha).2.1⟩
    · rw [if_neg c] at ha; exact A.fS j a ha
  · have ha : a ∈ (if j = i then f else F j) := ha
    have hb : a ∈ (if l = i then f else F l) := hb
    by_cases c : j = i
    · rw [if_pos c] at ha
      by_cases c2 : l = i
      · rw [c, c2]
      · rw [if_neg c2] at hb; exact absurd hb ((hf a ha).2.2 l)
    · rw [if_neg c] at ha
      by_cases c2 : l = i
      · rw [if_pos c2] at hb; exact absurd ha ((hf a hb).2.2 j)
      · rw [if_neg c2] at hb; exact A.dj j l a ha hb
  · by_cases c : j = i
    · subst c
      rw [List.getElem?_set_self hl] at hj
      cases hj
      exact absurd rfl (np o)
    · rw [List.getElem?_set_ne (Ne.symm c)] at hj
      rw [List.getElem?_set_ne (Ne.symm c)]
      exact A.pr j o hj
theorem At.putSh (A : At K G S σ H e F) {i : Nat} {v : V} {d : D} (hi : notPar e i) (r : Rep K S d v) : At K G S (σ.set i (some v)) H (e.set i (.sh d)) (fun j => if j = i then [] else F j) :=
  A.put hi ⟨rfl, v, rfl, r⟩ (fun _ z => nomatch z) fun a ha => by simp at ha
theorem At.putOwn (A : At K G S σ H e F) {i : Nat} {o : O} {v : V} (hi : notPar e i) (r : ReAt K G S H σ F (.own o) v) : ∃ F', At K G S (σ.set i (some v)) H (e.set i (.own o)) F' := by
  cases r with
  | own h hf => exact ⟨_, A.put hi ⟨_, rfl, h⟩ (fun _ z => nomatch z) hf⟩
/-- the object that a slot owns -/
def ownO (e : En) (i : Nat) : Option O := match e[i]? with
  | some (.own o) => some o
  | some (.par o) => some o
  | _ => none
def setO (e : En) (i : Nat) (o : O) : En := match e[i]? with
  | some (.own _) => e.set i (.own o)
  | some (.par _) => e.set i (.par o)
  | _ => e
theorem At.owned (A : At K G S σ H e F) {i : Nat} {o : O} (h : ownO e i = some o) : ∃ p, σ[i]? = some (some (.ref p)) ∧ OwnAt K S H o p (F i) := by
  unfold ownO at h
  cases q : e[i]? with
  | none => rw [q] at h; cases h
  | some s =>
    rw [q] at h
    have sl := A.sl i s q
    cases s with
    | un => cases h
    | sh d => cases h
    | own o' => cases h; exact sl
    | par o' => cases h; exact sl
/-- what a slot owns changes -/
theorem At.write (A : At K G S σ H e F) {i : Nat} {o o' : O} {p : Addr} (h : ownO e i = some o) (hp : σ[i]? = some (some (.ref p))) (k : ∀ a, a ∉ F i → H' a = H a) (ow : OwnAt K S H' o' p (F i)) : At K G S σ H' (setO e i o') F := by
  have hF : ∀ a, S a ≠ none → a ∉ F i := fun a ha hm => ha (A.fS i a hm).1
  have hB : ∀ a, G.B a ≠ none → a ∉ F i := fun a ha hm => ha (A.fS i a hm).2
  have len : (setO e i o').length = e.length := by
    unfold setO
    split <;> simp
  have ne : ∀ j, j ≠ i → (setO e i o')[j]? = e[j]? := fun j hj => by
    unfold setO
    split
    · rw [List.getElem?_set_ne (Ne.symm hj)]
    · rw [List.getElem?_set_ne (Ne.symm hj)]
    · rfl
  refine ⟨fun a u ha => by rw [k a (hF a (by rw [ha]; simp))]; exact A.sh a u ha, fun a u ha => by rw [k a (hB a (by rw [ha]; simp))]; exact A.bh a u ha, A.s0, A.nw, by rw [len]; exact A.len, fun j s hj => ?_, fun j hj => A.fr j (by rw [len] at hj; exact hj), A.fS, A.dj, fun j o2 hj => ?_⟩
  · by_cases c : j = i
    · subst c
      rw [hp]
      unfold setO at hj
      unfold ownO at h
      cases q : e[j]? with
      | none => rw [q] at h; cases h
      | some s0 =>
        have hl := (List.getElem?_eq_some_iff.mp q).1
        rw [q] at h hj
        cases s0 with
        | un => cases h
        | sh d => cases h
        | own _ =>
          rw [List.getElem?_set_self hl] at hj
          cases hj
          exact ⟨p, rfl, ow⟩
        | par _ =>
          rw [List.getElem?_set_self hl] at hj
          cases hj
          exact ⟨p, rfl, ow⟩
    · rw [ne j c] at hj
      have sl := A.sl j s hj
      have kj : ∀ a ∈ F j, H' a = H a := fun a ha => k a fun z => c (A.dj j i a ha z)
      cases s with
      | un => exact sl
      | sh d => exact sl
      | own o2 => obtain ⟨q, hq, w⟩ := sl; exact ⟨q, hq, w.keep (Same.refl S) kj⟩
      | par o2 => obtain ⟨q, hq, w⟩ := sl; exact ⟨q, hq, w.keep (Same.refl S) kj⟩
  · by_cases c : j = i
    · subst c
      unfold setO at hj
      unfold ownO at h
      cases q : e[j]? with
      | none => rw [q] at h; cases h
      | some s0 =>
        have hl := (List.getElem?_eq_some_iff.mp q).1
        rw [q] at h hj
        cases s0 with
        | un => cases h
        | sh d => cases h
        | own _ =>
          rw [List.getElem?_set_self hl] at hj
          cases hj
        | par o3 => exact A.pr j o3 q
    · rw [ne j c] at hj
      exact A.pr j o2 hj
theorem OwnAt.listInv {S H : Hp} {xs : List D} {p : Addr} {f : List Addr} (h : OwnAt K S H (.lst xs) p f) : ∃ vs, f = [p] ∧ H p = some (.lst vs) ∧ Reps K S xs vs := by
  cases h with | lst h r => exact ⟨_, rfl, h, r⟩
theorem OwnAt.dictInv {S H : Hp} {xs : List (Key × D)} {p : Addr} {f : List Addr} (h : OwnAt K S H (.dic xs) p f) : ∃ vs, f = [p] ∧ H p = some (.dK vs) ∧ Repk K S xs vs := by
  cases h with | dic h r => exact ⟨_, rfl, h, r⟩
theorem OwnAt.insInv {S H : Hp} {C : Addr} {xs : List (Str × D)} {p : Addr} {f : List Addr} (h : OwnAt K S H (.ins C xs) p f) : ∃ dx gs, f = [p, dx] ∧ H p = some (.ins C dx gs) ∧ H dx = some (.own p) ∧ Repf K S xs gs := by
  cases h with | ins h o r => exact ⟨_, _, rfl, h, o, r⟩
theorem At.setList (A : At K G S σ H e F) {i : Nat} {xs ys : List D} {p : Addr} {vs : List V} (h : ownO e i = some (.lst xs)) (hp : σ[i]? = some (some (.ref p))) (r : Reps K S ys vs) : At K G S σ (upd H p (.lst vs)) (setO e i (.lst ys)) F := by
  obtain ⟨q, hq, ow⟩ := A.owned h
  rw [hp] at hq; cases hq
  obtain ⟨us, ef, hus, _⟩ := ow.listInv
  refine A.write h hp (fun a ha => upd_ne fun z => ha (by rw [ef, z]; simp)) ?_
  rw [ef]
  exact .lst upd_same r
theorem At.setDict (A : At K G S σ H e F) {i : Nat} {xs ys : List (Key × D)} {p : Addr} {vs : List (Key × V)} (h : ownO e i = some (.dic xs)) (hp : σ[i]? = some (some (.ref p))) (r : Repk K S ys vs) : At K G S σ (upd H p (.dK vs)) (setO e i (.dic ys)) F := by
  obtain ⟨q, hq, ow⟩ := A.owned h
  rw [hp] at hq; cases hq
  obtain ⟨us, ef, hus, _⟩ := ow.dictInv
  refine A.write h hp (fun a ha => upd_ne fun z => ha (by rw [ef, z]; simp)) ?_
  rw [ef]
  exact .dic upd_same r
theorem At.setIns (A : At K G S σ H e F) {i : Nat} {C dx : Addr} {xs ys : List (Str × D)} {p : Addr} {gs hs : List (Str × V)} (h : ownO e i = some (.ins C xs)) (hp : σ[i]? = some (some (.ref p))) (hH : H p = some (.ins C dx gs)) (r : Repf K S ys hs) :
    At K G S σ (upd H p (.ins C dx hs)) (setO e i (.ins C ys)) F := by
  obtain ⟨q, hq, ow⟩ := A.owned h
  rw [hp] at hq; cases hq
  obtain ⟨dy, us, ef, hus, ho, _⟩ := ow.insInv
  rw [hH] at hus; cases hus
  have ne : dx ≠ p := ne_of ho hH (by intro z; cases z)
  refine A.write h hp (fun a ha => upd_ne fun z => ha (by rw [ef, z]; simp)) ?_
  rw [ef]
  exact .ins upd_same (by rw [upd_ne ne]; exact ho) r
end

/-! ### targets -/
abbrev VG := D → VX → En → (En → Prop) → Prop
abbrev VGs := List D → VX → En → (En → Prop) → Prop
/-- vs: the slots that it stores -/
def OkG (K : PySem.W.Frag) (W : WX) (tg : TG) (g : VG) (ix : List Nat) : Prop := ∀ G S σ H e F d v (x : VX) (Q : En → Prop) (R : L2.St → Hp → Prop), XOk K G W x → At K G S σ H e F → Rep K S d v → g d x e Q →
  (∀ S' σ' H' e' F', Same S S' → At K G S' σ' H' e' F' → (∀ us : List Nat, (∀ i ∈ ix, i ∈ us) → wipe σ' us = wipe σ us) → Q e' → R σ' H') → tg v σ H R
def OkGs (K : PySem.W.Frag) (W : WX) (tg : TGs) (g : VGs) (ix : List Nat) : Prop := ∀ G S σ H e F ds vs (x : VX) (Q : En → Prop) (R : L2.St → Hp → Prop), XOk K G W x → At K G S σ H e F → Reps K S ds vs → g ds x e Q →
  (∀ S' σ' H' e' F', Same S S' → At K G S' σ' H' e' F' → (∀ us : List Nat, (∀ i ∈ ix, i ∈ us) → wipe σ' us = wipe σ us) → Q e' → R σ' H') → tg vs σ H R
structure VGx (X : Cx) (W : WX) (tg : Expr) (u : TG) (t : VG) (ix : List Nat) : Prop where
  p : PG X tg u
  o : OkG X.K W u t ix
structure VGsx (X : Cx) (W : WX) (tg : List Expr) (u : TGs) (t : VGs) (ix : List Nat) : Prop where
  p : PGs X tg u
  o : OkGs X.K W u t ix
theorem wipe_set {i : Nat} {x : Option V} : ∀ {us : List Nat} {σ : L2.St}, i ∈ us → wipe (σ.set i x) us = wipe σ us
  | [], σ, h => by simp at h
  | u :: us, σ, h => by
    have comm : ∀ us : List Nat, i ∉ us → wipe (σ.set i x) us = (wipe σ us).set i x := by
      intro us
      induction us with
      | nil => intro _; rfl
      | cons u us ih =>
        intro hn
        unfold wipe
        rw [ih fun z => hn (List.mem_cons_of_mem _ z), List.set_comm]
        intro z
        exact hn (by rw [z]; simp)
    unfold wipe
    by_cases c : i ∈ us
    · rw [wipe_set c]
    · have e : i = u := by
        rcases List.mem_cons.mp h with h | h
        · exact h
        · exact absurd h c
      rw [comm us c, e, List.set_set]
def vgName (i : Nat) : VG := fun d _ e Q => notPar e i ∧ Q (e.set i (.sh d))
section
variable {X : Cx} {W : WX} {pos : Pos}
theorem vg_name (i : Nat) {x : Str} (hN : X.N.Nodup) (hi : X.N[i]? = some x := by rfl) (hx : Loc X.env.scope x := by first | exact Or.inl rfl | exact Or.inr rfl)
    (hf : X.fn x = true ∨ X.env.scope.names.lookup x = some .local := by first | exact .inl rfl | exact .inr rfl | assumption) : VGx X W (.Name x pos) (gName i) (vgName i) [i] :=
  ⟨pg_name hN hi hx hf, fun G S σ H e F d v x Q R xo A r h k => k S _ H _ _ (Same.refl S) (A.putSh h.1 r) (fun us hu => wipe_set (hu i (by simp))) h.2⟩
def vgNil : VGs := fun ds _ e Q => ds = [] ∧ Q e
def vgCons (t : VG) (u : VGs) : VGs := fun ds x e Q => match ds with
  | d :: r => t d x e fun e1 => u r x e1 Q
  | [] => False
theorem vgs_nil : VGsx X W [] gNil vgNil [] := ⟨pgs_nil, fun G S σ H e F ds vs x Q R xo A r h k => by
  obtain ⟨rfl, h⟩ := h
  cases r
  exact ⟨rfl, k S σ H e F (Same.refl S) A (fun us _ => rfl) h⟩⟩
theorem vgs_cons {e : Expr} {es : List Expr} {u : TG} {us : TGs} {t : VG} {ts : VGs} {ix js : List Nat} (h1 : VGx X W e u t ix) (h2 : VGsx X W es us ts js) (hs : (assignEach (e :: es) X.env).map (·.2) = assign e X.env :: (assignEach es X.env).map (·.2) := by rfl) :
    VGsx X W (e :: es) (gCons u us) (vgCons t ts) (ix ++ js) := by
  refine ⟨pgs_cons h1.p h2.p hs, fun G S σ H e F ds vs x Q R xo A r h k => ?_⟩
  cases r with
  | nil => exact h.elim
  | cons r rr =>
    refine ⟨_, _, rfl, ?_⟩
    refine h1.o G S σ H e F _ _ x _ _ xo A r h fun S1 σ1 H1 e1 F1 s1 A1 w1 q1 => ?_
    refine h2.o G S1 σ1 H1 e1 F1 _ _ x _ _ xo A1 (rr.mono s1) q1 fun S2 σ2 H2 e2 F2 s2 A2 w2 q2 => ?_
    refine k S2 σ2 H2 e2 F2 (s1.trans s2) A2 (fun us hu => ?_) q2
    rw [w2 us fun i hi => hu i (List.mem_append_right _ hi), w1 us fun i hi => hu i (List.mem_append_left _ hi)]
def vgTup (n : Nat) (g : VGs) : VG := fun d x e Q => match d with
  | .tup ds => ds.length = n ∧ g ds x e Q
  | _ => False
theorem vg_tup {es : List Expr} {k n : Nat} {us : TGs} {ts : VGs} {ix : List Nat} (h : VGsx X W es us ts ix) (hc : X.calm = true := by rfl) (hn : (assignEach es X.env).length = n := by rfl) (hst : (assignEach es X.env).findIdx? (·.1) = none := by rfl) :
    VGx X W (.Tuple es k pos) (gTup X.K n us) (vgTup n ts) ix := by
  refine ⟨pg_tup hc h.p hn hst, fun G S σ H e F d v x Q R xo A r hq k => ?_⟩
  cases r with
  | tup hp rp =>
    obtain ⟨hl, hq⟩ := hq
    exact ⟨_, _, rfl, sqT_mono A.sh hp, by rw [← rp.length]; exact hl, h.o G S σ H e F _ _ x Q R xo A rp hq k⟩
  | _ => exact hq.elim
/-- x[i] = .., x a slot that owns a list, a dict -/
def vgSub (j : Nat) (t : VTE) : VG := fun d x e Q => match ownO e j with
  | none => False
  | some _ => t x e fun r e1 => oB (cont e1 (fz r)) fun i => match ownO e1 j with
    | some (.lst xs) => (match i with
      | .int k => oB (ixN xs.length k) fun n => Q (setO e1 j (.lst (xs.set n d)))
      | _ => False)
    | some (.dic kvs) => oB (keyD i) fun key => kvs.length < sizeLine ∧ Q (setO e1 j (.dic (dput kvs key d)))
    | _ => False
def rSetD : V → V → V → Hp → (Hp → Prop) → Prop := fun o i v H Q => ∃ a H', o = .ref a ∧ DPut H a i v H' ∧ Q H'
theorem set_dict (hu : X.A.units + 1 < cLine) : PSet X rSetD := by
  intro pins s σ H o i v ov iv u Q I ro ri rv h
  obtain ⟨a, H', rfl, hp, q⟩ := h
  cases ro
  exact d_setItem hu I hp ri rv fun s' I' => ⟨H', I', q⟩
def rSetU : V → V → V → Hp → (Hp → Prop) → Prop := fun o i v H Q => rSetL o i v H Q ∨ rSetD o i v H Q
theorem set_any (hu : X.A.units + 1 < cLine) : PSet X rSetU := by
  intro pins s σ H o i v ov iv u Q I ro ri rv h
  rcases h with h | h
  · exact set_list pins s σ H o i v ov iv u Q I ro ri rv h
  · exact set_dict hu pins s σ H o i v ov iv u Q I ro ri rv h
theorem vg_sub (j : Nat) {x : Str} {px : Pos} {b : Expr} {ub : TE} {vb : VTE} (hu : X.A.units + 64 < cLine) (h : VEx X W b ub vb) (hN : X.N[j]? = some x := by rfl) (hv : Vis X.env.scope x := by first | exact Or.inl rfl | exact Or.inr (Or.inl rfl) | exact Or.inr (Or.inr rfl))
    (hd : (x == ("__debug__" : Str)) = false := by decide) (hcd : (x == ("__classdict__" : Str)) = false := by decide)
    (ha : ∀ v, assign (.Subscript (.Name x px) b pos) X.env v = (do
      let ov ← holding [v] (eval (.Name x px) X.env)
      let iv ← holding [v, ov] (eval b X.env)
      standAt pos
      holding [v, ov, iv] (setItem ov iv v)
      release [v, ov, iv] []) := by intro _; rfl) : VGx X W (.Subscript (.Name x px) b pos) (gSub (tVar j) ub rSetU) (vgSub j vb) [] := by
  refine ⟨pg_sub (pe_var hN hv hd hcd) h.p (set_any (by omega)) ha, fun G S σ H e F d v x Q R xo A r hq k => ?_⟩
  unfold vgSub at hq
  cases hj : ownO e j with
  | none => rw [hj] at hq; exact hq.elim
  | some o0 =>
    rw [hj] at hq
    obtain ⟨pw, hσ, _⟩ := A.owned hj
    refine ⟨_, hσ, ?_⟩
    refine h.o G S σ H e F x _ _ xo A hq fun ri vi S1 H1 e1 F1 s1 A1 q1 h1 => ?_
    obtain ⟨i, hi, h1⟩ := oB_some h1
    obtain ⟨S2, s2, A2, q2⟩ := A1.opd q1 (cont_fz hi)
    have t1 := A2.cont q2 hi
    cases ho : ownO e1 j with
    | none => rw [ho] at h1; exact h1.elim
    | some o =>
      rw [ho] at h1
      obtain ⟨p, hp, ow⟩ := A2.owned ho
      rw [hσ] at hp; cases hp
      cases o with
      | lst xs =>
        cases i with
        | int n =>
          obtain ⟨m, hm, h1⟩ := oB_some h1
          cases t1.int
          obtain ⟨vs, _, hvs, rvs⟩ := ow.listInv
          refine .inl ⟨_, vs, n, m, rfl, rfl, hvs, by rw [← rvs.length]; exact hm, ?_⟩
          exact k S2 σ _ _ F1 (s1.trans s2) (A2.setList ho hσ (Reps.set (r.mono (s1.trans s2)) m rvs)) (fun us _ => rfl) h1
        | _ => exact h1.elim
      | dic kvs =>
        obtain ⟨key, hk, hz, h1⟩ := oB_some h1
        obtain ⟨vs, _, hvs, rvs⟩ := ow.dictInv
        have f1 : flatD i = true := by cases i <;> first | rfl | cases hk
        have ex := key_rep (t1.flat f1) hk
        subst ex
        refine .inr ⟨_, _, rfl, DPut.k hvs (by rw [← rvs.length]; exact hz), ?_⟩
        exact k S2 σ _ _ F1 (s1.trans s2) (A2.setDict ho hσ (rvs.put (key_ok (t1.flat f1) hk) (r.mono (s1.trans s2)))) (fun us _ => rfl) h1
      | _ => exact h1.elim
end
end VL

end

section
set_option Elab.async false
set_option linter.all false
set_option maxRecDepth 100000
set_option maxHeartbeats 4000000
namespace VL
open PySem PySem.Spec PyProof.Rows L2
variable {K : PySem.W.Frag}

/-! ### statements -/
def vNext : VTS := fun E e => E.nx e
def vSeq (t u : VTS) : VTS := fun E e => t { E with nx := u E } e
def vBreak : VTS := fun E e => E.bk e
def vCont : VTS := fun E e => E.ct e
def vNever : VTS := fun _ _ => False
theorem EndsOk.nxt {G : Gd} {W : WX} {E : VE} {D : Ends} {u : TS} {t : VTS} (h : EndsOk K G W E D) (ho : OkS K W u t) : EndsOk K G W { E with nx := t E } { D with nx := u D } :=
  ⟨fun S σ H e F A q => ho G S σ H e F E D A q h, h.2⟩
section
variable {X : Cx} {W : WX} {pos : Pos} {st : Stmt} {sts : List Stmt} {a b c : Expr} {ua ub uc : TE} {wa wb : TT} {va vb vc : VTE} {ta tb : VTT} {us us' : TS} {ts ts' : VTS}
theorem vs_nil : VSs X W [] tNext vNext := ⟨pss_nil, fun G S σ H e F E D A h ho => ho.1 S σ H e F A h⟩
theorem vs_cons (h : VSx X W st us ts) (h2 : VSs X W sts us' ts') : VSs X W (st :: sts) (tSeq us us') (vSeq ts ts') :=
  ⟨pss_cons h.p h2.p, fun G S σ H e F E D A q ho => h.o G S σ H e F _ _ A q (ho.nxt h2.o)⟩
theorem vs_one (h : VSx X W st us ts) : VSs X W [st] us ts := ⟨pss_one h.p, h.o⟩
theorem vs_pass : VSx X W (.Pass pos) tNext vNext := ⟨ps_pass, fun G S σ H e F E D A h ho => ho.1 S σ H e F A h⟩
theorem vs_break : VSx X W (.Break pos) tBreak vBreak := ⟨ps_break, fun G S σ H e F E D A h ho => ho.2.2.1 S σ H e F A h⟩
theorem vs_continue : VSx X W (.Continue pos) tCont vCont := ⟨ps_continue, fun G S σ H e F E D A h ho => ho.2.2.2.1 S σ H e F A h⟩
theorem vs_never : VSx X W st tNever vNever := ⟨ps_never, fun G S σ H e F E D A h ho => h.elim⟩
theorem vss_never : VSs X W sts tNever vNever := ⟨pss_never, fun G S σ H e F E D A h ho => h.elim⟩
/-- name = e -/
def vAsg (i : Nat) (t : VTE) : VTS := fun E e => t E.ex e fun r e1 => notPar e1 i ∧ match r with
  | .sh d => E.nx (e1.set i (.sh d))
  | .own o => E.nx (e1.set i (.own o))
  | .bor _ => False
  | .fld _ _ _ => False
theorem okS_asg (i : Nat) (h : OkE K W ua va) : OkS K W (tAsg ua (gName i)) (vAsg i va) := by
  intro G S σ H e F E D A hq ho
  refine h G S σ H e F E.ex _ _ ho.2.2.2.2 A hq fun r v S1 H1 e1 F1 s1 A1 q1 h1 => ?_
  obtain ⟨hn, h1⟩ := h1
  cases r with
  | sh d =>
    cases q1 with
    | sh q1 => exact ho.1 S1 _ H1 _ _ (A1.putSh hn q1) h1
  | own o =>
    obtain ⟨F2, A2⟩ := A1.putOwn hn q1
    exact ho.1 S1 _ H1 _ F2 A2 h1
  | bor j => exact h1.elim
  | fld q j f => exact h1.elim
theorem vs_set (i : Nat) {x : Str} {pos' : Pos} (hN : X.N.Nodup) (h : VEx X W a ua va) (hi : X.N[i]? = some x := by rfl) (hx : Loc X.env.scope x := by first | exact Or.inl rfl | exact Or.inr rfl) (hs : swapsWith a (some (.Name x pos')) pos.line X.env = pure false := by rfl)
    (hf : X.fn x = true ∨ X.env.scope.names.lookup x = some .local := by first | exact .inl rfl | exact .inr rfl | assumption) : VSx X W (.Assign [.Name x pos'] a pos) (tAsg ua (gName i)) (vAsg i va) :=
  ⟨ps_set hN hi hx h.p hs hf, okS_asg i h.o⟩
/-- target = e, any target -/
def vAsgG (t : VTE) (g : VG) : VTS := fun E e => t E.ex e fun r e1 => match fz r with
  | .sh d => g d E.ex e1 E.nx
  | _ => False
theorem okS_asgG {ug : TG} {g : VG} {ix : List Nat} (h : OkE K W ua va) (hg : OkG K W ug g ix) : OkS K W (tAsg ua ug) (vAsgG va g) := by
  intro G S σ H e F E D A hq ho
  refine h G S σ H e F E.ex _ _ ho.2.2.2.2 A hq fun r v S1 H1 e1 F1 s1 A1 q1 h1 => ?_
  have hn : ∀ o, fz r ≠ .own o := fun o z => by
    rw [z] at h1
    exact h1.elim
  obtain ⟨S2, s2, A2, q2⟩ := A1.opd q1 hn
  cases z : fz r with
  | own o => exact absurd z (hn o)
  | bor i => rw [z] at h1; exact h1.elim
  | fld q i f => rw [z] at h1; exact h1.elim
  | sh d =>
    rw [z] at h1 q2
    cases q2 with
    | sh q2 _ => exact hg G S2 σ H1 e1 F1 d v E.ex _ _ ho.2.2.2.2 A2 q2 h1 fun S' σ' H' e' F' s' A' _ q' => ho.1 S' σ' H' e' F' A' q'
theorem vs_asg {tg : Expr} {ug : TG} {g : VG} {ix : List Nat} (h : VEx X W a ua va) (hg : VGx X W tg ug g ix) (hs : swapsWithSole [tg] a pos.line X.env = pure false := by rfl) (hw : swappedStores [tg] a X.env = pure none := by rfl)
    (h1 : (assignEach [tg] X.env).map (·.2) = [assign tg X.env] := by rfl) : VSx X W (.Assign [tg] a pos) (tAsg ua ug) (vAsgG va g) := ⟨ps_asg h.p hg.p hs hw h1, okS_asgG h.o hg.o⟩
/-- a, b = e1, e2, two local names -/
def vPar (i j : Nat) (t : VTA) : VTS := fun E e => t E.ex e fun rs e1 => match rs with
  | [.sh d1, .sh d2] => notPar e1 i ∧ notPar (e1.set i (.sh d1)) j ∧ E.nx ((e1.set i (.sh d1)).set j (.sh d2))
  | _ => False
theorem vs_par (i j : Nat) {x y : Str} {ut : TA} {vt : VTA} {px py pt : Pos} {kt k2 pt2} (hN : X.N.Nodup) (h : VAx X W [a, b] ut vt) (hij : i ≠ j := by decide) (hi : X.N[i]? = some x := by rfl) (hj : X.N[j]? = some y := by rfl) (hc : X.calm = true := by rfl)
    (hx : X.env.scope.names.lookup x = some .local := by rfl) (hy : X.env.scope.names.lookup y = some .local := by rfl)
    (hw : swappedStores [.Tuple [.Name x px, .Name y py] kt pt] (.Tuple [a, b] k2 pt2) X.env = pure (some [x, y]) := by rfl) (hs : swapsWithSole [.Tuple [.Name x px, .Name y py] kt pt] (.Tuple [a, b] k2 pt2) pos.line X.env = pure false := by rfl) :
    VSx X W (.Assign [.Tuple [.Name x px, .Name y py] kt pt] (.Tuple [a, b] k2 pt2) pos) (tPar i j ut) (vPar i j vt) := by
  refine ⟨ps_par hc hN hi hj hij hx hy h.p hw hs, fun G S σ H e F E D A hq ho => ?_⟩
  refine h.o G S σ H e F E.ex _ _ ho.2.2.2.2 A hq fun rs vs S1 H1 e1 F1 s1 A1 q1 h1 => ?_
  split at h1
  · obtain ⟨n1, n2, h1⟩ := h1
    cases q1 with
    | sh r1 t => cases t with
      | sh r2 t => cases t with
        | nil => exact ⟨_, _, rfl, ho.1 S1 _ H1 _ _ ((A1.putSh n1 r1).putSh n2 r2) h1⟩
  · exact h1.elim
/-- x += e -/
def vAug (i : Nat) (t : VTE) (o : VO2) : VTS := fun E e => match e[i]? with
  | some (.sh d0) => t E.ex e fun r e1 => notPar e1 i ∧ oB (cont e1 (fz r)) fun d => o d0 d fun r => match r with
    | .sh z => E.nx (e1.set i (.sh z))
    | _ => False
  | _ => False
theorem okS_aug (i : Nat) {ti : R2} {o : VO2} (hv : OpV K ti o) (h : OkE K W ua va) : OkS K W (tAug i ua ti) (vAug i va o) := by
  intro G S σ H e F E D A hq ho
  unfold vAug at hq
  split at hq
  · rename_i d0 he
    obtain ⟨_, v0, hv0, r0⟩ := A.sl i _ he
    refine ⟨v0, hv0, ?_⟩
    refine h G S σ H e F E.ex _ _ ho.2.2.2.2 A hq fun r v S1 H1 e1 F1 s1 A1 q1 h1 => ?_
    obtain ⟨hn, h1⟩ := h1
    obtain ⟨d, hd, h1⟩ := oB_some h1
    obtain ⟨S2, s2, A2, q2⟩ := A1.opd q1 (cont_fz hd)
    have t1 := A2.cont q2 hd
    refine hv G S2 σ H1 e1 F1 v0 v d0 d _ _ A2 (.of (r0.mono (s1.trans s2))) t1 h1 fun r v S3 H3 s3 A3 q3 h3 => ?_
    cases r with
    | sh z => cases q3 with
      | sh q3 => exact ho.1 S3 _ H3 _ _ (A3.putSh hn q3) h3
    | own _ => exact h3.elim
    | bor _ => exact h3.elim
    | fld _ _ _ => exact h3.elim
  · exact hq.elim
theorem pip_of {op : Operator} {r : R2} (ho : OpR X (inplaceOp op) r) : PIp X op r := fun pins s σ H x y v u Q I rx ry q => augR ho I rx ry q
def rAddI : R2 := r2Or (rI0 fun i j => .int (i + j)) (fun x y H Q => ∃ i j, x = .str i ∧ y = .str j ∧ i.length + j.length ≤ sizeLine ∧ Q (.str (i ++ j)) H)
def opAddI : VO2 := fun x y P => match x, y with
  | .int i, .int j => P (.sh (.int (i + j)))
  | .str a, .str b => a.length + b.length ≤ sizeLine ∧ P (.sh (.str (a ++ b)))
  | _, _ => False
theorem opV_addI : OpV K rAddI opAddI := by
  intro G S σ H e F x y dx dy P R A hx hy h k
  unfold opAddI at h
  split at h
  · cases hx.int; cases hy.int
    exact .inl ⟨_, _, rfl, rfl, flatRes A (.int _) h k⟩
  · obtain ⟨rfl, sa⟩ := hx.str
    obtain ⟨rfl, sb⟩ := hy.str
    exact .inr ⟨_, _, rfl, rfl, h.1, flatRes A (.str _ (sok_append sa sb h.1)) h.2 k⟩
  · exact h.elim
theorem vs_augAdd (i : Nat) {x : Str} {pos' : Pos} (hN : X.N.Nodup) (h : VEx X W a ua va) (hi : X.N[i]? = some x := by rfl) (hx : Loc X.env.scope x := by first | exact Or.inl rfl | exact Or.inr rfl)
    (hf : X.fn x = true ∨ X.env.scope.names.lookup x = some .local := by first | exact .inl rfl | exact .inr rfl | assumption) : VSx X W (.AugAssign (.Name x pos') .Add a pos) (tAug i ua rAddI) (vAug i va opAddI) :=
  ⟨ps_aug hN hi hx h.p (pip_of (opR_or iop_add iop_add_str)) hf, okS_aug i opV_addI h.o⟩
theorem vs_augSub (i : Nat) {x : Str} {pos' : Pos} (hN : X.N.Nodup) (h : VEx X W a ua va) (hi : X.N[i]? = some x := by rfl) (hx : Loc X.env.scope x := by first | exact Or.inl rfl | exact Or.inr rfl)
    (hf : X.fn x = true ∨ X.env.scope.names.lookup x = some .local := by first | exact .inl rfl | exact .inr rfl | assumption) : VSx X W (.AugAssign (.Name x pos') .Sub a pos) (tAug i ua (rI0 fun i j => .int (i - j))) (vAug i va opSub) :=
  ⟨ps_aug hN hi hx h.p (pip_of iop_sub) hf, okS_aug i opV_I0 h.o⟩
/-- e alone -/
def vDrop (t : VTE) : VTS := fun E e => t E.ex e fun _ e1 => E.nx e1
theorem vs_expr (h : VEx X W a ua va) (hs : swapsWith a none pos.line X.env = pure false := by rfl) : VSx X W (.Expr a pos) (tDrop ua) (vDrop va) :=
  ⟨ps_expr h.p hs, fun G S σ H e F E D A hq ho => h.o G S σ H e F E.ex _ _ ho.2.2.2.2 A hq fun r v S1 H1 e1 F1 s1 A1 q1 h1 => ho.1 S1 σ H1 e1 F1 A1 h1⟩
theorem vs_doc {x j pos'} : VSx X W (.Expr (.Constant (.str x) j pos) pos') tNext vNext := ⟨ps_doc, fun G S σ H e F E D A h ho => ho.1 S σ H e F A h⟩
/-- return e: what a local owns goes to the caller -/
def vRet (t : VTE) : VTS := fun E e => t E.ex e fun r e1 => match r with
  | .bor i => (match e1[i]? with
    | some (.own o) => E.rt (.own o) (e1.set i .un)
    | _ => False)
  | r => E.rt r e1
theorem At.empty {G : Gd} {S : Hp} {σ : L2.St} {H : Hp} {e : En} {F : Nat → List Addr} (A : At K G S σ H e F) {i : Nat} {o : O} (q : e[i]? = some (.own o)) : At K G S σ H (e.set i .un) (fun j => if j = i then [] else F j) := by
  have hi : i < e.length := (List.getElem?_eq_some_iff.mp q).1
  refine ⟨A.sh, A.bh, A.s0, A.nw, by rw [List.length_set]; exact A.len, fun j s hj => ?_, fun j hj => ?_, fun j a ha => ?_, fun j l a ha hb => ?_, fun j o' hj => ?_⟩
  · by_cases c : j = i
    · subst c
      rw [List.getElem?_set_self hi] at hj
      cases hj
      show (if j = j then [] else F j) = []
      rw [if_pos rfl]
    · rw [List.getElem?_set_ne (Ne.symm c)] at hj
      show SlAt K S H σ[j]? s (if j = i then [] else F j)
      rw [if_neg c]
      exact A.sl j s hj
  · show (if j = i then [] else F j) = []
    rw [List.length_set] at hj
    rw [if_neg (by omega)]
    exact A.fr j hj
  · have ha : a ∈ (if j = i then [] else F j) := ha
    by_cases c : j = i
    · rw [if_pos c] at ha; simp at ha
    · rw [if_neg c] at ha; exact A.fS j a ha
  · have ha : a ∈ (if j = i then [] else F j) := ha
    have hb : a ∈ (if l = i then [] else F l) := hb
    by_cases c : j = i
    · rw [if_pos c] at ha; simp at ha
    · rw [if_neg c] at ha
      by_cases c2 : l = i
      · rw [if_pos c2] at hb; simp at hb
      · rw [if_neg c2] at hb; exact A.dj j l a ha hb
  · by_cases c : j = i
    · subst c
      rw [List.getElem?_set_self hi] at hj
      cases hj
    · rw [List.getElem?_set_ne (Ne.symm c)] at hj
      exact A.pr j o' hj
theorem vs_ret (h : VEx X W a ua va) : VSx X W (.Return (some a) pos) (tRet ua) (vRet va) := by
  refine ⟨ps_ret h.p, fun G S σ H e F E D A hq ho => ?_⟩
  refine h.o G S σ H e F E.ex _ _ ho.2.2.2.2 A hq fun r v S1 H1 e1 F1 s1 A1 q1 h1 => ?_
  cases r with
  | sh d => exact ho.2.1 _ v S1 σ H1 e1 F1 A1 q1 h1
  | own o => exact ho.2.1 _ v S1 σ H1 e1 F1 A1 q1 h1
  | fld q i f => exact ho.2.1 _ v S1 σ H1 e1 F1 A1 q1 h1
  | bor i =>
    cases q : e1[i]? with
    | none => simp only [q] at h1
    | some s =>
      cases s with
      | own o =>
        simp only [q] at h1
        obtain ⟨p, hp, ow⟩ := A1.sl i _ q
        cases q1 with
        | bor hv =>
          rw [hp] at hv; cases hv
          refine ho.2.1 _ _ S1 σ H1 _ _ (A1.empty q) (.own ow fun a ha => ⟨(A1.fS i a ha).1, (A1.fS i a ha).2, fun j hj => ?_⟩) h1
          have hj : a ∈ (if j = i then [] else F1 j) := hj
          by_cases c : j = i
          · rw [if_pos c] at hj; simp at hj
          · rw [if_neg c] at hj; exact c (A1.dj j i a hj ha)
      | un => simp only [q] at h1
      | sh d => simp only [q] at h1
      | par o => simp only [q] at h1
def vRetN : VTS := fun E e => E.rt (.sh .non) e
theorem vs_retN : VSx X W (.Return none pos) tRetN vRetN := ⟨ps_retN, fun G S σ H e F E D A h ho => ho.2.1 _ _ S σ H e F A (.sh .non) h⟩
def vIfS (c : VTT) (t u : VTS) : VTS := fun E e => c E.ex e fun b e1 => if b = true then t E e1 else u E e1
theorem vs_if (h : VTx X W c wa ta) (h1 : VSs X W sts us ts) {sts' : List Stmt} (h2 : VSs X W sts' us' ts') : VSx X W (.If c sts sts' pos) (tIfS wa us us') (vIfS ta ts ts') := by
  refine ⟨ps_if h.p h1.p h2.p, fun G S σ H e F E D A hq ho => ?_⟩
  refine h.o G S σ H e F E.ex _ _ ho.2.2.2.2 A hq fun b S1 H1 e1 F1 s1 A1 q1 => ?_
  cases b with
  | true =>
    show us D σ H1
    exact h1.o G S1 σ H1 e1 F1 E D A1 q1 ho
  | false =>
    show us' D σ H1
    exact h2.o G S1 σ H1 e1 F1 E D A1 q1 ho
/-- while: so many turns at most -/
def vWhileN (c : VTT) (t : VTS) (E : VE) : Nat → En → Prop
  | 0, _ => False
  | n + 1, e => c E.ex e fun b e1 => if b = true then t { E with nx := vWhileN c t E n, ct := vWhileN c t E n, bk := E.nx } e1 else E.nx e1
def vWhile (c : VTT) (t : VTS) : VTS := fun E e => ∃ n, vWhileN c t E n e
theorem vs_while (hp : PassesOwn (model X.prog X.w) X.A X.env X.xe) (h : VTx X W c wa ta) (h1 : VSs X W sts us ts) : VSx X W (.While c sts [] pos) (tWhile wa us) (vWhile ta ts) := by
  refine ⟨ps_while hp h.p h1.p, fun G S σ H e F E D A hq ho => ?_⟩
  obtain ⟨n, hq⟩ := hq
  refine ⟨fun m σ' H' => ∃ S' e' F', At X.K G S' σ' H' e' F' ∧ vWhileN ta ts E m e', ⟨n, S, e, F, A, hq⟩, ?_⟩
  rintro m σ' H' ⟨S', e', F', A', hq'⟩
  cases m with
  | zero => exact hq'.elim
  | succ m =>
    refine h.o G S' σ' H' e' F' E.ex _ _ ho.2.2.2.2 A' hq' fun b S1 H1 e1 F1 s1 A1 q1 => ?_
    cases b with
    | true =>
      show ∃ N : L2.St → Hp → Prop, _
      refine ⟨fun σ2 H2 => ∃ S2 e2 F2, At X.K G S2 σ2 H2 e2 F2 ∧ vWhileN ta ts E m e2, fun σ2 H2 hN => ⟨m, Nat.lt_succ_self m, hN⟩, ?_⟩
      refine h1.o G S1 σ' H1 e1 F1 _ _ A1 q1 ⟨fun S σ H e F A q => ⟨S, e, F, A, q⟩, ho.2.1, ho.1, fun S σ H e F A q => ⟨S, e, F, A, q⟩, ho.2.2.2.2⟩
    | false =>
      show D.nx σ' H1
      exact ho.1 S1 σ' H1 e1 F1 A1 q1
end

/-! ### what is walked -/
/-- z: the slots of the ground; ok: what the slots must hold at each turn -/
structure WalkV (K : PySem.W.Frag) (z : Nat → Option (Option V)) (J : It) (S0 : Hp) (ds : List D) (ok : En → Prop) : Prop where
  go : ∀ G S σ H e F i, G.z = z → Same S0 S → At K G S σ H e F → ok e → i < ds.length → J.go i H
  yld : ∀ G S σ H e F i x H', G.z = z → Same S0 S → At K G S σ H e F → ok e → J.yld i H x H' → i < ds.length → ∃ S' d, Same S S' ∧ At K G S' σ H' e F ∧ ds[i]? = some d ∧ Rep K S' d x
  stop : ∀ G S σ H e F i, G.z = z → Same S0 S → At K G S σ H e F → ok e → ds.length ≤ i → J.stop i H
abbrev VI := VX → En → (List D → (En → Prop) → En → Prop) → Prop
def OkI (K : PySem.W.Frag) (W : WX) (ti : TI) (t : VI) : Prop := ∀ G S σ H e F (x : VX) (Q : List D → (En → Prop) → En → Prop) (R : It → Hp → Prop), XOk K G W x → At K G S σ H e F → t x e Q →
  (∀ J ds ok S' H' e' F', Same S S' → At K G S' σ H' e' F' → WalkV K G.z J S' ds ok → Q ds ok e' → R J H') → ti σ H R
structure VIx (X : Cx) (W : WX) (tg iter : Expr) (u : TI) (t : VI) : Prop where
  p : PI X tg iter u
  o : OkI X.K W u t
def okT : En → Prop := fun _ => True
theorem walk_list {z : Nat → Option (Option V)} {S : Hp} {p : Addr} {vs : List V} {ds : List D} (h : SqL K S p vs) (r : Reps K S ds vs) : WalkV K z (Itl K p) S ds okT where
  go := fun G S' σ H e F i hz s1 A _ hi => by
    obtain ⟨d, hd⟩ : ∃ d, ds[i]? = some d := ⟨ds[i], by simp [hi]⟩
    obtain ⟨v, hv, _⟩ := r.get hd
    exact ⟨vs, v, (s1.trans A.sh).seq h, hv⟩
  yld := fun G S' σ H e F i x H' hz s1 A _ hy hi => by
    obtain ⟨rfl, hy⟩ := hy
    have hv := hy vs ((s1.trans A.sh).seq h)
    obtain ⟨d, hd, rd⟩ := r.getV hv
    exact ⟨S', d, Same.refl _, A, hd, rd.mono s1⟩
  stop := fun G S' σ H e F i hz s1 A _ hi => ⟨vs, (s1.trans A.sh).seq h, by rw [← r.length]; exact hi⟩
theorem walk_tup {z : Nat → Option (Option V)} {S : Hp} {p : Addr} {vs : List V} {ds : List D} (h : SqT K S p vs) (r : Reps K S ds vs) : WalkV K z (Itt K p) S ds okT where
  go := fun G S' σ H e F i hz s1 A _ hi => by
    obtain ⟨d, hd⟩ : ∃ d, ds[i]? = some d := ⟨ds[i], by simp [hi]⟩
    obtain ⟨v, hv, _⟩ := r.get hd
    exact ⟨vs, v, sqT_mono (s1.trans A.sh) h, hv⟩
  yld := fun G S' σ H e F i x H' hz s1 A _ hy hi => by
    obtain ⟨rfl, hy⟩ := hy
    have hv := hy vs (sqT_mono (s1.trans A.sh) h)
    obtain ⟨d, hd, rd⟩ := r.getV hv
    exact ⟨S', d, Same.refl _, A, hd, rd.mono s1⟩
  stop := fun G S' σ H e F i hz s1 A _ hi => ⟨vs, sqT_mono (s1.trans A.sh) h, by rw [← r.length]; exact hi⟩
/-- a list in a slot that nobody may store into meanwhile -/
def okP (j : Nat) (ds : List D) : En → Prop := fun e => e[j]? = some (.par (.lst ds))
theorem At.parList {G : Gd} {S : Hp} {σ : L2.St} {H : Hp} {e : En} {F : Nat → List Addr} (A : At K G S σ H e F) {j : Nat} {ds : List D} {p : Addr} (h : okP j ds e) (hz : G.z j = some (some (.ref p))) : ∃ vs, H p = some (.lst vs) ∧ Reps K S ds vs := by
  obtain ⟨q, hq, ow⟩ := A.sl j _ h
  rw [A.pr j _ h, hz] at hq
  cases hq
  obtain ⟨vs, _, h1, h2⟩ := ow.listInv
  exact ⟨vs, h1, h2⟩
theorem walk_par {z : Nat → Option (Option V)} {S : Hp} {p : Addr} {j : Nat} {ds : List D} (hz : z j = some (some (.ref p))) : WalkV K z (Itl K p) S ds (okP j ds) where
  go := fun G S' σ H e F i ez s1 A h hi => by
    obtain ⟨vs, hv, r⟩ := A.parList h (by rw [ez]; exact hz)
    obtain ⟨d, hd⟩ : ∃ d, ds[i]? = some d := ⟨ds[i], by simp [hi]⟩
    obtain ⟨v, hv', _⟩ := r.get hd
    exact ⟨vs, v, SqL.of hv, hv'⟩
  yld := fun G S' σ H e F i x H' ez s1 A h hy hi => by
    obtain ⟨vs, hv, r⟩ := A.parList h (by rw [ez]; exact hz)
    obtain ⟨rfl, hy⟩ := hy
    have hv := hy vs (SqL.of hv)
    obtain ⟨d, hd, rd⟩ := r.getV hv
    exact ⟨S', d, Same.refl _, A, hd, rd⟩
  stop := fun G S' σ H e F i ez s1 A h hi => by
    obtain ⟨vs, hv, r⟩ := A.parList h (by rw [ez]; exact hz)
    exact ⟨vs, SqL.of hv, by rw [← r.length]; exact hi⟩
/-- ints from lo on, by c -/
def rangeD (lo c : Int) (n : Nat) : List D := (List.range n).map fun (i : Nat) => D.int (lo + (i : Int) * c)
theorem rangeD_get {lo c : Int} {n i : Nat} (h : i < n) : (rangeD lo c n)[i]? = some (.int (lo + (i : Int) * c)) := by
  unfold rangeD
  rw [List.getElem?_map, List.getElem?_range h]
  rfl
theorem rangeD_len (lo c : Int) (n : Nat) : (rangeD lo c n).length = n := by unfold rangeD; simp
theorem walk_range {z : Nat → Option (Option V)} {S : Hp} {lo : Int} {n : Nat} : WalkV K z (Itr lo n) S (rangeD lo 1 n) okT where
  go := fun G S' σ H e F i _ s1 A _ hi => by rw [rangeD_len] at hi; exact hi
  yld := fun G S' σ H e F i x H' _ s1 A _ hy hi => by
    obtain ⟨rfl, rfl⟩ := hy
    rw [rangeD_len] at hi
    refine ⟨S', _, Same.refl _, A, rangeD_get hi, ?_⟩
    rw [Int.mul_one]
    exact .int _
  stop := fun G S' σ H e F i _ s1 A _ hi => by rw [rangeD_len] at hi; exact hi
theorem walk_rangeC {z : Nat → Option (Option V)} {S : Hp} {lo c : Int} {n : Nat} : WalkV K z (Itc lo c n) S (rangeD lo c n) okT where
  go := fun G S' σ H e F i _ s1 A _ hi => by rw [rangeD_len] at hi; exact hi
  yld := fun G S' σ H e F i x H' _ s1 A _ hy hi => by
    obtain ⟨rfl, rfl⟩ := hy
    rw [rangeD_len] at hi
    exact ⟨S', _, Same.refl _, A, rangeD_get hi, .int _⟩
  stop := fun G S' σ H e F i _ s1 A _ hi => by rw [rangeD_len] at hi; exact hi
/-- the signs of a text -/
def signsD (z : Str) : List D := z.cps.toList.map fun c => D.str ⟨#[c]⟩
theorem walk_str {zz : Nat → Option (Option V)} {S : Hp} {z : Str} (s : SOk z) : WalkV K zz (Its z) S (signsD z) okT where
  go := fun G S' σ H e F i _ s1 A _ hi => by show i < z.cps.size; unfold signsD at hi; simpa using hi
  yld := fun G S' σ H e F i x H' _ s1 A _ hy hi => by
    obtain ⟨rfl, c, hc, rfl⟩ := hy
    have hc' : z.cps.toList[i]? = some c := by simpa using hc
    refine ⟨S', .str ⟨#[c]⟩, Same.refl _, A, ?_, .str _ (sok_sign s hc')⟩
    unfold signsD
    rw [List.getElem?_map, hc']
    rfl
  stop := fun G S' σ H e F i _ s1 A _ hi => by show z.cps.size ≤ i; unfold signsD at hi; simpa using hi
/-- items with their numbers -/
def enumD (ds : List D) : List D := (List.range ds.length).map fun (i : Nat) => D.tup [.int (i : Int), ds.getD i .non]
theorem enumD_len (ds : List D) : (enumD ds).length = ds.length := by unfold enumD; simp
theorem enumD_get {ds : List D} {i : Nat} {d : D} (h : ds[i]? = some d) : (enumD ds)[i]? = some (.tup [.int (i : Int), d]) := by
  have hi := (List.getElem?_eq_some_iff.mp h).1
  unfold enumD
  rw [List.getElem?_map, List.getElem?_range hi]
  show some (D.tup [.int (i : Int), ds.getD i .non]) = _
  rw [List.getD_eq_getElem?_getD, h]
  rfl
theorem walk_enumL {z : Nat → Option (Option V)} {S : Hp} {p : Addr} {vs : List V} {ds : List D} (h : SqL K S p vs) (r : Reps K S ds vs) : WalkV K z (Ite K p) S (enumD ds) okT where
  go := fun G S' σ H e F i _ s1 A _ hi => by
    rw [enumD_len] at hi
    obtain ⟨d, hd⟩ : ∃ d, ds[i]? = some d := ⟨ds[i], by simp [hi]⟩
    obtain ⟨v, hv, _⟩ := r.get hd
    exact ⟨vs, v, (s1.trans A.sh).seq h, hv⟩
  yld := fun G S' σ H e F i x H' _ s1 A _ hy hi => by
    obtain ⟨T, v, rfl, hT, rfl, hy⟩ := hy
    have hv := hy vs ((s1.trans A.sh).seq h)
    obtain ⟨d, hd, rd⟩ := r.getV hv
    obtain ⟨A2, s2, r2⟩ := A.newT hT (.cons (.int (i : Int)) (.cons (rd.mono s1) .nil))
    exact ⟨_, _, s2, A2, enumD_get hd, r2⟩
  stop := fun G S' σ H e F i _ s1 A _ hi => ⟨vs, (s1.trans A.sh).seq h, by rw [enumD_len] at hi; rw [← r.length]; exact hi⟩
theorem walk_enumT {z : Nat → Option (Option V)} {S : Hp} {p : Addr} {vs : List V} {ds : List D} (h : SqT K S p vs) (r : Reps K S ds vs) : WalkV K z (IteT K p) S (enumD ds) okT where
  go := fun G S' σ H e F i _ s1 A _ hi => by
    rw [enumD_len] at hi
    obtain ⟨d, hd⟩ : ∃ d, ds[i]? = some d := ⟨ds[i], by simp [hi]⟩
    obtain ⟨v, hv, _⟩ := r.get hd
    exact ⟨vs, v, sqT_mono (s1.trans A.sh) h, hv⟩
  yld := fun G S' σ H e F i x H' _ s1 A _ hy hi => by
    obtain ⟨T, v, rfl, hT, rfl, hy⟩ := hy
    have hv := hy vs (sqT_mono (s1.trans A.sh) h)
    obtain ⟨d, hd, rd⟩ := r.getV hv
    obtain ⟨A2, s2, r2⟩ := A.newT hT (.cons (.int (i : Int)) (.cons (rd.mono s1) .nil))
    exact ⟨_, _, s2, A2, enumD_get hd, r2⟩
  stop := fun G S' σ H e F i _ s1 A _ hi => ⟨vs, sqT_mono (s1.trans A.sh) h, by rw [enumD_len] at hi; rw [← r.length]; exact hi⟩
theorem walk_enumP {z : Nat → Option (Option V)} {S : Hp} {p : Addr} {j : Nat} {ds : List D} (hz : z j = some (some (.ref p))) : WalkV K z (Ite K p) S (enumD ds) (okP j ds) where
  go := fun G S' σ H e F i ez s1 A h hi => by
    obtain ⟨vs, hv, r⟩ := A.parList h (by rw [ez]; exact hz)
    rw [enumD_len] at hi
    obtain ⟨d, hd⟩ : ∃ d, ds[i]? = some d := ⟨ds[i], by simp [hi]⟩
    obtain ⟨v, hv', _⟩ := r.get hd
    exact ⟨vs, v, SqL.of hv, hv'⟩
  yld := fun G S' σ H e F i x H' ez s1 A h hy hi => by
    obtain ⟨vs, hv, r⟩ := A.parList h (by rw [ez]; exact hz)
    obtain ⟨T, v, rfl, hT, rfl, hy⟩ := hy
    have hv := hy vs (SqL.of hv)
    obtain ⟨d, hd, rd⟩ := r.getV hv
    obtain ⟨A2, s2, r2⟩ := A.newT hT (.cons (.int (i : Int)) (.cons rd .nil))
    exact ⟨_, _, s2, A2, enumD_get hd, r2⟩
  stop := fun G S' σ H e F i ez s1 A h hi => by
    obtain ⟨vs, hv, r⟩ := A.parList h (by rw [ez]; exact hz)
    exact ⟨vs, SqL.of hv, by rw [enumD_len] at hi; rw [← r.length]; exact hi⟩
section
variable {X : Cx} {W : WX} {pos p : Pos} {tg a b c : Expr} {ua ub uc : TE} {va vb vc : VTE}
def iSeqU (K : PySem.W.Frag) (tl : TE) : TI := fun σ H R => tl σ H fun x H1 => (∃ a, x = .ref a ∧ (∃ xs, SqL K H1 a xs) ∧ R (Itl K a) H1) ∨ (∃ a, x = .ref a ∧ (∃ xs, SqT K H1 a xs) ∧ R (Itt K a) H1) ∨ ∃ z, x = .str z ∧ R (Its z) H1
theorem pi_seqU (hl : PE X a ua) : PI X tg a (iSeqU X.K ua) := by
  refine ⟨fun pins s σ H R I h => ?_⟩
  refine thn (hl.run pins s σ H _ I h) fun v s1 ⟨x, H1, I1, r1, q1⟩ => ?_
  rcases q1 with ⟨b, e, ⟨xs, hq⟩, q⟩ | ⟨b, e, ⟨xs, hq⟩, q⟩ | ⟨z, e, q⟩
  · subst e
    cases r1
    obtain ⟨its, rv, p, hz⟩ := I1.list hq
    refine wpAny_pyIter_list p.isList ?_
    refine ⟨s1.heap.objs.size, [s1.heap.objs.size], _, _, H1, rfl, I1.kept (t' := s1.toks) fun b o e => Heap.get?_push_of_some _ e, turn_list b _, ⟨_, Heap.get?_push_size _ rfl, rfl, rfl⟩, fun b hb => ?_, q⟩
    have e : b = s1.heap.objs.size := by simpa using hb
    subst e
    exact I1.fpOk (Nat.le_refl _) (I1.hok.fresh (Nat.le_refl _))
  · subst e
    cases r1
    obtain ⟨its, rv, p, hz⟩ := I1.tuple hq
    refine wpAny_pyIter_tuple (show s1.heap.IsTuple b its.toArray from p) ?_
    refine ⟨s1.heap.objs.size, [s1.heap.objs.size], _, _, H1, rfl, I1.kept (t' := s1.toks) fun b o e => Heap.get?_push_of_some _ e, turn_tuple b _, ⟨_, Heap.get?_push_size _ rfl, rfl, rfl⟩, fun b hb => ?_, q⟩
    have e : b = s1.heap.objs.size := by simpa using hb
    subst e
    exact I1.fpOk (Nat.le_refl _) (I1.hok.fresh (Nat.le_refl _))
  · subst e
    obtain ⟨t, rfl⟩ := r1
    cases ha : z.cps.all (· < 128)
    · exact wpAny_pyIter_wide ha (pi_one (tk := s1.toks) I1 _ (turn_str _ z t "str_iterator" (.inr rfl)) ⟨_, Heap.get?_push_size _ rfl, rfl, rfl⟩ q)
    · exact wpAny_pyIter_ascii ha (pi_one (tk := s1.toks) I1 _ (turn_str _ z t "str_ascii_iterator" (.inl rfl)) ⟨_, Heap.get?_push_size _ rfl, rfl, rfl⟩ q)
/-- a list, a tuple, a text: shared from now on; a parameter's list (a locked one) stays what it is -/
def viSeq (t : VTE) : VI := fun x e Q => t x e fun r e1 => match fz r with
  | .sh (.lst ds) => Q ds okT e1
  | .sh (.tup ds) => Q ds okT e1
  | .sh (.str z) => Q (signsD z) okT e1
  | .sh (.scr ns) => Q (ns.map D.int) okT e1
  | .bor i => (match e1[i]? with
    | some (.par (.lst ds)) => Q ds (okP i ds) e1
    | _ => False)
  | _ => False
theorem vi_seq (h : VEx X W a ua va) : VIx X W tg a (iSeqU X.K ua) (viSeq va) := by
  refine ⟨pi_seqU h.p, fun G S σ H e F x Q R xo A hq k => ?_⟩
  refine h.o G S σ H e F x _ _ xo A hq fun r v S1 H1 e1 F1 s1 A1 q1 h1 => ?_
  have hn : ∀ o, fz r ≠ .own o := fun o z => by
    rw [z] at h1
    exact h1.elim
  obtain ⟨S2, s2, A2, q2⟩ := A1.opd q1 hn
  split at h1
  · rename_i ds z
    rw [z] at q2
    cases q2 with
    | sh q2 _ => cases q2 with
      | lst hp rp => exact .inl ⟨_, rfl, ⟨_, SqL.of (A2.sh _ _ hp)⟩, k _ ds _ S2 H1 e1 F1 (s1.trans s2) A2 (walk_list (SqL.of hp) rp) h1⟩
  · rename_i ds z
    rw [z] at q2
    cases q2 with
    | sh q2 _ => cases q2 with
      | tup hp rp => exact .inr (.inl ⟨_, rfl, ⟨_, sqT_mono A2.sh hp⟩, k _ ds _ S2 H1 e1 F1 (s1.trans s2) A2 (walk_tup hp rp) h1⟩)
  · rename_i z' z
    rw [z] at q2
    cases q2 with
    | sh q2 _ => cases q2 with
      | str _ hs => exact .inr (.inr ⟨_, rfl, k _ _ _ S2 H1 e1 F1 (s1.trans s2) A2 (walk_str hs) h1⟩)
  · rename_i ns z
    rw [z] at q2
    cases q2 with
    | sh q2 _ => cases q2 with
      | scr hp => exact .inl ⟨_, rfl, ⟨_, A2.sh.seq hp⟩, k _ _ _ S2 H1 e1 F1 (s1.trans s2) A2 (walk_list hp (reps_ints ns)) h1⟩
  · rename_i i z
    rw [z] at q2
    split at h1
    · rename_i ds he
      cases q2 with
      | bor q2 _ =>
        obtain ⟨p, hp, ow⟩ := A2.sl i _ he
        rw [q2] at hp
        cases hp
        obtain ⟨vs, _, hv, r⟩ := ow.listInv
        exact .inl ⟨_, rfl, ⟨_, SqL.of hv⟩, k _ ds _ S2 H1 e1 F1 (s1.trans s2) A2 (walk_par (by rw [← A2.pr i _ he]; exact q2)) h1⟩
    · exact h1.elim
  · exact h1.elim
/-- enumerate -/
def viEnum (t : VTA) : VI := fun x e Q => t x e fun rs e1 => match rs with
  | [.sh (.lst ds)] => Q (enumD ds) okT e1
  | [.sh (.tup ds)] => Q (enumD ds) okT e1
  | [.bor i] => (match e1[i]? with
    | some (.par (.lst ds)) => Q (enumD ds) (okP i ds) e1
    | _ => False)
  | _ => False
theorem vi_enum {tpos : Pos} {elts : List Expr} {kk : Nat} {ut : TA} {vt : VTA} (hm : X.mg "enumerate" = none) (h : VAx X W [a] ut vt) (hg : Gl X "enumerate" := by rfl) (hs : starEach [a] X.env = [(false, eval a X.env)] := by rfl) :
    VIx X W (.Tuple elts kk tpos) (.Call (.Name "enumerate" p) [a] [] pos) (iEnumU X.K ut) (viEnum vt) := by
  refine ⟨pi_enumU hg hm h.p hs, fun G S σ H e F x Q R xo A hq k => ?_⟩
  refine h.o G S σ H e F x _ _ xo A hq fun rs vs S1 H1 e1 F1 s1 A1 q1 h1 => ?_
  split at h1
  · cases q1 with
    | sh r t => cases t; cases r with
      | lst hp rp => exact ⟨_, _, rfl, .inl ⟨SqL.of (A1.sh _ _ hp), k _ _ _ S1 H1 e1 F1 s1 A1 (walk_enumL (SqL.of hp) rp) h1⟩⟩
  · cases q1 with
    | sh r t => cases t; cases r with
      | tup hp rp => exact ⟨_, _, rfl, .inr ⟨sqT_mono A1.sh hp, k _ _ _ S1 H1 e1 F1 s1 A1 (walk_enumT hp rp) h1⟩⟩
  · split at h1
    · rename_i i _ ds he
      cases q1 with
      | bor q2 t =>
        cases t
        obtain ⟨p, hp, ow⟩ := A1.sl i _ he
        rw [q2] at hp
        cases hp
        obtain ⟨vs, _, hv, r⟩ := ow.listInv
        exact ⟨_, _, rfl, .inl ⟨SqL.of hv, k _ _ _ S1 H1 e1 F1 s1 A1 (walk_enumP (by rw [← A1.pr i _ he]; exact q2)) h1⟩⟩
    · exact h1.elim
  · exact h1.elim
/-- range -/
def sml (i : Int) : Prop := -(2 ^ 62) ≤ i ∧ i < 2 ^ 62
def viRng1 (t : VTA) : VI := fun x e Q => t x e fun rs e1 => match rs with
  | [.sh (.int j)] => sml j ∧ Q (rangeD 0 1 j.toNat) okT e1
  | _ => False
def viRng2 (t : VTA) : VI := fun x e Q => t x e fun rs e1 => match rs with
  | [.sh (.int i), .sh (.int j)] => sml i ∧ sml j ∧ Q (rangeD i 1 (j - i).toNat) okT e1
  | _ => False
/-- downwards, or by a positive step -/
def rgN (i j c : Int) : Nat := if c = -1 then (i - j).toNat else (Builtin.Range.rangeSize i j c).toNat
def viRng3 (t : VTA) : VI := fun x e Q => t x e fun rs e1 => match rs with
  | [.sh (.int i), .sh (.int j), .sh (.int c)] => RgC i j c (Builtin.Range.rangeSize i j c).toNat ∧ Q (rangeD i c (Builtin.Range.rangeSize i j c).toNat) okT e1
  | _ => False
theorem vi_rng1 {ut : TA} {vt : VTA} (hm : X.mg "range" = none) (h : VAx X W [a] ut vt) (hg : Gl X "range" := by rfl) (hs : starEach [a] X.env = [(false, eval a X.env)] := by rfl) : VIx X W tg (.Call (.Name "range" p) [a] [] pos) (iRng1 ut) (viRng1 vt) := by
  refine ⟨pi_range1 hg hm h.p hs, fun G S σ H e F x Q R xo A hq k => ?_⟩
  refine h.o G S σ H e F x _ _ xo A hq fun rs vs S1 H1 e1 F1 s1 A1 q1 h1 => ?_
  split at h1
  · cases q1 with
    | sh r t => cases t; cases r with
      | int => exact ⟨_, rfl, h1.1.1, h1.1.2, k _ _ _ S1 H1 e1 F1 s1 A1 walk_range h1.2⟩
  · exact h1.elim
theorem vi_rng2 {ut : TA} {vt : VTA} (hm : X.mg "range" = none) (h : VAx X W [a, b] ut vt) (hg : Gl X "range" := by rfl) (hs : starEach [a, b] X.env = [(false, eval a X.env), (false, eval b X.env)] := by rfl) (hs2 : starEach [b] X.env = [(false, eval b X.env)] := by rfl) :
    VIx X W tg (.Call (.Name "range" p) [a, b] [] pos) (iRng2 ut) (viRng2 vt) := by
  refine ⟨pi_range2 hg hm h.p hs hs2, fun G S σ H e F x Q R xo A hq k => ?_⟩
  refine h.o G S σ H e F x _ _ xo A hq fun rs vs S1 H1 e1 F1 s1 A1 q1 h1 => ?_
  split at h1
  · cases q1 with
    | sh r t => cases r with
      | int => cases t with
        | sh r t => cases t; cases r with
          | int => exact ⟨_, _, rfl, ⟨h1.1.1, h1.1.2, h1.2.1.1, h1.2.1.2⟩, k _ _ _ S1 H1 e1 F1 s1 A1 walk_range h1.2.2⟩
  · exact h1.elim
theorem vi_rng3 {ut : TA} {vt : VTA} (hm : X.mg "range" = none) (h : VAx X W [a, b, c] ut vt) (hg : Gl X "range" := by rfl)
    (hs : starEach [a, b, c] X.env = (false, eval a X.env) :: starEach [b, c] X.env := by rfl) (hpl : (backTo pos (starEach [b, c] X.env)).any (·.1) = false := by rfl) :
    VIx X W tg (.Call (.Name "range" p) [a, b, c] [] pos) (iRng3 ut) (viRng3 vt) := by
  refine ⟨pi_range3 hg hm h.p hs hpl, fun G S σ H e F x Q R xo A hq k => ?_⟩
  refine h.o G S σ H e F x _ _ xo A hq fun rs vs S1 H1 e1 F1 s1 A1 q1 h1 => ?_
  split at h1
  · cases q1 with
    | sh r t => cases r with
      | int => cases t with
        | sh r t => cases r with
          | int => cases t with
            | sh r t => cases t; cases r with
              | int => exact ⟨_, _, _, _, rfl, h1.1, k _ _ _ S1 H1 e1 F1 s1 A1 walk_rangeC h1.2⟩
  · exact h1.elim
end
end VL

end

section
set_option Elab.async false
set_option linter.all false
set_option maxRecDepth 100000
set_option maxHeartbeats 4000000
namespace VL
open PySem PySem.Spec PyProof.Rows L2
variable {K : PySem.W.Frag}

/-! ### loops -/
def vForL (g : VG) (t : VTS) (E : VE) (ok : En → Prop) : List D → En → Prop
  | [], e => ok e ∧ E.nx e
  | d :: ds, e => ok e ∧ g d E.ex e fun e1 => t { E with nx := vForL g t E ok ds, ct := vForL g t E ok ds, bk := E.nx } e1
def vFor (ti : VI) (g : VG) (t : VTS) : VTS := fun E e => ti E.ex e fun ds ok e1 => vForL g t E ok ds e1
theorem At.base {G : Gd} {S : Hp} {σ : L2.St} {H : Hp} {e : En} {F : Nat → List Addr} (A : At K G S σ H e F) : At K ⟨G.B, S, G.z⟩ S σ H e F :=
  ⟨A.sh, A.bh, Same.refl S, fun a h h0 => absurd h0 h, A.len, A.sl, A.fr, A.fS, A.dj, A.pr⟩
theorem At.unbase {G : Gd} {S1 S : Hp} {σ : L2.St} {H : Hp} {e : En} {F : Nat → List Addr} (hs : Same G.S0 S1) (hn : ∀ a, S1 a ≠ none → G.S0 a = none → G.B a = none) (A : At K ⟨G.B, S1, G.z⟩ S σ H e F) : At K G S σ H e F :=
  ⟨A.sh, A.bh, hs.trans A.s0, fun a h h0 => by
    cases q : S1 a with
    | none => exact A.nw a h q
    | some o => exact hn a (by rw [q]; simp) h0, A.len, A.sl, A.fr, A.fS, A.dj, A.pr⟩
theorem ReAt.reg {G G' : Gd} {S H : Hp} {σ : L2.St} {F : Nat → List Addr} {r : Re} {v : V} (hB : G'.B = G.B) (h : ReAt K G S H σ F r v) : ReAt K G' S H σ F r v := by
  cases h with
  | sh h => exact .sh h
  | own h hf => exact .own h (by rw [hB]; exact hf)
  | bor h => exact .bor h
  | fld => exact .fld
theorem EndsOk.reg {G G' : Gd} {W : WX} {E : VE} {D : Ends} (hB : G.B = G'.B) (hA : ∀ S σ H e F, At K G' S σ H e F → At K G S σ H e F) (h : EndsOk K G W E D) : EndsOk K G' W E D :=
  ⟨fun S σ H e F A q => h.1 S σ H e F (hA _ _ _ _ _ A) q, fun r v S σ H e F A rr q => h.2.1 r v S σ H e F (hA _ _ _ _ _ A) (rr.reg hB) q, fun S σ H e F A q => h.2.2.1 S σ H e F (hA _ _ _ _ _ A) q,
    fun S σ H e F A q => h.2.2.2.1 S σ H e F (hA _ _ _ _ _ A) q, fun cls pay d S σ H e F A p q => h.2.2.2.2 cls pay d S σ H e F (hA _ _ _ _ _ A) p q⟩
section
variable {X : Cx} {W : WX} {pos : Pos} {tg iter : Expr} {body : List Stmt} {ui : TI} {vi : VI} {ug : TG} {vg : VG} {ix : List Nat} {us : TS} {ts : VTS}
theorem vs_for (hp : PassesOwn (model X.prog X.w) X.A X.env X.xe) (hi : VIx X W tg iter ui vi) (hg : VGx X W tg ug vg ix) (hb : VSs X W body us ts) (hc : X.calm = true := by rfl)
    (hs : ∀ x, foldedSetIterable iter X.env x = pure x := by intro _; rfl) : VSx X W (.For tg iter body [] pos) (tFor ui ug us) (vFor vi vg ts) := by
  refine ⟨ps_for hp hc hi.p hg.p hb.p hs, fun G S σ H e F E D A hq ho => ?_⟩
  refine hi.o G S σ H e F E.ex _ _ ho.2.2.2.2 A hq fun J ds ok S1 H1 e1 F1 s1 A1 wk h1 => ?_
  have un : ∀ S σ H e F, At X.K ⟨G.B, S1, G.z⟩ S σ H e F → At X.K G S σ H e F := fun S σ H e F A' => A'.unbase A1.s0 A1.nw
  have ho' : EndsOk X.K ⟨G.B, S1, G.z⟩ W E D := EndsOk.reg (G := G) (G' := ⟨G.B, S1, G.z⟩) rfl un ho
  refine ⟨fun i m σ' H' => m = ds.length - i ∧ i ≤ ds.length ∧ ∃ S' e' F', At X.K ⟨G.B, S1, G.z⟩ S' σ' H' e' F' ∧ vForL vg ts E ok (ds.drop i) e', ⟨ds.length, by simp, Nat.zero_le _, S1, e1, F1, A1.base, h1⟩, ?_⟩
  rintro i m σ' H' ⟨rfl, hi', S', e', F', A', h'⟩
  by_cases hlt : i < ds.length
  · obtain ⟨d, hd⟩ : ∃ d, ds[i]? = some d := ⟨ds[i], by simp [hlt]⟩
    have hdr : ds.drop i = d :: ds.drop (i + 1) := by
      rw [List.drop_eq_getElem_cons hlt]
      rw [List.getElem?_eq_getElem hlt] at hd
      cases hd
      rfl
    rw [hdr] at h'
    obtain ⟨hok, h'⟩ := h'
    refine .inr ⟨wk.go ⟨G.B, S1, G.z⟩ _ _ _ _ _ i rfl A'.s0 A' hok hlt, fun σ2 H2 => ∃ S2 e2 F2, At X.K ⟨G.B, S1, G.z⟩ S2 σ2 H2 e2 F2 ∧ vForL vg ts E ok (ds.drop (i + 1)) e2, fun σ2 H2 q => ⟨ds.length - (i + 1), by omega, rfl, hlt, q⟩, fun x H2 y => ?_⟩
    obtain ⟨S2, d', s2, A2, hd', rd⟩ := wk.yld ⟨G.B, S1, G.z⟩ _ _ _ _ _ i x H2 rfl A'.s0 A' hok y hlt
    rw [hd] at hd'
    cases hd'
    refine hg.o _ S2 σ' H2 e' F' d x E.ex _ _ ho'.2.2.2.2 A2 rd h' fun S3 σ3 H3 e3 F3 s3 A3 _ q3 => ?_
    exact hb.o _ S3 σ3 H3 e3 F3 _ _ A3 q3 ⟨fun S σ H e F A q => ⟨S, e, F, A, q⟩, ho'.2.1, ho'.1, fun S σ H e F A q => ⟨S, e, F, A, q⟩, ho'.2.2.2.2⟩
  · have ei : i = ds.length := by omega
    subst ei
    rw [List.drop_length] at h'
    exact .inl ⟨wk.stop ⟨G.B, S1, G.z⟩ _ _ _ _ _ _ rfl A'.s0 A' h'.1 (Nat.le_refl _), ho'.1 S' σ' H' e' F' A' h'.2⟩
end

/-! ### a slot nobody stores into meanwhile -/
def lk (i : Nat) (Q : En → Prop) : En → Prop := fun e => match e[i]? with
  | some (.par o) => Q (e.set i (.own o))
  | _ => False
def vLock (i : Nat) (t : VTS) : VTS := fun E e => match e[i]? with
  | some (.own o) => t ⟨lk i E.nx, fun r => lk i (E.rt r), lk i E.bk, lk i E.ct, fun c => lk i (E.ex c)⟩ (e.set i (.par o))
  | some (.par _) => t E e
  | _ => False
theorem At.locked {G : Gd} {S : Hp} {σ : L2.St} {H : Hp} {e : En} {F : Nat → List Addr} (A : At K G S σ H e F) {i : Nat} {o : O} (h : e[i]? = some (.own o)) : At K ⟨G.B, G.S0, fun j => if j = i then σ[i]? else G.z j⟩ S σ H (e.set i (.par o)) F := by
  have hi : i < e.length := (List.getElem?_eq_some_iff.mp h).1
  refine ⟨A.sh, A.bh, A.s0, A.nw, by rw [List.length_set]; exact A.len, fun j s hj => ?_, fun j hj => A.fr j (by rw [List.length_set] at hj; exact hj), A.fS, A.dj, fun j o' hj => ?_⟩
  · by_cases c : j = i
    · subst c
      rw [List.getElem?_set_self hi] at hj
      cases hj
      exact A.sl j (.own o) h
    · rw [List.getElem?_set_ne (Ne.symm c)] at hj
      exact A.sl j s hj
  · show σ[j]? = if j = i then σ[i]? else G.z j
    by_cases c : j = i
    · rw [if_pos c, c]
    · rw [if_neg c]
      rw [List.getElem?_set_ne (Ne.symm c)] at hj
      exact A.pr j o' hj
theorem At.unlocked {G : Gd} {z : Option (Option V)} {S : Hp} {σ : L2.St} {H : Hp} {e : En} {F : Nat → List Addr} {i : Nat} {o : O} (A : At K ⟨G.B, G.S0, fun j => if j = i then z else G.z j⟩ S σ H e F) (h : e[i]? = some (.par o)) : At K G S σ H (e.set i (.own o)) F := by
  have hi : i < e.length := (List.getElem?_eq_some_iff.mp h).1
  refine ⟨A.sh, A.bh, A.s0, A.nw, by rw [List.length_set]; exact A.len, fun j s hj => ?_, fun j hj => A.fr j (by rw [List.length_set] at hj; exact hj), A.fS, A.dj, fun j o' hj => ?_⟩
  · by_cases c : j = i
    · subst c
      rw [List.getElem?_set_self hi] at hj
      cases hj
      exact A.sl j (.par o) h
    · rw [List.getElem?_set_ne (Ne.symm c)] at hj
      exact A.sl j s hj
  · by_cases c : j = i
    · subst c
      rw [List.getElem?_set_self hi] at hj
      cases hj
    · rw [List.getElem?_set_ne (Ne.symm c)] at hj
      have q := A.pr j o' hj
      have q : σ[j]? = if j = i then z else G.z j := q
      rw [if_neg c] at q
      exact q
theorem lk_at {G : Gd} {z : Option (Option V)} {i : Nat} {P : En → Prop} {S : Hp} {σ : L2.St} {H : Hp} {e : En} {F : Nat → List Addr} (A : At K ⟨G.B, G.S0, fun j => if j = i then z else G.z j⟩ S σ H e F) (h : lk i P e) :
    ∃ e', At K G S σ H e' F ∧ P e' := by
  unfold lk at h
  split at h
  · rename_i o ho
    exact ⟨_, A.unlocked ho, h⟩
  · exact h.elim
section
variable {X : Cx} {W : WX} {st : Stmt} {us : TS} {ts : VTS}
theorem vs_lock (i : Nat) (h : VSx X W st us ts) : VSx X W st us (vLock i ts) := by
  refine ⟨h.p, fun G S σ H e F E D A hq ho => ?_⟩
  unfold vLock at hq
  split at hq
  · rename_i o hi
    refine h.o _ S σ H _ F _ D (A.locked hi) hq ⟨fun S σ H e F A q => ?_, fun r v S σ H e F A rr q => ?_, fun S σ H e F A q => ?_, fun S σ H e F A q => ?_, fun cls pay d S σ H e F A p q => ?_⟩
    · obtain ⟨e', A', q⟩ := lk_at A q
      exact ho.1 _ _ _ _ _ A' q
    · obtain ⟨e', A', q⟩ := lk_at A q
      have rr' : ReAt X.K G S H σ F r v := by
        cases rr with
        | sh h => exact .sh h
        | own h hf => exact .own h hf
        | bor h => exact .bor h
        | fld => exact .fld
      exact ho.2.1 _ _ _ _ _ _ _ A' rr' q
    · obtain ⟨e', A', q⟩ := lk_at A q
      exact ho.2.2.1 _ _ _ _ _ A' q
    · obtain ⟨e', A', q⟩ := lk_at A q
      exact ho.2.2.2.1 _ _ _ _ _ A' q
    · obtain ⟨e', A', q⟩ := lk_at A q
      exact ho.2.2.2.2 _ _ _ _ _ _ _ _ A' p q
  · exact h.o G S σ H e F E D A hq ho
  · exact hq.elim
end

/-! ### an own dict that is walked: locked meanwhile -/
def lkD (i : Nat) (o : Obj) (ws : List (Key × V)) (kvs : List (Key × D)) (Q : En → Prop) : En → Prop := fun e => e[i]? = some (.par (.fdic o ws kvs)) ∧ Q (e.set i (.own (.dic kvs)))
def vLockD (i : Nat) (t : VTS) : VTS := fun E e => match e[i]? with
  | some (.own (.dic kvs)) => ∀ o ws, t ⟨lkD i o ws kvs E.nx, fun r => lkD i o ws kvs (E.rt r), lkD i o ws kvs E.bk, lkD i o ws kvs E.ct, fun _ _ => False⟩ (e.set i (.par (.fdic o ws kvs)))
  | _ => False
theorem lkD_at {G : Gd} {z : Option (Option V)} {i : Nat} {o : Obj} {ws : List (Key × V)} {kvs : List (Key × D)} {P : En → Prop} {S : Hp} {σ : L2.St} {H : Hp} {e : En} {F : Nat → List Addr} {p : Addr} (hz : z = some (some (.ref p)))
    (A : At K ⟨G.B, G.S0, fun j => if j = i then z else G.z j⟩ S σ H e F) (h : lkD i o ws kvs P e) : H p = some (.frz o (.dK ws)) ∧ F i = [p] ∧ At K G S σ (upd H p (.dK ws)) (e.set i (.own (.dic kvs))) F ∧ P (e.set i (.own (.dic kvs))) := by
  obtain ⟨h1, h2⟩ := h
  obtain ⟨q, hq, ow⟩ := A.sl i _ h1
  have hp := A.pr i _ h1
  have hp : σ[i]? = if i = i then z else G.z i := hp
  rw [if_pos rfl, hz] at hp
  rw [hp] at hq
  cases hq
  generalize hF : F i = f at ow
  cases ow with
  | fdic hH rk =>
    have hi : i < e.length := (List.getElem?_eq_some_iff.mp h1).1
    have A1 := A.write (i := i) (o := .fdic o ws kvs) (o' := .dic kvs) (H' := upd H p (.dK ws)) (by unfold ownO; rw [h1]) hp (fun a ha => upd_ne fun z => ha (by rw [hF, z]; simp)) (by rw [hF]; exact .dic upd_same rk)
    have e1 : setO e i (.dic kvs) = e.set i (.par (.dic kvs)) := by unfold setO; rw [h1]
    rw [e1] at A1
    have A2 := A1.unlocked (i := i) (o := .dic kvs) (List.getElem?_set_self hi)
    rw [List.set_set] at A2
    exact ⟨hH, rfl, A2, h2⟩
section
variable {X : Cx} {W : WX} {st : Stmt} {us : TS} {ts : VTS}
theorem vs_lockD (i : Nat) (h : VSx X W st us ts) : VSx X W st (tLock us) (vLockD i ts) := by
  refine ⟨ps_lock h.p, fun G S σ H e F E D A hq ho => ?_⟩
  unfold vLockD at hq
  split at hq
  · rename_i kvs hi
    obtain ⟨p, hp, ow⟩ := A.sl i _ hi
    obtain ⟨ws, ef, hH, rk⟩ := ow.dictInv
    refine ⟨p, .dK ws, hH, trivial, fun od => ?_⟩
    have A1 := A.locked hi
    have hl : i < e.length := (List.getElem?_eq_some_iff.mp hi).1
    have A2 := A1.write (i := i) (o := .dic kvs) (o' := .fdic od ws kvs) (H' := upd H p (.frz od (.dK ws))) (by unfold ownO; rw [List.getElem?_set_self hl]) hp (fun a ha => upd_ne fun z => ha (by rw [ef, z]; simp)) (by rw [ef]; exact .fdic upd_same rk)
    have e1 : setO (e.set i (.par (.dic kvs))) i (.fdic od ws kvs) = e.set i (.par (.fdic od ws kvs)) := by unfold setO; rw [List.getElem?_set_self hl]; exact List.set_set ..
    rw [e1] at A2
    refine h.o _ S σ _ _ F _ _ A2 (hq od ws) ⟨fun S σ' H e F A q => ?_, fun r v S σ' H e F A rr q => ?_, fun S σ' H e F A q => ?_, fun S σ' H e F A q => ?_, fun cls pay d S σ' H e F A p q => q.elim⟩
    · obtain ⟨z1, _, A', q⟩ := lkD_at hp A q
      exact ⟨z1, ho.1 _ _ _ _ _ A' q⟩
    · obtain ⟨z1, z2, A', q⟩ := lkD_at hp A q
      refine ⟨z1, ho.2.1 _ _ _ _ _ _ _ A' ?_ q⟩
      cases rr with
      | sh h => exact .sh h
      | own h hf => exact .own (h.keep (Same.refl _) fun a ha => upd_ne fun z => (hf a ha).2.2 i (by rw [z2, z]; simp)) hf
      | bor h => exact .bor h
      | fld => exact .fld
    · obtain ⟨z1, _, A', q⟩ := lkD_at hp A q
      exact ⟨z1, ho.2.2.1 _ _ _ _ _ A' q⟩
    · obtain ⟨z1, _, A', q⟩ := lkD_at hp A q
      exact ⟨z1, ho.2.2.2.1 _ _ _ _ _ A' q⟩
  · exact hq.elim
end

/-! ### comprehensions -/
/-- the slots of a block hold nothing of one's own -/
def offS (e : En) : List Nat → Prop
  | [] => True
  | v :: vs => (match e[v]? with
    | some (.sh _) => True
    | some .un => True
    | none => True
    | _ => False) ∧ offS e vs
def wipeE (e : En) : List Nat → En
  | [] => e
  | v :: vs => (wipeE e vs).set v .un
theorem wipeE_length (e : En) : ∀ vs : List Nat, (wipeE e vs).length = e.length
  | [] => rfl
  | v :: vs => by unfold wipeE; rw [List.length_set, wipeE_length e vs]
theorem wipeE_get {e : En} {j : Nat} {s : Sl} : ∀ {vs : List Nat}, (wipeE e vs)[j]? = some s → (j ∈ vs ∧ s = .un) ∨ (j ∉ vs ∧ e[j]? = some s)
  | [], h => .inr ⟨by simp, h⟩
  | v :: vs, h => by
    unfold wipeE at h
    by_cases c : j = v
    · subst c
      have hl : j < (wipeE e vs).length := by
        have := (List.getElem?_eq_some_iff.mp h).1
        rw [List.length_set] at this
        exact this
      rw [List.getElem?_set_self hl] at h
      cases h
      exact .inl ⟨by simp, rfl⟩
    · rw [List.getElem?_set_ne (Ne.symm c)] at h
      rcases wipeE_get h with ⟨h1, h2⟩ | ⟨h1, h2⟩
      · exact .inl ⟨List.mem_cons_of_mem _ h1, h2⟩
      · refine .inr ⟨fun z => ?_, h2⟩
        rcases List.mem_cons.mp z with z | z
        · exact c z
        · exact h1 z
theorem wipe_get {σ : L2.St} {j : Nat} : ∀ {vs : List Nat}, j ∉ vs → (wipe σ vs)[j]? = σ[j]?
  | [], _ => rfl
  | v :: vs, h => by
    unfold wipe
    rw [List.getElem?_set_ne (fun z => h (by rw [z]; simp))]
    exact wipe_get fun z => h (List.mem_cons_of_mem _ z)
theorem offS_get {e : En} : ∀ {vs : List Nat} {v : Nat}, offS e vs → v ∈ vs → ∀ s, e[v]? = some s → s = .un ∨ ∃ d, s = .sh d
  | [], _, _, h => by simp at h
  | w :: vs, v, h, hv => fun s hs => by
    rcases List.mem_cons.mp hv with rfl | hv
    · have q := h.1
      rw [hs] at q
      cases s with
      | un => exact .inl rfl
      | sh d => exact .inr ⟨d, rfl⟩
      | own o => exact q.elim
      | par o => exact q.elim
    · exact offS_get h.2 hv s hs
section
variable {G : Gd} {S S' : Hp} {σ : L2.St} {H H' : Hp} {e : En} {F : Nat → List Addr}
theorem At.wiped (A : At K G S σ H e F) {vs : List Nat} (h : offS e vs) : At K G S (wipe σ vs) H (wipeE e vs) F := by
  refine ⟨A.sh, A.bh, A.s0, A.nw, by rw [wipeE_length, wipe_length]; exact A.len, fun j s hj => ?_, fun j hj => A.fr j (by rw [wipeE_length] at hj; exact hj), A.fS, A.dj, fun j o hj => ?_⟩
  · rcases wipeE_get hj with ⟨hm, rfl⟩ | ⟨hm, hj⟩
    · show F j = []
      by_cases hl : e.length ≤ j
      · exact A.fr j hl
      · obtain ⟨s, hs⟩ : ∃ s, e[j]? = some s := ⟨e[j]'(by omega), by simp⟩
        have sl := A.sl j s hs
        rcases offS_get h hm s hs with rfl | ⟨d, rfl⟩
        · exact sl
        · exact sl.1
    · rw [wipe_get hm]
      exact A.sl j s hj
  · rcases wipeE_get hj with ⟨hm, z⟩ | ⟨hm, hj⟩
    · cases z
    · rw [wipe_get hm]
      exact A.pr j o hj
theorem At.unwiped {vs : List Nat} {σ0 : L2.St} (A : At K G S σ0 H e F) (h : ∀ v ∈ vs, ∀ s, e[v]? = some s → s = .un) (hw : wipe σ vs = σ0) : At K G S σ H e F := by
  subst hw
  refine ⟨A.sh, A.bh, A.s0, A.nw, by rw [A.len, wipe_length], fun j s hj => ?_, A.fr, A.fS, A.dj, fun j o hj => ?_⟩
  · by_cases hm : j ∈ vs
    · have q := h j hm s hj
      subst q
      exact A.sl j .un hj
    · have q := A.sl j s hj
      rw [wipe_get hm] at q
      exact q
  · by_cases hm : j ∈ vs
    · have q := h j hm _ hj
      cases q
    · rw [← wipe_get hm]
      exact A.pr j o hj
/-- a new thing in one's own care -/
theorem At.ward (A : At K G S σ H e F) {p : Addr} {o : HO} (hp : H p = none) : At K ⟨upd G.B p o, S, G.z⟩ S σ (upd H p o) e F := by
  have A1 := A.laid (o := o) hp
  obtain ⟨h1, h2, h3⟩ := A.free hp
  refine ⟨A1.sh, fun a u ha => ?_, Same.refl S, fun a h h0 => absurd h0 h, A1.len, A1.sl, A1.fr, fun i a ha => ⟨(A1.fS i a ha).1, ?_⟩, A1.dj, A1.pr⟩
  · have ha : upd G.B p o a = some u := ha
    by_cases c : a = p
    · subst c; rw [upd_same] at ha ⊢; exact ha
    · rw [upd_ne c] at ha; exact A1.bh a u ha
  · show upd G.B p o a = none
    rw [upd_ne (fun z => h3 i (by rw [← z]; exact ha))]
    exact (A1.fS i a ha).2
theorem At.warded {B S0 : Hp} {z : Nat → Option (Option V)} {p : Addr} {o : HO} (h0 : S0 p = none) (A : At K ⟨upd B p o, S0, z⟩ S σ H e F) : H p = some o ∧ S p = none ∧ ∀ i, p ∉ F i := by
  refine ⟨A.bh p o upd_same, ?_, fun i hi => ?_⟩
  · cases q : S p with
    | none => rfl
    | some u =>
      have z : upd B p o p = none := A.nw p (by rw [q]; simp) h0
      rw [upd_same] at z
      cases z
  · have z : upd B p o p = none := (A.fS i p hi).2
    rw [upd_same] at z
    cases z
theorem At.wardSet {B S0 : Hp} {z : Nat → Option (Option V)} {p : Addr} {o o' : HO} (h0 : S0 p = none) (A : At K ⟨upd B p o, S0, z⟩ S σ H e F) : At K ⟨upd B p o', S0, z⟩ S σ (upd H p o') e F := by
  obtain ⟨w1, w2, w3⟩ := A.warded h0
  have nS : ∀ a, S a ≠ none → upd H p o' a = H a := fun a ha => upd_ne fun z => ha (z ▸ w2)
  have nF : ∀ i a, a ∈ F i → upd H p o' a = H a := fun i a ha => upd_ne fun z => w3 i (z ▸ ha)
  refine ⟨fun a u ha => by rw [nS a (by rw [ha]; simp)]; exact A.sh a u ha, fun a u ha => ?_, A.s0, fun a h hz => ?_, A.len, fun i s hs => ?_, A.fr, fun i a ha => ⟨(A.fS i a ha).1, ?_⟩, A.dj, A.pr⟩
  · have ha : upd B p o' a = some u := ha
    by_cases c : a = p
    · subst c; rw [upd_same] at ha ⊢; exact ha
    · rw [upd_ne c] at ha ⊢
      exact A.bh a u (show upd B p o a = some u by rw [upd_ne c]; exact ha)
  · show upd B p o' a = none
    have q : upd B p o a = none := A.nw a h hz
    by_cases c : a = p
    · subst c; exact absurd w2 h
    · rw [upd_ne c] at q ⊢; exact q
  · have h := A.sl i s hs
    cases s with
    | un => exact h
    | sh d => exact h
    | own o => obtain ⟨q, hq, ow⟩ := h; exact ⟨q, hq, ow.keep (Same.refl S) (nF i)⟩
    | par o => obtain ⟨q, hq, ow⟩ := h; exact ⟨q, hq, ow.keep (Same.refl S) (nF i)⟩
  · show upd B p o' a = none
    have q : upd B p o a = none := (A.fS i a ha).2
    rw [upd_ne (fun z => w3 i (by rw [← z]; exact ha))] at q ⊢
    exact q
theorem At.unward {S1 : Hp} {p : Addr} {o : HO} (hB : G.B p = none) (h0 : S1 p = none) (hs : Same G.S0 S1) (hn : ∀ a, S1 a ≠ none → G.S0 a = none → G.B a = none) (A : At K ⟨upd G.B p o, S1, G.z⟩ S σ H e F) : At K G S σ H e F := by
  obtain ⟨w1, w2, w3⟩ := A.warded h0
  have ne : ∀ a, G.B a ≠ none → a ≠ p := fun a ha z => ha (z ▸ hB)
  refine ⟨A.sh, fun a u ha => A.bh a u (show upd G.B p o a = some u by rw [upd_ne (ne a (by rw [ha]; simp))]; exact ha), hs.trans A.s0, fun a h hz => ?_, A.len, A.sl, A.fr, fun i a ha => ⟨(A.fS i a ha).1, ?_⟩, A.dj, A.pr⟩
  · cases q : S1 a with
    | none =>
      have z : upd G.B p o a = none := A.nw a h q
      by_cases c : a = p
      · rw [c]; exact hB
      · rw [upd_ne c] at z; exact z
    | some u => exact hn a (by rw [q]; simp) hz
  · have z : upd G.B p o a = none := (A.fS i a ha).2
    rw [upd_ne (fun z => w3 i (by rw [← z]; exact ha))] at z
    exact z
end
abbrev W0 : WX := fun _ _ _ _ => False
abbrev x0 : VX := fun _ _ => False
theorem xok0 {G : Gd} {W : WX} : XOk K G W x0 := fun _ _ _ _ _ _ _ _ _ _ h => h.elim
/-- tests of a comprehension -/
structure VTs (X : Cx) (W : WX) (es : List Expr) (u : TT) (t : VTT) : Prop where
  p : PTs X es u
  o : OkT X.K W u t
def vYes : VTT := fun _ e Q => Q true e
theorem vts_nil {X : Cx} {W : WX} : VTs X W [] tYes vYes := ⟨pts_nil, fun G S σ H e F x Q R xo A h k => k true S H e F (Same.refl S) A h⟩
theorem vts_one {X : Cx} {W : WX} {c : Expr} {u : TT} {t : VTT} (h : VTx X W c u t) : VTs X W [c] u t := ⟨pts_one h.p, h.o⟩
def vLcL (g : VG) (c : VTT) (t : VTE) (vs : List Nat) (ok : En → Prop) (Q : Re → En → Prop) : List D → List D → En → Prop
  | [], acc, e => ok e ∧ Q (.own (.lst acc)) e
  | d :: ds, acc, e => ok e ∧ g d x0 e fun e1 => c x0 e1 fun b e2 =>
    if b = true then t x0 e2 fun r e3 => match fz r with
      | .sh y => offS e3 vs ∧ acc.length < sizeLine ∧ vLcL g c t vs ok Q ds (acc ++ [y]) (wipeE e3 vs)
      | _ => False
    else offS e2 vs ∧ vLcL g c t vs ok Q ds acc (wipeE e2 vs)
def vLc (ti : VI) (g : VG) (c : VTT) (t : VTE) (vs : List Nat) : VTE := fun x e Q => ti x e fun ds ok e1 => offS e1 vs ∧ vLcL g c t vs ok Q ds [] (wipeE e1 vs)
theorem wipeE_off {e : En} {vs : List Nat} : ∀ v ∈ vs, ∀ s, (wipeE e vs)[v]? = some s → s = .un := fun v hv s hs => by
  rcases wipeE_get hs with ⟨_, h⟩ | ⟨h, _⟩
  · exact h
  · exact absurd hv h
section
variable {W : WX} {ui : TI} {vi : VI} {ug : TG} {vg : VG} {ix : List Nat} {ut : TT} {vt : VTT} {ue : TE} {ve : VTE} {vs : List Nat}
theorem okE_lc (hi : OkI K W ui vi) (hg : OkG K W0 ug vg ix) (ht : OkT K W0 ut vt) (he : OkE K W0 ue ve) (hix : ∀ i ∈ ix, i ∈ vs) : OkE K W (tLc ui ug ut ue vs) (vLc vi vg vt ve vs) := by
  intro G S σ H e F x Q R xo A hq k
  refine hi G S σ H e F x _ _ xo A hq fun J ds ok S1 H1 e1 F1 s1 A1 wk h1 => ?_
  obtain ⟨off1, h1⟩ := h1
  intro D hD
  obtain ⟨fD1, fD2, fD3⟩ := A1.free hD
  refine ⟨fun i m H' => m = ds.length - i ∧ i ≤ ds.length ∧ ∃ (S' : Hp) (e' : En) (F' : Nat → List Addr) (acc : List VL.D) (ws : List V), Reps K S' acc ws ∧ At K ⟨upd G.B D (.lst ws), S1, G.z⟩ S' (wipe σ vs) H' e' F' ∧ (∀ v ∈ vs, ∀ s, e'[v]? = some s → s = .un) ∧ vLcL vg vt ve vs ok Q (ds.drop i) acc e',
    ⟨ds.length, by simp, Nat.zero_le _, S1, _, F1, [], [], .nil, (A1.wiped off1).ward hD, wipeE_off, h1⟩, ?_⟩
  rintro i m H' ⟨rfl, hi', S', e', F', acc, ws, rws, A', hun, h'⟩
  obtain ⟨w1, w2, w3⟩ := A'.warded fD1
  by_cases hlt : i < ds.length
  · obtain ⟨d, hd⟩ : ∃ d, ds[i]? = some d := ⟨ds[i], by simp [hlt]⟩
    have hdr : ds.drop i = d :: ds.drop (i + 1) := by
      rw [List.drop_eq_getElem_cons hlt]
      rw [List.getElem?_eq_getElem hlt] at hd
      cases hd
      rfl
    rw [hdr] at h'
    obtain ⟨hok, h'⟩ := h'
    refine .inr ⟨wk.go ⟨upd G.B D (.lst ws), S1, G.z⟩ _ _ _ _ _ i rfl A'.s0 A' hok hlt, fun H2 => ∃ (S' : Hp) (e' : En) (F' : Nat → List Addr) (acc : List VL.D) (ws : List V), Reps K S' acc ws ∧ At K ⟨upd G.B D (.lst ws), S1, G.z⟩ S' (wipe σ vs) H2 e' F' ∧ (∀ v ∈ vs, ∀ s, e'[v]? = some s → s = .un) ∧ vLcL vg vt ve vs ok Q (ds.drop (i + 1)) acc e',
      fun H2 q => ⟨ds.length - (i + 1), by omega, rfl, hlt, q⟩, fun y H2 hy => ?_⟩
    obtain ⟨S2, d', s2, A2, hd', rd⟩ := wk.yld ⟨upd G.B D (.lst ws), S1, G.z⟩ _ _ _ _ _ i y H2 rfl A'.s0 A' hok hy hlt
    rw [hd] at hd'
    cases hd'
    refine hg _ S2 _ H2 e' F' d y x0 _ _ xok0 A2 rd h' fun S3 σ3 H3 e3 F3 s3 A3 hw3 q3 => ?_
    have hw : wipe σ3 vs = wipe σ vs := by
      rw [hw3 vs hix]
      have go : ∀ us : List Nat, (∀ u ∈ us, u ∈ vs) → wipe (wipe σ vs) us = wipe σ vs := by
        intro us
        induction us with
        | nil => intro _; rfl
        | cons u us ih =>
          intro hu
          show (wipe (wipe σ vs) us).set u none = wipe σ vs
          rw [ih fun z hz => hu z (List.mem_cons_of_mem _ hz)]
          have hum := hu u (by simp)
          have go2 : ∀ ws : List Nat, u ∈ ws → (wipe σ ws).set u none = wipe σ ws := by
            intro ws
            induction ws with
            | nil => intro h; simp at h
            | cons w ws ih2 =>
              intro h
              show ((wipe σ ws).set w none).set u none = (wipe σ ws).set w none
              by_cases c : u = w
              · rw [c, List.set_set]
              · rcases List.mem_cons.mp h with h | h
                · exact absurd h c
                · rw [List.set_comm _ _ (Ne.symm c), ih2 h]
          exact go2 vs hum
      exact go vs fun _ h => h
    refine ⟨hw, ?_⟩
    refine ht _ S3 σ3 H3 e3 F3 x0 _ _ xok0 A3 q3 fun b S4 H4 e4 F4 s4 A4 q4 => ?_
    cases b with
    | false =>
      obtain ⟨off4, q4⟩ := q4
      refine ⟨S4, _, F4, acc, ws, ((rws.mono s2).mono s3).mono s4, ?_, wipeE_off, q4⟩
      rw [← hw]
      exact A4.wiped off4
    | true =>
      show ue σ3 H4 _
      refine he _ S4 σ3 H4 e4 F4 x0 _ _ xok0 A4 q4 fun r v S5 H5 e5 F5 s5 A5 q5 h5 => ?_
      have hn : ∀ o, fz r ≠ .own o := fun o z => by
        rw [z] at h5
        exact h5.elim
      obtain ⟨S6, s6, A6, q6⟩ := A5.opd q5 hn
      split at h5
      · rename_i yd z
        rw [z] at q6
        obtain ⟨off5, hlen, h5⟩ := h5
        cases q6 with
        | sh q6 _ =>
          have r6 := ((((rws.mono s2).mono s3).mono s4).mono s5).mono s6
          refine ⟨ws, (A6.warded fD1).1, by rw [← r6.length]; exact hlen, S6, _, F5, acc ++ [yd], ws ++ [v], r6.append (.cons q6 .nil), ?_, wipeE_off, h5⟩
          rw [← hw]
          exact (A6.wardSet fD1).wiped off5
      · exact h5.elim
  · have ei : i = ds.length := by omega
    subst ei
    rw [List.drop_length] at h'
    refine .inl ⟨wk.stop ⟨upd G.B D (.lst ws), S1, G.z⟩ _ _ _ _ _ _ rfl A'.s0 A' h'.1 (Nat.le_refl _), ?_⟩
    have A7 := (A'.unward fD2 fD1 A1.s0 A1.nw).unwiped hun rfl
    exact k _ _ S' H' e' F' (s1.trans A'.s0) A7 (.own (.lst w1 rws) fun a ha => by
      simp at ha
      subst ha
      exact ⟨w2, fD2, w3⟩) h'.2
end
abbrev BlkX (X : Cx) (scope : Scope) (s : Shared) (H : Hp) (C : Addr) (cl : List (Str × Addr)) (fp : List Addr) : Cx := X.blk s H scope (compEnvC scope cl C X.env) fp
section
variable {X : Cx} {W : WX} {pos : Pos} {tg iter elt kx vx : Expr} {ifs : List Expr} {scope : Scope} {own : List (Str × Nat)} {ui : TI} {vi : VI} {ug : TG} {vg : VG} {ix : List Nat} {ut : TT} {vt : VTT} {ue uk : TE} {ve vk : VTE}
theorem ve_lc {own : List (Str × Nat)} (hN : X.N.Nodup) (hi : VIx X W tg iter ui vi) (hg : ∀ s H C cl fp, VGx (BlkX X scope s H C cl fp) W0 tg ug vg ix) (ht : ∀ s H C cl fp, VTs (BlkX X scope s H C cl fp) W0 ifs ut vt) (he : ∀ s H C cl fp, VEx (BlkX X scope s H C cl fp) W0 elt ue ve)
    (ok : BlkOk X.N X.env.scope scope own := by exact blkOk_by (by decide +kernel)) (hix : ∀ i ∈ ix, i ∈ own.map (·.2) := by decide) (hc : X.calm = true := by rfl) (hs : ∀ x, foldedSetIterable iter X.env x = pure x := by intro _; rfl) :
    VEx X W (.ListComp elt [⟨tg, iter, ifs, 0⟩] scope pos) (tLc ui ug ut ue (own.map (·.2))) (vLc vi vg vt ve (own.map (·.2))) :=
  ⟨pe_lc hc hN hi.p ok (fun s H C cl fp => (hg s H C cl fp).p) (fun s H C cl fp => (ht s H C cl fp).p) (fun s H C cl fp => (he s H C cl fp).p) hs,
    okE_lc hi.o (hg X.s_0 X.H_0 0 [] []).o (ht X.s_0 X.H_0 0 [] []).o (he X.s_0 X.H_0 0 [] []).o hix⟩
theorem vs_setLc (i : Nat) {own : List (Str × Nat)} {y : Str} {py spos : Pos} (hN : X.N.Nodup) (hi : VIx X W tg iter ui vi) (hg : ∀ s H C cl fp, VGx (BlkX X scope s H C cl fp) W0 tg ug vg ix) (ht : ∀ s H C cl fp, VTs (BlkX X scope s H C cl fp) W0 ifs ut vt) (he : ∀ s H C cl fp, VEx (BlkX X scope s H C cl fp) W0 elt ue ve)
    (ok : BlkOk X.N X.env.scope scope own := by exact blkOk_by (by decide +kernel)) (hix : ∀ i ∈ ix, i ∈ own.map (·.2) := by decide) (hc : X.calm = true := by rfl) (hs : ∀ x, foldedSetIterable iter X.env x = pure x := by intro _; rfl)
    (hy : X.N[i]? = some y := by rfl) (hyl : X.env.scope.names.lookup y = some .local := by rfl) (hsw : swapsWith (.ListComp elt [⟨tg, iter, ifs, 0⟩] scope pos) (some (.Name y py)) spos.line X.env = pure true := by rfl) :
    VSx X W (.Assign [.Name y py] (.ListComp elt [⟨tg, iter, ifs, 0⟩] scope pos) spos) (tAsg (tLc ui ug ut ue (own.map (·.2))) (gName i)) (vAsg i (vLc vi vg vt ve (own.map (·.2)))) :=
  ⟨ps_setLc hc hN hy hyl hsw hi.p ok (fun s H C cl fp => (hg s H C cl fp).p) (fun s H C cl fp => (ht s H C cl fp).p) (fun s H C cl fp => (he s H C cl fp).p) hs,
    okS_asg i (okE_lc hi.o (hg X.s_0 X.H_0 0 [] []).o (ht X.s_0 X.H_0 0 [] []).o (he X.s_0 X.H_0 0 [] []).o hix)⟩
end
end VL

end

section
set_option Elab.async false
set_option linter.all false
set_option maxRecDepth 100000
set_option maxHeartbeats 4000000
namespace VL
open PySem PySem.Spec PyProof.Rows L2
variable {K : PySem.W.Frag}

/-! ### what a def does -/
/-- the arguments' slots; the result with the arguments' slots behind it; an exception, likewise -/
abbrev VSp := List Sl → (Re → List Sl → Prop) → (XC → List Sl → Prop) → Prop
def notBor : Re → Prop
  | .bor _ => False
  | .fld _ _ _ => False
  | _ => True
def spV (K : PySem.W.Frag) (n : Nat) (c : VSp) : Sp := fun vs H Q E => vs.length = n ∧ ∃ (B : Hp) (z : Nat → Option (Option V)) (S : Hp) (as : List Sl) (F : Nat → List Addr) (P : Re → List Sl → Prop) (PX : XC → List Sl → Prop),
  At K ⟨B, S, z⟩ S (vs.map some) H as F ∧ c as P PX ∧
  (∀ r v S' H' as' F', At K ⟨B, S, z⟩ S' (vs.map some) H' as' F' → ReAt K ⟨B, S, z⟩ S' H' (vs.map some) F' r v → notBor r → P r as' → Q v H') ∧
  (∀ cls pay d S' H' as' F', At K ⟨B, S, z⟩ S' (vs.map some) H' as' F' → PayAt K S' H' pay d → PX (cls, pay) as' → E cls d H')
/-- the arguments' slots at a def's end -/
def retS : Sl → Option Sl → Sl
  | .par _, some (.par o) => .par o
  | .sh d, _ => .sh d
  | _, _ => .un
def retA : List Sl → En → List Sl
  | [], _ => []
  | a :: as, e => retS a e.head? :: retA as e.tail
theorem retA_length : ∀ (as : List Sl) (e : En), (retA as e).length = as.length
  | [], _ => rfl
  | a :: as, e => by show (retA as e.tail).length + 1 = as.length + 1; rw [retA_length as e.tail]
theorem retA_get : ∀ (as : List Sl) (e : En) (i : Nat), (retA as e)[i]? = (as[i]?).map fun a => retS a e[i]?
  | [], _, i => by simp [retA]
  | a :: as, [], 0 => by simp [retA]
  | a :: as, b :: e, 0 => by simp [retA]
  | a :: as, [], i + 1 => by
    show (retA as [])[i]? = _
    rw [retA_get as [] i]
    simp
  | a :: as, b :: e, i + 1 => by
    show (retA as e)[i]? = _
    rw [retA_get as e i]
    simp
/-- the ends of a def's body -/
def endsV (as : List Sl) (P : Re → List Sl → Prop) (PX : XC → List Sl → Prop) : VE :=
  ⟨fun e => P (.sh .non) (retA as e), fun r e => notBor r ∧ P r (retA as e), fun _ => False, fun _ => False, fun x e => PX x (retA as e)⟩
theorem At.back {B S S' H H' : Hp} {z : Nat → Option (Option V)} {vs : List V} {σ : L2.St} {as : List Sl} {F F' : Nat → List Addr} {e : En} (A0 : At K ⟨B, S, z⟩ S (vs.map some) H as F) (A : At K ⟨B, S, z⟩ S' σ H' e F') :
    ∃ F'', At K ⟨B, S, z⟩ S' (vs.map some) H' (retA as e) F'' ∧ ∀ i a, a ∈ F'' i → a ∈ F' i := by
  refine ⟨fun i => match (retA as e)[i]? with
    | some (.par _) => F' i
    | _ => [], ⟨A.sh, A.bh, A.s0, A.nw, by rw [retA_length]; exact A0.len, fun i s hs => ?_, fun i hi => ?_, fun i a ha => ?_, fun i j a ha hb => ?_, fun i o ho => ?_⟩, fun i a ha => ?_⟩
  · have hs' := hs
    rw [retA_get] at hs
    cases q : as[i]? with
    | none => rw [q] at hs; cases hs
    | some a =>
      rw [q] at hs
      cases hs
      have sl := A0.sl i a q
      show SlAt K S' H' (vs.map some)[i]? (retS a e[i]?) (match (retA as e)[i]? with
        | some (.par _) => F' i
        | _ => [])
      rw [hs']
      cases a with
      | un => rfl
      | own o => rfl
      | sh d =>
        obtain ⟨_, v, hv, r⟩ := sl
        exact ⟨rfl, v, hv, r.mono A.s0⟩
      | par o =>
        cases q2 : e[i]? with
        | none => rfl
        | some s2 => cases s2 with
          | un => rfl
          | own o => rfl
          | sh d => rfl
          | par o2 =>
            obtain ⟨p, hp, ow⟩ := A.sl i _ q2
            refine ⟨p, ?_, ow⟩
            rw [A0.pr i o q, ← A.pr i o2 q2]
            exact hp
  · show (match (retA as e)[i]? with
      | some (.par _) => F' i
      | _ => []) = []
    rw [List.getElem?_eq_none hi]
  · have ha : a ∈ (match (retA as e)[i]? with
      | some (.par _) => F' i
      | _ => []) := ha
    split at ha
    · exact A.fS i a ha
    · simp at ha
  · have ha : a ∈ (match (retA as e)[i]? with
      | some (.par _) => F' i
      | _ => []) := ha
    have hb : a ∈ (match (retA as e)[j]? with
      | some (.par _) => F' j
      | _ => []) := hb
    split at ha
    · split at hb
      · exact A.dj i j a ha hb
      · simp at hb
    · simp at ha
  · rw [retA_get] at ho
    cases q : as[i]? with
    | none => rw [q] at ho; cases ho
    | some a =>
      rw [q] at ho
      have ho : some (retS a e[i]?) = some (Sl.par o) := ho
      cases a with
      | un => cases ho
      | own o => cases ho
      | sh d => cases ho
      | par o1 => exact A0.pr i o1 q
  · have ha : a ∈ (match (retA as e)[i]? with
      | some (.par _) => F' i
      | _ => []) := ha
    split at ha
    · exact ha
    · simp at ha
/-- the slots at a def's start -/
def startE (n : Nat) (as : List Sl) : En := as ++ List.replicate (n - as.length) .un
theorem At.start {G : Gd} {S H : Hp} {vs : List V} {as : List Sl} {F : Nat → List Addr} (N : List Str) (A : At K G S (vs.map some) H as F) : At K G S (L2.start N vs) H (startE N.length as) F := by
  have hl : as.length = vs.length := by have := A.len; rw [List.length_map] at this; exact this
  refine ⟨A.sh, A.bh, A.s0, A.nw, by simp [startE, L2.start, hl], fun i s hs => ?_, fun i hi => A.fr i (by simp [startE] at hi; omega), A.fS, A.dj, fun i o ho => ?_⟩
  · unfold startE at hs
    by_cases c : i < as.length
    · rw [List.getElem?_append_left c] at hs
      unfold L2.start
      rw [List.getElem?_append_left (by rw [List.length_map, ← hl]; exact c)]
      exact A.sl i s hs
    · rw [List.getElem?_append_right (by omega), List.getElem?_replicate] at hs
      split at hs
      · cases hs
        exact A.fr i (by omega)
      · cases hs
  · unfold startE at ho
    by_cases c : i < as.length
    · rw [List.getElem?_append_left c] at ho
      unfold L2.start
      rw [List.getElem?_append_left (by rw [List.length_map, ← hl]; exact c)]
      exact A.pr i o ho
    · rw [List.getElem?_append_right (by omega), List.getElem?_replicate] at ho
      split at ho
      · cases ho
      · cases ho
abbrev WEx (E : XK) : WX := fun cls d _ H => E cls d H
theorem endsOk_def {B S H : Hp} {z : Nat → Option (Option V)} {vs : List V} {as : List Sl} {F : Nat → List Addr} {P : Re → List Sl → Prop} {PX : XC → List Sl → Prop} {Q : VK} {E : XK} (A0 : At K ⟨B, S, z⟩ S (vs.map some) H as F)
    (hQ : ∀ r v S' H' as' F', At K ⟨B, S, z⟩ S' (vs.map some) H' as' F' → ReAt K ⟨B, S, z⟩ S' H' (vs.map some) F' r v → notBor r → P r as' → Q v H')
    (hE : ∀ cls pay d S' H' as' F', At K ⟨B, S, z⟩ S' (vs.map some) H' as' F' → PayAt K S' H' pay d → PX (cls, pay) as' → E cls d H') :
    EndsOk K ⟨B, S, z⟩ (WEx E) (endsV as P PX) { nx := fun _ H' => Q .non H', rt := Q } := by
  refine ⟨fun S' σ H' e F' A q => ?_, fun r v S' σ H' e F' A rr q => ?_, fun _ _ _ _ _ _ q => q.elim, fun _ _ _ _ _ _ q => q.elim, fun cls pay d S' σ H' e F' A p q => ?_⟩
  · obtain ⟨F'', A', _⟩ := A0.back A
    exact hQ _ _ S' H' _ F'' A' (.sh .non) trivial q
  · obtain ⟨F'', A', hF⟩ := A0.back A
    refine hQ r v S' H' _ F'' A' ?_ q.1 q.2
    cases rr with
    | sh h => exact .sh h
    | own h hf => exact .own h fun a ha => ⟨(hf a ha).1, (hf a ha).2.1, fun i hi => (hf a ha).2.2 i (hF i a hi)⟩
    | bor h => exact q.1.elim
    | fld => exact q.1.elim
  · obtain ⟨F'', A', _⟩ := A0.back A
    exact hE cls pay d S' H' _ F'' A' p q
section
variable {P : Program} {w : World} {mg : Str → Option Value} {base : Heap} {x qual : Str} {params : Arguments} {body : List Stmt} {scope : Scope} {f : Addr} {fd : FuncData}
abbrev CxV (P : Program) (w : World) (K : PySem.W.Frag) (mg : Str → Option Value) (base : Heap) (N : List Str) (qual : Str) (scope : Scope) (f : Addr) (cdv : Value) (A : Around) (outer : List Env) (s : Shared) (H : Hp) (E : XK) : Cx :=
  cxOf (L2.CX P w) P w K mg base N qual scope f cdv A outer s H E
/-- THE RULE of a def -/
theorem fnV {N ps : List Str} {k : Nat} {c : VSp} {t : VTS} (F : FunD K x qual params body scope [] [] f fd) (S : FnScope N ps scope)
    (hbody : ∀ (cdv : Value) (A : Around) (outer : List Env) (s : Shared) (H : Hp) (E : XK), Room k (A.deeper (envOfC qual scope s.heap.objs.size f cdv)) → ∃ u, VSs (CxV P w K mg base N qual scope f cdv A outer s H E) (WEx E) body u t)
    (hlaw : ∀ as P PX, as.length = ps.length → c as P PX → t (endsV as P PX) (startE N.length as)) : FnOk P w K mg base (L2.CX P w) (k + 1) f fd ps (spV K ps.length c) := by
  refine F.ok S (fun vs H Q E h => h.1) fun cdv A outer s H vs Q E hr hsp => ?_
  obtain ⟨hl, B, z, S', as, Fa, Pa, PX, A0, hc, hQ, hE⟩ := hsp
  obtain ⟨u, hb⟩ := hbody cdv A outer s H E hr
  refine ⟨u, hb.p, ?_⟩
  have hla : as.length = ps.length := by have := A0.len; rw [List.length_map] at this; omega
  exact hb.o ⟨B, S', z⟩ S' _ H _ Fa (endsV as Pa PX) _ (A0.start N) (hlaw as Pa PX hla hc) (endsOk_def A0 hQ hE)
end
/-! ### calls -/
def argS (e : En) : Re → Option Sl
  | .sh d => some (.sh d)
  | .bor i => match e[i]? with
    | some (.own o) => some (.par o)
    | some (.par o) => some (.par o)
    | _ => none
  | .own _ => none
  | .fld _ _ _ => none
def argsS (e : En) : List Re → Option (List Sl)
  | [] => some []
  | r :: rs => match argS e r, argsS e rs with
    | some a, some as => some (a :: as)
    | _, _ => none
def bors : List Re → List Nat
  | [] => []
  | .bor i :: rs => i :: bors rs
  | _ :: rs => bors rs
def backA (e : En) : List Re → List Sl → En
  | .bor i :: rs, .par o :: as => setO (backA e rs as) i o
  | _ :: rs, _ :: as => backA e rs as
  | _, _ => e
def okBack : List Re → List Sl → Prop
  | [], _ => True
  | .bor _ :: rs, .par _ :: as => okBack rs as
  | .bor _ :: _, _ => False
  | _ :: rs, _ :: as => okBack rs as
  | _ :: _, [] => False
theorem setO_length (e : En) (i : Nat) (o : O) : (setO e i o).length = e.length := by unfold setO; split <;> simp
theorem setO_ne {e : En} {i k : Nat} {o : O} (h : k ≠ i) : (setO e i o)[k]? = e[k]? := by
  unfold setO
  split
  · rw [List.getElem?_set_ne (Ne.symm h)]
  · rw [List.getElem?_set_ne (Ne.symm h)]
  · rfl
theorem backA_length (e : En) : ∀ (rs : List Re) (as : List Sl), (backA e rs as).length = e.length
  | [], _ => by simp [backA]
  | .bor i :: rs, .par o :: as => by rw [backA, setO_length, backA_length e rs as]
  | .bor i :: rs, .un :: as => by rw [backA]; exact backA_length e rs as; simp
  | .bor i :: rs, .sh d :: as => by rw [backA]; exact backA_length e rs as; simp
  | .bor i :: rs, .own o :: as => by rw [backA]; exact backA_length e rs as; simp
  | .sh d :: rs, a :: as => by rw [backA]; exact backA_length e rs as; simp
  | .own o :: rs, a :: as => by rw [backA]; exact backA_length e rs as; simp
  | .fld _ _ _ :: rs, a :: as => by rw [backA]; exact backA_length e rs as; simp
  | .bor i :: rs, [] => by simp [backA]
  | .sh i :: rs, [] => by simp [backA]
  | .own i :: rs, [] => by simp [backA]
  | .fld _ _ _ :: rs, [] => by simp [backA]
theorem backA_out (e : En) {k : Nat} : ∀ (rs : List Re) (as : List Sl), k ∉ bors rs → (backA e rs as)[k]? = e[k]?
  | [], _, _ => by simp [backA]
  | .bor i :: rs, .par o :: as, h => by
    rw [backA, setO_ne (fun z => h (by simp [bors, z]))]
    exact backA_out e rs as fun z => h (by simp [bors, z])
  | .bor i :: rs, .un :: as, h => by rw [backA]; exact backA_out e rs as fun z => h (by simp [bors, z]); simp
  | .bor i :: rs, .sh d :: as, h => by rw [backA]; exact backA_out e rs as fun z => h (by simp [bors, z]); simp
  | .bor i :: rs, .own o :: as, h => by rw [backA]; exact backA_out e rs as fun z => h (by simp [bors, z]); simp
  | .sh d :: rs, a :: as, h => by rw [backA]; exact backA_out e rs as fun z => h (by simpa [bors] using z); simp
  | .own o :: rs, a :: as, h => by rw [backA]; exact backA_out e rs as fun z => h (by simpa [bors] using z); simp
  | .fld _ _ _ :: rs, a :: as, h => by rw [backA]; exact backA_out e rs as fun z => h (by simpa [bors] using z); simp
  | .bor i :: rs, [], _ => by simp [backA]
  | .sh i :: rs, [], _ => by simp [backA]
  | .own i :: rs, [], _ => by simp [backA]
  | .fld _ _ _ :: rs, [], _ => by simp [backA]
theorem bors_mem {k : Nat} : ∀ {rs : List Re}, k ∈ bors rs → ∃ j : Nat, rs[j]? = some (Re.bor k)
  | [], h => by simp [bors] at h
  | .bor i :: rs, h => by
    rcases List.mem_cons.mp (show k ∈ i :: bors rs from h) with rfl | h
    · exact ⟨0, rfl⟩
    · obtain ⟨j, hj⟩ := bors_mem h
      exact ⟨j + 1, hj⟩
  | .sh d :: rs, h => by
    obtain ⟨j, hj⟩ := bors_mem (rs := rs) h
    exact ⟨j + 1, hj⟩
  | .own d :: rs, h => by
    obtain ⟨j, hj⟩ := bors_mem (rs := rs) h
    exact ⟨j + 1, hj⟩
  | .fld _ _ _ :: rs, h => by
    obtain ⟨j, hj⟩ := bors_mem (rs := rs) h
    exact ⟨j + 1, hj⟩
theorem mem_bors {k : Nat} : ∀ {rs : List Re} {j : Nat}, rs[j]? = some (.bor k) → k ∈ bors rs
  | [], _, h => by simp at h
  | r :: rs, 0, h => by
    have h := Option.some.inj h
    subst h
    simp [bors]
  | r :: rs, j + 1, h => by
    have q := mem_bors (rs := rs) (j := j) (by simpa using h)
    cases r <;> simp [bors, q]
theorem bors_inj {k : Nat} : ∀ {rs : List Re} {j l : Nat}, (bors rs).Nodup → rs[j]? = some (.bor k) → rs[l]? = some (.bor k) → j = l
  | [], _, _, _, h, _ => by simp at h
  | r :: rs, 0, 0, _, _, _ => rfl
  | r :: rs, 0, l + 1, n, h, h' => by
    have h := Option.some.inj h
    subst h
    have q := mem_bors (rs := rs) (j := l) (by simpa using h')
    exact absurd q (List.nodup_cons.mp (show (k :: bors rs).Nodup from n)).1
  | r :: rs, j + 1, 0, n, h, h' => by
    have h' := Option.some.inj h'
    subst h'
    have q := mem_bors (rs := rs) (j := j) (by simpa using h)
    exact absurd q (List.nodup_cons.mp (show (k :: bors rs).Nodup from n)).1
  | r :: rs, j + 1, l + 1, n, h, h' => by
    have n' : (bors rs).Nodup := by
      cases r with
      | bor i => exact (List.nodup_cons.mp (show (i :: bors rs).Nodup from n)).2
      | sh d => exact n
      | own d => exact n
      | fld _ _ _ => exact n
    rw [bors_inj (rs := rs) (j := j) (l := l) n' (by simpa using h) (by simpa using h')]
theorem backA_in (e : En) {k : Nat} : ∀ {rs : List Re} {as : List Sl} {j : Nat}, okBack rs as → (bors rs).Nodup → rs[j]? = some (.bor k) →
    ∃ o', as[j]? = some (.par o') ∧ (∀ o, e[k]? = some (.own o) → (backA e rs as)[k]? = some (.own o')) ∧ (∀ o, e[k]? = some (.par o) → (backA e rs as)[k]? = some (.par o'))
  | [], _, _, _, _, h => by simp at h
  | .bor i :: rs, .par o :: as, 0, ok, n, h => by
    have h := Option.some.inj h
    cases h
    have hn := (List.nodup_cons.mp (show (k :: bors rs).Nodup from n)).1
    have out := backA_out e rs as hn
    refine ⟨o, rfl, fun o1 h1 => ?_, fun o1 h1 => ?_⟩
    · rw [backA, setO]
      rw [h1] at out
      rw [out]
      exact List.getElem?_set_self (List.getElem?_eq_some_iff.mp out).1
    · rw [backA, setO]
      rw [h1] at out
      rw [out]
      exact List.getElem?_set_self (List.getElem?_eq_some_iff.mp out).1
  | .bor i :: rs, .par o :: as, j + 1, ok, n, h => by
    have n' := List.nodup_cons.mp (show (i :: bors rs).Nodup from n)
    obtain ⟨o', h1, h2, h3⟩ := backA_in e (rs := rs) (as := as) (j := j) (show okBack rs as from ok) n'.2 (by simpa using h)
    have ne : k ≠ i := fun z => n'.1 (by rw [← z]; exact mem_bors (rs := rs) (j := j) (by simpa using h))
    refine ⟨o', by simpa using h1, fun o1 q => ?_, fun o1 q => ?_⟩
    · rw [backA, setO_ne ne]
      exact h2 o1 q
    · rw [backA, setO_ne ne]
      exact h3 o1 q
  | .bor i :: rs, .un :: as, _, ok, _, _ => ok.elim
  | .bor i :: rs, .sh d :: as, _, ok, _, _ => ok.elim
  | .bor i :: rs, .own o :: as, _, ok, _, _ => ok.elim
  | .bor i :: rs, [], _, ok, _, _ => ok.elim
  | .sh d :: rs, [], _, ok, _, _ => ok.elim
  | .own d :: rs, [], _, ok, _, _ => ok.elim
  | .fld _ _ _ :: rs, [], _, ok, _, _ => ok.elim
  | .sh d :: rs, a :: as, 0, ok, n, h => by cases Option.some.inj h
  | .own d :: rs, a :: as, 0, ok, n, h => by cases Option.some.inj h
  | .fld _ _ _ :: rs, a :: as, 0, ok, n, h => by cases Option.some.inj h
  | .sh d :: rs, a :: as, j + 1, ok, n, h => by
    obtain ⟨o', h1, h2, h3⟩ := backA_in e (rs := rs) (as := as) (j := j) (show okBack rs as from ok) n (by simpa using h)
    exact ⟨o', by simpa using h1, fun o1 q => by rw [backA]; exact h2 o1 q; simp, fun o1 q => by rw [backA]; exact h3 o1 q; simp⟩
  | .own d :: rs, a :: as, j + 1, ok, n, h => by
    obtain ⟨o', h1, h2, h3⟩ := backA_in e (rs := rs) (as := as) (j := j) (show okBack rs as from ok) n (by simpa using h)
    exact ⟨o', by simpa using h1, fun o1 q => by rw [backA]; exact h2 o1 q; simp, fun o1 q => by rw [backA]; exact h3 o1 q; simp⟩
  | .fld _ _ _ :: rs, a :: as, j + 1, ok, n, h => by
    obtain ⟨o', h1, h2, h3⟩ := backA_in e (rs := rs) (as := as) (j := j) (show okBack rs as from ok) n (by simpa using h)
    exact ⟨o', by simpa using h1, fun o1 q => by rw [backA]; exact h2 o1 q; simp, fun o1 q => by rw [backA]; exact h3 o1 q; simp⟩
theorem argsS_get {e : En} : ∀ {rs : List Re} {as : List Sl}, argsS e rs = some as → as.length = rs.length ∧ ∀ (j : Nat) (r : Re), rs[j]? = some r → ∃ a, as[j]? = some a ∧ argS e r = some a
  | [], as, h => by cases h; exact ⟨rfl, fun j r h => by simp at h⟩
  | r :: rs, as, h => by
    unfold argsS at h
    cases h1 : argS e r with
    | none => rw [h1] at h; cases h
    | some a =>
      cases h2 : argsS e rs with
      | none => rw [h1, h2] at h; cases h
      | some as' =>
        rw [h1, h2] at h
        cases h
        obtain ⟨l, g⟩ := argsS_get h2
        refine ⟨by simp [l], fun j r' hj => ?_⟩
        cases j with
        | zero =>
          have e := Option.some.inj hj
          subst e
          exact ⟨a, rfl, h1⟩
        | succ j => exact g j r' hj
theorem ReAts.get {G : Gd} {S H : Hp} {σ : L2.St} {F : Nat → List Addr} : ∀ {rs : List Re} {vs : List V}, ReAts K G S H σ F rs vs → rs.length = vs.length ∧ ∀ (j : Nat) (r : Re), rs[j]? = some r → ∃ v, vs[j]? = some v ∧ ((∃ d, r = .sh d ∧ Rep K S d v) ∨ (∃ i, r = .bor i ∧ σ[i]? = some (some v)) ∨ ∃ q i f, r = .fld q i f)
  | _, _, .nil => ⟨rfl, fun j r h => by simp at h⟩
  | _, _, .sh (d := d) (v := v) q t => by
    obtain ⟨l, g⟩ := ReAts.get t
    refine ⟨by simp [l], fun j r h => ?_⟩
    cases j with
    | zero => exact ⟨v, rfl, .inl ⟨d, (Option.some.inj h).symm, q⟩⟩
    | succ j => exact g j r h
  | _, _, .bor (i := i) (v := v) q t => by
    obtain ⟨l, g⟩ := ReAts.get t
    refine ⟨by simp [l], fun j r h => ?_⟩
    cases j with
    | zero => exact ⟨v, rfl, .inr (.inl ⟨i, (Option.some.inj h).symm, q⟩)⟩
    | succ j => exact g j r h
  | _, _, .fld (q := q) (i := i) (f := f) t => by
    obtain ⟨l, g⟩ := ReAts.get t
    refine ⟨by simp [l], fun j r h => ?_⟩
    cases j with
    | zero => exact ⟨_, rfl, .inr (.inr ⟨q, i, f, (Option.some.inj h).symm⟩)⟩
    | succ j => exact g j r h
/-- the arguments' objects -/
def fpA (F : Nat → List Addr) (rs : List Re) : List Addr := (bors rs).flatMap F
def fpR (F : Nat → List Addr) : Option Re → List Addr
  | some (.bor i) => F i
  | _ => []
def FA (F : Nat → List Addr) (rs : List Re) : Nat → List Addr := fun j => fpR F rs[j]?
theorem argS_bor {e : En} {i : Nat} {s : Sl} (h : argS e (.bor i) = some s) : ∃ o, s = .par o ∧ (e[i]? = some (.own o) ∨ e[i]? = some (.par o)) := by
  have h : (match e[i]? with
    | some (.own o) => some (Sl.par o)
    | some (.par o) => some (Sl.par o)
    | _ => none) = some s := h
  split at h
  · rename_i o ho
    cases h
    exact ⟨o, rfl, .inl ho⟩
  · rename_i o ho
    cases h
    exact ⟨o, rfl, .inr ho⟩
  · cases h
def BA (H : Hp) (F : Nat → List Addr) (rs : List Re) : Hp := fun a => if a ∈ fpA F rs then none else H a
theorem mem_fpA {F : Nat → List Addr} {rs : List Re} {a : Addr} : a ∈ fpA F rs ↔ ∃ j i : Nat, rs[j]? = some (Re.bor i) ∧ a ∈ F i := by
  unfold fpA
  rw [List.mem_flatMap]
  constructor
  · rintro ⟨i, h1, h2⟩
    obtain ⟨j, hj⟩ := bors_mem h1
    exact ⟨j, i, hj, h2⟩
  · rintro ⟨j, i, hj, h2⟩
    exact ⟨i, mem_bors hj, h2⟩
section
variable {G : Gd} {S S' : Hp} {σ : L2.St} {H H' : Hp} {e : En} {F : Nat → List Addr} {rs : List Re} {vs : List V} {as as' : List Sl}
/-- into a call -/
theorem At.into (A : At K G S σ H e F) (r : ReAts K G S H σ F rs vs) (ha : argsS e rs = some as) (n : (bors rs).Nodup) : At K ⟨BA H F rs, S, fun j => (vs.map some)[j]?⟩ S (vs.map some) H as (FA F rs) := by
  obtain ⟨l1, g1⟩ := argsS_get ha
  obtain ⟨l2, g2⟩ := r.get
  have inv : ∀ j a, a ∈ FA F rs j → ∃ i, rs[j]? = some (.bor i) ∧ a ∈ F i := fun j a h => by
    unfold FA at h
    cases q : rs[j]? with
    | none => rw [q] at h; simp [fpR] at h
    | some r => cases r with
      | bor i => rw [q] at h; exact ⟨i, rfl, h⟩
      | fld _ _ _ => rw [q] at h; simp [fpR] at h
      | sh d => rw [q] at h; simp [fpR] at h
      | own d => rw [q] at h; simp [fpR] at h
  refine ⟨A.sh, fun a u h => ?_, Same.refl S, fun a h h0 => absurd h0 h, by rw [List.length_map]; omega, fun j s hs => ?_, fun j hj => ?_, fun j a h => ?_, fun j l a h h' => ?_, fun j o _ => rfl⟩
  · have h : (if a ∈ fpA F rs then none else H a) = some u := h
    split at h
    · cases h
    · exact h
  · have hj : j < rs.length := by rw [← l1]; exact (List.getElem?_eq_some_iff.mp hs).1
    obtain ⟨r, hr⟩ : ∃ r, rs[j]? = some r := ⟨rs[j], by simp [hj]⟩
    obtain ⟨a, h1, h2⟩ := g1 j r hr
    rw [hs] at h1; cases h1
    obtain ⟨v, hv, h3⟩ := g2 j r hr
    have hv' : (vs.map some)[j]? = some (some v) := by rw [List.getElem?_map, hv]; rfl
    show SlAt K S H (vs.map some)[j]? s (FA F rs j)
    rw [hv']
    have hF : FA F rs j = fpR F (some r) := by
      unfold FA
      rw [hr]
    rw [hF]
    rcases h3 with ⟨d, rfl, rd⟩ | ⟨i, rfl, hσ⟩ | ⟨_, _, _, rfl⟩
    rotate_right
    · cases h2
    · cases h2
      exact ⟨rfl, v, rfl, rd⟩
    · obtain ⟨o, rfl, ho⟩ := argS_bor h2
      rcases ho with ho | ho
      · obtain ⟨p, hp, ow⟩ := A.sl i _ ho
        rw [hσ] at hp
        exact ⟨p, by rw [Option.some.inj hp], ow⟩
      · obtain ⟨p, hp, ow⟩ := A.sl i _ ho
        rw [hσ] at hp
        exact ⟨p, by rw [Option.some.inj hp], ow⟩
  · unfold FA
    rw [List.getElem?_eq_none (by omega)]
    rfl
  · obtain ⟨i, hi, h⟩ := inv j a h
    refine ⟨(A.fS i a h).1, ?_⟩
    show (if a ∈ fpA F rs then none else H a) = none
    rw [if_pos (mem_fpA.mpr ⟨j, i, hi, h⟩)]
  · obtain ⟨i, hi, h⟩ := inv j a h
    obtain ⟨i', hi', h'⟩ := inv l a h'
    have q := A.dj i i' a h h'
    subst q
    exact bors_inj n hi hi'
/-- back from a call -/
theorem At.from (A : At K G S σ H e F) (r : ReAts K G S H σ F rs vs) (ha : argsS e rs = some as) (n : (bors rs).Nodup) {F' : Nat → List Addr} (A' : At K ⟨BA H F rs, S, fun j => (vs.map some)[j]?⟩ S' (vs.map some) H' as' F') (ok : okBack rs as') :
    ∃ F2, At K G S' σ H' (backA e rs as') F2 ∧ ∀ r v, notBor r → ReAt K ⟨BA H F rs, S, fun j => (vs.map some)[j]?⟩ S' H' (vs.map some) F' r v → ReAt K G S' H' σ F2 r v := by
  obtain ⟨l1, g1⟩ := argsS_get ha
  obtain ⟨l2, g2⟩ := r.get
  -- who is passed, who is not
  have there : ∀ i a, a ∈ F i → H a ≠ none := fun i a h z => (A.free z).2.2 i h
  have bnone : ∀ a, BA H F rs a = none → H a = none ∨ ∃ j i : Nat, rs[j]? = some (Re.bor i) ∧ a ∈ F i := fun a h => by
    have h : (if a ∈ fpA F rs then none else H a) = none := h
    split at h
    · rename_i hm
      exact .inr (mem_fpA.mp hm)
    · exact .inl h
  have bsome : ∀ a, H a ≠ none → (∀ j i : Nat, rs[j]? = some (Re.bor i) → a ∉ F i) → BA H F rs a = H a := fun a h hn => by
    show (if a ∈ fpA F rs then none else H a) = H a
    rw [if_neg fun z => by obtain ⟨j, i, h1, h2⟩ := mem_fpA.mp z; exact hn j i h1 h2]
  have gB : ∀ a, G.B a ≠ none → H a ≠ none ∧ ∀ i, a ∉ F i := fun a h => by
    refine ⟨fun z => h (A.free z).2.1, fun i hi => h (A.fS i a hi).2⟩
  have bG : ∀ a, BA H F rs a = none → G.B a = none := fun a h => by
    rcases bnone a h with h | ⟨j, i, _, h⟩
    · exact (A.free h).2.1
    · exact (A.fS i a h).2
  have other : ∀ k a, a ∈ F k → k ∉ bors rs → BA H F rs a = H a ∧ H a ≠ none := fun k a h hk => by
    refine ⟨bsome a (there k a h) fun j i hj hi => hk ?_, there k a h⟩
    rw [A.dj k i a h hi]
    exact mem_bors hj
  classical
  refine ⟨fun k => if h : k ∈ bors rs then F' (Classical.choose (bors_mem h)) else F k, ⟨A'.sh, fun a u h => ?_, A.s0.trans A'.s0, fun a h h0 => ?_, by rw [backA_length]; exact A.len, fun k s hs => ?_, fun k hk => ?_, fun k a h => ?_, fun k l a h h' => ?_, fun k o ho => ?_⟩, ?_⟩
  · obtain ⟨h1, h2⟩ := gB a (by rw [h]; simp)
    refine A'.bh a u ?_
    show BA H F rs a = some u
    rw [bsome a h1 fun j i _ => h2 i]
    exact A.bh a u h
  · cases q : S a with
    | some o => exact A.nw a (by rw [q]; simp) h0
    | none => exact bG a (A'.nw a h q)
  · show SlAt K S' H' σ[k]? s (if h : k ∈ bors rs then F' (Classical.choose (bors_mem h)) else F k)
    by_cases c : k ∈ bors rs
    · rw [dif_pos c]
      have hj := Classical.choose_spec (bors_mem c)
      generalize Classical.choose (bors_mem c) = j at hj
      obtain ⟨o', h1, h2, h3⟩ := backA_in e ok n hj
      obtain ⟨a, h4, h5⟩ := g1 j _ hj
      obtain ⟨v, hv, h6⟩ := g2 j _ hj
      rcases h6 with ⟨d, z, _⟩ | ⟨i, z, hσ⟩ | ⟨_, _, _, z⟩
      rotate_right
      · cases z
      · cases z
      · cases z
        obtain ⟨p, hp, ow⟩ := A'.sl j _ h1
        rw [List.getElem?_map, hv] at hp
        have hp : v = .ref p := Option.some.inj (Option.some.inj hp)
        subst hp
        obtain ⟨o, _, ho⟩ := argS_bor h5
        rcases ho with ho | ho
        · rw [h2 o ho] at hs
          cases hs
          exact ⟨p, hσ, ow⟩
        · rw [h3 o ho] at hs
          cases hs
          exact ⟨p, hσ, ow⟩
    · rw [dif_neg c]
      rw [backA_out e rs as' c] at hs
      have sl := A.sl k s hs
      have kk : ∀ a ∈ F k, H' a = H a := fun a ha => by
        obtain ⟨h1, h2⟩ := other k a ha c
        cases q : H a with
        | none => exact absurd q h2
        | some u =>
          exact A'.bh a u (by show BA H F rs a = some u; rw [h1, q])
      cases s with
      | un => exact sl
      | sh d => obtain ⟨h1, v, hv, rd⟩ := sl; exact ⟨h1, v, hv, rd.mono A'.s0⟩
      | own o => obtain ⟨p, hp, ow⟩ := sl; exact ⟨p, hp, ow.keep A'.s0 kk⟩
      | par o => obtain ⟨p, hp, ow⟩ := sl; exact ⟨p, hp, ow.keep A'.s0 kk⟩
  · show (if h : k ∈ bors rs then F' (Classical.choose (bors_mem h)) else F k) = []
    rw [backA_length] at hk
    by_cases c : k ∈ bors rs
    · exfalso
      obtain ⟨j, hj⟩ := bors_mem c
      obtain ⟨a, h4, h5⟩ := g1 j _ hj
      obtain ⟨o, _, ho⟩ := argS_bor h5
      rw [List.getElem?_eq_none hk] at ho
      rcases ho with ho | ho <;> cases ho
    · rw [dif_neg c]
      exact A.fr k hk
  · have h : a ∈ (if h : k ∈ bors rs then F' (Classical.choose (bors_mem h)) else F k) := h
    by_cases c : k ∈ bors rs
    · rw [dif_pos c] at h
      obtain ⟨h1, h2⟩ := A'.fS _ a h
      exact ⟨h1, bG a h2⟩
    · rw [dif_neg c] at h
      obtain ⟨h1, h2⟩ := other k a h c
      refine ⟨?_, (A.fS k a h).2⟩
      cases q : S' a with
      | none => rfl
      | some u =>
        have z : BA H F rs a = none := A'.nw a (by rw [q]; simp) (A.fS k a h).1
        rw [h1] at z
        exact absurd z h2
  · have h : a ∈ (if h : k ∈ bors rs then F' (Classical.choose (bors_mem h)) else F k) := h
    have h' : a ∈ (if h : l ∈ bors rs then F' (Classical.choose (bors_mem h)) else F l) := h'
    have cross : ∀ k l, k ∈ bors rs → l ∉ bors rs → ∀ j, a ∈ F' j → a ∈ F l → False := fun k l _ hl j ha hb => by
      obtain ⟨h1, h2⟩ := other l a hb hl
      have z : BA H F rs a = none := (A'.fS j a ha).2
      rw [h1] at z
      exact h2 z
    by_cases c : k ∈ bors rs
    · rw [dif_pos c] at h
      by_cases c' : l ∈ bors rs
      · rw [dif_pos c'] at h'
        have q := A'.dj _ _ a h h'
        have e1 := Classical.choose_spec (bors_mem c)
        have e2 := Classical.choose_spec (bors_mem c')
        rw [q, e2] at e1
        have e1 := Option.some.inj e1
        cases e1
        rfl
      · rw [dif_neg c'] at h'
        exact (cross k l c c' _ h h').elim
    · rw [dif_neg c] at h
      by_cases c' : l ∈ bors rs
      · rw [dif_pos c'] at h'
        exact (cross l k c' c _ h' h).elim
      · rw [dif_neg c'] at h'
        exact A.dj k l a h h'
  · by_cases c : k ∈ bors rs
    · obtain ⟨j, hj⟩ := bors_mem c
      obtain ⟨o', h1, h2, h3⟩ := backA_in e ok n hj
      obtain ⟨a, h4, h5⟩ := g1 j _ hj
      obtain ⟨o1, _, ho1⟩ := argS_bor h5
      rcases ho1 with ho1 | ho1
      · rw [h2 o1 ho1] at ho
        cases ho
      · exact A.pr k o1 ho1
    · rw [backA_out e rs as' c] at ho
      exact A.pr k o ho
  · intro r v nb rr
    cases rr with
    | sh h => exact .sh h
    | bor h => exact nb.elim
    | fld => exact nb.elim
    | own h hf =>
      refine .own h fun a ha => ?_
      obtain ⟨h1, h2, h3⟩ := hf a ha
      refine ⟨h1, bG a h2, fun k hk => ?_⟩
      have hk : a ∈ (if h : k ∈ bors rs then F' (Classical.choose (bors_mem h)) else F k) := hk
      by_cases c : k ∈ bors rs
      · rw [dif_pos c] at hk
        exact h3 _ hk
      · rw [dif_neg c] at hk
        obtain ⟨q1, q2⟩ := other k a hk c
        have z : BA H F rs a = none := h2
        rw [q1] at z
        exact q2 z
end
/-- f(..) -/
def vCall (c : VSp) (t : VTA) : VTE := fun x e Q => t x e fun rs e1 => oB (argsS e1 rs) fun as => (bors rs).Nodup ∧ c as (fun r as' => okBack rs as' ∧ Q r (backA e1 rs as')) (fun xc as' => okBack rs as' ∧ x xc (backA e1 rs as'))
theorem okE_call {W : WX} {n : Nat} {c : VSp} {ut : TA} {vt : VTA} (h : OkA K W ut vt) (hn : ∀ as P PX, c as P PX → as.length = n) : OkE K W (tCallS (spV K n c) (WE W) ut) (vCall c vt) := by
  intro G S σ H e F x Q R xo A hq k
  refine h G S σ H e F x _ _ xo A hq fun rs vs S1 H1 e1 F1 s1 A1 q1 h1 => ?_
  obtain ⟨as, ha, nd, h1⟩ := oB_some h1
  have l1 := (argsS_get ha).1
  have l2 := q1.get.1
  refine ⟨by have := hn _ _ _ h1; omega, BA H1 F1 rs, fun j => (vs.map some)[j]?, S1, as, FA F1 rs, _, _, A1.into q1 ha nd, h1, fun r v S' H' as' F' A' rr nb hp => ?_, fun cls pay d S' H' as' F' A' pp hp => ?_⟩
  · obtain ⟨F2, A2, hr⟩ := A1.from q1 ha nd A' hp.1
    exact k r v S' H' _ F2 (s1.trans A'.s0) A2 (hr r v nb rr) hp.2
  · obtain ⟨F2, A2, hr⟩ := A1.from q1 ha nd A' hp.1
    exact xo cls pay d S' σ H' _ F2 A2 pp hp.2
theorem px0 {X : Cx} (σ : L2.St) : PassesAt (L2.CX X.prog X.w) X σ (WE W0 σ) := fun pins H s e s' I c => by
  obtain ⟨a, B, H', cls, d, _, _, _, _, _, _, _, hE⟩ := c
  exact hE.elim
abbrev PxV (X : Cx) (W : WX) : Prop := ∀ σ, PassesAt (L2.CX X.prog X.w) X σ (WE W σ)
section
variable {X : Cx} {W : WX} {pos p : Pos} {a : Expr} {es : List Expr} {x : Str} {k : Nat} {f C : Addr} {fd : FuncData} {ps : List Str} {c : VSp} {ut : TA} {vt : VTA}
/-- what a call needs of a def -/
structure DefV (X : Cx) (k : Nat) (x : Str) (f : Addr) (fd : FuncData) (ps : List Str) (c : VSp) : Prop where
  fn : FnOk X.prog X.w X.K X.mg X.base (L2.CX X.prog X.w) k f fd ps (spV X.K ps.length c)
  mg : X.mg x = some (.ref f)
  kp : PySem.W.keepIn X.K (.ref f) = true
  bd : Binds X.K fd ps []
  len : ∀ as P PX, c as P PX → as.length = ps.length
theorem ve_call (F : DefV X k x f fd ps c) (hr : Room k X.A) (hx : PxV X W) (h : VAx X W (a :: es) ut vt) (hg : Gl X x := by rfl) (hdb : (x == ("__debug__" : Str)) = false := by decide)
    (he : starEach (a :: es) X.env = (false, eval a X.env) :: starEach es X.env := by rfl) (hpl : (backTo pos (starEach es X.env)).any (·.1) = false := by rfl) :
    VEx X W (.Call (.Name x p) (a :: es) [] pos) (tCallS (spV X.K ps.length c) (WE W) ut) (vCall c vt) :=
  ⟨pe_callS F.fn hr hg F.mg F.kp F.bd hx h.p hdb he hpl, okE_call h.o F.len⟩
end
end VL

end

section
set_option Elab.async false
set_option linter.all false
set_option maxRecDepth 100000
set_option maxHeartbeats 4000000
namespace VL
open PySem PySem.Spec PyProof.Rows L2
variable {K : PySem.W.Frag}

/-! ### shared from now on (dicts are locked for good) -/
def tFrz (t : TE) : TE := fun σ H Q => t σ H fun v H1 => Q v H1 ∨ ∃ d ws, v = .ref d ∧ H1 d = some (.dK ws) ∧ ∀ od, Q v (upd H1 d (.frz od (.dK ws)))
theorem pe_frz {X : Cx} {e : Expr} {t : TE} (h : PE X e t) : PE X e (tFrz t) := by
  refine ⟨fun pins s σ H Q I hw => thn (h.run pins s σ H _ I hw) fun v s1 ⟨x, H1, I1, r, q⟩ => ?_⟩
  rcases q with q | ⟨d, ws, rfl, hd, q⟩
  · exact ⟨x, H1, I1, r, q⟩
  · obtain ⟨od, I2⟩ := I1.lock hd trivial
    exact ⟨.ref d, _, I2, r, q od⟩
def vFrz (t : VTE) : VTE := fun x e Q => t x e fun r e1 => match r with
  | .sh d => Q (.sh d) e1
  | .own (.dic kvs) => Q (.sh (.dic kvs)) e1
  | .own o => oB o.toD fun d => Q (.sh d) e1
  | .bor i => (match e1[i]? with
    | some (.own (.dic kvs)) => Q (.sh (.dic kvs)) (e1.set i (.sh (.dic kvs)))
    | some (.own o) => oB o.toD fun d => Q (.sh d) (e1.set i (.sh d))
    | some (.par _) => Q (.bor i) e1
    | _ => False)
  | .fld q i f => Q (.fld q i f) e1
section
variable {G : Gd} {S S' : Hp} {σ : L2.St} {H H' : Hp} {e : En} {F : Nat → List Addr}
theorem At.share1 (A : At K G S σ H e F) {p : Addr} {o : HO} (h1 : S p = none) (h2 : G.B p = none) (h3 : ∀ i, p ∉ F i) : At K G (upd S p o) σ (upd H p o) e F ∧ Same S (upd S p o) := by
  have hs : Same S (upd S p o) := fun a u ha => by rw [upd_ne (ne_of_none ha h1)]; exact ha
  have A1 : At K G S σ (upd H p o) e F := A.heap (fun a ha => upd_ne fun z => ha (z ▸ h1)) (fun a ha => upd_ne fun z => ha (z ▸ h2)) fun i a ha => upd_ne fun z => h3 i (by rw [← z]; exact ha)
  refine ⟨A1.grow hs (fun a u ha => ?_) fun a ha hz => ?_, hs⟩
  · by_cases c : a = p
    · subst c; rw [upd_same] at ha ⊢; exact ha
    · rw [upd_ne c] at ha ⊢; exact A.sh a u ha
  · by_cases c : a = p
    · subst c; exact ⟨h2, h3⟩
    · rw [upd_ne c] at ha; exact absurd hz ha
theorem At.fill (A : At K G S σ H e F) {i : Nat} {v : V} {d : D} (q : e[i]? = some .un) (hv : σ[i]? = some (some v)) (r : Rep K S d v) : At K G S σ H (e.set i (.sh d)) F := by
  have hi : i < e.length := (List.getElem?_eq_some_iff.mp q).1
  refine ⟨A.sh, A.bh, A.s0, A.nw, by rw [List.length_set]; exact A.len, fun j s hj => ?_, fun j hj => A.fr j (by rw [List.length_set] at hj; exact hj), A.fS, A.dj, fun j o' hj => ?_⟩
  · by_cases c : j = i
    · subst c
      rw [List.getElem?_set_self hi] at hj
      cases hj
      exact ⟨A.sl j .un q, v, hv, r⟩
    · rw [List.getElem?_set_ne (Ne.symm c)] at hj
      exact A.sl j s hj
  · by_cases c : j = i
    · subst c
      rw [List.getElem?_set_self hi] at hj
      cases hj
    · rw [List.getElem?_set_ne (Ne.symm c)] at hj
      exact A.pr j o' hj
end
theorem okE_frz {W : WX} {u : TE} {t : VTE} (h : OkE K W u t) : OkE K W (tFrz u) (vFrz t) := by
  intro G S σ H e F x Q R xo A hq k
  refine h G S σ H e F x _ _ xo A hq fun r v S1 H1 e1 F1 s1 A1 q1 h1 => ?_
  cases r with
  | sh d => exact .inl (k _ v S1 H1 e1 F1 s1 A1 q1 h1)
  | fld q i f => exact .inl (k _ v S1 H1 e1 F1 s1 A1 q1 h1)
  | own o =>
    cases q1 with
    | @own _ p f ow hf =>
      have gen : ∀ d, o.toD = some d → Q (.sh d) e1 → R (.ref p) H1 := fun d hd h1 => by
        obtain ⟨S2, s2, A2, r2⟩ := A1.freeze ow hf hd
        exact k _ _ S2 H1 e1 F1 (s1.trans s2) A2 (.sh r2) h1
      cases o with
      | lst xs => exact .inl (gen _ rfl h1)
      | ins C fs => exact .inl (gen _ rfl h1)
      | pot t => exact h1.elim
      | fdic _ _ _ => exact h1.elim
      | obj _ _ => exact h1.elim
      | dic kvs =>
        obtain ⟨ws, ef, hp, rk⟩ := ow.dictInv
        subst ef
        obtain ⟨f1, f2, f3⟩ := hf p (by simp)
        refine .inr ⟨p, ws, rfl, hp, fun od => ?_⟩
        obtain ⟨A2, s2⟩ := A1.share1 (o := .frz od (.dK ws)) f1 f2 f3
        exact k _ _ _ _ e1 F1 (s1.trans s2) A2 (.sh (.dic upd_same (rk.mono s2))) h1
  | bor i =>
    cases q : e1[i]? with
    | none => simp only [q] at h1
    | some s =>
      cases s with
      | un => simp only [q] at h1
      | sh d => simp only [q] at h1
      | par o => simp only [q] at h1; exact .inl (k _ v S1 H1 e1 F1 s1 A1 q1 h1)
      | own o =>
        cases q1 with
        | bor hv =>
          obtain ⟨p, hp, ow⟩ := A1.sl i _ q
          rw [hp] at hv
          have hv := Option.some.inj (Option.some.inj hv)
          subst hv
          have gen : ∀ d, o.toD = some d → Q (.sh d) (e1.set i (.sh d)) → R (.ref p) H1 := fun d hd h1 => by
            obtain ⟨S2, F2, v2, s2, A2, hv2, r2⟩ := A1.shareSlot q hd
            rw [hp] at hv2
            have hv2 := Option.some.inj (Option.some.inj hv2)
            subst hv2
            exact k _ _ S2 H1 _ F2 (s1.trans s2) A2 (.sh r2) h1
          cases o with
          | lst xs => simp only [q] at h1; exact .inl (gen _ rfl h1)
          | ins C fs => simp only [q] at h1; exact .inl (gen _ rfl h1)
          | pot t => simp only [q] at h1; exact h1.elim
          | fdic _ _ _ => simp only [q] at h1; exact h1.elim
          | obj _ _ => simp only [q] at h1; exact h1.elim
          | dic kvs =>
            simp only [q] at h1
            obtain ⟨ws, ef, hH, rk⟩ := ow.dictInv
            refine .inr ⟨p, ws, rfl, hH, fun od => ?_⟩
            have hi : i < e1.length := (List.getElem?_eq_some_iff.mp q).1
            have fs := A1.fS i p (by rw [ef]; simp)
            have A2 := A1.empty q
            obtain ⟨A3, s3⟩ := A2.share1 (p := p) (o := .frz od (.dK ws)) fs.1 fs.2 fun j hj => by
              have hj : p ∈ (if j = i then [] else F1 j) := hj
              by_cases c : j = i
              · rw [if_pos c] at hj; simp at hj
              · rw [if_neg c] at hj; exact c (A1.dj j i p hj (by rw [ef]; simp))
            have rr : Rep K (upd S1 p (.frz od (.dK ws))) (.dic kvs) (.ref p) := .dic upd_same (rk.mono s3)
            have A4 := A3.fill (i := i) (v := .ref p) (d := .dic kvs) (List.getElem?_set_self hi) hp rr
            rw [List.set_set] at A4
            exact k _ _ _ _ _ _ (s1.trans s3) A4 (.sh rr) h1
theorem ve_frz {X : Cx} {W : WX} {e : Expr} {u : TE} {t : VTE} (h : VEx X W e u t) : VEx X W e (tFrz u) (vFrz t) := ⟨pe_frz h.p, okE_frz h.o⟩

/-! ### dicts walked -/
theorem walk_keys {z : Nat → Option (Option V)} {S : Hp} {p : Addr} {o : Obj} {ws : List (Key × V)} {kvs : List (Key × D)} (h : S p = some (.frz o (.dK ws))) (r : Repk K S kvs ws) : WalkV K z (Itk p o ws) S (kvs.map fun kv => kD kv.1) okT where
  go := fun G S' σ H e F i _ s1 A _ hi => ⟨A.sh _ _ (s1 _ _ h), by rw [List.length_map] at hi; rw [← r.length]; exact hi⟩
  yld := fun G S' σ H e F i x H' _ s1 A _ hy hi => by
    obtain ⟨rfl, k, v, hk, rfl⟩ := hy
    obtain ⟨d, hd, ko, rd⟩ := r.get hk
    exact ⟨S', kD k, Same.refl _, A, by rw [List.getElem?_map, hd]; rfl, rep_kD ko⟩
  stop := fun G S' σ H e F i _ s1 A _ hi => ⟨A.sh _ _ (s1 _ _ h), by rw [List.length_map] at hi; rw [← r.length]; exact hi⟩
theorem walk_vals {z : Nat → Option (Option V)} {S : Hp} {p : Addr} {o : Obj} {ws : List (Key × V)} {kvs : List (Key × D)} (h : S p = some (.frz o (.dK ws))) (r : Repk K S kvs ws) : WalkV K z (Itd p o ws) S (kvs.map fun kv => kv.2) okT where
  go := fun G S' σ H e F i _ s1 A _ hi => ⟨A.sh _ _ (s1 _ _ h), by rw [List.length_map] at hi; rw [← r.length]; exact hi⟩
  yld := fun G S' σ H e F i x H' _ s1 A _ hy hi => by
    obtain ⟨rfl, k, hk⟩ := hy
    obtain ⟨d, hd, ko, rd⟩ := r.get hk
    exact ⟨S', d, Same.refl _, A, by rw [List.getElem?_map, hd]; rfl, rd.mono s1⟩
  stop := fun G S' σ H e F i _ s1 A _ hi => ⟨A.sh _ _ (s1 _ _ h), by rw [List.length_map] at hi; rw [← r.length]; exact hi⟩
theorem walk_items {z : Nat → Option (Option V)} {S : Hp} {p : Addr} {o : Obj} {ws : List (Key × V)} {kvs : List (Key × D)} (h : S p = some (.frz o (.dK ws))) (r : Repk K S kvs ws) : WalkV K z (Iti p o ws) S (kvs.map fun kv => .tup [kD kv.1, kv.2]) okT where
  go := fun G S' σ H e F i _ s1 A _ hi => ⟨A.sh _ _ (s1 _ _ h), by rw [List.length_map] at hi; rw [← r.length]; exact hi⟩
  yld := fun G S' σ H e F i x H' _ s1 A _ hy hi => by
    obtain ⟨T, k, v, hk, rfl, hT, rfl⟩ := hy
    obtain ⟨d, hd, ko, rd⟩ := r.get hk
    obtain ⟨A2, s2, r2⟩ := A.newT hT (.cons (rep_kD ko) (.cons (rd.mono s1) .nil))
    exact ⟨_, _, s2, A2, by rw [List.getElem?_map, hd]; rfl, r2⟩
  stop := fun G S' σ H e F i _ s1 A _ hi => ⟨A.sh _ _ (s1 _ _ h), by rw [List.length_map] at hi; rw [← r.length]; exact hi⟩
section
variable {X : Cx} {W : WX} {pos p apos cpos : Pos} {tg a b c : Expr} {ua ub uc : TE} {va vb vc : VTE}
def viKeys (t : VTE) : VI := fun x e Q => t x e fun r e1 => match r with
  | .sh (.dic kvs) => Q (kvs.map fun kv => kD kv.1) okT e1
  | _ => False
def viVals (t : VTE) : VI := fun x e Q => t x e fun r e1 => match r with
  | .sh (.dic kvs) => Q (kvs.map fun kv => kv.2) okT e1
  | _ => False
def viItems (t : VTE) : VI := fun x e Q => t x e fun r e1 => match r with
  | .sh (.dic kvs) => Q (kvs.map fun kv => .tup [kD kv.1, kv.2]) okT e1
  | _ => False
theorem vi_keys (h : VEx X W a ua va) : VIx X W tg a (iKeys ua) (viKeys va) := by
  refine ⟨pi_keys h.p, fun G S σ H e F x Q R xo A hq k => ?_⟩
  refine h.o G S σ H e F x _ _ xo A hq fun r v S1 H1 e1 F1 s1 A1 q1 h1 => ?_
  split at h1
  · cases q1 with
    | sh q1 => cases q1 with
      | dic hp rp => exact ⟨_, _, rfl, .inl ⟨_, A1.sh _ _ hp, k _ _ _ S1 H1 e1 F1 s1 A1 (walk_keys hp rp) h1⟩⟩
  · exact h1.elim
theorem vi_vals (h : VEx X W a ua va) (hbase : attributeBase a "values" X.env (eval a X.env) = eval a X.env := by rfl) (hline : (apos.endLine == cpos.line) = true := by rfl) :
    VIx X W tg (.Call (.Attribute a "values" apos) [] [] cpos) (iVals ua) (viVals va) := by
  refine ⟨pi_values h.p hbase hline, fun G S σ H e F x Q R xo A hq k => ?_⟩
  refine h.o G S σ H e F x _ _ xo A hq fun r v S1 H1 e1 F1 s1 A1 q1 h1 => ?_
  split at h1
  · cases q1 with
    | sh q1 => cases q1 with
      | dic hp rp => exact ⟨_, _, _, rfl, A1.sh _ _ hp, k _ _ _ S1 H1 e1 F1 s1 A1 (walk_vals hp rp) h1⟩
  · exact h1.elim
theorem vi_items {elts : List Expr} {kk : Nat} {tpos : Pos} (h : VEx X W a ua va) (hbase : attributeBase a "items" X.env (eval a X.env) = eval a X.env := by rfl) (hline : (apos.endLine == cpos.line) = true := by rfl) :
    VIx X W (.Tuple elts kk tpos) (.Call (.Attribute a "items" apos) [] [] cpos) (iItems ua) (viItems va) := by
  refine ⟨pi_items h.p hbase hline, fun G S σ H e F x Q R xo A hq k => ?_⟩
  refine h.o G S σ H e F x _ _ xo A hq fun r v S1 H1 e1 F1 s1 A1 q1 h1 => ?_
  split at h1
  · cases q1 with
    | sh q1 => cases q1 with
      | dic hp rp => exact ⟨_, _, _, rfl, A1.sh _ _ hp, k _ _ _ S1 H1 e1 F1 s1 A1 (walk_items hp rp) h1⟩
  · exact h1.elim
end

/-! ### methods of an own list -/
abbrev MOp := List D → List D → (D → List D → Prop) → Prop
def MtV (K : PySem.W.Frag) (r : V → List V → Hp → VK → Prop) (o : MOp) : Prop := ∀ S H l vs us xs ds (P : D → List D → Prop) (Q : VK), Same S H → H l = some (.lst vs) → Reps K S xs vs → RepTs K S H ds us → o xs ds P →
  (∀ d y ys ws, Rep K S d y → Reps K S ys ws → P d ys → Q y (upd H l (.lst ws))) → r (.ref l) us H Q
/-- o.m(shared ..) -/
def vLm (o : MOp) (t : VTE) (u : VTA) : VTE := fun x e Q => t x e fun r e1 => match r with
  | .bor i => (match ownO e1 i with
    | some (.lst _) => u x e1 fun rs e2 => (match ownO e2 i with
      | some (.lst xs) => oB (shs rs) fun ds => o xs ds fun d ys => Q (.sh d) (setO e2 i (.lst ys))
      | _ => False)
    | _ => False)
  | _ => False
/-- o.m(..), what is seen of the arguments -/
def vLx (o : MOp) (t : VTE) (u : VTA) : VTE := fun x e Q => t x e fun r e1 => match r with
  | .bor i => (match ownO e1 i with
    | some (.lst _) => u x e1 fun rs e2 => (match ownO e2 i with
      | some (.lst xs) => oB (conts e2 rs) fun ds => o xs ds fun d ys => Q (.sh d) (setO e2 i (.lst ys))
      | _ => False)
    | _ => False)
  | _ => False
theorem reps_T {S H : Hp} : ∀ {ds : List D} {vs : List V}, Reps K S ds vs → RepTs K S H ds vs
  | _, _, .nil => .nil
  | _, _, .cons h t => .cons (.of h) (reps_T t)
theorem okE_lx {W : WX} {r : V → List V → Hp → VK → Prop} {o : MOp} {ua : TE} {va : VTE} {ut : TA} {vt : VTA} (hv : MtV K r o) (h : OkE K W ua va) (h2 : OkA K W ut vt) : OkE K W (tBM K "list" r ua ut) (vLx o va vt) := by
  intro G S σ H e F x Q R xo A hq k
  refine h G S σ H e F x _ _ xo A hq fun r v S1 H1 e1 F1 s1 A1 q1 h1 => ?_
  cases r with
  | sh d => exact h1.elim
  | own d => exact h1.elim
  | fld _ _ _ => exact h1.elim
  | bor i =>
    cases q1 with
    | bor hσ =>
      cases ho : ownO e1 i with
      | none => simp only [ho] at h1
      | some o1 =>
        simp only [ho] at h1
        cases o1 with
        | lst xs0 =>
          obtain ⟨p, hp, ow⟩ := A1.owned ho
          rw [hσ] at hp; cases hp
          obtain ⟨ws0, _, hw0, _⟩ := ow.listInv
          refine ⟨.inl ⟨rfl, _, SqL.of hw0⟩, ?_⟩
          refine h2 G S1 σ H1 e1 F1 x _ _ xo A1 h1 fun rs vs S2 H2 e2 F2 s2 A2 q2 h2 => ?_
          split at h2
          · rename_i xs ho2
            obtain ⟨ds, hds, h2⟩ := oB_some h2
            obtain ⟨p', hp', ow2⟩ := A2.owned ho2
            rw [hσ] at hp'; cases hp'
            obtain ⟨ws, _, hw, rw_⟩ := ow2.listInv
            refine hv S2 H2 _ ws vs xs ds _ _ A2.sh hw rw_ (A2.conts q2 hds) h2 fun d y ys ws' rd rys hP => ?_
            exact k _ y S2 _ _ F2 (s1.trans s2) (A2.setList ho2 hσ rys) (.sh rd) hP
          · exact h2.elim
        | _ => exact h1.elim
theorem shs_conts {e : En} : ∀ {rs : List Re} {ds : List D}, shs rs = some ds → conts e rs = some ds
  | [], ds, h => by cases h; rfl
  | .sh d :: rs, ds, h => by
    unfold shs at h
    cases q : shs rs with
    | none => rw [q] at h; cases h
    | some ds' =>
      rw [q] at h
      cases h
      simp [conts, cont, shs_conts q]
  | .bor i :: rs, ds, h => by cases h
  | .own i :: rs, ds, h => by cases h
  | .fld _ _ _ :: rs, ds, h => by cases h
/-- for methods that store their arguments -/
def MtS (K : PySem.W.Frag) (r : V → List V → Hp → VK → Prop) (o : MOp) : Prop := ∀ S H l vs us xs ds (P : D → List D → Prop) (Q : VK), Same S H → H l = some (.lst vs) → Reps K S xs vs → Reps K S ds us → o xs ds P →
  (∀ d y ys ws, Rep K S d y → Reps K S ys ws → P d ys → Q y (upd H l (.lst ws))) → r (.ref l) us H Q
theorem okE_lm {W : WX} {r : V → List V → Hp → VK → Prop} {o : MOp} {ua : TE} {va : VTE} {ut : TA} {vt : VTA} (hv : MtS K r o) (h : OkE K W ua va) (h2 : OkA K W ut vt) : OkE K W (tBM K "list" r ua ut) (vLm o va vt) := by
  intro G S σ H e F x Q R xo A hq k
  refine h G S σ H e F x _ _ xo A hq fun r v S1 H1 e1 F1 s1 A1 q1 h1 => ?_
  cases r with
  | sh d => exact h1.elim
  | own d => exact h1.elim
  | fld _ _ _ => exact h1.elim
  | bor i =>
    cases q1 with
    | bor hσ =>
      cases ho : ownO e1 i with
      | none => simp only [ho] at h1
      | some o1 =>
        simp only [ho] at h1
        cases o1 with
        | lst xs0 =>
          obtain ⟨p, hp, ow⟩ := A1.owned ho
          rw [hσ] at hp; cases hp
          obtain ⟨ws0, _, hw0, _⟩ := ow.listInv
          refine ⟨.inl ⟨rfl, _, SqL.of hw0⟩, ?_⟩
          refine h2 G S1 σ H1 e1 F1 x _ _ xo A1 h1 fun rs vs S2 H2 e2 F2 s2 A2 q2 h2 => ?_
          split at h2
          · rename_i xs ho2
            obtain ⟨ds, hds, h2⟩ := oB_some h2
            obtain ⟨p', hp', ow2⟩ := A2.owned ho2
            rw [hσ] at hp'; cases hp'
            obtain ⟨ws, _, hw, rw_⟩ := ow2.listInv
            refine hv S2 H2 _ ws vs xs ds _ _ A2.sh hw rw_ (shs_rep q2 hds) h2 fun d y ys ws' rd rys hP => ?_
            exact k _ y S2 _ _ F2 (s1.trans s2) (A2.setList ho2 hσ rys) (.sh rd) hP
          · exact h2.elim
        | _ => exact h1.elim
def oApp : MOp := fun xs ds P => match ds with
  | [d] => xs.length < sizeLine ∧ P .non (xs ++ [d])
  | _ => False
theorem mtS_app : MtS K rAppend oApp := by
  intro S H l vs us xs ds P Q hs hl rx rd h k
  unfold oApp at h
  split at h
  · cases rd with
    | cons r t => cases t
                  exact ⟨l, vs, _, rfl, rfl, hl, by rw [← rx.length]; exact h.1, k _ _ _ _ .non (rx.append (.cons r .nil)) h.2⟩
  · exact h.elim
def oPop0 : MOp := fun xs ds P => ds = [] ∧ oB xs.getLast? fun d => P d xs.dropLast
theorem getLast_ix {α : Type} {xs : List α} {d : α} (h : xs.getLast? = some d) : xs[xs.length - 1]? = some d := by rw [← List.getLast?_eq_getElem?]; exact h
theorem mtV_pop0 : MtV K rPop oPop0 := by
  intro S H l vs us xs ds P Q hs hl rx rd h k
  obtain ⟨rfl, h⟩ := h
  obtain ⟨d, hd, h⟩ := oB_some h
  cases rd
  obtain ⟨v, hv, rv⟩ := rx.get (getLast_ix hd)
  exact ⟨l, vs, v, rfl, rfl, hl, by rw [← rx.length]; exact hv, k _ _ _ _ rv rx.dropLast h⟩
theorem Reps.eraseIdx {S : Hp} : ∀ {ds : List D} {vs : List V} (n : Nat), Reps K S ds vs → Reps K S (ds.eraseIdx n) (vs.eraseIdx n)
  | _, _, _, .nil => .nil
  | _, _, 0, .cons h t => t
  | _, _, n + 1, .cons h t => .cons h (Reps.eraseIdx n t)
def oPop1 : MOp := fun xs ds P => match ds with
  | [.int i] => (-(2 ^ 63) ≤ i ∧ i < 2 ^ 63) ∧ oB (seqIndex? i xs.length) fun n => oB xs[n]? fun d => P d (xs.eraseIdx n)
  | _ => False
theorem mtV_pop1 : MtV K rPopAt oPop1 := by
  intro S H l vs us xs ds P Q hs hl rx rd h k
  unfold oPop1 at h
  split at h
  · obtain ⟨⟨b1, b2⟩, h⟩ := h
    obtain ⟨n, hn, h⟩ := oB_some h
    obtain ⟨d, hd, h⟩ := oB_some h
    obtain ⟨u, rfl, r⟩ := rd.one
    cases r.int
    obtain ⟨v, hv, rv⟩ := rx.get hd
    exact ⟨l, vs, _, n, v, rfl, rfl, hl, b1, b2, by rw [← rx.length]; exact hn, hv, k _ _ _ _ rv (rx.eraseIdx n) h⟩
  · exact h.elim
/-- extend by a list, a tuple -/
def rExtT (K : PySem.W.Frag) : V → List V → Hp → VK → Prop := fun x vs H Q => ∃ l b xs zs, x = .ref l ∧ vs = [.ref b] ∧ H l = some (.lst xs) ∧ SqT K H b zs ∧ xs.length + zs.length ≤ sizeLine ∧ Q .non (upd H l (.lst (xs ++ zs)))
theorem ext_tuple (l : Addr) (items : Array Value) (n : Nat) (b : Addr) (items2 : Array Value) (hs0 : ¬(!items.isEmpty && Builtin.List.listTooLong (items.size + items2.size)) = true) (hs1 : items.size ≤ sizeLine) (hs2 : items.size + items2.size ≤ sizeLine + 1) :
    Meets (Builtin.«list.extend» ⟨[.ref l, .ref b], []⟩) (fun _ R s => s.heap.get? l = some { cls := .type "list", dict := none, data := .seq items n, slots := #[] } ∧ s.heap.IsTuple b items2 ∧ R (.ok (.ret Value.none)) { s with heap := s.heap.update l (Obj.mapSeq fun x => x ++ items2), toks := s.toks }) :=
  .of_wp fun prog w A R s h => by
    obtain ⟨hp, g, d, tk, os⟩ := s
    obtain ⟨hl, ⟨o, hb, hc, n2, hd⟩, h⟩ := h
    obtain ⟨oc, od, odat, osl⟩ := o
    cases hc
    cases hd
    have f1 := AutoSeq1.idx_int; have f2 := AutoSeq1.sub_tuple_tuple; have f3 := AutoSeq1.sub_list_list; have f4 := AutoSeq1.sub_tuple_list; have f5 := AutoSeq1.sub_list_tuple
    have hz' : (items ++ items2).size ≤ sizeLine + 1 := by rw [Array.size_append]; exact hs2
    wp_walk using (wpAny_updateSeq hl rfl (hz := hs1) (_hz' := hz')), AutoSeq1.wpAny_loadPart' hl, AutoSeq1.wpAny_loadPart' hb
    exact ⟨_, rfl, h⟩
theorem mt_extT {X : Cx} : MtR X "list.extend" (rExtT X.K) := by
  intro pins s σ H x vs v us Q I rx rv h
  obtain ⟨l, b, xs, zs, rfl, rfl, hH, hB, hz, q⟩ := h
  cases rx
  obtain ⟨u, rfl, ru⟩ := rv.one
  cases ru
  obtain ⟨z, its, n, r, hl, e⟩ := I.lstM hH
  obtain ⟨its2, r2, p2, hz2⟩ := I.tuple hB
  have hl2 := r2.length
  have hsz : its.toArray.size + its2.toArray.size ≤ sizeLine := by rw [List.size_toArray, List.size_toArray]; omega
  have hlong : ¬ (!its.toArray.isEmpty && Builtin.List.listTooLong (its.toArray.size + its2.toArray.size)) = true := by
    rw [notLongL hsz, Bool.and_false]
    exact Bool.false_ne_true
  refine call_meets F.slot_list_extend ⟨_, e, rfl⟩ F.entry_list_extend (F.args_list_extend_2 _ _)
    (ext_tuple l its.toArray n b its2.toArray hlong (by rw [List.size_toArray]; omega) (by omega)) ⟨e, p2, ?_⟩
  refine ⟨.non, _, I.lset (its' := its ++ its2) hH e (by simp) (r.append r2) ?_, rfl, q⟩
  rw [List.length_append]
  omega
def rExtU (K : PySem.W.Frag) : V → List V → Hp → VK → Prop := fun x vs H Q => rExtend x vs H Q ∨ rExtT K x vs H Q
theorem mt_extU {X : Cx} : MtR X "list.extend" (rExtU X.K) := by
  intro pins s σ H x vs v us Q I rx rv h
  rcases h with h | h
  · exact mt_extend pins s σ H x vs v us Q I rx rv h
  · exact mt_extT pins s σ H x vs v us Q I rx rv h
def oExt : MOp := fun xs ds P => match ds with
  | [.lst ys] => xs.length + ys.length ≤ sizeLine ∧ P .non (xs ++ ys)
  | [.tup ys] => xs.length + ys.length ≤ sizeLine ∧ P .non (xs ++ ys)
  | _ => False
theorem mtV_ext : MtV K (rExtU K) oExt := by
  intro S H l vs us xs ds P Q hs hl rx rd h k
  unfold oExt at h
  split at h
  · obtain ⟨u, rfl, r⟩ := rd.one
    obtain ⟨p, ws, rfl, hp, rp⟩ := r.list hs
    exact .inl ⟨l, p, vs, ws, rfl, rfl, hl, hp, by rw [← rx.length, ← rp.length]; exact h.1, k _ _ _ _ .non (rx.append rp) h.2⟩
  · obtain ⟨u, rfl, r⟩ := rd.one
    obtain ⟨p, ws, rfl, hp, rp⟩ := r.tup hs
    exact .inr ⟨l, p, vs, ws, rfl, rfl, hl, hp, by rw [← rx.length, ← rp.length]; exact h.1, k _ _ _ _ .non (rx.append rp) h.2⟩
  · exact h.elim
section
variable {X : Cx} {W : WX} {apos cpos : Pos} {a b c : Expr} {ua ub uc : TE} {va vb vc : VTE} {ut : TA} {vt : VTA}
theorem ve_append (h : VEx X W a ua va) (h2 : VAx X W [b] ut vt) (hbase : attributeBase a "append" X.env (eval a X.env) = eval a X.env := by rfl)
    (hfew : ((backTo cpos (starEach [b] X.env)).all (fun x => !x.1) && (backToKw cpos (keywordEach [] X.env)).all (fun x => x.1.isSome)
      && decide ([b].length + ([] : List Keyword).length + (if ([] : List Keyword).isEmpty then 0 else 1) < 30)) = true := by rfl)
    (hline : (apos.endLine == cpos.line) = true := by rfl) (hs : starEach [b] X.env = (false, eval b X.env) :: starEach [] X.env := by rfl) (hplain : (backTo cpos (starEach [] X.env)).any (·.1) = false := by rfl) :
    VEx X W (.Call (.Attribute a "append" apos) [b] [] cpos) (tBM X.K "list" rAppend ua ut) (vLm oApp va vt) :=
  ⟨pe_bm PySem.F.plainAttrs_list PySem.F.slot_list_append PySem.F.type_list_append mt_append h.p h2.p hbase hfew hline hs hplain, okE_lm mtS_app h.o h2.o⟩
theorem ve_extend (h : VEx X W a ua va) (h2 : VAx X W [b] ut vt) (hbase : attributeBase a "extend" X.env (eval a X.env) = eval a X.env := by rfl)
    (hfew : ((backTo cpos (starEach [b] X.env)).all (fun x => !x.1) && (backToKw cpos (keywordEach [] X.env)).all (fun x => x.1.isSome)
      && decide ([b].length + ([] : List Keyword).length + (if ([] : List Keyword).isEmpty then 0 else 1) < 30)) = true := by rfl)
    (hline : (apos.endLine == cpos.line) = true := by rfl) (hs : starEach [b] X.env = (false, eval b X.env) :: starEach [] X.env := by rfl) (hplain : (backTo cpos (starEach [] X.env)).any (·.1) = false := by rfl) :
    VEx X W (.Call (.Attribute a "extend" apos) [b] [] cpos) (tBM X.K "list" (rExtU X.K) ua ut) (vLx oExt va vt) :=
  ⟨pe_bm PySem.F.plainAttrs_list PySem.F.slot_list_extend PySem.F.type_list_extend mt_extU h.p h2.p hbase hfew hline hs hplain, okE_lx mtV_ext h.o h2.o⟩
theorem ve_pop1 (h : VEx X W a ua va) (h2 : VAx X W [b] ut vt) (hbase : attributeBase a "pop" X.env (eval a X.env) = eval a X.env := by rfl)
    (hfew : ((backTo cpos (starEach [b] X.env)).all (fun x => !x.1) && (backToKw cpos (keywordEach [] X.env)).all (fun x => x.1.isSome)
      && decide ([b].length + ([] : List Keyword).length + (if ([] : List Keyword).isEmpty then 0 else 1) < 30)) = true := by rfl)
    (hline : (apos.endLine == cpos.line) = true := by rfl) (hs : starEach [b] X.env = (false, eval b X.env) :: starEach [] X.env := by rfl) (hplain : (backTo cpos (starEach [] X.env)).any (·.1) = false := by rfl) :
    VEx X W (.Call (.Attribute a "pop" apos) [b] [] cpos) (tBM X.K "list" rPopAt ua ut) (vLx oPop1 va vt) :=
  ⟨pe_bm PySem.F.plainAttrs_list PySem.F.slot_list_pop PySem.F.type_list_pop mt_popAt h.p h2.p hbase hfew hline hs hplain, okE_lx mtV_pop1 h.o h2.o⟩
/-- o.m() -/
def vL0 (o : MOp) (t : VTE) : VTE := fun x e Q => t x e fun r e1 => match r with
  | .bor i => (match ownO e1 i with
    | some (.lst xs) => o xs [] fun d ys => Q (.sh d) (setO e1 i (.lst ys))
    | _ => False)
  | _ => False
theorem okE_l0 {r : V → List V → Hp → VK → Prop} {o : MOp} (hv : MtV K r o) (h : OkE K W ua va) : OkE K W (tBM0 K "list" r ua) (vL0 o va) := by
  intro G S σ H e F x Q R xo A hq k
  refine h G S σ H e F x _ _ xo A hq fun r v S1 H1 e1 F1 s1 A1 q1 h1 => ?_
  cases r with
  | sh d => exact h1.elim
  | own d => exact h1.elim
  | fld _ _ _ => exact h1.elim
  | bor i =>
    cases q1 with
    | bor hσ =>
      cases ho : ownO e1 i with
      | none => simp only [ho] at h1
      | some o1 =>
        simp only [ho] at h1
        cases o1 with
        | lst xs =>
          obtain ⟨p, hp, ow⟩ := A1.owned ho
          rw [hσ] at hp; cases hp
          obtain ⟨ws, _, hw, rw_⟩ := ow.listInv
          refine ⟨.inl ⟨rfl, _, SqL.of hw⟩, ?_⟩
          refine hv S1 H1 _ ws [] xs [] _ _ A1.sh hw rw_ .nil h1 fun d y ys ws' rd rys hP => ?_
          exact k _ y S1 _ _ F1 s1 (A1.setList ho hσ rys) (.sh rd) hP
        | _ => exact h1.elim
theorem ve_pop0 (h : VEx X W a ua va) (hbase : attributeBase a "pop" X.env (eval a X.env) = eval a X.env := by rfl) (hline : (apos.endLine == cpos.line) = true := by rfl) :
    VEx X W (.Call (.Attribute a "pop" apos) [] [] cpos) (tBM0 X.K "list" rPop ua) (vL0 oPop0 va) :=
  ⟨pe_bm0 PySem.F.plainAttrs_list PySem.F.slot_list_pop PySem.F.type_list_pop mt_pop h.p hbase hline, okE_l0 mtV_pop0 h.o⟩
end
end VL

end

section
set_option Elab.async false
set_option linter.all false
set_option maxRecDepth 100000
set_option maxHeartbeats 4000000
namespace VL
open PySem PySem.Spec PyProof.Rows L2
variable {K : PySem.W.Frag}

/-! ### methods of dicts -/
section
variable {X : Cx} {W : WX} {pos p apos cpos : Pos} {tg a b c : Expr} {ua ub uc : TE} {va vb vc : VTE}
/-- d.setdefault(k, v), d an own dict -/
def vSetd (t u w : VTE) : VTE := fun x e Q => t x e fun r e1 => match r with
  | .bor i => (match ownO e1 i with
    | some (.dic _) => u x e1 fun r2 e2 => w x e2 fun r3 e3 => (match ownO e3 i with
      | some (.dic kvs) => oB (cont e3 (fz r2)) fun kd => oB (keyD kd) fun key => (match fz r3 with
        | .sh z => kvs.length < sizeLine ∧ (match dget kvs key with
          | some d => Q (.sh d) e3
          | none => Q (.sh z) (setO e3 i (.dic (kvs ++ [(key, z)]))))
        | _ => False)
      | _ => False)
    | _ => False)
  | _ => False
theorem dget_none_dput {kvs : List (Key × D)} {k : Key} {d : D} (h : dget kvs k = none) : dput kvs k d = kvs ++ [(k, d)] := by
  unfold dput
  rw [if_neg]
  intro hc
  obtain ⟨p, hp, hk⟩ := List.any_eq_true.mp hc
  unfold dget at h
  rw [Option.map_eq_none_iff] at h
  have q := List.find?_eq_none.mp h p hp
  exact q hk
theorem okE_setd (ha : OkE K W ua va) (hb : OkE K W ub vb) (hc : OkE K W uc vc) : OkE K W (tDSetd ua ub uc) (vSetd va vb vc) := by
  intro G S σ H e F x Q R xo A hq k
  refine ha G S σ H e F x _ _ xo A hq fun r v S1 H1 e1 F1 s1 A1 q1 h1 => ?_
  cases r with
  | sh d => exact h1.elim
  | own d => exact h1.elim
  | fld _ _ _ => exact h1.elim
  | bor i =>
    cases q1 with
    | bor hσ =>
      cases ho : ownO e1 i with
      | none => simp only [ho] at h1
      | some o1 =>
        simp only [ho] at h1
        cases o1 with
        | dic kvs0 =>
          obtain ⟨p, hp, ow⟩ := A1.owned ho
          rw [hσ] at hp; cases hp
          obtain ⟨ws0, _, hw0, _⟩ := ow.dictInv
          refine ⟨_, rfl, .inl ⟨_, .inl hw0⟩, ?_⟩
          refine hb G S1 σ H1 e1 F1 x _ _ xo A1 h1 fun r2 v2 S2 H2 e2 F2 s2 A2 q2 h2 => ?_
          by_cases c2 : ∃ o, fz r2 = .own o
          · obtain ⟨o2, c2⟩ := c2
            refine hc G S2 σ H2 e2 F2 x _ _ xo A2 h2 fun r3 v3 S3 H3 e3 F3 s3 A3 q3 h3 => ?_
            exfalso
            split at h3
            · obtain ⟨kd, hkd, _⟩ := oB_some h3
              exact cont_fz hkd o2 c2
            · exact h3
          obtain ⟨S2', s2', A2', q2'⟩ := A2.opd q2 fun o z => c2 ⟨o, z⟩
          refine hc G S2' σ H2 e2 F2 x _ _ xo A2' h2 fun r3 v3 S3 H3 e3 F3 s3 A3 q3 h3 => ?_
          split at h3
          · rename_i kvs ho3
            obtain ⟨kd, hkd, h3⟩ := oB_some h3
            obtain ⟨key, hk, h3⟩ := oB_some h3
            have hn : ∀ o, fz r3 ≠ .own o := fun o z => by
              rw [z] at h3
              exact h3.elim
            obtain ⟨S4, s4, A4, q4⟩ := A3.opd q3 hn
            split at h3
            · rename_i z hz
              obtain ⟨hlen, h3⟩ := h3
              rw [hz] at q4
              cases q4 with
              | sh q4 _ =>
                obtain ⟨p', hp', ow3⟩ := A4.owned ho3
                rw [hσ] at hp'; cases hp'
                obtain ⟨ws, _, hw, rk⟩ := ow3.dictInv
                have t2 := A4.cont (q2'.mono (H' := H3) (F' := F3) (s3.trans s4)) hkd
                have f1 : flatD kd = true := by cases kd <;> first | rfl | cases hk
                have ex := key_rep (t2.flat f1) hk
                have kok := key_ok (t2.flat f1) hk
                subst ex
                have ss := (s1.trans (s2.trans s2')).trans (s3.trans s4)
                refine ⟨ws, key, hw, rfl, by rw [← rk.length]; exact hlen, fun v hv => ?_, fun hv => ?_⟩
                · rcases rk.look (k := key) with ⟨z1, z2⟩ | ⟨d, v', z1, z2, z3⟩
                  · rw [z2] at hv; cases hv
                  · rw [z2] at hv; cases hv
                    rw [z1] at h3
                    exact k _ _ S4 H3 e3 F3 ss A4 (.sh z3) h3
                · rcases rk.look (k := key) with ⟨z1, z2⟩ | ⟨d, v', z1, z2, z3⟩
                  · rw [z1] at h3
                    have A5 := A4.setDict ho3 hσ (rk.put kok q4)
                    rw [dget_none_dput z1] at A5
                    exact k _ _ S4 _ _ F3 ss A5 (.sh q4) h3
                  · rw [z2] at hv; cases hv
            · exact h3.elim
          · exact h3.elim
        | _ => exact h1.elim
theorem ve_setd (ha : VEx X W a ua va) (hb : VEx X W b ub vb) (hc : VEx X W c uc vc) (m : M2 X a "setdefault" apos b c cpos := by constructor <;> rfl) :
    VEx X W (.Call (.Attribute a "setdefault" apos) [b, c] [] cpos) (tDSetd ua ub uc) (vSetd va vb vc) := ⟨pe_dsetd ha.p hb.p hc.p m, okE_setd ha.o hb.o hc.o⟩
/-- d.get(k) -/
def vGet1 (t u : VTE) : VTE := fun x e Q => t x e fun r e1 => match cont e1 (fz r) with
  | some (.dic _) => u x e1 fun r2 e2 => (match cont e2 (fz r) with
    | some (.dic kvs) => oB (cont e2 (fz r2)) fun kd => oB (keyD kd) fun key => Q (.sh ((dget kvs key).getD .non)) e2
    | _ => False)
  | _ => False
theorem okE_get1 (ha : OkE K W ua va) (hb : OkE K W ub vb) : OkE K W (tDGet1 ua ub) (vGet1 va vb) := by
  intro G S σ H e F x Q R xo A hq k
  refine ha G S σ H e F x _ _ xo A hq fun r v S1 H1 e1 F1 s1 A1 q1 h1 => ?_
  split at h1
  · rename_i kvs0 hc0
    obtain ⟨S1', s1', A1', q1'⟩ := A1.opd q1 (cont_fz hc0)
    obtain ⟨p, ws0, rfl, hp0, rp0⟩ := (A1'.cont q1' hc0).dict A1'.sh
    refine ⟨p, rfl, .inl ⟨_, hp0⟩, ?_⟩
    refine hb G S1' σ H1 e1 F1 x _ _ xo A1' h1 fun r2 v2 S2 H2 e2 F2 s2 A2 q2 h2 => ?_
    split at h2
    · rename_i kvs hc1
      obtain ⟨kd, hkd, h2⟩ := oB_some h2
      obtain ⟨key, hk, h2⟩ := oB_some h2
      obtain ⟨S2', s2', A2', q2'⟩ := A2.opd q2 (cont_fz hkd)
      obtain ⟨p', ws, ep, hp, rp⟩ := (A2'.cont (q1'.mono (H' := H2) (F' := F2) (s2.trans s2')) hc1).dict A2'.sh
      cases ep
      have t2 := A2'.cont q2' hkd
      have f1 : flatD kd = true := by cases kd <;> first | rfl | cases hk
      have ex := key_rep (t2.flat f1) hk
      subst ex
      refine ⟨valV ws key, .inl ⟨ws, key, hp, rfl, rfl⟩, ?_⟩
      have ss := (s1.trans s1').trans (s2.trans s2')
      rcases rp.look (k := key) with ⟨z1, z2⟩ | ⟨d, v', z1, z2, z3⟩
      · rw [z2]
        rw [z1] at h2
        exact k _ _ S2' H2 e2 F2 ss A2' (.sh .non) h2
      · rw [z2]
        rw [z1] at h2
        exact k _ _ S2' H2 e2 F2 ss A2' (.sh z3) h2
    · exact h2.elim
  · exact h1.elim
theorem ve_get1 (hu : X.A.units + 64 < cLine) (ha : VEx X W a ua va) (hb : VEx X W b ub vb) (m : M1 X a "get" apos b cpos := by constructor <;> rfl) :
    VEx X W (.Call (.Attribute a "get" apos) [b] [] cpos) (tDGet1 ua ub) (vGet1 va vb) := ⟨pe_dget1 (by omega) ha.p hb.p m, okE_get1 ha.o hb.o⟩
/-- d.get(k, v) -/
def vGet2 (t u w : VTE) : VTE := fun x e Q => t x e fun r e1 => match cont e1 (fz r) with
  | some (.dic _) => u x e1 fun r2 e2 => w x e2 fun r3 e3 => (match cont e3 (fz r) with
    | some (.dic kvs) => oB (cont e3 (fz r2)) fun kd => oB (keyD kd) fun key => (match fz r3 with
      | .sh z => Q (.sh ((dget kvs key).getD z)) e3
      | _ => False)
    | _ => False)
  | _ => False
theorem okE_get2 (ha : OkE K W ua va) (hb : OkE K W ub vb) (hc : OkE K W uc vc) : OkE K W (tDGet2 ua ub uc) (vGet2 va vb vc) := by
  intro G S σ H e F x Q R xo A hq k
  refine ha G S σ H e F x _ _ xo A hq fun r v S1 H1 e1 F1 s1 A1 q1 h1 => ?_
  split at h1
  · rename_i kvs0 hc0
    obtain ⟨S1', s1', A1', q1'⟩ := A1.opd q1 (cont_fz hc0)
    obtain ⟨p, ws0, rfl, hp0, rp0⟩ := (A1'.cont q1' hc0).dict A1'.sh
    refine ⟨p, rfl, .inl ⟨_, hp0⟩, ?_⟩
    refine hb G S1' σ H1 e1 F1 x _ _ xo A1' h1 fun r2 v2 S2 H2 e2 F2 s2 A2 q2 h2 => ?_
    by_cases c2 : ∃ o, fz r2 = .own o
    · obtain ⟨o2, c2⟩ := c2
      refine hc G S2 σ H2 e2 F2 x _ _ xo A2 h2 fun r3 v3 S3 H3 e3 F3 s3 A3 q3 h3 => ?_
      exfalso
      split at h3
      · obtain ⟨kd, hkd, _⟩ := oB_some h3
        exact cont_fz hkd o2 c2
      · exact h3
    obtain ⟨S2', s2', A2', q2'⟩ := A2.opd q2 fun o z => c2 ⟨o, z⟩
    refine hc G S2' σ H2 e2 F2 x _ _ xo A2' h2 fun r3 v3 S3 H3 e3 F3 s3 A3 q3 h3 => ?_
    split at h3
    · rename_i kvs hc1
      obtain ⟨kd, hkd, h3⟩ := oB_some h3
      obtain ⟨key, hk, h3⟩ := oB_some h3
      have hn : ∀ o, fz r3 ≠ .own o := fun o z => by
        rw [z] at h3
        exact h3.elim
      obtain ⟨S4, s4, A4, q4⟩ := A3.opd q3 hn
      split at h3
      · rename_i z hz
        rw [hz] at q4
        cases q4 with
        | sh q4 _ =>
          have sa := (s2.trans s2').trans (s3.trans s4)
          obtain ⟨p', ws, ep, hp, rp⟩ := (A4.cont (q1'.mono (H' := H3) (F' := F3) sa) hc1).dict A4.sh
          cases ep
          have t2 := A4.cont (q2'.mono (H' := H3) (F' := F3) (s3.trans s4)) hkd
          have f1 : flatD kd = true := by cases kd <;> first | rfl | cases hk
          have ex := key_rep (t2.flat f1) hk
          subst ex
          refine ⟨valV ws key, .inl ⟨ws, key, hp, rfl, rfl⟩, ?_⟩
          have ss := (s1.trans s1').trans sa
          rcases rp.look (k := key) with ⟨z1, z2⟩ | ⟨d, v', z1, z2, z3⟩
          · rw [z2]
            rw [z1] at h3
            exact k _ _ S4 H3 e3 F3 ss A4 (.sh q4) h3
          · rw [z2]
            rw [z1] at h3
            exact k _ _ S4 H3 e3 F3 ss A4 (.sh z3) h3
      · exact h3.elim
    · exact h3.elim
  · exact h1.elim
theorem ve_get2 (hu : X.A.units + 64 < cLine) (ha : VEx X W a ua va) (hb : VEx X W b ub vb) (hc : VEx X W c uc vc) (m : M2 X a "get" apos b c cpos := by constructor <;> rfl) :
    VEx X W (.Call (.Attribute a "get" apos) [b, c] [] cpos) (tDGet2 ua ub uc) (vGet2 va vb vc) := ⟨pe_dget2 (by omega) ha.p hb.p hc.p m, okE_get2 ha.o hb.o hc.o⟩
/-- d.clear() -/
def vDClear (t : VTE) : VTE := fun x e Q => t x e fun r e1 => match r with
  | .bor i => (match ownO e1 i with
    | some (.dic _) => Q (.sh .non) (setO e1 i (.dic []))
    | _ => False)
  | _ => False
theorem okE_dclear (h : OkE K W ua va) : OkE K W (tBM0 K "dict" rDClear ua) (vDClear va) := by
  intro G S σ H e F x Q R xo A hq k
  refine h G S σ H e F x _ _ xo A hq fun r v S1 H1 e1 F1 s1 A1 q1 h1 => ?_
  cases r with
  | sh d => exact h1.elim
  | own d => exact h1.elim
  | fld _ _ _ => exact h1.elim
  | bor i =>
    cases q1 with
    | bor hσ =>
      cases ho : ownO e1 i with
      | none => simp only [ho] at h1
      | some o1 =>
        simp only [ho] at h1
        cases o1 with
        | dic kvs =>
          obtain ⟨p, hp, ow⟩ := A1.owned ho
          rw [hσ] at hp; cases hp
          obtain ⟨ws, _, hw, rk⟩ := ow.dictInv
          refine ⟨.inr (.inr (.inl ⟨rfl, .inl ⟨_, hw⟩⟩)), _, ws, rfl, rfl, hw, ?_⟩
          exact k _ _ S1 _ _ F1 s1 (A1.setDict (ys := []) ho hσ .nil) (.sh .non) h1
        | _ => exact h1.elim
theorem ve_dclear (h : VEx X W a ua va) (hbase : attributeBase a "clear" X.env (eval a X.env) = eval a X.env := by rfl) (hline : (apos.endLine == cpos.line) = true := by rfl) :
    VEx X W (.Call (.Attribute a "clear" apos) [] [] cpos) (tBM0 X.K "dict" rDClear ua) (vDClear va) := ⟨pe_dclear h.p hbase hline, okE_dclear h.o⟩
end
/-! ### list(..), of a dict too -/
def oListU : VOA := fun ds P => match ds with
  | [.lst xs] => P (.own (.lst xs))
  | [.tup xs] => P (.own (.lst xs))
  | [.dic kvs] => P (.own (.lst (kvs.map fun kv => kD kv.1)))
  | _ => False
def rListU (K : PySem.W.Frag) : List V → Hp → VK → Prop := fun xs H Q => (∃ p ys, xs = [.ref p] ∧ (SqL K H p ys ∨ SqT K H p ys) ∧ ∀ l, H l = none → Q (.ref l) (upd H l (.lst ys))) ∨
  ∃ (a : Addr) (kvs : List (Key × V)), xs = [.ref a] ∧ Rd H a (.dK kvs) ∧ ∀ p, H p = none → Q (.ref p) (upd H p (.lst (kvs.map fun kv => kV kv.1)))
theorem callR_listU {X : Cx} (hc : X.calm = true) : CallR X (.type "list") (rListU X.K) := CallR.or call_list_of (call_listD hc)
theorem Repk.keys {S : Hp} : ∀ {ds : List (Key × D)} {vs : List (Key × V)}, Repk K S ds vs → Reps K S (ds.map fun kv => kD kv.1) (vs.map fun kv => kV kv.1)
  | _, _, .nil => .nil
  | _, _, .cons hk _ t => .cons (rep_kD hk) (Repk.keys t)
theorem callV_listU : CallV K (rListU K) oListU := by
  intro G S σ H e F xs ds P R A rs h k
  unfold oListU at h
  split at h
  · obtain ⟨v, rfl, r⟩ := rs.one
    obtain ⟨p, vs, rfl, hp, rp⟩ := r.list A.sh
    refine .inl ⟨p, vs, rfl, .inl (SqL.of hp), fun l hl => ?_⟩
    obtain ⟨A2, r2⟩ := A.newL hl rp
    exact k _ _ S _ (Same.refl S) A2 r2 h
  · obtain ⟨v, rfl, r⟩ := rs.one
    obtain ⟨p, vs, rfl, hp, rp⟩ := r.tup A.sh
    refine .inl ⟨p, vs, rfl, .inr hp, fun l hl => ?_⟩
    obtain ⟨A2, r2⟩ := A.newL hl rp
    exact k _ _ S _ (Same.refl S) A2 r2 h
  · obtain ⟨v, rfl, r⟩ := rs.one
    obtain ⟨p, vs, rfl, hp, rp⟩ := r.dict A.sh
    refine .inr ⟨p, vs, rfl, hp, fun l hl => ?_⟩
    obtain ⟨A2, r2⟩ := A.newL hl rp.keys
    exact k _ _ S _ (Same.refl S) A2 r2 h
  · exact h.elim

/-! ### {k: v for .. in ..} -/
def vDcL (g : VG) (c : VTT) (tk tv : VTE) (vs : List Nat) (ok : En → Prop) (Q : Re → En → Prop) : List D → List (Key × D) → En → Prop
  | [], acc, e => ok e ∧ Q (.own (.dic acc)) e
  | d :: ds, acc, e => ok e ∧ g d x0 e fun e1 => c x0 e1 fun b e2 =>
    if b = true then tk x0 e2 fun rk e3 => tv x0 e3 fun r e4 => oB (cont e4 (fz rk)) fun kd => oB (keyD kd) fun key => match fz r with
      | .sh y => offS e4 vs ∧ acc.length < sizeLine ∧ vDcL g c tk tv vs ok Q ds (dput acc key y) (wipeE e4 vs)
      | _ => False
    else offS e2 vs ∧ vDcL g c tk tv vs ok Q ds acc (wipeE e2 vs)
def vDc (ti : VI) (g : VG) (c : VTT) (tk tv : VTE) (vs : List Nat) : VTE := fun x e Q => ti x e fun ds ok e1 => offS e1 vs ∧ vDcL g c tk tv vs ok Q ds [] (wipeE e1 vs)
theorem wipe_wipe {σ : L2.St} {vs : List Nat} : wipe (wipe σ vs) vs = wipe σ vs := by
  have go : ∀ us : List Nat, (∀ u ∈ us, u ∈ vs) → wipe (wipe σ vs) us = wipe σ vs := by
    intro us
    induction us with
    | nil => intro _; rfl
    | cons u us ih =>
      intro hu
      show (wipe (wipe σ vs) us).set u none = wipe σ vs
      rw [ih fun z hz => hu z (List.mem_cons_of_mem _ hz)]
      have hum := hu u (by simp)
      have go2 : ∀ ws : List Nat, u ∈ ws → (wipe σ ws).set u none = wipe σ ws := by
        intro ws
        induction ws with
        | nil => intro h; simp at h
        | cons w ws ih2 =>
          intro h
          show ((wipe σ ws).set w none).set u none = (wipe σ ws).set w none
          by_cases c : u = w
          · rw [c, List.set_set]
          · rcases List.mem_cons.mp h with h | h
            · exact absurd h c
            · rw [List.set_comm _ _ (Ne.symm c), ih2 h]
      exact go2 vs hum
  exact go vs fun _ h => h
theorem okE_dc {W : WX} {ui : TI} {vi : VI} {ug : TG} {vg : VG} {ix : List Nat} {ut : TT} {vt : VTT} {uk ue : TE} {vk ve : VTE} {vs : List Nat} (hi : OkI K W ui vi) (hg : OkG K W0 ug vg ix) (ht : OkT K W0 ut vt) (hk : OkE K W0 uk vk) (he : OkE K W0 ue ve) (hix : ∀ i ∈ ix, i ∈ vs) :
    OkE K W (tDc ui ug ut uk ue vs) (vDc vi vg vt vk ve vs) := by
  intro G S σ H e F x Q R xo A hq k
  refine hi G S σ H e F x _ _ xo A hq fun J ds ok S1 H1 e1 F1 s1 A1 wk h1 => ?_
  obtain ⟨off1, h1⟩ := h1
  intro D hD
  obtain ⟨fD1, fD2, fD3⟩ := A1.free hD
  refine ⟨fun i m H' => m = ds.length - i ∧ i ≤ ds.length ∧ ∃ (S' : Hp) (e' : En) (F' : Nat → List Addr) (acc : List (Key × VL.D)) (ws : List (Key × V)), Repk K S' acc ws ∧ At K ⟨upd G.B D (.dK ws), S1, G.z⟩ S' (wipe σ vs) H' e' F' ∧ (∀ v ∈ vs, ∀ s, e'[v]? = some s → s = .un) ∧ vDcL vg vt vk ve vs ok Q (ds.drop i) acc e',
    ⟨ds.length, by simp, Nat.zero_le _, S1, _, F1, [], [], .nil, (A1.wiped off1).ward hD, wipeE_off, h1⟩, ?_⟩
  rintro i m H' ⟨rfl, hi', S', e', F', acc, ws, rws, A', hun, h'⟩
  obtain ⟨w1, w2, w3⟩ := A'.warded fD1
  by_cases hlt : i < ds.length
  · obtain ⟨d, hd⟩ : ∃ d, ds[i]? = some d := ⟨ds[i], by simp [hlt]⟩
    have hdr : ds.drop i = d :: ds.drop (i + 1) := by
      rw [List.drop_eq_getElem_cons hlt]
      rw [List.getElem?_eq_getElem hlt] at hd
      cases hd
      rfl
    rw [hdr] at h'
    obtain ⟨hok, h'⟩ := h'
    refine .inr ⟨wk.go ⟨upd G.B D (.dK ws), S1, G.z⟩ _ _ _ _ _ i rfl A'.s0 A' hok hlt, fun H2 => ∃ (S' : Hp) (e' : En) (F' : Nat → List Addr) (acc : List (Key × VL.D)) (ws : List (Key × V)), Repk K S' acc ws ∧ At K ⟨upd G.B D (.dK ws), S1, G.z⟩ S' (wipe σ vs) H2 e' F' ∧ (∀ v ∈ vs, ∀ s, e'[v]? = some s → s = .un) ∧ vDcL vg vt vk ve vs ok Q (ds.drop (i + 1)) acc e',
      fun H2 q => ⟨ds.length - (i + 1), by omega, rfl, hlt, q⟩, fun y H2 hy => ?_⟩
    obtain ⟨S2, d', s2, A2, hd', rd⟩ := wk.yld ⟨upd G.B D (.dK ws), S1, G.z⟩ _ _ _ _ _ i y H2 rfl A'.s0 A' hok hy hlt
    rw [hd] at hd'
    cases hd'
    refine hg _ S2 _ H2 e' F' d y x0 _ _ xok0 A2 rd h' fun S3 σ3 H3 e3 F3 s3 A3 hw3 q3 => ?_
    have hw : wipe σ3 vs = wipe σ vs := by
      rw [hw3 vs hix]
      exact wipe_wipe
    refine ⟨hw, ?_⟩
    refine ht _ S3 σ3 H3 e3 F3 x0 _ _ xok0 A3 q3 fun b S4 H4 e4 F4 s4 A4 q4 => ?_
    cases b with
    | false =>
      obtain ⟨off4, q4⟩ := q4
      refine ⟨S4, _, F4, acc, ws, ((rws.mono s2).mono s3).mono s4, ?_, wipeE_off, q4⟩
      rw [← hw]
      exact A4.wiped off4
    | true =>
      show uk σ3 H4 _
      refine hk _ S4 σ3 H4 e4 F4 x0 _ _ xok0 A4 q4 fun r v S5 H5 e5 F5 s5 A5 q5 h5 => ?_
      by_cases c2 : ∃ o, fz r = .own o
      · obtain ⟨o2, c2⟩ := c2
        refine he _ S5 σ3 H5 e5 F5 x0 _ _ xok0 A5 h5 fun r2 v2 S6 H6 e6 F6 s6 A6 q6 h6 => ?_
        obtain ⟨kd, hkd, _⟩ := oB_some h6
        exact absurd c2 (cont_fz hkd o2)
      obtain ⟨S5', s5', A5', q5'⟩ := A5.opd q5 fun o z => c2 ⟨o, z⟩
      refine he _ S5' σ3 H5 e5 F5 x0 _ _ xok0 A5' h5 fun r2 v2 S6 H6 e6 F6 s6 A6 q6 h6 => ?_
      obtain ⟨kd, hkd, h6⟩ := oB_some h6
      obtain ⟨key, hkk, h6⟩ := oB_some h6
      have hn : ∀ o, fz r2 ≠ .own o := fun o z => by
        rw [z] at h6
        exact h6.elim
      obtain ⟨S7, s7, A7, q7⟩ := A6.opd q6 hn
      split at h6
      · rename_i yd z
        rw [z] at q7
        obtain ⟨off5, hlen, h6⟩ := h6
        cases q7 with
        | sh q7 _ =>
          have r7 := (((((rws.mono s2).mono s3).mono s4).mono s5).mono (s5'.trans s6)).mono s7
          have t2 := A7.cont (q5'.mono (H' := H6) (F' := F6) (s6.trans s7)) hkd
          have f1 : flatD kd = true := by cases kd <;> first | rfl | cases hkk
          have ex := key_rep (t2.flat f1) hkk
          have kok := key_ok (t2.flat f1) hkk
          refine ⟨ws, key, ex, (A7.warded fD1).1, by rw [← r7.length]; exact hlen, S7, _, F6, _, _, r7.put kok q7, ?_, wipeE_off, h6⟩
          rw [← hw]
          exact (A7.wardSet fD1).wiped off5
      · exact h6.elim
  · have ei : i = ds.length := by omega
    subst ei
    rw [List.drop_length] at h'
    refine .inl ⟨wk.stop ⟨upd G.B D (.dK ws), S1, G.z⟩ _ _ _ _ _ _ rfl A'.s0 A' h'.1 (Nat.le_refl _), ?_⟩
    have A7 := (A'.unward fD2 fD1 A1.s0 A1.nw).unwiped hun rfl
    exact k _ _ S' H' e' F' (s1.trans A'.s0) A7 (.own (.dic w1 rws) fun a ha => by
      simp at ha
      subst ha
      exact ⟨w2, fD2, w3⟩) h'.2
section
variable {X : Cx} {W : WX} {pos : Pos} {tg iter kx vx : Expr} {ifs : List Expr} {scope : Scope} {ui : TI} {vi : VI} {ug : TG} {vg : VG} {ix : List Nat} {ut : TT} {vt : VTT} {ue uk : TE} {ve vk : VTE}
theorem ve_dc {own : List (Str × Nat)} (hN : X.N.Nodup) (hi : VIx X W tg iter ui vi) (hg : ∀ s H C cl fp, VGx (BlkX X scope s H C cl fp) W0 tg ug vg ix) (ht : ∀ s H C cl fp, VTs (BlkX X scope s H C cl fp) W0 ifs ut vt)
    (hk : ∀ s H C cl fp, VEx (BlkX X scope s H C cl fp) W0 kx uk vk) (he : ∀ s H C cl fp, VEx (BlkX X scope s H C cl fp) W0 vx ue ve)
    (ok : BlkOk X.N X.env.scope scope own := by exact blkOk_by (by decide +kernel)) (hix : ∀ i ∈ ix, i ∈ own.map (·.2) := by decide) (hc : X.calm = true := by rfl) (hs : ∀ x, foldedSetIterable iter X.env x = pure x := by intro _; rfl) :
    VEx X W (.DictComp kx vx [⟨tg, iter, ifs, 0⟩] scope pos) (tDc ui ug ut uk ue (own.map (·.2))) (vDc vi vg vt vk ve (own.map (·.2))) :=
  ⟨pe_dc hc hN hi.p ok (fun s H C cl fp => (hg s H C cl fp).p) (fun s H C cl fp => (ht s H C cl fp).p) (fun s H C cl fp => (hk s H C cl fp).p) (fun s H C cl fp => (he s H C cl fp).p) hs,
    okE_dc hi.o (hg X.s_0 X.H_0 0 [] []).o (ht X.s_0 X.H_0 0 [] []).o (hk X.s_0 X.H_0 0 [] []).o (he X.s_0 X.H_0 0 [] []).o hix⟩
end

/-! ### instances made, fields stored -/
section
variable {X : Cx} {CX : CXT} {k : Nat} {f C : Addr} {fd : FuncData} {ps : List Str} {sp : Sp} {E : L2.St → XK} {x m : Str} {p pos apos : Pos} {e o : Expr} {es : List Expr} {ta : TE} {t : TA}
theorem run_makeS {pins : List (Addr × Obj)} {σ : L2.St} {H : Hp} {s : Shared} {Q : VK} {us : List Value} {vs : List V} (M : Mk X.K C f) (F : FnOk X.prog X.w X.K X.mg X.base CX k f fd ps sp) (hr : Room (k + 1) X.A) (hb : Binds X.K fd ps [])
    (hx : PassesAt CX X σ (E σ)) (I : L2.Inv X pins σ H s) (r : Vals vs us)
    (h : ∀ x dx, H x = none → H dx = none → dx ≠ x → sp (.ref x :: vs) (upd (upd H dx (.own x)) x (.ins C dx [])) (fun v H2 => v = .non ∧ Q (.ref x) H2) (E σ)) :
    wpAny (model X.prog X.w) X.A (call (.ref C) us) (EP X pins σ Q) X.xe s := by
  have hq := h (s.heap.objs.size + 1) s.heap.objs.size (I.hok.fresh (Nat.le_succ _)) (I.hok.fresh (Nat.le_refl _)) (Nat.ne_of_lt (Nat.lt_succ_self _))
  have I2 := Inv.made (C := C) I
  have r2 : Vals (V.ref (s.heap.objs.size + 1) :: vs) (Value.ref (s.heap.objs.size + 1) :: us) := .cons rfl r
  have hl : (Value.ref (s.heap.objs.size + 1) :: us ++ []).length = ps.length := by
    have e := r2.length
    rw [F.len _ _ _ _ hq] at e
    rw [List.append_nil]
    exact e.symm
  have hbb := hb _ (Value.ref (s.heap.objs.size + 1) :: us) I2.kIn hl
  rw [List.append_nil] at hbb
  refine wpAny_call (make_map (f := f) I.kIn M.makes M.init (beq_iff_eq.mp M.fn) (codeAny_mono (F.run _ X.stack _ _ ⟨Value.ref (s.heap.objs.size + 1) :: us, []⟩ (Value.ref (s.heap.objs.size + 1) :: us) _ _ (E σ) (hr.make C us [])
    (I2.env0.make C us []) hbb r2 hq) fun r s' hq' => ?_))
  cases r with
  | error e => exact hx pins _ _ e s' I2 hq'
  | ok fl =>
    cases fl with
    | ret u =>
      obtain ⟨v, H', I3, rv, ev, q3⟩ := I2.after hq'
      subst ev
      exact ⟨rv, ⟨V.ref (s.heap.objs.size + 1), H', I3, rfl, q3⟩⟩
    | next => exact False.elim hq'
    | brk => exact False.elim hq'
    | cont => exact False.elim hq'
def tMakeS (C : Addr) (sp : Sp) (E : L2.St → XK) (t : TA) : TE := fun σ H Q => t σ H fun vs H1 => ∀ x dx, H1 x = none → H1 dx = none → dx ≠ x →
  sp (.ref x :: vs) (upd (upd H1 dx (.own x)) x (.ins C dx [])) (fun v H2 => v = .non ∧ Q (.ref x) H2) (E σ)
theorem pe_makeS (M : Mk X.K C f) (F : FnOk X.prog X.w X.K X.mg X.base CX k f fd ps sp) (hr : Room (k + 1) X.A) (hg : Gl X x) (hm : X.mg x = some (.ref C)) (hb : Binds X.K fd ps []) (hx : ∀ σ, PassesAt CX X σ (E σ))
    (ha : PA X (e :: es) t) (hdb : (x == ("__debug__" : Str)) = false := by decide) (he : starEach (e :: es) X.env = (false, eval e X.env) :: starEach es X.env := by rfl) (hpl : (backTo pos (starEach es X.env)).any (·.1) = false := by rfl) :
    PE X (.Call (.Name x p) (e :: es) [] pos) (tMakeS C sp E t) := by
  refine ⟨fun pins s σ H Q I h => ?_⟩
  refine wpAny_Call_Name_kw (ld_glob I hg hm ?_ hdb)
  refine PySem.W.callWith_K (h₀ := X.base) I.ok.mod.kin M.kp (thn (ha.run pos pins s σ H _ I h) fun us s1 ⟨vs, H1, I1, r, q⟩ => ⟨I1.kIn, ?_⟩) he hpl
  exact run_makeS M F hr hb (hx σ) I1 r q
theorem pe_make0S (M : Mk X.K C f) (F : FnOk X.prog X.w X.K X.mg X.base CX k f fd ps sp) (hr : Room (k + 1) X.A) (hg : Gl X x) (hm : X.mg x = some (.ref C)) (hb : Binds X.K fd ps []) (hx : ∀ σ, PassesAt CX X σ (E σ))
    (hdb : (x == ("__debug__" : Str)) = false := by decide) : PE X (.Call (.Name x p) [] [] pos) (tMakeS C sp E tNil) := by
  refine ⟨fun pins s σ H Q I h => ?_⟩
  refine wpAny_Call_Name_kw (ld_glob I hg hm ?_ hdb)
  exact PySem.W.callWith_K0 I.kIn M.kp (run_makeS (us := []) M F hr hb (hx σ) I .nil h)
end
/-- C(..): the __init__ c fills the new instance -/
def vMake (C : Addr) (c : VSp) (t : VTA) : VTE := fun x e Q => t x e fun rs e1 => oB (argsS e1 rs) fun as => (bors rs).Nodup ∧
  c (.par (.ins C []) :: as) (fun r as' => r = .sh .non ∧ match as' with
    | .par o :: as' => okBack rs as' ∧ Q (.own o) (backA e1 rs as')
    | _ => False) (fun xc as' => match as' with
    | .par _ :: as' => okBack rs as' ∧ x xc (backA e1 rs as')
    | _ => False)
section
variable {G : Gd} {S S' : Hp} {σ : L2.St} {H H' : Hp} {e : En} {F : Nat → List Addr} {rs : List Re} {vs : List V} {as as' : List Sl}
/-- one more slot, behind the others -/
theorem At.ext (A : At K G S σ H e F) {o : O} {p : Addr} {f : List Addr} (ow : OwnAt K S H o p f) (hf : ∀ a ∈ f, S a = none ∧ G.B a = none ∧ ∀ i, a ∉ F i) :
    At K G S (σ ++ [some (.ref p)]) H (e ++ [.own o]) (fun j => if j = e.length then f else F j) := by
  have len := A.len
  refine ⟨A.sh, A.bh, A.s0, A.nw, by simp [A.len], fun j s hj => ?_, fun j hj => ?_, fun j a ha => ?_, fun j l a ha hb => ?_, fun j o' hj => ?_⟩
  · show SlAt K S H (σ ++ [some (.ref p)])[j]? s (if j = e.length then f else F j)
    by_cases c : j < e.length
    · rw [List.getElem?_append_left c] at hj
      rw [if_neg (by omega), List.getElem?_append_left (by omega)]
      exact A.sl j s hj
    · have hl := (List.getElem?_eq_some_iff.mp hj).1
      simp at hl
      have ej : j = e.length := by omega
      subst ej
      rw [List.getElem?_append_right (Nat.le_refl _)] at hj
      simp at hj
      subst hj
      rw [if_pos rfl, len, List.getElem?_append_right (Nat.le_refl _)]
      exact ⟨p, by simp, ow⟩
  · show (if j = e.length then f else F j) = []
    simp at hj
    rw [if_neg (by omega)]
    exact A.fr j (by omega)
  · have ha : a ∈ (if j = e.length then f else F j) := ha
    split at ha
    · exact ⟨(hf a ha).1, (hf a ha).2.1⟩
    · exact A.fS j a ha
  · have ha : a ∈ (if j = e.length then f else F j) := ha
    have hb : a ∈ (if l = e.length then f else F l) := hb
    split at ha
    · split at hb
      · omega
      · exact absurd hb ((hf a ha).2.2 l)
    · split at hb
      · exact absurd ha ((hf a hb).2.2 j)
      · exact A.dj j l a ha hb
  · by_cases c : j < e.length
    · rw [List.getElem?_append_left c] at hj
      rw [List.getElem?_append_left (by omega)]
      exact A.pr j o' hj
    · have hl := (List.getElem?_eq_some_iff.mp hj).1
      simp at hl
      have ej : j = e.length := by omega
      subst ej
      rw [List.getElem?_append_right (Nat.le_refl _)] at hj
      simp at hj
theorem At.cut {v : Option V} {o : O} (A : At K G S (σ ++ [v]) H (e ++ [.own o]) F) (hl : e.length = σ.length) : ∃ p F', v = some (.ref p) ∧ At K G S σ H e F' ∧ ReAt K G S H σ F' (.own o) (.ref p) := by
  have hn : (e ++ [Sl.own o])[e.length]? = some (.own o) := by rw [List.getElem?_append_right (Nat.le_refl _)]; simp
  obtain ⟨p, hp, ow⟩ := A.sl e.length _ hn
  rw [hl, List.getElem?_append_right (Nat.le_refl _)] at hp
  simp at hp
  have up : ∀ (j : Nat) (s : Sl), e[j]? = some s → (e ++ [Sl.own o])[j]? = some s ∧ (σ ++ [v])[j]? = σ[j]? := fun j s h => by
    have hj := (List.getElem?_eq_some_iff.mp h).1
    exact ⟨by rw [List.getElem?_append_left hj]; exact h, by rw [List.getElem?_append_left (by omega)]⟩
  refine ⟨p, fun j => if j < e.length then F j else [], hp, ⟨A.sh, A.bh, A.s0, A.nw, hl, fun j s hj => ?_, fun j hj => ?_, fun j a ha => ?_, fun j l a ha hb => ?_, fun j o' hj => ?_⟩, .own (hl ▸ ow) fun a ha => ?_⟩
  · obtain ⟨h1, h2⟩ := up j s hj
    have sl := A.sl j s h1
    rw [h2] at sl
    show SlAt K S H σ[j]? s (if j < e.length then F j else [])
    rw [if_pos (List.getElem?_eq_some_iff.mp hj).1]
    exact sl
  · show (if j < e.length then F j else []) = []
    rw [if_neg (by omega)]
  · have ha : a ∈ (if j < e.length then F j else []) := ha
    split at ha
    · exact A.fS j a ha
    · simp at ha
  · have ha : a ∈ (if j < e.length then F j else []) := ha
    have hb : a ∈ (if l < e.length then F l else []) := hb
    split at ha
    · split at hb
      · exact A.dj j l a ha hb
      · simp at hb
    · simp at ha
  · obtain ⟨h1, h2⟩ := up j _ hj
    rw [← h2]
    exact A.pr j o' h1
  · have ha : a ∈ F e.length := by rw [hl]; exact ha
    refine ⟨(A.fS _ a ha).1, (A.fS _ a ha).2, fun j hj => ?_⟩
    have hj : a ∈ (if j < e.length then F j else []) := hj
    split at hj
    · have := A.dj _ _ a ha hj
      omega
    · simp at hj
theorem ReAts.ext {G' : Gd} {F' : Nat → List Addr} {v0 : Option V} : ∀ {rs : List Re} {vs : List V}, ReAts K G S H σ F rs vs → ReAts K G' S H' (σ ++ [v0]) F' rs vs
  | _, _, .nil => .nil
  | _, _, .sh h t => .sh h (ReAts.ext t)
  | _, _, .bor h t => .bor (by rw [List.getElem?_append_left (List.getElem?_eq_some_iff.mp h).1]; exact h) (ReAts.ext t)
  | _, _, .fld t => .fld (ReAts.ext t)
theorem argS_ext {r : Re} {a s : Sl} (h : argS e r = some a) : argS (e ++ [s]) r = some a := by
  cases r with
  | sh d => exact h
  | own d => cases h
  | fld _ _ _ => cases h
  | bor i =>
    obtain ⟨o, rfl, ho⟩ := argS_bor h
    have hl : i < e.length := by rcases ho with ho | ho <;> exact (List.getElem?_eq_some_iff.mp ho).1
    show (match (e ++ [s])[i]? with
      | some (.own o) => some (Sl.par o)
      | some (.par o) => some (Sl.par o)
      | _ => none) = _
    rw [List.getElem?_append_left hl]
    rcases ho with ho | ho <;> rw [ho]
theorem argsS_ext {s : Sl} : ∀ {rs : List Re} {as : List Sl}, argsS e rs = some as → argsS (e ++ [s]) rs = some as
  | [], as, h => h
  | r :: rs, as, h => by
    unfold argsS at h ⊢
    cases h1 : argS e r with
    | none => rw [h1] at h; cases h
    | some a =>
      cases h2 : argsS e rs with
      | none => rw [h1, h2] at h; cases h
      | some as' =>
        rw [h1, h2] at h
        rw [argS_ext h1, argsS_ext h2]
        exact h
theorem bors_lt (ha : argsS e rs = some as) : ∀ i ∈ bors rs, i < e.length := fun i hi => by
  obtain ⟨j, hj⟩ := bors_mem hi
  obtain ⟨a, _, h5⟩ := (argsS_get ha).2 j _ hj
  obtain ⟨o, _, ho⟩ := argS_bor h5
  rcases ho with ho | ho <;> exact (List.getElem?_eq_some_iff.mp ho).1
theorem setO_ext {i : Nat} {o : O} {s : Sl} (h : i < e.length) : setO (e ++ [s]) i o = setO e i o ++ [s] := by
  unfold setO
  rw [List.getElem?_append_left h]
  cases q : e[i]? with
  | none => rfl
  | some t => cases t with
    | un => rfl
    | sh d => rfl
    | own o1 => exact List.set_append_left _ _ h
    | par o1 => exact List.set_append_left _ _ h
theorem backA_ext {s : Sl} : ∀ {rs : List Re} {as : List Sl}, (∀ i ∈ bors rs, i < e.length) → backA (e ++ [s]) rs as = backA e rs as ++ [s]
  | [], _, _ => by simp [backA]
  | .bor i :: rs, .par o :: as, h => by
    rw [backA, backA, backA_ext fun j hj => h j (by simp [bors, hj]), setO_ext (by rw [backA_length]; exact h i (by simp [bors]))]
  | .bor i :: rs, .un :: as, h => by rw [backA, backA, backA_ext fun j hj => h j (by simp [bors, hj])] <;> simp
  | .bor i :: rs, .sh d :: as, h => by rw [backA, backA, backA_ext fun j hj => h j (by simp [bors, hj])] <;> simp
  | .bor i :: rs, .own o :: as, h => by rw [backA, backA, backA_ext fun j hj => h j (by simp [bors, hj])] <;> simp
  | .sh d :: rs, a :: as, h => by rw [backA, backA, backA_ext fun j hj => h j (by simpa [bors] using hj)] <;> simp
  | .own o :: rs, a :: as, h => by rw [backA, backA, backA_ext fun j hj => h j (by simpa [bors] using hj)] <;> simp
  | .fld _ _ _ :: rs, a :: as, h => by rw [backA, backA, backA_ext fun j hj => h j (by simpa [bors] using hj)] <;> simp
  | .bor i :: rs, [], _ => by simp [backA]
  | .sh i :: rs, [], _ => by simp [backA]
  | .own i :: rs, [], _ => by simp [backA]
  | .fld _ _ _ :: rs, [], _ => by simp [backA]
end
theorem okE_make {W : WX} {n : Nat} {C : Addr} {c : VSp} {ut : TA} {vt : VTA} (h : OkA K W ut vt) (hn : ∀ as P PX, c as P PX → as.length = n) : OkE K W (tMakeS C (spV K n c) (WE W) ut) (vMake C c vt) := by
  intro G S σ H e F x Q R xo A hq k
  refine h G S σ H e F x _ _ xo A hq fun rs vs S1 H1 e1 F1 s1 A1 q1 h1 => ?_
  obtain ⟨as, ha, nd, h1⟩ := oB_some h1
  intro p dx hp hdx hne
  have hp2 : upd H1 dx (.own p) p = none := by rw [upd_ne (Ne.symm hne)]; exact hp
  have A2 := (A1.laid (o := .own p) hdx).laid (o := .ins C dx []) hp2
  have ow : OwnAt K S1 (upd (upd H1 dx (.own p)) p (.ins C dx [])) (.ins C []) p [p, dx] := .ins upd_same (by rw [upd_ne hne]; exact upd_same) .nil
  have hf : ∀ a ∈ [p, dx], S1 a = none ∧ G.B a = none ∧ ∀ i, a ∉ F1 i := fun a ha => by
    simp at ha
    rcases ha with rfl | rfl
    · exact A1.free hp
    · exact A1.free hdx
  have A3 := A2.ext ow hf
  have len := A1.len
  have q3 : ReAts K G S1 (upd (upd H1 dx (.own p)) p (.ins C dx [])) (σ ++ [some (.ref p)]) (fun j => if j = e1.length then [p, dx] else F1 j) (.bor e1.length :: rs) (.ref p :: vs) :=
    .bor (by rw [len, List.getElem?_append_right (Nat.le_refl _)]; simp) q1.ext
  have ha3 : argsS (e1 ++ [.own (.ins C [])]) (.bor e1.length :: rs) = some (.par (.ins C []) :: as) := by
    unfold argsS
    rw [argsS_ext ha]
    show (match (match (e1 ++ [Sl.own (.ins C [])])[e1.length]? with
      | some (.own o) => some (Sl.par o)
      | some (.par o) => some (Sl.par o)
      | _ => none), some as with
      | some a, some as => some (a :: as)
      | _, _ => none) = _
    rw [List.getElem?_append_right (Nat.le_refl _)]
    simp
  have nin : e1.length ∉ bors rs := fun z => Nat.lt_irrefl _ (bors_lt ha _ z)
  have nd3 : (bors (.bor e1.length :: rs)).Nodup := List.nodup_cons.mpr ⟨nin, nd⟩
  have l1 := (argsS_get ha).1
  have l2 := q1.get.1
  have done : ∀ {S' H' : Hp} {o : O} {as' : List Sl} {F' : Nat → List Addr}, At K ⟨BA (upd (upd H1 dx (.own p)) p (.ins C dx [])) (fun j => if j = e1.length then [p, dx] else F1 j) (.bor e1.length :: rs), S1, fun j => ((V.ref p :: vs).map some)[j]?⟩ S' ((V.ref p :: vs).map some) H' (.par o :: as') F' → okBack rs as' →
      ∃ F2, At K G S' σ H' (backA e1 rs as') F2 ∧ ReAt K G S' H' σ F2 (.own o) (.ref p) := fun {S' H' o as' F'} A' ok => by
    obtain ⟨F2, A4, _⟩ := A3.from q3 ha3 nd3 A' (show okBack (.bor e1.length :: rs) (.par o :: as') from ok)
    have eb : backA (e1 ++ [Sl.own (.ins C [])]) (.bor e1.length :: rs) (.par o :: as') = backA e1 rs as' ++ [.own o] := by
      rw [backA, backA_ext (bors_lt ha)]
      unfold setO
      rw [List.getElem?_append_right (by rw [backA_length]; exact Nat.le_refl _), backA_length]
      simp only [Nat.sub_self, List.getElem?_cons_zero]
      rw [List.set_append_right _ _ (by rw [backA_length]; exact Nat.le_refl _), backA_length]
      simp
    rw [eb] at A4
    obtain ⟨p', F3, ep, A5, r5⟩ := A4.cut (by rw [backA_length]; exact len)
    cases Option.some.inj ep
    exact ⟨F3, A5, r5⟩
  refine ⟨by have := hn _ _ _ h1; simp at this ⊢; omega, _, _, S1, _, _, _, _, A3.into q3 ha3 nd3, h1, fun r v S' H' as' F' A' rr nb hP => ?_, fun cls pay d S' H' as' F' A' pp hP => ?_⟩
  · obtain ⟨rfl, hP⟩ := hP
    have ev : v = .non := by cases rr with | sh h => cases h; rfl
    refine ⟨ev, ?_⟩
    split at hP
    · rename_i o as''
      obtain ⟨F2, A5, r5⟩ := done A' hP.1
      exact k _ _ S' H' _ F2 (s1.trans A'.s0) A5 r5 hP.2
    · exact hP.elim
  · split at hP
    · rename_i o as''
      obtain ⟨F2, A5, r5⟩ := done A' hP.1
      exact xo cls pay d S' σ H' _ F2 A5 pp hP.2
    · exact hP.elim
section
variable {X : Cx} {W : WX} {pos p pos' : Pos} {a b o : Expr} {es : List Expr} {x f : Str} {k : Nat} {g C : Addr} {fd : FuncData} {ps : List Str} {c : VSp} {ua ub : TE} {va vb : VTE} {ut : TA} {vt : VTA}
/-- what the making of an instance needs -/
structure MakV (X : Cx) (k : Nat) (x : Str) (C f : Addr) (fd : FuncData) (ps : List Str) (c : VSp) : Prop where
  mak : Mk X.K C f
  fn : FnOk X.prog X.w X.K X.mg X.base (L2.CX X.prog X.w) k f fd ps (spV X.K ps.length c)
  mg : X.mg x = some (.ref C)
  bd : Binds X.K fd ps []
  len : ∀ as P PX, c as P PX → as.length = ps.length
theorem ve_make (F : MakV X k x C g fd ps c) (hr : Room (k + 1) X.A) (hx : PxV X W) (h : VAx X W (a :: es) ut vt) (hg : Gl X x := by rfl) (hdb : (x == ("__debug__" : Str)) = false := by decide)
    (he : starEach (a :: es) X.env = (false, eval a X.env) :: starEach es X.env := by rfl) (hpl : (backTo pos (starEach es X.env)).any (·.1) = false := by rfl) :
    VEx X W (.Call (.Name x p) (a :: es) [] pos) (tMakeS C (spV X.K ps.length c) (WE W) ut) (vMake C c vt) :=
  ⟨pe_makeS F.mak F.fn hr hg F.mg F.bd hx h.p hdb he hpl, okE_make h.o F.len⟩
theorem ve_make0 (F : MakV X k x C g fd ps c) (hr : Room (k + 1) X.A) (hx : PxV X W) (hg : Gl X x := by rfl) (hdb : (x == ("__debug__" : Str)) = false := by decide) :
    VEx X W (.Call (.Name x p) [] [] pos) (tMakeS C (spV X.K ps.length c) (WE W) tNil) (vMake C c vNil) :=
  ⟨pe_make0S F.mak F.fn hr hg F.mg F.bd hx hdb, okE_make va_nil.o F.len⟩
/-- o.f = e, o a slot's own instance -/
def vFSet (Cs : List Addr) (t : VTE) (u : VTE) (f : Str) : VTS := fun E e => u E.ex e fun r2 e1 => match fz r2 with
  | .sh d => t E.ex e1 fun r e2 => (match r with
    | .bor i => (match ownO e2 i with
      | some (.ins C fs) => C ∈ Cs ∧ fs.length < 1000 ∧ E.nx (setO e2 i (.ins C (fput f d fs)))
      | _ => False)
    | _ => False)
  | _ => False
theorem vs_fset {Cs : List Addr} (hC : ∀ C ∈ Cs, ClsF X.K f C) (ha : VEx X W o ua va) (hv : VEx X W b ub vb) (hs : swapsWith b (some (.Attribute o f pos')) pos.line X.env = pure false := by rfl) :
    VSx X W (.Assign [.Attribute o f pos'] b pos) (sFld X.K ua ub f) (vFSet Cs va vb f) := by
  refine ⟨ps_fld ha.p hv.p hs, fun G S σ H e F E D A hq ho => ?_⟩
  refine hv.o G S σ H e F E.ex _ _ ho.2.2.2.2 A hq fun r v S1 H1 e1 F1 s1 A1 q1 h1 => ?_
  have hn : ∀ o, fz r ≠ .own o := fun o z => by
    rw [z] at h1
    exact h1.elim
  obtain ⟨S2, s2, A2, q2⟩ := A1.opd q1 hn
  split at h1
  · rename_i d z
    rw [z] at q2
    cases q2 with
    | sh q2 _ =>
      refine ha.o G S2 σ H1 e1 F1 E.ex _ _ ho.2.2.2.2 A2 h1 fun r3 v3 S3 H3 e3 F3 s3 A3 q3 h3 => ?_
      cases r3 with
      | sh d => exact h3.elim
      | own d => exact h3.elim
      | fld _ _ _ => exact h3.elim
      | bor i =>
        cases q3 with
        | bor hσ =>
          cases hw : ownO e3 i with
          | none => simp only [hw] at h3
          | some o1 =>
            simp only [hw] at h3
            cases o1 with
            | ins C fs =>
              obtain ⟨hm, hlen, h3⟩ := h3
              obtain ⟨p, hp, ow⟩ := A3.owned hw
              rw [hσ] at hp; cases hp
              obtain ⟨dx, gs, ef, hH, hd, rf⟩ := ow.insInv
              refine ⟨p, C, dx, gs, rfl, hH, (hC C hm).c, (hC C hm).n, by rw [← rf.length]; exact hlen, ?_⟩
              exact ho.1 _ _ _ _ _ (A3.setIns hw hσ hH (rf.put (q2.mono s3))) h3
            | _ => exact h3.elim
  · exact h1.elim
end
end VL

end

section
set_option Elab.async false
set_option linter.all false
set_option maxRecDepth 100000
set_option maxHeartbeats 4000000
namespace VL
open PySem PySem.Spec PyProof.Rows L2
variable {K : PySem.W.Frag}

/-! ### defs by names -/
section
variable {P : Program} {w : World} {mg : Str → Option Value} {base : Heap}
/-- the def that the module's name x stands for does c; k: how deep -/
structure DefG (P : Program) (w : World) (K : PySem.W.Frag) (mg : Str → Option Value) (base : Heap) (k : Nat) (x : Str) (n : Nat) (c : VSp) : Prop where
  fn : ∃ (f : Addr) (fd : FuncData) (ps : List Str), ps.length = n ∧ FnOk P w K mg base (L2.CX P w) k f fd ps (spV K n c) ∧ Binds K fd ps [] ∧ PySem.W.keepIn K (.ref f) = true ∧ mg x = some (.ref f)
  len : ∀ as P PX, c as P PX → as.length = n
/-- the class that x stands for, its __init__ does c -/
structure MakG (P : Program) (w : World) (K : PySem.W.Frag) (mg : Str → Option Value) (base : Heap) (k : Nat) (x : Str) (C : Addr) (n : Nat) (c : VSp) : Prop where
  fn : ∃ (f : Addr) (fd : FuncData) (ps : List Str), ps.length = n ∧ FnOk P w K mg base (L2.CX P w) k f fd ps (spV K n c) ∧ Binds K fd ps [] ∧ Mk K C f ∧ mg x = some (.ref C)
  len : ∀ as P PX, c as P PX → as.length = n
theorem defG {N ps : List Str} {k : Nat} {c : VSp} {t : VTS} {x y qual : Str} {params : Arguments} {body : List Stmt} {scope : Scope} {f : Addr} {fd : FuncData} (F : FunD K y qual params body scope [] [] f fd) (S : FnScope N ps scope) (hm : mg x = some (.ref f))
    (hb : ∀ (kV doc pm : Value) (an : Option Addr) (cdv ct : Value) (us : List Value), us.length = ps.length → bindArgs (PySem.W.fnOf y qual params body scope .none kV doc pm an cdv ct) ⟨us, []⟩ = pure (ps.zip us))
    (len : ∀ as P PX, c as P PX → as.length = ps.length)
    (hbody : ∀ (cdv : Value) (A : Around) (outer : List Env) (s : Shared) (H : Hp) (E : XK), Room k (A.deeper (envOfC qual scope s.heap.objs.size f cdv)) → ∃ u, VSs (CxV P w K mg base N qual scope f cdv A outer s H E) (WEx E) body u t)
    (hlaw : ∀ as P PX, as.length = ps.length → c as P PX → t (endsV as P PX) (startE N.length as)) : DefG P w K mg base (k + 1) x ps.length c :=
  ⟨⟨f, fd, ps, rfl, fnV F S hbody hlaw, F.bindsN hb, F.kp, hm⟩, len⟩
theorem makG {N ps : List Str} {k : Nat} {c : VSp} {t : VTS} {x y qual : Str} {params : Arguments} {body : List Stmt} {scope : Scope} {f C : Addr} {fd : FuncData} (F : FunD K y qual params body scope [] [] f fd) (S : FnScope N ps scope) (hm : mg x = some (.ref C)) (hk : Mk K C f)
    (hb : ∀ (kV doc pm : Value) (an : Option Addr) (cdv ct : Value) (us : List Value), us.length = ps.length → bindArgs (PySem.W.fnOf y qual params body scope .none kV doc pm an cdv ct) ⟨us, []⟩ = pure (ps.zip us))
    (len : ∀ as P PX, c as P PX → as.length = ps.length)
    (hbody : ∀ (cdv : Value) (A : Around) (outer : List Env) (s : Shared) (H : Hp) (E : XK), Room k (A.deeper (envOfC qual scope s.heap.objs.size f cdv)) → ∃ u, VSs (CxV P w K mg base N qual scope f cdv A outer s H E) (WEx E) body u t)
    (hlaw : ∀ as P PX, as.length = ps.length → c as P PX → t (endsV as P PX) (startE N.length as)) : MakG P w K mg base (k + 1) x C ps.length c :=
  ⟨⟨f, fd, ps, rfl, fnV F S hbody hlaw, F.bindsN hb, hk, hm⟩, len⟩
end
section
variable {X : Cx} {W : WX} {pos p : Pos} {a : Expr} {es : List Expr} {x : Str} {k j n : Nat} {C : Addr} {c : VSp} {ut : TA} {vt : VTA}
theorem ve_callG (F : DefG X.prog X.w X.K X.mg X.base k x n c) (hr : Room j X.A) (hx : PxV X W) (h : VAx X W (a :: es) ut vt) (hkj : k ≤ j := by decide) (hg : Gl X x := by rfl) (hdb : (x == ("__debug__" : Str)) = false := by decide)
    (he : starEach (a :: es) X.env = (false, eval a X.env) :: starEach es X.env := by rfl) (hpl : (backTo pos (starEach es X.env)).any (·.1) = false := by rfl) :
    VEx X W (.Call (.Name x p) (a :: es) [] pos) (tCallS (spV X.K n c) (WE W) ut) (vCall c vt) := by
  obtain ⟨⟨f, fd, ps, hn, hf, hb, hkp, hm⟩, hl⟩ := F
  subst hn
  exact ve_call ⟨hf, hm, hkp, hb, hl⟩ (hr.mono hkj) hx h hg hdb he hpl
theorem ve_makeG (F : MakG X.prog X.w X.K X.mg X.base k x C n c) (hr : Room j X.A) (hx : PxV X W) (h : VAx X W (a :: es) ut vt) (hkj : k + 1 ≤ j := by decide) (hg : Gl X x := by rfl) (hdb : (x == ("__debug__" : Str)) = false := by decide)
    (he : starEach (a :: es) X.env = (false, eval a X.env) :: starEach es X.env := by rfl) (hpl : (backTo pos (starEach es X.env)).any (·.1) = false := by rfl) :
    VEx X W (.Call (.Name x p) (a :: es) [] pos) (tMakeS C (spV X.K n c) (WE W) ut) (vMake C c vt) := by
  obtain ⟨⟨f, fd, ps, hn, hf, hb, hmk, hm⟩, hl⟩ := F
  subst hn
  exact ve_make ⟨hmk, hf, hm, hb, hl⟩ (hr.mono hkj) hx h hg hdb he hpl
theorem ve_makeG0 (F : MakG X.prog X.w X.K X.mg X.base k x C n c) (hr : Room j X.A) (hx : PxV X W) (hkj : k + 1 ≤ j := by decide) (hg : Gl X x := by rfl) (hdb : (x == ("__debug__" : Str)) = false := by decide) :
    VEx X W (.Call (.Name x p) [] [] pos) (tMakeS C (spV X.K n c) (WE W) tNil) (vMake C c vNil) := by
  obtain ⟨⟨f, fd, ps, hn, hf, hb, hmk, hm⟩, hl⟩ := F
  subst hn
  exact ve_make0 ⟨hmk, hf, hm, hb, hl⟩ (hr.mono hkj) hx hg hdb
/-- an exception leaves a def -/
theorem pxD {P : Program} {w : World} {mg : Str → Option Value} {base : Heap} {N : List Str} {qual : Str} {scope : Scope} {f : Addr} {cdv : Value} {A : Around} {outer : List Env} {s : Shared} {H : Hp} {E : XK} :
    PxV (CxV P w K mg base N qual scope f cdv A outer s H E) (WEx E) := fun σ => passAt (takes_of rfl rfl rfl rfl) σ
theorem poD {P : Program} {w : World} {mg : Str → Option Value} {base : Heap} {N : List Str} {qual : Str} {scope : Scope} {f : Addr} {cdv : Value} {A : Around} {outer : List Env} {s : Shared} {H : Hp} {E : XK} :
    PassesOwn (model (CxV P w K mg base N qual scope f cdv A outer s H E).prog (CxV P w K mg base N qual scope f cdv A outer s H E).w) (CxV P w K mg base N qual scope f cdv A outer s H E).A (CxV P w K mg base N qual scope f cdv A outer s H E).env (CxV P w K mg base N qual scope f cdv A outer s H E).xe := passes_of rfl
end

/-! ### the head's facts -/
def clsIB (K : PySem.W.Frag) (x : Str) : Bool := (He.Fa.cls x).ok K && (He.eqO (PySem.W.findIn K (.ref (He.ga K x)) "__class__") (some (some (.builtin "object.__class__"))) &&
  (He.eqO (PySem.W.specialIn K (.builtin "object.__class__") "__get__") (some (some (.builtin "getset_descriptor.__get__"))) && (decide (PySem.W.takesIn K (.builtin "object.__class__") = some true) && decide (PySem.W.mroIn K (He.ga K x) (.type "object") = some true))))
theorem clsIB_ok {x : Str} (h : clsIB K x = true) : ClsI K (He.ga K x) := by
  unfold clsIB at h
  simp only [Bool.and_eq_true, decide_eq_true_eq] at h
  exact ⟨He.cls_ok h.1, He.eqO_ok h.2.1, He.eqO_ok h.2.2.1, h.2.2.2.1, h.2.2.2.2⟩
def kitIs (K : PySem.W.Frag) (t u : Value) (b : Bool) : Bool := decide (PySem.W.kitOne K t u = some b)
theorem kitIs_ok {t u : Value} {b : Bool} (h : kitIs K t u b = true) : PySem.W.kitOne K t u = some b := of_decide_eq_true h
structure HookArgs where
  n : Nat
  fa : List He.Fa
  fn : List He.DefD
  xt : PySem.W.Frag → Bool
abbrev AlX : Type := Bool × He.AlD
def obsX (a : HookArgs) (K : PySem.W.Frag) : AlX := (a.xt K, He.obsD a.fa a.fn K)
def valX (a : HookArgs) : AlX := (true, He.valD a.fn)
def SaysX (a : HookArgs) (K : PySem.W.Frag) : Prop := obsX a K = valX a
def obsXG (a : HookArgs) (g : Addr → Option Obj) : AlX := obsX a (He.frG g (He.asD g a.n))
def hookX (a : HookArgs) : PySem.W.Hook where
  α := AlX
  obs := fun s => obsXG a s.heap.get?
  val := fun _ => valX a
  says := fun _ h => ∃ K : PySem.W.Frag, K.In h ∧ SaysX a K
  of := fun _ _ e => ⟨_, He.frG_in, e⟩
  keeps := fun _ _ _ ⟨K, hK, c⟩ k => ⟨K, PySem.W.Frag.In.keeps hK k, c⟩
theorem obsXG_eq {a : HookArgs} {g : Addr → Option Obj} {s : Shared} (h : ∀ a, g a = s.heap.get? a) : obsXG a g = (hookX a).obs s := by
  have e : g = s.heap.get? := funext h
  rw [e] <;> rfl
theorem SaysX.d {a : HookArgs} (c : SaysX a K) : He.SaysD a.fa a.fn K := congrArg Prod.snd c
theorem SaysX.x {a : HookArgs} (c : SaysX a K) : a.xt K = true := congrArg Prod.fst c
end VL

end

section
set_option Elab.async false
set_option linter.all false
set_option maxRecDepth 100000
set_option maxHeartbeats 4000000
namespace L2
open PySem PySem.Spec PyProof.Rows
section
variable {X : Cx}
/-- name = {..} on one line, the name a local (as ps_setLc, over dc_core) -/
theorem ps_setDc {i : Nat} {y : Str} {py : Pos} {kx vx tg iter : Expr} {ifs : List Expr} {scope : Scope} {own : List (Str × Nat)} {pos spos : Pos} {wi : TI} {g : TG} {tt : TT} {tk tv : TE} (hc : X.calm = true) (hN : X.N.Nodup) (hy : X.N[i]? = some y) (hyl : X.env.scope.names.lookup y = some .local)
    (hsw : swapsWith (.DictComp kx vx [⟨tg, iter, ifs, 0⟩] scope pos) (some (.Name y py)) spos.line X.env = pure true) (hi : PI X tg iter wi) (ok : BlkOk X.N X.env.scope scope own)
    (hg : ∀ (s : Shared) (H : Hp) (C : Addr) (cl : List (Str × Addr)) (fp : List Addr), PG (X.blk s H scope (compEnvC scope cl C X.env) fp) tg g) (ht : ∀ (s : Shared) (H : Hp) (C : Addr) (cl : List (Str × Addr)) (fp : List Addr), PTs (X.blk s H scope (compEnvC scope cl C X.env) fp) ifs tt)
    (hk : ∀ (s : Shared) (H : Hp) (C : Addr) (cl : List (Str × Addr)) (fp : List Addr), PE (X.blk s H scope (compEnvC scope cl C X.env) fp) kx tk)
    (he : ∀ (s : Shared) (H : Hp) (C : Addr) (cl : List (Str × Addr)) (fp : List Addr), PE (X.blk s H scope (compEnvC scope cl C X.env) fp) vx tv) (hs : ∀ x, foldedSetIterable iter X.env x = pure x := by intro _; rfl) :
    PS X (.Assign [.Name y py] (.DictComp kx vx [⟨tg, iter, ifs, 0⟩] scope pos) spos) (tAsg (tDc wi g tt tk tv (own.map (·.2))) (gName i)) := by
  refine ⟨fun pins s σ H D I h => ?_⟩
  rw [exec_Assign_Name_used _ _ _ _ hsw]
  refine wpAny_bind (wpAny_standAt (wpAny_bind ?_))
  show wpAny _ X.A (do let _ ← comprehension (.DictComp kx vx [⟨tg, iter, ifs, 0⟩] scope pos) scope X.env (firstIterPos [⟨tg, iter, ifs, 0⟩] pos) newDict false (eval iter X.env) (some (assign (.Name y py) X.env))) _ _ s
  have h : tDc wi g tt tk tv (own.map (·.2)) σ H (fun x H1 => gName i x σ H1 D.nx) := h
  refine wpAny_bind (thn (dc_core (Qf := fun _ s' => SP X pins D .next s') hc hN I hi ok hg ht hk he hs h fun L C s' m H' I' q hn f => ?_) fun _ s' hq => wpAny_pure (wpAny_pure hq))
  show wpAny _ _ (assign (.Name y py) X.env (.ref L)) _ _ _
  refine wpAny_assign_Name (store_ok2 (v := V.ref L) I' hN hy (.inl hyl) rfl (fun s2 I2 ⟨a, sb, ha⟩ => ?_) (.inr hyl))
  obtain ⟨f0, f1, f2, f3, f4, f5⟩ := f
  have haC : C ≠ a := by
    rcases ha with z | z
    · rw [z]; exact f1
    · exact fun e => f4 y a z e.symm
  refine ⟨m, hn.sameBut sb haC, fun h3 sb3 => ?_⟩
  exact ⟨_, H', I2.turned (t' := s2.toks) (fun b o hb e => (sb3.2 b hb).trans e) f0 f1 f3 f4 f5, q⟩
end
end L2
namespace VL
open PySem PySem.Spec PyProof.Rows L2
variable {K : PySem.W.Frag}
section
variable {X : Cx} {W : WX} {pos : Pos} {tg iter kx vx : Expr} {ifs : List Expr} {scope : Scope} {ui : TI} {vi : VI} {ug : TG} {vg : VG} {ix : List Nat} {ut : TT} {vt : VTT} {ue uk : TE} {ve vk : VTE}
theorem vs_setDc (i : Nat) {own : List (Str × Nat)} {y : Str} {py spos : Pos} (hN : X.N.Nodup) (hi : VIx X W tg iter ui vi) (hg : ∀ s H C cl fp, VGx (BlkX X scope s H C cl fp) W0 tg ug vg ix) (ht : ∀ s H C cl fp, VTs (BlkX X scope s H C cl fp) W0 ifs ut vt)
    (hk : ∀ s H C cl fp, VEx (BlkX X scope s H C cl fp) W0 kx uk vk) (he : ∀ s H C cl fp, VEx (BlkX X scope s H C cl fp) W0 vx ue ve)
    (ok : BlkOk X.N X.env.scope scope own := by exact blkOk_by (by decide +kernel)) (hix : ∀ i ∈ ix, i ∈ own.map (·.2) := by decide) (hc : X.calm = true := by rfl) (hs : ∀ x, foldedSetIterable iter X.env x = pure x := by intro _; rfl)
    (hy : X.N[i]? = some y := by rfl) (hyl : X.env.scope.names.lookup y = some .local := by rfl) (hsw : swapsWith (.DictComp kx vx [⟨tg, iter, ifs, 0⟩] scope pos) (some (.Name y py)) spos.line X.env = pure true := by rfl) :
    VSx X W (.Assign [.Name y py] (.DictComp kx vx [⟨tg, iter, ifs, 0⟩] scope pos) spos) (tAsg (tDc ui ug ut uk ue (own.map (·.2))) (gName i)) (vAsg i (vDc vi vg vt vk ve (own.map (·.2)))) :=
  ⟨ps_setDc hc hN hy hyl hsw hi.p ok (fun s H C cl fp => (hg s H C cl fp).p) (fun s H C cl fp => (ht s H C cl fp).p) (fun s H C cl fp => (hk s H C cl fp).p) (fun s H C cl fp => (he s H C cl fp).p) hs,
    okS_asg i (okE_dc hi.o (hg X.s_0 X.H_0 0 [] []).o (ht X.s_0 X.H_0 0 [] []).o (hk X.s_0 X.H_0 0 [] []).o (he X.s_0 X.H_0 0 [] []).o hix)⟩
end
section
variable {X : Cx} {W : WX} {pos : Pos} {a : Expr} {ua : TE} {va : VTE}
/-- -e -/
def vNeg (t : VTE) : VTE := fun x e Q => t x e fun r e1 => oB (cont e1 (fz r)) fun d => match d with
  | .int i => Q (.sh (.int (-i))) e1
  | _ => False
theorem ve_neg (h : VEx X W a ua va) : VEx X W (.UnaryOp .USub a pos) (tUn (rU fun i => .int (-i)) ua) (vNeg va) := by
  refine ⟨pe_un un_neg h.p, fun G S σ H e F x Q R xo A hq k => ?_⟩
  refine h.o G S σ H e F x _ _ xo A hq fun r v S1 H1 e1 F1 s1 A1 q1 h1 => ?_
  obtain ⟨d, hd, h1⟩ := oB_some h1
  obtain ⟨S2, s2, A2, q2⟩ := A1.opd q1 (cont_fz hd)
  have t1 := A2.cont q2 hd
  cases d with
  | int i =>
    cases t1.int
    exact ⟨i, rfl, k _ _ S2 H1 e1 F1 (s1.trans s2) A2 (.sh (.int _)) h1⟩
  | _ => exact h1.elim
end
/-- the statements of a class's body -/
def clsBody : Stmt → List Stmt
  | .ClassDef _ _ _ b _ _ _ _ _ _ _ => b
  | _ => []
end VL
namespace VL
open PySem PySem.Spec PyProof.Rows L2
variable {K : PySem.W.Frag}
/-! ### any walk over a value: a list, a tuple, a text, a locked dict's keys -/
def iAnyU (K : PySem.W.Frag) (tl : TE) : TI := fun σ H R => tl σ H fun x H1 => ((∃ a, x = .ref a ∧ (∃ xs, SqL K H1 a xs) ∧ R (Itl K a) H1) ∨ (∃ a, x = .ref a ∧ (∃ xs, SqT K H1 a xs) ∧ R (Itt K a) H1) ∨ ∃ z, x = .str z ∧ R (Its z) H1) ∨
  ∃ d o kvs, x = .ref d ∧ H1 d = some (.frz o (.dK kvs)) ∧ R (Itk d o kvs) H1
section
variable {X : Cx} {W : WX} {tg a : Expr} {ua : TE} {va : VTE}
theorem pi_anyU (hl : PE X a ua) : PI X tg a (iAnyU X.K ua) := by
  refine ⟨fun pins s σ H R I h => ?_⟩
  refine thn (hl.run pins s σ H _ I h) fun v s1 ⟨x, H1, I1, r1, q1⟩ => ?_
  rcases q1 with (⟨b, e, ⟨xs, hq⟩, q⟩ | ⟨b, e, ⟨xs, hq⟩, q⟩ | ⟨z, e, q⟩) | ⟨d, o, kvs, e, hd, q⟩
  · subst e
    cases r1
    obtain ⟨its, rv, p, hz⟩ := I1.list hq
    refine wpAny_pyIter_list p.isList ?_
    refine ⟨s1.heap.objs.size, [s1.heap.objs.size], _, _, H1, rfl, I1.kept (t' := s1.toks) fun b o e => Heap.get?_push_of_some _ e, turn_list b _, ⟨_, Heap.get?_push_size _ rfl, rfl, rfl⟩, fun b hb => ?_, q⟩
    have e : b = s1.heap.objs.size := by simpa using hb
    subst e
    exact I1.fpOk (Nat.le_refl _) (I1.hok.fresh (Nat.le_refl _))
  · subst e
    cases r1
    obtain ⟨its, rv, p, hz⟩ := I1.tuple hq
    refine wpAny_pyIter_tuple (show s1.heap.IsTuple b its.toArray from p) ?_
    refine ⟨s1.heap.objs.size, [s1.heap.objs.size], _, _, H1, rfl, I1.kept (t' := s1.toks) fun b o e => Heap.get?_push_of_some _ e, turn_tuple b _, ⟨_, Heap.get?_push_size _ rfl, rfl, rfl⟩, fun b hb => ?_, q⟩
    have e : b = s1.heap.objs.size := by simpa using hb
    subst e
    exact I1.fpOk (Nat.le_refl _) (I1.hok.fresh (Nat.le_refl _))
  · subst e
    obtain ⟨t, rfl⟩ := r1
    cases ha : z.cps.all (· < 128)
    · exact wpAny_pyIter_wide ha (pi_one (tk := s1.toks) I1 _ (turn_str _ z t "str_iterator" (.inr rfl)) ⟨_, Heap.get?_push_size _ rfl, rfl, rfl⟩ q)
    · exact wpAny_pyIter_ascii ha (pi_one (tk := s1.toks) I1 _ (turn_str _ z t "str_ascii_iterator" (.inl rfl)) ⟨_, Heap.get?_push_size _ rfl, rfl, rfl⟩ q)
  · subst e
    obtain rfl : v = Value.ref d := r1
    obtain ⟨hs, hgd, hx, es, ep, vs, hdt, hsz, kv, hm⟩ := I1.frzK hd
    refine iter_keys hs hgd hx hdt (pi_one (tk := s1.toks) I1 _ (turn_keys _ hdt) ⟨_, Heap.get?_push_size _ rfl, rfl, ?_⟩ q)
    rw [hsz] <;> rfl
def okD (j : Nat) (o : Obj) (ws : List (Key × V)) (kvs : List (Key × D)) : En → Prop := fun e => e[j]? = some (.par (.fdic o ws kvs))
theorem At.parDict {G : Gd} {S : Hp} {σ : L2.St} {H : Hp} {e : En} {F : Nat → List Addr} (A : At K G S σ H e F) {j : Nat} {o : Obj} {ws : List (Key × V)} {kvs : List (Key × D)} {p : Addr} (h : okD j o ws kvs e) (hz : G.z j = some (some (.ref p))) : H p = some (.frz o (.dK ws)) ∧ Repk K S kvs ws := by
  obtain ⟨q, hq, ow⟩ := A.sl j _ h
  rw [A.pr j _ h, hz] at hq
  cases hq
  generalize F j = f at ow
  cases ow with
  | fdic h r => exact ⟨h, r⟩
theorem walk_parD {z : Nat → Option (Option V)} {S : Hp} {p : Addr} {j : Nat} {o : Obj} {ws : List (Key × V)} {kvs : List (Key × D)} (hz : z j = some (some (.ref p))) : WalkV K z (Itk p o ws) S (kvs.map fun kv => kD kv.1) (okD j o ws kvs) where
  go := fun G S' σ H e F i ez s1 A h hi => by
    obtain ⟨h1, r⟩ := A.parDict h (by rw [ez]; exact hz)
    exact ⟨h1, by rw [List.length_map] at hi; rw [← r.length]; exact hi⟩
  yld := fun G S' σ H e F i x H' ez s1 A h hy hi => by
    obtain ⟨h1, r⟩ := A.parDict h (by rw [ez]; exact hz)
    obtain ⟨rfl, k, v, hk, rfl⟩ := hy
    obtain ⟨d, hd, ko, rd⟩ := r.get hk
    exact ⟨S', kD k, Same.refl _, A, by rw [List.getElem?_map, hd]; rfl, rep_kD ko⟩
  stop := fun G S' σ H e F i ez s1 A h hi => by
    obtain ⟨h1, r⟩ := A.parDict h (by rw [ez]; exact hz)
    exact ⟨h1, by rw [List.length_map] at hi; rw [← r.length]; exact hi⟩
def viAny (t : VTE) : VI := fun x e Q => t x e fun r e1 => match fz r with
  | .sh (.lst ds) => Q ds okT e1
  | .sh (.tup ds) => Q ds okT e1
  | .sh (.str z) => Q (signsD z) okT e1
  | .sh (.scr ns) => Q (ns.map D.int) okT e1
  | .sh (.dic kvs) => Q (kvs.map fun kv => kD kv.1) okT e1
  | .bor i => (match e1[i]? with
    | some (.par (.lst ds)) => Q ds (okP i ds) e1
    | some (.par (.fdic o ws kvs)) => Q (kvs.map fun kv => kD kv.1) (okD i o ws kvs) e1
    | _ => False)
  | _ => False
theorem vi_any (h : VEx X W a ua va) : VIx X W tg a (iAnyU X.K ua) (viAny va) := by
  refine ⟨pi_anyU h.p, fun G S σ H e F x Q R xo A hq k => ?_⟩
  refine h.o G S σ H e F x _ _ xo A hq fun r v S1 H1 e1 F1 s1 A1 q1 h1 => ?_
  have hn : ∀ o, fz r ≠ .own o := fun o z => by
    rw [z] at h1
    exact h1.elim
  obtain ⟨S2, s2, A2, q2⟩ := A1.opd q1 hn
  split at h1
  · rename_i ds z
    rw [z] at q2
    cases q2 with
    | sh q2 _ => cases q2 with
      | lst hp rp => exact .inl (.inl ⟨_, rfl, ⟨_, SqL.of (A2.sh _ _ hp)⟩, k _ ds _ S2 H1 e1 F1 (s1.trans s2) A2 (walk_list (SqL.of hp) rp) h1⟩)
  · rename_i ds z
    rw [z] at q2
    cases q2 with
    | sh q2 _ => cases q2 with
      | tup hp rp => exact .inl (.inr (.inl ⟨_, rfl, ⟨_, sqT_mono A2.sh hp⟩, k _ ds _ S2 H1 e1 F1 (s1.trans s2) A2 (walk_tup hp rp) h1⟩))
  · rename_i z' z
    rw [z] at q2
    cases q2 with
    | sh q2 _ => cases q2 with
      | str _ hs => exact .inl (.inr (.inr ⟨_, rfl, k _ _ _ S2 H1 e1 F1 (s1.trans s2) A2 (walk_str hs) h1⟩))
  · rename_i ns z
    rw [z] at q2
    cases q2 with
    | sh q2 _ => cases q2 with
      | scr hp => exact .inl (.inl ⟨_, rfl, ⟨_, A2.sh.seq hp⟩, k _ _ _ S2 H1 e1 F1 (s1.trans s2) A2 (walk_list hp (reps_ints ns)) h1⟩)
  · rename_i kvs z
    rw [z] at q2
    cases q2 with
    | sh q2 _ => cases q2 with
      | dic hp rp => exact .inr ⟨_, _, _, rfl, A2.sh _ _ hp, k _ _ _ S2 H1 e1 F1 (s1.trans s2) A2 (walk_keys hp rp) h1⟩
  · rename_i i z
    rw [z] at q2
    split at h1
    · rename_i ds he
      cases q2 with
      | bor q2 _ =>
        obtain ⟨p, hp, ow⟩ := A2.sl i _ he
        rw [q2] at hp
        cases hp
        obtain ⟨vs, _, hv, r⟩ := ow.listInv
        exact .inl (.inl ⟨_, rfl, ⟨_, SqL.of hv⟩, k _ ds _ S2 H1 e1 F1 (s1.trans s2) A2 (walk_par (by rw [← A2.pr i _ he]; exact q2)) h1⟩)
    · rename_i o ws kvs he
      cases q2 with
      | bor q2 _ =>
        obtain ⟨p, hp, ow⟩ := A2.sl i _ he
        rw [q2] at hp
        cases hp
        have hz : G.z i = some (some (.ref p)) := by rw [← A2.pr i _ he]; exact q2
        obtain ⟨hH, r⟩ := A2.parDict he hz
        exact .inr ⟨_, _, _, rfl, hH, k _ _ _ S2 H1 e1 F1 (s1.trans s2) A2 (walk_parD hz) h1⟩
    · exact h1.elim
  · exact h1.elim
end
end VL

end

section
set_option Elab.async false
set_option linter.all false
set_option maxRecDepth 100000
set_option maxHeartbeats 4000000
namespace VL
open PySem PySem.Spec PyProof.Rows L2
variable {K : PySem.W.Frag}
/-- an exception behind a call, in some world -/
def CXW (P : Program) : CXT := fun outer H s E u s' => ∃ w, L2.CX P w outer H s E u s'
theorem fn_cx {P : Program} {w : World} {mg : Str → Option Value} {base : Heap} {CX CX' : CXT} {k : Nat} {f : Addr} {fd : FuncData} {ps : List Str} {sp : Sp} (F : FnOk P w K mg base CX k f fd ps sp) (h : ∀ o H s E u s', CX o H s E u s' → CX' o H s E u s') :
    FnOk P w K mg base CX' k f fd ps sp :=
  ⟨F.len, fun A outer s H args us vs Q E hr he hb hv hs => codeAny_mono (F.run A outer s H args us vs Q E hr he hb hv hs) fun r s' q => by
    cases r with
    | error e => exact h _ _ _ _ _ _ q
    | ok fl => cases fl <;> exact q⟩
theorem fn_cxw {P : Program} {w : World} {mg : Str → Option Value} {base : Heap} {k : Nat} {f : Addr} {fd : FuncData} {ps : List Str} {sp : Sp} (F : FnOk P w K mg base (L2.CX P w) k f fd ps sp) : FnOk P w K mg base (CXW P) k f fd ps sp := fn_cx F fun _ _ _ _ _ _ q => ⟨w, q⟩
theorem cxw_no {P : Program} (H : Hp) (s : Shared) (e : Value) (s' : Shared) (z : CXW P [] H s (fun _ _ _ => False) e s') : False := by
  obtain ⟨w, a, B, H', cls, d, _, _, _, _, _, _, _, hE⟩ := z
  exact hE
/-- a law over a list of ints holds -/
def lawC : VSp := fun as P _ => ∃ ns : List Int, as = [.sh (.scr ns)] ∧ ns.length ≤ 63 ∧ P (.sh (.bl true)) as
theorem law_sp {H : Hp} {a : Addr} {ns : List Int} (hl : ns.length ≤ 63) (h : SqL K H a (ns.map V.int)) : spV K 1 lawC [.ref a] H (fun v _ => v = .bl true) (fun _ _ _ => False) := by
  refine ⟨rfl, fun _ => none, fun _ => none, H, [.sh (.scr ns)], fun _ => [], fun r _ => r = .sh (.bl true), fun _ _ => False, ?_, ⟨ns, rfl, hl, rfl⟩, fun r v S' H' as' F' A' rr nb hp => ?_, fun cls pay d S' H' as' F' A' pp hp => hp⟩
  · refine ⟨Same.refl H, fun a u z => (by cases z), Same.refl H, fun a h1 h2 => rfl, rfl, fun i s hs => ?_, fun i _ => rfl, fun i a ha => by simp at ha, fun i j a ha => by simp at ha, fun i o ho => ?_⟩
    · cases i with
      | zero =>
        have e := Option.some.inj hs
        subst e
        exact ⟨rfl, _, rfl, .scr h⟩
      | succ i => simp at hs
    · cases i with
      | zero => simp at ho
      | succ i => simp at ho
  · subst hp
    cases rr with
    | sh h => cases h; rfl
end VL

end

section
set_option Elab.async false
set_option linter.all false
set_option maxRecDepth 100000
set_option maxHeartbeats 4000000
namespace VL
open PySem PySem.Spec PyProof.Rows L2
variable {K : PySem.W.Frag}

/-! ### the pot of a law: drawing -/
abbrev rInt1 : List V → Hp → VK → Prop := fun xs H Q => (∃ i, xs = [.int i] ∧ Q (.int i) H) ∨ ∃ k, xs = [.bl k] ∧ Q (.int (if k then 1 else 0)) H
abbrev tI (i : Int) : TE := tC (.int i)
abbrev tX (K : PySem.W.Frag) (a b : TE) : TE := tOp (rIxU K) a b
abbrev tPls (K : PySem.W.Frag) (a b : TE) : TE := tOp (rAddU K) a b
abbrev tTms (a b : TE) : TE := tOp rMulU a b
abbrev tMd (a b : TE) : TE := tOp (rI (fun _ j => 0 < j) fun i j => .int (i % j)) a b
abbrev tDv (a b : TE) : TE := tOp (rI CDivW fun i j => .int (i / j)) a b
abbrev tInt (a : TE) : TE := tCB rInt1 (tCons a tNil)
abbrev tLen (K : PySem.W.Frag) (a : TE) : TE := tCB (rLenU K) (tCons a tNil)
/-- number = pot[0][0]; pot[0][0] = number // many; if number < many: pot[0].pop(0); return int(number) % many -/
def U_great (K : PySem.W.Frag) : TS :=
  tSeq (tAsg (tX K (tX K (tVar 0) (tI 0)) (tI 0)) (gName 3))
  (tSeq (tAsg (tDv (tVar 3) (tVar 1)) (gSub (tX K (tVar 0) (tI 0)) (tI 0) rSetU))
  (tSeq (tIfS (tTest (tOp (rI0 fun i j => .bl (decide (i < j))) (tVar 3) (tVar 1))) (tDrop (tBM K "list" rPopAt (tX K (tVar 0) (tI 0)) (tCons (tI 0) tNil))) tNext)
  (tRet (tMd (tInt (tVar 3)) (tVar 1)))))
def U_small (K : PySem.W.Frag) : TS :=
  tSeq (tAsg (tPls K (tPls K (tTms (tX K (tX K (tVar 0) (tI 1)) (tMd (tInt (tVar 2)) (tLen K (tX K (tVar 0) (tI 1))))) (tI 7919)) (tTms (tI 104729) (tVar 2))) (tTms (tX K (tVar 0) (tI 3)) (tI 31))) (gName 4))
  (tSeq (tAsg (tMd (tInt (tPls K (tTms (tVar 4) (tI 48271)) (tI 11))) (tI 2147483647)) (gName 3))
  (tSeq (tAsg (tMd (tInt (tTms (tVar 3) (tPls K (tDv (tVar 3) (tI 1009)) (tI 69621)))) (tI 2147483629)) (gName 3))
  (tSeq (tAsg (tMd (tInt (tPls K (tTms (tVar 3) (tPls K (tDv (tVar 3) (tI 2003)) (tI 40692))) (tVar 2))) (tI 2147483399)) (gName 3))
  (tRet (tMd (tInt (tDv (tVar 3) (tI 64))) (tVar 1))))))
def U_draw (K : PySem.W.Frag) : TS :=
  tSeq (tAsg (tX K (tVar 0) (tI 2)) (gName 2))
  (tSeq (tAsg (tPls K (tVar 2) (tI 1)) (gSub (tVar 0) (tI 2) rSetU))
  (tSeq (tIfS (tTest (tOp (rI0 fun i j => .bl (decide (j < i))) (tLen K (tX K (tVar 0) (tI 0))) (tI 0))) (U_great K) tNext)
  (U_small K)))
theorem ixl {H : Hp} {p : Addr} {xs : List V} {i : Int} {v : V} {Q : VK} (h : H p = some (.lst xs)) (e : atI xs i = some v) (q : Q v H) : rIxU K (.ref p) (.int i) H Q := .inl (.inl ⟨p, xs, i, v, rfl, rfl, SqL.of h, e, q⟩)
theorem log_lt {x : Int} {n : Nat} (h0 : 0 ≤ x) (h : x < 2 ^ n) (hn : 1 ≤ n) : x.natAbs.log2 < n := by
  by_cases hx : x.natAbs = 0
  · rw [hx]; simp; omega
  · rw [Nat.log2_lt hx]
    have h1 : (x.natAbs : Int) = x := Int.natAbs_of_nonneg h0
    have h2 : ((x.natAbs : Nat) : Int) < ((2 ^ n : Nat) : Int) := by rw [h1]; push_cast; exact h
    exact_mod_cast h2
theorem mulW {x y : Int} (hx : 0 ≤ x) (hx2 : x < 2 ^ 100) (hy : 0 ≤ y) (hy2 : y < 2 ^ 100) : CMulW x y := by
  have h1 := log_lt hx hx2 (by decide)
  have h2 := log_lt hy hy2 (by decide)
  unfold CMulW
  omega
theorem draw_heap {p g s : Addr} {t : Nat} {m : Int} {H : Hp} {Q : VK} {nx : L2.St → Hp → Prop} (hP : PotAt H t p g s) (hm : 1 ≤ m) (hm2 : m.natAbs.log2 < 9000) (ht : t < 2 ^ 60)
    (k : ∀ (n : Int) (H' : Hp), 0 ≤ n → n < m → PotAt H' (t + 1) p g s → (∀ a, a ∉ [p, g, s] → H' a = H a) → Q (.int n) H') :
    U_draw K { nx := nx, rt := Q } [some (.ref p), some (.int m), none, none, none] H := by
  obtain ⟨⟨n1, n2, n3⟩, gs, ss, turn, sum, hp, hg, hs, gpos, spos, sne, slen, t0, t1, u0, u1⟩ := hP
  refine ⟨_, rfl, ixl hp rfl ?_⟩
  refine ⟨_, rfl, .inl ⟨turn, 1, rfl, rfl, _, rfl, .inl ⟨p, _, 2, 2, rfl, rfl, hp, rfl, ?_⟩⟩⟩
  generalize hH1 : upd H p (.lst ([V.ref g, V.ref s, V.int turn, V.int sum].set 2 ((fun i j => V.int (i + j)) turn 1))) = H1
  have hp1 : H1 p = some (.lst [.ref g, .ref s, .int (turn + 1), .int sum]) := by
    rw [← hH1]
    exact upd_same.trans rfl
  have hg1 : H1 g = some (.lst (gs.map V.int)) := by rw [← hH1, upd_ne (Ne.symm n1)]; exact hg
  have hs1 : H1 s = some (.lst (ss.map V.int)) := by rw [← hH1, upd_ne (Ne.symm n2)]; exact hs
  have ho1 : ∀ a, a ∉ [p, g, s] → H1 a = H a := fun a ha => by rw [← hH1, upd_ne (fun z => ha (by rw [z]; simp))]
  refine ⟨_, rfl, ixl hp1 rfl (.inl ⟨_, gs.length, rfl, .inl ⟨_, SqL.of hg1, by simp⟩, ?_⟩)⟩
  refine ⟨_, _, rfl, rfl, _, rfl, ?_⟩
  by_cases hgs : 0 < gs.length
  · have hd : decide ((0 : Int) < ((gs.length : Nat) : Int)) = true := decide_eq_true (by omega)
    show if decide ((0 : Int) < ((gs.length : Nat) : Int)) = true then _ else _
    rw [if_pos hd]
    obtain ⟨n, gs', rfl⟩ : ∃ n gs', gs = n :: gs' := by
      cases gs with
      | nil => simp at hgs
      | cons n gs' => exact ⟨n, gs', rfl⟩
    have npos : 0 ≤ n := gpos n (by simp)
    have at0 : ∀ x : Int, atI (V.int x :: gs'.map V.int) 0 = some (.int x) := fun x => by
      unfold atI ixN
      rw [if_pos (Int.le_refl 0), if_pos (by simp)]
      rfl
    have ix0 : ∀ x : Int, ixN (V.int x :: gs'.map V.int).length 0 = some 0 := fun x => by
      unfold ixN
      rw [if_pos (Int.le_refl 0), if_pos (by simp)]
      rfl
    refine ⟨_, rfl, ixl hp1 rfl (ixl hg1 (at0 n) ?_)⟩
    refine ⟨_, rfl, _, rfl, _, _, rfl, rfl, ⟨by omega, hm2⟩, _, rfl, ixl hp1 rfl (.inl ⟨g, _, 0, 0, rfl, rfl, hg1, ix0 n, ?_⟩)⟩
    have hset : (List.map V.int (n :: gs')).set 0 (.int (n / m)) = List.map V.int (n / m :: gs') := rfl
    rw [hset]
    generalize hH2 : upd H1 g (.lst (List.map V.int (n / m :: gs'))) = H2
    have hp2 : H2 p = some (.lst [.ref g, .ref s, .int (turn + 1), .int sum]) := by rw [← hH2, upd_ne n1]; exact hp1
    have hg2 : H2 g = some (.lst (List.map V.int (n / m :: gs'))) := by rw [← hH2]; exact upd_same
    have hs2 : H2 s = some (.lst (ss.map V.int)) := by rw [← hH2, upd_ne (Ne.symm n3)]; exact hs1
    have ho2 : ∀ a, a ∉ [p, g, s] → H2 a = H a := fun a ha => by rw [← hH2, upd_ne (fun z => ha (by rw [z]; simp))]; exact ho1 a ha
    have hq0 : 0 ≤ n / m := Int.ediv_nonneg npos (by omega)
    refine ⟨_, rfl, _, rfl, _, _, rfl, rfl, _, rfl, ?_⟩
    have fin : ∀ H3 : Hp, PotAt H3 (t + 1) p g s → (∀ a, a ∉ [p, g, s] → H3 a = H a) → tRet (tMd (tInt (tVar 3)) (tVar 1)) { nx := nx, rt := Q } [some (.ref p), some (.int m), some (.int turn), some (.int n), none] H3 := fun H3 h3 h4 => by
      refine ⟨_, rfl, .inl ⟨_, rfl, _, rfl, _, _, rfl, rfl, by omega, ?_⟩⟩
      exact k _ _ (Int.emod_nonneg _ (by omega)) (Int.emod_lt_of_pos _ (by omega)) h3 h4
    by_cases hlt : n < m
    · show if decide (n < m) = true then _ else _
      rw [if_pos (decide_eq_true hlt)]
      refine ⟨_, rfl, ixl hp2 rfl ⟨.inl ⟨rfl, _, SqL.of hg2⟩, ?_⟩⟩
      refine ⟨g, _, 0, 0, _, rfl, rfl, hg2, by decide, by decide, by unfold seqIndex?; simp, rfl, ?_⟩
      refine fin _ ⟨⟨n1, n2, n3⟩, gs', ss, turn + 1, sum, ?_, upd_same, ?_, fun x hx => gpos x (by simp [hx]), spos, sne, slen, by omega, by omega, u0, u1⟩ fun a ha => ?_
      · rw [upd_ne n1]; exact hp2
      · rw [upd_ne (Ne.symm n3)]; exact hs2
      · rw [upd_ne (fun z => ha (by rw [z]; simp))]; exact ho2 a ha
    · show if decide (n < m) = true then _ else _
      rw [if_neg (by simpa using hlt)]
      refine fin _ ⟨⟨n1, n2, n3⟩, n / m :: gs', ss, turn + 1, sum, hp2, hg2, hs2, fun x hx => ?_, spos, sne, slen, by omega, by omega, u0, u1⟩ ho2
      rcases List.mem_cons.mp hx with rfl | hx
      · exact hq0
      · exact gpos x (by simp [hx])
  · have hd : ¬ decide ((0 : Int) < ((gs.length : Nat) : Int)) = true := by
      intro z
      have z := of_decide_eq_true z
      omega
    show if decide ((0 : Int) < ((gs.length : Nat) : Int)) = true then _ else _
    rw [if_neg hd]
    have hl0 : 0 < ss.length := List.length_pos_iff.mpr sne
    have hl1 : (0 : Int) < (ss.length : Int) := Int.ofNat_lt.mpr hl0
    have r0 : 0 ≤ turn % (ss.length : Int) := Int.emod_nonneg _ (by omega)
    have r1 : turn % (ss.length : Int) < ss.length := Int.emod_lt_of_pos _ hl1
    have r2 : (turn % (ss.length : Int)).toNat < ss.length := by
      generalize turn % (ss.length : Int) = z at r0 r1
      omega
    obtain ⟨y, hy⟩ : ∃ y, ss[(turn % (ss.length : Int)).toNat]? = some y := ⟨ss[(turn % (ss.length : Int)).toNat]'r2, by rw [List.getElem?_eq_getElem]⟩
    have hyb := spos y (List.mem_of_getElem? hy)
    have hat : atI (ss.map V.int) (turn % ((ss.length : Nat) : Int)) = some (.int y) := by
      unfold atI ixN
      rw [if_pos r0, List.length_map, if_pos r1]
      show (ss.map V.int)[(turn % (ss.length : Int)).toNat]? = _
      rw [List.getElem?_map, hy]
      rfl
    have ht2 : turn < 2 ^ 60 := by
      have : ((t : Nat) : Int) < 2 ^ 60 := by exact_mod_cast ht
      omega
    have pw60 : (2 : Int) ^ 60 = 1152921504606846976 := by decide
    have pw100 : (2 : Int) ^ 100 = 1267650600228229401496703205376 := by decide
    have st5 : ∀ n sd : Int, 0 ≤ n → tRet (tMd (tInt (tDv (tVar 3) (tI 64))) (tVar 1)) { nx := nx, rt := Q } [some (.ref p), some (.int m), some (.int turn), some (.int n), some (.int sd)] H1 := fun n sd hn => by
      refine ⟨_, rfl, _, _, rfl, rfl, ⟨by decide, by decide⟩, .inl ⟨_, rfl, _, rfl, _, _, rfl, rfl, (show (0 : Int) < m by omega), ?_⟩⟩
      exact k _ _ (Int.emod_nonneg _ (by omega)) (Int.emod_lt_of_pos _ (by omega)) ⟨⟨n1, n2, n3⟩, gs, ss, turn + 1, sum, hp1, hg1, hs1, gpos, spos, sne, slen, by omega, by omega, u0, u1⟩ ho1
    have st4 : ∀ n sd : Int, 0 ≤ n → n < 2147483629 → tSeq (tAsg (tMd (tInt (tPls K (tTms (tVar 3) (tPls K (tDv (tVar 3) (tI 2003)) (tI 40692))) (tVar 2))) (tI 2147483399)) (gName 3)) (tRet (tMd (tInt (tDv (tVar 3) (tI 64))) (tVar 1))) { nx := nx, rt := Q }
        [some (.ref p), some (.int m), some (.int turn), some (.int n), some (.int sd)] H1 := fun n sd hn hn2 => by
      have e1 : 0 ≤ n / 2003 := Int.ediv_nonneg hn (by decide)
      have e2 : n / 2003 ≤ n := Int.ediv_le_self _ hn
      refine ⟨_, rfl, _, rfl, _, _, rfl, rfl, ⟨by decide, by decide⟩, .inl ⟨_, _, rfl, rfl, .inl ⟨_, _, rfl, rfl, mulW hn (by omega) (by omega) (by omega), _, rfl, .inl ⟨_, _, rfl, rfl, .inl ⟨_, rfl, _, _, rfl, rfl, (show (0 : Int) < 2147483399 by decide), ?_⟩⟩⟩⟩⟩
      exact st5 _ sd (Int.emod_nonneg _ (by decide))
    have st3 : ∀ n sd : Int, 0 ≤ n → n < 2147483647 → tSeq (tAsg (tMd (tInt (tTms (tVar 3) (tPls K (tDv (tVar 3) (tI 1009)) (tI 69621)))) (tI 2147483629)) (gName 3)) (tSeq (tAsg (tMd (tInt (tPls K (tTms (tVar 3) (tPls K (tDv (tVar 3) (tI 2003)) (tI 40692))) (tVar 2))) (tI 2147483399)) (gName 3)) (tRet (tMd (tInt (tDv (tVar 3) (tI 64))) (tVar 1)))) { nx := nx, rt := Q }
        [some (.ref p), some (.int m), some (.int turn), some (.int n), some (.int sd)] H1 := fun n sd hn hn2 => by
      have e1 : 0 ≤ n / 1009 := Int.ediv_nonneg hn (by decide)
      have e2 : n / 1009 ≤ n := Int.ediv_le_self _ hn
      refine ⟨_, rfl, _, rfl, _, _, rfl, rfl, ⟨by decide, by decide⟩, .inl ⟨_, _, rfl, rfl, .inl ⟨_, _, rfl, rfl, mulW hn (by omega) (by omega) (by omega), .inl ⟨_, rfl, _, _, rfl, rfl, (show (0 : Int) < 2147483629 by decide), ?_⟩⟩⟩⟩
      exact st4 _ sd (Int.emod_nonneg _ (by decide)) (Int.emod_lt_of_pos _ (by decide))
    have st2 : ∀ sd : Int, 0 ≤ sd → sd < 2 ^ 100 → tSeq (tAsg (tMd (tInt (tPls K (tTms (tVar 4) (tI 48271)) (tI 11))) (tI 2147483647)) (gName 3)) (tSeq (tAsg (tMd (tInt (tTms (tVar 3) (tPls K (tDv (tVar 3) (tI 1009)) (tI 69621)))) (tI 2147483629)) (gName 3)) (tSeq (tAsg (tMd (tInt (tPls K (tTms (tVar 3) (tPls K (tDv (tVar 3) (tI 2003)) (tI 40692))) (tVar 2))) (tI 2147483399)) (gName 3)) (tRet (tMd (tInt (tDv (tVar 3) (tI 64))) (tVar 1))))) { nx := nx, rt := Q }
        [some (.ref p), some (.int m), some (.int turn), none, some (.int sd)] H1 := fun sd h0 h1 => by
      refine ⟨_, rfl, .inl ⟨_, _, rfl, rfl, mulW h0 h1 (by omega) (by omega), .inl ⟨_, _, rfl, rfl, .inl ⟨_, rfl, _, _, rfl, rfl, (show (0 : Int) < 2147483647 by decide), ?_⟩⟩⟩⟩
      exact st3 _ sd (Int.emod_nonneg _ (by decide)) (Int.emod_lt_of_pos _ (by decide))
    refine ⟨_, rfl, ixl hp1 rfl ⟨_, rfl, .inl ⟨_, rfl, _, rfl, ixl hp1 rfl (.inl ⟨_, ss.length, rfl, .inl ⟨_, SqL.of hs1, by simp⟩, _, _, rfl, rfl, (show (0 : Int) < (ss.length : Int) by omega), ixl hs1 hat (.inl ⟨_, _, rfl, rfl, mulW (by omega) (by omega) (by omega) (by omega), ?_⟩)⟩)⟩⟩⟩
    refine ⟨_, rfl, .inl ⟨_, _, rfl, rfl, mulW (by omega) (by omega) (by omega) (by omega), .inl ⟨_, _, rfl, rfl, _, rfl, ixl hp1 rfl (.inl ⟨_, _, rfl, rfl, mulW (by omega) (by omega) (by omega) (by omega), .inl ⟨_, _, rfl, rfl, ?_⟩⟩)⟩⟩⟩
    exact st2 (y * 7919 + 104729 * turn + sum * 31) (by omega) (by omega)

/-- drawing: a number below m -/
def c__law_draw (_ : PySem.W.Frag) : VSp := fun as P _ => ∃ (t : Nat) (m : Int), as = [.par (.pot t), .sh (.int m)] ∧ 1 ≤ m ∧ m.natAbs.log2 < 9000 ∧ t < 2 ^ 60 ∧ ∀ n : Int, 0 ≤ n → n < m → P (.sh (.int n)) [.par (.pot (t + 1)), .sh (.int m)]
theorem len__law_draw (as : List Sl) (P : Re → List Sl → Prop) (PX : XC → List Sl → Prop) (h : c__law_draw K as P PX) : as.length = 2 := by
  obtain ⟨t, m, rfl, _⟩ := h
  rfl
theorem draw_sp {vs : List V} {H : Hp} {Q : VK} {E : XK} {nx : L2.St → Hp → Prop} (h : spV K 2 (c__law_draw K) vs H Q E) : U_draw K { nx := nx, rt := Q } (L2.start ["pot", "many", "turn", "number", "seed"] vs) H := by
  obtain ⟨hl, B, z, S, as, F, P, PX, A0, ⟨t, m, rfl, hm, hm2, ht, hc⟩, hQ, hE⟩ := h
  obtain ⟨p, hp, ow⟩ := A0.sl 0 _ rfl
  obtain ⟨_, v, hv, rv⟩ := A0.sl 1 _ rfl
  match vs, hl with
  | [v0, v1], _ =>
    have e0 : v0 = .ref p := Option.some.inj (Option.some.inj hp)
    have e1 : v1 = v := Option.some.inj (Option.some.inj hv)
    subst e0 e1
    cases rv
    generalize hF : F 0 = f at ow
    cases ow with
    | @pot p g s t hP =>
      refine draw_heap hP hm hm2 ht fun n H' h0 h1 hP' ho => ?_
      have A1 := A0.write (i := 0) (o := .pot t) (o' := .pot (t + 1)) (H' := H') rfl rfl (fun a ha => ho a (by rw [hF] at ha; exact ha)) (by rw [hF]; exact .pot hP')
      exact hQ (.sh (.int n)) _ S H' _ F A1 (.sh (.int n)) trivial (hc n h0 h1)
theorem hand__law_draw {P : Program} {w : World} {mg : Str → Option Value} {base : Heap} {st : Stmt} {f : Addr} {fd : FuncData} (F : FunD K "_law_draw" "_law_draw" (defArgs st) (defBody st) (defScope st) [] [] f fd) (S : FnScope ["pot", "many", "turn", "number", "seed"] ["pot", "many"] (defScope st)) (hm : mg "_law_draw" = some (.ref f))
    (hb : ∀ (kV doc pm : Value) (an : Option Addr) (cdv ct : Value) (us : List Value), us.length = 2 → bindArgs (PySem.W.fnOf "_law_draw" "_law_draw" (defArgs st) (defBody st) (defScope st) .none kV doc pm an cdv ct) ⟨us, []⟩ = pure (((["pot", "many"] : List Str)).zip us))
    (hbody : ∀ (cdv : Value) (A : Around) (outer : List Env) (s : Shared) (H : Hp) (E : XK), Room 1 (A.deeper (envOfC "_law_draw" (defScope st) s.heap.objs.size f cdv)) →
      PSs (CxV P w K mg base ["pot", "many", "turn", "number", "seed"] "_law_draw" (defScope st) f cdv A outer s H E) (defBody st) (U_draw K)) : DefG P w K mg base 2 "_law_draw" 2 (c__law_draw K) :=
  ⟨⟨f, fd, ["pot", "many"], rfl, F.ok S (fun vs H Q E h => h.1) fun cdv A outer s H vs Q E hr hsp => ⟨U_draw K, hbody cdv A outer s H E hr, draw_sp hsp⟩, F.bindsN hb, F.kp, hm⟩, len__law_draw⟩

/-! ### the pot of a law: made -/
/-- [greats, smalls, 0, e]: two own lists of ints and two ints -/
def potB (gs ss : List Int) (u : Int) : Prop := (∀ x ∈ gs, 0 ≤ x) ∧ (∀ x ∈ ss, 0 ≤ x ∧ x < 1000000007) ∧ ss ≠ [] ∧ ss.length ≤ 64 ∧ 0 ≤ u ∧ u < 999983
def vPot (i j : Nat) (t : VTE) : VTE := fun x e Q => match e[i]?, e[j]? with
  | some (.own _), some (.own _) => t x e fun r e1 => (match e1[i]?, e1[j]? with
    | some (.own (.lst gs)), some (.own (.lst ss)) => i ≠ j ∧ oB (intsD gs) fun gs => oB (intsD ss) fun ss => (match r with
      | .sh (.int u) => potB gs ss u ∧ Q (.own (.pot 0)) ((e1.set i .un).set j .un)
      | _ => False)
    | _, _ => False)
  | _, _ => False
def tPot (i j : Nat) (t : TE) : TE := tLst (tCons (tVar i) (tCons (tVar j) (tCons (tI 0) (tCons t tNil))))
theorem okE_pot {W : WX} {i j : Nat} {u : TE} {t : VTE} (h : OkE K W u t) : OkE K W (tPot i j u) (vPot i j t) := by
  intro G S σ H e F x Q R xo A hq k
  unfold vPot at hq
  split at hq
  · rename_i o1 o2 hi hj
    obtain ⟨g, hg, _⟩ := A.sl i _ hi
    obtain ⟨s, hs, _⟩ := A.sl j _ hj
    refine ⟨_, hg, _, hs, ?_⟩
    refine h G S σ H e F x _ _ xo A hq fun r v S1 H1 e1 F1 s1 A1 q1 h1 => ?_
    split at h1
    · rename_i gs ss hi1 hj1
      obtain ⟨hij, h1⟩ := h1
      obtain ⟨ngs, hgs, h1⟩ := oB_some h1
      obtain ⟨nss, hss, h1⟩ := oB_some h1
      split at h1
      · rename_i n _ _
        obtain ⟨⟨b1, b2, b3, b4, b5, b6⟩, h1⟩ := h1
        cases q1 with
        | sh rv =>
          cases rv
          refine ⟨by show 4 ≤ sizeLine; decide, fun p hp => ?_⟩
          obtain ⟨g', hg', ow1⟩ := A1.sl i _ hi1
          obtain ⟨s', hs', ow2⟩ := A1.sl j _ hj1
          rw [hg] at hg'; cases hg'
          rw [hs] at hs'; cases hs'
          obtain ⟨ws1, f1, hw1, rw1⟩ := ow1.listInv
          obtain ⟨ws2, f2, hw2, rw2⟩ := ow2.listInv
          have e1' := intsD_rep rw1 hgs
          have e2' := intsD_rep rw2 hss
          subst e1' e2'
          have npg : p ≠ g := fun z => by rw [z, hw1] at hp; cases hp
          have nps : p ≠ s := fun z => by rw [z, hw2] at hp; cases hp
          have ngs : g ≠ s := fun z => hij (A1.dj i j g (by rw [f1]; simp) (by rw [f2, z]; simp))
          have q2 : (e1.set i .un)[j]? = some (.own (.lst ss)) := by rw [List.getElem?_set_ne hij]; exact hj1
          have A2 := (A1.empty hi1).empty q2
          have A3 := A2.laid (o := .lst [.ref g, .ref s, .int 0, .int n]) hp
          obtain ⟨fp1, fp2, fp3⟩ := A2.free hp
          have hP : PotAt (upd H1 p (.lst [.ref g, .ref s, .int 0, .int n])) 0 p g s :=
            ⟨⟨npg, nps, ngs⟩, _, _, 0, n, upd_same, by rw [upd_ne (Ne.symm npg)]; exact hw1, by rw [upd_ne (Ne.symm nps)]; exact hw2, b1, b2, b3, b4, Int.le_refl 0, Int.le_refl 0, b5, b6⟩
          refine k _ _ S1 _ _ _ s1 A3 (.own (.pot hP) fun a ha => ?_) h1
          simp at ha
          have off : ∀ k : Nat, (k = i ∨ k = j) → (if k = j then [] else if k = i then [] else F1 k) = [] := fun k hk => by
            rcases hk with hk | hk
            · subst hk
              by_cases c : k = j
              · rw [if_pos c]
              · rw [if_neg c, if_pos rfl]
            · rw [if_pos hk]
          rcases ha with rfl | rfl | rfl
          · exact ⟨fp1, fp2, fp3⟩
          · refine ⟨(A1.fS i a (by rw [f1]; simp)).1, (A1.fS i a (by rw [f1]; simp)).2, fun k hk => ?_⟩
            have hk : a ∈ (if k = j then [] else if k = i then [] else F1 k) := hk
            by_cases c : k = i ∨ k = j
            · rw [off k c] at hk; simp at hk
            · rw [if_neg fun z => c (.inr z), if_neg fun z => c (.inl z)] at hk
              exact c (.inl (A1.dj k i a hk (by rw [f1]; simp)))
          · refine ⟨(A1.fS j a (by rw [f2]; simp)).1, (A1.fS j a (by rw [f2]; simp)).2, fun k hk => ?_⟩
            have hk : a ∈ (if k = j then [] else if k = i then [] else F1 k) := hk
            by_cases c : k = i ∨ k = j
            · rw [off k c] at hk; simp at hk
            · rw [if_neg fun z => c (.inr z), if_neg fun z => c (.inl z)] at hk
              exact c (.inr (A1.dj k j a hk (by rw [f2]; simp)))
      · exact h1.elim
    · exact h1.elim
  · exact hq.elim
section
variable {X : Cx} {W : WX} {pos p1 p2 p3 : Pos} {kk : Nat} {a : Expr} {ua : TE} {va : VTE}
theorem ve_pot (i j : Nat) {x y : Str} (h : VEx X W a ua va) (hx : X.N[i]? = some x := by rfl) (hy : X.N[j]? = some y := by rfl) (vx : Vis X.env.scope x := by exact Or.inl rfl) (vy : Vis X.env.scope y := by exact Or.inl rfl)
    (d1 : (x == ("__debug__" : Str)) = false := by decide) (d2 : (y == ("__debug__" : Str)) = false := by decide) (c1 : (x == ("__classdict__" : Str)) = false := by decide) (c2 : (y == ("__classdict__" : Str)) = false := by decide)
    (s1 : starEach [.Name x p1, .Name y p2, .Constant (.int 0) kk p3, a] X.env = (false, eval (.Name x p1) X.env) :: starEach [.Name y p2, .Constant (.int 0) kk p3, a] X.env := by rfl)
    (s2 : starEach [.Name y p2, .Constant (.int 0) kk p3, a] X.env = (false, eval (.Name y p2) X.env) :: starEach [.Constant (.int 0) kk p3, a] X.env := by rfl)
    (s3 : starEach [.Constant (.int 0) kk p3, a] X.env = (false, eval (.Constant (.int 0) kk p3) X.env) :: starEach [a] X.env := by rfl) (s4 : starEach [a] X.env = (false, eval a X.env) :: starEach [] X.env := by rfl) :
    VEx X W (.List [.Name x p1, .Name y p2, .Constant (.int 0) kk p3, a] pos) (tPot i j ua) (vPot i j va) :=
  ⟨pe_lst (pa_cons (pe_var hx vx d1 c1) (pa_cons (pe_var hy vy d2 c2) (pa_cons pe_int (pa_cons h.p pa_nil s4) s3) s2) s1), okE_pot h.o⟩
end
/-- the pot is made -/
def c__law_pot (_ : PySem.W.Frag) : VSp := fun as P _ => ∃ ns : List Int, as = [.sh (.scr ns)] ∧ ns.length ≤ 63 ∧ P (.own (.pot 0)) as
theorem len__law_pot (as : List Sl) (P : Re → List Sl → Prop) (PX : XC → List Sl → Prop) (h : c__law_pot K as P PX) : as.length = 1 := by
  obtain ⟨t, rfl, _⟩ := h
  rfl
/-! ### a target that is not read by values (the heap's reading alone is used) -/
def vgNo : VG := fun _ _ _ _ => False
theorem vg_subP {X : Cx} {W : WX} {pos : Pos} {a b : Expr} {ua ub : TE} {va vb : VTE} (hu : X.A.units + 64 < cLine) (ha : VEx X W a ua va) (hb : VEx X W b ub vb)
    (hs : ∀ v, assign (.Subscript a b pos) X.env v = (do
      let ov ← holding [v] (eval a X.env)
      let iv ← holding [v, ov] (eval b X.env)
      standAt pos
      holding [v, ov, iv] (setItem ov iv v)
      release [v, ov, iv] []) := by intro _; rfl) : VGx X W (.Subscript a b pos) (gSub ua ub rSetU) vgNo [] :=
  ⟨pg_sub ha.p hb.p (set_any (by omega)) hs, fun G S σ H e F d v x Q R xo A r h k => h.elim⟩
/-- the heap's reading is told last (in a block it must not lean on the block's own names) -/
theorem keepE {X : Cx} {W : WX} {e : Expr} {u u' : TE} {t : VTE} (h : VEx X W e u t) (hu : u = u' := by first | exact rfl | (dsimp only [BlkX, Cx.blk, CxV, cxOf]; done) | (dsimp only [BlkX, Cx.blk, CxV, cxOf]; exact rfl)) : VEx X W e u' t := hu ▸ h
theorem keepT {X : Cx} {W : WX} {e : List Expr} {u u' : TT} {t : VTT} (h : VTs X W e u t) (hu : u = u' := by first | exact rfl | (dsimp only [BlkX, Cx.blk, CxV, cxOf]; done) | (dsimp only [BlkX, Cx.blk, CxV, cxOf]; exact rfl)) : VTs X W e u' t := hu ▸ h
theorem keepG {X : Cx} {W : WX} {e : Expr} {u u' : TG} {t : VG} {ix : List Nat} (h : VGx X W e u t ix) (hu : u = u' := by first | exact rfl | (dsimp only [BlkX, Cx.blk, CxV, cxOf]; done) | (dsimp only [BlkX, Cx.blk, CxV, cxOf]; exact rfl)) : VGx X W e u' t ix := hu ▸ h
end VL

end

section
set_option Elab.async false
set_option linter.all false
set_option maxRecDepth 100000
set_option maxHeartbeats 4000000
namespace VL
open PySem PySem.Spec PyProof.Rows L2
variable {K : PySem.W.Frag}
/-! ### for simp -/
theorem fz_sh (d : D) : fz (.sh d) = .sh d := rfl
theorem fz_bor (i : Nat) : fz (.bor i) = .bor i := rfl
theorem fz_lst (xs : List D) : fz (.own (.lst xs)) = .sh (.lst xs) := rfl
theorem fz_ins (C : Addr) (xs : List (Str × D)) : fz (.own (.ins C xs)) = .sh (.ins C xs) := rfl
theorem fz_dic (xs : List (Key × D)) : fz (.own (.dic xs)) = .own (.dic xs) := rfl
theorem fz_pot (t : Nat) : fz (.own (.pot t)) = .own (.pot t) := rfl
theorem fz_obj (C : Addr) (fs : List (Str × Fd)) : fz (.own (.obj C fs)) = .own (.obj C fs) := rfl
theorem fz_fld (q : Addr) (i : Nat) (f : Str) : fz (.fld q i f) = .fld q i f := rfl
theorem cont_fld (e : En) (q : Addr) (i : Nat) (f : Str) : cont e (.fld q i f) = seeF q (fldS e[i]? f) := rfl
theorem fldS_own (C : Addr) (fs : List (Str × Fd)) (f : Str) : fldS (some (.own (.obj C fs))) f = fs.lookup f := rfl
theorem fldS_par (C : Addr) (fs : List (Str × Fd)) (f : Str) : fldS (some (.par (.obj C fs))) f = fs.lookup f := rfl
theorem seeF_l (q : Addr) (xs : List D) : seeF q (some (.l q xs)) = some (.lst xs) := if_pos rfl
theorem seeF_kd (q : Addr) (kvs : List (Key × D)) : seeF q (some (.kd q kvs)) = some (.dic kvs) := if_pos rfl
theorem cont_sh (e : En) (d : D) : cont e (.sh d) = some d := rfl
theorem cont_own (e : En) (o : O) : cont e (.own o) = none := rfl
def seeO : Option Sl → Option D
  | some (.own o) => o.see
  | some (.par o) => o.see
  | some (.sh d) => some d
  | _ => none
theorem cont_bor (e : En) (i : Nat) : cont e (.bor i) = seeO e[i]? := rfl
theorem seeO_own (o : O) : seeO (some (.own o)) = o.see := rfl
theorem seeO_par (o : O) : seeO (some (.par o)) = o.see := rfl
theorem seeO_sh (d : D) : seeO (some (.sh d)) = some d := rfl
theorem see_lst (xs : List D) : (O.lst xs).see = some (.lst xs) := rfl
theorem see_dic (xs : List (Key × D)) : (O.dic xs).see = some (.dic xs) := rfl
theorem see_fdic (o : Obj) (ws : List (Key × V)) (xs : List (Key × D)) : (O.fdic o ws xs).see = some (.dic xs) := rfl
theorem see_ins (C : Addr) (xs : List (Str × D)) : (O.ins C xs).see = some (.ins C xs) := rfl
theorem toD_lst (xs : List D) : (O.lst xs).toD = some (.lst xs) := rfl
theorem toD_dic (xs : List (Key × D)) : (O.dic xs).toD = none := rfl
theorem toD_ins (C : Addr) (xs : List (Str × D)) : (O.ins C xs).toD = some (.ins C xs) := rfl
theorem conts_nil (e : En) : conts e [] = some [] := rfl
theorem conts_sh (e : En) (d : D) (rs : List Re) : conts e (.sh d :: rs) = (conts e rs).map (d :: ·) := by
  show (match cont e (.sh d), conts e rs with
    | some d, some ds => some (d :: ds)
    | _, _ => none) = _
  rw [cont_sh]
  cases conts e rs <;> rfl
theorem conts_bor (e : En) (i : Nat) (rs : List Re) : conts e (.bor i :: rs) = (seeO e[i]?).bind fun d => (conts e rs).map (d :: ·) := by
  show (match cont e (.bor i), conts e rs with
    | some d, some ds => some (d :: ds)
    | _, _ => none) = _
  rw [cont_bor]
  cases seeO e[i]? <;> cases conts e rs <;> rfl
theorem conts_fld (e : En) (q : Addr) (i : Nat) (f : Str) (rs : List Re) : conts e (.fld q i f :: rs) = (seeF q (fldS e[i]? f)).bind fun d => (conts e rs).map (d :: ·) := by
  show (match cont e (.fld q i f), conts e rs with
    | some d, some ds => some (d :: ds)
    | _, _ => none) = _
  rw [cont_fld]
  cases seeF q (fldS e[i]? f) <;> cases conts e rs <;> rfl
theorem shs_nil : shs [] = some [] := rfl
theorem shs_sh (d : D) (rs : List Re) : shs (.sh d :: rs) = (shs rs).map (d :: ·) := rfl
theorem argsS_nil (e : En) : argsS e [] = some [] := rfl
theorem argsS_sh (e : En) (d : D) (rs : List Re) : argsS e (.sh d :: rs) = (argsS e rs).map (.sh d :: ·) := by
  show (match argS e (.sh d), argsS e rs with
    | some a, some as => some (a :: as)
    | _, _ => none) = _
  cases argsS e rs <;> rfl
def parO : Option Sl → Option Sl
  | some (.own o) => some (.par o)
  | some (.par o) => some (.par o)
  | _ => none
theorem argsS_bor (e : En) (i : Nat) (rs : List Re) : argsS e (.bor i :: rs) = (parO e[i]?).bind fun a => (argsS e rs).map (a :: ·) := by
  show (match argS e (.bor i), argsS e rs with
    | some a, some as => some (a :: as)
    | _, _ => none) = _
  have : argS e (.bor i) = parO e[i]? := rfl
  rw [this]
  cases parO e[i]? <;> cases argsS e rs <;> rfl
theorem parO_own (o : O) : parO (some (.own o)) = some (.par o) := rfl
theorem parO_par (o : O) : parO (some (.par o)) = some (.par o) := rfl
theorem bors_nil : bors [] = [] := rfl
theorem bors_sh (d : D) (rs : List Re) : bors (.sh d :: rs) = bors rs := rfl
theorem bors_bor (i : Nat) (rs : List Re) : bors (.bor i :: rs) = i :: bors rs := rfl
theorem okBack_nil (as : List Sl) : okBack [] as = True := rfl
theorem okBack_sh (d : D) (rs : List Re) (a : Sl) (as : List Sl) : okBack (.sh d :: rs) (a :: as) = okBack rs as := rfl
theorem okBack_bor (i : Nat) (rs : List Re) (o : O) (as : List Sl) : okBack (.bor i :: rs) (.par o :: as) = okBack rs as := rfl
theorem backA_nil (e : En) (as : List Sl) : backA e [] as = e := by simp [backA]
theorem backA_sh (e : En) (d : D) (rs : List Re) (a : Sl) (as : List Sl) : backA e (.sh d :: rs) (a :: as) = backA e rs as := by simp [backA]
theorem backA_bor (e : En) (i : Nat) (rs : List Re) (o : O) (as : List Sl) : backA e (.bor i :: rs) (.par o :: as) = setO (backA e rs as) i o := by simp [backA]
theorem retA_nil (e : En) : retA [] e = [] := rfl
theorem retA_cons (a : Sl) (as : List Sl) (e : En) : retA (a :: as) e = retS a e.head? :: retA as e.tail := rfl
theorem retS_sh (d : D) (o : Option Sl) : retS (.sh d) o = .sh d := rfl
theorem retS_par (o o' : O) : retS (.par o) (some (.par o')) = .par o' := rfl
theorem notBor_sh (d : D) : notBor (.sh d) = True := rfl
theorem notBor_own (d : O) : notBor (.own d) = True := rfl
theorem startE_def (n : Nat) (as : List Sl) : startE n as = as ++ List.replicate (n - as.length) .un := rfl
theorem oIsi_int {Cs : List Addr} {n : String} {i : Int} {P : Re → Prop} : oIsi K Cs [.int i, .ty n] P = oB (kitB "int" n) fun b => P (.sh (.bl b)) := by
  have e : PySem.W.kitOne K (.type "int") (.type n) = kitB "int" n := rfl
  unfold oIsi
  simp only [tyD, oB_s]
  rw [e]
  simp
theorem oIsi_str {Cs : List Addr} {n : String} {i : Str} {P : Re → Prop} : oIsi K Cs [.str i, .ty n] P = oB (kitB "str" n) fun b => P (.sh (.bl b)) := by
  have e : PySem.W.kitOne K (.type "str") (.type n) = kitB "str" n := rfl
  unfold oIsi
  simp only [tyD, oB_s]
  rw [e]
  simp
theorem oIsi_bool {Cs : List Addr} {n : String} {i : Bool} {P : Re → Prop} : oIsi K Cs [.bl i, .ty n] P = oB (kitB "bool" n) fun b => P (.sh (.bl b)) := by
  have e : PySem.W.kitOne K (.type "bool") (.type n) = kitB "bool" n := rfl
  unfold oIsi
  simp only [tyD, oB_s]
  rw [e]
  simp
theorem oIsi_tuple {Cs : List Addr} {n : String} {i : List D} {P : Re → Prop} : oIsi K Cs [.tup i, .ty n] P = oB (kitB "tuple" n) fun b => P (.sh (.bl b)) := by
  have e : PySem.W.kitOne K (.type "tuple") (.type n) = kitB "tuple" n := rfl
  unfold oIsi
  simp only [tyD, oB_s]
  rw [e]
  simp
theorem oIsi_list {Cs : List Addr} {n : String} {i : List D} {P : Re → Prop} : oIsi K Cs [.lst i, .ty n] P = oB (kitB "list" n) fun b => P (.sh (.bl b)) := by
  have e : PySem.W.kitOne K (.type "list") (.type n) = kitB "list" n := rfl
  unfold oIsi
  simp only [tyD, oB_s]
  rw [e]
  simp
theorem oIsi_dict {Cs : List Addr} {n : String} {i : List (Key × D)} {P : Re → Prop} : oIsi K Cs [.dic i, .ty n] P = oB (kitB "dict" n) fun b => P (.sh (.bl b)) := by
  have e : PySem.W.kitOne K (.type "dict") (.type n) = kitB "dict" n := rfl
  unfold oIsi
  simp only [tyD, oB_s]
  rw [e]
  simp
theorem oIsi_NoneType {Cs : List Addr} {n : String}  {P : Re → Prop} : oIsi K Cs [.non, .ty n] P = oB (kitB "NoneType" n) fun b => P (.sh (.bl b)) := by
  have e : PySem.W.kitOne K (.type "NoneType") (.type n) = kitB "NoneType" n := rfl
  unfold oIsi
  simp only [tyD, oB_s]
  rw [e]
  simp
theorem kb_int_int : kitB "int" "int" = some true := by rfl
theorem kb_int_str : kitB "int" "str" = some false := by rfl
theorem kb_int_bool : kitB "int" "bool" = some false := by rfl
theorem kb_int_tuple : kitB "int" "tuple" = some false := by rfl
theorem kb_int_list : kitB "int" "list" = some false := by rfl
theorem kb_int_dict : kitB "int" "dict" = some false := by rfl
theorem kb_str_int : kitB "str" "int" = some false := by rfl
theorem kb_str_str : kitB "str" "str" = some true := by rfl
theorem kb_str_bool : kitB "str" "bool" = some false := by rfl
theorem kb_str_tuple : kitB "str" "tuple" = some false := by rfl
theorem kb_str_list : kitB "str" "list" = some false := by rfl
theorem kb_str_dict : kitB "str" "dict" = some false := by rfl
theorem kb_bool_int : kitB "bool" "int" = some true := by rfl
theorem kb_bool_str : kitB "bool" "str" = some false := by rfl
theorem kb_bool_bool : kitB "bool" "bool" = some true := by rfl
theorem kb_bool_tuple : kitB "bool" "tuple" = some false := by rfl
theorem kb_bool_list : kitB "bool" "list" = some false := by rfl
theorem kb_bool_dict : kitB "bool" "dict" = some false := by rfl
theorem kb_tuple_int : kitB "tuple" "int" = some false := by rfl
theorem kb_tuple_str : kitB "tuple" "str" = some false := by rfl
theorem kb_tuple_bool : kitB "tuple" "bool" = some false := by rfl
theorem kb_tuple_tuple : kitB "tuple" "tuple" = some true := by rfl
theorem kb_tuple_list : kitB "tuple" "list" = some false := by rfl
theorem kb_tuple_dict : kitB "tuple" "dict" = some false := by rfl
theorem kb_list_int : kitB "list" "int" = some false := by rfl
theorem kb_list_str : kitB "list" "str" = some false := by rfl
theorem kb_list_bool : kitB "list" "bool" = some false := by rfl
theorem kb_list_tuple : kitB "list" "tuple" = some false := by rfl
theorem kb_list_list : kitB "list" "list" = some true := by rfl
theorem kb_list_dict : kitB "list" "dict" = some false := by rfl
theorem kb_dict_int : kitB "dict" "int" = some false := by rfl
theorem kb_dict_str : kitB "dict" "str" = some false := by rfl
theorem kb_dict_bool : kitB "dict" "bool" = some false := by rfl
theorem kb_dict_tuple : kitB "dict" "tuple" = some false := by rfl
theorem kb_dict_list : kitB "dict" "list" = some false := by rfl
theorem kb_dict_dict : kitB "dict" "dict" = some true := by rfl
theorem kb_NoneType_int : kitB "NoneType" "int" = some false := by rfl
theorem kb_NoneType_str : kitB "NoneType" "str" = some false := by rfl
theorem kb_NoneType_bool : kitB "NoneType" "bool" = some false := by rfl
theorem kb_NoneType_tuple : kitB "NoneType" "tuple" = some false := by rfl
theorem kb_NoneType_list : kitB "NoneType" "list" = some false := by rfl
theorem kb_NoneType_dict : kitB "NoneType" "dict" = some false := by rfl
theorem oIsi_ins {Cs : List Addr} {C C' : Addr} {fs : List (Str × D)} {P : Re → Prop} {b : Bool} (hC : C ∈ Cs) (hb : PySem.W.kitOne K (.ref C) (.ref C') = some b) : oIsi K Cs [.ins C fs, .ref C'] P = P (.sh (.bl b)) := by
  unfold oIsi
  simp only [tyD, oB_s]
  rw [hb, oB_s]
  simp [hC]
/-! operators on known data -/
theorem opC_int {g : Int → Int → Bool} {a b : Int} {P : Re → Prop} : opC g (.int a) (.int b) P = P (.sh (.bl (g a b))) := rfl
theorem opI0_int {g : Int → Int → Int} {a b : Int} {P : Re → Prop} : opI0 g (.int a) (.int b) P = P (.sh (.int (g a b))) := rfl
theorem opI_int {C : Int → Int → Prop} {g : Int → Int → Int} {a b : Int} {P : Re → Prop} : opI C g (.int a) (.int b) P = (C a b ∧ P (.sh (.int (g a b)))) := rfl
theorem opAdd_int {a b : Int} {P : Re → Prop} : opAdd (.int a) (.int b) P = P (.sh (.int (a + b))) := rfl
theorem opAdd_lst {a b : List D} {P : Re → Prop} : opAdd (.lst a) (.lst b) P = (a.length + b.length ≤ sizeLine ∧ P (.own (.lst (a ++ b)))) := rfl
theorem opAdd_tup {a b : List D} {P : Re → Prop} : opAdd (.tup a) (.tup b) P = (a.length + b.length ≤ sizeLine ∧ P (.sh (.tup (a ++ b)))) := rfl
theorem opAddI_int {a b : Int} {P : Re → Prop} : opAddI (.int a) (.int b) P = P (.sh (.int (a + b))) := rfl
theorem opMul_int {a b : Int} {P : Re → Prop} : opMul (.int a) (.int b) P = (CMulW a b ∧ P (.sh (.int (a * b)))) := rfl
theorem opMul_lst {a : List D} {k : Int} {P : Re → Prop} : opMul (.lst a) (.int k) P = (-(2 ^ 63) ≤ k ∧ k < 2 ^ 63 ∧ a.length * k.toNat ≤ sizeLine ∧ P (.own (.lst (List.replicate k.toNat a).flatten))) := rfl
theorem opIs_non {neg : Bool} {P : Re → Prop} : opIsN neg .non .non P = P (.sh (.bl (!neg))) := rfl
theorem opIs_int {neg : Bool} {a : Int} {P : Re → Prop} : opIsN neg (.int a) .non P = P (.sh (.bl neg)) := rfl
theorem opIs_str {neg : Bool} {a : Str} {P : Re → Prop} : opIsN neg (.str a) .non P = P (.sh (.bl neg)) := rfl
theorem opIs_bl {neg : Bool} {a : Bool} {P : Re → Prop} : opIsN neg (.bl a) .non P = P (.sh (.bl neg)) := rfl
theorem opIs_tup {neg : Bool} {a : List D} {P : Re → Prop} : opIsN neg (.tup a) .non P = P (.sh (.bl neg)) := rfl
theorem opIs_lst {neg : Bool} {a : List D} {P : Re → Prop} : opIsN neg (.lst a) .non P = P (.sh (.bl neg)) := rfl
theorem opIs_dic {neg : Bool} {a : List (Key × D)} {P : Re → Prop} : opIsN neg (.dic a) .non P = P (.sh (.bl neg)) := rfl
theorem opIs_ins {neg : Bool} {C : Addr} {a : List (Str × D)} {P : Re → Prop} : opIsN neg (.ins C a) .non P = P (.sh (.bl neg)) := rfl
theorem opIs_bb {neg a b : Bool} {P : Re → Prop} : opIsN neg (.bl a) (.bl b) P = P (.sh (.bl (if neg then !decide (a = b) else decide (a = b)))) := rfl
theorem opEq_ii {neg : Bool} {a b : Int} {P : Re → Prop} : opEq neg (.int a) (.int b) P = P (.sh (.bl (if neg then !decide (a = b) else decide (a = b)))) := by
  unfold opEq
  have e : (a == b) = decide (a = b) := by rw [Bool.eq_iff_iff]; simp
  simp [D.py, PyData.eqv, PyData.depth, oB, e]
theorem opEq_ss {neg : Bool} {a b : Str} {P : Re → Prop} : opEq neg (.str a) (.str b) P = P (.sh (.bl (if neg then !decide (a = b) else decide (a = b)))) := by
  unfold opEq
  have e : (a == b) = decide (a = b) := by rw [Bool.eq_iff_iff]; simp
  simp [D.py, PyData.eqv, PyData.depth, oB, e]
theorem opEq_is {neg : Bool} {a : Int} {b : Str} {P : Re → Prop} : opEq neg (.int a) (.str b) P = P (.sh (.bl neg)) := by
  unfold opEq
  cases neg <;> simp [D.py, PyData.eqv, PyData.depth, oB]
theorem opEq_ns {neg : Bool} {b : Str} {P : Re → Prop} : opEq neg .non (.str b) P = P (.sh (.bl neg)) := by
  unfold opEq
  cases neg <;> simp [D.py, PyData.eqv, PyData.depth, oB]
theorem opIx_lst {xs : List D} {i : Int} {P : Re → Prop} : opIx (.lst xs) (.int i) P = oB (atI xs i) fun d => P (.sh d) := rfl
theorem opIx_tup {xs : List D} {i : Int} {P : Re → Prop} : opIx (.tup xs) (.int i) P = oB (atI xs i) fun d => P (.sh d) := rfl
theorem opIx_dicI {xs : List (Key × D)} {i : Int} {P : Re → Prop} : opIx (.dic xs) (.int i) P = oB (dget xs (.inl i)) fun d => P (.sh d) := rfl
theorem opIx_dicS {xs : List (Key × D)} {i : Str} {P : Re → Prop} : opIx (.dic xs) (.str i) P = oB (dget xs (.inr i)) fun d => P (.sh d) := rfl
theorem keyD_int {i : Int} : keyD (.int i) = some (.inl i) := rfl
theorem keyD_str {i : Str} : keyD (.str i) = some (.inr i) := rfl
theorem opIn_dicI {neg : Bool} {xs : List (Key × D)} {i : Int} {P : Re → Prop} : opIn neg (.int i) (.dic xs) P = P (.sh (.bl (if neg then !(dget xs (.inl i)).isSome else (dget xs (.inl i)).isSome))) := rfl
theorem opIn_dicS {neg : Bool} {xs : List (Key × D)} {i : Str} {P : Re → Prop} : opIn neg (.str i) (.dic xs) P = P (.sh (.bl (if neg then !(dget xs (.inr i)).isSome else (dget xs (.inr i)).isSome))) := rfl
theorem oLen_str {z : Str} {P : Re → Prop} : oLen [.str z] P = P (.sh (.int z.length)) := rfl
theorem oLen_tup {z : List D} {P : Re → Prop} : oLen [.tup z] P = P (.sh (.int z.length)) := rfl
theorem oLen_lst {z : List D} {P : Re → Prop} : oLen [.lst z] P = P (.sh (.int z.length)) := rfl
theorem oLen_scr {z : List Int} {P : Re → Prop} : oLen [.scr z] P = P (.sh (.int z.length)) := rfl
theorem oLen_dic {z : List (Key × D)} {P : Re → Prop} : oLen [.dic z] P = P (.sh (.int z.length)) := rfl
theorem oInt_int {i : Int} {P : Re → Prop} : oInt [.int i] P = P (.sh (.int i)) := rfl
theorem oInt_bl {b : Bool} {P : Re → Prop} : oInt [.bl b] P = P (.sh (.int (if b then 1 else 0))) := rfl
theorem oAbs_int {i : Int} {P : Re → Prop} : oAbs [.int i] P = P (.sh (.int (if i < 0 then -i else i))) := rfl
theorem oBin_int {g : Int → Int → Int} {i j : Int} {P : Re → Prop} : oBin g [.int i, .int j] P = P (.sh (.int (g i j))) := rfl
theorem oTup_lst {xs : List D} {P : Re → Prop} : oTup [.lst xs] P = P (.sh (.tup xs)) := rfl
theorem oTup_tup {xs : List D} {P : Re → Prop} : oTup [.tup xs] P = P (.sh (.tup xs)) := rfl
theorem oListU_lst {xs : List D} {P : Re → Prop} : oListU [.lst xs] P = P (.own (.lst xs)) := rfl
theorem oListU_tup {xs : List D} {P : Re → Prop} : oListU [.tup xs] P = P (.own (.lst xs)) := rfl
theorem oListU_dic {xs : List (Key × D)} {P : Re → Prop} : oListU [.dic xs] P = P (.own (.lst (xs.map fun kv => kD kv.1))) := rfl
theorem oSum_lst {xs : List D} {P : Re → Prop} : oSum [.lst xs] P = oB (intsD xs) fun ns => P (.sh (.int ns.sum)) := rfl
theorem oAll_lst {xs : List D} {P : Re → Prop} : oAll [.lst xs] P = oB (blsD xs) fun ns => P (.sh (.bl (ns.all id))) := rfl
theorem oAny_lst {xs : List D} {P : Re → Prop} : oAny [.lst xs] P = oB (blsD xs) fun ns => P (.sh (.bl (ns.any id))) := rfl
theorem opSl_lst {xs : List D} {l h : Option Int} {P : Re → Prop} : opSl (.lst xs) l h P = P (.own (.lst (cutD xs l h))) := rfl
theorem opSl_tup {xs : List D} {l h : Option Int} {P : Re → Prop} : opSl (.tup xs) l h P = P (.sh (.tup (cutD xs l h))) := rfl
theorem opSl_scr {ns : List Int} {l h : Option Int} {P : Re → Prop} : opSl (.scr ns) l h P = P (.own (.lst (cutD (ns.map D.int) l h))) := rfl
theorem oApp_1 {xs : List D} {d : D} {P : D → List D → Prop} : oApp xs [d] P = (xs.length < sizeLine ∧ P .non (xs ++ [d])) := rfl
theorem oExt_tup {xs ys : List D} {P : D → List D → Prop} : oExt xs [.tup ys] P = (xs.length + ys.length ≤ sizeLine ∧ P .non (xs ++ ys)) := rfl
theorem oExt_lst {xs ys : List D} {P : D → List D → Prop} : oExt xs [.lst ys] P = (xs.length + ys.length ≤ sizeLine ∧ P .non (xs ++ ys)) := rfl
/-! slots that one may store into -/
def nPs : Option Sl → Prop
  | some (.par _) => False
  | some _ => True
  | none => False
theorem notPar_def {e : En} {i : Nat} : notPar e i = nPs e[i]? := by
  unfold notPar nPs
  cases e[i]? with
  | none => rfl
  | some s => cases s <;> rfl
theorem nPs_sh {d : D} : nPs (some (.sh d)) = True := rfl
theorem nPs_un : nPs (some .un) = True := rfl
theorem nPs_own {o : O} : nPs (some (.own o)) = True := rfl
/-! walks by their lists -/
def enumF : Nat → List D → List D
  | _, [] => []
  | i, d :: ds => .tup [.int i, d] :: enumF (i + 1) ds
theorem enumF_eq : ∀ (ds : List D) (i : Nat), enumF i ds = (List.range ds.length).map fun j => D.tup [.int ((i + j : Nat) : Int), ds.getD j .non]
  | [], i => rfl
  | d :: ds, i => by
    rw [enumF, enumF_eq ds (i + 1), List.length_cons, List.range_succ_eq_map, List.map_cons, List.map_map]
    congr 1
    apply List.map_congr_left
    intro j _
    show D.tup [.int ((i + 1 + j : Nat) : Int), _] = D.tup [.int ((i + (j + 1) : Nat) : Int), _]
    rw [show i + 1 + j = i + (j + 1) by omega]
    rfl
theorem enumD_eq (ds : List D) : enumD ds = enumF 0 ds := by
  rw [enumF_eq]
  unfold enumD
  simp
theorem rangeD_zero {lo c : Int} : rangeD lo c 0 = [] := rfl
theorem rangeD_succ {lo c : Int} {n : Nat} : rangeD lo c (n + 1) = .int lo :: rangeD (lo + c) c n := by
  unfold rangeD
  rw [List.range_succ_eq_map, List.map_cons, List.map_map]
  congr 1
  · simp
  · apply List.map_congr_left
    intro j _
    show D.int (lo + ((j + 1 : Nat) : Int) * c) = D.int (lo + c + (j : Int) * c)
    congr 1
    rw [Int.natCast_add, Int.add_mul]
    omega
/-! places -/
theorem ixN_nat {n i : Nat} (h : i < n) : ixN n (i : Int) = some i := by
  unfold ixN
  rw [if_pos (by omega), if_pos (by omega)]
  simp
theorem atI_n {α : Type} {xs : List α} {i : Nat} (h : i < xs.length) : atI xs (i : Int) = xs[i]? := by
  unfold atI
  rw [ixN_nat h]
  rfl
theorem rgn {i j : Int} (ha : -(2 ^ 62) ≤ i) (ha' : i < 2 ^ 62) (hb : -(2 ^ 62) ≤ j) (hb' : j < 2 ^ 62) : RgC i j (-1) (Builtin.Range.rangeSize i j (-1)).toNat ∧ (Builtin.Range.rangeSize i j (-1)).toNat = (i - j).toNat := by
  have e := PySem.W.rangeSize_downNat i j
  have e2 : (Builtin.Range.rangeSize i j (-1)).toNat = (i - j).toNat := by rw [e]; exact Int.toNat_natCast _
  exact ⟨by rw [e2]; exact RgC.neg ha ha' hb hb', e2⟩
theorem sz_0 : (0 ≤ sizeLine) = True := eq_true (by decide)
theorem sz_1 : (1 ≤ sizeLine) = True := eq_true (by decide)
theorem sz_2 : (2 ≤ sizeLine) = True := eq_true (by decide)
theorem sz_3 : (3 ≤ sizeLine) = True := eq_true (by decide)
theorem sz_4 : (4 ≤ sizeLine) = True := eq_true (by decide)
theorem sz_5 : (5 ≤ sizeLine) = True := eq_true (by decide)
theorem sz_6 : (6 ≤ sizeLine) = True := eq_true (by decide)
theorem sz_7 : (7 ≤ sizeLine) = True := eq_true (by decide)
theorem sz_8 : (8 ≤ sizeLine) = True := eq_true (by decide)
theorem ru_0 : List.replicate 0 Sl.un = [] := rfl
theorem ru_1 : List.replicate 1 Sl.un = [.un] := rfl
theorem ru_2 : List.replicate 2 Sl.un = [.un, .un] := rfl
theorem ru_3 : List.replicate 3 Sl.un = [.un, .un, .un] := rfl
theorem ru_4 : List.replicate 4 Sl.un = [.un, .un, .un, .un] := rfl
theorem ru_5 : List.replicate 5 Sl.un = [.un, .un, .un, .un, .un] := rfl
theorem ru_6 : List.replicate 6 Sl.un = [.un, .un, .un, .un, .un, .un] := rfl
theorem ru_7 : List.replicate 7 Sl.un = [.un, .un, .un, .un, .un, .un, .un] := rfl
theorem ru_8 : List.replicate 8 Sl.un = [.un, .un, .un, .un, .un, .un, .un, .un] := rfl
theorem ru_9 : List.replicate 9 Sl.un = [.un, .un, .un, .un, .un, .un, .un, .un, .un] := rfl
theorem ru_10 : List.replicate 10 Sl.un = [.un, .un, .un, .un, .un, .un, .un, .un, .un, .un] := rfl
theorem ru_11 : List.replicate 11 Sl.un = [.un, .un, .un, .un, .un, .un, .un, .un, .un, .un, .un] := rfl
theorem ru_12 : List.replicate 12 Sl.un = [.un, .un, .un, .un, .un, .un, .un, .un, .un, .un, .un, .un] := rfl
theorem ru_13 : List.replicate 13 Sl.un = [.un, .un, .un, .un, .un, .un, .un, .un, .un, .un, .un, .un, .un] := rfl
theorem ru_14 : List.replicate 14 Sl.un = [.un, .un, .un, .un, .un, .un, .un, .un, .un, .un, .un, .un, .un, .un] := rfl
theorem ru_15 : List.replicate 15 Sl.un = [.un, .un, .un, .un, .un, .un, .un, .un, .un, .un, .un, .un, .un, .un, .un] := rfl
theorem ru_16 : List.replicate 16 Sl.un = [.un, .un, .un, .un, .un, .un, .un, .un, .un, .un, .un, .un, .un, .un, .un, .un] := rfl
theorem ru_17 : List.replicate 17 Sl.un = [.un, .un, .un, .un, .un, .un, .un, .un, .un, .un, .un, .un, .un, .un, .un, .un, .un] := rfl
theorem ru_18 : List.replicate 18 Sl.un = [.un, .un, .un, .un, .un, .un, .un, .un, .un, .un, .un, .un, .un, .un, .un, .un, .un, .un] := rfl
theorem ru_19 : List.replicate 19 Sl.un = [.un, .un, .un, .un, .un, .un, .un, .un, .un, .un, .un, .un, .un, .un, .un, .un, .un, .un, .un] := rfl

/-! ### readings by steps: what comes next is a named term, looked at when its turn comes -/
section
variable {x : VX} {e e1 : En} {i j : Nat} {d d1 d2 : D} {o : O} {r r1 r2 : Re}
abbrev KE := Re → En → Prop
def kQ (Q : KE) (e : En) : Re → Prop := fun r => Q r e
theorem kQ_d {Q : KE} : kQ Q e r = Q r e := rfl
def sVar (s : Option Sl) (i : Nat) (Q : KE) (e : En) : Prop := match s with
  | some (.sh d) => Q (.sh d) e
  | some (.own _) => Q (.bor i) e
  | some (.par _) => Q (.bor i) e
  | _ => False
theorem vVar_d {Q : KE} : vVar i x e Q = sVar e[i]? i Q e := rfl
theorem sVar_sh {Q : KE} : sVar (some (.sh d)) i Q e = Q (.sh d) e := rfl
theorem sVar_own {Q : KE} : sVar (some (.own o)) i Q e = Q (.bor i) e := rfl
theorem sVar_par {Q : KE} : sVar (some (.par o)) i Q e = Q (.bor i) e := rfl
theorem vC_d {Q : KE} : vC d x e Q = Q (.sh d) e := rfl
/- operators -/
def kOp4 (o : VO2) (Q : KE) (e : En) (d1 : D) : D → Prop := fun d2 => o d1 d2 (kQ Q e)
theorem kOp4_d {o : VO2} {Q : KE} : kOp4 o Q e d1 d2 = o d1 d2 (kQ Q e) := rfl
def kOp3 (o : VO2) (c2 : Option D) (Q : KE) (e : En) : D → Prop := fun d1 => oB c2 (kOp4 o Q e d1)
theorem kOp3_d {o : VO2} {c2 : Option D} {Q : KE} : kOp3 o c2 Q e d1 = oB c2 (kOp4 o Q e d1) := rfl
def kOp2 (o : VO2) (r1 : Re) (Q : KE) : KE := fun r2 e2 => oB (cont e2 (fz r1)) (kOp3 o (cont e2 (fz r2)) Q e2)
theorem kOp2_d {o : VO2} {Q : KE} : kOp2 o r1 Q r2 e = oB (cont e (fz r1)) (kOp3 o (cont e (fz r2)) Q e) := rfl
def kOp1 (o : VO2) (tb : VTE) (x : VX) (Q : KE) : KE := fun r1 e1 => tb x e1 (kOp2 o r1 Q)
theorem kOp1_d {o : VO2} {tb : VTE} {Q : KE} : kOp1 o tb x Q r1 e = tb x e (kOp2 o r1 Q) := rfl
theorem vOp_d {o : VO2} {ta tb : VTE} {Q : KE} : vOp o ta tb x e Q = ta x e (kOp1 o tb x Q) := rfl
/- tests -/
abbrev KT := Bool → En → Prop
def kB2 (Q : KT) (e : En) : D → Prop := fun d => match d with
  | .bl b => Q b e
  | _ => False
theorem kB2_d {Q : KT} {b : Bool} : kB2 Q e (.bl b) = Q b e := rfl
def kB (Q : KT) : KE := fun r e => oB (cont e (fz r)) (kB2 Q e)
theorem kB_d {Q : KT} : kB Q r e = oB (cont e (fz r)) (kB2 Q e) := rfl
theorem vB_d {t : VTE} {Q : KT} : vB t x e Q = t x e (kB Q) := rfl
def sAnd (c : Bool) (u : VTT) (x : VX) (e : En) (Q : KT) : Prop := if c = true then u x e Q else Q false e
theorem sAnd_t {u : VTT} {Q : KT} : sAnd true u x e Q = u x e Q := rfl
theorem sAnd_f {u : VTT} {Q : KT} : sAnd false u x e Q = Q false e := rfl
def kAnd (u : VTT) (x : VX) (Q : KT) : KT := fun c e => sAnd c u x e Q
theorem kAnd_d {u : VTT} {Q : KT} {c : Bool} : kAnd u x Q c e = sAnd c u x e Q := rfl
theorem vAnd_d {t u : VTT} {Q : KT} : vAnd t u x e Q = t x e (kAnd u x Q) := rfl
def sOr (c : Bool) (u : VTT) (x : VX) (e : En) (Q : KT) : Prop := if c = true then Q true e else u x e Q
theorem sOr_t {u : VTT} {Q : KT} : sOr true u x e Q = Q true e := rfl
theorem sOr_f {u : VTT} {Q : KT} : sOr false u x e Q = u x e Q := rfl
def kOr (u : VTT) (x : VX) (Q : KT) : KT := fun c e => sOr c u x e Q
theorem kOr_d {u : VTT} {Q : KT} {c : Bool} : kOr u x Q c e = sOr c u x e Q := rfl
theorem vOr_d {t u : VTT} {Q : KT} : vOr t u x e Q = t x e (kOr u x Q) := rfl
def kNot (Q : KT) : KT := fun c e => Q (!c) e
theorem kNot_d {Q : KT} {c : Bool} : kNot Q c e = Q (!c) e := rfl
theorem vNot_d {t : VTT} {Q : KT} : vNot t x e Q = t x e (kNot Q) := rfl
def sAndV (c : Bool) (u : VTE) (x : VX) (e : En) (Q : KE) : Prop := if c = true then u x e Q else Q (.sh (.bl false)) e
theorem sAndV_t {u : VTE} {Q : KE} : sAndV true u x e Q = u x e Q := rfl
theorem sAndV_f {u : VTE} {Q : KE} : sAndV false u x e Q = Q (.sh (.bl false)) e := rfl
def kAndV2 (u : VTE) (x : VX) (Q : KE) (e : En) : D → Prop := fun d => match d with
  | .bl c => sAndV c u x e Q
  | _ => False
theorem kAndV2_d {u : VTE} {Q : KE} {c : Bool} : kAndV2 u x Q e (.bl c) = sAndV c u x e Q := rfl
def kAndV (u : VTE) (x : VX) (Q : KE) : KE := fun r e => oB (cont e (fz r)) (kAndV2 u x Q e)
theorem kAndV_d {u : VTE} {Q : KE} : kAndV u x Q r e = oB (cont e (fz r)) (kAndV2 u x Q e) := rfl
theorem vAndV_d {t u : VTE} {Q : KE} : vAndV t u x e Q = t x e (kAndV u x Q) := rfl
def sOrV (c : Bool) (u : VTE) (x : VX) (e : En) (Q : KE) : Prop := if c = true then Q (.sh (.bl true)) e else u x e Q
theorem sOrV_t {u : VTE} {Q : KE} : sOrV true u x e Q = Q (.sh (.bl true)) e := rfl
theorem sOrV_f {u : VTE} {Q : KE} : sOrV false u x e Q = u x e Q := rfl
def kOrV2 (u : VTE) (x : VX) (Q : KE) (e : En) : D → Prop := fun d => match d with
  | .bl c => sOrV c u x e Q
  | _ => False
theorem kOrV2_d {u : VTE} {Q : KE} {c : Bool} : kOrV2 u x Q e (.bl c) = sOrV c u x e Q := rfl
def kOrV (u : VTE) (x : VX) (Q : KE) : KE := fun r e => oB (cont e (fz r)) (kOrV2 u x Q e)
theorem kOrV_d {u : VTE} {Q : KE} : kOrV u x Q r e = oB (cont e (fz r)) (kOrV2 u x Q e) := rfl
theorem vOrV_d {t u : VTE} {Q : KE} : vOrV t u x e Q = t x e (kOrV u x Q) := rfl
def kNotV2 (Q : KE) (e : En) : D → Prop := fun d => match d with
  | .bl c => Q (.sh (.bl (!c))) e
  | _ => False
theorem kNotV2_d {Q : KE} {c : Bool} : kNotV2 Q e (.bl c) = Q (.sh (.bl (!c))) e := rfl
def kNotV (Q : KE) : KE := fun r e => oB (cont e (fz r)) (kNotV2 Q e)
theorem kNotV_d {Q : KE} : kNotV Q r e = oB (cont e (fz r)) (kNotV2 Q e) := rfl
theorem vNotV_d {t : VTE} {Q : KE} : vNotV t x e Q = t x e (kNotV Q) := rfl
def sIfE (c : Bool) (u w : VTE) (x : VX) (e : En) (Q : KE) : Prop := if c = true then u x e Q else w x e Q
theorem sIfE_t {u w : VTE} {Q : KE} : sIfE true u w x e Q = u x e Q := rfl
theorem sIfE_f {u w : VTE} {Q : KE} : sIfE false u w x e Q = w x e Q := rfl
def kIfE (u w : VTE) (x : VX) (Q : KE) : KT := fun c e => sIfE c u w x e Q
theorem kIfE_d {u w : VTE} {Q : KE} {c : Bool} : kIfE u w x Q c e = sIfE c u w x e Q := rfl
theorem vIf_d {t : VTT} {u w : VTE} {Q : KE} : vIf t u w x e Q = t x e (kIfE u w x Q) := rfl
/- chains -/
def sCh (c : Bool) (o' : VO2) (tc : VTE) (x : VX) (r2 : Re) (Q : KE) (e : En) : Prop := if c = true then tc x e (kOp2 o' r2 Q) else Q (.sh (.bl false)) e
theorem sCh_t {o' : VO2} {tc : VTE} {Q : KE} : sCh true o' tc x r2 Q e = tc x e (kOp2 o' r2 Q) := rfl
theorem sCh_f {o' : VO2} {tc : VTE} {Q : KE} : sCh false o' tc x r2 Q e = Q (.sh (.bl false)) e := rfl
def kCh5 (o' : VO2) (tc : VTE) (x : VX) (r2 : Re) (Q : KE) (e : En) : Re → Prop := fun r => match r with
  | .sh (.bl c) => sCh c o' tc x r2 Q e
  | _ => False
theorem kCh5_d {o' : VO2} {tc : VTE} {Q : KE} {c : Bool} : kCh5 o' tc x r2 Q e (.sh (.bl c)) = sCh c o' tc x r2 Q e := rfl
def kCh4 (o o' : VO2) (tc : VTE) (x : VX) (r2 : Re) (Q : KE) (e : En) (d1 : D) : D → Prop := fun d2 => o d1 d2 (kCh5 o' tc x r2 Q e)
theorem kCh4_d {o o' : VO2} {tc : VTE} {Q : KE} : kCh4 o o' tc x r2 Q e d1 d2 = o d1 d2 (kCh5 o' tc x r2 Q e) := rfl
def kCh3 (o o' : VO2) (tc : VTE) (x : VX) (r2 : Re) (Q : KE) (e : En) : D → Prop := fun d1 => oB (cont e (fz r2)) (kCh4 o o' tc x r2 Q e d1)
theorem kCh3_d {o o' : VO2} {tc : VTE} {Q : KE} : kCh3 o o' tc x r2 Q e d1 = oB (cont e (fz r2)) (kCh4 o o' tc x r2 Q e d1) := rfl
def kCh2 (o o' : VO2) (tc : VTE) (x : VX) (r1 : Re) (Q : KE) : KE := fun r2 e2 => oB (cont e2 (fz r1)) (kCh3 o o' tc x r2 Q e2)
theorem kCh2_d {o o' : VO2} {tc : VTE} {Q : KE} : kCh2 o o' tc x r1 Q r2 e = oB (cont e (fz r1)) (kCh3 o o' tc x r2 Q e) := rfl
def kCh1 (o o' : VO2) (tb tc : VTE) (x : VX) (Q : KE) : KE := fun r1 e1 => tb x e1 (kCh2 o o' tc x r1 Q)
theorem kCh1_d {o o' : VO2} {tb tc : VTE} {Q : KE} : kCh1 o o' tb tc x Q r1 e = tb x e (kCh2 o o' tc x r1 Q) := rfl
theorem vChain_d {o o' : VO2} {ta tb tc : VTE} {Q : KE} : vChain o o' ta tb tc x e Q = ta x e (kCh1 o o' tb tc x Q) := rfl
/- lists of arguments -/
abbrev KA := List Re → En → Prop
theorem vNil_d {Q : KA} : vNil x e Q = Q [] e := rfl
def kCo2 (r : Re) (Q : KA) : KA := fun rs e => Q (r :: rs) e
theorem kCo2_d {Q : KA} {rs : List Re} : kCo2 r Q rs e = Q (r :: rs) e := rfl
def sCo (r : Re) (u : VTA) (x : VX) (e : En) (Q : KA) : Prop := match r with
  | .own _ => False
  | r => u x e (kCo2 r Q)
theorem sCo_sh {u : VTA} {Q : KA} : sCo (.sh d) u x e Q = u x e (kCo2 (.sh d) Q) := rfl
theorem sCo_bor {u : VTA} {Q : KA} : sCo (.bor i) u x e Q = u x e (kCo2 (.bor i) Q) := rfl
def kCo1 (u : VTA) (x : VX) (Q : KA) : KE := fun r e => sCo (fz r) u x e Q
theorem kCo1_d {u : VTA} {Q : KA} : kCo1 u x Q r e = sCo (fz r) u x e Q := rfl
theorem vCons_d {t : VTE} {u : VTA} {Q : KA} : vCons t u x e Q = t x e (kCo1 u x Q) := by
  unfold vCons
  congr 1
def kTup2 (Q : KE) (e : En) : List D → Prop := fun ds => ds.length ≤ sizeLine ∧ Q (.sh (.tup ds)) e
theorem kTup2_d {Q : KE} {ds : List D} : kTup2 Q e ds = (ds.length ≤ sizeLine ∧ Q (.sh (.tup ds)) e) := rfl
def kTup (Q : KE) : KA := fun rs e => oB (shs rs) (kTup2 Q e)
theorem kTup_d {Q : KE} {rs : List Re} : kTup Q rs e = oB (shs rs) (kTup2 Q e) := rfl
theorem vTup_d {t : VTA} {Q : KE} : vTup t x e Q = t x e (kTup Q) := rfl
def kLst2 (Q : KE) (e : En) : List D → Prop := fun ds => ds.length ≤ sizeLine ∧ Q (.own (.lst ds)) e
theorem kLst2_d {Q : KE} {ds : List D} : kLst2 Q e ds = (ds.length ≤ sizeLine ∧ Q (.own (.lst ds)) e) := rfl
def kLst (Q : KE) : KA := fun rs e => oB (shs rs) (kLst2 Q e)
theorem kLst_d {Q : KE} {rs : List Re} : kLst Q rs e = oB (shs rs) (kLst2 Q e) := rfl
theorem vLst_d {t : VTA} {Q : KE} : vLst t x e Q = t x e (kLst Q) := rfl
theorem vDic0_d {Q : KE} : vDic0 x e Q = Q (.own (.dic [])) e := rfl
def kCB2 (o : VOA) (Q : KE) (e : En) : List D → Prop := fun ds => o ds (kQ Q e)
theorem kCB2_d {o : VOA} {Q : KE} {ds : List D} : kCB2 o Q e ds = o ds (kQ Q e) := rfl
def kCB (o : VOA) (Q : KE) : KA := fun rs e => oB (conts e rs) (kCB2 o Q e)
theorem kCB_d {o : VOA} {Q : KE} {rs : List Re} : kCB o Q rs e = oB (conts e rs) (kCB2 o Q e) := rfl
theorem vCallB_d {o : VOA} {t : VTA} {Q : KE} : vCallB o t x e Q = t x e (kCB o Q) := rfl
/- slices -/
abbrev KO := Option Int → En → Prop
theorem vNoPart_d {Q : KO} : vNoPart x e Q = Q none e := rfl
def kPart2 (Q : KO) (e : En) : D → Prop := fun d => match d with
  | .int i => Q (some i) e
  | _ => False
theorem kPart2_d {Q : KO} {n : Int} : kPart2 Q e (.int n) = Q (some n) e := rfl
def kPart (Q : KO) : KE := fun r e => oB (cont e (fz r)) (kPart2 Q e)
theorem kPart_d {Q : KO} : kPart Q r e = oB (cont e (fz r)) (kPart2 Q e) := rfl
theorem vPart_d {t : VTE} {Q : KO} : vPart t x e Q = t x e (kPart Q) := rfl
def kSl4 (l u : Option Int) (Q : KE) (e : En) : D → Prop := fun d => opSl d l u (kQ Q e)
theorem kSl4_d {l u : Option Int} {Q : KE} : kSl4 l u Q e d = opSl d l u (kQ Q e) := rfl
def kSl3 (r : Re) (l : Option Int) (Q : KE) : KO := fun u e => oB (cont e (fz r)) (kSl4 l u Q e)
theorem kSl3_d {l u : Option Int} {Q : KE} : kSl3 r l Q u e = oB (cont e (fz r)) (kSl4 l u Q e) := rfl
def kSl2 (hi : VTO) (x : VX) (r : Re) (Q : KE) : KO := fun l e => hi x e (kSl3 r l Q)
theorem kSl2_d {hi : VTO} {l : Option Int} {Q : KE} : kSl2 hi x r Q l e = hi x e (kSl3 r l Q) := rfl
def kSl1 (lo hi : VTO) (x : VX) (Q : KE) : KE := fun r e => lo x e (kSl2 hi x r Q)
theorem kSl1_d {lo hi : VTO} {Q : KE} : kSl1 lo hi x Q r e = lo x e (kSl2 hi x r Q) := rfl
theorem vSl_d {t : VTE} {lo hi : VTO} {Q : KE} : vSl t lo hi x e Q = t x e (kSl1 lo hi x Q) := rfl
/- fields -/
def kSh (Q : KE) (e : En) : D → Prop := fun d => Q (.sh d) e
theorem kSh_d {Q : KE} : kSh Q e d = Q (.sh d) e := rfl
def kFldC2 (Cs : List Addr) (f : Str) (Q : KE) (e : En) : D → Prop := fun d => match d with
  | .ins C fs => C ∈ Cs ∧ oB (fs.lookup f) (kSh Q e)
  | _ => False
theorem kFldC2_d {Cs : List Addr} {f : Str} {C : Addr} {fs : List (Str × D)} {Q : KE} : kFldC2 Cs f Q e (.ins C fs) = (C ∈ Cs ∧ oB (fs.lookup f) (kSh Q e)) := rfl
def kFldC (Cs : List Addr) (f : Str) (Q : KE) : KE := fun r e => oB (cont e (fz r)) (kFldC2 Cs f Q e)
theorem kFldC_d {Cs : List Addr} {f : Str} {Q : KE} : kFldC Cs f Q r e = oB (cont e (fz r)) (kFldC2 Cs f Q e) := rfl
theorem vFldC_d {Cs : List Addr} {t : VTE} {f : Str} {Q : KE} : vFldC Cs t f x e Q = t x e (kFldC Cs f Q) := rfl
/- targets -/
abbrev KG := En → Prop
theorem vgName_d {Q : KG} : vgName i d x e Q = (notPar e i ∧ Q (e.set i (.sh d))) := rfl
theorem vgNil_d {ds : List D} {Q : KG} : vgNil ds x e Q = (ds = [] ∧ Q e) := rfl
def kgC (u : VGs) (ds : List D) (x : VX) (Q : KG) : KG := fun e => u ds x e Q
theorem kgC_d {u : VGs} {ds : List D} {Q : KG} : kgC u ds x Q e = u ds x e Q := rfl
theorem vgCons_d {t : VG} {u : VGs} {ds : List D} {Q : KG} : vgCons t u (d :: ds) x e Q = t d x e (kgC u ds x Q) := rfl
theorem vgTup_d {n : Nat} {g : VGs} {ds : List D} {Q : KG} : vgTup n g (.tup ds) x e Q = (ds.length = n ∧ g ds x e Q) := rfl
def kgS3 (xs : List D) (j : Nat) (d : D) (Q : KG) (e : En) : Nat → Prop := fun n => Q (setO e j (.lst (xs.set n d)))
theorem kgS3_d {xs : List D} {n : Nat} {Q : KG} : kgS3 xs j d Q e n = Q (setO e j (.lst (xs.set n d))) := rfl
def kgS4 (kvs : List (Key × D)) (j : Nat) (d : D) (Q : KG) (e : En) : Key → Prop := fun key => kvs.length < sizeLine ∧ Q (setO e j (.dic (dput kvs key d)))
theorem kgS4_d {kvs : List (Key × D)} {key : Key} {Q : KG} : kgS4 kvs j d Q e key = (kvs.length < sizeLine ∧ Q (setO e j (.dic (dput kvs key d)))) := rfl
def sgSub2 (s : Option O) (j : Nat) (d : D) (Q : KG) (e : En) (i : D) : Prop := match s with
  | some (.lst xs) => (match i with
    | .int k => oB (ixN xs.length k) (kgS3 xs j d Q e)
    | _ => False)
  | some (.dic kvs) => oB (keyD i) (kgS4 kvs j d Q e)
  | _ => False
theorem sgSub2_lst {xs : List D} {k : Int} {Q : KG} : sgSub2 (some (.lst xs)) j d Q e (.int k) = oB (ixN xs.length k) (kgS3 xs j d Q e) := rfl
theorem sgSub2_dic {kvs : List (Key × D)} {i : D} {Q : KG} : sgSub2 (some (.dic kvs)) j d Q e i = oB (keyD i) (kgS4 kvs j d Q e) := rfl
def kgS2 (s : Option O) (j : Nat) (d : D) (Q : KG) (e : En) : D → Prop := fun i => sgSub2 s j d Q e i
theorem kgS2_d {s : Option O} {i : D} {Q : KG} : kgS2 s j d Q e i = sgSub2 s j d Q e i := rfl
def kgS (j : Nat) (d : D) (Q : KG) : KE := fun r e => oB (cont e (fz r)) (kgS2 (ownO e j) j d Q e)
theorem kgS_d {Q : KG} : kgS j d Q r e = oB (cont e (fz r)) (kgS2 (ownO e j) j d Q e) := rfl
def sgSub (s : Option O) (j : Nat) (t : VTE) (d : D) (x : VX) (e : En) (Q : KG) : Prop := match s with
  | none => False
  | some _ => t x e (kgS j d Q)
theorem sgSub_d {t : VTE} {Q : KG} : sgSub (some o) j t d x e Q = t x e (kgS j d Q) := rfl
theorem vgSub_d {t : VTE} {Q : KG} : vgSub j t d x e Q = sgSub (ownO e j) j t d x e Q := by
  unfold vgSub sgSub
  cases ownO e j with
  | none => rfl
  | some o =>
    show t x e _ = t x e _
    congr 1
/- statements -/
theorem vNext_d {E : VE} : vNext E e = E.nx e := rfl
theorem vSeq_d {t u : VTS} {E : VE} : vSeq t u E e = t { E with nx := u E } e := rfl
theorem vBreak_d {E : VE} : vBreak E e = E.bk e := rfl
theorem vCont_d {E : VE} : vCont E e = E.ct e := rfl
theorem vNever_d {E : VE} : vNever E e = False := rfl
def sAsg (r : Re) (i : Nat) (E : VE) (e : En) : Prop := match r with
  | .sh d => E.nx (e.set i (.sh d))
  | .own o => E.nx (e.set i (.own o))
  | .bor _ => False
  | .fld _ _ _ => False
theorem sAsg_sh {E : VE} : sAsg (.sh d) i E e = E.nx (e.set i (.sh d)) := rfl
theorem sAsg_own {E : VE} : sAsg (.own o) i E e = E.nx (e.set i (.own o)) := rfl
def kAsg (i : Nat) (E : VE) : KE := fun r e => notPar e i ∧ sAsg r i E e
theorem kAsg_d {E : VE} : kAsg i E r e = (notPar e i ∧ sAsg r i E e) := rfl
theorem vAsg_d {t : VTE} {E : VE} : vAsg i t E e = t E.ex e (kAsg i E) := rfl
def sAsgG (r : Re) (g : VG) (E : VE) (e : En) : Prop := match r with
  | .sh d => g d E.ex e E.nx
  | _ => False
theorem sAsgG_sh {g : VG} {E : VE} : sAsgG (.sh d) g E e = g d E.ex e E.nx := rfl
def kAsgG (g : VG) (E : VE) : KE := fun r e => sAsgG (fz r) g E e
theorem kAsgG_d {g : VG} {E : VE} : kAsgG g E r e = sAsgG (fz r) g E e := rfl
theorem vAsgG_d {t : VTE} {g : VG} {E : VE} : vAsgG t g E e = t E.ex e (kAsgG g E) := by
  unfold vAsgG
  congr 1
def kPar (i j : Nat) (E : VE) : KA := fun rs e => match rs with
  | [.sh d1, .sh d2] => notPar e i ∧ notPar (e.set i (.sh d1)) j ∧ E.nx ((e.set i (.sh d1)).set j (.sh d2))
  | _ => False
theorem kPar_d {E : VE} : kPar i j E [.sh d1, .sh d2] e = (notPar e i ∧ notPar (e.set i (.sh d1)) j ∧ E.nx ((e.set i (.sh d1)).set j (.sh d2))) := rfl
theorem vPar_d {t : VTA} {E : VE} : vPar i j t E e = t E.ex e (kPar i j E) := rfl
def kAug3 (i : Nat) (E : VE) (e : En) : Re → Prop := fun r => match r with
  | .sh z => E.nx (e.set i (.sh z))
  | _ => False
theorem kAug3_d {E : VE} : kAug3 i E e (.sh d) = E.nx (e.set i (.sh d)) := rfl
def kAug2 (i : Nat) (o : VO2) (d0 : D) (E : VE) (e : En) : D → Prop := fun d => o d0 d (kAug3 i E e)
theorem kAug2_d {o : VO2} {E : VE} : kAug2 i o d1 E e d = o d1 d (kAug3 i E e) := rfl
def kAug (i : Nat) (o : VO2) (d0 : D) (E : VE) : KE := fun r e => notPar e i ∧ oB (cont e (fz r)) (kAug2 i o d0 E e)
theorem kAug_d {o : VO2} {E : VE} : kAug i o d1 E r e = (notPar e i ∧ oB (cont e (fz r)) (kAug2 i o d1 E e)) := rfl
def sAug (s : Option Sl) (i : Nat) (t : VTE) (o : VO2) (E : VE) (e : En) : Prop := match s with
  | some (.sh d0) => t E.ex e (kAug i o d0 E)
  | _ => False
theorem sAug_d {t : VTE} {o : VO2} {E : VE} : sAug (some (.sh d)) i t o E e = t E.ex e (kAug i o d E) := rfl
theorem vAug_d {t : VTE} {o : VO2} {E : VE} : vAug i t o E e = sAug e[i]? i t o E e := rfl
def kDrop (E : VE) : KE := fun _ e => E.nx e
theorem kDrop_d {E : VE} : kDrop E r e = E.nx e := rfl
theorem vDrop_d {t : VTE} {E : VE} : vDrop t E e = t E.ex e (kDrop E) := rfl
def sRt (s : Option Sl) (i : Nat) (E : VE) (e : En) : Prop := match s with
  | some (.own o) => E.rt (.own o) (e.set i .un)
  | _ => False
theorem sRt_d {E : VE} : sRt (some (.own o)) i E e = E.rt (.own o) (e.set i .un) := rfl
def kRt (E : VE) : KE := fun r e => match r with
  | .bor i => sRt e[i]? i E e
  | r => E.rt r e
theorem kRt_sh {E : VE} : kRt E (.sh d) e = E.rt (.sh d) e := rfl
theorem kRt_own {E : VE} : kRt E (.own o) e = E.rt (.own o) e := rfl
theorem kRt_bor {E : VE} : kRt E (.bor i) e = sRt e[i]? i E e := rfl
theorem vRet_d {t : VTE} {E : VE} : vRet t E e = t E.ex e (kRt E) := rfl
theorem vRetN_d {E : VE} : vRetN E e = E.rt (.sh .non) e := rfl
def sIfS (c : Bool) (t u : VTS) (E : VE) (e : En) : Prop := if c = true then t E e else u E e
theorem sIfS_t {t u : VTS} {E : VE} : sIfS true t u E e = t E e := rfl
theorem sIfS_f {t u : VTS} {E : VE} : sIfS false t u E e = u E e := rfl
def kIfS (t u : VTS) (E : VE) : KT := fun b e => sIfS b t u E e
theorem kIfS_d {t u : VTS} {E : VE} {b : Bool} : kIfS t u E b e = sIfS b t u E e := rfl
theorem vIfS_d {c : VTT} {t u : VTS} {E : VE} : vIfS c t u E e = c E.ex e (kIfS t u E) := rfl
theorem vWhile_d {c : VTT} {t : VTS} {E : VE} : vWhile c t E e = (∃ n, vWhileN c t E n e) := rfl
/- walks -/
abbrev KI := List D → (En → Prop) → En → Prop
def kEnum (Q : KI) : KA := fun rs e1 => match rs with
  | [.sh (.lst ds)] => Q (enumD ds) okT e1
  | [.sh (.tup ds)] => Q (enumD ds) okT e1
  | [.bor i] => (match e1[i]? with
    | some (.par (.lst ds)) => Q (enumD ds) (okP i ds) e1
    | _ => False)
  | _ => False
theorem kEnum_l {Q : KI} {ds : List D} : kEnum Q [.sh (.lst ds)] e = Q (enumD ds) okT e := rfl
theorem kEnum_t {Q : KI} {ds : List D} : kEnum Q [.sh (.tup ds)] e = Q (enumD ds) okT e := rfl
def sEnum (s : Option Sl) (i : Nat) (Q : KI) (e : En) : Prop := match s with
  | some (.par (.lst ds)) => Q (enumD ds) (okP i ds) e
  | _ => False
theorem sEnum_d {Q : KI} {ds : List D} : sEnum (some (.par (.lst ds))) i Q e = Q (enumD ds) (okP i ds) e := rfl
theorem kEnum_b {Q : KI} : kEnum Q [.bor i] e = sEnum e[i]? i Q e := rfl
theorem viEnum_d {t : VTA} {Q : KI} : viEnum t x e Q = t x e (kEnum Q) := rfl
def kRng1 (Q : KI) : KA := fun rs e1 => match rs with
  | [.sh (.int j)] => sml j ∧ Q (rangeD 0 1 j.toNat) okT e1
  | _ => False
theorem kRng1_d {Q : KI} {n : Int} : kRng1 Q [.sh (.int n)] e = (sml n ∧ Q (rangeD 0 1 n.toNat) okT e) := rfl
theorem viRng1_d {t : VTA} {Q : KI} : viRng1 t x e Q = t x e (kRng1 Q) := rfl
def kRng2 (Q : KI) : KA := fun rs e1 => match rs with
  | [.sh (.int i), .sh (.int j)] => sml i ∧ sml j ∧ Q (rangeD i 1 (j - i).toNat) okT e1
  | _ => False
theorem kRng2_d {Q : KI} {m n : Int} : kRng2 Q [.sh (.int m), .sh (.int n)] e = (sml m ∧ sml n ∧ Q (rangeD m 1 (n - m).toNat) okT e) := rfl
theorem viRng2_d {t : VTA} {Q : KI} : viRng2 t x e Q = t x e (kRng2 Q) := rfl
def kRng3 (Q : KI) : KA := fun rs e1 => match rs with
  | [.sh (.int i), .sh (.int j), .sh (.int c)] => RgC i j c (Builtin.Range.rangeSize i j c).toNat ∧ Q (rangeD i c (Builtin.Range.rangeSize i j c).toNat) okT e1
  | _ => False
theorem kRng3_d {Q : KI} {m n c : Int} : kRng3 Q [.sh (.int m), .sh (.int n), .sh (.int c)] e = (RgC m n c (Builtin.Range.rangeSize m n c).toNat ∧ Q (rangeD m c (Builtin.Range.rangeSize m n c).toNat) okT e) := rfl
theorem viRng3_d {t : VTA} {Q : KI} : viRng3 t x e Q = t x e (kRng3 Q) := rfl
def kFor (g : VG) (t : VTS) (E : VE) : KI := fun ds ok e => vForL g t E ok ds e
theorem kFor_d {g : VG} {t : VTS} {E : VE} {ds : List D} {ok : En → Prop} : kFor g t E ds ok e = vForL g t E ok ds e := rfl
theorem vFor_d {ti : VI} {g : VG} {t : VTS} {E : VE} : vFor ti g t E e = ti E.ex e (kFor g t E) := rfl
def sLock (s : Option Sl) (i : Nat) (t : VTS) (E : VE) (e : En) : Prop := match s with
  | some (.own o) => t ⟨lk i E.nx, fun r => lk i (E.rt r), lk i E.bk, lk i E.ct, fun c => lk i (E.ex c)⟩ (e.set i (.par o))
  | some (.par _) => t E e
  | _ => False
theorem sLock_own {t : VTS} {E : VE} : sLock (some (.own o)) i t E e = t ⟨lk i E.nx, fun r => lk i (E.rt r), lk i E.bk, lk i E.ct, fun c => lk i (E.ex c)⟩ (e.set i (.par o)) := rfl
theorem sLock_par {t : VTS} {E : VE} : sLock (some (.par o)) i t E e = t E e := rfl
theorem vLock_d {t : VTS} {E : VE} : vLock i t E e = sLock e[i]? i t E e := rfl
theorem vLockD_d {i : Nat} {t : VTS} {E : VE} {e : En} : vLockD i t E e = (match e[i]? with
  | some (.own (.dic kvs)) => ∀ o ws, t ⟨lkD i o ws kvs E.nx, fun r => lkD i o ws kvs (E.rt r), lkD i o ws kvs E.bk, lkD i o ws kvs E.ct, fun _ _ => False⟩ (e.set i (.par (.fdic o ws kvs)))
  | _ => False) := rfl
theorem vYes_d {Q : KT} : vYes x e Q = Q true e := rfl
def kLc (g : VG) (c : VTT) (t : VTE) (vs : List Nat) (Q : KE) : KI := fun ds ok e => offS e vs ∧ vLcL g c t vs ok Q ds [] (wipeE e vs)
theorem kLc_d {g : VG} {c : VTT} {t : VTE} {vs : List Nat} {Q : KE} {ds : List D} {ok : En → Prop} : kLc g c t vs Q ds ok e = (offS e vs ∧ vLcL g c t vs ok Q ds [] (wipeE e vs)) := rfl
theorem vLc_d {ti : VI} {g : VG} {c : VTT} {t : VTE} {vs : List Nat} {Q : KE} : vLc ti g c t vs x e Q = ti x e (kLc g c t vs Q) := rfl
def kDc (g : VG) (c : VTT) (tk tv : VTE) (vs : List Nat) (Q : KE) : KI := fun ds ok e => offS e vs ∧ vDcL g c tk tv vs ok Q ds [] (wipeE e vs)
theorem kDc_d {g : VG} {c : VTT} {tk tv : VTE} {vs : List Nat} {Q : KE} {ds : List D} {ok : En → Prop} : kDc g c tk tv vs Q ds ok e = (offS e vs ∧ vDcL g c tk tv vs ok Q ds [] (wipeE e vs)) := rfl
theorem vDc_d {ti : VI} {g : VG} {c : VTT} {tk tv : VTE} {vs : List Nat} {Q : KE} : vDc ti g c tk tv vs x e Q = ti x e (kDc g c tk tv vs Q) := rfl
def sFrzB (s : Option Sl) (i : Nat) (Q : KE) (e : En) : Prop := match s with
  | some (.own (.dic kvs)) => Q (.sh (.dic kvs)) (e.set i (.sh (.dic kvs)))
  | some (.own o) => oB o.toD fun d => Q (.sh d) (e.set i (.sh d))
  | some (.par _) => Q (.bor i) e
  | _ => False
theorem sFrzB_dic {Q : KE} {kvs : List (Key × D)} : sFrzB (some (.own (.dic kvs))) i Q e = Q (.sh (.dic kvs)) (e.set i (.sh (.dic kvs))) := rfl
theorem sFrzB_lst {Q : KE} {xs : List D} : sFrzB (some (.own (.lst xs))) i Q e = Q (.sh (.lst xs)) (e.set i (.sh (.lst xs))) := rfl
theorem sFrzB_ins {Q : KE} {C : Addr} {fs : List (Str × D)} : sFrzB (some (.own (.ins C fs))) i Q e = Q (.sh (.ins C fs)) (e.set i (.sh (.ins C fs))) := rfl
theorem sFrzB_par {Q : KE} : sFrzB (some (.par o)) i Q e = Q (.bor i) e := rfl
def kFrz (Q : KE) : KE := fun r e1 => match r with
  | .sh d => Q (.sh d) e1
  | .own (.dic kvs) => Q (.sh (.dic kvs)) e1
  | .own o => oB o.toD fun d => Q (.sh d) e1
  | .bor i => sFrzB e1[i]? i Q e1
  | .fld q i f => Q (.fld q i f) e1
theorem kFrz_fld {Q : KE} {q : Addr} {f : Str} : kFrz Q (.fld q i f) e = Q (.fld q i f) e := rfl
theorem kFrz_sh {Q : KE} : kFrz Q (.sh d) e = Q (.sh d) e := rfl
theorem kFrz_dic {Q : KE} {kvs : List (Key × D)} : kFrz Q (.own (.dic kvs)) e = Q (.sh (.dic kvs)) e := rfl
theorem kFrz_lst {Q : KE} {xs : List D} : kFrz Q (.own (.lst xs)) e = Q (.sh (.lst xs)) e := rfl
theorem kFrz_ins {Q : KE} {C : Addr} {fs : List (Str × D)} : kFrz Q (.own (.ins C fs)) e = Q (.sh (.ins C fs)) e := rfl
theorem kFrz_bor {Q : KE} : kFrz Q (.bor i) e = sFrzB e[i]? i Q e := rfl
theorem vFrz_d {t : VTE} {Q : KE} : vFrz t x e Q = t x e (kFrz Q) := by
  unfold vFrz
  congr 1
def kVals (Q : KI) : KE := fun r e => match r with
  | .sh (.dic kvs) => Q (kvs.map fun kv => kv.2) okT e
  | _ => False
theorem kVals_d {Q : KI} {kvs : List (Key × D)} : kVals Q (.sh (.dic kvs)) e = Q (kvs.map fun kv => kv.2) okT e := rfl
theorem viVals_d {t : VTE} {Q : KI} : viVals t x e Q = t x e (kVals Q) := rfl
def kItems (Q : KI) : KE := fun r e => match r with
  | .sh (.dic kvs) => Q (kvs.map fun kv => .tup [kD kv.1, kv.2]) okT e
  | _ => False
theorem kItems_d {Q : KI} {kvs : List (Key × D)} : kItems Q (.sh (.dic kvs)) e = Q (kvs.map fun kv => .tup [kD kv.1, kv.2]) okT e := rfl
theorem viItems_d {t : VTE} {Q : KI} : viItems t x e Q = t x e (kItems Q) := rfl
/- methods of lists -/
def kLm3 (i : Nat) (Q : KE) (e : En) : D → List D → Prop := fun d ys => Q (.sh d) (setO e i (.lst ys))
theorem kLm3_d {Q : KE} {ys : List D} : kLm3 i Q e d ys = Q (.sh d) (setO e i (.lst ys)) := rfl
def kLm2 (o : MOp) (xs : List D) (i : Nat) (Q : KE) (e : En) : List D → Prop := fun ds => o xs ds (kLm3 i Q e)
theorem kLm2_d {o : MOp} {xs : List D} {Q : KE} {ds : List D} : kLm2 o xs i Q e ds = o xs ds (kLm3 i Q e) := rfl
def sLm2 (s : Option O) (c : Option (List D)) (o : MOp) (i : Nat) (Q : KE) (e : En) : Prop := match s with
  | some (.lst xs) => oB c (kLm2 o xs i Q e)
  | _ => False
theorem sLm2_d {c : Option (List D)} {xs : List D} {o : MOp} {Q : KE} : sLm2 (some (.lst xs)) c o i Q e = oB c (kLm2 o xs i Q e) := rfl
def kLm1 (o : MOp) (i : Nat) (Q : KE) : KA := fun rs e => sLm2 (ownO e i) (shs rs) o i Q e
theorem kLm1_d {o : MOp} {Q : KE} {rs : List Re} : kLm1 o i Q rs e = sLm2 (ownO e i) (shs rs) o i Q e := rfl
def sLm (s : Option O) (o : MOp) (u : VTA) (i : Nat) (x : VX) (Q : KE) (e : En) : Prop := match s with
  | some (.lst _) => u x e (kLm1 o i Q)
  | _ => False
theorem sLm_d {xs : List D} {o : MOp} {u : VTA} {Q : KE} : sLm (some (.lst xs)) o u i x Q e = u x e (kLm1 o i Q) := rfl
def kLm (o : MOp) (u : VTA) (x : VX) (Q : KE) : KE := fun r e => match r with
  | .bor i => sLm (ownO e i) o u i x Q e
  | _ => False
theorem kLm_d {o : MOp} {u : VTA} {Q : KE} : kLm o u x Q (.bor i) e = sLm (ownO e i) o u i x Q e := rfl
theorem vLm_d {o : MOp} {t : VTE} {u : VTA} {Q : KE} : vLm o t u x e Q = t x e (kLm o u x Q) := rfl
def kLx1 (o : MOp) (i : Nat) (Q : KE) : KA := fun rs e => sLm2 (ownO e i) (conts e rs) o i Q e
theorem kLx1_d {o : MOp} {Q : KE} {rs : List Re} : kLx1 o i Q rs e = sLm2 (ownO e i) (conts e rs) o i Q e := rfl
def sLx (s : Option O) (o : MOp) (u : VTA) (i : Nat) (x : VX) (Q : KE) (e : En) : Prop := match s with
  | some (.lst _) => u x e (kLx1 o i Q)
  | _ => False
theorem sLx_d {xs : List D} {o : MOp} {u : VTA} {Q : KE} : sLx (some (.lst xs)) o u i x Q e = u x e (kLx1 o i Q) := rfl
def kLx (o : MOp) (u : VTA) (x : VX) (Q : KE) : KE := fun r e => match r with
  | .bor i => sLx (ownO e i) o u i x Q e
  | _ => False
theorem kLx_d {o : MOp} {u : VTA} {Q : KE} : kLx o u x Q (.bor i) e = sLx (ownO e i) o u i x Q e := rfl
theorem vLx_d {o : MOp} {t : VTE} {u : VTA} {Q : KE} : vLx o t u x e Q = t x e (kLx o u x Q) := rfl
def sL0 (s : Option O) (o : MOp) (i : Nat) (Q : KE) (e : En) : Prop := match s with
  | some (.lst xs) => o xs [] (kLm3 i Q e)
  | _ => False
theorem sL0_d {xs : List D} {o : MOp} {Q : KE} : sL0 (some (.lst xs)) o i Q e = o xs [] (kLm3 i Q e) := rfl
def kL0 (o : MOp) (Q : KE) : KE := fun r e => match r with
  | .bor i => sL0 (ownO e i) o i Q e
  | _ => False
theorem kL0_d {o : MOp} {Q : KE} : kL0 o Q (.bor i) e = sL0 (ownO e i) o i Q e := rfl
theorem vL0_d {o : MOp} {t : VTE} {Q : KE} : vL0 o t x e Q = t x e (kL0 o Q) := rfl
def kPop (xs : List D) (P : D → List D → Prop) : D → Prop := fun d => P d xs.dropLast
theorem kPop_d {xs : List D} {P : D → List D → Prop} : kPop xs P d = P d xs.dropLast := rfl
theorem oPop0_d {xs : List D} {P : D → List D → Prop} : oPop0 xs [] P = oB xs.getLast? (kPop xs P) := by
  unfold oPop0
  simp only [true_and]
  rfl
/- dicts -/
def sSd4 (s : Option D) (z : D) (kvs : List (Key × D)) (key : Key) (i : Nat) (Q : KE) (e : En) : Prop := match s with
  | some d => Q (.sh d) e
  | none => Q (.sh z) (setO e i (.dic (kvs ++ [(key, z)])))
theorem sSd4_s {z : D} {kvs : List (Key × D)} {key : Key} {Q : KE} : sSd4 (some d) z kvs key i Q e = Q (.sh d) e := rfl
theorem sSd4_n {z : D} {kvs : List (Key × D)} {key : Key} {Q : KE} : sSd4 none z kvs key i Q e = Q (.sh z) (setO e i (.dic (kvs ++ [(key, z)]))) := rfl
def sSd3 (r3 : Re) (kvs : List (Key × D)) (key : Key) (i : Nat) (Q : KE) (e : En) : Prop := match r3 with
  | .sh z => kvs.length < sizeLine ∧ sSd4 (dget kvs key) z kvs key i Q e
  | _ => False
theorem sSd3_d {kvs : List (Key × D)} {key : Key} {Q : KE} : sSd3 (.sh d) kvs key i Q e = (kvs.length < sizeLine ∧ sSd4 (dget kvs key) d kvs key i Q e) := rfl
def kSd4 (r3 : Re) (kvs : List (Key × D)) (i : Nat) (Q : KE) (e : En) : Key → Prop := fun key => sSd3 (fz r3) kvs key i Q e
theorem kSd4_d {kvs : List (Key × D)} {key : Key} {Q : KE} : kSd4 r kvs i Q e key = sSd3 (fz r) kvs key i Q e := rfl
def kSd3 (r3 : Re) (kvs : List (Key × D)) (i : Nat) (Q : KE) (e : En) : D → Prop := fun kd => oB (keyD kd) (kSd4 r3 kvs i Q e)
theorem kSd3_d {kvs : List (Key × D)} {Q : KE} : kSd3 r kvs i Q e d = oB (keyD d) (kSd4 r kvs i Q e) := rfl
def sSd2 (s : Option O) (r2 r3 : Re) (i : Nat) (Q : KE) (e : En) : Prop := match s with
  | some (.dic kvs) => oB (cont e (fz r2)) (kSd3 r3 kvs i Q e)
  | _ => False
theorem sSd2_d {kvs : List (Key × D)} {Q : KE} : sSd2 (some (.dic kvs)) r1 r2 i Q e = oB (cont e (fz r1)) (kSd3 r2 kvs i Q e) := rfl
def kSd2 (r2 : Re) (i : Nat) (Q : KE) : KE := fun r3 e => sSd2 (ownO e i) r2 r3 i Q e
theorem kSd2_d {Q : KE} : kSd2 r1 i Q r2 e = sSd2 (ownO e i) r1 r2 i Q e := rfl
def kSd1 (w : VTE) (x : VX) (i : Nat) (Q : KE) : KE := fun r2 e => w x e (kSd2 r2 i Q)
theorem kSd1_d {w : VTE} {Q : KE} : kSd1 w x i Q r e = w x e (kSd2 r i Q) := rfl
def sSd (s : Option O) (u w : VTE) (i : Nat) (x : VX) (Q : KE) (e : En) : Prop := match s with
  | some (.dic _) => u x e (kSd1 w x i Q)
  | _ => False
theorem sSd_d {kvs : List (Key × D)} {u w : VTE} {Q : KE} : sSd (some (.dic kvs)) u w i x Q e = u x e (kSd1 w x i Q) := rfl
def kSd (u w : VTE) (x : VX) (Q : KE) : KE := fun r e => match r with
  | .bor i => sSd (ownO e i) u w i x Q e
  | _ => False
theorem kSd_d {u w : VTE} {Q : KE} : kSd u w x Q (.bor i) e = sSd (ownO e i) u w i x Q e := rfl
theorem vSetd_d {t u w : VTE} {Q : KE} : vSetd t u w x e Q = t x e (kSd u w x Q) := rfl
def kG4 (kvs : List (Key × D)) (z : D) (Q : KE) (e : En) : Key → Prop := fun key => Q (.sh ((dget kvs key).getD z)) e
theorem kG4_d {kvs : List (Key × D)} {z : D} {Q : KE} {key : Key} : kG4 kvs z Q e key = Q (.sh ((dget kvs key).getD z)) e := rfl
def kG3 (kvs : List (Key × D)) (z : D) (Q : KE) (e : En) : D → Prop := fun kd => oB (keyD kd) (kG4 kvs z Q e)
theorem kG3_d {kvs : List (Key × D)} {z : D} {Q : KE} : kG3 kvs z Q e d = oB (keyD d) (kG4 kvs z Q e) := rfl
def sG1 (s : Option D) (r2 : Re) (Q : KE) (e : En) : Prop := match s with
  | some (.dic kvs) => oB (cont e (fz r2)) (kG3 kvs .non Q e)
  | _ => False
theorem sG1_d {kvs : List (Key × D)} {Q : KE} : sG1 (some (.dic kvs)) r Q e = oB (cont e (fz r)) (kG3 kvs .non Q e) := rfl
def kG1 (r : Re) (Q : KE) : KE := fun r2 e => sG1 (cont e (fz r)) r2 Q e
theorem kG1_d {Q : KE} : kG1 r1 Q r2 e = sG1 (cont e (fz r1)) r2 Q e := rfl
def sG0 (s : Option D) (r : Re) (u : VTE) (x : VX) (Q : KE) (e : En) : Prop := match s with
  | some (.dic _) => u x e (kG1 r Q)
  | _ => False
theorem sG0_d {kvs : List (Key × D)} {u : VTE} {Q : KE} : sG0 (some (.dic kvs)) r u x Q e = u x e (kG1 r Q) := rfl
def kG0 (u : VTE) (x : VX) (Q : KE) : KE := fun r e => sG0 (cont e (fz r)) r u x Q e
theorem kG0_d {u : VTE} {Q : KE} : kG0 u x Q r e = sG0 (cont e (fz r)) r u x Q e := rfl
theorem vGet1_d {t u : VTE} {Q : KE} : vGet1 t u x e Q = t x e (kG0 u x Q) := rfl
def kH5 (r3 : Re) (kvs : List (Key × D)) (Q : KE) (e : En) : Key → Prop := fun key => match fz r3 with
  | .sh z => Q (.sh ((dget kvs key).getD z)) e
  | _ => False
theorem kH5_d {kvs : List (Key × D)} {z : D} {Q : KE} {key : Key} : kH5 (.sh z) kvs Q e key = Q (.sh ((dget kvs key).getD z)) e := rfl
def kH4 (r3 : Re) (kvs : List (Key × D)) (Q : KE) (e : En) : D → Prop := fun kd => oB (keyD kd) (kH5 r3 kvs Q e)
theorem kH4_d {kvs : List (Key × D)} {Q : KE} : kH4 r kvs Q e d = oB (keyD d) (kH5 r kvs Q e) := rfl
def sH3 (s : Option D) (r2 r3 : Re) (Q : KE) (e : En) : Prop := match s with
  | some (.dic kvs) => oB (cont e (fz r2)) (kH4 r3 kvs Q e)
  | _ => False
theorem sH3_d {kvs : List (Key × D)} {Q : KE} : sH3 (some (.dic kvs)) r1 r2 Q e = oB (cont e (fz r1)) (kH4 r2 kvs Q e) := rfl
def kH3 (r r2 : Re) (Q : KE) : KE := fun r3 e => sH3 (cont e (fz r)) r2 r3 Q e
theorem kH3_d {Q : KE} {r3 : Re} : kH3 r1 r2 Q r3 e = sH3 (cont e (fz r1)) r2 r3 Q e := rfl
def kH2 (r : Re) (w : VTE) (x : VX) (Q : KE) : KE := fun r2 e => w x e (kH3 r r2 Q)
theorem kH2_d {w : VTE} {Q : KE} : kH2 r1 w x Q r2 e = w x e (kH3 r1 r2 Q) := rfl
def sH1 (s : Option D) (r : Re) (u w : VTE) (x : VX) (Q : KE) (e : En) : Prop := match s with
  | some (.dic _) => u x e (kH2 r w x Q)
  | _ => False
theorem sH1_d {kvs : List (Key × D)} {u w : VTE} {Q : KE} : sH1 (some (.dic kvs)) r u w x Q e = u x e (kH2 r w x Q) := rfl
def kH1 (u w : VTE) (x : VX) (Q : KE) : KE := fun r e => sH1 (cont e (fz r)) r u w x Q e
theorem kH1_d {u w : VTE} {Q : KE} : kH1 u w x Q r e = sH1 (cont e (fz r)) r u w x Q e := rfl
theorem vGet2_d {t u w : VTE} {Q : KE} : vGet2 t u w x e Q = t x e (kH1 u w x Q) := rfl
def sDcl (s : Option O) (i : Nat) (Q : KE) (e : En) : Prop := match s with
  | some (.dic _) => Q (.sh .non) (setO e i (.dic []))
  | _ => False
theorem sDcl_d {kvs : List (Key × D)} {Q : KE} : sDcl (some (.dic kvs)) i Q e = Q (.sh .non) (setO e i (.dic [])) := rfl
def kDcl (Q : KE) : KE := fun r e => match r with
  | .bor i => sDcl (ownO e i) i Q e
  | _ => False
theorem kDcl_d {Q : KE} : kDcl Q (.bor i) e = sDcl (ownO e i) i Q e := rfl
theorem vDClear_d {t : VTE} {Q : KE} : vDClear t x e Q = t x e (kDcl Q) := rfl
/- stores into fields -/
def sFS2 (s : Option O) (Cs : List Addr) (d : D) (f : Str) (i : Nat) (E : VE) (e : En) : Prop := match s with
  | some (.ins C fs) => C ∈ Cs ∧ fs.length < 1000 ∧ E.nx (setO e i (.ins C (fput f d fs)))
  | _ => False
theorem sFS2_d {Cs : List Addr} {C : Addr} {fs : List (Str × D)} {f : Str} {E : VE} : sFS2 (some (.ins C fs)) Cs d f i E e = (C ∈ Cs ∧ fs.length < 1000 ∧ E.nx (setO e i (.ins C (fput f d fs)))) := rfl
def kFS2 (Cs : List Addr) (d : D) (f : Str) (E : VE) : KE := fun r e => match r with
  | .bor i => sFS2 (ownO e i) Cs d f i E e
  | _ => False
theorem kFS2_d {Cs : List Addr} {f : Str} {E : VE} : kFS2 Cs d f E (.bor i) e = sFS2 (ownO e i) Cs d f i E e := rfl
def sFS (r : Re) (Cs : List Addr) (t : VTE) (f : Str) (E : VE) (e : En) : Prop := match r with
  | .sh d => t E.ex e (kFS2 Cs d f E)
  | _ => False
theorem sFS_d {Cs : List Addr} {t : VTE} {f : Str} {E : VE} : sFS (.sh d) Cs t f E e = t E.ex e (kFS2 Cs d f E) := rfl
def kFS (Cs : List Addr) (t : VTE) (f : Str) (E : VE) : KE := fun r e => sFS (fz r) Cs t f E e
theorem kFS_d {Cs : List Addr} {t : VTE} {f : Str} {E : VE} : kFS Cs t f E r e = sFS (fz r) Cs t f E e := rfl
theorem vFSet_d {Cs : List Addr} {t u : VTE} {f : Str} {E : VE} : vFSet Cs t u f E e = u E.ex e (kFS Cs t f E) := by
  unfold vFSet
  congr 1
def kNeg2 (Q : KE) (e : En) : D → Prop := fun d => match d with
  | .int i => Q (.sh (.int (-i))) e
  | _ => False
theorem kNeg2_d {Q : KE} {n : Int} : kNeg2 Q e (.int n) = Q (.sh (.int (-n))) e := rfl
def kNeg (Q : KE) : KE := fun r e => oB (cont e (fz r)) (kNeg2 Q e)
theorem kNeg_d {Q : KE} : kNeg Q r e = oB (cont e (fz r)) (kNeg2 Q e) := rfl
theorem vNeg_d {t : VTE} {Q : KE} : vNeg t x e Q = t x e (kNeg Q) := rfl
def sAnyB (s : Option Sl) (i : Nat) (Q : KI) (e : En) : Prop := match s with
  | some (.par (.lst ds)) => Q ds (okP i ds) e
  | some (.par (.fdic o ws kvs)) => Q (kvs.map fun kv => kD kv.1) (okD i o ws kvs) e
  | _ => False
theorem sAnyB_l {Q : KI} {ds : List D} : sAnyB (some (.par (.lst ds))) i Q e = Q ds (okP i ds) e := rfl
theorem sAnyB_d {Q : KI} {o : Obj} {ws : List (Key × V)} {kvs : List (Key × D)} : sAnyB (some (.par (.fdic o ws kvs))) i Q e = Q (kvs.map fun kv => kD kv.1) (okD i o ws kvs) e := rfl
def sAny (r : Re) (Q : KI) (e : En) : Prop := match r with
  | .sh (.lst ds) => Q ds okT e
  | .sh (.tup ds) => Q ds okT e
  | .sh (.str z) => Q (signsD z) okT e
  | .sh (.scr ns) => Q (ns.map D.int) okT e
  | .sh (.dic kvs) => Q (kvs.map fun kv => kD kv.1) okT e
  | .bor i => sAnyB e[i]? i Q e
  | _ => False
theorem sAny_lst {Q : KI} {ds : List D} : sAny (.sh (.lst ds)) Q e = Q ds okT e := rfl
theorem sAny_tup {Q : KI} {ds : List D} : sAny (.sh (.tup ds)) Q e = Q ds okT e := rfl
theorem sAny_str {Q : KI} {z : Str} : sAny (.sh (.str z)) Q e = Q (signsD z) okT e := rfl
theorem sAny_scr {Q : KI} {ns : List Int} : sAny (.sh (.scr ns)) Q e = Q (ns.map D.int) okT e := rfl
theorem sAny_dic {Q : KI} {kvs : List (Key × D)} : sAny (.sh (.dic kvs)) Q e = Q (kvs.map fun kv => kD kv.1) okT e := rfl
theorem sAny_bor {Q : KI} : sAny (.bor i) Q e = sAnyB e[i]? i Q e := rfl
def kAny (Q : KI) : KE := fun r e => sAny (fz r) Q e
theorem kAny_d {Q : KI} : kAny Q r e = sAny (fz r) Q e := rfl
theorem viAny_d {t : VTE} {Q : KI} : viAny t x e Q = t x e (kAny Q) := by
  unfold viAny
  congr 1
theorem vPot_d {i j : Nat} {t : VTE} {x : VX} {e : En} {Q : Re → En → Prop} : vPot i j t x e Q = (match e[i]?, e[j]? with
  | some (.own _), some (.own _) => t x e fun r e1 => (match e1[i]?, e1[j]? with
    | some (.own (.lst gs)), some (.own (.lst ss)) => i ≠ j ∧ oB (intsD gs) fun gs => oB (intsD ss) fun ss => (match r with
      | .sh (.int u) => potB gs ss u ∧ Q (.own (.pot 0)) ((e1.set i .un).set j .un)
      | _ => False)
    | _, _ => False)
  | _, _ => False) := rfl
theorem vgNo_d {Q : KG} : vgNo d x e Q = False := rfl
/- calls -/
def CC (c : VSp) (as : List Sl) (P : Re → List Sl → Prop) (PX : XC → List Sl → Prop) : Prop := c as P PX
def kRtn (Q : KE) (rs : List Re) (e : En) : Re → List Sl → Prop := fun r as' => okBack rs as' ∧ Q r (backA e rs as')
theorem kRtn_d {Q : KE} {rs : List Re} {as' : List Sl} : kRtn Q rs e r as' = (okBack rs as' ∧ Q r (backA e rs as')) := rfl
def kExc (x : VX) (rs : List Re) (e : En) : XC → List Sl → Prop := fun xc as' => okBack rs as' ∧ x xc (backA e rs as')
theorem kExc_d {xc : XC} {rs : List Re} {as' : List Sl} : kExc x rs e xc as' = (okBack rs as' ∧ x xc (backA e rs as')) := rfl
def kCall2 (c : VSp) (x : VX) (Q : KE) (rs : List Re) (e : En) : List Sl → Prop := fun as => (bors rs).Nodup ∧ CC c as (kRtn Q rs e) (kExc x rs e)
theorem kCall2_d {c : VSp} {Q : KE} {rs : List Re} {as : List Sl} : kCall2 c x Q rs e as = ((bors rs).Nodup ∧ CC c as (kRtn Q rs e) (kExc x rs e)) := rfl
def kCall (c : VSp) (x : VX) (Q : KE) : KA := fun rs e => oB (argsS e rs) (kCall2 c x Q rs e)
theorem kCall_d {c : VSp} {Q : KE} {rs : List Re} : kCall c x Q rs e = oB (argsS e rs) (kCall2 c x Q rs e) := rfl
theorem vCall_d {c : VSp} {t : VTA} {Q : KE} : vCall c t x e Q = t x e (kCall c x Q) := rfl
def kMade (Q : KE) (rs : List Re) (e : En) : Re → List Sl → Prop := fun r as' => r = .sh .non ∧ match as' with
  | .par o :: as' => okBack rs as' ∧ Q (.own o) (backA e rs as')
  | _ => False
theorem kMade_d {Q : KE} {rs : List Re} {as' : List Sl} : kMade Q rs e (.sh .non) (.par o :: as') = (okBack rs as' ∧ Q (.own o) (backA e rs as')) := by
  unfold kMade
  simp
def kMadeX (x : VX) (rs : List Re) (e : En) : XC → List Sl → Prop := fun xc as' => match as' with
  | .par _ :: as' => okBack rs as' ∧ x xc (backA e rs as')
  | _ => False
theorem kMadeX_d {xc : XC} {rs : List Re} {as' : List Sl} : kMadeX x rs e xc (.par o :: as') = (okBack rs as' ∧ x xc (backA e rs as')) := rfl
def kMake2 (C : Addr) (c : VSp) (x : VX) (Q : KE) (rs : List Re) (e : En) : List Sl → Prop := fun as => (bors rs).Nodup ∧ CC c (.par (.ins C []) :: as) (kMade Q rs e) (kMadeX x rs e)
theorem kMake2_d {C : Addr} {c : VSp} {Q : KE} {rs : List Re} {as : List Sl} : kMake2 C c x Q rs e as = ((bors rs).Nodup ∧ CC c (.par (.ins C []) :: as) (kMade Q rs e) (kMadeX x rs e)) := rfl
def kMake (C : Addr) (c : VSp) (x : VX) (Q : KE) : KA := fun rs e => oB (argsS e rs) (kMake2 C c x Q rs e)
theorem kMake_d {C : Addr} {c : VSp} {Q : KE} {rs : List Re} : kMake C c x Q rs e = oB (argsS e rs) (kMake2 C c x Q rs e) := rfl
theorem vMake_d {C : Addr} {c : VSp} {t : VTA} {Q : KE} : vMake C c t x e Q = t x e (kMake C c x Q) := rfl
theorem endsV_nx {as : List Sl} {P : Re → List Sl → Prop} {PX : XC → List Sl → Prop} : (endsV as P PX).nx e = P (.sh .non) (retA as e) := rfl
end
/-! blocks -/
def offs : Option Sl → Prop
  | some (.sh _) => True
  | some .un => True
  | none => True
  | _ => False
theorem offS_nil {e : En} : offS e [] = True := rfl
theorem offS_cons {e : En} {v : Nat} {vs : List Nat} : offS e (v :: vs) = (offs e[v]? ∧ offS e vs) := by
  show ((match e[v]? with
    | some (.sh _) => True
    | some .un => True
    | none => True
    | _ => False) ∧ offS e vs) = _
  congr 1
theorem offs_sh {d : D} : offs (some (.sh d)) = True := rfl
theorem offs_un : offs (some .un) = True := rfl
theorem wipeE_nil {e : En} : wipeE e [] = e := rfl
theorem wipeE_cons {e : En} {v : Nat} {vs : List Nat} : wipeE e (v :: vs) = (wipeE e vs).set v .un := rfl
theorem vYes_d' {x : VX} {e : En} {Q : Bool → En → Prop} : vYes x e Q = Q true e := rfl
/-- a def's plain law -/
abbrev LawT (n : Nat) (c : VSp) (N : List Str) (T : VTS) : Prop := ∀ (as : List Sl) (P : Re → List Sl → Prop) (PX : XC → List Sl → Prop), as.length = n → c as P PX → T (endsV as P PX) (startE N.length as)
end VL

end

section
set_option Elab.async false
set_option linter.all false
set_option maxRecDepth 100000
set_option maxHeartbeats 4000000
namespace VL
open PySem PySem.Spec PyProof.Rows L2
/-! ### == and != by an own __eq__ -/
section
open PySem.W
variable {prog : Program} {w : World} {A A₀ : Around} {E : Value → Shared → Prop} {s : Shared} {K : Frag} {x C L f : Addr} {h₀ : Heap} {m : Str → Option Value} {ox : Obj} {od : Option Obj} {name : Str} {b tb : Value}
theorem ifBound_KB {M : Model} {args : List Value} {id : String} {Q : Option Value → Shared → Prop} (X : K.In s.heap) (I : InstAt s.heap x ox C od) (hs : findIn K (.ref C) name = some (some (.builtin id)))
    (hw : bindSpecial (.builtin id) (.ref x) = pure (.builtin id, [.ref x]))
    (h : wpAny M A (call (.builtin id) (.ref x :: args)) (fun v => Q (some v)) E s) : wpAny M A (callSpecialIfBound? (.ref x) name args) Q E s := by
  simp only [callSpecialIfBound?, bindSpecialIfBound?]
  refine wpAny_holding (wpAny_bind (wpAny_bind (wpAny_bind (I.type.here ((looks_findIn X hs).here ?_)))))
  simp only [hw]
  refine wpAny_bind (wpAny_askSetting (wpAny_ite ?_))
  have fin : wpAny M A (call (.builtin id) ([.ref x] ++ args) >>= fun v => pure (some v)) Q E s :=
    wpAny_bind (wpAny_mono h (fun v s' h' => wpAny_pure h') fun _ _ h' => h')
  split
  · exact wpAny_bind (wpAny_pure (wpAny_pure fin))
  · exact wpAny_tryCatch (wpAny_bind (wpAny_pure (wpAny_pure fin)))
theorem looks_instI {M : Model} {h : Heap} {base : Value} {r : Bool} (X : K.In h) (I : InstAt h x ox C od) (hm : mroIn K C base = some r) : Looks M h (isInstance (.ref x) base) r :=
  I.type.andThen (looks_mroIn X hm)
theorem call_ne_K {Q : Value → Shared → Prop} (X : K.In s.heap) (I : InstAt s.heap x ox C od) (hm : mroIn K C (.type "object") = some true) (hu : A.units + 1 < cLine)
    (hs : findIn K (.ref C) "__eq__" = some (some (.ref f))) (hf : isFn K (.ref f) = true)
    (h : wpAny (model prog w) A.in1 (call (.ref f) [.ref x, b]) (fun v s' => ∃ r, v = .bool r ∧ Q (.bool (!r)) s') E s) : wpAny (model prog w) A (call (.builtin "object.__ne__") [.ref x, b]) Q E s := by
  refine wpAny_call (codeAny_call_builtin F.cmp_object.ne.plain F.cmpEntry_ne ?_)
  simp only [checkBuiltinCall, F.cmpKind_ne, F.cmpSplit_ne]
  refine wpAny_bind ((looks_instI X I hm).here ?_)
  have h2 := F.cmpArgs_ne (.ref x) b
  unfold argsOk at h2
  have entry : wpAny (model prog w) A.in1 (Builtin.«object.__ne__» ⟨[.ref x, b], []⟩) (fun fin s' => match fin with
      | .done (.ret v) => Q v s'
      | _ => False) E s := by
    unfold Builtin.«object.__ne__»
    refine wpAny_bind (wpAny_pure ?_)
    refine wpAny_bind (wpAny_cRoomFor hu ?_)
    refine wpAny_bind (m := callSpecialIfBound? (.ref x) (Str.ofString "__eq__") [b]) (ifBound_K X I hs hf (wpAny_mono h (fun v s' hv => ?_) fun _ _ e => e))
    obtain ⟨r, rfl, hq⟩ := hv
    exact wpAny_bind (wpAny_truthy_bool (wpAny_pure hq))
  rw [if_neg (by simp)]
  cases hsig : Manifest.signature? "object.__ne__" with
  | none =>
    refine wpAny_pure (wpAny_mono entry (fun fin s' hq => ?_) fun _ _ e => e)
    cases fin with
    | done fl => cases fl <;> first | exact hq | exact hq.elim
    | again c => exact hq.elim
  | some sig =>
    simp only [hsig] at h2
    show wpAny _ _ (Bind.checkArgs "object.__ne__" sig ⟨[.ref x, b], []⟩) _ _ _
    rw [h2]
    refine wpAny_pure (wpAny_mono entry (fun fin s' hq => ?_) fun _ _ e => e)
    cases fin with
    | done fl => cases fl <;> first | exact hq | exact hq.elim
    | again c => exact hq.elim
/-- a special method that both classes have; the right one's may come first -/
theorem cmp_any {op : CmpOp} {Q : Value → Shared → Prop} {y C' : Addr} {oy : Obj} {od' : Option Obj} {b : Bool} (hu : A.units < cLine) (X : K.In s.heap) (I : InstAt s.heap x ox C od) (I' : InstAt s.heap y oy C' od') (hsub : subIn K (.ref C') (.ref C) = some b)
    (h1 : wpAny (model prog w) A (tryCompare (.ref x) (cmpInfo op).2.1 (.ref y)) (fun r s' => ∃ v, r = some v ∧ Q v s') E s)
    (h2 : wpAny (model prog w) A (tryCompare (.ref y) (cmpInfo op).2.2 (.ref x)) (fun r s' => ∃ v, r = some v ∧ Q v s') E s) : wpAny (model prog w) A (richCompare op (.ref x) (.ref y)) Q E s := by
  unfold richCompare
  simp only [oneThing_ref]
  refine wpAny_holding (wpAny_bind (wpAny_cRoomFor hu ?_))
  refine wpAny_bind (I.type.here (wpAny_bind (I'.type.here ?_)))
  split
  · refine wpAny_bind ((looks_subIn X hsub).here ?_)
    cases b with
    | true =>
      simp only [if_true]
      refine wpAny_bind (wpAny_mono h2 (fun r s' z => ?_) fun _ _ e => e)
      obtain ⟨v, rfl, hq⟩ := z
      repeat (first | exact wpAny_pure hq | wp_step)
    | false =>
      simp only [Bool.false_eq_true, if_false]
      refine wpAny_bind (wpAny_mono h1 (fun r s' z => ?_) fun _ _ e => e)
      obtain ⟨v, rfl, hq⟩ := z
      exact wpAny_pure hq
  · refine wpAny_bind (wpAny_pure ?_)
    simp only [Bool.false_eq_true, if_false]
    refine wpAny_bind (wpAny_mono h1 (fun r s' z => ?_) fun _ _ e => e)
    obtain ⟨v, rfl, hq⟩ := z
    exact wpAny_pure hq
theorem try_eq {Q : Option Value → Shared → Prop} (X : K.In s.heap) (I : InstAt s.heap x ox C od) (hs : findIn K (.ref C) "__eq__" = some (some (.ref f))) (hf : isFn K (.ref f) = true)
    (h : wpAny (model prog w) A (call (.ref f) [.ref x, b]) (fun v s' => ∃ r, v = .bool r ∧ Q (some (.bool r)) s') E s) : wpAny (model prog w) A (tryCompare (.ref x) "__eq__" b) Q E s := by
  unfold tryCompare
  refine wpAny_bind (ifBound_K X I hs hf (wpAny_mono h (fun v s' hv => ?_) fun _ _ e => e))
  obtain ⟨r, rfl, hq⟩ := hv
  exact wpAny_pure hq
theorem try_ne {Q : Option Value → Shared → Prop} (X : K.In s.heap) (I : InstAt s.heap x ox C od) (hm : mroIn K C (.type "object") = some true) (hu : A.units + 1 < cLine)
    (hn : findIn K (.ref C) "__ne__" = some (some (.builtin "object.__ne__"))) (hs : findIn K (.ref C) "__eq__" = some (some (.ref f))) (hf : isFn K (.ref f) = true)
    (h : wpAny (model prog w) A.in1 (call (.ref f) [.ref x, b]) (fun v s' => ∃ r, v = .bool r ∧ Q (some (.bool (!r))) s') E s) : wpAny (model prog w) A (tryCompare (.ref x) "__ne__" b) Q E s := by
  unfold tryCompare
  refine wpAny_bind (ifBound_KB X I hn (F.cmp_object.ne.bind _) (call_ne_K X I hm hu hs hf (wpAny_mono h (fun v s' hv => ?_) fun _ _ e => e)))
  obtain ⟨r, rfl, hq⟩ := hv
  exact ⟨r, rfl, wpAny_pure hq⟩
end

section
open PySem.W
/-- the class C's own __eq__ does c -/
structure EqK (P : Program) (w : World) (K : PySem.W.Frag) (mg : Str → Option Value) (base : Heap) (k : Nat) (c : VSp) (C : Addr) : Prop where
  fn : ∃ (f : Addr) (fd : FuncData) (ps : List Str), ps.length = 2 ∧ FnOk P w K mg base (L2.CX P w) k f fd ps (spV K 2 c) ∧ Binds K fd ps [] ∧ findIn K (.ref C) "__eq__" = some (some (.ref f)) ∧ isFn K (.ref f) = true
  ne : findIn K (.ref C) "__ne__" = some (some (.builtin "object.__ne__"))
  ob : mroIn K C (.type "object") = some true
/-- all classes of a list; which is below which is known -/
structure EqG (P : Program) (w : World) (K : PySem.W.Frag) (mg : Str → Option Value) (base : Heap) (k : Nat) (c : VSp) (Cs : List Addr) : Prop where
  fn : ∀ C ∈ Cs, EqK P w K mg base k c C
  sub : ∀ C ∈ Cs, ∀ C' ∈ Cs, ∃ b, subIn K (.ref C') (.ref C) = some b
  len : ∀ as P PX, c as P PX → as.length = 2
def rEqOwn (K : PySem.W.Frag) (neg : Bool) (c : VSp) (Cs : List Addr) : R2 := fun x y H Q => ∃ a b C C' dx dy fs gs, x = .ref a ∧ y = .ref b ∧ H a = some (.ins C dx fs) ∧ H b = some (.ins C' dy gs) ∧ C ∈ Cs ∧ C' ∈ Cs ∧
  spV K 2 c [x, y] H (fun v H' => ∃ r, v = .bl r ∧ Q (.bl (if neg then !r else r)) H') (fun _ _ _ => False) ∧ spV K 2 c [y, x] H (fun v H' => ∃ r, v = .bl r ∧ Q (.bl (if neg then !r else r)) H') (fun _ _ _ => False)
theorem run_eq {X : Cx} {k : Nat} {c : VSp} {f : Addr} {fd : FuncData} {ps : List Str} (hl : ps.length = 2) (F : FnOk X.prog X.w X.K X.mg X.base (L2.CX X.prog X.w) k f fd ps (spV X.K 2 c)) (hb : Binds X.K fd ps [])
    {A : Around} {pins : List (Addr × Obj)} {s : Shared} {σ : L2.St} {H : Hp} {a b : Addr} {Q : Bool → Hp → Prop} (sb : L2.Sub X k A) (I : Inv X pins σ H s)
    (hsp : spV X.K 2 c [.ref a, .ref b] H (fun v H' => ∃ r, v = .bl r ∧ Q r H') (fun _ _ _ => False)) :
    wpAny (model X.prog X.w) A (call (.ref f) [.ref a, .ref b]) (fun v s' => ∃ r, v = .bool r ∧ ∃ H', Inv X pins σ H' s' ∧ Q r H') X.xe s := by
  have e0 : Env0 X.prog X.w X.K X.mg X.base A X.stack s H := by
    have e := I.env0
    exact ⟨by rw [sb.fr]; exact e.frames, e.mod, e.bs, e.bsz, e.funs, e.frf, e.hok, e.bare⟩
  have hl' := F.len _ _ _ _ hsp
  have r2 : Vals [V.ref a, V.ref b] [Value.ref a, Value.ref b] := .cons rfl (.cons rfl .nil)
  refine wpAny_call (codeAny_mono (F.run A X.stack s H ⟨[.ref a, .ref b], []⟩ [.ref a, .ref b] [.ref a, .ref b] _ (fun _ _ _ => False) sb.room e0 (by
    have := hb s [.ref a, .ref b] I.kIn (by simpa using hl')
    simpa using this) r2 hsp) fun r s' hq => ?_)
  cases r with
  | error e =>
    obtain ⟨a, B, H', cls, d, _, _, _, _, _, _, _, hE⟩ := hq
    exact hE.elim
  | ok fl =>
    cases fl with
    | ret w =>
      obtain ⟨z, H', I', rz, r, ez, hq'⟩ := I.after hq
      subst ez
      cases rz
      exact ⟨r, rfl, H', I', hq'⟩
    | next => exact False.elim hq
    | brk => exact False.elim hq
    | cont => exact False.elim hq
theorem op_eqOwn {X : Cx} {k : Nat} {c : VSp} {Cs : List Addr} (G : EqG X.prog X.w X.K X.mg X.base k c Cs) (hr : Room k X.A) : OpR X (compareOp .Eq) (rEqOwn X.K false c Cs) := by
  intro pins s σ H x y v u Q I rx ry hq
  obtain ⟨a, b, C, C', dx, dy, fs, gs, rfl, rfl, ha, hb, hC, hC', h1, h2⟩ := hq
  cases rx
  cases ry
  obtain ⟨mA, J, _⟩ := ins_get I.hok ha
  obtain ⟨mB, J', _⟩ := ins_get I.hok hb
  obtain ⟨od, J, _⟩ := J.look
  obtain ⟨od', J', _⟩ := J'.look
  obtain ⟨⟨f, fd, ps, hl, F, hbd, hs, hf⟩, _, _⟩ := G.fn C hC
  obtain ⟨⟨f', fd', ps', hl', F', hbd', hs', hf'⟩, _, _⟩ := G.fn C' hC'
  obtain ⟨b0, hsub⟩ := G.sub C hC C' hC'
  show wpAny (model X.prog X.w) X.A (richCompare .Eq (.ref a) (.ref b)) (EP X pins σ Q) X.xe s
  have sb : L2.Sub X k X.A := ⟨hr, rfl⟩
  refine cmp_any sb.room.units0 I.kIn J J' hsub ?_ ?_
  · refine try_eq I.kIn J hs hf (wpAny_mono (run_eq hl F hbd sb I h1) (fun v s' z => ?_) fun _ _ e => e)
    obtain ⟨r, rfl, H', I', q⟩ := z
    exact ⟨r, rfl, _, rfl, .bl r, H', I', rfl, q⟩
  · refine try_eq I.kIn J' hs' hf' (wpAny_mono (run_eq hl' F' hbd' sb I h2) (fun v s' z => ?_) fun _ _ e => e)
    obtain ⟨r, rfl, H', I', q⟩ := z
    exact ⟨r, rfl, _, rfl, .bl r, H', I', rfl, q⟩
theorem op_neOwn {X : Cx} {k : Nat} {c : VSp} {Cs : List Addr} (G : EqG X.prog X.w X.K X.mg X.base k c Cs) (hr : Room (k + 1) X.A) : OpR X (compareOp .NotEq) (rEqOwn X.K true c Cs) := by
  intro pins s σ H x y v u Q I rx ry hq
  obtain ⟨a, b, C, C', dx, dy, fs, gs, rfl, rfl, ha, hb, hC, hC', h1, h2⟩ := hq
  cases rx
  cases ry
  obtain ⟨mA, J, _⟩ := ins_get I.hok ha
  obtain ⟨mB, J', _⟩ := ins_get I.hok hb
  obtain ⟨od, J, _⟩ := J.look
  obtain ⟨od', J', _⟩ := J'.look
  obtain ⟨⟨f, fd, ps, hl, F, hbd, hs, hf⟩, hn, ho⟩ := G.fn C hC
  obtain ⟨⟨f', fd', ps', hl', F', hbd', hs', hf'⟩, hn', ho'⟩ := G.fn C' hC'
  obtain ⟨b0, hsub⟩ := G.sub C hC C' hC'
  show wpAny (model X.prog X.w) X.A (richCompare .NotEq (.ref a) (.ref b)) (EP X pins σ Q) X.xe s
  have sb : L2.Sub X (k + 1) X.A := ⟨hr, rfl⟩
  refine cmp_any sb.room.units0 I.kIn J J' hsub ?_ ?_
  · refine try_ne I.kIn J ho (by have := hr.units; omega) hn hs hf (wpAny_mono (run_eq hl F hbd sb.in1 I h1) (fun v s' z => ?_) fun _ _ e => e)
    obtain ⟨r, rfl, H', I', q⟩ := z
    exact ⟨r, rfl, _, rfl, .bl (!r), H', I', rfl, q⟩
  · refine try_ne I.kIn J' ho' (by have := hr.units; omega) hn' hs' hf' (wpAny_mono (run_eq hl' F' hbd' sb.in1 I h2) (fun v s' z => ?_) fun _ _ e => e)
    obtain ⟨r, rfl, H', I', q⟩ := z
    exact ⟨r, rfl, _, rfl, .bl (!r), H', I', rfl, q⟩
end
end VL

end

section
set_option Elab.async false
set_option linter.all false
set_option maxRecDepth 100000
set_option maxHeartbeats 400000
namespace VL
open PySem PySem.Spec PyProof.Rows L2
/-! ### the reading -/
def eqRt (neg : Bool) (P : Re → Prop) : Re → List Sl → Prop := fun r _ => match r with
  | .sh (.bl b) => P (.sh (.bl (if neg then !b else b)))
  | _ => False
theorem eqRt_d {neg b : Bool} {P : Re → Prop} {as : List Sl} : eqRt neg P (.sh (.bl b)) as = P (.sh (.bl (if neg then !b else b))) := rfl
def eqC (c : VSp) (Cs : List Addr) (neg : Bool) (d1 d2 : D) (P : Re → Prop) : Prop := match d1, d2 with
  | .ins C fs, .ins C' gs => C ∈ Cs ∧ C' ∈ Cs ∧ CC c [.sh (.ins C fs), .sh (.ins C' gs)] (eqRt neg P) (fun _ _ => False) ∧ CC c [.sh (.ins C' gs), .sh (.ins C fs)] (eqRt neg P) (fun _ _ => False)
  | d1, d2 => opEq neg d1 d2 P
def sEq2 (r2 : Re) (c : VSp) (Cs : List Addr) (neg : Bool) (d1 : D) (Q : Re → En → Prop) (e : En) : Prop := match r2 with
  | .sh d2 => eqC c Cs neg d1 d2 (kQ Q e)
  | _ => False
def sEq1 (r1 : Re) (c : VSp) (Cs : List Addr) (neg : Bool) (tb : VTE) (x : VX) (Q : Re → En → Prop) (e : En) : Prop := match r1 with
  | .sh d1 => tb x e fun r2 e2 => sEq2 (fz r2) c Cs neg d1 Q e2
  | _ => False
/-- == (neg: !=) where both sides may be instances -/
def vEqC (c : VSp) (Cs : List Addr) (neg : Bool) (ta tb : VTE) : VTE := fun x e Q => ta x e fun r1 e1 => sEq1 (fz r1) c Cs neg tb x Q e1
variable {K : PySem.W.Frag}
theorem opd_sh {G : Gd} {S : Hp} {σ : L2.St} {H : Hp} {e : En} {F : Nat → List Addr} (A : At K G S σ H e F) {r : Re} {v : V} {d : D} (h : ReAt K G S H σ F r v) (hd : fz r = .sh d) : ∃ S', Same S S' ∧ At K G S' σ H e F ∧ Rep K S' d v := by
  obtain ⟨S', h1, h2, h3⟩ := A.opd h fun o z => by rw [hd] at z; cases z
  rw [hd] at h3
  cases h3 with
  | sh h t => exact ⟨S', h1, h2, h⟩
theorem two_of {α : Type} {as : List α} (h : as.length = 2) : ∃ a b, as = [a, b] := by
  cases as with
  | nil => simp at h
  | cons a as =>
    cases as with
    | nil => simp at h
    | cons b as =>
      cases as with
      | nil => exact ⟨a, b, rfl⟩
      | cons c as => simp at h
theorem okBack2 {d1 d2 : D} {as : List Sl} (h : as.length = 2) : okBack [.sh d1, .sh d2] as := by
  obtain ⟨a, b, rfl⟩ := two_of h
  rw [okBack_sh, okBack_sh, okBack_nil]
  trivial
theorem backA2 {d1 d2 : D} {e : En} {as : List Sl} (h : as.length = 2) : backA e [.sh d1, .sh d2] as = e := by
  obtain ⟨a, b, rfl⟩ := two_of h
  rw [backA_sh, backA_sh, backA_nil]
theorem eqC_sp {G : Gd} {S : Hp} {σ : L2.St} {H : Hp} {e : En} {F : Nat → List Addr} {c : VSp} {x y : V} {d1 d2 : D} {neg : Bool} {P : Re → Prop} {R : VK} (A : At K G S σ H e F) (h1 : Rep K S d1 x) (h2 : Rep K S d2 y)
    (hc : c [.sh d1, .sh d2] (eqRt neg P) (fun _ _ => False))
    (k : ∀ r v S' H' F', Same S S' → At K G S' σ H' e F' → ReAt K G S' H' σ F' r v → P r → R v H') :
    spV K 2 c [x, y] H (fun v H' => ∃ r, v = .bl r ∧ R (.bl (if neg then !r else r)) H') (fun _ _ _ => False) := by
  have q1 : ReAts K G S H σ F [.sh d1, .sh d2] [x, y] := .sh h1 (.sh h2 .nil)
  have ha : argsS e [.sh d1, .sh d2] = some [.sh d1, .sh d2] := rfl
  have nd : (bors [.sh d1, .sh d2]).Nodup := List.nodup_nil
  refine ⟨rfl, BA H F [.sh d1, .sh d2], fun j => ([x, y].map some)[j]?, S, _, FA F [.sh d1, .sh d2], _, _, A.into q1 ha nd, hc, fun r v S' H' as' F' A' rr nb hp => ?_, fun cls pay d S' H' as' F' A' pp hp => hp.elim⟩
  cases r with
  | sh d =>
    cases d with
    | bl b =>
      cases rr with
      | sh h =>
        cases h
        have l : as'.length = 2 := A'.len
        have ok : okBack [.sh d1, .sh d2] as' := okBack2 l
        obtain ⟨F2, A2, hr⟩ := A.from q1 ha nd A' ok
        rw [backA2 l] at A2
        exact ⟨b, rfl, k _ _ S' H' F2 A'.s0 A2 (.sh (.bl _)) hp⟩
    | _ => exact hp.elim
  | _ => exact hp.elim

/-- what an eq of data and of instances asks of the machine -/
theorem okE_eqC {W : WX} {c : VSp} {Cs : List Addr} {neg : Bool} {ua ub : TE} {va vb : VTE} {r0 : R2} (hl : ∀ as P PX, c as P PX → as.length = 2) (hv : OpV K r0 (opEq neg)) (ha : OkE K W ua va) (hb : OkE K W ub vb) :
    OkE K W (tOp (r2Or r0 (rEqOwn K neg c Cs)) ua ub) (vEqC c Cs neg va vb) := by
  intro G S σ H e F x Q R xo A h k
  refine ha G S σ H e F x _ _ xo A h fun r1 v1 S1 H1 e1 F1 s1 A1 q1 h1 => ?_
  cases z1 : fz r1 with
  | own o => rw [z1] at h1; exact h1.elim
  | bor i => rw [z1] at h1; exact h1.elim
  | fld _ _ _ => rw [z1] at h1; exact h1.elim
  | sh d1 =>
    rw [z1] at h1
    obtain ⟨S1', s1', A1', rp1⟩ := opd_sh A1 q1 z1
    refine hb G S1' σ H1 e1 F1 x _ _ xo A1' h1 fun r2 v2 S2 H2 e2 F2 s2 A2 q2 h2 => ?_
    cases z2 : fz r2 with
    | own o => rw [z2] at h2; exact h2.elim
    | bor i => rw [z2] at h2; exact h2.elim
    | fld _ _ _ => rw [z2] at h2; exact h2.elim
    | sh d2 =>
      rw [z2] at h2
      obtain ⟨S2', s2', A2', rp2⟩ := opd_sh A2 q2 z2
      have rp1' := rp1.mono (s2.trans s2')
      have h2 : eqC c Cs neg d1 d2 (kQ Q e2) := h2
      have kk : ∀ r v S3 H3 F3, Same S2' S3 → At K G S3 σ H3 e2 F3 → ReAt K G S3 H3 σ F3 r v → (kQ Q e2) r → R v H3 := fun r v S3 H3 F3 s3 A3 q3 h3 => k r v S3 H3 e2 F3 (((s1.trans s1').trans (s2.trans s2')).trans s3) A3 q3 h3
      by_cases c1 : ∃ C fs C' gs, d1 = .ins C fs ∧ d2 = .ins C' gs
      · obtain ⟨C, fs, C', gs, rfl, rfl⟩ := c1
        obtain ⟨hC, hC', e1, e2⟩ := h2
        obtain ⟨p, dx, fs', rfl, o1, _, _⟩ := (RepT.of rp1').inst A2'.sh
        obtain ⟨p', dx', gs', rfl, o2, _, _⟩ := (RepT.of rp2).inst A2'.sh
        exact .inr ⟨p, p', C, C', dx, dx', _, _, rfl, rfl, o1, o2, hC, hC', eqC_sp A2' rp1' rp2 e1 kk, eqC_sp A2' rp2 rp1' e2 kk⟩
      · have h3 : opEq neg d1 d2 (kQ Q e2) := by
          cases d1 with
          | ins C fs =>
            cases d2 with
            | ins C' gs => exact absurd ⟨C, fs, C', gs, rfl, rfl⟩ c1
            | _ => exact h2
          | _ => exact h2
        exact .inl (hv G S2' σ H2 e2 F2 v1 v2 d1 d2 _ R A2' (.of rp1') (.of rp2) h3 fun r v S3 H3 s3 A3 q3 h4 => kk r v S3 H3 F2 s3 A3 q3 h4)
end VL

end

section
set_option Elab.async false
set_option linter.all false
set_option maxRecDepth 100000
set_option maxHeartbeats 1000000
namespace VL
open PySem PySem.Spec PyProof.Rows L2
section
variable {X : Cx} {W : WX} {pos p : Pos} {a b : Expr} {j k : Nat} {c : VSp} {Cs : List Addr} {ua ub : TE} {va vb : VTE}
/-- a == b, a != b, of data or of instances -/
theorem ve_eqC (G : EqG X.prog X.w X.K X.mg X.base k c Cs) (hr : Room j X.A) (ha : VEx X W a ua va) (hb : VEx X W b ub vb) (hkj : k + 1 ≤ j := by decide) : VEx X W (.Compare a [.Eq] [b] pos) (tOp (r2Or (rEqD X.K) (rEqOwn X.K false c Cs)) ua ub) (vEqC c Cs false va vb) :=
  ⟨pe_cmpR (opR_or (op_eqD (hr.mono (Nat.zero_le _)).units) (op_eqOwn G (hr.mono (by omega)))) ha.p hb.p (nomark _), okE_eqC G.len opV_eq ha.o hb.o⟩
theorem ve_neC (G : EqG X.prog X.w X.K X.mg X.base k c Cs) (hr : Room j X.A) (ha : VEx X W a ua va) (hb : VEx X W b ub vb) (hkj : k + 1 ≤ j := by decide) : VEx X W (.Compare a [.NotEq] [b] pos) (tOp (r2Or (rNeD X.K) (rEqOwn X.K true c Cs)) ua ub) (vEqC c Cs true va vb) :=
  ⟨pe_cmpR (opR_or (op_neD (hr.mono (Nat.zero_le _)).units) (op_neOwn G (hr.mono hkj))) ha.p hb.p (nomark _), okE_eqC G.len opV_ne ha.o hb.o⟩
end
/-! ### d.copy() -/
section
variable {X : Cx} {W : WX} {a : Expr} {apos cpos : Pos} {ua : TE} {va : VTE} {K : PySem.W.Frag}
def rDCopy : V → List V → Hp → VK → Prop := fun x vs H Q => ∃ (a : Addr) (kvs : List (Key × V)), x = .ref a ∧ vs = [] ∧ Rd H a (.dK kvs) ∧ ∀ p, H p = none → Q (.ref p) (upd H p (.dK kvs))
theorem mtd_copy : MtR X "dict.copy" rDCopy := by
  intro pins s σ H x vs v us Q I rx rv h
  obtain ⟨a, kvs, ex, ev, e, q⟩ := h
  subst ex
  subst ev
  obtain rfl : v = Value.ref a := rx
  have hus := rv.zero
  subst hus
  obtain ⟨z, hd, vs, rel, dd⟩ := dk_rd I.hok e
  refine call_meetsIn PySem.F.slot_dict_copy dd.typeIs PySem.F.entry_dict_copy (PySem.F.args_dict_copy_1 _) (meets_dict_copy (mixKind X.prog X.w) a hd) ⟨vs, dd, by rw [← rel.length]; exact z, fun h' dn _ keep => ?_⟩
  exact ⟨.ref s.heap.objs.size, _, I.laid (a := s.heap.objs.size) (o := .dK kvs) (t' := s.toks) keep (Nat.le_refl _) (dk_new z (beq_eq_false_iff_ne.mpr (Ne.symm (Nat.ne_of_lt I.big))) rel dn), rfl, q _ (I.hok.fresh (Nat.le_refl _))⟩
def sDCopy (s : Option O) (Q : Re → En → Prop) (e : En) : Prop := match s with
  | some (.dic kvs) => Q (.own (.dic kvs)) e
  | _ => False
theorem sDCopy_d {Q : Re → En → Prop} {e : En} {kvs : List (Key × D)} : sDCopy (some (.dic kvs)) Q e = Q (.own (.dic kvs)) e := rfl
def kDCopy (Q : Re → En → Prop) : Re → En → Prop := fun r e => match r with
  | .bor i => sDCopy (ownO e i) Q e
  | _ => False
theorem kDCopy_d {Q : Re → En → Prop} {e : En} {i : Nat} : kDCopy Q (.bor i) e = sDCopy (ownO e i) Q e := rfl
def vDCopy (t : VTE) : VTE := fun x e Q => t x e (kDCopy Q)
theorem vDCopy_d {t : VTE} {x : VX} {e : En} {Q : Re → En → Prop} : vDCopy t x e Q = t x e (kDCopy Q) := rfl
theorem okE_dcopy (h : OkE K W ua va) : OkE K W (tBM0 K "dict" rDCopy ua) (vDCopy va) := by
  intro G S σ H e F x Q R xo A hq k
  refine h G S σ H e F x _ _ xo A hq fun r v S1 H1 e1 F1 s1 A1 q1 h1 => ?_
  cases r with
  | sh d => exact h1.elim
  | own d => exact h1.elim
  | fld _ _ _ => exact h1.elim
  | bor i =>
    cases q1 with
    | bor hσ =>
      cases ho : ownO e1 i with
      | none => simp only [kDCopy, ho] at h1; exact h1.elim
      | some o1 =>
        simp only [kDCopy, ho] at h1
        cases o1 with
        | dic kvs =>
          obtain ⟨p, hp, ow⟩ := A1.owned ho
          rw [hσ] at hp; cases hp
          obtain ⟨ws, _, hw, rk⟩ := ow.dictInv
          refine ⟨.inr (.inr (.inl ⟨rfl, .inl ⟨_, hw⟩⟩)), _, ws, rfl, rfl, .inl hw, fun q hq => ?_⟩
          obtain ⟨A3, q3⟩ := A1.newK hq rk
          exact k _ _ S1 _ _ F1 s1 A3 q3 h1
        | _ => exact h1.elim
theorem ve_dcopy (h : VEx X W a ua va) (hbase : attributeBase a "copy" X.env (eval a X.env) = eval a X.env := by rfl) (hline : (apos.endLine == cpos.line) = true := by rfl) :
    VEx X W (.Call (.Attribute a "copy" apos) [] [] cpos) (tBM0 X.K "dict" rDCopy ua) (vDCopy va) := ⟨pe_bm0 PySem.F.plainAttrs_dict PySem.F.slot_dict_copy PySem.F.type_dict_copy mtd_copy h.p hbase hline, okE_dcopy h.o⟩
end
/-! ### a call of a local that holds a def -/
section
variable {X : Cx} {W : WX} {pos p : Pos} {a : Expr} {es : List Expr} {x : Str} {i j k n : Nat} {ut : TA} {vt : VTA} {K : PySem.W.Frag}
def tCallLS (i : Nat) (S : List (Addr × Sp)) (E : L2.St → XK) (t : TA) : TE := fun σ H Q => ∃ f sp, (f, sp) ∈ S ∧ σ[i]? = some (some (.ref f)) ∧ t σ H fun vs H1 => sp vs H1 Q (E σ)
theorem pe_callLS {S : List (Addr × Sp)} {E : L2.St → XK} {t : TA} (A : ∀ f sp, (f, sp) ∈ S → ∃ (fd : FuncData) (ps : List Str), FnOk X.prog X.w X.K X.mg X.base (L2.CX X.prog X.w) k f fd ps sp ∧ PySem.W.keepIn X.K (.ref f) = true ∧ Binds X.K fd ps []) (hr : Room k X.A) (hN : X.N[i]? = some x) (hv : Vis X.env.scope x) (hx : ∀ σ, PassesAt (L2.CX X.prog X.w) X σ (E σ)) (ha : PA X (a :: es) t)
    (hdb : (x == ("__debug__" : Str)) = false := by decide) (hcd : (x == ("__classdict__" : Str)) = false := by decide)
    (he : starEach (a :: es) X.env = (false, eval a X.env) :: starEach es X.env := by rfl) (hpl : (backTo pos (starEach es X.env)).any (·.1) = false := by rfl) : PE X (.Call (.Name x p) (a :: es) [] pos) (tCallLS i S E t) := by
  refine ⟨fun pins s σ H Q I h => ?_⟩
  obtain ⟨f, sp, hS, hs, ht⟩ := h
  obtain ⟨fd, ps, F, hk, hb⟩ := A f sp hS
  refine wpAny_Call_Name_kw (thn ((pe_var (pos := p) hN hv hdb hcd).run pins s σ H (fun v H1 => v = .ref f ∧ H1 = H) I ⟨.ref f, hs, rfl, rfl⟩) fun u s1 ⟨v, H1, I1, r1, q1⟩ => ?_)
  obtain ⟨rfl, rfl⟩ := q1
  cases r1
  refine PySem.W.callWith_K (h₀ := X.base) I.ok.mod.kin hk (thn (ha.run pos pins s1 σ _ _ I1 ht) fun us s2 ⟨vs, H2, I2, r, q⟩ => ⟨I2.kIn, ?_⟩) he hpl
  exact run_fnS F hr hb (hx σ) I2 r q
def sCallL (s : Option Sl) (cs : List (Addr × VSp)) (t : VTA) (x : VX) (e : En) (Q : Re → En → Prop) : Prop := match s with
  | some (.sh (.ref a)) => ∃ c, (a, c) ∈ cs ∧ vCall c t x e Q
  | _ => False
def vCallL (i : Nat) (cs : List (Addr × VSp)) (t : VTA) : VTE := fun x e Q => sCallL e[i]? cs t x e Q
theorem vCallL_d {cs : List (Addr × VSp)} {t : VTA} {x : VX} {e : En} {Q : Re → En → Prop} : vCallL i cs t x e Q = sCallL e[i]? cs t x e Q := rfl
theorem sCallL_d {cs : List (Addr × VSp)} {t : VTA} {x : VX} {e : En} {Q : Re → En → Prop} {a : Addr} : sCallL (some (.sh (.ref a))) cs t x e Q = ∃ c, (a, c) ∈ cs ∧ vCall c t x e Q := rfl
theorem okE_callL {cs : List (Addr × VSp)} (h : OkA K W ut vt) (hn : ∀ a c, (a, c) ∈ cs → ∀ as P PX, c as P PX → as.length = n) : OkE K W (tCallLS i (cs.map fun q => (q.1, spV K n q.2)) (WE W) ut) (vCallL i cs vt) := by
  intro G S σ H e F x Q R xo A hq k
  have hq : sCallL e[i]? cs vt x e Q := hq
  cases z : e[i]? with
  | none => rw [z] at hq; exact hq.elim
  | some s =>
    rw [z] at hq
    cases s with
    | sh d =>
      cases d with
      | ref a =>
        obtain ⟨c, hc, h2⟩ := hq
        have sl := A.sl i _ z
        obtain ⟨_, v, hv, rv⟩ := sl
        cases rv
        exact ⟨a, _, List.mem_map.mpr ⟨(a, c), hc, rfl⟩, hv, okE_call h (hn a c hc) G S σ H e F x Q R xo A h2 k⟩
      | _ => exact hq.elim
    | _ => exact hq.elim
/-- what a list of defs needs, for a call of one of them -/
structure DefsL (P : Program) (w : World) (K : PySem.W.Frag) (mg : Str → Option Value) (base : Heap) (k n : Nat) (cs : List (Addr × VSp)) : Prop where
  fn : ∀ a c, (a, c) ∈ cs → ∃ (fd : FuncData) (ps : List Str), FnOk P w K mg base (L2.CX P w) k a fd ps (spV K n c) ∧ PySem.W.keepIn K (.ref a) = true ∧ Binds K fd ps []
  len : ∀ a c, (a, c) ∈ cs → ∀ as P PX, c as P PX → as.length = n
theorem DefsL.nil {P : Program} {w : World} {mg : Str → Option Value} {base : Heap} : DefsL P w K mg base k n [] := ⟨fun _ _ h => by simp at h, fun _ _ h => by simp at h⟩
theorem DefsL.cons {P : Program} {w : World} {mg : Str → Option Value} {base : Heap} {x : Str} {c : VSp} {f : Addr} {k' : Nat} {cs : List (Addr × VSp)} (F : DefG P w K mg base k' x n c) (hm : mg x = some (.ref f)) (L : DefsL P w K mg base k n cs) (hk : k' ≤ k := by decide) : DefsL P w K mg base k n ((f, c) :: cs) := by
  obtain ⟨⟨f', fd, ps, hn, hf, hb, hkp, hm'⟩, hl⟩ := F
  rw [hm] at hm'
  cases hm'
  refine ⟨fun a c' h => ?_, fun a c' h => ?_⟩
  · rcases List.mem_cons.mp h with h | h
    · cases h; exact ⟨fd, ps, hf.mono hk, hkp, hb⟩
    · exact L.fn a c' h
  · rcases List.mem_cons.mp h with h | h
    · cases h; exact hl
    · exact L.len a c' h
theorem ve_callL {cs : List (Addr × VSp)} (L : DefsL X.prog X.w X.K X.mg X.base k n cs) (hr : Room j X.A) (hN : X.N[i]? = some x) (hv : Vis X.env.scope x) (hx : PxV X W) (h : VAx X W (a :: es) ut vt) (hkj : k ≤ j := by decide)
    (hdb : (x == ("__debug__" : Str)) = false := by decide) (hcd : (x == ("__classdict__" : Str)) = false := by decide)
    (he : starEach (a :: es) X.env = (false, eval a X.env) :: starEach es X.env := by rfl) (hpl : (backTo pos (starEach es X.env)).any (·.1) = false := by rfl) : VEx X W (.Call (.Name x p) (a :: es) [] pos) (tCallLS i (cs.map fun q => (q.1, spV X.K n q.2)) (WE W) ut) (vCallL i cs vt) :=
  ⟨pe_callLS (fun f sp hm => by
    obtain ⟨⟨a, c⟩, h1, h2⟩ := List.mem_map.mp hm
    cases h2
    exact L.fn _ _ h1) (hr.mono hkj) hN hv hx h.p hdb hcd he hpl, okE_callL h.o L.len⟩
end
end VL

end

section
set_option Elab.async false
set_option linter.all false
set_option maxRecDepth 100000
set_option maxHeartbeats 1000000
namespace VL
open PySem PySem.Spec PyProof.Rows L2
variable {K : PySem.W.Frag}
/-! ### own == : what the head says of the classes -/
structure EqF (K : PySem.W.Frag) (f : Addr) (Cs : List Addr) : Prop where
  eq : ∀ C ∈ Cs, PySem.W.findIn K (.ref C) "__eq__" = some (some (.ref f)) ∧ PySem.W.findIn K (.ref C) "__ne__" = some (some (.builtin "object.__ne__")) ∧ PySem.W.mroIn K C (.type "object") = some true
  sub : ∀ C ∈ Cs, ∀ C' ∈ Cs, ∃ b, PySem.W.subIn K (.ref C') (.ref C) = some b
  fn : PySem.W.isFn K (.ref f) = true
def eqFB (K : PySem.W.Frag) (f : Addr) (Cs : List Addr) : Bool :=
  (Cs.all fun C => He.eqO (PySem.W.findIn K (.ref C) "__eq__") (some (some (.ref f))) && (He.eqO (PySem.W.findIn K (.ref C) "__ne__") (some (some (.builtin "object.__ne__"))) && decide (PySem.W.mroIn K C (.type "object") = some true))) &&
  ((Cs.all fun C => Cs.all fun C' => (PySem.W.subIn K (.ref C') (.ref C)).isSome) && PySem.W.isFn K (.ref f))
theorem eqFB_ok {f : Addr} {Cs : List Addr} (h : eqFB K f Cs = true) : EqF K f Cs := by
  unfold eqFB at h
  simp only [Bool.and_eq_true, List.all_eq_true, decide_eq_true_eq] at h
  refine ⟨fun C hC => ?_, fun C hC C' hC' => ?_, h.2.2⟩
  · obtain ⟨h1, h2, h3⟩ := h.1 C hC
    exact ⟨He.eqO_ok h1, He.eqO_ok h2, h3⟩
  · exact Option.isSome_iff_exists.mp (h.2.1 C hC C' hC')
theorem eqG_of {P : Program} {w : World} {mg : Str → Option Value} {base : Heap} {N ps : List Str} {k : Nat} {c : VSp} {t : VTS} {y qual : Str} {params : Arguments} {body : List Stmt} {scope : Scope} {f : Addr} {fd : FuncData} {Cs : List Addr} (F : FunD K y qual params body scope [] [] f fd) (S : FnScope N ps scope) (hq : EqF K f Cs) (hps : ps.length = 2)
    (hb : ∀ (kV doc pm : Value) (an : Option Addr) (cdv ct : Value) (us : List Value), us.length = ps.length → bindArgs (PySem.W.fnOf y qual params body scope .none kV doc pm an cdv ct) ⟨us, []⟩ = pure (ps.zip us))
    (len : ∀ as P PX, c as P PX → as.length = ps.length)
    (hbody : ∀ (cdv : Value) (A : Around) (outer : List Env) (s : Shared) (H : Hp) (E : XK), Room k (A.deeper (envOfC qual scope s.heap.objs.size f cdv)) → ∃ u, VSs (CxV P w K mg base N qual scope f cdv A outer s H E) (WEx E) body u t)
    (hlaw : ∀ as P PX, as.length = ps.length → c as P PX → t (endsV as P PX) (startE N.length as)) : EqG P w K mg base (k + 1) c Cs := by
  have F' := fnV F S hbody hlaw
  rw [hps] at F'
  refine ⟨fun C hC => ?_, hq.sub, fun as P PX h => (len as P PX h).trans hps⟩
  obtain ⟨h1, h2, h3⟩ := hq.eq C hC
  exact ⟨⟨f, fd, ps, hps, F', F.bindsN hb, h1, hq.fn⟩, h2, h3⟩

/-! ### readings by steps -/
section
variable {x : VX} {e : En} {d d1 d2 : D} {r : Re} {c : VSp} {Cs : List Addr} {neg : Bool}
def kEq2 (c : VSp) (Cs : List Addr) (neg : Bool) (d1 : D) (Q : KE) : KE := fun r e => sEq2 (fz r) c Cs neg d1 Q e
theorem kEq2_d {Q : KE} : kEq2 c Cs neg d1 Q r e = sEq2 (fz r) c Cs neg d1 Q e := rfl
theorem sEq2_sh {Q : KE} : sEq2 (.sh d2) c Cs neg d1 Q e = eqC c Cs neg d1 d2 (kQ Q e) := rfl
def kEq1 (c : VSp) (Cs : List Addr) (neg : Bool) (tb : VTE) (x : VX) (Q : KE) : KE := fun r e => sEq1 (fz r) c Cs neg tb x Q e
theorem kEq1_d {tb : VTE} {Q : KE} : kEq1 c Cs neg tb x Q r e = sEq1 (fz r) c Cs neg tb x Q e := rfl
theorem sEq1_sh {tb : VTE} {Q : KE} : sEq1 (.sh d) c Cs neg tb x Q e = tb x e (kEq2 c Cs neg d Q) := rfl
theorem vEqC_d {ta tb : VTE} {Q : KE} : vEqC c Cs neg ta tb x e Q = ta x e (kEq1 c Cs neg tb x Q) := rfl
theorem eqC_ins {C C' : Addr} {fs gs : List (Str × D)} {P : Re → Prop} : eqC c Cs neg (.ins C fs) (.ins C' gs) P = (C ∈ Cs ∧ C' ∈ Cs ∧ CC c [.sh (.ins C fs), .sh (.ins C' gs)] (eqRt neg P) (fun _ _ => False) ∧ CC c [.sh (.ins C' gs), .sh (.ins C fs)] (eqRt neg P) (fun _ _ => False)) := rfl
theorem eqC_tup {xs : List D} {P : Re → Prop} : eqC c Cs neg (.tup xs) d2 P = opEq neg (.tup xs) d2 P := rfl
theorem eqC_lst {xs : List D} {P : Re → Prop} : eqC c Cs neg (.lst xs) d2 P = opEq neg (.lst xs) d2 P := rfl
theorem eqC_int {n : Int} {P : Re → Prop} : eqC c Cs neg (.int n) d2 P = opEq neg (.int n) d2 P := rfl
theorem eqC_str {n : Str} {P : Re → Prop} : eqC c Cs neg (.str n) d2 P = opEq neg (.str n) d2 P := rfl
theorem eqC_non {P : Re → Prop} : eqC c Cs neg .non d2 P = opEq neg .non d2 P := rfl
theorem eqC_bl {b : Bool} {P : Re → Prop} : eqC c Cs neg (.bl b) d2 P = opEq neg (.bl b) d2 P := rfl
end

theorem op_leS {X : Cx} : OpR X (compareOp .LtE) (fun x y H Q => ∃ i j, x = .str i ∧ y = .str j ∧ Q (.bl (decide (i.cps.toList ≤ j.cps.toList))) H) := by
  intro pins s σ H x y v u Q I rx ry h
  obtain ⟨i, j, hx, hy, q⟩ := h
  refine op_le_str pins s σ H x y v u Q I rx ry ⟨i, j, hx, hy, ?_⟩
  have e : (!decide (j.cps.toList < i.cps.toList)) = decide (i.cps.toList ≤ j.cps.toList) := by
    by_cases c : j.cps.toList < i.cps.toList
    · have c2 : ¬ i.cps.toList ≤ j.cps.toList := fun z => z c
      simp [c, c2]
    · have c2 : i.cps.toList ≤ j.cps.toList := c
      simp [c, c2]
  rw [e]
  exact q

section
variable {X : Cx} {W : WX} {pos p : Pos} {a b : Expr} {j k : Nat} {c : VSp} {Cs : List Addr} {ua ub : TE} {va vb : VTE}
theorem vt_eqC (G : EqG X.prog X.w X.K X.mg X.base k c Cs) (hr : Room j X.A) (ha : VEx X W a ua va) (hb : VEx X W b ub vb) (hkj : k + 1 ≤ j := by decide) : VTx X W (.Compare a [.Eq] [b] pos) (tTest (tOp (r2Or (rEqD X.K) (rEqOwn X.K false c Cs)) ua ub)) (vB (vEqC c Cs false va vb)) :=
  ⟨pt_cmpR (opR_or (op_eqD (hr.mono (Nat.zero_le _)).units) (op_eqOwn G (hr.mono (by omega)))) ha.p hb.p (nomark _), okT_test (okE_eqC G.len opV_eq ha.o hb.o)⟩
theorem vt_neC (G : EqG X.prog X.w X.K X.mg X.base k c Cs) (hr : Room j X.A) (ha : VEx X W a ua va) (hb : VEx X W b ub vb) (hkj : k + 1 ≤ j := by decide) : VTx X W (.Compare a [.NotEq] [b] pos) (tTest (tOp (r2Or (rNeD X.K) (rEqOwn X.K true c Cs)) ua ub)) (vB (vEqC c Cs true va vb)) :=
  ⟨pt_cmpR (opR_or (op_neD (hr.mono (Nat.zero_le _)).units) (op_neOwn G (hr.mono hkj))) ha.p hb.p (nomark _), okT_test (okE_eqC G.len opV_ne ha.o hb.o)⟩
end
end VL

end

section
set_option Elab.async false
set_option linter.all false
set_option autoImplicit false
set_option maxRecDepth 100000
set_option maxHeartbeats 400000
/-! ### helpers for plain laws: comprehensions without effects, loops by an invariant -/
namespace VL
open PySem PySem.Spec PyProof.Rows L2
section
variable {α : Type} {g : VG} {c : VTT} {t tk tv : VTE} {vs : List Nat} {ok : En → Prop} {Q : Re → En → Prop} {e : En}
theorem vLcL_acc (f : α → D) (sel : α → Bool) (val : α → D) (e1 : α → En) : ∀ (xs : List α) (acc : List D), ok e → acc.length + xs.length ≤ sizeLine →
    (∀ a ∈ xs, ∀ K : En → Prop, K (e1 a) → g (f a) x0 e K) → (∀ a ∈ xs, ∀ K : Bool → En → Prop, K (sel a) (e1 a) → c x0 (e1 a) K) → (∀ a ∈ xs, sel a = true → ∀ K : Re → En → Prop, K (.sh (val a)) (e1 a) → t x0 (e1 a) K) →
    (∀ a ∈ xs, offS (e1 a) vs) → (∀ a ∈ xs, wipeE (e1 a) vs = e) → Q (.own (.lst (acc ++ (xs.filter sel).map val))) e → vLcL g c t vs ok Q (xs.map f) acc e
  | [], acc, ho, _, _, _, _, _, _, hq => ⟨ho, by simpa using hq⟩
  | a :: xs, acc, ho, hl, hg, hc, ht, h1, h2, hq => by
    have hl' : acc.length + xs.length + 1 ≤ sizeLine := by simpa [Nat.add_assoc] using hl
    refine ⟨ho, hg a (by simp) _ (hc a (by simp) _ ?_)⟩
    show (if sel a = true then t x0 (e1 a) _ else offS (e1 a) vs ∧ vLcL g c t vs ok Q (xs.map f) acc (wipeE (e1 a) vs))
    have tl : ∀ acc', acc'.length ≤ acc.length + 1 → Q (.own (.lst (acc' ++ (xs.filter sel).map val))) e → vLcL g c t vs ok Q (xs.map f) acc' e := fun acc' hla hq' =>
      vLcL_acc f sel val e1 xs acc' ho (by omega) (fun a ha => hg a (List.mem_cons_of_mem _ ha)) (fun a ha => hc a (List.mem_cons_of_mem _ ha)) (fun a ha => ht a (List.mem_cons_of_mem _ ha)) (fun a ha => h1 a (List.mem_cons_of_mem _ ha)) (fun a ha => h2 a (List.mem_cons_of_mem _ ha)) hq'
    by_cases s : sel a = true
    · rw [if_pos s]
      refine ht a (by simp) s _ ⟨h1 a (by simp), by omega, ?_⟩
      rw [h2 a (by simp)]
      refine tl _ (by simp) ?_
      rw [List.filter_cons_of_pos s] at hq
      simpa using hq
    · rw [if_neg s]
      refine ⟨h1 a (by simp), ?_⟩
      rw [h2 a (by simp)]
      refine tl _ (by omega) ?_
      rw [List.filter_cons_of_neg s] at hq
      exact hq
/-- [val for x in xs if sel] -/
theorem vLcL_pure (f : α → D) (sel : α → Bool) (val : α → D) (e1 : α → En) {xs : List α} (ho : ok e) (hl : xs.length ≤ sizeLine)
    (hg : ∀ a ∈ xs, ∀ K : En → Prop, K (e1 a) → g (f a) x0 e K) (hc : ∀ a ∈ xs, ∀ K : Bool → En → Prop, K (sel a) (e1 a) → c x0 (e1 a) K) (ht : ∀ a ∈ xs, sel a = true → ∀ K : Re → En → Prop, K (.sh (val a)) (e1 a) → t x0 (e1 a) K)
    (h1 : ∀ a ∈ xs, offS (e1 a) vs) (h2 : ∀ a ∈ xs, wipeE (e1 a) vs = e) (hq : Q (.own (.lst ((xs.filter sel).map val))) e) : vLcL g c t vs ok Q (xs.map f) [] e :=
  vLcL_acc f sel val e1 xs [] ho (by simpa using hl) hg hc ht h1 h2 (by simpa using hq)
/-- [val for x in xs] -/
theorem vLcL_all (f : α → D) (val : α → D) (e1 : α → En) {xs : List α} (ho : ok e) (hl : xs.length ≤ sizeLine)
    (hg : ∀ a ∈ xs, ∀ K : En → Prop, K (e1 a) → g (f a) x0 e K) (ht : ∀ a ∈ xs, ∀ K : Re → En → Prop, K (.sh (val a)) (e1 a) → t x0 (e1 a) K)
    (h1 : ∀ a ∈ xs, offS (e1 a) vs) (h2 : ∀ a ∈ xs, wipeE (e1 a) vs = e) (hq : Q (.own (.lst (xs.map val))) e) : vLcL g vYes t vs ok Q (xs.map f) [] e :=
  vLcL_pure f (fun _ => true) val e1 ho hl hg (fun a _ K hK => hK) (fun a ha _ => ht a ha) h1 h2 (by rw [List.filter_eq_self.mpr fun _ _ => rfl]; exact hq)
theorem length_dput_le (kvs : List (Key × D)) (k : Key) (d : D) : (dput kvs k d).length ≤ kvs.length + 1 := by
  unfold dput
  split <;> simp
/-- {key: val for x in xs if sel} -/
theorem vDcL_pure (f : α → D) (sel : α → Bool) (key : α → Key) (kd : α → D) (val : α → D) (e1 : α → En) (hk : ∀ a, keyD (kd a) = some (key a)) : ∀ (xs : List α) (acc : List (Key × D)), ok e → acc.length + xs.length ≤ sizeLine →
    (∀ a ∈ xs, ∀ K : En → Prop, K (e1 a) → g (f a) x0 e K) → (∀ a ∈ xs, ∀ K : Bool → En → Prop, K (sel a) (e1 a) → c x0 (e1 a) K) → (∀ a ∈ xs, sel a = true → ∀ K : Re → En → Prop, K (.sh (kd a)) (e1 a) → tk x0 (e1 a) K) → (∀ a ∈ xs, sel a = true → ∀ K : Re → En → Prop, K (.sh (val a)) (e1 a) → tv x0 (e1 a) K) →
    (∀ a ∈ xs, offS (e1 a) vs) → (∀ a ∈ xs, wipeE (e1 a) vs = e) → Q (.own (.dic ((xs.filter sel).foldl (fun m a => dput m (key a) (val a)) acc))) e → vDcL g c tk tv vs ok Q (xs.map f) acc e
  | [], acc, ho, _, _, _, _, _, _, _, hq => ⟨ho, by simpa using hq⟩
  | a :: xs, acc, ho, hl, hg, hc, ht, hv, h1, h2, hq => by
    have hl' : acc.length + xs.length + 1 ≤ sizeLine := by simpa [Nat.add_assoc] using hl
    refine ⟨ho, hg a (by simp) _ (hc a (by simp) _ ?_)⟩
    show (if sel a = true then tk x0 (e1 a) _ else offS (e1 a) vs ∧ vDcL g c tk tv vs ok Q (xs.map f) acc (wipeE (e1 a) vs))
    have tl : ∀ acc', acc'.length ≤ acc.length + 1 → Q (.own (.dic ((xs.filter sel).foldl (fun m a => dput m (key a) (val a)) acc'))) e → vDcL g c tk tv vs ok Q (xs.map f) acc' e := fun acc' hla hq' =>
      vDcL_pure f sel key kd val e1 hk xs acc' ho (by omega) (fun a ha => hg a (List.mem_cons_of_mem _ ha)) (fun a ha => hc a (List.mem_cons_of_mem _ ha)) (fun a ha => ht a (List.mem_cons_of_mem _ ha)) (fun a ha => hv a (List.mem_cons_of_mem _ ha)) (fun a ha => h1 a (List.mem_cons_of_mem _ ha)) (fun a ha => h2 a (List.mem_cons_of_mem _ ha)) hq'
    by_cases s : sel a = true
    · rw [if_pos s]
      refine ht a (by simp) s _ (hv a (by simp) s _ ?_)
      show oB (some (kd a)) _
      rw [oB_s, hk, oB_s]
      refine ⟨h1 a (by simp), by omega, ?_⟩
      rw [h2 a (by simp)]
      refine tl _ (length_dput_le _ _ _) ?_
      rw [List.filter_cons_of_pos s] at hq
      exact hq
    · rw [if_neg s]
      refine ⟨h1 a (by simp), ?_⟩
      rw [h2 a (by simp)]
      refine tl _ (by omega) ?_
      rw [List.filter_cons_of_neg s] at hq
      exact hq
/-- a loop by an invariant over what is left -/
theorem vForL_ind {t : VTS} {E : VE} (I : List D → En → Prop) (h0 : ∀ e, I [] e → ok e ∧ E.nx e)
    (hs : ∀ d ds, (∀ e, I ds e → vForL g t E ok ds e) → ∀ e, I (d :: ds) e → ok e ∧ g d E.ex e fun e1 => t { E with nx := vForL g t E ok ds, ct := vForL g t E ok ds, bk := E.nx } e1) : ∀ ds e, I ds e → vForL g t E ok ds e
  | [], e, h => h0 e h
  | d :: ds, e, h => hs d ds (vForL_ind I h0 hs ds) e h
end
/-! ### dicts of data -/
theorem dget_cons (k j : Key) (d : D) (kvs : List (Key × D)) : dget ((k, d) :: kvs) j = if k = j then some d else dget kvs j := by
  unfold dget
  rw [List.find?_cons]
  by_cases c : k = j
  · simp [c]
  · simp [c]
theorem dget_nil (j : Key) : dget [] j = none := rfl
theorem dget_app (a b : List (Key × D)) (j : Key) : dget (a ++ b) j = (dget a j).or (dget b j) := by
  induction a with
  | nil => rfl
  | cons q a ih =>
    obtain ⟨k, d⟩ := q
    rw [List.cons_append, dget_cons, dget_cons, ih]
    by_cases c : k = j
    · rw [if_pos c, if_pos c]; rfl
    · rw [if_neg c, if_neg c]
theorem dget_map_ne {k j : Key} {d : D} (h : k ≠ j) : ∀ kvs : List (Key × D), dget (kvs.map fun kv => if kv.1 = k then (kv.1, d) else kv) j = dget kvs j
  | [] => rfl
  | (a, b) :: kvs => by
    rw [List.map_cons]
    by_cases c : a = k
    · subst c
      rw [if_pos rfl, dget_cons, dget_cons, if_neg h, if_neg h]
      exact dget_map_ne h kvs
    · rw [if_neg c, dget_cons, dget_cons, dget_map_ne h kvs]
theorem dget_map_eq {k : Key} {d : D} : ∀ kvs : List (Key × D), (kvs.any fun kv => decide (kv.1 = k)) = true → dget (kvs.map fun kv => if kv.1 = k then (kv.1, d) else kv) k = some d
  | [], h => by cases h
  | (a, b) :: kvs, h => by
    rw [List.map_cons]
    by_cases c : a = k
    · subst c
      rw [if_pos rfl, dget_cons, if_pos rfl]
    · rw [if_neg c, dget_cons, if_neg c]
      refine dget_map_eq kvs ?_
      simpa [c] using h
theorem any_dget {kvs : List (Key × D)} {k : Key} : (kvs.any fun kv => decide (kv.1 = k)) = (dget kvs k).isSome := by
  induction kvs with
  | nil => rfl
  | cons q kvs ih =>
    obtain ⟨a, d⟩ := q
    rw [List.any_cons, dget_cons, ih]
    by_cases c : a = k
    · simp [c]
    · simp [c]
theorem dput_new {kvs : List (Key × D)} {k : Key} {d : D} (h : dget kvs k = none) : dput kvs k d = kvs ++ [(k, d)] := dget_none_dput h
theorem dget_put (kvs : List (Key × D)) (k j : Key) (d : D) : dget (dput kvs k d) j = if k = j then some d else dget kvs j := by
  unfold dput
  by_cases c : (kvs.any fun kv => decide (kv.1 = k)) = true
  · rw [if_pos c]
    by_cases e : k = j
    · subst e
      rw [if_pos rfl, dget_map_eq kvs c]
    · rw [if_neg e, dget_map_ne e]
  · rw [if_neg c, dget_app, dget_cons, dget_nil]
    have c' : dget kvs k = none := by
      rw [any_dget] at c
      cases q : dget kvs k with
      | none => rfl
      | some d => rw [q] at c; exact absurd rfl c
    by_cases e : k = j
    · subst e
      rw [if_pos rfl, if_pos rfl, c']
      rfl
    · rw [if_neg e, if_neg e]
      cases dget kvs j <;> rfl

/-! ### == of tuples and lists of flat data -/
section
variable {α : Type} [DecidableEq α] {f : α → D} {p : α → PyData}
theorem pys_map (h1 : ∀ a, D.py (f a) = some (p a)) : ∀ xs : List α, D.pys (xs.map f) = some (xs.map p)
  | [] => rfl
  | x :: xs => by
    show (match D.py (f x), D.pys (xs.map f) with
      | some p, some ps => some (p :: ps)
      | _, _ => none) = _
    rw [h1, pys_map h1 xs]
    rfl
theorem eqvAll_map : ∀ {xs ys : List α}, (∀ a ∈ xs, ∀ b ∈ ys, PyData.eqv (p a) (p b) = decide (a = b)) → PyData.eqvAll (xs.map p) (ys.map p) = decide (xs = ys)
  | [], [], _ => by simp [PyData.eqvAll]
  | [], _ :: _, _ => by simp [PyData.eqvAll]
  | _ :: _, [], _ => by simp [PyData.eqvAll]
  | x :: xs, y :: ys, h => by
    rw [List.map_cons, List.map_cons, PyData.eqvAll, h x (by simp) y (by simp), eqvAll_map fun a ha b hb => h a (List.mem_cons_of_mem _ ha) b (List.mem_cons_of_mem _ hb), Bool.eq_iff_iff]
    simp
theorem depthAll_map {d : Nat} (h3 : ∀ a, (p a).depth ≤ d) : ∀ xs : List α, PyData.depthAll (xs.map p) ≤ d
  | [] => by simp [PyData.depthAll]
  | x :: xs => by
    have := depthAll_map h3 xs
    have := h3 x
    rw [List.map_cons, PyData.depthAll]
    omega
theorem opEq_tupM {neg : Bool} {xs ys : List α} {P : Re → Prop} (h1 : ∀ a, D.py (f a) = some (p a)) (h2 : ∀ a ∈ xs, ∀ b ∈ ys, PyData.eqv (p a) (p b) = decide (a = b)) (h3 : ∀ a, (p a).depth ≤ 60)
    (h : P (.sh (.bl (if neg then !decide (xs = ys) else decide (xs = ys))))) : opEq neg (.tup (xs.map f)) (.tup (ys.map f)) P := by
  have e : ∀ zs : List α, D.py (.tup (zs.map f)) = some (.tuple (zs.map p)) := fun zs => by
    show (D.pys (zs.map f)).map PyData.tuple = _
    rw [pys_map h1]
    rfl
  have dp : ∀ zs : List α, (PyData.tuple (zs.map p)).depth ≤ 64 := fun zs => by
    have := depthAll_map h3 zs
    rw [PyData.depth]
    omega
  unfold opEq
  rw [e, e, oB_s, oB_s]
  refine ⟨⟨dp _, dp _⟩, ?_⟩
  rw [PyData.eqv, eqvAll_map h2]
  exact h
theorem opEq_lstM {neg : Bool} {xs ys : List α} {P : Re → Prop} (h1 : ∀ a, D.py (f a) = some (p a)) (h2 : ∀ a ∈ xs, ∀ b ∈ ys, PyData.eqv (p a) (p b) = decide (a = b)) (h3 : ∀ a, (p a).depth ≤ 60)
    (h : P (.sh (.bl (if neg then !decide (xs = ys) else decide (xs = ys))))) : opEq neg (.lst (xs.map f)) (.lst (ys.map f)) P := by
  have e : ∀ zs : List α, D.py (.lst (zs.map f)) = some (.list (zs.map p)) := fun zs => by
    show (D.pys (zs.map f)).map PyData.list = _
    rw [pys_map h1]
    rfl
  have dp : ∀ zs : List α, (PyData.list (zs.map p)).depth ≤ 64 := fun zs => by
    have := depthAll_map h3 zs
    rw [PyData.depth]
    omega
  unfold opEq
  rw [e, e, oB_s, oB_s]
  refine ⟨⟨dp _, dp _⟩, ?_⟩
  rw [PyData.eqv, eqvAll_map h2]
  exact h
end
theorem int_eqv (a b : Int) : PyData.eqv (.int a) (.int b) = decide (a = b) := by
  have e : (a == b) = decide (a = b) := by rw [Bool.eq_iff_iff]; simp
  simp [PyData.eqv, e]
theorem str_eqv (a b : Str) : PyData.eqv (.str a) (.str b) = decide (a = b) := by
  have e : (a == b) = decide (a = b) := by rw [Bool.eq_iff_iff]; simp
  simp [PyData.eqv, e]

/-! ### more readings -/
section
variable {c : VTT} {t : VTS} {E : VE} {n : Nat} {e : En}
def sWh (b : Bool) (c : VTT) (t : VTS) (E : VE) (n : Nat) (e1 : En) : Prop := if b = true then t { E with nx := vWhileN c t E n, ct := vWhileN c t E n, bk := E.nx } e1 else E.nx e1
theorem sWh_t : sWh true c t E n e = t { E with nx := vWhileN c t E n, ct := vWhileN c t E n, bk := E.nx } e := rfl
theorem sWh_f : sWh false c t E n e = E.nx e := rfl
def kWh (c : VTT) (t : VTS) (E : VE) (n : Nat) : Bool → En → Prop := fun b e1 => sWh b c t E n e1
theorem kWh_d {b : Bool} : kWh c t E n b e = sWh b c t E n e := rfl
theorem vWhileN_s : vWhileN c t E (n + 1) e = c E.ex e (kWh c t E n) := rfl
end
theorem opAdd_str {a b : Str} {P : Re → Prop} : opAdd (.str a) (.str b) P = (a.length + b.length ≤ sizeLine ∧ P (.sh (.str (a ++ b)))) := rfl
theorem opAddI_str {a b : Str} {P : Re → Prop} : opAddI (.str a) (.str b) P = (a.length + b.length ≤ sizeLine ∧ P (.sh (.str (a ++ b)))) := rfl
def kIxS (P : Re → Prop) : Nat → Prop := fun c => P (.sh (.str ⟨#[c]⟩))
theorem kIxS_d {P : Re → Prop} {c : Nat} : kIxS P c = P (.sh (.str ⟨#[c]⟩)) := rfl
theorem opIx_str {z : Str} {i : Int} {P : Re → Prop} : opIx (.str z) (.int i) P = oB (atI z.cps.toList i) (kIxS P) := rfl
theorem opSl_str {z : Str} {l h : Option Int} {P : Re → Prop} : opSl (.str z) l h P = P (.sh (.str (cutS z l h))) := rfl
theorem opLeS_d {a b : Str} {P : Re → Prop} : opLeS (.str a) (.str b) P = P (.sh (.bl (decide (a.cps.toList ≤ b.cps.toList)))) := rfl
theorem strs_flat (ys : List Str) : (ys.map D.str).all flatD = true := by
  rw [List.all_eq_true]
  intro d hd
  obtain ⟨y, _, rfl⟩ := List.mem_map.mp hd
  rfl
theorem strs_any (x : Str) : ∀ ys : List Str, ((ys.map D.str).any fun y => eqF y (.str x)) = decide (x ∈ ys)
  | [] => by simp
  | y :: ys => by
    have e : eqF (.str y) (.str x) = decide (y = x) := by
      show (y == x) = _
      rw [Bool.eq_iff_iff]
      simp
    rw [List.map_cons, List.any_cons, strs_any x ys, e, Bool.eq_iff_iff]
    simp only [Bool.or_eq_true, decide_eq_true_eq, List.mem_cons]
    exact ⟨fun h => h.elim (fun h => .inl h.symm) .inr, fun h => h.elim (fun h => .inl h.symm) .inr⟩
/-- a text in a list, a tuple of texts -/
theorem opIn_strsL {neg : Bool} {x : Str} {ys : List Str} {P : Re → Prop} : opIn neg (.str x) (.lst (ys.map D.str)) P = P (.sh (.bl (if neg then !decide (x ∈ ys) else decide (x ∈ ys)))) := by
  show ((flatD (.str x) = true ∧ (ys.map D.str).all flatD = true) ∧ P (.sh (.bl (if neg then !((ys.map D.str).any fun y => eqF y (.str x)) else (ys.map D.str).any fun y => eqF y (.str x))))) = _
  rw [strs_any, strs_flat]
  simp [flatD]
theorem opIn_strsT {neg : Bool} {x : Str} {ys : List Str} {P : Re → Prop} : opIn neg (.str x) (.tup (ys.map D.str)) P = P (.sh (.bl (if neg then !decide (x ∈ ys) else decide (x ∈ ys)))) := by
  show ((flatD (.str x) = true ∧ (ys.map D.str).all flatD = true) ∧ P (.sh (.bl (if neg then !((ys.map D.str).any fun y => eqF y (.str x)) else (ys.map D.str).any fun y => eqF y (.str x))))) = _
  rw [strs_any, strs_flat]
  simp [flatD]
end VL

end

section
set_option Elab.async false
set_option linter.all false
set_option autoImplicit false
set_option maxRecDepth 100000
set_option maxHeartbeats 400000
/-! ### defs that call themselves: the promise by how often, none at 0 -/
namespace VL
open PySem PySem.Spec PyProof.Rows L2
variable {K : PySem.W.Frag}
section
variable {P : Program} {w : World} {mg : Str → Option Value} {base : Heap}
/-- a def keeps a promise that asks for what never is -/
theorem defG0 {N ps : List Str} {c : VSp} {x y qual : Str} {params : Arguments} {body : List Stmt} {scope : Scope} {f : Addr} {fd : FuncData} (k : Nat) (F : FunD K y qual params body scope [] [] f fd) (S : FnScope N ps scope) (hm : mg x = some (.ref f))
    (hb : ∀ (kV doc pm : Value) (an : Option Addr) (cdv ct : Value) (us : List Value), us.length = ps.length → bindArgs (PySem.W.fnOf y qual params body scope .none kV doc pm an cdv ct) ⟨us, []⟩ = pure (ps.zip us))
    (hc : ∀ as P PX, ¬ c as P PX) : DefG P w K mg base (k + 1) x ps.length c :=
  ⟨⟨f, fd, ps, rfl, F.ok S (fun vs H Q E h => h.1) fun cdv A outer s H vs Q E hr hsp => by
      obtain ⟨_, _, _, _, _, _, _, _, _, h, _⟩ := hsp
      exact absurd h (hc _ _ _), F.bindsN hb, F.kp, hm⟩, fun as P PX h => absurd h (hc as P PX)⟩
theorem defG_all {x : Str} {ar k : Nat} {c : Nat → VSp} (h0 : DefG P w K mg base (k + 1) x ar (c 0)) (h : ∀ n, DefG P w K mg base (k + 1 + n) x ar (c n) → DefG P w K mg base (k + 1 + n + 1) x ar (c (n + 1))) : ∀ n, DefG P w K mg base (k + 1 + n) x ar (c n)
  | 0 => h0
  | n + 1 => h n (defG_all h0 h n)
end
end VL

end

section
set_option Elab.async false
set_option linter.all false
set_option autoImplicit false
set_option maxRecDepth 100000
set_option maxHeartbeats 400000
/-! ### sep.join(texts) -/
namespace VL
open PySem PySem.Spec PyProof.Rows L2
variable {K : PySem.W.Frag}
def strsD : List D → Option (List Str)
  | [] => some []
  | .str i :: ds => (strsD ds).map (i :: ·)
  | _ => none
theorem strsD_rep {S : Hp} : ∀ {ds : List D} {vs : List V} {ns : List Str}, Reps K S ds vs → strsD ds = some ns → vs = ns.map V.str
  | [], vs, ns, h, e => by
    cases h
    cases e
    rfl
  | d :: ds, vs, ns, h, e => by
    cases h with
    | cons r t =>
      cases d with
      | str i =>
        cases r
        unfold strsD at e
        cases h2 : strsD ds with
        | none => rw [h2] at e; cases e
        | some m =>
          rw [h2] at e
          cases e
          rw [List.map_cons, strsD_rep t h2]
      | _ => cases e
theorem strsD_map {α : Type} (f : α → Str) : ∀ xs : List α, strsD (xs.map fun a => D.str (f a)) = some (xs.map f)
  | [] => rfl
  | a :: xs => by
    show (strsD (xs.map fun a => D.str (f a))).map _ = _
    rw [strsD_map f xs]
    rfl
def rJoinS (K : PySem.W.Frag) (a : Str) : List V → Hp → VK → Prop := fun xs H Q => ∃ p, ∃ ys : List Str, xs = [.ref p] ∧ (SqL K H p (ys.map V.str) ∨ SqT K H p (ys.map V.str)) ∧ (ys.map (·.length)).sum + ys.length * a.length ≤ 16777216 ∧ Q (.str (Txt.join a ys)) H
def oJoin (a : Str) : VOA := fun ds P => match ds with
  | [.lst xs] => oB (strsD xs) fun ys => (ys.map (·.length)).sum + ys.length * a.length ≤ 16777216 ∧ SOk (Txt.join a ys) ∧ P (.sh (.str (Txt.join a ys)))
  | [.tup xs] => oB (strsD xs) fun ys => (ys.map (·.length)).sum + ys.length * a.length ≤ 16777216 ∧ SOk (Txt.join a ys) ∧ P (.sh (.str (Txt.join a ys)))
  | _ => False
theorem oJoin_lst {a : Str} {xs : List D} {P : Re → Prop} : oJoin a [.lst xs] P = oB (strsD xs) fun ys => (ys.map (·.length)).sum + ys.length * a.length ≤ 16777216 ∧ SOk (Txt.join a ys) ∧ P (.sh (.str (Txt.join a ys))) := rfl
theorem oJoin_tup {a : Str} {xs : List D} {P : Re → Prop} : oJoin a [.tup xs] P = oB (strsD xs) fun ys => (ys.map (·.length)).sum + ys.length * a.length ≤ 16777216 ∧ SOk (Txt.join a ys) ∧ P (.sh (.str (Txt.join a ys))) := rfl
theorem callV_join (a : Str) : CallV K (rJoinS K a) (oJoin a) := by
  intro G S σ H e F xs ds P R A rs h k
  unfold oJoin at h
  split at h
  · cases rs with
    | cons r t => cases t with
      | nil =>
        obtain ⟨ns, hn, h1, h2, h⟩ := oB_some h
        obtain ⟨p, vs, rfl, hp, rp⟩ := r.list A.sh
        have e := strsD_rep rp hn
        subst e
        exact ⟨p, ns, rfl, .inl (SqL.of hp), h1, flatRes A (.str _ h2) h k⟩
  · cases rs with
    | cons r t => cases t with
      | nil =>
        obtain ⟨ns, hn, h1, h2, h⟩ := oB_some h
        obtain ⟨p, vs, rfl, hp, rp⟩ := r.tup A.sh
        have e := strsD_rep rp hn
        subst e
        exact ⟨p, ns, rfl, .inr hp, h1, flatRes A (.str _ h2) h k⟩
  · exact h.elim
variable {X : Cx} {W : WX}
theorem ve_join {a : Str} {e : Expr} {j : Nat} {kpos apos pos : Pos} {ue : TE} {ve : VTE} (he : VEx X W e ue ve)
    (hs : starEach [e] X.env = [(false, eval e X.env)] := by rfl) (hbase : attributeBase (.Constant (.str a) j kpos) "join" X.env (eval (.Constant (.str a) j kpos) X.env) = eval (.Constant (.str a) j kpos) X.env := by rfl) (hline : (apos.endLine == pos.line) = true := by rfl)
    (hs1 : starEach (e :: []) X.env = (false, eval e X.env) :: starEach [] X.env := by rfl) :
    VEx X W (.Call (.Attribute (.Constant (.str a) j kpos) "join" apos) [e] [] pos) (tCB (rJoinS X.K a) (tCons ue tNil)) (vCallB (oJoin a) (vCons ve vNil)) :=
  ⟨⟨fun pins s σ H Q I h => (pe_join (pe_str) he.p hs hbase hline).run pins s σ H Q I ⟨⟨a, rfl⟩, by
      have e : (fun (y : V) (H2 : Hp) => ∃ (a' : Str) (p : Addr) (ys : List Str), V.str a = .str a' ∧ [y] = [V.ref p] ∧ (SqL X.K H2 p (ys.map V.str) ∨ SqT X.K H2 p (ys.map V.str)) ∧ (ys.map (·.length)).sum + ys.length * a'.length ≤ 16777216 ∧ Q (.str (Txt.join a' ys)) H2) = fun y H2 => rJoinS X.K a [y] H2 Q := by
        funext y H2
        apply propext
        constructor
        · rintro ⟨a', p, ys, e1, e2, h1, h2, h3⟩
          cases e1
          exact ⟨p, ys, e2, h1, h2, h3⟩
        · rintro ⟨p, ys, e2, h1, h2, h3⟩
          exact ⟨a, p, ys, rfl, e2, h1, h2, h3⟩
      show ue σ H (fun (y : V) (H2 : Hp) => ∃ (a' : Str) (p : Addr) (ys : List Str), V.str a = .str a' ∧ [y] = [V.ref p] ∧ (SqL X.K H2 p (ys.map V.str) ∨ SqT X.K H2 p (ys.map V.str)) ∧ (ys.map (·.length)).sum + ys.length * a'.length ≤ 16777216 ∧ Q (.str (Txt.join a' ys)) H2)
      rw [e]
      exact h⟩⟩, okE_callB (callV_join a) (va_cons he va_nil hs1).o⟩
end VL

end

section
set_option Elab.async false
set_option linter.all false
set_option autoImplicit false
set_option maxRecDepth 100000
set_option maxHeartbeats 400000
/-! ### calls that are given fresh objects of their own -/
namespace VL
open PySem PySem.Spec PyProof.Rows L2
variable {K : PySem.W.Frag}
abbrev KAO := List Re → List O → En → Prop
abbrev VAO := VX → En → KAO → Prop
inductive Owns (K : PySem.W.Frag) (G : Gd) (S H : Hp) (F : Nat → List Addr) : List O → List V → List Addr → Prop
  | nil : Owns K G S H F [] [] []
  | cons {o : O} {p : Addr} {f : List Addr} {os : List O} {ws : List V} {fs : List Addr} (h : OwnAt K S H o p f) (hf : ∀ a ∈ f, S a = none ∧ G.B a = none ∧ ∀ i, a ∉ F i) (hd : ∀ a ∈ f, a ∉ fs) (t : Owns K G S H F os ws fs) : Owns K G S H F (o :: os) (.ref p :: ws) (f ++ fs)
section
variable {G : Gd} {S S' : Hp} {σ : L2.St} {H H' : Hp} {e : En} {F : Nat → List Addr} {rs : List Re} {vs : List V} {as as' : List Sl}
theorem Owns.mono {F' : Nat → List Addr} : ∀ {os : List O} {ws : List V} {fs : List Addr}, Owns K G S H F os ws fs → (∀ a ∈ fs, ∀ i, a ∉ F' i) → Owns K G S H F' os ws fs
  | _, _, _, .nil, _ => .nil
  | _, _, _, .cons h hf hd t, k => .cons h (fun a ha => ⟨(hf a ha).1, (hf a ha).2.1, k a (by simp [ha])⟩) hd (Owns.mono t fun a ha => k a (by simp [ha]))
theorem Owns.len : ∀ {os : List O} {ws : List V} {fs : List Addr}, Owns K G S H F os ws fs → ws.length = os.length
  | _, _, _, .nil => rfl
  | _, _, _, .cons _ _ _ t => by simp [Owns.len t]
theorem Owns.off : ∀ {os : List O} {ws : List V} {fs : List Addr}, Owns K G S H F os ws fs → ∀ a ∈ fs, S a = none ∧ G.B a = none ∧ ∀ i, a ∉ F i
  | _, _, _, .nil, a, h => by cases h
  | _, _, _, .cons _ hf _ t, a, h => (List.mem_append.mp h).elim (hf a) (Owns.off t a)
/-- many slots more -/
theorem At.exts : ∀ {os : List O} {ws : List V} {fs : List Addr} {σ : L2.St} {e : En} {F : Nat → List Addr}, At K G S σ H e F → Owns K G S H F os ws fs → ∃ F2, At K G S (σ ++ ws.map some) H (e ++ os.map Sl.own) F2
  | _, _, _, σ, e, F, A, .nil => ⟨F, by simpa using A⟩
  | _, _, _, σ, e, F, A, .cons (o := o) (p := p) (f := f) (os := os) (ws := ws) (fs := fs) h hf hd t => by
    have A1 := A.ext h hf
    have t1 : Owns K G S H (fun j => if j = e.length then f else F j) os ws fs := t.mono fun a ha i => by
      show a ∉ (if i = e.length then f else F i)
      split
      · exact fun z => hd a z ha
      · exact (t.off a ha).2.2 i
    obtain ⟨F2, A2⟩ := At.exts A1 t1
    exact ⟨F2, by simpa using A2⟩
theorem ReAts.exts {G' : Gd} {F' : Nat → List Addr} {l : L2.St} : ∀ {rs : List Re} {vs : List V}, ReAts K G S H σ F rs vs → ReAts K G' S H (σ ++ l) F' rs vs
  | _, _, .nil => .nil
  | _, _, .sh h t => .sh h (ReAts.exts t)
  | _, _, .bor h t => .bor (by rw [List.getElem?_append_left (List.getElem?_eq_some_iff.mp h).1]; exact h) (ReAts.exts t)
  | _, _, .fld t => .fld (ReAts.exts t)
theorem ReAts.app {rs2 : List Re} {vs2 : List V} (h2 : ReAts K G S H σ F rs2 vs2) : ∀ {rs : List Re} {vs : List V}, ReAts K G S H σ F rs vs → ReAts K G S H σ F (rs ++ rs2) (vs ++ vs2)
  | _, _, .nil => h2
  | _, _, .sh h t => .sh h (ReAts.app h2 t)
  | _, _, .bor h t => .bor h (ReAts.app h2 t)
  | _, _, .fld t => .fld (ReAts.app h2 t)
def borL : Nat → List O → List Re
  | _, [] => []
  | n, _ :: os => .bor n :: borL (n + 1) os
theorem borL_at {G' : Gd} {F' : Nat → List Addr} : ∀ {os : List O} {ws : List V} {fs : List Addr} {σ : L2.St}, Owns K G S H F os ws fs → ReAts K G' S H (σ ++ ws.map some) F' (borL σ.length os) ws
  | _, _, _, σ, .nil => .nil
  | _, _, _, σ, .cons (p := p) (os := os) (ws := ws) h hf hd t => by
    refine .bor (by rw [List.getElem?_append_right (Nat.le_refl _)]; simp) ?_
    have := borL_at (G' := G') (F' := F') (σ := σ ++ [some (.ref p)]) t
    simpa using this
theorem argsS_app {rs2 : List Re} {as2 : List Sl} (h2 : argsS e rs2 = some as2) : ∀ {rs : List Re} {as : List Sl}, argsS e rs = some as → argsS e (rs ++ rs2) = some (as ++ as2)
  | [], as, h => by cases h; exact h2
  | r :: rs, as, h => by
    unfold argsS at h
    cases h1 : argS e r with
    | none => rw [h1] at h; cases h
    | some a =>
      cases h3 : argsS e rs with
      | none => rw [h1, h3] at h; cases h
      | some bs =>
        rw [h1, h3] at h
        cases h
        show (match argS e r, argsS e (rs ++ rs2) with
          | some a, some as => some (a :: as)
          | _, _ => none) = _
        rw [h1, argsS_app h2 h3]
        rfl
theorem argsS_exts : ∀ {m : En} {e : En} {rs : List Re} {as : List Sl}, argsS e rs = some as → argsS (e ++ m) rs = some as
  | [], e, rs, as, h => by rw [List.append_nil]; exact h
  | s :: m, e, rs, as, h => by
    have := argsS_exts (m := m) (argsS_ext (s := s) h)
    simpa using this
theorem argsS_own : ∀ {os : List O} {e : En}, argsS (e ++ os.map Sl.own) (borL e.length os) = some (os.map Sl.par)
  | [], e => rfl
  | o :: os, e => by
    have h1 := argsS_own (os := os) (e := e ++ [.own o])
    have h2 : argsS (e ++ (o :: os).map Sl.own) (borL (e.length + 1) os) = some (os.map Sl.par) := by simpa using h1
    have h3 : argS (e ++ (o :: os).map Sl.own) (.bor e.length) = some (.par o) := by
      show (match (e ++ (o :: os).map Sl.own)[e.length]? with
        | some (.own o) => some (Sl.par o)
        | some (.par o) => some (Sl.par o)
        | _ => none) = _
      rw [List.getElem?_append_right (Nat.le_refl _)]
      simp
    show (match argS (e ++ (o :: os).map Sl.own) (.bor e.length), argsS (e ++ (o :: os).map Sl.own) (borL (e.length + 1) os) with
      | some a, some as => some (a :: as)
      | _, _ => none) = _
    rw [h3, h2]
    rfl
theorem bors_app : ∀ (rs rs2 : List Re), bors (rs ++ rs2) = bors rs ++ bors rs2
  | [], rs2 => rfl
  | .bor i :: rs, rs2 => by show i :: bors (rs ++ rs2) = _; rw [bors_app rs rs2]; rfl
  | .sh d :: rs, rs2 => bors_app rs rs2
  | .own d :: rs, rs2 => bors_app rs rs2
  | .fld _ _ _ :: rs, rs2 => bors_app rs rs2
theorem borL_ge : ∀ (os : List O) (n : Nat), (∀ i ∈ bors (borL n os), n ≤ i) ∧ (bors (borL n os)).Nodup
  | [], n => ⟨fun i h => (by cases h), List.nodup_nil⟩
  | o :: os, n => by
    obtain ⟨h1, h2⟩ := borL_ge os (n + 1)
    refine ⟨fun i h => ?_, List.nodup_cons.mpr ⟨fun z => ?_, h2⟩⟩
    · rcases List.mem_cons.mp (show i ∈ n :: bors (borL (n + 1) os) from h) with rfl | h
      · exact Nat.le_refl _
      · have := h1 i h; omega
    · have := h1 n z; omega
theorem setO_back {i : Nat} {o : O} {m : En} (h : e.length ≤ i) : ∃ m', setO (e ++ m) i o = e ++ m' := by
  unfold setO
  cases q : (e ++ m)[i]? with
  | none => exact ⟨m, rfl⟩
  | some t => cases t with
    | un => exact ⟨m, rfl⟩
    | sh d => exact ⟨m, rfl⟩
    | own o1 => exact ⟨_, List.set_append_right _ _ h⟩
    | par o1 => exact ⟨_, List.set_append_right _ _ h⟩
theorem backA_own {m : En} : ∀ (os : List O) (n : Nat) (as : List Sl), e.length ≤ n → ∃ m', backA (e ++ m) (borL n os) as = e ++ m'
  | [], n, as, h => ⟨m, by simp [borL, backA]⟩
  | o :: os, n, [], h => ⟨m, by simp [borL, backA]⟩
  | o :: os, n, a :: as, h => by
    obtain ⟨m', e1⟩ := backA_own (m := m) os (n + 1) as (by omega)
    cases a with
    | par o' =>
      show ∃ m', backA (e ++ m) (.bor n :: borL (n + 1) os) (.par o' :: as) = e ++ m'
      rw [backA, e1]
      exact setO_back h
    | un => refine ⟨m', ?_⟩; show backA (e ++ m) (.bor n :: borL (n + 1) os) (.un :: as) = _; rw [backA, e1] <;> simp
    | sh d => refine ⟨m', ?_⟩; show backA (e ++ m) (.bor n :: borL (n + 1) os) (.sh d :: as) = _; rw [backA, e1] <;> simp
    | own d => refine ⟨m', ?_⟩; show backA (e ++ m) (.bor n :: borL (n + 1) os) (.own d :: as) = _; rw [backA, e1] <;> simp
theorem setO_front {i : Nat} {o : O} {m : En} (h : i < e.length) : setO (e ++ m) i o = setO e i o ++ m := by
  unfold setO
  rw [List.getElem?_append_left h]
  cases q : e[i]? with
  | none => rfl
  | some t => cases t with
    | un => rfl
    | sh d => rfl
    | own o1 => exact List.set_append_left _ _ h
    | par o1 => exact List.set_append_left _ _ h
theorem backA_tail {m : En} {os : List O} : ∀ (rs : List Re) (as : List Sl), (∀ i ∈ bors rs, i < e.length) → ∃ m', backA (e ++ m) (rs ++ borL e.length os) as = backA e rs as ++ m'
  | [], as, h => by
    rw [show backA e [] as = e by simp [backA]]
    exact backA_own os e.length as (Nat.le_refl _)
  | r :: rs, [], h => ⟨m, by cases r <;> simp [backA]⟩
  | r :: rs, a :: as, h => by
    have hr : ∀ i ∈ bors rs, i < e.length := fun i hi => h i (by cases r <;> simp [bors, hi])
    obtain ⟨m', e1⟩ := backA_tail (m := m) (os := os) rs as hr
    cases r with
    | sh d => refine ⟨m', ?_⟩; rw [List.cons_append, backA, e1, backA] <;> simp
    | own d => refine ⟨m', ?_⟩; rw [List.cons_append, backA, e1, backA] <;> simp
    | fld _ _ _ => refine ⟨m', ?_⟩; rw [List.cons_append, backA, e1, backA] <;> simp
    | bor i =>
      cases a with
      | par o =>
        refine ⟨m', ?_⟩
        rw [List.cons_append, backA, e1, backA, setO_front (by rw [backA_length]; exact h i (by simp [bors]))]
      | un => refine ⟨m', ?_⟩; rw [List.cons_append, backA, e1, backA] <;> simp
      | sh d => refine ⟨m', ?_⟩; rw [List.cons_append, backA, e1, backA] <;> simp
      | own d => refine ⟨m', ?_⟩; rw [List.cons_append, backA, e1, backA] <;> simp
theorem okBack_own : ∀ (os : List O) (n : Nat) (as : List Sl), okBack (os.map fun _ => .bor 0) as → okBack (borL n os) as
  | [], n, as, h => by simp [borL, okBack]
  | o :: os, n, [], h => h
  | o :: os, n, a :: as, h => by
    cases a with
    | par o' => exact okBack_own os (n + 1) as h
    | un => exact h
    | sh d => exact h
    | own d => exact h
theorem okBack_tail {os : List O} {n : Nat} : ∀ (rs : List Re) (as : List Sl), okBack (rs ++ os.map fun _ => .bor 0) as → okBack (rs ++ borL n os) as
  | [], as, h => okBack_own os n as h
  | r :: rs, [], h => by cases r <;> exact h
  | r :: rs, a :: as, h => by
    cases r with
    | sh d => cases a <;> exact okBack_tail rs as h
    | own d => cases a <;> exact okBack_tail rs as h
    | fld _ _ _ => cases a <;> exact okBack_tail rs as h
    | bor i =>
      cases a with
      | par o => exact okBack_tail rs as h
      | un => exact h
      | sh d => exact h
      | own d => exact h
/-- slots taken away -/
theorem At.cutN {l : L2.St} {m : En} (A : At K G S (σ ++ l) H (e ++ m) F) (hl : e.length = σ.length) : ∃ F', At K G S σ H e F' ∧ ∀ r v, notBor r → ReAt K G S H (σ ++ l) F r v → ReAt K G S H σ F' r v := by
  have up : ∀ (j : Nat) (s : Sl), e[j]? = some s → (e ++ m)[j]? = some s ∧ (σ ++ l)[j]? = σ[j]? := fun j s h => by
    have hj := (List.getElem?_eq_some_iff.mp h).1
    exact ⟨by rw [List.getElem?_append_left hj]; exact h, by rw [List.getElem?_append_left (by omega)]⟩
  refine ⟨fun j => if j < e.length then F j else [], ⟨A.sh, A.bh, A.s0, A.nw, hl, fun j s hj => ?_, fun j hj => ?_, fun j a ha => ?_, fun j l a ha hb => ?_, fun j o' hj => ?_⟩, fun r v nb h => ?_⟩
  · obtain ⟨h1, h2⟩ := up j s hj
    have sl := A.sl j s h1
    rw [h2] at sl
    show SlAt K S H σ[j]? s (if j < e.length then F j else [])
    rw [if_pos (List.getElem?_eq_some_iff.mp hj).1]
    exact sl
  · show (if j < e.length then F j else []) = []
    rw [if_neg (by omega)]
  · have ha : a ∈ (if j < e.length then F j else []) := ha
    split at ha
    · exact A.fS j a ha
    · simp at ha
  · have ha : a ∈ (if j < e.length then F j else []) := ha
    have hb : a ∈ (if l < e.length then F l else []) := hb
    split at ha
    · split at hb
      · exact A.dj j l a ha hb
      · simp at hb
    · simp at ha
  · obtain ⟨h1, h2⟩ := up j _ hj
    rw [← h2]
    exact A.pr j o' h1
  · cases h with
    | sh h => exact .sh h
    | bor h => exact nb.elim
    | fld => exact nb.elim
    | own h hf =>
      refine .own h fun a ha => ?_
      obtain ⟨h1, h2, h3⟩ := hf a ha
      refine ⟨h1, h2, fun j hj => ?_⟩
      have hj : a ∈ (if j < e.length then F j else []) := hj
      split at hj
      · exact h3 j hj
      · simp at hj
end
def OkAO (K : PySem.W.Frag) (W : WX) (ta : TA) (t : VAO) : Prop := ∀ G S σ H e F (x : VX) (Q : KAO) (R : List V → Hp → Prop), XOk K G W x → At K G S σ H e F → t x e Q →
  (∀ rs vs os ws fs S' H' e' F', Same S S' → At K G S' σ H' e' F' → ReAts K G S' H' σ F' rs vs → Owns K G S' H' F' os ws fs → Q rs os e' → R (vs ++ ws) H') → ta σ H R
structure VAOx (X : Cx) (W : WX) (es : List Expr) (u : TA) (t : VAO) : Prop where
  p : PA X es u
  o : OkAO X.K W u t
/- by steps -/
def kO2 (r : Re) (Q : KAO) : KAO := fun rs os e => Q (r :: rs) os e
def sO (r : Re) (u : VAO) (x : VX) (e : En) (Q : KAO) : Prop := match r with
  | .own _ => False
  | r => u x e (kO2 r Q)
def kO1 (u : VAO) (x : VX) (Q : KAO) : KE := fun r e => sO (fz r) u x e Q
def vConsO (t : VTE) (u : VAO) : VAO := fun x e Q => t x e (kO1 u x Q)
def sL1 (r : Re) (e : En) (Q : KAO) : Prop := match r with
  | .own o => Q [] [o] e
  | _ => False
def kL1 (Q : KAO) : KE := fun r e => sL1 r e Q
def vLast (t : VTE) : VAO := fun x e Q => t x e (kL1 Q)
def sL2 (r : Re) (e : En) (Q : KAO) : Prop := match r with
  | .own o => Q [] [o, .lst []] e
  | _ => False
def kL2 (Q : KAO) : KE := fun r e => sL2 r e Q
/-- a fresh object, and an empty list -/
def vLast2 (t : VTE) : VAO := fun x e Q => t x e (kL2 Q)
section
variable {x : VX} {e : En} {r : Re} {d : D} {i : Nat} {o : O} {rs : List Re} {os : List O}
theorem kO2_d {Q : KAO} : kO2 r Q rs os e = Q (r :: rs) os e := rfl
theorem sO_sh {u : VAO} {Q : KAO} : sO (.sh d) u x e Q = u x e (kO2 (.sh d) Q) := rfl
theorem sO_bor {u : VAO} {Q : KAO} : sO (.bor i) u x e Q = u x e (kO2 (.bor i) Q) := rfl
theorem kO1_d {u : VAO} {Q : KAO} : kO1 u x Q r e = sO (fz r) u x e Q := rfl
theorem vConsO_d {t : VTE} {u : VAO} {Q : KAO} : vConsO t u x e Q = t x e (kO1 u x Q) := rfl
theorem sL1_own {Q : KAO} : sL1 (.own o) e Q = Q [] [o] e := rfl
theorem kL1_d {Q : KAO} : kL1 Q r e = sL1 r e Q := rfl
theorem vLast_d {t : VTE} {Q : KAO} : vLast t x e Q = t x e (kL1 Q) := rfl
theorem sL2_own {Q : KAO} : sL2 (.own o) e Q = Q [] [o, .lst []] e := rfl
theorem kL2_d {Q : KAO} : kL2 Q r e = sL2 r e Q := rfl
theorem vLast2_d {t : VTE} {Q : KAO} : vLast2 t x e Q = t x e (kL2 Q) := rfl
end
def bor0 (os : List O) : List Re := os.map fun _ => .bor 0
theorem bor0_nil : bor0 [] = [] := rfl
theorem bor0_cons {o : O} {os : List O} : bor0 (o :: os) = .bor 0 :: bor0 os := rfl
def parL (os : List O) : List Sl := os.map Sl.par
theorem parL_nil : parL [] = [] := rfl
theorem parL_cons {o : O} {os : List O} : parL (o :: os) = .par o :: parL os := rfl
def kRtnO (Q : KE) (rs : List Re) (os : List O) (e : En) : Re → List Sl → Prop := fun r as' => okBack (rs ++ bor0 os) as' ∧ Q r (backA e rs as')
def kExcO (x : VX) (rs : List Re) (os : List O) (e : En) : XC → List Sl → Prop := fun xc as' => okBack (rs ++ bor0 os) as' ∧ x xc (backA e rs as')
def kCallO2 (c : VSp) (x : VX) (Q : KE) (rs : List Re) (os : List O) (e : En) : List Sl → Prop := fun as => (bors rs).Nodup ∧ CC c (as ++ parL os) (kRtnO Q rs os e) (kExcO x rs os e)
def kCallO (c : VSp) (x : VX) (Q : KE) : KAO := fun rs os e => oB (argsS e rs) (kCallO2 c x Q rs os e)
def vCallO (c : VSp) (t : VAO) : VTE := fun x e Q => t x e (kCallO c x Q)
section
variable {x : VX} {e : En} {r : Re} {rs : List Re} {os : List O} {as as' : List Sl} {c : VSp} {Q : KE} {xc : XC}
theorem kRtnO_d : kRtnO Q rs os e r as' = (okBack (rs ++ bor0 os) as' ∧ Q r (backA e rs as')) := rfl
theorem kExcO_d : kExcO x rs os e xc as' = (okBack (rs ++ bor0 os) as' ∧ x xc (backA e rs as')) := rfl
theorem kCallO2_d : kCallO2 c x Q rs os e as = ((bors rs).Nodup ∧ CC c (as ++ parL os) (kRtnO Q rs os e) (kExcO x rs os e)) := rfl
theorem kCallO_d : kCallO c x Q rs os e = oB (argsS e rs) (kCallO2 c x Q rs os e) := rfl
theorem vCallO_d {t : VAO} : vCallO c t x e Q = t x e (kCallO c x Q) := rfl
end
theorem okE_callO {W : WX} {n : Nat} {c : VSp} {ut : TA} {vt : VAO} (h : OkAO K W ut vt) (hn : ∀ as P PX, c as P PX → as.length = n) : OkE K W (tCallS (spV K n c) (WE W) ut) (vCallO c vt) := by
  intro G S σ H e F x Q R xo A hq k
  refine h G S σ H e F x _ _ xo A hq fun rs vs os ws fs S1 H1 e1 F1 s1 A1 q1 o1 h1 => ?_
  obtain ⟨as, ha, nd, h1⟩ := oB_some (show oB (argsS e1 rs) (kCallO2 c x Q rs os e1) from h1)
  obtain ⟨F3, A3⟩ := A1.exts o1
  have len := A1.len
  have q3 : ReAts K G S1 H1 (σ ++ ws.map some) F3 (rs ++ borL e1.length os) (vs ++ ws) := by
    rw [len]
    exact ReAts.app (borL_at o1) q1.exts
  have ha3 : argsS (e1 ++ os.map Sl.own) (rs ++ borL e1.length os) = some (as ++ os.map Sl.par) := argsS_app argsS_own (argsS_exts ha)
  have hlt := bors_lt ha
  have nd3 : (bors (rs ++ borL e1.length os)).Nodup := by
    rw [bors_app]
    obtain ⟨g1, g2⟩ := borL_ge os e1.length
    exact List.nodup_append.mpr ⟨nd, g2, fun a ha b hb e => by subst e; have := hlt a ha; have := g1 a hb; omega⟩
  have l1 := (argsS_get ha).1
  have l2 := q1.get.1
  have l3 := o1.len
  have done : ∀ {S' H' : Hp} {as' : List Sl} {F' : Nat → List Addr}, At K ⟨BA H1 F3 (rs ++ borL e1.length os), S1, fun j => ((vs ++ ws).map some)[j]?⟩ S' ((vs ++ ws).map some) H' as' F' → okBack (rs ++ bor0 os) as' →
      ∃ F2, At K G S' σ H' (backA e1 rs as') F2 ∧ ∀ r v, notBor r → ReAt K ⟨BA H1 F3 (rs ++ borL e1.length os), S1, fun j => ((vs ++ ws).map some)[j]?⟩ S' H' ((vs ++ ws).map some) F' r v → ReAt K G S' H' σ F2 r v := fun {S' H' as' F'} A' ok => by
    obtain ⟨F2, A4, hr⟩ := A3.from q3 ha3 nd3 A' (okBack_tail rs as' ok)
    obtain ⟨m', em⟩ := backA_tail (m := os.map Sl.own) (os := os) rs as' hlt
    rw [em] at A4
    obtain ⟨F5, A5, h5⟩ := A4.cutN (by rw [backA_length]; exact len)
    exact ⟨F5, A5, fun r v nb rr => h5 r v nb (hr r v nb rr)⟩
  refine ⟨by have := hn _ _ _ h1; simp [parL] at this ⊢; omega, BA H1 F3 (rs ++ borL e1.length os), fun j => ((vs ++ ws).map some)[j]?, S1, as ++ os.map Sl.par, FA F3 (rs ++ borL e1.length os), _, _, A3.into q3 ha3 nd3, h1, fun r v S' H' as' F' A' rr nb hp => ?_, fun cls pay d S' H' as' F' A' pp hp => ?_⟩
  · obtain ⟨F2, A2, hr⟩ := done A' hp.1
    exact k r v S' H' _ F2 (s1.trans A'.s0) A2 (hr r v nb rr) hp.2
  · obtain ⟨F2, A2, hr⟩ := done A' hp.1
    exact xo cls pay d S' σ H' _ F2 A2 pp hp.2
section
variable {X : Cx} {W : WX} {pos p pos2 : Pos} {a : Expr} {es : List Expr} {x : Str} {k j n : Nat} {c : VSp} {ua : TE} {va : VTE} {us : TA} {vs : VAO}
theorem vao_cons (h : VEx X W a ua va) (hr : VAOx X W es us vs) (hs : starEach (a :: es) X.env = (false, eval a X.env) :: starEach es X.env := by rfl) : VAOx X W (a :: es) (tCons ua us) (vConsO va vs) := by
  obtain ⟨p, o⟩ := h
  obtain ⟨p2, o2⟩ := hr
  refine ⟨pa_cons p p2 hs, fun G S σ H e F x Q R xo A hq k => ?_⟩
  refine o G S σ H e F x _ _ xo A hq fun r v S1 H1 e1 F1 s1 A1 q1 h1 => ?_
  have h1 : sO (fz r) vs x e1 Q := h1
  have hn : ∀ o, fz r ≠ .own o := fun o z => by
    rw [z] at h1
    exact h1.elim
  obtain ⟨S2, s2, A2, q2⟩ := A1.opd q1 hn
  have h1' : vs x e1 (kO2 (fz r) Q) := by
    cases z : fz r with
    | own o => exact absurd z (hn o)
    | sh d => rw [z] at h1; exact h1
    | bor i => rw [z] at h1; exact h1
    | fld _ _ _ => rw [z] at h1; exact h1
  refine o2 G S2 σ H1 e1 F1 x _ _ xo A2 h1' fun rs us os ws fs S3 H3 e3 F3 s3 A3 q3 o3 h3 => ?_
  exact k _ (v :: us) _ ws fs S3 H3 e3 F3 ((s1.trans s2).trans s3) A3 ((q2.mono s3).cons1 q3) o3 h3
theorem vao_last (h : VEx X W a ua va) (hs : starEach [a] X.env = (false, eval a X.env) :: starEach [] X.env := by rfl) : VAOx X W [a] (tCons ua tNil) (vLast va) := by
  refine ⟨pa_cons h.p pa_nil hs, fun G S σ H e F x Q R xo A hq k => ?_⟩
  refine h.o G S σ H e F x _ _ xo A hq fun r v S1 H1 e1 F1 s1 A1 q1 h1 => ?_
  have h1 : sL1 r e1 Q := h1
  cases q1 with
  | sh _ => exact h1.elim
  | bor _ => exact h1.elim
  | fld => exact h1.elim
  | own ow hf =>
    refine k [] [] [_] [_] _ S1 H1 e1 F1 s1 A1 .nil (.cons ow hf (fun a _ z => by cases z) .nil) h1
theorem vao_last2 (h : VEx X W a ua va) (hs2 : starEach [.List [] pos2] X.env = (false, eval (.List [] pos2) X.env) :: starEach [] X.env := by rfl) (hs : starEach [a, .List [] pos2] X.env = (false, eval a X.env) :: starEach [.List [] pos2] X.env := by rfl) : VAOx X W [a, .List [] pos2] (tCons ua (tCons (tLst tNil) tNil)) (vLast2 va) := by
  refine ⟨pa_cons h.p (pa_cons (pe_lst pa_nil) pa_nil hs2) hs, fun G S σ H e F x Q R xo A hq k => ?_⟩
  refine h.o G S σ H e F x _ _ xo A hq fun r v S1 H1 e1 F1 s1 A1 q1 h1 => ?_
  have h1 : sL2 r e1 Q := h1
  cases q1 with
  | sh _ => exact h1.elim
  | bor _ => exact h1.elim
  | fld => exact h1.elim
  | own ow hf =>
    refine ⟨Nat.zero_le _, fun q hq => ?_⟩
    have A2 := A1.laid (o := .lst []) hq
    have ne : ∀ a, H1 a ≠ none → a ≠ q := fun a h z => h (z ▸ hq)
    have ow2 := ow.keep (Same.refl S1) (H' := upd H1 q (.lst [])) fun a ha => upd_ne (ne a (ow.there a ha))
    refine k [] [] [_, _] [_, _] _ S1 _ e1 F1 s1 A2 .nil (.cons ow2 hf (fun a ha z => ?_) (.cons (.lst (vs := []) (xs := []) upd_same .nil) (fun a ha => ?_) (fun a _ z => by cases z) .nil)) h1
    · simp at z
      exact ne a (ow.there a ha) z
    · simp at ha
      subst ha
      exact A1.free hq
theorem ve_callGO (F : DefG X.prog X.w X.K X.mg X.base k x n c) (hr : Room j X.A) (hx : PxV X W) (h : VAOx X W (a :: es) us vs) (hkj : k ≤ j := by decide) (hg : Gl X x := by rfl) (hdb : (x == ("__debug__" : Str)) = false := by decide)
    (he : starEach (a :: es) X.env = (false, eval a X.env) :: starEach es X.env := by rfl) (hpl : (backTo pos (starEach es X.env)).any (·.1) = false := by rfl) :
    VEx X W (.Call (.Name x p) (a :: es) [] pos) (tCallS (spV X.K n c) (WE W) us) (vCallO c vs) := by
  obtain ⟨⟨f, fd, ps, hn, hf, hb, hkp, hm⟩, hl⟩ := F
  subst hn
  exact ⟨pe_callS hf (hr.mono hkj) hg hm hkp hb hx h.p hdb he hpl, okE_callO h.o hl⟩
end
end VL

end

section
set_option Elab.async false
set_option linter.all false
set_option autoImplicit false
set_option maxRecDepth 100000
set_option maxHeartbeats 400000
/-! ### sorted, of numbers -/
namespace VL
open PySem PySem.Spec PyProof.Rows L2
variable {K : PySem.W.Frag}
def sortI (ns : List Int) : List Int := ns.mergeSort fun a b => decide (a ≤ b)
theorem sortI_perm (ns : List Int) : (sortI ns).Perm ns := List.mergeSort_perm _ _
theorem sortI_sorted (ns : List Int) : (sortI ns).Pairwise (· ≤ ·) := by
  have := List.pairwise_mergeSort (le := fun a b : Int => decide (a ≤ b)) (fun a b c h1 h2 => by simp at *; omega) (fun a b => by simp; omega) ns
  exact this.imp fun h => by simpa using h
theorem sortI_uniq {ns xs : List Int} (h : xs.Perm ns) (hs : xs.Pairwise (· ≤ ·)) : xs = sortI ns :=
  List.Perm.eq_of_pairwise (fun a b _ _ h1 h2 => Int.le_antisymm h1 h2) hs (sortI_sorted ns) (h.trans (sortI_perm ns).symm)
theorem sortI_eq {ns : List Int} : ns = sortI ns ↔ ns.Pairwise (· ≤ ·) := ⟨fun h => by rw [h]; exact sortI_sorted _, fun h => sortI_uniq (List.Perm.refl _) h⟩
def oSortI : VOA := fun ds P => match ds with
  | [.lst xs] => oB (intsD xs) fun ns => P (.own (.lst ((sortI ns).map D.int)))
  | _ => False
theorem oSortI_lst {xs : List D} {P : Re → Prop} : oSortI [.lst xs] P = oB (intsD xs) fun ns => P (.own (.lst ((sortI ns).map D.int))) := rfl
theorem callV_sortI : CallV K (rSortedI K) oSortI := by
  intro G S σ H e F xs ds P R A rs h k
  unfold oSortI at h
  split at h
  · cases rs with
    | cons r t => cases t with
      | nil =>
        obtain ⟨ns, hn, h⟩ := oB_some h
        obtain ⟨p, vs, rfl, hp, rp⟩ := r.list A.sh
        have e := intsD_rep rp hn
        subst e
        refine ⟨p, ns, rfl, SqL.of hp, fun ns' q h1 h2 hq => ?_⟩
        rw [sortI_uniq h1 h2]
        obtain ⟨A2, r2⟩ := A.newL hq (reps_ints (sortI ns))
        exact k _ _ S _ (Same.refl S) A2 r2 h
  · exact h.elim
end VL

end

section
set_option Elab.async false
set_option linter.all false
set_option autoImplicit false
set_option maxRecDepth 100000
set_option maxHeartbeats 4000000
namespace VL
open PySem PySem.Spec PyProof.Rows L2
variable {K : PySem.W.Frag}

/-! ### objects with lists, dicts of their own -/
def fputF (f : Str) (x : Fd) : List (Str × Fd) → List (Str × Fd)
  | [] => [(f, x)]
  | (g, y) :: r => if g = f then (g, x) :: r else (g, y) :: fputF f x r
def lstF (q : Addr) : Option Fd → Option (List D)
  | some (.l p xs) => if p = q then some xs else none
  | _ => none
theorem lstF_l (q : Addr) (xs : List D) : lstF q (some (.l q xs)) = some xs := if_pos rfl
theorem lstF_some {q : Addr} {x : Option Fd} {xs : List D} (h : lstF q x = some xs) : x = some (.l q xs) := by
  unfold lstF at h
  split at h
  · split at h
    · rename_i e; cases h; rw [e]
    · cases h
  · cases h
/-- a field's value -/
def FdV (K : PySem.W.Frag) (S H : Hp) (v : V) : Fd → Prop
  | .d x => Rep K S x v
  | .l q xs => v = .ref q ∧ ∃ vs, H q = some (.lst vs) ∧ Reps K S xs vs
  | .kd q kvs => v = .ref q ∧ ∃ ws, H q = some (.dK ws) ∧ Repk K S kvs ws
theorem OwnF.look {S H : Hp} {f : Str} {x : Fd} : ∀ {fs : List (Str × Fd)} {gs : List (Str × V)} {qs : List Addr}, OwnF K S H fs gs qs → fs.lookup f = some x → ∃ v, gs.lookup f = some v ∧ FdV K S H v x
  | _, _, _, .nil, h => by cases h
  | _, _, _, .d (n := n) r t, h => by
    rw [List.lookup_cons] at h ⊢
    cases c : (f == n) with
    | true => rw [c] at h; cases h; exact ⟨_, rfl, r⟩
    | false => rw [c] at h; exact OwnF.look t h
  | _, _, _, .l (n := n) h0 r t, h => by
    rw [List.lookup_cons] at h ⊢
    cases c : (f == n) with
    | true => rw [c] at h; cases h; exact ⟨_, rfl, rfl, _, h0, r⟩
    | false => rw [c] at h; exact OwnF.look t h
  | _, _, _, .kd (n := n) h0 r t, h => by
    rw [List.lookup_cons] at h ⊢
    cases c : (f == n) with
    | true => rw [c] at h; cases h; exact ⟨_, rfl, rfl, _, h0, r⟩
    | false => rw [c] at h; exact OwnF.look t h
theorem OwnF.noLook {S H : Hp} {f : Str} : ∀ {fs : List (Str × Fd)} {gs : List (Str × V)} {qs : List Addr}, OwnF K S H fs gs qs → fs.lookup f = none → gs.lookup f = none
  | _, _, _, .nil, h => rfl
  | _, _, _, .d (n := n) r t, h => by
    rw [List.lookup_cons] at h ⊢
    cases c : (f == n) with
    | true => rw [c] at h; cases h
    | false => rw [c] at h; exact OwnF.noLook t h
  | _, _, _, .l (n := n) h0 r t, h => by
    rw [List.lookup_cons] at h ⊢
    cases c : (f == n) with
    | true => rw [c] at h; cases h
    | false => rw [c] at h; exact OwnF.noLook t h
  | _, _, _, .kd (n := n) h0 r t, h => by
    rw [List.lookup_cons] at h ⊢
    cases c : (f == n) with
    | true => rw [c] at h; cases h
    | false => rw [c] at h; exact OwnF.noLook t h
theorem OwnF.memL {S H : Hp} {f : Str} {q : Addr} {xs : List D} : ∀ {fs : List (Str × Fd)} {gs : List (Str × V)} {qs : List Addr}, OwnF K S H fs gs qs → fs.lookup f = some (.l q xs) → q ∈ qs
  | _, _, _, .nil, h => by cases h
  | _, _, _, .d (n := n) r t, h => by
    rw [List.lookup_cons] at h
    cases c : (f == n) with
    | true => rw [c] at h; cases h
    | false => rw [c] at h; exact OwnF.memL t h
  | _, _, _, .l (n := n) h0 r t, h => by
    rw [List.lookup_cons] at h
    cases c : (f == n) with
    | true => rw [c] at h; cases h; simp
    | false => rw [c] at h; exact List.mem_cons_of_mem _ (OwnF.memL t h)
  | _, _, _, .kd (n := n) h0 r t, h => by
    rw [List.lookup_cons] at h
    cases c : (f == n) with
    | true => rw [c] at h; cases h
    | false => rw [c] at h; exact List.mem_cons_of_mem _ (OwnF.memL t h)
/-- a field's own list changes -/
theorem OwnF.setL {S H : Hp} {f : Str} {q : Addr} {xs ys : List D} {ws : List V} (ry : Reps K S ys ws) : ∀ {fs : List (Str × Fd)} {gs : List (Str × V)} {qs : List Addr}, OwnF K S H fs gs qs → qs.Nodup → fs.lookup f = some (.l q xs) → OwnF K S (upd H q (.lst ws)) (fputF f (.l q ys) fs) gs qs
  | _, _, _, .nil, _, h => by cases h
  | _, _, _, .d (n := n) r t, nd, h => by
    rw [List.lookup_cons] at h
    cases c : (f == n) with
    | true => rw [c] at h; cases h
    | false =>
      rw [c] at h
      unfold fputF
      rw [if_neg fun e => by rw [e] at c; simp at c]
      exact .d r (OwnF.setL ry t nd h)
  | _, _, _, .l (n := n) (q := p) h0 r t, nd, h => by
    obtain ⟨n1, n2⟩ := List.nodup_cons.mp nd
    rw [List.lookup_cons] at h
    unfold fputF
    cases c : (f == n) with
    | true =>
      rw [c] at h
      cases h
      rw [if_pos (eq_of_beq c).symm]
      exact .l upd_same ry (t.keep (Same.refl S) fun a ha => upd_ne fun z => n1 (by rw [← z]; exact ha))
    | false =>
      rw [c] at h
      rw [if_neg fun e => by rw [e] at c; simp at c]
      have ne : p ≠ q := fun z => n1 (by rw [z]; exact OwnF.memL t h)
      exact .l (by rw [upd_ne ne]; exact h0) r (OwnF.setL ry t n2 h)
  | _, _, _, .kd (n := n) (q := p) h0 r t, nd, h => by
    obtain ⟨n1, n2⟩ := List.nodup_cons.mp nd
    rw [List.lookup_cons] at h
    unfold fputF
    cases c : (f == n) with
    | true => rw [c] at h; cases h
    | false =>
      rw [c] at h
      rw [if_neg fun e => by rw [e] at c; simp at c]
      have ne : p ≠ q := fun z => n1 (by rw [z]; exact OwnF.memL t h)
      exact .kd (by rw [upd_ne ne]; exact h0) r (OwnF.setL ry t n2 h)
section
variable {G : Gd} {S S' : Hp} {σ : L2.St} {H H' : Hp} {e : En} {F : Nat → List Addr}
theorem At.setFl (A : At K G S σ H e F) {i : Nat} {C : Addr} {fs : List (Str × Fd)} {f : Str} {q : Addr} {xs ys : List D} {ws : List V} (h : ownO e i = some (.obj C fs)) (hf : fs.lookup f = some (.l q xs)) (r : Reps K S ys ws) :
    At K G S σ (upd H q (.lst ws)) (setO e i (.obj C (fputF f (.l q ys) fs))) F := by
  obtain ⟨p, hp, ow⟩ := A.owned h
  obtain ⟨dx, gs, qs, ef, hH, ho, rf, nd⟩ := ow.objInv
  have hq := rf.memL hf
  have n1 := List.nodup_cons.mp nd
  have n2 := List.nodup_cons.mp n1.2
  have ne1 : p ≠ q := fun z => n1.1 (by rw [z]; simp [hq])
  have ne2 : dx ≠ q := fun z => n2.1 (by rw [z]; exact hq)
  refine A.write h hp (fun a ha => upd_ne fun z => ha (by rw [ef, z]; simp [hq])) ?_
  rw [ef]
  exact .obj (by rw [upd_ne ne1]; exact hH) (by rw [upd_ne ne2]; exact ho) (rf.setL r n2.2 hf) nd
theorem At.fldL (A : At K G S σ H e F) {i : Nat} {C : Addr} {fs : List (Str × Fd)} {f : Str} {q : Addr} {xs : List D} (h : ownO e i = some (.obj C fs)) (hf : fs.lookup f = some (.l q xs)) : ∃ vs, H q = some (.lst vs) ∧ Reps K S xs vs := by
  obtain ⟨p, hp, ow⟩ := A.owned h
  obtain ⟨dx, gs, qs, ef, hH, ho, rf, nd⟩ := ow.objInv
  obtain ⟨v, _, _, r⟩ := rf.look hf
  exact r
end
/-! ### a field is read -/
section
variable {X : Cx} {W : WX} {pos p apos cpos pos' : Pos} {tg a b c o : Expr} {ua ub uc : TE} {va vb vc : VTE} {ut : TA} {vt : VTA} {f : Str}
def sFO2 (x : Option Fd) (i : Nat) (f : Str) (Q : KE) (e : En) : Prop := match x with
  | some (.d d) => Q (.sh d) e
  | some (.l q _) => Q (.fld q i f) e
  | some (.kd q _) => Q (.fld q i f) e
  | none => False
def sFO (s : Option O) (Cs : List Addr) (f : Str) (i : Nat) (Q : KE) (e : En) : Prop := match s with
  | some (.obj C fs) => C ∈ Cs ∧ sFO2 (fs.lookup f) i f Q e
  | _ => False
def kFO (Cs : List Addr) (f : Str) (Q : KE) : KE := fun r e => match r with
  | .bor i => sFO (ownO e i) Cs f i Q e
  | _ => False
/-- o.f, o a slot's own object -/
def vFO (Cs : List Addr) (t : VTE) (f : Str) : VTE := fun x e Q => t x e (kFO Cs f Q)
theorem ve_fO {Cs : List Addr} (hC : ∀ C ∈ Cs, ClsF X.K f C) (h : VEx X W a ua va) (hb : attributeBase a f X.env (eval a X.env) = eval a X.env := by rfl) : VEx X W (.Attribute a f pos) (tFld X.K ua f) (vFO Cs va f) := by
  refine ⟨pe_fld h.p hb, fun G S σ H e F x Q R xo A hq k => ?_⟩
  refine h.o G S σ H e F x _ _ xo A hq fun r v S1 H1 e1 F1 s1 A1 q1 h1 => ?_
  cases r with
  | sh d => exact h1.elim
  | own d => exact h1.elim
  | fld _ _ _ => exact h1.elim
  | bor i =>
    cases q1 with
    | bor hσ =>
      have h1 : sFO (ownO e1 i) Cs f i Q e1 := h1
      cases ho : ownO e1 i with
      | none => rw [ho] at h1; exact h1.elim
      | some o1 =>
        rw [ho] at h1
        cases o1 with
        | obj C fs =>
          obtain ⟨hm, h1⟩ := h1
          obtain ⟨p, hp, ow⟩ := A1.owned ho
          rw [hσ] at hp; cases hp
          obtain ⟨dx, gs, qs, ef, hH, hd, rf, nd⟩ := ow.objInv
          cases hl : fs.lookup f with
          | none => rw [hl] at h1; exact h1.elim
          | some y =>
            rw [hl] at h1
            obtain ⟨v, hv, fv⟩ := rf.look hl
            refine ⟨p, C, dx, gs, v, rfl, hH, (hC C hm).c, (hC C hm).n, hv, ?_⟩
            cases y with
            | d d => exact k _ _ S1 H1 e1 F1 s1 A1 (.sh fv) h1
            | l q xs =>
              obtain ⟨ev, _⟩ := fv
              subst ev
              exact k _ _ S1 H1 e1 F1 s1 A1 .fld h1
            | kd q xs =>
              obtain ⟨ev, _⟩ := fv
              subst ev
              exact k _ _ S1 H1 e1 F1 s1 A1 .fld h1
        | _ => exact h1.elim
/-! ### methods of a field's list -/
def kLF3 (q : Addr) (i : Nat) (f : Str) (C : Addr) (fs : List (Str × Fd)) (Q : KE) (e : En) : D → List D → Prop := fun d ys => Q (.sh d) (setO e i (.obj C (fputF f (.l q ys) fs)))
def kLF2 (o : MOp) (xs : List D) (q : Addr) (i : Nat) (f : Str) (C : Addr) (fs : List (Str × Fd)) (Q : KE) (e : En) : List D → Prop := fun ds => o xs ds (kLF3 q i f C fs Q e)
def kLFb (c : Option (List D)) (o : MOp) (q : Addr) (i : Nat) (f : Str) (C : Addr) (fs : List (Str × Fd)) (Q : KE) (e : En) : List D → Prop := fun xs => oB c (kLF2 o xs q i f C fs Q e)
def sLF2 (s : Option O) (c : Option (List D)) (o : MOp) (q : Addr) (i : Nat) (f : Str) (Q : KE) (e : En) : Prop := match s with
  | some (.obj C fs) => oB (lstF q (fs.lookup f)) (kLFb c o q i f C fs Q e)
  | _ => False
def kLF1 (o : MOp) (q : Addr) (i : Nat) (f : Str) (Q : KE) : KA := fun rs e => sLF2 (ownO e i) (shs rs) o q i f Q e
def kLFa (o : MOp) (u : VTA) (q : Addr) (i : Nat) (f : Str) (x : VX) (Q : KE) (e : En) : List D → Prop := fun _ => u x e (kLF1 o q i f Q)
def sLF (s : Option O) (o : MOp) (u : VTA) (q : Addr) (i : Nat) (f : Str) (x : VX) (Q : KE) (e : En) : Prop := match s with
  | some (.obj _ fs) => oB (lstF q (fs.lookup f)) (kLFa o u q i f x Q e)
  | _ => False
def kLF (o : MOp) (u : VTA) (x : VX) (Q : KE) : KE := fun r e => match r with
  | .fld q i f => sLF (ownO e i) o u q i f x Q e
  | _ => False
/-- o.f.m(shared ..) -/
def vLF (o : MOp) (t : VTE) (u : VTA) : VTE := fun x e Q => t x e (kLF o u x Q)
theorem okE_lF {r : V → List V → Hp → VK → Prop} {o : MOp} (hv : MtS K r o) (h : OkE K W ua va) (h2 : OkA K W ut vt) : OkE K W (tBM K "list" r ua ut) (vLF o va vt) := by
  intro G S σ H e F x Q R xo A hq k
  refine h G S σ H e F x _ _ xo A hq fun r v S1 H1 e1 F1 s1 A1 q1 h1 => ?_
  cases r with
  | sh d => exact h1.elim
  | own d => exact h1.elim
  | bor _ => exact h1.elim
  | fld q i f =>
    cases q1 with
    | fld =>
      have h1 : sLF (ownO e1 i) o vt q i f x Q e1 := h1
      cases ho : ownO e1 i with
      | none => rw [ho] at h1; exact h1.elim
      | some o1 =>
        rw [ho] at h1
        cases o1 with
        | obj C0 fs0 =>
          obtain ⟨xs0, hx0, h1⟩ := oB_some h1
          obtain ⟨ws0, hw0, _⟩ := A1.fldL ho (lstF_some hx0)
          refine ⟨.inl ⟨rfl, _, SqL.of hw0⟩, ?_⟩
          refine h2 G S1 σ H1 e1 F1 x _ _ xo A1 h1 fun rs vs S2 H2 e2 F2 s2 A2 q2 h2 => ?_
          have h2 : sLF2 (ownO e2 i) (shs rs) o q i f Q e2 := h2
          cases ho2 : ownO e2 i with
          | none => rw [ho2] at h2; exact h2.elim
          | some o2 =>
            rw [ho2] at h2
            cases o2 with
            | obj C fs =>
              obtain ⟨xs, hx, h2⟩ := oB_some h2
              obtain ⟨ds, hds, h2⟩ := oB_some h2
              obtain ⟨ws, hw, rw_⟩ := A2.fldL ho2 (lstF_some hx)
              refine hv S2 H2 _ ws vs xs ds _ _ A2.sh hw rw_ (shs_rep q2 hds) h2 fun d y ys ws' rd rys hP => ?_
              exact k _ y S2 _ _ F2 (s1.trans s2) (A2.setFl ho2 (lstF_some hx) rys) (.sh rd) hP
            | _ => exact h2.elim
        | _ => exact h1.elim
def kLFe (o : MOp) (q : Addr) (i : Nat) (f : Str) (C : Addr) (fs : List (Str × Fd)) (Q : KE) (e : En) : List D → Prop := fun xs => o xs [] (kLF3 q i f C fs Q e)
def sLF0 (s : Option O) (o : MOp) (q : Addr) (i : Nat) (f : Str) (Q : KE) (e : En) : Prop := match s with
  | some (.obj C fs) => oB (lstF q (fs.lookup f)) (kLFe o q i f C fs Q e)
  | _ => False
def kLF0 (o : MOp) (Q : KE) : KE := fun r e => match r with
  | .fld q i f => sLF0 (ownO e i) o q i f Q e
  | _ => False
/-- o.f.m() -/
def vLF0 (o : MOp) (t : VTE) : VTE := fun x e Q => t x e (kLF0 o Q)
theorem okE_lF0 {r : V → List V → Hp → VK → Prop} {o : MOp} (hv : MtV K r o) (h : OkE K W ua va) : OkE K W (tBM0 K "list" r ua) (vLF0 o va) := by
  intro G S σ H e F x Q R xo A hq k
  refine h G S σ H e F x _ _ xo A hq fun r v S1 H1 e1 F1 s1 A1 q1 h1 => ?_
  cases r with
  | sh d => exact h1.elim
  | own d => exact h1.elim
  | bor _ => exact h1.elim
  | fld q i f =>
    cases q1 with
    | fld =>
      have h1 : sLF0 (ownO e1 i) o q i f Q e1 := h1
      cases ho : ownO e1 i with
      | none => rw [ho] at h1; exact h1.elim
      | some o1 =>
        rw [ho] at h1
        cases o1 with
        | obj C fs =>
          obtain ⟨xs, hx, h1⟩ := oB_some h1
          obtain ⟨ws, hw, rw_⟩ := A1.fldL ho (lstF_some hx)
          refine ⟨.inl ⟨rfl, _, SqL.of hw⟩, ?_⟩
          refine hv S1 H1 _ ws [] xs [] _ _ A1.sh hw rw_ .nil h1 fun d y ys ws' rd rys hP => ?_
          exact k _ y S1 _ _ F1 s1 (A1.setFl ho (lstF_some hx) rys) (.sh rd) hP
        | _ => exact h1.elim
theorem ve_appendF (h : VEx X W a ua va) (h2 : VAx X W [b] ut vt) (hbase : attributeBase a "append" X.env (eval a X.env) = eval a X.env := by rfl)
    (hfew : ((backTo cpos (starEach [b] X.env)).all (fun x => !x.1) && (backToKw cpos (keywordEach [] X.env)).all (fun x => x.1.isSome)
      && decide ([b].length + ([] : List Keyword).length + (if ([] : List Keyword).isEmpty then 0 else 1) < 30)) = true := by rfl)
    (hline : (apos.endLine == cpos.line) = true := by rfl) (hs : starEach [b] X.env = (false, eval b X.env) :: starEach [] X.env := by rfl) (hplain : (backTo cpos (starEach [] X.env)).any (·.1) = false := by rfl) :
    VEx X W (.Call (.Attribute a "append" apos) [b] [] cpos) (tBM X.K "list" rAppend ua ut) (vLF oApp va vt) :=
  ⟨pe_bm PySem.F.plainAttrs_list PySem.F.slot_list_append PySem.F.type_list_append mt_append h.p h2.p hbase hfew hline hs hplain, okE_lF mtS_app h.o h2.o⟩
theorem ve_pop0F (h : VEx X W a ua va) (hbase : attributeBase a "pop" X.env (eval a X.env) = eval a X.env := by rfl) (hline : (apos.endLine == cpos.line) = true := by rfl) :
    VEx X W (.Call (.Attribute a "pop" apos) [] [] cpos) (tBM0 X.K "list" rPop ua) (vLF0 oPop0 va) :=
  ⟨pe_bm0 PySem.F.plainAttrs_list PySem.F.slot_list_pop PySem.F.type_list_pop mt_pop h.p hbase hline, okE_lF0 mtV_pop0 h.o⟩
end
/-! ### a field is laid -/
section
variable {G : Gd} {S S' : Hp} {σ : L2.St} {H H' : Hp} {e : En} {F : Nat → List Addr}
/-- what a slot owns changes, and where it lies -/
theorem At.rewrite (A : At K G S σ H e F) {i : Nat} {o o' : O} {p : Addr} {f' : List Addr} (h : ownO e i = some o) (hp : σ[i]? = some (some (.ref p))) (k : ∀ a, a ∉ F i → H' a = H a) (ow : OwnAt K S H' o' p f')
    (hn : ∀ a ∈ f', a ∈ F i ∨ (S a = none ∧ G.B a = none ∧ ∀ j, a ∉ F j)) : ∃ F', At K G S σ H' (setO e i o') F' := by
  have hF : ∀ a, S a ≠ none → a ∉ F i := fun a ha hm => ha (A.fS i a hm).1
  have hB : ∀ a, G.B a ≠ none → a ∉ F i := fun a ha hm => ha (A.fS i a hm).2
  have len : (setO e i o').length = e.length := by
    unfold setO
    split <;> simp
  have hi : i < e.length := by
    unfold ownO at h
    cases q : e[i]? with
    | none => rw [q] at h; cases h
    | some _ => exact (List.getElem?_eq_some_iff.mp q).1
  have ne : ∀ j, j ≠ i → (setO e i o')[j]? = e[j]? := fun j hj => by
    unfold setO
    split
    · rw [List.getElem?_set_ne (Ne.symm hj)]
    · rw [List.getElem?_set_ne (Ne.symm hj)]
    · rfl
  refine ⟨fun j => if j = i then f' else F j, fun a u ha => by rw [k a (hF a (by rw [ha]; simp))]; exact A.sh a u ha, fun a u ha => by rw [k a (hB a (by rw [ha]; simp))]; exact A.bh a u ha, A.s0, A.nw, by rw [len]; exact A.len, fun j s hj => ?_, fun j hj => ?_, fun j a ha => ?_, fun j l a ha ha' => ?_, fun j o2 hj => ?_⟩
  · show SlAt K S H' σ[j]? s (if j = i then f' else F j)
    by_cases c : j = i
    · rw [if_pos c]
      subst c
      rw [hp]
      unfold setO at hj
      unfold ownO at h
      cases q : e[j]? with
      | none => rw [q] at h; cases h
      | some s0 =>
        have hl := (List.getElem?_eq_some_iff.mp q).1
        rw [q] at h hj
        cases s0 with
        | un => cases h
        | sh d => cases h
        | own _ =>
          rw [List.getElem?_set_self hl] at hj
          cases hj
          exact ⟨p, rfl, ow⟩
        | par _ =>
          rw [List.getElem?_set_self hl] at hj
          cases hj
          exact ⟨p, rfl, ow⟩
    · rw [if_neg c]
      rw [ne j c] at hj
      have sl := A.sl j s hj
      have kj : ∀ a ∈ F j, H' a = H a := fun a ha => k a fun z => c (A.dj j i a ha z)
      cases s with
      | un => exact sl
      | sh d => exact sl
      | own o2 => obtain ⟨q, hq, w⟩ := sl; exact ⟨q, hq, w.keep (Same.refl S) kj⟩
      | par o2 => obtain ⟨q, hq, w⟩ := sl; exact ⟨q, hq, w.keep (Same.refl S) kj⟩
  · rw [len] at hj
    show (if j = i then f' else F j) = []
    rw [if_neg (by omega)]
    exact A.fr j hj
  · have ha : a ∈ (if j = i then f' else F j) := ha
    split at ha
    · rcases hn a ha with z | z
      · exact A.fS i a z
      · exact ⟨z.1, z.2.1⟩
    · exact A.fS j a ha
  · have ha : a ∈ (if j = i then f' else F j) := ha
    have ha' : a ∈ (if l = i then f' else F l) := ha'
    split at ha
    · rename_i c1
      split at ha'
      · rename_i c2; rw [c1, c2]
      · rcases hn a ha with z | z
        · rw [c1]; exact A.dj i l a z ha'
        · exact absurd ha' (z.2.2 l)
    · split at ha'
      · rename_i c2
        rcases hn a ha' with z | z
        · rw [c2]; exact A.dj j i a ha z
        · exact absurd ha (z.2.2 j)
      · exact A.dj j l a ha ha'
  · by_cases c : j = i
    · subst c
      unfold setO at hj
      unfold ownO at h
      cases q : e[j]? with
      | none => rw [q] at h; cases h
      | some s0 =>
        have hl := (List.getElem?_eq_some_iff.mp q).1
        rw [q] at h hj
        cases s0 with
        | un => cases h
        | sh d => cases h
        | own _ =>
          rw [List.getElem?_set_self hl] at hj
          cases hj
        | par o3 => exact A.pr j o3 q
    · rw [ne j c] at hj
      exact A.pr j o2 hj
/-- the fields of an own thing -/
def fldsO : O → Option (Addr × List (Str × Fd))
  | .obj C fs => some (C, fs)
  | .ins C fs => some (C, fs.map fun q => (q.1, .d q.2))
  | _ => none
theorem Repf.ownF {S H : Hp} : ∀ {fs : List (Str × D)} {gs : List (Str × V)}, Repf K S fs gs → OwnF K S H (fs.map fun q => (q.1, Fd.d q.2)) gs []
  | _, _, .nil => .nil
  | _, _, .cons r t => .d r (Repf.ownF t)
theorem OwnAt.flds {S H : Hp} {o : O} {C : Addr} {fs : List (Str × Fd)} {p : Addr} {f : List Addr} (h : OwnAt K S H o p f) (hf : fldsO o = some (C, fs)) : ∃ dx gs qs, f = p :: dx :: qs ∧ H p = some (.ins C dx gs) ∧ H dx = some (.own p) ∧ OwnF K S H fs gs qs ∧ (p :: dx :: qs).Nodup := by
  cases o with
  | obj C' fs' => cases hf; exact h.objInv
  | ins C' fs' =>
    cases hf
    obtain ⟨dx, gs, ef, hH, hd, rf⟩ := h.insInv
    refine ⟨dx, gs, [], ef, hH, hd, rf.ownF, ?_⟩
    have ne : p ≠ dx := ne_of hH hd (by intro z; cases z)
    simp [ne]
  | _ => cases hf
theorem OwnF.length {S H : Hp} : ∀ {fs : List (Str × Fd)} {gs : List (Str × V)} {qs : List Addr}, OwnF K S H fs gs qs → fs.length = gs.length
  | _, _, _, .nil => rfl
  | _, _, _, .d _ t => by simp [OwnF.length t]
  | _, _, _, .l _ _ t => by simp [OwnF.length t]
  | _, _, _, .kd _ _ t => by simp [OwnF.length t]
/-- a field's value, and what it owns -/
inductive FdO (K : PySem.W.Frag) (S H : Hp) : Fd → V → List Addr → Prop
  | d {x : D} {v : V} (h : Rep K S x v) : FdO K S H (.d x) v []
  | l {q : Addr} {xs : List D} {vs : List V} (h : H q = some (.lst vs)) (r : Reps K S xs vs) : FdO K S H (.l q xs) (.ref q) [q]
  | kd {q : Addr} {kvs : List (Key × D)} {ws : List (Key × V)} (h : H q = some (.dK ws)) (r : Repk K S kvs ws) : FdO K S H (.kd q kvs) (.ref q) [q]
theorem FdO.cons {S H : Hp} {n : Str} {x : Fd} {v : V} {l : List Addr} {fs : List (Str × Fd)} {gs : List (Str × V)} {qs : List Addr} (h : FdO K S H x v l) (t : OwnF K S H fs gs qs) : OwnF K S H ((n, x) :: fs) ((n, v) :: gs) (l ++ qs) := by
  cases h with
  | d r => exact .d r t
  | l h r => exact .l h r t
  | kd h r => exact .kd h r t
theorem OwnF.put {S H : Hp} {f : Str} {x : Fd} {v : V} {l : List Addr} (hx : FdO K S H x v l) : ∀ {fs : List (Str × Fd)} {gs : List (Str × V)} {qs : List Addr}, OwnF K S H fs gs qs → (∀ a ∈ l, a ∉ qs) → l.Nodup → qs.Nodup → ∃ qs', OwnF K S H (fputF f x fs) (putF f v gs) qs' ∧ qs'.Nodup ∧ ∀ a ∈ qs', a ∈ l ∨ a ∈ qs
  | _, _, _, .nil, hl, nl, nq => ⟨l ++ [], hx.cons .nil, by simpa using nl, fun a h => by simp at h; exact .inl h⟩
  | _, _, _, .d (n := n) r t, hl, nl, nq => by
    unfold fputF putF
    by_cases c : n = f
    · rw [if_pos c, if_pos c]
      exact ⟨_, hx.cons t, List.nodup_append.mpr ⟨nl, nq, fun a ha b hb e => hl a ha (by rw [e]; exact hb)⟩, fun a h => List.mem_append.mp h⟩
    · rw [if_neg c, if_neg c]
      obtain ⟨qs', h1, h2, h3⟩ := OwnF.put hx t hl nl nq
      exact ⟨qs', .d r h1, h2, h3⟩
  | _, _, _, .l (n := n) (q := q) (qs := qs) h r t, hl, nl, nq => by
    obtain ⟨n1, n2⟩ := List.nodup_cons.mp nq
    have hl' : ∀ a ∈ l, a ∉ qs := fun a ha z => hl a ha (List.mem_cons_of_mem _ z)
    unfold fputF putF
    by_cases c : n = f
    · rw [if_pos c, if_pos c]
      exact ⟨_, hx.cons t, List.nodup_append.mpr ⟨nl, n2, fun a ha b hb e => hl' a ha (by rw [e]; exact hb)⟩, fun a h => (List.mem_append.mp h).imp id (List.mem_cons_of_mem _)⟩
    · rw [if_neg c, if_neg c]
      obtain ⟨qs', h1, h2, h3⟩ := OwnF.put hx t hl' nl n2
      refine ⟨q :: qs', .l h r h1, List.nodup_cons.mpr ⟨fun z => (h3 q z).elim (fun z => hl q z (by simp)) n1, h2⟩, fun a ha => ?_⟩
      rcases List.mem_cons.mp ha with rfl | ha
      · exact .inr (by simp)
      · exact (h3 a ha).imp id (List.mem_cons_of_mem _)
  | _, _, _, .kd (n := n) (q := q) (qs := qs) h r t, hl, nl, nq => by
    obtain ⟨n1, n2⟩ := List.nodup_cons.mp nq
    have hl' : ∀ a ∈ l, a ∉ qs := fun a ha z => hl a ha (List.mem_cons_of_mem _ z)
    unfold fputF putF
    by_cases c : n = f
    · rw [if_pos c, if_pos c]
      exact ⟨_, hx.cons t, List.nodup_append.mpr ⟨nl, n2, fun a ha b hb e => hl' a ha (by rw [e]; exact hb)⟩, fun a h => (List.mem_append.mp h).imp id (List.mem_cons_of_mem _)⟩
    · rw [if_neg c, if_neg c]
      obtain ⟨qs', h1, h2, h3⟩ := OwnF.put hx t hl' nl n2
      refine ⟨q :: qs', .kd h r h1, List.nodup_cons.mpr ⟨fun z => (h3 q z).elim (fun z => hl q z (by simp)) n1, h2⟩, fun a ha => ?_⟩
      rcases List.mem_cons.mp ha with rfl | ha
      · exact .inr (by simp)
      · exact (h3 a ha).imp id (List.mem_cons_of_mem _)
theorem At.putFd (A : At K G S σ H e F) {i : Nat} {o : O} {C dx : Addr} {fs : List (Str × Fd)} {gs : List (Str × V)} {f : Str} {x : Fd} {v : V} {l : List Addr} {p : Addr} (h : ownO e i = some o) (hf : fldsO o = some (C, fs)) (hp : σ[i]? = some (some (.ref p))) (hH : H p = some (.ins C dx gs))
    (hx : FdO K S H x v l) (nl : l.Nodup) (hl : ∀ a ∈ l, S a = none ∧ G.B a = none ∧ ∀ j, a ∉ F j) : ∃ F', At K G S σ (upd H p (.ins C dx (putF f v gs))) (setO e i (.obj C (fputF f x fs))) F' := by
  obtain ⟨p', hp', ow⟩ := A.owned h
  rw [hp] at hp'; cases hp'
  obtain ⟨dx', gs', qs, ef, hH', hd, rf, nd⟩ := ow.flds hf
  rw [hH] at hH'; cases hH'
  have n1 := List.nodup_cons.mp nd
  have n2 := List.nodup_cons.mp n1.2
  have hne : ∀ a ∈ l, a ∉ F i := fun a ha => (hl a ha).2.2 i
  obtain ⟨qs', r1, r2, r3⟩ := OwnF.put (f := f) hx rf (fun a ha z => hne a ha (by rw [ef]; simp [z])) nl n2.2
  have off : ∀ a ∈ qs', a ≠ p ∧ a ≠ dx := fun a ha => by
    rcases r3 a ha with z | z
    · exact ⟨fun e => hne a z (by rw [ef, e]; simp), fun e => hne a z (by rw [ef, e]; simp)⟩
    · exact ⟨fun e => n1.1 (by rw [← e]; simp [z]), fun e => n2.1 (by rw [← e]; exact z)⟩
  have ne : dx ≠ p := fun z => n1.1 (by rw [z]; simp)
  refine A.rewrite h hp (fun a ha => upd_ne fun z => ha (by rw [ef, z]; simp)) (.obj (qs := qs') upd_same (by rw [upd_ne ne]; exact hd) (r1.keep (Same.refl S) fun a ha => upd_ne (off a ha).1) ?_) fun a ha => ?_
  · refine List.nodup_cons.mpr ⟨fun z => ?_, List.nodup_cons.mpr ⟨fun z => (off _ z).2 rfl, r2⟩⟩
    rcases List.mem_cons.mp z with z | z
    · exact ne z.symm
    · exact (off _ z).1 rfl
  · rw [ef]
    rcases List.mem_cons.mp ha with rfl | ha
    · exact .inl (by simp)
    · rcases List.mem_cons.mp ha with rfl | ha
      · exact .inl (by simp)
      · rcases r3 a ha with z | z
        · exact .inr (hl a z)
        · exact .inl (by simp [z])
end
section
variable {X : Cx} {W : WX} {pos p apos cpos pos' : Pos} {a b : Expr} {ub : TE} {vb : VTE} {f z : Str}
def sFP2 (r : Re) (C : Addr) (fs : List (Str × Fd)) (f : Str) (i : Nat) (E : VE) (e : En) : Prop := match r with
  | .sh d => E.nx (setO e i (.obj C (fputF f (.d d) fs)))
  | .own (.lst xs) => ∀ q, E.nx (setO e i (.obj C (fputF f (.l q xs) fs)))
  | .own (.dic kvs) => ∀ q, E.nx (setO e i (.obj C (fputF f (.kd q kvs) fs)))
  | _ => False
def sFP1 (c : Option (Addr × List (Str × Fd))) (Cs : List Addr) (f : Str) (i : Nat) (r : Re) (E : VE) (e : En) : Prop := match c with
  | some (C, fs) => C ∈ Cs ∧ fs.length < 1000 ∧ sFP2 r C fs f i E e
  | none => False
def sFP (s : Option O) (Cs : List Addr) (f : Str) (i : Nat) (r : Re) (E : VE) (e : En) : Prop := match s with
  | some o => sFP1 (fldsO o) Cs f i r E e
  | none => False
def kFP (Cs : List Addr) (f : Str) (i : Nat) (E : VE) : KE := fun r e => sFP (ownO e i) Cs f i r E e
/-- o.f = e, o the i-th slot -/
def vFP (Cs : List Addr) (i : Nat) (u : VTE) (f : Str) : VTS := fun E e => u E.ex e (kFP Cs f i E)
theorem vs_fP {Cs : List Addr} (hC : ∀ C ∈ Cs, ClsF X.K f C) (i : Nat) (hv : VEx X W b ub vb) (hN : X.N[i]? = some z := by rfl) (hvv : Vis X.env.scope z := by first | exact Or.inl rfl | exact Or.inr (Or.inl rfl) | exact Or.inr (Or.inr rfl))
    (hd : (z == ("__debug__" : Str)) = false := by decide) (hcd : (z == ("__classdict__" : Str)) = false := by decide)
    (hs : swapsWith b (some (.Attribute (.Name z p) f pos')) pos.line X.env = pure false := by rfl) :
    VSx X W (.Assign [.Attribute (.Name z p) f pos'] b pos) (sFld X.K (tVar i) ub f) (vFP Cs i vb f) := by
  refine ⟨ps_fld (pe_var hN hvv hd hcd) hv.p hs, fun G S σ H e F E D A hq ho => ?_⟩
  refine hv.o G S σ H e F E.ex _ _ ho.2.2.2.2 A hq fun r v S1 H1 e1 F1 s1 A1 q1 h1 => ?_
  have h1 : sFP (ownO e1 i) Cs f i r E e1 := h1
  cases hw : ownO e1 i with
  | none => rw [hw] at h1; exact h1.elim
  | some o =>
    rw [hw] at h1
    have h1 : sFP1 (fldsO o) Cs f i r E e1 := h1
    cases hf : fldsO o with
    | none => rw [hf] at h1; exact h1.elim
    | some cf =>
      obtain ⟨C, fs⟩ := cf
      rw [hf] at h1
      obtain ⟨hm, hlen, h1⟩ := h1
      obtain ⟨p, hp, ow⟩ := A1.owned hw
      obtain ⟨dx, gs, qs, ef, hH, hd, rf, nd⟩ := ow.flds hf
      refine ⟨_, hp, ?_⟩
      refine ⟨p, C, dx, gs, rfl, hH, (hC C hm).c, (hC C hm).n, by rw [← rf.length]; exact hlen, ?_⟩
      cases r with
      | sh d =>
        cases q1 with
        | sh q1 =>
          obtain ⟨F2, A2⟩ := A1.putFd (f := f) hw hf hp hH (.d q1) List.nodup_nil fun a h => by cases h
          exact ho.1 _ _ _ _ _ A2 h1
      | bor _ => exact h1.elim
      | fld _ _ _ => exact h1.elim
      | own o2 =>
        cases q1 with
        | own ow2 hf2 =>
          cases o2 with
          | lst xs =>
            obtain ⟨vs, e2, h2, r2⟩ := ow2.listInv
            subst e2
            obtain ⟨F2, A2⟩ := A1.putFd (f := f) hw hf hp hH (.l h2 r2) (by simp) hf2
            exact ho.1 _ _ _ _ _ A2 (h1 _)
          | dic kvs =>
            obtain ⟨vs, e2, h2, r2⟩ := ow2.dictInv
            subst e2
            obtain ⟨F2, A2⟩ := A1.putFd (f := f) hw hf hp hH (.kd h2 r2) (by simp) hf2
            exact ho.1 _ _ _ _ _ A2 (h1 _)
          | _ => exact h1.elim
end
end VL
namespace L2
open PySem PySem.Spec PyProof.Rows
def tMethO (C : Addr) (m : Str) (sp : Sp) (E : St → XK) (ta : TE) (t : TA) : TE := fun σ H Q => ta σ H fun x H1 => ∃ a dx fs, x = .ref a ∧ H1 a = some (.ins C dx fs) ∧ fs.lookup m = none ∧ t σ H1 fun vs H2 => sp (x :: vs) H2 Q (E σ)
section
variable {X : Cx} {CX : CXT} {k : Nat} {f C : Addr} {fd : FuncData} {ps : List Str} {sp : Sp} {E : St → XK} {x m : Str} {p pos apos : Pos} {e o : Expr} {es : List Expr} {ta : TE} {t : TA}
theorem pe_methO {pl : Sem Bool} (he : PE X o ta) (c : Cls X.K C) (hm : Meth X.K C m f) (F : FnOk X.prog X.w X.K X.mg X.base CX k f fd ps sp) (hr : Room k X.A) (hb : Binds X.K fd ps []) (hx : ∀ σ, PassesAt CX X σ (E σ)) (ha : PA X (e :: es) t)
    (hst : starEach (e :: es) X.env = (false, eval e X.env) :: starEach es X.env := by rfl) (hpl : (backTo pos (starEach es X.env)).any (·.1) = false := by rfl)
    (ht : eval (.Call (.Attribute o m apos) (e :: es) [] pos) X.env = (do
      let ov ← eval o X.env
      standAt apos.atName
      let (f, first) ← holding [ov] (getMethod ov m pl)
      callWith pos f first (backTo pos (starEach (e :: es) X.env)) (backToKw pos (keywordEach [] X.env))) := by rfl) :
    PE X (.Call (.Attribute o m apos) (e :: es) [] pos) (tMethO C m sp E ta t) := by
  refine ⟨fun pins s σ H Q I h => ?_⟩
  refine PySem.W.methodCall_KW (pl := pl) (thn (he.run pins s σ H _ I h) fun u s1 ⟨x, H1, I1, rx, a, dx, fs, ex, ea, l, q⟩ => ?_) ht
  subst ex
  obtain rfl : u = Value.ref a := rx
  refine getmeth_ok I1 ea c hm l ?_
  refine PySem.W.callWith_K (first := [.ref a]) (h₀ := X.base) I.ok.mod.kin hm.kp (thn (ha.run pos pins s1 σ H1 _ I1 q) fun us s2 ⟨vs, H2, I2, r, q2⟩ => ⟨I2.kIn, ?_⟩) hst hpl
  exact run_fnS (us := .ref a :: us) (vs := .ref a :: vs) F hr hb (hx σ) I2 (.cons rfl r) q2
theorem pe_methO0 {pl : Sem Bool} (he : PE X o ta) (c : Cls X.K C) (hm : Meth X.K C m f) (F : FnOk X.prog X.w X.K X.mg X.base CX k f fd ps sp) (hr : Room k X.A) (hb : Binds X.K fd ps []) (hx : ∀ σ, PassesAt CX X σ (E σ))
    (ht : eval (.Call (.Attribute o m apos) [] [] pos) X.env = (do
      let ov ← eval o X.env
      standAt apos.atName
      let (f, first) ← holding [ov] (getMethod ov m pl)
      callWith pos f first (backTo pos (starEach [] X.env)) (backToKw pos (keywordEach [] X.env))) := by rfl) :
    PE X (.Call (.Attribute o m apos) [] [] pos) (tMethO C m sp E ta tNil) := by
  refine ⟨fun pins s σ H Q I h => ?_⟩
  refine PySem.W.methodCall_KW (pl := pl) (thn (he.run pins s σ H _ I h) fun u s1 ⟨x, H1, I1, rx, a, dx, fs, ex, ea, l, q⟩ => ?_) ht
  subst ex
  obtain rfl : u = Value.ref a := rx
  refine getmeth_ok I1 ea c hm l ?_
  exact PySem.W.callWith_K0 (first := [.ref a]) I1.kIn hm.kp (run_fnS (us := [.ref a]) (vs := [.ref a]) F hr hb (hx σ) I1 (.cons rfl .nil) q)
end
end L2
namespace VL
open PySem PySem.Spec PyProof.Rows L2
variable {K : PySem.W.Frag}
/-! ### methods -/
def kM2 (c : VSp) (i : Nat) (x : VX) (Q : KE) : KA := fun rs e => oB (argsS e (.bor i :: rs)) fun as => (bors (.bor i :: rs)).Nodup ∧ c as (fun r as' => okBack (.bor i :: rs) as' ∧ Q r (backA e (.bor i :: rs) as')) (fun xc as' => okBack (.bor i :: rs) as' ∧ x xc (backA e (.bor i :: rs) as'))
def sM1 (q : Option (Addr × List (Str × Fd))) (C : Addr) (m : Str) (c : VSp) (u : VTA) (i : Nat) (x : VX) (Q : KE) (e : En) : Prop := match q with
  | some (C', fs) => C' = C ∧ fs.lookup m = none ∧ u x e (kM2 c i x Q)
  | none => False
def sM (s : Option O) (C : Addr) (m : Str) (c : VSp) (u : VTA) (i : Nat) (x : VX) (Q : KE) (e : En) : Prop := match s with
  | some o => sM1 (fldsO o) C m c u i x Q e
  | none => False
def kM (C : Addr) (m : Str) (c : VSp) (u : VTA) (x : VX) (Q : KE) : KE := fun r e => match r with
  | .bor i => sM (ownO e i) C m c u i x Q e
  | _ => False
/-- o.m(..), o a slot's own object -/
def vMeth (C : Addr) (m : Str) (c : VSp) (t : VTE) (u : VTA) : VTE := fun x e Q => t x e (kM C m c u x Q)
theorem okE_meth {W : WX} {n : Nat} {C : Addr} {m : Str} {c : VSp} {ua : TE} {va : VTE} {ut : TA} {vt : VTA} (ha : OkE K W ua va) (h : OkA K W ut vt) (hn : ∀ as P PX, c as P PX → as.length = n) : OkE K W (tMethO C m (spV K n c) (WE W) ua ut) (vMeth C m c va vt) := by
  intro G S σ H e F x Q R xo A hq k
  refine ha G S σ H e F x _ _ xo A hq fun r v S1 H1 e1 F1 s1 A1 q1 h1 => ?_
  cases r with
  | sh d => exact h1.elim
  | own d => exact h1.elim
  | fld _ _ _ => exact h1.elim
  | bor i =>
    cases q1 with
    | bor hσ =>
      have h1 : sM (ownO e1 i) C m c vt i x Q e1 := h1
      cases ho : ownO e1 i with
      | none => rw [ho] at h1; exact h1.elim
      | some o =>
        rw [ho] at h1
        have h1 : sM1 (fldsO o) C m c vt i x Q e1 := h1
        cases hf : fldsO o with
        | none => rw [hf] at h1; exact h1.elim
        | some cf =>
          obtain ⟨C', fs⟩ := cf
          rw [hf] at h1
          obtain ⟨rfl, hl, h1⟩ := h1
          obtain ⟨p, hp, ow⟩ := A1.owned ho
          rw [hσ] at hp; cases hp
          obtain ⟨dx, gs, qs, ef, hH, hd, rf, nd⟩ := ow.flds hf
          refine ⟨p, dx, gs, rfl, hH, rf.noLook hl, ?_⟩
          refine h G S1 σ H1 e1 F1 x _ _ xo A1 h1 fun rs vs S2 H2 e2 F2 s2 A2 q2 h2 => ?_
          have h2 : kM2 c i x Q rs e2 := h2
          obtain ⟨as, hA, nd2, h2⟩ := oB_some h2
          have q2' : ReAts K G S2 H2 σ F2 (.bor i :: rs) (.ref p :: vs) := .bor hσ q2
          have l1 := (argsS_get hA).1
          have l2 := q2'.get.1
          refine ⟨by have := hn _ _ _ h2; omega, BA H2 F2 (.bor i :: rs), fun j => ((V.ref p :: vs).map some)[j]?, S2, as, FA F2 (.bor i :: rs), _, _, A2.into q2' hA nd2, h2, fun r v S' H' as' F' A' rr nb hp => ?_, fun cls pay d S' H' as' F' A' pp hp => ?_⟩
          · obtain ⟨F3, A3, hr⟩ := A2.from q2' hA nd2 A' hp.1
            exact k r v S' H' _ F3 ((s1.trans s2).trans A'.s0) A3 (hr r v nb rr) hp.2
          · obtain ⟨F3, A3, hr⟩ := A2.from q2' hA nd2 A' hp.1
            exact xo cls pay d S' σ H' _ F3 A3 pp hp.2
/-! ### for simp -/
section
variable {x : VX} {e : En} {r : Re} {d : D} {i : Nat} {q : Addr} {f m : Str} {C C' : Addr} {Cs : List Addr} {fs : List (Str × Fd)} {Q : KE} {E : VE} {rs : List Re} {ds xs ys : List D} {o : MOp} {t : VTE} {u : VTA} {c : VSp}
theorem vFO_d : vFO Cs t f x e Q = t x e (kFO Cs f Q) := rfl
theorem kFO_d : kFO Cs f Q (.bor i) e = sFO (ownO e i) Cs f i Q e := rfl
theorem sFO_d : sFO (some (.obj C fs)) Cs f i Q e = (C ∈ Cs ∧ sFO2 (fs.lookup f) i f Q e) := rfl
theorem sFO2_sh : sFO2 (some (.d d)) i f Q e = Q (.sh d) e := rfl
theorem sFO2_l : sFO2 (some (.l q xs)) i f Q e = Q (.fld q i f) e := rfl
theorem sFO2_kd {kvs : List (Key × D)} : sFO2 (some (.kd q kvs)) i f Q e = Q (.fld q i f) e := rfl
theorem vLF_d : vLF o t u x e Q = t x e (kLF o u x Q) := rfl
theorem kLF_d : kLF o u x Q (.fld q i f) e = sLF (ownO e i) o u q i f x Q e := rfl
theorem sLF_d : sLF (some (.obj C fs)) o u q i f x Q e = oB (lstF q (fs.lookup f)) (kLFa o u q i f x Q e) := rfl
theorem kLFa_d : kLFa o u q i f x Q e xs = u x e (kLF1 o q i f Q) := rfl
theorem kLF1_d : kLF1 o q i f Q rs e = sLF2 (ownO e i) (shs rs) o q i f Q e := rfl
theorem sLF2_d {z : Option (List D)} : sLF2 (some (.obj C fs)) z o q i f Q e = oB (lstF q (fs.lookup f)) (kLFb z o q i f C fs Q e) := rfl
theorem kLFb_d {z : Option (List D)} : kLFb z o q i f C fs Q e xs = oB z (kLF2 o xs q i f C fs Q e) := rfl
theorem kLF2_d : kLF2 o xs q i f C fs Q e ds = o xs ds (kLF3 q i f C fs Q e) := rfl
theorem kLF3_d : kLF3 q i f C fs Q e d ys = Q (.sh d) (setO e i (.obj C (fputF f (.l q ys) fs))) := rfl
theorem vLF0_d : vLF0 o t x e Q = t x e (kLF0 o Q) := rfl
theorem kLF0_d : kLF0 o Q (.fld q i f) e = sLF0 (ownO e i) o q i f Q e := rfl
theorem sLF0_d : sLF0 (some (.obj C fs)) o q i f Q e = oB (lstF q (fs.lookup f)) (kLFe o q i f C fs Q e) := rfl
theorem kLFe_d : kLFe o q i f C fs Q e xs = o xs [] (kLF3 q i f C fs Q e) := rfl
theorem vFP_d {v : VTE} : vFP Cs i v f E e = v E.ex e (kFP Cs f i E) := rfl
theorem kFP_d : kFP Cs f i E r e = sFP (ownO e i) Cs f i r E e := rfl
theorem sFP_d {o : O} : sFP (some o) Cs f i r E e = sFP1 (fldsO o) Cs f i r E e := rfl
theorem sFP1_d : sFP1 (some (C, fs)) Cs f i r E e = (C ∈ Cs ∧ fs.length < 1000 ∧ sFP2 r C fs f i E e) := rfl
theorem sFP2_sh : sFP2 (.sh d) C fs f i E e = E.nx (setO e i (.obj C (fputF f (.d d) fs))) := rfl
theorem sFP2_l : sFP2 (.own (.lst xs)) C fs f i E e = ∀ q, E.nx (setO e i (.obj C (fputF f (.l q xs) fs))) := rfl
theorem sFP2_kd {kvs : List (Key × D)} : sFP2 (.own (.dic kvs)) C fs f i E e = ∀ q, E.nx (setO e i (.obj C (fputF f (.kd q kvs) fs))) := rfl
theorem vMeth_d : vMeth C m c t u x e Q = t x e (kM C m c u x Q) := rfl
theorem kM_d : kM C m c u x Q (.bor i) e = sM (ownO e i) C m c u i x Q e := rfl
theorem sM_d {o : O} : sM (some o) C m c u i x Q e = sM1 (fldsO o) C m c u i x Q e := rfl
theorem sM1_d : sM1 (some (C', fs)) C m c u i x Q e = (C' = C ∧ fs.lookup m = none ∧ u x e (kM2 c i x Q)) := rfl
theorem kM2_d : kM2 c i x Q rs e = kCall c x Q (.bor i :: rs) e := rfl
theorem fldsO_obj : fldsO (.obj C fs) = some (C, fs) := rfl
theorem fldsO_ins0 : fldsO (.ins C []) = some (C, []) := rfl
theorem sCo_fld {Q' : KA} : sCo (.fld q i f) u x e Q' = u x e (kCo2 (.fld q i f) Q') := rfl
theorem fputF_nil {y : Fd} : fputF f y [] = [(f, y)] := rfl
theorem fputF_hd {y z : Fd} : fputF f y ((f, z) :: fs) = (f, y) :: fs := if_pos rfl
end
/-! ### methods of a class, by names -/
section
variable {P : Program} {w : World} {mg : Str → Option Value} {base : Heap}
/-- the class C's method m does c -/
structure MetG (P : Program) (w : World) (K : PySem.W.Frag) (mg : Str → Option Value) (base : Heap) (k : Nat) (C : Addr) (m : Str) (n : Nat) (c : VSp) : Prop where
  fn : ∃ (f : Addr) (fd : FuncData) (ps : List Str), ps.length = n ∧ FnOk P w K mg base (L2.CX P w) k f fd ps (spV K n c) ∧ Binds K fd ps [] ∧ Cls K C ∧ Meth K C m f
  len : ∀ as P PX, c as P PX → as.length = n
theorem metG {N ps : List Str} {k : Nat} {c : VSp} {t : VTS} {m y qual : Str} {params : Arguments} {body : List Stmt} {scope : Scope} {f C : Addr} {fd : FuncData} (F : FunD K y qual params body scope [] [] f fd) (S : FnScope N ps scope) (hc : Cls K C) (hm : Meth K C m f)
    (hb : ∀ (kV doc pm : Value) (an : Option Addr) (cdv ct : Value) (us : List Value), us.length = ps.length → bindArgs (PySem.W.fnOf y qual params body scope .none kV doc pm an cdv ct) ⟨us, []⟩ = pure (ps.zip us))
    (len : ∀ as P PX, c as P PX → as.length = ps.length)
    (hbody : ∀ (cdv : Value) (A : Around) (outer : List Env) (s : Shared) (H : Hp) (E : XK), Room k (A.deeper (envOfC qual scope s.heap.objs.size f cdv)) → ∃ u, VSs (CxV P w K mg base N qual scope f cdv A outer s H E) (WEx E) body u t)
    (hlaw : ∀ as P PX, as.length = ps.length → c as P PX → t (endsV as P PX) (startE N.length as)) : MetG P w K mg base (k + 1) C m ps.length c :=
  ⟨⟨f, fd, ps, rfl, fnV F S hbody hlaw, F.bindsN hb, hc, hm⟩, len⟩
end
section
variable {X : Cx} {W : WX} {pos p apos : Pos} {a b : Expr} {es : List Expr} {m : Str} {k j n : Nat} {C : Addr} {c : VSp} {ua : TE} {va : VTE} {ut : TA} {vt : VTA}
theorem ve_methG {pl : Sem Bool} (F : MetG X.prog X.w X.K X.mg X.base k C m n c) (hr : Room j X.A) (hx : PxV X W) (ho : VEx X W a ua va) (h : VAx X W (b :: es) ut vt) (hkj : k ≤ j := by decide)
    (hst : starEach (b :: es) X.env = (false, eval b X.env) :: starEach es X.env := by rfl) (hpl : (backTo pos (starEach es X.env)).any (·.1) = false := by rfl)
    (ht : eval (.Call (.Attribute a m apos) (b :: es) [] pos) X.env = (do
      let ov ← eval a X.env
      standAt apos.atName
      let (f, first) ← holding [ov] (getMethod ov m pl)
      callWith pos f first (backTo pos (starEach (b :: es) X.env)) (backToKw pos (keywordEach [] X.env))) := by rfl) :
    VEx X W (.Call (.Attribute a m apos) (b :: es) [] pos) (tMethO C m (spV X.K n c) (WE W) ua ut) (vMeth C m c va vt) := by
  obtain ⟨⟨f, fd, ps, hn, hf, hb, hc, hm⟩, hl⟩ := F
  subst hn
  exact ⟨pe_methO (pl := pl) ho.p hc hm hf (hr.mono hkj) hb hx h.p hst hpl ht, okE_meth ho.o h.o hl⟩
theorem ve_methG0 {pl : Sem Bool} (F : MetG X.prog X.w X.K X.mg X.base k C m n c) (hr : Room j X.A) (hx : PxV X W) (ho : VEx X W a ua va) (hkj : k ≤ j := by decide)
    (ht : eval (.Call (.Attribute a m apos) [] [] pos) X.env = (do
      let ov ← eval a X.env
      standAt apos.atName
      let (f, first) ← holding [ov] (getMethod ov m pl)
      callWith pos f first (backTo pos (starEach [] X.env)) (backToKw pos (keywordEach [] X.env))) := by rfl) :
    VEx X W (.Call (.Attribute a m apos) [] [] pos) (tMethO C m (spV X.K n c) (WE W) ua tNil) (vMeth C m c va vNil) := by
  obtain ⟨⟨f, fd, ps, hn, hf, hb, hc, hm⟩, hl⟩ := F
  subst hn
  exact ⟨pe_methO0 (pl := pl) ho.p hc hm hf (hr.mono hkj) hb hx ht, okE_meth ho.o va_nil.o hl⟩
end
end VL

end

local macro_rules
  | `(tactic| simp_arith! [$xs,*]) => `(tactic| simp -dsimp -failIfUnchanged -implicitDefEqProofs only [↓VL.kQ_d, ↓VL.vVar_d, VL.sVar_sh, VL.sVar_own, VL.sVar_par, ↓VL.vC_d, ↓VL.kOp4_d, ↓VL.kOp3_d, ↓VL.kOp2_d, ↓VL.kOp1_d, ↓VL.vOp_d, VL.kB2_d, ↓VL.kB_d, ↓VL.vB_d, VL.sAnd_t, VL.sAnd_f, ↓VL.kAnd_d, ↓VL.vAnd_d, VL.sOr_t, VL.sOr_f, ↓VL.kOr_d, ↓VL.vOr_d, ↓VL.kNot_d, ↓VL.vNot_d, VL.sAndV_t, VL.sAndV_f, VL.kAndV2_d, ↓VL.kAndV_d, ↓VL.vAndV_d, VL.sOrV_t, VL.sOrV_f, VL.kOrV2_d, ↓VL.kOrV_d, ↓VL.vOrV_d, VL.kNotV2_d, ↓VL.kNotV_d, ↓VL.vNotV_d, VL.sIfE_t, VL.sIfE_f, ↓VL.kIfE_d, ↓VL.vIf_d, VL.sCh_t, VL.sCh_f, VL.kCh5_d, ↓VL.kCh4_d, ↓VL.kCh3_d, ↓VL.kCh2_d, ↓VL.kCh1_d, ↓VL.vChain_d, ↓VL.vNil_d, ↓VL.kCo2_d, VL.sCo_sh, VL.sCo_bor, ↓VL.kCo1_d, ↓VL.vCons_d, ↓VL.kTup2_d, ↓VL.kTup_d, ↓VL.vTup_d, ↓VL.kLst2_d, ↓VL.kLst_d, ↓VL.vLst_d, ↓VL.vDic0_d, ↓VL.kCB2_d, ↓VL.kCB_d, ↓VL.vCallB_d, ↓VL.vNoPart_d, VL.kPart2_d, ↓VL.kPart_d, ↓VL.vPart_d, ↓VL.kSl4_d, ↓VL.kSl3_d, ↓VL.kSl2_d, ↓VL.kSl1_d, ↓VL.vSl_d, ↓VL.kSh_d, VL.kFldC2_d, ↓VL.kFldC_d, ↓VL.vFldC_d, ↓VL.vgName_d, ↓VL.vgNil_d, ↓VL.kgC_d, ↓VL.vgCons_d, ↓VL.vgTup_d, ↓VL.kgS3_d, ↓VL.kgS4_d, VL.sgSub2_lst, VL.sgSub2_dic, ↓VL.kgS2_d, ↓VL.kgS_d, VL.sgSub_d, ↓VL.vgSub_d, ↓VL.vNext_d, ↓VL.vSeq_d, ↓VL.vBreak_d, ↓VL.vCont_d, ↓VL.vNever_d, VL.sAsg_sh, VL.sAsg_own, ↓VL.kAsg_d, ↓VL.vAsg_d, VL.sAsgG_sh, ↓VL.kAsgG_d, ↓VL.vAsgG_d, VL.kPar_d, ↓VL.vPar_d, VL.kAug3_d, ↓VL.kAug2_d, ↓VL.kAug_d, VL.sAug_d, ↓VL.vAug_d, ↓VL.kDrop_d, ↓VL.vDrop_d, VL.sRt_d, VL.kRt_sh, VL.kRt_own, VL.kRt_bor, ↓VL.vRet_d, ↓VL.vRetN_d, VL.sIfS_t, VL.sIfS_f, ↓VL.kIfS_d, ↓VL.vIfS_d, VL.kEnum_l, VL.kEnum_t, VL.sEnum_d, VL.kEnum_b, ↓VL.viEnum_d, VL.kRng1_d, ↓VL.viRng1_d, VL.kRng2_d, ↓VL.viRng2_d, VL.kRng3_d, ↓VL.viRng3_d, ↓VL.kFor_d, VL.sLock_own, VL.sLock_par, ↓VL.vYes_d, ↓VL.kLc_d, ↓VL.kDc_d, VL.sFrzB_dic, VL.sFrzB_lst, VL.sFrzB_ins, VL.sFrzB_par, VL.kFrz_fld, VL.kFrz_sh, VL.kFrz_dic, VL.kFrz_lst, VL.kFrz_ins, VL.kFrz_bor, ↓VL.vFrz_d, VL.kVals_d, ↓VL.viVals_d, VL.kItems_d, ↓VL.viItems_d, ↓VL.kLm3_d, ↓VL.kLm2_d, VL.sLm2_d, ↓VL.kLm1_d, VL.sLm_d, VL.kLm_d, ↓VL.vLm_d, ↓VL.kLx1_d, VL.sLx_d, VL.kLx_d, ↓VL.vLx_d, VL.sL0_d, VL.kL0_d, ↓VL.vL0_d, ↓VL.kPop_d, VL.oPop0_d, VL.sSd4_s, VL.sSd4_n, VL.sSd3_d, ↓VL.kSd4_d, ↓VL.kSd3_d, VL.sSd2_d, ↓VL.kSd2_d, ↓VL.kSd1_d, VL.sSd_d, VL.kSd_d, ↓VL.vSetd_d, ↓VL.kG4_d, ↓VL.kG3_d, VL.sG1_d, ↓VL.kG1_d, VL.sG0_d, ↓VL.kG0_d, ↓VL.vGet1_d, VL.kH5_d, ↓VL.kH4_d, VL.sH3_d, ↓VL.kH3_d, ↓VL.kH2_d, VL.sH1_d, ↓VL.kH1_d, ↓VL.vGet2_d, VL.sDcl_d, VL.kDcl_d, ↓VL.vDClear_d, VL.sFS2_d, VL.kFS2_d, VL.sFS_d, ↓VL.kFS_d, ↓VL.vFSet_d, VL.kNeg2_d, ↓VL.kNeg_d, ↓VL.vNeg_d, VL.sAnyB_l, VL.sAnyB_d, VL.sAny_lst, VL.sAny_tup, VL.sAny_str, VL.sAny_scr, VL.sAny_dic, VL.sAny_bor, ↓VL.kAny_d, ↓VL.viAny_d, ↓VL.vgNo_d, ↓VL.kRtn_d, ↓VL.kExc_d, ↓VL.kCall2_d, ↓VL.kCall_d, ↓VL.vCall_d, VL.kMade_d, VL.kMadeX_d, ↓VL.kMake2_d, ↓VL.kMake_d, ↓VL.vMake_d, ↓VL.offS_nil, ↓VL.offS_cons, ↓VL.offs_sh, ↓VL.offs_un, ↓VL.wipeE_nil, ↓VL.wipeE_cons, ↓VL.vYes_d, VL.oB_s, VL.startE_def, VL.endsV, VL.retA_nil, VL.retA_cons, VL.retS_sh, VL.retS_par, VL.oIsi_int, VL.oIsi_str, VL.oIsi_bool, VL.oIsi_tuple, VL.oIsi_list, VL.oIsi_dict, VL.oIsi_NoneType, VL.kb_int_int, VL.kb_int_str, VL.kb_int_bool, VL.kb_int_tuple, VL.kb_int_list, VL.kb_int_dict, VL.kb_str_int, VL.kb_str_str, VL.kb_str_bool, VL.kb_str_tuple, VL.kb_str_list, VL.kb_str_dict, VL.kb_bool_int, VL.kb_bool_str, VL.kb_bool_bool, VL.kb_bool_tuple, VL.kb_bool_list, VL.kb_bool_dict, VL.kb_tuple_int, VL.kb_tuple_str, VL.kb_tuple_bool, VL.kb_tuple_tuple, VL.kb_tuple_list, VL.kb_tuple_dict, VL.kb_list_int, VL.kb_list_str, VL.kb_list_bool, VL.kb_list_tuple, VL.kb_list_list, VL.kb_list_dict, VL.kb_dict_int, VL.kb_dict_str, VL.kb_dict_bool, VL.kb_dict_tuple, VL.kb_dict_list, VL.kb_dict_dict, VL.kb_NoneType_int, VL.kb_NoneType_str, VL.kb_NoneType_bool, VL.kb_NoneType_tuple, VL.kb_NoneType_list, VL.kb_NoneType_dict, VL.opC_int, VL.opI0_int, VL.opI_int, VL.opAdd_int, VL.opAdd_lst, VL.opAdd_tup, VL.opAddI_int, VL.opMul_int, VL.opMul_lst, VL.opIs_non, VL.opIs_int, VL.opIs_str, VL.opIs_bl, VL.opIs_tup, VL.opIs_lst, VL.opIs_dic, VL.opIs_ins, VL.opIs_bb, VL.opEq_ii, VL.opEq_ss, VL.opEq_is, VL.opEq_ns, VL.opIx_lst, VL.opIx_tup, VL.opIx_dicI, VL.opIx_dicS, VL.keyD_int, VL.keyD_str, VL.opIn_dicI, VL.opIn_dicS, VL.oLen_str, VL.oLen_tup, VL.oLen_lst, VL.oLen_scr, VL.oLen_dic, VL.oInt_int, VL.oInt_bl, VL.oAbs_int, VL.oBin_int, VL.oTup_lst, VL.oTup_tup, VL.oListU_lst, VL.oListU_tup, VL.oListU_dic, VL.oSum_lst, VL.oAll_lst, VL.oAny_lst, VL.opSl_lst, VL.opSl_tup, VL.opSl_scr, VL.oApp_1, VL.oExt_tup, VL.oExt_lst, VL.argsS_nil, VL.argsS_sh, VL.argsS_bor, VL.parO_own, VL.parO_par, VL.bors_nil, VL.bors_sh, VL.bors_bor, VL.okBack_nil, VL.okBack_sh, VL.okBack_bor, VL.backA_nil, VL.backA_sh, VL.backA_bor, VL.fz_sh, VL.fz_bor, VL.fz_lst, VL.fz_ins, VL.fz_dic, VL.fz_pot, VL.cont_sh, VL.cont_own, VL.cont_bor, VL.seeO_own, VL.seeO_par, VL.seeO_sh, VL.see_lst, VL.see_dic, VL.see_fdic, VL.see_ins, VL.toD_lst, VL.toD_dic, VL.toD_ins, VL.conts_nil, VL.conts_sh, VL.conts_bor, VL.shs_nil, VL.shs_sh, VL.ownO, VL.setO, VL.notPar_def, VL.nPs_sh, VL.nPs_un, VL.nPs_own, VL.notBor_sh, VL.notBor_own, Option.map_some, Option.map_none, Option.bind_some, Option.bind_none, Bool.false_eq_true, Bool.not_true, Bool.not_false, decide_true, decide_false, if_true, if_false, VL.sz_0, VL.sz_1, VL.sz_2, VL.sz_3, VL.sz_4, VL.sz_5, VL.sz_6, VL.sz_7, VL.sz_8, Option.isSome_some, Option.isSome_none, Option.isNone_some, Option.isNone_none, List.length_cons, List.length_nil, Nat.reduceAdd, Nat.reduceSub, VL.ru_0, VL.ru_1, VL.ru_2, VL.ru_3, VL.ru_4, VL.ru_5, VL.ru_6, VL.ru_7, VL.ru_8, VL.ru_9, VL.ru_10, VL.ru_11, VL.ru_12, VL.ru_13, VL.ru_14, VL.ru_15, VL.ru_16, VL.ru_17, VL.ru_18, VL.ru_19, List.cons_append, List.nil_append, List.getElem?_cons_zero, List.getElem?_cons_succ, List.set_cons_zero, List.set_cons_succ, List.head?_cons, List.tail_cons, List.nodup_nil, List.nodup_cons, List.not_mem_nil, List.mem_cons, or_false, not_false_eq_true, true_and, and_true, reduceCtorEq, ↓VL.vEqC_d, ↓VL.kEq1_d, ↓VL.kEq2_d, VL.sEq1_sh, VL.sEq2_sh, VL.eqC_ins, VL.eqC_tup, VL.eqC_lst, VL.eqC_int, VL.eqC_str, VL.eqC_non, VL.eqC_bl, VL.eqRt_d, ↓VL.vDCopy_d, VL.kDCopy_d, VL.sDCopy_d, ↓VL.vCallL_d, VL.sCallL_d, VL.kWh_d, VL.sWh_t, VL.sWh_f, VL.opAdd_str, VL.opAddI_str, VL.opIx_str, VL.kIxS_d, VL.opSl_str, VL.opLeS_d, ↓VL.kO2_d, VL.sO_sh, VL.sO_bor, ↓VL.kO1_d, ↓VL.vConsO_d, VL.sL1_own, ↓VL.kL1_d, ↓VL.vLast_d, VL.sL2_own, ↓VL.kL2_d, ↓VL.vLast2_d, VL.bor0_nil, VL.bor0_cons, VL.parL_nil, VL.parL_cons, ↓VL.kRtnO_d, ↓VL.kExcO_d, ↓VL.kCallO2_d, ↓VL.kCallO_d, ↓VL.vCallO_d, VL.fz_obj, VL.fz_fld, VL.sCo_fld, VL.cont_fld, VL.fldS_own, VL.fldS_par, VL.seeF_l, VL.seeF_kd, VL.conts_fld, VL.lstF_l, VL.fldsO_obj, VL.fldsO_ins0, VL.fputF_nil, VL.fputF_hd, ↓VL.vFO_d, VL.kFO_d, VL.sFO_d, VL.sFO2_sh, VL.sFO2_l, VL.sFO2_kd, ↓VL.vLF_d, VL.kLF_d, VL.sLF_d, ↓VL.kLFa_d, ↓VL.kLF1_d, VL.sLF2_d, ↓VL.kLFb_d, ↓VL.kLF2_d, ↓VL.kLF3_d, ↓VL.vLF0_d, VL.kLF0_d, VL.sLF0_d, ↓VL.kLFe_d, ↓VL.vFP_d, ↓VL.kFP_d, VL.sFP_d, VL.sFP1_d, VL.sFP2_sh, VL.sFP2_l, VL.sFP2_kd, ↓VL.vMeth_d, VL.kM_d, VL.sM_d, VL.sM1_d, ↓VL.kM2_d, $xs,*])
local macro_rules
  | `(tactic| simp_arith!) => `(tactic| simp -dsimp -failIfUnchanged -implicitDefEqProofs only [↓VL.kQ_d, ↓VL.vVar_d, VL.sVar_sh, VL.sVar_own, VL.sVar_par, ↓VL.vC_d, ↓VL.kOp4_d, ↓VL.kOp3_d, ↓VL.kOp2_d, ↓VL.kOp1_d, ↓VL.vOp_d, VL.kB2_d, ↓VL.kB_d, ↓VL.vB_d, VL.sAnd_t, VL.sAnd_f, ↓VL.kAnd_d, ↓VL.vAnd_d, VL.sOr_t, VL.sOr_f, ↓VL.kOr_d, ↓VL.vOr_d, ↓VL.kNot_d, ↓VL.vNot_d, VL.sAndV_t, VL.sAndV_f, VL.kAndV2_d, ↓VL.kAndV_d, ↓VL.vAndV_d, VL.sOrV_t, VL.sOrV_f, VL.kOrV2_d, ↓VL.kOrV_d, ↓VL.vOrV_d, VL.kNotV2_d, ↓VL.kNotV_d, ↓VL.vNotV_d, VL.sIfE_t, VL.sIfE_f, ↓VL.kIfE_d, ↓VL.vIf_d, VL.sCh_t, VL.sCh_f, VL.kCh5_d, ↓VL.kCh4_d, ↓VL.kCh3_d, ↓VL.kCh2_d, ↓VL.kCh1_d, ↓VL.vChain_d, ↓VL.vNil_d, ↓VL.kCo2_d, VL.sCo_sh, VL.sCo_bor, ↓VL.kCo1_d, ↓VL.vCons_d, ↓VL.kTup2_d, ↓VL.kTup_d, ↓VL.vTup_d, ↓VL.kLst2_d, ↓VL.kLst_d, ↓VL.vLst_d, ↓VL.vDic0_d, ↓VL.kCB2_d, ↓VL.kCB_d, ↓VL.vCallB_d, ↓VL.vNoPart_d, VL.kPart2_d, ↓VL.kPart_d, ↓VL.vPart_d, ↓VL.kSl4_d, ↓VL.kSl3_d, ↓VL.kSl2_d, ↓VL.kSl1_d, ↓VL.vSl_d, ↓VL.kSh_d, VL.kFldC2_d, ↓VL.kFldC_d, ↓VL.vFldC_d, ↓VL.vgName_d, ↓VL.vgNil_d, ↓VL.kgC_d, ↓VL.vgCons_d, ↓VL.vgTup_d, ↓VL.kgS3_d, ↓VL.kgS4_d, VL.sgSub2_lst, VL.sgSub2_dic, ↓VL.kgS2_d, ↓VL.kgS_d, VL.sgSub_d, ↓VL.vgSub_d, ↓VL.vNext_d, ↓VL.vSeq_d, ↓VL.vBreak_d, ↓VL.vCont_d, ↓VL.vNever_d, VL.sAsg_sh, VL.sAsg_own, ↓VL.kAsg_d, ↓VL.vAsg_d, VL.sAsgG_sh, ↓VL.kAsgG_d, ↓VL.vAsgG_d, VL.kPar_d, ↓VL.vPar_d, VL.kAug3_d, ↓VL.kAug2_d, ↓VL.kAug_d, VL.sAug_d, ↓VL.vAug_d, ↓VL.kDrop_d, ↓VL.vDrop_d, VL.sRt_d, VL.kRt_sh, VL.kRt_own, VL.kRt_bor, ↓VL.vRet_d, ↓VL.vRetN_d, VL.sIfS_t, VL.sIfS_f, ↓VL.kIfS_d, ↓VL.vIfS_d, VL.kEnum_l, VL.kEnum_t, VL.sEnum_d, VL.kEnum_b, ↓VL.viEnum_d, VL.kRng1_d, ↓VL.viRng1_d, VL.kRng2_d, ↓VL.viRng2_d, VL.kRng3_d, ↓VL.viRng3_d, ↓VL.kFor_d, VL.sLock_own, VL.sLock_par, ↓VL.vYes_d, ↓VL.kLc_d, ↓VL.kDc_d, VL.sFrzB_dic, VL.sFrzB_lst, VL.sFrzB_ins, VL.sFrzB_par, VL.kFrz_fld, VL.kFrz_sh, VL.kFrz_dic, VL.kFrz_lst, VL.kFrz_ins, VL.kFrz_bor, ↓VL.vFrz_d, VL.kVals_d, ↓VL.viVals_d, VL.kItems_d, ↓VL.viItems_d, ↓VL.kLm3_d, ↓VL.kLm2_d, VL.sLm2_d, ↓VL.kLm1_d, VL.sLm_d, VL.kLm_d, ↓VL.vLm_d, ↓VL.kLx1_d, VL.sLx_d, VL.kLx_d, ↓VL.vLx_d, VL.sL0_d, VL.kL0_d, ↓VL.vL0_d, ↓VL.kPop_d, VL.oPop0_d, VL.sSd4_s, VL.sSd4_n, VL.sSd3_d, ↓VL.kSd4_d, ↓VL.kSd3_d, VL.sSd2_d, ↓VL.kSd2_d, ↓VL.kSd1_d, VL.sSd_d, VL.kSd_d, ↓VL.vSetd_d, ↓VL.kG4_d, ↓VL.kG3_d, VL.sG1_d, ↓VL.kG1_d, VL.sG0_d, ↓VL.kG0_d, ↓VL.vGet1_d, VL.kH5_d, ↓VL.kH4_d, VL.sH3_d, ↓VL.kH3_d, ↓VL.kH2_d, VL.sH1_d, ↓VL.kH1_d, ↓VL.vGet2_d, VL.sDcl_d, VL.kDcl_d, ↓VL.vDClear_d, VL.sFS2_d, VL.kFS2_d, VL.sFS_d, ↓VL.kFS_d, ↓VL.vFSet_d, VL.kNeg2_d, ↓VL.kNeg_d, ↓VL.vNeg_d, VL.sAnyB_l, VL.sAnyB_d, VL.sAny_lst, VL.sAny_tup, VL.sAny_str, VL.sAny_scr, VL.sAny_dic, VL.sAny_bor, ↓VL.kAny_d, ↓VL.viAny_d, ↓VL.vgNo_d, ↓VL.kRtn_d, ↓VL.kExc_d, ↓VL.kCall2_d, ↓VL.kCall_d, ↓VL.vCall_d, VL.kMade_d, VL.kMadeX_d, ↓VL.kMake2_d, ↓VL.kMake_d, ↓VL.vMake_d, ↓VL.offS_nil, ↓VL.offS_cons, ↓VL.offs_sh, ↓VL.offs_un, ↓VL.wipeE_nil, ↓VL.wipeE_cons, ↓VL.vYes_d, VL.oB_s, VL.startE_def, VL.endsV, VL.retA_nil, VL.retA_cons, VL.retS_sh, VL.retS_par, VL.oIsi_int, VL.oIsi_str, VL.oIsi_bool, VL.oIsi_tuple, VL.oIsi_list, VL.oIsi_dict, VL.oIsi_NoneType, VL.kb_int_int, VL.kb_int_str, VL.kb_int_bool, VL.kb_int_tuple, VL.kb_int_list, VL.kb_int_dict, VL.kb_str_int, VL.kb_str_str, VL.kb_str_bool, VL.kb_str_tuple, VL.kb_str_list, VL.kb_str_dict, VL.kb_bool_int, VL.kb_bool_str, VL.kb_bool_bool, VL.kb_bool_tuple, VL.kb_bool_list, VL.kb_bool_dict, VL.kb_tuple_int, VL.kb_tuple_str, VL.kb_tuple_bool, VL.kb_tuple_tuple, VL.kb_tuple_list, VL.kb_tuple_dict, VL.kb_list_int, VL.kb_list_str, VL.kb_list_bool, VL.kb_list_tuple, VL.kb_list_list, VL.kb_list_dict, VL.kb_dict_int, VL.kb_dict_str, VL.kb_dict_bool, VL.kb_dict_tuple, VL.kb_dict_list, VL.kb_dict_dict, VL.kb_NoneType_int, VL.kb_NoneType_str, VL.kb_NoneType_bool, VL.kb_NoneType_tuple, VL.kb_NoneType_list, VL.kb_NoneType_dict, VL.opC_int, VL.opI0_int, VL.opI_int, VL.opAdd_int, VL.opAdd_lst, VL.opAdd_tup, VL.opAddI_int, VL.opMul_int, VL.opMul_lst, VL.opIs_non, VL.opIs_int, VL.opIs_str, VL.opIs_bl, VL.opIs_tup, VL.opIs_lst, VL.opIs_dic, VL.opIs_ins, VL.opIs_bb, VL.opEq_ii, VL.opEq_ss, VL.opEq_is, VL.opEq_ns, VL.opIx_lst, VL.opIx_tup, VL.opIx_dicI, VL.opIx_dicS, VL.keyD_int, VL.keyD_str, VL.opIn_dicI, VL.opIn_dicS, VL.oLen_str, VL.oLen_tup, VL.oLen_lst, VL.oLen_scr, VL.oLen_dic, VL.oInt_int, VL.oInt_bl, VL.oAbs_int, VL.oBin_int, VL.oTup_lst, VL.oTup_tup, VL.oListU_lst, VL.oListU_tup, VL.oListU_dic, VL.oSum_lst, VL.oAll_lst, VL.oAny_lst, VL.opSl_lst, VL.opSl_tup, VL.opSl_scr, VL.oApp_1, VL.oExt_tup, VL.oExt_lst, VL.argsS_nil, VL.argsS_sh, VL.argsS_bor, VL.parO_own, VL.parO_par, VL.bors_nil, VL.bors_sh, VL.bors_bor, VL.okBack_nil, VL.okBack_sh, VL.okBack_bor, VL.backA_nil, VL.backA_sh, VL.backA_bor, VL.fz_sh, VL.fz_bor, VL.fz_lst, VL.fz_ins, VL.fz_dic, VL.fz_pot, VL.cont_sh, VL.cont_own, VL.cont_bor, VL.seeO_own, VL.seeO_par, VL.seeO_sh, VL.see_lst, VL.see_dic, VL.see_fdic, VL.see_ins, VL.toD_lst, VL.toD_dic, VL.toD_ins, VL.conts_nil, VL.conts_sh, VL.conts_bor, VL.shs_nil, VL.shs_sh, VL.ownO, VL.setO, VL.notPar_def, VL.nPs_sh, VL.nPs_un, VL.nPs_own, VL.notBor_sh, VL.notBor_own, Option.map_some, Option.map_none, Option.bind_some, Option.bind_none, Bool.false_eq_true, Bool.not_true, Bool.not_false, decide_true, decide_false, if_true, if_false, VL.sz_0, VL.sz_1, VL.sz_2, VL.sz_3, VL.sz_4, VL.sz_5, VL.sz_6, VL.sz_7, VL.sz_8, Option.isSome_some, Option.isSome_none, Option.isNone_some, Option.isNone_none, List.length_cons, List.length_nil, Nat.reduceAdd, Nat.reduceSub, VL.ru_0, VL.ru_1, VL.ru_2, VL.ru_3, VL.ru_4, VL.ru_5, VL.ru_6, VL.ru_7, VL.ru_8, VL.ru_9, VL.ru_10, VL.ru_11, VL.ru_12, VL.ru_13, VL.ru_14, VL.ru_15, VL.ru_16, VL.ru_17, VL.ru_18, VL.ru_19, List.cons_append, List.nil_append, List.getElem?_cons_zero, List.getElem?_cons_succ, List.set_cons_zero, List.set_cons_succ, List.head?_cons, List.tail_cons, List.nodup_nil, List.nodup_cons, List.not_mem_nil, List.mem_cons, or_false, not_false_eq_true, true_and, and_true, reduceCtorEq, ↓VL.vEqC_d, ↓VL.kEq1_d, ↓VL.kEq2_d, VL.sEq1_sh, VL.sEq2_sh, VL.eqC_ins, VL.eqC_tup, VL.eqC_lst, VL.eqC_int, VL.eqC_str, VL.eqC_non, VL.eqC_bl, VL.eqRt_d, ↓VL.vDCopy_d, VL.kDCopy_d, VL.sDCopy_d, ↓VL.vCallL_d, VL.sCallL_d, VL.kWh_d, VL.sWh_t, VL.sWh_f, VL.opAdd_str, VL.opAddI_str, VL.opIx_str, VL.kIxS_d, VL.opSl_str, VL.opLeS_d, ↓VL.kO2_d, VL.sO_sh, VL.sO_bor, ↓VL.kO1_d, ↓VL.vConsO_d, VL.sL1_own, ↓VL.kL1_d, ↓VL.vLast_d, VL.sL2_own, ↓VL.kL2_d, ↓VL.vLast2_d, VL.bor0_nil, VL.bor0_cons, VL.parL_nil, VL.parL_cons, ↓VL.kRtnO_d, ↓VL.kExcO_d, ↓VL.kCallO2_d, ↓VL.kCallO_d, ↓VL.vCallO_d, VL.fz_obj, VL.fz_fld, VL.sCo_fld, VL.cont_fld, VL.fldS_own, VL.fldS_par, VL.seeF_l, VL.seeF_kd, VL.conts_fld, VL.lstF_l, VL.fldsO_obj, VL.fldsO_ins0, VL.fputF_nil, VL.fputF_hd, ↓VL.vFO_d, VL.kFO_d, VL.sFO_d, VL.sFO2_sh, VL.sFO2_l, VL.sFO2_kd, ↓VL.vLF_d, VL.kLF_d, VL.sLF_d, ↓VL.kLFa_d, ↓VL.kLF1_d, VL.sLF2_d, ↓VL.kLFb_d, ↓VL.kLF2_d, ↓VL.kLF3_d, ↓VL.vLF0_d, VL.kLF0_d, VL.sLF0_d, ↓VL.kLFe_d, ↓VL.vFP_d, ↓VL.kFP_d, VL.sFP_d, VL.sFP1_d, VL.sFP2_sh, VL.sFP2_l, VL.sFP2_kd, ↓VL.vMeth_d, VL.kM_d, VL.sM_d, VL.sM1_d, ↓VL.kM2_d])

section
set_option Elab.async false
set_option linter.all false
set_option autoImplicit false
set_option maxRecDepth 100000
set_option maxHeartbeats 400000
namespace VP
open PySem PySem.Spec PyProof.Rows L2 VL
/-! ### texts -/
def chs (n : Str) : List Nat := n.cps.toList
theorem chs_ext {a b : Str} (h : chs a = chs b) : a = b := by
  cases a with | mk a => cases b with | mk b => simp only [chs] at h; rw [Array.toList_inj.mp h]
theorem chs_mk (l : List Nat) : chs ⟨l.toArray⟩ = l := by simp [chs]
theorem chs_app (a b : Str) : chs (a ++ b) = chs a ++ chs b := by
  show (a.cps ++ b.cps).toList = _
  simp [chs]
theorem len_chs (a : Str) : a.length = (chs a).length := by simp [Str.length, chs]
theorem chs_slash : chs ("/" : Str) = [47] := by rfl
theorem chs_at : chs ("@" : Str) = [64] := by rfl
theorem chs_nil : chs ("" : Str) = [] := by rfl
theorem chs_cut (z : Str) (lo hi : Option Int) : chs (cutS z lo hi) = ((chs z).drop (HT.sIx (chs z).length 0 lo)).take (HT.sIx (chs z).length (chs z).length hi - HT.sIx (chs z).length 0 lo) := by
  unfold cutS
  rw [len_chs]
  exact chs_mk _
theorem chs_cut1 (z : Str) : chs (cutS z none (some 1)) = (chs z).take 1 := by
  rw [chs_cut]
  have e : HT.sIx (chs z).length (chs z).length (some 1) = min 1 (chs z).length := HT.sIx_nat _ _ 1
  rw [e, HT.sIx_none]
  simp only [List.drop_zero, Nat.sub_zero]
  cases chs z <;> simp
theorem chs_cutT (z : Str) : chs (cutS z (some 1) none) = (chs z).drop 1 := by
  rw [chs_cut]
  have e : HT.sIx (chs z).length 0 (some 1) = min 1 (chs z).length := HT.sIx_nat _ _ 1
  rw [e, HT.sIx_none]
  cases h : chs z with
  | nil => simp
  | cons c r => simp
/-! ### names, words -/
/-- a name within: its first sign is neither / nor @ -/
def Nm (n : Str) : Prop := ∃ c r, chs n = c :: r ∧ c ≠ 47 ∧ c ≠ 64
def nameB (n : Str) : Bool := decide (1 ≤ (chs n).length) && (decide ((chs n).length ≤ 8) && (chs n).all fun c => decide (97 ≤ c) && decide (c ≤ 122))
theorem nameB_nm {n : Str} (h : nameB n = true) : Nm n := by
  unfold nameB at h
  simp only [Bool.and_eq_true, decide_eq_true_eq, List.all_eq_true] at h
  obtain ⟨h1, h2, h3⟩ := h
  cases q : chs n with
  | nil => rw [q] at h1; simp at h1
  | cons c r =>
    have := h3 c (by rw [q]; simp)
    exact ⟨c, r, q, by omega, by omega⟩
inductive PW where
  | g | t (n : Str) | v (n : Str)
  deriving DecidableEq
def pwS : PW → Str
  | .g => "@"
  | .t n => ("/" : Str) ++ n
  | .v n => n
abbrev pD (w : PW) : D := .str (pwS w)
def pDs (ws : List PW) : List D := ws.map pD
def pwK (w : PW) : Key := .inr (pwS w)
def nameW : PW → Str
  | .g => "@"
  | .t n => n
  | .v n => n
def isG : PW → Bool
  | .g => true
  | _ => false
def isT : PW → Bool
  | .t _ => true
  | _ => false
def isV : PW → Bool
  | .v _ => true
  | _ => false
def PWn : PW → Prop
  | .g => True
  | .t n => Nm n
  | .v n => Nm n
def WOk (ws : List PW) : Prop := ∀ w ∈ ws, PWn w
theorem WOk.tail {w : PW} {ws : List PW} (h : WOk (w :: ws)) : WOk ws := fun x hx => h x (List.mem_cons_of_mem _ hx)
theorem WOk.head {w : PW} {ws : List PW} (h : WOk (w :: ws)) : PWn w := h w (by simp)
theorem WOk.app {a b : List PW} (h : WOk a) (k : WOk b) : WOk (a ++ b) := fun x hx => (List.mem_append.mp hx).elim (h x) (k x)
theorem WOk.left {a b : List PW} (h : WOk (a ++ b)) : WOk a := fun x hx => h x (List.mem_append.mpr (.inl hx))
theorem WOk.right {a b : List PW} (h : WOk (a ++ b)) : WOk b := fun x hx => h x (List.mem_append.mpr (.inr hx))
theorem WOk.cons {w : PW} {a : List PW} (h : PWn w) (k : WOk a) : WOk (w :: a) := fun x hx => (List.mem_cons.mp hx).elim (fun e => e ▸ h) (k x)
theorem WOk.nil : WOk [] := fun x hx => by simp at hx
theorem WOk.get {ws : List PW} (h : WOk ws) {i : Nat} {w : PW} (e : ws[i]? = some w) : PWn w := h w (List.mem_of_getElem? e)
theorem chs_t (n : Str) : chs (pwS (.t n)) = 47 :: chs n := by
  show chs (("/" : Str) ++ n) = _
  rw [chs_app, chs_slash]
  rfl
theorem chs_g : chs (pwS .g) = [64] := chs_at
theorem pwS_inj {a b : PW} (ha : PWn a) (hb : PWn b) (h : pwS a = pwS b) : a = b := by
  have h := congrArg chs h
  cases a with
  | g =>
    cases b with
    | g => rfl
    | t n => rw [chs_g, chs_t] at h; cases h
    | v n => obtain ⟨c, r, e, h1, h2⟩ := hb; rw [chs_g] at h; have h : [64] = chs n := h; rw [e] at h; cases h; exact absurd rfl h2
  | t n =>
    cases b with
    | g => rw [chs_g, chs_t] at h; cases h
    | t m => rw [chs_t, chs_t] at h; rw [chs_ext (List.cons.inj h).2]
    | v m => obtain ⟨c, r, e, h1, h2⟩ := hb; rw [chs_t] at h; have h : 47 :: chs n = chs m := h; rw [e] at h; cases h; exact absurd rfl h1
  | v n =>
    cases b with
    | g => obtain ⟨c, r, e, h1, h2⟩ := ha; rw [chs_g] at h; have h : chs n = [64] := h; rw [e] at h; cases h; exact absurd rfl h2
    | t m => obtain ⟨c, r, e, h1, h2⟩ := ha; rw [chs_t] at h; have h : chs n = 47 :: chs m := h; rw [e] at h; cases h; exact absurd rfl h1
    | v m => exact congrArg PW.v (chs_ext h)
theorem eq_at {w : PW} (h : PWn w) : decide (pwS w = "@") = isG w := by
  cases w with
  | g => exact decide_eq_true rfl
  | t n => exact decide_eq_false fun z => by have := pwS_inj (a := .t n) (b := .g) h trivial z; cases this
  | v n => exact decide_eq_false fun z => by have := pwS_inj (a := .v n) (b := .g) h trivial z; cases this
theorem cut1_take {w : PW} (h : PWn w) : decide (cutS (pwS w) none (some 1) = "/") = isT w := by
  cases w with
  | g =>
    refine decide_eq_false fun z => ?_
    have z := congrArg chs z
    rw [chs_cut1, chs_g, chs_slash] at z
    cases z
  | t n =>
    refine decide_eq_true (chs_ext ?_)
    rw [chs_cut1, chs_t, chs_slash]
    rfl
  | v n =>
    refine decide_eq_false fun z => ?_
    have z := congrArg chs z
    obtain ⟨c, r, e, h1, h2⟩ := h
    rw [chs_cut1, chs_slash] at z
    have z : (chs n).take 1 = [47] := z
    rw [e] at z
    cases z
    exact h1 rfl
theorem cutT_take (n : Str) : cutS (pwS (.t n)) (some 1) none = n := chs_ext (by rw [chs_cutT, chs_t]; rfl)
/-! ### how many programs are still to come -/
def ar : PW → Nat
  | .g => 2
  | .t _ => 1
  | .v _ => 0
def runP : Nat → List PW → Option Nat
  | k, [] => some k
  | 0, _ :: _ => none
  | k + 1, w :: ws => runP (k + ar w) ws
/-- just one program -/
def One (ws : List PW) : Prop := runP 1 ws = some 0
theorem runP_pos {k : Nat} {w : PW} {ws : List PW} {m : Nat} (h : runP k (w :: ws) = some m) : ∃ k', k = k' + 1 ∧ runP (k' + ar w) ws = some m := by
  cases k with
  | zero => cases h
  | succ k => exact ⟨k, rfl, h⟩
theorem runP_shift : ∀ (ws : List PW) {k m : Nat} (j : Nat), runP k ws = some m → runP (k + j) ws = some (m + j)
  | [], k, m, j, h => by cases h; rfl
  | w :: ws, k, m, j, h => by
    obtain ⟨k', rfl, h⟩ := runP_pos h
    show runP (k' + 1 + j) (w :: ws) = _
    rw [show k' + 1 + j = (k' + j) + 1 by omega]
    show runP (k' + j + ar w) ws = _
    rw [show k' + j + ar w = k' + ar w + j by omega]
    exact runP_shift ws j h
theorem runP_app : ∀ (u v : List PW) (k : Nat), runP k (u ++ v) = (runP k u).bind fun k' => runP k' v
  | [], v, k => rfl
  | w :: u, v, 0 => rfl
  | w :: u, v, k + 1 => runP_app u v (k + ar w)
theorem One.skip {ws : List PW} (h : One ws) (j : Nat) (rest : List PW) : runP (j + 1) (ws ++ rest) = runP j rest := by
  rw [runP_app, show j + 1 = 1 + j by omega, runP_shift ws j h, Nat.zero_add]
  rfl
theorem One.ne {ws : List PW} (h : One ws) : ws ≠ [] := by
  rintro rfl
  cases h
theorem One.len {ws : List PW} (h : One ws) : 1 ≤ ws.length := by
  cases ws with
  | nil => cases h
  | cons w ws => simp
theorem one_v (n : Str) : One [.v n] := rfl
theorem one_t {n : Str} {b : List PW} (h : One b) : One (.t n :: b) := h
theorem one_g {f a : List PW} (hf : One f) (ha : One a) : One (.g :: (f ++ a)) := by
  show runP (0 + 2) (f ++ a) = some 0
  rw [show 0 + 2 = 1 + 1 by rfl, hf.skip]
  exact ha
theorem runP_map {F : PW → PW} (hF : ∀ w, ar (F w) = ar w) : ∀ (ws : List PW) (k : Nat), runP k (ws.map F) = runP k ws
  | [], k => rfl
  | w :: ws, 0 => rfl
  | w :: ws, k + 1 => by
    show runP (k + ar (F w)) (ws.map F) = _
    rw [hF]
    exact runP_map hF ws _
/-! ### ends -/
/-- one word more ahead -/
def endS (a : Nat) (w : PW) (p : List Nat × List Nat) : List Nat × List Nat := match w, p.2 with
  | .v _, st => ((a + 1) :: p.1, (a + 1) :: st)
  | .t _, e :: st => (e :: p.1, e :: st)
  | .g, _ :: e :: st => (e :: p.1, e :: st)
  | _, _ => (0 :: p.1, [])
/-- the ends at each place, and the ends of the programs that begin here, one behind another -/
def endsA : Nat → List PW → List Nat × List Nat
  | _, [] => ([], [])
  | a, w :: ws => endS a w (endsA (a + 1) ws)
def endsP (ws : List PW) : List Nat := (endsA 0 ws).1
theorem endsA_v {n : Str} {ws : List PW} {a : Nat} : endsA a (.v n :: ws) = ((a + 1) :: (endsA (a + 1) ws).1, (a + 1) :: (endsA (a + 1) ws).2) := rfl
theorem endsA_t {n : Str} {ws : List PW} {a e : Nat} {st : List Nat} (h : (endsA (a + 1) ws).2 = e :: st) : endsA a (.t n :: ws) = (e :: (endsA (a + 1) ws).1, e :: st) := by
  show endS a (.t n) (endsA (a + 1) ws) = _
  unfold endS
  rw [h]
theorem endsA_g {ws : List PW} {a x e : Nat} {st : List Nat} (h : (endsA (a + 1) ws).2 = x :: e :: st) : endsA a (.g :: ws) = (e :: (endsA (a + 1) ws).1, e :: st) := by
  show endS a .g (endsA (a + 1) ws) = _
  unfold endS
  rw [h]
theorem split_one {b : List PW} {k : Nat} (h : runP (k + 1) b = some 0) : ∃ f c, b = f ++ c ∧ One f ∧ runP k c = some 0 := by
  generalize hn : b.length = m
  induction m using Nat.strongRecOn generalizing b k with
  | _ m ih =>
    cases b with
    | nil => cases h
    | cons w b =>
      have h : runP (k + ar w) b = some 0 := h
      cases w with
      | v x => exact ⟨[.v x], b, rfl, rfl, h⟩
      | t x =>
        obtain ⟨f, c, rfl, hf, hc⟩ := ih b.length (by subst hn; simp) h rfl
        exact ⟨.t x :: f, c, rfl, hf, hc⟩
      | g =>
        obtain ⟨f, c, rfl, hf, hc⟩ := ih b.length (by subst hn; simp) (k := k + 1) h rfl
        obtain ⟨f2, c2, rfl, hf2, hc2⟩ := ih c.length (by subst hn; simp; omega) hc rfl
        exact ⟨.g :: (f ++ f2), c2, by simp, one_g hf hf2, hc2⟩
theorem endsA_st : ∀ (ws : List PW) {k a : Nat}, runP k ws = some 0 → (endsA a ws).2.length = k
  | [], k, a, h => by cases h; rfl
  | w :: ws, k, a, h => by
    obtain ⟨k, rfl, h2⟩ := runP_pos h
    have ih := endsA_st ws (a := a + 1) h2
    cases w with
    | v n => rw [endsA_v, List.length_cons, ih]; rfl
    | t n =>
      have ih : (endsA (a + 1) ws).2.length = k + 1 := ih
      cases q : (endsA (a + 1) ws).2 with
      | nil => rw [q] at ih; simp at ih
      | cons e st => rw [endsA_t q]; rw [q] at ih; simpa using ih
    | g =>
      have ih : (endsA (a + 1) ws).2.length = k + 2 := ih
      cases q : (endsA (a + 1) ws).2 with
      | nil => rw [q] at ih; simp at ih
      | cons e st =>
        cases st with
        | nil => rw [q] at ih; simp at ih
        | cons e2 st => rw [endsA_g q]; rw [q] at ih; simpa using ih
theorem endS_1 (a : Nat) (w : PW) (p : List Nat × List Nat) : ∃ e, (endS a w p).1 = e :: p.1 := by
  unfold endS
  split <;> exact ⟨_, rfl⟩
theorem endsA_l : ∀ (ws : List PW) (a : Nat), (endsA a ws).1.length = ws.length
  | [], a => rfl
  | w :: ws, a => by
    obtain ⟨e, h⟩ := endS_1 a w (endsA (a + 1) ws)
    show (endS a w (endsA (a + 1) ws)).1.length = _
    rw [h, List.length_cons, List.length_cons, endsA_l ws (a + 1)]
theorem endsP_len (ws : List PW) : (endsP ws).length = ws.length := endsA_l ws 0
/-- one program, then others -/
theorem endsA_one : ∀ (n : Nat) {b rest : List PW} {a : Nat}, b.length ≤ n → One b → (endsA a (b ++ rest)).2 = (a + b.length) :: (endsA (a + b.length) rest).2
  | 0, b, rest, a, hl, h => by have := h.len; omega
  | n + 1, [], rest, a, hl, h => by cases h
  | n + 1, .v x :: b, rest, a, hl, h => by
    have h : runP 0 b = some 0 := h
    cases b with
    | nil => rfl
    | cons w b => cases h
  | n + 1, .t x :: b, rest, a, hl, h => by
    have hb : One b := h
    have ih := endsA_one n (rest := rest) (a := a + 1) (by simp at hl; omega) hb
    show (endsA a (.t x :: (b ++ rest))).2 = _
    rw [endsA_t ih, List.length_cons, show a + (b.length + 1) = a + 1 + b.length by omega]
  | n + 1, .g :: b, rest, a, hl, h => by
    have hb : runP 2 b = some 0 := h
    obtain ⟨f, c, rfl, hf, hc⟩ := split_one hb
    have l : f.length + c.length ≤ n := by simpa using hl
    show (endsA a (.g :: (f ++ c ++ rest))).2 = _
    have e1 := endsA_one n (b := f) (rest := c ++ rest) (a := a + 1) (by omega) hf
    have e2 := endsA_one n (b := c) (rest := rest) (a := a + 1 + f.length) (by omega) hc
    rw [e2] at e1
    rw [List.append_assoc, endsA_g e1, List.length_cons, List.length_append, show a + (f.length + c.length + 1) = a + 1 + f.length + c.length by omega]
theorem endsA_st1 {b rest : List PW} {a : Nat} (h : One b) : (endsA a (b ++ rest)).2 = (a + b.length) :: (endsA (a + b.length) rest).2 := endsA_one b.length (Nat.le_refl _) h
theorem endsA_hd {w : PW} {ws : List PW} {a e : Nat} {st : List Nat} (q : (endsA a (w :: ws)).2 = e :: st) : (endsA a (w :: ws)).1[0]? = some e := by
  cases w with
  | v n => rw [endsA_v] at q ⊢; cases q; rfl
  | t n =>
    cases z : (endsA (a + 1) ws).2 with
    | nil => unfold endsA endS at q; rw [z] at q; cases q
    | cons e st => rw [endsA_t z] at q ⊢; cases q; rfl
  | g =>
    cases z : (endsA (a + 1) ws).2 with
    | nil => unfold endsA endS at q; rw [z] at q; cases q
    | cons e st =>
      cases st with
      | nil => unfold endsA endS at q; rw [z] at q; cases q
      | cons e2 st => rw [endsA_g z] at q ⊢; cases q; rfl
theorem endsA_tl (w : PW) (ws : List PW) (a : Nat) : (endsA a (w :: ws)).1.drop 1 = (endsA (a + 1) ws).1 := by
  obtain ⟨e, h⟩ := endS_1 a w (endsA (a + 1) ws)
  show (endS a w (endsA (a + 1) ws)).1.drop 1 = _
  rw [h]
  rfl
theorem endsA_drop : ∀ (p : Nat) (ws : List PW) (a : Nat), (endsA a ws).1.drop p = (endsA (a + p) (ws.drop p)).1
  | 0, ws, a => by simp
  | p + 1, [], a => by simp [endsA]
  | p + 1, w :: ws, a => by
    rw [List.drop_succ_cons, show p + 1 = 1 + p by omega, ← List.drop_drop, endsA_tl, endsA_drop p ws (a + 1)]
    congr 2
    omega
/-- the end of a part -/
theorem endsP_part {A b C : List PW} (h : One b) : (endsP (A ++ b ++ C))[A.length]? = some (A.length + b.length) := by
  have e : (endsP (A ++ b ++ C))[A.length]? = ((endsP (A ++ b ++ C)).drop A.length)[0]? := by rw [List.getElem?_drop]; rfl
  rw [e]
  unfold endsP
  rw [endsA_drop, List.append_assoc, List.drop_left, Nat.zero_add]
  have q := endsA_st1 (rest := C) (a := A.length) h
  cases b with
  | nil => cases h
  | cons w b => exact endsA_hd q
end VP

end

section
set_option Elab.async false
set_option linter.all false
set_option autoImplicit false
set_option maxRecDepth 100000
set_option maxHeartbeats 400000
namespace VP
open PySem PySem.Spec PyProof.Rows L2 VL
/-! ### as many unlike things are no more than there are -/
theorem pigeon {α : Type} [DecidableEq α] : ∀ {xs ys : List α}, xs.Nodup → (∀ x ∈ xs, x ∈ ys) → xs.length ≤ ys.length
  | [], ys, _, _ => Nat.zero_le _
  | x :: xs, ys, hn, hs => by
    rw [List.nodup_cons] at hn
    have hx : x ∈ ys := hs x (by simp)
    have ih := pigeon (xs := xs) (ys := ys.erase x) hn.2 fun z hz => (List.mem_erase_of_ne (fun e => hn.1 (by rw [← e]; exact hz))).mpr (hs z (List.mem_cons_of_mem _ hz))
    rw [List.length_erase_of_mem hx] at ih
    have : 0 < ys.length := List.length_pos_of_mem hx
    simp only [List.length_cons]
    omega
/-! ### names by numbers -/
def lnL : Nat → List Nat
  | 0 => []
  | n + 1 => lnL (n / 26) ++ [97 + n % 26]
termination_by n => n
decreasing_by omega
def lname (k : Nat) : Str := ⟨(lnL (k + 1)).toArray⟩
theorem chs_lname (k : Nat) : chs (lname k) = lnL (k + 1) := chs_mk _
theorem lnL_succ (n : Nat) : lnL (n + 1) = lnL (n / 26) ++ [97 + n % 26] := by rw [lnL]
def lval (l : List Nat) : Nat := l.foldl (fun v c => v * 26 + (c - 96)) 0
theorem lval_lnL (n : Nat) : lval (lnL n) = n := by
  induction n using Nat.strongRecOn with
  | _ n ih =>
    cases n with
    | zero => rw [lnL]; rfl
    | succ n =>
      rw [lnL_succ]
      have := ih (n / 26) (by omega)
      unfold lval at this ⊢
      rw [List.foldl_append, this]
      show n / 26 * 26 + (97 + n % 26 - 96) = n + 1
      omega
theorem lname_inj {a b : Nat} (h : lname a = lname b) : a = b := by
  have h := congrArg chs h
  rw [chs_lname, chs_lname] at h
  have := congrArg lval h
  rw [lval_lnL, lval_lnL] at this
  omega
theorem lnL_ch (n : Nat) : ∀ c ∈ lnL n, 97 ≤ c ∧ c ≤ 122 := by
  induction n using Nat.strongRecOn with
  | _ n ih =>
    cases n with
    | zero => rw [lnL]; simp
    | succ n =>
      intro c hc
      rw [lnL_succ] at hc
      rcases List.mem_append.mp hc with h | h
      · exact ih (n / 26) (by omega) c h
      · simp at h; omega
def lB : Nat → Nat
  | 0 => 1
  | k + 1 => 26 * lB k + 1
theorem lnL_len : ∀ (k n : Nat), n < lB k → (lnL n).length ≤ k
  | 0, n, h => by
    have : n = 0 := by simp only [lB] at h; omega
    subst this; rw [lnL]; simp
  | k + 1, 0, h => by rw [lnL]; simp
  | k + 1, n + 1, h => by
    rw [lnL_succ, List.length_append]
    have h : n + 1 < 26 * lB k + 1 := h
    have := lnL_len k (n / 26) (by omega)
    simp
    exact this
theorem lnL_ne (n : Nat) : 1 ≤ (lnL (n + 1)).length := by rw [lnL_succ]; simp
theorem lname_nm (k : Nat) : Nm (lname k) := by
  cases q : lnL (k + 1) with
  | nil => have := lnL_ne k; rw [q] at this; simp at this
  | cons c r =>
    have := lnL_ch (k + 1) c (by rw [q]; simp)
    exact ⟨c, r, by rw [chs_lname, q], by omega, by omega⟩
theorem lname_ok {k : Nat} (h : k + 1 < 217180147159) : nameB (lname k) = true := by
  unfold nameB
  rw [chs_lname]
  have h1 := lnL_ne k
  have h2 := lnL_len 8 (k + 1) (by simpa [lB] using h)
  simp only [Bool.and_eq_true, decide_eq_true_eq, List.all_eq_true]
  exact ⟨h1, h2, lnL_ch (k + 1)⟩
/-- the least number from k on whose name is not barred -/
def nextN (bar : List Str) (k : Nat) : Nat := k + ((List.range (bar.length + 1)).find? fun i => decide (lname (k + i) ∉ bar)).getD 0
theorem next_ex (bar : List Str) (k : Nat) : ∃ i, (List.range (bar.length + 1)).find? (fun i => decide (lname (k + i) ∉ bar)) = some i := by
  cases q : (List.range (bar.length + 1)).find? (fun i => decide (lname (k + i) ∉ bar)) with
  | some i => exact ⟨i, rfl⟩
  | none =>
    exfalso
    rw [List.find?_eq_none] at q
    have hs : ∀ x ∈ (List.range (bar.length + 1)).map (fun i => lname (k + i)), x ∈ bar := by
      intro x hx
      obtain ⟨i, hi, rfl⟩ := List.mem_map.mp hx
      have := q i hi
      simpa using this
    have hn : ((List.range (bar.length + 1)).map fun i => lname (k + i)).Nodup := by
      rw [List.nodup_iff_pairwise_ne, List.pairwise_map]
      exact (List.nodup_iff_pairwise_ne.mp List.nodup_range).imp fun h e => h (by have := lname_inj e; omega)
    have := pigeon hn hs
    simp at this
    omega
/-- how far it is -/
theorem next_spec (bar : List Str) (k : Nat) : ∃ i, i ≤ bar.length ∧ nextN bar k = k + i ∧ lname (k + i) ∉ bar ∧ ∀ j, j < i → lname (k + j) ∈ bar := by
  obtain ⟨i, h⟩ := next_ex bar k
  refine ⟨i, ?_, by unfold nextN; rw [h]; rfl, ?_, ?_⟩
  · have := List.mem_of_find?_eq_some h
    simp at this
    omega
  · have := List.find?_some h
    simpa using this
  · intro j hj
    rw [List.find?_range_eq_some] at h
    have := h.2.2 j hj
    simpa using this
/-! ### names of words -/
def takesW : List PW → List Str
  | [] => []
  | .t n :: ws => n :: takesW ws
  | _ :: ws => takesW ws
def varsW : List PW → List Str
  | [] => []
  | .v n :: ws => n :: varsW ws
  | _ :: ws => varsW ws
def openW (ws : List PW) : List Str := (varsW ws).filter fun n => decide (n ∉ takesW ws)
def renW (r : Str → Str) : PW → PW
  | .g => .g
  | .t n => .t (r n)
  | .v n => .v (r n)
def renL (r : Str → Str) (ws : List PW) : List PW := ws.map (renW r)
theorem takes_app : ∀ a b : List PW, takesW (a ++ b) = takesW a ++ takesW b
  | [], b => rfl
  | .t n :: a, b => by show n :: takesW (a ++ b) = _; rw [takes_app a b]; rfl
  | .v n :: a, b => takes_app a b
  | .g :: a, b => takes_app a b
theorem vars_app : ∀ a b : List PW, varsW (a ++ b) = varsW a ++ varsW b
  | [], b => rfl
  | .v n :: a, b => by show n :: varsW (a ++ b) = _; rw [vars_app a b]; rfl
  | .t n :: a, b => vars_app a b
  | .g :: a, b => vars_app a b
theorem takes_ren (r : Str → Str) : ∀ ws : List PW, takesW (renL r ws) = (takesW ws).map r
  | [] => rfl
  | .t n :: ws => by show r n :: takesW (renL r ws) = _; rw [takes_ren r ws]; rfl
  | .v n :: ws => takes_ren r ws
  | .g :: ws => takes_ren r ws
theorem vars_ren (r : Str → Str) : ∀ ws : List PW, varsW (renL r ws) = (varsW ws).map r
  | [] => rfl
  | .v n :: ws => by show r n :: varsW (renL r ws) = _; rw [vars_ren r ws]; rfl
  | .t n :: ws => vars_ren r ws
  | .g :: ws => vars_ren r ws
theorem mem_takes {n : Str} : ∀ {ws : List PW}, n ∈ takesW ws ↔ PW.t n ∈ ws
  | [] => by simp [takesW]
  | .t m :: ws => by
    show n ∈ m :: takesW ws ↔ _
    rw [List.mem_cons, List.mem_cons, mem_takes (ws := ws)]
    simp
  | .v m :: ws => by
    show n ∈ takesW ws ↔ _
    rw [mem_takes (ws := ws)]
    simp
  | .g :: ws => by
    show n ∈ takesW ws ↔ _
    rw [mem_takes (ws := ws)]
    simp
theorem mem_vars {n : Str} : ∀ {ws : List PW}, n ∈ varsW ws ↔ PW.v n ∈ ws
  | [] => by simp [varsW]
  | .v m :: ws => by
    show n ∈ m :: varsW ws ↔ _
    rw [List.mem_cons, List.mem_cons, mem_vars (ws := ws)]
    simp
  | .t m :: ws => by
    show n ∈ varsW ws ↔ _
    rw [mem_vars (ws := ws)]
    simp
  | .g :: ws => by
    show n ∈ varsW ws ↔ _
    rw [mem_vars (ws := ws)]
    simp
theorem mem_open {n : Str} {ws : List PW} : n ∈ openW ws ↔ n ∈ varsW ws ∧ n ∉ takesW ws := by unfold openW; simp
theorem takes_len : ∀ ws : List PW, (takesW ws).length ≤ ws.length
  | [] => Nat.le_refl _
  | .t n :: ws => by have := takes_len ws; show (takesW ws).length + 1 ≤ ws.length + 1; omega
  | .v n :: ws => by have := takes_len ws; show (takesW ws).length ≤ ws.length + 1; omega
  | .g :: ws => by have := takes_len ws; show (takesW ws).length ≤ ws.length + 1; omega
theorem vars_len : ∀ ws : List PW, (varsW ws).length ≤ ws.length
  | [] => Nat.le_refl _
  | .v n :: ws => by have := vars_len ws; show (varsW ws).length + 1 ≤ ws.length + 1; omega
  | .t n :: ws => by have := vars_len ws; show (varsW ws).length ≤ ws.length + 1; omega
  | .g :: ws => by have := vars_len ws; show (varsW ws).length ≤ ws.length + 1; omega
theorem open_len (ws : List PW) : (openW ws).length ≤ ws.length := Nat.le_trans (List.length_filter_le _ _) (vars_len ws)
theorem ar_ren (r : Str → Str) (w : PW) : ar (renW r w) = ar w := by cases w <;> rfl
theorem run_ren (r : Str → Str) (ws : List PW) (k : Nat) : runP k (renL r ws) = runP k ws := runP_map (ar_ren r) ws k
theorem one_ren {r : Str → Str} {ws : List PW} : One (renL r ws) ↔ One ws := by unfold One; rw [run_ren]
theorem ren_len (r : Str → Str) (ws : List PW) : (renL r ws).length = ws.length := by simp [renL]
theorem ren_ren (r q : Str → Str) (ws : List PW) : renL r (renL q ws) = renL (fun n => r (q n)) ws := by
  unfold renL
  rw [List.map_map]
  apply List.map_congr_left
  intro w _
  cases w <;> rfl
theorem ren_app (r : Str → Str) (a b : List PW) : renL r (a ++ b) = renL r a ++ renL r b := by simp [renL]
theorem ren_cong {r q : Str → Str} {ws : List PW} (h1 : ∀ n ∈ takesW ws, r n = q n) (h2 : ∀ n ∈ varsW ws, r n = q n) : renL r ws = renL q ws := by
  unfold renL
  apply List.map_congr_left
  intro w hw
  cases w with
  | g => rfl
  | t n => show PW.t _ = PW.t _; rw [h1 n (mem_takes.mpr hw)]
  | v n => show PW.v _ = PW.v _; rw [h2 n (mem_vars.mpr hw)]
/-! ### standard names -/
def stdNums (bar : List Str) : Nat → Nat → List Str
  | 0, _ => []
  | m + 1, k => lname (nextN bar k) :: stdNums bar m (nextN bar k + 1)
def fnd : List Str → List Str → Str → Option Str
  | a :: as, b :: bs, n => if a = n then some b else fnd as bs n
  | _, _, _ => none
def stdR (ws : List PW) (n : Str) : Str := (fnd (takesW ws) (stdNums (openW ws) (takesW ws).length 0) n).getD n
def stdW (ws : List PW) : List PW := renL (stdR ws) ws
theorem stdNums_len (bar : List Str) : ∀ m k, (stdNums bar m k).length = m
  | 0, k => rfl
  | m + 1, k => by show (stdNums bar m _).length + 1 = m + 1; rw [stdNums_len bar m]
theorem stdNums_mem (bar : List Str) : ∀ (m k : Nat) (s : Str), s ∈ stdNums bar m k → ∃ j, k ≤ j ∧ s = lname j ∧ s ∉ bar
  | 0, k, s, h => by cases h
  | m + 1, k, s, h => by
    obtain ⟨i, _, e, h2, _⟩ := next_spec bar k
    rcases List.mem_cons.mp h with h | h
    · exact ⟨nextN bar k, by omega, h, by rw [h, e]; exact h2⟩
    · obtain ⟨j, hj, hs⟩ := stdNums_mem bar m _ s h
      exact ⟨j, by omega, hs⟩
theorem stdNums_nd (bar : List Str) : ∀ m k, (stdNums bar m k).Nodup
  | 0, k => List.nodup_nil
  | m + 1, k => by
    refine List.nodup_cons.mpr ⟨fun h => ?_, stdNums_nd bar m _⟩
    obtain ⟨j, hj, hs, _⟩ := stdNums_mem bar m _ _ h
    have := lname_inj hs
    omega
theorem fnd_some : ∀ {as bs : List Str} {n : Str}, as.length = bs.length → n ∈ as → ∃ s, fnd as bs n = some s ∧ s ∈ bs
  | [], bs, n, _, h => by cases h
  | a :: as, [], n, hl, h => by cases hl
  | a :: as, b :: bs, n, hl, h => by
    unfold fnd
    by_cases c : a = n
    · rw [if_pos c]; exact ⟨b, rfl, by simp⟩
    · rw [if_neg c]
      obtain ⟨s, h1, h2⟩ := fnd_some (as := as) (bs := bs) (by simpa using hl) ((List.mem_cons.mp h).resolve_left fun e => c e.symm)
      exact ⟨s, h1, List.mem_cons_of_mem _ h2⟩
theorem fnd_none : ∀ {as bs : List Str} {n : Str}, n ∉ as → fnd as bs n = none
  | [], bs, n, h => by unfold fnd; rfl
  | a :: as, [], n, h => by unfold fnd; rfl
  | a :: as, b :: bs, n, h => by
    unfold fnd
    rw [if_neg fun e => h (by simp [e])]
    exact fnd_none fun z => h (List.mem_cons_of_mem _ z)
theorem fnd_inj : ∀ {as bs : List Str} {m n s : Str}, bs.Nodup → fnd as bs m = some s → fnd as bs n = some s → m = n
  | [], bs, m, n, s, _, h, _ => by unfold fnd at h; cases h
  | a :: as, [], m, n, s, _, h, _ => by unfold fnd at h; cases h
  | a :: as, b :: bs, m, n, s, hn, h, k => by
    rw [List.nodup_cons] at hn
    have mem : ∀ {as bs : List Str} {n s : Str}, fnd as bs n = some s → s ∈ bs := by
      intro as
      induction as with
      | nil => intro bs n s h; unfold fnd at h; cases h
      | cons a as ih =>
        intro bs n s h
        cases bs with
        | nil => unfold fnd at h; cases h
        | cons b bs =>
          unfold fnd at h
          split at h
          · cases h; simp
          · exact List.mem_cons_of_mem _ (ih h)
    unfold fnd at h k
    split at h
    · rename_i c
      cases h
      split at k
      · rename_i c2; exact c.symm.trans c2
      · exact absurd (mem k) hn.1
    · split at k
      · cases k; exact absurd (mem h) hn.1
      · exact fnd_inj hn.2 h k
theorem fnd_map {r : Str → Str} : ∀ {as bs : List Str} {n : Str}, (∀ a ∈ as, r a = r n → a = n) → fnd (as.map r) bs (r n) = fnd as bs n
  | [], bs, n, h => rfl
  | a :: as, [], n, h => rfl
  | a :: as, b :: bs, n, h => by
    show (if r a = r n then some b else fnd (as.map r) bs (r n)) = if a = n then some b else fnd as bs n
    rw [fnd_map fun x hx => h x (List.mem_cons_of_mem _ hx)]
    by_cases c : a = n
    · rw [if_pos c, if_pos (by rw [c])]
    · rw [if_neg c, if_neg fun e => c (h a (by simp) e)]
theorem stdR_take {ws : List PW} {n : Str} (h : n ∈ takesW ws) : stdR ws n ∈ stdNums (openW ws) (takesW ws).length 0 := by
  obtain ⟨s, h1, h2⟩ := fnd_some (stdNums_len (openW ws) _ 0).symm h
  unfold stdR
  rw [h1]
  exact h2
theorem stdR_other {ws : List PW} {n : Str} (h : n ∉ takesW ws) : stdR ws n = n := by
  unfold stdR
  rw [fnd_none h]
  rfl
theorem stdR_open {ws : List PW} {n : Str} (h : n ∈ openW ws) : stdR ws n = n := stdR_other (mem_open.mp h).2
theorem stdR_fresh {ws : List PW} {n : Str} (h : n ∈ takesW ws) : stdR ws n ∉ openW ws := by
  obtain ⟨j, _, _, h⟩ := stdNums_mem _ _ _ _ (stdR_take h)
  exact h
theorem stdR_nm {ws : List PW} {n : Str} (h : n ∈ takesW ws) : Nm (stdR ws n) := by
  obtain ⟨j, _, e, h⟩ := stdNums_mem _ _ _ _ (stdR_take h)
  rw [e]
  exact lname_nm j
theorem stdR_inj {ws : List PW} {m n : Str} (hm : m ∈ takesW ws) (hn : n ∈ takesW ws) (h : stdR ws m = stdR ws n) : m = n := by
  obtain ⟨s, h1, _⟩ := fnd_some (stdNums_len (openW ws) _ 0).symm hm
  obtain ⟨s2, h2, _⟩ := fnd_some (stdNums_len (openW ws) _ 0).symm hn
  unfold stdR at h
  rw [h1, h2] at h
  have h : s = s2 := h
  subst h
  exact fnd_inj (stdNums_nd _ _ _) h1 h2
/-- other names of what is taken -/
theorem open_ren {V : List PW} {r : Str → Str} (h1 : ∀ n ∈ openW V, r n = n) (h2 : ∀ a ∈ takesW V, r a ∉ openW V) : openW (renL r V) = openW V := by
  unfold openW
  rw [vars_ren, takes_ren, List.filter_map]
  have e : List.filter ((fun n => decide (n ∉ List.map r (takesW V))) ∘ r) (varsW V) = List.filter (fun n => decide (n ∉ takesW V)) (varsW V) := by
    apply List.filter_congr
    intro n hn
    show decide (r n ∉ List.map r (takesW V)) = decide (n ∉ takesW V)
    by_cases c : n ∈ takesW V
    · rw [decide_eq_false (fun z : n ∉ takesW V => z c), decide_eq_false (fun z : r n ∉ List.map r (takesW V) => z (List.mem_map_of_mem c))]
    · have ho : n ∈ openW V := mem_open.mpr ⟨hn, c⟩
      rw [decide_eq_true c, decide_eq_true]
      intro z
      obtain ⟨a, ha, e⟩ := List.mem_map.mp z
      rw [h1 n ho] at e
      exact h2 a ha (e ▸ ho)
  rw [e]
  have : ∀ (l : List Str), (∀ n ∈ l, r n = n) → l.map r = l := by
    intro l hl
    induction l with
    | nil => rfl
    | cons a l ih => rw [List.map_cons, hl a (by simp), ih fun n hn => hl n (List.mem_cons_of_mem _ hn)]
  exact this _ h1
theorem std_ren {V : List PW} {r : Str → Str} (h1 : ∀ n ∈ openW V, r n = n) (h2 : ∀ a ∈ takesW V, r a ∉ openW V) (h3 : ∀ a ∈ takesW V, ∀ b ∈ takesW V, r a = r b → a = b) : stdW (renL r V) = stdW V := by
  unfold stdW
  rw [ren_ren]
  have hT : ∀ n ∈ takesW V, stdR (renL r V) (r n) = stdR V n := by
    intro n hn
    unfold stdR
    rw [takes_ren, open_ren h1 h2, List.length_map, fnd_map fun a ha e => h3 a ha n hn e]
    obtain ⟨s, e, _⟩ := fnd_some (stdNums_len (openW V) _ 0).symm hn
    rw [e]
    rfl
  refine ren_cong hT fun n hn => ?_
  by_cases c : n ∈ takesW V
  · exact hT n c
  · have ho : n ∈ openW V := mem_open.mpr ⟨hn, c⟩
    rw [h1 n ho, stdR_other c, stdR_other]
    rw [takes_ren]
    intro z
    obtain ⟨a, ha, e⟩ := List.mem_map.mp z
    exact h2 a ha (e ▸ ho)
theorem std_sub {V W : List PW} (ht : ∀ n ∈ takesW V, n ∈ takesW W) (ho : ∀ n ∈ openW V, n ∈ openW W) : stdW (renL (stdR W) V) = stdW V :=
  std_ren (fun n hn => stdR_open (ho n hn)) (fun a ha z => stdR_fresh (ht a ha) (ho _ z)) fun a ha b hb e => stdR_inj (ht a ha) (ht b hb) e
theorem std_std (V : List PW) : stdW (stdW V) = stdW V := std_sub (fun _ h => h) fun _ h => h
theorem std_len (V : List PW) : (stdW V).length = V.length := ren_len _ _
theorem one_std {V : List PW} : One (stdW V) ↔ One V := one_ren
theorem wok_ren {r : Str → Str} {V : List PW} (h1 : ∀ n ∈ takesW V, Nm (r n)) (h2 : ∀ n ∈ varsW V, Nm (r n)) : WOk (renL r V) := by
  intro w hw
  obtain ⟨x, hx, rfl⟩ := List.mem_map.mp hw
  cases x with
  | g => trivial
  | t n => exact h1 n (mem_takes.mpr hx)
  | v n => exact h2 n (mem_vars.mpr hx)
theorem wok_take {V : List PW} (h : WOk V) {n : Str} (hn : n ∈ takesW V) : Nm n := h _ (mem_takes.mp hn)
theorem wok_var {V : List PW} (h : WOk V) {n : Str} (hn : n ∈ varsW V) : Nm n := h _ (mem_vars.mp hn)
theorem wok_std {V : List PW} (h : WOk V) : WOk (stdW V) := by
  refine wok_ren (fun n hn => stdR_nm hn) fun n hn => ?_
  by_cases c : n ∈ takesW V
  · exact stdR_nm c
  · rw [stdR_other c]; exact wok_var h hn
/-- names told anew, but for open ones -/
def apR (mark : Str) (ws : List PW) (n : Str) : Str := if n ∈ openW ws then n else mark ++ n
def apartW (mark : Str) (ws : List PW) : List PW := renL (apR mark ws) ws
end VP

end

section
set_option Elab.async false
set_option linter.all false
set_option autoImplicit false
set_option maxRecDepth 100000
set_option maxHeartbeats 400000
/-! ### programs as trees: steps, and that all orders of them meet -/
namespace VP
open PySem PySem.Spec PyProof.Rows L2 VL
inductive Tr where
  | v (n : Str) | g (f a : Tr) | t (n : Str) (b : Tr)
namespace Tr
def fl : Tr → List PW
  | v n => [.v n]
  | g f a => .g :: (fl f ++ fl a)
  | t n b => .t n :: fl b
def vs : Tr → List Str
  | v n => [n]
  | g f a => vs f ++ vs a
  | t _ b => vs b
def tk : Tr → List Str
  | v _ => []
  | g f a => tk f ++ tk a
  | t n b => n :: tk b
def sub (x : Str) (a : Tr) : Tr → Tr
  | v n => if n = x then a else v n
  | g f c => g (sub x a f) (sub x a c)
  | t n b => t n (sub x a b)
/-- each taken name stands in its body -/
def has : Tr → Prop
  | v _ => True
  | g f a => has f ∧ has a
  | t n b => n ∈ vs b ∧ has b
structure Lin (m : Tr) : Prop where
  nv : (vs m).Nodup
  nt : (tk m).Nodup
  h : has m
inductive Red : Tr → Tr → Prop
  | beta (x : Str) (b a : Tr) : Red (g (t x b) a) (sub x a b)
  | gl {f f' : Tr} (a : Tr) : Red f f' → Red (g f a) (g f' a)
  | gr (f : Tr) {a a' : Tr} : Red a a' → Red (g f a) (g f a')
  | tb (n : Str) {b b' : Tr} : Red b b' → Red (t n b) (t n b')
theorem sub_no {x : Str} {a : Tr} : ∀ {b : Tr}, x ∉ vs b → sub x a b = b
  | v n, h => if_neg fun e => h (by simp [vs, e])
  | g f c, h => by
    have h : x ∉ vs f ++ vs c := h
    rw [List.mem_append, not_or] at h
    show g (sub x a f) (sub x a c) = _
    rw [sub_no h.1, sub_no h.2]
  | t n b, h => by
    show t n (sub x a b) = _
    rw [sub_no (b := b) h]
theorem sub_sub {x y : Str} {a d : Tr} (hxy : x ≠ y) (hy : y ∉ vs a) : ∀ c : Tr, sub x a (sub y d c) = sub y (sub x a d) (sub x a c)
  | v n => by
    by_cases c1 : n = y
    · subst c1
      have e1 : sub n d (v n) = d := if_pos rfl
      have e2 : sub x a (v n) = v n := if_neg fun e => hxy e.symm
      rw [e1, e2]
      exact (if_pos rfl).symm
    · have e1 : sub y d (v n) = v n := if_neg c1
      rw [e1]
      by_cases c2 : n = x
      · subst c2
        have e2 : sub n a (v n) = a := if_pos rfl
        rw [e2, sub_no hy]
      · have e2 : sub x a (v n) = v n := if_neg c2
        rw [e2]
        exact (if_neg c1).symm
  | g f c => by
    show g (sub x a (sub y d f)) (sub x a (sub y d c)) = g _ _
    rw [sub_sub hxy hy f, sub_sub hxy hy c]
  | t n b => by
    exact congrArg (t n) (sub_sub hxy hy b)
theorem red_body {x : Str} {a : Tr} {b b' : Tr} (h : Red b b') : x ∉ tk b → (∀ y ∈ tk b, y ∉ vs a) → Red (sub x a b) (sub x a b') := by
  induction h with
  | beta y c d =>
    intro h1 h2
    have hy : y ∈ tk (g (t y c) d) := by simp [tk]
    rw [sub_sub (fun e : x = y => h1 (by rw [e]; exact hy)) (h2 y hy)]
    exact .beta y (sub x a c) (sub x a d)
  | gl e _ ih => intro h1 h2; exact .gl _ (ih (fun z => h1 (by simp [tk, z])) fun y hy => h2 y (by simp [tk, hy]))
  | gr f _ ih => intro h1 h2; exact .gr _ (ih (fun z => h1 (by simp [tk, z])) fun y hy => h2 y (by simp [tk, hy]))
  | tb n _ ih => intro h1 h2; exact .tb _ (ih (fun z => h1 (by simp [tk, z])) fun y hy => h2 y (by simp [tk, hy]))
theorem red_arg {x : Str} {a a' : Tr} (h : Red a a') : ∀ {b : Tr}, (vs b).Nodup → x ∈ vs b → Red (sub x a b) (sub x a' b)
  | v n, _, hx => by
    have : x = n := by simpa [vs] using hx
    subst this
    show Red (if x = x then a else v x) (if x = x then a' else v x)
    rw [if_pos rfl, if_pos rfl]
    exact h
  | g f c, hn, hx => by
    obtain ⟨h1, h2, h3⟩ := List.nodup_append.mp (show (vs f ++ vs c).Nodup from hn)
    rcases List.mem_append.mp (show x ∈ vs f ++ vs c from hx) with z | z
    · have hc : x ∉ vs c := fun q => h3 x z x q rfl
      show Red (g (sub x a f) (sub x a c)) (g (sub x a' f) (sub x a' c))
      rw [sub_no hc, sub_no hc]
      exact .gl _ (red_arg h h1 z)
    · have hf : x ∉ vs f := fun q => h3 x q x z rfl
      show Red (g (sub x a f) (sub x a c)) (g (sub x a' f) (sub x a' c))
      rw [sub_no hf, sub_no hf]
      exact .gr _ (red_arg h h2 z)
  | t n b, hn, hx => .tb n (red_arg h (b := b) hn hx)
theorem tk_vs : ∀ {m : Tr} {n : Str}, has m → n ∈ tk m → n ∈ vs m
  | v _, _, _, h => by simp [tk] at h
  | g f a, n, hh, h => by
    rcases List.mem_append.mp (show n ∈ tk f ++ tk a from h) with z | z
    · exact List.mem_append.mpr (.inl (tk_vs hh.1 z))
    · exact List.mem_append.mpr (.inr (tk_vs hh.2 z))
  | t x b, n, hh, h => by
    rcases List.mem_cons.mp (show n ∈ x :: tk b from h) with rfl | z
    · exact hh.1
    · exact tk_vs (m := b) hh.2 z
theorem Lin.g1 {f a : Tr} (h : Lin (g f a)) : Lin f := ⟨(List.nodup_append.mp (show (vs f ++ vs a).Nodup from h.nv)).1, (List.nodup_append.mp (show (tk f ++ tk a).Nodup from h.nt)).1, h.h.1⟩
theorem Lin.g2 {f a : Tr} (h : Lin (g f a)) : Lin a := ⟨(List.nodup_append.mp (show (vs f ++ vs a).Nodup from h.nv)).2.1, (List.nodup_append.mp (show (tk f ++ tk a).Nodup from h.nt)).2.1, h.h.2⟩
theorem Lin.t1 {n : Str} {b : Tr} (h : Lin (t n b)) : Lin b := ⟨h.nv, (List.nodup_cons.mp (show (n :: tk b).Nodup from h.nt)).2, h.h.2⟩
theorem Lin.xb {x : Str} {b a : Tr} (h : Lin (g (t x b) a)) : x ∉ tk b := (List.nodup_cons.mp (show (x :: tk b).Nodup from h.g1.nt)).1
theorem Lin.ba {x : Str} {b a : Tr} (h : Lin (g (t x b) a)) : ∀ y ∈ tk b, y ∉ vs a := fun y hy z =>
  (List.nodup_append.mp (show (vs b ++ vs a).Nodup from h.nv)).2.2 y (tk_vs h.g1.t1.h hy) y z rfl
/-- two steps meet in one step each -/
theorem diamond {m p : Tr} (h : Red m p) : Lin m → ∀ q, Red m q → p = q ∨ ∃ r, Red p r ∧ Red q r := by
  induction h with
  | beta x b a =>
    intro hl q hq
    cases hq with
    | beta => exact .inl rfl
    | gl _ h1 =>
      cases h1 with
      | tb _ h2 => exact .inr ⟨_, red_body h2 hl.xb hl.ba, .beta _ _ _⟩
    | gr _ h1 => exact .inr ⟨_, red_arg h1 hl.g1.t1.nv hl.h.1.1, .beta _ _ _⟩
  | gl a h1 ih =>
    intro hl q hq
    cases hq with
    | beta x b a =>
      cases h1 with
      | tb _ h2 => exact .inr ⟨_, .beta _ _ _, red_body h2 hl.xb hl.ba⟩
    | gl _ h2 =>
      rcases ih hl.g1 _ h2 with rfl | ⟨r, r1, r2⟩
      · exact .inl rfl
      · exact .inr ⟨_, .gl _ r1, .gl _ r2⟩
    | gr _ h2 => exact .inr ⟨_, .gr _ h2, .gl _ h1⟩
  | gr f h1 ih =>
    intro hl q hq
    cases hq with
    | beta x b a => exact .inr ⟨_, .beta _ _ _, red_arg h1 hl.g1.t1.nv hl.h.1.1⟩
    | gl _ h2 => exact .inr ⟨_, .gl _ h2, .gr _ h1⟩
    | gr _ h2 =>
      rcases ih hl.g2 _ h2 with rfl | ⟨r, r1, r2⟩
      · exact .inl rfl
      · exact .inr ⟨_, .gr _ r1, .gr _ r2⟩
  | tb n h1 ih =>
    intro hl q hq
    cases hq with
    | tb _ h2 =>
      rcases ih hl.t1 _ h2 with rfl | ⟨r, r1, r2⟩
      · exact .inl rfl
      · exact .inr ⟨_, .tb _ r1, .tb _ r2⟩
/-! ### a step leaves all unlike -/
def gv : Tr → Nat
  | v _ => 0
  | g f a => gv f + gv a + 1
  | t _ b => gv b
theorem sub_vs {x : Str} {a : Tr} : ∀ {b : Tr}, (vs b).Nodup → x ∈ vs b → (vs (sub x a b)).Perm (vs a ++ (vs b).erase x)
  | v n, _, hx => by
    have : x = n := by simpa [vs] using hx
    subst this
    show (vs (if x = x then a else v x)).Perm _
    rw [if_pos rfl]
    simp [vs]
  | g f c, hn, hx => by
    obtain ⟨h1, h2, h3⟩ := List.nodup_append.mp (show (vs f ++ vs c).Nodup from hn)
    show (vs (sub x a f) ++ vs (sub x a c)).Perm (vs a ++ (vs f ++ vs c).erase x)
    by_cases z : x ∈ vs f
    · have hc : x ∉ vs c := fun q => h3 x z x q rfl
      rw [sub_no hc, List.erase_append_left _ z, ← List.append_assoc]
      exact (sub_vs h1 z).append_right _
    · have z2 : x ∈ vs c := (List.mem_append.mp (show x ∈ vs f ++ vs c from hx)).resolve_left z
      rw [sub_no z, List.erase_append_right _ z, ← List.append_assoc]
      refine ((sub_vs h2 z2).append_left _).trans ?_
      rw [← List.append_assoc]
      exact List.perm_append_comm.append_right _
  | t n b, hn, hx => sub_vs (b := b) hn hx
theorem sub_tk {x : Str} {a : Tr} : ∀ {b : Tr}, (vs b).Nodup → x ∈ vs b → (tk (sub x a b)).Perm (tk a ++ tk b)
  | v n, _, hx => by
    have : x = n := by simpa [vs] using hx
    subst this
    show (tk (if x = x then a else v x)).Perm _
    rw [if_pos rfl]
    simp [tk]
  | g f c, hn, hx => by
    obtain ⟨h1, h2, h3⟩ := List.nodup_append.mp (show (vs f ++ vs c).Nodup from hn)
    show (tk (sub x a f) ++ tk (sub x a c)).Perm (tk a ++ (tk f ++ tk c))
    by_cases z : x ∈ vs f
    · have hc : x ∉ vs c := fun q => h3 x z x q rfl
      rw [sub_no hc, ← List.append_assoc]
      exact (sub_tk h1 z).append_right _
    · have z2 : x ∈ vs c := (List.mem_append.mp (show x ∈ vs f ++ vs c from hx)).resolve_left z
      rw [sub_no z]
      refine ((sub_tk h2 z2).append_left _).trans ?_
      rw [← List.append_assoc, ← List.append_assoc]
      exact List.perm_append_comm.append_right _
  | t n b, hn, hx => by
    refine ((sub_tk (b := b) hn hx).cons n).trans ?_
    exact List.perm_middle.symm
theorem sub_has {x : Str} {a : Tr} (ha : has a) : ∀ {b : Tr}, (vs b).Nodup → x ∈ vs b → x ∉ tk b → has b → has (sub x a b)
  | v n, _, hx, _, _ => by
    have : x = n := by simpa [vs] using hx
    subst this
    show has (if x = x then a else v x)
    rw [if_pos rfl]
    exact ha
  | g f c, hn, hx, ht, hb => by
    obtain ⟨h1, h2, h3⟩ := List.nodup_append.mp (show (vs f ++ vs c).Nodup from hn)
    have ht : x ∉ tk f ++ tk c := ht
    rw [List.mem_append, not_or] at ht
    by_cases z : x ∈ vs f
    · have hc : x ∉ vs c := fun q => h3 x z x q rfl
      refine ⟨sub_has ha h1 z ht.1 hb.1, ?_⟩
      show has (sub x a c)
      rw [sub_no hc]
      exact hb.2
    · have z2 : x ∈ vs c := (List.mem_append.mp (show x ∈ vs f ++ vs c from hx)).resolve_left z
      refine ⟨?_, sub_has ha h2 z2 ht.2 hb.2⟩
      show has (sub x a f)
      rw [sub_no z]
      exact hb.1
  | t n b, hn, hx, ht, hb => by
    have ht : x ∉ n :: tk b := ht
    rw [List.mem_cons, not_or] at ht
    refine ⟨?_, sub_has (b := b) ha hn hx ht.2 hb.2⟩
    refine (sub_vs (b := b) hn hx).mem_iff.mpr (List.mem_append.mpr (.inr ?_))
    exact (List.mem_erase_of_ne fun e => ht.1 e.symm).mpr hb.1
theorem sub_gv {x : Str} {a : Tr} : ∀ {b : Tr}, (vs b).Nodup → x ∈ vs b → gv (sub x a b) = gv a + gv b
  | v n, _, hx => by
    have : x = n := by simpa [vs] using hx
    subst this
    show gv (if x = x then a else v x) = _
    rw [if_pos rfl]
    rfl
  | g f c, hn, hx => by
    obtain ⟨h1, h2, h3⟩ := List.nodup_append.mp (show (vs f ++ vs c).Nodup from hn)
    show gv (sub x a f) + gv (sub x a c) + 1 = gv a + (gv f + gv c + 1)
    by_cases z : x ∈ vs f
    · have hc : x ∉ vs c := fun q => h3 x z x q rfl
      rw [sub_no hc, sub_gv h1 z]
      omega
    · have z2 : x ∈ vs c := (List.mem_append.mp (show x ∈ vs f ++ vs c from hx)).resolve_left z
      rw [sub_no z, sub_gv h2 z2]
      omega
  | t n b, hn, hx => sub_gv (b := b) hn hx
theorem red_vs {m p : Tr} (h : Red m p) : Lin m → (∀ n, n ∈ vs p → n ∈ vs m) ∧ (∀ n, n ∈ tk p → n ∈ tk m) ∧ (∀ n, n ∈ vs m → n ∈ vs p ∨ n ∈ tk m) ∧ Lin p ∧ gv p + 1 = gv m := by
  induction h with
  | beta x b a =>
    intro hl
    have hb := hl.g1.t1
    have hx : x ∈ vs b := hl.h.1.1
    have pv := sub_vs (a := a) hb.nv hx
    have pt := sub_tk (a := a) hb.nv hx
    have hva : (vs b ++ vs a).Nodup := hl.nv
    have hta : (x :: (tk b ++ tk a)).Nodup := hl.nt
    obtain ⟨v1, v2, v3⟩ := List.nodup_append.mp hva
    refine ⟨fun n hn => ?_, fun n hn => ?_, fun n hn => ?_, ⟨?_, ?_, sub_has hl.h.2 hb.nv hx hl.xb hb.h⟩, ?_⟩
    · rcases List.mem_append.mp (pv.mem_iff.mp hn) with z | z
      · exact List.mem_append.mpr (.inr z)
      · exact List.mem_append.mpr (.inl (List.mem_of_mem_erase z))
    · rcases List.mem_append.mp (pt.mem_iff.mp hn) with z | z
      · exact List.mem_append.mpr (.inr z)
      · exact List.mem_append.mpr (.inl (List.mem_cons_of_mem _ z))
    · rcases List.mem_append.mp (show n ∈ vs b ++ vs a from hn) with z | z
      · by_cases c : n = x
        · subst c
          exact .inr (List.mem_append.mpr (.inl (List.mem_cons_self ..)))
        · exact .inl (pv.mem_iff.mpr (List.mem_append.mpr (.inr ((List.mem_erase_of_ne c).mpr z))))
      · exact .inl (pv.mem_iff.mpr (List.mem_append.mpr (.inl z)))
    · refine pv.nodup_iff.mpr (List.nodup_append.mpr ⟨v2, v1.erase _, fun p hp q hq e => v3 q (List.mem_of_mem_erase hq) p hp e.symm⟩)
    · refine pt.nodup_iff.mpr ?_
      exact List.perm_append_comm.nodup_iff.mp (List.nodup_cons.mp hta).2
    · show gv (sub x a b) + 1 = gv b + gv a + 1
      rw [sub_gv hb.nv hx]
      omega
  | @gl f f' a _ ih =>
    intro hl
    obtain ⟨h1, h2, h3, h4, h5⟩ := ih hl.g1
    obtain ⟨v1, v2, v3⟩ := List.nodup_append.mp (show (vs f ++ vs a).Nodup from hl.nv)
    obtain ⟨t1, t2, t3⟩ := List.nodup_append.mp (show (tk f ++ tk a).Nodup from hl.nt)
    refine ⟨fun n hn => ?_, fun n hn => ?_, fun n hn => ?_, ⟨?_, ?_, h4.h, hl.h.2⟩, ?_⟩
    · exact (List.mem_append.mp (show n ∈ vs f' ++ vs a from hn)).elim (fun z => List.mem_append.mpr (.inl (h1 n z))) fun z => List.mem_append.mpr (.inr z)
    · exact (List.mem_append.mp (show n ∈ tk f' ++ tk a from hn)).elim (fun z => List.mem_append.mpr (.inl (h2 n z))) fun z => List.mem_append.mpr (.inr z)
    · rcases List.mem_append.mp (show n ∈ vs f ++ vs a from hn) with z | z
      · rcases h3 n z with q | q
        · exact .inl (List.mem_append.mpr (.inl q))
        · exact .inr (List.mem_append.mpr (.inl q))
      · exact .inl (List.mem_append.mpr (.inr z))
    · exact List.nodup_append.mpr ⟨h4.nv, v2, fun p hp q hq => v3 p (h1 p hp) q hq⟩
    · exact List.nodup_append.mpr ⟨h4.nt, t2, fun p hp q hq => t3 p (h2 p hp) q hq⟩
    · show gv f' + gv a + 1 + 1 = gv f + gv a + 1
      omega
  | @gr f a a' _ ih =>
    intro hl
    obtain ⟨h1, h2, h3, h4, h5⟩ := ih hl.g2
    obtain ⟨v1, v2, v3⟩ := List.nodup_append.mp (show (vs f ++ vs a).Nodup from hl.nv)
    obtain ⟨t1, t2, t3⟩ := List.nodup_append.mp (show (tk f ++ tk a).Nodup from hl.nt)
    refine ⟨fun n hn => ?_, fun n hn => ?_, fun n hn => ?_, ⟨?_, ?_, hl.h.1, h4.h⟩, ?_⟩
    · exact (List.mem_append.mp (show n ∈ vs f ++ vs a' from hn)).elim (fun z => List.mem_append.mpr (.inl z)) fun z => List.mem_append.mpr (.inr (h1 n z))
    · exact (List.mem_append.mp (show n ∈ tk f ++ tk a' from hn)).elim (fun z => List.mem_append.mpr (.inl z)) fun z => List.mem_append.mpr (.inr (h2 n z))
    · rcases List.mem_append.mp (show n ∈ vs f ++ vs a from hn) with z | z
      · exact .inl (List.mem_append.mpr (.inl z))
      · rcases h3 n z with q | q
        · exact .inl (List.mem_append.mpr (.inr q))
        · exact .inr (List.mem_append.mpr (.inr q))
    · exact List.nodup_append.mpr ⟨v1, h4.nv, fun p hp q hq => v3 p hp q (h1 q hq)⟩
    · exact List.nodup_append.mpr ⟨t1, h4.nt, fun p hp q hq => t3 p hp q (h2 q hq)⟩
    · show gv f + gv a' + 1 + 1 = gv f + gv a + 1
      omega
  | @tb n b b' _ ih =>
    intro hl
    obtain ⟨h1, h2, h3, h4, h5⟩ := ih hl.t1
    have hn := List.nodup_cons.mp (show (n :: tk b).Nodup from hl.nt)
    refine ⟨h1, fun k hk => ?_, fun k hk => ?_, ⟨h4.nv, ?_, ?_, h4.h⟩, h5⟩
    · exact (List.mem_cons.mp (show k ∈ n :: tk b' from hk)).elim (fun z => List.mem_cons.mpr (.inl z)) fun z => List.mem_cons.mpr (.inr (h2 k z))
    · exact (h3 k hk).imp id fun z => List.mem_cons.mpr (.inr z)
    · exact List.nodup_cons.mpr ⟨fun z => hn.1 (h2 n z), h4.nt⟩
    · exact (h3 n hl.h.1).resolve_right hn.1
/-! ### all orders meet -/
inductive Way : Nat → Tr → Tr → Prop
  | nil (m : Tr) : Way 0 m m
  | cons {m p q : Tr} {k : Nat} : Red m p → Way k p q → Way (k + 1) m q
def Nf (m : Tr) : Prop := ∀ p, ¬ Red m p
theorem way_one : ∀ {k : Nat} {m p e : Tr}, Lin m → Way k m e → Nf e → Red m p → ∃ j, k = j + 1 ∧ Way j p e
  | 0, m, p, e, _, h, hn, hr => by cases h; exact absurd hr (hn p)
  | k + 1, m, p, e, hl, h, hn, hr => by
    cases h with
    | cons r1 w =>
      refine ⟨k, rfl, ?_⟩
      rename_i p1
      have l1 := (red_vs r1 hl).2.2.2.1
      rcases diamond r1 hl p hr with rfl | ⟨r, ra, rb⟩
      · exact w
      · obtain ⟨j, rfl, wj⟩ := way_one l1 w hn ra
        exact .cons rb wj
theorem way_any : ∀ {j k : Nat} {m p e : Tr}, Lin m → Way k m e → Nf e → Way j m p → ∃ i, k = j + i ∧ Way i p e
  | 0, k, m, p, e, _, h, _, hr => by cases hr; exact ⟨k, by omega, h⟩
  | j + 1, k, m, p, e, hl, h, hn, hr => by
    cases hr with
    | cons r1 w =>
      obtain ⟨k', rfl, w'⟩ := way_one hl h hn r1
      obtain ⟨i, rfl, wi⟩ := way_any (red_vs r1 hl).2.2.2.1 w' hn w
      exact ⟨i, by omega, wi⟩
/-- all ways to an end lead to the same end, with as many steps -/
theorem way_end {j k : Nat} {m e e' : Tr} (hl : Lin m) (h : Way k m e) (hn : Nf e) (h' : Way j m e') (hn' : Nf e') : j = k ∧ e' = e := by
  obtain ⟨i, rfl, w⟩ := way_any hl h hn h'
  cases w with
  | nil => exact ⟨rfl, rfl⟩
  | cons r _ => exact absurd r (hn' _)
end Tr
end VP

end

section
set_option Elab.async false
set_option linter.all false
set_option autoImplicit false
set_option maxRecDepth 100000
set_option maxHeartbeats 400000
/-! ### words and trees -/
namespace VP
open PySem PySem.Spec PyProof.Rows L2 VL
namespace Tr
theorem fl_one : ∀ m : Tr, One (fl m)
  | v n => one_v n
  | g f a => one_g (fl_one f) (fl_one a)
  | t n b => one_t (fl_one b)
theorem fl_vs : ∀ m : Tr, varsW (fl m) = vs m
  | v n => rfl
  | g f a => by
    show varsW (fl f ++ fl a) = _
    rw [vars_app, fl_vs f, fl_vs a]
    rfl
  | t n b => fl_vs b
theorem fl_tk : ∀ m : Tr, takesW (fl m) = tk m
  | v n => rfl
  | g f a => by
    show takesW (fl f ++ fl a) = _
    rw [takes_app, fl_tk f, fl_tk a]
    rfl
  | t n b => by
    show n :: takesW (fl b) = _
    rw [fl_tk b]
    rfl
theorem runP_nil {l : List PW} (h : runP 0 l = some 0) : l = [] := by
  cases l with
  | nil => rfl
  | cons w ws => obtain ⟨k', h1, _⟩ := runP_pos h; omega
theorem of_words : ∀ (n : Nat) {ws : List PW}, ws.length ≤ n → One ws → ∃ m, fl m = ws
  | 0, ws, hl, h => absurd (List.length_eq_zero_iff.mp (by omega)) h.ne
  | n + 1, ws, hl, h => by
    cases ws with
    | nil => exact absurd rfl h.ne
    | cons w r =>
      have hr : r.length ≤ n := by simpa using hl
      clear hl
      obtain ⟨k, hk, h2⟩ := runP_pos (show runP 1 (w :: r) = some 0 from h)
      have hk : k = 0 := by omega
      subst hk
      cases w with
      | v x =>
        have : r = [] := runP_nil h2
        subst this
        exact ⟨v x, rfl⟩
      | t x =>
        obtain ⟨m, rfl⟩ := of_words n hr (show One r from h2)
        exact ⟨t x m, rfl⟩
      | g =>
        obtain ⟨f, c, rfl, hf, hc⟩ := split_one (k := 1) (show runP (1 + 1) r = some 0 from h2)
        rw [List.length_append] at hr
        obtain ⟨m1, rfl⟩ := of_words n (by omega) hf
        obtain ⟨m2, rfl⟩ := of_words n (by omega) (show One c from hc)
        exact ⟨g m1 m2, rfl⟩
theorem fl_len : ∀ m : Tr, 1 ≤ (fl m).length := fun m => (fl_one m).len
/-- two words' trees ahead are one -/
theorem fl_uniq {c d : List PW} : ∀ {a b : Tr}, fl a ++ c = fl b ++ d → a = b ∧ c = d
  | v x, b, h => by
    cases b with
    | v y =>
      obtain ⟨e1, e2⟩ := List.cons.inj (show PW.v x :: c = PW.v y :: d from h)
      cases e1
      exact ⟨rfl, e2⟩
    | g f a => exact nomatch (List.cons.inj (show PW.v x :: c = PW.g :: ((fl f ++ fl a) ++ d) from h)).1
    | t n b => exact nomatch (List.cons.inj (show PW.v x :: c = PW.t n :: (fl b ++ d) from h)).1
  | g f a, b, h => by
    cases b with
    | v y => exact nomatch (List.cons.inj (show PW.g :: ((fl f ++ fl a) ++ c) = PW.v y :: d from h)).1
    | g f' a' =>
      have e := (List.cons.inj (show PW.g :: ((fl f ++ fl a) ++ c) = PW.g :: ((fl f' ++ fl a') ++ d) from h)).2
      rw [List.append_assoc, List.append_assoc] at e
      obtain ⟨q1, e2⟩ := fl_uniq e
      obtain ⟨q2, e3⟩ := fl_uniq e2
      exact ⟨by rw [q1, q2], e3⟩
    | t n b => exact nomatch (List.cons.inj (show PW.g :: ((fl f ++ fl a) ++ c) = PW.t n :: (fl b ++ d) from h)).1
  | t n a, b, h => by
    cases b with
    | v y => exact nomatch (List.cons.inj (show PW.t n :: (fl a ++ c) = PW.v y :: d from h)).1
    | g f' a' => exact nomatch (List.cons.inj (show PW.t n :: (fl a ++ c) = PW.g :: ((fl f' ++ fl a') ++ d) from h)).1
    | t n' b =>
      obtain ⟨e1, e⟩ := List.cons.inj (show PW.t n :: (fl a ++ c) = PW.t n' :: (fl b ++ d) from h)
      cases e1
      obtain ⟨q1, e2⟩ := fl_uniq e
      exact ⟨by rw [q1], e2⟩
theorem fl_inj {a b : Tr} (h : fl a = fl b) : a = b := (fl_uniq (c := []) (d := []) (by rw [List.append_nil, List.append_nil, h])).1
/-- putting in, on words -/
theorem fl_sub {x : Str} {a : Tr} : ∀ {b : Tr} {B1 B2 : List PW}, (vs b).Nodup → fl b = B1 ++ .v x :: B2 → fl (sub x a b) = B1 ++ fl a ++ B2
  | v n, B1, B2, _, h => by
    cases B1 with
    | nil =>
      obtain ⟨e1, rfl⟩ := List.cons.inj (show PW.v n :: [] = PW.v x :: B2 from h)
      cases e1
      show fl (if x = x then a else v x) = _
      rw [if_pos rfl]
      simp
    | cons w B1 => have := congrArg List.length h; simp [fl] at this
  | t n b, B1, B2, hn, h => by
    cases B1 with
    | nil => exact nomatch (List.cons.inj (show PW.t n :: fl b = PW.v x :: B2 from h)).1
    | cons w B1 =>
      obtain ⟨rfl, e⟩ := List.cons.inj (show PW.t n :: fl b = w :: (B1 ++ .v x :: B2) from h)
      show PW.t n :: fl (sub x a b) = _
      rw [fl_sub (b := b) hn e]
      rfl
  | g f c, B1, B2, hn, h => by
    obtain ⟨h1, h2, h3⟩ := List.nodup_append.mp (show (vs f ++ vs c).Nodup from hn)
    cases B1 with
    | nil => exact nomatch (List.cons.inj (show PW.g :: (fl f ++ fl c) = PW.v x :: B2 from h)).1
    | cons w B1 =>
      obtain ⟨rfl, e⟩ := List.cons.inj (show PW.g :: (fl f ++ fl c) = w :: (B1 ++ .v x :: B2) from h)
      have inv : ∀ {m : Tr} {P Q : List PW}, fl m = P ++ .v x :: Q → x ∈ vs m := fun {m P Q} e => by rw [← fl_vs, e]; exact mem_vars.mpr (by simp)
      show PW.g :: (fl (sub x a f) ++ fl (sub x a c)) = _
      rcases List.append_eq_append_iff.mp e with ⟨s, e1, e2⟩ | ⟨s, e1, e2⟩
      · have hx : x ∈ vs c := inv e2
        have hf : x ∉ vs f := fun q => h3 x q x hx rfl
        rw [sub_no hf, fl_sub h2 e2, e1]
        simp
      · cases s with
        | nil =>
          have e2 : fl c = [] ++ .v x :: B2 := e2.symm
          have hx : x ∈ vs c := inv e2
          have hf : x ∉ vs f := fun q => h3 x q x hx rfl
          rw [sub_no hf, fl_sub h2 e2, e1]
          simp
        | cons w s =>
          obtain ⟨rfl, rfl⟩ := List.cons.inj e2
          have hx : x ∈ vs f := inv e1
          have hc : x ∉ vs c := fun q => h3 x hx x q rfl
          rw [sub_no hc, fl_sub h1 e1]
          simp
theorem one_same {a b c d : List PW} (ha : One a) (hb : One b) (h : a ++ c = b ++ d) : a = b ∧ c = d := by
  obtain ⟨m, rfl⟩ := of_words a.length (Nat.le_refl _) ha
  obtain ⟨k, rfl⟩ := of_words b.length (Nat.le_refl _) hb
  obtain ⟨e1, e2⟩ := fl_uniq h
  exact ⟨by rw [e1], e2⟩
/-- the words of a part -/
theorem part_in {f : Tr} {A s R E r : List PW} (h : fl f = A ++ s) (hs : s ≠ []) (hR : One R) (e : R ++ E = s ++ r) : ∃ E', s = R ++ E' ∧ E = E' ++ r := by
  have h1 := fl_one f
  rw [h] at h1
  unfold One at h1
  rw [runP_app] at h1
  cases hk : runP 1 A with
  | none => rw [hk] at h1; cases h1
  | some k =>
    rw [hk] at h1
    have h1 : runP k s = some 0 := h1
    cases s with
    | nil => exact absurd rfl hs
    | cons w s =>
      obtain ⟨j, rfl, _⟩ := runP_pos h1
      obtain ⟨R', E', e1, hR', _⟩ := split_one h1
      rw [e1, List.append_assoc] at e
      obtain ⟨q1, q2⟩ := one_same hR hR' e
      exact ⟨E', by rw [e1, q1], q2⟩
theorem words_red {x : Str} {B1 B2 C : List PW} (hb : One (B1 ++ .v x :: B2)) (hc : One C) : ∀ {m : Tr} {A E : List PW}, Lin m → fl m = A ++ (.g :: .t x :: ((B1 ++ .v x :: B2) ++ C)) ++ E → ∃ p, Red m p ∧ fl p = A ++ B1 ++ C ++ B2 ++ E
  | v n, A, E, _, h => by have := congrArg List.length h; simp [fl] at this; omega
  | t n b, A, E, hl, h => by
    cases A with
    | nil => exact nomatch (List.cons.inj (show PW.t n :: fl b = .g :: (.t x :: ((B1 ++ .v x :: B2) ++ C) ++ E) from h)).1
    | cons w A =>
      obtain ⟨rfl, e⟩ := List.cons.inj (show PW.t n :: fl b = w :: (A ++ (.g :: .t x :: ((B1 ++ .v x :: B2) ++ C)) ++ E) from h)
      obtain ⟨p, h1, h2⟩ := words_red hb hc hl.t1 e
      refine ⟨t n p, .tb n h1, ?_⟩
      show PW.t n :: fl p = _
      rw [h2]
      rfl
  | g f a, A, E, hl, h => by
    obtain ⟨b0, hb0⟩ := of_words _ (Nat.le_refl _) hb
    obtain ⟨c0, hc0⟩ := of_words _ (Nat.le_refl _) hc
    cases A with
    | nil =>
      have e := (List.cons.inj (show PW.g :: (fl f ++ fl a) = .g :: (.t x :: ((B1 ++ .v x :: B2) ++ C) ++ E) from h)).2
      rw [← hb0, ← hc0] at e
      have e : fl f ++ fl a = fl (t x b0) ++ (fl c0 ++ E) := by rw [e]; simp [fl]
      obtain ⟨rfl, e2⟩ := fl_uniq e
      have e4 : fl a ++ [] = fl c0 ++ E := by rw [List.append_nil]; first | exact e2 | exact e2.symm
      obtain ⟨q, e3⟩ := fl_uniq e4
      subst q
      subst e3
      refine ⟨sub x a b0, .beta _ _ _, ?_⟩
      rw [fl_sub hl.g1.t1.nv hb0, hc0]
      simp
    | cons w A =>
      obtain ⟨rfl, e⟩ := List.cons.inj (show PW.g :: (fl f ++ fl a) = w :: (A ++ (.g :: .t x :: ((B1 ++ .v x :: B2) ++ C)) ++ E) from h)
      have hR : One (.g :: .t x :: ((B1 ++ .v x :: B2) ++ C)) := one_g (f := .t x :: (B1 ++ .v x :: B2)) (one_t hb) hc
      have right : ∀ s, A = fl f ++ s → fl a = s ++ (.g :: .t x :: ((B1 ++ .v x :: B2) ++ C)) ++ E → ∃ p, Red (g f a) p ∧ fl p = .g :: A ++ B1 ++ C ++ B2 ++ E := by
        intro s e1 e2
        obtain ⟨p, h1, h2⟩ := words_red hb hc hl.g2 e2
        refine ⟨g f p, .gr f h1, ?_⟩
        show PW.g :: (fl f ++ fl p) = _
        rw [h2, e1]
        simp
      rw [List.append_assoc] at e
      rcases List.append_eq_append_iff.mp e with ⟨s, e1, e2⟩ | ⟨s, e1, e2⟩
      · exact right s e1 (by rw [e2]; simp)
      · by_cases c0 : s = []
        · subst c0
          rw [List.append_nil] at e1
          exact right [] (by rw [e1, List.append_nil]) (by rw [List.nil_append]; exact e2.symm)
        · obtain ⟨E', q1, q2⟩ := part_in e1 c0 hR e2
          obtain ⟨p, h1, h2⟩ := words_red hb hc hl.g1 (A := A) (E := E') (by rw [e1, q1]; simp)
          refine ⟨g p a, .gl a h1, ?_⟩
          show PW.g :: (fl p ++ fl a) = _
          rw [h2, q2]
          simp
theorem mem_split {b : Tr} {x : Str} (h : x ∈ vs b) : ∃ B1 B2, fl b = B1 ++ .v x :: B2 :=
  List.append_of_mem (mem_vars.mp (by rw [fl_vs]; exact h))
theorem red_words {m p : Tr} (h : Red m p) : Lin m → ∃ (A B1 B2 C E : List PW) (x : Str), fl m = A ++ (.g :: .t x :: ((B1 ++ .v x :: B2) ++ C)) ++ E ∧ One (B1 ++ .v x :: B2) ∧ One C ∧ fl p = A ++ B1 ++ C ++ B2 ++ E := by
  induction h with
  | beta x b a =>
    intro hl
    obtain ⟨B1, B2, e⟩ := mem_split hl.h.1.1
    refine ⟨[], B1, B2, fl a, [], x, ?_, by rw [← e]; exact fl_one b, fl_one a, ?_⟩
    · show PW.g :: (.t x :: fl b ++ fl a) = _
      rw [e]
      simp
    · rw [fl_sub hl.g1.t1.nv e]
      simp
  | gl a _ ih =>
    intro hl
    obtain ⟨A, B1, B2, C, E, x, h1, h2, h3, h4⟩ := ih hl.g1
    refine ⟨.g :: A, B1, B2, C, E ++ fl a, x, ?_, h2, h3, ?_⟩
    · show PW.g :: (fl _ ++ fl a) = _
      rw [h1]
      simp
    · show PW.g :: (fl _ ++ fl a) = _
      rw [h4]
      simp
  | gr f _ ih =>
    intro hl
    obtain ⟨A, B1, B2, C, E, x, h1, h2, h3, h4⟩ := ih hl.g2
    refine ⟨.g :: (fl f ++ A), B1, B2, C, E, x, ?_, h2, h3, ?_⟩
    · show PW.g :: (fl f ++ fl _) = _
      rw [h1]
      simp
    · show PW.g :: (fl f ++ fl _) = _
      rw [h4]
      simp
  | tb n _ ih =>
    intro hl
    obtain ⟨A, B1, B2, C, E, x, h1, h2, h3, h4⟩ := ih hl.t1
    refine ⟨.t n :: A, B1, B2, C, E, x, ?_, h2, h3, ?_⟩
    · show PW.t n :: fl _ = _
      rw [h1]
      simp
    · show PW.t n :: fl _ = _
      rw [h4]
      simp
end Tr
end VP

end

section
set_option Elab.async false
set_option linter.all false
set_option autoImplicit false
set_option maxRecDepth 100000
set_option maxHeartbeats 400000
/-! ### the end of all ways -/
namespace VP
open PySem PySem.Spec PyProof.Rows L2 VL
namespace Tr
theorem nf_ex : ∀ (n : Nat) {m : Tr}, gv m ≤ n → Lin m → ∃ k e, Way k m e ∧ Nf e
  | n, m, hg, hl => by
    by_cases h : ∃ p, Red m p
    · obtain ⟨p, hp⟩ := h
      obtain ⟨_, _, _, l1, g1⟩ := red_vs hp hl
      cases n with
      | zero => omega
      | succ n =>
        obtain ⟨k, e, w, he⟩ := nf_ex n (by omega) l1
        exact ⟨k + 1, e, .cons hp w, he⟩
    · exact ⟨0, m, .nil m, fun p hp => h ⟨p, hp⟩⟩
theorem way_lin : ∀ {k : Nat} {m e : Tr}, Lin m → Way k m e → Lin e ∧ gv m = gv e + k ∧ (∀ n, n ∈ vs e → n ∈ vs m) ∧ (∀ n, n ∈ tk e → n ∈ tk m)
  | 0, m, e, hl, h => by cases h; exact ⟨hl, rfl, fun _ h => h, fun _ h => h⟩
  | k + 1, m, e, hl, h => by
    cases h with
    | cons r w =>
      obtain ⟨h1, h2, _, l1, g1⟩ := red_vs r hl
      obtain ⟨a, b, c, d⟩ := way_lin l1 w
      exact ⟨a, by omega, fun n hn => h1 n (c n hn), fun n hn => h2 n (d n hn)⟩
theorem way_snoc : ∀ {k : Nat} {m p e : Tr}, Way k m p → Red p e → Way (k + 1) m e
  | 0, m, p, e, h, r => by cases h; exact .cons r (.nil _)
  | k + 1, m, p, e, h, r => by
    cases h with
    | cons r1 w => exact .cons r1 (way_snoc w r)
theorem fl_gv : ∀ m : Tr, ((fl m).filter isG).length = gv m
  | v n => rfl
  | g f a => by
    show ((PW.g :: (fl f ++ fl a)).filter isG).length = gv f + gv a + 1
    rw [List.filter_cons_of_pos rfl, List.length_cons, List.filter_append, List.length_append, fl_gv f, fl_gv a]
  | t n b => by
    show ((PW.t n :: fl b).filter isG).length = gv b
    rw [List.filter_cons_of_neg (by simp [isG]), fl_gv b]
end Tr
/-- at a give and a take stands a step -/
theorem step_split {ws A R : List PW} {x : Str} (h : One ws) (e : ws = A ++ .g :: .t x :: R) (tk : ∃ b C, R = b ++ C ∧ One b ∧ PW.v x ∈ b) :
    ∃ B1 B2 C E, ws = A ++ (.g :: .t x :: ((B1 ++ .v x :: B2) ++ C)) ++ E ∧ One (B1 ++ .v x :: B2) ∧ One C := by
  obtain ⟨b, C0, rfl, hb, hx⟩ := tk
  have h1 := h
  rw [e] at h1
  unfold One at h1
  rw [runP_app] at h1
  cases hk : runP 1 A with
  | none => rw [hk] at h1; cases h1
  | some k =>
    rw [hk] at h1
    have h1 : runP k (.g :: .t x :: (b ++ C0)) = some 0 := h1
    obtain ⟨j, rfl, h2⟩ := runP_pos h1
    have h2 : runP (j + 1 + 1) (.t x :: (b ++ C0)) = some 0 := h2
    obtain ⟨j2, hj, h3⟩ := runP_pos h2
    have hj : j2 = j + 1 := by omega
    subst hj
    have h3 : runP ((j + 1) + 1) (b ++ C0) = some 0 := h3
    rw [One.skip hb] at h3
    obtain ⟨C, E, rfl, hC, _⟩ := split_one h3
    obtain ⟨B1, B2, rfl⟩ := List.append_of_mem hx
    exact ⟨B1, B2, C, E, by rw [e]; simp, hb, hC⟩
theorem suffix_one {a b : List PW} {n : Str} {k : Nat} (h : runP k (a ++ .t n :: b) = some 0) : ∃ c d, b = c ++ d ∧ One c := by
  rw [runP_app] at h
  cases hk : runP k a with
  | none => rw [hk] at h; cases h
  | some k' =>
    rw [hk] at h
    have h : runP k' (.t n :: b) = some 0 := h
    obtain ⟨j, rfl, h2⟩ := runP_pos h
    obtain ⟨f, c, e, hf, _⟩ := split_one (b := b) (k := j) h2
    exact ⟨f, c, e, hf⟩
namespace Tr
/-- each taken name stands in its body, in words -/
def TkW (ws : List PW) : Prop := ∀ A n R, ws = A ++ .t n :: R → ∃ b C, R = b ++ C ∧ One b ∧ PW.v n ∈ b
theorem has_tkW : ∀ {m : Tr}, has m → TkW (fl m)
  | v n, _ => by
    intro A x R h
    cases A with
    | nil => cases h
    | cons w A => have := congrArg List.length h; simp [fl] at this
  | g f a, hl => by
    intro A x R h
    cases A with
    | nil => cases h
    | cons w A =>
      have h : fl f ++ fl a = A ++ .t x :: R := (List.cons.inj h).2
      rcases List.append_eq_append_iff.mp h with ⟨as, h1, h2⟩ | ⟨cs, h1, h2⟩
      · exact has_tkW hl.2 as x R h2
      · cases cs with
        | nil => exact has_tkW hl.2 [] x R h2.symm
        | cons c cs =>
          obtain ⟨rfl, rfl⟩ := List.cons.inj h2
          obtain ⟨b, C, rfl, h3, h4⟩ := has_tkW hl.1 A x cs h1
          exact ⟨b, C ++ fl a, by simp, h3, h4⟩
  | t n b, hl => by
    intro A x R h
    cases A with
    | nil =>
      obtain ⟨h1, rfl⟩ := List.cons.inj (show PW.t n :: fl b = .t x :: R from h)
      cases h1
      exact ⟨fl b, [], by simp, fl_one b, mem_vars.mp (by rw [fl_vs]; exact hl.1)⟩
    | cons w A => exact has_tkW (m := b) hl.2 A x R (List.cons.inj h).2
theorem tkW_has : ∀ {m : Tr}, TkW (fl m) → has m
  | v n, _ => trivial
  | t n b, h => by
    refine ⟨?_, tkW_has (m := b) fun A x R e => h (.t n :: A) x R (by show PW.t n :: fl b = _; rw [e]; rfl)⟩
    obtain ⟨b', C, e, hb, hx⟩ := h [] n (fl b) rfl
    obtain ⟨q, _⟩ := one_same (c := []) (fl_one b) hb (by rw [List.append_nil]; exact e)
    rw [← fl_vs, q]
    exact mem_vars.mpr hx
  | g f a, h => by
    refine ⟨tkW_has (m := f) fun A x R e => ?_, tkW_has (m := a) fun A x R e => h (.g :: (fl f ++ A)) x R (by show PW.g :: (fl f ++ fl a) = _; rw [e]; simp)⟩
    obtain ⟨b', C, e1, hb, hx⟩ := h (.g :: A) x (R ++ fl a) (by show PW.g :: (fl f ++ fl a) = _; rw [e]; simp)
    obtain ⟨c, d, rfl, hc⟩ := suffix_one (k := 1) (by rw [← e]; exact fl_one f)
    obtain ⟨rfl, _⟩ := one_same (c := d ++ fl a) hc hb (by rw [← e1]; simp)
    exact ⟨c, d, rfl, hc, hx⟩
end Tr
end VP

end

section
set_option Elab.async false
set_option linter.all false
set_option autoImplicit false
set_option maxRecDepth 100000
set_option maxHeartbeats 400000
/-! ### trees with a hole; programs grown; names told anew; places of steps -/
namespace VP
open PySem PySem.Spec PyProof.Rows L2 VL
namespace Tr
inductive Cx where
  | hole | gl (c : Cx) (a : Tr) | gr (f : Tr) (c : Cx) | tb (n : Str) (c : Cx)
namespace Cx
def fill : Cx → Tr → Tr
  | hole, s => s
  | gl c a, s => .g (c.fill s) a
  | gr f c, s => .g f (c.fill s)
  | tb n c, s => .t n (c.fill s)
def pre : Cx → List PW
  | hole => []
  | gl c _ => .g :: c.pre
  | gr f c => .g :: (fl f ++ c.pre)
  | tb n c => .t n :: c.pre
def post : Cx → List PW
  | hole => []
  | gl c a => c.post ++ fl a
  | gr _ c => c.post
  | tb _ c => c.post
theorem fl_fill : ∀ (c : Cx) (s : Tr), fl (c.fill s) = c.pre ++ fl s ++ c.post
  | hole, s => by simp [fill, pre, post]
  | gl c a, s => by show PW.g :: (fl (c.fill s) ++ fl a) = _; rw [fl_fill c s]; simp [pre, post]
  | gr f c, s => by show PW.g :: (fl f ++ fl (c.fill s)) = _; rw [fl_fill c s]; simp [pre, post]
  | tb n c, s => by show PW.t n :: fl (c.fill s) = _; rw [fl_fill c s]; simp [pre, post]
theorem vs_fill (c : Cx) (s : Tr) : vs (c.fill s) = varsW c.pre ++ vs s ++ varsW c.post := by rw [← fl_vs, fl_fill, vars_app, vars_app, fl_vs]
theorem tk_fill (c : Cx) (s : Tr) : tk (c.fill s) = takesW c.pre ++ tk s ++ takesW c.post := by rw [← fl_tk, fl_fill, takes_app, takes_app, fl_tk]
theorem red_fill {s s' : Tr} (h : Red s s') : ∀ c : Cx, Red (c.fill s) (c.fill s')
  | hole => h
  | gl c a => .gl a (red_fill h c)
  | gr f c => .gr f (red_fill h c)
  | tb n c => .tb n (red_fill h c)
theorem has_fill {s s' : Tr} (h' : has s') : ∀ c : Cx, has (c.fill s) → (∀ n ∈ takesW c.pre, n ∈ vs s → n ∈ vs s') → has (c.fill s')
  | hole, _, _ => h'
  | gl c a, h, hn => ⟨has_fill h' c h.1 hn, h.2⟩
  | gr f c, h, hn => ⟨h.1, has_fill h' c h.2 fun n z => hn n (by show n ∈ takesW (fl f ++ c.pre); rw [takes_app]; simp [z])⟩
  | tb x c, h, hn => by
    refine ⟨?_, has_fill h' c h.2 fun n z => hn n (List.mem_cons_of_mem _ z)⟩
    have h1 : x ∈ vs (c.fill s) := h.1
    rw [vs_fill] at h1 ⊢
    rcases List.mem_append.mp h1 with z | z
    · rcases List.mem_append.mp z with z | z
      · simp [z]
      · have := hn x (by show x ∈ x :: takesW c.pre; simp) z
        simp [this]
    · simp [z]
theorem has_in {s : Tr} : ∀ c : Cx, has (c.fill s) → has s
  | hole, h => h
  | gl c a, h => has_in c h.1
  | gr f c, h => has_in c h.2
  | tb x c, h => has_in c h.2
theorem at_place : ∀ (m : Tr) (i : Nat), i < (fl m).length → ∃ (c : Cx) (s : Tr), m = c.fill s ∧ c.pre.length = i
  | m, 0, _ => ⟨.hole, m, rfl, rfl⟩
  | v n, i + 1, h => by simp [fl] at h
  | t n b, i + 1, h => by
    obtain ⟨c, s, e, hc⟩ := at_place b i (by simpa [fl] using h)
    exact ⟨.tb n c, s, by rw [e]; rfl, by simp [pre, hc]⟩
  | g f a, i + 1, h => by
    by_cases q : i < (fl f).length
    · obtain ⟨c, s, e, hc⟩ := at_place f i q
      exact ⟨.gl c a, s, by rw [e]; rfl, by simp [pre, hc]⟩
    · obtain ⟨c, s, e, hc⟩ := at_place a (i - (fl f).length) (by simp [fl] at h; omega)
      exact ⟨.gr f c, s, by rw [e]; rfl, by simp [pre, hc]; omega⟩
theorem sub_fill {z : Str} {u : Tr} : ∀ c : Cx, z ∉ varsW c.pre → z ∉ varsW c.post → sub z u (c.fill (v z)) = c.fill u
  | hole, _, _ => if_pos rfl
  | gl c a, h1, h2 => by
    have h2 : z ∉ varsW (c.post ++ fl a) := h2
    rw [vars_app, List.mem_append, not_or, fl_vs] at h2
    show g (sub z u (c.fill (v z))) (sub z u a) = _
    rw [sub_fill c h1 h2.1, sub_no h2.2]
    rfl
  | gr f c, h1, h2 => by
    have h1 : z ∉ varsW (fl f ++ c.pre) := h1
    rw [vars_app, List.mem_append, not_or, fl_vs] at h1
    show g (sub z u f) (sub z u (c.fill (v z))) = _
    rw [sub_fill c h1.2 h2, sub_no h1.1]
    rfl
  | tb n c, h1, h2 => by
    show t n (sub z u (c.fill (v z))) = _
    rw [sub_fill c h1 h2]
    rfl
end Cx
/-- the names of a tree -/
def nms (m : Tr) : List Str := vs m ++ tk m
theorem mem_nms {n : Str} {m : Tr} : n ∈ nms m ↔ n ∈ vs m ∨ n ∈ tk m := List.mem_append
theorem fl_nms {m : Tr} {w : PW} (h : w ∈ fl m) (hg : isG w = false) : nameW w ∈ nms m := by
  cases w with
  | g => cases hg
  | t n => exact mem_nms.mpr (.inr (by rw [← fl_tk]; exact mem_takes.mpr h))
  | v n => exact mem_nms.mpr (.inl (by rw [← fl_vs]; exact mem_vars.mpr h))
theorem vs_gv : ∀ m : Tr, (vs m).length = gv m + 1
  | v n => rfl
  | g f a => by show (vs f ++ vs a).length = gv f + gv a + 1 + 1; rw [List.length_append, vs_gv f, vs_gv a]; omega
  | t n b => vs_gv b
theorem fl_size : ∀ m : Tr, (fl m).length = gv m + (vs m).length + (tk m).length
  | v n => rfl
  | g f a => by
    show (fl f ++ fl a).length + 1 = gv f + gv a + 1 + (vs f ++ vs a).length + (tk f ++ tk a).length
    simp only [List.length_append]
    rw [fl_size f, fl_size a]
    omega
  | t n b => by show (fl b).length + 1 = gv b + (vs b).length + ((tk b).length + 1); rw [fl_size b]; omega
/-! ### growing -/
theorem mid3 {α : Type} (a b c : List α) (x : α) : (a ++ (x :: b) ++ c).Perm (x :: (a ++ b ++ c)) := by
  rw [List.append_assoc, List.append_assoc]
  exact List.perm_middle
structure Grow (p p' : Tr) (z : Str) : Prop where
  red : Red p' p
  pv : (vs p').Perm (z :: vs p)
  pt : (tk p').Perm (z :: tk p)
  hs : has p'
theorem Grow.lin {p p' : Tr} {z : Str} (h : Grow p p' z) (hl : Lin p) (hv : z ∉ vs p) (ht : z ∉ tk p) : Lin p' :=
  ⟨h.pv.nodup_iff.mpr (List.nodup_cons.mpr ⟨hv, hl.nv⟩), h.pt.nodup_iff.mpr (List.nodup_cons.mpr ⟨ht, hl.nt⟩), h.hs⟩
theorem grow0 {c : Cx} {s : Tr} {z : Str} (hl : has (c.fill s)) : Grow (c.fill s) (c.fill (g (t z (v z)) s)) z where
  red := Cx.red_fill (by have := Red.beta z (v z) s; rwa [show sub z s (v z) = s from if_pos rfl] at this) c
  pv := by
    rw [Cx.vs_fill, Cx.vs_fill]
    exact mid3 _ _ _ z
  pt := by
    rw [Cx.tk_fill, Cx.tk_fill]
    exact mid3 _ _ _ z
  hs := Cx.has_fill (s' := g (t z (v z)) s) ⟨⟨by simp [vs], trivial⟩, Cx.has_in c hl⟩ c hl fun n _ hn => by show n ∈ [z] ++ vs s; simp [hn]
theorem grow1 {c d : Cx} {u : Tr} {z : Str} (hl : has (c.fill (d.fill u))) (hv : z ∉ vs (c.fill (d.fill u))) (hn : ∀ n ∈ takesW d.pre, n ∉ vs u) : Grow (c.fill (d.fill u)) (c.fill (g (t z (d.fill (v z))) u)) z where
  red := by
    rw [Cx.vs_fill, Cx.vs_fill] at hv
    have h1 : z ∉ varsW d.pre := fun q => hv (by simp [q])
    have h2 : z ∉ varsW d.post := fun q => hv (by simp [q])
    have := Red.beta z (d.fill (v z)) u
    rw [Cx.sub_fill d h1 h2] at this
    exact Cx.red_fill this c
  pv := by
    rw [Cx.vs_fill, Cx.vs_fill c, Cx.vs_fill d u]
    have e : vs (g (t z (d.fill (v z))) u) = varsW d.pre ++ [z] ++ varsW d.post ++ vs u := by show vs (d.fill (v z)) ++ vs u = _; rw [Cx.vs_fill]; rfl
    rw [e]
    refine ((List.Perm.append_left _ (?_ : List.Perm _ (z :: (varsW d.pre ++ vs u ++ varsW d.post)))).append_right _).trans (mid3 _ _ _ z)
    have h1 : (varsW d.pre ++ [z] ++ varsW d.post ++ vs u).Perm (z :: (varsW d.pre ++ (varsW d.post ++ vs u))) := by
      rw [List.append_assoc, List.append_assoc]
      exact List.perm_middle
    refine h1.trans (.cons _ ?_)
    rw [List.append_assoc]
    exact List.Perm.append_left _ List.perm_append_comm
  pt := by
    rw [Cx.tk_fill, Cx.tk_fill c, Cx.tk_fill d u]
    have e : tk (g (t z (d.fill (v z))) u) = z :: (takesW d.pre ++ takesW d.post ++ tk u) := by show (z :: tk (d.fill (v z))) ++ tk u = _; rw [Cx.tk_fill]; simp [tk]
    rw [e]
    refine (mid3 _ _ _ z).trans (.cons _ ?_)
    refine (List.Perm.append_left _ ?_).append_right _
    rw [List.append_assoc, List.append_assoc]
    exact List.Perm.append_left _ List.perm_append_comm
  hs := by
    have hs := Cx.has_in c hl
    refine Cx.has_fill (s' := g (t z (d.fill (v z))) u) ⟨⟨by rw [Cx.vs_fill]; simp [vs], Cx.has_fill (s' := v z) trivial d hs fun n h1 h2 => absurd h2 (hn n h1)⟩, Cx.has_in d hs⟩ c hl fun n _ h2 => ?_
    show n ∈ vs (d.fill (v z)) ++ vs u
    rw [Cx.vs_fill] at h2 ⊢
    rcases List.mem_append.mp h2 with q | q
    · rcases List.mem_append.mp q with q | q <;> simp [q]
    · simp [q]
/-- a fresh name of the growing -/
def zn (j : Nat) : Str := ("z" : Str) ++ lname j
theorem chs_z : chs ("z" : Str) = [122] := by rfl
theorem chs_zn (j : Nat) : chs (zn j) = 122 :: lnL (j + 1) := by unfold zn; rw [chs_app, chs_z, chs_lname]; rfl
theorem zn_inj {i j : Nat} (h : zn i = zn j) : i = j := by
  have h := congrArg chs h
  rw [chs_zn, chs_zn] at h
  exact lname_inj (chs_ext (by rw [chs_lname, chs_lname]; exact (List.cons.inj h).2))
theorem zn_ok {j : Nat} (h : j < 200000) : nameB (zn j) = true := by
  unfold nameB
  rw [chs_zn]
  have h1 : (lnL (j + 1)).length ≤ 4 := lnL_len 4 _ (by simp [lB]; omega)
  have h2 := lnL_ne j
  have h3 : (lnL (j + 1)).all (fun c => decide (97 ≤ c) && decide (c ≤ 122)) = true := by
    rw [List.all_eq_true]
    intro c hc
    have := lnL_ch _ c hc
    simp [this.1, this.2]
  rw [List.all_cons, h3]
  simp
  omega
structure Grown (m m' : Tr) : Prop where
  lin : Lin m'
  way : ∃ j, Way j m' m
  nm : ∀ n ∈ nms m', n ∈ nms m ∨ ∃ j, n = zn j ∧ (fl m).length ≤ j ∧ j < (fl m').length
  len : (fl m).length ≤ (fl m').length
  op : ∀ n, (n ∈ vs m' ∧ n ∉ tk m') ↔ (n ∈ vs m ∧ n ∉ tk m)
theorem Grown.refl {m : Tr} (h : Lin m) : Grown m m := ⟨h, ⟨0, .nil m⟩, fun _ h => .inl h, Nat.le_refl _, fun _ => Iff.rfl⟩
theorem Grow.size {p p' : Tr} {z : Str} (h : Grow p p' z) : (fl p').length = (fl p).length + 3 := by
  have h1 := h.pv.length_eq
  have h2 := h.pt.length_eq
  have h3 := vs_gv p
  have h4 := vs_gv p'
  rw [fl_size, fl_size]
  simp only [List.length_cons] at h1 h2
  omega
/-- no name of the tree is one of those to come -/
def Fz (m : Tr) : Prop := ∀ n ∈ nms m, ∀ j, (fl m).length ≤ j → n ≠ zn j
theorem Grown.fz {m p : Tr} (h : Grown m p) (hz : Fz m) : ∀ n ∈ nms p, ∀ j, (fl p).length ≤ j → n ≠ zn j := fun n hn j hj e => by
  rcases h.nm n hn with q | ⟨i, rfl, _, hi⟩
  · exact hz n q j (Nat.le_trans h.len hj) e
  · have := zn_inj e; omega
theorem Grown.step {m p p' : Tr} (h : Grown m p) (hz : Fz m) (k : Grow p p' (zn (fl p).length)) : Grown m p' := by
  have fz := h.fz hz
  have f1 : zn (fl p).length ∉ vs p := fun q => fz _ (mem_nms.mpr (.inl q)) _ (Nat.le_refl _) rfl
  have f2 : zn (fl p).length ∉ tk p := fun q => fz _ (mem_nms.mpr (.inr q)) _ (Nat.le_refl _) rfl
  refine ⟨k.lin h.lin f1 f2, ?_, fun n hn => ?_, by rw [k.size]; have := h.len; omega, fun n => ?_⟩
  · obtain ⟨j, w⟩ := h.way
    exact ⟨j + 1, .cons k.red w⟩
  · rcases mem_nms.mp hn with q | q
    · rcases List.mem_cons.mp (k.pv.mem_iff.mp q) with rfl | q
      · exact .inr ⟨_, rfl, h.len, by rw [k.size]; omega⟩
      · rcases h.nm n (mem_nms.mpr (.inl q)) with q | ⟨j, e, h1, h2⟩
        · exact .inl q
        · exact .inr ⟨j, e, h1, by rw [k.size]; omega⟩
    · rcases List.mem_cons.mp (k.pt.mem_iff.mp q) with rfl | q
      · exact .inr ⟨_, rfl, h.len, by rw [k.size]; omega⟩
      · rcases h.nm n (mem_nms.mpr (.inr q)) with q | ⟨j, e, h1, h2⟩
        · exact .inl q
        · exact .inr ⟨j, e, h1, by rw [k.size]; omega⟩
  · rw [← h.op n, k.pv.mem_iff, k.pt.mem_iff, List.mem_cons, List.mem_cons]
    constructor
    · rintro ⟨h1 | h1, h2⟩
      · exact absurd (.inl h1) h2
      · exact ⟨h1, fun q => h2 (.inr q)⟩
    · rintro ⟨h1, h2⟩
      exact ⟨.inr h1, fun q => q.elim (fun q => f1 (q ▸ h1)) h2⟩
/-! ### names told anew -/
def ren (r : Str → Str) : Tr → Tr
  | v n => v (r n)
  | g f a => g (ren r f) (ren r a)
  | t n b => t (r n) (ren r b)
theorem fl_ren (r : Str → Str) : ∀ m : Tr, fl (ren r m) = renL r (fl m)
  | v n => rfl
  | g f a => by show PW.g :: (fl (ren r f) ++ fl (ren r a)) = renL r (PW.g :: (fl f ++ fl a)); rw [fl_ren r f, fl_ren r a, ← ren_app]; rfl
  | t n b => by show PW.t (r n) :: fl (ren r b) = _; rw [fl_ren r b]; rfl
theorem vs_ren (r : Str → Str) (m : Tr) : vs (ren r m) = (vs m).map r := by rw [← fl_vs, fl_ren, vars_ren, fl_vs]
theorem tk_ren (r : Str → Str) (m : Tr) : tk (ren r m) = (tk m).map r := by rw [← fl_tk, fl_ren, takes_ren, fl_tk]
theorem gv_ren (r : Str → Str) : ∀ m : Tr, gv (ren r m) = gv m
  | v n => rfl
  | g f a => by show gv (ren r f) + gv (ren r a) + 1 = _; rw [gv_ren r f, gv_ren r a]; rfl
  | t n b => gv_ren r b
def InjOn (r : Str → Str) (m : Tr) : Prop := ∀ a ∈ nms m, ∀ b ∈ nms m, r a = r b → a = b
theorem nodup_map {r : Str → Str} {l : List Str} (h : l.Nodup) (hr : ∀ a ∈ l, ∀ b ∈ l, r a = r b → a = b) : (l.map r).Nodup := by
  induction l with
  | nil => exact List.nodup_nil
  | cons a l ih =>
    obtain ⟨h1, h2⟩ := List.nodup_cons.mp h
    rw [List.map_cons, List.nodup_cons]
    refine ⟨fun z => ?_, ih h2 fun x hx y hy => hr x (by simp [hx]) y (by simp [hy])⟩
    obtain ⟨b, hb, e⟩ := List.mem_map.mp z
    exact h1 (hr b (by simp [hb]) a (by simp) e ▸ hb)
theorem has_ren {r : Str → Str} : ∀ {m : Tr}, has m → has (ren r m)
  | v n, _ => trivial
  | g f a, h => ⟨has_ren h.1, has_ren h.2⟩
  | t n b, h => ⟨by show r n ∈ vs (ren r b); rw [vs_ren]; exact List.mem_map_of_mem h.1, has_ren (m := b) h.2⟩
theorem lin_ren {r : Str → Str} {m : Tr} (h : Lin m) (hr : InjOn r m) : Lin (ren r m) :=
  ⟨by rw [vs_ren]; exact nodup_map h.nv fun a ha b hb => hr a (mem_nms.mpr (.inl ha)) b (mem_nms.mpr (.inl hb)),
   by rw [tk_ren]; exact nodup_map h.nt fun a ha b hb => hr a (mem_nms.mpr (.inr ha)) b (mem_nms.mpr (.inr hb)), has_ren h.h⟩
theorem mem_ren {r : Str → Str} {m : Tr} {n : Str} : n ∈ nms (ren r m) ↔ ∃ a ∈ nms m, n = r a := by
  unfold nms
  rw [vs_ren, tk_ren, ← List.map_append, List.mem_map]
  exact ⟨fun ⟨a, h, e⟩ => ⟨a, h, e.symm⟩, fun ⟨a, h, e⟩ => ⟨a, h, e.symm⟩⟩
theorem ren_sub {r : Str → Str} {x : Str} {a : Tr} : ∀ {b : Tr}, (∀ n ∈ vs b, r n = r x → n = x) → ren r (sub x a b) = sub (r x) (ren r a) (ren r b)
  | v n, h => by
    show ren r (if n = x then a else v n) = if r n = r x then ren r a else v (r n)
    by_cases c : n = x
    · rw [if_pos c, if_pos (by rw [c])]
    · rw [if_neg c, if_neg fun e => c (h n (by simp [vs]) e)]
      rfl
  | g f c, h => by
    show g (ren r (sub x a f)) (ren r (sub x a c)) = g _ _
    rw [ren_sub fun n hn => h n (by simp [vs, hn]), ren_sub fun n hn => h n (by simp [vs, hn])]
  | t n b, h => by
    show t (r n) (ren r (sub x a b)) = t _ _
    exact congrArg _ (ren_sub (b := b) fun n hn => h n hn)
theorem red_ren {r : Str → Str} {m p : Tr} (h : Red m p) : InjOn r m → Red (ren r m) (ren r p) := by
  induction h with
  | beta x b a =>
    intro hr
    rw [ren_sub fun n hn e => hr n (by simp [nms, vs, hn]) x (by simp [nms, tk]) e]
    exact .beta _ _ _
  | gl a _ ih => exact fun hr => .gl _ (ih fun x hx y hy => hr x (by rcases mem_nms.mp hx with z | z <;> simp [nms, vs, tk, z]) y (by rcases mem_nms.mp hy with z | z <;> simp [nms, vs, tk, z]))
  | gr f _ ih => exact fun hr => .gr _ (ih fun x hx y hy => hr x (by rcases mem_nms.mp hx with z | z <;> simp [nms, vs, tk, z]) y (by rcases mem_nms.mp hy with z | z <;> simp [nms, vs, tk, z]))
  | tb n _ ih => exact fun hr => .tb _ (ih fun x hx y hy => hr x (by rcases mem_nms.mp hx with z | z <;> simp [nms, vs, tk, z]) y (by rcases mem_nms.mp hy with z | z <;> simp [nms, vs, tk, z]))
theorem red_nms {m p : Tr} (h : Red m p) (hl : Lin m) : ∀ n ∈ nms p, n ∈ nms m := fun n hn => by
  obtain ⟨h1, h2, _⟩ := red_vs h hl
  exact mem_nms.mpr ((mem_nms.mp hn).imp (h1 n) (h2 n))
theorem way_nms {k : Nat} {m e : Tr} (hl : Lin m) (h : Way k m e) : ∀ n ∈ nms e, n ∈ nms m := fun n hn => by
  obtain ⟨_, _, h1, h2⟩ := way_lin hl h
  exact mem_nms.mpr ((mem_nms.mp hn).imp (h1 n) (h2 n))
theorem way_ren {r : Str → Str} : ∀ {k : Nat} {m e : Tr}, Lin m → InjOn r m → Way k m e → Way k (ren r m) (ren r e)
  | 0, m, e, _, _, h => by cases h; exact .nil _
  | k + 1, m, e, hl, hr, h => by
    cases h with
    | cons q w =>
      have := red_nms q hl
      exact .cons (red_ren q hr) (way_ren (red_vs q hl).2.2.2.1 (fun a ha b hb => hr a (this a ha) b (this b hb)) w)
theorem way_app : ∀ {i j : Nat} {m p e : Tr}, Way i m p → Way j p e → Way (i + j) m e
  | 0, j, m, p, e, h, k => by cases h; rw [Nat.zero_add]; exact k
  | i + 1, j, m, p, e, h, k => by
    cases h with
    | cons q w => rw [Nat.add_right_comm]; exact .cons q (way_app w k)
/-! ### places of steps -/
/-- what stands at a give and a take is a step -/
theorem red_at {m : Tr} {A R : List PW} {x : Str} (hl : Lin m) (e : fl m = A ++ .g :: .t x :: R) :
    ∃ (B1 B2 C E : List PW) (p : Tr), fl m = A ++ (.g :: .t x :: ((B1 ++ .v x :: B2) ++ C)) ++ E ∧ One (B1 ++ .v x :: B2) ∧ One C ∧ Red m p ∧ fl p = A ++ B1 ++ C ++ B2 ++ E := by
  obtain ⟨b, C0, e0, hb, hx⟩ := has_tkW hl.h (A ++ [.g]) x R (by rw [e]; simp)
  obtain ⟨B1, B2, C, E, h1, h2, h3⟩ := step_split (fl_one m) e ⟨b, C0, e0, hb, hx⟩
  obtain ⟨p, hp, hw⟩ := words_red h2 h3 hl h1
  exact ⟨B1, B2, C, E, p, h1, h2, h3, hp, hw⟩
theorem nf_at {m : Tr} (hl : Lin m) : Nf m ↔ ∀ A x R, fl m ≠ A ++ .g :: .t x :: R := by
  constructor
  · intro h A x R e
    obtain ⟨_, _, _, _, p, _, _, _, hp, _⟩ := red_at hl e
    exact h p hp
  · intro h p hp
    obtain ⟨A, B1, B2, C, E, x, e, _⟩ := red_words hp hl
    exact h A x ((B1 ++ .v x :: B2) ++ C ++ E) (by rw [e]; simp)
end Tr
end VP

end

section
set_option Elab.async false
set_option linter.all false
set_option autoImplicit false
set_option maxRecDepth 100000
set_option maxHeartbeats 400000
/-! ### drawn programs: names by number -/
namespace VP
open PySem PySem.Spec PyProof.Rows L2 VL
namespace Tr
def qn (j : Nat) : Str := ("q" : Str) ++ lname j
def nmJ (j : Nat) (n : Str) : Prop := n = lname j ∨ n = qn j
structure GenQ (row : List Str) (u g : Nat) (m : Tr) : Prop where
  pv : (vs m).Perm (row ++ tk m)
  hs : has m
  gv : gv m = g
  nm : ∀ i n, (tk m)[i]? = some n → nmJ (u + i) n
theorem GenQ.tkl {row : List Str} {u g : Nat} {m : Tr} (h : GenQ row u g m) : row.length + (tk m).length = g + 1 := by
  have h1 := h.pv.length_eq
  have h2 := vs_gv m
  rw [List.length_append] at h1
  have := h.gv
  omega
theorem genQ_v {n : Str} {u : Nat} : GenQ [n] u 0 (v n) := ⟨by simp [vs, tk], trivial, rfl, fun i x h => by simp [tk] at h⟩
theorem genQ_t {row : List Str} {u g : Nat} {n : Str} {b : Tr} (h : GenQ (row ++ [n]) (u + 1) g b) (hn : nmJ u n) : GenQ row u g (t n b) where
  pv := by
    show (vs b).Perm (row ++ (n :: tk b))
    have := h.pv
    rwa [List.append_assoc] at this
  hs := ⟨h.pv.mem_iff.mpr (by simp), h.hs⟩
  gv := h.gv
  nm := by
    intro i x hx
    cases i with
    | zero => have : n = x := by simpa [tk] using hx
              subst this; exact hn
    | succ i =>
      have := h.nm i x (by simpa [tk] using hx)
      rwa [show u + (i + 1) = u + 1 + i by omega]
theorem genQ_g {row r1 r2 : List Str} {u a b : Nat} {f c : Tr} (h : (r1 ++ r2).Perm row) (hf : GenQ r1 u a f) (hc : GenQ r2 (u + (tk f).length) b c) : GenQ row u (a + b + 1) (g f c) where
  pv := by
    show (vs f ++ vs c).Perm (row ++ (tk f ++ tk c))
    refine (hf.pv.append hc.pv).trans ?_
    refine List.Perm.trans ?_ (h.append_right (tk f ++ tk c))
    rw [List.append_assoc, List.append_assoc]
    refine List.Perm.append_left _ ?_
    rw [← List.append_assoc, ← List.append_assoc]
    exact List.perm_append_comm.append_right _
  hs := ⟨hf.hs, hc.hs⟩
  gv := by show VP.Tr.gv f + VP.Tr.gv c + 1 = _; rw [hf.gv, hc.gv]
  nm := by
    intro i x hx
    have hx : (tk f ++ tk c)[i]? = some x := hx
    by_cases q : i < (tk f).length
    · rw [List.getElem?_append_left q] at hx
      exact hf.nm i x hx
    · rw [List.getElem?_append_right (by omega)] at hx
      have := hc.nm _ x hx
      rwa [show u + (tk f).length + (i - (tk f).length) = u + i by omega] at this
theorem lnL_1 {j : Nat} (h : j < 26) : lnL (j + 1) = [97 + j] := by
  rw [lnL_succ, Nat.div_eq_of_lt h, Nat.mod_eq_of_lt h, lnL]
  rfl
theorem chs_q : chs ("q" : Str) = [113] := by rfl
theorem chs_lq {j : Nat} (h : j < 26) : chs (lname j) = [97 + j] := by rw [chs_lname, lnL_1 h]
theorem chs_qn {j : Nat} (h : j < 26) : chs (qn j) = [113, 97 + j] := by unfold qn; rw [chs_app, chs_q, chs_lq h]; rfl
theorem nmJ_inj {i j : Nat} {n : Str} (hi : i < 26) (hj : j < 26) (h : nmJ i n) (k : nmJ j n) : i = j := by
  rcases h with rfl | rfl <;> rcases k with k | k
  · exact lname_inj k
  · have := congrArg chs k; rw [chs_lq hi, chs_qn hj] at this; simp at this
  · have := congrArg chs k; rw [chs_lq hj, chs_qn hi] at this; simp at this
  · have := congrArg chs k; rw [chs_qn hi, chs_qn hj] at this; simp at this; omega
theorem nmJ_ok {j : Nat} {n : Str} (hj : j < 26) (h : nmJ j n) : nameB n = true := by
  rcases h with rfl | rfl
  · exact lname_ok (by omega)
  · unfold nameB
    rw [chs_qn hj]
    have h1 : decide (97 ≤ 97 + j) = true := decide_eq_true (by omega)
    have h2 : decide (97 + j ≤ 122) = true := decide_eq_true (by omega)
    simp [h2]
theorem nmJ_zn {j k : Nat} {n : Str} (hj : j < 26) (h : nmJ j n) : n ≠ zn k := by
  intro e
  have hz := chs_zn k
  rw [← e] at hz
  rcases h with rfl | rfl
  · rw [chs_lq hj] at hz
    have h1 := lnL_ne k
    have h2 : 1 = (lnL (k + 1)).length + 1 := congrArg List.length hz
    omega
  · rw [chs_qn hj] at hz
    simp at hz
theorem GenQ.lin {row : List Str} {u g : Nat} {m : Tr} (h : GenQ row u g m) (hr : row.Nodup) (hu : u + g < 25) (hd : ∀ n ∈ row, ∀ j, j < 26 → ¬ nmJ j n) : Lin m := by
  have hl := h.tkl
  have nt : (tk m).Nodup := by
    rw [List.nodup_iff_pairwise_ne, List.pairwise_iff_getElem]
    intro i j hi hj hij e
    have h1 := h.nm i _ (List.getElem?_eq_getElem hi)
    have h2 := h.nm j _ (List.getElem?_eq_getElem hj)
    rw [← e] at h2
    have := nmJ_inj (by omega) (by omega) h1 h2
    omega
  refine ⟨h.pv.nodup_iff.mpr (List.nodup_append.mpr ⟨hr, nt, fun a ha b hb e => ?_⟩), nt, h.hs⟩
  subst e
  obtain ⟨i, hi, e⟩ := List.getElem_of_mem hb
  have h1 := h.nm i _ (List.getElem?_eq_getElem hi)
  rw [e] at h1
  exact hd a ha (u + i) (by omega) h1
/-- each name is of the row, or by number -/
theorem GenQ.names {row : List Str} {u g : Nat} {m : Tr} (h : GenQ row u g m) (hu : u + g < 25) : ∀ n ∈ nms m, n ∈ row ∨ ∃ j, j < 26 ∧ nmJ j n := by
  have hl := h.tkl
  have ht : ∀ n ∈ tk m, ∃ j, j < 26 ∧ nmJ j n := fun n hn => by
    obtain ⟨i, hi, e⟩ := List.getElem_of_mem hn
    have h1 := h.nm i _ (List.getElem?_eq_getElem hi)
    rw [e] at h1
    exact ⟨u + i, by omega, h1⟩
  intro n hn
  rcases mem_nms.mp hn with q | q
  · rcases List.mem_append.mp (h.pv.mem_iff.mp q) with q | q
    · exact .inl q
    · exact .inr (ht n q)
  · exact .inr (ht n q)
theorem GenQ.size {row : List Str} {u g : Nat} {m : Tr} (h : GenQ row u g m) : (fl m).length + row.length = 3 * g + 2 := by
  rw [fl_size, vs_gv]
  have := h.tkl
  have := h.gv
  omega
theorem wok_of {m : Tr} (h : ∀ n ∈ nms m, nameB n = true) : WOk (fl m) := fun w hw => by
  cases w with
  | g => trivial
  | t n => exact nameB_nm (h n (fl_nms hw rfl))
  | v n => exact nameB_nm (h n (fl_nms hw rfl))
end Tr
end VP

end

section
set_option Elab.async false
set_option linter.all false
set_option autoImplicit false
set_option maxRecDepth 100000
set_option maxHeartbeats 400000
/-! ### programs in order -/
namespace VP
open PySem PySem.Spec PyProof.Rows L2 VL
namespace Tr
/-- what stands behind a name -/
def aft (x : Str) : List Str → List Str
  | [] => []
  | a :: l => if a = x then l else aft x l
theorem aft_in {x : Str} {l2 : List Str} : ∀ {l1 : List Str}, x ∈ l1 → aft x (l1 ++ l2) = aft x l1 ++ l2
  | [], h => by cases h
  | a :: l, h => by
    show (if a = x then l ++ l2 else aft x (l ++ l2)) = (if a = x then l else aft x l) ++ l2
    by_cases c : a = x
    · rw [if_pos c, if_pos c]
    · rw [if_neg c, if_neg c, aft_in ((List.mem_cons.mp h).resolve_left fun e => c e.symm)]
theorem aft_out {x : Str} {l2 : List Str} : ∀ {l1 : List Str}, x ∉ l1 → aft x (l1 ++ l2) = aft x l2
  | [], h => rfl
  | a :: l, h => by
    rw [List.mem_cons, not_or] at h
    show (if a = x then l ++ l2 else aft x (l ++ l2)) = _
    rw [if_neg fun e => h.1 e.symm, aft_out h.2]
theorem aft_mem {x n : Str} : ∀ {l : List Str}, n ∈ aft x l → n ∈ l
  | [], h => by cases h
  | a :: l, h => by
    have h : n ∈ (if a = x then l else aft x l) := h
    by_cases c : a = x
    · rw [if_pos c] at h; exact List.mem_cons_of_mem _ h
    · rw [if_neg c] at h; exact List.mem_cons_of_mem _ (aft_mem h)
theorem aft_at {x : Str} {B1 B2 : List Str} (h : x ∉ B1) : aft x (B1 ++ x :: B2) = B2 := by
  rw [aft_out h]
  show (if x = x then B2 else _) = B2
  rw [if_pos rfl]
theorem aft_filter {x : Str} {p : Str → Bool} (hp : p x = true) : ∀ l : List Str, aft x (l.filter p) = (aft x l).filter p
  | [] => rfl
  | a :: l => by
    by_cases c : a = x
    · subst c
      rw [List.filter_cons_of_pos hp]
      show (if a = a then _ else _) = (if a = a then l else aft a l).filter p
      rw [if_pos rfl, if_pos rfl]
    · have e : aft x (a :: l) = aft x l := if_neg c
      rw [e]
      cases hq : p a with
      | true =>
        rw [List.filter_cons_of_pos hq]
        show (if a = x then _ else aft x (l.filter p)) = _
        rw [if_neg c, aft_filter hp l]
      | false => rw [List.filter_cons_of_neg (by simp [hq]), aft_filter hp l]
/-- in each body no name of without stands behind the taken one -/
def InO : Tr → Prop
  | v _ => True
  | g f a => InO f ∧ InO a
  | t x b => InO b ∧ ∀ n ∈ aft x (vs b), n ∈ tk b
def inO : Tr → Bool
  | v _ => true
  | g f a => inO f && inO a
  | t x b => inO b && (aft x (vs b)).all fun n => decide (n ∈ tk b)
theorem inO_iff : ∀ m : Tr, inO m = true ↔ InO m
  | v _ => by simp [inO, InO]
  | g f a => by show (inO f && inO a) = true ↔ InO f ∧ InO a; rw [Bool.and_eq_true, inO_iff f, inO_iff a]
  | t x b => by
    show (inO b && (aft x (vs b)).all fun n => decide (n ∈ tk b)) = true ↔ InO b ∧ ∀ n ∈ aft x (vs b), n ∈ tk b
    rw [Bool.and_eq_true, inO_iff b, List.all_eq_true]
    simp
theorem vs_sub_at {x : Str} {a : Tr} {b : Tr} (hn : (vs b).Nodup) {B1 B2 : List Str} (e : vs b = B1 ++ x :: B2) : vs (sub x a b) = B1 ++ vs a ++ B2 := by
  have hx : x ∈ vs b := by rw [e]; simp
  obtain ⟨W1, W2, hw⟩ := mem_split hx
  have e1 := fl_sub (a := a) hn hw
  have e2 : vs (sub x a b) = varsW W1 ++ vs a ++ varsW W2 := by rw [← fl_vs, e1, vars_app, vars_app, fl_vs]
  have e3 : vs b = varsW W1 ++ x :: varsW W2 := by rw [← fl_vs, hw, vars_app]; rfl
  rw [e2]
  rw [e] at e3
  rw [e] at hn
  have n1 : x ∉ B1 := fun z => (List.nodup_append.mp hn).2.2 x z x (by simp) rfl
  have n2 : x ∉ varsW W1 := fun z => by
    rw [e3] at hn
    exact (List.nodup_append.mp hn).2.2 x z x (by simp) rfl
  have q : ∀ {A1 A2 C1 C2 : List Str}, x ∉ A1 → x ∉ C1 → A1 ++ x :: A2 = C1 ++ x :: C2 → A1 = C1 ∧ A2 = C2 := by
    intro A1
    induction A1 with
    | nil =>
      intro A2 C1 C2 _ h2 h
      cases C1 with
      | nil => exact ⟨rfl, (List.cons.inj h).2⟩
      | cons c C1 => exact absurd (by rw [← (List.cons.inj h).1]; simp) h2
    | cons a A1 ih =>
      intro A2 C1 C2 h1 h2 h
      cases C1 with
      | nil => exact absurd (by rw [(List.cons.inj h).1]; simp) h1
      | cons c C1 =>
        obtain ⟨k1, k2⟩ := List.cons.inj h
        obtain ⟨k3, k4⟩ := ih (fun z => h1 (List.mem_cons_of_mem _ z)) (fun z => h2 (List.mem_cons_of_mem _ z)) k2
        exact ⟨by rw [k1, k3], k4⟩
  obtain ⟨q1, q2⟩ := q n1 n2 e3
  rw [q1, q2]
theorem split_at {x : Str} {l : List Str} (h : x ∈ l) (hn : l.Nodup) : ∃ B1 B2, l = B1 ++ x :: B2 ∧ x ∉ B1 ∧ x ∉ B2 := by
  obtain ⟨B1, B2, rfl⟩ := List.append_of_mem h
  obtain ⟨h1, h2, h3⟩ := List.nodup_append.mp hn
  exact ⟨B1, B2, rfl, fun z => h3 x z x (by simp) rfl, (List.nodup_cons.mp h2).1⟩
/-- a step brings nothing behind a name of without, but what is taken within -/
theorem red_aft {m p : Tr} (h : Red m p) : Lin m → InO m → ∀ y ∈ vs m, y ∉ tk m → ∀ n ∈ aft y (vs p), n ∈ aft y (vs m) ∨ n ∈ tk m := by
  induction h with
  | beta x b a =>
    intro hl ho y hy ht n hn
    have hxb : x ∈ vs b := hl.h.1.1
    obtain ⟨B1, B2, e, n1, n2⟩ := split_at hxb hl.g1.t1.nv
    have em : vs (g (t x b) a) = B1 ++ x :: (B2 ++ vs a) := by show vs b ++ vs a = _; rw [e]; simp
    rw [vs_sub_at hl.g1.t1.nv e, List.append_assoc] at hn
    have hnv := hl.nv
    rw [em] at hnv hy ⊢
    have hyx : y ≠ x := fun q => ht (by simp [tk, q])
    obtain ⟨d1, d2, d3⟩ := List.nodup_append.mp hnv
    rcases List.mem_append.mp hy with q | q
    · rw [aft_in q] at hn ⊢
      rcases List.mem_append.mp hn with z | z
      · exact .inl (by simp [z])
      · rcases List.mem_append.mp z with z | z <;> exact .inl (by simp [z])
    · have q : y ∈ B2 ++ vs a := (List.mem_cons.mp q).resolve_left hyx
      have y1 : y ∉ B1 := fun z => d3 y z y (by simp at q ⊢; exact .inr q) rfl
      rw [aft_out y1] at hn ⊢
      have ex : aft y (x :: (B2 ++ vs a)) = aft y (B2 ++ vs a) := if_neg fun z => hyx z.symm
      rw [ex]
      have d4 : (B2 ++ vs a).Nodup := (List.nodup_cons.mp d2).2
      rcases List.mem_append.mp q with q | q
      · have ya : y ∉ vs a := fun z => (List.nodup_append.mp d4).2.2 y q y z rfl
        rw [aft_out ya] at hn
        rw [aft_in q]
        exact .inl (by simp [hn])
      · have yb : y ∉ B2 := fun z => (List.nodup_append.mp d4).2.2 y z y q rfl
        rw [aft_in q] at hn
        rw [aft_out yb]
        rcases List.mem_append.mp hn with z | z
        · exact .inl z
        · refine .inr ?_
          have := ho.1.2 n (by rw [e, aft_at n1]; exact z)
          simp [tk, this]
  | @gl f f' a r ih =>
    intro hl ho y hy ht n hn
    have hnv : (vs f ++ vs a).Nodup := hl.nv
    have hy : y ∈ vs f ++ vs a := hy
    have ht : y ∉ tk f ++ tk a := ht
    have hn : n ∈ aft y (vs f' ++ vs a) := hn
    obtain ⟨r1, r2, r3, _⟩ := red_vs r hl.g1
    show n ∈ aft y (vs f ++ vs a) ∨ n ∈ tk f ++ tk a
    rcases List.mem_append.mp hy with q | q
    · have q' : y ∈ vs f' := (r3 y q).resolve_right fun z => ht (by simp [z])
      rw [aft_in q'] at hn
      rw [aft_in q]
      rcases List.mem_append.mp hn with z | z
      · rcases ih hl.g1 ho.1 y q (fun z => ht (by simp [z])) n z with w | w
        · exact .inl (by simp [w])
        · exact .inr (by simp [w])
      · exact .inl (by simp [z])
    · have q1 : y ∉ vs f := fun z => (List.nodup_append.mp hnv).2.2 y z y q rfl
      rw [aft_out fun z => q1 (r1 y z)] at hn
      rw [aft_out q1]
      exact .inl hn
  | @gr f a a' r ih =>
    intro hl ho y hy ht n hn
    have hnv : (vs f ++ vs a).Nodup := hl.nv
    have hy : y ∈ vs f ++ vs a := hy
    have ht : y ∉ tk f ++ tk a := ht
    have hn : n ∈ aft y (vs f ++ vs a') := hn
    obtain ⟨r1, r2, r3, _⟩ := red_vs r hl.g2
    show n ∈ aft y (vs f ++ vs a) ∨ n ∈ tk f ++ tk a
    by_cases q : y ∈ vs f
    · rw [aft_in q] at hn ⊢
      rcases List.mem_append.mp hn with z | z
      · exact .inl (by simp [z])
      · exact .inl (by simp [r1 n z])
    · rw [aft_out q] at hn ⊢
      rcases ih hl.g2 ho.2 y ((List.mem_append.mp hy).resolve_left q) (fun z => ht (by simp [z])) n hn with w | w
      · exact .inl w
      · exact .inr (by simp [w])
  | @tb x b b' r ih =>
    intro hl ho y hy ht n hn
    have ht : y ∉ x :: tk b := ht
    rcases ih hl.t1 ho.1 y hy (fun z => ht (List.mem_cons_of_mem _ z)) n hn with w | w
    · exact .inl w
    · exact .inr (List.mem_cons_of_mem _ w)
theorem red_tk {m p : Tr} (h : Red m p) : Lin m → ∀ n ∈ vs p, n ∈ tk m → n ∈ tk p := by
  induction h with
  | beta x b a =>
    intro hl n hv ht
    have hxb : x ∈ vs b := hl.h.1.1
    obtain ⟨B1, B2, e, n1, n2⟩ := split_at hxb hl.g1.t1.nv
    rw [vs_sub_at hl.g1.t1.nv e] at hv
    have ha : x ∉ vs a := fun z => (List.nodup_append.mp (show (vs b ++ vs a).Nodup from hl.nv)).2.2 x hxb x z rfl
    rw [(sub_tk (a := a) hl.g1.t1.nv hxb).mem_iff]
    rcases List.mem_cons.mp (show n ∈ x :: (tk b ++ tk a) from ht) with rfl | q
    · exfalso
      rcases List.mem_append.mp hv with z | z
      · rcases List.mem_append.mp z with z | z
        · exact n1 z
        · exact ha z
      · exact n2 z
    · exact List.mem_append.mpr ((List.mem_append.mp q).symm)
  | @gl f f' a r ih =>
    intro hl n hv ht
    have hnv : (vs f ++ vs a).Nodup := hl.nv
    rcases List.mem_append.mp (show n ∈ tk f ++ tk a from ht) with q | q
    · rcases List.mem_append.mp (show n ∈ vs f' ++ vs a from hv) with z | z
      · exact List.mem_append.mpr (.inl (ih hl.g1 n z q))
      · exact absurd rfl ((List.nodup_append.mp hnv).2.2 n (tk_vs hl.g1.h q) n z)
    · exact List.mem_append.mpr (.inr q)
  | @gr f a a' r ih =>
    intro hl n hv ht
    have hnv : (vs f ++ vs a).Nodup := hl.nv
    rcases List.mem_append.mp (show n ∈ tk f ++ tk a from ht) with q | q
    · exact List.mem_append.mpr (.inl q)
    · rcases List.mem_append.mp (show n ∈ vs f ++ vs a' from hv) with z | z
      · exact absurd rfl ((List.nodup_append.mp hnv).2.2 n z n (tk_vs hl.g2.h q))
      · exact List.mem_append.mpr (.inr (ih hl.g2 n z q))
  | @tb x b b' r ih =>
    intro hl n hv ht
    rcases List.mem_cons.mp (show n ∈ x :: tk b from ht) with rfl | q
    · exact List.mem_cons_self ..
    · exact List.mem_cons_of_mem _ (ih hl.t1 n hv q)
theorem sub_inO {x : Str} {a : Tr} (ha : InO a) : ∀ {c : Tr}, InO c → Lin c → x ∉ tk c → (∀ y ∈ tk c, y ∉ vs a) → InO (sub x a c)
  | v n, _, _, _, _ => by
    show InO (if n = x then a else v n)
    split
    · exact ha
    · trivial
  | g f c, h, hl, hx, hy => ⟨sub_inO ha h.1 hl.g1 (fun z => hx (by simp [tk, z])) fun y z => hy y (by simp [tk, z]), sub_inO ha h.2 hl.g2 (fun z => hx (by simp [tk, z])) fun y z => hy y (by simp [tk, z])⟩
  | t y c, h, hl, hx, hy => by
    have hx : x ∉ y :: tk c := hx
    rw [List.mem_cons, not_or] at hx
    refine ⟨sub_inO ha h.1 hl.t1 hx.2 fun z hz => hy z (List.mem_cons_of_mem _ hz), fun n hn => ?_⟩
    by_cases q : x ∈ vs c
    · obtain ⟨C1, C2, e, n1, n2⟩ := split_at q hl.t1.nv
      rw [(sub_tk (a := a) hl.t1.nv q).mem_iff]
      rw [vs_sub_at hl.t1.nv e, List.append_assoc] at hn
      have yc : y ∈ vs c := hl.h.1
      have y1 : y ∉ C1 := fun z => by
        have : x ∈ aft y (vs c) := by rw [e, aft_in z]; simp
        exact hx.2 (h.2 x this)
      have ya : y ∉ vs a := hy y (List.mem_cons_self ..)
      have hn : n ∈ aft y C2 := by rwa [aft_out y1, aft_out ya] at hn
      have : n ∈ aft y (vs c) := by
        rw [e, aft_out y1]
        show n ∈ (if x = y then C2 else aft y C2)
        rw [if_neg hx.1]
        exact hn
      exact List.mem_append.mpr (.inr (h.2 n this))
    · rw [sub_no q] at hn ⊢
      exact h.2 n hn
/-- steps keep the order -/
theorem red_inO {m p : Tr} (h : Red m p) : Lin m → InO m → InO p := by
  induction h with
  | beta x b a => exact fun hl ho => sub_inO ho.2 ho.1.1 hl.g1.t1 hl.xb hl.ba
  | gl a r ih => exact fun hl ho => ⟨ih hl.g1 ho.1, ho.2⟩
  | gr f r ih => exact fun hl ho => ⟨ho.1, ih hl.g2 ho.2⟩
  | @tb y b b' r ih =>
    intro hl ho
    refine ⟨ih hl.t1 ho.1, fun n hn => ?_⟩
    have yt : y ∉ tk b := (List.nodup_cons.mp (show (y :: tk b).Nodup from hl.nt)).1
    refine red_tk r hl.t1 n (aft_mem hn) ?_
    rcases red_aft r hl.t1 ho.1 y hl.h.1 yt n hn with w | w
    · exact ho.2 n w
    · exact w
theorem aft_map {r : Str → Str} {x : Str} : ∀ {l : List Str}, (∀ a ∈ l, r a = r x → a = x) → aft (r x) (l.map r) = (aft x l).map r
  | [], _ => rfl
  | a :: l, h => by
    show (if r a = r x then l.map r else aft (r x) (l.map r)) = (if a = x then l else aft x l).map r
    by_cases c : a = x
    · rw [if_pos c, if_pos (by rw [c])]
    · rw [if_neg c, if_neg fun e => c (h a (by simp) e), aft_map fun b hb => h b (List.mem_cons_of_mem _ hb)]
theorem inO_ren {r : Str → Str} : ∀ {m : Tr}, InjOn r m → InO m → InO (ren r m)
  | v n, _, _ => trivial
  | g f a, hr, h => ⟨inO_ren (fun x hx y hy => hr x (by rcases mem_nms.mp hx with z | z <;> simp [nms, vs, tk, z]) y (by rcases mem_nms.mp hy with z | z <;> simp [nms, vs, tk, z])) h.1, inO_ren (fun x hx y hy => hr x (by rcases mem_nms.mp hx with z | z <;> simp [nms, vs, tk, z]) y (by rcases mem_nms.mp hy with z | z <;> simp [nms, vs, tk, z])) h.2⟩
  | t x b, hr, h => by
    refine ⟨inO_ren (fun x hx y hy => hr x (by rcases mem_nms.mp hx with z | z <;> simp [nms, vs, tk, z]) y (by rcases mem_nms.mp hy with z | z <;> simp [nms, vs, tk, z])) h.1, fun n hn => ?_⟩
    rw [vs_ren, aft_map fun a ha e => hr a (by simp [nms, vs, ha]) x (by simp [nms, tk]) e] at hn
    obtain ⟨k, hk, rfl⟩ := List.mem_map.mp hn
    rw [tk_ren]
    exact List.mem_map_of_mem (h.2 k hk)
end Tr
end VP

end

section
set_option Elab.async false
set_option linter.all false
set_option autoImplicit false
set_option maxRecDepth 100000
set_option maxHeartbeats 400000
/-! ### programs in order: drawn ones; ages, and how order is judged -/
namespace VP
open PySem PySem.Spec PyProof.Rows L2 VL
namespace Tr
def fr (m : Tr) : List Str := (vs m).filter fun n => decide (n ∉ tk m)
theorem mem_fr {n : Str} {m : Tr} : n ∈ fr m ↔ n ∈ vs m ∧ n ∉ tk m := by unfold fr; simp
def RowOk (row : List Str) (u : Nat) : Prop := ∀ n ∈ row, ∃ j, j < u ∧ n = lname j
structure GenO (row : List Str) (u g : Nat) (m : Tr) : Prop where
  q : GenQ row u g m
  lt : ∀ i n, (tk m)[i]? = some n → n = lname (u + i)
  fr : fr m = row
  io : InO m
theorem tk_lt {row : List Str} {u g : Nat} {m : Tr} (h : GenO row u g m) {n : Str} (hn : n ∈ tk m) : ∃ j, u ≤ j ∧ j < u + (tk m).length ∧ n = lname j := by
  obtain ⟨i, hi, e⟩ := List.getElem_of_mem hn
  exact ⟨u + i, by omega, by omega, h.lt i n (by rw [List.getElem?_eq_getElem hi, e])⟩
theorem genO_v {n : Str} {u : Nat} : GenO [n] u 0 (v n) := ⟨genQ_v, fun i x h => by simp [tk] at h, by simp [Tr.fr, vs, tk], trivial⟩
theorem genO_t {row : List Str} {u g : Nat} {b : Tr} (hr : RowOk row u) (h : GenO (row ++ [lname u]) (u + 1) g b) : GenO row u g (t (lname u) b) := by
  have hx : lname u ∉ row := fun z => by
    obtain ⟨j, hj, e⟩ := hr _ z
    have := lname_inj e
    omega
  have hxt : lname u ∉ tk b := fun z => by
    obtain ⟨j, hj, _, e⟩ := tk_lt h z
    have := lname_inj e
    omega
  refine ⟨genQ_t h.q (.inl rfl), fun i n hi => ?_, ?_, h.io, fun n hn => ?_⟩
  · cases i with
    | zero => have : lname u = n := by simpa [tk] using hi
              exact this.symm
    | succ i =>
      have := h.lt i n (by simpa [tk] using hi)
      rwa [show u + (i + 1) = u + 1 + i by omega]
  · have e : Tr.fr (t (lname u) b) = (Tr.fr b).filter fun n => decide (n ≠ lname u) := by
      unfold Tr.fr
      rw [List.filter_filter]
      refine List.filter_congr fun n _ => ?_
      show decide (n ∉ lname u :: tk b) = (decide (n ≠ lname u) && decide (n ∉ tk b))
      by_cases c : n = lname u <;> simp [c]
    rw [e, h.fr, List.filter_append]
    have e1 : row.filter (fun n => decide (n ≠ lname u)) = row := List.filter_eq_self.mpr fun n hn => decide_eq_true fun z => hx (z ▸ hn)
    rw [e1]
    simp
  · apply Classical.byContradiction
    intro c
    have h1 : n ∈ (aft (lname u) (vs b)).filter fun n => decide (n ∉ tk b) := List.mem_filter.mpr ⟨hn, decide_eq_true c⟩
    have h2 : (aft (lname u) (vs b)).filter (fun n => decide (n ∉ tk b)) = aft (lname u) (Tr.fr b) := (aft_filter (p := fun n => decide (n ∉ tk b)) (decide_eq_true hxt) _).symm
    rw [h2, h.fr, aft_at hx] at h1
    cases h1
theorem genO_g {r1 r2 : List Str} {u a b : Nat} {f c : Tr} (hr : RowOk (r1 ++ r2) u) (hf : GenO r1 u a f) (hc : GenO r2 (u + (tk f).length) b c) : GenO (r1 ++ r2) u (a + b + 1) (g f c) := by
  refine ⟨genQ_g (List.Perm.refl _) hf.q hc.q, fun i n hi => ?_, ?_, hf.io, hc.io⟩
  · have hi : (tk f ++ tk c)[i]? = some n := hi
    by_cases q : i < (tk f).length
    · rw [List.getElem?_append_left q] at hi
      exact hf.lt i n hi
    · rw [List.getElem?_append_right (by omega)] at hi
      have := hc.lt _ n hi
      rwa [show u + (tk f).length + (i - (tk f).length) = u + i by omega] at this
  · have h1 : ∀ n ∈ vs f, n ∉ tk c := fun n hn z => by
      obtain ⟨j, hj, _, e⟩ := tk_lt hc z
      rcases List.mem_append.mp (hf.q.pv.mem_iff.mp hn) with q | q
      · obtain ⟨k, hk, e2⟩ := hr n (by simp [q])
        rw [e] at e2
        have := lname_inj e2
        omega
      · obtain ⟨k, _, hk, e2⟩ := tk_lt hf q
        rw [e] at e2
        have := lname_inj e2
        omega
    have h2 : ∀ n ∈ vs c, n ∉ tk f := fun n hn z => by
      obtain ⟨j, hj, hj2, e⟩ := tk_lt hf z
      rcases List.mem_append.mp (hc.q.pv.mem_iff.mp hn) with q | q
      · obtain ⟨k, hk, e2⟩ := hr n (by simp [q])
        rw [e] at e2
        have := lname_inj e2
        omega
      · obtain ⟨k, hk, _, e2⟩ := tk_lt hc q
        rw [e] at e2
        have := lname_inj e2
        omega
    have e : Tr.fr (g f c) = Tr.fr f ++ Tr.fr c := by
      unfold Tr.fr
      show (vs f ++ vs c).filter (fun n => decide (n ∉ tk f ++ tk c)) = _
      rw [List.filter_append]
      congr 1
      · refine List.filter_congr fun n hn => decide_eq_decide.mpr ?_
        rw [List.mem_append, not_or]
        exact ⟨fun h => h.1, fun h => ⟨h, h1 n hn⟩⟩
      · refine List.filter_congr fun n hn => decide_eq_decide.mpr ?_
        rw [List.mem_append, not_or]
        exact ⟨fun h => h.2, fun h => ⟨h2 n hn, h⟩⟩
    rw [e, hf.fr, hc.fr]
/-! ages -/
def Ages (α : Str → Nat) : Nat → Tr → Prop
  | _, v _ => True
  | i, g f a => Ages α (i + 1) f ∧ Ages α (i + 1 + (fl f).length) a
  | i, t n b => α n = i ∧ Ages α (i + 1) b
theorem ages_tk {α : Str → Nat} {n : Str} : ∀ {m : Tr} {i : Nat}, Ages α i m → n ∈ tk m → i ≤ α n ∧ α n < i + (fl m).length
  | v _, _, _, h => by simp [tk] at h
  | g f a, i, ha, h => by
    have e : (fl (g f a)).length = (fl f).length + (fl a).length + 1 := by show (fl f ++ fl a).length + 1 = _; rw [List.length_append]
    rw [e]
    rcases List.mem_append.mp (show n ∈ tk f ++ tk a from h) with q | q
    · have := ages_tk ha.1 q; omega
    · have := ages_tk ha.2 q; omega
  | t x b, i, ha, h => by
    have e : (fl (t x b)).length = (fl b).length + 1 := rfl
    rw [e]
    rcases List.mem_cons.mp (show n ∈ x :: tk b from h) with rfl | q
    · have : α n = i := ha.1
      omega
    · have := ages_tk (m := b) ha.2 q; omega
def FL (α : Str → Nat) (i : Nat) (m : Tr) : Prop := ∀ n ∈ fr m, α n < i
theorem fr_g1 {f a : Tr} (h : Lin (g f a)) : ∀ n ∈ fr f, n ∈ fr (g f a) := fun n hn => by
  obtain ⟨h1, h2⟩ := mem_fr.mp hn
  refine mem_fr.mpr ⟨List.mem_append.mpr (.inl h1), fun z => ?_⟩
  rcases List.mem_append.mp (show n ∈ tk f ++ tk a from z) with q | q
  · exact h2 q
  · exact (List.nodup_append.mp (show (vs f ++ vs a).Nodup from h.nv)).2.2 n h1 n (tk_vs h.g2.h q) rfl
theorem fr_g2 {f a : Tr} (h : Lin (g f a)) : ∀ n ∈ fr a, n ∈ fr (g f a) := fun n hn => by
  obtain ⟨h1, h2⟩ := mem_fr.mp hn
  refine mem_fr.mpr ⟨List.mem_append.mpr (.inr h1), fun z => ?_⟩
  rcases List.mem_append.mp (show n ∈ tk f ++ tk a from z) with q | q
  · exact (List.nodup_append.mp (show (vs f ++ vs a).Nodup from h.nv)).2.2 n (tk_vs h.g1.h q) n h1 rfl
  · exact h2 q
theorem fr_g {f a : Tr} (h : Lin (g f a)) : fr (g f a) = fr f ++ fr a := by
  unfold fr
  show (vs f ++ vs a).filter (fun n => decide (n ∉ tk f ++ tk a)) = _
  have nd := (List.nodup_append.mp (show (vs f ++ vs a).Nodup from h.nv)).2.2
  rw [List.filter_append]
  congr 1
  · refine List.filter_congr fun n hn => decide_eq_decide.mpr ?_
    rw [List.mem_append, not_or]
    exact ⟨fun h => h.1, fun k => ⟨k, fun z => nd n hn n (tk_vs h.g2.h z) rfl⟩⟩
  · refine List.filter_congr fun n hn => decide_eq_decide.mpr ?_
    rw [List.mem_append, not_or]
    exact ⟨fun h => h.2, fun k => ⟨fun z => nd n (tk_vs h.g1.h z) n hn rfl, k⟩⟩
theorem fr_t (x : Str) (b : Tr) : fr (t x b) = (fr b).filter fun n => decide (n ≠ x) := by
  unfold fr
  rw [List.filter_filter]
  refine List.filter_congr fun n _ => ?_
  show decide (n ∉ x :: tk b) = (decide (n ≠ x) && decide (n ∉ tk b))
  by_cases c : n = x <;> simp [c]
/-- the taken name stands among the body's open ones -/
theorem fr_body {x : Str} {b : Tr} (h : Lin (t x b)) : ∃ P Q, fr b = P ++ x :: Q ∧ x ∉ P ∧ x ∉ Q ∧ fr (t x b) = P ++ Q ∧ Q = (aft x (vs b)).filter fun n => decide (n ∉ tk b) := by
  have xt : x ∉ tk b := (List.nodup_cons.mp (show (x :: tk b).Nodup from h.nt)).1
  have xm : x ∈ fr b := mem_fr.mpr ⟨h.h.1, xt⟩
  obtain ⟨P, Q, e, n1, n2⟩ := split_at xm (List.Nodup.sublist List.filter_sublist h.t1.nv)
  refine ⟨P, Q, e, n1, n2, ?_, ?_⟩
  · rw [fr_t, e, List.filter_append, List.filter_cons_of_neg (by simp)]
    have k1 : P.filter (fun n => decide (n ≠ x)) = P := List.filter_eq_self.mpr fun n hn => decide_eq_true fun z : n = x => n1 (z ▸ hn)
    have k2 : Q.filter (fun n => decide (n ≠ x)) = Q := List.filter_eq_self.mpr fun n hn => decide_eq_true fun z : n = x => n2 (z ▸ hn)
    rw [k1, k2]
  · have := aft_filter (p := fun n => decide (n ∉ tk b)) (x := x) (decide_eq_true xt) (vs b)
    rw [← this]
    show Q = aft x (fr b)
    rw [e, aft_at n1]
theorem fl_g1 {α : Str → Nat} {i : Nat} {f a : Tr} (h : Lin (g f a)) (k : FL α i (g f a)) : FL α (i + 1) f := fun n hn => Nat.lt_succ_of_lt (k n (fr_g1 h n hn))
theorem fl_g2 {α : Str → Nat} {i : Nat} {f a : Tr} (h : Lin (g f a)) (k : FL α i (g f a)) : FL α (i + 1 + (fl f).length) a := fun n hn => by have := k n (fr_g2 h n hn); omega
theorem fl_t1 {α : Str → Nat} {i : Nat} {x : Str} {b : Tr} (h : Lin (t x b)) (ha : Ages α i (t x b)) (k : FL α i (t x b)) : FL α (i + 1) b := fun n hn => by
  by_cases c : n = x
  · have : α x = i := ha.1
    rw [c]
    omega
  · have : n ∈ fr (t x b) := by rw [fr_t]; exact List.mem_filter.mpr ⟨hn, decide_eq_true c⟩
    have := k n this
    omega
def Srt (α : Str → Nat) (l : List Str) : Prop := (l.map α).Pairwise (· ≤ ·)
/-- all parts have their open names by age -/
def allS (α : Str → Nat) : Tr → Prop
  | v _ => True
  | g f a => Srt α (fr (g f a)) ∧ allS α f ∧ allS α a
  | t x b => Srt α (fr (t x b)) ∧ allS α b
theorem srt_app {α : Str → Nat} {l1 l2 : List Str} : Srt α (l1 ++ l2) ↔ Srt α l1 ∧ Srt α l2 ∧ ∀ a ∈ l1, ∀ b ∈ l2, α a ≤ α b := by
  unfold Srt
  rw [List.map_append, List.pairwise_append]
  constructor
  · rintro ⟨h1, h2, h3⟩
    exact ⟨h1, h2, fun a ha b hb => h3 _ (List.mem_map_of_mem ha) _ (List.mem_map_of_mem hb)⟩
  · rintro ⟨h1, h2, h3⟩
    refine ⟨h1, h2, fun x hx y hy => ?_⟩
    obtain ⟨a, ha, rfl⟩ := List.mem_map.mp hx
    obtain ⟨b, hb, rfl⟩ := List.mem_map.mp hy
    exact h3 a ha b hb
/-- with elder ones ahead, a body is in order just where the taken name is the last of its open ones -/
theorem srt_body {α : Str → Nat} {i : Nat} {x : Str} {b : Tr} {l : List Str} (h : Lin (t x b)) (ha : Ages α i (t x b)) (k : FL α i (t x b)) (hl : ∀ n ∈ l, α n < i) :
    Srt α (l ++ fr b) ↔ (∀ n ∈ aft x (vs b), n ∈ tk b) ∧ Srt α (l ++ fr (t x b)) := by
  obtain ⟨P, Q, e, n1, n2, e2, e3⟩ := fr_body h
  have ax : α x = i := ha.1
  have kP : ∀ n ∈ P ++ Q, α n < i := fun n hn => k n (by rw [e2]; exact hn)
  have hQ : (∀ n ∈ aft x (vs b), n ∈ tk b) ↔ Q = [] := by
    rw [e3, List.filter_eq_nil_iff]
    exact ⟨fun z n hn => by simpa using z n hn, fun z n hn => by simpa using z n hn⟩
  rw [hQ, e, e2]
  constructor
  · intro hs
    obtain ⟨h1, h2, h3⟩ := srt_app.mp hs
    obtain ⟨h4, h5, h6⟩ := srt_app.mp h2
    have q : Q = [] := by
      cases Q with
      | nil => rfl
      | cons q Q =>
        have : Srt α ([x] ++ q :: Q) := h5
        have := (srt_app.mp this).2.2 x (by simp) q (by simp)
        have := kP q (by simp)
        omega
    subst q
    refine ⟨rfl, srt_app.mpr ⟨h1, by simpa using h4, fun a ha b hb => h3 a ha b (by simp at hb; simp [hb])⟩⟩
  · rintro ⟨rfl, hs⟩
    rw [List.append_nil] at hs
    obtain ⟨h1, h2, h3⟩ := srt_app.mp hs
    refine srt_app.mpr ⟨h1, srt_app.mpr ⟨h2, by simp [Srt], fun a qa b qb => ?_⟩, fun a qa b qb => ?_⟩
    · have qb : b = x := by simpa using qb
      have := kP a (by simp [qa])
      rw [qb]
      omega
    · rcases List.mem_append.mp qb with z | z
      · exact h3 a qa b z
      · have z : b = x := by simpa using z
        have := hl a qa
        rw [z]
        omega
theorem allS_srt {α : Str → Nat} : ∀ {m : Tr}, allS α m → Srt α (fr m)
  | v n, _ => by simp [Srt, fr, vs, tk]
  | g f a, h => h.1
  | t x b, h => h.1
theorem allS_iff {α : Str → Nat} : ∀ {m : Tr} {i : Nat}, Lin m → Ages α i m → FL α i m → (allS α m ↔ InO m ∧ Srt α (fr m))
  | v n, i, _, _, _ => by simp [allS, InO, Srt, fr, vs, tk]
  | g f a, i, hl, ha, k => by
    have i1 := allS_iff hl.g1 ha.1 (fl_g1 hl k)
    have i2 := allS_iff hl.g2 ha.2 (fl_g2 hl k)
    have e := fr_g hl
    constructor
    · rintro ⟨hs, h1, h2⟩
      exact ⟨⟨(i1.mp h1).1, (i2.mp h2).1⟩, hs⟩
    · rintro ⟨⟨h1, h2⟩, hs⟩
      have hs' := hs
      rw [e] at hs'
      obtain ⟨s1, s2, _⟩ := srt_app.mp hs'
      exact ⟨hs, i1.mpr ⟨h1, s1⟩, i2.mpr ⟨h2, s2⟩⟩
  | t x b, i, hl, ha, k => by
    have i1 := allS_iff hl.t1 ha.2 (fl_t1 hl ha k)
    have sb := srt_body (l := []) hl ha k (fun _ h => by cases h)
    rw [List.nil_append, List.nil_append] at sb
    constructor
    · rintro ⟨hs, h1⟩
      obtain ⟨h2, h3⟩ := i1.mp h1
      exact ⟨⟨h2, (sb.mp h3).1⟩, hs⟩
    · rintro ⟨⟨h1, h2⟩, hs⟩
      exact ⟨hs, i1.mpr ⟨h1, sb.mpr ⟨h2, hs⟩⟩⟩
/-- all parts: at all places -/
theorem allS_fill {α : Str → Nat} {s : Tr} : ∀ c : Cx, allS α (c.fill s) → Srt α (fr s)
  | .hole, h => allS_srt h
  | .gl c a, h => allS_fill c h.2.1
  | .gr f c, h => allS_fill c h.2.2
  | .tb n c, h => allS_fill c h.2
theorem allS_of {α : Str → Nat} : ∀ {m : Tr}, (∀ (c : Cx) (s : Tr), m = c.fill s → Srt α (fr s)) → allS α m
  | v n, _ => trivial
  | g f a, h => ⟨h .hole _ rfl, allS_of fun c s e => h (.gl c a) s (by rw [e]; rfl), allS_of fun c s e => h (.gr f c) s (by rw [e]; rfl)⟩
  | t x b, h => ⟨h .hole _ rfl, allS_of (m := b) fun c s e => h (.tb x c) s (by rw [e]; rfl)⟩
theorem ages_fill {α : Str → Nat} {s : Tr} : ∀ (c : Cx) {i : Nat}, Lin (c.fill s) → Ages α i (c.fill s) → FL α i (c.fill s) → Lin s ∧ Ages α (i + c.pre.length) s ∧ FL α (i + c.pre.length) s
  | .hole, i, hl, ha, k => ⟨hl, ha, k⟩
  | .gl c a, i, hl, ha, k => by
    have := ages_fill c hl.g1 ha.1 (fl_g1 hl k)
    rwa [show i + (Cx.gl c a).pre.length = i + 1 + c.pre.length by simp [Cx.pre]; omega]
  | .gr f c, i, hl, ha, k => by
    have := ages_fill c hl.g2 ha.2 (fl_g2 hl k)
    rwa [show i + (Cx.gr f c).pre.length = i + 1 + (fl f).length + c.pre.length by simp [Cx.pre]; omega]
  | .tb n c, i, hl, ha, k => by
    have := ages_fill c hl.t1 ha.2 (fl_t1 hl ha k)
    rwa [show i + (Cx.tb n c).pre.length = i + 1 + c.pre.length by simp [Cx.pre]; omega]
/-! ends of the bodies -/
def EndsOk (ε : Nat → Nat) : Nat → Tr → Prop
  | _, v _ => True
  | i, g f a => EndsOk ε (i + 1) f ∧ EndsOk ε (i + 1 + (fl f).length) a
  | i, t n b => ε i = i + 1 + (fl b).length ∧ EndsOk ε (i + 1) b
theorem ends_of {ε : Nat → Nat} {W : List PW} (h : ∀ (A b C : List PW), W = A ++ b ++ C → One b → ε A.length = A.length + b.length) : ∀ (m : Tr) {A C : List PW}, W = A ++ fl m ++ C → EndsOk ε A.length m
  | v n, A, C, e => trivial
  | g f a, A, C, e => by
    have e1 : W = (A ++ [.g]) ++ fl f ++ (fl a ++ C) := by rw [e]; simp [fl]
    have e2 : W = (A ++ .g :: fl f) ++ fl a ++ C := by rw [e]; simp [fl]
    have h1 := ends_of h f e1
    have h2 := ends_of h a e2
    refine ⟨?_, ?_⟩
    · simpa using h1
    · rwa [show A.length + 1 + (fl f).length = (A ++ PW.g :: fl f).length by simp; omega]
  | t n b, A, C, e => by
    have e1 : W = (A ++ [.t n]) ++ fl b ++ C := by rw [e]; simp [fl]
    have h1 := ends_of h b e1
    refine ⟨?_, by simpa using h1⟩
    have := h A (.t n :: fl b) C (by rw [e]; rfl) (one_t (fl_one b))
    rw [this]
    simp
    omega
theorem ages_of {α : Str → Nat} {W : List PW} (h : ∀ (A C : List PW) (n : Str), W = A ++ .t n :: C → α n = A.length) : ∀ (m : Tr) {A C : List PW}, W = A ++ fl m ++ C → Ages α A.length m
  | v n, A, C, e => trivial
  | g f a, A, C, e => by
    have e1 : W = (A ++ [.g]) ++ fl f ++ (fl a ++ C) := by rw [e]; simp [fl]
    have e2 : W = (A ++ .g :: fl f) ++ fl a ++ C := by rw [e]; simp [fl]
    have h1 := ages_of h f e1
    have h2 := ages_of h a e2
    refine ⟨by simpa using h1, ?_⟩
    rwa [show A.length + 1 + (fl f).length = (A ++ PW.g :: fl f).length by simp; omega]
  | t n b, A, C, e => by
    have e1 : W = (A ++ [.t n]) ++ fl b ++ C := by rw [e]; simp [fl]
    exact ⟨h A (fl b ++ C) n (by rw [e]; simp [fl]), by simpa using ages_of h b e1⟩
end Tr
end VP

end

section
set_option Elab.async false
set_option linter.all false
set_option autoImplicit false
set_option maxRecDepth 100000
set_option maxHeartbeats 400000
/-! ### order judged by a pile -/
namespace VP
open PySem PySem.Spec PyProof.Rows L2 VL
namespace Tr
theorem srt_snoc {α : Str → Nat} {l : List Str} {n : Str} (h : Srt α l) : Srt α (l ++ [n]) ↔ ∀ k, l.getLast? = some k → α k ≤ α n := by
  rw [srt_app]
  constructor
  · rintro ⟨_, _, h3⟩ k hk
    exact h3 k (List.mem_of_getLast? hk) n (by simp)
  · intro hk
    refine ⟨h, by simp [Srt], fun a ha b hb => ?_⟩
    have hb : b = n := by simpa using hb
    subst hb
    rcases List.eq_nil_or_concat l with q | ⟨l', x, q⟩
    · subst q; cases ha
    · rw [List.concat_eq_append] at q
      subst q
      have hx := hk x (by simp)
      rcases List.mem_append.mp ha with z | z
      · have := (srt_app.mp h).2.2 a z x (by simp)
        omega
      · have z : a = x := by simpa using z
        rw [z]; exact hx
/-- the walk over a tree's words with a pile of ages -/
theorem fr_le (s : Tr) : (fr s).length ≤ (fl s).length := by
  unfold fr
  refine Nat.le_trans (List.length_filter_le _ _) ?_
  rw [← fl_vs]
  exact vars_len _
theorem walk_tree (F : Nat → List PW → List Nat → Prop) (bad : Prop) (α : Str → Nat) (ε : Nat → Nat) (N : Str → Prop)
    (hg : ∀ (i : Nat) (w : PW) (ws : List PW) (pile : List Nat), isV w = false → F (i + 1) ws pile → F i (w :: ws) pile)
    (hv : ∀ (i : Nat) (n : Str) (ws : List PW) (l : List Str) (Dd : List Nat), N n → (∀ d ∈ Dd, ε d ≤ i) → (∀ k ∈ l, α k < i ∧ i < ε (α k)) → l.length ≤ i → ((∃ k, l.getLast? = some k ∧ α n < α k) → bad) → ((∀ k, l.getLast? = some k → α k ≤ α n) → F (i + 1) ws (l.map α ++ [α n])) → F i (.v n :: ws) (l.map α ++ Dd)) :
    ∀ (s : Tr) (i : Nat) (rest : List PW) (l : List Str) (Dd : List Nat), Lin s → (∀ n ∈ vs s, N n) → Ages α i s → EndsOk ε i s → FL α i s → (∀ n ∈ fr s, i + (fl s).length ≤ ε (α n)) → (∀ k ∈ l, α k < i ∧ i + (fl s).length ≤ ε (α k)) → Srt α l → (∀ d ∈ Dd, ε d ≤ i) → l.length ≤ i →
      ((InO s ∧ Srt α (l ++ fr s)) → ∀ Dd' : List Nat, (∀ d ∈ Dd', ε d ≤ i + (fl s).length) → F (i + (fl s).length) rest ((l ++ fr s).map α ++ Dd')) → (¬ (InO s ∧ Srt α (l ++ fr s)) → bad) → F i (fl s ++ rest) (l.map α ++ Dd)
  | v n, i, rest, l, Dd, hl, hN, ha, he, hf, hfe, hL, hs, hD, hz, hok, hbad => by
    have e : fr (v n) = [n] := by simp [fr, vs, tk]
    rw [e] at hok hbad
    refine hv i n rest l Dd (hN n (by simp [vs])) hD (fun k hk => by have := hL k hk; simp [fl] at this; omega) hz (fun ⟨k, hk, hlt⟩ => hbad fun h => ?_) fun h => ?_
    · have := (srt_snoc hs).mp h.2 k hk
      omega
    · have := hok ⟨trivial, (srt_snoc hs).mpr h⟩ [] (fun d hd => by cases hd)
      simpa [fl] using this
  | g f a, i, rest, l, Dd, hl, hN, ha, he, hf, hfe, hL, hs, hD, hz, hok, hbad => by
    have ez : (fl (g f a)).length = (fl f).length + (fl a).length + 1 := by show (fl f ++ fl a).length + 1 = _; rw [List.length_append]
    have ef := fr_g hl
    show F i (.g :: (fl f ++ fl a) ++ rest) _
    rw [List.cons_append, List.append_assoc]
    refine hg i .g _ _ rfl ?_
    have hbf : ¬ (InO f ∧ Srt α (l ++ fr f)) → bad := fun h => hbad fun k => h ⟨k.1.1, by
      have := k.2
      rw [ef, ← List.append_assoc] at this
      exact (srt_app.mp this).1⟩
    refine walk_tree F bad α ε N hg hv f (i + 1) (fl a ++ rest) l Dd hl.g1 (fun n hn => hN n (by show n ∈ vs f ++ vs a; simp [hn])) ha.1 he.1 (fl_g1 hl hf) (fun n hn => by have := hfe n (fr_g1 hl n hn); omega) (fun k hk => by have := hL k hk; omega) hs (fun d hd => by have := hD d hd; omega) (by omega) (fun hokf Dd' hD' => ?_) hbf
    refine walk_tree F bad α ε N hg hv a (i + 1 + (fl f).length) rest (l ++ fr f) Dd' hl.g2 (fun n hn => hN n (by show n ∈ vs f ++ vs a; simp [hn])) ha.2 he.2 (fl_g2 hl hf) (fun n hn => by have := hfe n (fr_g2 hl n hn); omega) (fun k hk => ?_) hokf.2 hD' (by have := fr_le f; rw [List.length_append]; omega) (fun hoka Dd2 hD2 => ?_) (fun h => hbad fun k => h ⟨k.1.2, by have := k.2; rwa [ef, ← List.append_assoc] at this⟩)
    · rcases List.mem_append.mp hk with q | q
      · have := hL k q; omega
      · have h1 := hf k (fr_g1 hl k q)
        have h2 := hfe k (fr_g1 hl k q)
        omega
    · have q := hok ⟨⟨hokf.1, hoka.1⟩, by rw [ef, ← List.append_assoc]; exact hoka.2⟩ Dd2 (fun d hd => by have := hD2 d hd; omega)
      rw [ef, ← List.append_assoc, show i + (fl (g f a)).length = i + 1 + (fl f).length + (fl a).length by omega] at q
      exact q
  | t x b, i, rest, l, Dd, hl, hN, ha, he, hf, hfe, hL, hs, hD, hz, hok, hbad => by
    have ez : (fl (t x b)).length = (fl b).length + 1 := rfl
    have hLi : ∀ n ∈ l, α n < i := fun n hn => (hL n hn).1
    have sb := srt_body (l := l) hl ha hf hLi
    have ax : α x = i := ha.1
    have ex : ε i = i + 1 + (fl b).length := he.1
    refine hg i (.t x) _ _ rfl ?_
    refine walk_tree F bad α ε N hg hv b (i + 1) rest l Dd hl.t1 (fun n hn => hN n hn) ha.2 he.2 (fl_t1 hl ha hf) (fun n hn => ?_) (fun k hk => by have := hL k hk; omega) hs (fun d hd => by have := hD d hd; omega) (by omega) (fun hokb Dd' hD' => ?_) (fun h => hbad fun k => h ⟨k.1.1, sb.mpr ⟨k.1.2, k.2⟩⟩)
    · by_cases c : n = x
      · rw [c, ax, ex]
        exact Nat.le_refl _
      · have := hfe n (by rw [fr_t]; exact List.mem_filter.mpr ⟨hn, decide_eq_true c⟩)
        omega
    · obtain ⟨h1, h2⟩ := sb.mp hokb.2
      obtain ⟨P, Q, e, n1, n2, e2, e3⟩ := fr_body hl
      have hQ : Q = [] := by
        rw [e3, List.filter_eq_nil_iff]
        exact fun n hn => by simpa using h1 n hn
      subst hQ
      rw [List.append_nil] at e2
      have q := hok ⟨⟨hokb.1, h1⟩, h2⟩ (i :: Dd') (fun d hd => by
        rcases List.mem_cons.mp hd with rfl | hd
        · omega
        · have := hD' d hd; omega)
      rw [show i + (fl (t x b)).length = i + 1 + (fl b).length by omega, e2] at q
      rw [e]
      simp only [List.map_append, List.map_cons, List.map_nil, List.append_assoc, List.cons_append, List.nil_append, ax] at q ⊢
      exact q
end Tr
end VP

end

section
set_option Elab.async false
set_option linter.all false
set_option autoImplicit false
set_option maxRecDepth 100000
set_option maxHeartbeats 0
namespace K19
open PySem PySem.Spec PyProof.Rows L2 VL VP
def top (i : Nat) : Stmt := PySem.Challenge.pw_onceknots_k19_whole_runs_in_any_order.main.body.getD i (.Pass ⟨0, 0, 0, 0⟩)
def Cs_past (K : PySem.W.Frag) : List Addr := [He.ga K "Run"]
def Cs_words (K : PySem.W.Frag) : List Addr := [He.ga K "Program", He.ga K "RawProgram"]
def Cs_eq (K : PySem.W.Frag) : List Addr := [He.ga K "Program", He.ga K "RawProgram"]
def Cs_isi (K : PySem.W.Frag) : List Addr := [He.ga K "Program", He.ga K "RawProgram"]
structure Kx (K : PySem.W.Frag) : Prop where
  k_RawProgram_Program : PySem.W.kitOne K (.ref (He.ga K "RawProgram")) (.ref (He.ga K "Program")) = some true
  k_Program_Program : PySem.W.kitOne K (.ref (He.ga K "Program")) (.ref (He.ga K "Program")) = some true
  eqF : EqF K (He.ma K (He.ga K "Program") "__eq__") (Cs_eq K)
structure Fx (K : PySem.W.Frag) (mg : Str → Option Value) : Prop where
  b_int : mg "int" = none
  I : ∀ C ∈ Cs_isi K, ClsI K C
  b_isinstance : mg "isinstance" = none
  b_bool : mg "bool" = none
  g_is_integer : mg "is_integer" = some (.ref (He.ga K "is_integer"))
  g_is_within : mg "is_within" = some (.ref (He.ga K "is_within"))
  b_str : mg "str" = none
  b_len : mg "len" = none
  b_all : mg "all" = none
  g_is_name : mg "is_name" = some (.ref (He.ga K "is_name"))
  g_is_give : mg "is_give" = some (.ref (He.ga K "is_give"))
  g_is_take : mg "is_take" = some (.ref (He.ga K "is_take"))
  g_name_of : mg "name_of" = some (.ref (He.ga K "name_of"))
  g_is_word : mg "is_word" = some (.ref (He.ga K "is_word"))
  g_asked_by : mg "asked_by" = some (.ref (He.ga K "asked_by"))
  b_enumerate : mg "enumerate" = none
  g_wrong_end : mg "wrong_end" = some (.ref (He.ga K "wrong_end"))
  g_wrong_second : mg "wrong_second" = some (.ref (He.ga K "wrong_second"))
  b_range : mg "range" = none
  b_tuple : mg "tuple" = none
  g_raw_ends : mg "raw_ends" = some (.ref (He.ga K "raw_ends"))
  g_uses : mg "uses" = some (.ref (He.ga K "uses"))
  g_wrong_take : mg "wrong_take" = some (.ref (He.ga K "wrong_take"))
  g_fault_in : mg "fault_in" = some (.ref (He.ga K "fault_in"))
  i_MOST_WORDS : ∃ t, mg "MOST_WORDS" = some (.int 1000 t)
  F_words : ∀ C ∈ Cs_words K, ClsF K "words" C
  g_Program : mg "Program" = some (.ref (He.ga K "Program"))
  g_RawProgram : mg "RawProgram" = some (.ref (He.ga K "RawProgram"))
  g_givens : mg "givens" = some (.ref (He.ga K "givens"))
  g_is_step : mg "is_step" = some (.ref (He.ga K "is_step"))
  g_raw_steps : mg "raw_steps" = some (.ref (He.ga K "raw_steps"))
  g_steps : mg "steps" = some (.ref (He.ga K "steps"))
  g_raw_stepped : mg "raw_stepped" = some (.ref (He.ga K "raw_stepped"))
  g_check_step : mg "check_step" = some (.ref (He.ga K "check_step"))
  g_way_to_rest : mg "way_to_rest" = some (.ref (He.ga K "way_to_rest"))
  g_raw_rest : mg "raw_rest" = some (.ref (He.ga K "raw_rest"))
  g_rest : mg "rest" = some (.ref (He.ga K "rest"))
  g_many_steps : mg "many_steps" = some (.ref (He.ga K "many_steps"))
  g_is_way : mg "is_way" = some (.ref (He.ga K "is_way"))
  F_past : ∀ C ∈ Cs_past K, ClsF K "past" C
  g_Run : mg "Run" = some (.ref (He.ga K "Run"))
  c_Run : Cls K (He.ga K "Run")
  q_Run_program : Meth K (He.ga K "Run") "program" (He.ma K (He.ga K "Run") "program")
  q_Run_many : Meth K (He.ga K "Run") "many" (He.ma K (He.ga K "Run") "many")
  q_Run_step : Meth K (He.ga K "Run") "step" (He.ma K (He.ga K "Run") "step")
  q_Run_back : Meth K (He.ga K "Run") "back" (He.ma K (He.ga K "Run") "back")
  q_Run_to_rest : Meth K (He.ga K "Run") "to_rest" (He.ma K (He.ga K "Run") "to_rest")
  b_abs : mg "abs" = none
  b_sum : mg "sum" = none
  g__law_pot : mg "_law_pot" = some (.ref (He.ga K "_law_pot"))
  g__law_draw : mg "_law_draw" = some (.ref (He.ga K "_law_draw"))
  g__law_any : mg "_law_any" = some (.ref (He.ga K "_law_any"))
  g__law_letters : mg "_law_letters" = some (.ref (He.ga K "_law_letters"))
  g__law_fresh : mg "_law_fresh" = some (.ref (He.ga K "_law_fresh"))
  b_list : mg "list" = none
  g__law_mixed : mg "_law_mixed" = some (.ref (He.ga K "_law_mixed"))
  b_max : mg "max" = none
  b_min : mg "min" = none
  g__law_words : mg "_law_words" = some (.ref (He.ga K "_law_words"))
  g__law_size : mg "_law_size" = some (.ref (He.ga K "_law_size"))
  g__law_program : mg "_law_program" = some (.ref (He.ga K "_law_program"))
  g__law_place : mg "_law_place" = some (.ref (He.ga K "_law_place"))
  g__law_row : mg "_law_row" = some (.ref (He.ga K "_law_row"))
  g_law : mg "law" = some (.ref (He.ga K "law"))
  m_Program : Mk K (He.ga K "Program") (He.ma K (He.ga K "Program") "__init__")
  m_RawProgram : Mk K (He.ga K "RawProgram") (He.ma K (He.ga K "RawProgram") "__init__")
  m_Run : Mk K (He.ga K "Run") (He.ma K (He.ga K "Run") "__init__")
--import P9
/-! ### promises: words -/
abbrev tupP (ws : List PW) : D := .tup (pDs ws)
abbrev progD (C : Addr) (ws : List PW) : D := .ins C [("words", tupP ws)]
def isP (K : PySem.W.Frag) (C : Addr) : Prop := C = He.ga K "Program" ∨ C = He.ga K "RawProgram"
abbrev rawO (K : PySem.W.Frag) (ws : List PW) : O := .ins (He.ga K "RawProgram") [("words", tupP ws)]
/-- what a slot shows -/
def seeS : Sl → Option D
  | .sh d => some d
  | .par o => o.see
  | _ => none
def c_is_integer (_ : PySem.W.Frag) : VSp := fun as P _ => ∃ n : Int, as = [.sh (.int n)] ∧ P (.sh (.bl true)) as
def c_is_within (_ : PySem.W.Frag) : VSp := fun as P _ => ∃ n a b : Int, as = [.sh (.int n), .sh (.int a), .sh (.int b)] ∧ P (.sh (.bl (decide (a ≤ n) && decide (n ≤ b)))) as
def c_is_name (_ : PySem.W.Frag) : VSp := fun as P _ => ∃ z : Str, as = [.sh (.str z)] ∧ P (.sh (.bl (nameB z))) as
def c_is_give (_ : PySem.W.Frag) : VSp := fun as P _ => ∃ w, PWn w ∧ as = [.sh (pD w)] ∧ P (.sh (.bl (isG w))) as
def c_is_take (_ : PySem.W.Frag) : VSp := fun as P _ => ∃ w, PWn w ∧ as = [.sh (pD w)] ∧ P (.sh (.bl (isT w))) as
def c_name_of (_ : PySem.W.Frag) : VSp := fun as P _ => ∃ w, PWn w ∧ as = [.sh (pD w)] ∧ P (.sh (.str (nameW w))) as
/-- a word of the document -/
def wordB : PW → Bool
  | .g => true
  | .t n => nameB n
  | .v n => nameB n
def c_is_word (_ : PySem.W.Frag) : VSp := fun as P _ => ∃ w, wordB w = true ∧ as = [.sh (pD w)] ∧ P (.sh (.bl true)) as
def c_asked_by (_ : PySem.W.Frag) : VSp := fun as P _ => ∃ w, PWn w ∧ as = [.sh (pD w)] ∧ P (.sh (.int (ar w : Nat))) as
def c_wrong_end (_ : PySem.W.Frag) : VSp := fun as P _ => ∃ ws, WOk ws ∧ One ws ∧ as = [.sh (tupP ws)] ∧ P (.sh .non) as
/-- no name is taken, or stands, twice -/
def Nd (ws : List PW) : Prop := (takesW ws).Nodup ∧ (varsW ws).Nodup
def c_wrong_second (_ : PySem.W.Frag) : VSp := fun as P _ => ∃ ws, WOk ws ∧ Nd ws ∧ ws.length ≤ 4000 ∧ as = [.sh (tupP ws)] ∧ P (.sh .non) as
def c_raw_ends (_ : PySem.W.Frag) : VSp := fun as P _ => ∃ ws, WOk ws ∧ One ws ∧ ws.length ≤ 4000 ∧ as = [.sh (tupP ws)] ∧ P (.sh (.tup ((endsP ws).map fun (n : Nat) => D.int n))) as
/-- where names stand, where they are taken -/
def usesA : Nat → List PW → List (Str × Nat)
  | _, [] => []
  | i, .v n :: ws => (n, i) :: usesA (i + 1) ws
  | i, _ :: ws => usesA (i + 1) ws
def takenA : Nat → List PW → List (Str × Nat)
  | _, [] => []
  | i, .t n :: ws => (n, i) :: takenA (i + 1) ws
  | i, _ :: ws => takenA (i + 1) ws
def plD (l : List (Str × Nat)) : List (Key × D) := l.map fun q => (.inr q.1, .int (q.2 : Nat))
def c_uses (_ : PySem.W.Frag) : VSp := fun as P _ => ∃ ws, WOk ws ∧ (varsW ws).Nodup ∧ ws.length ≤ 4000 ∧ as = [.sh (tupP ws)] ∧ P (.own (.dic (plD (usesA 0 ws)))) as
def c_taken (_ : PySem.W.Frag) : VSp := fun as P _ => ∃ ws, WOk ws ∧ (takesW ws).Nodup ∧ ws.length ≤ 4000 ∧ as = [.sh (tupP ws)] ∧ P (.own (.dic (plD (takenA 0 ws)))) as
/-- each name that is taken stands in the body -/
def Tk (ws : List PW) : Prop := ∀ A n R, ws = A ++ .t n :: R → ∃ b C, R = b ++ C ∧ One b ∧ PW.v n ∈ b
structure OkP (ws : List PW) : Prop where
  word : ∀ w ∈ ws, wordB w = true
  one : One ws
  nd : Nd ws
  tk : Tk ws
  len : ws.length ≤ 1000
theorem wordB_n {w : PW} (h : wordB w = true) : PWn w := by
  cases w with
  | g => trivial
  | t n => exact nameB_nm h
  | v n => exact nameB_nm h
theorem OkP.wok {ws : List PW} (h : OkP ws) : WOk ws := fun w hw => wordB_n (h.word w hw)
def c_wrong_take (_ : PySem.W.Frag) : VSp := fun as P _ => ∃ ws, OkP ws ∧ as = [.sh (tupP ws)] ∧ P (.sh .non) as
def c_fault_in (_ : PySem.W.Frag) : VSp := fun as P _ => ∃ ws, OkP ws ∧ as = [.sh (tupP ws)] ∧ P (.sh .non) as
def c_Program___init__ (K : PySem.W.Frag) : VSp := fun as P _ => ∃ ws, OkP ws ∧ as = [.par (.ins (He.ga K "Program") []), .sh (tupP ws)] ∧ P (.sh .non) [.par (.ins (He.ga K "Program") [("words", tupP ws)]), .sh (tupP ws)]
def c_Program___eq__ (K : PySem.W.Frag) : VSp := fun as P _ => ∃ (C C' : Addr) (a b : List PW), isP K C ∧ isP K C' ∧ WOk a ∧ WOk b ∧ as = [.sh (progD C a), .sh (progD C' b)] ∧ P (.sh (.bl (decide (a = b)))) as
def c_RawProgram___init__ (K : PySem.W.Frag) : VSp := fun as P _ => ∃ xs, as = [.par (.ins (He.ga K "RawProgram") []), .sh (.tup xs)] ∧ P (.sh .non) [.par (.ins (He.ga K "RawProgram") [("words", .tup xs)]), .sh (.tup xs)]
def manyG (ws : List PW) : Nat := (ws.filter isG).length
def c_givens (K : PySem.W.Frag) : VSp := fun as P _ => ∃ (C : Addr) (ws : List PW), isP K C ∧ WOk ws ∧ ws.length ≤ 4000 ∧ as = [.sh (progD C ws)] ∧ P (.sh (.int (manyG ws : Nat))) as
def stepB (ws : List PW) (p : Nat) : Bool := match ws[p]?, ws[p + 1]? with
  | some w, some w' => isG w && isT w'
  | _, _ => false
def stepsW (ws : List PW) : List Nat := (List.range (ws.length - 1)).filter (stepB ws)
def c_is_step (_ : PySem.W.Frag) : VSp := fun as P _ => ∃ (ws : List PW) (p : Nat), WOk ws ∧ p + 1 < ws.length ∧ as = [.sh (tupP ws), .sh (.int (p : Nat))] ∧ P (.sh (.bl (stepB ws p))) as
def c_raw_steps (_ : PySem.W.Frag) : VSp := fun as P _ => ∃ ws, WOk ws ∧ ws.length ≤ 4000 ∧ as = [.sh (tupP ws)] ∧ P (.own (.lst ((stepsW ws).map fun (n : Nat) => D.int n))) as
def c_steps (K : PySem.W.Frag) : VSp := fun as P _ => ∃ (C : Addr) (ws : List PW), isP K C ∧ WOk ws ∧ ws.length ≤ 4000 ∧ as = [.sh (progD C ws)] ∧ P (.sh (.tup ((stepsW ws).map fun (n : Nat) => D.int n))) as
/-- a step: the name x stands just once, in the body -/
structure StepAt (ws : List PW) (A B1 B2 C E : List PW) (x : Str) : Prop where
  eq : ws = A ++ (.g :: .t x :: ((B1 ++ .v x :: B2) ++ C)) ++ E
  body : One (B1 ++ .v x :: B2)
  arg : One C
def c_raw_stepped (_ : PySem.W.Frag) : VSp := fun as P _ => ∃ (ws A B1 B2 C E : List PW) (x : Str), WOk ws ∧ One ws ∧ (varsW ws).Nodup ∧ ws.length ≤ 4000 ∧ StepAt ws A B1 B2 C E x ∧ as = [.sh (tupP ws), .sh (.int (A.length : Nat))] ∧ P (.sh (tupP (A ++ B1 ++ C ++ B2 ++ E))) as
def c_check_step (_ : PySem.W.Frag) : VSp := fun as P _ => ∃ (ws : List PW) (p : Nat), WOk ws ∧ p + 1 < ws.length ∧ stepB ws p = true ∧ as = [.sh (tupP ws), .sh (.int (p : Nat))] ∧ P (.sh .non) as
/-- names are short -/
def Sh (ws : List PW) : Prop := ∀ w ∈ ws, (nameW w).length ≤ 100
/-! ### promises: the law's -/
def c__law_any (_ : PySem.W.Frag) : VSp := fun as P _ => ∃ (t : Nat) (s : Sl) (xs : List D), as = [.par (.pot t), s] ∧ (seeS s = some (.lst xs) ∨ seeS s = some (.tup xs)) ∧ 0 < xs.length ∧ xs.length < 2 ^ 40 ∧ t < 2 ^ 50 ∧ ∀ d ∈ xs, P (.sh d) [.par (.pot (t + 1)), s]
def c__law_letters (_ : PySem.W.Frag) : VSp := fun as P _ => ∃ k : Nat, as = [.sh (.int (k : Nat))] ∧ k + 1 < 217180147159 ∧ P (.sh (.str (lname k))) as
def c__law_fresh (_ : PySem.W.Frag) : VSp := fun as P _ => ∃ (t : Nat) (us : List Str), as = [.par (.pot t), .par (.lst (us.map D.str))] ∧ t < 2 ^ 49 ∧ us.length ≤ 4000 ∧ ∀ (t' : Nat) (n : Str), t' ≤ t + 3 → nameB n = true → n ∉ us → P (.sh (.str n)) [.par (.pot t'), .par (.lst ((us ++ [n]).map D.str))]
def c__law_mixed (_ : PySem.W.Frag) : VSp := fun as P _ => ∃ (t : Nat) (xs : List D), as = [.par (.pot t), .sh (.lst xs)] ∧ t < 2 ^ 49 ∧ xs.length ≤ 4000 ∧ ∀ ys : List D, ys.Perm xs → P (.own (.lst ys)) [.par (.pot (t + xs.length)), .sh (.lst xs)]
/-- programs as trees -/
inductive Tm where
  | v (n : Str) | g (f a : Tm) | t (n : Str) (b : Tm)
def flatT : Tm → List PW
  | .v n => [.v n]
  | .g f a => .g :: (flatT f ++ flatT a)
  | .t n b => .t n :: flatT b
def opT : Tm → List Str
  | .v n => [n]
  | .g f a => opT f ++ opT a
  | .t n b => (opT b).erase n
def tkT : Tm → List Str
  | .v _ => []
  | .g f a => tkT f ++ tkT a
  | .t n b => n :: tkT b
def lnT : Tm → Prop
  | .v _ => True
  | .g f a => lnT f ∧ lnT a
  | .t n b => n ∈ opT b ∧ lnT b
def gvT : Tm → Nat
  | .v _ => 0
  | .g f a => gvT f + gvT a + 1
  | .t _ b => gvT b
/-- made of the names of a row, with so many gives, fresh names being taken -/
structure Gen (U row : List Str) (many : Nat) (m : Tm) : Prop where
  op : (opT m).Perm row
  tk : (tkT m).Nodup
  fr : ∀ n ∈ tkT m, n ∉ U
  nm : ∀ n ∈ tkT m, nameB n = true
  ln : lnT m
  gv : gvT m = many
def c__law_words (_ : PySem.W.Frag) : VSp := fun as P _ => ∃ (t : Nat) (row us : List Str) (many : Nat), as = [.par (.pot t), .sh (.lst (row.map D.str)), .sh (.int (many : Nat)), .par (.lst (us.map D.str))] ∧ t < 2 ^ 48 ∧ row.length ≤ many + 1 ∧ many ≤ 400 ∧ us.length ≤ 1000 ∧ row.Nodup ∧ (∀ n ∈ row, n ∈ us) ∧
  ∀ (t' : Nat) (m : Tm), t' ≤ t + 10000000 → Gen us row many m → P (.sh (tupP (flatT m))) [.par (.pot t'), .sh (.lst (row.map D.str)), .sh (.int (many : Nat)), .par (.lst ((us ++ tkT m).map D.str))]
def c__law_size (_ : PySem.W.Frag) : VSp := fun as P _ => ∃ (t most : Nat), as = [.par (.pot t), .sh (.int (most : Nat))] ∧ t < 2 ^ 49 ∧ most ≤ 1000 ∧ ∀ (t' k : Nat), t' ≤ t + 2 → k ≤ max most 10 → P (.sh (.int (k : Nat))) [.par (.pot t'), .sh (.int (most : Nat))]
def c_way_to_rest (_ : PySem.W.Frag) : VSp := fun as P _ => ∃ (m e : Tr) (k : Nat), OkP (Tr.fl m) ∧ m.Lin ∧ Tr.Way k m e ∧ e.Nf ∧ as = [.sh (tupP (Tr.fl m))] ∧ ∀ way : List D, way.length = k → P (.sh (.tup [.tup way, tupP (Tr.fl e)])) as
def c_raw_rest (_ : PySem.W.Frag) : VSp := fun as P _ => ∃ (m e : Tr) (k : Nat), OkP (Tr.fl m) ∧ m.Lin ∧ Tr.Way k m e ∧ e.Nf ∧ as = [.sh (tupP (Tr.fl m))] ∧ P (.sh (tupP (Tr.fl e))) as
def c_rest (K : PySem.W.Frag) : VSp := fun as P _ => ∃ (C : Addr) (m e : Tr) (k : Nat), isP K C ∧ OkP (Tr.fl m) ∧ m.Lin ∧ Tr.Way k m e ∧ e.Nf ∧ as = [.sh (progD C (Tr.fl m))] ∧ P (.own (rawO K (Tr.fl e))) as
def c_many_steps (K : PySem.W.Frag) : VSp := fun as P _ => ∃ (C : Addr) (m e : Tr) (k : Nat), isP K C ∧ OkP (Tr.fl m) ∧ m.Lin ∧ Tr.Way k m e ∧ e.Nf ∧ as = [.sh (progD C (Tr.fl m))] ∧ P (.sh (.int (k : Nat))) as
/-! ### steps one behind another, and their programs -/
/-- the step at the place p leads from m to q -/
def StepP (p : Nat) (m q : Tr) : Prop := Tr.Red m q ∧ ∃ (A B1 B2 C E : List PW) (x : Str), StepAt (Tr.fl m) A B1 B2 C E x ∧ A.length = p ∧ Tr.fl q = A ++ B1 ++ C ++ B2 ++ E
inductive PathP : List Nat → Tr → Tr → Prop
  | nil (m : Tr) : PathP [] m m
  | cons {p : Nat} {ps : List Nat} {m q e : Tr} (h : StepP p m q) (t : PathP ps q e) : PathP (p :: ps) m e
/-- the places, and the programs, the first one ahead -/
inductive Trl (m : Tr) : List Nat → List Tr → Prop
  | one : Trl m [] [m]
  | snoc {ps : List Nat} {ms : List Tr} {p : Nat} {q r : Tr} (t : Trl m ps (ms ++ [q])) (h : StepP p q r) : Trl m (ps ++ [p]) (ms ++ [q] ++ [r])
def inD (ps : List Nat) : List D := ps.map fun (n : Nat) => D.int n
def trD (ms : List Tr) : List D := ms.map fun m => tupP (Tr.fl m)
def c_is_way (K : PySem.W.Frag) : VSp := fun as P _ => ∃ (C C' : Addr) (m e : Tr) (ps : List Nat), isP K C ∧ isP K C' ∧ OkP (Tr.fl m) ∧ m.Lin ∧ PathP ps m e ∧ as = [.sh (progD C (Tr.fl m)), .sh (progD C' (Tr.fl e)), .sh (.tup (inD ps))] ∧ P (.sh (.bl true)) as
/-! ### a run -/
abbrev runO (K : PySem.W.Frag) (q : Addr) (ds : List D) : O := .obj (He.ga K "Run") [("past", .l q ds)]
def c_Run___init__ (K : PySem.W.Frag) : VSp := fun as P _ => ∃ (C : Addr) (ws : List PW), isP K C ∧ as = [.par (.ins (He.ga K "Run") []), .sh (progD C ws)] ∧ ∀ q : Addr, P (.sh .non) [.par (runO K q [tupP ws]), .sh (progD C ws)]
def c_Run_program (K : PySem.W.Frag) : VSp := fun as P _ => ∃ (q : Addr) (ds : List D) (ws : List PW), ds.getLast? = some (tupP ws) ∧ as = [.par (runO K q ds)] ∧ P (.own (rawO K ws)) as
def c_Run_many (K : PySem.W.Frag) : VSp := fun as P _ => ∃ (q : Addr) (ds : List D) (k : Nat), ds.length = k + 1 ∧ as = [.par (runO K q ds)] ∧ P (.sh (.int (k : Nat))) as
def c_Run_step (K : PySem.W.Frag) : VSp := fun as P _ => ∃ (q : Addr) (ds : List D) (m r : Tr) (p : Nat), OkP (Tr.fl m) ∧ StepP p m r ∧ ds.length ≤ 2000 ∧ as = [.par (runO K q (ds ++ [tupP (Tr.fl m)])), .sh (.int (p : Nat))] ∧ P (.sh .non) [.par (runO K q (ds ++ [tupP (Tr.fl m)] ++ [tupP (Tr.fl r)])), .sh (.int (p : Nat))]
def c_Run_back (K : PySem.W.Frag) : VSp := fun as P _ => ∃ (q : Addr) (ds : List D) (d : D), ds ≠ [] ∧ as = [.par (runO K q (ds ++ [d]))] ∧ P (.sh .non) [.par (runO K q ds)]
def c_Run_to_rest (K : PySem.W.Frag) : VSp := fun as P _ => ∃ (q : Addr) (m e : Tr) (k : Nat), OkP (Tr.fl m) ∧ m.Lin ∧ Tr.Way k m e ∧ e.Nf ∧ as = [.par (runO K q [tupP (Tr.fl m)])] ∧
  ∀ (ps : List Nat) (ds : List D), PathP ps m e → ps.length = k → ds.length = k → P (.sh (.tup (inD ps))) [.par (runO K q (ds ++ [tupP (Tr.fl e)]))]
def c__law_program (_ : PySem.W.Frag) : VSp := fun as P _ => ∃ t : Nat, as = [.par (.pot t), .sh (.int 60), .sh (.int 3)] ∧ t < 2 ^ 47 ∧
  ∀ (t' : Nat) (m : Tr), t' ≤ t + 10001000 → OkP (Tr.fl m) → m.Lin → Tr.gv m ≤ 60 → P (.sh (tupP (Tr.fl m))) [.par (.pot t'), .sh (.int 60), .sh (.int 3)]
def c__law_place (_ : PySem.W.Frag) : VSp := fun as P _ => ∃ (t w : Nat) (xs : List D), as = [.par (.pot t), .sh (.int (w : Nat)), .sh (.tup xs)] ∧ t < 2 ^ 49 ∧ 0 < xs.length ∧ xs.length < 2 ^ 40 ∧
  ∀ (t' : Nat) (d : D), t' ≤ t + 1 → d ∈ xs → P (.sh d) [.par (.pot t'), .sh (.int (w : Nat)), .sh (.tup xs)]
def c__law_row (K : PySem.W.Frag) : VSp := fun as P _ => ∃ (t w k : Nat) (q : Addr) (m e : Tr), as = [.par (.pot t), .par (runO K q [tupP (Tr.fl m)]), .sh (.int (w : Nat))] ∧ t < 2 ^ 48 ∧ OkP (Tr.fl m) ∧ m.Lin ∧ Tr.Way k m e ∧ e.Nf ∧ k ≤ 100 ∧
  ∀ (t' : Nat) (ps : List Nat) (ms : List Tr), t' ≤ t + 2000 → Trl m ps (ms ++ [e]) → ps.length = k → P (.sh (.tup [.lst (inD ps), .lst (trD (ms ++ [e]))])) [.par (.pot t'), .par (runO K q (trD (ms ++ [e]))), .sh (.int (w : Nat))]
abbrev c_law (_ : PySem.W.Frag) : VSp := lawC
abbrev s_is_integer : Stmt := top 7
abbrev N_is_integer : List Str := ["thing"]
theorem sc_is_integer : FnScope N_is_integer ["thing"] (defScope s_is_integer) := ⟨rfl, rfl, rfl, by decide +kernel, rfl, by decide +kernel, by decide +kernel⟩
/-- is_integer -/
def T_is_integer (K : PySem.W.Frag) : VTS := (vRet (vAndV (vCallB (oIsi K (Cs_isi K)) (vCons (vVar 0) (vCons (vC (.ty "int")) vNil))) (vNotV (vCallB (oIsi K (Cs_isi K)) (vCons (vVar 0) (vCons (vC (.ty "bool")) vNil))))))
abbrev s_is_within : Stmt := top 8
abbrev N_is_within : List Str := ["thing", "least", "most"]
theorem sc_is_within : FnScope N_is_within ["thing", "least", "most"] (defScope s_is_within) := ⟨rfl, rfl, rfl, by decide +kernel, rfl, by decide +kernel, by decide +kernel⟩
/-- is_within -/
def T_is_within (K : PySem.W.Frag) : VTS := (vRet (vAndV (vCall (c_is_integer K) (vCons (vFrz (vVar 0)) vNil)) (vChain opLe opLe (vVar 1) (vVar 0) (vVar 2))))
abbrev s_is_name : Stmt := top 9
abbrev N_is_name : List Str := ["thing", "sign"]
theorem sc_is_name : FnScope N_is_name ["thing"] (defScope s_is_name) := ⟨rfl, rfl, rfl, by decide +kernel, rfl, by decide +kernel, by decide +kernel⟩
/-- is_name -/
def T_is_name (K : PySem.W.Frag) : VTS := (vRet (vAndV (vCallB (oIsi K (Cs_isi K)) (vCons (vVar 0) (vCons (vC (.ty "str")) vNil))) (vAndV (vChain opLe opLe (vC (.int 1)) (vCallB oLen (vCons (vVar 0) vNil)) (vC (.int 8))) (vCallB oAll (vCons (vLc (viAny (vFrz (vVar 0))) (vgName 1) vYes (vChain opLeS opLeS (vC (.str "a")) (vVar 1) (vC (.str "z"))) [1]) vNil)))))
abbrev s_is_give : Stmt := top 12
abbrev N_is_give : List Str := ["word"]
theorem sc_is_give : FnScope N_is_give ["word"] (defScope s_is_give) := ⟨rfl, rfl, rfl, by decide +kernel, rfl, by decide +kernel, by decide +kernel⟩
/-- is_give -/
def T_is_give (K : PySem.W.Frag) : VTS := (vRet (vOp (opEq false) (vVar 0) (vC (.str "@"))))
abbrev s_is_take : Stmt := top 13
abbrev N_is_take : List Str := ["word"]
theorem sc_is_take : FnScope N_is_take ["word"] (defScope s_is_take) := ⟨rfl, rfl, rfl, by decide +kernel, rfl, by decide +kernel, by decide +kernel⟩
/-- is_take -/
def T_is_take (K : PySem.W.Frag) : VTS := (vRet (vOp (opEq false) (vSl (vVar 0) vNoPart (vPart (vC (.int 1)))) (vC (.str "/"))))
abbrev s_name_of : Stmt := top 14
abbrev N_name_of : List Str := ["word"]
theorem sc_name_of : FnScope N_name_of ["word"] (defScope s_name_of) := ⟨rfl, rfl, rfl, by decide +kernel, rfl, by decide +kernel, by decide +kernel⟩
/-- name_of -/
def T_name_of (K : PySem.W.Frag) : VTS := (vRet (vIf (vB (vCall (c_is_take K) (vCons (vFrz (vVar 0)) vNil))) (vSl (vVar 0) (vPart (vC (.int 1))) vNoPart) (vVar 0)))
abbrev s_is_word : Stmt := top 15
abbrev N_is_word : List Str := ["thing"]
theorem sc_is_word : FnScope N_is_word ["thing"] (defScope s_is_word) := ⟨rfl, rfl, rfl, by decide +kernel, rfl, by decide +kernel, by decide +kernel⟩
/-- is_word -/
def T_is_word (K : PySem.W.Frag) : VTS := (vSeq (vIfS (vNot (vB (vCallB (oIsi K (Cs_isi K)) (vCons (vVar 0) (vCons (vC (.ty "str")) vNil)))))
    (vRet (vC (.bl false)))
    vNext)
    (vRet (vOrV (vOp (opEq false) (vVar 0) (vC (.str "@"))) (vOrV (vCall (c_is_name K) (vCons (vFrz (vVar 0)) vNil)) (vAndV (vOp (opEq false) (vSl (vVar 0) vNoPart (vPart (vC (.int 1)))) (vC (.str "/"))) (vCall (c_is_name K) (vCons (vSl (vVar 0) (vPart (vC (.int 1))) vNoPart) vNil)))))))
abbrev s_asked_by : Stmt := top 16
abbrev N_asked_by : List Str := ["word"]
theorem sc_asked_by : FnScope N_asked_by ["word"] (defScope s_asked_by) := ⟨rfl, rfl, rfl, by decide +kernel, rfl, by decide +kernel, by decide +kernel⟩
/-- asked_by -/
def T_asked_by (K : PySem.W.Frag) : VTS := (vSeq (vIfS (vB (vCall (c_is_give K) (vCons (vFrz (vVar 0)) vNil)))
    (vRet (vC (.int 2)))
    vNext)
    (vRet (vIf (vB (vCall (c_is_take K) (vCons (vFrz (vVar 0)) vNil))) (vC (.int 1)) (vC (.int 0)))))
abbrev s_wrong_end : Stmt := top 17
abbrev N_wrong_end : List Str := ["words", "asked", "place", "word"]
theorem sc_wrong_end : FnScope N_wrong_end ["words"] (defScope s_wrong_end) := ⟨rfl, rfl, rfl, by decide +kernel, rfl, by decide +kernel, by decide +kernel⟩
/-- wrong_end -/
def T_wrong_end (K : PySem.W.Frag) : VTS := (vSeq (vAsg 1 (vC (.int 1)))
    (vSeq (vFor (viEnum (vCons (vFrz (vVar 0)) vNil)) (vgTup 2 (vgCons (vgName 2) (vgCons (vgName 3) vgNil)))
    (vSeq (vIfS (vB (vOp (opEq false) (vVar 1) (vC (.int 0))))
    (vRet (vVar 2))
    vNext)
    (vAug 1 (vOp opSub (vCall (c_asked_by K) (vCons (vFrz (vVar 3)) vNil)) (vC (.int 1))) opAddI)))
    (vRet (vIf (vB (vOp opGt (vVar 1) (vC (.int 0)))) (vCallB oLen (vCons (vVar 0) vNil)) (vC .non)))))
abbrev s_wrong_second : Stmt := top 18
abbrev N_wrong_second : List Str := ["words", "met", "place", "word"]
theorem sc_wrong_second : FnScope N_wrong_second ["words"] (defScope s_wrong_second) := ⟨rfl, rfl, rfl, by decide +kernel, rfl, by decide +kernel, by decide +kernel⟩
/-- wrong_second -/
def T_wrong_second (K : PySem.W.Frag) : VTS := (vSeq (vAsg 1 vDic0)
    (vSeq (vFor (viEnum (vCons (vFrz (vVar 0)) vNil)) (vgTup 2 (vgCons (vgName 2) (vgCons (vgName 3) vgNil)))
    (vIfS (vNot (vB (vCall (c_is_give K) (vCons (vFrz (vVar 3)) vNil))))
    (vSeq (vIfS (vB (vOp (opIn false) (vVar 3) (vVar 1)))
    (vRet (vVar 2))
    vNext)
    (vAsgG (vC (.bl true)) (vgSub 1 (vVar 3))))
    vNext))
    (vRet (vC .non))))
abbrev s_raw_ends : Stmt := top 19
abbrev N_raw_ends : List Str := ["words", "found", "whole", "place", "end", "turn"]
theorem sc_raw_ends : FnScope N_raw_ends ["words"] (defScope s_raw_ends) := ⟨rfl, rfl, rfl, by decide +kernel, rfl, by decide +kernel, by decide +kernel⟩
/-- raw_ends -/
def T_raw_ends (K : PySem.W.Frag) : VTS := (vSeq (vAsg 1 (vOp opMul (vLst (vCons (vC (.int 0)) vNil)) (vCallB oLen (vCons (vVar 0) vNil))))
    (vSeq (vAsg 2 (vLst vNil))
    (vSeq (vFor (viRng3 (vCons (vOp opSub (vCallB oLen (vCons (vVar 0) vNil)) (vC (.int 1))) (vCons (vNeg (vC (.int 1))) (vCons (vNeg (vC (.int 1))) vNil)))) (vgName 3)
    (vSeq (vAsg 4 (vOp opAdd (vVar 3) (vC (.int 1))))
    (vSeq (vFor (viRng1 (vCons (vFrz (vCall (c_asked_by K) (vCons (vOp opIx (vVar 0) (vVar 3)) vNil))) vNil)) (vgName 5)
    (vAsg 4 (vL0 oPop0 (vVar 2))))
    (vSeq (vAsgG (vFrz (vVar 4)) (vgSub 1 (vVar 3)))
    (vDrop (vLm oApp (vVar 2) (vCons (vFrz (vVar 4)) vNil)))))))
    (vRet (vCallB oTup (vCons (vVar 1) vNil))))))
abbrev s_uses : Stmt := top 20
abbrev N_uses : List Str := ["words", "place", "word"]
theorem sc_uses : FnScope N_uses ["words"] (defScope s_uses) := ⟨rfl, rfl, rfl, by decide +kernel, rfl, by decide +kernel, by decide +kernel⟩
/-- uses -/
def T_uses (K : PySem.W.Frag) : VTS := (vRet (vDc (viEnum (vCons (vFrz (vVar 0)) vNil)) (vgTup 2 (vgCons (vgName 1) (vgCons (vgName 2) vgNil))) (vAnd (vNot (vB (vCall (c_is_give K) (vCons (vFrz (vVar 2)) vNil)))) (vNot (vB (vCall (c_is_take K) (vCons (vFrz (vVar 2)) vNil))))) (vFrz (vVar 2)) (vFrz (vVar 1)) [1, 2]))
abbrev s_wrong_take : Stmt := top 21
abbrev N_wrong_take : List Str := ["words", "ends", "there", "place", "word"]
theorem sc_wrong_take : FnScope N_wrong_take ["words"] (defScope s_wrong_take) := ⟨rfl, rfl, rfl, by decide +kernel, rfl, by decide +kernel, by decide +kernel⟩
/-- wrong_take -/
def T_wrong_take (K : PySem.W.Frag) : VTS := (vSeq (vAsg 1 (vCall (c_raw_ends K) (vCons (vFrz (vVar 0)) vNil)))
    (vSeq (vAsg 2 (vCall (c_uses K) (vCons (vFrz (vVar 0)) vNil)))
    (vSeq (vFor (viEnum (vCons (vFrz (vVar 0)) vNil)) (vgTup 2 (vgCons (vgName 3) (vgCons (vgName 4) vgNil)))
    (vIfS (vAnd (vB (vCall (c_is_take K) (vCons (vFrz (vVar 4)) vNil))) (vNot (vB (vChain opLt opLt (vVar 3) (vGet2 (vVar 2) (vCall (c_name_of K) (vCons (vFrz (vVar 4)) vNil)) (vNeg (vC (.int 1)))) (vOp opIx (vVar 1) (vVar 3))))))
    (vRet (vVar 3))
    vNext))
    (vRet (vC .non)))))
abbrev s_fault_in : Stmt := top 22
abbrev N_fault_in : List Str := ["words", "place", "word", "wrong", "found"]
theorem sc_fault_in : FnScope N_fault_in ["words"] (defScope s_fault_in) := ⟨rfl, rfl, rfl, by decide +kernel, rfl, by decide +kernel, by decide +kernel⟩
/-- fault_in -/
def T_fault_in (K : PySem.W.Frag) : VTS := (vSeq (vFor (viEnum (vCons (vFrz (vVar 0)) vNil)) (vgTup 2 (vgCons (vgName 1) (vgCons (vgName 2) vgNil)))
    (vIfS (vNot (vB (vCall (c_is_word K) (vCons (vFrz (vVar 2)) vNil))))
    (vRet (vVar 1))
    vNext))
    (vSeq (vFor (viAny (vTup (vCons (vC (.ref (He.ga K "wrong_end"))) (vCons (vC (.ref (He.ga K "wrong_second"))) (vCons (vC (.ref (He.ga K "wrong_take"))) vNil))))) (vgName 3)
    (vSeq (vAsg 4 (vCallL 3 [(He.ga K "wrong_end", c_wrong_end K), (He.ga K "wrong_second", c_wrong_second K), (He.ga K "wrong_take", c_wrong_take K)] (vCons (vFrz (vVar 0)) vNil)))
    (vIfS (vB (vOp (opIsN true) (vVar 4) (vC .non)))
    (vRet (vVar 4))
    vNext)))
    (vRet (vC .non))))
abbrev s_Program___init__ : Stmt := (clsBody (top 23)).getD 0 (.Pass ⟨0, 0, 0, 0⟩)
abbrev N_Program___init__ : List Str := ["self", "words", "fault"]
theorem sc_Program___init__ : FnScope N_Program___init__ ["self", "words"] (defScope s_Program___init__) := ⟨rfl, rfl, rfl, by decide +kernel, rfl, by decide +kernel, by decide +kernel⟩
/-- Program.__init__ -/
def T_Program___init__ (K : PySem.W.Frag) : VTS := (vSeq (vIfS (vOr (vNot (vB (vCallB (oIsi K (Cs_isi K)) (vCons (vVar 1) (vCons (vC (.ty "tuple")) vNil))))) (vNot (vB (vChain opLe opLe (vC (.int 1)) (vCallB oLen (vCons (vVar 1) vNil)) (vC (.int 1000))))))
    vNever
    vNext)
    (vSeq (vAsg 2 (vCall (c_fault_in K) (vCons (vFrz (vVar 1)) vNil)))
    (vSeq (vIfS (vB (vOp (opIsN true) (vVar 2) (vC .non)))
    vNever
    vNext)
    (vFSet (Cs_words K) (vVar 0) (vFrz (vVar 1)) "words"))))
abbrev s_Program___eq__ : Stmt := (clsBody (top 23)).getD 1 (.Pass ⟨0, 0, 0, 0⟩)
abbrev N_Program___eq__ : List Str := ["self", "other"]
theorem sc_Program___eq__ : FnScope N_Program___eq__ ["self", "other"] (defScope s_Program___eq__) := ⟨rfl, rfl, rfl, by decide +kernel, rfl, by decide +kernel, by decide +kernel⟩
/-- Program.__eq__ -/
def T_Program___eq__ (K : PySem.W.Frag) : VTS := (vRet (vAndV (vCallB (oIsi K (Cs_isi K)) (vCons (vVar 1) (vCons (vC (.ref (He.ga K "Program"))) vNil))) (vOp (opEq false) (vFldC (Cs_words K) (vVar 0) "words") (vFldC (Cs_words K) (vVar 1) "words"))))
abbrev s_RawProgram___init__ : Stmt := (clsBody (top 24)).getD 0 (.Pass ⟨0, 0, 0, 0⟩)
abbrev N_RawProgram___init__ : List Str := ["self", "words"]
theorem sc_RawProgram___init__ : FnScope N_RawProgram___init__ ["self", "words"] (defScope s_RawProgram___init__) := ⟨rfl, rfl, rfl, by decide +kernel, rfl, by decide +kernel, by decide +kernel⟩
/-- RawProgram.__init__ -/
def T_RawProgram___init__ (K : PySem.W.Frag) : VTS := (vFSet (Cs_words K) (vVar 0) (vFrz (vCallB oTup (vCons (vVar 1) vNil))) "words")
abbrev s_givens : Stmt := top 25
abbrev N_givens : List Str := ["program", "word"]
theorem sc_givens : FnScope N_givens ["program"] (defScope s_givens) := ⟨rfl, rfl, rfl, by decide +kernel, rfl, by decide +kernel, by decide +kernel⟩
/-- givens -/
def T_givens (K : PySem.W.Frag) : VTS := (vRet (vCallB oLen (vCons (vLc (viAny (vFldC (Cs_words K) (vVar 0) "words")) (vgName 1) (vB (vCall (c_is_give K) (vCons (vFrz (vVar 1)) vNil))) (vFrz (vVar 1)) [1]) vNil)))
abbrev s_is_step : Stmt := top 27
abbrev N_is_step : List Str := ["words", "place"]
theorem sc_is_step : FnScope N_is_step ["words", "place"] (defScope s_is_step) := ⟨rfl, rfl, rfl, by decide +kernel, rfl, by decide +kernel, by decide +kernel⟩
/-- is_step -/
def T_is_step (K : PySem.W.Frag) : VTS := (vRet (vAndV (vCall (c_is_give K) (vCons (vOp opIx (vVar 0) (vVar 1)) vNil)) (vCall (c_is_take K) (vCons (vOp opIx (vVar 0) (vOp opAdd (vVar 1) (vC (.int 1)))) vNil))))
abbrev s_raw_steps : Stmt := top 28
abbrev N_raw_steps : List Str := ["words", "place"]
theorem sc_raw_steps : FnScope N_raw_steps ["words"] (defScope s_raw_steps) := ⟨rfl, rfl, rfl, by decide +kernel, rfl, by decide +kernel, by decide +kernel⟩
/-- raw_steps -/
def T_raw_steps (K : PySem.W.Frag) : VTS := (vRet (vLc (viRng1 (vCons (vOp opSub (vCallB oLen (vCons (vVar 0) vNil)) (vC (.int 1))) vNil)) (vgName 1) (vB (vCall (c_is_step K) (vCons (vFrz (vVar 0)) (vCons (vFrz (vVar 1)) vNil)))) (vFrz (vVar 1)) [1]))
abbrev s_steps : Stmt := top 29
abbrev N_steps : List Str := ["program"]
theorem sc_steps : FnScope N_steps ["program"] (defScope s_steps) := ⟨rfl, rfl, rfl, by decide +kernel, rfl, by decide +kernel, by decide +kernel⟩
/-- steps -/
def T_steps (K : PySem.W.Frag) : VTS := (vRet (vCallB oTup (vCons (vFrz (vCall (c_raw_steps K) (vCons (vFldC (Cs_words K) (vVar 0) "words") vNil))) vNil)))
abbrev s_raw_stepped : Stmt := top 30
abbrev N_raw_stepped : List Str := ["words", "place", "found", "body", "behind", "end", "use"]
theorem sc_raw_stepped : FnScope N_raw_stepped ["words", "place"] (defScope s_raw_stepped) := ⟨rfl, rfl, rfl, by decide +kernel, rfl, by decide +kernel, by decide +kernel⟩
/-- raw_stepped -/
def T_raw_stepped (K : PySem.W.Frag) : VTS := (vSeq (vAsg 2 (vCall (c_raw_ends K) (vCons (vFrz (vVar 0)) vNil)))
    (vSeq (vAsg 3 (vOp opAdd (vVar 1) (vC (.int 2))))
    (vSeq (vAsg 4 (vOp opIx (vVar 2) (vVar 3)))
    (vSeq (vAsg 5 (vOp opIx (vVar 2) (vVar 1)))
    (vSeq (vAsg 6 (vOp opIx (vFrz (vCall (c_uses K) (vCons (vFrz (vVar 0)) vNil))) (vCall (c_name_of K) (vCons (vOp opIx (vVar 0) (vOp opAdd (vVar 1) (vC (.int 1)))) vNil))))
    (vRet (vOp opAdd (vOp opAdd (vOp opAdd (vOp opAdd (vSl (vVar 0) vNoPart (vPart (vVar 1))) (vSl (vVar 0) (vPart (vVar 3)) (vPart (vVar 6)))) (vSl (vVar 0) (vPart (vVar 4)) (vPart (vVar 5)))) (vSl (vVar 0) (vPart (vOp opAdd (vVar 6) (vC (.int 1)))) (vPart (vVar 4)))) (vSl (vVar 0) (vPart (vVar 5)) vNoPart))))))))
abbrev s_check_step : Stmt := top 31
abbrev N_check_step : List Str := ["words", "thing"]
theorem sc_check_step : FnScope N_check_step ["words", "thing"] (defScope s_check_step) := ⟨rfl, rfl, rfl, by decide +kernel, rfl, by decide +kernel, by decide +kernel⟩
/-- check_step -/
def T_check_step (K : PySem.W.Frag) : VTS := (vIfS (vOr (vNot (vB (vCall (c_is_within K) (vCons (vFrz (vVar 1)) (vCons (vC (.int 0)) (vCons (vOp opSub (vCallB oLen (vCons (vVar 0) vNil)) (vC (.int 2))) vNil)))))) (vNot (vB (vCall (c_is_step K) (vCons (vFrz (vVar 0)) (vCons (vFrz (vVar 1)) vNil))))))
    vNever
    vNext)
abbrev s_way_to_rest : Stmt := top 32
abbrev N_way_to_rest : List Str := ["words", "way", "found"]
theorem sc_way_to_rest : FnScope N_way_to_rest ["words"] (defScope s_way_to_rest) := ⟨rfl, rfl, rfl, by decide +kernel, rfl, by decide +kernel, by decide +kernel⟩
/-- way_to_rest -/
def T_way_to_rest (K : PySem.W.Frag) : VTS := (vSeq (vAsg 1 (vLst vNil))
    (vSeq (vAsg 2 (vCall (c_raw_steps K) (vCons (vFrz (vVar 0)) vNil)))
    (vSeq (vWhile (vB (vOp opGt (vFrz (vCallB oLen (vCons (vVar 2) vNil))) (vC (.int 0))))
    (vSeq (vDrop (vLm oApp (vVar 1) (vCons (vOp opIx (vVar 2) (vC (.int 0))) vNil)))
    (vSeq (vAsg 0 (vCall (c_raw_stepped K) (vCons (vFrz (vVar 0)) (vCons (vOp opIx (vVar 2) (vC (.int 0))) vNil))))
    (vAsg 2 (vCall (c_raw_steps K) (vCons (vFrz (vVar 0)) vNil))))))
    (vRet (vTup (vCons (vFrz (vCallB oTup (vCons (vVar 1) vNil))) (vCons (vFrz (vVar 0)) vNil)))))))
abbrev s_raw_rest : Stmt := top 33
abbrev N_raw_rest : List Str := ["words"]
theorem sc_raw_rest : FnScope N_raw_rest ["words"] (defScope s_raw_rest) := ⟨rfl, rfl, rfl, by decide +kernel, rfl, by decide +kernel, by decide +kernel⟩
/-- raw_rest -/
def T_raw_rest (K : PySem.W.Frag) : VTS := (vRet (vOp opIx (vFrz (vCall (c_way_to_rest K) (vCons (vFrz (vVar 0)) vNil))) (vC (.int 1))))
abbrev s_rest : Stmt := top 34
abbrev N_rest : List Str := ["program"]
theorem sc_rest : FnScope N_rest ["program"] (defScope s_rest) := ⟨rfl, rfl, rfl, by decide +kernel, rfl, by decide +kernel, by decide +kernel⟩
/-- rest -/
def T_rest (K : PySem.W.Frag) : VTS := (vRet (vMake (He.ga K "RawProgram") (c_RawProgram___init__ K) (vCons (vFrz (vCall (c_raw_rest K) (vCons (vFldC (Cs_words K) (vVar 0) "words") vNil))) vNil)))
abbrev s_many_steps : Stmt := top 35
abbrev N_many_steps : List Str := ["program"]
theorem sc_many_steps : FnScope N_many_steps ["program"] (defScope s_many_steps) := ⟨rfl, rfl, rfl, by decide +kernel, rfl, by decide +kernel, by decide +kernel⟩
/-- many_steps -/
def T_many_steps (K : PySem.W.Frag) : VTS := (vRet (vOp opSub (vCall (c_givens K) (vCons (vFrz (vVar 0)) vNil)) (vCall (c_givens K) (vCons (vFrz (vCall (c_rest K) (vCons (vFrz (vVar 0)) vNil))) vNil))))
abbrev s_is_way : Stmt := top 36
abbrev N_is_way : List Str := ["program", "other", "thing", "words", "place"]
theorem sc_is_way : FnScope N_is_way ["program", "other", "thing"] (defScope s_is_way) := ⟨rfl, rfl, rfl, by decide +kernel, rfl, by decide +kernel, by decide +kernel⟩
/-- is_way -/
def T_is_way (K : PySem.W.Frag) : VTS := (vSeq (vIfS (vOr (vNot (vB (vCallB (oIsi K (Cs_isi K)) (vCons (vVar 2) (vCons (vC (.ty "tuple")) vNil))))) (vNot (vB (vCallB (oIsi K (Cs_isi K)) (vCons (vVar 1) (vCons (vC (.ref (He.ga K "Program"))) vNil))))))
    (vRet (vC (.bl false)))
    vNext)
    (vSeq (vAsg 3 (vFldC (Cs_words K) (vVar 0) "words"))
    (vSeq (vFor (viAny (vFrz (vVar 2))) (vgName 4)
    (vSeq (vIfS (vOr (vNot (vB (vCall (c_is_within K) (vCons (vFrz (vVar 4)) (vCons (vC (.int 0)) (vCons (vOp opSub (vCallB oLen (vCons (vVar 3) vNil)) (vC (.int 2))) vNil)))))) (vNot (vB (vCall (c_is_step K) (vCons (vFrz (vVar 3)) (vCons (vFrz (vVar 4)) vNil))))))
    (vRet (vC (.bl false)))
    vNext)
    (vAsg 3 (vCall (c_raw_stepped K) (vCons (vFrz (vVar 3)) (vCons (vFrz (vVar 4)) vNil))))))
    (vRet (vOp (opEq false) (vVar 3) (vFldC (Cs_words K) (vVar 1) "words"))))))
abbrev s_Run___init__ : Stmt := (clsBody (top 38)).getD 0 (.Pass ⟨0, 0, 0, 0⟩)
abbrev N_Run___init__ : List Str := ["self", "program"]
theorem sc_Run___init__ : FnScope N_Run___init__ ["self", "program"] (defScope s_Run___init__) := ⟨rfl, rfl, rfl, by decide +kernel, rfl, by decide +kernel, by decide +kernel⟩
/-- Run.__init__ -/
def T_Run___init__ (K : PySem.W.Frag) : VTS := (vFP (Cs_past K) 0 (vLst (vCons (vFldC (Cs_words K) (vVar 1) "words") vNil)) "past")
abbrev s_Run_program : Stmt := (clsBody (top 38)).getD 1 (.Pass ⟨0, 0, 0, 0⟩)
abbrev N_Run_program : List Str := ["self"]
theorem sc_Run_program : FnScope N_Run_program ["self"] (defScope s_Run_program) := ⟨rfl, rfl, rfl, by decide +kernel, rfl, by decide +kernel, by decide +kernel⟩
/-- Run.program -/
def T_Run_program (K : PySem.W.Frag) : VTS := (vRet (vMake (He.ga K "RawProgram") (c_RawProgram___init__ K) (vCons (vOp opIx (vFO (Cs_past K) (vVar 0) "past") (vNeg (vC (.int 1)))) vNil)))
abbrev s_Run_many : Stmt := (clsBody (top 38)).getD 2 (.Pass ⟨0, 0, 0, 0⟩)
abbrev N_Run_many : List Str := ["self"]
theorem sc_Run_many : FnScope N_Run_many ["self"] (defScope s_Run_many) := ⟨rfl, rfl, rfl, by decide +kernel, rfl, by decide +kernel, by decide +kernel⟩
/-- Run.many -/
def T_Run_many (K : PySem.W.Frag) : VTS := (vRet (vOp opSub (vCallB oLen (vCons (vFO (Cs_past K) (vVar 0) "past") vNil)) (vC (.int 1))))
abbrev s_Run_step : Stmt := (clsBody (top 38)).getD 3 (.Pass ⟨0, 0, 0, 0⟩)
abbrev N_Run_step : List Str := ["self", "place", "words"]
theorem sc_Run_step : FnScope N_Run_step ["self", "place"] (defScope s_Run_step) := ⟨rfl, rfl, rfl, by decide +kernel, rfl, by decide +kernel, by decide +kernel⟩
/-- Run.step -/
def T_Run_step (K : PySem.W.Frag) : VTS := (vSeq (vAsg 2 (vOp opIx (vFO (Cs_past K) (vVar 0) "past") (vNeg (vC (.int 1)))))
    (vSeq (vDrop (vCall (c_check_step K) (vCons (vFrz (vVar 2)) (vCons (vFrz (vVar 1)) vNil))))
    (vDrop (vLF oApp (vFO (Cs_past K) (vVar 0) "past") (vCons (vFrz (vCall (c_raw_stepped K) (vCons (vFrz (vVar 2)) (vCons (vFrz (vVar 1)) vNil)))) vNil)))))
abbrev s_Run_back : Stmt := (clsBody (top 38)).getD 4 (.Pass ⟨0, 0, 0, 0⟩)
abbrev N_Run_back : List Str := ["self"]
theorem sc_Run_back : FnScope N_Run_back ["self"] (defScope s_Run_back) := ⟨rfl, rfl, rfl, by decide +kernel, rfl, by decide +kernel, by decide +kernel⟩
/-- Run.back -/
def T_Run_back (K : PySem.W.Frag) : VTS := (vSeq (vIfS (vB (vOp (opEq false) (vFrz (vCallB oLen (vCons (vFO (Cs_past K) (vVar 0) "past") vNil))) (vC (.int 1))))
    vNever
    vNext)
    (vDrop (vLF0 oPop0 (vFO (Cs_past K) (vVar 0) "past"))))
abbrev s_Run_to_rest : Stmt := (clsBody (top 38)).getD 5 (.Pass ⟨0, 0, 0, 0⟩)
abbrev N_Run_to_rest : List Str := ["self", "way", "places"]
theorem sc_Run_to_rest : FnScope N_Run_to_rest ["self"] (defScope s_Run_to_rest) := ⟨rfl, rfl, rfl, by decide +kernel, rfl, by decide +kernel, by decide +kernel⟩
/-- Run.to_rest -/
def T_Run_to_rest (K : PySem.W.Frag) : VTS := (vSeq (vAsg 1 (vLst vNil))
    (vSeq (vAsg 2 (vCall (c_raw_steps K) (vCons (vOp opIx (vFO (Cs_past K) (vVar 0) "past") (vNeg (vC (.int 1)))) vNil)))
    (vSeq (vWhile (vB (vOp opGt (vFrz (vCallB oLen (vCons (vVar 2) vNil))) (vC (.int 0))))
    (vSeq (vDrop (vMeth (He.ga K "Run") "step" (c_Run_step K) (vVar 0) (vCons (vOp opIx (vVar 2) (vC (.int 0))) vNil)))
    (vSeq (vDrop (vLm oApp (vVar 1) (vCons (vOp opIx (vVar 2) (vC (.int 0))) vNil)))
    (vAsg 2 (vCall (c_raw_steps K) (vCons (vOp opIx (vFO (Cs_past K) (vVar 0) "past") (vNeg (vC (.int 1)))) vNil))))))
    (vRet (vCallB oTup (vCons (vVar 1) vNil))))))
abbrev s__law_pot : Stmt := top 40
abbrev N__law_pot : List Str := ["script", "cells", "greats", "smalls", "item"]
theorem sc__law_pot : FnScope N__law_pot ["script"] (defScope s__law_pot) := ⟨rfl, rfl, rfl, by decide +kernel, rfl, by decide +kernel, by decide +kernel⟩
/-- _law_pot -/
def T__law_pot (K : PySem.W.Frag) : VTS := (vSeq (vAsg 1 (vLc (viAny (vSl (vVar 0) vNoPart (vPart (vC (.int 63))))) (vgName 4) vYes (vFrz (vCallB oInt (vCons (vVar 4) vNil))) [4]))
    (vSeq (vAsg 2 (vLc (viAny (vFrz (vVar 1))) (vgName 4) (vB (vOp opGe (vFrz (vCallB oAbs (vCons (vVar 4) vNil))) (vOp opPow (vC (.int 10)) (vC (.int 18))))) (vFrz (vCallB oAbs (vCons (vVar 4) vNil))) [4]))
    (vSeq (vAsg 3 (vOp opAdd (vLc (viAny (vFrz (vVar 1))) (vgName 4) (vB (vOp opLt (vFrz (vCallB oAbs (vCons (vVar 4) vNil))) (vOp opPow (vC (.int 10)) (vC (.int 18))))) (vOp opMod (vCallB oInt (vCons (vVar 4) vNil)) (vC (.int 1000000007))) [4]) (vLst (vCons (vOp opAdd (vCallB oLen (vCons (vVar 1) vNil)) (vC (.int 1))) vNil))))
    (vRet (vPot 2 3 (vOp opMod (vCallB oInt (vCons (vFrz (vCallB oSum (vCons (vVar 3) vNil))) vNil)) (vC (.int 999983))))))))
abbrev s__law_draw : Stmt := top 41
abbrev N__law_draw : List Str := ["pot", "many", "turn", "number", "seed"]
theorem sc__law_draw : FnScope N__law_draw ["pot", "many"] (defScope s__law_draw) := ⟨rfl, rfl, rfl, by decide +kernel, rfl, by decide +kernel, by decide +kernel⟩
/-- _law_draw -/
def T__law_draw (K : PySem.W.Frag) : VTS := (vSeq (vAsg 2 (vOp opIx (vVar 0) (vC (.int 2))))
    (vSeq (vAsgG (vOp opAdd (vVar 2) (vC (.int 1))) (vgSub 0 (vC (.int 2))))
    (vSeq (vIfS (vB (vOp opGt (vCallB oLen (vCons (vOp opIx (vVar 0) (vC (.int 0))) vNil)) (vC (.int 0))))
    (vSeq (vAsg 3 (vOp opIx (vOp opIx (vVar 0) (vC (.int 0))) (vC (.int 0))))
    (vSeq (vAsgG (vOp opFdiv (vVar 3) (vVar 1)) vgNo)
    (vSeq (vIfS (vB (vOp opLt (vVar 3) (vVar 1)))
    (vDrop (vLx oPop1 (vOp opIx (vVar 0) (vC (.int 0))) (vCons (vC (.int 0)) vNil)))
    vNext)
    (vRet (vOp opMod (vCallB oInt (vCons (vVar 3) vNil)) (vVar 1))))))
    vNext)
    (vSeq (vAsg 4 (vOp opAdd (vOp opAdd (vOp opMul (vOp opIx (vOp opIx (vVar 0) (vC (.int 1))) (vOp opMod (vCallB oInt (vCons (vVar 2) vNil)) (vCallB oLen (vCons (vOp opIx (vVar 0) (vC (.int 1))) vNil)))) (vC (.int 7919))) (vOp opMul (vC (.int 104729)) (vVar 2))) (vOp opMul (vOp opIx (vVar 0) (vC (.int 3))) (vC (.int 31)))))
    (vSeq (vAsg 3 (vOp opMod (vCallB oInt (vCons (vOp opAdd (vOp opMul (vVar 4) (vC (.int 48271))) (vC (.int 11))) vNil)) (vC (.int 2147483647))))
    (vSeq (vAsg 3 (vOp opMod (vCallB oInt (vCons (vOp opMul (vVar 3) (vOp opAdd (vOp opFdiv (vVar 3) (vC (.int 1009))) (vC (.int 69621)))) vNil)) (vC (.int 2147483629))))
    (vSeq (vAsg 3 (vOp opMod (vCallB oInt (vCons (vOp opAdd (vOp opMul (vVar 3) (vOp opAdd (vOp opFdiv (vVar 3) (vC (.int 2003))) (vC (.int 40692)))) (vVar 2)) vNil)) (vC (.int 2147483399))))
    (vRet (vOp opMod (vCallB oInt (vCons (vOp opFdiv (vVar 3) (vC (.int 64))) vNil)) (vVar 1))))))))))
abbrev s__law_any : Stmt := top 42
abbrev N__law_any : List Str := ["pot", "items"]
theorem sc__law_any : FnScope N__law_any ["pot", "items"] (defScope s__law_any) := ⟨rfl, rfl, rfl, by decide +kernel, rfl, by decide +kernel, by decide +kernel⟩
/-- _law_any -/
def T__law_any (K : PySem.W.Frag) : VTS := (vRet (vOp opIx (vVar 1) (vCall (c__law_draw K) (vCons (vVar 0) (vCons (vFrz (vCallB oLen (vCons (vVar 1) vNil))) vNil)))))
abbrev s__law_letters : Stmt := top 43
abbrev N__law_letters : List Str := ["number", "found", "left", "turn"]
theorem sc__law_letters : FnScope N__law_letters ["number"] (defScope s__law_letters) := ⟨rfl, rfl, rfl, by decide +kernel, rfl, by decide +kernel, by decide +kernel⟩
/-- _law_letters -/
def T__law_letters (K : PySem.W.Frag) : VTS := (vSeq (vAsg 1 (vC (.str "")))
    (vSeq (vAsg 2 (vOp opAdd (vVar 0) (vC (.int 1))))
    (vSeq (vFor (viRng1 (vCons (vC (.int 9)) vNil)) (vgName 3)
    (vIfS (vB (vOp opGt (vVar 2) (vC (.int 0))))
    (vSeq (vAsg 2 (vOp opSub (vVar 2) (vC (.int 1))))
    (vSeq (vAsg 1 (vOp opAdd (vOp opIx (vC (.str "abcdefghijklmnopqrstuvwxyz")) (vOp opMod (vCallB oInt (vCons (vVar 2) vNil)) (vC (.int 26)))) (vVar 1)))
    (vAsg 2 (vOp opFdiv (vVar 2) (vC (.int 26))))))
    vNext))
    (vRet (vVar 1)))))
abbrev s__law_fresh : Stmt := top 44
abbrev N__law_fresh : List Str := ["pot", "used", "start", "name", "turn"]
theorem sc__law_fresh : FnScope N__law_fresh ["pot", "used"] (defScope s__law_fresh) := ⟨rfl, rfl, rfl, by decide +kernel, rfl, by decide +kernel, by decide +kernel⟩
/-- _law_fresh -/
def T__law_fresh (K : PySem.W.Frag) : VTS := (vSeq (vAsg 2 (vCall (c__law_draw K) (vCons (vVar 0) (vCons (vC (.int 30)) vNil))))
    (vSeq (vIfS (vB (vOp (opEq false) (vFrz (vCall (c__law_draw K) (vCons (vVar 0) (vCons (vC (.int 2)) vNil)))) (vC (.int 0))))
    (vAsg 2 (vCall (c__law_draw K) (vCons (vVar 0) (vCons (vC (.int 217180140000)) vNil))))
    vNext)
    (vSeq (vAsg 3 (vC (.str "")))
    (vSeq (vFor (viRng1 (vCons (vOp opAdd (vCallB oLen (vCons (vVar 1) vNil)) (vC (.int 1))) vNil)) (vgName 4)
    (vSeq (vAsg 3 (vCall (c__law_letters K) (vCons (vOp opAdd (vVar 2) (vVar 4)) vNil)))
    (vIfS (vB (vOp (opIn true) (vVar 3) (vVar 1)))
    vBreak
    vNext)))
    (vSeq (vDrop (vLm oApp (vVar 1) (vCons (vFrz (vVar 3)) vNil)))
    (vRet (vVar 3)))))))
abbrev s__law_mixed : Stmt := top 45
abbrev N__law_mixed : List Str := ["pot", "items", "line", "at", "other"]
theorem sc__law_mixed : FnScope N__law_mixed ["pot", "items"] (defScope s__law_mixed) := ⟨rfl, rfl, rfl, by decide +kernel, rfl, by decide +kernel, by decide +kernel⟩
/-- _law_mixed -/
def T__law_mixed (K : PySem.W.Frag) : VTS := (vSeq (vAsg 2 (vCallB oListU (vCons (vVar 1) vNil)))
    (vSeq (vFor (viRng1 (vCons (vFrz (vCallB oLen (vCons (vVar 2) vNil))) vNil)) (vgName 3)
    (vSeq (vAsg 4 (vCall (c__law_draw K) (vCons (vVar 0) (vCons (vFrz (vCallB oLen (vCons (vVar 2) vNil))) vNil))))
    (vAsgG (vTup (vCons (vOp opIx (vVar 2) (vVar 4)) (vCons (vOp opIx (vVar 2) (vVar 3)) vNil))) (vgTup 2 (vgCons (vgSub 2 (vVar 3)) (vgCons (vgSub 2 (vVar 4)) vgNil))))))
    (vRet (vVar 2))))
abbrev s__law_words : Stmt := top 46
abbrev N__law_words : List Str := ["pot", "names", "gives", "used", "found", "waiting", "turn", "row", "many", "name", "least", "cut", "low", "more"]
theorem sc__law_words : FnScope N__law_words ["pot", "names", "gives", "used"] (defScope s__law_words) := ⟨rfl, rfl, rfl, by decide +kernel, rfl, by decide +kernel, by decide +kernel⟩
/-- _law_words -/
def T__law_words (K : PySem.W.Frag) : VTS := (vSeq (vAsg 4 (vLst vNil))
    (vSeq (vAsg 5 (vLst (vCons (vTup (vCons (vFrz (vCallB oListU (vCons (vVar 1) vNil))) (vCons (vFrz (vVar 2)) vNil))) vNil)))
    (vSeq (vFor (viRng1 (vCons (vOp opAdd (vOp opMul (vC (.int 3)) (vVar 2)) (vC (.int 2))) vNil)) (vgName 6)
    (vSeq (vIfS (vB (vOp (opEq false) (vFrz (vCallB oLen (vCons (vVar 5) vNil))) (vC (.int 0))))
    vBreak
    vNext)
    (vSeq (vAsgG (vFrz (vL0 oPop0 (vVar 5))) (vgTup 2 (vgCons (vgName 7) (vgCons (vgName 8) vgNil))))
    (vIfS (vAnd (vB (vOp (opEq false) (vVar 8) (vC (.int 0)))) (vB (vOp (opEq false) (vFrz (vCallB oLen (vCons (vVar 7) vNil))) (vC (.int 1)))))
    (vDrop (vLm oApp (vVar 4) (vCons (vOp opIx (vVar 7) (vC (.int 0))) vNil)))
    (vIfS (vOr (vB (vOp (opEq false) (vVar 8) (vC (.int 0)))) (vAnd (vB (vOp opLe (vFrz (vCallB oLen (vCons (vVar 7) vNil))) (vVar 8))) (vB (vOp (opEq false) (vFrz (vCall (c__law_draw K) (vCons (vVar 0) (vCons (vC (.int 2)) vNil)))) (vC (.int 0))))))
    (vSeq (vAsg 9 (vCall (c__law_fresh K) (vCons (vVar 0) (vCons (vVar 3) vNil))))
    (vSeq (vDrop (vLm oApp (vVar 4) (vCons (vOp opAdd (vC (.str "/")) (vVar 9)) vNil)))
    (vDrop (vLm oApp (vVar 5) (vCons (vTup (vCons (vOp opAdd (vVar 7) (vLst (vCons (vFrz (vVar 9)) vNil))) (vCons (vFrz (vVar 8)) vNil))) vNil)))))
    (vSeq (vAsg 7 (vCall (c__law_mixed K) (vCons (vVar 0) (vCons (vFrz (vVar 7)) vNil))))
    (vSeq (vAsg 10 (vCallB oMax (vCons (vC (.int 0)) (vCons (vOp opSub (vCallB oLen (vCons (vVar 7) vNil)) (vVar 8)) vNil))))
    (vSeq (vAsg 11 (vOp opAdd (vVar 10) (vCall (c__law_draw K) (vCons (vVar 0) (vCons (vOp opAdd (vOp opSub (vCallB oMin (vCons (vFrz (vCallB oLen (vCons (vVar 7) vNil))) (vCons (vVar 8) vNil))) (vVar 10)) (vC (.int 1))) vNil)))))
    (vSeq (vAsg 12 (vCallB oMax (vCons (vC (.int 0)) (vCons (vOp opSub (vVar 11) (vC (.int 1))) vNil))))
    (vSeq (vAsg 13 (vOp opAdd (vVar 12) (vCall (c__law_draw K) (vCons (vVar 0) (vCons (vOp opAdd (vOp opSub (vOp opSub (vOp opSub (vVar 8) (vC (.int 1))) (vCallB oMax (vCons (vC (.int 0)) (vCons (vOp opSub (vOp opSub (vCallB oLen (vCons (vVar 7) vNil)) (vVar 11)) (vC (.int 1))) vNil)))) (vVar 12)) (vC (.int 1))) vNil)))))
    (vSeq (vDrop (vLm oApp (vVar 4) (vCons (vC (.str "@")) vNil)))
    (vSeq (vDrop (vLm oApp (vVar 5) (vCons (vTup (vCons (vSl (vVar 7) (vPart (vVar 11)) vNoPart) (vCons (vOp opSub (vOp opSub (vVar 8) (vC (.int 1))) (vVar 13)) vNil))) vNil)))
    (vDrop (vLm oApp (vVar 5) (vCons (vTup (vCons (vSl (vVar 7) vNoPart (vPart (vVar 11))) (vCons (vFrz (vVar 13)) vNil))) vNil)))))))))))))))
    (vRet (vCallB oTup (vCons (vVar 4) vNil))))))
abbrev s__law_size : Stmt := top 47
abbrev N__law_size : List Str := ["pot", "most", "turn"]
theorem sc__law_size : FnScope N__law_size ["pot", "most"] (defScope s__law_size) := ⟨rfl, rfl, rfl, by decide +kernel, rfl, by decide +kernel, by decide +kernel⟩
/-- _law_size -/
def T__law_size (K : PySem.W.Frag) : VTS := (vSeq (vAsg 2 (vCall (c__law_draw K) (vCons (vVar 0) (vCons (vC (.int 32)) vNil))))
    (vSeq (vIfS (vB (vOp (opEq false) (vVar 2) (vC (.int 0))))
    (vRet (vCall (c__law_draw K) (vCons (vVar 0) (vCons (vOp opAdd (vVar 1) (vC (.int 1))) vNil))))
    vNext)
    (vRet (vCall (c__law_draw K) (vCons (vVar 0) (vCons (vFrz (vIf (vB (vOp (opEq false) (vOp opMod (vCallB oInt (vCons (vVar 2) vNil)) (vC (.int 2))) (vC (.int 0)))) (vC (.int 5)) (vC (.int 10)))) vNil))))))
abbrev s__law_program : Stmt := top 48
abbrev N__law_program : List Str := ["pot", "most", "many", "gives", "names", "one"]
theorem sc__law_program : FnScope N__law_program ["pot", "most", "many"] (defScope s__law_program) := ⟨rfl, rfl, rfl, by decide +kernel, rfl, by decide +kernel, by decide +kernel⟩
/-- _law_program -/
def T__law_program (K : PySem.W.Frag) : VTS := (vSeq (vAsg 3 (vCall (c__law_size K) (vCons (vVar 0) (vCons (vFrz (vVar 1)) vNil))))
    (vSeq (vAsg 4 (vLst vNil))
    (vSeq (vFor (viRng1 (vCons (vFrz (vCallB oMin (vCons (vFrz (vCall (c__law_draw K) (vCons (vVar 0) (vCons (vOp opAdd (vVar 2) (vC (.int 1))) vNil)))) (vCons (vOp opAdd (vVar 3) (vC (.int 1))) vNil)))) vNil)) (vgName 5)
    (vDrop (vCall (c__law_fresh K) (vCons (vVar 0) (vCons (vVar 4) vNil)))))
    (vRet (vCall (c__law_words K) (vCons (vVar 0) (vCons (vFrz (vCallB oListU (vCons (vVar 4) vNil))) (vCons (vFrz (vVar 3)) (vCons (vVar 4) vNil)))))))))
abbrev s__law_place : Stmt := top 49
abbrev N__law_place : List Str := ["pot", "way", "places"]
theorem sc__law_place : FnScope N__law_place ["pot", "way", "places"] (defScope s__law_place) := ⟨rfl, rfl, rfl, by decide +kernel, rfl, by decide +kernel, by decide +kernel⟩
/-- _law_place -/
def T__law_place (K : PySem.W.Frag) : VTS := (vSeq (vIfS (vB (vOp (opEq false) (vVar 1) (vC (.int 0))))
    (vRet (vOp opIx (vVar 2) (vC (.int 0))))
    vNext)
    (vRet (vIf (vB (vOp (opEq false) (vVar 1) (vC (.int 1)))) (vOp opIx (vVar 2) (vNeg (vC (.int 1)))) (vCall (c__law_any K) (vCons (vVar 0) (vCons (vFrz (vVar 2)) vNil))))))
abbrev s__law_row : Stmt := top 50
abbrev N__law_row : List Str := ["pot", "run", "way", "row", "shown", "turn", "places", "place"]
theorem sc__law_row : FnScope N__law_row ["pot", "run", "way"] (defScope s__law_row) := ⟨rfl, rfl, rfl, by decide +kernel, rfl, by decide +kernel, by decide +kernel⟩
/-- _law_row -/
def T__law_row (K : PySem.W.Frag) : VTS := (vSeq (vAsg 3 (vLst vNil))
    (vSeq (vAsg 4 (vLst (vCons (vFldC (Cs_words K) (vMeth (He.ga K "Run") "program" (c_Run_program K) (vVar 1) vNil) "words") vNil)))
    (vSeq (vFor (viRng1 (vCons (vC (.int 1000)) vNil)) (vgName 5)
    (vSeq (vAsg 6 (vCall (c_steps K) (vCons (vFrz (vMeth (He.ga K "Run") "program" (c_Run_program K) (vVar 1) vNil)) vNil)))
    (vSeq (vIfS (vB (vOp (opEq false) (vFrz (vCallB oLen (vCons (vVar 6) vNil))) (vC (.int 0))))
    vBreak
    vNext)
    (vIfS (vAnd (vB (vOp (opEq false) (vVar 2) (vC (.int 2)))) (vAnd (vB (vOp opGt (vFrz (vCallB oLen (vCons (vVar 3) vNil))) (vC (.int 0)))) (vAnd (vB (vOp opLt (vVar 5) (vC (.int 40)))) (vB (vOp (opEq false) (vFrz (vCall (c__law_draw K) (vCons (vVar 0) (vCons (vC (.int 5)) vNil)))) (vC (.int 0)))))))
    (vSeq (vDrop (vMeth (He.ga K "Run") "back" (c_Run_back K) (vVar 1) vNil))
    (vSeq (vDrop (vL0 oPop0 (vVar 3)))
    (vSeq (vDrop (vL0 oPop0 (vVar 4)))
    (vIfS (vB (vOp (opEq true) (vFldC (Cs_words K) (vMeth (He.ga K "Run") "program" (c_Run_program K) (vVar 1) vNil) "words") (vOp opIx (vVar 4) (vNeg (vC (.int 1))))))
    (vRet (vC .non))
    vNext))))
    (vSeq (vAsg 7 (vCall (c__law_place K) (vCons (vVar 0) (vCons (vFrz (vVar 2)) (vCons (vFrz (vVar 6)) vNil)))))
    (vSeq (vDrop (vMeth (He.ga K "Run") "step" (c_Run_step K) (vVar 1) (vCons (vFrz (vVar 7)) vNil)))
    (vSeq (vDrop (vLm oApp (vVar 3) (vCons (vFrz (vVar 7)) vNil)))
    (vDrop (vLm oApp (vVar 4) (vCons (vFldC (Cs_words K) (vMeth (He.ga K "Run") "program" (c_Run_program K) (vVar 1) vNil) "words") vNil))))))))))
    (vRet (vTup (vCons (vFrz (vVar 3)) (vCons (vFrz (vVar 4)) vNil)))))))
abbrev s_law : Stmt := top 51
abbrev N_law : List Str := ["script", "pot", "turn", "words", "program", "run", "found", "other", "told", "last", "many", "back"]
theorem sc_law : FnScope N_law ["script"] (defScope s_law) := ⟨rfl, rfl, rfl, by decide +kernel, rfl, by decide +kernel, by decide +kernel⟩
/-- law -/
def T_law (K : PySem.W.Frag) : VTS := (vSeq (vAsg 1 (vCall (c__law_pot K) (vCons (vFrz (vVar 0)) vNil)))
    (vSeq (vFor (viRng1 (vCons (vOp opAdd (vC (.int 2)) (vOp opFdiv (vCallB oLen (vCons (vSl (vVar 0) vNoPart (vPart (vC (.int 63)))) vNil)) (vC (.int 16)))) vNil)) (vgName 2)
    (vSeq (vAsg 3 (vCall (c__law_program K) (vCons (vVar 1) (vCons (vC (.int 60)) (vCons (vC (.int 3)) vNil)))))
    (vSeq (vAsg 4 (vMake (He.ga K "Program") (c_Program___init__ K) (vCons (vFrz (vVar 3)) vNil)))
    (vSeq (vAsg 5 (vMake (He.ga K "Run") (c_Run___init__ K) (vCons (vFrz (vVar 4)) vNil)))
    (vSeq (vAsg 6 (vCall (c__law_row K) (vCons (vVar 1) (vCons (vVar 5) (vCons (vFrz (vCall (c__law_draw K) (vCons (vVar 1) (vCons (vC (.int 3)) vNil)))) vNil)))))
    (vSeq (vAsg 7 (vMake (He.ga K "Run") (c_Run___init__ K) (vCons (vFrz (vVar 4)) vNil)))
    (vSeq (vAsg 8 (vMeth (He.ga K "Run") "to_rest" (c_Run_to_rest K) (vVar 7) vNil))
    (vSeq (vIfS (vOr (vB (vOp (opIsN false) (vVar 6) (vC .non))) (vOr (vB (vOp (opEq true) (vFldC (Cs_words K) (vMeth (He.ga K "Run") "program" (c_Run_program K) (vVar 7) vNil) "words") (vFldC (Cs_words K) (vMeth (He.ga K "Run") "program" (c_Run_program K) (vVar 5) vNil) "words"))) (vB (vOp (opEq true) (vFrz (vCallB oLen (vCons (vVar 8) vNil))) (vFrz (vCallB oLen (vCons (vOp opIx (vVar 6) (vC (.int 0))) vNil)))))))
    (vRet (vC (.bl false)))
    vNext)
    (vSeq (vAsg 9 (vMeth (He.ga K "Run") "program" (c_Run_program K) (vVar 5) vNil))
    (vSeq (vIfS (vOr (vB (vEqC (c_Program___eq__ K) (Cs_eq K) true (vFrz (vCall (c_rest K) (vCons (vFrz (vVar 4)) vNil))) (vFrz (vVar 9)))) (vB (vOp opGt (vFrz (vCallB oLen (vCons (vFrz (vCall (c_steps K) (vCons (vFrz (vVar 9)) vNil))) vNil))) (vC (.int 0)))))
    (vRet (vC (.bl false)))
    vNext)
    (vSeq (vAsg 10 (vOp opSub (vCall (c_givens K) (vCons (vFrz (vVar 4)) vNil)) (vCall (c_givens K) (vCons (vFrz (vVar 9)) vNil))))
    (vSeq (vIfS (vOr (vB (vOp (opEq true) (vFrz (vMeth (He.ga K "Run") "many" (c_Run_many K) (vVar 5) vNil)) (vVar 10))) (vOr (vB (vOp (opEq true) (vFrz (vMeth (He.ga K "Run") "many" (c_Run_many K) (vVar 7) vNil)) (vVar 10))) (vOr (vB (vOp (opEq true) (vFrz (vCallB oLen (vCons (vVar 8) vNil))) (vVar 10))) (vB (vOp (opEq true) (vFrz (vCall (c_many_steps K) (vCons (vFrz (vVar 4)) vNil))) (vVar 10))))))
    (vRet (vC (.bl false)))
    vNext)
    (vSeq (vIfS (vOr (vB (vOp (opIsN true) (vFrz (vCall (c_is_way K) (vCons (vFrz (vVar 4)) (vCons (vFrz (vVar 9)) (vCons (vFrz (vCallB oTup (vCons (vOp opIx (vVar 6) (vC (.int 0))) vNil))) vNil))))) (vC (.bl true)))) (vB (vOp (opIsN true) (vFrz (vCall (c_is_way K) (vCons (vFrz (vVar 4)) (vCons (vFrz (vVar 9)) (vCons (vFrz (vVar 8)) vNil))))) (vC (.bl true)))))
    (vRet (vC (.bl false)))
    vNext)
    (vSeq (vFor (viRng1 (vCons (vFrz (vVar 10)) vNil)) (vgName 11)
    (vSeq (vIfS (vB (vOp (opEq true) (vFldC (Cs_words K) (vMeth (He.ga K "Run") "program" (c_Run_program K) (vVar 5) vNil) "words") (vOp opIx (vOp opIx (vVar 6) (vC (.int 1))) (vOp opSub (vVar 10) (vVar 11)))))
    (vRet (vC (.bl false)))
    vNext)
    (vDrop (vMeth (He.ga K "Run") "back" (c_Run_back K) (vVar 5) vNil))))
    (vIfS (vOr (vB (vEqC (c_Program___eq__ K) (Cs_eq K) true (vFrz (vMeth (He.ga K "Run") "program" (c_Run_program K) (vVar 5) vNil)) (vFrz (vVar 4)))) (vOr (vB (vOp (opEq true) (vFrz (vMeth (He.ga K "Run") "many" (c_Run_many K) (vVar 5) vNil)) (vC (.int 0)))) (vB (vOp (opEq true) (vFldC (Cs_words K) (vVar 4) "words") (vVar 3)))))
    (vRet (vC (.bl false)))
    vNext)))))))))))))))
    (vRet (vC (.bl true)))))
end K19

end

section
set_option Elab.async false
set_option linter.all false
set_option autoImplicit false
set_option maxRecDepth 100000
set_option maxHeartbeats 400000
namespace K19
open PySem PySem.Spec PyProof.Rows L2 VL VP
theorem law_is_integer {K : PySem.W.Frag} (hk : Kx K) : LawT 1 (c_is_integer K) N_is_integer (T_is_integer K) := by
  intro as P PX hl h
  obtain ⟨n, rfl, hP⟩ := h
  unfold T_is_integer
  simp_arith!
  exact hP
theorem law_is_within {K : PySem.W.Frag} (hk : Kx K) : LawT 3 (c_is_within K) N_is_within (T_is_within K) := by
  intro as P PX hl h
  obtain ⟨n, a, b, rfl, hP⟩ := h
  unfold T_is_within
  simp_arith!
  refine ⟨n, rfl, ?_⟩
  simp_arith!
  cases h1 : decide (a ≤ n) with
  | true => rw [h1] at hP; simp_arith!; exact hP
  | false => rw [h1] at hP; simp_arith!; exact hP
theorem chs_len (z : Str) : (z.length : Int) = ((chs z).length : Int) := by rw [len_chs]
theorem le_one {c d : Nat} : decide ([c] ≤ [d]) = decide (c ≤ d) := by
  by_cases h : c ≤ d
  · rw [decide_eq_true h, decide_eq_true]
    intro z
    rcases List.cons_lt_cons_iff.mp z with z | ⟨_, z⟩
    · omega
    · cases z
  · rw [decide_eq_false h, decide_eq_false]
    intro z
    exact z (List.cons_lt_cons_iff.mpr (.inl (by omega)))
theorem law_is_name {K : PySem.W.Frag} (hk : Kx K) : LawT 1 (c_is_name K) N_is_name (T_is_name K) := by
  intro as P PX hl h
  obtain ⟨z, rfl, hP⟩ := h
  unfold T_is_name
  simp_arith!
  have ez : decide ((1 : Int) ≤ ((z.length : Nat) : Int)) = decide (1 ≤ (chs z).length) := by rw [len_chs]; exact decide_eq_decide.mpr (by omega)
  have ez2 : decide (((z.length : Nat) : Int) ≤ 8) = decide ((chs z).length ≤ 8) := by rw [len_chs]; exact decide_eq_decide.mpr (by omega)
  unfold nameB at hP
  cases h1 : decide (1 ≤ (chs z).length) with
  | false => rw [h1] at hP ez; simp_arith! [ez]; exact hP
  | true =>
    rw [h1] at hP ez
    cases h2 : decide ((chs z).length ≤ 8) with
    | false => rw [h2] at hP ez2; simp_arith! [ez, ez2]; exact hP
    | true =>
      rw [h2] at hP ez2
      simp_arith! [ez, ez2, vLc]
      have hs : signsD z = (chs z).map fun c => D.str ⟨#[c]⟩ := rfl
      rw [hs]
      refine vLcL_all _ (fun c => .bl (decide (97 ≤ c) && decide (c ≤ 122))) (fun c => [Sl.sh (.str z), Sl.sh (.str ⟨#[c]⟩)]) trivial ?_ ?_ ?_ ?_ ?_ ?_
      · have := of_decide_eq_true h2
        have : (8 : Nat) ≤ sizeLine := by decide
        omega
      · intro c hc R hR
        simp_arith!
        exact hR
      · intro c hc R hR
        simp_arith!
        have e1 : decide ((Str.ofString "a").cps.toList ≤ [c]) = decide (97 ≤ c) := le_one
        have e2 : decide ([c] ≤ (Str.ofString "z").cps.toList) = decide (c ≤ 122) := le_one
        have e3 : (⟨#[c]⟩ : Str).cps.toList = [c] := rfl
        simp only [opLeS, kCh5_d, e3, e1]
        cases h3 : decide (97 ≤ c) with
        | true => rw [h3] at hR; simp_arith!; simp only [opLeS, e3, e2, kQ_d]; exact hR
        | false => rw [h3] at hR; simp_arith!; exact hR
      · intro c hc; simp_arith!
      · intro c hc; simp_arith!
      · simp_arith!
        have : ∀ l : List Nat, blsD (l.map fun c => D.bl (decide (97 ≤ c) && decide (c ≤ 122))) = some (l.map fun c => decide (97 ≤ c) && decide (c ≤ 122)) := by
          intro l
          induction l with
          | nil => rfl
            | cons c l ih => simp only [List.map_cons, blsD, ih]; rfl
        simp_arith! [this]
        simpa [List.all_map, Function.comp_def] using hP
theorem law_is_give {K : PySem.W.Frag} (hk : Kx K) : LawT 1 (c_is_give K) N_is_give (T_is_give K) := by
  intro as P PX hl h
  obtain ⟨w, hw, rfl, hP⟩ := h
  unfold T_is_give
  simp_arith! [eq_at hw]
  exact hP
theorem law_is_take {K : PySem.W.Frag} (hk : Kx K) : LawT 1 (c_is_take K) N_is_take (T_is_take K) := by
  intro as P PX hl h
  obtain ⟨w, hw, rfl, hP⟩ := h
  unfold T_is_take
  simp_arith!
  simp_arith! [cut1_take hw]
  exact hP
theorem law_name_of {K : PySem.W.Frag} (hk : Kx K) : LawT 1 (c_name_of K) N_name_of (T_name_of K) := by
  intro as P PX hl h
  obtain ⟨w, hw, rfl, hP⟩ := h
  unfold T_name_of
  simp_arith!
  refine ⟨w, hw, rfl, ?_⟩
  cases w with
  | g => simp_arith! [isT]; exact hP
  | v n => simp_arith! [isT]; exact hP
  | t n =>
    simp_arith! [isT]
    rw [cutT_take]
    exact hP
theorem law_is_word {K : PySem.W.Frag} (hk : Kx K) : LawT 1 (c_is_word K) N_is_word (T_is_word K) := by
  intro as P PX hl h
  obtain ⟨w, hw, rfl, hP⟩ := h
  have hn := wordB_n hw
  unfold T_is_word
  simp_arith! [eq_at hn]
  cases w with
  | g => simp_arith! [isG]; exact hP
  | v n =>
    simp_arith! [isG]
    refine ⟨n, rfl, ?_⟩
    have hw : nameB n = true := hw
    simp_arith! [hw]
    exact hP
  | t n =>
    simp_arith! [isG]
    refine ⟨_, rfl, ?_⟩
    have e : nameB (pwS (.t n)) = false := by
      unfold nameB
      rw [chs_t]
      have : (47 :: chs n).all (fun c => decide (97 ≤ c) && decide (c ≤ 122)) = false := by
        rw [List.all_cons]
        rfl
      rw [this, Bool.and_false, Bool.and_false]
    simp_arith! [e]
    simp_arith! [cut1_take hn, isT]
    rw [cutT_take]
    refine ⟨n, rfl, ?_⟩
    have hw : nameB n = true := hw
    simp_arith! [hw]
    exact hP
theorem law_asked_by {K : PySem.W.Frag} (hk : Kx K) : LawT 1 (c_asked_by K) N_asked_by (T_asked_by K) := by
  intro as P PX hl h
  obtain ⟨w, hw, rfl, hP⟩ := h
  unfold T_asked_by
  simp_arith!
  refine ⟨w, hw, rfl, ?_⟩
  cases w with
  | g => simp_arith! [isG]; exact hP
  | v n => simp_arith! [isG]; refine ⟨_, hw, rfl, ?_⟩; simp_arith! [isT]; exact hP
  | t n => simp_arith! [isG]; refine ⟨_, hw, rfl, ?_⟩; simp_arith! [isT]; exact hP
end K19

end

section
set_option Elab.async false
set_option linter.all false
set_option autoImplicit false
set_option maxRecDepth 100000
set_option maxHeartbeats 400000
namespace K19
open PySem PySem.Spec PyProof.Rows L2 VL VP
theorem pDs_len (ws : List PW) : (pDs ws).length = ws.length := by simp [pDs]
theorem pDs_cons (w : PW) (ws : List PW) : pDs (w :: ws) = pD w :: pDs ws := rfl
theorem pDs_app (a b : List PW) : pDs (a ++ b) = pDs a ++ pDs b := by simp [pDs]
theorem pDs_get {ws : List PW} {i : Nat} {w : PW} (h : ws[i]? = some w) : atI (pDs ws) (i : Int) = some (pD w) := by
  have hl : i < ws.length := (List.getElem?_eq_some_iff.mp h).1
  rw [atI_n (by rw [pDs_len]; exact hl)]
  unfold pDs
  rw [List.getElem?_map, h]
  rfl
theorem sz4000 : (4000 : Nat) < sizeLine := by decide
theorem law_wrong_end {K : PySem.W.Frag} (hk : Kx K) : LawT 1 (c_wrong_end K) N_wrong_end (T_wrong_end K) := by
  intro as P PX hl h
  obtain ⟨ws, hw, ho, rfl, hP⟩ := h
  unfold T_wrong_end
  simp_arith! [vFor_d]
  rw [enumD_eq]
  refine (show ∀ (ws' : List PW) (i k : Nat) (s2 s3 : Sl), nPs (some s2) → nPs (some s3) → WOk ws' → runP k ws' = some 0 → vForL _ _ _ okT (enumF i (pDs ws')) [Sl.sh (tupP ws), Sl.sh (D.int (k : Int)), s2, s3] from ?_) ws 0 1 .un .un trivial trivial hw ho
  intro ws'
  induction ws' with
  | nil =>
    intro i k s2 s3 h2 h3 hw hr
    cases hr
    refine ⟨trivial, ?_⟩
    have d0 : decide ((0 : Int) < ((0 : Nat) : Int)) = false := rfl
    simp_arith! [d0]
    exact hP
  | cons w ws' ih =>
    intro i k s2 s3 h2 h3 hw hr
    obtain ⟨k', rfl, hr⟩ := runP_pos hr
    refine ⟨trivial, ?_⟩
    simp_arith!
    refine ⟨h2, h3, ?_⟩
    have hk0 : decide (((k' + 1 : Nat) : Int) = 0) = false := decide_eq_false (by omega)
    simp_arith! [hk0]
    refine ⟨w, hw.head, rfl, ?_⟩
    simp_arith!
    have e : ((k' + 1 : Nat) : Int) + (((ar w : Nat) : Int) - 1) = ((k' + ar w : Nat) : Int) := by omega
    rw [e]
    exact ih _ _ _ _ trivial trivial hw.tail hr
theorem nd_tail {w : PW} {ws : List PW} (h : Nd (w :: ws)) : Nd ws := by
  cases w with
  | g => exact h
  | t n => exact ⟨(List.nodup_cons.mp h.1).2, h.2⟩
  | v n => exact ⟨h.1, (List.nodup_cons.mp h.2).2⟩
theorem nd_head {w : PW} {ws : List PW} (h : Nd (w :: ws)) (hg : isG w = false) : w ∉ ws := by
  cases w with
  | g => cases hg
  | t n => exact fun z => (List.nodup_cons.mp h.1).1 (mem_takes.mpr z)
  | v n => exact fun z => (List.nodup_cons.mp h.2).1 (mem_vars.mpr z)
theorem law_wrong_second {K : PySem.W.Frag} (hk : Kx K) : LawT 1 (c_wrong_second K) N_wrong_second (T_wrong_second K) := by
  intro as P PX hl h
  obtain ⟨ws, hw, hd, hsz, rfl, hP⟩ := h
  unfold T_wrong_second
  simp_arith! [vFor_d]
  rw [enumD_eq]
  refine (show ∀ (ws' : List PW) (i : Nat) (met : List (Key × D)) (s2 s3 : Sl), nPs (some s2) → nPs (some s3) → WOk ws' → Nd ws' → met.length + ws'.length ≤ 4000 → (∀ w ∈ ws', isG w = false → dget met (pwK w) = none) → vForL _ _ _ okT (enumF i (pDs ws')) [Sl.sh (tupP ws), Sl.own (.dic met), s2, s3] from ?_) ws 0 [] .un .un trivial trivial hw hd (by simpa using hsz) (fun _ _ _ => rfl)
  intro ws'
  induction ws' with
  | nil =>
    intro i met s2 s3 h2 h3 hw hd hm hn
    refine ⟨trivial, ?_⟩
    simp_arith!
    exact hP
  | cons w ws' ih =>
    intro i met s2 s3 h2 h3 hw hd hm hn
    have hm' : met.length + ws'.length + 1 ≤ 4000 := by simpa [Nat.add_assoc] using hm
    have := sz4000
    refine ⟨trivial, ?_⟩
    simp_arith!
    refine ⟨h2, h3, w, hw.head, rfl, ?_⟩
    cases hg : isG w with
    | true =>
      simp_arith!
      exact ih _ _ _ _ trivial trivial hw.tail (nd_tail hd) (by omega) fun x hx => hn x (List.mem_cons_of_mem _ hx)
    | false =>
      have hw0 : dget met (.inr (pwS w)) = none := hn w (by simp) hg
      simp_arith! [hw0]
      refine ⟨by omega, ?_⟩
      refine ih _ _ _ _ trivial trivial hw.tail (nd_tail hd) ?_ fun x hx hxg => ?_
      · have := length_dput_le met (.inr (pwS w)) (.bl true)
        omega
      · rw [dget_put, if_neg]
        · exact hn x (List.mem_cons_of_mem _ hx) hxg
        · intro z
          have z : (Sum.inr (pwS w) : L2.Key) = Sum.inr (pwS x) := z
          have := pwS_inj hw.head (hw.tail x hx) (Sum.inr.inj z)
          exact nd_head hd hg (this ▸ hx)
abbrev nD (n : Nat) : D := .int (n : Nat)
theorem set_fill {p : Nat} {x : D} {es : List D} : (List.replicate (p + 1) (D.int 0) ++ es).set p x = List.replicate p (D.int 0) ++ x :: es := by
  rw [List.replicate_succ', List.append_assoc]
  rw [List.set_append_right _ _ (by simp)]
  simp
theorem runP_drop {m : Nat} : ∀ {ws : List PW} {k : Nat} (p : Nat), runP k ws = some m → ∃ k', runP k' (ws.drop p) = some m
  | ws, k, 0, h => ⟨k, h⟩
  | [], k, p + 1, h => ⟨k, h⟩
  | w :: ws, k, p + 1, h => by
    obtain ⟨k', rfl, h⟩ := runP_pos h
    exact runP_drop p h
theorem endsA_le : ∀ (ws : List PW) (a : Nat), (endsA a ws).2.length ≤ ws.length
  | [], a => Nat.le_refl _
  | w :: ws, a => by
    have ih := endsA_le ws (a + 1)
    show (endS a w (endsA (a + 1) ws)).2.length ≤ ws.length + 1
    unfold endS
    split
    · simp; omega
    · rename_i e; rw [e] at ih; simp at ih ⊢; omega
    · rename_i e; rw [e] at ih; simp at ih ⊢; omega
    · simp
theorem sml_ar (w : PW) : sml ((ar w : Nat) : Int) := by
  have h : ar w ≤ 2 := by cases w <;> simp [ar]
  exact ⟨by omega, by omega⟩
theorem law_raw_ends {K : PySem.W.Frag} (hk : Kx K) : LawT 1 (c_raw_ends K) N_raw_ends (T_raw_ends K) := by
  intro as P PX hl h
  obtain ⟨ws, hw, ho, hsz, rfl, hP⟩ := h
  have sz := sz4000
  have l1 := ho.len
  unfold T_raw_ends
  simp_arith! [pDs_len]
  refine ⟨by omega, by omega, by simp; omega, ?_⟩
  simp_arith! [vFor_d]
  rw [pDs_len]
  have e1 : (List.replicate ((ws.length : Nat) : Int).toNat [D.int 0]).flatten = List.replicate ws.length (.int 0) := by simp
  rw [e1]
  obtain ⟨r1, r2⟩ := rgn (i := (ws.length : Int) - 1) (j := -1) (by omega) (by omega) (by decide) (by decide)
  refine ⟨r1, ?_⟩
  rw [r2]
  have e2 : ((ws.length : Int) - 1 - -1).toNat = ws.length := by omega
  rw [e2]
  refine (show ∀ (p : Nat) (s3 s4 s5 : Sl), p ≤ ws.length → nPs (some s3) → nPs (some s4) → nPs (some s5) → vForL _ _ _ okT (rangeD ((p : Int) - 1) (-1) p) [Sl.sh (tupP ws), Sl.own (.lst (List.replicate p (.int 0) ++ (endsA p (ws.drop p)).1.map nD)), Sl.own (.lst ((endsA p (ws.drop p)).2.reverse.map nD)), s3, s4, s5] from ?_) ws.length .un .un .un (Nat.le_refl _) trivial trivial trivial |> fun h => by
    rw [List.drop_length] at h
    simpa [endsA] using h
  intro p
  induction p with
  | zero =>
    intro s3 s4 s5 hp h3 h4 h5
    refine ⟨trivial, ?_⟩
    simp_arith!
    exact hP
  | succ p ih =>
    intro s3 s4 s5 hp h3 h4 h5
    rw [rangeD_succ]
    have ep : ((p + 1 : Nat) : Int) - 1 = (p : Int) := by omega
    have ep2 : (p : Int) + -1 = (p : Int) - 1 := by omega
    rw [ep, ep2]
    obtain ⟨k', hr'⟩ := runP_drop p ho
    have hd : ws.drop p = ws[p]'(by omega) :: ws.drop (p + 1) := List.drop_eq_getElem_cons (by omega)
    have hgt : ws[p]? = some (ws[p]'(by omega)) := List.getElem?_eq_getElem (by omega)
    rw [hd] at hr'
    generalize ws[p]'(by omega) = w at hd hr' hgt
    have hix : atI (pDs ws) (p : Int) = some (pD w) := pDs_get hgt
    have hwn : PWn w := hw.get hgt
    obtain ⟨k, rfl, hr2⟩ := runP_pos hr'
    have ls := endsA_st _ (a := p + 1) hr2
    have ll := endsA_l (ws.drop (p + 1)) (p + 1)
    have lle := endsA_le (ws.drop (p + 1)) (p + 1)
    rw [List.length_drop] at ll lle
    have ix2 : ixN (List.replicate (p + 1) (D.int 0) ++ (endsA (p + 1) (ws.drop (p + 1))).1.map nD).length (p : Int) = some p := ixN_nat (by simp; omega)
    refine ⟨trivial, ?_⟩
    simp_arith! [hix]
    refine ⟨h3, h4, ?_⟩
    simp_arith! [vFor_d, hix]
    refine ⟨w, hwn, rfl, ?_⟩
    have e1 : (p : Int) + 1 = ((p + 1 : Nat) : Int) := by omega
    cases w with
    | v n =>
      have ih' := ih (.sh (.int (p : Int))) (.sh (.int ((p : Int) + 1))) s5 (by omega) trivial trivial h5
      rw [hd, endsA_v] at ih'
      simp only [List.map_cons, List.reverse_cons, List.map_append, List.map_nil] at ih'
      simp_arith!
      refine ⟨sml_ar _, ?_⟩
      refine ⟨trivial, ?_⟩
      simp_arith! [ix2, set_fill]
      refine ⟨by simp; omega, ?_⟩
      rw [e1] at ih' ⊢
      exact ih'
    | t n =>
      have ls : (endsA (p + 1) (ws.drop (p + 1))).2.length = k + 1 := ls
      cases q : (endsA (p + 1) (ws.drop (p + 1))).2 with
      | nil => rw [q] at ls; cases ls
      | cons e st =>
        have ih' := ih (.sh (.int (p : Int))) (.sh (nD e)) (.sh (.int 0)) (by omega) trivial trivial trivial
        rw [hd, endsA_t q] at ih'
        simp only [List.map_cons, List.reverse_cons, List.map_append, List.map_nil] at ih'
        rw [q] at lle
        simp_arith!
        refine ⟨sml_ar _, ?_⟩
        refine ⟨trivial, ?_⟩
        have g3 : ((e :: st).reverse.map nD).getLast? = some (nD e) := by simp
        have g4 : ((e :: st).reverse.map nD).dropLast = st.reverse.map nD := by simp
        simp_arith! [g3, g4]
        refine ⟨h5, ?_⟩
        refine ⟨trivial, ?_⟩
        simp_arith! [ix2, set_fill]
        refine ⟨by simp at lle ⊢; omega, ?_⟩
        exact ih'
    | g =>
      have ls : (endsA (p + 1) (ws.drop (p + 1))).2.length = k + 2 := ls
      cases q : (endsA (p + 1) (ws.drop (p + 1))).2 with
      | nil => rw [q] at ls; cases ls
      | cons b st =>
        cases st with
        | nil => rw [q] at ls; simp at ls
        | cons e st =>
          have ih' := ih (.sh (.int (p : Int))) (.sh (nD e)) (.sh (.int 1)) (by omega) trivial trivial trivial
          rw [hd, endsA_g q] at ih'
          simp only [List.map_cons, List.reverse_cons, List.map_append, List.map_nil] at ih'
          rw [q] at lle
          simp_arith!
          refine ⟨sml_ar _, ?_⟩
          refine ⟨trivial, ?_⟩
          have g1 : ((b :: e :: st).reverse.map nD).getLast? = some (nD b) := by simp
          have g2 : ((b :: e :: st).reverse.map nD).dropLast = (e :: st).reverse.map nD := by simp
          have g3 : ((e :: st).reverse.map nD).getLast? = some (nD e) := by simp
          have g4 : ((e :: st).reverse.map nD).dropLast = st.reverse.map nD := by simp
          simp_arith! [g1, g2]
          refine ⟨h5, ?_⟩
          refine ⟨trivial, ?_⟩
          simp_arith! [g3, g4]
          refine ⟨trivial, ?_⟩
          simp_arith! [ix2, set_fill]
          refine ⟨by simp at lle ⊢; omega, ?_⟩
          exact ih'
end K19

end

section
set_option Elab.async false
set_option linter.all false
set_option autoImplicit false
set_option maxRecDepth 100000
set_option maxHeartbeats 400000
namespace K19
open PySem PySem.Spec PyProof.Rows L2 VL VP
/-! ### dicts of places -/
def idx : Nat → List PW → List (Nat × PW)
  | _, [] => []
  | i, w :: ws => (i, w) :: idx (i + 1) ws
theorem idx_len : ∀ (ws : List PW) (i : Nat), (idx i ws).length = ws.length
  | [], i => rfl
  | w :: ws, i => by show (idx (i + 1) ws).length + 1 = _; rw [idx_len ws]; rfl
theorem idx_mem {q : Nat × PW} : ∀ {ws : List PW} {i : Nat}, q ∈ idx i ws → q.2 ∈ ws
  | [], i, h => by cases h
  | w :: ws, i, h => by
    rcases List.mem_cons.mp h with h | h
    · rw [h]; simp
    · exact List.mem_cons_of_mem _ (idx_mem h)
theorem enum_idx : ∀ (ws : List PW) (i : Nat), enumF i (pDs ws) = (idx i ws).map fun q => .tup [.int (q.1 : Nat), pD q.2]
  | [], i => rfl
  | w :: ws, i => by
    show D.tup [_, _] :: enumF (i + 1) (pDs ws) = _
    rw [enum_idx ws (i + 1)]
    rfl
theorem foldl_new : ∀ (l acc : List (L2.Key × D)), (l.map (·.1)).Nodup → (∀ k ∈ l.map (·.1), dget acc k = none) → l.foldl (fun m q => dput m q.1 q.2) acc = acc ++ l
  | [], acc, _, _ => by simp
  | q :: l, acc, hn, hk => by
    rw [List.map_cons, List.nodup_cons] at hn
    rw [List.foldl_cons, dput_new (hk q.1 (by simp)), foldl_new l _ hn.2 fun k hk' => ?_]
    · simp
    · rw [dget_app, hk k (by simp at hk' ⊢; exact .inr hk'), dget_cons, if_neg fun e => hn.1 (by rw [e]; exact hk')]
      rfl
theorem sz4 : (4000 : Nat) ≤ sizeLine := by decide
theorem uses_keys : ∀ (ws : List PW) (i : Nat), (usesA i ws).map (·.1) = varsW ws
  | [], i => rfl
  | .v n :: ws, i => by show n :: (usesA (i + 1) ws).map (·.1) = n :: varsW ws; rw [uses_keys ws]
  | .t n :: ws, i => uses_keys ws (i + 1)
  | .g :: ws, i => uses_keys ws (i + 1)
theorem taken_keys : ∀ (ws : List PW) (i : Nat), (takenA i ws).map (·.1) = takesW ws
  | [], i => rfl
  | .t n :: ws, i => by show n :: (takenA (i + 1) ws).map (·.1) = n :: takesW ws; rw [taken_keys ws]
  | .v n :: ws, i => taken_keys ws (i + 1)
  | .g :: ws, i => taken_keys ws (i + 1)
theorem uses_idx : ∀ (ws : List PW) (i : Nat), ((idx i ws).filter fun q => isV q.2).map (fun q => ((Sum.inr (pwS q.2) : L2.Key), D.int (q.1 : Nat))) = plD (usesA i ws)
  | [], i => rfl
  | .v n :: ws, i => by
    show (_, _) :: (((idx (i + 1) ws).filter fun q => isV q.2).map _) = (_, _) :: plD (usesA (i + 1) ws)
    rw [uses_idx ws (i + 1)]
    rfl
  | .t n :: ws, i => uses_idx ws (i + 1)
  | .g :: ws, i => uses_idx ws (i + 1)
theorem taken_idx : ∀ (ws : List PW) (i : Nat), ((idx i ws).filter fun q => isT q.2).map (fun q => ((Sum.inr (nameW q.2) : L2.Key), D.int (q.1 : Nat))) = plD (takenA i ws)
  | [], i => rfl
  | .t n :: ws, i => by
    show (_, _) :: (((idx (i + 1) ws).filter fun q => isT q.2).map _) = (_, _) :: plD (takenA (i + 1) ws)
    rw [taken_idx ws (i + 1)]
    rfl
  | .v n :: ws, i => taken_idx ws (i + 1)
  | .g :: ws, i => taken_idx ws (i + 1)
theorem plD_keys (l : List (Str × Nat)) : (plD l).map (·.1) = (l.map (·.1)).map Sum.inr := by simp [plD]
theorem nodup_inr {l : List Str} (h : l.Nodup) : (l.map (Sum.inr : Str → L2.Key)).Nodup := by
  rw [List.nodup_iff_pairwise_ne, List.pairwise_map]
  exact (List.nodup_iff_pairwise_ne.mp h).imp fun h e => h (Sum.inr.inj e)
theorem law_uses {K : PySem.W.Frag} (hk : Kx K) : LawT 1 (c_uses K) N_uses (T_uses K) := by
  intro as P PX hl h
  obtain ⟨ws, hw, hn, hsz, rfl, hP⟩ := h
  unfold T_uses
  simp_arith! [vDc_d]
  rw [enumD_eq, enum_idx]
  refine vDcL_pure _ (fun q => isV q.2) (fun q => .inr (pwS q.2)) (fun q => pD q.2) (fun q => .int (q.1 : Nat)) (fun q => [Sl.sh (tupP ws), Sl.sh (.int (q.1 : Nat)), Sl.sh (pD q.2)]) (fun q => rfl) (idx 0 ws) [] trivial (by rw [idx_len]; have := sz4; simp; omega) ?_ ?_ ?_ ?_ ?_ ?_ ?_
  · intro q hq R hR
    simp_arith!
    exact hR
  · intro q hq R hR
    have hqw := hw q.2 (idx_mem hq)
    simp_arith!
    refine ⟨q.2, hqw, rfl, ?_⟩
    cases e : q.2 with
    | g => rw [e] at hR; simp_arith! [isG]; exact hR
    | t n => rw [e] at hR hqw; simp_arith! [isG]; refine ⟨_, hqw, rfl, ?_⟩; simp_arith! [isT]; exact hR
    | v n => rw [e] at hR hqw; simp_arith! [isG]; refine ⟨_, hqw, rfl, ?_⟩; simp_arith! [isT]; exact hR
  · intro q hq hs R hR
    simp_arith!
    exact hR
  · intro q hq hs R hR
    simp_arith!
    exact hR
  · intro q hq; simp_arith!
  · intro q hq; simp_arith!
  · have e := foldl_new (plD (usesA 0 ws)) [] (by rw [plD_keys, uses_keys]; exact nodup_inr hn) (fun _ _ => rfl)
    rw [← uses_idx, List.foldl_map] at e
    show kRt _ (.own (.dic _)) _
    rw [e, uses_idx, List.nil_append]
    simp_arith!
    exact hP
theorem pl_get {n : Str} : ∀ {l : List (Str × Nat)} {i : Nat}, (l.map (·.1)).Nodup → (n, i) ∈ l → dget (plD l) (.inr n) = some (.int (i : Nat))
  | [], i, _, h => by cases h
  | (m, j) :: l, i, hn, h => by
    rw [List.map_cons, List.nodup_cons] at hn
    show dget ((_, _) :: plD l) _ = _
    rw [dget_cons]
    rcases List.mem_cons.mp h with h | h
    · cases h; rw [if_pos rfl]
    · rw [if_neg]
      · exact pl_get hn.2 h
      · intro e
        have e := Sum.inr.inj e
        subst e
        exact hn.1 (List.mem_map.mpr ⟨(m, i), h, rfl⟩)
theorem pl_none {n : Str} : ∀ {l : List (Str × Nat)}, n ∉ l.map (·.1) → dget (plD l) (.inr n) = none
  | [], h => rfl
  | (m, j) :: l, h => by
    show dget ((_, _) :: plD l) _ = _
    rw [dget_cons, if_neg, pl_none]
    · exact fun z => h (List.mem_cons_of_mem _ z)
    · intro e
      exact h (by rw [← Sum.inr.inj e]; simp)
theorem uses_mem : ∀ {A B : List PW} {n : Str} (i : Nat), (n, i + A.length) ∈ usesA i (A ++ .v n :: B)
  | [], B, n, i => by show (n, i) ∈ (n, i) :: _; simp
  | w :: A, B, n, i => by
    have := uses_mem (A := A) (B := B) (n := n) (i + 1)
    have e : i + (w :: A).length = i + 1 + A.length := by simp; omega
    rw [e]
    cases w with
    | g => exact this
    | t m => exact this
    | v m => exact List.mem_cons_of_mem _ this
/-- where a name stands -/
theorem uses_get {A B : List PW} {n : Str} (hn : (varsW (A ++ .v n :: B)).Nodup) : dget (plD (usesA 0 (A ++ .v n :: B))) (.inr n) = some (.int (A.length : Nat)) :=
  pl_get (by rw [uses_keys]; exact hn) (by simpa using uses_mem (A := A) (B := B) (n := n) 0)
theorem taken_is {ws : List PW} {n : Str} (hn : (takesW ws).Nodup) : (dget (plD (takenA 0 ws)) (.inr n)).isSome = decide (n ∈ takesW ws) := by
  by_cases c : n ∈ takesW ws
  · rw [decide_eq_true c]
    have h : n ∈ (takenA 0 ws).map (·.1) := by rw [taken_keys]; exact c
    obtain ⟨⟨m, i⟩, hm, rfl⟩ := List.mem_map.mp h
    rw [pl_get (by rw [taken_keys]; exact hn) hm]
    rfl
  · rw [decide_eq_false c, pl_none (by rw [taken_keys]; exact c)]
    rfl
/-! ### whole programs -/
theorem ends_at {ws A b C : List PW} (h : ws = A ++ b ++ C) (hb : One b) : atI ((endsP ws).map fun (n : Nat) => D.int n) ((A.length : Nat) : Int) = some (.int ((A.length + b.length : Nat) : Int)) := by
  have e := endsP_part (A := A) (C := C) hb
  rw [← h] at e
  rw [atI_n (by rw [List.length_map]; exact (List.getElem?_eq_some_iff.mp e).1), List.getElem?_map, e]
  rfl
theorem law_wrong_take {K : PySem.W.Frag} (hk : Kx K) : LawT 1 (c_wrong_take K) N_wrong_take (T_wrong_take K) := by
  intro as P PX hl h
  obtain ⟨ws, hw, rfl, hP⟩ := h
  have hlen := hw.len
  unfold T_wrong_take
  simp_arith!
  refine ⟨ws, hw.wok, hw.one, by omega, rfl, ?_⟩
  simp_arith!
  refine ⟨ws, hw.wok, hw.nd.2, by omega, rfl, ?_⟩
  simp_arith! [vFor_d]
  rw [enumD_eq]
  refine (show ∀ (R A : List PW) (s3 s4 : Sl), nPs (some s3) → nPs (some s4) → A ++ R = ws → vForL _ _ _ okT (enumF A.length (pDs R)) [Sl.sh (tupP ws), Sl.sh (.tup ((endsP ws).map fun (n : Nat) => D.int n)), Sl.own (.dic (plD (usesA 0 ws))), s3, s4] from ?_) ws [] .un .un trivial trivial rfl
  intro R
  induction R with
  | nil =>
    intro A s3 s4 h3 h4 he
    refine ⟨trivial, ?_⟩
    simp_arith!
    exact hP
  | cons w R ih =>
    intro A s3 s4 h3 h4 he
    have hwm : w ∈ ws := by rw [← he]; simp
    have hwn := hw.wok w hwm
    refine ⟨trivial, ?_⟩
    simp_arith!
    refine ⟨h3, h4, w, hwn, rfl, ?_⟩
    have q := ih (A ++ [w]) (.sh (.int (A.length : Nat))) (.sh (pD w)) trivial trivial (by rw [← he]; simp)
    rw [List.length_append] at q
    cases w with
    | g => simp_arith! [isT]; exact q
    | v n => simp_arith! [isT]; exact q
    | t n =>
      simp_arith! [isT]
      refine ⟨_, hwn, rfl, ?_⟩
      obtain ⟨b, C, rfl, hb, hv⟩ := hw.tk A n R he.symm
      obtain ⟨b1, b2, rfl⟩ := List.append_of_mem hv
      have hg : dget (plD (usesA 0 ws)) (.inr n) = some (.int ((A ++ .t n :: b1).length : Nat)) := by
        have e : ws = (A ++ .t n :: b1) ++ .v n :: (b2 ++ C) := by rw [← he]; simp
        have nd := hw.nd.2
        rw [e] at nd ⊢
        exact uses_get nd
      have hen : atI ((endsP ws).map fun (n : Nat) => D.int n) ((A.length : Nat) : Int) = some (.int ((A.length + (PW.t n :: (b1 ++ .v n :: b2)).length : Nat) : Int)) := ends_at (C := C) (by rw [← he]; simp) (one_t hb)
      have l1 : A.length < (A ++ PW.t n :: b1).length := by simp
      have l2 : (A ++ PW.t n :: b1).length < A.length + (PW.t n :: (b1 ++ .v n :: b2)).length := by simp
      generalize (A ++ PW.t n :: b1).length = u at hg l1 l2
      generalize A.length + (PW.t n :: (b1 ++ .v n :: b2)).length = v at hen l2
      have d1 : decide (((A.length : Nat) : Int) < ((u : Nat) : Int)) = true := decide_eq_true (by omega)
      have d2 : decide (((u : Nat) : Int) < ((v : Nat) : Int)) = true := decide_eq_true (by omega)
      simp_arith! [nameW, hg, Option.getD_some, hen, d1, d2]
      exact q
theorem law_fault_in {K : PySem.W.Frag} (hk : Kx K) : LawT 1 (c_fault_in K) N_fault_in (T_fault_in K) := by
  intro as P PX hl h
  obtain ⟨ws, hw, rfl, hP⟩ := h
  have hlen := hw.len
  unfold T_fault_in
  simp_arith! [vFor_d]
  rw [enumD_eq]
  refine (show ∀ (R : List PW) (i : Nat) (s1 s2 : Sl), nPs (some s1) → nPs (some s2) → (∀ w ∈ R, wordB w = true) → vForL _ _ _ okT (enumF i (pDs R)) [Sl.sh (tupP ws), s1, s2, .un, .un] from ?_) ws 0 .un .un trivial trivial hw.word
  intro R
  induction R with
  | nil =>
    intro i s1 s2 h1 h2 hR
    refine ⟨trivial, ?_⟩
    simp_arith! [vFor_d]
    refine ⟨trivial, ?_⟩
    simp_arith!
    refine ⟨c_wrong_end K, by simp, ?_⟩
    try simp_arith!
    refine ⟨ws, hw.wok, hw.one, rfl, ?_⟩
    simp_arith!
    refine ⟨trivial, ?_⟩
    simp_arith!
    refine ⟨c_wrong_second K, by simp, ?_⟩
    try simp_arith!
    refine ⟨ws, hw.wok, hw.nd, by omega, rfl, ?_⟩
    simp_arith!
    refine ⟨trivial, ?_⟩
    simp_arith!
    refine ⟨c_wrong_take K, by simp, ?_⟩
    try simp_arith!
    refine ⟨ws, hw, rfl, ?_⟩
    simp_arith!
    refine ⟨trivial, ?_⟩
    try simp_arith!
    exact hP
  | cons w R ih =>
    intro i s1 s2 h1 h2 hR
    refine ⟨trivial, ?_⟩
    simp_arith!
    refine ⟨h1, h2, w, hR w (by simp), rfl, ?_⟩
    simp_arith!
    exact ih _ _ _ trivial trivial fun x hx => hR x (List.mem_cons_of_mem _ hx)
theorem law_Program___init__ {K : PySem.W.Frag} (hk : Kx K) : LawT 2 (c_Program___init__ K) N_Program___init__ (T_Program___init__ K) := by
  intro as P PX hl h
  obtain ⟨ws, hw, rfl, hP⟩ := h
  have l1 := hw.one.len
  have l2 := hw.len
  unfold T_Program___init__
  have d1 : decide ((1 : Int) ≤ (((pDs ws).length : Nat) : Int)) = true := decide_eq_true (by rw [pDs_len]; omega)
  have d2 : decide ((((pDs ws).length : Nat) : Int) ≤ 1000) = true := decide_eq_true (by rw [pDs_len]; omega)
  simp_arith! [d1, d2]
  refine ⟨ws, hw, rfl, ?_⟩
  simp_arith!
  refine ⟨by simp [Cs_words], by decide, ?_⟩
  exact hP
theorem lk1 {f : Str} {d : D} : List.lookup f [(f, d)] = some d := by simp [List.lookup]
theorem isP_mem {K : PySem.W.Frag} {C : Addr} (h : isP K C) : C ∈ Cs_words K := by rcases h with rfl | rfl <;> simp [Cs_words]
theorem isP_isi {K : PySem.W.Frag} {C : Addr} (h : isP K C) : C ∈ Cs_isi K := by rcases h with rfl | rfl <;> simp [Cs_isi]
theorem isP_eq {K : PySem.W.Frag} {C : Addr} (h : isP K C) : C ∈ Cs_eq K := by rcases h with rfl | rfl <;> simp [Cs_eq]
theorem isP_kit {K : PySem.W.Frag} (hk : Kx K) {C : Addr} (h : isP K C) : PySem.W.kitOne K (.ref C) (.ref (He.ga K "Program")) = some true := by
  rcases h with rfl | rfl
  · exact hk.k_Program_Program
  · exact hk.k_RawProgram_Program
theorem tupP_eq {neg : Bool} {a b : List PW} {P : Re → Prop} (ha : WOk a) (hb : WOk b) (h : P (.sh (.bl (if neg then !decide (a = b) else decide (a = b))))) : opEq neg (tupP a) (tupP b) P :=
  opEq_tupM (f := pD) (p := fun w => .str (pwS w)) (fun _ => rfl) (fun x hx y hy => by
    rw [str_eqv]
    exact decide_eq_decide.mpr ⟨fun e => pwS_inj (ha x hx) (hb y hy) e, fun e => by rw [e]⟩) (fun _ => by simp [PyData.depth]) h
theorem law_Program___eq__ {K : PySem.W.Frag} (hk : Kx K) : LawT 2 (c_Program___eq__ K) N_Program___eq__ (T_Program___eq__ K) := by
  intro as P PX hl h
  obtain ⟨C, C', a, b, hC, hC', ha, hb, rfl, hP⟩ := h
  unfold T_Program___eq__
  simp_arith! [oIsi_ins (isP_isi hC') (isP_kit hk hC'), isP_mem hC, isP_mem hC', lk1]
  refine tupP_eq ha hb ?_
  simp_arith!
  exact hP
theorem law_RawProgram___init__ {K : PySem.W.Frag} (hk : Kx K) : LawT 2 (c_RawProgram___init__ K) N_RawProgram___init__ (T_RawProgram___init__ K) := by
  intro as P PX hl h
  obtain ⟨xs, rfl, hP⟩ := h
  unfold T_RawProgram___init__
  simp_arith!
  exact ⟨by simp [Cs_words], by decide, hP⟩
end K19

end

section
set_option Elab.async false
set_option linter.all false
set_option autoImplicit false
set_option maxRecDepth 100000
set_option maxHeartbeats 400000
namespace K19
open PySem PySem.Spec PyProof.Rows L2 VL VP
theorem cut_pre {α : Type} {xs a b : List α} {j : Int} (h : xs = a ++ b) (hj : j = ((a.length : Nat) : Int)) : VL.cutD xs none (some j) = a := by
  subst h hj
  unfold VL.cutD
  rw [HT.sIx_nat, HT.sIx_none, Nat.min_eq_left (by simp)]
  simp
theorem cut_suf {α : Type} {xs a b : List α} {i : Int} (h : xs = a ++ b) (hi : i = ((a.length : Nat) : Int)) : VL.cutD xs (some i) none = b := by
  subst h hi
  unfold VL.cutD
  rw [HT.sIx_nat, HT.sIx_none, Nat.min_eq_left (by simp)]
  simp
theorem cut_mid {α : Type} {xs a b c : List α} {i j : Int} (h : xs = a ++ b ++ c) (hi : i = ((a.length : Nat) : Int)) (hj : j = ((a.length + b.length : Nat) : Int)) : VL.cutD xs (some i) (some j) = b := by
  subst h hi hj
  unfold VL.cutD
  rw [HT.sIx_nat, HT.sIx_nat, Nat.min_eq_left (by simp), Nat.min_eq_left (by simp)]
  simp
theorem law_givens {K : PySem.W.Frag} (hk : Kx K) : LawT 1 (c_givens K) N_givens (T_givens K) := by
  intro as P PX hl h
  obtain ⟨C, ws, hC, hw, hsz, rfl, hP⟩ := h
  unfold T_givens
  simp_arith! [vLc_d, isP_mem hC, lk1]
  refine vLcL_pure (f := pD) (fun w => isG w) (fun w => pD w) (fun w => [Sl.sh (progD C ws), Sl.sh (pD w)]) trivial (by have := sz4; omega) ?_ ?_ ?_ ?_ ?_ ?_
  · intro w hwm R hR
    simp_arith!
    exact hR
  · intro w hwm R hR
    have hwn := hw w hwm
    simp_arith!
    refine ⟨w, hwn, rfl, ?_⟩
    simp_arith!
    exact hR
  · intro w hwm hs R hR
    simp_arith!
    exact hR
  · intro w hwm; simp_arith!
  · intro w hwm; simp_arith!
  · simp_arith! [List.length_map]
    exact hP
theorem getW {ws : List PW} {p : Nat} (h : p < ws.length) : ∃ w, ws[p]? = some w := ⟨ws[p], List.getElem?_eq_getElem h⟩
theorem law_is_step {K : PySem.W.Frag} (hk : Kx K) : LawT 2 (c_is_step K) N_is_step (T_is_step K) := by
  intro as P PX hl h
  obtain ⟨ws, p, hw, hp, rfl, hP⟩ := h
  obtain ⟨w, h1⟩ := getW (ws := ws) (p := p) (by omega)
  obtain ⟨w', h2⟩ := getW (ws := ws) (p := p + 1) hp
  have e1 : ((p : Nat) : Int) + 1 = ((p + 1 : Nat) : Int) := by omega
  unfold T_is_step
  simp_arith! [pDs_get h1]
  refine ⟨w, hw.get h1, rfl, ?_⟩
  have hb : stepB ws p = (isG w && isT w') := by unfold stepB; rw [h1, h2]
  rw [hb] at hP
  cases hg : isG w with
  | false => rw [hg] at hP; simp_arith!; exact hP
  | true =>
    rw [hg] at hP
    simp_arith! [e1, pDs_get h2]
    refine ⟨w', hw.get h2, rfl, ?_⟩
    simp_arith!
    exact hP
theorem range_D (n : Nat) : rangeD 0 1 n = (List.range n).map fun (i : Nat) => D.int (i : Nat) := by
  unfold rangeD
  apply List.map_congr_left
  intro i _
  congr 1
  omega
theorem law_raw_steps {K : PySem.W.Frag} (hk : Kx K) : LawT 1 (c_raw_steps K) N_raw_steps (T_raw_steps K) := by
  intro as P PX hl h
  obtain ⟨ws, hw, hsz, rfl, hP⟩ := h
  have := sz4
  unfold T_raw_steps
  simp_arith! [vLc_d, pDs_len]
  refine ⟨⟨by omega, by omega⟩, ?_⟩
  have e : (((ws.length : Nat) : Int) - 1).toNat = ws.length - 1 := by omega
  rw [e, range_D]
  refine vLcL_pure (f := fun (i : Nat) => D.int (i : Nat)) (stepB ws) (fun (i : Nat) => D.int (i : Nat)) (fun (i : Nat) => [Sl.sh (tupP ws), Sl.sh (.int (i : Nat))]) trivial (by rw [List.length_range]; omega) ?_ ?_ ?_ ?_ ?_ ?_
  · intro i hi R hR
    simp_arith!
    exact hR
  · intro i hi R hR
    have hi := List.mem_range.mp hi
    simp_arith!
    refine ⟨ws, i, hw, by omega, rfl, ?_⟩
    simp_arith!
    exact hR
  · intro i hi hs R hR
    simp_arith!
    exact hR
  · intro w hwm; simp_arith!
  · intro w hwm; simp_arith!
  · simp_arith!
    exact hP
theorem law_steps {K : PySem.W.Frag} (hk : Kx K) : LawT 1 (c_steps K) N_steps (T_steps K) := by
  intro as P PX hl h
  obtain ⟨C, ws, hC, hw, hsz, rfl, hP⟩ := h
  unfold T_steps
  simp_arith! [isP_mem hC, lk1]
  refine ⟨ws, hw, hsz, rfl, ?_⟩
  simp_arith!
  exact hP
theorem step_get {ws A B1 B2 C E : List PW} {x : Str} (h : StepAt ws A B1 B2 C E x) : ws[A.length]? = some .g ∧ ws[A.length + 1]? = some (.t x) := by
  rw [h.eq]
  constructor
  · rw [List.append_assoc, List.getElem?_append_right (Nat.le_refl _)]
    simp
  · rw [List.append_assoc, List.getElem?_append_right (by omega)]
    simp
theorem law_raw_stepped {K : PySem.W.Frag} (hk : Kx K) : LawT 2 (c_raw_stepped K) N_raw_stepped (T_raw_stepped K) := by
  intro as P PX hl h
  obtain ⟨ws, A, B1, B2, C, E, x, hw, ho, hn, hsz, hs, rfl, hP⟩ := h
  have sz := sz4
  obtain ⟨g1, g2⟩ := step_get hs
  have e1 : ((A.length : Nat) : Int) + 1 = ((A.length + 1 : Nat) : Int) := by omega
  have e2 : ((A.length : Nat) : Int) + 2 = (((A ++ [PW.g, PW.t x]).length : Nat) : Int) := by simp
  have c1 : ws = (A ++ [.g, .t x]) ++ (B1 ++ .v x :: B2) ++ (C ++ E) := by rw [hs.eq]; simp
  have c2 : ws = A ++ (.g :: .t x :: ((B1 ++ .v x :: B2) ++ C)) ++ E := hs.eq
  have c3 : ws = ((A ++ [.g, .t x]) ++ B1) ++ .v x :: (B2 ++ (C ++ E)) := by rw [hs.eq]; simp
  have n1 := ends_at c1 hs.body
  have n2 := ends_at c2 (one_g (f := .t x :: (B1 ++ .v x :: B2)) (one_t hs.body) hs.arg)
  have hg : dget (plD (usesA 0 ws)) (.inr x) = some (.int ((((A ++ [PW.g, PW.t x]) ++ B1).length : Nat) : Int)) := by
    rw [c3] at hn ⊢
    exact uses_get hn
  unfold T_raw_stepped
  simp_arith!
  refine ⟨ws, hw, ho, hsz, rfl, ?_⟩
  simp_arith! [e1]
  rw [e2]
  simp_arith! [n1, n2]
  refine ⟨ws, hw, hn, hsz, rfl, ?_⟩
  simp_arith! [e1, pDs_get g2]
  refine ⟨.t x, hw.get g2, rfl, ?_⟩
  simp_arith! [nameW, hg]
  have hlen := congrArg List.length c2
  simp only [List.length_append, List.length_cons] at hlen
  -- the five cuts
  have q1 : VL.cutD (pDs ws) none (some ((A.length : Nat) : Int)) = pDs A := by
    refine cut_pre (b := pDs ((.g :: .t x :: ((B1 ++ .v x :: B2) ++ C)) ++ E)) ?_ (by rw [pDs_len])
    rw [← pDs_app, c2]
    simp
  have q2 : VL.cutD (pDs ws) (some (((A ++ [PW.g, PW.t x]).length : Nat) : Int)) (some ((((A ++ [PW.g, PW.t x]) ++ B1).length : Nat) : Int)) = pDs B1 := by
    refine cut_mid (a := pDs (A ++ [.g, .t x])) (c := pDs (.v x :: (B2 ++ (C ++ E)))) ?_ (by rw [pDs_len]) (by rw [pDs_len, pDs_len, List.length_append (as := A ++ [PW.g, PW.t x])])
    rw [← pDs_app, ← pDs_app, c3]
  have q3 : VL.cutD (pDs ws) (some (((A ++ [PW.g, PW.t x]).length + (B1 ++ PW.v x :: B2).length : Nat) : Int)) (some ((A.length + (PW.g :: PW.t x :: (B1 ++ PW.v x :: B2 ++ C)).length : Nat) : Int)) = pDs C := by
    refine cut_mid (a := pDs (A ++ [.g, .t x] ++ (B1 ++ .v x :: B2))) (c := pDs E) ?_ (by rw [pDs_len, List.length_append (as := A ++ [PW.g, PW.t x])]) (by rw [pDs_len, pDs_len]; simp; omega)
    rw [← pDs_app, ← pDs_app, c2]
    simp
  have q4 : VL.cutD (pDs ws) (some (((((A ++ [PW.g, PW.t x]) ++ B1).length : Nat) : Int) + 1)) (some (((A ++ [PW.g, PW.t x]).length + (B1 ++ PW.v x :: B2).length : Nat) : Int)) = pDs B2 := by
    refine cut_mid (a := pDs (A ++ [.g, .t x] ++ B1 ++ [.v x])) (c := pDs (C ++ E)) ?_ (by rw [pDs_len]; simp; omega) (by rw [pDs_len, pDs_len]; simp; omega)
    rw [← pDs_app, ← pDs_app, c2]
    simp
  have q5 : VL.cutD (pDs ws) (some ((A.length + (PW.g :: PW.t x :: (B1 ++ PW.v x :: B2 ++ C)).length : Nat) : Int)) none = pDs E := by
    refine cut_suf (a := pDs (A ++ (.g :: .t x :: ((B1 ++ .v x :: B2) ++ C)))) ?_ (by rw [pDs_len, List.length_append (as := A)])
    rw [← pDs_app, c2]
  generalize (A ++ [PW.g, PW.t x]).length + (B1 ++ PW.v x :: B2).length = i1 at *
  generalize A.length + (PW.g :: PW.t x :: (B1 ++ PW.v x :: B2 ++ C)).length = i2 at *
  generalize ((A ++ [PW.g, PW.t x]) ++ B1).length = i3 at *
  generalize (A ++ [PW.g, PW.t x]).length = i4 at *
  rw [q1, q2, q3, q4, q5]
  refine ⟨by simp only [List.length_append, pDs_len]; omega, ?_⟩
  try simp_arith!
  refine ⟨by simp only [List.length_append, pDs_len]; omega, ?_⟩
  try simp_arith!
  refine ⟨by simp only [List.length_append, pDs_len]; omega, ?_⟩
  try simp_arith!
  refine ⟨by simp only [List.length_append, pDs_len]; omega, ?_⟩
  try simp_arith!
  have e : tupP (A ++ B1 ++ C ++ B2 ++ E) = .tup (pDs A ++ pDs B1 ++ pDs C ++ pDs B2 ++ pDs E) := by simp only [tupP, pDs_app]
  rw [e] at hP
  simpa only [List.append_assoc] using hP
theorem law_check_step {K : PySem.W.Frag} (hk : Kx K) : LawT 2 (c_check_step K) N_check_step (T_check_step K) := by
  intro as P PX hl h
  obtain ⟨ws, p, hw, hp, hb, rfl, hP⟩ := h
  unfold T_check_step
  simp_arith! [pDs_len]
  refine ⟨_, _, _, rfl, ?_⟩
  have d1 : decide ((0 : Int) ≤ ((p : Nat) : Int)) = true := decide_eq_true (by omega)
  have d2 : decide (((p : Nat) : Int) ≤ ((ws.length : Nat) : Int) - 2) = true := decide_eq_true (by omega)
  simp_arith! [d1, d2, Bool.and_self]
  refine ⟨ws, p, hw, hp, rfl, ?_⟩
  simp_arith! [hb]
  exact hP
end K19

end

section
set_option Elab.async false
set_option linter.all false
set_option autoImplicit false
set_option maxRecDepth 100000
set_option maxHeartbeats 400000
namespace K19
open PySem PySem.Spec PyProof.Rows L2 VL VP
/-! ### names told -/
theorem alpha_at {i : Nat} (h : i < 26) : atI (Str.ofString "abcdefghijklmnopqrstuvwxyz").cps.toList ((i : Nat) : Int) = some (97 + i) := by
  have l : (Str.ofString "abcdefghijklmnopqrstuvwxyz").cps.toList.length = 26 := by rfl
  rw [atI_n (by rw [l]; exact h)]
  have : ∀ j, j < 26 → (Str.ofString "abcdefghijklmnopqrstuvwxyz").cps.toList[j]? = some (97 + j) := by decide +kernel
  exact this i h
theorem len_mk (l : List Nat) : (⟨l.toArray⟩ : Str).length = l.length := by rw [len_chs, chs_mk]
theorem one_app (c : Nat) (l : List Nat) : (⟨#[c]⟩ : Str) ++ ⟨l.toArray⟩ = ⟨(c :: l).toArray⟩ := by
  apply chs_ext
  rw [chs_app, chs_mk, chs_mk]
  rfl
theorem lnL_le (n : Nat) : (lnL n).length ≤ n := by
  induction n using Nat.strongRecOn with
  | _ n ih =>
    cases n with
    | zero => rw [lnL]; simp
    | succ n =>
      rw [lnL_succ, List.length_append]
      have := ih (n / 26) (by omega)
      simp
      omega
theorem lnL_40 {n : Nat} (h : n ≤ 2 ^ 40) : (lnL n).length ≤ 9 := lnL_len 9 n (by simp [lB]; omega)
theorem cdivW26 (a : Int) : CDivW a 26 := by unfold CDivW; decide
end K19

end

section
set_option Elab.async false
set_option linter.all false
set_option autoImplicit false
set_option maxRecDepth 100000
set_option maxHeartbeats 400000
namespace K19
open PySem PySem.Spec PyProof.Rows L2 VL VP
theorem cut_all {xs : List D} {k : Nat} (h : xs.length ≤ k) : VL.cutD xs none (some (k : Int)) = xs := by
  unfold VL.cutD
  rw [HT.sIx_nat, HT.sIx_none, Nat.min_eq_right h]
  simp
theorem intsD_map : ∀ ns : List Int, intsD (ns.map D.int) = some ns
  | [] => rfl
  | n :: ns => by
    show (intsD (ns.map D.int)).map (n :: ·) = _
    rw [intsD_map ns]
    rfl
theorem law__law_pot {K : PySem.W.Frag} (hk : Kx K) : LawT 1 (c__law_pot K) N__law_pot (T__law_pot K) := by
  intro as P PX hl h
  obtain ⟨ns, rfl, hn, hP⟩ := h
  unfold T__law_pot
  have z64 : 64 ≤ sizeLine := by decide
  have p18 : CPow 10 18 := by unfold CPow; decide
  simp_arith! [vLc]
  have e0 : VL.cutD (ns.map D.int) none (some ((63 : Nat) : Int)) = ns.map D.int := cut_all (by simpa using hn)
  rw [show (63 : Int) = ((63 : Nat) : Int) from rfl, e0]
  refine (show ∀ (ms : List Int) (acc : List D), acc.length + ms.length ≤ 63 → acc ++ ms.map D.int = ns.map D.int → vLcL _ _ _ _ okT _ (ms.map D.int) acc [Sl.sh (D.scr ns), Sl.un, Sl.un, Sl.un, Sl.un] from ?_) ns [] (by simpa using hn) rfl
  intro ms
  induction ms with
  | cons m ms ih =>
    intro acc hl ha
    refine ⟨trivial, ?_⟩
    simp_arith!
    simp only [List.length_cons] at hl
    exact ⟨by omega, ih _ (by simp; omega) (by rw [← ha]; simp)⟩
  | nil =>
    intro acc hl ha
    rw [List.map_nil, List.append_nil] at ha
    subst ha
    refine ⟨trivial, ?_⟩
    simp_arith! [vLc]
    refine (show ∀ (ms : List Int) (gs : List Int), gs.length + ms.length ≤ 63 → (∀ x ∈ gs, 0 ≤ x) → vLcL _ _ _ _ okT _ (ms.map D.int) (gs.map D.int) [Sl.sh (D.scr ns), Sl.sh (.lst (ns.map D.int)), Sl.un, Sl.un, Sl.un] from ?_) ns [] (by simpa using hn) (by simp)
    intro ms
    induction ms with
    | cons m ms ih =>
      intro gs hl hg
      simp only [List.length_cons] at hl
      refine ⟨trivial, ?_⟩
      simp_arith!
      refine ⟨p18, ?_⟩
      by_cases c : (10 : Int) ^ (18 : Int).toNat ≤ (if m < 0 then -m else m)
      · simp_arith! [decide_eq_true c]
        refine ⟨by simp; omega, ?_⟩
        have q := ih (gs ++ [if m < 0 then -m else m]) (by simp; omega) (fun x hx => by
          rcases List.mem_append.mp hx with hx | hx
          · exact hg x hx
          · simp at hx; subst hx; split <;> omega)
        rw [List.map_append] at q
        exact q
      · simp_arith! [decide_eq_false c]
        exact ih gs (by omega) hg
    | nil =>
      intro gs hl hg
      refine ⟨trivial, ?_⟩
      simp_arith! [vLc]
      refine (show ∀ (ms : List Int) (ss : List Int), ss.length + ms.length ≤ 63 → (∀ x ∈ ss, 0 ≤ x ∧ x < 1000000007) → vLcL _ _ _ _ okT _ (ms.map D.int) (ss.map D.int) [Sl.sh (D.scr ns), Sl.sh (.lst (ns.map D.int)), Sl.own (.lst (gs.map D.int)), Sl.un, Sl.un] from ?_) ns [] (by simpa using hn) (by simp)
      intro ms
      induction ms with
      | cons m ms ih =>
        intro ss hl hs
        simp only [List.length_cons] at hl
        refine ⟨trivial, ?_⟩
        simp_arith!
        refine ⟨p18, ?_⟩
        by_cases c : (if m < 0 then -m else m) < (10 : Int) ^ (18 : Int).toNat
        · simp_arith! [decide_eq_true c]
          refine ⟨by decide, by simp; omega, ?_⟩
          have q := ih (ss ++ [m % 1000000007]) (by simp; omega) (fun x hx => by
            rcases List.mem_append.mp hx with hx | hx
            · exact hs x hx
            · simp at hx; subst hx; omega)
          rw [List.map_append] at q
          exact q
        · simp_arith! [decide_eq_false c]
          exact ih ss (by omega) hs
      | nil =>
        intro ss hl2 hs
        refine ⟨trivial, ?_⟩
        simp_arith! [vPot]
        refine ⟨by simp; omega, ?_⟩
        have e1 : List.map D.int ss ++ [D.int (((ns.map D.int).length : Int) + 1)] = (ss ++ [(ns.length : Int) + 1]).map D.int := by simp
        simp_arith! [e1, intsD_map]
        refine ⟨by decide, ⟨by decide, ⟨hg, ?_, by simp, by simp; omega, Int.emod_nonneg _ (by decide), Int.emod_lt_of_pos _ (by decide)⟩, hP⟩⟩
        intro x hx
        rcases List.mem_append.mp hx with hx | hx
        · exact hs x hx
        · simp at hx; subst hx; omega
theorem law__law_any {K : PySem.W.Frag} (hk : Kx K) : LawT 2 (c__law_any K) N__law_any (T__law_any K) := by
  intro as P PX hl h
  obtain ⟨t, s, xs, rfl, hs, h0, h1, ht, hP⟩ := h
  unfold T__law_any
  have hlg : ((xs.length : Nat) : Int).natAbs.log2 < 9000 := by
    have := log_lt (x := ((xs.length : Nat) : Int)) (n := 40) (by omega) (by exact_mod_cast h1) (by decide)
    omega
  have pick : ∀ n : Int, 0 ≤ n → n < xs.length → ∃ d, atI xs n = some d ∧ d ∈ xs := fun n a b => by
    obtain ⟨m, rfl⟩ : ∃ m : Nat, n = m := ⟨n.toNat, by omega⟩
    refine ⟨xs[m]'(by omega), ?_, List.getElem_mem _⟩
    rw [atI_n (by omega), List.getElem?_eq_getElem]
  cases s with
  | un => rcases hs with hs | hs <;> cases hs
  | own o => rcases hs with hs | hs <;> cases hs
  | sh d =>
    rcases hs with hs | hs <;>
    · cases hs
      simp_arith!
      refine ⟨t, _, rfl, by omega, hlg, by omega, fun n hn0 hn1 => ?_⟩
      obtain ⟨d, hd, hm⟩ := pick n hn0 hn1
      simp_arith! [hd]
      exact hP d hm
  | par o =>
    have hs : o.see = some (.lst xs) ∨ o.see = some (.tup xs) := hs
    cases o with
    | lst ys =>
      rcases hs with hs | hs
      · cases hs
        simp_arith!
        refine ⟨t, _, rfl, by omega, hlg, by omega, fun n hn0 hn1 => ?_⟩
        obtain ⟨d, hd, hm⟩ := pick n hn0 hn1
        simp_arith! [hd]
        exact hP d hm
      · cases hs
    | dic ys => rcases hs with hs | hs <;> cases hs
    | ins C ys => rcases hs with hs | hs <;> cases hs
    | pot t => rcases hs with hs | hs <;> cases hs
    | fdic _ _ ys => rcases hs with hs | hs <;> cases hs
    | obj _ _ => rcases hs with hs | hs <;> cases hs
theorem law__law_letters {K : PySem.W.Frag} (hk : Kx K) : LawT 1 (c__law_letters K) N__law_letters (T__law_letters K) := by
  intro as P PX hl h
  obtain ⟨k, rfl, hk8, hP⟩ := h
  have sz := sz4
  unfold T__law_letters
  simp_arith! [vFor_d]
  refine ⟨⟨by decide, by decide⟩, ?_⟩
  have e0 : ((k : Nat) : Int) + 1 = ((k + 1 : Nat) : Int) := by omega
  rw [e0]
  have hl8 := lnL_len 8 (k + 1) (by simpa [lB] using hk8)
  refine (show ∀ (n m : Nat) (lo : Int) (F : List Nat) (s3 : Sl), nPs (some s3) → (lnL m).length ≤ n → F.length ≤ 8 → (lnL m ++ F) = lnL (k + 1) → vForL _ _ _ okT (rangeD lo 1 n) [Sl.sh (.int (k : Nat)), Sl.sh (.str ⟨F.toArray⟩), Sl.sh (.int (m : Nat)), s3] from ?_) 9 (k + 1) 0 [] .un trivial (by omega) (by simp) (by simp)
  intro n
  induction n with
  | zero =>
    intro m lo F s3 h3 hm hF he
    rw [rangeD_zero]
    refine ⟨trivial, ?_⟩
    cases m with
    | zero =>
      have e : F = lnL (k + 1) := by rw [← he, lnL]; rfl
      rw [e]
      simp_arith!
      exact hP
    | succ m => have := lnL_ne m; omega
  | succ n ih =>
    intro m lo F s3 h3 hm hF he
    rw [rangeD_succ]
    refine ⟨trivial, ?_⟩
    simp_arith!
    refine ⟨h3, ?_⟩
    cases m with
    | zero =>
      have d0 : decide ((0 : Int) < ((0 : Nat) : Int)) = false := rfl
      simp_arith! [d0]
      exact ih 0 _ F _ trivial (by rw [lnL]; simp) hF he
    | succ m =>
      have d0 : decide ((0 : Int) < ((m + 1 : Nat) : Int)) = true := decide_eq_true (by omega)
      have e1 : ((m + 1 : Nat) : Int) - 1 = ((m : Nat) : Int) := by omega
      have e2 : ((m : Nat) : Int) % 26 = ((m % 26 : Nat) : Int) := by omega
      have e3 : ((m : Nat) : Int) / 26 = ((m / 26 : Nat) : Int) := by omega
      simp_arith! [d0, e1, opI_int, e2, alpha_at (i := m % 26) (by omega), one_app, e3]
      have hl := hl8
      rw [← he, lnL_succ] at hl
      rw [lnL_succ] at hm
      simp at hl hm
      refine ⟨by decide, ?_, cdivW26 _, ?_⟩
      · show 1 + (⟨F.toArray⟩ : Str).length ≤ sizeLine
        rw [len_mk]
        omega
      · exact ih (m / 26) _ _ _ trivial (by omega) (by simp; omega) (by rw [← he, lnL_succ]; simp)
theorem log30 : (30 : Int).natAbs.log2 < 9000 := by decide
theorem logbig : (217180140000 : Int).natAbs.log2 < 9000 := by
  have := log_lt (x := 217180140000) (n := 40) (by decide) (by decide) (by decide)
  omega
theorem logn {n : Nat} (h : n < 2 ^ 40) : ((n : Nat) : Int).natAbs.log2 < 9000 := by
  have := log_lt (x := ((n : Nat) : Int)) (n := 40) (by omega) (by exact_mod_cast h) (by decide)
  omega
theorem fresh_loop {K : PySem.W.Frag} {E : VE} {us : List Str} {t' k : Nat} (hul : us.length ≤ 4000) (hs : (k : Int) < 217180140000)
    (hE : ∀ (n : Str) (s4 : Sl), nameB n = true → n ∉ us → E.nx [Sl.par (.pot t'), Sl.par (.lst (us.map D.str)), Sl.sh (.int (k : Nat)), Sl.sh (.str n), s4]) :
    vFor (viRng1 (vCons (vOp opAdd (vCallB oLen (vCons (vVar 1) vNil)) (vC (.int 1))) vNil)) (vgName 4) (vSeq (vAsg 3 (vCall (c__law_letters K) (vCons (vOp opAdd (vVar 2) (vVar 4)) vNil))) (vIfS (vB (vOp (opIn true) (vVar 3) (vVar 1))) vBreak vNext)) E
      [Sl.par (.pot t'), Sl.par (.lst (us.map D.str)), Sl.sh (.int (k : Nat)), Sl.sh (.str ""), Sl.un] := by
  simp_arith! [vFor_d, List.length_map]
  refine ⟨⟨by omega, by omega⟩, ?_⟩
  have e9 : (((us.length : Nat) : Int) + 1).toNat = us.length + 1 := by omega
  rw [e9]
  refine (show ∀ (n j : Nat) (s3 s4 : Sl), nPs (some s3) → nPs (some s4) → j + n = us.length + 1 → (∀ i, i < j → lname (k + i) ∈ us) → vForL _ _ E okT (rangeD ((j : Nat) : Int) 1 n) [Sl.par (.pot t'), Sl.par (.lst (us.map D.str)), Sl.sh (.int (k : Nat)), s3, s4] from ?_) (us.length + 1) 0 _ .un trivial trivial (by omega) (fun i hi => by omega)
  intro n
  induction n with
  | zero =>
    intro j s3 s4 h3 h4 hj hi
    exfalso
    obtain ⟨i, hi1, _, hi2, _⟩ := next_spec us k
    exact hi2 (hi i (by omega))
  | succ n ih =>
    intro j s3 s4 h3 h4 hj hi
    rw [rangeD_succ]
    refine ⟨trivial, ?_⟩
    simp_arith!
    refine ⟨h4, ?_⟩
    have e1 : ((k : Nat) : Int) + ((j : Nat) : Int) = ((k + j : Nat) : Int) := by omega
    rw [e1]
    refine ⟨k + j, rfl, by omega, ?_⟩
    simp_arith! [opIn_strsL]
    refine ⟨h3, ?_⟩
    by_cases c : lname (k + j) ∈ us
    · have d0 : decide (lname (k + j) ∈ us) = true := decide_eq_true c
      simp_arith! [d0]
      have e2 : ((j : Nat) : Int) + 1 = ((j + 1 : Nat) : Int) := by omega
      rw [e2]
      exact ih (j + 1) _ _ trivial trivial (by omega) fun i hi' => by
        by_cases e : i = j
        · subst e; exact c
        · exact hi i (by omega)
    · have d0 : decide (lname (k + j) ∈ us) = false := decide_eq_false c
      simp_arith! [d0]
      exact hE _ _ (lname_ok (by omega)) c
theorem law__law_fresh {K : PySem.W.Frag} (hk : Kx K) : LawT 2 (c__law_fresh K) N__law_fresh (T__law_fresh K) := by
  intro as P PX hl h
  obtain ⟨t, us, rfl, ht, hul, hP⟩ := h
  have sz := sz4
  have szb : (100000 : Nat) < sizeLine := by decide
  unfold T__law_fresh
  simp_arith!
  refine ⟨t, _, rfl, by omega, log30, by omega, fun a ha0 ha => ?_⟩
  simp_arith!
  refine ⟨t + 1, _, rfl, by omega, by decide, by omega, fun b hb0 hb => ?_⟩
  simp_arith!
  by_cases c : b = 0
  · have d0 : decide (b = 0) = true := decide_eq_true c
    simp_arith! [d0]
    refine ⟨t + 1 + 1, _, rfl, by omega, logbig, by omega, fun d hd0 hd => ?_⟩
    simp_arith!
    obtain ⟨k, rfl⟩ : ∃ k : Nat, d = (k : Nat) := ⟨d.toNat, by omega⟩
    refine fresh_loop hul hd fun n s4 hn hu => ?_
    simp_arith!
    refine ⟨by rw [List.length_map]; omega, ?_⟩
    have q := hP (t + 1 + 1 + 1) n (by omega) hn hu
    rw [List.map_append] at q
    exact q
  · have d0 : decide (b = 0) = false := decide_eq_false c
    simp_arith! [d0]
    obtain ⟨k, rfl⟩ : ∃ k : Nat, a = (k : Nat) := ⟨a.toNat, by omega⟩
    refine fresh_loop hul (by omega) fun n s4 hn hu => ?_
    simp_arith!
    refine ⟨by rw [List.length_map]; omega, ?_⟩
    have q := hP (t + 1 + 1) n (by omega) hn hu
    rw [List.map_append] at q
    exact q
theorem getD_at {xs : List D} {i : Nat} (h : i < xs.length) : atI xs ((i : Nat) : Int) = some xs[i] := by
  rw [atI_n h, List.getElem?_eq_getElem h]
theorem law__law_mixed {K : PySem.W.Frag} (hk : Kx K) : LawT 2 (c__law_mixed K) N__law_mixed (T__law_mixed K) := by
  intro as P PX hl h
  obtain ⟨t, xs, rfl, ht, hxl, hP⟩ := h
  unfold T__law_mixed
  simp_arith! [vFor_d]
  refine ⟨⟨by omega, by omega⟩, ?_⟩
  have e9 : ((xs.length : Nat) : Int).toNat = xs.length := by omega
  rw [e9]
  refine (show ∀ (n j : Nat) (ys : List D) (s3 s4 : Sl), nPs (some s3) → nPs (some s4) → j + n = xs.length → ys.Perm xs → vForL _ _ _ okT (rangeD ((j : Nat) : Int) 1 n) [Sl.par (.pot (t + j)), Sl.sh (.lst xs), Sl.own (.lst ys), s3, s4] from ?_) xs.length 0 xs .un .un trivial trivial (by omega) (List.Perm.refl _)
  intro n
  induction n with
  | zero =>
    intro j ys s3 s4 h3 h4 hj hy
    have hj : j = xs.length := by omega
    subst hj
    refine ⟨trivial, ?_⟩
    simp_arith!
    exact hP ys hy
  | succ n ih =>
    intro j ys s3 s4 h3 h4 hj hy
    have hyl := hy.length_eq
    rw [rangeD_succ]
    refine ⟨trivial, ?_⟩
    simp_arith!
    refine ⟨h3, t + j, _, rfl, by omega, logn (by omega), by omega, fun a ha0 ha => ?_⟩
    obtain ⟨o, rfl⟩ : ∃ o : Nat, a = (o : Nat) := ⟨a.toNat, by omega⟩
    have ho : o < ys.length := by omega
    have hj' : j < ys.length := by omega
    have i1 : ixN ys.length ((j : Nat) : Int) = some j := ixN_nat hj'
    have i2 : ixN (ys.set j ys[o]).length ((o : Nat) : Int) = some o := ixN_nat (by rw [List.length_set]; exact ho)
    simp_arith! [getD_at ho, getD_at hj', i1, i2]
    refine ⟨h4, ?_⟩
    have e2 : ((j : Nat) : Int) + 1 = ((j + 1 : Nat) : Int) := by omega
    rw [e2]
    exact ih (j + 1) _ _ _ trivial trivial (by omega) ((List.set_set_perm hj' ho).trans hy)
theorem law__law_size {K : PySem.W.Frag} (hk : Kx K) : LawT 2 (c__law_size K) N__law_size (T__law_size K) := by
  intro as P PX hl h
  obtain ⟨t, most, rfl, ht, hm, hP⟩ := h
  unfold T__law_size
  simp_arith!
  refine ⟨t, _, rfl, by omega, by decide, by omega, fun a ha0 ha => ?_⟩
  simp_arith!
  by_cases c : a = 0
  · have d0 : decide (a = 0) = true := decide_eq_true c
    have e1 : ((most : Nat) : Int) + 1 = ((most + 1 : Nat) : Int) := by omega
    simp_arith! [d0, e1]
    refine ⟨t + 1, _, rfl, by omega, logn (by omega), by omega, fun b hb0 hb => ?_⟩
    simp_arith!
    obtain ⟨k, rfl⟩ : ∃ k : Nat, b = (k : Nat) := ⟨b.toNat, by omega⟩
    exact hP _ k (by omega) (by omega)
  · have d0 : decide (a = 0) = false := decide_eq_false c
    simp_arith! [d0, opI_int]
    refine ⟨by decide, ?_⟩
    by_cases c2 : a % 2 = 0
    · have d1 : decide (a % 2 = 0) = true := decide_eq_true c2
      simp_arith! [d1]
      refine ⟨t + 1, _, rfl, by omega, by decide, by omega, fun b hb0 hb => ?_⟩
      simp_arith!
      obtain ⟨k, rfl⟩ : ∃ k : Nat, b = (k : Nat) := ⟨b.toNat, by omega⟩
      exact hP _ k (by omega) (by omega)
    · have d1 : decide (a % 2 = 0) = false := decide_eq_false c2
      simp_arith! [d1]
      refine ⟨t + 1, _, rfl, by omega, by decide, by omega, fun b hb0 hb => ?_⟩
      simp_arith!
      obtain ⟨k, rfl⟩ : ∃ k : Nat, b = (k : Nat) := ⟨b.toNat, by omega⟩
      exact hP _ k (by omega) (by omega)
end K19

end

section
set_option Elab.async false
set_option linter.all false
set_option autoImplicit false
set_option maxRecDepth 100000
set_option maxHeartbeats 400000
namespace K19
open PySem PySem.Spec PyProof.Rows L2 VL VP
/-! ### sizes of names -/
theorem nameB_len {n : Str} (h : nameB n = true) : n.length ≤ 8 := by
  unfold nameB at h
  simp only [Bool.and_eq_true, decide_eq_true_eq] at h
  rw [len_chs]
  exact h.2.1
/-- what one may rely on of the words of a program -/
structure Wf (ws : List PW) : Prop where
  wok : WOk ws
  sh : Sh ws
  nd : (takesW ws).Nodup
  len : ws.length ≤ 4000
end K19

end

section
set_option Elab.async false
set_option linter.all false
set_option autoImplicit false
set_option maxRecDepth 100000
set_option maxHeartbeats 400000
namespace K19
open PySem PySem.Spec PyProof.Rows L2 VL VP
/-! ### drawn programs -/
abbrev stD (q : List Str × Nat) : D := .tup [.lst (q.1.map D.str), .int (q.2 : Nat)]
theorem words_take {K : PySem.W.Frag} {E : VE} {t : Nat} {d1 d2 : D} {us row : List Str} {F W : List D} {many : Nat} {s6 s9 s10 s11 s12 s13 : Sl} (ht : t < 2 ^ 49) (hul : us.length ≤ 4000) (hF : F.length ≤ 10000) (hW : W.length ≤ 10000) (hr : row.length ≤ 10000) (h9 : nPs (some s9))
    (hE : ∀ (t' : Nat) (n : Str), t' ≤ t + 3 → nameB n = true → n ∉ us → E.nx [Sl.par (.pot t'), Sl.sh d1, Sl.sh d2, Sl.par (.lst ((us ++ [n]).map D.str)), Sl.own (.lst (F ++ [pD (.t n)])), Sl.own (.lst (W ++ [stD (row ++ [n], many)])), s6, Sl.sh (.lst (row.map D.str)), Sl.sh (.int (many : Nat)), Sl.sh (.str n), s10, s11, s12, s13]) :
    (vSeq (vAsg 9 (vCall (c__law_fresh K) (vCons (vVar 0) (vCons (vVar 3) vNil))))
    (vSeq (vDrop (vLm oApp (vVar 4) (vCons (vOp opAdd (vC (.str "/")) (vVar 9)) vNil)))
    (vDrop (vLm oApp (vVar 5) (vCons (vTup (vCons (vOp opAdd (vVar 7) (vLst (vCons (vFrz (vVar 9)) vNil))) (vCons (vFrz (vVar 8)) vNil))) vNil))))) E
      [Sl.par (.pot t), Sl.sh d1, Sl.sh d2, Sl.par (.lst (us.map D.str)), Sl.own (.lst F), Sl.own (.lst W), s6, Sl.sh (.lst (row.map D.str)), Sl.sh (.int (many : Nat)), s9, s10, s11, s12, s13] := by
  have szb : (100000 : Nat) < sizeLine := by decide
  simp_arith!
  refine ⟨t, us, rfl, ht, hul, fun t' n ht' hn hu => ?_⟩
  have hl := nameB_len hn
  simp_arith!
  refine ⟨h9, by show 1 + n.length ≤ sizeLine; omega, by omega, ?_⟩
  try simp_arith!
  refine ⟨by first | omega | (simp only [List.length_map, List.length_cons, List.length_nil]; omega), by omega, ?_⟩
  have q := hE t' n ht' hn hu
  have e : (row ++ [n]).map D.str = row.map D.str ++ [.str n] := by simp
  rw [show stD (row ++ [n], many) = .tup [.lst (row.map D.str ++ [.str n]), .int (many : Nat)] by show D.tup [.lst ((row ++ [n]).map D.str), _] = _; rw [e]] at q
  exact q
def unS : D → Str
  | .str s => s
  | _ => ""
theorem perm_strs {ys : List D} {row : List Str} (h : ys.Perm (row.map D.str)) : ∃ row' : List Str, ys = row'.map D.str ∧ row'.Perm row := by
  refine ⟨ys.map unS, ?_, ?_⟩
  · have : ∀ y ∈ ys, D.str (unS y) = y := by
      intro y hy
      obtain ⟨s, _, rfl⟩ := List.mem_map.mp (h.mem_iff.mp hy)
      rfl
    rw [List.map_map]
    have gen : ∀ l : List D, (∀ y ∈ l, D.str (unS y) = y) → l = l.map (D.str ∘ unS) := by
      intro l hl
      induction l with
      | nil => rfl
      | cons y l ih =>
        rw [List.map_cons, ← ih fun z hz => hl z (List.mem_cons_of_mem _ hz)]
        show _ = D.str (unS y) :: l
        rw [hl y (by simp)]
    exact gen ys this
  · have := h.map unS
    rw [List.map_map] at this
    have e : row.map (unS ∘ D.str) = row := by
      have : (unS ∘ D.str) = id := rfl
      rw [this, List.map_id]
    rw [e] at this
    exact this
theorem words_give {K : PySem.W.Frag} {E : VE} {t : Nat} {d1 d2 : D} {us : O} {row : List Str} {F W : List D} {many : Nat} {s6 s9 s10 s11 s12 s13 : Sl} (ht : t < 2 ^ 49) (hF : F.length ≤ 10000) (hW : W.length ≤ 10000) (hm : many ≤ 1000) (hm0 : 1 ≤ many) (hr : row.length ≤ many + 1)
    (h10 : nPs (some s10)) (h11 : nPs (some s11)) (h12 : nPs (some s12)) (h13 : nPs (some s13))
    (hE : ∀ (t' : Nat) (r1 r2 : List Str) (m1 m2 : Nat) (s10 s11 s12 s13 : Sl), nPs (some s10) → nPs (some s11) → nPs (some s12) → nPs (some s13) → t' ≤ t + row.length + 2 → (r1 ++ r2).Perm row → m1 + m2 + 1 = many → r1.length ≤ m1 + 1 → r2.length ≤ m2 + 1 →
      E.nx [Sl.par (.pot t'), Sl.sh d1, Sl.sh d2, Sl.par us, Sl.own (.lst (F ++ [pD .g])), Sl.own (.lst (W ++ [stD (r2, m2), stD (r1, m1)])), s6, Sl.own (.lst ((r1 ++ r2).map D.str)), Sl.sh (.int (many : Nat)), s9, s10, s11, s12, s13]) :
    (vSeq (vAsg 7 (vCall (c__law_mixed K) (vCons (vVar 0) (vCons (vFrz (vVar 7)) vNil))))
    (vSeq (vAsg 10 (vCallB oMax (vCons (vC (.int 0)) (vCons (vOp opSub (vCallB oLen (vCons (vVar 7) vNil)) (vVar 8)) vNil))))
    (vSeq (vAsg 11 (vOp opAdd (vVar 10) (vCall (c__law_draw K) (vCons (vVar 0) (vCons (vOp opAdd (vOp opSub (vCallB oMin (vCons (vFrz (vCallB oLen (vCons (vVar 7) vNil))) (vCons (vVar 8) vNil))) (vVar 10)) (vC (.int 1))) vNil)))))
    (vSeq (vAsg 12 (vCallB oMax (vCons (vC (.int 0)) (vCons (vOp opSub (vVar 11) (vC (.int 1))) vNil))))
    (vSeq (vAsg 13 (vOp opAdd (vVar 12) (vCall (c__law_draw K) (vCons (vVar 0) (vCons (vOp opAdd (vOp opSub (vOp opSub (vOp opSub (vVar 8) (vC (.int 1))) (vCallB oMax (vCons (vC (.int 0)) (vCons (vOp opSub (vOp opSub (vCallB oLen (vCons (vVar 7) vNil)) (vVar 11)) (vC (.int 1))) vNil)))) (vVar 12)) (vC (.int 1))) vNil)))))
    (vSeq (vDrop (vLm oApp (vVar 4) (vCons (vC (.str "@")) vNil)))
    (vSeq (vDrop (vLm oApp (vVar 5) (vCons (vTup (vCons (vSl (vVar 7) (vPart (vVar 11)) vNoPart) (vCons (vOp opSub (vOp opSub (vVar 8) (vC (.int 1))) (vVar 13)) vNil))) vNil)))
    (vDrop (vLm oApp (vVar 5) (vCons (vTup (vCons (vSl (vVar 7) vNoPart (vPart (vVar 11))) (vCons (vFrz (vVar 13)) vNil))) vNil)))))))))) E
      [Sl.par (.pot t), Sl.sh d1, Sl.sh d2, Sl.par us, Sl.own (.lst F), Sl.own (.lst W), s6, Sl.sh (.lst (row.map D.str)), Sl.sh (.int (many : Nat)), s9, s10, s11, s12, s13] := by
  have szb : (100000 : Nat) < sizeLine := by decide
  simp_arith!
  refine ⟨t, _, rfl, by omega, by rw [List.length_map]; omega, fun ys hys => ?_⟩
  obtain ⟨row', rfl, hp⟩ := perm_strs hys
  have hl := hp.length_eq
  rw [List.length_map]
  simp_arith! [List.length_map, hl]
  -- the least cut
  obtain ⟨least, hle, hl1, hl2, hl3⟩ : ∃ least : Nat, (if ((row.length : Nat) : Int) - ((many : Nat) : Int) > 0 then ((row.length : Nat) : Int) - ((many : Nat) : Int) else 0) = ((least : Nat) : Int) ∧ row.length ≤ many + least ∧ least ≤ 1 ∧ least ≤ row.length := by
    by_cases c : ((row.length : Nat) : Int) - ((many : Nat) : Int) > 0
    · rw [if_pos c]; exact ⟨row.length - many, by omega, by omega, by omega, by omega⟩
    · rw [if_neg c]; exact ⟨0, by omega, by omega, by omega, by omega⟩
  refine ⟨h10, ?_⟩
  try simp_arith!
  rw [hle]
  obtain ⟨mn, hmn, hm1, hm2, hm3⟩ : ∃ mn : Nat, (if ((many : Nat) : Int) < ((row.length : Nat) : Int) then ((many : Nat) : Int) else ((row.length : Nat) : Int)) = ((mn : Nat) : Int) ∧ mn ≤ row.length ∧ mn ≤ many ∧ least ≤ mn := by
    by_cases c : ((many : Nat) : Int) < ((row.length : Nat) : Int)
    · rw [if_pos c]; exact ⟨many, rfl, by omega, by omega, by omega⟩
    · rw [if_neg c]; exact ⟨row.length, rfl, by omega, by omega, by omega⟩
  rw [hmn]
  have e1 : ((mn : Nat) : Int) - ((least : Nat) : Int) + 1 = ((mn - least + 1 : Nat) : Int) := by omega
  rw [e1]
  refine ⟨t + row.length, _, rfl, by omega, logn (by omega), by omega, fun a ha0 ha => ?_⟩
  obtain ⟨ca, rfl⟩ : ∃ ca : Nat, a = (ca : Nat) := ⟨a.toNat, by omega⟩
  obtain ⟨cut, e2, hcut⟩ : ∃ cut : Nat, ((least : Nat) : Int) + ((ca : Nat) : Int) = (cut : Int) ∧ least + ca = cut := ⟨least + ca, by omega, rfl⟩
  simp_arith! [e2, List.length_map, hl]
  refine ⟨h11, h12, ?_⟩
  try simp_arith!
  obtain ⟨low, hlo, hlo1⟩ : ∃ low : Nat, (if ((cut : Nat) : Int) - 1 > 0 then ((cut : Nat) : Int) - 1 else 0) = ((low : Nat) : Int) ∧ low = cut - 1 := by
    by_cases c : ((cut : Nat) : Int) - 1 > 0
    · rw [if_pos c]; exact ⟨cut - 1, by omega, rfl⟩
    · rw [if_neg c]; exact ⟨0, rfl, by omega⟩
  rw [hlo]
  obtain ⟨hi, hhi, hhi1⟩ : ∃ hi : Nat, (if ((row.length : Nat) : Int) - ((cut : Nat) : Int) - 1 > 0 then ((row.length : Nat) : Int) - ((cut : Nat) : Int) - 1 else 0) = ((hi : Nat) : Int) ∧ hi = row.length - cut - 1 := by
    by_cases c : ((row.length : Nat) : Int) - ((cut : Nat) : Int) - 1 > 0
    · rw [if_pos c]; exact ⟨row.length - cut - 1, by omega, rfl⟩
    · rw [if_neg c]; exact ⟨0, rfl, by omega⟩
  rw [hhi]
  have e3 : ((many : Nat) : Int) - 1 - ((hi : Nat) : Int) - ((low : Nat) : Int) + 1 = ((many - 1 - hi - low + 1 : Nat) : Int) := by omega
  rw [e3]
  refine ⟨t + row.length + 1, _, rfl, by omega, logn (by omega), by omega, fun b hb0 hb => ?_⟩
  obtain ⟨cb, rfl⟩ : ∃ cb : Nat, b = (cb : Nat) := ⟨b.toNat, by omega⟩
  obtain ⟨more, e4, hmore⟩ : ∃ more : Nat, ((low : Nat) : Int) + ((cb : Nat) : Int) = (more : Int) ∧ low + cb = more := ⟨low + cb, by omega, rfl⟩
  have k1 : VL.cutD (row'.map D.str) (some ((cut : Nat) : Int)) none = (row'.drop cut).map D.str := by
    refine cut_suf (a := (row'.take cut).map D.str) ?_ (by rw [List.length_map, List.length_take, Nat.min_eq_left (by omega)])
    rw [← List.map_append, List.take_append_drop]
  have k2 : VL.cutD (row'.map D.str) none (some ((cut : Nat) : Int)) = (row'.take cut).map D.str := by
    refine cut_pre (b := (row'.drop cut).map D.str) ?_ (by rw [List.length_map, List.length_take, Nat.min_eq_left (by omega)])
    rw [← List.map_append, List.take_append_drop]
  obtain ⟨rest, e5, hrest⟩ : ∃ rest : Nat, ((many : Nat) : Int) - 1 - (more : Int) = (rest : Int) ∧ more + rest + 1 = many := ⟨many - 1 - more, by omega, by omega⟩
  simp_arith! [e4, k1, k2, e5]
  refine ⟨h13, by omega, by omega, ?_⟩
  try simp_arith!
  refine ⟨by first | omega | (simp only [List.length_append, List.length_cons, List.length_nil]; omega), ?_⟩
  try simp_arith!
  have q := hE (t + row.length + 1 + 1) (row'.take cut) (row'.drop cut) more rest (.sh (.int (least : Nat))) (.sh (.int (cut : Nat))) (.sh (.int (low : Nat))) (.sh (.int (more : Nat))) trivial trivial trivial trivial (by omega) (by rw [List.take_append_drop]; exact hp) (by omega) (by rw [List.length_take]; omega) (by rw [List.length_drop]; omega)
  rw [List.take_append_drop] at q
  have eW : ∀ a b : D, W ++ [a, b] = W ++ [a] ++ [b] := fun a b => by simp
  rw [eW] at q
  exact q
end K19

end

section
set_option Elab.async false
set_option linter.all false
set_option autoImplicit false
set_option maxRecDepth 100000
set_option maxHeartbeats 400000
namespace K19
open PySem PySem.Spec PyProof.Rows L2 VL VP
theorem gen_v {U : List Str} {n : Str} : Gen U [n] 0 (.v n) where
  op := List.Perm.refl _
  tk := List.nodup_nil
  fr := fun x h => by simp [tkT] at h
  nm := fun x h => by simp [tkT] at h
  ln := trivial
  gv := rfl
theorem gen_t {U row : List Str} {n : Str} {many : Nat} {b : Tm} (h : Gen (U ++ [n]) (row ++ [n]) many b) (hn : n ∉ U) (hb : nameB n = true) (hr : ∀ x ∈ row, x ∈ U) : Gen U row many (.t n b) := by
  have hnr : n ∉ row := fun z => hn (hr n z)
  refine ⟨?_, ?_, fun x hx => ?_, fun x hx => ?_, ⟨h.op.mem_iff.mpr (by simp), h.ln⟩, h.gv⟩
  · have := h.op.erase n
    rw [List.erase_append, if_neg hnr] at this
    simpa [opT] using this
  · refine List.nodup_cons.mpr ⟨fun z => ?_, h.tk⟩
    exact h.fr n z (by simp)
  · rcases List.mem_cons.mp hx with rfl | hx
    · exact hn
    · exact fun z => h.fr x hx (by simp [z])
  · rcases List.mem_cons.mp hx with rfl | hx
    · exact hb
    · exact h.nm x hx
theorem gen_g {U r1 r2 row : List Str} {m1 m2 many : Nat} {f a : Tm} (hf : Gen U r1 m1 f) (ha : Gen (U ++ tkT f) r2 m2 a) (hp : (r1 ++ r2).Perm row) (hm : m1 + m2 + 1 = many) : Gen U row many (.g f a) := by
  refine ⟨(hf.op.append ha.op).trans hp, ?_, fun x hx => ?_, fun x hx => ?_, ⟨hf.ln, ha.ln⟩, ?_⟩
  · refine List.nodup_append.mpr ⟨hf.tk, ha.tk, fun x hx y hy e => ?_⟩
    subst e
    exact ha.fr x hy (by simp [hx])
  · rcases List.mem_append.mp hx with hx | hx
    · exact hf.fr x hx
    · exact fun z => ha.fr x hx (by simp [z])
  · rcases List.mem_append.mp hx with hx | hx
    · exact hf.nm x hx
    · exact ha.nm x hx
  · show gvT f + gvT a + 1 = many
    rw [hf.gv, ha.gv, hm]
/-- one program for each row that waits -/
inductive GenL : List Str → List (List Str × Nat) → List Tm → Prop
  | nil {U : List Str} : GenL U [] []
  | cons {U row : List Str} {many : Nat} {m : Tm} {st : List (List Str × Nat)} {ms : List Tm} (h : Gen U row many m) (t : GenL (U ++ tkT m) st ms) : GenL U ((row, many) :: st) (m :: ms)
def flats (ms : List Tm) : List PW := ms.flatMap flatT
def tks (ms : List Tm) : List Str := ms.flatMap tkT
def wts (st : List (List Str × Nat)) : Nat := (st.map fun q => 3 * q.2 + 2 - q.1.length).sum
theorem law__law_words {K : PySem.W.Frag} (hk : Kx K) : LawT 4 (c__law_words K) N__law_words (T__law_words K) := by
  intro as P PX hl h
  obtain ⟨t, row, us, many, rfl, ht, hr, hm, hul, hrn, hru, hP⟩ := h
  have szb : (100000 : Nat) < sizeLine := by decide
  unfold T__law_words
  simp_arith! [vFor_d]
  have cm3 : CMulW 3 ((many : Nat) : Int) := by
    unfold CMulW
    have := logn (n := many) (by omega)
    have e : (3 : Int).natAbs.log2 = 1 := by decide
    rw [e]
    omega
  refine ⟨cm3, ⟨by omega, by omega⟩, ?_⟩
  have e9 : (3 * ((many : Nat) : Int) + 2).toNat = 3 * many + 2 := by omega
  rw [e9]
  refine (show ∀ (n : Nat) (lo : Int) (t' : Nat) (us' : List Str) (F : List PW) (st : List (List Str × Nat)) (s6 s7 s8 s9 s10 s11 s12 s13 : Sl), nPs (some s6) → nPs (some s7) → nPs (some s8) → nPs (some s9) → nPs (some s10) → nPs (some s11) → nPs (some s12) → nPs (some s13) →
      wts st ≤ n → (∀ q ∈ st, q.1.length ≤ q.2 + 1 ∧ q.2 ≤ 400 ∧ ∀ x ∈ q.1, x ∈ us') → t' + 1000 * n ≤ t + 2000000 → us'.length + n ≤ 4000 → F.length + n ≤ 5000 → st.length + n ≤ 5000 →
      (∀ (ms : List Tm) (t'' : Nat), t'' ≤ t + 2000000 → GenL us' st ms → P (.sh (tupP (F ++ flats ms))) [Sl.par (.pot t''), Sl.sh (.lst (row.map D.str)), Sl.sh (.int (many : Nat)), Sl.par (.lst ((us' ++ tks ms).map D.str))]) →
      vForL _ _ _ okT (rangeD lo 1 n) [Sl.par (.pot t'), Sl.sh (.lst (row.map D.str)), Sl.sh (.int (many : Nat)), Sl.par (.lst (us'.map D.str)), Sl.own (.lst (pDs F)), Sl.own (.lst (st.reverse.map stD)), s6, s7, s8, s9, s10, s11, s12, s13] from ?_)
      (3 * many + 2) 0 t us [] [(row, many)] .un .un .un .un .un .un .un .un trivial trivial trivial trivial trivial trivial trivial trivial (by simp [wts]) (fun q hq => by simp at hq; subst hq; exact ⟨hr, hm, hru⟩) (by omega) (by omega) (by simp; omega) (by simp; omega) (fun ms t'' ht'' hg => ?_)
  rotate_left
  · cases hg with
    | @cons _ _ _ m _ ms h t =>
      cases t
      have q := hP t'' m (by omega) h
      simpa [flats, tks] using q
  intro n
  induction n with
  | zero =>
    intro lo t' us' F st s6 s7 s8 s9 s10 s11 s12 s13 h6 h7 h8 h9 h10 h11 h12 h13 hw hg ht' hu hF hs hQ
    rw [rangeD_zero]
    have e : st = [] := by
      cases st with
      | nil => rfl
      | cons q st =>
        have := (hg q (by simp)).1
        simp only [wts, List.map_cons, List.sum_cons] at hw
        omega
    subst e
    refine ⟨trivial, ?_⟩
    simp_arith!
    have q := hQ [] t' (by omega) .nil
    simpa [flats, tks] using q
  | succ n ih =>
    intro lo t' us' F st s6 s7 s8 s9 s10 s11 s12 s13 h6 h7 h8 h9 h10 h11 h12 h13 hw hg ht' hu hF hs hQ
    rw [rangeD_succ]
    refine ⟨trivial, ?_⟩
    cases st with
    | nil =>
      have d0 : decide (((([] : List (List Str × Nat)).reverse.map stD).length : Nat) = (0 : Int)) = true := rfl
      simp_arith! [d0]
      refine ⟨h6, ?_⟩
      have q := hQ [] t' (by omega) .nil
      simpa [flats, tks] using q
    | cons q st =>
      obtain ⟨r, m⟩ := q
      obtain ⟨hg1, hg2, hg3⟩ := hg (r, m) (by simp)
      have hg1 : r.length ≤ m + 1 := hg1
      have hg2 : m ≤ 400 := hg2
      have hgt : ∀ q ∈ st, q.1.length ≤ q.2 + 1 ∧ q.2 ≤ 400 ∧ ∀ x ∈ q.1, x ∈ us' := fun q hq => hg q (List.mem_cons_of_mem _ hq)
      have hw' : (3 * m + 2 - r.length) + wts st ≤ n + 1 := by simpa [wts] using hw
      have hs' : st.length + 1 + (n + 1) ≤ 5000 := by simpa using hs
      have l0 : decide (((((r, m) :: st).reverse.map stD).length : Int) = 0) = false := decide_eq_false (by simp; omega)
      have l1 : (((r, m) :: st).reverse.map stD).getLast? = some (stD (r, m)) := by simp
      have l2 : (((r, m) :: st).reverse.map stD).dropLast = st.reverse.map stD := by simp
      simp_arith! [l0, l1, l2]
      refine ⟨h6, h7, h8, ?_⟩
      -- a name at last
      by_cases cA : m = 0 ∧ r.length = 1
      · obtain ⟨rfl, hr1⟩ := cA
        obtain ⟨x, rfl⟩ : ∃ x, r = [x] := by
          cases r with
          | nil => simp at hr1
          | cons x r => cases r with
            | nil => exact ⟨x, rfl⟩
            | cons y r => simp at hr1
        have d1 : decide (((0 : Nat) : Int) = 0) = true := rfl
        have d2 : decide (((([x] : List Str).map D.str).length : Int) = 1) = true := rfl
        have d3 : atI (([x] : List Str).map D.str) 0 = some (.str x) := rfl
        simp_arith! [d1, d2, d3]
        refine ⟨by rw [pDs_len]; omega, ?_⟩
        have e : pDs F ++ [D.str x] = pDs (F ++ [.v x]) := by rw [pDs_app]; rfl
        rw [e]
        refine ih _ t' us' _ st _ _ _ s9 s10 s11 s12 s13 trivial trivial trivial h9 h10 h11 h12 h13 (by simp at hw'; omega) hgt (by omega) (by omega) (by simp; omega) (by omega) fun ms t'' ht'' hgl => ?_
        have q := hQ (.v x :: ms) t'' ht'' (.cons gen_v (by simpa [tkT] using hgl))
        simpa [flats, tks, flatT, tkT] using q
      · -- a name is taken
        have eW1 : ∀ q : List Str × Nat, (q :: st).reverse.map stD = st.reverse.map stD ++ [stD q] := fun q => by simp
        have eW2 : ∀ q q' : List Str × Nat, (q :: q' :: st).reverse.map stD = st.reverse.map stD ++ [stD q', stD q] := fun q q' => by simp
        have hT : ∀ (t1 t2 : Nat) (x : Str), t1 ≤ t' + 1 → t2 ≤ t1 + 3 → r.length ≤ m → nameB x = true → x ∉ us' → _ := fun t1 t2 x h1 h2 hrm hx hxu => ih (lo + 1) t2 (us' ++ [x]) (F ++ [.t x]) ((r ++ [x], m) :: st) (.sh (.int lo)) (.sh (.lst (r.map D.str))) (.sh (.int (m : Nat))) (.sh (.str x)) s10 s11 s12 s13 trivial trivial trivial trivial h10 h11 h12 h13
          (by simp [wts] at hw ⊢; omega) (fun q hq => by
            rcases List.mem_cons.mp hq with rfl | hq
            · exact ⟨by simp; omega, hg2, fun y hy => by
                rcases List.mem_append.mp hy with hy | hy
                · exact List.mem_append.mpr (.inl (hg3 y hy))
                · exact List.mem_append.mpr (.inr hy)⟩
            · obtain ⟨a, b, c⟩ := hgt q hq
              exact ⟨a, b, fun y hy => List.mem_append.mpr (.inl (c y hy))⟩) (by omega) (by simp; omega) (by simp; omega) (by simp; omega) (fun ms t'' ht'' hgl => by
            cases hgl with
            | @cons _ _ _ b _ ms hb hgl =>
              have q := hQ (.t x b :: ms) t'' ht'' (.cons (gen_t hb hxu hx hg3) (by simpa [tkT] using hgl))
              simpa [flats, tks, flatT, tkT] using q)
        -- something is given
        have hG : ∀ (t1 t2 : Nat) (r1 r2 : List Str) (m1 m2 : Nat) (s10 s11 s12 s13 : Sl), nPs (some s10) → nPs (some s11) → nPs (some s12) → nPs (some s13) → t1 ≤ t' + 1 → t2 ≤ t1 + r.length + 2 → (r1 ++ r2).Perm r → m1 + m2 + 1 = m → r1.length ≤ m1 + 1 → r2.length ≤ m2 + 1 → _ := fun t1 t2 r1 r2 m1 m2 s10 s11 s12 s13 h10 h11 h12 h13 h1 h2 hp hmm hl1 hl2 => ih (lo + 1) t2 us' (F ++ [.g]) ((r1, m1) :: (r2, m2) :: st) (.sh (.int lo)) (.own (.lst ((r1 ++ r2).map D.str))) (.sh (.int (m : Nat))) s9 s10 s11 s12 s13 trivial trivial trivial h9 h10 h11 h12 h13
          (by have := hp.length_eq; simp [wts] at hw this ⊢; omega) (fun q hq => by
            rcases List.mem_cons.mp hq with rfl | hq
            · exact ⟨hl1, by show m1 ≤ 400; omega, fun y hy => hg3 y (hp.mem_iff.mp (List.mem_append.mpr (.inl hy)))⟩
            · rcases List.mem_cons.mp hq with rfl | hq
              · exact ⟨hl2, by show m2 ≤ 400; omega, fun y hy => hg3 y (hp.mem_iff.mp (List.mem_append.mpr (.inr hy)))⟩
              · exact hgt q hq) (by omega) (by omega) (by simp; omega) (by simp; omega) (fun ms t'' ht'' hgl => by
            cases hgl with
            | @cons _ _ _ f _ ms hf hgl =>
              cases hgl with
              | @cons _ _ _ a _ ms ha hgl =>
                have q := hQ (.g f a :: ms) t'' ht'' (.cons (gen_g hf ha hp hmm) (by simpa [tkT] using hgl))
                simpa [flats, tks, flatT, tkT] using q)
        have eF : ∀ w : PW, pDs (F ++ [w]) = pDs F ++ [pD w] := fun w => by rw [pDs_app]; rfl
        have lW : (st.reverse.map stD).length ≤ 10000 := by simp; omega
        have lF : (pDs F).length ≤ 10000 := by rw [pDs_len]; omega
        by_cases cm : m = 0
        · subst cm
          have hr0 : r = [] := by
            cases r with
            | nil => rfl
            | cons x r =>
              simp at hg1
              subst hg1
              simp at cA
          subst hr0
          have d1 : decide (((0 : Nat) : Int) = 0) = true := rfl
          have d2 : decide (((([] : List Str).map D.str).length : Int) = 1) = false := rfl
          simp_arith! [d1, d2, -VL.sIfS_t, -VL.sIfS_f]
          rw [sIfS_f]
          simp_arith! [d1, d2, -VL.sIfS_t, -VL.sIfS_f]
          rw [sIfS_t]
          refine words_take (t := t') (us := us') (row := []) (by omega) (by omega) lF lW (by simp) h9 fun t2 x ht2 hx hxu => ?_
          have q := hT t' t2 x (by omega) ht2 (by simp) hx hxu
          rw [eW1, eF] at q
          exact q
        · have d1 : decide (((m : Nat) : Int) = 0) = false := decide_eq_false (by omega)
          simp_arith! [d1, -VL.sIfS_t, -VL.sIfS_f]
          rw [sIfS_f]
          by_cases cl : r.length ≤ m
          · have d2 : decide (((r.map D.str).length : Int) ≤ ((m : Nat) : Int)) = true := decide_eq_true (by simp; omega)
            simp_arith! [d1, d2, -VL.sIfS_t, -VL.sIfS_f]
            refine ⟨t', _, rfl, by omega, by decide, by omega, fun a ha0 ha => ?_⟩
            simp_arith! [-VL.sIfS_t, -VL.sIfS_f]
            by_cases ca : a = 0
            · have d3 : decide (a = 0) = true := decide_eq_true ca
              rw [d3, sIfS_t]
              refine words_take (t := t' + 1) (us := us') (row := r) (by omega) (by omega) lF lW (by omega) h9 fun t2 x ht2 hx hxu => ?_
              have q := hT (t' + 1) t2 x (by omega) ht2 cl hx hxu
              rw [eW1, eF] at q
              exact q
            · have d3 : decide (a = 0) = false := decide_eq_false ca
              rw [d3, sIfS_f]
              refine words_give (t := t' + 1) (row := r) (many := m) (by omega) lF lW (by omega) (by omega) hg1 h10 h11 h12 h13 fun t2 r1 r2 m1 m2 s10 s11 s12 s13 h10 h11 h12 h13 ht2 hp hmm hl1 hl2 => ?_
              have q := hG (t' + 1) t2 r1 r2 m1 m2 s10 s11 s12 s13 h10 h11 h12 h13 (by omega) ht2 hp hmm hl1 hl2
              rw [eW2, eF] at q
              exact q
          · have d2 : decide (((r.map D.str).length : Int) ≤ ((m : Nat) : Int)) = false := decide_eq_false (by simp; omega)
            simp_arith! [d1, d2, -VL.sIfS_t, -VL.sIfS_f]
            rw [sIfS_f]
            refine words_give (t := t') (row := r) (many := m) (by omega) lF lW (by omega) (by omega) hg1 h10 h11 h12 h13 fun t2 r1 r2 m1 m2 s10 s11 s12 s13 h10 h11 h12 h13 ht2 hp hmm hl1 hl2 => ?_
            have q := hG t' t2 r1 r2 m1 m2 s10 s11 s12 s13 h10 h11 h12 h13 (by omega) ht2 hp hmm hl1 hl2
            rw [eW2, eF] at q
            exact q
end K19

end

section
set_option Elab.async false
set_option linter.all false
set_option autoImplicit false
set_option maxRecDepth 100000
set_option maxHeartbeats 400000
namespace K19
open PySem PySem.Spec PyProof.Rows L2 VL VP
/-! ### what is drawn is a program -/
theorem flat_one : ∀ m : Tm, One (flatT m)
  | .v n => one_v n
  | .g f a => one_g (flat_one f) (flat_one a)
  | .t n b => one_t (flat_one b)
theorem flat_takes : ∀ m : Tm, takesW (flatT m) = tkT m
  | .v n => rfl
  | .g f a => by
    show takesW (flatT f ++ flatT a) = _
    rw [takes_app, flat_takes f, flat_takes a]
    rfl
  | .t n b => by
    show n :: takesW (flatT b) = _
    rw [flat_takes b]
    rfl
theorem flat_vars : ∀ {m : Tm}, lnT m → (varsW (flatT m)).Perm (opT m ++ tkT m)
  | .v n, _ => List.Perm.refl _
  | .g f a, h => by
    have h1 := flat_vars h.1
    have h2 := flat_vars h.2
    show (varsW (flatT f ++ flatT a)).Perm ((opT f ++ opT a) ++ (tkT f ++ tkT a))
    rw [vars_app]
    refine (h1.append h2).trans ?_
    rw [List.append_assoc, List.append_assoc]
    refine List.Perm.append_left _ ?_
    rw [← List.append_assoc, ← List.append_assoc]
    exact List.Perm.append_right _ List.perm_append_comm
  | .t n b, h => by
    have h2 := flat_vars h.2
    show (varsW (flatT b)).Perm ((opT b).erase n ++ n :: tkT b)
    refine h2.trans ?_
    have e := List.perm_cons_erase h.1
    refine (e.append_right _).trans ?_
    exact List.perm_middle.symm
theorem flat_len : ∀ {m : Tm}, lnT m → (flatT m).length + (opT m).length = 3 * gvT m + 2
  | .v n, _ => rfl
  | .g f a, h => by
    have h1 := flat_len h.1
    have h2 := flat_len h.2
    show (PW.g :: (flatT f ++ flatT a)).length + (opT f ++ opT a).length = 3 * (gvT f + gvT a + 1) + 2
    simp only [List.length_cons, List.length_append]
    omega
  | .t n b, h => by
    have h2 := flat_len h.2
    show (PW.t n :: flatT b).length + ((opT b).erase n).length = 3 * gvT b + 2
    rw [List.length_erase_of_mem h.1]
    have := List.length_pos_of_mem h.1
    simp only [List.length_cons]
    omega
theorem flat_tk : ∀ {m : Tm}, lnT m → Tk (flatT m)
  | .v n, _ => by
    intro A x R h
    cases A with
    | nil => cases h
    | cons w A => have := congrArg List.length h; simp [flatT] at this
  | .g f a, hl => by
    intro A x R h
    cases A with
    | nil => cases h
    | cons w A =>
      have h : flatT f ++ flatT a = A ++ .t x :: R := (List.cons.inj h).2
      rcases List.append_eq_append_iff.mp h with ⟨as, h1, h2⟩ | ⟨cs, h1, h2⟩
      · exact flat_tk hl.2 as x R h2
      · cases cs with
        | nil =>
          exact flat_tk hl.2 [] x R h2.symm
        | cons c cs =>
          obtain ⟨rfl, rfl⟩ := List.cons.inj h2
          obtain ⟨b, C, rfl, h3, h4⟩ := flat_tk hl.1 A x cs h1
          exact ⟨b, C ++ flatT a, by simp, h3, h4⟩
  | .t n b, hl => by
    intro A x R h
    cases A with
    | nil =>
      have h : PW.t n :: flatT b = .t x :: R := h
      obtain ⟨h1, rfl⟩ := List.cons.inj h
      cases h1
      exact ⟨flatT b, [], by simp, flat_one b, mem_vars.mp ((flat_vars hl.2).mem_iff.mpr (by simp [hl.1]))⟩
    | cons w A => exact flat_tk hl.2 A x R (List.cons.inj h).2
theorem okP_gen {us row : List Str} {many : Nat} {m : Tm} (h : Gen us row many m) (hn : row.Nodup) (hr : ∀ n ∈ row, n ∈ us) (hb : ∀ n ∈ row, nameB n = true) (hm : many ≤ 300) : OkP (flatT m) ∧ ∀ n, n ∈ openW (flatT m) ↔ n ∈ row := by
  have hv := flat_vars h.ln
  have ht := flat_takes m
  have hop : ∀ n, n ∈ opT m ↔ n ∈ row := fun n => h.op.mem_iff
  have hdis : ∀ n ∈ opT m, n ∉ tkT m := fun n h1 h2 => h.fr n h2 (hr n ((hop n).mp h1))
  refine ⟨⟨fun w hw => ?_, flat_one m, ⟨by rw [ht]; exact h.tk, hv.nodup_iff.mpr ?_⟩, flat_tk h.ln, ?_⟩, fun n => ?_⟩
  · cases w with
    | g => rfl
    | t n => exact h.nm n (by rw [← ht]; exact mem_takes.mpr hw)
    | v n =>
      rcases List.mem_append.mp (hv.mem_iff.mp (mem_vars.mpr hw)) with z | z
      · exact hb n ((hop n).mp z)
      · exact h.nm n z
  · exact List.nodup_append.mpr ⟨h.op.nodup_iff.mpr hn, h.tk, fun a ha b hb e => hdis a ha (e ▸ hb)⟩
  · have := flat_len h.ln
    rw [h.gv] at this
    omega
  · rw [mem_open, ht]
    constructor
    · rintro ⟨h1, h2⟩
      rcases List.mem_append.mp (hv.mem_iff.mp h1) with z | z
      · exact (hop n).mp z
      · exact absurd z h2
    · intro h1
      have h1 := (hop n).mpr h1
      exact ⟨hv.mem_iff.mpr (List.mem_append.mpr (.inl h1)), hdis n h1⟩
end K19

end

section
set_option Elab.async false
set_option linter.all false
set_option autoImplicit false
set_option maxRecDepth 100000
set_option maxHeartbeats 400000
namespace K19
open PySem PySem.Spec PyProof.Rows L2 VL VP
/-! ### trees and words that are programs -/
theorem okP_tr {m : Tr} (hl : m.Lin) (hn : ∀ n ∈ Tr.nms m, nameB n = true) (hs : (Tr.fl m).length ≤ 1000) : OkP (Tr.fl m) where
  word := fun w hw => by
    cases w with
    | g => rfl
    | t n => exact hn n (Tr.fl_nms hw rfl)
    | v n => exact hn n (Tr.fl_nms hw rfl)
  one := Tr.fl_one m
  nd := ⟨by rw [Tr.fl_tk]; exact hl.nt, by rw [Tr.fl_vs]; exact hl.nv⟩
  tk := Tr.has_tkW hl.h
  len := hs
theorem okP_nm {m : Tr} (h : OkP (Tr.fl m)) : ∀ n ∈ Tr.nms m, nameB n = true := fun n hn => by
  rcases Tr.mem_nms.mp hn with q | q
  · exact h.word (.v n) (mem_vars.mp (by rw [Tr.fl_vs]; exact q))
  · exact h.word (.t n) (mem_takes.mp (by rw [Tr.fl_tk]; exact q))
theorem red_size {m p : Tr} (h : Tr.Red m p) (hl : m.Lin) : (Tr.fl p).length ≤ (Tr.fl m).length := by
  obtain ⟨_, h2, _, l1, g1⟩ := Tr.red_vs h hl
  rw [Tr.fl_size, Tr.fl_size, Tr.vs_gv, Tr.vs_gv]
  have := pigeon l1.nt h2
  omega
theorem okP_red {m p : Tr} (h : OkP (Tr.fl m)) (hl : m.Lin) (r : Tr.Red m p) : OkP (Tr.fl p) ∧ p.Lin :=
  have l1 := (Tr.red_vs r hl).2.2.2.1
  ⟨okP_tr l1 (fun n hn => okP_nm h n (Tr.red_nms r hl n hn)) (Nat.le_trans (red_size r hl) h.len), l1⟩
theorem okP_way : ∀ {k : Nat} {m e : Tr}, OkP (Tr.fl m) → m.Lin → Tr.Way k m e → OkP (Tr.fl e) ∧ e.Lin
  | 0, m, e, h, hl, w => by cases w; exact ⟨h, hl⟩
  | k + 1, m, e, h, hl, w => by
    cases w with
    | cons r w =>
      obtain ⟨a, b⟩ := okP_red h hl r
      exact okP_way a b w
theorem stepB_at {ws : List PW} {p : Nat} (h : stepB ws p = true) : ∃ A x R, ws = A ++ .g :: .t x :: R ∧ A.length = p := by
  unfold stepB at h
  cases h1 : ws[p]? with
  | none => rw [h1] at h; cases h
  | some w =>
    cases h2 : ws[p + 1]? with
    | none => rw [h1, h2] at h; cases h
    | some w' =>
      rw [h1, h2] at h
      have h : (isG w && isT w') = true := h
      cases w with
      | t n => cases h
      | v n => cases h
      | g =>
        cases w' with
        | g => cases h
        | v n => cases h
        | t x =>
          obtain ⟨l1, e1⟩ := List.getElem?_eq_some_iff.mp h1
          obtain ⟨l2, e2⟩ := List.getElem?_eq_some_iff.mp h2
          refine ⟨ws.take p, x, ws.drop (p + 2), ?_, by rw [List.length_take]; omega⟩
          have q1 : ws.drop p = ws[p] :: ws.drop (p + 1) := List.drop_eq_getElem_cons l1
          have q2 : ws.drop (p + 1) = ws[p + 1] :: ws.drop (p + 2) := List.drop_eq_getElem_cons l2
          rw [e1, q2, e2] at q1
          rw [← q1, List.take_append_drop]
theorem stepB_of {A R : List PW} {x : Str} : stepB (A ++ .g :: .t x :: R) A.length = true := by
  unfold stepB
  rw [List.getElem?_append_right (Nat.le_refl _), List.getElem?_append_right (by omega), Nat.sub_self, show A.length + 1 - A.length = 1 by omega]
  rfl
theorem mem_steps {ws : List PW} {p : Nat} : p ∈ stepsW ws ↔ ∃ A x R, ws = A ++ .g :: .t x :: R ∧ A.length = p := by
  unfold stepsW
  rw [List.mem_filter, List.mem_range]
  constructor
  · exact fun h => stepB_at h.2
  · rintro ⟨A, x, R, rfl, rfl⟩
    exact ⟨by simp, stepB_of⟩
theorem steps_nf {m : Tr} (hl : m.Lin) : stepsW (Tr.fl m) = [] ↔ m.Nf := by
  rw [Tr.nf_at hl, List.eq_nil_iff_forall_not_mem]
  constructor
  · exact fun h A x R e => h _ (mem_steps.mpr ⟨A, x, R, e, rfl⟩)
  · exact fun h p hp => by
      obtain ⟨A, x, R, e, _⟩ := mem_steps.mp hp
      exact h A x R e
/-- a place of a step: what stands there, and the tree behind it -/
theorem step_tree {m : Tr} {p : Nat} (hl : m.Lin) (hp : p ∈ stepsW (Tr.fl m)) : ∃ (A B1 B2 C E : List PW) (x : Str) (q : Tr), StepAt (Tr.fl m) A B1 B2 C E x ∧ A.length = p ∧ Tr.Red m q ∧ Tr.fl q = A ++ B1 ++ C ++ B2 ++ E := by
  obtain ⟨A, x, R, e, hA⟩ := mem_steps.mp hp
  obtain ⟨B1, B2, C, E, q, h1, h2, h3, hr, hq⟩ := Tr.red_at hl e
  exact ⟨A, B1, B2, C, E, x, q, ⟨h1, h2, h3⟩, hA, hr, hq⟩
theorem steps_ne {m p : Tr} (hl : m.Lin) (h : Tr.Red m p) : stepsW (Tr.fl m) ≠ [] := fun e => (steps_nf hl).mp e p h
theorem wlt : (1000 : Nat) < sizeLine := by decide
theorem law_way_to_rest {K : PySem.W.Frag} (hk : Kx K) : LawT 1 (c_way_to_rest K) N_way_to_rest (T_way_to_rest K) := by
  intro as P PX hl h
  obtain ⟨m, e, k, hok, hlin, hway, hnf, rfl, hP⟩ := h
  have sz := sz4
  unfold T_way_to_rest
  simp_arith!
  refine ⟨Tr.fl m, hok.wok, by have := hok.len; omega, rfl, ?_⟩
  simp_arith! [vWhile_d]
  refine ⟨k + 1, ?_⟩
  have hk1 : k ≤ 1000 := by
    have h1 := (Tr.way_lin hlin hway).2.1
    have h2 := Tr.fl_size m
    have := hok.len
    omega
  refine (show ∀ (j : Nat) (q : Tr) (way : List D), OkP (Tr.fl q) → q.Lin → Tr.Way j q e → way.length + j = k → vWhileN _ _ _ (j + 1) [Sl.sh (tupP (Tr.fl q)), Sl.own (.lst way), Sl.own (.lst ((stepsW (Tr.fl q)).map fun (n : Nat) => D.int n))] from ?_) k m [] hok hlin hway (by simp)
  intro j
  induction j with
  | zero =>
    intro q way hq ql qw hwl
    cases qw
    rw [vWhileN_s, (steps_nf ql).mpr hnf]
    have d0 : decide ((0 : Int) < (((([] : List Nat).map fun (n : Nat) => D.int n).length : Nat) : Int)) = false := rfl
    simp_arith! [d0]
    exact hP way hwl
  | succ j ih =>
    intro q way hq ql qw hwl
    rw [vWhileN_s]
    cases hs : stepsW (Tr.fl q) with
    | nil =>
      cases qw with
      | cons r w => exact absurd hs (steps_ne ql r)
    | cons i is =>
      obtain ⟨A, B1, B2, C, E, x, p, sa, hA, r, hp⟩ := step_tree ql (by rw [hs]; simp : i ∈ stepsW (Tr.fl q))
      obtain ⟨j', hj, w⟩ := Tr.way_one ql qw hnf r
      have hj : j' = j := by omega
      subst hj
      obtain ⟨hp1, hp2⟩ := okP_red hq ql r
      have d0 : decide ((0 : Int) < ((((i :: is).map fun (n : Nat) => D.int n).length : Nat) : Int)) = true := decide_eq_true (by simp)
      have a0 : atI ((i :: is).map fun (n : Nat) => D.int n) 0 = some (.int (i : Nat)) := by rw [show (0 : Int) = ((0 : Nat) : Int) from rfl, atI_n (by simp)]; rfl
      simp_arith! [d0, a0]
      refine ⟨by omega, ?_⟩
      refine ⟨Tr.fl q, A, B1, B2, C, E, x, hq.wok, hq.one, hq.nd.2, by have := hq.len; omega, sa, by rw [hA], ?_⟩
      rw [← hp]
      simp_arith!
      refine ⟨Tr.fl p, hp1.wok, by have := hp1.len; omega, rfl, ?_⟩
      simp_arith!
      exact ih p _ hp1 hp2 w (by simp; omega)
theorem law_raw_rest {K : PySem.W.Frag} (hk : Kx K) : LawT 1 (c_raw_rest K) N_raw_rest (T_raw_rest K) := by
  intro as P PX hl h
  obtain ⟨m, e, k, hok, hlin, hway, hnf, rfl, hP⟩ := h
  unfold T_raw_rest
  simp_arith!
  refine ⟨m, e, k, hok, hlin, hway, hnf, rfl, fun way hw => ?_⟩
  simp_arith!
  exact hP
theorem law_rest {K : PySem.W.Frag} (hk : Kx K) : LawT 1 (c_rest K) N_rest (T_rest K) := by
  intro as P PX hl h
  obtain ⟨C, m, e, k, hC, hok, hlin, hway, hnf, rfl, hP⟩ := h
  unfold T_rest
  simp_arith! [isP_mem hC, lk1]
  refine ⟨m, e, k, hok, hlin, hway, hnf, rfl, ?_⟩
  simp_arith!
  refine ⟨_, rfl, ?_⟩
  simp_arith!
  exact hP
theorem raw_isP (K : PySem.W.Frag) : isP K (He.ga K "RawProgram") := .inr rfl
theorem prog_isP (K : PySem.W.Frag) : isP K (He.ga K "Program") := .inl rfl
theorem law_many_steps {K : PySem.W.Frag} (hk : Kx K) : LawT 1 (c_many_steps K) N_many_steps (T_many_steps K) := by
  intro as P PX hl h
  obtain ⟨C, m, e, k, hC, hok, hlin, hway, hnf, rfl, hP⟩ := h
  have he := okP_way hok hlin hway
  unfold T_many_steps
  simp_arith!
  refine ⟨C, Tr.fl m, hC, hok.wok, by have := hok.len; omega, rfl, ?_⟩
  simp_arith!
  refine ⟨C, m, e, k, hC, hok, hlin, hway, hnf, rfl, ?_⟩
  simp_arith!
  refine ⟨_, Tr.fl e, raw_isP K, he.1.wok, by have := he.1.len; omega, rfl, ?_⟩
  simp_arith!
  have h1 := (Tr.way_lin hlin hway).2.1
  have e1 : manyG (Tr.fl m) = Tr.gv m := Tr.fl_gv m
  have e2 : manyG (Tr.fl e) = Tr.gv e := Tr.fl_gv e
  have e3 : ((manyG (Tr.fl m) : Nat) : Int) - ((manyG (Tr.fl e) : Nat) : Int) = ((k : Nat) : Int) := by omega
  rw [e3]
  exact hP
end K19

end

section
set_option Elab.async false
set_option linter.all false
set_option autoImplicit false
set_option maxRecDepth 100000
set_option maxHeartbeats 400000
namespace K19
open PySem PySem.Spec PyProof.Rows L2 VL VP
theorem PathP.snoc : ∀ {ps : List Nat} {m q r : Tr} {p : Nat}, PathP ps m q → StepP p q r → PathP (ps ++ [p]) m r
  | _, _, _, _, _, .nil _, h => .cons h (.nil _)
  | _, _, _, _, _, .cons a t, h => .cons a (PathP.snoc t h)
theorem PathP.way : ∀ {ps : List Nat} {m e : Tr}, PathP ps m e → Tr.Way ps.length m e
  | _, _, _, .nil m => .nil m
  | _, _, _, .cons h t => .cons h.1 (PathP.way t)
theorem snoc_inj {α : Type} {a b : List α} {x y : α} (h : a ++ [x] = b ++ [y]) : a = b ∧ x = y := by
  obtain ⟨h1, h2⟩ := List.append_inj' h rfl
  cases h2
  exact ⟨h1, rfl⟩
theorem Trl.path {m : Tr} : ∀ {ps : List Nat} {ms : List Tr}, Trl m ps ms → ∀ {l : List Tr} {q : Tr}, ms = l ++ [q] → PathP ps m q
  | _, _, .one, l, q, e => by
    obtain ⟨_, rfl⟩ := snoc_inj (a := []) (show [] ++ [m] = l ++ [q] from e)
    exact .nil _
  | _, _, .snoc t h, l, q, e => by
    obtain ⟨_, rfl⟩ := snoc_inj e
    exact (Trl.path t rfl).snoc h
theorem Trl.len {m : Tr} : ∀ {ps : List Nat} {ms : List Tr}, Trl m ps ms → ms.length = ps.length + 1
  | _, _, .one => rfl
  | _, _, .snoc t h => by have := t.len; simp at this ⊢; omega
/-- the last step taken back -/
theorem Trl.back {m : Tr} {ps : List Nat} {ms : List Tr} {q : Tr} (h : Trl m ps (ms ++ [q])) (hp : ps ≠ []) : ∃ ps' p ms' r, ps = ps' ++ [p] ∧ ms = ms' ++ [r] ∧ Trl m ps' (ms' ++ [r]) := by
  generalize e : ms ++ [q] = l at h
  cases h with
  | one => exact absurd rfl hp
  | snoc t h =>
    obtain ⟨rfl, rfl⟩ := snoc_inj e
    exact ⟨_, _, _, _, rfl, rfl, t⟩
theorem step_at {m : Tr} {p : Nat} (hl : m.Lin) (hp : p ∈ stepsW (Tr.fl m)) : ∃ q, StepP p m q := by
  obtain ⟨A, B1, B2, C, E, x, q, sa, hA, r, hq⟩ := step_tree hl hp
  exact ⟨q, r, A, B1, B2, C, E, x, sa, hA, hq⟩
theorem step_in {m q : Tr} {p : Nat} (h : StepP p m q) : p ∈ stepsW (Tr.fl m) := by
  obtain ⟨_, A, B1, B2, C, E, x, sa, hA, _⟩ := h
  refine mem_steps.mpr ⟨A, x, (B1 ++ .v x :: B2) ++ C ++ E, ?_, hA⟩
  rw [sa.eq]
  simp
theorem steps_lt {ws : List PW} {p : Nat} (h : p ∈ stepsW ws) : p + 1 < ws.length ∧ stepB ws p = true := by
  unfold stepsW at h
  obtain ⟨h1, h2⟩ := List.mem_filter.mp h
  have := List.mem_range.mp h1
  exact ⟨by omega, h2⟩
theorem lkF {f : Str} {d : Fd} : List.lookup f [(f, d)] = some d := by simp [List.lookup]
theorem run_mem {K : PySem.W.Frag} : (He.ga K (Str.ofString "Run") ∈ Cs_past K) = True := eq_true (List.mem_singleton.mpr rfl)
theorem atM1 {ds : List D} {d : D} (h : ds.getLast? = some d) : atI ds (-1) = some d := by
  rcases List.eq_nil_or_concat ds with q | ⟨l, x, q⟩
  · subst q; cases h
  · rw [List.concat_eq_append] at q
    subst q
    have : x = d := by simpa using h
    subst this
    exact atI_last _ _
theorem lkN {f g : Str} {d : Fd} (h : (f == g) = false) : List.lookup f [(g, d)] = none := by simp [List.lookup, h]
theorem at_first {i : Nat} {is : List Nat} : atI (inD (i :: is)) 0 = some (.int (i : Nat)) := by unfold inD; rw [show (0 : Int) = ((0 : Nat) : Int) from rfl, atI_n (by simp)]; rfl
theorem law_is_way {K : PySem.W.Frag} (hk : Kx K) : LawT 3 (c_is_way K) N_is_way (T_is_way K) := by
  intro as P PX hl h
  obtain ⟨C, C', m, e, ps, hC, hC', hok, hlin, hpa, rfl, hP⟩ := h
  have sz := sz4
  unfold T_is_way
  simp_arith! [oIsi_ins (isP_isi hC') (isP_kit hk hC'), isP_mem hC, lk1, vFor_d]
  refine (show ∀ (ps' : List Nat) (ps : List Nat) (q : Tr) (s4 : Sl), nPs (some s4) → PathP ps q e → OkP (Tr.fl q) → q.Lin → vForL _ _ _ okT (inD ps) [Sl.sh (progD C (Tr.fl m)), Sl.sh (progD C' (Tr.fl e)), Sl.sh (.tup (inD ps')), Sl.sh (tupP (Tr.fl q)), s4] from ?_) ps ps m .un trivial hpa hok hlin
  intro ps' ps
  induction ps with
  | nil =>
    intro q s4 h4 hq hqo hql
    cases hq
    have de : decide (Tr.fl e = Tr.fl e) = true := decide_eq_true rfl
    refine ⟨trivial, ?_⟩
    simp_arith! [isP_mem hC', lk1]
    refine tupP_eq hqo.wok hqo.wok ?_
    simp_arith! [de]
    exact hP
  | cons p ps ih =>
    intro q s4 h4 hq hqo hql
    cases hq with
    | cons h t =>
      have hin := steps_lt (step_in h)
      obtain ⟨hred, A, B1, B2, C2, E2, x, sa, hA, hr⟩ := h
      obtain ⟨hro, hrl⟩ := okP_red hqo hql hred
      have hlen := hqo.len
      refine ⟨trivial, ?_⟩
      have hw : (decide ((0 : Int) ≤ ((p : Nat) : Int)) && decide (((p : Nat) : Int) ≤ (((Tr.fl q).length : Nat) : Int) - 2)) = true := by
        rw [Bool.and_eq_true, decide_eq_true_eq, decide_eq_true_eq]
        omega
      simp_arith! [h4, pDs_len]
      refine ⟨_, _, _, rfl, ?_⟩
      simp_arith! [hw]
      refine ⟨Tr.fl q, p, hqo.wok, hin.1, rfl, ?_⟩
      simp_arith! [hin.2]
      refine ⟨Tr.fl q, A, B1, B2, C2, E2, x, hqo.wok, hqo.one, hqo.nd.2, by omega, sa, by rw [hA], ?_⟩
      rw [← hr]
      simp_arith!
      exact ih _ _ trivial t hro hrl
theorem law_Run___init__ {K : PySem.W.Frag} (hk : Kx K) : LawT 2 (c_Run___init__ K) N_Run___init__ (T_Run___init__ K) := by
  intro as P PX hl h
  obtain ⟨C, ws, hC, rfl, hP⟩ := h
  unfold T_Run___init__
  simp_arith! [isP_mem hC, lk1, run_mem]
  exact ⟨by decide, hP⟩
theorem law_Run_program {K : PySem.W.Frag} (hk : Kx K) : LawT 1 (c_Run_program K) N_Run_program (T_Run_program K) := by
  intro as P PX hl h
  obtain ⟨q, ds, ws, hd, rfl, hP⟩ := h
  unfold T_Run_program
  simp_arith! [lkF, run_mem, atM1 hd]
  refine ⟨pDs ws, rfl, ?_⟩
  simp_arith!
  exact hP
theorem law_Run_many {K : PySem.W.Frag} (hk : Kx K) : LawT 1 (c_Run_many K) N_Run_many (T_Run_many K) := by
  intro as P PX hl h
  obtain ⟨q, ds, k, hd, rfl, hP⟩ := h
  unfold T_Run_many
  have e1 : ((k + 1 : Nat) : Int) - 1 = ((k : Nat) : Int) := by omega
  simp_arith! [lkF, run_mem, hd, e1]
  exact hP
theorem law_Run_step {K : PySem.W.Frag} (hk : Kx K) : LawT 2 (c_Run_step K) N_Run_step (T_Run_step K) := by
  intro as P PX hl h
  obtain ⟨q, ds, m, r, p, hok, hst, hds, rfl, hP⟩ := h
  have hin := steps_lt (step_in hst)
  obtain ⟨hred, A, B1, B2, C, E, x, sa, hA, hr⟩ := hst
  have sz := sz4
  have hlen := hok.len
  unfold T_Run_step
  simp_arith! [lkF, run_mem, atI_last]
  refine ⟨Tr.fl m, p, hok.wok, hin.1, hin.2, rfl, ?_⟩
  simp_arith! [lkF, run_mem]
  refine ⟨Tr.fl m, A, B1, B2, C, E, x, hok.wok, hok.one, hok.nd.2, by omega, sa, by rw [hA], ?_⟩
  rw [← hr]
  simp_arith! [lkF, run_mem]
  exact ⟨by simp; omega, hP⟩
theorem law_Run_back {K : PySem.W.Frag} (hk : Kx K) : LawT 1 (c_Run_back K) N_Run_back (T_Run_back K) := by
  intro as P PX hl h
  obtain ⟨q, ds, d, hds, rfl, hP⟩ := h
  have h0 : ds.length ≠ 0 := fun e => hds (List.length_eq_zero_iff.mp e)
  have d0 : decide ((((ds ++ [d]).length : Nat) : Int) = 1) = false := decide_eq_false (by simp; omega)
  have g1 : (ds ++ [d]).getLast? = some d := by simp
  have g2 : (ds ++ [d]).dropLast = ds := by simp
  unfold T_Run_back
  simp_arith! [lkF, run_mem, d0, g1, g2]
  exact hP
theorem law_Run_to_rest {K : PySem.W.Frag} (hk : Kx K) : LawT 1 (c_Run_to_rest K) N_Run_to_rest (T_Run_to_rest K) := by
  intro as P PX hl h
  obtain ⟨q, m, e, k, hok, hlin, hway, hnf, rfl, hP⟩ := h
  have sz := sz4
  have hlen := hok.len
  unfold T_Run_to_rest
  simp_arith! [lkF, run_mem, atM1 (show [tupP (Tr.fl m)].getLast? = some (tupP (Tr.fl m)) from rfl)]
  refine ⟨Tr.fl m, hok.wok, by omega, rfl, ?_⟩
  simp_arith! [vWhile_d]
  have hk1 : k ≤ 1000 := by
    have h1 := (Tr.way_lin hlin hway).2.1
    have h2 := Tr.fl_size m
    omega
  refine ⟨k + 1, ?_⟩
  refine (show ∀ (j : Nat) (r : Tr) (ps : List Nat) (ds : List D), PathP ps m r → ps.length + j = k → ds.length = ps.length → OkP (Tr.fl r) → r.Lin → Tr.Way j r e → vWhileN _ _ _ (j + 1) [Sl.par (runO K q (ds ++ [tupP (Tr.fl r)])), Sl.own (.lst (inD ps)), Sl.own (.lst (inD (stepsW (Tr.fl r))))] from ?_) k m [] [] (.nil m) (by simp) rfl hok hlin hway
  intro j
  induction j with
  | zero =>
    intro r ps ds hp hj hd hr hrl hw
    cases hw
    rw [vWhileN_s]
    have e0 : inD (stepsW (Tr.fl e)) = [] := by rw [(steps_nf hrl).mpr hnf]; rfl
    rw [e0]
    have d0 : decide (((0 : Nat) : Int) > 0) = false := rfl
    simp_arith! [d0]
    exact hP ps ds hp (by omega) (by omega)
  | succ j ih =>
    intro r ps ds hp hj hd hr hrl hw
    have hrlen := hr.len
    have hne : stepsW (Tr.fl r) ≠ [] := by
      cases hw with
      | cons a b => exact steps_ne hrl a
    obtain ⟨i0, is, hst⟩ : ∃ i0 is, stepsW (Tr.fl r) = i0 :: is := by
      cases hs : stepsW (Tr.fl r) with
      | nil => exact absurd hs hne
      | cons a b => exact ⟨a, b, rfl⟩
    have hi0 : i0 ∈ stepsW (Tr.fl r) := by rw [hst]; simp
    obtain ⟨r', hstep⟩ := step_at hrl hi0
    obtain ⟨j', hj', w'⟩ := Tr.way_one hrl hw hnf hstep.1
    obtain ⟨hro, hrl'⟩ := okP_red hr hrl hstep.1
    have hro' := hro.len
    have hjj : j' = j := by omega
    subst hjj
    have a0 : atI (inD (stepsW (Tr.fl r))) 0 = some (.int (i0 : Nat)) := by rw [hst]; exact at_first
    have d0 : decide ((((inD (stepsW (Tr.fl r))).length : Nat) : Int) > 0) = true := decide_eq_true (by rw [hst]; simp [inD])
    rw [vWhileN_s]
    simp_arith! [d0, a0]
    refine ⟨lkN (by decide), ?_⟩
    refine ⟨q, ds, r, r', i0, hr, hstep, by omega, rfl, ?_⟩
    simp_arith! [a0]
    refine ⟨by simp [inD]; omega, ?_⟩
    simp_arith! [lkF, run_mem, atI_last]
    refine ⟨Tr.fl r', hro.wok, by omega, rfl, ?_⟩
    simp_arith!
    have q9 := ih r' (ps ++ [i0]) (ds ++ [tupP (Tr.fl r)]) (hp.snoc hstep) (by simp; omega) (by simp; omega) hro hrl' w'
    have e1 : inD (ps ++ [i0]) = inD ps ++ [.int (i0 : Nat)] := List.map_append
    rw [e1] at q9
    exact q9
end K19

end

section
set_option Elab.async false
set_option linter.all false
set_option autoImplicit false
set_option maxRecDepth 100000
set_option maxHeartbeats 400000
namespace K19
open PySem PySem.Spec PyProof.Rows L2 VL VP
theorem law__law_place {K : PySem.W.Frag} (hk : Kx K) : LawT 3 (c__law_place K) N__law_place (T__law_place K) := by
  intro as P PX hl h
  obtain ⟨t, w, xs, rfl, ht, h0, h1, hP⟩ := h
  unfold T__law_place
  by_cases c0 : ((w : Nat) : Int) = 0
  · have d0 : decide (((w : Nat) : Int) = 0) = true := decide_eq_true c0
    have a0 : atI xs 0 = some (xs[0]'h0) := getD_at (i := 0) h0
    simp_arith! [d0, a0]
    exact hP t _ (by omega) (List.getElem_mem h0)
  · have d0 : decide (((w : Nat) : Int) = 0) = false := decide_eq_false c0
    by_cases c1 : ((w : Nat) : Int) = 1
    · have d1 : decide (((w : Nat) : Int) = 1) = true := decide_eq_true c1
      obtain ⟨d, hd⟩ : ∃ d, xs.getLast? = some d := by
        cases q : xs.getLast? with
        | none => rw [List.getLast?_eq_none_iff] at q; subst q; cases h0
        | some d => exact ⟨d, rfl⟩
      simp_arith! [d0, d1, atM1 hd]
      exact hP t _ (by omega) (List.mem_of_getLast? hd)
    · have d1 : decide (((w : Nat) : Int) = 1) = false := decide_eq_false c1
      simp_arith! [d0, d1]
      refine ⟨t, _, xs, rfl, .inr rfl, h0, h1, by omega, fun d hd => ?_⟩
      simp_arith!
      exact hP _ d (Nat.le_refl _) hd
theorem flat_gv : ∀ m : Tm, manyG (flatT m) = gvT m
  | .v n => rfl
  | .g f a => by
    show ((PW.g :: (flatT f ++ flatT a)).filter isG).length = _
    have h1 : ((flatT f).filter isG).length = gvT f := flat_gv f
    have h2 : ((flatT a).filter isG).length = gvT a := flat_gv a
    show ((PW.g :: (flatT f ++ flatT a)).filter isG).length = gvT f + gvT a + 1
    rw [List.filter_cons_of_pos rfl, List.filter_append, List.length_cons, List.length_append, h1, h2]
  | .t n b => flat_gv b
theorem tree_of {ws : List PW} (h : OkP ws) : ∃ m : Tr, Tr.fl m = ws ∧ m.Lin := by
  obtain ⟨m, hm⟩ := Tr.of_words _ (Nat.le_refl _) h.one
  subst hm
  refine ⟨m, rfl, ?_, ?_, Tr.tkW_has h.tk⟩
  · rw [← Tr.fl_vs]; exact h.nd.2
  · rw [← Tr.fl_tk]; exact h.nd.1
theorem law__law_program {K : PySem.W.Frag} (hk : Kx K) : LawT 3 (c__law_program K) N__law_program (T__law_program K) := by
  intro as P PX hl h
  obtain ⟨t, rfl, ht, hP⟩ := h
  have szb : (100000 : Nat) < sizeLine := by decide
  unfold T__law_program
  simp_arith!
  refine ⟨t, 60, rfl, by omega, by decide, fun t1 g ht1 hg => ?_⟩
  have hg : g ≤ 60 := hg
  simp_arith! [vFor_d]
  refine ⟨t1, _, rfl, by omega, by decide, by omega, fun a ha0 ha => ?_⟩
  obtain ⟨k, hk1, hk2, hk3⟩ : ∃ k : Nat, (if ((g : Nat) : Int) + 1 < a then ((g : Nat) : Int) + 1 else a) = ((k : Nat) : Int) ∧ k ≤ g + 1 ∧ k ≤ 4 := by
    by_cases c : ((g : Nat) : Int) + 1 < a
    · rw [if_pos c]; exact ⟨g + 1, by omega, by omega, by omega⟩
    · rw [if_neg c]; exact ⟨a.toNat, by omega, by omega, by omega⟩
  simp_arith! [hk1]
  refine ⟨⟨by omega, by omega⟩, ?_⟩
  rw [Int.toNat_natCast]
  refine (show ∀ (n : Nat) (lo : Int) (t' : Nat) (ns : List Str) (s5 : Sl), nPs (some s5) → t' + 3 * n ≤ t + 100 → ns.length + n ≤ k → ns.Nodup → (∀ x ∈ ns, nameB x = true) →
    vForL _ _ _ okT (rangeD lo 1 n) [Sl.par (.pot t'), Sl.sh (.int 60), Sl.sh (.int 3), Sl.sh (.int (g : Nat)), Sl.own (.lst (ns.map D.str)), s5] from ?_) k 0 (t1 + 1) [] .un trivial (by omega) (by simp) List.nodup_nil (by simp)
  intro n
  induction n with
  | succ n ih =>
    intro lo t' ns s5 h5 ht' hnk hnd hns
    rw [rangeD_succ]
    refine ⟨trivial, ?_⟩
    simp_arith! [h5]
    refine ⟨t', ns, rfl, by omega, by omega, fun t2 nm ht2 hnm hni => ?_⟩
    simp_arith!
    exact ih _ t2 (ns ++ [nm]) _ trivial (by omega) (by simp; omega) (List.nodup_append.mpr ⟨hnd, by simp, fun a ha b hb e => hni (by simp at hb; rw [← hb, ← e]; exact ha)⟩) fun x hx => by
      rcases List.mem_append.mp hx with q | q
      · exact hns x q
      · simp at q; rw [q]; exact hnm
  | zero =>
    intro lo t' ns s5 h5 ht' hnk hnd hns
    rw [rangeD_zero]
    refine ⟨trivial, ?_⟩
    simp_arith!
    refine ⟨t', ns, ns, g, rfl, by omega, by omega, by omega, by omega, hnd, fun n h => h, fun t2 m ht2 hm => ?_⟩
    have hok := (okP_gen hm hnd (fun n h => h) hns (by omega)).1
    obtain ⟨m', e1, hml⟩ := tree_of hok
    have egv : Tr.gv m' = g := by rw [← Tr.fl_gv, e1, ← hm.gv]; exact flat_gv m
    rw [← e1]
    simp_arith!
    exact hP t2 m' (by omega) (by rw [e1]; exact hok) hml (by omega)
end K19

end

section
set_option Elab.async false
set_option linter.all false
set_option autoImplicit false
set_option maxRecDepth 100000
set_option maxHeartbeats 1000000
namespace K19
open PySem PySem.Spec PyProof.Rows L2 VL VP
theorem ifs_key {α : Type} {c : VTT} {t u : VTS} {E : VE} {e : En} (F : α → Bool × En) (Q : α → Prop) (hc : (∀ q, Q q → sIfS (F q).1 t u E (F q).2) → c E.ex e (kIfS t u E)) (hk : ∀ q, Q q → sIfS (F q).1 t u E (F q).2) : vIfS c t u E e := hc hk
theorem lkP {d : Fd} : List.lookup (Str.ofString "program") [(Str.ofString "past", d)] = none := lkN (by decide)
theorem lkS {d : Fd} : List.lookup (Str.ofString "step") [(Str.ofString "past", d)] = none := lkN (by decide)
theorem lkB {d : Fd} : List.lookup (Str.ofString "back") [(Str.ofString "past", d)] = none := lkN (by decide)
theorem lkM {d : Fd} : List.lookup (Str.ofString "many") [(Str.ofString "past", d)] = none := lkN (by decide)
theorem lkT {d : Fd} : List.lookup (Str.ofString "to_rest") [(Str.ofString "past", d)] = none := lkN (by decide)
theorem trD_snoc {ms : List Tr} {q : Tr} : trD (ms ++ [q]) = trD ms ++ [tupP (Tr.fl q)] := List.map_append
theorem trD_last {ms : List Tr} {q : Tr} : (trD (ms ++ [q])).getLast? = some (tupP (Tr.fl q)) := by rw [trD_snoc]; simp
theorem trD_len {ms : List Tr} : (trD ms).length = ms.length := List.length_map _
theorem inD_len {ps : List Nat} : (inD ps).length = ps.length := List.length_map _
theorem inD_snoc {ps : List Nat} {p : Nat} : inD (ps ++ [p]) = inD ps ++ [.int (p : Nat)] := List.map_append
theorem trl_back {m q : Tr} {ps : List Nat} {ms : List Tr} (h : Trl m ps (ms ++ [q])) (hp : ps ≠ []) : ∃ ps' p ms' r, ps = ps' ++ [p] ∧ ms = ms' ++ [r] ∧ Trl m ps' (ms' ++ [r]) := h.back hp
theorem law__law_row {K : PySem.W.Frag} (hk : Kx K) : LawT 3 (c__law_row K) N__law_row (T__law_row K) := by
  intro as P PX hl h
  obtain ⟨t, w, k, a, m, e, rfl, ht, hok, hlin, hway, hnf, hk1, hP⟩ := h
  have sz := sz4
  have szb : (100000 : Nat) < sizeLine := by decide
  unfold T__law_row
  simp_arith! [lkP]
  refine ⟨a, _, Tr.fl m, rfl, rfl, ?_⟩
  simp_arith! [isP_mem (raw_isP K), lk1, vFor_d]
  refine ⟨⟨by decide, by decide⟩, ?_⟩
  refine (show ∀ (n2 i j t' : Nat) (q : Tr) (ps : List Nat) (ms : List Tr) (s5 s6 s7 : Sl), nPs (some s5) → nPs (some s6) → nPs (some s7) → n2 + i = 1000 → Trl m ps (ms ++ [q]) → ps.length + j = k → Tr.Way j q e → OkP (Tr.fl q) → q.Lin → (i ≤ 40 ∨ i + j ≤ 40 + k) → t' + 2 * n2 ≤ t + 2000 →
    vForL _ _ _ okT (rangeD ((i : Nat) : Int) 1 n2) [Sl.par (.pot t'), Sl.par (runO K a (trD (ms ++ [q]))), Sl.sh (.int (w : Nat)), Sl.own (.lst (inD ps)), Sl.own (.lst (trD (ms ++ [q]))), s5, s6, s7] from ?_) 1000 0 k t m [] [] .un .un .un trivial trivial trivial rfl .one (by simp) hway hok hlin (.inl (by omega)) (by omega)
  intro n2
  induction n2 with
  | zero =>
    intro i j t' q ps ms s5 s6 s7 h5 h6 h7 hi htr hj hw hq hql hij ht'
    omega
  | succ n2 ih =>
    intro i j t' q ps ms s5 s6 s7 h5 h6 h7 hi htr hj hw hq hql hij ht'
    have hqlen := hq.len
    have hstl : (stepsW (Tr.fl q)).length ≤ 1000 := by
      unfold stepsW
      refine Nat.le_trans (List.length_filter_le _ _) ?_
      rw [List.length_range]
      omega
    have hml := htr.len
    rw [List.length_append, List.length_singleton] at hml
    have lastq := trD_last (ms := ms) (q := q)
    rw [rangeD_succ]
    refine ⟨trivial, ?_⟩
    simp_arith! [h5, lkP]
    refine ⟨a, _, Tr.fl q, lastq, rfl, ?_⟩
    simp_arith! [h6, h7]
    refine ⟨_, Tr.fl q, raw_isP K, hq.wok, by omega, rfl, ?_⟩
    by_cases c : stepsW (Tr.fl q) = []
    · have hqe : q.Nf := (steps_nf hql).mp c
      obtain ⟨rfl, rfl⟩ := Tr.way_end hql hw hnf (.nil q) hqe
      have st0 : (stepsW (Tr.fl q)).map (fun (n : Nat) => D.int n) = [] := by rw [c]; rfl
      have d0 : decide (((0 : Nat) : Int) = 0) = true := rfl
      simp_arith! [st0, d0, h6, h7]
      exact hP t' ps ms (by omega) htr (by omega)
    · have hpos : 0 < (stepsW (Tr.fl q)).length := List.length_pos_iff.mpr c
      have d0 : decide (((((stepsW (Tr.fl q)).map (fun (n : Nat) => D.int n)).length : Nat) : Int) = 0) = false := decide_eq_false (by rw [List.length_map]; omega)
      simp_arith! [d0, h6, h7, -VL.vIfS_d]
      rw [vIfS_d]
      simp_arith! [d0, -VL.vIfS_d]
      refine ifs_key (α := Nat × Bool) (fun c => (c.2, [Sl.par (.pot c.1), Sl.par (runO K a (trD (ms ++ [q]))), Sl.sh (.int (w : Nat)), Sl.own (.lst (inD ps)), Sl.own (.lst (trD (ms ++ [q]))), Sl.sh (.int (i : Nat)), Sl.sh (.tup ((stepsW (Tr.fl q)).map (fun (n : Nat) => D.int n))), s7])) (fun c => c.1 ≤ t' + 1 ∧ (c.2 = true → ps ≠ [] ∧ i < 40)) ?_ ?_
      · intro key
        by_cases c2 : ((w : Nat) : Int) = 2
        · have d2 : decide (((w : Nat) : Int) = 2) = true := decide_eq_true c2
          by_cases c3 : ps = []
          · have d3 : decide ((((inD ps).length : Nat) : Int) > 0) = false := decide_eq_false (by rw [c3]; simp [inD])
            simp_arith! [d2, d3, -VL.sIfS_t, -VL.sIfS_f]
            exact key (t', false) ⟨Nat.le_succ _, fun h => (by cases h)⟩
          · have h9 : 0 < ps.length := List.length_pos_iff.mpr c3
            have d3 : decide ((((inD ps).length : Nat) : Int) > 0) = true := decide_eq_true (by rw [inD_len]; omega)
            by_cases c4 : ((i : Nat) : Int) < 40
            · have d4 : decide (((i : Nat) : Int) < 40) = true := decide_eq_true c4
              simp_arith! [d2, d3, d4, -VL.sIfS_t, -VL.sIfS_f]
              refine ⟨t', _, rfl, by omega, by decide, by omega, fun b hb0 hb => ?_⟩
              simp_arith! [-VL.sIfS_t, -VL.sIfS_f]
              exact key (t' + 1, decide (b = 0)) ⟨Nat.le_refl _, fun _ => ⟨c3, by omega⟩⟩
            · have d4 : decide (((i : Nat) : Int) < 40) = false := decide_eq_false c4
              simp_arith! [d2, d3, d4, -VL.sIfS_t, -VL.sIfS_f]
              exact key (t', false) ⟨Nat.le_succ _, fun h => (by cases h)⟩
        · have d2 : decide (((w : Nat) : Int) = 2) = false := decide_eq_false c2
          simp_arith! [d2, -VL.sIfS_t, -VL.sIfS_f]
          exact key (t', false) ⟨Nat.le_succ _, fun h => (by cases h)⟩
      · rintro ⟨t1, b⟩ ⟨ht1, hb⟩
        have ht1 : t1 ≤ t' + 1 := ht1
        have hb : b = true → ps ≠ [] ∧ i < 40 := hb
        dsimp only
        cases b with
        | true =>
          obtain ⟨hp, hi40⟩ := hb rfl
          obtain ⟨ps', p, ms', r, rfl, rfl, htr'⟩ := trl_back htr hp
          have g1 : (inD (ps' ++ [p])).getLast? = some (.int (p : Nat)) := by rw [inD_snoc]; simp
          have g2 : (inD (ps' ++ [p])).dropLast = inD ps' := by rw [inD_snoc]; simp
          have g3 : (trD (ms' ++ [r])).getLast? = some (tupP (Tr.fl r)) := trD_last
          have g4 : (trD (ms' ++ [r] ++ [q])).dropLast = trD (ms' ++ [r]) := by rw [trD_snoc]; simp
          simp_arith! [lkB]
          refine ⟨a, trD (ms' ++ [r]), tupP (Tr.fl q), by rw [trD_snoc]; simp, by rw [trD_snoc], ?_⟩
          simp_arith! [g1, g2, lastq, g4, lkP]
          refine ⟨a, _, Tr.fl r, g3, rfl, ?_⟩
          have hwr := (Trl.path htr' rfl).way
          obtain ⟨hr, hrl⟩ := okP_way hok hlin hwr
          obtain ⟨j2, hj2, w2⟩ := Tr.way_any hlin hway hnf hwr
          have de : decide (Tr.fl r = Tr.fl r) = true := decide_eq_true rfl
          have ei : ((i : Nat) : Int) + 1 = ((i + 1 : Nat) : Int) := by omega
          simp_arith! [isP_mem (raw_isP K), lk1, atM1 g3]
          refine tupP_eq hr.wok hr.wok ?_
          simp_arith! [de]
          rw [ei]
          exact ih (i + 1) j2 t1 r ps' ms' _ _ _ trivial trivial h7 (by omega) htr' (by omega) w2 hr hrl (.inl (by omega)) (by omega)
        | false =>
          simp_arith! []
          refine ⟨t1, w, _, rfl, by omega, by rw [List.length_map]; exact hpos, by rw [List.length_map]; omega, fun t2 d ht2 hd => ?_⟩
          obtain ⟨p, hp, rfl⟩ := List.mem_map.mp hd
          obtain ⟨r, hstep⟩ := step_at hql hp
          obtain ⟨j2, hj2, w2⟩ := Tr.way_one hql hw hnf hstep.1
          obtain ⟨hr, hrl⟩ := okP_red hq hql hstep.1
          have ei : ((i : Nat) : Int) + 1 = ((i + 1 : Nat) : Int) := by omega
          simp_arith! [h7, lkS]
          refine ⟨a, trD ms, q, r, p, hq, hstep, by rw [trD_len]; omega, by rw [trD_snoc], ?_⟩
          simp_arith! []
          refine ⟨by rw [inD_len]; omega, ?_⟩
          simp_arith! [lkP]
          refine ⟨a, _, Tr.fl r, by simp, rfl, ?_⟩
          simp_arith! [isP_mem (raw_isP K), lk1]
          refine ⟨by rw [trD_len]; simp; omega, ?_⟩
          have q9 := ih (i + 1) j2 t2 r (ps ++ [p]) (ms ++ [q]) (.sh (.int (i : Nat))) (.sh (.tup ((stepsW (Tr.fl q)).map fun (n : Nat) => D.int n))) (.sh (.int (p : Nat))) trivial trivial trivial (by omega) (htr.snoc hstep) (by simp; omega) w2 hr hrl (by omega) (by omega)
          rw [inD_snoc, trD_snoc (ms := ms ++ [q]), trD_snoc] at q9
          rw [ei]
          first
            | exact q9
            | (rw [trD_snoc]; exact q9)
end K19

end

section
set_option Elab.async false
set_option linter.all false
set_option autoImplicit false
set_option maxRecDepth 100000
set_option maxHeartbeats 1000000
namespace K19
open PySem PySem.Spec PyProof.Rows L2 VL VP
theorem eqP_own {K : PySem.W.Frag} {C C' : Addr} {a b : List PW} {P : Re → Prop} {neg : Bool} (hC : isP K C) (hC' : isP K C') (ha : WOk a) (hb : WOk b) (h : P (.sh (.bl (if neg then !decide (a = b) else decide (a = b))))) :
    eqC (c_Program___eq__ K) (Cs_eq K) neg (progD C a) (progD C' b) P := by
  rw [eqC_ins]
  refine ⟨isP_eq hC, isP_eq hC', ⟨C, C', a, b, hC, hC', ha, hb, rfl, ?_⟩, ⟨C', C, b, a, hC', hC, hb, ha, rfl, ?_⟩⟩
  · rw [eqRt_d]; exact h
  · rw [eqRt_d]
    have e : decide (b = a) = decide (a = b) := decide_eq_decide.mpr eq_comm
    rw [e]
    exact h
theorem Trl.hd {m : Tr} : ∀ {ps : List Nat} {ms : List Tr}, Trl m ps ms → ms[0]? = some m
  | _, _, .one => rfl
  | _, _, .snoc t h => by
    have := Trl.hd t
    rw [List.getElem?_append_left (by simp)]
    exact this
theorem Trl.all {m : Tr} : ∀ {ps : List Nat} {ms : List Tr}, Trl m ps ms → ∀ x ∈ ms, ∃ i, Tr.Way i m x
  | _, _, .one, x, hx => by
    simp at hx
    subst hx
    exact ⟨0, .nil _⟩
  | _, _, .snoc t h, x, hx => by
    rcases List.mem_append.mp hx with q | q
    · exact Trl.all t x q
    · simp at q
      subst q
      exact ⟨_, Tr.way_snoc (t.path rfl).way h.1⟩
theorem take_snoc {α : Type} {l : List α} {i : Nat} {x : α} (h : l[i]? = some x) : l.take (i + 1) = l.take i ++ [x] := by
  rw [List.take_succ, h]
  rfl
theorem law_law {K : PySem.W.Frag} (hk : Kx K) : LawT 1 lawC N_law (T_law K) := by
  intro as P PX hl h
  obtain ⟨ns, rfl, hn, hP⟩ := h
  have sz := sz4
  have szb : (100000 : Nat) < sizeLine := by decide
  unfold T_law
  simp_arith!
  refine ⟨ns, rfl, hn, ?_⟩
  have e0 : VL.cutD (ns.map D.int) none (some ((63 : Nat) : Int)) = ns.map D.int := cut_all (by simpa using hn)
  simp_arith! [vFor_d]
  rw [show (63 : Int) = ((63 : Nat) : Int) from rfl, e0]
  simp_arith! [opI_int, List.length_map]
  refine ⟨by unfold CDivW; decide, ?_⟩
  have e8 : (2 : Int) + ((ns.length : Nat) : Int) / 16 = ((2 + ns.length / 16 : Nat) : Int) := by omega
  simp_arith! [e8]
  refine ⟨⟨by omega, by omega⟩, ?_⟩
  have e9 : ((2 + ns.length / 16 : Nat) : Int).toNat = 2 + ns.length / 16 := by omega
  rw [e9]
  refine (show ∀ (n : Nat) (lo : Int) (t : Nat) (s2 s3 s4 s5 s6 s7 s8 s9 s10 s11 : Sl), nPs (some s2) → nPs (some s3) → nPs (some s4) → nPs (some s5) → nPs (some s6) → nPs (some s7) → nPs (some s8) → nPs (some s9) → nPs (some s10) → nPs (some s11) → t + 100000000 * n ≤ 2000000000 →
    vForL _ _ _ okT (rangeD lo 1 n) [Sl.sh (.scr ns), Sl.own (.pot t), s2, s3, s4, s5, s6, s7, s8, s9, s10, s11] from ?_) (2 + ns.length / 16) 0 0 .un .un .un .un .un .un .un .un .un .un trivial trivial trivial trivial trivial trivial trivial trivial trivial trivial (by omega)
  intro n
  induction n with
  | zero =>
    intro lo t s2 s3 s4 s5 s6 s7 s8 s9 s10 s11 h2 h3 h4 h5 h6 h7 h8 h9 h10 h11 ht
    rw [rangeD_zero]
    refine ⟨trivial, ?_⟩
    simp_arith!
    exact hP
  | succ n ih =>
    intro lo t s2 s3 s4 s5 s6 s7 s8 s9 s10 s11 h2 h3 h4 h5 h6 h7 h8 h9 h10 h11 ht
    rw [rangeD_succ]
    refine ⟨trivial, ?_⟩
    simp_arith! [h2]
    refine ⟨t, rfl, by omega, fun t1 m ht1 hok hlin hgv => ?_⟩
    have hlen := hok.len
    obtain ⟨k, e, hway, hnf⟩ := Tr.nf_ex _ (Nat.le_refl _) hlin
    obtain ⟨heo, heL⟩ := okP_way hok hlin hway
    have helen := heo.len
    have hgk := (Tr.way_lin hlin hway).2.1
    have hk1 : k ≤ 100 := by omega
    simp_arith! [h3, h4]
    refine ⟨Tr.fl m, hok, rfl, ?_⟩
    simp_arith! [h4, h5]
    refine ⟨_, Tr.fl m, prog_isP K, rfl, fun a => ?_⟩
    simp_arith! [h5, h6]
    refine ⟨t1, _, rfl, by omega, by decide, by omega, fun b hb0 hb => ?_⟩
    obtain ⟨w, rfl⟩ : ∃ w : Nat, b = (w : Nat) := ⟨b.toNat, by omega⟩
    simp_arith! [h6]
    refine ⟨by decide, t1 + 1, w, k, a, m, e, rfl, by omega, hok, hlin, hway, hnf, hk1, fun t2 ps ms ht2 htr hps => ?_⟩
    simp_arith! [h6, h7]
    refine ⟨_, Tr.fl m, prog_isP K, rfl, fun a2 => ?_⟩
    simp_arith! [h7, h8, lkT]
    refine ⟨a2, m, e, k, hok, hlin, hway, hnf, rfl, fun ps2 ds2 hp2 hps2 hds2 => ?_⟩
    have htl := htr.len
    have hpath := htr.path rfl
    have g2 : (ds2 ++ [tupP (Tr.fl e)]).getLast? = some (tupP (Tr.fl e)) := by simp
    have g1 : (trD (ms ++ [e])).getLast? = some (tupP (Tr.fl e)) := trD_last
    have de : decide (Tr.fl e = Tr.fl e) = true := decide_eq_true rfl
    simp_arith! [h8, lkP]
    refine ⟨a2, _, Tr.fl e, g2, rfl, ?_⟩
    simp_arith! [isP_mem (raw_isP K), lk1, lkP]
    refine ⟨a, _, Tr.fl e, g1, rfl, ?_⟩
    simp_arith! [isP_mem (raw_isP K), lk1]
    refine tupP_eq heo.wok heo.wok ?_
    have a0 : atI [D.lst (inD ps), D.lst (trD (ms ++ [e]))] 0 = some (.lst (inD ps)) := rfl
    have a1 : atI [D.lst (inD ps), D.lst (trD (ms ++ [e]))] 1 = some (.lst (trD (ms ++ [e]))) := rfl
    have l1 : (inD ps).length = k := by rw [inD_len]; exact hps
    have l2 : (inD ps2).length = k := by rw [inD_len]; exact hps2
    have dk : decide (((k : Nat) : Int) = ((k : Nat) : Int)) = true := decide_eq_true rfl
    simp_arith! [de, a0, l1, l2, dk, lkP, h9]
    refine ⟨a, _, Tr.fl e, g1, rfl, ?_⟩
    simp_arith! [h9]
    refine ⟨_, m, e, k, prog_isP K, hok, hlin, hway, hnf, rfl, ?_⟩
    simp_arith! [h9]
    refine eqP_own (raw_isP K) (raw_isP K) heo.wok heo.wok ?_
    have st0 : (stepsW (Tr.fl e)).map (fun (n : Nat) => D.int n) = [] := by rw [(steps_nf heL).mpr hnf]; rfl
    have d00 : decide (((0 : Nat) : Int) > 0) = false := rfl
    simp_arith! [de]
    refine ⟨_, Tr.fl e, raw_isP K, heo.wok, by omega, rfl, ?_⟩
    simp_arith! [st0, d00, h10]
    refine ⟨_, Tr.fl m, prog_isP K, hok.wok, by omega, rfl, ?_⟩
    simp_arith! [h10]
    refine ⟨_, Tr.fl e, raw_isP K, heo.wok, by omega, rfl, ?_⟩
    have e1 : manyG (Tr.fl m) = Tr.gv m := Tr.fl_gv m
    have e2 : manyG (Tr.fl e) = Tr.gv e := Tr.fl_gv e
    have e3 : ((manyG (Tr.fl m) : Nat) : Int) - ((manyG (Tr.fl e) : Nat) : Int) = ((k : Nat) : Int) := by omega
    simp_arith! [e3, h10, lkM]
    refine ⟨a, _, k, by rw [trD_len]; omega, rfl, ?_⟩
    simp_arith! [dk, lkM]
    refine ⟨a2, _, k, by simp; omega, rfl, ?_⟩
    simp_arith! [dk, l2]
    refine ⟨_, m, e, k, prog_isP K, hok, hlin, hway, hnf, rfl, ?_⟩
    simp_arith! [dk, a0]
    refine ⟨_, _, m, e, ps, prog_isP K, raw_isP K, hok, hlin, hpath, rfl, ?_⟩
    have dt : decide (true = true) = true := rfl
    simp_arith! [dt]
    refine ⟨_, _, m, e, ps2, prog_isP K, raw_isP K, hok, hlin, hp2, rfl, ?_⟩
    simp_arith! [dt, vFor_d]
    refine ⟨⟨by omega, by omega⟩, ?_⟩
    rw [Int.toNat_natCast]
    obtain ⟨Ms, hMs⟩ : ∃ Ms, Ms = ms ++ [e] := ⟨_, rfl⟩
    rw [← hMs] at htr a1 htl ⊢
    have hfull : Ms.take (k + 1) = Ms := List.take_of_length_le (by omega)
    refine (show ∀ (j b : Nat) (s11 : Sl) (l : List D), l = trD (Ms.take (j + 1)) → nPs (some s11) → j + b = k →
      vForL _ _ _ okT (rangeD ((b : Nat) : Int) 1 j) [Sl.sh (.scr ns), Sl.own (.pot t2), Sl.sh (.int lo), Sl.sh (tupP (Tr.fl m)), Sl.sh (progD (He.ga K "Program") (Tr.fl m)), Sl.own (runO K a l), Sl.sh (.tup [.lst (inD ps), .lst (trD Ms)]), Sl.own (runO K a2 (ds2 ++ [tupP (Tr.fl e)])), Sl.sh (.tup (inD ps2)), Sl.sh (progD (He.ga K "RawProgram") (Tr.fl e)), Sl.sh (.int (k : Nat)), s11] from ?_) k 0 s11 _ (by rw [hfull]) h11 rfl
    intro j
    induction j with
    | zero =>
      intro b s11 l hl' h11 hb
      subst hl'
      have hd : Ms.take (0 + 1) = [m] := by
        rw [take_snoc htr.hd]
        rfl
      rw [rangeD_zero, hd]
      refine ⟨trivial, ?_⟩
      have dm : decide (Tr.fl m = Tr.fl m) = true := decide_eq_true rfl
      have d0 : decide (((0 : Nat) : Int) = 0) = true := rfl
      simp_arith! [lkP]
      refine ⟨a, _, Tr.fl m, rfl, rfl, ?_⟩
      simp_arith!
      refine eqP_own (raw_isP K) (prog_isP K) hok.wok hok.wok ?_
      simp_arith! [dm, lkM]
      refine ⟨a, _, 0, rfl, rfl, ?_⟩
      simp_arith! [d0, isP_mem (prog_isP K), lk1]
      refine tupP_eq hok.wok hok.wok ?_
      simp_arith! [dm]
      exact ih _ t2 _ _ _ _ _ _ _ _ _ _ trivial trivial trivial trivial trivial trivial trivial trivial trivial h11 (by omega)
    | succ j ihj =>
      intro b s11 l hl' h11 hb
      subst hl'
      obtain ⟨r, hr⟩ : ∃ r, Ms[j + 1]? = some r := ⟨_, List.getElem?_eq_getElem (by omega)⟩
      obtain ⟨i, hir⟩ := htr.all r (List.mem_of_getElem? hr)
      obtain ⟨hro, _⟩ := okP_way hok hlin hir
      have et : trD (Ms.take (j + 1 + 1)) = trD (Ms.take (j + 1)) ++ [tupP (Tr.fl r)] := by rw [take_snoc hr, trD_snoc]
      have ek : ((k : Nat) : Int) - ((b : Nat) : Int) = ((j + 1 : Nat) : Int) := by omega
      have ar : atI (trD Ms) ((j + 1 : Nat) : Int) = some (tupP (Tr.fl r)) := by
        rw [atI_n (by rw [trD_len]; omega)]
        unfold trD
        rw [List.getElem?_map, hr]
        rfl
      have dr : decide (Tr.fl r = Tr.fl r) = true := decide_eq_true rfl
      have eb : ((b : Nat) : Int) + 1 = ((b + 1 : Nat) : Int) := by omega
      have hne : trD (Ms.take (j + 1)) ≠ [] := fun q => by
        have := congrArg List.length q
        rw [trD_len, List.length_take, List.length_nil] at this
        omega
      rw [rangeD_succ, et]
      refine ⟨trivial, ?_⟩
      simp_arith! [h11, lkP]
      refine ⟨a, _, Tr.fl r, by simp, rfl, ?_⟩
      simp_arith! [isP_mem (raw_isP K), lk1, a1, ek, ar]
      refine tupP_eq hro.wok hro.wok ?_
      simp_arith! [dr, lkB]
      refine ⟨a, trD (Ms.take (j + 1)), tupP (Tr.fl r), hne, rfl, ?_⟩
      simp_arith!
      rw [eb]
      exact ihj (b + 1) _ _ rfl trivial (by omega)
end K19

end

section
set_option Elab.async false
set_option linter.all false
set_option autoImplicit false
set_option maxRecDepth 100000
set_option maxHeartbeats 0
namespace K19
open PySem PySem.Spec PyProof.Rows L2 VL VP
theorem len_is_integer {K : PySem.W.Frag} (as : List Sl) (P : Re → List Sl → Prop) (PX : XC → List Sl → Prop) (h : c_is_integer K as P PX) : as.length = 1 := by
  unfold c_is_integer at h
  repeat (first | (obtain ⟨rfl, _⟩ := h; fail_if_success (have := h)) | obtain ⟨_, h⟩ := h)
  rfl
theorem len_is_within {K : PySem.W.Frag} (as : List Sl) (P : Re → List Sl → Prop) (PX : XC → List Sl → Prop) (h : c_is_within K as P PX) : as.length = 3 := by
  unfold c_is_within at h
  repeat (first | (obtain ⟨rfl, _⟩ := h; fail_if_success (have := h)) | obtain ⟨_, h⟩ := h)
  rfl
theorem len_is_name {K : PySem.W.Frag} (as : List Sl) (P : Re → List Sl → Prop) (PX : XC → List Sl → Prop) (h : c_is_name K as P PX) : as.length = 1 := by
  unfold c_is_name at h
  repeat (first | (obtain ⟨rfl, _⟩ := h; fail_if_success (have := h)) | obtain ⟨_, h⟩ := h)
  rfl
theorem len_is_give {K : PySem.W.Frag} (as : List Sl) (P : Re → List Sl → Prop) (PX : XC → List Sl → Prop) (h : c_is_give K as P PX) : as.length = 1 := by
  unfold c_is_give at h
  repeat (first | (obtain ⟨rfl, _⟩ := h; fail_if_success (have := h)) | obtain ⟨_, h⟩ := h)
  rfl
theorem len_is_take {K : PySem.W.Frag} (as : List Sl) (P : Re → List Sl → Prop) (PX : XC → List Sl → Prop) (h : c_is_take K as P PX) : as.length = 1 := by
  unfold c_is_take at h
  repeat (first | (obtain ⟨rfl, _⟩ := h; fail_if_success (have := h)) | obtain ⟨_, h⟩ := h)
  rfl
theorem len_name_of {K : PySem.W.Frag} (as : List Sl) (P : Re → List Sl → Prop) (PX : XC → List Sl → Prop) (h : c_name_of K as P PX) : as.length = 1 := by
  unfold c_name_of at h
  repeat (first | (obtain ⟨rfl, _⟩ := h; fail_if_success (have := h)) | obtain ⟨_, h⟩ := h)
  rfl
theorem len_is_word {K : PySem.W.Frag} (as : List Sl) (P : Re → List Sl → Prop) (PX : XC → List Sl → Prop) (h : c_is_word K as P PX) : as.length = 1 := by
  unfold c_is_word at h
  repeat (first | (obtain ⟨rfl, _⟩ := h; fail_if_success (have := h)) | obtain ⟨_, h⟩ := h)
  rfl
theorem len_asked_by {K : PySem.W.Frag} (as : List Sl) (P : Re → List Sl → Prop) (PX : XC → List Sl → Prop) (h : c_asked_by K as P PX) : as.length = 1 := by
  unfold c_asked_by at h
  repeat (first | (obtain ⟨rfl, _⟩ := h; fail_if_success (have := h)) | obtain ⟨_, h⟩ := h)
  rfl
theorem len_wrong_end {K : PySem.W.Frag} (as : List Sl) (P : Re → List Sl → Prop) (PX : XC → List Sl → Prop) (h : c_wrong_end K as P PX) : as.length = 1 := by
  unfold c_wrong_end at h
  repeat (first | (obtain ⟨rfl, _⟩ := h; fail_if_success (have := h)) | obtain ⟨_, h⟩ := h)
  rfl
theorem len_wrong_second {K : PySem.W.Frag} (as : List Sl) (P : Re → List Sl → Prop) (PX : XC → List Sl → Prop) (h : c_wrong_second K as P PX) : as.length = 1 := by
  unfold c_wrong_second at h
  repeat (first | (obtain ⟨rfl, _⟩ := h; fail_if_success (have := h)) | obtain ⟨_, h⟩ := h)
  rfl
theorem len_raw_ends {K : PySem.W.Frag} (as : List Sl) (P : Re → List Sl → Prop) (PX : XC → List Sl → Prop) (h : c_raw_ends K as P PX) : as.length = 1 := by
  unfold c_raw_ends at h
  repeat (first | (obtain ⟨rfl, _⟩ := h; fail_if_success (have := h)) | obtain ⟨_, h⟩ := h)
  rfl
theorem len_uses {K : PySem.W.Frag} (as : List Sl) (P : Re → List Sl → Prop) (PX : XC → List Sl → Prop) (h : c_uses K as P PX) : as.length = 1 := by
  unfold c_uses at h
  repeat (first | (obtain ⟨rfl, _⟩ := h; fail_if_success (have := h)) | obtain ⟨_, h⟩ := h)
  rfl
theorem len_wrong_take {K : PySem.W.Frag} (as : List Sl) (P : Re → List Sl → Prop) (PX : XC → List Sl → Prop) (h : c_wrong_take K as P PX) : as.length = 1 := by
  unfold c_wrong_take at h
  repeat (first | (obtain ⟨rfl, _⟩ := h; fail_if_success (have := h)) | obtain ⟨_, h⟩ := h)
  rfl
theorem len_fault_in {K : PySem.W.Frag} (as : List Sl) (P : Re → List Sl → Prop) (PX : XC → List Sl → Prop) (h : c_fault_in K as P PX) : as.length = 1 := by
  unfold c_fault_in at h
  repeat (first | (obtain ⟨rfl, _⟩ := h; fail_if_success (have := h)) | obtain ⟨_, h⟩ := h)
  rfl
theorem len_Program___init__ {K : PySem.W.Frag} (as : List Sl) (P : Re → List Sl → Prop) (PX : XC → List Sl → Prop) (h : c_Program___init__ K as P PX) : as.length = 2 := by
  unfold c_Program___init__ at h
  repeat (first | (obtain ⟨rfl, _⟩ := h; fail_if_success (have := h)) | obtain ⟨_, h⟩ := h)
  rfl
theorem len_Program___eq__ {K : PySem.W.Frag} (as : List Sl) (P : Re → List Sl → Prop) (PX : XC → List Sl → Prop) (h : c_Program___eq__ K as P PX) : as.length = 2 := by
  unfold c_Program___eq__ at h
  repeat (first | (obtain ⟨rfl, _⟩ := h; fail_if_success (have := h)) | obtain ⟨_, h⟩ := h)
  rfl
theorem len_RawProgram___init__ {K : PySem.W.Frag} (as : List Sl) (P : Re → List Sl → Prop) (PX : XC → List Sl → Prop) (h : c_RawProgram___init__ K as P PX) : as.length = 2 := by
  unfold c_RawProgram___init__ at h
  repeat (first | (obtain ⟨rfl, _⟩ := h; fail_if_success (have := h)) | obtain ⟨_, h⟩ := h)
  rfl
theorem len_givens {K : PySem.W.Frag} (as : List Sl) (P : Re → List Sl → Prop) (PX : XC → List Sl → Prop) (h : c_givens K as P PX) : as.length = 1 := by
  unfold c_givens at h
  repeat (first | (obtain ⟨rfl, _⟩ := h; fail_if_success (have := h)) | obtain ⟨_, h⟩ := h)
  rfl
theorem len_is_step {K : PySem.W.Frag} (as : List Sl) (P : Re → List Sl → Prop) (PX : XC → List Sl → Prop) (h : c_is_step K as P PX) : as.length = 2 := by
  unfold c_is_step at h
  repeat (first | (obtain ⟨rfl, _⟩ := h; fail_if_success (have := h)) | obtain ⟨_, h⟩ := h)
  rfl
theorem len_raw_steps {K : PySem.W.Frag} (as : List Sl) (P : Re → List Sl → Prop) (PX : XC → List Sl → Prop) (h : c_raw_steps K as P PX) : as.length = 1 := by
  unfold c_raw_steps at h
  repeat (first | (obtain ⟨rfl, _⟩ := h; fail_if_success (have := h)) | obtain ⟨_, h⟩ := h)
  rfl
theorem len_steps {K : PySem.W.Frag} (as : List Sl) (P : Re → List Sl → Prop) (PX : XC → List Sl → Prop) (h : c_steps K as P PX) : as.length = 1 := by
  unfold c_steps at h
  repeat (first | (obtain ⟨rfl, _⟩ := h; fail_if_success (have := h)) | obtain ⟨_, h⟩ := h)
  rfl
theorem len_raw_stepped {K : PySem.W.Frag} (as : List Sl) (P : Re → List Sl → Prop) (PX : XC → List Sl → Prop) (h : c_raw_stepped K as P PX) : as.length = 2 := by
  unfold c_raw_stepped at h
  repeat (first | (obtain ⟨rfl, _⟩ := h; fail_if_success (have := h)) | obtain ⟨_, h⟩ := h)
  rfl
theorem len_check_step {K : PySem.W.Frag} (as : List Sl) (P : Re → List Sl → Prop) (PX : XC → List Sl → Prop) (h : c_check_step K as P PX) : as.length = 2 := by
  unfold c_check_step at h
  repeat (first | (obtain ⟨rfl, _⟩ := h; fail_if_success (have := h)) | obtain ⟨_, h⟩ := h)
  rfl
theorem len_way_to_rest {K : PySem.W.Frag} (as : List Sl) (P : Re → List Sl → Prop) (PX : XC → List Sl → Prop) (h : c_way_to_rest K as P PX) : as.length = 1 := by
  unfold c_way_to_rest at h
  repeat (first | (obtain ⟨rfl, _⟩ := h; fail_if_success (have := h)) | obtain ⟨_, h⟩ := h)
  rfl
theorem len_raw_rest {K : PySem.W.Frag} (as : List Sl) (P : Re → List Sl → Prop) (PX : XC → List Sl → Prop) (h : c_raw_rest K as P PX) : as.length = 1 := by
  unfold c_raw_rest at h
  repeat (first | (obtain ⟨rfl, _⟩ := h; fail_if_success (have := h)) | obtain ⟨_, h⟩ := h)
  rfl
theorem len_rest {K : PySem.W.Frag} (as : List Sl) (P : Re → List Sl → Prop) (PX : XC → List Sl → Prop) (h : c_rest K as P PX) : as.length = 1 := by
  unfold c_rest at h
  repeat (first | (obtain ⟨rfl, _⟩ := h; fail_if_success (have := h)) | obtain ⟨_, h⟩ := h)
  rfl
theorem len_many_steps {K : PySem.W.Frag} (as : List Sl) (P : Re → List Sl → Prop) (PX : XC → List Sl → Prop) (h : c_many_steps K as P PX) : as.length = 1 := by
  unfold c_many_steps at h
  repeat (first | (obtain ⟨rfl, _⟩ := h; fail_if_success (have := h)) | obtain ⟨_, h⟩ := h)
  rfl
theorem len_is_way {K : PySem.W.Frag} (as : List Sl) (P : Re → List Sl → Prop) (PX : XC → List Sl → Prop) (h : c_is_way K as P PX) : as.length = 3 := by
  unfold c_is_way at h
  repeat (first | (obtain ⟨rfl, _⟩ := h; fail_if_success (have := h)) | obtain ⟨_, h⟩ := h)
  rfl
theorem len_Run___init__ {K : PySem.W.Frag} (as : List Sl) (P : Re → List Sl → Prop) (PX : XC → List Sl → Prop) (h : c_Run___init__ K as P PX) : as.length = 2 := by
  unfold c_Run___init__ at h
  repeat (first | (obtain ⟨rfl, _⟩ := h; fail_if_success (have := h)) | obtain ⟨_, h⟩ := h)
  rfl
theorem len_Run_program {K : PySem.W.Frag} (as : List Sl) (P : Re → List Sl → Prop) (PX : XC → List Sl → Prop) (h : c_Run_program K as P PX) : as.length = 1 := by
  unfold c_Run_program at h
  repeat (first | (obtain ⟨rfl, _⟩ := h; fail_if_success (have := h)) | obtain ⟨_, h⟩ := h)
  rfl
theorem len_Run_many {K : PySem.W.Frag} (as : List Sl) (P : Re → List Sl → Prop) (PX : XC → List Sl → Prop) (h : c_Run_many K as P PX) : as.length = 1 := by
  unfold c_Run_many at h
  repeat (first | (obtain ⟨rfl, _⟩ := h; fail_if_success (have := h)) | obtain ⟨_, h⟩ := h)
  rfl
theorem len_Run_step {K : PySem.W.Frag} (as : List Sl) (P : Re → List Sl → Prop) (PX : XC → List Sl → Prop) (h : c_Run_step K as P PX) : as.length = 2 := by
  unfold c_Run_step at h
  repeat (first | (obtain ⟨rfl, _⟩ := h; fail_if_success (have := h)) | obtain ⟨_, h⟩ := h)
  rfl
theorem len_Run_back {K : PySem.W.Frag} (as : List Sl) (P : Re → List Sl → Prop) (PX : XC → List Sl → Prop) (h : c_Run_back K as P PX) : as.length = 1 := by
  unfold c_Run_back at h
  repeat (first | (obtain ⟨rfl, _⟩ := h; fail_if_success (have := h)) | obtain ⟨_, h⟩ := h)
  rfl
theorem len_Run_to_rest {K : PySem.W.Frag} (as : List Sl) (P : Re → List Sl → Prop) (PX : XC → List Sl → Prop) (h : c_Run_to_rest K as P PX) : as.length = 1 := by
  unfold c_Run_to_rest at h
  repeat (first | (obtain ⟨rfl, _⟩ := h; fail_if_success (have := h)) | obtain ⟨_, h⟩ := h)
  rfl
theorem len__law_any {K : PySem.W.Frag} (as : List Sl) (P : Re → List Sl → Prop) (PX : XC → List Sl → Prop) (h : c__law_any K as P PX) : as.length = 2 := by
  unfold c__law_any at h
  repeat (first | (obtain ⟨rfl, _⟩ := h; fail_if_success (have := h)) | obtain ⟨_, h⟩ := h)
  rfl
theorem len__law_letters {K : PySem.W.Frag} (as : List Sl) (P : Re → List Sl → Prop) (PX : XC → List Sl → Prop) (h : c__law_letters K as P PX) : as.length = 1 := by
  unfold c__law_letters at h
  repeat (first | (obtain ⟨rfl, _⟩ := h; fail_if_success (have := h)) | obtain ⟨_, h⟩ := h)
  rfl
theorem len__law_fresh {K : PySem.W.Frag} (as : List Sl) (P : Re → List Sl → Prop) (PX : XC → List Sl → Prop) (h : c__law_fresh K as P PX) : as.length = 2 := by
  unfold c__law_fresh at h
  repeat (first | (obtain ⟨rfl, _⟩ := h; fail_if_success (have := h)) | obtain ⟨_, h⟩ := h)
  rfl
theorem len__law_mixed {K : PySem.W.Frag} (as : List Sl) (P : Re → List Sl → Prop) (PX : XC → List Sl → Prop) (h : c__law_mixed K as P PX) : as.length = 2 := by
  unfold c__law_mixed at h
  repeat (first | (obtain ⟨rfl, _⟩ := h; fail_if_success (have := h)) | obtain ⟨_, h⟩ := h)
  rfl
theorem len__law_words {K : PySem.W.Frag} (as : List Sl) (P : Re → List Sl → Prop) (PX : XC → List Sl → Prop) (h : c__law_words K as P PX) : as.length = 4 := by
  unfold c__law_words at h
  repeat (first | (obtain ⟨rfl, _⟩ := h; fail_if_success (have := h)) | obtain ⟨_, h⟩ := h)
  rfl
theorem len__law_size {K : PySem.W.Frag} (as : List Sl) (P : Re → List Sl → Prop) (PX : XC → List Sl → Prop) (h : c__law_size K as P PX) : as.length = 2 := by
  unfold c__law_size at h
  repeat (first | (obtain ⟨rfl, _⟩ := h; fail_if_success (have := h)) | obtain ⟨_, h⟩ := h)
  rfl
theorem len__law_program {K : PySem.W.Frag} (as : List Sl) (P : Re → List Sl → Prop) (PX : XC → List Sl → Prop) (h : c__law_program K as P PX) : as.length = 3 := by
  unfold c__law_program at h
  repeat (first | (obtain ⟨rfl, _⟩ := h; fail_if_success (have := h)) | obtain ⟨_, h⟩ := h)
  rfl
theorem len__law_place {K : PySem.W.Frag} (as : List Sl) (P : Re → List Sl → Prop) (PX : XC → List Sl → Prop) (h : c__law_place K as P PX) : as.length = 3 := by
  unfold c__law_place at h
  repeat (first | (obtain ⟨rfl, _⟩ := h; fail_if_success (have := h)) | obtain ⟨_, h⟩ := h)
  rfl
theorem len__law_row {K : PySem.W.Frag} (as : List Sl) (P : Re → List Sl → Prop) (PX : XC → List Sl → Prop) (h : c__law_row K as P PX) : as.length = 3 := by
  unfold c__law_row at h
  repeat (first | (obtain ⟨rfl, _⟩ := h; fail_if_success (have := h)) | obtain ⟨_, h⟩ := h)
  rfl
end K19

end

section
set_option Elab.async false
set_option linter.all false
set_option autoImplicit false
set_option maxRecDepth 100000
set_option maxHeartbeats 0
namespace K19
open PySem PySem.Spec PyProof.Rows L2 VL VP
theorem walk_is_integer {P : Program} {w : World} {K : PySem.W.Frag} {mg : Str → Option Value} {base : Heap} {f : Addr} (hf : Fx K mg)  (cdv : Value) (A : Around) (outer : List Env) (s : Shared) (H : Hp) (E : XK)
    (hr : Room 1 (A.deeper (envOfC "is_integer" (defScope s_is_integer) s.heap.objs.size f cdv))) : ∃ u, VSs (CxV P w K mg base N_is_integer "is_integer" (defScope s_is_integer) f cdv A outer s H E) (WEx E) (defBody s_is_integer) u (T_is_integer K) :=
  ⟨_, (vs_one (vs_ret (ve_and (ve_callB call_isi (callV_isi hf.I) hf.b_isinstance (va_cons (ve_var 0) (va_cons (ve_bty hf.b_int) va_nil))) (ve_one (ve_not (ve_callB call_isi (callV_isi hf.I) hf.b_isinstance (va_cons (ve_var 0) (va_cons (ve_bty hf.b_bool) va_nil))))))))⟩
theorem walk_is_within {P : Program} {w : World} {K : PySem.W.Frag} {mg : Str → Option Value} {base : Heap} {f : Addr} (hf : Fx K mg) (h_is_integer : DefG P w K mg base 2 "is_integer" 1 (c_is_integer K)) (cdv : Value) (A : Around) (outer : List Env) (s : Shared) (H : Hp) (E : XK)
    (hr : Room 2 (A.deeper (envOfC "is_within" (defScope s_is_within) s.heap.objs.size f cdv))) : ∃ u, VSs (CxV P w K mg base N_is_within "is_within" (defScope s_is_within) f cdv A outer s H E) (WEx E) (defBody s_is_within) u (T_is_within K) :=
  ⟨_, (vs_one (vs_ret (ve_and (ve_callG h_is_integer hr pxD (va_cons (ve_frz (ve_var 0)) va_nil)) (ve_one (ve_chain op_le opV_C op_le opV_C (ve_var 1) (ve_var 0) (ve_var 2))))))⟩
theorem walk_is_name {P : Program} {w : World} {K : PySem.W.Frag} {mg : Str → Option Value} {base : Heap} {f : Addr} (hf : Fx K mg)  (cdv : Value) (A : Around) (outer : List Env) (s : Shared) (H : Hp) (E : XK)
    (hr : Room 1 (A.deeper (envOfC "is_name" (defScope s_is_name) s.heap.objs.size f cdv))) : ∃ u, VSs (CxV P w K mg base N_is_name "is_name" (defScope s_is_name) f cdv A outer s H E) (WEx E) (defBody s_is_name) u (T_is_name K) :=
  ⟨_, (vs_one (vs_ret (ve_and (ve_callB call_isi (callV_isi hf.I) hf.b_isinstance (va_cons (ve_var 0) (va_cons (ve_bty hf.b_str) va_nil))) (ve_and (ve_chain op_le opV_C op_le opV_C ve_int (ve_callB callR_len callV_len hf.b_len (va_cons (ve_var 0) va_nil)) ve_int) (ve_one (ve_callB (cr_all rfl) callV_all hf.b_all (va_cons (ve_lc (own := [("sign", 1)]) (ok := blkOk_by (show blkC N_is_name (defScope s_is_name) _ _ = true by decide +kernel)) sc_is_name.nd (vi_any (ve_frz (ve_var 0))) (fun _ _ _ _ _ => keepG (vg_name 1 sc_is_name.nd)) (fun _ _ _ _ _ => keepT vts_nil) (fun _ _ _ _ _ => keepE (ve_chain op_leS opV_leS op_leS opV_leS ve_str (ve_var 1) ve_str))) va_nil)))))))⟩
theorem walk_is_give {P : Program} {w : World} {K : PySem.W.Frag} {mg : Str → Option Value} {base : Heap} {f : Addr} (hf : Fx K mg)  (cdv : Value) (A : Around) (outer : List Env) (s : Shared) (H : Hp) (E : XK)
    (hr : Room 1 (A.deeper (envOfC "is_give" (defScope s_is_give) s.heap.objs.size f cdv))) : ∃ u, VSs (CxV P w K mg base N_is_give "is_give" (defScope s_is_give) f cdv A outer s H E) (WEx E) (defBody s_is_give) u (T_is_give K) :=
  ⟨_, (vs_one (vs_ret (ve_eq hr.units (ve_var 0) ve_str)))⟩
theorem walk_is_take {P : Program} {w : World} {K : PySem.W.Frag} {mg : Str → Option Value} {base : Heap} {f : Addr} (hf : Fx K mg)  (cdv : Value) (A : Around) (outer : List Env) (s : Shared) (H : Hp) (E : XK)
    (hr : Room 1 (A.deeper (envOfC "is_take" (defScope s_is_take) s.heap.objs.size f cdv))) : ∃ u, VSs (CxV P w K mg base N_is_take "is_take" (defScope s_is_take) f cdv A outer s H E) (WEx E) (defBody s_is_take) u (T_is_take K) :=
  ⟨_, (vs_one (vs_ret (ve_eq hr.units (ve_slice (ve_var 0) vo_none (vo_some ve_int)) ve_str)))⟩
theorem walk_name_of {P : Program} {w : World} {K : PySem.W.Frag} {mg : Str → Option Value} {base : Heap} {f : Addr} (hf : Fx K mg) (h_is_take : DefG P w K mg base 2 "is_take" 1 (c_is_take K)) (cdv : Value) (A : Around) (outer : List Env) (s : Shared) (H : Hp) (E : XK)
    (hr : Room 2 (A.deeper (envOfC "name_of" (defScope s_name_of) s.heap.objs.size f cdv))) : ∃ u, VSs (CxV P w K mg base N_name_of "name_of" (defScope s_name_of) f cdv A outer s H E) (WEx E) (defBody s_name_of) u (T_name_of K) :=
  ⟨_, (vs_one (vs_ret (ve_if (vt_val (ve_callG h_is_take hr pxD (va_cons (ve_frz (ve_var 0)) va_nil))) (ve_slice (ve_var 0) (vo_some ve_int) vo_none) (ve_var 0))))⟩
theorem walk_is_word {P : Program} {w : World} {K : PySem.W.Frag} {mg : Str → Option Value} {base : Heap} {f : Addr} (hf : Fx K mg) (h_is_name : DefG P w K mg base 2 "is_name" 1 (c_is_name K)) (cdv : Value) (A : Around) (outer : List Env) (s : Shared) (H : Hp) (E : XK)
    (hr : Room 2 (A.deeper (envOfC "is_word" (defScope s_is_word) s.heap.objs.size f cdv))) : ∃ u, VSs (CxV P w K mg base N_is_word "is_word" (defScope s_is_word) f cdv A outer s H E) (WEx E) (defBody s_is_word) u (T_is_word K) :=
  ⟨_, (vs_cons (vs_if (vt_not (vt_val (ve_callB call_isi (callV_isi hf.I) hf.b_isinstance (va_cons (ve_var 0) (va_cons (ve_bty hf.b_str) va_nil)))))
    (vs_one (vs_ret ve_bl))
    vs_nil)
    (vs_one (vs_ret (ve_or (ve_eq hr.units (ve_var 0) ve_str) (ve_or (ve_callG h_is_name hr pxD (va_cons (ve_frz (ve_var 0)) va_nil)) (ve_one (ve_and (ve_eq hr.units (ve_slice (ve_var 0) vo_none (vo_some ve_int)) ve_str) (ve_one (ve_callG h_is_name hr pxD (va_cons (ve_slice (ve_var 0) (vo_some ve_int) vo_none) va_nil))))))))))⟩
theorem walk_asked_by {P : Program} {w : World} {K : PySem.W.Frag} {mg : Str → Option Value} {base : Heap} {f : Addr} (hf : Fx K mg) (h_is_give : DefG P w K mg base 2 "is_give" 1 (c_is_give K)) (h_is_take : DefG P w K mg base 2 "is_take" 1 (c_is_take K)) (cdv : Value) (A : Around) (outer : List Env) (s : Shared) (H : Hp) (E : XK)
    (hr : Room 2 (A.deeper (envOfC "asked_by" (defScope s_asked_by) s.heap.objs.size f cdv))) : ∃ u, VSs (CxV P w K mg base N_asked_by "asked_by" (defScope s_asked_by) f cdv A outer s H E) (WEx E) (defBody s_asked_by) u (T_asked_by K) :=
  ⟨_, (vs_cons (vs_if (vt_val (ve_callG h_is_give hr pxD (va_cons (ve_frz (ve_var 0)) va_nil)))
    (vs_one (vs_ret ve_int))
    vs_nil)
    (vs_one (vs_ret (ve_if (vt_val (ve_callG h_is_take hr pxD (va_cons (ve_frz (ve_var 0)) va_nil))) ve_int ve_int))))⟩
theorem walk_wrong_end {P : Program} {w : World} {K : PySem.W.Frag} {mg : Str → Option Value} {base : Heap} {f : Addr} (hf : Fx K mg) (h_asked_by : DefG P w K mg base 3 "asked_by" 1 (c_asked_by K)) (cdv : Value) (A : Around) (outer : List Env) (s : Shared) (H : Hp) (E : XK)
    (hr : Room 3 (A.deeper (envOfC "wrong_end" (defScope s_wrong_end) s.heap.objs.size f cdv))) : ∃ u, VSs (CxV P w K mg base N_wrong_end "wrong_end" (defScope s_wrong_end) f cdv A outer s H E) (WEx E) (defBody s_wrong_end) u (T_wrong_end K) :=
  ⟨_, (vs_cons (vs_set 1 sc_wrong_end.nd ve_int)
    (vs_cons (vs_for poD (vi_enum hf.b_enumerate (va_cons (ve_frz (ve_var 0)) va_nil)) (vg_tup (vgs_cons (vg_name 2 sc_wrong_end.nd) (vgs_cons (vg_name 3 sc_wrong_end.nd) vgs_nil)))
    (vs_cons (vs_if (vt_eq hr.units (ve_var 1) ve_int)
    (vs_one (vs_ret (ve_var 2)))
    vs_nil)
    (vs_one (vs_augAdd 1 sc_wrong_end.nd (ve_sub (ve_callG h_asked_by hr pxD (va_cons (ve_frz (ve_var 3)) va_nil)) ve_int)))))
    (vs_one (vs_ret (ve_if (vt_gt (ve_var 1) ve_int) (ve_callB callR_len callV_len hf.b_len (va_cons (ve_var 0) va_nil)) ve_non)))))⟩
theorem walk_wrong_second {P : Program} {w : World} {K : PySem.W.Frag} {mg : Str → Option Value} {base : Heap} {f : Addr} (hf : Fx K mg) (h_is_give : DefG P w K mg base 2 "is_give" 1 (c_is_give K)) (cdv : Value) (A : Around) (outer : List Env) (s : Shared) (H : Hp) (E : XK)
    (hr : Room 2 (A.deeper (envOfC "wrong_second" (defScope s_wrong_second) s.heap.objs.size f cdv))) : ∃ u, VSs (CxV P w K mg base N_wrong_second "wrong_second" (defScope s_wrong_second) f cdv A outer s H E) (WEx E) (defBody s_wrong_second) u (T_wrong_second K) :=
  ⟨_, (vs_cons (vs_set 1 sc_wrong_second.nd ve_dic0)
    (vs_cons (vs_for poD (vi_enum hf.b_enumerate (va_cons (ve_frz (ve_var 0)) va_nil)) (vg_tup (vgs_cons (vg_name 2 sc_wrong_second.nd) (vgs_cons (vg_name 3 sc_wrong_second.nd) vgs_nil)))
    (vs_one (vs_if (vt_not (vt_val (ve_callG h_is_give hr pxD (va_cons (ve_frz (ve_var 3)) va_nil))))
    (vs_cons (vs_if (vt_in hr.units (ve_var 3) (ve_var 1))
    (vs_one (vs_ret (ve_var 2)))
    vs_nil)
    (vs_one (vs_asg ve_bl (vg_sub 1 hr.units (ve_var 3)))))
    vs_nil)))
    (vs_one (vs_ret ve_non))))⟩
theorem walk_raw_ends {P : Program} {w : World} {K : PySem.W.Frag} {mg : Str → Option Value} {base : Heap} {f : Addr} (hf : Fx K mg) (h_asked_by : DefG P w K mg base 3 "asked_by" 1 (c_asked_by K)) (cdv : Value) (A : Around) (outer : List Env) (s : Shared) (H : Hp) (E : XK)
    (hr : Room 3 (A.deeper (envOfC "raw_ends" (defScope s_raw_ends) s.heap.objs.size f cdv))) : ∃ u, VSs (CxV P w K mg base N_raw_ends "raw_ends" (defScope s_raw_ends) f cdv A outer s H E) (WEx E) (defBody s_raw_ends) u (T_raw_ends K) :=
  ⟨_, (vs_cons (vs_set 1 sc_raw_ends.nd (ve_mul (ve_lst (va_cons ve_int va_nil)) (ve_callB callR_len callV_len hf.b_len (va_cons (ve_var 0) va_nil))))
    (vs_cons (vs_set 2 sc_raw_ends.nd (ve_lst va_nil))
    (vs_cons (vs_for poD (vi_rng3 hf.b_range (va_cons (ve_sub (ve_callB callR_len callV_len hf.b_len (va_cons (ve_var 0) va_nil)) ve_int) (va_cons (ve_neg ve_int) (va_cons (ve_neg ve_int) va_nil)))) (vg_name 3 sc_raw_ends.nd)
    (vs_cons (vs_set 4 sc_raw_ends.nd (ve_add (ve_var 3) ve_int))
    (vs_cons (vs_for poD (vi_rng1 hf.b_range (va_cons (ve_frz (ve_callG h_asked_by hr pxD (va_cons (ve_ix hr.units (ve_var 0) (ve_var 3)) va_nil))) va_nil)) (vg_name 5 sc_raw_ends.nd)
    (vs_one (vs_set 4 sc_raw_ends.nd (ve_pop0 (ve_var 2)))))
    (vs_cons (vs_asg (ve_frz (ve_var 4)) (vg_sub 1 hr.units (ve_var 3)))
    (vs_one (vs_expr (ve_append (ve_var 2) (va_cons (ve_frz (ve_var 4)) va_nil))))))))
    (vs_one (vs_ret (ve_callTy call_tuple_of callV_tup hf.b_tuple (va_cons (ve_var 1) va_nil)))))))⟩
theorem walk_uses {P : Program} {w : World} {K : PySem.W.Frag} {mg : Str → Option Value} {base : Heap} {f : Addr} (hf : Fx K mg) (h_is_give : DefG P w K mg base 2 "is_give" 1 (c_is_give K)) (h_is_take : DefG P w K mg base 2 "is_take" 1 (c_is_take K)) (cdv : Value) (A : Around) (outer : List Env) (s : Shared) (H : Hp) (E : XK)
    (hr : Room 2 (A.deeper (envOfC "uses" (defScope s_uses) s.heap.objs.size f cdv))) : ∃ u, VSs (CxV P w K mg base N_uses "uses" (defScope s_uses) f cdv A outer s H E) (WEx E) (defBody s_uses) u (T_uses K) :=
  ⟨_, (vs_one (vs_ret (ve_dc (own := [("place", 1), ("word", 2)]) (ok := blkOk_by (show blkC N_uses (defScope s_uses) _ _ = true by decide +kernel)) sc_uses.nd (vi_enum hf.b_enumerate (va_cons (ve_frz (ve_var 0)) va_nil)) (fun _ _ _ _ _ => keepG (vg_tup (vgs_cons (vg_name 1 sc_uses.nd) (vgs_cons (vg_name 2 sc_uses.nd) vgs_nil)))) (fun _ _ _ _ _ => keepT (vts_one (vt_w (vw_and (vt_not (vt_val (ve_callG h_is_give hr px0 (va_cons (ve_frz (ve_var 2)) va_nil)))) (vw_and1 (vt_not (vt_val (ve_callG h_is_take hr px0 (va_cons (ve_frz (ve_var 2)) va_nil))))))))) (fun _ _ _ _ _ => keepE (ve_frz (ve_var 2))) (fun _ _ _ _ _ => keepE (ve_frz (ve_var 1))))))⟩
theorem walk_wrong_take {P : Program} {w : World} {K : PySem.W.Frag} {mg : Str → Option Value} {base : Heap} {f : Addr} (hf : Fx K mg) (h_raw_ends : DefG P w K mg base 4 "raw_ends" 1 (c_raw_ends K)) (h_uses : DefG P w K mg base 3 "uses" 1 (c_uses K)) (h_is_take : DefG P w K mg base 2 "is_take" 1 (c_is_take K)) (h_name_of : DefG P w K mg base 3 "name_of" 1 (c_name_of K)) (cdv : Value) (A : Around) (outer : List Env) (s : Shared) (H : Hp) (E : XK)
    (hr : Room 4 (A.deeper (envOfC "wrong_take" (defScope s_wrong_take) s.heap.objs.size f cdv))) : ∃ u, VSs (CxV P w K mg base N_wrong_take "wrong_take" (defScope s_wrong_take) f cdv A outer s H E) (WEx E) (defBody s_wrong_take) u (T_wrong_take K) :=
  ⟨_, (vs_cons (vs_set 1 sc_wrong_take.nd (ve_callG h_raw_ends hr pxD (va_cons (ve_frz (ve_var 0)) va_nil)))
    (vs_cons (vs_set 2 sc_wrong_take.nd (ve_callG h_uses hr pxD (va_cons (ve_frz (ve_var 0)) va_nil)))
    (vs_cons (vs_for poD (vi_enum hf.b_enumerate (va_cons (ve_frz (ve_var 0)) va_nil)) (vg_tup (vgs_cons (vg_name 3 sc_wrong_take.nd) (vgs_cons (vg_name 4 sc_wrong_take.nd) vgs_nil)))
    (vs_one (vs_if (vt_w (vw_and (vt_val (ve_callG h_is_take hr pxD (va_cons (ve_frz (ve_var 4)) va_nil))) (vw_and1 (vt_not (vt_chain op_lt opV_C op_lt opV_C (ve_var 3) (ve_get2 hr.units (ve_var 2) (ve_callG h_name_of hr pxD (va_cons (ve_frz (ve_var 4)) va_nil)) (ve_neg ve_int)) (ve_ix hr.units (ve_var 1) (ve_var 3)))))))
    (vs_one (vs_ret (ve_var 3)))
    vs_nil)))
    (vs_one (vs_ret ve_non)))))⟩
theorem walk_fault_in {P : Program} {w : World} {K : PySem.W.Frag} {mg : Str → Option Value} {base : Heap} {f : Addr} (hf : Fx K mg) (h_is_word : DefG P w K mg base 3 "is_word" 1 (c_is_word K)) (h_wrong_end : DefG P w K mg base 4 "wrong_end" 1 (c_wrong_end K)) (h_wrong_second : DefG P w K mg base 3 "wrong_second" 1 (c_wrong_second K)) (h_wrong_take : DefG P w K mg base 5 "wrong_take" 1 (c_wrong_take K)) (cdv : Value) (A : Around) (outer : List Env) (s : Shared) (H : Hp) (E : XK)
    (hr : Room 5 (A.deeper (envOfC "fault_in" (defScope s_fault_in) s.heap.objs.size f cdv))) : ∃ u, VSs (CxV P w K mg base N_fault_in "fault_in" (defScope s_fault_in) f cdv A outer s H E) (WEx E) (defBody s_fault_in) u (T_fault_in K) :=
  ⟨_, (vs_cons (vs_for poD (vi_enum hf.b_enumerate (va_cons (ve_frz (ve_var 0)) va_nil)) (vg_tup (vgs_cons (vg_name 1 sc_fault_in.nd) (vgs_cons (vg_name 2 sc_fault_in.nd) vgs_nil)))
    (vs_one (vs_if (vt_not (vt_val (ve_callG h_is_word hr pxD (va_cons (ve_frz (ve_var 2)) va_nil))))
    (vs_one (vs_ret (ve_var 1)))
    vs_nil)))
    (vs_cons (vs_for poD (vi_any (ve_tup (va_cons (ve_gref hf.g_wrong_end) (va_cons (ve_gref hf.g_wrong_second) (va_cons (ve_gref hf.g_wrong_take) va_nil))))) (vg_name 3 sc_fault_in.nd)
    (vs_cons (vs_set 4 sc_fault_in.nd (ve_callL (i := 3) (k := 5) (DefsL.cons h_wrong_end hf.g_wrong_end (DefsL.cons h_wrong_second hf.g_wrong_second (DefsL.cons h_wrong_take hf.g_wrong_take DefsL.nil (by decide)) (by decide)) (by decide)) hr (by rfl) (by first | exact Or.inl rfl | exact Or.inr (Or.inl rfl) | exact Or.inr (Or.inr rfl)) pxD (va_cons (ve_frz (ve_var 0)) va_nil) (by decide)))
    (vs_one (vs_if (vt_isnot (ve_var 4) ve_non)
    (vs_one (vs_ret (ve_var 4)))
    vs_nil))))
    (vs_one (vs_ret ve_non))))⟩
theorem walk_Program___init__ {P : Program} {w : World} {K : PySem.W.Frag} {mg : Str → Option Value} {base : Heap} {f : Addr} (hf : Fx K mg) (h_fault_in : DefG P w K mg base 6 "fault_in" 1 (c_fault_in K)) (cdv : Value) (A : Around) (outer : List Env) (s : Shared) (H : Hp) (E : XK)
    (hr : Room 6 (A.deeper (envOfC "Program.__init__" (defScope s_Program___init__) s.heap.objs.size f cdv))) : ∃ u, VSs (CxV P w K mg base N_Program___init__ "Program.__init__" (defScope s_Program___init__) f cdv A outer s H E) (WEx E) (defBody s_Program___init__) u (T_Program___init__ K) :=
  ⟨_, (vs_cons (vs_if (vt_w (vw_or (vt_not (vt_val (ve_callB call_isi (callV_isi hf.I) hf.b_isinstance (va_cons (ve_var 1) (va_cons (ve_bty hf.b_tuple) va_nil))))) (vw_or1 (vt_not (vt_chain op_le opV_C op_le opV_C ve_int (ve_callB callR_len callV_len hf.b_len (va_cons (ve_var 1) va_nil)) (ve_gint hf.i_MOST_WORDS))))))
    (vs_one vs_never)
    vs_nil)
    (vs_cons (vs_set 2 sc_Program___init__.nd (ve_callG h_fault_in hr pxD (va_cons (ve_frz (ve_var 1)) va_nil)))
    (vs_cons (vs_if (vt_isnot (ve_var 2) ve_non)
    (vs_one vs_never)
    vs_nil)
    (vs_one (vs_fset hf.F_words (ve_var 0) (ve_frz (ve_var 1)))))))⟩
theorem walk_Program___eq__ {P : Program} {w : World} {K : PySem.W.Frag} {mg : Str → Option Value} {base : Heap} {f : Addr} (hf : Fx K mg)  (cdv : Value) (A : Around) (outer : List Env) (s : Shared) (H : Hp) (E : XK)
    (hr : Room 1 (A.deeper (envOfC "Program.__eq__" (defScope s_Program___eq__) s.heap.objs.size f cdv))) : ∃ u, VSs (CxV P w K mg base N_Program___eq__ "Program.__eq__" (defScope s_Program___eq__) f cdv A outer s H E) (WEx E) (defBody s_Program___eq__) u (T_Program___eq__ K) :=
  ⟨_, (vs_one (vs_ret (ve_and (ve_callB call_isi (callV_isi hf.I) hf.b_isinstance (va_cons (ve_var 1) (va_cons (ve_gref hf.g_Program) va_nil))) (ve_one (ve_eq hr.units (ve_fld hf.F_words (ve_var 0)) (ve_fld hf.F_words (ve_var 1)))))))⟩
theorem walk_RawProgram___init__ {P : Program} {w : World} {K : PySem.W.Frag} {mg : Str → Option Value} {base : Heap} {f : Addr} (hf : Fx K mg)  (cdv : Value) (A : Around) (outer : List Env) (s : Shared) (H : Hp) (E : XK)
    (hr : Room 1 (A.deeper (envOfC "RawProgram.__init__" (defScope s_RawProgram___init__) s.heap.objs.size f cdv))) : ∃ u, VSs (CxV P w K mg base N_RawProgram___init__ "RawProgram.__init__" (defScope s_RawProgram___init__) f cdv A outer s H E) (WEx E) (defBody s_RawProgram___init__) u (T_RawProgram___init__ K) :=
  ⟨_, (vs_one (vs_fset hf.F_words (ve_var 0) (ve_frz (ve_callTy call_tuple_of callV_tup hf.b_tuple (va_cons (ve_var 1) va_nil)))))⟩
theorem walk_givens {P : Program} {w : World} {K : PySem.W.Frag} {mg : Str → Option Value} {base : Heap} {f : Addr} (hf : Fx K mg) (h_is_give : DefG P w K mg base 2 "is_give" 1 (c_is_give K)) (cdv : Value) (A : Around) (outer : List Env) (s : Shared) (H : Hp) (E : XK)
    (hr : Room 2 (A.deeper (envOfC "givens" (defScope s_givens) s.heap.objs.size f cdv))) : ∃ u, VSs (CxV P w K mg base N_givens "givens" (defScope s_givens) f cdv A outer s H E) (WEx E) (defBody s_givens) u (T_givens K) :=
  ⟨_, (vs_one (vs_ret (ve_callB callR_len callV_len hf.b_len (va_cons (ve_lc (own := [("word", 1)]) (ok := blkOk_by (show blkC N_givens (defScope s_givens) _ _ = true by decide +kernel)) sc_givens.nd (vi_any (ve_fld hf.F_words (ve_var 0))) (fun _ _ _ _ _ => keepG (vg_name 1 sc_givens.nd)) (fun _ _ _ _ _ => keepT (vts_one (vt_val (ve_callG h_is_give hr px0 (va_cons (ve_frz (ve_var 1)) va_nil))))) (fun _ _ _ _ _ => keepE (ve_frz (ve_var 1)))) va_nil))))⟩
theorem walk_is_step {P : Program} {w : World} {K : PySem.W.Frag} {mg : Str → Option Value} {base : Heap} {f : Addr} (hf : Fx K mg) (h_is_give : DefG P w K mg base 2 "is_give" 1 (c_is_give K)) (h_is_take : DefG P w K mg base 2 "is_take" 1 (c_is_take K)) (cdv : Value) (A : Around) (outer : List Env) (s : Shared) (H : Hp) (E : XK)
    (hr : Room 2 (A.deeper (envOfC "is_step" (defScope s_is_step) s.heap.objs.size f cdv))) : ∃ u, VSs (CxV P w K mg base N_is_step "is_step" (defScope s_is_step) f cdv A outer s H E) (WEx E) (defBody s_is_step) u (T_is_step K) :=
  ⟨_, (vs_one (vs_ret (ve_and (ve_callG h_is_give hr pxD (va_cons (ve_ix hr.units (ve_var 0) (ve_var 1)) va_nil)) (ve_one (ve_callG h_is_take hr pxD (va_cons (ve_ix hr.units (ve_var 0) (ve_add (ve_var 1) ve_int)) va_nil))))))⟩
theorem walk_raw_steps {P : Program} {w : World} {K : PySem.W.Frag} {mg : Str → Option Value} {base : Heap} {f : Addr} (hf : Fx K mg) (h_is_step : DefG P w K mg base 3 "is_step" 2 (c_is_step K)) (cdv : Value) (A : Around) (outer : List Env) (s : Shared) (H : Hp) (E : XK)
    (hr : Room 3 (A.deeper (envOfC "raw_steps" (defScope s_raw_steps) s.heap.objs.size f cdv))) : ∃ u, VSs (CxV P w K mg base N_raw_steps "raw_steps" (defScope s_raw_steps) f cdv A outer s H E) (WEx E) (defBody s_raw_steps) u (T_raw_steps K) :=
  ⟨_, (vs_one (vs_ret (ve_lc (own := [("place", 1)]) (ok := blkOk_by (show blkC N_raw_steps (defScope s_raw_steps) _ _ = true by decide +kernel)) sc_raw_steps.nd (vi_rng1 hf.b_range (va_cons (ve_sub (ve_callB callR_len callV_len hf.b_len (va_cons (ve_var 0) va_nil)) ve_int) va_nil)) (fun _ _ _ _ _ => keepG (vg_name 1 sc_raw_steps.nd)) (fun _ _ _ _ _ => keepT (vts_one (vt_val (ve_callG h_is_step hr px0 (va_cons (ve_frz (ve_var 0)) (va_cons (ve_frz (ve_var 1)) va_nil)))))) (fun _ _ _ _ _ => keepE (ve_frz (ve_var 1))))))⟩
theorem walk_steps {P : Program} {w : World} {K : PySem.W.Frag} {mg : Str → Option Value} {base : Heap} {f : Addr} (hf : Fx K mg) (h_raw_steps : DefG P w K mg base 4 "raw_steps" 1 (c_raw_steps K)) (cdv : Value) (A : Around) (outer : List Env) (s : Shared) (H : Hp) (E : XK)
    (hr : Room 4 (A.deeper (envOfC "steps" (defScope s_steps) s.heap.objs.size f cdv))) : ∃ u, VSs (CxV P w K mg base N_steps "steps" (defScope s_steps) f cdv A outer s H E) (WEx E) (defBody s_steps) u (T_steps K) :=
  ⟨_, (vs_one (vs_ret (ve_callTy call_tuple_of callV_tup hf.b_tuple (va_cons (ve_frz (ve_callG h_raw_steps hr pxD (va_cons (ve_fld hf.F_words (ve_var 0)) va_nil))) va_nil))))⟩
theorem walk_raw_stepped {P : Program} {w : World} {K : PySem.W.Frag} {mg : Str → Option Value} {base : Heap} {f : Addr} (hf : Fx K mg) (h_raw_ends : DefG P w K mg base 4 "raw_ends" 1 (c_raw_ends K)) (h_uses : DefG P w K mg base 3 "uses" 1 (c_uses K)) (h_name_of : DefG P w K mg base 3 "name_of" 1 (c_name_of K)) (cdv : Value) (A : Around) (outer : List Env) (s : Shared) (H : Hp) (E : XK)
    (hr : Room 4 (A.deeper (envOfC "raw_stepped" (defScope s_raw_stepped) s.heap.objs.size f cdv))) : ∃ u, VSs (CxV P w K mg base N_raw_stepped "raw_stepped" (defScope s_raw_stepped) f cdv A outer s H E) (WEx E) (defBody s_raw_stepped) u (T_raw_stepped K) :=
  ⟨_, (vs_cons (vs_set 2 sc_raw_stepped.nd (ve_callG h_raw_ends hr pxD (va_cons (ve_frz (ve_var 0)) va_nil)))
    (vs_cons (vs_set 3 sc_raw_stepped.nd (ve_add (ve_var 1) ve_int))
    (vs_cons (vs_set 4 sc_raw_stepped.nd (ve_ix hr.units (ve_var 2) (ve_var 3)))
    (vs_cons (vs_set 5 sc_raw_stepped.nd (ve_ix hr.units (ve_var 2) (ve_var 1)))
    (vs_cons (vs_set 6 sc_raw_stepped.nd (ve_ix hr.units (ve_frz (ve_callG h_uses hr pxD (va_cons (ve_frz (ve_var 0)) va_nil))) (ve_callG h_name_of hr pxD (va_cons (ve_ix hr.units (ve_var 0) (ve_add (ve_var 1) ve_int)) va_nil))))
    (vs_one (vs_ret (ve_add (ve_add (ve_add (ve_add (ve_slice (ve_var 0) vo_none (vo_some (ve_var 1))) (ve_slice (ve_var 0) (vo_some (ve_var 3)) (vo_some (ve_var 6)))) (ve_slice (ve_var 0) (vo_some (ve_var 4)) (vo_some (ve_var 5)))) (ve_slice (ve_var 0) (vo_some (ve_add (ve_var 6) ve_int)) (vo_some (ve_var 4)))) (ve_slice (ve_var 0) (vo_some (ve_var 5)) vo_none)))))))))⟩
theorem walk_check_step {P : Program} {w : World} {K : PySem.W.Frag} {mg : Str → Option Value} {base : Heap} {f : Addr} (hf : Fx K mg) (h_is_within : DefG P w K mg base 3 "is_within" 3 (c_is_within K)) (h_is_step : DefG P w K mg base 3 "is_step" 2 (c_is_step K)) (cdv : Value) (A : Around) (outer : List Env) (s : Shared) (H : Hp) (E : XK)
    (hr : Room 3 (A.deeper (envOfC "check_step" (defScope s_check_step) s.heap.objs.size f cdv))) : ∃ u, VSs (CxV P w K mg base N_check_step "check_step" (defScope s_check_step) f cdv A outer s H E) (WEx E) (defBody s_check_step) u (T_check_step K) :=
  ⟨_, (vs_one (vs_if (vt_w (vw_or (vt_not (vt_val (ve_callG h_is_within hr pxD (va_cons (ve_frz (ve_var 1)) (va_cons ve_int (va_cons (ve_sub (ve_callB callR_len callV_len hf.b_len (va_cons (ve_var 0) va_nil)) ve_int) va_nil)))))) (vw_or1 (vt_not (vt_val (ve_callG h_is_step hr pxD (va_cons (ve_frz (ve_var 0)) (va_cons (ve_frz (ve_var 1)) va_nil))))))))
    (vs_one vs_never)
    vs_nil))⟩
theorem walk_way_to_rest {P : Program} {w : World} {K : PySem.W.Frag} {mg : Str → Option Value} {base : Heap} {f : Addr} (hf : Fx K mg) (h_raw_steps : DefG P w K mg base 4 "raw_steps" 1 (c_raw_steps K)) (h_raw_stepped : DefG P w K mg base 5 "raw_stepped" 2 (c_raw_stepped K)) (cdv : Value) (A : Around) (outer : List Env) (s : Shared) (H : Hp) (E : XK)
    (hr : Room 5 (A.deeper (envOfC "way_to_rest" (defScope s_way_to_rest) s.heap.objs.size f cdv))) : ∃ u, VSs (CxV P w K mg base N_way_to_rest "way_to_rest" (defScope s_way_to_rest) f cdv A outer s H E) (WEx E) (defBody s_way_to_rest) u (T_way_to_rest K) :=
  ⟨_, (vs_cons (vs_set 1 sc_way_to_rest.nd (ve_lst va_nil))
    (vs_cons (vs_set 2 sc_way_to_rest.nd (ve_callG h_raw_steps hr pxD (va_cons (ve_frz (ve_var 0)) va_nil)))
    (vs_cons (vs_while poD (vt_gt (ve_frz (ve_callB callR_len callV_len hf.b_len (va_cons (ve_var 2) va_nil))) ve_int)
    (vs_cons (vs_expr (ve_append (ve_var 1) (va_cons (ve_ix hr.units (ve_var 2) ve_int) va_nil)))
    (vs_cons (vs_set 0 sc_way_to_rest.nd (ve_callG h_raw_stepped hr pxD (va_cons (ve_frz (ve_var 0)) (va_cons (ve_ix hr.units (ve_var 2) ve_int) va_nil))))
    (vs_one (vs_set 2 sc_way_to_rest.nd (ve_callG h_raw_steps hr pxD (va_cons (ve_frz (ve_var 0)) va_nil)))))))
    (vs_one (vs_ret (ve_tup (va_cons (ve_frz (ve_callTy call_tuple_of callV_tup hf.b_tuple (va_cons (ve_var 1) va_nil))) (va_cons (ve_frz (ve_var 0)) va_nil))))))))⟩
theorem walk_raw_rest {P : Program} {w : World} {K : PySem.W.Frag} {mg : Str → Option Value} {base : Heap} {f : Addr} (hf : Fx K mg) (h_way_to_rest : DefG P w K mg base 6 "way_to_rest" 1 (c_way_to_rest K)) (cdv : Value) (A : Around) (outer : List Env) (s : Shared) (H : Hp) (E : XK)
    (hr : Room 6 (A.deeper (envOfC "raw_rest" (defScope s_raw_rest) s.heap.objs.size f cdv))) : ∃ u, VSs (CxV P w K mg base N_raw_rest "raw_rest" (defScope s_raw_rest) f cdv A outer s H E) (WEx E) (defBody s_raw_rest) u (T_raw_rest K) :=
  ⟨_, (vs_one (vs_ret (ve_ix hr.units (ve_frz (ve_callG h_way_to_rest hr pxD (va_cons (ve_frz (ve_var 0)) va_nil))) ve_int)))⟩
theorem walk_rest {P : Program} {w : World} {K : PySem.W.Frag} {mg : Str → Option Value} {base : Heap} {f : Addr} (hf : Fx K mg) (h_raw_rest : DefG P w K mg base 7 "raw_rest" 1 (c_raw_rest K)) (hm_RawProgram : MakG P w K mg base 2 "RawProgram" (He.ga K "RawProgram") 2 (c_RawProgram___init__ K)) (cdv : Value) (A : Around) (outer : List Env) (s : Shared) (H : Hp) (E : XK)
    (hr : Room 7 (A.deeper (envOfC "rest" (defScope s_rest) s.heap.objs.size f cdv))) : ∃ u, VSs (CxV P w K mg base N_rest "rest" (defScope s_rest) f cdv A outer s H E) (WEx E) (defBody s_rest) u (T_rest K) :=
  ⟨_, (vs_one (vs_ret (ve_makeG hm_RawProgram hr pxD (va_cons (ve_frz (ve_callG h_raw_rest hr pxD (va_cons (ve_fld hf.F_words (ve_var 0)) va_nil))) va_nil))))⟩
theorem walk_many_steps {P : Program} {w : World} {K : PySem.W.Frag} {mg : Str → Option Value} {base : Heap} {f : Addr} (hf : Fx K mg) (h_givens : DefG P w K mg base 3 "givens" 1 (c_givens K)) (h_rest : DefG P w K mg base 8 "rest" 1 (c_rest K)) (cdv : Value) (A : Around) (outer : List Env) (s : Shared) (H : Hp) (E : XK)
    (hr : Room 8 (A.deeper (envOfC "many_steps" (defScope s_many_steps) s.heap.objs.size f cdv))) : ∃ u, VSs (CxV P w K mg base N_many_steps "many_steps" (defScope s_many_steps) f cdv A outer s H E) (WEx E) (defBody s_many_steps) u (T_many_steps K) :=
  ⟨_, (vs_one (vs_ret (ve_sub (ve_callG h_givens hr pxD (va_cons (ve_frz (ve_var 0)) va_nil)) (ve_callG h_givens hr pxD (va_cons (ve_frz (ve_callG h_rest hr pxD (va_cons (ve_frz (ve_var 0)) va_nil))) va_nil)))))⟩
theorem walk_is_way {P : Program} {w : World} {K : PySem.W.Frag} {mg : Str → Option Value} {base : Heap} {f : Addr} (hf : Fx K mg) (h_is_within : DefG P w K mg base 3 "is_within" 3 (c_is_within K)) (h_is_step : DefG P w K mg base 3 "is_step" 2 (c_is_step K)) (h_raw_stepped : DefG P w K mg base 5 "raw_stepped" 2 (c_raw_stepped K)) (cdv : Value) (A : Around) (outer : List Env) (s : Shared) (H : Hp) (E : XK)
    (hr : Room 5 (A.deeper (envOfC "is_way" (defScope s_is_way) s.heap.objs.size f cdv))) : ∃ u, VSs (CxV P w K mg base N_is_way "is_way" (defScope s_is_way) f cdv A outer s H E) (WEx E) (defBody s_is_way) u (T_is_way K) :=
  ⟨_, (vs_cons (vs_if (vt_w (vw_or (vt_not (vt_val (ve_callB call_isi (callV_isi hf.I) hf.b_isinstance (va_cons (ve_var 2) (va_cons (ve_bty hf.b_tuple) va_nil))))) (vw_or1 (vt_not (vt_val (ve_callB call_isi (callV_isi hf.I) hf.b_isinstance (va_cons (ve_var 1) (va_cons (ve_gref hf.g_Program) va_nil))))))))
    (vs_one (vs_ret ve_bl))
    vs_nil)
    (vs_cons (vs_set 3 sc_is_way.nd (ve_fld hf.F_words (ve_var 0)))
    (vs_cons (vs_for poD (vi_any (ve_frz (ve_var 2))) (vg_name 4 sc_is_way.nd)
    (vs_cons (vs_if (vt_w (vw_or (vt_not (vt_val (ve_callG h_is_within hr pxD (va_cons (ve_frz (ve_var 4)) (va_cons ve_int (va_cons (ve_sub (ve_callB callR_len callV_len hf.b_len (va_cons (ve_var 3) va_nil)) ve_int) va_nil)))))) (vw_or1 (vt_not (vt_val (ve_callG h_is_step hr pxD (va_cons (ve_frz (ve_var 3)) (va_cons (ve_frz (ve_var 4)) va_nil))))))))
    (vs_one (vs_ret ve_bl))
    vs_nil)
    (vs_one (vs_set 3 sc_is_way.nd (ve_callG h_raw_stepped hr pxD (va_cons (ve_frz (ve_var 3)) (va_cons (ve_frz (ve_var 4)) va_nil)))))))
    (vs_one (vs_ret (ve_eq hr.units (ve_var 3) (ve_fld hf.F_words (ve_var 1))))))))⟩
theorem walk_Run___init__ {P : Program} {w : World} {K : PySem.W.Frag} {mg : Str → Option Value} {base : Heap} {f : Addr} (hf : Fx K mg)  (cdv : Value) (A : Around) (outer : List Env) (s : Shared) (H : Hp) (E : XK)
    (hr : Room 1 (A.deeper (envOfC "Run.__init__" (defScope s_Run___init__) s.heap.objs.size f cdv))) : ∃ u, VSs (CxV P w K mg base N_Run___init__ "Run.__init__" (defScope s_Run___init__) f cdv A outer s H E) (WEx E) (defBody s_Run___init__) u (T_Run___init__ K) :=
  ⟨_, (vs_one (vs_fP hf.F_past 0 (ve_lst (va_cons (ve_fld hf.F_words (ve_var 1)) va_nil))))⟩
theorem walk_Run_program {P : Program} {w : World} {K : PySem.W.Frag} {mg : Str → Option Value} {base : Heap} {f : Addr} (hf : Fx K mg) (hm_RawProgram : MakG P w K mg base 2 "RawProgram" (He.ga K "RawProgram") 2 (c_RawProgram___init__ K)) (cdv : Value) (A : Around) (outer : List Env) (s : Shared) (H : Hp) (E : XK)
    (hr : Room 3 (A.deeper (envOfC "Run.program" (defScope s_Run_program) s.heap.objs.size f cdv))) : ∃ u, VSs (CxV P w K mg base N_Run_program "Run.program" (defScope s_Run_program) f cdv A outer s H E) (WEx E) (defBody s_Run_program) u (T_Run_program K) :=
  ⟨_, (vs_one (vs_ret (ve_makeG hm_RawProgram hr pxD (va_cons (ve_ix hr.units (ve_fO hf.F_past (ve_var 0)) (ve_neg ve_int)) va_nil))))⟩
theorem walk_Run_many {P : Program} {w : World} {K : PySem.W.Frag} {mg : Str → Option Value} {base : Heap} {f : Addr} (hf : Fx K mg)  (cdv : Value) (A : Around) (outer : List Env) (s : Shared) (H : Hp) (E : XK)
    (hr : Room 1 (A.deeper (envOfC "Run.many" (defScope s_Run_many) s.heap.objs.size f cdv))) : ∃ u, VSs (CxV P w K mg base N_Run_many "Run.many" (defScope s_Run_many) f cdv A outer s H E) (WEx E) (defBody s_Run_many) u (T_Run_many K) :=
  ⟨_, (vs_one (vs_ret (ve_sub (ve_callB callR_len callV_len hf.b_len (va_cons (ve_fO hf.F_past (ve_var 0)) va_nil)) ve_int)))⟩
theorem walk_Run_step {P : Program} {w : World} {K : PySem.W.Frag} {mg : Str → Option Value} {base : Heap} {f : Addr} (hf : Fx K mg) (h_check_step : DefG P w K mg base 4 "check_step" 2 (c_check_step K)) (h_raw_stepped : DefG P w K mg base 5 "raw_stepped" 2 (c_raw_stepped K)) (cdv : Value) (A : Around) (outer : List Env) (s : Shared) (H : Hp) (E : XK)
    (hr : Room 5 (A.deeper (envOfC "Run.step" (defScope s_Run_step) s.heap.objs.size f cdv))) : ∃ u, VSs (CxV P w K mg base N_Run_step "Run.step" (defScope s_Run_step) f cdv A outer s H E) (WEx E) (defBody s_Run_step) u (T_Run_step K) :=
  ⟨_, (vs_cons (vs_set 2 sc_Run_step.nd (ve_ix hr.units (ve_fO hf.F_past (ve_var 0)) (ve_neg ve_int)))
    (vs_cons (vs_expr (ve_callG h_check_step hr pxD (va_cons (ve_frz (ve_var 2)) (va_cons (ve_frz (ve_var 1)) va_nil))))
    (vs_one (vs_expr (ve_appendF (ve_fO hf.F_past (ve_var 0)) (va_cons (ve_frz (ve_callG h_raw_stepped hr pxD (va_cons (ve_frz (ve_var 2)) (va_cons (ve_frz (ve_var 1)) va_nil)))) va_nil))))))⟩
theorem walk_Run_back {P : Program} {w : World} {K : PySem.W.Frag} {mg : Str → Option Value} {base : Heap} {f : Addr} (hf : Fx K mg)  (cdv : Value) (A : Around) (outer : List Env) (s : Shared) (H : Hp) (E : XK)
    (hr : Room 1 (A.deeper (envOfC "Run.back" (defScope s_Run_back) s.heap.objs.size f cdv))) : ∃ u, VSs (CxV P w K mg base N_Run_back "Run.back" (defScope s_Run_back) f cdv A outer s H E) (WEx E) (defBody s_Run_back) u (T_Run_back K) :=
  ⟨_, (vs_cons (vs_if (vt_eq hr.units (ve_frz (ve_callB callR_len callV_len hf.b_len (va_cons (ve_fO hf.F_past (ve_var 0)) va_nil))) ve_int)
    (vs_one vs_never)
    vs_nil)
    (vs_one (vs_expr (ve_pop0F (ve_fO hf.F_past (ve_var 0))))))⟩
theorem walk_Run_to_rest {P : Program} {w : World} {K : PySem.W.Frag} {mg : Str → Option Value} {base : Heap} {f : Addr} (hf : Fx K mg) (h_raw_steps : DefG P w K mg base 4 "raw_steps" 1 (c_raw_steps K)) (hme_Run_step : MetG P w K mg base 6 (He.ga K "Run") "step" 2 (c_Run_step K)) (cdv : Value) (A : Around) (outer : List Env) (s : Shared) (H : Hp) (E : XK)
    (hr : Room 6 (A.deeper (envOfC "Run.to_rest" (defScope s_Run_to_rest) s.heap.objs.size f cdv))) : ∃ u, VSs (CxV P w K mg base N_Run_to_rest "Run.to_rest" (defScope s_Run_to_rest) f cdv A outer s H E) (WEx E) (defBody s_Run_to_rest) u (T_Run_to_rest K) :=
  ⟨_, (vs_cons (vs_set 1 sc_Run_to_rest.nd (ve_lst va_nil))
    (vs_cons (vs_set 2 sc_Run_to_rest.nd (ve_callG h_raw_steps hr pxD (va_cons (ve_ix hr.units (ve_fO hf.F_past (ve_var 0)) (ve_neg ve_int)) va_nil)))
    (vs_cons (vs_while poD (vt_gt (ve_frz (ve_callB callR_len callV_len hf.b_len (va_cons (ve_var 2) va_nil))) ve_int)
    (vs_cons (vs_expr (ve_methG hme_Run_step hr pxD (ve_var 0) (va_cons (ve_ix hr.units (ve_var 2) ve_int) va_nil)))
    (vs_cons (vs_expr (ve_append (ve_var 1) (va_cons (ve_ix hr.units (ve_var 2) ve_int) va_nil)))
    (vs_one (vs_set 2 sc_Run_to_rest.nd (ve_callG h_raw_steps hr pxD (va_cons (ve_ix hr.units (ve_fO hf.F_past (ve_var 0)) (ve_neg ve_int)) va_nil)))))))
    (vs_one (vs_ret (ve_callTy call_tuple_of callV_tup hf.b_tuple (va_cons (ve_var 1) va_nil)))))))⟩
theorem walk__law_pot {P : Program} {w : World} {K : PySem.W.Frag} {mg : Str → Option Value} {base : Heap} {f : Addr} (hf : Fx K mg)  (cdv : Value) (A : Around) (outer : List Env) (s : Shared) (H : Hp) (E : XK)
    (hr : Room 1 (A.deeper (envOfC "_law_pot" (defScope s__law_pot) s.heap.objs.size f cdv))) : ∃ u, VSs (CxV P w K mg base N__law_pot "_law_pot" (defScope s__law_pot) f cdv A outer s H E) (WEx E) (defBody s__law_pot) u (T__law_pot K) :=
  ⟨_, (vs_cons (vs_setLc 1 (own := [("item", 4)]) (ok := blkOk_by (show blkC N__law_pot (defScope s__law_pot) _ _ = true by decide +kernel)) sc__law_pot.nd (vi_any (ve_slice (ve_var 0) vo_none (vo_some ve_int))) (fun _ _ _ _ _ => keepG (vg_name 4 sc__law_pot.nd)) (fun _ _ _ _ _ => keepT vts_nil) (fun _ _ _ _ _ => keepE (ve_frz (ve_callTy call_int1 callV_int hf.b_int (va_cons (ve_var 4) va_nil)))))
    (vs_cons (vs_setLc 2 (own := [("item", 4)]) (ok := blkOk_by (show blkC N__law_pot (defScope s__law_pot) _ _ = true by decide +kernel)) sc__law_pot.nd (vi_any (ve_frz (ve_var 1))) (fun _ _ _ _ _ => keepG (vg_name 4 sc__law_pot.nd)) (fun _ _ _ _ _ => keepT (vts_one (vt_ge (ve_frz (ve_callB call_abs callV_abs hf.b_abs (va_cons (ve_var 4) va_nil))) (ve_pow ve_int ve_int)))) (fun _ _ _ _ _ => keepE (ve_frz (ve_callB call_abs callV_abs hf.b_abs (va_cons (ve_var 4) va_nil)))))
    (vs_cons (vs_set 3 sc__law_pot.nd (ve_add (ve_lc (own := [("item", 4)]) (ok := blkOk_by (show blkC N__law_pot (defScope s__law_pot) _ _ = true by decide +kernel)) sc__law_pot.nd (vi_any (ve_frz (ve_var 1))) (fun _ _ _ _ _ => keepG (vg_name 4 sc__law_pot.nd)) (fun _ _ _ _ _ => keepT (vts_one (vt_lt (ve_frz (ve_callB call_abs callV_abs hf.b_abs (va_cons (ve_var 4) va_nil))) (ve_pow ve_int ve_int)))) (fun _ _ _ _ _ => keepE (ve_mod (ve_callTy call_int1 callV_int hf.b_int (va_cons (ve_var 4) va_nil)) ve_int))) (ve_lst (va_cons (ve_add (ve_callB callR_len callV_len hf.b_len (va_cons (ve_var 1) va_nil)) ve_int) va_nil))))
    (vs_one (vs_ret (ve_pot 2 3 (ve_mod (ve_callTy call_int1 callV_int hf.b_int (va_cons (ve_frz (ve_callB (cr_sum rfl) callV_sum hf.b_sum (va_cons (ve_var 3) va_nil))) va_nil)) ve_int)))))))⟩
theorem walk__law_draw {P : Program} {w : World} {K : PySem.W.Frag} {mg : Str → Option Value} {base : Heap} {f : Addr} (hf : Fx K mg)  (cdv : Value) (A : Around) (outer : List Env) (s : Shared) (H : Hp) (E : XK)
    (hr : Room 1 (A.deeper (envOfC "_law_draw" (defScope s__law_draw) s.heap.objs.size f cdv))) : VSs (CxV P w K mg base N__law_draw "_law_draw" (defScope s__law_draw) f cdv A outer s H E) (WEx E) (defBody s__law_draw) (U_draw K) (T__law_draw K) :=
  (vs_cons (vs_set 2 sc__law_draw.nd (ve_ix hr.units (ve_var 0) ve_int))
    (vs_cons (vs_asg (ve_add (ve_var 2) ve_int) (vg_sub 0 hr.units ve_int))
    (vs_cons (vs_if (vt_gt (ve_callB callR_len callV_len hf.b_len (va_cons (ve_ix hr.units (ve_var 0) ve_int) va_nil)) ve_int)
    (vs_cons (vs_set 3 sc__law_draw.nd (ve_ix hr.units (ve_ix hr.units (ve_var 0) ve_int) ve_int))
    (vs_cons (vs_asg (ve_fdiv (ve_var 3) (ve_var 1)) (vg_subP hr.units (ve_ix hr.units (ve_var 0) ve_int) ve_int))
    (vs_cons (vs_if (vt_lt (ve_var 3) (ve_var 1))
    (vs_one (vs_expr (ve_pop1 (ve_ix hr.units (ve_var 0) ve_int) (va_cons ve_int va_nil))))
    vs_nil)
    (vs_one (vs_ret (ve_mod (ve_callTy call_int1 callV_int hf.b_int (va_cons (ve_var 3) va_nil)) (ve_var 1)))))))
    vs_nil)
    (vs_cons (vs_set 4 sc__law_draw.nd (ve_add (ve_add (ve_mul (ve_ix hr.units (ve_ix hr.units (ve_var 0) ve_int) (ve_mod (ve_callTy call_int1 callV_int hf.b_int (va_cons (ve_var 2) va_nil)) (ve_callB callR_len callV_len hf.b_len (va_cons (ve_ix hr.units (ve_var 0) ve_int) va_nil)))) ve_int) (ve_mul ve_int (ve_var 2))) (ve_mul (ve_ix hr.units (ve_var 0) ve_int) ve_int)))
    (vs_cons (vs_set 3 sc__law_draw.nd (ve_mod (ve_callTy call_int1 callV_int hf.b_int (va_cons (ve_add (ve_mul (ve_var 4) ve_int) ve_int) va_nil)) ve_int))
    (vs_cons (vs_set 3 sc__law_draw.nd (ve_mod (ve_callTy call_int1 callV_int hf.b_int (va_cons (ve_mul (ve_var 3) (ve_add (ve_fdiv (ve_var 3) ve_int) ve_int)) va_nil)) ve_int))
    (vs_cons (vs_set 3 sc__law_draw.nd (ve_mod (ve_callTy call_int1 callV_int hf.b_int (va_cons (ve_add (ve_mul (ve_var 3) (ve_add (ve_fdiv (ve_var 3) ve_int) ve_int)) (ve_var 2)) va_nil)) ve_int))
    (vs_one (vs_ret (ve_mod (ve_callTy call_int1 callV_int hf.b_int (va_cons (ve_fdiv (ve_var 3) ve_int) va_nil)) (ve_var 1)))))))))))
theorem walk__law_any {P : Program} {w : World} {K : PySem.W.Frag} {mg : Str → Option Value} {base : Heap} {f : Addr} (hf : Fx K mg) (h__law_draw : DefG P w K mg base 2 "_law_draw" 2 (c__law_draw K)) (cdv : Value) (A : Around) (outer : List Env) (s : Shared) (H : Hp) (E : XK)
    (hr : Room 2 (A.deeper (envOfC "_law_any" (defScope s__law_any) s.heap.objs.size f cdv))) : ∃ u, VSs (CxV P w K mg base N__law_any "_law_any" (defScope s__law_any) f cdv A outer s H E) (WEx E) (defBody s__law_any) u (T__law_any K) :=
  ⟨_, (vs_one (vs_ret (ve_ix hr.units (ve_var 1) (ve_callG h__law_draw hr pxD (va_cons (ve_var 0) (va_cons (ve_frz (ve_callB callR_len callV_len hf.b_len (va_cons (ve_var 1) va_nil))) va_nil))))))⟩
theorem walk__law_letters {P : Program} {w : World} {K : PySem.W.Frag} {mg : Str → Option Value} {base : Heap} {f : Addr} (hf : Fx K mg)  (cdv : Value) (A : Around) (outer : List Env) (s : Shared) (H : Hp) (E : XK)
    (hr : Room 1 (A.deeper (envOfC "_law_letters" (defScope s__law_letters) s.heap.objs.size f cdv))) : ∃ u, VSs (CxV P w K mg base N__law_letters "_law_letters" (defScope s__law_letters) f cdv A outer s H E) (WEx E) (defBody s__law_letters) u (T__law_letters K) :=
  ⟨_, (vs_cons (vs_set 1 sc__law_letters.nd ve_str)
    (vs_cons (vs_set 2 sc__law_letters.nd (ve_add (ve_var 0) ve_int))
    (vs_cons (vs_for poD (vi_rng1 hf.b_range (va_cons ve_int va_nil)) (vg_name 3 sc__law_letters.nd)
    (vs_one (vs_if (vt_gt (ve_var 2) ve_int)
    (vs_cons (vs_set 2 sc__law_letters.nd (ve_sub (ve_var 2) ve_int))
    (vs_cons (vs_set 1 sc__law_letters.nd (ve_add (ve_ix hr.units ve_str (ve_mod (ve_callTy call_int1 callV_int hf.b_int (va_cons (ve_var 2) va_nil)) ve_int)) (ve_var 1)))
    (vs_one (vs_set 2 sc__law_letters.nd (ve_fdiv (ve_var 2) ve_int)))))
    vs_nil)))
    (vs_one (vs_ret (ve_var 1))))))⟩
theorem walk__law_fresh {P : Program} {w : World} {K : PySem.W.Frag} {mg : Str → Option Value} {base : Heap} {f : Addr} (hf : Fx K mg) (h__law_draw : DefG P w K mg base 2 "_law_draw" 2 (c__law_draw K)) (h__law_letters : DefG P w K mg base 2 "_law_letters" 1 (c__law_letters K)) (cdv : Value) (A : Around) (outer : List Env) (s : Shared) (H : Hp) (E : XK)
    (hr : Room 2 (A.deeper (envOfC "_law_fresh" (defScope s__law_fresh) s.heap.objs.size f cdv))) : ∃ u, VSs (CxV P w K mg base N__law_fresh "_law_fresh" (defScope s__law_fresh) f cdv A outer s H E) (WEx E) (defBody s__law_fresh) u (T__law_fresh K) :=
  ⟨_, (vs_cons (vs_set 2 sc__law_fresh.nd (ve_callG h__law_draw hr pxD (va_cons (ve_var 0) (va_cons ve_int va_nil))))
    (vs_cons (vs_if (vt_eq hr.units (ve_frz (ve_callG h__law_draw hr pxD (va_cons (ve_var 0) (va_cons ve_int va_nil)))) ve_int)
    (vs_one (vs_set 2 sc__law_fresh.nd (ve_callG h__law_draw hr pxD (va_cons (ve_var 0) (va_cons ve_int va_nil)))))
    vs_nil)
    (vs_cons (vs_set 3 sc__law_fresh.nd ve_str)
    (vs_cons (vs_for poD (vi_rng1 hf.b_range (va_cons (ve_add (ve_callB callR_len callV_len hf.b_len (va_cons (ve_var 1) va_nil)) ve_int) va_nil)) (vg_name 4 sc__law_fresh.nd)
    (vs_cons (vs_set 3 sc__law_fresh.nd (ve_callG h__law_letters hr pxD (va_cons (ve_add (ve_var 2) (ve_var 4)) va_nil)))
    (vs_one (vs_if (vt_notin hr.units (ve_var 3) (ve_var 1))
    (vs_one vs_break)
    vs_nil))))
    (vs_cons (vs_expr (ve_append (ve_var 1) (va_cons (ve_frz (ve_var 3)) va_nil)))
    (vs_one (vs_ret (ve_var 3))))))))⟩
theorem walk__law_mixed {P : Program} {w : World} {K : PySem.W.Frag} {mg : Str → Option Value} {base : Heap} {f : Addr} (hf : Fx K mg) (h__law_draw : DefG P w K mg base 2 "_law_draw" 2 (c__law_draw K)) (cdv : Value) (A : Around) (outer : List Env) (s : Shared) (H : Hp) (E : XK)
    (hr : Room 2 (A.deeper (envOfC "_law_mixed" (defScope s__law_mixed) s.heap.objs.size f cdv))) : ∃ u, VSs (CxV P w K mg base N__law_mixed "_law_mixed" (defScope s__law_mixed) f cdv A outer s H E) (WEx E) (defBody s__law_mixed) u (T__law_mixed K) :=
  ⟨_, (vs_cons (vs_set 2 sc__law_mixed.nd (ve_callTy (callR_listU rfl) callV_listU hf.b_list (va_cons (ve_var 1) va_nil)))
    (vs_cons (vs_for poD (vi_rng1 hf.b_range (va_cons (ve_frz (ve_callB callR_len callV_len hf.b_len (va_cons (ve_var 2) va_nil))) va_nil)) (vg_name 3 sc__law_mixed.nd)
    (vs_cons (vs_set 4 sc__law_mixed.nd (ve_callG h__law_draw hr pxD (va_cons (ve_var 0) (va_cons (ve_frz (ve_callB callR_len callV_len hf.b_len (va_cons (ve_var 2) va_nil))) va_nil))))
    (vs_one (vs_asg (ve_tup (va_cons (ve_ix hr.units (ve_var 2) (ve_var 4)) (va_cons (ve_ix hr.units (ve_var 2) (ve_var 3)) va_nil))) (vg_tup (vgs_cons (vg_sub 2 hr.units (ve_var 3)) (vgs_cons (vg_sub 2 hr.units (ve_var 4)) vgs_nil)))))))
    (vs_one (vs_ret (ve_var 2)))))⟩
theorem walk__law_words {P : Program} {w : World} {K : PySem.W.Frag} {mg : Str → Option Value} {base : Heap} {f : Addr} (hf : Fx K mg) (h__law_draw : DefG P w K mg base 2 "_law_draw" 2 (c__law_draw K)) (h__law_fresh : DefG P w K mg base 3 "_law_fresh" 2 (c__law_fresh K)) (h__law_mixed : DefG P w K mg base 3 "_law_mixed" 2 (c__law_mixed K)) (cdv : Value) (A : Around) (outer : List Env) (s : Shared) (H : Hp) (E : XK)
    (hr : Room 3 (A.deeper (envOfC "_law_words" (defScope s__law_words) s.heap.objs.size f cdv))) : ∃ u, VSs (CxV P w K mg base N__law_words "_law_words" (defScope s__law_words) f cdv A outer s H E) (WEx E) (defBody s__law_words) u (T__law_words K) :=
  ⟨_, (vs_cons (vs_set 4 sc__law_words.nd (ve_lst va_nil))
    (vs_cons (vs_set 5 sc__law_words.nd (ve_lst (va_cons (ve_tup (va_cons (ve_frz (ve_callTy (callR_listU rfl) callV_listU hf.b_list (va_cons (ve_var 1) va_nil))) (va_cons (ve_frz (ve_var 2)) va_nil))) va_nil)))
    (vs_cons (vs_for poD (vi_rng1 hf.b_range (va_cons (ve_add (ve_mul ve_int (ve_var 2)) ve_int) va_nil)) (vg_name 6 sc__law_words.nd)
    (vs_cons (vs_if (vt_eq hr.units (ve_frz (ve_callB callR_len callV_len hf.b_len (va_cons (ve_var 5) va_nil))) ve_int)
    (vs_one vs_break)
    vs_nil)
    (vs_cons (vs_asg (ve_frz (ve_pop0 (ve_var 5))) (vg_tup (vgs_cons (vg_name 7 sc__law_words.nd) (vgs_cons (vg_name 8 sc__law_words.nd) vgs_nil))))
    (vs_one (vs_if (vt_w (vw_and (vt_eq hr.units (ve_var 8) ve_int) (vw_and1 (vt_eq hr.units (ve_frz (ve_callB callR_len callV_len hf.b_len (va_cons (ve_var 7) va_nil))) ve_int))))
    (vs_one (vs_expr (ve_append (ve_var 4) (va_cons (ve_ix hr.units (ve_var 7) ve_int) va_nil))))
    (vs_one (vs_if (vt_w (vw_or (vt_eq hr.units (ve_var 8) ve_int) (vw_or1 (vt_w (vw_and (vt_le (ve_frz (ve_callB callR_len callV_len hf.b_len (va_cons (ve_var 7) va_nil))) (ve_var 8)) (vw_and1 (vt_eq hr.units (ve_frz (ve_callG h__law_draw hr pxD (va_cons (ve_var 0) (va_cons ve_int va_nil)))) ve_int)))))))
    (vs_cons (vs_set 9 sc__law_words.nd (ve_callG h__law_fresh hr pxD (va_cons (ve_var 0) (va_cons (ve_var 3) va_nil))))
    (vs_cons (vs_expr (ve_append (ve_var 4) (va_cons (ve_add ve_str (ve_var 9)) va_nil)))
    (vs_one (vs_expr (ve_append (ve_var 5) (va_cons (ve_tup (va_cons (ve_add (ve_var 7) (ve_lst (va_cons (ve_frz (ve_var 9)) va_nil))) (va_cons (ve_frz (ve_var 8)) va_nil))) va_nil))))))
    (vs_cons (vs_set 7 sc__law_words.nd (ve_callG h__law_mixed hr pxD (va_cons (ve_var 0) (va_cons (ve_frz (ve_var 7)) va_nil))))
    (vs_cons (vs_set 10 sc__law_words.nd (ve_callB (call_max2 rfl) callV_bin hf.b_max (va_cons ve_int (va_cons (ve_sub (ve_callB callR_len callV_len hf.b_len (va_cons (ve_var 7) va_nil)) (ve_var 8)) va_nil))))
    (vs_cons (vs_set 11 sc__law_words.nd (ve_add (ve_var 10) (ve_callG h__law_draw hr pxD (va_cons (ve_var 0) (va_cons (ve_add (ve_sub (ve_callB (call_min2 rfl) callV_bin hf.b_min (va_cons (ve_frz (ve_callB callR_len callV_len hf.b_len (va_cons (ve_var 7) va_nil))) (va_cons (ve_var 8) va_nil))) (ve_var 10)) ve_int) va_nil)))))
    (vs_cons (vs_set 12 sc__law_words.nd (ve_callB (call_max2 rfl) callV_bin hf.b_max (va_cons ve_int (va_cons (ve_sub (ve_var 11) ve_int) va_nil))))
    (vs_cons (vs_set 13 sc__law_words.nd (ve_add (ve_var 12) (ve_callG h__law_draw hr pxD (va_cons (ve_var 0) (va_cons (ve_add (ve_sub (ve_sub (ve_sub (ve_var 8) ve_int) (ve_callB (call_max2 rfl) callV_bin hf.b_max (va_cons ve_int (va_cons (ve_sub (ve_sub (ve_callB callR_len callV_len hf.b_len (va_cons (ve_var 7) va_nil)) (ve_var 11)) ve_int) va_nil)))) (ve_var 12)) ve_int) va_nil)))))
    (vs_cons (vs_expr (ve_append (ve_var 4) (va_cons ve_str va_nil)))
    (vs_cons (vs_expr (ve_append (ve_var 5) (va_cons (ve_tup (va_cons (ve_slice (ve_var 7) (vo_some (ve_var 11)) vo_none) (va_cons (ve_sub (ve_sub (ve_var 8) ve_int) (ve_var 13)) va_nil))) va_nil)))
    (vs_one (vs_expr (ve_append (ve_var 5) (va_cons (ve_tup (va_cons (ve_slice (ve_var 7) vo_none (vo_some (ve_var 11))) (va_cons (ve_frz (ve_var 13)) va_nil))) va_nil))))))))))))))))))
    (vs_one (vs_ret (ve_callTy call_tuple_of callV_tup hf.b_tuple (va_cons (ve_var 4) va_nil)))))))⟩
theorem walk__law_size {P : Program} {w : World} {K : PySem.W.Frag} {mg : Str → Option Value} {base : Heap} {f : Addr} (hf : Fx K mg) (h__law_draw : DefG P w K mg base 2 "_law_draw" 2 (c__law_draw K)) (cdv : Value) (A : Around) (outer : List Env) (s : Shared) (H : Hp) (E : XK)
    (hr : Room 2 (A.deeper (envOfC "_law_size" (defScope s__law_size) s.heap.objs.size f cdv))) : ∃ u, VSs (CxV P w K mg base N__law_size "_law_size" (defScope s__law_size) f cdv A outer s H E) (WEx E) (defBody s__law_size) u (T__law_size K) :=
  ⟨_, (vs_cons (vs_set 2 sc__law_size.nd (ve_callG h__law_draw hr pxD (va_cons (ve_var 0) (va_cons ve_int va_nil))))
    (vs_cons (vs_if (vt_eq hr.units (ve_var 2) ve_int)
    (vs_one (vs_ret (ve_callG h__law_draw hr pxD (va_cons (ve_var 0) (va_cons (ve_add (ve_var 1) ve_int) va_nil)))))
    vs_nil)
    (vs_one (vs_ret (ve_callG h__law_draw hr pxD (va_cons (ve_var 0) (va_cons (ve_frz (ve_if (vt_eq hr.units (ve_mod (ve_callTy call_int1 callV_int hf.b_int (va_cons (ve_var 2) va_nil)) ve_int) ve_int) ve_int ve_int)) va_nil)))))))⟩
theorem walk__law_program {P : Program} {w : World} {K : PySem.W.Frag} {mg : Str → Option Value} {base : Heap} {f : Addr} (hf : Fx K mg) (h__law_size : DefG P w K mg base 3 "_law_size" 2 (c__law_size K)) (h__law_draw : DefG P w K mg base 2 "_law_draw" 2 (c__law_draw K)) (h__law_fresh : DefG P w K mg base 3 "_law_fresh" 2 (c__law_fresh K)) (h__law_words : DefG P w K mg base 4 "_law_words" 4 (c__law_words K)) (cdv : Value) (A : Around) (outer : List Env) (s : Shared) (H : Hp) (E : XK)
    (hr : Room 4 (A.deeper (envOfC "_law_program" (defScope s__law_program) s.heap.objs.size f cdv))) : ∃ u, VSs (CxV P w K mg base N__law_program "_law_program" (defScope s__law_program) f cdv A outer s H E) (WEx E) (defBody s__law_program) u (T__law_program K) :=
  ⟨_, (vs_cons (vs_set 3 sc__law_program.nd (ve_callG h__law_size hr pxD (va_cons (ve_var 0) (va_cons (ve_frz (ve_var 1)) va_nil))))
    (vs_cons (vs_set 4 sc__law_program.nd (ve_lst va_nil))
    (vs_cons (vs_for poD (vi_rng1 hf.b_range (va_cons (ve_frz (ve_callB (call_min2 rfl) callV_bin hf.b_min (va_cons (ve_frz (ve_callG h__law_draw hr pxD (va_cons (ve_var 0) (va_cons (ve_add (ve_var 2) ve_int) va_nil)))) (va_cons (ve_add (ve_var 3) ve_int) va_nil)))) va_nil)) (vg_name 5 sc__law_program.nd)
    (vs_one (vs_expr (ve_callG h__law_fresh hr pxD (va_cons (ve_var 0) (va_cons (ve_var 4) va_nil))))))
    (vs_one (vs_ret (ve_callG h__law_words hr pxD (va_cons (ve_var 0) (va_cons (ve_frz (ve_callTy (callR_listU rfl) callV_listU hf.b_list (va_cons (ve_var 4) va_nil))) (va_cons (ve_frz (ve_var 3)) (va_cons (ve_var 4) va_nil))))))))))⟩
theorem walk__law_place {P : Program} {w : World} {K : PySem.W.Frag} {mg : Str → Option Value} {base : Heap} {f : Addr} (hf : Fx K mg) (h__law_any : DefG P w K mg base 3 "_law_any" 2 (c__law_any K)) (cdv : Value) (A : Around) (outer : List Env) (s : Shared) (H : Hp) (E : XK)
    (hr : Room 3 (A.deeper (envOfC "_law_place" (defScope s__law_place) s.heap.objs.size f cdv))) : ∃ u, VSs (CxV P w K mg base N__law_place "_law_place" (defScope s__law_place) f cdv A outer s H E) (WEx E) (defBody s__law_place) u (T__law_place K) :=
  ⟨_, (vs_cons (vs_if (vt_eq hr.units (ve_var 1) ve_int)
    (vs_one (vs_ret (ve_ix hr.units (ve_var 2) ve_int)))
    vs_nil)
    (vs_one (vs_ret (ve_if (vt_eq hr.units (ve_var 1) ve_int) (ve_ix hr.units (ve_var 2) (ve_neg ve_int)) (ve_callG h__law_any hr pxD (va_cons (ve_var 0) (va_cons (ve_frz (ve_var 2)) va_nil)))))))⟩
theorem walk__law_row {P : Program} {w : World} {K : PySem.W.Frag} {mg : Str → Option Value} {base : Heap} {f : Addr} (hf : Fx K mg) (hme_Run_program : MetG P w K mg base 4 (He.ga K "Run") "program" 1 (c_Run_program K)) (h_steps : DefG P w K mg base 5 "steps" 1 (c_steps K)) (h__law_draw : DefG P w K mg base 2 "_law_draw" 2 (c__law_draw K)) (hme_Run_back : MetG P w K mg base 2 (He.ga K "Run") "back" 1 (c_Run_back K)) (h__law_place : DefG P w K mg base 4 "_law_place" 3 (c__law_place K)) (hme_Run_step : MetG P w K mg base 6 (He.ga K "Run") "step" 2 (c_Run_step K)) (cdv : Value) (A : Around) (outer : List Env) (s : Shared) (H : Hp) (E : XK)
    (hr : Room 6 (A.deeper (envOfC "_law_row" (defScope s__law_row) s.heap.objs.size f cdv))) : ∃ u, VSs (CxV P w K mg base N__law_row "_law_row" (defScope s__law_row) f cdv A outer s H E) (WEx E) (defBody s__law_row) u (T__law_row K) :=
  ⟨_, (vs_cons (vs_set 3 sc__law_row.nd (ve_lst va_nil))
    (vs_cons (vs_set 4 sc__law_row.nd (ve_lst (va_cons (ve_fld hf.F_words (ve_methG0 hme_Run_program hr pxD (ve_var 1))) va_nil)))
    (vs_cons (vs_for poD (vi_rng1 hf.b_range (va_cons ve_int va_nil)) (vg_name 5 sc__law_row.nd)
    (vs_cons (vs_set 6 sc__law_row.nd (ve_callG h_steps hr pxD (va_cons (ve_frz (ve_methG0 hme_Run_program hr pxD (ve_var 1))) va_nil)))
    (vs_cons (vs_if (vt_eq hr.units (ve_frz (ve_callB callR_len callV_len hf.b_len (va_cons (ve_var 6) va_nil))) ve_int)
    (vs_one vs_break)
    vs_nil)
    (vs_one (vs_if (vt_w (vw_and (vt_eq hr.units (ve_var 2) ve_int) (vw_and (vt_gt (ve_frz (ve_callB callR_len callV_len hf.b_len (va_cons (ve_var 3) va_nil))) ve_int) (vw_and (vt_lt (ve_var 5) ve_int) (vw_and1 (vt_eq hr.units (ve_frz (ve_callG h__law_draw hr pxD (va_cons (ve_var 0) (va_cons ve_int va_nil)))) ve_int))))))
    (vs_cons (vs_expr (ve_methG0 hme_Run_back hr pxD (ve_var 1)))
    (vs_cons (vs_expr (ve_pop0 (ve_var 3)))
    (vs_cons (vs_expr (ve_pop0 (ve_var 4)))
    (vs_one (vs_if (vt_ne hr.units (ve_fld hf.F_words (ve_methG0 hme_Run_program hr pxD (ve_var 1))) (ve_ix hr.units (ve_var 4) (ve_neg ve_int)))
    (vs_one (vs_ret ve_non))
    vs_nil)))))
    (vs_cons (vs_set 7 sc__law_row.nd (ve_callG h__law_place hr pxD (va_cons (ve_var 0) (va_cons (ve_frz (ve_var 2)) (va_cons (ve_frz (ve_var 6)) va_nil)))))
    (vs_cons (vs_expr (ve_methG hme_Run_step hr pxD (ve_var 1) (va_cons (ve_frz (ve_var 7)) va_nil)))
    (vs_cons (vs_expr (ve_append (ve_var 3) (va_cons (ve_frz (ve_var 7)) va_nil)))
    (vs_one (vs_expr (ve_append (ve_var 4) (va_cons (ve_fld hf.F_words (ve_methG0 hme_Run_program hr pxD (ve_var 1))) va_nil))))))))))))
    (vs_one (vs_ret (ve_tup (va_cons (ve_frz (ve_var 3)) (va_cons (ve_frz (ve_var 4)) va_nil))))))))⟩
theorem walk_law {P : Program} {w : World} {K : PySem.W.Frag} {mg : Str → Option Value} {base : Heap} {f : Addr} (hf : Fx K mg) (h__law_pot : DefG P w K mg base 2 "_law_pot" 1 (c__law_pot K)) (h__law_program : DefG P w K mg base 5 "_law_program" 3 (c__law_program K)) (hm_Program : MakG P w K mg base 7 "Program" (He.ga K "Program") 2 (c_Program___init__ K)) (hm_Run : MakG P w K mg base 2 "Run" (He.ga K "Run") 2 (c_Run___init__ K)) (h__law_draw : DefG P w K mg base 2 "_law_draw" 2 (c__law_draw K)) (h__law_row : DefG P w K mg base 7 "_law_row" 3 (c__law_row K)) (hme_Run_to_rest : MetG P w K mg base 7 (He.ga K "Run") "to_rest" 1 (c_Run_to_rest K)) (hme_Run_program : MetG P w K mg base 4 (He.ga K "Run") "program" 1 (c_Run_program K)) (h_rest : DefG P w K mg base 8 "rest" 1 (c_rest K)) (h_eq : EqG P w K mg base 2 (c_Program___eq__ K) (Cs_eq K)) (h_steps : DefG P w K mg base 5 "steps" 1 (c_steps K)) (h_givens : DefG P w K mg base 3 "givens" 1 (c_givens K)) (hme_Run_many : MetG P w K mg base 2 (He.ga K "Run") "many" 1 (c_Run_many K)) (h_many_steps : DefG P w K mg base 9 "many_steps" 1 (c_many_steps K)) (h_is_way : DefG P w K mg base 6 "is_way" 3 (c_is_way K)) (hme_Run_back : MetG P w K mg base 2 (He.ga K "Run") "back" 1 (c_Run_back K)) (cdv : Value) (A : Around) (outer : List Env) (s : Shared) (H : Hp) (E : XK)
    (hr : Room 9 (A.deeper (envOfC "law" (defScope s_law) s.heap.objs.size f cdv))) : ∃ u, VSs (CxV P w K mg base N_law "law" (defScope s_law) f cdv A outer s H E) (WEx E) (defBody s_law) u (T_law K) :=
  ⟨_, (vs_cons (vs_set 1 sc_law.nd (ve_callG h__law_pot hr pxD (va_cons (ve_frz (ve_var 0)) va_nil)))
    (vs_cons (vs_for poD (vi_rng1 hf.b_range (va_cons (ve_add ve_int (ve_fdiv (ve_callB callR_len callV_len hf.b_len (va_cons (ve_slice (ve_var 0) vo_none (vo_some ve_int)) va_nil)) ve_int)) va_nil)) (vg_name 2 sc_law.nd)
    (vs_cons (vs_set 3 sc_law.nd (ve_callG h__law_program hr pxD (va_cons (ve_var 1) (va_cons ve_int (va_cons ve_int va_nil)))))
    (vs_cons (vs_set 4 sc_law.nd (ve_makeG hm_Program hr pxD (va_cons (ve_frz (ve_var 3)) va_nil)))
    (vs_cons (vs_set 5 sc_law.nd (ve_makeG hm_Run hr pxD (va_cons (ve_frz (ve_var 4)) va_nil)))
    (vs_cons (vs_set 6 sc_law.nd (ve_callG h__law_row hr pxD (va_cons (ve_var 1) (va_cons (ve_var 5) (va_cons (ve_frz (ve_callG h__law_draw hr pxD (va_cons (ve_var 1) (va_cons ve_int va_nil)))) va_nil)))))
    (vs_cons (vs_set 7 sc_law.nd (ve_makeG hm_Run hr pxD (va_cons (ve_frz (ve_var 4)) va_nil)))
    (vs_cons (vs_set 8 sc_law.nd (ve_methG0 hme_Run_to_rest hr pxD (ve_var 7)))
    (vs_cons (vs_if (vt_w (vw_or (vt_is (ve_var 6) ve_non) (vw_or (vt_ne hr.units (ve_fld hf.F_words (ve_methG0 hme_Run_program hr pxD (ve_var 7))) (ve_fld hf.F_words (ve_methG0 hme_Run_program hr pxD (ve_var 5)))) (vw_or1 (vt_ne hr.units (ve_frz (ve_callB callR_len callV_len hf.b_len (va_cons (ve_var 8) va_nil))) (ve_frz (ve_callB callR_len callV_len hf.b_len (va_cons (ve_ix hr.units (ve_var 6) ve_int) va_nil))))))))
    (vs_one (vs_ret ve_bl))
    vs_nil)
    (vs_cons (vs_set 9 sc_law.nd (ve_methG0 hme_Run_program hr pxD (ve_var 5)))
    (vs_cons (vs_if (vt_w (vw_or (vt_neC h_eq hr (ve_frz (ve_callG h_rest hr pxD (va_cons (ve_frz (ve_var 4)) va_nil))) (ve_frz (ve_var 9))) (vw_or1 (vt_gt (ve_frz (ve_callB callR_len callV_len hf.b_len (va_cons (ve_frz (ve_callG h_steps hr pxD (va_cons (ve_frz (ve_var 9)) va_nil))) va_nil))) ve_int))))
    (vs_one (vs_ret ve_bl))
    vs_nil)
    (vs_cons (vs_set 10 sc_law.nd (ve_sub (ve_callG h_givens hr pxD (va_cons (ve_frz (ve_var 4)) va_nil)) (ve_callG h_givens hr pxD (va_cons (ve_frz (ve_var 9)) va_nil))))
    (vs_cons (vs_if (vt_w (vw_or (vt_ne hr.units (ve_frz (ve_methG0 hme_Run_many hr pxD (ve_var 5))) (ve_var 10)) (vw_or (vt_ne hr.units (ve_frz (ve_methG0 hme_Run_many hr pxD (ve_var 7))) (ve_var 10)) (vw_or (vt_ne hr.units (ve_frz (ve_callB callR_len callV_len hf.b_len (va_cons (ve_var 8) va_nil))) (ve_var 10)) (vw_or1 (vt_ne hr.units (ve_frz (ve_callG h_many_steps hr pxD (va_cons (ve_frz (ve_var 4)) va_nil))) (ve_var 10)))))))
    (vs_one (vs_ret ve_bl))
    vs_nil)
    (vs_cons (vs_if (vt_w (vw_or (vt_isnot (ve_frz (ve_callG h_is_way hr pxD (va_cons (ve_frz (ve_var 4)) (va_cons (ve_frz (ve_var 9)) (va_cons (ve_frz (ve_callTy call_tuple_of callV_tup hf.b_tuple (va_cons (ve_ix hr.units (ve_var 6) ve_int) va_nil))) va_nil))))) ve_bl) (vw_or1 (vt_isnot (ve_frz (ve_callG h_is_way hr pxD (va_cons (ve_frz (ve_var 4)) (va_cons (ve_frz (ve_var 9)) (va_cons (ve_frz (ve_var 8)) va_nil))))) ve_bl))))
    (vs_one (vs_ret ve_bl))
    vs_nil)
    (vs_cons (vs_for poD (vi_rng1 hf.b_range (va_cons (ve_frz (ve_var 10)) va_nil)) (vg_name 11 sc_law.nd)
    (vs_cons (vs_if (vt_ne hr.units (ve_fld hf.F_words (ve_methG0 hme_Run_program hr pxD (ve_var 5))) (ve_ix hr.units (ve_ix hr.units (ve_var 6) ve_int) (ve_sub (ve_var 10) (ve_var 11))))
    (vs_one (vs_ret ve_bl))
    vs_nil)
    (vs_one (vs_expr (ve_methG0 hme_Run_back hr pxD (ve_var 5))))))
    (vs_one (vs_if (vt_w (vw_or (vt_neC h_eq hr (ve_frz (ve_methG0 hme_Run_program hr pxD (ve_var 5))) (ve_frz (ve_var 4))) (vw_or (vt_ne hr.units (ve_frz (ve_methG0 hme_Run_many hr pxD (ve_var 5))) ve_int) (vw_or1 (vt_ne hr.units (ve_fld hf.F_words (ve_var 4)) (ve_var 3))))))
    (vs_one (vs_ret ve_bl))
    vs_nil))))))))))))))))
    (vs_one (vs_ret ve_bl))))⟩

end K19

end

section
set_option Elab.async false
set_option linter.all false
set_option autoImplicit false
set_option maxRecDepth 100000
set_option maxHeartbeats 0
namespace K19
open PySem PySem.Spec PyProof.Rows L2 VL VP
def dfn : List He.DefD := [⟨("is_integer", none), "is_integer", "is_integer", defArgs s_is_integer, defBody s_is_integer, defScope s_is_integer, [], []⟩,
  ⟨("is_within", none), "is_within", "is_within", defArgs s_is_within, defBody s_is_within, defScope s_is_within, [], []⟩,
  ⟨("is_name", none), "is_name", "is_name", defArgs s_is_name, defBody s_is_name, defScope s_is_name, [], []⟩,
  ⟨("is_give", none), "is_give", "is_give", defArgs s_is_give, defBody s_is_give, defScope s_is_give, [], []⟩,
  ⟨("is_take", none), "is_take", "is_take", defArgs s_is_take, defBody s_is_take, defScope s_is_take, [], []⟩,
  ⟨("name_of", none), "name_of", "name_of", defArgs s_name_of, defBody s_name_of, defScope s_name_of, [], []⟩,
  ⟨("is_word", none), "is_word", "is_word", defArgs s_is_word, defBody s_is_word, defScope s_is_word, [], []⟩,
  ⟨("asked_by", none), "asked_by", "asked_by", defArgs s_asked_by, defBody s_asked_by, defScope s_asked_by, [], []⟩,
  ⟨("wrong_end", none), "wrong_end", "wrong_end", defArgs s_wrong_end, defBody s_wrong_end, defScope s_wrong_end, [], []⟩,
  ⟨("wrong_second", none), "wrong_second", "wrong_second", defArgs s_wrong_second, defBody s_wrong_second, defScope s_wrong_second, [], []⟩,
  ⟨("raw_ends", none), "raw_ends", "raw_ends", defArgs s_raw_ends, defBody s_raw_ends, defScope s_raw_ends, [], []⟩,
  ⟨("uses", none), "uses", "uses", defArgs s_uses, defBody s_uses, defScope s_uses, [], []⟩,
  ⟨("wrong_take", none), "wrong_take", "wrong_take", defArgs s_wrong_take, defBody s_wrong_take, defScope s_wrong_take, [], []⟩,
  ⟨("fault_in", none), "fault_in", "fault_in", defArgs s_fault_in, defBody s_fault_in, defScope s_fault_in, [], []⟩,
  ⟨("Program", some "__init__"), "__init__", "Program.__init__", defArgs s_Program___init__, defBody s_Program___init__, defScope s_Program___init__, [], []⟩,
  ⟨("Program", some "__eq__"), "__eq__", "Program.__eq__", defArgs s_Program___eq__, defBody s_Program___eq__, defScope s_Program___eq__, [], []⟩,
  ⟨("RawProgram", some "__init__"), "__init__", "RawProgram.__init__", defArgs s_RawProgram___init__, defBody s_RawProgram___init__, defScope s_RawProgram___init__, [], []⟩,
  ⟨("givens", none), "givens", "givens", defArgs s_givens, defBody s_givens, defScope s_givens, [], []⟩,
  ⟨("is_step", none), "is_step", "is_step", defArgs s_is_step, defBody s_is_step, defScope s_is_step, [], []⟩,
  ⟨("raw_steps", none), "raw_steps", "raw_steps", defArgs s_raw_steps, defBody s_raw_steps, defScope s_raw_steps, [], []⟩,
  ⟨("steps", none), "steps", "steps", defArgs s_steps, defBody s_steps, defScope s_steps, [], []⟩,
  ⟨("raw_stepped", none), "raw_stepped", "raw_stepped", defArgs s_raw_stepped, defBody s_raw_stepped, defScope s_raw_stepped, [], []⟩,
  ⟨("check_step", none), "check_step", "check_step", defArgs s_check_step, defBody s_check_step, defScope s_check_step, [], []⟩,
  ⟨("way_to_rest", none), "way_to_rest", "way_to_rest", defArgs s_way_to_rest, defBody s_way_to_rest, defScope s_way_to_rest, [], []⟩,
  ⟨("raw_rest", none), "raw_rest", "raw_rest", defArgs s_raw_rest, defBody s_raw_rest, defScope s_raw_rest, [], []⟩,
  ⟨("rest", none), "rest", "rest", defArgs s_rest, defBody s_rest, defScope s_rest, [], []⟩,
  ⟨("many_steps", none), "many_steps", "many_steps", defArgs s_many_steps, defBody s_many_steps, defScope s_many_steps, [], []⟩,
  ⟨("is_way", none), "is_way", "is_way", defArgs s_is_way, defBody s_is_way, defScope s_is_way, [], []⟩,
  ⟨("Run", some "__init__"), "__init__", "Run.__init__", defArgs s_Run___init__, defBody s_Run___init__, defScope s_Run___init__, [], []⟩,
  ⟨("Run", some "program"), "program", "Run.program", defArgs s_Run_program, defBody s_Run_program, defScope s_Run_program, [], []⟩,
  ⟨("Run", some "many"), "many", "Run.many", defArgs s_Run_many, defBody s_Run_many, defScope s_Run_many, [], []⟩,
  ⟨("Run", some "step"), "step", "Run.step", defArgs s_Run_step, defBody s_Run_step, defScope s_Run_step, [], []⟩,
  ⟨("Run", some "back"), "back", "Run.back", defArgs s_Run_back, defBody s_Run_back, defScope s_Run_back, [], []⟩,
  ⟨("Run", some "to_rest"), "to_rest", "Run.to_rest", defArgs s_Run_to_rest, defBody s_Run_to_rest, defScope s_Run_to_rest, [], []⟩,
  ⟨("_law_pot", none), "_law_pot", "_law_pot", defArgs s__law_pot, defBody s__law_pot, defScope s__law_pot, [], []⟩,
  ⟨("_law_draw", none), "_law_draw", "_law_draw", defArgs s__law_draw, defBody s__law_draw, defScope s__law_draw, [], []⟩,
  ⟨("_law_any", none), "_law_any", "_law_any", defArgs s__law_any, defBody s__law_any, defScope s__law_any, [], []⟩,
  ⟨("_law_letters", none), "_law_letters", "_law_letters", defArgs s__law_letters, defBody s__law_letters, defScope s__law_letters, [], []⟩,
  ⟨("_law_fresh", none), "_law_fresh", "_law_fresh", defArgs s__law_fresh, defBody s__law_fresh, defScope s__law_fresh, [], []⟩,
  ⟨("_law_mixed", none), "_law_mixed", "_law_mixed", defArgs s__law_mixed, defBody s__law_mixed, defScope s__law_mixed, [], []⟩,
  ⟨("_law_words", none), "_law_words", "_law_words", defArgs s__law_words, defBody s__law_words, defScope s__law_words, [], []⟩,
  ⟨("_law_size", none), "_law_size", "_law_size", defArgs s__law_size, defBody s__law_size, defScope s__law_size, [], []⟩,
  ⟨("_law_program", none), "_law_program", "_law_program", defArgs s__law_program, defBody s__law_program, defScope s__law_program, [], []⟩,
  ⟨("_law_place", none), "_law_place", "_law_place", defArgs s__law_place, defBody s__law_place, defScope s__law_place, [], []⟩,
  ⟨("_law_row", none), "_law_row", "_law_row", defArgs s__law_row, defBody s__law_row, defScope s__law_row, [], []⟩,
  ⟨("law", none), "law", "law", defArgs s_law, defBody s_law, defScope s_law, [], []⟩]
def dfa : List He.Fa := [.free "int", .free "isinstance", .free "bool", .glo "is_integer", .glo "is_within", .free "str", .free "len", .free "all", .glo "is_name", .glo "is_give", .glo "is_take", .glo "name_of", .glo "is_word", .glo "asked_by", .free "enumerate", .glo "wrong_end", .glo "wrong_second", .free "range", .free "tuple", .glo "raw_ends", .glo "uses", .glo "wrong_take", .glo "fault_in", .int "MOST_WORDS" 1000, .cls "Program", .noat "Program" "words", .cls "RawProgram", .noat "RawProgram" "words", .glo "Program", .glo "RawProgram", .glo "givens", .glo "is_step", .glo "raw_steps", .glo "steps", .glo "raw_stepped", .glo "check_step", .glo "way_to_rest", .glo "raw_rest", .glo "rest", .glo "many_steps", .glo "is_way", .cls "Run", .noat "Run" "past", .glo "Run", .meth "Run" "program", .meth "Run" "many", .meth "Run" "step", .meth "Run" "back", .meth "Run" "to_rest", .free "abs", .free "sum", .glo "_law_pot", .glo "_law_draw", .glo "_law_any", .glo "_law_letters", .glo "_law_fresh", .free "list", .glo "_law_mixed", .free "max", .free "min", .glo "_law_words", .glo "_law_size", .glo "_law_program", .glo "_law_place", .glo "_law_row", .glo "law", .mkr "Program", .mkr "RawProgram", .mkr "Run"]
def dxt : List (PySem.W.Frag → Bool) := [fun K => clsIB K "Program", fun K => clsIB K "RawProgram", fun K => kitIs K (.ref (He.ga K "RawProgram")) (.ref (He.ga K "Program")) true, fun K => kitIs K (.ref (He.ga K "Program")) (.ref (He.ga K "Program")) true, fun K => eqFB K (He.ma K (He.ga K "Program") "__eq__") (Cs_eq K)]
def dha : HookArgs := ⟨4, dfa, dfn, fun K => dxt.all fun g => g K⟩
theorem xt_get {K : PySem.W.Frag} (i : Nat) {g : PySem.W.Frag → Bool} (c : SaysX dha K) (h : dxt[i]? = some g := by rfl) : g K = true := List.all_eq_true.mp c.x g (List.mem_of_getElem? h)
theorem fx_of {K : PySem.W.Frag} {h : Heap} {mg : Str → Option Value} (X : K.In h) (G : h.Ns mainGlobals mg) (c : SaysX dha K) : Fx K mg :=
  ⟨He.free_ok X G (c.d.fact 0 (f := .free "int") rfl),
  fun C hC => by
    simp only [Cs_isi, List.mem_cons, List.not_mem_nil, or_false] at hC
    rcases hC with rfl | rfl
    · exact clsIB_ok (xt_get 0 c)
    · exact clsIB_ok (xt_get 1 c),
  He.free_ok X G (c.d.fact 1 (f := .free "isinstance") rfl),
  He.free_ok X G (c.d.fact 2 (f := .free "bool") rfl),
  He.glo_ok X G (c.d.fact 3 (f := .glo "is_integer") rfl),
  He.glo_ok X G (c.d.fact 4 (f := .glo "is_within") rfl),
  He.free_ok X G (c.d.fact 5 (f := .free "str") rfl),
  He.free_ok X G (c.d.fact 6 (f := .free "len") rfl),
  He.free_ok X G (c.d.fact 7 (f := .free "all") rfl),
  He.glo_ok X G (c.d.fact 8 (f := .glo "is_name") rfl),
  He.glo_ok X G (c.d.fact 9 (f := .glo "is_give") rfl),
  He.glo_ok X G (c.d.fact 10 (f := .glo "is_take") rfl),
  He.glo_ok X G (c.d.fact 11 (f := .glo "name_of") rfl),
  He.glo_ok X G (c.d.fact 12 (f := .glo "is_word") rfl),
  He.glo_ok X G (c.d.fact 13 (f := .glo "asked_by") rfl),
  He.free_ok X G (c.d.fact 14 (f := .free "enumerate") rfl),
  He.glo_ok X G (c.d.fact 15 (f := .glo "wrong_end") rfl),
  He.glo_ok X G (c.d.fact 16 (f := .glo "wrong_second") rfl),
  He.free_ok X G (c.d.fact 17 (f := .free "range") rfl),
  He.free_ok X G (c.d.fact 18 (f := .free "tuple") rfl),
  He.glo_ok X G (c.d.fact 19 (f := .glo "raw_ends") rfl),
  He.glo_ok X G (c.d.fact 20 (f := .glo "uses") rfl),
  He.glo_ok X G (c.d.fact 21 (f := .glo "wrong_take") rfl),
  He.glo_ok X G (c.d.fact 22 (f := .glo "fault_in") rfl),
  He.int_ok X G (c.d.fact 23 (f := .int "MOST_WORDS" 1000) rfl),
  fun C hC => by
    simp only [Cs_words, List.mem_cons, List.not_mem_nil, or_false] at hC
    rcases hC with rfl | rfl
    · exact ⟨He.cls_ok (c.d.fact 24 (f := .cls "Program") rfl), He.noat_ok (c.d.fact 25 (f := .noat "Program" "words") rfl)⟩
    · exact ⟨He.cls_ok (c.d.fact 26 (f := .cls "RawProgram") rfl), He.noat_ok (c.d.fact 27 (f := .noat "RawProgram" "words") rfl)⟩,
  He.glo_ok X G (c.d.fact 28 (f := .glo "Program") rfl),
  He.glo_ok X G (c.d.fact 29 (f := .glo "RawProgram") rfl),
  He.glo_ok X G (c.d.fact 30 (f := .glo "givens") rfl),
  He.glo_ok X G (c.d.fact 31 (f := .glo "is_step") rfl),
  He.glo_ok X G (c.d.fact 32 (f := .glo "raw_steps") rfl),
  He.glo_ok X G (c.d.fact 33 (f := .glo "steps") rfl),
  He.glo_ok X G (c.d.fact 34 (f := .glo "raw_stepped") rfl),
  He.glo_ok X G (c.d.fact 35 (f := .glo "check_step") rfl),
  He.glo_ok X G (c.d.fact 36 (f := .glo "way_to_rest") rfl),
  He.glo_ok X G (c.d.fact 37 (f := .glo "raw_rest") rfl),
  He.glo_ok X G (c.d.fact 38 (f := .glo "rest") rfl),
  He.glo_ok X G (c.d.fact 39 (f := .glo "many_steps") rfl),
  He.glo_ok X G (c.d.fact 40 (f := .glo "is_way") rfl),
  fun C hC => by
    simp only [Cs_past, List.mem_cons, List.not_mem_nil, or_false] at hC
    rcases hC with rfl
    · exact ⟨He.cls_ok (c.d.fact 41 (f := .cls "Run") rfl), He.noat_ok (c.d.fact 42 (f := .noat "Run" "past") rfl)⟩,
  He.glo_ok X G (c.d.fact 43 (f := .glo "Run") rfl),
  He.cls_ok (c.d.fact 41 (f := .cls "Run") rfl),
  He.meth_ok (c.d.fact 44 (f := .meth "Run" "program") rfl),
  He.meth_ok (c.d.fact 45 (f := .meth "Run" "many") rfl),
  He.meth_ok (c.d.fact 46 (f := .meth "Run" "step") rfl),
  He.meth_ok (c.d.fact 47 (f := .meth "Run" "back") rfl),
  He.meth_ok (c.d.fact 48 (f := .meth "Run" "to_rest") rfl),
  He.free_ok X G (c.d.fact 49 (f := .free "abs") rfl),
  He.free_ok X G (c.d.fact 50 (f := .free "sum") rfl),
  He.glo_ok X G (c.d.fact 51 (f := .glo "_law_pot") rfl),
  He.glo_ok X G (c.d.fact 52 (f := .glo "_law_draw") rfl),
  He.glo_ok X G (c.d.fact 53 (f := .glo "_law_any") rfl),
  He.glo_ok X G (c.d.fact 54 (f := .glo "_law_letters") rfl),
  He.glo_ok X G (c.d.fact 55 (f := .glo "_law_fresh") rfl),
  He.free_ok X G (c.d.fact 56 (f := .free "list") rfl),
  He.glo_ok X G (c.d.fact 57 (f := .glo "_law_mixed") rfl),
  He.free_ok X G (c.d.fact 58 (f := .free "max") rfl),
  He.free_ok X G (c.d.fact 59 (f := .free "min") rfl),
  He.glo_ok X G (c.d.fact 60 (f := .glo "_law_words") rfl),
  He.glo_ok X G (c.d.fact 61 (f := .glo "_law_size") rfl),
  He.glo_ok X G (c.d.fact 62 (f := .glo "_law_program") rfl),
  He.glo_ok X G (c.d.fact 63 (f := .glo "_law_place") rfl),
  He.glo_ok X G (c.d.fact 64 (f := .glo "_law_row") rfl),
  He.glo_ok X G (c.d.fact 65 (f := .glo "law") rfl),
  He.mkr_ok (c.d.fact 66 (f := .mkr "Program") rfl),
  He.mkr_ok (c.d.fact 67 (f := .mkr "RawProgram") rfl),
  He.mkr_ok (c.d.fact 68 (f := .mkr "Run") rfl)⟩
theorem kx_of {K : PySem.W.Frag} (c : SaysX dha K) : Kx K :=
  ⟨kitIs_ok (xt_get 2 c),
  kitIs_ok (xt_get 3 c),
  eqFB_ok (xt_get 4 c)⟩
def looseL : List Str := (["_wall", "KindError", "BadProgram", "NoStep", "NothingDone", "is_integer", "is_within", "is_name", "MOST_WORDS", "is_give", "is_take", "name_of", "is_word", "asked_by", "wrong_end", "wrong_second", "raw_ends", "uses", "wrong_take", "fault_in", "Program", "RawProgram", "givens", "is_step", "raw_steps", "steps", "raw_stepped", "check_step", "way_to_rest", "raw_rest"] : List Str) ++ (["rest", "many_steps", "is_way", "Run", "_law_pot", "_law_draw", "_law_any", "_law_letters", "_law_fresh", "_law_mixed", "_law_words", "_law_size", "_law_program", "_law_place", "_law_row"] : List Str)
abbrev R : PySem.W.OpenRow := PySem.W.OpenLaw.row PySem.Challenge.rw_onceknots_k19_whole_runs_in_any_order
abbrev hk : PySem.W.Hook := hookX dha
def ob (s : PySem.W.SharedT) : AlX := obsXG dha (HandSHeadRun.getT s)
theorem ob_eq (s : PySem.W.SharedT) : ob s = hk.obs s.abs := obsXG_eq (HandSHeadRun.getT_eq s)
theorem run (w : World) : HandSHeadRun.RunEq R (PySem.W.view R.prog [51]) hk ob 6000 looseL w := by
  intro os
  kernel_rfl

end K19

end

section
set_option Elab.async false
set_option linter.all false
set_option autoImplicit false
set_option maxRecDepth 100000
set_option maxHeartbeats 0
namespace K19
open PySem PySem.Spec PyProof.Rows L2 VL VP
theorem ok_is_integer {P : Program} {w : World} {K : PySem.W.Frag} {mg : Str → Option Value} {base : Heap} {fd : FuncData} (F : FunD K "is_integer" "is_integer" (defArgs s_is_integer) (defBody s_is_integer) (defScope s_is_integer) [] [] (He.fAd K ("is_integer", none)) fd) (hf : Fx K mg) (hk : Kx K)  : DefG P w K mg base 2 "is_integer" 1 (c_is_integer K) :=
  defG (N := N_is_integer) (ps := ["thing"]) F sc_is_integer hf.g_is_integer (fun _ _ _ _ _ _ us hl => match us, hl with | [_], _ => rfl) len_is_integer (walk_is_integer hf) (law_is_integer hk)
theorem ok_is_within {P : Program} {w : World} {K : PySem.W.Frag} {mg : Str → Option Value} {base : Heap} {fd : FuncData} (F : FunD K "is_within" "is_within" (defArgs s_is_within) (defBody s_is_within) (defScope s_is_within) [] [] (He.fAd K ("is_within", none)) fd) (hf : Fx K mg) (hk : Kx K) (h_is_integer : DefG P w K mg base 2 "is_integer" 1 (c_is_integer K)) : DefG P w K mg base 3 "is_within" 3 (c_is_within K) :=
  defG (N := N_is_within) (ps := ["thing", "least", "most"]) F sc_is_within hf.g_is_within (fun _ _ _ _ _ _ us hl => match us, hl with | [_, _, _], _ => rfl) len_is_within (walk_is_within hf h_is_integer) (law_is_within hk)
theorem ok_is_name {P : Program} {w : World} {K : PySem.W.Frag} {mg : Str → Option Value} {base : Heap} {fd : FuncData} (F : FunD K "is_name" "is_name" (defArgs s_is_name) (defBody s_is_name) (defScope s_is_name) [] [] (He.fAd K ("is_name", none)) fd) (hf : Fx K mg) (hk : Kx K)  : DefG P w K mg base 2 "is_name" 1 (c_is_name K) :=
  defG (N := N_is_name) (ps := ["thing"]) F sc_is_name hf.g_is_name (fun _ _ _ _ _ _ us hl => match us, hl with | [_], _ => rfl) len_is_name (walk_is_name hf) (law_is_name hk)
theorem ok_is_give {P : Program} {w : World} {K : PySem.W.Frag} {mg : Str → Option Value} {base : Heap} {fd : FuncData} (F : FunD K "is_give" "is_give" (defArgs s_is_give) (defBody s_is_give) (defScope s_is_give) [] [] (He.fAd K ("is_give", none)) fd) (hf : Fx K mg) (hk : Kx K)  : DefG P w K mg base 2 "is_give" 1 (c_is_give K) :=
  defG (N := N_is_give) (ps := ["word"]) F sc_is_give hf.g_is_give (fun _ _ _ _ _ _ us hl => match us, hl with | [_], _ => rfl) len_is_give (walk_is_give hf) (law_is_give hk)
theorem ok_is_take {P : Program} {w : World} {K : PySem.W.Frag} {mg : Str → Option Value} {base : Heap} {fd : FuncData} (F : FunD K "is_take" "is_take" (defArgs s_is_take) (defBody s_is_take) (defScope s_is_take) [] [] (He.fAd K ("is_take", none)) fd) (hf : Fx K mg) (hk : Kx K)  : DefG P w K mg base 2 "is_take" 1 (c_is_take K) :=
  defG (N := N_is_take) (ps := ["word"]) F sc_is_take hf.g_is_take (fun _ _ _ _ _ _ us hl => match us, hl with | [_], _ => rfl) len_is_take (walk_is_take hf) (law_is_take hk)
theorem ok_name_of {P : Program} {w : World} {K : PySem.W.Frag} {mg : Str → Option Value} {base : Heap} {fd : FuncData} (F : FunD K "name_of" "name_of" (defArgs s_name_of) (defBody s_name_of) (defScope s_name_of) [] [] (He.fAd K ("name_of", none)) fd) (hf : Fx K mg) (hk : Kx K) (h_is_take : DefG P w K mg base 2 "is_take" 1 (c_is_take K)) : DefG P w K mg base 3 "name_of" 1 (c_name_of K) :=
  defG (N := N_name_of) (ps := ["word"]) F sc_name_of hf.g_name_of (fun _ _ _ _ _ _ us hl => match us, hl with | [_], _ => rfl) len_name_of (walk_name_of hf h_is_take) (law_name_of hk)
theorem ok_is_word {P : Program} {w : World} {K : PySem.W.Frag} {mg : Str → Option Value} {base : Heap} {fd : FuncData} (F : FunD K "is_word" "is_word" (defArgs s_is_word) (defBody s_is_word) (defScope s_is_word) [] [] (He.fAd K ("is_word", none)) fd) (hf : Fx K mg) (hk : Kx K) (h_is_name : DefG P w K mg base 2 "is_name" 1 (c_is_name K)) : DefG P w K mg base 3 "is_word" 1 (c_is_word K) :=
  defG (N := N_is_word) (ps := ["thing"]) F sc_is_word hf.g_is_word (fun _ _ _ _ _ _ us hl => match us, hl with | [_], _ => rfl) len_is_word (walk_is_word hf h_is_name) (law_is_word hk)
theorem ok_asked_by {P : Program} {w : World} {K : PySem.W.Frag} {mg : Str → Option Value} {base : Heap} {fd : FuncData} (F : FunD K "asked_by" "asked_by" (defArgs s_asked_by) (defBody s_asked_by) (defScope s_asked_by) [] [] (He.fAd K ("asked_by", none)) fd) (hf : Fx K mg) (hk : Kx K) (h_is_give : DefG P w K mg base 2 "is_give" 1 (c_is_give K)) (h_is_take : DefG P w K mg base 2 "is_take" 1 (c_is_take K)) : DefG P w K mg base 3 "asked_by" 1 (c_asked_by K) :=
  defG (N := N_asked_by) (ps := ["word"]) F sc_asked_by hf.g_asked_by (fun _ _ _ _ _ _ us hl => match us, hl with | [_], _ => rfl) len_asked_by (walk_asked_by hf h_is_give h_is_take) (law_asked_by hk)
theorem ok_wrong_end {P : Program} {w : World} {K : PySem.W.Frag} {mg : Str → Option Value} {base : Heap} {fd : FuncData} (F : FunD K "wrong_end" "wrong_end" (defArgs s_wrong_end) (defBody s_wrong_end) (defScope s_wrong_end) [] [] (He.fAd K ("wrong_end", none)) fd) (hf : Fx K mg) (hk : Kx K) (h_asked_by : DefG P w K mg base 3 "asked_by" 1 (c_asked_by K)) : DefG P w K mg base 4 "wrong_end" 1 (c_wrong_end K) :=
  defG (N := N_wrong_end) (ps := ["words"]) F sc_wrong_end hf.g_wrong_end (fun _ _ _ _ _ _ us hl => match us, hl with | [_], _ => rfl) len_wrong_end (walk_wrong_end hf h_asked_by) (law_wrong_end hk)
theorem ok_wrong_second {P : Program} {w : World} {K : PySem.W.Frag} {mg : Str → Option Value} {base : Heap} {fd : FuncData} (F : FunD K "wrong_second" "wrong_second" (defArgs s_wrong_second) (defBody s_wrong_second) (defScope s_wrong_second) [] [] (He.fAd K ("wrong_second", none)) fd) (hf : Fx K mg) (hk : Kx K) (h_is_give : DefG P w K mg base 2 "is_give" 1 (c_is_give K)) : DefG P w K mg base 3 "wrong_second" 1 (c_wrong_second K) :=
  defG (N := N_wrong_second) (ps := ["words"]) F sc_wrong_second hf.g_wrong_second (fun _ _ _ _ _ _ us hl => match us, hl with | [_], _ => rfl) len_wrong_second (walk_wrong_second hf h_is_give) (law_wrong_second hk)
theorem ok_raw_ends {P : Program} {w : World} {K : PySem.W.Frag} {mg : Str → Option Value} {base : Heap} {fd : FuncData} (F : FunD K "raw_ends" "raw_ends" (defArgs s_raw_ends) (defBody s_raw_ends) (defScope s_raw_ends) [] [] (He.fAd K ("raw_ends", none)) fd) (hf : Fx K mg) (hk : Kx K) (h_asked_by : DefG P w K mg base 3 "asked_by" 1 (c_asked_by K)) : DefG P w K mg base 4 "raw_ends" 1 (c_raw_ends K) :=
  defG (N := N_raw_ends) (ps := ["words"]) F sc_raw_ends hf.g_raw_ends (fun _ _ _ _ _ _ us hl => match us, hl with | [_], _ => rfl) len_raw_ends (walk_raw_ends hf h_asked_by) (law_raw_ends hk)
theorem ok_uses {P : Program} {w : World} {K : PySem.W.Frag} {mg : Str → Option Value} {base : Heap} {fd : FuncData} (F : FunD K "uses" "uses" (defArgs s_uses) (defBody s_uses) (defScope s_uses) [] [] (He.fAd K ("uses", none)) fd) (hf : Fx K mg) (hk : Kx K) (h_is_give : DefG P w K mg base 2 "is_give" 1 (c_is_give K)) (h_is_take : DefG P w K mg base 2 "is_take" 1 (c_is_take K)) : DefG P w K mg base 3 "uses" 1 (c_uses K) :=
  defG (N := N_uses) (ps := ["words"]) F sc_uses hf.g_uses (fun _ _ _ _ _ _ us hl => match us, hl with | [_], _ => rfl) len_uses (walk_uses hf h_is_give h_is_take) (law_uses hk)
theorem ok_wrong_take {P : Program} {w : World} {K : PySem.W.Frag} {mg : Str → Option Value} {base : Heap} {fd : FuncData} (F : FunD K "wrong_take" "wrong_take" (defArgs s_wrong_take) (defBody s_wrong_take) (defScope s_wrong_take) [] [] (He.fAd K ("wrong_take", none)) fd) (hf : Fx K mg) (hk : Kx K) (h_raw_ends : DefG P w K mg base 4 "raw_ends" 1 (c_raw_ends K)) (h_uses : DefG P w K mg base 3 "uses" 1 (c_uses K)) (h_is_take : DefG P w K mg base 2 "is_take" 1 (c_is_take K)) (h_name_of : DefG P w K mg base 3 "name_of" 1 (c_name_of K)) : DefG P w K mg base 5 "wrong_take" 1 (c_wrong_take K) :=
  defG (N := N_wrong_take) (ps := ["words"]) F sc_wrong_take hf.g_wrong_take (fun _ _ _ _ _ _ us hl => match us, hl with | [_], _ => rfl) len_wrong_take (walk_wrong_take hf h_raw_ends h_uses h_is_take h_name_of) (law_wrong_take hk)
theorem ok_fault_in {P : Program} {w : World} {K : PySem.W.Frag} {mg : Str → Option Value} {base : Heap} {fd : FuncData} (F : FunD K "fault_in" "fault_in" (defArgs s_fault_in) (defBody s_fault_in) (defScope s_fault_in) [] [] (He.fAd K ("fault_in", none)) fd) (hf : Fx K mg) (hk : Kx K) (h_is_word : DefG P w K mg base 3 "is_word" 1 (c_is_word K)) (h_wrong_end : DefG P w K mg base 4 "wrong_end" 1 (c_wrong_end K)) (h_wrong_second : DefG P w K mg base 3 "wrong_second" 1 (c_wrong_second K)) (h_wrong_take : DefG P w K mg base 5 "wrong_take" 1 (c_wrong_take K)) : DefG P w K mg base 6 "fault_in" 1 (c_fault_in K) :=
  defG (N := N_fault_in) (ps := ["words"]) F sc_fault_in hf.g_fault_in (fun _ _ _ _ _ _ us hl => match us, hl with | [_], _ => rfl) len_fault_in (walk_fault_in hf h_is_word h_wrong_end h_wrong_second h_wrong_take) (law_fault_in hk)
theorem okm_Program {P : Program} {w : World} {K : PySem.W.Frag} {mg : Str → Option Value} {base : Heap} {fd : FuncData} (F : FunD K "__init__" "Program.__init__" (defArgs s_Program___init__) (defBody s_Program___init__) (defScope s_Program___init__) [] [] (He.ma K (He.ga K "Program") "__init__") fd) (hf : Fx K mg) (hk : Kx K) (h_fault_in : DefG P w K mg base 6 "fault_in" 1 (c_fault_in K)) : MakG P w K mg base 7 "Program" (He.ga K "Program") 2 (c_Program___init__ K) :=
  makG (N := N_Program___init__) (ps := ["self", "words"]) F sc_Program___init__ hf.g_Program hf.m_Program (fun _ _ _ _ _ _ us hl => match us, hl with | [_, _], _ => rfl) len_Program___init__ (walk_Program___init__ hf h_fault_in) (law_Program___init__ hk)
theorem oke_Program {P : Program} {w : World} {K : PySem.W.Frag} {mg : Str → Option Value} {base : Heap} {fd : FuncData} (F : FunD K "__eq__" "Program.__eq__" (defArgs s_Program___eq__) (defBody s_Program___eq__) (defScope s_Program___eq__) [] [] (He.ma K (He.ga K "Program") "__eq__") fd) (hf : Fx K mg) (hk : Kx K)  : EqG P w K mg base 2 (c_Program___eq__ K) (Cs_eq K) :=
  eqG_of (N := N_Program___eq__) (ps := ["self", "other"]) F sc_Program___eq__ hk.eqF rfl (fun _ _ _ _ _ _ us hl => match us, hl with | [_, _], _ => rfl) len_Program___eq__ (walk_Program___eq__ hf) (law_Program___eq__ hk)
theorem okm_RawProgram {P : Program} {w : World} {K : PySem.W.Frag} {mg : Str → Option Value} {base : Heap} {fd : FuncData} (F : FunD K "__init__" "RawProgram.__init__" (defArgs s_RawProgram___init__) (defBody s_RawProgram___init__) (defScope s_RawProgram___init__) [] [] (He.ma K (He.ga K "RawProgram") "__init__") fd) (hf : Fx K mg) (hk : Kx K)  : MakG P w K mg base 2 "RawProgram" (He.ga K "RawProgram") 2 (c_RawProgram___init__ K) :=
  makG (N := N_RawProgram___init__) (ps := ["self", "words"]) F sc_RawProgram___init__ hf.g_RawProgram hf.m_RawProgram (fun _ _ _ _ _ _ us hl => match us, hl with | [_, _], _ => rfl) len_RawProgram___init__ (walk_RawProgram___init__ hf) (law_RawProgram___init__ hk)
theorem ok_givens {P : Program} {w : World} {K : PySem.W.Frag} {mg : Str → Option Value} {base : Heap} {fd : FuncData} (F : FunD K "givens" "givens" (defArgs s_givens) (defBody s_givens) (defScope s_givens) [] [] (He.fAd K ("givens", none)) fd) (hf : Fx K mg) (hk : Kx K) (h_is_give : DefG P w K mg base 2 "is_give" 1 (c_is_give K)) : DefG P w K mg base 3 "givens" 1 (c_givens K) :=
  defG (N := N_givens) (ps := ["program"]) F sc_givens hf.g_givens (fun _ _ _ _ _ _ us hl => match us, hl with | [_], _ => rfl) len_givens (walk_givens hf h_is_give) (law_givens hk)
theorem ok_is_step {P : Program} {w : World} {K : PySem.W.Frag} {mg : Str → Option Value} {base : Heap} {fd : FuncData} (F : FunD K "is_step" "is_step" (defArgs s_is_step) (defBody s_is_step) (defScope s_is_step) [] [] (He.fAd K ("is_step", none)) fd) (hf : Fx K mg) (hk : Kx K) (h_is_give : DefG P w K mg base 2 "is_give" 1 (c_is_give K)) (h_is_take : DefG P w K mg base 2 "is_take" 1 (c_is_take K)) : DefG P w K mg base 3 "is_step" 2 (c_is_step K) :=
  defG (N := N_is_step) (ps := ["words", "place"]) F sc_is_step hf.g_is_step (fun _ _ _ _ _ _ us hl => match us, hl with | [_, _], _ => rfl) len_is_step (walk_is_step hf h_is_give h_is_take) (law_is_step hk)
theorem ok_raw_steps {P : Program} {w : World} {K : PySem.W.Frag} {mg : Str → Option Value} {base : Heap} {fd : FuncData} (F : FunD K "raw_steps" "raw_steps" (defArgs s_raw_steps) (defBody s_raw_steps) (defScope s_raw_steps) [] [] (He.fAd K ("raw_steps", none)) fd) (hf : Fx K mg) (hk : Kx K) (h_is_step : DefG P w K mg base 3 "is_step" 2 (c_is_step K)) : DefG P w K mg base 4 "raw_steps" 1 (c_raw_steps K) :=
  defG (N := N_raw_steps) (ps := ["words"]) F sc_raw_steps hf.g_raw_steps (fun _ _ _ _ _ _ us hl => match us, hl with | [_], _ => rfl) len_raw_steps (walk_raw_steps hf h_is_step) (law_raw_steps hk)
theorem ok_steps {P : Program} {w : World} {K : PySem.W.Frag} {mg : Str → Option Value} {base : Heap} {fd : FuncData} (F : FunD K "steps" "steps" (defArgs s_steps) (defBody s_steps) (defScope s_steps) [] [] (He.fAd K ("steps", none)) fd) (hf : Fx K mg) (hk : Kx K) (h_raw_steps : DefG P w K mg base 4 "raw_steps" 1 (c_raw_steps K)) : DefG P w K mg base 5 "steps" 1 (c_steps K) :=
  defG (N := N_steps) (ps := ["program"]) F sc_steps hf.g_steps (fun _ _ _ _ _ _ us hl => match us, hl with | [_], _ => rfl) len_steps (walk_steps hf h_raw_steps) (law_steps hk)
theorem ok_raw_stepped {P : Program} {w : World} {K : PySem.W.Frag} {mg : Str → Option Value} {base : Heap} {fd : FuncData} (F : FunD K "raw_stepped" "raw_stepped" (defArgs s_raw_stepped) (defBody s_raw_stepped) (defScope s_raw_stepped) [] [] (He.fAd K ("raw_stepped", none)) fd) (hf : Fx K mg) (hk : Kx K) (h_raw_ends : DefG P w K mg base 4 "raw_ends" 1 (c_raw_ends K)) (h_uses : DefG P w K mg base 3 "uses" 1 (c_uses K)) (h_name_of : DefG P w K mg base 3 "name_of" 1 (c_name_of K)) : DefG P w K mg base 5 "raw_stepped" 2 (c_raw_stepped K) :=
  defG (N := N_raw_stepped) (ps := ["words", "place"]) F sc_raw_stepped hf.g_raw_stepped (fun _ _ _ _ _ _ us hl => match us, hl with | [_, _], _ => rfl) len_raw_stepped (walk_raw_stepped hf h_raw_ends h_uses h_name_of) (law_raw_stepped hk)
theorem ok_check_step {P : Program} {w : World} {K : PySem.W.Frag} {mg : Str → Option Value} {base : Heap} {fd : FuncData} (F : FunD K "check_step" "check_step" (defArgs s_check_step) (defBody s_check_step) (defScope s_check_step) [] [] (He.fAd K ("check_step", none)) fd) (hf : Fx K mg) (hk : Kx K) (h_is_within : DefG P w K mg base 3 "is_within" 3 (c_is_within K)) (h_is_step : DefG P w K mg base 3 "is_step" 2 (c_is_step K)) : DefG P w K mg base 4 "check_step" 2 (c_check_step K) :=
  defG (N := N_check_step) (ps := ["words", "thing"]) F sc_check_step hf.g_check_step (fun _ _ _ _ _ _ us hl => match us, hl with | [_, _], _ => rfl) len_check_step (walk_check_step hf h_is_within h_is_step) (law_check_step hk)
theorem ok_way_to_rest {P : Program} {w : World} {K : PySem.W.Frag} {mg : Str → Option Value} {base : Heap} {fd : FuncData} (F : FunD K "way_to_rest" "way_to_rest" (defArgs s_way_to_rest) (defBody s_way_to_rest) (defScope s_way_to_rest) [] [] (He.fAd K ("way_to_rest", none)) fd) (hf : Fx K mg) (hk : Kx K) (h_raw_steps : DefG P w K mg base 4 "raw_steps" 1 (c_raw_steps K)) (h_raw_stepped : DefG P w K mg base 5 "raw_stepped" 2 (c_raw_stepped K)) : DefG P w K mg base 6 "way_to_rest" 1 (c_way_to_rest K) :=
  defG (N := N_way_to_rest) (ps := ["words"]) F sc_way_to_rest hf.g_way_to_rest (fun _ _ _ _ _ _ us hl => match us, hl with | [_], _ => rfl) len_way_to_rest (walk_way_to_rest hf h_raw_steps h_raw_stepped) (law_way_to_rest hk)
theorem ok_raw_rest {P : Program} {w : World} {K : PySem.W.Frag} {mg : Str → Option Value} {base : Heap} {fd : FuncData} (F : FunD K "raw_rest" "raw_rest" (defArgs s_raw_rest) (defBody s_raw_rest) (defScope s_raw_rest) [] [] (He.fAd K ("raw_rest", none)) fd) (hf : Fx K mg) (hk : Kx K) (h_way_to_rest : DefG P w K mg base 6 "way_to_rest" 1 (c_way_to_rest K)) : DefG P w K mg base 7 "raw_rest" 1 (c_raw_rest K) :=
  defG (N := N_raw_rest) (ps := ["words"]) F sc_raw_rest hf.g_raw_rest (fun _ _ _ _ _ _ us hl => match us, hl with | [_], _ => rfl) len_raw_rest (walk_raw_rest hf h_way_to_rest) (law_raw_rest hk)
theorem ok_rest {P : Program} {w : World} {K : PySem.W.Frag} {mg : Str → Option Value} {base : Heap} {fd : FuncData} (F : FunD K "rest" "rest" (defArgs s_rest) (defBody s_rest) (defScope s_rest) [] [] (He.fAd K ("rest", none)) fd) (hf : Fx K mg) (hk : Kx K) (h_raw_rest : DefG P w K mg base 7 "raw_rest" 1 (c_raw_rest K)) (hm_RawProgram : MakG P w K mg base 2 "RawProgram" (He.ga K "RawProgram") 2 (c_RawProgram___init__ K)) : DefG P w K mg base 8 "rest" 1 (c_rest K) :=
  defG (N := N_rest) (ps := ["program"]) F sc_rest hf.g_rest (fun _ _ _ _ _ _ us hl => match us, hl with | [_], _ => rfl) len_rest (walk_rest hf h_raw_rest hm_RawProgram) (law_rest hk)
theorem ok_many_steps {P : Program} {w : World} {K : PySem.W.Frag} {mg : Str → Option Value} {base : Heap} {fd : FuncData} (F : FunD K "many_steps" "many_steps" (defArgs s_many_steps) (defBody s_many_steps) (defScope s_many_steps) [] [] (He.fAd K ("many_steps", none)) fd) (hf : Fx K mg) (hk : Kx K) (h_givens : DefG P w K mg base 3 "givens" 1 (c_givens K)) (h_rest : DefG P w K mg base 8 "rest" 1 (c_rest K)) : DefG P w K mg base 9 "many_steps" 1 (c_many_steps K) :=
  defG (N := N_many_steps) (ps := ["program"]) F sc_many_steps hf.g_many_steps (fun _ _ _ _ _ _ us hl => match us, hl with | [_], _ => rfl) len_many_steps (walk_many_steps hf h_givens h_rest) (law_many_steps hk)
theorem ok_is_way {P : Program} {w : World} {K : PySem.W.Frag} {mg : Str → Option Value} {base : Heap} {fd : FuncData} (F : FunD K "is_way" "is_way" (defArgs s_is_way) (defBody s_is_way) (defScope s_is_way) [] [] (He.fAd K ("is_way", none)) fd) (hf : Fx K mg) (hk : Kx K) (h_is_within : DefG P w K mg base 3 "is_within" 3 (c_is_within K)) (h_is_step : DefG P w K mg base 3 "is_step" 2 (c_is_step K)) (h_raw_stepped : DefG P w K mg base 5 "raw_stepped" 2 (c_raw_stepped K)) : DefG P w K mg base 6 "is_way" 3 (c_is_way K) :=
  defG (N := N_is_way) (ps := ["program", "other", "thing"]) F sc_is_way hf.g_is_way (fun _ _ _ _ _ _ us hl => match us, hl with | [_, _, _], _ => rfl) len_is_way (walk_is_way hf h_is_within h_is_step h_raw_stepped) (law_is_way hk)
theorem okm_Run {P : Program} {w : World} {K : PySem.W.Frag} {mg : Str → Option Value} {base : Heap} {fd : FuncData} (F : FunD K "__init__" "Run.__init__" (defArgs s_Run___init__) (defBody s_Run___init__) (defScope s_Run___init__) [] [] (He.ma K (He.ga K "Run") "__init__") fd) (hf : Fx K mg) (hk : Kx K)  : MakG P w K mg base 2 "Run" (He.ga K "Run") 2 (c_Run___init__ K) :=
  makG (N := N_Run___init__) (ps := ["self", "program"]) F sc_Run___init__ hf.g_Run hf.m_Run (fun _ _ _ _ _ _ us hl => match us, hl with | [_, _], _ => rfl) len_Run___init__ (walk_Run___init__ hf) (law_Run___init__ hk)
theorem okq_Run_program {P : Program} {w : World} {K : PySem.W.Frag} {mg : Str → Option Value} {base : Heap} {fd : FuncData} (F : FunD K "program" "Run.program" (defArgs s_Run_program) (defBody s_Run_program) (defScope s_Run_program) [] [] (He.ma K (He.ga K "Run") "program") fd) (hf : Fx K mg) (hk : Kx K) (hm_RawProgram : MakG P w K mg base 2 "RawProgram" (He.ga K "RawProgram") 2 (c_RawProgram___init__ K)) : MetG P w K mg base 4 (He.ga K "Run") "program" 1 (c_Run_program K) :=
  metG (N := N_Run_program) (ps := ["self"]) F sc_Run_program hf.c_Run hf.q_Run_program (fun _ _ _ _ _ _ us hl => match us, hl with | [_], _ => rfl) len_Run_program (walk_Run_program hf hm_RawProgram) (law_Run_program hk)
theorem okq_Run_many {P : Program} {w : World} {K : PySem.W.Frag} {mg : Str → Option Value} {base : Heap} {fd : FuncData} (F : FunD K "many" "Run.many" (defArgs s_Run_many) (defBody s_Run_many) (defScope s_Run_many) [] [] (He.ma K (He.ga K "Run") "many") fd) (hf : Fx K mg) (hk : Kx K)  : MetG P w K mg base 2 (He.ga K "Run") "many" 1 (c_Run_many K) :=
  metG (N := N_Run_many) (ps := ["self"]) F sc_Run_many hf.c_Run hf.q_Run_many (fun _ _ _ _ _ _ us hl => match us, hl with | [_], _ => rfl) len_Run_many (walk_Run_many hf) (law_Run_many hk)
theorem okq_Run_step {P : Program} {w : World} {K : PySem.W.Frag} {mg : Str → Option Value} {base : Heap} {fd : FuncData} (F : FunD K "step" "Run.step" (defArgs s_Run_step) (defBody s_Run_step) (defScope s_Run_step) [] [] (He.ma K (He.ga K "Run") "step") fd) (hf : Fx K mg) (hk : Kx K) (h_check_step : DefG P w K mg base 4 "check_step" 2 (c_check_step K)) (h_raw_stepped : DefG P w K mg base 5 "raw_stepped" 2 (c_raw_stepped K)) : MetG P w K mg base 6 (He.ga K "Run") "step" 2 (c_Run_step K) :=
  metG (N := N_Run_step) (ps := ["self", "place"]) F sc_Run_step hf.c_Run hf.q_Run_step (fun _ _ _ _ _ _ us hl => match us, hl with | [_, _], _ => rfl) len_Run_step (walk_Run_step hf h_check_step h_raw_stepped) (law_Run_step hk)
theorem okq_Run_back {P : Program} {w : World} {K : PySem.W.Frag} {mg : Str → Option Value} {base : Heap} {fd : FuncData} (F : FunD K "back" "Run.back" (defArgs s_Run_back) (defBody s_Run_back) (defScope s_Run_back) [] [] (He.ma K (He.ga K "Run") "back") fd) (hf : Fx K mg) (hk : Kx K)  : MetG P w K mg base 2 (He.ga K "Run") "back" 1 (c_Run_back K) :=
  metG (N := N_Run_back) (ps := ["self"]) F sc_Run_back hf.c_Run hf.q_Run_back (fun _ _ _ _ _ _ us hl => match us, hl with | [_], _ => rfl) len_Run_back (walk_Run_back hf) (law_Run_back hk)
theorem okq_Run_to_rest {P : Program} {w : World} {K : PySem.W.Frag} {mg : Str → Option Value} {base : Heap} {fd : FuncData} (F : FunD K "to_rest" "Run.to_rest" (defArgs s_Run_to_rest) (defBody s_Run_to_rest) (defScope s_Run_to_rest) [] [] (He.ma K (He.ga K "Run") "to_rest") fd) (hf : Fx K mg) (hk : Kx K) (h_raw_steps : DefG P w K mg base 4 "raw_steps" 1 (c_raw_steps K)) (hme_Run_step : MetG P w K mg base 6 (He.ga K "Run") "step" 2 (c_Run_step K)) : MetG P w K mg base 7 (He.ga K "Run") "to_rest" 1 (c_Run_to_rest K) :=
  metG (N := N_Run_to_rest) (ps := ["self"]) F sc_Run_to_rest hf.c_Run hf.q_Run_to_rest (fun _ _ _ _ _ _ us hl => match us, hl with | [_], _ => rfl) len_Run_to_rest (walk_Run_to_rest hf h_raw_steps hme_Run_step) (law_Run_to_rest hk)
theorem ok__law_pot {P : Program} {w : World} {K : PySem.W.Frag} {mg : Str → Option Value} {base : Heap} {fd : FuncData} (F : FunD K "_law_pot" "_law_pot" (defArgs s__law_pot) (defBody s__law_pot) (defScope s__law_pot) [] [] (He.fAd K ("_law_pot", none)) fd) (hf : Fx K mg) (hk : Kx K)  : DefG P w K mg base 2 "_law_pot" 1 (c__law_pot K) :=
  defG (N := N__law_pot) (ps := ["script"]) F sc__law_pot hf.g__law_pot (fun _ _ _ _ _ _ us hl => match us, hl with | [_], _ => rfl) len__law_pot (walk__law_pot hf) (law__law_pot hk)
theorem ok__law_draw {P : Program} {w : World} {K : PySem.W.Frag} {mg : Str → Option Value} {base : Heap} {fd : FuncData} (F : FunD K "_law_draw" "_law_draw" (defArgs s__law_draw) (defBody s__law_draw) (defScope s__law_draw) [] [] (He.fAd K ("_law_draw", none)) fd) (hf : Fx K mg) (hk : Kx K)  : DefG P w K mg base 2 "_law_draw" 2 (c__law_draw K) :=
  hand__law_draw F sc__law_draw hf.g__law_draw (fun _ _ _ _ _ _ us hl => match us, hl with | [_, _], _ => rfl) (fun cdv A outer s H E hr => (walk__law_draw hf cdv A outer s H E hr).p)
theorem ok__law_any {P : Program} {w : World} {K : PySem.W.Frag} {mg : Str → Option Value} {base : Heap} {fd : FuncData} (F : FunD K "_law_any" "_law_any" (defArgs s__law_any) (defBody s__law_any) (defScope s__law_any) [] [] (He.fAd K ("_law_any", none)) fd) (hf : Fx K mg) (hk : Kx K) (h__law_draw : DefG P w K mg base 2 "_law_draw" 2 (c__law_draw K)) : DefG P w K mg base 3 "_law_any" 2 (c__law_any K) :=
  defG (N := N__law_any) (ps := ["pot", "items"]) F sc__law_any hf.g__law_any (fun _ _ _ _ _ _ us hl => match us, hl with | [_, _], _ => rfl) len__law_any (walk__law_any hf h__law_draw) (law__law_any hk)
theorem ok__law_letters {P : Program} {w : World} {K : PySem.W.Frag} {mg : Str → Option Value} {base : Heap} {fd : FuncData} (F : FunD K "_law_letters" "_law_letters" (defArgs s__law_letters) (defBody s__law_letters) (defScope s__law_letters) [] [] (He.fAd K ("_law_letters", none)) fd) (hf : Fx K mg) (hk : Kx K)  : DefG P w K mg base 2 "_law_letters" 1 (c__law_letters K) :=
  defG (N := N__law_letters) (ps := ["number"]) F sc__law_letters hf.g__law_letters (fun _ _ _ _ _ _ us hl => match us, hl with | [_], _ => rfl) len__law_letters (walk__law_letters hf) (law__law_letters hk)
theorem ok__law_fresh {P : Program} {w : World} {K : PySem.W.Frag} {mg : Str → Option Value} {base : Heap} {fd : FuncData} (F : FunD K "_law_fresh" "_law_fresh" (defArgs s__law_fresh) (defBody s__law_fresh) (defScope s__law_fresh) [] [] (He.fAd K ("_law_fresh", none)) fd) (hf : Fx K mg) (hk : Kx K) (h__law_draw : DefG P w K mg base 2 "_law_draw" 2 (c__law_draw K)) (h__law_letters : DefG P w K mg base 2 "_law_letters" 1 (c__law_letters K)) : DefG P w K mg base 3 "_law_fresh" 2 (c__law_fresh K) :=
  defG (N := N__law_fresh) (ps := ["pot", "used"]) F sc__law_fresh hf.g__law_fresh (fun _ _ _ _ _ _ us hl => match us, hl with | [_, _], _ => rfl) len__law_fresh (walk__law_fresh hf h__law_draw h__law_letters) (law__law_fresh hk)
theorem ok__law_mixed {P : Program} {w : World} {K : PySem.W.Frag} {mg : Str → Option Value} {base : Heap} {fd : FuncData} (F : FunD K "_law_mixed" "_law_mixed" (defArgs s__law_mixed) (defBody s__law_mixed) (defScope s__law_mixed) [] [] (He.fAd K ("_law_mixed", none)) fd) (hf : Fx K mg) (hk : Kx K) (h__law_draw : DefG P w K mg base 2 "_law_draw" 2 (c__law_draw K)) : DefG P w K mg base 3 "_law_mixed" 2 (c__law_mixed K) :=
  defG (N := N__law_mixed) (ps := ["pot", "items"]) F sc__law_mixed hf.g__law_mixed (fun _ _ _ _ _ _ us hl => match us, hl with | [_, _], _ => rfl) len__law_mixed (walk__law_mixed hf h__law_draw) (law__law_mixed hk)
theorem ok__law_words {P : Program} {w : World} {K : PySem.W.Frag} {mg : Str → Option Value} {base : Heap} {fd : FuncData} (F : FunD K "_law_words" "_law_words" (defArgs s__law_words) (defBody s__law_words) (defScope s__law_words) [] [] (He.fAd K ("_law_words", none)) fd) (hf : Fx K mg) (hk : Kx K) (h__law_draw : DefG P w K mg base 2 "_law_draw" 2 (c__law_draw K)) (h__law_fresh : DefG P w K mg base 3 "_law_fresh" 2 (c__law_fresh K)) (h__law_mixed : DefG P w K mg base 3 "_law_mixed" 2 (c__law_mixed K)) : DefG P w K mg base 4 "_law_words" 4 (c__law_words K) :=
  defG (N := N__law_words) (ps := ["pot", "names", "gives", "used"]) F sc__law_words hf.g__law_words (fun _ _ _ _ _ _ us hl => match us, hl with | [_, _, _, _], _ => rfl) len__law_words (walk__law_words hf h__law_draw h__law_fresh h__law_mixed) (law__law_words hk)
theorem ok__law_size {P : Program} {w : World} {K : PySem.W.Frag} {mg : Str → Option Value} {base : Heap} {fd : FuncData} (F : FunD K "_law_size" "_law_size" (defArgs s__law_size) (defBody s__law_size) (defScope s__law_size) [] [] (He.fAd K ("_law_size", none)) fd) (hf : Fx K mg) (hk : Kx K) (h__law_draw : DefG P w K mg base 2 "_law_draw" 2 (c__law_draw K)) : DefG P w K mg base 3 "_law_size" 2 (c__law_size K) :=
  defG (N := N__law_size) (ps := ["pot", "most"]) F sc__law_size hf.g__law_size (fun _ _ _ _ _ _ us hl => match us, hl with | [_, _], _ => rfl) len__law_size (walk__law_size hf h__law_draw) (law__law_size hk)
theorem ok__law_program {P : Program} {w : World} {K : PySem.W.Frag} {mg : Str → Option Value} {base : Heap} {fd : FuncData} (F : FunD K "_law_program" "_law_program" (defArgs s__law_program) (defBody s__law_program) (defScope s__law_program) [] [] (He.fAd K ("_law_program", none)) fd) (hf : Fx K mg) (hk : Kx K) (h__law_size : DefG P w K mg base 3 "_law_size" 2 (c__law_size K)) (h__law_draw : DefG P w K mg base 2 "_law_draw" 2 (c__law_draw K)) (h__law_fresh : DefG P w K mg base 3 "_law_fresh" 2 (c__law_fresh K)) (h__law_words : DefG P w K mg base 4 "_law_words" 4 (c__law_words K)) : DefG P w K mg base 5 "_law_program" 3 (c__law_program K) :=
  defG (N := N__law_program) (ps := ["pot", "most", "many"]) F sc__law_program hf.g__law_program (fun _ _ _ _ _ _ us hl => match us, hl with | [_, _, _], _ => rfl) len__law_program (walk__law_program hf h__law_size h__law_draw h__law_fresh h__law_words) (law__law_program hk)
theorem ok__law_place {P : Program} {w : World} {K : PySem.W.Frag} {mg : Str → Option Value} {base : Heap} {fd : FuncData} (F : FunD K "_law_place" "_law_place" (defArgs s__law_place) (defBody s__law_place) (defScope s__law_place) [] [] (He.fAd K ("_law_place", none)) fd) (hf : Fx K mg) (hk : Kx K) (h__law_any : DefG P w K mg base 3 "_law_any" 2 (c__law_any K)) : DefG P w K mg base 4 "_law_place" 3 (c__law_place K) :=
  defG (N := N__law_place) (ps := ["pot", "way", "places"]) F sc__law_place hf.g__law_place (fun _ _ _ _ _ _ us hl => match us, hl with | [_, _, _], _ => rfl) len__law_place (walk__law_place hf h__law_any) (law__law_place hk)
theorem ok__law_row {P : Program} {w : World} {K : PySem.W.Frag} {mg : Str → Option Value} {base : Heap} {fd : FuncData} (F : FunD K "_law_row" "_law_row" (defArgs s__law_row) (defBody s__law_row) (defScope s__law_row) [] [] (He.fAd K ("_law_row", none)) fd) (hf : Fx K mg) (hk : Kx K) (hme_Run_program : MetG P w K mg base 4 (He.ga K "Run") "program" 1 (c_Run_program K)) (h_steps : DefG P w K mg base 5 "steps" 1 (c_steps K)) (h__law_draw : DefG P w K mg base 2 "_law_draw" 2 (c__law_draw K)) (hme_Run_back : MetG P w K mg base 2 (He.ga K "Run") "back" 1 (c_Run_back K)) (h__law_place : DefG P w K mg base 4 "_law_place" 3 (c__law_place K)) (hme_Run_step : MetG P w K mg base 6 (He.ga K "Run") "step" 2 (c_Run_step K)) : DefG P w K mg base 7 "_law_row" 3 (c__law_row K) :=
  defG (N := N__law_row) (ps := ["pot", "run", "way"]) F sc__law_row hf.g__law_row (fun _ _ _ _ _ _ us hl => match us, hl with | [_, _, _], _ => rfl) len__law_row (walk__law_row hf hme_Run_program h_steps h__law_draw hme_Run_back h__law_place hme_Run_step) (law__law_row hk)
theorem fin {P : Program} {w : World} {K : PySem.W.Frag} {h : Heap} {mg : Str → Option Value} {fa : Addr} (X : K.In h) (G : h.Ns mainGlobals mg) (hfa : mg "law" = some (.ref fa)) (c : SaysX dha K) :
    ∃ fd : FuncData, (∀ (s : Shared) (v : Value), BindsTo s fd ⟨[v], []⟩ [("script", v)]) ∧ ∀ base : Heap, FnOk P w K mg base (CXW P) 10 fa fd ["script"] (spV K 1 lawC) := by
  have hf := fx_of X G c
  have hk := kx_of c
  obtain ⟨fd, FL⟩ := c.d.def_ 45 rfl
  have e := hfa.symm.trans hf.g_law
  cases e
  have b := FunD.bindsA (ps := ["script"]) FL fun _ _ _ _ _ _ us hl => match us, hl with | [_], _ => rfl
  refine ⟨fd, fun s v => b s [v] rfl, fun base => ?_⟩
  obtain ⟨_, F⟩ := c.d.def_ 0 rfl
  have h_is_integer := ok_is_integer (P := P) (w := w) (base := base) F hf hk 
  obtain ⟨_, F⟩ := c.d.def_ 1 rfl
  have h_is_within := ok_is_within (P := P) (w := w) (base := base) F hf hk h_is_integer
  obtain ⟨_, F⟩ := c.d.def_ 2 rfl
  have h_is_name := ok_is_name (P := P) (w := w) (base := base) F hf hk 
  obtain ⟨_, F⟩ := c.d.def_ 3 rfl
  have h_is_give := ok_is_give (P := P) (w := w) (base := base) F hf hk 
  obtain ⟨_, F⟩ := c.d.def_ 4 rfl
  have h_is_take := ok_is_take (P := P) (w := w) (base := base) F hf hk 
  obtain ⟨_, F⟩ := c.d.def_ 5 rfl
  have h_name_of := ok_name_of (P := P) (w := w) (base := base) F hf hk h_is_take
  obtain ⟨_, F⟩ := c.d.def_ 6 rfl
  have h_is_word := ok_is_word (P := P) (w := w) (base := base) F hf hk h_is_name
  obtain ⟨_, F⟩ := c.d.def_ 7 rfl
  have h_asked_by := ok_asked_by (P := P) (w := w) (base := base) F hf hk h_is_give h_is_take
  obtain ⟨_, F⟩ := c.d.def_ 8 rfl
  have h_wrong_end := ok_wrong_end (P := P) (w := w) (base := base) F hf hk h_asked_by
  obtain ⟨_, F⟩ := c.d.def_ 9 rfl
  have h_wrong_second := ok_wrong_second (P := P) (w := w) (base := base) F hf hk h_is_give
  obtain ⟨_, F⟩ := c.d.def_ 10 rfl
  have h_raw_ends := ok_raw_ends (P := P) (w := w) (base := base) F hf hk h_asked_by
  obtain ⟨_, F⟩ := c.d.def_ 11 rfl
  have h_uses := ok_uses (P := P) (w := w) (base := base) F hf hk h_is_give h_is_take
  obtain ⟨_, F⟩ := c.d.def_ 12 rfl
  have h_wrong_take := ok_wrong_take (P := P) (w := w) (base := base) F hf hk h_raw_ends h_uses h_is_take h_name_of
  obtain ⟨_, F⟩ := c.d.def_ 13 rfl
  have h_fault_in := ok_fault_in (P := P) (w := w) (base := base) F hf hk h_is_word h_wrong_end h_wrong_second h_wrong_take
  obtain ⟨_, F⟩ := c.d.def_ 14 rfl
  have hm_Program := okm_Program (P := P) (w := w) (base := base) F hf hk h_fault_in
  obtain ⟨_, F⟩ := c.d.def_ 15 rfl
  have h_eq := oke_Program (P := P) (w := w) (base := base) F hf hk 
  obtain ⟨_, F⟩ := c.d.def_ 16 rfl
  have hm_RawProgram := okm_RawProgram (P := P) (w := w) (base := base) F hf hk 
  obtain ⟨_, F⟩ := c.d.def_ 17 rfl
  have h_givens := ok_givens (P := P) (w := w) (base := base) F hf hk h_is_give
  obtain ⟨_, F⟩ := c.d.def_ 18 rfl
  have h_is_step := ok_is_step (P := P) (w := w) (base := base) F hf hk h_is_give h_is_take
  obtain ⟨_, F⟩ := c.d.def_ 19 rfl
  have h_raw_steps := ok_raw_steps (P := P) (w := w) (base := base) F hf hk h_is_step
  obtain ⟨_, F⟩ := c.d.def_ 20 rfl
  have h_steps := ok_steps (P := P) (w := w) (base := base) F hf hk h_raw_steps
  obtain ⟨_, F⟩ := c.d.def_ 21 rfl
  have h_raw_stepped := ok_raw_stepped (P := P) (w := w) (base := base) F hf hk h_raw_ends h_uses h_name_of
  obtain ⟨_, F⟩ := c.d.def_ 22 rfl
  have h_check_step := ok_check_step (P := P) (w := w) (base := base) F hf hk h_is_within h_is_step
  obtain ⟨_, F⟩ := c.d.def_ 23 rfl
  have h_way_to_rest := ok_way_to_rest (P := P) (w := w) (base := base) F hf hk h_raw_steps h_raw_stepped
  obtain ⟨_, F⟩ := c.d.def_ 24 rfl
  have h_raw_rest := ok_raw_rest (P := P) (w := w) (base := base) F hf hk h_way_to_rest
  obtain ⟨_, F⟩ := c.d.def_ 25 rfl
  have h_rest := ok_rest (P := P) (w := w) (base := base) F hf hk h_raw_rest hm_RawProgram
  obtain ⟨_, F⟩ := c.d.def_ 26 rfl
  have h_many_steps := ok_many_steps (P := P) (w := w) (base := base) F hf hk h_givens h_rest
  obtain ⟨_, F⟩ := c.d.def_ 27 rfl
  have h_is_way := ok_is_way (P := P) (w := w) (base := base) F hf hk h_is_within h_is_step h_raw_stepped
  obtain ⟨_, F⟩ := c.d.def_ 28 rfl
  have hm_Run := okm_Run (P := P) (w := w) (base := base) F hf hk 
  obtain ⟨_, F⟩ := c.d.def_ 29 rfl
  have hme_Run_program := okq_Run_program (P := P) (w := w) (base := base) F hf hk hm_RawProgram
  obtain ⟨_, F⟩ := c.d.def_ 30 rfl
  have hme_Run_many := okq_Run_many (P := P) (w := w) (base := base) F hf hk 
  obtain ⟨_, F⟩ := c.d.def_ 31 rfl
  have hme_Run_step := okq_Run_step (P := P) (w := w) (base := base) F hf hk h_check_step h_raw_stepped
  obtain ⟨_, F⟩ := c.d.def_ 32 rfl
  have hme_Run_back := okq_Run_back (P := P) (w := w) (base := base) F hf hk 
  obtain ⟨_, F⟩ := c.d.def_ 33 rfl
  have hme_Run_to_rest := okq_Run_to_rest (P := P) (w := w) (base := base) F hf hk h_raw_steps hme_Run_step
  obtain ⟨_, F⟩ := c.d.def_ 34 rfl
  have h__law_pot := ok__law_pot (P := P) (w := w) (base := base) F hf hk 
  obtain ⟨_, F⟩ := c.d.def_ 35 rfl
  have h__law_draw := ok__law_draw (P := P) (w := w) (base := base) F hf hk 
  obtain ⟨_, F⟩ := c.d.def_ 36 rfl
  have h__law_any := ok__law_any (P := P) (w := w) (base := base) F hf hk h__law_draw
  obtain ⟨_, F⟩ := c.d.def_ 37 rfl
  have h__law_letters := ok__law_letters (P := P) (w := w) (base := base) F hf hk 
  obtain ⟨_, F⟩ := c.d.def_ 38 rfl
  have h__law_fresh := ok__law_fresh (P := P) (w := w) (base := base) F hf hk h__law_draw h__law_letters
  obtain ⟨_, F⟩ := c.d.def_ 39 rfl
  have h__law_mixed := ok__law_mixed (P := P) (w := w) (base := base) F hf hk h__law_draw
  obtain ⟨_, F⟩ := c.d.def_ 40 rfl
  have h__law_words := ok__law_words (P := P) (w := w) (base := base) F hf hk h__law_draw h__law_fresh h__law_mixed
  obtain ⟨_, F⟩ := c.d.def_ 41 rfl
  have h__law_size := ok__law_size (P := P) (w := w) (base := base) F hf hk h__law_draw
  obtain ⟨_, F⟩ := c.d.def_ 42 rfl
  have h__law_program := ok__law_program (P := P) (w := w) (base := base) F hf hk h__law_size h__law_draw h__law_fresh h__law_words
  obtain ⟨_, F⟩ := c.d.def_ 43 rfl
  have h__law_place := ok__law_place (P := P) (w := w) (base := base) F hf hk h__law_any
  obtain ⟨_, F⟩ := c.d.def_ 44 rfl
  have h__law_row := ok__law_row (P := P) (w := w) (base := base) F hf hk hme_Run_program h_steps h__law_draw hme_Run_back h__law_place hme_Run_step
  exact fn_cxw (fnV (N := N_law) (ps := ["script"]) FL sc_law (walk_law hf h__law_pot h__law_program hm_Program hm_Run h__law_draw h__law_row hme_Run_to_rest hme_Run_program h_rest h_eq h_steps h_givens hme_Run_many h_many_steps h_is_way hme_Run_back) (law_law hk))

end K19
open PySem PySem.W PySem.Calls PyProof.Rows
theorem PySem.Challenge.cw_onceknots_k19_whole_runs_in_any_order_holds : PySem.Challenge.rw_onceknots_k19_whole_runs_in_any_order.Holds := by
  w_on; o_law
  refine HandSHeadRun.head_any (r := OpenLaw.row PySem.Challenge.rw_onceknots_k19_whole_runs_in_any_order) (q := view (OpenLaw.row PySem.Challenge.rw_onceknots_k19_whole_runs_in_any_order).prog [51]) (H := K19.hk) (ob := K19.ob) (M := 6000) (loose := K19.looseL) (d := HandSHeadRun.topDef (OpenLaw.row PySem.Challenge.rw_onceknots_k19_whole_runs_in_any_order).prog 51) (kwd := []) K19.ob_eq
    (by kernel_rfl) (fun s => by kernel_rfl) K19.run (by kernel_rfl) (by kernel_rfl) (by kernel_rfl) (by rfl) (by first | assumption | decide +kernel) (by decide +kernel) ⟨rfl, rfl, rfl, rfl, rfl, by decide +kernel⟩ ?hw ?hc
  case hw => w_witness2
  case hc =>
    refine L2.walk_ofE (l := PySem.Challenge.rw_onceknots_k19_whole_runs_in_any_order) (n := 63) (k := 10) (x := "script") (CX := VL.CXW (PySem.Challenge.rw_onceknots_k19_whole_runs_in_any_order).prog) rfl (by decide) (by kernel_rfl) ⟨rfl, by decide, by decide⟩ ?F VL.cxw_no
    intro w mg fa h Y G hmg0
    obtain ⟨K, KX, c⟩ := Y
    have hmg : mg ("law" : PySem.Str) = some (.ref fa) := by
      have e : (HandSHeadRun.topDef (OpenLaw.row PySem.Challenge.rw_onceknots_k19_whole_runs_in_any_order).prog 51).name = ("law" : PySem.Str) := by kernel_rfl
      rw [← e]
      exact hmg0
    obtain ⟨fd, hb, hF⟩ := K19.fin (P := (PySem.Challenge.rw_onceknots_k19_whole_runs_in_any_order).prog) (w := w) KX G hmg c
    exact ⟨K, fd, VL.spV K 1 VL.lawC, KX, hb, fun H a ns hl _ hS => VL.law_sp hl hS, fun base _ _ => hF base⟩

end
