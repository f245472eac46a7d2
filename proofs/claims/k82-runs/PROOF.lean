import PyProof.Rows.All
import Wide.All
import OpenK.AllK
import Wide.FinOn
import HandS.ForMost
import HandS.Exc
import HandS.ExcOwn
import HandS.TryOnly
import HandS.WordsExc
import HandS.Style
import HandS.IsInst
import HandS.DictComp
import HandS.SetFor
import HandS.CallSlots
import HandS.Deep
import HandS.TupAny
import HandS.SortInts
import HandS.Conv
import HandS.ListItems
import PySem.Challenge.RW_axlewire_k82_runs_of_guarded_messages
import HandS.Text
import KE.BitLaws
set_option Elab.async false
set_option linter.all false
set_option maxRecDepth 100000
set_option maxHeartbeats 0
/-! Mi: the mirror layer: values as trees, a store of what may change, one lemma a construct. -/
namespace Mi
open PySem L2

inductive D where
  | non | bl (b : Bool) | int (i : Int) | str (x : Str)
  | lst (xs : List D) | src (xs : List D) | tup (xs : List D) | dct (kvs : List (Key × D)) | obj (n : Nat) | ty (n : String)
/-- a class: its name, its attributes in the order in which they are stored -/
structure Cl where
  nm : Str
  fl : List Str
  deriving DecidableEq
inductive MO where
  | lst (xs : List D) | dk (kvs : List (Key × D)) | lk (kvs : List (Key × D)) | ll (xs : List D) | ins (c : Cl) (fs : List D)
def MO.isLk : MO → Bool
  | .lk _ => true
  | .ll _ => true
  | _ => false
structure MS where
  nx : Nat
  get : Nat → Option MO
def MS.set (S : MS) (n : Nat) (o : MO) : MS := ⟨S.nx, fun k => if k = n then some o else S.get k⟩
def MS.add (S : MS) (o : MO) : MS := ⟨S.nx + 1, fun k => if k = S.nx then some o else S.get k⟩
def MS.del (S : MS) (n : Nat) : MS := ⟨S.nx, fun k => if k = n then none else S.get k⟩

/-- the world: where what may change stands, what never changes, how many were made -/
structure Wd where
  φ : Nat → Addr
  F : Hp
  m : Nat
mutual
inductive Rep (K : PySem.W.Frag) (w : Wd) : V → D → Prop
  | non : Rep K w .non .non
  | bl (b : Bool) : Rep K w (.bl b) (.bl b)
  | int (i : Int) : Rep K w (.int i) (.int i)
  | str (x : Str) : Rep K w (.str x) (.str x)
  | lst {a : Addr} {vs : List V} {ds : List D} : Rd w.F a (.lst vs) → RepL K w vs ds → Rep K w (.ref a) (.lst ds)
  | src {a : Addr} {vs : List V} {ds : List D} : SqL K w.F a vs → RepL K w vs ds → Rep K w (.ref a) (.src ds)
  | tup {a : Addr} {vs : List V} {ds : List D} : SqT K w.F a vs → RepL K w vs ds → Rep K w (.ref a) (.tup ds)
  | dct {a : Addr} {ob : Obj} {kws : List (Key × V)} {kvs : List (Key × D)} : w.F a = some (.frz ob (.dK kws)) → RepK K w kws kvs → Rep K w (.ref a) (.dct kvs)
  | obj {n : Nat} : n < w.m → Rep K w (.ref (w.φ n)) (.obj n)
  | ty (n : String) : Rep K w (.ty n) (.ty n)
inductive RepL (K : PySem.W.Frag) (w : Wd) : List V → List D → Prop
  | nil : RepL K w [] []
  | cons {v : V} {vs : List V} {d : D} {ds : List D} : Rep K w v d → RepL K w vs ds → RepL K w (v :: vs) (d :: ds)
inductive RepK (K : PySem.W.Frag) (w : Wd) : List (Key × V) → List (Key × D) → Prop
  | nil : RepK K w [] []
  | cons {k : Key} {v : V} {vs : List (Key × V)} {d : D} {ds : List (Key × D)} : Rep K w v d → RepK K w vs ds → RepK K w ((k, v) :: vs) ((k, d) :: ds)
end
def RepF (K : PySem.W.Frag) (w : Wd) : List (Str × V) → List Str → List D → Prop
  | [], _, [] => True
  | (f, v) :: r, g :: t, d :: s => f = g ∧ Rep K w v d ∧ RepF K w r t s
  | _, _, _ => False

structure Le (w w' : Wd) : Prop where
  m : w.m ≤ w'.m
  ph : ∀ n, n < w.m → w'.φ n = w.φ n
  ex : ∀ a o, w.F a = some o → w'.F a = some o
theorem Le.refl (w : Wd) : Le w w := ⟨Nat.le_refl _, fun _ _ => rfl, fun _ _ h => h⟩
theorem Le.trans {a b c : Wd} (x : Le a b) (y : Le b c) : Le a c :=
  ⟨Nat.le_trans x.m y.m, fun n h => (y.ph n (Nat.lt_of_lt_of_le h x.m)).trans (x.ph n h), fun q o h => y.ex q o (x.ex q o h)⟩

theorem rd_ex {H H' : Hp} {a : Addr} {u : HO} (e : ∀ a o, H a = some o → H' a = some o) (h : Rd H a u) : Rd H' a u := by
  rcases h with h | ⟨o, h⟩
  · exact Or.inl (e a _ h)
  · exact Or.inr ⟨o, e a _ h⟩
theorem sql_ex {K : PySem.W.Frag} {H H' : Hp} {a : Addr} {xs : List V} (e : ∀ a o, H a = some o → H' a = some o) (h : SqL K H a xs) : SqL K H' a xs := by
  rcases h with h | h
  · exact Or.inl (rd_ex e h)
  · exact Or.inr h
theorem sqt_ex {K : PySem.W.Frag} {H H' : Hp} {a : Addr} {xs : List V} (e : ∀ a o, H a = some o → H' a = some o) (h : SqT K H a xs) : SqT K H' a xs := by
  rcases h with h | h
  · exact Or.inl (rd_ex e h)
  · exact Or.inr h
mutual
theorem Rep.le {K : PySem.W.Frag} {w w' : Wd} (l : Le w w') : ∀ {d : D} {v : V}, Rep K w v d → Rep K w' v d
  | .non, _, h => by cases h; exact .non
  | .bl b, _, h => by cases h; exact .bl b
  | .int i, _, h => by cases h; exact .int i
  | .str x, _, h => by cases h; exact .str x
  | .ty n, _, h => by cases h; exact .ty n
  | .lst ds, _, h => by
    cases h with
    | lst h1 h2 => exact .lst (rd_ex l.ex h1) (RepL.le l h2)
  | .src ds, _, h => by
    cases h with
    | src h1 h2 => exact .src (sql_ex l.ex h1) (RepL.le l h2)
  | .tup ds, _, h => by
    cases h with
    | tup h1 h2 => exact .tup (sqt_ex l.ex h1) (RepL.le l h2)
  | .dct kvs, _, h => by
    cases h with
    | dct h1 h2 => exact .dct (l.ex _ _ h1) (RepK.le l h2)
  | .obj n, _, h => by
    cases h with
    | obj h1 =>
      rw [← l.ph n h1]
      exact .obj (Nat.lt_of_lt_of_le h1 l.m)
theorem RepL.le {K : PySem.W.Frag} {w w' : Wd} (l : Le w w') : ∀ {ds : List D} {vs : List V}, RepL K w vs ds → RepL K w' vs ds
  | [], _, h => by cases h; exact .nil
  | d :: ds, _, h => by
    cases h with
    | cons h1 h2 => exact .cons (Rep.le l h1) (RepL.le l h2)
theorem RepK.le {K : PySem.W.Frag} {w w' : Wd} (l : Le w w') : ∀ {ds : List (Key × D)} {vs : List (Key × V)}, RepK K w vs ds → RepK K w' vs ds
  | [], _, h => by cases h; exact .nil
  | (k, d) :: ds, _, h => by
    cases h with
    | cons h1 h2 => exact .cons (Rep.le l h1) (RepK.le l h2)
end
theorem RepF.le {K : PySem.W.Frag} {w w' : Wd} (l : Le w w') : ∀ {fl : List Str} {ds : List D} {vs : List (Str × V)}, RepF K w vs fl ds → RepF K w' vs fl ds
  | _, [], [], _ => True.intro
  | _, [], _ :: _, h => by
    cases ‹List Str› <;> exact h.elim
  | _, _ :: _, [], h => by
    cases ‹List Str› <;> exact h.elim
  | [], d :: ds, (f, v) :: vs, h => h.elim
  | g :: t, d :: ds, (f, v) :: vs, h => ⟨h.1, h.2.1.le l, RepF.le l h.2.2⟩
theorem RepF.get {K : PySem.W.Frag} {w : Wd} {f : Str} : ∀ {fl : List Str} {ds : List D} {vs : List (Str × V)} {i : Nat} {d : D}, fl.Nodup → RepF K w vs fl ds → fl[i]? = some f → ds[i]? = some d → ∃ v, vs.lookup f = some v ∧ Rep K w v d
  | _, [], _, _, _, _, _, _, e => by simp at e
  | [], d :: ds, vs, _, _, _, _, e, _ => by simp at e
  | g :: t, d :: ds, [], _, _, _, h, _, _ => h.elim
  | g :: t, d :: ds, (f', v) :: vs, 0, d', nd, h, e, e2 => by
    have e1 : g = f := by simpa using e
    have e3 : d = d' := by simpa using e2
    subst e1
    subst e3
    refine ⟨v, ?_, h.2.1⟩
    rw [h.1, List.lookup_cons_self]
  | g :: t, d :: ds, (f', v) :: vs, i + 1, d', nd, h, e, e2 => by
    obtain ⟨u, a, b⟩ := RepF.get (List.nodup_cons.mp nd).2 h.2.2 (by simpa using e) (by simpa using e2)
    refine ⟨u, ?_, b⟩
    have ne : f ≠ f' := fun z => (List.nodup_cons.mp nd).1 (by rw [← h.1, ← z]; exact List.mem_of_getElem? (i := i) (by simpa using e))
    rw [List.lookup_cons, beq_eq_false_iff_ne.mpr ne]
    exact a
theorem RepF.no {K : PySem.W.Frag} {w : Wd} {f : Str} : ∀ {fl : List Str} {ds : List D} {vs : List (Str × V)}, f ∉ fl → RepF K w vs fl ds → vs.lookup f = none
  | _, _, [], _, _ => rfl
  | [], _, (f', v) :: vs, _, h => by
    cases ‹List D› <;> exact h.elim
  | g :: t, [], (f', v) :: vs, _, h => h.elim
  | g :: t, d :: ds, (f', v) :: vs, hn, h => by
    have ne : f ≠ f' := fun z => hn (by rw [z, h.1]; exact List.mem_cons_self)
    rw [List.lookup_cons, beq_eq_false_iff_ne.mpr ne]
    exact RepF.no (fun z => hn (List.mem_cons_of_mem _ z)) h.2.2
theorem RepF.length {K : PySem.W.Frag} {w : Wd} : ∀ {fl : List Str} {ds : List D} {vs : List (Str × V)}, RepF K w vs fl ds → vs.length = ds.length
  | _, [], [], _ => rfl
  | _, [], _ :: _, h => by
    cases ‹List Str› <;> exact h.elim
  | _, _ :: _, [], h => by
    cases ‹List Str› <;> exact h.elim
  | [], d :: ds, (f, v) :: vs, h => h.elim
  | g :: t, d :: ds, (f, v) :: vs, h => by simp [RepF.length h.2.2]
/-- an attribute is stored: in its place, or as the next one -/
def setF (ds : List D) (i : Nat) (d : D) : Option (List D) := if i < ds.length then some (ds.set i d) else if i = ds.length then some (ds ++ [d]) else none
theorem RepF.put {K : PySem.W.Frag} {w : Wd} {f : Str} {v : V} {d : D} (r : Rep K w v d) : ∀ {fl : List Str} {ds ds' : List D} {vs : List (Str × V)} {i : Nat}, fl.Nodup → RepF K w vs fl ds → fl[i]? = some f → setF ds i d = some ds' → RepF K w (putF f v vs) fl ds'
  | [], _, _, _, _, _, _, e, _ => by simp at e
  | g :: t, [], ds', [], 0, nd, h, e, e2 => by
    have e1 : g = f := by simpa using e
    subst e1
    have e3 : [d] = ds' := by simpa [setF] using e2
    subst e3
    exact ⟨rfl, r, True.intro⟩
  | g :: t, [], ds', [], i + 1, nd, h, e, e2 => by simp [setF] at e2
  | g :: t, [], _, _ :: _, _, _, h, _, _ => h.elim
  | g :: t, _ :: _, _, [], _, _, h, _, _ => h.elim
  | g :: t, d0 :: ds, ds', (f', v') :: vs, 0, nd, h, e, e2 => by
    have e1 : g = f := by simpa using e
    subst e1
    have e3 : d :: ds = ds' := by simpa [setF] using e2
    subst e3
    unfold putF
    rw [if_pos h.1]
    exact ⟨h.1, r, h.2.2⟩
  | g :: t, d0 :: ds, ds', (f', v') :: vs, i + 1, nd, h, e, e2 => by
    have hi : t[i]? = some f := by simpa using e
    have ne : f' ≠ f := fun z => (List.nodup_cons.mp nd).1 (by rw [← h.1, z]; exact List.mem_of_getElem? hi)
    unfold putF
    rw [if_neg ne]
    unfold setF at e2
    by_cases h1 : i < ds.length
    · rw [if_pos (by simpa using h1)] at e2
      cases e2
      exact ⟨h.1, h.2.1, RepF.put r (List.nodup_cons.mp nd).2 h.2.2 hi (by unfold setF; rw [if_pos h1])⟩
    · rw [if_neg (by simpa using h1)] at e2
      by_cases h2 : i = ds.length
      · rw [if_pos (by simpa using h2)] at e2
        cases e2
        exact ⟨h.1, h.2.1, RepF.put r (List.nodup_cons.mp nd).2 h.2.2 hi (by unfold setF; rw [if_neg h1, if_pos h2]; rfl)⟩
      · rw [if_neg (by simpa using h2)] at e2
        cases e2
theorem RepL.length {K : PySem.W.Frag} {w : Wd} : ∀ {vs : List V} {ds : List D}, RepL K w vs ds → vs.length = ds.length
  | [], _, h => by cases h; rfl
  | v :: vs, _, h => by
    cases h with
    | cons _ h2 => simp [RepL.length h2]
theorem RepL.append {K : PySem.W.Frag} {w : Wd} : ∀ {vs us : List V} {ds es : List D}, RepL K w vs ds → RepL K w us es → RepL K w (vs ++ us) (ds ++ es)
  | [], _, _, _, h, g => by cases h; exact g
  | v :: vs, _, _, _, h, g => by
    cases h with
    | cons h1 h2 => exact .cons h1 (RepL.append h2 g)
theorem RepL.get {K : PySem.W.Frag} {w : Wd} : ∀ {vs : List V} {ds : List D} {i : Nat} {d : D}, RepL K w vs ds → ds[i]? = some d → ∃ v, vs[i]? = some v ∧ Rep K w v d
  | [], _, _, _, h, e => by cases h; simp at e
  | v :: vs, _, i, d, h, e => by
    cases h with
    | cons h1 h2 =>
      cases i with
      | zero =>
        simp at e
        subst e
        exact ⟨v, rfl, h1⟩
      | succ i =>
        obtain ⟨u, a, b⟩ := RepL.get (i := i) h2 (by simpa using e)
        exact ⟨u, by simpa using a, b⟩
theorem RepL.getV {K : PySem.W.Frag} {w : Wd} : ∀ {vs : List V} {ds : List D} {i : Nat} {v : V}, RepL K w vs ds → vs[i]? = some v → ∃ d, ds[i]? = some d ∧ Rep K w v d
  | [], _, _, _, h, e => by simp at e
  | v :: vs, _, i, d, h, e => by
    cases h with
    | cons h1 h2 =>
      cases i with
      | zero =>
        simp at e
        subst e
        exact ⟨_, rfl, h1⟩
      | succ i =>
        obtain ⟨u, a, b⟩ := RepL.getV (i := i) h2 (by simpa using e)
        exact ⟨u, by simpa using a, b⟩
theorem RepL.set {K : PySem.W.Frag} {w : Wd} {x : V} {y : D} (r : Rep K w x y) : ∀ {vs : List V} {ds : List D} (i : Nat), RepL K w vs ds → RepL K w (vs.set i x) (ds.set i y)
  | [], _, _, h => by cases h; exact .nil
  | v :: vs, _, i, h => by
    cases h with
    | cons h1 h2 =>
      cases i with
      | zero => exact .cons r h2
      | succ i => exact .cons h1 (RepL.set r i h2)
theorem RepL.take {K : PySem.W.Frag} {w : Wd} : ∀ {vs : List V} {ds : List D} (n : Nat), RepL K w vs ds → RepL K w (vs.take n) (ds.take n)
  | [], _, n, h => by
    cases h
    rw [List.take_nil, List.take_nil]
    exact .nil
  | v :: vs, _, n, h => by
    cases h with
    | cons h1 h2 =>
      cases n with
      | zero => exact .nil
      | succ n => exact .cons h1 (RepL.take n h2)
theorem RepL.drop {K : PySem.W.Frag} {w : Wd} : ∀ {vs : List V} {ds : List D} (n : Nat), RepL K w vs ds → RepL K w (vs.drop n) (ds.drop n)
  | [], _, n, h => by
    cases h
    rw [List.drop_nil, List.drop_nil]
    exact .nil
  | v :: vs, _, n, h => by
    cases h with
    | cons h1 h2 =>
      cases n with
      | zero => exact .cons h1 h2
      | succ n => exact RepL.drop n h2
theorem RepL.eraseIdx {K : PySem.W.Frag} {w : Wd} : ∀ {vs : List V} {ds : List D} (n : Nat), RepL K w vs ds → RepL K w (vs.eraseIdx n) (ds.eraseIdx n)
  | [], _, n, h => by
    cases h
    exact .nil
  | v :: vs, _, n, h => by
    cases h with
    | cons h1 h2 =>
      cases n with
      | zero => exact h2
      | succ n => exact .cons h1 (RepL.eraseIdx n h2)
theorem RepL.reverse {K : PySem.W.Frag} {w : Wd} : ∀ {vs : List V} {ds : List D}, RepL K w vs ds → RepL K w vs.reverse ds.reverse
  | [], _, h => by cases h; exact .nil
  | v :: vs, _, h => by
    cases h with
    | cons h1 h2 =>
      rw [List.reverse_cons, List.reverse_cons]
      exact RepL.append (RepL.reverse h2) (.cons h1 .nil)
theorem RepL.dropLast {K : PySem.W.Frag} {w : Wd} {vs : List V} {ds : List D} (h : RepL K w vs ds) : RepL K w vs.dropLast ds.dropLast := by
  rw [List.dropLast_eq_take, List.dropLast_eq_take, h.length]
  exact h.take _

/-! ### the store and the heap -/
def ObR (K : PySem.W.Frag) (mg : Str → Option Value) (w : Wd) : MO → HO → Prop
  | .lst ds, .lst vs => RepL K w vs ds
  | .dk kvs, .dK kws => RepK K w kws kvs
  | .lk kvs, .frz _ (.dK kws) => RepK K w kws kvs
  | .ll ds, .frz _ (.lst vs) => RepL K w vs ds
  | .ins c fs, .ins C _ fvs => mg c.nm = some (.ref C) ∧ RepF K w fvs c.fl fs
  | _, _ => False
theorem ObR.le {K : PySem.W.Frag} {mg : Str → Option Value} {w w' : Wd} (l : Le w w') : ∀ {o : MO} {h : HO}, ObR K mg w o h → ObR K mg w' o h := by
  intro o h r
  cases o with
  | lk kvs =>
    cases h with
    | frz ob u =>
      cases u with
      | dK kws => exact RepK.le l r
      | _ => exact r.elim
    | _ => exact r.elim
  | ll ds =>
    cases h with
    | frz ob u =>
      cases u with
      | lst vs => exact RepL.le l r
      | _ => exact r.elim
    | _ => exact r.elim
  | _ => cases h <;> first | exact RepL.le l r | exact RepK.le l r | exact ⟨r.1, RepF.le l r.2⟩ | exact r.elim
structure SI (K : PySem.W.Frag) (mg : Str → Option Value) (w : Wd) (S : MS) (H : Hp) : Prop where
  nx : S.nx = w.m
  ex : ∀ a o, w.F a = some o → H a = some o
  st : ∀ n o, S.get n = some o → n < w.m ∧ w.F (w.φ n) = none ∧ ∃ ho, H (w.φ n) = some ho ∧ ObR K mg w o ho
  inj : ∀ n n' o o', S.get n = some o → S.get n' = some o' → w.φ n = w.φ n' → n = n'
/-- an object of others -/
def Fo (w : Wd) (S : MS) (H : Hp) (a : Addr) (o : HO) : Prop := H a = some o ∧ w.F a = none ∧ ∀ n ob, S.get n = some ob → w.φ n ≠ a
structure Go (w : Wd) (S : MS) (H : Hp) (w' : Wd) (S' : MS) (H' : Hp) : Prop where
  le : Le w w'
  fo : ∀ a o, Fo w S H a o → Fo w' S' H' a o
  fz : ∀ a ob u, H a = some (.frz ob u) → H' a = some (.frz ob u)
theorem Go.refl (w : Wd) (S : MS) (H : Hp) : Go w S H w S H := ⟨Le.refl w, fun _ _ h => h, fun _ _ _ h => h⟩
theorem Go.trans {w1 w2 w3 : Wd} {S1 S2 S3 : MS} {H1 H2 H3 : Hp} (a : Go w1 S1 H1 w2 S2 H2) (b : Go w2 S2 H2 w3 S3 H3) : Go w1 S1 H1 w3 S3 H3 := ⟨a.le.trans b.le, fun q o h => b.fo q o (a.fo q o h), fun q o u h => b.fz q o u (a.fz q o u h)⟩

section
variable {K : PySem.W.Frag} {mg : Str → Option Value} {w : Wd} {S : MS} {H : Hp}
/-- a new thing that never changes -/
theorem SI.frz (I : SI K mg w S H) {p : Addr} (hp : H p = none) (o : HO) :
    SI K mg ⟨w.φ, upd w.F p o, w.m⟩ S (upd H p o) ∧ Go w S H ⟨w.φ, upd w.F p o, w.m⟩ S (upd H p o) := by
  have fp : w.F p = none := by
    cases e : w.F p with
    | none => rfl
    | some o => rw [I.ex p o e] at hp; cases hp
  have le : Le w ⟨w.φ, upd w.F p o, w.m⟩ := ⟨Nat.le_refl _, fun _ _ => rfl, fun a u h => by
    show upd w.F p o a = some u
    rw [upd_ne (ne_of_none h fp)]; exact h⟩
  refine ⟨⟨I.nx, fun a u h => ?_, fun n ob h => ?_, I.inj⟩, le, fun a u h => ?_, fun a ob u h => by rw [upd_ne (ne_of_none h hp)]; exact h⟩
  · by_cases e : a = p
    · subst e
      have h' : upd w.F a o a = some u := h
      rw [upd_same] at h' ⊢
      exact h'
    · have h' : upd w.F p o a = some u := h
      rw [upd_ne e] at h' ⊢
      exact I.ex a u h'
  · obtain ⟨h1, h2, ho, h3, h4⟩ := I.st n ob h
    have ne : w.φ n ≠ p := ne_of_none h3 hp
    exact ⟨h1, by show upd w.F p o (w.φ n) = none; rw [upd_ne ne]; exact h2, ho, by show upd H p o (w.φ n) = some ho; rw [upd_ne ne]; exact h3, h4.le le⟩
  · obtain ⟨h1, h2, h3⟩ := h
    have ne : a ≠ p := ne_of_none h1 hp
    exact ⟨by rw [upd_ne ne]; exact h1, by show upd w.F p o a = none; rw [upd_ne ne]; exact h2, h3⟩
/-- a new thing that may change -/
theorem SI.add (I : SI K mg w S H) {p : Addr} (hp : H p = none) {o : MO} {ho : HO} (r : ObR K mg w o ho) :
    SI K mg ⟨fun n => if n = w.m then p else w.φ n, w.F, w.m + 1⟩ (S.add o) (upd H p ho) ∧ Go w S H ⟨fun n => if n = w.m then p else w.φ n, w.F, w.m + 1⟩ (S.add o) (upd H p ho) := by
  have fp : w.F p = none := by
    cases e : w.F p with
    | none => rfl
    | some o => rw [I.ex p o e] at hp; cases hp
  have le : Le w ⟨fun n => if n = w.m then p else w.φ n, w.F, w.m + 1⟩ := ⟨Nat.le_succ _, fun n h => if_neg (Nat.ne_of_lt h), fun a u h => h⟩
  have hn : S.nx = w.m := I.nx
  refine ⟨⟨by show S.nx + 1 = w.m + 1; rw [hn], fun a u h => ?_, fun n ob h => ?_, fun n n' ob ob' h h' e => ?_⟩, le, fun a u h => ?_, fun a ob u h => by rw [upd_ne (ne_of_none h hp)]; exact h⟩
  · have h' : w.F a = some u := h
    rw [upd_ne (ne_of_none h' fp)]
    exact I.ex a u h'
  · have h' : (if n = S.nx then some o else S.get n) = some ob := h
    by_cases e : n = w.m
    · rw [if_pos (e.trans hn.symm)] at h'
      cases h'
      refine ⟨by show n < w.m + 1; omega, ?_, ho, ?_, r.le le⟩
      · show w.F (if n = w.m then p else w.φ n) = none
        rw [if_pos e]; exact fp
      · show upd H p ho (if n = w.m then p else w.φ n) = some ho
        rw [if_pos e]; exact upd_same
    · rw [if_neg (fun z => e (z.trans hn))] at h'
      obtain ⟨h1, h2, ho', h3, h4⟩ := I.st n ob h'
      refine ⟨by show n < w.m + 1; omega, ?_, ho', ?_, h4.le le⟩
      · show w.F (if n = w.m then p else w.φ n) = none
        rw [if_neg e]; exact h2
      · show upd H p ho (if n = w.m then p else w.φ n) = some ho'
        rw [if_neg e, upd_ne (ne_of_none h3 hp)]; exact h3
  · have h1 : (if n = S.nx then some o else S.get n) = some ob := h
    have h2 : (if n' = S.nx then some o else S.get n') = some ob' := h'
    have e' : (if n = w.m then p else w.φ n) = (if n' = w.m then p else w.φ n') := e
    by_cases a : n = w.m
    · by_cases b : n' = w.m
      · rw [a, b]
      · rw [if_neg (fun z => b (z.trans hn))] at h2
        obtain ⟨_, _, _, q, _⟩ := I.st n' ob' h2
        rw [if_pos a, if_neg b] at e'
        rw [← e', hp] at q; cases q
    · rw [if_neg (fun z => a (z.trans hn))] at h1
      by_cases b : n' = w.m
      · obtain ⟨_, _, _, q, _⟩ := I.st n ob h1
        rw [if_neg a, if_pos b] at e'
        rw [e', hp] at q; cases q
      · rw [if_neg (fun z => b (z.trans hn))] at h2
        rw [if_neg a, if_neg b] at e'
        exact I.inj n n' ob ob' h1 h2 e'
  · obtain ⟨h1, h2, h3⟩ := h
    have ne : a ≠ p := ne_of_none h1 hp
    refine ⟨by rw [upd_ne ne]; exact h1, h2, fun n ob q => ?_⟩
    have q' : (if n = S.nx then some o else S.get n) = some ob := q
    show (if n = w.m then p else w.φ n) ≠ a
    by_cases e : n = w.m
    · rw [if_pos e]; exact ne.symm
    · rw [if_neg e]
      rw [if_neg (fun z => e (z.trans hn))] at q'
      exact h3 n ob q'
/-- a thing that may change is changed -/
theorem SI.set (I : SI K mg w S H) {n : Nat} {o' : MO} (h : S.get n = some o') {o : MO} {ho : HO} (r : ObR K mg w o ho) (hl : o'.isLk = false := by rfl) :
    SI K mg w (S.set n o) (upd H (w.φ n) ho) ∧ Go w S H w (S.set n o) (upd H (w.φ n) ho) := by
  obtain ⟨g1, g2, _, g3, g4⟩ := I.st n o' h
  refine ⟨⟨I.nx, fun a u q => ?_, fun k ob q => ?_, fun k k' ob ob' q q' e => ?_⟩, Le.refl w, fun a u q => ?_, fun a ob u q => ?_⟩
  · rw [upd_ne (ne_of_none q g2)]; exact I.ex a u q
  · have q' : (if k = n then some o else S.get k) = some ob := q
    by_cases e : k = n
    · rw [if_pos e] at q'
      cases q'
      subst e
      exact ⟨g1, g2, ho, upd_same, r⟩
    · rw [if_neg e] at q'
      obtain ⟨h1, h2, ho', h3, h4⟩ := I.st k ob q'
      exact ⟨h1, h2, ho', by rw [upd_ne (fun z => e (I.inj _ _ _ _ q' h z))]; exact h3, h4⟩
  · have q1 : (if k = n then some o else S.get k) = some ob := q
    have q2 : (if k' = n then some o else S.get k') = some ob' := q'
    by_cases a : k = n
    · by_cases b : k' = n
      · rw [a, b]
      · rw [if_neg b] at q2
        rw [a] at e ⊢
        exact I.inj _ _ _ _ h q2 e
    · rw [if_neg a] at q1
      by_cases b : k' = n
      · rw [b] at e ⊢
        exact I.inj _ _ _ _ q1 h e
      · rw [if_neg b] at q2
        exact I.inj _ _ _ _ q1 q2 e
  · obtain ⟨h1, h2, h3⟩ := q
    refine ⟨by rw [upd_ne (h3 n o' h).symm]; exact h1, h2, fun k ob q => ?_⟩
    have q' : (if k = n then some o else S.get k) = some ob := q
    by_cases e : k = n
    · rw [e]; exact h3 n o' h
    · rw [if_neg e] at q'
      exact h3 k ob q'
  · by_cases e : a = w.φ n
    · rw [e, g3] at q
      cases q
      cases o' with
      | lk kvs => cases hl
      | ll kvs => cases hl
      | _ => exact g4.elim
    · rw [upd_ne e]; exact q
/-- a thing that may change is never changed again -/
theorem SI.del (I : SI K mg w S H) {n : Nat} {o : MO} (h : S.get n = some o) {ho : HO} (e : H (w.φ n) = some ho) :
    SI K mg ⟨w.φ, upd w.F (w.φ n) ho, w.m⟩ (S.del n) H ∧ Go w S H ⟨w.φ, upd w.F (w.φ n) ho, w.m⟩ (S.del n) H := by
  obtain ⟨g1, g2, _, g3, _⟩ := I.st n o h
  have le : Le w ⟨w.φ, upd w.F (w.φ n) ho, w.m⟩ := ⟨Nat.le_refl _, fun _ _ => rfl, fun a u h => by
    show upd w.F (w.φ n) ho a = some u
    rw [upd_ne (ne_of_none h g2)]; exact h⟩
  refine ⟨⟨I.nx, fun a u q => ?_, fun k ob q => ?_, fun k k' ob ob' q q' z => ?_⟩, le, fun a u q => ?_, fun _ _ _ q => q⟩
  · have q' : upd w.F (w.φ n) ho a = some u := q
    by_cases z : a = w.φ n
    · rw [z, upd_same] at q'
      rw [z, e]; exact q'
    · rw [upd_ne z] at q'
      exact I.ex a u q'
  · have q' : (if k = n then none else S.get k) = some ob := q
    by_cases z : k = n
    · rw [if_pos z] at q'; cases q'
    · rw [if_neg z] at q'
      obtain ⟨h1, h2, ho', h3, h4⟩ := I.st k ob q'
      refine ⟨h1, ?_, ho', h3, h4.le le⟩
      show upd w.F (w.φ n) ho (w.φ k) = none
      rw [upd_ne (fun y => z (I.inj _ _ _ _ q' h y))]; exact h2
  · have q1 : (if k = n then none else S.get k) = some ob := q
    have q2 : (if k' = n then none else S.get k') = some ob' := q'
    by_cases a : k = n
    · rw [if_pos a] at q1; cases q1
    · by_cases b : k' = n
      · rw [if_pos b] at q2; cases q2
      · rw [if_neg a] at q1
        rw [if_neg b] at q2
        exact I.inj _ _ _ _ q1 q2 z
  · obtain ⟨h1, h2, h3⟩ := q
    refine ⟨h1, ?_, fun k ob q => ?_⟩
    · show upd w.F (w.φ n) ho a = none
      rw [upd_ne (h3 n o h).symm]; exact h2
    · have q' : (if k = n then none else S.get k) = some ob := q
      by_cases z : k = n
      · rw [if_pos z] at q'; cases q'
      · rw [if_neg z] at q'
        exact h3 k ob q'
end
end Mi
namespace Mi
open PySem L2

/-! ### what a piece of the program does, in the mirror -/
structure Exn where
  cls : Cl
  fs : List D
inductive Out (α : Type) where
  | ok (a : α) (S : MS)
  | exc (e : Exn) (S : MS)
abbrev M (α : Type) := MS → Option (Out α)
def ret {α : Type} (a : α) : M α := fun S => some (.ok a S)
def stuck {α : Type} : M α := fun _ => none
def bnd {α β : Type} (m : M α) (f : α → M β) : M β := fun S => match m S with
  | none => none
  | some (.exc e S') => some (.exc e S')
  | some (.ok a S') => f a S'
/-- no exception here -/
def noX {α : Type} (m : M α) : M α := fun S => match m S with
  | some (.ok a S') => some (.ok a S')
  | _ => none
theorem bnd_ok {α β : Type} {m : M α} {f : α → M β} {S S' : MS} {a : α} (h : m S = some (.ok a S')) : bnd m f S = f a S' := by unfold bnd; rw [h]
theorem bnd_exc {α β : Type} {m : M α} {f : α → M β} {S S' : MS} {e : Exn} (h : m S = some (.exc e S')) : bnd m f S = some (.exc e S') := by unfold bnd; rw [h]
theorem bnd_none {α β : Type} {m : M α} {f : α → M β} {S : MS} (h : m S = none) : bnd m f S = none := by unfold bnd; rw [h]
abbrev En := List (Option D)
abbrev ME := En → M D
abbrev MT := En → M Bool
abbrev MA := En → M (List D)
inductive Fl where
  | nx (env : En) (S : MS) | rt (d : D) (S : MS) | bk (env : En) (S : MS) | ct (env : En) (S : MS) | exc (e : Exn) (env : En) (S : MS)
abbrev MSt := En → MS → Option Fl

def EnR (K : PySem.W.Frag) (w : Wd) : En → St → Prop
  | [], [] => True
  | none :: r, _ :: s => EnR K w r s
  | some d :: r, x :: s => (∃ v, x = some v ∧ Rep K w v d) ∧ EnR K w r s
  | _, _ => False
theorem EnR.le {K : PySem.W.Frag} {w w' : Wd} (l : Le w w') : ∀ {env : En} {σ : St}, EnR K w env σ → EnR K w' env σ
  | [], [], _ => True.intro
  | [], _ :: _, h => h.elim
  | none :: _, [], h => h.elim
  | some _ :: _, [], h => h.elim
  | none :: r, _ :: s, h => EnR.le (env := r) (σ := s) l h
  | some d :: r, x :: s, ⟨⟨v, e, h⟩, g⟩ => ⟨⟨v, e, h.le l⟩, EnR.le l g⟩
theorem EnR.get {K : PySem.W.Frag} {w : Wd} : ∀ {env : En} {σ : St} {i : Nat} {d : D}, EnR K w env σ → env[i]? = some (some d) → ∃ v, σ[i]? = some (some v) ∧ Rep K w v d
  | [], _, _, _, _, e => by simp at e
  | none :: _, [], _, _, h, _ => h.elim
  | some _ :: _, [], _, _, h, _ => h.elim
  | none :: r, x :: s, 0, d, h, e => by simp at e
  | none :: r, x :: s, i + 1, d, h, e => by
    obtain ⟨v, a, b⟩ := EnR.get (env := r) (σ := s) (i := i) h (by simpa using e)
    exact ⟨v, by simpa using a, b⟩
  | some d' :: r, x :: s, 0, d, ⟨⟨v, e1, h⟩, _⟩, e => by
    have e2 : d' = d := by simpa using e
    subst e2
    subst e1
    exact ⟨v, rfl, h⟩
  | some d' :: r, x :: s, i + 1, d, ⟨_, g⟩, e => by
    obtain ⟨v, a, b⟩ := EnR.get (env := r) (σ := s) (i := i) g (by simpa using e)
    exact ⟨v, by simpa using a, b⟩
theorem EnR.set {K : PySem.W.Frag} {w : Wd} {v : V} {d : D} (r : Rep K w v d) : ∀ {env : En} {σ : St} (i : Nat), EnR K w env σ → EnR K w (env.set i (some d)) (σ.set i (some v))
  | [], [], _, _ => True.intro
  | [], _ :: _, _, h => h.elim
  | none :: _, [], _, h => h.elim
  | some _ :: _, [], _, h => h.elim
  | none :: t, x :: s, 0, h => ⟨⟨v, rfl, r⟩, h⟩
  | none :: t, x :: s, i + 1, h => EnR.set (env := t) (σ := s) r i h
  | some d' :: t, x :: s, 0, ⟨_, g⟩ => ⟨⟨v, rfl, r⟩, g⟩
  | some d' :: t, x :: s, i + 1, ⟨h, g⟩ => ⟨h, EnR.set r i g⟩
/-- a slot is emptied, or anything is put where the mirror knows nothing -/
theorem EnR.unset {K : PySem.W.Frag} {w : Wd} {o : Option V} : ∀ {env : En} {σ : St} (i : Nat), EnR K w env σ → EnR K w (env.set i none) (σ.set i o)
  | [], [], _, _ => True.intro
  | [], _ :: _, _, h => h.elim
  | none :: _, [], _, h => h.elim
  | some _ :: _, [], _, h => h.elim
  | none :: t, x :: s, 0, h => h
  | none :: t, x :: s, i + 1, h => EnR.unset (env := t) (σ := s) i h
  | some d' :: t, x :: s, 0, ⟨_, g⟩ => g
  | some d' :: t, x :: s, i + 1, ⟨h, g⟩ => ⟨h, EnR.unset i g⟩
def wipeE (env : En) : List Nat → En
  | [] => env
  | v :: vs => (wipeE env vs).set v none
theorem EnR.wipe {K : PySem.W.Frag} {w : Wd} {env : En} {σ : St} (h : EnR K w env σ) : ∀ vs : List Nat, EnR K w (wipeE env vs) (L2.wipe σ vs)
  | [] => h
  | v :: vs => (EnR.wipe h vs).unset v

/-! ### the context -/
structure Cy (X : Cx) where
  W : WX
  tk : Takes X W
  po : PassesOwn (model X.prog X.w) X.A X.env X.xe
  B : Wd → MS → Hp → Prop
  st : ∀ {w S H w' S' H'}, B w S H → Go w S H w' S' H' → B w' S' H'

def ExR (K : PySem.W.Frag) (mg : Str → Option Value) (w : Wd) (S : MS) (H : Hp) (e : Exn) (cls : Value) (dx : Option Addr) : Prop :=
  ∃ C a fvs, cls = .ref C ∧ mg e.cls.nm = some (.ref C) ∧ dx = some a ∧ Fo w S H a (.xd fvs) ∧ RepF K w fvs e.cls.fl e.fs
/-- what is wanted behind a piece that gives an α -/
def Po {α β : Type} (K : PySem.W.Frag) (mg : Str → Option Value) (R : Wd → MS → Hp → β → α → Prop) (W : Value → Option Addr → Hp → Prop) (w : Wd) (S : MS) (H : Hp) (Q : β → Hp → Prop) : Option (Out α) → Prop
  | none => False
  | some (.ok d S') => ∀ w' H' v, Go w S H w' S' H' → SI K mg w' S' H' → R w' S' H' v d → Q v H'
  | some (.exc e S') => ∀ w' H' cls dx, Go w S H w' S' H' → SI K mg w' S' H' → ExR K mg w' S' H' e cls dx → W cls dx H'
theorem Po.go {α β : Type} {K : PySem.W.Frag} {mg : Str → Option Value} {R : Wd → MS → Hp → β → α → Prop} {W : Value → Option Addr → Hp → Prop} {w w1 : Wd} {S S1 : MS} {H H1 : Hp} {Q : β → Hp → Prop} {o : Option (Out α)}
    (p : Po K mg R W w S H Q o) (g : Go w S H w1 S1 H1) : Po K mg R W w1 S1 H1 Q o := by
  cases o with
  | none => exact p
  | some r =>
    cases r with
    | ok d S' => exact fun w' H' v g2 => p w' H' v (g.trans g2)
    | exc e S' => exact fun w' H' cls dx g2 => p w' H' cls dx (g.trans g2)
theorem Po.imp {α β : Type} {K : PySem.W.Frag} {mg : Str → Option Value} {R : Wd → MS → Hp → β → α → Prop} {W : Value → Option Addr → Hp → Prop} {w : Wd} {S : MS} {H : Hp} {Q Q' : β → Hp → Prop} {o : Option (Out α)}
    (p : Po K mg R W w S H Q o) (h : ∀ v H, Q v H → Q' v H) : Po K mg R W w S H Q' o := by
  cases o with
  | none => exact p
  | some r =>
    cases r with
    | ok d S' => exact fun w' H' v g si r => h _ _ (p w' H' v g si r)
    | exc e S' => exact p
abbrev RV' (K : PySem.W.Frag) : Wd → MS → Hp → V → D → Prop := fun w _ _ v d => Rep K w v d
abbrev RB : Wd → MS → Hp → Bool → Bool → Prop := fun _ _ _ b c => b = c
abbrev RA (K : PySem.W.Frag) : Wd → MS → Hp → List V → List D → Prop := fun w _ _ vs ds => RepL K w vs ds

section
variable {X : Cx}
/-- the state that a piece meets -/
structure Me (X : Cx) (C : Cy X) (w : Wd) (S : MS) (env : En) (σ : St) (H : Hp) : Prop where
  si : SI X.K X.mg w S H
  en : EnR X.K w env σ
  b : C.B w S H
theorem Me.go {C : Cy X} {w w' : Wd} {S S' : MS} {env : En} {σ : St} {H H' : Hp} (m : Me X C w S env σ H) (g : Go w S H w' S' H') (si : SI X.K X.mg w' S' H') : Me X C w' S' env σ H' := ⟨si, m.en.le g.le, C.st m.b g⟩
def tE (C : Cy X) (m : ME) : TE := fun σ H Q => ∃ w S env, Me X C w S env σ H ∧ Po X.K X.mg (RV' X.K) (fun c d H => C.W c d σ H) w S H Q (m env S)
def tT (C : Cy X) (m : MT) : TT := fun σ H Q => ∃ w S env, Me X C w S env σ H ∧ Po X.K X.mg RB (fun c d H => C.W c d σ H) w S H Q (m env S)
def tA (C : Cy X) (m : MA) : TA := fun σ H Q => ∃ w S env, Me X C w S env σ H ∧ Po X.K X.mg (RA X.K) (fun c d H => C.W c d σ H) w S H Q (m env S)
end
def JE (X : Cx) (C : Cy X) (e : Expr) (m : ME) : Prop := PE X e (tE C m)
def JT (X : Cx) (C : Cy X) (e : Expr) (m : MT) : Prop := PT X e (tT C m)
def JW (X : Cx) (C : Cy X) (e : Expr) (m : MT) : Prop := PW X e (tT C m)
def JA (X : Cx) (C : Cy X) (es : List Expr) (m : MA) : Prop := PA X es (tA C m)

section
variable {X : Cx} {C : Cy X}
theorem PE.weak {e : Expr} {t t' : TE} (h : PE X e t) (k : ∀ σ H Q, t' σ H Q → t σ H Q) : PE X e t' := ⟨fun pins s σ H Q I q => h.run pins s σ H Q I (k σ H Q q)⟩
theorem PT.weak {e : Expr} {t t' : TT} (h : PT X e t) (k : ∀ σ H Q, t' σ H Q → t σ H Q) : PT X e t' := ⟨fun pins s σ H Q I q => h.run pins s σ H Q I (k σ H Q q)⟩
theorem PW.weak {e : Expr} {t t' : TT} (h : PW X e t) (k : ∀ σ H Q, t' σ H Q → t σ H Q) : PW X e t' := ⟨fun wh pins s σ H Q I q => h.run wh pins s σ H Q I (k σ H Q q)⟩
theorem PA.weak {es : List Expr} {t t' : TA} (h : PA X es t) (k : ∀ σ H Q, t' σ H Q → t σ H Q) : PA X es t' := ⟨fun pos pins s σ H Q I q => h.run pos pins s σ H Q I (k σ H Q q)⟩

/-- one piece, then another -/
theorem po_bnd {α β γ δ : Type} {Ra : Wd → MS → Hp → γ → α → Prop} {Rb : Wd → MS → Hp → δ → β → Prop} {w : Wd} {S : MS} {env : En} {σ : St} {H : Hp} {W : Value → Option Addr → Hp → Prop} {Q : δ → Hp → Prop} {m : M α} {f : α → M β} (me : Me X C w S env σ H)
    (h : Po X.K X.mg Rb W w S H Q (bnd m f S)) {Q' : γ → Hp → Prop}
    (k : ∀ w' S' H' v d, Me X C w' S' env σ H' → Ra w' S' H' v d → Go w S H w' S' H' → Po X.K X.mg Rb W w' S' H' Q (f d S') → Q' v H') :
    Po X.K X.mg Ra W w S H Q' (m S) := by
  unfold bnd at h
  cases e : m S with
  | none => rw [e] at h; exact h
  | some r =>
    rw [e] at h
    cases r with
    | exc ex S' => exact h
    | ok d S' => exact fun w' H' v g si r => k w' S' H' v d (me.go g si) r g (h.go g)

/-! ### names and constants -/
def mV (i : Nat) : ME := fun env S => match env[i]? with
  | some (some d) => some (.ok d S)
  | _ => none
def mK (d : D) : ME := fun _ S => some (.ok d S)
theorem j_var {i : Nat} {x : Str} {pos : Pos} (h : PE X (.Name x pos) (tVar i)) : JE X C (.Name x pos) (mV i) := PE.weak h fun σ H Q ⟨w, S, env, me, p⟩ => by
  unfold mV at p
  split at p
  · rename_i d e
    obtain ⟨v, e1, r⟩ := me.en.get e
    exact ⟨v, e1, p w H v (Go.refl _ _ _) me.si r⟩
  · exact p.elim
theorem j_k {e : Expr} {v : V} {d : D} (h : PE X e (tC v)) (r : ∀ w, Rep X.K w v d) : JE X C e (mK d) := PE.weak h fun σ H Q ⟨w, S, env, me, p⟩ => p w H v (Go.refl _ _ _) me.si (r w)
theorem j_int {i j pos} : JE X C (.Constant (.int i) j pos) (mK (.int i)) := j_k pe_int fun _ => .int i
theorem j_bl {b j pos} : JE X C (.Constant (.bool b) j pos) (mK (.bl b)) := j_k pe_bl fun _ => .bl b
theorem j_non {j pos} : JE X C (.Constant .none j pos) (mK .non) := j_k pe_non fun _ => .non
theorem j_str {x j pos} : JE X C (.Constant (.str x) j pos) (mK (.str x)) := j_k pe_str fun _ => .str x

/-! ### operators -/
def mOp (f : D → D → M D) (a b : ME) : ME := fun env => bnd (a env) fun x => bnd (b env) fun y => f x y
def mOp1 (f : D → M D) (a : ME) : ME := fun env => bnd (a env) f
/-- an operation on values: the mirror's f is r; it raises nothing -/
def NoX : Value → Option Addr → Hp → Prop := fun _ _ _ => True
def Op2 (X : Cx) (r : R2) (f : D → D → M D) : Prop := ∀ w S H x y d e (Q : VK) W, SI X.K X.mg w S H → Rep X.K w x d → Rep X.K w y e → Po X.K X.mg (RV' X.K) W w S H Q (f d e S) → r x y H Q
def Op1 (X : Cx) (r : V → Hp → VK → Prop) (f : D → M D) : Prop := ∀ w S H x d (Q : VK) W, SI X.K X.mg w S H → Rep X.K w x d → Po X.K X.mg (RV' X.K) W w S H Q (f d S) → r x H Q
def OpA (X : Cx) (r : List V → Hp → VK → Prop) (f : List D → M D) : Prop := ∀ w S H xs ds (Q : VK) W, SI X.K X.mg w S H → RepL X.K w xs ds → Po X.K X.mg (RV' X.K) W w S H Q (f ds S) → r xs H Q
theorem op2_go {a b : ME} {f : D → D → M D} {r : R2} (hf : Op2 X r f) {σ : St} {H : Hp} {Q : VK} (h : tE C (mOp f a b) σ H Q) : tOp r (tE C a) (tE C b) σ H Q := by
  obtain ⟨w, S, env, me, p⟩ := h
  refine ⟨w, S, env, me, po_bnd me p fun w1 S1 H1 v d me1 rv g1 p1 => ?_⟩
  refine ⟨w1, S1, env, me1, po_bnd me1 p1 fun w2 S2 H2 u e me2 ru g2 p2 => ?_⟩
  exact hf w2 S2 H2 v u d e Q _ me2.si (rv.le g2.le) ru p2
theorem op1_go {a : ME} {f : D → M D} {r : V → Hp → VK → Prop} (hf : Op1 X r f) {σ : St} {H : Hp} {Q : VK} (h : tE C (mOp1 f a) σ H Q) : tE C a σ H fun x H1 => r x H1 Q := by
  obtain ⟨w, S, env, me, p⟩ := h
  exact ⟨w, S, env, me, po_bnd me p fun w1 S1 H1 v d me1 rv g1 p1 => hf w1 S1 H1 v d Q _ me1.si rv p1⟩
theorem j_op {op : Operator} {r : R2} {f : D → D → M D} {a b : Expr} {pos : Pos} {ma mb : ME} (ho : OpR X (binaryOp op) r) (hf : Op2 X r f) (ha : JE X C a ma) (hb : JE X C b mb) : JE X C (.BinOp a op b pos) (mOp f ma mb) :=
  PE.weak (pe_op ho ha hb) fun _ _ _ h => op2_go hf h
theorem j_un {op : UnaryOp} {r : V → Hp → VK → Prop} {f : D → M D} {a : Expr} {pos : Pos} {ma : ME} (ho : UnR X (unaryOp op) r) (hf : Op1 X r f) (ha : JE X C a ma) : JE X C (.UnaryOp op a pos) (mOp1 f ma) :=
  PE.weak (pe_un ho ha) fun _ _ _ h => op1_go hf h
theorem j_cmp {op : CmpOp} {r : R2} {f : D → D → M D} {a b : Expr} {pos : Pos} {ma mb : ME} (ho : OpR X (compareOp op) r) (hf : Op2 X r f) (ha : JE X C a ma) (hb : JE X C b mb) (hm : behindInMarks op b = false) : JE X C (.Compare a [op] [b] pos) (mOp f ma mb) :=
  PE.weak (pe_cmpR ho ha hb hm) fun _ _ _ h => op2_go hf h
/-- a value as a test -/
def mB (m : ME) : MT := fun env => bnd (m env) fun d => match d with
  | .bl b => ret b
  | _ => stuck
theorem tb_go {m : ME} {t : TE} (h : ∀ σ H Q, tE C m σ H Q → t σ H Q) {σ : St} {H : Hp} {Q : Bool → Hp → Prop} (p : tT C (mB m) σ H Q) : t σ H fun x H' => ∃ k, x = .bl k ∧ Q k H' := by
  obtain ⟨w, S, env, me, p⟩ := p
  refine h _ _ _ ⟨w, S, env, me, po_bnd me p fun w1 S1 H1 v d me1 rv g1 p1 => ?_⟩
  cases d with
  | bl b =>
    cases rv
    exact ⟨b, rfl, p1 w1 H1 b (Go.refl _ _ _) me1.si rfl⟩
  | _ => exact p1.elim
theorem jt_cmp {op : CmpOp} {r : R2} {f : D → D → M D} {a b : Expr} {pos : Pos} {ma mb : ME} (ho : OpR X (compareOp op) r) (hf : Op2 X r f) (ha : JE X C a ma) (hb : JE X C b mb) (hm : behindInMarks op b = false) : JT X C (.Compare a [op] [b] pos) (mB (mOp f ma mb)) :=
  PT.weak (pt_cmpR ho ha hb hm) fun _ _ _ h => tb_go (fun _ _ _ h => op2_go hf h) h
theorem jt_val {e : Expr} {m : ME} (h : JE X C e m) (he : ∀ whole, isTrue e X.env whole = (do let v ← whole; standAt e.pos; holding [v] (truthy v)) := by intro _; rfl) : JT X C e (mB m) :=
  PT.weak (pt_val h he) fun _ _ _ p => tb_go (fun _ _ _ h => h) p
/-- a op1 b op2 c -/
def mChain (f g : D → D → M D) (a b c : ME) : ME := fun env => bnd (a env) fun x => bnd (b env) fun y => bnd (f x y) fun z => match z with
  | .bl true => bnd (c env) fun u => g y u
  | .bl false => ret (.bl false)
  | _ => stuck
theorem chain_go {f g : D → D → M D} {a b c : ME} {r r' : R2} (hf : Op2 X r f) (hg : Op2 X r' g) {σ : St} {H : Hp} {Q : VK} (h : tE C (mChain f g a b c) σ H Q) : tChain r r' (tE C a) (tE C b) (tE C c) σ H Q := by
  obtain ⟨w, S, env, me, p⟩ := h
  refine ⟨w, S, env, me, po_bnd me p fun w1 S1 H1 v d me1 rv g1 p1 => ?_⟩
  refine ⟨w1, S1, env, me1, po_bnd me1 p1 fun w2 S2 H2 u e me2 ru g2 p2 => ?_⟩
  refine hf w2 S2 H2 v u d e _ (fun c d H => C.W c d σ H) me2.si (rv.le g2.le) ru (po_bnd me2 p2 fun w3 S3 H3 z k me3 rz g3 p3 => ?_)
  cases k with
  | bl k =>
    cases rz
    cases k with
    | true =>
      refine ⟨true, rfl, ?_⟩
      rw [if_pos rfl]
      refine ⟨w3, S3, env, me3, po_bnd me3 p3 fun w4 S4 H4 u4 e4 me4 ru4 g4 p4 => ?_⟩
      exact hg w4 S4 H4 u u4 e e4 Q _ me4.si (ru.le (g3.le.trans g4.le)) ru4 p4
    | false =>
      refine ⟨false, rfl, ?_⟩
      rw [if_neg Bool.false_ne_true]
      exact p3 w3 H3 (.bl false) (Go.refl _ _ _) me3.si (.bl false)
  | _ => exact p3.elim
theorem j_chain {op op' : CmpOp} {r r' : R2} {f g : D → D → M D} {a b c : Expr} {pos : Pos} {ma mb mc : ME} (ho : OpR X (compareOp op) r) (ho' : OpR X (compareOp op') r') (hf : Op2 X r f) (hg : Op2 X r' g) (ha : JE X C a ma) (hb : JE X C b mb) (hc : JE X C c mc)
    (hm : lastMarks [op, op'] [b, c] = false := by with_unfolding_all rfl) : JE X C (.Compare a [op, op'] [b, c] pos) (mChain f g ma mb mc) :=
  PE.weak (pe_chain ho ho' ha hb hc hm) fun _ _ _ h => chain_go hf hg h
theorem jt_chain {op op' : CmpOp} {r r' : R2} {f g : D → D → M D} {a b c : Expr} {pos : Pos} {ma mb mc : ME} (ho : OpR X (compareOp op) r) (ho' : OpR X (compareOp op') r') (hf : Op2 X r f) (hg : Op2 X r' g) (ha : JE X C a ma) (hb : JE X C b mb) (hc : JE X C c mc)
    (hm : lastMarks [op, op'] [b, c] = false := by with_unfolding_all rfl) : JT X C (.Compare a [op, op'] [b, c] pos) (mB (mChain f g ma mb mc)) :=
  PT.weak (pt_chain ho ho' ha hb hc hm) fun _ _ _ h => tb_go (fun _ _ _ h => chain_go hf hg h) h

/-! ### and, or, not, if -/
def mAnd (a b : MT) : MT := fun env => bnd (a env) fun c => match c with
  | true => b env
  | false => ret false
def mOr (a b : MT) : MT := fun env => bnd (a env) fun c => match c with
  | true => ret true
  | false => b env
def mNot (a : MT) : MT := fun env => bnd (a env) fun c => ret (!c)
def mIf (t : MT) (a b : ME) : ME := fun env => bnd (t env) fun c => match c with
  | true => a env
  | false => b env
variable {a b c : Expr} {rest : List Expr} {pos : Pos} {ma mb mc : ME} {ta tb : MT}
theorem jw_and1 (ha : JT X C a ta) : JW X C (.BoolOp .And [a] pos) ta := pw_and1 ha
theorem jw_or1 (ha : JT X C a ta) : JW X C (.BoolOp .Or [a] pos) ta := pw_or1 ha
theorem jw_and (ha : JT X C a ta) (hb : JW X C (.BoolOp .And (b :: rest) pos) tb) : JW X C (.BoolOp .And (a :: b :: rest) pos) (mAnd ta tb) := PW.weak (pw_and ha hb) fun σ H Q ⟨w, S, env, me, p⟩ => by
  refine ⟨w, S, env, me, po_bnd me p fun w1 S1 H1 v d me1 rv g1 p1 => ?_⟩
  cases (show v = d from rv)
  cases v with
  | true =>
    rw [if_pos rfl]
    exact ⟨w1, S1, env, me1, p1⟩
  | false =>
    rw [if_neg Bool.false_ne_true]
    exact p1 w1 H1 false (Go.refl _ _ _) me1.si rfl
theorem jw_or (ha : JT X C a ta) (hb : JW X C (.BoolOp .Or (b :: rest) pos) tb) : JW X C (.BoolOp .Or (a :: b :: rest) pos) (mOr ta tb) := PW.weak (pw_or ha hb) fun σ H Q ⟨w, S, env, me, p⟩ => by
  refine ⟨w, S, env, me, po_bnd me p fun w1 S1 H1 v d me1 rv g1 p1 => ?_⟩
  cases (show v = d from rv)
  cases v with
  | true =>
    rw [if_pos rfl]
    exact p1 w1 H1 true (Go.refl _ _ _) me1.si rfl
  | false =>
    rw [if_neg Bool.false_ne_true]
    exact ⟨w1, S1, env, me1, p1⟩
theorem jt_w {e : Expr} {t : MT} (h : JW X C e t) : JT X C e t := PW.pt h
theorem jt_not (ha : JT X C a ta) : JT X C (.UnaryOp .Not a pos) (mNot ta) := PT.weak (pt_not ha) fun σ H Q ⟨w, S, env, me, p⟩ =>
  ⟨w, S, env, me, po_bnd me p fun w1 S1 H1 v d me1 rv g1 p1 => by
    cases (show v = d from rv)
    exact p1 w1 H1 _ (Go.refl _ _ _) me1.si rfl⟩
def mTV (t : MT) : ME := fun env => bnd (t env) fun b => ret (.bl b)
/-- as values: all but the last are bools -/
def mAndV (a b : ME) : ME := fun env => bnd (a env) fun x => match x with
  | .bl true => b env
  | .bl false => ret (.bl false)
  | _ => stuck
def mOrV (a b : ME) : ME := fun env => bnd (a env) fun x => match x with
  | .bl true => ret (.bl true)
  | .bl false => b env
  | _ => stuck
def mNotV (a : ME) : ME := fun env => bnd (a env) fun x => match x with
  | .bl k => ret (.bl (!k))
  | _ => stuck
theorem j_one {op} (h : JE X C a ma) : JE X C (.BoolOp op [a] pos) ma := pe_one h
theorem j_and (ha : JE X C a ma) (hb : JE X C (.BoolOp .And (b :: rest) pos) mb) : JE X C (.BoolOp .And (a :: b :: rest) pos) (mAndV ma mb) := PE.weak (pe_and ha hb) fun σ H Q ⟨w, S, env, me, p⟩ => by
  refine ⟨w, S, env, me, po_bnd me p fun w1 S1 H1 v d me1 rv g1 p1 => ?_⟩
  cases d with
  | bl k =>
    cases rv
    cases k with
    | true =>
      refine ⟨true, rfl, ?_⟩
      rw [if_pos rfl]
      exact ⟨w1, S1, env, me1, p1⟩
    | false =>
      refine ⟨false, rfl, ?_⟩
      rw [if_neg Bool.false_ne_true]
      exact p1 w1 H1 _ (Go.refl _ _ _) me1.si (.bl false)
  | _ => exact p1.elim
theorem j_or (ha : JE X C a ma) (hb : JE X C (.BoolOp .Or (b :: rest) pos) mb) : JE X C (.BoolOp .Or (a :: b :: rest) pos) (mOrV ma mb) := PE.weak (pe_or ha hb) fun σ H Q ⟨w, S, env, me, p⟩ => by
  refine ⟨w, S, env, me, po_bnd me p fun w1 S1 H1 v d me1 rv g1 p1 => ?_⟩
  cases d with
  | bl k =>
    cases rv
    cases k with
    | true =>
      refine ⟨true, rfl, ?_⟩
      rw [if_pos rfl]
      exact p1 w1 H1 _ (Go.refl _ _ _) me1.si (.bl true)
    | false =>
      refine ⟨false, rfl, ?_⟩
      rw [if_neg Bool.false_ne_true]
      exact ⟨w1, S1, env, me1, p1⟩
  | _ => exact p1.elim
theorem j_not (ha : JE X C a ma) : JE X C (.UnaryOp .Not a pos) (mNotV ma) := PE.weak (pe_not ha) fun σ H Q ⟨w, S, env, me, p⟩ => by
  refine ⟨w, S, env, me, po_bnd me p fun w1 S1 H1 v d me1 rv g1 p1 => ?_⟩
  cases d with
  | bl k =>
    cases rv
    exact ⟨k, rfl, p1 w1 H1 _ (Go.refl _ _ _) me1.si (.bl _)⟩
  | _ => exact p1.elim
theorem j_if (hc : JT X C c ta) (ha : JE X C a ma) (hb : JE X C b mb) : JE X C (.IfExp c a b pos) (mIf ta ma mb) := PE.weak (pe_ifExp hc ha hb) fun σ H Q ⟨w, S, env, me, p⟩ => by
  refine ⟨w, S, env, me, po_bnd me p fun w1 S1 H1 v d me1 rv g1 p1 => ?_⟩
  cases (show v = d from rv)
  cases v with
  | true =>
    rw [if_pos rfl]
    exact ⟨w1, S1, env, me1, p1⟩
  | false =>
    rw [if_neg Bool.false_ne_true]
    exact ⟨w1, S1, env, me1, p1⟩

/-! ### lists of arguments, displays -/
def mNil : MA := fun _ => ret []
def mCons (a : ME) (r : MA) : MA := fun env => bnd (a env) fun x => bnd (r env) fun xs => ret (x :: xs)
theorem ja_nil : JA X C [] mNil := PA.weak pa_nil fun σ H Q ⟨w, S, env, me, p⟩ => p w H [] (Go.refl _ _ _) me.si .nil
theorem ja_cons {e : Expr} {es : List Expr} {m : ME} {ms : MA} (ha : JE X C e m) (hr : JA X C es ms) (hs : starEach (e :: es) X.env = (false, eval e X.env) :: starEach es X.env := by rfl) : JA X C (e :: es) (mCons m ms) := PA.weak (pa_cons ha hr hs) fun σ H Q ⟨w, S, env, me, p⟩ => by
  refine ⟨w, S, env, me, po_bnd me p fun w1 S1 H1 v d me1 rv g1 p1 => ?_⟩
  refine ⟨w1, S1, env, me1, po_bnd me1 p1 fun w2 S2 H2 vs ds me2 rvs g2 p2 => ?_⟩
  exact p2 w2 H2 (v :: vs) (Go.refl _ _ _) me2.si (.cons (rv.le g2.le) rvs)
/-- a new tuple; a list that never changes; a list that may -/
def mkT (xs : List D) : M D := fun S => if xs.length ≤ 16777216 then some (.ok (.tup xs) S) else none
def mkL (xs : List D) : M D := fun S => if xs.length ≤ 16777216 then some (.ok (.lst xs) S) else none
def mkO (xs : List D) : M D := fun S => if xs.length ≤ 16777216 then some (.ok (.obj S.nx) (S.add (.lst xs))) else none
def mTup (a : MA) : ME := fun env => bnd (a env) mkT
def mLst (a : MA) : ME := fun env => bnd (a env) mkL
def mObj (a : MA) : ME := fun env => bnd (a env) mkO
/-- a new object at any free place -/
theorem new_t {w : Wd} {S : MS} {H : Hp} {xs : List V} {ds : List D} {W : Value → Option Addr → Hp → Prop} {Q : VK} (si : SI X.K X.mg w S H) (r : RepL X.K w xs ds) (p : Po X.K X.mg (RV' X.K) W w S H Q (mkT ds S)) :
    xs.length ≤ sizeLine ∧ ∀ a, H a = none → Q (.ref a) (upd H a (.tup xs)) := by
  unfold mkT at p
  split at p
  · rename_i hz
    refine ⟨by rw [r.length, sizeLine_eq]; exact hz, fun a ha => ?_⟩
    obtain ⟨s1, g1⟩ := si.frz ha (.tup xs)
    exact p _ _ _ g1 s1 (.tup (.inl (.inl upd_same)) (r.le g1.le))
  · exact p.elim
theorem new_l {w : Wd} {S : MS} {H : Hp} {xs : List V} {ds : List D} {W : Value → Option Addr → Hp → Prop} {Q : VK} (si : SI X.K X.mg w S H) (r : RepL X.K w xs ds) (p : Po X.K X.mg (RV' X.K) W w S H Q (mkL ds S)) :
    xs.length ≤ sizeLine ∧ ∀ a, H a = none → Q (.ref a) (upd H a (.lst xs)) := by
  unfold mkL at p
  split at p
  · rename_i hz
    refine ⟨by rw [r.length, sizeLine_eq]; exact hz, fun a ha => ?_⟩
    obtain ⟨s1, g1⟩ := si.frz ha (.lst xs)
    exact p _ _ _ g1 s1 (.lst (.inl upd_same) (r.le g1.le))
  · exact p.elim
theorem new_o {w : Wd} {S : MS} {H : Hp} {xs : List V} {ds : List D} {W : Value → Option Addr → Hp → Prop} {Q : VK} (si : SI X.K X.mg w S H) (r : RepL X.K w xs ds) (p : Po X.K X.mg (RV' X.K) W w S H Q (mkO ds S)) :
    xs.length ≤ sizeLine ∧ ∀ a, H a = none → Q (.ref a) (upd H a (.lst xs)) := by
  unfold mkO at p
  split at p
  · rename_i hz
    refine ⟨by rw [r.length, sizeLine_eq]; exact hz, fun a ha => ?_⟩
    obtain ⟨s1, g1⟩ := si.add (o := .lst ds) (ho := .lst xs) ha r
    refine p _ _ _ g1 s1 ?_
    have e : a = (fun n => if n = w.m then a else w.φ n) S.nx := by
      show a = if S.nx = w.m then a else w.φ S.nx
      rw [if_pos si.nx]
    have z := Rep.obj (K := X.K) (w := ⟨fun n => if n = w.m then a else w.φ n, w.F, w.m + 1⟩) (n := S.nx) (by show S.nx < w.m + 1; rw [si.nx]; exact Nat.lt_succ_self _)
    show Rep X.K _ (.ref a) (.obj S.nx)
    have z2 : (fun n => if n = w.m then a else w.φ n) S.nx = a := e.symm
    rw [show (⟨fun n => if n = w.m then a else w.φ n, w.F, w.m + 1⟩ : Wd).φ S.nx = a from z2] at z
    exact z
  · exact p.elim
theorem disp_go {ms : MA} {mk : List D → M D} {o : List V → HO} (hk : ∀ {w : Wd} {S : MS} {H : Hp} {xs : List V} {ds : List D} {W : Value → Option Addr → Hp → Prop} {Q : VK}, SI X.K X.mg w S H → RepL X.K w xs ds → Po X.K X.mg (RV' X.K) W w S H Q (mk ds S) →
    xs.length ≤ sizeLine ∧ ∀ a, H a = none → Q (.ref a) (upd H a (o xs))) {σ : St} {H : Hp} {Q : VK} (h : tE C (fun env => bnd (ms env) mk) σ H Q) : tA C ms σ H fun xs H1 => xs.length ≤ sizeLine ∧ ∀ p, H1 p = none → Q (.ref p) (upd H1 p (o xs)) := by
  obtain ⟨w, S, env, me, p⟩ := h
  exact ⟨w, S, env, me, po_bnd me p fun w1 S1 H1 v d me1 rv g1 p1 => hk me1.si rv p1⟩
theorem j_tup {es : List Expr} {ms : MA} {x1} (h : JA X C es ms) : JE X C (.Tuple es x1 pos) (mTup ms) := PE.weak (pe_tup h) fun _ _ _ h => disp_go new_t h
theorem j_lst {es : List Expr} {ms : MA} (h : JA X C es ms) : JE X C (.List es pos) (mLst ms) := PE.weak (pe_lst h) fun _ _ _ h => disp_go new_l h
theorem j_obj {es : List Expr} {ms : MA} (h : JA X C es ms) : JE X C (.List es pos) (mObj ms) := PE.weak (pe_lst h) fun _ _ _ h => disp_go new_o h
end
end Mi
namespace Mi
open PySem L2

/-! ### statements -/
/-- an expression, then a flow -/
def stE {α : Type} (m : M α) (env : En) (f : α → MS → Option Fl) : MS → Option Fl := fun S => match m S with
  | none => none
  | some (.exc e S') => some (.exc e env S')
  | some (.ok a S') => f a S'
def PoS (K : PySem.W.Frag) (mg : Str → Option Value) (W : WX) (w : Wd) (S : MS) (H : Hp) (D : Ends) : Option Fl → Prop
  | none => False
  | some (.nx env' S') => ∀ w' H' σ', Go w S H w' S' H' → SI K mg w' S' H' → EnR K w' env' σ' → D.nx σ' H'
  | some (.bk env' S') => ∀ w' H' σ', Go w S H w' S' H' → SI K mg w' S' H' → EnR K w' env' σ' → D.bk σ' H'
  | some (.ct env' S') => ∀ w' H' σ', Go w S H w' S' H' → SI K mg w' S' H' → EnR K w' env' σ' → D.ct σ' H'
  | some (.rt d S') => ∀ w' H' v, Go w S H w' S' H' → SI K mg w' S' H' → Rep K w' v d → D.rt v H'
  | some (.exc e env' S') => ∀ w' H' σ' cls dx, Go w S H w' S' H' → SI K mg w' S' H' → EnR K w' env' σ' → ExR K mg w' S' H' e cls dx → W cls dx σ' H'
theorem PoS.go {K : PySem.W.Frag} {mg : Str → Option Value} {W : WX} {w w1 : Wd} {S S1 : MS} {H H1 : Hp} {D : Ends} {o : Option Fl} (p : PoS K mg W w S H D o) (g : Go w S H w1 S1 H1) : PoS K mg W w1 S1 H1 D o := by
  cases o with
  | none => exact p
  | some r =>
    cases r with
    | nx env' S' => exact fun w' H' σ' g2 => p w' H' σ' (g.trans g2)
    | bk env' S' => exact fun w' H' σ' g2 => p w' H' σ' (g.trans g2)
    | ct env' S' => exact fun w' H' σ' g2 => p w' H' σ' (g.trans g2)
    | rt d S' => exact fun w' H' v g2 => p w' H' v (g.trans g2)
    | exc e env' S' => exact fun w' H' σ' cls dx g2 => p w' H' σ' cls dx (g.trans g2)
section
variable {X : Cx}
def tS (C : Cy X) (m : MSt) : TS := fun D σ H => ∃ w S env, Me X C w S env σ H ∧ PoS X.K X.mg C.W w S H D (m env S)
end
def JS (X : Cx) (C : Cy X) (st : Stmt) (m : MSt) : Prop := PS X st (tS C m)
def JB (X : Cx) (C : Cy X) (st : List Stmt) (m : MSt) : Prop := PSs X st (tS C m)
abbrev MG := D → En → MS → Option (En × MS)
section
variable {X : Cx}
def tG (C : Cy X) (g : MG) : TG := fun v σ H Q => ∃ w S env d, Me X C w S env σ H ∧ Rep X.K w v d ∧ match g d env S with
  | none => False
  | some (env', S') => ∀ w' H' σ', Go w S H w' S' H' → SI X.K X.mg w' S' H' → EnR X.K w' env' σ' → Q σ' H'
abbrev MGs := List D → En → MS → Option (En × MS)
def tGs (C : Cy X) (g : MGs) : TGs := fun vs σ H Q => ∃ w S env ds, Me X C w S env σ H ∧ RepL X.K w vs ds ∧ match g ds env S with
  | none => False
  | some (env', S') => ∀ w' H' σ', Go w S H w' S' H' → SI X.K X.mg w' S' H' → EnR X.K w' env' σ' → Q σ' H'
end
def JG (X : Cx) (C : Cy X) (e : Expr) (g : MG) : Prop := PG X e (tG C g)
def JGs (X : Cx) (C : Cy X) (es : List Expr) (g : MGs) : Prop := PGs X es (tGs C g)
section
variable {X : Cx} {C : Cy X}
theorem PS.weak {st : Stmt} {t t' : TS} (h : PS X st t) (k : ∀ D σ H, t' D σ H → t D σ H) : PS X st t' := ⟨fun pins s σ H D I q => h.run pins s σ H D I (k D σ H q)⟩
theorem PSs.weak {st : List Stmt} {t t' : TS} (h : PSs X st t) (k : ∀ D σ H, t' D σ H → t D σ H) : PSs X st t' := ⟨fun pins s σ H D I q => h.run pins s σ H D I (k D σ H q)⟩
theorem PG.weak {e : Expr} {t t' : TG} (h : PG X e t) (k : ∀ v σ H Q, t' v σ H Q → t v σ H Q) : PG X e t' := ⟨fun pins s σ H v u Q I r q => h.run pins s σ H v u Q I r (k v σ H Q q)⟩
theorem PGs.weak {e : List Expr} {t t' : TGs} (h : PGs X e t) (k : ∀ v σ H Q, t' v σ H Q → t v σ H Q) : PGs X e t' := ⟨fun pins s σ H v u Q I r q => h.run pins s σ H v u Q I r (k v σ H Q q)⟩
theorem PI.weak {tg e : Expr} {t t' : TI} (h : PI X tg e t) (k : ∀ σ H Q, t' σ H Q → t σ H Q) : PI X tg e t' := ⟨fun pins s σ H Q I q => h.run pins s σ H Q I (k σ H Q q)⟩

theorem po_st {α γ : Type} {Ra : Wd → MS → Hp → γ → α → Prop} {w : Wd} {S : MS} {env : En} {σ : St} {H : Hp} {D : Ends} {m : M α} {f : α → MS → Option Fl} (me : Me X C w S env σ H) (h : PoS X.K X.mg C.W w S H D (stE m env f S)) {Q' : γ → Hp → Prop}
    (k : ∀ w' S' H' v d, Me X C w' S' env σ H' → Ra w' S' H' v d → Go w S H w' S' H' → PoS X.K X.mg C.W w' S' H' D (f d S') → Q' v H') : Po X.K X.mg Ra (fun c d H => C.W c d σ H) w S H Q' (m S) := by
  unfold stE at h
  cases e : m S with
  | none => rw [e] at h; exact h
  | some r =>
    rw [e] at h
    cases r with
    | exc ex S' => exact fun w' H' cls dx g si r => h w' H' σ cls dx g si (me.en.le g.le) r
    | ok d S' => exact fun w' H' v g si r => k w' S' H' v d (me.go g si) r g (h.go g)

def mNx : MSt := fun env S => some (.nx env S)
def mSeq (a b : MSt) : MSt := fun env S => match a env S with
  | some (.nx env' S') => b env' S'
  | r => r
theorem jb_nil : JB X C [] mNx := PSs.weak pss_nil fun D σ H ⟨w, S, env, me, p⟩ => p w H σ (Go.refl _ _ _) me.si me.en
theorem jb_cons {st : Stmt} {rest : List Stmt} {a b : MSt} (h1 : JS X C st a) (h2 : JB X C rest b) : JB X C (st :: rest) (mSeq a b) := PSs.weak (pss_cons h1 h2) fun D σ H ⟨w, S, env, me, p⟩ => by
  refine ⟨w, S, env, me, ?_⟩
  unfold mSeq at p
  cases e : a env S with
  | none => rw [e] at p; exact p
  | some r =>
    rw [e] at p
    cases r with
    | nx env' S' => exact fun w' H' σ' g si en => ⟨w', S', env', ⟨si, en, C.st me.b g⟩, p.go g⟩
    | bk env' S' => exact p
    | ct env' S' => exact p
    | rt d S' => exact p
    | exc e env' S' => exact p
theorem jb_one {st : Stmt} {a : MSt} (h1 : JS X C st a) : JB X C [st] a := pss_one h1
theorem js_pass {pos} : JS X C (.Pass pos) mNx := PS.weak ps_pass fun D σ H ⟨w, S, env, me, p⟩ => p w H σ (Go.refl _ _ _) me.si me.en
def mBk : MSt := fun env S => some (.bk env S)
def mCt : MSt := fun env S => some (.ct env S)
theorem js_break {pos} : JS X C (.Break pos) mBk := PS.weak ps_break fun D σ H ⟨w, S, env, me, p⟩ => p w H σ (Go.refl _ _ _) me.si me.en
theorem js_continue {pos} : JS X C (.Continue pos) mCt := PS.weak ps_continue fun D σ H ⟨w, S, env, me, p⟩ => p w H σ (Go.refl _ _ _) me.si me.en
/-- what the proof never comes to -/
def mNever : MSt := fun _ _ => none
theorem js_never {st : Stmt} : JS X C st mNever := PS.weak ps_never fun D σ H ⟨w, S, env, me, p⟩ => p
theorem jb_never {st : List Stmt} : JB X C st mNever := PSs.weak pss_never fun D σ H ⟨w, S, env, me, p⟩ => p
variable {e : Expr} {m : ME} {pos pos' : Pos}
def mDrop (m : ME) : MSt := fun env => stE (m env) env fun _ S => some (.nx env S)
theorem js_expr (he : JE X C e m) (hs : swapsWith e none pos.line X.env = pure false := by rfl) : JS X C (.Expr e pos) (mDrop m) := PS.weak (ps_expr he hs) fun D σ H ⟨w, S, env, me, p⟩ =>
  ⟨w, S, env, me, po_st me p fun w1 S1 H1 v d me1 rv g1 p1 => p1 w1 H1 σ (Go.refl _ _ _) me1.si me1.en⟩
def mRet (m : ME) : MSt := fun env => stE (m env) env fun d S => some (.rt d S)
theorem js_ret (he : JE X C e m) : JS X C (.Return (some e) pos) (mRet m) := PS.weak (ps_ret he) fun D σ H ⟨w, S, env, me, p⟩ =>
  ⟨w, S, env, me, po_st me p fun w1 S1 H1 v d me1 rv g1 p1 => p1 w1 H1 v (Go.refl _ _ _) me1.si rv⟩
def mRetN : MSt := fun _ S => some (.rt .non S)
theorem js_retN : JS X C (.Return none pos) mRetN := PS.weak ps_retN fun D σ H ⟨w, S, env, me, p⟩ => p w H .non (Go.refl _ _ _) me.si .non
def mIfS (t : MT) (a b : MSt) : MSt := fun env => stE (t env) env fun c S => match c with
  | true => a env S
  | false => b env S
theorem js_if {c : Expr} {sa sb : List Stmt} {t : MT} {ma mb : MSt} (hc : JT X C c t) (ha : JB X C sa ma) (hb : JB X C sb mb) : JS X C (.If c sa sb pos) (mIfS t ma mb) := PS.weak (ps_if hc ha hb) fun D σ H ⟨w, S, env, me, p⟩ => by
  refine ⟨w, S, env, me, po_st me p fun w1 S1 H1 v d me1 rv g1 p1 => ?_⟩
  cases (show v = d from rv)
  cases v with
  | true =>
    rw [if_pos rfl]
    exact ⟨w1, S1, env, me1, p1⟩
  | false =>
    rw [if_neg Bool.false_ne_true]
    exact ⟨w1, S1, env, me1, p1⟩

/-! ### targets -/
def gNm (i : Nat) : MG := fun d env S => some (env.set i (some d), S)
theorem jg_name {i : Nat} {x : Str} (h : PG X (.Name x pos) (gName i)) : JG X C (.Name x pos) (gNm i) := PG.weak h fun v σ H Q ⟨w, S, env, d, me, r, p⟩ => p w H _ (Go.refl _ _ _) me.si (me.en.set r i)
def gsNil : MGs := fun ds env S => match ds with
  | [] => some (env, S)
  | _ => none
def gsCons (g : MG) (r : MGs) : MGs := fun ds env S => match ds with
  | [] => none
  | d :: t => match g d env S with
    | none => none
    | some (env', S') => r t env' S'
theorem jgs_nil : JGs X C [] gsNil := PGs.weak pgs_nil fun v σ H Q ⟨w, S, env, ds, me, r, p⟩ => by
  cases r with
  | nil => exact ⟨rfl, p w H σ (Go.refl _ _ _) me.si me.en⟩
  | cons _ _ => exact p.elim
theorem jgs_cons {e : Expr} {es : List Expr} {g : MG} {r : MGs} (h1 : JG X C e g) (h2 : JGs X C es r) (hs : (assignEach (e :: es) X.env).map (·.2) = assign e X.env :: (assignEach es X.env).map (·.2) := by rfl) : JGs X C (e :: es) (gsCons g r) :=
  PGs.weak (pgs_cons h1 h2 hs) fun v σ H Q ⟨w, S, env, ds, me, rr, p⟩ => by
    cases rr with
    | nil => exact p.elim
    | @cons v vs d ds r1 r2 =>
      refine ⟨_, _, rfl, w, S, env, d, me, r1, ?_⟩
      unfold gsCons at p
      dsimp only at p
      cases q : g d env S with
      | none => rw [q] at p; exact p
      | some z =>
        obtain ⟨env', S'⟩ := z
        rw [q] at p
        dsimp only at p ⊢
        intro w' H' σ' g1 si en
        refine ⟨w', S', env', _, ⟨si, en, C.st me.b g1⟩, r2.le g1.le, ?_⟩
        cases q2 : r ds env' S' with
        | none => rw [q2] at p; exact p
        | some z2 =>
          obtain ⟨env2, S2⟩ := z2
          rw [q2] at p
          exact fun w2 H2 σ2 g2 => p w2 H2 σ2 (g1.trans g2)
def gTp (n : Nat) (g : MGs) : MG := fun d env S => match d with
  | .tup ds => if ds.length = n then g ds env S else none
  | _ => none
theorem jg_tup {es : List Expr} {k n : Nat} {g : MGs} (hc : X.calm = true) (h : JGs X C es g) (hn : (assignEach es X.env).length = n := by rfl) (hst : (assignEach es X.env).findIdx? (·.1) = none := by rfl) : JG X C (.Tuple es k pos) (gTp n g) :=
  PG.weak (pg_tup hc h hn hst) fun v σ H Q ⟨w, S, env, d, me, r, p⟩ => by
    cases d with
    | tup ds =>
      cases r with
      | @tup a vs _ h1 h2 =>
        unfold gTp at p
        dsimp only at p
        by_cases q : ds.length = n
        · rw [if_pos q] at p
          exact ⟨a, vs, rfl, sqt_ex me.si.ex h1, by rw [h2.length]; exact q, w, S, env, ds, me, h2, p⟩
        · rw [if_neg q] at p
          exact p.elim
    | _ => exact p.elim
def mAsg (m : ME) (g : MG) : MSt := fun env => stE (m env) env fun d S => match g d env S with
  | none => none
  | some (env', S') => some (.nx env' S')
theorem asg_go {te : TE} {g : MG} {gt : TG} {D : Ends} {σ : St} {H : Hp} (hte : ∀ σ H Q, tE C m σ H Q → te σ H Q) (hg : ∀ v σ H Q, tG C g v σ H Q → gt v σ H Q) (h : tS C (mAsg m g) D σ H) : tAsg te gt D σ H := by
  obtain ⟨w, S, env, me, p⟩ := h
  refine hte _ _ _ ⟨w, S, env, me, po_st me p fun w1 S1 H1 v d me1 rv g1 p1 => ?_⟩
  refine hg _ _ _ _ ⟨w1, S1, env, d, me1, rv, ?_⟩
  cases q : g d env S1 with
  | none => rw [q] at p1; exact p1
  | some z =>
    obtain ⟨env', S'⟩ := z
    rw [q] at p1
    exact p1
theorem js_asg {tg : Expr} {g : MG} (he : JE X C e m) (hg : JG X C tg g) (hs : swapsWithSole [tg] e pos.line X.env = pure false := by rfl) (hw : swappedStores [tg] e X.env = pure none := by rfl)
    (h1 : (assignEach [tg] X.env).map (·.2) = [assign tg X.env] := by rfl) : JS X C (.Assign [tg] e pos) (mAsg m g) := PS.weak (ps_asg he hg hs hw h1) fun D σ H h => asg_go (fun _ _ _ h => h) (fun _ _ _ _ h => h) h
/-- name = value -/
theorem js_set {i : Nat} {x : Str} (hN : X.N.Nodup) (hi : X.N[i]? = some x) (hx : Loc X.env.scope x) (he : JE X C e m) (hs : swapsWith e (some (.Name x pos')) pos.line X.env = pure false := by rfl) (hf : X.fn x = true ∨ X.env.scope.names.lookup x = some .local := by first | exact .inl rfl | exact .inr rfl | assumption) :
    JS X C (.Assign [.Name x pos'] e pos) (mAsg m (gNm i)) := PS.weak (ps_set hN hi hx he hs hf) fun D σ H h => asg_go (fun _ _ _ h => h) (fun v σ H Q ⟨w, S, env, d, me, r, p⟩ => p w H _ (Go.refl _ _ _) me.si (me.en.set r i)) h
/-- a, b = x, y -/
def mPar (i j : Nat) (ms : MA) : MSt := fun env => stE (ms env) env fun ds S => match ds with
  | [d, e] => some (.nx ((env.set i (some d)).set j (some e)) S)
  | _ => none
theorem js_par {i j : Nat} {x y : Str} {a b : Expr} {ms : MA} {px py pt : Pos} {kt k2 pt2} (hc : X.calm = true) (hN : X.N.Nodup) (hi : X.N[i]? = some x) (hj : X.N[j]? = some y) (hij : i ≠ j)
    (hx : X.env.scope.names.lookup x = some .local) (hy : X.env.scope.names.lookup y = some .local) (ha : JA X C [a, b] ms)
    (hw : swappedStores [.Tuple [.Name x px, .Name y py] kt pt] (.Tuple [a, b] k2 pt2) X.env = pure (some [x, y]))
    (hs : swapsWithSole [.Tuple [.Name x px, .Name y py] kt pt] (.Tuple [a, b] k2 pt2) pos.line X.env = pure false := by rfl) :
    JS X C (.Assign [.Tuple [.Name x px, .Name y py] kt pt] (.Tuple [a, b] k2 pt2) pos) (mPar i j ms) := PS.weak (ps_par hc hN hi hj hij hx hy ha hw hs) fun D σ H ⟨w, S, env, me, p⟩ => by
  refine ⟨w, S, env, me, po_st me p fun w1 S1 H1 v ds me1 rv g1 p1 => ?_⟩
  cases rv with
  | nil => exact p1.elim
  | @cons v1 vs d1 ds1 r1 r2 =>
    cases r2 with
    | nil => exact p1.elim
    | @cons v2 vs2 d2 ds2 r2 r3 =>
      cases r3 with
      | nil => exact ⟨_, _, rfl, p1 w1 H1 _ (Go.refl _ _ _) me1.si ((me1.en.set r1 i).set r2 j)⟩
      | cons _ _ => exact p1.elim
def mPar3 (i j l : Nat) (ms : MA) : MSt := fun env => stE (ms env) env fun ds S => match ds with
  | [d, e, f] => some (.nx (((env.set i (some d)).set j (some e)).set l (some f)) S)
  | _ => none
theorem par3_go {i j l : Nat} {ms : MA} {D : Ends} {σ : St} {H : Hp} (h : tS C (mPar3 i j l ms) D σ H) : tPar3 i j l (tA C ms) D σ H := by
  obtain ⟨w, S, env, me, p⟩ := h
  refine ⟨w, S, env, me, po_st me p fun w1 S1 H1 v ds me1 rv g1 p1 => ?_⟩
  cases rv with
  | nil => exact p1.elim
  | @cons v1 vs d1 ds1 r1 r2 =>
    cases r2 with
    | nil => exact p1.elim
    | @cons v2 vs2 d2 ds2 r2 r3 =>
      cases r3 with
      | nil => exact p1.elim
      | @cons v3 vs3 d3 ds3 r3 r4 =>
        cases r4 with
        | nil => exact ⟨_, _, _, rfl, p1 w1 H1 _ (Go.refl _ _ _) me1.si (((me1.en.set r1 i).set r2 j).set r3 l)⟩
        | cons _ _ => exact p1.elim
theorem js_par3 {i j l : Nat} {st : Stmt} {ms : MA} (h : PS X st (tPar3 i j l (tA C ms))) : JS X C st (mPar3 i j l ms) := PS.weak h fun _ _ _ q => par3_go q
/-- name op= e -/
def mAug (i : Nat) (f : D → D → M D) (m : ME) : MSt := fun env => match env[i]? with
  | some (some x) => stE (bnd (m env) fun y => f x y) env fun d S => some (.nx (env.set i (some d)) S)
  | _ => fun _ => none
theorem js_aug {i : Nat} {x : Str} {op : Operator} {r : R2} {f : D → D → M D} (hN : X.N.Nodup) (hi : X.N[i]? = some x) (hx : Loc X.env.scope x) (he : JE X C e m) (ho : OpR X (inplaceOp op) r) (hf2 : Op2 X r f) (hf : X.fn x = true ∨ X.env.scope.names.lookup x = some .local := by first | exact .inl rfl | exact .inr rfl | assumption) :
    JS X C (.AugAssign (.Name x pos') op e pos) (mAug i f m) := PS.weak (ps_aug (ti := r) hN hi hx he (fun pins s σ H x y v u Q I rx ry h => ho pins s σ H x y v u Q I rx ry h) hf) fun D σ H ⟨w, S, env, me, p⟩ => by
  unfold mAug at p
  cases q : env[i]? with
  | none => rw [q] at p; exact p.elim
  | some o =>
    rw [q] at p
    cases o with
    | none => exact p.elim
    | some d =>
      dsimp only at p
      obtain ⟨v, e1, rv⟩ := me.en.get q
      refine ⟨v, e1, w, S, env, me, ?_⟩
      have p2 := po_st (γ := V) (Ra := RV' X.K) me p (Q' := fun z H2 => D.nx (σ.set i (some z)) H2) fun w1 S1 H1 z d1 me1 rz g1 p1 => p1 w1 H1 _ (Go.refl _ _ _) me1.si (me1.en.set rz i)
      exact po_bnd me p2 fun w1 S1 H1 y d2 me1 ry g1 p1 => hf2 w1 S1 H1 v y d d2 _ _ me1.si (rv.le g1.le) ry p1

/-! ### loops -/
/-- from a state on J yields ds -/
def ItR (X : Cx) : Wd → MS → Hp → It → List D → Prop := fun w S H J ds => ∀ i w' S' H', Go w S H w' S' H' → SI X.K X.mg w' S' H' →
  (i = ds.length → J.stop i H') ∧ ∀ d, ds[i]? = some d → J.go i H' ∧ ∀ x H'', J.yld i H' x H'' → ∃ w'', Go w' S' H' w'' S' H'' ∧ SI X.K X.mg w'' S' H'' ∧ Rep X.K w'' x d
def tI (C : Cy X) (m : MA) : TI := fun σ H R => ∃ w S env, Me X C w S env σ H ∧ Po X.K X.mg (ItR X) (fun c d H => C.W c d σ H) w S H R (m env S)
end
def JI (X : Cx) (C : Cy X) (tg e : Expr) (m : MA) : Prop := PI X tg e (tI C m)
def loopF (g : MG) (body : MSt) : List D → En → MS → Option Fl
  | [], env, S => some (.nx env S)
  | d :: r, env, S => match g d env S with
    | none => none
    | some (env1, S1) => match body env1 S1 with
      | none => none
      | some (.nx env2 S2) => loopF g body r env2 S2
      | some (.ct env2 S2) => loopF g body r env2 S2
      | some (.bk env2 S2) => some (.nx env2 S2)
      | some (.rt d S2) => some (.rt d S2)
      | some (.exc e env2 S2) => some (.exc e env2 S2)
def mFor (mi : MA) (g : MG) (body : MSt) : MSt := fun env => stE (mi env) env fun ds S => loopF g body ds env S
section
variable {X : Cx} {C : Cy X} {pos : Pos}
theorem js_for {tg iter : Expr} {body : List Stmt} {mi : MA} {g : MG} {b : MSt} (hc : X.calm = true) (hi : JI X C tg iter mi) (hg : JG X C tg g) (hb : JB X C body b)
    (hs : ∀ x, foldedSetIterable iter X.env x = pure x := by intro _; rfl) : JS X C (.For tg iter body [] pos) (mFor mi g b) := PS.weak (ps_for C.po hc hi hg hb hs) fun D σ H ⟨w, S, env, me, p⟩ => by
  refine ⟨w, S, env, me, po_st me p fun w1 S1 H1 J ds me1 ri g1 p1 => ?_⟩
  refine ⟨fun i m σ H => ∃ w' S' env', m = ds.length - i ∧ i ≤ ds.length ∧ Me X C w' S' env' σ H ∧ Go w1 S1 H1 w' S' H ∧ PoS X.K X.mg C.W w' S' H D (loopF g b (ds.drop i) env' S'),
    ⟨ds.length, w1, S1, env, by simp, Nat.zero_le _, me1, Go.refl _ _ _, by simpa using p1⟩, ?_⟩
  rintro i m σ2 H2 ⟨w2, S2, env2, rfl, hi2, me2, g2, p2⟩
  obtain ⟨hstop, hgo⟩ := ri i w2 S2 H2 g2 me2.si
  by_cases hlt : i < ds.length
  · refine .inr ?_
    have hd : ds.drop i = ds[i] :: ds.drop (i + 1) := List.drop_eq_getElem_cons hlt
    rw [hd] at p2
    obtain ⟨go, yl⟩ := hgo ds[i] (List.getElem?_eq_getElem hlt)
    refine ⟨go, fun σ' H' => ∃ w' S' env', Me X C w' S' env' σ' H' ∧ Go w1 S1 H1 w' S' H' ∧ PoS X.K X.mg C.W w' S' H' D (loopF g b (ds.drop (i + 1)) env' S'),
      fun σ' H' ⟨w', S', env', m1, m2, m3⟩ => ⟨ds.length - (i + 1), by omega, w', S', env', rfl, hlt, m1, m2, m3⟩, fun x H' y => ?_⟩
    obtain ⟨w3, g3, si3, r3⟩ := yl x H' y
    refine ⟨w3, S2, env2, ds[i], me2.go g3 si3, r3, ?_⟩
    unfold loopF at p2
    cases q : g ds[i] env2 S2 with
    | none => rw [q] at p2; exact p2
    | some z =>
      obtain ⟨env3, S3⟩ := z
      rw [q] at p2
      dsimp only at p2 ⊢
      intro w4 H4 σ4 g4 si4 en4
      refine ⟨w4, S3, env3, ⟨si4, en4, C.st me2.b (g3.trans g4)⟩, ?_⟩
      have base : Go w1 S1 H1 w4 S3 H4 := g2.trans (g3.trans g4)
      have p3 := p2.go (g3.trans g4)
      cases q2 : b env3 S3 with
      | none => rw [q2] at p3; exact p3
      | some fl =>
        rw [q2] at p3
        cases fl with
        | nx env5 S5 => exact fun w5 H5 σ5 g5 si5 en5 => ⟨w5, S5, env5, ⟨si5, en5, C.st me2.b ((g3.trans g4).trans g5)⟩, base.trans g5, p3.go g5⟩
        | ct env5 S5 => exact fun w5 H5 σ5 g5 si5 en5 => ⟨w5, S5, env5, ⟨si5, en5, C.st me2.b ((g3.trans g4).trans g5)⟩, base.trans g5, p3.go g5⟩
        | bk env5 S5 => exact p3
        | rt d S5 => exact p3
        | exc e env5 S5 => exact p3
  · have hl : i = ds.length := by omega
    subst hl
    rw [List.drop_length] at p2
    exact .inl ⟨hstop rfl, p2 w2 H2 σ2 (Go.refl _ _ _) me2.si me2.en⟩
/-- while, with fuel -/
def loopW (t : MT) (b : MSt) : Nat → En → MS → Option Fl
  | 0, _, _ => none
  | n + 1, env, S => match t env S with
    | none => none
    | some (.exc e S1) => some (.exc e env S1)
    | some (.ok false S1) => some (.nx env S1)
    | some (.ok true S1) => match b env S1 with
      | none => none
      | some (.nx env2 S2) => loopW t b n env2 S2
      | some (.ct env2 S2) => loopW t b n env2 S2
      | some (.bk env2 S2) => some (.nx env2 S2)
      | some (.rt d S2) => some (.rt d S2)
      | some (.exc e env2 S2) => some (.exc e env2 S2)
def fuelN : Nat := 1000000
def mWhile (t : MT) (b : MSt) : MSt := fun env S => loopW t b fuelN env S
theorem js_while {c : Expr} {body : List Stmt} {t : MT} {b : MSt} (hc : JT X C c t) (hb : JB X C body b) : JS X C (.While c body [] pos) (mWhile t b) := PS.weak (ps_while C.po hc hb) fun D σ H ⟨w, S, env, me, p⟩ => by
  refine ⟨fun m σ H => ∃ w S env, Me X C w S env σ H ∧ PoS X.K X.mg C.W w S H D (loopW t b m env S), ⟨fuelN, w, S, env, me, p⟩, ?_⟩
  rintro m σ1 H1 ⟨w1, S1, env1, me1, p1⟩
  cases m with
  | zero => exact p1.elim
  | succ m =>
    refine ⟨w1, S1, env1, me1, ?_⟩
    unfold loopW at p1
    cases q : t env1 S1 with
    | none => rw [q] at p1; exact p1
    | some r =>
      rw [q] at p1
      cases r with
      | exc e S2 => exact fun w' H' cls dx g si r => p1 w' H' σ1 cls dx g si (me1.en.le g.le) r
      | ok k S2 =>
        intro w2 H2 v g2 si2 rv
        cases (show v = k from rv)
        cases k with
        | false =>
          rw [if_neg Bool.false_ne_true]
          exact p1 w2 H2 σ1 g2 si2 (me1.en.le g2.le)
        | true =>
          rw [if_pos rfl]
          dsimp only at p1
          refine ⟨fun σ' H' => ∃ w S env, Me X C w S env σ' H' ∧ PoS X.K X.mg C.W w S H' D (loopW t b m env S), fun σ' H' h => ⟨m, Nat.lt_succ_self _, h⟩, ?_⟩
          refine ⟨w2, S2, env1, me1.go g2 si2, ?_⟩
          have p3 := p1.go g2
          cases q2 : b env1 S2 with
          | none => rw [q2] at p3; exact p3
          | some fl =>
            rw [q2] at p3
            cases fl with
            | nx env5 S5 => exact fun w5 H5 σ5 g5 si5 en5 => ⟨w5, S5, env5, ⟨si5, en5, C.st me1.b (g2.trans g5)⟩, p3.go g5⟩
            | ct env5 S5 => exact fun w5 H5 σ5 g5 si5 en5 => ⟨w5, S5, env5, ⟨si5, en5, C.st me1.b (g2.trans g5)⟩, p3.go g5⟩
            | bk env5 S5 => exact p3
            | rt d S5 => exact p3
            | exc e env5 S5 => exact p3

/-! ### a def -/
def runB (n k : Nat) (body : MSt) : List D → M D := fun ds S => if ds.length = k then match body (ds.map some ++ List.replicate (n - ds.length) none) S with
    | some (.nx _ S') => some (.ok .non S')
    | some (.rt d S') => some (.ok d S')
    | some (.exc e _ S') => some (.exc e S')
    | _ => none
  else none
/-- the promise: what the mirror says -/
def spM (K : PySem.W.Frag) (mg : Str → Option Value) (k : Nat) (m : List D → M D) : Sp := fun vs H Q E => ∃ w S ds, SI K mg w S H ∧ RepL K w vs ds ∧ ds.length = k ∧ Po K mg (RV' K) E w S H Q (m ds S)
theorem EnR.start {K : PySem.W.Frag} {w : Wd} : ∀ {vs : List V} {ds : List D} (n : Nat), RepL K w vs ds → EnR K w (ds.map some ++ List.replicate n none) (vs.map some ++ List.replicate n none)
  | [], _, 0, h => by cases h; exact True.intro
  | [], _, n + 1, h => by
    cases h
    exact EnR.start (vs := []) (ds := []) n .nil
  | v :: vs, _, n, h => by
    cases h with
    | cons h1 h2 => exact ⟨⟨v, rfl, h1⟩, EnR.start n h2⟩
section
variable {P : Program} {wo : World} {K : PySem.W.Frag} {mg : Str → Option Value} {base : Heap}
/-- a context of a def's body -/
def cyOf {X : Cx} {E : XK} (tk : Takes X (fun cls d _ H => E cls d H)) (po : PassesOwn (model X.prog X.w) X.A X.env X.xe) : Cy X := ⟨fun cls d _ H => E cls d H, tk, po, fun _ _ _ => True, fun _ _ => True.intro⟩
abbrev FJ (P : Program) (wo : World) (K : PySem.W.Frag) (mg : Str → Option Value) (base : Heap) (k : Nat) (f : Addr) (fd : FuncData) (ps : List Str) (m : List D → M D) : Prop := FnOk P wo K mg base (L2.CX P wo) k f fd ps (spM K mg ps.length m)
theorem fj_mk {x qual : Str} {st : Stmt} {f : Addr} {fd : FuncData} {N ps : List Str} {k : Nat} {body : MSt} (F : Fun K x qual st f fd) (S : FnScope N ps (defScope st))
    (h : ∀ (cdv : Value) (A : Around) (outer : List Env) (s : Shared) (H : Hp) (E : XK) (C : Cy (cxOf (L2.CX P wo) P wo K mg base N qual (defScope st) f cdv A outer s H E)), Room k (A.deeper (PyProof.Rows.envOfC qual (defScope st) s.heap.objs.size f cdv)) →
      JB (cxOf (L2.CX P wo) P wo K mg base N qual (defScope st) f cdv A outer s H E) C (defBody st) body) : FJ P wo K mg base (k + 1) f fd ps (runB N.length ps.length body) := by
  refine F.okX S (fun vs H Q E h => ?_) fun cdv A outer s H vs Q E hr hsp => ?_
  · obtain ⟨w, S, ds, si, r, hl, p⟩ := h
    exact r.length.trans hl
  · obtain ⟨w, S', ds, si, r, hl, p⟩ := hsp
    have tk : Takes (cxOf (L2.CX P wo) P wo K mg base N qual (defScope st) f cdv A outer s H E) (fun cls d _ H => E cls d H) := takes_of rfl rfl rfl rfl
    have po : PassesOwn (model P wo) (A.deeper (PyProof.Rows.envOfC qual (defScope st) s.heap.objs.size f cdv)) (PyProof.Rows.envOfC qual (defScope st) s.heap.objs.size f cdv) (cxOf (L2.CX P wo) P wo K mg base N qual (defScope st) f cdv A outer s H E).xe := passes_of (X := cxOf (L2.CX P wo) P wo K mg base N qual (defScope st) f cdv A outer s H E) rfl
    refine ⟨_, h cdv A outer s H E (cyOf tk po) hr, w, S', ds.map some ++ List.replicate (N.length - ds.length) none, ⟨si, ?_, True.intro⟩, ?_⟩
    · unfold L2.start
      rw [r.length]
      exact EnR.start _ r
    · unfold runB at p
      rw [if_pos hl] at p
      cases q : body (ds.map some ++ List.replicate (N.length - ds.length) none) S' with
      | none => rw [q] at p; exact p
      | some fl =>
        rw [q] at p
        cases fl with
        | nx env5 S5 => exact fun w5 H5 σ5 g5 si5 en5 => p w5 H5 .non g5 si5 .non
        | ct env5 S5 => exact p.elim
        | bk env5 S5 => exact p.elim
        | rt d S5 => exact p
        | exc e env5 S5 => exact fun w' H' σ' cls dx g si en r => p w' H' cls dx g si r
end
/-- a call of a def -/
def mCall (m : List D → M D) (a : MA) : ME := fun env => bnd (a env) m
section
variable {k : Nat} {f : Addr} {fd : FuncData} {ps : List Str} {x : Str} {p : Pos} {e : Expr} {es : List Expr} {m : List D → M D} {ma : MA}
theorem sp_of {w : Wd} {S : MS} {H : Hp} {vs : List V} {ds : List D} {Q : VK} {E : XK} {n : Nat} (si : SI X.K X.mg w S H) (r : RepL X.K w vs ds) (hl : ds.length = n) (q : Po X.K X.mg (RV' X.K) E w S H Q (m ds S)) : spM X.K X.mg n m vs H Q E := ⟨w, S, ds, si, r, hl, q⟩
theorem runB_len {n j : Nat} {b : MSt} {ds : List D} {S : MS} {r : Out D} (h : runB n j b ds S = some r) : ds.length = j := by
  unfold runB at h
  split at h
  · assumption
  · cases h
/-- the number of arguments is told by the mirror -/
def Ar (n : Nat) (m : List D → M D) : Prop := ∀ ds S r, m ds S = some r → ds.length = n
theorem ar_runB {n j : Nat} {b : MSt} : Ar j (runB n j b) := fun _ _ _ h => runB_len h
theorem po_len {w : Wd} {S : MS} {H : Hp} {ds : List D} {Q : VK} {E : XK} {n : Nat} (ar : Ar n m) (q : Po X.K X.mg (RV' X.K) E w S H Q (m ds S)) : ds.length = n := by
  cases e : m ds S with
  | none => rw [e] at q; exact q.elim
  | some r => exact ar _ _ _ e
theorem j_call (F : FJ X.prog X.w X.K X.mg X.base k f fd ps m) (ar : Ar ps.length m) (hr : Room k X.A) (hg : Gl X x) (hm : X.mg x = some (.ref f)) (hk : PySem.W.keepIn X.K (.ref f) = true) (hb : Binds X.K fd ps [])
    (ha : JA X C (e :: es) ma) (hdb : (x == ("__debug__" : Str)) = false := by decide) (he : starEach (e :: es) X.env = (false, eval e X.env) :: starEach es X.env := by rfl) (hpl : (backTo pos (starEach es X.env)).any (·.1) = false := by rfl) :
    JE X C (.Call (.Name x p) (e :: es) [] pos) (mCall m ma) := PE.weak (pe_callS (E := WE C.W) F hr hg hm hk hb (fun σ => passAt C.tk σ) ha hdb he hpl) fun σ H Q ⟨w, S, env, me, q⟩ =>
  ⟨w, S, env, me, po_bnd me q fun w1 S1 H1 vs ds me1 rv g1 p1 => sp_of me1.si rv (po_len ar p1) p1⟩
end
end
end Mi
namespace Mi
open PySem L2

/-! ### what a container holds -/
def lstOf (S : MS) : D → Option (List D)
  | .lst ds => some ds
  | .src ds => some ds
  | .obj n => match S.get n with
    | some (.lst ds) => some ds
    | some (.ll ds) => some ds
    | _ => none
  | _ => none
/-- a list that is no object of the module -/
def lstRd (S : MS) : D → Option (List D)
  | .lst ds => some ds
  | .obj n => match S.get n with
    | some (.lst ds) => some ds
    | some (.ll ds) => some ds
    | _ => none
  | _ => none
def seqOf (S : MS) : D → Option (List D)
  | .tup ds => some ds
  | d => lstOf S d
def dctOf (S : MS) : D → Option (List (Key × D))
  | .dct kvs => some kvs
  | .obj n => match S.get n with
    | some (.dk kvs) => some kvs
    | some (.lk kvs) => some kvs
    | _ => none
  | _ => none
section
variable {X : Cx} {w : Wd} {S : MS} {H : Hp} {v : V} {d : D} {ds : List D}
theorem lstRd_is (si : SI X.K X.mg w S H) (r : Rep X.K w v d) (h : lstRd S d = some ds) : ∃ a vs, v = .ref a ∧ Rd H a (.lst vs) ∧ RepL X.K w vs ds := by
  cases d with
  | lst es =>
    cases r with
    | lst h1 h2 =>
      cases h
      exact ⟨_, _, rfl, rd_ex si.ex h1, h2⟩
  | obj n =>
    cases r with
    | obj h1 =>
      unfold lstRd at h
      dsimp only at h
      cases e : S.get n with
      | none => rw [e] at h; cases h
      | some o =>
        rw [e] at h
        cases o with
        | lst es =>
          cases h
          obtain ⟨_, _, ho, h3, h4⟩ := si.st n _ e
          cases ho with
          | lst vs => exact ⟨_, vs, rfl, .inl h3, h4⟩
          | _ => exact h4.elim
        | ll es =>
          cases h
          obtain ⟨_, _, ho, h3, h4⟩ := si.st n _ e
          cases ho with
          | frz ob u =>
            cases u with
            | lst vs => exact ⟨_, vs, rfl, .inr ⟨_, h3⟩, h4⟩
            | _ => exact h4.elim
          | _ => exact h4.elim
        | _ => cases h
  | _ => cases h
theorem lst_is (si : SI X.K X.mg w S H) (r : Rep X.K w v d) (h : lstOf S d = some ds) : ∃ a vs, v = .ref a ∧ SqL X.K H a vs ∧ RepL X.K w vs ds := by
  cases d with
  | lst es =>
    obtain ⟨a, vs, h1, h2, h3⟩ := lstRd_is si r h
    exact ⟨a, vs, h1, .inl h2, h3⟩
  | src es =>
    cases r with
    | src h1 h2 =>
      cases h
      exact ⟨_, _, rfl, sql_ex si.ex h1, h2⟩
  | obj n =>
    obtain ⟨a, vs, h1, h2, h3⟩ := lstRd_is si r h
    exact ⟨a, vs, h1, .inl h2, h3⟩
  | _ => cases h
theorem seq_is (si : SI X.K X.mg w S H) (r : Rep X.K w v d) (h : seqOf S d = some ds) : ∃ a vs, v = .ref a ∧ (SqL X.K H a vs ∨ SqT X.K H a vs) ∧ RepL X.K w vs ds := by
  cases d with
  | tup es =>
    cases r with
    | tup h1 h2 =>
      cases h
      exact ⟨_, _, rfl, .inr (sqt_ex si.ex h1), h2⟩
  | lst es =>
    obtain ⟨a, vs, h1, h2, h3⟩ := lst_is si r h
    exact ⟨a, vs, h1, .inl h2, h3⟩
  | src es =>
    obtain ⟨a, vs, h1, h2, h3⟩ := lst_is si r h
    exact ⟨a, vs, h1, .inl h2, h3⟩
  | obj n =>
    obtain ⟨a, vs, h1, h2, h3⟩ := lst_is si r h
    exact ⟨a, vs, h1, .inl h2, h3⟩
  | _ => cases h
theorem dct_is {kvs : List (Key × D)} (si : SI X.K X.mg w S H) (r : Rep X.K w v d) (h : dctOf S d = some kvs) : ∃ a kws, v = .ref a ∧ Rd H a (.dK kws) ∧ RepK X.K w kws kvs := by
  cases d with
  | dct es =>
    cases r with
    | dct h1 h2 =>
      cases h
      exact ⟨_, _, rfl, .inr ⟨_, si.ex _ _ h1⟩, h2⟩
  | obj n =>
    cases r with
    | obj h1 =>
      unfold dctOf at h
      dsimp only at h
      cases e : S.get n with
      | none => rw [e] at h; cases h
      | some o =>
        rw [e] at h
        cases o with
        | dk es =>
          cases h
          obtain ⟨_, _, ho, h3, h4⟩ := si.st n _ e
          cases ho with
          | dK vs => exact ⟨_, vs, rfl, .inl h3, h4⟩
          | _ => exact h4.elim
        | lk es =>
          cases h
          obtain ⟨_, _, ho, h3, h4⟩ := si.st n _ e
          cases ho with
          | frz ob u =>
            cases u with
            | dK vs => exact ⟨_, vs, rfl, .inr ⟨_, h3⟩, h4⟩
            | _ => exact h4.elim
          | _ => exact h4.elim
        | _ => cases h
  | _ => cases h

/-- how a made list is kept: as data, or as a thing that may change -/
abbrev MkS (X : Cx) (mk : List D → M D) : Prop := ∀ {w : Wd} {S : MS} {H : Hp} {xs : List V} {ds : List D} {W : Value → Option Addr → Hp → Prop} {Q : VK}, SI X.K X.mg w S H → RepL X.K w xs ds → Po X.K X.mg (RV' X.K) W w S H Q (mk ds S) →
    xs.length ≤ sizeLine ∧ ∀ a, H a = none → Q (.ref a) (upd H a (.lst xs))
theorem mkL_s : MkS X mkL := new_l
theorem mkO_s : MkS X mkO := new_o
abbrev lineN : Nat := 16777216
theorem line_is : sizeLine = lineN := sizeLine_eq

/-! ### arithmetic -/
def dI (g : Int → Int → D) : D → D → M D := fun x y => match x, y with
  | .int i, .int j => ret (g i j)
  | _, _ => stuck
def dIC (c : Int → Int → Bool) (g : Int → Int → D) : D → D → M D := fun x y => match x, y with
  | .int i, .int j => if c i j = true then ret (g i j) else stuck
  | _, _ => stuck
theorem op_dI {g : Int → Int → D} {gv : Int → Int → V} (h : ∀ i j w, Rep X.K w (gv i j) (g i j)) : Op2 X (rI0 gv) (dI g) := fun w S H x y d e Q W si rx ry p => by
  cases d with
  | int i =>
    cases e with
    | int j =>
      cases rx
      cases ry
      exact ⟨i, j, rfl, rfl, p w H _ (Go.refl _ _ _) si (h i j w)⟩
    | _ => exact p.elim
  | _ => exact p.elim
theorem op_dIC {c : Int → Int → Bool} {C : Int → Int → Prop} {g : Int → Int → D} {gv : Int → Int → V} (hc : ∀ i j, c i j = true → C i j) (h : ∀ i j w, Rep X.K w (gv i j) (g i j)) : Op2 X (rI C gv) (dIC c g) := fun w S H x y d e Q W si rx ry p => by
  cases d with
  | int i =>
    cases e with
    | int j =>
      cases rx
      cases ry
      unfold dIC at p
      dsimp only at p
      by_cases q : c i j = true
      · rw [if_pos q] at p
        exact ⟨i, j, rfl, rfl, hc i j q, p w H _ (Go.refl _ _ _) si (h i j w)⟩
      · rw [if_neg q] at p
        exact p.elim
    | _ => exact p.elim
  | _ => exact p.elim
def dSub : D → D → M D := dI fun i j => .int (i - j)
def dMulC (i j : Int) : Bool := (decide (-(2 ^ 64) < i) && decide (i < 2 ^ 64)) || (decide (-(2 ^ 64) < j) && decide (j < 2 ^ 64))
def dMul : D → D → M D := dIC dMulC fun i j => .int (i * j)
def dDivC (i j : Int) : Bool := decide (0 < j) && decide (j < 1073741824)
def dDiv : D → D → M D := dIC dDivC fun i j => .int (i / j)
def dMod : D → D → M D := dIC (fun _ j => decide (0 < j)) fun i j => .int (i % j)
def dPowC (i j : Int) : Bool := decide (0 ≤ j) && decide (j ≤ 1000000) && decide (i.natAbs < 2 ^ 64)
def dPow : D → D → M D := dIC dPowC fun i j => .int (i ^ j.toNat)
def dShl : D → D → M D := dIC dPowC fun i j => .int (i * 2 ^ j.toNat)
def dShr : D → D → M D := dIC (fun _ j => decide (0 ≤ j)) fun i j => .int (i / 2 ^ j.toNat)
def dBand : D → D → M D := dI fun i j => .int (Builtin.bitAnd i j)
def dBor : D → D → M D := dI fun i j => .int (Builtin.bitOr i j)
def dBxor : D → D → M D := dI fun i j => .int (Builtin.bitXor i j)
theorem op2_sub : Op2 X (rI0 fun i j => .int (i - j)) dSub := op_dI fun _ _ _ => .int _
theorem op2_mul : Op2 X (rI CMul fun i j => .int (i * j)) dMul := op_dIC (fun i j h => by simpa [dMulC, CMul] using h) fun _ _ _ => .int _
theorem op2_div : Op2 X (rI CDiv fun i j => .int (i / j)) dDiv := op_dIC (fun i j h => by simpa [dDivC, CDiv] using h) fun _ _ _ => .int _
theorem op2_mod : Op2 X (rI (fun _ j => 0 < j) fun i j => .int (i % j)) dMod := op_dIC (fun i j h => by simpa using h) fun _ _ _ => .int _
theorem op2_pow : Op2 X (rI CPow fun i j => .int (i ^ j.toNat)) dPow := op_dIC (fun i j h => by simpa [dPowC, CPow, and_assoc] using h) fun _ _ _ => .int _
theorem op2_shl : Op2 X (rI CPow fun i j => .int (i * 2 ^ j.toNat)) dShl := op_dIC (fun i j h => by simpa [dPowC, CPow, and_assoc] using h) fun _ _ _ => .int _
theorem op2_shr : Op2 X (rI (fun _ j => 0 ≤ j) fun i j => .int (i / 2 ^ j.toNat)) dShr := op_dIC (fun i j h => by simpa using h) fun _ _ _ => .int _
theorem op2_and : Op2 X (rI0 fun i j => .int (Builtin.bitAnd i j)) dBand := op_dI fun _ _ _ => .int _
theorem op2_or : Op2 X (rI0 fun i j => .int (Builtin.bitOr i j)) dBor := op_dI fun _ _ _ => .int _
theorem op2_xor : Op2 X (rI0 fun i j => .int (Builtin.bitXor i j)) dBxor := op_dI fun _ _ _ => .int _
def dLt : D → D → M D := dI fun i j => .bl (decide (i < j))
def dLe : D → D → M D := dI fun i j => .bl (decide (i ≤ j))
def dGt : D → D → M D := dI fun i j => .bl (decide (j < i))
def dGe : D → D → M D := dI fun i j => .bl (decide (j ≤ i))
theorem op2_lt : Op2 X (rI0 fun i j => .bl (decide (i < j))) dLt := op_dI fun _ _ _ => .bl _
theorem op2_le : Op2 X (rI0 fun i j => .bl (decide (i ≤ j))) dLe := op_dI fun _ _ _ => .bl _
theorem op2_gt : Op2 X (rI0 fun i j => .bl (decide (j < i))) dGt := op_dI fun _ _ _ => .bl _
theorem op2_ge : Op2 X (rI0 fun i j => .bl (decide (j ≤ i))) dGe := op_dI fun _ _ _ => .bl _
def dNeg : D → M D := fun x => match x with
  | .int i => ret (.int (-i))
  | _ => stuck
theorem op1_neg : Op1 X (rU fun i => .int (-i)) dNeg := fun w S H x d Q W si rx p => by
  cases d with
  | int i =>
    cases rx
    exact ⟨i, rfl, p w H _ (Go.refl _ _ _) si (.int _)⟩
  | _ => exact p.elim

/-! ### + -/
def rCatR : R2 := fun x y H Q => ∃ l b xs zs, x = .ref l ∧ y = .ref b ∧ Rd H l (.lst xs) ∧ Rd H b (.lst zs) ∧ xs.length + zs.length ≤ sizeLine ∧ ∀ p, H p = none → Q (.ref p) (upd H p (.lst (xs ++ zs)))
theorem op_catR : OpR X (binaryOp .Add) rCatR := by
  intro pins s σ H x y v u Q I rx ry h
  obtain ⟨l, b, xs, zs, rfl, rfl, hH, hB, hz, q⟩ := h
  cases rx
  cases ry
  obtain ⟨z, its, n, r, e⟩ := hH.ok I.hok
  obtain ⟨z2, its2, n2, r2, e2⟩ := hB.ok I.hok
  refine PySem.P.add_list e e2 ?_ (by rw [List.size_toArray, List.size_toArray, ← r.length, ← r2.length]; exact hz)
  have ea : its.toArray ++ its2.toArray = (its ++ its2).toArray := by simp
  rw [ea]
  exact ⟨.ref _, _, I.lnew (t' := s.toks) (r.append r2) (by rw [List.length_append]; omega), rfl, q _ I.fresh⟩
def rAddA (K : PySem.W.Frag) : R2 := fun x y H Q => rI0 (fun i j => .int (i + j)) x y H Q ∨ (∃ i j, x = .str i ∧ y = .str j ∧ i.length + j.length ≤ sizeLine ∧ Q (.str (i ++ j)) H) ∨ rCatR x y H Q ∨ rCatA K x y H Q
theorem op_addA : OpR X (binaryOp .Add) (rAddA X.K) := op_add.or (op_add_str.or (op_catR.or op_catA))
def dAdd (mk : List D → M D) : D → D → M D := fun x y => match x, y with
  | .int i, .int j => ret (.int (i + j))
  | .str a, .str b => if a.length + b.length ≤ lineN then ret (.str (a ++ b)) else stuck
  | .tup xs, .tup ys => mkT (xs ++ ys)
  | x, y => fun S => match lstRd S x, lstRd S y with
    | some xs, some ys => mk (xs ++ ys) S
    | _, _ => none
end
end Mi
namespace Mi
open PySem L2
open PyProof.Rows (subscriptTail)

mutual
def toPy : D → Option PyData
  | .non => some .none
  | .bl b => some (.bool b)
  | .int i => some (.int i)
  | .str x => some (.str x)
  | .lst ds => (toPyL ds).map .list
  | .src ds => (toPyL ds).map .list
  | .tup ds => (toPyL ds).map .tuple
  | .dct _ => none
  | .obj _ => none
  | .ty _ => none
def toPyL : List D → Option (List PyData)
  | [] => some []
  | d :: ds => match toPy d, toPyL ds with
    | some p, some ps => some (p :: ps)
    | _, _ => none
end
def toPyS (S : MS) : D → Option PyData := fun d => match d with
  | .obj n => match S.get n with
    | some (.lst ds) => (toPyL ds).map .list
    | _ => none
  | d => toPy d
section
variable {K : PySem.W.Frag} {w : Wd} {H : Hp}
mutual
theorem dp_of (ex : ∀ a o, w.F a = some o → H a = some o) : ∀ {d : D} {v : V} {p : PyData}, Rep K w v d → toPy d = some p → Dp K H v p
  | .non, _, _, r, h => by
    cases r
    unfold toPy at h
    cases h
    exact .non
  | .bl b, _, _, r, h => by
    cases r
    unfold toPy at h
    cases h
    exact .bl b
  | .int b, _, _, r, h => by
    cases r
    unfold toPy at h
    cases h
    exact .int b
  | .str b, _, _, r, h => by
    cases r
    unfold toPy at h
    cases h
    exact .str b
  | .lst ds, _, _, r, h => by
    unfold toPy at h
    cases r with
    | lst h1 h2 =>
      cases e : toPyL ds with
      | none => rw [e] at h; cases h
      | some ps =>
        rw [e] at h
        cases h
        exact .lst (.inl (rd_ex ex h1)) (dp_all ex h2 e)
  | .src ds, _, _, r, h => by
    unfold toPy at h
    cases r with
    | src h1 h2 =>
      cases e : toPyL ds with
      | none => rw [e] at h; cases h
      | some ps =>
        rw [e] at h
        cases h
        exact .lst (sql_ex ex h1) (dp_all ex h2 e)
  | .tup ds, _, _, r, h => by
    unfold toPy at h
    cases r with
    | tup h1 h2 =>
      cases e : toPyL ds with
      | none => rw [e] at h; cases h
      | some ps =>
        rw [e] at h
        cases h
        exact .tup (sqt_ex ex h1) (dp_all ex h2 e)
  | .dct _, _, _, r, h => by unfold toPy at h; cases h
  | .obj _, _, _, r, h => by unfold toPy at h; cases h
  | .ty _, _, _, r, h => by unfold toPy at h; cases h
theorem dp_all (ex : ∀ a o, w.F a = some o → H a = some o) : ∀ {ds : List D} {vs : List V} {ps : List PyData}, RepL K w vs ds → toPyL ds = some ps → DpAll K H vs ps
  | [], _, _, r, h => by
    cases r
    unfold toPyL at h
    cases h
    exact .nil
  | d :: ds, _, _, r, h => by
    unfold toPyL at h
    cases r with
    | cons h1 h2 =>
      cases e : toPy d with
      | none => rw [e] at h; cases h
      | some p =>
        cases e2 : toPyL ds with
        | none => rw [e, e2] at h; cases h
        | some ps =>
          rw [e, e2] at h
          cases h
          exact .cons (dp_of ex h1 e) (dp_all ex h2 e2)
end
end
section
variable {X : Cx} {w : Wd} {S : MS} {H : Hp} {v : V} {d : D} {ds : List D}
theorem py_is {p : PyData} (si : SI X.K X.mg w S H) (r : Rep X.K w v d) (h : toPyS S d = some p) : Dp X.K H v p := by
  cases d with
  | obj n =>
    unfold toPyS at h
    dsimp only at h
    cases e : S.get n with
    | none => rw [e] at h; cases h
    | some o =>
      rw [e] at h
      cases o with
      | lst es =>
        obtain ⟨a, vs, h1, h2, h3⟩ := lstRd_is (ds := es) si r (by unfold lstRd; dsimp only; rw [e])
        subst h1
        dsimp only at h
        cases e2 : toPyL es with
        | none => rw [e2] at h; cases h
        | some ps =>
          rw [e2] at h
          cases h
          exact .lst (.inl h2) (dp_all si.ex h3 e2)
      | _ => cases h
  | _ => exact dp_of si.ex r h
/-- numbers, texts: at once; else as data -/
def dEqB (S : MS) : D → D → Option Bool := fun x y => match x, y with
  | .int i, .int j => some (decide (i = j))
  | .str i, .str j => some (decide (i = j))
  | .bl i, .bl j => some (decide (i = j))
  | x, y => match toPyS S x, toPyS S y with
    | some p, some q => if (SeqAt.shaped p && SeqAt.shaped q) = true then some (PyData.eqv p q) else none
    | _, _ => none
def dEq : D → D → M D := fun x y S => match dEqB S x y with
  | some b => some (.ok (.bl b) S)
  | none => none
def dNe : D → D → M D := fun x y S => match dEqB S x y with
  | some b => some (.ok (.bl (!b)) S)
  | none => none
def rEqA (K : PySem.W.Frag) : R2 := fun x y H Q => rEq x y H Q ∨ rEqD K x y H Q
def rNeA (K : PySem.W.Frag) : R2 := fun x y H Q => rNe x y H Q ∨ rNeD K x y H Q
theorem op_eqA (hu : X.A.units + 64 < cLine) : OpR X (compareOp .Eq) (rEqA X.K) := op_eq.or (op_eqD hu)
theorem op_neA (hu : X.A.units + 64 < cLine) : OpR X (compareOp .NotEq) (rNeA X.K) := op_ne.or (op_neD hu)
theorem eqB_cases {x y : V} {e f : D} {b : Bool} (si : SI X.K X.mg w S H) (rx : Rep X.K w x e) (ry : Rep X.K w y f) (h : dEqB S e f = some b) :
    (scal x y = true ∧ decide (x = y) = b) ∨ ∃ p q, Dp X.K H x p ∧ Dp X.K H y q ∧ SeqAt.shaped p = true ∧ SeqAt.shaped q = true ∧ PyData.eqv p q = b := by
  have gen : (match toPyS S e, toPyS S f with
    | some p, some q => if (SeqAt.shaped p && SeqAt.shaped q) = true then some (PyData.eqv p q) else none
    | _, _ => none) = some b → ∃ p q, Dp X.K H x p ∧ Dp X.K H y q ∧ SeqAt.shaped p = true ∧ SeqAt.shaped q = true ∧ PyData.eqv p q = b := fun h => by
    split at h
    · rename_i p q h1 h2
      split at h
      · rename_i hs
        cases h
        rw [Bool.and_eq_true] at hs
        exact ⟨p, q, py_is si rx h1, py_is si ry h2, hs.1, hs.2, rfl⟩
      · cases h
    · cases h
  unfold dEqB at h
  split at h
  · cases rx
    cases ry
    cases h
    exact .inl ⟨rfl, by simp⟩
  · cases rx
    cases ry
    cases h
    exact .inl ⟨rfl, by simp⟩
  · cases rx
    cases ry
    cases h
    exact .inl ⟨rfl, by simp⟩
  · exact .inr (gen h)
theorem op2_eq : Op2 X (rEqA X.K) dEq := fun w S H x y d e Q W si rx ry p => by
  unfold dEq at p
  cases h : dEqB S d e with
  | none => rw [h] at p; exact p.elim
  | some b =>
    rw [h] at p
    have q := p w H (.bl b) (Go.refl _ _ _) si (.bl b)
    rcases eqB_cases si rx ry h with ⟨h1, h2⟩ | ⟨p1, q1, h1, h2, h3, h4, h5⟩
    · exact .inl ⟨h1, by rw [h2]; exact q⟩
    · exact .inr ⟨p1, q1, h1, h2, h3, h4, by rw [h5]; exact q⟩
theorem op2_ne : Op2 X (rNeA X.K) dNe := fun w S H x y d e Q W si rx ry p => by
  unfold dNe at p
  cases h : dEqB S d e with
  | none => rw [h] at p; exact p.elim
  | some b =>
    rw [h] at p
    have q := p w H (.bl (!b)) (Go.refl _ _ _) si (.bl _)
    rcases eqB_cases si rx ry h with ⟨h1, h2⟩ | ⟨p1, q1, h1, h2, h3, h4, h5⟩
    · exact .inl ⟨h1, by rw [h2]; exact q⟩
    · exact .inr ⟨p1, q1, h1, h2, h3, h4, by rw [h5]; exact q⟩
/-! ### is -/
def isNon : D → Bool
  | .non => true
  | _ => false
def dIsN : D → D → M D := fun x y => match y with
  | .non => ret (.bl (isNon x))
  | .bl b => match x with
    | .bl a => ret (.bl (decide (a = b)))
    | _ => stuck
  | _ => stuck
def dIsNotN : D → D → M D := fun x y => match y with
  | .non => ret (.bl (!isNon x))
  | .bl b => match x with
    | .bl a => ret (.bl (!decide (a = b)))
    | _ => stuck
  | _ => stuck
def rIsA : R2 := fun x y H Q => (y = .non ∧ Q (.bl (decide (x = .non))) H) ∨ rIsB x y H Q
def rIsNotA : R2 := fun x y H Q => (y = .non ∧ Q (.bl (!decide (x = .non))) H) ∨ rNotB x y H Q
theorem op_isA : OpR X (compareOp .Is) rIsA := op_isN.or op_isBl
theorem op_isNotA : OpR X (compareOp .IsNot) rIsNotA := op_notN.or op_notBl
theorem non_is {x : V} {e : D} (r : Rep X.K w x e) : decide (x = .non) = isNon e := by
  cases r <;> simp [isNon]
theorem op2_is : Op2 X rIsA dIsN := fun w S H x y d e Q W si rx ry p => by
  cases e with
  | non =>
    cases ry
    refine .inl ⟨rfl, ?_⟩
    rw [non_is rx]
    exact p w H _ (Go.refl _ _ _) si (.bl _)
  | bl b =>
    cases ry
    cases d with
    | bl a =>
      cases rx
      exact .inr ⟨a, b, rfl, rfl, p w H _ (Go.refl _ _ _) si (.bl _)⟩
    | _ => exact p.elim
  | _ => exact p.elim
theorem op2_isnot : Op2 X rIsNotA dIsNotN := fun w S H x y d e Q W si rx ry p => by
  cases e with
  | non =>
    cases ry
    refine .inl ⟨rfl, ?_⟩
    rw [non_is rx]
    exact p w H _ (Go.refl _ _ _) si (.bl _)
  | bl b =>
    cases ry
    cases d with
    | bl a =>
      cases rx
      exact .inr ⟨a, b, rfl, rfl, p w H _ (Go.refl _ _ _) si (.bl _)⟩
    | _ => exact p.elim
  | _ => exact p.elim
/-! ### + -/
theorem op2_add {mk : List D → M D} (hk : MkS X mk) : Op2 X (rAddA X.K) (dAdd mk) := fun w S H x y d e Q W si rx ry p => by
  unfold dAdd at p
  split at p
  · cases rx
    cases ry
    exact .inl ⟨_, _, rfl, rfl, p w H _ (Go.refl _ _ _) si (.int _)⟩
  · cases rx
    cases ry
    split at p
    · rename_i hz
      exact .inr (.inl ⟨_, _, rfl, rfl, by rw [line_is]; exact hz, p w H _ (Go.refl _ _ _) si (.str _)⟩)
    · exact p.elim
  · rename_i xs ys
    cases rx with
    | tup h1 h2 =>
      cases ry with
      | tup h3 h4 =>
        obtain ⟨hz, hq⟩ := new_t si (h2.append h4) p
        unfold mkT at p
        split at p
        · rename_i hz'
          refine .inr (.inr (.inr ⟨_, _, _, _, rfl, rfl, sqt_ex si.ex h1, sqt_ex si.ex h3, by rw [← List.length_append]; exact hz, fun e => ?_, fun e1 e2 => ?_, fun _ _ => hq⟩))
          · subst e
            cases h2
            exact p w H _ (Go.refl _ _ _) si (.tup h3 (by simpa using h4))
          · subst e2
            cases h4
            exact p w H _ (Go.refl _ _ _) si (.tup h1 (by simpa using h2))
        · exact p.elim
  · dsimp only at p
    cases e1 : lstRd S d with
    | none => rw [e1] at p; exact p.elim
    | some xs =>
      cases e2 : lstRd S e with
      | none => rw [e1, e2] at p; exact p.elim
      | some ys =>
        rw [e1, e2] at p
        obtain ⟨a, vs, rfl, h1, h2⟩ := lstRd_is si rx e1
        obtain ⟨b, us, rfl, h3, h4⟩ := lstRd_is si ry e2
        obtain ⟨hz, hq⟩ := hk si (h2.append h4) p
        exact .inr (.inr (.inl ⟨_, _, _, _, rfl, rfl, h1, h3, by rw [← List.length_append]; exact hz, hq⟩))
/-! ### [x] * n -/
def dRep (mk : List D → M D) : D → D → M D := fun x y S => match lstRd S x, y with
  | some xs, .int k => if (decide (-(2 ^ 63) ≤ k) && decide (k < 2 ^ 63)) = true then mk (List.replicate k.toNat xs).flatten S else none
  | _, _ => none
/-! ### dicts -/
def toKey : D → Option Key
  | .int i => some (.inl i)
  | .str x => some (.inr x)
  | _ => none
theorem key_is {x : V} {e : D} {k : Key} (r : Rep X.K w x e) (h : toKey e = some k) : x = kV k := by
  cases e <;> first | (cases h; done) | (cases r; cases h; rfl)
def dLook (kvs : List (Key × D)) (k : Key) : Option D := (kvs.find? fun kv => decide (kv.1 = k)).map (·.2)
def dPutK (kvs : List (Key × D)) (k : Key) (d : D) : List (Key × D) := if (kvs.any fun kv => decide (kv.1 = k)) = true then kvs.map fun kv => if kv.1 = k then (kv.1, d) else kv else kvs ++ [(k, d)]
def dDropK (kvs : List (Key × D)) (k : Key) : List (Key × D) := kvs.filter fun kv => decide (kv.1 ≠ k)
theorem look_is {k : Key} : ∀ {kws : List (Key × V)} {kvs : List (Key × D)}, RepK X.K w kws kvs → match dLook kvs k with
    | none => valV kws k = none
    | some d => ∃ v, valV kws k = some v ∧ Rep X.K w v d
  | _, [], h => by
    cases h
    rfl
  | _, (k', d) :: kvs, h => by
    cases h with
    | @cons _ v vs _ _ h1 h2 =>
      by_cases e : k' = k
      · have e1 : dLook ((k', d) :: kvs) k = some d := by simp [dLook, e]
        rw [e1]
        exact ⟨v, valV_pos e, h1⟩
      · have e1 : dLook ((k', d) :: kvs) k = dLook kvs k := by simp [dLook, e]
        rw [e1]
        have ih := look_is (k := k) h2
        cases q : dLook kvs k with
        | none =>
          rw [q] at ih
          exact (valV_neg e).trans ih
        | some d' =>
          rw [q] at ih
          obtain ⟨v', a, b⟩ := ih
          exact ⟨v', (valV_neg e).trans a, b⟩
theorem look_some {k : Key} {kws : List (Key × V)} {kvs : List (Key × D)} {d : D} (r : RepK X.K w kws kvs) (h : dLook kvs k = some d) : ∃ v, valV kws k = some v ∧ Rep X.K w v d := by
  have z := look_is (k := k) r
  rw [h] at z
  exact z
theorem look_none {k : Key} {kws : List (Key × V)} {kvs : List (Key × D)} (r : RepK X.K w kws kvs) (h : dLook kvs k = none) : valV kws k = none := by
  have z := look_is (k := k) r
  rw [h] at z
  exact z
theorem look_isSome {k : Key} {kws : List (Key × V)} {kvs : List (Key × D)} (r : RepK X.K w kws kvs) : (valV kws k).isSome = (dLook kvs k).isSome := by
  cases h : dLook kvs k with
  | none => rw [look_none r h]; rfl
  | some d =>
    obtain ⟨v, e, _⟩ := look_some r h
    rw [e]; rfl
theorem RepK.any (f : Key → Bool) : ∀ {kws : List (Key × V)} {kvs : List (Key × D)}, RepK X.K w kws kvs → (kws.any fun kv => f kv.1) = kvs.any fun kv => f kv.1
  | _, [], h => by cases h; rfl
  | _, (k', d) :: kvs, h => by
    cases h with
    | cons h1 h2 => simp [RepK.any f h2]
theorem RepK.mapAt (k : Key) {v : V} {d : D} (r : Rep X.K w v d) : ∀ {kws : List (Key × V)} {kvs : List (Key × D)}, RepK X.K w kws kvs → RepK X.K w (kws.map fun kv => if kv.1 = k then (kv.1, v) else kv) (kvs.map fun kv => if kv.1 = k then (kv.1, d) else kv)
  | _, [], h => by cases h; exact .nil
  | _, (k', d') :: kvs, h => by
    cases h with
    | cons h1 h2 =>
      rw [List.map_cons, List.map_cons]
      by_cases e : k' = k
      · rw [if_pos e, if_pos e]
        exact .cons r (RepK.mapAt k r h2)
      · rw [if_neg e, if_neg e]
        exact .cons h1 (RepK.mapAt k r h2)
theorem RepK.append : ∀ {kws kws' : List (Key × V)} {kvs kvs' : List (Key × D)}, RepK X.K w kws kvs → RepK X.K w kws' kvs' → RepK X.K w (kws ++ kws') (kvs ++ kvs')
  | _, _, [], _, h, g => by cases h; exact g
  | _, _, (k', d') :: kvs, _, h, g => by
    cases h with
    | cons h1 h2 => exact .cons h1 (RepK.append h2 g)
theorem RepK.put (k : Key) {v : V} {d : D} (r : Rep X.K w v d) {kws : List (Key × V)} {kvs : List (Key × D)} (h : RepK X.K w kws kvs) : RepK X.K w (putK kws k v) (dPutK kvs k d) := by
  unfold putK dPutK
  rw [RepK.any (fun k' => decide (k' = k)) h]
  split
  · exact h.mapAt k r
  · exact h.append (.cons r .nil)
theorem RepK.drop (k : Key) : ∀ {kws : List (Key × V)} {kvs : List (Key × D)}, RepK X.K w kws kvs → RepK X.K w (dropK kws k) (dDropK kvs k)
  | _, [], h => by cases h; exact .nil
  | _, (k', d') :: kvs, h => by
    cases h with
    | @cons _ v vs _ _ h1 h2 =>
      unfold dropK dDropK
      by_cases e : k' = k
      · rw [List.filter_cons_of_neg (by simpa using e), List.filter_cons_of_neg (by simpa using e)]
        exact RepK.drop k h2
      · rw [List.filter_cons_of_pos (by simpa using e), List.filter_cons_of_pos (by simpa using e)]
        exact .cons h1 (RepK.drop k h2)
theorem RepK.length : ∀ {kws : List (Key × V)} {kvs : List (Key × D)}, RepK X.K w kws kvs → kws.length = kvs.length
  | _, [], h => by cases h; rfl
  | _, (k', d') :: kvs, h => by
    cases h with
    | cons h1 h2 => simp [RepK.length h2]
theorem RepK.keys : ∀ {kws : List (Key × V)} {kvs : List (Key × D)}, RepK X.K w kws kvs → kws.map (·.1) = kvs.map (·.1)
  | _, [], h => by cases h; rfl
  | _, (k', d') :: kvs, h => by
    cases h with
    | cons h1 h2 => simp [RepK.keys h2]
/-! ### in -/
def flatD : D → Bool
  | .non | .bl _ | .int _ | .str _ => true
  | _ => false
def eqD0 : D → D → Bool
  | .non, .non => true
  | .bl a, .bl b => a == b
  | .bl a, .int b => (if a then 1 else 0) == b
  | .int a, .bl b => a == (if b then 1 else 0)
  | .int a, .int b => a == b
  | .str a, .str b => a == b
  | _, _ => false
theorem flat_is {x : V} {e : D} (r : Rep X.K w x e) : flatV x = flatD e := by cases r <;> rfl
theorem eqV_is {x y : V} {e f : D} (r : Rep X.K w x e) (s : Rep X.K w y f) : eqV x y = eqD0 e f := by cases r <;> cases s <;> rfl
theorem flats_is : ∀ {vs : List V} {ds : List D}, RepL X.K w vs ds → vs.all flatV = ds.all flatD
  | _, [], h => by cases h; rfl
  | _, d :: ds, h => by
    cases h with
    | cons h1 h2 => simp [flat_is h1, flats_is h2]
theorem inV_is {x : V} {e : D} (r : Rep X.K w x e) : ∀ {vs : List V} {ds : List D}, RepL X.K w vs ds → inV x vs = ds.any fun y => eqD0 y e
  | _, [], h => by cases h; rfl
  | _, d :: ds, h => by
    cases h with
    | cons h1 h2 =>
      have ih := inV_is r h2
      unfold inV at ih ⊢
      simp [eqV_is h1 r, ih]
/-- is x in y -/
def dInB (S : MS) : D → D → Option Bool := fun x y => match dctOf S y with
  | some kvs => match toKey x with
    | some k => some (dLook kvs k).isSome
    | none => none
  | none => match seqOf S y with
    | none => none
    | some ds => if (flatD x && ds.all flatD) = true then some (ds.any fun z => eqD0 z x)
      else match y with
        | .tup _ => none
        | _ => match toPyS S x, toPyL ds with
          | some p, some ps => if (SeqAt.shaped p && SeqAt.shaped (.list ps)) = true then some (ps.any fun z => PyData.eqv z p) else none
          | _, _ => none
def dIn : D → D → M D := fun x y S => match dInB S x y with
  | some b => some (.ok (.bl b) S)
  | none => none
def dNotIn : D → D → M D := fun x y S => match dInB S x y with
  | some b => some (.ok (.bl (!b)) S)
  | none => none
def rDctIn (neg : Bool) : R2 := fun x y H Q => ∃ a o, y = .ref a ∧ DGet H a x o ∧ Q (.bl (if neg then !o.isSome else o.isSome)) H
theorem op_dctIn (hu : X.A.units + 64 < cLine) : OpR X (compareOp .In) (rDctIn false) := by
  intro pins s σ H x y v u Q I rx ry h
  obtain ⟨a, o, rfl, g, q⟩ := h
  cases ry
  exact d_in (by omega) I g rx fun s' I' => ⟨.bl _, H, I', rfl, q⟩
theorem op_dctNotIn (hu : X.A.units + 64 < cLine) : OpR X (compareOp .NotIn) (rDctIn true) := by
  intro pins s σ H x y v u Q I rx ry h
  obtain ⟨a, o, rfl, g, q⟩ := h
  cases ry
  exact d_notIn (by omega) I g rx fun s' I' => ⟨.bl _, H, I', rfl, q⟩
def rInA (K : PySem.W.Frag) : R2 := fun x y H Q => rDctIn false x y H Q ∨ rIn K false x y H Q ∨ rInD K x y H Q
def rNotInA (K : PySem.W.Frag) : R2 := fun x y H Q => rDctIn true x y H Q ∨ rIn K true x y H Q ∨ rNotInD K x y H Q
theorem op_inA (hu : X.A.units + 65 < cLine) : OpR X (compareOp .In) (rInA X.K) := (op_dctIn (by omega)).or (op_in_seq.or (op_inD hu))
theorem op_notInA (hu : X.A.units + 65 < cLine) : OpR X (compareOp .NotIn) (rNotInA X.K) := (op_dctNotIn (by omega)).or (op_notIn_seq.or (op_notInD hu))
theorem inB_cases {x y : V} {e f : D} {b : Bool} (si : SI X.K X.mg w S H) (rx : Rep X.K w x e) (ry : Rep X.K w y f) (h : dInB S e f = some b) :
    (∃ a o, y = .ref a ∧ DGet H a x o ∧ o.isSome = b) ∨ (∃ p xs, y = .ref p ∧ (SqL X.K H p xs ∨ SqT X.K H p xs) ∧ flatV x = true ∧ xs.all flatV = true ∧ inV x xs = b) ∨
      ∃ d ds, Dp X.K H x d ∧ Dp X.K H y (.list ds) ∧ SeqAt.shaped d = true ∧ SeqAt.shaped (.list ds) = true ∧ (ds.any fun z => PyData.eqv z d) = b := by
  unfold dInB at h
  cases e1 : dctOf S f with
  | some kvs =>
    rw [e1] at h
    dsimp only at h
    obtain ⟨a, kws, rfl, h1, h2⟩ := dct_is si ry e1
    cases e2 : toKey e with
    | none => rw [e2] at h; cases h
    | some k =>
      rw [e2] at h
      cases h
      obtain rfl := key_is rx e2
      exact .inl ⟨a, _, rfl, .inl ⟨_, _, h1, rfl, rfl⟩, look_isSome h2⟩
  | none =>
    rw [e1] at h
    dsimp only at h
    cases e2 : seqOf S f with
    | none => rw [e2] at h; cases h
    | some ds =>
      rw [e2] at h
      dsimp only at h
      obtain ⟨a, vs, rfl, h1, h2⟩ := seq_is si ry e2
      by_cases hf : (flatD e && ds.all flatD) = true
      · rw [if_pos hf] at h
        cases h
        rw [Bool.and_eq_true] at hf
        exact .inr (.inl ⟨a, vs, rfl, h1, by rw [flat_is rx]; exact hf.1, by rw [flats_is h2]; exact hf.2, inV_is rx h2⟩)
      · rw [if_neg hf] at h
        have fin : (∃ a' vs', V.ref a = .ref a' ∧ SqL X.K H a' vs' ∧ RepL X.K w vs' ds) → (match toPyS S e, toPyL ds with
          | some p, some ps => if (SeqAt.shaped p && SeqAt.shaped (.list ps)) = true then some (ps.any fun z => PyData.eqv z p) else none
          | _, _ => none) = some b → ∃ d ds, Dp X.K H x d ∧ Dp X.K H (.ref a) (.list ds) ∧ SeqAt.shaped d = true ∧ SeqAt.shaped (.list ds) = true ∧ (ds.any fun z => PyData.eqv z d) = b := fun ⟨a', vs', ea, h3, h4⟩ h => by
          split at h
          · rename_i p ps g1 g2
            split at h
            · rename_i hs
              cases h
              rw [Bool.and_eq_true] at hs
              cases ea
              exact ⟨p, ps, py_is si rx g1, .lst h3 (dp_all si.ex h4 g2), hs.1, hs.2, rfl⟩
            · cases h
          · cases h
        cases f with
        | tup _ => cases h
        | lst _ => exact .inr (.inr (fin (lst_is si ry e2) h))
        | src _ => exact .inr (.inr (fin (lst_is si ry e2) h))
        | obj _ => exact .inr (.inr (fin (lst_is si ry e2) h))
        | _ => cases e2
theorem op2_in : Op2 X (rInA X.K) dIn := fun w S H x y d e Q W si rx ry p => by
  unfold dIn at p
  cases h : dInB S d e with
  | none => rw [h] at p; exact p.elim
  | some b =>
    rw [h] at p
    have q := p w H (.bl b) (Go.refl _ _ _) si (.bl b)
    rcases inB_cases si rx ry h with ⟨a, o, h1, h2, rfl⟩ | ⟨a, xs, h1, h2, h3, h4, rfl⟩ | ⟨d, ds, h1, h2, h3, h4, rfl⟩
    · exact .inl ⟨a, o, h1, h2, q⟩
    · exact .inr (.inl ⟨a, xs, h1, h2, h3, h4, q⟩)
    · exact .inr (.inr ⟨d, ds, h1, h2, h3, h4, q⟩)
theorem op2_notin : Op2 X (rNotInA X.K) dNotIn := fun w S H x y d e Q W si rx ry p => by
  unfold dNotIn at p
  cases h : dInB S d e with
  | none => rw [h] at p; exact p.elim
  | some b =>
    rw [h] at p
    have q := p w H (.bl (!b)) (Go.refl _ _ _) si (.bl _)
    rcases inB_cases si rx ry h with ⟨a, o, h1, h2, rfl⟩ | ⟨a, xs, h1, h2, h3, h4, rfl⟩ | ⟨d, ds, h1, h2, h3, h4, rfl⟩
    · exact .inl ⟨a, o, h1, h2, q⟩
    · exact .inr (.inl ⟨a, xs, h1, h2, h3, h4, q⟩)
    · exact .inr (.inr ⟨d, ds, h1, h2, h3, h4, q⟩)
/-! ### x[i] -/
def dIx : D → D → M D := fun x y S => match dctOf S x with
  | some kvs => match toKey y with
    | some k => match dLook kvs k with
      | some d => some (.ok d S)
      | none => none
    | none => none
  | none => match y with
    | .int i => match seqOf S x with
      | some ds => match atI ds i with
        | some d => some (.ok d S)
        | none => none
      | none => match x with
        | .str z => if z.length ≤ lineN then match atI z.cps.toList i with
          | some c => some (.ok (.str ⟨#[c]⟩) S)
          | none => none
          else none
        | _ => none
    | _ => none
def rDctGet : R2 := fun x y H Q => ∃ a v, x = .ref a ∧ DGet H a y (some v) ∧ Q v H
theorem ix_dct (hu : X.A.units + 64 < cLine) : IxR X rDctGet := by
  intro value slice pins s σ H x y v u Q I rx ry h hs
  obtain ⟨a, d, rfl, g, q⟩ := h
  cases rx
  have hT := dict_typeIs I g
  unfold subscriptTail
  refine wpAny_bind ?_
  rw [getitemInPython_of_ne hT.not_modules]
  refine wpAny_bind (wpAny_specialOf hT PySem.F.slot_dict_getitem.lookup ?_)
  have fin : wpAny (model X.prog X.w) X.A (subscripted slice false (.ref a) u) (fun r s₃ => wpAny (model X.prog X.w) X.A (letTemporaryGo value (.ref a) r >>= fun _ => pure r) (EP X pins σ Q) X.xe s₃) X.xe s := by
    rw [hs]
    exact wpAny_operating (d_getItem (by omega) I g ry fun w' s' I' r' => wpAny_bind (wpAny_letTemporaryGo (wpAny_pure ⟨d, H, I', r', q⟩)))
  first
    | exact wpAny_pure (wpAny_bind fin)
    | exact wpAny_bind (wpAny_pure (wpAny_bind fin))
    | exact wpAny_bind fin
def rIxA (K : PySem.W.Frag) : R2 := fun x y H Q => rDctGet x y H Q ∨ rIx K x y H Q
theorem ix_A (hu : X.A.units + 64 < cLine) : IxR X (rIxA X.K) := (ix_dct hu).or ix_seq
theorem atI_rep {vs : List V} {ds : List D} {i : Int} {d : D} (r : RepL X.K w vs ds) (h : atI ds i = some d) : ∃ v, atI vs i = some v ∧ Rep X.K w v d := by
  unfold atI at h ⊢
  rw [r.length]
  cases e : ixN ds.length i with
  | none => rw [e] at h; cases h
  | some j =>
    rw [e] at h
    exact r.get h
theorem op2_ix : Op2 X (rIxA X.K) dIx := fun w S H x y d e Q W si rx ry p => by
  unfold dIx at p
  cases e1 : dctOf S d with
  | some kvs =>
    rw [e1] at p
    dsimp only at p
    obtain ⟨a, kws, rfl, h1, h2⟩ := dct_is si rx e1
    cases e2 : toKey e with
    | none => rw [e2] at p; exact p.elim
    | some k =>
      rw [e2] at p
      dsimp only at p
      obtain rfl := key_is ry e2
      cases e3 : dLook kvs k with
      | none => rw [e3] at p; exact p.elim
      | some z =>
        rw [e3] at p
        obtain ⟨u, h3, h4⟩ := look_some h2 e3
        exact .inl ⟨a, u, rfl, .inl ⟨_, _, h1, rfl, h3.symm⟩, p w H u (Go.refl _ _ _) si h4⟩
  | none =>
    rw [e1] at p
    dsimp only at p
    cases e with
    | int i =>
      cases ry
      dsimp only at p
      cases e2 : seqOf S d with
      | some ds =>
        rw [e2] at p
        dsimp only at p
        obtain ⟨a, vs, rfl, h1, h2⟩ := seq_is si rx e2
        cases e3 : atI ds i with
        | none => rw [e3] at p; exact p.elim
        | some z =>
          rw [e3] at p
          obtain ⟨u, h3, h4⟩ := atI_rep h2 e3
          have q := p w H u (Go.refl _ _ _) si h4
          rcases h1 with h1 | h1
          · exact .inr (.inl ⟨a, vs, i, u, rfl, rfl, h1, h3, q⟩)
          · exact .inr (.inr (.inl ⟨a, vs, i, u, rfl, rfl, h1, h3, q⟩))
      | none =>
        rw [e2] at p
        dsimp only at p
        cases d with
        | str z =>
          cases rx
          dsimp only at p
          split at p
          · rename_i hz
            cases e3 : atI z.cps.toList i with
            | none => rw [e3] at p; exact p.elim
            | some c =>
              rw [e3] at p
              exact .inr (.inr (.inr ⟨z, i, c, rfl, rfl, by rw [line_is]; exact hz, e3, p w H _ (Go.refl _ _ _) si (.str _)⟩))
          · exact p.elim
        | _ => exact p.elim
    | _ => exact p.elim
variable {C : Cy X} {a b : Expr} {pos : Pos} {ma mb : ME}
theorem j_ix (hu : X.A.units + 64 < cLine) (ha : JE X C a ma) (hb : JE X C b mb) (hs : PlainIx b) : JE X C (.Subscript a b pos) (mOp dIx ma mb) := PE.weak (pe_ix (ix_A hu) ha hb hs) fun _ _ _ h => op2_go op2_ix h
end
end Mi
namespace Mi
open PySem L2

/-! ### slices -/
abbrev MO' := En → M (Option Int)
section
variable {X : Cx}
abbrev RO : Wd → MS → Hp → Option Int → Option Int → Prop := fun _ _ _ a b => a = b
def tO (C : Cy X) (m : MO') : TO := fun σ H Q => ∃ w S env, Me X C w S env σ H ∧ Po X.K X.mg RO (fun c d H => C.W c d σ H) w S H Q (m env S)
end
def JO (X : Cx) (C : Cy X) (e : Option Expr) (m : MO') : Prop := PO X e (tO C m)
section
variable {X : Cx} {C : Cy X} {w : Wd} {S : MS} {H : Hp}
theorem PO.weak {e : Option Expr} {t t' : TO} (h : PO X e t) (k : ∀ σ H Q, t' σ H Q → t σ H Q) : PO X e t' := ⟨fun pins s σ H Q I q => h.run pins s σ H Q I (k σ H Q q)⟩
def oNone : MO' := fun _ => ret none
def oSome (m : ME) : MO' := fun env => bnd (m env) fun d => match d with
  | .int i => ret (some i)
  | _ => stuck
theorem jo_none : JO X C none oNone := PO.weak po_none fun σ H Q ⟨w, S, env, me, p⟩ => p w H none (Go.refl _ _ _) me.si rfl
theorem jo_some {e : Expr} {m : ME} (h : JE X C e m) : JO X C (some e) (oSome m) := PO.weak (po_some h) fun σ H Q ⟨w, S, env, me, p⟩ => by
  refine ⟨w, S, env, me, po_bnd me p fun w1 S1 H1 v d me1 rv g1 p1 => ?_⟩
  cases d with
  | int i =>
    cases rv
    exact ⟨i, rfl, p1 w1 H1 _ (Go.refl _ _ _) me1.si rfl⟩
  | _ => exact p1.elim
def cutD (ds : List D) (lo hi : Option Int) : List D := (ds.drop (HT.sIx ds.length 0 lo)).take (HT.sIx ds.length ds.length hi - HT.sIx ds.length 0 lo)
theorem cut_rep {vs : List V} {ds : List D} (r : RepL X.K w vs ds) (lo hi : Option Int) : RepL X.K w (cutV vs lo hi) (cutD ds lo hi) := by
  unfold cutV cutD
  rw [r.length]
  exact (r.drop _).take _
def dSl (mk : List D → M D) (d : D) (lo hi : Option Int) : M D := fun S => match d with
  | .tup ds => mkT (cutD ds lo hi) S
  | .str z => if z.length ≤ lineN then some (.ok (.str (cutS z lo hi)) S) else none
  | d => match lstOf S d with
    | some ds => mk (cutD ds lo hi) S
    | none => none
def rSlAll (K : PySem.W.Frag) : V → Option Int → Option Int → Hp → VK → Prop := fun x lo hi H Q => rSlL K x lo hi H Q ∨ rSlA K x lo hi H Q ∨ rSlS x lo hi H Q
theorem sl_all : SlR X (rSlAll X.K) := sl_list.or (sl_tupA.or sl_str)
theorem sl_go {mk : List D → M D} (hk : MkS X mk) {x : V} {d : D} {lo hi : Option Int} {Q : VK} {W : Value → Option Addr → Hp → Prop} (si : SI X.K X.mg w S H) (rx : Rep X.K w x d) (p : Po X.K X.mg (RV' X.K) W w S H Q (dSl mk d lo hi S)) : rSlAll X.K x lo hi H Q := by
  unfold dSl at p
  cases d with
  | tup ds =>
    cases rx with
    | @tup a vs _ h1 h2 =>
      obtain ⟨hz, hq⟩ := new_t si (cut_rep h2 lo hi) p
      refine .inr (.inl ⟨a, vs, rfl, sqt_ex si.ex h1, fun he => ?_, fun _ => hq⟩)
      unfold mkT at p
      dsimp only at p
      split at p
      · have e : cutD ds lo hi = ds := by
          unfold cutD
          rw [h2.length] at he
          rw [he.1, he.2, List.drop_zero, Nat.sub_zero, List.take_length]
        exact p w H _ (Go.refl _ _ _) si (.tup h1 (by rw [e]; exact h2))
      · exact p.elim
  | str z =>
    cases rx
    dsimp only at p
    split at p
    · rename_i hz
      exact .inr (.inr ⟨z, rfl, by rw [line_is]; exact hz, p w H _ (Go.refl _ _ _) si (.str _)⟩)
    · exact p.elim
  | lst es =>
    dsimp only at p
    obtain ⟨a, vs, rfl, h1, h2⟩ := lst_is si rx (ds := es) rfl
    obtain ⟨hz, hq⟩ := hk si (cut_rep h2 lo hi) p
    exact .inl ⟨a, vs, rfl, h1, hq⟩
  | src es =>
    dsimp only at p
    obtain ⟨a, vs, rfl, h1, h2⟩ := lst_is si rx (ds := es) rfl
    obtain ⟨hz, hq⟩ := hk si (cut_rep h2 lo hi) p
    exact .inl ⟨a, vs, rfl, h1, hq⟩
  | obj n =>
    dsimp only at p
    cases e : lstOf S (.obj n) with
    | none => rw [e] at p; exact p.elim
    | some ds =>
      rw [e] at p
      obtain ⟨a, vs, rfl, h1, h2⟩ := lst_is si rx e
      obtain ⟨hz, hq⟩ := hk si (cut_rep h2 lo hi) p
      exact .inl ⟨a, vs, rfl, h1, hq⟩
  | _ => exact p.elim
def mSl (mk : List D → M D) (m : ME) (lo hi : MO') : ME := fun env => bnd (m env) fun d => bnd (lo env) fun l => bnd (hi env) fun h => dSl mk d l h
variable {e : Expr} {lo hi : Option Expr} {p2 pos : Pos} {m : ME} {ml mh : MO'}
theorem j_slice {mk : List D → M D} (hk : MkS X mk) (he : JE X C e m) (hl : JO X C lo ml) (hu : JO X C hi mh) : JE X C (.Subscript e (.Slice lo hi none p2) pos) (mSl mk m ml mh) := PE.weak (pe_slice sl_all he hl hu) fun σ H Q ⟨w, S, env, me, p⟩ => by
  refine ⟨w, S, env, me, po_bnd me p fun w1 S1 H1 v d me1 rv g1 p1 => ?_⟩
  refine ⟨w1, S1, env, me1, po_bnd me1 p1 fun w2 S2 H2 l l' me2 rl g2 p2 => ?_⟩
  refine ⟨w2, S2, env, me2, po_bnd me2 p2 fun w3 S3 H3 h h' me3 rh g3 p3 => ?_⟩
  cases (show l = l' from rl)
  cases (show h = h' from rh)
  exact sl_go hk me3.si (rv.le (g2.le.trans g3.le)) p3
/-- x[::-1] -/
def dRev (mk : List D → M D) (d : D) : M D := fun S => match lstOf S d with
  | some ds => mk ds.reverse S
  | none => none
theorem j_rev {mk : List D → M D} (hk : MkS X mk) {k : Nat} {p1 p3 : Pos} (he : JE X C e m) : JE X C (.Subscript e (.Slice none none (some (.UnaryOp .USub (.Constant (.int 1) k p1) p2)) p3) pos) (mOp1 (dRev mk) m) := PE.weak (pe_revL he) fun σ H Q ⟨w, S, env, me, p⟩ => by
  refine ⟨w, S, env, me, po_bnd me p fun w1 S1 H1 v d me1 rv g1 p1 => ?_⟩
  unfold dRev at p1
  cases e : lstOf S1 d with
  | none => rw [e] at p1; exact p1.elim
  | some ds =>
    rw [e] at p1
    obtain ⟨a, vs, rfl, h1, h2⟩ := lst_is me1.si rv e
    obtain ⟨hz, hq⟩ := hk me1.si h2.reverse p1
    exact ⟨a, vs, rfl, h1, hq⟩

/-! ### built-in functions -/
def mFn (f : List D → M D) (a : MA) : ME := fun env => bnd (a env) f
theorem fn_go {r : List V → Hp → VK → Prop} {f : List D → M D} {ms : MA} (hf : OpA X r f) {σ : St} {H : Hp} {Q : VK} (h : tE C (mFn f ms) σ H Q) : tCB r (tA C ms) σ H Q := by
  obtain ⟨w, S, env, me, p⟩ := h
  exact ⟨w, S, env, me, po_bnd me p fun w1 S1 H1 vs ds me1 rv g1 p1 => hf w1 S1 H1 vs ds Q _ me1.si rv p1⟩
section
variable {x : Str} {p : Pos} {es : List Expr} {id T : String} {r : List V → Hp → VK → Prop} {f : List D → M D} {ms : MA}
theorem j_callB (hc : CallR X (.builtin id) r) (hf : OpA X r f) (hg : Gl X x) (hm : X.mg x = none) (hv : bootBuiltins x = some (.builtin id)) (ha : JA X C (e :: es) ms) (hn : x ≠ "__name__" := by decide) (hdb : (x == ("__debug__" : Str)) = false := by decide)
    (he : starEach (e :: es) X.env = (false, eval e X.env) :: starEach es X.env := by rfl) (hpl : (backTo pos (starEach es X.env)).any (·.1) = false := by rfl) : JE X C (.Call (.Name x p) (e :: es) [] pos) (mFn f ms) :=
  PE.weak (pe_callB hc hg hm hv ha hn hdb he hpl) fun _ _ _ h => fn_go hf h
theorem j_callTy (hc : CallR X (.type T) r) (hf : OpA X r f) (hg : Gl X x) (hm : X.mg x = none) (hv : bootBuiltins x = some (.type T)) (ha : JA X C (e :: es) ms) (hn : x ≠ "__name__" := by decide) (hdb : (x == ("__debug__" : Str)) = false := by decide)
    (he : starEach (e :: es) X.env = (false, eval e X.env) :: starEach es X.env := by rfl) (hpl : (backTo pos (starEach es X.env)).any (·.1) = false := by rfl) : JE X C (.Call (.Name x p) (e :: es) [] pos) (mFn f ms) :=
  PE.weak (pe_callTy hc hg hm hv ha hn hdb he hpl) fun _ _ _ h => fn_go hf h
end
def d1 (f : D → M D) : List D → M D := fun ds => match ds with
  | [d] => f d
  | _ => stuck
def d2 (f : D → D → M D) : List D → M D := fun ds => match ds with
  | [d, e] => f d e
  | _ => stuck
theorem opA1 {r : List V → Hp → VK → Prop} {f : D → M D} (h : Op1 X (fun x H Q => r [x] H Q) f) : OpA X r (d1 f) := fun w S H xs ds Q W si rx p => by
  cases rx with
  | nil => exact p.elim
  | cons r1 r2 =>
    cases r2 with
    | nil => exact h w S H _ _ Q W si r1 p
    | cons _ _ => exact p.elim
theorem opA2 {r : List V → Hp → VK → Prop} {f : D → D → M D} (h : Op2 X (fun x y H Q => r [x, y] H Q) f) : OpA X r (d2 f) := fun w S H xs ds Q W si rx p => by
  cases rx with
  | nil => exact p.elim
  | cons r1 r2 =>
    cases r2 with
    | nil => exact p.elim
    | cons r2 r3 =>
      cases r3 with
      | nil => exact h w S H _ _ _ _ Q W si r1 r2 p
      | cons _ _ => exact p.elim
/-- len -/
def lenB (S : MS) (d : D) : Option Int := match dctOf S d with
  | some kvs => some (kvs.length : Int)
  | none => match seqOf S d with
    | some ds => some (ds.length : Int)
    | none => match d with
      | .str z => if z.length ≤ lineN then some (z.length : Int) else none
      | _ => none
def dLen : D → M D := fun d S => match lenB S d with
  | some n => some (.ok (.int n) S)
  | none => none
def rLenA (K : PySem.W.Frag) : List V → Hp → VK → Prop := fun xs H Q => (∃ a kvs, xs = [V.ref a] ∧ Rd H a (.dK kvs) ∧ Q (.int kvs.length) H) ∨ (∃ p ys, xs = [.ref p] ∧ (SqL K H p ys ∨ SqT K H p ys) ∧ Q (.int ys.length) H) ∨ (∃ z, xs = [.str z] ∧ z.length ≤ sizeLine ∧ Q (.int z.length) H)
theorem call_lenRd : CallR X (.builtin "len") (fun xs H Q => ∃ a kvs, xs = [V.ref a] ∧ Rd H a (.dK kvs) ∧ Q (.int kvs.length) H) := by
  intro pins s σ H xs us Q I r h
  obtain ⟨a, kvs, rfl, ha, q⟩ := h
  obtain ⟨u, rfl, ru⟩ := vals1 r
  cases ru
  exact d_len I ha fun t s' I' => ⟨.int kvs.length, H, I', ⟨t, rfl⟩, q⟩
theorem call_lenA : CallR X (.builtin "len") (rLenA X.K) := call_lenRd.or (call_len_seq.or call_len_str)
theorem opA_len : OpA X (rLenA X.K) (d1 dLen) := opA1 fun w S H x d Q W si rx p => by
  unfold dLen lenB at p
  cases e1 : dctOf S d with
  | some kvs =>
    rw [e1] at p
    obtain ⟨a, kws, rfl, h1, h2⟩ := dct_is si rx e1
    exact .inl ⟨a, kws, rfl, h1, p w H _ (Go.refl _ _ _) si (by rw [h2.length]; exact .int _)⟩
  | none =>
    rw [e1] at p
    dsimp only at p
    cases e2 : seqOf S d with
    | some ds =>
      rw [e2] at p
      obtain ⟨a, vs, rfl, h1, h2⟩ := seq_is si rx e2
      exact .inr (.inl ⟨a, vs, rfl, h1, p w H _ (Go.refl _ _ _) si (by rw [h2.length]; exact .int _)⟩)
    | none =>
      rw [e2] at p
      dsimp only at p
      cases d with
      | str z =>
        cases rx
        dsimp only at p
        by_cases hz : z.length ≤ lineN
        · rw [if_pos hz] at p
          exact .inr (.inr ⟨z, rfl, by rw [line_is]; exact hz, p w H _ (Go.refl _ _ _) si (.int _)⟩)
        · rw [if_neg hz] at p
          exact p.elim
      | _ => exact p.elim
/-- list(x): of a list, a tuple, a dict's keys -/
def keyD : Key → D
  | .inl i => .int i
  | .inr x => .str x
theorem keyD_rep (k : Key) : Rep X.K w (kV k) (keyD k) := by
  cases k with
  | inl i => exact .int i
  | inr x => exact .str x
theorem keys_rep : ∀ {kws : List (Key × V)} {kvs : List (Key × D)}, RepK X.K w kws kvs → RepL X.K w (kws.map fun kv => kV kv.1) (kvs.map fun kv => keyD kv.1)
  | _, [], h => by cases h; exact .nil
  | _, (k', d') :: kvs, h => by
    cases h with
    | cons h1 h2 => exact .cons (keyD_rep k') (keys_rep h2)
theorem vals_rep : ∀ {kws : List (Key × V)} {kvs : List (Key × D)}, RepK X.K w kws kvs → RepL X.K w (kws.map fun kv => kv.2) (kvs.map fun kv => kv.2)
  | _, [], h => by cases h; exact .nil
  | _, (k', d') :: kvs, h => by
    cases h with
    | cons h1 h2 => exact .cons h1 (vals_rep h2)
def dList (mk : List D → M D) : D → M D := fun d S => match dctOf S d with
  | some kvs => mk (kvs.map fun kv => keyD kv.1) S
  | none => match seqOf S d with
    | some ds => mk ds S
    | none => none
def rListDR : List V → Hp → VK → Prop := fun xs H Q => ∃ p kvs, xs = [.ref p] ∧ Rd H p (.dK kvs) ∧ ∀ q, H q = none → Q (.ref q) (upd H q (.lst (kvs.map fun kv => kV kv.1)))
theorem call_list_dKR (hc : X.calm = true) : CallR X (.type "list") rListDR := by
  intro pins s σ H xs us Q I r h
  obtain ⟨p, kvs, e, hk, q⟩ := h
  subst e
  obtain ⟨u, eu, rx⟩ := vals1 r
  subst eu
  obtain rfl : u = Value.ref p := rx
  obtain ⟨z, lo, vs, rk, hd⟩ := dk_rd I.hok hk
  obtain ⟨ep, hat⟩ := hd.dictAt
  have hl : kvs.length = vs.length := Paired.length rk
  refine PySem.W.kdl_call (PySem.W.kdl_dict (knd := mixKind X.prog X.w) (kvs := vs) (ep := ep) lo) (I.ok.hd hc) hat (by rw [← hl]; exact z) fun h' tk acc' c' hkeep hS hacc => ?_
  refine ⟨.ref s.heap.objs.size, upd H s.heap.objs.size (.lst (kvs.map fun kv => kV kv.1)), I.laid hkeep (Nat.le_refl _) (show ObjOk X.prog X.w _ _ _ (.lst (kvs.map fun kv => kV kv.1)) from ⟨?_, acc'.toList, c', ?_, ?_⟩), rfl, q _ (I.hok.fresh (Nat.le_refl _))⟩
  · rw [List.length_map]; exact z
  · have el : acc'.toList.length = acc'.size := by simp
    refine vals_of_at (by rw [List.length_map, el, hacc.1, hl]) fun j x w h1 h2 => ?_
    obtain ⟨k, y, hky, hi⟩ := hacc.2 j w (by rw [← Array.getElem?_toList]; exact h2)
    have e1 : (kvs.map (·.1))[j]? = some k := by
      rw [KV.keys rk, List.getElem?_map, hky] <;> rfl
    have e2 : (kvs.map fun kv => kV kv.1)[j]? = some (kV k) := by
      have e3 : (kvs.map fun kv => kV kv.1) = (kvs.map (·.1)).map kV := by rw [List.map_map] <;> rfl
      rw [e3, List.getElem?_map, e1] <;> rfl
    rw [e2] at h1
    cases h1
    exact keyIs_rel hi
  · rw [Array.toArray_toList]; exact hS
def rListA (K : PySem.W.Frag) : List V → Hp → VK → Prop := fun xs H Q => rListDR xs H Q ∨ ∃ p ys, xs = [.ref p] ∧ (SqL K H p ys ∨ SqT K H p ys) ∧ ∀ l, H l = none → Q (.ref l) (upd H l (.lst ys))
theorem call_listA (hc : X.calm = true) : CallR X (.type "list") (rListA X.K) := (call_list_dKR hc).or call_list_of
theorem opA_list {mk : List D → M D} (hk : MkS X mk) : OpA X (rListA X.K) (d1 (dList mk)) := opA1 fun w S H x d Q W si rx p => by
  unfold dList at p
  cases e1 : dctOf S d with
  | some kvs =>
    rw [e1] at p
    obtain ⟨a, kws, rfl, h1, h2⟩ := dct_is si rx e1
    obtain ⟨hz, hq⟩ := hk si (keys_rep h2) p
    exact .inl ⟨a, kws, rfl, h1, hq⟩
  | none =>
    rw [e1] at p
    dsimp only at p
    cases e2 : seqOf S d with
    | some ds =>
      rw [e2] at p
      obtain ⟨a, vs, rfl, h1, h2⟩ := seq_is si rx e2
      obtain ⟨hz, hq⟩ := hk si h2 p
      exact .inr ⟨a, vs, rfl, h1, hq⟩
    | none => rw [e2] at p; exact p.elim
def dTuple : D → M D := fun d S => match d with
  | .tup ds => some (.ok (.tup ds) S)
  | d => match lstOf S d with
    | some ds => mkT ds S
    | none => none
def rTupleA (K : PySem.W.Frag) : List V → Hp → VK → Prop := fun xs H Q => ∃ p ys, xs = [.ref p] ∧ ((SqL K H p ys ∧ ∀ l, H l = none → Q (.ref l) (upd H l (.tup ys))) ∨ (SqT K H p ys ∧ Q (.ref p) H))
theorem call_tupleA : CallR X (.type "tuple") (rTupleA X.K) := call_tuple_of
theorem opA_tuple : OpA X (rTupleA X.K) (d1 dTuple) := opA1 fun w S H x d Q W si rx p => by
  have gen : ∀ ds, lstOf S d = some ds → Po X.K X.mg (RV' X.K) W w S H Q (mkT ds S) → rTupleA X.K [x] H Q := fun ds e p => by
    obtain ⟨a, vs, rfl, h1, h2⟩ := lst_is si rx e
    obtain ⟨hz, hq⟩ := new_t si h2 p
    exact ⟨a, vs, rfl, .inl ⟨h1, hq⟩⟩
  unfold dTuple at p
  cases d with
  | tup ds =>
    cases rx with
    | @tup a vs _ h1 h2 => exact ⟨a, vs, rfl, .inr ⟨sqt_ex si.ex h1, p w H _ (Go.refl _ _ _) si (.tup h1 h2)⟩⟩
  | _ =>
    dsimp only at p
    split at p
    · exact gen _ (by assumption) p
    · exact p.elim
def dInt : D → M D := fun d => match d with
  | .int i => ret (.int i)
  | .bl k => ret (.int (if k then 1 else 0))
  | _ => stuck
theorem opA_int : OpA X (fun xs H Q => (∃ i, xs = [.int i] ∧ Q (.int i) H) ∨ ∃ k, xs = [.bl k] ∧ Q (.int (if k then 1 else 0)) H) (d1 dInt) := opA1 fun w S H x d Q W si rx p => by
  cases d with
  | int i =>
    cases rx
    exact .inl ⟨i, rfl, p w H _ (Go.refl _ _ _) si (.int _)⟩
  | bl k =>
    cases rx
    exact .inr ⟨k, rfl, p w H _ (Go.refl _ _ _) si (.int _)⟩
  | _ => exact p.elim
def dAbs : D → M D := fun d => match d with
  | .int i => ret (.int (if i < 0 then -i else i))
  | _ => stuck
theorem opA_abs : OpA X (fun xs H Q => ∃ i, xs = [.int i] ∧ Q (.int (if i < 0 then -i else i)) H) (d1 dAbs) := opA1 fun w S H x d Q W si rx p => by
  cases d with
  | int i =>
    cases rx
    exact ⟨i, rfl, p w H _ (Go.refl _ _ _) si (.int _)⟩
  | _ => exact p.elim
def dMax2 : D → D → M D := dI fun i j => .int (if j > i then j else i)
def dMin2 : D → D → M D := dI fun i j => .int (if j < i then j else i)
theorem opA_max2 : OpA X (fun xs H Q => ∃ i j, xs = [.int i, .int j] ∧ Q (.int (if j > i then j else i)) H) (d2 dMax2) := opA2 fun w S H x y d e Q W si rx ry p => by
  cases d with
  | int i =>
    cases e with
    | int j =>
      cases rx
      cases ry
      exact ⟨i, j, rfl, p w H _ (Go.refl _ _ _) si (.int _)⟩
    | _ => exact p.elim
  | _ => exact p.elim
theorem opA_min2 : OpA X (fun xs H Q => ∃ i j, xs = [.int i, .int j] ∧ Q (.int (if j < i then j else i)) H) (d2 dMin2) := opA2 fun w S H x y d e Q W si rx ry p => by
  cases d with
  | int i =>
    cases e with
    | int j =>
      cases rx
      cases ry
      exact ⟨i, j, rfl, p w H _ (Go.refl _ _ _) si (.int _)⟩
    | _ => exact p.elim
  | _ => exact p.elim
/-- lists of bools, of ints -/
def blsOf : List D → Option (List Bool)
  | [] => some []
  | .bl b :: r => (blsOf r).map (b :: ·)
  | _ :: _ => none
def intsOf : List D → Option (List Int)
  | [] => some []
  | .int b :: r => (intsOf r).map (b :: ·)
  | _ :: _ => none
theorem bls_is : ∀ {ds : List D} {vs : List V} {bs : List Bool}, RepL X.K w vs ds → blsOf ds = some bs → vs = bs.map V.bl
  | [], _, _, h, e => by
    cases h
    cases e
    rfl
  | d :: ds, _, _, h, e => by
    cases h with
    | cons h1 h2 =>
      cases d with
      | bl b =>
        cases h1
        unfold blsOf at e
        cases q : blsOf ds with
        | none => rw [q] at e; cases e
        | some cs =>
          rw [q] at e
          cases e
          rw [bls_is h2 q]
          rfl
      | _ => cases e
theorem ints_is : ∀ {ds : List D} {vs : List V} {bs : List Int}, RepL X.K w vs ds → intsOf ds = some bs → vs = bs.map V.int
  | [], _, _, h, e => by
    cases h
    cases e
    rfl
  | d :: ds, _, _, h, e => by
    cases h with
    | cons h1 h2 =>
      cases d with
      | int b =>
        cases h1
        unfold intsOf at e
        cases q : intsOf ds with
        | none => rw [q] at e; cases e
        | some cs =>
          rw [q] at e
          cases e
          rw [ints_is h2 q]
          rfl
      | _ => cases e
def dBls (g : List Bool → D) : D → M D := fun d S => match lstOf S d with
  | some ds => match blsOf ds with
    | some bs => some (.ok (g bs) S)
    | none => none
  | none => none
def dInts (c : List Int → Bool) (g : List Int → D) : D → M D := fun d S => match lstOf S d with
  | some ds => match intsOf ds with
    | some bs => if c bs = true then some (.ok (g bs) S) else none
    | none => none
  | none => none
def dAll : D → M D := dBls fun bs => .bl (bs.all id)
def dAny : D → M D := dBls fun bs => .bl (bs.any id)
theorem bls_go {g : List Bool → D} {x : V} {d : D} {W : Value → Option Addr → Hp → Prop} {Q : VK} {w : Wd} {S : MS} {H : Hp} (si : SI X.K X.mg w S H) (rx : Rep X.K w x d) (p : Po X.K X.mg (RV' X.K) W w S H Q (dBls g d S)) :
    ∃ a bs, x = V.ref a ∧ SqL X.K H a (bs.map V.bl) ∧ ∀ v, (∀ w, Rep X.K w v (g bs)) → Q v H := by
  unfold dBls at p
  cases e1 : lstOf S d with
  | none => rw [e1] at p; exact p.elim
  | some ds =>
    rw [e1] at p
    dsimp only at p
    obtain ⟨a, vs, rfl, h1, h2⟩ := lst_is si rx e1
    cases e2 : blsOf ds with
    | none => rw [e2] at p; exact p.elim
    | some bs =>
      rw [e2] at p
      rw [bls_is h2 e2] at h1
      exact ⟨a, bs, rfl, h1, fun v r => p w H v (Go.refl _ _ _) si (r w)⟩
theorem ints_go {c : List Int → Bool} {g : List Int → D} {x : V} {d : D} {W : Value → Option Addr → Hp → Prop} {Q : VK} {w : Wd} {S : MS} {H : Hp} (si : SI X.K X.mg w S H) (rx : Rep X.K w x d) (p : Po X.K X.mg (RV' X.K) W w S H Q (dInts c g d S)) :
    ∃ a bs, x = V.ref a ∧ SqL X.K H a (bs.map V.int) ∧ c bs = true ∧ ∀ v, (∀ w, Rep X.K w v (g bs)) → Q v H := by
  unfold dInts at p
  cases e1 : lstOf S d with
  | none => rw [e1] at p; exact p.elim
  | some ds =>
    rw [e1] at p
    dsimp only at p
    obtain ⟨a, vs, rfl, h1, h2⟩ := lst_is si rx e1
    cases e2 : intsOf ds with
    | none => rw [e2] at p; exact p.elim
    | some bs =>
      rw [e2] at p
      dsimp only at p
      rw [ints_is h2 e2] at h1
      split at p
      · exact ⟨a, bs, rfl, h1, by assumption, fun v r => p w H v (Go.refl _ _ _) si (r w)⟩
      · exact p.elim
theorem opA_all : OpA X (rAll X.K) (d1 dAll) := opA1 fun w S H x d Q W si rx p => by
  obtain ⟨a, bs, rfl, h1, q⟩ := bls_go si rx p
  exact ⟨a, bs, rfl, h1, q _ fun _ => .bl _⟩
theorem opA_any : OpA X (rAny X.K) (d1 dAny) := opA1 fun w S H x d Q W si rx p => by
  obtain ⟨a, bs, rfl, h1, q⟩ := bls_go si rx p
  exact ⟨a, bs, rfl, h1, q _ fun _ => .bl _⟩
def dSum : D → M D := dInts (fun _ => true) fun ns => .int ns.sum
theorem opA_sum : OpA X (rSum X.K) (d1 dSum) := opA1 fun w S H x d Q W si rx p => by
  obtain ⟨a, bs, rfl, h1, _, q⟩ := ints_go si rx p
  exact ⟨a, bs, rfl, h1, q _ fun _ => .int _⟩
def maxI : List Int → Int
  | [] => 0
  | [a] => a
  | a :: r => if maxI r ≤ a then a else maxI r
def minI : List Int → Int
  | [] => 0
  | [a] => a
  | a :: r => if a ≤ minI r then a else minI r
theorem maxI_is : ∀ {ns : List Int} {m : Int}, m ∈ ns → (∀ y, y ∈ ns → y ≤ m) → m = maxI ns
  | [a], m, h, _ => by simpa [maxI] using h
  | a :: b :: r, m, h, hm => by
    unfold maxI
    have ha := hm a List.mem_cons_self
    by_cases hr : m ∈ b :: r
    · have e := maxI_is hr fun y hy => hm y (List.mem_cons_of_mem _ hy)
      rw [← e]
      split
      · omega
      · rfl
    · have e : m = a := by
        rcases List.mem_cons.mp h with z | z
        · exact z
        · exact absurd z hr
      have hx : ∀ (l : List Int), l ≠ [] → maxI l ∈ l := by
        intro l
        induction l with
        | nil => intro z; exact absurd rfl z
        | cons c t ih =>
          intro _
          cases t with
          | nil => simp [maxI]
          | cons d t =>
            unfold maxI
            split
            · exact List.mem_cons_self
            · exact List.mem_cons_of_mem _ (ih (by simp))
      have h2 := hm _ (List.mem_cons_of_mem _ (hx (b :: r) (by simp)))
      rw [if_pos (by omega)]
      exact e
theorem minI_is : ∀ {ns : List Int} {m : Int}, m ∈ ns → (∀ y, y ∈ ns → m ≤ y) → m = minI ns
  | [a], m, h, _ => by simpa [minI] using h
  | a :: b :: r, m, h, hm => by
    unfold minI
    have ha := hm a List.mem_cons_self
    by_cases hr : m ∈ b :: r
    · have e := minI_is hr fun y hy => hm y (List.mem_cons_of_mem _ hy)
      rw [← e]
      split
      · omega
      · rfl
    · have e : m = a := by
        rcases List.mem_cons.mp h with z | z
        · exact z
        · exact absurd z hr
      have hx : ∀ (l : List Int), l ≠ [] → minI l ∈ l := by
        intro l
        induction l with
        | nil => intro z; exact absurd rfl z
        | cons c t ih =>
          intro _
          cases t with
          | nil => simp [minI]
          | cons d t =>
            unfold minI
            split
            · exact List.mem_cons_self
            · exact List.mem_cons_of_mem _ (ih (by simp))
      have h2 := hm _ (List.mem_cons_of_mem _ (hx (b :: r) (by simp)))
      rw [if_pos (by omega)]
      exact e
def dMaxL : D → M D := dInts (fun ns => !ns.isEmpty) fun ns => .int (maxI ns)
def dMinL : D → M D := dInts (fun ns => !ns.isEmpty) fun ns => .int (minI ns)
theorem opA_maxL : OpA X (rMax X.K) (d1 dMaxL) := opA1 fun w S H x d Q W si rx p => by
  obtain ⟨a, bs, rfl, h1, hc, q⟩ := ints_go si rx p
  refine ⟨a, bs, rfl, h1, by cases bs with | nil => simp at hc | cons _ _ => simp, fun m hm hx => ?_⟩
  rw [maxI_is hm hx]
  exact q _ fun _ => .int _
theorem opA_minL : OpA X (rMin X.K) (d1 dMinL) := opA1 fun w S H x d Q W si rx p => by
  obtain ⟨a, bs, rfl, h1, hc, q⟩ := ints_go si rx p
  refine ⟨a, bs, rfl, h1, by cases bs with | nil => simp at hc | cons _ _ => simp, fun m hm hx => ?_⟩
  rw [minI_is hm hx]
  exact q _ fun _ => .int _
/-- sorted, ints -/
def insI (a : Int) : List Int → List Int
  | [] => [a]
  | b :: r => if a ≤ b then a :: b :: r else b :: insI a r
def sortI : List Int → List Int
  | [] => []
  | a :: r => insI a (sortI r)
theorem insI_perm (a : Int) : ∀ l : List Int, (insI a l).Perm (a :: l)
  | [] => List.Perm.refl _
  | b :: r => by
    unfold insI
    split
    · exact List.Perm.refl _
    · exact ((insI_perm a r).cons b).trans (List.Perm.swap a b r)
theorem sortI_perm : ∀ l : List Int, (sortI l).Perm l
  | [] => List.Perm.refl _
  | a :: r => (insI_perm a _).trans ((sortI_perm r).cons a)
theorem insI_sorted (a : Int) : ∀ {l : List Int}, l.Pairwise (· ≤ ·) → (insI a l).Pairwise (· ≤ ·)
  | [], _ => List.pairwise_singleton _ _
  | b :: r, h => by
    unfold insI
    have h' := List.pairwise_cons.mp h
    split
    · rename_i hab
      refine List.pairwise_cons.mpr ⟨fun y hy => ?_, h⟩
      rcases List.mem_cons.mp hy with e | e
      · omega
      · exact Int.le_trans hab (h'.1 y e)
    · rename_i hab
      refine List.pairwise_cons.mpr ⟨fun y hy => ?_, insI_sorted a h'.2⟩
      rcases List.mem_cons.mp ((insI_perm a r).mem_iff.mp hy) with e | e
      · omega
      · exact h'.1 y e
theorem sortI_sorted : ∀ l : List Int, (sortI l).Pairwise (· ≤ ·)
  | [] => List.Pairwise.nil
  | a :: r => insI_sorted a (sortI_sorted r)
theorem sorted_unique : ∀ {l l' : List Int}, l.Perm l' → l.Pairwise (· ≤ ·) → l'.Pairwise (· ≤ ·) → l = l'
  | [], l', p, _, _ => (List.nil_perm.mp p).symm
  | a :: r, [], p, _, _ => by
    have := p.length_eq
    simp at this
  | a :: r, b :: t, p, h, h' => by
    have h1 := List.pairwise_cons.mp h
    have h2 := List.pairwise_cons.mp h'
    have e : a = b := by
      have ha : a ∈ b :: t := p.mem_iff.mp List.mem_cons_self
      have hb : b ∈ a :: r := p.mem_iff.mpr List.mem_cons_self
      have q1 : b ≤ a := by
        rcases List.mem_cons.mp ha with e | e
        · omega
        · exact h2.1 a e
      have q2 : a ≤ b := by
        rcases List.mem_cons.mp hb with e | e
        · omega
        · exact h1.1 b e
      omega
    subst e
    rw [sorted_unique (List.Perm.cons_inv p) h1.2 h2.2]
def dSorted (mk : List D → M D) : D → M D := fun d S => match lstOf S d with
  | some ds => match intsOf ds with
    | some ns => mk ((sortI ns).map D.int) S
    | none => none
  | none => none
theorem intsD_rep : ∀ ns : List Int, RepL X.K w (ns.map V.int) (ns.map D.int)
  | [] => .nil
  | n :: r => .cons (.int n) (intsD_rep r)
theorem opA_sorted {mk : List D → M D} (hk : MkS X mk) : OpA X (rSortedI X.K) (d1 (dSorted mk)) := opA1 fun w S H x d Q W si rx p => by
  unfold dSorted at p
  cases e1 : lstOf S d with
  | none => rw [e1] at p; exact p.elim
  | some ds =>
    rw [e1] at p
    dsimp only at p
    obtain ⟨a, vs, rfl, h1, h2⟩ := lst_is si rx e1
    cases e2 : intsOf ds with
    | none => rw [e2] at p; exact p.elim
    | some ns =>
      rw [e2] at p
      rw [ints_is h2 e2] at h1
      obtain ⟨hz, hq⟩ := hk si (intsD_rep (sortI ns)) p
      refine ⟨a, ns, rfl, h1, fun ns' q hp hs hn => ?_⟩
      rw [sorted_unique (hp.trans (sortI_perm ns).symm) hs (sortI_sorted ns)]
      exact hq q hn
/-! ### isinstance -/
def kindOf (S : MS) (d : D) : Option String := match d with
  | .non => some "NoneType"
  | .bl _ => some "bool"
  | .int _ => some "int"
  | .str _ => some "str"
  | .lst _ => some "list"
  | .src _ => some "list"
  | .tup _ => some "tuple"
  | .dct _ => some "dict"
  | .ty _ => none
  | .obj n => match S.get n with
    | some (.lst _) => some "list"
    | some (.ll _) => some "list"
    | some (.dk _) => some "dict"
    | some (.lk _) => some "dict"
    | _ => none
def tysN : List String := ["NoneType", "bool", "int", "str", "list", "tuple", "dict"]
def isiB (a b : String) : Option Bool := if tysN.contains a && tysN.contains b then some (a == b || (a == "bool" && b == "int")) else none
theorem isi_kit : ∀ a ∈ tysN, ∀ b ∈ tysN, kitB a b = some (a == b || (a == "bool" && b == "int")) := by decide +kernel
theorem isi_ok {K : PySem.W.Frag} {a b : String} {r : Bool} (h : isiB a b = some r) : PySem.W.kitOne K (.type a) (.type b) = some r := by
  unfold isiB at h
  split at h
  · rename_i hc
    rw [Bool.and_eq_true] at hc
    cases h
    exact kit_ty (isi_kit a (List.contains_iff_mem.mp hc.1) b (List.contains_iff_mem.mp hc.2))
  · cases h
theorem kind_is {x : V} {d : D} {k : String} {w : Wd} {S : MS} {H : Hp} (si : SI X.K X.mg w S H) (rx : Rep X.K w x d) (h : kindOf S d = some k) : TyX X.K H x (.type k) := by
  have lst : ∀ {a : Addr} {vs : List V}, SqL X.K H a vs → TyX X.K H (.ref a) (.type "list") := fun {a vs} h => by
    rcases h with (h | ⟨o, h⟩) | ⟨o, its, n, h1, h2, _⟩
    · exact .base (.lst h)
    · exact .base (.frz h)
    · exact .kList h1 h2
  cases d with
  | non => cases rx; cases h; exact .base .non
  | bl b => cases rx; cases h; exact .base (.bl b)
  | int b => cases rx; cases h; exact .base (.int b)
  | str b => cases rx; cases h; exact .base (.str b)
  | ty n => cases h
  | lst es =>
    cases rx with
    | lst h1 h2 => cases h; exact lst (.inl (rd_ex si.ex h1))
  | src es =>
    cases rx with
    | src h1 h2 => cases h; exact lst (sql_ex si.ex h1)
  | tup es =>
    cases rx with
    | tup h1 h2 =>
      cases h
      rcases sqt_ex si.ex h1 with (h | ⟨o, h⟩) | ⟨o, its, n, h1, h2, _⟩
      · exact .base (.tup h)
      · exact .fTuple h
      · exact .kTuple h1 h2
  | dct es =>
    cases rx with
    | dct h1 h2 => cases h; exact .fDict (si.ex _ _ h1)
  | obj n =>
    cases rx with
    | obj h1 =>
      unfold kindOf at h
      dsimp only at h
      cases e : S.get n with
      | none => rw [e] at h; cases h
      | some o =>
        rw [e] at h
        obtain ⟨_, _, ho, h3, h4⟩ := si.st n _ e
        cases o with
        | lst es =>
          cases h
          cases ho with
          | lst vs => exact lst (.inl (.inl h3))
          | _ => exact h4.elim
        | dk es =>
          cases h
          cases ho with
          | dK vs => exact .base (.dK h3)
          | _ => exact h4.elim
        | lk es =>
          cases h
          cases ho with
          | frz ob u =>
            cases u with
            | dK vs => exact .fDict h3
            | _ => exact h4.elim
          | _ => exact h4.elim
        | ll es =>
          cases h
          cases ho with
          | frz ob u =>
            cases u with
            | lst vs => exact .base (.frz h3)
            | _ => exact h4.elim
          | _ => exact h4.elim
        | ins _ _ => cases h
def dIsi : D → D → M D := fun x y S => match y with
  | .ty T => match kindOf S x with
    | some k => match isiB k T with
      | some b => some (.ok (.bl b) S)
      | none => none
    | none => none
  | _ => none
theorem opA_isi : OpA X (rIsi X.K) (d2 dIsi) := opA2 fun w S H x y d e Q W si rx ry p => by
  unfold dIsi at p
  cases e with
  | ty T =>
    cases ry
    dsimp only at p
    cases e1 : kindOf S d with
    | none => rw [e1] at p; exact p.elim
    | some k =>
      rw [e1] at p
      dsimp only at p
      cases e2 : isiB k T with
      | none => rw [e2] at p; exact p.elim
      | some b =>
        rw [e2] at p
        exact ⟨x, _, _, _, b, rfl, .ty T, kind_is si rx e1, isi_ok e2, p w H _ (Go.refl _ _ _) si (.bl b)⟩
  | _ => exact p.elim
end
end Mi
namespace Mi
open PySem L2

section
variable {X : Cx} {C : Cy X}
/-! ### what a thing becomes -/
theorem SI.lockS {K : PySem.W.Frag} {mg : Str → Option Value} {w : Wd} {S : MS} {H : Hp} (I : SI K mg w S H) {n : Nat} {kvs : List (Key × D)} {kws : List (Key × V)} (h : S.get n = some (.dk kvs)) (e : H (w.φ n) = some (.dK kws)) (od : Obj) :
    SI K mg w (S.set n (.lk kvs)) (upd H (w.φ n) (.frz od (.dK kws))) ∧ Go w S H w (S.set n (.lk kvs)) (upd H (w.φ n) (.frz od (.dK kws))) := by
  obtain ⟨_, _, ho, h3, h4⟩ := I.st n _ h
  rw [e] at h3
  cases h3
  exact I.set h (o := .lk kvs) (ho := .frz od (.dK kws)) h4
theorem SI.unlock {K : PySem.W.Frag} {mg : Str → Option Value} {w : Wd} {S : MS} {H : Hp} (I : SI K mg w S H) {n : Nat} {o1 o2 : MO} {u2 : HO} (h : S.get n = some o1) (r : ObR K mg w o2 u2) :
    SI K mg w (S.set n o2) (upd H (w.φ n) u2) ∧ ∀ a o, Fo w S H a o → Fo w (S.set n o2) (upd H (w.φ n) u2) a o := by
  obtain ⟨g1, g2, _, g3, g4⟩ := I.st n _ h
  refine ⟨⟨I.nx, fun a u q => ?_, fun k ob q => ?_, fun k k' ob ob' q q' e => ?_⟩, fun a u q => ?_⟩
  · rw [upd_ne (ne_of_none q g2)]; exact I.ex a u q
  · have q' : (if k = n then some o2 else S.get k) = some ob := q
    by_cases e : k = n
    · rw [if_pos e] at q'
      cases q'
      subst e
      exact ⟨g1, g2, _, upd_same, r⟩
    · rw [if_neg e] at q'
      obtain ⟨h1, h2, ho', h3, h4⟩ := I.st k ob q'
      exact ⟨h1, h2, ho', by rw [upd_ne (fun z => e (I.inj _ _ _ _ q' h z))]; exact h3, h4⟩
  · have q1 : (if k = n then some o2 else S.get k) = some ob := q
    have q2 : (if k' = n then some o2 else S.get k') = some ob' := q'
    by_cases a : k = n
    · by_cases b : k' = n
      · rw [a, b]
      · rw [if_neg b] at q2
        rw [a] at e ⊢
        exact I.inj _ _ _ _ h q2 e
    · rw [if_neg a] at q1
      by_cases b : k' = n
      · rw [b] at e ⊢
        exact I.inj _ _ _ _ q1 h e
      · rw [if_neg b] at q2
        exact I.inj _ _ _ _ q1 q2 e
  · obtain ⟨h1, h2, h3⟩ := q
    refine ⟨by rw [upd_ne (h3 n _ h).symm]; exact h1, h2, fun k ob q => ?_⟩
    have q' : (if k = n then some o2 else S.get k) = some ob := q
    by_cases e : k = n
    · rw [e]; exact h3 n _ h
    · rw [if_neg e] at q'
      exact h3 k ob q'
theorem pe_post {e : Expr} {t : TE} (h : PE X e t) : PE X e (fun σ H Q => t σ H fun v H1 => Q v H1 ∨ ∃ a kvs, H1 a = some (.dK kvs) ∧ ∀ od, Q v (upd H1 a (.frz od (.dK kvs)))) := ⟨fun pins s σ H Q I hw => thn (h.run pins s σ H _ I hw) fun u s1 ⟨x, H1, I1, r, q⟩ => by
  rcases q with q | ⟨a, kvs, ha, q⟩
  · exact ⟨x, H1, I1, r, q⟩
  · obtain ⟨od, I2⟩ := I1.lock ha (by exact True.intro)
    exact ⟨x, _, I2, r, q od⟩⟩
/-- what may change is data from now on -/
def fz : D → M D := fun d S => match d with
  | .obj n => match S.get n with
    | some (.lst ds) => some (.ok (.lst ds) (S.del n))
    | some (.dk kvs) => some (.ok (.dct kvs) (S.del n))
    | _ => some (.ok d S)
  | d => some (.ok d S)
def mFz (m : ME) : ME := mOp1 fz m
theorem fz_go {v : V} {d : D} {w : Wd} {S : MS} {H : Hp} {W : Value → Option Addr → Hp → Prop} {Q : VK} (si : SI X.K X.mg w S H) (r : Rep X.K w v d) (p : Po X.K X.mg (RV' X.K) W w S H Q (fz d S)) :
    Q v H ∨ ∃ a kvs, H a = some (.dK kvs) ∧ ∀ od, Q v (upd H a (.frz od (.dK kvs))) := by
  unfold fz at p
  cases d with
  | obj n =>
    cases r with
    | obj hn =>
      dsimp only at p
      cases e : S.get n with
      | none => rw [e] at p; exact .inl (p w H _ (Go.refl _ _ _) si (.obj hn))
      | some o =>
        rw [e] at p
        obtain ⟨_, h2, ho, h3, h4⟩ := si.st n _ e
        cases o with
        | lst ds =>
          dsimp only at p
          cases ho with
          | lst vs =>
            obtain ⟨s1, g1⟩ := si.del e h3
            exact .inl (p _ H _ g1 s1 (.lst (.inl upd_same) (RepL.le g1.le h4)))
          | _ => exact h4.elim
        | dk kvs =>
          dsimp only at p
          cases ho with
          | dK kws =>
            refine .inr ⟨_, kws, h3, fun od => ?_⟩
            obtain ⟨s1, g1⟩ := si.lockS e h3 od
            obtain ⟨s2, g2⟩ := s1.del (n := n) (o := .lk kvs) (by show (if n = n then _ else _) = _; rw [if_pos rfl]) upd_same
            have es : (S.set n (.lk kvs)).del n = S.del n := by
              unfold MS.set MS.del
              dsimp only
              congr 1
              funext k
              split <;> rfl
            rw [es] at s2 g2
            exact p _ _ _ (g1.trans g2) s2 (.dct (ob := od) upd_same (RepK.le (g1.le.trans g2.le) h4))
          | _ => exact h4.elim
        | lk kvs => exact .inl (p w H _ (Go.refl _ _ _) si (.obj hn))
        | ll kvs => exact .inl (p w H _ (Go.refl _ _ _) si (.obj hn))
        | ins c fs => exact .inl (p w H _ (Go.refl _ _ _) si (.obj hn))
  | _ => exact .inl (p w H _ (Go.refl _ _ _) si r)
theorem j_fz {e : Expr} {m : ME} (h : JE X C e m) : JE X C e (mFz m) := PE.weak (pe_post h) fun σ H Q ⟨w, S, env, me, p⟩ =>
  ⟨w, S, env, me, po_bnd me p fun w1 S1 H1 v d me1 rv g1 p1 => fz_go me1.si rv p1⟩
/-- a dict that may change is read only, while e runs: it stands in slot i, or is the attribute k of what stands there -/
def refOf (env : En) (S : MS) : List Nat → Option Nat
  | [i] => match env[i]? with
    | some (some (.obj n)) => some n
    | _ => none
  | [i, k] => match env[i]? with
    | some (some (.obj n)) => match S.get n with
      | some (.ins _ fs) => match fs[k]? with
        | some (.obj m) => some m
        | _ => none
      | _ => none
    | _ => none
  | _ => none
def mLk (path : List Nat) (m : ME) : ME := fun env S => match refOf env S path with
  | none => none
  | some n => match S.get n with
    | some (.dk kvs) => match m env (S.set n (.lk kvs)) with
      | some (.ok d S') => match S'.get n with
        | some (.lk kvs') => some (.ok d (S'.set n (.dk kvs')))
        | _ => none
      | _ => none
    | some (.lst ds) => match m env (S.set n (.ll ds)) with
      | some (.ok d S') => match S'.get n with
        | some (.ll ds') => some (.ok d (S'.set n (.lst ds')))
        | _ => none
      | _ => none
    | _ => none
theorem j_lk {e : Expr} {m : ME} (path : List Nat) (h : JE X C e m) : JE X C e (mLk path m) := PE.weak (pe_lock h) fun σ H Q ⟨w, S, env, me, p⟩ => by
  unfold mLk at p
  cases e1 : refOf env S path with
  | none => rw [e1] at p; exact p.elim
  | some n =>
    rw [e1] at p
    dsimp only at p
    cases e2 : S.get n with
    | none => rw [e2] at p; exact p.elim
    | some o =>
      rw [e2] at p
      cases o with
      | dk kvs =>
        dsimp only at p
        obtain ⟨hm, h2, ho, h3, h4⟩ := me.si.st n _ e2
        cases ho with
        | dK kws =>
          refine ⟨w.φ n, .dK kws, h3, True.intro, fun od => ?_⟩
          obtain ⟨s1, g1⟩ := me.si.lockS e2 h3 od
          refine ⟨w, _, env, me.go g1 s1, ?_⟩
          cases e3 : m env (S.set n (.lk kvs)) with
          | none => rw [e3] at p; exact p.elim
          | some r =>
            rw [e3] at p
            cases r with
            | exc _ _ => exact p.elim
            | ok d S' =>
              dsimp only at p
              intro w' H' v g2 s2 rv
              cases e4 : S'.get n with
              | none => rw [e4] at p; exact p.elim
              | some o' =>
                rw [e4] at p
                cases o' with
                | lk kvs' =>
                  obtain ⟨_, k2, ho', k3, k4⟩ := s2.st n _ e4
                  have ef : w'.φ n = w.φ n := g2.le.ph n hm
                  cases ho' with
                  | frz od' u =>
                    cases u with
                    | dK kws' =>
                      have hf := g2.fz _ _ _ (upd_same (H := H) (a := w.φ n) (o := .frz od (.dK kws)))
                      rw [ef, hf] at k3
                      cases k3
                      obtain ⟨s3, f3⟩ := s2.unlock (o2 := .dk kvs') (u2 := .dK kws) e4 k4
                      rw [ef] at s3 f3
                      refine ⟨hf, p w' _ v ⟨g2.le, fun a o ha => f3 a o (g2.fo a o (g1.fo a o ha)), fun a ob u ha => ?_⟩ s3 rv⟩
                      have ne : a ≠ w.φ n := fun z => by rw [z, h3] at ha; cases ha
                      rw [upd_ne ne]
                      exact g2.fz a ob u (by rw [upd_ne ne]; exact ha)
                    | _ => exact k4.elim
                  | _ => exact k4.elim
                | _ => exact p.elim
        | _ => exact h4.elim
      | lst ds =>
        dsimp only at p
        obtain ⟨hm, h2, ho, h3, h4⟩ := me.si.st n _ e2
        cases ho with
        | lst vs =>
          refine ⟨w.φ n, .lst vs, h3, True.intro, fun od => ?_⟩
          obtain ⟨s1, g1⟩ := me.si.set e2 (o := .ll ds) (ho := .frz od (.lst vs)) h4
          refine ⟨w, _, env, me.go g1 s1, ?_⟩
          cases e3 : m env (S.set n (.ll ds)) with
          | none => rw [e3] at p; exact p.elim
          | some r =>
            rw [e3] at p
            cases r with
            | exc _ _ => exact p.elim
            | ok d S' =>
              dsimp only at p
              intro w' H' v g2 s2 rv
              cases e4 : S'.get n with
              | none => rw [e4] at p; exact p.elim
              | some o' =>
                rw [e4] at p
                cases o' with
                | ll ds' =>
                  obtain ⟨_, k2, ho', k3, k4⟩ := s2.st n _ e4
                  have ef : w'.φ n = w.φ n := g2.le.ph n hm
                  cases ho' with
                  | frz od' u =>
                    cases u with
                    | lst vs' =>
                      have hf := g2.fz _ _ _ (upd_same (H := H) (a := w.φ n) (o := .frz od (.lst vs)))
                      rw [ef, hf] at k3
                      cases k3
                      obtain ⟨s3, f3⟩ := s2.unlock (o2 := .lst ds') (u2 := .lst vs) e4 k4
                      rw [ef] at s3 f3
                      refine ⟨hf, p w' _ v ⟨g2.le, fun a o ha => f3 a o (g2.fo a o (g1.fo a o ha)), fun a ob u ha => ?_⟩ s3 rv⟩
                      have ne : a ≠ w.φ n := fun z => by rw [z, h3] at ha; cases ha
                      rw [upd_ne ne]
                      exact g2.fz a ob u (by rw [upd_ne ne]; exact ha)
                    | _ => exact k4.elim
                  | _ => exact k4.elim
                | _ => exact p.elim
        | _ => exact h4.elim
      | _ => exact p.elim
end
end Mi
namespace Mi
open PySem L2

section
variable {X : Cx} {C : Cy X}
/-! ### attributes -/
/-- what the proof asks of a class: its name's class object stands as told -/
structure KlOk (X : Cx) (c : Cl) : Prop where
  cl : ∀ A, X.mg c.nm = some (.ref A) → Cls X.K A
  na : ∀ A, X.mg c.nm = some (.ref A) → ∀ f ∈ c.fl, NoAttr X.K A f
  nd : c.fl.Nodup
/-- an instance, its attributes -/
def insOf (S : MS) (c : Cl) : D → Option (Nat × List D)
  | .obj n => match S.get n with
    | some (.ins c' fs) => if c' = c then some (n, fs) else none
    | _ => none
  | _ => none
theorem ins_is {w : Wd} {S : MS} {H : Hp} {v : V} {d : D} {c : Cl} {n : Nat} {fs : List D} (si : SI X.K X.mg w S H) (r : Rep X.K w v d) (h : insOf S c d = some (n, fs)) :
    d = .obj n ∧ S.get n = some (.ins c fs) ∧ n < w.m ∧ v = .ref (w.φ n) ∧ ∃ A dx fvs, H (w.φ n) = some (.ins A dx fvs) ∧ X.mg c.nm = some (.ref A) ∧ RepF X.K w fvs c.fl fs := by
  unfold insOf at h
  cases d with
  | obj k =>
    dsimp only at h
    cases r with
    | obj hk =>
      cases e : S.get k with
      | none => rw [e] at h; cases h
      | some o =>
        rw [e] at h
        cases o with
        | ins c' fs' =>
          dsimp only at h
          have hst := si.st k (.ins c' fs') e
          by_cases hc : c' = c
          · rw [if_pos hc] at h
            cases h
            subst hc
            obtain ⟨_, _, ho, h3, h4⟩ := hst
            cases ho with
            | ins A dx fvs => exact ⟨rfl, e, hk, rfl, A, dx, fvs, h3, h4.1, h4.2⟩
            | _ => exact h4.elim
          · rw [if_neg hc] at h
            cases h
        | _ => cases h
  | _ => cases h
def dFld (c : Cl) (i : Nat) : D → M D := fun d S => match insOf S c d with
  | some (_, fs) => match fs[i]? with
    | some x => some (.ok x S)
    | none => none
  | none => none
variable {e o value : Expr} {f : Str} {pos pos' tpos apos : Pos} {m mo mv : ME} {c : Cl} {i : Nat}
theorem j_fld (ok : KlOk X c) (hi : c.fl[i]? = some f) (he : JE X C e m) (hb : attributeBase e f X.env (eval e X.env) = eval e X.env := by rfl) : JE X C (.Attribute e f pos) (mOp1 (dFld c i) m) := PE.weak (pe_fld he hb) fun σ H Q ⟨w, S, env, me, p⟩ => by
  refine ⟨w, S, env, me, po_bnd me p fun w1 S1 H1 v d me1 rv g1 p1 => ?_⟩
  unfold dFld at p1
  cases e1 : insOf S1 c d with
  | none => rw [e1] at p1; exact p1.elim
  | some nf =>
    obtain ⟨n, fs⟩ := nf
    rw [e1] at p1
    dsimp only at p1
    obtain ⟨rfl, _, _, rfl, A, dx, fvs, h1, h2, h3⟩ := ins_is me1.si rv e1
    cases e2 : fs[i]? with
    | none => rw [e2] at p1; exact p1.elim
    | some x =>
      rw [e2] at p1
      obtain ⟨u, h4, h5⟩ := h3.get ok.nd hi e2
      exact ⟨_, A, dx, fvs, u, rfl, h1, ok.cl A h2, ok.na A h2 f (List.mem_of_getElem? hi), h4, p1 w1 H1 u (Go.refl _ _ _) me1.si h5⟩
/-- e.f = value -/
def stF (c : Cl) (i : Nat) (d x : D) (S : MS) : Option MS := match insOf S c d with
  | some (n, fs) => match setF fs i x with
    | some fs' => if fs.length < 1000 then some (S.set n (.ins c fs')) else none
    | none => none
  | none => none
theorem stF_go {w : Wd} {S S' : MS} {H : Hp} {v y : V} {d x : D} (ok : KlOk X c) (hi : c.fl[i]? = some f) (si : SI X.K X.mg w S H) (rv : Rep X.K w v d) (ry : Rep X.K w y x) (h : stF c i d x S = some S') :
    ∃ a A dx fs, v = .ref a ∧ X.mg c.nm = some (.ref A) ∧ H a = some (.ins A dx fs) ∧ Cls X.K A ∧ NoAttr X.K A f ∧ fs.length < 1000 ∧ SI X.K X.mg w S' (upd H a (.ins A dx (putF f y fs))) ∧ Go w S H w S' (upd H a (.ins A dx (putF f y fs))) := by
  unfold stF at h
  cases e1 : insOf S c d with
  | none => rw [e1] at h; cases h
  | some nf =>
    obtain ⟨n, fs⟩ := nf
    rw [e1] at h
    dsimp only at h
    obtain ⟨rfl, h0, _, rfl, A, dx, fvs, h1, h2, h3⟩ := ins_is si rv e1
    cases e2 : setF fs i x with
    | none => rw [e2] at h; cases h
    | some fs' =>
      rw [e2] at h
      dsimp only at h
      by_cases hz : fs.length < 1000
      · rw [if_pos hz] at h
        cases h
        have r' := h3.put ry ok.nd hi e2
        obtain ⟨s1, g1⟩ := si.set h0 (o := .ins c fs') (ho := .ins A dx (putF f y fvs)) ⟨h2, r'⟩
        exact ⟨_, A, dx, fvs, rfl, h2, h1, ok.cl A h2, ok.na A h2 f (List.mem_of_getElem? hi), by rw [h3.length]; exact hz, s1, g1⟩
      · rw [if_neg hz] at h
        cases h
def mStF (c : Cl) (i : Nat) (mo mv : ME) : MSt := fun env => stE (bnd (mv env) fun x => bnd (mo env) fun d => ret (d, x)) env fun dx S => match stF c i dx.1 dx.2 S with
  | some S' => some (.nx env S')
  | none => none
theorem js_fld (ok : KlOk X c) (hi : c.fl[i]? = some f) (ho : JE X C o mo) (hv : JE X C value mv) (hs : swapsWith value (some (.Attribute o f pos')) pos.line X.env = pure false := by rfl) : JS X C (.Assign [.Attribute o f pos'] value pos) (mStF c i mo mv) := PS.weak (ps_fld ho hv hs) fun D σ H ⟨w, S, env, me, p⟩ => by
  have p2 := po_st (γ := V × V) (Ra := fun w _ _ vx (dx : Mi.D × Mi.D) => Rep X.K w vx.1 dx.1 ∧ Rep X.K w vx.2 dx.2) me p (Q' := fun vx H2 => ∃ a A dx fs, vx.1 = .ref a ∧ H2 a = some (.ins A dx fs) ∧ Cls X.K A ∧ NoAttr X.K A f ∧ fs.length < 1000 ∧ D.nx σ (upd H2 a (.ins A dx (putF f vx.2 fs)))) fun w1 S1 H1 vx dx me1 rr g1 p1 => by
    cases e1 : stF c i dx.1 dx.2 S1 with
    | none => rw [e1] at p1; exact p1.elim
    | some S' =>
      rw [e1] at p1
      obtain ⟨a, A, dx', fs, h1, h0, h2, h3, h4, h5, h6, h7⟩ := stF_go ok hi me1.si rr.1 rr.2 e1
      exact ⟨a, A, dx', fs, h1, h2, h3, h4, h5, p1 w1 _ σ h7 h6 me1.en⟩
  refine ⟨w, S, env, me, po_bnd me p2 fun w1 S1 H1 y x me1 ry g1 p1 => ?_⟩
  refine ⟨w1, S1, env, me1, po_bnd me1 p1 fun w2 S2 H2 v d me2 rv g2 p2 => ?_⟩
  exact p2 w2 H2 (v, y) (Go.refl _ _ _) me2.si ⟨rv, ry.le g2.le⟩
/-- e.f op= value -/
def mAugF (c : Cl) (i : Nat) (g : D → D → M D) (mo mv : ME) : MSt := fun env => stE (bnd (mo env) fun d => bnd (dFld c i d) fun x => bnd (mv env) fun y => bnd (g x y) fun z => ret (d, z)) env fun dz S => match stF c i dz.1 dz.2 S with
  | some S' => some (.nx env S')
  | none => none
theorem js_augF {op : Operator} {r : R2} {g : D → D → M D} (ok : KlOk X c) (hi : c.fl[i]? = some f) (ho : JE X C o mo) (hv : JE X C value mv) (hop : OpR X (inplaceOp op) r) (hg : Op2 X r g) : JS X C (.AugAssign (.Attribute o f tpos) op value pos) (mAugF c i g mo mv) :=
  PS.weak (ps_fldaug (rd := r) ho hv (fun pins s σ H x y u v Q I rx ry h => hop pins s σ H x y u v Q I rx ry h)) fun D σ H ⟨w, S, env, me, p⟩ => by
  have p2 := po_st (γ := V × V) (Ra := fun w _ _ vx (dx : Mi.D × Mi.D) => Rep X.K w vx.1 dx.1 ∧ Rep X.K w vx.2 dx.2) me p (Q' := fun vx H2 => ∃ a A dx fs, vx.1 = .ref a ∧ X.mg c.nm = some (.ref A) ∧ H2 a = some (.ins A dx fs) ∧ Cls X.K A ∧ NoAttr X.K A f ∧ fs.length < 1000 ∧ D.nx σ (upd H2 a (.ins A dx (putF f vx.2 fs)))) fun w1 S1 H1 vx dx me1 rr g1 p1 => by
    cases e1 : stF c i dx.1 dx.2 S1 with
    | none => rw [e1] at p1; exact p1.elim
    | some S' =>
      rw [e1] at p1
      obtain ⟨a, A, dx', fs, h1, h0, h2, h3, h4, h5, h6, h7⟩ := stF_go ok hi me1.si rr.1 rr.2 e1
      exact ⟨a, A, dx', fs, h1, h0, h2, h3, h4, h5, p1 w1 _ σ h7 h6 me1.en⟩
  refine ⟨w, S, env, me, po_bnd me p2 fun w1 S1 H1 v d me1 rv g1 p1 => ?_⟩
  have p1' := p1
  unfold bnd dFld at p1
  cases e1 : insOf S1 c d with
  | none => rw [e1] at p1; exact p1.elim
  | some nf =>
    obtain ⟨n, fs⟩ := nf
    rw [e1] at p1
    dsimp only at p1
    obtain ⟨rfl, h0, _, rfl, A, dx, fvs, h1, h2, h3⟩ := ins_is me1.si rv e1
    cases e2 : fs[i]? with
    | none => rw [e2] at p1; exact p1.elim
    | some x =>
      rw [e2] at p1
      dsimp only at p1
      obtain ⟨u, h4, h5⟩ := h3.get ok.nd hi e2
      refine ⟨_, A, dx, fvs, u, rfl, h1, ok.cl A h2, ok.na A h2 f (List.mem_of_getElem? hi), h4, ?_⟩
      refine ⟨w1, S1, env, me1, po_bnd me1 p1 fun w2 S2 H2 y y' me2 ry g2 p2 => ?_⟩
      refine hg w2 S2 H2 u y x y' _ (fun c d H => C.W c d σ H) me2.si (h5.le g2.le) ry (po_bnd me2 p2 fun w3 S3 H3 z z' me3 rz g3 p3 => ?_)
      obtain ⟨a', A', dx', fs', q1, q0, q2, q3, q4, q5, q6⟩ := p3 w3 H3 (.ref (w1.φ n), z) (Go.refl _ _ _) me3.si ⟨rv.le (g2.le.trans g3.le), rz⟩
      cases q1
      rw [h2] at q0
      cases q0
      exact ⟨dx', fs', q2, q5, q6⟩
end
end Mi
namespace Mi
open PySem L2

section
variable {X : Cx} {C : Cy X}
/-! ### calls of own methods, own classes -/
def tMethX (A : Addr) (m : Str) (sp : Sp) (E : St → XK) (ta : TE) (t : TA) : TE := fun σ H Q => ta σ H fun x H1 => ∃ a dx fs, x = .ref a ∧ H1 a = some (.ins A dx fs) ∧ fs.lookup m = none ∧ t σ H1 fun vs H2 => sp (x :: vs) H2 Q (E σ)
section
variable {CX : CXT} {k : Nat} {f A : Addr} {fd : FuncData} {ps : List Str} {sp : Sp} {E : St → XK} {x m : Str} {p pos apos : Pos} {e o : Expr} {es : List Expr} {ta : TE} {t : TA}
theorem pe_methX {pl : Sem Bool} (he : PE X o ta) (c : Cls X.K A) (hm : Meth X.K A m f) (F : FnOk X.prog X.w X.K X.mg X.base CX k f fd ps sp) (hr : Room k X.A) (hb : Binds X.K fd ps []) (hx : ∀ σ, PassesAt CX X σ (E σ)) (ha : PA X (e :: es) t)
    (hst : starEach (e :: es) X.env = (false, eval e X.env) :: starEach es X.env := by rfl) (hpl : (backTo pos (starEach es X.env)).any (·.1) = false := by rfl)
    (ht : eval (.Call (.Attribute o m apos) (e :: es) [] pos) X.env = (do
      let ov ← eval o X.env
      standAt apos.atName
      let (f, first) ← holding [ov] (getMethod ov m pl)
      callWith pos f first (backTo pos (starEach (e :: es) X.env)) (backToKw pos (keywordEach [] X.env))) := by rfl) :
    PE X (.Call (.Attribute o m apos) (e :: es) [] pos) (tMethX A m sp E ta t) := by
  refine ⟨fun pins s σ H Q I h => ?_⟩
  refine PySem.W.methodCall_KW (pl := pl) (thn (he.run pins s σ H _ I h) fun u s1 ⟨x, H1, I1, rx, a, dx, fs, ex, ea, l, q⟩ => ?_) ht
  subst ex
  obtain rfl : u = Value.ref a := rx
  refine getmeth_ok I1 ea c hm l ?_
  refine PySem.W.callWith_K (first := [.ref a]) (h₀ := X.base) I.ok.mod.kin hm.kp (thn (ha.run pos pins s1 σ H1 _ I1 q) fun us s2 ⟨vs, H2, I2, r, q2⟩ => ⟨I2.kIn, ?_⟩) hst hpl
  exact run_fnS (us := .ref a :: us) (vs := .ref a :: vs) F hr hb (hx σ) I2 (.cons rfl r) q2
theorem pe_methX0 {pl : Sem Bool} (he : PE X o ta) (c : Cls X.K A) (hm : Meth X.K A m f) (F : FnOk X.prog X.w X.K X.mg X.base CX k f fd ps sp) (hr : Room k X.A) (hb : Binds X.K fd ps []) (hx : ∀ σ, PassesAt CX X σ (E σ))
    (ht : eval (.Call (.Attribute o m apos) [] [] pos) X.env = (do
      let ov ← eval o X.env
      standAt apos.atName
      let (f, first) ← holding [ov] (getMethod ov m pl)
      callWith pos f first (backTo pos (starEach [] X.env)) (backToKw pos (keywordEach [] X.env))) := by rfl) :
    PE X (.Call (.Attribute o m apos) [] [] pos) (tMethX A m sp E ta tNil) := by
  refine ⟨fun pins s σ H Q I h => ?_⟩
  refine PySem.W.methodCall_KW (pl := pl) (thn (he.run pins s σ H _ I h) fun u s1 ⟨x, H1, I1, rx, a, dx, fs, ex, ea, l, q⟩ => ?_) ht
  subst ex
  obtain rfl : u = Value.ref a := rx
  refine getmeth_ok I1 ea c hm l ?_
  exact PySem.W.callWith_K0 (first := [.ref a]) I1.kIn hm.kp (run_fnS (us := [.ref a]) (vs := [.ref a]) F hr hb (hx σ) I1 (.cons rfl .nil) q)
theorem pe_callS0 (F : FnOk X.prog X.w X.K X.mg X.base CX k f fd ps sp) (hr : Room k X.A) (hg : Gl X x) (hm : X.mg x = some (.ref f)) (hk : PySem.W.keepIn X.K (.ref f) = true) (hb : Binds X.K fd ps []) (hx : ∀ σ, PassesAt CX X σ (E σ))
    (hdb : (x == ("__debug__" : Str)) = false := by decide) : PE X (.Call (.Name x p) [] [] pos) (tCallS sp E tNil) := by
  refine ⟨fun pins s σ H Q I h => ?_⟩
  refine wpAny_Call_Name_kw (L2.ld_glob I hg hm ?_ hdb)
  exact PySem.W.callWith_K0 I.kIn hk (run_fnS (us := []) F hr hb (hx σ) I .nil h)
/-- makes -/
def tMakeX (A : Addr) (sp : Sp) (E : St → XK) (t : TA) : TE := fun σ H Q => t σ H fun vs H1 => ∀ x dx, H1 x = none → H1 dx = none → dx ≠ x →
  sp (.ref x :: vs) (upd (upd H1 dx (.own x)) x (.ins A dx [])) (fun v H2 => v = .non ∧ Q (.ref x) H2) (E σ)
theorem run_makeX {pins : List (Addr × Obj)} {σ : St} {H : Hp} {s : Shared} {Q : VK} {us : List Value} {vs : List V} (M : Mk X.K A f) (F : FnOk X.prog X.w X.K X.mg X.base CX k f fd ps sp) (hr : Room (k + 1) X.A) (hb : Binds X.K fd ps [])
    (hx : PassesAt CX X σ (E σ)) (I : L2.Inv X pins σ H s) (r : Vals vs us)
    (h : ∀ x dx, H x = none → H dx = none → dx ≠ x → sp (.ref x :: vs) (upd (upd H dx (.own x)) x (.ins A dx [])) (fun v H2 => v = .non ∧ Q (.ref x) H2) (E σ)) :
    wpAny (model X.prog X.w) X.A (call (.ref A) us) (EP X pins σ Q) X.xe s := by
  have hq := h (s.heap.objs.size + 1) s.heap.objs.size (I.hok.fresh (Nat.le_succ _)) (I.hok.fresh (Nat.le_refl _)) (Nat.ne_of_lt (Nat.lt_succ_self _))
  have I2 := Inv.made (C := A) I
  have r2 : Vals (V.ref (s.heap.objs.size + 1) :: vs) (Value.ref (s.heap.objs.size + 1) :: us) := .cons rfl r
  have hl : (Value.ref (s.heap.objs.size + 1) :: us).length = ps.length := by
    rw [← r2.length]
    exact F.len _ _ _ _ hq
  have hbb := hb _ (Value.ref (s.heap.objs.size + 1) :: us) I2.kIn (by rw [List.append_nil]; exact hl)
  rw [List.append_nil] at hbb
  refine PySem.wpAny_call (make_map (f := f) I.kIn M.makes M.init (beq_iff_eq.mp M.fn) (codeAny_mono (F.run _ X.stack _ _ ⟨Value.ref (s.heap.objs.size + 1) :: us, []⟩ (Value.ref (s.heap.objs.size + 1) :: us) _ _ (E σ) (hr.make A us [])
    (I2.env0.make A us []) hbb r2 hq) fun r s' hq' => ?_))
  cases r with
  | error e => exact hx pins _ _ e s' I2 hq'
  | ok fl =>
    cases fl with
    | ret u =>
      obtain ⟨v, H', I3, rv, ev, q3⟩ := I2.after hq'
      subst ev
      exact ⟨rv, ⟨V.ref (s.heap.objs.size + 1), H', I3, rfl, q3⟩⟩
    | next => exact False.elim hq'
    | brk => exact False.elim hq'
    | cont => exact False.elim hq'
theorem pe_makeX (M : Mk X.K A f) (F : FnOk X.prog X.w X.K X.mg X.base CX k f fd ps sp) (hr : Room (k + 1) X.A) (hg : Gl X x) (hm : X.mg x = some (.ref A)) (hb : Binds X.K fd ps []) (hx : ∀ σ, PassesAt CX X σ (E σ))
    (ha : PA X (e :: es) t) (hdb : (x == ("__debug__" : Str)) = false := by decide) (he : starEach (e :: es) X.env = (false, eval e X.env) :: starEach es X.env := by rfl) (hpl : (backTo pos (starEach es X.env)).any (·.1) = false := by rfl) :
    PE X (.Call (.Name x p) (e :: es) [] pos) (tMakeX A sp E t) := by
  refine ⟨fun pins s σ H Q I h => ?_⟩
  refine wpAny_Call_Name_kw (L2.ld_glob I hg hm ?_ hdb)
  refine PySem.W.callWith_K (h₀ := X.base) I.ok.mod.kin M.kp (thn (ha.run pos pins s σ H _ I h) fun us s1 ⟨vs, H1, I1, r, q⟩ => ⟨I1.kIn, ?_⟩) he hpl
  exact run_makeX M F hr hb (hx σ) I1 r q
theorem pe_makeX0 (M : Mk X.K A f) (F : FnOk X.prog X.w X.K X.mg X.base CX k f fd ps sp) (hr : Room (k + 1) X.A) (hg : Gl X x) (hm : X.mg x = some (.ref A)) (hb : Binds X.K fd ps []) (hx : ∀ σ, PassesAt CX X σ (E σ))
    (hdb : (x == ("__debug__" : Str)) = false := by decide) : PE X (.Call (.Name x p) [] [] pos) (tMakeX A sp E tNil) := by
  refine ⟨fun pins s σ H Q I h => ?_⟩
  refine wpAny_Call_Name_kw (L2.ld_glob I hg hm ?_ hdb)
  exact PySem.W.callWith_K0 I.kIn M.kp (run_makeX (us := []) M F hr hb (hx σ) I .nil h)
end
/-- a new thing that is nobody's -/
theorem SI.fr {K : PySem.W.Frag} {mg : Str → Option Value} {w : Wd} {S : MS} {H : Hp} (I : SI K mg w S H) {p : Addr} (hp : H p = none) (o : HO) : SI K mg w S (upd H p o) ∧ Go w S H w S (upd H p o) := by
  refine ⟨⟨I.nx, fun a u h => ?_, fun n ob h => ?_, I.inj⟩, Le.refl w, fun a u h => ?_, fun a ob u h => ?_⟩
  · rw [upd_ne (ne_of_none (I.ex a u h) hp)]; exact I.ex a u h
  · obtain ⟨h1, h2, ho, h3, h4⟩ := I.st n ob h
    exact ⟨h1, h2, ho, by rw [upd_ne (ne_of_none h3 hp)]; exact h3, h4⟩
  · exact ⟨by rw [upd_ne (ne_of_none h.1 hp)]; exact h.1, h.2⟩
  · rw [upd_ne (ne_of_none h hp)]; exact h
theorem fo_new {K : PySem.W.Frag} {mg : Str → Option Value} {w : Wd} {S : MS} {H : Hp} (I : SI K mg w S H) {p : Addr} (hp : H p = none) (o : HO) : Fo w S (upd H p o) p o := by
  refine ⟨upd_same, ?_, fun n ob h z => ?_⟩
  · cases e : w.F p with
    | none => rfl
    | some u => rw [I.ex p u e] at hp; cases hp
  · obtain ⟨_, _, ho, h3, _⟩ := I.st n ob h
    rw [z, hp] at h3; cases h3
theorem RepF.nil {K : PySem.W.Frag} {w : Wd} : ∀ fl : List Str, RepF K w [] fl []
  | [] => True.intro
  | _ :: _ => True.intro
section
variable {k : Nat} {f A : Addr} {fd : FuncData} {ps : List Str} {x mn : Str} {p pos apos : Pos} {e o : Expr} {es : List Expr} {m : List D → M D} {ma : MA} {mo : ME} {c : Cl}
theorem j_call0 (F : FJ X.prog X.w X.K X.mg X.base k f fd ps m) (ar : Ar ps.length m) (hr : Room k X.A) (hg : Gl X x) (hm : X.mg x = some (.ref f)) (hk : PySem.W.keepIn X.K (.ref f) = true) (hb : Binds X.K fd ps [])
    (hdb : (x == ("__debug__" : Str)) = false := by decide) : JE X C (.Call (.Name x p) [] [] pos) (mCall m mNil) := PE.weak (pe_callS0 (E := WE C.W) F hr hg hm hk hb (fun σ => passAt C.tk σ) hdb) fun σ H Q ⟨w, S, env, me, q⟩ =>
  sp_of me.si .nil (po_len ar q) q
def mMeth (c : Cl) (m : List D → M D) (mo : ME) (a : MA) : ME := fun env => bnd (mo env) fun d S => match insOf S c d with
  | some _ => bnd (a env) (fun ds => m (d :: ds)) S
  | none => none
theorem meth_go (ar : Ar ps.length m) (hA : X.mg c.nm = some (.ref A)) (hn : c.fl.contains mn = false) {σ : St} {H : Hp} {Q : VK} (h : tE C (mMeth c m mo ma) σ H Q) : tMethX A mn (spM X.K X.mg ps.length m) (WE C.W) (tE C mo) (tA C ma) σ H Q := by
  obtain ⟨w, S, env, me, q⟩ := h
  refine ⟨w, S, env, me, po_bnd me q fun w1 S1 H1 v d me1 rv g1 p1 => ?_⟩
  cases e1 : insOf S1 c d with
  | none => rw [e1] at p1; exact p1.elim
  | some nf =>
    obtain ⟨n, fs⟩ := nf
    rw [e1] at p1
    dsimp only at p1
    obtain ⟨rfl, h0, _, rfl, A', dx, fvs, h1, h2, h3⟩ := ins_is me1.si rv e1
    rw [hA] at h2
    cases h2
    refine ⟨_, dx, fvs, rfl, h1, h3.no (fun z => ?_), w1, S1, env, me1, po_bnd me1 p1 fun w2 S2 H2 vs ds me2 rvs g2 p2 => ?_⟩
    · rw [List.contains_iff_mem.mpr z] at hn; cases hn
    · exact sp_of me2.si (.cons (rv.le g2.le) rvs) (po_len ar p2) p2
theorem j_meth {pl : Sem Bool} (ok : KlOk X c) (hA : X.mg c.nm = some (.ref A)) (hn : c.fl.contains mn = false) (ho : JE X C o mo) (hm : Meth X.K A mn f) (F : FJ X.prog X.w X.K X.mg X.base k f fd ps m) (ar : Ar ps.length m) (hr : Room k X.A) (hb : Binds X.K fd ps []) (ha : JA X C (e :: es) ma)
    (hst : starEach (e :: es) X.env = (false, eval e X.env) :: starEach es X.env := by rfl) (hpl : (backTo pos (starEach es X.env)).any (·.1) = false := by rfl)
    (ht : eval (.Call (.Attribute o mn apos) (e :: es) [] pos) X.env = (do
      let ov ← eval o X.env
      standAt apos.atName
      let (f, first) ← holding [ov] (getMethod ov mn pl)
      callWith pos f first (backTo pos (starEach (e :: es) X.env)) (backToKw pos (keywordEach [] X.env))) := by rfl) :
    JE X C (.Call (.Attribute o mn apos) (e :: es) [] pos) (mMeth c m mo ma) := PE.weak (pe_methX (E := WE C.W) ho (ok.cl A hA) hm F hr hb (fun σ => passAt C.tk σ) ha hst hpl ht) fun _ _ _ h => meth_go ar hA hn h
theorem j_meth0 {pl : Sem Bool} (ok : KlOk X c) (hA : X.mg c.nm = some (.ref A)) (hn : c.fl.contains mn = false) (ho : JE X C o mo) (hm : Meth X.K A mn f) (F : FJ X.prog X.w X.K X.mg X.base k f fd ps m) (ar : Ar ps.length m) (hr : Room k X.A) (hb : Binds X.K fd ps [])
    (ht : eval (.Call (.Attribute o mn apos) [] [] pos) X.env = (do
      let ov ← eval o X.env
      standAt apos.atName
      let (f, first) ← holding [ov] (getMethod ov mn pl)
      callWith pos f first (backTo pos (starEach [] X.env)) (backToKw pos (keywordEach [] X.env))) := by rfl) :
    JE X C (.Call (.Attribute o mn apos) [] [] pos) (mMeth c m mo mNil) := PE.weak (pe_methX0 (E := WE C.W) ho (ok.cl A hA) hm F hr hb (fun σ => passAt C.tk σ) ht) fun σ H Q h => by
  obtain ⟨w, S, env, me, q⟩ := meth_go (C := C) (mo := mo) (ma := mNil) ar hA hn h
  exact ⟨w, S, env, me, q.imp fun v H' ⟨a, dx, fs, h1, h2, h3, w2, S2, env2, me2, q2⟩ => ⟨a, dx, fs, h1, h2, h3, q2 w2 H' [] (Go.refl _ _ _) me2.si .nil⟩⟩
/-- a new instance -/
def mMake (c : Cl) (m : List D → M D) (a : MA) : ME := fun env => bnd (a env) fun ds S => match m (.obj S.nx :: ds) (S.add (.ins c [])) with
  | some (.ok .non S') => some (.ok (.obj S.nx) S')
  | some (.exc e S') => some (.exc e S')
  | _ => none
theorem make_go (ar : Ar ps.length m) (hA : X.mg c.nm = some (.ref A)) {w : Wd} {S : MS} {H : Hp} {vs : List V} {ds : List D} {Q : VK} {E : XK} (si : SI X.K X.mg w S H) (r : RepL X.K w vs ds) (p : Po X.K X.mg (RV' X.K) E w S H Q (match m (.obj S.nx :: ds) (S.add (.ins c [])) with
    | some (.ok .non S') => some (.ok (.obj S.nx) S')
    | some (.exc e S') => some (.exc e S')
    | _ => none)) : ∀ x dx, H x = none → H dx = none → dx ≠ x → spM X.K X.mg ps.length m (.ref x :: vs) (upd (upd H dx (.own x)) x (.ins A dx [])) (fun v H2 => v = .non ∧ Q (.ref x) H2) E := by
  intro x dx hx hdx hne
  obtain ⟨s1, g1⟩ := si.fr hdx (.own x)
  obtain ⟨s2, g2⟩ := s1.add (p := x) (by rw [upd_ne hne.symm]; exact hx) (o := .ins c []) (ho := .ins A dx []) ⟨hA, RepF.nil _⟩
  have ex : (fun n => if n = w.m then x else w.φ n) S.nx = x := by
    show (if S.nx = w.m then x else w.φ S.nx) = x
    rw [if_pos si.nx]
  have ro : Rep X.K ⟨fun n => if n = w.m then x else w.φ n, w.F, w.m + 1⟩ (.ref x) (.obj S.nx) := by
    have z := Rep.obj (K := X.K) (w := ⟨fun n => if n = w.m then x else w.φ n, w.F, w.m + 1⟩) (n := S.nx) (by show S.nx < w.m + 1; rw [si.nx]; exact Nat.lt_succ_self _)
    rw [show (⟨fun n => if n = w.m then x else w.φ n, w.F, w.m + 1⟩ : Wd).φ S.nx = x from ex] at z
    exact z
  have base := g1.trans g2
  cases e : m (.obj S.nx :: ds) (S.add (.ins c [])) with
  | none => rw [e] at p; exact p.elim
  | some o =>
    refine ⟨_, _, .obj S.nx :: ds, s2, .cons ro (r.le base.le), ar _ _ _ e, ?_⟩
    rw [e] at p ⊢
    cases o with
    | exc ex S' => exact fun w' H' cls dx g si r => p w' H' cls dx (base.trans g) si r
    | ok d S' =>
      cases d with
      | non =>
        intro w' H' v g si' rv
        cases rv
        exact ⟨rfl, p w' H' _ (base.trans g) si' (ro.le g.le)⟩
      | _ => exact p.elim
theorem j_make (hA : X.mg x = some (.ref A)) (hcn : c.nm = x) (Mk' : Mk X.K A f) (F : FJ X.prog X.w X.K X.mg X.base k f fd ps m) (ar : Ar ps.length m) (hr : Room (k + 1) X.A) (hg : Gl X x) (hb : Binds X.K fd ps [])
    (ha : JA X C (e :: es) ma) (hdb : (x == ("__debug__" : Str)) = false := by decide) (he : starEach (e :: es) X.env = (false, eval e X.env) :: starEach es X.env := by rfl) (hpl : (backTo pos (starEach es X.env)).any (·.1) = false := by rfl) :
    JE X C (.Call (.Name x p) (e :: es) [] pos) (mMake c m ma) := PE.weak (pe_makeX (E := WE C.W) Mk' F hr hg hA hb (fun σ => passAt C.tk σ) ha hdb he hpl) fun σ H Q ⟨w, S, env, me, q⟩ =>
  ⟨w, S, env, me, po_bnd me q fun w1 S1 H1 vs ds me1 rv g1 p1 => make_go ar (by rw [hcn]; exact hA) me1.si rv p1⟩
theorem j_make0 (hA : X.mg x = some (.ref A)) (hcn : c.nm = x) (Mk' : Mk X.K A f) (F : FJ X.prog X.w X.K X.mg X.base k f fd ps m) (ar : Ar ps.length m) (hr : Room (k + 1) X.A) (hg : Gl X x) (hb : Binds X.K fd ps [])
    (hdb : (x == ("__debug__" : Str)) = false := by decide) : JE X C (.Call (.Name x p) [] [] pos) (mMake c m mNil) := PE.weak (pe_makeX0 (E := WE C.W) Mk' F hr hg hA hb (fun σ => passAt C.tk σ) hdb) fun σ H Q ⟨w, S, env, me, q⟩ =>
  make_go ar (by rw [hcn]; exact hA) me.si .nil q
end

/-! ### o[i] = v -/
def dSet (x y d : D) (S : MS) : Option MS := match x with
  | .obj n => match S.get n with
    | some (.lst ds) => match y with
      | .int i => match ixN ds.length i with
        | some j => some (S.set n (.lst (ds.set j d)))
        | none => none
      | _ => none
    | some (.dk kvs) => match toKey y with
      | some k => if kvs.length < lineN then some (S.set n (.dk (dPutK kvs k d))) else none
      | none => none
    | _ => none
  | _ => none
def rSetA : V → V → V → Hp → (Hp → Prop) → Prop := fun o i v H Q => rSetL o i v H Q ∨ ∃ a H', o = .ref a ∧ DPut H a i v H' ∧ Q H'
theorem set_A (hu : X.A.units + 64 < cLine) : PSet X rSetA := by
  intro pins s σ H o i v ov iv u Q I ro ri rv h
  rcases h with h | ⟨a, H', rfl, g, q⟩
  · exact set_list pins s σ H o i v ov iv u Q I ro ri rv h
  · cases ro
    exact d_setItem (by omega) I g ri rv fun s' I' => ⟨H', I', q⟩
theorem dSet_go {w : Wd} {S S' : MS} {H : Hp} {o i v : V} {x y d : D} {Q : Hp → Prop} (si : SI X.K X.mg w S H) (ro : Rep X.K w o x) (ri : Rep X.K w i y) (rv : Rep X.K w v d) (h : dSet x y d S = some S') (k : ∀ H', Go w S H w S' H' → SI X.K X.mg w S' H' → Q H') : rSetA o i v H Q := by
  unfold dSet at h
  cases x with
  | obj n =>
    cases ro with
    | obj hn =>
      dsimp only at h
      cases e : S.get n with
      | none => rw [e] at h; cases h
      | some ob =>
        rw [e] at h
        obtain ⟨_, h2, ho, h3, h4⟩ := si.st n _ e
        cases ob with
        | lst ds =>
          dsimp only at h
          cases y with
          | int j =>
            cases ri
            dsimp only at h
            cases e2 : ixN ds.length j with
            | none => rw [e2] at h; cases h
            | some j' =>
              rw [e2] at h
              cases h
              cases ho with
              | lst vs =>
                have h4' : RepL X.K w vs ds := h4
                obtain ⟨s1, g1⟩ := si.set e (o := .lst (ds.set j' d)) (ho := .lst (vs.set j' v)) (h4'.set rv j')
                exact .inl ⟨_, vs, j, j', rfl, rfl, h3, by rw [h4'.length]; exact e2, k _ g1 s1⟩
              | _ => exact h4.elim
          | _ => cases h
        | dk kvs =>
          dsimp only at h
          cases e2 : toKey y with
          | none => rw [e2] at h; cases h
          | some kk =>
            rw [e2] at h
            dsimp only at h
            obtain rfl := key_is ri e2
            by_cases hz : kvs.length < lineN
            · rw [if_pos hz] at h
              cases h
              cases ho with
              | dK kws =>
                have h4' : RepK X.K w kws kvs := h4
                obtain ⟨s1, g1⟩ := si.set e (o := .dk (dPutK kvs kk d)) (ho := .dK (putK kws kk v)) (h4'.put kk rv)
                exact .inr ⟨_, _, rfl, DPut.k h3 (by rw [h4'.length, line_is]; exact hz), k _ g1 s1⟩
              | _ => exact h4.elim
            · rw [if_neg hz] at h
              cases h
        | _ => cases h
  | _ => cases h
def gIx (mo mi : ME) : MG := fun d env S => match mo env S with
  | some (.ok x S1) => match mi env S1 with
    | some (.ok y S2) => match dSet x y d S2 with
      | some S3 => some (env, S3)
      | none => none
    | _ => none
  | _ => none
theorem jg_ix {o i : Expr} {mo mi : ME} {pos : Pos} (hu : X.A.units + 64 < cLine) (ho : JE X C o mo) (hi : JE X C i mi)
    (ha : ∀ v, assign (.Subscript o i pos) X.env v = (do
      let ov ← holding [v] (eval o X.env)
      let iv ← holding [v, ov] (eval i X.env)
      standAt pos
      holding [v, ov, iv] (setItem ov iv v)
      release [v, ov, iv] []) := by intro _; rfl) : JG X C (.Subscript o i pos) (gIx mo mi) := PG.weak (pg_sub ho hi (set_A hu) ha) fun v σ H Q ⟨w, S, env, d, me, rv, p⟩ => by
  unfold gIx at p
  refine ⟨w, S, env, me, ?_⟩
  cases e1 : mo env S with
  | none => rw [e1] at p; exact p.elim
  | some r =>
    rw [e1] at p
    cases r with
    | exc _ _ => exact p.elim
    | ok x S1 =>
      dsimp only at p
      intro w1 H1 ov g1 s1 ro
      have me1 := me.go g1 s1
      refine ⟨w1, S1, env, me1, ?_⟩
      cases e2 : mi env S1 with
      | none => rw [e2] at p; exact p.elim
      | some r =>
        rw [e2] at p
        cases r with
        | exc _ _ => exact p.elim
        | ok y S2 =>
          dsimp only at p
          intro w2 H2 iv g2 s2 ri
          cases e3 : dSet x y d S2 with
          | none => rw [e3] at p; exact p.elim
          | some S3 =>
            rw [e3] at p
            exact dSet_go s2 (ro.le g2.le) ri (rv.le (g1.le.trans g2.le)) e3 fun H3 g3 s3 => p w2 H3 σ ((g1.trans g2).trans g3) s3 (me.en.le (g1.le.trans g2.le))
end
end Mi
namespace Mi
open PySem L2

section
variable {X : Cx} {C : Cy X}
/-! ### methods of built-in types -/
def tyD (S : MS) (T : String) (d : D) : Bool := match T with
  | "list" => (lstOf S d).isSome
  | "str" => match d with
    | .str _ => true
    | _ => false
  | "dict" => match d with
    | .obj n => match S.get n with
      | some (.dk _) => true
      | _ => false
    | _ => false
  | _ => false
theorem ty_is {w : Wd} {S : MS} {H : Hp} {v : V} {d : D} {T : String} (si : SI X.K X.mg w S H) (r : Rep X.K w v d) (h : tyD S T d = true) : tyV X.K T v H := by
  unfold tyD at h
  split at h
  · cases e : lstOf S d with
    | none => rw [e] at h; cases h
    | some ds =>
      obtain ⟨a, vs, rfl, h1, _⟩ := lst_is si r e
      exact .inl ⟨rfl, vs, h1⟩
  · cases d with
    | str z => cases r; exact rfl
    | _ => cases h
  · cases d with
    | obj n =>
      cases r with
      | obj hn =>
        dsimp only at h
        cases e : S.get n with
        | none => rw [e] at h; cases h
        | some o =>
          rw [e] at h
          cases o with
          | dk kvs =>
            obtain ⟨_, _, ho, h3, h4⟩ := si.st n _ e
            cases ho with
            | dK kws => exact .inr (.inr (.inl ⟨rfl, .inl ⟨kws, h3⟩⟩))
            | _ => exact h4.elim
          | _ => cases h
    | _ => cases h
  · cases h
def mMt (T : String) (f : D → List D → M D) (mo : ME) (a : MA) : ME := fun env => bnd (mo env) fun d S => if tyD S T d = true then bnd (a env) (fun ds => f d ds) S else none
abbrev OpM (X : Cx) (r : V → List V → Hp → VK → Prop) (f : D → List D → M D) : Prop := ∀ w S H x xs d ds (Q : VK) W, SI X.K X.mg w S H → Rep X.K w x d → RepL X.K w xs ds → Po X.K X.mg (RV' X.K) W w S H Q (f d ds S) → r x xs H Q
section
variable {o e : Expr} {es : List Expr} {mo : ME} {ma : MA} {name : Str} {apos cpos : Pos} {T id : String} {r : V → List V → Hp → VK → Prop} {f : D → List D → M D}
theorem j_bm0 (pa : PlainAttrs T) (slot : Slot T name id) (hty : typeOf (.builtin id) = pure (.type "method_descriptor")) (hm : MtR X id r) (hf : OpM X r f) (ho : JE X C o mo)
    (hbase : attributeBase o name X.env (eval o X.env) = eval o X.env := by rfl) (hline : (apos.endLine == cpos.line) = true := by rfl) : JE X C (.Call (.Attribute o name apos) [] [] cpos) (mMt T f mo mNil) :=
  PE.weak (pe_bm0 pa slot hty hm ho hbase hline) fun σ H Q ⟨w, S, env, me, p⟩ => by
  refine ⟨w, S, env, me, po_bnd me p fun w1 S1 H1 v d me1 rv g1 p1 => ?_⟩
  by_cases h : tyD S1 T d = true
  · rw [if_pos h] at p1
    exact ⟨ty_is me1.si rv h, hf w1 S1 H1 v [] d [] Q _ me1.si rv .nil p1⟩
  · rw [if_neg h] at p1
    exact p1.elim
theorem j_bm (pa : PlainAttrs T) (slot : Slot T name id) (hty : typeOf (.builtin id) = pure (.type "method_descriptor")) (hm : MtR X id r) (hf : OpM X r f) (ho : JE X C o mo) (ha : JA X C (e :: es) ma)
    (hbase : attributeBase o name X.env (eval o X.env) = eval o X.env := by rfl)
    (hfew : ((backTo cpos (starEach (e :: es) X.env)).all (fun x => !x.1) && (backToKw cpos (keywordEach [] X.env)).all (fun x => x.1.isSome)
      && decide ((e :: es).length + ([] : List Keyword).length + (if ([] : List Keyword).isEmpty then 0 else 1) < 30)) = true := by rfl)
    (hline : (apos.endLine == cpos.line) = true := by rfl) (hs : starEach (e :: es) X.env = (false, eval e X.env) :: starEach es X.env := by rfl) (hplain : (backTo cpos (starEach es X.env)).any (·.1) = false := by rfl) :
    JE X C (.Call (.Attribute o name apos) (e :: es) [] cpos) (mMt T f mo ma) :=
  PE.weak (pe_bm pa slot hty hm ho ha hbase hfew hline hs hplain) fun σ H Q ⟨w, S, env, me, p⟩ => by
  refine ⟨w, S, env, me, po_bnd me p fun w1 S1 H1 v d me1 rv g1 p1 => ?_⟩
  by_cases h : tyD S1 T d = true
  · rw [if_pos h] at p1
    refine ⟨ty_is me1.si rv h, w1, S1, env, me1, po_bnd me1 p1 fun w2 S2 H2 vs ds me2 rvs g2 p2 => ?_⟩
    exact hf w2 S2 H2 v vs d ds Q _ me2.si (rv.le g2.le) rvs p2
  · rw [if_neg h] at p1
    exact p1.elim
end
/-- a list that may change -/
def mutL (S : MS) : D → Option (Nat × List D)
  | .obj n => match S.get n with
    | some (.lst ds) => some (n, ds)
    | _ => none
  | _ => none
theorem mutL_is {w : Wd} {S : MS} {H : Hp} {v : V} {d : D} {n : Nat} {ds : List D} (si : SI X.K X.mg w S H) (r : Rep X.K w v d) (h : mutL S d = some (n, ds)) : v = .ref (w.φ n) ∧ S.get n = some (.lst ds) ∧ ∃ vs, H (w.φ n) = some (.lst vs) ∧ RepL X.K w vs ds := by
  unfold mutL at h
  cases d with
  | obj k =>
    cases r with
    | obj hn =>
      dsimp only at h
      cases e : S.get k with
      | none => rw [e] at h; cases h
      | some o =>
        rw [e] at h
        obtain ⟨_, _, ho, h3, h4⟩ := si.st k _ e
        cases o with
        | lst es =>
          cases h
          cases ho with
          | lst vs => exact ⟨rfl, e, vs, h3, h4⟩
          | _ => exact h4.elim
        | _ => cases h
  | _ => cases h
theorem mutL_set {w : Wd} {S : MS} {H : Hp} {n : Nat} {ds ds' : List D} {vs' : List V} (si : SI X.K X.mg w S H) (h : S.get n = some (.lst ds)) (r : RepL X.K w vs' ds') : SI X.K X.mg w (S.set n (.lst ds')) (upd H (w.φ n) (.lst vs')) ∧ Go w S H w (S.set n (.lst ds')) (upd H (w.φ n) (.lst vs')) := si.set h (o := .lst ds') (ho := .lst vs') r
def dAppend : D → List D → M D := fun x ds S => match mutL S x, ds with
  | some (n, es), [y] => if es.length < lineN then some (.ok .non (S.set n (.lst (es ++ [y])))) else none
  | _, _ => none
theorem opM_append : OpM X rAppend dAppend := fun w S H x xs d ds Q W si rx rxs p => by
  unfold dAppend at p
  cases e : mutL S d with
  | none => rw [e] at p; exact p.elim
  | some ne =>
    obtain ⟨n, es⟩ := ne
    rw [e] at p
    try dsimp only at p
    obtain ⟨rfl, h1, vs, h2, h3⟩ := mutL_is si rx e
    cases rxs with
    | nil => exact p.elim
    | cons r1 r2 =>
      cases r2 with
      | cons _ _ => exact p.elim
      | nil =>
        dsimp only at p
        split at p
        · rename_i hz
          obtain ⟨s1, g1⟩ := mutL_set si h1 (h3.append (.cons r1 .nil))
          exact ⟨_, vs, _, rfl, rfl, h2, by rw [h3.length, line_is]; exact hz, p w _ .non g1 s1 .non⟩
        · exact p.elim
/-- pop(), pop(i) -/
def dPop : D → List D → M D := fun x ds S => match mutL S x, ds with
  | some (n, es), [] => match es[es.length - 1]? with
    | some y => some (.ok y (S.set n (.lst es.dropLast)))
    | none => none
  | _, _ => none
theorem opM_pop : OpM X rPop dPop := fun w S H x xs d ds Q W si rx rxs p => by
  unfold dPop at p
  cases e : mutL S d with
  | none => rw [e] at p; exact p.elim
  | some ne =>
    obtain ⟨n, es⟩ := ne
    rw [e] at p
    try dsimp only at p
    obtain ⟨rfl, h1, vs, h2, h3⟩ := mutL_is si rx e
    cases rxs with
    | cons _ _ => exact p.elim
    | nil =>
      dsimp only at p
      cases e2 : es[es.length - 1]? with
      | none => rw [e2] at p; exact p.elim
      | some y =>
        rw [e2] at p
        obtain ⟨u, h4, h5⟩ := h3.get e2
        obtain ⟨s1, g1⟩ := mutL_set si h1 h3.dropLast
        exact ⟨_, vs, u, rfl, rfl, h2, by rw [h3.length]; exact h4, p w _ u g1 s1 h5⟩
def dPopAt : D → List D → M D := fun x ds S => match mutL S x, ds with
  | some (n, es), [.int i] => match ixN es.length i with
    | some j => match es[j]? with
      | some y => if (decide (-(2 ^ 63) ≤ i) && decide (i < 2 ^ 63)) = true then some (.ok y (S.set n (.lst (es.eraseIdx j)))) else none
      | none => none
    | none => none
  | _, _ => none
theorem opM_popAt : OpM X rPopAt dPopAt := fun w S H x xs d ds Q W si rx rxs p => by
  unfold dPopAt at p
  cases e : mutL S d with
  | none => rw [e] at p; exact p.elim
  | some ne =>
    obtain ⟨n, es⟩ := ne
    rw [e] at p
    try dsimp only at p
    obtain ⟨rfl, h1, vs, h2, h3⟩ := mutL_is si rx e
    cases rxs with
    | nil => exact p.elim
    | @cons v1 vs1 d1 ds1 r1 r2 =>
      cases d1 with
      | int i =>
        cases r1
        cases r2 with
        | cons _ _ => exact p.elim
        | nil =>
          dsimp only at p
          cases e1 : ixN es.length i with
          | none => rw [e1] at p; exact p.elim
          | some j =>
            rw [e1] at p
            dsimp only at p
            cases e2 : es[j]? with
            | none => rw [e2] at p; exact p.elim
            | some y =>
              rw [e2] at p
              dsimp only at p
              split at p
              · rename_i hb
                rw [Bool.and_eq_true, decide_eq_true_eq, decide_eq_true_eq] at hb
                obtain ⟨u, h4, h5⟩ := h3.get e2
                obtain ⟨s1, g1⟩ := mutL_set si h1 (h3.eraseIdx j)
                obtain ⟨q1, _⟩ := ixN_seq e1
                exact ⟨_, vs, i, j, u, rfl, rfl, h2, hb.1, hb.2, by rw [h3.length]; exact q1, h4, p w _ u g1 s1 h5⟩
              · exact p.elim
      | _ => exact p.elim
def dInsert : D → List D → M D := fun x ds S => match mutL S x, ds with
  | some (n, es), [.int i, y] => if (decide (es.length < lineN) && decide (0 ≤ i) && decide (i < 2 ^ 63)) = true then some (.ok .non (S.set n (.lst (es.take i.toNat ++ [y] ++ es.drop i.toNat)))) else none
  | _, _ => none
theorem opM_insert : OpM X (fun x vs H Q => ∃ (l : Addr) (xs : List V) (i : Int) (y : V), x = .ref l ∧ vs = [.int i, y] ∧ H l = some (.lst xs) ∧ xs.length < sizeLine ∧ 0 ≤ i ∧ i < 2 ^ 63 ∧
    Q .non (upd H l (.lst (xs.take i.toNat ++ [y] ++ xs.drop i.toNat)))) dInsert := fun w S H x xs d ds Q W si rx rxs p => by
  unfold dInsert at p
  cases e : mutL S d with
  | none => rw [e] at p; exact p.elim
  | some ne =>
    obtain ⟨n, es⟩ := ne
    rw [e] at p
    try dsimp only at p
    obtain ⟨rfl, h1, vs, h2, h3⟩ := mutL_is si rx e
    cases rxs with
    | nil => exact p.elim
    | @cons v1 vs1 d1 ds1 r1 r2 =>
      cases d1 with
      | int i =>
        cases r1
        cases r2 with
        | nil => exact p.elim
        | @cons v2 vs2 d2 ds2 r2 r3 =>
          cases r3 with
          | cons _ _ => exact p.elim
          | nil =>
            dsimp only at p
            split at p
            · rename_i hb
              rw [Bool.and_eq_true, Bool.and_eq_true, decide_eq_true_eq, decide_eq_true_eq, decide_eq_true_eq] at hb
              obtain ⟨s1, g1⟩ := mutL_set si h1 (((h3.take i.toNat).append (.cons r2 .nil)).append (h3.drop i.toNat))
              exact ⟨_, vs, i, v2, rfl, rfl, h2, by rw [h3.length, line_is]; exact hb.1.1, hb.1.2, hb.2, p w _ .non g1 s1 .non⟩
            · exact p.elim
      | _ => exact p.elim
theorem erase_mapX : ∀ (l : List Int) (j : Nat), (l.map V.int).eraseIdx j = (l.eraseIdx j).map V.int
  | [], _ => rfl
  | _ :: _, 0 => rfl
  | x :: r, j + 1 => by
    show V.int x :: (r.map V.int).eraseIdx j = V.int x :: (r.eraseIdx j).map V.int
    rw [erase_mapX r j]
/-- remove an int -/
def dRemove : D → List D → M D := fun x ds S => match mutL S x, ds with
  | some (n, es), [.int k] => match intsOf es with
    | some ns => match ns.findIdx? (fun z => decide (z = k)) with
      | some j => some (.ok .non (S.set n (.lst (es.eraseIdx j))))
      | none => none
    | none => none
  | _, _ => none
theorem opM_remove : OpM X rRemI dRemove := fun w S H x xs d ds Q W si rx rxs p => by
  unfold dRemove at p
  cases e : mutL S d with
  | none => rw [e] at p; exact p.elim
  | some ne =>
    obtain ⟨n, es⟩ := ne
    rw [e] at p
    try dsimp only at p
    obtain ⟨rfl, h1, vs, h2, h3⟩ := mutL_is si rx e
    cases rxs with
    | nil => exact p.elim
    | @cons v1 vs1 d1 ds1 r1 r2 =>
      cases d1 with
      | int k =>
        cases r1
        cases r2 with
        | cons _ _ => exact p.elim
        | nil =>
          dsimp only at p
          cases e1 : intsOf es with
          | none => rw [e1] at p; exact p.elim
          | some ns =>
            rw [e1] at p
            dsimp only at p
            cases e2 : ns.findIdx? (fun z => decide (z = k)) with
            | none => rw [e2] at p; exact p.elim
            | some j =>
              rw [e2] at p
              obtain ⟨s1, g1⟩ := mutL_set si h1 (h3.eraseIdx j)
              have hv := ints_is h3 e1
              obtain ⟨hj, hk, hno⟩ := List.findIdx?_eq_some_iff_getElem.mp e2
              rw [hv, erase_mapX] at g1 s1
              refine ⟨_, ns, k, j, rfl, rfl, by rw [← hv]; exact h2, ?_, fun m hm hc => ?_, p w _ .non g1 s1 .non⟩
              · rw [List.getElem?_eq_getElem hj]
                exact congrArg some (of_decide_eq_true hk)
              · have hm' : m < ns.length := by omega
                rw [List.getElem?_eq_getElem hm'] at hc
                have := hno m hm
                rw [Option.some.inj hc] at this
                simp at this
      | _ => exact p.elim
/-- index, flat things -/
def dIndex : D → List D → M D := fun x ds S => match lstOf S x, ds with
  | some es, [y] => if (flatD y && es.all flatD) = true then match es.findIdx? (fun z => eqD0 z y) with
      | some j => some (.ok (.int (j : Nat)) S)
      | none => none
    else none
  | _, _ => none
theorem opM_index : OpM X (rIndex X.K) dIndex := fun w S H x xs d ds Q W si rx rxs p => by
  unfold dIndex at p
  cases e : lstOf S d with
  | none => rw [e] at p; exact p.elim
  | some es =>
    rw [e] at p
    obtain ⟨a, vs, rfl, h2, h3⟩ := lst_is si rx e
    cases rxs with
    | nil => exact p.elim
    | @cons v1 vs1 d1 ds1 r1 r2 =>
      cases r2 with
      | cons _ _ => exact p.elim
      | nil =>
        dsimp only at p
        split at p
        · rename_i hf
          rw [Bool.and_eq_true] at hf
          cases e2 : es.findIdx? (fun z => eqD0 z d1) with
          | none => rw [e2] at p; exact p.elim
          | some j =>
            rw [e2] at p
            obtain ⟨hj, hk, hno⟩ := List.findIdx?_eq_some_iff_getElem.mp e2
            obtain ⟨z, hz, rz⟩ := h3.get (List.getElem?_eq_getElem hj)
            refine ⟨a, vs, v1, j, z, rfl, rfl, h2, by rw [flat_is r1]; exact hf.1, by rw [flats_is h3]; exact hf.2, hz, by rw [eqV_is rz r1]; exact hk, fun m z' hm hz' => ?_, p w H _ (Go.refl _ _ _) si (.int _)⟩
            obtain ⟨d', hd', rd'⟩ := h3.getV hz'
            rw [eqV_is rd' r1]
            have hm' : m < es.length := by omega
            rw [List.getElem?_eq_getElem hm'] at hd'
            have := hno m hm
            rw [Option.some.inj hd'] at this
            simpa using this
        · exact p.elim

/-! ### dicts: displays, copies, get, pop -/
def mkD (kvs : List (Key × D)) : M D := fun S => some (.ok (.dct kvs) S)
def mkDo (kvs : List (Key × D)) : M D := fun S => some (.ok (.obj S.nx) (S.add (.dk kvs)))
/-- how a made dict is kept -/
abbrev MkD (X : Cx) (mk : List (Key × D) → M D) : Prop := ∀ {w0 w : Wd} {S0 S : MS} {H0 H : Hp} {a : Addr} {kws kws0 : List (Key × V)} {kvs : List (Key × D)} {W : Value → Option Addr → Hp → Prop} {Q : VK}, SI X.K X.mg w0 S0 H0 → H0 a = none → Go w0 S0 (upd H0 a (.dK kws0)) w S H → SI X.K X.mg w S H → RepK X.K w kws kvs →
  Po X.K X.mg (RV' X.K) W w0 S0 H0 Q (mk kvs S) → H a = some (.dK kws0) ∧ (Q (.ref a) (upd H a (.dK kws)) ∨ ∀ od, Q (.ref a) (upd (upd H a (.dK kws)) a (.frz od (.dK kws))))
theorem adopt {K : PySem.W.Frag} {mg : Str → Option Value} {w0 w : Wd} {S0 S : MS} {H0 H : Hp} {a : Addr} {o : HO} (si0 : SI K mg w0 S0 H0) (ha : H0 a = none) (g : Go w0 S0 (upd H0 a o) w S H) (si : SI K mg w S H) :
    H a = some o ∧ w.F a = none ∧ (∀ n ob, S.get n = some ob → w.φ n ≠ a) ∧ (∀ b u, Fo w0 S0 H0 b u → b ≠ a ∧ Fo w S H b u) ∧ ∀ b ob u, H0 b = some (.frz ob u) → b ≠ a ∧ H b = some (.frz ob u) := by
  obtain ⟨h1, h2, h3⟩ := g.fo a o (fo_new si0 ha o)
  refine ⟨h1, h2, h3, fun b u hb => ?_, fun b ob u hb => ?_⟩
  · have ne : b ≠ a := ne_of_none hb.1 ha
    exact ⟨ne, g.fo b u ⟨by rw [upd_ne ne]; exact hb.1, hb.2⟩⟩
  · have ne : b ≠ a := ne_of_none hb ha
    exact ⟨ne, g.fz b ob u (by rw [upd_ne ne]; exact hb)⟩
/-- a thing that was nobody's becomes data -/
theorem adoptF {K : PySem.W.Frag} {mg : Str → Option Value} {w0 w : Wd} {S0 S : MS} {H0 H : Hp} {a : Addr} {o : HO} (si0 : SI K mg w0 S0 H0) (ha : H0 a = none) (g : Go w0 S0 (upd H0 a o) w S H) (si : SI K mg w S H) (o' : HO) :
    SI K mg ⟨w.φ, upd w.F a o', w.m⟩ S (upd H a o') ∧ Go w0 S0 H0 ⟨w.φ, upd w.F a o', w.m⟩ S (upd H a o') ∧ Le w ⟨w.φ, upd w.F a o', w.m⟩ := by
  obtain ⟨h1, h2, h3, h4, h5⟩ := adopt si0 ha g si
  have le : Le w ⟨w.φ, upd w.F a o', w.m⟩ := ⟨Nat.le_refl _, fun _ _ => rfl, fun b u h => by
    show upd w.F a o' b = some u
    rw [upd_ne (ne_of_none h h2)]; exact h⟩
  refine ⟨⟨si.nx, fun b u h => ?_, fun n ob h => ?_, si.inj⟩, ⟨g.le.trans le, fun b u hb => ?_, fun b ob u hb => ?_⟩, le⟩
  · have h' : upd w.F a o' b = some u := h
    by_cases e : b = a
    · subst e
      rw [upd_same] at h' ⊢
      exact h'
    · rw [upd_ne e] at h' ⊢
      exact si.ex b u h'
  · obtain ⟨q1, q2, ho, q3, q4⟩ := si.st n ob h
    have ne := h3 n ob h
    exact ⟨q1, by show upd w.F a o' (w.φ n) = none; rw [upd_ne ne]; exact q2, ho, by show upd H a o' (w.φ n) = some ho; rw [upd_ne ne]; exact q3, q4.le le⟩
  · obtain ⟨ne, q1, q2, q3⟩ := h4 b u hb
    exact ⟨by rw [upd_ne ne]; exact q1, by show upd w.F a o' b = none; rw [upd_ne ne]; exact q2, q3⟩
  · obtain ⟨ne, q⟩ := h5 b ob u hb
    rw [upd_ne ne]; exact q
/-- .. becomes a thing that may change -/
theorem adoptS {K : PySem.W.Frag} {mg : Str → Option Value} {w0 w : Wd} {S0 S : MS} {H0 H : Hp} {a : Addr} {o : HO} (si0 : SI K mg w0 S0 H0) (ha : H0 a = none) (g : Go w0 S0 (upd H0 a o) w S H) (si : SI K mg w S H) {mo : MO} {ho : HO} (r : ObR K mg w mo ho) :
    SI K mg ⟨fun n => if n = w.m then a else w.φ n, w.F, w.m + 1⟩ (S.add mo) (upd H a ho) ∧ Go w0 S0 H0 ⟨fun n => if n = w.m then a else w.φ n, w.F, w.m + 1⟩ (S.add mo) (upd H a ho) ∧ Rep K ⟨fun n => if n = w.m then a else w.φ n, w.F, w.m + 1⟩ (.ref a) (.obj S.nx) := by
  obtain ⟨h1, h2, h3, h4, h5⟩ := adopt si0 ha g si
  have hn : S.nx = w.m := si.nx
  have le : Le w ⟨fun n => if n = w.m then a else w.φ n, w.F, w.m + 1⟩ := ⟨Nat.le_succ _, fun n h => if_neg (Nat.ne_of_lt h), fun b u h => h⟩
  refine ⟨⟨by show S.nx + 1 = w.m + 1; rw [hn], fun b u h => ?_, fun n ob h => ?_, fun n n' ob ob' h h' e => ?_⟩, ⟨g.le.trans le, fun b u hb => ?_, fun b ob u hb => ?_⟩, ?_⟩
  · have h' : w.F b = some u := h
    rw [upd_ne (ne_of_none h' h2)]
    exact si.ex b u h'
  · have h' : (if n = S.nx then some mo else S.get n) = some ob := h
    by_cases e : n = w.m
    · rw [if_pos (e.trans hn.symm)] at h'
      cases h'
      refine ⟨by show n < w.m + 1; omega, ?_, ho, ?_, r.le le⟩
      · show w.F (if n = w.m then a else w.φ n) = none
        rw [if_pos e]; exact h2
      · show upd H a ho (if n = w.m then a else w.φ n) = some ho
        rw [if_pos e]; exact upd_same
    · rw [if_neg (fun z => e (z.trans hn))] at h'
      obtain ⟨q1, q2, ho', q3, q4⟩ := si.st n ob h'
      refine ⟨by show n < w.m + 1; omega, ?_, ho', ?_, q4.le le⟩
      · show w.F (if n = w.m then a else w.φ n) = none
        rw [if_neg e]; exact q2
      · show upd H a ho (if n = w.m then a else w.φ n) = some ho'
        rw [if_neg e, upd_ne (h3 n ob h')]; exact q3
  · have q1 : (if n = S.nx then some mo else S.get n) = some ob := h
    have q2 : (if n' = S.nx then some mo else S.get n') = some ob' := h'
    have e' : (if n = w.m then a else w.φ n) = (if n' = w.m then a else w.φ n') := e
    by_cases a1 : n = w.m
    · by_cases b1 : n' = w.m
      · rw [a1, b1]
      · rw [if_neg (fun z => b1 (z.trans hn))] at q2
        rw [if_pos a1, if_neg b1] at e'
        exact absurd e'.symm (h3 n' ob' q2)
    · rw [if_neg (fun z => a1 (z.trans hn))] at q1
      by_cases b1 : n' = w.m
      · rw [if_neg a1, if_pos b1] at e'
        exact absurd e' (h3 n ob q1)
      · rw [if_neg (fun z => b1 (z.trans hn))] at q2
        rw [if_neg a1, if_neg b1] at e'
        exact si.inj n n' ob ob' q1 q2 e'
  · obtain ⟨ne, q1, q2, q3⟩ := h4 b u hb
    refine ⟨by rw [upd_ne ne]; exact q1, q2, fun n ob h => ?_⟩
    have h' : (if n = S.nx then some mo else S.get n) = some ob := h
    show (if n = w.m then a else w.φ n) ≠ b
    by_cases e : n = w.m
    · rw [if_pos e]; exact ne.symm
    · rw [if_neg e]
      rw [if_neg (fun z => e (z.trans hn))] at h'
      exact q3 n ob h'
  · obtain ⟨ne, q⟩ := h5 b ob u hb
    rw [upd_ne ne]; exact q
  · have ex : (fun n => if n = w.m then a else w.φ n) S.nx = a := by
      show (if S.nx = w.m then a else w.φ S.nx) = a
      rw [if_pos hn]
    have z := Rep.obj (K := K) (w := ⟨fun n => if n = w.m then a else w.φ n, w.F, w.m + 1⟩) (n := S.nx) (by show S.nx < w.m + 1; rw [hn]; exact Nat.lt_succ_self _)
    rw [show (⟨fun n => if n = w.m then a else w.φ n, w.F, w.m + 1⟩ : Wd).φ S.nx = a from ex] at z
    exact z
theorem upd2 {H : Hp} {a : Addr} {o u : HO} : upd (upd H a o) a u = upd H a u := upd_upd
theorem mkD_s : MkD X mkD := fun {w0 w S0 S H0 H a kws kws0 kvs W Q} si0 ha g si r p => by
  refine ⟨(adopt si0 ha g si).1, .inr fun od => ?_⟩
  rw [upd2]
  obtain ⟨s1, g1, l1⟩ := adoptF si0 ha g si (.frz od (.dK kws))
  exact p _ _ _ g1 s1 (.dct (ob := od) upd_same (r.le l1))
theorem mkDo_s : MkD X mkDo := fun {w0 w S0 S H0 H a kws kws0 kvs W Q} si0 ha g si r p => by
  refine ⟨(adopt si0 ha g si).1, .inl ?_⟩
  obtain ⟨s1, g1, r1⟩ := adoptS si0 ha g si (mo := .dk kvs) (ho := .dK kws) r
  exact p _ _ _ g1 s1 r1
def Q2 (Q : VK) : VK := fun v H => Q v H ∨ ∃ a kvs, H a = some (.dK kvs) ∧ ∀ od, Q v (upd H a (.frz od (.dK kvs)))
theorem q2_of {Q : VK} {a : Addr} {H : Hp} {kws : List (Key × V)} (h : Q (.ref a) (upd H a (.dK kws)) ∨ ∀ od, Q (.ref a) (upd (upd H a (.dK kws)) a (.frz od (.dK kws)))) : Q2 Q (.ref a) (upd H a (.dK kws)) := by
  rcases h with h | h
  · exact .inl h
  · exact .inr ⟨a, kws, upd_same, h⟩
/-- {} -/
def mDct0 (mk : List (Key × D) → M D) : ME := fun _ => mk []
theorem j_dct0 {mk : List (Key × D) → M D} (hk : MkD X mk) {pos : Pos} : JE X C (.Dict [] [] pos) (mDct0 mk) := PE.weak (pe_post pe_dnewK) fun σ H Q ⟨w, S, env, me, p⟩ => fun a ha => by
  obtain ⟨s1, g1⟩ := me.si.fr ha (.dK [])
  obtain ⟨_, q⟩ := hk (kws := []) me.si ha (Go.refl _ _ _) s1 .nil p
  rw [upd2] at q
  exact q2_of q
/-- {k: v, ..} -/
def mPairs : List (ME × ME) → En → M (List (D × D))
  | [], _ => ret []
  | (k, v) :: r, env => bnd (k env) fun x => bnd (v env) fun y => bnd (mPairs r env) fun ps => ret ((x, y) :: ps)
def keysOf : List (D × D) → Option (List (Key × D))
  | [] => some []
  | (k, v) :: r => match toKey k, keysOf r with
    | some k', some r' => some ((k', v) :: r')
    | _, _ => none
def dMerge (kvs more : List (Key × D)) : List (Key × D) := more.foldl (fun acc kv => dPutK acc kv.1 kv.2) kvs
def mDct (mk : List (Key × D) → M D) (ps : List (ME × ME)) : ME := fun env => bnd (mPairs ps env) fun ps => match keysOf ps with
  | some kvs => if kvs.length ≤ 15 then mk (dMerge [] kvs) else stuck
  | none => stuck
def JPs (X : Cx) (C : Cy X) (pos : Pos) (keys : List (Option Expr)) (values : List Expr) (ps : List (ME × ME)) : Prop := PPs X pos keys values (ps.map fun p => (tE C p.1, tE C p.2))
theorem jps_nil {pos : Pos} : JPs X C pos [] [] [] := pps_nil
theorem jps_cons {pos : Pos} {k v : Expr} {ks : List (Option Expr)} {vs : List Expr} {mk mv : ME} {r : List (ME × ME)} (hk : JE X C k mk) (hv : JE X C v mv) (hr : JPs X C pos ks vs r) : JPs X C pos (some k :: ks) (v :: vs) ((mk, mv) :: r) := pps_cons hk hv hr
def RepP (K : PySem.W.Frag) (w : Wd) : List (V × V) → List (D × D) → Prop
  | [], [] => True
  | (x, y) :: r, (d, e) :: s => Rep K w x d ∧ Rep K w y e ∧ RepP K w r s
  | _, _ => False
theorem pairs_go : ∀ {ps : List (ME × ME)} {w : Wd} {S : MS} {env : En} {σ : St} {H : Hp} {Q' : List (V × V) → Hp → Prop}, Me X C w S env σ H → Po X.K X.mg (fun w _ _ vs ds => RepP X.K w vs ds) (fun c d H => C.W c d σ H) w S H Q' (mPairs ps env S) → tPairs (ps.map fun p => (tE C p.1, tE C p.2)) σ H Q'
  | [], w, S, env, σ, H, Q', me, p => p w H [] (Go.refl _ _ _) me.si True.intro
  | (k, v) :: r, w, S, env, σ, H, Q', me, p => by
    refine ⟨w, S, env, me, po_bnd me p fun w1 S1 H1 x d me1 rx g1 p1 => ?_⟩
    refine ⟨w1, S1, env, me1, po_bnd me1 p1 fun w2 S2 H2 y e me2 ry g2 p2 => ?_⟩
    refine pairs_go (ps := r) me2 (po_bnd (γ := List (V × V)) (Ra := fun w _ _ vs ds => RepP X.K w vs ds) me2 p2 fun w3 S3 H3 ps ds me3 rp g3 p3 => ?_)
    exact p3 w3 H3 ((x, y) :: ps) (Go.refl _ _ _) me3.si ⟨rx.le (g2.le.trans g3.le), ry.le g3.le, rp⟩
theorem keys_is {K : PySem.W.Frag} {w : Wd} : ∀ {ds : List (D × D)} {ps : List (V × V)} {kvs : List (Key × D)}, RepP K w ps ds → keysOf ds = some kvs → ∃ kws, ps = kws.map (fun kv => (kV kv.1, kv.2)) ∧ RepK K w kws kvs
  | [], [], _, _, h => by
    cases h
    exact ⟨[], rfl, .nil⟩
  | (d, e) :: s, [], _, r, h => r.elim
  | [], (x, y) :: r, _, h, _ => h.elim
  | (d, e) :: s, (x, y) :: r, _, h, g => by
    unfold keysOf at g
    cases e1 : toKey d with
    | none => rw [e1] at g; cases g
    | some k =>
      cases e2 : keysOf s with
      | none => rw [e1, e2] at g; cases g
      | some t =>
        rw [e1, e2] at g
        cases g
        obtain ⟨kws, h1, h2⟩ := keys_is h.2.2 e2
        have hx : x = kV k := by
          have r1 := h.1
          cases d <;> first | (cases e1; done) | (cases r1; cases e1; rfl)
        exact ⟨(k, y) :: kws, by rw [h1, hx]; rfl, .cons h.2.1 h2⟩
theorem RepK.merge {w : Wd} : ∀ {more : List (Key × V)} {dm : List (Key × D)} {kws : List (Key × V)} {kvs : List (Key × D)}, RepK X.K w more dm → RepK X.K w kws kvs → RepK X.K w (mergeK kws more) (dMerge kvs dm)
  | _, [], _, _, h, g => by
    cases h
    exact g
  | _, (k, d) :: r, _, _, h, g => by
    cases h with
    | @cons _ v vs _ _ h1 h2 =>
      show RepK X.K w (mergeK (putK _ k v) vs) (dMerge (dPutK _ k d) r)
      exact RepK.merge h2 (g.put k h1)
theorem j_dct {mk : List (Key × D) → M D} (hk : MkD X mk) {pos : Pos} {keys : List (Option Expr)} {values : List Expr} {ps : List (ME × ME)} (h : JPs X C pos keys values ps) (hall : keys.all (·.isSome) = true := by rfl) (hl : keys.length = values.length := by rfl) (h0 : keys ≠ [] := by intro z; cases z)
    (hfew : decide (keys.length ≤ 15) = true := by decide) : JE X C (.Dict keys values pos) (mDct mk ps) := PE.weak (pe_post (pe_disp h hall hl h0 (of_decide_eq_true hfew))) fun σ H Q ⟨w, S, env, me, p⟩ => by
  intro a ha
  obtain ⟨s1, g1⟩ := me.si.fr ha (.dK [])
  have me1 := me.go g1 s1
  have p' : Po X.K X.mg (fun w _ _ vs ds => RepP X.K w vs ds) (fun c d H => C.W c d σ H) w S (upd H a (.dK [])) (fun ps H2 => H2 a = some (.dK []) ∧ ∃ kvs : List (Key × V), ps = kvs.map (fun kv => (kV kv.1, kv.2)) ∧ kvs.length ≤ 15 ∧ Q2 Q (.ref a) (upd H2 a (.dK (mergeK [] kvs)))) (mPairs ps env S) := by
    unfold mDct bnd at p
    cases e : mPairs ps env S with
    | none => rw [e] at p; exact p
    | some o =>
      rw [e] at p
      cases o with
      | exc ex S' => exact fun w' H' cls dx g => p w' H' cls dx (g1.trans g)
      | ok ds S' =>
        dsimp only at p
        intro w' H' vs g s r
        cases e2 : keysOf ds with
        | none => rw [e2] at p; exact p.elim
        | some kvs =>
          rw [e2] at p
          dsimp only at p
          split at p
          · rename_i hz
            obtain ⟨kws, h1, h2⟩ := keys_is r e2
            obtain ⟨q1, q2⟩ := hk (kws := mergeK [] kws) me.si ha g s (h2.merge .nil) p
            exact ⟨q1, kws, h1, by rw [h2.length]; exact hz, q2_of q2⟩
          · exact p.elim
  exact pairs_go me1 p'
end
end Mi
namespace Mi
open PySem L2

/-! ### what a loop walks -/
def keysD (kvs : List (Key × D)) : List D := kvs.map fun kv => keyD kv.1
def itAny (S : MS) : D → Option (List D)
  | .lst ds => some ds
  | .src ds => some ds
  | .tup ds => some ds
  | .dct kvs => some (keysD kvs)
  | .obj n => match S.get n with
    | some (.ll ds) => some ds
    | some (.lk kvs) => some (keysD kvs)
    | _ => none
  | _ => none
def mIt (m : ME) : MA := fun env => bnd (m env) fun d S => match itAny S d with
  | some ds => some (.ok ds S)
  | none => none
def itVals (S : MS) : D → Option (List D)
  | .dct kvs => some (kvs.map (·.2))
  | .obj n => match S.get n with
    | some (.lk kvs) => some (kvs.map (·.2))
    | _ => none
  | _ => none
def mItV (m : ME) : MA := fun env => bnd (m env) fun d S => match itVals S d with
  | some ds => some (.ok ds S)
  | none => none
def rngN (lo c : Int) (n : Nat) : List D := (List.range n).map fun i => .int (lo + (i : Nat) * c)
def mRange1 (ms : MA) : MA := fun env => bnd (ms env) fun ds => match ds with
  | [.int j] => if (decide (-(2 ^ 62) ≤ j) && decide (j < 2 ^ 62)) = true then ret (rngN 0 1 j.toNat) else stuck
  | _ => stuck
def mRange2 (ms : MA) : MA := fun env => bnd (ms env) fun ds => match ds with
  | [.int i, .int j] => if (decide (-(2 ^ 62) ≤ i) && decide (i < 2 ^ 62) && decide (-(2 ^ 62) ≤ j) && decide (j < 2 ^ 62)) = true then ret (rngN i 1 (j - i).toNat) else stuck
  | _ => stuck
def mRange3 (ms : MA) : MA := fun env => bnd (ms env) fun ds => match ds with
  | [.int i, .int j, .int c] => if (decide (c ≠ 0) && decide (c.natAbs < 1073741824) && Builtin.Range.small i j c && decide (0 ≤ Builtin.Range.rangeSize i j c)) = true then ret (rngN i c (Builtin.Range.rangeSize i j c).toNat) else stuck
  | _ => stuck
def zipD : List D → List D → List D
  | x :: r, y :: s => .tup [x, y] :: zipD r s
  | _, _ => []
section
variable {X : Cx} {C : Cy X} {pos : Pos}
theorem RepK.getV {K : PySem.W.Frag} {w : Wd} : ∀ {kws : List (Key × V)} {kvs : List (Key × D)} {i : Nat} {k : Key} {v : V}, RepK K w kws kvs → kws[i]? = some (k, v) → ∃ d, kvs[i]? = some (k, d) ∧ Rep K w v d
  | [], _, _, _, _, h, e => by simp at e
  | (k0, v0) :: kws, _, i, k, v, h, e => by
    cases h with
    | cons h1 h2 =>
      cases i with
      | zero =>
        simp at e
        obtain ⟨e1, e2⟩ := e
        subst e1
        subst e2
        exact ⟨_, rfl, h1⟩
      | succ i =>
        obtain ⟨u, a, b⟩ := RepK.getV (i := i) h2 (by simpa using e)
        exact ⟨u, by simpa using a, b⟩
theorem itl_is {w : Wd} {S : MS} {H : Hp} {a : Addr} {vs : List V} {ds : List D} (hq : ∀ w' S' H', Go w S H w' S' H' → SI X.K X.mg w' S' H' → SqL X.K H' a vs) (r : RepL X.K w vs ds) : ItR X w S H (Itl X.K a) ds := by
  intro i w' S' H' g si
  have h := hq w' S' H' g si
  refine ⟨fun e => ⟨vs, h, by rw [r.length, e]; exact Nat.le_refl _⟩, fun d hd => ?_⟩
  obtain ⟨v, h1, h2⟩ := r.get hd
  refine ⟨⟨vs, v, h, h1⟩, fun x H'' y => ?_⟩
  obtain ⟨e, y⟩ := y
  subst e
  have y1 := y vs h
  rw [h1] at y1
  cases y1
  exact ⟨w', Go.refl _ _ _, si, h2.le g.le⟩
theorem itt_is {w : Wd} {S : MS} {H : Hp} {a : Addr} {vs : List V} {ds : List D} (hq : ∀ w' S' H', Go w S H w' S' H' → SI X.K X.mg w' S' H' → SqT X.K H' a vs) (r : RepL X.K w vs ds) : ItR X w S H (Itt X.K a) ds := by
  intro i w' S' H' g si
  have h := hq w' S' H' g si
  refine ⟨fun e => ⟨vs, h, by rw [r.length, e]; exact Nat.le_refl _⟩, fun d hd => ?_⟩
  obtain ⟨v, h1, h2⟩ := r.get hd
  refine ⟨⟨vs, v, h, h1⟩, fun x H'' y => ?_⟩
  obtain ⟨e, y⟩ := y
  subst e
  have y1 := y vs h
  rw [h1] at y1
  cases y1
  exact ⟨w', Go.refl _ _ _, si, h2.le g.le⟩
theorem itk_is {w : Wd} {S : MS} {H : Hp} {a : Addr} {o : Obj} {kws : List (Key × V)} {kvs : List (Key × D)} (h0 : H a = some (.frz o (.dK kws))) (r : RepK X.K w kws kvs) : ItR X w S H (Itk a o kws) (keysD kvs) := by
  intro i w' S' H' g si
  have h := g.fz a o _ h0
  have hl : (keysD kvs).length = kws.length := by unfold keysD; rw [List.length_map, r.length]
  refine ⟨fun e => ⟨h, by rw [← hl, e]; exact Nat.le_refl _⟩, fun d hd => ?_⟩
  have hi : i < kws.length := by
    rw [← hl]
    exact (List.getElem?_eq_some_iff.mp hd).1
  refine ⟨⟨h, hi⟩, fun x H'' y => ?_⟩
  obtain ⟨e, k, v, y1, y2⟩ := y
  subst e
  subst y2
  obtain ⟨d', q1, q2⟩ := r.getV y1
  unfold keysD at hd
  rw [List.getElem?_map, q1] at hd
  cases hd
  exact ⟨w', Go.refl _ _ _, si, keyD_rep k⟩
theorem itd_is {w : Wd} {S : MS} {H : Hp} {a : Addr} {o : Obj} {kws : List (Key × V)} {kvs : List (Key × D)} (h0 : H a = some (.frz o (.dK kws))) (r : RepK X.K w kws kvs) : ItR X w S H (Itd a o kws) (kvs.map (·.2)) := by
  intro i w' S' H' g si
  have h := g.fz a o _ h0
  have hl : (kvs.map (·.2)).length = kws.length := by rw [List.length_map, r.length]
  refine ⟨fun e => ⟨h, by rw [← hl, e]; exact Nat.le_refl _⟩, fun d hd => ?_⟩
  have hi : i < kws.length := by
    rw [← hl]
    exact (List.getElem?_eq_some_iff.mp hd).1
  refine ⟨⟨h, hi⟩, fun x H'' y => ?_⟩
  obtain ⟨e, k, y1⟩ := y
  subst e
  obtain ⟨d', q1, q2⟩ := r.getV y1
  rw [List.getElem?_map, q1] at hd
  cases hd
  exact ⟨w', Go.refl _ _ _, si, q2.le g.le⟩
theorem itr_is {w : Wd} {S : MS} {H : Hp} (lo : Int) (n : Nat) : ItR X w S H (Itr lo n) (rngN lo 1 n) := by
  intro i w' S' H' g si
  refine ⟨fun e => by show n ≤ i; rw [e]; unfold rngN; simp, fun d hd => ?_⟩
  have hi : i < n := by
    have := (List.getElem?_eq_some_iff.mp hd).1
    unfold rngN at this
    simpa using this
  unfold rngN at hd
  rw [List.getElem?_map, List.getElem?_range hi] at hd
  cases hd
  refine ⟨hi, fun x H'' y => ?_⟩
  obtain ⟨e, y⟩ := y
  subst e
  subst y
  exact ⟨w', Go.refl _ _ _, si, by show Rep X.K w' _ (D.int (lo + (i : Int) * 1)); rw [Int.mul_one]; exact .int _⟩
theorem itc_is {w : Wd} {S : MS} {H : Hp} (lo c : Int) (n : Nat) : ItR X w S H (Itc lo c n) (rngN lo c n) := by
  intro i w' S' H' g si
  refine ⟨fun e => by show n ≤ i; rw [e]; unfold rngN; simp, fun d hd => ?_⟩
  have hi : i < n := by
    have := (List.getElem?_eq_some_iff.mp hd).1
    unfold rngN at this
    simpa using this
  unfold rngN at hd
  rw [List.getElem?_map, List.getElem?_range hi] at hd
  cases hd
  refine ⟨hi, fun x H'' y => ?_⟩
  obtain ⟨e, y⟩ := y
  subst e
  subst y
  exact ⟨w', Go.refl _ _ _, si, .int _⟩
theorem ji_any {tg e : Expr} {m : ME} (he : JE X C e m) : JI X C tg e (mIt m) := ⟨fun pins s σ H R I ⟨w, S, env, me, p⟩ => by
  unfold mIt bnd at p
  cases e1 : m env S with
  | none => rw [e1] at p; exact p.elim
  | some r =>
    rw [e1] at p
    cases r with
    | exc ex S' => exact (pi_list he).run pins s σ H R I ⟨w, S, env, me, by rw [e1]; exact p⟩
    | ok d S' =>
      dsimp only at p
      cases d with
      | lst ds =>
        refine (pi_list he).run pins s σ H R I ⟨w, S, env, me, by
          rw [e1]
          intro w' H' v g si rv
          cases rv with
          | @lst a vs _ h1 h2 => exact ⟨a, rfl, ⟨vs, .inl (rd_ex si.ex h1)⟩, p w' H' _ g si (itl_is (fun w2 S2 H2 g2 s2 => .inl (rd_ex s2.ex (rd_ex g2.le.ex h1))) h2)⟩⟩
      | src ds =>
        refine (pi_list he).run pins s σ H R I ⟨w, S, env, me, by
          rw [e1]
          intro w' H' v g si rv
          cases rv with
          | @src a vs _ h1 h2 => exact ⟨a, rfl, ⟨vs, sql_ex si.ex h1⟩, p w' H' _ g si (itl_is (fun w2 S2 H2 g2 s2 => sql_ex s2.ex (sql_ex g2.le.ex h1)) h2)⟩⟩
      | tup ds =>
        refine (pi_tup he).run pins s σ H R I ⟨w, S, env, me, by
          rw [e1]
          intro w' H' v g si rv
          cases rv with
          | @tup a vs _ h1 h2 => exact ⟨a, rfl, ⟨vs, sqt_ex si.ex h1⟩, p w' H' _ g si (itt_is (fun w2 S2 H2 g2 s2 => sqt_ex s2.ex (sqt_ex g2.le.ex h1)) h2)⟩⟩
      | dct kvs =>
        refine (pi_keys he).run pins s σ H R I ⟨w, S, env, me, by
          rw [e1]
          intro w' H' v g si rv
          cases rv with
          | @dct a ob kws _ h1 h2 => exact ⟨a, ob, rfl, .inl ⟨kws, si.ex _ _ h1, p w' H' _ g si (itk_is (si.ex _ _ h1) h2)⟩⟩⟩
      | obj n =>
        unfold itAny at p
        dsimp only at p
        cases e2 : S'.get n with
        | none => rw [e2] at p; exact p.elim
        | some o =>
          rw [e2] at p
          cases o with
          | ll ds =>
            refine (pi_list he).run pins s σ H R I ⟨w, S, env, me, by
              rw [e1]
              intro w' H' v g si rv
              cases rv with
              | obj hn =>
                obtain ⟨_, _, ho, h3, h4⟩ := si.st n _ e2
                cases ho with
                | frz ob u =>
                  cases u with
                  | lst vs => exact ⟨_, rfl, ⟨vs, .inl (.inr ⟨_, h3⟩)⟩, p w' H' _ g si (itl_is (fun w2 S2 H2 g2 s2 => .inl (.inr ⟨_, g2.fz _ _ _ h3⟩)) h4)⟩
                  | _ => exact h4.elim
                | _ => exact h4.elim⟩
          | lk kvs =>
            refine (pi_keys he).run pins s σ H R I ⟨w, S, env, me, by
              rw [e1]
              intro w' H' v g si rv
              cases rv with
              | obj hn =>
                obtain ⟨_, _, ho, h3, h4⟩ := si.st n _ e2
                cases ho with
                | frz ob u =>
                  cases u with
                  | dK kws => exact ⟨_, ob, rfl, .inl ⟨kws, h3, p w' H' _ g si (itk_is h3 h4)⟩⟩
                  | _ => exact h4.elim
                | _ => exact h4.elim⟩
          | _ => exact p.elim
      | _ => exact p.elim⟩
theorem ji_vals {tg e : Expr} {m : ME} {apos cpos : Pos} (he : JE X C e m) (hbase : attributeBase e "values" X.env (eval e X.env) = eval e X.env := by rfl) (hline : (apos.endLine == cpos.line) = true := by rfl) : JI X C tg (.Call (.Attribute e "values" apos) [] [] cpos) (mItV m) := PI.weak (pi_values he hbase hline) fun σ H R ⟨w, S, env, me, p⟩ => by
  refine ⟨w, S, env, me, po_bnd me p fun w1 S1 H1 v d me1 rv g1 p1 => ?_⟩
  cases d with
  | dct kvs =>
    cases rv with
    | @dct a ob kws _ h1 h2 => exact ⟨a, ob, kws, rfl, me1.si.ex _ _ h1, p1 w1 H1 _ (Go.refl _ _ _) me1.si (itd_is (me1.si.ex _ _ h1) h2)⟩
  | obj n =>
    cases rv with
    | obj hn =>
      unfold itVals at p1
      dsimp only at p1
      cases e2 : S1.get n with
      | none => rw [e2] at p1; exact p1.elim
      | some o =>
        rw [e2] at p1
        cases o with
        | lk kvs =>
          obtain ⟨_, _, ho, h3, h4⟩ := me1.si.st n _ e2
          cases ho with
          | frz ob u =>
            cases u with
            | dK kws => exact ⟨_, ob, kws, rfl, h3, p1 w1 H1 _ (Go.refl _ _ _) me1.si (itd_is h3 h4)⟩
            | _ => exact h4.elim
          | _ => exact h4.elim
        | _ => exact p1.elim
  | _ => exact p1.elim
theorem ji_range1 {tg a : Expr} {ms : MA} {p : Pos} (hg : Gl X "range") (hm : X.mg "range" = none) (ha : JA X C [a] ms) (hs : starEach [a] X.env = [(false, eval a X.env)] := by rfl) : JI X C tg (.Call (.Name "range" p) [a] [] pos) (mRange1 ms) := PI.weak (pi_range1 hg hm ha hs) fun σ H R ⟨w, S, env, me, p⟩ => by
  refine ⟨w, S, env, me, po_bnd me p fun w1 S1 H1 vs ds me1 rv g1 p1 => ?_⟩
  cases rv with
  | nil => exact p1.elim
  | @cons v1 vs d1 ds r1 r2 =>
    cases d1 with
    | int i =>
      cases r1
      cases r2 with
      | nil =>
        dsimp only at p1
        split at p1
        · rename_i hb
          simp only [Bool.and_eq_true, decide_eq_true_eq] at hb
          exact ⟨i, rfl, hb.1, hb.2, p1 w1 H1 _ (Go.refl _ _ _) me1.si (itr_is 0 _)⟩
        · exact p1.elim
      | cons _ _ => exact p1.elim
    | _ => exact p1.elim
theorem ji_range2 {tg a b : Expr} {ms : MA} {p : Pos} (hg : Gl X "range") (hm : X.mg "range" = none) (ha : JA X C [a, b] ms) (hs : starEach [a, b] X.env = [(false, eval a X.env), (false, eval b X.env)] := by rfl) (hs2 : starEach [b] X.env = [(false, eval b X.env)] := by rfl) :
    JI X C tg (.Call (.Name "range" p) [a, b] [] pos) (mRange2 ms) := PI.weak (pi_range2 hg hm ha hs hs2) fun σ H R ⟨w, S, env, me, p⟩ => by
  refine ⟨w, S, env, me, po_bnd me p fun w1 S1 H1 vs ds me1 rv g1 p1 => ?_⟩
  cases rv with
  | nil => exact p1.elim
  | @cons v1 vs d1 ds r1 r2 =>
    cases d1 with
    | int i =>
      cases r1
      cases r2 with
      | nil => exact p1.elim
      | @cons v2 vs d2 ds r2 r3 =>
        cases d2 with
        | int j =>
          cases r2
          cases r3 with
          | nil =>
            dsimp only at p1
            split at p1
            · rename_i hb
              simp only [Bool.and_eq_true, decide_eq_true_eq] at hb
              exact ⟨i, j, rfl, ⟨hb.1.1.1, hb.1.1.2, hb.1.2, hb.2⟩, p1 w1 H1 _ (Go.refl _ _ _) me1.si (itr_is i _)⟩
            · exact p1.elim
          | cons _ _ => exact p1.elim
        | _ => exact p1.elim
    | _ => exact p1.elim
theorem ji_range3 {tg a b c : Expr} {ms : MA} {p : Pos} (hg : Gl X "range") (hm : X.mg "range" = none) (ha : JA X C [a, b, c] ms)
    (hs : starEach [a, b, c] X.env = (false, eval a X.env) :: starEach [b, c] X.env := by rfl) (hpl : (backTo pos (starEach [b, c] X.env)).any (·.1) = false := by rfl) :
    JI X C tg (.Call (.Name "range" p) [a, b, c] [] pos) (mRange3 ms) := PI.weak (pi_range3 hg hm ha hs hpl) fun σ H R ⟨w, S, env, me, p⟩ => by
  refine ⟨w, S, env, me, po_bnd me p fun w1 S1 H1 vs ds me1 rv g1 p1 => ?_⟩
  cases rv with
  | nil => exact p1.elim
  | @cons v1 vs d1 ds r1 r2 =>
    cases d1 with
    | int i =>
      cases r1
      cases r2 with
      | nil => exact p1.elim
      | @cons v2 vs d2 ds r2 r3 =>
        cases d2 with
        | int j =>
          cases r2
          cases r3 with
          | nil => exact p1.elim
          | @cons v3 vs d3 ds r3 r4 =>
            cases d3 with
            | int c =>
              cases r3
              cases r4 with
              | nil =>
                dsimp only at p1
                split at p1
                · rename_i hb
                  simp only [Bool.and_eq_true, decide_eq_true_eq] at hb
                  exact ⟨i, j, c, _, rfl, ⟨hb.1.1.1, hb.1.1.2, hb.1.2, (Int.toNat_of_nonneg hb.2).symm⟩, p1 w1 H1 _ (Go.refl _ _ _) me1.si (itc_is i c _)⟩
                · exact p1.elim
              | cons _ _ => exact p1.elim
            | _ => exact p1.elim
        | _ => exact p1.elim
    | _ => exact p1.elim

/-! ### comprehensions -/
theorem wipe_get {σ : St} {i : Nat} : ∀ (vs : List Nat), (L2.wipe σ vs)[i]? = if i ∈ vs then σ[i]?.map (fun _ => none) else σ[i]?
  | [] => by simp [L2.wipe]
  | v :: vs => by
    unfold L2.wipe
    rw [List.getElem?_set]
    by_cases e : v = i
    · subst e
      rw [if_pos rfl, if_pos List.mem_cons_self, L2.wipe_length]
      by_cases hl : v < σ.length
      · rw [if_pos hl, List.getElem?_eq_getElem hl]; rfl
      · rw [if_neg hl, List.getElem?_eq_none (by omega)]; rfl
    · rw [if_neg e, wipe_get vs]
      have : (i ∈ v :: vs) ↔ (i ∈ vs) := by
        simp only [List.mem_cons]
        exact ⟨fun h => h.elim (fun z => absurd z.symm e) id, .inr⟩
      simp only [this]
theorem wipe_idem {σ : St} {vs : List Nat} : L2.wipe (L2.wipe σ vs) vs = L2.wipe σ vs := by
  apply List.ext_getElem?
  intro i
  rw [wipe_get, wipe_get]
  by_cases h : i ∈ vs
  · rw [if_pos h, if_pos h]
    cases σ[i]? <;> rfl
  · rw [if_neg h]
theorem wipe_set {σ : St} {vs : List Nat} {i : Nat} {o : Option V} (h : i ∈ vs) : L2.wipe (σ.set i o) vs = L2.wipe σ vs := by
  apply List.ext_getElem?
  intro j
  rw [wipe_get, wipe_get]
  by_cases hj : j ∈ vs
  · rw [if_pos hj, if_pos hj, List.getElem?_set]
    by_cases e : i = j
    · subst e
      rw [if_pos rfl]
      by_cases hl : i < σ.length
      · rw [if_pos hl, List.getElem?_eq_getElem hl]; rfl
      · rw [if_neg hl, List.getElem?_eq_none (by omega)]
    · rw [if_neg e]
  · rw [if_neg hj, if_neg hj, List.getElem?_set_ne (fun e => hj (by rw [← e]; exact h))]
/-- a comprehension's target keeps to the block's own names -/
structure GV (X : Cx) (vs : List Nat) (gt : TG) (g : MG) : Prop where
  st : ∀ {d env S env' S'}, g d env S = some (env', S') → S' = S
  ok : ∀ {v : V} {d : D} {w : Wd} {σ : St} {S S' : MS} {H : Hp} {env env' : En} {Q : St → Hp → Prop}, SI X.K X.mg w S H → Rep X.K w v d → EnR X.K w env σ → g d env S = some (env', S') →
    (∀ σ', EnR X.K w env' σ' → L2.wipe σ' vs = L2.wipe σ vs → Q σ' H) → gt v σ H Q
structure GVs (X : Cx) (vs : List Nat) (gt : TGs) (g : MGs) : Prop where
  st : ∀ {d env S env' S'}, g d env S = some (env', S') → S' = S
  ok : ∀ {us : List V} {ds : List D} {w : Wd} {σ : St} {S S' : MS} {H : Hp} {env env' : En} {Q : St → Hp → Prop}, SI X.K X.mg w S H → RepL X.K w us ds → EnR X.K w env σ → g ds env S = some (env', S') →
    (∀ σ', EnR X.K w env' σ' → L2.wipe σ' vs = L2.wipe σ vs → Q σ' H) → gt us σ H Q
theorem gv_name {vs : List Nat} {i : Nat} (h : i ∈ vs) : GV X vs (gName i) (gNm i) := by
  refine ⟨fun e => by cases e; rfl, fun si r en e k => ?_⟩
  cases e
  exact k _ (en.set r i) (wipe_set h)
theorem gvs_nil {vs : List Nat} : GVs X vs gNil gsNil := by
  refine ⟨fun {d env S env' S'} e => ?_, fun si r en e k => ?_⟩
  · cases d with
    | nil => cases e; rfl
    | cons _ _ => cases e
  · cases r with
    | nil =>
      cases e
      exact ⟨rfl, k _ en rfl⟩
    | cons _ _ => cases e
theorem gvs_cons {vs : List Nat} {gt : TG} {g : MG} {gts : TGs} {gs : MGs} (h1 : GV X vs gt g) (h2 : GVs X vs gts gs) : GVs X vs (gCons gt gts) (gsCons g gs) := by
  refine ⟨fun {d env S env' S'} e => ?_, fun {us ds w σ S S' H env env' Q} si r en e k => ?_⟩
  · cases d with
    | nil => cases e
    | cons d ds =>
      unfold gsCons at e
      dsimp only at e
      cases e1 : g d env S with
      | none => rw [e1] at e; cases e
      | some z =>
        obtain ⟨env1, S1⟩ := z
        rw [e1] at e
        exact (h2.st e).trans (h1.st e1)
  · cases r with
    | nil => cases e
    | @cons v vs' d ds r1 r2 =>
      unfold gsCons at e
      dsimp only at e
      cases e1 : g d env S with
      | none => rw [e1] at e; cases e
      | some z =>
        obtain ⟨env1, S1⟩ := z
        rw [e1] at e
        dsimp only at e
        have hS := h1.st e1
        subst hS
        exact ⟨v, vs', rfl, h1.ok si r1 en e1 fun σ1 en1 w1 => h2.ok si r2 en1 e fun σ2 en2 w2 => k σ2 en2 (w2.trans w1)⟩
theorem gv_tup {vs : List Nat} {n : Nat} {gts : TGs} {gs : MGs} (h : GVs X vs gts gs) : GV X vs (gTup X.K n gts) (gTp n gs) := by
  refine ⟨fun {d env S env' S'} e => ?_, fun {v d w σ S S' H env env' Q} si r en e k => ?_⟩
  · cases d with
    | tup ds =>
      unfold gTp at e
      dsimp only at e
      split at e
      · exact h.st e
      · cases e
    | _ => cases e
  · cases d with
    | tup ds =>
      unfold gTp at e
      dsimp only at e
      split at e
      · rename_i hn
        cases r with
        | @tup a us _ h1 h2 => exact ⟨a, us, rfl, sqt_ex si.ex h1, by rw [h2.length]; exact hn, h.ok si h2 en e k⟩
      · cases e
    | _ => cases e
/-- the readings inside a block: nothing is raised -/
def tEb (X : Cx) (m : ME) : TE := fun σ H Q => ∃ w S env, SI X.K X.mg w S H ∧ EnR X.K w env σ ∧ Po X.K X.mg (RV' X.K) (fun _ _ _ => False) w S H Q (m env S)
def tTb (X : Cx) (m : MT) : TT := fun σ H Q => ∃ w S env, SI X.K X.mg w S H ∧ EnR X.K w env σ ∧ Po X.K X.mg RB (fun _ _ _ => False) w S H Q (m env S)
def blkCy {s : Shared} {H : Hp} {scope : Scope} {cenv : Env} {fp : List Addr} : Cy (X.blk s H scope cenv fp) := ⟨fun _ _ _ _ => False, fun u s' ⟨a, B, sI, pins, σ, H, cls, d, e, I, nb, up, sky, na, os, ag, w⟩ => w.elim, PassesOwn.never, fun _ _ _ => True, fun _ _ => True.intro⟩
def JTs (X : Cx) (C : Cy X) (ifs : List Expr) (m : MT) : Prop := PTs X ifs (tT C m)
def mYes : MT := fun _ => ret true
theorem PTs.weak {ifs : List Expr} {t t' : TT} (h : PTs X ifs t) (k : ∀ σ H Q, t' σ H Q → t σ H Q) : PTs X ifs t' := ⟨fun pins s σ H Q I q => h.run pins s σ H Q I (k σ H Q q)⟩
theorem jts_nil : JTs X C [] mYes := PTs.weak pts_nil fun σ H Q ⟨w, S, env, me, p⟩ => p w H true (Go.refl _ _ _) me.si rfl
theorem jts_one {c : Expr} {m : MT} (h : JT X C c m) : JTs X C [c] m := pts_one h
theorem blk_e {s : Shared} {H : Hp} {scope : Scope} {cenv : Env} {fp : List Addr} {e : Expr} {m : ME} (h : JE (X.blk s H scope cenv fp) blkCy e m) : PE (X.blk s H scope cenv fp) e (tEb X m) := PE.weak h fun σ H Q ⟨w, S, env, si, en, p⟩ => ⟨w, S, env, ⟨si, en, True.intro⟩, p⟩
theorem blk_t {s : Shared} {H : Hp} {scope : Scope} {cenv : Env} {fp : List Addr} {e : List Expr} {m : MT} (h : JTs (X.blk s H scope cenv fp) blkCy e m) : PTs (X.blk s H scope cenv fp) e (tTb X m) := PTs.weak h fun σ H Q ⟨w, S, env, si, en, p⟩ => ⟨w, S, env, ⟨si, en, True.intro⟩, p⟩
theorem fo_chg {K : PySem.W.Frag} {mg : Str → Option Value} {w0 w : Wd} {S0 S : MS} {H0 H : Hp} {a : Addr} {o : HO} (si0 : SI K mg w0 S0 H0) (ha : H0 a = none) (g : Go w0 S0 (upd H0 a o) w S H) (si : SI K mg w S H) (o' : HO) :
    SI K mg w S (upd H a o') ∧ Go w0 S0 (upd H0 a o') w S (upd H a o') := by
  obtain ⟨h1, h2, h3, h4, h5⟩ := adopt si0 ha g si
  refine ⟨⟨si.nx, fun b u h => ?_, fun n ob h => ?_, si.inj⟩, ⟨g.le, fun b u hb => ?_, fun b ob u hb => ?_⟩⟩
  · rw [upd_ne (ne_of_none h h2)]
    exact si.ex b u h
  · obtain ⟨q1, q2, ho, q3, q4⟩ := si.st n ob h
    exact ⟨q1, q2, ho, by rw [upd_ne (h3 n ob h)]; exact q3, q4⟩
  · by_cases e : b = a
    · subst e
      obtain ⟨z1, z2, z3⟩ := hb
      rw [upd_same] at z1
      cases z1
      exact ⟨upd_same, h2, h3⟩
    · have z : Fo w0 S0 H0 b u := ⟨by have := hb.1; rw [upd_ne e] at this; exact this, hb.2⟩
      obtain ⟨_, q⟩ := h4 b u z
      exact ⟨by rw [upd_ne e]; exact q.1, q.2⟩
  · by_cases e : b = a
    · subst e
      rw [upd_same] at hb ⊢
      exact hb
    · rw [upd_ne e] at hb ⊢
      exact (h5 b ob u hb).2
theorem upd_id {H : Hp} {a : Addr} {o : HO} (h : H a = some o) : upd H a o = H := by
  funext b
  unfold upd
  split
  · rename_i e; rw [e, h]
  · rfl
/-- how a list that was made step by step is kept -/
abbrev MkC (X : Cx) (mk : List D → M D) : Prop := ∀ {w0 w : Wd} {S0 S : MS} {H0 H : Hp} {a : Addr} {vs : List V} {ds : List D} {W : Value → Option Addr → Hp → Prop} {Q : VK}, SI X.K X.mg w0 S0 H0 → H0 a = none → Go w0 S0 (upd H0 a (.lst vs)) w S H → SI X.K X.mg w S H → RepL X.K w vs ds →
  Po X.K X.mg (RV' X.K) W w0 S0 H0 Q (mk ds S) → Q (.ref a) H
theorem mkL_c : MkC X mkL := by
  intro w0 w S0 S H0 H a vs ds W Q si0 ha g si r p
  obtain ⟨s1, g1, l1⟩ := adoptF si0 ha g si (.lst vs)
  rw [upd_id (adopt si0 ha g si).1] at s1 g1
  unfold mkL at p
  split at p
  · exact p _ _ _ g1 s1 (.lst (.inl upd_same) (r.le l1))
  · exact p.elim
theorem mkO_c : MkC X mkO := by
  intro w0 w S0 S H0 H a vs ds W Q si0 ha g si r p
  obtain ⟨s1, g1, r1⟩ := adoptS si0 ha g si (mo := .lst ds) (ho := .lst vs) r
  rw [upd_id (adopt si0 ha g si).1] at s1 g1
  unfold mkO at p
  split at p
  · exact p _ _ _ g1 s1 r1
  · exact p.elim
/-- the turns of a list comprehension; nothing is raised -/
def lcM (g : MG) (tt : MT) (te : ME) (env : En) : List D → M (List D)
  | [], S => some (.ok [] S)
  | d :: r, S => match g d env S with
    | none => none
    | some (env1, S1) => match tt env1 S1 with
      | some (.ok true S2) => match te env1 S2 with
        | some (.ok y S3) => match lcM g tt te env r S3 with
          | some (.ok ys S4) => some (.ok (y :: ys) S4)
          | _ => none
        | _ => none
      | some (.ok false S2) => lcM g tt te env r S2
      | _ => none
def mLc (mi : MA) (g : MG) (tt : MT) (te : ME) (vs : List Nat) (mk : List D → M D) : ME := fun env => bnd (mi env) fun ds => bnd (lcM g tt te (wipeE env vs) ds) fun ys => if ys.length ≤ lineN then mk ys else stuck
theorem lcM_noexc {g : MG} {tt : MT} {te : ME} {env : En} : ∀ (ds : List D) (S : MS) (ex : Exn) (S' : MS), lcM g tt te env ds S ≠ some (.exc ex S')
  | [], _, _, _ => fun h => by cases h
  | d :: r, S, ex, S' => fun h => by
    unfold lcM at h
    split at h
    · cases h
    · split at h
      · split at h
        · split at h
          · cases h
          · cases h
        · cases h
      · exact lcM_noexc r _ _ _ h
      · cases h
theorem lcM_go {mi : MA} {g : MG} {gt : TG} {tt : MT} {te : ME} {vs : List Nat} {mk : List D → M D} (gv : GV X vs gt g) (hk : MkC X mk) {σ : St} {H : Hp} {Q : VK} (h : tE C (mLc mi g tt te vs mk) σ H Q) : tLc (tI C mi) gt (tTb X tt) (tEb X te) vs σ H Q := by
  obtain ⟨w, S, env, me, p⟩ := h
  refine ⟨w, S, env, me, po_bnd me p fun w1 S1 H1 J ds me1 ri g1 p1 => ?_⟩
  intro L0 hD
  obtain ⟨s0, g0⟩ := me1.si.fr hD (.lst [])
  refine ⟨fun i m H' => ∃ w' S' acc ys, m = ds.length - i ∧ i ≤ ds.length ∧ Go w1 S1 (upd H1 L0 (.lst acc)) w' S' H' ∧ SI X.K X.mg w' S' H' ∧ RepL X.K w' acc ys ∧
    (match lcM g tt te (wipeE env vs) (ds.drop i) S' with
      | some (.ok zs S'') => ys.length + zs.length ≤ lineN ∧ Po X.K X.mg (RV' X.K) (fun c d H => C.W c d σ H) w1 S1 H1 Q (mk (ys ++ zs) S'')
      | _ => False), ⟨ds.length, w1, S1, [], [], by simp, Nat.zero_le _, Go.refl _ _ _, s0, .nil, ?_⟩, ?_⟩
  · rw [List.drop_zero]
    unfold bnd at p1
    cases e : lcM g tt te (wipeE env vs) ds S1 with
    | none => rw [e] at p1; exact p1
    | some r =>
      rw [e] at p1
      cases r with
      | exc ex S' =>
        exfalso
        exact lcM_noexc _ _ _ _ e
      | ok zs S' =>
        dsimp only at p1 ⊢
        split at p1
        · rename_i hz
          exact ⟨by simpa using hz, p1⟩
        · exact p1.elim
  · rintro i m H2 ⟨w2, S2, acc, ys, rfl, hi, g2, si2, r2, p2⟩
    obtain ⟨gfr⟩ : Nonempty (Go w1 S1 H1 w2 S2 H2) := by
      obtain ⟨_, gg⟩ := me1.si.fr hD (.lst acc)
      exact ⟨gg.trans g2⟩
    obtain ⟨hstop, hgo⟩ := ri i w2 S2 H2 gfr si2
    by_cases hlt : i < ds.length
    · refine .inr ?_
      have hd : ds.drop i = ds[i] :: ds.drop (i + 1) := List.drop_eq_getElem_cons hlt
      rw [hd] at p2
      obtain ⟨go, yl⟩ := hgo ds[i] (List.getElem?_eq_getElem hlt)
      refine ⟨go, fun H' => ∃ w' S' acc ys, Go w1 S1 (upd H1 L0 (.lst acc)) w' S' H' ∧ SI X.K X.mg w' S' H' ∧ RepL X.K w' acc ys ∧
        (match lcM g tt te (wipeE env vs) (ds.drop (i + 1)) S' with
          | some (.ok zs S'') => ys.length + zs.length ≤ lineN ∧ Po X.K X.mg (RV' X.K) (fun c d H => C.W c d σ H) w1 S1 H1 Q (mk (ys ++ zs) S'')
          | _ => False), fun H' ⟨w', S', acc, ys, m1, m2, m3, m4⟩ => ⟨ds.length - (i + 1), by omega, w', S', acc, ys, rfl, hlt, m1, m2, m3, m4⟩, fun x H' y => ?_⟩
      obtain ⟨w3, g3, si3, r3⟩ := yl x H' y
      unfold lcM at p2
      cases q : g ds[i] (wipeE env vs) S2 with
      | none => rw [q] at p2; exact p2.elim
      | some z =>
        obtain ⟨env3, S3⟩ := z
        rw [q] at p2
        dsimp only at p2
        have hS := gv.st q
        subst hS
        refine gv.ok si3 r3 ((me1.en.le (gfr.le.trans g3.le)).wipe vs) q fun σ4 en4 w4 => ⟨w4.trans wipe_idem, ?_⟩
        refine ⟨w3, S3, env3, si3, en4, ?_⟩
        cases q2 : tt env3 S3 with
        | none => rw [q2] at p2; exact p2.elim
        | some r =>
          rw [q2] at p2
          cases r with
          | exc _ _ => exact p2.elim
          | ok b S5 =>
            intro w5 H5 b' g5 si5 rb
            cases (show b' = b from rb)
            have G5 : Go w1 S1 (upd H1 L0 (.lst acc)) w5 S5 H5 := g2.trans (g3.trans g5)
            cases b with
            | false =>
              rw [if_neg Bool.false_ne_true]
              exact ⟨w5, S5, acc, ys, G5, si5, r2.le (g3.le.trans g5.le), p2⟩
            | true =>
              rw [if_pos rfl]
              dsimp only at p2
              refine ⟨w5, S5, env3, si5, en4.le g5.le, ?_⟩
              cases q3 : te env3 S5 with
              | none => rw [q3] at p2; exact p2.elim
              | some r =>
                rw [q3] at p2
                cases r with
                | exc _ _ => exact p2.elim
                | ok y0 S6 =>
                  intro w6 H6 yv g6 si6 ry
                  have G6 := G5.trans g6
                  have hD6 := (adopt me1.si hD G6 si6).1
                  obtain ⟨s7, g7⟩ := fo_chg me1.si hD G6 si6 (.lst (acc ++ [yv]))
                  dsimp only at p2
                  cases q4 : lcM g tt te (wipeE env vs) (ds.drop (i + 1)) S6 with
                  | none => rw [q4] at p2; exact p2.elim
                  | some r =>
                    rw [q4] at p2
                    cases r with
                    | exc _ _ => exact p2.elim
                    | ok zs S8 =>
                      dsimp only at p2
                      have r6 := (r2.le (g3.le.trans (g5.le.trans g6.le)))
                      refine ⟨acc, hD6, by rw [r2.length, line_is]; have := p2.1; simp at this; omega, w6, S6, acc ++ [yv], ys ++ [y0], g7, s7, r6.append (.cons ry .nil), ?_⟩
                      rw [q4]
                      refine ⟨by have := p2.1; simp at this ⊢; omega, ?_⟩
                      rw [List.append_assoc]
                      exact p2.2
    · have hl : i = ds.length := by omega
      subst hl
      rw [List.drop_length] at p2
      unfold lcM at p2
      dsimp only at p2
      rw [List.append_nil] at p2
      exact .inl ⟨hstop rfl, hk me1.si hD g2 si2 r2 p2.2⟩
section
variable {elt tg iter : Expr} {ifs : List Expr} {scope : Scope} {own : List (Str × Nat)} {mi : MA} {g : MG} {gt : TG} {tt : MT} {te : ME} {mk : List D → M D} {vs : List Nat}
theorem j_lc (hk : MkC X mk) (hc : X.calm = true) (hN : X.N.Nodup) (hi : JI X C tg iter mi) (ok : BlkOk X.N X.env.scope scope own) (hvs : own.map (·.2) = vs) (gv : GV X vs gt g)
    (hg : ∀ (s : Shared) (H : Hp) (A : Addr) (cl : List (Str × Addr)) (fp : List Addr), PG (X.blk s H scope (compEnvC scope cl A X.env) fp) tg gt) (ht : ∀ (s : Shared) (H : Hp) (A : Addr) (cl : List (Str × Addr)) (fp : List Addr), JTs (X.blk s H scope (compEnvC scope cl A X.env) fp) blkCy ifs tt)
    (he : ∀ (s : Shared) (H : Hp) (A : Addr) (cl : List (Str × Addr)) (fp : List Addr), JE (X.blk s H scope (compEnvC scope cl A X.env) fp) blkCy elt te) (hs : ∀ x, foldedSetIterable iter X.env x = pure x := by intro _; rfl) :
    JE X C (.ListComp elt [⟨tg, iter, ifs, 0⟩] scope pos) (mLc mi g tt te vs mk) := by
  subst hvs
  exact PE.weak (pe_lc hc hN hi ok hg (fun s H A cl fp => blk_t (ht s H A cl fp)) (fun s H A cl fp => blk_e (he s H A cl fp)) hs) fun σ H Q h => lcM_go gv hk h
theorem js_setLc {i : Nat} {y : Str} {py spos : Pos} (hk : MkC X mk) (hc : X.calm = true) (hN : X.N.Nodup) (hy : X.N[i]? = some y) (hyl : X.env.scope.names.lookup y = some .local) (hsw : swapsWith (.ListComp elt [⟨tg, iter, ifs, 0⟩] scope pos) (some (.Name y py)) spos.line X.env = pure true)
    (hi : JI X C tg iter mi) (ok : BlkOk X.N X.env.scope scope own) (hvs : own.map (·.2) = vs) (gv : GV X vs gt g)
    (hg : ∀ (s : Shared) (H : Hp) (A : Addr) (cl : List (Str × Addr)) (fp : List Addr), PG (X.blk s H scope (compEnvC scope cl A X.env) fp) tg gt) (ht : ∀ (s : Shared) (H : Hp) (A : Addr) (cl : List (Str × Addr)) (fp : List Addr), JTs (X.blk s H scope (compEnvC scope cl A X.env) fp) blkCy ifs tt)
    (he : ∀ (s : Shared) (H : Hp) (A : Addr) (cl : List (Str × Addr)) (fp : List Addr), JE (X.blk s H scope (compEnvC scope cl A X.env) fp) blkCy elt te) (hs : ∀ x, foldedSetIterable iter X.env x = pure x := by intro _; rfl) :
    JS X C (.Assign [.Name y py] (.ListComp elt [⟨tg, iter, ifs, 0⟩] scope pos) spos) (mAsg (mLc mi g tt te vs mk) (gNm i)) := by
  subst hvs
  exact PS.weak (ps_setLc hc hN hy hyl hsw hi ok hg (fun s H A cl fp => blk_t (ht s H A cl fp)) (fun s H A cl fp => blk_e (he s H A cl fp)) hs) fun D σ H h => asg_go (fun σ H Q h => lcM_go gv hk h) (fun v σ H Q ⟨w, S, env, d, me, r, p⟩ => p w H _ (Go.refl _ _ _) me.si (me.en.set r i)) h
end
end
end Mi
namespace Mi
open PySem L2

/-! ### a statement under a lock -/
def lockOf : MO → Option MO
  | .dk kvs => some (.lk kvs)
  | .lst ds => some (.ll ds)
  | _ => none
def unlockOf : MO → Option MO
  | .lk kvs => some (.dk kvs)
  | .ll ds => some (.lst ds)
  | _ => none
section
variable {X : Cx} {C : Cy X} {pos : Pos}
theorem lk_in {w : Wd} {S : MS} {H : Hp} {n : Nat} {o o' : MO} (si : SI X.K X.mg w S H) (e : S.get n = some o) (h : lockOf o = some o') :
    ∃ u, H (w.φ n) = some u ∧ Mut (some u) ∧ ∀ od, SI X.K X.mg w (S.set n o') (upd H (w.φ n) (.frz od u)) ∧ Go w S H w (S.set n o') (upd H (w.φ n) (.frz od u)) := by
  obtain ⟨hm, h2, ho, h3, h4⟩ := si.st n _ e
  cases o with
  | dk kvs =>
    cases h
    cases ho with
    | dK kws => exact ⟨_, h3, True.intro, fun od => si.set e (o := .lk kvs) (ho := .frz od (.dK kws)) h4⟩
    | _ => exact h4.elim
  | lst ds =>
    cases h
    cases ho with
    | lst vs => exact ⟨_, h3, True.intro, fun od => si.set e (o := .ll ds) (ho := .frz od (.lst vs)) h4⟩
    | _ => exact h4.elim
  | _ => cases h
theorem lk_out {w w' : Wd} {S S' : MS} {H H' : Hp} {n : Nat} {o o' o2 o3 : MO} {u : HO} {od : Obj} (si : SI X.K X.mg w S H) (e : S.get n = some o) (h : lockOf o = some o') (hH : H (w.φ n) = some u)
    (g1 : Go w S H w (S.set n o') (upd H (w.φ n) (.frz od u))) (g2 : Go w (S.set n o') (upd H (w.φ n) (.frz od u)) w' S' H') (s2 : SI X.K X.mg w' S' H') (e4 : S'.get n = some o2) (h4 : unlockOf o2 = some o3) :
    H' (w.φ n) = some (.frz od u) ∧ SI X.K X.mg w' (S'.set n o3) (upd H' (w.φ n) u) ∧ Go w S H w' (S'.set n o3) (upd H' (w.φ n) u) := by
  obtain ⟨hm, _, ho, h3, hr⟩ := si.st n _ e
  have ef : w'.φ n = w.φ n := g2.le.ph n hm
  have hf := g2.fz _ _ _ (upd_same (H := H) (a := w.φ n) (o := .frz od u))
  obtain ⟨_, k2, ho', k3, k4⟩ := s2.st n _ e4
  rw [ef, hf] at k3
  cases k3
  have nf : ∀ od' u', u ≠ .frz od' u' := by
    intro od' u' z
    rw [hH] at h3
    cases h3
    subst z
    cases o with
    | dk _ => exact hr
    | lst _ => exact hr
    | _ => cases h
  have fin : SI X.K X.mg w' (S'.set n o3) (upd H' (w.φ n) u) ∧ ∀ a ob, Fo w' S' H' a ob → Fo w' (S'.set n o3) (upd H' (w.φ n) u) a ob := by
    rw [← ef]
    cases o2 with
    | lk kvs =>
      cases h4
      cases u with
      | dK kws => exact s2.unlock (o2 := .dk kvs) (u2 := .dK kws) e4 k4
      | _ => exact k4.elim
    | ll ds =>
      cases h4
      cases u with
      | lst vs => exact s2.unlock (o2 := .lst ds) (u2 := .lst vs) e4 k4
      | _ => exact k4.elim
    | _ => cases h4
  obtain ⟨s3, f3⟩ := fin
  refine ⟨hf, s3, ⟨g2.le, fun a ob ha => f3 a ob (g2.fo a ob (g1.fo a ob ha)), fun a ob u' ha => ?_⟩⟩
  have ne : a ≠ w.φ n := fun z => by
    rw [z, hH] at ha
    exact nf _ _ (Option.some.inj ha)
  rw [upd_ne ne]
  exact g2.fz a ob u' (by rw [upd_ne ne]; exact ha)
def unS (n : Nat) (S : MS) : Option MS := match S.get n with
  | some o => match unlockOf o with
    | some o' => some (S.set n o')
    | none => none
  | none => none
def mLkS (path : List Nat) (m : MSt) : MSt := fun env S => match refOf env S path with
  | none => none
  | some n => match S.get n with
    | none => none
    | some o => match lockOf o with
      | none => none
      | some o' => match m env (S.set n o') with
        | some (.nx env' S') => match unS n S' with
          | some S2 => some (.nx env' S2)
          | none => none
        | some (.bk env' S') => match unS n S' with
          | some S2 => some (.bk env' S2)
          | none => none
        | some (.ct env' S') => match unS n S' with
          | some S2 => some (.ct env' S2)
          | none => none
        | some (.rt d S') => match unS n S' with
          | some S2 => some (.rt d S2)
          | none => none
        | _ => none
theorem unS_is {n : Nat} {S S2 : MS} (h : unS n S = some S2) : ∃ o o', S.get n = some o ∧ unlockOf o = some o' ∧ S2 = S.set n o' := by
  unfold unS at h
  cases e : S.get n with
  | none => rw [e] at h; cases h
  | some o =>
    rw [e] at h
    dsimp only at h
    cases e2 : unlockOf o with
    | none => rw [e2] at h; cases h
    | some o' =>
      rw [e2] at h
      cases h
      exact ⟨o, o', rfl, e2, rfl⟩
theorem js_lk {st : Stmt} {m : MSt} (path : List Nat) (h : JS X C st m) : JS X C st (mLkS path m) := PS.weak (ps_lock h) fun D σ H ⟨w, S, env, me, p⟩ => by
  unfold mLkS at p
  cases e1 : refOf env S path with
  | none => rw [e1] at p; exact p.elim
  | some n =>
    rw [e1] at p
    dsimp only at p
    cases e2 : S.get n with
    | none => rw [e2] at p; exact p.elim
    | some o =>
      rw [e2] at p
      dsimp only at p
      cases e3 : lockOf o with
      | none => rw [e3] at p; exact p.elim
      | some o' =>
        rw [e3] at p
        dsimp only at p
        obtain ⟨u, h1, h2, h3⟩ := lk_in me.si e2 e3
        refine ⟨w.φ n, u, h1, h2, fun od => ?_⟩
        obtain ⟨s1, g1⟩ := h3 od
        refine ⟨w, _, env, me.go g1 s1, ?_⟩
        cases e4 : m env (S.set n o') with
        | none => rw [e4] at p; exact p.elim
        | some fl =>
          rw [e4] at p
          cases fl with
          | exc _ _ _ => exact p.elim
          | nx env' S' =>
            dsimp only at p
            cases e5 : unS n S' with
            | none => rw [e5] at p; exact p.elim
            | some S2 =>
              rw [e5] at p
              obtain ⟨o2, o3, q1, q2, rfl⟩ := unS_is e5
              intro w' H' σ' g2 s2 en
              obtain ⟨z1, z2, z3⟩ := lk_out me.si e2 e3 h1 g1 g2 s2 q1 q2
              exact ⟨z1, p w' _ σ' z3 z2 en⟩
          | bk env' S' =>
            dsimp only at p
            cases e5 : unS n S' with
            | none => rw [e5] at p; exact p.elim
            | some S2 =>
              rw [e5] at p
              obtain ⟨o2, o3, q1, q2, rfl⟩ := unS_is e5
              intro w' H' σ' g2 s2 en
              obtain ⟨z1, z2, z3⟩ := lk_out me.si e2 e3 h1 g1 g2 s2 q1 q2
              exact ⟨z1, p w' _ σ' z3 z2 en⟩
          | ct env' S' =>
            dsimp only at p
            cases e5 : unS n S' with
            | none => rw [e5] at p; exact p.elim
            | some S2 =>
              rw [e5] at p
              obtain ⟨o2, o3, q1, q2, rfl⟩ := unS_is e5
              intro w' H' σ' g2 s2 en
              obtain ⟨z1, z2, z3⟩ := lk_out me.si e2 e3 h1 g1 g2 s2 q1 q2
              exact ⟨z1, p w' _ σ' z3 z2 en⟩
          | rt d S' =>
            dsimp only at p
            cases e5 : unS n S' with
            | none => rw [e5] at p; exact p.elim
            | some S2 =>
              rw [e5] at p
              obtain ⟨o2, o3, q1, q2, rfl⟩ := unS_is e5
              intro w' H' v g2 s2 rv
              obtain ⟨z1, z2, z3⟩ := lk_out me.si e2 e3 h1 g1 g2 s2 q1 q2
              exact ⟨z1, p w' _ v z3 z2 rv⟩

/-! ### o[i] op= e -/
def rGetA (K : PySem.W.Frag) : V → V → Hp → VK → Prop := fun x y H Q => rDctGet x y H Q ∨ rIxL K x y H Q
theorem get_A (hu : X.A.units + 64 < cLine) : PGet X (rGetA X.K) := by
  intro pins s σ H x y v u Q I rx ry h
  rcases h with ⟨a, d, rfl, g, q⟩ | ⟨p, xs, i, z, rfl, rfl, hq, he, q⟩
  · cases rx
    exact d_getItem (by omega) I g ry fun w' s' I' r' => ⟨d, H, I', r', q⟩
  · cases rx
    obtain ⟨t, rfl⟩ := ry
    obtain ⟨its, r, pl, hz⟩ := I.list hq
    obtain ⟨j, h1, h2, h3, h4, h5⟩ := atI_get he
    obtain ⟨w, ew, rw'⟩ := r.get h2
    have hl := r.length
    have hn := line63
    have fin : EP X pins σ Q w s := ⟨z, H, I, rw', q⟩
    by_cases h0 : 0 ≤ i
    · have hj : i.toNat = j := by
        rw [seqIndex_of h0 h5] at h1
        exact Option.some.inj h1
      exact wpAny_getItem_list pl.isList h0 (by omega) (by rw [hj]; simpa using ew) fin
    · have hj : (i + (its.toArray.size : Int)).toNat = j := by
        rw [seqIndex_neg (by omega) h4] at h1
        rw [List.size_toArray, ← hl]
        exact Option.some.inj h1
      exact wpAny_getItem_list_neg pl.isList (by omega) (by rw [List.size_toArray] <;> omega) (by omega) (by rw [hj]; simpa using ew) fin
def dGetI : D → D → M D := fun x y S => match dctOf S x with
  | some kvs => match toKey y with
    | some k => match dLook kvs k with
      | some d => some (.ok d S)
      | none => none
    | none => none
  | none => match lstOf S x, y with
    | some es, .int i => match atI es i with
      | some d => some (.ok d S)
      | none => none
    | _, _ => none
theorem op2_get : Op2 X (rGetA X.K) dGetI := fun w S H x y d e Q W si rx ry p => by
  unfold dGetI at p
  cases e1 : dctOf S d with
  | some kvs =>
    rw [e1] at p
    dsimp only at p
    obtain ⟨a, kws, rfl, h1, h2⟩ := dct_is si rx e1
    cases e2 : toKey e with
    | none => rw [e2] at p; exact p.elim
    | some k =>
      rw [e2] at p
      dsimp only at p
      obtain rfl := key_is ry e2
      cases e3 : dLook kvs k with
      | none => rw [e3] at p; exact p.elim
      | some z =>
        rw [e3] at p
        obtain ⟨u, h3, h4⟩ := look_some h2 e3
        exact .inl ⟨a, u, rfl, .inl ⟨_, _, h1, rfl, h3.symm⟩, p w H u (Go.refl _ _ _) si h4⟩
  | none =>
    rw [e1] at p
    dsimp only at p
    cases e2 : lstOf S d with
    | none => rw [e2] at p; exact p.elim
    | some es =>
      rw [e2] at p
      obtain ⟨a, vs, rfl, h1, h2⟩ := lst_is si rx e2
      cases e with
      | int i =>
        cases ry
        dsimp only at p
        cases e3 : atI es i with
        | none => rw [e3] at p; exact p.elim
        | some z =>
          rw [e3] at p
          obtain ⟨u, h3, h4⟩ := atI_rep h2 e3
          exact .inr ⟨a, vs, i, u, rfl, rfl, h1, h3, p w H u (Go.refl _ _ _) si h4⟩
      | _ => exact p.elim
def mAugI (f : D → D → M D) (mo mi me : ME) : MSt := fun env => stE (bnd (mo env) fun x => bnd (mi env) fun y => bnd (dGetI x y) fun old => bnd (me env) fun v => bnd (f old v) fun z => ret (x, y, z)) env fun t S => match dSet t.1 t.2.1 t.2.2 S with
  | some S' => some (.nx env S')
  | none => none
theorem js_augI {o i e : Expr} {mo mi me : ME} {op : Operator} {r : R2} {f : D → D → M D} {tpos : Pos} (hu : X.A.units + 64 < cLine) (ho : JE X C o mo) (hi : JE X C i mi) (he : JE X C e me) (hop : OpR X (inplaceOp op) r) (hf : Op2 X r f)
    (ha : ∀ ov iv new, augStore i ov iv new = (do holding [new, ov, iv] (setItem ov iv new); release [new, ov, iv] []; pure .next) := by intros; rfl) : JS X C (.AugAssign (.Subscript o i tpos) op e pos) (mAugI f mo mi me) :=
  PS.weak (ps_augS (tip := r) ho hi (get_A hu) he (fun pins s σ H x y v u Q I rx ry h => hop pins s σ H x y v u Q I rx ry h) (set_A hu) ha) fun D σ H ⟨w, S, env, m, p⟩ => by
  refine ⟨w, S, env, m, ?_⟩
  have p0 := po_st (γ := V × V × V) (Ra := fun w _ _ v d => Rep X.K w v.1 d.1 ∧ Rep X.K w v.2.1 d.2.1 ∧ Rep X.K w v.2.2 d.2.2) m p (Q' := fun v H' => rSetA v.1 v.2.1 v.2.2 H' fun H6 => D.nx σ H6) fun w1 S1 H1 v d m1 rv g1 p1 => by
    cases e : dSet d.1 d.2.1 d.2.2 S1 with
    | none => rw [e] at p1; exact p1.elim
    | some S2 =>
      rw [e] at p1
      exact dSet_go m1.si rv.1 rv.2.1 rv.2.2 e fun H2 g2 s2 => p1 w1 H2 σ g2 s2 (m1.en.le g2.le)
  refine po_bnd m p0 fun w1 S1 H1 x d1 m1 r1 g1 p1 => ?_
  refine ⟨w1, S1, env, m1, po_bnd m1 p1 fun w2 S2 H2 y d2 m2 r2 g2 p2 => ?_⟩
  refine op2_get w2 S2 H2 x y d1 d2 _ (fun c d H => C.W c d σ H) m2.si (r1.le g2.le) r2 (po_bnd m2 p2 fun w3 S3 H3 old d3 m3 r3 g3 p3 => ?_)
  refine ⟨w3, S3, env, m3, po_bnd m3 p3 fun w4 S4 H4 v d4 m4 r4 g4 p4 => ?_⟩
  refine hf w4 S4 H4 old v d3 d4 _ (fun c d H => C.W c d σ H) m4.si (r3.le g4.le) r4 (po_bnd m4 p4 fun w5 S5 H5 z d5 m5 r5 g5 p5 => ?_)
  exact p5 w5 H5 (x, y, z) (Go.refl _ _ _) m5.si ⟨r1.le (g2.le.trans (g3.le.trans (g4.le.trans g5.le))), r2.le (g3.le.trans (g4.le.trans g5.le)), r5⟩

/-! ### truth -/
def truD (S : MS) : D → Option Bool
  | .non => some false
  | .bl b => some b
  | .int i => some (i != 0)
  | .str x => if x.length ≤ lineN then some ((x.length : Int) != 0) else none
  | d => match seqOf S d with
    | some ds => some (!ds.isEmpty)
    | none => match d with
      | .obj n => match S.get n with
        | some (.dk kvs) => some (!kvs.isEmpty)
        | _ => none
      | _ => none
def mTru (m : ME) : MT := fun env => bnd (m env) fun d S => match truD S d with
  | some b => some (.ok b S)
  | none => none
theorem RepL.isEmpty {K : PySem.W.Frag} {w : Wd} {vs : List V} {ds : List D} (r : RepL K w vs ds) : vs.isEmpty = ds.isEmpty := by cases r <;> rfl
theorem tru_is {w : Wd} {S : MS} {H : Hp} {v : V} {d : D} {b : Bool} (si : SI X.K X.mg w S H) (r : Rep X.K w v d) (h : truD S d = some b) : TruV X.K v H b := by
  have sq : ∀ {a : Addr} {ds : List D}, v = .ref a → seqOf S d = some ds → b = (!ds.isEmpty) → TruV X.K v H b := fun {a ds} hv hs hb => by
    obtain ⟨a', vs, rfl, h1, h2⟩ := seq_is si r hs
    rw [hb, ← h2.isEmpty]
    rcases h1 with h1 | h1
    · exact .inl ⟨vs, h1, rfl⟩
    · exact .inr (.inl ⟨vs, h1, rfl⟩)
  cases d with
  | non => cases r; cases h; rfl
  | bl c => cases r; cases h; rfl
  | int i => cases r; cases h; rfl
  | str x =>
    cases r
    unfold truD at h
    dsimp only at h
    split at h
    · rename_i hz
      cases h
      exact ⟨by rw [line_is]; exact hz, rfl⟩
    · cases h
  | ty n => cases h
  | dct kvs => cases h
  | lst ds =>
    cases h
    cases r
    exact sq rfl rfl rfl
  | src ds =>
    cases h
    cases r
    exact sq rfl rfl rfl
  | tup ds =>
    cases h
    cases r
    exact sq rfl rfl rfl
  | obj n =>
    cases r with
    | obj hn =>
      unfold truD at h
      dsimp only at h
      cases e : seqOf S (.obj n) with
      | some ds =>
        rw [e] at h
        cases h
        exact sq rfl e rfl
      | none =>
        rw [e] at h
        dsimp only at h
        cases e2 : S.get n with
        | none => rw [e2] at h; cases h
        | some o =>
          rw [e2] at h
          cases o with
          | dk kvs =>
            cases h
            obtain ⟨_, _, ho, h3, h4⟩ := si.st n _ e2
            cases ho with
            | dK kws =>
              refine .inr (.inr ⟨kws, h3, ?_⟩)
              cases h4 <;> rfl
            | _ => exact h4.elim
          | _ => cases h
theorem jt_tru {e : Expr} {m : ME} (h : JE X C e m) (he : ∀ whole, isTrue e X.env whole = (do let v ← whole; standAt e.pos; holding [v] (truthy v)) := by intro _; rfl) : JT X C e (mTru m) := PT.weak (pt_truth h he) fun σ H Q ⟨w, S, env, me, p⟩ =>
  ⟨w, S, env, me, po_bnd me p fun w1 S1 H1 v d me1 rv g1 p1 => by
    cases e1 : truD S1 d with
    | none => rw [e1] at p1; exact p1.elim
    | some b =>
      rw [e1] at p1
      exact ⟨b, tru_is me1.si rv e1, p1 w1 H1 b (Go.refl _ _ _) me1.si rfl⟩⟩

/-! ### more of dicts -/
/-- how a dict that came at once is kept -/
abbrev MkDS (X : Cx) (mk : List (Key × D) → M D) : Prop := ∀ {w : Wd} {S : MS} {H : Hp} {kws : List (Key × V)} {kvs : List (Key × D)} {W : Value → Option Addr → Hp → Prop} {Q : VK}, SI X.K X.mg w S H → RepK X.K w kws kvs → Po X.K X.mg (RV' X.K) W w S H Q (mk kvs S) →
  ∀ a, H a = none → Q2 Q (.ref a) (upd H a (.dK kws))
theorem mkD_of {mk : List (Key × D) → M D} (hk : MkD X mk) : MkDS X mk := fun {w S H kws kvs W Q} si r p a ha => by
  obtain ⟨s1, g1⟩ := si.fr ha (.dK kws)
  obtain ⟨_, q⟩ := hk (kws := kws) (kws0 := kws) si ha (Go.refl _ _ _) s1 r p
  rw [upd2] at q
  exact q2_of q
/-- dict(d), of a dict -/
def dCopy (mk : List (Key × D) → M D) : D → M D := fun d S => match dctOf S d with
  | some kvs => mk kvs S
  | none => none
theorem opA_dict {mk : List (Key × D) → M D} (hk : MkD X mk) : ∀ w S H xs ds (Q : VK) W, SI X.K X.mg w S H → RepL X.K w xs ds → Po X.K X.mg (RV' X.K) W w S H Q (d1 (dCopy mk) ds S) → (fun xs H Q => ∃ (a : Addr) (kvs : List (Key × V)), xs = [.ref a] ∧ Rd H a (.dK kvs) ∧ ∀ p, H p = none → Q (.ref p) (upd H p (.dK kvs))) xs H (Q2 Q) := fun w S H xs ds Q W si rx p => by
  cases rx with
  | nil => exact p.elim
  | @cons v vs d ds r1 r2 =>
    cases r2 with
    | cons _ _ => exact p.elim
    | nil =>
      have p' : Po X.K X.mg (RV' X.K) W w S H Q (dCopy mk d S) := p
      unfold dCopy at p'
      cases e : dctOf S d with
      | none => rw [e] at p'; exact p'.elim
      | some kvs =>
        rw [e] at p'
        obtain ⟨a, kws, rfl, h1, h2⟩ := dct_is si r1 e
        exact ⟨a, kws, rfl, h1, fun q hq => mkD_of hk si h2 p' q hq⟩
theorem j_dict {e : Expr} {p : Pos} {ms : MA} {mk : List (Key × D) → M D} (hk : MkD X mk) (hg : Gl X "dict") (hm : X.mg "dict" = none) (ha : JA X C [e] ms) (hv : bootBuiltins "dict" = some (.type "dict") := by rfl) (he : starEach [e] X.env = (false, eval e X.env) :: starEach [] X.env := by rfl) (hpl : (backTo pos (starEach [] X.env)).any (·.1) = false := by rfl) :
    JE X C (.Call (.Name "dict" p) [e] [] pos) (mFn (d1 (dCopy mk)) ms) := PE.weak (pe_post (pe_callTy call_dictD hg hm hv ha (by decide) (by decide) he hpl)) fun σ H Q ⟨w, S, env, me, p⟩ =>
  ⟨w, S, env, me, po_bnd me p fun w1 S1 H1 vs ds me1 rv g1 p1 => opA_dict hk w1 S1 H1 vs ds Q _ me1.si rv p1⟩
theorem isD_go {w : Wd} {S : MS} {H : Hp} {v : V} {d : D} (si : SI X.K X.mg w S H) (r : Rep X.K w v d) (h : (dctOf S d).isSome = true) : ∃ a, v = .ref a ∧ IsD H a := by
  cases e : dctOf S d with
  | none => rw [e] at h; cases h
  | some kvs =>
    obtain ⟨a, kws, rfl, h1, _⟩ := dct_is si r e
    exact ⟨a, rfl, .inl ⟨kws, h1⟩⟩
/-- d.get(k, x) -/
def mGet2 (mo mk mx : ME) : ME := fun env => bnd (mo env) fun x S => if (dctOf S x).isSome = true then bnd (mk env) (fun y => bnd (mx env) fun z S => match dctOf S x, toKey y with
  | some kvs, some k => some (.ok ((dLook kvs k).getD z) S)
  | _, _ => none) S else none
theorem j_get2 {o e f : Expr} {apos cpos : Pos} {mo mk mx : ME} (hu : X.A.units + 64 < cLine) (ho : JE X C o mo) (he : JE X C e mk) (hf : JE X C f mx) (m : M2 X o "get" apos e f cpos) : JE X C (.Call (.Attribute o "get" apos) [e, f] [] cpos) (mGet2 mo mk mx) :=
  PE.weak (pe_dget2 (by omega) ho he hf m) fun σ H Q ⟨w, S, env, me, p⟩ => by
  refine ⟨w, S, env, me, po_bnd me p fun w1 S1 H1 v d me1 rv g1 p1 => ?_⟩
  by_cases h : (dctOf S1 d).isSome = true
  · rw [if_pos h] at p1
    obtain ⟨a, rfl, hd⟩ := isD_go me1.si rv h
    refine ⟨a, rfl, hd, w1, S1, env, me1, po_bnd me1 p1 fun w2 S2 H2 y dy me2 ry g2 p2 => ?_⟩
    refine ⟨w2, S2, env, me2, po_bnd me2 p2 fun w3 S3 H3 z dz me3 rz g3 p3 => ?_⟩
    cases e1 : dctOf S3 d with
    | none => rw [e1] at p3; exact p3.elim
    | some kvs =>
      cases e2 : toKey dy with
      | none => rw [e1, e2] at p3; exact p3.elim
      | some k =>
        rw [e1, e2] at p3
        obtain ⟨a', kws, ha, h1, h2⟩ := dct_is me3.si (rv.le (g2.le.trans g3.le)) e1
        cases ha
        obtain rfl := key_is (ry.le g3.le) e2
        refine ⟨valV kws k, .inl ⟨kws, k, h1, rfl, rfl⟩, ?_⟩
        cases e3 : dLook kvs k with
        | none =>
          rw [look_none h2 e3]
          dsimp only at p3
          rw [e3] at p3
          exact p3 w3 H3 _ (Go.refl _ _ _) me3.si rz
        | some u =>
          obtain ⟨v', h3, h4⟩ := look_some h2 e3
          rw [h3]
          dsimp only at p3
          rw [e3] at p3
          exact p3 w3 H3 _ (Go.refl _ _ _) me3.si h4
  · rw [if_neg h] at p1
    exact p1.elim
/-- d.pop(k) -/
def mPopK (mo mk : ME) : ME := fun env => bnd (mo env) fun x S => match x with
  | .obj n => match S.get n with
    | some (.dk _) => bnd (mk env) (fun y S => match S.get n, toKey y with
      | some (.dk kvs), some k => match dLook kvs k with
        | some d => some (.ok d (S.set n (.dk (dDropK kvs k))))
        | none => none
      | _, _ => none) S
    | _ => none
  | _ => none
theorem j_popK {o e : Expr} {apos cpos : Pos} {mo mk : ME} (ho : JE X C o mo) (he : JE X C e mk) (m : M1 X o "pop" apos e cpos) : JE X C (.Call (.Attribute o "pop" apos) [e] [] cpos) (mPopK mo mk) := PE.weak (pe_dpop1 ho he m) fun σ H Q ⟨w, S, env, me, p⟩ => by
  refine ⟨w, S, env, me, po_bnd me p fun w1 S1 H1 v d me1 rv g1 p1 => ?_⟩
  cases d with
  | obj n =>
    dsimp only at p1
    cases e1 : S1.get n with
    | none => rw [e1] at p1; exact p1.elim
    | some ob =>
      rw [e1] at p1
      cases ob with
      | dk kvs0 =>
        dsimp only at p1
        obtain ⟨a, rfl, hd⟩ := isD_go me1.si rv (by unfold dctOf; dsimp only; rw [e1]; rfl)
        refine ⟨a, rfl, hd, w1, S1, env, me1, po_bnd me1 p1 fun w2 S2 H2 y dy me2 ry g2 p2 => ?_⟩
        cases e2 : S2.get n with
        | none => rw [e2] at p2; exact p2.elim
        | some ob2 =>
          rw [e2] at p2
          cases ob2 with
          | dk kvs =>
            cases e3 : toKey dy with
            | none => rw [e3] at p2; exact p2.elim
            | some k =>
              rw [e3] at p2
              dsimp only at p2
              cases e4 : dLook kvs k with
              | none => rw [e4] at p2; exact p2.elim
              | some u =>
                rw [e4] at p2
                obtain rfl := key_is ry e3
                have r2 := rv.le g2.le
                obtain ⟨hm, _, ho', h3, h4⟩ := me2.si.st n _ e2
                cases ho' with
                | dK kws =>
                  have h4' : RepK X.K w2 kws kvs := h4
                  obtain ⟨v', q1, q2⟩ := look_some h4' e4
                  obtain ⟨s3, g3⟩ := me2.si.set e2 (o := .dk (dDropK kvs k)) (ho := .dK (dropK kws k)) (h4'.drop k)
                  have ea : a = w2.φ n := by
                    have z : V.ref a = V.ref (w2.φ n) := by
                      generalize V.ref a = t at r2
                      cases r2 with
                      | obj _ => rfl
                    cases z; rfl
                  subst ea
                  exact ⟨kws, k, v', h3, rfl, q1, p2 w2 _ v' g3 s3 q2⟩
                | _ => exact h4.elim
          | _ => exact p2.elim
      | _ => exact p1.elim
  | _ => exact p1.elim
end
end Mi
namespace Mi
open PySem L2
section
variable {X : Cx} {C : Cy X} {pos : Pos}
/-! ### names of the module, names of types -/
theorem j_glob {x : Str} {v : V} {u : Value} {d : D} (hg : Gl X x) (hm : X.mg x = some u) (r : RelV v u) (rd : ∀ w, Rep X.K w v d) (hd : (x == ("__debug__" : Str)) = false := by decide) : JE X C (.Name x pos) (mK d) := j_k (pe_glob hg hm r hd) rd
theorem j_ty {x : Str} {T : String} (hg : Gl X x) (hm : X.mg x = none) (hv : bootBuiltins x = some (.type T)) (hn : x ≠ "__name__" := by decide) (hd : (x == ("__debug__" : Str)) = false := by decide) : JE X C (.Name x pos) (mK (.ty T)) := j_k (pe_bltn (v := V.ty T) hg hm hv (show RelV (V.ty T) (Value.type T) from rfl) hn hd) fun _ => .ty T
/-! ### isinstance of several -/
def isiAny (k : String) : List String → Option Bool
  | [] => some false
  | T :: r => match isiB k T with
    | some true => some true
    | some false => isiAny k r
    | none => none
theorem isiAny_ok {K : PySem.W.Frag} {k : String} : ∀ {ts : List String} {b : Bool}, isiAny k ts = some b → PySem.W.kitAny K (.type k) (ts.map Value.type) = some b
  | [], b, h => by cases h; rfl
  | T :: r, b, h => by
    unfold isiAny at h
    show PySem.W.kitAny K (.type k) (Value.type T :: r.map Value.type) = some b
    unfold PySem.W.kitAny
    cases e : isiB k T with
    | none => rw [e] at h; cases h
    | some c =>
      rw [e] at h
      rw [isi_ok (K := K) e]
      cases c with
      | true => exact h
      | false => exact isiAny_ok h
def tysA : List String → TA
  | [] => tNil
  | t :: r => tCons (tC (.ty t)) (tysA r)
theorem tysA_go : ∀ (ts : List String) {σ : St} {H : Hp} {Q : List V → Hp → Prop}, Q (ts.map V.ty) H → tysA ts σ H Q
  | [], _, _, _, q => q
  | t :: r, _, _, _, q => tysA_go r q
theorem tys_paired : ∀ ts : List String, Paired ClsV (ts.map V.ty) (ts.map Value.type)
  | [] => .nil
  | t :: r => .cons (.ty t) (tys_paired r)
def mIsiT (ts : List String) (m : ME) : ME := fun env => bnd (m env) fun x S => match kindOf S x with
  | some k => match isiAny k ts with
    | some b => some (.ok (.bl b) S)
    | none => none
  | none => none
theorem pa_ty {x : Str} {T : String} {es : List Expr} {ts : List String} {p : Pos} (hg : Gl X x) (hm : X.mg x = none) (hv : bootBuiltins x = some (.type T)) (hr : PA X es (tysA ts)) (hn : x ≠ "__name__" := by decide) (hd : (x == ("__debug__" : Str)) = false := by decide)
    (hs : starEach (.Name x p :: es) X.env = (false, eval (.Name x p) X.env) :: starEach es X.env := by rfl) : PA X (.Name x p :: es) (tysA (T :: ts)) := pa_cons (pe_bltn (v := V.ty T) hg hm hv (show RelV (V.ty T) (Value.type T) from rfl) hn hd) hr hs
theorem j_isiT {e : Expr} {m : ME} {es : List Expr} {ts : List String} {p tp : Pos} {x1} (hg : Gl X "isinstance") (hm : X.mg "isinstance" = none) (he : JE X C e m) (hes : PA X es (tysA ts)) (hz : decide (ts.length ≤ 1000) = true := by rfl)
    (h1 : starEach [.Tuple es x1 tp] X.env = (false, eval (.Tuple es x1 tp) X.env) :: starEach [] X.env := by rfl) (h2 : starEach [e, .Tuple es x1 tp] X.env = (false, eval e X.env) :: starEach [.Tuple es x1 tp] X.env := by rfl)
    (hpl : (backTo pos (starEach [.Tuple es x1 tp] X.env)).any (·.1) = false := by rfl) : JE X C (.Call (.Name "isinstance" p) [e, .Tuple es x1 tp] [] pos) (mIsiT ts m) :=
  PE.weak (pe_callB call_isiT hg hm (by rfl) (pa_cons he (pa_cons (pe_tup hes) pa_nil h1) h2) (by decide) (by decide) h2 hpl) fun σ H Q ⟨w, S, env, me, p⟩ => by
  refine ⟨w, S, env, me, po_bnd me p fun w1 S1 H1 v d me1 rv g1 p1 => ?_⟩
  refine tysA_go ts ⟨by rw [List.length_map, line_is]; exact Nat.le_trans (of_decide_eq_true hz) (by decide), fun q hq => ?_⟩
  obtain ⟨s2, g2⟩ := me1.si.frz hq (.tup (ts.map V.ty))
  cases e1 : kindOf S1 d with
  | none => rw [e1] at p1; exact p1.elim
  | some k =>
    rw [e1] at p1
    dsimp only at p1
    cases e2 : isiAny k ts with
    | none => rw [e2] at p1; exact p1.elim
    | some b =>
      rw [e2] at p1
      exact ⟨v, q, _, _, _, b, rfl, upd_same, tys_paired ts, kind_is s2 (rv.le g2.le) e1, isiAny_ok e2, p1 _ _ _ g2 s2 (.bl b)⟩
/-! ### [..] * n -/
def mRep (mk : List D → M D) (ms : MA) (b : ME) : ME := fun env => bnd (ms env) fun xs => if xs.length ≤ lineN then bnd (b env) fun y S => match y with
  | .int k => if (decide (-(2 ^ 63) ≤ k) && decide (k < 2 ^ 63) && decide (xs.length * k.toNat ≤ lineN)) = true then mk (List.replicate k.toNat xs).flatten S else none
  | _ => none
  else stuck
theorem RepL.rep {K : PySem.W.Frag} {w : Wd} {vs : List V} {ds : List D} (r : RepL K w vs ds) : ∀ n : Nat, RepL K w (List.replicate n vs).flatten (List.replicate n ds).flatten
  | 0 => .nil
  | n + 1 => by
    rw [List.replicate_succ, List.replicate_succ, List.flatten_cons, List.flatten_cons]
    exact r.append (RepL.rep r n)
theorem j_rep {mk : List D → M D} (hk : MkS X mk) {es : List Expr} {ms : MA} {b : Expr} {mb : ME} {lp : Pos} (h : JA X C es ms) (hb : JE X C b mb) : JE X C (.BinOp (.List es lp) .Mult b pos) (mRep mk ms mb) := PE.weak (pe_op op_rep (pe_lst h) hb) fun σ H Q ⟨w, S, env, me, p⟩ => by
  refine ⟨w, S, env, me, po_bnd me p fun w1 S1 H1 vs ds me1 rv g1 p1 => ?_⟩
  by_cases key : ds.length ≤ lineN
  case neg => rw [if_neg key] at p1; exact p1.elim
  rw [if_pos key] at p1
  refine ⟨by rw [rv.length, line_is]; exact key, fun q hq => ?_⟩
  obtain ⟨s2, g2⟩ := me1.si.fr hq (.lst vs)
  have me2 := me1.go g2 s2
  refine ⟨w1, S1, env, me2, po_bnd me2 (p1.go g2) fun w3 S3 H3 y dy me3 ry g3 p3 => ?_⟩
  have hl := (g3.fo q _ (fo_new me1.si hq (.lst vs))).1
  cases dy with
  | int k =>
    cases ry
    dsimp only at p3
    split at p3
    · rename_i hz
      simp only [Bool.and_eq_true, decide_eq_true_eq] at hz
      have r3 := (rv.le (g2.le.trans g3.le)).rep k.toNat
      obtain ⟨_, hq2⟩ := hk me3.si r3 p3
      exact ⟨q, k, vs, rfl, rfl, hl, hz.1.1, hz.1.2, by rw [rv.length, line_is]; exact hz.2, hq2⟩
    · exact p3.elim
  | _ => exact p3.elim
end
theorem hu64 {A : Around} {k : Nat} (hr : Room k A) : A.units + 64 < cLine := by have := hr.un; omega
theorem hu65 {A : Around} {k : Nat} (hr : Room k A) : A.units + 65 < cLine := by have := hr.un; omega
def dAddI : D → D → M D := dI fun i j => .int (i + j)
theorem op2_iadd {X : Cx} : Op2 X (rI0 fun i j => .int (i + j)) dAddI := op_dI fun _ _ _ => .int _
/-! ### a lock where one is needed -/
def needLk (S : MS) (env : En) (path : List Nat) : Bool := match refOf env S path with
  | some n => match S.get n with
    | some o => (lockOf o).isSome
    | none => false
  | none => false
def mLkM (path : List Nat) (m : ME) : ME := fun env S => if needLk S env path = true then mLk path m env S else m env S
def mLkSM (path : List Nat) (m : MSt) : MSt := fun env S => if needLk S env path = true then mLkS path m env S else m env S
section
variable {X : Cx} {C : Cy X}
theorem j_lkm {e : Expr} {m : ME} (path : List Nat) (h : JE X C e m) : JE X C e (mLkM path m) := ⟨fun pins s σ H Q I ⟨w, S, env, me, p⟩ => by
  unfold mLkM at p
  by_cases c : needLk S env path = true
  · rw [if_pos c] at p
    exact (j_lk path h).run pins s σ H Q I ⟨w, S, env, me, p⟩
  · rw [if_neg c] at p
    exact h.run pins s σ H Q I ⟨w, S, env, me, p⟩⟩
theorem js_lkm {st : Stmt} {m : MSt} (path : List Nat) (h : JS X C st m) : JS X C st (mLkSM path m) := ⟨fun pins s σ H D I ⟨w, S, env, me, p⟩ => by
  unfold mLkSM at p
  by_cases c : needLk S env path = true
  · rw [if_pos c] at p
    exact (js_lk path h).run pins s σ H D I ⟨w, S, env, me, p⟩
  · rw [if_neg c] at p
    exact h.run pins s σ H D I ⟨w, S, env, me, p⟩⟩
end
theorem fj_zero {P : Program} {wo : World} {K : PySem.W.Frag} {mg : Str → Option Value} {base : Heap} {k : Nat} {f : Addr} {fd : FuncData} {ps : List Str} : FJ P wo K mg base k f fd ps (fun _ => stuck) :=
  ⟨fun vs H Q E ⟨w, S, ds, si, r, hl, p⟩ => p.elim, fun A outer s H args us vs Q E hr he hb hv ⟨w, S, ds, si, r, hl, p⟩ => p.elim⟩
theorem ar_stuck {n : Nat} : Ar n (fun _ => stuck) := fun _ _ _ h => by cases h
end Mi
namespace Mi
open PySem L2
/-- law's: a list of at most 63 ints is handed in, True comes out -/
def spL (K : PySem.W.Frag) : Sp := fun vs H Q _ => ∃ (a : Addr) (ns : List Int), vs = [.ref a] ∧ SqL K H a (ns.map V.int) ∧ ns.length ≤ 63 ∧ ∀ H', Q (.bl true) H'
def S0 : MS := ⟨0, fun _ => none⟩
theorem RepL.ints {K : PySem.W.Frag} {w : Wd} : ∀ ns : List Int, RepL K w (ns.map V.int) (ns.map D.int)
  | [] => .nil
  | n :: r => .cons (.int n) (RepL.ints r)
theorem spL_go {K : PySem.W.Frag} {mg : Str → Option Value} {m : List D → M D} (pure : ∀ ns : List Int, ns.length ≤ 63 → ∃ S', m [.src (ns.map D.int)] S0 = some (.ok (.bl true) S')) {vs : List V} {H : Hp} {Q : VK} {E : XK} (h : spL K vs H Q E) : spM K mg 1 m vs H Q E := by
  obtain ⟨a, ns, rfl, hS, hl, k⟩ := h
  obtain ⟨S', e⟩ := pure ns hl
  refine ⟨⟨fun _ => 0, H, 0⟩, S0, [.src (ns.map D.int)], ⟨rfl, fun _ _ h => h, fun _ _ h => (by cases h), fun _ _ _ _ h => (by cases h)⟩, .cons (.src hS (RepL.ints ns)) .nil, rfl, ?_⟩
  rw [e]
  intro w' H' v g si r
  cases r
  exact k H'
theorem cx_no {P : Program} {w : World} {H : Hp} {s : Shared} {e : Value} {s' : Shared} (h : L2.CX P w [] H s (fun _ _ _ => False) e s') : False := by
  obtain ⟨_, _, _, _, _, _, _, _, _, _, _, _, z⟩ := h
  exact z.elim
end Mi
/-! k82: the text by places, the mirrors, the derivations (printed by wip/gen.py) -/
namespace G82
open PySem L2 Mi
def top (i : Nat) : Stmt := PySem.Challenge.pw_axlewire_k82_runs_of_guarded_messages.main.body.getD i (.Pass ⟨0, 0, 0, 0⟩)
abbrev c_Reader : Cl := ⟨"Reader", ["key", "most", "limit", "now", "counter", "last", "bell", "counts"]⟩
abbrev c_Writer : Cl := ⟨"Writer", ["key", "counter"]⟩
abbrev s__law_draws : Stmt := (top 15)
theorem sc__law_draws : FnScope ["script"] ["script"] (defScope s__law_draws) := ⟨rfl, rfl, rfl, by decide +kernel, rfl, by decide +kernel, by decide +kernel⟩
abbrev s__law_draw : Stmt := (top 16)
theorem sc__law_draw : FnScope ["draws", "limit", "cell", "value"] ["draws", "limit"] (defScope s__law_draw) := ⟨rfl, rfl, rfl, by decide +kernel, rfl, by decide +kernel, by decide +kernel⟩
abbrev s_Reader_tally : Stmt := (inClass (top 13) 8)
theorem sc_Reader_tally : FnScope ["self"] ["self"] (defScope s_Reader_tally) := ⟨rfl, rfl, rfl, by decide +kernel, rfl, by decide +kernel, by decide +kernel⟩
abbrev s_Writer___init__ : Stmt := (inClass (top 12) 0)
theorem sc_Writer___init__ : FnScope ["self", "key"] ["self", "key"] (defScope s_Writer___init__) := ⟨rfl, rfl, rfl, by decide +kernel, rfl, by decide +kernel, by decide +kernel⟩
abbrev s_Reader___init__ : Stmt := (inClass (top 13) 0)
theorem sc_Reader___init__ : FnScope ["self", "key", "most", "limit"] ["self", "key", "most", "limit"] (defScope s_Reader___init__) := ⟨rfl, rfl, rfl, by decide +kernel, rfl, by decide +kernel, by decide +kernel⟩
abbrev s_is_number : Stmt := (top 5)
theorem sc_is_number : FnScope ["thing", "low", "high"] ["thing", "low", "high"] (defScope s_is_number) := ⟨rfl, rfl, rfl, by decide +kernel, rfl, by decide +kernel, by decide +kernel⟩
abbrev s_is_octets : Stmt := (top 6)
theorem sc_is_octets : FnScope ["thing", "most", "octet"] ["thing", "most"] (defScope s_is_octets) := ⟨rfl, rfl, rfl, by decide +kernel, rfl, by decide +kernel, by decide +kernel⟩
abbrev s_check_of : Stmt := (top 10)
theorem sc_check_of : FnScope ["octets", "found", "octet", "_"] ["octets"] (defScope s_check_of) := ⟨rfl, rfl, rfl, by decide +kernel, rfl, by decide +kernel, by decide +kernel⟩
abbrev s_guarded : Stmt := (top 11)
theorem sc_guarded : FnScope ["data", "counter", "key"] ["data", "counter", "key"] (defScope s_guarded) := ⟨rfl, rfl, rfl, by decide +kernel, rfl, by decide +kernel, by decide +kernel⟩
abbrev s_Writer_write : Stmt := (inClass (top 12) 1)
theorem sc_Writer_write : FnScope ["self", "data", "found"] ["self", "data"] (defScope s_Writer_write) := ⟨rfl, rfl, rfl, by decide +kernel, rfl, by decide +kernel, by decide +kernel⟩
abbrev s_Reader_go_on : Stmt := (inClass (top 13) 2)
theorem sc_Reader_go_on : FnScope ["self", "now", "found"] ["self", "now"] (defScope s_Reader_go_on) := ⟨rfl, rfl, rfl, by decide +kernel, rfl, by decide +kernel, by decide +kernel⟩
abbrev s_Reader_counted : Stmt := (inClass (top 13) 6)
theorem sc_Reader_counted : FnScope ["self", "word", "told"] ["self", "word", "told"] (defScope s_Reader_counted) := ⟨rfl, rfl, rfl, by decide +kernel, rfl, by decide +kernel, by decide +kernel⟩
abbrev s_Reader_is_right : Stmt := (inClass (top 13) 3)
theorem sc_Reader_is_right : FnScope ["self", "octets"] ["self", "octets"] (defScope s_Reader_is_right) := ⟨rfl, rfl, rfl, by decide +kernel, rfl, by decide +kernel, by decide +kernel⟩
abbrev s_Reader_good : Stmt := (inClass (top 13) 5)
theorem sc_Reader_good : FnScope ["self", "octets", "word", "told"] ["self", "octets", "word", "told"] (defScope s_Reader_good) := ⟨rfl, rfl, rfl, by decide +kernel, rfl, by decide +kernel, by decide +kernel⟩
abbrev s_Reader_take : Stmt := (inClass (top 13) 4)
theorem sc_Reader_take : FnScope ["self", "octets", "now", "ahead"] ["self", "octets", "now"] (defScope s_Reader_take) := ⟨rfl, rfl, rfl, by decide +kernel, rfl, by decide +kernel, by decide +kernel⟩
abbrev s__law_same : Stmt := (top 17)
theorem sc__law_same : FnScope ["x", "due", "right", "key", "at"] ["x", "due"] (defScope s__law_same) := ⟨rfl, rfl, rfl, by decide +kernel, rfl, by decide +kernel, by decide +kernel⟩
abbrev s_Reader_data : Stmt := (inClass (top 13) 7)
theorem sc_Reader_data : FnScope ["self"] ["self"] (defScope s_Reader_data) := ⟨rfl, rfl, rfl, by decide +kernel, rfl, by decide +kernel, by decide +kernel⟩
abbrev s_law : Stmt := (top 19)
theorem sc_law : FnScope ["script", "draws", "key", "writer", "reader", "now", "due", "gone", "first", "last", "k", "data", "octets", "kind", "bent", "place", "told", "word", "tally", "j"] ["script"] (defScope s_law) := ⟨rfl, rfl, rfl, by decide +kernel, rfl, by decide +kernel, by decide +kernel⟩
def b__law_draws : MSt :=
  (mRet (mObj (mCons (mFn (d1 (dList mkL)) (mCons (mV 0) mNil)) (mCons (mK (.int 0)) (mCons (mK (.int 0)) (mCons (mK (.int 1)) mNil))))))
def m__law_draws : List D → M D := runB 1 1 b__law_draws
def b__law_draw : MSt :=
  (mSeq (mIfS (mAnd (mB (mOp dEq (mOp dIx (mV 0) (mK (.int 2))) (mK (.int 0)))) (mB (mOp dLt (mOp dIx (mV 0) (mK (.int 1))) (mFn (d1 dLen) (mCons (mOp dIx (mV 0) (mK (.int 0))) mNil))))) (mSeq (mAsg (mOp dIx (mOp dIx (mV 0) (mK (.int 0))) (mOp dIx (mV 0) (mK (.int 1)))) (gNm 2))
  (mSeq (mAsg (mOp (dAdd mkL) (mOp dIx (mV 0) (mK (.int 1))) (mK (.int 1))) (gIx (mV 0) (mK (.int 1))))
  (mSeq (mIfS (mB (mOp dGe (mV 2) (mOp dPow (mK (.int 10)) (mK (.int 18))))) (mAsg (mV 2) (gIx (mV 0) (mK (.int 2)))) mNx)
  (mAsg (mOp dMod (mFn (d1 dInt) (mCons (mOp (dAdd mkL) (mOp (dAdd mkL) (mOp dMul (mOp dIx (mV 0) (mK (.int 3))) (mK (.int 48271))) (mV 2)) (mK (.int 13))) mNil)) (mK (.int 2147483647))) (gIx (mV 0) (mK (.int 3))))))) mNx)
  (mSeq (mIfS (mB (mOp dGt (mOp dIx (mV 0) (mK (.int 2))) (mK (.int 0)))) (mSeq (mAsg (mOp dMod (mFn (d1 dInt) (mCons (mOp dIx (mV 0) (mK (.int 2))) mNil)) (mV 1)) (gNm 3))
  (mSeq (mAsg (mOp dDiv (mOp dIx (mV 0) (mK (.int 2))) (mV 1)) (gIx (mV 0) (mK (.int 2))))
  (mRet (mV 3)))) mNx)
  (mSeq (mAsg (mOp dMod (mFn (d1 dInt) (mCons (mOp (dAdd mkL) (mOp dMul (mOp dIx (mV 0) (mK (.int 3))) (mK (.int 69621))) (mK (.int 7))) mNil)) (mK (.int 2147483629))) (gIx (mV 0) (mK (.int 3))))
  (mRet (mOp dMod (mFn (d1 dInt) (mCons (mOp dDiv (mOp dIx (mV 0) (mK (.int 3))) (mK (.int 11))) mNil)) (mV 1))))))
def m__law_draw : List D → M D := runB 4 2 b__law_draw
def b_Reader_tally : MSt :=
  (mRet (mFn (d1 (dCopy mkD)) (mCons (mOp1 (dFld c_Reader 7) (mV 0)) mNil)))
def m_Reader_tally : List D → M D := runB 1 1 b_Reader_tally
def b_Writer___init__ : MSt :=
  (mSeq (mStF c_Writer 0 (mV 0) (mV 1))
  (mStF c_Writer 1 (mV 0) (mK (.int 0))))
def m_Writer___init__ : List D → M D := runB 2 2 b_Writer___init__
def b_Reader___init__ : MSt :=
  (mSeq (mStF c_Reader 0 (mV 0) (mV 1))
  (mSeq (mStF c_Reader 1 (mV 0) (mV 2))
  (mSeq (mStF c_Reader 2 (mV 0) (mV 3))
  (mSeq (mStF c_Reader 3 (mV 0) (mK (.int 0)))
  (mSeq (mStF c_Reader 4 (mV 0) (mK .non))
  (mSeq (mStF c_Reader 5 (mV 0) (mK .non))
  (mSeq (mStF c_Reader 6 (mV 0) (mV 3))
  (mStF c_Reader 7 (mV 0) (mDct mkDo [((mK (.str ("fine" : Str))), (mK (.int 0))), ((mK (.str ("lost" : Str))), (mK (.int 0))), ((mK (.str ("again" : Str))), (mK (.int 0))), ((mK (.str ("far" : Str))), (mK (.int 0))), ((mK (.str ("changed" : Str))), (mK (.int 0))), ((mK (.str ("late" : Str))), (mK (.int 0)))])))))))))
def m_Reader___init__ : List D → M D := runB 4 4 b_Reader___init__
def b_is_number : MSt :=
  (mRet (mAndV (mFn (d2 dIsi) (mCons (mV 0) (mCons (mK (.ty "int")) mNil))) (mAndV (mNotV (mFn (d2 dIsi) (mCons (mV 0) (mCons (mK (.ty "bool")) mNil)))) (mChain dLe dLe (mV 1) (mV 0) (mV 2)))))
def m_is_number : List D → M D := runB 3 3 b_is_number
def b_is_octets : MSt :=
  (mRet (mAndV (mFn (d2 dIsi) (mCons (mV 0) (mCons (mK (.ty "list")) mNil))) (mAndV (mOp dLe (mFn (d1 dLen) (mCons (mV 0) mNil)) (mV 1)) (mFn (d1 dAll) (mCons (mLkM [0] (mLc (mIt (mV 0)) (gNm 2) mYes (mCall m_is_number (mCons (mV 2) (mCons (mK (.int 0)) (mCons (mK (.int 255)) mNil)))) [2] mkL)) mNil)))))
def m_is_octets : List D → M D := runB 3 2 b_is_octets
def b_check_of : MSt :=
  (mSeq (mAsg (mK (.int 255)) (gNm 1))
  (mSeq (mLkSM [0] (mFor (mIt (mV 0)) (gNm 2) (mSeq (mAug 1 dBxor (mV 2))
  (mFor (mRange1 (mCons (mK (.int 8)) mNil)) (gNm 3) (mAsg (mIf (mTru (mOp dBand (mV 1) (mK (.int 128)))) (mOp dBand (mOp dBxor (mOp dShl (mV 1) (mK (.int 1))) (mK (.int 29))) (mK (.int 255))) (mOp dShl (mV 1) (mK (.int 1)))) (gNm 1))))))
  (mRet (mOp dBxor (mV 1) (mK (.int 255))))))
def m_check_of : List D → M D := runB 4 1 b_check_of
def b_guarded : MSt :=
  (mSeq (mIfS (mNot (mTru (mCall m_is_octets (mCons (mV 0) (mCons (mK (.int 6)) mNil))))) mNever mNx)
  (mSeq (mIfS (mNot (mTru (mCall m_is_number (mCons (mV 1) (mCons (mK (.int 0)) (mCons (mK (.int 14)) mNil)))))) mNever mNx)
  (mSeq (mIfS (mNot (mTru (mCall m_is_number (mCons (mV 2) (mCons (mK (.int 0)) (mCons (mK (.int 65535)) mNil)))))) mNever mNx)
  (mRet (mOp (dAdd mkL) (mLst (mCons (mCall m_check_of (mCons (mOp (dAdd mkL) (mOp (dAdd mkL) (mLst (mCons (mV 1) mNil)) (mV 0)) (mLst (mCons (mOp dShr (mV 2) (mK (.int 8))) (mCons (mOp dBand (mV 2) (mK (.int 255))) mNil)))) mNil)) (mCons (mV 1) mNil))) (mV 0))))))
def m_guarded : List D → M D := runB 3 3 b_guarded
def b_Writer_write : MSt :=
  (mSeq (mAsg (mCall m_guarded (mCons (mV 1) (mCons (mOp1 (dFld c_Writer 1) (mV 0)) (mCons (mOp1 (dFld c_Writer 0) (mV 0)) mNil)))) (gNm 2))
  (mSeq (mStF c_Writer 1 (mV 0) (mOp dMod (mOp (dAdd mkL) (mOp1 (dFld c_Writer 1) (mV 0)) (mK (.int 1))) (mOp (dAdd mkL) (mK (.int 14)) (mK (.int 1)))))
  (mRet (mV 2))))
def m_Writer_write : List D → M D := runB 3 2 b_Writer_write
def b_Reader_go_on : MSt :=
  (mSeq (mIfS (mB (mOp dLt (mV 1) (mOp1 (dFld c_Reader 3) (mV 0)))) mNever mNx)
  (mSeq (mStF c_Reader 3 (mV 0) (mV 1))
  (mSeq (mAsg (mObj mNil) (gNm 2))
  (mSeq (mWhile (mB (mOp dLe (mOp1 (dFld c_Reader 6) (mV 0)) (mV 1))) (mSeq (mDrop (mMt "list" dAppend (mV 2) (mCons (mOp1 (dFld c_Reader 6) (mV 0)) mNil)))
  (mSeq (mAugF c_Reader 6 dAddI (mV 0) (mOp1 (dFld c_Reader 2) (mV 0)))
  (mAugI dAddI (mOp1 (dFld c_Reader 7) (mV 0)) (mK (.str ("late" : Str))) (mK (.int 1))))))
  (mRet (mFz (mV 2)))))))
def m_Reader_go_on : List D → M D := runB 3 2 b_Reader_go_on
def b_Reader_counted : MSt :=
  (mSeq (mAugI dAddI (mOp1 (dFld c_Reader 7) (mV 0)) (mV 1) (mK (.int 1)))
  (mRet (mV 2)))
def m_Reader_counted : List D → M D := runB 3 3 b_Reader_counted
def b_Reader_is_right : MSt :=
  (mSeq (mIfS (mOr (mNot (mTru (mCall m_is_octets (mCons (mV 1) (mCons (mK (.int 8)) mNil))))) (mOr (mB (mOp dLt (mFn (d1 dLen) (mCons (mV 1) mNil)) (mK (.int 2)))) (mB (mOp dGt (mOp dIx (mV 1) (mK (.int 1))) (mK (.int 14)))))) (mRet (mK (.bl false))) mNx)
  (mRet (mOp dEq (mCall m_guarded (mCons (mSl mkL (mV 1) (oSome (mK (.int 2))) oNone) (mCons (mOp dIx (mV 1) (mK (.int 1))) (mCons (mOp1 (dFld c_Reader 0) (mV 0)) mNil)))) (mV 1))))
def m_Reader_is_right : List D → M D := runB 2 2 b_Reader_is_right
def b_Reader_good : MSt :=
  (mSeq (mStF c_Reader 4 (mV 0) (mOp dIx (mV 1) (mK (.int 1))))
  (mSeq (mStF c_Reader 5 (mV 0) (mSl mkL (mV 1) (oSome (mK (.int 2))) oNone))
  (mSeq (mStF c_Reader 6 (mV 0) (mOp (dAdd mkL) (mOp1 (dFld c_Reader 3) (mV 0)) (mOp1 (dFld c_Reader 2) (mV 0))))
  (mRet (mMeth c_Reader m_Reader_counted (mV 0) (mCons (mV 2) (mCons (mV 3) mNil)))))))
def m_Reader_good : List D → M D := runB 4 4 b_Reader_good
def b_Reader_take : MSt :=
  (mSeq (mDrop (mMeth c_Reader m_Reader_go_on (mV 0) (mCons (mV 2) mNil)))
  (mSeq (mIfS (mNot (mTru (mMeth c_Reader m_Reader_is_right (mV 0) (mCons (mV 1) mNil)))) (mRet (mMeth c_Reader m_Reader_counted (mV 0) (mCons (mK (.str ("changed" : Str))) (mCons (mK (.str ("changed" : Str))) mNil)))) mNx)
  (mSeq (mIfS (mB (mOp dIsN (mOp1 (dFld c_Reader 4) (mV 0)) (mK .non))) (mRet (mMeth c_Reader m_Reader_good (mV 0) (mCons (mV 1) (mCons (mK (.str ("fine" : Str))) (mCons (mK (.str ("fine" : Str))) mNil))))) mNx)
  (mSeq (mAsg (mOp dMod (mOp dSub (mOp dIx (mV 1) (mK (.int 1))) (mOp1 (dFld c_Reader 4) (mV 0))) (mOp (dAdd mkL) (mK (.int 14)) (mK (.int 1)))) (gNm 3))
  (mSeq (mIfS (mB (mOp dEq (mV 3) (mK (.int 0)))) (mRet (mMeth c_Reader m_Reader_counted (mV 0) (mCons (mK (.str ("again" : Str))) (mCons (mK (.str ("again" : Str))) mNil)))) mNx)
  (mSeq (mIfS (mB (mOp dEq (mV 3) (mK (.int 1)))) (mRet (mMeth c_Reader m_Reader_good (mV 0) (mCons (mV 1) (mCons (mK (.str ("fine" : Str))) (mCons (mK (.str ("fine" : Str))) mNil))))) mNx)
  (mSeq (mIfS (mB (mOp dLe (mOp dSub (mV 3) (mK (.int 1))) (mOp1 (dFld c_Reader 1) (mV 0)))) (mRet (mMeth c_Reader m_Reader_good (mV 0) (mCons (mV 1) (mCons (mK (.str ("lost" : Str))) (mCons (mTup (mCons (mK (.str ("lost" : Str))) (mCons (mOp dSub (mV 3) (mK (.int 1))) mNil))) mNil))))) mNx)
  (mSeq (mStF c_Reader 4 (mV 0) (mOp dIx (mV 1) (mK (.int 1))))
  (mRet (mMeth c_Reader m_Reader_counted (mV 0) (mCons (mK (.str ("far" : Str))) (mCons (mTup (mCons (mK (.str ("far" : Str))) (mCons (mOp dSub (mV 3) (mK (.int 1))) mNil))) mNil))))))))))))
def m_Reader_take : List D → M D := runB 4 3 b_Reader_take
def b__law_same (self : List D → M D) : MSt :=
  (mSeq (mIfS (mB (mOp dIsN (mV 1) (mK .non))) (mRet (mOp dIsN (mV 0) (mK .non))) mNx)
  (mSeq (mIfS (mTru (mFn (d2 dIsi) (mCons (mV 1) (mCons (mK (.ty "bool")) mNil)))) (mRet (mAndV (mFn (d2 dIsi) (mCons (mV 0) (mCons (mK (.ty "bool")) mNil))) (mOp dEq (mV 0) (mV 1)))) mNx)
  (mSeq (mIfS (mTru (mFn (d2 dIsi) (mCons (mV 1) (mCons (mK (.ty "int")) mNil)))) (mRet (mAndV (mFn (d2 dIsi) (mCons (mV 0) (mCons (mK (.ty "int")) mNil))) (mAndV (mNotV (mFn (d2 dIsi) (mCons (mV 0) (mCons (mK (.ty "bool")) mNil)))) (mOp dEq (mV 0) (mV 1))))) mNx)
  (mSeq (mIfS (mTru (mFn (d2 dIsi) (mCons (mV 1) (mCons (mK (.ty "str")) mNil)))) (mRet (mAndV (mFn (d2 dIsi) (mCons (mV 0) (mCons (mK (.ty "str")) mNil))) (mOp dEq (mV 0) (mV 1)))) mNx)
  (mSeq (mIfS (mTru (mFn (d2 dIsi) (mCons (mV 1) (mCons (mK (.ty "dict")) mNil)))) (mSeq (mIfS (mOr (mNot (mTru (mFn (d2 dIsi) (mCons (mV 0) (mCons (mK (.ty "dict")) mNil))))) (mOr (mB (mOp dNe (mFn (d1 dLen) (mCons (mV 0) mNil)) (mFn (d1 dLen) (mCons (mV 1) mNil)))) (mNot (mTru (mFn (d1 dAll) (mCons (mLkM [1] (mLc (mIt (mV 1)) (gNm 3) mYes (mOp dIn (mV 3) (mV 0)) [3] mkL)) mNil)))))) (mRet (mK (.bl false))) mNx)
  (mRet (mFn (d1 dAll) (mCons (mLkM [1] (mLc (mIt (mV 1)) (gNm 3) mYes (mCall self (mCons (mOp dIx (mV 0) (mV 3)) (mCons (mOp dIx (mV 1) (mV 3)) mNil))) [3] mkL)) mNil)))) mNx)
  (mSeq (mIfS (mTru (mFn (d2 dIsi) (mCons (mV 1) (mCons (mK (.ty "list")) mNil)))) (mAsg (mFn (d2 dIsi) (mCons (mV 0) (mCons (mK (.ty "list")) mNil))) (gNm 2)) (mAsg (mFn (d2 dIsi) (mCons (mV 0) (mCons (mK (.ty "tuple")) mNil))) (gNm 2)))
  (mRet (mAndV (mV 2) (mAndV (mOp dEq (mFn (d1 dLen) (mCons (mV 0) mNil)) (mFn (d1 dLen) (mCons (mV 1) mNil))) (mFn (d1 dAll) (mCons (mLc (mRange1 (mCons (mFn (d1 dLen) (mCons (mV 1) mNil)) mNil)) (gNm 4) mYes (mCall self (mCons (mOp dIx (mV 0) (mV 4)) (mCons (mOp dIx (mV 1) (mV 4)) mNil))) [4] mkL) mNil)))))))))))
def m__law_same : Nat → List D → M D
  | 0 => fun _ => stuck
  | n + 1 => runB 5 2 (b__law_same (m__law_same n))
theorem a__law_same : ∀ n, Ar 2 (m__law_same n)
  | 0 => ar_stuck
  | _ + 1 => ar_runB
def b_Reader_data : MSt :=
  (mRet (mIf (mB (mOp dIsN (mOp1 (dFld c_Reader 5) (mV 0)) (mK .non))) (mK .non) (mFn (d1 (dList mkL)) (mCons (mOp1 (dFld c_Reader 5) (mV 0)) mNil))))
def m_Reader_data : List D → M D := runB 1 1 b_Reader_data
def b_law : MSt :=
  (mSeq (mAsg (mCall m__law_draws (mCons (mV 0) mNil)) (gNm 1))
  (mSeq (mAsg (mCall m__law_draw (mCons (mV 1) (mCons (mK (.int 65536)) mNil))) (gNm 2))
  (mSeq (mPar 3 4 (mCons (mMake c_Writer m_Writer___init__ (mCons (mV 2) mNil)) (mCons (mMake c_Reader m_Reader___init__ (mCons (mV 2) (mCons (mK (.int 13)) (mCons (mK (.int 50)) mNil)))) mNil)))
  (mSeq (mAsg (mK (.int 0)) (gNm 5))
  (mSeq (mAsg (mDct mkDo [((mK (.str ("fine" : Str))), (mK (.int 0))), ((mK (.str ("lost" : Str))), (mK (.int 0))), ((mK (.str ("again" : Str))), (mK (.int 0))), ((mK (.str ("far" : Str))), (mK (.int 0))), ((mK (.str ("changed" : Str))), (mK (.int 0))), ((mK (.str ("late" : Str))), (mK (.int 0)))]) (gNm 6))
  (mSeq (mAsg (mTup (mCons (mK (.int 0)) (mCons (mK (.bl true)) mNil))) (gTp 2 (gsCons (gNm 7) (gsCons (gNm 8) gsNil))))
  (mSeq (mAsg (mK .non) (gNm 9))
  (mSeq (mFor (mRange1 (mCons (mOp (dAdd mkL) (mK (.int 20)) (mCall m__law_draw (mCons (mV 1) (mCons (mK (.int 61)) mNil)))) mNil)) (gNm 10) (mSeq (mAsg (mLc (mRange1 (mCons (mCall m__law_draw (mCons (mV 1) (mCons (mK (.int 7)) mNil))) mNil)) (gNm 19) mYes (mCall m__law_draw (mCons (mV 1) (mCons (mK (.int 256)) mNil))) [19] mkL) (gNm 11))
  (mSeq (mAsg (mMeth c_Writer m_Writer_write (mV 3) (mCons (mV 11) mNil)) (gNm 12))
  (mSeq (mAsg (mCall m__law_draw (mCons (mV 1) (mCons (mK (.int 10)) mNil))) (gNm 13))
  (mSeq (mAsg (mOp (dAdd mkL) (mV 5) (mOp dIx (mLst (mCons (mK (.int 1)) (mCons (mK (.int 10)) (mCons (mK (.int 49)) mNil)))) (mCall m__law_draw (mCons (mV 1) (mCons (mK (.int 3)) mNil))))) (gNm 5))
  (mSeq (mIfS (mAnd (mB (mOp dLt (mV 13) (mK (.int 3)))) (mB (mOp dLt (mV 7) (mK (.int 13))))) (mSeq (mAsg (mOp (dAdd mkL) (mV 7) (mK (.int 1))) (gNm 7))
  (mSeq (mIfS (mB (mOp dEq (mV 13) (mK (.int 0)))) (mSeq (mAsg (mFn (d1 (dList mkO)) (mCons (mV 12) mNil)) (gNm 14))
  (mSeq (mAsg (mCall m__law_draw (mCons (mV 1) (mCons (mOp dMul (mK (.int 8)) (mFn (d1 dLen) (mCons (mV 14) mNil))) mNil))) (gNm 15))
  (mSeq (mAsg (mOp dBxor (mOp dIx (mV 14) (mOp dDiv (mV 15) (mK (.int 8)))) (mOp dShl (mK (.int 1)) (mOp dMod (mFn (d1 dInt) (mCons (mV 15) mNil)) (mK (.int 8))))) (gIx (mV 14) (mOp dDiv (mV 15) (mK (.int 8)))))
  (mSeq (mAsg (mOp (dAdd mkL) (mOp dIx (mV 6) (mK (.str ("changed" : Str)))) (mK (.int 1))) (gIx (mV 6) (mK (.str ("changed" : Str)))))
  (mSeq (mDrop (mMeth c_Reader m_Reader_go_on (mV 4) (mCons (mV 5) mNil)))
  (mIfS (mNot (mTru (mCall (m__law_same 12) (mCons (mMeth c_Reader m_Reader_take (mV 4) (mCons (mV 14) (mCons (mV 5) mNil))) (mCons (mK (.str ("changed" : Str))) mNil))))) (mRet (mK (.bl false))) mNx)))))) mNx)
  mCt)) mNx)
  (mSeq (mAsg (mMeth c_Reader m_Reader_take (mV 4) (mCons (mV 12) (mCons (mV 5) mNil))) (gNm 16))
  (mSeq (mAsg (mIf (mOr (mTru (mV 8)) (mB (mOp dEq (mV 7) (mK (.int 0))))) (mK (.str ("fine" : Str))) (mTup (mCons (mK (.str ("lost" : Str))) (mCons (mV 7) mNil)))) (gNm 17))
  (mSeq (mIfS (mNot (mTru (mCall (m__law_same 12) (mCons (mV 16) (mCons (mV 17) mNil))))) (mRet (mK (.bl false))) mNx)
  (mSeq (mAsg (mOp (dAdd mkL) (mOp dIx (mV 6) (mIf (mB (mOp dEq (mV 17) (mK (.str ("fine" : Str))))) (mK (.str ("fine" : Str))) (mK (.str ("lost" : Str))))) (mK (.int 1))) (gIx (mV 6) (mIf (mB (mOp dEq (mV 17) (mK (.str ("fine" : Str))))) (mK (.str ("fine" : Str))) (mK (.str ("lost" : Str))))))
  (mSeq (mPar3 7 8 9 (mCons (mK (.int 0)) (mCons (mK (.bl false)) (mCons (mV 11) mNil))))
  (mSeq (mIfS (mB (mOp dEq (mV 13) (mK (.int 9)))) (mSeq (mAsg (mOp (dAdd mkL) (mOp dIx (mV 6) (mK (.str ("again" : Str)))) (mK (.int 1))) (gIx (mV 6) (mK (.str ("again" : Str)))))
  (mIfS (mNot (mTru (mCall (m__law_same 12) (mCons (mMeth c_Reader m_Reader_take (mV 4) (mCons (mV 12) (mCons (mV 5) mNil))) (mCons (mK (.str ("again" : Str))) mNil))))) (mRet (mK (.bl false))) mNx)) mNx)
  (mIfS (mNot (mTru (mCall (m__law_same 12) (mCons (mMeth c_Reader m_Reader_data (mV 4) mNil) (mCons (mV 9) mNil))))) (mRet (mK (.bl false))) mNx)))))))))))))
  (mSeq (mAsg (mMeth c_Reader m_Reader_tally (mV 4) mNil) (gNm 18))
  (mSeq (mAsg (mOp dIx (mV 18) (mK (.str ("late" : Str)))) (gIx (mV 6) (mK (.str ("late" : Str)))))
  (mRet (mAndV (mCall (m__law_same 12) (mCons (mV 18) (mCons (mV 6) mNil))) (mCall (m__law_same 12) (mCons (mMeth c_Reader m_Reader_data (mV 4) mNil) (mCons (mV 9) mNil)))))))))))))))
def m_law : List D → M D := runB 20 1 b_law
end G82
/-! MiP: what a mirror does, by its parts: plain Lean, no program in sight. -/
namespace Mi
open PySem L2
def wp {α : Type} (m : M α) (S : MS) (Q : α → MS → Prop) (E : Exn → MS → Prop) : Prop := match m S with
  | some (.ok a S') => Q a S'
  | some (.exc e S') => E e S'
  | none => False
def wpS (r : Option Fl) (Q : Fl → Prop) : Prop := match r with
  | some fl => Q fl
  | none => False
def Small (n : Nat) : Prop := n ≤ 16777216
theorem Small.le {n : Nat} (h : Small n) : n ≤ 16777216 := h
theorem small_of {n : Nat} (h : n ≤ 16777216) : Small n := h
def wpO {α : Type} (r : Option α) (Q : α → Prop) : Prop := match r with
  | some a => Q a
  | none => False
abbrev no : Exn → MS → Prop := fun _ _ => False
def kont (b : MSt) (Q : Fl → Prop) : Fl → Prop
  | .nx env S => wpS (b env S) Q
  | fl => Q fl
def fin (Q : D → MS → Prop) (E : Exn → MS → Prop) : Fl → Prop
  | .nx _ S => Q .non S
  | .rt d S => Q d S
  | .exc e _ S => E e S
  | _ => False
section
variable {α β : Type} {S : MS} {Q : α → MS → Prop} {E : Exn → MS → Prop} {env : En} {R : Fl → Prop} {P : D → MS → Prop}
theorem wp_some {a : α} {S' : MS} : wp (fun _ => some (.ok a S')) S Q E = Q a S' := propext Iff.rfl
theorem wp_of {m : M α} {a : α} {S' : MS} (h : m S = some (.ok a S')) : wp m S Q E = Q a S' := by unfold wp; rw [h]
theorem wp_to {m : M α} (h : wp m S (fun a S' => Q a S') no) : ∃ a S', m S = some (.ok a S') ∧ Q a S' := by
  unfold wp at h
  cases e : m S with
  | none => rw [e] at h; exact h.elim
  | some r =>
    rw [e] at h
    cases r with
    | ok a S' => exact ⟨a, S', rfl, h⟩
    | exc _ _ => exact h.elim
theorem wp_mono {m : M α} {Q' : α → MS → Prop} (h : wp m S Q' E) (k : ∀ a S', Q' a S' → Q a S') : wp m S Q E := by
  unfold wp at h ⊢
  cases e : m S with
  | none => rw [e] at h; exact h
  | some r =>
    rw [e] at h
    cases r with
    | ok a S' => exact k _ _ h
    | exc _ _ => exact h
theorem wp_bnd {m : M β} {f : β → M α} : wp (bnd m f) S Q E = wp m S (fun b S' => wp (f b) S' Q E) E := by
  unfold wp bnd
  cases m S with
  | none => rfl
  | some r => cases r <;> rfl
theorem wp_ret {a : α} : wp (ret a) S Q E = Q a S := propext Iff.rfl
theorem wp_mV {i : Nat} {d : D} (h : env[i]? = some (some d)) : wp (mV i env) S P E = P d S := by unfold wp mV; rw [h]
def vO (P : D → MS → Prop) (S : MS) : Option (Option D) → Prop
  | some (some d) => P d S
  | _ => False
theorem vO_some {d : D} : vO P S (some (some d)) = P d S := propext Iff.rfl
theorem wp_v {i : Nat} : wp (mV i env) S P E = vO P S env[i]? := by
  unfold wp mV vO
  cases env[i]? with
  | none => rfl
  | some o => cases o <;> rfl
theorem wp_mK {d : D} : wp (mK d env) S P E = P d S := propext Iff.rfl
theorem wpS_stE {m : M α} {f : α → MS → Option Fl} : wpS (stE m env f S) R = wp m S (fun a S' => wpS (f a S') R) (fun e S' => R (.exc e env S')) := by
  unfold wpS stE wp
  cases m S with
  | none => rfl
  | some r => cases r <;> rfl
theorem wpS_some {fl : Fl} : wpS (some fl) R = R fl := propext Iff.rfl
theorem wpS_seq {a b : MSt} : wpS (mSeq a b env S) R = wpS (a env S) (kont b R) := by
  unfold mSeq wpS
  cases a env S with
  | none => rfl
  | some fl => cases fl <;> rfl
theorem kont_nx {b : MSt} (h : wpS (b env S) R) : kont b R (.nx env S) := h
theorem kont_rt {b : MSt} {d : D} : kont b R (.rt d S) = R (.rt d S) := propext Iff.rfl
theorem kont_ct {b : MSt} : kont b R (.ct env S) = R (.ct env S) := propext Iff.rfl
theorem kont_bk {b : MSt} : kont b R (.bk env S) = R (.bk env S) := propext Iff.rfl
theorem kont_exc {b : MSt} {e : Exn} : kont b R (.exc e env S) = R (.exc e env S) := propext Iff.rfl
theorem fin_nx : fin P E (.nx env S) = P .non S := propext Iff.rfl
theorem fin_rt {d : D} : fin P E (.rt d S) = P d S := propext Iff.rfl
theorem fin_exc {e : Exn} : fin P E (.exc e env S) = E e S := propext Iff.rfl
theorem wp_runB {n k : Nat} {b : MSt} {ds : List D} (h : ds.length = k) : wp (runB n k b ds) S P E = wpS (b (ds.map some ++ List.replicate (n - ds.length) none) S) (fin P E) := by
  unfold wp runB wpS
  rw [if_pos h]
  cases b (ds.map some ++ List.replicate (n - ds.length) none) S with
  | none => rfl
  | some fl => cases fl <;> rfl
theorem wpS_mNx : wpS (mNx env S) R = R (.nx env S) := propext Iff.rfl
theorem wpS_mCt : wpS (mCt env S) R = R (.ct env S) := propext Iff.rfl
theorem wpS_mBk : wpS (mBk env S) R = R (.bk env S) := propext Iff.rfl
theorem wpS_gNm {m : ME} {i : Nat} : wpS (mAsg m (gNm i) env S) R = wp (m env) S (fun d S' => R (.nx (env.set i (some d)) S')) (fun e S' => R (.exc e env S')) := by
  unfold mAsg
  rw [wpS_stE] <;> rfl
theorem wpS_asg {m : ME} {g : MG} : wpS (mAsg m g env S) R = wp (m env) S (fun d S' => wpO (g d env S') fun z => R (.nx z.1 z.2)) (fun e S' => R (.exc e env S')) := by
  unfold mAsg
  rw [wpS_stE]
  congr 1
  funext d S'
  unfold wpS wpO
  cases g d env S' with
  | none => rfl
  | some z => rfl
theorem wpS_ifS {t : MT} {a b : MSt} : wpS (mIfS t a b env S) R = wp (t env) S (fun c S' => if c = true then wpS (a env S') R else wpS (b env S') R) (fun e S' => R (.exc e env S')) := by
  unfold mIfS
  rw [wpS_stE]
  congr 1
  funext c S'
  cases c <;> rfl
theorem wp_mIf {t : MT} {a b : ME} : wp (mIf t a b env) S P E = wp (t env) S (fun c S' => if c = true then wp (a env) S' P E else wp (b env) S' P E) E := by
  unfold mIf
  rw [wp_bnd]
  congr 1
  funext c S'
  cases c <;> rfl
theorem wp_mAnd {a b : MT} {P : Bool → MS → Prop} : wp (mAnd a b env) S P E = wp (a env) S (fun c S' => if c = true then wp (b env) S' P E else P false S') E := by
  unfold mAnd
  rw [wp_bnd]
  congr 1
  funext c S'
  cases c <;> rfl
theorem wp_mOr {a b : MT} {P : Bool → MS → Prop} : wp (mOr a b env) S P E = wp (a env) S (fun c S' => if c = true then P true S' else wp (b env) S' P E) E := by
  unfold mOr
  rw [wp_bnd]
  congr 1
  funext c S'
  cases c <;> rfl
theorem wp_mNot {a : MT} {P : Bool → MS → Prop} : wp (mNot a env) S P E = wp (a env) S (fun c S' => P (!c) S') E := by
  unfold mNot
  rw [wp_bnd] <;> rfl
def isBl (P : Bool → MS → Prop) : D → MS → Prop
  | .bl b, S => P b S
  | _, _ => False
theorem isBl_bl {P : Bool → MS → Prop} {b : Bool} : isBl P (.bl b) S = P b S := propext Iff.rfl
theorem wp_mB {m : ME} {P : Bool → MS → Prop} : wp (mB m env) S P E = wp (m env) S (isBl P) E := by
  unfold mB
  rw [wp_bnd]
  congr 1
  funext d S'
  cases d <;> rfl
theorem wp_mAndV {a b : ME} : wp (mAndV a b env) S P E = wp (a env) S (isBl fun c S' => if c = true then wp (b env) S' P E else P (.bl false) S') E := by
  unfold mAndV
  rw [wp_bnd]
  congr 1
  funext d S'
  cases d with
  | bl c => cases c <;> rfl
  | _ => rfl
theorem wp_mOrV {a b : ME} : wp (mOrV a b env) S P E = wp (a env) S (isBl fun c S' => if c = true then P (.bl true) S' else wp (b env) S' P E) E := by
  unfold mOrV
  rw [wp_bnd]
  congr 1
  funext d S'
  cases d with
  | bl c => cases c <;> rfl
  | _ => rfl
theorem wp_mNotV {a : ME} : wp (mNotV a env) S P E = wp (a env) S (isBl fun c S' => P (.bl (!c)) S') E := by
  unfold mNotV
  rw [wp_bnd]
  congr 1
  funext d S'
  cases d <;> rfl
theorem wp_mChain {f g : D → D → M D} {a b c : ME} : wp (mChain f g a b c env) S P E = wp (a env) S (fun x S1 => wp (b env) S1 (fun y S2 => wp (f x y) S2 (isBl fun z S3 => if z = true then wp (c env) S3 (fun u S4 => wp (g y u) S4 P E) E else P (.bl false) S3) E) E) E := by
  unfold mChain
  rw [wp_bnd]
  congr 1
  funext x S1
  rw [wp_bnd]
  congr 1
  funext y S2
  rw [wp_bnd]
  congr 1
  funext z S3
  cases z with
  | bl b => cases b with
    | true =>
      show wp (bnd (c env) fun u => g y u) S3 P E = _
      rw [wp_bnd] <;> rfl
    | false => rfl
  | _ => rfl
def truO (S : MS) (P : Bool → MS → Prop) : Option Bool → Prop
  | some b => P b S
  | none => False
theorem truO_some {P : Bool → MS → Prop} {b : Bool} : truO S P (some b) = P b S := propext Iff.rfl
theorem wp_mTru {m : ME} {P : Bool → MS → Prop} : wp (mTru m env) S P E = wp (m env) S (fun d S' => truO S' P (truD S' d)) E := by
  unfold mTru
  rw [wp_bnd]
  congr 1
  funext d S'
  unfold wp truO
  dsimp only
  cases truD S' d <;> rfl
/-! operators on plain values -/
variable {i j : Int} {mk : List D → M D}
theorem x_addI : wp (dAdd mk (.int i) (.int j)) S P E = P (.int (i + j)) S := propext Iff.rfl
theorem x_addJ : wp (dAddI (.int i) (.int j)) S P E = P (.int (i + j)) S := propext Iff.rfl
theorem x_sub : wp (dSub (.int i) (.int j)) S P E = P (.int (i - j)) S := propext Iff.rfl
theorem x_dI {g : Int → Int → D} : wp (dI g (.int i) (.int j)) S P E = P (g i j) S := propext Iff.rfl
theorem x_dIC {c : Int → Int → Bool} {g : Int → Int → D} : wp (dIC c g (.int i) (.int j)) S P E = (c i j = true ∧ P (g i j) S) := by
  unfold dIC wp
  dsimp only
  by_cases h : c i j = true
  · rw [if_pos h]
    exact propext ⟨fun q => ⟨h, q⟩, fun q => q.2⟩
  · rw [if_neg h]
    exact propext ⟨fun q => q.elim, fun q => h q.1⟩
theorem x_mod : wp (dMod (.int i) (.int j)) S P E = (0 < j ∧ P (.int (i % j)) S) := by
  unfold dMod
  rw [x_dIC, decide_eq_true_eq]
theorem x_div : wp (dDiv (.int i) (.int j)) S P E = ((0 < j ∧ j < 1073741824) ∧ P (.int (i / j)) S) := by
  unfold dDiv
  rw [x_dIC]
  simp only [dDivC, Bool.and_eq_true, decide_eq_true_eq]
theorem x_mul : wp (dMul (.int i) (.int j)) S P E = (dMulC i j = true ∧ P (.int (i * j)) S) := x_dIC
theorem x_pow : wp (dPow (.int i) (.int j)) S P E = (dPowC i j = true ∧ P (.int (i ^ j.toNat)) S) := x_dIC
theorem x_shl : wp (dShl (.int i) (.int j)) S P E = (dPowC i j = true ∧ P (.int (i * 2 ^ j.toNat)) S) := x_dIC
theorem x_shr : wp (dShr (.int i) (.int j)) S P E = (0 ≤ j ∧ P (.int (i / 2 ^ j.toNat)) S) := by
  unfold dShr
  rw [x_dIC, decide_eq_true_eq]
theorem x_band : wp (dBand (.int i) (.int j)) S P E = P (.int (Builtin.bitAnd i j)) S := propext Iff.rfl
theorem x_bor : wp (dBor (.int i) (.int j)) S P E = P (.int (Builtin.bitOr i j)) S := propext Iff.rfl
theorem x_bxor : wp (dBxor (.int i) (.int j)) S P E = P (.int (Builtin.bitXor i j)) S := propext Iff.rfl
theorem x_lt : wp (dLt (.int i) (.int j)) S P E = P (.bl (decide (i < j))) S := propext Iff.rfl
theorem x_le : wp (dLe (.int i) (.int j)) S P E = P (.bl (decide (i ≤ j))) S := propext Iff.rfl
theorem x_gt : wp (dGt (.int i) (.int j)) S P E = P (.bl (decide (j < i))) S := propext Iff.rfl
theorem x_ge : wp (dGe (.int i) (.int j)) S P E = P (.bl (decide (j ≤ i))) S := propext Iff.rfl
theorem x_neg : wp (dNeg (.int i)) S P E = P (.int (-i)) S := propext Iff.rfl
theorem x_eqI : wp (dEq (.int i) (.int j)) S P E = P (.bl (decide (i = j))) S := propext Iff.rfl
theorem x_neI : wp (dNe (.int i) (.int j)) S P E = P (.bl (!decide (i = j))) S := propext Iff.rfl
theorem x_eqS {x y : Str} : wp (dEq (.str x) (.str y)) S P E = P (.bl (decide (x = y))) S := propext Iff.rfl
theorem x_neS {x y : Str} : wp (dNe (.str x) (.str y)) S P E = P (.bl (!decide (x = y))) S := propext Iff.rfl
theorem x_isN {d : D} : wp (dIsN d .non) S P E = P (.bl (isNon d)) S := propext Iff.rfl
theorem x_isNN {d : D} : wp (dIsNotN d .non) S P E = P (.bl (!isNon d)) S := propext Iff.rfl
theorem x_int : wp (dInt (.int i)) S P E = P (.int i) S := propext Iff.rfl
theorem x_abs : wp (dAbs (.int i)) S P E = P (.int (if i < 0 then -i else i)) S := propext Iff.rfl
theorem x_max2 : wp (dMax2 (.int i) (.int j)) S P E = P (.int (if j > i then j else i)) S := propext Iff.rfl
theorem x_min2 : wp (dMin2 (.int i) (.int j)) S P E = P (.int (if j < i then j else i)) S := propext Iff.rfl
theorem x_d1 {f : D → M D} {x : D} : wp (d1 f [x]) S P E = wp (f x) S P E := propext Iff.rfl
theorem x_d2 {f : D → D → M D} {x y : D} : wp (d2 f [x, y]) S P E = wp (f x y) S P E := propext Iff.rfl
theorem x_mkL {xs : List D} : wp (mkL xs) S P E = (Small xs.length ∧ P (.lst xs) S) := by
  unfold mkL wp
  dsimp only
  by_cases h : xs.length ≤ 16777216
  · rw [if_pos h]
    exact propext ⟨fun q => ⟨h, q⟩, fun q => q.2⟩
  · rw [if_neg h]
    exact propext ⟨fun q => q.elim, fun q => h q.1⟩
theorem x_mkT {xs : List D} : wp (mkT xs) S P E = (Small xs.length ∧ P (.tup xs) S) := by
  unfold mkT wp
  dsimp only
  by_cases h : xs.length ≤ 16777216
  · rw [if_pos h]
    exact propext ⟨fun q => ⟨h, q⟩, fun q => q.2⟩
  · rw [if_neg h]
    exact propext ⟨fun q => q.elim, fun q => h q.1⟩
theorem x_mkO {xs : List D} : wp (mkO xs) S P E = (Small xs.length ∧ P (.obj S.nx) (S.add (.lst xs))) := by
  unfold mkO wp
  dsimp only
  by_cases h : xs.length ≤ 16777216
  · rw [if_pos h]
    exact propext ⟨fun q => ⟨h, q⟩, fun q => q.2⟩
  · rw [if_neg h]
    exact propext ⟨fun q => q.elim, fun q => h q.1⟩
theorem x_mkD {kvs : List (Key × D)} : wp (mkD kvs) S P E = P (.dct kvs) S := propext Iff.rfl
theorem x_mkDo {kvs : List (Key × D)} : wp (mkDo kvs) S P E = P (.obj S.nx) (S.add (.dk kvs)) := propext Iff.rfl
/-! what stands in the store: each by what stands there -/
theorem get_set {n k : Nat} {o : MO} : (S.set n o).get k = if k = n then some o else S.get k := rfl
theorem get_same {n : Nat} {o : MO} : (S.set n o).get n = some o := if_pos rfl
theorem get_ne {n k : Nat} {o : MO} (h : k ≠ n) : (S.set n o).get k = S.get k := if_neg h
theorem get_add {k : Nat} {o : MO} : (S.add o).get k = if k = S.nx then some o else S.get k := rfl
theorem get_del {n k : Nat} : (S.del n).get k = if k = n then none else S.get k := rfl
theorem nx_set {n : Nat} {o : MO} : (S.set n o).nx = S.nx := rfl
theorem nx_add {o : MO} : (S.add o).nx = S.nx + 1 := rfl
theorem nx_del {n : Nat} : (S.del n).nx = S.nx := rfl
theorem set_set {n : Nat} {o u : MO} : (S.set n o).set n u = S.set n u := by
  unfold MS.set
  congr 1
  funext k
  by_cases h : k = n
  · rw [if_pos h, if_pos h]
  · rw [if_neg h, if_neg h]
    show (if k = n then some o else S.get k) = S.get k
    rw [if_neg h]
theorem set_id {n : Nat} {o : MO} (h : S.get n = some o) : S.set n o = S := by
  unfold MS.set
  cases S with
  | mk nx get =>
    congr 1
    funext k
    by_cases e : k = n
    · rw [if_pos e, e]; exact h.symm
    · rw [if_neg e]
def ixO (P : D → MS → Prop) (S : MS) : Option D → Prop
  | some d => P d S
  | none => False
theorem ixO_some {d : D} : ixO P S (some d) = P d S := propext Iff.rfl
def ixAt (S : MS) (x y : D) : Option D := match dctOf S x with
  | some kvs => match toKey y with
    | some k => dLook kvs k
    | none => none
  | none => match y with
    | .int i => match seqOf S x with
      | some ds => atI ds i
      | none => match x with
        | .str z => if z.length ≤ lineN then match atI z.cps.toList i with
          | some c => some (.str ⟨#[c]⟩)
          | none => none
          else none
        | _ => none
    | _ => none
theorem x_ix {x y : D} : wp (dIx x y) S P E = ixO P S (ixAt S x y) := by
  unfold dIx wp ixAt ixO
  dsimp only
  cases dctOf S x with
  | some kvs =>
    dsimp only
    cases toKey y with
    | none => rfl
    | some k =>
      dsimp only
      cases dLook kvs k <;> rfl
  | none =>
    dsimp only
    cases y with
    | int i =>
      dsimp only
      cases seqOf S x with
      | some ds =>
        dsimp only
        cases atI ds i <;> rfl
      | none =>
        dsimp only
        cases x with
        | str z =>
          dsimp only
          by_cases h : z.length ≤ lineN
          · rw [if_pos h, if_pos h]
            cases atI z.cps.toList i <;> rfl
          · rw [if_neg h, if_neg h]
        | _ => rfl
    | _ => rfl
def lenO (P : D → MS → Prop) (S : MS) : Option Int → Prop
  | some n => P (.int n) S
  | none => False
theorem lenO_some {n : Int} : lenO P S (some n) = P (.int n) S := propext Iff.rfl
theorem x_len {d : D} : wp (dLen d) S P E = lenO P S (lenB S d) := by
  unfold dLen wp lenO
  dsimp only
  cases lenB S d <;> rfl
theorem x_list {d : D} : wp (dList mk d) S P E = wpO (match dctOf S d with
    | some kvs => some (kvs.map fun kv => keyD kv.1)
    | none => seqOf S d) (fun ds => wp (mk ds) S P E) := by
  unfold dList wpO
  show wp (fun S => _) S P E = _
  unfold wp
  dsimp only
  cases dctOf S d with
  | some kvs => rfl
  | none =>
    dsimp only
    cases seqOf S d <;> rfl
theorem wpO_some {γ : Type} {a : γ} {P : γ → Prop} : wpO (some a) P = P a := propext Iff.rfl
theorem x_sl {d : D} {lo hi : Option Int} {ds : List D} (h : lstOf S d = some ds) (ht : ∀ xs, d ≠ .tup xs) (hs : ∀ z, d ≠ .str z) : wp (dSl mk d lo hi) S P E = wp (mk (cutD ds lo hi)) S P E := by
  have e : dSl mk d lo hi S = mk (cutD ds lo hi) S := by
    unfold dSl
    cases d with
    | tup xs => exact absurd rfl (ht xs)
    | str z => exact absurd rfl (hs z)
    | _ =>
      dsimp only
      rw [h]
  unfold wp
  rw [e]
theorem x_slT {ds : List D} {lo hi : Option Int} : wp (dSl mk (.tup ds) lo hi) S P E = wp (mkT (cutD ds lo hi)) S P E := propext Iff.rfl
theorem x_slL {ds : List D} {lo hi : Option Int} : wp (dSl mk (.lst ds) lo hi) S P E = wp (mk (cutD ds lo hi)) S P E := propext Iff.rfl
theorem x_addL {x y : D} {xs ys : List D} (hx : lstRd S x = some xs) (hy : lstRd S y = some ys) : wp (dAdd mk x y) S P E = wp (mk (xs ++ ys)) S P E := by
  have e : dAdd mk x y S = mk (xs ++ ys) S := by
    unfold dAdd
    cases x with
    | lst as =>
      dsimp only
      rw [hx, hy]
    | obj n =>
      dsimp only
      rw [hx, hy]
    | _ => cases hx
  unfold wp
  rw [e]
theorem x_addLL {xs ys : List D} : wp (dAdd mk (.lst xs) (.lst ys)) S P E = wp (mk (xs ++ ys)) S P E := x_addL rfl rfl
theorem x_addTT {xs ys : List D} : wp (dAdd mk (.tup xs) (.tup ys)) S P E = wp (mkT (xs ++ ys)) S P E := propext Iff.rfl
def blO (P : D → MS → Prop) (S : MS) : Option Bool → Prop
  | some b => P (.bl b) S
  | none => False
theorem blO_some {b : Bool} : blO P S (some b) = P (.bl b) S := propext Iff.rfl
theorem x_eq {x y : D} : wp (dEq x y) S P E = blO P S (dEqB S x y) := by
  unfold dEq wp blO
  dsimp only
  cases dEqB S x y <;> rfl
theorem x_ne {x y : D} : wp (dNe x y) S P E = blO P S ((dEqB S x y).map (!·)) := by
  unfold dNe wp blO
  dsimp only
  cases dEqB S x y <;> rfl
theorem x_in {x y : D} : wp (dIn x y) S P E = blO P S (dInB S x y) := by
  unfold dIn wp blO
  dsimp only
  cases dInB S x y <;> rfl
theorem x_nin {x y : D} : wp (dNotIn x y) S P E = blO P S ((dInB S x y).map (!·)) := by
  unfold dNotIn wp blO
  dsimp only
  cases dInB S x y <;> rfl
def isiO (S : MS) (d : D) (T : String) : Option Bool := match kindOf S d with
  | some k => isiB k T
  | none => none
theorem x_isi {d : D} {T : String} : wp (dIsi d (.ty T)) S P E = blO P S (isiO S d T) := by
  unfold dIsi wp blO isiO
  dsimp only
  cases kindOf S d with
  | none => rfl
  | some k =>
    dsimp only
    cases isiB k T <;> rfl
theorem isi_non_bool : isiO S .non "bool" = some false := by rfl
theorem isi_non_int : isiO S .non "int" = some false := by rfl
theorem isi_non_str : isiO S .non "str" = some false := by rfl
theorem isi_non_list : isiO S .non "list" = some false := by rfl
theorem isi_non_tuple : isiO S .non "tuple" = some false := by rfl
theorem isi_non_dict : isiO S .non "dict" = some false := by rfl
theorem isi_bl_bool {b : Bool} : isiO S (.bl b) "bool" = some true := by rfl
theorem isi_bl_int {b : Bool} : isiO S (.bl b) "int" = some true := by rfl
theorem isi_bl_str {b : Bool} : isiO S (.bl b) "str" = some false := by rfl
theorem isi_bl_list {b : Bool} : isiO S (.bl b) "list" = some false := by rfl
theorem isi_bl_tuple {b : Bool} : isiO S (.bl b) "tuple" = some false := by rfl
theorem isi_bl_dict {b : Bool} : isiO S (.bl b) "dict" = some false := by rfl
theorem isi_int_bool : isiO S (.int i) "bool" = some false := by rfl
theorem isi_int_int : isiO S (.int i) "int" = some true := by rfl
theorem isi_int_str : isiO S (.int i) "str" = some false := by rfl
theorem isi_int_list : isiO S (.int i) "list" = some false := by rfl
theorem isi_int_tuple : isiO S (.int i) "tuple" = some false := by rfl
theorem isi_int_dict : isiO S (.int i) "dict" = some false := by rfl
theorem isi_str_bool {z : Str} : isiO S (.str z) "bool" = some false := by rfl
theorem isi_str_int {z : Str} : isiO S (.str z) "int" = some false := by rfl
theorem isi_str_str {z : Str} : isiO S (.str z) "str" = some true := by rfl
theorem isi_str_list {z : Str} : isiO S (.str z) "list" = some false := by rfl
theorem isi_str_tuple {z : Str} : isiO S (.str z) "tuple" = some false := by rfl
theorem isi_str_dict {z : Str} : isiO S (.str z) "dict" = some false := by rfl
theorem isi_lst_bool {ds : List D} : isiO S (.lst ds) "bool" = some false := by rfl
theorem isi_lst_int {ds : List D} : isiO S (.lst ds) "int" = some false := by rfl
theorem isi_lst_str {ds : List D} : isiO S (.lst ds) "str" = some false := by rfl
theorem isi_lst_list {ds : List D} : isiO S (.lst ds) "list" = some true := by rfl
theorem isi_lst_tuple {ds : List D} : isiO S (.lst ds) "tuple" = some false := by rfl
theorem isi_lst_dict {ds : List D} : isiO S (.lst ds) "dict" = some false := by rfl
theorem isi_src_bool {ds : List D} : isiO S (.src ds) "bool" = some false := by rfl
theorem isi_src_int {ds : List D} : isiO S (.src ds) "int" = some false := by rfl
theorem isi_src_str {ds : List D} : isiO S (.src ds) "str" = some false := by rfl
theorem isi_src_list {ds : List D} : isiO S (.src ds) "list" = some true := by rfl
theorem isi_src_tuple {ds : List D} : isiO S (.src ds) "tuple" = some false := by rfl
theorem isi_src_dict {ds : List D} : isiO S (.src ds) "dict" = some false := by rfl
theorem isi_tup_bool {ds : List D} : isiO S (.tup ds) "bool" = some false := by rfl
theorem isi_tup_int {ds : List D} : isiO S (.tup ds) "int" = some false := by rfl
theorem isi_tup_str {ds : List D} : isiO S (.tup ds) "str" = some false := by rfl
theorem isi_tup_list {ds : List D} : isiO S (.tup ds) "list" = some false := by rfl
theorem isi_tup_tuple {ds : List D} : isiO S (.tup ds) "tuple" = some true := by rfl
theorem isi_tup_dict {ds : List D} : isiO S (.tup ds) "dict" = some false := by rfl
theorem isi_dct_bool {kvs : List (Key × D)} : isiO S (.dct kvs) "bool" = some false := by rfl
theorem isi_dct_int {kvs : List (Key × D)} : isiO S (.dct kvs) "int" = some false := by rfl
theorem isi_dct_str {kvs : List (Key × D)} : isiO S (.dct kvs) "str" = some false := by rfl
theorem isi_dct_list {kvs : List (Key × D)} : isiO S (.dct kvs) "list" = some false := by rfl
theorem isi_dct_tuple {kvs : List (Key × D)} : isiO S (.dct kvs) "tuple" = some false := by rfl
theorem isi_dct_dict {kvs : List (Key × D)} : isiO S (.dct kvs) "dict" = some true := by rfl
def tyMO : MO → Option String
  | .lst _ => some "list"
  | .ll _ => some "list"
  | .dk _ => some "dict"
  | .lk _ => some "dict"
  | .ins _ _ => none
theorem kind_obj {n : Nat} : kindOf S (.obj n) = (S.get n).bind tyMO := by
  unfold kindOf
  dsimp only
  cases S.get n with
  | none => rfl
  | some o => cases o <;> rfl
theorem kind_lst {d : D} {ds : List D} (h : lstOf S d = some ds) : kindOf S d = some "list" := by
  cases d with
  | lst _ => rfl
  | src _ => rfl
  | obj n =>
    rw [kind_obj]
    unfold lstOf at h
    dsimp only at h
    cases e : S.get n with
    | none => rw [e] at h; cases h
    | some o =>
      rw [e] at h
      cases o <;> first | rfl | cases h
  | _ => cases h
theorem isi_lst {d : D} {ds : List D} {T : String} (h : lstOf S d = some ds) : isiO S d T = isiB "list" T := by
  unfold isiO
  rw [kind_lst h]
theorem isiB_list : isiB "list" "list" = some true := by rfl
theorem isiB_list_bool : isiB "list" "bool" = some false := by rfl
theorem isiB_list_int : isiB "list" "int" = some false := by rfl
theorem isiB_list_str : isiB "list" "str" = some false := by rfl
theorem isiB_list_dict : isiB "list" "dict" = some false := by rfl
theorem isiB_list_tuple : isiB "list" "tuple" = some false := by rfl
theorem dct_lst {d : D} {ds : List D} (h : lstOf S d = some ds) : dctOf S d = none := by
  cases d with
  | lst _ => rfl
  | src _ => rfl
  | obj n =>
    unfold lstOf at h
    unfold dctOf
    dsimp only at h ⊢
    cases e : S.get n with
    | none => rfl
    | some o =>
      rw [e] at h
      cases o <;> first | rfl | cases h
  | _ => cases h
theorem seq_lst {d : D} {ds : List D} (h : lstOf S d = some ds) : seqOf S d = some ds := by
  cases d with
  | tup _ => cases h
  | _ => exact h
theorem len_lst {d : D} {ds : List D} (h : lstOf S d = some ds) : lenB S d = some (ds.length : Int) := by
  unfold lenB
  rw [dct_lst h]
  dsimp only
  rw [seq_lst h]
theorem ixAt_lst {d : D} {ds : List D} {i : Int} (h : lstOf S d = some ds) : ixAt S d (.int i) = atI ds i := by
  unfold ixAt
  rw [dct_lst h]
  dsimp only
  rw [seq_lst h]
theorem x_slD {d : D} {lo hi : Option Int} {ds : List D} (h : lstOf S d = some ds) : wp (dSl mk d lo hi) S P E = wp (mk (cutD ds lo hi)) S P E := x_sl h (fun xs e => by rw [e] at h; cases h) (fun z e => by rw [e] at h; cases h)
theorem x_listD {d : D} {ds : List D} (h : lstOf S d = some ds) : wp (dList mk d) S P E = wp (mk ds) S P E := by
  rw [x_list, dct_lst h]
  dsimp only
  rw [seq_lst h] <;> rfl
theorem wp_isiT {ts : List String} {m : ME} : wp (mIsiT ts m env) S P E = wp (m env) S (fun d S' => blO P S' (match kindOf S' d with
    | some k => isiAny k ts
    | none => none)) E := by
  unfold mIsiT
  rw [wp_bnd]
  congr 1
  funext d S'
  unfold wp blO
  dsimp only
  cases kindOf S' d with
  | none => rfl
  | some k =>
    dsimp only
    cases isiAny k ts <;> rfl
theorem x_fld {c : Cl} {k : Nat} {d : D} : wp (dFld c k d) S P E = wpO (insOf S c d) (fun nf => ixO P S nf.2[k]?) := by
  unfold dFld wp wpO ixO
  dsimp only
  cases insOf S c d with
  | none => rfl
  | some nf =>
    dsimp only
    cases nf.2[k]? <;> rfl
theorem wpS_stF {c : Cl} {k : Nat} {mo mv : ME} : wpS (mStF c k mo mv env S) R = wp (mv env) S (fun x S1 => wp (mo env) S1 (fun d S2 => wpO (stF c k d x S2) fun S3 => R (.nx env S3)) (fun e S' => R (.exc e env S'))) (fun e S' => R (.exc e env S')) := by
  unfold mStF
  rw [wpS_stE, wp_bnd]
  congr 1
  funext x S1
  rw [wp_bnd]
  congr 1
  funext d S2
  rw [wp_ret]
  unfold wpS wpO
  cases stF c k d x S2 <;> rfl
theorem wpS_augF {c : Cl} {k : Nat} {g : D → D → M D} {mo mv : ME} : wpS (mAugF c k g mo mv env S) R = wp (mo env) S (fun d S1 => wp (dFld c k d) S1 (fun x S2 => wp (mv env) S2 (fun y S3 => wp (g x y) S3 (fun z S4 => wpO (stF c k d z S4) fun S5 => R (.nx env S5)) (fun e S' => R (.exc e env S'))) (fun e S' => R (.exc e env S'))) (fun e S' => R (.exc e env S'))) (fun e S' => R (.exc e env S')) := by
  unfold mAugF
  rw [wpS_stE, wp_bnd]
  congr 1
  funext d S1
  rw [wp_bnd]
  congr 1
  funext x S2
  rw [wp_bnd]
  congr 1
  funext y S3
  rw [wp_bnd]
  congr 1
  funext z S4
  rw [wp_ret]
  unfold wpS wpO
  cases stF c k d z S4 <;> rfl
theorem wpS_augI {f : D → D → M D} {mo mi me : ME} : wpS (mAugI f mo mi me env S) R = wp (mo env) S (fun x S1 => wp (mi env) S1 (fun y S2 => wp (dGetI x y) S2 (fun old S3 => wp (me env) S3 (fun v S4 => wp (f old v) S4 (fun z S5 => wpO (dSet x y z S5) fun S6 => R (.nx env S6)) (fun e S' => R (.exc e env S'))) (fun e S' => R (.exc e env S'))) (fun e S' => R (.exc e env S'))) (fun e S' => R (.exc e env S'))) (fun e S' => R (.exc e env S')) := by
  unfold mAugI
  rw [wpS_stE, wp_bnd]
  congr 1
  funext x S1
  rw [wp_bnd]
  congr 1
  funext y S2
  rw [wp_bnd]
  congr 1
  funext o S3
  rw [wp_bnd]
  congr 1
  funext v S4
  rw [wp_bnd]
  congr 1
  funext z S5
  rw [wp_ret]
  unfold wpS wpO
  dsimp only
  cases dSet x y z S5 <;> rfl
def getIAt (S : MS) (x y : D) : Option D := match dctOf S x with
  | some kvs => match toKey y with
    | some k => dLook kvs k
    | none => none
  | none => match lstOf S x, y with
    | some es, .int i => atI es i
    | _, _ => none
theorem x_getI {x y : D} : wp (dGetI x y) S P E = ixO P S (getIAt S x y) := by
  unfold dGetI wp getIAt ixO
  dsimp only
  cases dctOf S x with
  | some kvs =>
    dsimp only
    cases toKey y with
    | none => rfl
    | some k =>
      dsimp only
      cases dLook kvs k <;> rfl
  | none =>
    dsimp only
    cases lstOf S x with
    | none => rfl
    | some es =>
      cases y with
      | int i =>
        dsimp only
        cases atI es i <;> rfl
      | _ => rfl
theorem wpS_augV {k : Nat} {f : D → D → M D} {m : ME} : wpS (mAug k f m env S) R = vO (fun x S => wp (m env) S (fun y S1 => wp (f x y) S1 (fun z S2 => R (.nx (env.set k (some z)) S2)) (fun e S' => R (.exc e env S'))) (fun e S' => R (.exc e env S'))) S env[k]? := by
  unfold mAug vO
  cases env[k]? with
  | none => rfl
  | some o =>
    cases o with
    | none => rfl
    | some x =>
      dsimp only
      rw [wpS_stE, wp_bnd] <;> rfl
theorem wpS_aug {k : Nat} {f : D → D → M D} {m : ME} {x : D} (h : env[k]? = some (some x)) : wpS (mAug k f m env S) R = wp (m env) S (fun y S1 => wp (f x y) S1 (fun z S2 => R (.nx (env.set k (some z)) S2)) (fun e S' => R (.exc e env S'))) (fun e S' => R (.exc e env S')) := by
  unfold mAug
  rw [h]
  dsimp only
  rw [wpS_stE, wp_bnd] <;> rfl
theorem wpS_drop {m : ME} : wpS (mDrop m env S) R = wp (m env) S (fun _ S' => R (.nx env S')) (fun e S' => R (.exc e env S')) := wpS_stE
theorem wpS_ret {m : ME} : wpS (mRet m env S) R = wp (m env) S (fun d S' => R (.rt d S')) (fun e S' => R (.exc e env S')) := wpS_stE
theorem wpS_retN : wpS (mRetN env S) R = R (.rt .non S) := propext Iff.rfl
theorem wpS_par {k l : Nat} {ms : MA} : wpS (mPar k l ms env S) R = wp (ms env) S (fun ds S' => wpS (match ds with
    | [d, e] => some (.nx ((env.set k (some d)).set l (some e)) S')
    | _ => none) R) (fun e S' => R (.exc e env S')) := wpS_stE
theorem wpS_par3 {k l n : Nat} {ms : MA} : wpS (mPar3 k l n ms env S) R = wp (ms env) S (fun ds S' => wpS (match ds with
    | [d, e, f] => some (.nx (((env.set k (some d)).set l (some e)).set n (some f)) S')
    | _ => none) R) (fun e S' => R (.exc e env S')) := wpS_stE
theorem wp_mMeth {c : Cl} {m : List D → M D} {mo : ME} {a : MA} : wp (mMeth c m mo a env) S P E = wp (mo env) S (fun d S1 => wpO (insOf S1 c d) fun _ => wp (a env) S1 (fun ds S2 => wp (m (d :: ds)) S2 P E) E) E := by
  unfold mMeth
  rw [wp_bnd]
  congr 1
  funext d S1
  cases e : insOf S1 c d with
  | none =>
    unfold wp
    dsimp only
    rw [e]
    rfl
  | some nf =>
    show _ = wp (a env) S1 _ E
    rw [← wp_bnd]
    unfold wp
    dsimp only
    rw [e]
theorem wp_mMake {c : Cl} {m : List D → M D} {a : MA} : wp (mMake c m a env) S P E = wp (a env) S (fun ds S1 => wp (m (.obj S1.nx :: ds)) (S1.add (.ins c [])) (fun v S2 => v = .non ∧ P (.obj S1.nx) S2) E) E := by
  unfold mMake
  rw [wp_bnd]
  congr 1
  funext ds S1
  unfold wp
  dsimp only
  cases m (.obj S1.nx :: ds) (S1.add (.ins c [])) with
  | none => rfl
  | some r =>
    cases r with
    | exc e S2 => rfl
    | ok v S2 =>
      cases v with
      | non => exact propext ⟨fun q => ⟨rfl, q⟩, fun q => q.2⟩
      | _ => exact propext ⟨fun q => q.elim, fun q => (nomatch q.1)⟩
theorem wp_mMt {T : String} {f : D → List D → M D} {mo : ME} {a : MA} : wp (mMt T f mo a env) S P E = wp (mo env) S (fun d S1 => tyD S1 T d = true ∧ wp (a env) S1 (fun ds S2 => wp (f d ds) S2 P E) E) E := by
  unfold mMt
  rw [wp_bnd]
  congr 1
  funext d S1
  by_cases h : tyD S1 T d = true
  · rw [← wp_bnd]
    unfold wp
    dsimp only
    rw [if_pos h]
    exact propext ⟨fun q => ⟨h, q⟩, fun q => q.2⟩
  · unfold wp
    dsimp only
    rw [if_neg h]
    exact propext ⟨fun q => q.elim, fun q => h q.1⟩
theorem wp_mLc {mi : MA} {g : MG} {tt : MT} {te : ME} {vs : List Nat} : wp (mLc mi g tt te vs mk env) S P E = wp (mi env) S (fun ds S1 => wp (lcM g tt te (wipeE env vs) ds) S1 (fun ys S2 => Small ys.length ∧ wp (mk ys) S2 P E) E) E := by
  unfold mLc
  rw [wp_bnd]
  congr 1
  funext ds S1
  rw [wp_bnd]
  congr 1
  funext ys S2
  by_cases h : ys.length ≤ lineN
  · rw [if_pos h]
    exact propext ⟨fun q => ⟨h, q⟩, fun q => q.2⟩
  · rw [if_neg h]
    exact propext ⟨fun q => q.elim, fun q => h q.1⟩
theorem wp_mIt {m : ME} {P : List D → MS → Prop} : wp (mIt m env) S P E = wp (m env) S (fun d S' => wpO (itAny S' d) fun ds => P ds S') E := by
  unfold mIt
  rw [wp_bnd]
  congr 1
  funext d S'
  unfold wp wpO
  dsimp only
  cases itAny S' d <;> rfl
theorem wpS_for {mi : MA} {g : MG} {b : MSt} : wpS (mFor mi g b env S) R = wp (mi env) S (fun ds S' => wpS (loopF g b ds env S') R) (fun e S' => R (.exc e env S')) := wpS_stE
def rngD1 : List D → Option (List D)
  | [.int j] => if -(2 ^ 62) ≤ j ∧ j < 2 ^ 62 then some (rngN 0 1 j.toNat) else none
  | _ => none
def rngD2 : List D → Option (List D)
  | [.int i, .int j] => if -(2 ^ 62) ≤ i ∧ i < 2 ^ 62 ∧ -(2 ^ 62) ≤ j ∧ j < 2 ^ 62 then some (rngN i 1 (j - i).toNat) else none
  | _ => none
def rngD3 : List D → Option (List D)
  | [.int i, .int j, .int c] => if c ≠ 0 ∧ c.natAbs < 1073741824 ∧ Builtin.Range.small i j c = true ∧ 0 ≤ Builtin.Range.rangeSize i j c then some (rngN i c (Builtin.Range.rangeSize i j c).toNat) else none
  | _ => none
theorem wp_range1 {ms : MA} {P : List D → MS → Prop} : wp (mRange1 ms env) S P E = wp (ms env) S (fun ds S' => wpO (rngD1 ds) fun ds => P ds S') E := by
  unfold mRange1
  rw [wp_bnd]
  congr 1
  funext ds S'
  split
  · rename_i j
    by_cases h : -(2 ^ 62) ≤ j ∧ j < 2 ^ 62
    · rw [if_pos (by simpa using h), show rngD1 [.int j] = _ from if_pos h]; rfl
    · rw [if_neg (by simpa using h), show rngD1 [.int j] = _ from if_neg h]; rfl
  · rename_i hne
    have e : rngD1 ds = none := by
      unfold rngD1
      split
      · exact (hne _ rfl).elim
      · rfl
    rw [e]; rfl
theorem wp_range2 {ms : MA} {P : List D → MS → Prop} : wp (mRange2 ms env) S P E = wp (ms env) S (fun ds S' => wpO (rngD2 ds) fun ds => P ds S') E := by
  unfold mRange2
  rw [wp_bnd]
  congr 1
  funext ds S'
  split
  · rename_i i j
    by_cases h : -(2 ^ 62) ≤ i ∧ i < 2 ^ 62 ∧ -(2 ^ 62) ≤ j ∧ j < 2 ^ 62
    · rw [if_pos (by simp only [Bool.and_eq_true, decide_eq_true_eq]; exact ⟨⟨⟨h.1, h.2.1⟩, h.2.2.1⟩, h.2.2.2⟩), show rngD2 [.int i, .int j] = _ from if_pos h]; rfl
    · rw [if_neg (by simp only [Bool.and_eq_true, decide_eq_true_eq]; exact fun z => h ⟨z.1.1.1, z.1.1.2, z.1.2, z.2⟩), show rngD2 [.int i, .int j] = _ from if_neg h]; rfl
  · rename_i hne
    have e : rngD2 ds = none := by
      unfold rngD2
      split
      · exact (hne _ _ rfl).elim
      · rfl
    rw [e]; rfl
theorem wp_range3 {ms : MA} {P : List D → MS → Prop} : wp (mRange3 ms env) S P E = wp (ms env) S (fun ds S' => wpO (rngD3 ds) fun ds => P ds S') E := by
  unfold mRange3
  rw [wp_bnd]
  congr 1
  funext ds S'
  split
  · rename_i i j c
    by_cases h : c ≠ 0 ∧ c.natAbs < 1073741824 ∧ Builtin.Range.small i j c = true ∧ 0 ≤ Builtin.Range.rangeSize i j c
    · rw [if_pos (by simp only [Bool.and_eq_true, decide_eq_true_eq]; exact ⟨⟨⟨h.1, h.2.1⟩, h.2.2.1⟩, h.2.2.2⟩), show rngD3 [.int i, .int j, .int c] = _ from if_pos h]; rfl
    · rw [if_neg (by simp only [Bool.and_eq_true, decide_eq_true_eq]; exact fun z => h ⟨z.1.1.1, z.1.1.2, z.1.2, z.2⟩), show rngD3 [.int i, .int j, .int c] = _ from if_neg h]; rfl
  · rename_i hne
    have e : rngD3 ds = none := by
      unfold rngD3
      split
      · exact (hne _ _ _ rfl).elim
      · rfl
    rw [e]; rfl
theorem wp_op {f : D → D → M D} {a b : ME} : wp (mOp f a b env) S P E = wp (a env) S (fun x S1 => wp (b env) S1 (fun y S2 => wp (f x y) S2 P E) E) E := by
  unfold mOp
  rw [wp_bnd]
  congr 1
  funext x S1
  rw [wp_bnd]
theorem wp_op1 {f : D → M D} {a : ME} : wp (mOp1 f a env) S P E = wp (a env) S (fun x S1 => wp (f x) S1 P E) E := by
  unfold mOp1
  rw [wp_bnd]
theorem wp_call {f : List D → M D} {a : MA} : wp (mCall f a env) S P E = wp (a env) S (fun x S1 => wp (f x) S1 P E) E := by
  unfold mCall
  rw [wp_bnd]
theorem wp_fn {f : List D → M D} {a : MA} : wp (mFn f a env) S P E = wp (a env) S (fun x S1 => wp (f x) S1 P E) E := by
  unfold mFn
  rw [wp_bnd]
theorem wp_nil {P : List D → MS → Prop} : wp (mNil env) S P E = P [] S := propext Iff.rfl
theorem wp_cons {a : ME} {r : MA} {P : List D → MS → Prop} : wp (mCons a r env) S P E = wp (a env) S (fun x S1 => wp (r env) S1 (fun xs S2 => P (x :: xs) S2) E) E := by
  unfold mCons
  rw [wp_bnd]
  congr 1
  funext x S1
  rw [wp_bnd] <;> rfl
theorem wp_tup {a : MA} : wp (mTup a env) S P E = wp (a env) S (fun xs S1 => wp (mkT xs) S1 P E) E := by
  unfold mTup
  rw [wp_bnd]
theorem wp_lst {a : MA} : wp (mLst a env) S P E = wp (a env) S (fun xs S1 => wp (mkL xs) S1 P E) E := by
  unfold mLst
  rw [wp_bnd]
theorem wp_obj {a : MA} : wp (mObj a env) S P E = wp (a env) S (fun xs S1 => wp (mkO xs) S1 P E) E := by
  unfold mObj
  rw [wp_bnd]
theorem wp_oNone {P : Option Int → MS → Prop} : wp (oNone env) S P E = P none S := propext Iff.rfl
def intO (P : Option Int → MS → Prop) : D → MS → Prop
  | .int i, S => P (some i) S
  | _, _ => False
theorem intO_int {P : Option Int → MS → Prop} {i : Int} : intO P (.int i) S = P (some i) S := propext Iff.rfl
theorem wp_oSome {m : ME} {P : Option Int → MS → Prop} : wp (oSome m env) S P E = wp (m env) S (intO P) E := by
  unfold oSome
  rw [wp_bnd]
  congr 1
  funext d S'
  cases d <;> rfl
theorem wp_sl {m : ME} {lo hi : MO'} : wp (mSl mk m lo hi env) S P E = wp (m env) S (fun d S1 => wp (lo env) S1 (fun l S2 => wp (hi env) S2 (fun h S3 => wp (dSl mk d l h) S3 P E) E) E) E := by
  unfold mSl
  rw [wp_bnd]
  congr 1
  funext d S1
  rw [wp_bnd]
  congr 1
  funext l S2
  rw [wp_bnd]
theorem g_nm {i : Nat} {d : D} : gNm i d env S = some (env.set i (some d), S) := rfl
theorem g_nil : gsNil [] env S = some (env, S) := rfl
theorem g_cons {g : MG} {r : MGs} {d : D} {ds : List D} {Z : En × MS → Prop} : wpO (gsCons g r (d :: ds) env S) Z = wpO (g d env S) fun z => wpO (r ds z.1 z.2) Z := by
  unfold gsCons wpO
  dsimp only
  cases g d env S <;> rfl
theorem g_tp2 {g : MGs} {a b : D} {Z : En × MS → Prop} : wpO (gTp 2 g (.tup [a, b]) env S) Z = wpO (g [a, b] env S) Z := propext Iff.rfl
theorem g_tp3 {g : MGs} {a b c : D} {Z : En × MS → Prop} : wpO (gTp 3 g (.tup [a, b, c]) env S) Z = wpO (g [a, b, c] env S) Z := propext Iff.rfl
theorem g_tp4 {g : MGs} {a b c d : D} {Z : En × MS → Prop} : wpO (gTp 4 g (.tup [a, b, c, d]) env S) Z = wpO (g [a, b, c, d] env S) Z := propext Iff.rfl
theorem wpS_par' {k l : Nat} {a b : ME} : wpS (mPar k l (mCons a (mCons b mNil)) env S) R = wp (a env) S (fun x S1 => wp (b env) S1 (fun y S2 => R (.nx ((env.set k (some x)).set l (some y)) S2)) (fun e S' => R (.exc e env S'))) (fun e S' => R (.exc e env S')) := by
  rw [wpS_par, wp_cons]
  congr 1
  funext x S1
  rw [wp_cons] <;> rfl
theorem wpS_par3' {k l n : Nat} {a b c : ME} : wpS (mPar3 k l n (mCons a (mCons b (mCons c mNil))) env S) R = wp (a env) S (fun x S1 => wp (b env) S1 (fun y S2 => wp (c env) S2 (fun z S3 => R (.nx (((env.set k (some x)).set l (some y)).set n (some z)) S3)) (fun e S' => R (.exc e env S'))) (fun e S' => R (.exc e env S'))) (fun e S' => R (.exc e env S')) := by
  rw [wpS_par3, wp_cons]
  congr 1
  funext x S1
  rw [wp_cons]
  congr 1
  funext y S2
  rw [wp_cons] <;> rfl
theorem wpO_gIx {mo mi : ME} {d : D} {Z : En × MS → Prop} : wpO (gIx mo mi d env S) Z = wp (mo env) S (fun x S1 => wp (mi env) S1 (fun y S2 => wpO (dSet x y d S2) fun S3 => Z (env, S3)) no) no := by
  unfold gIx wp wpO
  cases mo env S with
  | none => rfl
  | some r =>
    cases r with
    | exc _ _ => rfl
    | ok x S1 =>
      dsimp only
      cases mi env S1 with
      | none => rfl
      | some r =>
        cases r with
        | exc _ _ => rfl
        | ok y S2 =>
          dsimp only
          cases dSet x y d S2 <;> rfl
/-- a place of a thing in the store -/
def ixG (o : Option MO) (i : Int) : Option D := match o with
  | some (.lst ds) => atI ds i
  | some (.ll ds) => atI ds i
  | _ => none
theorem ixAt_objI {n : Nat} {ds : List D} {i : Int} (h : S.get n = some (.lst ds)) : ixAt S (.obj n) (.int i) = atI ds i := by
  unfold ixAt dctOf seqOf lstOf
  dsimp only
  rw [h]
theorem ixAt_L {xs : List D} {i : Int} : ixAt S (.lst xs) (.int i) = atI xs i := rfl
theorem ixAt_T {xs : List D} {i : Int} : ixAt S (.tup xs) (.int i) = atI xs i := rfl
theorem ixAt_dk {n : Nat} {kvs : List (Key × D)} {x : Str} (h : S.get n = some (.dk kvs)) : ixAt S (.obj n) (.str x) = dLook kvs (.inr x) := by
  unfold ixAt dctOf
  dsimp only
  rw [h] <;> rfl
theorem ixAt_dct {kvs : List (Key × D)} {x : Str} : ixAt S (.dct kvs) (.str x) = dLook kvs (.inr x) := rfl
theorem getIAt_dk {n : Nat} {kvs : List (Key × D)} {x : Str} (h : S.get n = some (.dk kvs)) : getIAt S (.obj n) (.str x) = dLook kvs (.inr x) := by
  unfold getIAt dctOf
  dsimp only
  rw [h] <;> rfl
theorem dSet_lst {n : Nat} {ds : List D} {i : Int} {d : D} {j : Nat} (h : S.get n = some (.lst ds)) (hj : ixN ds.length i = some j) : dSet (.obj n) (.int i) d S = some (S.set n (.lst (ds.set j d))) := by
  unfold dSet
  dsimp only
  rw [h]
  dsimp only
  rw [hj]
theorem dSet_dk {n : Nat} {kvs : List (Key × D)} {x : Str} {d : D} (h : S.get n = some (.dk kvs)) (hz : kvs.length < lineN) : dSet (.obj n) (.str x) d S = some (S.set n (.dk (dPutK kvs (.inr x) d))) := by
  unfold dSet
  dsimp only
  rw [h]
  dsimp only [toKey]
  rw [if_pos hz]
theorem at_0 {a : D} {r : List D} : atI (a :: r) 0 = some a := by
  unfold atI ixN
  simp
theorem at_nat {ds : List D} {j : Nat} (h : j < ds.length) : atI ds (j : Int) = some ds[j] := by
  unfold atI
  have e : ixN ds.length (j : Int) = some j := by
    unfold ixN
    rw [if_pos (by omega), if_pos (by omega)]
    simp
  rw [e]
  simp [h]
theorem ins_obj {n : Nat} {c : Cl} {fs : List D} (h : S.get n = some (.ins c fs)) : insOf S c (.obj n) = some (n, fs) := by
  unfold insOf
  dsimp only
  rw [h]
  dsimp only
  rw [if_pos rfl]
theorem stF_obj {n i : Nat} {c : Cl} {fs fs' : List D} {x : D} (h : S.get n = some (.ins c fs)) (hs : setF fs i x = some fs') (hz : fs.length < 1000) : stF c i (.obj n) x S = some (S.set n (.ins c fs')) := by
  unfold stF
  rw [ins_obj h]
  dsimp only
  rw [hs]
  dsimp only
  rw [if_pos hz]
end
/-! loops -/
theorem loop_inv {g : MG} {b : MSt} {ds : List D} {env : En} {S : MS} {R : Fl → Prop} (Inv : Nat → En → MS → Prop) (h0 : Inv 0 env S)
    (hs : ∀ i d env S, ds[i]? = some d → Inv i env S → wpO (g d env S) fun z => wpS (b z.1 z.2) fun fl => match fl with
      | .nx e s => Inv (i + 1) e s
      | .ct e s => Inv (i + 1) e s
      | .bk e s => R (.nx e s)
      | .rt d s => R (.rt d s)
      | .exc x e s => R (.exc x e s))
    (hd : ∀ env S, Inv ds.length env S → R (.nx env S)) : wpS (loopF g b ds env S) R := by
  have key : ∀ (es : List D) (k : Nat) (env : En) (S : MS), ds.drop k = es → k + es.length = ds.length → Inv k env S → wpS (loopF g b es env S) R := by
    intro es
    induction es with
    | nil =>
      intro k env S _ hk hi
      have : k = ds.length := by simpa using hk
      subst this
      exact hd env S hi
    | cons d r ih =>
      intro k env S hk hl hi
      have hd' : ds[k]? = some d := by
        have := congrArg List.head? hk
        rw [List.head?_drop] at this
        simpa using this
      have hr : ds.drop (k + 1) = r := by
        rw [← List.drop_drop, hk]; rfl
      have h := hs k d env S hd' hi
      unfold loopF
      unfold wpO at h
      cases e1 : g d env S with
      | none => rw [e1] at h; exact h.elim
      | some z =>
        obtain ⟨env1, S1⟩ := z
        rw [e1] at h
        dsimp only at h ⊢
        cases e2 : b env1 S1 with
        | none => rw [e2] at h; exact h
        | some fl =>
          rw [e2] at h
          have hl' : k + 1 + r.length = ds.length := by simp at hl; omega
          cases fl with
          | nx e s => exact ih (k + 1) e s hr hl' h
          | ct e s => exact ih (k + 1) e s hr hl' h
          | bk e s => exact h
          | rt d s => exact h
          | exc x e s => exact h
  exact key ds 0 env S rfl (by simp) h0
theorem while_inv {t : MT} {b : MSt} {env : En} {S : MS} {R : Fl → Prop} (Inv : Nat → En → MS → Prop) (n : Nat) (hn : n < fuelN) (h0 : Inv n env S)
    (hs : ∀ n env S, Inv n env S → wp (t env) S (fun c S' => if c = true then wpS (b env S') fun fl => match fl with
      | .nx e s => ∃ m, m < n ∧ Inv m e s
      | .ct e s => ∃ m, m < n ∧ Inv m e s
      | .bk e s => R (.nx e s)
      | .rt d s => R (.rt d s)
      | .exc x e s => R (.exc x e s)
      else R (.nx env S')) (fun e S' => R (.exc e env S'))) : wpS (mWhile t b env S) R := by
  have key : ∀ (f n : Nat) (env : En) (S : MS), n < f → Inv n env S → wpS (loopW t b f env S) R := by
    intro f
    induction f with
    | zero => intro n env S h; omega
    | succ f ih =>
      intro n env S hf hi
      have h := hs n env S hi
      unfold loopW
      unfold wp at h
      cases e1 : t env S with
      | none => rw [e1] at h; exact h
      | some r =>
        rw [e1] at h
        cases r with
        | exc e S1 => exact h
        | ok c S1 =>
          cases c with
          | false => exact h
          | true =>
            dsimp only at h ⊢
            rw [if_pos rfl] at h
            cases e2 : b env S1 with
            | none => rw [e2] at h; exact h
            | some fl =>
              rw [e2] at h
              cases fl with
              | nx e s => obtain ⟨m, hm, q⟩ := h; exact ih m e s (by omega) q
              | ct e s => obtain ⟨m, hm, q⟩ := h; exact ih m e s (by omega) q
              | bk e s => exact h
              | rt d s => exact h
              | exc x e s => exact h
  exact key fuelN n env S hn h0
/-- a comprehension whose turns leave the store -/
theorem lc_pure {g : MG} {tt : MT} {te : ME} {env : En} {S : MS} {f : D → D} : ∀ {ds : List D}, (∀ d ∈ ds, ∃ env1, g d env S = some (env1, S) ∧ tt env1 S = some (.ok true S) ∧ te env1 S = some (.ok (f d) S)) → lcM g tt te env ds S = some (.ok (ds.map f) S)
  | [], _ => rfl
  | d :: r, h => by
    obtain ⟨env1, h1, h2, h3⟩ := h d List.mem_cons_self
    have ih := lc_pure (f := f) (ds := r) fun x hx => h x (List.mem_cons_of_mem _ hx)
    unfold lcM
    rw [h1]
    dsimp only
    rw [h2]
    dsimp only
    rw [h3]
    dsimp only
    rw [ih]
    rfl
/-- a comprehension by an invariant of what was made and of the store -/
theorem lc_inv {g : MG} {tt : MT} {te : ME} {env : En} {ds : List D} {S : MS} {Q : List D → MS → Prop} {E : Exn → MS → Prop} (Inv : Nat → List D → MS → Prop) (h0 : Inv 0 [] S)
    (hs : ∀ i d acc S, ds[i]? = some d → Inv i acc S → wpO (g d env S) fun z => wp (tt z.1) z.2 (fun c S1 => if c = true then wp (te z.1) S1 (fun y S2 => Inv (i + 1) (acc ++ [y]) S2) no else Inv (i + 1) acc S1) no)
    (hd : ∀ acc S, Inv ds.length acc S → Q acc S) : wp (lcM g tt te env ds) S Q E := by
  have key : ∀ (es : List D) (k : Nat) (acc : List D) (S : MS), ds.drop k = es → k + es.length = ds.length → Inv k acc S → ∃ ys S', lcM g tt te env es S = some (.ok ys S') ∧ Q (acc ++ ys) S' := by
    intro es
    induction es with
    | nil =>
      intro k acc S _ hk hi
      have : k = ds.length := by simpa using hk
      subst this
      exact ⟨[], S, rfl, by rw [List.append_nil]; exact hd acc S hi⟩
    | cons d r ih =>
      intro k acc S hk hl hi
      have hd' : ds[k]? = some d := by
        have := congrArg List.head? hk
        rw [List.head?_drop] at this
        simpa using this
      have hr : ds.drop (k + 1) = r := by
        rw [← List.drop_drop, hk]; rfl
      have hl' : k + 1 + r.length = ds.length := by simp at hl; omega
      have h := hs k d acc S hd' hi
      unfold wpO at h
      cases e1 : g d env S with
      | none => rw [e1] at h; exact h.elim
      | some z =>
        obtain ⟨env1, S1⟩ := z
        rw [e1] at h
        dsimp only at h
        obtain ⟨c, S2, e2, h2⟩ := wp_to h
        cases c with
        | false =>
          rw [if_neg Bool.false_ne_true] at h2
          obtain ⟨ys, S', e3, q⟩ := ih (k + 1) acc S2 hr hl' h2
          refine ⟨ys, S', ?_, q⟩
          unfold lcM
          rw [e1]
          dsimp only
          rw [e2]
          exact e3
        | true =>
          rw [if_pos rfl] at h2
          obtain ⟨y, S3, e3, h3⟩ := wp_to h2
          obtain ⟨ys, S', e4, q⟩ := ih (k + 1) (acc ++ [y]) S3 hr hl' h3
          refine ⟨y :: ys, S', ?_, by rw [List.append_assoc] at q; exact q⟩
          unfold lcM
          rw [e1]
          dsimp only
          rw [e2]
          dsimp only
          rw [e3]
          dsimp only
          rw [e4]
  obtain ⟨ys, S', e, q⟩ := key ds 0 [] S rfl (by simp) h0
  rw [wp_of e]
  exact q
end Mi
namespace Mi
open PySem L2
section
variable {α : Type} {S : MS} {Q : α → MS → Prop} {E : Exn → MS → Prop} {env : En} {R : Fl → Prop} {P : D → MS → Prop}
/-! ### what only reads, under a lock or not -/
theorem lkm_pure {path : List Nat} {m : ME} {v : D} (h0 : needLk S env path = false → m env S = some (.ok v S)) (h1 : ∀ n o o', refOf env S path = some n → S.get n = some o → lockOf o = some o' → m env (S.set n o') = some (.ok v (S.set n o'))) :
    mLkM path m env S = some (.ok v S) := by
  unfold mLkM
  by_cases c : needLk S env path = true
  · rw [if_pos c]
    unfold needLk at c
    unfold mLk
    cases e1 : refOf env S path with
    | none => rw [e1] at c; cases c
    | some n =>
      rw [e1] at c
      dsimp only at c ⊢
      cases e2 : S.get n with
      | none => rw [e2] at c; cases c
      | some o =>
        rw [e2] at c
        dsimp only at c ⊢
        cases o with
        | dk kvs =>
          dsimp only
          rw [h1 n _ _ e1 e2 rfl]
          dsimp only
          rw [get_same]
          dsimp only
          rw [set_set, set_id e2]
        | lst ds =>
          dsimp only
          rw [h1 n _ _ e1 e2 rfl]
          dsimp only
          rw [get_same]
          dsimp only
          rw [set_set, set_id e2]
        | _ => cases c
  · rw [if_neg c]
    exact h0 (by simpa using c)
theorem need_no {i : Nat} {d : D} {o : MO} {n : Nat} (he : env[i]? = some (some (.obj n))) (ho : S.get n = some o) (c : needLk S env [i] = false) : lockOf o = none := by
  unfold needLk refOf at c
  dsimp only at c
  rw [he] at c
  dsimp only at c
  rw [ho] at c
  dsimp only at c
  cases e : lockOf o with
  | none => rfl
  | some _ => rw [e] at c; cases c
theorem ref_i {i : Nat} {d : D} {n : Nat} (he : env[i]? = some (some d)) (h : refOf env S [i] = some n) : d = .obj n := by
  unfold refOf at h
  dsimp only at h
  rw [he] at h
  cases d <;> first | (cases h; done) | (cases h; rfl)
/-- what is read through a lock is what stood there -/
theorem it_no {i : Nat} {d : D} {ds : List D} (he : env[i]? = some (some d)) (hl : seqOf S d = some ds) (c : needLk S env [i] = false) : itAny S d = some ds := by
  cases d with
  | obj n =>
    have hl' : lstOf S (.obj n) = some ds := hl
    unfold lstOf at hl'
    unfold itAny
    dsimp only at hl' ⊢
    cases e : S.get n with
    | none => rw [e] at hl'; cases hl'
    | some o =>
      rw [e] at hl'
      have := need_no (d := .obj n) he e c
      cases o with
      | lst _ => cases this
      | ll _ => exact hl'
      | _ => cases hl'
  | lst _ => exact hl
  | src _ => exact hl
  | tup _ => exact hl
  | _ => cases hl
theorem it_lk {n : Nat} {o o' : MO} {ds : List D} (hl : seqOf S (.obj n) = some ds) (ho : S.get n = some o) (hk : lockOf o = some o') : itAny (S.set n o') (.obj n) = some ds := by
  have hl' : lstOf S (.obj n) = some ds := hl
  unfold lstOf at hl'
  dsimp only at hl'
  rw [ho] at hl'
  unfold itAny
  dsimp only
  rw [get_same]
  cases o with
  | lst _ => cases hk; exact hl'
  | _ => first | (cases hk; done) | (cases hl'; done)
theorem comp_pure {i j : Nat} {d : D} {ds : List D} {te : ME} {f : D → D} (he : env[i]? = some (some d)) (hl : seqOf S d = some ds) (hz : ds.length ≤ 16777216) (hp : ∀ x ∈ ds, ∀ S', te ((env.set j none).set j (some x)) S' = some (.ok (f x) S')) :
    mLkM [i] (mLc (mIt (mV i)) (gNm j) mYes te [j] mkL) env S = some (.ok (.lst (ds.map f)) S) := by
  have core : ∀ S', itAny S' d = some ds → mLc (mIt (mV i)) (gNm j) mYes te [j] mkL env S' = some (.ok (.lst (ds.map f)) S') := by
    intro S' hi
    have e1 : mIt (mV i) env S' = some (.ok ds S') := by
      unfold mIt
      rw [bnd_ok (m := mV i env) (a := d) (S' := S') (by unfold mV; rw [he])]
      rw [hi]
    unfold mLc
    rw [bnd_ok e1, bnd_ok (lc_pure (f := f) fun x hx => ⟨_, rfl, rfl, hp x hx S'⟩), if_pos (by rw [List.length_map]; exact hz)]
    unfold mkL
    rw [if_pos (by rw [List.length_map]; exact hz)]
  refine lkm_pure (fun c => core S (it_no he hl c)) fun n o o' h1 h2 h3 => core _ ?_
  obtain rfl := ref_i he h1
  exact it_lk hl h2 h3
/-- a loop whose turns leave the store -/
theorem lkfor_pure {i j : Nat} {d : D} {ds : List D} {b : MSt} (Inv : Nat → En → Prop) (he : env[i]? = some (some d)) (hl : seqOf S d = some ds) (h0 : Inv 0 env)
    (hs : ∀ k x env S', ds[k]? = some x → Inv k env → wpS (b (env.set j (some x)) S') fun fl => ∃ e, fl = .nx e S' ∧ Inv (k + 1) e) (hd : ∀ env, Inv ds.length env → R (.nx env S)) :
    wpS (mLkSM [i] (mFor (mIt (mV i)) (gNm j) b) env S) R := by
  have core : ∀ S', itAny S' d = some ds → wpS (mFor (mIt (mV i)) (gNm j) b env S') fun fl => ∃ e, fl = .nx e S' ∧ Inv ds.length e := by
    intro S' hi
    rw [wpS_for, wp_mIt, wp_v, he]
    show wpO (itAny S' d) _
    rw [hi]
    refine loop_inv (fun k e s => s = S' ∧ Inv k e) ⟨rfl, h0⟩ ?_ fun e s ⟨q1, q2⟩ => ⟨e, by rw [q1], q2⟩
    rintro k x e s hx ⟨rfl, hinv⟩
    have z := hs k x e s hx hinv
    show wpS (b (e.set j (some x)) s) _
    unfold wpS at z ⊢
    cases q : b (e.set j (some x)) s with
    | none => rw [q] at z; exact z
    | some fl =>
      rw [q] at z
      obtain ⟨e', rfl, h⟩ := z
      exact ⟨rfl, h⟩
  unfold mLkSM
  by_cases c : needLk S env [i] = true
  · rw [if_pos c]
    unfold needLk at c
    unfold mLkS
    cases e1 : refOf env S [i] with
    | none => rw [e1] at c; cases c
    | some n =>
      rw [e1] at c
      dsimp only at c ⊢
      cases e2 : S.get n with
      | none => rw [e2] at c; cases c
      | some o =>
        rw [e2] at c
        dsimp only at c ⊢
        cases e3 : lockOf o with
        | none => rw [e3] at c; cases c
        | some o' =>
          dsimp only
          obtain rfl := ref_i he e1
          have z := core (S.set n o') (it_lk hl e2 e3)
          unfold wpS at z ⊢
          cases q : mFor (mIt (mV i)) (gNm j) b env (S.set n o') with
          | none => rw [q] at z; exact z.elim
          | some fl =>
            rw [q] at z
            obtain ⟨e', rfl, h⟩ := z
            have hu : unS n (S.set n o') = some S := by
              unfold unS
              rw [get_same]
              dsimp only
              cases o with
              | lst _ => cases e3; dsimp only [unlockOf]; rw [set_set, set_id e2]
              | dk _ => cases e3; dsimp only [unlockOf]; rw [set_set, set_id e2]
              | _ => cases e3
            dsimp only
            rw [hu]
            exact hd e' h
  · rw [if_neg c]
    have z := core S (it_no he hl (by simpa using c))
    unfold wpS at z ⊢
    cases q : mFor (mIt (mV i)) (gNm j) b env S with
    | none => rw [q] at z; exact z
    | some fl =>
      rw [q] at z
      obtain ⟨e', rfl, h⟩ := z
      exact hd e' h
theorem blsOf_map {ds : List D} {f : D → D} {g : D → Bool} (h : ∀ d ∈ ds, f d = .bl (g d)) : blsOf (ds.map f) = some (ds.map g) := by
  induction ds with
  | nil => rfl
  | cons d r ih =>
    rw [List.map_cons, h d List.mem_cons_self]
    show (blsOf (r.map f)).map (g d :: ·) = _
    rw [ih fun x hx => h x (List.mem_cons_of_mem _ hx)] <;> rfl
theorem x_all {ds : List D} {bs : List Bool} (h : blsOf ds = some bs) : wp (dAll (.lst ds)) S P E = P (.bl (bs.all id)) S := by
  unfold dAll dBls wp
  dsimp only [lstOf]
  rw [h]
theorem x_any {ds : List D} {bs : List Bool} (h : blsOf ds = some bs) : wp (dAny (.lst ds)) S P E = P (.bl (bs.any id)) S := by
  unfold dAny dBls wp
  dsimp only [lstOf]
  rw [h]
end
end Mi
/-! MiR: the words that every law brings: its draws, its comparison. -/
namespace Mi
open PySem L2
section
variable {S : MS} {Q : D → MS → Prop} {E : Exn → MS → Prop} {R : Fl → Prop}
theorem at4 {a b c d : D} : atI [a, b, c, d] 0 = some a ∧ atI [a, b, c, d] 1 = some b ∧ atI [a, b, c, d] 2 = some c ∧ atI [a, b, c, d] 3 = some d := ⟨rfl, rfl, rfl, rfl⟩
theorem ds2 {n : Nat} {a b c e d : D} (h : S.get n = some (.lst [a, b, c, e])) : dSet (.obj n) (.int 2) d S = some (S.set n (.lst [a, b, d, e])) := dSet_lst (j := 2) h rfl
theorem ds3 {n : Nat} {a b c e d : D} (h : S.get n = some (.lst [a, b, c, e])) : dSet (.obj n) (.int 3) d S = some (S.set n (.lst [a, b, c, d])) := dSet_lst (j := 3) h rfl
def bDraws : MSt :=
  (mRet (mObj (mCons (mFn (d1 (dList mkL)) (mCons (mV 0) mNil)) (mCons (mK (.int 0)) (mCons (mK (.int 0)) (mCons (mK (.int 1)) mNil))))))
def mDraws : List D → M D := runB 1 1 bDraws
def bDraw : MSt :=
  (mSeq (mIfS (mAnd (mB (mOp dEq (mOp dIx (mV 0) (mK (.int 2))) (mK (.int 0)))) (mB (mOp dLt (mOp dIx (mV 0) (mK (.int 1))) (mFn (d1 dLen) (mCons (mOp dIx (mV 0) (mK (.int 0))) mNil))))) (mSeq (mAsg (mOp dIx (mOp dIx (mV 0) (mK (.int 0))) (mOp dIx (mV 0) (mK (.int 1)))) (gNm 2))
  (mSeq (mAsg (mOp (dAdd mkL) (mOp dIx (mV 0) (mK (.int 1))) (mK (.int 1))) (gIx (mV 0) (mK (.int 1))))
  (mSeq (mIfS (mB (mOp dGe (mV 2) (mOp dPow (mK (.int 10)) (mK (.int 18))))) (mAsg (mV 2) (gIx (mV 0) (mK (.int 2)))) mNx)
  (mAsg (mOp dMod (mFn (d1 dInt) (mCons (mOp (dAdd mkL) (mOp (dAdd mkL) (mOp dMul (mOp dIx (mV 0) (mK (.int 3))) (mK (.int 48271))) (mV 2)) (mK (.int 13))) mNil)) (mK (.int 2147483647))) (gIx (mV 0) (mK (.int 3))))))) mNx)
  (mSeq (mIfS (mB (mOp dGt (mOp dIx (mV 0) (mK (.int 2))) (mK (.int 0)))) (mSeq (mAsg (mOp dMod (mFn (d1 dInt) (mCons (mOp dIx (mV 0) (mK (.int 2))) mNil)) (mV 1)) (gNm 3))
  (mSeq (mAsg (mOp dDiv (mOp dIx (mV 0) (mK (.int 2))) (mV 1)) (gIx (mV 0) (mK (.int 2))))
  (mRet (mV 3)))) mNx)
  (mSeq (mAsg (mOp dMod (mFn (d1 dInt) (mCons (mOp (dAdd mkL) (mOp dMul (mOp dIx (mV 0) (mK (.int 3))) (mK (.int 69621))) (mK (.int 7))) mNil)) (mK (.int 2147483629))) (gIx (mV 0) (mK (.int 3))))
  (mRet (mOp dMod (mFn (d1 dInt) (mCons (mOp dDiv (mOp dIx (mV 0) (mK (.int 3))) (mK (.int 11))) mNil)) (mV 1))))))
def mDraw : List D → M D := runB 4 2 bDraw
/-- what the draws' list holds -/
structure DrL (ds : List D) : Prop where
  ex : ∃ (ns : List Int) (i b r : Int), ds = [.lst (ns.map D.int), .int i, .int b, .int r] ∧ 0 ≤ i ∧ 0 ≤ b ∧ 0 ≤ r ∧ r < 2147483648
def DrO (S : MS) (n : Nat) : Prop := ∃ ds, S.get n = some (.lst ds) ∧ DrL ds
/-- only n was changed, and draws still stand there -/
structure Dr (n : Nat) (S S' : MS) : Prop where
  dr : DrO S' n
  nx : S'.nx = S.nx
  ne : ∀ k, k ≠ n → S'.get k = S.get k
theorem Dr.of_set {n : Nat} {o : MO} {S S' : MS} (h : Dr n (S.set n o) S') : Dr n S S' := ⟨h.dr, h.nx, fun k hk => (h.ne k hk).trans (get_ne hk)⟩
theorem Dr.trans {n : Nat} {S1 S2 S3 : MS} (a : Dr n S1 S2) (b : Dr n S2 S3) : Dr n S1 S3 := ⟨b.dr, b.nx.trans a.nx, fun k hk => (b.ne k hk).trans (a.ne k hk)⟩
theorem Dr.rfl' {n : Nat} {S : MS} (h : DrO S n) : Dr n S S := ⟨h, rfl, fun _ _ => rfl⟩
theorem dPowC_10 : dPowC 10 18 = true := by decide
theorem mul_small {i j : Int} (h : -(2 ^ 64) < j) (h2 : j < 2 ^ 64) : dMulC i j = true := by
  unfold dMulC
  simp only [Bool.or_eq_true, Bool.and_eq_true, decide_eq_true_eq]
  exact .inr ⟨h, h2⟩
theorem second {n : Nat} {lim i b r : Int} {ns : List Int} {x2 : Option D} (h : S.get n = some (.lst [.lst (ns.map D.int), .int i, .int b, .int r])) (h0 : 0 < lim) (h1 : lim < 1073741824) (hi : 0 ≤ i) (hb : 0 ≤ b) (hr : 0 ≤ r) (hr2 : r < 2147483648)
    (k : ∀ v S', 0 ≤ v → v < lim → Dr n S S' → Q (.int v) S') : wpS (mSeq (mIfS (mB (mOp dGt (mOp dIx (mV 0) (mK (.int 2))) (mK (.int 0)))) (mSeq (mAsg (mOp dMod (mFn (d1 dInt) (mCons (mOp dIx (mV 0) (mK (.int 2))) mNil)) (mV 1)) (gNm 3))
  (mSeq (mAsg (mOp dDiv (mOp dIx (mV 0) (mK (.int 2))) (mV 1)) (gIx (mV 0) (mK (.int 2))))
  (mRet (mV 3)))) mNx)
  (mSeq (mAsg (mOp dMod (mFn (d1 dInt) (mCons (mOp (dAdd mkL) (mOp dMul (mOp dIx (mV 0) (mK (.int 3))) (mK (.int 69621))) (mK (.int 7))) mNil)) (mK (.int 2147483629))) (gIx (mV 0) (mK (.int 3))))
  (mRet (mOp dMod (mFn (d1 dInt) (mCons (mOp dDiv (mOp dIx (mV 0) (mK (.int 3))) (mK (.int 11))) mNil)) (mV 1)))) [some (.obj n), some (.int lim), x2, none] S) (fin Q E) := by
  simp only [wpS_seq, wpS_gNm, wpS_asg, wpS_ifS, wpS_drop, wpS_ret, wpS_retN, wpS_stF, wpS_augF, wpS_augI, wpS_augV, wpS_par', wpS_par3', wpS_some, wpS_mNx, wpS_mCt, wpS_mBk, kont_rt, kont_ct, kont_bk, fin_rt, fin_nx, wp_mK, wp_v, vO_some, wp_ret, wp_bnd, wp_op, wp_op1, wp_call, wp_fn, wp_cons, wp_nil, wp_tup, wp_lst, wp_obj, wp_oNone, wp_oSome, intO_int, wp_sl, wp_mIf, wp_mAnd, wp_mOr, wp_mNot, wp_mB, wp_mAndV, wp_mOrV, wp_mNotV, wp_mChain, wp_mTru, isBl_bl, truO_some, x_addI, x_addJ, x_sub, x_mod, x_div, x_mul, x_pow, x_shl, x_shr, x_band, x_bor, x_bxor, x_lt, x_le, x_gt, x_ge, x_neg, x_eqI, x_neI, x_eqS, x_neS, x_isN, x_isNN, x_int, x_abs, x_max2, x_min2, x_d1, x_d2, x_mkL, x_mkT, x_mkO, x_mkD, x_mkDo, x_ix, ixO_some, x_len, lenO_some, x_list, wpO_some, x_slT, x_slL, x_addLL, x_addTT, blO_some, x_isi, wp_isiT, x_fld, x_getI, wp_mMeth, wp_mMake, wp_mMt, wp_mLc, wp_mIt, wp_range1, wp_range2, wp_range3, wpS_for, isi_non_bool, isi_non_int, isi_non_str, isi_non_list, isi_non_tuple, isi_non_dict, isi_bl_bool, isi_bl_int, isi_bl_str, isi_bl_list, isi_bl_tuple, isi_bl_dict, isi_int_bool, isi_int_int, isi_int_str, isi_int_list, isi_int_tuple, isi_int_dict, isi_str_bool, isi_str_int, isi_str_str, isi_str_list, isi_str_tuple, isi_str_dict, isi_lst_bool, isi_lst_int, isi_lst_str, isi_lst_list, isi_lst_tuple, isi_lst_dict, isi_src_bool, isi_src_int, isi_src_str, isi_src_list, isi_src_tuple, isi_src_dict, isi_tup_bool, isi_tup_int, isi_tup_str, isi_tup_list, isi_tup_tuple, isi_tup_dict, isi_dct_bool, isi_dct_int, isi_dct_str, isi_dct_list, isi_dct_tuple, isi_dct_dict, g_nm, g_tp2, g_tp3, g_tp4, g_nil, g_cons, List.getElem?_cons_succ, List.getElem?_cons_zero, List.set_cons_succ, List.set_cons_zero, truD, ixAt_objI h, at4, decide_eq_true_eq]
  by_cases c : 0 < b
  · rw [if_pos c]
    refine ⟨h0, ?_⟩
    refine kont_nx ?_
    simp only [wpS_seq, wpS_gNm, wpS_asg, wpS_ifS, wpS_drop, wpS_ret, wpS_retN, wpS_stF, wpS_augF, wpS_augI, wpS_augV, wpS_par', wpS_par3', wpS_some, wpS_mNx, wpS_mCt, wpS_mBk, kont_rt, kont_ct, kont_bk, fin_rt, fin_nx, wp_mK, wp_v, vO_some, wp_ret, wp_bnd, wp_op, wp_op1, wp_call, wp_fn, wp_cons, wp_nil, wp_tup, wp_lst, wp_obj, wp_oNone, wp_oSome, intO_int, wp_sl, wp_mIf, wp_mAnd, wp_mOr, wp_mNot, wp_mB, wp_mAndV, wp_mOrV, wp_mNotV, wp_mChain, wp_mTru, isBl_bl, truO_some, x_addI, x_addJ, x_sub, x_mod, x_div, x_mul, x_pow, x_shl, x_shr, x_band, x_bor, x_bxor, x_lt, x_le, x_gt, x_ge, x_neg, x_eqI, x_neI, x_eqS, x_neS, x_isN, x_isNN, x_int, x_abs, x_max2, x_min2, x_d1, x_d2, x_mkL, x_mkT, x_mkO, x_mkD, x_mkDo, x_ix, ixO_some, x_len, lenO_some, x_list, wpO_some, x_slT, x_slL, x_addLL, x_addTT, blO_some, x_isi, wp_isiT, x_fld, x_getI, wp_mMeth, wp_mMake, wp_mMt, wp_mLc, wp_mIt, wp_range1, wp_range2, wp_range3, wpS_for, isi_non_bool, isi_non_int, isi_non_str, isi_non_list, isi_non_tuple, isi_non_dict, isi_bl_bool, isi_bl_int, isi_bl_str, isi_bl_list, isi_bl_tuple, isi_bl_dict, isi_int_bool, isi_int_int, isi_int_str, isi_int_list, isi_int_tuple, isi_int_dict, isi_str_bool, isi_str_int, isi_str_str, isi_str_list, isi_str_tuple, isi_str_dict, isi_lst_bool, isi_lst_int, isi_lst_str, isi_lst_list, isi_lst_tuple, isi_lst_dict, isi_src_bool, isi_src_int, isi_src_str, isi_src_list, isi_src_tuple, isi_src_dict, isi_tup_bool, isi_tup_int, isi_tup_str, isi_tup_list, isi_tup_tuple, isi_tup_dict, isi_dct_bool, isi_dct_int, isi_dct_str, isi_dct_list, isi_dct_tuple, isi_dct_dict, g_nm, g_tp2, g_tp3, g_tp4, g_nil, g_cons, List.getElem?_cons_succ, List.getElem?_cons_zero, List.set_cons_succ, List.set_cons_zero, truD, ixAt_objI h, at4, wpO_gIx, dSet_lst (i := 2) (j := 2) h rfl, List.set_cons_succ, List.set_cons_zero]
    refine ⟨⟨h0, h1⟩, kont_nx ?_⟩
    simp only [wpS_seq, wpS_gNm, wpS_asg, wpS_ifS, wpS_drop, wpS_ret, wpS_retN, wpS_stF, wpS_augF, wpS_augI, wpS_augV, wpS_par', wpS_par3', wpS_some, wpS_mNx, wpS_mCt, wpS_mBk, kont_rt, kont_ct, kont_bk, fin_rt, fin_nx, wp_mK, wp_v, vO_some, wp_ret, wp_bnd, wp_op, wp_op1, wp_call, wp_fn, wp_cons, wp_nil, wp_tup, wp_lst, wp_obj, wp_oNone, wp_oSome, intO_int, wp_sl, wp_mIf, wp_mAnd, wp_mOr, wp_mNot, wp_mB, wp_mAndV, wp_mOrV, wp_mNotV, wp_mChain, wp_mTru, isBl_bl, truO_some, x_addI, x_addJ, x_sub, x_mod, x_div, x_mul, x_pow, x_shl, x_shr, x_band, x_bor, x_bxor, x_lt, x_le, x_gt, x_ge, x_neg, x_eqI, x_neI, x_eqS, x_neS, x_isN, x_isNN, x_int, x_abs, x_max2, x_min2, x_d1, x_d2, x_mkL, x_mkT, x_mkO, x_mkD, x_mkDo, x_ix, ixO_some, x_len, lenO_some, x_list, wpO_some, x_slT, x_slL, x_addLL, x_addTT, blO_some, x_isi, wp_isiT, x_fld, x_getI, wp_mMeth, wp_mMake, wp_mMt, wp_mLc, wp_mIt, wp_range1, wp_range2, wp_range3, wpS_for, isi_non_bool, isi_non_int, isi_non_str, isi_non_list, isi_non_tuple, isi_non_dict, isi_bl_bool, isi_bl_int, isi_bl_str, isi_bl_list, isi_bl_tuple, isi_bl_dict, isi_int_bool, isi_int_int, isi_int_str, isi_int_list, isi_int_tuple, isi_int_dict, isi_str_bool, isi_str_int, isi_str_str, isi_str_list, isi_str_tuple, isi_str_dict, isi_lst_bool, isi_lst_int, isi_lst_str, isi_lst_list, isi_lst_tuple, isi_lst_dict, isi_src_bool, isi_src_int, isi_src_str, isi_src_list, isi_src_tuple, isi_src_dict, isi_tup_bool, isi_tup_int, isi_tup_str, isi_tup_list, isi_tup_tuple, isi_tup_dict, isi_dct_bool, isi_dct_int, isi_dct_str, isi_dct_list, isi_dct_tuple, isi_dct_dict, g_nm, g_tp2, g_tp3, g_tp4, g_nil, g_cons, List.getElem?_cons_succ, List.getElem?_cons_zero, List.set_cons_succ, List.set_cons_zero, truD]
    refine k _ _ (Int.emod_nonneg _ (by omega)) (Int.emod_lt_of_pos _ h0) ⟨⟨_, get_same, ⟨ns, i, b / lim, r, rfl, hi, Int.ediv_nonneg hb (by omega), hr, hr2⟩⟩, rfl, fun k hk => get_ne hk⟩
  · rw [if_neg c]
    refine kont_nx ?_
    simp only [wpS_seq, wpS_gNm, wpS_asg, wpS_ifS, wpS_drop, wpS_ret, wpS_retN, wpS_stF, wpS_augF, wpS_augI, wpS_augV, wpS_par', wpS_par3', wpS_some, wpS_mNx, wpS_mCt, wpS_mBk, kont_rt, kont_ct, kont_bk, fin_rt, fin_nx, wp_mK, wp_v, vO_some, wp_ret, wp_bnd, wp_op, wp_op1, wp_call, wp_fn, wp_cons, wp_nil, wp_tup, wp_lst, wp_obj, wp_oNone, wp_oSome, intO_int, wp_sl, wp_mIf, wp_mAnd, wp_mOr, wp_mNot, wp_mB, wp_mAndV, wp_mOrV, wp_mNotV, wp_mChain, wp_mTru, isBl_bl, truO_some, x_addI, x_addJ, x_sub, x_mod, x_div, x_mul, x_pow, x_shl, x_shr, x_band, x_bor, x_bxor, x_lt, x_le, x_gt, x_ge, x_neg, x_eqI, x_neI, x_eqS, x_neS, x_isN, x_isNN, x_int, x_abs, x_max2, x_min2, x_d1, x_d2, x_mkL, x_mkT, x_mkO, x_mkD, x_mkDo, x_ix, ixO_some, x_len, lenO_some, x_list, wpO_some, x_slT, x_slL, x_addLL, x_addTT, blO_some, x_isi, wp_isiT, x_fld, x_getI, wp_mMeth, wp_mMake, wp_mMt, wp_mLc, wp_mIt, wp_range1, wp_range2, wp_range3, wpS_for, isi_non_bool, isi_non_int, isi_non_str, isi_non_list, isi_non_tuple, isi_non_dict, isi_bl_bool, isi_bl_int, isi_bl_str, isi_bl_list, isi_bl_tuple, isi_bl_dict, isi_int_bool, isi_int_int, isi_int_str, isi_int_list, isi_int_tuple, isi_int_dict, isi_str_bool, isi_str_int, isi_str_str, isi_str_list, isi_str_tuple, isi_str_dict, isi_lst_bool, isi_lst_int, isi_lst_str, isi_lst_list, isi_lst_tuple, isi_lst_dict, isi_src_bool, isi_src_int, isi_src_str, isi_src_list, isi_src_tuple, isi_src_dict, isi_tup_bool, isi_tup_int, isi_tup_str, isi_tup_list, isi_tup_tuple, isi_tup_dict, isi_dct_bool, isi_dct_int, isi_dct_str, isi_dct_list, isi_dct_tuple, isi_dct_dict, g_nm, g_tp2, g_tp3, g_tp4, g_nil, g_cons, List.getElem?_cons_succ, List.getElem?_cons_zero, List.set_cons_succ, List.set_cons_zero, truD, ixAt_objI h, at4, wpO_gIx, dSet_lst (i := 3) (j := 3) h rfl, List.set_cons_succ, List.set_cons_zero]
    refine ⟨mul_small (by decide) (by decide), by decide, kont_nx ?_⟩
    · simp only [wpS_seq, wpS_gNm, wpS_asg, wpS_ifS, wpS_drop, wpS_ret, wpS_retN, wpS_stF, wpS_augF, wpS_augI, wpS_augV, wpS_par', wpS_par3', wpS_some, wpS_mNx, wpS_mCt, wpS_mBk, kont_rt, kont_ct, kont_bk, fin_rt, fin_nx, wp_mK, wp_v, vO_some, wp_ret, wp_bnd, wp_op, wp_op1, wp_call, wp_fn, wp_cons, wp_nil, wp_tup, wp_lst, wp_obj, wp_oNone, wp_oSome, intO_int, wp_sl, wp_mIf, wp_mAnd, wp_mOr, wp_mNot, wp_mB, wp_mAndV, wp_mOrV, wp_mNotV, wp_mChain, wp_mTru, isBl_bl, truO_some, x_addI, x_addJ, x_sub, x_mod, x_div, x_mul, x_pow, x_shl, x_shr, x_band, x_bor, x_bxor, x_lt, x_le, x_gt, x_ge, x_neg, x_eqI, x_neI, x_eqS, x_neS, x_isN, x_isNN, x_int, x_abs, x_max2, x_min2, x_d1, x_d2, x_mkL, x_mkT, x_mkO, x_mkD, x_mkDo, x_ix, ixO_some, x_len, lenO_some, x_list, wpO_some, x_slT, x_slL, x_addLL, x_addTT, blO_some, x_isi, wp_isiT, x_fld, x_getI, wp_mMeth, wp_mMake, wp_mMt, wp_mLc, wp_mIt, wp_range1, wp_range2, wp_range3, wpS_for, isi_non_bool, isi_non_int, isi_non_str, isi_non_list, isi_non_tuple, isi_non_dict, isi_bl_bool, isi_bl_int, isi_bl_str, isi_bl_list, isi_bl_tuple, isi_bl_dict, isi_int_bool, isi_int_int, isi_int_str, isi_int_list, isi_int_tuple, isi_int_dict, isi_str_bool, isi_str_int, isi_str_str, isi_str_list, isi_str_tuple, isi_str_dict, isi_lst_bool, isi_lst_int, isi_lst_str, isi_lst_list, isi_lst_tuple, isi_lst_dict, isi_src_bool, isi_src_int, isi_src_str, isi_src_list, isi_src_tuple, isi_src_dict, isi_tup_bool, isi_tup_int, isi_tup_str, isi_tup_list, isi_tup_tuple, isi_tup_dict, isi_dct_bool, isi_dct_int, isi_dct_str, isi_dct_list, isi_dct_tuple, isi_dct_dict, g_nm, g_tp2, g_tp3, g_tp4, g_nil, g_cons, List.getElem?_cons_succ, List.getElem?_cons_zero, List.set_cons_succ, List.set_cons_zero, truD, ixAt_objI get_same, at4]
      have q1 : 0 ≤ (r * 69621 + 7) % 2147483629 := Int.emod_nonneg _ (by decide)
      have q2 : (r * 69621 + 7) % 2147483629 < 2147483629 := Int.emod_lt_of_pos _ (by decide)
      refine ⟨⟨by decide, by decide⟩, h0, ?_⟩
      exact k _ _ (Int.emod_nonneg _ (by omega)) (Int.emod_lt_of_pos _ h0) ⟨⟨_, get_same, ⟨ns, i, b, _, rfl, hi, hb, q1, by omega⟩⟩, rfl, fun k hk => get_ne hk⟩
theorem draw_at {n : Nat} {lim : Int} (h : DrO S n) (h0 : 0 < lim) (h1 : lim < 1073741824) (k : ∀ v S', 0 ≤ v → v < lim → Dr n S S' → Q (.int v) S') : wp (mDraw [.obj n, .int lim]) S Q E := by
  obtain ⟨_, h, ns, i, b, r, rfl, hi, hb, hr, hr2⟩ := h
  have e : wp (mDraw [.obj n, .int lim]) S Q E = wpS (bDraw [some (.obj n), some (.int lim), none, none] S) (fin Q E) := wp_runB (ds := [.obj n, .int lim]) rfl
  rw [e]
  unfold bDraw
  simp only [wpS_seq, wpS_gNm, wpS_asg, wpS_ifS, wpS_drop, wpS_ret, wpS_retN, wpS_stF, wpS_augF, wpS_augI, wpS_augV, wpS_par', wpS_par3', wpS_some, wpS_mNx, wpS_mCt, wpS_mBk, kont_rt, kont_ct, kont_bk, fin_rt, fin_nx, wp_mK, wp_v, vO_some, wp_ret, wp_bnd, wp_op, wp_op1, wp_call, wp_fn, wp_cons, wp_nil, wp_tup, wp_lst, wp_obj, wp_oNone, wp_oSome, intO_int, wp_sl, wp_mIf, wp_mAnd, wp_mOr, wp_mNot, wp_mB, wp_mAndV, wp_mOrV, wp_mNotV, wp_mChain, wp_mTru, isBl_bl, truO_some, x_addI, x_addJ, x_sub, x_mod, x_div, x_mul, x_pow, x_shl, x_shr, x_band, x_bor, x_bxor, x_lt, x_le, x_gt, x_ge, x_neg, x_eqI, x_neI, x_eqS, x_neS, x_isN, x_isNN, x_int, x_abs, x_max2, x_min2, x_d1, x_d2, x_mkL, x_mkT, x_mkO, x_mkD, x_mkDo, x_ix, ixO_some, x_len, lenO_some, x_list, wpO_some, x_slT, x_slL, x_addLL, x_addTT, blO_some, x_isi, wp_isiT, x_fld, x_getI, wp_mMeth, wp_mMake, wp_mMt, wp_mLc, wp_mIt, wp_range1, wp_range2, wp_range3, wpS_for, isi_non_bool, isi_non_int, isi_non_str, isi_non_list, isi_non_tuple, isi_non_dict, isi_bl_bool, isi_bl_int, isi_bl_str, isi_bl_list, isi_bl_tuple, isi_bl_dict, isi_int_bool, isi_int_int, isi_int_str, isi_int_list, isi_int_tuple, isi_int_dict, isi_str_bool, isi_str_int, isi_str_str, isi_str_list, isi_str_tuple, isi_str_dict, isi_lst_bool, isi_lst_int, isi_lst_str, isi_lst_list, isi_lst_tuple, isi_lst_dict, isi_src_bool, isi_src_int, isi_src_str, isi_src_list, isi_src_tuple, isi_src_dict, isi_tup_bool, isi_tup_int, isi_tup_str, isi_tup_list, isi_tup_tuple, isi_tup_dict, isi_dct_bool, isi_dct_int, isi_dct_str, isi_dct_list, isi_dct_tuple, isi_dct_dict, g_nm, g_tp2, g_tp3, g_tp4, g_nil, g_cons, List.getElem?_cons_succ, List.getElem?_cons_zero, List.set_cons_succ, List.set_cons_zero, truD, ixAt_objI h, at4, decide_eq_true_eq, lenB, dctOf, seqOf, lstOf, List.length_map]
  by_cases c : b = 0
  · rw [if_pos c]
    by_cases c2 : i < (ns.length : Int)
    · rw [if_pos c2]
      obtain ⟨j, rfl⟩ := Int.eq_ofNat_of_zero_le hi
      have hj : j < ns.length := by omega
      simp only [wpS_seq, wpS_gNm, wpS_asg, wpS_ifS, wpS_drop, wpS_ret, wpS_retN, wpS_stF, wpS_augF, wpS_augI, wpS_augV, wpS_par', wpS_par3', wpS_some, wpS_mNx, wpS_mCt, wpS_mBk, kont_rt, kont_ct, kont_bk, fin_rt, fin_nx, wp_mK, wp_v, vO_some, wp_ret, wp_bnd, wp_op, wp_op1, wp_call, wp_fn, wp_cons, wp_nil, wp_tup, wp_lst, wp_obj, wp_oNone, wp_oSome, intO_int, wp_sl, wp_mIf, wp_mAnd, wp_mOr, wp_mNot, wp_mB, wp_mAndV, wp_mOrV, wp_mNotV, wp_mChain, wp_mTru, isBl_bl, truO_some, x_addI, x_addJ, x_sub, x_mod, x_div, x_mul, x_pow, x_shl, x_shr, x_band, x_bor, x_bxor, x_lt, x_le, x_gt, x_ge, x_neg, x_eqI, x_neI, x_eqS, x_neS, x_isN, x_isNN, x_int, x_abs, x_max2, x_min2, x_d1, x_d2, x_mkL, x_mkT, x_mkO, x_mkD, x_mkDo, x_ix, ixO_some, x_len, lenO_some, x_list, wpO_some, x_slT, x_slL, x_addLL, x_addTT, blO_some, x_isi, wp_isiT, x_fld, x_getI, wp_mMeth, wp_mMake, wp_mMt, wp_mLc, wp_mIt, wp_range1, wp_range2, wp_range3, wpS_for, isi_non_bool, isi_non_int, isi_non_str, isi_non_list, isi_non_tuple, isi_non_dict, isi_bl_bool, isi_bl_int, isi_bl_str, isi_bl_list, isi_bl_tuple, isi_bl_dict, isi_int_bool, isi_int_int, isi_int_str, isi_int_list, isi_int_tuple, isi_int_dict, isi_str_bool, isi_str_int, isi_str_str, isi_str_list, isi_str_tuple, isi_str_dict, isi_lst_bool, isi_lst_int, isi_lst_str, isi_lst_list, isi_lst_tuple, isi_lst_dict, isi_src_bool, isi_src_int, isi_src_str, isi_src_list, isi_src_tuple, isi_src_dict, isi_tup_bool, isi_tup_int, isi_tup_str, isi_tup_list, isi_tup_tuple, isi_tup_dict, isi_dct_bool, isi_dct_int, isi_dct_str, isi_dct_list, isi_dct_tuple, isi_dct_dict, g_nm, g_tp2, g_tp3, g_tp4, g_nil, g_cons, List.getElem?_cons_succ, List.getElem?_cons_zero, List.set_cons_succ, List.set_cons_zero, truD, ixAt_L, at_nat (ds := ns.map D.int) (j := j) (by simpa using hj), List.getElem_map]
      refine kont_nx ?_
      simp only [wpS_seq, wpS_gNm, wpS_asg, wpS_ifS, wpS_drop, wpS_ret, wpS_retN, wpS_stF, wpS_augF, wpS_augI, wpS_augV, wpS_par', wpS_par3', wpS_some, wpS_mNx, wpS_mCt, wpS_mBk, kont_rt, kont_ct, kont_bk, fin_rt, fin_nx, wp_mK, wp_v, vO_some, wp_ret, wp_bnd, wp_op, wp_op1, wp_call, wp_fn, wp_cons, wp_nil, wp_tup, wp_lst, wp_obj, wp_oNone, wp_oSome, intO_int, wp_sl, wp_mIf, wp_mAnd, wp_mOr, wp_mNot, wp_mB, wp_mAndV, wp_mOrV, wp_mNotV, wp_mChain, wp_mTru, isBl_bl, truO_some, x_addI, x_addJ, x_sub, x_mod, x_div, x_mul, x_pow, x_shl, x_shr, x_band, x_bor, x_bxor, x_lt, x_le, x_gt, x_ge, x_neg, x_eqI, x_neI, x_eqS, x_neS, x_isN, x_isNN, x_int, x_abs, x_max2, x_min2, x_d1, x_d2, x_mkL, x_mkT, x_mkO, x_mkD, x_mkDo, x_ix, ixO_some, x_len, lenO_some, x_list, wpO_some, x_slT, x_slL, x_addLL, x_addTT, blO_some, x_isi, wp_isiT, x_fld, x_getI, wp_mMeth, wp_mMake, wp_mMt, wp_mLc, wp_mIt, wp_range1, wp_range2, wp_range3, wpS_for, isi_non_bool, isi_non_int, isi_non_str, isi_non_list, isi_non_tuple, isi_non_dict, isi_bl_bool, isi_bl_int, isi_bl_str, isi_bl_list, isi_bl_tuple, isi_bl_dict, isi_int_bool, isi_int_int, isi_int_str, isi_int_list, isi_int_tuple, isi_int_dict, isi_str_bool, isi_str_int, isi_str_str, isi_str_list, isi_str_tuple, isi_str_dict, isi_lst_bool, isi_lst_int, isi_lst_str, isi_lst_list, isi_lst_tuple, isi_lst_dict, isi_src_bool, isi_src_int, isi_src_str, isi_src_list, isi_src_tuple, isi_src_dict, isi_tup_bool, isi_tup_int, isi_tup_str, isi_tup_list, isi_tup_tuple, isi_tup_dict, isi_dct_bool, isi_dct_int, isi_dct_str, isi_dct_list, isi_dct_tuple, isi_dct_dict, g_nm, g_tp2, g_tp3, g_tp4, g_nil, g_cons, List.getElem?_cons_succ, List.getElem?_cons_zero, List.set_cons_succ, List.set_cons_zero, truD, ixAt_objI h, at4, wpO_gIx, dSet_lst (i := 1) (j := 1) h rfl, List.set_cons_succ, List.set_cons_zero]
      refine kont_nx ?_
      generalize ns[j] = cell
      simp only [wpS_seq, wpS_gNm, wpS_asg, wpS_ifS, wpS_drop, wpS_ret, wpS_retN, wpS_stF, wpS_augF, wpS_augI, wpS_augV, wpS_par', wpS_par3', wpS_some, wpS_mNx, wpS_mCt, wpS_mBk, kont_rt, kont_ct, kont_bk, fin_rt, fin_nx, wp_mK, wp_v, vO_some, wp_ret, wp_bnd, wp_op, wp_op1, wp_call, wp_fn, wp_cons, wp_nil, wp_tup, wp_lst, wp_obj, wp_oNone, wp_oSome, intO_int, wp_sl, wp_mIf, wp_mAnd, wp_mOr, wp_mNot, wp_mB, wp_mAndV, wp_mOrV, wp_mNotV, wp_mChain, wp_mTru, isBl_bl, truO_some, x_addI, x_addJ, x_sub, x_mod, x_div, x_mul, x_pow, x_shl, x_shr, x_band, x_bor, x_bxor, x_lt, x_le, x_gt, x_ge, x_neg, x_eqI, x_neI, x_eqS, x_neS, x_isN, x_isNN, x_int, x_abs, x_max2, x_min2, x_d1, x_d2, x_mkL, x_mkT, x_mkO, x_mkD, x_mkDo, x_ix, ixO_some, x_len, lenO_some, x_list, wpO_some, x_slT, x_slL, x_addLL, x_addTT, blO_some, x_isi, wp_isiT, x_fld, x_getI, wp_mMeth, wp_mMake, wp_mMt, wp_mLc, wp_mIt, wp_range1, wp_range2, wp_range3, wpS_for, isi_non_bool, isi_non_int, isi_non_str, isi_non_list, isi_non_tuple, isi_non_dict, isi_bl_bool, isi_bl_int, isi_bl_str, isi_bl_list, isi_bl_tuple, isi_bl_dict, isi_int_bool, isi_int_int, isi_int_str, isi_int_list, isi_int_tuple, isi_int_dict, isi_str_bool, isi_str_int, isi_str_str, isi_str_list, isi_str_tuple, isi_str_dict, isi_lst_bool, isi_lst_int, isi_lst_str, isi_lst_list, isi_lst_tuple, isi_lst_dict, isi_src_bool, isi_src_int, isi_src_str, isi_src_list, isi_src_tuple, isi_src_dict, isi_tup_bool, isi_tup_int, isi_tup_str, isi_tup_list, isi_tup_tuple, isi_tup_dict, isi_dct_bool, isi_dct_int, isi_dct_str, isi_dct_list, isi_dct_tuple, isi_dct_dict, g_nm, g_tp2, g_tp3, g_tp4, g_nil, g_cons, List.getElem?_cons_succ, List.getElem?_cons_zero, List.set_cons_succ, List.set_cons_zero, truD, dPowC_10, decide_eq_true_eq]
      refine ⟨trivial, ?_⟩
      have tail : ∀ (b' : Int), 0 ≤ b' → wpS (mAsg (mOp dMod (mFn (d1 dInt) (mCons (mOp (dAdd mkL) (mOp (dAdd mkL) (mOp dMul (mOp dIx (mV 0) (mK (.int 3))) (mK (.int 48271))) (mV 2)) (mK (.int 13))) mNil)) (mK (.int 2147483647))) (gIx (mV 0) (mK (.int 3))) [some (.obj n), some (.int lim), some (.int cell), none] (S.set n (.lst [.lst (ns.map D.int), .int ((j : Int) + 1), .int b', .int r]))) (kont (mSeq (mIfS (mB (mOp dGt (mOp dIx (mV 0) (mK (.int 2))) (mK (.int 0)))) (mSeq (mAsg (mOp dMod (mFn (d1 dInt) (mCons (mOp dIx (mV 0) (mK (.int 2))) mNil)) (mV 1)) (gNm 3))
  (mSeq (mAsg (mOp dDiv (mOp dIx (mV 0) (mK (.int 2))) (mV 1)) (gIx (mV 0) (mK (.int 2))))
  (mRet (mV 3)))) mNx)
  (mSeq (mAsg (mOp dMod (mFn (d1 dInt) (mCons (mOp (dAdd mkL) (mOp dMul (mOp dIx (mV 0) (mK (.int 3))) (mK (.int 69621))) (mK (.int 7))) mNil)) (mK (.int 2147483629))) (gIx (mV 0) (mK (.int 3))))
  (mRet (mOp dMod (mFn (d1 dInt) (mCons (mOp dDiv (mOp dIx (mV 0) (mK (.int 3))) (mK (.int 11))) mNil)) (mV 1))))) (fin Q E)) := by
        intro b' hb'
        simp only [wpS_seq, wpS_gNm, wpS_asg, wpS_ifS, wpS_drop, wpS_ret, wpS_retN, wpS_stF, wpS_augF, wpS_augI, wpS_augV, wpS_par', wpS_par3', wpS_some, wpS_mNx, wpS_mCt, wpS_mBk, kont_rt, kont_ct, kont_bk, fin_rt, fin_nx, wp_mK, wp_v, vO_some, wp_ret, wp_bnd, wp_op, wp_op1, wp_call, wp_fn, wp_cons, wp_nil, wp_tup, wp_lst, wp_obj, wp_oNone, wp_oSome, intO_int, wp_sl, wp_mIf, wp_mAnd, wp_mOr, wp_mNot, wp_mB, wp_mAndV, wp_mOrV, wp_mNotV, wp_mChain, wp_mTru, isBl_bl, truO_some, x_addI, x_addJ, x_sub, x_mod, x_div, x_mul, x_pow, x_shl, x_shr, x_band, x_bor, x_bxor, x_lt, x_le, x_gt, x_ge, x_neg, x_eqI, x_neI, x_eqS, x_neS, x_isN, x_isNN, x_int, x_abs, x_max2, x_min2, x_d1, x_d2, x_mkL, x_mkT, x_mkO, x_mkD, x_mkDo, x_ix, ixO_some, x_len, lenO_some, x_list, wpO_some, x_slT, x_slL, x_addLL, x_addTT, blO_some, x_isi, wp_isiT, x_fld, x_getI, wp_mMeth, wp_mMake, wp_mMt, wp_mLc, wp_mIt, wp_range1, wp_range2, wp_range3, wpS_for, isi_non_bool, isi_non_int, isi_non_str, isi_non_list, isi_non_tuple, isi_non_dict, isi_bl_bool, isi_bl_int, isi_bl_str, isi_bl_list, isi_bl_tuple, isi_bl_dict, isi_int_bool, isi_int_int, isi_int_str, isi_int_list, isi_int_tuple, isi_int_dict, isi_str_bool, isi_str_int, isi_str_str, isi_str_list, isi_str_tuple, isi_str_dict, isi_lst_bool, isi_lst_int, isi_lst_str, isi_lst_list, isi_lst_tuple, isi_lst_dict, isi_src_bool, isi_src_int, isi_src_str, isi_src_list, isi_src_tuple, isi_src_dict, isi_tup_bool, isi_tup_int, isi_tup_str, isi_tup_list, isi_tup_tuple, isi_tup_dict, isi_dct_bool, isi_dct_int, isi_dct_str, isi_dct_list, isi_dct_tuple, isi_dct_dict, g_nm, g_tp2, g_tp3, g_tp4, g_nil, g_cons, List.getElem?_cons_succ, List.getElem?_cons_zero, List.set_cons_succ, List.set_cons_zero, truD, ixAt_objI get_same, at4, wpO_gIx, ds3 get_same]
        refine ⟨mul_small (by decide) (by decide), by decide, kont_nx ?_⟩
        have q1 : 0 ≤ (r * 48271 + cell + 13) % 2147483647 := Int.emod_nonneg _ (by decide)
        have q2 : (r * 48271 + cell + 13) % 2147483647 < 2147483647 := Int.emod_lt_of_pos _ (by decide)
        exact second get_same h0 h1 (by omega) hb' q1 (by omega) fun v S' a b d => k v S' a b (d.of_set.of_set)
      by_cases c3 : (10 : Int) ^ (18 : Int).toNat ≤ cell
      · rw [if_pos c3]
        simp only [wpS_seq, wpS_gNm, wpS_asg, wpS_ifS, wpS_drop, wpS_ret, wpS_retN, wpS_stF, wpS_augF, wpS_augI, wpS_augV, wpS_par', wpS_par3', wpS_some, wpS_mNx, wpS_mCt, wpS_mBk, kont_rt, kont_ct, kont_bk, fin_rt, fin_nx, wp_mK, wp_v, vO_some, wp_ret, wp_bnd, wp_op, wp_op1, wp_call, wp_fn, wp_cons, wp_nil, wp_tup, wp_lst, wp_obj, wp_oNone, wp_oSome, intO_int, wp_sl, wp_mIf, wp_mAnd, wp_mOr, wp_mNot, wp_mB, wp_mAndV, wp_mOrV, wp_mNotV, wp_mChain, wp_mTru, isBl_bl, truO_some, x_addI, x_addJ, x_sub, x_mod, x_div, x_mul, x_pow, x_shl, x_shr, x_band, x_bor, x_bxor, x_lt, x_le, x_gt, x_ge, x_neg, x_eqI, x_neI, x_eqS, x_neS, x_isN, x_isNN, x_int, x_abs, x_max2, x_min2, x_d1, x_d2, x_mkL, x_mkT, x_mkO, x_mkD, x_mkDo, x_ix, ixO_some, x_len, lenO_some, x_list, wpO_some, x_slT, x_slL, x_addLL, x_addTT, blO_some, x_isi, wp_isiT, x_fld, x_getI, wp_mMeth, wp_mMake, wp_mMt, wp_mLc, wp_mIt, wp_range1, wp_range2, wp_range3, wpS_for, isi_non_bool, isi_non_int, isi_non_str, isi_non_list, isi_non_tuple, isi_non_dict, isi_bl_bool, isi_bl_int, isi_bl_str, isi_bl_list, isi_bl_tuple, isi_bl_dict, isi_int_bool, isi_int_int, isi_int_str, isi_int_list, isi_int_tuple, isi_int_dict, isi_str_bool, isi_str_int, isi_str_str, isi_str_list, isi_str_tuple, isi_str_dict, isi_lst_bool, isi_lst_int, isi_lst_str, isi_lst_list, isi_lst_tuple, isi_lst_dict, isi_src_bool, isi_src_int, isi_src_str, isi_src_list, isi_src_tuple, isi_src_dict, isi_tup_bool, isi_tup_int, isi_tup_str, isi_tup_list, isi_tup_tuple, isi_tup_dict, isi_dct_bool, isi_dct_int, isi_dct_str, isi_dct_list, isi_dct_tuple, isi_dct_dict, g_nm, g_tp2, g_tp3, g_tp4, g_nil, g_cons, List.getElem?_cons_succ, List.getElem?_cons_zero, List.set_cons_succ, List.set_cons_zero, truD, wpO_gIx, ds2 get_same]
        refine kont_nx ?_
        rw [set_set]
        exact tail cell (by have : (0 : Int) < 10 ^ (18 : Int).toNat := by decide
                            omega)
      · rw [if_neg c3]
        exact kont_nx (tail b hb)
    · rw [if_neg c2]
      exact kont_nx (second h h0 h1 hi hb hr hr2 k)
  · rw [if_neg c]
    exact kont_nx (second h h0 h1 hi hb hr hr2 k)
theorem draws_at {ns : List Int} (hz : ns.length ≤ 16777216) (k : ∀ S', DrO S' S.nx → S'.nx = S.nx + 1 → (∀ j, j ≠ S.nx → S'.get j = S.get j) → Q (.obj S.nx) S') : wp (mDraws [.src (ns.map D.int)]) S Q E := by
  have e : wp (mDraws [.src (ns.map D.int)]) S Q E = wpS (bDraws [some (.src (ns.map D.int))] S) (fin Q E) := wp_runB (ds := [.src (ns.map D.int)]) rfl
  rw [e]
  unfold bDraws
  simp only [wpS_seq, wpS_gNm, wpS_asg, wpS_ifS, wpS_drop, wpS_ret, wpS_retN, wpS_stF, wpS_augF, wpS_augI, wpS_augV, wpS_par', wpS_par3', wpS_some, wpS_mNx, wpS_mCt, wpS_mBk, kont_rt, kont_ct, kont_bk, fin_rt, fin_nx, wp_mK, wp_v, vO_some, wp_ret, wp_bnd, wp_op, wp_op1, wp_call, wp_fn, wp_cons, wp_nil, wp_tup, wp_lst, wp_obj, wp_oNone, wp_oSome, intO_int, wp_sl, wp_mIf, wp_mAnd, wp_mOr, wp_mNot, wp_mB, wp_mAndV, wp_mOrV, wp_mNotV, wp_mChain, wp_mTru, isBl_bl, truO_some, x_addI, x_addJ, x_sub, x_mod, x_div, x_mul, x_pow, x_shl, x_shr, x_band, x_bor, x_bxor, x_lt, x_le, x_gt, x_ge, x_neg, x_eqI, x_neI, x_eqS, x_neS, x_isN, x_isNN, x_int, x_abs, x_max2, x_min2, x_d1, x_d2, x_mkL, x_mkT, x_mkO, x_mkD, x_mkDo, x_ix, ixO_some, x_len, lenO_some, x_list, wpO_some, x_slT, x_slL, x_addLL, x_addTT, blO_some, x_isi, wp_isiT, x_fld, x_getI, wp_mMeth, wp_mMake, wp_mMt, wp_mLc, wp_mIt, wp_range1, wp_range2, wp_range3, wpS_for, isi_non_bool, isi_non_int, isi_non_str, isi_non_list, isi_non_tuple, isi_non_dict, isi_bl_bool, isi_bl_int, isi_bl_str, isi_bl_list, isi_bl_tuple, isi_bl_dict, isi_int_bool, isi_int_int, isi_int_str, isi_int_list, isi_int_tuple, isi_int_dict, isi_str_bool, isi_str_int, isi_str_str, isi_str_list, isi_str_tuple, isi_str_dict, isi_lst_bool, isi_lst_int, isi_lst_str, isi_lst_list, isi_lst_tuple, isi_lst_dict, isi_src_bool, isi_src_int, isi_src_str, isi_src_list, isi_src_tuple, isi_src_dict, isi_tup_bool, isi_tup_int, isi_tup_str, isi_tup_list, isi_tup_tuple, isi_tup_dict, isi_dct_bool, isi_dct_int, isi_dct_str, isi_dct_list, isi_dct_tuple, isi_dct_dict, g_nm, g_tp2, g_tp3, g_tp4, g_nil, g_cons, List.getElem?_cons_succ, List.getElem?_cons_zero, List.set_cons_succ, List.set_cons_zero, truD, dctOf, seqOf, lstOf, List.length_map]
  refine ⟨hz, small_of (by simp), k _ ⟨_, if_pos rfl, ns, 0, 0, 1, rfl, by decide, by decide, by decide, by decide⟩ rfl fun j hj => if_neg hj⟩
end
end Mi
/-! MiS: the laws' comparison, where it says yes. -/
namespace Mi
open PySem L2
section
variable {S : MS} {Q : D → MS → Prop} {E : Exn → MS → Prop} {R : Fl → Prop}
def bSame (self : List D → M D) : MSt :=
  (mSeq (mIfS (mB (mOp dIsN (mV 1) (mK .non))) (mRet (mOp dIsN (mV 0) (mK .non))) mNx)
  (mSeq (mIfS (mTru (mFn (d2 dIsi) (mCons (mV 1) (mCons (mK (.ty "bool")) mNil)))) (mRet (mAndV (mFn (d2 dIsi) (mCons (mV 0) (mCons (mK (.ty "bool")) mNil))) (mOp dEq (mV 0) (mV 1)))) mNx)
  (mSeq (mIfS (mTru (mFn (d2 dIsi) (mCons (mV 1) (mCons (mK (.ty "int")) mNil)))) (mRet (mAndV (mFn (d2 dIsi) (mCons (mV 0) (mCons (mK (.ty "int")) mNil))) (mAndV (mNotV (mFn (d2 dIsi) (mCons (mV 0) (mCons (mK (.ty "bool")) mNil)))) (mOp dEq (mV 0) (mV 1))))) mNx)
  (mSeq (mIfS (mTru (mFn (d2 dIsi) (mCons (mV 1) (mCons (mK (.ty "str")) mNil)))) (mRet (mAndV (mFn (d2 dIsi) (mCons (mV 0) (mCons (mK (.ty "str")) mNil))) (mOp dEq (mV 0) (mV 1)))) mNx)
  (mSeq (mIfS (mTru (mFn (d2 dIsi) (mCons (mV 1) (mCons (mK (.ty "dict")) mNil)))) (mSeq (mIfS (mOr (mNot (mTru (mFn (d2 dIsi) (mCons (mV 0) (mCons (mK (.ty "dict")) mNil))))) (mOr (mB (mOp dNe (mFn (d1 dLen) (mCons (mV 0) mNil)) (mFn (d1 dLen) (mCons (mV 1) mNil)))) (mNot (mTru (mFn (d1 dAll) (mCons (mLkM [1] (mLc (mIt (mV 1)) (gNm 3) mYes (mOp dIn (mV 3) (mV 0)) [3] mkL)) mNil)))))) (mRet (mK (.bl false))) mNx)
  (mRet (mFn (d1 dAll) (mCons (mLkM [1] (mLc (mIt (mV 1)) (gNm 3) mYes (mCall self (mCons (mOp dIx (mV 0) (mV 3)) (mCons (mOp dIx (mV 1) (mV 3)) mNil))) [3] mkL)) mNil)))) mNx)
  (mSeq (mIfS (mTru (mFn (d2 dIsi) (mCons (mV 1) (mCons (mK (.ty "list")) mNil)))) (mAsg (mFn (d2 dIsi) (mCons (mV 0) (mCons (mK (.ty "list")) mNil))) (gNm 2)) (mAsg (mFn (d2 dIsi) (mCons (mV 0) (mCons (mK (.ty "tuple")) mNil))) (gNm 2)))
  (mRet (mAndV (mV 2) (mAndV (mOp dEq (mFn (d1 dLen) (mCons (mV 0) mNil)) (mFn (d1 dLen) (mCons (mV 1) mNil))) (mFn (d1 dAll) (mCons (mLc (mRange1 (mCons (mFn (d1 dLen) (mCons (mV 1) mNil)) mNil)) (gNm 4) mYes (mCall self (mCons (mOp dIx (mV 0) (mV 4)) (mCons (mOp dIx (mV 1) (mV 4)) mNil))) [4] mkL) mNil)))))))))))
def mSame : Nat → List D → M D
  | 0 => fun _ => stuck
  | n + 1 => runB 5 2 (bSame (mSame n))
def smS (S : MS) : Nat → D → D → Prop
  | 0, _, _ => False
  | k + 1, x, y => (y = .non ∧ x = .non) ∨ (∃ b, y = .bl b ∧ x = .bl b) ∨ (∃ i, y = .int i ∧ x = .int i) ∨ (∃ z, y = .str z ∧ x = .str z) ∨
    (∃ xs ys, lstOf S y = some ys ∧ lstOf S x = some xs ∧ xs.length = ys.length ∧ ys.length ≤ 16777216 ∧ ∀ (i : Nat) d e, xs[i]? = some d → ys[i]? = some e → smS S k d e) ∨
    (∃ xs ys, y = .tup ys ∧ x = .tup xs ∧ xs.length = ys.length ∧ ys.length ≤ 16777216 ∧ ∀ (i : Nat) d e, xs[i]? = some d → ys[i]? = some e → smS S k d e)
theorem kind_tup {ds : List D} {T : String} : isiO S (.tup ds) T = isiB "tuple" T := rfl
theorem e_same : wp (mSame (n + 1) [x, y]) S Q E = wpS (bSame (mSame n) [some x, some y, none, none, none] S) (fin Q E) := wp_runB (ds := [x, y]) rfl
theorem isN_lst {d : D} {ds : List D} (h : lstOf S d = some ds) : isNon d = false := by
  cases d <;> first | rfl | cases h
theorem seqEnd {k : Nat} {x y : D} {xs ys : List D} (hx : seqOf S x = some xs) (hy : seqOf S y = some ys) (lx : lenB S x = some (xs.length : Int)) (ly : lenB S y = some (ys.length : Int)) (ix : ∀ i, ixAt S x (.int i) = atI xs i) (iy : ∀ i, ixAt S y (.int i) = atI ys i)
    (hl : xs.length = ys.length) (hz : ys.length ≤ 16777216) (h : ∀ (i : Nat) d e, xs[i]? = some d → ys[i]? = some e → mSame k [d, e] S = some (.ok (.bl true) S)) {o3 o4 : Option D} (q : Q (.bl true) S) :
    wpS (mRet (mAndV (mV 2) (mAndV (mOp dEq (mFn (d1 dLen) (mCons (mV 0) mNil)) (mFn (d1 dLen) (mCons (mV 1) mNil))) (mFn (d1 dAll) (mCons (mLc (mRange1 (mCons (mFn (d1 dLen) (mCons (mV 1) mNil)) mNil)) (gNm 4) mYes (mCall (mSame k) (mCons (mOp dIx (mV 0) (mV 4)) (mCons (mOp dIx (mV 1) (mV 4)) mNil))) [4] mkL) mNil)))) [some x, some y, some (.bl true), o3, o4] S) (fin Q E) := by
  simp only [wpS_seq, wpS_gNm, wpS_asg, wpS_ifS, wpS_drop, wpS_ret, wpS_retN, wpS_stF, wpS_augF, wpS_augI, wpS_augV, wpS_par', wpS_par3', wpS_some, wpS_mNx, wpS_mCt, wpS_mBk, kont_rt, kont_ct, kont_bk, fin_rt, fin_nx, wp_mK, wp_v, vO_some, wp_ret, wp_bnd, wp_op, wp_op1, wp_call, wp_fn, wp_cons, wp_nil, wp_tup, wp_lst, wp_obj, wp_oNone, wp_oSome, intO_int, wp_sl, wp_mIf, wp_mAnd, wp_mOr, wp_mNot, wp_mB, wp_mAndV, wp_mOrV, wp_mNotV, wp_mChain, wp_mTru, isBl_bl, truO_some, x_addI, x_addJ, x_sub, x_mod, x_div, x_mul, x_pow, x_shl, x_shr, x_band, x_bor, x_bxor, x_lt, x_le, x_gt, x_ge, x_neg, x_eqI, x_neI, x_eqS, x_neS, x_isN, x_isNN, x_int, x_abs, x_max2, x_min2, x_d1, x_d2, x_mkL, x_mkT, x_mkO, x_mkD, x_mkDo, x_ix, ixO_some, x_len, lenO_some, x_list, wpO_some, x_slT, x_slL, x_addLL, x_addTT, blO_some, x_isi, wp_isiT, x_fld, x_getI, wp_mMeth, wp_mMake, wp_mMt, wp_mLc, wp_mIt, wp_range1, wp_range2, wp_range3, wpS_for, isi_non_bool, isi_non_int, isi_non_str, isi_non_list, isi_non_tuple, isi_non_dict, isi_bl_bool, isi_bl_int, isi_bl_str, isi_bl_list, isi_bl_tuple, isi_bl_dict, isi_int_bool, isi_int_int, isi_int_str, isi_int_list, isi_int_tuple, isi_int_dict, isi_str_bool, isi_str_int, isi_str_str, isi_str_list, isi_str_tuple, isi_str_dict, isi_lst_bool, isi_lst_int, isi_lst_str, isi_lst_list, isi_lst_tuple, isi_lst_dict, isi_src_bool, isi_src_int, isi_src_str, isi_src_list, isi_src_tuple, isi_src_dict, isi_tup_bool, isi_tup_int, isi_tup_str, isi_tup_list, isi_tup_tuple, isi_tup_dict, isi_dct_bool, isi_dct_int, isi_dct_str, isi_dct_list, isi_dct_tuple, isi_dct_dict, g_nm, g_tp2, g_tp3, g_tp4, g_nil, g_cons, List.getElem?_cons_succ, List.getElem?_cons_zero, List.set_cons_succ, List.set_cons_zero, truD, lx, ly, if_true, hl, decide_true]
  have hr : rngD1 [D.int (ys.length : Int)] = some (rngN 0 1 ys.length) := by
    unfold rngD1
    dsimp only
    rw [if_pos (by omega)]
    simp
  simp only [wpS_seq, wpS_gNm, wpS_asg, wpS_ifS, wpS_drop, wpS_ret, wpS_retN, wpS_stF, wpS_augF, wpS_augI, wpS_augV, wpS_par', wpS_par3', wpS_some, wpS_mNx, wpS_mCt, wpS_mBk, kont_rt, kont_ct, kont_bk, fin_rt, fin_nx, wp_mK, wp_v, vO_some, wp_ret, wp_bnd, wp_op, wp_op1, wp_call, wp_fn, wp_cons, wp_nil, wp_tup, wp_lst, wp_obj, wp_oNone, wp_oSome, intO_int, wp_sl, wp_mIf, wp_mAnd, wp_mOr, wp_mNot, wp_mB, wp_mAndV, wp_mOrV, wp_mNotV, wp_mChain, wp_mTru, isBl_bl, truO_some, x_addI, x_addJ, x_sub, x_mod, x_div, x_mul, x_pow, x_shl, x_shr, x_band, x_bor, x_bxor, x_lt, x_le, x_gt, x_ge, x_neg, x_eqI, x_neI, x_eqS, x_neS, x_isN, x_isNN, x_int, x_abs, x_max2, x_min2, x_d1, x_d2, x_mkL, x_mkT, x_mkO, x_mkD, x_mkDo, x_ix, ixO_some, x_len, lenO_some, x_list, wpO_some, x_slT, x_slL, x_addLL, x_addTT, blO_some, x_isi, wp_isiT, x_fld, x_getI, wp_mMeth, wp_mMake, wp_mMt, wp_mLc, wp_mIt, wp_range1, wp_range2, wp_range3, wpS_for, isi_non_bool, isi_non_int, isi_non_str, isi_non_list, isi_non_tuple, isi_non_dict, isi_bl_bool, isi_bl_int, isi_bl_str, isi_bl_list, isi_bl_tuple, isi_bl_dict, isi_int_bool, isi_int_int, isi_int_str, isi_int_list, isi_int_tuple, isi_int_dict, isi_str_bool, isi_str_int, isi_str_str, isi_str_list, isi_str_tuple, isi_str_dict, isi_lst_bool, isi_lst_int, isi_lst_str, isi_lst_list, isi_lst_tuple, isi_lst_dict, isi_src_bool, isi_src_int, isi_src_str, isi_src_list, isi_src_tuple, isi_src_dict, isi_tup_bool, isi_tup_int, isi_tup_str, isi_tup_list, isi_tup_tuple, isi_tup_dict, isi_dct_bool, isi_dct_int, isi_dct_str, isi_dct_list, isi_dct_tuple, isi_dct_dict, g_nm, g_tp2, g_tp3, g_tp4, g_nil, g_cons, List.getElem?_cons_succ, List.getElem?_cons_zero, List.set_cons_succ, List.set_cons_zero, truD, hr]
  have lc := lc_pure (S := S) (env := wipeE [some x, some y, some (.bl true), o3, o4] [4]) (g := gNm 4) (tt := mYes) (te := mCall (mSame k) (mCons (mOp dIx (mV 0) (mV 4)) (mCons (mOp dIx (mV 1) (mV 4)) mNil))) (f := fun _ => .bl true) (ds := rngN 0 1 ys.length) (fun d hd => by
    unfold rngN at hd
    obtain ⟨i, hi, rfl⟩ := List.mem_map.mp hd
    have hi' : i < ys.length := List.mem_range.mp hi
    refine ⟨_, rfl, rfl, ?_⟩
    have hix : i < xs.length := by omega
    have z := h i _ _ (List.getElem?_eq_getElem hix) (List.getElem?_eq_getElem hi')
    have w : wp (mCall (mSame k) (mCons (mOp dIx (mV 0) (mV 4)) (mCons (mOp dIx (mV 1) (mV 4)) mNil)) [some x, some y, some (.bl true), o3, some (.int (0 + (i : Nat) * 1))]) S (fun v S' => v = .bl true ∧ S' = S) no := by
      have e0 : (0 : Int) + (i : Nat) * 1 = (i : Int) := by omega
      rw [e0]
      simp only [wpS_seq, wpS_gNm, wpS_asg, wpS_ifS, wpS_drop, wpS_ret, wpS_retN, wpS_stF, wpS_augF, wpS_augI, wpS_augV, wpS_par', wpS_par3', wpS_some, wpS_mNx, wpS_mCt, wpS_mBk, kont_rt, kont_ct, kont_bk, fin_rt, fin_nx, wp_mK, wp_v, vO_some, wp_ret, wp_bnd, wp_op, wp_op1, wp_call, wp_fn, wp_cons, wp_nil, wp_tup, wp_lst, wp_obj, wp_oNone, wp_oSome, intO_int, wp_sl, wp_mIf, wp_mAnd, wp_mOr, wp_mNot, wp_mB, wp_mAndV, wp_mOrV, wp_mNotV, wp_mChain, wp_mTru, isBl_bl, truO_some, x_addI, x_addJ, x_sub, x_mod, x_div, x_mul, x_pow, x_shl, x_shr, x_band, x_bor, x_bxor, x_lt, x_le, x_gt, x_ge, x_neg, x_eqI, x_neI, x_eqS, x_neS, x_isN, x_isNN, x_int, x_abs, x_max2, x_min2, x_d1, x_d2, x_mkL, x_mkT, x_mkO, x_mkD, x_mkDo, x_ix, ixO_some, x_len, lenO_some, x_list, wpO_some, x_slT, x_slL, x_addLL, x_addTT, blO_some, x_isi, wp_isiT, x_fld, x_getI, wp_mMeth, wp_mMake, wp_mMt, wp_mLc, wp_mIt, wp_range1, wp_range2, wp_range3, wpS_for, isi_non_bool, isi_non_int, isi_non_str, isi_non_list, isi_non_tuple, isi_non_dict, isi_bl_bool, isi_bl_int, isi_bl_str, isi_bl_list, isi_bl_tuple, isi_bl_dict, isi_int_bool, isi_int_int, isi_int_str, isi_int_list, isi_int_tuple, isi_int_dict, isi_str_bool, isi_str_int, isi_str_str, isi_str_list, isi_str_tuple, isi_str_dict, isi_lst_bool, isi_lst_int, isi_lst_str, isi_lst_list, isi_lst_tuple, isi_lst_dict, isi_src_bool, isi_src_int, isi_src_str, isi_src_list, isi_src_tuple, isi_src_dict, isi_tup_bool, isi_tup_int, isi_tup_str, isi_tup_list, isi_tup_tuple, isi_tup_dict, isi_dct_bool, isi_dct_int, isi_dct_str, isi_dct_list, isi_dct_tuple, isi_dct_dict, g_nm, g_tp2, g_tp3, g_tp4, g_nil, g_cons, List.getElem?_cons_succ, List.getElem?_cons_zero, List.set_cons_succ, List.set_cons_zero, truD, ix, iy, at_nat hix, at_nat hi']
      rw [wp_of z]
      exact ⟨rfl, rfl⟩
    obtain ⟨v, S', e, rfl, rfl⟩ := wp_to w
    exact e)
  rw [wp_of lc]
  have hlen : (rngN 0 1 ys.length).length = ys.length := by unfold rngN; simp
  simp only [wpS_seq, wpS_gNm, wpS_asg, wpS_ifS, wpS_drop, wpS_ret, wpS_retN, wpS_stF, wpS_augF, wpS_augI, wpS_augV, wpS_par', wpS_par3', wpS_some, wpS_mNx, wpS_mCt, wpS_mBk, kont_rt, kont_ct, kont_bk, fin_rt, fin_nx, wp_mK, wp_v, vO_some, wp_ret, wp_bnd, wp_op, wp_op1, wp_call, wp_fn, wp_cons, wp_nil, wp_tup, wp_lst, wp_obj, wp_oNone, wp_oSome, intO_int, wp_sl, wp_mIf, wp_mAnd, wp_mOr, wp_mNot, wp_mB, wp_mAndV, wp_mOrV, wp_mNotV, wp_mChain, wp_mTru, isBl_bl, truO_some, x_addI, x_addJ, x_sub, x_mod, x_div, x_mul, x_pow, x_shl, x_shr, x_band, x_bor, x_bxor, x_lt, x_le, x_gt, x_ge, x_neg, x_eqI, x_neI, x_eqS, x_neS, x_isN, x_isNN, x_int, x_abs, x_max2, x_min2, x_d1, x_d2, x_mkL, x_mkT, x_mkO, x_mkD, x_mkDo, x_ix, ixO_some, x_len, lenO_some, x_list, wpO_some, x_slT, x_slL, x_addLL, x_addTT, blO_some, x_isi, wp_isiT, x_fld, x_getI, wp_mMeth, wp_mMake, wp_mMt, wp_mLc, wp_mIt, wp_range1, wp_range2, wp_range3, wpS_for, isi_non_bool, isi_non_int, isi_non_str, isi_non_list, isi_non_tuple, isi_non_dict, isi_bl_bool, isi_bl_int, isi_bl_str, isi_bl_list, isi_bl_tuple, isi_bl_dict, isi_int_bool, isi_int_int, isi_int_str, isi_int_list, isi_int_tuple, isi_int_dict, isi_str_bool, isi_str_int, isi_str_str, isi_str_list, isi_str_tuple, isi_str_dict, isi_lst_bool, isi_lst_int, isi_lst_str, isi_lst_list, isi_lst_tuple, isi_lst_dict, isi_src_bool, isi_src_int, isi_src_str, isi_src_list, isi_src_tuple, isi_src_dict, isi_tup_bool, isi_tup_int, isi_tup_str, isi_tup_list, isi_tup_tuple, isi_tup_dict, isi_dct_bool, isi_dct_int, isi_dct_str, isi_dct_list, isi_dct_tuple, isi_dct_dict, g_nm, g_tp2, g_tp3, g_tp4, g_nil, g_cons, List.getElem?_cons_succ, List.getElem?_cons_zero, List.set_cons_succ, List.set_cons_zero, truD, List.length_map, hlen]
  refine ⟨hz, hz, ?_⟩
  rw [x_all (bs := (rngN 0 1 ys.length).map fun _ => true) (blsOf_map fun _ _ => rfl)]
  have : ((rngN 0 1 ys.length).map fun _ => true).all id = true := by simp
  rw [this]
  exact q
theorem same_at : ∀ {k : Nat} {x y : D}, smS S k x y → mSame k [x, y] S = some (.ok (.bl true) S)
  | 0, _, _, h => h.elim
  | k + 1, x, y, h => by
    have w : wp (mSame (k + 1) [x, y]) S (fun v S' => v = .bl true ∧ S' = S) no := by
      rw [e_same]
      unfold bSame
      rcases h with ⟨rfl, rfl⟩ | ⟨b, rfl, rfl⟩ | ⟨i, rfl, rfl⟩ | ⟨z, rfl, rfl⟩ | ⟨xs, ys, hy, hx, hl, hz, h⟩ | ⟨xs, ys, rfl, rfl, hl, hz, h⟩
      · simp only [wpS_seq, wpS_gNm, wpS_asg, wpS_ifS, wpS_drop, wpS_ret, wpS_retN, wpS_stF, wpS_augF, wpS_augI, wpS_augV, wpS_par', wpS_par3', wpS_some, wpS_mNx, wpS_mCt, wpS_mBk, kont_rt, kont_ct, kont_bk, fin_rt, fin_nx, wp_mK, wp_v, vO_some, wp_ret, wp_bnd, wp_op, wp_op1, wp_call, wp_fn, wp_cons, wp_nil, wp_tup, wp_lst, wp_obj, wp_oNone, wp_oSome, intO_int, wp_sl, wp_mIf, wp_mAnd, wp_mOr, wp_mNot, wp_mB, wp_mAndV, wp_mOrV, wp_mNotV, wp_mChain, wp_mTru, isBl_bl, truO_some, x_addI, x_addJ, x_sub, x_mod, x_div, x_mul, x_pow, x_shl, x_shr, x_band, x_bor, x_bxor, x_lt, x_le, x_gt, x_ge, x_neg, x_eqI, x_neI, x_eqS, x_neS, x_isN, x_isNN, x_int, x_abs, x_max2, x_min2, x_d1, x_d2, x_mkL, x_mkT, x_mkO, x_mkD, x_mkDo, x_ix, ixO_some, x_len, lenO_some, x_list, wpO_some, x_slT, x_slL, x_addLL, x_addTT, blO_some, x_isi, wp_isiT, x_fld, x_getI, wp_mMeth, wp_mMake, wp_mMt, wp_mLc, wp_mIt, wp_range1, wp_range2, wp_range3, wpS_for, isi_non_bool, isi_non_int, isi_non_str, isi_non_list, isi_non_tuple, isi_non_dict, isi_bl_bool, isi_bl_int, isi_bl_str, isi_bl_list, isi_bl_tuple, isi_bl_dict, isi_int_bool, isi_int_int, isi_int_str, isi_int_list, isi_int_tuple, isi_int_dict, isi_str_bool, isi_str_int, isi_str_str, isi_str_list, isi_str_tuple, isi_str_dict, isi_lst_bool, isi_lst_int, isi_lst_str, isi_lst_list, isi_lst_tuple, isi_lst_dict, isi_src_bool, isi_src_int, isi_src_str, isi_src_list, isi_src_tuple, isi_src_dict, isi_tup_bool, isi_tup_int, isi_tup_str, isi_tup_list, isi_tup_tuple, isi_tup_dict, isi_dct_bool, isi_dct_int, isi_dct_str, isi_dct_list, isi_dct_tuple, isi_dct_dict, g_nm, g_tp2, g_tp3, g_tp4, g_nil, g_cons, List.getElem?_cons_succ, List.getElem?_cons_zero, List.set_cons_succ, List.set_cons_zero, truD, isNon, if_true]
        exact ⟨by first | rfl | trivial, by first | rfl | trivial⟩
      · simp only [wpS_seq, wpS_gNm, wpS_asg, wpS_ifS, wpS_drop, wpS_ret, wpS_retN, wpS_stF, wpS_augF, wpS_augI, wpS_augV, wpS_par', wpS_par3', wpS_some, wpS_mNx, wpS_mCt, wpS_mBk, kont_rt, kont_ct, kont_bk, fin_rt, fin_nx, wp_mK, wp_v, vO_some, wp_ret, wp_bnd, wp_op, wp_op1, wp_call, wp_fn, wp_cons, wp_nil, wp_tup, wp_lst, wp_obj, wp_oNone, wp_oSome, intO_int, wp_sl, wp_mIf, wp_mAnd, wp_mOr, wp_mNot, wp_mB, wp_mAndV, wp_mOrV, wp_mNotV, wp_mChain, wp_mTru, isBl_bl, truO_some, x_addI, x_addJ, x_sub, x_mod, x_div, x_mul, x_pow, x_shl, x_shr, x_band, x_bor, x_bxor, x_lt, x_le, x_gt, x_ge, x_neg, x_eqI, x_neI, x_eqS, x_neS, x_isN, x_isNN, x_int, x_abs, x_max2, x_min2, x_d1, x_d2, x_mkL, x_mkT, x_mkO, x_mkD, x_mkDo, x_ix, ixO_some, x_len, lenO_some, x_list, wpO_some, x_slT, x_slL, x_addLL, x_addTT, blO_some, x_isi, wp_isiT, x_fld, x_getI, wp_mMeth, wp_mMake, wp_mMt, wp_mLc, wp_mIt, wp_range1, wp_range2, wp_range3, wpS_for, isi_non_bool, isi_non_int, isi_non_str, isi_non_list, isi_non_tuple, isi_non_dict, isi_bl_bool, isi_bl_int, isi_bl_str, isi_bl_list, isi_bl_tuple, isi_bl_dict, isi_int_bool, isi_int_int, isi_int_str, isi_int_list, isi_int_tuple, isi_int_dict, isi_str_bool, isi_str_int, isi_str_str, isi_str_list, isi_str_tuple, isi_str_dict, isi_lst_bool, isi_lst_int, isi_lst_str, isi_lst_list, isi_lst_tuple, isi_lst_dict, isi_src_bool, isi_src_int, isi_src_str, isi_src_list, isi_src_tuple, isi_src_dict, isi_tup_bool, isi_tup_int, isi_tup_str, isi_tup_list, isi_tup_tuple, isi_tup_dict, isi_dct_bool, isi_dct_int, isi_dct_str, isi_dct_list, isi_dct_tuple, isi_dct_dict, g_nm, g_tp2, g_tp3, g_tp4, g_nil, g_cons, List.getElem?_cons_succ, List.getElem?_cons_zero, List.set_cons_succ, List.set_cons_zero, truD, isNon, if_false, Bool.false_eq_true]
        refine kont_nx ?_
        simp only [wpS_seq, wpS_gNm, wpS_asg, wpS_ifS, wpS_drop, wpS_ret, wpS_retN, wpS_stF, wpS_augF, wpS_augI, wpS_augV, wpS_par', wpS_par3', wpS_some, wpS_mNx, wpS_mCt, wpS_mBk, kont_rt, kont_ct, kont_bk, fin_rt, fin_nx, wp_mK, wp_v, vO_some, wp_ret, wp_bnd, wp_op, wp_op1, wp_call, wp_fn, wp_cons, wp_nil, wp_tup, wp_lst, wp_obj, wp_oNone, wp_oSome, intO_int, wp_sl, wp_mIf, wp_mAnd, wp_mOr, wp_mNot, wp_mB, wp_mAndV, wp_mOrV, wp_mNotV, wp_mChain, wp_mTru, isBl_bl, truO_some, x_addI, x_addJ, x_sub, x_mod, x_div, x_mul, x_pow, x_shl, x_shr, x_band, x_bor, x_bxor, x_lt, x_le, x_gt, x_ge, x_neg, x_eqI, x_neI, x_eqS, x_neS, x_isN, x_isNN, x_int, x_abs, x_max2, x_min2, x_d1, x_d2, x_mkL, x_mkT, x_mkO, x_mkD, x_mkDo, x_ix, ixO_some, x_len, lenO_some, x_list, wpO_some, x_slT, x_slL, x_addLL, x_addTT, blO_some, x_isi, wp_isiT, x_fld, x_getI, wp_mMeth, wp_mMake, wp_mMt, wp_mLc, wp_mIt, wp_range1, wp_range2, wp_range3, wpS_for, isi_non_bool, isi_non_int, isi_non_str, isi_non_list, isi_non_tuple, isi_non_dict, isi_bl_bool, isi_bl_int, isi_bl_str, isi_bl_list, isi_bl_tuple, isi_bl_dict, isi_int_bool, isi_int_int, isi_int_str, isi_int_list, isi_int_tuple, isi_int_dict, isi_str_bool, isi_str_int, isi_str_str, isi_str_list, isi_str_tuple, isi_str_dict, isi_lst_bool, isi_lst_int, isi_lst_str, isi_lst_list, isi_lst_tuple, isi_lst_dict, isi_src_bool, isi_src_int, isi_src_str, isi_src_list, isi_src_tuple, isi_src_dict, isi_tup_bool, isi_tup_int, isi_tup_str, isi_tup_list, isi_tup_tuple, isi_tup_dict, isi_dct_bool, isi_dct_int, isi_dct_str, isi_dct_list, isi_dct_tuple, isi_dct_dict, g_nm, g_tp2, g_tp3, g_tp4, g_nil, g_cons, List.getElem?_cons_succ, List.getElem?_cons_zero, List.set_cons_succ, List.set_cons_zero, truD, if_true, x_eq, dEqB, decide_true]
        exact ⟨by first | rfl | trivial, by first | rfl | trivial⟩
      · simp only [wpS_seq, wpS_gNm, wpS_asg, wpS_ifS, wpS_drop, wpS_ret, wpS_retN, wpS_stF, wpS_augF, wpS_augI, wpS_augV, wpS_par', wpS_par3', wpS_some, wpS_mNx, wpS_mCt, wpS_mBk, kont_rt, kont_ct, kont_bk, fin_rt, fin_nx, wp_mK, wp_v, vO_some, wp_ret, wp_bnd, wp_op, wp_op1, wp_call, wp_fn, wp_cons, wp_nil, wp_tup, wp_lst, wp_obj, wp_oNone, wp_oSome, intO_int, wp_sl, wp_mIf, wp_mAnd, wp_mOr, wp_mNot, wp_mB, wp_mAndV, wp_mOrV, wp_mNotV, wp_mChain, wp_mTru, isBl_bl, truO_some, x_addI, x_addJ, x_sub, x_mod, x_div, x_mul, x_pow, x_shl, x_shr, x_band, x_bor, x_bxor, x_lt, x_le, x_gt, x_ge, x_neg, x_eqI, x_neI, x_eqS, x_neS, x_isN, x_isNN, x_int, x_abs, x_max2, x_min2, x_d1, x_d2, x_mkL, x_mkT, x_mkO, x_mkD, x_mkDo, x_ix, ixO_some, x_len, lenO_some, x_list, wpO_some, x_slT, x_slL, x_addLL, x_addTT, blO_some, x_isi, wp_isiT, x_fld, x_getI, wp_mMeth, wp_mMake, wp_mMt, wp_mLc, wp_mIt, wp_range1, wp_range2, wp_range3, wpS_for, isi_non_bool, isi_non_int, isi_non_str, isi_non_list, isi_non_tuple, isi_non_dict, isi_bl_bool, isi_bl_int, isi_bl_str, isi_bl_list, isi_bl_tuple, isi_bl_dict, isi_int_bool, isi_int_int, isi_int_str, isi_int_list, isi_int_tuple, isi_int_dict, isi_str_bool, isi_str_int, isi_str_str, isi_str_list, isi_str_tuple, isi_str_dict, isi_lst_bool, isi_lst_int, isi_lst_str, isi_lst_list, isi_lst_tuple, isi_lst_dict, isi_src_bool, isi_src_int, isi_src_str, isi_src_list, isi_src_tuple, isi_src_dict, isi_tup_bool, isi_tup_int, isi_tup_str, isi_tup_list, isi_tup_tuple, isi_tup_dict, isi_dct_bool, isi_dct_int, isi_dct_str, isi_dct_list, isi_dct_tuple, isi_dct_dict, g_nm, g_tp2, g_tp3, g_tp4, g_nil, g_cons, List.getElem?_cons_succ, List.getElem?_cons_zero, List.set_cons_succ, List.set_cons_zero, truD, isNon, if_false, Bool.false_eq_true]
        refine kont_nx ?_
        simp only [wpS_seq, wpS_gNm, wpS_asg, wpS_ifS, wpS_drop, wpS_ret, wpS_retN, wpS_stF, wpS_augF, wpS_augI, wpS_augV, wpS_par', wpS_par3', wpS_some, wpS_mNx, wpS_mCt, wpS_mBk, kont_rt, kont_ct, kont_bk, fin_rt, fin_nx, wp_mK, wp_v, vO_some, wp_ret, wp_bnd, wp_op, wp_op1, wp_call, wp_fn, wp_cons, wp_nil, wp_tup, wp_lst, wp_obj, wp_oNone, wp_oSome, intO_int, wp_sl, wp_mIf, wp_mAnd, wp_mOr, wp_mNot, wp_mB, wp_mAndV, wp_mOrV, wp_mNotV, wp_mChain, wp_mTru, isBl_bl, truO_some, x_addI, x_addJ, x_sub, x_mod, x_div, x_mul, x_pow, x_shl, x_shr, x_band, x_bor, x_bxor, x_lt, x_le, x_gt, x_ge, x_neg, x_eqI, x_neI, x_eqS, x_neS, x_isN, x_isNN, x_int, x_abs, x_max2, x_min2, x_d1, x_d2, x_mkL, x_mkT, x_mkO, x_mkD, x_mkDo, x_ix, ixO_some, x_len, lenO_some, x_list, wpO_some, x_slT, x_slL, x_addLL, x_addTT, blO_some, x_isi, wp_isiT, x_fld, x_getI, wp_mMeth, wp_mMake, wp_mMt, wp_mLc, wp_mIt, wp_range1, wp_range2, wp_range3, wpS_for, isi_non_bool, isi_non_int, isi_non_str, isi_non_list, isi_non_tuple, isi_non_dict, isi_bl_bool, isi_bl_int, isi_bl_str, isi_bl_list, isi_bl_tuple, isi_bl_dict, isi_int_bool, isi_int_int, isi_int_str, isi_int_list, isi_int_tuple, isi_int_dict, isi_str_bool, isi_str_int, isi_str_str, isi_str_list, isi_str_tuple, isi_str_dict, isi_lst_bool, isi_lst_int, isi_lst_str, isi_lst_list, isi_lst_tuple, isi_lst_dict, isi_src_bool, isi_src_int, isi_src_str, isi_src_list, isi_src_tuple, isi_src_dict, isi_tup_bool, isi_tup_int, isi_tup_str, isi_tup_list, isi_tup_tuple, isi_tup_dict, isi_dct_bool, isi_dct_int, isi_dct_str, isi_dct_list, isi_dct_tuple, isi_dct_dict, g_nm, g_tp2, g_tp3, g_tp4, g_nil, g_cons, List.getElem?_cons_succ, List.getElem?_cons_zero, List.set_cons_succ, List.set_cons_zero, truD, if_false, Bool.false_eq_true]
        refine kont_nx ?_
        simp only [wpS_seq, wpS_gNm, wpS_asg, wpS_ifS, wpS_drop, wpS_ret, wpS_retN, wpS_stF, wpS_augF, wpS_augI, wpS_augV, wpS_par', wpS_par3', wpS_some, wpS_mNx, wpS_mCt, wpS_mBk, kont_rt, kont_ct, kont_bk, fin_rt, fin_nx, wp_mK, wp_v, vO_some, wp_ret, wp_bnd, wp_op, wp_op1, wp_call, wp_fn, wp_cons, wp_nil, wp_tup, wp_lst, wp_obj, wp_oNone, wp_oSome, intO_int, wp_sl, wp_mIf, wp_mAnd, wp_mOr, wp_mNot, wp_mB, wp_mAndV, wp_mOrV, wp_mNotV, wp_mChain, wp_mTru, isBl_bl, truO_some, x_addI, x_addJ, x_sub, x_mod, x_div, x_mul, x_pow, x_shl, x_shr, x_band, x_bor, x_bxor, x_lt, x_le, x_gt, x_ge, x_neg, x_eqI, x_neI, x_eqS, x_neS, x_isN, x_isNN, x_int, x_abs, x_max2, x_min2, x_d1, x_d2, x_mkL, x_mkT, x_mkO, x_mkD, x_mkDo, x_ix, ixO_some, x_len, lenO_some, x_list, wpO_some, x_slT, x_slL, x_addLL, x_addTT, blO_some, x_isi, wp_isiT, x_fld, x_getI, wp_mMeth, wp_mMake, wp_mMt, wp_mLc, wp_mIt, wp_range1, wp_range2, wp_range3, wpS_for, isi_non_bool, isi_non_int, isi_non_str, isi_non_list, isi_non_tuple, isi_non_dict, isi_bl_bool, isi_bl_int, isi_bl_str, isi_bl_list, isi_bl_tuple, isi_bl_dict, isi_int_bool, isi_int_int, isi_int_str, isi_int_list, isi_int_tuple, isi_int_dict, isi_str_bool, isi_str_int, isi_str_str, isi_str_list, isi_str_tuple, isi_str_dict, isi_lst_bool, isi_lst_int, isi_lst_str, isi_lst_list, isi_lst_tuple, isi_lst_dict, isi_src_bool, isi_src_int, isi_src_str, isi_src_list, isi_src_tuple, isi_src_dict, isi_tup_bool, isi_tup_int, isi_tup_str, isi_tup_list, isi_tup_tuple, isi_tup_dict, isi_dct_bool, isi_dct_int, isi_dct_str, isi_dct_list, isi_dct_tuple, isi_dct_dict, g_nm, g_tp2, g_tp3, g_tp4, g_nil, g_cons, List.getElem?_cons_succ, List.getElem?_cons_zero, List.set_cons_succ, List.set_cons_zero, truD, if_true, Bool.not_false, decide_true]
        exact ⟨by first | rfl | trivial, by first | rfl | trivial⟩
      · simp only [wpS_seq, wpS_gNm, wpS_asg, wpS_ifS, wpS_drop, wpS_ret, wpS_retN, wpS_stF, wpS_augF, wpS_augI, wpS_augV, wpS_par', wpS_par3', wpS_some, wpS_mNx, wpS_mCt, wpS_mBk, kont_rt, kont_ct, kont_bk, fin_rt, fin_nx, wp_mK, wp_v, vO_some, wp_ret, wp_bnd, wp_op, wp_op1, wp_call, wp_fn, wp_cons, wp_nil, wp_tup, wp_lst, wp_obj, wp_oNone, wp_oSome, intO_int, wp_sl, wp_mIf, wp_mAnd, wp_mOr, wp_mNot, wp_mB, wp_mAndV, wp_mOrV, wp_mNotV, wp_mChain, wp_mTru, isBl_bl, truO_some, x_addI, x_addJ, x_sub, x_mod, x_div, x_mul, x_pow, x_shl, x_shr, x_band, x_bor, x_bxor, x_lt, x_le, x_gt, x_ge, x_neg, x_eqI, x_neI, x_eqS, x_neS, x_isN, x_isNN, x_int, x_abs, x_max2, x_min2, x_d1, x_d2, x_mkL, x_mkT, x_mkO, x_mkD, x_mkDo, x_ix, ixO_some, x_len, lenO_some, x_list, wpO_some, x_slT, x_slL, x_addLL, x_addTT, blO_some, x_isi, wp_isiT, x_fld, x_getI, wp_mMeth, wp_mMake, wp_mMt, wp_mLc, wp_mIt, wp_range1, wp_range2, wp_range3, wpS_for, isi_non_bool, isi_non_int, isi_non_str, isi_non_list, isi_non_tuple, isi_non_dict, isi_bl_bool, isi_bl_int, isi_bl_str, isi_bl_list, isi_bl_tuple, isi_bl_dict, isi_int_bool, isi_int_int, isi_int_str, isi_int_list, isi_int_tuple, isi_int_dict, isi_str_bool, isi_str_int, isi_str_str, isi_str_list, isi_str_tuple, isi_str_dict, isi_lst_bool, isi_lst_int, isi_lst_str, isi_lst_list, isi_lst_tuple, isi_lst_dict, isi_src_bool, isi_src_int, isi_src_str, isi_src_list, isi_src_tuple, isi_src_dict, isi_tup_bool, isi_tup_int, isi_tup_str, isi_tup_list, isi_tup_tuple, isi_tup_dict, isi_dct_bool, isi_dct_int, isi_dct_str, isi_dct_list, isi_dct_tuple, isi_dct_dict, g_nm, g_tp2, g_tp3, g_tp4, g_nil, g_cons, List.getElem?_cons_succ, List.getElem?_cons_zero, List.set_cons_succ, List.set_cons_zero, truD, isNon, if_false, Bool.false_eq_true]
        refine kont_nx ?_
        simp only [wpS_seq, wpS_gNm, wpS_asg, wpS_ifS, wpS_drop, wpS_ret, wpS_retN, wpS_stF, wpS_augF, wpS_augI, wpS_augV, wpS_par', wpS_par3', wpS_some, wpS_mNx, wpS_mCt, wpS_mBk, kont_rt, kont_ct, kont_bk, fin_rt, fin_nx, wp_mK, wp_v, vO_some, wp_ret, wp_bnd, wp_op, wp_op1, wp_call, wp_fn, wp_cons, wp_nil, wp_tup, wp_lst, wp_obj, wp_oNone, wp_oSome, intO_int, wp_sl, wp_mIf, wp_mAnd, wp_mOr, wp_mNot, wp_mB, wp_mAndV, wp_mOrV, wp_mNotV, wp_mChain, wp_mTru, isBl_bl, truO_some, x_addI, x_addJ, x_sub, x_mod, x_div, x_mul, x_pow, x_shl, x_shr, x_band, x_bor, x_bxor, x_lt, x_le, x_gt, x_ge, x_neg, x_eqI, x_neI, x_eqS, x_neS, x_isN, x_isNN, x_int, x_abs, x_max2, x_min2, x_d1, x_d2, x_mkL, x_mkT, x_mkO, x_mkD, x_mkDo, x_ix, ixO_some, x_len, lenO_some, x_list, wpO_some, x_slT, x_slL, x_addLL, x_addTT, blO_some, x_isi, wp_isiT, x_fld, x_getI, wp_mMeth, wp_mMake, wp_mMt, wp_mLc, wp_mIt, wp_range1, wp_range2, wp_range3, wpS_for, isi_non_bool, isi_non_int, isi_non_str, isi_non_list, isi_non_tuple, isi_non_dict, isi_bl_bool, isi_bl_int, isi_bl_str, isi_bl_list, isi_bl_tuple, isi_bl_dict, isi_int_bool, isi_int_int, isi_int_str, isi_int_list, isi_int_tuple, isi_int_dict, isi_str_bool, isi_str_int, isi_str_str, isi_str_list, isi_str_tuple, isi_str_dict, isi_lst_bool, isi_lst_int, isi_lst_str, isi_lst_list, isi_lst_tuple, isi_lst_dict, isi_src_bool, isi_src_int, isi_src_str, isi_src_list, isi_src_tuple, isi_src_dict, isi_tup_bool, isi_tup_int, isi_tup_str, isi_tup_list, isi_tup_tuple, isi_tup_dict, isi_dct_bool, isi_dct_int, isi_dct_str, isi_dct_list, isi_dct_tuple, isi_dct_dict, g_nm, g_tp2, g_tp3, g_tp4, g_nil, g_cons, List.getElem?_cons_succ, List.getElem?_cons_zero, List.set_cons_succ, List.set_cons_zero, truD, if_false, Bool.false_eq_true]
        refine kont_nx ?_
        simp only [wpS_seq, wpS_gNm, wpS_asg, wpS_ifS, wpS_drop, wpS_ret, wpS_retN, wpS_stF, wpS_augF, wpS_augI, wpS_augV, wpS_par', wpS_par3', wpS_some, wpS_mNx, wpS_mCt, wpS_mBk, kont_rt, kont_ct, kont_bk, fin_rt, fin_nx, wp_mK, wp_v, vO_some, wp_ret, wp_bnd, wp_op, wp_op1, wp_call, wp_fn, wp_cons, wp_nil, wp_tup, wp_lst, wp_obj, wp_oNone, wp_oSome, intO_int, wp_sl, wp_mIf, wp_mAnd, wp_mOr, wp_mNot, wp_mB, wp_mAndV, wp_mOrV, wp_mNotV, wp_mChain, wp_mTru, isBl_bl, truO_some, x_addI, x_addJ, x_sub, x_mod, x_div, x_mul, x_pow, x_shl, x_shr, x_band, x_bor, x_bxor, x_lt, x_le, x_gt, x_ge, x_neg, x_eqI, x_neI, x_eqS, x_neS, x_isN, x_isNN, x_int, x_abs, x_max2, x_min2, x_d1, x_d2, x_mkL, x_mkT, x_mkO, x_mkD, x_mkDo, x_ix, ixO_some, x_len, lenO_some, x_list, wpO_some, x_slT, x_slL, x_addLL, x_addTT, blO_some, x_isi, wp_isiT, x_fld, x_getI, wp_mMeth, wp_mMake, wp_mMt, wp_mLc, wp_mIt, wp_range1, wp_range2, wp_range3, wpS_for, isi_non_bool, isi_non_int, isi_non_str, isi_non_list, isi_non_tuple, isi_non_dict, isi_bl_bool, isi_bl_int, isi_bl_str, isi_bl_list, isi_bl_tuple, isi_bl_dict, isi_int_bool, isi_int_int, isi_int_str, isi_int_list, isi_int_tuple, isi_int_dict, isi_str_bool, isi_str_int, isi_str_str, isi_str_list, isi_str_tuple, isi_str_dict, isi_lst_bool, isi_lst_int, isi_lst_str, isi_lst_list, isi_lst_tuple, isi_lst_dict, isi_src_bool, isi_src_int, isi_src_str, isi_src_list, isi_src_tuple, isi_src_dict, isi_tup_bool, isi_tup_int, isi_tup_str, isi_tup_list, isi_tup_tuple, isi_tup_dict, isi_dct_bool, isi_dct_int, isi_dct_str, isi_dct_list, isi_dct_tuple, isi_dct_dict, g_nm, g_tp2, g_tp3, g_tp4, g_nil, g_cons, List.getElem?_cons_succ, List.getElem?_cons_zero, List.set_cons_succ, List.set_cons_zero, truD, if_false, Bool.false_eq_true]
        refine kont_nx ?_
        simp only [wpS_seq, wpS_gNm, wpS_asg, wpS_ifS, wpS_drop, wpS_ret, wpS_retN, wpS_stF, wpS_augF, wpS_augI, wpS_augV, wpS_par', wpS_par3', wpS_some, wpS_mNx, wpS_mCt, wpS_mBk, kont_rt, kont_ct, kont_bk, fin_rt, fin_nx, wp_mK, wp_v, vO_some, wp_ret, wp_bnd, wp_op, wp_op1, wp_call, wp_fn, wp_cons, wp_nil, wp_tup, wp_lst, wp_obj, wp_oNone, wp_oSome, intO_int, wp_sl, wp_mIf, wp_mAnd, wp_mOr, wp_mNot, wp_mB, wp_mAndV, wp_mOrV, wp_mNotV, wp_mChain, wp_mTru, isBl_bl, truO_some, x_addI, x_addJ, x_sub, x_mod, x_div, x_mul, x_pow, x_shl, x_shr, x_band, x_bor, x_bxor, x_lt, x_le, x_gt, x_ge, x_neg, x_eqI, x_neI, x_eqS, x_neS, x_isN, x_isNN, x_int, x_abs, x_max2, x_min2, x_d1, x_d2, x_mkL, x_mkT, x_mkO, x_mkD, x_mkDo, x_ix, ixO_some, x_len, lenO_some, x_list, wpO_some, x_slT, x_slL, x_addLL, x_addTT, blO_some, x_isi, wp_isiT, x_fld, x_getI, wp_mMeth, wp_mMake, wp_mMt, wp_mLc, wp_mIt, wp_range1, wp_range2, wp_range3, wpS_for, isi_non_bool, isi_non_int, isi_non_str, isi_non_list, isi_non_tuple, isi_non_dict, isi_bl_bool, isi_bl_int, isi_bl_str, isi_bl_list, isi_bl_tuple, isi_bl_dict, isi_int_bool, isi_int_int, isi_int_str, isi_int_list, isi_int_tuple, isi_int_dict, isi_str_bool, isi_str_int, isi_str_str, isi_str_list, isi_str_tuple, isi_str_dict, isi_lst_bool, isi_lst_int, isi_lst_str, isi_lst_list, isi_lst_tuple, isi_lst_dict, isi_src_bool, isi_src_int, isi_src_str, isi_src_list, isi_src_tuple, isi_src_dict, isi_tup_bool, isi_tup_int, isi_tup_str, isi_tup_list, isi_tup_tuple, isi_tup_dict, isi_dct_bool, isi_dct_int, isi_dct_str, isi_dct_list, isi_dct_tuple, isi_dct_dict, g_nm, g_tp2, g_tp3, g_tp4, g_nil, g_cons, List.getElem?_cons_succ, List.getElem?_cons_zero, List.set_cons_succ, List.set_cons_zero, truD, if_true, Bool.not_false, decide_true]
        exact ⟨by first | rfl | trivial, by first | rfl | trivial⟩
      · simp only [wpS_seq, wpS_gNm, wpS_asg, wpS_ifS, wpS_drop, wpS_ret, wpS_retN, wpS_stF, wpS_augF, wpS_augI, wpS_augV, wpS_par', wpS_par3', wpS_some, wpS_mNx, wpS_mCt, wpS_mBk, kont_rt, kont_ct, kont_bk, fin_rt, fin_nx, wp_mK, wp_v, vO_some, wp_ret, wp_bnd, wp_op, wp_op1, wp_call, wp_fn, wp_cons, wp_nil, wp_tup, wp_lst, wp_obj, wp_oNone, wp_oSome, intO_int, wp_sl, wp_mIf, wp_mAnd, wp_mOr, wp_mNot, wp_mB, wp_mAndV, wp_mOrV, wp_mNotV, wp_mChain, wp_mTru, isBl_bl, truO_some, x_addI, x_addJ, x_sub, x_mod, x_div, x_mul, x_pow, x_shl, x_shr, x_band, x_bor, x_bxor, x_lt, x_le, x_gt, x_ge, x_neg, x_eqI, x_neI, x_eqS, x_neS, x_isN, x_isNN, x_int, x_abs, x_max2, x_min2, x_d1, x_d2, x_mkL, x_mkT, x_mkO, x_mkD, x_mkDo, x_ix, ixO_some, x_len, lenO_some, x_list, wpO_some, x_slT, x_slL, x_addLL, x_addTT, blO_some, x_isi, wp_isiT, x_fld, x_getI, wp_mMeth, wp_mMake, wp_mMt, wp_mLc, wp_mIt, wp_range1, wp_range2, wp_range3, wpS_for, isi_non_bool, isi_non_int, isi_non_str, isi_non_list, isi_non_tuple, isi_non_dict, isi_bl_bool, isi_bl_int, isi_bl_str, isi_bl_list, isi_bl_tuple, isi_bl_dict, isi_int_bool, isi_int_int, isi_int_str, isi_int_list, isi_int_tuple, isi_int_dict, isi_str_bool, isi_str_int, isi_str_str, isi_str_list, isi_str_tuple, isi_str_dict, isi_lst_bool, isi_lst_int, isi_lst_str, isi_lst_list, isi_lst_tuple, isi_lst_dict, isi_src_bool, isi_src_int, isi_src_str, isi_src_list, isi_src_tuple, isi_src_dict, isi_tup_bool, isi_tup_int, isi_tup_str, isi_tup_list, isi_tup_tuple, isi_tup_dict, isi_dct_bool, isi_dct_int, isi_dct_str, isi_dct_list, isi_dct_tuple, isi_dct_dict, g_nm, g_tp2, g_tp3, g_tp4, g_nil, g_cons, List.getElem?_cons_succ, List.getElem?_cons_zero, List.set_cons_succ, List.set_cons_zero, truD, isN_lst hy, if_false, Bool.false_eq_true]
        refine kont_nx ?_
        simp only [wpS_seq, wpS_gNm, wpS_asg, wpS_ifS, wpS_drop, wpS_ret, wpS_retN, wpS_stF, wpS_augF, wpS_augI, wpS_augV, wpS_par', wpS_par3', wpS_some, wpS_mNx, wpS_mCt, wpS_mBk, kont_rt, kont_ct, kont_bk, fin_rt, fin_nx, wp_mK, wp_v, vO_some, wp_ret, wp_bnd, wp_op, wp_op1, wp_call, wp_fn, wp_cons, wp_nil, wp_tup, wp_lst, wp_obj, wp_oNone, wp_oSome, intO_int, wp_sl, wp_mIf, wp_mAnd, wp_mOr, wp_mNot, wp_mB, wp_mAndV, wp_mOrV, wp_mNotV, wp_mChain, wp_mTru, isBl_bl, truO_some, x_addI, x_addJ, x_sub, x_mod, x_div, x_mul, x_pow, x_shl, x_shr, x_band, x_bor, x_bxor, x_lt, x_le, x_gt, x_ge, x_neg, x_eqI, x_neI, x_eqS, x_neS, x_isN, x_isNN, x_int, x_abs, x_max2, x_min2, x_d1, x_d2, x_mkL, x_mkT, x_mkO, x_mkD, x_mkDo, x_ix, ixO_some, x_len, lenO_some, x_list, wpO_some, x_slT, x_slL, x_addLL, x_addTT, blO_some, x_isi, wp_isiT, x_fld, x_getI, wp_mMeth, wp_mMake, wp_mMt, wp_mLc, wp_mIt, wp_range1, wp_range2, wp_range3, wpS_for, isi_non_bool, isi_non_int, isi_non_str, isi_non_list, isi_non_tuple, isi_non_dict, isi_bl_bool, isi_bl_int, isi_bl_str, isi_bl_list, isi_bl_tuple, isi_bl_dict, isi_int_bool, isi_int_int, isi_int_str, isi_int_list, isi_int_tuple, isi_int_dict, isi_str_bool, isi_str_int, isi_str_str, isi_str_list, isi_str_tuple, isi_str_dict, isi_lst_bool, isi_lst_int, isi_lst_str, isi_lst_list, isi_lst_tuple, isi_lst_dict, isi_src_bool, isi_src_int, isi_src_str, isi_src_list, isi_src_tuple, isi_src_dict, isi_tup_bool, isi_tup_int, isi_tup_str, isi_tup_list, isi_tup_tuple, isi_tup_dict, isi_dct_bool, isi_dct_int, isi_dct_str, isi_dct_list, isi_dct_tuple, isi_dct_dict, g_nm, g_tp2, g_tp3, g_tp4, g_nil, g_cons, List.getElem?_cons_succ, List.getElem?_cons_zero, List.set_cons_succ, List.set_cons_zero, truD, if_false, Bool.false_eq_true, isi_lst hy, isiB_list_bool]
        refine kont_nx ?_
        simp only [wpS_seq, wpS_gNm, wpS_asg, wpS_ifS, wpS_drop, wpS_ret, wpS_retN, wpS_stF, wpS_augF, wpS_augI, wpS_augV, wpS_par', wpS_par3', wpS_some, wpS_mNx, wpS_mCt, wpS_mBk, kont_rt, kont_ct, kont_bk, fin_rt, fin_nx, wp_mK, wp_v, vO_some, wp_ret, wp_bnd, wp_op, wp_op1, wp_call, wp_fn, wp_cons, wp_nil, wp_tup, wp_lst, wp_obj, wp_oNone, wp_oSome, intO_int, wp_sl, wp_mIf, wp_mAnd, wp_mOr, wp_mNot, wp_mB, wp_mAndV, wp_mOrV, wp_mNotV, wp_mChain, wp_mTru, isBl_bl, truO_some, x_addI, x_addJ, x_sub, x_mod, x_div, x_mul, x_pow, x_shl, x_shr, x_band, x_bor, x_bxor, x_lt, x_le, x_gt, x_ge, x_neg, x_eqI, x_neI, x_eqS, x_neS, x_isN, x_isNN, x_int, x_abs, x_max2, x_min2, x_d1, x_d2, x_mkL, x_mkT, x_mkO, x_mkD, x_mkDo, x_ix, ixO_some, x_len, lenO_some, x_list, wpO_some, x_slT, x_slL, x_addLL, x_addTT, blO_some, x_isi, wp_isiT, x_fld, x_getI, wp_mMeth, wp_mMake, wp_mMt, wp_mLc, wp_mIt, wp_range1, wp_range2, wp_range3, wpS_for, isi_non_bool, isi_non_int, isi_non_str, isi_non_list, isi_non_tuple, isi_non_dict, isi_bl_bool, isi_bl_int, isi_bl_str, isi_bl_list, isi_bl_tuple, isi_bl_dict, isi_int_bool, isi_int_int, isi_int_str, isi_int_list, isi_int_tuple, isi_int_dict, isi_str_bool, isi_str_int, isi_str_str, isi_str_list, isi_str_tuple, isi_str_dict, isi_lst_bool, isi_lst_int, isi_lst_str, isi_lst_list, isi_lst_tuple, isi_lst_dict, isi_src_bool, isi_src_int, isi_src_str, isi_src_list, isi_src_tuple, isi_src_dict, isi_tup_bool, isi_tup_int, isi_tup_str, isi_tup_list, isi_tup_tuple, isi_tup_dict, isi_dct_bool, isi_dct_int, isi_dct_str, isi_dct_list, isi_dct_tuple, isi_dct_dict, g_nm, g_tp2, g_tp3, g_tp4, g_nil, g_cons, List.getElem?_cons_succ, List.getElem?_cons_zero, List.set_cons_succ, List.set_cons_zero, truD, if_false, Bool.false_eq_true, isi_lst hy, isiB_list_int]
        refine kont_nx ?_
        simp only [wpS_seq, wpS_gNm, wpS_asg, wpS_ifS, wpS_drop, wpS_ret, wpS_retN, wpS_stF, wpS_augF, wpS_augI, wpS_augV, wpS_par', wpS_par3', wpS_some, wpS_mNx, wpS_mCt, wpS_mBk, kont_rt, kont_ct, kont_bk, fin_rt, fin_nx, wp_mK, wp_v, vO_some, wp_ret, wp_bnd, wp_op, wp_op1, wp_call, wp_fn, wp_cons, wp_nil, wp_tup, wp_lst, wp_obj, wp_oNone, wp_oSome, intO_int, wp_sl, wp_mIf, wp_mAnd, wp_mOr, wp_mNot, wp_mB, wp_mAndV, wp_mOrV, wp_mNotV, wp_mChain, wp_mTru, isBl_bl, truO_some, x_addI, x_addJ, x_sub, x_mod, x_div, x_mul, x_pow, x_shl, x_shr, x_band, x_bor, x_bxor, x_lt, x_le, x_gt, x_ge, x_neg, x_eqI, x_neI, x_eqS, x_neS, x_isN, x_isNN, x_int, x_abs, x_max2, x_min2, x_d1, x_d2, x_mkL, x_mkT, x_mkO, x_mkD, x_mkDo, x_ix, ixO_some, x_len, lenO_some, x_list, wpO_some, x_slT, x_slL, x_addLL, x_addTT, blO_some, x_isi, wp_isiT, x_fld, x_getI, wp_mMeth, wp_mMake, wp_mMt, wp_mLc, wp_mIt, wp_range1, wp_range2, wp_range3, wpS_for, isi_non_bool, isi_non_int, isi_non_str, isi_non_list, isi_non_tuple, isi_non_dict, isi_bl_bool, isi_bl_int, isi_bl_str, isi_bl_list, isi_bl_tuple, isi_bl_dict, isi_int_bool, isi_int_int, isi_int_str, isi_int_list, isi_int_tuple, isi_int_dict, isi_str_bool, isi_str_int, isi_str_str, isi_str_list, isi_str_tuple, isi_str_dict, isi_lst_bool, isi_lst_int, isi_lst_str, isi_lst_list, isi_lst_tuple, isi_lst_dict, isi_src_bool, isi_src_int, isi_src_str, isi_src_list, isi_src_tuple, isi_src_dict, isi_tup_bool, isi_tup_int, isi_tup_str, isi_tup_list, isi_tup_tuple, isi_tup_dict, isi_dct_bool, isi_dct_int, isi_dct_str, isi_dct_list, isi_dct_tuple, isi_dct_dict, g_nm, g_tp2, g_tp3, g_tp4, g_nil, g_cons, List.getElem?_cons_succ, List.getElem?_cons_zero, List.set_cons_succ, List.set_cons_zero, truD, if_false, Bool.false_eq_true, isi_lst hy, isiB_list_str]
        refine kont_nx ?_
        simp only [wpS_seq, wpS_gNm, wpS_asg, wpS_ifS, wpS_drop, wpS_ret, wpS_retN, wpS_stF, wpS_augF, wpS_augI, wpS_augV, wpS_par', wpS_par3', wpS_some, wpS_mNx, wpS_mCt, wpS_mBk, kont_rt, kont_ct, kont_bk, fin_rt, fin_nx, wp_mK, wp_v, vO_some, wp_ret, wp_bnd, wp_op, wp_op1, wp_call, wp_fn, wp_cons, wp_nil, wp_tup, wp_lst, wp_obj, wp_oNone, wp_oSome, intO_int, wp_sl, wp_mIf, wp_mAnd, wp_mOr, wp_mNot, wp_mB, wp_mAndV, wp_mOrV, wp_mNotV, wp_mChain, wp_mTru, isBl_bl, truO_some, x_addI, x_addJ, x_sub, x_mod, x_div, x_mul, x_pow, x_shl, x_shr, x_band, x_bor, x_bxor, x_lt, x_le, x_gt, x_ge, x_neg, x_eqI, x_neI, x_eqS, x_neS, x_isN, x_isNN, x_int, x_abs, x_max2, x_min2, x_d1, x_d2, x_mkL, x_mkT, x_mkO, x_mkD, x_mkDo, x_ix, ixO_some, x_len, lenO_some, x_list, wpO_some, x_slT, x_slL, x_addLL, x_addTT, blO_some, x_isi, wp_isiT, x_fld, x_getI, wp_mMeth, wp_mMake, wp_mMt, wp_mLc, wp_mIt, wp_range1, wp_range2, wp_range3, wpS_for, isi_non_bool, isi_non_int, isi_non_str, isi_non_list, isi_non_tuple, isi_non_dict, isi_bl_bool, isi_bl_int, isi_bl_str, isi_bl_list, isi_bl_tuple, isi_bl_dict, isi_int_bool, isi_int_int, isi_int_str, isi_int_list, isi_int_tuple, isi_int_dict, isi_str_bool, isi_str_int, isi_str_str, isi_str_list, isi_str_tuple, isi_str_dict, isi_lst_bool, isi_lst_int, isi_lst_str, isi_lst_list, isi_lst_tuple, isi_lst_dict, isi_src_bool, isi_src_int, isi_src_str, isi_src_list, isi_src_tuple, isi_src_dict, isi_tup_bool, isi_tup_int, isi_tup_str, isi_tup_list, isi_tup_tuple, isi_tup_dict, isi_dct_bool, isi_dct_int, isi_dct_str, isi_dct_list, isi_dct_tuple, isi_dct_dict, g_nm, g_tp2, g_tp3, g_tp4, g_nil, g_cons, List.getElem?_cons_succ, List.getElem?_cons_zero, List.set_cons_succ, List.set_cons_zero, truD, if_false, Bool.false_eq_true, isi_lst hy, isiB_list_dict]
        refine kont_nx ?_
        simp only [wpS_seq, wpS_gNm, wpS_asg, wpS_ifS, wpS_drop, wpS_ret, wpS_retN, wpS_stF, wpS_augF, wpS_augI, wpS_augV, wpS_par', wpS_par3', wpS_some, wpS_mNx, wpS_mCt, wpS_mBk, kont_rt, kont_ct, kont_bk, fin_rt, fin_nx, wp_mK, wp_v, vO_some, wp_ret, wp_bnd, wp_op, wp_op1, wp_call, wp_fn, wp_cons, wp_nil, wp_tup, wp_lst, wp_obj, wp_oNone, wp_oSome, intO_int, wp_sl, wp_mIf, wp_mAnd, wp_mOr, wp_mNot, wp_mB, wp_mAndV, wp_mOrV, wp_mNotV, wp_mChain, wp_mTru, isBl_bl, truO_some, x_addI, x_addJ, x_sub, x_mod, x_div, x_mul, x_pow, x_shl, x_shr, x_band, x_bor, x_bxor, x_lt, x_le, x_gt, x_ge, x_neg, x_eqI, x_neI, x_eqS, x_neS, x_isN, x_isNN, x_int, x_abs, x_max2, x_min2, x_d1, x_d2, x_mkL, x_mkT, x_mkO, x_mkD, x_mkDo, x_ix, ixO_some, x_len, lenO_some, x_list, wpO_some, x_slT, x_slL, x_addLL, x_addTT, blO_some, x_isi, wp_isiT, x_fld, x_getI, wp_mMeth, wp_mMake, wp_mMt, wp_mLc, wp_mIt, wp_range1, wp_range2, wp_range3, wpS_for, isi_non_bool, isi_non_int, isi_non_str, isi_non_list, isi_non_tuple, isi_non_dict, isi_bl_bool, isi_bl_int, isi_bl_str, isi_bl_list, isi_bl_tuple, isi_bl_dict, isi_int_bool, isi_int_int, isi_int_str, isi_int_list, isi_int_tuple, isi_int_dict, isi_str_bool, isi_str_int, isi_str_str, isi_str_list, isi_str_tuple, isi_str_dict, isi_lst_bool, isi_lst_int, isi_lst_str, isi_lst_list, isi_lst_tuple, isi_lst_dict, isi_src_bool, isi_src_int, isi_src_str, isi_src_list, isi_src_tuple, isi_src_dict, isi_tup_bool, isi_tup_int, isi_tup_str, isi_tup_list, isi_tup_tuple, isi_tup_dict, isi_dct_bool, isi_dct_int, isi_dct_str, isi_dct_list, isi_dct_tuple, isi_dct_dict, g_nm, g_tp2, g_tp3, g_tp4, g_nil, g_cons, List.getElem?_cons_succ, List.getElem?_cons_zero, List.set_cons_succ, List.set_cons_zero, truD, if_true, isi_lst hy, isiB_list, isi_lst hx]
        refine kont_nx ?_
        exact seqEnd (seq_lst hx) (seq_lst hy) (len_lst hx) (len_lst hy) (fun i => ixAt_lst hx) (fun i => ixAt_lst hy) hl hz (fun i d e hd he => same_at (h i d e hd he)) ⟨rfl, rfl⟩
      · simp only [wpS_seq, wpS_gNm, wpS_asg, wpS_ifS, wpS_drop, wpS_ret, wpS_retN, wpS_stF, wpS_augF, wpS_augI, wpS_augV, wpS_par', wpS_par3', wpS_some, wpS_mNx, wpS_mCt, wpS_mBk, kont_rt, kont_ct, kont_bk, fin_rt, fin_nx, wp_mK, wp_v, vO_some, wp_ret, wp_bnd, wp_op, wp_op1, wp_call, wp_fn, wp_cons, wp_nil, wp_tup, wp_lst, wp_obj, wp_oNone, wp_oSome, intO_int, wp_sl, wp_mIf, wp_mAnd, wp_mOr, wp_mNot, wp_mB, wp_mAndV, wp_mOrV, wp_mNotV, wp_mChain, wp_mTru, isBl_bl, truO_some, x_addI, x_addJ, x_sub, x_mod, x_div, x_mul, x_pow, x_shl, x_shr, x_band, x_bor, x_bxor, x_lt, x_le, x_gt, x_ge, x_neg, x_eqI, x_neI, x_eqS, x_neS, x_isN, x_isNN, x_int, x_abs, x_max2, x_min2, x_d1, x_d2, x_mkL, x_mkT, x_mkO, x_mkD, x_mkDo, x_ix, ixO_some, x_len, lenO_some, x_list, wpO_some, x_slT, x_slL, x_addLL, x_addTT, blO_some, x_isi, wp_isiT, x_fld, x_getI, wp_mMeth, wp_mMake, wp_mMt, wp_mLc, wp_mIt, wp_range1, wp_range2, wp_range3, wpS_for, isi_non_bool, isi_non_int, isi_non_str, isi_non_list, isi_non_tuple, isi_non_dict, isi_bl_bool, isi_bl_int, isi_bl_str, isi_bl_list, isi_bl_tuple, isi_bl_dict, isi_int_bool, isi_int_int, isi_int_str, isi_int_list, isi_int_tuple, isi_int_dict, isi_str_bool, isi_str_int, isi_str_str, isi_str_list, isi_str_tuple, isi_str_dict, isi_lst_bool, isi_lst_int, isi_lst_str, isi_lst_list, isi_lst_tuple, isi_lst_dict, isi_src_bool, isi_src_int, isi_src_str, isi_src_list, isi_src_tuple, isi_src_dict, isi_tup_bool, isi_tup_int, isi_tup_str, isi_tup_list, isi_tup_tuple, isi_tup_dict, isi_dct_bool, isi_dct_int, isi_dct_str, isi_dct_list, isi_dct_tuple, isi_dct_dict, g_nm, g_tp2, g_tp3, g_tp4, g_nil, g_cons, List.getElem?_cons_succ, List.getElem?_cons_zero, List.set_cons_succ, List.set_cons_zero, truD, isNon, if_false, Bool.false_eq_true]
        refine kont_nx ?_
        simp only [wpS_seq, wpS_gNm, wpS_asg, wpS_ifS, wpS_drop, wpS_ret, wpS_retN, wpS_stF, wpS_augF, wpS_augI, wpS_augV, wpS_par', wpS_par3', wpS_some, wpS_mNx, wpS_mCt, wpS_mBk, kont_rt, kont_ct, kont_bk, fin_rt, fin_nx, wp_mK, wp_v, vO_some, wp_ret, wp_bnd, wp_op, wp_op1, wp_call, wp_fn, wp_cons, wp_nil, wp_tup, wp_lst, wp_obj, wp_oNone, wp_oSome, intO_int, wp_sl, wp_mIf, wp_mAnd, wp_mOr, wp_mNot, wp_mB, wp_mAndV, wp_mOrV, wp_mNotV, wp_mChain, wp_mTru, isBl_bl, truO_some, x_addI, x_addJ, x_sub, x_mod, x_div, x_mul, x_pow, x_shl, x_shr, x_band, x_bor, x_bxor, x_lt, x_le, x_gt, x_ge, x_neg, x_eqI, x_neI, x_eqS, x_neS, x_isN, x_isNN, x_int, x_abs, x_max2, x_min2, x_d1, x_d2, x_mkL, x_mkT, x_mkO, x_mkD, x_mkDo, x_ix, ixO_some, x_len, lenO_some, x_list, wpO_some, x_slT, x_slL, x_addLL, x_addTT, blO_some, x_isi, wp_isiT, x_fld, x_getI, wp_mMeth, wp_mMake, wp_mMt, wp_mLc, wp_mIt, wp_range1, wp_range2, wp_range3, wpS_for, isi_non_bool, isi_non_int, isi_non_str, isi_non_list, isi_non_tuple, isi_non_dict, isi_bl_bool, isi_bl_int, isi_bl_str, isi_bl_list, isi_bl_tuple, isi_bl_dict, isi_int_bool, isi_int_int, isi_int_str, isi_int_list, isi_int_tuple, isi_int_dict, isi_str_bool, isi_str_int, isi_str_str, isi_str_list, isi_str_tuple, isi_str_dict, isi_lst_bool, isi_lst_int, isi_lst_str, isi_lst_list, isi_lst_tuple, isi_lst_dict, isi_src_bool, isi_src_int, isi_src_str, isi_src_list, isi_src_tuple, isi_src_dict, isi_tup_bool, isi_tup_int, isi_tup_str, isi_tup_list, isi_tup_tuple, isi_tup_dict, isi_dct_bool, isi_dct_int, isi_dct_str, isi_dct_list, isi_dct_tuple, isi_dct_dict, g_nm, g_tp2, g_tp3, g_tp4, g_nil, g_cons, List.getElem?_cons_succ, List.getElem?_cons_zero, List.set_cons_succ, List.set_cons_zero, truD, if_false, Bool.false_eq_true]
        refine kont_nx ?_
        simp only [wpS_seq, wpS_gNm, wpS_asg, wpS_ifS, wpS_drop, wpS_ret, wpS_retN, wpS_stF, wpS_augF, wpS_augI, wpS_augV, wpS_par', wpS_par3', wpS_some, wpS_mNx, wpS_mCt, wpS_mBk, kont_rt, kont_ct, kont_bk, fin_rt, fin_nx, wp_mK, wp_v, vO_some, wp_ret, wp_bnd, wp_op, wp_op1, wp_call, wp_fn, wp_cons, wp_nil, wp_tup, wp_lst, wp_obj, wp_oNone, wp_oSome, intO_int, wp_sl, wp_mIf, wp_mAnd, wp_mOr, wp_mNot, wp_mB, wp_mAndV, wp_mOrV, wp_mNotV, wp_mChain, wp_mTru, isBl_bl, truO_some, x_addI, x_addJ, x_sub, x_mod, x_div, x_mul, x_pow, x_shl, x_shr, x_band, x_bor, x_bxor, x_lt, x_le, x_gt, x_ge, x_neg, x_eqI, x_neI, x_eqS, x_neS, x_isN, x_isNN, x_int, x_abs, x_max2, x_min2, x_d1, x_d2, x_mkL, x_mkT, x_mkO, x_mkD, x_mkDo, x_ix, ixO_some, x_len, lenO_some, x_list, wpO_some, x_slT, x_slL, x_addLL, x_addTT, blO_some, x_isi, wp_isiT, x_fld, x_getI, wp_mMeth, wp_mMake, wp_mMt, wp_mLc, wp_mIt, wp_range1, wp_range2, wp_range3, wpS_for, isi_non_bool, isi_non_int, isi_non_str, isi_non_list, isi_non_tuple, isi_non_dict, isi_bl_bool, isi_bl_int, isi_bl_str, isi_bl_list, isi_bl_tuple, isi_bl_dict, isi_int_bool, isi_int_int, isi_int_str, isi_int_list, isi_int_tuple, isi_int_dict, isi_str_bool, isi_str_int, isi_str_str, isi_str_list, isi_str_tuple, isi_str_dict, isi_lst_bool, isi_lst_int, isi_lst_str, isi_lst_list, isi_lst_tuple, isi_lst_dict, isi_src_bool, isi_src_int, isi_src_str, isi_src_list, isi_src_tuple, isi_src_dict, isi_tup_bool, isi_tup_int, isi_tup_str, isi_tup_list, isi_tup_tuple, isi_tup_dict, isi_dct_bool, isi_dct_int, isi_dct_str, isi_dct_list, isi_dct_tuple, isi_dct_dict, g_nm, g_tp2, g_tp3, g_tp4, g_nil, g_cons, List.getElem?_cons_succ, List.getElem?_cons_zero, List.set_cons_succ, List.set_cons_zero, truD, if_false, Bool.false_eq_true]
        refine kont_nx ?_
        simp only [wpS_seq, wpS_gNm, wpS_asg, wpS_ifS, wpS_drop, wpS_ret, wpS_retN, wpS_stF, wpS_augF, wpS_augI, wpS_augV, wpS_par', wpS_par3', wpS_some, wpS_mNx, wpS_mCt, wpS_mBk, kont_rt, kont_ct, kont_bk, fin_rt, fin_nx, wp_mK, wp_v, vO_some, wp_ret, wp_bnd, wp_op, wp_op1, wp_call, wp_fn, wp_cons, wp_nil, wp_tup, wp_lst, wp_obj, wp_oNone, wp_oSome, intO_int, wp_sl, wp_mIf, wp_mAnd, wp_mOr, wp_mNot, wp_mB, wp_mAndV, wp_mOrV, wp_mNotV, wp_mChain, wp_mTru, isBl_bl, truO_some, x_addI, x_addJ, x_sub, x_mod, x_div, x_mul, x_pow, x_shl, x_shr, x_band, x_bor, x_bxor, x_lt, x_le, x_gt, x_ge, x_neg, x_eqI, x_neI, x_eqS, x_neS, x_isN, x_isNN, x_int, x_abs, x_max2, x_min2, x_d1, x_d2, x_mkL, x_mkT, x_mkO, x_mkD, x_mkDo, x_ix, ixO_some, x_len, lenO_some, x_list, wpO_some, x_slT, x_slL, x_addLL, x_addTT, blO_some, x_isi, wp_isiT, x_fld, x_getI, wp_mMeth, wp_mMake, wp_mMt, wp_mLc, wp_mIt, wp_range1, wp_range2, wp_range3, wpS_for, isi_non_bool, isi_non_int, isi_non_str, isi_non_list, isi_non_tuple, isi_non_dict, isi_bl_bool, isi_bl_int, isi_bl_str, isi_bl_list, isi_bl_tuple, isi_bl_dict, isi_int_bool, isi_int_int, isi_int_str, isi_int_list, isi_int_tuple, isi_int_dict, isi_str_bool, isi_str_int, isi_str_str, isi_str_list, isi_str_tuple, isi_str_dict, isi_lst_bool, isi_lst_int, isi_lst_str, isi_lst_list, isi_lst_tuple, isi_lst_dict, isi_src_bool, isi_src_int, isi_src_str, isi_src_list, isi_src_tuple, isi_src_dict, isi_tup_bool, isi_tup_int, isi_tup_str, isi_tup_list, isi_tup_tuple, isi_tup_dict, isi_dct_bool, isi_dct_int, isi_dct_str, isi_dct_list, isi_dct_tuple, isi_dct_dict, g_nm, g_tp2, g_tp3, g_tp4, g_nil, g_cons, List.getElem?_cons_succ, List.getElem?_cons_zero, List.set_cons_succ, List.set_cons_zero, truD, if_false, Bool.false_eq_true]
        refine kont_nx ?_
        simp only [wpS_seq, wpS_gNm, wpS_asg, wpS_ifS, wpS_drop, wpS_ret, wpS_retN, wpS_stF, wpS_augF, wpS_augI, wpS_augV, wpS_par', wpS_par3', wpS_some, wpS_mNx, wpS_mCt, wpS_mBk, kont_rt, kont_ct, kont_bk, fin_rt, fin_nx, wp_mK, wp_v, vO_some, wp_ret, wp_bnd, wp_op, wp_op1, wp_call, wp_fn, wp_cons, wp_nil, wp_tup, wp_lst, wp_obj, wp_oNone, wp_oSome, intO_int, wp_sl, wp_mIf, wp_mAnd, wp_mOr, wp_mNot, wp_mB, wp_mAndV, wp_mOrV, wp_mNotV, wp_mChain, wp_mTru, isBl_bl, truO_some, x_addI, x_addJ, x_sub, x_mod, x_div, x_mul, x_pow, x_shl, x_shr, x_band, x_bor, x_bxor, x_lt, x_le, x_gt, x_ge, x_neg, x_eqI, x_neI, x_eqS, x_neS, x_isN, x_isNN, x_int, x_abs, x_max2, x_min2, x_d1, x_d2, x_mkL, x_mkT, x_mkO, x_mkD, x_mkDo, x_ix, ixO_some, x_len, lenO_some, x_list, wpO_some, x_slT, x_slL, x_addLL, x_addTT, blO_some, x_isi, wp_isiT, x_fld, x_getI, wp_mMeth, wp_mMake, wp_mMt, wp_mLc, wp_mIt, wp_range1, wp_range2, wp_range3, wpS_for, isi_non_bool, isi_non_int, isi_non_str, isi_non_list, isi_non_tuple, isi_non_dict, isi_bl_bool, isi_bl_int, isi_bl_str, isi_bl_list, isi_bl_tuple, isi_bl_dict, isi_int_bool, isi_int_int, isi_int_str, isi_int_list, isi_int_tuple, isi_int_dict, isi_str_bool, isi_str_int, isi_str_str, isi_str_list, isi_str_tuple, isi_str_dict, isi_lst_bool, isi_lst_int, isi_lst_str, isi_lst_list, isi_lst_tuple, isi_lst_dict, isi_src_bool, isi_src_int, isi_src_str, isi_src_list, isi_src_tuple, isi_src_dict, isi_tup_bool, isi_tup_int, isi_tup_str, isi_tup_list, isi_tup_tuple, isi_tup_dict, isi_dct_bool, isi_dct_int, isi_dct_str, isi_dct_list, isi_dct_tuple, isi_dct_dict, g_nm, g_tp2, g_tp3, g_tp4, g_nil, g_cons, List.getElem?_cons_succ, List.getElem?_cons_zero, List.set_cons_succ, List.set_cons_zero, truD, if_false, Bool.false_eq_true]
        refine kont_nx ?_
        simp only [wpS_seq, wpS_gNm, wpS_asg, wpS_ifS, wpS_drop, wpS_ret, wpS_retN, wpS_stF, wpS_augF, wpS_augI, wpS_augV, wpS_par', wpS_par3', wpS_some, wpS_mNx, wpS_mCt, wpS_mBk, kont_rt, kont_ct, kont_bk, fin_rt, fin_nx, wp_mK, wp_v, vO_some, wp_ret, wp_bnd, wp_op, wp_op1, wp_call, wp_fn, wp_cons, wp_nil, wp_tup, wp_lst, wp_obj, wp_oNone, wp_oSome, intO_int, wp_sl, wp_mIf, wp_mAnd, wp_mOr, wp_mNot, wp_mB, wp_mAndV, wp_mOrV, wp_mNotV, wp_mChain, wp_mTru, isBl_bl, truO_some, x_addI, x_addJ, x_sub, x_mod, x_div, x_mul, x_pow, x_shl, x_shr, x_band, x_bor, x_bxor, x_lt, x_le, x_gt, x_ge, x_neg, x_eqI, x_neI, x_eqS, x_neS, x_isN, x_isNN, x_int, x_abs, x_max2, x_min2, x_d1, x_d2, x_mkL, x_mkT, x_mkO, x_mkD, x_mkDo, x_ix, ixO_some, x_len, lenO_some, x_list, wpO_some, x_slT, x_slL, x_addLL, x_addTT, blO_some, x_isi, wp_isiT, x_fld, x_getI, wp_mMeth, wp_mMake, wp_mMt, wp_mLc, wp_mIt, wp_range1, wp_range2, wp_range3, wpS_for, isi_non_bool, isi_non_int, isi_non_str, isi_non_list, isi_non_tuple, isi_non_dict, isi_bl_bool, isi_bl_int, isi_bl_str, isi_bl_list, isi_bl_tuple, isi_bl_dict, isi_int_bool, isi_int_int, isi_int_str, isi_int_list, isi_int_tuple, isi_int_dict, isi_str_bool, isi_str_int, isi_str_str, isi_str_list, isi_str_tuple, isi_str_dict, isi_lst_bool, isi_lst_int, isi_lst_str, isi_lst_list, isi_lst_tuple, isi_lst_dict, isi_src_bool, isi_src_int, isi_src_str, isi_src_list, isi_src_tuple, isi_src_dict, isi_tup_bool, isi_tup_int, isi_tup_str, isi_tup_list, isi_tup_tuple, isi_tup_dict, isi_dct_bool, isi_dct_int, isi_dct_str, isi_dct_list, isi_dct_tuple, isi_dct_dict, g_nm, g_tp2, g_tp3, g_tp4, g_nil, g_cons, List.getElem?_cons_succ, List.getElem?_cons_zero, List.set_cons_succ, List.set_cons_zero, truD, if_false, Bool.false_eq_true]
        refine kont_nx ?_
        exact seqEnd rfl rfl rfl rfl (fun i => rfl) (fun i => rfl) hl hz (fun i d e hd he => same_at (h i d e hd he)) ⟨rfl, rfl⟩
    obtain ⟨v, S', e, rfl, rfl⟩ := wp_to w
    exact e
/-! dicts -/
theorem dct_lock {n : Nat} {o o' : MO} (e : S.get n = some o) (h : lockOf o = some o') (d : D) : dctOf (S.set n o') d = dctOf S d := by
  cases d with
  | obj k =>
    unfold dctOf
    dsimp only
    by_cases c : k = n
    · subst c
      rw [get_same, e]
      cases o <;> first | (cases h; rfl) | cases h
    · rw [get_ne c]
  | _ => rfl
theorem itk_no {env : En} {i : Nat} {d : D} {kvs : List (Key × D)} (he : env[i]? = some (some d)) (hl : dctOf S d = some kvs) (c : needLk S env [i] = false) : itAny S d = some (keysD kvs) := by
  cases d with
  | obj n =>
    unfold dctOf at hl
    unfold itAny
    dsimp only at hl ⊢
    cases e : S.get n with
    | none => rw [e] at hl; cases hl
    | some o =>
      rw [e] at hl
      have := need_no (d := .obj n) he e c
      cases o with
      | dk _ => cases this
      | lk _ => cases hl; rfl
      | _ => cases hl
  | dct _ => cases hl; rfl
  | _ => cases hl
theorem itk_lk {n : Nat} {o o' : MO} {kvs : List (Key × D)} (hl : dctOf S (.obj n) = some kvs) (ho : S.get n = some o) (hk : lockOf o = some o') : itAny (S.set n o') (.obj n) = some (keysD kvs) := by
  unfold dctOf at hl
  dsimp only at hl
  rw [ho] at hl
  unfold itAny
  dsimp only
  rw [get_same]
  cases o with
  | dk _ => cases hk; cases hl; rfl
  | _ => first | (cases hk; done) | (cases hl; done)
theorem comp_dct {env : En} {i j : Nat} {d : D} {kvs : List (Key × D)} {te : ME} {f : D → D} (he : env[i]? = some (some d)) (hl : dctOf S d = some kvs) (hz : kvs.length ≤ 16777216) (hp : ∀ x ∈ keysD kvs, ∀ S' : MS, (∀ d, dctOf S' d = dctOf S d) → te ((env.set j none).set j (some x)) S' = some (.ok (f x) S')) :
    mLkM [i] (mLc (mIt (mV i)) (gNm j) mYes te [j] mkL) env S = some (.ok (.lst ((keysD kvs).map f)) S) := by
  have hz' : (keysD kvs).length ≤ 16777216 := by unfold keysD; rw [List.length_map]; exact hz
  have core : ∀ S' : MS, (∀ d, dctOf S' d = dctOf S d) → itAny S' d = some (keysD kvs) → mLc (mIt (mV i)) (gNm j) mYes te [j] mkL env S' = some (.ok (.lst ((keysD kvs).map f)) S') := by
    intro S' hd hi
    have e1 : mIt (mV i) env S' = some (.ok (keysD kvs) S') := by
      unfold mIt
      rw [bnd_ok (m := mV i env) (a := d) (S' := S') (by unfold mV; rw [he])]
      rw [hi]
    unfold mLc
    rw [bnd_ok e1, bnd_ok (lc_pure (f := f) fun x hx => ⟨_, rfl, rfl, hp x hx S' hd⟩), if_pos (by rw [List.length_map]; exact hz')]
    unfold mkL
    rw [if_pos (by rw [List.length_map]; exact hz')]
  refine lkm_pure (fun c => core S (fun _ => rfl) (itk_no he hl c)) fun n o o' h1 h2 h3 => core _ (dct_lock h2 h3) ?_
  obtain rfl := ref_i he h1
  exact itk_lk hl h2 h3
theorem kind_dct {d : D} {kvs : List (Key × D)} (h : dctOf S d = some kvs) : kindOf S d = some "dict" := by
  cases d with
  | dct _ => rfl
  | obj n =>
    rw [kind_obj]
    unfold dctOf at h
    dsimp only at h
    cases e : S.get n with
    | none => rw [e] at h; cases h
    | some o =>
      rw [e] at h
      cases o <;> first | rfl | cases h
  | _ => cases h
theorem isi_dct {d : D} {kvs : List (Key × D)} {T : String} (h : dctOf S d = some kvs) : isiO S d T = isiB "dict" T := by
  unfold isiO
  rw [kind_dct h]
theorem isiB_dict : isiB "dict" "dict" = some true := by rfl
theorem isiB_dict_bool : isiB "dict" "bool" = some false := by rfl
theorem isiB_dict_int : isiB "dict" "int" = some false := by rfl
theorem isiB_dict_str : isiB "dict" "str" = some false := by rfl
theorem isN_dct {d : D} {kvs : List (Key × D)} (h : dctOf S d = some kvs) : isNon d = false := by
  cases d <;> first | rfl | cases h
theorem len_dct {d : D} {kvs : List (Key × D)} (h : dctOf S d = some kvs) : lenB S d = some (kvs.length : Int) := by
  unfold lenB
  rw [h]
theorem toKey_keyD (k : Key) : toKey (keyD k) = some k := by cases k <;> rfl
theorem same_dct {k : Nat} {x y : D} {kx ky : List (Key × D)} (hx : dctOf S x = some kx) (hy : dctOf S y = some ky) (hl : kx.length = ky.length) (hz : ky.length ≤ 16777216)
    (hv : ∀ p ∈ ky, ∃ d e, dLook kx p.1 = some d ∧ dLook ky p.1 = some e ∧ ∀ S', mSame k [d, e] S' = some (.ok (.bl true) S')) : mSame (k + 1) [x, y] S = some (.ok (.bl true) S) := by
  have w : wp (mSame (k + 1) [x, y]) S (fun v S' => v = .bl true ∧ S' = S) no := by
    rw [e_same]
    unfold bSame
    simp only [wpS_seq, wpS_gNm, wpS_asg, wpS_ifS, wpS_drop, wpS_ret, wpS_retN, wpS_stF, wpS_augF, wpS_augI, wpS_augV, wpS_par', wpS_par3', wpS_some, wpS_mNx, wpS_mCt, wpS_mBk, kont_rt, kont_ct, kont_bk, fin_rt, fin_nx, wp_mK, wp_v, vO_some, wp_ret, wp_bnd, wp_op, wp_op1, wp_call, wp_fn, wp_cons, wp_nil, wp_tup, wp_lst, wp_obj, wp_oNone, wp_oSome, intO_int, wp_sl, wp_mIf, wp_mAnd, wp_mOr, wp_mNot, wp_mB, wp_mAndV, wp_mOrV, wp_mNotV, wp_mChain, wp_mTru, isBl_bl, truO_some, x_addI, x_addJ, x_sub, x_mod, x_div, x_mul, x_pow, x_shl, x_shr, x_band, x_bor, x_bxor, x_lt, x_le, x_gt, x_ge, x_neg, x_eqI, x_neI, x_eqS, x_neS, x_isN, x_isNN, x_int, x_abs, x_max2, x_min2, x_d1, x_d2, x_mkL, x_mkT, x_mkO, x_mkD, x_mkDo, x_ix, ixO_some, x_len, lenO_some, x_list, wpO_some, x_slT, x_slL, x_addLL, x_addTT, blO_some, x_isi, wp_isiT, x_fld, x_getI, wp_mMeth, wp_mMake, wp_mMt, wp_mLc, wp_mIt, wp_range1, wp_range2, wp_range3, wpS_for, isi_non_bool, isi_non_int, isi_non_str, isi_non_list, isi_non_tuple, isi_non_dict, isi_bl_bool, isi_bl_int, isi_bl_str, isi_bl_list, isi_bl_tuple, isi_bl_dict, isi_int_bool, isi_int_int, isi_int_str, isi_int_list, isi_int_tuple, isi_int_dict, isi_str_bool, isi_str_int, isi_str_str, isi_str_list, isi_str_tuple, isi_str_dict, isi_lst_bool, isi_lst_int, isi_lst_str, isi_lst_list, isi_lst_tuple, isi_lst_dict, isi_src_bool, isi_src_int, isi_src_str, isi_src_list, isi_src_tuple, isi_src_dict, isi_tup_bool, isi_tup_int, isi_tup_str, isi_tup_list, isi_tup_tuple, isi_tup_dict, isi_dct_bool, isi_dct_int, isi_dct_str, isi_dct_list, isi_dct_tuple, isi_dct_dict, g_nm, g_tp2, g_tp3, g_tp4, g_nil, g_cons, List.getElem?_cons_succ, List.getElem?_cons_zero, List.set_cons_succ, List.set_cons_zero, truD, isN_dct hy, if_false, Bool.false_eq_true]
    refine kont_nx ?_
    simp only [wpS_seq, wpS_gNm, wpS_asg, wpS_ifS, wpS_drop, wpS_ret, wpS_retN, wpS_stF, wpS_augF, wpS_augI, wpS_augV, wpS_par', wpS_par3', wpS_some, wpS_mNx, wpS_mCt, wpS_mBk, kont_rt, kont_ct, kont_bk, fin_rt, fin_nx, wp_mK, wp_v, vO_some, wp_ret, wp_bnd, wp_op, wp_op1, wp_call, wp_fn, wp_cons, wp_nil, wp_tup, wp_lst, wp_obj, wp_oNone, wp_oSome, intO_int, wp_sl, wp_mIf, wp_mAnd, wp_mOr, wp_mNot, wp_mB, wp_mAndV, wp_mOrV, wp_mNotV, wp_mChain, wp_mTru, isBl_bl, truO_some, x_addI, x_addJ, x_sub, x_mod, x_div, x_mul, x_pow, x_shl, x_shr, x_band, x_bor, x_bxor, x_lt, x_le, x_gt, x_ge, x_neg, x_eqI, x_neI, x_eqS, x_neS, x_isN, x_isNN, x_int, x_abs, x_max2, x_min2, x_d1, x_d2, x_mkL, x_mkT, x_mkO, x_mkD, x_mkDo, x_ix, ixO_some, x_len, lenO_some, x_list, wpO_some, x_slT, x_slL, x_addLL, x_addTT, blO_some, x_isi, wp_isiT, x_fld, x_getI, wp_mMeth, wp_mMake, wp_mMt, wp_mLc, wp_mIt, wp_range1, wp_range2, wp_range3, wpS_for, isi_non_bool, isi_non_int, isi_non_str, isi_non_list, isi_non_tuple, isi_non_dict, isi_bl_bool, isi_bl_int, isi_bl_str, isi_bl_list, isi_bl_tuple, isi_bl_dict, isi_int_bool, isi_int_int, isi_int_str, isi_int_list, isi_int_tuple, isi_int_dict, isi_str_bool, isi_str_int, isi_str_str, isi_str_list, isi_str_tuple, isi_str_dict, isi_lst_bool, isi_lst_int, isi_lst_str, isi_lst_list, isi_lst_tuple, isi_lst_dict, isi_src_bool, isi_src_int, isi_src_str, isi_src_list, isi_src_tuple, isi_src_dict, isi_tup_bool, isi_tup_int, isi_tup_str, isi_tup_list, isi_tup_tuple, isi_tup_dict, isi_dct_bool, isi_dct_int, isi_dct_str, isi_dct_list, isi_dct_tuple, isi_dct_dict, g_nm, g_tp2, g_tp3, g_tp4, g_nil, g_cons, List.getElem?_cons_succ, List.getElem?_cons_zero, List.set_cons_succ, List.set_cons_zero, truD, if_false, Bool.false_eq_true, isi_dct hy, isiB_dict_bool]
    refine kont_nx ?_
    simp only [wpS_seq, wpS_gNm, wpS_asg, wpS_ifS, wpS_drop, wpS_ret, wpS_retN, wpS_stF, wpS_augF, wpS_augI, wpS_augV, wpS_par', wpS_par3', wpS_some, wpS_mNx, wpS_mCt, wpS_mBk, kont_rt, kont_ct, kont_bk, fin_rt, fin_nx, wp_mK, wp_v, vO_some, wp_ret, wp_bnd, wp_op, wp_op1, wp_call, wp_fn, wp_cons, wp_nil, wp_tup, wp_lst, wp_obj, wp_oNone, wp_oSome, intO_int, wp_sl, wp_mIf, wp_mAnd, wp_mOr, wp_mNot, wp_mB, wp_mAndV, wp_mOrV, wp_mNotV, wp_mChain, wp_mTru, isBl_bl, truO_some, x_addI, x_addJ, x_sub, x_mod, x_div, x_mul, x_pow, x_shl, x_shr, x_band, x_bor, x_bxor, x_lt, x_le, x_gt, x_ge, x_neg, x_eqI, x_neI, x_eqS, x_neS, x_isN, x_isNN, x_int, x_abs, x_max2, x_min2, x_d1, x_d2, x_mkL, x_mkT, x_mkO, x_mkD, x_mkDo, x_ix, ixO_some, x_len, lenO_some, x_list, wpO_some, x_slT, x_slL, x_addLL, x_addTT, blO_some, x_isi, wp_isiT, x_fld, x_getI, wp_mMeth, wp_mMake, wp_mMt, wp_mLc, wp_mIt, wp_range1, wp_range2, wp_range3, wpS_for, isi_non_bool, isi_non_int, isi_non_str, isi_non_list, isi_non_tuple, isi_non_dict, isi_bl_bool, isi_bl_int, isi_bl_str, isi_bl_list, isi_bl_tuple, isi_bl_dict, isi_int_bool, isi_int_int, isi_int_str, isi_int_list, isi_int_tuple, isi_int_dict, isi_str_bool, isi_str_int, isi_str_str, isi_str_list, isi_str_tuple, isi_str_dict, isi_lst_bool, isi_lst_int, isi_lst_str, isi_lst_list, isi_lst_tuple, isi_lst_dict, isi_src_bool, isi_src_int, isi_src_str, isi_src_list, isi_src_tuple, isi_src_dict, isi_tup_bool, isi_tup_int, isi_tup_str, isi_tup_list, isi_tup_tuple, isi_tup_dict, isi_dct_bool, isi_dct_int, isi_dct_str, isi_dct_list, isi_dct_tuple, isi_dct_dict, g_nm, g_tp2, g_tp3, g_tp4, g_nil, g_cons, List.getElem?_cons_succ, List.getElem?_cons_zero, List.set_cons_succ, List.set_cons_zero, truD, if_false, Bool.false_eq_true, isi_dct hy, isiB_dict_int]
    refine kont_nx ?_
    simp only [wpS_seq, wpS_gNm, wpS_asg, wpS_ifS, wpS_drop, wpS_ret, wpS_retN, wpS_stF, wpS_augF, wpS_augI, wpS_augV, wpS_par', wpS_par3', wpS_some, wpS_mNx, wpS_mCt, wpS_mBk, kont_rt, kont_ct, kont_bk, fin_rt, fin_nx, wp_mK, wp_v, vO_some, wp_ret, wp_bnd, wp_op, wp_op1, wp_call, wp_fn, wp_cons, wp_nil, wp_tup, wp_lst, wp_obj, wp_oNone, wp_oSome, intO_int, wp_sl, wp_mIf, wp_mAnd, wp_mOr, wp_mNot, wp_mB, wp_mAndV, wp_mOrV, wp_mNotV, wp_mChain, wp_mTru, isBl_bl, truO_some, x_addI, x_addJ, x_sub, x_mod, x_div, x_mul, x_pow, x_shl, x_shr, x_band, x_bor, x_bxor, x_lt, x_le, x_gt, x_ge, x_neg, x_eqI, x_neI, x_eqS, x_neS, x_isN, x_isNN, x_int, x_abs, x_max2, x_min2, x_d1, x_d2, x_mkL, x_mkT, x_mkO, x_mkD, x_mkDo, x_ix, ixO_some, x_len, lenO_some, x_list, wpO_some, x_slT, x_slL, x_addLL, x_addTT, blO_some, x_isi, wp_isiT, x_fld, x_getI, wp_mMeth, wp_mMake, wp_mMt, wp_mLc, wp_mIt, wp_range1, wp_range2, wp_range3, wpS_for, isi_non_bool, isi_non_int, isi_non_str, isi_non_list, isi_non_tuple, isi_non_dict, isi_bl_bool, isi_bl_int, isi_bl_str, isi_bl_list, isi_bl_tuple, isi_bl_dict, isi_int_bool, isi_int_int, isi_int_str, isi_int_list, isi_int_tuple, isi_int_dict, isi_str_bool, isi_str_int, isi_str_str, isi_str_list, isi_str_tuple, isi_str_dict, isi_lst_bool, isi_lst_int, isi_lst_str, isi_lst_list, isi_lst_tuple, isi_lst_dict, isi_src_bool, isi_src_int, isi_src_str, isi_src_list, isi_src_tuple, isi_src_dict, isi_tup_bool, isi_tup_int, isi_tup_str, isi_tup_list, isi_tup_tuple, isi_tup_dict, isi_dct_bool, isi_dct_int, isi_dct_str, isi_dct_list, isi_dct_tuple, isi_dct_dict, g_nm, g_tp2, g_tp3, g_tp4, g_nil, g_cons, List.getElem?_cons_succ, List.getElem?_cons_zero, List.set_cons_succ, List.set_cons_zero, truD, if_false, Bool.false_eq_true, isi_dct hy, isiB_dict_str]
    refine kont_nx ?_
    simp only [wpS_seq, wpS_gNm, wpS_asg, wpS_ifS, wpS_drop, wpS_ret, wpS_retN, wpS_stF, wpS_augF, wpS_augI, wpS_augV, wpS_par', wpS_par3', wpS_some, wpS_mNx, wpS_mCt, wpS_mBk, kont_rt, kont_ct, kont_bk, fin_rt, fin_nx, wp_mK, wp_v, vO_some, wp_ret, wp_bnd, wp_op, wp_op1, wp_call, wp_fn, wp_cons, wp_nil, wp_tup, wp_lst, wp_obj, wp_oNone, wp_oSome, intO_int, wp_sl, wp_mIf, wp_mAnd, wp_mOr, wp_mNot, wp_mB, wp_mAndV, wp_mOrV, wp_mNotV, wp_mChain, wp_mTru, isBl_bl, truO_some, x_addI, x_addJ, x_sub, x_mod, x_div, x_mul, x_pow, x_shl, x_shr, x_band, x_bor, x_bxor, x_lt, x_le, x_gt, x_ge, x_neg, x_eqI, x_neI, x_eqS, x_neS, x_isN, x_isNN, x_int, x_abs, x_max2, x_min2, x_d1, x_d2, x_mkL, x_mkT, x_mkO, x_mkD, x_mkDo, x_ix, ixO_some, x_len, lenO_some, x_list, wpO_some, x_slT, x_slL, x_addLL, x_addTT, blO_some, x_isi, wp_isiT, x_fld, x_getI, wp_mMeth, wp_mMake, wp_mMt, wp_mLc, wp_mIt, wp_range1, wp_range2, wp_range3, wpS_for, isi_non_bool, isi_non_int, isi_non_str, isi_non_list, isi_non_tuple, isi_non_dict, isi_bl_bool, isi_bl_int, isi_bl_str, isi_bl_list, isi_bl_tuple, isi_bl_dict, isi_int_bool, isi_int_int, isi_int_str, isi_int_list, isi_int_tuple, isi_int_dict, isi_str_bool, isi_str_int, isi_str_str, isi_str_list, isi_str_tuple, isi_str_dict, isi_lst_bool, isi_lst_int, isi_lst_str, isi_lst_list, isi_lst_tuple, isi_lst_dict, isi_src_bool, isi_src_int, isi_src_str, isi_src_list, isi_src_tuple, isi_src_dict, isi_tup_bool, isi_tup_int, isi_tup_str, isi_tup_list, isi_tup_tuple, isi_tup_dict, isi_dct_bool, isi_dct_int, isi_dct_str, isi_dct_list, isi_dct_tuple, isi_dct_dict, g_nm, g_tp2, g_tp3, g_tp4, g_nil, g_cons, List.getElem?_cons_succ, List.getElem?_cons_zero, List.set_cons_succ, List.set_cons_zero, truD, if_true, if_false, Bool.false_eq_true, isi_dct hy, isi_dct hx, isiB_dict, Bool.not_true, len_dct hx, len_dct hy, hl, decide_true]
    have c1 := comp_dct (S := S) (env := [some x, some y, none, none, none]) (i := 1) (j := 3) (te := mOp dIn (mV 3) (mV 0)) (f := fun _ => .bl true) rfl hy hz (fun q hq S' hd => by
      unfold keysD at hq
      obtain ⟨p, hp, rfl⟩ := List.mem_map.mp hq
      obtain ⟨d, e, h1, h2, _⟩ := hv p hp
      have w : wp (mOp dIn (mV 3) (mV 0) [some x, some y, none, some (keyD p.1), none]) S' (fun v S'' => v = .bl true ∧ S'' = S') no := by
        have e1 : dInB S' (keyD p.1) x = some true := by
          unfold dInB
          rw [hd x, hx]
          dsimp only
          rw [toKey_keyD]
          dsimp only
          rw [h1] <;> rfl
        simp only [wpS_seq, wpS_gNm, wpS_asg, wpS_ifS, wpS_drop, wpS_ret, wpS_retN, wpS_stF, wpS_augF, wpS_augI, wpS_augV, wpS_par', wpS_par3', wpS_some, wpS_mNx, wpS_mCt, wpS_mBk, kont_rt, kont_ct, kont_bk, fin_rt, fin_nx, wp_mK, wp_v, vO_some, wp_ret, wp_bnd, wp_op, wp_op1, wp_call, wp_fn, wp_cons, wp_nil, wp_tup, wp_lst, wp_obj, wp_oNone, wp_oSome, intO_int, wp_sl, wp_mIf, wp_mAnd, wp_mOr, wp_mNot, wp_mB, wp_mAndV, wp_mOrV, wp_mNotV, wp_mChain, wp_mTru, isBl_bl, truO_some, x_addI, x_addJ, x_sub, x_mod, x_div, x_mul, x_pow, x_shl, x_shr, x_band, x_bor, x_bxor, x_lt, x_le, x_gt, x_ge, x_neg, x_eqI, x_neI, x_eqS, x_neS, x_isN, x_isNN, x_int, x_abs, x_max2, x_min2, x_d1, x_d2, x_mkL, x_mkT, x_mkO, x_mkD, x_mkDo, x_ix, ixO_some, x_len, lenO_some, x_list, wpO_some, x_slT, x_slL, x_addLL, x_addTT, blO_some, x_isi, wp_isiT, x_fld, x_getI, wp_mMeth, wp_mMake, wp_mMt, wp_mLc, wp_mIt, wp_range1, wp_range2, wp_range3, wpS_for, isi_non_bool, isi_non_int, isi_non_str, isi_non_list, isi_non_tuple, isi_non_dict, isi_bl_bool, isi_bl_int, isi_bl_str, isi_bl_list, isi_bl_tuple, isi_bl_dict, isi_int_bool, isi_int_int, isi_int_str, isi_int_list, isi_int_tuple, isi_int_dict, isi_str_bool, isi_str_int, isi_str_str, isi_str_list, isi_str_tuple, isi_str_dict, isi_lst_bool, isi_lst_int, isi_lst_str, isi_lst_list, isi_lst_tuple, isi_lst_dict, isi_src_bool, isi_src_int, isi_src_str, isi_src_list, isi_src_tuple, isi_src_dict, isi_tup_bool, isi_tup_int, isi_tup_str, isi_tup_list, isi_tup_tuple, isi_tup_dict, isi_dct_bool, isi_dct_int, isi_dct_str, isi_dct_list, isi_dct_tuple, isi_dct_dict, g_nm, g_tp2, g_tp3, g_tp4, g_nil, g_cons, List.getElem?_cons_succ, List.getElem?_cons_zero, List.set_cons_succ, List.set_cons_zero, truD, x_in, e1]
        exact ⟨trivial, trivial⟩
      obtain ⟨v, S'', e3, rfl, rfl⟩ := wp_to w
      exact e3)
    rw [wp_of c1, x_all (bs := (keysD ky).map fun _ => true) (blsOf_map fun _ _ => rfl)]
    have t1 : ((keysD ky).map fun _ => true).all id = true := by simp
    rw [t1]
    simp only [wpS_seq, wpS_gNm, wpS_asg, wpS_ifS, wpS_drop, wpS_ret, wpS_retN, wpS_stF, wpS_augF, wpS_augI, wpS_augV, wpS_par', wpS_par3', wpS_some, wpS_mNx, wpS_mCt, wpS_mBk, kont_rt, kont_ct, kont_bk, fin_rt, fin_nx, wp_mK, wp_v, vO_some, wp_ret, wp_bnd, wp_op, wp_op1, wp_call, wp_fn, wp_cons, wp_nil, wp_tup, wp_lst, wp_obj, wp_oNone, wp_oSome, intO_int, wp_sl, wp_mIf, wp_mAnd, wp_mOr, wp_mNot, wp_mB, wp_mAndV, wp_mOrV, wp_mNotV, wp_mChain, wp_mTru, isBl_bl, truO_some, x_addI, x_addJ, x_sub, x_mod, x_div, x_mul, x_pow, x_shl, x_shr, x_band, x_bor, x_bxor, x_lt, x_le, x_gt, x_ge, x_neg, x_eqI, x_neI, x_eqS, x_neS, x_isN, x_isNN, x_int, x_abs, x_max2, x_min2, x_d1, x_d2, x_mkL, x_mkT, x_mkO, x_mkD, x_mkDo, x_ix, ixO_some, x_len, lenO_some, x_list, wpO_some, x_slT, x_slL, x_addLL, x_addTT, blO_some, x_isi, wp_isiT, x_fld, x_getI, wp_mMeth, wp_mMake, wp_mMt, wp_mLc, wp_mIt, wp_range1, wp_range2, wp_range3, wpS_for, isi_non_bool, isi_non_int, isi_non_str, isi_non_list, isi_non_tuple, isi_non_dict, isi_bl_bool, isi_bl_int, isi_bl_str, isi_bl_list, isi_bl_tuple, isi_bl_dict, isi_int_bool, isi_int_int, isi_int_str, isi_int_list, isi_int_tuple, isi_int_dict, isi_str_bool, isi_str_int, isi_str_str, isi_str_list, isi_str_tuple, isi_str_dict, isi_lst_bool, isi_lst_int, isi_lst_str, isi_lst_list, isi_lst_tuple, isi_lst_dict, isi_src_bool, isi_src_int, isi_src_str, isi_src_list, isi_src_tuple, isi_src_dict, isi_tup_bool, isi_tup_int, isi_tup_str, isi_tup_list, isi_tup_tuple, isi_tup_dict, isi_dct_bool, isi_dct_int, isi_dct_str, isi_dct_list, isi_dct_tuple, isi_dct_dict, g_nm, g_tp2, g_tp3, g_tp4, g_nil, g_cons, List.getElem?_cons_succ, List.getElem?_cons_zero, List.set_cons_succ, List.set_cons_zero, truD, Bool.not_true, if_false, Bool.false_eq_true]
    refine kont_nx ?_
    simp only [wpS_seq, wpS_gNm, wpS_asg, wpS_ifS, wpS_drop, wpS_ret, wpS_retN, wpS_stF, wpS_augF, wpS_augI, wpS_augV, wpS_par', wpS_par3', wpS_some, wpS_mNx, wpS_mCt, wpS_mBk, kont_rt, kont_ct, kont_bk, fin_rt, fin_nx, wp_mK, wp_v, vO_some, wp_ret, wp_bnd, wp_op, wp_op1, wp_call, wp_fn, wp_cons, wp_nil, wp_tup, wp_lst, wp_obj, wp_oNone, wp_oSome, intO_int, wp_sl, wp_mIf, wp_mAnd, wp_mOr, wp_mNot, wp_mB, wp_mAndV, wp_mOrV, wp_mNotV, wp_mChain, wp_mTru, isBl_bl, truO_some, x_addI, x_addJ, x_sub, x_mod, x_div, x_mul, x_pow, x_shl, x_shr, x_band, x_bor, x_bxor, x_lt, x_le, x_gt, x_ge, x_neg, x_eqI, x_neI, x_eqS, x_neS, x_isN, x_isNN, x_int, x_abs, x_max2, x_min2, x_d1, x_d2, x_mkL, x_mkT, x_mkO, x_mkD, x_mkDo, x_ix, ixO_some, x_len, lenO_some, x_list, wpO_some, x_slT, x_slL, x_addLL, x_addTT, blO_some, x_isi, wp_isiT, x_fld, x_getI, wp_mMeth, wp_mMake, wp_mMt, wp_mLc, wp_mIt, wp_range1, wp_range2, wp_range3, wpS_for, isi_non_bool, isi_non_int, isi_non_str, isi_non_list, isi_non_tuple, isi_non_dict, isi_bl_bool, isi_bl_int, isi_bl_str, isi_bl_list, isi_bl_tuple, isi_bl_dict, isi_int_bool, isi_int_int, isi_int_str, isi_int_list, isi_int_tuple, isi_int_dict, isi_str_bool, isi_str_int, isi_str_str, isi_str_list, isi_str_tuple, isi_str_dict, isi_lst_bool, isi_lst_int, isi_lst_str, isi_lst_list, isi_lst_tuple, isi_lst_dict, isi_src_bool, isi_src_int, isi_src_str, isi_src_list, isi_src_tuple, isi_src_dict, isi_tup_bool, isi_tup_int, isi_tup_str, isi_tup_list, isi_tup_tuple, isi_tup_dict, isi_dct_bool, isi_dct_int, isi_dct_str, isi_dct_list, isi_dct_tuple, isi_dct_dict, g_nm, g_tp2, g_tp3, g_tp4, g_nil, g_cons, List.getElem?_cons_succ, List.getElem?_cons_zero, List.set_cons_succ, List.set_cons_zero, truD]
    have c2 := comp_dct (S := S) (env := [some x, some y, none, none, none]) (i := 1) (j := 3) (te := mCall (mSame k) (mCons (mOp dIx (mV 0) (mV 3)) (mCons (mOp dIx (mV 1) (mV 3)) mNil))) (f := fun _ => .bl true) rfl hy hz (fun q hq S' hd => by
      unfold keysD at hq
      obtain ⟨p, hp, rfl⟩ := List.mem_map.mp hq
      obtain ⟨d, e, h1, h2, h3⟩ := hv p hp
      have w : wp (mCall (mSame k) (mCons (mOp dIx (mV 0) (mV 3)) (mCons (mOp dIx (mV 1) (mV 3)) mNil)) [some x, some y, none, some (keyD p.1), none]) S' (fun v S'' => v = .bl true ∧ S'' = S') no := by
        have e1 : ixAt S' x (keyD p.1) = some d := by
          unfold ixAt
          rw [hd x, hx]
          dsimp only
          rw [toKey_keyD]
          exact h1
        have e2 : ixAt S' y (keyD p.1) = some e := by
          unfold ixAt
          rw [hd y, hy]
          dsimp only
          rw [toKey_keyD]
          exact h2
        simp only [wpS_seq, wpS_gNm, wpS_asg, wpS_ifS, wpS_drop, wpS_ret, wpS_retN, wpS_stF, wpS_augF, wpS_augI, wpS_augV, wpS_par', wpS_par3', wpS_some, wpS_mNx, wpS_mCt, wpS_mBk, kont_rt, kont_ct, kont_bk, fin_rt, fin_nx, wp_mK, wp_v, vO_some, wp_ret, wp_bnd, wp_op, wp_op1, wp_call, wp_fn, wp_cons, wp_nil, wp_tup, wp_lst, wp_obj, wp_oNone, wp_oSome, intO_int, wp_sl, wp_mIf, wp_mAnd, wp_mOr, wp_mNot, wp_mB, wp_mAndV, wp_mOrV, wp_mNotV, wp_mChain, wp_mTru, isBl_bl, truO_some, x_addI, x_addJ, x_sub, x_mod, x_div, x_mul, x_pow, x_shl, x_shr, x_band, x_bor, x_bxor, x_lt, x_le, x_gt, x_ge, x_neg, x_eqI, x_neI, x_eqS, x_neS, x_isN, x_isNN, x_int, x_abs, x_max2, x_min2, x_d1, x_d2, x_mkL, x_mkT, x_mkO, x_mkD, x_mkDo, x_ix, ixO_some, x_len, lenO_some, x_list, wpO_some, x_slT, x_slL, x_addLL, x_addTT, blO_some, x_isi, wp_isiT, x_fld, x_getI, wp_mMeth, wp_mMake, wp_mMt, wp_mLc, wp_mIt, wp_range1, wp_range2, wp_range3, wpS_for, isi_non_bool, isi_non_int, isi_non_str, isi_non_list, isi_non_tuple, isi_non_dict, isi_bl_bool, isi_bl_int, isi_bl_str, isi_bl_list, isi_bl_tuple, isi_bl_dict, isi_int_bool, isi_int_int, isi_int_str, isi_int_list, isi_int_tuple, isi_int_dict, isi_str_bool, isi_str_int, isi_str_str, isi_str_list, isi_str_tuple, isi_str_dict, isi_lst_bool, isi_lst_int, isi_lst_str, isi_lst_list, isi_lst_tuple, isi_lst_dict, isi_src_bool, isi_src_int, isi_src_str, isi_src_list, isi_src_tuple, isi_src_dict, isi_tup_bool, isi_tup_int, isi_tup_str, isi_tup_list, isi_tup_tuple, isi_tup_dict, isi_dct_bool, isi_dct_int, isi_dct_str, isi_dct_list, isi_dct_tuple, isi_dct_dict, g_nm, g_tp2, g_tp3, g_tp4, g_nil, g_cons, List.getElem?_cons_succ, List.getElem?_cons_zero, List.set_cons_succ, List.set_cons_zero, truD, e1, e2]
        rw [wp_of (h3 S')]
        exact ⟨rfl, rfl⟩
      obtain ⟨v, S'', e3, rfl, rfl⟩ := wp_to w
      exact e3)
    rw [wp_of c2, x_all (bs := (keysD ky).map fun _ => true) (blsOf_map fun _ _ => rfl), t1]
    exact ⟨rfl, rfl⟩
  obtain ⟨v, S', e, rfl, rfl⟩ := wp_to w
  exact e
/-- a list of draws -/
theorem lc_draws {n j lim : Nat} {env : En} {ds : List D} {Q : List D → MS → Prop} (he : env[1]? = some (some (.obj n))) (hj : j ≠ 1) (h : DrO S n) (h0 : 0 < lim) (h1 : lim < 1073741824)
    (k : ∀ (ns : List Nat) S', ns.length = ds.length → (∀ x ∈ ns, x < lim) → Dr n S S' → Q (ns.map fun x : Nat => D.int (x : Int)) S') : wp (lcM (gNm j) mYes (mCall mDraw (mCons (mV 1) (mCons (mK (.int (lim : Int))) mNil))) env ds) S Q E := by
  refine lc_inv (fun i acc S' => ∃ ns : List Nat, acc = (ns.map fun x : Nat => D.int (x : Int)) ∧ ns.length = i ∧ (∀ x ∈ ns, x < lim) ∧ Dr n S S') ⟨[], rfl, rfl, by simp, Dr.rfl' h⟩ ?_ fun acc S' ⟨ns, e, hl, hb, hd⟩ => by rw [e]; exact k ns S' hl hb hd
  rintro i d acc S' hi ⟨ns, rfl, hl, hb, hd⟩
  have e1 : (env.set j (some d))[1]? = some (some (.obj n)) := by rw [List.getElem?_set_ne (by omega)]; exact he
  simp only [wpS_seq, wpS_gNm, wpS_asg, wpS_ifS, wpS_drop, wpS_ret, wpS_retN, wpS_stF, wpS_augF, wpS_augI, wpS_augV, wpS_par', wpS_par3', wpS_some, wpS_mNx, wpS_mCt, wpS_mBk, kont_rt, kont_ct, kont_bk, fin_rt, fin_nx, wp_mK, wp_v, vO_some, wp_ret, wp_bnd, wp_op, wp_op1, wp_call, wp_fn, wp_cons, wp_nil, wp_tup, wp_lst, wp_obj, wp_oNone, wp_oSome, intO_int, wp_sl, wp_mIf, wp_mAnd, wp_mOr, wp_mNot, wp_mB, wp_mAndV, wp_mOrV, wp_mNotV, wp_mChain, wp_mTru, isBl_bl, truO_some, x_addI, x_addJ, x_sub, x_mod, x_div, x_mul, x_pow, x_shl, x_shr, x_band, x_bor, x_bxor, x_lt, x_le, x_gt, x_ge, x_neg, x_eqI, x_neI, x_eqS, x_neS, x_isN, x_isNN, x_int, x_abs, x_max2, x_min2, x_d1, x_d2, x_mkL, x_mkT, x_mkO, x_mkD, x_mkDo, x_ix, ixO_some, x_len, lenO_some, x_list, wpO_some, x_slT, x_slL, x_addLL, x_addTT, blO_some, x_isi, wp_isiT, x_fld, x_getI, wp_mMeth, wp_mMake, wp_mMt, wp_mLc, wp_mIt, wp_range1, wp_range2, wp_range3, wpS_for, isi_non_bool, isi_non_int, isi_non_str, isi_non_list, isi_non_tuple, isi_non_dict, isi_bl_bool, isi_bl_int, isi_bl_str, isi_bl_list, isi_bl_tuple, isi_bl_dict, isi_int_bool, isi_int_int, isi_int_str, isi_int_list, isi_int_tuple, isi_int_dict, isi_str_bool, isi_str_int, isi_str_str, isi_str_list, isi_str_tuple, isi_str_dict, isi_lst_bool, isi_lst_int, isi_lst_str, isi_lst_list, isi_lst_tuple, isi_lst_dict, isi_src_bool, isi_src_int, isi_src_str, isi_src_list, isi_src_tuple, isi_src_dict, isi_tup_bool, isi_tup_int, isi_tup_str, isi_tup_list, isi_tup_tuple, isi_tup_dict, isi_dct_bool, isi_dct_int, isi_dct_str, isi_dct_list, isi_dct_tuple, isi_dct_dict, g_nm, g_tp2, g_tp3, g_tp4, g_nil, g_cons, List.getElem?_cons_succ, List.getElem?_cons_zero, List.set_cons_succ, List.set_cons_zero, truD, mYes, if_true, e1]
  refine draw_at hd.dr (by omega) (by omega) fun v S2 v0 v1 dr => ?_
  obtain ⟨m, rfl⟩ := Int.eq_ofNat_of_zero_le v0
  refine ⟨ns ++ [m], by simp, by simp [hl], fun x hx => ?_, hd.trans dr⟩
  rcases List.mem_append.mp hx with hx | hx
  · exact hb x hx
  · rw [List.mem_singleton.mp hx]; omega
theorem rngD1_nat {n : Nat} (h : n < 4611686018427387904) : rngD1 [D.int (n : Int)] = some (rngN 0 1 n) := by
  unfold rngD1
  dsimp only
  rw [if_pos (by omega)]
  simp
theorem rngN_len {lo c : Int} {n : Nat} : (rngN lo c n).length = n := by unfold rngN; simp
end
end Mi
/-! Gu: guards in plain Lean: the check over octets, that a change is seen. -/
namespace Gu
open PySem L2 Mi
def nn (ns : List Nat) : List D := ns.map (fun n : Nat => D.int (n : Int))
theorem nn_len {ns : List Nat} : (nn ns).length = ns.length := by unfold nn; simp
theorem nn_app {a b : List Nat} : nn a ++ nn b = nn (a ++ b) := by unfold nn; simp
def sb (f : Nat) : Nat := if f &&& 128 = 0 then f * 2 else ((f * 2) ^^^ 29) &&& 255
def sbk : Nat → Nat → Nat
  | 0, f => f
  | k + 1, f => sb (sbk k f)
def by1 (f n : Nat) : Nat := sbk 8 (f ^^^ n)
def crc (ns : List Nat) : Nat := ns.foldl by1 255 ^^^ 255
def is (g : Nat) : Nat := if g &&& 1 = 0 then g / 2 else ((g ^^^ 29) / 2) ||| 128
def isk : Nat → Nat → Nat
  | 0, f => f
  | k + 1, f => is (isk k f)
theorem sb_lt : ∀ f < 256, sb f < 256 := by decide +kernel
theorem is_sb : ∀ f < 256, isk 8 (sbk 8 f) = f := by decide +kernel
theorem sbk_lt {f : Nat} (h : f < 256) : ∀ k, sbk k f < 256
  | 0 => h
  | k + 1 => sb_lt _ (sbk_lt h k)
theorem xor_lt {a b : Nat} (h : a < 256) (g : b < 256) : a ^^^ b < 256 := Nat.xor_lt_two_pow (n := 8) h g
theorem by1_lt {f n : Nat} (h : f < 256) (g : n < 256) : by1 f n < 256 := sbk_lt (xor_lt h g) 8
theorem sbk_inj {a b : Nat} (h : a < 256) (g : b < 256) (e : sbk 8 a = sbk 8 b) : a = b := by
  rw [← is_sb a h, e, is_sb b g]
theorem xor_left {a b c : Nat} (h : a ^^^ b = a ^^^ c) : b = c := by
  have := congrArg (a ^^^ ·) h
  simpa [← Nat.xor_assoc] using this
theorem xor_right {a b c : Nat} (h : b ^^^ a = c ^^^ a) : b = c := xor_left (a := a) (by rw [Nat.xor_comm a b, Nat.xor_comm a c, h])
theorem fold_lt : ∀ {ns : List Nat} {f : Nat}, f < 256 → (∀ n ∈ ns, n < 256) → ns.foldl by1 f < 256
  | [], _, h, _ => h
  | n :: r, f, h, g => by
    show r.foldl by1 (by1 f n) < 256
    exact fold_lt (by1_lt h (g n List.mem_cons_self)) fun m hm => g m (List.mem_cons_of_mem _ hm)
theorem fold_inj : ∀ {ns : List Nat} {f g : Nat}, f < 256 → g < 256 → (∀ n ∈ ns, n < 256) → ns.foldl by1 f = ns.foldl by1 g → f = g
  | [], _, _, _, _, _, e => e
  | n :: r, f, g, hf, hg, hn, e => by
    have h1 := hn n List.mem_cons_self
    have := fold_inj (ns := r) (by1_lt hf h1) (by1_lt hg h1) (fun m hm => hn m (List.mem_cons_of_mem _ hm)) e
    exact xor_right (sbk_inj (xor_lt hf h1) (xor_lt hg h1) this)
theorem crc_lt {ns : List Nat} (h : ∀ n ∈ ns, n < 256) : crc ns < 256 := xor_lt (fold_lt (by decide) h) (by decide)
/-- one octet changed: the check differs -/
theorem crc_ne {a b : List Nat} {m n : Nat} (ha : ∀ x ∈ a, x < 256) (hb : ∀ x ∈ b, x < 256) (hm : m < 256) (hn : n < 256) (e : crc (a ++ m :: b) = crc (a ++ n :: b)) : m = n := by
  unfold crc at e
  have e := xor_right e
  rw [List.foldl_append, List.foldl_append, List.foldl_cons, List.foldl_cons] at e
  have hf : a.foldl by1 255 < 256 := fold_lt (by decide) ha
  have e2 := fold_inj (by1_lt hf hm) (by1_lt hf hn) hb e
  exact xor_left (sbk_inj (xor_lt hf hm) (xor_lt hf hn) e2)
/-! lists of ints compared -/
theorem pyI : ∀ ns : List Int, toPyL (ns.map D.int) = some (ns.map PyData.int)
  | [] => by simp [toPyL]
  | n :: r => by
    rw [List.map_cons]
    unfold toPyL
    rw [pyI r]
    simp [toPy]
theorem layI : ∀ ns : List Int, PyData.canLayAll0 (ns.map PyData.int) = true
  | [] => by simp [PyData.canLayAll0]
  | n :: r => by
    rw [List.map_cons]
    unfold PyData.canLayAll0
    rw [layI r]
    simp [PyData.canLay0]
theorem depI : ∀ ns : List Int, PyData.depthAll (ns.map PyData.int) = 0
  | [] => by simp [PyData.depthAll]
  | n :: r => by
    rw [List.map_cons]
    unfold PyData.depthAll
    rw [depI r]
    simp [PyData.depth]
theorem shI (ns : List Int) : SeqAt.shaped (.list (ns.map PyData.int)) = true := by
  unfold SeqAt.shaped
  have h1 : PyData.canLay0 (.list (ns.map PyData.int)) = true := by
    unfold PyData.canLay0
    exact layI ns
  have h2 : PyData.depth (.list (ns.map PyData.int)) ≤ 64 := by
    unfold PyData.depth
    rw [depI]
    decide
  rw [h1, decide_eq_true h2]
  rfl
theorem eqvI : ∀ a b : List Int, PyData.eqvAll (a.map PyData.int) (b.map PyData.int) = decide (a = b)
  | [], [] => by simp [PyData.eqvAll]
  | [], _ :: _ => by simp [PyData.eqvAll]
  | _ :: _, [] => by simp [PyData.eqvAll]
  | x :: a, y :: b => by
    rw [List.map_cons, List.map_cons]
    unfold PyData.eqvAll
    rw [eqvI a b]
    unfold PyData.eqv
    by_cases h : x = y
    · subst h; simp
    · simp [h]
/-- a list that may be compared: no lock lies on it -/
def Un (S : MS) (d : D) (ds : List D) : Prop := lstRd S d = some ds ∧ ∀ n, d = .obj n → S.get n = some (.lst ds)
theorem pyS {S : MS} {d : D} {ns : List Int} (h : Un S d (ns.map D.int)) : toPyS S d = some (.list (ns.map PyData.int)) := by
  obtain ⟨h1, h2⟩ := h
  unfold toPyS
  cases d with
  | lst ds =>
    cases h1
    dsimp only
    unfold toPy
    rw [pyI] <;> rfl
  | obj n =>
    dsimp only
    rw [h2 n rfl]
    dsimp only
    rw [pyI] <;> rfl
  | _ => cases h1
theorem eqB_lst {S : MS} {x y : D} {a b : List Int} (hx : Un S x (a.map D.int)) (hy : Un S y (b.map D.int)) : dEqB S x y = some (decide (a = b)) := by
  have key : (match toPyS S x, toPyS S y with
    | some p, some q => if (SeqAt.shaped p && SeqAt.shaped q) = true then some (PyData.eqv p q) else none
    | _, _ => none) = some (decide (a = b)) := by
    rw [pyS hx, pyS hy]
    dsimp only
    rw [shI, shI, if_pos (by rfl)]
    unfold PyData.eqv
    rw [eqvI]
  obtain ⟨h1, _⟩ := hx
  obtain ⟨h2, _⟩ := hy
  unfold dEqB
  cases x with
  | lst _ => exact key
  | obj _ => exact key
  | _ => cases h1
theorem nn_int (ns : List Nat) : nn ns = (ns.map fun n : Nat => (n : Int)).map D.int := by
  unfold nn
  rw [List.map_map] <;> rfl
theorem eqB_nn {S : MS} {x y : D} {a b : List Nat} (hx : Un S x (nn a)) (hy : Un S y (nn b)) : dEqB S x y = some (decide (a = b)) := by
  rw [nn_int] at hx hy
  rw [eqB_lst hx hy]
  congr 1
  refine decide_eq_decide.mpr ⟨fun h => ?_, fun h => by rw [h]⟩
  have inj : ∀ {a b : List Nat}, (a.map fun n : Nat => (n : Int)) = (b.map fun n : Nat => (n : Int)) → a = b := by
    intro a
    induction a with
    | nil =>
      intro b h
      cases b with
      | nil => rfl
      | cons _ _ => cases h
    | cons x a ih =>
      intro b h
      cases b with
      | nil => cases h
      | cons y b =>
        rw [List.map_cons, List.map_cons, List.cons.injEq] at h
        rw [ih h.2, show x = y by omega]
  exact inj h
/-- the guarded octets -/
def gd (ns : List Nat) (c key : Nat) : List Nat := crc (c :: (ns ++ [key / 256, key % 256])) :: c :: ns
theorem bx (a b : Nat) : Builtin.bitXor (a : Int) (b : Int) = ((a ^^^ b : Nat) : Int) := by
  rw [Bits.bitXor_pp (by omega) (by omega)]
  rfl
theorem ba (a b : Nat) : Builtin.bitAnd (a : Int) (b : Int) = ((a &&& b : Nat) : Int) := by
  unfold Builtin.bitAnd
  simp
theorem ba128 (a : Nat) : Builtin.bitAnd (a : Int) 128 = ((a &&& 128 : Nat) : Int) := ba a 128
theorem ba255 (a : Nat) : Builtin.bitAnd (a : Int) 255 = ((a &&& 255 : Nat) : Int) := ba a 255
theorem bx29 (a : Nat) : Builtin.bitXor (a : Int) 29 = ((a ^^^ 29 : Nat) : Int) := bx a 29
theorem bx255 (a : Nat) : Builtin.bitXor (a : Int) 255 = ((a ^^^ 255 : Nat) : Int) := bx a 255
theorem dbl (a : Nat) : (a : Int) * 2 ^ (1 : Int).toNat = ((a * 2 : Nat) : Int) := by
  show (a : Int) * 2 ^ 1 = _
  omega
theorem gd_len {data : List Nat} {wc kk : Nat} : (gd data wc kk).length = data.length + 2 := by unfold gd; simp
theorem xor_ne {a v : Nat} (h : 0 < v) : a ^^^ v ≠ a := by
  intro e
  have : a ^^^ v = a ^^^ 0 := by rw [e, Nat.xor_zero]
  have := xor_left this
  omega
theorem gd_lt {data : List Nat} {wc kk : Nat} (hdb : ∀ n ∈ data, n < 256) (hwc : wc ≤ 14) (hkk : kk ≤ 65535) : ∀ n ∈ gd data wc kk, n < 256 := by
  intro n hn
  unfold gd at hn
  rcases List.mem_cons.mp hn with rfl | hn
  · refine crc_lt fun n hn => ?_
    simp only [List.mem_cons, List.mem_append, List.not_mem_nil, or_false] at hn
    rcases hn with rfl | hn | rfl | rfl
    · omega
    · exact hdb n hn
    · omega
    · omega
  · rcases List.mem_cons.mp hn with rfl | hn
    · omega
    · exact hdb n hn
/-- one octet bent: not right -/
theorem flip_bad {data : List Nat} {wc kk q v : Nat} (hdb : ∀ n ∈ data, n < 256) (hwc : wc ≤ 14) (hkk : kk ≤ 65535) (hq : q < (gd data wc kk).length) (hv : 0 < v) (hv2 : v < 256) :
    ∃ x c ds, (gd data wc kk).set q ((gd data wc kk)[q] ^^^ v) = x :: c :: ds ∧ ds.length = data.length ∧ (∀ n ∈ x :: c :: ds, n < 256) ∧ ¬ (c ≤ 14 ∧ crc (c :: (ds ++ [kk / 256, kk % 256])) = x) := by
  have hg := gd_lt hdb hwc hkk
  have hk2 : ∀ n ∈ [kk / 256, kk % 256], n < 256 := by
    intro n hn
    simp only [List.mem_cons, List.not_mem_nil, or_false] at hn
    rcases hn with rfl | rfl <;> omega
  have hb : ∀ n ∈ (gd data wc kk).set q ((gd data wc kk)[q] ^^^ v), n < 256 := by
    intro n hn
    rcases List.mem_or_eq_of_mem_set hn with hn | rfl
    · exact hg n hn
    · exact xor_lt (hg _ (List.getElem_mem hq)) hv2
  unfold gd at hb hq ⊢
  match q, hq with
  | 0, hq => exact ⟨_, wc, data, rfl, rfl, hb, fun ⟨_, e⟩ => xor_ne hv e.symm⟩
  | 1, hq =>
    refine ⟨_, _, data, rfl, rfl, hb, fun ⟨_, e⟩ => ?_⟩
    have hk : ∀ n ∈ data ++ [kk / 256, kk % 256], n < 256 := fun n hn => (List.mem_append.mp hn).elim (hdb n) (hk2 n)
    exact xor_ne hv (crc_ne (a := []) (b := data ++ [kk / 256, kk % 256]) (m := wc ^^^ v) (n := wc) (by simp) hk (xor_lt (by omega) hv2) (by omega) e)
  | j + 2, hq =>
    have hj : j < data.length := by simpa using hq
    refine ⟨_, wc, data.set j (data[j] ^^^ v), rfl, by simp, hb, fun ⟨_, e⟩ => ?_⟩
    have e1 : data = data.take j ++ data[j] :: data.drop (j + 1) := by
      rw [← List.drop_eq_getElem_cons hj, List.take_append_drop]
    have e2 : data.set j (data[j] ^^^ v) = data.take j ++ (data[j] ^^^ v) :: data.drop (j + 1) := List.set_eq_take_append_cons_drop .. |>.trans (if_pos hj)
    have a1 : ∀ x ∈ wc :: data.take j, x < 256 := fun x hx => (List.mem_cons.mp hx).elim (fun z => by omega) fun z => hdb x (List.mem_of_mem_take z)
    have a2 : ∀ x ∈ data.drop (j + 1) ++ [kk / 256, kk % 256], x < 256 := fun x hx => (List.mem_append.mp hx).elim (fun z => hdb x (List.mem_of_mem_drop z)) (hk2 x)
    have dj : data[j] < 256 := hdb _ (List.getElem_mem hj)
    generalize hd : data[j] = dd at e1 e2 e dj
    rw [e2] at e
    have e3 : crc (wc :: (data ++ [kk / 256, kk % 256])) = crc (wc :: (data.take j ++ dd :: data.drop (j + 1) ++ [kk / 256, kk % 256])) := by rw [← e1]
    have e4 : crc ((wc :: data.take j) ++ (dd ^^^ v) :: (data.drop (j + 1) ++ [kk / 256, kk % 256])) = crc ((wc :: data.take j) ++ dd :: (data.drop (j + 1) ++ [kk / 256, kk % 256])) := by
      simp only [List.cons_append, List.append_assoc] at e e3 ⊢
      rw [e]
      exact e3
    exact xor_ne hv (crc_ne a1 a2 (xor_lt dj hv2) dj e4)
end Gu
namespace G82
open PySem L2 Mi
theorem r__law_draws {x0 : D} {S : MS} {Q : D → MS → Prop} {E : Exn → MS → Prop} : wp (m__law_draws [x0]) S Q E = wpS (b__law_draws [some x0] S) (fin Q E) := wp_runB (ds := [x0]) rfl
theorem r__law_draw {x0 x1 : D} {S : MS} {Q : D → MS → Prop} {E : Exn → MS → Prop} : wp (m__law_draw [x0, x1]) S Q E = wpS (b__law_draw [some x0, some x1, none, none] S) (fin Q E) := wp_runB (ds := [x0, x1]) rfl
theorem r_Reader_tally {x0 : D} {S : MS} {Q : D → MS → Prop} {E : Exn → MS → Prop} : wp (m_Reader_tally [x0]) S Q E = wpS (b_Reader_tally [some x0] S) (fin Q E) := wp_runB (ds := [x0]) rfl
theorem r_Writer___init__ {x0 x1 : D} {S : MS} {Q : D → MS → Prop} {E : Exn → MS → Prop} : wp (m_Writer___init__ [x0, x1]) S Q E = wpS (b_Writer___init__ [some x0, some x1] S) (fin Q E) := wp_runB (ds := [x0, x1]) rfl
theorem r_Reader___init__ {x0 x1 x2 x3 : D} {S : MS} {Q : D → MS → Prop} {E : Exn → MS → Prop} : wp (m_Reader___init__ [x0, x1, x2, x3]) S Q E = wpS (b_Reader___init__ [some x0, some x1, some x2, some x3] S) (fin Q E) := wp_runB (ds := [x0, x1, x2, x3]) rfl
theorem r_is_number {x0 x1 x2 : D} {S : MS} {Q : D → MS → Prop} {E : Exn → MS → Prop} : wp (m_is_number [x0, x1, x2]) S Q E = wpS (b_is_number [some x0, some x1, some x2] S) (fin Q E) := wp_runB (ds := [x0, x1, x2]) rfl
theorem r_is_octets {x0 x1 : D} {S : MS} {Q : D → MS → Prop} {E : Exn → MS → Prop} : wp (m_is_octets [x0, x1]) S Q E = wpS (b_is_octets [some x0, some x1, none] S) (fin Q E) := wp_runB (ds := [x0, x1]) rfl
theorem r_check_of {x0 : D} {S : MS} {Q : D → MS → Prop} {E : Exn → MS → Prop} : wp (m_check_of [x0]) S Q E = wpS (b_check_of [some x0, none, none, none] S) (fin Q E) := wp_runB (ds := [x0]) rfl
theorem r_guarded {x0 x1 x2 : D} {S : MS} {Q : D → MS → Prop} {E : Exn → MS → Prop} : wp (m_guarded [x0, x1, x2]) S Q E = wpS (b_guarded [some x0, some x1, some x2] S) (fin Q E) := wp_runB (ds := [x0, x1, x2]) rfl
theorem r_Writer_write {x0 x1 : D} {S : MS} {Q : D → MS → Prop} {E : Exn → MS → Prop} : wp (m_Writer_write [x0, x1]) S Q E = wpS (b_Writer_write [some x0, some x1, none] S) (fin Q E) := wp_runB (ds := [x0, x1]) rfl
theorem r_Reader_go_on {x0 x1 : D} {S : MS} {Q : D → MS → Prop} {E : Exn → MS → Prop} : wp (m_Reader_go_on [x0, x1]) S Q E = wpS (b_Reader_go_on [some x0, some x1, none] S) (fin Q E) := wp_runB (ds := [x0, x1]) rfl
theorem r_Reader_counted {x0 x1 x2 : D} {S : MS} {Q : D → MS → Prop} {E : Exn → MS → Prop} : wp (m_Reader_counted [x0, x1, x2]) S Q E = wpS (b_Reader_counted [some x0, some x1, some x2] S) (fin Q E) := wp_runB (ds := [x0, x1, x2]) rfl
theorem r_Reader_is_right {x0 x1 : D} {S : MS} {Q : D → MS → Prop} {E : Exn → MS → Prop} : wp (m_Reader_is_right [x0, x1]) S Q E = wpS (b_Reader_is_right [some x0, some x1] S) (fin Q E) := wp_runB (ds := [x0, x1]) rfl
theorem r_Reader_good {x0 x1 x2 x3 : D} {S : MS} {Q : D → MS → Prop} {E : Exn → MS → Prop} : wp (m_Reader_good [x0, x1, x2, x3]) S Q E = wpS (b_Reader_good [some x0, some x1, some x2, some x3] S) (fin Q E) := wp_runB (ds := [x0, x1, x2, x3]) rfl
theorem r_Reader_take {x0 x1 x2 : D} {S : MS} {Q : D → MS → Prop} {E : Exn → MS → Prop} : wp (m_Reader_take [x0, x1, x2]) S Q E = wpS (b_Reader_take [some x0, some x1, some x2, none] S) (fin Q E) := wp_runB (ds := [x0, x1, x2]) rfl
theorem r__law_same {n : Nat} {x0 x1 : D} {S : MS} {Q : D → MS → Prop} {E : Exn → MS → Prop} : wp (m__law_same (n + 1) [x0, x1]) S Q E = wpS (b__law_same (m__law_same n) [some x0, some x1, none, none, none] S) (fin Q E) := wp_runB (ds := [x0, x1]) rfl
theorem r_Reader_data {x0 : D} {S : MS} {Q : D → MS → Prop} {E : Exn → MS → Prop} : wp (m_Reader_data [x0]) S Q E = wpS (b_Reader_data [some x0] S) (fin Q E) := wp_runB (ds := [x0]) rfl
theorem r_law {x0 : D} {S : MS} {Q : D → MS → Prop} {E : Exn → MS → Prop} : wp (m_law [x0]) S Q E = wpS (b_law [some x0, none, none, none, none, none, none, none, none, none, none, none, none, none, none, none, none, none, none, none] S) (fin Q E) := wp_runB (ds := [x0]) rfl
end G82
namespace G82
open PySem L2 Mi Gu
section
variable {S : MS} {Q : D → MS → Prop} {E : Exn → MS → Prop}
theorem w_is_number {a lo hi : Int} : wp (m_is_number [.int a, .int lo, .int hi]) S Q E = Q (.bl (decide (lo ≤ a ∧ a ≤ hi))) S := by
  rw [r_is_number]
  unfold b_is_number
  simp only [wpS_seq, wpS_gNm, wpS_asg, wpS_ifS, wpS_drop, wpS_ret, wpS_retN, wpS_stF, wpS_augF, wpS_augI, wpS_augV, wpS_par', wpS_par3', wpS_some, wpS_mNx, wpS_mCt, wpS_mBk, kont_rt, kont_ct, kont_bk, fin_rt, fin_nx, wp_mK, wp_v, vO_some, wp_ret, wp_bnd, wp_op, wp_op1, wp_call, wp_fn, wp_cons, wp_nil, wp_tup, wp_lst, wp_obj, wp_oNone, wp_oSome, intO_int, wp_sl, wp_mIf, wp_mAnd, wp_mOr, wp_mNot, wp_mB, wp_mAndV, wp_mOrV, wp_mNotV, wp_mChain, wp_mTru, isBl_bl, truO_some, x_addI, x_addJ, x_sub, x_mod, x_div, x_mul, x_pow, x_shl, x_shr, x_band, x_bor, x_bxor, x_lt, x_le, x_gt, x_ge, x_neg, x_eqI, x_neI, x_eqS, x_neS, x_isN, x_isNN, x_int, x_abs, x_max2, x_min2, x_d1, x_d2, x_mkL, x_mkT, x_mkO, x_mkD, x_mkDo, x_ix, ixO_some, x_len, lenO_some, x_list, wpO_some, x_slT, x_slL, x_addLL, x_addTT, blO_some, x_isi, wp_isiT, x_fld, x_getI, wp_mMeth, wp_mMake, wp_mMt, wp_mLc, wp_mIt, wp_range1, wp_range2, wp_range3, wpS_for, isi_non_bool, isi_non_int, isi_non_str, isi_non_list, isi_non_tuple, isi_non_dict, isi_bl_bool, isi_bl_int, isi_bl_str, isi_bl_list, isi_bl_tuple, isi_bl_dict, isi_int_bool, isi_int_int, isi_int_str, isi_int_list, isi_int_tuple, isi_int_dict, isi_str_bool, isi_str_int, isi_str_str, isi_str_list, isi_str_tuple, isi_str_dict, isi_lst_bool, isi_lst_int, isi_lst_str, isi_lst_list, isi_lst_tuple, isi_lst_dict, isi_src_bool, isi_src_int, isi_src_str, isi_src_list, isi_src_tuple, isi_src_dict, isi_tup_bool, isi_tup_int, isi_tup_str, isi_tup_list, isi_tup_tuple, isi_tup_dict, isi_dct_bool, isi_dct_int, isi_dct_str, isi_dct_list, isi_dct_tuple, isi_dct_dict, g_nm, g_tp2, g_tp3, g_tp4, g_nil, g_cons, List.getElem?_cons_succ, List.getElem?_cons_zero, List.set_cons_succ, List.set_cons_zero, truD, if_true, Bool.not_false, decide_eq_true_eq]
  by_cases h : lo ≤ a
  · simp [h]
  · simp [h]
theorem e_of {m : M D} {v : D} (h : wp m S (fun u S' => u = v ∧ S' = S) no) : m S = some (.ok v S) := by
  obtain ⟨_, _, e, rfl, rfl⟩ := wp_to h
  exact e
theorem e_is_number {a lo hi : Int} : m_is_number [.int a, .int lo, .int hi] S = some (.ok (.bl (decide (lo ≤ a ∧ a ≤ hi))) S) := e_of (w_is_number.mpr ⟨rfl, rfl⟩)
theorem w_is_octets {d : D} {ns : List Nat} {most : Int} (h : lstOf S d = some (nn ns)) (hz : ns.length ≤ 16777216) (hb : ∀ n ∈ ns, n < 256) : wp (m_is_octets [d, .int most]) S Q E = Q (.bl (decide ((ns.length : Int) ≤ most))) S := by
  rw [r_is_octets]
  unfold b_is_octets
  simp only [wpS_seq, wpS_gNm, wpS_asg, wpS_ifS, wpS_drop, wpS_ret, wpS_retN, wpS_stF, wpS_augF, wpS_augI, wpS_augV, wpS_par', wpS_par3', wpS_some, wpS_mNx, wpS_mCt, wpS_mBk, kont_rt, kont_ct, kont_bk, fin_rt, fin_nx, wp_mK, wp_v, vO_some, wp_ret, wp_bnd, wp_op, wp_op1, wp_call, wp_fn, wp_cons, wp_nil, wp_tup, wp_lst, wp_obj, wp_oNone, wp_oSome, intO_int, wp_sl, wp_mIf, wp_mAnd, wp_mOr, wp_mNot, wp_mB, wp_mAndV, wp_mOrV, wp_mNotV, wp_mChain, wp_mTru, isBl_bl, truO_some, x_addI, x_addJ, x_sub, x_mod, x_div, x_mul, x_pow, x_shl, x_shr, x_band, x_bor, x_bxor, x_lt, x_le, x_gt, x_ge, x_neg, x_eqI, x_neI, x_eqS, x_neS, x_isN, x_isNN, x_int, x_abs, x_max2, x_min2, x_d1, x_d2, x_mkL, x_mkT, x_mkO, x_mkD, x_mkDo, x_ix, ixO_some, x_len, lenO_some, x_list, wpO_some, x_slT, x_slL, x_addLL, x_addTT, blO_some, x_isi, wp_isiT, x_fld, x_getI, wp_mMeth, wp_mMake, wp_mMt, wp_mLc, wp_mIt, wp_range1, wp_range2, wp_range3, wpS_for, isi_non_bool, isi_non_int, isi_non_str, isi_non_list, isi_non_tuple, isi_non_dict, isi_bl_bool, isi_bl_int, isi_bl_str, isi_bl_list, isi_bl_tuple, isi_bl_dict, isi_int_bool, isi_int_int, isi_int_str, isi_int_list, isi_int_tuple, isi_int_dict, isi_str_bool, isi_str_int, isi_str_str, isi_str_list, isi_str_tuple, isi_str_dict, isi_lst_bool, isi_lst_int, isi_lst_str, isi_lst_list, isi_lst_tuple, isi_lst_dict, isi_src_bool, isi_src_int, isi_src_str, isi_src_list, isi_src_tuple, isi_src_dict, isi_tup_bool, isi_tup_int, isi_tup_str, isi_tup_list, isi_tup_tuple, isi_tup_dict, isi_dct_bool, isi_dct_int, isi_dct_str, isi_dct_list, isi_dct_tuple, isi_dct_dict, g_nm, g_tp2, g_tp3, g_tp4, g_nil, g_cons, List.getElem?_cons_succ, List.getElem?_cons_zero, List.set_cons_succ, List.set_cons_zero, truD, if_true, Bool.not_false, decide_eq_true_eq, isi_lst h, isiB_list, len_lst h, nn_len]
  have cp := comp_pure (S := S) (env := [some d, some (.int most), none]) (i := 0) (j := 2) (d := d) (te := mCall m_is_number (mCons (mV 2) (mCons (mK (.int 0)) (mCons (mK (.int 255)) mNil)))) (f := fun _ => .bl true) rfl (seq_lst h) (by rw [nn_len]; exact hz) (fun x hx S' => by
    obtain ⟨n, hn, rfl⟩ := List.mem_map.mp hx
    have z := hb n hn
    refine (e_is_number (S := S') (a := n) (lo := 0) (hi := 255)).trans ?_
    rw [decide_eq_true (by omega)])
  rw [wp_of cp, x_all (bs := (nn ns).map fun _ => true) (blsOf_map fun _ _ => rfl)]
  have : ((nn ns).map fun _ => true).all id = true := by simp
  rw [this]
  by_cases c : (ns.length : Int) ≤ most
  · simp only [if_pos c, decide_eq_true c]
  · simp only [if_neg c, decide_eq_false c]
theorem small_ok (f : Nat) (h : f < 256) (k : Nat) (hk : k ≤ 1000) : dPowC (f : Int) (k : Int) = true := by
  unfold dPowC
  simp only [Bool.and_eq_true, decide_eq_true_eq]
  omega
theorem w_check_of {d : D} {ns : List Nat} (h : lstOf S d = some (nn ns)) (hb : ∀ n ∈ ns, n < 256) : wp (m_check_of [d]) S Q E = Q (.int (crc ns : Nat)) S := by
  have core : wp (m_check_of [d]) S (fun u S' => u = .int (crc ns : Nat) ∧ S' = S) no := by
    rw [r_check_of]
    unfold b_check_of
    simp only [wpS_seq, wpS_gNm, wpS_asg, wpS_ifS, wpS_drop, wpS_ret, wpS_retN, wpS_stF, wpS_augF, wpS_augI, wpS_augV, wpS_par', wpS_par3', wpS_some, wpS_mNx, wpS_mCt, wpS_mBk, kont_rt, kont_ct, kont_bk, fin_rt, fin_nx, wp_mK, wp_v, vO_some, wp_ret, wp_bnd, wp_op, wp_op1, wp_call, wp_fn, wp_cons, wp_nil, wp_tup, wp_lst, wp_obj, wp_oNone, wp_oSome, intO_int, wp_sl, wp_mIf, wp_mAnd, wp_mOr, wp_mNot, wp_mB, wp_mAndV, wp_mOrV, wp_mNotV, wp_mChain, wp_mTru, isBl_bl, truO_some, x_addI, x_addJ, x_sub, x_mod, x_div, x_mul, x_pow, x_shl, x_shr, x_band, x_bor, x_bxor, x_lt, x_le, x_gt, x_ge, x_neg, x_eqI, x_neI, x_eqS, x_neS, x_isN, x_isNN, x_int, x_abs, x_max2, x_min2, x_d1, x_d2, x_mkL, x_mkT, x_mkO, x_mkD, x_mkDo, x_ix, ixO_some, x_len, lenO_some, x_list, wpO_some, x_slT, x_slL, x_addLL, x_addTT, blO_some, x_isi, wp_isiT, x_fld, x_getI, wp_mMeth, wp_mMake, wp_mMt, wp_mLc, wp_mIt, wp_range1, wp_range2, wp_range3, wpS_for, isi_non_bool, isi_non_int, isi_non_str, isi_non_list, isi_non_tuple, isi_non_dict, isi_bl_bool, isi_bl_int, isi_bl_str, isi_bl_list, isi_bl_tuple, isi_bl_dict, isi_int_bool, isi_int_int, isi_int_str, isi_int_list, isi_int_tuple, isi_int_dict, isi_str_bool, isi_str_int, isi_str_str, isi_str_list, isi_str_tuple, isi_str_dict, isi_lst_bool, isi_lst_int, isi_lst_str, isi_lst_list, isi_lst_tuple, isi_lst_dict, isi_src_bool, isi_src_int, isi_src_str, isi_src_list, isi_src_tuple, isi_src_dict, isi_tup_bool, isi_tup_int, isi_tup_str, isi_tup_list, isi_tup_tuple, isi_tup_dict, isi_dct_bool, isi_dct_int, isi_dct_str, isi_dct_list, isi_dct_tuple, isi_dct_dict, g_nm, g_tp2, g_tp3, g_tp4, g_nil, g_cons, List.getElem?_cons_succ, List.getElem?_cons_zero, List.set_cons_succ, List.set_cons_zero, truD]
    refine kont_nx ?_
    simp only [wpS_seq, wpS_gNm, wpS_asg, wpS_ifS, wpS_drop, wpS_ret, wpS_retN, wpS_stF, wpS_augF, wpS_augI, wpS_augV, wpS_par', wpS_par3', wpS_some, wpS_mNx, wpS_mCt, wpS_mBk, kont_rt, kont_ct, kont_bk, fin_rt, fin_nx, wp_mK, wp_v, vO_some, wp_ret, wp_bnd, wp_op, wp_op1, wp_call, wp_fn, wp_cons, wp_nil, wp_tup, wp_lst, wp_obj, wp_oNone, wp_oSome, intO_int, wp_sl, wp_mIf, wp_mAnd, wp_mOr, wp_mNot, wp_mB, wp_mAndV, wp_mOrV, wp_mNotV, wp_mChain, wp_mTru, isBl_bl, truO_some, x_addI, x_addJ, x_sub, x_mod, x_div, x_mul, x_pow, x_shl, x_shr, x_band, x_bor, x_bxor, x_lt, x_le, x_gt, x_ge, x_neg, x_eqI, x_neI, x_eqS, x_neS, x_isN, x_isNN, x_int, x_abs, x_max2, x_min2, x_d1, x_d2, x_mkL, x_mkT, x_mkO, x_mkD, x_mkDo, x_ix, ixO_some, x_len, lenO_some, x_list, wpO_some, x_slT, x_slL, x_addLL, x_addTT, blO_some, x_isi, wp_isiT, x_fld, x_getI, wp_mMeth, wp_mMake, wp_mMt, wp_mLc, wp_mIt, wp_range1, wp_range2, wp_range3, wpS_for, isi_non_bool, isi_non_int, isi_non_str, isi_non_list, isi_non_tuple, isi_non_dict, isi_bl_bool, isi_bl_int, isi_bl_str, isi_bl_list, isi_bl_tuple, isi_bl_dict, isi_int_bool, isi_int_int, isi_int_str, isi_int_list, isi_int_tuple, isi_int_dict, isi_str_bool, isi_str_int, isi_str_str, isi_str_list, isi_str_tuple, isi_str_dict, isi_lst_bool, isi_lst_int, isi_lst_str, isi_lst_list, isi_lst_tuple, isi_lst_dict, isi_src_bool, isi_src_int, isi_src_str, isi_src_list, isi_src_tuple, isi_src_dict, isi_tup_bool, isi_tup_int, isi_tup_str, isi_tup_list, isi_tup_tuple, isi_tup_dict, isi_dct_bool, isi_dct_int, isi_dct_str, isi_dct_list, isi_dct_tuple, isi_dct_dict, g_nm, g_tp2, g_tp3, g_tp4, g_nil, g_cons, List.getElem?_cons_succ, List.getElem?_cons_zero, List.set_cons_succ, List.set_cons_zero, truD]
    refine lkfor_pure (Inv := fun k e => ∃ o2 o3, e = [some d, some (.int ((ns.take k).foldl by1 255 : Nat)), o2, o3]) (d := d) rfl (seq_lst h) ⟨none, none, rfl⟩ ?_ ?_
    · rintro k x e S' hx ⟨o2, o3, rfl⟩
      have hk : k < ns.length := by
        have := (List.getElem?_eq_some_iff.mp hx).1
        rw [nn_len] at this
        exact this
      have ex : x = .int (ns[k] : Nat) := by
        unfold nn at hx
        rw [List.getElem?_map, List.getElem?_eq_getElem hk] at hx
        exact (Option.some.inj hx).symm
      subst ex
      have hn : ns[k] < 256 := hb _ (List.getElem_mem hk)
      have hf : (ns.take k).foldl by1 255 < 256 := fold_lt (by decide) fun n hn => hb n (List.mem_of_mem_take hn)
      have et : (ns.take (k + 1)).foldl by1 255 = by1 ((ns.take k).foldl by1 255) ns[k] := by
        rw [List.take_succ_eq_append_getElem hk, List.foldl_append]
        rfl
      rw [et]
      generalize (ns.take k).foldl by1 255 = f at hf
      generalize ns[k] = n at hn
      simp only [wpS_seq, wpS_gNm, wpS_asg, wpS_ifS, wpS_drop, wpS_ret, wpS_retN, wpS_stF, wpS_augF, wpS_augI, wpS_augV, wpS_par', wpS_par3', wpS_some, wpS_mNx, wpS_mCt, wpS_mBk, kont_rt, kont_ct, kont_bk, fin_rt, fin_nx, wp_mK, wp_v, vO_some, wp_ret, wp_bnd, wp_op, wp_op1, wp_call, wp_fn, wp_cons, wp_nil, wp_tup, wp_lst, wp_obj, wp_oNone, wp_oSome, intO_int, wp_sl, wp_mIf, wp_mAnd, wp_mOr, wp_mNot, wp_mB, wp_mAndV, wp_mOrV, wp_mNotV, wp_mChain, wp_mTru, isBl_bl, truO_some, x_addI, x_addJ, x_sub, x_mod, x_div, x_mul, x_pow, x_shl, x_shr, x_band, x_bor, x_bxor, x_lt, x_le, x_gt, x_ge, x_neg, x_eqI, x_neI, x_eqS, x_neS, x_isN, x_isNN, x_int, x_abs, x_max2, x_min2, x_d1, x_d2, x_mkL, x_mkT, x_mkO, x_mkD, x_mkDo, x_ix, ixO_some, x_len, lenO_some, x_list, wpO_some, x_slT, x_slL, x_addLL, x_addTT, blO_some, x_isi, wp_isiT, x_fld, x_getI, wp_mMeth, wp_mMake, wp_mMt, wp_mLc, wp_mIt, wp_range1, wp_range2, wp_range3, wpS_for, isi_non_bool, isi_non_int, isi_non_str, isi_non_list, isi_non_tuple, isi_non_dict, isi_bl_bool, isi_bl_int, isi_bl_str, isi_bl_list, isi_bl_tuple, isi_bl_dict, isi_int_bool, isi_int_int, isi_int_str, isi_int_list, isi_int_tuple, isi_int_dict, isi_str_bool, isi_str_int, isi_str_str, isi_str_list, isi_str_tuple, isi_str_dict, isi_lst_bool, isi_lst_int, isi_lst_str, isi_lst_list, isi_lst_tuple, isi_lst_dict, isi_src_bool, isi_src_int, isi_src_str, isi_src_list, isi_src_tuple, isi_src_dict, isi_tup_bool, isi_tup_int, isi_tup_str, isi_tup_list, isi_tup_tuple, isi_tup_dict, isi_dct_bool, isi_dct_int, isi_dct_str, isi_dct_list, isi_dct_tuple, isi_dct_dict, g_nm, g_tp2, g_tp3, g_tp4, g_nil, g_cons, List.getElem?_cons_succ, List.getElem?_cons_zero, List.set_cons_succ, List.set_cons_zero, truD, bx]
      refine kont_nx ?_
      have hr : rngD1 [D.int 8] = some (rngN 0 1 8) := rfl
      simp only [wpS_seq, wpS_gNm, wpS_asg, wpS_ifS, wpS_drop, wpS_ret, wpS_retN, wpS_stF, wpS_augF, wpS_augI, wpS_augV, wpS_par', wpS_par3', wpS_some, wpS_mNx, wpS_mCt, wpS_mBk, kont_rt, kont_ct, kont_bk, fin_rt, fin_nx, wp_mK, wp_v, vO_some, wp_ret, wp_bnd, wp_op, wp_op1, wp_call, wp_fn, wp_cons, wp_nil, wp_tup, wp_lst, wp_obj, wp_oNone, wp_oSome, intO_int, wp_sl, wp_mIf, wp_mAnd, wp_mOr, wp_mNot, wp_mB, wp_mAndV, wp_mOrV, wp_mNotV, wp_mChain, wp_mTru, isBl_bl, truO_some, x_addI, x_addJ, x_sub, x_mod, x_div, x_mul, x_pow, x_shl, x_shr, x_band, x_bor, x_bxor, x_lt, x_le, x_gt, x_ge, x_neg, x_eqI, x_neI, x_eqS, x_neS, x_isN, x_isNN, x_int, x_abs, x_max2, x_min2, x_d1, x_d2, x_mkL, x_mkT, x_mkO, x_mkD, x_mkDo, x_ix, ixO_some, x_len, lenO_some, x_list, wpO_some, x_slT, x_slL, x_addLL, x_addTT, blO_some, x_isi, wp_isiT, x_fld, x_getI, wp_mMeth, wp_mMake, wp_mMt, wp_mLc, wp_mIt, wp_range1, wp_range2, wp_range3, wpS_for, isi_non_bool, isi_non_int, isi_non_str, isi_non_list, isi_non_tuple, isi_non_dict, isi_bl_bool, isi_bl_int, isi_bl_str, isi_bl_list, isi_bl_tuple, isi_bl_dict, isi_int_bool, isi_int_int, isi_int_str, isi_int_list, isi_int_tuple, isi_int_dict, isi_str_bool, isi_str_int, isi_str_str, isi_str_list, isi_str_tuple, isi_str_dict, isi_lst_bool, isi_lst_int, isi_lst_str, isi_lst_list, isi_lst_tuple, isi_lst_dict, isi_src_bool, isi_src_int, isi_src_str, isi_src_list, isi_src_tuple, isi_src_dict, isi_tup_bool, isi_tup_int, isi_tup_str, isi_tup_list, isi_tup_tuple, isi_tup_dict, isi_dct_bool, isi_dct_int, isi_dct_str, isi_dct_list, isi_dct_tuple, isi_dct_dict, g_nm, g_tp2, g_tp3, g_tp4, g_nil, g_cons, List.getElem?_cons_succ, List.getElem?_cons_zero, List.set_cons_succ, List.set_cons_zero, truD, hr]
      refine loop_inv (fun j e s => s = S' ∧ ∃ o3, e = [some d, some (.int (sbk j (f ^^^ n) : Nat)), some (.int (n : Int)), o3]) ⟨rfl, o3, rfl⟩ ?_ ?_
      · rintro j x e s hj ⟨rfl, o3, rfl⟩
        have hs : sbk j (f ^^^ n) < 256 := sbk_lt (xor_lt hf hn) j
        have et : sbk (j + 1) (f ^^^ n) = sb (sbk j (f ^^^ n)) := rfl
        rw [et]
        generalize sbk j (f ^^^ n) = g at hs
        simp only [wpS_seq, wpS_gNm, wpS_asg, wpS_ifS, wpS_drop, wpS_ret, wpS_retN, wpS_stF, wpS_augF, wpS_augI, wpS_augV, wpS_par', wpS_par3', wpS_some, wpS_mNx, wpS_mCt, wpS_mBk, kont_rt, kont_ct, kont_bk, fin_rt, fin_nx, wp_mK, wp_v, vO_some, wp_ret, wp_bnd, wp_op, wp_op1, wp_call, wp_fn, wp_cons, wp_nil, wp_tup, wp_lst, wp_obj, wp_oNone, wp_oSome, intO_int, wp_sl, wp_mIf, wp_mAnd, wp_mOr, wp_mNot, wp_mB, wp_mAndV, wp_mOrV, wp_mNotV, wp_mChain, wp_mTru, isBl_bl, truO_some, x_addI, x_addJ, x_sub, x_mod, x_div, x_mul, x_pow, x_shl, x_shr, x_band, x_bor, x_bxor, x_lt, x_le, x_gt, x_ge, x_neg, x_eqI, x_neI, x_eqS, x_neS, x_isN, x_isNN, x_int, x_abs, x_max2, x_min2, x_d1, x_d2, x_mkL, x_mkT, x_mkO, x_mkD, x_mkDo, x_ix, ixO_some, x_len, lenO_some, x_list, wpO_some, x_slT, x_slL, x_addLL, x_addTT, blO_some, x_isi, wp_isiT, x_fld, x_getI, wp_mMeth, wp_mMake, wp_mMt, wp_mLc, wp_mIt, wp_range1, wp_range2, wp_range3, wpS_for, isi_non_bool, isi_non_int, isi_non_str, isi_non_list, isi_non_tuple, isi_non_dict, isi_bl_bool, isi_bl_int, isi_bl_str, isi_bl_list, isi_bl_tuple, isi_bl_dict, isi_int_bool, isi_int_int, isi_int_str, isi_int_list, isi_int_tuple, isi_int_dict, isi_str_bool, isi_str_int, isi_str_str, isi_str_list, isi_str_tuple, isi_str_dict, isi_lst_bool, isi_lst_int, isi_lst_str, isi_lst_list, isi_lst_tuple, isi_lst_dict, isi_src_bool, isi_src_int, isi_src_str, isi_src_list, isi_src_tuple, isi_src_dict, isi_tup_bool, isi_tup_int, isi_tup_str, isi_tup_list, isi_tup_tuple, isi_tup_dict, isi_dct_bool, isi_dct_int, isi_dct_str, isi_dct_list, isi_dct_tuple, isi_dct_dict, g_nm, g_tp2, g_tp3, g_tp4, g_nil, g_cons, List.getElem?_cons_succ, List.getElem?_cons_zero, List.set_cons_succ, List.set_cons_zero, truD, ba128]
        unfold sb
        by_cases c : g &&& 128 = 0
        · have e1 : (((g &&& 128 : Nat) : Int) != 0) = false := by rw [c]; rfl
          simp only [wpS_seq, wpS_gNm, wpS_asg, wpS_ifS, wpS_drop, wpS_ret, wpS_retN, wpS_stF, wpS_augF, wpS_augI, wpS_augV, wpS_par', wpS_par3', wpS_some, wpS_mNx, wpS_mCt, wpS_mBk, kont_rt, kont_ct, kont_bk, fin_rt, fin_nx, wp_mK, wp_v, vO_some, wp_ret, wp_bnd, wp_op, wp_op1, wp_call, wp_fn, wp_cons, wp_nil, wp_tup, wp_lst, wp_obj, wp_oNone, wp_oSome, intO_int, wp_sl, wp_mIf, wp_mAnd, wp_mOr, wp_mNot, wp_mB, wp_mAndV, wp_mOrV, wp_mNotV, wp_mChain, wp_mTru, isBl_bl, truO_some, x_addI, x_addJ, x_sub, x_mod, x_div, x_mul, x_pow, x_shl, x_shr, x_band, x_bor, x_bxor, x_lt, x_le, x_gt, x_ge, x_neg, x_eqI, x_neI, x_eqS, x_neS, x_isN, x_isNN, x_int, x_abs, x_max2, x_min2, x_d1, x_d2, x_mkL, x_mkT, x_mkO, x_mkD, x_mkDo, x_ix, ixO_some, x_len, lenO_some, x_list, wpO_some, x_slT, x_slL, x_addLL, x_addTT, blO_some, x_isi, wp_isiT, x_fld, x_getI, wp_mMeth, wp_mMake, wp_mMt, wp_mLc, wp_mIt, wp_range1, wp_range2, wp_range3, wpS_for, isi_non_bool, isi_non_int, isi_non_str, isi_non_list, isi_non_tuple, isi_non_dict, isi_bl_bool, isi_bl_int, isi_bl_str, isi_bl_list, isi_bl_tuple, isi_bl_dict, isi_int_bool, isi_int_int, isi_int_str, isi_int_list, isi_int_tuple, isi_int_dict, isi_str_bool, isi_str_int, isi_str_str, isi_str_list, isi_str_tuple, isi_str_dict, isi_lst_bool, isi_lst_int, isi_lst_str, isi_lst_list, isi_lst_tuple, isi_lst_dict, isi_src_bool, isi_src_int, isi_src_str, isi_src_list, isi_src_tuple, isi_src_dict, isi_tup_bool, isi_tup_int, isi_tup_str, isi_tup_list, isi_tup_tuple, isi_tup_dict, isi_dct_bool, isi_dct_int, isi_dct_str, isi_dct_list, isi_dct_tuple, isi_dct_dict, g_nm, g_tp2, g_tp3, g_tp4, g_nil, g_cons, List.getElem?_cons_succ, List.getElem?_cons_zero, List.set_cons_succ, List.set_cons_zero, truD, e1, if_false, Bool.false_eq_true]
          refine ⟨small_ok g hs 1 (by decide), trivial, some x, ?_⟩
          rw [dbl, if_pos c]
        · have e1 : (((g &&& 128 : Nat) : Int) != 0) = true := by
            simp only [bne_iff_ne, ne_eq]
            omega
          simp only [wpS_seq, wpS_gNm, wpS_asg, wpS_ifS, wpS_drop, wpS_ret, wpS_retN, wpS_stF, wpS_augF, wpS_augI, wpS_augV, wpS_par', wpS_par3', wpS_some, wpS_mNx, wpS_mCt, wpS_mBk, kont_rt, kont_ct, kont_bk, fin_rt, fin_nx, wp_mK, wp_v, vO_some, wp_ret, wp_bnd, wp_op, wp_op1, wp_call, wp_fn, wp_cons, wp_nil, wp_tup, wp_lst, wp_obj, wp_oNone, wp_oSome, intO_int, wp_sl, wp_mIf, wp_mAnd, wp_mOr, wp_mNot, wp_mB, wp_mAndV, wp_mOrV, wp_mNotV, wp_mChain, wp_mTru, isBl_bl, truO_some, x_addI, x_addJ, x_sub, x_mod, x_div, x_mul, x_pow, x_shl, x_shr, x_band, x_bor, x_bxor, x_lt, x_le, x_gt, x_ge, x_neg, x_eqI, x_neI, x_eqS, x_neS, x_isN, x_isNN, x_int, x_abs, x_max2, x_min2, x_d1, x_d2, x_mkL, x_mkT, x_mkO, x_mkD, x_mkDo, x_ix, ixO_some, x_len, lenO_some, x_list, wpO_some, x_slT, x_slL, x_addLL, x_addTT, blO_some, x_isi, wp_isiT, x_fld, x_getI, wp_mMeth, wp_mMake, wp_mMt, wp_mLc, wp_mIt, wp_range1, wp_range2, wp_range3, wpS_for, isi_non_bool, isi_non_int, isi_non_str, isi_non_list, isi_non_tuple, isi_non_dict, isi_bl_bool, isi_bl_int, isi_bl_str, isi_bl_list, isi_bl_tuple, isi_bl_dict, isi_int_bool, isi_int_int, isi_int_str, isi_int_list, isi_int_tuple, isi_int_dict, isi_str_bool, isi_str_int, isi_str_str, isi_str_list, isi_str_tuple, isi_str_dict, isi_lst_bool, isi_lst_int, isi_lst_str, isi_lst_list, isi_lst_tuple, isi_lst_dict, isi_src_bool, isi_src_int, isi_src_str, isi_src_list, isi_src_tuple, isi_src_dict, isi_tup_bool, isi_tup_int, isi_tup_str, isi_tup_list, isi_tup_tuple, isi_tup_dict, isi_dct_bool, isi_dct_int, isi_dct_str, isi_dct_list, isi_dct_tuple, isi_dct_dict, g_nm, g_tp2, g_tp3, g_tp4, g_nil, g_cons, List.getElem?_cons_succ, List.getElem?_cons_zero, List.set_cons_succ, List.set_cons_zero, truD, e1, if_true]
          refine ⟨small_ok g hs 1 (by decide), trivial, some x, ?_⟩
          rw [dbl, bx29, ba255, if_neg c]
      · rintro e s ⟨rfl, o3, rfl⟩
        exact ⟨_, rfl, _, _, rfl⟩
    · rintro e ⟨o2, o3, rfl⟩
      refine kont_nx ?_
      rw [nn_len, List.take_length]
      simp only [wpS_seq, wpS_gNm, wpS_asg, wpS_ifS, wpS_drop, wpS_ret, wpS_retN, wpS_stF, wpS_augF, wpS_augI, wpS_augV, wpS_par', wpS_par3', wpS_some, wpS_mNx, wpS_mCt, wpS_mBk, kont_rt, kont_ct, kont_bk, fin_rt, fin_nx, wp_mK, wp_v, vO_some, wp_ret, wp_bnd, wp_op, wp_op1, wp_call, wp_fn, wp_cons, wp_nil, wp_tup, wp_lst, wp_obj, wp_oNone, wp_oSome, intO_int, wp_sl, wp_mIf, wp_mAnd, wp_mOr, wp_mNot, wp_mB, wp_mAndV, wp_mOrV, wp_mNotV, wp_mChain, wp_mTru, isBl_bl, truO_some, x_addI, x_addJ, x_sub, x_mod, x_div, x_mul, x_pow, x_shl, x_shr, x_band, x_bor, x_bxor, x_lt, x_le, x_gt, x_ge, x_neg, x_eqI, x_neI, x_eqS, x_neS, x_isN, x_isNN, x_int, x_abs, x_max2, x_min2, x_d1, x_d2, x_mkL, x_mkT, x_mkO, x_mkD, x_mkDo, x_ix, ixO_some, x_len, lenO_some, x_list, wpO_some, x_slT, x_slL, x_addLL, x_addTT, blO_some, x_isi, wp_isiT, x_fld, x_getI, wp_mMeth, wp_mMake, wp_mMt, wp_mLc, wp_mIt, wp_range1, wp_range2, wp_range3, wpS_for, isi_non_bool, isi_non_int, isi_non_str, isi_non_list, isi_non_tuple, isi_non_dict, isi_bl_bool, isi_bl_int, isi_bl_str, isi_bl_list, isi_bl_tuple, isi_bl_dict, isi_int_bool, isi_int_int, isi_int_str, isi_int_list, isi_int_tuple, isi_int_dict, isi_str_bool, isi_str_int, isi_str_str, isi_str_list, isi_str_tuple, isi_str_dict, isi_lst_bool, isi_lst_int, isi_lst_str, isi_lst_list, isi_lst_tuple, isi_lst_dict, isi_src_bool, isi_src_int, isi_src_str, isi_src_list, isi_src_tuple, isi_src_dict, isi_tup_bool, isi_tup_int, isi_tup_str, isi_tup_list, isi_tup_tuple, isi_tup_dict, isi_dct_bool, isi_dct_int, isi_dct_str, isi_dct_list, isi_dct_tuple, isi_dct_dict, g_nm, g_tp2, g_tp3, g_tp4, g_nil, g_cons, List.getElem?_cons_succ, List.getElem?_cons_zero, List.set_cons_succ, List.set_cons_zero, truD, bx255]
      exact ⟨rfl, trivial⟩
  rw [wp_of (e_of core)]
theorem e_check_of {d : D} {ns : List Nat} (h : lstOf S d = some (nn ns)) (hb : ∀ n ∈ ns, n < 256) : m_check_of [d] S = some (.ok (.int (crc ns : Nat)) S) := e_of (by rw [w_check_of h hb]; exact ⟨rfl, rfl⟩)
theorem lst_rd {d : D} {ds : List D} (h : lstRd S d = some ds) : lstOf S d = some ds := by
  cases d <;> first | exact h | cases h
theorem w_guarded {d : D} {ns : List Nat} {c key : Nat} (h : lstRd S d = some (nn ns)) (hb : ∀ n ∈ ns, n < 256) (hl : ns.length ≤ 6) (hc : c ≤ 14) (hk : key ≤ 65535) : wp (m_guarded [d, .int c, .int key]) S Q E = Q (.lst (nn (gd ns c key))) S := by
  have core : wp (m_guarded [d, .int c, .int key]) S (fun u S' => u = .lst (nn (gd ns c key)) ∧ S' = S) no := by
    rw [r_guarded]
    unfold b_guarded
    simp only [wpS_seq, wpS_gNm, wpS_asg, wpS_ifS, wpS_drop, wpS_ret, wpS_retN, wpS_stF, wpS_augF, wpS_augI, wpS_augV, wpS_par', wpS_par3', wpS_some, wpS_mNx, wpS_mCt, wpS_mBk, kont_rt, kont_ct, kont_bk, fin_rt, fin_nx, wp_mK, wp_v, vO_some, wp_ret, wp_bnd, wp_op, wp_op1, wp_call, wp_fn, wp_cons, wp_nil, wp_tup, wp_lst, wp_obj, wp_oNone, wp_oSome, intO_int, wp_sl, wp_mIf, wp_mAnd, wp_mOr, wp_mNot, wp_mB, wp_mAndV, wp_mOrV, wp_mNotV, wp_mChain, wp_mTru, isBl_bl, truO_some, x_addI, x_addJ, x_sub, x_mod, x_div, x_mul, x_pow, x_shl, x_shr, x_band, x_bor, x_bxor, x_lt, x_le, x_gt, x_ge, x_neg, x_eqI, x_neI, x_eqS, x_neS, x_isN, x_isNN, x_int, x_abs, x_max2, x_min2, x_d1, x_d2, x_mkL, x_mkT, x_mkO, x_mkD, x_mkDo, x_ix, ixO_some, x_len, lenO_some, x_list, wpO_some, x_slT, x_slL, x_addLL, x_addTT, blO_some, x_isi, wp_isiT, x_fld, x_getI, wp_mMeth, wp_mMake, wp_mMt, wp_mLc, wp_mIt, wp_range1, wp_range2, wp_range3, wpS_for, isi_non_bool, isi_non_int, isi_non_str, isi_non_list, isi_non_tuple, isi_non_dict, isi_bl_bool, isi_bl_int, isi_bl_str, isi_bl_list, isi_bl_tuple, isi_bl_dict, isi_int_bool, isi_int_int, isi_int_str, isi_int_list, isi_int_tuple, isi_int_dict, isi_str_bool, isi_str_int, isi_str_str, isi_str_list, isi_str_tuple, isi_str_dict, isi_lst_bool, isi_lst_int, isi_lst_str, isi_lst_list, isi_lst_tuple, isi_lst_dict, isi_src_bool, isi_src_int, isi_src_str, isi_src_list, isi_src_tuple, isi_src_dict, isi_tup_bool, isi_tup_int, isi_tup_str, isi_tup_list, isi_tup_tuple, isi_tup_dict, isi_dct_bool, isi_dct_int, isi_dct_str, isi_dct_list, isi_dct_tuple, isi_dct_dict, g_nm, g_tp2, g_tp3, g_tp4, g_nil, g_cons, List.getElem?_cons_succ, List.getElem?_cons_zero, List.set_cons_succ, List.set_cons_zero, truD, w_is_octets (lst_rd h) (by omega) hb, Bool.not_true]
    have h1 : decide ((ns.length : Int) ≤ 6) = true := decide_eq_true (by omega)
    rw [h1]
    simp only [wpS_seq, wpS_gNm, wpS_asg, wpS_ifS, wpS_drop, wpS_ret, wpS_retN, wpS_stF, wpS_augF, wpS_augI, wpS_augV, wpS_par', wpS_par3', wpS_some, wpS_mNx, wpS_mCt, wpS_mBk, kont_rt, kont_ct, kont_bk, fin_rt, fin_nx, wp_mK, wp_v, vO_some, wp_ret, wp_bnd, wp_op, wp_op1, wp_call, wp_fn, wp_cons, wp_nil, wp_tup, wp_lst, wp_obj, wp_oNone, wp_oSome, intO_int, wp_sl, wp_mIf, wp_mAnd, wp_mOr, wp_mNot, wp_mB, wp_mAndV, wp_mOrV, wp_mNotV, wp_mChain, wp_mTru, isBl_bl, truO_some, x_addI, x_addJ, x_sub, x_mod, x_div, x_mul, x_pow, x_shl, x_shr, x_band, x_bor, x_bxor, x_lt, x_le, x_gt, x_ge, x_neg, x_eqI, x_neI, x_eqS, x_neS, x_isN, x_isNN, x_int, x_abs, x_max2, x_min2, x_d1, x_d2, x_mkL, x_mkT, x_mkO, x_mkD, x_mkDo, x_ix, ixO_some, x_len, lenO_some, x_list, wpO_some, x_slT, x_slL, x_addLL, x_addTT, blO_some, x_isi, wp_isiT, x_fld, x_getI, wp_mMeth, wp_mMake, wp_mMt, wp_mLc, wp_mIt, wp_range1, wp_range2, wp_range3, wpS_for, isi_non_bool, isi_non_int, isi_non_str, isi_non_list, isi_non_tuple, isi_non_dict, isi_bl_bool, isi_bl_int, isi_bl_str, isi_bl_list, isi_bl_tuple, isi_bl_dict, isi_int_bool, isi_int_int, isi_int_str, isi_int_list, isi_int_tuple, isi_int_dict, isi_str_bool, isi_str_int, isi_str_str, isi_str_list, isi_str_tuple, isi_str_dict, isi_lst_bool, isi_lst_int, isi_lst_str, isi_lst_list, isi_lst_tuple, isi_lst_dict, isi_src_bool, isi_src_int, isi_src_str, isi_src_list, isi_src_tuple, isi_src_dict, isi_tup_bool, isi_tup_int, isi_tup_str, isi_tup_list, isi_tup_tuple, isi_tup_dict, isi_dct_bool, isi_dct_int, isi_dct_str, isi_dct_list, isi_dct_tuple, isi_dct_dict, g_nm, g_tp2, g_tp3, g_tp4, g_nil, g_cons, List.getElem?_cons_succ, List.getElem?_cons_zero, List.set_cons_succ, List.set_cons_zero, truD, Bool.not_true, if_false, Bool.false_eq_true]
    refine kont_nx ?_
    have h2 : decide ((0 : Int) ≤ (c : Int) ∧ (c : Int) ≤ 14) = true := decide_eq_true (by omega)
    simp only [wpS_seq, wpS_gNm, wpS_asg, wpS_ifS, wpS_drop, wpS_ret, wpS_retN, wpS_stF, wpS_augF, wpS_augI, wpS_augV, wpS_par', wpS_par3', wpS_some, wpS_mNx, wpS_mCt, wpS_mBk, kont_rt, kont_ct, kont_bk, fin_rt, fin_nx, wp_mK, wp_v, vO_some, wp_ret, wp_bnd, wp_op, wp_op1, wp_call, wp_fn, wp_cons, wp_nil, wp_tup, wp_lst, wp_obj, wp_oNone, wp_oSome, intO_int, wp_sl, wp_mIf, wp_mAnd, wp_mOr, wp_mNot, wp_mB, wp_mAndV, wp_mOrV, wp_mNotV, wp_mChain, wp_mTru, isBl_bl, truO_some, x_addI, x_addJ, x_sub, x_mod, x_div, x_mul, x_pow, x_shl, x_shr, x_band, x_bor, x_bxor, x_lt, x_le, x_gt, x_ge, x_neg, x_eqI, x_neI, x_eqS, x_neS, x_isN, x_isNN, x_int, x_abs, x_max2, x_min2, x_d1, x_d2, x_mkL, x_mkT, x_mkO, x_mkD, x_mkDo, x_ix, ixO_some, x_len, lenO_some, x_list, wpO_some, x_slT, x_slL, x_addLL, x_addTT, blO_some, x_isi, wp_isiT, x_fld, x_getI, wp_mMeth, wp_mMake, wp_mMt, wp_mLc, wp_mIt, wp_range1, wp_range2, wp_range3, wpS_for, isi_non_bool, isi_non_int, isi_non_str, isi_non_list, isi_non_tuple, isi_non_dict, isi_bl_bool, isi_bl_int, isi_bl_str, isi_bl_list, isi_bl_tuple, isi_bl_dict, isi_int_bool, isi_int_int, isi_int_str, isi_int_list, isi_int_tuple, isi_int_dict, isi_str_bool, isi_str_int, isi_str_str, isi_str_list, isi_str_tuple, isi_str_dict, isi_lst_bool, isi_lst_int, isi_lst_str, isi_lst_list, isi_lst_tuple, isi_lst_dict, isi_src_bool, isi_src_int, isi_src_str, isi_src_list, isi_src_tuple, isi_src_dict, isi_tup_bool, isi_tup_int, isi_tup_str, isi_tup_list, isi_tup_tuple, isi_tup_dict, isi_dct_bool, isi_dct_int, isi_dct_str, isi_dct_list, isi_dct_tuple, isi_dct_dict, g_nm, g_tp2, g_tp3, g_tp4, g_nil, g_cons, List.getElem?_cons_succ, List.getElem?_cons_zero, List.set_cons_succ, List.set_cons_zero, truD, w_is_number, h2, Bool.not_true, if_false, Bool.false_eq_true]
    refine kont_nx ?_
    have h3 : decide ((0 : Int) ≤ (key : Int) ∧ (key : Int) ≤ 65535) = true := decide_eq_true (by omega)
    simp only [wpS_seq, wpS_gNm, wpS_asg, wpS_ifS, wpS_drop, wpS_ret, wpS_retN, wpS_stF, wpS_augF, wpS_augI, wpS_augV, wpS_par', wpS_par3', wpS_some, wpS_mNx, wpS_mCt, wpS_mBk, kont_rt, kont_ct, kont_bk, fin_rt, fin_nx, wp_mK, wp_v, vO_some, wp_ret, wp_bnd, wp_op, wp_op1, wp_call, wp_fn, wp_cons, wp_nil, wp_tup, wp_lst, wp_obj, wp_oNone, wp_oSome, intO_int, wp_sl, wp_mIf, wp_mAnd, wp_mOr, wp_mNot, wp_mB, wp_mAndV, wp_mOrV, wp_mNotV, wp_mChain, wp_mTru, isBl_bl, truO_some, x_addI, x_addJ, x_sub, x_mod, x_div, x_mul, x_pow, x_shl, x_shr, x_band, x_bor, x_bxor, x_lt, x_le, x_gt, x_ge, x_neg, x_eqI, x_neI, x_eqS, x_neS, x_isN, x_isNN, x_int, x_abs, x_max2, x_min2, x_d1, x_d2, x_mkL, x_mkT, x_mkO, x_mkD, x_mkDo, x_ix, ixO_some, x_len, lenO_some, x_list, wpO_some, x_slT, x_slL, x_addLL, x_addTT, blO_some, x_isi, wp_isiT, x_fld, x_getI, wp_mMeth, wp_mMake, wp_mMt, wp_mLc, wp_mIt, wp_range1, wp_range2, wp_range3, wpS_for, isi_non_bool, isi_non_int, isi_non_str, isi_non_list, isi_non_tuple, isi_non_dict, isi_bl_bool, isi_bl_int, isi_bl_str, isi_bl_list, isi_bl_tuple, isi_bl_dict, isi_int_bool, isi_int_int, isi_int_str, isi_int_list, isi_int_tuple, isi_int_dict, isi_str_bool, isi_str_int, isi_str_str, isi_str_list, isi_str_tuple, isi_str_dict, isi_lst_bool, isi_lst_int, isi_lst_str, isi_lst_list, isi_lst_tuple, isi_lst_dict, isi_src_bool, isi_src_int, isi_src_str, isi_src_list, isi_src_tuple, isi_src_dict, isi_tup_bool, isi_tup_int, isi_tup_str, isi_tup_list, isi_tup_tuple, isi_tup_dict, isi_dct_bool, isi_dct_int, isi_dct_str, isi_dct_list, isi_dct_tuple, isi_dct_dict, g_nm, g_tp2, g_tp3, g_tp4, g_nil, g_cons, List.getElem?_cons_succ, List.getElem?_cons_zero, List.set_cons_succ, List.set_cons_zero, truD, w_is_number, h3, Bool.not_true, if_false, Bool.false_eq_true]
    refine kont_nx ?_
    have a1 : ∀ {mk : List D → M D} {xs : List D} {P : D → MS → Prop} {E}, wp (dAdd mk (.lst xs) d) S P E = wp (mk (xs ++ nn ns)) S P E := fun {mk xs P E} => x_addL rfl h
    simp only [wpS_seq, wpS_gNm, wpS_asg, wpS_ifS, wpS_drop, wpS_ret, wpS_retN, wpS_stF, wpS_augF, wpS_augI, wpS_augV, wpS_par', wpS_par3', wpS_some, wpS_mNx, wpS_mCt, wpS_mBk, kont_rt, kont_ct, kont_bk, fin_rt, fin_nx, wp_mK, wp_v, vO_some, wp_ret, wp_bnd, wp_op, wp_op1, wp_call, wp_fn, wp_cons, wp_nil, wp_tup, wp_lst, wp_obj, wp_oNone, wp_oSome, intO_int, wp_sl, wp_mIf, wp_mAnd, wp_mOr, wp_mNot, wp_mB, wp_mAndV, wp_mOrV, wp_mNotV, wp_mChain, wp_mTru, isBl_bl, truO_some, x_addI, x_addJ, x_sub, x_mod, x_div, x_mul, x_pow, x_shl, x_shr, x_band, x_bor, x_bxor, x_lt, x_le, x_gt, x_ge, x_neg, x_eqI, x_neI, x_eqS, x_neS, x_isN, x_isNN, x_int, x_abs, x_max2, x_min2, x_d1, x_d2, x_mkL, x_mkT, x_mkO, x_mkD, x_mkDo, x_ix, ixO_some, x_len, lenO_some, x_list, wpO_some, x_slT, x_slL, x_addLL, x_addTT, blO_some, x_isi, wp_isiT, x_fld, x_getI, wp_mMeth, wp_mMake, wp_mMt, wp_mLc, wp_mIt, wp_range1, wp_range2, wp_range3, wpS_for, isi_non_bool, isi_non_int, isi_non_str, isi_non_list, isi_non_tuple, isi_non_dict, isi_bl_bool, isi_bl_int, isi_bl_str, isi_bl_list, isi_bl_tuple, isi_bl_dict, isi_int_bool, isi_int_int, isi_int_str, isi_int_list, isi_int_tuple, isi_int_dict, isi_str_bool, isi_str_int, isi_str_str, isi_str_list, isi_str_tuple, isi_str_dict, isi_lst_bool, isi_lst_int, isi_lst_str, isi_lst_list, isi_lst_tuple, isi_lst_dict, isi_src_bool, isi_src_int, isi_src_str, isi_src_list, isi_src_tuple, isi_src_dict, isi_tup_bool, isi_tup_int, isi_tup_str, isi_tup_list, isi_tup_tuple, isi_tup_dict, isi_dct_bool, isi_dct_int, isi_dct_str, isi_dct_list, isi_dct_tuple, isi_dct_dict, g_nm, g_tp2, g_tp3, g_tp4, g_nil, g_cons, List.getElem?_cons_succ, List.getElem?_cons_zero, List.set_cons_succ, List.set_cons_zero, truD, a1]
    have e1 : (key : Int) / 2 ^ (8 : Int).toNat = ((key / 256 : Nat) : Int) := by
      show (key : Int) / 2 ^ 8 = _
      omega
    have e2 : Builtin.bitAnd (key : Int) 255 = ((key % 256 : Nat) : Int) := by
      rw [PyProof.Rows.bitAnd_m8]
      omega
    rw [e1, e2]
    have e3 : [D.int (c : Int)] ++ nn ns ++ [D.int ((key / 256 : Nat) : Int), D.int ((key % 256 : Nat) : Int)] = nn (c :: (ns ++ [key / 256, key % 256])) := by
      unfold nn
      simp
    have hb2 : ∀ n ∈ c :: (ns ++ [key / 256, key % 256]), n < 256 := by
      intro n hn
      simp only [List.mem_cons, List.mem_append, List.not_mem_nil, or_false] at hn
      rcases hn with rfl | hn | rfl | rfl
      · omega
      · exact hb n hn
      · omega
      · omega
    refine ⟨small_of (by simp), small_of (by rw [List.length_append, nn_len]; simp; omega), by decide, small_of (by simp), small_of (by rw [List.length_append, List.length_append, nn_len]; simp; omega), ?_⟩
    rw [e3]
    rw [w_check_of (d := .lst (nn (c :: (ns ++ [key / 256, key % 256])))) rfl hb2]
    simp only [wpS_seq, wpS_gNm, wpS_asg, wpS_ifS, wpS_drop, wpS_ret, wpS_retN, wpS_stF, wpS_augF, wpS_augI, wpS_augV, wpS_par', wpS_par3', wpS_some, wpS_mNx, wpS_mCt, wpS_mBk, kont_rt, kont_ct, kont_bk, fin_rt, fin_nx, wp_mK, wp_v, vO_some, wp_ret, wp_bnd, wp_op, wp_op1, wp_call, wp_fn, wp_cons, wp_nil, wp_tup, wp_lst, wp_obj, wp_oNone, wp_oSome, intO_int, wp_sl, wp_mIf, wp_mAnd, wp_mOr, wp_mNot, wp_mB, wp_mAndV, wp_mOrV, wp_mNotV, wp_mChain, wp_mTru, isBl_bl, truO_some, x_addI, x_addJ, x_sub, x_mod, x_div, x_mul, x_pow, x_shl, x_shr, x_band, x_bor, x_bxor, x_lt, x_le, x_gt, x_ge, x_neg, x_eqI, x_neI, x_eqS, x_neS, x_isN, x_isNN, x_int, x_abs, x_max2, x_min2, x_d1, x_d2, x_mkL, x_mkT, x_mkO, x_mkD, x_mkDo, x_ix, ixO_some, x_len, lenO_some, x_list, wpO_some, x_slT, x_slL, x_addLL, x_addTT, blO_some, x_isi, wp_isiT, x_fld, x_getI, wp_mMeth, wp_mMake, wp_mMt, wp_mLc, wp_mIt, wp_range1, wp_range2, wp_range3, wpS_for, isi_non_bool, isi_non_int, isi_non_str, isi_non_list, isi_non_tuple, isi_non_dict, isi_bl_bool, isi_bl_int, isi_bl_str, isi_bl_list, isi_bl_tuple, isi_bl_dict, isi_int_bool, isi_int_int, isi_int_str, isi_int_list, isi_int_tuple, isi_int_dict, isi_str_bool, isi_str_int, isi_str_str, isi_str_list, isi_str_tuple, isi_str_dict, isi_lst_bool, isi_lst_int, isi_lst_str, isi_lst_list, isi_lst_tuple, isi_lst_dict, isi_src_bool, isi_src_int, isi_src_str, isi_src_list, isi_src_tuple, isi_src_dict, isi_tup_bool, isi_tup_int, isi_tup_str, isi_tup_list, isi_tup_tuple, isi_tup_dict, isi_dct_bool, isi_dct_int, isi_dct_str, isi_dct_list, isi_dct_tuple, isi_dct_dict, g_nm, g_tp2, g_tp3, g_tp4, g_nil, g_cons, List.getElem?_cons_succ, List.getElem?_cons_zero, List.set_cons_succ, List.set_cons_zero, truD, a1]
    refine ⟨small_of (by simp), small_of (by rw [List.length_append, nn_len]; simp; omega), ?_, trivial⟩
    unfold gd nn
    simp
  rw [wp_of (e_of core)]
theorem cut_from {ds : List D} (k : Nat) : cutD ds (some (k : Int)) none = ds.drop k := by
  unfold cutD
  rw [HT.sIx_nat, HT.sIx_none]
  by_cases h : k ≤ ds.length
  · rw [Nat.min_eq_left h, List.take_of_length_le (by rw [List.length_drop]; omega)]
  · rw [Nat.min_eq_right (by omega), List.drop_of_length_le (Nat.le_refl _), List.drop_of_length_le (by omega)]
    simp
/-! ### frames -/
/-- what was there and is not among ns is as before -/
structure Fr (ns : List Nat) (S S' : MS) : Prop where
  nx : S.nx ≤ S'.nx
  ne : ∀ k, k < S.nx → k ∉ ns → S'.get k = S.get k
theorem Fr.refl {ns : List Nat} : Fr ns S S := ⟨Nat.le_refl _, fun _ _ _ => rfl⟩
theorem Fr.trans {ns : List Nat} {S1 S2 S3 : MS} (a : Fr ns S1 S2) (b : Fr ns S2 S3) : Fr ns S1 S3 := ⟨Nat.le_trans a.nx b.nx, fun k hk hn => (b.ne k (Nat.lt_of_lt_of_le hk a.nx) hn).trans (a.ne k hk hn)⟩
theorem Fr.set {ns : List Nat} {n : Nat} {o : MO} (h : n ∈ ns) : Fr ns S (S.set n o) := ⟨Nat.le_refl _, fun k _ hn => get_ne fun e => hn (e ▸ h)⟩
theorem Fr.add {ns : List Nat} {o : MO} : Fr ns S (S.add o) := ⟨Nat.le_succ _, fun k hk _ => if_neg (Nat.ne_of_lt hk)⟩
theorem Fr.del {ns : List Nat} {S1 : MS} {n : Nat} (h : S.nx ≤ n) (f : Fr ns S S1) : Fr ns S (S1.del n) := ⟨f.nx, fun k hk hn => (if_neg (Nat.ne_of_lt (Nat.lt_of_lt_of_le hk h))).trans (f.ne k hk hn)⟩
theorem Fr.mono {ns ms : List Nat} {S' : MS} (f : Fr ns S S') (h : ∀ n ∈ ns, n ∈ ms) : Fr ms S S' := ⟨f.nx, fun k hk hn => f.ne k hk fun z => hn (h k z)⟩
theorem Fr.dr {n : Nat} {S' : MS} (d : Dr n S S') : Fr [n] S S' := ⟨Nat.le_of_eq d.nx.symm, fun k _ hn => d.ne k fun e => hn (by rw [e]; exact List.mem_singleton.mpr rfl)⟩
theorem e_ex {α : Type} {m : M α} {v : α} {S1 : MS} (h : wp m S (fun u S' => u = v ∧ S' = S1) no) : m S = some (.ok v S1) := by
  obtain ⟨_, _, e, rfl, rfl⟩ := wp_to h
  exact e
/-- a writer -/
def WrO (S : MS) (n : Nat) (key c : Nat) : Prop := S.get n = some (.ins c_Writer [.int key, .int c])
theorem w_write {w key c : Nat} {d : D} {ns : List Nat} (hw : WrO S w key c) (h : lstRd S d = some (nn ns)) (hb : ∀ n ∈ ns, n < 256) (hl : ns.length ≤ 6) (hc : c ≤ 14) (hk : key ≤ 65535) : wp (m_Writer_write [.obj w, d]) S Q E = Q (.lst (nn (gd ns c key))) (S.set w (.ins c_Writer [.int key, .int ((c + 1) % 15 : Nat)])) := by
  have i1 : insOf S c_Writer (.obj w) = some (w, [.int key, .int c]) := ins_obj hw
  have core : wp (m_Writer_write [.obj w, d]) S (fun u S' => u = .lst (nn (gd ns c key)) ∧ S' = S.set w (.ins c_Writer [.int key, .int ((c + 1) % 15 : Nat)])) no := by
    rw [r_Writer_write]
    unfold b_Writer_write
    simp only [wpS_seq, wpS_gNm, wpS_asg, wpS_ifS, wpS_drop, wpS_ret, wpS_retN, wpS_stF, wpS_augF, wpS_augI, wpS_augV, wpS_par', wpS_par3', wpS_some, wpS_mNx, wpS_mCt, wpS_mBk, kont_rt, kont_ct, kont_bk, fin_rt, fin_nx, wp_mK, wp_v, vO_some, wp_ret, wp_bnd, wp_op, wp_op1, wp_call, wp_fn, wp_cons, wp_nil, wp_tup, wp_lst, wp_obj, wp_oNone, wp_oSome, intO_int, wp_sl, wp_mIf, wp_mAnd, wp_mOr, wp_mNot, wp_mB, wp_mAndV, wp_mOrV, wp_mNotV, wp_mChain, wp_mTru, isBl_bl, truO_some, x_addI, x_addJ, x_sub, x_mod, x_div, x_mul, x_pow, x_shl, x_shr, x_band, x_bor, x_bxor, x_lt, x_le, x_gt, x_ge, x_neg, x_eqI, x_neI, x_eqS, x_neS, x_isN, x_isNN, x_int, x_abs, x_max2, x_min2, x_d1, x_d2, x_mkL, x_mkT, x_mkO, x_mkD, x_mkDo, x_ix, ixO_some, x_len, lenO_some, x_list, wpO_some, x_slT, x_slL, x_addLL, x_addTT, blO_some, x_isi, wp_isiT, x_fld, x_getI, wp_mMeth, wp_mMake, wp_mMt, wp_mLc, wp_mIt, wp_range1, wp_range2, wp_range3, wpS_for, isi_non_bool, isi_non_int, isi_non_str, isi_non_list, isi_non_tuple, isi_non_dict, isi_bl_bool, isi_bl_int, isi_bl_str, isi_bl_list, isi_bl_tuple, isi_bl_dict, isi_int_bool, isi_int_int, isi_int_str, isi_int_list, isi_int_tuple, isi_int_dict, isi_str_bool, isi_str_int, isi_str_str, isi_str_list, isi_str_tuple, isi_str_dict, isi_lst_bool, isi_lst_int, isi_lst_str, isi_lst_list, isi_lst_tuple, isi_lst_dict, isi_src_bool, isi_src_int, isi_src_str, isi_src_list, isi_src_tuple, isi_src_dict, isi_tup_bool, isi_tup_int, isi_tup_str, isi_tup_list, isi_tup_tuple, isi_tup_dict, isi_dct_bool, isi_dct_int, isi_dct_str, isi_dct_list, isi_dct_tuple, isi_dct_dict, g_nm, g_tp2, g_tp3, g_tp4, g_nil, g_cons, List.getElem?_cons_succ, List.getElem?_cons_zero, List.set_cons_succ, List.set_cons_zero, truD, i1, w_guarded h hb hl hc hk]
    refine kont_nx ?_
    have e1 : ((c : Int) + 1) % (14 + 1) = (((c + 1) % 15 : Nat) : Int) := by omega
    simp only [wpS_seq, wpS_gNm, wpS_asg, wpS_ifS, wpS_drop, wpS_ret, wpS_retN, wpS_stF, wpS_augF, wpS_augI, wpS_augV, wpS_par', wpS_par3', wpS_some, wpS_mNx, wpS_mCt, wpS_mBk, kont_rt, kont_ct, kont_bk, fin_rt, fin_nx, wp_mK, wp_v, vO_some, wp_ret, wp_bnd, wp_op, wp_op1, wp_call, wp_fn, wp_cons, wp_nil, wp_tup, wp_lst, wp_obj, wp_oNone, wp_oSome, intO_int, wp_sl, wp_mIf, wp_mAnd, wp_mOr, wp_mNot, wp_mB, wp_mAndV, wp_mOrV, wp_mNotV, wp_mChain, wp_mTru, isBl_bl, truO_some, x_addI, x_addJ, x_sub, x_mod, x_div, x_mul, x_pow, x_shl, x_shr, x_band, x_bor, x_bxor, x_lt, x_le, x_gt, x_ge, x_neg, x_eqI, x_neI, x_eqS, x_neS, x_isN, x_isNN, x_int, x_abs, x_max2, x_min2, x_d1, x_d2, x_mkL, x_mkT, x_mkO, x_mkD, x_mkDo, x_ix, ixO_some, x_len, lenO_some, x_list, wpO_some, x_slT, x_slL, x_addLL, x_addTT, blO_some, x_isi, wp_isiT, x_fld, x_getI, wp_mMeth, wp_mMake, wp_mMt, wp_mLc, wp_mIt, wp_range1, wp_range2, wp_range3, wpS_for, isi_non_bool, isi_non_int, isi_non_str, isi_non_list, isi_non_tuple, isi_non_dict, isi_bl_bool, isi_bl_int, isi_bl_str, isi_bl_list, isi_bl_tuple, isi_bl_dict, isi_int_bool, isi_int_int, isi_int_str, isi_int_list, isi_int_tuple, isi_int_dict, isi_str_bool, isi_str_int, isi_str_str, isi_str_list, isi_str_tuple, isi_str_dict, isi_lst_bool, isi_lst_int, isi_lst_str, isi_lst_list, isi_lst_tuple, isi_lst_dict, isi_src_bool, isi_src_int, isi_src_str, isi_src_list, isi_src_tuple, isi_src_dict, isi_tup_bool, isi_tup_int, isi_tup_str, isi_tup_list, isi_tup_tuple, isi_tup_dict, isi_dct_bool, isi_dct_int, isi_dct_str, isi_dct_list, isi_dct_tuple, isi_dct_dict, g_nm, g_tp2, g_tp3, g_tp4, g_nil, g_cons, List.getElem?_cons_succ, List.getElem?_cons_zero, List.set_cons_succ, List.set_cons_zero, truD, i1, e1, stF_obj (i := 1) (x := .int (((c + 1) % 15 : Nat) : Int)) hw rfl (by simp)]
    refine ⟨by decide, kont_nx ?_⟩
    simp only [wpS_seq, wpS_gNm, wpS_asg, wpS_ifS, wpS_drop, wpS_ret, wpS_retN, wpS_stF, wpS_augF, wpS_augI, wpS_augV, wpS_par', wpS_par3', wpS_some, wpS_mNx, wpS_mCt, wpS_mBk, kont_rt, kont_ct, kont_bk, fin_rt, fin_nx, wp_mK, wp_v, vO_some, wp_ret, wp_bnd, wp_op, wp_op1, wp_call, wp_fn, wp_cons, wp_nil, wp_tup, wp_lst, wp_obj, wp_oNone, wp_oSome, intO_int, wp_sl, wp_mIf, wp_mAnd, wp_mOr, wp_mNot, wp_mB, wp_mAndV, wp_mOrV, wp_mNotV, wp_mChain, wp_mTru, isBl_bl, truO_some, x_addI, x_addJ, x_sub, x_mod, x_div, x_mul, x_pow, x_shl, x_shr, x_band, x_bor, x_bxor, x_lt, x_le, x_gt, x_ge, x_neg, x_eqI, x_neI, x_eqS, x_neS, x_isN, x_isNN, x_int, x_abs, x_max2, x_min2, x_d1, x_d2, x_mkL, x_mkT, x_mkO, x_mkD, x_mkDo, x_ix, ixO_some, x_len, lenO_some, x_list, wpO_some, x_slT, x_slL, x_addLL, x_addTT, blO_some, x_isi, wp_isiT, x_fld, x_getI, wp_mMeth, wp_mMake, wp_mMt, wp_mLc, wp_mIt, wp_range1, wp_range2, wp_range3, wpS_for, isi_non_bool, isi_non_int, isi_non_str, isi_non_list, isi_non_tuple, isi_non_dict, isi_bl_bool, isi_bl_int, isi_bl_str, isi_bl_list, isi_bl_tuple, isi_bl_dict, isi_int_bool, isi_int_int, isi_int_str, isi_int_list, isi_int_tuple, isi_int_dict, isi_str_bool, isi_str_int, isi_str_str, isi_str_list, isi_str_tuple, isi_str_dict, isi_lst_bool, isi_lst_int, isi_lst_str, isi_lst_list, isi_lst_tuple, isi_lst_dict, isi_src_bool, isi_src_int, isi_src_str, isi_src_list, isi_src_tuple, isi_src_dict, isi_tup_bool, isi_tup_int, isi_tup_str, isi_tup_list, isi_tup_tuple, isi_tup_dict, isi_dct_bool, isi_dct_int, isi_dct_str, isi_dct_list, isi_dct_tuple, isi_dct_dict, g_nm, g_tp2, g_tp3, g_tp4, g_nil, g_cons, List.getElem?_cons_succ, List.getElem?_cons_zero, List.set_cons_succ, List.set_cons_zero, truD]
    exact ⟨trivial, trivial⟩
  rw [wp_of (e_ex core)]
theorem w_winit {w key : Nat} (hw : S.get w = some (.ins c_Writer [])) : wp (m_Writer___init__ [.obj w, .int key]) S Q E = Q .non (S.set w (.ins c_Writer [.int key, .int 0])) := by
  rw [r_Writer___init__]
  unfold b_Writer___init__
  have s1 : stF c_Writer 0 (.obj w) (.int (key : Int)) S = some (S.set w (.ins c_Writer [.int key])) := stF_obj hw rfl (by simp)
  have s2 : stF c_Writer 1 (.obj w) (.int 0) (S.set w (.ins c_Writer [.int key])) = some ((S.set w (.ins c_Writer [.int key])).set w (.ins c_Writer [.int key, .int 0])) := stF_obj get_same rfl (by simp)
  simp only [wpS_seq, wpS_gNm, wpS_asg, wpS_ifS, wpS_drop, wpS_ret, wpS_retN, wpS_stF, wpS_augF, wpS_augI, wpS_augV, wpS_par', wpS_par3', wpS_some, wpS_mNx, wpS_mCt, wpS_mBk, kont_rt, kont_ct, kont_bk, fin_rt, fin_nx, wp_mK, wp_v, vO_some, wp_ret, wp_bnd, wp_op, wp_op1, wp_call, wp_fn, wp_cons, wp_nil, wp_tup, wp_lst, wp_obj, wp_oNone, wp_oSome, intO_int, wp_sl, wp_mIf, wp_mAnd, wp_mOr, wp_mNot, wp_mB, wp_mAndV, wp_mOrV, wp_mNotV, wp_mChain, wp_mTru, isBl_bl, truO_some, x_addI, x_addJ, x_sub, x_mod, x_div, x_mul, x_pow, x_shl, x_shr, x_band, x_bor, x_bxor, x_lt, x_le, x_gt, x_ge, x_neg, x_eqI, x_neI, x_eqS, x_neS, x_isN, x_isNN, x_int, x_abs, x_max2, x_min2, x_d1, x_d2, x_mkL, x_mkT, x_mkO, x_mkD, x_mkDo, x_ix, ixO_some, x_len, lenO_some, x_list, wpO_some, x_slT, x_slL, x_addLL, x_addTT, blO_some, x_isi, wp_isiT, x_fld, x_getI, wp_mMeth, wp_mMake, wp_mMt, wp_mLc, wp_mIt, wp_range1, wp_range2, wp_range3, wpS_for, isi_non_bool, isi_non_int, isi_non_str, isi_non_list, isi_non_tuple, isi_non_dict, isi_bl_bool, isi_bl_int, isi_bl_str, isi_bl_list, isi_bl_tuple, isi_bl_dict, isi_int_bool, isi_int_int, isi_int_str, isi_int_list, isi_int_tuple, isi_int_dict, isi_str_bool, isi_str_int, isi_str_str, isi_str_list, isi_str_tuple, isi_str_dict, isi_lst_bool, isi_lst_int, isi_lst_str, isi_lst_list, isi_lst_tuple, isi_lst_dict, isi_src_bool, isi_src_int, isi_src_str, isi_src_list, isi_src_tuple, isi_src_dict, isi_tup_bool, isi_tup_int, isi_tup_str, isi_tup_list, isi_tup_tuple, isi_tup_dict, isi_dct_bool, isi_dct_int, isi_dct_str, isi_dct_list, isi_dct_tuple, isi_dct_dict, g_nm, g_tp2, g_tp3, g_tp4, g_nil, g_cons, List.getElem?_cons_succ, List.getElem?_cons_zero, List.set_cons_succ, List.set_cons_zero, truD, s1]
  show wpS _ _ = _
  simp only [wpS_seq, wpS_gNm, wpS_asg, wpS_ifS, wpS_drop, wpS_ret, wpS_retN, wpS_stF, wpS_augF, wpS_augI, wpS_augV, wpS_par', wpS_par3', wpS_some, wpS_mNx, wpS_mCt, wpS_mBk, kont_rt, kont_ct, kont_bk, fin_rt, fin_nx, wp_mK, wp_v, vO_some, wp_ret, wp_bnd, wp_op, wp_op1, wp_call, wp_fn, wp_cons, wp_nil, wp_tup, wp_lst, wp_obj, wp_oNone, wp_oSome, intO_int, wp_sl, wp_mIf, wp_mAnd, wp_mOr, wp_mNot, wp_mB, wp_mAndV, wp_mOrV, wp_mNotV, wp_mChain, wp_mTru, isBl_bl, truO_some, x_addI, x_addJ, x_sub, x_mod, x_div, x_mul, x_pow, x_shl, x_shr, x_band, x_bor, x_bxor, x_lt, x_le, x_gt, x_ge, x_neg, x_eqI, x_neI, x_eqS, x_neS, x_isN, x_isNN, x_int, x_abs, x_max2, x_min2, x_d1, x_d2, x_mkL, x_mkT, x_mkO, x_mkD, x_mkDo, x_ix, ixO_some, x_len, lenO_some, x_list, wpO_some, x_slT, x_slL, x_addLL, x_addTT, blO_some, x_isi, wp_isiT, x_fld, x_getI, wp_mMeth, wp_mMake, wp_mMt, wp_mLc, wp_mIt, wp_range1, wp_range2, wp_range3, wpS_for, isi_non_bool, isi_non_int, isi_non_str, isi_non_list, isi_non_tuple, isi_non_dict, isi_bl_bool, isi_bl_int, isi_bl_str, isi_bl_list, isi_bl_tuple, isi_bl_dict, isi_int_bool, isi_int_int, isi_int_str, isi_int_list, isi_int_tuple, isi_int_dict, isi_str_bool, isi_str_int, isi_str_str, isi_str_list, isi_str_tuple, isi_str_dict, isi_lst_bool, isi_lst_int, isi_lst_str, isi_lst_list, isi_lst_tuple, isi_lst_dict, isi_src_bool, isi_src_int, isi_src_str, isi_src_list, isi_src_tuple, isi_src_dict, isi_tup_bool, isi_tup_int, isi_tup_str, isi_tup_list, isi_tup_tuple, isi_tup_dict, isi_dct_bool, isi_dct_int, isi_dct_str, isi_dct_list, isi_dct_tuple, isi_dct_dict, g_nm, g_tp2, g_tp3, g_tp4, g_nil, g_cons, List.getElem?_cons_succ, List.getElem?_cons_zero, List.set_cons_succ, List.set_cons_zero, truD, s2, set_set]
/-! ### a reader -/
def cnt (a b c d e f : Int) : List (Key × D) := [(.inr "fine", .int a), (.inr "lost", .int b), (.inr "again", .int c), (.inr "far", .int d), (.inr "changed", .int e), (.inr "late", .int f)]
theorem lk_fine {a b c d e f : Int} : dLook (cnt a b c d e f) (.inr "fine") = some (.int a) := by rfl
theorem lk_lost {a b c d e f : Int} : dLook (cnt a b c d e f) (.inr "lost") = some (.int b) := by rfl
theorem lk_again {a b c d e f : Int} : dLook (cnt a b c d e f) (.inr "again") = some (.int c) := by rfl
theorem lk_far {a b c d e f : Int} : dLook (cnt a b c d e f) (.inr "far") = some (.int d) := by rfl
theorem lk_changed {a b c d e f : Int} : dLook (cnt a b c d e f) (.inr "changed") = some (.int e) := by rfl
theorem lk_late {a b c d e f : Int} : dLook (cnt a b c d e f) (.inr "late") = some (.int f) := by rfl
theorem pt_fine {a b c d e f x : Int} : dPutK (cnt a b c d e f) (.inr "fine") (.int x) = cnt x b c d e f := by rfl
theorem pt_lost {a b c d e f x : Int} : dPutK (cnt a b c d e f) (.inr "lost") (.int x) = cnt a x c d e f := by rfl
theorem pt_again {a b c d e f x : Int} : dPutK (cnt a b c d e f) (.inr "again") (.int x) = cnt a b x d e f := by rfl
theorem pt_changed {a b c d e f x : Int} : dPutK (cnt a b c d e f) (.inr "changed") (.int x) = cnt a b c d x f := by rfl
theorem pt_late {a b c d e f x : Int} : dPutK (cnt a b c d e f) (.inr "late") (.int x) = cnt a b c d e x := by rfl
theorem cnt_len {a b c d e f : Int} : (cnt a b c d e f).length = 6 := rfl
def rdr (key now : Int) (ctr last : D) (bell : Int) : MO := .ins c_Reader [.int key, .int 13, .int 50, .int now, ctr, last, .int bell, .obj 3]
theorem w_rinit {key : Nat} (hr : S.get 2 = some (.ins c_Reader [])) (hn : S.nx = 3) (k : ∀ S' : MS, S'.nx = 4 → S'.get 2 = some (rdr key 0 .non .non 50) → S'.get 3 = some (.dk (cnt 0 0 0 0 0 0)) → (∀ j, j < 2 → S'.get j = S.get j) → Q .non S') : wp (m_Reader___init__ [.obj 2, .int key, .int 13, .int 50]) S Q E := by
  rw [r_Reader___init__]
  unfold b_Reader___init__
  have s1 : stF c_Reader 0 (.obj 2) (.int (key : Int)) S = some (S.set 2 (.ins c_Reader [.int key])) := stF_obj hr rfl (by simp)
  have s2 : stF c_Reader 1 (.obj 2) (.int 13) (S.set 2 (.ins c_Reader [.int key])) = some ((S.set 2 (.ins c_Reader [.int key])).set 2 (.ins c_Reader [.int key, .int 13])) := stF_obj get_same rfl (by simp)
  have s3 : stF c_Reader 2 (.obj 2) (.int 50) (S.set 2 (.ins c_Reader [.int key, .int 13])) = some ((S.set 2 (.ins c_Reader [.int key, .int 13])).set 2 (.ins c_Reader [.int key, .int 13, .int 50])) := stF_obj get_same rfl (by simp)
  have s4 : stF c_Reader 3 (.obj 2) (.int 0) (S.set 2 (.ins c_Reader [.int key, .int 13, .int 50])) = some ((S.set 2 (.ins c_Reader [.int key, .int 13, .int 50])).set 2 (.ins c_Reader [.int key, .int 13, .int 50, .int 0])) := stF_obj get_same rfl (by simp)
  have s5 : stF c_Reader 4 (.obj 2) .non (S.set 2 (.ins c_Reader [.int key, .int 13, .int 50, .int 0])) = some ((S.set 2 (.ins c_Reader [.int key, .int 13, .int 50, .int 0])).set 2 (.ins c_Reader [.int key, .int 13, .int 50, .int 0, .non])) := stF_obj get_same rfl (by simp)
  have s6 : stF c_Reader 5 (.obj 2) .non (S.set 2 (.ins c_Reader [.int key, .int 13, .int 50, .int 0, .non])) = some ((S.set 2 (.ins c_Reader [.int key, .int 13, .int 50, .int 0, .non])).set 2 (.ins c_Reader [.int key, .int 13, .int 50, .int 0, .non, .non])) := stF_obj get_same rfl (by simp)
  have s7 : stF c_Reader 6 (.obj 2) (.int 50) (S.set 2 (.ins c_Reader [.int key, .int 13, .int 50, .int 0, .non, .non])) = some ((S.set 2 (.ins c_Reader [.int key, .int 13, .int 50, .int 0, .non, .non])).set 2 (.ins c_Reader [.int key, .int 13, .int 50, .int 0, .non, .non, .int 50])) := stF_obj get_same rfl (by simp)
  simp only [wpS_seq, wpS_gNm, wpS_asg, wpS_ifS, wpS_drop, wpS_ret, wpS_retN, wpS_stF, wpS_augF, wpS_augI, wpS_augV, wpS_par', wpS_par3', wpS_some, wpS_mNx, wpS_mCt, wpS_mBk, kont_rt, kont_ct, kont_bk, fin_rt, fin_nx, wp_mK, wp_v, vO_some, wp_ret, wp_bnd, wp_op, wp_op1, wp_call, wp_fn, wp_cons, wp_nil, wp_tup, wp_lst, wp_obj, wp_oNone, wp_oSome, intO_int, wp_sl, wp_mIf, wp_mAnd, wp_mOr, wp_mNot, wp_mB, wp_mAndV, wp_mOrV, wp_mNotV, wp_mChain, wp_mTru, isBl_bl, truO_some, x_addI, x_addJ, x_sub, x_mod, x_div, x_mul, x_pow, x_shl, x_shr, x_band, x_bor, x_bxor, x_lt, x_le, x_gt, x_ge, x_neg, x_eqI, x_neI, x_eqS, x_neS, x_isN, x_isNN, x_int, x_abs, x_max2, x_min2, x_d1, x_d2, x_mkL, x_mkT, x_mkO, x_mkD, x_mkDo, x_ix, ixO_some, x_len, lenO_some, x_list, wpO_some, x_slT, x_slL, x_addLL, x_addTT, blO_some, x_isi, wp_isiT, x_fld, x_getI, wp_mMeth, wp_mMake, wp_mMt, wp_mLc, wp_mIt, wp_range1, wp_range2, wp_range3, wpS_for, isi_non_bool, isi_non_int, isi_non_str, isi_non_list, isi_non_tuple, isi_non_dict, isi_bl_bool, isi_bl_int, isi_bl_str, isi_bl_list, isi_bl_tuple, isi_bl_dict, isi_int_bool, isi_int_int, isi_int_str, isi_int_list, isi_int_tuple, isi_int_dict, isi_str_bool, isi_str_int, isi_str_str, isi_str_list, isi_str_tuple, isi_str_dict, isi_lst_bool, isi_lst_int, isi_lst_str, isi_lst_list, isi_lst_tuple, isi_lst_dict, isi_src_bool, isi_src_int, isi_src_str, isi_src_list, isi_src_tuple, isi_src_dict, isi_tup_bool, isi_tup_int, isi_tup_str, isi_tup_list, isi_tup_tuple, isi_tup_dict, isi_dct_bool, isi_dct_int, isi_dct_str, isi_dct_list, isi_dct_tuple, isi_dct_dict, g_nm, g_tp2, g_tp3, g_tp4, g_nil, g_cons, List.getElem?_cons_succ, List.getElem?_cons_zero, List.set_cons_succ, List.set_cons_zero, truD, s1]
  refine kont_nx ?_
  simp only [wpS_seq, wpS_gNm, wpS_asg, wpS_ifS, wpS_drop, wpS_ret, wpS_retN, wpS_stF, wpS_augF, wpS_augI, wpS_augV, wpS_par', wpS_par3', wpS_some, wpS_mNx, wpS_mCt, wpS_mBk, kont_rt, kont_ct, kont_bk, fin_rt, fin_nx, wp_mK, wp_v, vO_some, wp_ret, wp_bnd, wp_op, wp_op1, wp_call, wp_fn, wp_cons, wp_nil, wp_tup, wp_lst, wp_obj, wp_oNone, wp_oSome, intO_int, wp_sl, wp_mIf, wp_mAnd, wp_mOr, wp_mNot, wp_mB, wp_mAndV, wp_mOrV, wp_mNotV, wp_mChain, wp_mTru, isBl_bl, truO_some, x_addI, x_addJ, x_sub, x_mod, x_div, x_mul, x_pow, x_shl, x_shr, x_band, x_bor, x_bxor, x_lt, x_le, x_gt, x_ge, x_neg, x_eqI, x_neI, x_eqS, x_neS, x_isN, x_isNN, x_int, x_abs, x_max2, x_min2, x_d1, x_d2, x_mkL, x_mkT, x_mkO, x_mkD, x_mkDo, x_ix, ixO_some, x_len, lenO_some, x_list, wpO_some, x_slT, x_slL, x_addLL, x_addTT, blO_some, x_isi, wp_isiT, x_fld, x_getI, wp_mMeth, wp_mMake, wp_mMt, wp_mLc, wp_mIt, wp_range1, wp_range2, wp_range3, wpS_for, isi_non_bool, isi_non_int, isi_non_str, isi_non_list, isi_non_tuple, isi_non_dict, isi_bl_bool, isi_bl_int, isi_bl_str, isi_bl_list, isi_bl_tuple, isi_bl_dict, isi_int_bool, isi_int_int, isi_int_str, isi_int_list, isi_int_tuple, isi_int_dict, isi_str_bool, isi_str_int, isi_str_str, isi_str_list, isi_str_tuple, isi_str_dict, isi_lst_bool, isi_lst_int, isi_lst_str, isi_lst_list, isi_lst_tuple, isi_lst_dict, isi_src_bool, isi_src_int, isi_src_str, isi_src_list, isi_src_tuple, isi_src_dict, isi_tup_bool, isi_tup_int, isi_tup_str, isi_tup_list, isi_tup_tuple, isi_tup_dict, isi_dct_bool, isi_dct_int, isi_dct_str, isi_dct_list, isi_dct_tuple, isi_dct_dict, g_nm, g_tp2, g_tp3, g_tp4, g_nil, g_cons, List.getElem?_cons_succ, List.getElem?_cons_zero, List.set_cons_succ, List.set_cons_zero, truD, s2, set_set]
  refine kont_nx ?_
  simp only [wpS_seq, wpS_gNm, wpS_asg, wpS_ifS, wpS_drop, wpS_ret, wpS_retN, wpS_stF, wpS_augF, wpS_augI, wpS_augV, wpS_par', wpS_par3', wpS_some, wpS_mNx, wpS_mCt, wpS_mBk, kont_rt, kont_ct, kont_bk, fin_rt, fin_nx, wp_mK, wp_v, vO_some, wp_ret, wp_bnd, wp_op, wp_op1, wp_call, wp_fn, wp_cons, wp_nil, wp_tup, wp_lst, wp_obj, wp_oNone, wp_oSome, intO_int, wp_sl, wp_mIf, wp_mAnd, wp_mOr, wp_mNot, wp_mB, wp_mAndV, wp_mOrV, wp_mNotV, wp_mChain, wp_mTru, isBl_bl, truO_some, x_addI, x_addJ, x_sub, x_mod, x_div, x_mul, x_pow, x_shl, x_shr, x_band, x_bor, x_bxor, x_lt, x_le, x_gt, x_ge, x_neg, x_eqI, x_neI, x_eqS, x_neS, x_isN, x_isNN, x_int, x_abs, x_max2, x_min2, x_d1, x_d2, x_mkL, x_mkT, x_mkO, x_mkD, x_mkDo, x_ix, ixO_some, x_len, lenO_some, x_list, wpO_some, x_slT, x_slL, x_addLL, x_addTT, blO_some, x_isi, wp_isiT, x_fld, x_getI, wp_mMeth, wp_mMake, wp_mMt, wp_mLc, wp_mIt, wp_range1, wp_range2, wp_range3, wpS_for, isi_non_bool, isi_non_int, isi_non_str, isi_non_list, isi_non_tuple, isi_non_dict, isi_bl_bool, isi_bl_int, isi_bl_str, isi_bl_list, isi_bl_tuple, isi_bl_dict, isi_int_bool, isi_int_int, isi_int_str, isi_int_list, isi_int_tuple, isi_int_dict, isi_str_bool, isi_str_int, isi_str_str, isi_str_list, isi_str_tuple, isi_str_dict, isi_lst_bool, isi_lst_int, isi_lst_str, isi_lst_list, isi_lst_tuple, isi_lst_dict, isi_src_bool, isi_src_int, isi_src_str, isi_src_list, isi_src_tuple, isi_src_dict, isi_tup_bool, isi_tup_int, isi_tup_str, isi_tup_list, isi_tup_tuple, isi_tup_dict, isi_dct_bool, isi_dct_int, isi_dct_str, isi_dct_list, isi_dct_tuple, isi_dct_dict, g_nm, g_tp2, g_tp3, g_tp4, g_nil, g_cons, List.getElem?_cons_succ, List.getElem?_cons_zero, List.set_cons_succ, List.set_cons_zero, truD, s3, set_set]
  refine kont_nx ?_
  simp only [wpS_seq, wpS_gNm, wpS_asg, wpS_ifS, wpS_drop, wpS_ret, wpS_retN, wpS_stF, wpS_augF, wpS_augI, wpS_augV, wpS_par', wpS_par3', wpS_some, wpS_mNx, wpS_mCt, wpS_mBk, kont_rt, kont_ct, kont_bk, fin_rt, fin_nx, wp_mK, wp_v, vO_some, wp_ret, wp_bnd, wp_op, wp_op1, wp_call, wp_fn, wp_cons, wp_nil, wp_tup, wp_lst, wp_obj, wp_oNone, wp_oSome, intO_int, wp_sl, wp_mIf, wp_mAnd, wp_mOr, wp_mNot, wp_mB, wp_mAndV, wp_mOrV, wp_mNotV, wp_mChain, wp_mTru, isBl_bl, truO_some, x_addI, x_addJ, x_sub, x_mod, x_div, x_mul, x_pow, x_shl, x_shr, x_band, x_bor, x_bxor, x_lt, x_le, x_gt, x_ge, x_neg, x_eqI, x_neI, x_eqS, x_neS, x_isN, x_isNN, x_int, x_abs, x_max2, x_min2, x_d1, x_d2, x_mkL, x_mkT, x_mkO, x_mkD, x_mkDo, x_ix, ixO_some, x_len, lenO_some, x_list, wpO_some, x_slT, x_slL, x_addLL, x_addTT, blO_some, x_isi, wp_isiT, x_fld, x_getI, wp_mMeth, wp_mMake, wp_mMt, wp_mLc, wp_mIt, wp_range1, wp_range2, wp_range3, wpS_for, isi_non_bool, isi_non_int, isi_non_str, isi_non_list, isi_non_tuple, isi_non_dict, isi_bl_bool, isi_bl_int, isi_bl_str, isi_bl_list, isi_bl_tuple, isi_bl_dict, isi_int_bool, isi_int_int, isi_int_str, isi_int_list, isi_int_tuple, isi_int_dict, isi_str_bool, isi_str_int, isi_str_str, isi_str_list, isi_str_tuple, isi_str_dict, isi_lst_bool, isi_lst_int, isi_lst_str, isi_lst_list, isi_lst_tuple, isi_lst_dict, isi_src_bool, isi_src_int, isi_src_str, isi_src_list, isi_src_tuple, isi_src_dict, isi_tup_bool, isi_tup_int, isi_tup_str, isi_tup_list, isi_tup_tuple, isi_tup_dict, isi_dct_bool, isi_dct_int, isi_dct_str, isi_dct_list, isi_dct_tuple, isi_dct_dict, g_nm, g_tp2, g_tp3, g_tp4, g_nil, g_cons, List.getElem?_cons_succ, List.getElem?_cons_zero, List.set_cons_succ, List.set_cons_zero, truD, s4, set_set]
  refine kont_nx ?_
  simp only [wpS_seq, wpS_gNm, wpS_asg, wpS_ifS, wpS_drop, wpS_ret, wpS_retN, wpS_stF, wpS_augF, wpS_augI, wpS_augV, wpS_par', wpS_par3', wpS_some, wpS_mNx, wpS_mCt, wpS_mBk, kont_rt, kont_ct, kont_bk, fin_rt, fin_nx, wp_mK, wp_v, vO_some, wp_ret, wp_bnd, wp_op, wp_op1, wp_call, wp_fn, wp_cons, wp_nil, wp_tup, wp_lst, wp_obj, wp_oNone, wp_oSome, intO_int, wp_sl, wp_mIf, wp_mAnd, wp_mOr, wp_mNot, wp_mB, wp_mAndV, wp_mOrV, wp_mNotV, wp_mChain, wp_mTru, isBl_bl, truO_some, x_addI, x_addJ, x_sub, x_mod, x_div, x_mul, x_pow, x_shl, x_shr, x_band, x_bor, x_bxor, x_lt, x_le, x_gt, x_ge, x_neg, x_eqI, x_neI, x_eqS, x_neS, x_isN, x_isNN, x_int, x_abs, x_max2, x_min2, x_d1, x_d2, x_mkL, x_mkT, x_mkO, x_mkD, x_mkDo, x_ix, ixO_some, x_len, lenO_some, x_list, wpO_some, x_slT, x_slL, x_addLL, x_addTT, blO_some, x_isi, wp_isiT, x_fld, x_getI, wp_mMeth, wp_mMake, wp_mMt, wp_mLc, wp_mIt, wp_range1, wp_range2, wp_range3, wpS_for, isi_non_bool, isi_non_int, isi_non_str, isi_non_list, isi_non_tuple, isi_non_dict, isi_bl_bool, isi_bl_int, isi_bl_str, isi_bl_list, isi_bl_tuple, isi_bl_dict, isi_int_bool, isi_int_int, isi_int_str, isi_int_list, isi_int_tuple, isi_int_dict, isi_str_bool, isi_str_int, isi_str_str, isi_str_list, isi_str_tuple, isi_str_dict, isi_lst_bool, isi_lst_int, isi_lst_str, isi_lst_list, isi_lst_tuple, isi_lst_dict, isi_src_bool, isi_src_int, isi_src_str, isi_src_list, isi_src_tuple, isi_src_dict, isi_tup_bool, isi_tup_int, isi_tup_str, isi_tup_list, isi_tup_tuple, isi_tup_dict, isi_dct_bool, isi_dct_int, isi_dct_str, isi_dct_list, isi_dct_tuple, isi_dct_dict, g_nm, g_tp2, g_tp3, g_tp4, g_nil, g_cons, List.getElem?_cons_succ, List.getElem?_cons_zero, List.set_cons_succ, List.set_cons_zero, truD, s5, set_set]
  refine kont_nx ?_
  simp only [wpS_seq, wpS_gNm, wpS_asg, wpS_ifS, wpS_drop, wpS_ret, wpS_retN, wpS_stF, wpS_augF, wpS_augI, wpS_augV, wpS_par', wpS_par3', wpS_some, wpS_mNx, wpS_mCt, wpS_mBk, kont_rt, kont_ct, kont_bk, fin_rt, fin_nx, wp_mK, wp_v, vO_some, wp_ret, wp_bnd, wp_op, wp_op1, wp_call, wp_fn, wp_cons, wp_nil, wp_tup, wp_lst, wp_obj, wp_oNone, wp_oSome, intO_int, wp_sl, wp_mIf, wp_mAnd, wp_mOr, wp_mNot, wp_mB, wp_mAndV, wp_mOrV, wp_mNotV, wp_mChain, wp_mTru, isBl_bl, truO_some, x_addI, x_addJ, x_sub, x_mod, x_div, x_mul, x_pow, x_shl, x_shr, x_band, x_bor, x_bxor, x_lt, x_le, x_gt, x_ge, x_neg, x_eqI, x_neI, x_eqS, x_neS, x_isN, x_isNN, x_int, x_abs, x_max2, x_min2, x_d1, x_d2, x_mkL, x_mkT, x_mkO, x_mkD, x_mkDo, x_ix, ixO_some, x_len, lenO_some, x_list, wpO_some, x_slT, x_slL, x_addLL, x_addTT, blO_some, x_isi, wp_isiT, x_fld, x_getI, wp_mMeth, wp_mMake, wp_mMt, wp_mLc, wp_mIt, wp_range1, wp_range2, wp_range3, wpS_for, isi_non_bool, isi_non_int, isi_non_str, isi_non_list, isi_non_tuple, isi_non_dict, isi_bl_bool, isi_bl_int, isi_bl_str, isi_bl_list, isi_bl_tuple, isi_bl_dict, isi_int_bool, isi_int_int, isi_int_str, isi_int_list, isi_int_tuple, isi_int_dict, isi_str_bool, isi_str_int, isi_str_str, isi_str_list, isi_str_tuple, isi_str_dict, isi_lst_bool, isi_lst_int, isi_lst_str, isi_lst_list, isi_lst_tuple, isi_lst_dict, isi_src_bool, isi_src_int, isi_src_str, isi_src_list, isi_src_tuple, isi_src_dict, isi_tup_bool, isi_tup_int, isi_tup_str, isi_tup_list, isi_tup_tuple, isi_tup_dict, isi_dct_bool, isi_dct_int, isi_dct_str, isi_dct_list, isi_dct_tuple, isi_dct_dict, g_nm, g_tp2, g_tp3, g_tp4, g_nil, g_cons, List.getElem?_cons_succ, List.getElem?_cons_zero, List.set_cons_succ, List.set_cons_zero, truD, s6, set_set]
  refine kont_nx ?_
  simp only [wpS_seq, wpS_gNm, wpS_asg, wpS_ifS, wpS_drop, wpS_ret, wpS_retN, wpS_stF, wpS_augF, wpS_augI, wpS_augV, wpS_par', wpS_par3', wpS_some, wpS_mNx, wpS_mCt, wpS_mBk, kont_rt, kont_ct, kont_bk, fin_rt, fin_nx, wp_mK, wp_v, vO_some, wp_ret, wp_bnd, wp_op, wp_op1, wp_call, wp_fn, wp_cons, wp_nil, wp_tup, wp_lst, wp_obj, wp_oNone, wp_oSome, intO_int, wp_sl, wp_mIf, wp_mAnd, wp_mOr, wp_mNot, wp_mB, wp_mAndV, wp_mOrV, wp_mNotV, wp_mChain, wp_mTru, isBl_bl, truO_some, x_addI, x_addJ, x_sub, x_mod, x_div, x_mul, x_pow, x_shl, x_shr, x_band, x_bor, x_bxor, x_lt, x_le, x_gt, x_ge, x_neg, x_eqI, x_neI, x_eqS, x_neS, x_isN, x_isNN, x_int, x_abs, x_max2, x_min2, x_d1, x_d2, x_mkL, x_mkT, x_mkO, x_mkD, x_mkDo, x_ix, ixO_some, x_len, lenO_some, x_list, wpO_some, x_slT, x_slL, x_addLL, x_addTT, blO_some, x_isi, wp_isiT, x_fld, x_getI, wp_mMeth, wp_mMake, wp_mMt, wp_mLc, wp_mIt, wp_range1, wp_range2, wp_range3, wpS_for, isi_non_bool, isi_non_int, isi_non_str, isi_non_list, isi_non_tuple, isi_non_dict, isi_bl_bool, isi_bl_int, isi_bl_str, isi_bl_list, isi_bl_tuple, isi_bl_dict, isi_int_bool, isi_int_int, isi_int_str, isi_int_list, isi_int_tuple, isi_int_dict, isi_str_bool, isi_str_int, isi_str_str, isi_str_list, isi_str_tuple, isi_str_dict, isi_lst_bool, isi_lst_int, isi_lst_str, isi_lst_list, isi_lst_tuple, isi_lst_dict, isi_src_bool, isi_src_int, isi_src_str, isi_src_list, isi_src_tuple, isi_src_dict, isi_tup_bool, isi_tup_int, isi_tup_str, isi_tup_list, isi_tup_tuple, isi_tup_dict, isi_dct_bool, isi_dct_int, isi_dct_str, isi_dct_list, isi_dct_tuple, isi_dct_dict, g_nm, g_tp2, g_tp3, g_tp4, g_nil, g_cons, List.getElem?_cons_succ, List.getElem?_cons_zero, List.set_cons_succ, List.set_cons_zero, truD, s7, set_set]
  refine kont_nx ?_
  have e : mDct mkDo [((mK (.str ("fine" : Str))), (mK (.int 0))), ((mK (.str ("lost" : Str))), (mK (.int 0))), ((mK (.str ("again" : Str))), (mK (.int 0))), ((mK (.str ("far" : Str))), (mK (.int 0))), ((mK (.str ("changed" : Str))), (mK (.int 0))), ((mK (.str ("late" : Str))), (mK (.int 0)))] [some (D.obj 2), some (D.int (key : Int)), some (D.int 13), some (D.int 50)] (S.set 2 (.ins c_Reader [.int key, .int 13, .int 50, .int 0, .non, .non, .int 50])) = some (.ok (.obj 3) ((S.set 2 (.ins c_Reader [.int key, .int 13, .int 50, .int 0, .non, .non, .int 50])).add (.dk (cnt 0 0 0 0 0 0)))) := by
    rw [← hn]
    rfl
  have g2 : ((S.set 2 (.ins c_Reader [.int key, .int 13, .int 50, .int 0, .non, .non, .int 50])).add (.dk (cnt 0 0 0 0 0 0))).get 2 = some (.ins c_Reader [.int key, .int 13, .int 50, .int 0, .non, .non, .int 50]) := by
    rw [get_add, nx_set, hn]
    rfl
  have s8 := stF_obj (i := 7) (x := .obj 3) g2 rfl (by simp)
  rw [wpS_stF, wp_of e]
  simp only [wpS_seq, wpS_gNm, wpS_asg, wpS_ifS, wpS_drop, wpS_ret, wpS_retN, wpS_stF, wpS_augF, wpS_augI, wpS_augV, wpS_par', wpS_par3', wpS_some, wpS_mNx, wpS_mCt, wpS_mBk, kont_rt, kont_ct, kont_bk, fin_rt, fin_nx, wp_mK, wp_v, vO_some, wp_ret, wp_bnd, wp_op, wp_op1, wp_call, wp_fn, wp_cons, wp_nil, wp_tup, wp_lst, wp_obj, wp_oNone, wp_oSome, intO_int, wp_sl, wp_mIf, wp_mAnd, wp_mOr, wp_mNot, wp_mB, wp_mAndV, wp_mOrV, wp_mNotV, wp_mChain, wp_mTru, isBl_bl, truO_some, x_addI, x_addJ, x_sub, x_mod, x_div, x_mul, x_pow, x_shl, x_shr, x_band, x_bor, x_bxor, x_lt, x_le, x_gt, x_ge, x_neg, x_eqI, x_neI, x_eqS, x_neS, x_isN, x_isNN, x_int, x_abs, x_max2, x_min2, x_d1, x_d2, x_mkL, x_mkT, x_mkO, x_mkD, x_mkDo, x_ix, ixO_some, x_len, lenO_some, x_list, wpO_some, x_slT, x_slL, x_addLL, x_addTT, blO_some, x_isi, wp_isiT, x_fld, x_getI, wp_mMeth, wp_mMake, wp_mMt, wp_mLc, wp_mIt, wp_range1, wp_range2, wp_range3, wpS_for, isi_non_bool, isi_non_int, isi_non_str, isi_non_list, isi_non_tuple, isi_non_dict, isi_bl_bool, isi_bl_int, isi_bl_str, isi_bl_list, isi_bl_tuple, isi_bl_dict, isi_int_bool, isi_int_int, isi_int_str, isi_int_list, isi_int_tuple, isi_int_dict, isi_str_bool, isi_str_int, isi_str_str, isi_str_list, isi_str_tuple, isi_str_dict, isi_lst_bool, isi_lst_int, isi_lst_str, isi_lst_list, isi_lst_tuple, isi_lst_dict, isi_src_bool, isi_src_int, isi_src_str, isi_src_list, isi_src_tuple, isi_src_dict, isi_tup_bool, isi_tup_int, isi_tup_str, isi_tup_list, isi_tup_tuple, isi_tup_dict, isi_dct_bool, isi_dct_int, isi_dct_str, isi_dct_list, isi_dct_tuple, isi_dct_dict, g_nm, g_tp2, g_tp3, g_tp4, g_nil, g_cons, List.getElem?_cons_succ, List.getElem?_cons_zero, List.set_cons_succ, List.set_cons_zero, truD, s8]
  refine k _ (by rw [nx_set, nx_add, nx_set, hn]) get_same ?_ ?_
  · rw [get_ne (by decide), get_add, nx_set, hn]
    rfl
  · intro j hj
    rw [get_ne (by omega), get_add, nx_set, hn, if_neg (by omega), get_ne (by omega)]
/-- counted(word, told) -/
theorem w_counted {key now bell : Int} {ctr last told : D} {kvs : List (Key × D)} {x : Str} {v : Int} (hr : S.get 2 = some (rdr key now ctr last bell)) (hc : S.get 3 = some (.dk kvs)) (hl : dLook kvs (.inr x) = some (.int v)) (hz : kvs.length < lineN) :
    wp (m_Reader_counted [.obj 2, .str x, told]) S Q E = Q told (S.set 3 (.dk (dPutK kvs (.inr x) (.int (v + 1))))) := by
  have core : wp (m_Reader_counted [.obj 2, .str x, told]) S (fun u S' => u = told ∧ S' = S.set 3 (.dk (dPutK kvs (.inr x) (.int (v + 1))))) no := by
    rw [r_Reader_counted]
    unfold b_Reader_counted
    simp only [wpS_seq, wpS_gNm, wpS_asg, wpS_ifS, wpS_drop, wpS_ret, wpS_retN, wpS_stF, wpS_augF, wpS_augI, wpS_augV, wpS_par', wpS_par3', wpS_some, wpS_mNx, wpS_mCt, wpS_mBk, kont_rt, kont_ct, kont_bk, fin_rt, fin_nx, wp_mK, wp_v, vO_some, wp_ret, wp_bnd, wp_op, wp_op1, wp_call, wp_fn, wp_cons, wp_nil, wp_tup, wp_lst, wp_obj, wp_oNone, wp_oSome, intO_int, wp_sl, wp_mIf, wp_mAnd, wp_mOr, wp_mNot, wp_mB, wp_mAndV, wp_mOrV, wp_mNotV, wp_mChain, wp_mTru, isBl_bl, truO_some, x_addI, x_addJ, x_sub, x_mod, x_div, x_mul, x_pow, x_shl, x_shr, x_band, x_bor, x_bxor, x_lt, x_le, x_gt, x_ge, x_neg, x_eqI, x_neI, x_eqS, x_neS, x_isN, x_isNN, x_int, x_abs, x_max2, x_min2, x_d1, x_d2, x_mkL, x_mkT, x_mkO, x_mkD, x_mkDo, x_ix, ixO_some, x_len, lenO_some, x_list, wpO_some, x_slT, x_slL, x_addLL, x_addTT, blO_some, x_isi, wp_isiT, x_fld, x_getI, wp_mMeth, wp_mMake, wp_mMt, wp_mLc, wp_mIt, wp_range1, wp_range2, wp_range3, wpS_for, isi_non_bool, isi_non_int, isi_non_str, isi_non_list, isi_non_tuple, isi_non_dict, isi_bl_bool, isi_bl_int, isi_bl_str, isi_bl_list, isi_bl_tuple, isi_bl_dict, isi_int_bool, isi_int_int, isi_int_str, isi_int_list, isi_int_tuple, isi_int_dict, isi_str_bool, isi_str_int, isi_str_str, isi_str_list, isi_str_tuple, isi_str_dict, isi_lst_bool, isi_lst_int, isi_lst_str, isi_lst_list, isi_lst_tuple, isi_lst_dict, isi_src_bool, isi_src_int, isi_src_str, isi_src_list, isi_src_tuple, isi_src_dict, isi_tup_bool, isi_tup_int, isi_tup_str, isi_tup_list, isi_tup_tuple, isi_tup_dict, isi_dct_bool, isi_dct_int, isi_dct_str, isi_dct_list, isi_dct_tuple, isi_dct_dict, g_nm, g_tp2, g_tp3, g_tp4, g_nil, g_cons, List.getElem?_cons_succ, List.getElem?_cons_zero, List.set_cons_succ, List.set_cons_zero, truD, ins_obj hr, getIAt_dk hc, hl, dSet_dk hc hz]
    refine kont_nx ?_
    simp only [wpS_seq, wpS_gNm, wpS_asg, wpS_ifS, wpS_drop, wpS_ret, wpS_retN, wpS_stF, wpS_augF, wpS_augI, wpS_augV, wpS_par', wpS_par3', wpS_some, wpS_mNx, wpS_mCt, wpS_mBk, kont_rt, kont_ct, kont_bk, fin_rt, fin_nx, wp_mK, wp_v, vO_some, wp_ret, wp_bnd, wp_op, wp_op1, wp_call, wp_fn, wp_cons, wp_nil, wp_tup, wp_lst, wp_obj, wp_oNone, wp_oSome, intO_int, wp_sl, wp_mIf, wp_mAnd, wp_mOr, wp_mNot, wp_mB, wp_mAndV, wp_mOrV, wp_mNotV, wp_mChain, wp_mTru, isBl_bl, truO_some, x_addI, x_addJ, x_sub, x_mod, x_div, x_mul, x_pow, x_shl, x_shr, x_band, x_bor, x_bxor, x_lt, x_le, x_gt, x_ge, x_neg, x_eqI, x_neI, x_eqS, x_neS, x_isN, x_isNN, x_int, x_abs, x_max2, x_min2, x_d1, x_d2, x_mkL, x_mkT, x_mkO, x_mkD, x_mkDo, x_ix, ixO_some, x_len, lenO_some, x_list, wpO_some, x_slT, x_slL, x_addLL, x_addTT, blO_some, x_isi, wp_isiT, x_fld, x_getI, wp_mMeth, wp_mMake, wp_mMt, wp_mLc, wp_mIt, wp_range1, wp_range2, wp_range3, wpS_for, isi_non_bool, isi_non_int, isi_non_str, isi_non_list, isi_non_tuple, isi_non_dict, isi_bl_bool, isi_bl_int, isi_bl_str, isi_bl_list, isi_bl_tuple, isi_bl_dict, isi_int_bool, isi_int_int, isi_int_str, isi_int_list, isi_int_tuple, isi_int_dict, isi_str_bool, isi_str_int, isi_str_str, isi_str_list, isi_str_tuple, isi_str_dict, isi_lst_bool, isi_lst_int, isi_lst_str, isi_lst_list, isi_lst_tuple, isi_lst_dict, isi_src_bool, isi_src_int, isi_src_str, isi_src_list, isi_src_tuple, isi_src_dict, isi_tup_bool, isi_tup_int, isi_tup_str, isi_tup_list, isi_tup_tuple, isi_tup_dict, isi_dct_bool, isi_dct_int, isi_dct_str, isi_dct_list, isi_dct_tuple, isi_dct_dict, g_nm, g_tp2, g_tp3, g_tp4, g_nil, g_cons, List.getElem?_cons_succ, List.getElem?_cons_zero, List.set_cons_succ, List.set_cons_zero, truD]
    exact ⟨trivial, trivial⟩
  rw [wp_of (e_ex core)]
/-- good(octets, word, told) -/
theorem w_good {key now bell : Int} {ctr last told : D} {kvs : List (Key × D)} {x : Str} {v : Int} {o : D} {a b : D} {r : List D} (ho : lstOf S o = some (a :: b :: r)) (ho2 : ∀ S' : MS, (∀ k, k ≠ 2 → S'.get k = S.get k) → lstOf S' o = some (a :: b :: r)) (hz2 : r.length ≤ 16777216) (hr : S.get 2 = some (rdr key now ctr last bell)) (hc : S.get 3 = some (.dk kvs)) (hl : dLook kvs (.inr x) = some (.int v)) (hz : kvs.length < lineN) :
    wp (m_Reader_good [.obj 2, o, .str x, told]) S Q E = Q told ((S.set 2 (rdr key now b (.lst r) (now + 50))).set 3 (.dk (dPutK kvs (.inr x) (.int (v + 1))))) := by
  have core : wp (m_Reader_good [.obj 2, o, .str x, told]) S (fun u S' => u = told ∧ S' = (S.set 2 (rdr key now b (.lst r) (now + 50))).set 3 (.dk (dPutK kvs (.inr x) (.int (v + 1))))) no := by
    rw [r_Reader_good]
    unfold b_Reader_good
    have a1 : atI (a :: b :: r) 1 = some b := at_nat (ds := a :: b :: r) (j := 1) (by simp)
    have s1 : stF c_Reader 4 (.obj 2) b S = some (S.set 2 (rdr key now b last bell)) := stF_obj hr rfl (by simp)
    have s2 : stF c_Reader 5 (.obj 2) (.lst r) (S.set 2 (rdr key now b last bell)) = some ((S.set 2 (rdr key now b last bell)).set 2 (rdr key now b (.lst r) bell)) := stF_obj get_same rfl (by simp)
    have s3 : stF c_Reader 6 (.obj 2) (.int (now + 50)) (S.set 2 (rdr key now b (.lst r) bell)) = some ((S.set 2 (rdr key now b (.lst r) bell)).set 2 (rdr key now b (.lst r) (now + 50))) := stF_obj get_same rfl (by simp)
    simp only [wpS_seq, wpS_gNm, wpS_asg, wpS_ifS, wpS_drop, wpS_ret, wpS_retN, wpS_stF, wpS_augF, wpS_augI, wpS_augV, wpS_par', wpS_par3', wpS_some, wpS_mNx, wpS_mCt, wpS_mBk, kont_rt, kont_ct, kont_bk, fin_rt, fin_nx, wp_mK, wp_v, vO_some, wp_ret, wp_bnd, wp_op, wp_op1, wp_call, wp_fn, wp_cons, wp_nil, wp_tup, wp_lst, wp_obj, wp_oNone, wp_oSome, intO_int, wp_sl, wp_mIf, wp_mAnd, wp_mOr, wp_mNot, wp_mB, wp_mAndV, wp_mOrV, wp_mNotV, wp_mChain, wp_mTru, isBl_bl, truO_some, x_addI, x_addJ, x_sub, x_mod, x_div, x_mul, x_pow, x_shl, x_shr, x_band, x_bor, x_bxor, x_lt, x_le, x_gt, x_ge, x_neg, x_eqI, x_neI, x_eqS, x_neS, x_isN, x_isNN, x_int, x_abs, x_max2, x_min2, x_d1, x_d2, x_mkL, x_mkT, x_mkO, x_mkD, x_mkDo, x_ix, ixO_some, x_len, lenO_some, x_list, wpO_some, x_slT, x_slL, x_addLL, x_addTT, blO_some, x_isi, wp_isiT, x_fld, x_getI, wp_mMeth, wp_mMake, wp_mMt, wp_mLc, wp_mIt, wp_range1, wp_range2, wp_range3, wpS_for, isi_non_bool, isi_non_int, isi_non_str, isi_non_list, isi_non_tuple, isi_non_dict, isi_bl_bool, isi_bl_int, isi_bl_str, isi_bl_list, isi_bl_tuple, isi_bl_dict, isi_int_bool, isi_int_int, isi_int_str, isi_int_list, isi_int_tuple, isi_int_dict, isi_str_bool, isi_str_int, isi_str_str, isi_str_list, isi_str_tuple, isi_str_dict, isi_lst_bool, isi_lst_int, isi_lst_str, isi_lst_list, isi_lst_tuple, isi_lst_dict, isi_src_bool, isi_src_int, isi_src_str, isi_src_list, isi_src_tuple, isi_src_dict, isi_tup_bool, isi_tup_int, isi_tup_str, isi_tup_list, isi_tup_tuple, isi_tup_dict, isi_dct_bool, isi_dct_int, isi_dct_str, isi_dct_list, isi_dct_tuple, isi_dct_dict, g_nm, g_tp2, g_tp3, g_tp4, g_nil, g_cons, List.getElem?_cons_succ, List.getElem?_cons_zero, List.set_cons_succ, List.set_cons_zero, truD, ixAt_lst ho, a1, s1]
    refine kont_nx ?_
    have ho3 := ho2 (S.set 2 (rdr key now b last bell)) fun k hk => get_ne hk
    have hcut : cutD (a :: b :: r) (some 2) none = r := cut_from 2
    simp only [wpS_seq, wpS_gNm, wpS_asg, wpS_ifS, wpS_drop, wpS_ret, wpS_retN, wpS_stF, wpS_augF, wpS_augI, wpS_augV, wpS_par', wpS_par3', wpS_some, wpS_mNx, wpS_mCt, wpS_mBk, kont_rt, kont_ct, kont_bk, fin_rt, fin_nx, wp_mK, wp_v, vO_some, wp_ret, wp_bnd, wp_op, wp_op1, wp_call, wp_fn, wp_cons, wp_nil, wp_tup, wp_lst, wp_obj, wp_oNone, wp_oSome, intO_int, wp_sl, wp_mIf, wp_mAnd, wp_mOr, wp_mNot, wp_mB, wp_mAndV, wp_mOrV, wp_mNotV, wp_mChain, wp_mTru, isBl_bl, truO_some, x_addI, x_addJ, x_sub, x_mod, x_div, x_mul, x_pow, x_shl, x_shr, x_band, x_bor, x_bxor, x_lt, x_le, x_gt, x_ge, x_neg, x_eqI, x_neI, x_eqS, x_neS, x_isN, x_isNN, x_int, x_abs, x_max2, x_min2, x_d1, x_d2, x_mkL, x_mkT, x_mkO, x_mkD, x_mkDo, x_ix, ixO_some, x_len, lenO_some, x_list, wpO_some, x_slT, x_slL, x_addLL, x_addTT, blO_some, x_isi, wp_isiT, x_fld, x_getI, wp_mMeth, wp_mMake, wp_mMt, wp_mLc, wp_mIt, wp_range1, wp_range2, wp_range3, wpS_for, isi_non_bool, isi_non_int, isi_non_str, isi_non_list, isi_non_tuple, isi_non_dict, isi_bl_bool, isi_bl_int, isi_bl_str, isi_bl_list, isi_bl_tuple, isi_bl_dict, isi_int_bool, isi_int_int, isi_int_str, isi_int_list, isi_int_tuple, isi_int_dict, isi_str_bool, isi_str_int, isi_str_str, isi_str_list, isi_str_tuple, isi_str_dict, isi_lst_bool, isi_lst_int, isi_lst_str, isi_lst_list, isi_lst_tuple, isi_lst_dict, isi_src_bool, isi_src_int, isi_src_str, isi_src_list, isi_src_tuple, isi_src_dict, isi_tup_bool, isi_tup_int, isi_tup_str, isi_tup_list, isi_tup_tuple, isi_tup_dict, isi_dct_bool, isi_dct_int, isi_dct_str, isi_dct_list, isi_dct_tuple, isi_dct_dict, g_nm, g_tp2, g_tp3, g_tp4, g_nil, g_cons, List.getElem?_cons_succ, List.getElem?_cons_zero, List.set_cons_succ, List.set_cons_zero, truD, x_slD ho3, hcut, s2, set_set]
    refine ⟨small_of hz2, kont_nx ?_⟩
    have i1 : insOf (S.set 2 (rdr key now b (.lst r) bell)) c_Reader (.obj 2) = some (2, [.int key, .int 13, .int 50, .int now, b, .lst r, .int bell, .obj 3]) := ins_obj get_same
    simp only [wpS_seq, wpS_gNm, wpS_asg, wpS_ifS, wpS_drop, wpS_ret, wpS_retN, wpS_stF, wpS_augF, wpS_augI, wpS_augV, wpS_par', wpS_par3', wpS_some, wpS_mNx, wpS_mCt, wpS_mBk, kont_rt, kont_ct, kont_bk, fin_rt, fin_nx, wp_mK, wp_v, vO_some, wp_ret, wp_bnd, wp_op, wp_op1, wp_call, wp_fn, wp_cons, wp_nil, wp_tup, wp_lst, wp_obj, wp_oNone, wp_oSome, intO_int, wp_sl, wp_mIf, wp_mAnd, wp_mOr, wp_mNot, wp_mB, wp_mAndV, wp_mOrV, wp_mNotV, wp_mChain, wp_mTru, isBl_bl, truO_some, x_addI, x_addJ, x_sub, x_mod, x_div, x_mul, x_pow, x_shl, x_shr, x_band, x_bor, x_bxor, x_lt, x_le, x_gt, x_ge, x_neg, x_eqI, x_neI, x_eqS, x_neS, x_isN, x_isNN, x_int, x_abs, x_max2, x_min2, x_d1, x_d2, x_mkL, x_mkT, x_mkO, x_mkD, x_mkDo, x_ix, ixO_some, x_len, lenO_some, x_list, wpO_some, x_slT, x_slL, x_addLL, x_addTT, blO_some, x_isi, wp_isiT, x_fld, x_getI, wp_mMeth, wp_mMake, wp_mMt, wp_mLc, wp_mIt, wp_range1, wp_range2, wp_range3, wpS_for, isi_non_bool, isi_non_int, isi_non_str, isi_non_list, isi_non_tuple, isi_non_dict, isi_bl_bool, isi_bl_int, isi_bl_str, isi_bl_list, isi_bl_tuple, isi_bl_dict, isi_int_bool, isi_int_int, isi_int_str, isi_int_list, isi_int_tuple, isi_int_dict, isi_str_bool, isi_str_int, isi_str_str, isi_str_list, isi_str_tuple, isi_str_dict, isi_lst_bool, isi_lst_int, isi_lst_str, isi_lst_list, isi_lst_tuple, isi_lst_dict, isi_src_bool, isi_src_int, isi_src_str, isi_src_list, isi_src_tuple, isi_src_dict, isi_tup_bool, isi_tup_int, isi_tup_str, isi_tup_list, isi_tup_tuple, isi_tup_dict, isi_dct_bool, isi_dct_int, isi_dct_str, isi_dct_list, isi_dct_tuple, isi_dct_dict, g_nm, g_tp2, g_tp3, g_tp4, g_nil, g_cons, List.getElem?_cons_succ, List.getElem?_cons_zero, List.set_cons_succ, List.set_cons_zero, truD, i1, s3, set_set]
    refine kont_nx ?_
    have i2 : insOf (S.set 2 (rdr key now b (.lst r) (now + 50))) c_Reader (.obj 2) = some (2, [.int key, .int 13, .int 50, .int now, b, .lst r, .int (now + 50), .obj 3]) := ins_obj get_same
    simp only [wpS_seq, wpS_gNm, wpS_asg, wpS_ifS, wpS_drop, wpS_ret, wpS_retN, wpS_stF, wpS_augF, wpS_augI, wpS_augV, wpS_par', wpS_par3', wpS_some, wpS_mNx, wpS_mCt, wpS_mBk, kont_rt, kont_ct, kont_bk, fin_rt, fin_nx, wp_mK, wp_v, vO_some, wp_ret, wp_bnd, wp_op, wp_op1, wp_call, wp_fn, wp_cons, wp_nil, wp_tup, wp_lst, wp_obj, wp_oNone, wp_oSome, intO_int, wp_sl, wp_mIf, wp_mAnd, wp_mOr, wp_mNot, wp_mB, wp_mAndV, wp_mOrV, wp_mNotV, wp_mChain, wp_mTru, isBl_bl, truO_some, x_addI, x_addJ, x_sub, x_mod, x_div, x_mul, x_pow, x_shl, x_shr, x_band, x_bor, x_bxor, x_lt, x_le, x_gt, x_ge, x_neg, x_eqI, x_neI, x_eqS, x_neS, x_isN, x_isNN, x_int, x_abs, x_max2, x_min2, x_d1, x_d2, x_mkL, x_mkT, x_mkO, x_mkD, x_mkDo, x_ix, ixO_some, x_len, lenO_some, x_list, wpO_some, x_slT, x_slL, x_addLL, x_addTT, blO_some, x_isi, wp_isiT, x_fld, x_getI, wp_mMeth, wp_mMake, wp_mMt, wp_mLc, wp_mIt, wp_range1, wp_range2, wp_range3, wpS_for, isi_non_bool, isi_non_int, isi_non_str, isi_non_list, isi_non_tuple, isi_non_dict, isi_bl_bool, isi_bl_int, isi_bl_str, isi_bl_list, isi_bl_tuple, isi_bl_dict, isi_int_bool, isi_int_int, isi_int_str, isi_int_list, isi_int_tuple, isi_int_dict, isi_str_bool, isi_str_int, isi_str_str, isi_str_list, isi_str_tuple, isi_str_dict, isi_lst_bool, isi_lst_int, isi_lst_str, isi_lst_list, isi_lst_tuple, isi_lst_dict, isi_src_bool, isi_src_int, isi_src_str, isi_src_list, isi_src_tuple, isi_src_dict, isi_tup_bool, isi_tup_int, isi_tup_str, isi_tup_list, isi_tup_tuple, isi_tup_dict, isi_dct_bool, isi_dct_int, isi_dct_str, isi_dct_list, isi_dct_tuple, isi_dct_dict, g_nm, g_tp2, g_tp3, g_tp4, g_nil, g_cons, List.getElem?_cons_succ, List.getElem?_cons_zero, List.set_cons_succ, List.set_cons_zero, truD, i2, w_counted get_same ((get_ne (by decide)).trans hc) hl hz]
    exact ⟨trivial, trivial⟩
  rw [wp_of (e_ex core)]
theorem x_fz {n : Nat} {ds : List D} (h : S.get n = some (.lst ds)) : wp (fz (.obj n)) S Q E = Q (.lst ds) (S.del n) := by
  unfold fz wp
  dsimp only
  rw [h]
theorem x_append {n : Nat} {ds : List D} {y : D} (h : S.get n = some (.lst ds)) (hz : ds.length < lineN) : wp (dAppend (.obj n) [y]) S Q E = Q .non (S.set n (.lst (ds ++ [y]))) := by
  unfold dAppend mutL wp
  dsimp only
  rw [h]
  dsimp only
  rw [if_pos hz]
theorem ty_obj {n : Nat} {ds : List D} (h : S.get n = some (.lst ds)) : tyD S "list" (.obj n) = true := by
  unfold tyD lstOf
  dsimp only
  rw [h] <;> rfl
theorem w_go_on {key now now' bell : Int} {ctr last : D} {a b c d e f : Int} (hr : S.get 2 = some (rdr key now ctr last bell)) (hc : S.get 3 = some (.dk (cnt a b c d e f))) (hx : 3 < S.nx) (hn : now ≤ now') (hb : now' - bell < 900000)
    (k : ∀ (S' : MS) (v : D) (bell' f' : Int), Fr [2, 3] S S' → S'.get 2 = some (rdr key now' ctr last bell') → S'.get 3 = some (.dk (cnt a b c d e f')) → now' < bell' → (now' < bell → bell' = bell) → Q v S') : wp (m_Reader_go_on [.obj 2, .int now']) S Q E := by
  rw [r_Reader_go_on]
  unfold b_Reader_go_on
  have i1 : insOf S c_Reader (.obj 2) = some (2, [.int key, .int 13, .int 50, .int now, ctr, last, .int bell, .obj 3]) := ins_obj hr
  simp only [wpS_seq, wpS_gNm, wpS_asg, wpS_ifS, wpS_drop, wpS_ret, wpS_retN, wpS_stF, wpS_augF, wpS_augI, wpS_augV, wpS_par', wpS_par3', wpS_some, wpS_mNx, wpS_mCt, wpS_mBk, kont_rt, kont_ct, kont_bk, fin_rt, fin_nx, wp_mK, wp_v, vO_some, wp_ret, wp_bnd, wp_op, wp_op1, wp_call, wp_fn, wp_cons, wp_nil, wp_tup, wp_lst, wp_obj, wp_oNone, wp_oSome, intO_int, wp_sl, wp_mIf, wp_mAnd, wp_mOr, wp_mNot, wp_mB, wp_mAndV, wp_mOrV, wp_mNotV, wp_mChain, wp_mTru, isBl_bl, truO_some, x_addI, x_addJ, x_sub, x_mod, x_div, x_mul, x_pow, x_shl, x_shr, x_band, x_bor, x_bxor, x_lt, x_le, x_gt, x_ge, x_neg, x_eqI, x_neI, x_eqS, x_neS, x_isN, x_isNN, x_int, x_abs, x_max2, x_min2, x_d1, x_d2, x_mkL, x_mkT, x_mkO, x_mkD, x_mkDo, x_ix, ixO_some, x_len, lenO_some, x_list, wpO_some, x_slT, x_slL, x_addLL, x_addTT, blO_some, x_isi, wp_isiT, x_fld, x_getI, wp_mMeth, wp_mMake, wp_mMt, wp_mLc, wp_mIt, wp_range1, wp_range2, wp_range3, wpS_for, isi_non_bool, isi_non_int, isi_non_str, isi_non_list, isi_non_tuple, isi_non_dict, isi_bl_bool, isi_bl_int, isi_bl_str, isi_bl_list, isi_bl_tuple, isi_bl_dict, isi_int_bool, isi_int_int, isi_int_str, isi_int_list, isi_int_tuple, isi_int_dict, isi_str_bool, isi_str_int, isi_str_str, isi_str_list, isi_str_tuple, isi_str_dict, isi_lst_bool, isi_lst_int, isi_lst_str, isi_lst_list, isi_lst_tuple, isi_lst_dict, isi_src_bool, isi_src_int, isi_src_str, isi_src_list, isi_src_tuple, isi_src_dict, isi_tup_bool, isi_tup_int, isi_tup_str, isi_tup_list, isi_tup_tuple, isi_tup_dict, isi_dct_bool, isi_dct_int, isi_dct_str, isi_dct_list, isi_dct_tuple, isi_dct_dict, g_nm, g_tp2, g_tp3, g_tp4, g_nil, g_cons, List.getElem?_cons_succ, List.getElem?_cons_zero, List.set_cons_succ, List.set_cons_zero, truD, i1, decide_eq_true_eq]
  rw [if_neg (by omega)]
  refine kont_nx ?_
  have s1 : stF c_Reader 3 (.obj 2) (.int now') S = some (S.set 2 (rdr key now' ctr last bell)) := stF_obj hr rfl (by simp)
  simp only [wpS_seq, wpS_gNm, wpS_asg, wpS_ifS, wpS_drop, wpS_ret, wpS_retN, wpS_stF, wpS_augF, wpS_augI, wpS_augV, wpS_par', wpS_par3', wpS_some, wpS_mNx, wpS_mCt, wpS_mBk, kont_rt, kont_ct, kont_bk, fin_rt, fin_nx, wp_mK, wp_v, vO_some, wp_ret, wp_bnd, wp_op, wp_op1, wp_call, wp_fn, wp_cons, wp_nil, wp_tup, wp_lst, wp_obj, wp_oNone, wp_oSome, intO_int, wp_sl, wp_mIf, wp_mAnd, wp_mOr, wp_mNot, wp_mB, wp_mAndV, wp_mOrV, wp_mNotV, wp_mChain, wp_mTru, isBl_bl, truO_some, x_addI, x_addJ, x_sub, x_mod, x_div, x_mul, x_pow, x_shl, x_shr, x_band, x_bor, x_bxor, x_lt, x_le, x_gt, x_ge, x_neg, x_eqI, x_neI, x_eqS, x_neS, x_isN, x_isNN, x_int, x_abs, x_max2, x_min2, x_d1, x_d2, x_mkL, x_mkT, x_mkO, x_mkD, x_mkDo, x_ix, ixO_some, x_len, lenO_some, x_list, wpO_some, x_slT, x_slL, x_addLL, x_addTT, blO_some, x_isi, wp_isiT, x_fld, x_getI, wp_mMeth, wp_mMake, wp_mMt, wp_mLc, wp_mIt, wp_range1, wp_range2, wp_range3, wpS_for, isi_non_bool, isi_non_int, isi_non_str, isi_non_list, isi_non_tuple, isi_non_dict, isi_bl_bool, isi_bl_int, isi_bl_str, isi_bl_list, isi_bl_tuple, isi_bl_dict, isi_int_bool, isi_int_int, isi_int_str, isi_int_list, isi_int_tuple, isi_int_dict, isi_str_bool, isi_str_int, isi_str_str, isi_str_list, isi_str_tuple, isi_str_dict, isi_lst_bool, isi_lst_int, isi_lst_str, isi_lst_list, isi_lst_tuple, isi_lst_dict, isi_src_bool, isi_src_int, isi_src_str, isi_src_list, isi_src_tuple, isi_src_dict, isi_tup_bool, isi_tup_int, isi_tup_str, isi_tup_list, isi_tup_tuple, isi_tup_dict, isi_dct_bool, isi_dct_int, isi_dct_str, isi_dct_list, isi_dct_tuple, isi_dct_dict, g_nm, g_tp2, g_tp3, g_tp4, g_nil, g_cons, List.getElem?_cons_succ, List.getElem?_cons_zero, List.set_cons_succ, List.set_cons_zero, truD, s1]
  refine kont_nx ?_
  simp only [wpS_seq, wpS_gNm, wpS_asg, wpS_ifS, wpS_drop, wpS_ret, wpS_retN, wpS_stF, wpS_augF, wpS_augI, wpS_augV, wpS_par', wpS_par3', wpS_some, wpS_mNx, wpS_mCt, wpS_mBk, kont_rt, kont_ct, kont_bk, fin_rt, fin_nx, wp_mK, wp_v, vO_some, wp_ret, wp_bnd, wp_op, wp_op1, wp_call, wp_fn, wp_cons, wp_nil, wp_tup, wp_lst, wp_obj, wp_oNone, wp_oSome, intO_int, wp_sl, wp_mIf, wp_mAnd, wp_mOr, wp_mNot, wp_mB, wp_mAndV, wp_mOrV, wp_mNotV, wp_mChain, wp_mTru, isBl_bl, truO_some, x_addI, x_addJ, x_sub, x_mod, x_div, x_mul, x_pow, x_shl, x_shr, x_band, x_bor, x_bxor, x_lt, x_le, x_gt, x_ge, x_neg, x_eqI, x_neI, x_eqS, x_neS, x_isN, x_isNN, x_int, x_abs, x_max2, x_min2, x_d1, x_d2, x_mkL, x_mkT, x_mkO, x_mkD, x_mkDo, x_ix, ixO_some, x_len, lenO_some, x_list, wpO_some, x_slT, x_slL, x_addLL, x_addTT, blO_some, x_isi, wp_isiT, x_fld, x_getI, wp_mMeth, wp_mMake, wp_mMt, wp_mLc, wp_mIt, wp_range1, wp_range2, wp_range3, wpS_for, isi_non_bool, isi_non_int, isi_non_str, isi_non_list, isi_non_tuple, isi_non_dict, isi_bl_bool, isi_bl_int, isi_bl_str, isi_bl_list, isi_bl_tuple, isi_bl_dict, isi_int_bool, isi_int_int, isi_int_str, isi_int_list, isi_int_tuple, isi_int_dict, isi_str_bool, isi_str_int, isi_str_str, isi_str_list, isi_str_tuple, isi_str_dict, isi_lst_bool, isi_lst_int, isi_lst_str, isi_lst_list, isi_lst_tuple, isi_lst_dict, isi_src_bool, isi_src_int, isi_src_str, isi_src_list, isi_src_tuple, isi_src_dict, isi_tup_bool, isi_tup_int, isi_tup_str, isi_tup_list, isi_tup_tuple, isi_tup_dict, isi_dct_bool, isi_dct_int, isi_dct_str, isi_dct_list, isi_dct_tuple, isi_dct_dict, g_nm, g_tp2, g_tp3, g_tp4, g_nil, g_cons, List.getElem?_cons_succ, List.getElem?_cons_zero, List.set_cons_succ, List.set_cons_zero, truD]
  refine ⟨small_of (by simp), kont_nx ?_⟩
  simp only [wpS_seq, wpS_gNm, wpS_asg, wpS_ifS, wpS_drop, wpS_ret, wpS_retN, wpS_stF, wpS_augF, wpS_augI, wpS_augV, wpS_par', wpS_par3', wpS_some, wpS_mNx, wpS_mCt, wpS_mBk, kont_rt, kont_ct, kont_bk, fin_rt, fin_nx, wp_mK, wp_v, vO_some, wp_ret, wp_bnd, wp_op, wp_op1, wp_call, wp_fn, wp_cons, wp_nil, wp_tup, wp_lst, wp_obj, wp_oNone, wp_oSome, intO_int, wp_sl, wp_mIf, wp_mAnd, wp_mOr, wp_mNot, wp_mB, wp_mAndV, wp_mOrV, wp_mNotV, wp_mChain, wp_mTru, isBl_bl, truO_some, x_addI, x_addJ, x_sub, x_mod, x_div, x_mul, x_pow, x_shl, x_shr, x_band, x_bor, x_bxor, x_lt, x_le, x_gt, x_ge, x_neg, x_eqI, x_neI, x_eqS, x_neS, x_isN, x_isNN, x_int, x_abs, x_max2, x_min2, x_d1, x_d2, x_mkL, x_mkT, x_mkO, x_mkD, x_mkDo, x_ix, ixO_some, x_len, lenO_some, x_list, wpO_some, x_slT, x_slL, x_addLL, x_addTT, blO_some, x_isi, wp_isiT, x_fld, x_getI, wp_mMeth, wp_mMake, wp_mMt, wp_mLc, wp_mIt, wp_range1, wp_range2, wp_range3, wpS_for, isi_non_bool, isi_non_int, isi_non_str, isi_non_list, isi_non_tuple, isi_non_dict, isi_bl_bool, isi_bl_int, isi_bl_str, isi_bl_list, isi_bl_tuple, isi_bl_dict, isi_int_bool, isi_int_int, isi_int_str, isi_int_list, isi_int_tuple, isi_int_dict, isi_str_bool, isi_str_int, isi_str_str, isi_str_list, isi_str_tuple, isi_str_dict, isi_lst_bool, isi_lst_int, isi_lst_str, isi_lst_list, isi_lst_tuple, isi_lst_dict, isi_src_bool, isi_src_int, isi_src_str, isi_src_list, isi_src_tuple, isi_src_dict, isi_tup_bool, isi_tup_int, isi_tup_str, isi_tup_list, isi_tup_tuple, isi_tup_dict, isi_dct_bool, isi_dct_int, isi_dct_str, isi_dct_list, isi_dct_tuple, isi_dct_dict, g_nm, g_tp2, g_tp3, g_tp4, g_nil, g_cons, List.getElem?_cons_succ, List.getElem?_cons_zero, List.set_cons_succ, List.set_cons_zero, truD]
  have n0 : (S.set 2 (rdr key now' ctr last bell)).nx = S.nx := rfl
  rw [n0]
  generalize hm : S.nx = m at hx
  refine while_inv (fun n env S' => ∃ bell' f' ds, env = [some (.obj 2), some (.int now'), some (.obj m)] ∧ m ≤ S'.nx ∧ S'.get m = some (.lst ds) ∧ S'.get 2 = some (rdr key now' ctr last bell') ∧ S'.get 3 = some (.dk (cnt a b c d e f')) ∧ (∀ k, k < m → k ≠ 2 → k ≠ 3 → S'.get k = S.get k) ∧ ds.length + n ≤ 1000000 ∧ now' < bell' + 50 * n ∧ (now' < bell → bell' = bell))
    ((now' - bell).toNat + 1) (by unfold fuelN; omega) ⟨bell, f, [], rfl, by rw [nx_add, nx_set]; omega, ?_, ?_, ?_, ?_, by simp; omega, by omega, fun _ => rfl⟩ ?_
  · rw [get_add, nx_set, if_pos hm.symm]
  · rw [get_add, nx_set, if_neg (by omega)]; exact get_same
  · rw [get_add, nx_set, if_neg (by omega), get_ne (by decide)]; exact hc
  · intro k hk h2 h3
    rw [get_add, nx_set, if_neg (by omega), get_ne h2]
  · rintro n env S' ⟨bell', f', ds, rfl, hmx, hl, h2, h3, hf, hz, hlt, hsame⟩
    have i2 : insOf S' c_Reader (.obj 2) = some (2, [.int key, .int 13, .int 50, .int now', ctr, last, .int bell', .obj 3]) := ins_obj h2
    simp only [wpS_seq, wpS_gNm, wpS_asg, wpS_ifS, wpS_drop, wpS_ret, wpS_retN, wpS_stF, wpS_augF, wpS_augI, wpS_augV, wpS_par', wpS_par3', wpS_some, wpS_mNx, wpS_mCt, wpS_mBk, kont_rt, kont_ct, kont_bk, fin_rt, fin_nx, wp_mK, wp_v, vO_some, wp_ret, wp_bnd, wp_op, wp_op1, wp_call, wp_fn, wp_cons, wp_nil, wp_tup, wp_lst, wp_obj, wp_oNone, wp_oSome, intO_int, wp_sl, wp_mIf, wp_mAnd, wp_mOr, wp_mNot, wp_mB, wp_mAndV, wp_mOrV, wp_mNotV, wp_mChain, wp_mTru, isBl_bl, truO_some, x_addI, x_addJ, x_sub, x_mod, x_div, x_mul, x_pow, x_shl, x_shr, x_band, x_bor, x_bxor, x_lt, x_le, x_gt, x_ge, x_neg, x_eqI, x_neI, x_eqS, x_neS, x_isN, x_isNN, x_int, x_abs, x_max2, x_min2, x_d1, x_d2, x_mkL, x_mkT, x_mkO, x_mkD, x_mkDo, x_ix, ixO_some, x_len, lenO_some, x_list, wpO_some, x_slT, x_slL, x_addLL, x_addTT, blO_some, x_isi, wp_isiT, x_fld, x_getI, wp_mMeth, wp_mMake, wp_mMt, wp_mLc, wp_mIt, wp_range1, wp_range2, wp_range3, wpS_for, isi_non_bool, isi_non_int, isi_non_str, isi_non_list, isi_non_tuple, isi_non_dict, isi_bl_bool, isi_bl_int, isi_bl_str, isi_bl_list, isi_bl_tuple, isi_bl_dict, isi_int_bool, isi_int_int, isi_int_str, isi_int_list, isi_int_tuple, isi_int_dict, isi_str_bool, isi_str_int, isi_str_str, isi_str_list, isi_str_tuple, isi_str_dict, isi_lst_bool, isi_lst_int, isi_lst_str, isi_lst_list, isi_lst_tuple, isi_lst_dict, isi_src_bool, isi_src_int, isi_src_str, isi_src_list, isi_src_tuple, isi_src_dict, isi_tup_bool, isi_tup_int, isi_tup_str, isi_tup_list, isi_tup_tuple, isi_tup_dict, isi_dct_bool, isi_dct_int, isi_dct_str, isi_dct_list, isi_dct_tuple, isi_dct_dict, g_nm, g_tp2, g_tp3, g_tp4, g_nil, g_cons, List.getElem?_cons_succ, List.getElem?_cons_zero, List.set_cons_succ, List.set_cons_zero, truD, i2, decide_eq_true_eq]
    by_cases cc : bell' ≤ now'
    · rw [if_pos cc]
      have hz' : ds.length < lineN := by show ds.length < 16777216; omega
      simp only [wpS_seq, wpS_gNm, wpS_asg, wpS_ifS, wpS_drop, wpS_ret, wpS_retN, wpS_stF, wpS_augF, wpS_augI, wpS_augV, wpS_par', wpS_par3', wpS_some, wpS_mNx, wpS_mCt, wpS_mBk, kont_rt, kont_ct, kont_bk, fin_rt, fin_nx, wp_mK, wp_v, vO_some, wp_ret, wp_bnd, wp_op, wp_op1, wp_call, wp_fn, wp_cons, wp_nil, wp_tup, wp_lst, wp_obj, wp_oNone, wp_oSome, intO_int, wp_sl, wp_mIf, wp_mAnd, wp_mOr, wp_mNot, wp_mB, wp_mAndV, wp_mOrV, wp_mNotV, wp_mChain, wp_mTru, isBl_bl, truO_some, x_addI, x_addJ, x_sub, x_mod, x_div, x_mul, x_pow, x_shl, x_shr, x_band, x_bor, x_bxor, x_lt, x_le, x_gt, x_ge, x_neg, x_eqI, x_neI, x_eqS, x_neS, x_isN, x_isNN, x_int, x_abs, x_max2, x_min2, x_d1, x_d2, x_mkL, x_mkT, x_mkO, x_mkD, x_mkDo, x_ix, ixO_some, x_len, lenO_some, x_list, wpO_some, x_slT, x_slL, x_addLL, x_addTT, blO_some, x_isi, wp_isiT, x_fld, x_getI, wp_mMeth, wp_mMake, wp_mMt, wp_mLc, wp_mIt, wp_range1, wp_range2, wp_range3, wpS_for, isi_non_bool, isi_non_int, isi_non_str, isi_non_list, isi_non_tuple, isi_non_dict, isi_bl_bool, isi_bl_int, isi_bl_str, isi_bl_list, isi_bl_tuple, isi_bl_dict, isi_int_bool, isi_int_int, isi_int_str, isi_int_list, isi_int_tuple, isi_int_dict, isi_str_bool, isi_str_int, isi_str_str, isi_str_list, isi_str_tuple, isi_str_dict, isi_lst_bool, isi_lst_int, isi_lst_str, isi_lst_list, isi_lst_tuple, isi_lst_dict, isi_src_bool, isi_src_int, isi_src_str, isi_src_list, isi_src_tuple, isi_src_dict, isi_tup_bool, isi_tup_int, isi_tup_str, isi_tup_list, isi_tup_tuple, isi_tup_dict, isi_dct_bool, isi_dct_int, isi_dct_str, isi_dct_list, isi_dct_tuple, isi_dct_dict, g_nm, g_tp2, g_tp3, g_tp4, g_nil, g_cons, List.getElem?_cons_succ, List.getElem?_cons_zero, List.set_cons_succ, List.set_cons_zero, truD, ty_obj hl, x_append hl hz', i2]
      refine ⟨trivial, kont_nx ?_⟩
      have g2 : (S'.set m (.lst (ds ++ [.int bell']))).get 2 = some (rdr key now' ctr last bell') := (get_ne (by omega)).trans h2
      have i3 : insOf (S'.set m (.lst (ds ++ [.int bell']))) c_Reader (.obj 2) = some (2, [.int key, .int 13, .int 50, .int now', ctr, last, .int bell', .obj 3]) := ins_obj g2
      have s3 : stF c_Reader 6 (.obj 2) (.int (bell' + 50)) (S'.set m (.lst (ds ++ [.int bell']))) = some ((S'.set m (.lst (ds ++ [.int bell']))).set 2 (rdr key now' ctr last (bell' + 50))) := stF_obj g2 rfl (by simp)
      simp only [wpS_seq, wpS_gNm, wpS_asg, wpS_ifS, wpS_drop, wpS_ret, wpS_retN, wpS_stF, wpS_augF, wpS_augI, wpS_augV, wpS_par', wpS_par3', wpS_some, wpS_mNx, wpS_mCt, wpS_mBk, kont_rt, kont_ct, kont_bk, fin_rt, fin_nx, wp_mK, wp_v, vO_some, wp_ret, wp_bnd, wp_op, wp_op1, wp_call, wp_fn, wp_cons, wp_nil, wp_tup, wp_lst, wp_obj, wp_oNone, wp_oSome, intO_int, wp_sl, wp_mIf, wp_mAnd, wp_mOr, wp_mNot, wp_mB, wp_mAndV, wp_mOrV, wp_mNotV, wp_mChain, wp_mTru, isBl_bl, truO_some, x_addI, x_addJ, x_sub, x_mod, x_div, x_mul, x_pow, x_shl, x_shr, x_band, x_bor, x_bxor, x_lt, x_le, x_gt, x_ge, x_neg, x_eqI, x_neI, x_eqS, x_neS, x_isN, x_isNN, x_int, x_abs, x_max2, x_min2, x_d1, x_d2, x_mkL, x_mkT, x_mkO, x_mkD, x_mkDo, x_ix, ixO_some, x_len, lenO_some, x_list, wpO_some, x_slT, x_slL, x_addLL, x_addTT, blO_some, x_isi, wp_isiT, x_fld, x_getI, wp_mMeth, wp_mMake, wp_mMt, wp_mLc, wp_mIt, wp_range1, wp_range2, wp_range3, wpS_for, isi_non_bool, isi_non_int, isi_non_str, isi_non_list, isi_non_tuple, isi_non_dict, isi_bl_bool, isi_bl_int, isi_bl_str, isi_bl_list, isi_bl_tuple, isi_bl_dict, isi_int_bool, isi_int_int, isi_int_str, isi_int_list, isi_int_tuple, isi_int_dict, isi_str_bool, isi_str_int, isi_str_str, isi_str_list, isi_str_tuple, isi_str_dict, isi_lst_bool, isi_lst_int, isi_lst_str, isi_lst_list, isi_lst_tuple, isi_lst_dict, isi_src_bool, isi_src_int, isi_src_str, isi_src_list, isi_src_tuple, isi_src_dict, isi_tup_bool, isi_tup_int, isi_tup_str, isi_tup_list, isi_tup_tuple, isi_tup_dict, isi_dct_bool, isi_dct_int, isi_dct_str, isi_dct_list, isi_dct_tuple, isi_dct_dict, g_nm, g_tp2, g_tp3, g_tp4, g_nil, g_cons, List.getElem?_cons_succ, List.getElem?_cons_zero, List.set_cons_succ, List.set_cons_zero, truD, i3, s3]
      refine kont_nx ?_
      have g3 : ((S'.set m (.lst (ds ++ [.int bell']))).set 2 (rdr key now' ctr last (bell' + 50))).get 3 = some (.dk (cnt a b c d e f')) := by
        rw [get_ne (by decide), get_ne (by omega)]; exact h3
      have i4 : insOf ((S'.set m (.lst (ds ++ [.int bell']))).set 2 (rdr key now' ctr last (bell' + 50))) c_Reader (.obj 2) = some (2, [.int key, .int 13, .int 50, .int now', ctr, last, .int (bell' + 50), .obj 3]) := ins_obj get_same
      simp only [wpS_seq, wpS_gNm, wpS_asg, wpS_ifS, wpS_drop, wpS_ret, wpS_retN, wpS_stF, wpS_augF, wpS_augI, wpS_augV, wpS_par', wpS_par3', wpS_some, wpS_mNx, wpS_mCt, wpS_mBk, kont_rt, kont_ct, kont_bk, fin_rt, fin_nx, wp_mK, wp_v, vO_some, wp_ret, wp_bnd, wp_op, wp_op1, wp_call, wp_fn, wp_cons, wp_nil, wp_tup, wp_lst, wp_obj, wp_oNone, wp_oSome, intO_int, wp_sl, wp_mIf, wp_mAnd, wp_mOr, wp_mNot, wp_mB, wp_mAndV, wp_mOrV, wp_mNotV, wp_mChain, wp_mTru, isBl_bl, truO_some, x_addI, x_addJ, x_sub, x_mod, x_div, x_mul, x_pow, x_shl, x_shr, x_band, x_bor, x_bxor, x_lt, x_le, x_gt, x_ge, x_neg, x_eqI, x_neI, x_eqS, x_neS, x_isN, x_isNN, x_int, x_abs, x_max2, x_min2, x_d1, x_d2, x_mkL, x_mkT, x_mkO, x_mkD, x_mkDo, x_ix, ixO_some, x_len, lenO_some, x_list, wpO_some, x_slT, x_slL, x_addLL, x_addTT, blO_some, x_isi, wp_isiT, x_fld, x_getI, wp_mMeth, wp_mMake, wp_mMt, wp_mLc, wp_mIt, wp_range1, wp_range2, wp_range3, wpS_for, isi_non_bool, isi_non_int, isi_non_str, isi_non_list, isi_non_tuple, isi_non_dict, isi_bl_bool, isi_bl_int, isi_bl_str, isi_bl_list, isi_bl_tuple, isi_bl_dict, isi_int_bool, isi_int_int, isi_int_str, isi_int_list, isi_int_tuple, isi_int_dict, isi_str_bool, isi_str_int, isi_str_str, isi_str_list, isi_str_tuple, isi_str_dict, isi_lst_bool, isi_lst_int, isi_lst_str, isi_lst_list, isi_lst_tuple, isi_lst_dict, isi_src_bool, isi_src_int, isi_src_str, isi_src_list, isi_src_tuple, isi_src_dict, isi_tup_bool, isi_tup_int, isi_tup_str, isi_tup_list, isi_tup_tuple, isi_tup_dict, isi_dct_bool, isi_dct_int, isi_dct_str, isi_dct_list, isi_dct_tuple, isi_dct_dict, g_nm, g_tp2, g_tp3, g_tp4, g_nil, g_cons, List.getElem?_cons_succ, List.getElem?_cons_zero, List.set_cons_succ, List.set_cons_zero, truD, i4, getIAt_dk g3, lk_late, dSet_dk g3 (by rw [cnt_len]; decide), pt_late]
      refine ⟨n - 1, by omega, bell' + 50, f' + 1, ds ++ [.int bell'], trivial, hmx, ?_, ?_, get_same, ?_, by simp; omega, by omega, fun z => absurd (hsame z) (by omega)⟩
      · rw [get_ne (by omega), get_ne (by omega)]; exact get_same
      · rw [get_ne (by decide)]; exact get_same
      · intro k hk k2 k3
        rw [get_ne k3, get_ne k2, get_ne (by omega)]
        exact hf k hk k2 k3
    · rw [if_neg cc]
      refine kont_nx ?_
      unfold mFz
      simp only [wpS_seq, wpS_gNm, wpS_asg, wpS_ifS, wpS_drop, wpS_ret, wpS_retN, wpS_stF, wpS_augF, wpS_augI, wpS_augV, wpS_par', wpS_par3', wpS_some, wpS_mNx, wpS_mCt, wpS_mBk, kont_rt, kont_ct, kont_bk, fin_rt, fin_nx, wp_mK, wp_v, vO_some, wp_ret, wp_bnd, wp_op, wp_op1, wp_call, wp_fn, wp_cons, wp_nil, wp_tup, wp_lst, wp_obj, wp_oNone, wp_oSome, intO_int, wp_sl, wp_mIf, wp_mAnd, wp_mOr, wp_mNot, wp_mB, wp_mAndV, wp_mOrV, wp_mNotV, wp_mChain, wp_mTru, isBl_bl, truO_some, x_addI, x_addJ, x_sub, x_mod, x_div, x_mul, x_pow, x_shl, x_shr, x_band, x_bor, x_bxor, x_lt, x_le, x_gt, x_ge, x_neg, x_eqI, x_neI, x_eqS, x_neS, x_isN, x_isNN, x_int, x_abs, x_max2, x_min2, x_d1, x_d2, x_mkL, x_mkT, x_mkO, x_mkD, x_mkDo, x_ix, ixO_some, x_len, lenO_some, x_list, wpO_some, x_slT, x_slL, x_addLL, x_addTT, blO_some, x_isi, wp_isiT, x_fld, x_getI, wp_mMeth, wp_mMake, wp_mMt, wp_mLc, wp_mIt, wp_range1, wp_range2, wp_range3, wpS_for, isi_non_bool, isi_non_int, isi_non_str, isi_non_list, isi_non_tuple, isi_non_dict, isi_bl_bool, isi_bl_int, isi_bl_str, isi_bl_list, isi_bl_tuple, isi_bl_dict, isi_int_bool, isi_int_int, isi_int_str, isi_int_list, isi_int_tuple, isi_int_dict, isi_str_bool, isi_str_int, isi_str_str, isi_str_list, isi_str_tuple, isi_str_dict, isi_lst_bool, isi_lst_int, isi_lst_str, isi_lst_list, isi_lst_tuple, isi_lst_dict, isi_src_bool, isi_src_int, isi_src_str, isi_src_list, isi_src_tuple, isi_src_dict, isi_tup_bool, isi_tup_int, isi_tup_str, isi_tup_list, isi_tup_tuple, isi_tup_dict, isi_dct_bool, isi_dct_int, isi_dct_str, isi_dct_list, isi_dct_tuple, isi_dct_dict, g_nm, g_tp2, g_tp3, g_tp4, g_nil, g_cons, List.getElem?_cons_succ, List.getElem?_cons_zero, List.set_cons_succ, List.set_cons_zero, truD, x_fz hl]
      refine k _ _ bell' f' ⟨by rw [nx_del]; omega, fun k hk hn => ?_⟩ ?_ ?_ (by omega) hsame
      · have h2 : k ≠ 2 := fun e => hn (by rw [e]; simp)
        have h3 : k ≠ 3 := fun e => hn (by rw [e]; simp)
        rw [get_del, if_neg (by omega)]
        exact hf k (by omega) h2 h3
      · rw [get_del, if_neg (by omega)]; exact h2
      · rw [get_del, if_neg (by omega)]; exact h3
/-- is_right -/
theorem w_right {key now bell : Int} {ctr last o : D} {x c : Nat} {ds : List Nat} {kk : Nat} (hk : key = (kk : Int)) (hkk : kk ≤ 65535) (hr : S.get 2 = some (rdr key now ctr last bell)) (ho : Un S o (nn (x :: c :: ds))) (hb : ∀ n ∈ x :: c :: ds, n < 256) (hl : ds.length ≤ 6) :
    wp (m_Reader_is_right [.obj 2, o]) S Q E = Q (.bl (decide (c ≤ 14 ∧ crc (c :: (ds ++ [kk / 256, kk % 256])) = x))) S := by
  have core : wp (m_Reader_is_right [.obj 2, o]) S (fun u S' => u = .bl (decide (c ≤ 14 ∧ crc (c :: (ds ++ [kk / 256, kk % 256])) = x)) ∧ S' = S) no := by
    subst hk
    rw [r_Reader_is_right]
    unfold b_Reader_is_right
    have ho1 := lst_rd ho.1
    have e1 : decide (((x :: c :: ds).length : Int) ≤ 8) = true := decide_eq_true (by simp; omega)
    simp only [wpS_seq, wpS_gNm, wpS_asg, wpS_ifS, wpS_drop, wpS_ret, wpS_retN, wpS_stF, wpS_augF, wpS_augI, wpS_augV, wpS_par', wpS_par3', wpS_some, wpS_mNx, wpS_mCt, wpS_mBk, kont_rt, kont_ct, kont_bk, fin_rt, fin_nx, wp_mK, wp_v, vO_some, wp_ret, wp_bnd, wp_op, wp_op1, wp_call, wp_fn, wp_cons, wp_nil, wp_tup, wp_lst, wp_obj, wp_oNone, wp_oSome, intO_int, wp_sl, wp_mIf, wp_mAnd, wp_mOr, wp_mNot, wp_mB, wp_mAndV, wp_mOrV, wp_mNotV, wp_mChain, wp_mTru, isBl_bl, truO_some, x_addI, x_addJ, x_sub, x_mod, x_div, x_mul, x_pow, x_shl, x_shr, x_band, x_bor, x_bxor, x_lt, x_le, x_gt, x_ge, x_neg, x_eqI, x_neI, x_eqS, x_neS, x_isN, x_isNN, x_int, x_abs, x_max2, x_min2, x_d1, x_d2, x_mkL, x_mkT, x_mkO, x_mkD, x_mkDo, x_ix, ixO_some, x_len, lenO_some, x_list, wpO_some, x_slT, x_slL, x_addLL, x_addTT, blO_some, x_isi, wp_isiT, x_fld, x_getI, wp_mMeth, wp_mMake, wp_mMt, wp_mLc, wp_mIt, wp_range1, wp_range2, wp_range3, wpS_for, isi_non_bool, isi_non_int, isi_non_str, isi_non_list, isi_non_tuple, isi_non_dict, isi_bl_bool, isi_bl_int, isi_bl_str, isi_bl_list, isi_bl_tuple, isi_bl_dict, isi_int_bool, isi_int_int, isi_int_str, isi_int_list, isi_int_tuple, isi_int_dict, isi_str_bool, isi_str_int, isi_str_str, isi_str_list, isi_str_tuple, isi_str_dict, isi_lst_bool, isi_lst_int, isi_lst_str, isi_lst_list, isi_lst_tuple, isi_lst_dict, isi_src_bool, isi_src_int, isi_src_str, isi_src_list, isi_src_tuple, isi_src_dict, isi_tup_bool, isi_tup_int, isi_tup_str, isi_tup_list, isi_tup_tuple, isi_tup_dict, isi_dct_bool, isi_dct_int, isi_dct_str, isi_dct_list, isi_dct_tuple, isi_dct_dict, g_nm, g_tp2, g_tp3, g_tp4, g_nil, g_cons, List.getElem?_cons_succ, List.getElem?_cons_zero, List.set_cons_succ, List.set_cons_zero, truD, w_is_octets ho1 (by simp; omega) hb, e1, Bool.not_true, if_false, Bool.false_eq_true, len_lst ho1, nn_len, decide_eq_true_eq]
    have e2 : ¬ (((x :: c :: ds).length : Int) < 2) := by simp; omega
    have a1 : atI (nn (x :: c :: ds)) 1 = some (.int (c : Int)) := at_nat (ds := nn (x :: c :: ds)) (j := 1) (by simp [nn])
    rw [if_neg e2]
    simp only [wpS_seq, wpS_gNm, wpS_asg, wpS_ifS, wpS_drop, wpS_ret, wpS_retN, wpS_stF, wpS_augF, wpS_augI, wpS_augV, wpS_par', wpS_par3', wpS_some, wpS_mNx, wpS_mCt, wpS_mBk, kont_rt, kont_ct, kont_bk, fin_rt, fin_nx, wp_mK, wp_v, vO_some, wp_ret, wp_bnd, wp_op, wp_op1, wp_call, wp_fn, wp_cons, wp_nil, wp_tup, wp_lst, wp_obj, wp_oNone, wp_oSome, intO_int, wp_sl, wp_mIf, wp_mAnd, wp_mOr, wp_mNot, wp_mB, wp_mAndV, wp_mOrV, wp_mNotV, wp_mChain, wp_mTru, isBl_bl, truO_some, x_addI, x_addJ, x_sub, x_mod, x_div, x_mul, x_pow, x_shl, x_shr, x_band, x_bor, x_bxor, x_lt, x_le, x_gt, x_ge, x_neg, x_eqI, x_neI, x_eqS, x_neS, x_isN, x_isNN, x_int, x_abs, x_max2, x_min2, x_d1, x_d2, x_mkL, x_mkT, x_mkO, x_mkD, x_mkDo, x_ix, ixO_some, x_len, lenO_some, x_list, wpO_some, x_slT, x_slL, x_addLL, x_addTT, blO_some, x_isi, wp_isiT, x_fld, x_getI, wp_mMeth, wp_mMake, wp_mMt, wp_mLc, wp_mIt, wp_range1, wp_range2, wp_range3, wpS_for, isi_non_bool, isi_non_int, isi_non_str, isi_non_list, isi_non_tuple, isi_non_dict, isi_bl_bool, isi_bl_int, isi_bl_str, isi_bl_list, isi_bl_tuple, isi_bl_dict, isi_int_bool, isi_int_int, isi_int_str, isi_int_list, isi_int_tuple, isi_int_dict, isi_str_bool, isi_str_int, isi_str_str, isi_str_list, isi_str_tuple, isi_str_dict, isi_lst_bool, isi_lst_int, isi_lst_str, isi_lst_list, isi_lst_tuple, isi_lst_dict, isi_src_bool, isi_src_int, isi_src_str, isi_src_list, isi_src_tuple, isi_src_dict, isi_tup_bool, isi_tup_int, isi_tup_str, isi_tup_list, isi_tup_tuple, isi_tup_dict, isi_dct_bool, isi_dct_int, isi_dct_str, isi_dct_list, isi_dct_tuple, isi_dct_dict, g_nm, g_tp2, g_tp3, g_tp4, g_nil, g_cons, List.getElem?_cons_succ, List.getElem?_cons_zero, List.set_cons_succ, List.set_cons_zero, truD, ixAt_lst ho1, a1, decide_eq_true_eq]
    by_cases c14 : c ≤ 14
    · rw [if_neg (by omega)]
      refine kont_nx ?_
      have i1 : insOf S c_Reader (.obj 2) = some (2, [.int (kk : Int), .int 13, .int 50, .int now, ctr, last, .int bell, .obj 3]) := ins_obj hr
      have hcut : cutD (nn (x :: c :: ds)) (some 2) none = nn ds := cut_from 2
      simp only [wpS_seq, wpS_gNm, wpS_asg, wpS_ifS, wpS_drop, wpS_ret, wpS_retN, wpS_stF, wpS_augF, wpS_augI, wpS_augV, wpS_par', wpS_par3', wpS_some, wpS_mNx, wpS_mCt, wpS_mBk, kont_rt, kont_ct, kont_bk, fin_rt, fin_nx, wp_mK, wp_v, vO_some, wp_ret, wp_bnd, wp_op, wp_op1, wp_call, wp_fn, wp_cons, wp_nil, wp_tup, wp_lst, wp_obj, wp_oNone, wp_oSome, intO_int, wp_sl, wp_mIf, wp_mAnd, wp_mOr, wp_mNot, wp_mB, wp_mAndV, wp_mOrV, wp_mNotV, wp_mChain, wp_mTru, isBl_bl, truO_some, x_addI, x_addJ, x_sub, x_mod, x_div, x_mul, x_pow, x_shl, x_shr, x_band, x_bor, x_bxor, x_lt, x_le, x_gt, x_ge, x_neg, x_eqI, x_neI, x_eqS, x_neS, x_isN, x_isNN, x_int, x_abs, x_max2, x_min2, x_d1, x_d2, x_mkL, x_mkT, x_mkO, x_mkD, x_mkDo, x_ix, ixO_some, x_len, lenO_some, x_list, wpO_some, x_slT, x_slL, x_addLL, x_addTT, blO_some, x_isi, wp_isiT, x_fld, x_getI, wp_mMeth, wp_mMake, wp_mMt, wp_mLc, wp_mIt, wp_range1, wp_range2, wp_range3, wpS_for, isi_non_bool, isi_non_int, isi_non_str, isi_non_list, isi_non_tuple, isi_non_dict, isi_bl_bool, isi_bl_int, isi_bl_str, isi_bl_list, isi_bl_tuple, isi_bl_dict, isi_int_bool, isi_int_int, isi_int_str, isi_int_list, isi_int_tuple, isi_int_dict, isi_str_bool, isi_str_int, isi_str_str, isi_str_list, isi_str_tuple, isi_str_dict, isi_lst_bool, isi_lst_int, isi_lst_str, isi_lst_list, isi_lst_tuple, isi_lst_dict, isi_src_bool, isi_src_int, isi_src_str, isi_src_list, isi_src_tuple, isi_src_dict, isi_tup_bool, isi_tup_int, isi_tup_str, isi_tup_list, isi_tup_tuple, isi_tup_dict, isi_dct_bool, isi_dct_int, isi_dct_str, isi_dct_list, isi_dct_tuple, isi_dct_dict, g_nm, g_tp2, g_tp3, g_tp4, g_nil, g_cons, List.getElem?_cons_succ, List.getElem?_cons_zero, List.set_cons_succ, List.set_cons_zero, truD, x_slD ho1, hcut, ixAt_lst ho1, a1, i1]
      refine ⟨small_of (by rw [nn_len]; omega), ?_⟩
      rw [w_guarded (d := .lst (nn ds)) rfl (fun n hn => hb n (by simp [hn])) hl c14 hkk]
      simp only [wpS_seq, wpS_gNm, wpS_asg, wpS_ifS, wpS_drop, wpS_ret, wpS_retN, wpS_stF, wpS_augF, wpS_augI, wpS_augV, wpS_par', wpS_par3', wpS_some, wpS_mNx, wpS_mCt, wpS_mBk, kont_rt, kont_ct, kont_bk, fin_rt, fin_nx, wp_mK, wp_v, vO_some, wp_ret, wp_bnd, wp_op, wp_op1, wp_call, wp_fn, wp_cons, wp_nil, wp_tup, wp_lst, wp_obj, wp_oNone, wp_oSome, intO_int, wp_sl, wp_mIf, wp_mAnd, wp_mOr, wp_mNot, wp_mB, wp_mAndV, wp_mOrV, wp_mNotV, wp_mChain, wp_mTru, isBl_bl, truO_some, x_addI, x_addJ, x_sub, x_mod, x_div, x_mul, x_pow, x_shl, x_shr, x_band, x_bor, x_bxor, x_lt, x_le, x_gt, x_ge, x_neg, x_eqI, x_neI, x_eqS, x_neS, x_isN, x_isNN, x_int, x_abs, x_max2, x_min2, x_d1, x_d2, x_mkL, x_mkT, x_mkO, x_mkD, x_mkDo, x_ix, ixO_some, x_len, lenO_some, x_list, wpO_some, x_slT, x_slL, x_addLL, x_addTT, blO_some, x_isi, wp_isiT, x_fld, x_getI, wp_mMeth, wp_mMake, wp_mMt, wp_mLc, wp_mIt, wp_range1, wp_range2, wp_range3, wpS_for, isi_non_bool, isi_non_int, isi_non_str, isi_non_list, isi_non_tuple, isi_non_dict, isi_bl_bool, isi_bl_int, isi_bl_str, isi_bl_list, isi_bl_tuple, isi_bl_dict, isi_int_bool, isi_int_int, isi_int_str, isi_int_list, isi_int_tuple, isi_int_dict, isi_str_bool, isi_str_int, isi_str_str, isi_str_list, isi_str_tuple, isi_str_dict, isi_lst_bool, isi_lst_int, isi_lst_str, isi_lst_list, isi_lst_tuple, isi_lst_dict, isi_src_bool, isi_src_int, isi_src_str, isi_src_list, isi_src_tuple, isi_src_dict, isi_tup_bool, isi_tup_int, isi_tup_str, isi_tup_list, isi_tup_tuple, isi_tup_dict, isi_dct_bool, isi_dct_int, isi_dct_str, isi_dct_list, isi_dct_tuple, isi_dct_dict, g_nm, g_tp2, g_tp3, g_tp4, g_nil, g_cons, List.getElem?_cons_succ, List.getElem?_cons_zero, List.set_cons_succ, List.set_cons_zero, truD, x_eq, eqB_nn (x := .lst (nn (gd ds c kk))) ⟨rfl, fun n e => by cases e⟩ ho]
      refine ⟨?_, trivial⟩
      congr 1
      refine decide_eq_decide.mpr ⟨fun e => ⟨c14, ?_⟩, fun e => ?_⟩
      · unfold gd at e
        rw [List.cons.injEq] at e
        exact e.1
      · unfold gd
        rw [e.2]
    · rw [if_pos (by omega)]
      rw [decide_eq_false (fun z => c14 z.1)]
      exact ⟨rfl, trivial⟩
  rw [wp_of (e_ex core)]
theorem x_data {key now bell : Int} {ctr : D} {ds : List D} (hr : S.get 2 = some (rdr key now ctr (.lst ds) bell)) (hz : ds.length ≤ 16777216) : wp (m_Reader_data [.obj 2]) S Q E = Q (.lst ds) S := by
  have core : wp (m_Reader_data [.obj 2]) S (fun u S' => u = .lst ds ∧ S' = S) no := by
    rw [r_Reader_data]
    unfold b_Reader_data
    have i1 : insOf S c_Reader (.obj 2) = some (2, [.int key, .int 13, .int 50, .int now, ctr, .lst ds, .int bell, .obj 3]) := ins_obj hr
    simp only [wpS_seq, wpS_gNm, wpS_asg, wpS_ifS, wpS_drop, wpS_ret, wpS_retN, wpS_stF, wpS_augF, wpS_augI, wpS_augV, wpS_par', wpS_par3', wpS_some, wpS_mNx, wpS_mCt, wpS_mBk, kont_rt, kont_ct, kont_bk, fin_rt, fin_nx, wp_mK, wp_v, vO_some, wp_ret, wp_bnd, wp_op, wp_op1, wp_call, wp_fn, wp_cons, wp_nil, wp_tup, wp_lst, wp_obj, wp_oNone, wp_oSome, intO_int, wp_sl, wp_mIf, wp_mAnd, wp_mOr, wp_mNot, wp_mB, wp_mAndV, wp_mOrV, wp_mNotV, wp_mChain, wp_mTru, isBl_bl, truO_some, x_addI, x_addJ, x_sub, x_mod, x_div, x_mul, x_pow, x_shl, x_shr, x_band, x_bor, x_bxor, x_lt, x_le, x_gt, x_ge, x_neg, x_eqI, x_neI, x_eqS, x_neS, x_isN, x_isNN, x_int, x_abs, x_max2, x_min2, x_d1, x_d2, x_mkL, x_mkT, x_mkO, x_mkD, x_mkDo, x_ix, ixO_some, x_len, lenO_some, x_list, wpO_some, x_slT, x_slL, x_addLL, x_addTT, blO_some, x_isi, wp_isiT, x_fld, x_getI, wp_mMeth, wp_mMake, wp_mMt, wp_mLc, wp_mIt, wp_range1, wp_range2, wp_range3, wpS_for, isi_non_bool, isi_non_int, isi_non_str, isi_non_list, isi_non_tuple, isi_non_dict, isi_bl_bool, isi_bl_int, isi_bl_str, isi_bl_list, isi_bl_tuple, isi_bl_dict, isi_int_bool, isi_int_int, isi_int_str, isi_int_list, isi_int_tuple, isi_int_dict, isi_str_bool, isi_str_int, isi_str_str, isi_str_list, isi_str_tuple, isi_str_dict, isi_lst_bool, isi_lst_int, isi_lst_str, isi_lst_list, isi_lst_tuple, isi_lst_dict, isi_src_bool, isi_src_int, isi_src_str, isi_src_list, isi_src_tuple, isi_src_dict, isi_tup_bool, isi_tup_int, isi_tup_str, isi_tup_list, isi_tup_tuple, isi_tup_dict, isi_dct_bool, isi_dct_int, isi_dct_str, isi_dct_list, isi_dct_tuple, isi_dct_dict, g_nm, g_tp2, g_tp3, g_tp4, g_nil, g_cons, List.getElem?_cons_succ, List.getElem?_cons_zero, List.set_cons_succ, List.set_cons_zero, truD, i1, Mi.isNon, if_false, Bool.false_eq_true, dctOf, seqOf, lstOf]
    exact ⟨small_of hz, trivial, trivial⟩
  rw [wp_of (e_ex core)]
theorem x_data0 {key now bell : Int} {ctr : D} (hr : S.get 2 = some (rdr key now ctr .non bell)) : wp (m_Reader_data [.obj 2]) S Q E = Q .non S := by
  have core : wp (m_Reader_data [.obj 2]) S (fun u S' => u = .non ∧ S' = S) no := by
    rw [r_Reader_data]
    unfold b_Reader_data
    have i1 : insOf S c_Reader (.obj 2) = some (2, [.int key, .int 13, .int 50, .int now, ctr, .non, .int bell, .obj 3]) := ins_obj hr
    simp only [wpS_seq, wpS_gNm, wpS_asg, wpS_ifS, wpS_drop, wpS_ret, wpS_retN, wpS_stF, wpS_augF, wpS_augI, wpS_augV, wpS_par', wpS_par3', wpS_some, wpS_mNx, wpS_mCt, wpS_mBk, kont_rt, kont_ct, kont_bk, fin_rt, fin_nx, wp_mK, wp_v, vO_some, wp_ret, wp_bnd, wp_op, wp_op1, wp_call, wp_fn, wp_cons, wp_nil, wp_tup, wp_lst, wp_obj, wp_oNone, wp_oSome, intO_int, wp_sl, wp_mIf, wp_mAnd, wp_mOr, wp_mNot, wp_mB, wp_mAndV, wp_mOrV, wp_mNotV, wp_mChain, wp_mTru, isBl_bl, truO_some, x_addI, x_addJ, x_sub, x_mod, x_div, x_mul, x_pow, x_shl, x_shr, x_band, x_bor, x_bxor, x_lt, x_le, x_gt, x_ge, x_neg, x_eqI, x_neI, x_eqS, x_neS, x_isN, x_isNN, x_int, x_abs, x_max2, x_min2, x_d1, x_d2, x_mkL, x_mkT, x_mkO, x_mkD, x_mkDo, x_ix, ixO_some, x_len, lenO_some, x_list, wpO_some, x_slT, x_slL, x_addLL, x_addTT, blO_some, x_isi, wp_isiT, x_fld, x_getI, wp_mMeth, wp_mMake, wp_mMt, wp_mLc, wp_mIt, wp_range1, wp_range2, wp_range3, wpS_for, isi_non_bool, isi_non_int, isi_non_str, isi_non_list, isi_non_tuple, isi_non_dict, isi_bl_bool, isi_bl_int, isi_bl_str, isi_bl_list, isi_bl_tuple, isi_bl_dict, isi_int_bool, isi_int_int, isi_int_str, isi_int_list, isi_int_tuple, isi_int_dict, isi_str_bool, isi_str_int, isi_str_str, isi_str_list, isi_str_tuple, isi_str_dict, isi_lst_bool, isi_lst_int, isi_lst_str, isi_lst_list, isi_lst_tuple, isi_lst_dict, isi_src_bool, isi_src_int, isi_src_str, isi_src_list, isi_src_tuple, isi_src_dict, isi_tup_bool, isi_tup_int, isi_tup_str, isi_tup_list, isi_tup_tuple, isi_tup_dict, isi_dct_bool, isi_dct_int, isi_dct_str, isi_dct_list, isi_dct_tuple, isi_dct_dict, g_nm, g_tp2, g_tp3, g_tp4, g_nil, g_cons, List.getElem?_cons_succ, List.getElem?_cons_zero, List.set_cons_succ, List.set_cons_zero, truD, i1, Mi.isNon, if_true]
    exact ⟨trivial, trivial⟩
  rw [wp_of (e_ex core)]
theorem x_copy {mk : List (Key × D) → M D} {n : Nat} {kvs : List (Key × D)} (h : S.get n = some (.dk kvs)) : wp (dCopy mk (.obj n)) S Q E = wp (mk kvs) S Q E := by
  unfold dCopy dctOf wp
  dsimp only
  rw [h]
theorem x_tally {key now bell : Int} {ctr last : D} {kvs : List (Key × D)} (hr : S.get 2 = some (rdr key now ctr last bell)) (hc : S.get 3 = some (.dk kvs)) : wp (m_Reader_tally [.obj 2]) S Q E = Q (.dct kvs) S := by
  have core : wp (m_Reader_tally [.obj 2]) S (fun u S' => u = .dct kvs ∧ S' = S) no := by
    rw [r_Reader_tally]
    unfold b_Reader_tally
    have i1 : insOf S c_Reader (.obj 2) = some (2, [.int key, .int 13, .int 50, .int now, ctr, last, .int bell, .obj 3]) := ins_obj hr
    simp only [wpS_seq, wpS_gNm, wpS_asg, wpS_ifS, wpS_drop, wpS_ret, wpS_retN, wpS_stF, wpS_augF, wpS_augI, wpS_augV, wpS_par', wpS_par3', wpS_some, wpS_mNx, wpS_mCt, wpS_mBk, kont_rt, kont_ct, kont_bk, fin_rt, fin_nx, wp_mK, wp_v, vO_some, wp_ret, wp_bnd, wp_op, wp_op1, wp_call, wp_fn, wp_cons, wp_nil, wp_tup, wp_lst, wp_obj, wp_oNone, wp_oSome, intO_int, wp_sl, wp_mIf, wp_mAnd, wp_mOr, wp_mNot, wp_mB, wp_mAndV, wp_mOrV, wp_mNotV, wp_mChain, wp_mTru, isBl_bl, truO_some, x_addI, x_addJ, x_sub, x_mod, x_div, x_mul, x_pow, x_shl, x_shr, x_band, x_bor, x_bxor, x_lt, x_le, x_gt, x_ge, x_neg, x_eqI, x_neI, x_eqS, x_neS, x_isN, x_isNN, x_int, x_abs, x_max2, x_min2, x_d1, x_d2, x_mkL, x_mkT, x_mkO, x_mkD, x_mkDo, x_ix, ixO_some, x_len, lenO_some, x_list, wpO_some, x_slT, x_slL, x_addLL, x_addTT, blO_some, x_isi, wp_isiT, x_fld, x_getI, wp_mMeth, wp_mMake, wp_mMt, wp_mLc, wp_mIt, wp_range1, wp_range2, wp_range3, wpS_for, isi_non_bool, isi_non_int, isi_non_str, isi_non_list, isi_non_tuple, isi_non_dict, isi_bl_bool, isi_bl_int, isi_bl_str, isi_bl_list, isi_bl_tuple, isi_bl_dict, isi_int_bool, isi_int_int, isi_int_str, isi_int_list, isi_int_tuple, isi_int_dict, isi_str_bool, isi_str_int, isi_str_str, isi_str_list, isi_str_tuple, isi_str_dict, isi_lst_bool, isi_lst_int, isi_lst_str, isi_lst_list, isi_lst_tuple, isi_lst_dict, isi_src_bool, isi_src_int, isi_src_str, isi_src_list, isi_src_tuple, isi_src_dict, isi_tup_bool, isi_tup_int, isi_tup_str, isi_tup_list, isi_tup_tuple, isi_tup_dict, isi_dct_bool, isi_dct_int, isi_dct_str, isi_dct_list, isi_dct_tuple, isi_dct_dict, g_nm, g_tp2, g_tp3, g_tp4, g_nil, g_cons, List.getElem?_cons_succ, List.getElem?_cons_zero, List.set_cons_succ, List.set_cons_zero, truD, i1, x_copy hc]
    exact ⟨trivial, trivial⟩
  rw [wp_of (e_ex core)]
theorem un_fr {o : D} {ds : List D} {S' : MS} {ms : List Nat} (h : Un S o ds) (f : Fr ms S S') (hn : ∀ n, o = .obj n → n < S.nx ∧ n ∉ ms) : Un S' o ds := by
  refine ⟨?_, fun n e => (f.ne n (hn n e).1 (hn n e).2).trans (h.2 n e)⟩
  cases o with
  | obj n =>
    have e := (f.ne n (hn n rfl).1 (hn n rfl).2).trans (h.2 n rfl)
    unfold lstRd
    dsimp only
    rw [e]
  | lst _ => exact h.1
  | _ => exact h.1
/-- what a reader says of a thing that is not right -/
theorem w_take_bad {now now' bell : Int} {ctr last o : D} {x c : Nat} {ds : List Nat} {kk : Nat} {a b cc d e f : Int} (hkk : kk ≤ 65535) (hr : S.get 2 = some (rdr kk now ctr last bell)) (hc : S.get 3 = some (.dk (cnt a b cc d e f))) (hx : 3 < S.nx) (hn : now ≤ now') (hbl : now' - bell < 900000)
    (ho : Un S o (nn (x :: c :: ds))) (hob : ∀ n, o = .obj n → n < S.nx ∧ n ∉ [2, 3]) (hb : ∀ n ∈ x :: c :: ds, n < 256) (hl : ds.length ≤ 6) (bad : ¬ (c ≤ 14 ∧ crc (c :: (ds ++ [kk / 256, kk % 256])) = x))
    (k : ∀ (S' : MS) (bell' f' : Int), Fr [2, 3] S S' → S'.get 2 = some (rdr kk now' ctr last bell') → S'.get 3 = some (.dk (cnt a b cc d (e + 1) f')) → now' < bell' → Q (.str "changed") S') : wp (m_Reader_take [.obj 2, o, .int now']) S Q E := by
  rw [r_Reader_take]
  unfold b_Reader_take
  simp only [wpS_seq, wpS_gNm, wpS_asg, wpS_ifS, wpS_drop, wpS_ret, wpS_retN, wpS_stF, wpS_augF, wpS_augI, wpS_augV, wpS_par', wpS_par3', wpS_some, wpS_mNx, wpS_mCt, wpS_mBk, kont_rt, kont_ct, kont_bk, fin_rt, fin_nx, wp_mK, wp_v, vO_some, wp_ret, wp_bnd, wp_op, wp_op1, wp_call, wp_fn, wp_cons, wp_nil, wp_tup, wp_lst, wp_obj, wp_oNone, wp_oSome, intO_int, wp_sl, wp_mIf, wp_mAnd, wp_mOr, wp_mNot, wp_mB, wp_mAndV, wp_mOrV, wp_mNotV, wp_mChain, wp_mTru, isBl_bl, truO_some, x_addI, x_addJ, x_sub, x_mod, x_div, x_mul, x_pow, x_shl, x_shr, x_band, x_bor, x_bxor, x_lt, x_le, x_gt, x_ge, x_neg, x_eqI, x_neI, x_eqS, x_neS, x_isN, x_isNN, x_int, x_abs, x_max2, x_min2, x_d1, x_d2, x_mkL, x_mkT, x_mkO, x_mkD, x_mkDo, x_ix, ixO_some, x_len, lenO_some, x_list, wpO_some, x_slT, x_slL, x_addLL, x_addTT, blO_some, x_isi, wp_isiT, x_fld, x_getI, wp_mMeth, wp_mMake, wp_mMt, wp_mLc, wp_mIt, wp_range1, wp_range2, wp_range3, wpS_for, isi_non_bool, isi_non_int, isi_non_str, isi_non_list, isi_non_tuple, isi_non_dict, isi_bl_bool, isi_bl_int, isi_bl_str, isi_bl_list, isi_bl_tuple, isi_bl_dict, isi_int_bool, isi_int_int, isi_int_str, isi_int_list, isi_int_tuple, isi_int_dict, isi_str_bool, isi_str_int, isi_str_str, isi_str_list, isi_str_tuple, isi_str_dict, isi_lst_bool, isi_lst_int, isi_lst_str, isi_lst_list, isi_lst_tuple, isi_lst_dict, isi_src_bool, isi_src_int, isi_src_str, isi_src_list, isi_src_tuple, isi_src_dict, isi_tup_bool, isi_tup_int, isi_tup_str, isi_tup_list, isi_tup_tuple, isi_tup_dict, isi_dct_bool, isi_dct_int, isi_dct_str, isi_dct_list, isi_dct_tuple, isi_dct_dict, g_nm, g_tp2, g_tp3, g_tp4, g_nil, g_cons, List.getElem?_cons_succ, List.getElem?_cons_zero, List.set_cons_succ, List.set_cons_zero, truD, ins_obj hr]
  refine w_go_on hr hc hx hn hbl fun S1 v bell' f' fr g2 g3 hlt _ => ?_
  refine kont_nx ?_
  simp only [wpS_seq, wpS_gNm, wpS_asg, wpS_ifS, wpS_drop, wpS_ret, wpS_retN, wpS_stF, wpS_augF, wpS_augI, wpS_augV, wpS_par', wpS_par3', wpS_some, wpS_mNx, wpS_mCt, wpS_mBk, kont_rt, kont_ct, kont_bk, fin_rt, fin_nx, wp_mK, wp_v, vO_some, wp_ret, wp_bnd, wp_op, wp_op1, wp_call, wp_fn, wp_cons, wp_nil, wp_tup, wp_lst, wp_obj, wp_oNone, wp_oSome, intO_int, wp_sl, wp_mIf, wp_mAnd, wp_mOr, wp_mNot, wp_mB, wp_mAndV, wp_mOrV, wp_mNotV, wp_mChain, wp_mTru, isBl_bl, truO_some, x_addI, x_addJ, x_sub, x_mod, x_div, x_mul, x_pow, x_shl, x_shr, x_band, x_bor, x_bxor, x_lt, x_le, x_gt, x_ge, x_neg, x_eqI, x_neI, x_eqS, x_neS, x_isN, x_isNN, x_int, x_abs, x_max2, x_min2, x_d1, x_d2, x_mkL, x_mkT, x_mkO, x_mkD, x_mkDo, x_ix, ixO_some, x_len, lenO_some, x_list, wpO_some, x_slT, x_slL, x_addLL, x_addTT, blO_some, x_isi, wp_isiT, x_fld, x_getI, wp_mMeth, wp_mMake, wp_mMt, wp_mLc, wp_mIt, wp_range1, wp_range2, wp_range3, wpS_for, isi_non_bool, isi_non_int, isi_non_str, isi_non_list, isi_non_tuple, isi_non_dict, isi_bl_bool, isi_bl_int, isi_bl_str, isi_bl_list, isi_bl_tuple, isi_bl_dict, isi_int_bool, isi_int_int, isi_int_str, isi_int_list, isi_int_tuple, isi_int_dict, isi_str_bool, isi_str_int, isi_str_str, isi_str_list, isi_str_tuple, isi_str_dict, isi_lst_bool, isi_lst_int, isi_lst_str, isi_lst_list, isi_lst_tuple, isi_lst_dict, isi_src_bool, isi_src_int, isi_src_str, isi_src_list, isi_src_tuple, isi_src_dict, isi_tup_bool, isi_tup_int, isi_tup_str, isi_tup_list, isi_tup_tuple, isi_tup_dict, isi_dct_bool, isi_dct_int, isi_dct_str, isi_dct_list, isi_dct_tuple, isi_dct_dict, g_nm, g_tp2, g_tp3, g_tp4, g_nil, g_cons, List.getElem?_cons_succ, List.getElem?_cons_zero, List.set_cons_succ, List.set_cons_zero, truD, ins_obj g2, w_right rfl hkk g2 (un_fr ho fr hob) hb hl, decide_eq_false bad, Bool.not_false, if_true]
  simp only [wpS_seq, wpS_gNm, wpS_asg, wpS_ifS, wpS_drop, wpS_ret, wpS_retN, wpS_stF, wpS_augF, wpS_augI, wpS_augV, wpS_par', wpS_par3', wpS_some, wpS_mNx, wpS_mCt, wpS_mBk, kont_rt, kont_ct, kont_bk, fin_rt, fin_nx, wp_mK, wp_v, vO_some, wp_ret, wp_bnd, wp_op, wp_op1, wp_call, wp_fn, wp_cons, wp_nil, wp_tup, wp_lst, wp_obj, wp_oNone, wp_oSome, intO_int, wp_sl, wp_mIf, wp_mAnd, wp_mOr, wp_mNot, wp_mB, wp_mAndV, wp_mOrV, wp_mNotV, wp_mChain, wp_mTru, isBl_bl, truO_some, x_addI, x_addJ, x_sub, x_mod, x_div, x_mul, x_pow, x_shl, x_shr, x_band, x_bor, x_bxor, x_lt, x_le, x_gt, x_ge, x_neg, x_eqI, x_neI, x_eqS, x_neS, x_isN, x_isNN, x_int, x_abs, x_max2, x_min2, x_d1, x_d2, x_mkL, x_mkT, x_mkO, x_mkD, x_mkDo, x_ix, ixO_some, x_len, lenO_some, x_list, wpO_some, x_slT, x_slL, x_addLL, x_addTT, blO_some, x_isi, wp_isiT, x_fld, x_getI, wp_mMeth, wp_mMake, wp_mMt, wp_mLc, wp_mIt, wp_range1, wp_range2, wp_range3, wpS_for, isi_non_bool, isi_non_int, isi_non_str, isi_non_list, isi_non_tuple, isi_non_dict, isi_bl_bool, isi_bl_int, isi_bl_str, isi_bl_list, isi_bl_tuple, isi_bl_dict, isi_int_bool, isi_int_int, isi_int_str, isi_int_list, isi_int_tuple, isi_int_dict, isi_str_bool, isi_str_int, isi_str_str, isi_str_list, isi_str_tuple, isi_str_dict, isi_lst_bool, isi_lst_int, isi_lst_str, isi_lst_list, isi_lst_tuple, isi_lst_dict, isi_src_bool, isi_src_int, isi_src_str, isi_src_list, isi_src_tuple, isi_src_dict, isi_tup_bool, isi_tup_int, isi_tup_str, isi_tup_list, isi_tup_tuple, isi_tup_dict, isi_dct_bool, isi_dct_int, isi_dct_str, isi_dct_list, isi_dct_tuple, isi_dct_dict, g_nm, g_tp2, g_tp3, g_tp4, g_nil, g_cons, List.getElem?_cons_succ, List.getElem?_cons_zero, List.set_cons_succ, List.set_cons_zero, truD, w_counted (x := "changed") g2 g3 lk_changed (by rw [cnt_len]; decide), pt_changed]
  exact k _ bell' f' (fr.trans (Fr.set (by simp))) ((get_ne (by decide)).trans g2) get_same hlt
/-- the first thing that is right -/
theorem w_take_first {now now' bell : Int} {last o : D} {x c : Nat} {ds : List Nat} {kk : Nat} {a b cc d e f : Int} (hkk : kk ≤ 65535) (hr : S.get 2 = some (rdr kk now .non last bell)) (hc : S.get 3 = some (.dk (cnt a b cc d e f))) (hx : 3 < S.nx) (hn : now ≤ now') (hbl : now' - bell < 900000)
    (ho : Un S o (nn (x :: c :: ds))) (hob : ∀ n, o = .obj n → n < S.nx ∧ n ∉ [2, 3]) (hb : ∀ n ∈ x :: c :: ds, n < 256) (hl : ds.length ≤ 6) (good : c ≤ 14 ∧ crc (c :: (ds ++ [kk / 256, kk % 256])) = x)
    (k : ∀ (S' : MS) (f' : Int), Fr [2, 3] S S' → S'.get 2 = some (rdr kk now' (.int (c : Int)) (.lst (nn ds)) (now' + 50)) → S'.get 3 = some (.dk (cnt (a + 1) b cc d e f')) → Q (.str "fine") S') : wp (m_Reader_take [.obj 2, o, .int now']) S Q E := by
  rw [r_Reader_take]
  unfold b_Reader_take
  simp only [wpS_seq, wpS_gNm, wpS_asg, wpS_ifS, wpS_drop, wpS_ret, wpS_retN, wpS_stF, wpS_augF, wpS_augI, wpS_augV, wpS_par', wpS_par3', wpS_some, wpS_mNx, wpS_mCt, wpS_mBk, kont_rt, kont_ct, kont_bk, fin_rt, fin_nx, wp_mK, wp_v, vO_some, wp_ret, wp_bnd, wp_op, wp_op1, wp_call, wp_fn, wp_cons, wp_nil, wp_tup, wp_lst, wp_obj, wp_oNone, wp_oSome, intO_int, wp_sl, wp_mIf, wp_mAnd, wp_mOr, wp_mNot, wp_mB, wp_mAndV, wp_mOrV, wp_mNotV, wp_mChain, wp_mTru, isBl_bl, truO_some, x_addI, x_addJ, x_sub, x_mod, x_div, x_mul, x_pow, x_shl, x_shr, x_band, x_bor, x_bxor, x_lt, x_le, x_gt, x_ge, x_neg, x_eqI, x_neI, x_eqS, x_neS, x_isN, x_isNN, x_int, x_abs, x_max2, x_min2, x_d1, x_d2, x_mkL, x_mkT, x_mkO, x_mkD, x_mkDo, x_ix, ixO_some, x_len, lenO_some, x_list, wpO_some, x_slT, x_slL, x_addLL, x_addTT, blO_some, x_isi, wp_isiT, x_fld, x_getI, wp_mMeth, wp_mMake, wp_mMt, wp_mLc, wp_mIt, wp_range1, wp_range2, wp_range3, wpS_for, isi_non_bool, isi_non_int, isi_non_str, isi_non_list, isi_non_tuple, isi_non_dict, isi_bl_bool, isi_bl_int, isi_bl_str, isi_bl_list, isi_bl_tuple, isi_bl_dict, isi_int_bool, isi_int_int, isi_int_str, isi_int_list, isi_int_tuple, isi_int_dict, isi_str_bool, isi_str_int, isi_str_str, isi_str_list, isi_str_tuple, isi_str_dict, isi_lst_bool, isi_lst_int, isi_lst_str, isi_lst_list, isi_lst_tuple, isi_lst_dict, isi_src_bool, isi_src_int, isi_src_str, isi_src_list, isi_src_tuple, isi_src_dict, isi_tup_bool, isi_tup_int, isi_tup_str, isi_tup_list, isi_tup_tuple, isi_tup_dict, isi_dct_bool, isi_dct_int, isi_dct_str, isi_dct_list, isi_dct_tuple, isi_dct_dict, g_nm, g_tp2, g_tp3, g_tp4, g_nil, g_cons, List.getElem?_cons_succ, List.getElem?_cons_zero, List.set_cons_succ, List.set_cons_zero, truD, ins_obj hr]
  refine w_go_on hr hc hx hn hbl fun S1 v bell' f' fr g2 g3 hlt _ => ?_
  refine kont_nx ?_
  have ho1 := un_fr ho fr hob
  simp only [wpS_seq, wpS_gNm, wpS_asg, wpS_ifS, wpS_drop, wpS_ret, wpS_retN, wpS_stF, wpS_augF, wpS_augI, wpS_augV, wpS_par', wpS_par3', wpS_some, wpS_mNx, wpS_mCt, wpS_mBk, kont_rt, kont_ct, kont_bk, fin_rt, fin_nx, wp_mK, wp_v, vO_some, wp_ret, wp_bnd, wp_op, wp_op1, wp_call, wp_fn, wp_cons, wp_nil, wp_tup, wp_lst, wp_obj, wp_oNone, wp_oSome, intO_int, wp_sl, wp_mIf, wp_mAnd, wp_mOr, wp_mNot, wp_mB, wp_mAndV, wp_mOrV, wp_mNotV, wp_mChain, wp_mTru, isBl_bl, truO_some, x_addI, x_addJ, x_sub, x_mod, x_div, x_mul, x_pow, x_shl, x_shr, x_band, x_bor, x_bxor, x_lt, x_le, x_gt, x_ge, x_neg, x_eqI, x_neI, x_eqS, x_neS, x_isN, x_isNN, x_int, x_abs, x_max2, x_min2, x_d1, x_d2, x_mkL, x_mkT, x_mkO, x_mkD, x_mkDo, x_ix, ixO_some, x_len, lenO_some, x_list, wpO_some, x_slT, x_slL, x_addLL, x_addTT, blO_some, x_isi, wp_isiT, x_fld, x_getI, wp_mMeth, wp_mMake, wp_mMt, wp_mLc, wp_mIt, wp_range1, wp_range2, wp_range3, wpS_for, isi_non_bool, isi_non_int, isi_non_str, isi_non_list, isi_non_tuple, isi_non_dict, isi_bl_bool, isi_bl_int, isi_bl_str, isi_bl_list, isi_bl_tuple, isi_bl_dict, isi_int_bool, isi_int_int, isi_int_str, isi_int_list, isi_int_tuple, isi_int_dict, isi_str_bool, isi_str_int, isi_str_str, isi_str_list, isi_str_tuple, isi_str_dict, isi_lst_bool, isi_lst_int, isi_lst_str, isi_lst_list, isi_lst_tuple, isi_lst_dict, isi_src_bool, isi_src_int, isi_src_str, isi_src_list, isi_src_tuple, isi_src_dict, isi_tup_bool, isi_tup_int, isi_tup_str, isi_tup_list, isi_tup_tuple, isi_tup_dict, isi_dct_bool, isi_dct_int, isi_dct_str, isi_dct_list, isi_dct_tuple, isi_dct_dict, g_nm, g_tp2, g_tp3, g_tp4, g_nil, g_cons, List.getElem?_cons_succ, List.getElem?_cons_zero, List.set_cons_succ, List.set_cons_zero, truD, ins_obj g2, w_right rfl hkk g2 ho1 hb hl, decide_eq_true good, Bool.not_true, if_false, Bool.false_eq_true]
  refine kont_nx ?_
  have i1 : insOf S1 c_Reader (.obj 2) = some (2, [.int (kk : Int), .int 13, .int 50, .int now', .non, last, .int bell', .obj 3]) := ins_obj g2
  simp only [wpS_seq, wpS_gNm, wpS_asg, wpS_ifS, wpS_drop, wpS_ret, wpS_retN, wpS_stF, wpS_augF, wpS_augI, wpS_augV, wpS_par', wpS_par3', wpS_some, wpS_mNx, wpS_mCt, wpS_mBk, kont_rt, kont_ct, kont_bk, fin_rt, fin_nx, wp_mK, wp_v, vO_some, wp_ret, wp_bnd, wp_op, wp_op1, wp_call, wp_fn, wp_cons, wp_nil, wp_tup, wp_lst, wp_obj, wp_oNone, wp_oSome, intO_int, wp_sl, wp_mIf, wp_mAnd, wp_mOr, wp_mNot, wp_mB, wp_mAndV, wp_mOrV, wp_mNotV, wp_mChain, wp_mTru, isBl_bl, truO_some, x_addI, x_addJ, x_sub, x_mod, x_div, x_mul, x_pow, x_shl, x_shr, x_band, x_bor, x_bxor, x_lt, x_le, x_gt, x_ge, x_neg, x_eqI, x_neI, x_eqS, x_neS, x_isN, x_isNN, x_int, x_abs, x_max2, x_min2, x_d1, x_d2, x_mkL, x_mkT, x_mkO, x_mkD, x_mkDo, x_ix, ixO_some, x_len, lenO_some, x_list, wpO_some, x_slT, x_slL, x_addLL, x_addTT, blO_some, x_isi, wp_isiT, x_fld, x_getI, wp_mMeth, wp_mMake, wp_mMt, wp_mLc, wp_mIt, wp_range1, wp_range2, wp_range3, wpS_for, isi_non_bool, isi_non_int, isi_non_str, isi_non_list, isi_non_tuple, isi_non_dict, isi_bl_bool, isi_bl_int, isi_bl_str, isi_bl_list, isi_bl_tuple, isi_bl_dict, isi_int_bool, isi_int_int, isi_int_str, isi_int_list, isi_int_tuple, isi_int_dict, isi_str_bool, isi_str_int, isi_str_str, isi_str_list, isi_str_tuple, isi_str_dict, isi_lst_bool, isi_lst_int, isi_lst_str, isi_lst_list, isi_lst_tuple, isi_lst_dict, isi_src_bool, isi_src_int, isi_src_str, isi_src_list, isi_src_tuple, isi_src_dict, isi_tup_bool, isi_tup_int, isi_tup_str, isi_tup_list, isi_tup_tuple, isi_tup_dict, isi_dct_bool, isi_dct_int, isi_dct_str, isi_dct_list, isi_dct_tuple, isi_dct_dict, g_nm, g_tp2, g_tp3, g_tp4, g_nil, g_cons, List.getElem?_cons_succ, List.getElem?_cons_zero, List.set_cons_succ, List.set_cons_zero, truD, i1, Mi.isNon, if_true]
  have ho2 : ∀ S' : MS, (∀ k, k ≠ 2 → S'.get k = S1.get k) → lstOf S' o = some (nn (x :: c :: ds)) := fun S' h => by
    cases o with
    | obj n =>
      have e : S'.get n = some (.lst (nn (x :: c :: ds))) := (h n (fun z => (hob n rfl).2 (by rw [z]; simp))).trans (ho1.2 n rfl)
      unfold lstOf
      dsimp only
      rw [e]
    | lst _ => exact lst_rd ho1.1
    | _ => cases ho1.1
  rw [w_good (a := .int (x : Int)) (b := .int (c : Int)) (r := nn ds) (x := "fine") (lst_rd ho1.1) ho2 (by rw [nn_len]; omega) g2 g3 lk_fine (by rw [cnt_len]; decide), pt_fine]
  exact k _ f' (fr.trans ((Fr.set (by simp)).trans (Fr.set (by simp)))) ((get_ne (by decide)).trans get_same) get_same
/-- a thing that is right, when one was accepted before -/
theorem w_take_next {now now' bell : Int} {last o : D} {x c rc gap : Nat} {ds : List Nat} {kk : Nat} {a b cc d e f : Int} (hkk : kk ≤ 65535) (hr : S.get 2 = some (rdr kk now (.int (rc : Int)) last bell)) (hc : S.get 3 = some (.dk (cnt a b cc d e f))) (hx : 3 < S.nx) (hn : now ≤ now') (hbl : now' - bell < 900000)
    (ho : Un S o (nn (x :: c :: ds))) (hob : ∀ n, o = .obj n → n < S.nx ∧ n ∉ [2, 3]) (hb : ∀ n ∈ x :: c :: ds, n < 256) (hl : ds.length ≤ 6) (good : c ≤ 14 ∧ crc (c :: (ds ++ [kk / 256, kk % 256])) = x) (hg : ((c : Int) - rc) % 15 = gap) (hg2 : gap ≤ 14)
    (k0 : gap = 0 → ∀ (S' : MS) (bell' f' : Int), Fr [2, 3] S S' → S'.get 2 = some (rdr kk now' (.int (rc : Int)) last bell') → now' < bell' → S'.get 3 = some (.dk (cnt a b (cc + 1) d e f')) → Q (.str "again") S')
    (k1 : gap = 1 → ∀ (S' : MS) (f' : Int), Fr [2, 3] S S' → S'.get 2 = some (rdr kk now' (.int (c : Int)) (.lst (nn ds)) (now' + 50)) → S'.get 3 = some (.dk (cnt (a + 1) b cc d e f')) → Q (.str "fine") S')
    (k2 : 2 ≤ gap → ∀ (S' : MS) (f' : Int), Fr [2, 3] S S' → S'.get 2 = some (rdr kk now' (.int (c : Int)) (.lst (nn ds)) (now' + 50)) → S'.get 3 = some (.dk (cnt a (b + 1) cc d e f')) → Q (.tup [.str "lost", .int ((gap : Int) - 1)]) S') : wp (m_Reader_take [.obj 2, o, .int now']) S Q E := by
  rw [r_Reader_take]
  unfold b_Reader_take
  simp only [wpS_seq, wpS_gNm, wpS_asg, wpS_ifS, wpS_drop, wpS_ret, wpS_retN, wpS_stF, wpS_augF, wpS_augI, wpS_augV, wpS_par', wpS_par3', wpS_some, wpS_mNx, wpS_mCt, wpS_mBk, kont_rt, kont_ct, kont_bk, fin_rt, fin_nx, wp_mK, wp_v, vO_some, wp_ret, wp_bnd, wp_op, wp_op1, wp_call, wp_fn, wp_cons, wp_nil, wp_tup, wp_lst, wp_obj, wp_oNone, wp_oSome, intO_int, wp_sl, wp_mIf, wp_mAnd, wp_mOr, wp_mNot, wp_mB, wp_mAndV, wp_mOrV, wp_mNotV, wp_mChain, wp_mTru, isBl_bl, truO_some, x_addI, x_addJ, x_sub, x_mod, x_div, x_mul, x_pow, x_shl, x_shr, x_band, x_bor, x_bxor, x_lt, x_le, x_gt, x_ge, x_neg, x_eqI, x_neI, x_eqS, x_neS, x_isN, x_isNN, x_int, x_abs, x_max2, x_min2, x_d1, x_d2, x_mkL, x_mkT, x_mkO, x_mkD, x_mkDo, x_ix, ixO_some, x_len, lenO_some, x_list, wpO_some, x_slT, x_slL, x_addLL, x_addTT, blO_some, x_isi, wp_isiT, x_fld, x_getI, wp_mMeth, wp_mMake, wp_mMt, wp_mLc, wp_mIt, wp_range1, wp_range2, wp_range3, wpS_for, isi_non_bool, isi_non_int, isi_non_str, isi_non_list, isi_non_tuple, isi_non_dict, isi_bl_bool, isi_bl_int, isi_bl_str, isi_bl_list, isi_bl_tuple, isi_bl_dict, isi_int_bool, isi_int_int, isi_int_str, isi_int_list, isi_int_tuple, isi_int_dict, isi_str_bool, isi_str_int, isi_str_str, isi_str_list, isi_str_tuple, isi_str_dict, isi_lst_bool, isi_lst_int, isi_lst_str, isi_lst_list, isi_lst_tuple, isi_lst_dict, isi_src_bool, isi_src_int, isi_src_str, isi_src_list, isi_src_tuple, isi_src_dict, isi_tup_bool, isi_tup_int, isi_tup_str, isi_tup_list, isi_tup_tuple, isi_tup_dict, isi_dct_bool, isi_dct_int, isi_dct_str, isi_dct_list, isi_dct_tuple, isi_dct_dict, g_nm, g_tp2, g_tp3, g_tp4, g_nil, g_cons, List.getElem?_cons_succ, List.getElem?_cons_zero, List.set_cons_succ, List.set_cons_zero, truD, ins_obj hr]
  refine w_go_on hr hc hx hn hbl fun S1 v bell' f' fr g2 g3 hlt _ => ?_
  refine kont_nx ?_
  have ho1 := un_fr ho fr hob
  simp only [wpS_seq, wpS_gNm, wpS_asg, wpS_ifS, wpS_drop, wpS_ret, wpS_retN, wpS_stF, wpS_augF, wpS_augI, wpS_augV, wpS_par', wpS_par3', wpS_some, wpS_mNx, wpS_mCt, wpS_mBk, kont_rt, kont_ct, kont_bk, fin_rt, fin_nx, wp_mK, wp_v, vO_some, wp_ret, wp_bnd, wp_op, wp_op1, wp_call, wp_fn, wp_cons, wp_nil, wp_tup, wp_lst, wp_obj, wp_oNone, wp_oSome, intO_int, wp_sl, wp_mIf, wp_mAnd, wp_mOr, wp_mNot, wp_mB, wp_mAndV, wp_mOrV, wp_mNotV, wp_mChain, wp_mTru, isBl_bl, truO_some, x_addI, x_addJ, x_sub, x_mod, x_div, x_mul, x_pow, x_shl, x_shr, x_band, x_bor, x_bxor, x_lt, x_le, x_gt, x_ge, x_neg, x_eqI, x_neI, x_eqS, x_neS, x_isN, x_isNN, x_int, x_abs, x_max2, x_min2, x_d1, x_d2, x_mkL, x_mkT, x_mkO, x_mkD, x_mkDo, x_ix, ixO_some, x_len, lenO_some, x_list, wpO_some, x_slT, x_slL, x_addLL, x_addTT, blO_some, x_isi, wp_isiT, x_fld, x_getI, wp_mMeth, wp_mMake, wp_mMt, wp_mLc, wp_mIt, wp_range1, wp_range2, wp_range3, wpS_for, isi_non_bool, isi_non_int, isi_non_str, isi_non_list, isi_non_tuple, isi_non_dict, isi_bl_bool, isi_bl_int, isi_bl_str, isi_bl_list, isi_bl_tuple, isi_bl_dict, isi_int_bool, isi_int_int, isi_int_str, isi_int_list, isi_int_tuple, isi_int_dict, isi_str_bool, isi_str_int, isi_str_str, isi_str_list, isi_str_tuple, isi_str_dict, isi_lst_bool, isi_lst_int, isi_lst_str, isi_lst_list, isi_lst_tuple, isi_lst_dict, isi_src_bool, isi_src_int, isi_src_str, isi_src_list, isi_src_tuple, isi_src_dict, isi_tup_bool, isi_tup_int, isi_tup_str, isi_tup_list, isi_tup_tuple, isi_tup_dict, isi_dct_bool, isi_dct_int, isi_dct_str, isi_dct_list, isi_dct_tuple, isi_dct_dict, g_nm, g_tp2, g_tp3, g_tp4, g_nil, g_cons, List.getElem?_cons_succ, List.getElem?_cons_zero, List.set_cons_succ, List.set_cons_zero, truD, ins_obj g2, w_right rfl hkk g2 ho1 hb hl, decide_eq_true good, Bool.not_true, if_false, Bool.false_eq_true]
  refine kont_nx ?_
  have i1 : insOf S1 c_Reader (.obj 2) = some (2, [.int (kk : Int), .int 13, .int 50, .int now', .int (rc : Int), last, .int bell', .obj 3]) := ins_obj g2
  simp only [wpS_seq, wpS_gNm, wpS_asg, wpS_ifS, wpS_drop, wpS_ret, wpS_retN, wpS_stF, wpS_augF, wpS_augI, wpS_augV, wpS_par', wpS_par3', wpS_some, wpS_mNx, wpS_mCt, wpS_mBk, kont_rt, kont_ct, kont_bk, fin_rt, fin_nx, wp_mK, wp_v, vO_some, wp_ret, wp_bnd, wp_op, wp_op1, wp_call, wp_fn, wp_cons, wp_nil, wp_tup, wp_lst, wp_obj, wp_oNone, wp_oSome, intO_int, wp_sl, wp_mIf, wp_mAnd, wp_mOr, wp_mNot, wp_mB, wp_mAndV, wp_mOrV, wp_mNotV, wp_mChain, wp_mTru, isBl_bl, truO_some, x_addI, x_addJ, x_sub, x_mod, x_div, x_mul, x_pow, x_shl, x_shr, x_band, x_bor, x_bxor, x_lt, x_le, x_gt, x_ge, x_neg, x_eqI, x_neI, x_eqS, x_neS, x_isN, x_isNN, x_int, x_abs, x_max2, x_min2, x_d1, x_d2, x_mkL, x_mkT, x_mkO, x_mkD, x_mkDo, x_ix, ixO_some, x_len, lenO_some, x_list, wpO_some, x_slT, x_slL, x_addLL, x_addTT, blO_some, x_isi, wp_isiT, x_fld, x_getI, wp_mMeth, wp_mMake, wp_mMt, wp_mLc, wp_mIt, wp_range1, wp_range2, wp_range3, wpS_for, isi_non_bool, isi_non_int, isi_non_str, isi_non_list, isi_non_tuple, isi_non_dict, isi_bl_bool, isi_bl_int, isi_bl_str, isi_bl_list, isi_bl_tuple, isi_bl_dict, isi_int_bool, isi_int_int, isi_int_str, isi_int_list, isi_int_tuple, isi_int_dict, isi_str_bool, isi_str_int, isi_str_str, isi_str_list, isi_str_tuple, isi_str_dict, isi_lst_bool, isi_lst_int, isi_lst_str, isi_lst_list, isi_lst_tuple, isi_lst_dict, isi_src_bool, isi_src_int, isi_src_str, isi_src_list, isi_src_tuple, isi_src_dict, isi_tup_bool, isi_tup_int, isi_tup_str, isi_tup_list, isi_tup_tuple, isi_tup_dict, isi_dct_bool, isi_dct_int, isi_dct_str, isi_dct_list, isi_dct_tuple, isi_dct_dict, g_nm, g_tp2, g_tp3, g_tp4, g_nil, g_cons, List.getElem?_cons_succ, List.getElem?_cons_zero, List.set_cons_succ, List.set_cons_zero, truD, i1, Mi.isNon, if_false, Bool.false_eq_true]
  refine kont_nx ?_
  have ho2 : ∀ S' : MS, (∀ k, k ≠ 2 → S'.get k = S1.get k) → lstOf S' o = some (nn (x :: c :: ds)) := fun S' h => by
    cases o with
    | obj n =>
      have e : S'.get n = some (.lst (nn (x :: c :: ds))) := (h n (fun z => (hob n rfl).2 (by rw [z]; simp))).trans (ho1.2 n rfl)
      unfold lstOf
      dsimp only
      rw [e]
    | lst _ => exact lst_rd ho1.1
    | _ => cases ho1.1
  have a1 : atI (nn (x :: c :: ds)) 1 = some (.int (c : Int)) := at_nat (ds := nn (x :: c :: ds)) (j := 1) (by simp [nn])
  have h15 : (14 + 1 : Int) = 15 := rfl
  simp only [wpS_seq, wpS_gNm, wpS_asg, wpS_ifS, wpS_drop, wpS_ret, wpS_retN, wpS_stF, wpS_augF, wpS_augI, wpS_augV, wpS_par', wpS_par3', wpS_some, wpS_mNx, wpS_mCt, wpS_mBk, kont_rt, kont_ct, kont_bk, fin_rt, fin_nx, wp_mK, wp_v, vO_some, wp_ret, wp_bnd, wp_op, wp_op1, wp_call, wp_fn, wp_cons, wp_nil, wp_tup, wp_lst, wp_obj, wp_oNone, wp_oSome, intO_int, wp_sl, wp_mIf, wp_mAnd, wp_mOr, wp_mNot, wp_mB, wp_mAndV, wp_mOrV, wp_mNotV, wp_mChain, wp_mTru, isBl_bl, truO_some, x_addI, x_addJ, x_sub, x_mod, x_div, x_mul, x_pow, x_shl, x_shr, x_band, x_bor, x_bxor, x_lt, x_le, x_gt, x_ge, x_neg, x_eqI, x_neI, x_eqS, x_neS, x_isN, x_isNN, x_int, x_abs, x_max2, x_min2, x_d1, x_d2, x_mkL, x_mkT, x_mkO, x_mkD, x_mkDo, x_ix, ixO_some, x_len, lenO_some, x_list, wpO_some, x_slT, x_slL, x_addLL, x_addTT, blO_some, x_isi, wp_isiT, x_fld, x_getI, wp_mMeth, wp_mMake, wp_mMt, wp_mLc, wp_mIt, wp_range1, wp_range2, wp_range3, wpS_for, isi_non_bool, isi_non_int, isi_non_str, isi_non_list, isi_non_tuple, isi_non_dict, isi_bl_bool, isi_bl_int, isi_bl_str, isi_bl_list, isi_bl_tuple, isi_bl_dict, isi_int_bool, isi_int_int, isi_int_str, isi_int_list, isi_int_tuple, isi_int_dict, isi_str_bool, isi_str_int, isi_str_str, isi_str_list, isi_str_tuple, isi_str_dict, isi_lst_bool, isi_lst_int, isi_lst_str, isi_lst_list, isi_lst_tuple, isi_lst_dict, isi_src_bool, isi_src_int, isi_src_str, isi_src_list, isi_src_tuple, isi_src_dict, isi_tup_bool, isi_tup_int, isi_tup_str, isi_tup_list, isi_tup_tuple, isi_tup_dict, isi_dct_bool, isi_dct_int, isi_dct_str, isi_dct_list, isi_dct_tuple, isi_dct_dict, g_nm, g_tp2, g_tp3, g_tp4, g_nil, g_cons, List.getElem?_cons_succ, List.getElem?_cons_zero, List.set_cons_succ, List.set_cons_zero, truD, ixAt_lst (lst_rd ho1.1), a1, i1, h15, hg]
  refine ⟨by decide, kont_nx ?_⟩
  simp only [wpS_seq, wpS_gNm, wpS_asg, wpS_ifS, wpS_drop, wpS_ret, wpS_retN, wpS_stF, wpS_augF, wpS_augI, wpS_augV, wpS_par', wpS_par3', wpS_some, wpS_mNx, wpS_mCt, wpS_mBk, kont_rt, kont_ct, kont_bk, fin_rt, fin_nx, wp_mK, wp_v, vO_some, wp_ret, wp_bnd, wp_op, wp_op1, wp_call, wp_fn, wp_cons, wp_nil, wp_tup, wp_lst, wp_obj, wp_oNone, wp_oSome, intO_int, wp_sl, wp_mIf, wp_mAnd, wp_mOr, wp_mNot, wp_mB, wp_mAndV, wp_mOrV, wp_mNotV, wp_mChain, wp_mTru, isBl_bl, truO_some, x_addI, x_addJ, x_sub, x_mod, x_div, x_mul, x_pow, x_shl, x_shr, x_band, x_bor, x_bxor, x_lt, x_le, x_gt, x_ge, x_neg, x_eqI, x_neI, x_eqS, x_neS, x_isN, x_isNN, x_int, x_abs, x_max2, x_min2, x_d1, x_d2, x_mkL, x_mkT, x_mkO, x_mkD, x_mkDo, x_ix, ixO_some, x_len, lenO_some, x_list, wpO_some, x_slT, x_slL, x_addLL, x_addTT, blO_some, x_isi, wp_isiT, x_fld, x_getI, wp_mMeth, wp_mMake, wp_mMt, wp_mLc, wp_mIt, wp_range1, wp_range2, wp_range3, wpS_for, isi_non_bool, isi_non_int, isi_non_str, isi_non_list, isi_non_tuple, isi_non_dict, isi_bl_bool, isi_bl_int, isi_bl_str, isi_bl_list, isi_bl_tuple, isi_bl_dict, isi_int_bool, isi_int_int, isi_int_str, isi_int_list, isi_int_tuple, isi_int_dict, isi_str_bool, isi_str_int, isi_str_str, isi_str_list, isi_str_tuple, isi_str_dict, isi_lst_bool, isi_lst_int, isi_lst_str, isi_lst_list, isi_lst_tuple, isi_lst_dict, isi_src_bool, isi_src_int, isi_src_str, isi_src_list, isi_src_tuple, isi_src_dict, isi_tup_bool, isi_tup_int, isi_tup_str, isi_tup_list, isi_tup_tuple, isi_tup_dict, isi_dct_bool, isi_dct_int, isi_dct_str, isi_dct_list, isi_dct_tuple, isi_dct_dict, g_nm, g_tp2, g_tp3, g_tp4, g_nil, g_cons, List.getElem?_cons_succ, List.getElem?_cons_zero, List.set_cons_succ, List.set_cons_zero, truD, decide_eq_true_eq]
  by_cases q0 : gap = 0
  · rw [if_pos (by omega)]
    simp only [wpS_seq, wpS_gNm, wpS_asg, wpS_ifS, wpS_drop, wpS_ret, wpS_retN, wpS_stF, wpS_augF, wpS_augI, wpS_augV, wpS_par', wpS_par3', wpS_some, wpS_mNx, wpS_mCt, wpS_mBk, kont_rt, kont_ct, kont_bk, fin_rt, fin_nx, wp_mK, wp_v, vO_some, wp_ret, wp_bnd, wp_op, wp_op1, wp_call, wp_fn, wp_cons, wp_nil, wp_tup, wp_lst, wp_obj, wp_oNone, wp_oSome, intO_int, wp_sl, wp_mIf, wp_mAnd, wp_mOr, wp_mNot, wp_mB, wp_mAndV, wp_mOrV, wp_mNotV, wp_mChain, wp_mTru, isBl_bl, truO_some, x_addI, x_addJ, x_sub, x_mod, x_div, x_mul, x_pow, x_shl, x_shr, x_band, x_bor, x_bxor, x_lt, x_le, x_gt, x_ge, x_neg, x_eqI, x_neI, x_eqS, x_neS, x_isN, x_isNN, x_int, x_abs, x_max2, x_min2, x_d1, x_d2, x_mkL, x_mkT, x_mkO, x_mkD, x_mkDo, x_ix, ixO_some, x_len, lenO_some, x_list, wpO_some, x_slT, x_slL, x_addLL, x_addTT, blO_some, x_isi, wp_isiT, x_fld, x_getI, wp_mMeth, wp_mMake, wp_mMt, wp_mLc, wp_mIt, wp_range1, wp_range2, wp_range3, wpS_for, isi_non_bool, isi_non_int, isi_non_str, isi_non_list, isi_non_tuple, isi_non_dict, isi_bl_bool, isi_bl_int, isi_bl_str, isi_bl_list, isi_bl_tuple, isi_bl_dict, isi_int_bool, isi_int_int, isi_int_str, isi_int_list, isi_int_tuple, isi_int_dict, isi_str_bool, isi_str_int, isi_str_str, isi_str_list, isi_str_tuple, isi_str_dict, isi_lst_bool, isi_lst_int, isi_lst_str, isi_lst_list, isi_lst_tuple, isi_lst_dict, isi_src_bool, isi_src_int, isi_src_str, isi_src_list, isi_src_tuple, isi_src_dict, isi_tup_bool, isi_tup_int, isi_tup_str, isi_tup_list, isi_tup_tuple, isi_tup_dict, isi_dct_bool, isi_dct_int, isi_dct_str, isi_dct_list, isi_dct_tuple, isi_dct_dict, g_nm, g_tp2, g_tp3, g_tp4, g_nil, g_cons, List.getElem?_cons_succ, List.getElem?_cons_zero, List.set_cons_succ, List.set_cons_zero, truD, i1]
    rw [w_counted (x := "again") g2 g3 lk_again (by rw [cnt_len]; decide), pt_again]
    exact k0 q0 _ bell' f' (fr.trans (Fr.set (by simp))) ((get_ne (by decide)).trans g2) hlt get_same
  · rw [if_neg (by omega)]
    refine kont_nx ?_
    simp only [wpS_seq, wpS_gNm, wpS_asg, wpS_ifS, wpS_drop, wpS_ret, wpS_retN, wpS_stF, wpS_augF, wpS_augI, wpS_augV, wpS_par', wpS_par3', wpS_some, wpS_mNx, wpS_mCt, wpS_mBk, kont_rt, kont_ct, kont_bk, fin_rt, fin_nx, wp_mK, wp_v, vO_some, wp_ret, wp_bnd, wp_op, wp_op1, wp_call, wp_fn, wp_cons, wp_nil, wp_tup, wp_lst, wp_obj, wp_oNone, wp_oSome, intO_int, wp_sl, wp_mIf, wp_mAnd, wp_mOr, wp_mNot, wp_mB, wp_mAndV, wp_mOrV, wp_mNotV, wp_mChain, wp_mTru, isBl_bl, truO_some, x_addI, x_addJ, x_sub, x_mod, x_div, x_mul, x_pow, x_shl, x_shr, x_band, x_bor, x_bxor, x_lt, x_le, x_gt, x_ge, x_neg, x_eqI, x_neI, x_eqS, x_neS, x_isN, x_isNN, x_int, x_abs, x_max2, x_min2, x_d1, x_d2, x_mkL, x_mkT, x_mkO, x_mkD, x_mkDo, x_ix, ixO_some, x_len, lenO_some, x_list, wpO_some, x_slT, x_slL, x_addLL, x_addTT, blO_some, x_isi, wp_isiT, x_fld, x_getI, wp_mMeth, wp_mMake, wp_mMt, wp_mLc, wp_mIt, wp_range1, wp_range2, wp_range3, wpS_for, isi_non_bool, isi_non_int, isi_non_str, isi_non_list, isi_non_tuple, isi_non_dict, isi_bl_bool, isi_bl_int, isi_bl_str, isi_bl_list, isi_bl_tuple, isi_bl_dict, isi_int_bool, isi_int_int, isi_int_str, isi_int_list, isi_int_tuple, isi_int_dict, isi_str_bool, isi_str_int, isi_str_str, isi_str_list, isi_str_tuple, isi_str_dict, isi_lst_bool, isi_lst_int, isi_lst_str, isi_lst_list, isi_lst_tuple, isi_lst_dict, isi_src_bool, isi_src_int, isi_src_str, isi_src_list, isi_src_tuple, isi_src_dict, isi_tup_bool, isi_tup_int, isi_tup_str, isi_tup_list, isi_tup_tuple, isi_tup_dict, isi_dct_bool, isi_dct_int, isi_dct_str, isi_dct_list, isi_dct_tuple, isi_dct_dict, g_nm, g_tp2, g_tp3, g_tp4, g_nil, g_cons, List.getElem?_cons_succ, List.getElem?_cons_zero, List.set_cons_succ, List.set_cons_zero, truD, decide_eq_true_eq]
    by_cases q1 : gap = 1
    · rw [if_pos (by omega)]
      simp only [wpS_seq, wpS_gNm, wpS_asg, wpS_ifS, wpS_drop, wpS_ret, wpS_retN, wpS_stF, wpS_augF, wpS_augI, wpS_augV, wpS_par', wpS_par3', wpS_some, wpS_mNx, wpS_mCt, wpS_mBk, kont_rt, kont_ct, kont_bk, fin_rt, fin_nx, wp_mK, wp_v, vO_some, wp_ret, wp_bnd, wp_op, wp_op1, wp_call, wp_fn, wp_cons, wp_nil, wp_tup, wp_lst, wp_obj, wp_oNone, wp_oSome, intO_int, wp_sl, wp_mIf, wp_mAnd, wp_mOr, wp_mNot, wp_mB, wp_mAndV, wp_mOrV, wp_mNotV, wp_mChain, wp_mTru, isBl_bl, truO_some, x_addI, x_addJ, x_sub, x_mod, x_div, x_mul, x_pow, x_shl, x_shr, x_band, x_bor, x_bxor, x_lt, x_le, x_gt, x_ge, x_neg, x_eqI, x_neI, x_eqS, x_neS, x_isN, x_isNN, x_int, x_abs, x_max2, x_min2, x_d1, x_d2, x_mkL, x_mkT, x_mkO, x_mkD, x_mkDo, x_ix, ixO_some, x_len, lenO_some, x_list, wpO_some, x_slT, x_slL, x_addLL, x_addTT, blO_some, x_isi, wp_isiT, x_fld, x_getI, wp_mMeth, wp_mMake, wp_mMt, wp_mLc, wp_mIt, wp_range1, wp_range2, wp_range3, wpS_for, isi_non_bool, isi_non_int, isi_non_str, isi_non_list, isi_non_tuple, isi_non_dict, isi_bl_bool, isi_bl_int, isi_bl_str, isi_bl_list, isi_bl_tuple, isi_bl_dict, isi_int_bool, isi_int_int, isi_int_str, isi_int_list, isi_int_tuple, isi_int_dict, isi_str_bool, isi_str_int, isi_str_str, isi_str_list, isi_str_tuple, isi_str_dict, isi_lst_bool, isi_lst_int, isi_lst_str, isi_lst_list, isi_lst_tuple, isi_lst_dict, isi_src_bool, isi_src_int, isi_src_str, isi_src_list, isi_src_tuple, isi_src_dict, isi_tup_bool, isi_tup_int, isi_tup_str, isi_tup_list, isi_tup_tuple, isi_tup_dict, isi_dct_bool, isi_dct_int, isi_dct_str, isi_dct_list, isi_dct_tuple, isi_dct_dict, g_nm, g_tp2, g_tp3, g_tp4, g_nil, g_cons, List.getElem?_cons_succ, List.getElem?_cons_zero, List.set_cons_succ, List.set_cons_zero, truD, i1]
      rw [w_good (a := .int (x : Int)) (b := .int (c : Int)) (r := nn ds) (x := "fine") (lst_rd ho1.1) ho2 (by rw [nn_len]; omega) g2 g3 lk_fine (by rw [cnt_len]; decide), pt_fine]
      exact k1 q1 _ f' (fr.trans ((Fr.set (by simp)).trans (Fr.set (by simp)))) ((get_ne (by decide)).trans get_same) get_same
    · rw [if_neg (by omega)]
      refine kont_nx ?_
      simp only [wpS_seq, wpS_gNm, wpS_asg, wpS_ifS, wpS_drop, wpS_ret, wpS_retN, wpS_stF, wpS_augF, wpS_augI, wpS_augV, wpS_par', wpS_par3', wpS_some, wpS_mNx, wpS_mCt, wpS_mBk, kont_rt, kont_ct, kont_bk, fin_rt, fin_nx, wp_mK, wp_v, vO_some, wp_ret, wp_bnd, wp_op, wp_op1, wp_call, wp_fn, wp_cons, wp_nil, wp_tup, wp_lst, wp_obj, wp_oNone, wp_oSome, intO_int, wp_sl, wp_mIf, wp_mAnd, wp_mOr, wp_mNot, wp_mB, wp_mAndV, wp_mOrV, wp_mNotV, wp_mChain, wp_mTru, isBl_bl, truO_some, x_addI, x_addJ, x_sub, x_mod, x_div, x_mul, x_pow, x_shl, x_shr, x_band, x_bor, x_bxor, x_lt, x_le, x_gt, x_ge, x_neg, x_eqI, x_neI, x_eqS, x_neS, x_isN, x_isNN, x_int, x_abs, x_max2, x_min2, x_d1, x_d2, x_mkL, x_mkT, x_mkO, x_mkD, x_mkDo, x_ix, ixO_some, x_len, lenO_some, x_list, wpO_some, x_slT, x_slL, x_addLL, x_addTT, blO_some, x_isi, wp_isiT, x_fld, x_getI, wp_mMeth, wp_mMake, wp_mMt, wp_mLc, wp_mIt, wp_range1, wp_range2, wp_range3, wpS_for, isi_non_bool, isi_non_int, isi_non_str, isi_non_list, isi_non_tuple, isi_non_dict, isi_bl_bool, isi_bl_int, isi_bl_str, isi_bl_list, isi_bl_tuple, isi_bl_dict, isi_int_bool, isi_int_int, isi_int_str, isi_int_list, isi_int_tuple, isi_int_dict, isi_str_bool, isi_str_int, isi_str_str, isi_str_list, isi_str_tuple, isi_str_dict, isi_lst_bool, isi_lst_int, isi_lst_str, isi_lst_list, isi_lst_tuple, isi_lst_dict, isi_src_bool, isi_src_int, isi_src_str, isi_src_list, isi_src_tuple, isi_src_dict, isi_tup_bool, isi_tup_int, isi_tup_str, isi_tup_list, isi_tup_tuple, isi_tup_dict, isi_dct_bool, isi_dct_int, isi_dct_str, isi_dct_list, isi_dct_tuple, isi_dct_dict, g_nm, g_tp2, g_tp3, g_tp4, g_nil, g_cons, List.getElem?_cons_succ, List.getElem?_cons_zero, List.set_cons_succ, List.set_cons_zero, truD, i1, decide_eq_true_eq]
      rw [if_pos (by omega)]
      refine ⟨small_of (by simp), ?_⟩
      rw [w_good (a := .int (x : Int)) (b := .int (c : Int)) (r := nn ds) (x := "lost") (lst_rd ho1.1) ho2 (by rw [nn_len]; omega) g2 g3 lk_lost (by rw [cnt_len]; decide), pt_lost]
      exact k2 (by omega) _ f' (fr.trans ((Fr.set (by simp)).trans (Fr.set (by simp)))) ((get_ne (by decide)).trans get_same) get_same
end
end G82
namespace G82
open PySem L2 Mi Gu
theorem q_draws : m__law_draws = mDraws := rfl
theorem q_draw : m__law_draw = mDraw := rfl
theorem q_same : ∀ n, m__law_same n = mSame n
  | 0 => rfl
  | n + 1 => by
    unfold m__law_same mSame
    rw [q_same n] <;> rfl
/-- what stands between two turns of the law's loop -/
structure Wo (S : MS) (kk wc : Nat) (rn bell : Int) (ctr last : D) (C U : List (Key × D)) : Prop where
  nx : 5 ≤ S.nx
  dr : DrO S 0
  wr : WrO S 1 kk wc
  rd : S.get 2 = some (rdr kk rn ctr last bell)
  cn : S.get 3 = some (.dk C)
  du : S.get 4 = some (.dk U)
section
variable {S S' : MS} {kk wc : Nat} {rn bell : Int} {ctr last : D} {C U : List (Key × D)}
theorem Wo.draw (w : Wo S kk wc rn bell ctr last C U) (d : Dr 0 S S') : Wo S' kk wc rn bell ctr last C U :=
  ⟨by rw [d.nx]; exact w.nx, d.dr, (d.ne 1 (by decide)).trans w.wr, (d.ne 2 (by decide)).trans w.rd, (d.ne 3 (by decide)).trans w.cn, (d.ne 4 (by decide)).trans w.du⟩
theorem Wo.read {rn' bell' : Int} {ctr' last' : D} {C' : List (Key × D)} (w : Wo S kk wc rn bell ctr last C U) (f : Fr [2, 3] S S') (g2 : S'.get 2 = some (rdr kk rn' ctr' last' bell')) (g3 : S'.get 3 = some (.dk C')) : Wo S' kk wc rn' bell' ctr' last' C' U := by
  have hx := w.nx
  refine ⟨Nat.le_trans w.nx f.nx, ?_, (f.ne 1 (by omega) (by decide)).trans w.wr, g2, g3, (f.ne 4 (by omega) (by decide)).trans w.du⟩
  obtain ⟨ds, g, hd⟩ := w.dr
  exact ⟨ds, (f.ne 0 (by omega) (by decide)).trans g, hd⟩
theorem Wo.due {U' : List (Key × D)} (w : Wo S kk wc rn bell ctr last C U) : Wo (S.set 4 (.dk U')) kk wc rn bell ctr last C U' := by
  refine ⟨w.nx, ?_, (get_ne (by decide)).trans w.wr, (get_ne (by decide)).trans w.rd, (get_ne (by decide)).trans w.cn, get_same⟩
  obtain ⟨ds, g, hd⟩ := w.dr
  exact ⟨ds, (get_ne (by decide)).trans g, hd⟩
theorem Wo.write {wc' : Nat} (w : Wo S kk wc rn bell ctr last C U) : Wo (S.set 1 (.ins c_Writer [.int kk, .int wc'])) kk wc' rn bell ctr last C U := by
  refine ⟨w.nx, ?_, get_same, (get_ne (by decide)).trans w.rd, (get_ne (by decide)).trans w.cn, (get_ne (by decide)).trans w.du⟩
  obtain ⟨ds, g, hd⟩ := w.dr
  exact ⟨ds, (get_ne (by decide)).trans g, hd⟩
theorem Wo.new {o : MO} (w : Wo S kk wc rn bell ctr last C U) : Wo (S.add o) kk wc rn bell ctr last C U := by
  have hx := w.nx
  have g : ∀ k, k < 5 → (S.add o).get k = S.get k := fun k hk => if_neg (by omega)
  refine ⟨by rw [nx_add]; omega, ?_, (g 1 (by decide)).trans w.wr, (g 2 (by decide)).trans w.rd, (g 3 (by decide)).trans w.cn, (g 4 (by decide)).trans w.du⟩
  obtain ⟨ds, e, hd⟩ := w.dr
  exact ⟨ds, (g 0 (by decide)).trans e, hd⟩
theorem Wo.other {n : Nat} {o : MO} (w : Wo S kk wc rn bell ctr last C U) (hn : 5 ≤ n) : Wo (S.set n o) kk wc rn bell ctr last C U := by
  refine ⟨w.nx, ?_, (get_ne (by omega)).trans w.wr, (get_ne (by omega)).trans w.rd, (get_ne (by omega)).trans w.cn, (get_ne (by omega)).trans w.du⟩
  obtain ⟨ds, e, hd⟩ := w.dr
  exact ⟨ds, (get_ne (by omega)).trans e, hd⟩
end
/-- the loop's invariant -/
def LI (ns : List Int) (kk i : Nat) (env : En) (S : MS) : Prop := ∃ (wc gone : Nat) (now rn bell a b cc e f : Int) (first : Bool) (ctr last : D) (o10 o11 o12 o13 o14 o15 o16 o17 o18 o19 : Option D),
  env = [some (.src (ns.map D.int)), some (.obj 0), some (.int (kk : Int)), some (.obj 1), some (.obj 2), some (.int now), some (.obj 4), some (.int (gone : Int)), some (.bl first), some last, o10, o11, o12, o13, o14, o15, o16, o17, o18, o19] ∧
  Wo S kk wc rn bell ctr last (cnt a b cc 0 e f) (cnt a b cc 0 e 0) ∧ wc ≤ 14 ∧ gone ≤ 13 ∧ rn ≤ now ∧ now ≤ 49 * i ∧ 0 ≤ bell ∧ 0 ≤ rn ∧
  ((first = true ∧ ctr = .non ∧ last = .non) ∨ (first = false ∧ ∃ (rc : Nat) (ds : List Nat), ctr = .int (rc : Int) ∧ rc ≤ 14 ∧ ((wc : Int) - rc - 1 - gone) % 15 = 0 ∧ last = .lst (nn ds) ∧ ds.length ≤ 6))
theorem kont_eq {b : MSt} {R : Fl → Prop} {env : En} {S : MS} : kont b R (.nx env S) = wpS (b env S) R := propext Iff.rfl
theorem same_nn {S : MS} {k : Nat} {d : List Nat} (h : d.length ≤ 16777216) : mSame (k + 2) [.lst (nn d), .lst (nn d)] S = some (.ok (.bl true) S) := by
  refine same_at (.inr (.inr (.inr (.inr (.inl ⟨nn d, nn d, rfl, rfl, rfl, by rw [nn_len]; exact h, fun i x y hx hy => ?_⟩)))))
  rw [hx] at hy
  cases hy
  unfold nn at hx
  rw [List.getElem?_map] at hx
  cases e : d[i]? with
  | none => rw [e] at hx; cases hx
  | some n =>
    rw [e] at hx
    cases hx
    exact .inr (.inr (.inl ⟨_, rfl, rfl⟩))
theorem same_str {S : MS} {k : Nat} {x : Str} : mSame (k + 1) [.str x, .str x] S = some (.ok (.bl true) S) := same_at (.inr (.inr (.inr (.inl ⟨_, rfl, rfl⟩))))
/-- the end of a turn -/
def tailS : MSt := (mSeq (mPar3 7 8 9 (mCons (mK (.int 0)) (mCons (mK (.bl false)) (mCons (mV 11) mNil))))
  (mSeq (mIfS (mB (mOp dEq (mV 13) (mK (.int 9)))) (mSeq (mAsg (mOp (dAdd mkL) (mOp dIx (mV 6) (mK (.str ("again" : Str)))) (mK (.int 1))) (gIx (mV 6) (mK (.str ("again" : Str)))))
  (mIfS (mNot (mTru (mCall (mSame 12) (mCons (mMeth c_Reader m_Reader_take (mV 4) (mCons (mV 12) (mCons (mV 5) mNil))) (mCons (mK (.str ("again" : Str))) mNil))))) (mRet (mK (.bl false))) mNx)) mNx)
  (mIfS (mNot (mTru (mCall (mSame 12) (mCons (mMeth c_Reader m_Reader_data (mV 4) mNil) (mCons (mV 9) mNil))))) (mRet (mK (.bl false))) mNx)))
theorem tail_ok {ns : List Int} {kk wc i : Nat} {S : MS} {now bell a b cc e f kind : Int} {data : List Nat} {x7 x8 x9 x10 o14 o15 o16 o17 o18 o19 : Option D} {R : Fl → Prop} (W : Wo S kk ((wc + 1) % 15) now bell (.int (wc : Int)) (.lst (nn data)) (cnt a b cc 0 e f) (cnt a b cc 0 e 0)) (hkk : kk ≤ 65535) (hwc : wc ≤ 14) (hdb : ∀ n ∈ data, n < 256) (hdl : data.length ≤ 6)
    (hnow : now ≤ 49 * (i + 1 : Nat)) (hi : i ≤ 80) (hn0 : 0 ≤ now) (hbell : 0 ≤ bell) (k : ∀ env S, LI ns kk (i + 1) env S → R (.nx env S)) :
    wpS (tailS [some (.src (ns.map D.int)), some (.obj 0), some (.int (kk : Int)), some (.obj 1), some (.obj 2), some (.int now), some (.obj 4), x7, x8, x9, x10, some (.lst (nn data)), some (.lst (nn (crc (wc :: (data ++ [kk / 256, kk % 256])) :: wc :: data))), some (.int kind), o14, o15, o16, o17, o18, o19] S) R := by
  unfold tailS
  simp only [wpS_seq, wpS_gNm, wpS_asg, wpS_ifS, wpS_drop, wpS_ret, wpS_retN, wpS_stF, wpS_augF, wpS_augI, wpS_augV, wpS_par', wpS_par3', wpS_some, wpS_mNx, wpS_mCt, wpS_mBk, kont_rt, kont_ct, kont_bk, fin_rt, fin_nx, wp_mK, wp_v, vO_some, wp_ret, wp_bnd, wp_op, wp_op1, wp_call, wp_fn, wp_cons, wp_nil, wp_tup, wp_lst, wp_obj, wp_oNone, wp_oSome, intO_int, wp_sl, wp_mIf, wp_mAnd, wp_mOr, wp_mNot, wp_mB, wp_mAndV, wp_mOrV, wp_mNotV, wp_mChain, wp_mTru, isBl_bl, truO_some, x_addI, x_addJ, x_sub, x_mod, x_div, x_mul, x_pow, x_shl, x_shr, x_band, x_bor, x_bxor, x_lt, x_le, x_gt, x_ge, x_neg, x_eqI, x_neI, x_eqS, x_neS, x_isN, x_isNN, x_int, x_abs, x_max2, x_min2, x_d1, x_d2, x_mkL, x_mkT, x_mkO, x_mkD, x_mkDo, x_ix, ixO_some, x_len, lenO_some, x_list, wpO_some, x_slT, x_slL, x_addLL, x_addTT, blO_some, x_isi, wp_isiT, x_fld, x_getI, wp_mMeth, wp_mMake, wp_mMt, wp_mLc, wp_mIt, wp_range1, wp_range2, wp_range3, wpS_for, isi_non_bool, isi_non_int, isi_non_str, isi_non_list, isi_non_tuple, isi_non_dict, isi_bl_bool, isi_bl_int, isi_bl_str, isi_bl_list, isi_bl_tuple, isi_bl_dict, isi_int_bool, isi_int_int, isi_int_str, isi_int_list, isi_int_tuple, isi_int_dict, isi_str_bool, isi_str_int, isi_str_str, isi_str_list, isi_str_tuple, isi_str_dict, isi_lst_bool, isi_lst_int, isi_lst_str, isi_lst_list, isi_lst_tuple, isi_lst_dict, isi_src_bool, isi_src_int, isi_src_str, isi_src_list, isi_src_tuple, isi_src_dict, isi_tup_bool, isi_tup_int, isi_tup_str, isi_tup_list, isi_tup_tuple, isi_tup_dict, isi_dct_bool, isi_dct_int, isi_dct_str, isi_dct_list, isi_dct_tuple, isi_dct_dict, g_nm, g_tp2, g_tp3, g_tp4, g_nil, g_cons, List.getElem?_cons_succ, List.getElem?_cons_zero, List.set_cons_succ, List.set_cons_zero, truD]
  refine kont_nx ?_
  have hgd := gd_lt (wc := wc) (kk := kk) hdb hwc hkk
  have hxg : gd data wc kk = crc (wc :: (data ++ [kk / 256, kk % 256])) :: wc :: data := rfl
  rw [hxg] at hgd
  simp only [wpS_seq, wpS_gNm, wpS_asg, wpS_ifS, wpS_drop, wpS_ret, wpS_retN, wpS_stF, wpS_augF, wpS_augI, wpS_augV, wpS_par', wpS_par3', wpS_some, wpS_mNx, wpS_mCt, wpS_mBk, kont_rt, kont_ct, kont_bk, fin_rt, fin_nx, wp_mK, wp_v, vO_some, wp_ret, wp_bnd, wp_op, wp_op1, wp_call, wp_fn, wp_cons, wp_nil, wp_tup, wp_lst, wp_obj, wp_oNone, wp_oSome, intO_int, wp_sl, wp_mIf, wp_mAnd, wp_mOr, wp_mNot, wp_mB, wp_mAndV, wp_mOrV, wp_mNotV, wp_mChain, wp_mTru, isBl_bl, truO_some, x_addI, x_addJ, x_sub, x_mod, x_div, x_mul, x_pow, x_shl, x_shr, x_band, x_bor, x_bxor, x_lt, x_le, x_gt, x_ge, x_neg, x_eqI, x_neI, x_eqS, x_neS, x_isN, x_isNN, x_int, x_abs, x_max2, x_min2, x_d1, x_d2, x_mkL, x_mkT, x_mkO, x_mkD, x_mkDo, x_ix, ixO_some, x_len, lenO_some, x_list, wpO_some, x_slT, x_slL, x_addLL, x_addTT, blO_some, x_isi, wp_isiT, x_fld, x_getI, wp_mMeth, wp_mMake, wp_mMt, wp_mLc, wp_mIt, wp_range1, wp_range2, wp_range3, wpS_for, isi_non_bool, isi_non_int, isi_non_str, isi_non_list, isi_non_tuple, isi_non_dict, isi_bl_bool, isi_bl_int, isi_bl_str, isi_bl_list, isi_bl_tuple, isi_bl_dict, isi_int_bool, isi_int_int, isi_int_str, isi_int_list, isi_int_tuple, isi_int_dict, isi_str_bool, isi_str_int, isi_str_str, isi_str_list, isi_str_tuple, isi_str_dict, isi_lst_bool, isi_lst_int, isi_lst_str, isi_lst_list, isi_lst_tuple, isi_lst_dict, isi_src_bool, isi_src_int, isi_src_str, isi_src_list, isi_src_tuple, isi_src_dict, isi_tup_bool, isi_tup_int, isi_tup_str, isi_tup_list, isi_tup_tuple, isi_tup_dict, isi_dct_bool, isi_dct_int, isi_dct_str, isi_dct_list, isi_dct_tuple, isi_dct_dict, g_nm, g_tp2, g_tp3, g_tp4, g_nil, g_cons, List.getElem?_cons_succ, List.getElem?_cons_zero, List.set_cons_succ, List.set_cons_zero, truD, decide_eq_true_eq]
  have fin : ∀ {S : MS} {bell cc f : Int}, Wo S kk ((wc + 1) % 15) now bell (.int (wc : Int)) (.lst (nn data)) (cnt a b cc 0 e f) (cnt a b cc 0 e 0) → 0 ≤ bell → wpS (mIfS (mNot (mTru (mCall (mSame 12) (mCons (mMeth c_Reader m_Reader_data (mV 4) mNil) (mCons (mV 9) mNil))))) (mRet (mK (.bl false))) mNx
      [some (.src (ns.map D.int)), some (.obj 0), some (.int (kk : Int)), some (.obj 1), some (.obj 2), some (.int now), some (.obj 4), some (.int 0), some (.bl false), some (.lst (nn data)), x10, some (.lst (nn data)), some (.lst (nn (crc (wc :: (data ++ [kk / 256, kk % 256])) :: wc :: data))), some (.int kind), o14, o15, o16, o17, o18, o19] S) R := by
    intro S bell cc f W hb
    simp only [wpS_seq, wpS_gNm, wpS_asg, wpS_ifS, wpS_drop, wpS_ret, wpS_retN, wpS_stF, wpS_augF, wpS_augI, wpS_augV, wpS_par', wpS_par3', wpS_some, wpS_mNx, wpS_mCt, wpS_mBk, kont_rt, kont_ct, kont_bk, fin_rt, fin_nx, wp_mK, wp_v, vO_some, wp_ret, wp_bnd, wp_op, wp_op1, wp_call, wp_fn, wp_cons, wp_nil, wp_tup, wp_lst, wp_obj, wp_oNone, wp_oSome, intO_int, wp_sl, wp_mIf, wp_mAnd, wp_mOr, wp_mNot, wp_mB, wp_mAndV, wp_mOrV, wp_mNotV, wp_mChain, wp_mTru, isBl_bl, truO_some, x_addI, x_addJ, x_sub, x_mod, x_div, x_mul, x_pow, x_shl, x_shr, x_band, x_bor, x_bxor, x_lt, x_le, x_gt, x_ge, x_neg, x_eqI, x_neI, x_eqS, x_neS, x_isN, x_isNN, x_int, x_abs, x_max2, x_min2, x_d1, x_d2, x_mkL, x_mkT, x_mkO, x_mkD, x_mkDo, x_ix, ixO_some, x_len, lenO_some, x_list, wpO_some, x_slT, x_slL, x_addLL, x_addTT, blO_some, x_isi, wp_isiT, x_fld, x_getI, wp_mMeth, wp_mMake, wp_mMt, wp_mLc, wp_mIt, wp_range1, wp_range2, wp_range3, wpS_for, isi_non_bool, isi_non_int, isi_non_str, isi_non_list, isi_non_tuple, isi_non_dict, isi_bl_bool, isi_bl_int, isi_bl_str, isi_bl_list, isi_bl_tuple, isi_bl_dict, isi_int_bool, isi_int_int, isi_int_str, isi_int_list, isi_int_tuple, isi_int_dict, isi_str_bool, isi_str_int, isi_str_str, isi_str_list, isi_str_tuple, isi_str_dict, isi_lst_bool, isi_lst_int, isi_lst_str, isi_lst_list, isi_lst_tuple, isi_lst_dict, isi_src_bool, isi_src_int, isi_src_str, isi_src_list, isi_src_tuple, isi_src_dict, isi_tup_bool, isi_tup_int, isi_tup_str, isi_tup_list, isi_tup_tuple, isi_tup_dict, isi_dct_bool, isi_dct_int, isi_dct_str, isi_dct_list, isi_dct_tuple, isi_dct_dict, g_nm, g_tp2, g_tp3, g_tp4, g_nil, g_cons, List.getElem?_cons_succ, List.getElem?_cons_zero, List.set_cons_succ, List.set_cons_zero, truD, ins_obj W.rd]
    rw [x_data W.rd (by rw [nn_len]; omega), wp_of (same_nn (k := 10) (by omega))]
    simp only [wpS_seq, wpS_gNm, wpS_asg, wpS_ifS, wpS_drop, wpS_ret, wpS_retN, wpS_stF, wpS_augF, wpS_augI, wpS_augV, wpS_par', wpS_par3', wpS_some, wpS_mNx, wpS_mCt, wpS_mBk, kont_rt, kont_ct, kont_bk, fin_rt, fin_nx, wp_mK, wp_v, vO_some, wp_ret, wp_bnd, wp_op, wp_op1, wp_call, wp_fn, wp_cons, wp_nil, wp_tup, wp_lst, wp_obj, wp_oNone, wp_oSome, intO_int, wp_sl, wp_mIf, wp_mAnd, wp_mOr, wp_mNot, wp_mB, wp_mAndV, wp_mOrV, wp_mNotV, wp_mChain, wp_mTru, isBl_bl, truO_some, x_addI, x_addJ, x_sub, x_mod, x_div, x_mul, x_pow, x_shl, x_shr, x_band, x_bor, x_bxor, x_lt, x_le, x_gt, x_ge, x_neg, x_eqI, x_neI, x_eqS, x_neS, x_isN, x_isNN, x_int, x_abs, x_max2, x_min2, x_d1, x_d2, x_mkL, x_mkT, x_mkO, x_mkD, x_mkDo, x_ix, ixO_some, x_len, lenO_some, x_list, wpO_some, x_slT, x_slL, x_addLL, x_addTT, blO_some, x_isi, wp_isiT, x_fld, x_getI, wp_mMeth, wp_mMake, wp_mMt, wp_mLc, wp_mIt, wp_range1, wp_range2, wp_range3, wpS_for, isi_non_bool, isi_non_int, isi_non_str, isi_non_list, isi_non_tuple, isi_non_dict, isi_bl_bool, isi_bl_int, isi_bl_str, isi_bl_list, isi_bl_tuple, isi_bl_dict, isi_int_bool, isi_int_int, isi_int_str, isi_int_list, isi_int_tuple, isi_int_dict, isi_str_bool, isi_str_int, isi_str_str, isi_str_list, isi_str_tuple, isi_str_dict, isi_lst_bool, isi_lst_int, isi_lst_str, isi_lst_list, isi_lst_tuple, isi_lst_dict, isi_src_bool, isi_src_int, isi_src_str, isi_src_list, isi_src_tuple, isi_src_dict, isi_tup_bool, isi_tup_int, isi_tup_str, isi_tup_list, isi_tup_tuple, isi_tup_dict, isi_dct_bool, isi_dct_int, isi_dct_str, isi_dct_list, isi_dct_tuple, isi_dct_dict, g_nm, g_tp2, g_tp3, g_tp4, g_nil, g_cons, List.getElem?_cons_succ, List.getElem?_cons_zero, List.set_cons_succ, List.set_cons_zero, truD, Bool.not_true, if_false, Bool.false_eq_true]
    exact k _ S ⟨(wc + 1) % 15, 0, now, now, bell, a, b, cc, e, f, false, .int (wc : Int), .lst (nn data), _, _, _, _, _, _, _, _, _, _, rfl, W, by omega, by omega, Int.le_refl _, hnow, hb, hn0, .inr ⟨rfl, wc, data, rfl, hwc, by omega, rfl, hdl⟩⟩
  by_cases c9 : kind = 9
  · rw [if_pos c9]
    simp only [wpS_seq, wpS_gNm, wpS_asg, wpS_ifS, wpS_drop, wpS_ret, wpS_retN, wpS_stF, wpS_augF, wpS_augI, wpS_augV, wpS_par', wpS_par3', wpS_some, wpS_mNx, wpS_mCt, wpS_mBk, kont_rt, kont_ct, kont_bk, fin_rt, fin_nx, wp_mK, wp_v, vO_some, wp_ret, wp_bnd, wp_op, wp_op1, wp_call, wp_fn, wp_cons, wp_nil, wp_tup, wp_lst, wp_obj, wp_oNone, wp_oSome, intO_int, wp_sl, wp_mIf, wp_mAnd, wp_mOr, wp_mNot, wp_mB, wp_mAndV, wp_mOrV, wp_mNotV, wp_mChain, wp_mTru, isBl_bl, truO_some, x_addI, x_addJ, x_sub, x_mod, x_div, x_mul, x_pow, x_shl, x_shr, x_band, x_bor, x_bxor, x_lt, x_le, x_gt, x_ge, x_neg, x_eqI, x_neI, x_eqS, x_neS, x_isN, x_isNN, x_int, x_abs, x_max2, x_min2, x_d1, x_d2, x_mkL, x_mkT, x_mkO, x_mkD, x_mkDo, x_ix, ixO_some, x_len, lenO_some, x_list, wpO_some, x_slT, x_slL, x_addLL, x_addTT, blO_some, x_isi, wp_isiT, x_fld, x_getI, wp_mMeth, wp_mMake, wp_mMt, wp_mLc, wp_mIt, wp_range1, wp_range2, wp_range3, wpS_for, isi_non_bool, isi_non_int, isi_non_str, isi_non_list, isi_non_tuple, isi_non_dict, isi_bl_bool, isi_bl_int, isi_bl_str, isi_bl_list, isi_bl_tuple, isi_bl_dict, isi_int_bool, isi_int_int, isi_int_str, isi_int_list, isi_int_tuple, isi_int_dict, isi_str_bool, isi_str_int, isi_str_str, isi_str_list, isi_str_tuple, isi_str_dict, isi_lst_bool, isi_lst_int, isi_lst_str, isi_lst_list, isi_lst_tuple, isi_lst_dict, isi_src_bool, isi_src_int, isi_src_str, isi_src_list, isi_src_tuple, isi_src_dict, isi_tup_bool, isi_tup_int, isi_tup_str, isi_tup_list, isi_tup_tuple, isi_tup_dict, isi_dct_bool, isi_dct_int, isi_dct_str, isi_dct_list, isi_dct_tuple, isi_dct_dict, g_nm, g_tp2, g_tp3, g_tp4, g_nil, g_cons, List.getElem?_cons_succ, List.getElem?_cons_zero, List.set_cons_succ, List.set_cons_zero, truD, ixAt_dk W.du, lk_again, wpO_gIx, dSet_dk W.du (by rw [cnt_len]; decide), pt_again]
    refine kont_nx ?_
    have W2 := W.due (U' := cnt a b (cc + 1) 0 e 0)
    generalize S.set 4 (.dk (cnt a b (cc + 1) 0 e 0)) = S2 at W2 ⊢
    simp only [wpS_seq, wpS_gNm, wpS_asg, wpS_ifS, wpS_drop, wpS_ret, wpS_retN, wpS_stF, wpS_augF, wpS_augI, wpS_augV, wpS_par', wpS_par3', wpS_some, wpS_mNx, wpS_mCt, wpS_mBk, kont_rt, kont_ct, kont_bk, fin_rt, fin_nx, wp_mK, wp_v, vO_some, wp_ret, wp_bnd, wp_op, wp_op1, wp_call, wp_fn, wp_cons, wp_nil, wp_tup, wp_lst, wp_obj, wp_oNone, wp_oSome, intO_int, wp_sl, wp_mIf, wp_mAnd, wp_mOr, wp_mNot, wp_mB, wp_mAndV, wp_mOrV, wp_mNotV, wp_mChain, wp_mTru, isBl_bl, truO_some, x_addI, x_addJ, x_sub, x_mod, x_div, x_mul, x_pow, x_shl, x_shr, x_band, x_bor, x_bxor, x_lt, x_le, x_gt, x_ge, x_neg, x_eqI, x_neI, x_eqS, x_neS, x_isN, x_isNN, x_int, x_abs, x_max2, x_min2, x_d1, x_d2, x_mkL, x_mkT, x_mkO, x_mkD, x_mkDo, x_ix, ixO_some, x_len, lenO_some, x_list, wpO_some, x_slT, x_slL, x_addLL, x_addTT, blO_some, x_isi, wp_isiT, x_fld, x_getI, wp_mMeth, wp_mMake, wp_mMt, wp_mLc, wp_mIt, wp_range1, wp_range2, wp_range3, wpS_for, isi_non_bool, isi_non_int, isi_non_str, isi_non_list, isi_non_tuple, isi_non_dict, isi_bl_bool, isi_bl_int, isi_bl_str, isi_bl_list, isi_bl_tuple, isi_bl_dict, isi_int_bool, isi_int_int, isi_int_str, isi_int_list, isi_int_tuple, isi_int_dict, isi_str_bool, isi_str_int, isi_str_str, isi_str_list, isi_str_tuple, isi_str_dict, isi_lst_bool, isi_lst_int, isi_lst_str, isi_lst_list, isi_lst_tuple, isi_lst_dict, isi_src_bool, isi_src_int, isi_src_str, isi_src_list, isi_src_tuple, isi_src_dict, isi_tup_bool, isi_tup_int, isi_tup_str, isi_tup_list, isi_tup_tuple, isi_tup_dict, isi_dct_bool, isi_dct_int, isi_dct_str, isi_dct_list, isi_dct_tuple, isi_dct_dict, g_nm, g_tp2, g_tp3, g_tp4, g_nil, g_cons, List.getElem?_cons_succ, List.getElem?_cons_zero, List.set_cons_succ, List.set_cons_zero, truD, ins_obj W2.rd]
    have hx2 := W2.nx
    refine w_take_next (gap := 0) hkk W2.rd W2.cn (by omega) (Int.le_refl _) (by omega) ⟨rfl, fun k hk => by cases hk⟩ (fun k hk => by cases hk) hgd hdl ⟨hwc, rfl⟩ (by omega) (by omega) (fun _ S3 bell3 f3 fr gA hlt gB => ?_) (fun z => by omega) (fun z => by omega)
    have W3 := W2.read fr gA gB
    rw [wp_of (same_str (k := 11))]
    simp only [wpS_seq, wpS_gNm, wpS_asg, wpS_ifS, wpS_drop, wpS_ret, wpS_retN, wpS_stF, wpS_augF, wpS_augI, wpS_augV, wpS_par', wpS_par3', wpS_some, wpS_mNx, wpS_mCt, wpS_mBk, kont_rt, kont_ct, kont_bk, fin_rt, fin_nx, wp_mK, wp_v, vO_some, wp_ret, wp_bnd, wp_op, wp_op1, wp_call, wp_fn, wp_cons, wp_nil, wp_tup, wp_lst, wp_obj, wp_oNone, wp_oSome, intO_int, wp_sl, wp_mIf, wp_mAnd, wp_mOr, wp_mNot, wp_mB, wp_mAndV, wp_mOrV, wp_mNotV, wp_mChain, wp_mTru, isBl_bl, truO_some, x_addI, x_addJ, x_sub, x_mod, x_div, x_mul, x_pow, x_shl, x_shr, x_band, x_bor, x_bxor, x_lt, x_le, x_gt, x_ge, x_neg, x_eqI, x_neI, x_eqS, x_neS, x_isN, x_isNN, x_int, x_abs, x_max2, x_min2, x_d1, x_d2, x_mkL, x_mkT, x_mkO, x_mkD, x_mkDo, x_ix, ixO_some, x_len, lenO_some, x_list, wpO_some, x_slT, x_slL, x_addLL, x_addTT, blO_some, x_isi, wp_isiT, x_fld, x_getI, wp_mMeth, wp_mMake, wp_mMt, wp_mLc, wp_mIt, wp_range1, wp_range2, wp_range3, wpS_for, isi_non_bool, isi_non_int, isi_non_str, isi_non_list, isi_non_tuple, isi_non_dict, isi_bl_bool, isi_bl_int, isi_bl_str, isi_bl_list, isi_bl_tuple, isi_bl_dict, isi_int_bool, isi_int_int, isi_int_str, isi_int_list, isi_int_tuple, isi_int_dict, isi_str_bool, isi_str_int, isi_str_str, isi_str_list, isi_str_tuple, isi_str_dict, isi_lst_bool, isi_lst_int, isi_lst_str, isi_lst_list, isi_lst_tuple, isi_lst_dict, isi_src_bool, isi_src_int, isi_src_str, isi_src_list, isi_src_tuple, isi_src_dict, isi_tup_bool, isi_tup_int, isi_tup_str, isi_tup_list, isi_tup_tuple, isi_tup_dict, isi_dct_bool, isi_dct_int, isi_dct_str, isi_dct_list, isi_dct_tuple, isi_dct_dict, g_nm, g_tp2, g_tp3, g_tp4, g_nil, g_cons, List.getElem?_cons_succ, List.getElem?_cons_zero, List.set_cons_succ, List.set_cons_zero, truD, Bool.not_true, if_false, Bool.false_eq_true]
    exact kont_nx (fin W3 (by omega))
  · rw [if_neg c9]
    exact kont_nx (fin W hbell)
def stA : MSt := (mSeq (mAsg (mOp (dAdd mkL) (mV 7) (mK (.int 1))) (gNm 7))
  (mSeq (mIfS (mB (mOp dEq (mV 13) (mK (.int 0)))) (mSeq (mAsg (mFn (d1 (dList mkO)) (mCons (mV 12) mNil)) (gNm 14))
  (mSeq (mAsg (mCall m__law_draw (mCons (mV 1) (mCons (mOp dMul (mK (.int 8)) (mFn (d1 dLen) (mCons (mV 14) mNil))) mNil))) (gNm 15))
  (mSeq (mAsg (mOp dBxor (mOp dIx (mV 14) (mOp dDiv (mV 15) (mK (.int 8)))) (mOp dShl (mK (.int 1)) (mOp dMod (mFn (d1 dInt) (mCons (mV 15) mNil)) (mK (.int 8))))) (gIx (mV 14) (mOp dDiv (mV 15) (mK (.int 8)))))
  (mSeq (mAsg (mOp (dAdd mkL) (mOp dIx (mV 6) (mK (.str ("changed" : Str)))) (mK (.int 1))) (gIx (mV 6) (mK (.str ("changed" : Str)))))
  (mSeq (mDrop (mMeth c_Reader m_Reader_go_on (mV 4) (mCons (mV 5) mNil)))
  (mIfS (mNot (mTru (mCall (m__law_same 12) (mCons (mMeth c_Reader m_Reader_take (mV 4) (mCons (mV 14) (mCons (mV 5) mNil))) (mCons (mK (.str ("changed" : Str))) mNil))))) (mRet (mK (.bl false))) mNx)))))) mNx)
  mCt))
def stB : MSt := (mSeq (mAsg (mMeth c_Reader m_Reader_take (mV 4) (mCons (mV 12) (mCons (mV 5) mNil))) (gNm 16))
  (mSeq (mAsg (mIf (mOr (mTru (mV 8)) (mB (mOp dEq (mV 7) (mK (.int 0))))) (mK (.str ("fine" : Str))) (mTup (mCons (mK (.str ("lost" : Str))) (mCons (mV 7) mNil)))) (gNm 17))
  (mSeq (mIfS (mNot (mTru (mCall (m__law_same 12) (mCons (mV 16) (mCons (mV 17) mNil))))) (mRet (mK (.bl false))) mNx)
  (mSeq (mAsg (mOp (dAdd mkL) (mOp dIx (mV 6) (mIf (mB (mOp dEq (mV 17) (mK (.str ("fine" : Str))))) (mK (.str ("fine" : Str))) (mK (.str ("lost" : Str))))) (mK (.int 1))) (gIx (mV 6) (mIf (mB (mOp dEq (mV 17) (mK (.str ("fine" : Str))))) (mK (.str ("fine" : Str))) (mK (.str ("lost" : Str))))))
  (mSeq (mPar3 7 8 9 (mCons (mK (.int 0)) (mCons (mK (.bl false)) (mCons (mV 11) mNil))))
  (mSeq (mIfS (mB (mOp dEq (mV 13) (mK (.int 9)))) (mSeq (mAsg (mOp (dAdd mkL) (mOp dIx (mV 6) (mK (.str ("again" : Str)))) (mK (.int 1))) (gIx (mV 6) (mK (.str ("again" : Str)))))
  (mIfS (mNot (mTru (mCall (m__law_same 12) (mCons (mMeth c_Reader m_Reader_take (mV 4) (mCons (mV 12) (mCons (mV 5) mNil))) (mCons (mK (.str ("again" : Str))) mNil))))) (mRet (mK (.bl false))) mNx)) mNx)
  (mIfS (mNot (mTru (mCall (m__law_same 12) (mCons (mMeth c_Reader m_Reader_data (mV 4) mNil) (mCons (mV 9) mNil))))) (mRet (mK (.bl false))) mNx)))))))
theorem turnA {ns : List Int} {kk i wc gone : Nat} {S5 : MS} {now rn bell a b cc e f w kind : Int} {first : Bool} {ctr last : D} {data : List Nat} {x10 o14 o15 o16 o17 o18 o19 : Option D} {R : Fl → Prop} (W5 : Wo S5 kk ((wc + 1) % 15) rn bell ctr last (cnt a b cc 0 e f) (cnt a b cc 0 e 0)) (hkk : kk ≤ 65535) (hwc : wc ≤ 14) (hgone : gone ≤ 13) (hrn : rn ≤ now) (hnow : now ≤ 49 * i) (hbell : 0 ≤ bell) (hrn0 : 0 ≤ rn) (w0 : 1 ≤ w) (w1 : w ≤ 49) (hi80 : i ≤ 80) (hdb : ∀ n ∈ data, n < 256) (hdl : data.length ≤ 6)
    (hst : (first = true ∧ ctr = .non ∧ last = .non) ∨ (first = false ∧ ∃ (rc : Nat) (ds : List Nat), ctr = .int (rc : Int) ∧ rc ≤ 14 ∧ ((wc : Int) - rc - 1 - gone) % 15 = 0 ∧ last = .lst (nn ds) ∧ ds.length ≤ 6)) (hg13 : (gone : Int) < 13) (k : ∀ env S, LI ns kk (i + 1) env S → R (.ct env S)) :
    wpS (stA [some (.src (ns.map D.int)), some (.obj 0), some (.int (kk : Int)), some (.obj 1), some (.obj 2), some (.int (now + w)), some (.obj 4), some (.int (gone : Int)), some (.bl first), some last, x10, some (.lst (nn data)), some (.lst (nn (gd data wc kk))), some (.int kind), o14, o15, o16, o17, o18, o19] S5) R := by
  have hgd := gd_lt (wc := wc) (kk := kk) hdb hwc hkk
  have hgl : (nn (gd data wc kk)).length = data.length + 2 := by rw [nn_len, gd_len]
  unfold stA
  simp only [wpS_seq, wpS_gNm, wpS_asg, wpS_ifS, wpS_drop, wpS_ret, wpS_retN, wpS_stF, wpS_augF, wpS_augI, wpS_augV, wpS_par', wpS_par3', wpS_some, wpS_mNx, wpS_mCt, wpS_mBk, kont_rt, kont_ct, kont_bk, fin_rt, fin_nx, wp_mK, wp_v, vO_some, wp_ret, wp_bnd, wp_op, wp_op1, wp_call, wp_fn, wp_cons, wp_nil, wp_tup, wp_lst, wp_obj, wp_oNone, wp_oSome, intO_int, wp_sl, wp_mIf, wp_mAnd, wp_mOr, wp_mNot, wp_mB, wp_mAndV, wp_mOrV, wp_mNotV, wp_mChain, wp_mTru, isBl_bl, truO_some, x_addI, x_addJ, x_sub, x_mod, x_div, x_mul, x_pow, x_shl, x_shr, x_band, x_bor, x_bxor, x_lt, x_le, x_gt, x_ge, x_neg, x_eqI, x_neI, x_eqS, x_neS, x_isN, x_isNN, x_int, x_abs, x_max2, x_min2, x_d1, x_d2, x_mkL, x_mkT, x_mkO, x_mkD, x_mkDo, x_ix, ixO_some, x_len, lenO_some, x_list, wpO_some, x_slT, x_slL, x_addLL, x_addTT, blO_some, x_isi, wp_isiT, x_fld, x_getI, wp_mMeth, wp_mMake, wp_mMt, wp_mLc, wp_mIt, wp_range1, wp_range2, wp_range3, wpS_for, isi_non_bool, isi_non_int, isi_non_str, isi_non_list, isi_non_tuple, isi_non_dict, isi_bl_bool, isi_bl_int, isi_bl_str, isi_bl_list, isi_bl_tuple, isi_bl_dict, isi_int_bool, isi_int_int, isi_int_str, isi_int_list, isi_int_tuple, isi_int_dict, isi_str_bool, isi_str_int, isi_str_str, isi_str_list, isi_str_tuple, isi_str_dict, isi_lst_bool, isi_lst_int, isi_lst_str, isi_lst_list, isi_lst_tuple, isi_lst_dict, isi_src_bool, isi_src_int, isi_src_str, isi_src_list, isi_src_tuple, isi_src_dict, isi_tup_bool, isi_tup_int, isi_tup_str, isi_tup_list, isi_tup_tuple, isi_tup_dict, isi_dct_bool, isi_dct_int, isi_dct_str, isi_dct_list, isi_dct_tuple, isi_dct_dict, g_nm, g_tp2, g_tp3, g_tp4, g_nil, g_cons, List.getElem?_cons_succ, List.getElem?_cons_zero, List.set_cons_succ, List.set_cons_zero, truD]
  refine kont_nx ?_
  simp only [wpS_seq, wpS_gNm, wpS_asg, wpS_ifS, wpS_drop, wpS_ret, wpS_retN, wpS_stF, wpS_augF, wpS_augI, wpS_augV, wpS_par', wpS_par3', wpS_some, wpS_mNx, wpS_mCt, wpS_mBk, kont_rt, kont_ct, kont_bk, fin_rt, fin_nx, wp_mK, wp_v, vO_some, wp_ret, wp_bnd, wp_op, wp_op1, wp_call, wp_fn, wp_cons, wp_nil, wp_tup, wp_lst, wp_obj, wp_oNone, wp_oSome, intO_int, wp_sl, wp_mIf, wp_mAnd, wp_mOr, wp_mNot, wp_mB, wp_mAndV, wp_mOrV, wp_mNotV, wp_mChain, wp_mTru, isBl_bl, truO_some, x_addI, x_addJ, x_sub, x_mod, x_div, x_mul, x_pow, x_shl, x_shr, x_band, x_bor, x_bxor, x_lt, x_le, x_gt, x_ge, x_neg, x_eqI, x_neI, x_eqS, x_neS, x_isN, x_isNN, x_int, x_abs, x_max2, x_min2, x_d1, x_d2, x_mkL, x_mkT, x_mkO, x_mkD, x_mkDo, x_ix, ixO_some, x_len, lenO_some, x_list, wpO_some, x_slT, x_slL, x_addLL, x_addTT, blO_some, x_isi, wp_isiT, x_fld, x_getI, wp_mMeth, wp_mMake, wp_mMt, wp_mLc, wp_mIt, wp_range1, wp_range2, wp_range3, wpS_for, isi_non_bool, isi_non_int, isi_non_str, isi_non_list, isi_non_tuple, isi_non_dict, isi_bl_bool, isi_bl_int, isi_bl_str, isi_bl_list, isi_bl_tuple, isi_bl_dict, isi_int_bool, isi_int_int, isi_int_str, isi_int_list, isi_int_tuple, isi_int_dict, isi_str_bool, isi_str_int, isi_str_str, isi_str_list, isi_str_tuple, isi_str_dict, isi_lst_bool, isi_lst_int, isi_lst_str, isi_lst_list, isi_lst_tuple, isi_lst_dict, isi_src_bool, isi_src_int, isi_src_str, isi_src_list, isi_src_tuple, isi_src_dict, isi_tup_bool, isi_tup_int, isi_tup_str, isi_tup_list, isi_tup_tuple, isi_tup_dict, isi_dct_bool, isi_dct_int, isi_dct_str, isi_dct_list, isi_dct_tuple, isi_dct_dict, g_nm, g_tp2, g_tp3, g_tp4, g_nil, g_cons, List.getElem?_cons_succ, List.getElem?_cons_zero, List.set_cons_succ, List.set_cons_zero, truD, decide_eq_true_eq]
  by_cases ck0 : kind = 0
  · rw [if_pos ck0]
    simp only [wpS_seq, wpS_gNm, wpS_asg, wpS_ifS, wpS_drop, wpS_ret, wpS_retN, wpS_stF, wpS_augF, wpS_augI, wpS_augV, wpS_par', wpS_par3', wpS_some, wpS_mNx, wpS_mCt, wpS_mBk, kont_rt, kont_ct, kont_bk, fin_rt, fin_nx, wp_mK, wp_v, vO_some, wp_ret, wp_bnd, wp_op, wp_op1, wp_call, wp_fn, wp_cons, wp_nil, wp_tup, wp_lst, wp_obj, wp_oNone, wp_oSome, intO_int, wp_sl, wp_mIf, wp_mAnd, wp_mOr, wp_mNot, wp_mB, wp_mAndV, wp_mOrV, wp_mNotV, wp_mChain, wp_mTru, isBl_bl, truO_some, x_addI, x_addJ, x_sub, x_mod, x_div, x_mul, x_pow, x_shl, x_shr, x_band, x_bor, x_bxor, x_lt, x_le, x_gt, x_ge, x_neg, x_eqI, x_neI, x_eqS, x_neS, x_isN, x_isNN, x_int, x_abs, x_max2, x_min2, x_d1, x_d2, x_mkL, x_mkT, x_mkO, x_mkD, x_mkDo, x_ix, ixO_some, x_len, lenO_some, x_list, wpO_some, x_slT, x_slL, x_addLL, x_addTT, blO_some, x_isi, wp_isiT, x_fld, x_getI, wp_mMeth, wp_mMake, wp_mMt, wp_mLc, wp_mIt, wp_range1, wp_range2, wp_range3, wpS_for, isi_non_bool, isi_non_int, isi_non_str, isi_non_list, isi_non_tuple, isi_non_dict, isi_bl_bool, isi_bl_int, isi_bl_str, isi_bl_list, isi_bl_tuple, isi_bl_dict, isi_int_bool, isi_int_int, isi_int_str, isi_int_list, isi_int_tuple, isi_int_dict, isi_str_bool, isi_str_int, isi_str_str, isi_str_list, isi_str_tuple, isi_str_dict, isi_lst_bool, isi_lst_int, isi_lst_str, isi_lst_list, isi_lst_tuple, isi_lst_dict, isi_src_bool, isi_src_int, isi_src_str, isi_src_list, isi_src_tuple, isi_src_dict, isi_tup_bool, isi_tup_int, isi_tup_str, isi_tup_list, isi_tup_tuple, isi_tup_dict, isi_dct_bool, isi_dct_int, isi_dct_str, isi_dct_list, isi_dct_tuple, isi_dct_dict, g_nm, g_tp2, g_tp3, g_tp4, g_nil, g_cons, List.getElem?_cons_succ, List.getElem?_cons_zero, List.set_cons_succ, List.set_cons_zero, truD, dctOf, seqOf, lstOf]
    refine ⟨small_of (by rw [hgl]; omega), kont_nx ?_⟩
    have g6 : (S5.add (.lst (nn (gd data wc kk)))).get S5.nx = some (.lst (nn (gd data wc kk))) := if_pos rfl
    have W6 := W5.new (o := .lst (nn (gd data wc kk)))
    have n5 : 5 ≤ S5.nx := W5.nx
    have n6 : S5.nx < (S5.add (.lst (nn (gd data wc kk)))).nx := Nat.lt_succ_self _
    generalize S5.add (.lst (nn (gd data wc kk))) = S6 at g6 W6 n6 ⊢
    generalize S5.nx = n at g6 n5 n6 ⊢
    have hl6 : lenB S6 (.obj n) = some ((data.length + 2 : Nat) : Int) := by
      rw [len_lst (ds := nn (gd data wc kk)) (by unfold lstOf; dsimp only; rw [g6]), hgl]
    simp only [wpS_seq, wpS_gNm, wpS_asg, wpS_ifS, wpS_drop, wpS_ret, wpS_retN, wpS_stF, wpS_augF, wpS_augI, wpS_augV, wpS_par', wpS_par3', wpS_some, wpS_mNx, wpS_mCt, wpS_mBk, kont_rt, kont_ct, kont_bk, fin_rt, fin_nx, wp_mK, wp_v, vO_some, wp_ret, wp_bnd, wp_op, wp_op1, wp_call, wp_fn, wp_cons, wp_nil, wp_tup, wp_lst, wp_obj, wp_oNone, wp_oSome, intO_int, wp_sl, wp_mIf, wp_mAnd, wp_mOr, wp_mNot, wp_mB, wp_mAndV, wp_mOrV, wp_mNotV, wp_mChain, wp_mTru, isBl_bl, truO_some, x_addI, x_addJ, x_sub, x_mod, x_div, x_mul, x_pow, x_shl, x_shr, x_band, x_bor, x_bxor, x_lt, x_le, x_gt, x_ge, x_neg, x_eqI, x_neI, x_eqS, x_neS, x_isN, x_isNN, x_int, x_abs, x_max2, x_min2, x_d1, x_d2, x_mkL, x_mkT, x_mkO, x_mkD, x_mkDo, x_ix, ixO_some, x_len, lenO_some, x_list, wpO_some, x_slT, x_slL, x_addLL, x_addTT, blO_some, x_isi, wp_isiT, x_fld, x_getI, wp_mMeth, wp_mMake, wp_mMt, wp_mLc, wp_mIt, wp_range1, wp_range2, wp_range3, wpS_for, isi_non_bool, isi_non_int, isi_non_str, isi_non_list, isi_non_tuple, isi_non_dict, isi_bl_bool, isi_bl_int, isi_bl_str, isi_bl_list, isi_bl_tuple, isi_bl_dict, isi_int_bool, isi_int_int, isi_int_str, isi_int_list, isi_int_tuple, isi_int_dict, isi_str_bool, isi_str_int, isi_str_str, isi_str_list, isi_str_tuple, isi_str_dict, isi_lst_bool, isi_lst_int, isi_lst_str, isi_lst_list, isi_lst_tuple, isi_lst_dict, isi_src_bool, isi_src_int, isi_src_str, isi_src_list, isi_src_tuple, isi_src_dict, isi_tup_bool, isi_tup_int, isi_tup_str, isi_tup_list, isi_tup_tuple, isi_tup_dict, isi_dct_bool, isi_dct_int, isi_dct_str, isi_dct_list, isi_dct_tuple, isi_dct_dict, g_nm, g_tp2, g_tp3, g_tp4, g_nil, g_cons, List.getElem?_cons_succ, List.getElem?_cons_zero, List.set_cons_succ, List.set_cons_zero, truD, hl6]
    refine ⟨?_, ?_⟩
    · unfold dMulC
      simp only [Bool.or_eq_true, Bool.and_eq_true, decide_eq_true_eq]
      omega
    refine draw_at W6.dr (by omega) (by omega) fun v S7 v0 v1 dr7 => kont_nx ?_
    obtain ⟨p, rfl⟩ := Int.eq_ofNat_of_zero_le v0
    have W7 := W6.draw dr7
    have g7 : S7.get n = some (.lst (nn (gd data wc kk))) := (dr7.ne n (by omega)).trans g6
    have n7 : n < S7.nx := by rw [dr7.nx]; exact n6
    have hp : p / 8 < (gd data wc kk).length := by rw [gd_len]; omega
    have e8 : (p : Int) / 8 = ((p / 8 : Nat) : Int) := by omega
    have e9 : (p : Int) % 8 = ((p % 8 : Nat) : Int) := by omega
    have hpow : (1 : Int) * 2 ^ ((p % 8 : Nat) : Int).toNat = ((2 ^ (p % 8) : Nat) : Int) := by
      rw [Int.toNat_natCast]
      simp
    have hat : atI (nn (gd data wc kk)) ((p / 8 : Nat) : Int) = some (.int (((gd data wc kk)[p / 8] : Nat) : Int)) := by
      rw [at_nat (by rw [nn_len]; exact hp)]
      unfold nn
      rw [List.getElem_map]
    have hsh : dPowC 1 ((p % 8 : Nat) : Int) = true := small_ok 1 (by decide) (p % 8) (by omega)
    have c8 : ((0 : Int) < 8) = True := eq_true (by decide)
    have c8b : ((8 : Int) < 1073741824) = True := eq_true (by decide)
    have hix : ixN (nn (gd data wc kk)).length ((p / 8 : Nat) : Int) = some (p / 8) := by
      unfold ixN
      rw [if_pos (by omega), if_pos (by rw [nn_len]; omega), Int.toNat_natCast]
    simp only [wpS_seq, wpS_gNm, wpS_asg, wpS_ifS, wpS_drop, wpS_ret, wpS_retN, wpS_stF, wpS_augF, wpS_augI, wpS_augV, wpS_par', wpS_par3', wpS_some, wpS_mNx, wpS_mCt, wpS_mBk, kont_rt, kont_ct, kont_bk, fin_rt, fin_nx, wp_mK, wp_v, vO_some, wp_ret, wp_bnd, wp_op, wp_op1, wp_call, wp_fn, wp_cons, wp_nil, wp_tup, wp_lst, wp_obj, wp_oNone, wp_oSome, intO_int, wp_sl, wp_mIf, wp_mAnd, wp_mOr, wp_mNot, wp_mB, wp_mAndV, wp_mOrV, wp_mNotV, wp_mChain, wp_mTru, isBl_bl, truO_some, x_addI, x_addJ, x_sub, x_mod, x_div, x_mul, x_pow, x_shl, x_shr, x_band, x_bor, x_bxor, x_lt, x_le, x_gt, x_ge, x_neg, x_eqI, x_neI, x_eqS, x_neS, x_isN, x_isNN, x_int, x_abs, x_max2, x_min2, x_d1, x_d2, x_mkL, x_mkT, x_mkO, x_mkD, x_mkDo, x_ix, ixO_some, x_len, lenO_some, x_list, wpO_some, x_slT, x_slL, x_addLL, x_addTT, blO_some, x_isi, wp_isiT, x_fld, x_getI, wp_mMeth, wp_mMake, wp_mMt, wp_mLc, wp_mIt, wp_range1, wp_range2, wp_range3, wpS_for, isi_non_bool, isi_non_int, isi_non_str, isi_non_list, isi_non_tuple, isi_non_dict, isi_bl_bool, isi_bl_int, isi_bl_str, isi_bl_list, isi_bl_tuple, isi_bl_dict, isi_int_bool, isi_int_int, isi_int_str, isi_int_list, isi_int_tuple, isi_int_dict, isi_str_bool, isi_str_int, isi_str_str, isi_str_list, isi_str_tuple, isi_str_dict, isi_lst_bool, isi_lst_int, isi_lst_str, isi_lst_list, isi_lst_tuple, isi_lst_dict, isi_src_bool, isi_src_int, isi_src_str, isi_src_list, isi_src_tuple, isi_src_dict, isi_tup_bool, isi_tup_int, isi_tup_str, isi_tup_list, isi_tup_tuple, isi_tup_dict, isi_dct_bool, isi_dct_int, isi_dct_str, isi_dct_list, isi_dct_tuple, isi_dct_dict, g_nm, g_tp2, g_tp3, g_tp4, g_nil, g_cons, List.getElem?_cons_succ, List.getElem?_cons_zero, List.set_cons_succ, List.set_cons_zero, truD, e8, e9, ixAt_objI g7, hat, hpow, hsh, c8, c8b, true_and, bx, wpO_gIx, dSet_lst g7 hix]
    refine kont_nx ?_
    have hv : 0 < 2 ^ (p % 8) := Nat.pow_pos (by decide)
    have hv2 : 2 ^ (p % 8) < 256 := Nat.lt_of_lt_of_le (Nat.pow_lt_pow_right (by decide) (Nat.mod_lt p (by decide))) (by decide)
    obtain ⟨bx0, bc, bds, hbe, hbl, hbb, hbad⟩ := flip_bad hdb hwc hkk hp hv hv2
    have e10 : (nn (gd data wc kk)).set (p / 8) (.int (((gd data wc kk)[p / 8] ^^^ 2 ^ (p % 8) : Nat) : Int)) = nn (bx0 :: bc :: bds) := by
      rw [← hbe]
      unfold nn
      rw [List.map_set]
    rw [e10]
    have W8 := W7.other (n := n) (o := .lst (nn (bx0 :: bc :: bds))) n5
    have g8 : (S7.set n (.lst (nn (bx0 :: bc :: bds)))).get n = some (.lst (nn (bx0 :: bc :: bds))) := get_same
    have n8 : n < (S7.set n (.lst (nn (bx0 :: bc :: bds)))).nx := n7
    generalize S7.set n (.lst (nn (bx0 :: bc :: bds))) = S8 at W8 g8 n8 ⊢
    simp only [wpS_seq, wpS_gNm, wpS_asg, wpS_ifS, wpS_drop, wpS_ret, wpS_retN, wpS_stF, wpS_augF, wpS_augI, wpS_augV, wpS_par', wpS_par3', wpS_some, wpS_mNx, wpS_mCt, wpS_mBk, kont_rt, kont_ct, kont_bk, fin_rt, fin_nx, wp_mK, wp_v, vO_some, wp_ret, wp_bnd, wp_op, wp_op1, wp_call, wp_fn, wp_cons, wp_nil, wp_tup, wp_lst, wp_obj, wp_oNone, wp_oSome, intO_int, wp_sl, wp_mIf, wp_mAnd, wp_mOr, wp_mNot, wp_mB, wp_mAndV, wp_mOrV, wp_mNotV, wp_mChain, wp_mTru, isBl_bl, truO_some, x_addI, x_addJ, x_sub, x_mod, x_div, x_mul, x_pow, x_shl, x_shr, x_band, x_bor, x_bxor, x_lt, x_le, x_gt, x_ge, x_neg, x_eqI, x_neI, x_eqS, x_neS, x_isN, x_isNN, x_int, x_abs, x_max2, x_min2, x_d1, x_d2, x_mkL, x_mkT, x_mkO, x_mkD, x_mkDo, x_ix, ixO_some, x_len, lenO_some, x_list, wpO_some, x_slT, x_slL, x_addLL, x_addTT, blO_some, x_isi, wp_isiT, x_fld, x_getI, wp_mMeth, wp_mMake, wp_mMt, wp_mLc, wp_mIt, wp_range1, wp_range2, wp_range3, wpS_for, isi_non_bool, isi_non_int, isi_non_str, isi_non_list, isi_non_tuple, isi_non_dict, isi_bl_bool, isi_bl_int, isi_bl_str, isi_bl_list, isi_bl_tuple, isi_bl_dict, isi_int_bool, isi_int_int, isi_int_str, isi_int_list, isi_int_tuple, isi_int_dict, isi_str_bool, isi_str_int, isi_str_str, isi_str_list, isi_str_tuple, isi_str_dict, isi_lst_bool, isi_lst_int, isi_lst_str, isi_lst_list, isi_lst_tuple, isi_lst_dict, isi_src_bool, isi_src_int, isi_src_str, isi_src_list, isi_src_tuple, isi_src_dict, isi_tup_bool, isi_tup_int, isi_tup_str, isi_tup_list, isi_tup_tuple, isi_tup_dict, isi_dct_bool, isi_dct_int, isi_dct_str, isi_dct_list, isi_dct_tuple, isi_dct_dict, g_nm, g_tp2, g_tp3, g_tp4, g_nil, g_cons, List.getElem?_cons_succ, List.getElem?_cons_zero, List.set_cons_succ, List.set_cons_zero, truD, ixAt_dk W8.du, lk_changed, wpO_gIx, dSet_dk W8.du (by rw [cnt_len]; decide), pt_changed]
    refine kont_nx ?_
    have W9 := W8.due (U' := cnt a b cc 0 (e + 1) 0)
    have g9 : (S8.set 4 (.dk (cnt a b cc 0 (e + 1) 0))).get n = some (.lst (nn (bx0 :: bc :: bds))) := (get_ne (by omega)).trans g8
    have n9 : n < (S8.set 4 (.dk (cnt a b cc 0 (e + 1) 0))).nx := n8
    generalize S8.set 4 (.dk (cnt a b cc 0 (e + 1) 0)) = S9 at W9 g9 n9 ⊢
    simp only [wpS_seq, wpS_gNm, wpS_asg, wpS_ifS, wpS_drop, wpS_ret, wpS_retN, wpS_stF, wpS_augF, wpS_augI, wpS_augV, wpS_par', wpS_par3', wpS_some, wpS_mNx, wpS_mCt, wpS_mBk, kont_rt, kont_ct, kont_bk, fin_rt, fin_nx, wp_mK, wp_v, vO_some, wp_ret, wp_bnd, wp_op, wp_op1, wp_call, wp_fn, wp_cons, wp_nil, wp_tup, wp_lst, wp_obj, wp_oNone, wp_oSome, intO_int, wp_sl, wp_mIf, wp_mAnd, wp_mOr, wp_mNot, wp_mB, wp_mAndV, wp_mOrV, wp_mNotV, wp_mChain, wp_mTru, isBl_bl, truO_some, x_addI, x_addJ, x_sub, x_mod, x_div, x_mul, x_pow, x_shl, x_shr, x_band, x_bor, x_bxor, x_lt, x_le, x_gt, x_ge, x_neg, x_eqI, x_neI, x_eqS, x_neS, x_isN, x_isNN, x_int, x_abs, x_max2, x_min2, x_d1, x_d2, x_mkL, x_mkT, x_mkO, x_mkD, x_mkDo, x_ix, ixO_some, x_len, lenO_some, x_list, wpO_some, x_slT, x_slL, x_addLL, x_addTT, blO_some, x_isi, wp_isiT, x_fld, x_getI, wp_mMeth, wp_mMake, wp_mMt, wp_mLc, wp_mIt, wp_range1, wp_range2, wp_range3, wpS_for, isi_non_bool, isi_non_int, isi_non_str, isi_non_list, isi_non_tuple, isi_non_dict, isi_bl_bool, isi_bl_int, isi_bl_str, isi_bl_list, isi_bl_tuple, isi_bl_dict, isi_int_bool, isi_int_int, isi_int_str, isi_int_list, isi_int_tuple, isi_int_dict, isi_str_bool, isi_str_int, isi_str_str, isi_str_list, isi_str_tuple, isi_str_dict, isi_lst_bool, isi_lst_int, isi_lst_str, isi_lst_list, isi_lst_tuple, isi_lst_dict, isi_src_bool, isi_src_int, isi_src_str, isi_src_list, isi_src_tuple, isi_src_dict, isi_tup_bool, isi_tup_int, isi_tup_str, isi_tup_list, isi_tup_tuple, isi_tup_dict, isi_dct_bool, isi_dct_int, isi_dct_str, isi_dct_list, isi_dct_tuple, isi_dct_dict, g_nm, g_tp2, g_tp3, g_tp4, g_nil, g_cons, List.getElem?_cons_succ, List.getElem?_cons_zero, List.set_cons_succ, List.set_cons_zero, truD, ins_obj W9.rd]
    have hx9 := W9.nx
    refine w_go_on W9.rd W9.cn (by omega) (by omega) (by omega) fun S10 v bell1 f1 fr10 gA gB hlt1 _ => kont_nx ?_
    have W10 := W9.read fr10 gA gB
    have g10 : S10.get n = some (.lst (nn (bx0 :: bc :: bds))) := (fr10.ne n n9 (by simp; omega)).trans g9
    have n10 : n < S10.nx := Nat.lt_of_lt_of_le n9 fr10.nx
    have hx10 := W10.nx
    simp only [wpS_seq, wpS_gNm, wpS_asg, wpS_ifS, wpS_drop, wpS_ret, wpS_retN, wpS_stF, wpS_augF, wpS_augI, wpS_augV, wpS_par', wpS_par3', wpS_some, wpS_mNx, wpS_mCt, wpS_mBk, kont_rt, kont_ct, kont_bk, fin_rt, fin_nx, wp_mK, wp_v, vO_some, wp_ret, wp_bnd, wp_op, wp_op1, wp_call, wp_fn, wp_cons, wp_nil, wp_tup, wp_lst, wp_obj, wp_oNone, wp_oSome, intO_int, wp_sl, wp_mIf, wp_mAnd, wp_mOr, wp_mNot, wp_mB, wp_mAndV, wp_mOrV, wp_mNotV, wp_mChain, wp_mTru, isBl_bl, truO_some, x_addI, x_addJ, x_sub, x_mod, x_div, x_mul, x_pow, x_shl, x_shr, x_band, x_bor, x_bxor, x_lt, x_le, x_gt, x_ge, x_neg, x_eqI, x_neI, x_eqS, x_neS, x_isN, x_isNN, x_int, x_abs, x_max2, x_min2, x_d1, x_d2, x_mkL, x_mkT, x_mkO, x_mkD, x_mkDo, x_ix, ixO_some, x_len, lenO_some, x_list, wpO_some, x_slT, x_slL, x_addLL, x_addTT, blO_some, x_isi, wp_isiT, x_fld, x_getI, wp_mMeth, wp_mMake, wp_mMt, wp_mLc, wp_mIt, wp_range1, wp_range2, wp_range3, wpS_for, isi_non_bool, isi_non_int, isi_non_str, isi_non_list, isi_non_tuple, isi_non_dict, isi_bl_bool, isi_bl_int, isi_bl_str, isi_bl_list, isi_bl_tuple, isi_bl_dict, isi_int_bool, isi_int_int, isi_int_str, isi_int_list, isi_int_tuple, isi_int_dict, isi_str_bool, isi_str_int, isi_str_str, isi_str_list, isi_str_tuple, isi_str_dict, isi_lst_bool, isi_lst_int, isi_lst_str, isi_lst_list, isi_lst_tuple, isi_lst_dict, isi_src_bool, isi_src_int, isi_src_str, isi_src_list, isi_src_tuple, isi_src_dict, isi_tup_bool, isi_tup_int, isi_tup_str, isi_tup_list, isi_tup_tuple, isi_tup_dict, isi_dct_bool, isi_dct_int, isi_dct_str, isi_dct_list, isi_dct_tuple, isi_dct_dict, g_nm, g_tp2, g_tp3, g_tp4, g_nil, g_cons, List.getElem?_cons_succ, List.getElem?_cons_zero, List.set_cons_succ, List.set_cons_zero, truD, ins_obj W10.rd, q_same]
    have un : Un S10 (.obj n) (nn (bx0 :: bc :: bds)) := ⟨by unfold lstRd; dsimp only; rw [g10], fun k hk => by cases hk; exact g10⟩
    refine w_take_bad hkk W10.rd W10.cn (by omega) (Int.le_refl _) (by omega) un (fun k hk => by cases hk; exact ⟨n10, by simp; omega⟩) hbb (by omega) hbad fun S11 bell2 f2 fr11 gC gD hlt2 => ?_
    have W11 := W10.read fr11 gC gD
    rw [wp_of (same_at (k := 12) (S := S11) (x := .str "changed") (y := .str "changed") (.inr (.inr (.inr (.inl ⟨_, rfl, rfl⟩)))))]
    simp only [wpS_seq, wpS_gNm, wpS_asg, wpS_ifS, wpS_drop, wpS_ret, wpS_retN, wpS_stF, wpS_augF, wpS_augI, wpS_augV, wpS_par', wpS_par3', wpS_some, wpS_mNx, wpS_mCt, wpS_mBk, kont_rt, kont_ct, kont_bk, fin_rt, fin_nx, wp_mK, wp_v, vO_some, wp_ret, wp_bnd, wp_op, wp_op1, wp_call, wp_fn, wp_cons, wp_nil, wp_tup, wp_lst, wp_obj, wp_oNone, wp_oSome, intO_int, wp_sl, wp_mIf, wp_mAnd, wp_mOr, wp_mNot, wp_mB, wp_mAndV, wp_mOrV, wp_mNotV, wp_mChain, wp_mTru, isBl_bl, truO_some, x_addI, x_addJ, x_sub, x_mod, x_div, x_mul, x_pow, x_shl, x_shr, x_band, x_bor, x_bxor, x_lt, x_le, x_gt, x_ge, x_neg, x_eqI, x_neI, x_eqS, x_neS, x_isN, x_isNN, x_int, x_abs, x_max2, x_min2, x_d1, x_d2, x_mkL, x_mkT, x_mkO, x_mkD, x_mkDo, x_ix, ixO_some, x_len, lenO_some, x_list, wpO_some, x_slT, x_slL, x_addLL, x_addTT, blO_some, x_isi, wp_isiT, x_fld, x_getI, wp_mMeth, wp_mMake, wp_mMt, wp_mLc, wp_mIt, wp_range1, wp_range2, wp_range3, wpS_for, isi_non_bool, isi_non_int, isi_non_str, isi_non_list, isi_non_tuple, isi_non_dict, isi_bl_bool, isi_bl_int, isi_bl_str, isi_bl_list, isi_bl_tuple, isi_bl_dict, isi_int_bool, isi_int_int, isi_int_str, isi_int_list, isi_int_tuple, isi_int_dict, isi_str_bool, isi_str_int, isi_str_str, isi_str_list, isi_str_tuple, isi_str_dict, isi_lst_bool, isi_lst_int, isi_lst_str, isi_lst_list, isi_lst_tuple, isi_lst_dict, isi_src_bool, isi_src_int, isi_src_str, isi_src_list, isi_src_tuple, isi_src_dict, isi_tup_bool, isi_tup_int, isi_tup_str, isi_tup_list, isi_tup_tuple, isi_tup_dict, isi_dct_bool, isi_dct_int, isi_dct_str, isi_dct_list, isi_dct_tuple, isi_dct_dict, g_nm, g_tp2, g_tp3, g_tp4, g_nil, g_cons, List.getElem?_cons_succ, List.getElem?_cons_zero, List.set_cons_succ, List.set_cons_zero, truD, Bool.not_true, if_false, Bool.false_eq_true]
    refine kont_nx ?_
    simp only [wpS_seq, wpS_gNm, wpS_asg, wpS_ifS, wpS_drop, wpS_ret, wpS_retN, wpS_stF, wpS_augF, wpS_augI, wpS_augV, wpS_par', wpS_par3', wpS_some, wpS_mNx, wpS_mCt, wpS_mBk, kont_rt, kont_ct, kont_bk, fin_rt, fin_nx, wp_mK, wp_v, vO_some, wp_ret, wp_bnd, wp_op, wp_op1, wp_call, wp_fn, wp_cons, wp_nil, wp_tup, wp_lst, wp_obj, wp_oNone, wp_oSome, intO_int, wp_sl, wp_mIf, wp_mAnd, wp_mOr, wp_mNot, wp_mB, wp_mAndV, wp_mOrV, wp_mNotV, wp_mChain, wp_mTru, isBl_bl, truO_some, x_addI, x_addJ, x_sub, x_mod, x_div, x_mul, x_pow, x_shl, x_shr, x_band, x_bor, x_bxor, x_lt, x_le, x_gt, x_ge, x_neg, x_eqI, x_neI, x_eqS, x_neS, x_isN, x_isNN, x_int, x_abs, x_max2, x_min2, x_d1, x_d2, x_mkL, x_mkT, x_mkO, x_mkD, x_mkDo, x_ix, ixO_some, x_len, lenO_some, x_list, wpO_some, x_slT, x_slL, x_addLL, x_addTT, blO_some, x_isi, wp_isiT, x_fld, x_getI, wp_mMeth, wp_mMake, wp_mMt, wp_mLc, wp_mIt, wp_range1, wp_range2, wp_range3, wpS_for, isi_non_bool, isi_non_int, isi_non_str, isi_non_list, isi_non_tuple, isi_non_dict, isi_bl_bool, isi_bl_int, isi_bl_str, isi_bl_list, isi_bl_tuple, isi_bl_dict, isi_int_bool, isi_int_int, isi_int_str, isi_int_list, isi_int_tuple, isi_int_dict, isi_str_bool, isi_str_int, isi_str_str, isi_str_list, isi_str_tuple, isi_str_dict, isi_lst_bool, isi_lst_int, isi_lst_str, isi_lst_list, isi_lst_tuple, isi_lst_dict, isi_src_bool, isi_src_int, isi_src_str, isi_src_list, isi_src_tuple, isi_src_dict, isi_tup_bool, isi_tup_int, isi_tup_str, isi_tup_list, isi_tup_tuple, isi_tup_dict, isi_dct_bool, isi_dct_int, isi_dct_str, isi_dct_list, isi_dct_tuple, isi_dct_dict, g_nm, g_tp2, g_tp3, g_tp4, g_nil, g_cons, List.getElem?_cons_succ, List.getElem?_cons_zero, List.set_cons_succ, List.set_cons_zero, truD]
    refine k _ _ ⟨(wc + 1) % 15, gone + 1, now + w, now + w, bell2, a, b, cc, e + 1, f2, first, ctr, last, _, _, _, _, _, _, _, _, _, _, rfl, W11, by omega, by omega, Int.le_refl _, by omega, by omega, by omega, ?_⟩
    rcases hst with h | ⟨h1, rc, ds, h2, h3, h4, h5, h6⟩
    · exact .inl h
    · exact .inr ⟨h1, rc, ds, h2, h3, by omega, h5, h6⟩
  · rw [if_neg ck0]
    refine kont_nx ?_
    simp only [wpS_seq, wpS_gNm, wpS_asg, wpS_ifS, wpS_drop, wpS_ret, wpS_retN, wpS_stF, wpS_augF, wpS_augI, wpS_augV, wpS_par', wpS_par3', wpS_some, wpS_mNx, wpS_mCt, wpS_mBk, kont_rt, kont_ct, kont_bk, fin_rt, fin_nx, wp_mK, wp_v, vO_some, wp_ret, wp_bnd, wp_op, wp_op1, wp_call, wp_fn, wp_cons, wp_nil, wp_tup, wp_lst, wp_obj, wp_oNone, wp_oSome, intO_int, wp_sl, wp_mIf, wp_mAnd, wp_mOr, wp_mNot, wp_mB, wp_mAndV, wp_mOrV, wp_mNotV, wp_mChain, wp_mTru, isBl_bl, truO_some, x_addI, x_addJ, x_sub, x_mod, x_div, x_mul, x_pow, x_shl, x_shr, x_band, x_bor, x_bxor, x_lt, x_le, x_gt, x_ge, x_neg, x_eqI, x_neI, x_eqS, x_neS, x_isN, x_isNN, x_int, x_abs, x_max2, x_min2, x_d1, x_d2, x_mkL, x_mkT, x_mkO, x_mkD, x_mkDo, x_ix, ixO_some, x_len, lenO_some, x_list, wpO_some, x_slT, x_slL, x_addLL, x_addTT, blO_some, x_isi, wp_isiT, x_fld, x_getI, wp_mMeth, wp_mMake, wp_mMt, wp_mLc, wp_mIt, wp_range1, wp_range2, wp_range3, wpS_for, isi_non_bool, isi_non_int, isi_non_str, isi_non_list, isi_non_tuple, isi_non_dict, isi_bl_bool, isi_bl_int, isi_bl_str, isi_bl_list, isi_bl_tuple, isi_bl_dict, isi_int_bool, isi_int_int, isi_int_str, isi_int_list, isi_int_tuple, isi_int_dict, isi_str_bool, isi_str_int, isi_str_str, isi_str_list, isi_str_tuple, isi_str_dict, isi_lst_bool, isi_lst_int, isi_lst_str, isi_lst_list, isi_lst_tuple, isi_lst_dict, isi_src_bool, isi_src_int, isi_src_str, isi_src_list, isi_src_tuple, isi_src_dict, isi_tup_bool, isi_tup_int, isi_tup_str, isi_tup_list, isi_tup_tuple, isi_tup_dict, isi_dct_bool, isi_dct_int, isi_dct_str, isi_dct_list, isi_dct_tuple, isi_dct_dict, g_nm, g_tp2, g_tp3, g_tp4, g_nil, g_cons, List.getElem?_cons_succ, List.getElem?_cons_zero, List.set_cons_succ, List.set_cons_zero, truD]
    refine k _ _ ⟨(wc + 1) % 15, gone + 1, now + w, rn, bell, a, b, cc, e, f, first, ctr, last, _, _, _, _, _, _, _, _, _, _, rfl, W5, by omega, by omega, by omega, by omega, by omega, by omega, ?_⟩
    rcases hst with h | ⟨h1, rc, ds, h2, h3, h4, h5, h6⟩
    · exact .inl h
    · exact .inr ⟨h1, rc, ds, h2, h3, by omega, h5, h6⟩
def st2 : MSt := (mSeq (mAsg (mIf (mOr (mTru (mV 8)) (mB (mOp dEq (mV 7) (mK (.int 0))))) (mK (.str ("fine" : Str))) (mTup (mCons (mK (.str ("lost" : Str))) (mCons (mV 7) mNil)))) (gNm 17))
  (mSeq (mIfS (mNot (mTru (mCall (m__law_same 12) (mCons (mV 16) (mCons (mV 17) mNil))))) (mRet (mK (.bl false))) mNx)
  (mSeq (mAsg (mOp (dAdd mkL) (mOp dIx (mV 6) (mIf (mB (mOp dEq (mV 17) (mK (.str ("fine" : Str))))) (mK (.str ("fine" : Str))) (mK (.str ("lost" : Str))))) (mK (.int 1))) (gIx (mV 6) (mIf (mB (mOp dEq (mV 17) (mK (.str ("fine" : Str))))) (mK (.str ("fine" : Str))) (mK (.str ("lost" : Str))))))
  (mSeq (mPar3 7 8 9 (mCons (mK (.int 0)) (mCons (mK (.bl false)) (mCons (mV 11) mNil))))
  (mSeq (mIfS (mB (mOp dEq (mV 13) (mK (.int 9)))) (mSeq (mAsg (mOp (dAdd mkL) (mOp dIx (mV 6) (mK (.str ("again" : Str)))) (mK (.int 1))) (gIx (mV 6) (mK (.str ("again" : Str)))))
  (mIfS (mNot (mTru (mCall (m__law_same 12) (mCons (mMeth c_Reader m_Reader_take (mV 4) (mCons (mV 12) (mCons (mV 5) mNil))) (mCons (mK (.str ("again" : Str))) mNil))))) (mRet (mK (.bl false))) mNx)) mNx)
  (mIfS (mNot (mTru (mCall (m__law_same 12) (mCons (mMeth c_Reader m_Reader_data (mV 4) mNil) (mCons (mV 9) mNil))))) (mRet (mK (.bl false))) mNx))))))
theorem eqB_tup_str {S : MS} {g : Int} : dEqB S (.tup [.str ("lost" : Str), .int g]) (.str ("fine" : Str)) = some false := by
  have h1 : toPy (.tup [.str ("lost" : Str), .int g]) = some (.tuple [.str ("lost" : Str), .int g]) := by
    simp [toPy, toPyL]
  have h2 : SeqAt.shaped (.tuple [.str ("lost" : Str), .int g]) = true := by
    unfold SeqAt.shaped
    have a1 : PyData.canLay0 (.tuple [.str ("lost" : Str), .int g]) = true := by
      simp [PyData.canLay0, PyData.canLayAll0]
      decide +kernel
    have a2 : PyData.depth (.tuple [.str ("lost" : Str), .int g]) ≤ 64 := by
      simp [PyData.depth, PyData.depthAll]
    rw [a1, decide_eq_true a2]
    rfl
  have h3 : SeqAt.shaped (.str ("fine" : Str)) = true := by decide +kernel
  have h4 : PyData.eqv (.tuple [.str ("lost" : Str), .int g]) (.str ("fine" : Str)) = false := by unfold PyData.eqv; rfl
  unfold dEqB
  dsimp only [toPyS]
  rw [h1]
  dsimp only [toPy]
  rw [h2, h3, h4]
  rfl
theorem lost_ok {ns : List Int} {kk i wc gone : Nat} {S6 : MS} {now bell a b cc e f kind : Int} {data : List Nat} {x9 x10 o14 o15 o17 o18 o19 : Option D} {R : Fl → Prop} {T : D} (hT : D.tup [.str ("lost" : Str), .int (gone : Int)] = T) (W6 : Wo S6 kk ((wc + 1) % 15) now bell (.int (wc : Int)) (.lst (nn data)) (cnt a (b + 1) cc 0 e f) (cnt a b cc 0 e 0)) (hkk : kk ≤ 65535) (hwc : wc ≤ 14) (hg : gone ≠ 0) (hdb : ∀ n ∈ data, n < 256) (hdl : data.length ≤ 6)
    (hnow : now ≤ 49 * (i + 1 : Nat)) (hi80 : i ≤ 80) (hn0 : 0 ≤ now) (hbell : 0 ≤ bell) (k : ∀ env S, LI ns kk (i + 1) env S → R (.nx env S)) :
    wpS (st2 [some (.src (ns.map D.int)), some (.obj 0), some (.int (kk : Int)), some (.obj 1), some (.obj 2), some (.int now), some (.obj 4), some (.int (gone : Int)), some (.bl false), x9, x10, some (.lst (nn data)), some (.lst (nn (crc (wc :: (data ++ [kk / 256, kk % 256])) :: wc :: data))), some (.int kind), o14, o15, some T, o17, o18, o19] S6) R := by
  unfold st2
  simp only [wpS_seq, wpS_gNm, wpS_asg, wpS_ifS, wpS_drop, wpS_ret, wpS_retN, wpS_stF, wpS_augF, wpS_augI, wpS_augV, wpS_par', wpS_par3', wpS_some, wpS_mNx, wpS_mCt, wpS_mBk, kont_rt, kont_ct, kont_bk, fin_rt, fin_nx, wp_mK, wp_v, vO_some, wp_ret, wp_bnd, wp_op, wp_op1, wp_call, wp_fn, wp_cons, wp_nil, wp_tup, wp_lst, wp_obj, wp_oNone, wp_oSome, intO_int, wp_sl, wp_mIf, wp_mAnd, wp_mOr, wp_mNot, wp_mB, wp_mAndV, wp_mOrV, wp_mNotV, wp_mChain, wp_mTru, isBl_bl, truO_some, x_addI, x_addJ, x_sub, x_mod, x_div, x_mul, x_pow, x_shl, x_shr, x_band, x_bor, x_bxor, x_lt, x_le, x_gt, x_ge, x_neg, x_eqI, x_neI, x_eqS, x_neS, x_isN, x_isNN, x_int, x_abs, x_max2, x_min2, x_d1, x_d2, x_mkL, x_mkT, x_mkO, x_mkD, x_mkDo, x_ix, ixO_some, x_len, lenO_some, x_list, wpO_some, x_slT, x_slL, x_addLL, x_addTT, blO_some, x_isi, wp_isiT, x_fld, x_getI, wp_mMeth, wp_mMake, wp_mMt, wp_mLc, wp_mIt, wp_range1, wp_range2, wp_range3, wpS_for, isi_non_bool, isi_non_int, isi_non_str, isi_non_list, isi_non_tuple, isi_non_dict, isi_bl_bool, isi_bl_int, isi_bl_str, isi_bl_list, isi_bl_tuple, isi_bl_dict, isi_int_bool, isi_int_int, isi_int_str, isi_int_list, isi_int_tuple, isi_int_dict, isi_str_bool, isi_str_int, isi_str_str, isi_str_list, isi_str_tuple, isi_str_dict, isi_lst_bool, isi_lst_int, isi_lst_str, isi_lst_list, isi_lst_tuple, isi_lst_dict, isi_src_bool, isi_src_int, isi_src_str, isi_src_list, isi_src_tuple, isi_src_dict, isi_tup_bool, isi_tup_int, isi_tup_str, isi_tup_list, isi_tup_tuple, isi_tup_dict, isi_dct_bool, isi_dct_int, isi_dct_str, isi_dct_list, isi_dct_tuple, isi_dct_dict, g_nm, g_tp2, g_tp3, g_tp4, g_nil, g_cons, List.getElem?_cons_succ, List.getElem?_cons_zero, List.set_cons_succ, List.set_cons_zero, truD, if_false, Bool.false_eq_true, decide_eq_true_eq]
  rw [if_neg (by omega), hT]
  refine ⟨small_of (by show 2 ≤ 16777216; decide), kont_nx ?_⟩
  simp only [wpS_seq, wpS_gNm, wpS_asg, wpS_ifS, wpS_drop, wpS_ret, wpS_retN, wpS_stF, wpS_augF, wpS_augI, wpS_augV, wpS_par', wpS_par3', wpS_some, wpS_mNx, wpS_mCt, wpS_mBk, kont_rt, kont_ct, kont_bk, fin_rt, fin_nx, wp_mK, wp_v, vO_some, wp_ret, wp_bnd, wp_op, wp_op1, wp_call, wp_fn, wp_cons, wp_nil, wp_tup, wp_lst, wp_obj, wp_oNone, wp_oSome, intO_int, wp_sl, wp_mIf, wp_mAnd, wp_mOr, wp_mNot, wp_mB, wp_mAndV, wp_mOrV, wp_mNotV, wp_mChain, wp_mTru, isBl_bl, truO_some, x_addI, x_addJ, x_sub, x_mod, x_div, x_mul, x_pow, x_shl, x_shr, x_band, x_bor, x_bxor, x_lt, x_le, x_gt, x_ge, x_neg, x_eqI, x_neI, x_eqS, x_neS, x_isN, x_isNN, x_int, x_abs, x_max2, x_min2, x_d1, x_d2, x_mkL, x_mkT, x_mkO, x_mkD, x_mkDo, x_ix, ixO_some, x_len, lenO_some, x_list, wpO_some, x_slT, x_slL, x_addLL, x_addTT, blO_some, x_isi, wp_isiT, x_fld, x_getI, wp_mMeth, wp_mMake, wp_mMt, wp_mLc, wp_mIt, wp_range1, wp_range2, wp_range3, wpS_for, isi_non_bool, isi_non_int, isi_non_str, isi_non_list, isi_non_tuple, isi_non_dict, isi_bl_bool, isi_bl_int, isi_bl_str, isi_bl_list, isi_bl_tuple, isi_bl_dict, isi_int_bool, isi_int_int, isi_int_str, isi_int_list, isi_int_tuple, isi_int_dict, isi_str_bool, isi_str_int, isi_str_str, isi_str_list, isi_str_tuple, isi_str_dict, isi_lst_bool, isi_lst_int, isi_lst_str, isi_lst_list, isi_lst_tuple, isi_lst_dict, isi_src_bool, isi_src_int, isi_src_str, isi_src_list, isi_src_tuple, isi_src_dict, isi_tup_bool, isi_tup_int, isi_tup_str, isi_tup_list, isi_tup_tuple, isi_tup_dict, isi_dct_bool, isi_dct_int, isi_dct_str, isi_dct_list, isi_dct_tuple, isi_dct_dict, g_nm, g_tp2, g_tp3, g_tp4, g_nil, g_cons, List.getElem?_cons_succ, List.getElem?_cons_zero, List.set_cons_succ, List.set_cons_zero, truD, q_same]
  have sm : mSame 12 [T, T] S6 = some (.ok (.bl true) S6) := by
    subst hT
    refine same_at (.inr (.inr (.inr (.inr (.inr ⟨_, _, rfl, rfl, rfl, by show 2 ≤ 16777216; decide, fun i x y hx hy => ?_⟩)))))
    rw [hx] at hy
    cases hy
    match i, hx with
    | 0, hx => cases hx; exact .inr (.inr (.inr (.inl ⟨_, rfl, rfl⟩)))
    | 1, hx => cases hx; exact .inr (.inr (.inl ⟨_, rfl, rfl⟩))
    | n + 2, hx => cases hx
  rw [wp_of sm]
  simp only [wpS_seq, wpS_gNm, wpS_asg, wpS_ifS, wpS_drop, wpS_ret, wpS_retN, wpS_stF, wpS_augF, wpS_augI, wpS_augV, wpS_par', wpS_par3', wpS_some, wpS_mNx, wpS_mCt, wpS_mBk, kont_rt, kont_ct, kont_bk, fin_rt, fin_nx, wp_mK, wp_v, vO_some, wp_ret, wp_bnd, wp_op, wp_op1, wp_call, wp_fn, wp_cons, wp_nil, wp_tup, wp_lst, wp_obj, wp_oNone, wp_oSome, intO_int, wp_sl, wp_mIf, wp_mAnd, wp_mOr, wp_mNot, wp_mB, wp_mAndV, wp_mOrV, wp_mNotV, wp_mChain, wp_mTru, isBl_bl, truO_some, x_addI, x_addJ, x_sub, x_mod, x_div, x_mul, x_pow, x_shl, x_shr, x_band, x_bor, x_bxor, x_lt, x_le, x_gt, x_ge, x_neg, x_eqI, x_neI, x_eqS, x_neS, x_isN, x_isNN, x_int, x_abs, x_max2, x_min2, x_d1, x_d2, x_mkL, x_mkT, x_mkO, x_mkD, x_mkDo, x_ix, ixO_some, x_len, lenO_some, x_list, wpO_some, x_slT, x_slL, x_addLL, x_addTT, blO_some, x_isi, wp_isiT, x_fld, x_getI, wp_mMeth, wp_mMake, wp_mMt, wp_mLc, wp_mIt, wp_range1, wp_range2, wp_range3, wpS_for, isi_non_bool, isi_non_int, isi_non_str, isi_non_list, isi_non_tuple, isi_non_dict, isi_bl_bool, isi_bl_int, isi_bl_str, isi_bl_list, isi_bl_tuple, isi_bl_dict, isi_int_bool, isi_int_int, isi_int_str, isi_int_list, isi_int_tuple, isi_int_dict, isi_str_bool, isi_str_int, isi_str_str, isi_str_list, isi_str_tuple, isi_str_dict, isi_lst_bool, isi_lst_int, isi_lst_str, isi_lst_list, isi_lst_tuple, isi_lst_dict, isi_src_bool, isi_src_int, isi_src_str, isi_src_list, isi_src_tuple, isi_src_dict, isi_tup_bool, isi_tup_int, isi_tup_str, isi_tup_list, isi_tup_tuple, isi_tup_dict, isi_dct_bool, isi_dct_int, isi_dct_str, isi_dct_list, isi_dct_tuple, isi_dct_dict, g_nm, g_tp2, g_tp3, g_tp4, g_nil, g_cons, List.getElem?_cons_succ, List.getElem?_cons_zero, List.set_cons_succ, List.set_cons_zero, truD, Bool.not_true, if_false, Bool.false_eq_true]
  refine kont_nx ?_
  have eqf : ∀ S : MS, dEqB S T (.str ("fine" : Str)) = some false := fun S => by
    subst hT
    exact eqB_tup_str
  simp only [wpS_seq, wpS_gNm, wpS_asg, wpS_ifS, wpS_drop, wpS_ret, wpS_retN, wpS_stF, wpS_augF, wpS_augI, wpS_augV, wpS_par', wpS_par3', wpS_some, wpS_mNx, wpS_mCt, wpS_mBk, kont_rt, kont_ct, kont_bk, fin_rt, fin_nx, wp_mK, wp_v, vO_some, wp_ret, wp_bnd, wp_op, wp_op1, wp_call, wp_fn, wp_cons, wp_nil, wp_tup, wp_lst, wp_obj, wp_oNone, wp_oSome, intO_int, wp_sl, wp_mIf, wp_mAnd, wp_mOr, wp_mNot, wp_mB, wp_mAndV, wp_mOrV, wp_mNotV, wp_mChain, wp_mTru, isBl_bl, truO_some, x_addI, x_addJ, x_sub, x_mod, x_div, x_mul, x_pow, x_shl, x_shr, x_band, x_bor, x_bxor, x_lt, x_le, x_gt, x_ge, x_neg, x_eqI, x_neI, x_eqS, x_neS, x_isN, x_isNN, x_int, x_abs, x_max2, x_min2, x_d1, x_d2, x_mkL, x_mkT, x_mkO, x_mkD, x_mkDo, x_ix, ixO_some, x_len, lenO_some, x_list, wpO_some, x_slT, x_slL, x_addLL, x_addTT, blO_some, x_isi, wp_isiT, x_fld, x_getI, wp_mMeth, wp_mMake, wp_mMt, wp_mLc, wp_mIt, wp_range1, wp_range2, wp_range3, wpS_for, isi_non_bool, isi_non_int, isi_non_str, isi_non_list, isi_non_tuple, isi_non_dict, isi_bl_bool, isi_bl_int, isi_bl_str, isi_bl_list, isi_bl_tuple, isi_bl_dict, isi_int_bool, isi_int_int, isi_int_str, isi_int_list, isi_int_tuple, isi_int_dict, isi_str_bool, isi_str_int, isi_str_str, isi_str_list, isi_str_tuple, isi_str_dict, isi_lst_bool, isi_lst_int, isi_lst_str, isi_lst_list, isi_lst_tuple, isi_lst_dict, isi_src_bool, isi_src_int, isi_src_str, isi_src_list, isi_src_tuple, isi_src_dict, isi_tup_bool, isi_tup_int, isi_tup_str, isi_tup_list, isi_tup_tuple, isi_tup_dict, isi_dct_bool, isi_dct_int, isi_dct_str, isi_dct_list, isi_dct_tuple, isi_dct_dict, g_nm, g_tp2, g_tp3, g_tp4, g_nil, g_cons, List.getElem?_cons_succ, List.getElem?_cons_zero, List.set_cons_succ, List.set_cons_zero, truD, x_eq, eqf, if_false, Bool.false_eq_true, ixAt_dk W6.du, lk_lost, wpO_gIx, dSet_dk W6.du (by rw [cnt_len]; decide), pt_lost]
  refine kont_nx ?_
  exact tail_ok (W6.due (U' := cnt a (b + 1) cc 0 e 0)) hkk hwc hdb hdl hnow hi80 hn0 hbell k
theorem turnB {ns : List Int} {kk i wc gone : Nat} {S5 : MS} {now rn bell a b cc e f w kind : Int} {first : Bool} {ctr last : D} {data : List Nat} {x10 o14 o15 o16 o17 o18 o19 : Option D} {R : Fl → Prop} (W5 : Wo S5 kk ((wc + 1) % 15) rn bell ctr last (cnt a b cc 0 e f) (cnt a b cc 0 e 0)) (hkk : kk ≤ 65535) (hwc : wc ≤ 14) (hgone : gone ≤ 13) (hrn : rn ≤ now) (hnow : now ≤ 49 * i) (hbell : 0 ≤ bell) (hrn0 : 0 ≤ rn) (w0 : 1 ≤ w) (w1 : w ≤ 49) (hi80 : i ≤ 80) (hdb : ∀ n ∈ data, n < 256) (hdl : data.length ≤ 6)
    (hst : (first = true ∧ ctr = .non ∧ last = .non) ∨ (first = false ∧ ∃ (rc : Nat) (ds : List Nat), ctr = .int (rc : Int) ∧ rc ≤ 14 ∧ ((wc : Int) - rc - 1 - gone) % 15 = 0 ∧ last = .lst (nn ds) ∧ ds.length ≤ 6)) (k : ∀ env S, LI ns kk (i + 1) env S → R (.nx env S)) :
    wpS (stB [some (.src (ns.map D.int)), some (.obj 0), some (.int (kk : Int)), some (.obj 1), some (.obj 2), some (.int (now + w)), some (.obj 4), some (.int (gone : Int)), some (.bl first), some last, x10, some (.lst (nn data)), some (.lst (nn (gd data wc kk))), some (.int kind), o14, o15, o16, o17, o18, o19] S5) R := by
  have hgd := gd_lt (wc := wc) (kk := kk) hdb hwc hkk
  have hgl : (nn (gd data wc kk)).length = data.length + 2 := by rw [nn_len, gd_len]
  unfold stB
  simp only [wpS_seq, wpS_gNm, wpS_asg, wpS_ifS, wpS_drop, wpS_ret, wpS_retN, wpS_stF, wpS_augF, wpS_augI, wpS_augV, wpS_par', wpS_par3', wpS_some, wpS_mNx, wpS_mCt, wpS_mBk, kont_rt, kont_ct, kont_bk, fin_rt, fin_nx, wp_mK, wp_v, vO_some, wp_ret, wp_bnd, wp_op, wp_op1, wp_call, wp_fn, wp_cons, wp_nil, wp_tup, wp_lst, wp_obj, wp_oNone, wp_oSome, intO_int, wp_sl, wp_mIf, wp_mAnd, wp_mOr, wp_mNot, wp_mB, wp_mAndV, wp_mOrV, wp_mNotV, wp_mChain, wp_mTru, isBl_bl, truO_some, x_addI, x_addJ, x_sub, x_mod, x_div, x_mul, x_pow, x_shl, x_shr, x_band, x_bor, x_bxor, x_lt, x_le, x_gt, x_ge, x_neg, x_eqI, x_neI, x_eqS, x_neS, x_isN, x_isNN, x_int, x_abs, x_max2, x_min2, x_d1, x_d2, x_mkL, x_mkT, x_mkO, x_mkD, x_mkDo, x_ix, ixO_some, x_len, lenO_some, x_list, wpO_some, x_slT, x_slL, x_addLL, x_addTT, blO_some, x_isi, wp_isiT, x_fld, x_getI, wp_mMeth, wp_mMake, wp_mMt, wp_mLc, wp_mIt, wp_range1, wp_range2, wp_range3, wpS_for, isi_non_bool, isi_non_int, isi_non_str, isi_non_list, isi_non_tuple, isi_non_dict, isi_bl_bool, isi_bl_int, isi_bl_str, isi_bl_list, isi_bl_tuple, isi_bl_dict, isi_int_bool, isi_int_int, isi_int_str, isi_int_list, isi_int_tuple, isi_int_dict, isi_str_bool, isi_str_int, isi_str_str, isi_str_list, isi_str_tuple, isi_str_dict, isi_lst_bool, isi_lst_int, isi_lst_str, isi_lst_list, isi_lst_tuple, isi_lst_dict, isi_src_bool, isi_src_int, isi_src_str, isi_src_list, isi_src_tuple, isi_src_dict, isi_tup_bool, isi_tup_int, isi_tup_str, isi_tup_list, isi_tup_tuple, isi_tup_dict, isi_dct_bool, isi_dct_int, isi_dct_str, isi_dct_list, isi_dct_tuple, isi_dct_dict, g_nm, g_tp2, g_tp3, g_tp4, g_nil, g_cons, List.getElem?_cons_succ, List.getElem?_cons_zero, List.set_cons_succ, List.set_cons_zero, truD, ins_obj W5.rd]
  have un : Un S5 (.lst (nn (gd data wc kk))) (nn (gd data wc kk)) := ⟨rfl, fun k hk => by cases hk⟩
  have hx5 := W5.nx
  have hxg : gd data wc kk = crc (wc :: (data ++ [kk / 256, kk % 256])) :: wc :: data := rfl
  rw [hxg] at un hgd
  rw [hxg]
  rcases hst with ⟨hf, rfl, rfl⟩ | ⟨hf, rc, ds, rfl, hrc, hrel, rfl, hds⟩
  · refine w_take_first hkk W5.rd W5.cn (by omega) (by omega) (by omega) un (fun k hk => by cases hk) hgd (by omega) ⟨hwc, rfl⟩ fun S6 f6 fr6 gA gB => kont_nx ?_
    have W6 := W5.read fr6 gA gB
    subst hf
    simp only [wpS_seq, wpS_gNm, wpS_asg, wpS_ifS, wpS_drop, wpS_ret, wpS_retN, wpS_stF, wpS_augF, wpS_augI, wpS_augV, wpS_par', wpS_par3', wpS_some, wpS_mNx, wpS_mCt, wpS_mBk, kont_rt, kont_ct, kont_bk, fin_rt, fin_nx, wp_mK, wp_v, vO_some, wp_ret, wp_bnd, wp_op, wp_op1, wp_call, wp_fn, wp_cons, wp_nil, wp_tup, wp_lst, wp_obj, wp_oNone, wp_oSome, intO_int, wp_sl, wp_mIf, wp_mAnd, wp_mOr, wp_mNot, wp_mB, wp_mAndV, wp_mOrV, wp_mNotV, wp_mChain, wp_mTru, isBl_bl, truO_some, x_addI, x_addJ, x_sub, x_mod, x_div, x_mul, x_pow, x_shl, x_shr, x_band, x_bor, x_bxor, x_lt, x_le, x_gt, x_ge, x_neg, x_eqI, x_neI, x_eqS, x_neS, x_isN, x_isNN, x_int, x_abs, x_max2, x_min2, x_d1, x_d2, x_mkL, x_mkT, x_mkO, x_mkD, x_mkDo, x_ix, ixO_some, x_len, lenO_some, x_list, wpO_some, x_slT, x_slL, x_addLL, x_addTT, blO_some, x_isi, wp_isiT, x_fld, x_getI, wp_mMeth, wp_mMake, wp_mMt, wp_mLc, wp_mIt, wp_range1, wp_range2, wp_range3, wpS_for, isi_non_bool, isi_non_int, isi_non_str, isi_non_list, isi_non_tuple, isi_non_dict, isi_bl_bool, isi_bl_int, isi_bl_str, isi_bl_list, isi_bl_tuple, isi_bl_dict, isi_int_bool, isi_int_int, isi_int_str, isi_int_list, isi_int_tuple, isi_int_dict, isi_str_bool, isi_str_int, isi_str_str, isi_str_list, isi_str_tuple, isi_str_dict, isi_lst_bool, isi_lst_int, isi_lst_str, isi_lst_list, isi_lst_tuple, isi_lst_dict, isi_src_bool, isi_src_int, isi_src_str, isi_src_list, isi_src_tuple, isi_src_dict, isi_tup_bool, isi_tup_int, isi_tup_str, isi_tup_list, isi_tup_tuple, isi_tup_dict, isi_dct_bool, isi_dct_int, isi_dct_str, isi_dct_list, isi_dct_tuple, isi_dct_dict, g_nm, g_tp2, g_tp3, g_tp4, g_nil, g_cons, List.getElem?_cons_succ, List.getElem?_cons_zero, List.set_cons_succ, List.set_cons_zero, truD, if_true]
    refine kont_nx ?_
    simp only [wpS_seq, wpS_gNm, wpS_asg, wpS_ifS, wpS_drop, wpS_ret, wpS_retN, wpS_stF, wpS_augF, wpS_augI, wpS_augV, wpS_par', wpS_par3', wpS_some, wpS_mNx, wpS_mCt, wpS_mBk, kont_rt, kont_ct, kont_bk, fin_rt, fin_nx, wp_mK, wp_v, vO_some, wp_ret, wp_bnd, wp_op, wp_op1, wp_call, wp_fn, wp_cons, wp_nil, wp_tup, wp_lst, wp_obj, wp_oNone, wp_oSome, intO_int, wp_sl, wp_mIf, wp_mAnd, wp_mOr, wp_mNot, wp_mB, wp_mAndV, wp_mOrV, wp_mNotV, wp_mChain, wp_mTru, isBl_bl, truO_some, x_addI, x_addJ, x_sub, x_mod, x_div, x_mul, x_pow, x_shl, x_shr, x_band, x_bor, x_bxor, x_lt, x_le, x_gt, x_ge, x_neg, x_eqI, x_neI, x_eqS, x_neS, x_isN, x_isNN, x_int, x_abs, x_max2, x_min2, x_d1, x_d2, x_mkL, x_mkT, x_mkO, x_mkD, x_mkDo, x_ix, ixO_some, x_len, lenO_some, x_list, wpO_some, x_slT, x_slL, x_addLL, x_addTT, blO_some, x_isi, wp_isiT, x_fld, x_getI, wp_mMeth, wp_mMake, wp_mMt, wp_mLc, wp_mIt, wp_range1, wp_range2, wp_range3, wpS_for, isi_non_bool, isi_non_int, isi_non_str, isi_non_list, isi_non_tuple, isi_non_dict, isi_bl_bool, isi_bl_int, isi_bl_str, isi_bl_list, isi_bl_tuple, isi_bl_dict, isi_int_bool, isi_int_int, isi_int_str, isi_int_list, isi_int_tuple, isi_int_dict, isi_str_bool, isi_str_int, isi_str_str, isi_str_list, isi_str_tuple, isi_str_dict, isi_lst_bool, isi_lst_int, isi_lst_str, isi_lst_list, isi_lst_tuple, isi_lst_dict, isi_src_bool, isi_src_int, isi_src_str, isi_src_list, isi_src_tuple, isi_src_dict, isi_tup_bool, isi_tup_int, isi_tup_str, isi_tup_list, isi_tup_tuple, isi_tup_dict, isi_dct_bool, isi_dct_int, isi_dct_str, isi_dct_list, isi_dct_tuple, isi_dct_dict, g_nm, g_tp2, g_tp3, g_tp4, g_nil, g_cons, List.getElem?_cons_succ, List.getElem?_cons_zero, List.set_cons_succ, List.set_cons_zero, truD, q_same]
    rw [wp_of (same_at (k := 12) (S := S6) (x := .str "fine") (y := .str "fine") (.inr (.inr (.inr (.inl ⟨_, rfl, rfl⟩)))))]
    simp only [wpS_seq, wpS_gNm, wpS_asg, wpS_ifS, wpS_drop, wpS_ret, wpS_retN, wpS_stF, wpS_augF, wpS_augI, wpS_augV, wpS_par', wpS_par3', wpS_some, wpS_mNx, wpS_mCt, wpS_mBk, kont_rt, kont_ct, kont_bk, fin_rt, fin_nx, wp_mK, wp_v, vO_some, wp_ret, wp_bnd, wp_op, wp_op1, wp_call, wp_fn, wp_cons, wp_nil, wp_tup, wp_lst, wp_obj, wp_oNone, wp_oSome, intO_int, wp_sl, wp_mIf, wp_mAnd, wp_mOr, wp_mNot, wp_mB, wp_mAndV, wp_mOrV, wp_mNotV, wp_mChain, wp_mTru, isBl_bl, truO_some, x_addI, x_addJ, x_sub, x_mod, x_div, x_mul, x_pow, x_shl, x_shr, x_band, x_bor, x_bxor, x_lt, x_le, x_gt, x_ge, x_neg, x_eqI, x_neI, x_eqS, x_neS, x_isN, x_isNN, x_int, x_abs, x_max2, x_min2, x_d1, x_d2, x_mkL, x_mkT, x_mkO, x_mkD, x_mkDo, x_ix, ixO_some, x_len, lenO_some, x_list, wpO_some, x_slT, x_slL, x_addLL, x_addTT, blO_some, x_isi, wp_isiT, x_fld, x_getI, wp_mMeth, wp_mMake, wp_mMt, wp_mLc, wp_mIt, wp_range1, wp_range2, wp_range3, wpS_for, isi_non_bool, isi_non_int, isi_non_str, isi_non_list, isi_non_tuple, isi_non_dict, isi_bl_bool, isi_bl_int, isi_bl_str, isi_bl_list, isi_bl_tuple, isi_bl_dict, isi_int_bool, isi_int_int, isi_int_str, isi_int_list, isi_int_tuple, isi_int_dict, isi_str_bool, isi_str_int, isi_str_str, isi_str_list, isi_str_tuple, isi_str_dict, isi_lst_bool, isi_lst_int, isi_lst_str, isi_lst_list, isi_lst_tuple, isi_lst_dict, isi_src_bool, isi_src_int, isi_src_str, isi_src_list, isi_src_tuple, isi_src_dict, isi_tup_bool, isi_tup_int, isi_tup_str, isi_tup_list, isi_tup_tuple, isi_tup_dict, isi_dct_bool, isi_dct_int, isi_dct_str, isi_dct_list, isi_dct_tuple, isi_dct_dict, g_nm, g_tp2, g_tp3, g_tp4, g_nil, g_cons, List.getElem?_cons_succ, List.getElem?_cons_zero, List.set_cons_succ, List.set_cons_zero, truD, Bool.not_true, if_false, Bool.false_eq_true]
    refine kont_nx ?_
    simp only [wpS_seq, wpS_gNm, wpS_asg, wpS_ifS, wpS_drop, wpS_ret, wpS_retN, wpS_stF, wpS_augF, wpS_augI, wpS_augV, wpS_par', wpS_par3', wpS_some, wpS_mNx, wpS_mCt, wpS_mBk, kont_rt, kont_ct, kont_bk, fin_rt, fin_nx, wp_mK, wp_v, vO_some, wp_ret, wp_bnd, wp_op, wp_op1, wp_call, wp_fn, wp_cons, wp_nil, wp_tup, wp_lst, wp_obj, wp_oNone, wp_oSome, intO_int, wp_sl, wp_mIf, wp_mAnd, wp_mOr, wp_mNot, wp_mB, wp_mAndV, wp_mOrV, wp_mNotV, wp_mChain, wp_mTru, isBl_bl, truO_some, x_addI, x_addJ, x_sub, x_mod, x_div, x_mul, x_pow, x_shl, x_shr, x_band, x_bor, x_bxor, x_lt, x_le, x_gt, x_ge, x_neg, x_eqI, x_neI, x_eqS, x_neS, x_isN, x_isNN, x_int, x_abs, x_max2, x_min2, x_d1, x_d2, x_mkL, x_mkT, x_mkO, x_mkD, x_mkDo, x_ix, ixO_some, x_len, lenO_some, x_list, wpO_some, x_slT, x_slL, x_addLL, x_addTT, blO_some, x_isi, wp_isiT, x_fld, x_getI, wp_mMeth, wp_mMake, wp_mMt, wp_mLc, wp_mIt, wp_range1, wp_range2, wp_range3, wpS_for, isi_non_bool, isi_non_int, isi_non_str, isi_non_list, isi_non_tuple, isi_non_dict, isi_bl_bool, isi_bl_int, isi_bl_str, isi_bl_list, isi_bl_tuple, isi_bl_dict, isi_int_bool, isi_int_int, isi_int_str, isi_int_list, isi_int_tuple, isi_int_dict, isi_str_bool, isi_str_int, isi_str_str, isi_str_list, isi_str_tuple, isi_str_dict, isi_lst_bool, isi_lst_int, isi_lst_str, isi_lst_list, isi_lst_tuple, isi_lst_dict, isi_src_bool, isi_src_int, isi_src_str, isi_src_list, isi_src_tuple, isi_src_dict, isi_tup_bool, isi_tup_int, isi_tup_str, isi_tup_list, isi_tup_tuple, isi_tup_dict, isi_dct_bool, isi_dct_int, isi_dct_str, isi_dct_list, isi_dct_tuple, isi_dct_dict, g_nm, g_tp2, g_tp3, g_tp4, g_nil, g_cons, List.getElem?_cons_succ, List.getElem?_cons_zero, List.set_cons_succ, List.set_cons_zero, truD, decide_true, if_true, ixAt_dk W6.du, lk_fine, wpO_gIx, dSet_dk W6.du (by rw [cnt_len]; decide), pt_fine]
    refine kont_nx ?_
    exact tail_ok (W6.due (U' := cnt (a + 1) b cc 0 e 0)) hkk hwc hdb (by omega) (by omega) hi80 (by omega) (by omega) k
  · refine w_take_next (gap := gone + 1) hkk W5.rd W5.cn (by omega) (by omega) (by omega) un (fun k hk => by cases hk) hgd (by omega) ⟨hwc, rfl⟩ (by omega) (by omega) (fun z => by omega) (fun hz S6 f6 fr6 gA gB => kont_nx ?_) (fun hz S6 f6 fr6 gA gB => kont_nx ?_)
    · have W6 := W5.read fr6 gA gB
      subst hf
      have g0 : ((gone : Int) = 0) = True := eq_true (by omega)
      simp only [wpS_seq, wpS_gNm, wpS_asg, wpS_ifS, wpS_drop, wpS_ret, wpS_retN, wpS_stF, wpS_augF, wpS_augI, wpS_augV, wpS_par', wpS_par3', wpS_some, wpS_mNx, wpS_mCt, wpS_mBk, kont_rt, kont_ct, kont_bk, fin_rt, fin_nx, wp_mK, wp_v, vO_some, wp_ret, wp_bnd, wp_op, wp_op1, wp_call, wp_fn, wp_cons, wp_nil, wp_tup, wp_lst, wp_obj, wp_oNone, wp_oSome, intO_int, wp_sl, wp_mIf, wp_mAnd, wp_mOr, wp_mNot, wp_mB, wp_mAndV, wp_mOrV, wp_mNotV, wp_mChain, wp_mTru, isBl_bl, truO_some, x_addI, x_addJ, x_sub, x_mod, x_div, x_mul, x_pow, x_shl, x_shr, x_band, x_bor, x_bxor, x_lt, x_le, x_gt, x_ge, x_neg, x_eqI, x_neI, x_eqS, x_neS, x_isN, x_isNN, x_int, x_abs, x_max2, x_min2, x_d1, x_d2, x_mkL, x_mkT, x_mkO, x_mkD, x_mkDo, x_ix, ixO_some, x_len, lenO_some, x_list, wpO_some, x_slT, x_slL, x_addLL, x_addTT, blO_some, x_isi, wp_isiT, x_fld, x_getI, wp_mMeth, wp_mMake, wp_mMt, wp_mLc, wp_mIt, wp_range1, wp_range2, wp_range3, wpS_for, isi_non_bool, isi_non_int, isi_non_str, isi_non_list, isi_non_tuple, isi_non_dict, isi_bl_bool, isi_bl_int, isi_bl_str, isi_bl_list, isi_bl_tuple, isi_bl_dict, isi_int_bool, isi_int_int, isi_int_str, isi_int_list, isi_int_tuple, isi_int_dict, isi_str_bool, isi_str_int, isi_str_str, isi_str_list, isi_str_tuple, isi_str_dict, isi_lst_bool, isi_lst_int, isi_lst_str, isi_lst_list, isi_lst_tuple, isi_lst_dict, isi_src_bool, isi_src_int, isi_src_str, isi_src_list, isi_src_tuple, isi_src_dict, isi_tup_bool, isi_tup_int, isi_tup_str, isi_tup_list, isi_tup_tuple, isi_tup_dict, isi_dct_bool, isi_dct_int, isi_dct_str, isi_dct_list, isi_dct_tuple, isi_dct_dict, g_nm, g_tp2, g_tp3, g_tp4, g_nil, g_cons, List.getElem?_cons_succ, List.getElem?_cons_zero, List.set_cons_succ, List.set_cons_zero, truD, if_false, Bool.false_eq_true, g0, decide_true, if_true]
      refine kont_nx ?_
      simp only [wpS_seq, wpS_gNm, wpS_asg, wpS_ifS, wpS_drop, wpS_ret, wpS_retN, wpS_stF, wpS_augF, wpS_augI, wpS_augV, wpS_par', wpS_par3', wpS_some, wpS_mNx, wpS_mCt, wpS_mBk, kont_rt, kont_ct, kont_bk, fin_rt, fin_nx, wp_mK, wp_v, vO_some, wp_ret, wp_bnd, wp_op, wp_op1, wp_call, wp_fn, wp_cons, wp_nil, wp_tup, wp_lst, wp_obj, wp_oNone, wp_oSome, intO_int, wp_sl, wp_mIf, wp_mAnd, wp_mOr, wp_mNot, wp_mB, wp_mAndV, wp_mOrV, wp_mNotV, wp_mChain, wp_mTru, isBl_bl, truO_some, x_addI, x_addJ, x_sub, x_mod, x_div, x_mul, x_pow, x_shl, x_shr, x_band, x_bor, x_bxor, x_lt, x_le, x_gt, x_ge, x_neg, x_eqI, x_neI, x_eqS, x_neS, x_isN, x_isNN, x_int, x_abs, x_max2, x_min2, x_d1, x_d2, x_mkL, x_mkT, x_mkO, x_mkD, x_mkDo, x_ix, ixO_some, x_len, lenO_some, x_list, wpO_some, x_slT, x_slL, x_addLL, x_addTT, blO_some, x_isi, wp_isiT, x_fld, x_getI, wp_mMeth, wp_mMake, wp_mMt, wp_mLc, wp_mIt, wp_range1, wp_range2, wp_range3, wpS_for, isi_non_bool, isi_non_int, isi_non_str, isi_non_list, isi_non_tuple, isi_non_dict, isi_bl_bool, isi_bl_int, isi_bl_str, isi_bl_list, isi_bl_tuple, isi_bl_dict, isi_int_bool, isi_int_int, isi_int_str, isi_int_list, isi_int_tuple, isi_int_dict, isi_str_bool, isi_str_int, isi_str_str, isi_str_list, isi_str_tuple, isi_str_dict, isi_lst_bool, isi_lst_int, isi_lst_str, isi_lst_list, isi_lst_tuple, isi_lst_dict, isi_src_bool, isi_src_int, isi_src_str, isi_src_list, isi_src_tuple, isi_src_dict, isi_tup_bool, isi_tup_int, isi_tup_str, isi_tup_list, isi_tup_tuple, isi_tup_dict, isi_dct_bool, isi_dct_int, isi_dct_str, isi_dct_list, isi_dct_tuple, isi_dct_dict, g_nm, g_tp2, g_tp3, g_tp4, g_nil, g_cons, List.getElem?_cons_succ, List.getElem?_cons_zero, List.set_cons_succ, List.set_cons_zero, truD, q_same]
      rw [wp_of (same_str (k := 11))]
      simp only [wpS_seq, wpS_gNm, wpS_asg, wpS_ifS, wpS_drop, wpS_ret, wpS_retN, wpS_stF, wpS_augF, wpS_augI, wpS_augV, wpS_par', wpS_par3', wpS_some, wpS_mNx, wpS_mCt, wpS_mBk, kont_rt, kont_ct, kont_bk, fin_rt, fin_nx, wp_mK, wp_v, vO_some, wp_ret, wp_bnd, wp_op, wp_op1, wp_call, wp_fn, wp_cons, wp_nil, wp_tup, wp_lst, wp_obj, wp_oNone, wp_oSome, intO_int, wp_sl, wp_mIf, wp_mAnd, wp_mOr, wp_mNot, wp_mB, wp_mAndV, wp_mOrV, wp_mNotV, wp_mChain, wp_mTru, isBl_bl, truO_some, x_addI, x_addJ, x_sub, x_mod, x_div, x_mul, x_pow, x_shl, x_shr, x_band, x_bor, x_bxor, x_lt, x_le, x_gt, x_ge, x_neg, x_eqI, x_neI, x_eqS, x_neS, x_isN, x_isNN, x_int, x_abs, x_max2, x_min2, x_d1, x_d2, x_mkL, x_mkT, x_mkO, x_mkD, x_mkDo, x_ix, ixO_some, x_len, lenO_some, x_list, wpO_some, x_slT, x_slL, x_addLL, x_addTT, blO_some, x_isi, wp_isiT, x_fld, x_getI, wp_mMeth, wp_mMake, wp_mMt, wp_mLc, wp_mIt, wp_range1, wp_range2, wp_range3, wpS_for, isi_non_bool, isi_non_int, isi_non_str, isi_non_list, isi_non_tuple, isi_non_dict, isi_bl_bool, isi_bl_int, isi_bl_str, isi_bl_list, isi_bl_tuple, isi_bl_dict, isi_int_bool, isi_int_int, isi_int_str, isi_int_list, isi_int_tuple, isi_int_dict, isi_str_bool, isi_str_int, isi_str_str, isi_str_list, isi_str_tuple, isi_str_dict, isi_lst_bool, isi_lst_int, isi_lst_str, isi_lst_list, isi_lst_tuple, isi_lst_dict, isi_src_bool, isi_src_int, isi_src_str, isi_src_list, isi_src_tuple, isi_src_dict, isi_tup_bool, isi_tup_int, isi_tup_str, isi_tup_list, isi_tup_tuple, isi_tup_dict, isi_dct_bool, isi_dct_int, isi_dct_str, isi_dct_list, isi_dct_tuple, isi_dct_dict, g_nm, g_tp2, g_tp3, g_tp4, g_nil, g_cons, List.getElem?_cons_succ, List.getElem?_cons_zero, List.set_cons_succ, List.set_cons_zero, truD, Bool.not_true, if_false, Bool.false_eq_true]
      refine kont_nx ?_
      simp only [wpS_seq, wpS_gNm, wpS_asg, wpS_ifS, wpS_drop, wpS_ret, wpS_retN, wpS_stF, wpS_augF, wpS_augI, wpS_augV, wpS_par', wpS_par3', wpS_some, wpS_mNx, wpS_mCt, wpS_mBk, kont_rt, kont_ct, kont_bk, fin_rt, fin_nx, wp_mK, wp_v, vO_some, wp_ret, wp_bnd, wp_op, wp_op1, wp_call, wp_fn, wp_cons, wp_nil, wp_tup, wp_lst, wp_obj, wp_oNone, wp_oSome, intO_int, wp_sl, wp_mIf, wp_mAnd, wp_mOr, wp_mNot, wp_mB, wp_mAndV, wp_mOrV, wp_mNotV, wp_mChain, wp_mTru, isBl_bl, truO_some, x_addI, x_addJ, x_sub, x_mod, x_div, x_mul, x_pow, x_shl, x_shr, x_band, x_bor, x_bxor, x_lt, x_le, x_gt, x_ge, x_neg, x_eqI, x_neI, x_eqS, x_neS, x_isN, x_isNN, x_int, x_abs, x_max2, x_min2, x_d1, x_d2, x_mkL, x_mkT, x_mkO, x_mkD, x_mkDo, x_ix, ixO_some, x_len, lenO_some, x_list, wpO_some, x_slT, x_slL, x_addLL, x_addTT, blO_some, x_isi, wp_isiT, x_fld, x_getI, wp_mMeth, wp_mMake, wp_mMt, wp_mLc, wp_mIt, wp_range1, wp_range2, wp_range3, wpS_for, isi_non_bool, isi_non_int, isi_non_str, isi_non_list, isi_non_tuple, isi_non_dict, isi_bl_bool, isi_bl_int, isi_bl_str, isi_bl_list, isi_bl_tuple, isi_bl_dict, isi_int_bool, isi_int_int, isi_int_str, isi_int_list, isi_int_tuple, isi_int_dict, isi_str_bool, isi_str_int, isi_str_str, isi_str_list, isi_str_tuple, isi_str_dict, isi_lst_bool, isi_lst_int, isi_lst_str, isi_lst_list, isi_lst_tuple, isi_lst_dict, isi_src_bool, isi_src_int, isi_src_str, isi_src_list, isi_src_tuple, isi_src_dict, isi_tup_bool, isi_tup_int, isi_tup_str, isi_tup_list, isi_tup_tuple, isi_tup_dict, isi_dct_bool, isi_dct_int, isi_dct_str, isi_dct_list, isi_dct_tuple, isi_dct_dict, g_nm, g_tp2, g_tp3, g_tp4, g_nil, g_cons, List.getElem?_cons_succ, List.getElem?_cons_zero, List.set_cons_succ, List.set_cons_zero, truD, decide_true, if_true, ixAt_dk W6.du, lk_fine, wpO_gIx, dSet_dk W6.du (by rw [cnt_len]; decide), pt_fine]
      refine kont_nx ?_
      exact tail_ok (W6.due (U' := cnt (a + 1) b cc 0 e 0)) hkk hwc hdb (by omega) (by omega) hi80 (by omega) (by omega) k
    · have W6 := W5.read fr6 gA gB
      subst hf
      have g1 : ((gone + 1 : Nat) : Int) - 1 = (gone : Int) := by omega
      rw [g1]
      exact lost_ok rfl W6 hkk hwc (by omega) hdb (by omega) (by omega) hi80 (by omega) (by omega) k
theorem same_int {S : MS} {k : Nat} {x : Int} : mSame (k + 1) [.int x, .int x] S = some (.ok (.bl true) S) := same_at (.inr (.inr (.inl ⟨_, rfl, rfl⟩)))
theorem fin_same {S : MS} {a b cc e f : Int} (h : S.get 4 = some (.dk (cnt a b cc 0 e f))) : mSame 12 [.dct (cnt a b cc 0 e f), .obj 4] S = some (.ok (.bl true) S) := by
  refine same_dct (k := 11) (kx := cnt a b cc 0 e f) (ky := cnt a b cc 0 e f) rfl (by unfold dctOf; dsimp only; rw [h]) rfl (by rw [cnt_len]; decide) fun p hp => ?_
  simp only [cnt, List.mem_cons, List.not_mem_nil, or_false] at hp
  rcases hp with rfl | rfl | rfl | rfl | rfl | rfl
  · exact ⟨_, _, lk_fine, lk_fine, fun S' => same_int⟩
  · exact ⟨_, _, lk_lost, lk_lost, fun S' => same_int⟩
  · exact ⟨_, _, lk_again, lk_again, fun S' => same_int⟩
  · exact ⟨_, _, lk_far, lk_far, fun S' => same_int⟩
  · exact ⟨_, _, lk_changed, lk_changed, fun S' => same_int⟩
  · exact ⟨_, _, lk_late, lk_late, fun S' => same_int⟩
theorem pure (ns : List Int) (h : ns.length ≤ 63) : ∃ S', m_law [.src (ns.map D.int)] S0 = some (.ok (.bl true) S') := by
  have main : wp (m_law [.src (ns.map D.int)]) S0 (fun v _ => v = .bl true) no := by
    rw [r_law]
    unfold b_law
    simp only [wpS_seq, wpS_gNm, wpS_asg, wpS_ifS, wpS_drop, wpS_ret, wpS_retN, wpS_stF, wpS_augF, wpS_augI, wpS_augV, wpS_par', wpS_par3', wpS_some, wpS_mNx, wpS_mCt, wpS_mBk, kont_rt, kont_ct, kont_bk, fin_rt, fin_nx, wp_mK, wp_v, vO_some, wp_ret, wp_bnd, wp_op, wp_op1, wp_call, wp_fn, wp_cons, wp_nil, wp_tup, wp_lst, wp_obj, wp_oNone, wp_oSome, intO_int, wp_sl, wp_mIf, wp_mAnd, wp_mOr, wp_mNot, wp_mB, wp_mAndV, wp_mOrV, wp_mNotV, wp_mChain, wp_mTru, isBl_bl, truO_some, x_addI, x_addJ, x_sub, x_mod, x_div, x_mul, x_pow, x_shl, x_shr, x_band, x_bor, x_bxor, x_lt, x_le, x_gt, x_ge, x_neg, x_eqI, x_neI, x_eqS, x_neS, x_isN, x_isNN, x_int, x_abs, x_max2, x_min2, x_d1, x_d2, x_mkL, x_mkT, x_mkO, x_mkD, x_mkDo, x_ix, ixO_some, x_len, lenO_some, x_list, wpO_some, x_slT, x_slL, x_addLL, x_addTT, blO_some, x_isi, wp_isiT, x_fld, x_getI, wp_mMeth, wp_mMake, wp_mMt, wp_mLc, wp_mIt, wp_range1, wp_range2, wp_range3, wpS_for, isi_non_bool, isi_non_int, isi_non_str, isi_non_list, isi_non_tuple, isi_non_dict, isi_bl_bool, isi_bl_int, isi_bl_str, isi_bl_list, isi_bl_tuple, isi_bl_dict, isi_int_bool, isi_int_int, isi_int_str, isi_int_list, isi_int_tuple, isi_int_dict, isi_str_bool, isi_str_int, isi_str_str, isi_str_list, isi_str_tuple, isi_str_dict, isi_lst_bool, isi_lst_int, isi_lst_str, isi_lst_list, isi_lst_tuple, isi_lst_dict, isi_src_bool, isi_src_int, isi_src_str, isi_src_list, isi_src_tuple, isi_src_dict, isi_tup_bool, isi_tup_int, isi_tup_str, isi_tup_list, isi_tup_tuple, isi_tup_dict, isi_dct_bool, isi_dct_int, isi_dct_str, isi_dct_list, isi_dct_tuple, isi_dct_dict, g_nm, g_tp2, g_tp3, g_tp4, g_nil, g_cons, List.getElem?_cons_succ, List.getElem?_cons_zero, List.set_cons_succ, List.set_cons_zero, truD, q_draws]
    refine draws_at (by omega) fun S1 d1 n1 f1 => kont_nx ?_
    have n1' : S1.nx = 1 := n1
    have d1' : DrO S1 0 := d1
    have z0 : S0.nx = 0 := rfl
    simp only [wpS_seq, wpS_gNm, wpS_asg, wpS_ifS, wpS_drop, wpS_ret, wpS_retN, wpS_stF, wpS_augF, wpS_augI, wpS_augV, wpS_par', wpS_par3', wpS_some, wpS_mNx, wpS_mCt, wpS_mBk, kont_rt, kont_ct, kont_bk, fin_rt, fin_nx, wp_mK, wp_v, vO_some, wp_ret, wp_bnd, wp_op, wp_op1, wp_call, wp_fn, wp_cons, wp_nil, wp_tup, wp_lst, wp_obj, wp_oNone, wp_oSome, intO_int, wp_sl, wp_mIf, wp_mAnd, wp_mOr, wp_mNot, wp_mB, wp_mAndV, wp_mOrV, wp_mNotV, wp_mChain, wp_mTru, isBl_bl, truO_some, x_addI, x_addJ, x_sub, x_mod, x_div, x_mul, x_pow, x_shl, x_shr, x_band, x_bor, x_bxor, x_lt, x_le, x_gt, x_ge, x_neg, x_eqI, x_neI, x_eqS, x_neS, x_isN, x_isNN, x_int, x_abs, x_max2, x_min2, x_d1, x_d2, x_mkL, x_mkT, x_mkO, x_mkD, x_mkDo, x_ix, ixO_some, x_len, lenO_some, x_list, wpO_some, x_slT, x_slL, x_addLL, x_addTT, blO_some, x_isi, wp_isiT, x_fld, x_getI, wp_mMeth, wp_mMake, wp_mMt, wp_mLc, wp_mIt, wp_range1, wp_range2, wp_range3, wpS_for, isi_non_bool, isi_non_int, isi_non_str, isi_non_list, isi_non_tuple, isi_non_dict, isi_bl_bool, isi_bl_int, isi_bl_str, isi_bl_list, isi_bl_tuple, isi_bl_dict, isi_int_bool, isi_int_int, isi_int_str, isi_int_list, isi_int_tuple, isi_int_dict, isi_str_bool, isi_str_int, isi_str_str, isi_str_list, isi_str_tuple, isi_str_dict, isi_lst_bool, isi_lst_int, isi_lst_str, isi_lst_list, isi_lst_tuple, isi_lst_dict, isi_src_bool, isi_src_int, isi_src_str, isi_src_list, isi_src_tuple, isi_src_dict, isi_tup_bool, isi_tup_int, isi_tup_str, isi_tup_list, isi_tup_tuple, isi_tup_dict, isi_dct_bool, isi_dct_int, isi_dct_str, isi_dct_list, isi_dct_tuple, isi_dct_dict, g_nm, g_tp2, g_tp3, g_tp4, g_nil, g_cons, List.getElem?_cons_succ, List.getElem?_cons_zero, List.set_cons_succ, List.set_cons_zero, truD, q_draw, z0]
    refine draw_at d1' (by decide) (by decide) fun v S2 v0 v1 dr2 => kont_nx ?_
    obtain ⟨kk, rfl⟩ := Int.eq_ofNat_of_zero_le v0
    have hkk : kk ≤ 65535 := by omega
    have n2 : S2.nx = 1 := dr2.nx.trans n1'
    simp only [wpS_seq, wpS_gNm, wpS_asg, wpS_ifS, wpS_drop, wpS_ret, wpS_retN, wpS_stF, wpS_augF, wpS_augI, wpS_augV, wpS_par', wpS_par3', wpS_some, wpS_mNx, wpS_mCt, wpS_mBk, kont_rt, kont_ct, kont_bk, fin_rt, fin_nx, wp_mK, wp_v, vO_some, wp_ret, wp_bnd, wp_op, wp_op1, wp_call, wp_fn, wp_cons, wp_nil, wp_tup, wp_lst, wp_obj, wp_oNone, wp_oSome, intO_int, wp_sl, wp_mIf, wp_mAnd, wp_mOr, wp_mNot, wp_mB, wp_mAndV, wp_mOrV, wp_mNotV, wp_mChain, wp_mTru, isBl_bl, truO_some, x_addI, x_addJ, x_sub, x_mod, x_div, x_mul, x_pow, x_shl, x_shr, x_band, x_bor, x_bxor, x_lt, x_le, x_gt, x_ge, x_neg, x_eqI, x_neI, x_eqS, x_neS, x_isN, x_isNN, x_int, x_abs, x_max2, x_min2, x_d1, x_d2, x_mkL, x_mkT, x_mkO, x_mkD, x_mkDo, x_ix, ixO_some, x_len, lenO_some, x_list, wpO_some, x_slT, x_slL, x_addLL, x_addTT, blO_some, x_isi, wp_isiT, x_fld, x_getI, wp_mMeth, wp_mMake, wp_mMt, wp_mLc, wp_mIt, wp_range1, wp_range2, wp_range3, wpS_for, isi_non_bool, isi_non_int, isi_non_str, isi_non_list, isi_non_tuple, isi_non_dict, isi_bl_bool, isi_bl_int, isi_bl_str, isi_bl_list, isi_bl_tuple, isi_bl_dict, isi_int_bool, isi_int_int, isi_int_str, isi_int_list, isi_int_tuple, isi_int_dict, isi_str_bool, isi_str_int, isi_str_str, isi_str_list, isi_str_tuple, isi_str_dict, isi_lst_bool, isi_lst_int, isi_lst_str, isi_lst_list, isi_lst_tuple, isi_lst_dict, isi_src_bool, isi_src_int, isi_src_str, isi_src_list, isi_src_tuple, isi_src_dict, isi_tup_bool, isi_tup_int, isi_tup_str, isi_tup_list, isi_tup_tuple, isi_tup_dict, isi_dct_bool, isi_dct_int, isi_dct_str, isi_dct_list, isi_dct_tuple, isi_dct_dict, g_nm, g_tp2, g_tp3, g_tp4, g_nil, g_cons, List.getElem?_cons_succ, List.getElem?_cons_zero, List.set_cons_succ, List.set_cons_zero, truD, n2]
    have gw : (S2.add (.ins c_Writer [])).get 1 = some (.ins c_Writer []) := if_pos n2.symm
    rw [w_winit gw]
    refine ⟨rfl, ?_⟩
    have n3 : ((S2.add (.ins c_Writer [])).set 1 (.ins c_Writer [.int kk, .int 0])).nx = 2 := by rw [nx_set, nx_add, n2]
    simp only [wpS_seq, wpS_gNm, wpS_asg, wpS_ifS, wpS_drop, wpS_ret, wpS_retN, wpS_stF, wpS_augF, wpS_augI, wpS_augV, wpS_par', wpS_par3', wpS_some, wpS_mNx, wpS_mCt, wpS_mBk, kont_rt, kont_ct, kont_bk, fin_rt, fin_nx, wp_mK, wp_v, vO_some, wp_ret, wp_bnd, wp_op, wp_op1, wp_call, wp_fn, wp_cons, wp_nil, wp_tup, wp_lst, wp_obj, wp_oNone, wp_oSome, intO_int, wp_sl, wp_mIf, wp_mAnd, wp_mOr, wp_mNot, wp_mB, wp_mAndV, wp_mOrV, wp_mNotV, wp_mChain, wp_mTru, isBl_bl, truO_some, x_addI, x_addJ, x_sub, x_mod, x_div, x_mul, x_pow, x_shl, x_shr, x_band, x_bor, x_bxor, x_lt, x_le, x_gt, x_ge, x_neg, x_eqI, x_neI, x_eqS, x_neS, x_isN, x_isNN, x_int, x_abs, x_max2, x_min2, x_d1, x_d2, x_mkL, x_mkT, x_mkO, x_mkD, x_mkDo, x_ix, ixO_some, x_len, lenO_some, x_list, wpO_some, x_slT, x_slL, x_addLL, x_addTT, blO_some, x_isi, wp_isiT, x_fld, x_getI, wp_mMeth, wp_mMake, wp_mMt, wp_mLc, wp_mIt, wp_range1, wp_range2, wp_range3, wpS_for, isi_non_bool, isi_non_int, isi_non_str, isi_non_list, isi_non_tuple, isi_non_dict, isi_bl_bool, isi_bl_int, isi_bl_str, isi_bl_list, isi_bl_tuple, isi_bl_dict, isi_int_bool, isi_int_int, isi_int_str, isi_int_list, isi_int_tuple, isi_int_dict, isi_str_bool, isi_str_int, isi_str_str, isi_str_list, isi_str_tuple, isi_str_dict, isi_lst_bool, isi_lst_int, isi_lst_str, isi_lst_list, isi_lst_tuple, isi_lst_dict, isi_src_bool, isi_src_int, isi_src_str, isi_src_list, isi_src_tuple, isi_src_dict, isi_tup_bool, isi_tup_int, isi_tup_str, isi_tup_list, isi_tup_tuple, isi_tup_dict, isi_dct_bool, isi_dct_int, isi_dct_str, isi_dct_list, isi_dct_tuple, isi_dct_dict, g_nm, g_tp2, g_tp3, g_tp4, g_nil, g_cons, List.getElem?_cons_succ, List.getElem?_cons_zero, List.set_cons_succ, List.set_cons_zero, truD, n3]
    have dr3 : DrO ((S2.add (.ins c_Writer [])).set 1 (.ins c_Writer [.int kk, .int 0])) 0 := by
      obtain ⟨ds, g, hd⟩ := dr2.dr
      refine ⟨ds, ?_, hd⟩
      rw [get_ne (by decide), get_add, n2, if_neg (by decide)]
      exact g
    have wr3 : WrO ((S2.add (.ins c_Writer [])).set 1 (.ins c_Writer [.int kk, .int 0])) 1 kk 0 := get_same
    generalize (S2.add (.ins c_Writer [])).set 1 (.ins c_Writer [.int kk, .int 0]) = S3 at n3 dr3 wr3 ⊢
    refine w_rinit (if_pos n3.symm) (by rw [nx_add, n3]) fun S4 n4 g42 g43 f4 => ⟨rfl, kont_nx ?_⟩
    have dr4 : DrO S4 0 := by
      obtain ⟨ds, g, hd⟩ := dr3
      exact ⟨ds, by rw [f4 0 (by decide), get_add, n3, if_neg (by decide)]; exact g, hd⟩
    have wr4 : WrO S4 1 kk 0 := by
      show S4.get 1 = _
      rw [f4 1 (by decide), get_add, n3, if_neg (by decide)]
      exact wr3
    simp only [wpS_seq, wpS_gNm, wpS_asg, wpS_ifS, wpS_drop, wpS_ret, wpS_retN, wpS_stF, wpS_augF, wpS_augI, wpS_augV, wpS_par', wpS_par3', wpS_some, wpS_mNx, wpS_mCt, wpS_mBk, kont_rt, kont_ct, kont_bk, fin_rt, fin_nx, wp_mK, wp_v, vO_some, wp_ret, wp_bnd, wp_op, wp_op1, wp_call, wp_fn, wp_cons, wp_nil, wp_tup, wp_lst, wp_obj, wp_oNone, wp_oSome, intO_int, wp_sl, wp_mIf, wp_mAnd, wp_mOr, wp_mNot, wp_mB, wp_mAndV, wp_mOrV, wp_mNotV, wp_mChain, wp_mTru, isBl_bl, truO_some, x_addI, x_addJ, x_sub, x_mod, x_div, x_mul, x_pow, x_shl, x_shr, x_band, x_bor, x_bxor, x_lt, x_le, x_gt, x_ge, x_neg, x_eqI, x_neI, x_eqS, x_neS, x_isN, x_isNN, x_int, x_abs, x_max2, x_min2, x_d1, x_d2, x_mkL, x_mkT, x_mkO, x_mkD, x_mkDo, x_ix, ixO_some, x_len, lenO_some, x_list, wpO_some, x_slT, x_slL, x_addLL, x_addTT, blO_some, x_isi, wp_isiT, x_fld, x_getI, wp_mMeth, wp_mMake, wp_mMt, wp_mLc, wp_mIt, wp_range1, wp_range2, wp_range3, wpS_for, isi_non_bool, isi_non_int, isi_non_str, isi_non_list, isi_non_tuple, isi_non_dict, isi_bl_bool, isi_bl_int, isi_bl_str, isi_bl_list, isi_bl_tuple, isi_bl_dict, isi_int_bool, isi_int_int, isi_int_str, isi_int_list, isi_int_tuple, isi_int_dict, isi_str_bool, isi_str_int, isi_str_str, isi_str_list, isi_str_tuple, isi_str_dict, isi_lst_bool, isi_lst_int, isi_lst_str, isi_lst_list, isi_lst_tuple, isi_lst_dict, isi_src_bool, isi_src_int, isi_src_str, isi_src_list, isi_src_tuple, isi_src_dict, isi_tup_bool, isi_tup_int, isi_tup_str, isi_tup_list, isi_tup_tuple, isi_tup_dict, isi_dct_bool, isi_dct_int, isi_dct_str, isi_dct_list, isi_dct_tuple, isi_dct_dict, g_nm, g_tp2, g_tp3, g_tp4, g_nil, g_cons, List.getElem?_cons_succ, List.getElem?_cons_zero, List.set_cons_succ, List.set_cons_zero, truD]
    refine kont_nx ?_
    have e : mDct mkDo [((mK (.str ("fine" : Str))), (mK (.int 0))), ((mK (.str ("lost" : Str))), (mK (.int 0))), ((mK (.str ("again" : Str))), (mK (.int 0))), ((mK (.str ("far" : Str))), (mK (.int 0))), ((mK (.str ("changed" : Str))), (mK (.int 0))), ((mK (.str ("late" : Str))), (mK (.int 0)))] [some (D.src (ns.map D.int)), some (.obj 0), some (.int (kk : Int)), some (.obj 1), some (.obj 2), some (.int 0), none, none, none, none, none, none, none, none, none, none, none, none, none, none] S4 = some (.ok (.obj 4) (S4.add (.dk (cnt 0 0 0 0 0 0)))) := by
      rw [← n4]
      rfl
    simp only [wpS_seq, wpS_gNm, wpS_asg, wpS_ifS, wpS_drop, wpS_ret, wpS_retN, wpS_stF, wpS_augF, wpS_augI, wpS_augV, wpS_par', wpS_par3', wpS_some, wpS_mNx, wpS_mCt, wpS_mBk, kont_rt, kont_ct, kont_bk, fin_rt, fin_nx, wp_mK, wp_v, vO_some, wp_ret, wp_bnd, wp_op, wp_op1, wp_call, wp_fn, wp_cons, wp_nil, wp_tup, wp_lst, wp_obj, wp_oNone, wp_oSome, intO_int, wp_sl, wp_mIf, wp_mAnd, wp_mOr, wp_mNot, wp_mB, wp_mAndV, wp_mOrV, wp_mNotV, wp_mChain, wp_mTru, isBl_bl, truO_some, x_addI, x_addJ, x_sub, x_mod, x_div, x_mul, x_pow, x_shl, x_shr, x_band, x_bor, x_bxor, x_lt, x_le, x_gt, x_ge, x_neg, x_eqI, x_neI, x_eqS, x_neS, x_isN, x_isNN, x_int, x_abs, x_max2, x_min2, x_d1, x_d2, x_mkL, x_mkT, x_mkO, x_mkD, x_mkDo, x_ix, ixO_some, x_len, lenO_some, x_list, wpO_some, x_slT, x_slL, x_addLL, x_addTT, blO_some, x_isi, wp_isiT, x_fld, x_getI, wp_mMeth, wp_mMake, wp_mMt, wp_mLc, wp_mIt, wp_range1, wp_range2, wp_range3, wpS_for, isi_non_bool, isi_non_int, isi_non_str, isi_non_list, isi_non_tuple, isi_non_dict, isi_bl_bool, isi_bl_int, isi_bl_str, isi_bl_list, isi_bl_tuple, isi_bl_dict, isi_int_bool, isi_int_int, isi_int_str, isi_int_list, isi_int_tuple, isi_int_dict, isi_str_bool, isi_str_int, isi_str_str, isi_str_list, isi_str_tuple, isi_str_dict, isi_lst_bool, isi_lst_int, isi_lst_str, isi_lst_list, isi_lst_tuple, isi_lst_dict, isi_src_bool, isi_src_int, isi_src_str, isi_src_list, isi_src_tuple, isi_src_dict, isi_tup_bool, isi_tup_int, isi_tup_str, isi_tup_list, isi_tup_tuple, isi_tup_dict, isi_dct_bool, isi_dct_int, isi_dct_str, isi_dct_list, isi_dct_tuple, isi_dct_dict, g_nm, g_tp2, g_tp3, g_tp4, g_nil, g_cons, List.getElem?_cons_succ, List.getElem?_cons_zero, List.set_cons_succ, List.set_cons_zero, truD]
    rw [wp_of e]
    refine kont_nx ?_
    have W5 : Wo (S4.add (.dk (cnt 0 0 0 0 0 0))) kk 0 0 50 .non .non (cnt 0 0 0 0 0 0) (cnt 0 0 0 0 0 0) := by
      refine ⟨by rw [nx_add, n4]; decide, ?_, ?_, ?_, ?_, ?_⟩
      · obtain ⟨ds, g, hd⟩ := dr4
        exact ⟨ds, by rw [get_add, n4, if_neg (by decide)]; exact g, hd⟩
      · show _ = _
        rw [get_add, n4, if_neg (by decide)]; exact wr4
      · rw [get_add, n4, if_neg (by decide)]; exact g42
      · rw [get_add, n4, if_neg (by decide)]; exact g43
      · rw [get_add, n4, if_pos rfl]
    generalize S4.add (.dk (cnt 0 0 0 0 0 0)) = S5 at W5 ⊢
    simp only [wpS_seq, wpS_gNm, wpS_asg, wpS_ifS, wpS_drop, wpS_ret, wpS_retN, wpS_stF, wpS_augF, wpS_augI, wpS_augV, wpS_par', wpS_par3', wpS_some, wpS_mNx, wpS_mCt, wpS_mBk, kont_rt, kont_ct, kont_bk, fin_rt, fin_nx, wp_mK, wp_v, vO_some, wp_ret, wp_bnd, wp_op, wp_op1, wp_call, wp_fn, wp_cons, wp_nil, wp_tup, wp_lst, wp_obj, wp_oNone, wp_oSome, intO_int, wp_sl, wp_mIf, wp_mAnd, wp_mOr, wp_mNot, wp_mB, wp_mAndV, wp_mOrV, wp_mNotV, wp_mChain, wp_mTru, isBl_bl, truO_some, x_addI, x_addJ, x_sub, x_mod, x_div, x_mul, x_pow, x_shl, x_shr, x_band, x_bor, x_bxor, x_lt, x_le, x_gt, x_ge, x_neg, x_eqI, x_neI, x_eqS, x_neS, x_isN, x_isNN, x_int, x_abs, x_max2, x_min2, x_d1, x_d2, x_mkL, x_mkT, x_mkO, x_mkD, x_mkDo, x_ix, ixO_some, x_len, lenO_some, x_list, wpO_some, x_slT, x_slL, x_addLL, x_addTT, blO_some, x_isi, wp_isiT, x_fld, x_getI, wp_mMeth, wp_mMake, wp_mMt, wp_mLc, wp_mIt, wp_range1, wp_range2, wp_range3, wpS_for, isi_non_bool, isi_non_int, isi_non_str, isi_non_list, isi_non_tuple, isi_non_dict, isi_bl_bool, isi_bl_int, isi_bl_str, isi_bl_list, isi_bl_tuple, isi_bl_dict, isi_int_bool, isi_int_int, isi_int_str, isi_int_list, isi_int_tuple, isi_int_dict, isi_str_bool, isi_str_int, isi_str_str, isi_str_list, isi_str_tuple, isi_str_dict, isi_lst_bool, isi_lst_int, isi_lst_str, isi_lst_list, isi_lst_tuple, isi_lst_dict, isi_src_bool, isi_src_int, isi_src_str, isi_src_list, isi_src_tuple, isi_src_dict, isi_tup_bool, isi_tup_int, isi_tup_str, isi_tup_list, isi_tup_tuple, isi_tup_dict, isi_dct_bool, isi_dct_int, isi_dct_str, isi_dct_list, isi_dct_tuple, isi_dct_dict, g_nm, g_tp2, g_tp3, g_tp4, g_nil, g_cons, List.getElem?_cons_succ, List.getElem?_cons_zero, List.set_cons_succ, List.set_cons_zero, truD]
    refine ⟨small_of (by simp), kont_nx ?_⟩
    simp only [wpS_seq, wpS_gNm, wpS_asg, wpS_ifS, wpS_drop, wpS_ret, wpS_retN, wpS_stF, wpS_augF, wpS_augI, wpS_augV, wpS_par', wpS_par3', wpS_some, wpS_mNx, wpS_mCt, wpS_mBk, kont_rt, kont_ct, kont_bk, fin_rt, fin_nx, wp_mK, wp_v, vO_some, wp_ret, wp_bnd, wp_op, wp_op1, wp_call, wp_fn, wp_cons, wp_nil, wp_tup, wp_lst, wp_obj, wp_oNone, wp_oSome, intO_int, wp_sl, wp_mIf, wp_mAnd, wp_mOr, wp_mNot, wp_mB, wp_mAndV, wp_mOrV, wp_mNotV, wp_mChain, wp_mTru, isBl_bl, truO_some, x_addI, x_addJ, x_sub, x_mod, x_div, x_mul, x_pow, x_shl, x_shr, x_band, x_bor, x_bxor, x_lt, x_le, x_gt, x_ge, x_neg, x_eqI, x_neI, x_eqS, x_neS, x_isN, x_isNN, x_int, x_abs, x_max2, x_min2, x_d1, x_d2, x_mkL, x_mkT, x_mkO, x_mkD, x_mkDo, x_ix, ixO_some, x_len, lenO_some, x_list, wpO_some, x_slT, x_slL, x_addLL, x_addTT, blO_some, x_isi, wp_isiT, x_fld, x_getI, wp_mMeth, wp_mMake, wp_mMt, wp_mLc, wp_mIt, wp_range1, wp_range2, wp_range3, wpS_for, isi_non_bool, isi_non_int, isi_non_str, isi_non_list, isi_non_tuple, isi_non_dict, isi_bl_bool, isi_bl_int, isi_bl_str, isi_bl_list, isi_bl_tuple, isi_bl_dict, isi_int_bool, isi_int_int, isi_int_str, isi_int_list, isi_int_tuple, isi_int_dict, isi_str_bool, isi_str_int, isi_str_str, isi_str_list, isi_str_tuple, isi_str_dict, isi_lst_bool, isi_lst_int, isi_lst_str, isi_lst_list, isi_lst_tuple, isi_lst_dict, isi_src_bool, isi_src_int, isi_src_str, isi_src_list, isi_src_tuple, isi_src_dict, isi_tup_bool, isi_tup_int, isi_tup_str, isi_tup_list, isi_tup_tuple, isi_tup_dict, isi_dct_bool, isi_dct_int, isi_dct_str, isi_dct_list, isi_dct_tuple, isi_dct_dict, g_nm, g_tp2, g_tp3, g_tp4, g_nil, g_cons, List.getElem?_cons_succ, List.getElem?_cons_zero, List.set_cons_succ, List.set_cons_zero, truD]
    refine kont_nx ?_
    simp only [wpS_seq, wpS_gNm, wpS_asg, wpS_ifS, wpS_drop, wpS_ret, wpS_retN, wpS_stF, wpS_augF, wpS_augI, wpS_augV, wpS_par', wpS_par3', wpS_some, wpS_mNx, wpS_mCt, wpS_mBk, kont_rt, kont_ct, kont_bk, fin_rt, fin_nx, wp_mK, wp_v, vO_some, wp_ret, wp_bnd, wp_op, wp_op1, wp_call, wp_fn, wp_cons, wp_nil, wp_tup, wp_lst, wp_obj, wp_oNone, wp_oSome, intO_int, wp_sl, wp_mIf, wp_mAnd, wp_mOr, wp_mNot, wp_mB, wp_mAndV, wp_mOrV, wp_mNotV, wp_mChain, wp_mTru, isBl_bl, truO_some, x_addI, x_addJ, x_sub, x_mod, x_div, x_mul, x_pow, x_shl, x_shr, x_band, x_bor, x_bxor, x_lt, x_le, x_gt, x_ge, x_neg, x_eqI, x_neI, x_eqS, x_neS, x_isN, x_isNN, x_int, x_abs, x_max2, x_min2, x_d1, x_d2, x_mkL, x_mkT, x_mkO, x_mkD, x_mkDo, x_ix, ixO_some, x_len, lenO_some, x_list, wpO_some, x_slT, x_slL, x_addLL, x_addTT, blO_some, x_isi, wp_isiT, x_fld, x_getI, wp_mMeth, wp_mMake, wp_mMt, wp_mLc, wp_mIt, wp_range1, wp_range2, wp_range3, wpS_for, isi_non_bool, isi_non_int, isi_non_str, isi_non_list, isi_non_tuple, isi_non_dict, isi_bl_bool, isi_bl_int, isi_bl_str, isi_bl_list, isi_bl_tuple, isi_bl_dict, isi_int_bool, isi_int_int, isi_int_str, isi_int_list, isi_int_tuple, isi_int_dict, isi_str_bool, isi_str_int, isi_str_str, isi_str_list, isi_str_tuple, isi_str_dict, isi_lst_bool, isi_lst_int, isi_lst_str, isi_lst_list, isi_lst_tuple, isi_lst_dict, isi_src_bool, isi_src_int, isi_src_str, isi_src_list, isi_src_tuple, isi_src_dict, isi_tup_bool, isi_tup_int, isi_tup_str, isi_tup_list, isi_tup_tuple, isi_tup_dict, isi_dct_bool, isi_dct_int, isi_dct_str, isi_dct_list, isi_dct_tuple, isi_dct_dict, g_nm, g_tp2, g_tp3, g_tp4, g_nil, g_cons, List.getElem?_cons_succ, List.getElem?_cons_zero, List.set_cons_succ, List.set_cons_zero, truD]
    refine draw_at W5.dr (by decide) (by decide) fun v S6 v0 v1 dr6 => ?_
    obtain ⟨m, rfl⟩ := Int.eq_ofNat_of_zero_le v0
    have W6 := W5.draw dr6
    have hr : rngD1 [D.int (20 + (m : Int))] = some (rngN 0 1 (20 + m)) := by
      have := rngD1_nat (n := 20 + m) (by omega)
      rw [← this]
      congr 2
    simp only [wpS_seq, wpS_gNm, wpS_asg, wpS_ifS, wpS_drop, wpS_ret, wpS_retN, wpS_stF, wpS_augF, wpS_augI, wpS_augV, wpS_par', wpS_par3', wpS_some, wpS_mNx, wpS_mCt, wpS_mBk, kont_rt, kont_ct, kont_bk, fin_rt, fin_nx, wp_mK, wp_v, vO_some, wp_ret, wp_bnd, wp_op, wp_op1, wp_call, wp_fn, wp_cons, wp_nil, wp_tup, wp_lst, wp_obj, wp_oNone, wp_oSome, intO_int, wp_sl, wp_mIf, wp_mAnd, wp_mOr, wp_mNot, wp_mB, wp_mAndV, wp_mOrV, wp_mNotV, wp_mChain, wp_mTru, isBl_bl, truO_some, x_addI, x_addJ, x_sub, x_mod, x_div, x_mul, x_pow, x_shl, x_shr, x_band, x_bor, x_bxor, x_lt, x_le, x_gt, x_ge, x_neg, x_eqI, x_neI, x_eqS, x_neS, x_isN, x_isNN, x_int, x_abs, x_max2, x_min2, x_d1, x_d2, x_mkL, x_mkT, x_mkO, x_mkD, x_mkDo, x_ix, ixO_some, x_len, lenO_some, x_list, wpO_some, x_slT, x_slL, x_addLL, x_addTT, blO_some, x_isi, wp_isiT, x_fld, x_getI, wp_mMeth, wp_mMake, wp_mMt, wp_mLc, wp_mIt, wp_range1, wp_range2, wp_range3, wpS_for, isi_non_bool, isi_non_int, isi_non_str, isi_non_list, isi_non_tuple, isi_non_dict, isi_bl_bool, isi_bl_int, isi_bl_str, isi_bl_list, isi_bl_tuple, isi_bl_dict, isi_int_bool, isi_int_int, isi_int_str, isi_int_list, isi_int_tuple, isi_int_dict, isi_str_bool, isi_str_int, isi_str_str, isi_str_list, isi_str_tuple, isi_str_dict, isi_lst_bool, isi_lst_int, isi_lst_str, isi_lst_list, isi_lst_tuple, isi_lst_dict, isi_src_bool, isi_src_int, isi_src_str, isi_src_list, isi_src_tuple, isi_src_dict, isi_tup_bool, isi_tup_int, isi_tup_str, isi_tup_list, isi_tup_tuple, isi_tup_dict, isi_dct_bool, isi_dct_int, isi_dct_str, isi_dct_list, isi_dct_tuple, isi_dct_dict, g_nm, g_tp2, g_tp3, g_tp4, g_nil, g_cons, List.getElem?_cons_succ, List.getElem?_cons_zero, List.set_cons_succ, List.set_cons_zero, truD, hr]
    refine loop_inv (LI ns kk) ⟨0, 0, 0, 0, 50, 0, 0, 0, 0, 0, true, .non, .non, none, none, none, none, none, none, none, none, none, none, rfl, W6, by decide, by decide, by decide, by decide, by decide, by decide, .inl ⟨rfl, rfl, rfl⟩⟩ ?_ ?_
    · rintro i d env S hi ⟨wc, gone, now, rn, bell, a, b, cc, e, f, first, ctr, last, o10, o11, o12, o13, o14, o15, o16, o17, o18, o19, rfl, W, hwc, hgone, hrn, hnow, hbell, hrn0, hst⟩
      have hi' : i < 20 + m := by
        have := (List.getElem?_eq_some_iff.mp hi).1
        rw [rngN_len] at this
        exact this
      simp only [wpS_seq, wpS_gNm, wpS_asg, wpS_ifS, wpS_drop, wpS_ret, wpS_retN, wpS_stF, wpS_augF, wpS_augI, wpS_augV, wpS_par', wpS_par3', wpS_some, wpS_mNx, wpS_mCt, wpS_mBk, kont_rt, kont_ct, kont_bk, fin_rt, fin_nx, wp_mK, wp_v, vO_some, wp_ret, wp_bnd, wp_op, wp_op1, wp_call, wp_fn, wp_cons, wp_nil, wp_tup, wp_lst, wp_obj, wp_oNone, wp_oSome, intO_int, wp_sl, wp_mIf, wp_mAnd, wp_mOr, wp_mNot, wp_mB, wp_mAndV, wp_mOrV, wp_mNotV, wp_mChain, wp_mTru, isBl_bl, truO_some, x_addI, x_addJ, x_sub, x_mod, x_div, x_mul, x_pow, x_shl, x_shr, x_band, x_bor, x_bxor, x_lt, x_le, x_gt, x_ge, x_neg, x_eqI, x_neI, x_eqS, x_neS, x_isN, x_isNN, x_int, x_abs, x_max2, x_min2, x_d1, x_d2, x_mkL, x_mkT, x_mkO, x_mkD, x_mkDo, x_ix, ixO_some, x_len, lenO_some, x_list, wpO_some, x_slT, x_slL, x_addLL, x_addTT, blO_some, x_isi, wp_isiT, x_fld, x_getI, wp_mMeth, wp_mMake, wp_mMt, wp_mLc, wp_mIt, wp_range1, wp_range2, wp_range3, wpS_for, isi_non_bool, isi_non_int, isi_non_str, isi_non_list, isi_non_tuple, isi_non_dict, isi_bl_bool, isi_bl_int, isi_bl_str, isi_bl_list, isi_bl_tuple, isi_bl_dict, isi_int_bool, isi_int_int, isi_int_str, isi_int_list, isi_int_tuple, isi_int_dict, isi_str_bool, isi_str_int, isi_str_str, isi_str_list, isi_str_tuple, isi_str_dict, isi_lst_bool, isi_lst_int, isi_lst_str, isi_lst_list, isi_lst_tuple, isi_lst_dict, isi_src_bool, isi_src_int, isi_src_str, isi_src_list, isi_src_tuple, isi_src_dict, isi_tup_bool, isi_tup_int, isi_tup_str, isi_tup_list, isi_tup_tuple, isi_tup_dict, isi_dct_bool, isi_dct_int, isi_dct_str, isi_dct_list, isi_dct_tuple, isi_dct_dict, g_nm, g_tp2, g_tp3, g_tp4, g_nil, g_cons, List.getElem?_cons_succ, List.getElem?_cons_zero, List.set_cons_succ, List.set_cons_zero, truD, q_draw]
      refine draw_at W.dr (by decide) (by decide) fun v S1 v0 v1 dr1 => ?_
      obtain ⟨len, rfl⟩ := Int.eq_ofNat_of_zero_le v0
      simp only [wpS_seq, wpS_gNm, wpS_asg, wpS_ifS, wpS_drop, wpS_ret, wpS_retN, wpS_stF, wpS_augF, wpS_augI, wpS_augV, wpS_par', wpS_par3', wpS_some, wpS_mNx, wpS_mCt, wpS_mBk, kont_rt, kont_ct, kont_bk, fin_rt, fin_nx, wp_mK, wp_v, vO_some, wp_ret, wp_bnd, wp_op, wp_op1, wp_call, wp_fn, wp_cons, wp_nil, wp_tup, wp_lst, wp_obj, wp_oNone, wp_oSome, intO_int, wp_sl, wp_mIf, wp_mAnd, wp_mOr, wp_mNot, wp_mB, wp_mAndV, wp_mOrV, wp_mNotV, wp_mChain, wp_mTru, isBl_bl, truO_some, x_addI, x_addJ, x_sub, x_mod, x_div, x_mul, x_pow, x_shl, x_shr, x_band, x_bor, x_bxor, x_lt, x_le, x_gt, x_ge, x_neg, x_eqI, x_neI, x_eqS, x_neS, x_isN, x_isNN, x_int, x_abs, x_max2, x_min2, x_d1, x_d2, x_mkL, x_mkT, x_mkO, x_mkD, x_mkDo, x_ix, ixO_some, x_len, lenO_some, x_list, wpO_some, x_slT, x_slL, x_addLL, x_addTT, blO_some, x_isi, wp_isiT, x_fld, x_getI, wp_mMeth, wp_mMake, wp_mMt, wp_mLc, wp_mIt, wp_range1, wp_range2, wp_range3, wpS_for, isi_non_bool, isi_non_int, isi_non_str, isi_non_list, isi_non_tuple, isi_non_dict, isi_bl_bool, isi_bl_int, isi_bl_str, isi_bl_list, isi_bl_tuple, isi_bl_dict, isi_int_bool, isi_int_int, isi_int_str, isi_int_list, isi_int_tuple, isi_int_dict, isi_str_bool, isi_str_int, isi_str_str, isi_str_list, isi_str_tuple, isi_str_dict, isi_lst_bool, isi_lst_int, isi_lst_str, isi_lst_list, isi_lst_tuple, isi_lst_dict, isi_src_bool, isi_src_int, isi_src_str, isi_src_list, isi_src_tuple, isi_src_dict, isi_tup_bool, isi_tup_int, isi_tup_str, isi_tup_list, isi_tup_tuple, isi_tup_dict, isi_dct_bool, isi_dct_int, isi_dct_str, isi_dct_list, isi_dct_tuple, isi_dct_dict, g_nm, g_tp2, g_tp3, g_tp4, g_nil, g_cons, List.getElem?_cons_succ, List.getElem?_cons_zero, List.set_cons_succ, List.set_cons_zero, truD, rngD1_nat (n := len) (by omega)]
      have W1 := W.draw dr1
      refine lc_draws (n := 0) (lim := 256) rfl (by decide) W1.dr (by decide) (by decide) fun data S2 hdl hdb dr2 => ?_
      rw [rngN_len] at hdl
      have W2 := W1.draw dr2
      refine ⟨small_of (by rw [List.length_map, hdl]; omega), small_of (by rw [List.length_map, hdl]; omega), kont_nx ?_⟩
      have hnn : (data.map fun x : Nat => D.int (x : Int)) = nn data := rfl
      rw [hnn]
      simp only [wpS_seq, wpS_gNm, wpS_asg, wpS_ifS, wpS_drop, wpS_ret, wpS_retN, wpS_stF, wpS_augF, wpS_augI, wpS_augV, wpS_par', wpS_par3', wpS_some, wpS_mNx, wpS_mCt, wpS_mBk, kont_rt, kont_ct, kont_bk, fin_rt, fin_nx, wp_mK, wp_v, vO_some, wp_ret, wp_bnd, wp_op, wp_op1, wp_call, wp_fn, wp_cons, wp_nil, wp_tup, wp_lst, wp_obj, wp_oNone, wp_oSome, intO_int, wp_sl, wp_mIf, wp_mAnd, wp_mOr, wp_mNot, wp_mB, wp_mAndV, wp_mOrV, wp_mNotV, wp_mChain, wp_mTru, isBl_bl, truO_some, x_addI, x_addJ, x_sub, x_mod, x_div, x_mul, x_pow, x_shl, x_shr, x_band, x_bor, x_bxor, x_lt, x_le, x_gt, x_ge, x_neg, x_eqI, x_neI, x_eqS, x_neS, x_isN, x_isNN, x_int, x_abs, x_max2, x_min2, x_d1, x_d2, x_mkL, x_mkT, x_mkO, x_mkD, x_mkDo, x_ix, ixO_some, x_len, lenO_some, x_list, wpO_some, x_slT, x_slL, x_addLL, x_addTT, blO_some, x_isi, wp_isiT, x_fld, x_getI, wp_mMeth, wp_mMake, wp_mMt, wp_mLc, wp_mIt, wp_range1, wp_range2, wp_range3, wpS_for, isi_non_bool, isi_non_int, isi_non_str, isi_non_list, isi_non_tuple, isi_non_dict, isi_bl_bool, isi_bl_int, isi_bl_str, isi_bl_list, isi_bl_tuple, isi_bl_dict, isi_int_bool, isi_int_int, isi_int_str, isi_int_list, isi_int_tuple, isi_int_dict, isi_str_bool, isi_str_int, isi_str_str, isi_str_list, isi_str_tuple, isi_str_dict, isi_lst_bool, isi_lst_int, isi_lst_str, isi_lst_list, isi_lst_tuple, isi_lst_dict, isi_src_bool, isi_src_int, isi_src_str, isi_src_list, isi_src_tuple, isi_src_dict, isi_tup_bool, isi_tup_int, isi_tup_str, isi_tup_list, isi_tup_tuple, isi_tup_dict, isi_dct_bool, isi_dct_int, isi_dct_str, isi_dct_list, isi_dct_tuple, isi_dct_dict, g_nm, g_tp2, g_tp3, g_tp4, g_nil, g_cons, List.getElem?_cons_succ, List.getElem?_cons_zero, List.set_cons_succ, List.set_cons_zero, truD, ins_obj W2.wr]
      rw [w_write (ns := data) W2.wr rfl hdb (by omega) hwc (by omega)]
      refine kont_nx ?_
      have W3 := W2.write (wc' := (wc + 1) % 15)
      generalize S2.set 1 (.ins c_Writer [.int (kk : Int), .int (((wc + 1) % 15 : Nat) : Int)]) = S3 at W3 ⊢
      simp only [wpS_seq, wpS_gNm, wpS_asg, wpS_ifS, wpS_drop, wpS_ret, wpS_retN, wpS_stF, wpS_augF, wpS_augI, wpS_augV, wpS_par', wpS_par3', wpS_some, wpS_mNx, wpS_mCt, wpS_mBk, kont_rt, kont_ct, kont_bk, fin_rt, fin_nx, wp_mK, wp_v, vO_some, wp_ret, wp_bnd, wp_op, wp_op1, wp_call, wp_fn, wp_cons, wp_nil, wp_tup, wp_lst, wp_obj, wp_oNone, wp_oSome, intO_int, wp_sl, wp_mIf, wp_mAnd, wp_mOr, wp_mNot, wp_mB, wp_mAndV, wp_mOrV, wp_mNotV, wp_mChain, wp_mTru, isBl_bl, truO_some, x_addI, x_addJ, x_sub, x_mod, x_div, x_mul, x_pow, x_shl, x_shr, x_band, x_bor, x_bxor, x_lt, x_le, x_gt, x_ge, x_neg, x_eqI, x_neI, x_eqS, x_neS, x_isN, x_isNN, x_int, x_abs, x_max2, x_min2, x_d1, x_d2, x_mkL, x_mkT, x_mkO, x_mkD, x_mkDo, x_ix, ixO_some, x_len, lenO_some, x_list, wpO_some, x_slT, x_slL, x_addLL, x_addTT, blO_some, x_isi, wp_isiT, x_fld, x_getI, wp_mMeth, wp_mMake, wp_mMt, wp_mLc, wp_mIt, wp_range1, wp_range2, wp_range3, wpS_for, isi_non_bool, isi_non_int, isi_non_str, isi_non_list, isi_non_tuple, isi_non_dict, isi_bl_bool, isi_bl_int, isi_bl_str, isi_bl_list, isi_bl_tuple, isi_bl_dict, isi_int_bool, isi_int_int, isi_int_str, isi_int_list, isi_int_tuple, isi_int_dict, isi_str_bool, isi_str_int, isi_str_str, isi_str_list, isi_str_tuple, isi_str_dict, isi_lst_bool, isi_lst_int, isi_lst_str, isi_lst_list, isi_lst_tuple, isi_lst_dict, isi_src_bool, isi_src_int, isi_src_str, isi_src_list, isi_src_tuple, isi_src_dict, isi_tup_bool, isi_tup_int, isi_tup_str, isi_tup_list, isi_tup_tuple, isi_tup_dict, isi_dct_bool, isi_dct_int, isi_dct_str, isi_dct_list, isi_dct_tuple, isi_dct_dict, g_nm, g_tp2, g_tp3, g_tp4, g_nil, g_cons, List.getElem?_cons_succ, List.getElem?_cons_zero, List.set_cons_succ, List.set_cons_zero, truD]
      refine draw_at W3.dr (by decide) (by decide) fun kind S4 k0 k1 dr4 => kont_nx ?_
      have W4 := W3.draw dr4
      simp only [wpS_seq, wpS_gNm, wpS_asg, wpS_ifS, wpS_drop, wpS_ret, wpS_retN, wpS_stF, wpS_augF, wpS_augI, wpS_augV, wpS_par', wpS_par3', wpS_some, wpS_mNx, wpS_mCt, wpS_mBk, kont_rt, kont_ct, kont_bk, fin_rt, fin_nx, wp_mK, wp_v, vO_some, wp_ret, wp_bnd, wp_op, wp_op1, wp_call, wp_fn, wp_cons, wp_nil, wp_tup, wp_lst, wp_obj, wp_oNone, wp_oSome, intO_int, wp_sl, wp_mIf, wp_mAnd, wp_mOr, wp_mNot, wp_mB, wp_mAndV, wp_mOrV, wp_mNotV, wp_mChain, wp_mTru, isBl_bl, truO_some, x_addI, x_addJ, x_sub, x_mod, x_div, x_mul, x_pow, x_shl, x_shr, x_band, x_bor, x_bxor, x_lt, x_le, x_gt, x_ge, x_neg, x_eqI, x_neI, x_eqS, x_neS, x_isN, x_isNN, x_int, x_abs, x_max2, x_min2, x_d1, x_d2, x_mkL, x_mkT, x_mkO, x_mkD, x_mkDo, x_ix, ixO_some, x_len, lenO_some, x_list, wpO_some, x_slT, x_slL, x_addLL, x_addTT, blO_some, x_isi, wp_isiT, x_fld, x_getI, wp_mMeth, wp_mMake, wp_mMt, wp_mLc, wp_mIt, wp_range1, wp_range2, wp_range3, wpS_for, isi_non_bool, isi_non_int, isi_non_str, isi_non_list, isi_non_tuple, isi_non_dict, isi_bl_bool, isi_bl_int, isi_bl_str, isi_bl_list, isi_bl_tuple, isi_bl_dict, isi_int_bool, isi_int_int, isi_int_str, isi_int_list, isi_int_tuple, isi_int_dict, isi_str_bool, isi_str_int, isi_str_str, isi_str_list, isi_str_tuple, isi_str_dict, isi_lst_bool, isi_lst_int, isi_lst_str, isi_lst_list, isi_lst_tuple, isi_lst_dict, isi_src_bool, isi_src_int, isi_src_str, isi_src_list, isi_src_tuple, isi_src_dict, isi_tup_bool, isi_tup_int, isi_tup_str, isi_tup_list, isi_tup_tuple, isi_tup_dict, isi_dct_bool, isi_dct_int, isi_dct_str, isi_dct_list, isi_dct_tuple, isi_dct_dict, g_nm, g_tp2, g_tp3, g_tp4, g_nil, g_cons, List.getElem?_cons_succ, List.getElem?_cons_zero, List.set_cons_succ, List.set_cons_zero, truD]
      refine ⟨small_of (by simp), ?_⟩
      refine draw_at W4.dr (by decide) (by decide) fun v S5 v0 v1 dr5 => ?_
      have W5 := W4.draw dr5
      have hst3 : ∃ w : Int, atI [D.int 1, D.int 10, D.int 49] v = some (.int w) ∧ 1 ≤ w ∧ w ≤ 49 := by
        have : v = 0 ∨ v = 1 ∨ v = 2 := by omega
        rcases this with rfl | rfl | rfl
        · exact ⟨1, rfl, by decide, by decide⟩
        · exact ⟨10, rfl, by decide, by decide⟩
        · exact ⟨49, rfl, by decide, by decide⟩
      obtain ⟨w, hw, w0, w1⟩ := hst3
      simp only [wpS_seq, wpS_gNm, wpS_asg, wpS_ifS, wpS_drop, wpS_ret, wpS_retN, wpS_stF, wpS_augF, wpS_augI, wpS_augV, wpS_par', wpS_par3', wpS_some, wpS_mNx, wpS_mCt, wpS_mBk, kont_rt, kont_ct, kont_bk, fin_rt, fin_nx, wp_mK, wp_v, vO_some, wp_ret, wp_bnd, wp_op, wp_op1, wp_call, wp_fn, wp_cons, wp_nil, wp_tup, wp_lst, wp_obj, wp_oNone, wp_oSome, intO_int, wp_sl, wp_mIf, wp_mAnd, wp_mOr, wp_mNot, wp_mB, wp_mAndV, wp_mOrV, wp_mNotV, wp_mChain, wp_mTru, isBl_bl, truO_some, x_addI, x_addJ, x_sub, x_mod, x_div, x_mul, x_pow, x_shl, x_shr, x_band, x_bor, x_bxor, x_lt, x_le, x_gt, x_ge, x_neg, x_eqI, x_neI, x_eqS, x_neS, x_isN, x_isNN, x_int, x_abs, x_max2, x_min2, x_d1, x_d2, x_mkL, x_mkT, x_mkO, x_mkD, x_mkDo, x_ix, ixO_some, x_len, lenO_some, x_list, wpO_some, x_slT, x_slL, x_addLL, x_addTT, blO_some, x_isi, wp_isiT, x_fld, x_getI, wp_mMeth, wp_mMake, wp_mMt, wp_mLc, wp_mIt, wp_range1, wp_range2, wp_range3, wpS_for, isi_non_bool, isi_non_int, isi_non_str, isi_non_list, isi_non_tuple, isi_non_dict, isi_bl_bool, isi_bl_int, isi_bl_str, isi_bl_list, isi_bl_tuple, isi_bl_dict, isi_int_bool, isi_int_int, isi_int_str, isi_int_list, isi_int_tuple, isi_int_dict, isi_str_bool, isi_str_int, isi_str_str, isi_str_list, isi_str_tuple, isi_str_dict, isi_lst_bool, isi_lst_int, isi_lst_str, isi_lst_list, isi_lst_tuple, isi_lst_dict, isi_src_bool, isi_src_int, isi_src_str, isi_src_list, isi_src_tuple, isi_src_dict, isi_tup_bool, isi_tup_int, isi_tup_str, isi_tup_list, isi_tup_tuple, isi_tup_dict, isi_dct_bool, isi_dct_int, isi_dct_str, isi_dct_list, isi_dct_tuple, isi_dct_dict, g_nm, g_tp2, g_tp3, g_tp4, g_nil, g_cons, List.getElem?_cons_succ, List.getElem?_cons_zero, List.set_cons_succ, List.set_cons_zero, truD, ixAt_L, hw]
      refine kont_nx ?_
      simp only [wpS_seq, wpS_gNm, wpS_asg, wpS_ifS, wpS_drop, wpS_ret, wpS_retN, wpS_stF, wpS_augF, wpS_augI, wpS_augV, wpS_par', wpS_par3', wpS_some, wpS_mNx, wpS_mCt, wpS_mBk, kont_rt, kont_ct, kont_bk, fin_rt, fin_nx, wp_mK, wp_v, vO_some, wp_ret, wp_bnd, wp_op, wp_op1, wp_call, wp_fn, wp_cons, wp_nil, wp_tup, wp_lst, wp_obj, wp_oNone, wp_oSome, intO_int, wp_sl, wp_mIf, wp_mAnd, wp_mOr, wp_mNot, wp_mB, wp_mAndV, wp_mOrV, wp_mNotV, wp_mChain, wp_mTru, isBl_bl, truO_some, x_addI, x_addJ, x_sub, x_mod, x_div, x_mul, x_pow, x_shl, x_shr, x_band, x_bor, x_bxor, x_lt, x_le, x_gt, x_ge, x_neg, x_eqI, x_neI, x_eqS, x_neS, x_isN, x_isNN, x_int, x_abs, x_max2, x_min2, x_d1, x_d2, x_mkL, x_mkT, x_mkO, x_mkD, x_mkDo, x_ix, ixO_some, x_len, lenO_some, x_list, wpO_some, x_slT, x_slL, x_addLL, x_addTT, blO_some, x_isi, wp_isiT, x_fld, x_getI, wp_mMeth, wp_mMake, wp_mMt, wp_mLc, wp_mIt, wp_range1, wp_range2, wp_range3, wpS_for, isi_non_bool, isi_non_int, isi_non_str, isi_non_list, isi_non_tuple, isi_non_dict, isi_bl_bool, isi_bl_int, isi_bl_str, isi_bl_list, isi_bl_tuple, isi_bl_dict, isi_int_bool, isi_int_int, isi_int_str, isi_int_list, isi_int_tuple, isi_int_dict, isi_str_bool, isi_str_int, isi_str_str, isi_str_list, isi_str_tuple, isi_str_dict, isi_lst_bool, isi_lst_int, isi_lst_str, isi_lst_list, isi_lst_tuple, isi_lst_dict, isi_src_bool, isi_src_int, isi_src_str, isi_src_list, isi_src_tuple, isi_src_dict, isi_tup_bool, isi_tup_int, isi_tup_str, isi_tup_list, isi_tup_tuple, isi_tup_dict, isi_dct_bool, isi_dct_int, isi_dct_str, isi_dct_list, isi_dct_tuple, isi_dct_dict, g_nm, g_tp2, g_tp3, g_tp4, g_nil, g_cons, List.getElem?_cons_succ, List.getElem?_cons_zero, List.set_cons_succ, List.set_cons_zero, truD, decide_eq_true_eq]
      have hi80 : i ≤ 80 := by omega
      by_cases hA : kind < 3 ∧ (gone : Int) < 13
      case pos =>
        rw [if_pos hA.1, if_pos hA.2]
        refine kont_nx ?_
        exact turnA W5 hkk hwc hgone hrn hnow hbell hrn0 w0 w1 hi80 hdb (by omega) hst hA.2 fun env S h => h
      case neg =>
        by_cases h3 : kind < 3
        · rw [if_pos h3, if_neg (fun z => hA ⟨h3, z⟩)]
          refine kont_nx ?_
          exact turnB W5 hkk hwc hgone hrn hnow hbell hrn0 w0 w1 hi80 hdb (by omega) hst fun env S h => h
        · rw [if_neg h3]
          refine kont_nx ?_
          exact turnB W5 hkk hwc hgone hrn hnow hbell hrn0 w0 w1 hi80 hdb (by omega) hst fun env S h => h
    · rintro env S ⟨wc, gone, now, rn, bell, a, b, cc, e, f, first, ctr, last, o10, o11, o12, o13, o14, o15, o16, o17, o18, o19, rfl, W, hwc, hgone, hrn, hnow, hbell, hrn0, hst⟩
      refine kont_nx ?_
      simp only [wpS_seq, wpS_gNm, wpS_asg, wpS_ifS, wpS_drop, wpS_ret, wpS_retN, wpS_stF, wpS_augF, wpS_augI, wpS_augV, wpS_par', wpS_par3', wpS_some, wpS_mNx, wpS_mCt, wpS_mBk, kont_rt, kont_ct, kont_bk, fin_rt, fin_nx, wp_mK, wp_v, vO_some, wp_ret, wp_bnd, wp_op, wp_op1, wp_call, wp_fn, wp_cons, wp_nil, wp_tup, wp_lst, wp_obj, wp_oNone, wp_oSome, intO_int, wp_sl, wp_mIf, wp_mAnd, wp_mOr, wp_mNot, wp_mB, wp_mAndV, wp_mOrV, wp_mNotV, wp_mChain, wp_mTru, isBl_bl, truO_some, x_addI, x_addJ, x_sub, x_mod, x_div, x_mul, x_pow, x_shl, x_shr, x_band, x_bor, x_bxor, x_lt, x_le, x_gt, x_ge, x_neg, x_eqI, x_neI, x_eqS, x_neS, x_isN, x_isNN, x_int, x_abs, x_max2, x_min2, x_d1, x_d2, x_mkL, x_mkT, x_mkO, x_mkD, x_mkDo, x_ix, ixO_some, x_len, lenO_some, x_list, wpO_some, x_slT, x_slL, x_addLL, x_addTT, blO_some, x_isi, wp_isiT, x_fld, x_getI, wp_mMeth, wp_mMake, wp_mMt, wp_mLc, wp_mIt, wp_range1, wp_range2, wp_range3, wpS_for, isi_non_bool, isi_non_int, isi_non_str, isi_non_list, isi_non_tuple, isi_non_dict, isi_bl_bool, isi_bl_int, isi_bl_str, isi_bl_list, isi_bl_tuple, isi_bl_dict, isi_int_bool, isi_int_int, isi_int_str, isi_int_list, isi_int_tuple, isi_int_dict, isi_str_bool, isi_str_int, isi_str_str, isi_str_list, isi_str_tuple, isi_str_dict, isi_lst_bool, isi_lst_int, isi_lst_str, isi_lst_list, isi_lst_tuple, isi_lst_dict, isi_src_bool, isi_src_int, isi_src_str, isi_src_list, isi_src_tuple, isi_src_dict, isi_tup_bool, isi_tup_int, isi_tup_str, isi_tup_list, isi_tup_tuple, isi_tup_dict, isi_dct_bool, isi_dct_int, isi_dct_str, isi_dct_list, isi_dct_tuple, isi_dct_dict, g_nm, g_tp2, g_tp3, g_tp4, g_nil, g_cons, List.getElem?_cons_succ, List.getElem?_cons_zero, List.set_cons_succ, List.set_cons_zero, truD, ins_obj W.rd]
      rw [x_tally W.rd W.cn]
      refine kont_nx ?_
      simp only [wpS_seq, wpS_gNm, wpS_asg, wpS_ifS, wpS_drop, wpS_ret, wpS_retN, wpS_stF, wpS_augF, wpS_augI, wpS_augV, wpS_par', wpS_par3', wpS_some, wpS_mNx, wpS_mCt, wpS_mBk, kont_rt, kont_ct, kont_bk, fin_rt, fin_nx, wp_mK, wp_v, vO_some, wp_ret, wp_bnd, wp_op, wp_op1, wp_call, wp_fn, wp_cons, wp_nil, wp_tup, wp_lst, wp_obj, wp_oNone, wp_oSome, intO_int, wp_sl, wp_mIf, wp_mAnd, wp_mOr, wp_mNot, wp_mB, wp_mAndV, wp_mOrV, wp_mNotV, wp_mChain, wp_mTru, isBl_bl, truO_some, x_addI, x_addJ, x_sub, x_mod, x_div, x_mul, x_pow, x_shl, x_shr, x_band, x_bor, x_bxor, x_lt, x_le, x_gt, x_ge, x_neg, x_eqI, x_neI, x_eqS, x_neS, x_isN, x_isNN, x_int, x_abs, x_max2, x_min2, x_d1, x_d2, x_mkL, x_mkT, x_mkO, x_mkD, x_mkDo, x_ix, ixO_some, x_len, lenO_some, x_list, wpO_some, x_slT, x_slL, x_addLL, x_addTT, blO_some, x_isi, wp_isiT, x_fld, x_getI, wp_mMeth, wp_mMake, wp_mMt, wp_mLc, wp_mIt, wp_range1, wp_range2, wp_range3, wpS_for, isi_non_bool, isi_non_int, isi_non_str, isi_non_list, isi_non_tuple, isi_non_dict, isi_bl_bool, isi_bl_int, isi_bl_str, isi_bl_list, isi_bl_tuple, isi_bl_dict, isi_int_bool, isi_int_int, isi_int_str, isi_int_list, isi_int_tuple, isi_int_dict, isi_str_bool, isi_str_int, isi_str_str, isi_str_list, isi_str_tuple, isi_str_dict, isi_lst_bool, isi_lst_int, isi_lst_str, isi_lst_list, isi_lst_tuple, isi_lst_dict, isi_src_bool, isi_src_int, isi_src_str, isi_src_list, isi_src_tuple, isi_src_dict, isi_tup_bool, isi_tup_int, isi_tup_str, isi_tup_list, isi_tup_tuple, isi_tup_dict, isi_dct_bool, isi_dct_int, isi_dct_str, isi_dct_list, isi_dct_tuple, isi_dct_dict, g_nm, g_tp2, g_tp3, g_tp4, g_nil, g_cons, List.getElem?_cons_succ, List.getElem?_cons_zero, List.set_cons_succ, List.set_cons_zero, truD, ixAt_dct, lk_late, wpO_gIx, dSet_dk W.du (by rw [cnt_len]; decide), pt_late]
      refine kont_nx ?_
      have W2 := W.due (U' := cnt a b cc 0 e f)
      generalize S.set 4 (.dk (cnt a b cc 0 e f)) = S2 at W2 ⊢
      simp only [wpS_seq, wpS_gNm, wpS_asg, wpS_ifS, wpS_drop, wpS_ret, wpS_retN, wpS_stF, wpS_augF, wpS_augI, wpS_augV, wpS_par', wpS_par3', wpS_some, wpS_mNx, wpS_mCt, wpS_mBk, kont_rt, kont_ct, kont_bk, fin_rt, fin_nx, wp_mK, wp_v, vO_some, wp_ret, wp_bnd, wp_op, wp_op1, wp_call, wp_fn, wp_cons, wp_nil, wp_tup, wp_lst, wp_obj, wp_oNone, wp_oSome, intO_int, wp_sl, wp_mIf, wp_mAnd, wp_mOr, wp_mNot, wp_mB, wp_mAndV, wp_mOrV, wp_mNotV, wp_mChain, wp_mTru, isBl_bl, truO_some, x_addI, x_addJ, x_sub, x_mod, x_div, x_mul, x_pow, x_shl, x_shr, x_band, x_bor, x_bxor, x_lt, x_le, x_gt, x_ge, x_neg, x_eqI, x_neI, x_eqS, x_neS, x_isN, x_isNN, x_int, x_abs, x_max2, x_min2, x_d1, x_d2, x_mkL, x_mkT, x_mkO, x_mkD, x_mkDo, x_ix, ixO_some, x_len, lenO_some, x_list, wpO_some, x_slT, x_slL, x_addLL, x_addTT, blO_some, x_isi, wp_isiT, x_fld, x_getI, wp_mMeth, wp_mMake, wp_mMt, wp_mLc, wp_mIt, wp_range1, wp_range2, wp_range3, wpS_for, isi_non_bool, isi_non_int, isi_non_str, isi_non_list, isi_non_tuple, isi_non_dict, isi_bl_bool, isi_bl_int, isi_bl_str, isi_bl_list, isi_bl_tuple, isi_bl_dict, isi_int_bool, isi_int_int, isi_int_str, isi_int_list, isi_int_tuple, isi_int_dict, isi_str_bool, isi_str_int, isi_str_str, isi_str_list, isi_str_tuple, isi_str_dict, isi_lst_bool, isi_lst_int, isi_lst_str, isi_lst_list, isi_lst_tuple, isi_lst_dict, isi_src_bool, isi_src_int, isi_src_str, isi_src_list, isi_src_tuple, isi_src_dict, isi_tup_bool, isi_tup_int, isi_tup_str, isi_tup_list, isi_tup_tuple, isi_tup_dict, isi_dct_bool, isi_dct_int, isi_dct_str, isi_dct_list, isi_dct_tuple, isi_dct_dict, g_nm, g_tp2, g_tp3, g_tp4, g_nil, g_cons, List.getElem?_cons_succ, List.getElem?_cons_zero, List.set_cons_succ, List.set_cons_zero, truD, q_same]
      rw [wp_of (fin_same W2.du)]
      simp only [wpS_seq, wpS_gNm, wpS_asg, wpS_ifS, wpS_drop, wpS_ret, wpS_retN, wpS_stF, wpS_augF, wpS_augI, wpS_augV, wpS_par', wpS_par3', wpS_some, wpS_mNx, wpS_mCt, wpS_mBk, kont_rt, kont_ct, kont_bk, fin_rt, fin_nx, wp_mK, wp_v, vO_some, wp_ret, wp_bnd, wp_op, wp_op1, wp_call, wp_fn, wp_cons, wp_nil, wp_tup, wp_lst, wp_obj, wp_oNone, wp_oSome, intO_int, wp_sl, wp_mIf, wp_mAnd, wp_mOr, wp_mNot, wp_mB, wp_mAndV, wp_mOrV, wp_mNotV, wp_mChain, wp_mTru, isBl_bl, truO_some, x_addI, x_addJ, x_sub, x_mod, x_div, x_mul, x_pow, x_shl, x_shr, x_band, x_bor, x_bxor, x_lt, x_le, x_gt, x_ge, x_neg, x_eqI, x_neI, x_eqS, x_neS, x_isN, x_isNN, x_int, x_abs, x_max2, x_min2, x_d1, x_d2, x_mkL, x_mkT, x_mkO, x_mkD, x_mkDo, x_ix, ixO_some, x_len, lenO_some, x_list, wpO_some, x_slT, x_slL, x_addLL, x_addTT, blO_some, x_isi, wp_isiT, x_fld, x_getI, wp_mMeth, wp_mMake, wp_mMt, wp_mLc, wp_mIt, wp_range1, wp_range2, wp_range3, wpS_for, isi_non_bool, isi_non_int, isi_non_str, isi_non_list, isi_non_tuple, isi_non_dict, isi_bl_bool, isi_bl_int, isi_bl_str, isi_bl_list, isi_bl_tuple, isi_bl_dict, isi_int_bool, isi_int_int, isi_int_str, isi_int_list, isi_int_tuple, isi_int_dict, isi_str_bool, isi_str_int, isi_str_str, isi_str_list, isi_str_tuple, isi_str_dict, isi_lst_bool, isi_lst_int, isi_lst_str, isi_lst_list, isi_lst_tuple, isi_lst_dict, isi_src_bool, isi_src_int, isi_src_str, isi_src_list, isi_src_tuple, isi_src_dict, isi_tup_bool, isi_tup_int, isi_tup_str, isi_tup_list, isi_tup_tuple, isi_tup_dict, isi_dct_bool, isi_dct_int, isi_dct_str, isi_dct_list, isi_dct_tuple, isi_dct_dict, g_nm, g_tp2, g_tp3, g_tp4, g_nil, g_cons, List.getElem?_cons_succ, List.getElem?_cons_zero, List.set_cons_succ, List.set_cons_zero, truD, if_true, ins_obj W2.rd]
      rcases hst with ⟨hf, rfl, rfl⟩ | ⟨hf, rc, ds, rfl, hrc, hrel, rfl, hds⟩
      · rw [x_data0 W2.rd, wp_of (same_at (k := 12) (S := S2) (x := .non) (y := .non) (.inl ⟨rfl, rfl⟩))]
      · rw [x_data W2.rd (by rw [nn_len]; omega), wp_of (same_nn (k := 10) (by omega))]
  obtain ⟨v, S', e, rfl⟩ := wp_to main
  exact ⟨S', e⟩
end G82
namespace G82
open PySem L2 Mi
structure KlT (K : PySem.W.Frag) (mg : Str → Option Value) (c : Cl) (A : Addr) : Prop where
  mg : mg c.nm = some (.ref A)
  cl : Cls K A
  na : ∀ f ∈ c.fl, NoAttr K A f
  nd : c.fl.Nodup
theorem KlT.ok {K : PySem.W.Frag} {mg : Str → Option Value} {c : Cl} {A : Addr} (h : KlT K mg c A) {X : Cx} (hK : X.K = K) (hm : X.mg = mg) : KlOk X c := by
  subst hK hm
  exact ⟨fun B e => by rw [h.mg] at e; cases e; exact h.cl, fun B e => by rw [h.mg] at e; cases e; exact h.na, h.nd⟩
structure Tx (K : PySem.W.Frag) (mg : Str → Option Value) where
  f__law_draws : Addr
  d__law_draws : FuncData
  F__law_draws : Fun K "_law_draws" "_law_draws" s__law_draws f__law_draws d__law_draws
  b__law_draws : Binds K d__law_draws ["script"] []
  g__law_draws : mg "_law_draws" = some (.ref f__law_draws)
  k__law_draws : PySem.W.keepIn K (.ref f__law_draws) = true
  f__law_draw : Addr
  d__law_draw : FuncData
  F__law_draw : Fun K "_law_draw" "_law_draw" s__law_draw f__law_draw d__law_draw
  b__law_draw : Binds K d__law_draw ["draws", "limit"] []
  g__law_draw : mg "_law_draw" = some (.ref f__law_draw)
  k__law_draw : PySem.W.keepIn K (.ref f__law_draw) = true
  f_Reader_tally : Addr
  d_Reader_tally : FuncData
  F_Reader_tally : Fun K "tally" "Reader.tally" s_Reader_tally f_Reader_tally d_Reader_tally
  b_Reader_tally : Binds K d_Reader_tally ["self"] []
  f_Writer___init__ : Addr
  d_Writer___init__ : FuncData
  F_Writer___init__ : Fun K "__init__" "Writer.__init__" s_Writer___init__ f_Writer___init__ d_Writer___init__
  b_Writer___init__ : Binds K d_Writer___init__ ["self", "key"] []
  f_Reader___init__ : Addr
  d_Reader___init__ : FuncData
  F_Reader___init__ : Fun K "__init__" "Reader.__init__" s_Reader___init__ f_Reader___init__ d_Reader___init__
  b_Reader___init__ : Binds K d_Reader___init__ ["self", "key", "most", "limit"] []
  f_is_number : Addr
  d_is_number : FuncData
  F_is_number : Fun K "is_number" "is_number" s_is_number f_is_number d_is_number
  b_is_number : Binds K d_is_number ["thing", "low", "high"] []
  g_is_number : mg "is_number" = some (.ref f_is_number)
  k_is_number : PySem.W.keepIn K (.ref f_is_number) = true
  f_is_octets : Addr
  d_is_octets : FuncData
  F_is_octets : Fun K "is_octets" "is_octets" s_is_octets f_is_octets d_is_octets
  b_is_octets : Binds K d_is_octets ["thing", "most"] []
  g_is_octets : mg "is_octets" = some (.ref f_is_octets)
  k_is_octets : PySem.W.keepIn K (.ref f_is_octets) = true
  f_check_of : Addr
  d_check_of : FuncData
  F_check_of : Fun K "check_of" "check_of" s_check_of f_check_of d_check_of
  b_check_of : Binds K d_check_of ["octets"] []
  g_check_of : mg "check_of" = some (.ref f_check_of)
  k_check_of : PySem.W.keepIn K (.ref f_check_of) = true
  f_guarded : Addr
  d_guarded : FuncData
  F_guarded : Fun K "guarded" "guarded" s_guarded f_guarded d_guarded
  b_guarded : Binds K d_guarded ["data", "counter", "key"] []
  g_guarded : mg "guarded" = some (.ref f_guarded)
  k_guarded : PySem.W.keepIn K (.ref f_guarded) = true
  f_Writer_write : Addr
  d_Writer_write : FuncData
  F_Writer_write : Fun K "write" "Writer.write" s_Writer_write f_Writer_write d_Writer_write
  b_Writer_write : Binds K d_Writer_write ["self", "data"] []
  f_Reader_go_on : Addr
  d_Reader_go_on : FuncData
  F_Reader_go_on : Fun K "go_on" "Reader.go_on" s_Reader_go_on f_Reader_go_on d_Reader_go_on
  b_Reader_go_on : Binds K d_Reader_go_on ["self", "now"] []
  f_Reader_counted : Addr
  d_Reader_counted : FuncData
  F_Reader_counted : Fun K "counted" "Reader.counted" s_Reader_counted f_Reader_counted d_Reader_counted
  b_Reader_counted : Binds K d_Reader_counted ["self", "word", "told"] []
  f_Reader_is_right : Addr
  d_Reader_is_right : FuncData
  F_Reader_is_right : Fun K "is_right" "Reader.is_right" s_Reader_is_right f_Reader_is_right d_Reader_is_right
  b_Reader_is_right : Binds K d_Reader_is_right ["self", "octets"] []
  f_Reader_good : Addr
  d_Reader_good : FuncData
  F_Reader_good : Fun K "good" "Reader.good" s_Reader_good f_Reader_good d_Reader_good
  b_Reader_good : Binds K d_Reader_good ["self", "octets", "word", "told"] []
  f_Reader_take : Addr
  d_Reader_take : FuncData
  F_Reader_take : Fun K "take" "Reader.take" s_Reader_take f_Reader_take d_Reader_take
  b_Reader_take : Binds K d_Reader_take ["self", "octets", "now"] []
  f__law_same : Addr
  d__law_same : FuncData
  F__law_same : Fun K "_law_same" "_law_same" s__law_same f__law_same d__law_same
  b__law_same : Binds K d__law_same ["x", "due"] []
  g__law_same : mg "_law_same" = some (.ref f__law_same)
  k__law_same : PySem.W.keepIn K (.ref f__law_same) = true
  f_Reader_data : Addr
  d_Reader_data : FuncData
  F_Reader_data : Fun K "data" "Reader.data" s_Reader_data f_Reader_data d_Reader_data
  b_Reader_data : Binds K d_Reader_data ["self"] []
  f_law : Addr
  d_law : FuncData
  F_law : Fun K "law" "law" s_law f_law d_law
  b_law : Binds K d_law ["script"] []
  g_law : mg "law" = some (.ref f_law)
  k_law : PySem.W.keepIn K (.ref f_law) = true
  A_Reader : Addr
  kl_Reader : KlT K mg c_Reader A_Reader
  m_Reader_tally : Meth K A_Reader "tally" f_Reader_tally
  mk_Reader : Mk K A_Reader f_Reader___init__
  m_Reader_go_on : Meth K A_Reader "go_on" f_Reader_go_on
  m_Reader_counted : Meth K A_Reader "counted" f_Reader_counted
  m_Reader_is_right : Meth K A_Reader "is_right" f_Reader_is_right
  m_Reader_good : Meth K A_Reader "good" f_Reader_good
  m_Reader_take : Meth K A_Reader "take" f_Reader_take
  m_Reader_data : Meth K A_Reader "data" f_Reader_data
  A_Writer : Addr
  kl_Writer : KlT K mg c_Writer A_Writer
  mk_Writer : Mk K A_Writer f_Writer___init__
  m_Writer_write : Meth K A_Writer "write" f_Writer_write
  t_LAST : Tok
  c_LAST : mg "LAST" = some (.int 14 t_LAST)
  t_MAKER : Tok
  c_MAKER : mg "MAKER" = some (.int 29 t_MAKER)
  n_all : mg "all" = none
  n_bool : mg "bool" = none
  n_dict : mg "dict" = none
  n_int : mg "int" = none
  n_isinstance : mg "isinstance" = none
  n_len : mg "len" = none
  n_list : mg "list" = none
  n_range : mg "range" = none
  n_str : mg "str" = none
  n_tuple : mg "tuple" = none
section
variable {P : Program} {wo : World} {K : PySem.W.Frag} {mg : Str → Option Value}
theorem f__law_draws (T : Tx K mg) (base : Heap) : FJ P wo K mg base 1 T.f__law_draws T.d__law_draws ["script"] m__law_draws := fj_mk (k := 0) T.F__law_draws sc__law_draws fun cdv A outer s H E C hr =>
  (jb_one (js_ret (j_obj (ja_cons (j_callTy (call_listA rfl) (opA_list mkL_s) (by rfl) T.n_list (by rfl) (ja_cons (j_var (pv 0)) ja_nil)) (ja_cons j_int (ja_cons j_int (ja_cons j_int ja_nil)))))))
theorem f__law_draw (T : Tx K mg) (base : Heap) : FJ P wo K mg base 1 T.f__law_draw T.d__law_draw ["draws", "limit"] m__law_draw := fj_mk (k := 0) T.F__law_draw sc__law_draw fun cdv A outer s H E C hr =>
  (jb_cons (js_if (jt_w (jw_and (jt_cmp (op_eqA (hu64 hr)) op2_eq (j_ix (hu64 hr) (j_var (pv 0)) j_int fun _ _ => rfl) j_int (nomark _)) (jw_and1 (jt_cmp op_lt op2_lt (j_ix (hu64 hr) (j_var (pv 0)) j_int fun _ _ => rfl) (j_callB call_lenA opA_len (by rfl) T.n_len (by rfl) (ja_cons (j_ix (hu64 hr) (j_var (pv 0)) j_int fun _ _ => rfl) ja_nil)) (nomark _))))) (jb_cons (js_set (i := 2) sc__law_draw.nd rfl (by first | exact .inl rfl | exact .inr rfl) (j_ix (hu64 hr) (j_ix (hu64 hr) (j_var (pv 0)) j_int fun _ _ => rfl) (j_ix (hu64 hr) (j_var (pv 0)) j_int fun _ _ => rfl) fun _ _ => rfl))
  (jb_cons (js_asg (j_op op_addA (op2_add mkL_s) (j_ix (hu64 hr) (j_var (pv 0)) j_int fun _ _ => rfl) j_int) (jg_ix (hu64 hr) (j_var (pv 0)) j_int))
  (jb_cons (js_if (jt_cmp op_ge op2_ge (j_var (pv 2)) (j_op op_pow op2_pow j_int j_int) (nomark _)) (jb_one (js_asg (j_var (pv 2)) (jg_ix (hu64 hr) (j_var (pv 0)) j_int))) jb_nil)
  (jb_one (js_asg (j_op op_mod op2_mod (j_callTy call_int1 opA_int (by rfl) T.n_int (by rfl) (ja_cons (j_op op_addA (op2_add mkL_s) (j_op op_addA (op2_add mkL_s) (j_op op_mul op2_mul (j_ix (hu64 hr) (j_var (pv 0)) j_int fun _ _ => rfl) j_int) (j_var (pv 2))) j_int) ja_nil)) j_int) (jg_ix (hu64 hr) (j_var (pv 0)) j_int)))))) jb_nil)
  (jb_cons (js_if (jt_cmp op_gt op2_gt (j_ix (hu64 hr) (j_var (pv 0)) j_int fun _ _ => rfl) j_int (nomark _)) (jb_cons (js_set (i := 3) sc__law_draw.nd rfl (by first | exact .inl rfl | exact .inr rfl) (j_op op_mod op2_mod (j_callTy call_int1 opA_int (by rfl) T.n_int (by rfl) (ja_cons (j_ix (hu64 hr) (j_var (pv 0)) j_int fun _ _ => rfl) ja_nil)) (j_var (pv 1))))
  (jb_cons (js_asg (j_op op_fdiv op2_div (j_ix (hu64 hr) (j_var (pv 0)) j_int fun _ _ => rfl) (j_var (pv 1))) (jg_ix (hu64 hr) (j_var (pv 0)) j_int))
  (jb_one (js_ret (j_var (pv 3)))))) jb_nil)
  (jb_cons (js_asg (j_op op_mod op2_mod (j_callTy call_int1 opA_int (by rfl) T.n_int (by rfl) (ja_cons (j_op op_addA (op2_add mkL_s) (j_op op_mul op2_mul (j_ix (hu64 hr) (j_var (pv 0)) j_int fun _ _ => rfl) j_int) j_int) ja_nil)) j_int) (jg_ix (hu64 hr) (j_var (pv 0)) j_int))
  (jb_one (js_ret (j_op op_mod op2_mod (j_callTy call_int1 opA_int (by rfl) T.n_int (by rfl) (ja_cons (j_op op_fdiv op2_div (j_ix (hu64 hr) (j_var (pv 0)) j_int fun _ _ => rfl) j_int) ja_nil)) (j_var (pv 1))))))))
theorem f_Reader_tally (T : Tx K mg) (base : Heap) : FJ P wo K mg base 1 T.f_Reader_tally T.d_Reader_tally ["self"] m_Reader_tally := fj_mk (k := 0) T.F_Reader_tally sc_Reader_tally fun cdv A outer s H E C hr =>
  (jb_one (js_ret (j_dict mkD_s (by rfl) T.n_dict (ja_cons (j_fld (T.kl_Reader.ok rfl rfl) rfl (j_var (pv 0))) ja_nil))))
theorem f_Writer___init__ (T : Tx K mg) (base : Heap) : FJ P wo K mg base 1 T.f_Writer___init__ T.d_Writer___init__ ["self", "key"] m_Writer___init__ := fj_mk (k := 0) T.F_Writer___init__ sc_Writer___init__ fun cdv A outer s H E C hr =>
  (jb_cons (js_fld (T.kl_Writer.ok rfl rfl) rfl (j_var (pv 0)) (j_var (pv 1)))
  (jb_one (js_fld (T.kl_Writer.ok rfl rfl) rfl (j_var (pv 0)) j_int)))
theorem f_Reader___init__ (T : Tx K mg) (base : Heap) : FJ P wo K mg base 1 T.f_Reader___init__ T.d_Reader___init__ ["self", "key", "most", "limit"] m_Reader___init__ := fj_mk (k := 0) T.F_Reader___init__ sc_Reader___init__ fun cdv A outer s H E C hr =>
  (jb_cons (js_fld (T.kl_Reader.ok rfl rfl) rfl (j_var (pv 0)) (j_var (pv 1)))
  (jb_cons (js_fld (T.kl_Reader.ok rfl rfl) rfl (j_var (pv 0)) (j_var (pv 2)))
  (jb_cons (js_fld (T.kl_Reader.ok rfl rfl) rfl (j_var (pv 0)) (j_var (pv 3)))
  (jb_cons (js_fld (T.kl_Reader.ok rfl rfl) rfl (j_var (pv 0)) j_int)
  (jb_cons (js_fld (T.kl_Reader.ok rfl rfl) rfl (j_var (pv 0)) j_non)
  (jb_cons (js_fld (T.kl_Reader.ok rfl rfl) rfl (j_var (pv 0)) j_non)
  (jb_cons (js_fld (T.kl_Reader.ok rfl rfl) rfl (j_var (pv 0)) (j_var (pv 3)))
  (jb_one (js_fld (T.kl_Reader.ok rfl rfl) rfl (j_var (pv 0)) (j_dct mkDo_s (jps_cons j_str j_int (jps_cons j_str j_int (jps_cons j_str j_int (jps_cons j_str j_int (jps_cons j_str j_int (jps_cons j_str j_int jps_nil))))))))))))))))
theorem f_is_number (T : Tx K mg) (base : Heap) : FJ P wo K mg base 1 T.f_is_number T.d_is_number ["thing", "low", "high"] m_is_number := fj_mk (k := 0) T.F_is_number sc_is_number fun cdv A outer s H E C hr =>
  (jb_one (js_ret (j_and (j_callB call_isi opA_isi (by rfl) T.n_isinstance (by rfl) (ja_cons (j_var (pv 0)) (ja_cons (j_ty (by rfl) T.n_int (by rfl)) ja_nil))) (j_and (j_not (j_callB call_isi opA_isi (by rfl) T.n_isinstance (by rfl) (ja_cons (j_var (pv 0)) (ja_cons (j_ty (by rfl) T.n_bool (by rfl)) ja_nil)))) (j_one (j_chain op_le op_le op2_le op2_le (j_var (pv 1)) (j_var (pv 0)) (j_var (pv 2))))))))
theorem f_is_octets (T : Tx K mg) (base : Heap) : FJ P wo K mg base 2 T.f_is_octets T.d_is_octets ["thing", "most"] m_is_octets := fj_mk (k := 1) T.F_is_octets sc_is_octets fun cdv A outer s H E C hr =>
  (jb_one (js_ret (j_and (j_callB call_isi opA_isi (by rfl) T.n_isinstance (by rfl) (ja_cons (j_var (pv 0)) (ja_cons (j_ty (by rfl) T.n_list (by rfl)) ja_nil))) (j_and (j_cmp op_le op2_le (j_callB call_lenA opA_len (by rfl) T.n_len (by rfl) (ja_cons (j_var (pv 0)) ja_nil)) (j_var (pv 1)) (nomark _)) (j_one (j_callB (cr_all rfl) opA_all (by rfl) T.n_all (by rfl) (ja_cons (j_lkm [0] (j_lc mkL_c rfl sc_is_octets.nd (ji_any (j_var (pv 0))) (blkOk_by (own := [("octet", 2)]) (by kernel_rfl)) rfl (gv_name (by decide)) (fun _ _ _ _ _ => (pg_name (i := 2) sc_is_octets.nd rfl (by first | exact .inl rfl | exact .inr rfl))) (fun _ _ _ _ _ => jts_nil) (fun _ _ _ _ _ => (j_call (f_is_number T base) ar_runB (hr.mono (by decide)) (by rfl) T.g_is_number T.k_is_number T.b_is_number (ja_cons (j_var (pv 2)) (ja_cons j_int (ja_cons j_int ja_nil))))))) ja_nil)))))))
theorem f_check_of (T : Tx K mg) (base : Heap) : FJ P wo K mg base 1 T.f_check_of T.d_check_of ["octets"] m_check_of := fj_mk (k := 0) T.F_check_of sc_check_of fun cdv A outer s H E C hr =>
  (jb_cons (js_set (i := 1) sc_check_of.nd rfl (by first | exact .inl rfl | exact .inr rfl) j_int)
  (jb_cons (js_lkm [0] (js_for rfl (ji_any (j_var (pv 0))) (jg_name (pg_name (i := 2) sc_check_of.nd rfl (by first | exact .inl rfl | exact .inr rfl))) (jb_cons (js_aug (i := 1) sc_check_of.nd rfl (by first | exact .inl rfl | exact .inr rfl) (j_var (pv 2)) iop_xor op2_xor)
  (jb_one (js_for rfl (ji_range1 (by rfl) T.n_range (ja_cons j_int ja_nil)) (jg_name (pg_name (i := 3) sc_check_of.nd rfl (by first | exact .inl rfl | exact .inr rfl))) (jb_one (js_set (i := 1) sc_check_of.nd rfl (by first | exact .inl rfl | exact .inr rfl) (j_if (jt_tru (j_op op_and op2_and (j_var (pv 1)) j_int)) (j_op op_and op2_and (j_op op_xor op2_xor (j_op op_shl op2_shl (j_var (pv 1)) j_int) (j_glob (v := .int 29) (u := .int 29 T.t_MAKER) (d := .int 29) (by rfl) T.c_MAKER ⟨_, rfl⟩ fun _ => .int 29)) j_int) (j_op op_shl op2_shl (j_var (pv 1)) j_int)))))))))
  (jb_one (js_ret (j_op op_xor op2_xor (j_var (pv 1)) j_int)))))
theorem f_guarded (T : Tx K mg) (base : Heap) : FJ P wo K mg base 3 T.f_guarded T.d_guarded ["data", "counter", "key"] m_guarded := fj_mk (k := 2) T.F_guarded sc_guarded fun cdv A outer s H E C hr =>
  (jb_cons (js_if (jt_not (jt_tru (j_call (f_is_octets T base) ar_runB (hr.mono (by decide)) (by rfl) T.g_is_octets T.k_is_octets T.b_is_octets (ja_cons (j_var (pv 0)) (ja_cons j_int ja_nil))))) (jb_one js_never) jb_nil)
  (jb_cons (js_if (jt_not (jt_tru (j_call (f_is_number T base) ar_runB (hr.mono (by decide)) (by rfl) T.g_is_number T.k_is_number T.b_is_number (ja_cons (j_var (pv 1)) (ja_cons j_int (ja_cons (j_glob (v := .int 14) (u := .int 14 T.t_LAST) (d := .int 14) (by rfl) T.c_LAST ⟨_, rfl⟩ fun _ => .int 14) ja_nil)))))) (jb_one js_never) jb_nil)
  (jb_cons (js_if (jt_not (jt_tru (j_call (f_is_number T base) ar_runB (hr.mono (by decide)) (by rfl) T.g_is_number T.k_is_number T.b_is_number (ja_cons (j_var (pv 2)) (ja_cons j_int (ja_cons j_int ja_nil)))))) (jb_one js_never) jb_nil)
  (jb_one (js_ret (j_op op_addA (op2_add mkL_s) (j_lst (ja_cons (j_call (f_check_of T base) ar_runB (hr.mono (by decide)) (by rfl) T.g_check_of T.k_check_of T.b_check_of (ja_cons (j_op op_addA (op2_add mkL_s) (j_op op_addA (op2_add mkL_s) (j_lst (ja_cons (j_var (pv 1)) ja_nil)) (j_var (pv 0))) (j_lst (ja_cons (j_op op_shr op2_shr (j_var (pv 2)) j_int) (ja_cons (j_op op_and op2_and (j_var (pv 2)) j_int) ja_nil)))) ja_nil)) (ja_cons (j_var (pv 1)) ja_nil))) (j_var (pv 0))))))))
theorem f_Writer_write (T : Tx K mg) (base : Heap) : FJ P wo K mg base 4 T.f_Writer_write T.d_Writer_write ["self", "data"] m_Writer_write := fj_mk (k := 3) T.F_Writer_write sc_Writer_write fun cdv A outer s H E C hr =>
  (jb_cons (js_set (i := 2) sc_Writer_write.nd rfl (by first | exact .inl rfl | exact .inr rfl) (j_call (f_guarded T base) ar_runB (hr.mono (by decide)) (by rfl) T.g_guarded T.k_guarded T.b_guarded (ja_cons (j_var (pv 1)) (ja_cons (j_fld (T.kl_Writer.ok rfl rfl) rfl (j_var (pv 0))) (ja_cons (j_fld (T.kl_Writer.ok rfl rfl) rfl (j_var (pv 0))) ja_nil)))))
  (jb_cons (js_fld (T.kl_Writer.ok rfl rfl) rfl (j_var (pv 0)) (j_op op_mod op2_mod (j_op op_addA (op2_add mkL_s) (j_fld (T.kl_Writer.ok rfl rfl) rfl (j_var (pv 0))) j_int) (j_op op_addA (op2_add mkL_s) (j_glob (v := .int 14) (u := .int 14 T.t_LAST) (d := .int 14) (by rfl) T.c_LAST ⟨_, rfl⟩ fun _ => .int 14) j_int)))
  (jb_one (js_ret (j_var (pv 2))))))
theorem f_Reader_go_on (T : Tx K mg) (base : Heap) : FJ P wo K mg base 1 T.f_Reader_go_on T.d_Reader_go_on ["self", "now"] m_Reader_go_on := fj_mk (k := 0) T.F_Reader_go_on sc_Reader_go_on fun cdv A outer s H E C hr =>
  (jb_cons (js_if (jt_cmp op_lt op2_lt (j_var (pv 1)) (j_fld (T.kl_Reader.ok rfl rfl) rfl (j_var (pv 0))) (nomark _)) (jb_one js_never) jb_nil)
  (jb_cons (js_fld (T.kl_Reader.ok rfl rfl) rfl (j_var (pv 0)) (j_var (pv 1)))
  (jb_cons (js_set (i := 2) sc_Reader_go_on.nd rfl (by first | exact .inl rfl | exact .inr rfl) (j_obj ja_nil))
  (jb_cons (js_while (jt_cmp op_le op2_le (j_fld (T.kl_Reader.ok rfl rfl) rfl (j_var (pv 0))) (j_var (pv 1)) (nomark _)) (jb_cons (js_expr (j_bm PySem.F.plainAttrs_list PySem.F.slot_list_append PySem.F.type_list_append mt_append opM_append (j_var (pv 2)) (ja_cons (j_fld (T.kl_Reader.ok rfl rfl) rfl (j_var (pv 0))) ja_nil)))
  (jb_cons (js_augF (T.kl_Reader.ok rfl rfl) rfl (j_var (pv 0)) (j_fld (T.kl_Reader.ok rfl rfl) rfl (j_var (pv 0))) iop_add op2_iadd)
  (jb_one (js_augI (hu64 hr) (j_fld (T.kl_Reader.ok rfl rfl) rfl (j_var (pv 0))) j_str j_int iop_add op2_iadd)))))
  (jb_one (js_ret (j_fz (j_var (pv 2)))))))))
theorem f_Reader_counted (T : Tx K mg) (base : Heap) : FJ P wo K mg base 1 T.f_Reader_counted T.d_Reader_counted ["self", "word", "told"] m_Reader_counted := fj_mk (k := 0) T.F_Reader_counted sc_Reader_counted fun cdv A outer s H E C hr =>
  (jb_cons (js_augI (hu64 hr) (j_fld (T.kl_Reader.ok rfl rfl) rfl (j_var (pv 0))) (j_var (pv 1)) j_int iop_add op2_iadd)
  (jb_one (js_ret (j_var (pv 2)))))
theorem f_Reader_is_right (T : Tx K mg) (base : Heap) : FJ P wo K mg base 4 T.f_Reader_is_right T.d_Reader_is_right ["self", "octets"] m_Reader_is_right := fj_mk (k := 3) T.F_Reader_is_right sc_Reader_is_right fun cdv A outer s H E C hr =>
  (jb_cons (js_if (jt_w (jw_or (jt_not (jt_tru (j_call (f_is_octets T base) ar_runB (hr.mono (by decide)) (by rfl) T.g_is_octets T.k_is_octets T.b_is_octets (ja_cons (j_var (pv 1)) (ja_cons j_int ja_nil))))) (jw_or (jt_cmp op_lt op2_lt (j_callB call_lenA opA_len (by rfl) T.n_len (by rfl) (ja_cons (j_var (pv 1)) ja_nil)) j_int (nomark _)) (jw_or1 (jt_cmp op_gt op2_gt (j_ix (hu64 hr) (j_var (pv 1)) j_int fun _ _ => rfl) (j_glob (v := .int 14) (u := .int 14 T.t_LAST) (d := .int 14) (by rfl) T.c_LAST ⟨_, rfl⟩ fun _ => .int 14) (nomark _)))))) (jb_one (js_ret j_bl)) jb_nil)
  (jb_one (js_ret (j_cmp (op_eqA (hu64 hr)) op2_eq (j_call (f_guarded T base) ar_runB (hr.mono (by decide)) (by rfl) T.g_guarded T.k_guarded T.b_guarded (ja_cons (j_slice mkL_s (j_var (pv 1)) (jo_some j_int) jo_none) (ja_cons (j_ix (hu64 hr) (j_var (pv 1)) j_int fun _ _ => rfl) (ja_cons (j_fld (T.kl_Reader.ok rfl rfl) rfl (j_var (pv 0))) ja_nil)))) (j_var (pv 1)) (nomark _)))))
theorem f_Reader_good (T : Tx K mg) (base : Heap) : FJ P wo K mg base 2 T.f_Reader_good T.d_Reader_good ["self", "octets", "word", "told"] m_Reader_good := fj_mk (k := 1) T.F_Reader_good sc_Reader_good fun cdv A outer s H E C hr =>
  (jb_cons (js_fld (T.kl_Reader.ok rfl rfl) rfl (j_var (pv 0)) (j_ix (hu64 hr) (j_var (pv 1)) j_int fun _ _ => rfl))
  (jb_cons (js_fld (T.kl_Reader.ok rfl rfl) rfl (j_var (pv 0)) (j_slice mkL_s (j_var (pv 1)) (jo_some j_int) jo_none))
  (jb_cons (js_fld (T.kl_Reader.ok rfl rfl) rfl (j_var (pv 0)) (j_op op_addA (op2_add mkL_s) (j_fld (T.kl_Reader.ok rfl rfl) rfl (j_var (pv 0))) (j_fld (T.kl_Reader.ok rfl rfl) rfl (j_var (pv 0)))))
  (jb_one (js_ret (j_meth (T.kl_Reader.ok rfl rfl) T.kl_Reader.mg (by decide +kernel) (j_var (pv 0)) T.m_Reader_counted (f_Reader_counted T base) ar_runB (hr.mono (by decide)) T.b_Reader_counted (ja_cons (j_var (pv 2)) (ja_cons (j_var (pv 3)) ja_nil))))))))
theorem f_Reader_take (T : Tx K mg) (base : Heap) : FJ P wo K mg base 5 T.f_Reader_take T.d_Reader_take ["self", "octets", "now"] m_Reader_take := fj_mk (k := 4) T.F_Reader_take sc_Reader_take fun cdv A outer s H E C hr =>
  (jb_cons (js_expr (j_meth (T.kl_Reader.ok rfl rfl) T.kl_Reader.mg (by decide +kernel) (j_var (pv 0)) T.m_Reader_go_on (f_Reader_go_on T base) ar_runB (hr.mono (by decide)) T.b_Reader_go_on (ja_cons (j_var (pv 2)) ja_nil)))
  (jb_cons (js_if (jt_not (jt_tru (j_meth (T.kl_Reader.ok rfl rfl) T.kl_Reader.mg (by decide +kernel) (j_var (pv 0)) T.m_Reader_is_right (f_Reader_is_right T base) ar_runB (hr.mono (by decide)) T.b_Reader_is_right (ja_cons (j_var (pv 1)) ja_nil)))) (jb_one (js_ret (j_meth (T.kl_Reader.ok rfl rfl) T.kl_Reader.mg (by decide +kernel) (j_var (pv 0)) T.m_Reader_counted (f_Reader_counted T base) ar_runB (hr.mono (by decide)) T.b_Reader_counted (ja_cons j_str (ja_cons j_str ja_nil))))) jb_nil)
  (jb_cons (js_if (jt_cmp op_isA op2_is (j_fld (T.kl_Reader.ok rfl rfl) rfl (j_var (pv 0))) j_non (nomark _)) (jb_one (js_ret (j_meth (T.kl_Reader.ok rfl rfl) T.kl_Reader.mg (by decide +kernel) (j_var (pv 0)) T.m_Reader_good (f_Reader_good T base) ar_runB (hr.mono (by decide)) T.b_Reader_good (ja_cons (j_var (pv 1)) (ja_cons j_str (ja_cons j_str ja_nil)))))) jb_nil)
  (jb_cons (js_set (i := 3) sc_Reader_take.nd rfl (by first | exact .inl rfl | exact .inr rfl) (j_op op_mod op2_mod (j_op op_sub op2_sub (j_ix (hu64 hr) (j_var (pv 1)) j_int fun _ _ => rfl) (j_fld (T.kl_Reader.ok rfl rfl) rfl (j_var (pv 0)))) (j_op op_addA (op2_add mkL_s) (j_glob (v := .int 14) (u := .int 14 T.t_LAST) (d := .int 14) (by rfl) T.c_LAST ⟨_, rfl⟩ fun _ => .int 14) j_int)))
  (jb_cons (js_if (jt_cmp (op_eqA (hu64 hr)) op2_eq (j_var (pv 3)) j_int (nomark _)) (jb_one (js_ret (j_meth (T.kl_Reader.ok rfl rfl) T.kl_Reader.mg (by decide +kernel) (j_var (pv 0)) T.m_Reader_counted (f_Reader_counted T base) ar_runB (hr.mono (by decide)) T.b_Reader_counted (ja_cons j_str (ja_cons j_str ja_nil))))) jb_nil)
  (jb_cons (js_if (jt_cmp (op_eqA (hu64 hr)) op2_eq (j_var (pv 3)) j_int (nomark _)) (jb_one (js_ret (j_meth (T.kl_Reader.ok rfl rfl) T.kl_Reader.mg (by decide +kernel) (j_var (pv 0)) T.m_Reader_good (f_Reader_good T base) ar_runB (hr.mono (by decide)) T.b_Reader_good (ja_cons (j_var (pv 1)) (ja_cons j_str (ja_cons j_str ja_nil)))))) jb_nil)
  (jb_cons (js_if (jt_cmp op_le op2_le (j_op op_sub op2_sub (j_var (pv 3)) j_int) (j_fld (T.kl_Reader.ok rfl rfl) rfl (j_var (pv 0))) (nomark _)) (jb_one (js_ret (j_meth (T.kl_Reader.ok rfl rfl) T.kl_Reader.mg (by decide +kernel) (j_var (pv 0)) T.m_Reader_good (f_Reader_good T base) ar_runB (hr.mono (by decide)) T.b_Reader_good (ja_cons (j_var (pv 1)) (ja_cons j_str (ja_cons (j_tup (ja_cons j_str (ja_cons (j_op op_sub op2_sub (j_var (pv 3)) j_int) ja_nil))) ja_nil)))))) jb_nil)
  (jb_cons (js_fld (T.kl_Reader.ok rfl rfl) rfl (j_var (pv 0)) (j_ix (hu64 hr) (j_var (pv 1)) j_int fun _ _ => rfl))
  (jb_one (js_ret (j_meth (T.kl_Reader.ok rfl rfl) T.kl_Reader.mg (by decide +kernel) (j_var (pv 0)) T.m_Reader_counted (f_Reader_counted T base) ar_runB (hr.mono (by decide)) T.b_Reader_counted (ja_cons j_str (ja_cons (j_tup (ja_cons j_str (ja_cons (j_op op_sub op2_sub (j_var (pv 3)) j_int) ja_nil))) ja_nil)))))))))))))
theorem f__law_same (T : Tx K mg) (base : Heap) : ∀ n : Nat, FJ P wo K mg base (0 + n) T.f__law_same T.d__law_same ["x", "due"] (m__law_same n)
  | 0 => fj_zero
  | n + 1 => by
    have FS := f__law_same T base n
    have aS := a__law_same n
    exact fj_mk (k := 0 + n) T.F__law_same sc__law_same fun cdv A outer s H E C hr =>
  (jb_cons (js_if (jt_cmp op_isA op2_is (j_var (pv 1)) j_non (nomark _)) (jb_one (js_ret (j_cmp op_isA op2_is (j_var (pv 0)) j_non (nomark _)))) jb_nil)
  (jb_cons (js_if (jt_tru (j_callB call_isi opA_isi (by rfl) T.n_isinstance (by rfl) (ja_cons (j_var (pv 1)) (ja_cons (j_ty (by rfl) T.n_bool (by rfl)) ja_nil)))) (jb_one (js_ret (j_and (j_callB call_isi opA_isi (by rfl) T.n_isinstance (by rfl) (ja_cons (j_var (pv 0)) (ja_cons (j_ty (by rfl) T.n_bool (by rfl)) ja_nil))) (j_one (j_cmp (op_eqA (hu64 hr)) op2_eq (j_var (pv 0)) (j_var (pv 1)) (nomark _)))))) jb_nil)
  (jb_cons (js_if (jt_tru (j_callB call_isi opA_isi (by rfl) T.n_isinstance (by rfl) (ja_cons (j_var (pv 1)) (ja_cons (j_ty (by rfl) T.n_int (by rfl)) ja_nil)))) (jb_one (js_ret (j_and (j_callB call_isi opA_isi (by rfl) T.n_isinstance (by rfl) (ja_cons (j_var (pv 0)) (ja_cons (j_ty (by rfl) T.n_int (by rfl)) ja_nil))) (j_and (j_not (j_callB call_isi opA_isi (by rfl) T.n_isinstance (by rfl) (ja_cons (j_var (pv 0)) (ja_cons (j_ty (by rfl) T.n_bool (by rfl)) ja_nil)))) (j_one (j_cmp (op_eqA (hu64 hr)) op2_eq (j_var (pv 0)) (j_var (pv 1)) (nomark _))))))) jb_nil)
  (jb_cons (js_if (jt_tru (j_callB call_isi opA_isi (by rfl) T.n_isinstance (by rfl) (ja_cons (j_var (pv 1)) (ja_cons (j_ty (by rfl) T.n_str (by rfl)) ja_nil)))) (jb_one (js_ret (j_and (j_callB call_isi opA_isi (by rfl) T.n_isinstance (by rfl) (ja_cons (j_var (pv 0)) (ja_cons (j_ty (by rfl) T.n_str (by rfl)) ja_nil))) (j_one (j_cmp (op_eqA (hu64 hr)) op2_eq (j_var (pv 0)) (j_var (pv 1)) (nomark _)))))) jb_nil)
  (jb_cons (js_if (jt_tru (j_callB call_isi opA_isi (by rfl) T.n_isinstance (by rfl) (ja_cons (j_var (pv 1)) (ja_cons (j_ty (by rfl) T.n_dict (by rfl)) ja_nil)))) (jb_cons (js_if (jt_w (jw_or (jt_not (jt_tru (j_callB call_isi opA_isi (by rfl) T.n_isinstance (by rfl) (ja_cons (j_var (pv 0)) (ja_cons (j_ty (by rfl) T.n_dict (by rfl)) ja_nil))))) (jw_or (jt_cmp (op_neA (hu64 hr)) op2_ne (j_callB call_lenA opA_len (by rfl) T.n_len (by rfl) (ja_cons (j_var (pv 0)) ja_nil)) (j_callB call_lenA opA_len (by rfl) T.n_len (by rfl) (ja_cons (j_var (pv 1)) ja_nil)) (nomark _)) (jw_or1 (jt_not (jt_tru (j_callB (cr_all rfl) opA_all (by rfl) T.n_all (by rfl) (ja_cons (j_lkm [1] (j_lc mkL_c rfl sc__law_same.nd (ji_any (j_var (pv 1))) (blkOk_by (own := [("key", 3)]) (by kernel_rfl)) rfl (gv_name (by decide)) (fun _ _ _ _ _ => (pg_name (i := 3) sc__law_same.nd rfl (by first | exact .inl rfl | exact .inr rfl))) (fun _ _ _ _ _ => jts_nil) (fun _ _ _ _ _ => (j_cmp (op_inA (hu65 hr)) op2_in (j_var (pv 3)) (j_var (pv 0)) (by with_unfolding_all rfl))))) ja_nil)))))))) (jb_one (js_ret j_bl)) jb_nil)
  (jb_one (js_ret (j_callB (cr_all rfl) opA_all (by rfl) T.n_all (by rfl) (ja_cons (j_lkm [1] (j_lc mkL_c rfl sc__law_same.nd (ji_any (j_var (pv 1))) (blkOk_by (own := [("key", 3)]) (by kernel_rfl)) rfl (gv_name (by decide)) (fun _ _ _ _ _ => (pg_name (i := 3) sc__law_same.nd rfl (by first | exact .inl rfl | exact .inr rfl))) (fun _ _ _ _ _ => jts_nil) (fun _ _ _ _ _ => (j_call FS aS (hr.mono (by omega)) (by rfl) T.g__law_same T.k__law_same T.b__law_same (ja_cons (j_ix (hu64 hr) (j_var (pv 0)) (j_var (pv 3)) fun _ _ => rfl) (ja_cons (j_ix (hu64 hr) (j_var (pv 1)) (j_var (pv 3)) fun _ _ => rfl) ja_nil)))))) ja_nil))))) jb_nil)
  (jb_cons (js_if (jt_tru (j_callB call_isi opA_isi (by rfl) T.n_isinstance (by rfl) (ja_cons (j_var (pv 1)) (ja_cons (j_ty (by rfl) T.n_list (by rfl)) ja_nil)))) (jb_one (js_set (i := 2) sc__law_same.nd rfl (by first | exact .inl rfl | exact .inr rfl) (j_callB call_isi opA_isi (by rfl) T.n_isinstance (by rfl) (ja_cons (j_var (pv 0)) (ja_cons (j_ty (by rfl) T.n_list (by rfl)) ja_nil))))) (jb_one (js_set (i := 2) sc__law_same.nd rfl (by first | exact .inl rfl | exact .inr rfl) (j_callB call_isi opA_isi (by rfl) T.n_isinstance (by rfl) (ja_cons (j_var (pv 0)) (ja_cons (j_ty (by rfl) T.n_tuple (by rfl)) ja_nil))))))
  (jb_one (js_ret (j_and (j_var (pv 2)) (j_and (j_cmp (op_eqA (hu64 hr)) op2_eq (j_callB call_lenA opA_len (by rfl) T.n_len (by rfl) (ja_cons (j_var (pv 0)) ja_nil)) (j_callB call_lenA opA_len (by rfl) T.n_len (by rfl) (ja_cons (j_var (pv 1)) ja_nil)) (nomark _)) (j_one (j_callB (cr_all rfl) opA_all (by rfl) T.n_all (by rfl) (ja_cons (j_lc mkL_c rfl sc__law_same.nd (ji_range1 (by rfl) T.n_range (ja_cons (j_callB call_lenA opA_len (by rfl) T.n_len (by rfl) (ja_cons (j_var (pv 1)) ja_nil)) ja_nil)) (blkOk_by (own := [("at", 4)]) (by kernel_rfl)) rfl (gv_name (by decide)) (fun _ _ _ _ _ => (pg_name (i := 4) sc__law_same.nd rfl (by first | exact .inl rfl | exact .inr rfl))) (fun _ _ _ _ _ => jts_nil) (fun _ _ _ _ _ => (j_call FS aS (hr.mono (by omega)) (by rfl) T.g__law_same T.k__law_same T.b__law_same (ja_cons (j_ix (hu64 hr) (j_var (pv 0)) (j_var (pv 4)) fun _ _ => rfl) (ja_cons (j_ix (hu64 hr) (j_var (pv 1)) (j_var (pv 4)) fun _ _ => rfl) ja_nil))))) ja_nil)))))))))))))
theorem f_Reader_data (T : Tx K mg) (base : Heap) : FJ P wo K mg base 1 T.f_Reader_data T.d_Reader_data ["self"] m_Reader_data := fj_mk (k := 0) T.F_Reader_data sc_Reader_data fun cdv A outer s H E C hr =>
  (jb_one (js_ret (j_if (jt_cmp op_isA op2_is (j_fld (T.kl_Reader.ok rfl rfl) rfl (j_var (pv 0))) j_non (nomark _)) j_non (j_callTy (call_listA rfl) (opA_list mkL_s) (by rfl) T.n_list (by rfl) (ja_cons (j_fld (T.kl_Reader.ok rfl rfl) rfl (j_var (pv 0))) ja_nil)))))
theorem f_law (T : Tx K mg) (base : Heap) : FJ P wo K mg base 13 T.f_law T.d_law ["script"] m_law := fj_mk (k := 12) T.F_law sc_law fun cdv A outer s H E C hr =>
  (jb_cons (js_set (i := 1) sc_law.nd rfl (by first | exact .inl rfl | exact .inr rfl) (j_call (f__law_draws T base) ar_runB (hr.mono (by decide)) (by rfl) T.g__law_draws T.k__law_draws T.b__law_draws (ja_cons (j_var (pv 0)) ja_nil)))
  (jb_cons (js_set (i := 2) sc_law.nd rfl (by first | exact .inl rfl | exact .inr rfl) (j_call (f__law_draw T base) ar_runB (hr.mono (by decide)) (by rfl) T.g__law_draw T.k__law_draw T.b__law_draw (ja_cons (j_var (pv 1)) (ja_cons j_int ja_nil))))
  (jb_cons (js_par (i := 3) (j := 4) rfl sc_law.nd rfl rfl (by decide) rfl rfl (ja_cons (j_make T.kl_Writer.mg rfl T.mk_Writer (f_Writer___init__ T base) ar_runB (hr.mono (by decide)) (by rfl) T.b_Writer___init__ (ja_cons (j_var (pv 2)) ja_nil)) (ja_cons (j_make T.kl_Reader.mg rfl T.mk_Reader (f_Reader___init__ T base) ar_runB (hr.mono (by decide)) (by rfl) T.b_Reader___init__ (ja_cons (j_var (pv 2)) (ja_cons j_int (ja_cons j_int ja_nil)))) ja_nil)) rfl)
  (jb_cons (js_set (i := 5) sc_law.nd rfl (by first | exact .inl rfl | exact .inr rfl) j_int)
  (jb_cons (js_set (i := 6) sc_law.nd rfl (by first | exact .inl rfl | exact .inr rfl) (j_dct mkDo_s (jps_cons j_str j_int (jps_cons j_str j_int (jps_cons j_str j_int (jps_cons j_str j_int (jps_cons j_str j_int (jps_cons j_str j_int jps_nil))))))))
  (jb_cons (js_asg (j_tup (ja_cons j_int (ja_cons j_bl ja_nil))) (jg_tup rfl (jgs_cons (jg_name (pg_name (i := 7) sc_law.nd rfl (by first | exact .inl rfl | exact .inr rfl))) (jgs_cons (jg_name (pg_name (i := 8) sc_law.nd rfl (by first | exact .inl rfl | exact .inr rfl))) jgs_nil))))
  (jb_cons (js_set (i := 9) sc_law.nd rfl (by first | exact .inl rfl | exact .inr rfl) j_non)
  (jb_cons (js_for rfl (ji_range1 (by rfl) T.n_range (ja_cons (j_op op_addA (op2_add mkL_s) j_int (j_call (f__law_draw T base) ar_runB (hr.mono (by decide)) (by rfl) T.g__law_draw T.k__law_draw T.b__law_draw (ja_cons (j_var (pv 1)) (ja_cons j_int ja_nil)))) ja_nil)) (jg_name (pg_name (i := 10) sc_law.nd rfl (by first | exact .inl rfl | exact .inr rfl))) (jb_cons (js_setLc (i := 11) mkL_c rfl sc_law.nd rfl rfl (sw_true rfl rfl rfl rfl) (ji_range1 (by rfl) T.n_range (ja_cons (j_call (f__law_draw T base) ar_runB (hr.mono (by decide)) (by rfl) T.g__law_draw T.k__law_draw T.b__law_draw (ja_cons (j_var (pv 1)) (ja_cons j_int ja_nil))) ja_nil)) (blkOk_by (own := [("j", 19)]) (by kernel_rfl)) rfl (gv_name (by decide)) (fun _ _ _ _ _ => (pg_name (i := 19) sc_law.nd rfl (by first | exact .inl rfl | exact .inr rfl))) (fun _ _ _ _ _ => jts_nil) (fun _ _ _ _ _ => (j_call (f__law_draw T base) ar_runB (hr.mono (by decide)) (by rfl) T.g__law_draw T.k__law_draw T.b__law_draw (ja_cons (j_var (pv 1)) (ja_cons j_int ja_nil)))))
  (jb_cons (js_set (i := 12) sc_law.nd rfl (by first | exact .inl rfl | exact .inr rfl) (j_meth (T.kl_Writer.ok rfl rfl) T.kl_Writer.mg (by decide +kernel) (j_var (pv 3)) T.m_Writer_write (f_Writer_write T base) ar_runB (hr.mono (by decide)) T.b_Writer_write (ja_cons (j_var (pv 11)) ja_nil)))
  (jb_cons (js_set (i := 13) sc_law.nd rfl (by first | exact .inl rfl | exact .inr rfl) (j_call (f__law_draw T base) ar_runB (hr.mono (by decide)) (by rfl) T.g__law_draw T.k__law_draw T.b__law_draw (ja_cons (j_var (pv 1)) (ja_cons j_int ja_nil))))
  (jb_cons (js_set (i := 5) sc_law.nd rfl (by first | exact .inl rfl | exact .inr rfl) (j_op op_addA (op2_add mkL_s) (j_var (pv 5)) (j_ix (hu64 hr) (j_lst (ja_cons j_int (ja_cons j_int (ja_cons j_int ja_nil)))) (j_call (f__law_draw T base) ar_runB (hr.mono (by decide)) (by rfl) T.g__law_draw T.k__law_draw T.b__law_draw (ja_cons (j_var (pv 1)) (ja_cons j_int ja_nil))) fun _ _ => rfl)))
  (jb_cons (js_if (jt_w (jw_and (jt_cmp op_lt op2_lt (j_var (pv 13)) j_int (nomark _)) (jw_and1 (jt_cmp op_lt op2_lt (j_var (pv 7)) j_int (nomark _))))) (jb_cons (js_set (i := 7) sc_law.nd rfl (by first | exact .inl rfl | exact .inr rfl) (j_op op_addA (op2_add mkL_s) (j_var (pv 7)) j_int))
  (jb_cons (js_if (jt_cmp (op_eqA (hu64 hr)) op2_eq (j_var (pv 13)) j_int (nomark _)) (jb_cons (js_set (i := 14) sc_law.nd rfl (by first | exact .inl rfl | exact .inr rfl) (j_callTy (call_listA rfl) (opA_list mkO_s) (by rfl) T.n_list (by rfl) (ja_cons (j_var (pv 12)) ja_nil)))
  (jb_cons (js_set (i := 15) sc_law.nd rfl (by first | exact .inl rfl | exact .inr rfl) (j_call (f__law_draw T base) ar_runB (hr.mono (by decide)) (by rfl) T.g__law_draw T.k__law_draw T.b__law_draw (ja_cons (j_var (pv 1)) (ja_cons (j_op op_mul op2_mul j_int (j_callB call_lenA opA_len (by rfl) T.n_len (by rfl) (ja_cons (j_var (pv 14)) ja_nil))) ja_nil))))
  (jb_cons (js_asg (j_op op_xor op2_xor (j_ix (hu64 hr) (j_var (pv 14)) (j_op op_fdiv op2_div (j_var (pv 15)) j_int) fun _ _ => rfl) (j_op op_shl op2_shl j_int (j_op op_mod op2_mod (j_callTy call_int1 opA_int (by rfl) T.n_int (by rfl) (ja_cons (j_var (pv 15)) ja_nil)) j_int))) (jg_ix (hu64 hr) (j_var (pv 14)) (j_op op_fdiv op2_div (j_var (pv 15)) j_int)))
  (jb_cons (js_asg (j_op op_addA (op2_add mkL_s) (j_ix (hu64 hr) (j_var (pv 6)) j_str fun _ _ => rfl) j_int) (jg_ix (hu64 hr) (j_var (pv 6)) j_str))
  (jb_cons (js_expr (j_meth (T.kl_Reader.ok rfl rfl) T.kl_Reader.mg (by decide +kernel) (j_var (pv 4)) T.m_Reader_go_on (f_Reader_go_on T base) ar_runB (hr.mono (by decide)) T.b_Reader_go_on (ja_cons (j_var (pv 5)) ja_nil)))
  (jb_one (js_if (jt_not (jt_tru (j_call (f__law_same T base 12) (a__law_same 12) (hr.mono (by decide)) (by rfl) T.g__law_same T.k__law_same T.b__law_same (ja_cons (j_meth (T.kl_Reader.ok rfl rfl) T.kl_Reader.mg (by decide +kernel) (j_var (pv 4)) T.m_Reader_take (f_Reader_take T base) ar_runB (hr.mono (by decide)) T.b_Reader_take (ja_cons (j_var (pv 14)) (ja_cons (j_var (pv 5)) ja_nil))) (ja_cons j_str ja_nil))))) (jb_one (js_ret j_bl)) jb_nil))))))) jb_nil)
  (jb_one js_continue))) jb_nil)
  (jb_cons (js_set (i := 16) sc_law.nd rfl (by first | exact .inl rfl | exact .inr rfl) (j_meth (T.kl_Reader.ok rfl rfl) T.kl_Reader.mg (by decide +kernel) (j_var (pv 4)) T.m_Reader_take (f_Reader_take T base) ar_runB (hr.mono (by decide)) T.b_Reader_take (ja_cons (j_var (pv 12)) (ja_cons (j_var (pv 5)) ja_nil))))
  (jb_cons (js_set (i := 17) sc_law.nd rfl (by first | exact .inl rfl | exact .inr rfl) (j_if (jt_w (jw_or (jt_tru (j_var (pv 8))) (jw_or1 (jt_cmp (op_eqA (hu64 hr)) op2_eq (j_var (pv 7)) j_int (nomark _))))) j_str (j_tup (ja_cons j_str (ja_cons (j_var (pv 7)) ja_nil)))))
  (jb_cons (js_if (jt_not (jt_tru (j_call (f__law_same T base 12) (a__law_same 12) (hr.mono (by decide)) (by rfl) T.g__law_same T.k__law_same T.b__law_same (ja_cons (j_var (pv 16)) (ja_cons (j_var (pv 17)) ja_nil))))) (jb_one (js_ret j_bl)) jb_nil)
  (jb_cons (js_asg (j_op op_addA (op2_add mkL_s) (j_ix (hu64 hr) (j_var (pv 6)) (j_if (jt_cmp (op_eqA (hu64 hr)) op2_eq (j_var (pv 17)) j_str (nomark _)) j_str j_str) fun _ _ => rfl) j_int) (jg_ix (hu64 hr) (j_var (pv 6)) (j_if (jt_cmp (op_eqA (hu64 hr)) op2_eq (j_var (pv 17)) j_str (nomark _)) j_str j_str)))
  (jb_cons (js_par3 (ps_par3 (i := 7) (j := 8) (l := 9) rfl sc_law.nd rfl rfl rfl (by decide) (by decide) (by decide) rfl rfl rfl (ja_cons j_int (ja_cons j_bl (ja_cons (j_var (pv 11)) ja_nil))) rfl))
  (jb_cons (js_if (jt_cmp (op_eqA (hu64 hr)) op2_eq (j_var (pv 13)) j_int (nomark _)) (jb_cons (js_asg (j_op op_addA (op2_add mkL_s) (j_ix (hu64 hr) (j_var (pv 6)) j_str fun _ _ => rfl) j_int) (jg_ix (hu64 hr) (j_var (pv 6)) j_str))
  (jb_one (js_if (jt_not (jt_tru (j_call (f__law_same T base 12) (a__law_same 12) (hr.mono (by decide)) (by rfl) T.g__law_same T.k__law_same T.b__law_same (ja_cons (j_meth (T.kl_Reader.ok rfl rfl) T.kl_Reader.mg (by decide +kernel) (j_var (pv 4)) T.m_Reader_take (f_Reader_take T base) ar_runB (hr.mono (by decide)) T.b_Reader_take (ja_cons (j_var (pv 12)) (ja_cons (j_var (pv 5)) ja_nil))) (ja_cons j_str ja_nil))))) (jb_one (js_ret j_bl)) jb_nil))) jb_nil)
  (jb_one (js_if (jt_not (jt_tru (j_call (f__law_same T base 12) (a__law_same 12) (hr.mono (by decide)) (by rfl) T.g__law_same T.k__law_same T.b__law_same (ja_cons (j_meth0 (T.kl_Reader.ok rfl rfl) T.kl_Reader.mg (by decide +kernel) (j_var (pv 4)) T.m_Reader_data (f_Reader_data T base) ar_runB (hr.mono (by decide)) T.b_Reader_data) (ja_cons (j_var (pv 9)) ja_nil))))) (jb_one (js_ret j_bl)) jb_nil))))))))))))))
  (jb_cons (js_set (i := 18) sc_law.nd rfl (by first | exact .inl rfl | exact .inr rfl) (j_meth0 (T.kl_Reader.ok rfl rfl) T.kl_Reader.mg (by decide +kernel) (j_var (pv 4)) T.m_Reader_tally (f_Reader_tally T base) ar_runB (hr.mono (by decide)) T.b_Reader_tally))
  (jb_cons (js_asg (j_ix (hu64 hr) (j_var (pv 18)) j_str fun _ _ => rfl) (jg_ix (hu64 hr) (j_var (pv 6)) j_str))
  (jb_one (js_ret (j_and (j_call (f__law_same T base 12) (a__law_same 12) (hr.mono (by decide)) (by rfl) T.g__law_same T.k__law_same T.b__law_same (ja_cons (j_var (pv 18)) (ja_cons (j_var (pv 6)) ja_nil))) (j_one (j_call (f__law_same T base 12) (a__law_same 12) (hr.mono (by decide)) (by rfl) T.g__law_same T.k__law_same T.b__law_same (ja_cons (j_meth0 (T.kl_Reader.ok rfl rfl) T.kl_Reader.mg (by decide +kernel) (j_var (pv 4)) T.m_Reader_data (f_Reader_data T base) ar_runB (hr.mono (by decide)) T.b_Reader_data) (ja_cons (j_var (pv 9)) ja_nil)))))))))))))))))
end
/-! what the top has written -/
theorem all_mk {l : PySem.W.OpenLaw} {w : World} {K : PySem.W.Frag} {h : Heap} {mg : Str → Option Value} {fa : Addr} {o__law_draws o__law_draw o_Reader_tally o_Writer___init__ o_Reader___init__ o_is_number o_is_octets o_check_of o_guarded o_Writer_write o_Reader_go_on o_Reader_counted o_Reader_is_right o_Reader_good o_Reader_take o__law_same o_Reader_data o_law A_Reader A_Writer : Addr} {od__law_draws an__law_draws od__law_draw an__law_draw od_Reader_tally an_Reader_tally od_Writer___init__ an_Writer___init__ od_Reader___init__ an_Reader___init__ od_is_number an_is_number od_is_octets an_is_octets od_check_of an_check_of od_guarded an_guarded od_Writer_write an_Writer_write od_Reader_go_on an_Reader_go_on od_Reader_counted an_Reader_counted od_Reader_is_right an_Reader_is_right od_Reader_good an_Reader_good od_Reader_take an_Reader_take od__law_same an__law_same od_Reader_data an_Reader_data od_law an_law : Option Addr} {sl__law_draws sl__law_draw sl_Reader_tally sl_Writer___init__ sl_Reader___init__ sl_is_number sl_is_octets sl_check_of sl_guarded sl_Writer_write sl_Reader_go_on sl_Reader_counted sl_Reader_is_right sl_Reader_good sl_Reader_take sl__law_same sl_Reader_data sl_law : Array (Option Value)} {oc__law_draws kV__law_draws dc__law_draws pm__law_draws cd__law_draws ct__law_draws oc__law_draw kV__law_draw dc__law_draw pm__law_draw cd__law_draw ct__law_draw oc_Reader_tally kV_Reader_tally dc_Reader_tally pm_Reader_tally cd_Reader_tally ct_Reader_tally oc_Writer___init__ kV_Writer___init__ dc_Writer___init__ pm_Writer___init__ cd_Writer___init__ ct_Writer___init__ oc_Reader___init__ kV_Reader___init__ dc_Reader___init__ pm_Reader___init__ cd_Reader___init__ ct_Reader___init__ oc_is_number kV_is_number dc_is_number pm_is_number cd_is_number ct_is_number oc_is_octets kV_is_octets dc_is_octets pm_is_octets cd_is_octets ct_is_octets oc_check_of kV_check_of dc_check_of pm_check_of cd_check_of ct_check_of oc_guarded kV_guarded dc_guarded pm_guarded cd_guarded ct_guarded oc_Writer_write kV_Writer_write dc_Writer_write pm_Writer_write cd_Writer_write ct_Writer_write oc_Reader_go_on kV_Reader_go_on dc_Reader_go_on pm_Reader_go_on cd_Reader_go_on ct_Reader_go_on oc_Reader_counted kV_Reader_counted dc_Reader_counted pm_Reader_counted cd_Reader_counted ct_Reader_counted oc_Reader_is_right kV_Reader_is_right dc_Reader_is_right pm_Reader_is_right cd_Reader_is_right ct_Reader_is_right oc_Reader_good kV_Reader_good dc_Reader_good pm_Reader_good cd_Reader_good ct_Reader_good oc_Reader_take kV_Reader_take dc_Reader_take pm_Reader_take cd_Reader_take ct_Reader_take oc__law_same kV__law_same dc__law_same pm__law_same cd__law_same ct__law_same oc_Reader_data kV_Reader_data dc_Reader_data pm_Reader_data cd_Reader_data ct_Reader_data oc_law kV_law dc_law pm_law cd_law ct_law : Value} {t_LAST : Tok} {t_MAKER : Tok} (X : K.In h) (G : h.Ns mainGlobals mg) (hfa : mg "law" = some (.ref fa))
  (aC_Reader : PySem.W.nsIn K mainGlobals "Reader" = some (some (.ref A_Reader)))
  (aC_Writer : PySem.W.nsIn K mainGlobals "Writer" = some (some (.ref A_Writer)))
  (a__law_draws : PySem.W.nsIn K mainGlobals "_law_draws" = some (some (.ref o__law_draws)))
  (l__law_draws : K.lookup o__law_draws = some ⟨oc__law_draws, od__law_draws, .func (PySem.W.fnOf "_law_draws" "_law_draws" (defArgs s__law_draws) (defBody s__law_draws) (defScope s__law_draws) .none kV__law_draws dc__law_draws pm__law_draws an__law_draws cd__law_draws ct__law_draws), sl__law_draws⟩)
  (c__law_draws : PySem.W.codeIn K cd__law_draws "_law_draws" = true)
  (k__law_draws : PySem.W.keepIn K (.ref o__law_draws) = true)
  (a__law_draw : PySem.W.nsIn K mainGlobals "_law_draw" = some (some (.ref o__law_draw)))
  (l__law_draw : K.lookup o__law_draw = some ⟨oc__law_draw, od__law_draw, .func (PySem.W.fnOf "_law_draw" "_law_draw" (defArgs s__law_draw) (defBody s__law_draw) (defScope s__law_draw) .none kV__law_draw dc__law_draw pm__law_draw an__law_draw cd__law_draw ct__law_draw), sl__law_draw⟩)
  (c__law_draw : PySem.W.codeIn K cd__law_draw "_law_draw" = true)
  (k__law_draw : PySem.W.keepIn K (.ref o__law_draw) = true)
  (a_Reader_tally : PySem.W.findIn K (.ref A_Reader) "tally" = some (some (.ref o_Reader_tally)))
  (i_Reader_tally : PySem.W.isFn K (.ref o_Reader_tally) = true)
  (l_Reader_tally : K.lookup o_Reader_tally = some ⟨oc_Reader_tally, od_Reader_tally, .func (PySem.W.fnOf "tally" "Reader.tally" (defArgs s_Reader_tally) (defBody s_Reader_tally) (defScope s_Reader_tally) .none kV_Reader_tally dc_Reader_tally pm_Reader_tally an_Reader_tally cd_Reader_tally ct_Reader_tally), sl_Reader_tally⟩)
  (c_Reader_tally : PySem.W.codeIn K cd_Reader_tally "Reader.tally" = true)
  (k_Reader_tally : PySem.W.keepIn K (.ref o_Reader_tally) = true)
  (a_Writer___init__ : PySem.W.findIn K (.ref A_Writer) "__init__" = some (some (.ref o_Writer___init__)))
  (i_Writer___init__ : PySem.W.isFn K (.ref o_Writer___init__) = true)
  (l_Writer___init__ : K.lookup o_Writer___init__ = some ⟨oc_Writer___init__, od_Writer___init__, .func (PySem.W.fnOf "__init__" "Writer.__init__" (defArgs s_Writer___init__) (defBody s_Writer___init__) (defScope s_Writer___init__) .none kV_Writer___init__ dc_Writer___init__ pm_Writer___init__ an_Writer___init__ cd_Writer___init__ ct_Writer___init__), sl_Writer___init__⟩)
  (c_Writer___init__ : PySem.W.codeIn K cd_Writer___init__ "Writer.__init__" = true)
  (k_Writer___init__ : PySem.W.keepIn K (.ref o_Writer___init__) = true)
  (a_Reader___init__ : PySem.W.findIn K (.ref A_Reader) "__init__" = some (some (.ref o_Reader___init__)))
  (i_Reader___init__ : PySem.W.isFn K (.ref o_Reader___init__) = true)
  (l_Reader___init__ : K.lookup o_Reader___init__ = some ⟨oc_Reader___init__, od_Reader___init__, .func (PySem.W.fnOf "__init__" "Reader.__init__" (defArgs s_Reader___init__) (defBody s_Reader___init__) (defScope s_Reader___init__) .none kV_Reader___init__ dc_Reader___init__ pm_Reader___init__ an_Reader___init__ cd_Reader___init__ ct_Reader___init__), sl_Reader___init__⟩)
  (c_Reader___init__ : PySem.W.codeIn K cd_Reader___init__ "Reader.__init__" = true)
  (k_Reader___init__ : PySem.W.keepIn K (.ref o_Reader___init__) = true)
  (a_is_number : PySem.W.nsIn K mainGlobals "is_number" = some (some (.ref o_is_number)))
  (l_is_number : K.lookup o_is_number = some ⟨oc_is_number, od_is_number, .func (PySem.W.fnOf "is_number" "is_number" (defArgs s_is_number) (defBody s_is_number) (defScope s_is_number) .none kV_is_number dc_is_number pm_is_number an_is_number cd_is_number ct_is_number), sl_is_number⟩)
  (c_is_number : PySem.W.codeIn K cd_is_number "is_number" = true)
  (k_is_number : PySem.W.keepIn K (.ref o_is_number) = true)
  (a_is_octets : PySem.W.nsIn K mainGlobals "is_octets" = some (some (.ref o_is_octets)))
  (l_is_octets : K.lookup o_is_octets = some ⟨oc_is_octets, od_is_octets, .func (PySem.W.fnOf "is_octets" "is_octets" (defArgs s_is_octets) (defBody s_is_octets) (defScope s_is_octets) .none kV_is_octets dc_is_octets pm_is_octets an_is_octets cd_is_octets ct_is_octets), sl_is_octets⟩)
  (c_is_octets : PySem.W.codeIn K cd_is_octets "is_octets" = true)
  (k_is_octets : PySem.W.keepIn K (.ref o_is_octets) = true)
  (a_check_of : PySem.W.nsIn K mainGlobals "check_of" = some (some (.ref o_check_of)))
  (l_check_of : K.lookup o_check_of = some ⟨oc_check_of, od_check_of, .func (PySem.W.fnOf "check_of" "check_of" (defArgs s_check_of) (defBody s_check_of) (defScope s_check_of) .none kV_check_of dc_check_of pm_check_of an_check_of cd_check_of ct_check_of), sl_check_of⟩)
  (c_check_of : PySem.W.codeIn K cd_check_of "check_of" = true)
  (k_check_of : PySem.W.keepIn K (.ref o_check_of) = true)
  (a_guarded : PySem.W.nsIn K mainGlobals "guarded" = some (some (.ref o_guarded)))
  (l_guarded : K.lookup o_guarded = some ⟨oc_guarded, od_guarded, .func (PySem.W.fnOf "guarded" "guarded" (defArgs s_guarded) (defBody s_guarded) (defScope s_guarded) .none kV_guarded dc_guarded pm_guarded an_guarded cd_guarded ct_guarded), sl_guarded⟩)
  (c_guarded : PySem.W.codeIn K cd_guarded "guarded" = true)
  (k_guarded : PySem.W.keepIn K (.ref o_guarded) = true)
  (a_Writer_write : PySem.W.findIn K (.ref A_Writer) "write" = some (some (.ref o_Writer_write)))
  (i_Writer_write : PySem.W.isFn K (.ref o_Writer_write) = true)
  (l_Writer_write : K.lookup o_Writer_write = some ⟨oc_Writer_write, od_Writer_write, .func (PySem.W.fnOf "write" "Writer.write" (defArgs s_Writer_write) (defBody s_Writer_write) (defScope s_Writer_write) .none kV_Writer_write dc_Writer_write pm_Writer_write an_Writer_write cd_Writer_write ct_Writer_write), sl_Writer_write⟩)
  (c_Writer_write : PySem.W.codeIn K cd_Writer_write "Writer.write" = true)
  (k_Writer_write : PySem.W.keepIn K (.ref o_Writer_write) = true)
  (a_Reader_go_on : PySem.W.findIn K (.ref A_Reader) "go_on" = some (some (.ref o_Reader_go_on)))
  (i_Reader_go_on : PySem.W.isFn K (.ref o_Reader_go_on) = true)
  (l_Reader_go_on : K.lookup o_Reader_go_on = some ⟨oc_Reader_go_on, od_Reader_go_on, .func (PySem.W.fnOf "go_on" "Reader.go_on" (defArgs s_Reader_go_on) (defBody s_Reader_go_on) (defScope s_Reader_go_on) .none kV_Reader_go_on dc_Reader_go_on pm_Reader_go_on an_Reader_go_on cd_Reader_go_on ct_Reader_go_on), sl_Reader_go_on⟩)
  (c_Reader_go_on : PySem.W.codeIn K cd_Reader_go_on "Reader.go_on" = true)
  (k_Reader_go_on : PySem.W.keepIn K (.ref o_Reader_go_on) = true)
  (a_Reader_counted : PySem.W.findIn K (.ref A_Reader) "counted" = some (some (.ref o_Reader_counted)))
  (i_Reader_counted : PySem.W.isFn K (.ref o_Reader_counted) = true)
  (l_Reader_counted : K.lookup o_Reader_counted = some ⟨oc_Reader_counted, od_Reader_counted, .func (PySem.W.fnOf "counted" "Reader.counted" (defArgs s_Reader_counted) (defBody s_Reader_counted) (defScope s_Reader_counted) .none kV_Reader_counted dc_Reader_counted pm_Reader_counted an_Reader_counted cd_Reader_counted ct_Reader_counted), sl_Reader_counted⟩)
  (c_Reader_counted : PySem.W.codeIn K cd_Reader_counted "Reader.counted" = true)
  (k_Reader_counted : PySem.W.keepIn K (.ref o_Reader_counted) = true)
  (a_Reader_is_right : PySem.W.findIn K (.ref A_Reader) "is_right" = some (some (.ref o_Reader_is_right)))
  (i_Reader_is_right : PySem.W.isFn K (.ref o_Reader_is_right) = true)
  (l_Reader_is_right : K.lookup o_Reader_is_right = some ⟨oc_Reader_is_right, od_Reader_is_right, .func (PySem.W.fnOf "is_right" "Reader.is_right" (defArgs s_Reader_is_right) (defBody s_Reader_is_right) (defScope s_Reader_is_right) .none kV_Reader_is_right dc_Reader_is_right pm_Reader_is_right an_Reader_is_right cd_Reader_is_right ct_Reader_is_right), sl_Reader_is_right⟩)
  (c_Reader_is_right : PySem.W.codeIn K cd_Reader_is_right "Reader.is_right" = true)
  (k_Reader_is_right : PySem.W.keepIn K (.ref o_Reader_is_right) = true)
  (a_Reader_good : PySem.W.findIn K (.ref A_Reader) "good" = some (some (.ref o_Reader_good)))
  (i_Reader_good : PySem.W.isFn K (.ref o_Reader_good) = true)
  (l_Reader_good : K.lookup o_Reader_good = some ⟨oc_Reader_good, od_Reader_good, .func (PySem.W.fnOf "good" "Reader.good" (defArgs s_Reader_good) (defBody s_Reader_good) (defScope s_Reader_good) .none kV_Reader_good dc_Reader_good pm_Reader_good an_Reader_good cd_Reader_good ct_Reader_good), sl_Reader_good⟩)
  (c_Reader_good : PySem.W.codeIn K cd_Reader_good "Reader.good" = true)
  (k_Reader_good : PySem.W.keepIn K (.ref o_Reader_good) = true)
  (a_Reader_take : PySem.W.findIn K (.ref A_Reader) "take" = some (some (.ref o_Reader_take)))
  (i_Reader_take : PySem.W.isFn K (.ref o_Reader_take) = true)
  (l_Reader_take : K.lookup o_Reader_take = some ⟨oc_Reader_take, od_Reader_take, .func (PySem.W.fnOf "take" "Reader.take" (defArgs s_Reader_take) (defBody s_Reader_take) (defScope s_Reader_take) .none kV_Reader_take dc_Reader_take pm_Reader_take an_Reader_take cd_Reader_take ct_Reader_take), sl_Reader_take⟩)
  (c_Reader_take : PySem.W.codeIn K cd_Reader_take "Reader.take" = true)
  (k_Reader_take : PySem.W.keepIn K (.ref o_Reader_take) = true)
  (a__law_same : PySem.W.nsIn K mainGlobals "_law_same" = some (some (.ref o__law_same)))
  (l__law_same : K.lookup o__law_same = some ⟨oc__law_same, od__law_same, .func (PySem.W.fnOf "_law_same" "_law_same" (defArgs s__law_same) (defBody s__law_same) (defScope s__law_same) .none kV__law_same dc__law_same pm__law_same an__law_same cd__law_same ct__law_same), sl__law_same⟩)
  (c__law_same : PySem.W.codeIn K cd__law_same "_law_same" = true)
  (k__law_same : PySem.W.keepIn K (.ref o__law_same) = true)
  (a_Reader_data : PySem.W.findIn K (.ref A_Reader) "data" = some (some (.ref o_Reader_data)))
  (i_Reader_data : PySem.W.isFn K (.ref o_Reader_data) = true)
  (l_Reader_data : K.lookup o_Reader_data = some ⟨oc_Reader_data, od_Reader_data, .func (PySem.W.fnOf "data" "Reader.data" (defArgs s_Reader_data) (defBody s_Reader_data) (defScope s_Reader_data) .none kV_Reader_data dc_Reader_data pm_Reader_data an_Reader_data cd_Reader_data ct_Reader_data), sl_Reader_data⟩)
  (c_Reader_data : PySem.W.codeIn K cd_Reader_data "Reader.data" = true)
  (k_Reader_data : PySem.W.keepIn K (.ref o_Reader_data) = true)
  (a_law : PySem.W.nsIn K mainGlobals "law" = some (some (.ref o_law)))
  (l_law : K.lookup o_law = some ⟨oc_law, od_law, .func (PySem.W.fnOf "law" "law" (defArgs s_law) (defBody s_law) (defScope s_law) .none kV_law dc_law pm_law an_law cd_law ct_law), sl_law⟩)
  (c_law : PySem.W.codeIn K cd_law "law" = true)
  (k_law : PySem.W.keepIn K (.ref o_law) = true)
  (pg_Reader : PySem.W.plainGet K A_Reader Str.empty = true)
  (hd_Reader : PySem.W.hasDictIn K A_Reader = true)
  (po_Reader : PySem.W.plainOver K A_Reader = true)
  (sa_Reader : PySem.W.findIn K (.ref A_Reader) "__setattr__" = some (some (.builtin "object.__setattr__")))
  (mk_Reader : PySem.W.makesIn K A_Reader = true)
  (kc_Reader : PySem.W.keepIn K (.ref A_Reader) = true)
  (na_Reader_key : PySem.W.findIn K (.ref A_Reader) "key" = some none)
  (na_Reader_most : PySem.W.findIn K (.ref A_Reader) "most" = some none)
  (na_Reader_limit : PySem.W.findIn K (.ref A_Reader) "limit" = some none)
  (na_Reader_now : PySem.W.findIn K (.ref A_Reader) "now" = some none)
  (na_Reader_counter : PySem.W.findIn K (.ref A_Reader) "counter" = some none)
  (na_Reader_last : PySem.W.findIn K (.ref A_Reader) "last" = some none)
  (na_Reader_bell : PySem.W.findIn K (.ref A_Reader) "bell" = some none)
  (na_Reader_counts : PySem.W.findIn K (.ref A_Reader) "counts" = some none)
  (pg_Writer : PySem.W.plainGet K A_Writer Str.empty = true)
  (hd_Writer : PySem.W.hasDictIn K A_Writer = true)
  (po_Writer : PySem.W.plainOver K A_Writer = true)
  (sa_Writer : PySem.W.findIn K (.ref A_Writer) "__setattr__" = some (some (.builtin "object.__setattr__")))
  (mk_Writer : PySem.W.makesIn K A_Writer = true)
  (kc_Writer : PySem.W.keepIn K (.ref A_Writer) = true)
  (na_Writer_key : PySem.W.findIn K (.ref A_Writer) "key" = some none)
  (na_Writer_counter : PySem.W.findIn K (.ref A_Writer) "counter" = some none)
  (v_LAST : PySem.W.nsIn K mainGlobals "LAST" = some (some (.int 14 t_LAST)))
  (v_MAKER : PySem.W.nsIn K mainGlobals "MAKER" = some (some (.int 29 t_MAKER)))
  (z_all : PySem.W.nsIn K mainGlobals "all" = some none)
  (z_bool : PySem.W.nsIn K mainGlobals "bool" = some none)
  (z_dict : PySem.W.nsIn K mainGlobals "dict" = some none)
  (z_int : PySem.W.nsIn K mainGlobals "int" = some none)
  (z_isinstance : PySem.W.nsIn K mainGlobals "isinstance" = some none)
  (z_len : PySem.W.nsIn K mainGlobals "len" = some none)
  (z_list : PySem.W.nsIn K mainGlobals "list" = some none)
  (z_range : PySem.W.nsIn K mainGlobals "range" = some none)
  (z_str : PySem.W.nsIn K mainGlobals "str" = some none)
  (z_tuple : PySem.W.nsIn K mainGlobals "tuple" = some none) :
  ∃ fd : FuncData, (∀ (s : Shared) (v : Value), BindsTo s fd ⟨[v], []⟩ [("script", v)]) ∧ ∀ base : Heap, K.In base → base.Ns mainGlobals mg → FnOk l.prog w K mg base (L2.CX l.prog w) 13 fa fd ["script"] (spM K mg 1 m_law) := by
  have e := hfa.symm.trans (PySem.W.mg_of X G a_law)
  cases e
  have F__law_draws := fun_mk (st := s__law_draws) l__law_draws c__law_draws k__law_draws
  have b__law_draws := F__law_draws.binds (ps := ["script"]) fun _ _ _ _ _ _ us hl => match us, hl with | [_], _ => rfl
  have F__law_draw := fun_mk (st := s__law_draw) l__law_draw c__law_draw k__law_draw
  have b__law_draw := F__law_draw.binds (ps := ["draws", "limit"]) fun _ _ _ _ _ _ us hl => match us, hl with | [_, _], _ => rfl
  have F_Reader_tally := fun_mk (st := s_Reader_tally) l_Reader_tally c_Reader_tally k_Reader_tally
  have b_Reader_tally := F_Reader_tally.binds (ps := ["self"]) fun _ _ _ _ _ _ us hl => match us, hl with | [_], _ => rfl
  have F_Writer___init__ := fun_mk (st := s_Writer___init__) l_Writer___init__ c_Writer___init__ k_Writer___init__
  have b_Writer___init__ := F_Writer___init__.binds (ps := ["self", "key"]) fun _ _ _ _ _ _ us hl => match us, hl with | [_, _], _ => rfl
  have F_Reader___init__ := fun_mk (st := s_Reader___init__) l_Reader___init__ c_Reader___init__ k_Reader___init__
  have b_Reader___init__ := F_Reader___init__.binds (ps := ["self", "key", "most", "limit"]) fun _ _ _ _ _ _ us hl => match us, hl with | [_, _, _, _], _ => rfl
  have F_is_number := fun_mk (st := s_is_number) l_is_number c_is_number k_is_number
  have b_is_number := F_is_number.binds (ps := ["thing", "low", "high"]) fun _ _ _ _ _ _ us hl => match us, hl with | [_, _, _], _ => rfl
  have F_is_octets := fun_mk (st := s_is_octets) l_is_octets c_is_octets k_is_octets
  have b_is_octets := F_is_octets.binds (ps := ["thing", "most"]) fun _ _ _ _ _ _ us hl => match us, hl with | [_, _], _ => rfl
  have F_check_of := fun_mk (st := s_check_of) l_check_of c_check_of k_check_of
  have b_check_of := F_check_of.binds (ps := ["octets"]) fun _ _ _ _ _ _ us hl => match us, hl with | [_], _ => rfl
  have F_guarded := fun_mk (st := s_guarded) l_guarded c_guarded k_guarded
  have b_guarded := F_guarded.binds (ps := ["data", "counter", "key"]) fun _ _ _ _ _ _ us hl => match us, hl with | [_, _, _], _ => rfl
  have F_Writer_write := fun_mk (st := s_Writer_write) l_Writer_write c_Writer_write k_Writer_write
  have b_Writer_write := F_Writer_write.binds (ps := ["self", "data"]) fun _ _ _ _ _ _ us hl => match us, hl with | [_, _], _ => rfl
  have F_Reader_go_on := fun_mk (st := s_Reader_go_on) l_Reader_go_on c_Reader_go_on k_Reader_go_on
  have b_Reader_go_on := F_Reader_go_on.binds (ps := ["self", "now"]) fun _ _ _ _ _ _ us hl => match us, hl with | [_, _], _ => rfl
  have F_Reader_counted := fun_mk (st := s_Reader_counted) l_Reader_counted c_Reader_counted k_Reader_counted
  have b_Reader_counted := F_Reader_counted.binds (ps := ["self", "word", "told"]) fun _ _ _ _ _ _ us hl => match us, hl with | [_, _, _], _ => rfl
  have F_Reader_is_right := fun_mk (st := s_Reader_is_right) l_Reader_is_right c_Reader_is_right k_Reader_is_right
  have b_Reader_is_right := F_Reader_is_right.binds (ps := ["self", "octets"]) fun _ _ _ _ _ _ us hl => match us, hl with | [_, _], _ => rfl
  have F_Reader_good := fun_mk (st := s_Reader_good) l_Reader_good c_Reader_good k_Reader_good
  have b_Reader_good := F_Reader_good.binds (ps := ["self", "octets", "word", "told"]) fun _ _ _ _ _ _ us hl => match us, hl with | [_, _, _, _], _ => rfl
  have F_Reader_take := fun_mk (st := s_Reader_take) l_Reader_take c_Reader_take k_Reader_take
  have b_Reader_take := F_Reader_take.binds (ps := ["self", "octets", "now"]) fun _ _ _ _ _ _ us hl => match us, hl with | [_, _, _], _ => rfl
  have F__law_same := fun_mk (st := s__law_same) l__law_same c__law_same k__law_same
  have b__law_same := F__law_same.binds (ps := ["x", "due"]) fun _ _ _ _ _ _ us hl => match us, hl with | [_, _], _ => rfl
  have F_Reader_data := fun_mk (st := s_Reader_data) l_Reader_data c_Reader_data k_Reader_data
  have b_Reader_data := F_Reader_data.binds (ps := ["self"]) fun _ _ _ _ _ _ us hl => match us, hl with | [_], _ => rfl
  have F_law := fun_mk (st := s_law) l_law c_law k_law
  have b_law := F_law.binds (ps := ["script"]) fun _ _ _ _ _ _ us hl => match us, hl with | [_], _ => rfl
  have NA_Reader : ∀ f ∈ c_Reader.fl, NoAttr K A_Reader f := by
      intro f hf
      simp only [List.mem_cons, List.not_mem_nil, or_false] at hf
      rcases hf with rfl | rfl | rfl | rfl | rfl | rfl | rfl | rfl
      · exact na_Reader_key
      · exact na_Reader_most
      · exact na_Reader_limit
      · exact na_Reader_now
      · exact na_Reader_counter
      · exact na_Reader_last
      · exact na_Reader_bell
      · exact na_Reader_counts
  have NA_Writer : ∀ f ∈ c_Writer.fl, NoAttr K A_Writer f := by
      intro f hf
      simp only [List.mem_cons, List.not_mem_nil, or_false] at hf
      rcases hf with rfl | rfl
      · exact na_Writer_key
      · exact na_Writer_counter
  let T : Tx K mg := {
    f__law_draws := o__law_draws, d__law_draws := _, F__law_draws := F__law_draws, b__law_draws := b__law_draws,
    g__law_draws := PySem.W.mg_of X G a__law_draws, k__law_draws := k__law_draws,
    f__law_draw := o__law_draw, d__law_draw := _, F__law_draw := F__law_draw, b__law_draw := b__law_draw,
    g__law_draw := PySem.W.mg_of X G a__law_draw, k__law_draw := k__law_draw,
    f_Reader_tally := o_Reader_tally, d_Reader_tally := _, F_Reader_tally := F_Reader_tally, b_Reader_tally := b_Reader_tally,
    f_Writer___init__ := o_Writer___init__, d_Writer___init__ := _, F_Writer___init__ := F_Writer___init__, b_Writer___init__ := b_Writer___init__,
    f_Reader___init__ := o_Reader___init__, d_Reader___init__ := _, F_Reader___init__ := F_Reader___init__, b_Reader___init__ := b_Reader___init__,
    f_is_number := o_is_number, d_is_number := _, F_is_number := F_is_number, b_is_number := b_is_number,
    g_is_number := PySem.W.mg_of X G a_is_number, k_is_number := k_is_number,
    f_is_octets := o_is_octets, d_is_octets := _, F_is_octets := F_is_octets, b_is_octets := b_is_octets,
    g_is_octets := PySem.W.mg_of X G a_is_octets, k_is_octets := k_is_octets,
    f_check_of := o_check_of, d_check_of := _, F_check_of := F_check_of, b_check_of := b_check_of,
    g_check_of := PySem.W.mg_of X G a_check_of, k_check_of := k_check_of,
    f_guarded := o_guarded, d_guarded := _, F_guarded := F_guarded, b_guarded := b_guarded,
    g_guarded := PySem.W.mg_of X G a_guarded, k_guarded := k_guarded,
    f_Writer_write := o_Writer_write, d_Writer_write := _, F_Writer_write := F_Writer_write, b_Writer_write := b_Writer_write,
    f_Reader_go_on := o_Reader_go_on, d_Reader_go_on := _, F_Reader_go_on := F_Reader_go_on, b_Reader_go_on := b_Reader_go_on,
    f_Reader_counted := o_Reader_counted, d_Reader_counted := _, F_Reader_counted := F_Reader_counted, b_Reader_counted := b_Reader_counted,
    f_Reader_is_right := o_Reader_is_right, d_Reader_is_right := _, F_Reader_is_right := F_Reader_is_right, b_Reader_is_right := b_Reader_is_right,
    f_Reader_good := o_Reader_good, d_Reader_good := _, F_Reader_good := F_Reader_good, b_Reader_good := b_Reader_good,
    f_Reader_take := o_Reader_take, d_Reader_take := _, F_Reader_take := F_Reader_take, b_Reader_take := b_Reader_take,
    f__law_same := o__law_same, d__law_same := _, F__law_same := F__law_same, b__law_same := b__law_same,
    g__law_same := PySem.W.mg_of X G a__law_same, k__law_same := k__law_same,
    f_Reader_data := o_Reader_data, d_Reader_data := _, F_Reader_data := F_Reader_data, b_Reader_data := b_Reader_data,
    f_law := fa, d_law := _, F_law := F_law, b_law := b_law,
    g_law := PySem.W.mg_of X G a_law, k_law := k_law,
    A_Reader := A_Reader, kl_Reader := ⟨PySem.W.mg_of X G aC_Reader, ⟨pg_Reader, hd_Reader, po_Reader, sa_Reader⟩, NA_Reader, by decide +kernel⟩,
    m_Reader_tally := ⟨a_Reader_tally, i_Reader_tally, k_Reader_tally⟩,
    mk_Reader := ⟨mk_Reader, a_Reader___init__, i_Reader___init__, kc_Reader⟩,
    m_Reader_go_on := ⟨a_Reader_go_on, i_Reader_go_on, k_Reader_go_on⟩,
    m_Reader_counted := ⟨a_Reader_counted, i_Reader_counted, k_Reader_counted⟩,
    m_Reader_is_right := ⟨a_Reader_is_right, i_Reader_is_right, k_Reader_is_right⟩,
    m_Reader_good := ⟨a_Reader_good, i_Reader_good, k_Reader_good⟩,
    m_Reader_take := ⟨a_Reader_take, i_Reader_take, k_Reader_take⟩,
    m_Reader_data := ⟨a_Reader_data, i_Reader_data, k_Reader_data⟩,
    A_Writer := A_Writer, kl_Writer := ⟨PySem.W.mg_of X G aC_Writer, ⟨pg_Writer, hd_Writer, po_Writer, sa_Writer⟩, NA_Writer, by decide +kernel⟩,
    mk_Writer := ⟨mk_Writer, a_Writer___init__, i_Writer___init__, kc_Writer⟩,
    m_Writer_write := ⟨a_Writer_write, i_Writer_write, k_Writer_write⟩,
    t_LAST := t_LAST, c_LAST := PySem.W.mg_of X G v_LAST,
    t_MAKER := t_MAKER, c_MAKER := PySem.W.mg_of X G v_MAKER,
    n_all := PySem.W.mg_none_of X G z_all,
    n_bool := PySem.W.mg_none_of X G z_bool,
    n_dict := PySem.W.mg_none_of X G z_dict,
    n_int := PySem.W.mg_none_of X G z_int,
    n_isinstance := PySem.W.mg_none_of X G z_isinstance,
    n_len := PySem.W.mg_none_of X G z_len,
    n_list := PySem.W.mg_none_of X G z_list,
    n_range := PySem.W.mg_none_of X G z_range,
    n_str := PySem.W.mg_none_of X G z_str,
    n_tuple := PySem.W.mg_none_of X G z_tuple }
  exact ⟨PySem.W.fnOf "law" "law" (defArgs s_law) (defBody s_law) (defScope s_law) .none kV_law dc_law pm_law an_law cd_law ct_law, fun s v => .of_eq rfl, fun base _ _ => f_law (P := l.prog) (wo := w) T base⟩
end G82
namespace G82
open PySem L2 Mi
theorem walk {l : PySem.W.OpenLaw} {q : Program} {loose : List Str} {XP : (Str → Option Value) → Heap → Prop} {YP : World → Heap → Prop} {d : DefRec} {K : Params → PySem.W.Frag} (hn : l.most = some 63) (hdf : d.params.defaults = [])
    (hY : ∀ (w : World) (h : Heap), YP w h → (K w.params).In h)
    (F : ∀ (w : World) (mg : Str → Option Value) (fa : Addr) (h : Heap), (K w.params).In h → h.Ns mainGlobals mg → mg d.name = some (.ref fa) →
      ∃ fd : FuncData, (∀ (s : Shared) (u : Value), BindsTo s fd ⟨[u], []⟩ [("script", u)]) ∧ ∀ base : Heap, (K w.params).In base → base.Ns mainGlobals mg → FnOk l.prog w (K w.params) mg base (L2.CX l.prog w) 13 fa fd ["script"] (spM (K w.params) mg 1 m_law)) :
    PySem.W.WalkO q loose XP YP l.row.toRowW d [] (fun f vs => PySem.call f vs) :=
  L2.walk_of (n := 63) (k := 13) (x := "script") (CX := fun w => L2.CX l.prog w) (sp := fun w => spL (K w.params)) hn (by decide) hdf ⟨rfl, by decide, by decide⟩ hY (fun w mg fa h a b c => by
    obtain ⟨fd, h1, h2⟩ := F w mg fa h a b c
    exact ⟨fd, h1, fun base x y => (h2 base x y).imp fun vs H Q E hs => spL_go pure hs⟩) (fun _ _ a ns hl _ hS => ⟨a, ns, rfl, hS, hl, fun _ => rfl⟩) fun _ _ _ _ _ z => cx_no z
end G82
open PySem PySem.W PyProof.Rows
set_option maxRecDepth 100000 in
set_option maxHeartbeats 0 in
theorem PySem.Challenge.cw_axlewire_k82_runs_of_guarded_messages_holds : PySem.Challenge.rw_axlewire_k82_runs_of_guarded_messages.Holds := by
  w_on; o_law; k_head; (case hw => w_witness2)
  k_fill
  refine G82.walk (l := PySem.Challenge.rw_axlewire_k82_runs_of_guarded_messages) rfl rfl (fun w h Y => PySem.W.kIn_of Y) ?F
  case F =>
    intro w mg fa h KX G hmg
    refine' G82.all_mk KX G hmg ?aC_Reader ?aC_Writer ?a__law_draws ?l__law_draws ?c__law_draws ?k__law_draws ?a__law_draw ?l__law_draw ?c__law_draw ?k__law_draw ?a_Reader_tally ?i_Reader_tally ?l_Reader_tally ?c_Reader_tally ?k_Reader_tally ?a_Writer___init__ ?i_Writer___init__ ?l_Writer___init__ ?c_Writer___init__ ?k_Writer___init__ ?a_Reader___init__ ?i_Reader___init__ ?l_Reader___init__ ?c_Reader___init__ ?k_Reader___init__ ?a_is_number ?l_is_number ?c_is_number ?k_is_number ?a_is_octets ?l_is_octets ?c_is_octets ?k_is_octets ?a_check_of ?l_check_of ?c_check_of ?k_check_of ?a_guarded ?l_guarded ?c_guarded ?k_guarded ?a_Writer_write ?i_Writer_write ?l_Writer_write ?c_Writer_write ?k_Writer_write ?a_Reader_go_on ?i_Reader_go_on ?l_Reader_go_on ?c_Reader_go_on ?k_Reader_go_on ?a_Reader_counted ?i_Reader_counted ?l_Reader_counted ?c_Reader_counted ?k_Reader_counted ?a_Reader_is_right ?i_Reader_is_right ?l_Reader_is_right ?c_Reader_is_right ?k_Reader_is_right ?a_Reader_good ?i_Reader_good ?l_Reader_good ?c_Reader_good ?k_Reader_good ?a_Reader_take ?i_Reader_take ?l_Reader_take ?c_Reader_take ?k_Reader_take ?a__law_same ?l__law_same ?c__law_same ?k__law_same ?a_Reader_data ?i_Reader_data ?l_Reader_data ?c_Reader_data ?k_Reader_data ?a_law ?l_law ?c_law ?k_law ?pg_Reader ?hd_Reader ?po_Reader ?sa_Reader ?mk_Reader ?kc_Reader ?na_Reader_key ?na_Reader_most ?na_Reader_limit ?na_Reader_now ?na_Reader_counter ?na_Reader_last ?na_Reader_bell ?na_Reader_counts ?pg_Writer ?hd_Writer ?po_Writer ?sa_Writer ?mk_Writer ?kc_Writer ?na_Writer_key ?na_Writer_counter ?v_LAST ?v_MAKER ?z_all ?z_bool ?z_dict ?z_int ?z_isinstance ?z_len ?z_list ?z_range ?z_str ?z_tuple
    (case aC_Reader => k_is); (case aC_Writer => k_is); (case a__law_draws => k_is); (case l__law_draws => k_is); (case c__law_draws => k_is); (case k__law_draws => k_is); (case a__law_draw => k_is); (case l__law_draw => k_is); (case c__law_draw => k_is); (case k__law_draw => k_is); (case a_Reader_tally => k_is); (case i_Reader_tally => k_is); (case l_Reader_tally => k_is); (case c_Reader_tally => k_is); (case k_Reader_tally => k_is); (case a_Writer___init__ => k_is); (case i_Writer___init__ => k_is); (case l_Writer___init__ => k_is); (case c_Writer___init__ => k_is); (case k_Writer___init__ => k_is); (case a_Reader___init__ => k_is); (case i_Reader___init__ => k_is); (case l_Reader___init__ => k_is); (case c_Reader___init__ => k_is); (case k_Reader___init__ => k_is); (case a_is_number => k_is); (case l_is_number => k_is); (case c_is_number => k_is); (case k_is_number => k_is); (case a_is_octets => k_is); (case l_is_octets => k_is); (case c_is_octets => k_is); (case k_is_octets => k_is); (case a_check_of => k_is); (case l_check_of => k_is); (case c_check_of => k_is); (case k_check_of => k_is); (case a_guarded => k_is); (case l_guarded => k_is); (case c_guarded => k_is); (case k_guarded => k_is); (case a_Writer_write => k_is); (case i_Writer_write => k_is); (case l_Writer_write => k_is); (case c_Writer_write => k_is); (case k_Writer_write => k_is); (case a_Reader_go_on => k_is); (case i_Reader_go_on => k_is); (case l_Reader_go_on => k_is); (case c_Reader_go_on => k_is); (case k_Reader_go_on => k_is); (case a_Reader_counted => k_is); (case i_Reader_counted => k_is); (case l_Reader_counted => k_is); (case c_Reader_counted => k_is); (case k_Reader_counted => k_is); (case a_Reader_is_right => k_is); (case i_Reader_is_right => k_is); (case l_Reader_is_right => k_is); (case c_Reader_is_right => k_is); (case k_Reader_is_right => k_is); (case a_Reader_good => k_is); (case i_Reader_good => k_is); (case l_Reader_good => k_is); (case c_Reader_good => k_is); (case k_Reader_good => k_is); (case a_Reader_take => k_is); (case i_Reader_take => k_is); (case l_Reader_take => k_is); (case c_Reader_take => k_is); (case k_Reader_take => k_is); (case a__law_same => k_is); (case l__law_same => k_is); (case c__law_same => k_is); (case k__law_same => k_is); (case a_Reader_data => k_is); (case i_Reader_data => k_is); (case l_Reader_data => k_is); (case c_Reader_data => k_is); (case k_Reader_data => k_is); (case a_law => k_is); (case l_law => k_is); (case c_law => k_is); (case k_law => k_is); (case pg_Reader => k_is); (case hd_Reader => k_is); (case po_Reader => k_is); (case sa_Reader => k_is); (case mk_Reader => k_is); (case kc_Reader => k_is); (case na_Reader_key => k_is); (case na_Reader_most => k_is); (case na_Reader_limit => k_is); (case na_Reader_now => k_is); (case na_Reader_counter => k_is); (case na_Reader_last => k_is); (case na_Reader_bell => k_is); (case na_Reader_counts => k_is); (case pg_Writer => k_is); (case hd_Writer => k_is); (case po_Writer => k_is); (case sa_Writer => k_is); (case mk_Writer => k_is); (case kc_Writer => k_is); (case na_Writer_key => k_is); (case na_Writer_counter => k_is); (case v_LAST => k_is); (case v_MAKER => k_is); (case z_all => k_is); (case z_bool => k_is); (case z_dict => k_is); (case z_int => k_is); (case z_isinstance => k_is); (case z_len => k_is); (case z_list => k_is); (case z_range => k_is); (case z_str => k_is); (case z_tuple => k_is)
#print axioms PySem.Challenge.cw_axlewire_k82_runs_of_guarded_messages_holds
