import PyProof.Rows.All
import Wide.All
import OpenK.AllK
import Wide.FinOn
import HandS.ForMost
import HandS.Exc
import HandS.ExcOwn
import HandS.TryOnly
import HandS.WordsExc
import HandS.Style
import HandS.IsInst
import HandS.DictComp
import HandS.SetFor
import HandS.CallSlots
import HandS.Deep
import HandS.TupAny
import HandS.SortInts
import HandS.Conv
import HandS.ListItems
import KE.SortData
import KE.DataMinMax
import KE.DataFind
import HandS.ExcInit
import HandS.ExcField
import KE.KExcSuper
import PySem.Challenge.RW_axlewire_k93_frames_come_once
import HandS.Text
import KE.BitLaws
set_option Elab.async false
set_option linter.all false
set_option maxRecDepth 100000
set_option maxHeartbeats 0
/-! Mi: the mirror layer: values as trees, a store of what may change, one lemma a construct. -/
namespace Mi
open PySem L2

inductive D where
  | non | bl (b : Bool) | int (i : Int) | str (x : Str)
  | lst (xs : List D) | src (xs : List D) | tup (xs : List D) | dct (kvs : List (Key × D)) | obj (n : Nat) | ty (n : String)
/-- a class: its name, its attributes in the order in which they are stored -/
structure Cl where
  nm : Str
  fl : List Str
  deriving DecidableEq
inductive MO where
  | lst (xs : List D) | dk (kvs : List (Key × D)) | lk (kvs : List (Key × D)) | ll (xs : List D) | ins (c : Cl) (fs : List D)
def MO.isLk : MO → Bool
  | .lk _ => true
  | .ll _ => true
  | _ => false
structure MS where
  nx : Nat
  get : Nat → Option MO
def MS.set (S : MS) (n : Nat) (o : MO) : MS := ⟨S.nx, fun k => if k = n then some o else S.get k⟩
def MS.add (S : MS) (o : MO) : MS := ⟨S.nx + 1, fun k => if k = S.nx then some o else S.get k⟩
def MS.del (S : MS) (n : Nat) : MS := ⟨S.nx, fun k => if k = n then none else S.get k⟩

/-- the world: where what may change stands, what never changes, how many were made -/
structure Wd where
  φ : Nat → Addr
  F : Hp
  m : Nat
mutual
inductive Rep (K : PySem.W.Frag) (w : Wd) : V → D → Prop
  | non : Rep K w .non .non
  | bl (b : Bool) : Rep K w (.bl b) (.bl b)
  | int (i : Int) : Rep K w (.int i) (.int i)
  | str (x : Str) : Rep K w (.str x) (.str x)
  | lst {a : Addr} {vs : List V} {ds : List D} : Rd w.F a (.lst vs) → RepL K w vs ds → Rep K w (.ref a) (.lst ds)
  | src {a : Addr} {vs : List V} {ds : List D} : SqL K w.F a vs → RepL K w vs ds → Rep K w (.ref a) (.src ds)
  | tup {a : Addr} {vs : List V} {ds : List D} : SqT K w.F a vs → RepL K w vs ds → Rep K w (.ref a) (.tup ds)
  | dct {a : Addr} {ob : Obj} {kws : List (Key × V)} {kvs : List (Key × D)} : w.F a = some (.frz ob (.dK kws)) → RepK K w kws kvs → Rep K w (.ref a) (.dct kvs)
  | obj {n : Nat} : n < w.m → Rep K w (.ref (w.φ n)) (.obj n)
  | ty (n : String) : Rep K w (.ty n) (.ty n)
inductive RepL (K : PySem.W.Frag) (w : Wd) : List V → List D → Prop
  | nil : RepL K w [] []
  | cons {v : V} {vs : List V} {d : D} {ds : List D} : Rep K w v d → RepL K w vs ds → RepL K w (v :: vs) (d :: ds)
inductive RepK (K : PySem.W.Frag) (w : Wd) : List (Key × V) → List (Key × D) → Prop
  | nil : RepK K w [] []
  | cons {k : Key} {v : V} {vs : List (Key × V)} {d : D} {ds : List (Key × D)} : Rep K w v d → RepK K w vs ds → RepK K w ((k, v) :: vs) ((k, d) :: ds)
end
def RepF (K : PySem.W.Frag) (w : Wd) : List (Str × V) → List Str → List D → Prop
  | [], _, [] => True
  | (f, v) :: r, g :: t, d :: s => f = g ∧ Rep K w v d ∧ RepF K w r t s
  | _, _, _ => False

structure Le (w w' : Wd) : Prop where
  m : w.m ≤ w'.m
  ph : ∀ n, n < w.m → w'.φ n = w.φ n
  ex : ∀ a o, w.F a = some o → w'.F a = some o
theorem Le.refl (w : Wd) : Le w w := ⟨Nat.le_refl _, fun _ _ => rfl, fun _ _ h => h⟩
theorem Le.trans {a b c : Wd} (x : Le a b) (y : Le b c) : Le a c :=
  ⟨Nat.le_trans x.m y.m, fun n h => (y.ph n (Nat.lt_of_lt_of_le h x.m)).trans (x.ph n h), fun q o h => y.ex q o (x.ex q o h)⟩

theorem rd_ex {H H' : Hp} {a : Addr} {u : HO} (e : ∀ a o, H a = some o → H' a = some o) (h : Rd H a u) : Rd H' a u := by
  rcases h with h | ⟨o, h⟩
  · exact Or.inl (e a _ h)
  · exact Or.inr ⟨o, e a _ h⟩
theorem sql_ex {K : PySem.W.Frag} {H H' : Hp} {a : Addr} {xs : List V} (e : ∀ a o, H a = some o → H' a = some o) (h : SqL K H a xs) : SqL K H' a xs := by
  rcases h with h | h
  · exact Or.inl (rd_ex e h)
  · exact Or.inr h
theorem sqt_ex {K : PySem.W.Frag} {H H' : Hp} {a : Addr} {xs : List V} (e : ∀ a o, H a = some o → H' a = some o) (h : SqT K H a xs) : SqT K H' a xs := by
  rcases h with h | h
  · exact Or.inl (rd_ex e h)
  · exact Or.inr h
mutual
theorem Rep.le {K : PySem.W.Frag} {w w' : Wd} (l : Le w w') : ∀ {d : D} {v : V}, Rep K w v d → Rep K w' v d
  | .non, _, h => by cases h; exact .non
  | .bl b, _, h => by cases h; exact .bl b
  | .int i, _, h => by cases h; exact .int i
  | .str x, _, h => by cases h; exact .str x
  | .ty n, _, h => by cases h; exact .ty n
  | .lst ds, _, h => by
    cases h with
    | lst h1 h2 => exact .lst (rd_ex l.ex h1) (RepL.le l h2)
  | .src ds, _, h => by
    cases h with
    | src h1 h2 => exact .src (sql_ex l.ex h1) (RepL.le l h2)
  | .tup ds, _, h => by
    cases h with
    | tup h1 h2 => exact .tup (sqt_ex l.ex h1) (RepL.le l h2)
  | .dct kvs, _, h => by
    cases h with
    | dct h1 h2 => exact .dct (l.ex _ _ h1) (RepK.le l h2)
  | .obj n, _, h => by
    cases h with
    | obj h1 =>
      rw [← l.ph n h1]
      exact .obj (Nat.lt_of_lt_of_le h1 l.m)
theorem RepL.le {K : PySem.W.Frag} {w w' : Wd} (l : Le w w') : ∀ {ds : List D} {vs : List V}, RepL K w vs ds → RepL K w' vs ds
  | [], _, h => by cases h; exact .nil
  | d :: ds, _, h => by
    cases h with
    | cons h1 h2 => exact .cons (Rep.le l h1) (RepL.le l h2)
theorem RepK.le {K : PySem.W.Frag} {w w' : Wd} (l : Le w w') : ∀ {ds : List (Key × D)} {vs : List (Key × V)}, RepK K w vs ds → RepK K w' vs ds
  | [], _, h => by cases h; exact .nil
  | (k, d) :: ds, _, h => by
    cases h with
    | cons h1 h2 => exact .cons (Rep.le l h1) (RepK.le l h2)
end
theorem RepF.le {K : PySem.W.Frag} {w w' : Wd} (l : Le w w') : ∀ {fl : List Str} {ds : List D} {vs : List (Str × V)}, RepF K w vs fl ds → RepF K w' vs fl ds
  | _, [], [], _ => True.intro
  | _, [], _ :: _, h => by
    cases ‹List Str› <;> exact h.elim
  | _, _ :: _, [], h => by
    cases ‹List Str› <;> exact h.elim
  | [], d :: ds, (f, v) :: vs, h => h.elim
  | g :: t, d :: ds, (f, v) :: vs, h => ⟨h.1, h.2.1.le l, RepF.le l h.2.2⟩
theorem RepF.get {K : PySem.W.Frag} {w : Wd} {f : Str} : ∀ {fl : List Str} {ds : List D} {vs : List (Str × V)} {i : Nat} {d : D}, fl.Nodup → RepF K w vs fl ds → fl[i]? = some f → ds[i]? = some d → ∃ v, vs.lookup f = some v ∧ Rep K w v d
  | _, [], _, _, _, _, _, _, e => by simp at e
  | [], d :: ds, vs, _, _, _, _, e, _ => by simp at e
  | g :: t, d :: ds, [], _, _, _, h, _, _ => h.elim
  | g :: t, d :: ds, (f', v) :: vs, 0, d', nd, h, e, e2 => by
    have e1 : g = f := by simpa using e
    have e3 : d = d' := by simpa using e2
    subst e1
    subst e3
    refine ⟨v, ?_, h.2.1⟩
    rw [h.1, List.lookup_cons_self]
  | g :: t, d :: ds, (f', v) :: vs, i + 1, d', nd, h, e, e2 => by
    obtain ⟨u, a, b⟩ := RepF.get (List.nodup_cons.mp nd).2 h.2.2 (by simpa using e) (by simpa using e2)
    refine ⟨u, ?_, b⟩
    have ne : f ≠ f' := fun z => (List.nodup_cons.mp nd).1 (by rw [← h.1, ← z]; exact List.mem_of_getElem? (i := i) (by simpa using e))
    rw [List.lookup_cons, beq_eq_false_iff_ne.mpr ne]
    exact a
theorem RepF.no {K : PySem.W.Frag} {w : Wd} {f : Str} : ∀ {fl : List Str} {ds : List D} {vs : List (Str × V)}, f ∉ fl → RepF K w vs fl ds → vs.lookup f = none
  | _, _, [], _, _ => rfl
  | [], _, (f', v) :: vs, _, h => by
    cases ‹List D› <;> exact h.elim
  | g :: t, [], (f', v) :: vs, _, h => h.elim
  | g :: t, d :: ds, (f', v) :: vs, hn, h => by
    have ne : f ≠ f' := fun z => hn (by rw [z, h.1]; exact List.mem_cons_self)
    rw [List.lookup_cons, beq_eq_false_iff_ne.mpr ne]
    exact RepF.no (fun z => hn (List.mem_cons_of_mem _ z)) h.2.2
theorem RepF.length {K : PySem.W.Frag} {w : Wd} : ∀ {fl : List Str} {ds : List D} {vs : List (Str × V)}, RepF K w vs fl ds → vs.length = ds.length
  | _, [], [], _ => rfl
  | _, [], _ :: _, h => by
    cases ‹List Str› <;> exact h.elim
  | _, _ :: _, [], h => by
    cases ‹List Str› <;> exact h.elim
  | [], d :: ds, (f, v) :: vs, h => h.elim
  | g :: t, d :: ds, (f, v) :: vs, h => by simp [RepF.length h.2.2]
/-- an attribute is stored: in its place, or as the next one -/
def setF (ds : List D) (i : Nat) (d : D) : Option (List D) := if i < ds.length then some (ds.set i d) else if i = ds.length then some (ds ++ [d]) else none
theorem RepF.put {K : PySem.W.Frag} {w : Wd} {f : Str} {v : V} {d : D} (r : Rep K w v d) : ∀ {fl : List Str} {ds ds' : List D} {vs : List (Str × V)} {i : Nat}, fl.Nodup → RepF K w vs fl ds → fl[i]? = some f → setF ds i d = some ds' → RepF K w (putF f v vs) fl ds'
  | [], _, _, _, _, _, _, e, _ => by simp at e
  | g :: t, [], ds', [], 0, nd, h, e, e2 => by
    have e1 : g = f := by simpa using e
    subst e1
    have e3 : [d] = ds' := by simpa [setF] using e2
    subst e3
    exact ⟨rfl, r, True.intro⟩
  | g :: t, [], ds', [], i + 1, nd, h, e, e2 => by simp [setF] at e2
  | g :: t, [], _, _ :: _, _, _, h, _, _ => h.elim
  | g :: t, _ :: _, _, [], _, _, h, _, _ => h.elim
  | g :: t, d0 :: ds, ds', (f', v') :: vs, 0, nd, h, e, e2 => by
    have e1 : g = f := by simpa using e
    subst e1
    have e3 : d :: ds = ds' := by simpa [setF] using e2
    subst e3
    unfold putF
    rw [if_pos h.1]
    exact ⟨h.1, r, h.2.2⟩
  | g :: t, d0 :: ds, ds', (f', v') :: vs, i + 1, nd, h, e, e2 => by
    have hi : t[i]? = some f := by simpa using e
    have ne : f' ≠ f := fun z => (List.nodup_cons.mp nd).1 (by rw [← h.1, z]; exact List.mem_of_getElem? hi)
    unfold putF
    rw [if_neg ne]
    unfold setF at e2
    by_cases h1 : i < ds.length
    · rw [if_pos (by simpa using h1)] at e2
      cases e2
      exact ⟨h.1, h.2.1, RepF.put r (List.nodup_cons.mp nd).2 h.2.2 hi (by unfold setF; rw [if_pos h1])⟩
    · rw [if_neg (by simpa using h1)] at e2
      by_cases h2 : i = ds.length
      · rw [if_pos (by simpa using h2)] at e2
        cases e2
        exact ⟨h.1, h.2.1, RepF.put r (List.nodup_cons.mp nd).2 h.2.2 hi (by unfold setF; rw [if_neg h1, if_pos h2]; rfl)⟩
      · rw [if_neg (by simpa using h2)] at e2
        cases e2
theorem RepL.length {K : PySem.W.Frag} {w : Wd} : ∀ {vs : List V} {ds : List D}, RepL K w vs ds → vs.length = ds.length
  | [], _, h => by cases h; rfl
  | v :: vs, _, h => by
    cases h with
    | cons _ h2 => simp [RepL.length h2]
theorem RepL.append {K : PySem.W.Frag} {w : Wd} : ∀ {vs us : List V} {ds es : List D}, RepL K w vs ds → RepL K w us es → RepL K w (vs ++ us) (ds ++ es)
  | [], _, _, _, h, g => by cases h; exact g
  | v :: vs, _, _, _, h, g => by
    cases h with
    | cons h1 h2 => exact .cons h1 (RepL.append h2 g)
theorem RepL.get {K : PySem.W.Frag} {w : Wd} : ∀ {vs : List V} {ds : List D} {i : Nat} {d : D}, RepL K w vs ds → ds[i]? = some d → ∃ v, vs[i]? = some v ∧ Rep K w v d
  | [], _, _, _, h, e => by cases h; simp at e
  | v :: vs, _, i, d, h, e => by
    cases h with
    | cons h1 h2 =>
      cases i with
      | zero =>
        simp at e
        subst e
        exact ⟨v, rfl, h1⟩
      | succ i =>
        obtain ⟨u, a, b⟩ := RepL.get (i := i) h2 (by simpa using e)
        exact ⟨u, by simpa using a, b⟩
theorem RepL.getV {K : PySem.W.Frag} {w : Wd} : ∀ {vs : List V} {ds : List D} {i : Nat} {v : V}, RepL K w vs ds → vs[i]? = some v → ∃ d, ds[i]? = some d ∧ Rep K w v d
  | [], _, _, _, h, e => by simp at e
  | v :: vs, _, i, d, h, e => by
    cases h with
    | cons h1 h2 =>
      cases i with
      | zero =>
        simp at e
        subst e
        exact ⟨_, rfl, h1⟩
      | succ i =>
        obtain ⟨u, a, b⟩ := RepL.getV (i := i) h2 (by simpa using e)
        exact ⟨u, by simpa using a, b⟩
theorem RepL.set {K : PySem.W.Frag} {w : Wd} {x : V} {y : D} (r : Rep K w x y) : ∀ {vs : List V} {ds : List D} (i : Nat), RepL K w vs ds → RepL K w (vs.set i x) (ds.set i y)
  | [], _, _, h => by cases h; exact .nil
  | v :: vs, _, i, h => by
    cases h with
    | cons h1 h2 =>
      cases i with
      | zero => exact .cons r h2
      | succ i => exact .cons h1 (RepL.set r i h2)
theorem RepL.take {K : PySem.W.Frag} {w : Wd} : ∀ {vs : List V} {ds : List D} (n : Nat), RepL K w vs ds → RepL K w (vs.take n) (ds.take n)
  | [], _, n, h => by
    cases h
    rw [List.take_nil, List.take_nil]
    exact .nil
  | v :: vs, _, n, h => by
    cases h with
    | cons h1 h2 =>
      cases n with
      | zero => exact .nil
      | succ n => exact .cons h1 (RepL.take n h2)
theorem RepL.drop {K : PySem.W.Frag} {w : Wd} : ∀ {vs : List V} {ds : List D} (n : Nat), RepL K w vs ds → RepL K w (vs.drop n) (ds.drop n)
  | [], _, n, h => by
    cases h
    rw [List.drop_nil, List.drop_nil]
    exact .nil
  | v :: vs, _, n, h => by
    cases h with
    | cons h1 h2 =>
      cases n with
      | zero => exact .cons h1 h2
      | succ n => exact RepL.drop n h2
theorem RepL.eraseIdx {K : PySem.W.Frag} {w : Wd} : ∀ {vs : List V} {ds : List D} (n : Nat), RepL K w vs ds → RepL K w (vs.eraseIdx n) (ds.eraseIdx n)
  | [], _, n, h => by
    cases h
    exact .nil
  | v :: vs, _, n, h => by
    cases h with
    | cons h1 h2 =>
      cases n with
      | zero => exact h2
      | succ n => exact .cons h1 (RepL.eraseIdx n h2)
theorem RepL.reverse {K : PySem.W.Frag} {w : Wd} : ∀ {vs : List V} {ds : List D}, RepL K w vs ds → RepL K w vs.reverse ds.reverse
  | [], _, h => by cases h; exact .nil
  | v :: vs, _, h => by
    cases h with
    | cons h1 h2 =>
      rw [List.reverse_cons, List.reverse_cons]
      exact RepL.append (RepL.reverse h2) (.cons h1 .nil)
theorem RepL.dropLast {K : PySem.W.Frag} {w : Wd} {vs : List V} {ds : List D} (h : RepL K w vs ds) : RepL K w vs.dropLast ds.dropLast := by
  rw [List.dropLast_eq_take, List.dropLast_eq_take, h.length]
  exact h.take _

/-! ### the store and the heap -/
def ObR (K : PySem.W.Frag) (mg : Str → Option Value) (w : Wd) : MO → HO → Prop
  | .lst ds, .lst vs => RepL K w vs ds
  | .dk kvs, .dK kws => RepK K w kws kvs
  | .lk kvs, .frz _ (.dK kws) => RepK K w kws kvs
  | .ll ds, .frz _ (.lst vs) => RepL K w vs ds
  | .ins c fs, .ins C _ fvs => mg c.nm = some (.ref C) ∧ RepF K w fvs c.fl fs
  | _, _ => False
theorem ObR.le {K : PySem.W.Frag} {mg : Str → Option Value} {w w' : Wd} (l : Le w w') : ∀ {o : MO} {h : HO}, ObR K mg w o h → ObR K mg w' o h := by
  intro o h r
  cases o with
  | lk kvs =>
    cases h with
    | frz ob u =>
      cases u with
      | dK kws => exact RepK.le l r
      | _ => exact r.elim
    | _ => exact r.elim
  | ll ds =>
    cases h with
    | frz ob u =>
      cases u with
      | lst vs => exact RepL.le l r
      | _ => exact r.elim
    | _ => exact r.elim
  | _ => cases h <;> first | exact RepL.le l r | exact RepK.le l r | exact ⟨r.1, RepF.le l r.2⟩ | exact r.elim
structure SI (K : PySem.W.Frag) (mg : Str → Option Value) (w : Wd) (S : MS) (H : Hp) : Prop where
  nx : S.nx = w.m
  ex : ∀ a o, w.F a = some o → H a = some o
  st : ∀ n o, S.get n = some o → n < w.m ∧ w.F (w.φ n) = none ∧ ∃ ho, H (w.φ n) = some ho ∧ ObR K mg w o ho
  inj : ∀ n n' o o', S.get n = some o → S.get n' = some o' → w.φ n = w.φ n' → n = n'
/-- an object of others -/
def Fo (w : Wd) (S : MS) (H : Hp) (a : Addr) (o : HO) : Prop := H a = some o ∧ w.F a = none ∧ ∀ n ob, S.get n = some ob → w.φ n ≠ a
structure Go (w : Wd) (S : MS) (H : Hp) (w' : Wd) (S' : MS) (H' : Hp) : Prop where
  le : Le w w'
  fo : ∀ a o, Fo w S H a o → Fo w' S' H' a o
  fz : ∀ a ob u, H a = some (.frz ob u) → H' a = some (.frz ob u)
theorem Go.refl (w : Wd) (S : MS) (H : Hp) : Go w S H w S H := ⟨Le.refl w, fun _ _ h => h, fun _ _ _ h => h⟩
theorem Go.trans {w1 w2 w3 : Wd} {S1 S2 S3 : MS} {H1 H2 H3 : Hp} (a : Go w1 S1 H1 w2 S2 H2) (b : Go w2 S2 H2 w3 S3 H3) : Go w1 S1 H1 w3 S3 H3 := ⟨a.le.trans b.le, fun q o h => b.fo q o (a.fo q o h), fun q o u h => b.fz q o u (a.fz q o u h)⟩

section
variable {K : PySem.W.Frag} {mg : Str → Option Value} {w : Wd} {S : MS} {H : Hp}
/-- a new thing that never changes -/
theorem SI.frz (I : SI K mg w S H) {p : Addr} (hp : H p = none) (o : HO) :
    SI K mg ⟨w.φ, upd w.F p o, w.m⟩ S (upd H p o) ∧ Go w S H ⟨w.φ, upd w.F p o, w.m⟩ S (upd H p o) := by
  have fp : w.F p = none := by
    cases e : w.F p with
    | none => rfl
    | some o => rw [I.ex p o e] at hp; cases hp
  have le : Le w ⟨w.φ, upd w.F p o, w.m⟩ := ⟨Nat.le_refl _, fun _ _ => rfl, fun a u h => by
    show upd w.F p o a = some u
    rw [upd_ne (ne_of_none h fp)]; exact h⟩
  refine ⟨⟨I.nx, fun a u h => ?_, fun n ob h => ?_, I.inj⟩, le, fun a u h => ?_, fun a ob u h => by rw [upd_ne (ne_of_none h hp)]; exact h⟩
  · by_cases e : a = p
    · subst e
      have h' : upd w.F a o a = some u := h
      rw [upd_same] at h' ⊢
      exact h'
    · have h' : upd w.F p o a = some u := h
      rw [upd_ne e] at h' ⊢
      exact I.ex a u h'
  · obtain ⟨h1, h2, ho, h3, h4⟩ := I.st n ob h
    have ne : w.φ n ≠ p := ne_of_none h3 hp
    exact ⟨h1, by show upd w.F p o (w.φ n) = none; rw [upd_ne ne]; exact h2, ho, by show upd H p o (w.φ n) = some ho; rw [upd_ne ne]; exact h3, h4.le le⟩
  · obtain ⟨h1, h2, h3⟩ := h
    have ne : a ≠ p := ne_of_none h1 hp
    exact ⟨by rw [upd_ne ne]; exact h1, by show upd w.F p o a = none; rw [upd_ne ne]; exact h2, h3⟩
/-- a new thing that may change -/
theorem SI.add (I : SI K mg w S H) {p : Addr} (hp : H p = none) {o : MO} {ho : HO} (r : ObR K mg w o ho) :
    SI K mg ⟨fun n => if n = w.m then p else w.φ n, w.F, w.m + 1⟩ (S.add o) (upd H p ho) ∧ Go w S H ⟨fun n => if n = w.m then p else w.φ n, w.F, w.m + 1⟩ (S.add o) (upd H p ho) := by
  have fp : w.F p = none := by
    cases e : w.F p with
    | none => rfl
    | some o => rw [I.ex p o e] at hp; cases hp
  have le : Le w ⟨fun n => if n = w.m then p else w.φ n, w.F, w.m + 1⟩ := ⟨Nat.le_succ _, fun n h => if_neg (Nat.ne_of_lt h), fun a u h => h⟩
  have hn : S.nx = w.m := I.nx
  refine ⟨⟨by show S.nx + 1 = w.m + 1; rw [hn], fun a u h => ?_, fun n ob h => ?_, fun n n' ob ob' h h' e => ?_⟩, le, fun a u h => ?_, fun a ob u h => by rw [upd_ne (ne_of_none h hp)]; exact h⟩
  · have h' : w.F a = some u := h
    rw [upd_ne (ne_of_none h' fp)]
    exact I.ex a u h'
  · have h' : (if n = S.nx then some o else S.get n) = some ob := h
    by_cases e : n = w.m
    · rw [if_pos (e.trans hn.symm)] at h'
      cases h'
      refine ⟨by show n < w.m + 1; omega, ?_, ho, ?_, r.le le⟩
      · show w.F (if n = w.m then p else w.φ n) = none
        rw [if_pos e]; exact fp
      · show upd H p ho (if n = w.m then p else w.φ n) = some ho
        rw [if_pos e]; exact upd_same
    · rw [if_neg (fun z => e (z.trans hn))] at h'
      obtain ⟨h1, h2, ho', h3, h4⟩ := I.st n ob h'
      refine ⟨by show n < w.m + 1; omega, ?_, ho', ?_, h4.le le⟩
      · show w.F (if n = w.m then p else w.φ n) = none
        rw [if_neg e]; exact h2
      · show upd H p ho (if n = w.m then p else w.φ n) = some ho'
        rw [if_neg e, upd_ne (ne_of_none h3 hp)]; exact h3
  · have h1 : (if n = S.nx then some o else S.get n) = some ob := h
    have h2 : (if n' = S.nx then some o else S.get n') = some ob' := h'
    have e' : (if n = w.m then p else w.φ n) = (if n' = w.m then p else w.φ n') := e
    by_cases a : n = w.m
    · by_cases b : n' = w.m
      · rw [a, b]
      · rw [if_neg (fun z => b (z.trans hn))] at h2
        obtain ⟨_, _, _, q, _⟩ := I.st n' ob' h2
        rw [if_pos a, if_neg b] at e'
        rw [← e', hp] at q; cases q
    · rw [if_neg (fun z => a (z.trans hn))] at h1
      by_cases b : n' = w.m
      · obtain ⟨_, _, _, q, _⟩ := I.st n ob h1
        rw [if_neg a, if_pos b] at e'
        rw [e', hp] at q; cases q
      · rw [if_neg (fun z => b (z.trans hn))] at h2
        rw [if_neg a, if_neg b] at e'
        exact I.inj n n' ob ob' h1 h2 e'
  · obtain ⟨h1, h2, h3⟩ := h
    have ne : a ≠ p := ne_of_none h1 hp
    refine ⟨by rw [upd_ne ne]; exact h1, h2, fun n ob q => ?_⟩
    have q' : (if n = S.nx then some o else S.get n) = some ob := q
    show (if n = w.m then p else w.φ n) ≠ a
    by_cases e : n = w.m
    · rw [if_pos e]; exact ne.symm
    · rw [if_neg e]
      rw [if_neg (fun z => e (z.trans hn))] at q'
      exact h3 n ob q'
/-- a thing that may change is changed -/
theorem SI.set (I : SI K mg w S H) {n : Nat} {o' : MO} (h : S.get n = some o') {o : MO} {ho : HO} (r : ObR K mg w o ho) (hl : o'.isLk = false := by rfl) :
    SI K mg w (S.set n o) (upd H (w.φ n) ho) ∧ Go w S H w (S.set n o) (upd H (w.φ n) ho) := by
  obtain ⟨g1, g2, _, g3, g4⟩ := I.st n o' h
  refine ⟨⟨I.nx, fun a u q => ?_, fun k ob q => ?_, fun k k' ob ob' q q' e => ?_⟩, Le.refl w, fun a u q => ?_, fun a ob u q => ?_⟩
  · rw [upd_ne (ne_of_none q g2)]; exact I.ex a u q
  · have q' : (if k = n then some o else S.get k) = some ob := q
    by_cases e : k = n
    · rw [if_pos e] at q'
      cases q'
      subst e
      exact ⟨g1, g2, ho, upd_same, r⟩
    · rw [if_neg e] at q'
      obtain ⟨h1, h2, ho', h3, h4⟩ := I.st k ob q'
      exact ⟨h1, h2, ho', by rw [upd_ne (fun z => e (I.inj _ _ _ _ q' h z))]; exact h3, h4⟩
  · have q1 : (if k = n then some o else S.get k) = some ob := q
    have q2 : (if k' = n then some o else S.get k') = some ob' := q'
    by_cases a : k = n
    · by_cases b : k' = n
      · rw [a, b]
      · rw [if_neg b] at q2
        rw [a] at e ⊢
        exact I.inj _ _ _ _ h q2 e
    · rw [if_neg a] at q1
      by_cases b : k' = n
      · rw [b] at e ⊢
        exact I.inj _ _ _ _ q1 h e
      · rw [if_neg b] at q2
        exact I.inj _ _ _ _ q1 q2 e
  · obtain ⟨h1, h2, h3⟩ := q
    refine ⟨by rw [upd_ne (h3 n o' h).symm]; exact h1, h2, fun k ob q => ?_⟩
    have q' : (if k = n then some o else S.get k) = some ob := q
    by_cases e : k = n
    · rw [e]; exact h3 n o' h
    · rw [if_neg e] at q'
      exact h3 k ob q'
  · by_cases e : a = w.φ n
    · rw [e, g3] at q
      cases q
      cases o' with
      | lk kvs => cases hl
      | ll kvs => cases hl
      | _ => exact g4.elim
    · rw [upd_ne e]; exact q
/-- a thing that may change is never changed again -/
theorem SI.del (I : SI K mg w S H) {n : Nat} {o : MO} (h : S.get n = some o) {ho : HO} (e : H (w.φ n) = some ho) :
    SI K mg ⟨w.φ, upd w.F (w.φ n) ho, w.m⟩ (S.del n) H ∧ Go w S H ⟨w.φ, upd w.F (w.φ n) ho, w.m⟩ (S.del n) H := by
  obtain ⟨g1, g2, _, g3, _⟩ := I.st n o h
  have le : Le w ⟨w.φ, upd w.F (w.φ n) ho, w.m⟩ := ⟨Nat.le_refl _, fun _ _ => rfl, fun a u h => by
    show upd w.F (w.φ n) ho a = some u
    rw [upd_ne (ne_of_none h g2)]; exact h⟩
  refine ⟨⟨I.nx, fun a u q => ?_, fun k ob q => ?_, fun k k' ob ob' q q' z => ?_⟩, le, fun a u q => ?_, fun _ _ _ q => q⟩
  · have q' : upd w.F (w.φ n) ho a = some u := q
    by_cases z : a = w.φ n
    · rw [z, upd_same] at q'
      rw [z, e]; exact q'
    · rw [upd_ne z] at q'
      exact I.ex a u q'
  · have q' : (if k = n then none else S.get k) = some ob := q
    by_cases z : k = n
    · rw [if_pos z] at q'; cases q'
    · rw [if_neg z] at q'
      obtain ⟨h1, h2, ho', h3, h4⟩ := I.st k ob q'
      refine ⟨h1, ?_, ho', h3, h4.le le⟩
      show upd w.F (w.φ n) ho (w.φ k) = none
      rw [upd_ne (fun y => z (I.inj _ _ _ _ q' h y))]; exact h2
  · have q1 : (if k = n then none else S.get k) = some ob := q
    have q2 : (if k' = n then none else S.get k') = some ob' := q'
    by_cases a : k = n
    · rw [if_pos a] at q1; cases q1
    · by_cases b : k' = n
      · rw [if_pos b] at q2; cases q2
      · rw [if_neg a] at q1
        rw [if_neg b] at q2
        exact I.inj _ _ _ _ q1 q2 z
  · obtain ⟨h1, h2, h3⟩ := q
    refine ⟨h1, ?_, fun k ob q => ?_⟩
    · show upd w.F (w.φ n) ho a = none
      rw [upd_ne (h3 n o h).symm]; exact h2
    · have q' : (if k = n then none else S.get k) = some ob := q
      by_cases z : k = n
      · rw [if_pos z] at q'; cases q'
      · rw [if_neg z] at q'
        exact h3 k ob q'
end
end Mi
namespace Mi
open PySem L2

/-! ### what a piece of the program does, in the mirror -/
structure Exn where
  cls : Cl
  fs : List D
inductive Out (α : Type) where
  | ok (a : α) (S : MS)
  | exc (e : Exn) (S : MS)
abbrev M (α : Type) := MS → Option (Out α)
def ret {α : Type} (a : α) : M α := fun S => some (.ok a S)
def stuck {α : Type} : M α := fun _ => none
def bnd {α β : Type} (m : M α) (f : α → M β) : M β := fun S => match m S with
  | none => none
  | some (.exc e S') => some (.exc e S')
  | some (.ok a S') => f a S'
/-- no exception here -/
def noX {α : Type} (m : M α) : M α := fun S => match m S with
  | some (.ok a S') => some (.ok a S')
  | _ => none
theorem bnd_ok {α β : Type} {m : M α} {f : α → M β} {S S' : MS} {a : α} (h : m S = some (.ok a S')) : bnd m f S = f a S' := by unfold bnd; rw [h]
theorem bnd_exc {α β : Type} {m : M α} {f : α → M β} {S S' : MS} {e : Exn} (h : m S = some (.exc e S')) : bnd m f S = some (.exc e S') := by unfold bnd; rw [h]
theorem bnd_none {α β : Type} {m : M α} {f : α → M β} {S : MS} (h : m S = none) : bnd m f S = none := by unfold bnd; rw [h]
abbrev En := List (Option D)
abbrev ME := En → M D
abbrev MT := En → M Bool
abbrev MA := En → M (List D)
inductive Fl where
  | nx (env : En) (S : MS) | rt (d : D) (S : MS) | bk (env : En) (S : MS) | ct (env : En) (S : MS) | exc (e : Exn) (env : En) (S : MS)
abbrev MSt := En → MS → Option Fl

def EnR (K : PySem.W.Frag) (w : Wd) : En → St → Prop
  | [], [] => True
  | none :: r, _ :: s => EnR K w r s
  | some d :: r, x :: s => (∃ v, x = some v ∧ Rep K w v d) ∧ EnR K w r s
  | _, _ => False
theorem EnR.le {K : PySem.W.Frag} {w w' : Wd} (l : Le w w') : ∀ {env : En} {σ : St}, EnR K w env σ → EnR K w' env σ
  | [], [], _ => True.intro
  | [], _ :: _, h => h.elim
  | none :: _, [], h => h.elim
  | some _ :: _, [], h => h.elim
  | none :: r, _ :: s, h => EnR.le (env := r) (σ := s) l h
  | some d :: r, x :: s, ⟨⟨v, e, h⟩, g⟩ => ⟨⟨v, e, h.le l⟩, EnR.le l g⟩
theorem EnR.get {K : PySem.W.Frag} {w : Wd} : ∀ {env : En} {σ : St} {i : Nat} {d : D}, EnR K w env σ → env[i]? = some (some d) → ∃ v, σ[i]? = some (some v) ∧ Rep K w v d
  | [], _, _, _, _, e => by simp at e
  | none :: _, [], _, _, h, _ => h.elim
  | some _ :: _, [], _, _, h, _ => h.elim
  | none :: r, x :: s, 0, d, h, e => by simp at e
  | none :: r, x :: s, i + 1, d, h, e => by
    obtain ⟨v, a, b⟩ := EnR.get (env := r) (σ := s) (i := i) h (by simpa using e)
    exact ⟨v, by simpa using a, b⟩
  | some d' :: r, x :: s, 0, d, ⟨⟨v, e1, h⟩, _⟩, e => by
    have e2 : d' = d := by simpa using e
    subst e2
    subst e1
    exact ⟨v, rfl, h⟩
  | some d' :: r, x :: s, i + 1, d, ⟨_, g⟩, e => by
    obtain ⟨v, a, b⟩ := EnR.get (env := r) (σ := s) (i := i) g (by simpa using e)
    exact ⟨v, by simpa using a, b⟩
theorem EnR.set {K : PySem.W.Frag} {w : Wd} {v : V} {d : D} (r : Rep K w v d) : ∀ {env : En} {σ : St} (i : Nat), EnR K w env σ → EnR K w (env.set i (some d)) (σ.set i (some v))
  | [], [], _, _ => True.intro
  | [], _ :: _, _, h => h.elim
  | none :: _, [], _, h => h.elim
  | some _ :: _, [], _, h => h.elim
  | none :: t, x :: s, 0, h => ⟨⟨v, rfl, r⟩, h⟩
  | none :: t, x :: s, i + 1, h => EnR.set (env := t) (σ := s) r i h
  | some d' :: t, x :: s, 0, ⟨_, g⟩ => ⟨⟨v, rfl, r⟩, g⟩
  | some d' :: t, x :: s, i + 1, ⟨h, g⟩ => ⟨h, EnR.set r i g⟩
/-- a slot is emptied, or anything is put where the mirror knows nothing -/
theorem EnR.unset {K : PySem.W.Frag} {w : Wd} {o : Option V} : ∀ {env : En} {σ : St} (i : Nat), EnR K w env σ → EnR K w (env.set i none) (σ.set i o)
  | [], [], _, _ => True.intro
  | [], _ :: _, _, h => h.elim
  | none :: _, [], _, h => h.elim
  | some _ :: _, [], _, h => h.elim
  | none :: t, x :: s, 0, h => h
  | none :: t, x :: s, i + 1, h => EnR.unset (env := t) (σ := s) i h
  | some d' :: t, x :: s, 0, ⟨_, g⟩ => g
  | some d' :: t, x :: s, i + 1, ⟨h, g⟩ => ⟨h, EnR.unset i g⟩
def wipeE (env : En) : List Nat → En
  | [] => env
  | v :: vs => (wipeE env vs).set v none
theorem EnR.wipe {K : PySem.W.Frag} {w : Wd} {env : En} {σ : St} (h : EnR K w env σ) : ∀ vs : List Nat, EnR K w (wipeE env vs) (L2.wipe σ vs)
  | [] => h
  | v :: vs => (EnR.wipe h vs).unset v

/-! ### the context -/
structure Cy (X : Cx) where
  W : WX
  tk : Takes X W
  po : PassesOwn (model X.prog X.w) X.A X.env X.xe
  B : Wd → MS → Hp → Prop
  st : ∀ {w S H w' S' H'}, B w S H → Go w S H w' S' H' → B w' S' H'

def ExR (K : PySem.W.Frag) (mg : Str → Option Value) (w : Wd) (S : MS) (H : Hp) (e : Exn) (cls : Value) (dx : Option Addr) : Prop :=
  ∃ C a fvs, cls = .ref C ∧ mg e.cls.nm = some (.ref C) ∧ dx = some a ∧ Fo w S H a (.xd fvs) ∧ RepF K w fvs e.cls.fl e.fs
/-- what is wanted behind a piece that gives an α -/
def Po {α β : Type} (K : PySem.W.Frag) (mg : Str → Option Value) (R : Wd → MS → Hp → β → α → Prop) (W : Value → Option Addr → Hp → Prop) (w : Wd) (S : MS) (H : Hp) (Q : β → Hp → Prop) : Option (Out α) → Prop
  | none => False
  | some (.ok d S') => ∀ w' H' v, Go w S H w' S' H' → SI K mg w' S' H' → R w' S' H' v d → Q v H'
  | some (.exc e S') => ∀ w' H' cls dx, Go w S H w' S' H' → SI K mg w' S' H' → ExR K mg w' S' H' e cls dx → W cls dx H'
theorem Po.go {α β : Type} {K : PySem.W.Frag} {mg : Str → Option Value} {R : Wd → MS → Hp → β → α → Prop} {W : Value → Option Addr → Hp → Prop} {w w1 : Wd} {S S1 : MS} {H H1 : Hp} {Q : β → Hp → Prop} {o : Option (Out α)}
    (p : Po K mg R W w S H Q o) (g : Go w S H w1 S1 H1) : Po K mg R W w1 S1 H1 Q o := by
  cases o with
  | none => exact p
  | some r =>
    cases r with
    | ok d S' => exact fun w' H' v g2 => p w' H' v (g.trans g2)
    | exc e S' => exact fun w' H' cls dx g2 => p w' H' cls dx (g.trans g2)
theorem Po.imp {α β : Type} {K : PySem.W.Frag} {mg : Str → Option Value} {R : Wd → MS → Hp → β → α → Prop} {W : Value → Option Addr → Hp → Prop} {w : Wd} {S : MS} {H : Hp} {Q Q' : β → Hp → Prop} {o : Option (Out α)}
    (p : Po K mg R W w S H Q o) (h : ∀ v H, Q v H → Q' v H) : Po K mg R W w S H Q' o := by
  cases o with
  | none => exact p
  | some r =>
    cases r with
    | ok d S' => exact fun w' H' v g si r => h _ _ (p w' H' v g si r)
    | exc e S' => exact p
abbrev RV' (K : PySem.W.Frag) : Wd → MS → Hp → V → D → Prop := fun w _ _ v d => Rep K w v d
abbrev RB : Wd → MS → Hp → Bool → Bool → Prop := fun _ _ _ b c => b = c
abbrev RA (K : PySem.W.Frag) : Wd → MS → Hp → List V → List D → Prop := fun w _ _ vs ds => RepL K w vs ds

section
variable {X : Cx}
/-- the state that a piece meets -/
structure Me (X : Cx) (C : Cy X) (w : Wd) (S : MS) (env : En) (σ : St) (H : Hp) : Prop where
  si : SI X.K X.mg w S H
  en : EnR X.K w env σ
  b : C.B w S H
theorem Me.go {C : Cy X} {w w' : Wd} {S S' : MS} {env : En} {σ : St} {H H' : Hp} (m : Me X C w S env σ H) (g : Go w S H w' S' H') (si : SI X.K X.mg w' S' H') : Me X C w' S' env σ H' := ⟨si, m.en.le g.le, C.st m.b g⟩
def tE (C : Cy X) (m : ME) : TE := fun σ H Q => ∃ w S env, Me X C w S env σ H ∧ Po X.K X.mg (RV' X.K) (fun c d H => C.W c d σ H) w S H Q (m env S)
def tT (C : Cy X) (m : MT) : TT := fun σ H Q => ∃ w S env, Me X C w S env σ H ∧ Po X.K X.mg RB (fun c d H => C.W c d σ H) w S H Q (m env S)
def tA (C : Cy X) (m : MA) : TA := fun σ H Q => ∃ w S env, Me X C w S env σ H ∧ Po X.K X.mg (RA X.K) (fun c d H => C.W c d σ H) w S H Q (m env S)
end
def JE (X : Cx) (C : Cy X) (e : Expr) (m : ME) : Prop := PE X e (tE C m)
def JT (X : Cx) (C : Cy X) (e : Expr) (m : MT) : Prop := PT X e (tT C m)
def JW (X : Cx) (C : Cy X) (e : Expr) (m : MT) : Prop := PW X e (tT C m)
def JA (X : Cx) (C : Cy X) (es : List Expr) (m : MA) : Prop := PA X es (tA C m)

section
variable {X : Cx} {C : Cy X}
theorem PE.weak {e : Expr} {t t' : TE} (h : PE X e t) (k : ∀ σ H Q, t' σ H Q → t σ H Q) : PE X e t' := ⟨fun pins s σ H Q I q => h.run pins s σ H Q I (k σ H Q q)⟩
theorem PT.weak {e : Expr} {t t' : TT} (h : PT X e t) (k : ∀ σ H Q, t' σ H Q → t σ H Q) : PT X e t' := ⟨fun pins s σ H Q I q => h.run pins s σ H Q I (k σ H Q q)⟩
theorem PW.weak {e : Expr} {t t' : TT} (h : PW X e t) (k : ∀ σ H Q, t' σ H Q → t σ H Q) : PW X e t' := ⟨fun wh pins s σ H Q I q => h.run wh pins s σ H Q I (k σ H Q q)⟩
theorem PA.weak {es : List Expr} {t t' : TA} (h : PA X es t) (k : ∀ σ H Q, t' σ H Q → t σ H Q) : PA X es t' := ⟨fun pos pins s σ H Q I q => h.run pos pins s σ H Q I (k σ H Q q)⟩

/-- one piece, then another -/
theorem po_bnd {α β γ δ : Type} {Ra : Wd → MS → Hp → γ → α → Prop} {Rb : Wd → MS → Hp → δ → β → Prop} {w : Wd} {S : MS} {env : En} {σ : St} {H : Hp} {W : Value → Option Addr → Hp → Prop} {Q : δ → Hp → Prop} {m : M α} {f : α → M β} (me : Me X C w S env σ H)
    (h : Po X.K X.mg Rb W w S H Q (bnd m f S)) {Q' : γ → Hp → Prop}
    (k : ∀ w' S' H' v d, Me X C w' S' env σ H' → Ra w' S' H' v d → Go w S H w' S' H' → Po X.K X.mg Rb W w' S' H' Q (f d S') → Q' v H') :
    Po X.K X.mg Ra W w S H Q' (m S) := by
  unfold bnd at h
  cases e : m S with
  | none => rw [e] at h; exact h
  | some r =>
    rw [e] at h
    cases r with
    | exc ex S' => exact h
    | ok d S' => exact fun w' H' v g si r => k w' S' H' v d (me.go g si) r g (h.go g)

/-! ### names and constants -/
def mV (i : Nat) : ME := fun env S => match env[i]? with
  | some (some d) => some (.ok d S)
  | _ => none
def mK (d : D) : ME := fun _ S => some (.ok d S)
theorem j_var {i : Nat} {x : Str} {pos : Pos} (h : PE X (.Name x pos) (tVar i)) : JE X C (.Name x pos) (mV i) := PE.weak h fun σ H Q ⟨w, S, env, me, p⟩ => by
  unfold mV at p
  split at p
  · rename_i d e
    obtain ⟨v, e1, r⟩ := me.en.get e
    exact ⟨v, e1, p w H v (Go.refl _ _ _) me.si r⟩
  · exact p.elim
theorem j_k {e : Expr} {v : V} {d : D} (h : PE X e (tC v)) (r : ∀ w, Rep X.K w v d) : JE X C e (mK d) := PE.weak h fun σ H Q ⟨w, S, env, me, p⟩ => p w H v (Go.refl _ _ _) me.si (r w)
theorem j_int {i j pos} : JE X C (.Constant (.int i) j pos) (mK (.int i)) := j_k pe_int fun _ => .int i
theorem j_bl {b j pos} : JE X C (.Constant (.bool b) j pos) (mK (.bl b)) := j_k pe_bl fun _ => .bl b
theorem j_non {j pos} : JE X C (.Constant .none j pos) (mK .non) := j_k pe_non fun _ => .non
theorem j_str {x j pos} : JE X C (.Constant (.str x) j pos) (mK (.str x)) := j_k pe_str fun _ => .str x

/-! ### operators -/
def mOp (f : D → D → M D) (a b : ME) : ME := fun env => bnd (a env) fun x => bnd (b env) fun y => f x y
def mOp1 (f : D → M D) (a : ME) : ME := fun env => bnd (a env) f
/-- an operation on values: the mirror's f is r; it raises nothing -/
def NoX : Value → Option Addr → Hp → Prop := fun _ _ _ => True
def Op2 (X : Cx) (r : R2) (f : D → D → M D) : Prop := ∀ w S H x y d e (Q : VK) W, SI X.K X.mg w S H → Rep X.K w x d → Rep X.K w y e → Po X.K X.mg (RV' X.K) W w S H Q (f d e S) → r x y H Q
def Op1 (X : Cx) (r : V → Hp → VK → Prop) (f : D → M D) : Prop := ∀ w S H x d (Q : VK) W, SI X.K X.mg w S H → Rep X.K w x d → Po X.K X.mg (RV' X.K) W w S H Q (f d S) → r x H Q
def OpA (X : Cx) (r : List V → Hp → VK → Prop) (f : List D → M D) : Prop := ∀ w S H xs ds (Q : VK) W, SI X.K X.mg w S H → RepL X.K w xs ds → Po X.K X.mg (RV' X.K) W w S H Q (f ds S) → r xs H Q
theorem op2_go {a b : ME} {f : D → D → M D} {r : R2} (hf : Op2 X r f) {σ : St} {H : Hp} {Q : VK} (h : tE C (mOp f a b) σ H Q) : tOp r (tE C a) (tE C b) σ H Q := by
  obtain ⟨w, S, env, me, p⟩ := h
  refine ⟨w, S, env, me, po_bnd me p fun w1 S1 H1 v d me1 rv g1 p1 => ?_⟩
  refine ⟨w1, S1, env, me1, po_bnd me1 p1 fun w2 S2 H2 u e me2 ru g2 p2 => ?_⟩
  exact hf w2 S2 H2 v u d e Q _ me2.si (rv.le g2.le) ru p2
theorem op1_go {a : ME} {f : D → M D} {r : V → Hp → VK → Prop} (hf : Op1 X r f) {σ : St} {H : Hp} {Q : VK} (h : tE C (mOp1 f a) σ H Q) : tE C a σ H fun x H1 => r x H1 Q := by
  obtain ⟨w, S, env, me, p⟩ := h
  exact ⟨w, S, env, me, po_bnd me p fun w1 S1 H1 v d me1 rv g1 p1 => hf w1 S1 H1 v d Q _ me1.si rv p1⟩
theorem j_op {op : Operator} {r : R2} {f : D → D → M D} {a b : Expr} {pos : Pos} {ma mb : ME} (ho : OpR X (binaryOp op) r) (hf : Op2 X r f) (ha : JE X C a ma) (hb : JE X C b mb) : JE X C (.BinOp a op b pos) (mOp f ma mb) :=
  PE.weak (pe_op ho ha hb) fun _ _ _ h => op2_go hf h
theorem j_un {op : UnaryOp} {r : V → Hp → VK → Prop} {f : D → M D} {a : Expr} {pos : Pos} {ma : ME} (ho : UnR X (unaryOp op) r) (hf : Op1 X r f) (ha : JE X C a ma) : JE X C (.UnaryOp op a pos) (mOp1 f ma) :=
  PE.weak (pe_un ho ha) fun _ _ _ h => op1_go hf h
theorem j_cmp {op : CmpOp} {r : R2} {f : D → D → M D} {a b : Expr} {pos : Pos} {ma mb : ME} (ho : OpR X (compareOp op) r) (hf : Op2 X r f) (ha : JE X C a ma) (hb : JE X C b mb) (hm : behindInMarks op b = false) : JE X C (.Compare a [op] [b] pos) (mOp f ma mb) :=
  PE.weak (pe_cmpR ho ha hb hm) fun _ _ _ h => op2_go hf h
/-- a value as a test -/
def mB (m : ME) : MT := fun env => bnd (m env) fun d => match d with
  | .bl b => ret b
  | _ => stuck
theorem tb_go {m : ME} {t : TE} (h : ∀ σ H Q, tE C m σ H Q → t σ H Q) {σ : St} {H : Hp} {Q : Bool → Hp → Prop} (p : tT C (mB m) σ H Q) : t σ H fun x H' => ∃ k, x = .bl k ∧ Q k H' := by
  obtain ⟨w, S, env, me, p⟩ := p
  refine h _ _ _ ⟨w, S, env, me, po_bnd me p fun w1 S1 H1 v d me1 rv g1 p1 => ?_⟩
  cases d with
  | bl b =>
    cases rv
    exact ⟨b, rfl, p1 w1 H1 b (Go.refl _ _ _) me1.si rfl⟩
  | _ => exact p1.elim
theorem jt_cmp {op : CmpOp} {r : R2} {f : D → D → M D} {a b : Expr} {pos : Pos} {ma mb : ME} (ho : OpR X (compareOp op) r) (hf : Op2 X r f) (ha : JE X C a ma) (hb : JE X C b mb) (hm : behindInMarks op b = false) : JT X C (.Compare a [op] [b] pos) (mB (mOp f ma mb)) :=
  PT.weak (pt_cmpR ho ha hb hm) fun _ _ _ h => tb_go (fun _ _ _ h => op2_go hf h) h
theorem jt_val {e : Expr} {m : ME} (h : JE X C e m) (he : ∀ whole, isTrue e X.env whole = (do let v ← whole; standAt e.pos; holding [v] (truthy v)) := by intro _; rfl) : JT X C e (mB m) :=
  PT.weak (pt_val h he) fun _ _ _ p => tb_go (fun _ _ _ h => h) p
/-- a op1 b op2 c -/
def mChain (f g : D → D → M D) (a b c : ME) : ME := fun env => bnd (a env) fun x => bnd (b env) fun y => bnd (f x y) fun z => match z with
  | .bl true => bnd (c env) fun u => g y u
  | .bl false => ret (.bl false)
  | _ => stuck
theorem chain_go {f g : D → D → M D} {a b c : ME} {r r' : R2} (hf : Op2 X r f) (hg : Op2 X r' g) {σ : St} {H : Hp} {Q : VK} (h : tE C (mChain f g a b c) σ H Q) : tChain r r' (tE C a) (tE C b) (tE C c) σ H Q := by
  obtain ⟨w, S, env, me, p⟩ := h
  refine ⟨w, S, env, me, po_bnd me p fun w1 S1 H1 v d me1 rv g1 p1 => ?_⟩
  refine ⟨w1, S1, env, me1, po_bnd me1 p1 fun w2 S2 H2 u e me2 ru g2 p2 => ?_⟩
  refine hf w2 S2 H2 v u d e _ (fun c d H => C.W c d σ H) me2.si (rv.le g2.le) ru (po_bnd me2 p2 fun w3 S3 H3 z k me3 rz g3 p3 => ?_)
  cases k with
  | bl k =>
    cases rz
    cases k with
    | true =>
      refine ⟨true, rfl, ?_⟩
      rw [if_pos rfl]
      refine ⟨w3, S3, env, me3, po_bnd me3 p3 fun w4 S4 H4 u4 e4 me4 ru4 g4 p4 => ?_⟩
      exact hg w4 S4 H4 u u4 e e4 Q _ me4.si (ru.le (g3.le.trans g4.le)) ru4 p4
    | false =>
      refine ⟨false, rfl, ?_⟩
      rw [if_neg Bool.false_ne_true]
      exact p3 w3 H3 (.bl false) (Go.refl _ _ _) me3.si (.bl false)
  | _ => exact p3.elim
theorem j_chain {op op' : CmpOp} {r r' : R2} {f g : D → D → M D} {a b c : Expr} {pos : Pos} {ma mb mc : ME} (ho : OpR X (compareOp op) r) (ho' : OpR X (compareOp op') r') (hf : Op2 X r f) (hg : Op2 X r' g) (ha : JE X C a ma) (hb : JE X C b mb) (hc : JE X C c mc)
    (hm : lastMarks [op, op'] [b, c] = false := by with_unfolding_all rfl) : JE X C (.Compare a [op, op'] [b, c] pos) (mChain f g ma mb mc) :=
  PE.weak (pe_chain ho ho' ha hb hc hm) fun _ _ _ h => chain_go hf hg h
theorem jt_chain {op op' : CmpOp} {r r' : R2} {f g : D → D → M D} {a b c : Expr} {pos : Pos} {ma mb mc : ME} (ho : OpR X (compareOp op) r) (ho' : OpR X (compareOp op') r') (hf : Op2 X r f) (hg : Op2 X r' g) (ha : JE X C a ma) (hb : JE X C b mb) (hc : JE X C c mc)
    (hm : lastMarks [op, op'] [b, c] = false := by with_unfolding_all rfl) : JT X C (.Compare a [op, op'] [b, c] pos) (mB (mChain f g ma mb mc)) :=
  PT.weak (pt_chain ho ho' ha hb hc hm) fun _ _ _ h => tb_go (fun _ _ _ h => chain_go hf hg h) h

/-! ### and, or, not, if -/
def mAnd (a b : MT) : MT := fun env => bnd (a env) fun c => match c with
  | true => b env
  | false => ret false
def mOr (a b : MT) : MT := fun env => bnd (a env) fun c => match c with
  | true => ret true
  | false => b env
def mNot (a : MT) : MT := fun env => bnd (a env) fun c => ret (!c)
def mIf (t : MT) (a b : ME) : ME := fun env => bnd (t env) fun c => match c with
  | true => a env
  | false => b env
variable {a b c : Expr} {rest : List Expr} {pos : Pos} {ma mb mc : ME} {ta tb : MT}
theorem jw_and1 (ha : JT X C a ta) : JW X C (.BoolOp .And [a] pos) ta := pw_and1 ha
theorem jw_or1 (ha : JT X C a ta) : JW X C (.BoolOp .Or [a] pos) ta := pw_or1 ha
theorem jw_and (ha : JT X C a ta) (hb : JW X C (.BoolOp .And (b :: rest) pos) tb) : JW X C (.BoolOp .And (a :: b :: rest) pos) (mAnd ta tb) := PW.weak (pw_and ha hb) fun σ H Q ⟨w, S, env, me, p⟩ => by
  refine ⟨w, S, env, me, po_bnd me p fun w1 S1 H1 v d me1 rv g1 p1 => ?_⟩
  cases (show v = d from rv)
  cases v with
  | true =>
    rw [if_pos rfl]
    exact ⟨w1, S1, env, me1, p1⟩
  | false =>
    rw [if_neg Bool.false_ne_true]
    exact p1 w1 H1 false (Go.refl _ _ _) me1.si rfl
theorem jw_or (ha : JT X C a ta) (hb : JW X C (.BoolOp .Or (b :: rest) pos) tb) : JW X C (.BoolOp .Or (a :: b :: rest) pos) (mOr ta tb) := PW.weak (pw_or ha hb) fun σ H Q ⟨w, S, env, me, p⟩ => by
  refine ⟨w, S, env, me, po_bnd me p fun w1 S1 H1 v d me1 rv g1 p1 => ?_⟩
  cases (show v = d from rv)
  cases v with
  | true =>
    rw [if_pos rfl]
    exact p1 w1 H1 true (Go.refl _ _ _) me1.si rfl
  | false =>
    rw [if_neg Bool.false_ne_true]
    exact ⟨w1, S1, env, me1, p1⟩
theorem jt_w {e : Expr} {t : MT} (h : JW X C e t) : JT X C e t := PW.pt h
theorem jt_not (ha : JT X C a ta) : JT X C (.UnaryOp .Not a pos) (mNot ta) := PT.weak (pt_not ha) fun σ H Q ⟨w, S, env, me, p⟩ =>
  ⟨w, S, env, me, po_bnd me p fun w1 S1 H1 v d me1 rv g1 p1 => by
    cases (show v = d from rv)
    exact p1 w1 H1 _ (Go.refl _ _ _) me1.si rfl⟩
def mTV (t : MT) : ME := fun env => bnd (t env) fun b => ret (.bl b)
/-- as values: all but the last are bools -/
def mAndV (a b : ME) : ME := fun env => bnd (a env) fun x => match x with
  | .bl true => b env
  | .bl false => ret (.bl false)
  | _ => stuck
def mOrV (a b : ME) : ME := fun env => bnd (a env) fun x => match x with
  | .bl true => ret (.bl true)
  | .bl false => b env
  | _ => stuck
def mNotV (a : ME) : ME := fun env => bnd (a env) fun x => match x with
  | .bl k => ret (.bl (!k))
  | _ => stuck
theorem j_one {op} (h : JE X C a ma) : JE X C (.BoolOp op [a] pos) ma := pe_one h
theorem j_and (ha : JE X C a ma) (hb : JE X C (.BoolOp .And (b :: rest) pos) mb) : JE X C (.BoolOp .And (a :: b :: rest) pos) (mAndV ma mb) := PE.weak (pe_and ha hb) fun σ H Q ⟨w, S, env, me, p⟩ => by
  refine ⟨w, S, env, me, po_bnd me p fun w1 S1 H1 v d me1 rv g1 p1 => ?_⟩
  cases d with
  | bl k =>
    cases rv
    cases k with
    | true =>
      refine ⟨true, rfl, ?_⟩
      rw [if_pos rfl]
      exact ⟨w1, S1, env, me1, p1⟩
    | false =>
      refine ⟨false, rfl, ?_⟩
      rw [if_neg Bool.false_ne_true]
      exact p1 w1 H1 _ (Go.refl _ _ _) me1.si (.bl false)
  | _ => exact p1.elim
theorem j_or (ha : JE X C a ma) (hb : JE X C (.BoolOp .Or (b :: rest) pos) mb) : JE X C (.BoolOp .Or (a :: b :: rest) pos) (mOrV ma mb) := PE.weak (pe_or ha hb) fun σ H Q ⟨w, S, env, me, p⟩ => by
  refine ⟨w, S, env, me, po_bnd me p fun w1 S1 H1 v d me1 rv g1 p1 => ?_⟩
  cases d with
  | bl k =>
    cases rv
    cases k with
    | true =>
      refine ⟨true, rfl, ?_⟩
      rw [if_pos rfl]
      exact p1 w1 H1 _ (Go.refl _ _ _) me1.si (.bl true)
    | false =>
      refine ⟨false, rfl, ?_⟩
      rw [if_neg Bool.false_ne_true]
      exact ⟨w1, S1, env, me1, p1⟩
  | _ => exact p1.elim
theorem j_not (ha : JE X C a ma) : JE X C (.UnaryOp .Not a pos) (mNotV ma) := PE.weak (pe_not ha) fun σ H Q ⟨w, S, env, me, p⟩ => by
  refine ⟨w, S, env, me, po_bnd me p fun w1 S1 H1 v d me1 rv g1 p1 => ?_⟩
  cases d with
  | bl k =>
    cases rv
    exact ⟨k, rfl, p1 w1 H1 _ (Go.refl _ _ _) me1.si (.bl _)⟩
  | _ => exact p1.elim
theorem j_if (hc : JT X C c ta) (ha : JE X C a ma) (hb : JE X C b mb) : JE X C (.IfExp c a b pos) (mIf ta ma mb) := PE.weak (pe_ifExp hc ha hb) fun σ H Q ⟨w, S, env, me, p⟩ => by
  refine ⟨w, S, env, me, po_bnd me p fun w1 S1 H1 v d me1 rv g1 p1 => ?_⟩
  cases (show v = d from rv)
  cases v with
  | true =>
    rw [if_pos rfl]
    exact ⟨w1, S1, env, me1, p1⟩
  | false =>
    rw [if_neg Bool.false_ne_true]
    exact ⟨w1, S1, env, me1, p1⟩

/-! ### lists of arguments, displays -/
def mNil : MA := fun _ => ret []
def mCons (a : ME) (r : MA) : MA := fun env => bnd (a env) fun x => bnd (r env) fun xs => ret (x :: xs)
theorem ja_nil : JA X C [] mNil := PA.weak pa_nil fun σ H Q ⟨w, S, env, me, p⟩ => p w H [] (Go.refl _ _ _) me.si .nil
theorem ja_cons {e : Expr} {es : List Expr} {m : ME} {ms : MA} (ha : JE X C e m) (hr : JA X C es ms) (hs : starEach (e :: es) X.env = (false, eval e X.env) :: starEach es X.env := by rfl) : JA X C (e :: es) (mCons m ms) := PA.weak (pa_cons ha hr hs) fun σ H Q ⟨w, S, env, me, p⟩ => by
  refine ⟨w, S, env, me, po_bnd me p fun w1 S1 H1 v d me1 rv g1 p1 => ?_⟩
  refine ⟨w1, S1, env, me1, po_bnd me1 p1 fun w2 S2 H2 vs ds me2 rvs g2 p2 => ?_⟩
  exact p2 w2 H2 (v :: vs) (Go.refl _ _ _) me2.si (.cons (rv.le g2.le) rvs)
/-- a new tuple; a list that never changes; a list that may -/
def mkT (xs : List D) : M D := fun S => if xs.length ≤ 16777216 then some (.ok (.tup xs) S) else none
def mkL (xs : List D) : M D := fun S => if xs.length ≤ 16777216 then some (.ok (.lst xs) S) else none
def mkO (xs : List D) : M D := fun S => if xs.length ≤ 16777216 then some (.ok (.obj S.nx) (S.add (.lst xs))) else none
def mTup (a : MA) : ME := fun env => bnd (a env) mkT
def mLst (a : MA) : ME := fun env => bnd (a env) mkL
def mObj (a : MA) : ME := fun env => bnd (a env) mkO
/-- a new object at any free place -/
theorem new_t {w : Wd} {S : MS} {H : Hp} {xs : List V} {ds : List D} {W : Value → Option Addr → Hp → Prop} {Q : VK} (si : SI X.K X.mg w S H) (r : RepL X.K w xs ds) (p : Po X.K X.mg (RV' X.K) W w S H Q (mkT ds S)) :
    xs.length ≤ sizeLine ∧ ∀ a, H a = none → Q (.ref a) (upd H a (.tup xs)) := by
  unfold mkT at p
  split at p
  · rename_i hz
    refine ⟨by rw [r.length, sizeLine_eq]; exact hz, fun a ha => ?_⟩
    obtain ⟨s1, g1⟩ := si.frz ha (.tup xs)
    exact p _ _ _ g1 s1 (.tup (.inl (.inl upd_same)) (r.le g1.le))
  · exact p.elim
theorem new_l {w : Wd} {S : MS} {H : Hp} {xs : List V} {ds : List D} {W : Value → Option Addr → Hp → Prop} {Q : VK} (si : SI X.K X.mg w S H) (r : RepL X.K w xs ds) (p : Po X.K X.mg (RV' X.K) W w S H Q (mkL ds S)) :
    xs.length ≤ sizeLine ∧ ∀ a, H a = none → Q (.ref a) (upd H a (.lst xs)) := by
  unfold mkL at p
  split at p
  · rename_i hz
    refine ⟨by rw [r.length, sizeLine_eq]; exact hz, fun a ha => ?_⟩
    obtain ⟨s1, g1⟩ := si.frz ha (.lst xs)
    exact p _ _ _ g1 s1 (.lst (.inl upd_same) (r.le g1.le))
  · exact p.elim
theorem new_o {w : Wd} {S : MS} {H : Hp} {xs : List V} {ds : List D} {W : Value → Option Addr → Hp → Prop} {Q : VK} (si : SI X.K X.mg w S H) (r : RepL X.K w xs ds) (p : Po X.K X.mg (RV' X.K) W w S H Q (mkO ds S)) :
    xs.length ≤ sizeLine ∧ ∀ a, H a = none → Q (.ref a) (upd H a (.lst xs)) := by
  unfold mkO at p
  split at p
  · rename_i hz
    refine ⟨by rw [r.length, sizeLine_eq]; exact hz, fun a ha => ?_⟩
    obtain ⟨s1, g1⟩ := si.add (o := .lst ds) (ho := .lst xs) ha r
    refine p _ _ _ g1 s1 ?_
    have e : a = (fun n => if n = w.m then a else w.φ n) S.nx := by
      show a = if S.nx = w.m then a else w.φ S.nx
      rw [if_pos si.nx]
    have z := Rep.obj (K := X.K) (w := ⟨fun n => if n = w.m then a else w.φ n, w.F, w.m + 1⟩) (n := S.nx) (by show S.nx < w.m + 1; rw [si.nx]; exact Nat.lt_succ_self _)
    show Rep X.K _ (.ref a) (.obj S.nx)
    have z2 : (fun n => if n = w.m then a else w.φ n) S.nx = a := e.symm
    rw [show (⟨fun n => if n = w.m then a else w.φ n, w.F, w.m + 1⟩ : Wd).φ S.nx = a from z2] at z
    exact z
  · exact p.elim
theorem disp_go {ms : MA} {mk : List D → M D} {o : List V → HO} (hk : ∀ {w : Wd} {S : MS} {H : Hp} {xs : List V} {ds : List D} {W : Value → Option Addr → Hp → Prop} {Q : VK}, SI X.K X.mg w S H → RepL X.K w xs ds → Po X.K X.mg (RV' X.K) W w S H Q (mk ds S) →
    xs.length ≤ sizeLine ∧ ∀ a, H a = none → Q (.ref a) (upd H a (o xs))) {σ : St} {H : Hp} {Q : VK} (h : tE C (fun env => bnd (ms env) mk) σ H Q) : tA C ms σ H fun xs H1 => xs.length ≤ sizeLine ∧ ∀ p, H1 p = none → Q (.ref p) (upd H1 p (o xs)) := by
  obtain ⟨w, S, env, me, p⟩ := h
  exact ⟨w, S, env, me, po_bnd me p fun w1 S1 H1 v d me1 rv g1 p1 => hk me1.si rv p1⟩
theorem j_tup {es : List Expr} {ms : MA} {x1} (h : JA X C es ms) : JE X C (.Tuple es x1 pos) (mTup ms) := PE.weak (pe_tup h) fun _ _ _ h => disp_go new_t h
theorem j_lst {es : List Expr} {ms : MA} (h : JA X C es ms) : JE X C (.List es pos) (mLst ms) := PE.weak (pe_lst h) fun _ _ _ h => disp_go new_l h
theorem j_obj {es : List Expr} {ms : MA} (h : JA X C es ms) : JE X C (.List es pos) (mObj ms) := PE.weak (pe_lst h) fun _ _ _ h => disp_go new_o h
end
end Mi
namespace Mi
open PySem L2

/-! ### statements -/
/-- an expression, then a flow -/
def stE {α : Type} (m : M α) (env : En) (f : α → MS → Option Fl) : MS → Option Fl := fun S => match m S with
  | none => none
  | some (.exc e S') => some (.exc e env S')
  | some (.ok a S') => f a S'
def PoS (K : PySem.W.Frag) (mg : Str → Option Value) (W : WX) (w : Wd) (S : MS) (H : Hp) (D : Ends) : Option Fl → Prop
  | none => False
  | some (.nx env' S') => ∀ w' H' σ', Go w S H w' S' H' → SI K mg w' S' H' → EnR K w' env' σ' → D.nx σ' H'
  | some (.bk env' S') => ∀ w' H' σ', Go w S H w' S' H' → SI K mg w' S' H' → EnR K w' env' σ' → D.bk σ' H'
  | some (.ct env' S') => ∀ w' H' σ', Go w S H w' S' H' → SI K mg w' S' H' → EnR K w' env' σ' → D.ct σ' H'
  | some (.rt d S') => ∀ w' H' v, Go w S H w' S' H' → SI K mg w' S' H' → Rep K w' v d → D.rt v H'
  | some (.exc e env' S') => ∀ w' H' σ' cls dx, Go w S H w' S' H' → SI K mg w' S' H' → EnR K w' env' σ' → ExR K mg w' S' H' e cls dx → W cls dx σ' H'
theorem PoS.go {K : PySem.W.Frag} {mg : Str → Option Value} {W : WX} {w w1 : Wd} {S S1 : MS} {H H1 : Hp} {D : Ends} {o : Option Fl} (p : PoS K mg W w S H D o) (g : Go w S H w1 S1 H1) : PoS K mg W w1 S1 H1 D o := by
  cases o with
  | none => exact p
  | some r =>
    cases r with
    | nx env' S' => exact fun w' H' σ' g2 => p w' H' σ' (g.trans g2)
    | bk env' S' => exact fun w' H' σ' g2 => p w' H' σ' (g.trans g2)
    | ct env' S' => exact fun w' H' σ' g2 => p w' H' σ' (g.trans g2)
    | rt d S' => exact fun w' H' v g2 => p w' H' v (g.trans g2)
    | exc e env' S' => exact fun w' H' σ' cls dx g2 => p w' H' σ' cls dx (g.trans g2)
section
variable {X : Cx}
def tS (C : Cy X) (m : MSt) : TS := fun D σ H => ∃ w S env, Me X C w S env σ H ∧ PoS X.K X.mg C.W w S H D (m env S)
end
def JS (X : Cx) (C : Cy X) (st : Stmt) (m : MSt) : Prop := PS X st (tS C m)
def JB (X : Cx) (C : Cy X) (st : List Stmt) (m : MSt) : Prop := PSs X st (tS C m)
abbrev MG := D → En → MS → Option (En × MS)
section
variable {X : Cx}
def tG (C : Cy X) (g : MG) : TG := fun v σ H Q => ∃ w S env d, Me X C w S env σ H ∧ Rep X.K w v d ∧ match g d env S with
  | none => False
  | some (env', S') => ∀ w' H' σ', Go w S H w' S' H' → SI X.K X.mg w' S' H' → EnR X.K w' env' σ' → Q σ' H'
abbrev MGs := List D → En → MS → Option (En × MS)
def tGs (C : Cy X) (g : MGs) : TGs := fun vs σ H Q => ∃ w S env ds, Me X C w S env σ H ∧ RepL X.K w vs ds ∧ match g ds env S with
  | none => False
  | some (env', S') => ∀ w' H' σ', Go w S H w' S' H' → SI X.K X.mg w' S' H' → EnR X.K w' env' σ' → Q σ' H'
end
def JG (X : Cx) (C : Cy X) (e : Expr) (g : MG) : Prop := PG X e (tG C g)
def JGs (X : Cx) (C : Cy X) (es : List Expr) (g : MGs) : Prop := PGs X es (tGs C g)
section
variable {X : Cx} {C : Cy X}
theorem PS.weak {st : Stmt} {t t' : TS} (h : PS X st t) (k : ∀ D σ H, t' D σ H → t D σ H) : PS X st t' := ⟨fun pins s σ H D I q => h.run pins s σ H D I (k D σ H q)⟩
theorem PSs.weak {st : List Stmt} {t t' : TS} (h : PSs X st t) (k : ∀ D σ H, t' D σ H → t D σ H) : PSs X st t' := ⟨fun pins s σ H D I q => h.run pins s σ H D I (k D σ H q)⟩
theorem PG.weak {e : Expr} {t t' : TG} (h : PG X e t) (k : ∀ v σ H Q, t' v σ H Q → t v σ H Q) : PG X e t' := ⟨fun pins s σ H v u Q I r q => h.run pins s σ H v u Q I r (k v σ H Q q)⟩
theorem PGs.weak {e : List Expr} {t t' : TGs} (h : PGs X e t) (k : ∀ v σ H Q, t' v σ H Q → t v σ H Q) : PGs X e t' := ⟨fun pins s σ H v u Q I r q => h.run pins s σ H v u Q I r (k v σ H Q q)⟩
theorem PI.weak {tg e : Expr} {t t' : TI} (h : PI X tg e t) (k : ∀ σ H Q, t' σ H Q → t σ H Q) : PI X tg e t' := ⟨fun pins s σ H Q I q => h.run pins s σ H Q I (k σ H Q q)⟩

theorem po_st {α γ : Type} {Ra : Wd → MS → Hp → γ → α → Prop} {w : Wd} {S : MS} {env : En} {σ : St} {H : Hp} {D : Ends} {m : M α} {f : α → MS → Option Fl} (me : Me X C w S env σ H) (h : PoS X.K X.mg C.W w S H D (stE m env f S)) {Q' : γ → Hp → Prop}
    (k : ∀ w' S' H' v d, Me X C w' S' env σ H' → Ra w' S' H' v d → Go w S H w' S' H' → PoS X.K X.mg C.W w' S' H' D (f d S') → Q' v H') : Po X.K X.mg Ra (fun c d H => C.W c d σ H) w S H Q' (m S) := by
  unfold stE at h
  cases e : m S with
  | none => rw [e] at h; exact h
  | some r =>
    rw [e] at h
    cases r with
    | exc ex S' => exact fun w' H' cls dx g si r => h w' H' σ cls dx g si (me.en.le g.le) r
    | ok d S' => exact fun w' H' v g si r => k w' S' H' v d (me.go g si) r g (h.go g)

def mNx : MSt := fun env S => some (.nx env S)
def mSeq (a b : MSt) : MSt := fun env S => match a env S with
  | some (.nx env' S') => b env' S'
  | r => r
theorem jb_nil : JB X C [] mNx := PSs.weak pss_nil fun D σ H ⟨w, S, env, me, p⟩ => p w H σ (Go.refl _ _ _) me.si me.en
theorem jb_cons {st : Stmt} {rest : List Stmt} {a b : MSt} (h1 : JS X C st a) (h2 : JB X C rest b) : JB X C (st :: rest) (mSeq a b) := PSs.weak (pss_cons h1 h2) fun D σ H ⟨w, S, env, me, p⟩ => by
  refine ⟨w, S, env, me, ?_⟩
  unfold mSeq at p
  cases e : a env S with
  | none => rw [e] at p; exact p
  | some r =>
    rw [e] at p
    cases r with
    | nx env' S' => exact fun w' H' σ' g si en => ⟨w', S', env', ⟨si, en, C.st me.b g⟩, p.go g⟩
    | bk env' S' => exact p
    | ct env' S' => exact p
    | rt d S' => exact p
    | exc e env' S' => exact p
theorem jb_one {st : Stmt} {a : MSt} (h1 : JS X C st a) : JB X C [st] a := pss_one h1
theorem js_pass {pos} : JS X C (.Pass pos) mNx := PS.weak ps_pass fun D σ H ⟨w, S, env, me, p⟩ => p w H σ (Go.refl _ _ _) me.si me.en
def mBk : MSt := fun env S => some (.bk env S)
def mCt : MSt := fun env S => some (.ct env S)
theorem js_break {pos} : JS X C (.Break pos) mBk := PS.weak ps_break fun D σ H ⟨w, S, env, me, p⟩ => p w H σ (Go.refl _ _ _) me.si me.en
theorem js_continue {pos} : JS X C (.Continue pos) mCt := PS.weak ps_continue fun D σ H ⟨w, S, env, me, p⟩ => p w H σ (Go.refl _ _ _) me.si me.en
/-- what the proof never comes to -/
def mNever : MSt := fun _ _ => none
theorem js_never {st : Stmt} : JS X C st mNever := PS.weak ps_never fun D σ H ⟨w, S, env, me, p⟩ => p
theorem jb_never {st : List Stmt} : JB X C st mNever := PSs.weak pss_never fun D σ H ⟨w, S, env, me, p⟩ => p
variable {e : Expr} {m : ME} {pos pos' : Pos}
def mDrop (m : ME) : MSt := fun env => stE (m env) env fun _ S => some (.nx env S)
theorem js_expr (he : JE X C e m) (hs : swapsWith e none pos.line X.env = pure false := by rfl) : JS X C (.Expr e pos) (mDrop m) := PS.weak (ps_expr he hs) fun D σ H ⟨w, S, env, me, p⟩ =>
  ⟨w, S, env, me, po_st me p fun w1 S1 H1 v d me1 rv g1 p1 => p1 w1 H1 σ (Go.refl _ _ _) me1.si me1.en⟩
def mRet (m : ME) : MSt := fun env => stE (m env) env fun d S => some (.rt d S)
theorem js_ret (he : JE X C e m) : JS X C (.Return (some e) pos) (mRet m) := PS.weak (ps_ret he) fun D σ H ⟨w, S, env, me, p⟩ =>
  ⟨w, S, env, me, po_st me p fun w1 S1 H1 v d me1 rv g1 p1 => p1 w1 H1 v (Go.refl _ _ _) me1.si rv⟩
def mRetN : MSt := fun _ S => some (.rt .non S)
theorem js_retN : JS X C (.Return none pos) mRetN := PS.weak ps_retN fun D σ H ⟨w, S, env, me, p⟩ => p w H .non (Go.refl _ _ _) me.si .non
def mIfS (t : MT) (a b : MSt) : MSt := fun env => stE (t env) env fun c S => match c with
  | true => a env S
  | false => b env S
theorem js_if {c : Expr} {sa sb : List Stmt} {t : MT} {ma mb : MSt} (hc : JT X C c t) (ha : JB X C sa ma) (hb : JB X C sb mb) : JS X C (.If c sa sb pos) (mIfS t ma mb) := PS.weak (ps_if hc ha hb) fun D σ H ⟨w, S, env, me, p⟩ => by
  refine ⟨w, S, env, me, po_st me p fun w1 S1 H1 v d me1 rv g1 p1 => ?_⟩
  cases (show v = d from rv)
  cases v with
  | true =>
    rw [if_pos rfl]
    exact ⟨w1, S1, env, me1, p1⟩
  | false =>
    rw [if_neg Bool.false_ne_true]
    exact ⟨w1, S1, env, me1, p1⟩

/-! ### targets -/
def gNm (i : Nat) : MG := fun d env S => some (env.set i (some d), S)
theorem jg_name {i : Nat} {x : Str} (h : PG X (.Name x pos) (gName i)) : JG X C (.Name x pos) (gNm i) := PG.weak h fun v σ H Q ⟨w, S, env, d, me, r, p⟩ => p w H _ (Go.refl _ _ _) me.si (me.en.set r i)
def gsNil : MGs := fun ds env S => match ds with
  | [] => some (env, S)
  | _ => none
def gsCons (g : MG) (r : MGs) : MGs := fun ds env S => match ds with
  | [] => none
  | d :: t => match g d env S with
    | none => none
    | some (env', S') => r t env' S'
theorem jgs_nil : JGs X C [] gsNil := PGs.weak pgs_nil fun v σ H Q ⟨w, S, env, ds, me, r, p⟩ => by
  cases r with
  | nil => exact ⟨rfl, p w H σ (Go.refl _ _ _) me.si me.en⟩
  | cons _ _ => exact p.elim
theorem jgs_cons {e : Expr} {es : List Expr} {g : MG} {r : MGs} (h1 : JG X C e g) (h2 : JGs X C es r) (hs : (assignEach (e :: es) X.env).map (·.2) = assign e X.env :: (assignEach es X.env).map (·.2) := by rfl) : JGs X C (e :: es) (gsCons g r) :=
  PGs.weak (pgs_cons h1 h2 hs) fun v σ H Q ⟨w, S, env, ds, me, rr, p⟩ => by
    cases rr with
    | nil => exact p.elim
    | @cons v vs d ds r1 r2 =>
      refine ⟨_, _, rfl, w, S, env, d, me, r1, ?_⟩
      unfold gsCons at p
      dsimp only at p
      cases q : g d env S with
      | none => rw [q] at p; exact p
      | some z =>
        obtain ⟨env', S'⟩ := z
        rw [q] at p
        dsimp only at p ⊢
        intro w' H' σ' g1 si en
        refine ⟨w', S', env', _, ⟨si, en, C.st me.b g1⟩, r2.le g1.le, ?_⟩
        cases q2 : r ds env' S' with
        | none => rw [q2] at p; exact p
        | some z2 =>
          obtain ⟨env2, S2⟩ := z2
          rw [q2] at p
          exact fun w2 H2 σ2 g2 => p w2 H2 σ2 (g1.trans g2)
def gTp (n : Nat) (g : MGs) : MG := fun d env S => match d with
  | .tup ds => if ds.length = n then g ds env S else none
  | _ => none
theorem jg_tup {es : List Expr} {k n : Nat} {g : MGs} (hc : X.calm = true) (h : JGs X C es g) (hn : (assignEach es X.env).length = n := by rfl) (hst : (assignEach es X.env).findIdx? (·.1) = none := by rfl) : JG X C (.Tuple es k pos) (gTp n g) :=
  PG.weak (pg_tup hc h hn hst) fun v σ H Q ⟨w, S, env, d, me, r, p⟩ => by
    cases d with
    | tup ds =>
      cases r with
      | @tup a vs _ h1 h2 =>
        unfold gTp at p
        dsimp only at p
        by_cases q : ds.length = n
        · rw [if_pos q] at p
          exact ⟨a, vs, rfl, sqt_ex me.si.ex h1, by rw [h2.length]; exact q, w, S, env, ds, me, h2, p⟩
        · rw [if_neg q] at p
          exact p.elim
    | _ => exact p.elim
def mAsg (m : ME) (g : MG) : MSt := fun env => stE (m env) env fun d S => match g d env S with
  | none => none
  | some (env', S') => some (.nx env' S')
theorem asg_go {te : TE} {g : MG} {gt : TG} {D : Ends} {σ : St} {H : Hp} (hte : ∀ σ H Q, tE C m σ H Q → te σ H Q) (hg : ∀ v σ H Q, tG C g v σ H Q → gt v σ H Q) (h : tS C (mAsg m g) D σ H) : tAsg te gt D σ H := by
  obtain ⟨w, S, env, me, p⟩ := h
  refine hte _ _ _ ⟨w, S, env, me, po_st me p fun w1 S1 H1 v d me1 rv g1 p1 => ?_⟩
  refine hg _ _ _ _ ⟨w1, S1, env, d, me1, rv, ?_⟩
  cases q : g d env S1 with
  | none => rw [q] at p1; exact p1
  | some z =>
    obtain ⟨env', S'⟩ := z
    rw [q] at p1
    exact p1
theorem js_asg {tg : Expr} {g : MG} (he : JE X C e m) (hg : JG X C tg g) (hs : swapsWithSole [tg] e pos.line X.env = pure false := by rfl) (hw : swappedStores [tg] e X.env = pure none := by rfl)
    (h1 : (assignEach [tg] X.env).map (·.2) = [assign tg X.env] := by rfl) : JS X C (.Assign [tg] e pos) (mAsg m g) := PS.weak (ps_asg he hg hs hw h1) fun D σ H h => asg_go (fun _ _ _ h => h) (fun _ _ _ _ h => h) h
/-- name = value -/
theorem js_set {i : Nat} {x : Str} (hN : X.N.Nodup) (hi : X.N[i]? = some x) (hx : Loc X.env.scope x) (he : JE X C e m) (hs : swapsWith e (some (.Name x pos')) pos.line X.env = pure false := by rfl) (hf : X.fn x = true ∨ X.env.scope.names.lookup x = some .local := by first | exact .inl rfl | exact .inr rfl | assumption) :
    JS X C (.Assign [.Name x pos'] e pos) (mAsg m (gNm i)) := PS.weak (ps_set hN hi hx he hs hf) fun D σ H h => asg_go (fun _ _ _ h => h) (fun v σ H Q ⟨w, S, env, d, me, r, p⟩ => p w H _ (Go.refl _ _ _) me.si (me.en.set r i)) h
/-- a, b = x, y -/
def mPar (i j : Nat) (ms : MA) : MSt := fun env => stE (ms env) env fun ds S => match ds with
  | [d, e] => some (.nx ((env.set i (some d)).set j (some e)) S)
  | _ => none
theorem js_par {i j : Nat} {x y : Str} {a b : Expr} {ms : MA} {px py pt : Pos} {kt k2 pt2} (hc : X.calm = true) (hN : X.N.Nodup) (hi : X.N[i]? = some x) (hj : X.N[j]? = some y) (hij : i ≠ j)
    (hx : X.env.scope.names.lookup x = some .local) (hy : X.env.scope.names.lookup y = some .local) (ha : JA X C [a, b] ms)
    (hw : swappedStores [.Tuple [.Name x px, .Name y py] kt pt] (.Tuple [a, b] k2 pt2) X.env = pure (some [x, y]))
    (hs : swapsWithSole [.Tuple [.Name x px, .Name y py] kt pt] (.Tuple [a, b] k2 pt2) pos.line X.env = pure false := by rfl) :
    JS X C (.Assign [.Tuple [.Name x px, .Name y py] kt pt] (.Tuple [a, b] k2 pt2) pos) (mPar i j ms) := PS.weak (ps_par hc hN hi hj hij hx hy ha hw hs) fun D σ H ⟨w, S, env, me, p⟩ => by
  refine ⟨w, S, env, me, po_st me p fun w1 S1 H1 v ds me1 rv g1 p1 => ?_⟩
  cases rv with
  | nil => exact p1.elim
  | @cons v1 vs d1 ds1 r1 r2 =>
    cases r2 with
    | nil => exact p1.elim
    | @cons v2 vs2 d2 ds2 r2 r3 =>
      cases r3 with
      | nil => exact ⟨_, _, rfl, p1 w1 H1 _ (Go.refl _ _ _) me1.si ((me1.en.set r1 i).set r2 j)⟩
      | cons _ _ => exact p1.elim
def mPar3 (i j l : Nat) (ms : MA) : MSt := fun env => stE (ms env) env fun ds S => match ds with
  | [d, e, f] => some (.nx (((env.set i (some d)).set j (some e)).set l (some f)) S)
  | _ => none
theorem par3_go {i j l : Nat} {ms : MA} {D : Ends} {σ : St} {H : Hp} (h : tS C (mPar3 i j l ms) D σ H) : tPar3 i j l (tA C ms) D σ H := by
  obtain ⟨w, S, env, me, p⟩ := h
  refine ⟨w, S, env, me, po_st me p fun w1 S1 H1 v ds me1 rv g1 p1 => ?_⟩
  cases rv with
  | nil => exact p1.elim
  | @cons v1 vs d1 ds1 r1 r2 =>
    cases r2 with
    | nil => exact p1.elim
    | @cons v2 vs2 d2 ds2 r2 r3 =>
      cases r3 with
      | nil => exact p1.elim
      | @cons v3 vs3 d3 ds3 r3 r4 =>
        cases r4 with
        | nil => exact ⟨_, _, _, rfl, p1 w1 H1 _ (Go.refl _ _ _) me1.si (((me1.en.set r1 i).set r2 j).set r3 l)⟩
        | cons _ _ => exact p1.elim
theorem js_par3 {i j l : Nat} {st : Stmt} {ms : MA} (h : PS X st (tPar3 i j l (tA C ms))) : JS X C st (mPar3 i j l ms) := PS.weak h fun _ _ _ q => par3_go q
/-- name op= e -/
def mAug (i : Nat) (f : D → D → M D) (m : ME) : MSt := fun env => match env[i]? with
  | some (some x) => stE (bnd (m env) fun y => f x y) env fun d S => some (.nx (env.set i (some d)) S)
  | _ => fun _ => none
theorem js_aug {i : Nat} {x : Str} {op : Operator} {r : R2} {f : D → D → M D} (hN : X.N.Nodup) (hi : X.N[i]? = some x) (hx : Loc X.env.scope x) (he : JE X C e m) (ho : OpR X (inplaceOp op) r) (hf2 : Op2 X r f) (hf : X.fn x = true ∨ X.env.scope.names.lookup x = some .local := by first | exact .inl rfl | exact .inr rfl | assumption) :
    JS X C (.AugAssign (.Name x pos') op e pos) (mAug i f m) := PS.weak (ps_aug (ti := r) hN hi hx he (fun pins s σ H x y v u Q I rx ry h => ho pins s σ H x y v u Q I rx ry h) hf) fun D σ H ⟨w, S, env, me, p⟩ => by
  unfold mAug at p
  cases q : env[i]? with
  | none => rw [q] at p; exact p.elim
  | some o =>
    rw [q] at p
    cases o with
    | none => exact p.elim
    | some d =>
      dsimp only at p
      obtain ⟨v, e1, rv⟩ := me.en.get q
      refine ⟨v, e1, w, S, env, me, ?_⟩
      have p2 := po_st (γ := V) (Ra := RV' X.K) me p (Q' := fun z H2 => D.nx (σ.set i (some z)) H2) fun w1 S1 H1 z d1 me1 rz g1 p1 => p1 w1 H1 _ (Go.refl _ _ _) me1.si (me1.en.set rz i)
      exact po_bnd me p2 fun w1 S1 H1 y d2 me1 ry g1 p1 => hf2 w1 S1 H1 v y d d2 _ _ me1.si (rv.le g1.le) ry p1

/-! ### loops -/
/-- from a state on J yields ds -/
def ItR (X : Cx) : Wd → MS → Hp → It → List D → Prop := fun w S H J ds => ∀ i w' S' H', Go w S H w' S' H' → SI X.K X.mg w' S' H' →
  (i = ds.length → J.stop i H') ∧ ∀ d, ds[i]? = some d → J.go i H' ∧ ∀ x H'', J.yld i H' x H'' → ∃ w'', Go w' S' H' w'' S' H'' ∧ SI X.K X.mg w'' S' H'' ∧ Rep X.K w'' x d
def tI (C : Cy X) (m : MA) : TI := fun σ H R => ∃ w S env, Me X C w S env σ H ∧ Po X.K X.mg (ItR X) (fun c d H => C.W c d σ H) w S H R (m env S)
end
def JI (X : Cx) (C : Cy X) (tg e : Expr) (m : MA) : Prop := PI X tg e (tI C m)
def loopF (g : MG) (body : MSt) : List D → En → MS → Option Fl
  | [], env, S => some (.nx env S)
  | d :: r, env, S => match g d env S with
    | none => none
    | some (env1, S1) => match body env1 S1 with
      | none => none
      | some (.nx env2 S2) => loopF g body r env2 S2
      | some (.ct env2 S2) => loopF g body r env2 S2
      | some (.bk env2 S2) => some (.nx env2 S2)
      | some (.rt d S2) => some (.rt d S2)
      | some (.exc e env2 S2) => some (.exc e env2 S2)
def mFor (mi : MA) (g : MG) (body : MSt) : MSt := fun env => stE (mi env) env fun ds S => loopF g body ds env S
section
variable {X : Cx} {C : Cy X} {pos : Pos}
theorem js_for {tg iter : Expr} {body : List Stmt} {mi : MA} {g : MG} {b : MSt} (hc : X.calm = true) (hi : JI X C tg iter mi) (hg : JG X C tg g) (hb : JB X C body b)
    (hs : ∀ x, foldedSetIterable iter X.env x = pure x := by intro _; rfl) : JS X C (.For tg iter body [] pos) (mFor mi g b) := PS.weak (ps_for C.po hc hi hg hb hs) fun D σ H ⟨w, S, env, me, p⟩ => by
  refine ⟨w, S, env, me, po_st me p fun w1 S1 H1 J ds me1 ri g1 p1 => ?_⟩
  refine ⟨fun i m σ H => ∃ w' S' env', m = ds.length - i ∧ i ≤ ds.length ∧ Me X C w' S' env' σ H ∧ Go w1 S1 H1 w' S' H ∧ PoS X.K X.mg C.W w' S' H D (loopF g b (ds.drop i) env' S'),
    ⟨ds.length, w1, S1, env, by simp, Nat.zero_le _, me1, Go.refl _ _ _, by simpa using p1⟩, ?_⟩
  rintro i m σ2 H2 ⟨w2, S2, env2, rfl, hi2, me2, g2, p2⟩
  obtain ⟨hstop, hgo⟩ := ri i w2 S2 H2 g2 me2.si
  by_cases hlt : i < ds.length
  · refine .inr ?_
    have hd : ds.drop i = ds[i] :: ds.drop (i + 1) := List.drop_eq_getElem_cons hlt
    rw [hd] at p2
    obtain ⟨go, yl⟩ := hgo ds[i] (List.getElem?_eq_getElem hlt)
    refine ⟨go, fun σ' H' => ∃ w' S' env', Me X C w' S' env' σ' H' ∧ Go w1 S1 H1 w' S' H' ∧ PoS X.K X.mg C.W w' S' H' D (loopF g b (ds.drop (i + 1)) env' S'),
      fun σ' H' ⟨w', S', env', m1, m2, m3⟩ => ⟨ds.length - (i + 1), by omega, w', S', env', rfl, hlt, m1, m2, m3⟩, fun x H' y => ?_⟩
    obtain ⟨w3, g3, si3, r3⟩ := yl x H' y
    refine ⟨w3, S2, env2, ds[i], me2.go g3 si3, r3, ?_⟩
    unfold loopF at p2
    cases q : g ds[i] env2 S2 with
    | none => rw [q] at p2; exact p2
    | some z =>
      obtain ⟨env3, S3⟩ := z
      rw [q] at p2
      dsimp only at p2 ⊢
      intro w4 H4 σ4 g4 si4 en4
      refine ⟨w4, S3, env3, ⟨si4, en4, C.st me2.b (g3.trans g4)⟩, ?_⟩
      have base : Go w1 S1 H1 w4 S3 H4 := g2.trans (g3.trans g4)
      have p3 := p2.go (g3.trans g4)
      cases q2 : b env3 S3 with
      | none => rw [q2] at p3; exact p3
      | some fl =>
        rw [q2] at p3
        cases fl with
        | nx env5 S5 => exact fun w5 H5 σ5 g5 si5 en5 => ⟨w5, S5, env5, ⟨si5, en5, C.st me2.b ((g3.trans g4).trans g5)⟩, base.trans g5, p3.go g5⟩
        | ct env5 S5 => exact fun w5 H5 σ5 g5 si5 en5 => ⟨w5, S5, env5, ⟨si5, en5, C.st me2.b ((g3.trans g4).trans g5)⟩, base.trans g5, p3.go g5⟩
        | bk env5 S5 => exact p3
        | rt d S5 => exact p3
        | exc e env5 S5 => exact p3
  · have hl : i = ds.length := by omega
    subst hl
    rw [List.drop_length] at p2
    exact .inl ⟨hstop rfl, p2 w2 H2 σ2 (Go.refl _ _ _) me2.si me2.en⟩
/-- while, with fuel -/
def loopW (t : MT) (b : MSt) : Nat → En → MS → Option Fl
  | 0, _, _ => none
  | n + 1, env, S => match t env S with
    | none => none
    | some (.exc e S1) => some (.exc e env S1)
    | some (.ok false S1) => some (.nx env S1)
    | some (.ok true S1) => match b env S1 with
      | none => none
      | some (.nx env2 S2) => loopW t b n env2 S2
      | some (.ct env2 S2) => loopW t b n env2 S2
      | some (.bk env2 S2) => some (.nx env2 S2)
      | some (.rt d S2) => some (.rt d S2)
      | some (.exc e env2 S2) => some (.exc e env2 S2)
def fuelN : Nat := 1000000
def mWhile (t : MT) (b : MSt) : MSt := fun env S => loopW t b fuelN env S
theorem js_while {c : Expr} {body : List Stmt} {t : MT} {b : MSt} (hc : JT X C c t) (hb : JB X C body b) : JS X C (.While c body [] pos) (mWhile t b) := PS.weak (ps_while C.po hc hb) fun D σ H ⟨w, S, env, me, p⟩ => by
  refine ⟨fun m σ H => ∃ w S env, Me X C w S env σ H ∧ PoS X.K X.mg C.W w S H D (loopW t b m env S), ⟨fuelN, w, S, env, me, p⟩, ?_⟩
  rintro m σ1 H1 ⟨w1, S1, env1, me1, p1⟩
  cases m with
  | zero => exact p1.elim
  | succ m =>
    refine ⟨w1, S1, env1, me1, ?_⟩
    unfold loopW at p1
    cases q : t env1 S1 with
    | none => rw [q] at p1; exact p1
    | some r =>
      rw [q] at p1
      cases r with
      | exc e S2 => exact fun w' H' cls dx g si r => p1 w' H' σ1 cls dx g si (me1.en.le g.le) r
      | ok k S2 =>
        intro w2 H2 v g2 si2 rv
        cases (show v = k from rv)
        cases k with
        | false =>
          rw [if_neg Bool.false_ne_true]
          exact p1 w2 H2 σ1 g2 si2 (me1.en.le g2.le)
        | true =>
          rw [if_pos rfl]
          dsimp only at p1
          refine ⟨fun σ' H' => ∃ w S env, Me X C w S env σ' H' ∧ PoS X.K X.mg C.W w S H' D (loopW t b m env S), fun σ' H' h => ⟨m, Nat.lt_succ_self _, h⟩, ?_⟩
          refine ⟨w2, S2, env1, me1.go g2 si2, ?_⟩
          have p3 := p1.go g2
          cases q2 : b env1 S2 with
          | none => rw [q2] at p3; exact p3
          | some fl =>
            rw [q2] at p3
            cases fl with
            | nx env5 S5 => exact fun w5 H5 σ5 g5 si5 en5 => ⟨w5, S5, env5, ⟨si5, en5, C.st me1.b (g2.trans g5)⟩, p3.go g5⟩
            | ct env5 S5 => exact fun w5 H5 σ5 g5 si5 en5 => ⟨w5, S5, env5, ⟨si5, en5, C.st me1.b (g2.trans g5)⟩, p3.go g5⟩
            | bk env5 S5 => exact p3
            | rt d S5 => exact p3
            | exc e env5 S5 => exact p3

/-! ### a def -/
def runB (n k : Nat) (body : MSt) : List D → M D := fun ds S => if ds.length = k then match body (ds.map some ++ List.replicate (n - ds.length) none) S with
    | some (.nx _ S') => some (.ok .non S')
    | some (.rt d S') => some (.ok d S')
    | some (.exc e _ S') => some (.exc e S')
    | _ => none
  else none
/-- the promise: what the mirror says -/
def spM (K : PySem.W.Frag) (mg : Str → Option Value) (k : Nat) (m : List D → M D) : Sp := fun vs H Q E => ∃ w S ds, SI K mg w S H ∧ RepL K w vs ds ∧ ds.length = k ∧ Po K mg (RV' K) E w S H Q (m ds S)
theorem EnR.start {K : PySem.W.Frag} {w : Wd} : ∀ {vs : List V} {ds : List D} (n : Nat), RepL K w vs ds → EnR K w (ds.map some ++ List.replicate n none) (vs.map some ++ List.replicate n none)
  | [], _, 0, h => by cases h; exact True.intro
  | [], _, n + 1, h => by
    cases h
    exact EnR.start (vs := []) (ds := []) n .nil
  | v :: vs, _, n, h => by
    cases h with
    | cons h1 h2 => exact ⟨⟨v, rfl, h1⟩, EnR.start n h2⟩
section
variable {P : Program} {wo : World} {K : PySem.W.Frag} {mg : Str → Option Value} {base : Heap}
/-- a context of a def's body -/
def cyOf {X : Cx} {E : XK} (tk : Takes X (fun cls d _ H => E cls d H)) (po : PassesOwn (model X.prog X.w) X.A X.env X.xe) : Cy X := ⟨fun cls d _ H => E cls d H, tk, po, fun _ _ _ => True, fun _ _ => True.intro⟩
abbrev FJ (P : Program) (wo : World) (K : PySem.W.Frag) (mg : Str → Option Value) (base : Heap) (k : Nat) (f : Addr) (fd : FuncData) (ps : List Str) (m : List D → M D) : Prop := FnOk P wo K mg base (L2.CX P wo) k f fd ps (spM K mg ps.length m)
theorem fj_mk {x qual : Str} {st : Stmt} {f : Addr} {fd : FuncData} {N ps : List Str} {k : Nat} {body : MSt} (F : Fun K x qual st f fd) (S : FnScope N ps (defScope st))
    (h : ∀ (cdv : Value) (A : Around) (outer : List Env) (s : Shared) (H : Hp) (E : XK) (C : Cy (cxOf (L2.CX P wo) P wo K mg base N qual (defScope st) f cdv A outer s H E)), Room k (A.deeper (PyProof.Rows.envOfC qual (defScope st) s.heap.objs.size f cdv)) →
      JB (cxOf (L2.CX P wo) P wo K mg base N qual (defScope st) f cdv A outer s H E) C (defBody st) body) : FJ P wo K mg base (k + 1) f fd ps (runB N.length ps.length body) := by
  refine F.okX S (fun vs H Q E h => ?_) fun cdv A outer s H vs Q E hr hsp => ?_
  · obtain ⟨w, S, ds, si, r, hl, p⟩ := h
    exact r.length.trans hl
  · obtain ⟨w, S', ds, si, r, hl, p⟩ := hsp
    have tk : Takes (cxOf (L2.CX P wo) P wo K mg base N qual (defScope st) f cdv A outer s H E) (fun cls d _ H => E cls d H) := takes_of rfl rfl rfl rfl
    have po : PassesOwn (model P wo) (A.deeper (PyProof.Rows.envOfC qual (defScope st) s.heap.objs.size f cdv)) (PyProof.Rows.envOfC qual (defScope st) s.heap.objs.size f cdv) (cxOf (L2.CX P wo) P wo K mg base N qual (defScope st) f cdv A outer s H E).xe := passes_of (X := cxOf (L2.CX P wo) P wo K mg base N qual (defScope st) f cdv A outer s H E) rfl
    refine ⟨_, h cdv A outer s H E (cyOf tk po) hr, w, S', ds.map some ++ List.replicate (N.length - ds.length) none, ⟨si, ?_, True.intro⟩, ?_⟩
    · unfold L2.start
      rw [r.length]
      exact EnR.start _ r
    · unfold runB at p
      rw [if_pos hl] at p
      cases q : body (ds.map some ++ List.replicate (N.length - ds.length) none) S' with
      | none => rw [q] at p; exact p
      | some fl =>
        rw [q] at p
        cases fl with
        | nx env5 S5 => exact fun w5 H5 σ5 g5 si5 en5 => p w5 H5 .non g5 si5 .non
        | ct env5 S5 => exact p.elim
        | bk env5 S5 => exact p.elim
        | rt d S5 => exact p
        | exc e env5 S5 => exact fun w' H' σ' cls dx g si en r => p w' H' cls dx g si r
end
/-- a call of a def -/
def mCall (m : List D → M D) (a : MA) : ME := fun env => bnd (a env) m
section
variable {k : Nat} {f : Addr} {fd : FuncData} {ps : List Str} {x : Str} {p : Pos} {e : Expr} {es : List Expr} {m : List D → M D} {ma : MA}
theorem sp_of {w : Wd} {S : MS} {H : Hp} {vs : List V} {ds : List D} {Q : VK} {E : XK} {n : Nat} (si : SI X.K X.mg w S H) (r : RepL X.K w vs ds) (hl : ds.length = n) (q : Po X.K X.mg (RV' X.K) E w S H Q (m ds S)) : spM X.K X.mg n m vs H Q E := ⟨w, S, ds, si, r, hl, q⟩
theorem runB_len {n j : Nat} {b : MSt} {ds : List D} {S : MS} {r : Out D} (h : runB n j b ds S = some r) : ds.length = j := by
  unfold runB at h
  split at h
  · assumption
  · cases h
/-- the number of arguments is told by the mirror -/
def Ar (n : Nat) (m : List D → M D) : Prop := ∀ ds S r, m ds S = some r → ds.length = n
theorem ar_runB {n j : Nat} {b : MSt} : Ar j (runB n j b) := fun _ _ _ h => runB_len h
theorem po_len {w : Wd} {S : MS} {H : Hp} {ds : List D} {Q : VK} {E : XK} {n : Nat} (ar : Ar n m) (q : Po X.K X.mg (RV' X.K) E w S H Q (m ds S)) : ds.length = n := by
  cases e : m ds S with
  | none => rw [e] at q; exact q.elim
  | some r => exact ar _ _ _ e
theorem j_call (F : FJ X.prog X.w X.K X.mg X.base k f fd ps m) (ar : Ar ps.length m) (hr : Room k X.A) (hg : Gl X x) (hm : X.mg x = some (.ref f)) (hk : PySem.W.keepIn X.K (.ref f) = true) (hb : Binds X.K fd ps [])
    (ha : JA X C (e :: es) ma) (hdb : (x == ("__debug__" : Str)) = false := by decide) (he : starEach (e :: es) X.env = (false, eval e X.env) :: starEach es X.env := by rfl) (hpl : (backTo pos (starEach es X.env)).any (·.1) = false := by rfl) :
    JE X C (.Call (.Name x p) (e :: es) [] pos) (mCall m ma) := PE.weak (pe_callS (E := WE C.W) F hr hg hm hk hb (fun σ => passAt C.tk σ) ha hdb he hpl) fun σ H Q ⟨w, S, env, me, q⟩ =>
  ⟨w, S, env, me, po_bnd me q fun w1 S1 H1 vs ds me1 rv g1 p1 => sp_of me1.si rv (po_len ar p1) p1⟩
end
end
end Mi
namespace Mi
open PySem L2

/-! ### what a container holds -/
def lstOf (S : MS) : D → Option (List D)
  | .lst ds => some ds
  | .src ds => some ds
  | .obj n => match S.get n with
    | some (.lst ds) => some ds
    | some (.ll ds) => some ds
    | _ => none
  | _ => none
/-- a list that is no object of the module -/
def lstRd (S : MS) : D → Option (List D)
  | .lst ds => some ds
  | .obj n => match S.get n with
    | some (.lst ds) => some ds
    | some (.ll ds) => some ds
    | _ => none
  | _ => none
def seqOf (S : MS) : D → Option (List D)
  | .tup ds => some ds
  | d => lstOf S d
def dctOf (S : MS) : D → Option (List (Key × D))
  | .dct kvs => some kvs
  | .obj n => match S.get n with
    | some (.dk kvs) => some kvs
    | some (.lk kvs) => some kvs
    | _ => none
  | _ => none
section
variable {X : Cx} {w : Wd} {S : MS} {H : Hp} {v : V} {d : D} {ds : List D}
theorem lstRd_is (si : SI X.K X.mg w S H) (r : Rep X.K w v d) (h : lstRd S d = some ds) : ∃ a vs, v = .ref a ∧ Rd H a (.lst vs) ∧ RepL X.K w vs ds := by
  cases d with
  | lst es =>
    cases r with
    | lst h1 h2 =>
      cases h
      exact ⟨_, _, rfl, rd_ex si.ex h1, h2⟩
  | obj n =>
    cases r with
    | obj h1 =>
      unfold lstRd at h
      dsimp only at h
      cases e : S.get n with
      | none => rw [e] at h; cases h
      | some o =>
        rw [e] at h
        cases o with
        | lst es =>
          cases h
          obtain ⟨_, _, ho, h3, h4⟩ := si.st n _ e
          cases ho with
          | lst vs => exact ⟨_, vs, rfl, .inl h3, h4⟩
          | _ => exact h4.elim
        | ll es =>
          cases h
          obtain ⟨_, _, ho, h3, h4⟩ := si.st n _ e
          cases ho with
          | frz ob u =>
            cases u with
            | lst vs => exact ⟨_, vs, rfl, .inr ⟨_, h3⟩, h4⟩
            | _ => exact h4.elim
          | _ => exact h4.elim
        | _ => cases h
  | _ => cases h
theorem lst_is (si : SI X.K X.mg w S H) (r : Rep X.K w v d) (h : lstOf S d = some ds) : ∃ a vs, v = .ref a ∧ SqL X.K H a vs ∧ RepL X.K w vs ds := by
  cases d with
  | lst es =>
    obtain ⟨a, vs, h1, h2, h3⟩ := lstRd_is si r h
    exact ⟨a, vs, h1, .inl h2, h3⟩
  | src es =>
    cases r with
    | src h1 h2 =>
      cases h
      exact ⟨_, _, rfl, sql_ex si.ex h1, h2⟩
  | obj n =>
    obtain ⟨a, vs, h1, h2, h3⟩ := lstRd_is si r h
    exact ⟨a, vs, h1, .inl h2, h3⟩
  | _ => cases h
theorem seq_is (si : SI X.K X.mg w S H) (r : Rep X.K w v d) (h : seqOf S d = some ds) : ∃ a vs, v = .ref a ∧ (SqL X.K H a vs ∨ SqT X.K H a vs) ∧ RepL X.K w vs ds := by
  cases d with
  | tup es =>
    cases r with
    | tup h1 h2 =>
      cases h
      exact ⟨_, _, rfl, .inr (sqt_ex si.ex h1), h2⟩
  | lst es =>
    obtain ⟨a, vs, h1, h2, h3⟩ := lst_is si r h
    exact ⟨a, vs, h1, .inl h2, h3⟩
  | src es =>
    obtain ⟨a, vs, h1, h2, h3⟩ := lst_is si r h
    exact ⟨a, vs, h1, .inl h2, h3⟩
  | obj n =>
    obtain ⟨a, vs, h1, h2, h3⟩ := lst_is si r h
    exact ⟨a, vs, h1, .inl h2, h3⟩
  | _ => cases h
theorem dct_is {kvs : List (Key × D)} (si : SI X.K X.mg w S H) (r : Rep X.K w v d) (h : dctOf S d = some kvs) : ∃ a kws, v = .ref a ∧ Rd H a (.dK kws) ∧ RepK X.K w kws kvs := by
  cases d with
  | dct es =>
    cases r with
    | dct h1 h2 =>
      cases h
      exact ⟨_, _, rfl, .inr ⟨_, si.ex _ _ h1⟩, h2⟩
  | obj n =>
    cases r with
    | obj h1 =>
      unfold dctOf at h
      dsimp only at h
      cases e : S.get n with
      | none => rw [e] at h; cases h
      | some o =>
        rw [e] at h
        cases o with
        | dk es =>
          cases h
          obtain ⟨_, _, ho, h3, h4⟩ := si.st n _ e
          cases ho with
          | dK vs => exact ⟨_, vs, rfl, .inl h3, h4⟩
          | _ => exact h4.elim
        | lk es =>
          cases h
          obtain ⟨_, _, ho, h3, h4⟩ := si.st n _ e
          cases ho with
          | frz ob u =>
            cases u with
            | dK vs => exact ⟨_, vs, rfl, .inr ⟨_, h3⟩, h4⟩
            | _ => exact h4.elim
          | _ => exact h4.elim
        | _ => cases h
  | _ => cases h

/-- how a made list is kept: as data, or as a thing that may change -/
abbrev MkS (X : Cx) (mk : List D → M D) : Prop := ∀ {w : Wd} {S : MS} {H : Hp} {xs : List V} {ds : List D} {W : Value → Option Addr → Hp → Prop} {Q : VK}, SI X.K X.mg w S H → RepL X.K w xs ds → Po X.K X.mg (RV' X.K) W w S H Q (mk ds S) →
    xs.length ≤ sizeLine ∧ ∀ a, H a = none → Q (.ref a) (upd H a (.lst xs))
theorem mkL_s : MkS X mkL := new_l
theorem mkO_s : MkS X mkO := new_o
abbrev lineN : Nat := 16777216
theorem line_is : sizeLine = lineN := sizeLine_eq

/-! ### arithmetic -/
def dI (g : Int → Int → D) : D → D → M D := fun x y => match x, y with
  | .int i, .int j => ret (g i j)
  | _, _ => stuck
def dIC (c : Int → Int → Bool) (g : Int → Int → D) : D → D → M D := fun x y => match x, y with
  | .int i, .int j => if c i j = true then ret (g i j) else stuck
  | _, _ => stuck
theorem op_dI {g : Int → Int → D} {gv : Int → Int → V} (h : ∀ i j w, Rep X.K w (gv i j) (g i j)) : Op2 X (rI0 gv) (dI g) := fun w S H x y d e Q W si rx ry p => by
  cases d with
  | int i =>
    cases e with
    | int j =>
      cases rx
      cases ry
      exact ⟨i, j, rfl, rfl, p w H _ (Go.refl _ _ _) si (h i j w)⟩
    | _ => exact p.elim
  | _ => exact p.elim
theorem op_dIC {c : Int → Int → Bool} {C : Int → Int → Prop} {g : Int → Int → D} {gv : Int → Int → V} (hc : ∀ i j, c i j = true → C i j) (h : ∀ i j w, Rep X.K w (gv i j) (g i j)) : Op2 X (rI C gv) (dIC c g) := fun w S H x y d e Q W si rx ry p => by
  cases d with
  | int i =>
    cases e with
    | int j =>
      cases rx
      cases ry
      unfold dIC at p
      dsimp only at p
      by_cases q : c i j = true
      · rw [if_pos q] at p
        exact ⟨i, j, rfl, rfl, hc i j q, p w H _ (Go.refl _ _ _) si (h i j w)⟩
      · rw [if_neg q] at p
        exact p.elim
    | _ => exact p.elim
  | _ => exact p.elim
def dSub : D → D → M D := dI fun i j => .int (i - j)
def dMulC (i j : Int) : Bool := (decide (-(2 ^ 64) < i) && decide (i < 2 ^ 64)) || (decide (-(2 ^ 64) < j) && decide (j < 2 ^ 64))
def dMul : D → D → M D := dIC dMulC fun i j => .int (i * j)
def dDivC (i j : Int) : Bool := decide (0 < j) && decide (j < 1073741824)
def dDiv : D → D → M D := dIC dDivC fun i j => .int (i / j)
def dMod : D → D → M D := dIC (fun _ j => decide (0 < j)) fun i j => .int (i % j)
def dPowC (i j : Int) : Bool := decide (0 ≤ j) && decide (j ≤ 1000000) && decide (i.natAbs < 2 ^ 64)
def dPow : D → D → M D := dIC dPowC fun i j => .int (i ^ j.toNat)
def dShl : D → D → M D := dIC dPowC fun i j => .int (i * 2 ^ j.toNat)
def dShr : D → D → M D := dIC (fun _ j => decide (0 ≤ j)) fun i j => .int (i / 2 ^ j.toNat)
def dBand : D → D → M D := dI fun i j => .int (Builtin.bitAnd i j)
def dBor : D → D → M D := dI fun i j => .int (Builtin.bitOr i j)
def dBxor : D → D → M D := dI fun i j => .int (Builtin.bitXor i j)
theorem op2_sub : Op2 X (rI0 fun i j => .int (i - j)) dSub := op_dI fun _ _ _ => .int _
theorem op2_mul : Op2 X (rI CMul fun i j => .int (i * j)) dMul := op_dIC (fun i j h => by simpa [dMulC, CMul] using h) fun _ _ _ => .int _
theorem op2_div : Op2 X (rI CDiv fun i j => .int (i / j)) dDiv := op_dIC (fun i j h => by simpa [dDivC, CDiv] using h) fun _ _ _ => .int _
theorem op2_mod : Op2 X (rI (fun _ j => 0 < j) fun i j => .int (i % j)) dMod := op_dIC (fun i j h => by simpa using h) fun _ _ _ => .int _
theorem op2_pow : Op2 X (rI CPow fun i j => .int (i ^ j.toNat)) dPow := op_dIC (fun i j h => by simpa [dPowC, CPow, and_assoc] using h) fun _ _ _ => .int _
theorem op2_shl : Op2 X (rI CPow fun i j => .int (i * 2 ^ j.toNat)) dShl := op_dIC (fun i j h => by simpa [dPowC, CPow, and_assoc] using h) fun _ _ _ => .int _
theorem op2_shr : Op2 X (rI (fun _ j => 0 ≤ j) fun i j => .int (i / 2 ^ j.toNat)) dShr := op_dIC (fun i j h => by simpa using h) fun _ _ _ => .int _
theorem op2_and : Op2 X (rI0 fun i j => .int (Builtin.bitAnd i j)) dBand := op_dI fun _ _ _ => .int _
theorem op2_or : Op2 X (rI0 fun i j => .int (Builtin.bitOr i j)) dBor := op_dI fun _ _ _ => .int _
theorem op2_xor : Op2 X (rI0 fun i j => .int (Builtin.bitXor i j)) dBxor := op_dI fun _ _ _ => .int _
def dLt : D → D → M D := dI fun i j => .bl (decide (i < j))
def dLe : D → D → M D := dI fun i j => .bl (decide (i ≤ j))
def dGt : D → D → M D := dI fun i j => .bl (decide (j < i))
def dGe : D → D → M D := dI fun i j => .bl (decide (j ≤ i))
theorem op2_lt : Op2 X (rI0 fun i j => .bl (decide (i < j))) dLt := op_dI fun _ _ _ => .bl _
theorem op2_le : Op2 X (rI0 fun i j => .bl (decide (i ≤ j))) dLe := op_dI fun _ _ _ => .bl _
theorem op2_gt : Op2 X (rI0 fun i j => .bl (decide (j < i))) dGt := op_dI fun _ _ _ => .bl _
theorem op2_ge : Op2 X (rI0 fun i j => .bl (decide (j ≤ i))) dGe := op_dI fun _ _ _ => .bl _
def dNeg : D → M D := fun x => match x with
  | .int i => ret (.int (-i))
  | _ => stuck
theorem op1_neg : Op1 X (rU fun i => .int (-i)) dNeg := fun w S H x d Q W si rx p => by
  cases d with
  | int i =>
    cases rx
    exact ⟨i, rfl, p w H _ (Go.refl _ _ _) si (.int _)⟩
  | _ => exact p.elim

/-! ### + -/
def rCatR : R2 := fun x y H Q => ∃ l b xs zs, x = .ref l ∧ y = .ref b ∧ Rd H l (.lst xs) ∧ Rd H b (.lst zs) ∧ xs.length + zs.length ≤ sizeLine ∧ ∀ p, H p = none → Q (.ref p) (upd H p (.lst (xs ++ zs)))
theorem op_catR : OpR X (binaryOp .Add) rCatR := by
  intro pins s σ H x y v u Q I rx ry h
  obtain ⟨l, b, xs, zs, rfl, rfl, hH, hB, hz, q⟩ := h
  cases rx
  cases ry
  obtain ⟨z, its, n, r, e⟩ := hH.ok I.hok
  obtain ⟨z2, its2, n2, r2, e2⟩ := hB.ok I.hok
  refine PySem.P.add_list e e2 ?_ (by rw [List.size_toArray, List.size_toArray, ← r.length, ← r2.length]; exact hz)
  have ea : its.toArray ++ its2.toArray = (its ++ its2).toArray := by simp
  rw [ea]
  exact ⟨.ref _, _, I.lnew (t' := s.toks) (r.append r2) (by rw [List.length_append]; omega), rfl, q _ I.fresh⟩
def rAddA (K : PySem.W.Frag) : R2 := fun x y H Q => rI0 (fun i j => .int (i + j)) x y H Q ∨ (∃ i j, x = .str i ∧ y = .str j ∧ i.length + j.length ≤ sizeLine ∧ Q (.str (i ++ j)) H) ∨ rCatR x y H Q ∨ rCatA K x y H Q
theorem op_addA : OpR X (binaryOp .Add) (rAddA X.K) := op_add.or (op_add_str.or (op_catR.or op_catA))
def dAdd (mk : List D → M D) : D → D → M D := fun x y => match x, y with
  | .int i, .int j => ret (.int (i + j))
  | .str a, .str b => if a.length + b.length ≤ lineN then ret (.str (a ++ b)) else stuck
  | .tup xs, .tup ys => mkT (xs ++ ys)
  | x, y => fun S => match lstRd S x, lstRd S y with
    | some xs, some ys => mk (xs ++ ys) S
    | _, _ => none
end
end Mi
namespace Mi
open PySem L2
open PyProof.Rows (subscriptTail)

mutual
def toPy : D → Option PyData
  | .non => some .none
  | .bl b => some (.bool b)
  | .int i => some (.int i)
  | .str x => some (.str x)
  | .lst ds => (toPyL ds).map .list
  | .src ds => (toPyL ds).map .list
  | .tup ds => (toPyL ds).map .tuple
  | .dct _ => none
  | .obj _ => none
  | .ty _ => none
def toPyL : List D → Option (List PyData)
  | [] => some []
  | d :: ds => match toPy d, toPyL ds with
    | some p, some ps => some (p :: ps)
    | _, _ => none
end
def toPyS (S : MS) : D → Option PyData := fun d => match d with
  | .obj n => match S.get n with
    | some (.lst ds) => (toPyL ds).map .list
    | _ => none
  | d => toPy d
section
variable {K : PySem.W.Frag} {w : Wd} {H : Hp}
mutual
theorem dp_of (ex : ∀ a o, w.F a = some o → H a = some o) : ∀ {d : D} {v : V} {p : PyData}, Rep K w v d → toPy d = some p → Dp K H v p
  | .non, _, _, r, h => by
    cases r
    unfold toPy at h
    cases h
    exact .non
  | .bl b, _, _, r, h => by
    cases r
    unfold toPy at h
    cases h
    exact .bl b
  | .int b, _, _, r, h => by
    cases r
    unfold toPy at h
    cases h
    exact .int b
  | .str b, _, _, r, h => by
    cases r
    unfold toPy at h
    cases h
    exact .str b
  | .lst ds, _, _, r, h => by
    unfold toPy at h
    cases r with
    | lst h1 h2 =>
      cases e : toPyL ds with
      | none => rw [e] at h; cases h
      | some ps =>
        rw [e] at h
        cases h
        exact .lst (.inl (rd_ex ex h1)) (dp_all ex h2 e)
  | .src ds, _, _, r, h => by
    unfold toPy at h
    cases r with
    | src h1 h2 =>
      cases e : toPyL ds with
      | none => rw [e] at h; cases h
      | some ps =>
        rw [e] at h
        cases h
        exact .lst (sql_ex ex h1) (dp_all ex h2 e)
  | .tup ds, _, _, r, h => by
    unfold toPy at h
    cases r with
    | tup h1 h2 =>
      cases e : toPyL ds with
      | none => rw [e] at h; cases h
      | some ps =>
        rw [e] at h
        cases h
        exact .tup (sqt_ex ex h1) (dp_all ex h2 e)
  | .dct _, _, _, r, h => by unfold toPy at h; cases h
  | .obj _, _, _, r, h => by unfold toPy at h; cases h
  | .ty _, _, _, r, h => by unfold toPy at h; cases h
theorem dp_all (ex : ∀ a o, w.F a = some o → H a = some o) : ∀ {ds : List D} {vs : List V} {ps : List PyData}, RepL K w vs ds → toPyL ds = some ps → DpAll K H vs ps
  | [], _, _, r, h => by
    cases r
    unfold toPyL at h
    cases h
    exact .nil
  | d :: ds, _, _, r, h => by
    unfold toPyL at h
    cases r with
    | cons h1 h2 =>
      cases e : toPy d with
      | none => rw [e] at h; cases h
      | some p =>
        cases e2 : toPyL ds with
        | none => rw [e, e2] at h; cases h
        | some ps =>
          rw [e, e2] at h
          cases h
          exact .cons (dp_of ex h1 e) (dp_all ex h2 e2)
end
end
section
variable {X : Cx} {w : Wd} {S : MS} {H : Hp} {v : V} {d : D} {ds : List D}
theorem py_is {p : PyData} (si : SI X.K X.mg w S H) (r : Rep X.K w v d) (h : toPyS S d = some p) : Dp X.K H v p := by
  cases d with
  | obj n =>
    unfold toPyS at h
    dsimp only at h
    cases e : S.get n with
    | none => rw [e] at h; cases h
    | some o =>
      rw [e] at h
      cases o with
      | lst es =>
        obtain ⟨a, vs, h1, h2, h3⟩ := lstRd_is (ds := es) si r (by unfold lstRd; dsimp only; rw [e])
        subst h1
        dsimp only at h
        cases e2 : toPyL es with
        | none => rw [e2] at h; cases h
        | some ps =>
          rw [e2] at h
          cases h
          exact .lst (.inl h2) (dp_all si.ex h3 e2)
      | _ => cases h
  | _ => exact dp_of si.ex r h
/-- numbers, texts: at once; else as data -/
def dEqB (S : MS) : D → D → Option Bool := fun x y => match x, y with
  | .int i, .int j => some (decide (i = j))
  | .str i, .str j => some (decide (i = j))
  | .bl i, .bl j => some (decide (i = j))
  | x, y => match toPyS S x, toPyS S y with
    | some p, some q => if (SeqAt.shaped p && SeqAt.shaped q) = true then some (PyData.eqv p q) else none
    | _, _ => none
def dEq : D → D → M D := fun x y S => match dEqB S x y with
  | some b => some (.ok (.bl b) S)
  | none => none
def dNe : D → D → M D := fun x y S => match dEqB S x y with
  | some b => some (.ok (.bl (!b)) S)
  | none => none
def rEqA (K : PySem.W.Frag) : R2 := fun x y H Q => rEq x y H Q ∨ rEqD K x y H Q
def rNeA (K : PySem.W.Frag) : R2 := fun x y H Q => rNe x y H Q ∨ rNeD K x y H Q
theorem op_eqA (hu : X.A.units + 64 < cLine) : OpR X (compareOp .Eq) (rEqA X.K) := op_eq.or (op_eqD hu)
theorem op_neA (hu : X.A.units + 64 < cLine) : OpR X (compareOp .NotEq) (rNeA X.K) := op_ne.or (op_neD hu)
theorem eqB_cases {x y : V} {e f : D} {b : Bool} (si : SI X.K X.mg w S H) (rx : Rep X.K w x e) (ry : Rep X.K w y f) (h : dEqB S e f = some b) :
    (scal x y = true ∧ decide (x = y) = b) ∨ ∃ p q, Dp X.K H x p ∧ Dp X.K H y q ∧ SeqAt.shaped p = true ∧ SeqAt.shaped q = true ∧ PyData.eqv p q = b := by
  have gen : (match toPyS S e, toPyS S f with
    | some p, some q => if (SeqAt.shaped p && SeqAt.shaped q) = true then some (PyData.eqv p q) else none
    | _, _ => none) = some b → ∃ p q, Dp X.K H x p ∧ Dp X.K H y q ∧ SeqAt.shaped p = true ∧ SeqAt.shaped q = true ∧ PyData.eqv p q = b := fun h => by
    split at h
    · rename_i p q h1 h2
      split at h
      · rename_i hs
        cases h
        rw [Bool.and_eq_true] at hs
        exact ⟨p, q, py_is si rx h1, py_is si ry h2, hs.1, hs.2, rfl⟩
      · cases h
    · cases h
  unfold dEqB at h
  split at h
  · cases rx
    cases ry
    cases h
    exact .inl ⟨rfl, by simp⟩
  · cases rx
    cases ry
    cases h
    exact .inl ⟨rfl, by simp⟩
  · cases rx
    cases ry
    cases h
    exact .inl ⟨rfl, by simp⟩
  · exact .inr (gen h)
theorem op2_eq : Op2 X (rEqA X.K) dEq := fun w S H x y d e Q W si rx ry p => by
  unfold dEq at p
  cases h : dEqB S d e with
  | none => rw [h] at p; exact p.elim
  | some b =>
    rw [h] at p
    have q := p w H (.bl b) (Go.refl _ _ _) si (.bl b)
    rcases eqB_cases si rx ry h with ⟨h1, h2⟩ | ⟨p1, q1, h1, h2, h3, h4, h5⟩
    · exact .inl ⟨h1, by rw [h2]; exact q⟩
    · exact .inr ⟨p1, q1, h1, h2, h3, h4, by rw [h5]; exact q⟩
theorem op2_ne : Op2 X (rNeA X.K) dNe := fun w S H x y d e Q W si rx ry p => by
  unfold dNe at p
  cases h : dEqB S d e with
  | none => rw [h] at p; exact p.elim
  | some b =>
    rw [h] at p
    have q := p w H (.bl (!b)) (Go.refl _ _ _) si (.bl _)
    rcases eqB_cases si rx ry h with ⟨h1, h2⟩ | ⟨p1, q1, h1, h2, h3, h4, h5⟩
    · exact .inl ⟨h1, by rw [h2]; exact q⟩
    · exact .inr ⟨p1, q1, h1, h2, h3, h4, by rw [h5]; exact q⟩
/-! ### is -/
def isNon : D → Bool
  | .non => true
  | _ => false
def dIsN : D → D → M D := fun x y => match y with
  | .non => ret (.bl (isNon x))
  | .bl b => match x with
    | .bl a => ret (.bl (decide (a = b)))
    | _ => stuck
  | _ => stuck
def dIsNotN : D → D → M D := fun x y => match y with
  | .non => ret (.bl (!isNon x))
  | .bl b => match x with
    | .bl a => ret (.bl (!decide (a = b)))
    | _ => stuck
  | _ => stuck
def rIsA : R2 := fun x y H Q => (y = .non ∧ Q (.bl (decide (x = .non))) H) ∨ rIsB x y H Q
def rIsNotA : R2 := fun x y H Q => (y = .non ∧ Q (.bl (!decide (x = .non))) H) ∨ rNotB x y H Q
theorem op_isA : OpR X (compareOp .Is) rIsA := op_isN.or op_isBl
theorem op_isNotA : OpR X (compareOp .IsNot) rIsNotA := op_notN.or op_notBl
theorem non_is {x : V} {e : D} (r : Rep X.K w x e) : decide (x = .non) = isNon e := by
  cases r <;> simp [isNon]
theorem op2_is : Op2 X rIsA dIsN := fun w S H x y d e Q W si rx ry p => by
  cases e with
  | non =>
    cases ry
    refine .inl ⟨rfl, ?_⟩
    rw [non_is rx]
    exact p w H _ (Go.refl _ _ _) si (.bl _)
  | bl b =>
    cases ry
    cases d with
    | bl a =>
      cases rx
      exact .inr ⟨a, b, rfl, rfl, p w H _ (Go.refl _ _ _) si (.bl _)⟩
    | _ => exact p.elim
  | _ => exact p.elim
theorem op2_isnot : Op2 X rIsNotA dIsNotN := fun w S H x y d e Q W si rx ry p => by
  cases e with
  | non =>
    cases ry
    refine .inl ⟨rfl, ?_⟩
    rw [non_is rx]
    exact p w H _ (Go.refl _ _ _) si (.bl _)
  | bl b =>
    cases ry
    cases d with
    | bl a =>
      cases rx
      exact .inr ⟨a, b, rfl, rfl, p w H _ (Go.refl _ _ _) si (.bl _)⟩
    | _ => exact p.elim
  | _ => exact p.elim
/-! ### + -/
theorem op2_add {mk : List D → M D} (hk : MkS X mk) : Op2 X (rAddA X.K) (dAdd mk) := fun w S H x y d e Q W si rx ry p => by
  unfold dAdd at p
  split at p
  · cases rx
    cases ry
    exact .inl ⟨_, _, rfl, rfl, p w H _ (Go.refl _ _ _) si (.int _)⟩
  · cases rx
    cases ry
    split at p
    · rename_i hz
      exact .inr (.inl ⟨_, _, rfl, rfl, by rw [line_is]; exact hz, p w H _ (Go.refl _ _ _) si (.str _)⟩)
    · exact p.elim
  · rename_i xs ys
    cases rx with
    | tup h1 h2 =>
      cases ry with
      | tup h3 h4 =>
        obtain ⟨hz, hq⟩ := new_t si (h2.append h4) p
        unfold mkT at p
        split at p
        · rename_i hz'
          refine .inr (.inr (.inr ⟨_, _, _, _, rfl, rfl, sqt_ex si.ex h1, sqt_ex si.ex h3, by rw [← List.length_append]; exact hz, fun e => ?_, fun e1 e2 => ?_, fun _ _ => hq⟩))
          · subst e
            cases h2
            exact p w H _ (Go.refl _ _ _) si (.tup h3 (by simpa using h4))
          · subst e2
            cases h4
            exact p w H _ (Go.refl _ _ _) si (.tup h1 (by simpa using h2))
        · exact p.elim
  · dsimp only at p
    cases e1 : lstRd S d with
    | none => rw [e1] at p; exact p.elim
    | some xs =>
      cases e2 : lstRd S e with
      | none => rw [e1, e2] at p; exact p.elim
      | some ys =>
        rw [e1, e2] at p
        obtain ⟨a, vs, rfl, h1, h2⟩ := lstRd_is si rx e1
        obtain ⟨b, us, rfl, h3, h4⟩ := lstRd_is si ry e2
        obtain ⟨hz, hq⟩ := hk si (h2.append h4) p
        exact .inr (.inr (.inl ⟨_, _, _, _, rfl, rfl, h1, h3, by rw [← List.length_append]; exact hz, hq⟩))
/-! ### [x] * n -/
def dRep (mk : List D → M D) : D → D → M D := fun x y S => match lstRd S x, y with
  | some xs, .int k => if (decide (-(2 ^ 63) ≤ k) && decide (k < 2 ^ 63)) = true then mk (List.replicate k.toNat xs).flatten S else none
  | _, _ => none
/-! ### dicts -/
def toKey : D → Option Key
  | .int i => some (.inl i)
  | .str x => some (.inr x)
  | _ => none
theorem key_is {x : V} {e : D} {k : Key} (r : Rep X.K w x e) (h : toKey e = some k) : x = kV k := by
  cases e <;> first | (cases h; done) | (cases r; cases h; rfl)
def dLook (kvs : List (Key × D)) (k : Key) : Option D := (kvs.find? fun kv => decide (kv.1 = k)).map (·.2)
def dPutK (kvs : List (Key × D)) (k : Key) (d : D) : List (Key × D) := if (kvs.any fun kv => decide (kv.1 = k)) = true then kvs.map fun kv => if kv.1 = k then (kv.1, d) else kv else kvs ++ [(k, d)]
def dDropK (kvs : List (Key × D)) (k : Key) : List (Key × D) := kvs.filter fun kv => decide (kv.1 ≠ k)
theorem look_is {k : Key} : ∀ {kws : List (Key × V)} {kvs : List (Key × D)}, RepK X.K w kws kvs → match dLook kvs k with
    | none => valV kws k = none
    | some d => ∃ v, valV kws k = some v ∧ Rep X.K w v d
  | _, [], h => by
    cases h
    rfl
  | _, (k', d) :: kvs, h => by
    cases h with
    | @cons _ v vs _ _ h1 h2 =>
      by_cases e : k' = k
      · have e1 : dLook ((k', d) :: kvs) k = some d := by simp [dLook, e]
        rw [e1]
        exact ⟨v, valV_pos e, h1⟩
      · have e1 : dLook ((k', d) :: kvs) k = dLook kvs k := by simp [dLook, e]
        rw [e1]
        have ih := look_is (k := k) h2
        cases q : dLook kvs k with
        | none =>
          rw [q] at ih
          exact (valV_neg e).trans ih
        | some d' =>
          rw [q] at ih
          obtain ⟨v', a, b⟩ := ih
          exact ⟨v', (valV_neg e).trans a, b⟩
theorem look_some {k : Key} {kws : List (Key × V)} {kvs : List (Key × D)} {d : D} (r : RepK X.K w kws kvs) (h : dLook kvs k = some d) : ∃ v, valV kws k = some v ∧ Rep X.K w v d := by
  have z := look_is (k := k) r
  rw [h] at z
  exact z
theorem look_none {k : Key} {kws : List (Key × V)} {kvs : List (Key × D)} (r : RepK X.K w kws kvs) (h : dLook kvs k = none) : valV kws k = none := by
  have z := look_is (k := k) r
  rw [h] at z
  exact z
theorem look_isSome {k : Key} {kws : List (Key × V)} {kvs : List (Key × D)} (r : RepK X.K w kws kvs) : (valV kws k).isSome = (dLook kvs k).isSome := by
  cases h : dLook kvs k with
  | none => rw [look_none r h]; rfl
  | some d =>
    obtain ⟨v, e, _⟩ := look_some r h
    rw [e]; rfl
theorem RepK.any (f : Key → Bool) : ∀ {kws : List (Key × V)} {kvs : List (Key × D)}, RepK X.K w kws kvs → (kws.any fun kv => f kv.1) = kvs.any fun kv => f kv.1
  | _, [], h => by cases h; rfl
  | _, (k', d) :: kvs, h => by
    cases h with
    | cons h1 h2 => simp [RepK.any f h2]
theorem RepK.mapAt (k : Key) {v : V} {d : D} (r : Rep X.K w v d) : ∀ {kws : List (Key × V)} {kvs : List (Key × D)}, RepK X.K w kws kvs → RepK X.K w (kws.map fun kv => if kv.1 = k then (kv.1, v) else kv) (kvs.map fun kv => if kv.1 = k then (kv.1, d) else kv)
  | _, [], h => by cases h; exact .nil
  | _, (k', d') :: kvs, h => by
    cases h with
    | cons h1 h2 =>
      rw [List.map_cons, List.map_cons]
      by_cases e : k' = k
      · rw [if_pos e, if_pos e]
        exact .cons r (RepK.mapAt k r h2)
      · rw [if_neg e, if_neg e]
        exact .cons h1 (RepK.mapAt k r h2)
theorem RepK.append : ∀ {kws kws' : List (Key × V)} {kvs kvs' : List (Key × D)}, RepK X.K w kws kvs → RepK X.K w kws' kvs' → RepK X.K w (kws ++ kws') (kvs ++ kvs')
  | _, _, [], _, h, g => by cases h; exact g
  | _, _, (k', d') :: kvs, _, h, g => by
    cases h with
    | cons h1 h2 => exact .cons h1 (RepK.append h2 g)
theorem RepK.put (k : Key) {v : V} {d : D} (r : Rep X.K w v d) {kws : List (Key × V)} {kvs : List (Key × D)} (h : RepK X.K w kws kvs) : RepK X.K w (putK kws k v) (dPutK kvs k d) := by
  unfold putK dPutK
  rw [RepK.any (fun k' => decide (k' = k)) h]
  split
  · exact h.mapAt k r
  · exact h.append (.cons r .nil)
theorem RepK.drop (k : Key) : ∀ {kws : List (Key × V)} {kvs : List (Key × D)}, RepK X.K w kws kvs → RepK X.K w (dropK kws k) (dDropK kvs k)
  | _, [], h => by cases h; exact .nil
  | _, (k', d') :: kvs, h => by
    cases h with
    | @cons _ v vs _ _ h1 h2 =>
      unfold dropK dDropK
      by_cases e : k' = k
      · rw [List.filter_cons_of_neg (by simpa using e), List.filter_cons_of_neg (by simpa using e)]
        exact RepK.drop k h2
      · rw [List.filter_cons_of_pos (by simpa using e), List.filter_cons_of_pos (by simpa using e)]
        exact .cons h1 (RepK.drop k h2)
theorem RepK.length : ∀ {kws : List (Key × V)} {kvs : List (Key × D)}, RepK X.K w kws kvs → kws.length = kvs.length
  | _, [], h => by cases h; rfl
  | _, (k', d') :: kvs, h => by
    cases h with
    | cons h1 h2 => simp [RepK.length h2]
theorem RepK.keys : ∀ {kws : List (Key × V)} {kvs : List (Key × D)}, RepK X.K w kws kvs → kws.map (·.1) = kvs.map (·.1)
  | _, [], h => by cases h; rfl
  | _, (k', d') :: kvs, h => by
    cases h with
    | cons h1 h2 => simp [RepK.keys h2]
/-! ### in -/
def flatD : D → Bool
  | .non | .bl _ | .int _ | .str _ => true
  | _ => false
def eqD0 : D → D → Bool
  | .non, .non => true
  | .bl a, .bl b => a == b
  | .bl a, .int b => (if a then 1 else 0) == b
  | .int a, .bl b => a == (if b then 1 else 0)
  | .int a, .int b => a == b
  | .str a, .str b => a == b
  | _, _ => false
theorem flat_is {x : V} {e : D} (r : Rep X.K w x e) : flatV x = flatD e := by cases r <;> rfl
theorem eqV_is {x y : V} {e f : D} (r : Rep X.K w x e) (s : Rep X.K w y f) : eqV x y = eqD0 e f := by cases r <;> cases s <;> rfl
theorem flats_is : ∀ {vs : List V} {ds : List D}, RepL X.K w vs ds → vs.all flatV = ds.all flatD
  | _, [], h => by cases h; rfl
  | _, d :: ds, h => by
    cases h with
    | cons h1 h2 => simp [flat_is h1, flats_is h2]
theorem inV_is {x : V} {e : D} (r : Rep X.K w x e) : ∀ {vs : List V} {ds : List D}, RepL X.K w vs ds → inV x vs = ds.any fun y => eqD0 y e
  | _, [], h => by cases h; rfl
  | _, d :: ds, h => by
    cases h with
    | cons h1 h2 =>
      have ih := inV_is r h2
      unfold inV at ih ⊢
      simp [eqV_is h1 r, ih]
/-- is x in y -/
def dInB (S : MS) : D → D → Option Bool := fun x y => match dctOf S y with
  | some kvs => match toKey x with
    | some k => some (dLook kvs k).isSome
    | none => none
  | none => match seqOf S y with
    | none => none
    | some ds => if (flatD x && ds.all flatD) = true then some (ds.any fun z => eqD0 z x)
      else match y with
        | .tup _ => none
        | _ => match toPyS S x, toPyL ds with
          | some p, some ps => if (SeqAt.shaped p && SeqAt.shaped (.list ps)) = true then some (ps.any fun z => PyData.eqv z p) else none
          | _, _ => none
def dIn : D → D → M D := fun x y S => match dInB S x y with
  | some b => some (.ok (.bl b) S)
  | none => none
def dNotIn : D → D → M D := fun x y S => match dInB S x y with
  | some b => some (.ok (.bl (!b)) S)
  | none => none
def rDctIn (neg : Bool) : R2 := fun x y H Q => ∃ a o, y = .ref a ∧ DGet H a x o ∧ Q (.bl (if neg then !o.isSome else o.isSome)) H
theorem op_dctIn (hu : X.A.units + 64 < cLine) : OpR X (compareOp .In) (rDctIn false) := by
  intro pins s σ H x y v u Q I rx ry h
  obtain ⟨a, o, rfl, g, q⟩ := h
  cases ry
  exact d_in (by omega) I g rx fun s' I' => ⟨.bl _, H, I', rfl, q⟩
theorem op_dctNotIn (hu : X.A.units + 64 < cLine) : OpR X (compareOp .NotIn) (rDctIn true) := by
  intro pins s σ H x y v u Q I rx ry h
  obtain ⟨a, o, rfl, g, q⟩ := h
  cases ry
  exact d_notIn (by omega) I g rx fun s' I' => ⟨.bl _, H, I', rfl, q⟩
def rInA (K : PySem.W.Frag) : R2 := fun x y H Q => rDctIn false x y H Q ∨ rIn K false x y H Q ∨ rInD K x y H Q
def rNotInA (K : PySem.W.Frag) : R2 := fun x y H Q => rDctIn true x y H Q ∨ rIn K true x y H Q ∨ rNotInD K x y H Q
theorem op_inA (hu : X.A.units + 65 < cLine) : OpR X (compareOp .In) (rInA X.K) := (op_dctIn (by omega)).or (op_in_seq.or (op_inD hu))
theorem op_notInA (hu : X.A.units + 65 < cLine) : OpR X (compareOp .NotIn) (rNotInA X.K) := (op_dctNotIn (by omega)).or (op_notIn_seq.or (op_notInD hu))
theorem inB_cases {x y : V} {e f : D} {b : Bool} (si : SI X.K X.mg w S H) (rx : Rep X.K w x e) (ry : Rep X.K w y f) (h : dInB S e f = some b) :
    (∃ a o, y = .ref a ∧ DGet H a x o ∧ o.isSome = b) ∨ (∃ p xs, y = .ref p ∧ (SqL X.K H p xs ∨ SqT X.K H p xs) ∧ flatV x = true ∧ xs.all flatV = true ∧ inV x xs = b) ∨
      ∃ d ds, Dp X.K H x d ∧ Dp X.K H y (.list ds) ∧ SeqAt.shaped d = true ∧ SeqAt.shaped (.list ds) = true ∧ (ds.any fun z => PyData.eqv z d) = b := by
  unfold dInB at h
  cases e1 : dctOf S f with
  | some kvs =>
    rw [e1] at h
    dsimp only at h
    obtain ⟨a, kws, rfl, h1, h2⟩ := dct_is si ry e1
    cases e2 : toKey e with
    | none => rw [e2] at h; cases h
    | some k =>
      rw [e2] at h
      cases h
      obtain rfl := key_is rx e2
      exact .inl ⟨a, _, rfl, .inl ⟨_, _, h1, rfl, rfl⟩, look_isSome h2⟩
  | none =>
    rw [e1] at h
    dsimp only at h
    cases e2 : seqOf S f with
    | none => rw [e2] at h; cases h
    | some ds =>
      rw [e2] at h
      dsimp only at h
      obtain ⟨a, vs, rfl, h1, h2⟩ := seq_is si ry e2
      by_cases hf : (flatD e && ds.all flatD) = true
      · rw [if_pos hf] at h
        cases h
        rw [Bool.and_eq_true] at hf
        exact .inr (.inl ⟨a, vs, rfl, h1, by rw [flat_is rx]; exact hf.1, by rw [flats_is h2]; exact hf.2, inV_is rx h2⟩)
      · rw [if_neg hf] at h
        have fin : (∃ a' vs', V.ref a = .ref a' ∧ SqL X.K H a' vs' ∧ RepL X.K w vs' ds) → (match toPyS S e, toPyL ds with
          | some p, some ps => if (SeqAt.shaped p && SeqAt.shaped (.list ps)) = true then some (ps.any fun z => PyData.eqv z p) else none
          | _, _ => none) = some b → ∃ d ds, Dp X.K H x d ∧ Dp X.K H (.ref a) (.list ds) ∧ SeqAt.shaped d = true ∧ SeqAt.shaped (.list ds) = true ∧ (ds.any fun z => PyData.eqv z d) = b := fun ⟨a', vs', ea, h3, h4⟩ h => by
          split at h
          · rename_i p ps g1 g2
            split at h
            · rename_i hs
              cases h
              rw [Bool.and_eq_true] at hs
              cases ea
              exact ⟨p, ps, py_is si rx g1, .lst h3 (dp_all si.ex h4 g2), hs.1, hs.2, rfl⟩
            · cases h
          · cases h
        cases f with
        | tup _ => cases h
        | lst _ => exact .inr (.inr (fin (lst_is si ry e2) h))
        | src _ => exact .inr (.inr (fin (lst_is si ry e2) h))
        | obj _ => exact .inr (.inr (fin (lst_is si ry e2) h))
        | _ => cases e2
theorem op2_in : Op2 X (rInA X.K) dIn := fun w S H x y d e Q W si rx ry p => by
  unfold dIn at p
  cases h : dInB S d e with
  | none => rw [h] at p; exact p.elim
  | some b =>
    rw [h] at p
    have q := p w H (.bl b) (Go.refl _ _ _) si (.bl b)
    rcases inB_cases si rx ry h with ⟨a, o, h1, h2, rfl⟩ | ⟨a, xs, h1, h2, h3, h4, rfl⟩ | ⟨d, ds, h1, h2, h3, h4, rfl⟩
    · exact .inl ⟨a, o, h1, h2, q⟩
    · exact .inr (.inl ⟨a, xs, h1, h2, h3, h4, q⟩)
    · exact .inr (.inr ⟨d, ds, h1, h2, h3, h4, q⟩)
theorem op2_notin : Op2 X (rNotInA X.K) dNotIn := fun w S H x y d e Q W si rx ry p => by
  unfold dNotIn at p
  cases h : dInB S d e with
  | none => rw [h] at p; exact p.elim
  | some b =>
    rw [h] at p
    have q := p w H (.bl (!b)) (Go.refl _ _ _) si (.bl _)
    rcases inB_cases si rx ry h with ⟨a, o, h1, h2, rfl⟩ | ⟨a, xs, h1, h2, h3, h4, rfl⟩ | ⟨d, ds, h1, h2, h3, h4, rfl⟩
    · exact .inl ⟨a, o, h1, h2, q⟩
    · exact .inr (.inl ⟨a, xs, h1, h2, h3, h4, q⟩)
    · exact .inr (.inr ⟨d, ds, h1, h2, h3, h4, q⟩)
/-! ### x[i] -/
def dIx : D → D → M D := fun x y S => match dctOf S x with
  | some kvs => match toKey y with
    | some k => match dLook kvs k with
      | some d => some (.ok d S)
      | none => none
    | none => none
  | none => match y with
    | .int i => match seqOf S x with
      | some ds => match atI ds i with
        | some d => some (.ok d S)
        | none => none
      | none => match x with
        | .str z => if z.length ≤ lineN then match atI z.cps.toList i with
          | some c => some (.ok (.str ⟨#[c]⟩) S)
          | none => none
          else none
        | _ => none
    | _ => none
def rDctGet : R2 := fun x y H Q => ∃ a v, x = .ref a ∧ DGet H a y (some v) ∧ Q v H
theorem ix_dct (hu : X.A.units + 64 < cLine) : IxR X rDctGet := by
  intro value slice pins s σ H x y v u Q I rx ry h hs
  obtain ⟨a, d, rfl, g, q⟩ := h
  cases rx
  have hT := dict_typeIs I g
  unfold subscriptTail
  refine wpAny_bind ?_
  rw [getitemInPython_of_ne hT.not_modules]
  refine wpAny_bind (wpAny_specialOf hT PySem.F.slot_dict_getitem.lookup ?_)
  have fin : wpAny (model X.prog X.w) X.A (subscripted slice false (.ref a) u) (fun r s₃ => wpAny (model X.prog X.w) X.A (letTemporaryGo value (.ref a) r >>= fun _ => pure r) (EP X pins σ Q) X.xe s₃) X.xe s := by
    rw [hs]
    exact wpAny_operating (d_getItem (by omega) I g ry fun w' s' I' r' => wpAny_bind (wpAny_letTemporaryGo (wpAny_pure ⟨d, H, I', r', q⟩)))
  first
    | exact wpAny_pure (wpAny_bind fin)
    | exact wpAny_bind (wpAny_pure (wpAny_bind fin))
    | exact wpAny_bind fin
def rIxA (K : PySem.W.Frag) : R2 := fun x y H Q => rDctGet x y H Q ∨ rIx K x y H Q
theorem ix_A (hu : X.A.units + 64 < cLine) : IxR X (rIxA X.K) := (ix_dct hu).or ix_seq
theorem atI_rep {vs : List V} {ds : List D} {i : Int} {d : D} (r : RepL X.K w vs ds) (h : atI ds i = some d) : ∃ v, atI vs i = some v ∧ Rep X.K w v d := by
  unfold atI at h ⊢
  rw [r.length]
  cases e : ixN ds.length i with
  | none => rw [e] at h; cases h
  | some j =>
    rw [e] at h
    exact r.get h
theorem op2_ix : Op2 X (rIxA X.K) dIx := fun w S H x y d e Q W si rx ry p => by
  unfold dIx at p
  cases e1 : dctOf S d with
  | some kvs =>
    rw [e1] at p
    dsimp only at p
    obtain ⟨a, kws, rfl, h1, h2⟩ := dct_is si rx e1
    cases e2 : toKey e with
    | none => rw [e2] at p; exact p.elim
    | some k =>
      rw [e2] at p
      dsimp only at p
      obtain rfl := key_is ry e2
      cases e3 : dLook kvs k with
      | none => rw [e3] at p; exact p.elim
      | some z =>
        rw [e3] at p
        obtain ⟨u, h3, h4⟩ := look_some h2 e3
        exact .inl ⟨a, u, rfl, .inl ⟨_, _, h1, rfl, h3.symm⟩, p w H u (Go.refl _ _ _) si h4⟩
  | none =>
    rw [e1] at p
    dsimp only at p
    cases e with
    | int i =>
      cases ry
      dsimp only at p
      cases e2 : seqOf S d with
      | some ds =>
        rw [e2] at p
        dsimp only at p
        obtain ⟨a, vs, rfl, h1, h2⟩ := seq_is si rx e2
        cases e3 : atI ds i with
        | none => rw [e3] at p; exact p.elim
        | some z =>
          rw [e3] at p
          obtain ⟨u, h3, h4⟩ := atI_rep h2 e3
          have q := p w H u (Go.refl _ _ _) si h4
          rcases h1 with h1 | h1
          · exact .inr (.inl ⟨a, vs, i, u, rfl, rfl, h1, h3, q⟩)
          · exact .inr (.inr (.inl ⟨a, vs, i, u, rfl, rfl, h1, h3, q⟩))
      | none =>
        rw [e2] at p
        dsimp only at p
        cases d with
        | str z =>
          cases rx
          dsimp only at p
          split at p
          · rename_i hz
            cases e3 : atI z.cps.toList i with
            | none => rw [e3] at p; exact p.elim
            | some c =>
              rw [e3] at p
              exact .inr (.inr (.inr ⟨z, i, c, rfl, rfl, by rw [line_is]; exact hz, e3, p w H _ (Go.refl _ _ _) si (.str _)⟩))
          · exact p.elim
        | _ => exact p.elim
    | _ => exact p.elim
variable {C : Cy X} {a b : Expr} {pos : Pos} {ma mb : ME}
theorem j_ix (hu : X.A.units + 64 < cLine) (ha : JE X C a ma) (hb : JE X C b mb) (hs : PlainIx b) : JE X C (.Subscript a b pos) (mOp dIx ma mb) := PE.weak (pe_ix (ix_A hu) ha hb hs) fun _ _ _ h => op2_go op2_ix h
end
end Mi
namespace Mi
open PySem L2

/-! ### slices -/
abbrev MO' := En → M (Option Int)
section
variable {X : Cx}
abbrev RO : Wd → MS → Hp → Option Int → Option Int → Prop := fun _ _ _ a b => a = b
def tO (C : Cy X) (m : MO') : TO := fun σ H Q => ∃ w S env, Me X C w S env σ H ∧ Po X.K X.mg RO (fun c d H => C.W c d σ H) w S H Q (m env S)
end
def JO (X : Cx) (C : Cy X) (e : Option Expr) (m : MO') : Prop := PO X e (tO C m)
section
variable {X : Cx} {C : Cy X} {w : Wd} {S : MS} {H : Hp}
theorem PO.weak {e : Option Expr} {t t' : TO} (h : PO X e t) (k : ∀ σ H Q, t' σ H Q → t σ H Q) : PO X e t' := ⟨fun pins s σ H Q I q => h.run pins s σ H Q I (k σ H Q q)⟩
def oNone : MO' := fun _ => ret none
def oSome (m : ME) : MO' := fun env => bnd (m env) fun d => match d with
  | .int i => ret (some i)
  | _ => stuck
theorem jo_none : JO X C none oNone := PO.weak po_none fun σ H Q ⟨w, S, env, me, p⟩ => p w H none (Go.refl _ _ _) me.si rfl
theorem jo_some {e : Expr} {m : ME} (h : JE X C e m) : JO X C (some e) (oSome m) := PO.weak (po_some h) fun σ H Q ⟨w, S, env, me, p⟩ => by
  refine ⟨w, S, env, me, po_bnd me p fun w1 S1 H1 v d me1 rv g1 p1 => ?_⟩
  cases d with
  | int i =>
    cases rv
    exact ⟨i, rfl, p1 w1 H1 _ (Go.refl _ _ _) me1.si rfl⟩
  | _ => exact p1.elim
def cutD (ds : List D) (lo hi : Option Int) : List D := (ds.drop (HT.sIx ds.length 0 lo)).take (HT.sIx ds.length ds.length hi - HT.sIx ds.length 0 lo)
theorem cut_rep {vs : List V} {ds : List D} (r : RepL X.K w vs ds) (lo hi : Option Int) : RepL X.K w (cutV vs lo hi) (cutD ds lo hi) := by
  unfold cutV cutD
  rw [r.length]
  exact (r.drop _).take _
def dSl (mk : List D → M D) (d : D) (lo hi : Option Int) : M D := fun S => match d with
  | .tup ds => mkT (cutD ds lo hi) S
  | .str z => if z.length ≤ lineN then some (.ok (.str (cutS z lo hi)) S) else none
  | d => match lstOf S d with
    | some ds => mk (cutD ds lo hi) S
    | none => none
def rSlAll (K : PySem.W.Frag) : V → Option Int → Option Int → Hp → VK → Prop := fun x lo hi H Q => rSlL K x lo hi H Q ∨ rSlA K x lo hi H Q ∨ rSlS x lo hi H Q
theorem sl_all : SlR X (rSlAll X.K) := sl_list.or (sl_tupA.or sl_str)
theorem sl_go {mk : List D → M D} (hk : MkS X mk) {x : V} {d : D} {lo hi : Option Int} {Q : VK} {W : Value → Option Addr → Hp → Prop} (si : SI X.K X.mg w S H) (rx : Rep X.K w x d) (p : Po X.K X.mg (RV' X.K) W w S H Q (dSl mk d lo hi S)) : rSlAll X.K x lo hi H Q := by
  unfold dSl at p
  cases d with
  | tup ds =>
    cases rx with
    | @tup a vs _ h1 h2 =>
      obtain ⟨hz, hq⟩ := new_t si (cut_rep h2 lo hi) p
      refine .inr (.inl ⟨a, vs, rfl, sqt_ex si.ex h1, fun he => ?_, fun _ => hq⟩)
      unfold mkT at p
      dsimp only at p
      split at p
      · have e : cutD ds lo hi = ds := by
          unfold cutD
          rw [h2.length] at he
          rw [he.1, he.2, List.drop_zero, Nat.sub_zero, List.take_length]
        exact p w H _ (Go.refl _ _ _) si (.tup h1 (by rw [e]; exact h2))
      · exact p.elim
  | str z =>
    cases rx
    dsimp only at p
    split at p
    · rename_i hz
      exact .inr (.inr ⟨z, rfl, by rw [line_is]; exact hz, p w H _ (Go.refl _ _ _) si (.str _)⟩)
    · exact p.elim
  | lst es =>
    dsimp only at p
    obtain ⟨a, vs, rfl, h1, h2⟩ := lst_is si rx (ds := es) rfl
    obtain ⟨hz, hq⟩ := hk si (cut_rep h2 lo hi) p
    exact .inl ⟨a, vs, rfl, h1, hq⟩
  | src es =>
    dsimp only at p
    obtain ⟨a, vs, rfl, h1, h2⟩ := lst_is si rx (ds := es) rfl
    obtain ⟨hz, hq⟩ := hk si (cut_rep h2 lo hi) p
    exact .inl ⟨a, vs, rfl, h1, hq⟩
  | obj n =>
    dsimp only at p
    cases e : lstOf S (.obj n) with
    | none => rw [e] at p; exact p.elim
    | some ds =>
      rw [e] at p
      obtain ⟨a, vs, rfl, h1, h2⟩ := lst_is si rx e
      obtain ⟨hz, hq⟩ := hk si (cut_rep h2 lo hi) p
      exact .inl ⟨a, vs, rfl, h1, hq⟩
  | _ => exact p.elim
def mSl (mk : List D → M D) (m : ME) (lo hi : MO') : ME := fun env => bnd (m env) fun d => bnd (lo env) fun l => bnd (hi env) fun h => dSl mk d l h
variable {e : Expr} {lo hi : Option Expr} {p2 pos : Pos} {m : ME} {ml mh : MO'}
theorem j_slice {mk : List D → M D} (hk : MkS X mk) (he : JE X C e m) (hl : JO X C lo ml) (hu : JO X C hi mh) : JE X C (.Subscript e (.Slice lo hi none p2) pos) (mSl mk m ml mh) := PE.weak (pe_slice sl_all he hl hu) fun σ H Q ⟨w, S, env, me, p⟩ => by
  refine ⟨w, S, env, me, po_bnd me p fun w1 S1 H1 v d me1 rv g1 p1 => ?_⟩
  refine ⟨w1, S1, env, me1, po_bnd me1 p1 fun w2 S2 H2 l l' me2 rl g2 p2 => ?_⟩
  refine ⟨w2, S2, env, me2, po_bnd me2 p2 fun w3 S3 H3 h h' me3 rh g3 p3 => ?_⟩
  cases (show l = l' from rl)
  cases (show h = h' from rh)
  exact sl_go hk me3.si (rv.le (g2.le.trans g3.le)) p3
/-- x[::-1] -/
def dRev (mk : List D → M D) (d : D) : M D := fun S => match lstOf S d with
  | some ds => mk ds.reverse S
  | none => none
theorem j_rev {mk : List D → M D} (hk : MkS X mk) {k : Nat} {p1 p3 : Pos} (he : JE X C e m) : JE X C (.Subscript e (.Slice none none (some (.UnaryOp .USub (.Constant (.int 1) k p1) p2)) p3) pos) (mOp1 (dRev mk) m) := PE.weak (pe_revL he) fun σ H Q ⟨w, S, env, me, p⟩ => by
  refine ⟨w, S, env, me, po_bnd me p fun w1 S1 H1 v d me1 rv g1 p1 => ?_⟩
  unfold dRev at p1
  cases e : lstOf S1 d with
  | none => rw [e] at p1; exact p1.elim
  | some ds =>
    rw [e] at p1
    obtain ⟨a, vs, rfl, h1, h2⟩ := lst_is me1.si rv e
    obtain ⟨hz, hq⟩ := hk me1.si h2.reverse p1
    exact ⟨a, vs, rfl, h1, hq⟩

/-! ### built-in functions -/
def mFn (f : List D → M D) (a : MA) : ME := fun env => bnd (a env) f
theorem fn_go {r : List V → Hp → VK → Prop} {f : List D → M D} {ms : MA} (hf : OpA X r f) {σ : St} {H : Hp} {Q : VK} (h : tE C (mFn f ms) σ H Q) : tCB r (tA C ms) σ H Q := by
  obtain ⟨w, S, env, me, p⟩ := h
  exact ⟨w, S, env, me, po_bnd me p fun w1 S1 H1 vs ds me1 rv g1 p1 => hf w1 S1 H1 vs ds Q _ me1.si rv p1⟩
section
variable {x : Str} {p : Pos} {es : List Expr} {id T : String} {r : List V → Hp → VK → Prop} {f : List D → M D} {ms : MA}
theorem j_callB (hc : CallR X (.builtin id) r) (hf : OpA X r f) (hg : Gl X x) (hm : X.mg x = none) (hv : bootBuiltins x = some (.builtin id)) (ha : JA X C (e :: es) ms) (hn : x ≠ "__name__" := by decide) (hdb : (x == ("__debug__" : Str)) = false := by decide)
    (he : starEach (e :: es) X.env = (false, eval e X.env) :: starEach es X.env := by rfl) (hpl : (backTo pos (starEach es X.env)).any (·.1) = false := by rfl) : JE X C (.Call (.Name x p) (e :: es) [] pos) (mFn f ms) :=
  PE.weak (pe_callB hc hg hm hv ha hn hdb he hpl) fun _ _ _ h => fn_go hf h
theorem j_callTy (hc : CallR X (.type T) r) (hf : OpA X r f) (hg : Gl X x) (hm : X.mg x = none) (hv : bootBuiltins x = some (.type T)) (ha : JA X C (e :: es) ms) (hn : x ≠ "__name__" := by decide) (hdb : (x == ("__debug__" : Str)) = false := by decide)
    (he : starEach (e :: es) X.env = (false, eval e X.env) :: starEach es X.env := by rfl) (hpl : (backTo pos (starEach es X.env)).any (·.1) = false := by rfl) : JE X C (.Call (.Name x p) (e :: es) [] pos) (mFn f ms) :=
  PE.weak (pe_callTy hc hg hm hv ha hn hdb he hpl) fun _ _ _ h => fn_go hf h
end
def d1 (f : D → M D) : List D → M D := fun ds => match ds with
  | [d] => f d
  | _ => stuck
def d2 (f : D → D → M D) : List D → M D := fun ds => match ds with
  | [d, e] => f d e
  | _ => stuck
theorem opA1 {r : List V → Hp → VK → Prop} {f : D → M D} (h : Op1 X (fun x H Q => r [x] H Q) f) : OpA X r (d1 f) := fun w S H xs ds Q W si rx p => by
  cases rx with
  | nil => exact p.elim
  | cons r1 r2 =>
    cases r2 with
    | nil => exact h w S H _ _ Q W si r1 p
    | cons _ _ => exact p.elim
theorem opA2 {r : List V → Hp → VK → Prop} {f : D → D → M D} (h : Op2 X (fun x y H Q => r [x, y] H Q) f) : OpA X r (d2 f) := fun w S H xs ds Q W si rx p => by
  cases rx with
  | nil => exact p.elim
  | cons r1 r2 =>
    cases r2 with
    | nil => exact p.elim
    | cons r2 r3 =>
      cases r3 with
      | nil => exact h w S H _ _ _ _ Q W si r1 r2 p
      | cons _ _ => exact p.elim
/-- len -/
def lenB (S : MS) (d : D) : Option Int := match dctOf S d with
  | some kvs => some (kvs.length : Int)
  | none => match seqOf S d with
    | some ds => some (ds.length : Int)
    | none => match d with
      | .str z => if z.length ≤ lineN then some (z.length : Int) else none
      | _ => none
def dLen : D → M D := fun d S => match lenB S d with
  | some n => some (.ok (.int n) S)
  | none => none
def rLenA (K : PySem.W.Frag) : List V → Hp → VK → Prop := fun xs H Q => (∃ a kvs, xs = [V.ref a] ∧ Rd H a (.dK kvs) ∧ Q (.int kvs.length) H) ∨ (∃ p ys, xs = [.ref p] ∧ (SqL K H p ys ∨ SqT K H p ys) ∧ Q (.int ys.length) H) ∨ (∃ z, xs = [.str z] ∧ z.length ≤ sizeLine ∧ Q (.int z.length) H)
theorem call_lenRd : CallR X (.builtin "len") (fun xs H Q => ∃ a kvs, xs = [V.ref a] ∧ Rd H a (.dK kvs) ∧ Q (.int kvs.length) H) := by
  intro pins s σ H xs us Q I r h
  obtain ⟨a, kvs, rfl, ha, q⟩ := h
  obtain ⟨u, rfl, ru⟩ := vals1 r
  cases ru
  exact d_len I ha fun t s' I' => ⟨.int kvs.length, H, I', ⟨t, rfl⟩, q⟩
theorem call_lenA : CallR X (.builtin "len") (rLenA X.K) := call_lenRd.or (call_len_seq.or call_len_str)
theorem opA_len : OpA X (rLenA X.K) (d1 dLen) := opA1 fun w S H x d Q W si rx p => by
  unfold dLen lenB at p
  cases e1 : dctOf S d with
  | some kvs =>
    rw [e1] at p
    obtain ⟨a, kws, rfl, h1, h2⟩ := dct_is si rx e1
    exact .inl ⟨a, kws, rfl, h1, p w H _ (Go.refl _ _ _) si (by rw [h2.length]; exact .int _)⟩
  | none =>
    rw [e1] at p
    dsimp only at p
    cases e2 : seqOf S d with
    | some ds =>
      rw [e2] at p
      obtain ⟨a, vs, rfl, h1, h2⟩ := seq_is si rx e2
      exact .inr (.inl ⟨a, vs, rfl, h1, p w H _ (Go.refl _ _ _) si (by rw [h2.length]; exact .int _)⟩)
    | none =>
      rw [e2] at p
      dsimp only at p
      cases d with
      | str z =>
        cases rx
        dsimp only at p
        by_cases hz : z.length ≤ lineN
        · rw [if_pos hz] at p
          exact .inr (.inr ⟨z, rfl, by rw [line_is]; exact hz, p w H _ (Go.refl _ _ _) si (.int _)⟩)
        · rw [if_neg hz] at p
          exact p.elim
      | _ => exact p.elim
/-- list(x): of a list, a tuple, a dict's keys -/
def keyD : Key → D
  | .inl i => .int i
  | .inr x => .str x
theorem keyD_rep (k : Key) : Rep X.K w (kV k) (keyD k) := by
  cases k with
  | inl i => exact .int i
  | inr x => exact .str x
theorem keys_rep : ∀ {kws : List (Key × V)} {kvs : List (Key × D)}, RepK X.K w kws kvs → RepL X.K w (kws.map fun kv => kV kv.1) (kvs.map fun kv => keyD kv.1)
  | _, [], h => by cases h; exact .nil
  | _, (k', d') :: kvs, h => by
    cases h with
    | cons h1 h2 => exact .cons (keyD_rep k') (keys_rep h2)
theorem vals_rep : ∀ {kws : List (Key × V)} {kvs : List (Key × D)}, RepK X.K w kws kvs → RepL X.K w (kws.map fun kv => kv.2) (kvs.map fun kv => kv.2)
  | _, [], h => by cases h; exact .nil
  | _, (k', d') :: kvs, h => by
    cases h with
    | cons h1 h2 => exact .cons h1 (vals_rep h2)
def dList (mk : List D → M D) : D → M D := fun d S => match dctOf S d with
  | some kvs => mk (kvs.map fun kv => keyD kv.1) S
  | none => match seqOf S d with
    | some ds => mk ds S
    | none => none
def rListDR : List V → Hp → VK → Prop := fun xs H Q => ∃ p kvs, xs = [.ref p] ∧ Rd H p (.dK kvs) ∧ ∀ q, H q = none → Q (.ref q) (upd H q (.lst (kvs.map fun kv => kV kv.1)))
theorem call_list_dKR (hc : X.calm = true) : CallR X (.type "list") rListDR := by
  intro pins s σ H xs us Q I r h
  obtain ⟨p, kvs, e, hk, q⟩ := h
  subst e
  obtain ⟨u, eu, rx⟩ := vals1 r
  subst eu
  obtain rfl : u = Value.ref p := rx
  obtain ⟨z, lo, vs, rk, hd⟩ := dk_rd I.hok hk
  obtain ⟨ep, hat⟩ := hd.dictAt
  have hl : kvs.length = vs.length := Paired.length rk
  refine PySem.W.kdl_call (PySem.W.kdl_dict (knd := mixKind X.prog X.w) (kvs := vs) (ep := ep) lo) (I.ok.hd hc) hat (by rw [← hl]; exact z) fun h' tk acc' c' hkeep hS hacc => ?_
  refine ⟨.ref s.heap.objs.size, upd H s.heap.objs.size (.lst (kvs.map fun kv => kV kv.1)), I.laid hkeep (Nat.le_refl _) (show ObjOk X.prog X.w _ _ _ (.lst (kvs.map fun kv => kV kv.1)) from ⟨?_, acc'.toList, c', ?_, ?_⟩), rfl, q _ (I.hok.fresh (Nat.le_refl _))⟩
  · rw [List.length_map]; exact z
  · have el : acc'.toList.length = acc'.size := by simp
    refine vals_of_at (by rw [List.length_map, el, hacc.1, hl]) fun j x w h1 h2 => ?_
    obtain ⟨k, y, hky, hi⟩ := hacc.2 j w (by rw [← Array.getElem?_toList]; exact h2)
    have e1 : (kvs.map (·.1))[j]? = some k := by
      rw [KV.keys rk, List.getElem?_map, hky] <;> rfl
    have e2 : (kvs.map fun kv => kV kv.1)[j]? = some (kV k) := by
      have e3 : (kvs.map fun kv => kV kv.1) = (kvs.map (·.1)).map kV := by rw [List.map_map] <;> rfl
      rw [e3, List.getElem?_map, e1] <;> rfl
    rw [e2] at h1
    cases h1
    exact keyIs_rel hi
  · rw [Array.toArray_toList]; exact hS
def rListA (K : PySem.W.Frag) : List V → Hp → VK → Prop := fun xs H Q => rListDR xs H Q ∨ ∃ p ys, xs = [.ref p] ∧ (SqL K H p ys ∨ SqT K H p ys) ∧ ∀ l, H l = none → Q (.ref l) (upd H l (.lst ys))
theorem call_listA (hc : X.calm = true) : CallR X (.type "list") (rListA X.K) := (call_list_dKR hc).or call_list_of
theorem opA_list {mk : List D → M D} (hk : MkS X mk) : OpA X (rListA X.K) (d1 (dList mk)) := opA1 fun w S H x d Q W si rx p => by
  unfold dList at p
  cases e1 : dctOf S d with
  | some kvs =>
    rw [e1] at p
    obtain ⟨a, kws, rfl, h1, h2⟩ := dct_is si rx e1
    obtain ⟨hz, hq⟩ := hk si (keys_rep h2) p
    exact .inl ⟨a, kws, rfl, h1, hq⟩
  | none =>
    rw [e1] at p
    dsimp only at p
    cases e2 : seqOf S d with
    | some ds =>
      rw [e2] at p
      obtain ⟨a, vs, rfl, h1, h2⟩ := seq_is si rx e2
      obtain ⟨hz, hq⟩ := hk si h2 p
      exact .inr ⟨a, vs, rfl, h1, hq⟩
    | none => rw [e2] at p; exact p.elim
def dTuple : D → M D := fun d S => match d with
  | .tup ds => some (.ok (.tup ds) S)
  | d => match lstOf S d with
    | some ds => mkT ds S
    | none => none
def rTupleA (K : PySem.W.Frag) : List V → Hp → VK → Prop := fun xs H Q => ∃ p ys, xs = [.ref p] ∧ ((SqL K H p ys ∧ ∀ l, H l = none → Q (.ref l) (upd H l (.tup ys))) ∨ (SqT K H p ys ∧ Q (.ref p) H))
theorem call_tupleA : CallR X (.type "tuple") (rTupleA X.K) := call_tuple_of
theorem opA_tuple : OpA X (rTupleA X.K) (d1 dTuple) := opA1 fun w S H x d Q W si rx p => by
  have gen : ∀ ds, lstOf S d = some ds → Po X.K X.mg (RV' X.K) W w S H Q (mkT ds S) → rTupleA X.K [x] H Q := fun ds e p => by
    obtain ⟨a, vs, rfl, h1, h2⟩ := lst_is si rx e
    obtain ⟨hz, hq⟩ := new_t si h2 p
    exact ⟨a, vs, rfl, .inl ⟨h1, hq⟩⟩
  unfold dTuple at p
  cases d with
  | tup ds =>
    cases rx with
    | @tup a vs _ h1 h2 => exact ⟨a, vs, rfl, .inr ⟨sqt_ex si.ex h1, p w H _ (Go.refl _ _ _) si (.tup h1 h2)⟩⟩
  | _ =>
    dsimp only at p
    split at p
    · exact gen _ (by assumption) p
    · exact p.elim
def dInt : D → M D := fun d => match d with
  | .int i => ret (.int i)
  | .bl k => ret (.int (if k then 1 else 0))
  | _ => stuck
theorem opA_int : OpA X (fun xs H Q => (∃ i, xs = [.int i] ∧ Q (.int i) H) ∨ ∃ k, xs = [.bl k] ∧ Q (.int (if k then 1 else 0)) H) (d1 dInt) := opA1 fun w S H x d Q W si rx p => by
  cases d with
  | int i =>
    cases rx
    exact .inl ⟨i, rfl, p w H _ (Go.refl _ _ _) si (.int _)⟩
  | bl k =>
    cases rx
    exact .inr ⟨k, rfl, p w H _ (Go.refl _ _ _) si (.int _)⟩
  | _ => exact p.elim
def dAbs : D → M D := fun d => match d with
  | .int i => ret (.int (if i < 0 then -i else i))
  | _ => stuck
theorem opA_abs : OpA X (fun xs H Q => ∃ i, xs = [.int i] ∧ Q (.int (if i < 0 then -i else i)) H) (d1 dAbs) := opA1 fun w S H x d Q W si rx p => by
  cases d with
  | int i =>
    cases rx
    exact ⟨i, rfl, p w H _ (Go.refl _ _ _) si (.int _)⟩
  | _ => exact p.elim
def dMax2 : D → D → M D := dI fun i j => .int (if j > i then j else i)
def dMin2 : D → D → M D := dI fun i j => .int (if j < i then j else i)
theorem opA_max2 : OpA X (fun xs H Q => ∃ i j, xs = [.int i, .int j] ∧ Q (.int (if j > i then j else i)) H) (d2 dMax2) := opA2 fun w S H x y d e Q W si rx ry p => by
  cases d with
  | int i =>
    cases e with
    | int j =>
      cases rx
      cases ry
      exact ⟨i, j, rfl, p w H _ (Go.refl _ _ _) si (.int _)⟩
    | _ => exact p.elim
  | _ => exact p.elim
theorem opA_min2 : OpA X (fun xs H Q => ∃ i j, xs = [.int i, .int j] ∧ Q (.int (if j < i then j else i)) H) (d2 dMin2) := opA2 fun w S H x y d e Q W si rx ry p => by
  cases d with
  | int i =>
    cases e with
    | int j =>
      cases rx
      cases ry
      exact ⟨i, j, rfl, p w H _ (Go.refl _ _ _) si (.int _)⟩
    | _ => exact p.elim
  | _ => exact p.elim
/-- lists of bools, of ints -/
def blsOf : List D → Option (List Bool)
  | [] => some []
  | .bl b :: r => (blsOf r).map (b :: ·)
  | _ :: _ => none
def intsOf : List D → Option (List Int)
  | [] => some []
  | .int b :: r => (intsOf r).map (b :: ·)
  | _ :: _ => none
theorem bls_is : ∀ {ds : List D} {vs : List V} {bs : List Bool}, RepL X.K w vs ds → blsOf ds = some bs → vs = bs.map V.bl
  | [], _, _, h, e => by
    cases h
    cases e
    rfl
  | d :: ds, _, _, h, e => by
    cases h with
    | cons h1 h2 =>
      cases d with
      | bl b =>
        cases h1
        unfold blsOf at e
        cases q : blsOf ds with
        | none => rw [q] at e; cases e
        | some cs =>
          rw [q] at e
          cases e
          rw [bls_is h2 q]
          rfl
      | _ => cases e
theorem ints_is : ∀ {ds : List D} {vs : List V} {bs : List Int}, RepL X.K w vs ds → intsOf ds = some bs → vs = bs.map V.int
  | [], _, _, h, e => by
    cases h
    cases e
    rfl
  | d :: ds, _, _, h, e => by
    cases h with
    | cons h1 h2 =>
      cases d with
      | int b =>
        cases h1
        unfold intsOf at e
        cases q : intsOf ds with
        | none => rw [q] at e; cases e
        | some cs =>
          rw [q] at e
          cases e
          rw [ints_is h2 q]
          rfl
      | _ => cases e
def dBls (g : List Bool → D) : D → M D := fun d S => match lstOf S d with
  | some ds => match blsOf ds with
    | some bs => some (.ok (g bs) S)
    | none => none
  | none => none
def dInts (c : List Int → Bool) (g : List Int → D) : D → M D := fun d S => match lstOf S d with
  | some ds => match intsOf ds with
    | some bs => if c bs = true then some (.ok (g bs) S) else none
    | none => none
  | none => none
def dAll : D → M D := dBls fun bs => .bl (bs.all id)
def dAny : D → M D := dBls fun bs => .bl (bs.any id)
theorem bls_go {g : List Bool → D} {x : V} {d : D} {W : Value → Option Addr → Hp → Prop} {Q : VK} {w : Wd} {S : MS} {H : Hp} (si : SI X.K X.mg w S H) (rx : Rep X.K w x d) (p : Po X.K X.mg (RV' X.K) W w S H Q (dBls g d S)) :
    ∃ a bs, x = V.ref a ∧ SqL X.K H a (bs.map V.bl) ∧ ∀ v, (∀ w, Rep X.K w v (g bs)) → Q v H := by
  unfold dBls at p
  cases e1 : lstOf S d with
  | none => rw [e1] at p; exact p.elim
  | some ds =>
    rw [e1] at p
    dsimp only at p
    obtain ⟨a, vs, rfl, h1, h2⟩ := lst_is si rx e1
    cases e2 : blsOf ds with
    | none => rw [e2] at p; exact p.elim
    | some bs =>
      rw [e2] at p
      rw [bls_is h2 e2] at h1
      exact ⟨a, bs, rfl, h1, fun v r => p w H v (Go.refl _ _ _) si (r w)⟩
theorem ints_go {c : List Int → Bool} {g : List Int → D} {x : V} {d : D} {W : Value → Option Addr → Hp → Prop} {Q : VK} {w : Wd} {S : MS} {H : Hp} (si : SI X.K X.mg w S H) (rx : Rep X.K w x d) (p : Po X.K X.mg (RV' X.K) W w S H Q (dInts c g d S)) :
    ∃ a bs, x = V.ref a ∧ SqL X.K H a (bs.map V.int) ∧ c bs = true ∧ ∀ v, (∀ w, Rep X.K w v (g bs)) → Q v H := by
  unfold dInts at p
  cases e1 : lstOf S d with
  | none => rw [e1] at p; exact p.elim
  | some ds =>
    rw [e1] at p
    dsimp only at p
    obtain ⟨a, vs, rfl, h1, h2⟩ := lst_is si rx e1
    cases e2 : intsOf ds with
    | none => rw [e2] at p; exact p.elim
    | some bs =>
      rw [e2] at p
      dsimp only at p
      rw [ints_is h2 e2] at h1
      split at p
      · exact ⟨a, bs, rfl, h1, by assumption, fun v r => p w H v (Go.refl _ _ _) si (r w)⟩
      · exact p.elim
theorem opA_all : OpA X (rAll X.K) (d1 dAll) := opA1 fun w S H x d Q W si rx p => by
  obtain ⟨a, bs, rfl, h1, q⟩ := bls_go si rx p
  exact ⟨a, bs, rfl, h1, q _ fun _ => .bl _⟩
theorem opA_any : OpA X (rAny X.K) (d1 dAny) := opA1 fun w S H x d Q W si rx p => by
  obtain ⟨a, bs, rfl, h1, q⟩ := bls_go si rx p
  exact ⟨a, bs, rfl, h1, q _ fun _ => .bl _⟩
def dSum : D → M D := dInts (fun _ => true) fun ns => .int ns.sum
theorem opA_sum : OpA X (rSum X.K) (d1 dSum) := opA1 fun w S H x d Q W si rx p => by
  obtain ⟨a, bs, rfl, h1, _, q⟩ := ints_go si rx p
  exact ⟨a, bs, rfl, h1, q _ fun _ => .int _⟩
def maxI : List Int → Int
  | [] => 0
  | [a] => a
  | a :: r => if maxI r ≤ a then a else maxI r
def minI : List Int → Int
  | [] => 0
  | [a] => a
  | a :: r => if a ≤ minI r then a else minI r
theorem maxI_is : ∀ {ns : List Int} {m : Int}, m ∈ ns → (∀ y, y ∈ ns → y ≤ m) → m = maxI ns
  | [a], m, h, _ => by simpa [maxI] using h
  | a :: b :: r, m, h, hm => by
    unfold maxI
    have ha := hm a List.mem_cons_self
    by_cases hr : m ∈ b :: r
    · have e := maxI_is hr fun y hy => hm y (List.mem_cons_of_mem _ hy)
      rw [← e]
      split
      · omega
      · rfl
    · have e : m = a := by
        rcases List.mem_cons.mp h with z | z
        · exact z
        · exact absurd z hr
      have hx : ∀ (l : List Int), l ≠ [] → maxI l ∈ l := by
        intro l
        induction l with
        | nil => intro z; exact absurd rfl z
        | cons c t ih =>
          intro _
          cases t with
          | nil => simp [maxI]
          | cons d t =>
            unfold maxI
            split
            · exact List.mem_cons_self
            · exact List.mem_cons_of_mem _ (ih (by simp))
      have h2 := hm _ (List.mem_cons_of_mem _ (hx (b :: r) (by simp)))
      rw [if_pos (by omega)]
      exact e
theorem minI_is : ∀ {ns : List Int} {m : Int}, m ∈ ns → (∀ y, y ∈ ns → m ≤ y) → m = minI ns
  | [a], m, h, _ => by simpa [minI] using h
  | a :: b :: r, m, h, hm => by
    unfold minI
    have ha := hm a List.mem_cons_self
    by_cases hr : m ∈ b :: r
    · have e := minI_is hr fun y hy => hm y (List.mem_cons_of_mem _ hy)
      rw [← e]
      split
      · omega
      · rfl
    · have e : m = a := by
        rcases List.mem_cons.mp h with z | z
        · exact z
        · exact absurd z hr
      have hx : ∀ (l : List Int), l ≠ [] → minI l ∈ l := by
        intro l
        induction l with
        | nil => intro z; exact absurd rfl z
        | cons c t ih =>
          intro _
          cases t with
          | nil => simp [minI]
          | cons d t =>
            unfold minI
            split
            · exact List.mem_cons_self
            · exact List.mem_cons_of_mem _ (ih (by simp))
      have h2 := hm _ (List.mem_cons_of_mem _ (hx (b :: r) (by simp)))
      rw [if_pos (by omega)]
      exact e
def dMaxL : D → M D := dInts (fun ns => !ns.isEmpty) fun ns => .int (maxI ns)
def dMinL : D → M D := dInts (fun ns => !ns.isEmpty) fun ns => .int (minI ns)
theorem opA_maxL : OpA X (rMax X.K) (d1 dMaxL) := opA1 fun w S H x d Q W si rx p => by
  obtain ⟨a, bs, rfl, h1, hc, q⟩ := ints_go si rx p
  refine ⟨a, bs, rfl, h1, by cases bs with | nil => simp at hc | cons _ _ => simp, fun m hm hx => ?_⟩
  rw [maxI_is hm hx]
  exact q _ fun _ => .int _
theorem opA_minL : OpA X (rMin X.K) (d1 dMinL) := opA1 fun w S H x d Q W si rx p => by
  obtain ⟨a, bs, rfl, h1, hc, q⟩ := ints_go si rx p
  refine ⟨a, bs, rfl, h1, by cases bs with | nil => simp at hc | cons _ _ => simp, fun m hm hx => ?_⟩
  rw [minI_is hm hx]
  exact q _ fun _ => .int _
/-- sorted, ints -/
def insI (a : Int) : List Int → List Int
  | [] => [a]
  | b :: r => if a ≤ b then a :: b :: r else b :: insI a r
def sortI : List Int → List Int
  | [] => []
  | a :: r => insI a (sortI r)
theorem insI_perm (a : Int) : ∀ l : List Int, (insI a l).Perm (a :: l)
  | [] => List.Perm.refl _
  | b :: r => by
    unfold insI
    split
    · exact List.Perm.refl _
    · exact ((insI_perm a r).cons b).trans (List.Perm.swap a b r)
theorem sortI_perm : ∀ l : List Int, (sortI l).Perm l
  | [] => List.Perm.refl _
  | a :: r => (insI_perm a _).trans ((sortI_perm r).cons a)
theorem insI_sorted (a : Int) : ∀ {l : List Int}, l.Pairwise (· ≤ ·) → (insI a l).Pairwise (· ≤ ·)
  | [], _ => List.pairwise_singleton _ _
  | b :: r, h => by
    unfold insI
    have h' := List.pairwise_cons.mp h
    split
    · rename_i hab
      refine List.pairwise_cons.mpr ⟨fun y hy => ?_, h⟩
      rcases List.mem_cons.mp hy with e | e
      · omega
      · exact Int.le_trans hab (h'.1 y e)
    · rename_i hab
      refine List.pairwise_cons.mpr ⟨fun y hy => ?_, insI_sorted a h'.2⟩
      rcases List.mem_cons.mp ((insI_perm a r).mem_iff.mp hy) with e | e
      · omega
      · exact h'.1 y e
theorem sortI_sorted : ∀ l : List Int, (sortI l).Pairwise (· ≤ ·)
  | [] => List.Pairwise.nil
  | a :: r => insI_sorted a (sortI_sorted r)
theorem sorted_unique : ∀ {l l' : List Int}, l.Perm l' → l.Pairwise (· ≤ ·) → l'.Pairwise (· ≤ ·) → l = l'
  | [], l', p, _, _ => (List.nil_perm.mp p).symm
  | a :: r, [], p, _, _ => by
    have := p.length_eq
    simp at this
  | a :: r, b :: t, p, h, h' => by
    have h1 := List.pairwise_cons.mp h
    have h2 := List.pairwise_cons.mp h'
    have e : a = b := by
      have ha : a ∈ b :: t := p.mem_iff.mp List.mem_cons_self
      have hb : b ∈ a :: r := p.mem_iff.mpr List.mem_cons_self
      have q1 : b ≤ a := by
        rcases List.mem_cons.mp ha with e | e
        · omega
        · exact h2.1 a e
      have q2 : a ≤ b := by
        rcases List.mem_cons.mp hb with e | e
        · omega
        · exact h1.1 b e
      omega
    subst e
    rw [sorted_unique (List.Perm.cons_inv p) h1.2 h2.2]
def dSorted (mk : List D → M D) : D → M D := fun d S => match lstOf S d with
  | some ds => match intsOf ds with
    | some ns => mk ((sortI ns).map D.int) S
    | none => none
  | none => none
theorem intsD_rep : ∀ ns : List Int, RepL X.K w (ns.map V.int) (ns.map D.int)
  | [] => .nil
  | n :: r => .cons (.int n) (intsD_rep r)
theorem opA_sorted {mk : List D → M D} (hk : MkS X mk) : OpA X (rSortedI X.K) (d1 (dSorted mk)) := opA1 fun w S H x d Q W si rx p => by
  unfold dSorted at p
  cases e1 : lstOf S d with
  | none => rw [e1] at p; exact p.elim
  | some ds =>
    rw [e1] at p
    dsimp only at p
    obtain ⟨a, vs, rfl, h1, h2⟩ := lst_is si rx e1
    cases e2 : intsOf ds with
    | none => rw [e2] at p; exact p.elim
    | some ns =>
      rw [e2] at p
      rw [ints_is h2 e2] at h1
      obtain ⟨hz, hq⟩ := hk si (intsD_rep (sortI ns)) p
      refine ⟨a, ns, rfl, h1, fun ns' q hp hs hn => ?_⟩
      rw [sorted_unique (hp.trans (sortI_perm ns).symm) hs (sortI_sorted ns)]
      exact hq q hn
/-! ### isinstance -/
def kindOf (S : MS) (d : D) : Option String := match d with
  | .non => some "NoneType"
  | .bl _ => some "bool"
  | .int _ => some "int"
  | .str _ => some "str"
  | .lst _ => some "list"
  | .src _ => some "list"
  | .tup _ => some "tuple"
  | .dct _ => some "dict"
  | .ty _ => none
  | .obj n => match S.get n with
    | some (.lst _) => some "list"
    | some (.ll _) => some "list"
    | some (.dk _) => some "dict"
    | some (.lk _) => some "dict"
    | _ => none
def tysN : List String := ["NoneType", "bool", "int", "str", "list", "tuple", "dict"]
def isiB (a b : String) : Option Bool := if tysN.contains a && tysN.contains b then some (a == b || (a == "bool" && b == "int")) else none
theorem isi_kit : ∀ a ∈ tysN, ∀ b ∈ tysN, kitB a b = some (a == b || (a == "bool" && b == "int")) := by decide +kernel
theorem isi_ok {K : PySem.W.Frag} {a b : String} {r : Bool} (h : isiB a b = some r) : PySem.W.kitOne K (.type a) (.type b) = some r := by
  unfold isiB at h
  split at h
  · rename_i hc
    rw [Bool.and_eq_true] at hc
    cases h
    exact kit_ty (isi_kit a (List.contains_iff_mem.mp hc.1) b (List.contains_iff_mem.mp hc.2))
  · cases h
theorem kind_is {x : V} {d : D} {k : String} {w : Wd} {S : MS} {H : Hp} (si : SI X.K X.mg w S H) (rx : Rep X.K w x d) (h : kindOf S d = some k) : TyX X.K H x (.type k) := by
  have lst : ∀ {a : Addr} {vs : List V}, SqL X.K H a vs → TyX X.K H (.ref a) (.type "list") := fun {a vs} h => by
    rcases h with (h | ⟨o, h⟩) | ⟨o, its, n, h1, h2, _⟩
    · exact .base (.lst h)
    · exact .base (.frz h)
    · exact .kList h1 h2
  cases d with
  | non => cases rx; cases h; exact .base .non
  | bl b => cases rx; cases h; exact .base (.bl b)
  | int b => cases rx; cases h; exact .base (.int b)
  | str b => cases rx; cases h; exact .base (.str b)
  | ty n => cases h
  | lst es =>
    cases rx with
    | lst h1 h2 => cases h; exact lst (.inl (rd_ex si.ex h1))
  | src es =>
    cases rx with
    | src h1 h2 => cases h; exact lst (sql_ex si.ex h1)
  | tup es =>
    cases rx with
    | tup h1 h2 =>
      cases h
      rcases sqt_ex si.ex h1 with (h | ⟨o, h⟩) | ⟨o, its, n, h1, h2, _⟩
      · exact .base (.tup h)
      · exact .fTuple h
      · exact .kTuple h1 h2
  | dct es =>
    cases rx with
    | dct h1 h2 => cases h; exact .fDict (si.ex _ _ h1)
  | obj n =>
    cases rx with
    | obj h1 =>
      unfold kindOf at h
      dsimp only at h
      cases e : S.get n with
      | none => rw [e] at h; cases h
      | some o =>
        rw [e] at h
        obtain ⟨_, _, ho, h3, h4⟩ := si.st n _ e
        cases o with
        | lst es =>
          cases h
          cases ho with
          | lst vs => exact lst (.inl (.inl h3))
          | _ => exact h4.elim
        | dk es =>
          cases h
          cases ho with
          | dK vs => exact .base (.dK h3)
          | _ => exact h4.elim
        | lk es =>
          cases h
          cases ho with
          | frz ob u =>
            cases u with
            | dK vs => exact .fDict h3
            | _ => exact h4.elim
          | _ => exact h4.elim
        | ll es =>
          cases h
          cases ho with
          | frz ob u =>
            cases u with
            | lst vs => exact .base (.frz h3)
            | _ => exact h4.elim
          | _ => exact h4.elim
        | ins _ _ => cases h
def dIsi : D → D → M D := fun x y S => match y with
  | .ty T => match kindOf S x with
    | some k => match isiB k T with
      | some b => some (.ok (.bl b) S)
      | none => none
    | none => none
  | _ => none
theorem opA_isi : OpA X (rIsi X.K) (d2 dIsi) := opA2 fun w S H x y d e Q W si rx ry p => by
  unfold dIsi at p
  cases e with
  | ty T =>
    cases ry
    dsimp only at p
    cases e1 : kindOf S d with
    | none => rw [e1] at p; exact p.elim
    | some k =>
      rw [e1] at p
      dsimp only at p
      cases e2 : isiB k T with
      | none => rw [e2] at p; exact p.elim
      | some b =>
        rw [e2] at p
        exact ⟨x, _, _, _, b, rfl, .ty T, kind_is si rx e1, isi_ok e2, p w H _ (Go.refl _ _ _) si (.bl b)⟩
  | _ => exact p.elim
end
end Mi
namespace Mi
open PySem L2

section
variable {X : Cx} {C : Cy X}
/-! ### what a thing becomes -/
theorem SI.lockS {K : PySem.W.Frag} {mg : Str → Option Value} {w : Wd} {S : MS} {H : Hp} (I : SI K mg w S H) {n : Nat} {kvs : List (Key × D)} {kws : List (Key × V)} (h : S.get n = some (.dk kvs)) (e : H (w.φ n) = some (.dK kws)) (od : Obj) :
    SI K mg w (S.set n (.lk kvs)) (upd H (w.φ n) (.frz od (.dK kws))) ∧ Go w S H w (S.set n (.lk kvs)) (upd H (w.φ n) (.frz od (.dK kws))) := by
  obtain ⟨_, _, ho, h3, h4⟩ := I.st n _ h
  rw [e] at h3
  cases h3
  exact I.set h (o := .lk kvs) (ho := .frz od (.dK kws)) h4
theorem SI.unlock {K : PySem.W.Frag} {mg : Str → Option Value} {w : Wd} {S : MS} {H : Hp} (I : SI K mg w S H) {n : Nat} {o1 o2 : MO} {u2 : HO} (h : S.get n = some o1) (r : ObR K mg w o2 u2) :
    SI K mg w (S.set n o2) (upd H (w.φ n) u2) ∧ ∀ a o, Fo w S H a o → Fo w (S.set n o2) (upd H (w.φ n) u2) a o := by
  obtain ⟨g1, g2, _, g3, g4⟩ := I.st n _ h
  refine ⟨⟨I.nx, fun a u q => ?_, fun k ob q => ?_, fun k k' ob ob' q q' e => ?_⟩, fun a u q => ?_⟩
  · rw [upd_ne (ne_of_none q g2)]; exact I.ex a u q
  · have q' : (if k = n then some o2 else S.get k) = some ob := q
    by_cases e : k = n
    · rw [if_pos e] at q'
      cases q'
      subst e
      exact ⟨g1, g2, _, upd_same, r⟩
    · rw [if_neg e] at q'
      obtain ⟨h1, h2, ho', h3, h4⟩ := I.st k ob q'
      exact ⟨h1, h2, ho', by rw [upd_ne (fun z => e (I.inj _ _ _ _ q' h z))]; exact h3, h4⟩
  · have q1 : (if k = n then some o2 else S.get k) = some ob := q
    have q2 : (if k' = n then some o2 else S.get k') = some ob' := q'
    by_cases a : k = n
    · by_cases b : k' = n
      · rw [a, b]
      · rw [if_neg b] at q2
        rw [a] at e ⊢
        exact I.inj _ _ _ _ h q2 e
    · rw [if_neg a] at q1
      by_cases b : k' = n
      · rw [b] at e ⊢
        exact I.inj _ _ _ _ q1 h e
      · rw [if_neg b] at q2
        exact I.inj _ _ _ _ q1 q2 e
  · obtain ⟨h1, h2, h3⟩ := q
    refine ⟨by rw [upd_ne (h3 n _ h).symm]; exact h1, h2, fun k ob q => ?_⟩
    have q' : (if k = n then some o2 else S.get k) = some ob := q
    by_cases e : k = n
    · rw [e]; exact h3 n _ h
    · rw [if_neg e] at q'
      exact h3 k ob q'
theorem pe_post {e : Expr} {t : TE} (h : PE X e t) : PE X e (fun σ H Q => t σ H fun v H1 => Q v H1 ∨ ∃ a kvs, H1 a = some (.dK kvs) ∧ ∀ od, Q v (upd H1 a (.frz od (.dK kvs)))) := ⟨fun pins s σ H Q I hw => thn (h.run pins s σ H _ I hw) fun u s1 ⟨x, H1, I1, r, q⟩ => by
  rcases q with q | ⟨a, kvs, ha, q⟩
  · exact ⟨x, H1, I1, r, q⟩
  · obtain ⟨od, I2⟩ := I1.lock ha (by exact True.intro)
    exact ⟨x, _, I2, r, q od⟩⟩
/-- what may change is data from now on -/
def fz : D → M D := fun d S => match d with
  | .obj n => match S.get n with
    | some (.lst ds) => some (.ok (.lst ds) (S.del n))
    | some (.dk kvs) => some (.ok (.dct kvs) (S.del n))
    | _ => some (.ok d S)
  | d => some (.ok d S)
def mFz (m : ME) : ME := mOp1 fz m
theorem fz_go {v : V} {d : D} {w : Wd} {S : MS} {H : Hp} {W : Value → Option Addr → Hp → Prop} {Q : VK} (si : SI X.K X.mg w S H) (r : Rep X.K w v d) (p : Po X.K X.mg (RV' X.K) W w S H Q (fz d S)) :
    Q v H ∨ ∃ a kvs, H a = some (.dK kvs) ∧ ∀ od, Q v (upd H a (.frz od (.dK kvs))) := by
  unfold fz at p
  cases d with
  | obj n =>
    cases r with
    | obj hn =>
      dsimp only at p
      cases e : S.get n with
      | none => rw [e] at p; exact .inl (p w H _ (Go.refl _ _ _) si (.obj hn))
      | some o =>
        rw [e] at p
        obtain ⟨_, h2, ho, h3, h4⟩ := si.st n _ e
        cases o with
        | lst ds =>
          dsimp only at p
          cases ho with
          | lst vs =>
            obtain ⟨s1, g1⟩ := si.del e h3
            exact .inl (p _ H _ g1 s1 (.lst (.inl upd_same) (RepL.le g1.le h4)))
          | _ => exact h4.elim
        | dk kvs =>
          dsimp only at p
          cases ho with
          | dK kws =>
            refine .inr ⟨_, kws, h3, fun od => ?_⟩
            obtain ⟨s1, g1⟩ := si.lockS e h3 od
            obtain ⟨s2, g2⟩ := s1.del (n := n) (o := .lk kvs) (by show (if n = n then _ else _) = _; rw [if_pos rfl]) upd_same
            have es : (S.set n (.lk kvs)).del n = S.del n := by
              unfold MS.set MS.del
              dsimp only
              congr 1
              funext k
              split <;> rfl
            rw [es] at s2 g2
            exact p _ _ _ (g1.trans g2) s2 (.dct (ob := od) upd_same (RepK.le (g1.le.trans g2.le) h4))
          | _ => exact h4.elim
        | lk kvs => exact .inl (p w H _ (Go.refl _ _ _) si (.obj hn))
        | ll kvs => exact .inl (p w H _ (Go.refl _ _ _) si (.obj hn))
        | ins c fs => exact .inl (p w H _ (Go.refl _ _ _) si (.obj hn))
  | _ => exact .inl (p w H _ (Go.refl _ _ _) si r)
theorem j_fz {e : Expr} {m : ME} (h : JE X C e m) : JE X C e (mFz m) := PE.weak (pe_post h) fun σ H Q ⟨w, S, env, me, p⟩ =>
  ⟨w, S, env, me, po_bnd me p fun w1 S1 H1 v d me1 rv g1 p1 => fz_go me1.si rv p1⟩
/-- a dict that may change is read only, while e runs: it stands in slot i, or is the attribute k of what stands there, or what a dict that stands there has at a key (its signs' numbers) -/
def refOf (env : En) (S : MS) : List Nat → Option Nat
  | [i] => match env[i]? with
    | some (some (.obj n)) => some n
    | _ => none
  | [i, k] => match env[i]? with
    | some (some (.obj n)) => match S.get n with
      | some (.ins _ fs) => match fs[k]? with
        | some (.obj m) => some m
        | _ => none
      | _ => none
    | _ => none
  | i :: _ :: c :: cs => match env[i]? with
    | some (some (.obj n)) => match S.get n with
      | some (.dk kvs) => match dLook kvs (.inr ⟨(c :: cs).toArray⟩) with
        | some (.obj m) => some m
        | _ => none
      | _ => none
    | _ => none
  | _ => none
def mLk (path : List Nat) (m : ME) : ME := fun env S => match refOf env S path with
  | none => none
  | some n => match S.get n with
    | some (.dk kvs) => match m env (S.set n (.lk kvs)) with
      | some (.ok d S') => match S'.get n with
        | some (.lk kvs') => some (.ok d (S'.set n (.dk kvs')))
        | _ => none
      | _ => none
    | some (.lst ds) => match m env (S.set n (.ll ds)) with
      | some (.ok d S') => match S'.get n with
        | some (.ll ds') => some (.ok d (S'.set n (.lst ds')))
        | _ => none
      | _ => none
    | _ => none
theorem j_lk {e : Expr} {m : ME} (path : List Nat) (h : JE X C e m) : JE X C e (mLk path m) := PE.weak (pe_lock h) fun σ H Q ⟨w, S, env, me, p⟩ => by
  unfold mLk at p
  cases e1 : refOf env S path with
  | none => rw [e1] at p; exact p.elim
  | some n =>
    rw [e1] at p
    dsimp only at p
    cases e2 : S.get n with
    | none => rw [e2] at p; exact p.elim
    | some o =>
      rw [e2] at p
      cases o with
      | dk kvs =>
        dsimp only at p
        obtain ⟨hm, h2, ho, h3, h4⟩ := me.si.st n _ e2
        cases ho with
        | dK kws =>
          refine ⟨w.φ n, .dK kws, h3, True.intro, fun od => ?_⟩
          obtain ⟨s1, g1⟩ := me.si.lockS e2 h3 od
          refine ⟨w, _, env, me.go g1 s1, ?_⟩
          cases e3 : m env (S.set n (.lk kvs)) with
          | none => rw [e3] at p; exact p.elim
          | some r =>
            rw [e3] at p
            cases r with
            | exc _ _ => exact p.elim
            | ok d S' =>
              dsimp only at p
              intro w' H' v g2 s2 rv
              cases e4 : S'.get n with
              | none => rw [e4] at p; exact p.elim
              | some o' =>
                rw [e4] at p
                cases o' with
                | lk kvs' =>
                  obtain ⟨_, k2, ho', k3, k4⟩ := s2.st n _ e4
                  have ef : w'.φ n = w.φ n := g2.le.ph n hm
                  cases ho' with
                  | frz od' u =>
                    cases u with
                    | dK kws' =>
                      have hf := g2.fz _ _ _ (upd_same (H := H) (a := w.φ n) (o := .frz od (.dK kws)))
                      rw [ef, hf] at k3
                      cases k3
                      obtain ⟨s3, f3⟩ := s2.unlock (o2 := .dk kvs') (u2 := .dK kws) e4 k4
                      rw [ef] at s3 f3
                      refine ⟨hf, p w' _ v ⟨g2.le, fun a o ha => f3 a o (g2.fo a o (g1.fo a o ha)), fun a ob u ha => ?_⟩ s3 rv⟩
                      have ne : a ≠ w.φ n := fun z => by rw [z, h3] at ha; cases ha
                      rw [upd_ne ne]
                      exact g2.fz a ob u (by rw [upd_ne ne]; exact ha)
                    | _ => exact k4.elim
                  | _ => exact k4.elim
                | _ => exact p.elim
        | _ => exact h4.elim
      | lst ds =>
        dsimp only at p
        obtain ⟨hm, h2, ho, h3, h4⟩ := me.si.st n _ e2
        cases ho with
        | lst vs =>
          refine ⟨w.φ n, .lst vs, h3, True.intro, fun od => ?_⟩
          obtain ⟨s1, g1⟩ := me.si.set e2 (o := .ll ds) (ho := .frz od (.lst vs)) h4
          refine ⟨w, _, env, me.go g1 s1, ?_⟩
          cases e3 : m env (S.set n (.ll ds)) with
          | none => rw [e3] at p; exact p.elim
          | some r =>
            rw [e3] at p
            cases r with
            | exc _ _ => exact p.elim
            | ok d S' =>
              dsimp only at p
              intro w' H' v g2 s2 rv
              cases e4 : S'.get n with
              | none => rw [e4] at p; exact p.elim
              | some o' =>
                rw [e4] at p
                cases o' with
                | ll ds' =>
                  obtain ⟨_, k2, ho', k3, k4⟩ := s2.st n _ e4
                  have ef : w'.φ n = w.φ n := g2.le.ph n hm
                  cases ho' with
                  | frz od' u =>
                    cases u with
                    | lst vs' =>
                      have hf := g2.fz _ _ _ (upd_same (H := H) (a := w.φ n) (o := .frz od (.lst vs)))
                      rw [ef, hf] at k3
                      cases k3
                      obtain ⟨s3, f3⟩ := s2.unlock (o2 := .lst ds') (u2 := .lst vs) e4 k4
                      rw [ef] at s3 f3
                      refine ⟨hf, p w' _ v ⟨g2.le, fun a o ha => f3 a o (g2.fo a o (g1.fo a o ha)), fun a ob u ha => ?_⟩ s3 rv⟩
                      have ne : a ≠ w.φ n := fun z => by rw [z, h3] at ha; cases ha
                      rw [upd_ne ne]
                      exact g2.fz a ob u (by rw [upd_ne ne]; exact ha)
                    | _ => exact k4.elim
                  | _ => exact k4.elim
                | _ => exact p.elim
        | _ => exact h4.elim
      | _ => exact p.elim
end
end Mi
namespace Mi
open PySem L2

section
variable {X : Cx} {C : Cy X}
/-! ### attributes -/
/-- what the proof asks of a class: its name's class object stands as told -/
structure KlOk (X : Cx) (c : Cl) : Prop where
  cl : ∀ A, X.mg c.nm = some (.ref A) → Cls X.K A
  na : ∀ A, X.mg c.nm = some (.ref A) → ∀ f ∈ c.fl, NoAttr X.K A f
  nd : c.fl.Nodup
/-- an instance, its attributes -/
def insOf (S : MS) (c : Cl) : D → Option (Nat × List D)
  | .obj n => match S.get n with
    | some (.ins c' fs) => if c' = c then some (n, fs) else none
    | _ => none
  | _ => none
theorem ins_is {w : Wd} {S : MS} {H : Hp} {v : V} {d : D} {c : Cl} {n : Nat} {fs : List D} (si : SI X.K X.mg w S H) (r : Rep X.K w v d) (h : insOf S c d = some (n, fs)) :
    d = .obj n ∧ S.get n = some (.ins c fs) ∧ n < w.m ∧ v = .ref (w.φ n) ∧ ∃ A dx fvs, H (w.φ n) = some (.ins A dx fvs) ∧ X.mg c.nm = some (.ref A) ∧ RepF X.K w fvs c.fl fs := by
  unfold insOf at h
  cases d with
  | obj k =>
    dsimp only at h
    cases r with
    | obj hk =>
      cases e : S.get k with
      | none => rw [e] at h; cases h
      | some o =>
        rw [e] at h
        cases o with
        | ins c' fs' =>
          dsimp only at h
          have hst := si.st k (.ins c' fs') e
          by_cases hc : c' = c
          · rw [if_pos hc] at h
            cases h
            subst hc
            obtain ⟨_, _, ho, h3, h4⟩ := hst
            cases ho with
            | ins A dx fvs => exact ⟨rfl, e, hk, rfl, A, dx, fvs, h3, h4.1, h4.2⟩
            | _ => exact h4.elim
          · rw [if_neg hc] at h
            cases h
        | _ => cases h
  | _ => cases h
def dFld (c : Cl) (i : Nat) : D → M D := fun d S => match insOf S c d with
  | some (_, fs) => match fs[i]? with
    | some x => some (.ok x S)
    | none => none
  | none => none
variable {e o value : Expr} {f : Str} {pos pos' tpos apos : Pos} {m mo mv : ME} {c : Cl} {i : Nat}
theorem j_fld (ok : KlOk X c) (hi : c.fl[i]? = some f) (he : JE X C e m) (hb : attributeBase e f X.env (eval e X.env) = eval e X.env := by rfl) : JE X C (.Attribute e f pos) (mOp1 (dFld c i) m) := PE.weak (pe_fld he hb) fun σ H Q ⟨w, S, env, me, p⟩ => by
  refine ⟨w, S, env, me, po_bnd me p fun w1 S1 H1 v d me1 rv g1 p1 => ?_⟩
  unfold dFld at p1
  cases e1 : insOf S1 c d with
  | none => rw [e1] at p1; exact p1.elim
  | some nf =>
    obtain ⟨n, fs⟩ := nf
    rw [e1] at p1
    dsimp only at p1
    obtain ⟨rfl, _, _, rfl, A, dx, fvs, h1, h2, h3⟩ := ins_is me1.si rv e1
    cases e2 : fs[i]? with
    | none => rw [e2] at p1; exact p1.elim
    | some x =>
      rw [e2] at p1
      obtain ⟨u, h4, h5⟩ := h3.get ok.nd hi e2
      exact ⟨_, A, dx, fvs, u, rfl, h1, ok.cl A h2, ok.na A h2 f (List.mem_of_getElem? hi), h4, p1 w1 H1 u (Go.refl _ _ _) me1.si h5⟩
/-- e.f = value -/
def stF (c : Cl) (i : Nat) (d x : D) (S : MS) : Option MS := match insOf S c d with
  | some (n, fs) => match setF fs i x with
    | some fs' => if fs.length < 1000 then some (S.set n (.ins c fs')) else none
    | none => none
  | none => none
theorem stF_go {w : Wd} {S S' : MS} {H : Hp} {v y : V} {d x : D} (ok : KlOk X c) (hi : c.fl[i]? = some f) (si : SI X.K X.mg w S H) (rv : Rep X.K w v d) (ry : Rep X.K w y x) (h : stF c i d x S = some S') :
    ∃ a A dx fs, v = .ref a ∧ X.mg c.nm = some (.ref A) ∧ H a = some (.ins A dx fs) ∧ Cls X.K A ∧ NoAttr X.K A f ∧ fs.length < 1000 ∧ SI X.K X.mg w S' (upd H a (.ins A dx (putF f y fs))) ∧ Go w S H w S' (upd H a (.ins A dx (putF f y fs))) := by
  unfold stF at h
  cases e1 : insOf S c d with
  | none => rw [e1] at h; cases h
  | some nf =>
    obtain ⟨n, fs⟩ := nf
    rw [e1] at h
    dsimp only at h
    obtain ⟨rfl, h0, _, rfl, A, dx, fvs, h1, h2, h3⟩ := ins_is si rv e1
    cases e2 : setF fs i x with
    | none => rw [e2] at h; cases h
    | some fs' =>
      rw [e2] at h
      dsimp only at h
      by_cases hz : fs.length < 1000
      · rw [if_pos hz] at h
        cases h
        have r' := h3.put ry ok.nd hi e2
        obtain ⟨s1, g1⟩ := si.set h0 (o := .ins c fs') (ho := .ins A dx (putF f y fvs)) ⟨h2, r'⟩
        exact ⟨_, A, dx, fvs, rfl, h2, h1, ok.cl A h2, ok.na A h2 f (List.mem_of_getElem? hi), by rw [h3.length]; exact hz, s1, g1⟩
      · rw [if_neg hz] at h
        cases h
def mStF (c : Cl) (i : Nat) (mo mv : ME) : MSt := fun env => stE (bnd (mv env) fun x => bnd (mo env) fun d => ret (d, x)) env fun dx S => match stF c i dx.1 dx.2 S with
  | some S' => some (.nx env S')
  | none => none
theorem js_fld (ok : KlOk X c) (hi : c.fl[i]? = some f) (ho : JE X C o mo) (hv : JE X C value mv) (hs : swapsWith value (some (.Attribute o f pos')) pos.line X.env = pure false := by rfl) : JS X C (.Assign [.Attribute o f pos'] value pos) (mStF c i mo mv) := PS.weak (ps_fld ho hv hs) fun D σ H ⟨w, S, env, me, p⟩ => by
  have p2 := po_st (γ := V × V) (Ra := fun w _ _ vx (dx : Mi.D × Mi.D) => Rep X.K w vx.1 dx.1 ∧ Rep X.K w vx.2 dx.2) me p (Q' := fun vx H2 => ∃ a A dx fs, vx.1 = .ref a ∧ H2 a = some (.ins A dx fs) ∧ Cls X.K A ∧ NoAttr X.K A f ∧ fs.length < 1000 ∧ D.nx σ (upd H2 a (.ins A dx (putF f vx.2 fs)))) fun w1 S1 H1 vx dx me1 rr g1 p1 => by
    cases e1 : stF c i dx.1 dx.2 S1 with
    | none => rw [e1] at p1; exact p1.elim
    | some S' =>
      rw [e1] at p1
      obtain ⟨a, A, dx', fs, h1, h0, h2, h3, h4, h5, h6, h7⟩ := stF_go ok hi me1.si rr.1 rr.2 e1
      exact ⟨a, A, dx', fs, h1, h2, h3, h4, h5, p1 w1 _ σ h7 h6 me1.en⟩
  refine ⟨w, S, env, me, po_bnd me p2 fun w1 S1 H1 y x me1 ry g1 p1 => ?_⟩
  refine ⟨w1, S1, env, me1, po_bnd me1 p1 fun w2 S2 H2 v d me2 rv g2 p2 => ?_⟩
  exact p2 w2 H2 (v, y) (Go.refl _ _ _) me2.si ⟨rv, ry.le g2.le⟩
/-- e.f op= value -/
def mAugF (c : Cl) (i : Nat) (g : D → D → M D) (mo mv : ME) : MSt := fun env => stE (bnd (mo env) fun d => bnd (dFld c i d) fun x => bnd (mv env) fun y => bnd (g x y) fun z => ret (d, z)) env fun dz S => match stF c i dz.1 dz.2 S with
  | some S' => some (.nx env S')
  | none => none
theorem js_augF {op : Operator} {r : R2} {g : D → D → M D} (ok : KlOk X c) (hi : c.fl[i]? = some f) (ho : JE X C o mo) (hv : JE X C value mv) (hop : OpR X (inplaceOp op) r) (hg : Op2 X r g) : JS X C (.AugAssign (.Attribute o f tpos) op value pos) (mAugF c i g mo mv) :=
  PS.weak (ps_fldaug (rd := r) ho hv (fun pins s σ H x y u v Q I rx ry h => hop pins s σ H x y u v Q I rx ry h)) fun D σ H ⟨w, S, env, me, p⟩ => by
  have p2 := po_st (γ := V × V) (Ra := fun w _ _ vx (dx : Mi.D × Mi.D) => Rep X.K w vx.1 dx.1 ∧ Rep X.K w vx.2 dx.2) me p (Q' := fun vx H2 => ∃ a A dx fs, vx.1 = .ref a ∧ X.mg c.nm = some (.ref A) ∧ H2 a = some (.ins A dx fs) ∧ Cls X.K A ∧ NoAttr X.K A f ∧ fs.length < 1000 ∧ D.nx σ (upd H2 a (.ins A dx (putF f vx.2 fs)))) fun w1 S1 H1 vx dx me1 rr g1 p1 => by
    cases e1 : stF c i dx.1 dx.2 S1 with
    | none => rw [e1] at p1; exact p1.elim
    | some S' =>
      rw [e1] at p1
      obtain ⟨a, A, dx', fs, h1, h0, h2, h3, h4, h5, h6, h7⟩ := stF_go ok hi me1.si rr.1 rr.2 e1
      exact ⟨a, A, dx', fs, h1, h0, h2, h3, h4, h5, p1 w1 _ σ h7 h6 me1.en⟩
  refine ⟨w, S, env, me, po_bnd me p2 fun w1 S1 H1 v d me1 rv g1 p1 => ?_⟩
  have p1' := p1
  unfold bnd dFld at p1
  cases e1 : insOf S1 c d with
  | none => rw [e1] at p1; exact p1.elim
  | some nf =>
    obtain ⟨n, fs⟩ := nf
    rw [e1] at p1
    dsimp only at p1
    obtain ⟨rfl, h0, _, rfl, A, dx, fvs, h1, h2, h3⟩ := ins_is me1.si rv e1
    cases e2 : fs[i]? with
    | none => rw [e2] at p1; exact p1.elim
    | some x =>
      rw [e2] at p1
      dsimp only at p1
      obtain ⟨u, h4, h5⟩ := h3.get ok.nd hi e2
      refine ⟨_, A, dx, fvs, u, rfl, h1, ok.cl A h2, ok.na A h2 f (List.mem_of_getElem? hi), h4, ?_⟩
      refine ⟨w1, S1, env, me1, po_bnd me1 p1 fun w2 S2 H2 y y' me2 ry g2 p2 => ?_⟩
      refine hg w2 S2 H2 u y x y' _ (fun c d H => C.W c d σ H) me2.si (h5.le g2.le) ry (po_bnd me2 p2 fun w3 S3 H3 z z' me3 rz g3 p3 => ?_)
      obtain ⟨a', A', dx', fs', q1, q0, q2, q3, q4, q5, q6⟩ := p3 w3 H3 (.ref (w1.φ n), z) (Go.refl _ _ _) me3.si ⟨rv.le (g2.le.trans g3.le), rz⟩
      cases q1
      rw [h2] at q0
      cases q0
      exact ⟨dx', fs', q2, q5, q6⟩
end
end Mi
namespace Mi
open PySem L2

section
variable {X : Cx} {C : Cy X}
/-! ### calls of own methods, own classes -/
def tMethX (A : Addr) (m : Str) (sp : Sp) (E : St → XK) (ta : TE) (t : TA) : TE := fun σ H Q => ta σ H fun x H1 => ∃ a dx fs, x = .ref a ∧ H1 a = some (.ins A dx fs) ∧ fs.lookup m = none ∧ t σ H1 fun vs H2 => sp (x :: vs) H2 Q (E σ)
section
variable {CX : CXT} {k : Nat} {f A : Addr} {fd : FuncData} {ps : List Str} {sp : Sp} {E : St → XK} {x m : Str} {p pos apos : Pos} {e o : Expr} {es : List Expr} {ta : TE} {t : TA}
theorem pe_methX {pl : Sem Bool} (he : PE X o ta) (c : Cls X.K A) (hm : Meth X.K A m f) (F : FnOk X.prog X.w X.K X.mg X.base CX k f fd ps sp) (hr : Room k X.A) (hb : Binds X.K fd ps []) (hx : ∀ σ, PassesAt CX X σ (E σ)) (ha : PA X (e :: es) t)
    (hst : starEach (e :: es) X.env = (false, eval e X.env) :: starEach es X.env := by rfl) (hpl : (backTo pos (starEach es X.env)).any (·.1) = false := by rfl)
    (ht : eval (.Call (.Attribute o m apos) (e :: es) [] pos) X.env = (do
      let ov ← eval o X.env
      standAt apos.atName
      let (f, first) ← holding [ov] (getMethod ov m pl)
      callWith pos f first (backTo pos (starEach (e :: es) X.env)) (backToKw pos (keywordEach [] X.env))) := by rfl) :
    PE X (.Call (.Attribute o m apos) (e :: es) [] pos) (tMethX A m sp E ta t) := by
  refine ⟨fun pins s σ H Q I h => ?_⟩
  refine PySem.W.methodCall_KW (pl := pl) (thn (he.run pins s σ H _ I h) fun u s1 ⟨x, H1, I1, rx, a, dx, fs, ex, ea, l, q⟩ => ?_) ht
  subst ex
  obtain rfl : u = Value.ref a := rx
  refine getmeth_ok I1 ea c hm l ?_
  refine PySem.W.callWith_K (first := [.ref a]) (h₀ := X.base) I.ok.mod.kin hm.kp (thn (ha.run pos pins s1 σ H1 _ I1 q) fun us s2 ⟨vs, H2, I2, r, q2⟩ => ⟨I2.kIn, ?_⟩) hst hpl
  exact run_fnS (us := .ref a :: us) (vs := .ref a :: vs) F hr hb (hx σ) I2 (.cons rfl r) q2
theorem pe_methX0 {pl : Sem Bool} (he : PE X o ta) (c : Cls X.K A) (hm : Meth X.K A m f) (F : FnOk X.prog X.w X.K X.mg X.base CX k f fd ps sp) (hr : Room k X.A) (hb : Binds X.K fd ps []) (hx : ∀ σ, PassesAt CX X σ (E σ))
    (ht : eval (.Call (.Attribute o m apos) [] [] pos) X.env = (do
      let ov ← eval o X.env
      standAt apos.atName
      let (f, first) ← holding [ov] (getMethod ov m pl)
      callWith pos f first (backTo pos (starEach [] X.env)) (backToKw pos (keywordEach [] X.env))) := by rfl) :
    PE X (.Call (.Attribute o m apos) [] [] pos) (tMethX A m sp E ta tNil) := by
  refine ⟨fun pins s σ H Q I h => ?_⟩
  refine PySem.W.methodCall_KW (pl := pl) (thn (he.run pins s σ H _ I h) fun u s1 ⟨x, H1, I1, rx, a, dx, fs, ex, ea, l, q⟩ => ?_) ht
  subst ex
  obtain rfl : u = Value.ref a := rx
  refine getmeth_ok I1 ea c hm l ?_
  exact PySem.W.callWith_K0 (first := [.ref a]) I1.kIn hm.kp (run_fnS (us := [.ref a]) (vs := [.ref a]) F hr hb (hx σ) I1 (.cons rfl .nil) q)
theorem pe_callS0 (F : FnOk X.prog X.w X.K X.mg X.base CX k f fd ps sp) (hr : Room k X.A) (hg : Gl X x) (hm : X.mg x = some (.ref f)) (hk : PySem.W.keepIn X.K (.ref f) = true) (hb : Binds X.K fd ps []) (hx : ∀ σ, PassesAt CX X σ (E σ))
    (hdb : (x == ("__debug__" : Str)) = false := by decide) : PE X (.Call (.Name x p) [] [] pos) (tCallS sp E tNil) := by
  refine ⟨fun pins s σ H Q I h => ?_⟩
  refine wpAny_Call_Name_kw (L2.ld_glob I hg hm ?_ hdb)
  exact PySem.W.callWith_K0 I.kIn hk (run_fnS (us := []) F hr hb (hx σ) I .nil h)
/-- makes -/
def tMakeX (A : Addr) (sp : Sp) (E : St → XK) (t : TA) : TE := fun σ H Q => t σ H fun vs H1 => ∀ x dx, H1 x = none → H1 dx = none → dx ≠ x →
  sp (.ref x :: vs) (upd (upd H1 dx (.own x)) x (.ins A dx [])) (fun v H2 => v = .non ∧ Q (.ref x) H2) (E σ)
theorem run_makeX {pins : List (Addr × Obj)} {σ : St} {H : Hp} {s : Shared} {Q : VK} {us : List Value} {vs : List V} (M : Mk X.K A f) (F : FnOk X.prog X.w X.K X.mg X.base CX k f fd ps sp) (hr : Room (k + 1) X.A) (hb : Binds X.K fd ps [])
    (hx : PassesAt CX X σ (E σ)) (I : L2.Inv X pins σ H s) (r : Vals vs us)
    (h : ∀ x dx, H x = none → H dx = none → dx ≠ x → sp (.ref x :: vs) (upd (upd H dx (.own x)) x (.ins A dx [])) (fun v H2 => v = .non ∧ Q (.ref x) H2) (E σ)) :
    wpAny (model X.prog X.w) X.A (call (.ref A) us) (EP X pins σ Q) X.xe s := by
  have hq := h (s.heap.objs.size + 1) s.heap.objs.size (I.hok.fresh (Nat.le_succ _)) (I.hok.fresh (Nat.le_refl _)) (Nat.ne_of_lt (Nat.lt_succ_self _))
  have I2 := Inv.made (C := A) I
  have r2 : Vals (V.ref (s.heap.objs.size + 1) :: vs) (Value.ref (s.heap.objs.size + 1) :: us) := .cons rfl r
  have hl : (Value.ref (s.heap.objs.size + 1) :: us).length = ps.length := by
    rw [← r2.length]
    exact F.len _ _ _ _ hq
  have hbb := hb _ (Value.ref (s.heap.objs.size + 1) :: us) I2.kIn (by rw [List.append_nil]; exact hl)
  rw [List.append_nil] at hbb
  refine PySem.wpAny_call (make_map (f := f) I.kIn M.makes M.init (beq_iff_eq.mp M.fn) (codeAny_mono (F.run _ X.stack _ _ ⟨Value.ref (s.heap.objs.size + 1) :: us, []⟩ (Value.ref (s.heap.objs.size + 1) :: us) _ _ (E σ) (hr.make A us [])
    (I2.env0.make A us []) hbb r2 hq) fun r s' hq' => ?_))
  cases r with
  | error e => exact hx pins _ _ e s' I2 hq'
  | ok fl =>
    cases fl with
    | ret u =>
      obtain ⟨v, H', I3, rv, ev, q3⟩ := I2.after hq'
      subst ev
      exact ⟨rv, ⟨V.ref (s.heap.objs.size + 1), H', I3, rfl, q3⟩⟩
    | next => exact False.elim hq'
    | brk => exact False.elim hq'
    | cont => exact False.elim hq'
theorem pe_makeX (M : Mk X.K A f) (F : FnOk X.prog X.w X.K X.mg X.base CX k f fd ps sp) (hr : Room (k + 1) X.A) (hg : Gl X x) (hm : X.mg x = some (.ref A)) (hb : Binds X.K fd ps []) (hx : ∀ σ, PassesAt CX X σ (E σ))
    (ha : PA X (e :: es) t) (hdb : (x == ("__debug__" : Str)) = false := by decide) (he : starEach (e :: es) X.env = (false, eval e X.env) :: starEach es X.env := by rfl) (hpl : (backTo pos (starEach es X.env)).any (·.1) = false := by rfl) :
    PE X (.Call (.Name x p) (e :: es) [] pos) (tMakeX A sp E t) := by
  refine ⟨fun pins s σ H Q I h => ?_⟩
  refine wpAny_Call_Name_kw (L2.ld_glob I hg hm ?_ hdb)
  refine PySem.W.callWith_K (h₀ := X.base) I.ok.mod.kin M.kp (thn (ha.run pos pins s σ H _ I h) fun us s1 ⟨vs, H1, I1, r, q⟩ => ⟨I1.kIn, ?_⟩) he hpl
  exact run_makeX M F hr hb (hx σ) I1 r q
theorem pe_makeX0 (M : Mk X.K A f) (F : FnOk X.prog X.w X.K X.mg X.base CX k f fd ps sp) (hr : Room (k + 1) X.A) (hg : Gl X x) (hm : X.mg x = some (.ref A)) (hb : Binds X.K fd ps []) (hx : ∀ σ, PassesAt CX X σ (E σ))
    (hdb : (x == ("__debug__" : Str)) = false := by decide) : PE X (.Call (.Name x p) [] [] pos) (tMakeX A sp E tNil) := by
  refine ⟨fun pins s σ H Q I h => ?_⟩
  refine wpAny_Call_Name_kw (L2.ld_glob I hg hm ?_ hdb)
  exact PySem.W.callWith_K0 I.kIn M.kp (run_makeX (us := []) M F hr hb (hx σ) I .nil h)
end
/-- a new thing that is nobody's -/
theorem SI.fr {K : PySem.W.Frag} {mg : Str → Option Value} {w : Wd} {S : MS} {H : Hp} (I : SI K mg w S H) {p : Addr} (hp : H p = none) (o : HO) : SI K mg w S (upd H p o) ∧ Go w S H w S (upd H p o) := by
  refine ⟨⟨I.nx, fun a u h => ?_, fun n ob h => ?_, I.inj⟩, Le.refl w, fun a u h => ?_, fun a ob u h => ?_⟩
  · rw [upd_ne (ne_of_none (I.ex a u h) hp)]; exact I.ex a u h
  · obtain ⟨h1, h2, ho, h3, h4⟩ := I.st n ob h
    exact ⟨h1, h2, ho, by rw [upd_ne (ne_of_none h3 hp)]; exact h3, h4⟩
  · exact ⟨by rw [upd_ne (ne_of_none h.1 hp)]; exact h.1, h.2⟩
  · rw [upd_ne (ne_of_none h hp)]; exact h
theorem fo_new {K : PySem.W.Frag} {mg : Str → Option Value} {w : Wd} {S : MS} {H : Hp} (I : SI K mg w S H) {p : Addr} (hp : H p = none) (o : HO) : Fo w S (upd H p o) p o := by
  refine ⟨upd_same, ?_, fun n ob h z => ?_⟩
  · cases e : w.F p with
    | none => rfl
    | some u => rw [I.ex p u e] at hp; cases hp
  · obtain ⟨_, _, ho, h3, _⟩ := I.st n ob h
    rw [z, hp] at h3; cases h3
theorem RepF.nil {K : PySem.W.Frag} {w : Wd} : ∀ fl : List Str, RepF K w [] fl []
  | [] => True.intro
  | _ :: _ => True.intro
section
variable {k : Nat} {f A : Addr} {fd : FuncData} {ps : List Str} {x mn : Str} {p pos apos : Pos} {e o : Expr} {es : List Expr} {m : List D → M D} {ma : MA} {mo : ME} {c : Cl}
theorem j_call0 (F : FJ X.prog X.w X.K X.mg X.base k f fd ps m) (ar : Ar ps.length m) (hr : Room k X.A) (hg : Gl X x) (hm : X.mg x = some (.ref f)) (hk : PySem.W.keepIn X.K (.ref f) = true) (hb : Binds X.K fd ps [])
    (hdb : (x == ("__debug__" : Str)) = false := by decide) : JE X C (.Call (.Name x p) [] [] pos) (mCall m mNil) := PE.weak (pe_callS0 (E := WE C.W) F hr hg hm hk hb (fun σ => passAt C.tk σ) hdb) fun σ H Q ⟨w, S, env, me, q⟩ =>
  sp_of me.si .nil (po_len ar q) q
def mMeth (c : Cl) (m : List D → M D) (mo : ME) (a : MA) : ME := fun env => bnd (mo env) fun d S => match insOf S c d with
  | some _ => bnd (a env) (fun ds => m (d :: ds)) S
  | none => none
theorem meth_go (ar : Ar ps.length m) (hA : X.mg c.nm = some (.ref A)) (hn : c.fl.contains mn = false) {σ : St} {H : Hp} {Q : VK} (h : tE C (mMeth c m mo ma) σ H Q) : tMethX A mn (spM X.K X.mg ps.length m) (WE C.W) (tE C mo) (tA C ma) σ H Q := by
  obtain ⟨w, S, env, me, q⟩ := h
  refine ⟨w, S, env, me, po_bnd me q fun w1 S1 H1 v d me1 rv g1 p1 => ?_⟩
  cases e1 : insOf S1 c d with
  | none => rw [e1] at p1; exact p1.elim
  | some nf =>
    obtain ⟨n, fs⟩ := nf
    rw [e1] at p1
    dsimp only at p1
    obtain ⟨rfl, h0, _, rfl, A', dx, fvs, h1, h2, h3⟩ := ins_is me1.si rv e1
    rw [hA] at h2
    cases h2
    refine ⟨_, dx, fvs, rfl, h1, h3.no (fun z => ?_), w1, S1, env, me1, po_bnd me1 p1 fun w2 S2 H2 vs ds me2 rvs g2 p2 => ?_⟩
    · rw [List.contains_iff_mem.mpr z] at hn; cases hn
    · exact sp_of me2.si (.cons (rv.le g2.le) rvs) (po_len ar p2) p2
theorem j_meth {pl : Sem Bool} (ok : KlOk X c) (hA : X.mg c.nm = some (.ref A)) (hn : c.fl.contains mn = false) (ho : JE X C o mo) (hm : Meth X.K A mn f) (F : FJ X.prog X.w X.K X.mg X.base k f fd ps m) (ar : Ar ps.length m) (hr : Room k X.A) (hb : Binds X.K fd ps []) (ha : JA X C (e :: es) ma)
    (hst : starEach (e :: es) X.env = (false, eval e X.env) :: starEach es X.env := by rfl) (hpl : (backTo pos (starEach es X.env)).any (·.1) = false := by rfl)
    (ht : eval (.Call (.Attribute o mn apos) (e :: es) [] pos) X.env = (do
      let ov ← eval o X.env
      standAt apos.atName
      let (f, first) ← holding [ov] (getMethod ov mn pl)
      callWith pos f first (backTo pos (starEach (e :: es) X.env)) (backToKw pos (keywordEach [] X.env))) := by rfl) :
    JE X C (.Call (.Attribute o mn apos) (e :: es) [] pos) (mMeth c m mo ma) := PE.weak (pe_methX (E := WE C.W) ho (ok.cl A hA) hm F hr hb (fun σ => passAt C.tk σ) ha hst hpl ht) fun _ _ _ h => meth_go ar hA hn h
theorem j_meth0 {pl : Sem Bool} (ok : KlOk X c) (hA : X.mg c.nm = some (.ref A)) (hn : c.fl.contains mn = false) (ho : JE X C o mo) (hm : Meth X.K A mn f) (F : FJ X.prog X.w X.K X.mg X.base k f fd ps m) (ar : Ar ps.length m) (hr : Room k X.A) (hb : Binds X.K fd ps [])
    (ht : eval (.Call (.Attribute o mn apos) [] [] pos) X.env = (do
      let ov ← eval o X.env
      standAt apos.atName
      let (f, first) ← holding [ov] (getMethod ov mn pl)
      callWith pos f first (backTo pos (starEach [] X.env)) (backToKw pos (keywordEach [] X.env))) := by rfl) :
    JE X C (.Call (.Attribute o mn apos) [] [] pos) (mMeth c m mo mNil) := PE.weak (pe_methX0 (E := WE C.W) ho (ok.cl A hA) hm F hr hb (fun σ => passAt C.tk σ) ht) fun σ H Q h => by
  obtain ⟨w, S, env, me, q⟩ := meth_go (C := C) (mo := mo) (ma := mNil) ar hA hn h
  exact ⟨w, S, env, me, q.imp fun v H' ⟨a, dx, fs, h1, h2, h3, w2, S2, env2, me2, q2⟩ => ⟨a, dx, fs, h1, h2, h3, q2 w2 H' [] (Go.refl _ _ _) me2.si .nil⟩⟩
/-- a new instance -/
def mMake (c : Cl) (m : List D → M D) (a : MA) : ME := fun env => bnd (a env) fun ds S => match m (.obj S.nx :: ds) (S.add (.ins c [])) with
  | some (.ok .non S') => some (.ok (.obj S.nx) S')
  | some (.exc e S') => some (.exc e S')
  | _ => none
theorem make_go (ar : Ar ps.length m) (hA : X.mg c.nm = some (.ref A)) {w : Wd} {S : MS} {H : Hp} {vs : List V} {ds : List D} {Q : VK} {E : XK} (si : SI X.K X.mg w S H) (r : RepL X.K w vs ds) (p : Po X.K X.mg (RV' X.K) E w S H Q (match m (.obj S.nx :: ds) (S.add (.ins c [])) with
    | some (.ok .non S') => some (.ok (.obj S.nx) S')
    | some (.exc e S') => some (.exc e S')
    | _ => none)) : ∀ x dx, H x = none → H dx = none → dx ≠ x → spM X.K X.mg ps.length m (.ref x :: vs) (upd (upd H dx (.own x)) x (.ins A dx [])) (fun v H2 => v = .non ∧ Q (.ref x) H2) E := by
  intro x dx hx hdx hne
  obtain ⟨s1, g1⟩ := si.fr hdx (.own x)
  obtain ⟨s2, g2⟩ := s1.add (p := x) (by rw [upd_ne hne.symm]; exact hx) (o := .ins c []) (ho := .ins A dx []) ⟨hA, RepF.nil _⟩
  have ex : (fun n => if n = w.m then x else w.φ n) S.nx = x := by
    show (if S.nx = w.m then x else w.φ S.nx) = x
    rw [if_pos si.nx]
  have ro : Rep X.K ⟨fun n => if n = w.m then x else w.φ n, w.F, w.m + 1⟩ (.ref x) (.obj S.nx) := by
    have z := Rep.obj (K := X.K) (w := ⟨fun n => if n = w.m then x else w.φ n, w.F, w.m + 1⟩) (n := S.nx) (by show S.nx < w.m + 1; rw [si.nx]; exact Nat.lt_succ_self _)
    rw [show (⟨fun n => if n = w.m then x else w.φ n, w.F, w.m + 1⟩ : Wd).φ S.nx = x from ex] at z
    exact z
  have base := g1.trans g2
  cases e : m (.obj S.nx :: ds) (S.add (.ins c [])) with
  | none => rw [e] at p; exact p.elim
  | some o =>
    refine ⟨_, _, .obj S.nx :: ds, s2, .cons ro (r.le base.le), ar _ _ _ e, ?_⟩
    rw [e] at p ⊢
    cases o with
    | exc ex S' => exact fun w' H' cls dx g si r => p w' H' cls dx (base.trans g) si r
    | ok d S' =>
      cases d with
      | non =>
        intro w' H' v g si' rv
        cases rv
        exact ⟨rfl, p w' H' _ (base.trans g) si' (ro.le g.le)⟩
      | _ => exact p.elim
theorem j_make (hA : X.mg x = some (.ref A)) (hcn : c.nm = x) (Mk' : Mk X.K A f) (F : FJ X.prog X.w X.K X.mg X.base k f fd ps m) (ar : Ar ps.length m) (hr : Room (k + 1) X.A) (hg : Gl X x) (hb : Binds X.K fd ps [])
    (ha : JA X C (e :: es) ma) (hdb : (x == ("__debug__" : Str)) = false := by decide) (he : starEach (e :: es) X.env = (false, eval e X.env) :: starEach es X.env := by rfl) (hpl : (backTo pos (starEach es X.env)).any (·.1) = false := by rfl) :
    JE X C (.Call (.Name x p) (e :: es) [] pos) (mMake c m ma) := PE.weak (pe_makeX (E := WE C.W) Mk' F hr hg hA hb (fun σ => passAt C.tk σ) ha hdb he hpl) fun σ H Q ⟨w, S, env, me, q⟩ =>
  ⟨w, S, env, me, po_bnd me q fun w1 S1 H1 vs ds me1 rv g1 p1 => make_go ar (by rw [hcn]; exact hA) me1.si rv p1⟩
theorem j_make0 (hA : X.mg x = some (.ref A)) (hcn : c.nm = x) (Mk' : Mk X.K A f) (F : FJ X.prog X.w X.K X.mg X.base k f fd ps m) (ar : Ar ps.length m) (hr : Room (k + 1) X.A) (hg : Gl X x) (hb : Binds X.K fd ps [])
    (hdb : (x == ("__debug__" : Str)) = false := by decide) : JE X C (.Call (.Name x p) [] [] pos) (mMake c m mNil) := PE.weak (pe_makeX0 (E := WE C.W) Mk' F hr hg hA hb (fun σ => passAt C.tk σ) hdb) fun σ H Q ⟨w, S, env, me, q⟩ =>
  make_go ar (by rw [hcn]; exact hA) me.si .nil q
end

/-! ### o[i] = v -/
def dSet (x y d : D) (S : MS) : Option MS := match x with
  | .obj n => match S.get n with
    | some (.lst ds) => match y with
      | .int i => match ixN ds.length i with
        | some j => some (S.set n (.lst (ds.set j d)))
        | none => none
      | _ => none
    | some (.dk kvs) => match toKey y with
      | some k => if kvs.length < lineN then some (S.set n (.dk (dPutK kvs k d))) else none
      | none => none
    | _ => none
  | _ => none
def rSetA : V → V → V → Hp → (Hp → Prop) → Prop := fun o i v H Q => rSetL o i v H Q ∨ ∃ a H', o = .ref a ∧ DPut H a i v H' ∧ Q H'
theorem set_A (hu : X.A.units + 64 < cLine) : PSet X rSetA := by
  intro pins s σ H o i v ov iv u Q I ro ri rv h
  rcases h with h | ⟨a, H', rfl, g, q⟩
  · exact set_list pins s σ H o i v ov iv u Q I ro ri rv h
  · cases ro
    exact d_setItem (by omega) I g ri rv fun s' I' => ⟨H', I', q⟩
theorem dSet_go {w : Wd} {S S' : MS} {H : Hp} {o i v : V} {x y d : D} {Q : Hp → Prop} (si : SI X.K X.mg w S H) (ro : Rep X.K w o x) (ri : Rep X.K w i y) (rv : Rep X.K w v d) (h : dSet x y d S = some S') (k : ∀ H', Go w S H w S' H' → SI X.K X.mg w S' H' → Q H') : rSetA o i v H Q := by
  unfold dSet at h
  cases x with
  | obj n =>
    cases ro with
    | obj hn =>
      dsimp only at h
      cases e : S.get n with
      | none => rw [e] at h; cases h
      | some ob =>
        rw [e] at h
        obtain ⟨_, h2, ho, h3, h4⟩ := si.st n _ e
        cases ob with
        | lst ds =>
          dsimp only at h
          cases y with
          | int j =>
            cases ri
            dsimp only at h
            cases e2 : ixN ds.length j with
            | none => rw [e2] at h; cases h
            | some j' =>
              rw [e2] at h
              cases h
              cases ho with
              | lst vs =>
                have h4' : RepL X.K w vs ds := h4
                obtain ⟨s1, g1⟩ := si.set e (o := .lst (ds.set j' d)) (ho := .lst (vs.set j' v)) (h4'.set rv j')
                exact .inl ⟨_, vs, j, j', rfl, rfl, h3, by rw [h4'.length]; exact e2, k _ g1 s1⟩
              | _ => exact h4.elim
          | _ => cases h
        | dk kvs =>
          dsimp only at h
          cases e2 : toKey y with
          | none => rw [e2] at h; cases h
          | some kk =>
            rw [e2] at h
            dsimp only at h
            obtain rfl := key_is ri e2
            by_cases hz : kvs.length < lineN
            · rw [if_pos hz] at h
              cases h
              cases ho with
              | dK kws =>
                have h4' : RepK X.K w kws kvs := h4
                obtain ⟨s1, g1⟩ := si.set e (o := .dk (dPutK kvs kk d)) (ho := .dK (putK kws kk v)) (h4'.put kk rv)
                exact .inr ⟨_, _, rfl, DPut.k h3 (by rw [h4'.length, line_is]; exact hz), k _ g1 s1⟩
              | _ => exact h4.elim
            · rw [if_neg hz] at h
              cases h
        | _ => cases h
  | _ => cases h
def gIx (mo mi : ME) : MG := fun d env S => match mo env S with
  | some (.ok x S1) => match mi env S1 with
    | some (.ok y S2) => match dSet x y d S2 with
      | some S3 => some (env, S3)
      | none => none
    | _ => none
  | _ => none
theorem jg_ix {o i : Expr} {mo mi : ME} {pos : Pos} (hu : X.A.units + 64 < cLine) (ho : JE X C o mo) (hi : JE X C i mi)
    (ha : ∀ v, assign (.Subscript o i pos) X.env v = (do
      let ov ← holding [v] (eval o X.env)
      let iv ← holding [v, ov] (eval i X.env)
      standAt pos
      holding [v, ov, iv] (setItem ov iv v)
      release [v, ov, iv] []) := by intro _; rfl) : JG X C (.Subscript o i pos) (gIx mo mi) := PG.weak (pg_sub ho hi (set_A hu) ha) fun v σ H Q ⟨w, S, env, d, me, rv, p⟩ => by
  unfold gIx at p
  refine ⟨w, S, env, me, ?_⟩
  cases e1 : mo env S with
  | none => rw [e1] at p; exact p.elim
  | some r =>
    rw [e1] at p
    cases r with
    | exc _ _ => exact p.elim
    | ok x S1 =>
      dsimp only at p
      intro w1 H1 ov g1 s1 ro
      have me1 := me.go g1 s1
      refine ⟨w1, S1, env, me1, ?_⟩
      cases e2 : mi env S1 with
      | none => rw [e2] at p; exact p.elim
      | some r =>
        rw [e2] at p
        cases r with
        | exc _ _ => exact p.elim
        | ok y S2 =>
          dsimp only at p
          intro w2 H2 iv g2 s2 ri
          cases e3 : dSet x y d S2 with
          | none => rw [e3] at p; exact p.elim
          | some S3 =>
            rw [e3] at p
            exact dSet_go s2 (ro.le g2.le) ri (rv.le (g1.le.trans g2.le)) e3 fun H3 g3 s3 => p w2 H3 σ ((g1.trans g2).trans g3) s3 (me.en.le (g1.le.trans g2.le))
end
end Mi
namespace Mi
open PySem L2

section
variable {X : Cx} {C : Cy X}
/-! ### methods of built-in types -/
def tyD (S : MS) (T : String) (d : D) : Bool := match T with
  | "list" => (lstOf S d).isSome
  | "str" => match d with
    | .str _ => true
    | _ => false
  | "dict" => match d with
    | .obj n => match S.get n with
      | some (.dk _) => true
      | _ => false
    | _ => false
  | _ => false
theorem ty_is {w : Wd} {S : MS} {H : Hp} {v : V} {d : D} {T : String} (si : SI X.K X.mg w S H) (r : Rep X.K w v d) (h : tyD S T d = true) : tyV X.K T v H := by
  unfold tyD at h
  split at h
  · cases e : lstOf S d with
    | none => rw [e] at h; cases h
    | some ds =>
      obtain ⟨a, vs, rfl, h1, _⟩ := lst_is si r e
      exact .inl ⟨rfl, vs, h1⟩
  · cases d with
    | str z => cases r; exact rfl
    | _ => cases h
  · cases d with
    | obj n =>
      cases r with
      | obj hn =>
        dsimp only at h
        cases e : S.get n with
        | none => rw [e] at h; cases h
        | some o =>
          rw [e] at h
          cases o with
          | dk kvs =>
            obtain ⟨_, _, ho, h3, h4⟩ := si.st n _ e
            cases ho with
            | dK kws => exact .inr (.inr (.inl ⟨rfl, .inl ⟨kws, h3⟩⟩))
            | _ => exact h4.elim
          | _ => cases h
    | _ => cases h
  · cases h
def mMt (T : String) (f : D → List D → M D) (mo : ME) (a : MA) : ME := fun env => bnd (mo env) fun d S => if tyD S T d = true then bnd (a env) (fun ds => f d ds) S else none
abbrev OpM (X : Cx) (r : V → List V → Hp → VK → Prop) (f : D → List D → M D) : Prop := ∀ w S H x xs d ds (Q : VK) W, SI X.K X.mg w S H → Rep X.K w x d → RepL X.K w xs ds → Po X.K X.mg (RV' X.K) W w S H Q (f d ds S) → r x xs H Q
section
variable {o e : Expr} {es : List Expr} {mo : ME} {ma : MA} {name : Str} {apos cpos : Pos} {T id : String} {r : V → List V → Hp → VK → Prop} {f : D → List D → M D}
theorem j_bm0 (pa : PlainAttrs T) (slot : Slot T name id) (hty : typeOf (.builtin id) = pure (.type "method_descriptor")) (hm : MtR X id r) (hf : OpM X r f) (ho : JE X C o mo)
    (hbase : attributeBase o name X.env (eval o X.env) = eval o X.env := by rfl) (hline : (apos.endLine == cpos.line) = true := by rfl) : JE X C (.Call (.Attribute o name apos) [] [] cpos) (mMt T f mo mNil) :=
  PE.weak (pe_bm0 pa slot hty hm ho hbase hline) fun σ H Q ⟨w, S, env, me, p⟩ => by
  refine ⟨w, S, env, me, po_bnd me p fun w1 S1 H1 v d me1 rv g1 p1 => ?_⟩
  by_cases h : tyD S1 T d = true
  · rw [if_pos h] at p1
    exact ⟨ty_is me1.si rv h, hf w1 S1 H1 v [] d [] Q _ me1.si rv .nil p1⟩
  · rw [if_neg h] at p1
    exact p1.elim
theorem j_bm (pa : PlainAttrs T) (slot : Slot T name id) (hty : typeOf (.builtin id) = pure (.type "method_descriptor")) (hm : MtR X id r) (hf : OpM X r f) (ho : JE X C o mo) (ha : JA X C (e :: es) ma)
    (hbase : attributeBase o name X.env (eval o X.env) = eval o X.env := by rfl)
    (hfew : ((backTo cpos (starEach (e :: es) X.env)).all (fun x => !x.1) && (backToKw cpos (keywordEach [] X.env)).all (fun x => x.1.isSome)
      && decide ((e :: es).length + ([] : List Keyword).length + (if ([] : List Keyword).isEmpty then 0 else 1) < 30)) = true := by rfl)
    (hline : (apos.endLine == cpos.line) = true := by rfl) (hs : starEach (e :: es) X.env = (false, eval e X.env) :: starEach es X.env := by rfl) (hplain : (backTo cpos (starEach es X.env)).any (·.1) = false := by rfl) :
    JE X C (.Call (.Attribute o name apos) (e :: es) [] cpos) (mMt T f mo ma) :=
  PE.weak (pe_bm pa slot hty hm ho ha hbase hfew hline hs hplain) fun σ H Q ⟨w, S, env, me, p⟩ => by
  refine ⟨w, S, env, me, po_bnd me p fun w1 S1 H1 v d me1 rv g1 p1 => ?_⟩
  by_cases h : tyD S1 T d = true
  · rw [if_pos h] at p1
    refine ⟨ty_is me1.si rv h, w1, S1, env, me1, po_bnd me1 p1 fun w2 S2 H2 vs ds me2 rvs g2 p2 => ?_⟩
    exact hf w2 S2 H2 v vs d ds Q _ me2.si (rv.le g2.le) rvs p2
  · rw [if_neg h] at p1
    exact p1.elim
end
/-- a list that may change -/
def mutL (S : MS) : D → Option (Nat × List D)
  | .obj n => match S.get n with
    | some (.lst ds) => some (n, ds)
    | _ => none
  | _ => none
theorem mutL_is {w : Wd} {S : MS} {H : Hp} {v : V} {d : D} {n : Nat} {ds : List D} (si : SI X.K X.mg w S H) (r : Rep X.K w v d) (h : mutL S d = some (n, ds)) : v = .ref (w.φ n) ∧ S.get n = some (.lst ds) ∧ ∃ vs, H (w.φ n) = some (.lst vs) ∧ RepL X.K w vs ds := by
  unfold mutL at h
  cases d with
  | obj k =>
    cases r with
    | obj hn =>
      dsimp only at h
      cases e : S.get k with
      | none => rw [e] at h; cases h
      | some o =>
        rw [e] at h
        obtain ⟨_, _, ho, h3, h4⟩ := si.st k _ e
        cases o with
        | lst es =>
          cases h
          cases ho with
          | lst vs => exact ⟨rfl, e, vs, h3, h4⟩
          | _ => exact h4.elim
        | _ => cases h
  | _ => cases h
theorem mutL_set {w : Wd} {S : MS} {H : Hp} {n : Nat} {ds ds' : List D} {vs' : List V} (si : SI X.K X.mg w S H) (h : S.get n = some (.lst ds)) (r : RepL X.K w vs' ds') : SI X.K X.mg w (S.set n (.lst ds')) (upd H (w.φ n) (.lst vs')) ∧ Go w S H w (S.set n (.lst ds')) (upd H (w.φ n) (.lst vs')) := si.set h (o := .lst ds') (ho := .lst vs') r
def dAppend : D → List D → M D := fun x ds S => match mutL S x, ds with
  | some (n, es), [y] => if es.length < lineN then some (.ok .non (S.set n (.lst (es ++ [y])))) else none
  | _, _ => none
theorem opM_append : OpM X rAppend dAppend := fun w S H x xs d ds Q W si rx rxs p => by
  unfold dAppend at p
  cases e : mutL S d with
  | none => rw [e] at p; exact p.elim
  | some ne =>
    obtain ⟨n, es⟩ := ne
    rw [e] at p
    try dsimp only at p
    obtain ⟨rfl, h1, vs, h2, h3⟩ := mutL_is si rx e
    cases rxs with
    | nil => exact p.elim
    | cons r1 r2 =>
      cases r2 with
      | cons _ _ => exact p.elim
      | nil =>
        dsimp only at p
        split at p
        · rename_i hz
          obtain ⟨s1, g1⟩ := mutL_set si h1 (h3.append (.cons r1 .nil))
          exact ⟨_, vs, _, rfl, rfl, h2, by rw [h3.length, line_is]; exact hz, p w _ .non g1 s1 .non⟩
        · exact p.elim
/-- pop(), pop(i) -/
def dPop : D → List D → M D := fun x ds S => match mutL S x, ds with
  | some (n, es), [] => match es[es.length - 1]? with
    | some y => some (.ok y (S.set n (.lst es.dropLast)))
    | none => none
  | _, _ => none
theorem opM_pop : OpM X rPop dPop := fun w S H x xs d ds Q W si rx rxs p => by
  unfold dPop at p
  cases e : mutL S d with
  | none => rw [e] at p; exact p.elim
  | some ne =>
    obtain ⟨n, es⟩ := ne
    rw [e] at p
    try dsimp only at p
    obtain ⟨rfl, h1, vs, h2, h3⟩ := mutL_is si rx e
    cases rxs with
    | cons _ _ => exact p.elim
    | nil =>
      dsimp only at p
      cases e2 : es[es.length - 1]? with
      | none => rw [e2] at p; exact p.elim
      | some y =>
        rw [e2] at p
        obtain ⟨u, h4, h5⟩ := h3.get e2
        obtain ⟨s1, g1⟩ := mutL_set si h1 h3.dropLast
        exact ⟨_, vs, u, rfl, rfl, h2, by rw [h3.length]; exact h4, p w _ u g1 s1 h5⟩
def dPopAt : D → List D → M D := fun x ds S => match mutL S x, ds with
  | some (n, es), [.int i] => match ixN es.length i with
    | some j => match es[j]? with
      | some y => if (decide (-(2 ^ 63) ≤ i) && decide (i < 2 ^ 63)) = true then some (.ok y (S.set n (.lst (es.eraseIdx j)))) else none
      | none => none
    | none => none
  | _, _ => none
theorem opM_popAt : OpM X rPopAt dPopAt := fun w S H x xs d ds Q W si rx rxs p => by
  unfold dPopAt at p
  cases e : mutL S d with
  | none => rw [e] at p; exact p.elim
  | some ne =>
    obtain ⟨n, es⟩ := ne
    rw [e] at p
    try dsimp only at p
    obtain ⟨rfl, h1, vs, h2, h3⟩ := mutL_is si rx e
    cases rxs with
    | nil => exact p.elim
    | @cons v1 vs1 d1 ds1 r1 r2 =>
      cases d1 with
      | int i =>
        cases r1
        cases r2 with
        | cons _ _ => exact p.elim
        | nil =>
          dsimp only at p
          cases e1 : ixN es.length i with
          | none => rw [e1] at p; exact p.elim
          | some j =>
            rw [e1] at p
            dsimp only at p
            cases e2 : es[j]? with
            | none => rw [e2] at p; exact p.elim
            | some y =>
              rw [e2] at p
              dsimp only at p
              split at p
              · rename_i hb
                rw [Bool.and_eq_true, decide_eq_true_eq, decide_eq_true_eq] at hb
                obtain ⟨u, h4, h5⟩ := h3.get e2
                obtain ⟨s1, g1⟩ := mutL_set si h1 (h3.eraseIdx j)
                obtain ⟨q1, _⟩ := ixN_seq e1
                exact ⟨_, vs, i, j, u, rfl, rfl, h2, hb.1, hb.2, by rw [h3.length]; exact q1, h4, p w _ u g1 s1 h5⟩
              · exact p.elim
      | _ => exact p.elim
def dInsert : D → List D → M D := fun x ds S => match mutL S x, ds with
  | some (n, es), [.int i, y] => if (decide (es.length < lineN) && decide (0 ≤ i) && decide (i < 2 ^ 63)) = true then some (.ok .non (S.set n (.lst (es.take i.toNat ++ [y] ++ es.drop i.toNat)))) else none
  | _, _ => none
theorem opM_insert : OpM X (fun x vs H Q => ∃ (l : Addr) (xs : List V) (i : Int) (y : V), x = .ref l ∧ vs = [.int i, y] ∧ H l = some (.lst xs) ∧ xs.length < sizeLine ∧ 0 ≤ i ∧ i < 2 ^ 63 ∧
    Q .non (upd H l (.lst (xs.take i.toNat ++ [y] ++ xs.drop i.toNat)))) dInsert := fun w S H x xs d ds Q W si rx rxs p => by
  unfold dInsert at p
  cases e : mutL S d with
  | none => rw [e] at p; exact p.elim
  | some ne =>
    obtain ⟨n, es⟩ := ne
    rw [e] at p
    try dsimp only at p
    obtain ⟨rfl, h1, vs, h2, h3⟩ := mutL_is si rx e
    cases rxs with
    | nil => exact p.elim
    | @cons v1 vs1 d1 ds1 r1 r2 =>
      cases d1 with
      | int i =>
        cases r1
        cases r2 with
        | nil => exact p.elim
        | @cons v2 vs2 d2 ds2 r2 r3 =>
          cases r3 with
          | cons _ _ => exact p.elim
          | nil =>
            dsimp only at p
            split at p
            · rename_i hb
              rw [Bool.and_eq_true, Bool.and_eq_true, decide_eq_true_eq, decide_eq_true_eq, decide_eq_true_eq] at hb
              obtain ⟨s1, g1⟩ := mutL_set si h1 (((h3.take i.toNat).append (.cons r2 .nil)).append (h3.drop i.toNat))
              exact ⟨_, vs, i, v2, rfl, rfl, h2, by rw [h3.length, line_is]; exact hb.1.1, hb.1.2, hb.2, p w _ .non g1 s1 .non⟩
            · exact p.elim
      | _ => exact p.elim
theorem erase_mapX : ∀ (l : List Int) (j : Nat), (l.map V.int).eraseIdx j = (l.eraseIdx j).map V.int
  | [], _ => rfl
  | _ :: _, 0 => rfl
  | x :: r, j + 1 => by
    show V.int x :: (r.map V.int).eraseIdx j = V.int x :: (r.eraseIdx j).map V.int
    rw [erase_mapX r j]
/-- remove an int -/
def dRemove : D → List D → M D := fun x ds S => match mutL S x, ds with
  | some (n, es), [.int k] => match intsOf es with
    | some ns => match ns.findIdx? (fun z => decide (z = k)) with
      | some j => some (.ok .non (S.set n (.lst (es.eraseIdx j))))
      | none => none
    | none => none
  | _, _ => none
theorem opM_remove : OpM X rRemI dRemove := fun w S H x xs d ds Q W si rx rxs p => by
  unfold dRemove at p
  cases e : mutL S d with
  | none => rw [e] at p; exact p.elim
  | some ne =>
    obtain ⟨n, es⟩ := ne
    rw [e] at p
    try dsimp only at p
    obtain ⟨rfl, h1, vs, h2, h3⟩ := mutL_is si rx e
    cases rxs with
    | nil => exact p.elim
    | @cons v1 vs1 d1 ds1 r1 r2 =>
      cases d1 with
      | int k =>
        cases r1
        cases r2 with
        | cons _ _ => exact p.elim
        | nil =>
          dsimp only at p
          cases e1 : intsOf es with
          | none => rw [e1] at p; exact p.elim
          | some ns =>
            rw [e1] at p
            dsimp only at p
            cases e2 : ns.findIdx? (fun z => decide (z = k)) with
            | none => rw [e2] at p; exact p.elim
            | some j =>
              rw [e2] at p
              obtain ⟨s1, g1⟩ := mutL_set si h1 (h3.eraseIdx j)
              have hv := ints_is h3 e1
              obtain ⟨hj, hk, hno⟩ := List.findIdx?_eq_some_iff_getElem.mp e2
              rw [hv, erase_mapX] at g1 s1
              refine ⟨_, ns, k, j, rfl, rfl, by rw [← hv]; exact h2, ?_, fun m hm hc => ?_, p w _ .non g1 s1 .non⟩
              · rw [List.getElem?_eq_getElem hj]
                exact congrArg some (of_decide_eq_true hk)
              · have hm' : m < ns.length := by omega
                rw [List.getElem?_eq_getElem hm'] at hc
                have := hno m hm
                rw [Option.some.inj hc] at this
                simp at this
      | _ => exact p.elim
/-- index, flat things -/
def dIndex : D → List D → M D := fun x ds S => match lstOf S x, ds with
  | some es, [y] => if (flatD y && es.all flatD) = true then match es.findIdx? (fun z => eqD0 z y) with
      | some j => some (.ok (.int (j : Nat)) S)
      | none => none
    else none
  | _, _ => none
theorem opM_index : OpM X (rIndex X.K) dIndex := fun w S H x xs d ds Q W si rx rxs p => by
  unfold dIndex at p
  cases e : lstOf S d with
  | none => rw [e] at p; exact p.elim
  | some es =>
    rw [e] at p
    obtain ⟨a, vs, rfl, h2, h3⟩ := lst_is si rx e
    cases rxs with
    | nil => exact p.elim
    | @cons v1 vs1 d1 ds1 r1 r2 =>
      cases r2 with
      | cons _ _ => exact p.elim
      | nil =>
        dsimp only at p
        split at p
        · rename_i hf
          rw [Bool.and_eq_true] at hf
          cases e2 : es.findIdx? (fun z => eqD0 z d1) with
          | none => rw [e2] at p; exact p.elim
          | some j =>
            rw [e2] at p
            obtain ⟨hj, hk, hno⟩ := List.findIdx?_eq_some_iff_getElem.mp e2
            obtain ⟨z, hz, rz⟩ := h3.get (List.getElem?_eq_getElem hj)
            refine ⟨a, vs, v1, j, z, rfl, rfl, h2, by rw [flat_is r1]; exact hf.1, by rw [flats_is h3]; exact hf.2, hz, by rw [eqV_is rz r1]; exact hk, fun m z' hm hz' => ?_, p w H _ (Go.refl _ _ _) si (.int _)⟩
            obtain ⟨d', hd', rd'⟩ := h3.getV hz'
            rw [eqV_is rd' r1]
            have hm' : m < es.length := by omega
            rw [List.getElem?_eq_getElem hm'] at hd'
            have := hno m hm
            rw [Option.some.inj hd'] at this
            simpa using this
        · exact p.elim

/-! ### dicts: displays, copies, get, pop -/
def mkD (kvs : List (Key × D)) : M D := fun S => some (.ok (.dct kvs) S)
def mkDo (kvs : List (Key × D)) : M D := fun S => some (.ok (.obj S.nx) (S.add (.dk kvs)))
/-- how a made dict is kept -/
abbrev MkD (X : Cx) (mk : List (Key × D) → M D) : Prop := ∀ {w0 w : Wd} {S0 S : MS} {H0 H : Hp} {a : Addr} {kws kws0 : List (Key × V)} {kvs : List (Key × D)} {W : Value → Option Addr → Hp → Prop} {Q : VK}, SI X.K X.mg w0 S0 H0 → H0 a = none → Go w0 S0 (upd H0 a (.dK kws0)) w S H → SI X.K X.mg w S H → RepK X.K w kws kvs →
  Po X.K X.mg (RV' X.K) W w0 S0 H0 Q (mk kvs S) → H a = some (.dK kws0) ∧ (Q (.ref a) (upd H a (.dK kws)) ∨ ∀ od, Q (.ref a) (upd (upd H a (.dK kws)) a (.frz od (.dK kws))))
theorem adopt {K : PySem.W.Frag} {mg : Str → Option Value} {w0 w : Wd} {S0 S : MS} {H0 H : Hp} {a : Addr} {o : HO} (si0 : SI K mg w0 S0 H0) (ha : H0 a = none) (g : Go w0 S0 (upd H0 a o) w S H) (si : SI K mg w S H) :
    H a = some o ∧ w.F a = none ∧ (∀ n ob, S.get n = some ob → w.φ n ≠ a) ∧ (∀ b u, Fo w0 S0 H0 b u → b ≠ a ∧ Fo w S H b u) ∧ ∀ b ob u, H0 b = some (.frz ob u) → b ≠ a ∧ H b = some (.frz ob u) := by
  obtain ⟨h1, h2, h3⟩ := g.fo a o (fo_new si0 ha o)
  refine ⟨h1, h2, h3, fun b u hb => ?_, fun b ob u hb => ?_⟩
  · have ne : b ≠ a := ne_of_none hb.1 ha
    exact ⟨ne, g.fo b u ⟨by rw [upd_ne ne]; exact hb.1, hb.2⟩⟩
  · have ne : b ≠ a := ne_of_none hb ha
    exact ⟨ne, g.fz b ob u (by rw [upd_ne ne]; exact hb)⟩
/-- a thing that was nobody's becomes data -/
theorem adoptF {K : PySem.W.Frag} {mg : Str → Option Value} {w0 w : Wd} {S0 S : MS} {H0 H : Hp} {a : Addr} {o : HO} (si0 : SI K mg w0 S0 H0) (ha : H0 a = none) (g : Go w0 S0 (upd H0 a o) w S H) (si : SI K mg w S H) (o' : HO) :
    SI K mg ⟨w.φ, upd w.F a o', w.m⟩ S (upd H a o') ∧ Go w0 S0 H0 ⟨w.φ, upd w.F a o', w.m⟩ S (upd H a o') ∧ Le w ⟨w.φ, upd w.F a o', w.m⟩ := by
  obtain ⟨h1, h2, h3, h4, h5⟩ := adopt si0 ha g si
  have le : Le w ⟨w.φ, upd w.F a o', w.m⟩ := ⟨Nat.le_refl _, fun _ _ => rfl, fun b u h => by
    show upd w.F a o' b = some u
    rw [upd_ne (ne_of_none h h2)]; exact h⟩
  refine ⟨⟨si.nx, fun b u h => ?_, fun n ob h => ?_, si.inj⟩, ⟨g.le.trans le, fun b u hb => ?_, fun b ob u hb => ?_⟩, le⟩
  · have h' : upd w.F a o' b = some u := h
    by_cases e : b = a
    · subst e
      rw [upd_same] at h' ⊢
      exact h'
    · rw [upd_ne e] at h' ⊢
      exact si.ex b u h'
  · obtain ⟨q1, q2, ho, q3, q4⟩ := si.st n ob h
    have ne := h3 n ob h
    exact ⟨q1, by show upd w.F a o' (w.φ n) = none; rw [upd_ne ne]; exact q2, ho, by show upd H a o' (w.φ n) = some ho; rw [upd_ne ne]; exact q3, q4.le le⟩
  · obtain ⟨ne, q1, q2, q3⟩ := h4 b u hb
    exact ⟨by rw [upd_ne ne]; exact q1, by show upd w.F a o' b = none; rw [upd_ne ne]; exact q2, q3⟩
  · obtain ⟨ne, q⟩ := h5 b ob u hb
    rw [upd_ne ne]; exact q
/-- .. becomes a thing that may change -/
theorem adoptS {K : PySem.W.Frag} {mg : Str → Option Value} {w0 w : Wd} {S0 S : MS} {H0 H : Hp} {a : Addr} {o : HO} (si0 : SI K mg w0 S0 H0) (ha : H0 a = none) (g : Go w0 S0 (upd H0 a o) w S H) (si : SI K mg w S H) {mo : MO} {ho : HO} (r : ObR K mg w mo ho) :
    SI K mg ⟨fun n => if n = w.m then a else w.φ n, w.F, w.m + 1⟩ (S.add mo) (upd H a ho) ∧ Go w0 S0 H0 ⟨fun n => if n = w.m then a else w.φ n, w.F, w.m + 1⟩ (S.add mo) (upd H a ho) ∧ Rep K ⟨fun n => if n = w.m then a else w.φ n, w.F, w.m + 1⟩ (.ref a) (.obj S.nx) := by
  obtain ⟨h1, h2, h3, h4, h5⟩ := adopt si0 ha g si
  have hn : S.nx = w.m := si.nx
  have le : Le w ⟨fun n => if n = w.m then a else w.φ n, w.F, w.m + 1⟩ := ⟨Nat.le_succ _, fun n h => if_neg (Nat.ne_of_lt h), fun b u h => h⟩
  refine ⟨⟨by show S.nx + 1 = w.m + 1; rw [hn], fun b u h => ?_, fun n ob h => ?_, fun n n' ob ob' h h' e => ?_⟩, ⟨g.le.trans le, fun b u hb => ?_, fun b ob u hb => ?_⟩, ?_⟩
  · have h' : w.F b = some u := h
    rw [upd_ne (ne_of_none h' h2)]
    exact si.ex b u h'
  · have h' : (if n = S.nx then some mo else S.get n) = some ob := h
    by_cases e : n = w.m
    · rw [if_pos (e.trans hn.symm)] at h'
      cases h'
      refine ⟨by show n < w.m + 1; omega, ?_, ho, ?_, r.le le⟩
      · show w.F (if n = w.m then a else w.φ n) = none
        rw [if_pos e]; exact h2
      · show upd H a ho (if n = w.m then a else w.φ n) = some ho
        rw [if_pos e]; exact upd_same
    · rw [if_neg (fun z => e (z.trans hn))] at h'
      obtain ⟨q1, q2, ho', q3, q4⟩ := si.st n ob h'
      refine ⟨by show n < w.m + 1; omega, ?_, ho', ?_, q4.le le⟩
      · show w.F (if n = w.m then a else w.φ n) = none
        rw [if_neg e]; exact q2
      · show upd H a ho (if n = w.m then a else w.φ n) = some ho'
        rw [if_neg e, upd_ne (h3 n ob h')]; exact q3
  · have q1 : (if n = S.nx then some mo else S.get n) = some ob := h
    have q2 : (if n' = S.nx then some mo else S.get n') = some ob' := h'
    have e' : (if n = w.m then a else w.φ n) = (if n' = w.m then a else w.φ n') := e
    by_cases a1 : n = w.m
    · by_cases b1 : n' = w.m
      · rw [a1, b1]
      · rw [if_neg (fun z => b1 (z.trans hn))] at q2
        rw [if_pos a1, if_neg b1] at e'
        exact absurd e'.symm (h3 n' ob' q2)
    · rw [if_neg (fun z => a1 (z.trans hn))] at q1
      by_cases b1 : n' = w.m
      · rw [if_neg a1, if_pos b1] at e'
        exact absurd e' (h3 n ob q1)
      · rw [if_neg (fun z => b1 (z.trans hn))] at q2
        rw [if_neg a1, if_neg b1] at e'
        exact si.inj n n' ob ob' q1 q2 e'
  · obtain ⟨ne, q1, q2, q3⟩ := h4 b u hb
    refine ⟨by rw [upd_ne ne]; exact q1, q2, fun n ob h => ?_⟩
    have h' : (if n = S.nx then some mo else S.get n) = some ob := h
    show (if n = w.m then a else w.φ n) ≠ b
    by_cases e : n = w.m
    · rw [if_pos e]; exact ne.symm
    · rw [if_neg e]
      rw [if_neg (fun z => e (z.trans hn))] at h'
      exact q3 n ob h'
  · obtain ⟨ne, q⟩ := h5 b ob u hb
    rw [upd_ne ne]; exact q
  · have ex : (fun n => if n = w.m then a else w.φ n) S.nx = a := by
      show (if S.nx = w.m then a else w.φ S.nx) = a
      rw [if_pos hn]
    have z := Rep.obj (K := K) (w := ⟨fun n => if n = w.m then a else w.φ n, w.F, w.m + 1⟩) (n := S.nx) (by show S.nx < w.m + 1; rw [hn]; exact Nat.lt_succ_self _)
    rw [show (⟨fun n => if n = w.m then a else w.φ n, w.F, w.m + 1⟩ : Wd).φ S.nx = a from ex] at z
    exact z
theorem upd2 {H : Hp} {a : Addr} {o u : HO} : upd (upd H a o) a u = upd H a u := upd_upd
theorem mkD_s : MkD X mkD := fun {w0 w S0 S H0 H a kws kws0 kvs W Q} si0 ha g si r p => by
  refine ⟨(adopt si0 ha g si).1, .inr fun od => ?_⟩
  rw [upd2]
  obtain ⟨s1, g1, l1⟩ := adoptF si0 ha g si (.frz od (.dK kws))
  exact p _ _ _ g1 s1 (.dct (ob := od) upd_same (r.le l1))
theorem mkDo_s : MkD X mkDo := fun {w0 w S0 S H0 H a kws kws0 kvs W Q} si0 ha g si r p => by
  refine ⟨(adopt si0 ha g si).1, .inl ?_⟩
  obtain ⟨s1, g1, r1⟩ := adoptS si0 ha g si (mo := .dk kvs) (ho := .dK kws) r
  exact p _ _ _ g1 s1 r1
def Q2 (Q : VK) : VK := fun v H => Q v H ∨ ∃ a kvs, H a = some (.dK kvs) ∧ ∀ od, Q v (upd H a (.frz od (.dK kvs)))
theorem q2_of {Q : VK} {a : Addr} {H : Hp} {kws : List (Key × V)} (h : Q (.ref a) (upd H a (.dK kws)) ∨ ∀ od, Q (.ref a) (upd (upd H a (.dK kws)) a (.frz od (.dK kws)))) : Q2 Q (.ref a) (upd H a (.dK kws)) := by
  rcases h with h | h
  · exact .inl h
  · exact .inr ⟨a, kws, upd_same, h⟩
/-- {} -/
def mDct0 (mk : List (Key × D) → M D) : ME := fun _ => mk []
theorem j_dct0 {mk : List (Key × D) → M D} (hk : MkD X mk) {pos : Pos} : JE X C (.Dict [] [] pos) (mDct0 mk) := PE.weak (pe_post pe_dnewK) fun σ H Q ⟨w, S, env, me, p⟩ => fun a ha => by
  obtain ⟨s1, g1⟩ := me.si.fr ha (.dK [])
  obtain ⟨_, q⟩ := hk (kws := []) me.si ha (Go.refl _ _ _) s1 .nil p
  rw [upd2] at q
  exact q2_of q
/-- {k: v, ..} -/
def mPairs : List (ME × ME) → En → M (List (D × D))
  | [], _ => ret []
  | (k, v) :: r, env => bnd (k env) fun x => bnd (v env) fun y => bnd (mPairs r env) fun ps => ret ((x, y) :: ps)
def keysOf : List (D × D) → Option (List (Key × D))
  | [] => some []
  | (k, v) :: r => match toKey k, keysOf r with
    | some k', some r' => some ((k', v) :: r')
    | _, _ => none
def dMerge (kvs more : List (Key × D)) : List (Key × D) := more.foldl (fun acc kv => dPutK acc kv.1 kv.2) kvs
def mDct (mk : List (Key × D) → M D) (ps : List (ME × ME)) : ME := fun env => bnd (mPairs ps env) fun ps => match keysOf ps with
  | some kvs => if kvs.length ≤ 15 then mk (dMerge [] kvs) else stuck
  | none => stuck
def JPs (X : Cx) (C : Cy X) (pos : Pos) (keys : List (Option Expr)) (values : List Expr) (ps : List (ME × ME)) : Prop := PPs X pos keys values (ps.map fun p => (tE C p.1, tE C p.2))
theorem jps_nil {pos : Pos} : JPs X C pos [] [] [] := pps_nil
theorem jps_cons {pos : Pos} {k v : Expr} {ks : List (Option Expr)} {vs : List Expr} {mk mv : ME} {r : List (ME × ME)} (hk : JE X C k mk) (hv : JE X C v mv) (hr : JPs X C pos ks vs r) : JPs X C pos (some k :: ks) (v :: vs) ((mk, mv) :: r) := pps_cons hk hv hr
def RepP (K : PySem.W.Frag) (w : Wd) : List (V × V) → List (D × D) → Prop
  | [], [] => True
  | (x, y) :: r, (d, e) :: s => Rep K w x d ∧ Rep K w y e ∧ RepP K w r s
  | _, _ => False
theorem pairs_go : ∀ {ps : List (ME × ME)} {w : Wd} {S : MS} {env : En} {σ : St} {H : Hp} {Q' : List (V × V) → Hp → Prop}, Me X C w S env σ H → Po X.K X.mg (fun w _ _ vs ds => RepP X.K w vs ds) (fun c d H => C.W c d σ H) w S H Q' (mPairs ps env S) → tPairs (ps.map fun p => (tE C p.1, tE C p.2)) σ H Q'
  | [], w, S, env, σ, H, Q', me, p => p w H [] (Go.refl _ _ _) me.si True.intro
  | (k, v) :: r, w, S, env, σ, H, Q', me, p => by
    refine ⟨w, S, env, me, po_bnd me p fun w1 S1 H1 x d me1 rx g1 p1 => ?_⟩
    refine ⟨w1, S1, env, me1, po_bnd me1 p1 fun w2 S2 H2 y e me2 ry g2 p2 => ?_⟩
    refine pairs_go (ps := r) me2 (po_bnd (γ := List (V × V)) (Ra := fun w _ _ vs ds => RepP X.K w vs ds) me2 p2 fun w3 S3 H3 ps ds me3 rp g3 p3 => ?_)
    exact p3 w3 H3 ((x, y) :: ps) (Go.refl _ _ _) me3.si ⟨rx.le (g2.le.trans g3.le), ry.le g3.le, rp⟩
theorem keys_is {K : PySem.W.Frag} {w : Wd} : ∀ {ds : List (D × D)} {ps : List (V × V)} {kvs : List (Key × D)}, RepP K w ps ds → keysOf ds = some kvs → ∃ kws, ps = kws.map (fun kv => (kV kv.1, kv.2)) ∧ RepK K w kws kvs
  | [], [], _, _, h => by
    cases h
    exact ⟨[], rfl, .nil⟩
  | (d, e) :: s, [], _, r, h => r.elim
  | [], (x, y) :: r, _, h, _ => h.elim
  | (d, e) :: s, (x, y) :: r, _, h, g => by
    unfold keysOf at g
    cases e1 : toKey d with
    | none => rw [e1] at g; cases g
    | some k =>
      cases e2 : keysOf s with
      | none => rw [e1, e2] at g; cases g
      | some t =>
        rw [e1, e2] at g
        cases g
        obtain ⟨kws, h1, h2⟩ := keys_is h.2.2 e2
        have hx : x = kV k := by
          have r1 := h.1
          cases d <;> first | (cases e1; done) | (cases r1; cases e1; rfl)
        exact ⟨(k, y) :: kws, by rw [h1, hx]; rfl, .cons h.2.1 h2⟩
theorem RepK.merge {w : Wd} : ∀ {more : List (Key × V)} {dm : List (Key × D)} {kws : List (Key × V)} {kvs : List (Key × D)}, RepK X.K w more dm → RepK X.K w kws kvs → RepK X.K w (mergeK kws more) (dMerge kvs dm)
  | _, [], _, _, h, g => by
    cases h
    exact g
  | _, (k, d) :: r, _, _, h, g => by
    cases h with
    | @cons _ v vs _ _ h1 h2 =>
      show RepK X.K w (mergeK (putK _ k v) vs) (dMerge (dPutK _ k d) r)
      exact RepK.merge h2 (g.put k h1)
theorem j_dct {mk : List (Key × D) → M D} (hk : MkD X mk) {pos : Pos} {keys : List (Option Expr)} {values : List Expr} {ps : List (ME × ME)} (h : JPs X C pos keys values ps) (hall : keys.all (·.isSome) = true := by rfl) (hl : keys.length = values.length := by rfl) (h0 : keys ≠ [] := by intro z; cases z)
    (hfew : decide (keys.length ≤ 15) = true := by decide) : JE X C (.Dict keys values pos) (mDct mk ps) := PE.weak (pe_post (pe_disp h hall hl h0 (of_decide_eq_true hfew))) fun σ H Q ⟨w, S, env, me, p⟩ => by
  intro a ha
  obtain ⟨s1, g1⟩ := me.si.fr ha (.dK [])
  have me1 := me.go g1 s1
  have p' : Po X.K X.mg (fun w _ _ vs ds => RepP X.K w vs ds) (fun c d H => C.W c d σ H) w S (upd H a (.dK [])) (fun ps H2 => H2 a = some (.dK []) ∧ ∃ kvs : List (Key × V), ps = kvs.map (fun kv => (kV kv.1, kv.2)) ∧ kvs.length ≤ 15 ∧ Q2 Q (.ref a) (upd H2 a (.dK (mergeK [] kvs)))) (mPairs ps env S) := by
    unfold mDct bnd at p
    cases e : mPairs ps env S with
    | none => rw [e] at p; exact p
    | some o =>
      rw [e] at p
      cases o with
      | exc ex S' => exact fun w' H' cls dx g => p w' H' cls dx (g1.trans g)
      | ok ds S' =>
        dsimp only at p
        intro w' H' vs g s r
        cases e2 : keysOf ds with
        | none => rw [e2] at p; exact p.elim
        | some kvs =>
          rw [e2] at p
          dsimp only at p
          split at p
          · rename_i hz
            obtain ⟨kws, h1, h2⟩ := keys_is r e2
            obtain ⟨q1, q2⟩ := hk (kws := mergeK [] kws) me.si ha g s (h2.merge .nil) p
            exact ⟨q1, kws, h1, by rw [h2.length]; exact hz, q2_of q2⟩
          · exact p.elim
  exact pairs_go me1 p'
end
end Mi
namespace Mi
open PySem L2

/-! ### what a loop walks -/
def keysD (kvs : List (Key × D)) : List D := kvs.map fun kv => keyD kv.1
def itAny (S : MS) : D → Option (List D)
  | .lst ds => some ds
  | .src ds => some ds
  | .tup ds => some ds
  | .dct kvs => some (keysD kvs)
  | .obj n => match S.get n with
    | some (.ll ds) => some ds
    | some (.lk kvs) => some (keysD kvs)
    | _ => none
  | _ => none
def mIt (m : ME) : MA := fun env => bnd (m env) fun d S => match itAny S d with
  | some ds => some (.ok ds S)
  | none => none
def itVals (S : MS) : D → Option (List D)
  | .dct kvs => some (kvs.map (·.2))
  | .obj n => match S.get n with
    | some (.lk kvs) => some (kvs.map (·.2))
    | _ => none
  | _ => none
def mItV (m : ME) : MA := fun env => bnd (m env) fun d S => match itVals S d with
  | some ds => some (.ok ds S)
  | none => none
def rngN (lo c : Int) (n : Nat) : List D := (List.range n).map fun i => .int (lo + (i : Nat) * c)
def mRange1 (ms : MA) : MA := fun env => bnd (ms env) fun ds => match ds with
  | [.int j] => if (decide (-(2 ^ 62) ≤ j) && decide (j < 2 ^ 62)) = true then ret (rngN 0 1 j.toNat) else stuck
  | _ => stuck
def mRange2 (ms : MA) : MA := fun env => bnd (ms env) fun ds => match ds with
  | [.int i, .int j] => if (decide (-(2 ^ 62) ≤ i) && decide (i < 2 ^ 62) && decide (-(2 ^ 62) ≤ j) && decide (j < 2 ^ 62)) = true then ret (rngN i 1 (j - i).toNat) else stuck
  | _ => stuck
def mRange3 (ms : MA) : MA := fun env => bnd (ms env) fun ds => match ds with
  | [.int i, .int j, .int c] => if (decide (c ≠ 0) && decide (c.natAbs < 1073741824) && Builtin.Range.small i j c && decide (0 ≤ Builtin.Range.rangeSize i j c)) = true then ret (rngN i c (Builtin.Range.rangeSize i j c).toNat) else stuck
  | _ => stuck
def zipD : List D → List D → List D
  | x :: r, y :: s => .tup [x, y] :: zipD r s
  | _, _ => []
section
variable {X : Cx} {C : Cy X} {pos : Pos}
theorem RepK.getV {K : PySem.W.Frag} {w : Wd} : ∀ {kws : List (Key × V)} {kvs : List (Key × D)} {i : Nat} {k : Key} {v : V}, RepK K w kws kvs → kws[i]? = some (k, v) → ∃ d, kvs[i]? = some (k, d) ∧ Rep K w v d
  | [], _, _, _, _, h, e => by simp at e
  | (k0, v0) :: kws, _, i, k, v, h, e => by
    cases h with
    | cons h1 h2 =>
      cases i with
      | zero =>
        simp at e
        obtain ⟨e1, e2⟩ := e
        subst e1
        subst e2
        exact ⟨_, rfl, h1⟩
      | succ i =>
        obtain ⟨u, a, b⟩ := RepK.getV (i := i) h2 (by simpa using e)
        exact ⟨u, by simpa using a, b⟩
theorem itl_is {w : Wd} {S : MS} {H : Hp} {a : Addr} {vs : List V} {ds : List D} (hq : ∀ w' S' H', Go w S H w' S' H' → SI X.K X.mg w' S' H' → SqL X.K H' a vs) (r : RepL X.K w vs ds) : ItR X w S H (Itl X.K a) ds := by
  intro i w' S' H' g si
  have h := hq w' S' H' g si
  refine ⟨fun e => ⟨vs, h, by rw [r.length, e]; exact Nat.le_refl _⟩, fun d hd => ?_⟩
  obtain ⟨v, h1, h2⟩ := r.get hd
  refine ⟨⟨vs, v, h, h1⟩, fun x H'' y => ?_⟩
  obtain ⟨e, y⟩ := y
  subst e
  have y1 := y vs h
  rw [h1] at y1
  cases y1
  exact ⟨w', Go.refl _ _ _, si, h2.le g.le⟩
theorem itt_is {w : Wd} {S : MS} {H : Hp} {a : Addr} {vs : List V} {ds : List D} (hq : ∀ w' S' H', Go w S H w' S' H' → SI X.K X.mg w' S' H' → SqT X.K H' a vs) (r : RepL X.K w vs ds) : ItR X w S H (Itt X.K a) ds := by
  intro i w' S' H' g si
  have h := hq w' S' H' g si
  refine ⟨fun e => ⟨vs, h, by rw [r.length, e]; exact Nat.le_refl _⟩, fun d hd => ?_⟩
  obtain ⟨v, h1, h2⟩ := r.get hd
  refine ⟨⟨vs, v, h, h1⟩, fun x H'' y => ?_⟩
  obtain ⟨e, y⟩ := y
  subst e
  have y1 := y vs h
  rw [h1] at y1
  cases y1
  exact ⟨w', Go.refl _ _ _, si, h2.le g.le⟩
theorem itk_is {w : Wd} {S : MS} {H : Hp} {a : Addr} {o : Obj} {kws : List (Key × V)} {kvs : List (Key × D)} (h0 : H a = some (.frz o (.dK kws))) (r : RepK X.K w kws kvs) : ItR X w S H (Itk a o kws) (keysD kvs) := by
  intro i w' S' H' g si
  have h := g.fz a o _ h0
  have hl : (keysD kvs).length = kws.length := by unfold keysD; rw [List.length_map, r.length]
  refine ⟨fun e => ⟨h, by rw [← hl, e]; exact Nat.le_refl _⟩, fun d hd => ?_⟩
  have hi : i < kws.length := by
    rw [← hl]
    exact (List.getElem?_eq_some_iff.mp hd).1
  refine ⟨⟨h, hi⟩, fun x H'' y => ?_⟩
  obtain ⟨e, k, v, y1, y2⟩ := y
  subst e
  subst y2
  obtain ⟨d', q1, q2⟩ := r.getV y1
  unfold keysD at hd
  rw [List.getElem?_map, q1] at hd
  cases hd
  exact ⟨w', Go.refl _ _ _, si, keyD_rep k⟩
theorem itd_is {w : Wd} {S : MS} {H : Hp} {a : Addr} {o : Obj} {kws : List (Key × V)} {kvs : List (Key × D)} (h0 : H a = some (.frz o (.dK kws))) (r : RepK X.K w kws kvs) : ItR X w S H (Itd a o kws) (kvs.map (·.2)) := by
  intro i w' S' H' g si
  have h := g.fz a o _ h0
  have hl : (kvs.map (·.2)).length = kws.length := by rw [List.length_map, r.length]
  refine ⟨fun e => ⟨h, by rw [← hl, e]; exact Nat.le_refl _⟩, fun d hd => ?_⟩
  have hi : i < kws.length := by
    rw [← hl]
    exact (List.getElem?_eq_some_iff.mp hd).1
  refine ⟨⟨h, hi⟩, fun x H'' y => ?_⟩
  obtain ⟨e, k, y1⟩ := y
  subst e
  obtain ⟨d', q1, q2⟩ := r.getV y1
  rw [List.getElem?_map, q1] at hd
  cases hd
  exact ⟨w', Go.refl _ _ _, si, q2.le g.le⟩
theorem itr_is {w : Wd} {S : MS} {H : Hp} (lo : Int) (n : Nat) : ItR X w S H (Itr lo n) (rngN lo 1 n) := by
  intro i w' S' H' g si
  refine ⟨fun e => by show n ≤ i; rw [e]; unfold rngN; simp, fun d hd => ?_⟩
  have hi : i < n := by
    have := (List.getElem?_eq_some_iff.mp hd).1
    unfold rngN at this
    simpa using this
  unfold rngN at hd
  rw [List.getElem?_map, List.getElem?_range hi] at hd
  cases hd
  refine ⟨hi, fun x H'' y => ?_⟩
  obtain ⟨e, y⟩ := y
  subst e
  subst y
  exact ⟨w', Go.refl _ _ _, si, by show Rep X.K w' _ (D.int (lo + (i : Int) * 1)); rw [Int.mul_one]; exact .int _⟩
theorem itc_is {w : Wd} {S : MS} {H : Hp} (lo c : Int) (n : Nat) : ItR X w S H (Itc lo c n) (rngN lo c n) := by
  intro i w' S' H' g si
  refine ⟨fun e => by show n ≤ i; rw [e]; unfold rngN; simp, fun d hd => ?_⟩
  have hi : i < n := by
    have := (List.getElem?_eq_some_iff.mp hd).1
    unfold rngN at this
    simpa using this
  unfold rngN at hd
  rw [List.getElem?_map, List.getElem?_range hi] at hd
  cases hd
  refine ⟨hi, fun x H'' y => ?_⟩
  obtain ⟨e, y⟩ := y
  subst e
  subst y
  exact ⟨w', Go.refl _ _ _, si, .int _⟩
theorem ji_any {tg e : Expr} {m : ME} (he : JE X C e m) : JI X C tg e (mIt m) := ⟨fun pins s σ H R I ⟨w, S, env, me, p⟩ => by
  unfold mIt bnd at p
  cases e1 : m env S with
  | none => rw [e1] at p; exact p.elim
  | some r =>
    rw [e1] at p
    cases r with
    | exc ex S' => exact (pi_list he).run pins s σ H R I ⟨w, S, env, me, by rw [e1]; exact p⟩
    | ok d S' =>
      dsimp only at p
      cases d with
      | lst ds =>
        refine (pi_list he).run pins s σ H R I ⟨w, S, env, me, by
          rw [e1]
          intro w' H' v g si rv
          cases rv with
          | @lst a vs _ h1 h2 => exact ⟨a, rfl, ⟨vs, .inl (rd_ex si.ex h1)⟩, p w' H' _ g si (itl_is (fun w2 S2 H2 g2 s2 => .inl (rd_ex s2.ex (rd_ex g2.le.ex h1))) h2)⟩⟩
      | src ds =>
        refine (pi_list he).run pins s σ H R I ⟨w, S, env, me, by
          rw [e1]
          intro w' H' v g si rv
          cases rv with
          | @src a vs _ h1 h2 => exact ⟨a, rfl, ⟨vs, sql_ex si.ex h1⟩, p w' H' _ g si (itl_is (fun w2 S2 H2 g2 s2 => sql_ex s2.ex (sql_ex g2.le.ex h1)) h2)⟩⟩
      | tup ds =>
        refine (pi_tup he).run pins s σ H R I ⟨w, S, env, me, by
          rw [e1]
          intro w' H' v g si rv
          cases rv with
          | @tup a vs _ h1 h2 => exact ⟨a, rfl, ⟨vs, sqt_ex si.ex h1⟩, p w' H' _ g si (itt_is (fun w2 S2 H2 g2 s2 => sqt_ex s2.ex (sqt_ex g2.le.ex h1)) h2)⟩⟩
      | dct kvs =>
        refine (pi_keys he).run pins s σ H R I ⟨w, S, env, me, by
          rw [e1]
          intro w' H' v g si rv
          cases rv with
          | @dct a ob kws _ h1 h2 => exact ⟨a, ob, rfl, .inl ⟨kws, si.ex _ _ h1, p w' H' _ g si (itk_is (si.ex _ _ h1) h2)⟩⟩⟩
      | obj n =>
        unfold itAny at p
        dsimp only at p
        cases e2 : S'.get n with
        | none => rw [e2] at p; exact p.elim
        | some o =>
          rw [e2] at p
          cases o with
          | ll ds =>
            refine (pi_list he).run pins s σ H R I ⟨w, S, env, me, by
              rw [e1]
              intro w' H' v g si rv
              cases rv with
              | obj hn =>
                obtain ⟨_, _, ho, h3, h4⟩ := si.st n _ e2
                cases ho with
                | frz ob u =>
                  cases u with
                  | lst vs => exact ⟨_, rfl, ⟨vs, .inl (.inr ⟨_, h3⟩)⟩, p w' H' _ g si (itl_is (fun w2 S2 H2 g2 s2 => .inl (.inr ⟨_, g2.fz _ _ _ h3⟩)) h4)⟩
                  | _ => exact h4.elim
                | _ => exact h4.elim⟩
          | lk kvs =>
            refine (pi_keys he).run pins s σ H R I ⟨w, S, env, me, by
              rw [e1]
              intro w' H' v g si rv
              cases rv with
              | obj hn =>
                obtain ⟨_, _, ho, h3, h4⟩ := si.st n _ e2
                cases ho with
                | frz ob u =>
                  cases u with
                  | dK kws => exact ⟨_, ob, rfl, .inl ⟨kws, h3, p w' H' _ g si (itk_is h3 h4)⟩⟩
                  | _ => exact h4.elim
                | _ => exact h4.elim⟩
          | _ => exact p.elim
      | _ => exact p.elim⟩
theorem ji_vals {tg e : Expr} {m : ME} {apos cpos : Pos} (he : JE X C e m) (hbase : attributeBase e "values" X.env (eval e X.env) = eval e X.env := by rfl) (hline : (apos.endLine == cpos.line) = true := by rfl) : JI X C tg (.Call (.Attribute e "values" apos) [] [] cpos) (mItV m) := PI.weak (pi_values he hbase hline) fun σ H R ⟨w, S, env, me, p⟩ => by
  refine ⟨w, S, env, me, po_bnd me p fun w1 S1 H1 v d me1 rv g1 p1 => ?_⟩
  cases d with
  | dct kvs =>
    cases rv with
    | @dct a ob kws _ h1 h2 => exact ⟨a, ob, kws, rfl, me1.si.ex _ _ h1, p1 w1 H1 _ (Go.refl _ _ _) me1.si (itd_is (me1.si.ex _ _ h1) h2)⟩
  | obj n =>
    cases rv with
    | obj hn =>
      unfold itVals at p1
      dsimp only at p1
      cases e2 : S1.get n with
      | none => rw [e2] at p1; exact p1.elim
      | some o =>
        rw [e2] at p1
        cases o with
        | lk kvs =>
          obtain ⟨_, _, ho, h3, h4⟩ := me1.si.st n _ e2
          cases ho with
          | frz ob u =>
            cases u with
            | dK kws => exact ⟨_, ob, kws, rfl, h3, p1 w1 H1 _ (Go.refl _ _ _) me1.si (itd_is h3 h4)⟩
            | _ => exact h4.elim
          | _ => exact h4.elim
        | _ => exact p1.elim
  | _ => exact p1.elim
theorem ji_range1 {tg a : Expr} {ms : MA} {p : Pos} (hg : Gl X "range") (hm : X.mg "range" = none) (ha : JA X C [a] ms) (hs : starEach [a] X.env = [(false, eval a X.env)] := by rfl) : JI X C tg (.Call (.Name "range" p) [a] [] pos) (mRange1 ms) := PI.weak (pi_range1 hg hm ha hs) fun σ H R ⟨w, S, env, me, p⟩ => by
  refine ⟨w, S, env, me, po_bnd me p fun w1 S1 H1 vs ds me1 rv g1 p1 => ?_⟩
  cases rv with
  | nil => exact p1.elim
  | @cons v1 vs d1 ds r1 r2 =>
    cases d1 with
    | int i =>
      cases r1
      cases r2 with
      | nil =>
        dsimp only at p1
        split at p1
        · rename_i hb
          simp only [Bool.and_eq_true, decide_eq_true_eq] at hb
          exact ⟨i, rfl, hb.1, hb.2, p1 w1 H1 _ (Go.refl _ _ _) me1.si (itr_is 0 _)⟩
        · exact p1.elim
      | cons _ _ => exact p1.elim
    | _ => exact p1.elim
theorem ji_range2 {tg a b : Expr} {ms : MA} {p : Pos} (hg : Gl X "range") (hm : X.mg "range" = none) (ha : JA X C [a, b] ms) (hs : starEach [a, b] X.env = [(false, eval a X.env), (false, eval b X.env)] := by rfl) (hs2 : starEach [b] X.env = [(false, eval b X.env)] := by rfl) :
    JI X C tg (.Call (.Name "range" p) [a, b] [] pos) (mRange2 ms) := PI.weak (pi_range2 hg hm ha hs hs2) fun σ H R ⟨w, S, env, me, p⟩ => by
  refine ⟨w, S, env, me, po_bnd me p fun w1 S1 H1 vs ds me1 rv g1 p1 => ?_⟩
  cases rv with
  | nil => exact p1.elim
  | @cons v1 vs d1 ds r1 r2 =>
    cases d1 with
    | int i =>
      cases r1
      cases r2 with
      | nil => exact p1.elim
      | @cons v2 vs d2 ds r2 r3 =>
        cases d2 with
        | int j =>
          cases r2
          cases r3 with
          | nil =>
            dsimp only at p1
            split at p1
            · rename_i hb
              simp only [Bool.and_eq_true, decide_eq_true_eq] at hb
              exact ⟨i, j, rfl, ⟨hb.1.1.1, hb.1.1.2, hb.1.2, hb.2⟩, p1 w1 H1 _ (Go.refl _ _ _) me1.si (itr_is i _)⟩
            · exact p1.elim
          | cons _ _ => exact p1.elim
        | _ => exact p1.elim
    | _ => exact p1.elim
theorem ji_range3 {tg a b c : Expr} {ms : MA} {p : Pos} (hg : Gl X "range") (hm : X.mg "range" = none) (ha : JA X C [a, b, c] ms)
    (hs : starEach [a, b, c] X.env = (false, eval a X.env) :: starEach [b, c] X.env := by rfl) (hpl : (backTo pos (starEach [b, c] X.env)).any (·.1) = false := by rfl) :
    JI X C tg (.Call (.Name "range" p) [a, b, c] [] pos) (mRange3 ms) := PI.weak (pi_range3 hg hm ha hs hpl) fun σ H R ⟨w, S, env, me, p⟩ => by
  refine ⟨w, S, env, me, po_bnd me p fun w1 S1 H1 vs ds me1 rv g1 p1 => ?_⟩
  cases rv with
  | nil => exact p1.elim
  | @cons v1 vs d1 ds r1 r2 =>
    cases d1 with
    | int i =>
      cases r1
      cases r2 with
      | nil => exact p1.elim
      | @cons v2 vs d2 ds r2 r3 =>
        cases d2 with
        | int j =>
          cases r2
          cases r3 with
          | nil => exact p1.elim
          | @cons v3 vs d3 ds r3 r4 =>
            cases d3 with
            | int c =>
              cases r3
              cases r4 with
              | nil =>
                dsimp only at p1
                split at p1
                · rename_i hb
                  simp only [Bool.and_eq_true, decide_eq_true_eq] at hb
                  exact ⟨i, j, c, _, rfl, ⟨hb.1.1.1, hb.1.1.2, hb.1.2, (Int.toNat_of_nonneg hb.2).symm⟩, p1 w1 H1 _ (Go.refl _ _ _) me1.si (itc_is i c _)⟩
                · exact p1.elim
              | cons _ _ => exact p1.elim
            | _ => exact p1.elim
        | _ => exact p1.elim
    | _ => exact p1.elim

/-! ### comprehensions -/
theorem wipe_get {σ : St} {i : Nat} : ∀ (vs : List Nat), (L2.wipe σ vs)[i]? = if i ∈ vs then σ[i]?.map (fun _ => none) else σ[i]?
  | [] => by simp [L2.wipe]
  | v :: vs => by
    unfold L2.wipe
    rw [List.getElem?_set]
    by_cases e : v = i
    · subst e
      rw [if_pos rfl, if_pos List.mem_cons_self, L2.wipe_length]
      by_cases hl : v < σ.length
      · rw [if_pos hl, List.getElem?_eq_getElem hl]; rfl
      · rw [if_neg hl, List.getElem?_eq_none (by omega)]; rfl
    · rw [if_neg e, wipe_get vs]
      have : (i ∈ v :: vs) ↔ (i ∈ vs) := by
        simp only [List.mem_cons]
        exact ⟨fun h => h.elim (fun z => absurd z.symm e) id, .inr⟩
      simp only [this]
theorem wipe_idem {σ : St} {vs : List Nat} : L2.wipe (L2.wipe σ vs) vs = L2.wipe σ vs := by
  apply List.ext_getElem?
  intro i
  rw [wipe_get, wipe_get]
  by_cases h : i ∈ vs
  · rw [if_pos h, if_pos h]
    cases σ[i]? <;> rfl
  · rw [if_neg h]
theorem wipe_set {σ : St} {vs : List Nat} {i : Nat} {o : Option V} (h : i ∈ vs) : L2.wipe (σ.set i o) vs = L2.wipe σ vs := by
  apply List.ext_getElem?
  intro j
  rw [wipe_get, wipe_get]
  by_cases hj : j ∈ vs
  · rw [if_pos hj, if_pos hj, List.getElem?_set]
    by_cases e : i = j
    · subst e
      rw [if_pos rfl]
      by_cases hl : i < σ.length
      · rw [if_pos hl, List.getElem?_eq_getElem hl]; rfl
      · rw [if_neg hl, List.getElem?_eq_none (by omega)]
    · rw [if_neg e]
  · rw [if_neg hj, if_neg hj, List.getElem?_set_ne (fun e => hj (by rw [← e]; exact h))]
/-- a comprehension's target keeps to the block's own names -/
structure GV (X : Cx) (vs : List Nat) (gt : TG) (g : MG) : Prop where
  st : ∀ {d env S env' S'}, g d env S = some (env', S') → S' = S
  ok : ∀ {v : V} {d : D} {w : Wd} {σ : St} {S S' : MS} {H : Hp} {env env' : En} {Q : St → Hp → Prop}, SI X.K X.mg w S H → Rep X.K w v d → EnR X.K w env σ → g d env S = some (env', S') →
    (∀ σ', EnR X.K w env' σ' → L2.wipe σ' vs = L2.wipe σ vs → Q σ' H) → gt v σ H Q
structure GVs (X : Cx) (vs : List Nat) (gt : TGs) (g : MGs) : Prop where
  st : ∀ {d env S env' S'}, g d env S = some (env', S') → S' = S
  ok : ∀ {us : List V} {ds : List D} {w : Wd} {σ : St} {S S' : MS} {H : Hp} {env env' : En} {Q : St → Hp → Prop}, SI X.K X.mg w S H → RepL X.K w us ds → EnR X.K w env σ → g ds env S = some (env', S') →
    (∀ σ', EnR X.K w env' σ' → L2.wipe σ' vs = L2.wipe σ vs → Q σ' H) → gt us σ H Q
theorem gv_name {vs : List Nat} {i : Nat} (h : i ∈ vs) : GV X vs (gName i) (gNm i) := by
  refine ⟨fun e => by cases e; rfl, fun si r en e k => ?_⟩
  cases e
  exact k _ (en.set r i) (wipe_set h)
theorem gvs_nil {vs : List Nat} : GVs X vs gNil gsNil := by
  refine ⟨fun {d env S env' S'} e => ?_, fun si r en e k => ?_⟩
  · cases d with
    | nil => cases e; rfl
    | cons _ _ => cases e
  · cases r with
    | nil =>
      cases e
      exact ⟨rfl, k _ en rfl⟩
    | cons _ _ => cases e
theorem gvs_cons {vs : List Nat} {gt : TG} {g : MG} {gts : TGs} {gs : MGs} (h1 : GV X vs gt g) (h2 : GVs X vs gts gs) : GVs X vs (gCons gt gts) (gsCons g gs) := by
  refine ⟨fun {d env S env' S'} e => ?_, fun {us ds w σ S S' H env env' Q} si r en e k => ?_⟩
  · cases d with
    | nil => cases e
    | cons d ds =>
      unfold gsCons at e
      dsimp only at e
      cases e1 : g d env S with
      | none => rw [e1] at e; cases e
      | some z =>
        obtain ⟨env1, S1⟩ := z
        rw [e1] at e
        exact (h2.st e).trans (h1.st e1)
  · cases r with
    | nil => cases e
    | @cons v vs' d ds r1 r2 =>
      unfold gsCons at e
      dsimp only at e
      cases e1 : g d env S with
      | none => rw [e1] at e; cases e
      | some z =>
        obtain ⟨env1, S1⟩ := z
        rw [e1] at e
        dsimp only at e
        have hS := h1.st e1
        subst hS
        exact ⟨v, vs', rfl, h1.ok si r1 en e1 fun σ1 en1 w1 => h2.ok si r2 en1 e fun σ2 en2 w2 => k σ2 en2 (w2.trans w1)⟩
theorem gv_tup {vs : List Nat} {n : Nat} {gts : TGs} {gs : MGs} (h : GVs X vs gts gs) : GV X vs (gTup X.K n gts) (gTp n gs) := by
  refine ⟨fun {d env S env' S'} e => ?_, fun {v d w σ S S' H env env' Q} si r en e k => ?_⟩
  · cases d with
    | tup ds =>
      unfold gTp at e
      dsimp only at e
      split at e
      · exact h.st e
      · cases e
    | _ => cases e
  · cases d with
    | tup ds =>
      unfold gTp at e
      dsimp only at e
      split at e
      · rename_i hn
        cases r with
        | @tup a us _ h1 h2 => exact ⟨a, us, rfl, sqt_ex si.ex h1, by rw [h2.length]; exact hn, h.ok si h2 en e k⟩
      · cases e
    | _ => cases e
/-- the readings inside a block: nothing is raised -/
def tEb (X : Cx) (m : ME) : TE := fun σ H Q => ∃ w S env, SI X.K X.mg w S H ∧ EnR X.K w env σ ∧ Po X.K X.mg (RV' X.K) (fun _ _ _ => False) w S H Q (m env S)
def tTb (X : Cx) (m : MT) : TT := fun σ H Q => ∃ w S env, SI X.K X.mg w S H ∧ EnR X.K w env σ ∧ Po X.K X.mg RB (fun _ _ _ => False) w S H Q (m env S)
def blkCy {s : Shared} {H : Hp} {scope : Scope} {cenv : Env} {fp : List Addr} : Cy (X.blk s H scope cenv fp) := ⟨fun _ _ _ _ => False, fun u s' ⟨a, B, sI, pins, σ, H, cls, d, e, I, nb, up, sky, na, os, ag, w⟩ => w.elim, PassesOwn.never, fun _ _ _ => True, fun _ _ => True.intro⟩
def JTs (X : Cx) (C : Cy X) (ifs : List Expr) (m : MT) : Prop := PTs X ifs (tT C m)
def mYes : MT := fun _ => ret true
theorem PTs.weak {ifs : List Expr} {t t' : TT} (h : PTs X ifs t) (k : ∀ σ H Q, t' σ H Q → t σ H Q) : PTs X ifs t' := ⟨fun pins s σ H Q I q => h.run pins s σ H Q I (k σ H Q q)⟩
theorem jts_nil : JTs X C [] mYes := PTs.weak pts_nil fun σ H Q ⟨w, S, env, me, p⟩ => p w H true (Go.refl _ _ _) me.si rfl
theorem jts_one {c : Expr} {m : MT} (h : JT X C c m) : JTs X C [c] m := pts_one h
theorem blk_e {s : Shared} {H : Hp} {scope : Scope} {cenv : Env} {fp : List Addr} {e : Expr} {m : ME} (h : JE (X.blk s H scope cenv fp) blkCy e m) : PE (X.blk s H scope cenv fp) e (tEb X m) := PE.weak h fun σ H Q ⟨w, S, env, si, en, p⟩ => ⟨w, S, env, ⟨si, en, True.intro⟩, p⟩
theorem blk_t {s : Shared} {H : Hp} {scope : Scope} {cenv : Env} {fp : List Addr} {e : List Expr} {m : MT} (h : JTs (X.blk s H scope cenv fp) blkCy e m) : PTs (X.blk s H scope cenv fp) e (tTb X m) := PTs.weak h fun σ H Q ⟨w, S, env, si, en, p⟩ => ⟨w, S, env, ⟨si, en, True.intro⟩, p⟩
theorem fo_chg {K : PySem.W.Frag} {mg : Str → Option Value} {w0 w : Wd} {S0 S : MS} {H0 H : Hp} {a : Addr} {o : HO} (si0 : SI K mg w0 S0 H0) (ha : H0 a = none) (g : Go w0 S0 (upd H0 a o) w S H) (si : SI K mg w S H) (o' : HO) :
    SI K mg w S (upd H a o') ∧ Go w0 S0 (upd H0 a o') w S (upd H a o') := by
  obtain ⟨h1, h2, h3, h4, h5⟩ := adopt si0 ha g si
  refine ⟨⟨si.nx, fun b u h => ?_, fun n ob h => ?_, si.inj⟩, ⟨g.le, fun b u hb => ?_, fun b ob u hb => ?_⟩⟩
  · rw [upd_ne (ne_of_none h h2)]
    exact si.ex b u h
  · obtain ⟨q1, q2, ho, q3, q4⟩ := si.st n ob h
    exact ⟨q1, q2, ho, by rw [upd_ne (h3 n ob h)]; exact q3, q4⟩
  · by_cases e : b = a
    · subst e
      obtain ⟨z1, z2, z3⟩ := hb
      rw [upd_same] at z1
      cases z1
      exact ⟨upd_same, h2, h3⟩
    · have z : Fo w0 S0 H0 b u := ⟨by have := hb.1; rw [upd_ne e] at this; exact this, hb.2⟩
      obtain ⟨_, q⟩ := h4 b u z
      exact ⟨by rw [upd_ne e]; exact q.1, q.2⟩
  · by_cases e : b = a
    · subst e
      rw [upd_same] at hb ⊢
      exact hb
    · rw [upd_ne e] at hb ⊢
      exact (h5 b ob u hb).2
theorem upd_id {H : Hp} {a : Addr} {o : HO} (h : H a = some o) : upd H a o = H := by
  funext b
  unfold upd
  split
  · rename_i e; rw [e, h]
  · rfl
/-- how a list that was made step by step is kept -/
abbrev MkC (X : Cx) (mk : List D → M D) : Prop := ∀ {w0 w : Wd} {S0 S : MS} {H0 H : Hp} {a : Addr} {vs : List V} {ds : List D} {W : Value → Option Addr → Hp → Prop} {Q : VK}, SI X.K X.mg w0 S0 H0 → H0 a = none → Go w0 S0 (upd H0 a (.lst vs)) w S H → SI X.K X.mg w S H → RepL X.K w vs ds →
  Po X.K X.mg (RV' X.K) W w0 S0 H0 Q (mk ds S) → Q (.ref a) H
theorem mkL_c : MkC X mkL := by
  intro w0 w S0 S H0 H a vs ds W Q si0 ha g si r p
  obtain ⟨s1, g1, l1⟩ := adoptF si0 ha g si (.lst vs)
  rw [upd_id (adopt si0 ha g si).1] at s1 g1
  unfold mkL at p
  split at p
  · exact p _ _ _ g1 s1 (.lst (.inl upd_same) (r.le l1))
  · exact p.elim
theorem mkO_c : MkC X mkO := by
  intro w0 w S0 S H0 H a vs ds W Q si0 ha g si r p
  obtain ⟨s1, g1, r1⟩ := adoptS si0 ha g si (mo := .lst ds) (ho := .lst vs) r
  rw [upd_id (adopt si0 ha g si).1] at s1 g1
  unfold mkO at p
  split at p
  · exact p _ _ _ g1 s1 r1
  · exact p.elim
/-- the turns of a list comprehension; nothing is raised -/
def lcM (g : MG) (tt : MT) (te : ME) (env : En) : List D → M (List D)
  | [], S => some (.ok [] S)
  | d :: r, S => match g d env S with
    | none => none
    | some (env1, S1) => match tt env1 S1 with
      | some (.ok true S2) => match te env1 S2 with
        | some (.ok y S3) => match lcM g tt te env r S3 with
          | some (.ok ys S4) => some (.ok (y :: ys) S4)
          | _ => none
        | _ => none
      | some (.ok false S2) => lcM g tt te env r S2
      | _ => none
def mLc (mi : MA) (g : MG) (tt : MT) (te : ME) (vs : List Nat) (mk : List D → M D) : ME := fun env => bnd (mi env) fun ds => bnd (lcM g tt te (wipeE env vs) ds) fun ys => if ys.length ≤ lineN then mk ys else stuck
theorem lcM_noexc {g : MG} {tt : MT} {te : ME} {env : En} : ∀ (ds : List D) (S : MS) (ex : Exn) (S' : MS), lcM g tt te env ds S ≠ some (.exc ex S')
  | [], _, _, _ => fun h => by cases h
  | d :: r, S, ex, S' => fun h => by
    unfold lcM at h
    split at h
    · cases h
    · split at h
      · split at h
        · split at h
          · cases h
          · cases h
        · cases h
      · exact lcM_noexc r _ _ _ h
      · cases h
theorem lcM_go {mi : MA} {g : MG} {gt : TG} {tt : MT} {te : ME} {vs : List Nat} {mk : List D → M D} (gv : GV X vs gt g) (hk : MkC X mk) {σ : St} {H : Hp} {Q : VK} (h : tE C (mLc mi g tt te vs mk) σ H Q) : tLc (tI C mi) gt (tTb X tt) (tEb X te) vs σ H Q := by
  obtain ⟨w, S, env, me, p⟩ := h
  refine ⟨w, S, env, me, po_bnd me p fun w1 S1 H1 J ds me1 ri g1 p1 => ?_⟩
  intro L0 hD
  obtain ⟨s0, g0⟩ := me1.si.fr hD (.lst [])
  refine ⟨fun i m H' => ∃ w' S' acc ys, m = ds.length - i ∧ i ≤ ds.length ∧ Go w1 S1 (upd H1 L0 (.lst acc)) w' S' H' ∧ SI X.K X.mg w' S' H' ∧ RepL X.K w' acc ys ∧
    (match lcM g tt te (wipeE env vs) (ds.drop i) S' with
      | some (.ok zs S'') => ys.length + zs.length ≤ lineN ∧ Po X.K X.mg (RV' X.K) (fun c d H => C.W c d σ H) w1 S1 H1 Q (mk (ys ++ zs) S'')
      | _ => False), ⟨ds.length, w1, S1, [], [], by simp, Nat.zero_le _, Go.refl _ _ _, s0, .nil, ?_⟩, ?_⟩
  · rw [List.drop_zero]
    unfold bnd at p1
    cases e : lcM g tt te (wipeE env vs) ds S1 with
    | none => rw [e] at p1; exact p1
    | some r =>
      rw [e] at p1
      cases r with
      | exc ex S' =>
        exfalso
        exact lcM_noexc _ _ _ _ e
      | ok zs S' =>
        dsimp only at p1 ⊢
        split at p1
        · rename_i hz
          exact ⟨by simpa using hz, p1⟩
        · exact p1.elim
  · rintro i m H2 ⟨w2, S2, acc, ys, rfl, hi, g2, si2, r2, p2⟩
    obtain ⟨gfr⟩ : Nonempty (Go w1 S1 H1 w2 S2 H2) := by
      obtain ⟨_, gg⟩ := me1.si.fr hD (.lst acc)
      exact ⟨gg.trans g2⟩
    obtain ⟨hstop, hgo⟩ := ri i w2 S2 H2 gfr si2
    by_cases hlt : i < ds.length
    · refine .inr ?_
      have hd : ds.drop i = ds[i] :: ds.drop (i + 1) := List.drop_eq_getElem_cons hlt
      rw [hd] at p2
      obtain ⟨go, yl⟩ := hgo ds[i] (List.getElem?_eq_getElem hlt)
      refine ⟨go, fun H' => ∃ w' S' acc ys, Go w1 S1 (upd H1 L0 (.lst acc)) w' S' H' ∧ SI X.K X.mg w' S' H' ∧ RepL X.K w' acc ys ∧
        (match lcM g tt te (wipeE env vs) (ds.drop (i + 1)) S' with
          | some (.ok zs S'') => ys.length + zs.length ≤ lineN ∧ Po X.K X.mg (RV' X.K) (fun c d H => C.W c d σ H) w1 S1 H1 Q (mk (ys ++ zs) S'')
          | _ => False), fun H' ⟨w', S', acc, ys, m1, m2, m3, m4⟩ => ⟨ds.length - (i + 1), by omega, w', S', acc, ys, rfl, hlt, m1, m2, m3, m4⟩, fun x H' y => ?_⟩
      obtain ⟨w3, g3, si3, r3⟩ := yl x H' y
      unfold lcM at p2
      cases q : g ds[i] (wipeE env vs) S2 with
      | none => rw [q] at p2; exact p2.elim
      | some z =>
        obtain ⟨env3, S3⟩ := z
        rw [q] at p2
        dsimp only at p2
        have hS := gv.st q
        subst hS
        refine gv.ok si3 r3 ((me1.en.le (gfr.le.trans g3.le)).wipe vs) q fun σ4 en4 w4 => ⟨w4.trans wipe_idem, ?_⟩
        refine ⟨w3, S3, env3, si3, en4, ?_⟩
        cases q2 : tt env3 S3 with
        | none => rw [q2] at p2; exact p2.elim
        | some r =>
          rw [q2] at p2
          cases r with
          | exc _ _ => exact p2.elim
          | ok b S5 =>
            intro w5 H5 b' g5 si5 rb
            cases (show b' = b from rb)
            have G5 : Go w1 S1 (upd H1 L0 (.lst acc)) w5 S5 H5 := g2.trans (g3.trans g5)
            cases b with
            | false =>
              rw [if_neg Bool.false_ne_true]
              exact ⟨w5, S5, acc, ys, G5, si5, r2.le (g3.le.trans g5.le), p2⟩
            | true =>
              rw [if_pos rfl]
              dsimp only at p2
              refine ⟨w5, S5, env3, si5, en4.le g5.le, ?_⟩
              cases q3 : te env3 S5 with
              | none => rw [q3] at p2; exact p2.elim
              | some r =>
                rw [q3] at p2
                cases r with
                | exc _ _ => exact p2.elim
                | ok y0 S6 =>
                  intro w6 H6 yv g6 si6 ry
                  have G6 := G5.trans g6
                  have hD6 := (adopt me1.si hD G6 si6).1
                  obtain ⟨s7, g7⟩ := fo_chg me1.si hD G6 si6 (.lst (acc ++ [yv]))
                  dsimp only at p2
                  cases q4 : lcM g tt te (wipeE env vs) (ds.drop (i + 1)) S6 with
                  | none => rw [q4] at p2; exact p2.elim
                  | some r =>
                    rw [q4] at p2
                    cases r with
                    | exc _ _ => exact p2.elim
                    | ok zs S8 =>
                      dsimp only at p2
                      have r6 := (r2.le (g3.le.trans (g5.le.trans g6.le)))
                      refine ⟨acc, hD6, by rw [r2.length, line_is]; have := p2.1; simp at this; omega, w6, S6, acc ++ [yv], ys ++ [y0], g7, s7, r6.append (.cons ry .nil), ?_⟩
                      rw [q4]
                      refine ⟨by have := p2.1; simp at this ⊢; omega, ?_⟩
                      rw [List.append_assoc]
                      exact p2.2
    · have hl : i = ds.length := by omega
      subst hl
      rw [List.drop_length] at p2
      unfold lcM at p2
      dsimp only at p2
      rw [List.append_nil] at p2
      exact .inl ⟨hstop rfl, hk me1.si hD g2 si2 r2 p2.2⟩
section
variable {elt tg iter : Expr} {ifs : List Expr} {scope : Scope} {own : List (Str × Nat)} {mi : MA} {g : MG} {gt : TG} {tt : MT} {te : ME} {mk : List D → M D} {vs : List Nat}
theorem j_lc (hk : MkC X mk) (hc : X.calm = true) (hN : X.N.Nodup) (hi : JI X C tg iter mi) (ok : BlkOk X.N X.env.scope scope own) (hvs : own.map (·.2) = vs) (gv : GV X vs gt g)
    (hg : ∀ (s : Shared) (H : Hp) (A : Addr) (cl : List (Str × Addr)) (fp : List Addr), PG (X.blk s H scope (compEnvC scope cl A X.env) fp) tg gt) (ht : ∀ (s : Shared) (H : Hp) (A : Addr) (cl : List (Str × Addr)) (fp : List Addr), JTs (X.blk s H scope (compEnvC scope cl A X.env) fp) blkCy ifs tt)
    (he : ∀ (s : Shared) (H : Hp) (A : Addr) (cl : List (Str × Addr)) (fp : List Addr), JE (X.blk s H scope (compEnvC scope cl A X.env) fp) blkCy elt te) (hs : ∀ x, foldedSetIterable iter X.env x = pure x := by intro _; rfl) :
    JE X C (.ListComp elt [⟨tg, iter, ifs, 0⟩] scope pos) (mLc mi g tt te vs mk) := by
  subst hvs
  exact PE.weak (pe_lc hc hN hi ok hg (fun s H A cl fp => blk_t (ht s H A cl fp)) (fun s H A cl fp => blk_e (he s H A cl fp)) hs) fun σ H Q h => lcM_go gv hk h
theorem js_setLc {i : Nat} {y : Str} {py spos : Pos} (hk : MkC X mk) (hc : X.calm = true) (hN : X.N.Nodup) (hy : X.N[i]? = some y) (hyl : X.env.scope.names.lookup y = some .local) (hsw : swapsWith (.ListComp elt [⟨tg, iter, ifs, 0⟩] scope pos) (some (.Name y py)) spos.line X.env = pure true)
    (hi : JI X C tg iter mi) (ok : BlkOk X.N X.env.scope scope own) (hvs : own.map (·.2) = vs) (gv : GV X vs gt g)
    (hg : ∀ (s : Shared) (H : Hp) (A : Addr) (cl : List (Str × Addr)) (fp : List Addr), PG (X.blk s H scope (compEnvC scope cl A X.env) fp) tg gt) (ht : ∀ (s : Shared) (H : Hp) (A : Addr) (cl : List (Str × Addr)) (fp : List Addr), JTs (X.blk s H scope (compEnvC scope cl A X.env) fp) blkCy ifs tt)
    (he : ∀ (s : Shared) (H : Hp) (A : Addr) (cl : List (Str × Addr)) (fp : List Addr), JE (X.blk s H scope (compEnvC scope cl A X.env) fp) blkCy elt te) (hs : ∀ x, foldedSetIterable iter X.env x = pure x := by intro _; rfl) :
    JS X C (.Assign [.Name y py] (.ListComp elt [⟨tg, iter, ifs, 0⟩] scope pos) spos) (mAsg (mLc mi g tt te vs mk) (gNm i)) := by
  subst hvs
  exact PS.weak (ps_setLc hc hN hy hyl hsw hi ok hg (fun s H A cl fp => blk_t (ht s H A cl fp)) (fun s H A cl fp => blk_e (he s H A cl fp)) hs) fun D σ H h => asg_go (fun σ H Q h => lcM_go gv hk h) (fun v σ H Q ⟨w, S, env, d, me, r, p⟩ => p w H _ (Go.refl _ _ _) me.si (me.en.set r i)) h
end
end
end Mi
namespace Mi
open PySem L2

/-! ### a statement under a lock -/
def lockOf : MO → Option MO
  | .dk kvs => some (.lk kvs)
  | .lst ds => some (.ll ds)
  | _ => none
def unlockOf : MO → Option MO
  | .lk kvs => some (.dk kvs)
  | .ll ds => some (.lst ds)
  | _ => none
section
variable {X : Cx} {C : Cy X} {pos : Pos}
theorem lk_in {w : Wd} {S : MS} {H : Hp} {n : Nat} {o o' : MO} (si : SI X.K X.mg w S H) (e : S.get n = some o) (h : lockOf o = some o') :
    ∃ u, H (w.φ n) = some u ∧ Mut (some u) ∧ ∀ od, SI X.K X.mg w (S.set n o') (upd H (w.φ n) (.frz od u)) ∧ Go w S H w (S.set n o') (upd H (w.φ n) (.frz od u)) := by
  obtain ⟨hm, h2, ho, h3, h4⟩ := si.st n _ e
  cases o with
  | dk kvs =>
    cases h
    cases ho with
    | dK kws => exact ⟨_, h3, True.intro, fun od => si.set e (o := .lk kvs) (ho := .frz od (.dK kws)) h4⟩
    | _ => exact h4.elim
  | lst ds =>
    cases h
    cases ho with
    | lst vs => exact ⟨_, h3, True.intro, fun od => si.set e (o := .ll ds) (ho := .frz od (.lst vs)) h4⟩
    | _ => exact h4.elim
  | _ => cases h
theorem lk_out {w w' : Wd} {S S' : MS} {H H' : Hp} {n : Nat} {o o' o2 o3 : MO} {u : HO} {od : Obj} (si : SI X.K X.mg w S H) (e : S.get n = some o) (h : lockOf o = some o') (hH : H (w.φ n) = some u)
    (g1 : Go w S H w (S.set n o') (upd H (w.φ n) (.frz od u))) (g2 : Go w (S.set n o') (upd H (w.φ n) (.frz od u)) w' S' H') (s2 : SI X.K X.mg w' S' H') (e4 : S'.get n = some o2) (h4 : unlockOf o2 = some o3) :
    H' (w.φ n) = some (.frz od u) ∧ SI X.K X.mg w' (S'.set n o3) (upd H' (w.φ n) u) ∧ Go w S H w' (S'.set n o3) (upd H' (w.φ n) u) := by
  obtain ⟨hm, _, ho, h3, hr⟩ := si.st n _ e
  have ef : w'.φ n = w.φ n := g2.le.ph n hm
  have hf := g2.fz _ _ _ (upd_same (H := H) (a := w.φ n) (o := .frz od u))
  obtain ⟨_, k2, ho', k3, k4⟩ := s2.st n _ e4
  rw [ef, hf] at k3
  cases k3
  have nf : ∀ od' u', u ≠ .frz od' u' := by
    intro od' u' z
    rw [hH] at h3
    cases h3
    subst z
    cases o with
    | dk _ => exact hr
    | lst _ => exact hr
    | _ => cases h
  have fin : SI X.K X.mg w' (S'.set n o3) (upd H' (w.φ n) u) ∧ ∀ a ob, Fo w' S' H' a ob → Fo w' (S'.set n o3) (upd H' (w.φ n) u) a ob := by
    rw [← ef]
    cases o2 with
    | lk kvs =>
      cases h4
      cases u with
      | dK kws => exact s2.unlock (o2 := .dk kvs) (u2 := .dK kws) e4 k4
      | _ => exact k4.elim
    | ll ds =>
      cases h4
      cases u with
      | lst vs => exact s2.unlock (o2 := .lst ds) (u2 := .lst vs) e4 k4
      | _ => exact k4.elim
    | _ => cases h4
  obtain ⟨s3, f3⟩ := fin
  refine ⟨hf, s3, ⟨g2.le, fun a ob ha => f3 a ob (g2.fo a ob (g1.fo a ob ha)), fun a ob u' ha => ?_⟩⟩
  have ne : a ≠ w.φ n := fun z => by
    rw [z, hH] at ha
    exact nf _ _ (Option.some.inj ha)
  rw [upd_ne ne]
  exact g2.fz a ob u' (by rw [upd_ne ne]; exact ha)
def unS (n : Nat) (S : MS) : Option MS := match S.get n with
  | some o => match unlockOf o with
    | some o' => some (S.set n o')
    | none => none
  | none => none
def mLkS (path : List Nat) (m : MSt) : MSt := fun env S => match refOf env S path with
  | none => none
  | some n => match S.get n with
    | none => none
    | some o => match lockOf o with
      | none => none
      | some o' => match m env (S.set n o') with
        | some (.nx env' S') => match unS n S' with
          | some S2 => some (.nx env' S2)
          | none => none
        | some (.bk env' S') => match unS n S' with
          | some S2 => some (.bk env' S2)
          | none => none
        | some (.ct env' S') => match unS n S' with
          | some S2 => some (.ct env' S2)
          | none => none
        | some (.rt d S') => match unS n S' with
          | some S2 => some (.rt d S2)
          | none => none
        | _ => none
theorem unS_is {n : Nat} {S S2 : MS} (h : unS n S = some S2) : ∃ o o', S.get n = some o ∧ unlockOf o = some o' ∧ S2 = S.set n o' := by
  unfold unS at h
  cases e : S.get n with
  | none => rw [e] at h; cases h
  | some o =>
    rw [e] at h
    dsimp only at h
    cases e2 : unlockOf o with
    | none => rw [e2] at h; cases h
    | some o' =>
      rw [e2] at h
      cases h
      exact ⟨o, o', rfl, e2, rfl⟩
theorem js_lk {st : Stmt} {m : MSt} (path : List Nat) (h : JS X C st m) : JS X C st (mLkS path m) := PS.weak (ps_lock h) fun D σ H ⟨w, S, env, me, p⟩ => by
  unfold mLkS at p
  cases e1 : refOf env S path with
  | none => rw [e1] at p; exact p.elim
  | some n =>
    rw [e1] at p
    dsimp only at p
    cases e2 : S.get n with
    | none => rw [e2] at p; exact p.elim
    | some o =>
      rw [e2] at p
      dsimp only at p
      cases e3 : lockOf o with
      | none => rw [e3] at p; exact p.elim
      | some o' =>
        rw [e3] at p
        dsimp only at p
        obtain ⟨u, h1, h2, h3⟩ := lk_in me.si e2 e3
        refine ⟨w.φ n, u, h1, h2, fun od => ?_⟩
        obtain ⟨s1, g1⟩ := h3 od
        refine ⟨w, _, env, me.go g1 s1, ?_⟩
        cases e4 : m env (S.set n o') with
        | none => rw [e4] at p; exact p.elim
        | some fl =>
          rw [e4] at p
          cases fl with
          | exc _ _ _ => exact p.elim
          | nx env' S' =>
            dsimp only at p
            cases e5 : unS n S' with
            | none => rw [e5] at p; exact p.elim
            | some S2 =>
              rw [e5] at p
              obtain ⟨o2, o3, q1, q2, rfl⟩ := unS_is e5
              intro w' H' σ' g2 s2 en
              obtain ⟨z1, z2, z3⟩ := lk_out me.si e2 e3 h1 g1 g2 s2 q1 q2
              exact ⟨z1, p w' _ σ' z3 z2 en⟩
          | bk env' S' =>
            dsimp only at p
            cases e5 : unS n S' with
            | none => rw [e5] at p; exact p.elim
            | some S2 =>
              rw [e5] at p
              obtain ⟨o2, o3, q1, q2, rfl⟩ := unS_is e5
              intro w' H' σ' g2 s2 en
              obtain ⟨z1, z2, z3⟩ := lk_out me.si e2 e3 h1 g1 g2 s2 q1 q2
              exact ⟨z1, p w' _ σ' z3 z2 en⟩
          | ct env' S' =>
            dsimp only at p
            cases e5 : unS n S' with
            | none => rw [e5] at p; exact p.elim
            | some S2 =>
              rw [e5] at p
              obtain ⟨o2, o3, q1, q2, rfl⟩ := unS_is e5
              intro w' H' σ' g2 s2 en
              obtain ⟨z1, z2, z3⟩ := lk_out me.si e2 e3 h1 g1 g2 s2 q1 q2
              exact ⟨z1, p w' _ σ' z3 z2 en⟩
          | rt d S' =>
            dsimp only at p
            cases e5 : unS n S' with
            | none => rw [e5] at p; exact p.elim
            | some S2 =>
              rw [e5] at p
              obtain ⟨o2, o3, q1, q2, rfl⟩ := unS_is e5
              intro w' H' v g2 s2 rv
              obtain ⟨z1, z2, z3⟩ := lk_out me.si e2 e3 h1 g1 g2 s2 q1 q2
              exact ⟨z1, p w' _ v z3 z2 rv⟩

/-! ### o[i] op= e -/
def rGetA (K : PySem.W.Frag) : V → V → Hp → VK → Prop := fun x y H Q => rDctGet x y H Q ∨ rIxL K x y H Q
theorem get_A (hu : X.A.units + 64 < cLine) : PGet X (rGetA X.K) := by
  intro pins s σ H x y v u Q I rx ry h
  rcases h with ⟨a, d, rfl, g, q⟩ | ⟨p, xs, i, z, rfl, rfl, hq, he, q⟩
  · cases rx
    exact d_getItem (by omega) I g ry fun w' s' I' r' => ⟨d, H, I', r', q⟩
  · cases rx
    obtain ⟨t, rfl⟩ := ry
    obtain ⟨its, r, pl, hz⟩ := I.list hq
    obtain ⟨j, h1, h2, h3, h4, h5⟩ := atI_get he
    obtain ⟨w, ew, rw'⟩ := r.get h2
    have hl := r.length
    have hn := line63
    have fin : EP X pins σ Q w s := ⟨z, H, I, rw', q⟩
    by_cases h0 : 0 ≤ i
    · have hj : i.toNat = j := by
        rw [seqIndex_of h0 h5] at h1
        exact Option.some.inj h1
      exact wpAny_getItem_list pl.isList h0 (by omega) (by rw [hj]; simpa using ew) fin
    · have hj : (i + (its.toArray.size : Int)).toNat = j := by
        rw [seqIndex_neg (by omega) h4] at h1
        rw [List.size_toArray, ← hl]
        exact Option.some.inj h1
      exact wpAny_getItem_list_neg pl.isList (by omega) (by rw [List.size_toArray] <;> omega) (by omega) (by rw [hj]; simpa using ew) fin
def dGetI : D → D → M D := fun x y S => match dctOf S x with
  | some kvs => match toKey y with
    | some k => match dLook kvs k with
      | some d => some (.ok d S)
      | none => none
    | none => none
  | none => match lstOf S x, y with
    | some es, .int i => match atI es i with
      | some d => some (.ok d S)
      | none => none
    | _, _ => none
theorem op2_get : Op2 X (rGetA X.K) dGetI := fun w S H x y d e Q W si rx ry p => by
  unfold dGetI at p
  cases e1 : dctOf S d with
  | some kvs =>
    rw [e1] at p
    dsimp only at p
    obtain ⟨a, kws, rfl, h1, h2⟩ := dct_is si rx e1
    cases e2 : toKey e with
    | none => rw [e2] at p; exact p.elim
    | some k =>
      rw [e2] at p
      dsimp only at p
      obtain rfl := key_is ry e2
      cases e3 : dLook kvs k with
      | none => rw [e3] at p; exact p.elim
      | some z =>
        rw [e3] at p
        obtain ⟨u, h3, h4⟩ := look_some h2 e3
        exact .inl ⟨a, u, rfl, .inl ⟨_, _, h1, rfl, h3.symm⟩, p w H u (Go.refl _ _ _) si h4⟩
  | none =>
    rw [e1] at p
    dsimp only at p
    cases e2 : lstOf S d with
    | none => rw [e2] at p; exact p.elim
    | some es =>
      rw [e2] at p
      obtain ⟨a, vs, rfl, h1, h2⟩ := lst_is si rx e2
      cases e with
      | int i =>
        cases ry
        dsimp only at p
        cases e3 : atI es i with
        | none => rw [e3] at p; exact p.elim
        | some z =>
          rw [e3] at p
          obtain ⟨u, h3, h4⟩ := atI_rep h2 e3
          exact .inr ⟨a, vs, i, u, rfl, rfl, h1, h3, p w H u (Go.refl _ _ _) si h4⟩
      | _ => exact p.elim
def mAugI (f : D → D → M D) (mo mi me : ME) : MSt := fun env => stE (bnd (mo env) fun x => bnd (mi env) fun y => bnd (dGetI x y) fun old => bnd (me env) fun v => bnd (f old v) fun z => ret (x, y, z)) env fun t S => match dSet t.1 t.2.1 t.2.2 S with
  | some S' => some (.nx env S')
  | none => none
theorem js_augI {o i e : Expr} {mo mi me : ME} {op : Operator} {r : R2} {f : D → D → M D} {tpos : Pos} (hu : X.A.units + 64 < cLine) (ho : JE X C o mo) (hi : JE X C i mi) (he : JE X C e me) (hop : OpR X (inplaceOp op) r) (hf : Op2 X r f)
    (ha : ∀ ov iv new, augStore i ov iv new = (do holding [new, ov, iv] (setItem ov iv new); release [new, ov, iv] []; pure .next) := by intros; rfl) : JS X C (.AugAssign (.Subscript o i tpos) op e pos) (mAugI f mo mi me) :=
  PS.weak (ps_augS (tip := r) ho hi (get_A hu) he (fun pins s σ H x y v u Q I rx ry h => hop pins s σ H x y v u Q I rx ry h) (set_A hu) ha) fun D σ H ⟨w, S, env, m, p⟩ => by
  refine ⟨w, S, env, m, ?_⟩
  have p0 := po_st (γ := V × V × V) (Ra := fun w _ _ v d => Rep X.K w v.1 d.1 ∧ Rep X.K w v.2.1 d.2.1 ∧ Rep X.K w v.2.2 d.2.2) m p (Q' := fun v H' => rSetA v.1 v.2.1 v.2.2 H' fun H6 => D.nx σ H6) fun w1 S1 H1 v d m1 rv g1 p1 => by
    cases e : dSet d.1 d.2.1 d.2.2 S1 with
    | none => rw [e] at p1; exact p1.elim
    | some S2 =>
      rw [e] at p1
      exact dSet_go m1.si rv.1 rv.2.1 rv.2.2 e fun H2 g2 s2 => p1 w1 H2 σ g2 s2 (m1.en.le g2.le)
  refine po_bnd m p0 fun w1 S1 H1 x d1 m1 r1 g1 p1 => ?_
  refine ⟨w1, S1, env, m1, po_bnd m1 p1 fun w2 S2 H2 y d2 m2 r2 g2 p2 => ?_⟩
  refine op2_get w2 S2 H2 x y d1 d2 _ (fun c d H => C.W c d σ H) m2.si (r1.le g2.le) r2 (po_bnd m2 p2 fun w3 S3 H3 old d3 m3 r3 g3 p3 => ?_)
  refine ⟨w3, S3, env, m3, po_bnd m3 p3 fun w4 S4 H4 v d4 m4 r4 g4 p4 => ?_⟩
  refine hf w4 S4 H4 old v d3 d4 _ (fun c d H => C.W c d σ H) m4.si (r3.le g4.le) r4 (po_bnd m4 p4 fun w5 S5 H5 z d5 m5 r5 g5 p5 => ?_)
  exact p5 w5 H5 (x, y, z) (Go.refl _ _ _) m5.si ⟨r1.le (g2.le.trans (g3.le.trans (g4.le.trans g5.le))), r2.le (g3.le.trans (g4.le.trans g5.le)), r5⟩

/-! ### truth -/
def truD (S : MS) : D → Option Bool
  | .non => some false
  | .bl b => some b
  | .int i => some (i != 0)
  | .str x => if x.length ≤ lineN then some ((x.length : Int) != 0) else none
  | d => match seqOf S d with
    | some ds => some (!ds.isEmpty)
    | none => match d with
      | .obj n => match S.get n with
        | some (.dk kvs) => some (!kvs.isEmpty)
        | _ => none
      | _ => none
def mTru (m : ME) : MT := fun env => bnd (m env) fun d S => match truD S d with
  | some b => some (.ok b S)
  | none => none
theorem RepL.isEmpty {K : PySem.W.Frag} {w : Wd} {vs : List V} {ds : List D} (r : RepL K w vs ds) : vs.isEmpty = ds.isEmpty := by cases r <;> rfl
theorem tru_is {w : Wd} {S : MS} {H : Hp} {v : V} {d : D} {b : Bool} (si : SI X.K X.mg w S H) (r : Rep X.K w v d) (h : truD S d = some b) : TruV X.K v H b := by
  have sq : ∀ {a : Addr} {ds : List D}, v = .ref a → seqOf S d = some ds → b = (!ds.isEmpty) → TruV X.K v H b := fun {a ds} hv hs hb => by
    obtain ⟨a', vs, rfl, h1, h2⟩ := seq_is si r hs
    rw [hb, ← h2.isEmpty]
    rcases h1 with h1 | h1
    · exact .inl ⟨vs, h1, rfl⟩
    · exact .inr (.inl ⟨vs, h1, rfl⟩)
  cases d with
  | non => cases r; cases h; rfl
  | bl c => cases r; cases h; rfl
  | int i => cases r; cases h; rfl
  | str x =>
    cases r
    unfold truD at h
    dsimp only at h
    split at h
    · rename_i hz
      cases h
      exact ⟨by rw [line_is]; exact hz, rfl⟩
    · cases h
  | ty n => cases h
  | dct kvs => cases h
  | lst ds =>
    cases h
    cases r
    exact sq rfl rfl rfl
  | src ds =>
    cases h
    cases r
    exact sq rfl rfl rfl
  | tup ds =>
    cases h
    cases r
    exact sq rfl rfl rfl
  | obj n =>
    cases r with
    | obj hn =>
      unfold truD at h
      dsimp only at h
      cases e : seqOf S (.obj n) with
      | some ds =>
        rw [e] at h
        cases h
        exact sq rfl e rfl
      | none =>
        rw [e] at h
        dsimp only at h
        cases e2 : S.get n with
        | none => rw [e2] at h; cases h
        | some o =>
          rw [e2] at h
          cases o with
          | dk kvs =>
            cases h
            obtain ⟨_, _, ho, h3, h4⟩ := si.st n _ e2
            cases ho with
            | dK kws =>
              refine .inr (.inr ⟨kws, h3, ?_⟩)
              cases h4 <;> rfl
            | _ => exact h4.elim
          | _ => cases h
theorem jt_tru {e : Expr} {m : ME} (h : JE X C e m) (he : ∀ whole, isTrue e X.env whole = (do let v ← whole; standAt e.pos; holding [v] (truthy v)) := by intro _; rfl) : JT X C e (mTru m) := PT.weak (pt_truth h he) fun σ H Q ⟨w, S, env, me, p⟩ =>
  ⟨w, S, env, me, po_bnd me p fun w1 S1 H1 v d me1 rv g1 p1 => by
    cases e1 : truD S1 d with
    | none => rw [e1] at p1; exact p1.elim
    | some b =>
      rw [e1] at p1
      exact ⟨b, tru_is me1.si rv e1, p1 w1 H1 b (Go.refl _ _ _) me1.si rfl⟩⟩

/-! ### more of dicts -/
/-- how a dict that came at once is kept -/
abbrev MkDS (X : Cx) (mk : List (Key × D) → M D) : Prop := ∀ {w : Wd} {S : MS} {H : Hp} {kws : List (Key × V)} {kvs : List (Key × D)} {W : Value → Option Addr → Hp → Prop} {Q : VK}, SI X.K X.mg w S H → RepK X.K w kws kvs → Po X.K X.mg (RV' X.K) W w S H Q (mk kvs S) →
  ∀ a, H a = none → Q2 Q (.ref a) (upd H a (.dK kws))
theorem mkD_of {mk : List (Key × D) → M D} (hk : MkD X mk) : MkDS X mk := fun {w S H kws kvs W Q} si r p a ha => by
  obtain ⟨s1, g1⟩ := si.fr ha (.dK kws)
  obtain ⟨_, q⟩ := hk (kws := kws) (kws0 := kws) si ha (Go.refl _ _ _) s1 r p
  rw [upd2] at q
  exact q2_of q
/-- dict(d), of a dict -/
def dCopy (mk : List (Key × D) → M D) : D → M D := fun d S => match dctOf S d with
  | some kvs => mk kvs S
  | none => none
theorem opA_dict {mk : List (Key × D) → M D} (hk : MkD X mk) : ∀ w S H xs ds (Q : VK) W, SI X.K X.mg w S H → RepL X.K w xs ds → Po X.K X.mg (RV' X.K) W w S H Q (d1 (dCopy mk) ds S) → (fun xs H Q => ∃ (a : Addr) (kvs : List (Key × V)), xs = [.ref a] ∧ Rd H a (.dK kvs) ∧ ∀ p, H p = none → Q (.ref p) (upd H p (.dK kvs))) xs H (Q2 Q) := fun w S H xs ds Q W si rx p => by
  cases rx with
  | nil => exact p.elim
  | @cons v vs d ds r1 r2 =>
    cases r2 with
    | cons _ _ => exact p.elim
    | nil =>
      have p' : Po X.K X.mg (RV' X.K) W w S H Q (dCopy mk d S) := p
      unfold dCopy at p'
      cases e : dctOf S d with
      | none => rw [e] at p'; exact p'.elim
      | some kvs =>
        rw [e] at p'
        obtain ⟨a, kws, rfl, h1, h2⟩ := dct_is si r1 e
        exact ⟨a, kws, rfl, h1, fun q hq => mkD_of hk si h2 p' q hq⟩
theorem j_dict {e : Expr} {p : Pos} {ms : MA} {mk : List (Key × D) → M D} (hk : MkD X mk) (hg : Gl X "dict") (hm : X.mg "dict" = none) (ha : JA X C [e] ms) (hv : bootBuiltins "dict" = some (.type "dict") := by rfl) (he : starEach [e] X.env = (false, eval e X.env) :: starEach [] X.env := by rfl) (hpl : (backTo pos (starEach [] X.env)).any (·.1) = false := by rfl) :
    JE X C (.Call (.Name "dict" p) [e] [] pos) (mFn (d1 (dCopy mk)) ms) := PE.weak (pe_post (pe_callTy call_dictD hg hm hv ha (by decide) (by decide) he hpl)) fun σ H Q ⟨w, S, env, me, p⟩ =>
  ⟨w, S, env, me, po_bnd me p fun w1 S1 H1 vs ds me1 rv g1 p1 => opA_dict hk w1 S1 H1 vs ds Q _ me1.si rv p1⟩
theorem isD_go {w : Wd} {S : MS} {H : Hp} {v : V} {d : D} (si : SI X.K X.mg w S H) (r : Rep X.K w v d) (h : (dctOf S d).isSome = true) : ∃ a, v = .ref a ∧ IsD H a := by
  cases e : dctOf S d with
  | none => rw [e] at h; cases h
  | some kvs =>
    obtain ⟨a, kws, rfl, h1, _⟩ := dct_is si r e
    exact ⟨a, rfl, .inl ⟨kws, h1⟩⟩
/-- d.get(k, x) -/
def mGet2 (mo mk mx : ME) : ME := fun env => bnd (mo env) fun x S => if (dctOf S x).isSome = true then bnd (mk env) (fun y => bnd (mx env) fun z S => match dctOf S x, toKey y with
  | some kvs, some k => some (.ok ((dLook kvs k).getD z) S)
  | _, _ => none) S else none
theorem j_get2 {o e f : Expr} {apos cpos : Pos} {mo mk mx : ME} (hu : X.A.units + 64 < cLine) (ho : JE X C o mo) (he : JE X C e mk) (hf : JE X C f mx) (m : M2 X o "get" apos e f cpos) : JE X C (.Call (.Attribute o "get" apos) [e, f] [] cpos) (mGet2 mo mk mx) :=
  PE.weak (pe_dget2 (by omega) ho he hf m) fun σ H Q ⟨w, S, env, me, p⟩ => by
  refine ⟨w, S, env, me, po_bnd me p fun w1 S1 H1 v d me1 rv g1 p1 => ?_⟩
  by_cases h : (dctOf S1 d).isSome = true
  · rw [if_pos h] at p1
    obtain ⟨a, rfl, hd⟩ := isD_go me1.si rv h
    refine ⟨a, rfl, hd, w1, S1, env, me1, po_bnd me1 p1 fun w2 S2 H2 y dy me2 ry g2 p2 => ?_⟩
    refine ⟨w2, S2, env, me2, po_bnd me2 p2 fun w3 S3 H3 z dz me3 rz g3 p3 => ?_⟩
    cases e1 : dctOf S3 d with
    | none => rw [e1] at p3; exact p3.elim
    | some kvs =>
      cases e2 : toKey dy with
      | none => rw [e1, e2] at p3; exact p3.elim
      | some k =>
        rw [e1, e2] at p3
        obtain ⟨a', kws, ha, h1, h2⟩ := dct_is me3.si (rv.le (g2.le.trans g3.le)) e1
        cases ha
        obtain rfl := key_is (ry.le g3.le) e2
        refine ⟨valV kws k, .inl ⟨kws, k, h1, rfl, rfl⟩, ?_⟩
        cases e3 : dLook kvs k with
        | none =>
          rw [look_none h2 e3]
          dsimp only at p3
          rw [e3] at p3
          exact p3 w3 H3 _ (Go.refl _ _ _) me3.si rz
        | some u =>
          obtain ⟨v', h3, h4⟩ := look_some h2 e3
          rw [h3]
          dsimp only at p3
          rw [e3] at p3
          exact p3 w3 H3 _ (Go.refl _ _ _) me3.si h4
  · rw [if_neg h] at p1
    exact p1.elim
/-- d.pop(k) -/
def mPopK (mo mk : ME) : ME := fun env => bnd (mo env) fun x S => match x with
  | .obj n => match S.get n with
    | some (.dk _) => bnd (mk env) (fun y S => match S.get n, toKey y with
      | some (.dk kvs), some k => match dLook kvs k with
        | some d => some (.ok d (S.set n (.dk (dDropK kvs k))))
        | none => none
      | _, _ => none) S
    | _ => none
  | _ => none
theorem j_popK {o e : Expr} {apos cpos : Pos} {mo mk : ME} (ho : JE X C o mo) (he : JE X C e mk) (m : M1 X o "pop" apos e cpos) : JE X C (.Call (.Attribute o "pop" apos) [e] [] cpos) (mPopK mo mk) := PE.weak (pe_dpop1 ho he m) fun σ H Q ⟨w, S, env, me, p⟩ => by
  refine ⟨w, S, env, me, po_bnd me p fun w1 S1 H1 v d me1 rv g1 p1 => ?_⟩
  cases d with
  | obj n =>
    dsimp only at p1
    cases e1 : S1.get n with
    | none => rw [e1] at p1; exact p1.elim
    | some ob =>
      rw [e1] at p1
      cases ob with
      | dk kvs0 =>
        dsimp only at p1
        obtain ⟨a, rfl, hd⟩ := isD_go me1.si rv (by unfold dctOf; dsimp only; rw [e1]; rfl)
        refine ⟨a, rfl, hd, w1, S1, env, me1, po_bnd me1 p1 fun w2 S2 H2 y dy me2 ry g2 p2 => ?_⟩
        cases e2 : S2.get n with
        | none => rw [e2] at p2; exact p2.elim
        | some ob2 =>
          rw [e2] at p2
          cases ob2 with
          | dk kvs =>
            cases e3 : toKey dy with
            | none => rw [e3] at p2; exact p2.elim
            | some k =>
              rw [e3] at p2
              dsimp only at p2
              cases e4 : dLook kvs k with
              | none => rw [e4] at p2; exact p2.elim
              | some u =>
                rw [e4] at p2
                obtain rfl := key_is ry e3
                have r2 := rv.le g2.le
                obtain ⟨hm, _, ho', h3, h4⟩ := me2.si.st n _ e2
                cases ho' with
                | dK kws =>
                  have h4' : RepK X.K w2 kws kvs := h4
                  obtain ⟨v', q1, q2⟩ := look_some h4' e4
                  obtain ⟨s3, g3⟩ := me2.si.set e2 (o := .dk (dDropK kvs k)) (ho := .dK (dropK kws k)) (h4'.drop k)
                  have ea : a = w2.φ n := by
                    have z : V.ref a = V.ref (w2.φ n) := by
                      generalize V.ref a = t at r2
                      cases r2 with
                      | obj _ => rfl
                    cases z; rfl
                  subst ea
                  exact ⟨kws, k, v', h3, rfl, q1, p2 w2 _ v' g3 s3 q2⟩
                | _ => exact h4.elim
          | _ => exact p2.elim
      | _ => exact p1.elim
  | _ => exact p1.elim
end
end Mi
namespace Mi
open PySem L2
section
variable {X : Cx} {C : Cy X} {pos : Pos}
/-! ### names of the module, names of types -/
theorem j_glob {x : Str} {v : V} {u : Value} {d : D} (hg : Gl X x) (hm : X.mg x = some u) (r : RelV v u) (rd : ∀ w, Rep X.K w v d) (hd : (x == ("__debug__" : Str)) = false := by decide) : JE X C (.Name x pos) (mK d) := j_k (pe_glob hg hm r hd) rd
theorem j_ty {x : Str} {T : String} (hg : Gl X x) (hm : X.mg x = none) (hv : bootBuiltins x = some (.type T)) (hn : x ≠ "__name__" := by decide) (hd : (x == ("__debug__" : Str)) = false := by decide) : JE X C (.Name x pos) (mK (.ty T)) := j_k (pe_bltn (v := V.ty T) hg hm hv (show RelV (V.ty T) (Value.type T) from rfl) hn hd) fun _ => .ty T
/-! ### isinstance of several -/
def isiAny (k : String) : List String → Option Bool
  | [] => some false
  | T :: r => match isiB k T with
    | some true => some true
    | some false => isiAny k r
    | none => none
theorem isiAny_ok {K : PySem.W.Frag} {k : String} : ∀ {ts : List String} {b : Bool}, isiAny k ts = some b → PySem.W.kitAny K (.type k) (ts.map Value.type) = some b
  | [], b, h => by cases h; rfl
  | T :: r, b, h => by
    unfold isiAny at h
    show PySem.W.kitAny K (.type k) (Value.type T :: r.map Value.type) = some b
    unfold PySem.W.kitAny
    cases e : isiB k T with
    | none => rw [e] at h; cases h
    | some c =>
      rw [e] at h
      rw [isi_ok (K := K) e]
      cases c with
      | true => exact h
      | false => exact isiAny_ok h
def tysA : List String → TA
  | [] => tNil
  | t :: r => tCons (tC (.ty t)) (tysA r)
theorem tysA_go : ∀ (ts : List String) {σ : St} {H : Hp} {Q : List V → Hp → Prop}, Q (ts.map V.ty) H → tysA ts σ H Q
  | [], _, _, _, q => q
  | t :: r, _, _, _, q => tysA_go r q
theorem tys_paired : ∀ ts : List String, Paired ClsV (ts.map V.ty) (ts.map Value.type)
  | [] => .nil
  | t :: r => .cons (.ty t) (tys_paired r)
def mIsiT (ts : List String) (m : ME) : ME := fun env => bnd (m env) fun x S => match kindOf S x with
  | some k => match isiAny k ts with
    | some b => some (.ok (.bl b) S)
    | none => none
  | none => none
theorem pa_ty {x : Str} {T : String} {es : List Expr} {ts : List String} {p : Pos} (hg : Gl X x) (hm : X.mg x = none) (hv : bootBuiltins x = some (.type T)) (hr : PA X es (tysA ts)) (hn : x ≠ "__name__" := by decide) (hd : (x == ("__debug__" : Str)) = false := by decide)
    (hs : starEach (.Name x p :: es) X.env = (false, eval (.Name x p) X.env) :: starEach es X.env := by rfl) : PA X (.Name x p :: es) (tysA (T :: ts)) := pa_cons (pe_bltn (v := V.ty T) hg hm hv (show RelV (V.ty T) (Value.type T) from rfl) hn hd) hr hs
theorem j_isiT {e : Expr} {m : ME} {es : List Expr} {ts : List String} {p tp : Pos} {x1} (hg : Gl X "isinstance") (hm : X.mg "isinstance" = none) (he : JE X C e m) (hes : PA X es (tysA ts)) (hz : decide (ts.length ≤ 1000) = true := by rfl)
    (h1 : starEach [.Tuple es x1 tp] X.env = (false, eval (.Tuple es x1 tp) X.env) :: starEach [] X.env := by rfl) (h2 : starEach [e, .Tuple es x1 tp] X.env = (false, eval e X.env) :: starEach [.Tuple es x1 tp] X.env := by rfl)
    (hpl : (backTo pos (starEach [.Tuple es x1 tp] X.env)).any (·.1) = false := by rfl) : JE X C (.Call (.Name "isinstance" p) [e, .Tuple es x1 tp] [] pos) (mIsiT ts m) :=
  PE.weak (pe_callB call_isiT hg hm (by rfl) (pa_cons he (pa_cons (pe_tup hes) pa_nil h1) h2) (by decide) (by decide) h2 hpl) fun σ H Q ⟨w, S, env, me, p⟩ => by
  refine ⟨w, S, env, me, po_bnd me p fun w1 S1 H1 v d me1 rv g1 p1 => ?_⟩
  refine tysA_go ts ⟨by rw [List.length_map, line_is]; exact Nat.le_trans (of_decide_eq_true hz) (by decide), fun q hq => ?_⟩
  obtain ⟨s2, g2⟩ := me1.si.frz hq (.tup (ts.map V.ty))
  cases e1 : kindOf S1 d with
  | none => rw [e1] at p1; exact p1.elim
  | some k =>
    rw [e1] at p1
    dsimp only at p1
    cases e2 : isiAny k ts with
    | none => rw [e2] at p1; exact p1.elim
    | some b =>
      rw [e2] at p1
      exact ⟨v, q, _, _, _, b, rfl, upd_same, tys_paired ts, kind_is s2 (rv.le g2.le) e1, isiAny_ok e2, p1 _ _ _ g2 s2 (.bl b)⟩
/-! ### [..] * n -/
def mRep (mk : List D → M D) (ms : MA) (b : ME) : ME := fun env => bnd (ms env) fun xs => if xs.length ≤ lineN then bnd (b env) fun y S => match y with
  | .int k => if (decide (-(2 ^ 63) ≤ k) && decide (k < 2 ^ 63) && decide (xs.length * k.toNat ≤ lineN)) = true then mk (List.replicate k.toNat xs).flatten S else none
  | _ => none
  else stuck
theorem RepL.rep {K : PySem.W.Frag} {w : Wd} {vs : List V} {ds : List D} (r : RepL K w vs ds) : ∀ n : Nat, RepL K w (List.replicate n vs).flatten (List.replicate n ds).flatten
  | 0 => .nil
  | n + 1 => by
    rw [List.replicate_succ, List.replicate_succ, List.flatten_cons, List.flatten_cons]
    exact r.append (RepL.rep r n)
theorem j_rep {mk : List D → M D} (hk : MkS X mk) {es : List Expr} {ms : MA} {b : Expr} {mb : ME} {lp : Pos} (h : JA X C es ms) (hb : JE X C b mb) : JE X C (.BinOp (.List es lp) .Mult b pos) (mRep mk ms mb) := PE.weak (pe_op op_rep (pe_lst h) hb) fun σ H Q ⟨w, S, env, me, p⟩ => by
  refine ⟨w, S, env, me, po_bnd me p fun w1 S1 H1 vs ds me1 rv g1 p1 => ?_⟩
  by_cases key : ds.length ≤ lineN
  case neg => rw [if_neg key] at p1; exact p1.elim
  rw [if_pos key] at p1
  refine ⟨by rw [rv.length, line_is]; exact key, fun q hq => ?_⟩
  obtain ⟨s2, g2⟩ := me1.si.fr hq (.lst vs)
  have me2 := me1.go g2 s2
  refine ⟨w1, S1, env, me2, po_bnd me2 (p1.go g2) fun w3 S3 H3 y dy me3 ry g3 p3 => ?_⟩
  have hl := (g3.fo q _ (fo_new me1.si hq (.lst vs))).1
  cases dy with
  | int k =>
    cases ry
    dsimp only at p3
    split at p3
    · rename_i hz
      simp only [Bool.and_eq_true, decide_eq_true_eq] at hz
      have r3 := (rv.le (g2.le.trans g3.le)).rep k.toNat
      obtain ⟨_, hq2⟩ := hk me3.si r3 p3
      exact ⟨q, k, vs, rfl, rfl, hl, hz.1.1, hz.1.2, by rw [rv.length, line_is]; exact hz.2, hq2⟩
    · exact p3.elim
  | _ => exact p3.elim
end
theorem hu64 {A : Around} {k : Nat} (hr : Room k A) : A.units + 64 < cLine := by have := hr.un; omega
theorem hu65 {A : Around} {k : Nat} (hr : Room k A) : A.units + 65 < cLine := by have := hr.un; omega
def dAddI : D → D → M D := dI fun i j => .int (i + j)
theorem op2_iadd {X : Cx} : Op2 X (rI0 fun i j => .int (i + j)) dAddI := op_dI fun _ _ _ => .int _
/-! ### a lock where one is needed -/
def needLk (S : MS) (env : En) (path : List Nat) : Bool := match refOf env S path with
  | some n => match S.get n with
    | some o => (lockOf o).isSome
    | none => false
  | none => false
def mLkM (path : List Nat) (m : ME) : ME := fun env S => if needLk S env path = true then mLk path m env S else m env S
def mLkSM (path : List Nat) (m : MSt) : MSt := fun env S => if needLk S env path = true then mLkS path m env S else m env S
section
variable {X : Cx} {C : Cy X}
theorem j_lkm {e : Expr} {m : ME} (path : List Nat) (h : JE X C e m) : JE X C e (mLkM path m) := ⟨fun pins s σ H Q I ⟨w, S, env, me, p⟩ => by
  unfold mLkM at p
  by_cases c : needLk S env path = true
  · rw [if_pos c] at p
    exact (j_lk path h).run pins s σ H Q I ⟨w, S, env, me, p⟩
  · rw [if_neg c] at p
    exact h.run pins s σ H Q I ⟨w, S, env, me, p⟩⟩
theorem js_lkm {st : Stmt} {m : MSt} (path : List Nat) (h : JS X C st m) : JS X C st (mLkSM path m) := ⟨fun pins s σ H D I ⟨w, S, env, me, p⟩ => by
  unfold mLkSM at p
  by_cases c : needLk S env path = true
  · rw [if_pos c] at p
    exact (js_lk path h).run pins s σ H D I ⟨w, S, env, me, p⟩
  · rw [if_neg c] at p
    exact h.run pins s σ H D I ⟨w, S, env, me, p⟩⟩
end
theorem fj_zero {P : Program} {wo : World} {K : PySem.W.Frag} {mg : Str → Option Value} {base : Heap} {k : Nat} {f : Addr} {fd : FuncData} {ps : List Str} : FJ P wo K mg base k f fd ps (fun _ => stuck) :=
  ⟨fun vs H Q E ⟨w, S, ds, si, r, hl, p⟩ => p.elim, fun A outer s H args us vs Q E hr he hb hv ⟨w, S, ds, si, r, hl, p⟩ => p.elim⟩
theorem ar_stuck {n : Nat} : Ar n (fun _ => stuck) := fun _ _ _ h => by cases h
end Mi
namespace Mi
open PySem L2
section
variable {X : Cx} {C : Cy X} {pos : Pos}
/-! ### dict comprehensions -/
def dcM (g : MG) (tt : MT) (tk te : ME) (env : En) : List (Key × D) → List D → M (List (Key × D))
  | acc, [], S => some (.ok acc S)
  | acc, d :: r, S => match g d env S with
    | none => none
    | some (env1, S1) => match tt env1 S1 with
      | some (.ok true S2) => match tk env1 S2 with
        | some (.ok k S3) => match te env1 S3 with
          | some (.ok y S4) => match toKey k with
            | some k' => if acc.length < lineN then dcM g tt tk te env (dPutK acc k' y) r S4 else none
            | none => none
          | _ => none
        | _ => none
      | some (.ok false S2) => dcM g tt tk te env acc r S2
      | _ => none
def mDc (mi : MA) (g : MG) (tt : MT) (tk te : ME) (vs : List Nat) (mk : List (Key × D) → M D) : ME := fun env => bnd (mi env) fun ds => bnd (dcM g tt tk te (wipeE env vs) [] ds) mk
theorem dcM_noexc {g : MG} {tt : MT} {tk te : ME} {env : En} : ∀ (ds : List D) (acc : List (Key × D)) (S : MS) (ex : Exn) (S' : MS), dcM g tt tk te env acc ds S ≠ some (.exc ex S')
  | [], _, _, _, _ => fun h => by cases h
  | d :: r, acc, S, ex, S' => fun h => by
    unfold dcM at h
    split at h
    · cases h
    · split at h
      · split at h
        · split at h
          · split at h
            · split at h
              · exact dcM_noexc r _ _ _ _ h
              · cases h
            · cases h
          · cases h
        · cases h
      · exact dcM_noexc r _ _ _ _ h
      · cases h
/-- how a dict that was made step by step is kept -/
abbrev MkDC (X : Cx) (mk : List (Key × D) → M D) : Prop := ∀ {w0 w : Wd} {S0 S : MS} {H0 H : Hp} {a : Addr} {kws : List (Key × V)} {kvs : List (Key × D)} {W : Value → Option Addr → Hp → Prop} {Q : VK}, SI X.K X.mg w0 S0 H0 → H0 a = none → Go w0 S0 (upd H0 a (.dK kws)) w S H → SI X.K X.mg w S H → RepK X.K w kws kvs →
  Po X.K X.mg (RV' X.K) W w0 S0 H0 Q (mk kvs S) → Q2 Q (.ref a) H
theorem mkD_c {mk : List (Key × D) → M D} (hk : MkD X mk) : MkDC X mk := fun {w0 w S0 S H0 H a kws kvs W Q} si0 ha g si r p => by
  obtain ⟨q1, q⟩ := hk (kws := kws) si0 ha g si r p
  have e := upd_id q1
  have z := q2_of q
  rw [e] at z
  exact z
theorem dcM_go {mi : MA} {g : MG} {gt : TG} {tt : MT} {tk te : ME} {vs : List Nat} {mk : List (Key × D) → M D} (gv : GV X vs gt g) (hk : MkDC X mk) {σ : St} {H : Hp} {Q : VK} (h : tE C (mDc mi g tt tk te vs mk) σ H Q) : tDc (tI C mi) gt (tTb X tt) (tEb X tk) (tEb X te) vs σ H (Q2 Q) := by
  obtain ⟨w, S, env, me, p⟩ := h
  refine ⟨w, S, env, me, po_bnd me p fun w1 S1 H1 J ds me1 ri g1 p1 => ?_⟩
  intro L0 hD
  obtain ⟨s0, g0⟩ := me1.si.fr hD (.dK [])
  refine ⟨fun i m H' => ∃ w' S' acc ys, m = ds.length - i ∧ i ≤ ds.length ∧ Go w1 S1 (upd H1 L0 (.dK acc)) w' S' H' ∧ SI X.K X.mg w' S' H' ∧ RepK X.K w' acc ys ∧
    (match dcM g tt tk te (wipeE env vs) ys (ds.drop i) S' with
      | some (.ok zs S'') => Po X.K X.mg (RV' X.K) (fun c d H => C.W c d σ H) w1 S1 H1 Q (mk zs S'')
      | _ => False), ⟨ds.length, w1, S1, [], [], by simp, Nat.zero_le _, Go.refl _ _ _, s0, .nil, ?_⟩, ?_⟩
  · rw [List.drop_zero]
    unfold bnd at p1
    cases e : dcM g tt tk te (wipeE env vs) [] ds S1 with
    | none => rw [e] at p1; exact p1
    | some r =>
      rw [e] at p1
      cases r with
      | exc ex S' => exact (dcM_noexc _ _ _ _ _ e).elim
      | ok zs S' => exact p1
  · rintro i m H2 ⟨w2, S2, acc, ys, rfl, hi, g2, si2, r2, p2⟩
    obtain ⟨gfr⟩ : Nonempty (Go w1 S1 H1 w2 S2 H2) := by
      obtain ⟨_, gg⟩ := me1.si.fr hD (.dK acc)
      exact ⟨gg.trans g2⟩
    obtain ⟨hstop, hgo⟩ := ri i w2 S2 H2 gfr si2
    by_cases hlt : i < ds.length
    · refine .inr ?_
      have hd : ds.drop i = ds[i] :: ds.drop (i + 1) := List.drop_eq_getElem_cons hlt
      rw [hd] at p2
      obtain ⟨go, yl⟩ := hgo ds[i] (List.getElem?_eq_getElem hlt)
      refine ⟨go, fun H' => ∃ w' S' acc ys, Go w1 S1 (upd H1 L0 (.dK acc)) w' S' H' ∧ SI X.K X.mg w' S' H' ∧ RepK X.K w' acc ys ∧
        (match dcM g tt tk te (wipeE env vs) ys (ds.drop (i + 1)) S' with
          | some (.ok zs S'') => Po X.K X.mg (RV' X.K) (fun c d H => C.W c d σ H) w1 S1 H1 Q (mk zs S'')
          | _ => False), fun H' ⟨w', S', acc, ys, m1, m2, m3, m4⟩ => ⟨ds.length - (i + 1), by omega, w', S', acc, ys, rfl, hlt, m1, m2, m3, m4⟩, fun x H' y => ?_⟩
      obtain ⟨w3, g3, si3, r3⟩ := yl x H' y
      unfold dcM at p2
      cases q : g ds[i] (wipeE env vs) S2 with
      | none => rw [q] at p2; exact p2.elim
      | some z =>
        obtain ⟨env3, S3⟩ := z
        rw [q] at p2
        dsimp only at p2
        have hS := gv.st q
        subst hS
        refine gv.ok si3 r3 ((me1.en.le (gfr.le.trans g3.le)).wipe vs) q fun σ4 en4 w4 => ⟨w4.trans wipe_idem, ?_⟩
        refine ⟨w3, S3, env3, si3, en4, ?_⟩
        cases q2 : tt env3 S3 with
        | none => rw [q2] at p2; exact p2.elim
        | some r =>
          rw [q2] at p2
          cases r with
          | exc _ _ => exact p2.elim
          | ok b S5 =>
            intro w5 H5 b' g5 si5 rb
            cases (show b' = b from rb)
            have G5 : Go w1 S1 (upd H1 L0 (.dK acc)) w5 S5 H5 := g2.trans (g3.trans g5)
            cases b with
            | false =>
              rw [if_neg Bool.false_ne_true]
              exact ⟨w5, S5, acc, ys, G5, si5, r2.le (g3.le.trans g5.le), p2⟩
            | true =>
              rw [if_pos rfl]
              dsimp only at p2
              refine ⟨w5, S5, env3, si5, en4.le g5.le, ?_⟩
              cases q3 : tk env3 S5 with
              | none => rw [q3] at p2; exact p2.elim
              | some r =>
                rw [q3] at p2
                cases r with
                | exc _ _ => exact p2.elim
                | ok k0 S6 =>
                  intro w6 H6 kv g6 si6 rk
                  dsimp only at p2
                  refine ⟨w6, S6, env3, si6, en4.le (g5.le.trans g6.le), ?_⟩
                  cases q4 : te env3 S6 with
                  | none => rw [q4] at p2; exact p2.elim
                  | some r =>
                    rw [q4] at p2
                    cases r with
                    | exc _ _ => exact p2.elim
                    | ok y0 S7 =>
                      intro w7 H7 yv g7 si7 ry
                      dsimp only at p2
                      cases q5 : toKey k0 with
                      | none => rw [q5] at p2; exact p2.elim
                      | some k' =>
                        rw [q5] at p2
                        dsimp only at p2
                        by_cases hz : ys.length < lineN
                        · rw [if_pos hz] at p2
                          have G7 := G5.trans (g6.trans g7)
                          have hD7 := (adopt me1.si hD G7 si7).1
                          obtain ⟨s8, g8⟩ := fo_chg me1.si hD G7 si7 (.dK (putK acc k' yv))
                          have r7 := r2.le (g3.le.trans (g5.le.trans (g6.le.trans g7.le)))
                          exact ⟨acc, k', key_is rk q5, hD7, by rw [r2.length, line_is]; exact hz, w7, S7, putK acc k' yv, dPutK ys k' y0, g8, s8, r7.put k' ry, p2⟩
                        · rw [if_neg hz] at p2
                          exact p2.elim
    · have hl : i = ds.length := by omega
      subst hl
      rw [List.drop_length] at p2
      unfold dcM at p2
      exact .inl ⟨hstop rfl, hk me1.si hD g2 si2 r2 p2⟩
section
variable {kx vx tg iter : Expr} {ifs : List Expr} {scope : Scope} {own : List (Str × Nat)} {mi : MA} {g : MG} {gt : TG} {tt : MT} {tk te : ME} {mk : List (Key × D) → M D} {vs : List Nat}
theorem j_dc (hk : MkD X mk) (hc : X.calm = true) (hN : X.N.Nodup) (hi : JI X C tg iter mi) (ok : BlkOk X.N X.env.scope scope own) (hvs : own.map (·.2) = vs) (gv : GV X vs gt g)
    (hg : ∀ (s : Shared) (H : Hp) (A : Addr) (cl : List (Str × Addr)) (fp : List Addr), PG (X.blk s H scope (compEnvC scope cl A X.env) fp) tg gt) (ht : ∀ (s : Shared) (H : Hp) (A : Addr) (cl : List (Str × Addr)) (fp : List Addr), JTs (X.blk s H scope (compEnvC scope cl A X.env) fp) blkCy ifs tt)
    (hke : ∀ (s : Shared) (H : Hp) (A : Addr) (cl : List (Str × Addr)) (fp : List Addr), JE (X.blk s H scope (compEnvC scope cl A X.env) fp) blkCy kx tk)
    (he : ∀ (s : Shared) (H : Hp) (A : Addr) (cl : List (Str × Addr)) (fp : List Addr), JE (X.blk s H scope (compEnvC scope cl A X.env) fp) blkCy vx te) (hs : ∀ x, foldedSetIterable iter X.env x = pure x := by intro _; rfl) :
    JE X C (.DictComp kx vx [⟨tg, iter, ifs, 0⟩] scope pos) (mDc mi g tt tk te vs mk) := by
  subst hvs
  exact PE.weak (pe_post (pe_dc hc hN hi ok hg (fun s H A cl fp => blk_t (ht s H A cl fp)) (fun s H A cl fp => blk_e (hke s H A cl fp)) (fun s H A cl fp => blk_e (he s H A cl fp)) hs)) fun σ H Q h => dcM_go gv (mkD_c hk) h
end
end
end Mi
/-! MiDs: sorted, min, remove over lists whose items are ints, texts, tuples and lists of these. -/
namespace Mi
open PySem L2
/-! ### values that are data -/
mutual
inductive VD (K : PySem.W.Frag) (H : Hp) : V → PyData → Prop
  | int (i : Int) : VD K H (.int i) (.int i)
  | bl (b : Bool) : VD K H (.bl b) (.bool b)
  | str (x : Str) : VD K H (.str x) (.str x)
  | tup {a : Addr} {vs : List V} {ps : List PyData} : SqT K H a vs → VDL K H vs ps → VD K H (.ref a) (.tuple ps)
  | lst {a : Addr} {vs : List V} {ps : List PyData} : SqL K H a vs → VDL K H vs ps → VD K H (.ref a) (.list ps)
inductive VDL (K : PySem.W.Frag) (H : Hp) : List V → List PyData → Prop
  | nil : VDL K H [] []
  | cons {v : V} {vs : List V} {p : PyData} {ps : List PyData} : VD K H v p → VDL K H vs ps → VDL K H (v :: vs) (p :: ps)
end
mutual
def datD : D → Option PyData
  | .int i => some (.int i)
  | .bl b => some (.bool b)
  | .str x => some (.str x)
  | .tup ds => (datL ds).map .tuple
  | .lst ds => (datL ds).map .list
  | _ => none
def datL : List D → Option (List PyData)
  | [] => some []
  | d :: ds => match datD d, datL ds with
    | some p, some ps => some (p :: ps)
    | _, _ => none
end
mutual
def unD : PyData → D
  | .int i => .int i
  | .bool b => .bl b
  | .str x => .str x
  | .tuple ps => .tup (unL ps)
  | .list ps => .lst (unL ps)
  | _ => .non
def unL : List PyData → List D
  | [] => []
  | p :: ps => unD p :: unL ps
end
mutual
theorem un_dat : ∀ {d : D} {p : PyData}, datD d = some p → unD p = d
  | .int i, p, h => by unfold datD at h; cases h; unfold unD; rfl
  | .bl i, p, h => by unfold datD at h; cases h; unfold unD; rfl
  | .str i, p, h => by unfold datD at h; cases h; unfold unD; rfl
  | .tup ds, p, h => by
    unfold datD at h
    cases e : datL ds with
    | none => rw [e] at h; cases h
    | some ps =>
      rw [e] at h
      cases h
      unfold unD
      rw [un_datL e]
  | .lst ds, p, h => by
    unfold datD at h
    cases e : datL ds with
    | none => rw [e] at h; cases h
    | some ps =>
      rw [e] at h
      cases h
      unfold unD
      rw [un_datL e]
  | .non, p, h => by unfold datD at h; cases h
  | .src ds, p, h => by unfold datD at h; cases h
  | .dct ds, p, h => by unfold datD at h; cases h
  | .obj ds, p, h => by unfold datD at h; cases h
  | .ty ds, p, h => by unfold datD at h; cases h
theorem un_datL : ∀ {ds : List D} {ps : List PyData}, datL ds = some ps → unL ps = ds
  | [], ps, h => by unfold datL at h; cases h; unfold unL; rfl
  | d :: ds, ps, h => by
    unfold datL at h
    cases e1 : datD d with
    | none => rw [e1] at h; cases h
    | some p =>
      cases e2 : datL ds with
      | none => rw [e1, e2] at h; cases h
      | some qs =>
        rw [e1, e2] at h
        cases h
        unfold unL
        rw [un_dat e1, un_datL e2]
end
section
variable {K : PySem.W.Frag} {w : Wd} {H : Hp}
mutual
theorem vd_of (hx : ∀ a o, w.F a = some o → H a = some o) : ∀ {d : D} {v : V} {p : PyData}, Rep K w v d → datD d = some p → VD K H v p
  | .int i, _, p, r, h => by unfold datD at h; cases h; cases r; exact .int i
  | .bl i, _, p, r, h => by unfold datD at h; cases h; cases r; exact .bl i
  | .str i, _, p, r, h => by unfold datD at h; cases h; cases r; exact .str i
  | .tup ds, _, p, r, h => by
    unfold datD at h
    cases e : datL ds with
    | none => rw [e] at h; cases h
    | some ps =>
      rw [e] at h
      cases h
      cases r with
      | tup h1 h2 => exact .tup (sqt_ex hx h1) (vdl_of hx h2 e)
  | .lst ds, _, p, r, h => by
    unfold datD at h
    cases e : datL ds with
    | none => rw [e] at h; cases h
    | some ps =>
      rw [e] at h
      cases h
      cases r with
      | lst h1 h2 => exact .lst (.inl (rd_ex hx h1)) (vdl_of hx h2 e)
  | .non, _, p, r, h => by unfold datD at h; cases h
  | .src ds, _, p, r, h => by unfold datD at h; cases h
  | .dct ds, _, p, r, h => by unfold datD at h; cases h
  | .obj ds, _, p, r, h => by unfold datD at h; cases h
  | .ty ds, _, p, r, h => by unfold datD at h; cases h
theorem vdl_of (hx : ∀ a o, w.F a = some o → H a = some o) : ∀ {ds : List D} {vs : List V} {ps : List PyData}, RepL K w vs ds → datL ds = some ps → VDL K H vs ps
  | [], _, ps, r, h => by unfold datL at h; cases h; cases r; exact .nil
  | d :: ds, _, ps, r, h => by
    unfold datL at h
    cases e1 : datD d with
    | none => rw [e1] at h; cases h
    | some p =>
      cases e2 : datL ds with
      | none => rw [e1, e2] at h; cases h
      | some qs =>
        rw [e1, e2] at h
        cases h
        cases r with
        | cons h1 h2 => exact .cons (vd_of hx h1 e1) (vdl_of hx h2 e2)
end
theorem VDL.length : ∀ {vs : List V} {ps : List PyData}, VDL K H vs ps → vs.length = ps.length
  | [], _, h => by cases h; rfl
  | v :: vs, _, h => by
    cases h with
    | cons _ h2 => simp [VDL.length h2]
end
section
variable {X : Cx} {pins : List (Addr × Obj)} {σ : St} {H : Hp} {s : Shared}
mutual
theorem VD.reads (I : Inv X pins σ H s) : ∀ {p : PyData} {v : V} {u : Value}, VD X.K H v p → RelV v u → ∃ as, Reads s.heap u p as
  | .int i, _, _, h, r => by
    cases h
    obtain ⟨t, rfl⟩ := r
    exact ⟨_, .int i t⟩
  | .bool b, _, _, h, r => by
    cases h
    cases r
    exact ⟨_, .bool b⟩
  | .str x, _, _, h, r => by
    cases h
    obtain ⟨t, rfl⟩ := r
    exact ⟨_, .str x t⟩
  | .tuple ps, _, _, h, r => by
    cases h with
    | tup h1 h2 =>
      obtain ⟨its, rv, ⟨o, ho, hc, n, hd⟩, _⟩ := I.tuple h1
      obtain ⟨as, ra⟩ := VDL.reads I h2 rv
      cases r
      exact ⟨_, .tuple ho hc hd (by simpa using ra)⟩
  | .list ps, _, _, h, r => by
    cases h with
    | lst h1 h2 =>
      obtain ⟨its, rv, hl, _⟩ := I.list h1
      obtain ⟨o, ho, hc, n, hd⟩ := hl.isList
      obtain ⟨as, ra⟩ := VDL.reads I h2 rv
      cases r
      exact ⟨_, .list ho hc hd (by simpa using ra)⟩
  | .none, _, _, h, _ => by cases h
  | .dict _, _, _, h, _ => by cases h
theorem VDL.reads (I : Inv X pins σ H s) : ∀ {ps : List PyData} {vs : List V} {us : List Value}, VDL X.K H vs ps → Vals vs us → ∃ as, ReadsAll s.heap us ps as
  | [], _, _, h, r => by
    cases h
    cases r
    exact ⟨_, .nil⟩
  | p :: ps, _, _, h, r => by
    cases h with
    | cons h1 h2 =>
      cases r with
      | cons r1 r2 =>
        obtain ⟨as, a⟩ := VD.reads I h1 r1
        obtain ⟨bs, b⟩ := VDL.reads I h2 r2
        exact ⟨_, .cons a b⟩
end
open PySem.W in
theorem vd_each (I : Inv X pins σ H s) : ∀ {ps : List PyData} {vs : List V} {us : List Value}, VDL X.K H vs ps → Vals vs us → EachIs (fun u (b : V × PyData) => RelV b.1 u) us (vs.zip ps) ∧ EachIs (fun u (b : V × PyData) => ∃ as, Reads s.heap u b.2 as) us (vs.zip ps)
  | [], _, _, h, r => by
    cases h
    cases r
    exact ⟨.nil, .nil⟩
  | p :: ps, _, _, h, r => by
    cases h with
    | cons h1 h2 =>
      cases r with
      | cons r1 r2 =>
        obtain ⟨a, b⟩ := vd_each I h2 r2
        exact ⟨.cons r1 a, .cons (VD.reads I h1 r1) b⟩
open PySem.W in
theorem each_vals : ∀ {us : List Value} {bs : List (V × PyData)}, EachIs (fun u (b : V × PyData) => RelV b.1 u) us bs → Vals (bs.map (·.1)) us
  | _, _, .nil => .nil
  | _, _, .cons h t => .cons h (each_vals t)
end
/-! ### sorted -/
def okS (ps : List PyData) : Bool := (ps.all fun p => ps.all fun q => PySem.W.alike p q) && ((ps.all fun p => match p with
  | .tuple (_ :: _) => true
  | _ => false) || (ps.all fun p => match p with
  | .none => false
  | .tuple _ => false
  | _ => true)) && (ps.all fun p => decide (p.depth ≤ 8))
theorem okS_1 {ps : List PyData} (h : okS ps = true) : PySem.W.AllAlike ps := by
  unfold okS at h
  simp only [Bool.and_eq_true] at h
  intro d hd d' hd'
  exact (List.all_eq_true.mp ((List.all_eq_true.mp h.1.1) d hd)) d' hd'
theorem okS_2 {ps : List PyData} (h : okS ps = true) : PySem.W.Sortable ps := by
  unfold okS at h
  simp only [Bool.and_eq_true, Bool.or_eq_true] at h
  rcases h.1.2 with h | h
  · refine .inl fun d hd => ?_
    have q := List.all_eq_true.mp h d hd
    match d, q with
    | .tuple (x :: r), _ => exact ⟨x, r, rfl⟩
  · refine .inr fun d hd => ?_
    have q := List.all_eq_true.mp h d hd
    match d, q with
    | .int _, _ => exact And.intro (fun e => PyData.noConfusion e) (fun xs e => PyData.noConfusion e)
    | .bool _, _ => exact And.intro (fun e => PyData.noConfusion e) (fun xs e => PyData.noConfusion e)
    | .str _, _ => exact And.intro (fun e => PyData.noConfusion e) (fun xs e => PyData.noConfusion e)
    | .list _, _ => exact And.intro (fun e => PyData.noConfusion e) (fun xs e => PyData.noConfusion e)
    | .dict _, _ => exact And.intro (fun e => PyData.noConfusion e) (fun xs e => PyData.noConfusion e)
theorem okS_3 {ps : List PyData} (h : okS ps = true) : ∀ p ∈ ps, p.depth ≤ 8 := by
  unfold okS at h
  simp only [Bool.and_eq_true] at h
  intro p hp
  exact of_decide_eq_true (List.all_eq_true.mp h.2 p hp)
abbrev srt {α : Type} (bs : List (α × PyData)) : List (α × PyData) := bs.mergeSort (PySem.W.dataLe false fun b => b.2)
def rSortG (K : PySem.W.Frag) : List V → Hp → VK → Prop := fun vs H Q => ∃ (a : Addr) (xs : List V) (ps : List PyData), vs = [V.ref a] ∧ SqL K H a xs ∧ VDL K H xs ps ∧ okS ps = true ∧
  ∀ p, H p = none → Q (.ref p) (upd H p (.lst ((srt (xs.zip ps)).map (·.1))))
section
variable {X : Cx}
theorem cr_sortG (hu : X.A.units + 64 < cLine) : CallR X (.builtin "sorted") (rSortG X.K) := by
  intro pins s σ H vs us Q I r h
  obtain ⟨a, xs, ps, rfl, hs, hv, hk, q⟩ := h
  obtain ⟨its, rv, hl, hz⟩ := I.list hs
  rw [Vals.ref1 r]
  obtain ⟨e1, e2⟩ := vd_each I hv rv
  have ez : (xs.zip ps).map (fun b => b.2) = ps := List.map_snd_zip (by rw [hv.length]; exact Nat.le_refl _)
  have el : (xs.zip ps).length = xs.length := by rw [List.length_zip, hv.length, Nat.min_self]
  refine PySem.W.sorted_data (enc := fun b : V × PyData => b.2) (R := fun u (b : V × PyData) => RelV b.1 u) hl.isList e1 e2 (by rw [ez]; exact okS_1 hk) (by rw [ez]; exact okS_2 hk) (by rw [el]; exact hz) (fun b hb => ?_) fun out ho eo => ?_
  · have := okS_3 hk b.2 (by rw [← ez]; exact List.mem_map.mpr ⟨b, hb, rfl⟩)
    omega
  · obtain ⟨ep, he'⟩ := PyProof.Rows.sortedAll_at s.heap its out.toArray
    have hlen : ((srt (xs.zip ps)).map (·.1)).length ≤ sizeLine := by
      rw [List.length_map, List.length_mergeSort, el]
      exact hz
    exact ⟨.ref _, upd H (s.heap.objs.size + 1) (.lst ((srt (xs.zip ps)).map (·.1))), I.laid (t' := s.toks) (fun _ _ => PyProof.Rows.sortedAll_old) (Nat.le_succ _) ⟨hlen, out, ep, each_vals eo, he'⟩, rfl, q _ (I.hok.fresh (Nat.le_succ _))⟩
def sortDs (ds : List D) (ps : List PyData) : List D := (srt (ds.zip ps)).map (·.1)
def dSortG (mk : List D → M D) : D → M D := fun d S => match lstOf S d with
  | some ds => match datL ds with
    | some ps => if okS ps = true then mk (sortDs ds ps) S else none
    | none => none
  | none => none
theorem rep_zip {K : PySem.W.Frag} {w : Wd} : ∀ {ps : List PyData} {vs : List V} {ds : List D}, RepL K w vs ds → ds.length = ps.length → ∃ T : List (V × D × PyData), vs.zip ps = T.map (fun t => (t.1, t.2.2)) ∧ ds.zip ps = T.map (fun t => (t.2.1, t.2.2)) ∧ ∀ t ∈ T, Rep K w t.1 t.2.1
  | [], [], _, h, e => by cases h; exact ⟨[], rfl, rfl, fun _ h => nomatch h⟩
  | p :: ps, [], _, h, e => by cases h; simp at e
  | [], v :: vs, _, h, e => by cases h; simp at e
  | p :: ps, v :: vs, _, h, e => by
    cases h with
    | cons h1 h2 =>
      obtain ⟨T, a, b, c⟩ := rep_zip (ps := ps) h2 (by simpa using e)
      refine ⟨(v, _, p) :: T, by rw [List.zip_cons_cons, a]; rfl, by rw [List.zip_cons_cons, b]; rfl, fun t ht => ?_⟩
      rcases List.mem_cons.mp ht with rfl | ht
      · exact h1
      · exact c t ht
theorem repL_map {K : PySem.W.Frag} {w : Wd} : ∀ {T : List (V × D × PyData)}, (∀ t ∈ T, Rep K w t.1 t.2.1) → RepL K w (T.map (·.1)) (T.map (·.2.1))
  | [], _ => .nil
  | t :: T, h => .cons (h t List.mem_cons_self) (repL_map fun u hu => h u (List.mem_cons_of_mem _ hu))
theorem srt_map {α β : Type} (f : α → β) (T : List (α × PyData)) : (srt T).map (fun b => (f b.1, b.2)) = srt (T.map fun b => (f b.1, b.2)) :=
  PySem.W.sort_maps _ fun _ _ _ _ => rfl
theorem opA_sortG {mk : List D → M D} (hk : MkS X mk) : OpA X (rSortG X.K) (d1 (dSortG mk)) := opA1 fun w S H x d Q W si rx p => by
  unfold dSortG at p
  cases e1 : lstOf S d with
  | none => rw [e1] at p; exact p.elim
  | some ds =>
    rw [e1] at p
    dsimp only at p
    obtain ⟨a, vs, rfl, h1, h2⟩ := lst_is si rx e1
    cases e2 : datL ds with
    | none => rw [e2] at p; exact p.elim
    | some ps =>
      rw [e2] at p
      dsimp only at p
      split at p
      · rename_i hok
        have hv := vdl_of si.ex h2 e2
        obtain ⟨T, t1, t2, t3⟩ := rep_zip (ps := ps) h2 (by rw [← h2.length, hv.length])
        have q1 : (srt (vs.zip ps)).map (·.1) = (T.mergeSort (PySem.W.dataLe false fun t => t.2.2)).map (·.1) := by
          rw [t1]
          unfold srt
          rw [← PySem.W.sort_maps (r := PySem.W.dataLe false fun t : V × D × PyData => t.2.2) (s := PySem.W.dataLe false fun b : V × PyData => b.2) (fun t => (t.1, t.2.2)) fun _ _ _ _ => rfl, List.map_map]
          rfl
        have q2 : sortDs ds ps = (T.mergeSort (PySem.W.dataLe false fun t => t.2.2)).map (·.2.1) := by
          unfold sortDs
          rw [t2]
          unfold srt
          rw [← PySem.W.sort_maps (r := PySem.W.dataLe false fun t : V × D × PyData => t.2.2) (s := PySem.W.dataLe false fun b : D × PyData => b.2) (fun t => (t.2.1, t.2.2)) fun _ _ _ _ => rfl, List.map_map]
          rfl
        have hr : RepL X.K w ((srt (vs.zip ps)).map (·.1)) (sortDs ds ps) := by
          rw [q1, q2]
          exact repL_map fun t ht => t3 t (List.mem_mergeSort.mp ht)
        obtain ⟨hz, hq⟩ := hk si hr p
        exact ⟨a, vs, ps, rfl, h1, hv, hok, fun b hb => hq b hb⟩
      · exact p.elim
end
/-! ### min -/
def okM (ps : List PyData) : Bool := (ps.all fun p => ps.all fun q => PySem.W.alike p q) && (ps.all fun p => match p with
  | .none => false
  | _ => true) && decide (PyData.depthAll ps ≤ 8)
theorem okM_1 {ps : List PyData} (h : okM ps = true) : PySem.W.AlikeAll ps := by
  unfold okM at h
  simp only [Bool.and_eq_true] at h
  refine ⟨fun d hd d' hd' => (List.all_eq_true.mp ((List.all_eq_true.mp h.1.1) d hd)) d' hd', fun x hx e => ?_⟩
  have q := List.all_eq_true.mp h.1.2 x hx
  rw [e] at q
  cases q
theorem okM_2 {ps : List PyData} (h : okM ps = true) : PyData.depthAll ps ≤ 8 := by
  unfold okM at h
  simp only [Bool.and_eq_true] at h
  exact of_decide_eq_true h.2
theorem minD_mem : ∀ (xs : List PyData) (x : PyData), PySem.W.minD x xs ∈ x :: xs
  | [], x => List.mem_singleton.mpr rfl
  | y :: ys, x => by
    have h := minD_mem ys (if PySem.W.dataLt y x then y else x)
    have e : PySem.W.minD x (y :: ys) = PySem.W.minD (if PySem.W.dataLt y x then y else x) ys := rfl
    rw [e]
    rcases List.mem_cons.mp h with h | h
    · rw [h]
      split
      · exact List.mem_cons_of_mem _ List.mem_cons_self
      · exact List.mem_cons_self
    · exact List.mem_cons_of_mem _ (List.mem_cons_of_mem _ h)
def rMinG (K : PySem.W.Frag) : List V → Hp → VK → Prop := fun vs H Q => ∃ (a : Addr) (xs : List V) (p : PyData) (ps : List PyData), vs = [V.ref a] ∧ SqL K H a xs ∧ VDL K H xs (p :: ps) ∧ okM (p :: ps) = true ∧
  ∀ (i : Nat) v, xs[i]? = some v → (p :: ps)[i]? = some (PySem.W.minD p ps) → Q v H
section
variable {X : Cx}
theorem cr_minG (hc : X.calm = true) (hu : X.A.units + 64 < cLine) : CallR X (.builtin "min") (rMinG X.K) := by
  intro pins s σ H vs us Q I r h
  obtain ⟨a, xs, p, ps, rfl, hs, hv, hk, q⟩ := h
  obtain ⟨its, rv, hl, hz⟩ := I.list hs
  rw [Vals.ref1 r]
  obtain ⟨as, ra⟩ := VDL.reads I hv rv
  have hd := okM_2 hk
  refine PySem.W.min_list_data (vs := its.toArray) (x := p) (xs := ps) (I.ok.hd hc) hl.isList (by simpa using ra) (okM_1 hk) (by omega) fun i v h' tk bs hi rd keep => ?_
  have hi' : its[i]? = some v := by simpa using hi
  have hil : i < its.length := (List.getElem?_eq_some_iff.mp hi').1
  have hvl := rv.length
  have hpl := hv.length
  obtain ⟨y, hy⟩ : ∃ y, xs[i]? = some y := ⟨xs[i]'(by omega), List.getElem?_eq_getElem _⟩
  obtain ⟨z, hz⟩ : ∃ z, (p :: ps)[i]? = some z := ⟨(p :: ps)[i]'(by omega), List.getElem?_eq_getElem _⟩
  obtain ⟨u, hu1, ru⟩ := Vals.get rv hy
  rw [hi'] at hu1
  cases hu1
  have rz : ∃ bs, Reads s.heap v z bs := by
    have g : ∀ {vs : List Value} {ds : List PyData} {as : List Addr} {i : Nat} {v : Value} {z : PyData}, ReadsAll s.heap vs ds as → vs[i]? = some v → ds[i]? = some z → ∃ bs, Reads s.heap v z bs := by
      intro vs
      induction vs with
      | nil => intro ds as i v z _ e; simp at e
      | cons w vs ih =>
        intro ds as i v z h e1 e2
        cases h with
        | cons h1 h2 =>
          cases i with
          | zero =>
            simp at e1 e2
            subst e1 e2
            exact ⟨_, h1⟩
          | succ i => exact ih h2 (by simpa using e1) (by simpa using e2)
    exact g ra hi' hz
  obtain ⟨cs, rz⟩ := rz
  have e : z = PySem.W.minD p ps := PySem.W.alike_unique _ _ _ _ _ ((okM_1 hk).1 _ (List.mem_of_getElem? hz) _ (minD_mem _ _)) (PyProof.Rows.Reads.keeps keep rz) rd
  exact ⟨y, H, I.kept (t' := tk) keep, ru, q i y hy (by rw [hz, e])⟩
def dMinG : D → M D := fun d S => match lstOf S d with
  | some ds => match datL ds with
    | some (p :: ps) => if okM (p :: ps) = true then some (.ok (unD (PySem.W.minD p ps)) S) else none
    | _ => none
  | none => none
theorem datL_get : ∀ {ds : List D} {ps : List PyData} {i : Nat} {q : PyData}, datL ds = some ps → ps[i]? = some q → ∃ d, ds[i]? = some d ∧ datD d = some q
  | [], ps, i, q, h, e => by unfold datL at h; cases h; simp at e
  | d :: ds, ps, i, q, h, e => by
    unfold datL at h
    cases e1 : datD d with
    | none => rw [e1] at h; cases h
    | some p =>
      cases e2 : datL ds with
      | none => rw [e1, e2] at h; cases h
      | some qs =>
        rw [e1, e2] at h
        cases h
        cases i with
        | zero =>
          simp at e
          subst e
          exact ⟨d, rfl, e1⟩
        | succ i =>
          obtain ⟨z, a, b⟩ := datL_get (i := i) e2 (by simpa using e)
          exact ⟨z, by simpa using a, b⟩
theorem opA_minG : OpA X (rMinG X.K) (d1 dMinG) := opA1 fun w S H x d Q W si rx p => by
  unfold dMinG at p
  cases e1 : lstOf S d with
  | none => rw [e1] at p; exact p.elim
  | some ds =>
    rw [e1] at p
    dsimp only at p
    obtain ⟨a, vs, rfl, h1, h2⟩ := lst_is si rx e1
    cases e2 : datL ds with
    | none => rw [e2] at p; exact p.elim
    | some qs =>
      rw [e2] at p
      cases qs with
      | nil => exact p.elim
      | cons q qs =>
        dsimp only at p
        split at p
        · rename_i hok
          have hv := vdl_of si.ex h2 e2
          refine ⟨a, vs, q, qs, rfl, h1, hv, hok, fun i v hi hq => ?_⟩
          obtain ⟨d', hd', rv⟩ := RepL.getV h2 hi
          obtain ⟨d2, hd2, hdat⟩ := datL_get e2 hq
          rw [hd'] at hd2
          cases hd2
          rw [un_dat hdat] at p
          exact p w H v (Go.refl _ _ _) si rv
        · exact p.elim
/-! ### remove -/
def okR (ps : List PyData) (p : PyData) : Bool := PyData.plainAll ps && p.plain && decide (p.depth ≤ 8)
def rRemG (K : PySem.W.Frag) : V → List V → Hp → VK → Prop := fun x xs H Q => ∃ (l : Addr) (vs : List V) (y : V) (ps : List PyData) (p : PyData) (j : Nat), x = .ref l ∧ xs = [y] ∧ H l = some (.lst vs) ∧ VDL K H vs ps ∧ VD K H y p ∧ okR ps p = true ∧ PySem.SeqAt.dataPlace ps p = some j ∧ Q .non (upd H l (.lst (vs.eraseIdx j)))
theorem mt_removeG (hu : X.A.units + 64 < cLine) : MtM X "list.remove" (rRemG X.K) := by
  intro pins s σ H x xs v us Q I rx rxs h
  obtain ⟨l, vs, y, ps, p, j, rfl, rfl, hH, hv, hy, hok, hj, q⟩ := h
  cases rx
  obtain ⟨u, rfl, ru⟩ := rxs.one
  obtain ⟨z, its, n, r, hl, e⟩ := I.lstM hH
  obtain ⟨as, ra⟩ := VDL.reads I hv r
  obtain ⟨bs, rb⟩ := VD.reads I hy ru
  unfold okR at hok
  simp only [Bool.and_eq_true] at hok
  have hd := of_decide_eq_true hok.2
  have hz : its.toArray.size ≤ sizeLine := by
    rw [List.size_toArray]
    omega
  refine PySem.SeqAt.remove_list_data (vs := its.toArray) (j := j) ⟨_, e, rfl, n, rfl⟩ (by simpa using ra) rb hok.1.1 hok.1.2 (by omega) hj hz ?_
  have rr := r.eraseIdx j
  refine ⟨.non, _, I.lset (its' := its.eraseIdx j) (t' := s.toks) hH e ?_ rr ?_, rfl, q⟩
  · show its.toArray.eraseIdxIfInBounds j = (its.eraseIdx j).toArray
    rw [List.eraseIdxIfInBounds_toArray]
  · have := List.length_eraseIdx_le vs j
    omega
def dRemoveG : D → List D → M D := fun x ds S => match mutL S x, ds with
  | some (n, es), [y] => match datL es, datD y with
    | some ps, some p => if okR ps p = true then match PySem.SeqAt.dataPlace ps p with
      | some j => some (.ok .non (S.set n (.lst (es.eraseIdx j))))
      | none => none
      else none
    | _, _ => none
  | _, _ => none
theorem opM_removeG : OpM X (rRemG X.K) dRemoveG := fun w S H x xs d ds Q W si rx rxs p => by
  unfold dRemoveG at p
  cases e : mutL S d with
  | none => rw [e] at p; exact p.elim
  | some ne =>
    obtain ⟨n, es⟩ := ne
    rw [e] at p
    try dsimp only at p
    obtain ⟨rfl, h1, vs, h2, h3⟩ := mutL_is si rx e
    cases rxs with
    | nil => exact p.elim
    | @cons v1 vs1 d1 ds1 r1 r2 =>
      cases r2 with
      | cons _ _ => exact p.elim
      | nil =>
        dsimp only at p
        cases e1 : datL es with
        | none => rw [e1] at p; exact p.elim
        | some ps =>
          cases e2 : datD d1 with
          | none => rw [e1, e2] at p; exact p.elim
          | some q =>
            rw [e1, e2] at p
            dsimp only at p
            split at p
            · rename_i hok
              cases e3 : PySem.SeqAt.dataPlace ps q with
              | none => rw [e3] at p; exact p.elim
              | some j =>
                rw [e3] at p
                obtain ⟨s1, g1⟩ := mutL_set si h1 (h3.eraseIdx j)
                exact ⟨_, vs, v1, ps, q, j, rfl, rfl, h2, vdl_of si.ex h3 e1, vd_of si.ex r1 e2, hok, e3, p w _ .non g1 s1 .non⟩
            · exact p.elim
end
end Mi
/-! MiV: dict(xs), of a list of pairs -/
namespace Mi
open PySem L2
section
variable {X : Cx} {C : Cy X} {pos : Pos}
def prsOf : List D → Option (List (Key × D))
  | [] => some []
  | .tup [k, d] :: r => match toKey k, prsOf r with
    | some k, some r => some ((k, d) :: r)
    | _, _ => none
  | _ :: _ => none
def dPairs (mk : List (Key × D) → M D) : D → M D := fun d S => match lstOf S d with
  | some ds => match prsOf ds with
    | some kvs => mk (dMerge [] kvs) S
    | none => none
  | none => none
theorem prs_is {w : Wd} {S : MS} {H : Hp} (si : SI X.K X.mg w S H) : ∀ {ds : List D} {vs : List V} {kvs : List (Key × D)}, RepL X.K w vs ds → prsOf ds = some kvs → ∃ (ps : List Addr) (kws : List (Key × V)), vs = ps.map V.ref ∧ Paired (fun p kv => SqT X.K H p [kV kv.1, kv.2]) ps kws ∧ RepK X.K w kws kvs
  | [], vs, kvs, r, h => by
    cases r
    cases h
    exact ⟨[], [], rfl, .nil, .nil⟩
  | d :: ds, vs, kvs, r, h => by
    cases r with
    | cons r1 r2 =>
      unfold prsOf at h
      split at h
      · next q => cases q
      · next k d' t e =>
        cases e
        cases r1 with
        | tup q1 q2 =>
          cases q2 with
          | cons a1 a2 =>
            cases a2 with
            | cons b1 b2 =>
              cases b2
              cases e1 : toKey k with
              | none => rw [e1] at h; cases h
              | some k' =>
                rw [e1] at h
                cases e2 : prsOf ds with
                | none => rw [e2] at h; cases h
                | some r' =>
                  rw [e2] at h
                  cases h
                  obtain ⟨ps, kws, rfl, i2, i3⟩ := prs_is si r2 e2
                  obtain rfl := key_is a1 e1
                  exact ⟨_ :: ps, (k', _) :: kws, rfl, .cons (sqt_ex si.ex q1) i2, .cons b1 i3⟩
      · cases h
theorem opA_dictP {mk : List (Key × D) → M D} (hk : MkD X mk) : ∀ w S H xs ds (Q : VK) W, SI X.K X.mg w S H → RepL X.K w xs ds → Po X.K X.mg (RV' X.K) W w S H Q (d1 (dPairs mk) ds S) → (fun xs H Q => ∃ (a : Addr) (ps : List Addr) (kvs : List (Key × V)), xs = [.ref a] ∧ SqL X.K H a (ps.map V.ref) ∧ Paired (fun p kv => SqT X.K H p [kV kv.1, kv.2]) ps kvs ∧
    ∀ p, H p = none → Q (.ref p) (upd H p (.dK (mergeK [] kvs)))) xs H (Q2 Q) := fun w S H xs ds Q W si rx p => by
  cases rx with
  | nil => exact p.elim
  | @cons v vs d ds r1 r2 =>
    cases r2 with
    | cons _ _ => exact p.elim
    | nil =>
      have p' : Po X.K X.mg (RV' X.K) W w S H Q (dPairs mk d S) := p
      unfold dPairs at p'
      cases e : lstOf S d with
      | none => rw [e] at p'; exact p'.elim
      | some es =>
        rw [e] at p'
        dsimp only at p'
        cases e2 : prsOf es with
        | none => rw [e2] at p'; exact p'.elim
        | some kvs =>
          rw [e2] at p'
          obtain ⟨a, vs, rfl, h1, h2⟩ := lst_is si r1 e
          obtain ⟨ps, kws, rfl, h3, h4⟩ := prs_is si h2 e2
          exact ⟨a, ps, kws, rfl, h1, h3, fun q hq => mkD_of hk si (h4.merge .nil) p' q hq⟩
theorem j_dictP {e : Expr} {p : Pos} {ms : MA} {mk : List (Key × D) → M D} (hk : MkD X mk) (hg : Gl X "dict") (hm : X.mg "dict" = none) (ha : JA X C [e] ms) (hcalm : X.calm = true := by rfl) (hv : bootBuiltins "dict" = some (.type "dict") := by rfl) (he : starEach [e] X.env = (false, eval e X.env) :: starEach [] X.env := by rfl) (hpl : (backTo pos (starEach [] X.env)).any (·.1) = false := by rfl) :
    JE X C (.Call (.Name "dict" p) [e] [] pos) (mFn (d1 (dPairs mk)) ms) := PE.weak (pe_post (pe_callTy (call_dictP hcalm) hg hm hv ha (by decide) (by decide) he hpl)) fun σ H Q ⟨w, S, env, me, p⟩ =>
  ⟨w, S, env, me, po_bnd me p fun w1 S1 H1 vs ds me1 rv g1 p1 => opA_dictP hk w1 S1 H1 vs ds Q _ me1.si rv p1⟩
end
end Mi
namespace Mi
open PySem L2
/-- law's: a list of at most 63 ints is handed in, True comes out -/
def spL (K : PySem.W.Frag) : Sp := fun vs H Q _ => ∃ (a : Addr) (ns : List Int), vs = [.ref a] ∧ SqL K H a (ns.map V.int) ∧ ns.length ≤ 63 ∧ ∀ H', Q (.bl true) H'
def S0 : MS := ⟨0, fun _ => none⟩
theorem RepL.ints {K : PySem.W.Frag} {w : Wd} : ∀ ns : List Int, RepL K w (ns.map V.int) (ns.map D.int)
  | [] => .nil
  | n :: r => .cons (.int n) (RepL.ints r)
theorem spL_go {K : PySem.W.Frag} {mg : Str → Option Value} {m : List D → M D} (pure : ∀ ns : List Int, ns.length ≤ 63 → ∃ S', m [.src (ns.map D.int)] S0 = some (.ok (.bl true) S')) {vs : List V} {H : Hp} {Q : VK} {E : XK} (h : spL K vs H Q E) : spM K mg 1 m vs H Q E := by
  obtain ⟨a, ns, rfl, hS, hl, k⟩ := h
  obtain ⟨S', e⟩ := pure ns hl
  refine ⟨⟨fun _ => 0, H, 0⟩, S0, [.src (ns.map D.int)], ⟨rfl, fun _ _ h => h, fun _ _ h => (by cases h), fun _ _ _ _ h => (by cases h)⟩, .cons (.src hS (RepL.ints ns)) .nil, rfl, ?_⟩
  rw [e]
  intro w' H' v g si r
  cases r
  exact k H'
theorem cx_no {P : Program} {w : World} {H : Hp} {s : Shared} {e : Value} {s' : Shared} (h : L2.CX P w [] H s (fun _ _ _ => False) e s') : False := by
  obtain ⟨_, _, _, _, _, _, _, _, _, _, _, _, z⟩ := h
  exact z.elim
end Mi
namespace PySem
namespace CarX
open PySem.W PySem.Calls PyProof.Rows PySem.HandSPX
/-! ### CarError's __init__, its text, and that of its subclasses -/
def cA (p1 p2 p3 : Pos) (d : Expr) : Arguments := { posonlyargs := [], args := [{ arg := "self", annotation := none, pos := p1 }, { arg := "at", annotation := none, pos := p2 }, { arg := "name", annotation := none, pos := p3 }], vararg := none, kwonlyargs := [], kw_defaults := [], kwarg := none, defaults := [d] }
def cB (q : Nat → Pos) : List Stmt := [.Expr (.Call (.Attribute (.Call (.Name "super" (q 1)) [] [] (q 2)) "__init__" (q 3)) [.Name "at" (q 4)] [] (q 5)) (q 6),
  .Assign [.Attribute (.Name "self" (q 7)) "at" (q 8)] (.Name "at" (q 9)) (q 10), .Assign [.Attribute (.Name "self" (q 11)) "name" (q 12)] (.Name "name" (q 13)) (q 14)]
def sA (p1 p2 : Pos) : Arguments := { posonlyargs := [], args := [{ arg := "self", annotation := none, pos := p1 }, { arg := "at", annotation := none, pos := p2 }], vararg := none, kwonlyargs := [], kw_defaults := [], kwarg := none, defaults := [] }
def sB (nm : Str) (k : Nat) (q : Nat → Pos) : List Stmt := [.Expr (.Call (.Attribute (.Call (.Name "super" (q 1)) [] [] (q 2)) "__init__" (q 3)) [.Name "at" (q 4), .Constant (.str nm) k (q 7)] [] (q 5)) (q 6)]
def cS : Scope := { kind := .function, names := [(PySem.Str.ofString "self", .local), (PySem.Str.ofString "at", .local), (PySem.Str.ofString "name", .local), (PySem.Str.ofString "__class__", .free), (PySem.Str.ofString "super", .globalImplicit)], isGenerator := false, isCoroutine := false, more := [] }
def sS : Scope := { kind := .function, names := [(PySem.Str.ofString "self", .local), (PySem.Str.ofString "at", .local), (PySem.Str.ofString "__class__", .free), (PySem.Str.ofString "super", .globalImplicit)], isGenerator := false, isCoroutine := false, more := [] }
/-- what the written part says of the cell and the code of an __init__ that asks super() -/
structure SupTxt (K : Frag) (prog : Program) (cdv : Value) (qual : Str) (cc D : Addr) : Prop where
  cd : codeIn K cdv qual = true
  code : ∃ cda ccl cdd vs ccs file tf, cdv = .ref cda ∧ K.lookup cda = some ⟨ccl, cdd, .fields vs, ccs⟩ ∧ vs[2]? = some (.str file tf) ∧ ((prog.main.file : Str) == file) = true
  cell : ∃ cl cld csl, K.lookup cc = some ⟨cl, cld, .cell (some (.ref D)), csl⟩
  cls : ∃ cdD, clsIn K D = some cdD
section
variable {prog : Program} {w : World} {A : Around} {E : Value → Shared → Prop} {s : Shared} {K : Frag} {mg mb m : Str → Option Value} {C D cc f x L : Addr}
/-- super() in an __init__: the super object is the next address -/
theorem sup_node {body : List Stmt} {q qual : Str} {scope : Scope} {p0 p1 : Pos} {attr : Str} {whole : Sem Value} {fd : FuncData} {ar : Arg} {oc cdv : Value} {od : Option Addr} {osl : Array (Option Value)} {ox : Obj} {odx : Option Obj} {Q : Value → Shared → Prop}
    (X : K.In s.heap) (hn : s.heap.Ns L m) (hg : s.heap.Ns mainGlobals mg) (hb : s.heap.Ns builtinsNs mb) (hmg : mg "super" = none) (hmb : mb "super" = some (.type "super")) (T : SupTxt K prog cdv qual cc D)
    (hf : K.lookup f = some ⟨oc, od, .func fd, osl⟩) (hp : (fd.params.posonlyargs ++ fd.params.args).head? = some ar) (hv : m ar.arg = some (.ref x)) (I : InstAt s.heap x ox C odx) (hsub : mroIn K C (.ref D) = some true)
    (hat : (attr == ("__class__" : Str)) = false) (hks : scope.names.lookup ("super" : Str) = some .globalImplicit) (hkc : scope.names.lookup ("__class__" : Str) = some .free) (hka : scope.names.lookup ar.arg = some .local) (hk : scope.kind = .function)
    (htop : (prog.main.scope.names.lookup ("super" : Str)).isSome = false)
    (h : ∀ h', h'.get? s.heap.objs.size = some (ks_superObj D x C) → (∀ y o, s.heap.get? y = some o → h'.get? y = some o) → Q (.ref s.heap.objs.size) { s with heap := h' }) :
    _root_.PySem.wpAt (model prog w) A (.func body (ksEnv q scope L f cdv cc)) (attributeBase (.Call (.Name "super" p0) [] [] p1) attr (ksEnv q scope L f cdv cc) whole) Q E s := by
  obtain ⟨cda, ccl, cdd, vs, ccs, file, tf, rfl, hcode, hvs, hfile⟩ := T.code
  obtain ⟨cl, cld, csl, hcell⟩ := T.cell
  obtain ⟨cdD, hD⟩ := T.cls
  obtain ⟨hh, g, d, t, os⟩ := s
  obtain ⟨oD, hD1, hD2⟩ : ∃ oD, hh.get? D = some oD ∧ oD.data = .cls cdD := by
    unfold clsIn at hD
    split at hD
    · rename_i c d cd' sl ho
      cases hD
      exact ⟨_, X _ _ ho, rfl⟩
    · cases hD
  refine ks_wpAt_super_base (env := ksEnv q scope L f (.ref cda) cc) hks hkc hat rfl (X _ _ hf) rfl hp rfl (X _ _ hcode) rfl hvs hfile htop ?_
  refine ks_loadName_global hk hks (loadGlobal_builtin (env := ksEnv q scope L f (.ref cda) cc) hg hmg hb hmb ⟨rfl, ?_⟩)
  refine wpAny_loadName_free hk hkc rfl ⟨_, X _ _ hcell, rfl⟩ ?_
  refine wpAny_loadName_local hk hka hn hv ?_
  refine ks_wpAny_isType_cls hD1 hD2 ⟨rfl, ?_⟩
  refine ks_wpAny_call_super hD1 hD2 I.at_ I.cls (fun c e => ?_) (looks_mroIn X hsub) (fun h' e k => ?_)
  · have := I.no
    unfold notCls at this
    rw [e] at this
    exact Bool.noConfusion this
  · exact h h' e k
theorem sup_he1 {o : Expr} {name : Str} {apos pos p : Pos} {a : Str} {env : Env} (hl : (apos.endLine == pos.line) = true) :
    eval (.Call (.Attribute o name apos) [.Name a p] [] pos) env = (do
      let ov ← attributeBase o name env (eval o env)
      standAt apos.atName
      let (f, first) ← holding [ov] (getMethod ov name (do return (← importBound o env).getD true))
      callWith pos f first (backTo pos (starEach [.Name a p] env)) []) := by
  have hpos : methodCallPos true o env apos pos = pure pos := by unfold methodCallPos; simp [hl]
  rw [arm_eval_Call]
  show (do
      let ov ← attributeBase o name env (eval o env)
      standAt apos.atName
      let (f, first) ← holding [ov] (getMethod ov name (do return (← importBound o env).getD true))
      let cp ← methodCallPos true o env apos pos
      callWith cp f first (backTo pos (starEach [.Name a p] env)) []) = _
  rw [hpos]
  simp only [pure_bind]
/-- the built-in __init__ bound to the exception at x, called -/
theorem mw_call {hp : Heap} {g : Array GenState} {dr : Drawn} {tk : Nat} {os : OsState} {u t0 : Addr} {rest : List Value} {nm q : Str} {N : Addr} {bs bm : List Value} {hdct : Bool} {sn : List Str} {sub : List Value} {ab : Bool} {col : Option Bool} {dd : Option Addr} {k0 k1 k2 k3 k5 : Option Value} {Q : Value → Shared → Prop}
    (hu : hp.get? u = some (kxs_mw "ValueError.__init__" x)) (hC : hp.get? C = some (excClassObj nm q C N bs bm hdct sn sub ab col dd k0 k1 k2 k3 k5 "ValueError.__new__")) (he : hp.get? x = some (excO C t0)) (hz : rest.length ≤ sizeLine)
    (h : ∀ h' t1, (∀ b o, b ≠ x → hp.get? b = some o → h'.get? b = some o) → h'.get? x = some (excO C t1) → Q .none ⟨h', g, dr, tk, os⟩) :
    wpAny (model prog w) A (call (.ref u) rest) Q E ⟨hp, g, dr, tk, os⟩ := by
  have FB := F.excBase_ValueError
  refine wpAny_call (codeAny_of_tree ?_)
  show wpAny _ A.in1 (callAny (.ref u) ⟨rest, []⟩) _ _ _
  simp only [callAny]
  refine wpAny_bind (wpAny_load hu ?_)
  simp only [kxs_mw, show (Value.type "method-wrapper" == Value.type "method" || Value.type "method-wrapper" == Value.type "builtin_function_or_method" || Value.type "method-wrapper" == Value.type "method-wrapper") = true by decide, if_true]
  refine KFB.if_so (by decide) ?_
  refine wpAny_bind (check_bound_init FB.toExcCallFacts hC he rfl ?_)
  refine wpAny_bind (wpAny_pure (wpAny_pure ?_))
  refine ⟨plainId_quiet FB.init.plain _, codeAny_builtin FB.initEntry ?_⟩
  exact exc_init_tree (cls := .ref C) (t0 := t0) (dv := none) (c2 := .none) (c3 := .none) (b4 := .bool false) he hz fun h' k e _ => h h' _ k e
/-- CarError.__init__, as the written part has it -/
structure CarTxt (K : Frag) (prog : Program) (mg : Str → Option Value) (D fI cc : Addr) : Prop where
  fn : ∃ (oc : Value) (od : Option Addr) (doc pm : Value) (an : Option Addr) (cdv ct : Value) (osl : Array (Option Value)) (p1 p2 p3 : Pos) (d : Expr) (q : Nat → Pos) (dT : Addr) (oT : Obj) (v0 : Value) (n : Nat),
    K.lookup fI = some ⟨oc, od, .func (ksFn "__init__" "CarError.__init__" (cA p1 p2 p3 d) (cB q) cS (.ref dT) .none doc pm an cdv ct cc), osl⟩ ∧ SupTxt K prog cdv "CarError.__init__" cc D ∧ K.lookup dT = some oT ∧ oT.data = .seq #[v0] n ∧ ((q 3).endLine == (q 5).line) = true
  fty : ∀ {oc od d osl}, K.lookup fI = some ⟨oc, od, d, osl⟩ → oc = .type "function"
  sup : mg "super" = none
  opq : nsIn K cStatics "thirdparty.any" = some none
  top : (prog.main.scope.names.lookup ("super" : Str)).isSome = false
theorem LowX_one (v : Value) : [v].length ≤ sizeLine := by
  rw [sizeLine_eq]
  exact (by decide : 1 ≤ 16777216)
/-- what the __init__ leaves of a fresh exception at x -/
structure CarEnd (h h' : Heap) (x C dx t1 : Addr) (va vn : Value) : Prop where
  keep : ∀ b o, b ≠ x → h.get? b = some o → h'.get? b = some o
  obj : h'.get? x = some { cls := .ref C, dict := some dx, data := .fields #[.ref t1, .none, .none, .none, .bool false, .none] }
  dbig : h.objs.size ≤ dx
  dne : dx ≠ x
  ns : h'.Ns1 dx (fun y => if y = "name" then some vn else if y = "at" then some va else none)
/-- what is asked of a class whose instances are made by it -/
structure CarCls (K : Frag) (C D : Addr) : Prop where
  cls : ∃ nm q N bs bm sn sub ab col dd k0 k1 k2 k3 k5, K.lookup C = some (excClassObj nm q C N bs bm true sn sub ab col dd k0 k1 k2 k3 k5 "ValueError.__new__") ∧ refsVE bm = true
  sa : findIn K (.ref C) "__setattr__" = some (some (.builtin "object.__setattr__"))
  noA : findIn K (.ref C) "at" = some none
  noN : findIn K (.ref C) "name" = some none
  sub : mroIn K C (.ref D) = some true
  sup : ks_superIn K C D "__init__" = some (some (.builtin "ValueError.__init__"))
  ve : subIn K (.ref C) (.type "ValueError") = some true
theorem car_init {fI t0 : Addr} {va vn : Value} {R : Result → Shared → Prop} (T : CarTxt K prog mg D fI cc) (TC : CarCls K C D) (X : K.In s.heap) (hlim : s.heap.NoLimit) (hg : s.heap.Ns mainGlobals mg) (hb : s.heap.Ns builtinsNs mb) (hmb : mb "super" = some (.type "super"))
    (hx : s.heap.get? x = some (excO C t0)) (hnx : K.lookup x = none) (hroom : A.depth < recursionLimit)
    (hq : ∀ h' tk dx t1, CarEnd s.heap h' x C dx t1 va vn → R (.ok (.ret .none)) { s with heap := h', toks := tk }) :
    codeAny (model prog w) A (.call (.ref fI) ⟨[.ref x, va, vn], []⟩) R s := by
  have hsub := TC.sub
  have hsm := TC.sup
  have hVE := TC.ve
  obtain ⟨nm, q', N, bs, bm, sn, sub, ab, col, dd, k0, k1', k2, k3, k5, hC, hbm⟩ := TC.cls
  have hcl : clsIn K C = some { name := nm, bases := bs, mro := .ref C :: bm, ns := N, qualname := q', hasDict := true, slotNames := sn, subclasses := sub, abstract := ab, collection := col, hasDel := false } := by unfold clsIn; rw [hC] <;> rfl
  obtain ⟨oc, od, doc, pm, an, cdv, ct, osl, p1, p2, p3, d, q, dT, oT, v0, n, ho, S, hdT, hdd, hl⟩ := T.fn
  refine ks_codeAny_call_defAt (binds := [("self", .ref x), ("at", va), ("name", vn)]) (body := cB q) hroom (X _ _ ho) rfl hlim (codeRec_of X S.cd) rfl ?_ (show ∀ y ∈ cS.names, y.2 ≠ .cell by decide) ?_ (fun h₀ hn k => ?_) rfl rfl rfl
  · refine BindsTo.of_defaults rfl (X _ _ hdT) hdd rfl ?_
    first | rfl | with_unfolding_all rfl | kernel_rfl
  · intro y hy; simp only [List.mem_cons, List.not_mem_nil, or_false] at hy; rcases hy with rfl | rfl | rfl <;> rfl
  · refine ks_wpAt_execs_cons (ks_wpAt_Expr_any (ks_wpAt_MethodCall (pl := (do return (← importBound (.Call (.Name "super" (q 1)) [] [] (q 2)) (callEnv (ksFn "__init__" "CarError.__init__" (cA p1 p2 p3 d) (cB q) cS (.ref dT) .none doc pm an cdv ct cc) s.heap.objs.size fI)).getD true)) ?_ (sup_he1 hl)))
    refine sup_node (odx := none) (s := { s with heap := h₀, toks := _ }) (X.keeps k) hn (hg.keeps k) (hb.keeps k) T.sup hmb S ho rfl (by first | rfl | with_unfolding_all rfl) ⟨k _ _ hx, rfl, rfl, trivial⟩ hsub (by decide) rfl rfl rfl rfl T.top fun h1 e1 k1 => ?_
    have X1 : K.In h1 := (X.keeps k).keeps k1
    have I1 : InstAt h1 x (excO C t0) C none := ⟨k1 _ _ (k _ _ hx), rfl, rfl, trivial⟩
    obtain ⟨cd, hc⟩ : ∃ cd, clsIn K C = some cd := by
      cases hc : clsIn K C with
      | none => unfold ks_superIn at hsm; rw [hc] at hsm; cases hsm
      | some cd => exact ⟨cd, rfl⟩
    have hsm' := hsm
    unfold ks_superIn at hsm'
    rw [hc] at hsm'
    refine kxs_getMethod kxs_ValueError e1 (looks_opaque X1 T.opq) (l₀ := cd.mro) (fun A Q E s k q => wpAny_bind ((looks_clsIn X1 hc) A _ E s k (wpAny_pure q))) rfl X1 hsm' (I1.type.andThen (looks_subIn X1 hVE)) (ks_ne X1 I1 hc) (by decide) ?_
    refine kxs_callWith (i := "ValueError.__init__") (x := x) rfl (evalArgs_plain ?_)
    refine args_cons (wpAny_Name (wpAny_loadName_local rfl rfl (hn.keeps fun b o e => Heap.get?_push_of_some _ (k1 b o e)) (v := va) rfl (args_nil ⟨Heap.get?_push_at rfl rfl, ?_⟩)) (by decide))
    refine mw_call (Heap.get?_push_at rfl rfl) (Heap.get?_push_of_some _ (X1 _ _ hC)) (Heap.get?_push_of_some _ I1.at_) (LowX_one _) fun h2 t2 kk2 hx2 => ?_
    have kn : ∀ b o, b ≠ x → h₀.get? b = some o → h2.get? b = some o := fun b o hb e => kk2 b o hb (Heap.get?_push_of_some _ (k1 _ _ e))
    have kb : ∀ b o, b ≠ x → s.heap.get? b = some o → h2.get? b = some o := fun b o hb e => kn b o hb (k _ _ e)
    have nx : ∀ {a : Addr} {o : Obj}, K.lookup a = some o → a ≠ x := fun {a o} e z => by rw [z, hnx] at e; cases e
    have X2 : K.In h2 := fun a o e => kb a o (nx e) (X a o e)
    have xL : s.heap.objs.size ≠ x := Nat.ne_of_gt (Heap.lt_size hx)
    have hn2 := hn.at fun o e => kn _ o xL e
    show _root_.PySem.wpAt (model prog w) _ _ (execs _ _) _ _ _
    refine wpAt_of_wpAny ?_
    refine wpAny_execs_cons (plainObj_wpAny_Assign_Attribute ?_)
    refine wpAny_Name (wpAny_loadName_local rfl rfl hn2 (v := va) rfl ?_) (by decide)
    refine wpAny_Name (wpAny_loadName_local rfl rfl hn2 (v := .ref x) rfl ?_) (by decide)
    refine set_plain X2 (ox := excO C t2) (od := none) ⟨hx2, rfl, rfl, trivial⟩ TC.sa ?_
    refine exc_osa X2 hx2 hcl (show refsVE (.ref C :: bm) = true from hbm) rfl TC.noA (fun h3 tk3 dx k3 dn dne hx3 hn3 => ?_)
    show wpAny _ _ (execs _ _) _ _ _
    have X3 : K.In h3 := fun a o e => k3 a o (nx e) (X2 a o e)
    have hnl3 := hn2.at fun o e => k3 _ o xL e
    have hw3 : Within (fun y => if y = "at" then some va else none) ["at"] := fun y hy => by
      by_cases z : y = "at"
      · rw [z]; exact List.mem_cons_self
      · exact absurd (if_neg z) hy
    obtain ⟨oD, _, _, hoD, _, _⟩ := hn3.count hw3
    refine wpAny_execs_cons (plainObj_wpAny_Assign_Attribute ?_)
    refine wpAny_Name (wpAny_loadName_local rfl rfl hnl3 (v := vn) rfl ?_) (by decide)
    refine wpAny_Name (wpAny_loadName_local rfl rfl hnl3 (v := .ref x) rfl ?_) (by decide)
    refine set_plain X3 (ox := { cls := .ref C, dict := some dx, data := .fields #[.ref t2, .none, .none, .none, .bool false, .none] }) (od := some oD) ⟨hx3, rfl, rfl, hoD⟩ TC.sa ?_
    refine OEX.osa_old X3 hx3 hn3 hw3 (by decide) hcl (show refsVE (.ref C :: bm) = true from hbm) rfl TC.noN (fun h4 tk4 k4 hn4 => ?_)
    show wpAny _ _ (execs _ _) _ _ _
    have sz : s.heap.objs.size < h2.objs.size := hn2.lt
    refine wpAny_execs_nil (hq h4 tk4 dx t2 ⟨fun b o hb e => k4 b o (fun z => ?_) (k3 b o hb (kb b o hb e)), k4 _ _ (Ne.symm dne) hx3, Nat.le_of_lt (Nat.lt_of_lt_of_le sz dn), dne, hn4⟩)
    have z1 := Heap.lt_size (kb b o hb e)
    rw [z] at z1
    exact absurd z1 (Nat.not_lt.mpr dn)
/-- a bound method is called -/
theorem callWith_meth {M : Model} {pos : Pos} {b : Addr} {ov : Value} {gf : Addr} {og : Obj} {fd : FuncData} {args : List (Bool × Sem Value)} {Q : Value → Shared → Prop}
    (hplain : args.any (·.1) = false)
    (h : wpAny M A (evalArgs (.ref b) true args []) (fun x s₁ => (s₁.heap.get? b = some { cls := .type "method", dict := none, data := .fields #[.ref gf, ov], slots := #[] } ∧ s₁.heap.get? gf = some og ∧ og.data = .func fd) ∧ wpAny M A (call (.ref b) x.pos x.kw) Q E s₁) E s) :
    wpAny M A (callWith pos (.ref b) [] args []) Q E s := by
  unfold callWith
  refine wpAny_bind (wpAny_holding (wpAny_mono h (fun x s₁ h₁ => wpAny_bind (wpAny_standAt ?_)) fun _ _ x => x))
  obtain ⟨⟨ho, hg, hgd⟩, hcall⟩ := h₁
  have tail : ∀ {t : Sem Value}, wpAny M A t Q E s₁ → wpAny M A (t >>= fun r => holding [r] point >>= fun _ => pure r) Q E s₁ :=
    fun ht => wpAny_bind (wpAny_mono ht (fun r s₂ hr => wpAny_bind (wpAny_holding (wpAny_point (wpAny_pure hr)))) fun _ _ x => x)
  simp only [hplain, List.any_nil, Bool.or_false, List.nil_append]
  refine wpAny_bind (m := keeperOf (.ref b)) ?_
  unfold keeperOf
  refine wpAny_bind (wpAny_load ho ?_)
  simp only [show (Value.type "method" != Value.type "method") = false by decide, Bool.false_eq_true, if_false]
  show wpAny M A (load gf >>= _) _ _ _
  refine wpAny_bind (wpAny_load hg ?_)
  simp only [hgd]
  refine wpAny_pure ?_
  dsimp only
  split
  · exact tail hcall
  · exact tail (by unfold callMarked; exact wpAny_keep hcall)
/-- a subclass, its __init__(self, at): super().__init__(at, 'nm') -/
structure SubTxt (K : Frag) (prog : Program) (nm qual : Str) (C fS fI cc : Addr) : Prop where
  fn : ∃ (oc : Value) (od : Option Addr) (doc pm : Value) (an : Option Addr) (cdv ct : Value) (osl : Array (Option Value)) (p1 p2 : Pos) (q : Nat → Pos) (kk : Nat),
    K.lookup fS = some ⟨oc, od, .func (ksFn "__init__" qual (sA p1 p2) (sB nm kk q) sS .none .none doc pm an cdv ct cc), osl⟩ ∧ SupTxt K prog cdv qual cc C ∧ ((q 3).endLine == (q 5).line) = true
  self : mroIn K C (.ref C) = some true
  sup : ks_superIn K C C "__init__" = some (some (.ref fI))
theorem sup_he2 {o : Expr} {name : Str} {apos pos p p2 : Pos} {a x : Str} {kk : Nat} {env : Env} (hl : (apos.endLine == pos.line) = true) :
    eval (.Call (.Attribute o name apos) [.Name a p, .Constant (.str x) kk p2] [] pos) env = (do
      let ov ← attributeBase o name env (eval o env)
      standAt apos.atName
      let (f, first) ← holding [ov] (getMethod ov name (do return (← importBound o env).getD true))
      callWith pos f first (backTo pos (starEach [.Name a p, .Constant (.str x) kk p2] env)) []) := by
  have hpos : methodCallPos true o env apos pos = pure pos := by unfold methodCallPos; simp [hl]
  rw [arm_eval_Call]
  show (do
      let ov ← attributeBase o name env (eval o env)
      standAt apos.atName
      let (f, first) ← holding [ov] (getMethod ov name (do return (← importBound o env).getD true))
      let cp ← methodCallPos true o env apos pos
      callWith cp f first (backTo pos (starEach [.Name a p, .Constant (.str x) kk p2] env)) []) = _
  rw [hpos]
  simp only [pure_bind]
theorem sub_init {fI fS cI : Addr} {t0 : Addr} {va : Value} {nmS qS : Str} {R : Result → Shared → Prop} (T : CarTxt K prog mg D fI cI) (TS : SubTxt K prog nmS qS C fS fI cc) (TC : CarCls K C D) (X : K.In s.heap) (hlim : s.heap.NoLimit) (hg : s.heap.Ns mainGlobals mg) (hb : s.heap.Ns builtinsNs mb) (hmb : mb "super" = some (.type "super"))
    (hx : s.heap.get? x = some (excO C t0)) (hnx : K.lookup x = none) (hroom : A.depth + 1 < recursionLimit)
    (hq : ∀ h' tk dx t1 tn, CarEnd s.heap h' x C dx t1 va (.str nmS tn) → R (.ok (.ret .none)) { s with heap := h', toks := tk }) :
    codeAny (model prog w) A (.call (.ref fS) ⟨[.ref x, va], []⟩) R s := by
  obtain ⟨nm, q', N, bs, bm, sn, sub, ab, col, dd, k0, k1', k2, k3, k5, hC, hbm⟩ := TC.cls
  obtain ⟨oc, od, doc, pm, an, cdv, ct, osl, p1, p2, q, kk, ho, S, hl⟩ := TS.fn
  obtain ⟨ocI, odI, docI, pmI, anI, cdvI, ctI, oslI, pI1, pI2, pI3, dI, qI, dT, oT, v0, nI, hoI, SI, hdT, hdd, hlI⟩ := T.fn
  refine ks_codeAny_call_defAt (binds := [("self", .ref x), ("at", va)]) (body := sB nmS kk q) (Nat.lt_of_succ_lt hroom) (X _ _ ho) rfl hlim (codeRec_of X S.cd) rfl (BindsTo.of_eq (by first | rfl | with_unfolding_all rfl)) (show ∀ y ∈ sS.names, y.2 ≠ .cell by decide) ?_ (fun h₀ hn k => ?_) rfl rfl rfl
  · intro y hy; simp only [List.mem_cons, List.not_mem_nil, or_false] at hy; rcases hy with rfl | rfl <;> rfl
  · refine ks_wpAt_execs_cons (ks_wpAt_Expr_any (ks_wpAt_MethodCall (pl := (do return (← importBound (.Call (.Name "super" (q 1)) [] [] (q 2)) (callEnv (ksFn "__init__" qS (sA p1 p2) (sB nmS kk q) sS .none .none doc pm an cdv ct cc) s.heap.objs.size fS)).getD true)) ?_ (sup_he2 hl)))
    refine sup_node (odx := none) (D := C) (s := { s with heap := h₀, toks := _ }) (X.keeps k) hn (hg.keeps k) (hb.keeps k) T.sup hmb S ho rfl (by first | rfl | with_unfolding_all rfl) ⟨k _ _ hx, rfl, rfl, trivial⟩ TS.self (by decide) rfl rfl rfl rfl T.top fun h1 e1 k1 => ?_
    have X1 : K.In h1 := (X.keeps k).keeps k1
    have I1 : InstAt h1 x (excO C t0) C none := ⟨k1 _ _ (k _ _ hx), rfl, rfl, trivial⟩
    have hsm := TS.sup
    obtain ⟨cd, hc⟩ : ∃ cd, clsIn K C = some cd := by
      cases hc : clsIn K C with
      | none => unfold ks_superIn at hsm; rw [hc] at hsm; cases hsm
      | some cd => exact ⟨cd, rfl⟩
    have hsm' := hsm
    unfold ks_superIn at hsm'
    rw [hc] at hsm'
    have hfc : ocI = .type "function" := T.fty hoI
    refine ks_wpAny_getMethod_super e1 (looks_opaque X1 T.opq) (l₀ := cd.mro) (fun A Q E s k q => wpAny_bind ((looks_clsIn X1 hc) A _ E s k (wpAny_pure q))) rfl X1 hsm' (X1 _ _ hoI) hfc (ks_ne X1 I1 hc) (by decide) ?_
    have kp : ∀ b o, h1.get? b = some o → (h1.push { cls := .type "method", data := .fields #[.ref fI, .ref x] }).get? b = some o := fun b o e => Heap.get?_push_of_some _ e
    refine callWith_meth (ov := .ref x) (gf := fI) (og := ⟨ocI, odI, .func (ksFn "__init__" "CarError.__init__" (cA pI1 pI2 pI3 dI) (cB qI) cS (.ref dT) .none docI pmI anI cdvI ctI cI), oslI⟩) (fd := ksFn "__init__" "CarError.__init__" (cA pI1 pI2 pI3 dI) (cB qI) cS (.ref dT) .none docI pmI anI cdvI ctI cI) rfl (evalArgs_plain ?_)
    refine args_cons (wpAny_Name (wpAny_loadName_local rfl rfl (hn.keeps fun b o e => kp _ _ (k1 b o e)) (v := va) rfl (args_cons (wpAny_Constant_str (args_nil ⟨⟨Heap.get?_push_at rfl rfl, kp _ _ (X1 _ _ hoI), rfl⟩, ?_⟩)))) (by decide))
    refine wpAny_call (ks_codeAny_call_bound (Heap.get?_push_at rfl rfl) ?_)
    have kk1 : ∀ b o, s.heap.get? b = some o → (h1.push { cls := .type "method", data := .fields #[.ref fI, .ref x] }).get? b = some o := fun b o e => kp _ _ (k1 _ _ (k _ _ e))
    refine car_init (s := { s with heap := h1.push { cls := .type "method", data := .fields #[.ref fI, .ref x] }, toks := _ }) T TC (X.keeps kk1) (hlim.keeps kk1) (hg.keeps kk1) (hb.keeps kk1) hmb (kk1 _ _ hx) hnx ?_ fun h' tk' dx t1 EN => ?_
    · show A.depth + 1 < recursionLimit
      exact hroom
    · show _root_.PySem.wpAt (model prog w) _ _ (execs [] _) _ _ _
      have sz := (hn.keeps fun b o e => kp _ _ (k1 b o e)).lt
      exact wpAt_of_wpAny (wpAny_execs_nil (hq h' tk' dx t1 _ ⟨fun b o hb e => EN.keep b o hb (kk1 b o e), EN.obj, Nat.le_trans (Nat.le_of_lt sz) EN.dbig, EN.dne, EN.ns⟩))
end
end CarX
end PySem
/-! MiY: raise and try in the mirror. -/
namespace PySem
namespace CarX
open PySem.W PySem.Calls PyProof.Rows PySem.HandSPX
section
variable {prog : Program} {w : World} {A : Around} {s : Shared} {K : Frag} {mg mb : Str → Option Value} {C D cc : Addr}
/-- what the call of the class leaves -/
structure OwnMade (h h' : Heap) (e C d : Addr) (v vn : Value) : Prop where
  keep : ∀ b o, h.get? b = some o → h'.get? b = some o
  new : h.objs.size ≤ e
  obj : ∃ oe fv, h'.get? e = some oe ∧ oe.cls = .ref C ∧ oe.dict = some d ∧ oe.data = .fields fv ∧ fv[1]? = some .none
  dbig : h.objs.size ≤ d
  dne : d ≠ e
  ns : h'.Ns1 d (fun y => if y = "name" then some vn else if y = "at" then some v else none)
theorem sub_made {fI fS cI : Addr} {nmS qS : Str} {v : Value} {R : Result → Shared → Prop} (T : CarTxt K prog mg D fI cI) (TS : SubTxt K prog nmS qS C fS fI cc) (TC : CarCls K C D)
    (iC : findIn K (.ref C) "__init__" = some (some (.ref fS))) (tI : typeIn K (.ref fS) = some (.type "function"))
    (X : K.In s.heap) (hlim : s.heap.NoLimit) (hg : s.heap.Ns mainGlobals mg) (hb : s.heap.Ns builtinsNs mb) (hmb : mb "super" = some (.type "super")) (hroom : A.depth + 2 < recursionLimit)
    (hq : ∀ h' tk e d tn, OwnMade s.heap h' e C d v (.str nmS tn) → R (.ok (.ret (.ref e))) { s with heap := h', toks := tk }) :
    codeAny (model prog w) A (.call (.ref C) ⟨[v], []⟩) R s := by
  obtain ⟨nm, q, N, bs, bm, sn, sub, ab, col, dd, k0, k1, k2, k3, k5, hC, hbm⟩ := TC.cls
  obtain ⟨hp, g, dr, tk, os⟩ := s
  have k : ∀ b o, hp.get? b = some o → ((hp.push (kdv_tup [v])).push (excO C hp.objs.size)).get? b = some o := fun b o e => Heap.get?_push_of_some _ (Heap.get?_push_of_some _ e)
  have hget : ((hp.push (kdv_tup [v])).push (excO C hp.objs.size)).get? (hp.objs.size + 1) = some (excO C hp.objs.size) := by heap_get
  have hnx : K.lookup (hp.objs.size + 1) = none := by
    cases e : K.lookup (hp.objs.size + 1) with
    | none => rfl
    | some o =>
      have z : hp.get? (hp.objs.size + 1) = some o := X _ _ e
      exact absurd (Nat.lt_of_succ_lt (Heap.lt_size z)) (Nat.lt_irrefl _)
  refine call_own F.excBase_ValueError (fun X => refsVE_contains X bm hbm) (X _ _ hC) (looks_findIn X iC) (fun self => bind_fn X self tI) (LowX_one v) ?_
  refine sub_init (s := ⟨(hp.push (kdv_tup [v])).push (excO C hp.objs.size), g, dr, tk, os⟩) T TS TC (X.keeps k) (hlim.keeps k) (hg.keeps k) (hb.keeps k) hmb hget hnx ?_ fun h' tk' dx t1 tn EN => ?_
  · show A.depth + 1 + 1 < recursionLimit
    exact hroom
  · have old : ∀ b o, hp.get? b = some o → h'.get? b = some o := fun b o e => EN.keep b o (Nat.ne_of_lt (Nat.lt_succ_of_lt (Heap.lt_size e))) (k b o e)
    have dn := EN.dbig
    have z : hp.objs.size + 1 + 1 ≤ dx := by
      first
        | (simpa only [Heap.size_push] using dn)
        | exact dn
        | (have q := dn; rw [Heap.size_push, Heap.size_push] at q; exact q)
    exact ⟨rfl, hq h' tk' (hp.objs.size + 1) dx tn ⟨old, Nat.le_succ _, ⟨_, _, EN.obj, rfl, rfl, rfl, rfl⟩, Nat.le_trans (Nat.le_trans (Nat.le_succ _) (Nat.le_succ _)) z, EN.dne, EN.ns⟩⟩
end
end CarX
end PySem
namespace L2
open PySem PySem.Spec PyProof.Rows
/-- what is asked of an exception class under CarError, nmS what its __init__ hands on as name -/
structure ExT (prog : Program) (K : PySem.W.Frag) (mg : Str → Option Value) (x nmS : Str) (C : Addr) : Prop where
  ex : ∃ D fI cI fS cc qS, PySem.CarX.CarTxt K prog mg D fI cI ∧ PySem.CarX.SubTxt K prog nmS qS C fS fI cc ∧ PySem.CarX.CarCls K C D ∧ PySem.W.findIn K (.ref C) "__init__" = some (some (.ref fS)) ∧ PySem.W.typeIn K (.ref fS) = some (.type "function")
  gC : mg x = some (.ref C)
  kC : PySem.W.keepIn K (.ref C) = true
  tyC : PySem.W.typeIn K (.ref C) = some (.type "type")
  xf : XfC K C
  noA : PySem.W.findIn K (.ref C) "at" = some none
theorem relO_car {v w : V} {v' w' : Value} (r : RelV v v') (r2 : RelV w w') (f : Str) : RelO (List.lookup f [(("at" : Str), v), (("name" : Str), w)]) (if f = "name" then some w' else if f = "at" then some v' else none) := by
  by_cases h1 : f = "name"
  · subst h1
    rw [if_pos rfl]
    have q : List.lookup ("name" : Str) [(("at" : Str), v), (("name" : Str), w)] = some w := by
      have e : (("name" : Str) == ("at" : Str)) = false := by decide
      simp [List.lookup, e]
    rw [q]
    exact r2
  · rw [if_neg h1]
    have q1 : (f == ("name" : Str)) = false := by simpa using h1
    by_cases h2 : f = "at"
    · subst h2
      rw [if_pos rfl]
      have q : List.lookup ("at" : Str) [(("at" : Str), v), (("name" : Str), w)] = some v := by simp [List.lookup]
      rw [q]
      exact r
    · rw [if_neg h2]
      have q2 : (f == ("at" : Str)) = false := by simpa using h2
      have q : List.lookup f [(("at" : Str), v), (("name" : Str), w)] = none := by simp [List.lookup, q1, q2]
      rw [q]
      trivial
section
variable {X : Cx} {C : Addr} {x nmS : Str}
def tMkCar (C : Addr) (nmS : Str) (ta : TA) : St → Hp → XK → Prop := fun σ H Q => ta σ H fun vs H1 => ∃ v, vs = [v] ∧ ∀ d, H1 d = none → Q (.ref C) (some d) (upd H1 d (.xd [(("at" : Str), v), (("name" : Str), .str nmS)]))
theorem pmk_car {a : Expr} {ta : TA} {p pos : Pos} {k : Nat} (T : ExT X.prog X.K X.mg x nmS C) (hr : Room k X.A) (hk : 2 ≤ k) (ha : PA X [a] ta) (hg : Gl X x) (hdb : (x == ("__debug__" : Str)) = false := by decide)
    (he : starEach (a :: []) X.env = (false, eval a X.env) :: starEach [] X.env := by rfl) (hpl : (backTo pos (starEach [] X.env)).any (·.1) = false := by rfl) :
    PMk X (.Call (.Name x p) [a] [] pos) (tMkCar C nmS ta) := by
  obtain ⟨D, fI, cI, fS, cc, qS, T1, T2, T3, iC, tI⟩ := T.ex
  intro pins s σ H Q I h
  refine wpAny_Call_Name_kw (ld_glob I hg T.gC ?_ hdb)
  refine PySem.W.callWith_K (h₀ := X.base) I.ok.mod.kin T.kC (thn (ha.run pos pins s σ H _ I h) fun us s1 hh => ?_) he hpl
  obtain ⟨vs, H1, I1, r1, v, ev, q1⟩ := hh
  subst ev
  refine ⟨I1.kIn, ?_⟩
  cases r1 with
  | cons rv rn =>
    rename_i v' us'
    cases rn
    show wpAny _ _ (call (.ref C) [v']) _ _ _
    have hlim := I1.nolimit
    obtain ⟨mb, hb1, hb2⟩ := I1.mod.blt
    have hgl : s1.heap.Ns mainGlobals X.mg := I1.mod.glob.keeps I1.bk
    have hbl : s1.heap.Ns builtinsNs mb := hb1.keeps I1.bk
    have hsup : mb "super" = some (.type "super") := (hb2 "super" (by decide)).trans (by first | rfl | exact PyProof.Rows.Boot.«super» | kernel_rfl)
    have hkin := I1.kIn
    obtain ⟨hp, g, dr, tk, os⟩ := s1
    refine wpAny_call (PySem.CarX.sub_made T1 T2 T3 iC tI hkin hlim hgl hbl hsup (by have := hr.dp; omega) fun h' tk' e d tn M => ?_)
    show MkP X pins σ Q (.ref e) ⟨h', g, dr, tk', os⟩
    obtain ⟨oe, fv, hoe, hc, hd, hdat, h1⟩ := M.obj
    have hns := M.ns
    obtain ⟨G', g1, g2⟩ := restrict h' fun b => decide (b ≠ e)
    have gk : ∀ b, b ≠ e → G'.get? b = h'.get? b := fun b hb => g1 b (decide_eq_true hb)
    have ge : G'.get? e = none := g2 e (by simp)
    have old : ∀ b o, hp.get? b = some o → G'.get? b = some o := fun b o q => (gk b (Nat.ne_of_lt (Nat.lt_of_lt_of_le (Heap.lt_size q) M.new))).trans (M.keep b o q)
    have ob : ObjOk X.prog X.w (upd H1 d (.xd [(("at" : Str), v), (("name" : Str), .str nmS)])) G' d (.xd [(("at" : Str), v), (("name" : Str), .str nmS)]) :=
      ⟨_, hns.at (fun o q => (gk d M.dne).trans q), fun f => relO_car (w := .str nmS) (w' := .str nmS tn) rv ⟨tn, rfl⟩ f⟩
    have J : Inv X pins σ (upd H1 d (.xd [(("at" : Str), v), (("name" : Str), .str nmS)])) ⟨G', g, dr, tk', os⟩ := I1.laid (t' := tk') old M.dbig ob
    refine ⟨e, oe, fv, ⟨G', g, dr, tk', os⟩, _, .ref C, some d, rfl, J, fun b o q => ?_, ge, hoe, ⟨hc, hd⟩, hdat, h1, ?_, rfl, I1.bare, raises_own T.xf.exC T.tyC, q1 d (I1.hok.fresh M.dbig)⟩
    · by_cases hb : b = e
      · have q' : G'.get? b = some o := q
        rw [hb, ge] at q'; cases q'
      · exact (gk b hb).symm.trans q
    · rw [upd_ne (Ne.symm M.dne)]
      exact I1.hok.fresh M.new
end
end L2
namespace Mi
open PySem L2
section
variable {X : Cx} {C : Cy X}
/-! ### raise C(e) -/
def mRaise (c : Cl) (nmS : Str) (a : MA) : MSt := fun env => stE (a env) env fun ds S => match ds with
  | [d] => some (.exc ⟨c, [d, .str nmS]⟩ env S)
  | _ => none
theorem js_raise {c : Cl} {x nmS : Str} {A : Addr} {k : Nat} {a : Expr} {ma : MA} {p pos pos2 : Pos} (hc : X.calm = true) (T : ExT X.prog X.K X.mg x nmS A) (hcn : c.nm = x) (hfl : c.fl = [("at" : Str), ("name" : Str)]) (hr : Room k X.A) (hk : 2 ≤ k) (ha : JA X C [a] ma) (hg : Gl X x) (hdb : (x == ("__debug__" : Str)) = false := by decide)
    (he : starEach (a :: []) X.env = (false, eval a X.env) :: starEach [] X.env := by rfl) (hpl : (backTo pos (starEach [] X.env)).any (·.1) = false := by rfl) :
    JS X C (.Raise (some (.Call (.Name x p) [a] [] pos)) none pos2) (mRaise c nmS ma) := PS.weak (ps_raise hc C.tk (pmk_car T hr hk ha hg hdb he hpl)) fun D σ H ⟨w, S, env, me, p⟩ => by
  refine ⟨w, S, env, me, po_st me p fun w1 S1 H1 vs ds me1 rv g1 p1 => ?_⟩
  cases rv with
  | nil => exact p1.elim
  | @cons v vs d ds r1 r2 =>
    cases r2 with
    | cons _ _ => exact p1.elim
    | nil =>
      refine ⟨v, rfl, fun dd hd => ?_⟩
      obtain ⟨s1, g1⟩ := me1.si.fr hd (.xd [(("at" : Str), v), (("name" : Str), .str nmS)])
      refine p1 w1 _ σ (.ref A) (some dd) g1 s1 me1.en ⟨A, dd, _, rfl, ?_, rfl, fo_new me1.si hd _, ?_⟩
      · show X.mg c.nm = _
        rw [hcn]; exact T.gC
      · show RepF X.K w1 _ c.fl [d, .str nmS]
        rw [hfl]
        exact ⟨rfl, r1, rfl, .str _, True.intro⟩
/-! ### try .. except C as e -/
def mTry (i : Nat) (cs : List (Str × Bool)) (body : MSt) (ms : Nat → Exn → MSt) : MSt := fun env S => match body env S with
  | some (.exc x env' S') => match cs.lookup x.cls.nm with
    | some true => match ms S'.nx x (env'.set i (some (.obj S'.nx))) ⟨S'.nx + 1, S'.get⟩ with
      | some (.nx e2 S2) => some (.nx (e2.set i none) S2)
      | some (.bk e2 S2) => some (.bk (e2.set i none) S2)
      | some (.ct e2 S2) => some (.ct (e2.set i none) S2)
      | some (.rt d S2) => some (.rt d S2)
      | _ => none
    | some false => some (.exc x env' S')
    | none => none
  | r => r
theorem SI.exn {K : PySem.W.Frag} {mg : Str → Option Value} {w : Wd} {S : MS} {H : Hp} (I : SI K mg w S H) {a : Addr} (ha : H a = none) :
    SI K mg ⟨fun n => if n = w.m then a else w.φ n, w.F, w.m + 1⟩ ⟨S.nx + 1, S.get⟩ H ∧ Go w S H ⟨fun n => if n = w.m then a else w.φ n, w.F, w.m + 1⟩ ⟨S.nx + 1, S.get⟩ H := by
  have le : Le w ⟨fun n => if n = w.m then a else w.φ n, w.F, w.m + 1⟩ := ⟨Nat.le_succ _, fun n h => if_neg (Nat.ne_of_lt h), fun a u h => h⟩
  have ph : ∀ {n o}, S.get n = some o → (if n = w.m then a else w.φ n) = w.φ n := fun {n o} h => if_neg (Nat.ne_of_lt (I.st n o h).1)
  refine ⟨⟨by show S.nx + 1 = w.m + 1; rw [I.nx], I.ex, fun n o h => ?_, fun n n' o o' h h' e => ?_⟩, le, fun b o h => ?_, fun _ _ _ h => h⟩
  · obtain ⟨h1, h2, ho, h3, h4⟩ := I.st n o h
    refine ⟨Nat.lt_succ_of_lt h1, ?_, ho, ?_, h4.le le⟩
    · show w.F (if n = w.m then a else w.φ n) = none
      rw [ph h]; exact h2
    · show H (if n = w.m then a else w.φ n) = some ho
      rw [ph h]; exact h3
  · have e' : (if n = w.m then a else w.φ n) = (if n' = w.m then a else w.φ n') := e
    rw [ph h, ph h'] at e'
    exact I.inj n n' o o' h h' e'
  · refine ⟨h.1, h.2.1, fun n ob hn => ?_⟩
    show (if n = w.m then a else w.φ n) ≠ b
    rw [ph hn]; exact h.2.2 n ob hn
/-- what a suite knows of its exception -/
structure SuX (X : Cx) (a : Addr) (oe : Obj) (cls : Value) (d : Option Addr) (pn : List (Addr × Obj)) (n0 : Nat) (x : Exn) (Cs : Cy (X.suite a ((a, oe) :: pn))) : Prop where
  zc : Zc cls d oe
  fl : ∃ vs, oe.data = .fields vs
  cl : ∃ A, cls = .ref A ∧ X.mg x.cls.nm = some (.ref A)
  b : ∀ w S H, Cs.B w S H → n0 < w.m ∧ w.φ n0 = a ∧ ∃ dd fvs, d = some dd ∧ Fo w S H dd (.xd fvs) ∧ RepF X.K w fvs x.cls.fl x.fs
def tSu (K : PySem.W.Frag) (mg : Str → Option Value) (ms : Nat → Exn → MSt) (a : Addr) (cls : Value) (d : Option Addr) : TS := fun D σ H => ∃ w S env n0 x dd fvs A, SI K mg w S H ∧ EnR K w env σ ∧ n0 < w.m ∧ w.φ n0 = a ∧ d = some dd ∧ Fo w S H dd (.xd fvs) ∧ RepF K w fvs x.cls.fl x.fs ∧ cls = .ref A ∧ mg x.cls.nm = some (.ref A) ∧
  PoS K mg (fun _ _ _ _ => False) w S H D (ms n0 x env S)
def suCy {a dd : Addr} {pn : List (Addr × Obj)} {n0 : Nat} {x : Exn} {fvs : List (Str × V)} : Cy (X.suite a pn) := ⟨fun _ _ _ _ => False, fun u s' ⟨a, B, sI, pins, σ, H, cls, d, e, I, nb, up, sky, na, os, ag, w⟩ => w.elim, PassesOwn.never, fun w S H => n0 < w.m ∧ w.φ n0 = a ∧ Fo w S H dd (.xd fvs) ∧ RepF X.K w fvs x.cls.fl x.fs,
  fun ⟨h1, h2, h3, h4⟩ g => ⟨Nat.lt_of_lt_of_le h1 g.le.m, (g.le.ph _ h1).trans h2, g.fo _ _ h3, h4.le g.le⟩⟩
theorem js_try {i : Nat} {x n : Str} {c : Value} {cs : List (Str × Bool)} {body suite : List Stmt} {b₀ : Stmt} {np pos pos' : Pos} {mb : MSt} {ms : Nat → Exn → MSt}
    (hs : X.stack = X.env :: X.outer) (hf : X.env.frame = some X.env.locals) (hN : X.N.Nodup) (hi : X.N[i]? = some n) (hln : X.env.kindOf n = some .local) (hc : Names X x c)
    (hcs : ∀ m b, cs.lookup m = some b → ∀ A, X.mg m = some (.ref A) → PySem.W.exmOne X.K (.ref A) c = some b)
    (hb : ∀ (pn : List (Addr × Obj)) (xe : Value → Shared → Prop) (C' : Cy (X.tr pn xe)), JB (X.tr pn xe) C' body mb)
    (hms : ∀ (a : Addr) (oe : Obj) (cls : Value) (d : Option Addr) (pn : List (Addr × Obj)) (n0 : Nat) (x : Exn) (Cs : Cy (X.suite a ((a, oe) :: pn))), SuX X a oe cls d pn n0 x Cs → JB (X.suite a ((a, oe) :: pn)) Cs (b₀ :: suite) (ms n0 x)) :
    JS X C (.Try body [.ExceptHandler (some (.Name x np)) (some n) (b₀ :: suite) pos'] [] [] pos) (mTry i cs mb ms) := by
  have key := ps_try_as (X := X) (tb := fun W D σ H => ∃ w S env, Me X C w S env σ H ∧ PoS X.K X.mg W w S H D (mb env S)) (ts := tSu X.K X.mg ms) (Wout := C.W) (pos := pos) (pos' := pos') (np := np) hs hf hN hi hln hc C.tk
    (fun W pn xe tk po => PSs.weak (hb pn xe ⟨W, tk, po, C.B, C.st⟩) fun D σ H ⟨w, S, env, me, p⟩ => ⟨w, S, env, ⟨me.si, me.en, me.b⟩, p⟩)
    (fun a oe cls d pn hz hfl => (⟨fun pins s σ H D I h => by
      obtain ⟨w, S, env, n0, x, dd, fvs, A, si, en, h1, h2, h3, h4, h5, h6, h7, p⟩ := h
      refine (hms a oe cls d pn n0 x (suCy (dd := dd) (fvs := fvs) (n0 := n0) (x := x)) ⟨hz, hfl, ⟨A, h6, h7⟩, fun w S H hB => ⟨hB.1, hB.2.1, dd, fvs, h3, hB.2.2.1, hB.2.2.2⟩⟩).run pins s σ H D I ⟨w, S, env, ⟨si, en, ⟨h1, h2, h4, h5⟩⟩, p⟩⟩ : PSs (X.suite a ((a, oe) :: pn)) (b₀ :: suite) (tSu X.K X.mg ms a cls d)))
  refine PS.weak key fun D σ H ⟨w, S, env, me, p⟩ => ⟨w, S, env, me, ?_⟩
  unfold mTry at p
  cases e1 : mb env S with
  | none => rw [e1] at p; exact p
  | some fl =>
    rw [e1] at p
    cases fl with
    | nx _ _ => exact p
    | bk _ _ => exact p
    | ct _ _ => exact p
    | rt _ _ => exact p
    | exc x env' S' =>
      dsimp only at p
      intro w' H' σ' cls dx g si en ex
      obtain ⟨A, dd, fvs, rfl, hA, rfl, fo, rf⟩ := ex
      cases e2 : cs.lookup x.cls.nm with
      | none => rw [e2] at p; exact p.elim
      | some b =>
        rw [e2] at p
        refine ⟨b, hcs _ _ e2 A hA, fun hb' a ha => ?_, fun hb' => ?_⟩
        · subst hb'
          dsimp only at p
          obtain ⟨s2, g2⟩ := si.exn ha
          have hnx : S'.nx = w'.m := si.nx
          have pa : (if S'.nx = w'.m then a else w'.φ S'.nx) = a := if_pos hnx
          have ro : Rep X.K ⟨fun n => if n = w'.m then a else w'.φ n, w'.F, w'.m + 1⟩ (.ref a) (.obj S'.nx) := by
            have z := Rep.obj (K := X.K) (w := ⟨fun n => if n = w'.m then a else w'.φ n, w'.F, w'.m + 1⟩) (n := S'.nx) (by show S'.nx < w'.m + 1; rw [hnx]; exact Nat.lt_succ_self _)
            rw [show (⟨fun n => if n = w'.m then a else w'.φ n, w'.F, w'.m + 1⟩ : Wd).φ S'.nx = a from pa] at z
            exact z
          refine ⟨_, _, env'.set i (some (.obj S'.nx)), S'.nx, x, dd, fvs, A, s2, (en.le g2.le).set ro i, ?_, pa, rfl, g2.fo _ _ fo, rf.le g2.le, rfl, hA, ?_⟩
          · show S'.nx < w'.m + 1
            rw [hnx]; exact Nat.lt_succ_self _
          · cases e3 : ms S'.nx x (env'.set i (some (.obj S'.nx))) ⟨S'.nx + 1, S'.get⟩ with
            | none => rw [e3] at p; exact p.elim
            | some f2 =>
              rw [e3] at p
              cases f2 with
              | nx e2 S2 => exact fun w2 H2 σ2 g3 s3 en3 => p w2 H2 _ ((g.trans g2).trans g3) s3 (en3.unset i)
              | bk e2 S2 => exact fun w2 H2 σ2 g3 s3 en3 => p w2 H2 _ ((g.trans g2).trans g3) s3 (en3.unset i)
              | ct e2 S2 => exact fun w2 H2 σ2 g3 s3 en3 => p w2 H2 _ ((g.trans g2).trans g3) s3 (en3.unset i)
              | rt d S2 => exact fun w2 H2 v g3 s3 r3 => p w2 H2 v ((g.trans g2).trans g3) s3 r3
              | exc _ _ _ => exact p.elim
        · subst hb'
          dsimp only at p
          exact p w' H' σ' _ _ g si en ⟨A, dd, fvs, rfl, hA, rfl, fo, rf⟩
/-- e.f in the suite -/
def mXf (c : Cl) (n0 : Nat) (x : Exn) (k : Nat) (m : ME) : ME := fun env => bnd (m env) fun d S => match d with
  | .obj n => if n = n0 ∧ x.cls = c then (match x.fs[k]? with
    | some v => some (.ok v S)
    | none => none) else none
  | _ => none
theorem j_xf {a A : Addr} {oe : Obj} {cls : Value} {d : Option Addr} {pn : List (Addr × Obj)} {n0 k : Nat} {x : Exn} {Cs : Cy (X.suite a ((a, oe) :: pn))} {c : Cl} {f : Str} {e : Expr} {m : ME} {pos : Pos} (U : SuX X a oe cls d pn n0 x Cs) (hA : X.mg c.nm = some (.ref A)) (T : XfC X.K A) (hno : PySem.W.findIn X.K (.ref A) f = some none)
    (hi : c.fl[k]? = some f) (nd : c.fl.Nodup) (he : JE (X.suite a ((a, oe) :: pn)) Cs e m) (hb : attributeBase e f X.env (eval e X.env) = eval e X.env := by rfl) : JE (X.suite a ((a, oe) :: pn)) Cs (.Attribute e f pos) (mXf c n0 x k m) := PE.weak (pe_xf T hno U.zc U.fl he hb) fun σ H Q ⟨w, S, env, me, p⟩ => by
  refine ⟨w, S, env, me, po_bnd me p fun w1 S1 H1 v d' me1 rv g1 p1 => ?_⟩
  cases d' with
  | obj n =>
    dsimp only at p1
    by_cases hc : n = n0 ∧ x.cls = c
    · rw [if_pos hc] at p1
      obtain ⟨rfl, hcl⟩ := hc
      obtain ⟨h1, h2, dd, fvs, h3, h4, h5⟩ := U.b _ _ _ me1.b
      obtain ⟨A', h6, h7⟩ := U.cl
      rw [hcl] at h7 h5
      have eA : A' = A := by
        have z := h7.symm.trans hA
        cases z
        rfl
      cases e3 : x.fs[k]? with
      | none => rw [e3] at p1; exact p1.elim
      | some y =>
        rw [e3] at p1
        obtain ⟨u, h8, h9⟩ := RepF.get nd h5 hi e3
        cases rv with
        | obj _ => exact ⟨by rw [h2], by rw [h6, eA], dd, fvs, u, h3, h4.1, h8, p1 w1 H1 u (Go.refl _ _ _) me1.si h9⟩
    · rw [if_neg hc] at p1
      exact p1.elim
  | _ => exact p1.elim
end
end Mi
/-! MiW: the facts of CarError and its subclasses, as the head tells them. -/
namespace PySem
namespace CarX
open PySem.W PySem.Calls PyProof.Rows PySem.HandSPX L2
def p0 : Pos := ⟨0, 0, 0, 0⟩
def argPos (a : Arguments) (i : Nat) : Pos := ((a.args[i]?).map (·.pos)).getD p0
def dflt (a : Arguments) : Expr := a.defaults.getD 0 (.Name "x" p0)
def qC (b : List Stmt) (n : Nat) : Pos := match b with
  | [.Expr (.Call (.Attribute (.Call (.Name _ p1) _ _ p2) _ p3) [.Name _ p4] _ p5) p6, .Assign [.Attribute (.Name _ p7) _ p8] (.Name _ p9) p10, .Assign [.Attribute (.Name _ p11) _ p12] (.Name _ p13) p14] => [p0, p1, p2, p3, p4, p5, p6, p7, p8, p9, p10, p11, p12, p13, p14].getD n p0
  | _ => p0
def qS (b : List Stmt) (n : Nat) : Pos := match b with
  | [.Expr (.Call (.Attribute (.Call (.Name _ p1) _ _ p2) _ p3) [.Name _ p4, .Constant _ _ p7] _ p5) p6] => [p0, p1, p2, p3, p4, p5, p6, p7].getD n p0
  | _ => p0
def kS (b : List Stmt) : Nat := match b with
  | [.Expr (.Call (.Attribute (.Call (.Name _ _) _ _ _) _ _) [.Name _ _, .Constant _ k _] _ _) _] => k
  | _ => 0
/-- the texts -/
structure CarIs (s : Stmt) : Prop where
  a : defArgs s = cA (argPos (defArgs s) 0) (argPos (defArgs s) 1) (argPos (defArgs s) 2) (dflt (defArgs s))
  b : defBody s = cB (qC (defBody s))
  sc : defScope s = CarX.cS
  l : ((qC (defBody s) 3).endLine == (qC (defBody s) 5).line) = true
structure SubIs (nm : Str) (s : Stmt) : Prop where
  a : defArgs s = sA (argPos (defArgs s) 0) (argPos (defArgs s) 1)
  b : defBody s = sB nm (kS (defBody s)) (qS (defBody s))
  sc : defScope s = CarX.sS
  l : ((qS (defBody s) 3).endLine == (qS (defBody s) 5).line) = true
section
variable {K : Frag} {prog : Program} {mg : Str → Option Value}
theorem sup_mk {cda : Addr} {cl1 : Value} {cdd cld : Option Addr} {vs : Array Value} {ccs csl : Array (Option Value)} {file : Str} {tf : Tok} {cl2 : Value} {cc D : Addr} {qual : Str} (h1 : codeIn K (.ref cda) qual = true) (h2 : K.lookup cda = some ⟨cl1, cdd, .fields vs, ccs⟩) (h3 : vs[2]? = some (.str file tf)) (h4 : ((prog.main.file : Str) == file) = true)
    (h5 : K.lookup cc = some ⟨cl2, cld, .cell (some (.ref D)), csl⟩) (h6 : isClsIn K D = true) : SupTxt K prog (.ref cda) qual cc D := by
  refine ⟨h1, ⟨cda, cl1, cdd, vs, ccs, file, tf, rfl, h2, h3, h4⟩, ⟨cl2, cld, csl, h5⟩, ?_⟩
  have h6' : (clsIn K D).isSome = true := h6
  cases e : clsIn K D with
  | none => rw [e] at h6'; cases h6'
  | some cd => exact ⟨cd, rfl⟩
theorem car_mk {s : Stmt} {D fI cc dT cda : Addr} {od an od2 : Option Addr} {dc pm ct c2 v0 : Value} {osl sl2 : Array (Option Value)} {n : Nat} (I : CarIs s) (hl : K.lookup fI = some ⟨.type "function", od, .func (fnX "__init__" "CarError.__init__" (defArgs s) (defBody s) (defScope s) [("__class__", cc)] (.ref dT) .none dc pm an (.ref cda) ct), osl⟩)
    (S : SupTxt K prog (.ref cda) "CarError.__init__" cc D) (hd : K.lookup dT = some ⟨c2, od2, .seq #[v0] n, sl2⟩) (hs : mg "super" = none) (ho : nsIn K cStatics "thirdparty.any" = some none) (ht : (prog.main.scope.names.lookup ("super" : Str)).isSome = false) : CarTxt K prog mg D fI cc := by
  rw [I.a, I.b, I.sc] at hl
  refine ⟨⟨.type "function", od, dc, pm, an, .ref cda, ct, osl, _, _, _, _, _, dT, _, v0, n, hl, S, hd, rfl, I.l⟩, fun {oc od' d sl} e => ?_, hs, ho, ht⟩
  rw [hl] at e
  cases e
  rfl
theorem subt_mk {s : Stmt} {nm qual : Str} {C fS fI cc cda : Addr} {oc : Value} {od an : Option Addr} {dc pm ct : Value} {osl : Array (Option Value)} (I : SubIs nm s) (hl : K.lookup fS = some ⟨oc, od, .func (fnX "__init__" qual (defArgs s) (defBody s) (defScope s) [("__class__", cc)] .none .none dc pm an (.ref cda) ct), osl⟩)
    (S : SupTxt K prog (.ref cda) qual cc C) (h1 : mroIn K C (.ref C) = some true) (h2 : ks_superIn K C C "__init__" = some (some (.ref fI))) : SubTxt K prog nm qual C fS fI cc := by
  rw [I.a, I.b, I.sc] at hl
  exact ⟨⟨oc, od, dc, pm, an, .ref cda, ct, osl, _, _, _, _, hl, S, I.l⟩, h1, h2⟩
theorem exm_self {S : Addr} (h1 : subIn K (.ref S) (.type "BaseException") = some true) (h2 : isClsIn K S = true) (h3 : typeIn K (.ref S) = some (.type "type")) (h4 : subIn K (.ref S) (.ref S) = some true) : exmOne K (.ref S) (.ref S) = some true := by
  have e1 : (subIn K (.ref S) (.type "BaseException") == some true) = true := by rw [h1] <;> rfl
  have e2 : ((clsIn K S).isSome && typeIn K (.ref S) == some (.type "type")) = true := by
    have h2' : (clsIn K S).isSome = true := h2
    rw [h2', h3] <;> rfl
  show (if (subIn K (.ref S) (.type "BaseException") == some true) = true then (if ((clsIn K S).isSome && typeIn K (.ref S) == some (.type "type")) = true then subIn K (.ref S) (.ref S) else none) else none) = some true
  rw [if_pos e1, if_pos e2]
  exact h4
end
/-- an exception class of the program, all that the walks ask -/
structure ExC (prog : Program) (K : Frag) (mg : Str → Option Value) (x nmS : Str) (C : Addr) : Prop where
  t : ExT prog K mg x nmS C
  ex : exmOne K (.ref C) (.ref C) = some true
end CarX
end PySem
namespace Mi
open PySem L2
theorem cs_one {K : PySem.W.Frag} {mg : Str → Option Value} {x : Str} {A : Addr} (g : mg x = some (.ref A)) (e : PySem.W.exmOne K (.ref A) (.ref A) = some true) : ∀ (m : Str) (b : Bool), ([(x, true)] : List (Str × Bool)).lookup m = some b → ∀ B, mg m = some (.ref B) → PySem.W.exmOne K (.ref B) (.ref A) = some b := by
  intro m b h B hB
  by_cases c : m = x
  · subst c
    rw [List.lookup_cons_self] at h
    cases h
    rw [g] at hB
    cases hB
    exact e
  · rw [List.lookup_cons, beq_eq_false_iff_ne.mpr c] at h
    cases h
end Mi
/-! k93: the text by places, the mirrors, the derivations (printed by wip/gen.py) -/
namespace G93
open PySem L2 Mi
def top (i : Nat) : Stmt := PySem.Challenge.pw_axlewire_k93_frames_come_once.main.body.getD i (.Pass ⟨0, 0, 0, 0⟩)
abbrev c_Net : Cl := ⟨"Net", ["times", "table", "now", "count", "waiting", "going", "log"]⟩
abbrev s__law_draws : Stmt := (top 13)
theorem sc__law_draws : FnScope ["script"] ["script"] (defScope s__law_draws) := ⟨rfl, rfl, rfl, by decide +kernel, rfl, by decide +kernel, by decide +kernel⟩
abbrev s__law_draw : Stmt := (top 14)
theorem sc__law_draw : FnScope ["draws", "limit", "cell", "value"] ["draws", "limit"] (defScope s__law_draw) := ⟨rfl, rfl, rfl, by decide +kernel, rfl, by decide +kernel, by decide +kernel⟩
abbrev s__law_table : Stmt := (top 20)
theorem sc__law_table : FnScope ["draws", "wires", "most", "found", "k", "one", "other", "row"] ["draws", "wires", "most"] (defScope s__law_table) := ⟨rfl, rfl, rfl, by decide +kernel, rfl, by decide +kernel, by decide +kernel⟩
abbrev s_is_number : Stmt := (top 6)
theorem sc_is_number : FnScope ["thing", "low", "high"] ["thing", "low", "high"] (defScope s_is_number) := ⟨rfl, rfl, rfl, by decide +kernel, rfl, by decide +kernel, by decide +kernel⟩
abbrev s_check_table : Stmt := (top 8)
theorem sc_check_table : FnScope ["wires", "table", "k", "row", "at"] ["wires", "table"] (defScope s_check_table) := ⟨rfl, rfl, rfl, by decide +kernel, rfl, by decide +kernel, by decide +kernel⟩
abbrev s_Net___init__ : Stmt := (inClass (top 11) 0)
theorem sc_Net___init__ : FnScope ["self", "times", "table", "k", "_"] ["self", "times", "table"] (defScope s_Net___init__) := ⟨rfl, rfl, rfl, by decide +kernel, rfl, by decide +kernel, by decide +kernel⟩
abbrev s__law_copy : Stmt := (top 16)
theorem sc__law_copy : FnScope ["thing", "found", "key", "part"] ["thing"] (defScope s__law_copy) := ⟨rfl, rfl, rfl, by decide +kernel, rfl, by decide +kernel, by decide +kernel⟩
abbrev s_Net_due : Stmt := (inClass (top 11) 4)
theorem sc_Net_due : FnScope ["self", "some", "row"] ["self"] (defScope s_Net_due) := ⟨rfl, rfl, rfl, by decide +kernel, rfl, by decide +kernel, by decide +kernel⟩
abbrev s_Net_begin : Stmt := (inClass (top 11) 3)
theorem sc_Net_begin : FnScope ["self", "wire", "number", "index", "since"] ["self"] (defScope s_Net_begin) := ⟨rfl, rfl, rfl, by decide +kernel, rfl, by decide +kernel, by decide +kernel⟩
abbrev s_comes : Stmt := (top 9)
theorem sc_comes : FnScope ["table", "spot", "row"] ["table", "spot"] (defScope s_comes) := ⟨rfl, rfl, rfl, by decide +kernel, rfl, by decide +kernel, by decide +kernel⟩
abbrev s_Net_wait_for : Stmt := (inClass (top 11) 2)
theorem sc_Net_wait_for : FnScope ["self", "wire", "number", "index"] ["self", "wire", "number", "index"] (defScope s_Net_wait_for) := ⟨rfl, rfl, rfl, by decide +kernel, rfl, by decide +kernel, by decide +kernel⟩
abbrev s_Net_come : Stmt := (inClass (top 11) 5)
theorem sc_Net_come : FnScope ["self", "done", "wire", "row", "number", "index", "goal", "other"] ["self"] (defScope s_Net_come) := ⟨rfl, rfl, rfl, by decide +kernel, rfl, by decide +kernel, by decide +kernel⟩
abbrev s_Net_wait : Stmt := (inClass (top 11) 6)
theorem sc_Net_wait : FnScope ["self", "many", "end", "at"] ["self", "many"] (defScope s_Net_wait) := ⟨rfl, rfl, rfl, by decide +kernel, rfl, by decide +kernel, by decide +kernel⟩
abbrev s_Net_put : Stmt := (inClass (top 11) 1)
theorem sc_Net_put : FnScope ["self", "wire", "number"] ["self", "wire", "number"] (defScope s_Net_put) := ⟨rfl, rfl, rfl, by decide +kernel, rfl, by decide +kernel, by decide +kernel⟩
abbrev s_Net_settle : Stmt := (inClass (top 11) 7)
theorem sc_Net_settle : FnScope ["self", "most", "end"] ["self", "most"] (defScope s_Net_settle) := ⟨rfl, rfl, rfl, by decide +kernel, rfl, by decide +kernel, by decide +kernel⟩
abbrev s__law_goals : Stmt := (top 17)
theorem sc__law_goals : FnScope ["table", "spot", "row"] ["table", "spot"] (defScope s__law_goals) := ⟨rfl, rfl, rfl, by decide +kernel, rfl, by decide +kernel, by decide +kernel⟩
abbrev s__law_all_ways : Stmt := (top 18)
theorem sc__law_all_ways : FnScope ["table", "spot", "ways", "at", "goal"] ["table", "spot"] (defScope s__law_all_ways) := ⟨rfl, rfl, rfl, by decide +kernel, rfl, by decide +kernel, by decide +kernel⟩
abbrev s__law_passed : Stmt := (top 19)
theorem sc__law_passed : FnScope ["table", "spot", "ways", "ring", "k", "same", "j", "way"] ["table", "spot"] (defScope s__law_passed) := ⟨rfl, rfl, rfl, by decide +kernel, rfl, by decide +kernel, by decide +kernel⟩
abbrev s_law : Stmt := (top 21)
theorem sc_law : FnScope ["script", "draws", "turn", "wires", "table", "times", "net", "spots", "wire", "trees", "due", "k", "spot", "index", "came", "ends", "rings", "before", "number", "time", "one", "waited", "row"] ["script"] (defScope s_law) := ⟨rfl, rfl, rfl, by decide +kernel, rfl, by decide +kernel, by decide +kernel⟩
def b__law_draws : MSt :=
  (mRet (mObj (mCons (mFn (d1 (dList mkL)) (mCons (mV 0) mNil)) (mCons (mK (.int 0)) (mCons (mK (.int 0)) (mCons (mK (.int 1)) mNil))))))
def m__law_draws : List D → M D := runB 1 1 b__law_draws
def b__law_draw : MSt :=
  (mSeq (mIfS (mAnd (mB (mOp dEq (mOp dIx (mV 0) (mK (.int 2))) (mK (.int 0)))) (mB (mOp dLt (mOp dIx (mV 0) (mK (.int 1))) (mFn (d1 dLen) (mCons (mOp dIx (mV 0) (mK (.int 0))) mNil))))) (mSeq (mAsg (mOp dIx (mOp dIx (mV 0) (mK (.int 0))) (mOp dIx (mV 0) (mK (.int 1)))) (gNm 2))
  (mSeq (mAsg (mOp (dAdd mkL) (mOp dIx (mV 0) (mK (.int 1))) (mK (.int 1))) (gIx (mV 0) (mK (.int 1))))
  (mSeq (mIfS (mB (mOp dGe (mV 2) (mOp dPow (mK (.int 10)) (mK (.int 18))))) (mAsg (mV 2) (gIx (mV 0) (mK (.int 2)))) mNx)
  (mAsg (mOp dMod (mFn (d1 dInt) (mCons (mOp (dAdd mkL) (mOp (dAdd mkL) (mOp dMul (mOp dIx (mV 0) (mK (.int 3))) (mK (.int 48271))) (mV 2)) (mK (.int 13))) mNil)) (mK (.int 2147483647))) (gIx (mV 0) (mK (.int 3))))))) mNx)
  (mSeq (mIfS (mB (mOp dGt (mOp dIx (mV 0) (mK (.int 2))) (mK (.int 0)))) (mSeq (mAsg (mOp dMod (mFn (d1 dInt) (mCons (mOp dIx (mV 0) (mK (.int 2))) mNil)) (mV 1)) (gNm 3))
  (mSeq (mAsg (mOp dDiv (mOp dIx (mV 0) (mK (.int 2))) (mV 1)) (gIx (mV 0) (mK (.int 2))))
  (mRet (mV 3)))) mNx)
  (mSeq (mAsg (mOp dMod (mFn (d1 dInt) (mCons (mOp (dAdd mkL) (mOp dMul (mOp dIx (mV 0) (mK (.int 3))) (mK (.int 69621))) (mK (.int 7))) mNil)) (mK (.int 2147483629))) (gIx (mV 0) (mK (.int 3))))
  (mRet (mOp dMod (mFn (d1 dInt) (mCons (mOp dDiv (mOp dIx (mV 0) (mK (.int 3))) (mK (.int 11))) mNil)) (mV 1))))))
def m__law_draw : List D → M D := runB 4 2 b__law_draw
def b__law_table : MSt :=
  (mSeq (mAsg (mObj mNil) (gNm 3))
  (mSeq (mFor (mRange1 (mCons (mCall m__law_draw (mCons (mV 0) (mCons (mOp (dAdd mkL) (mV 2) (mK (.int 1))) mNil))) mNil)) (gNm 4) (mSeq (mPar 5 6 (mCons (mCall m__law_draw (mCons (mV 0) (mCons (mV 1) mNil))) (mCons (mCall m__law_draw (mCons (mV 0) (mCons (mV 1) mNil))) mNil)))
  (mSeq (mAsg (mTup (mCons (mV 5) (mCons (mOp dIx (mLst (mCons (mK (.int 5)) (mCons (mK (.int 5)) (mCons (mK (.int 7)) (mCons (mK (.int 2047)) mNil))))) (mCall m__law_draw (mCons (mV 0) (mCons (mK (.int 4)) mNil)))) (mCons (mV 6) (mCons (mOp dIx (mLst (mCons (mK (.int 5)) (mCons (mK (.int 5)) (mCons (mK (.int 7)) (mCons (mK (.int 0)) mNil))))) (mCall m__law_draw (mCons (mV 0) (mCons (mK (.int 4)) mNil)))) mNil))))) (gNm 7))
  (mIfS (mAnd (mB (mOp dNe (mV 5) (mV 6))) (mB (mOp dNotIn (mV 7) (mV 3)))) (mDrop (mMt "list" dAppend (mV 3) (mCons (mV 7) mNil))) mNx))))
  (mRet (mFz (mV 3)))))
def m__law_table : List D → M D := runB 8 3 b__law_table
def b_is_number : MSt :=
  (mRet (mAndV (mFn (d2 dIsi) (mCons (mV 0) (mCons (mK (.ty "int")) mNil))) (mAndV (mNotV (mFn (d2 dIsi) (mCons (mV 0) (mCons (mK (.ty "bool")) mNil)))) (mChain dLe dLe (mV 1) (mV 0) (mV 2)))))
def m_is_number : List D → M D := runB 3 3 b_is_number
def b_check_table : MSt :=
  (mFor (mRange1 (mCons (mFn (d1 dLen) (mCons (mV 1) mNil)) mNil)) (gNm 2) (mSeq (mAsg (mOp dIx (mV 1) (mV 2)) (gNm 3))
  (mSeq (mIfS (mOr (mNot (mTru (mFn (d2 dIsi) (mCons (mV 3) (mCons (mK (.ty "tuple")) mNil))))) (mOr (mB (mOp dNe (mFn (d1 dLen) (mCons (mV 3) mNil)) (mK (.int 4)))) (mOr (mB (mOp dEq (mOp dIx (mV 3) (mK (.int 0))) (mOp dIx (mV 3) (mK (.int 2))))) (mB (mOp dIn (mV 3) (mSl mkL (mV 1) oNone (oSome (mV 2)))))))) mNever mNx)
  (mSeq (mIfS (mNot (mTru (mFn (d1 dAll) (mCons (mLc (mIt (mTup (mCons (mK (.int 0)) (mCons (mK (.int 2)) mNil)))) (gNm 4) mYes (mCall m_is_number (mCons (mOp dIx (mV 3) (mV 4)) (mCons (mK (.int 0)) (mCons (mOp dSub (mV 0) (mK (.int 1))) mNil)))) [4] mkL) mNil)))) mNever mNx)
  (mIfS (mNot (mTru (mFn (d1 dAll) (mCons (mLc (mIt (mTup (mCons (mK (.int 1)) (mCons (mK (.int 3)) mNil)))) (gNm 4) mYes (mCall m_is_number (mCons (mOp dIx (mV 3) (mV 4)) (mCons (mK (.int 0)) (mCons (mK (.int 2047)) mNil)))) [4] mkL) mNil)))) mNever mNx)))))
def m_check_table : List D → M D := runB 5 2 b_check_table
def b_Net___init__ : MSt :=
  (mSeq (mFor (mRange1 (mCons (mFn (d1 dLen) (mCons (mV 1) mNil)) mNil)) (gNm 3) (mIfS (mNot (mTru (mCall m_is_number (mCons (mOp dIx (mV 1) (mV 3)) (mCons (mK (.int 1)) (mCons (mOp dPow (mK (.int 10)) (mK (.int 6))) mNil)))))) mNever mNx))
  (mSeq (mDrop (mCall m_check_table (mCons (mFn (d1 dLen) (mCons (mV 1) mNil)) (mCons (mV 2) mNil))))
  (mSeq (mStF c_Net 0 (mV 0) (mFn (d1 (dList mkL)) (mCons (mV 1) mNil)))
  (mSeq (mStF c_Net 1 (mV 0) (mFn (d1 (dList mkL)) (mCons (mV 2) mNil)))
  (mSeq (mStF c_Net 2 (mV 0) (mK (.int 0)))
  (mSeq (mStF c_Net 3 (mV 0) (mK (.int 0)))
  (mSeq (mStF c_Net 4 (mV 0) (mLkM [1] (mLc (mIt (mV 1)) (gNm 4) mYes (mLst mNil) [4] mkO)))
  (mSeq (mStF c_Net 5 (mV 0) (mLkM [1] (mLc (mIt (mV 1)) (gNm 4) mYes (mK .non) [4] mkO)))
  (mStF c_Net 6 (mV 0) (mLst mNil))))))))))
def m_Net___init__ : List D → M D := runB 5 3 b_Net___init__
def b__law_copy (self : List D → M D) : MSt :=
  (mSeq (mIfS (mTru (mFn (d2 dIsi) (mCons (mV 0) (mCons (mK (.ty "list")) mNil)))) (mRet (mLkM [0] (mLc (mIt (mV 0)) (gNm 3) mYes (mCall self (mCons (mV 3) mNil)) [3] mkL))) mNx)
  (mSeq (mIfS (mTru (mFn (d2 dIsi) (mCons (mV 0) (mCons (mK (.ty "tuple")) mNil)))) (mRet (mFn (d1 dTuple) (mCons (mLkM [0] (mLc (mIt (mV 0)) (gNm 3) mYes (mCall self (mCons (mV 3) mNil)) [3] mkL)) mNil))) mNx)
  (mSeq (mIfS (mTru (mFn (d2 dIsi) (mCons (mV 0) (mCons (mK (.ty "dict")) mNil)))) (mSeq (mAsg (mDct0 mkD) (gNm 1))
  (mSeq (mLkSM [0] (mFor (mIt (mV 0)) (gNm 2) (mAsg (mCall self (mCons (mOp dIx (mV 0) (mV 2)) mNil)) (gIx (mV 1) (mV 2)))))
  (mRet (mV 1)))) mNx)
  (mRet (mV 0)))))
def m__law_copy : Nat → List D → M D
  | 0 => fun _ => stuck
  | n + 1 => runB 4 1 (b__law_copy (m__law_copy n))
theorem a__law_copy : ∀ n, Ar 1 (m__law_copy n)
  | 0 => ar_stuck
  | _ + 1 => ar_runB
def b_Net_due : MSt :=
  (mSeq (mLkSM [0, 5] (mAsg (mLc (mIt (mOp1 (dFld c_Net 5) (mV 0))) (gNm 2) (mB (mOp dIsNotN (mV 2) (mK .non))) (mOp dIx (mV 2) (mK (.int 0))) [2] mkL) (gNm 1)))
  (mRet (mIf (mB (mOp dGt (mFn (d1 dLen) (mCons (mV 1) mNil)) (mK (.int 0)))) (mFn (d1 dMinL) (mCons (mV 1) mNil)) (mK .non))))
def m_Net_due : List D → M D := runB 3 1 b_Net_due
def b_Net_begin : MSt :=
  (mFor (mRange1 (mCons (mFn (d1 dLen) (mCons (mOp1 (dFld c_Net 0) (mV 0)) mNil)) mNil)) (gNm 1) (mIfS (mAnd (mB (mOp dIsN (mOp dIx (mOp1 (dFld c_Net 5) (mV 0)) (mV 1)) (mK .non))) (mB (mOp dGt (mFn (d1 dLen) (mCons (mOp dIx (mOp1 (dFld c_Net 4) (mV 0)) (mV 1)) mNil)) (mK (.int 0))))) (mSeq (mAsg (mOp dIx (mOp dIx (mOp1 (dFld c_Net 4) (mV 0)) (mV 1)) (mK (.int 0))) (gTp 3 (gsCons (gNm 2) (gsCons (gNm 3) (gsCons (gNm 4) gsNil)))))
  (mSeq (mAsg (mSl mkL (mOp dIx (mOp1 (dFld c_Net 4) (mV 0)) (mV 1)) (oSome (mK (.int 1))) oNone) (gIx (mOp1 (dFld c_Net 4) (mV 0)) (mV 1)))
  (mAsg (mTup (mCons (mOp (dAdd mkL) (mOp1 (dFld c_Net 2) (mV 0)) (mOp dIx (mOp1 (dFld c_Net 0) (mV 0)) (mV 1))) (mCons (mV 2) (mCons (mV 3) (mCons (mV 4) mNil))))) (gIx (mOp1 (dFld c_Net 5) (mV 0)) (mV 1))))) mNx))
def m_Net_begin : List D → M D := runB 5 1 b_Net_begin
def b_comes : MSt :=
  (mRet (mLkM [0] (mLc (mIt (mV 0)) (gNm 2) (mB (mOp dEq (mSl mkL (mV 2) oNone (oSome (mK (.int 2)))) (mV 1))) (mSl mkL (mV 2) (oSome (mK (.int 2))) oNone) [2] mkL)))
def m_comes : List D → M D := runB 3 2 b_comes
def b_Net_wait_for : MSt :=
  (mAsg (mFn (d1 (dSortG mkL)) (mCons (mOp (dAdd mkL) (mOp dIx (mOp1 (dFld c_Net 4) (mV 0)) (mV 1)) (mLst (mCons (mTup (mCons (mV 2) (mCons (mV 3) (mCons (mOp1 (dFld c_Net 2) (mV 0)) mNil)))) mNil))) mNil)) (gIx (mOp1 (dFld c_Net 4) (mV 0)) (mV 1)))
def m_Net_wait_for : List D → M D := runB 4 4 b_Net_wait_for
def b_Net_come : MSt :=
  (mSeq (mAsg (mObj mNil) (gNm 1))
  (mSeq (mFor (mRange1 (mCons (mFn (d1 dLen) (mCons (mOp1 (dFld c_Net 0) (mV 0)) mNil)) mNil)) (gNm 2) (mSeq (mAsg (mOp dIx (mOp1 (dFld c_Net 5) (mV 0)) (mV 2)) (gNm 3))
  (mIfS (mAnd (mB (mOp dIsNotN (mV 3) (mK .non))) (mB (mOp dEq (mOp dIx (mV 3) (mK (.int 0))) (mOp1 (dFld c_Net 2) (mV 0))))) (mSeq (mAsg (mK .non) (gIx (mOp1 (dFld c_Net 5) (mV 0)) (mV 2)))
  (mSeq (mStF c_Net 6 (mV 0) (mOp (dAdd mkL) (mOp1 (dFld c_Net 6) (mV 0)) (mLst (mCons (mTup (mCons (mOp1 (dFld c_Net 2) (mV 0)) (mCons (mV 2) (mCons (mOp dIx (mV 3) (mK (.int 1))) (mCons (mOp dIx (mV 3) (mK (.int 2))) (mCons (mOp dSub (mOp1 (dFld c_Net 2) (mV 0)) (mOp dIx (mV 3) (mK (.int 3)))) mNil)))))) mNil))))
  (mDrop (mMt "list" dAppend (mV 1) (mCons (mTup (mCons (mV 2) (mCons (mOp dIx (mV 3) (mK (.int 1))) (mCons (mOp dIx (mV 3) (mK (.int 2))) mNil)))) mNil))))) mNx)))
  (mSeq (mLkSM [1] (mFor (mIt (mV 1)) (gTp 3 (gsCons (gNm 2) (gsCons (gNm 4) (gsCons (gNm 5) gsNil)))) (mFor (mIt (mCall m_comes (mCons (mOp1 (dFld c_Net 1) (mV 0)) (mCons (mTup (mCons (mV 2) (mCons (mV 4) mNil))) mNil)))) (gTp 2 (gsCons (gNm 6) (gsCons (gNm 7) gsNil))) (mDrop (mMeth c_Net m_Net_wait_for (mV 0) (mCons (mV 6) (mCons (mV 7) (mCons (mV 5) mNil))))))))
  (mDrop (mMeth c_Net m_Net_begin (mV 0) mNil)))))
def m_Net_come : List D → M D := runB 8 1 b_Net_come
def b_Net_wait : MSt :=
  (mSeq (mIfS (mB (mOp dLt (mV 1) (mK (.int 0)))) mNever mNx)
  (mSeq (mAsg (mOp (dAdd mkL) (mOp1 (dFld c_Net 2) (mV 0)) (mV 1)) (gNm 2))
  (mSeq (mAsg (mMeth c_Net m_Net_due (mV 0) mNil) (gNm 3))
  (mSeq (mWhile (mAnd (mB (mOp dIsNotN (mV 3) (mK .non))) (mB (mOp dLe (mV 3) (mV 2)))) (mSeq (mStF c_Net 2 (mV 0) (mV 3))
  (mSeq (mDrop (mMeth c_Net m_Net_come (mV 0) mNil))
  (mAsg (mMeth c_Net m_Net_due (mV 0) mNil) (gNm 3)))))
  (mStF c_Net 2 (mV 0) (mV 2))))))
def m_Net_wait : List D → M D := runB 4 2 b_Net_wait
def b_Net_put : MSt :=
  (mSeq (mIfS (mNot (mTru (mCall m_is_number (mCons (mV 1) (mCons (mK (.int 0)) (mCons (mOp dSub (mFn (d1 dLen) (mCons (mOp1 (dFld c_Net 0) (mV 0)) mNil)) (mK (.int 1))) mNil)))))) mNever mNx)
  (mSeq (mIfS (mNot (mTru (mCall m_is_number (mCons (mV 2) (mCons (mK (.int 0)) (mCons (mK (.int 2047)) mNil)))))) mNever mNx)
  (mSeq (mAugF c_Net 3 dAddI (mV 0) (mK (.int 1)))
  (mSeq (mDrop (mMeth c_Net m_Net_wait_for (mV 0) (mCons (mV 1) (mCons (mV 2) (mCons (mOp dSub (mOp1 (dFld c_Net 3) (mV 0)) (mK (.int 1))) mNil)))))
  (mSeq (mDrop (mMeth c_Net m_Net_begin (mV 0) mNil))
  (mRet (mOp dSub (mOp1 (dFld c_Net 3) (mV 0)) (mK (.int 1)))))))))
def m_Net_put : List D → M D := runB 3 3 b_Net_put
def b_Net_settle : MSt :=
  (mSeq (mAsg (mOp (dAdd mkL) (mOp1 (dFld c_Net 2) (mV 0)) (mV 1)) (gNm 2))
  (mSeq (mWhile (mAnd (mB (mOp dIsNotN (mMeth c_Net m_Net_due (mV 0) mNil) (mK .non))) (mB (mOp dLe (mMeth c_Net m_Net_due (mV 0) mNil) (mV 2)))) (mDrop (mMeth c_Net m_Net_wait (mV 0) (mCons (mOp dSub (mMeth c_Net m_Net_due (mV 0) mNil) (mOp1 (dFld c_Net 2) (mV 0))) mNil))))
  (mRet (mOp dIsN (mMeth c_Net m_Net_due (mV 0) mNil) (mK .non)))))
def m_Net_settle : List D → M D := runB 3 2 b_Net_settle
def b__law_goals : MSt :=
  (mRet (mLkM [0] (mLc (mIt (mV 0)) (gNm 2) (mAnd (mB (mOp dEq (mOp dIx (mV 2) (mK (.int 0))) (mOp dIx (mV 1) (mK (.int 0))))) (mB (mOp dEq (mOp dIx (mV 2) (mK (.int 1))) (mOp dIx (mV 1) (mK (.int 1)))))) (mTup (mCons (mOp dIx (mV 2) (mK (.int 2))) (mCons (mOp dIx (mV 2) (mK (.int 3))) mNil))) [2] mkL)))
def m__law_goals : List D → M D := runB 3 2 b__law_goals
def b__law_all_ways : MSt :=
  (mSeq (mAsg (mObj (mCons (mLst (mCons (mV 1) mNil)) mNil)) (gNm 2))
  (mSeq (mAsg (mK (.int 0)) (gNm 3))
  (mSeq (mWhile (mB (mOp dLt (mV 3) (mFn (d1 dLen) (mCons (mV 2) mNil)))) (mSeq (mFor (mIt (mCall m__law_goals (mCons (mV 0) (mCons (mOp dIx (mOp dIx (mV 2) (mV 3)) (mOp1 dNeg (mK (.int 1)))) mNil)))) (gNm 4) (mSeq (mIfS (mB (mOp dIn (mV 4) (mOp dIx (mV 2) (mV 3)))) (mRet (mTup (mCons (mV 2) (mCons (mOp (dAdd mkL) (mOp dIx (mV 2) (mV 3)) (mLst (mCons (mV 4) mNil))) mNil)))) mNx)
  (mDrop (mMt "list" dAppend (mV 2) (mCons (mOp (dAdd mkL) (mOp dIx (mV 2) (mV 3)) (mLst (mCons (mV 4) mNil))) mNil)))))
  (mAsg (mOp (dAdd mkL) (mV 3) (mK (.int 1))) (gNm 3))))
  (mRet (mTup (mCons (mV 2) (mCons (mK .non) mNil)))))))
def m__law_all_ways : List D → M D := runB 5 2 b__law_all_ways
def b__law_passed : MSt :=
  (mSeq (mAsg (mCall m__law_all_ways (mCons (mV 0) (mCons (mV 1) mNil))) (gTp 2 (gsCons (gNm 2) (gsCons (gNm 3) gsNil))))
  (mSeq (mIfS (mB (mOp dIsNotN (mV 3) (mK .non))) (mRet (mTup (mCons (mK (.str ("ring" : Str))) (mCons (mV 3) mNil)))) mNx)
  (mSeq (mFor (mRange1 (mCons (mFn (d1 dLen) (mCons (mV 2) mNil)) mNil)) (gNm 4) (mSeq (mAsg (mLc (mRange1 (mCons (mV 4) mNil)) (gNm 6) (mB (mOp dEq (mOp dIx (mOp dIx (mOp dIx (mV 2) (mV 6)) (mOp1 dNeg (mK (.int 1)))) (mK (.int 0))) (mOp dIx (mOp dIx (mOp dIx (mV 2) (mV 4)) (mOp1 dNeg (mK (.int 1)))) (mK (.int 0))))) (mV 6) [6] mkL) (gNm 5))
  (mIfS (mB (mOp dGt (mFn (d1 dLen) (mCons (mV 5) mNil)) (mK (.int 0)))) (mRet (mTup (mCons (mK (.str ("double" : Str))) (mCons (mOp dIx (mV 2) (mOp dIx (mV 5) (mK (.int 0)))) (mCons (mOp dIx (mV 2) (mV 4)) mNil))))) mNx)))
  (mRet (mTup (mCons (mK (.str ("tree" : Str))) (mCons (mLkM [2] (mLc (mIt (mV 2)) (gNm 7) mYes (mOp dIx (mV 7) (mOp1 dNeg (mK (.int 1)))) [7] mkL)) mNil)))))))
def m__law_passed : List D → M D := runB 8 2 b__law_passed
def b_law : MSt :=
  (mSeq (mAsg (mCall m__law_draws (mCons (mV 0) mNil)) (gNm 1))
  (mSeq (mFor (mRange1 (mCons (mK (.int 2)) mNil)) (gNm 2) (mSeq (mAsg (mOp (dAdd mkL) (mK (.int 2)) (mCall m__law_draw (mCons (mV 1) (mCons (mK (.int 4)) mNil)))) (gNm 3))
  (mSeq (mAsg (mCall m__law_table (mCons (mV 1) (mCons (mV 3) (mCons (mK (.int 7)) mNil)))) (gNm 4))
  (mSeq (mAsg (mLc (mRange1 (mCons (mV 3) mNil)) (gNm 11) mYes (mOp (dAdd mkL) (mK (.int 1)) (mCall m__law_draw (mCons (mV 1) (mCons (mK (.int 9)) mNil)))) [11] mkL) (gNm 5))
  (mSeq (mAsg (mMake c_Net m_Net___init__ (mCons (mFn (d1 (dList mkL)) (mCons (mV 5) mNil)) (mCons (mCall (m__law_copy 12) (mCons (mV 4) mNil)) mNil))) (gNm 6))
  (mSeq (mAsg (mLst mNil) (gNm 7))
  (mSeq (mFor (mRange1 (mCons (mV 3) mNil)) (gNm 8) (mAsg (mOp (dAdd mkL) (mV 7) (mLc (mIt (mLst (mCons (mK (.int 0)) (mCons (mK (.int 5)) (mCons (mK (.int 7)) (mCons (mK (.int 2047)) mNil)))))) (gNm 18) mYes (mTup (mCons (mV 8) (mCons (mV 18) mNil))) [18] mkL)) (gNm 7)))
  (mSeq (mLkSM [7] (mAsg (mLc (mIt (mV 7)) (gNm 12) (mB (mOp dEq (mOp dIx (mCall m__law_passed (mCons (mV 4) (mCons (mV 12) mNil))) (mK (.int 0))) (mK (.str ("tree" : Str))))) (mV 12) [12] mkL) (gNm 9)))
  (mSeq (mAsg (mObj mNil) (gNm 10))
  (mSeq (mFor (mRange1 (mCons (mOp dMul (mCall m__law_draw (mCons (mV 1) (mCons (mK (.int 13)) mNil))) (mFn (d1 dInt) (mCons (mOp dGt (mFn (d1 dLen) (mCons (mV 9) mNil)) (mK (.int 0))) mNil))) mNil)) (gNm 11) (mSeq (mAsg (mOp dIx (mV 9) (mCall m__law_draw (mCons (mV 1) (mCons (mFn (d1 dLen) (mCons (mV 9) mNil)) mNil)))) (gNm 12))
  (mSeq (mIfS (mB (mOp dNe (mMeth c_Net m_Net_put (mV 6) (mCons (mOp dIx (mV 12) (mK (.int 0))) (mCons (mOp dIx (mV 12) (mK (.int 1))) mNil))) (mFn (d1 dLen) (mCons (mV 10) mNil)))) (mRet (mK (.bl false))) mNx)
  (mSeq (mDrop (mMt "list" dAppend (mV 10) (mCons (mOp dIx (mCall m__law_passed (mCons (mV 4) (mCons (mV 12) mNil))) (mK (.int 1))) mNil)))
  (mDrop (mMeth c_Net m_Net_wait (mV 6) (mCons (mOp dIx (mLst (mCons (mK (.int 0)) (mCons (mK (.int 0)) (mCons (mK (.int 3)) (mCons (mK (.int 11)) mNil))))) (mCall m__law_draw (mCons (mV 1) (mCons (mK (.int 4)) mNil)))) mNil)))))))
  (mSeq (mIfS (mOr (mB (mOp dIsNotN (mMeth c_Net m_Net_settle (mV 6) (mCons (mOp dPow (mK (.int 10)) (mK (.int 6))) mNil)) (mK (.bl true)))) (mB (mOp dIsNotN (mMeth c_Net m_Net_due (mV 6) mNil) (mK .non)))) (mRet (mK (.bl false))) mNx)
  (mSeq (mFor (mRange1 (mCons (mFn (d1 dLen) (mCons (mV 10) mNil)) mNil)) (gNm 13) (mSeq (mAsg (mFn (d1 (dSortG mkL)) (mCons (mLkM [6, 6] (mLc (mIt (mOp1 (dFld c_Net 6) (mV 6))) (gTp 5 (gsCons (gNm 19) (gsCons (gNm 8) (gsCons (gNm 18) (gsCons (gNm 20) (gsCons (gNm 21) gsNil)))))) (mB (mOp dEq (mV 20) (mV 13))) (mTup (mCons (mV 8) (mCons (mV 18) mNil))) [19, 8, 18, 20, 21] mkL)) mNil)) (gNm 14))
  (mIfS (mB (mOp dNe (mV 14) (mFn (d1 (dSortG mkL)) (mCons (mOp dIx (mV 10) (mV 13)) mNil)))) (mRet (mK (.bl false))) mNx)))
  (mSeq (mFor (mRange1 (mCons (mV 3) mNil)) (gNm 8) (mSeq (mAsg (mLkM [6, 6] (mLc (mIt (mOp1 (dFld c_Net 6) (mV 6))) (gNm 22) (mB (mOp dEq (mOp dIx (mV 22) (mK (.int 1))) (mV 8))) (mOp dIx (mV 22) (mK (.int 0))) [22] mkL)) (gNm 15))
  (mIfS (mOr (mTru (mFn (d1 dAny) (mCons (mLc (mRange1 (mCons (mOp dSub (mFn (d1 dLen) (mCons (mV 15) mNil)) (mK (.int 1))) mNil)) (gNm 11) mYes (mOp dLt (mOp dSub (mOp dIx (mV 15) (mOp (dAdd mkL) (mV 11) (mK (.int 1)))) (mOp dIx (mV 15) (mV 11))) (mOp dIx (mV 5) (mV 8))) [11] mkL) mNil))) (mTru (mFn (d1 dAny) (mCons (mLkM [6, 6] (mLc (mIt (mOp1 (dFld c_Net 6) (mV 6))) (gNm 22) (mB (mOp dEq (mOp dIx (mV 22) (mK (.int 1))) (mV 8))) (mOp dLt (mOp dIx (mV 22) (mK (.int 4))) (mOp dIx (mV 5) (mV 8))) [22] mkL)) mNil)))) (mRet (mK (.bl false))) mNx)))
  (mSeq (mLkSM [7] (mAsg (mLc (mIt (mV 7)) (gNm 12) (mB (mOp dEq (mOp dIx (mCall m__law_passed (mCons (mV 4) (mCons (mV 12) mNil))) (mK (.int 0))) (mK (.str ("ring" : Str))))) (mV 12) [12] mkL) (gNm 16)))
  (mIfS (mB (mOp dGt (mFn (d1 dLen) (mCons (mV 16) mNil)) (mK (.int 0)))) (mSeq (mAsg (mOp dIx (mV 16) (mCall m__law_draw (mCons (mV 1) (mCons (mFn (d1 dLen) (mCons (mV 16) mNil)) mNil)))) (gNm 12))
  (mSeq (mDrop (mMeth c_Net m_Net_put (mV 6) (mCons (mOp dIx (mV 12) (mK (.int 0))) (mCons (mOp dIx (mV 12) (mK (.int 1))) mNil))))
  (mSeq (mAsg (mFn (d1 dLen) (mCons (mOp1 (dFld c_Net 6) (mV 6)) mNil)) (gNm 17))
  (mIfS (mOr (mB (mOp dIsNotN (mMeth c_Net m_Net_settle (mV 6) (mCons (mK (.int 300)) mNil)) (mK (.bl false)))) (mB (mOp dLt (mFn (d1 dLen) (mCons (mOp1 (dFld c_Net 6) (mV 6)) mNil)) (mOp (dAdd mkL) (mV 17) (mK (.int 5)))))) (mRet (mK (.bl false))) mNx)))) mNx)))))))))))))))
  (mRet (mK (.bl true)))))
def m_law : List D → M D := runB 23 1 b_law
end G93
/-! MiP: what a mirror does, by its parts: plain Lean, no program in sight. -/
namespace Mi
open PySem L2
def wp {α : Type} (m : M α) (S : MS) (Q : α → MS → Prop) (E : Exn → MS → Prop) : Prop := match m S with
  | some (.ok a S') => Q a S'
  | some (.exc e S') => E e S'
  | none => False
def wpS (r : Option Fl) (Q : Fl → Prop) : Prop := match r with
  | some fl => Q fl
  | none => False
def Small (n : Nat) : Prop := n ≤ 16777216
theorem Small.le {n : Nat} (h : Small n) : n ≤ 16777216 := h
theorem small_of {n : Nat} (h : n ≤ 16777216) : Small n := h
def wpO {α : Type} (r : Option α) (Q : α → Prop) : Prop := match r with
  | some a => Q a
  | none => False
abbrev no : Exn → MS → Prop := fun _ _ => False
def kont (b : MSt) (Q : Fl → Prop) : Fl → Prop
  | .nx env S => wpS (b env S) Q
  | fl => Q fl
def fin (Q : D → MS → Prop) (E : Exn → MS → Prop) : Fl → Prop
  | .nx _ S => Q .non S
  | .rt d S => Q d S
  | .exc e _ S => E e S
  | _ => False
section
variable {α β : Type} {S : MS} {Q : α → MS → Prop} {E : Exn → MS → Prop} {env : En} {R : Fl → Prop} {P : D → MS → Prop}
theorem wp_some {a : α} {S' : MS} : wp (fun _ => some (.ok a S')) S Q E = Q a S' := propext Iff.rfl
theorem wp_of {m : M α} {a : α} {S' : MS} (h : m S = some (.ok a S')) : wp m S Q E = Q a S' := by unfold wp; rw [h]
theorem wp_to {m : M α} (h : wp m S (fun a S' => Q a S') no) : ∃ a S', m S = some (.ok a S') ∧ Q a S' := by
  unfold wp at h
  cases e : m S with
  | none => rw [e] at h; exact h.elim
  | some r =>
    rw [e] at h
    cases r with
    | ok a S' => exact ⟨a, S', rfl, h⟩
    | exc _ _ => exact h.elim
theorem wp_mono {m : M α} {Q' : α → MS → Prop} (h : wp m S Q' E) (k : ∀ a S', Q' a S' → Q a S') : wp m S Q E := by
  unfold wp at h ⊢
  cases e : m S with
  | none => rw [e] at h; exact h
  | some r =>
    rw [e] at h
    cases r with
    | ok a S' => exact k _ _ h
    | exc _ _ => exact h
theorem wp_bnd {m : M β} {f : β → M α} : wp (bnd m f) S Q E = wp m S (fun b S' => wp (f b) S' Q E) E := by
  unfold wp bnd
  cases m S with
  | none => rfl
  | some r => cases r <;> rfl
theorem wp_ret {a : α} : wp (ret a) S Q E = Q a S := propext Iff.rfl
theorem wp_mV {i : Nat} {d : D} (h : env[i]? = some (some d)) : wp (mV i env) S P E = P d S := by unfold wp mV; rw [h]
def vO (P : D → MS → Prop) (S : MS) : Option (Option D) → Prop
  | some (some d) => P d S
  | _ => False
theorem vO_some {d : D} : vO P S (some (some d)) = P d S := propext Iff.rfl
theorem wp_v {i : Nat} : wp (mV i env) S P E = vO P S env[i]? := by
  unfold wp mV vO
  cases env[i]? with
  | none => rfl
  | some o => cases o <;> rfl
theorem wp_mK {d : D} : wp (mK d env) S P E = P d S := propext Iff.rfl
theorem wpS_stE {m : M α} {f : α → MS → Option Fl} : wpS (stE m env f S) R = wp m S (fun a S' => wpS (f a S') R) (fun e S' => R (.exc e env S')) := by
  unfold wpS stE wp
  cases m S with
  | none => rfl
  | some r => cases r <;> rfl
theorem wpS_some {fl : Fl} : wpS (some fl) R = R fl := propext Iff.rfl
theorem wpS_seq {a b : MSt} : wpS (mSeq a b env S) R = wpS (a env S) (kont b R) := by
  unfold mSeq wpS
  cases a env S with
  | none => rfl
  | some fl => cases fl <;> rfl
theorem kont_nx {b : MSt} (h : wpS (b env S) R) : kont b R (.nx env S) := h
theorem kont_rt {b : MSt} {d : D} : kont b R (.rt d S) = R (.rt d S) := propext Iff.rfl
theorem kont_ct {b : MSt} : kont b R (.ct env S) = R (.ct env S) := propext Iff.rfl
theorem kont_bk {b : MSt} : kont b R (.bk env S) = R (.bk env S) := propext Iff.rfl
theorem kont_exc {b : MSt} {e : Exn} : kont b R (.exc e env S) = R (.exc e env S) := propext Iff.rfl
theorem fin_nx : fin P E (.nx env S) = P .non S := propext Iff.rfl
theorem fin_rt {d : D} : fin P E (.rt d S) = P d S := propext Iff.rfl
theorem fin_exc {e : Exn} : fin P E (.exc e env S) = E e S := propext Iff.rfl
theorem wp_runB {n k : Nat} {b : MSt} {ds : List D} (h : ds.length = k) : wp (runB n k b ds) S P E = wpS (b (ds.map some ++ List.replicate (n - ds.length) none) S) (fin P E) := by
  unfold wp runB wpS
  rw [if_pos h]
  cases b (ds.map some ++ List.replicate (n - ds.length) none) S with
  | none => rfl
  | some fl => cases fl <;> rfl
theorem wpS_mNx : wpS (mNx env S) R = R (.nx env S) := propext Iff.rfl
theorem wpS_mCt : wpS (mCt env S) R = R (.ct env S) := propext Iff.rfl
theorem wpS_mBk : wpS (mBk env S) R = R (.bk env S) := propext Iff.rfl
theorem wpS_gNm {m : ME} {i : Nat} : wpS (mAsg m (gNm i) env S) R = wp (m env) S (fun d S' => R (.nx (env.set i (some d)) S')) (fun e S' => R (.exc e env S')) := by
  unfold mAsg
  rw [wpS_stE] <;> rfl
theorem wpS_asg {m : ME} {g : MG} : wpS (mAsg m g env S) R = wp (m env) S (fun d S' => wpO (g d env S') fun z => R (.nx z.1 z.2)) (fun e S' => R (.exc e env S')) := by
  unfold mAsg
  rw [wpS_stE]
  congr 1
  funext d S'
  unfold wpS wpO
  cases g d env S' with
  | none => rfl
  | some z => rfl
theorem wpS_ifS {t : MT} {a b : MSt} : wpS (mIfS t a b env S) R = wp (t env) S (fun c S' => if c = true then wpS (a env S') R else wpS (b env S') R) (fun e S' => R (.exc e env S')) := by
  unfold mIfS
  rw [wpS_stE]
  congr 1
  funext c S'
  cases c <;> rfl
theorem wp_mIf {t : MT} {a b : ME} : wp (mIf t a b env) S P E = wp (t env) S (fun c S' => if c = true then wp (a env) S' P E else wp (b env) S' P E) E := by
  unfold mIf
  rw [wp_bnd]
  congr 1
  funext c S'
  cases c <;> rfl
theorem wp_mAnd {a b : MT} {P : Bool → MS → Prop} : wp (mAnd a b env) S P E = wp (a env) S (fun c S' => if c = true then wp (b env) S' P E else P false S') E := by
  unfold mAnd
  rw [wp_bnd]
  congr 1
  funext c S'
  cases c <;> rfl
theorem wp_mOr {a b : MT} {P : Bool → MS → Prop} : wp (mOr a b env) S P E = wp (a env) S (fun c S' => if c = true then P true S' else wp (b env) S' P E) E := by
  unfold mOr
  rw [wp_bnd]
  congr 1
  funext c S'
  cases c <;> rfl
theorem wp_mNot {a : MT} {P : Bool → MS → Prop} : wp (mNot a env) S P E = wp (a env) S (fun c S' => P (!c) S') E := by
  unfold mNot
  rw [wp_bnd] <;> rfl
def isBl (P : Bool → MS → Prop) : D → MS → Prop
  | .bl b, S => P b S
  | _, _ => False
theorem isBl_bl {P : Bool → MS → Prop} {b : Bool} : isBl P (.bl b) S = P b S := propext Iff.rfl
theorem wp_mB {m : ME} {P : Bool → MS → Prop} : wp (mB m env) S P E = wp (m env) S (isBl P) E := by
  unfold mB
  rw [wp_bnd]
  congr 1
  funext d S'
  cases d <;> rfl
theorem wp_mAndV {a b : ME} : wp (mAndV a b env) S P E = wp (a env) S (isBl fun c S' => if c = true then wp (b env) S' P E else P (.bl false) S') E := by
  unfold mAndV
  rw [wp_bnd]
  congr 1
  funext d S'
  cases d with
  | bl c => cases c <;> rfl
  | _ => rfl
theorem wp_mOrV {a b : ME} : wp (mOrV a b env) S P E = wp (a env) S (isBl fun c S' => if c = true then P (.bl true) S' else wp (b env) S' P E) E := by
  unfold mOrV
  rw [wp_bnd]
  congr 1
  funext d S'
  cases d with
  | bl c => cases c <;> rfl
  | _ => rfl
theorem wp_mNotV {a : ME} : wp (mNotV a env) S P E = wp (a env) S (isBl fun c S' => P (.bl (!c)) S') E := by
  unfold mNotV
  rw [wp_bnd]
  congr 1
  funext d S'
  cases d <;> rfl
theorem wp_mChain {f g : D → D → M D} {a b c : ME} : wp (mChain f g a b c env) S P E = wp (a env) S (fun x S1 => wp (b env) S1 (fun y S2 => wp (f x y) S2 (isBl fun z S3 => if z = true then wp (c env) S3 (fun u S4 => wp (g y u) S4 P E) E else P (.bl false) S3) E) E) E := by
  unfold mChain
  rw [wp_bnd]
  congr 1
  funext x S1
  rw [wp_bnd]
  congr 1
  funext y S2
  rw [wp_bnd]
  congr 1
  funext z S3
  cases z with
  | bl b => cases b with
    | true =>
      show wp (bnd (c env) fun u => g y u) S3 P E = _
      rw [wp_bnd] <;> rfl
    | false => rfl
  | _ => rfl
def truO (S : MS) (P : Bool → MS → Prop) : Option Bool → Prop
  | some b => P b S
  | none => False
theorem truO_some {P : Bool → MS → Prop} {b : Bool} : truO S P (some b) = P b S := propext Iff.rfl
theorem wp_mTru {m : ME} {P : Bool → MS → Prop} : wp (mTru m env) S P E = wp (m env) S (fun d S' => truO S' P (truD S' d)) E := by
  unfold mTru
  rw [wp_bnd]
  congr 1
  funext d S'
  unfold wp truO
  dsimp only
  cases truD S' d <;> rfl
/-! operators on plain values -/
variable {i j : Int} {mk : List D → M D}
theorem x_addI : wp (dAdd mk (.int i) (.int j)) S P E = P (.int (i + j)) S := propext Iff.rfl
theorem x_addJ : wp (dAddI (.int i) (.int j)) S P E = P (.int (i + j)) S := propext Iff.rfl
theorem x_sub : wp (dSub (.int i) (.int j)) S P E = P (.int (i - j)) S := propext Iff.rfl
theorem x_dI {g : Int → Int → D} : wp (dI g (.int i) (.int j)) S P E = P (g i j) S := propext Iff.rfl
theorem x_dIC {c : Int → Int → Bool} {g : Int → Int → D} : wp (dIC c g (.int i) (.int j)) S P E = (c i j = true ∧ P (g i j) S) := by
  unfold dIC wp
  dsimp only
  by_cases h : c i j = true
  · rw [if_pos h]
    exact propext ⟨fun q => ⟨h, q⟩, fun q => q.2⟩
  · rw [if_neg h]
    exact propext ⟨fun q => q.elim, fun q => h q.1⟩
theorem x_mod : wp (dMod (.int i) (.int j)) S P E = (0 < j ∧ P (.int (i % j)) S) := by
  unfold dMod
  rw [x_dIC, decide_eq_true_eq]
theorem x_div : wp (dDiv (.int i) (.int j)) S P E = ((0 < j ∧ j < 1073741824) ∧ P (.int (i / j)) S) := by
  unfold dDiv
  rw [x_dIC]
  simp only [dDivC, Bool.and_eq_true, decide_eq_true_eq]
theorem x_mul : wp (dMul (.int i) (.int j)) S P E = (dMulC i j = true ∧ P (.int (i * j)) S) := x_dIC
theorem x_pow : wp (dPow (.int i) (.int j)) S P E = (dPowC i j = true ∧ P (.int (i ^ j.toNat)) S) := x_dIC
theorem x_shl : wp (dShl (.int i) (.int j)) S P E = (dPowC i j = true ∧ P (.int (i * 2 ^ j.toNat)) S) := x_dIC
theorem x_shr : wp (dShr (.int i) (.int j)) S P E = (0 ≤ j ∧ P (.int (i / 2 ^ j.toNat)) S) := by
  unfold dShr
  rw [x_dIC, decide_eq_true_eq]
theorem x_band : wp (dBand (.int i) (.int j)) S P E = P (.int (Builtin.bitAnd i j)) S := propext Iff.rfl
theorem x_bor : wp (dBor (.int i) (.int j)) S P E = P (.int (Builtin.bitOr i j)) S := propext Iff.rfl
theorem x_bxor : wp (dBxor (.int i) (.int j)) S P E = P (.int (Builtin.bitXor i j)) S := propext Iff.rfl
theorem x_lt : wp (dLt (.int i) (.int j)) S P E = P (.bl (decide (i < j))) S := propext Iff.rfl
theorem x_le : wp (dLe (.int i) (.int j)) S P E = P (.bl (decide (i ≤ j))) S := propext Iff.rfl
theorem x_gt : wp (dGt (.int i) (.int j)) S P E = P (.bl (decide (j < i))) S := propext Iff.rfl
theorem x_ge : wp (dGe (.int i) (.int j)) S P E = P (.bl (decide (j ≤ i))) S := propext Iff.rfl
theorem x_neg : wp (dNeg (.int i)) S P E = P (.int (-i)) S := propext Iff.rfl
theorem x_eqI : wp (dEq (.int i) (.int j)) S P E = P (.bl (decide (i = j))) S := propext Iff.rfl
theorem x_neI : wp (dNe (.int i) (.int j)) S P E = P (.bl (!decide (i = j))) S := propext Iff.rfl
theorem x_eqS {x y : Str} : wp (dEq (.str x) (.str y)) S P E = P (.bl (decide (x = y))) S := propext Iff.rfl
theorem x_neS {x y : Str} : wp (dNe (.str x) (.str y)) S P E = P (.bl (!decide (x = y))) S := propext Iff.rfl
theorem x_isN {d : D} : wp (dIsN d .non) S P E = P (.bl (isNon d)) S := propext Iff.rfl
theorem x_isNN {d : D} : wp (dIsNotN d .non) S P E = P (.bl (!isNon d)) S := propext Iff.rfl
theorem x_int : wp (dInt (.int i)) S P E = P (.int i) S := propext Iff.rfl
theorem x_abs : wp (dAbs (.int i)) S P E = P (.int (if i < 0 then -i else i)) S := propext Iff.rfl
theorem x_max2 : wp (dMax2 (.int i) (.int j)) S P E = P (.int (if j > i then j else i)) S := propext Iff.rfl
theorem x_min2 : wp (dMin2 (.int i) (.int j)) S P E = P (.int (if j < i then j else i)) S := propext Iff.rfl
theorem x_d1 {f : D → M D} {x : D} : wp (d1 f [x]) S P E = wp (f x) S P E := propext Iff.rfl
theorem x_d2 {f : D → D → M D} {x y : D} : wp (d2 f [x, y]) S P E = wp (f x y) S P E := propext Iff.rfl
theorem x_mkL {xs : List D} : wp (mkL xs) S P E = (Small xs.length ∧ P (.lst xs) S) := by
  unfold mkL wp
  dsimp only
  by_cases h : xs.length ≤ 16777216
  · rw [if_pos h]
    exact propext ⟨fun q => ⟨h, q⟩, fun q => q.2⟩
  · rw [if_neg h]
    exact propext ⟨fun q => q.elim, fun q => h q.1⟩
theorem x_mkT {xs : List D} : wp (mkT xs) S P E = (Small xs.length ∧ P (.tup xs) S) := by
  unfold mkT wp
  dsimp only
  by_cases h : xs.length ≤ 16777216
  · rw [if_pos h]
    exact propext ⟨fun q => ⟨h, q⟩, fun q => q.2⟩
  · rw [if_neg h]
    exact propext ⟨fun q => q.elim, fun q => h q.1⟩
theorem x_mkO {xs : List D} : wp (mkO xs) S P E = (Small xs.length ∧ P (.obj S.nx) (S.add (.lst xs))) := by
  unfold mkO wp
  dsimp only
  by_cases h : xs.length ≤ 16777216
  · rw [if_pos h]
    exact propext ⟨fun q => ⟨h, q⟩, fun q => q.2⟩
  · rw [if_neg h]
    exact propext ⟨fun q => q.elim, fun q => h q.1⟩
theorem x_mkD {kvs : List (Key × D)} : wp (mkD kvs) S P E = P (.dct kvs) S := propext Iff.rfl
theorem x_mkDo {kvs : List (Key × D)} : wp (mkDo kvs) S P E = P (.obj S.nx) (S.add (.dk kvs)) := propext Iff.rfl
/-! what stands in the store: each by what stands there -/
theorem get_set {n k : Nat} {o : MO} : (S.set n o).get k = if k = n then some o else S.get k := rfl
theorem get_same {n : Nat} {o : MO} : (S.set n o).get n = some o := if_pos rfl
theorem get_ne {n k : Nat} {o : MO} (h : k ≠ n) : (S.set n o).get k = S.get k := if_neg h
theorem get_add {k : Nat} {o : MO} : (S.add o).get k = if k = S.nx then some o else S.get k := rfl
theorem get_del {n k : Nat} : (S.del n).get k = if k = n then none else S.get k := rfl
theorem nx_set {n : Nat} {o : MO} : (S.set n o).nx = S.nx := rfl
theorem nx_add {o : MO} : (S.add o).nx = S.nx + 1 := rfl
theorem nx_del {n : Nat} : (S.del n).nx = S.nx := rfl
theorem set_set {n : Nat} {o u : MO} : (S.set n o).set n u = S.set n u := by
  unfold MS.set
  congr 1
  funext k
  by_cases h : k = n
  · rw [if_pos h, if_pos h]
  · rw [if_neg h, if_neg h]
    show (if k = n then some o else S.get k) = S.get k
    rw [if_neg h]
theorem set_id {n : Nat} {o : MO} (h : S.get n = some o) : S.set n o = S := by
  unfold MS.set
  cases S with
  | mk nx get =>
    congr 1
    funext k
    by_cases e : k = n
    · rw [if_pos e, e]; exact h.symm
    · rw [if_neg e]
def ixO (P : D → MS → Prop) (S : MS) : Option D → Prop
  | some d => P d S
  | none => False
theorem ixO_some {d : D} : ixO P S (some d) = P d S := propext Iff.rfl
def ixAt (S : MS) (x y : D) : Option D := match dctOf S x with
  | some kvs => match toKey y with
    | some k => dLook kvs k
    | none => none
  | none => match y with
    | .int i => match seqOf S x with
      | some ds => atI ds i
      | none => match x with
        | .str z => if z.length ≤ lineN then match atI z.cps.toList i with
          | some c => some (.str ⟨#[c]⟩)
          | none => none
          else none
        | _ => none
    | _ => none
theorem x_ix {x y : D} : wp (dIx x y) S P E = ixO P S (ixAt S x y) := by
  unfold dIx wp ixAt ixO
  dsimp only
  cases dctOf S x with
  | some kvs =>
    dsimp only
    cases toKey y with
    | none => rfl
    | some k =>
      dsimp only
      cases dLook kvs k <;> rfl
  | none =>
    dsimp only
    cases y with
    | int i =>
      dsimp only
      cases seqOf S x with
      | some ds =>
        dsimp only
        cases atI ds i <;> rfl
      | none =>
        dsimp only
        cases x with
        | str z =>
          dsimp only
          by_cases h : z.length ≤ lineN
          · rw [if_pos h, if_pos h]
            cases atI z.cps.toList i <;> rfl
          · rw [if_neg h, if_neg h]
        | _ => rfl
    | _ => rfl
def lenO (P : D → MS → Prop) (S : MS) : Option Int → Prop
  | some n => P (.int n) S
  | none => False
theorem lenO_some {n : Int} : lenO P S (some n) = P (.int n) S := propext Iff.rfl
theorem x_len {d : D} : wp (dLen d) S P E = lenO P S (lenB S d) := by
  unfold dLen wp lenO
  dsimp only
  cases lenB S d <;> rfl
theorem x_list {d : D} : wp (dList mk d) S P E = wpO (match dctOf S d with
    | some kvs => some (kvs.map fun kv => keyD kv.1)
    | none => seqOf S d) (fun ds => wp (mk ds) S P E) := by
  unfold dList wpO
  show wp (fun S => _) S P E = _
  unfold wp
  dsimp only
  cases dctOf S d with
  | some kvs => rfl
  | none =>
    dsimp only
    cases seqOf S d <;> rfl
theorem wpO_some {γ : Type} {a : γ} {P : γ → Prop} : wpO (some a) P = P a := propext Iff.rfl
theorem x_sl {d : D} {lo hi : Option Int} {ds : List D} (h : lstOf S d = some ds) (ht : ∀ xs, d ≠ .tup xs) (hs : ∀ z, d ≠ .str z) : wp (dSl mk d lo hi) S P E = wp (mk (cutD ds lo hi)) S P E := by
  have e : dSl mk d lo hi S = mk (cutD ds lo hi) S := by
    unfold dSl
    cases d with
    | tup xs => exact absurd rfl (ht xs)
    | str z => exact absurd rfl (hs z)
    | _ =>
      dsimp only
      rw [h]
  unfold wp
  rw [e]
theorem x_slT {ds : List D} {lo hi : Option Int} : wp (dSl mk (.tup ds) lo hi) S P E = wp (mkT (cutD ds lo hi)) S P E := propext Iff.rfl
theorem x_slL {ds : List D} {lo hi : Option Int} : wp (dSl mk (.lst ds) lo hi) S P E = wp (mk (cutD ds lo hi)) S P E := propext Iff.rfl
theorem x_addL {x y : D} {xs ys : List D} (hx : lstRd S x = some xs) (hy : lstRd S y = some ys) : wp (dAdd mk x y) S P E = wp (mk (xs ++ ys)) S P E := by
  have e : dAdd mk x y S = mk (xs ++ ys) S := by
    unfold dAdd
    cases x with
    | lst as =>
      dsimp only
      rw [hx, hy]
    | obj n =>
      dsimp only
      rw [hx, hy]
    | _ => cases hx
  unfold wp
  rw [e]
theorem x_addLL {xs ys : List D} : wp (dAdd mk (.lst xs) (.lst ys)) S P E = wp (mk (xs ++ ys)) S P E := x_addL rfl rfl
theorem x_addTT {xs ys : List D} : wp (dAdd mk (.tup xs) (.tup ys)) S P E = wp (mkT (xs ++ ys)) S P E := propext Iff.rfl
def blO (P : D → MS → Prop) (S : MS) : Option Bool → Prop
  | some b => P (.bl b) S
  | none => False
theorem blO_some {b : Bool} : blO P S (some b) = P (.bl b) S := propext Iff.rfl
theorem x_eq {x y : D} : wp (dEq x y) S P E = blO P S (dEqB S x y) := by
  unfold dEq wp blO
  dsimp only
  cases dEqB S x y <;> rfl
theorem x_ne {x y : D} : wp (dNe x y) S P E = blO P S ((dEqB S x y).map (!·)) := by
  unfold dNe wp blO
  dsimp only
  cases dEqB S x y <;> rfl
theorem x_in {x y : D} : wp (dIn x y) S P E = blO P S (dInB S x y) := by
  unfold dIn wp blO
  dsimp only
  cases dInB S x y <;> rfl
theorem x_nin {x y : D} : wp (dNotIn x y) S P E = blO P S ((dInB S x y).map (!·)) := by
  unfold dNotIn wp blO
  dsimp only
  cases dInB S x y <;> rfl
def isiO (S : MS) (d : D) (T : String) : Option Bool := match kindOf S d with
  | some k => isiB k T
  | none => none
theorem x_isi {d : D} {T : String} : wp (dIsi d (.ty T)) S P E = blO P S (isiO S d T) := by
  unfold dIsi wp blO isiO
  dsimp only
  cases kindOf S d with
  | none => rfl
  | some k =>
    dsimp only
    cases isiB k T <;> rfl
theorem isi_non_bool : isiO S .non "bool" = some false := by rfl
theorem isi_non_int : isiO S .non "int" = some false := by rfl
theorem isi_non_str : isiO S .non "str" = some false := by rfl
theorem isi_non_list : isiO S .non "list" = some false := by rfl
theorem isi_non_tuple : isiO S .non "tuple" = some false := by rfl
theorem isi_non_dict : isiO S .non "dict" = some false := by rfl
theorem isi_bl_bool {b : Bool} : isiO S (.bl b) "bool" = some true := by rfl
theorem isi_bl_int {b : Bool} : isiO S (.bl b) "int" = some true := by rfl
theorem isi_bl_str {b : Bool} : isiO S (.bl b) "str" = some false := by rfl
theorem isi_bl_list {b : Bool} : isiO S (.bl b) "list" = some false := by rfl
theorem isi_bl_tuple {b : Bool} : isiO S (.bl b) "tuple" = some false := by rfl
theorem isi_bl_dict {b : Bool} : isiO S (.bl b) "dict" = some false := by rfl
theorem isi_int_bool : isiO S (.int i) "bool" = some false := by rfl
theorem isi_int_int : isiO S (.int i) "int" = some true := by rfl
theorem isi_int_str : isiO S (.int i) "str" = some false := by rfl
theorem isi_int_list : isiO S (.int i) "list" = some false := by rfl
theorem isi_int_tuple : isiO S (.int i) "tuple" = some false := by rfl
theorem isi_int_dict : isiO S (.int i) "dict" = some false := by rfl
theorem isi_str_bool {z : Str} : isiO S (.str z) "bool" = some false := by rfl
theorem isi_str_int {z : Str} : isiO S (.str z) "int" = some false := by rfl
theorem isi_str_str {z : Str} : isiO S (.str z) "str" = some true := by rfl
theorem isi_str_list {z : Str} : isiO S (.str z) "list" = some false := by rfl
theorem isi_str_tuple {z : Str} : isiO S (.str z) "tuple" = some false := by rfl
theorem isi_str_dict {z : Str} : isiO S (.str z) "dict" = some false := by rfl
theorem isi_lst_bool {ds : List D} : isiO S (.lst ds) "bool" = some false := by rfl
theorem isi_lst_int {ds : List D} : isiO S (.lst ds) "int" = some false := by rfl
theorem isi_lst_str {ds : List D} : isiO S (.lst ds) "str" = some false := by rfl
theorem isi_lst_list {ds : List D} : isiO S (.lst ds) "list" = some true := by rfl
theorem isi_lst_tuple {ds : List D} : isiO S (.lst ds) "tuple" = some false := by rfl
theorem isi_lst_dict {ds : List D} : isiO S (.lst ds) "dict" = some false := by rfl
theorem isi_src_bool {ds : List D} : isiO S (.src ds) "bool" = some false := by rfl
theorem isi_src_int {ds : List D} : isiO S (.src ds) "int" = some false := by rfl
theorem isi_src_str {ds : List D} : isiO S (.src ds) "str" = some false := by rfl
theorem isi_src_list {ds : List D} : isiO S (.src ds) "list" = some true := by rfl
theorem isi_src_tuple {ds : List D} : isiO S (.src ds) "tuple" = some false := by rfl
theorem isi_src_dict {ds : List D} : isiO S (.src ds) "dict" = some false := by rfl
theorem isi_tup_bool {ds : List D} : isiO S (.tup ds) "bool" = some false := by rfl
theorem isi_tup_int {ds : List D} : isiO S (.tup ds) "int" = some false := by rfl
theorem isi_tup_str {ds : List D} : isiO S (.tup ds) "str" = some false := by rfl
theorem isi_tup_list {ds : List D} : isiO S (.tup ds) "list" = some false := by rfl
theorem isi_tup_tuple {ds : List D} : isiO S (.tup ds) "tuple" = some true := by rfl
theorem isi_tup_dict {ds : List D} : isiO S (.tup ds) "dict" = some false := by rfl
theorem isi_dct_bool {kvs : List (Key × D)} : isiO S (.dct kvs) "bool" = some false := by rfl
theorem isi_dct_int {kvs : List (Key × D)} : isiO S (.dct kvs) "int" = some false := by rfl
theorem isi_dct_str {kvs : List (Key × D)} : isiO S (.dct kvs) "str" = some false := by rfl
theorem isi_dct_list {kvs : List (Key × D)} : isiO S (.dct kvs) "list" = some false := by rfl
theorem isi_dct_tuple {kvs : List (Key × D)} : isiO S (.dct kvs) "tuple" = some false := by rfl
theorem isi_dct_dict {kvs : List (Key × D)} : isiO S (.dct kvs) "dict" = some true := by rfl
def tyMO : MO → Option String
  | .lst _ => some "list"
  | .ll _ => some "list"
  | .dk _ => some "dict"
  | .lk _ => some "dict"
  | .ins _ _ => none
theorem kind_obj {n : Nat} : kindOf S (.obj n) = (S.get n).bind tyMO := by
  unfold kindOf
  dsimp only
  cases S.get n with
  | none => rfl
  | some o => cases o <;> rfl
theorem kind_lst {d : D} {ds : List D} (h : lstOf S d = some ds) : kindOf S d = some "list" := by
  cases d with
  | lst _ => rfl
  | src _ => rfl
  | obj n =>
    rw [kind_obj]
    unfold lstOf at h
    dsimp only at h
    cases e : S.get n with
    | none => rw [e] at h; cases h
    | some o =>
      rw [e] at h
      cases o <;> first | rfl | cases h
  | _ => cases h
theorem isi_lst {d : D} {ds : List D} {T : String} (h : lstOf S d = some ds) : isiO S d T = isiB "list" T := by
  unfold isiO
  rw [kind_lst h]
theorem isiB_list : isiB "list" "list" = some true := by rfl
theorem isiB_list_bool : isiB "list" "bool" = some false := by rfl
theorem isiB_list_int : isiB "list" "int" = some false := by rfl
theorem isiB_list_str : isiB "list" "str" = some false := by rfl
theorem isiB_list_dict : isiB "list" "dict" = some false := by rfl
theorem isiB_list_tuple : isiB "list" "tuple" = some false := by rfl
theorem dct_lst {d : D} {ds : List D} (h : lstOf S d = some ds) : dctOf S d = none := by
  cases d with
  | lst _ => rfl
  | src _ => rfl
  | obj n =>
    unfold lstOf at h
    unfold dctOf
    dsimp only at h ⊢
    cases e : S.get n with
    | none => rfl
    | some o =>
      rw [e] at h
      cases o <;> first | rfl | cases h
  | _ => cases h
theorem seq_lst {d : D} {ds : List D} (h : lstOf S d = some ds) : seqOf S d = some ds := by
  cases d with
  | tup _ => cases h
  | _ => exact h
theorem len_lst {d : D} {ds : List D} (h : lstOf S d = some ds) : lenB S d = some (ds.length : Int) := by
  unfold lenB
  rw [dct_lst h]
  dsimp only
  rw [seq_lst h]
theorem ixAt_lst {d : D} {ds : List D} {i : Int} (h : lstOf S d = some ds) : ixAt S d (.int i) = atI ds i := by
  unfold ixAt
  rw [dct_lst h]
  dsimp only
  rw [seq_lst h]
theorem x_slD {d : D} {lo hi : Option Int} {ds : List D} (h : lstOf S d = some ds) : wp (dSl mk d lo hi) S P E = wp (mk (cutD ds lo hi)) S P E := x_sl h (fun xs e => by rw [e] at h; cases h) (fun z e => by rw [e] at h; cases h)
theorem x_listD {d : D} {ds : List D} (h : lstOf S d = some ds) : wp (dList mk d) S P E = wp (mk ds) S P E := by
  rw [x_list, dct_lst h]
  dsimp only
  rw [seq_lst h] <;> rfl
theorem wp_isiT {ts : List String} {m : ME} : wp (mIsiT ts m env) S P E = wp (m env) S (fun d S' => blO P S' (match kindOf S' d with
    | some k => isiAny k ts
    | none => none)) E := by
  unfold mIsiT
  rw [wp_bnd]
  congr 1
  funext d S'
  unfold wp blO
  dsimp only
  cases kindOf S' d with
  | none => rfl
  | some k =>
    dsimp only
    cases isiAny k ts <;> rfl
theorem x_fld {c : Cl} {k : Nat} {d : D} : wp (dFld c k d) S P E = wpO (insOf S c d) (fun nf => ixO P S nf.2[k]?) := by
  unfold dFld wp wpO ixO
  dsimp only
  cases insOf S c d with
  | none => rfl
  | some nf =>
    dsimp only
    cases nf.2[k]? <;> rfl
theorem wpS_stF {c : Cl} {k : Nat} {mo mv : ME} : wpS (mStF c k mo mv env S) R = wp (mv env) S (fun x S1 => wp (mo env) S1 (fun d S2 => wpO (stF c k d x S2) fun S3 => R (.nx env S3)) (fun e S' => R (.exc e env S'))) (fun e S' => R (.exc e env S')) := by
  unfold mStF
  rw [wpS_stE, wp_bnd]
  congr 1
  funext x S1
  rw [wp_bnd]
  congr 1
  funext d S2
  rw [wp_ret]
  unfold wpS wpO
  cases stF c k d x S2 <;> rfl
theorem wpS_augF {c : Cl} {k : Nat} {g : D → D → M D} {mo mv : ME} : wpS (mAugF c k g mo mv env S) R = wp (mo env) S (fun d S1 => wp (dFld c k d) S1 (fun x S2 => wp (mv env) S2 (fun y S3 => wp (g x y) S3 (fun z S4 => wpO (stF c k d z S4) fun S5 => R (.nx env S5)) (fun e S' => R (.exc e env S'))) (fun e S' => R (.exc e env S'))) (fun e S' => R (.exc e env S'))) (fun e S' => R (.exc e env S')) := by
  unfold mAugF
  rw [wpS_stE, wp_bnd]
  congr 1
  funext d S1
  rw [wp_bnd]
  congr 1
  funext x S2
  rw [wp_bnd]
  congr 1
  funext y S3
  rw [wp_bnd]
  congr 1
  funext z S4
  rw [wp_ret]
  unfold wpS wpO
  cases stF c k d z S4 <;> rfl
theorem wpS_augI {f : D → D → M D} {mo mi me : ME} : wpS (mAugI f mo mi me env S) R = wp (mo env) S (fun x S1 => wp (mi env) S1 (fun y S2 => wp (dGetI x y) S2 (fun old S3 => wp (me env) S3 (fun v S4 => wp (f old v) S4 (fun z S5 => wpO (dSet x y z S5) fun S6 => R (.nx env S6)) (fun e S' => R (.exc e env S'))) (fun e S' => R (.exc e env S'))) (fun e S' => R (.exc e env S'))) (fun e S' => R (.exc e env S'))) (fun e S' => R (.exc e env S')) := by
  unfold mAugI
  rw [wpS_stE, wp_bnd]
  congr 1
  funext x S1
  rw [wp_bnd]
  congr 1
  funext y S2
  rw [wp_bnd]
  congr 1
  funext o S3
  rw [wp_bnd]
  congr 1
  funext v S4
  rw [wp_bnd]
  congr 1
  funext z S5
  rw [wp_ret]
  unfold wpS wpO
  dsimp only
  cases dSet x y z S5 <;> rfl
def getIAt (S : MS) (x y : D) : Option D := match dctOf S x with
  | some kvs => match toKey y with
    | some k => dLook kvs k
    | none => none
  | none => match lstOf S x, y with
    | some es, .int i => atI es i
    | _, _ => none
theorem x_getI {x y : D} : wp (dGetI x y) S P E = ixO P S (getIAt S x y) := by
  unfold dGetI wp getIAt ixO
  dsimp only
  cases dctOf S x with
  | some kvs =>
    dsimp only
    cases toKey y with
    | none => rfl
    | some k =>
      dsimp only
      cases dLook kvs k <;> rfl
  | none =>
    dsimp only
    cases lstOf S x with
    | none => rfl
    | some es =>
      cases y with
      | int i =>
        dsimp only
        cases atI es i <;> rfl
      | _ => rfl
theorem wpS_augV {k : Nat} {f : D → D → M D} {m : ME} : wpS (mAug k f m env S) R = vO (fun x S => wp (m env) S (fun y S1 => wp (f x y) S1 (fun z S2 => R (.nx (env.set k (some z)) S2)) (fun e S' => R (.exc e env S'))) (fun e S' => R (.exc e env S'))) S env[k]? := by
  unfold mAug vO
  cases env[k]? with
  | none => rfl
  | some o =>
    cases o with
    | none => rfl
    | some x =>
      dsimp only
      rw [wpS_stE, wp_bnd] <;> rfl
theorem wpS_aug {k : Nat} {f : D → D → M D} {m : ME} {x : D} (h : env[k]? = some (some x)) : wpS (mAug k f m env S) R = wp (m env) S (fun y S1 => wp (f x y) S1 (fun z S2 => R (.nx (env.set k (some z)) S2)) (fun e S' => R (.exc e env S'))) (fun e S' => R (.exc e env S')) := by
  unfold mAug
  rw [h]
  dsimp only
  rw [wpS_stE, wp_bnd] <;> rfl
theorem wpS_drop {m : ME} : wpS (mDrop m env S) R = wp (m env) S (fun _ S' => R (.nx env S')) (fun e S' => R (.exc e env S')) := wpS_stE
theorem wpS_ret {m : ME} : wpS (mRet m env S) R = wp (m env) S (fun d S' => R (.rt d S')) (fun e S' => R (.exc e env S')) := wpS_stE
theorem wpS_retN : wpS (mRetN env S) R = R (.rt .non S) := propext Iff.rfl
theorem wpS_par {k l : Nat} {ms : MA} : wpS (mPar k l ms env S) R = wp (ms env) S (fun ds S' => wpS (match ds with
    | [d, e] => some (.nx ((env.set k (some d)).set l (some e)) S')
    | _ => none) R) (fun e S' => R (.exc e env S')) := wpS_stE
theorem wpS_par3 {k l n : Nat} {ms : MA} : wpS (mPar3 k l n ms env S) R = wp (ms env) S (fun ds S' => wpS (match ds with
    | [d, e, f] => some (.nx (((env.set k (some d)).set l (some e)).set n (some f)) S')
    | _ => none) R) (fun e S' => R (.exc e env S')) := wpS_stE
theorem wp_mMeth {c : Cl} {m : List D → M D} {mo : ME} {a : MA} : wp (mMeth c m mo a env) S P E = wp (mo env) S (fun d S1 => wpO (insOf S1 c d) fun _ => wp (a env) S1 (fun ds S2 => wp (m (d :: ds)) S2 P E) E) E := by
  unfold mMeth
  rw [wp_bnd]
  congr 1
  funext d S1
  cases e : insOf S1 c d with
  | none =>
    unfold wp
    dsimp only
    rw [e]
    rfl
  | some nf =>
    show _ = wp (a env) S1 _ E
    rw [← wp_bnd]
    unfold wp
    dsimp only
    rw [e]
theorem wp_mMake {c : Cl} {m : List D → M D} {a : MA} : wp (mMake c m a env) S P E = wp (a env) S (fun ds S1 => wp (m (.obj S1.nx :: ds)) (S1.add (.ins c [])) (fun v S2 => v = .non ∧ P (.obj S1.nx) S2) E) E := by
  unfold mMake
  rw [wp_bnd]
  congr 1
  funext ds S1
  unfold wp
  dsimp only
  cases m (.obj S1.nx :: ds) (S1.add (.ins c [])) with
  | none => rfl
  | some r =>
    cases r with
    | exc e S2 => rfl
    | ok v S2 =>
      cases v with
      | non => exact propext ⟨fun q => ⟨rfl, q⟩, fun q => q.2⟩
      | _ => exact propext ⟨fun q => q.elim, fun q => (nomatch q.1)⟩
theorem wp_mMt {T : String} {f : D → List D → M D} {mo : ME} {a : MA} : wp (mMt T f mo a env) S P E = wp (mo env) S (fun d S1 => tyD S1 T d = true ∧ wp (a env) S1 (fun ds S2 => wp (f d ds) S2 P E) E) E := by
  unfold mMt
  rw [wp_bnd]
  congr 1
  funext d S1
  by_cases h : tyD S1 T d = true
  · rw [← wp_bnd]
    unfold wp
    dsimp only
    rw [if_pos h]
    exact propext ⟨fun q => ⟨h, q⟩, fun q => q.2⟩
  · unfold wp
    dsimp only
    rw [if_neg h]
    exact propext ⟨fun q => q.elim, fun q => h q.1⟩
theorem wp_mLc {mi : MA} {g : MG} {tt : MT} {te : ME} {vs : List Nat} : wp (mLc mi g tt te vs mk env) S P E = wp (mi env) S (fun ds S1 => wp (lcM g tt te (wipeE env vs) ds) S1 (fun ys S2 => Small ys.length ∧ wp (mk ys) S2 P E) E) E := by
  unfold mLc
  rw [wp_bnd]
  congr 1
  funext ds S1
  rw [wp_bnd]
  congr 1
  funext ys S2
  by_cases h : ys.length ≤ lineN
  · rw [if_pos h]
    exact propext ⟨fun q => ⟨h, q⟩, fun q => q.2⟩
  · rw [if_neg h]
    exact propext ⟨fun q => q.elim, fun q => h q.1⟩
theorem wp_mIt {m : ME} {P : List D → MS → Prop} : wp (mIt m env) S P E = wp (m env) S (fun d S' => wpO (itAny S' d) fun ds => P ds S') E := by
  unfold mIt
  rw [wp_bnd]
  congr 1
  funext d S'
  unfold wp wpO
  dsimp only
  cases itAny S' d <;> rfl
theorem wpS_for {mi : MA} {g : MG} {b : MSt} : wpS (mFor mi g b env S) R = wp (mi env) S (fun ds S' => wpS (loopF g b ds env S') R) (fun e S' => R (.exc e env S')) := wpS_stE
def rngD1 : List D → Option (List D)
  | [.int j] => if -(2 ^ 62) ≤ j ∧ j < 2 ^ 62 then some (rngN 0 1 j.toNat) else none
  | _ => none
def rngD2 : List D → Option (List D)
  | [.int i, .int j] => if -(2 ^ 62) ≤ i ∧ i < 2 ^ 62 ∧ -(2 ^ 62) ≤ j ∧ j < 2 ^ 62 then some (rngN i 1 (j - i).toNat) else none
  | _ => none
def rngD3 : List D → Option (List D)
  | [.int i, .int j, .int c] => if c ≠ 0 ∧ c.natAbs < 1073741824 ∧ Builtin.Range.small i j c = true ∧ 0 ≤ Builtin.Range.rangeSize i j c then some (rngN i c (Builtin.Range.rangeSize i j c).toNat) else none
  | _ => none
theorem wp_range1 {ms : MA} {P : List D → MS → Prop} : wp (mRange1 ms env) S P E = wp (ms env) S (fun ds S' => wpO (rngD1 ds) fun ds => P ds S') E := by
  unfold mRange1
  rw [wp_bnd]
  congr 1
  funext ds S'
  split
  · rename_i j
    by_cases h : -(2 ^ 62) ≤ j ∧ j < 2 ^ 62
    · rw [if_pos (by simpa using h), show rngD1 [.int j] = _ from if_pos h]; rfl
    · rw [if_neg (by simpa using h), show rngD1 [.int j] = _ from if_neg h]; rfl
  · rename_i hne
    have e : rngD1 ds = none := by
      unfold rngD1
      split
      · exact (hne _ rfl).elim
      · rfl
    rw [e]; rfl
theorem wp_range2 {ms : MA} {P : List D → MS → Prop} : wp (mRange2 ms env) S P E = wp (ms env) S (fun ds S' => wpO (rngD2 ds) fun ds => P ds S') E := by
  unfold mRange2
  rw [wp_bnd]
  congr 1
  funext ds S'
  split
  · rename_i i j
    by_cases h : -(2 ^ 62) ≤ i ∧ i < 2 ^ 62 ∧ -(2 ^ 62) ≤ j ∧ j < 2 ^ 62
    · rw [if_pos (by simp only [Bool.and_eq_true, decide_eq_true_eq]; exact ⟨⟨⟨h.1, h.2.1⟩, h.2.2.1⟩, h.2.2.2⟩), show rngD2 [.int i, .int j] = _ from if_pos h]; rfl
    · rw [if_neg (by simp only [Bool.and_eq_true, decide_eq_true_eq]; exact fun z => h ⟨z.1.1.1, z.1.1.2, z.1.2, z.2⟩), show rngD2 [.int i, .int j] = _ from if_neg h]; rfl
  · rename_i hne
    have e : rngD2 ds = none := by
      unfold rngD2
      split
      · exact (hne _ _ rfl).elim
      · rfl
    rw [e]; rfl
theorem wp_range3 {ms : MA} {P : List D → MS → Prop} : wp (mRange3 ms env) S P E = wp (ms env) S (fun ds S' => wpO (rngD3 ds) fun ds => P ds S') E := by
  unfold mRange3
  rw [wp_bnd]
  congr 1
  funext ds S'
  split
  · rename_i i j c
    by_cases h : c ≠ 0 ∧ c.natAbs < 1073741824 ∧ Builtin.Range.small i j c = true ∧ 0 ≤ Builtin.Range.rangeSize i j c
    · rw [if_pos (by simp only [Bool.and_eq_true, decide_eq_true_eq]; exact ⟨⟨⟨h.1, h.2.1⟩, h.2.2.1⟩, h.2.2.2⟩), show rngD3 [.int i, .int j, .int c] = _ from if_pos h]; rfl
    · rw [if_neg (by simp only [Bool.and_eq_true, decide_eq_true_eq]; exact fun z => h ⟨z.1.1.1, z.1.1.2, z.1.2, z.2⟩), show rngD3 [.int i, .int j, .int c] = _ from if_neg h]; rfl
  · rename_i hne
    have e : rngD3 ds = none := by
      unfold rngD3
      split
      · exact (hne _ _ _ rfl).elim
      · rfl
    rw [e]; rfl
theorem wp_op {f : D → D → M D} {a b : ME} : wp (mOp f a b env) S P E = wp (a env) S (fun x S1 => wp (b env) S1 (fun y S2 => wp (f x y) S2 P E) E) E := by
  unfold mOp
  rw [wp_bnd]
  congr 1
  funext x S1
  rw [wp_bnd]
theorem wp_op1 {f : D → M D} {a : ME} : wp (mOp1 f a env) S P E = wp (a env) S (fun x S1 => wp (f x) S1 P E) E := by
  unfold mOp1
  rw [wp_bnd]
theorem wp_call {f : List D → M D} {a : MA} : wp (mCall f a env) S P E = wp (a env) S (fun x S1 => wp (f x) S1 P E) E := by
  unfold mCall
  rw [wp_bnd]
theorem wp_fn {f : List D → M D} {a : MA} : wp (mFn f a env) S P E = wp (a env) S (fun x S1 => wp (f x) S1 P E) E := by
  unfold mFn
  rw [wp_bnd]
theorem wp_nil {P : List D → MS → Prop} : wp (mNil env) S P E = P [] S := propext Iff.rfl
theorem wp_cons {a : ME} {r : MA} {P : List D → MS → Prop} : wp (mCons a r env) S P E = wp (a env) S (fun x S1 => wp (r env) S1 (fun xs S2 => P (x :: xs) S2) E) E := by
  unfold mCons
  rw [wp_bnd]
  congr 1
  funext x S1
  rw [wp_bnd] <;> rfl
theorem wp_tup {a : MA} : wp (mTup a env) S P E = wp (a env) S (fun xs S1 => wp (mkT xs) S1 P E) E := by
  unfold mTup
  rw [wp_bnd]
theorem wp_lst {a : MA} : wp (mLst a env) S P E = wp (a env) S (fun xs S1 => wp (mkL xs) S1 P E) E := by
  unfold mLst
  rw [wp_bnd]
theorem wp_obj {a : MA} : wp (mObj a env) S P E = wp (a env) S (fun xs S1 => wp (mkO xs) S1 P E) E := by
  unfold mObj
  rw [wp_bnd]
theorem wp_oNone {P : Option Int → MS → Prop} : wp (oNone env) S P E = P none S := propext Iff.rfl
def intO (P : Option Int → MS → Prop) : D → MS → Prop
  | .int i, S => P (some i) S
  | _, _ => False
theorem intO_int {P : Option Int → MS → Prop} {i : Int} : intO P (.int i) S = P (some i) S := propext Iff.rfl
theorem wp_oSome {m : ME} {P : Option Int → MS → Prop} : wp (oSome m env) S P E = wp (m env) S (intO P) E := by
  unfold oSome
  rw [wp_bnd]
  congr 1
  funext d S'
  cases d <;> rfl
theorem wp_sl {m : ME} {lo hi : MO'} : wp (mSl mk m lo hi env) S P E = wp (m env) S (fun d S1 => wp (lo env) S1 (fun l S2 => wp (hi env) S2 (fun h S3 => wp (dSl mk d l h) S3 P E) E) E) E := by
  unfold mSl
  rw [wp_bnd]
  congr 1
  funext d S1
  rw [wp_bnd]
  congr 1
  funext l S2
  rw [wp_bnd]
theorem g_nm {i : Nat} {d : D} : gNm i d env S = some (env.set i (some d), S) := rfl
theorem g_tp {n : Nat} {g : MGs} {ds : List D} : gTp n g (.tup ds) env S = if ds.length = n then g ds env S else none := rfl
theorem g_nil : gsNil [] env S = some (env, S) := rfl
theorem g_cons {g : MG} {r : MGs} {d : D} {ds : List D} : wpO (gsCons g r (d :: ds) env S) (fun z => R (.nx z.1 z.2)) = wpO (g d env S) fun z => wpO (r ds z.1 z.2) fun z => R (.nx z.1 z.2) := by
  unfold gsCons wpO
  dsimp only
  cases g d env S <;> rfl
theorem wpS_par' {k l : Nat} {a b : ME} : wpS (mPar k l (mCons a (mCons b mNil)) env S) R = wp (a env) S (fun x S1 => wp (b env) S1 (fun y S2 => R (.nx ((env.set k (some x)).set l (some y)) S2)) (fun e S' => R (.exc e env S'))) (fun e S' => R (.exc e env S')) := by
  rw [wpS_par, wp_cons]
  congr 1
  funext x S1
  rw [wp_cons] <;> rfl
theorem wpS_par3' {k l n : Nat} {a b c : ME} : wpS (mPar3 k l n (mCons a (mCons b (mCons c mNil))) env S) R = wp (a env) S (fun x S1 => wp (b env) S1 (fun y S2 => wp (c env) S2 (fun z S3 => R (.nx (((env.set k (some x)).set l (some y)).set n (some z)) S3)) (fun e S' => R (.exc e env S'))) (fun e S' => R (.exc e env S'))) (fun e S' => R (.exc e env S')) := by
  rw [wpS_par3, wp_cons]
  congr 1
  funext x S1
  rw [wp_cons]
  congr 1
  funext y S2
  rw [wp_cons] <;> rfl
theorem wpO_gIx {mo mi : ME} {d : D} {Z : En × MS → Prop} : wpO (gIx mo mi d env S) Z = wp (mo env) S (fun x S1 => wp (mi env) S1 (fun y S2 => wpO (dSet x y d S2) fun S3 => Z (env, S3)) no) no := by
  unfold gIx wp wpO
  cases mo env S with
  | none => rfl
  | some r =>
    cases r with
    | exc _ _ => rfl
    | ok x S1 =>
      dsimp only
      cases mi env S1 with
      | none => rfl
      | some r =>
        cases r with
        | exc _ _ => rfl
        | ok y S2 =>
          dsimp only
          cases dSet x y d S2 <;> rfl
/-- a place of a thing in the store -/
def ixG (o : Option MO) (i : Int) : Option D := match o with
  | some (.lst ds) => atI ds i
  | some (.ll ds) => atI ds i
  | _ => none
theorem ixAt_objI {n : Nat} {ds : List D} {i : Int} (h : S.get n = some (.lst ds)) : ixAt S (.obj n) (.int i) = atI ds i := by
  unfold ixAt dctOf seqOf lstOf
  dsimp only
  rw [h]
theorem ixAt_L {xs : List D} {i : Int} : ixAt S (.lst xs) (.int i) = atI xs i := rfl
theorem ixAt_T {xs : List D} {i : Int} : ixAt S (.tup xs) (.int i) = atI xs i := rfl
theorem ixAt_dk {n : Nat} {kvs : List (Key × D)} {x : Str} (h : S.get n = some (.dk kvs)) : ixAt S (.obj n) (.str x) = dLook kvs (.inr x) := by
  unfold ixAt dctOf
  dsimp only
  rw [h] <;> rfl
theorem ixAt_dct {kvs : List (Key × D)} {x : Str} : ixAt S (.dct kvs) (.str x) = dLook kvs (.inr x) := rfl
theorem getIAt_dk {n : Nat} {kvs : List (Key × D)} {x : Str} (h : S.get n = some (.dk kvs)) : getIAt S (.obj n) (.str x) = dLook kvs (.inr x) := by
  unfold getIAt dctOf
  dsimp only
  rw [h] <;> rfl
theorem dSet_lst {n : Nat} {ds : List D} {i : Int} {d : D} {j : Nat} (h : S.get n = some (.lst ds)) (hj : ixN ds.length i = some j) : dSet (.obj n) (.int i) d S = some (S.set n (.lst (ds.set j d))) := by
  unfold dSet
  dsimp only
  rw [h]
  dsimp only
  rw [hj]
theorem dSet_dk {n : Nat} {kvs : List (Key × D)} {x : Str} {d : D} (h : S.get n = some (.dk kvs)) (hz : kvs.length < lineN) : dSet (.obj n) (.str x) d S = some (S.set n (.dk (dPutK kvs (.inr x) d))) := by
  unfold dSet
  dsimp only
  rw [h]
  dsimp only [toKey]
  rw [if_pos hz]
theorem at_0 {a : D} {r : List D} : atI (a :: r) 0 = some a := by
  unfold atI ixN
  simp
theorem at_nat {ds : List D} {j : Nat} (h : j < ds.length) : atI ds (j : Int) = some ds[j] := by
  unfold atI
  have e : ixN ds.length (j : Int) = some j := by
    unfold ixN
    rw [if_pos (by omega), if_pos (by omega)]
    simp
  rw [e]
  simp [h]
theorem ins_obj {n : Nat} {c : Cl} {fs : List D} (h : S.get n = some (.ins c fs)) : insOf S c (.obj n) = some (n, fs) := by
  unfold insOf
  dsimp only
  rw [h]
  dsimp only
  rw [if_pos rfl]
theorem stF_obj {n i : Nat} {c : Cl} {fs fs' : List D} {x : D} (h : S.get n = some (.ins c fs)) (hs : setF fs i x = some fs') (hz : fs.length < 1000) : stF c i (.obj n) x S = some (S.set n (.ins c fs')) := by
  unfold stF
  rw [ins_obj h]
  dsimp only
  rw [hs]
  dsimp only
  rw [if_pos hz]
end
/-! loops -/
theorem loop_inv {g : MG} {b : MSt} {ds : List D} {env : En} {S : MS} {R : Fl → Prop} (Inv : Nat → En → MS → Prop) (h0 : Inv 0 env S)
    (hs : ∀ i d env S, ds[i]? = some d → Inv i env S → wpO (g d env S) fun z => wpS (b z.1 z.2) fun fl => match fl with
      | .nx e s => Inv (i + 1) e s
      | .ct e s => Inv (i + 1) e s
      | .bk e s => R (.nx e s)
      | .rt d s => R (.rt d s)
      | .exc x e s => R (.exc x e s))
    (hd : ∀ env S, Inv ds.length env S → R (.nx env S)) : wpS (loopF g b ds env S) R := by
  have key : ∀ (es : List D) (k : Nat) (env : En) (S : MS), ds.drop k = es → k + es.length = ds.length → Inv k env S → wpS (loopF g b es env S) R := by
    intro es
    induction es with
    | nil =>
      intro k env S _ hk hi
      have : k = ds.length := by simpa using hk
      subst this
      exact hd env S hi
    | cons d r ih =>
      intro k env S hk hl hi
      have hd' : ds[k]? = some d := by
        have := congrArg List.head? hk
        rw [List.head?_drop] at this
        simpa using this
      have hr : ds.drop (k + 1) = r := by
        rw [← List.drop_drop, hk]; rfl
      have h := hs k d env S hd' hi
      unfold loopF
      unfold wpO at h
      cases e1 : g d env S with
      | none => rw [e1] at h; exact h.elim
      | some z =>
        obtain ⟨env1, S1⟩ := z
        rw [e1] at h
        dsimp only at h ⊢
        cases e2 : b env1 S1 with
        | none => rw [e2] at h; exact h
        | some fl =>
          rw [e2] at h
          have hl' : k + 1 + r.length = ds.length := by simp at hl; omega
          cases fl with
          | nx e s => exact ih (k + 1) e s hr hl' h
          | ct e s => exact ih (k + 1) e s hr hl' h
          | bk e s => exact h
          | rt d s => exact h
          | exc x e s => exact h
  exact key ds 0 env S rfl (by simp) h0
theorem while_inv {t : MT} {b : MSt} {env : En} {S : MS} {R : Fl → Prop} (Inv : Nat → En → MS → Prop) (n : Nat) (hn : n < fuelN) (h0 : Inv n env S)
    (hs : ∀ n env S, Inv n env S → wp (t env) S (fun c S' => if c = true then wpS (b env S') fun fl => match fl with
      | .nx e s => ∃ m, m < n ∧ Inv m e s
      | .ct e s => ∃ m, m < n ∧ Inv m e s
      | .bk e s => R (.nx e s)
      | .rt d s => R (.rt d s)
      | .exc x e s => R (.exc x e s)
      else R (.nx env S')) (fun e S' => R (.exc e env S'))) : wpS (mWhile t b env S) R := by
  have key : ∀ (f n : Nat) (env : En) (S : MS), n < f → Inv n env S → wpS (loopW t b f env S) R := by
    intro f
    induction f with
    | zero => intro n env S h; omega
    | succ f ih =>
      intro n env S hf hi
      have h := hs n env S hi
      unfold loopW
      unfold wp at h
      cases e1 : t env S with
      | none => rw [e1] at h; exact h
      | some r =>
        rw [e1] at h
        cases r with
        | exc e S1 => exact h
        | ok c S1 =>
          cases c with
          | false => exact h
          | true =>
            dsimp only at h ⊢
            rw [if_pos rfl] at h
            cases e2 : b env S1 with
            | none => rw [e2] at h; exact h
            | some fl =>
              rw [e2] at h
              cases fl with
              | nx e s => obtain ⟨m, hm, q⟩ := h; exact ih m e s (by omega) q
              | ct e s => obtain ⟨m, hm, q⟩ := h; exact ih m e s (by omega) q
              | bk e s => exact h
              | rt d s => exact h
              | exc x e s => exact h
  exact key fuelN n env S hn h0
/-- a comprehension whose turns leave the store -/
theorem lc_pure {g : MG} {tt : MT} {te : ME} {env : En} {S : MS} {f : D → D} : ∀ {ds : List D}, (∀ d ∈ ds, ∃ env1, g d env S = some (env1, S) ∧ tt env1 S = some (.ok true S) ∧ te env1 S = some (.ok (f d) S)) → lcM g tt te env ds S = some (.ok (ds.map f) S)
  | [], _ => rfl
  | d :: r, h => by
    obtain ⟨env1, h1, h2, h3⟩ := h d List.mem_cons_self
    have ih := lc_pure (f := f) (ds := r) fun x hx => h x (List.mem_cons_of_mem _ hx)
    unfold lcM
    rw [h1]
    dsimp only
    rw [h2]
    dsimp only
    rw [h3]
    dsimp only
    rw [ih]
    rfl
/-- a comprehension by an invariant of what was made and of the store -/
theorem lc_inv {g : MG} {tt : MT} {te : ME} {env : En} {ds : List D} {S : MS} {Q : List D → MS → Prop} {E : Exn → MS → Prop} (Inv : Nat → List D → MS → Prop) (h0 : Inv 0 [] S)
    (hs : ∀ i d acc S, ds[i]? = some d → Inv i acc S → wpO (g d env S) fun z => wp (tt z.1) z.2 (fun c S1 => if c = true then wp (te z.1) S1 (fun y S2 => Inv (i + 1) (acc ++ [y]) S2) no else Inv (i + 1) acc S1) no)
    (hd : ∀ acc S, Inv ds.length acc S → Q acc S) : wp (lcM g tt te env ds) S Q E := by
  have key : ∀ (es : List D) (k : Nat) (acc : List D) (S : MS), ds.drop k = es → k + es.length = ds.length → Inv k acc S → ∃ ys S', lcM g tt te env es S = some (.ok ys S') ∧ Q (acc ++ ys) S' := by
    intro es
    induction es with
    | nil =>
      intro k acc S _ hk hi
      have : k = ds.length := by simpa using hk
      subst this
      exact ⟨[], S, rfl, by rw [List.append_nil]; exact hd acc S hi⟩
    | cons d r ih =>
      intro k acc S hk hl hi
      have hd' : ds[k]? = some d := by
        have := congrArg List.head? hk
        rw [List.head?_drop] at this
        simpa using this
      have hr : ds.drop (k + 1) = r := by
        rw [← List.drop_drop, hk]; rfl
      have hl' : k + 1 + r.length = ds.length := by simp at hl; omega
      have h := hs k d acc S hd' hi
      unfold wpO at h
      cases e1 : g d env S with
      | none => rw [e1] at h; exact h.elim
      | some z =>
        obtain ⟨env1, S1⟩ := z
        rw [e1] at h
        dsimp only at h
        obtain ⟨c, S2, e2, h2⟩ := wp_to h
        cases c with
        | false =>
          rw [if_neg Bool.false_ne_true] at h2
          obtain ⟨ys, S', e3, q⟩ := ih (k + 1) acc S2 hr hl' h2
          refine ⟨ys, S', ?_, q⟩
          unfold lcM
          rw [e1]
          dsimp only
          rw [e2]
          exact e3
        | true =>
          rw [if_pos rfl] at h2
          obtain ⟨y, S3, e3, h3⟩ := wp_to h2
          obtain ⟨ys, S', e4, q⟩ := ih (k + 1) (acc ++ [y]) S3 hr hl' h3
          refine ⟨y :: ys, S', ?_, by rw [List.append_assoc] at q; exact q⟩
          unfold lcM
          rw [e1]
          dsimp only
          rw [e2]
          dsimp only
          rw [e3]
          dsimp only
          rw [e4]
  obtain ⟨ys, S', e, q⟩ := key ds 0 [] S rfl (by simp) h0
  rw [wp_of e]
  exact q
end Mi
namespace Mi
open PySem L2
section
variable {α : Type} {S : MS} {Q : α → MS → Prop} {E : Exn → MS → Prop} {env : En} {R : Fl → Prop} {P : D → MS → Prop}
/-! ### what only reads, under a lock or not -/
theorem lkm_pure {path : List Nat} {m : ME} {v : D} (h0 : needLk S env path = false → m env S = some (.ok v S)) (h1 : ∀ n o o', refOf env S path = some n → S.get n = some o → lockOf o = some o' → m env (S.set n o') = some (.ok v (S.set n o'))) :
    mLkM path m env S = some (.ok v S) := by
  unfold mLkM
  by_cases c : needLk S env path = true
  · rw [if_pos c]
    unfold needLk at c
    unfold mLk
    cases e1 : refOf env S path with
    | none => rw [e1] at c; cases c
    | some n =>
      rw [e1] at c
      dsimp only at c ⊢
      cases e2 : S.get n with
      | none => rw [e2] at c; cases c
      | some o =>
        rw [e2] at c
        dsimp only at c ⊢
        cases o with
        | dk kvs =>
          dsimp only
          rw [h1 n _ _ e1 e2 rfl]
          dsimp only
          rw [get_same]
          dsimp only
          rw [set_set, set_id e2]
        | lst ds =>
          dsimp only
          rw [h1 n _ _ e1 e2 rfl]
          dsimp only
          rw [get_same]
          dsimp only
          rw [set_set, set_id e2]
        | _ => cases c
  · rw [if_neg c]
    exact h0 (by simpa using c)
theorem need_no {i : Nat} {d : D} {o : MO} {n : Nat} (he : env[i]? = some (some (.obj n))) (ho : S.get n = some o) (c : needLk S env [i] = false) : lockOf o = none := by
  unfold needLk refOf at c
  dsimp only at c
  rw [he] at c
  dsimp only at c
  rw [ho] at c
  dsimp only at c
  cases e : lockOf o with
  | none => rfl
  | some _ => rw [e] at c; cases c
theorem ref_i {i : Nat} {d : D} {n : Nat} (he : env[i]? = some (some d)) (h : refOf env S [i] = some n) : d = .obj n := by
  unfold refOf at h
  dsimp only at h
  rw [he] at h
  cases d <;> first | (cases h; done) | (cases h; rfl)
/-- what is read through a lock is what stood there -/
theorem it_no {i : Nat} {d : D} {ds : List D} (he : env[i]? = some (some d)) (hl : seqOf S d = some ds) (c : needLk S env [i] = false) : itAny S d = some ds := by
  cases d with
  | obj n =>
    have hl' : lstOf S (.obj n) = some ds := hl
    unfold lstOf at hl'
    unfold itAny
    dsimp only at hl' ⊢
    cases e : S.get n with
    | none => rw [e] at hl'; cases hl'
    | some o =>
      rw [e] at hl'
      have := need_no (d := .obj n) he e c
      cases o with
      | lst _ => cases this
      | ll _ => exact hl'
      | _ => cases hl'
  | lst _ => exact hl
  | src _ => exact hl
  | tup _ => exact hl
  | _ => cases hl
theorem it_lk {n : Nat} {o o' : MO} {ds : List D} (hl : seqOf S (.obj n) = some ds) (ho : S.get n = some o) (hk : lockOf o = some o') : itAny (S.set n o') (.obj n) = some ds := by
  have hl' : lstOf S (.obj n) = some ds := hl
  unfold lstOf at hl'
  dsimp only at hl'
  rw [ho] at hl'
  unfold itAny
  dsimp only
  rw [get_same]
  cases o with
  | lst _ => cases hk; exact hl'
  | _ => first | (cases hk; done) | (cases hl'; done)
theorem comp_pure {i j : Nat} {d : D} {ds : List D} {te : ME} {f : D → D} (he : env[i]? = some (some d)) (hl : seqOf S d = some ds) (hz : ds.length ≤ 16777216) (hp : ∀ x ∈ ds, ∀ S', te ((env.set j none).set j (some x)) S' = some (.ok (f x) S')) :
    mLkM [i] (mLc (mIt (mV i)) (gNm j) mYes te [j] mkL) env S = some (.ok (.lst (ds.map f)) S) := by
  have core : ∀ S', itAny S' d = some ds → mLc (mIt (mV i)) (gNm j) mYes te [j] mkL env S' = some (.ok (.lst (ds.map f)) S') := by
    intro S' hi
    have e1 : mIt (mV i) env S' = some (.ok ds S') := by
      unfold mIt
      rw [bnd_ok (m := mV i env) (a := d) (S' := S') (by unfold mV; rw [he])]
      rw [hi]
    unfold mLc
    rw [bnd_ok e1, bnd_ok (lc_pure (f := f) fun x hx => ⟨_, rfl, rfl, hp x hx S'⟩), if_pos (by rw [List.length_map]; exact hz)]
    unfold mkL
    rw [if_pos (by rw [List.length_map]; exact hz)]
  refine lkm_pure (fun c => core S (it_no he hl c)) fun n o o' h1 h2 h3 => core _ ?_
  obtain rfl := ref_i he h1
  exact it_lk hl h2 h3
/-- a loop whose turns leave the store -/
theorem lkfor_pure {i j : Nat} {d : D} {ds : List D} {b : MSt} (Inv : Nat → En → Prop) (he : env[i]? = some (some d)) (hl : seqOf S d = some ds) (h0 : Inv 0 env)
    (hs : ∀ k x env S', ds[k]? = some x → Inv k env → wpS (b (env.set j (some x)) S') fun fl => ∃ e, fl = .nx e S' ∧ Inv (k + 1) e) (hd : ∀ env, Inv ds.length env → R (.nx env S)) :
    wpS (mLkSM [i] (mFor (mIt (mV i)) (gNm j) b) env S) R := by
  have core : ∀ S', itAny S' d = some ds → wpS (mFor (mIt (mV i)) (gNm j) b env S') fun fl => ∃ e, fl = .nx e S' ∧ Inv ds.length e := by
    intro S' hi
    rw [wpS_for, wp_mIt, wp_v, he]
    show wpO (itAny S' d) _
    rw [hi]
    refine loop_inv (fun k e s => s = S' ∧ Inv k e) ⟨rfl, h0⟩ ?_ fun e s ⟨q1, q2⟩ => ⟨e, by rw [q1], q2⟩
    rintro k x e s hx ⟨rfl, hinv⟩
    have z := hs k x e s hx hinv
    show wpS (b (e.set j (some x)) s) _
    unfold wpS at z ⊢
    cases q : b (e.set j (some x)) s with
    | none => rw [q] at z; exact z
    | some fl =>
      rw [q] at z
      obtain ⟨e', rfl, h⟩ := z
      exact ⟨rfl, h⟩
  unfold mLkSM
  by_cases c : needLk S env [i] = true
  · rw [if_pos c]
    unfold needLk at c
    unfold mLkS
    cases e1 : refOf env S [i] with
    | none => rw [e1] at c; cases c
    | some n =>
      rw [e1] at c
      dsimp only at c ⊢
      cases e2 : S.get n with
      | none => rw [e2] at c; cases c
      | some o =>
        rw [e2] at c
        dsimp only at c ⊢
        cases e3 : lockOf o with
        | none => rw [e3] at c; cases c
        | some o' =>
          dsimp only
          obtain rfl := ref_i he e1
          have z := core (S.set n o') (it_lk hl e2 e3)
          unfold wpS at z ⊢
          cases q : mFor (mIt (mV i)) (gNm j) b env (S.set n o') with
          | none => rw [q] at z; exact z.elim
          | some fl =>
            rw [q] at z
            obtain ⟨e', rfl, h⟩ := z
            have hu : unS n (S.set n o') = some S := by
              unfold unS
              rw [get_same]
              dsimp only
              cases o with
              | lst _ => cases e3; dsimp only [unlockOf]; rw [set_set, set_id e2]
              | dk _ => cases e3; dsimp only [unlockOf]; rw [set_set, set_id e2]
              | _ => cases e3
            dsimp only
            rw [hu]
            exact hd e' h
  · rw [if_neg c]
    have z := core S (it_no he hl (by simpa using c))
    unfold wpS at z ⊢
    cases q : mFor (mIt (mV i)) (gNm j) b env S with
    | none => rw [q] at z; exact z
    | some fl =>
      rw [q] at z
      obtain ⟨e', rfl, h⟩ := z
      exact hd e' h
theorem blsOf_map {ds : List D} {f : D → D} {g : D → Bool} (h : ∀ d ∈ ds, f d = .bl (g d)) : blsOf (ds.map f) = some (ds.map g) := by
  induction ds with
  | nil => rfl
  | cons d r ih =>
    rw [List.map_cons, h d List.mem_cons_self]
    show (blsOf (r.map f)).map (g d :: ·) = _
    rw [ih fun x hx => h x (List.mem_cons_of_mem _ hx)] <;> rfl
theorem x_all {ds : List D} {bs : List Bool} (h : blsOf ds = some bs) : wp (dAll (.lst ds)) S P E = P (.bl (bs.all id)) S := by
  unfold dAll dBls wp
  dsimp only [lstOf]
  rw [h]
theorem x_any {ds : List D} {bs : List Bool} (h : blsOf ds = some bs) : wp (dAny (.lst ds)) S P E = P (.bl (bs.any id)) S := by
  unfold dAny dBls wp
  dsimp only [lstOf]
  rw [h]
end
end Mi
/-! MiR: the words that every law brings: its draws, its comparison. -/
namespace Mi
open PySem L2
section
variable {S : MS} {Q : D → MS → Prop} {E : Exn → MS → Prop} {R : Fl → Prop}
theorem at4 {a b c d : D} : atI [a, b, c, d] 0 = some a ∧ atI [a, b, c, d] 1 = some b ∧ atI [a, b, c, d] 2 = some c ∧ atI [a, b, c, d] 3 = some d := ⟨rfl, rfl, rfl, rfl⟩
theorem ds2 {n : Nat} {a b c e d : D} (h : S.get n = some (.lst [a, b, c, e])) : dSet (.obj n) (.int 2) d S = some (S.set n (.lst [a, b, d, e])) := dSet_lst (j := 2) h rfl
theorem ds3 {n : Nat} {a b c e d : D} (h : S.get n = some (.lst [a, b, c, e])) : dSet (.obj n) (.int 3) d S = some (S.set n (.lst [a, b, c, d])) := dSet_lst (j := 3) h rfl
def bDraws : MSt :=
  (mRet (mObj (mCons (mFn (d1 (dList mkL)) (mCons (mV 0) mNil)) (mCons (mK (.int 0)) (mCons (mK (.int 0)) (mCons (mK (.int 1)) mNil))))))
def mDraws : List D → M D := runB 1 1 bDraws
def bDraw : MSt :=
  (mSeq (mIfS (mAnd (mB (mOp dEq (mOp dIx (mV 0) (mK (.int 2))) (mK (.int 0)))) (mB (mOp dLt (mOp dIx (mV 0) (mK (.int 1))) (mFn (d1 dLen) (mCons (mOp dIx (mV 0) (mK (.int 0))) mNil))))) (mSeq (mAsg (mOp dIx (mOp dIx (mV 0) (mK (.int 0))) (mOp dIx (mV 0) (mK (.int 1)))) (gNm 2))
  (mSeq (mAsg (mOp (dAdd mkL) (mOp dIx (mV 0) (mK (.int 1))) (mK (.int 1))) (gIx (mV 0) (mK (.int 1))))
  (mSeq (mIfS (mB (mOp dGe (mV 2) (mOp dPow (mK (.int 10)) (mK (.int 18))))) (mAsg (mV 2) (gIx (mV 0) (mK (.int 2)))) mNx)
  (mAsg (mOp dMod (mFn (d1 dInt) (mCons (mOp (dAdd mkL) (mOp (dAdd mkL) (mOp dMul (mOp dIx (mV 0) (mK (.int 3))) (mK (.int 48271))) (mV 2)) (mK (.int 13))) mNil)) (mK (.int 2147483647))) (gIx (mV 0) (mK (.int 3))))))) mNx)
  (mSeq (mIfS (mB (mOp dGt (mOp dIx (mV 0) (mK (.int 2))) (mK (.int 0)))) (mSeq (mAsg (mOp dMod (mFn (d1 dInt) (mCons (mOp dIx (mV 0) (mK (.int 2))) mNil)) (mV 1)) (gNm 3))
  (mSeq (mAsg (mOp dDiv (mOp dIx (mV 0) (mK (.int 2))) (mV 1)) (gIx (mV 0) (mK (.int 2))))
  (mRet (mV 3)))) mNx)
  (mSeq (mAsg (mOp dMod (mFn (d1 dInt) (mCons (mOp (dAdd mkL) (mOp dMul (mOp dIx (mV 0) (mK (.int 3))) (mK (.int 69621))) (mK (.int 7))) mNil)) (mK (.int 2147483629))) (gIx (mV 0) (mK (.int 3))))
  (mRet (mOp dMod (mFn (d1 dInt) (mCons (mOp dDiv (mOp dIx (mV 0) (mK (.int 3))) (mK (.int 11))) mNil)) (mV 1))))))
def mDraw : List D → M D := runB 4 2 bDraw
/-- what the draws' list holds -/
structure DrL (ds : List D) : Prop where
  ex : ∃ (ns : List Int) (i b r : Int), ds = [.lst (ns.map D.int), .int i, .int b, .int r] ∧ 0 ≤ i ∧ 0 ≤ b ∧ 0 ≤ r ∧ r < 2147483648
def DrO (S : MS) (n : Nat) : Prop := ∃ ds, S.get n = some (.lst ds) ∧ DrL ds
/-- only n was changed, and draws still stand there -/
structure Dr (n : Nat) (S S' : MS) : Prop where
  dr : DrO S' n
  nx : S'.nx = S.nx
  ne : ∀ k, k ≠ n → S'.get k = S.get k
theorem Dr.of_set {n : Nat} {o : MO} {S S' : MS} (h : Dr n (S.set n o) S') : Dr n S S' := ⟨h.dr, h.nx, fun k hk => (h.ne k hk).trans (get_ne hk)⟩
theorem Dr.trans {n : Nat} {S1 S2 S3 : MS} (a : Dr n S1 S2) (b : Dr n S2 S3) : Dr n S1 S3 := ⟨b.dr, b.nx.trans a.nx, fun k hk => (b.ne k hk).trans (a.ne k hk)⟩
theorem Dr.rfl' {n : Nat} {S : MS} (h : DrO S n) : Dr n S S := ⟨h, rfl, fun _ _ => rfl⟩
theorem dPowC_10 : dPowC 10 18 = true := by decide
theorem mul_small {i j : Int} (h : -(2 ^ 64) < j) (h2 : j < 2 ^ 64) : dMulC i j = true := by
  unfold dMulC
  simp only [Bool.or_eq_true, Bool.and_eq_true, decide_eq_true_eq]
  exact .inr ⟨h, h2⟩
theorem second {n : Nat} {lim i b r : Int} {ns : List Int} {x2 : Option D} (h : S.get n = some (.lst [.lst (ns.map D.int), .int i, .int b, .int r])) (h0 : 0 < lim) (h1 : lim < 1073741824) (hi : 0 ≤ i) (hb : 0 ≤ b) (hr : 0 ≤ r) (hr2 : r < 2147483648)
    (k : ∀ v S', 0 ≤ v → v < lim → Dr n S S' → Q (.int v) S') : wpS (mSeq (mIfS (mB (mOp dGt (mOp dIx (mV 0) (mK (.int 2))) (mK (.int 0)))) (mSeq (mAsg (mOp dMod (mFn (d1 dInt) (mCons (mOp dIx (mV 0) (mK (.int 2))) mNil)) (mV 1)) (gNm 3))
  (mSeq (mAsg (mOp dDiv (mOp dIx (mV 0) (mK (.int 2))) (mV 1)) (gIx (mV 0) (mK (.int 2))))
  (mRet (mV 3)))) mNx)
  (mSeq (mAsg (mOp dMod (mFn (d1 dInt) (mCons (mOp (dAdd mkL) (mOp dMul (mOp dIx (mV 0) (mK (.int 3))) (mK (.int 69621))) (mK (.int 7))) mNil)) (mK (.int 2147483629))) (gIx (mV 0) (mK (.int 3))))
  (mRet (mOp dMod (mFn (d1 dInt) (mCons (mOp dDiv (mOp dIx (mV 0) (mK (.int 3))) (mK (.int 11))) mNil)) (mV 1)))) [some (.obj n), some (.int lim), x2, none] S) (fin Q E) := by
  simp only [wpS_seq, wpS_gNm, wpS_asg, wpS_ifS, wpS_drop, wpS_ret, wpS_retN, wpS_stF, wpS_augF, wpS_augI, wpS_augV, wpS_par', wpS_par3', wpS_some, wpS_mNx, wpS_mCt, wpS_mBk, kont_rt, kont_ct, kont_bk, fin_rt, fin_nx, wp_mK, wp_v, vO_some, wp_ret, wp_bnd, wp_op, wp_op1, wp_call, wp_fn, wp_cons, wp_nil, wp_tup, wp_lst, wp_obj, wp_oNone, wp_oSome, intO_int, wp_sl, wp_mIf, wp_mAnd, wp_mOr, wp_mNot, wp_mB, wp_mAndV, wp_mOrV, wp_mNotV, wp_mChain, wp_mTru, isBl_bl, truO_some, x_addI, x_addJ, x_sub, x_mod, x_div, x_mul, x_pow, x_shl, x_shr, x_band, x_bor, x_bxor, x_lt, x_le, x_gt, x_ge, x_neg, x_eqI, x_neI, x_eqS, x_neS, x_isN, x_isNN, x_int, x_abs, x_max2, x_min2, x_d1, x_d2, x_mkL, x_mkT, x_mkO, x_mkD, x_mkDo, x_ix, ixO_some, x_len, lenO_some, x_list, wpO_some, x_slT, x_slL, x_addLL, x_addTT, blO_some, x_isi, wp_isiT, x_fld, x_getI, wp_mMeth, wp_mMake, wp_mMt, wp_mLc, wp_mIt, wp_range1, wp_range2, wp_range3, wpS_for, isi_non_bool, isi_non_int, isi_non_str, isi_non_list, isi_non_tuple, isi_non_dict, isi_bl_bool, isi_bl_int, isi_bl_str, isi_bl_list, isi_bl_tuple, isi_bl_dict, isi_int_bool, isi_int_int, isi_int_str, isi_int_list, isi_int_tuple, isi_int_dict, isi_str_bool, isi_str_int, isi_str_str, isi_str_list, isi_str_tuple, isi_str_dict, isi_lst_bool, isi_lst_int, isi_lst_str, isi_lst_list, isi_lst_tuple, isi_lst_dict, isi_src_bool, isi_src_int, isi_src_str, isi_src_list, isi_src_tuple, isi_src_dict, isi_tup_bool, isi_tup_int, isi_tup_str, isi_tup_list, isi_tup_tuple, isi_tup_dict, isi_dct_bool, isi_dct_int, isi_dct_str, isi_dct_list, isi_dct_tuple, isi_dct_dict, g_nm, g_tp, g_nil, g_cons, List.getElem?_cons_succ, List.getElem?_cons_zero, List.set_cons_succ, List.set_cons_zero, truD, ixAt_objI h, at4, decide_eq_true_eq]
  by_cases c : 0 < b
  · rw [if_pos c]
    refine ⟨h0, ?_⟩
    refine kont_nx ?_
    simp only [wpS_seq, wpS_gNm, wpS_asg, wpS_ifS, wpS_drop, wpS_ret, wpS_retN, wpS_stF, wpS_augF, wpS_augI, wpS_augV, wpS_par', wpS_par3', wpS_some, wpS_mNx, wpS_mCt, wpS_mBk, kont_rt, kont_ct, kont_bk, fin_rt, fin_nx, wp_mK, wp_v, vO_some, wp_ret, wp_bnd, wp_op, wp_op1, wp_call, wp_fn, wp_cons, wp_nil, wp_tup, wp_lst, wp_obj, wp_oNone, wp_oSome, intO_int, wp_sl, wp_mIf, wp_mAnd, wp_mOr, wp_mNot, wp_mB, wp_mAndV, wp_mOrV, wp_mNotV, wp_mChain, wp_mTru, isBl_bl, truO_some, x_addI, x_addJ, x_sub, x_mod, x_div, x_mul, x_pow, x_shl, x_shr, x_band, x_bor, x_bxor, x_lt, x_le, x_gt, x_ge, x_neg, x_eqI, x_neI, x_eqS, x_neS, x_isN, x_isNN, x_int, x_abs, x_max2, x_min2, x_d1, x_d2, x_mkL, x_mkT, x_mkO, x_mkD, x_mkDo, x_ix, ixO_some, x_len, lenO_some, x_list, wpO_some, x_slT, x_slL, x_addLL, x_addTT, blO_some, x_isi, wp_isiT, x_fld, x_getI, wp_mMeth, wp_mMake, wp_mMt, wp_mLc, wp_mIt, wp_range1, wp_range2, wp_range3, wpS_for, isi_non_bool, isi_non_int, isi_non_str, isi_non_list, isi_non_tuple, isi_non_dict, isi_bl_bool, isi_bl_int, isi_bl_str, isi_bl_list, isi_bl_tuple, isi_bl_dict, isi_int_bool, isi_int_int, isi_int_str, isi_int_list, isi_int_tuple, isi_int_dict, isi_str_bool, isi_str_int, isi_str_str, isi_str_list, isi_str_tuple, isi_str_dict, isi_lst_bool, isi_lst_int, isi_lst_str, isi_lst_list, isi_lst_tuple, isi_lst_dict, isi_src_bool, isi_src_int, isi_src_str, isi_src_list, isi_src_tuple, isi_src_dict, isi_tup_bool, isi_tup_int, isi_tup_str, isi_tup_list, isi_tup_tuple, isi_tup_dict, isi_dct_bool, isi_dct_int, isi_dct_str, isi_dct_list, isi_dct_tuple, isi_dct_dict, g_nm, g_tp, g_nil, g_cons, List.getElem?_cons_succ, List.getElem?_cons_zero, List.set_cons_succ, List.set_cons_zero, truD, ixAt_objI h, at4, wpO_gIx, dSet_lst (i := 2) (j := 2) h rfl, List.set_cons_succ, List.set_cons_zero]
    refine ⟨⟨h0, h1⟩, kont_nx ?_⟩
    simp only [wpS_seq, wpS_gNm, wpS_asg, wpS_ifS, wpS_drop, wpS_ret, wpS_retN, wpS_stF, wpS_augF, wpS_augI, wpS_augV, wpS_par', wpS_par3', wpS_some, wpS_mNx, wpS_mCt, wpS_mBk, kont_rt, kont_ct, kont_bk, fin_rt, fin_nx, wp_mK, wp_v, vO_some, wp_ret, wp_bnd, wp_op, wp_op1, wp_call, wp_fn, wp_cons, wp_nil, wp_tup, wp_lst, wp_obj, wp_oNone, wp_oSome, intO_int, wp_sl, wp_mIf, wp_mAnd, wp_mOr, wp_mNot, wp_mB, wp_mAndV, wp_mOrV, wp_mNotV, wp_mChain, wp_mTru, isBl_bl, truO_some, x_addI, x_addJ, x_sub, x_mod, x_div, x_mul, x_pow, x_shl, x_shr, x_band, x_bor, x_bxor, x_lt, x_le, x_gt, x_ge, x_neg, x_eqI, x_neI, x_eqS, x_neS, x_isN, x_isNN, x_int, x_abs, x_max2, x_min2, x_d1, x_d2, x_mkL, x_mkT, x_mkO, x_mkD, x_mkDo, x_ix, ixO_some, x_len, lenO_some, x_list, wpO_some, x_slT, x_slL, x_addLL, x_addTT, blO_some, x_isi, wp_isiT, x_fld, x_getI, wp_mMeth, wp_mMake, wp_mMt, wp_mLc, wp_mIt, wp_range1, wp_range2, wp_range3, wpS_for, isi_non_bool, isi_non_int, isi_non_str, isi_non_list, isi_non_tuple, isi_non_dict, isi_bl_bool, isi_bl_int, isi_bl_str, isi_bl_list, isi_bl_tuple, isi_bl_dict, isi_int_bool, isi_int_int, isi_int_str, isi_int_list, isi_int_tuple, isi_int_dict, isi_str_bool, isi_str_int, isi_str_str, isi_str_list, isi_str_tuple, isi_str_dict, isi_lst_bool, isi_lst_int, isi_lst_str, isi_lst_list, isi_lst_tuple, isi_lst_dict, isi_src_bool, isi_src_int, isi_src_str, isi_src_list, isi_src_tuple, isi_src_dict, isi_tup_bool, isi_tup_int, isi_tup_str, isi_tup_list, isi_tup_tuple, isi_tup_dict, isi_dct_bool, isi_dct_int, isi_dct_str, isi_dct_list, isi_dct_tuple, isi_dct_dict, g_nm, g_tp, g_nil, g_cons, List.getElem?_cons_succ, List.getElem?_cons_zero, List.set_cons_succ, List.set_cons_zero, truD]
    refine k _ _ (Int.emod_nonneg _ (by omega)) (Int.emod_lt_of_pos _ h0) ⟨⟨_, get_same, ⟨ns, i, b / lim, r, rfl, hi, Int.ediv_nonneg hb (by omega), hr, hr2⟩⟩, rfl, fun k hk => get_ne hk⟩
  · rw [if_neg c]
    refine kont_nx ?_
    simp only [wpS_seq, wpS_gNm, wpS_asg, wpS_ifS, wpS_drop, wpS_ret, wpS_retN, wpS_stF, wpS_augF, wpS_augI, wpS_augV, wpS_par', wpS_par3', wpS_some, wpS_mNx, wpS_mCt, wpS_mBk, kont_rt, kont_ct, kont_bk, fin_rt, fin_nx, wp_mK, wp_v, vO_some, wp_ret, wp_bnd, wp_op, wp_op1, wp_call, wp_fn, wp_cons, wp_nil, wp_tup, wp_lst, wp_obj, wp_oNone, wp_oSome, intO_int, wp_sl, wp_mIf, wp_mAnd, wp_mOr, wp_mNot, wp_mB, wp_mAndV, wp_mOrV, wp_mNotV, wp_mChain, wp_mTru, isBl_bl, truO_some, x_addI, x_addJ, x_sub, x_mod, x_div, x_mul, x_pow, x_shl, x_shr, x_band, x_bor, x_bxor, x_lt, x_le, x_gt, x_ge, x_neg, x_eqI, x_neI, x_eqS, x_neS, x_isN, x_isNN, x_int, x_abs, x_max2, x_min2, x_d1, x_d2, x_mkL, x_mkT, x_mkO, x_mkD, x_mkDo, x_ix, ixO_some, x_len, lenO_some, x_list, wpO_some, x_slT, x_slL, x_addLL, x_addTT, blO_some, x_isi, wp_isiT, x_fld, x_getI, wp_mMeth, wp_mMake, wp_mMt, wp_mLc, wp_mIt, wp_range1, wp_range2, wp_range3, wpS_for, isi_non_bool, isi_non_int, isi_non_str, isi_non_list, isi_non_tuple, isi_non_dict, isi_bl_bool, isi_bl_int, isi_bl_str, isi_bl_list, isi_bl_tuple, isi_bl_dict, isi_int_bool, isi_int_int, isi_int_str, isi_int_list, isi_int_tuple, isi_int_dict, isi_str_bool, isi_str_int, isi_str_str, isi_str_list, isi_str_tuple, isi_str_dict, isi_lst_bool, isi_lst_int, isi_lst_str, isi_lst_list, isi_lst_tuple, isi_lst_dict, isi_src_bool, isi_src_int, isi_src_str, isi_src_list, isi_src_tuple, isi_src_dict, isi_tup_bool, isi_tup_int, isi_tup_str, isi_tup_list, isi_tup_tuple, isi_tup_dict, isi_dct_bool, isi_dct_int, isi_dct_str, isi_dct_list, isi_dct_tuple, isi_dct_dict, g_nm, g_tp, g_nil, g_cons, List.getElem?_cons_succ, List.getElem?_cons_zero, List.set_cons_succ, List.set_cons_zero, truD, ixAt_objI h, at4, wpO_gIx, dSet_lst (i := 3) (j := 3) h rfl, List.set_cons_succ, List.set_cons_zero]
    refine ⟨mul_small (by decide) (by decide), by decide, kont_nx ?_⟩
    · simp only [wpS_seq, wpS_gNm, wpS_asg, wpS_ifS, wpS_drop, wpS_ret, wpS_retN, wpS_stF, wpS_augF, wpS_augI, wpS_augV, wpS_par', wpS_par3', wpS_some, wpS_mNx, wpS_mCt, wpS_mBk, kont_rt, kont_ct, kont_bk, fin_rt, fin_nx, wp_mK, wp_v, vO_some, wp_ret, wp_bnd, wp_op, wp_op1, wp_call, wp_fn, wp_cons, wp_nil, wp_tup, wp_lst, wp_obj, wp_oNone, wp_oSome, intO_int, wp_sl, wp_mIf, wp_mAnd, wp_mOr, wp_mNot, wp_mB, wp_mAndV, wp_mOrV, wp_mNotV, wp_mChain, wp_mTru, isBl_bl, truO_some, x_addI, x_addJ, x_sub, x_mod, x_div, x_mul, x_pow, x_shl, x_shr, x_band, x_bor, x_bxor, x_lt, x_le, x_gt, x_ge, x_neg, x_eqI, x_neI, x_eqS, x_neS, x_isN, x_isNN, x_int, x_abs, x_max2, x_min2, x_d1, x_d2, x_mkL, x_mkT, x_mkO, x_mkD, x_mkDo, x_ix, ixO_some, x_len, lenO_some, x_list, wpO_some, x_slT, x_slL, x_addLL, x_addTT, blO_some, x_isi, wp_isiT, x_fld, x_getI, wp_mMeth, wp_mMake, wp_mMt, wp_mLc, wp_mIt, wp_range1, wp_range2, wp_range3, wpS_for, isi_non_bool, isi_non_int, isi_non_str, isi_non_list, isi_non_tuple, isi_non_dict, isi_bl_bool, isi_bl_int, isi_bl_str, isi_bl_list, isi_bl_tuple, isi_bl_dict, isi_int_bool, isi_int_int, isi_int_str, isi_int_list, isi_int_tuple, isi_int_dict, isi_str_bool, isi_str_int, isi_str_str, isi_str_list, isi_str_tuple, isi_str_dict, isi_lst_bool, isi_lst_int, isi_lst_str, isi_lst_list, isi_lst_tuple, isi_lst_dict, isi_src_bool, isi_src_int, isi_src_str, isi_src_list, isi_src_tuple, isi_src_dict, isi_tup_bool, isi_tup_int, isi_tup_str, isi_tup_list, isi_tup_tuple, isi_tup_dict, isi_dct_bool, isi_dct_int, isi_dct_str, isi_dct_list, isi_dct_tuple, isi_dct_dict, g_nm, g_tp, g_nil, g_cons, List.getElem?_cons_succ, List.getElem?_cons_zero, List.set_cons_succ, List.set_cons_zero, truD, ixAt_objI get_same, at4]
      have q1 : 0 ≤ (r * 69621 + 7) % 2147483629 := Int.emod_nonneg _ (by decide)
      have q2 : (r * 69621 + 7) % 2147483629 < 2147483629 := Int.emod_lt_of_pos _ (by decide)
      refine ⟨⟨by decide, by decide⟩, h0, ?_⟩
      exact k _ _ (Int.emod_nonneg _ (by omega)) (Int.emod_lt_of_pos _ h0) ⟨⟨_, get_same, ⟨ns, i, b, _, rfl, hi, hb, q1, by omega⟩⟩, rfl, fun k hk => get_ne hk⟩
theorem draw_at {n : Nat} {lim : Int} (h : DrO S n) (h0 : 0 < lim) (h1 : lim < 1073741824) (k : ∀ v S', 0 ≤ v → v < lim → Dr n S S' → Q (.int v) S') : wp (mDraw [.obj n, .int lim]) S Q E := by
  obtain ⟨_, h, ns, i, b, r, rfl, hi, hb, hr, hr2⟩ := h
  have e : wp (mDraw [.obj n, .int lim]) S Q E = wpS (bDraw [some (.obj n), some (.int lim), none, none] S) (fin Q E) := wp_runB (ds := [.obj n, .int lim]) rfl
  rw [e]
  unfold bDraw
  simp only [wpS_seq, wpS_gNm, wpS_asg, wpS_ifS, wpS_drop, wpS_ret, wpS_retN, wpS_stF, wpS_augF, wpS_augI, wpS_augV, wpS_par', wpS_par3', wpS_some, wpS_mNx, wpS_mCt, wpS_mBk, kont_rt, kont_ct, kont_bk, fin_rt, fin_nx, wp_mK, wp_v, vO_some, wp_ret, wp_bnd, wp_op, wp_op1, wp_call, wp_fn, wp_cons, wp_nil, wp_tup, wp_lst, wp_obj, wp_oNone, wp_oSome, intO_int, wp_sl, wp_mIf, wp_mAnd, wp_mOr, wp_mNot, wp_mB, wp_mAndV, wp_mOrV, wp_mNotV, wp_mChain, wp_mTru, isBl_bl, truO_some, x_addI, x_addJ, x_sub, x_mod, x_div, x_mul, x_pow, x_shl, x_shr, x_band, x_bor, x_bxor, x_lt, x_le, x_gt, x_ge, x_neg, x_eqI, x_neI, x_eqS, x_neS, x_isN, x_isNN, x_int, x_abs, x_max2, x_min2, x_d1, x_d2, x_mkL, x_mkT, x_mkO, x_mkD, x_mkDo, x_ix, ixO_some, x_len, lenO_some, x_list, wpO_some, x_slT, x_slL, x_addLL, x_addTT, blO_some, x_isi, wp_isiT, x_fld, x_getI, wp_mMeth, wp_mMake, wp_mMt, wp_mLc, wp_mIt, wp_range1, wp_range2, wp_range3, wpS_for, isi_non_bool, isi_non_int, isi_non_str, isi_non_list, isi_non_tuple, isi_non_dict, isi_bl_bool, isi_bl_int, isi_bl_str, isi_bl_list, isi_bl_tuple, isi_bl_dict, isi_int_bool, isi_int_int, isi_int_str, isi_int_list, isi_int_tuple, isi_int_dict, isi_str_bool, isi_str_int, isi_str_str, isi_str_list, isi_str_tuple, isi_str_dict, isi_lst_bool, isi_lst_int, isi_lst_str, isi_lst_list, isi_lst_tuple, isi_lst_dict, isi_src_bool, isi_src_int, isi_src_str, isi_src_list, isi_src_tuple, isi_src_dict, isi_tup_bool, isi_tup_int, isi_tup_str, isi_tup_list, isi_tup_tuple, isi_tup_dict, isi_dct_bool, isi_dct_int, isi_dct_str, isi_dct_list, isi_dct_tuple, isi_dct_dict, g_nm, g_tp, g_nil, g_cons, List.getElem?_cons_succ, List.getElem?_cons_zero, List.set_cons_succ, List.set_cons_zero, truD, ixAt_objI h, at4, decide_eq_true_eq, lenB, dctOf, seqOf, lstOf, List.length_map]
  by_cases c : b = 0
  · rw [if_pos c]
    by_cases c2 : i < (ns.length : Int)
    · rw [if_pos c2]
      obtain ⟨j, rfl⟩ := Int.eq_ofNat_of_zero_le hi
      have hj : j < ns.length := by omega
      simp only [wpS_seq, wpS_gNm, wpS_asg, wpS_ifS, wpS_drop, wpS_ret, wpS_retN, wpS_stF, wpS_augF, wpS_augI, wpS_augV, wpS_par', wpS_par3', wpS_some, wpS_mNx, wpS_mCt, wpS_mBk, kont_rt, kont_ct, kont_bk, fin_rt, fin_nx, wp_mK, wp_v, vO_some, wp_ret, wp_bnd, wp_op, wp_op1, wp_call, wp_fn, wp_cons, wp_nil, wp_tup, wp_lst, wp_obj, wp_oNone, wp_oSome, intO_int, wp_sl, wp_mIf, wp_mAnd, wp_mOr, wp_mNot, wp_mB, wp_mAndV, wp_mOrV, wp_mNotV, wp_mChain, wp_mTru, isBl_bl, truO_some, x_addI, x_addJ, x_sub, x_mod, x_div, x_mul, x_pow, x_shl, x_shr, x_band, x_bor, x_bxor, x_lt, x_le, x_gt, x_ge, x_neg, x_eqI, x_neI, x_eqS, x_neS, x_isN, x_isNN, x_int, x_abs, x_max2, x_min2, x_d1, x_d2, x_mkL, x_mkT, x_mkO, x_mkD, x_mkDo, x_ix, ixO_some, x_len, lenO_some, x_list, wpO_some, x_slT, x_slL, x_addLL, x_addTT, blO_some, x_isi, wp_isiT, x_fld, x_getI, wp_mMeth, wp_mMake, wp_mMt, wp_mLc, wp_mIt, wp_range1, wp_range2, wp_range3, wpS_for, isi_non_bool, isi_non_int, isi_non_str, isi_non_list, isi_non_tuple, isi_non_dict, isi_bl_bool, isi_bl_int, isi_bl_str, isi_bl_list, isi_bl_tuple, isi_bl_dict, isi_int_bool, isi_int_int, isi_int_str, isi_int_list, isi_int_tuple, isi_int_dict, isi_str_bool, isi_str_int, isi_str_str, isi_str_list, isi_str_tuple, isi_str_dict, isi_lst_bool, isi_lst_int, isi_lst_str, isi_lst_list, isi_lst_tuple, isi_lst_dict, isi_src_bool, isi_src_int, isi_src_str, isi_src_list, isi_src_tuple, isi_src_dict, isi_tup_bool, isi_tup_int, isi_tup_str, isi_tup_list, isi_tup_tuple, isi_tup_dict, isi_dct_bool, isi_dct_int, isi_dct_str, isi_dct_list, isi_dct_tuple, isi_dct_dict, g_nm, g_tp, g_nil, g_cons, List.getElem?_cons_succ, List.getElem?_cons_zero, List.set_cons_succ, List.set_cons_zero, truD, ixAt_L, at_nat (ds := ns.map D.int) (j := j) (by simpa using hj), List.getElem_map]
      refine kont_nx ?_
      simp only [wpS_seq, wpS_gNm, wpS_asg, wpS_ifS, wpS_drop, wpS_ret, wpS_retN, wpS_stF, wpS_augF, wpS_augI, wpS_augV, wpS_par', wpS_par3', wpS_some, wpS_mNx, wpS_mCt, wpS_mBk, kont_rt, kont_ct, kont_bk, fin_rt, fin_nx, wp_mK, wp_v, vO_some, wp_ret, wp_bnd, wp_op, wp_op1, wp_call, wp_fn, wp_cons, wp_nil, wp_tup, wp_lst, wp_obj, wp_oNone, wp_oSome, intO_int, wp_sl, wp_mIf, wp_mAnd, wp_mOr, wp_mNot, wp_mB, wp_mAndV, wp_mOrV, wp_mNotV, wp_mChain, wp_mTru, isBl_bl, truO_some, x_addI, x_addJ, x_sub, x_mod, x_div, x_mul, x_pow, x_shl, x_shr, x_band, x_bor, x_bxor, x_lt, x_le, x_gt, x_ge, x_neg, x_eqI, x_neI, x_eqS, x_neS, x_isN, x_isNN, x_int, x_abs, x_max2, x_min2, x_d1, x_d2, x_mkL, x_mkT, x_mkO, x_mkD, x_mkDo, x_ix, ixO_some, x_len, lenO_some, x_list, wpO_some, x_slT, x_slL, x_addLL, x_addTT, blO_some, x_isi, wp_isiT, x_fld, x_getI, wp_mMeth, wp_mMake, wp_mMt, wp_mLc, wp_mIt, wp_range1, wp_range2, wp_range3, wpS_for, isi_non_bool, isi_non_int, isi_non_str, isi_non_list, isi_non_tuple, isi_non_dict, isi_bl_bool, isi_bl_int, isi_bl_str, isi_bl_list, isi_bl_tuple, isi_bl_dict, isi_int_bool, isi_int_int, isi_int_str, isi_int_list, isi_int_tuple, isi_int_dict, isi_str_bool, isi_str_int, isi_str_str, isi_str_list, isi_str_tuple, isi_str_dict, isi_lst_bool, isi_lst_int, isi_lst_str, isi_lst_list, isi_lst_tuple, isi_lst_dict, isi_src_bool, isi_src_int, isi_src_str, isi_src_list, isi_src_tuple, isi_src_dict, isi_tup_bool, isi_tup_int, isi_tup_str, isi_tup_list, isi_tup_tuple, isi_tup_dict, isi_dct_bool, isi_dct_int, isi_dct_str, isi_dct_list, isi_dct_tuple, isi_dct_dict, g_nm, g_tp, g_nil, g_cons, List.getElem?_cons_succ, List.getElem?_cons_zero, List.set_cons_succ, List.set_cons_zero, truD, ixAt_objI h, at4, wpO_gIx, dSet_lst (i := 1) (j := 1) h rfl, List.set_cons_succ, List.set_cons_zero]
      refine kont_nx ?_
      generalize ns[j] = cell
      simp only [wpS_seq, wpS_gNm, wpS_asg, wpS_ifS, wpS_drop, wpS_ret, wpS_retN, wpS_stF, wpS_augF, wpS_augI, wpS_augV, wpS_par', wpS_par3', wpS_some, wpS_mNx, wpS_mCt, wpS_mBk, kont_rt, kont_ct, kont_bk, fin_rt, fin_nx, wp_mK, wp_v, vO_some, wp_ret, wp_bnd, wp_op, wp_op1, wp_call, wp_fn, wp_cons, wp_nil, wp_tup, wp_lst, wp_obj, wp_oNone, wp_oSome, intO_int, wp_sl, wp_mIf, wp_mAnd, wp_mOr, wp_mNot, wp_mB, wp_mAndV, wp_mOrV, wp_mNotV, wp_mChain, wp_mTru, isBl_bl, truO_some, x_addI, x_addJ, x_sub, x_mod, x_div, x_mul, x_pow, x_shl, x_shr, x_band, x_bor, x_bxor, x_lt, x_le, x_gt, x_ge, x_neg, x_eqI, x_neI, x_eqS, x_neS, x_isN, x_isNN, x_int, x_abs, x_max2, x_min2, x_d1, x_d2, x_mkL, x_mkT, x_mkO, x_mkD, x_mkDo, x_ix, ixO_some, x_len, lenO_some, x_list, wpO_some, x_slT, x_slL, x_addLL, x_addTT, blO_some, x_isi, wp_isiT, x_fld, x_getI, wp_mMeth, wp_mMake, wp_mMt, wp_mLc, wp_mIt, wp_range1, wp_range2, wp_range3, wpS_for, isi_non_bool, isi_non_int, isi_non_str, isi_non_list, isi_non_tuple, isi_non_dict, isi_bl_bool, isi_bl_int, isi_bl_str, isi_bl_list, isi_bl_tuple, isi_bl_dict, isi_int_bool, isi_int_int, isi_int_str, isi_int_list, isi_int_tuple, isi_int_dict, isi_str_bool, isi_str_int, isi_str_str, isi_str_list, isi_str_tuple, isi_str_dict, isi_lst_bool, isi_lst_int, isi_lst_str, isi_lst_list, isi_lst_tuple, isi_lst_dict, isi_src_bool, isi_src_int, isi_src_str, isi_src_list, isi_src_tuple, isi_src_dict, isi_tup_bool, isi_tup_int, isi_tup_str, isi_tup_list, isi_tup_tuple, isi_tup_dict, isi_dct_bool, isi_dct_int, isi_dct_str, isi_dct_list, isi_dct_tuple, isi_dct_dict, g_nm, g_tp, g_nil, g_cons, List.getElem?_cons_succ, List.getElem?_cons_zero, List.set_cons_succ, List.set_cons_zero, truD, dPowC_10, decide_eq_true_eq]
      refine ⟨trivial, ?_⟩
      have tail : ∀ (b' : Int), 0 ≤ b' → wpS (mAsg (mOp dMod (mFn (d1 dInt) (mCons (mOp (dAdd mkL) (mOp (dAdd mkL) (mOp dMul (mOp dIx (mV 0) (mK (.int 3))) (mK (.int 48271))) (mV 2)) (mK (.int 13))) mNil)) (mK (.int 2147483647))) (gIx (mV 0) (mK (.int 3))) [some (.obj n), some (.int lim), some (.int cell), none] (S.set n (.lst [.lst (ns.map D.int), .int ((j : Int) + 1), .int b', .int r]))) (kont (mSeq (mIfS (mB (mOp dGt (mOp dIx (mV 0) (mK (.int 2))) (mK (.int 0)))) (mSeq (mAsg (mOp dMod (mFn (d1 dInt) (mCons (mOp dIx (mV 0) (mK (.int 2))) mNil)) (mV 1)) (gNm 3))
  (mSeq (mAsg (mOp dDiv (mOp dIx (mV 0) (mK (.int 2))) (mV 1)) (gIx (mV 0) (mK (.int 2))))
  (mRet (mV 3)))) mNx)
  (mSeq (mAsg (mOp dMod (mFn (d1 dInt) (mCons (mOp (dAdd mkL) (mOp dMul (mOp dIx (mV 0) (mK (.int 3))) (mK (.int 69621))) (mK (.int 7))) mNil)) (mK (.int 2147483629))) (gIx (mV 0) (mK (.int 3))))
  (mRet (mOp dMod (mFn (d1 dInt) (mCons (mOp dDiv (mOp dIx (mV 0) (mK (.int 3))) (mK (.int 11))) mNil)) (mV 1))))) (fin Q E)) := by
        intro b' hb'
        simp only [wpS_seq, wpS_gNm, wpS_asg, wpS_ifS, wpS_drop, wpS_ret, wpS_retN, wpS_stF, wpS_augF, wpS_augI, wpS_augV, wpS_par', wpS_par3', wpS_some, wpS_mNx, wpS_mCt, wpS_mBk, kont_rt, kont_ct, kont_bk, fin_rt, fin_nx, wp_mK, wp_v, vO_some, wp_ret, wp_bnd, wp_op, wp_op1, wp_call, wp_fn, wp_cons, wp_nil, wp_tup, wp_lst, wp_obj, wp_oNone, wp_oSome, intO_int, wp_sl, wp_mIf, wp_mAnd, wp_mOr, wp_mNot, wp_mB, wp_mAndV, wp_mOrV, wp_mNotV, wp_mChain, wp_mTru, isBl_bl, truO_some, x_addI, x_addJ, x_sub, x_mod, x_div, x_mul, x_pow, x_shl, x_shr, x_band, x_bor, x_bxor, x_lt, x_le, x_gt, x_ge, x_neg, x_eqI, x_neI, x_eqS, x_neS, x_isN, x_isNN, x_int, x_abs, x_max2, x_min2, x_d1, x_d2, x_mkL, x_mkT, x_mkO, x_mkD, x_mkDo, x_ix, ixO_some, x_len, lenO_some, x_list, wpO_some, x_slT, x_slL, x_addLL, x_addTT, blO_some, x_isi, wp_isiT, x_fld, x_getI, wp_mMeth, wp_mMake, wp_mMt, wp_mLc, wp_mIt, wp_range1, wp_range2, wp_range3, wpS_for, isi_non_bool, isi_non_int, isi_non_str, isi_non_list, isi_non_tuple, isi_non_dict, isi_bl_bool, isi_bl_int, isi_bl_str, isi_bl_list, isi_bl_tuple, isi_bl_dict, isi_int_bool, isi_int_int, isi_int_str, isi_int_list, isi_int_tuple, isi_int_dict, isi_str_bool, isi_str_int, isi_str_str, isi_str_list, isi_str_tuple, isi_str_dict, isi_lst_bool, isi_lst_int, isi_lst_str, isi_lst_list, isi_lst_tuple, isi_lst_dict, isi_src_bool, isi_src_int, isi_src_str, isi_src_list, isi_src_tuple, isi_src_dict, isi_tup_bool, isi_tup_int, isi_tup_str, isi_tup_list, isi_tup_tuple, isi_tup_dict, isi_dct_bool, isi_dct_int, isi_dct_str, isi_dct_list, isi_dct_tuple, isi_dct_dict, g_nm, g_tp, g_nil, g_cons, List.getElem?_cons_succ, List.getElem?_cons_zero, List.set_cons_succ, List.set_cons_zero, truD, ixAt_objI get_same, at4, wpO_gIx, ds3 get_same]
        refine ⟨mul_small (by decide) (by decide), by decide, kont_nx ?_⟩
        have q1 : 0 ≤ (r * 48271 + cell + 13) % 2147483647 := Int.emod_nonneg _ (by decide)
        have q2 : (r * 48271 + cell + 13) % 2147483647 < 2147483647 := Int.emod_lt_of_pos _ (by decide)
        exact second get_same h0 h1 (by omega) hb' q1 (by omega) fun v S' a b d => k v S' a b (d.of_set.of_set)
      by_cases c3 : (10 : Int) ^ (18 : Int).toNat ≤ cell
      · rw [if_pos c3]
        simp only [wpS_seq, wpS_gNm, wpS_asg, wpS_ifS, wpS_drop, wpS_ret, wpS_retN, wpS_stF, wpS_augF, wpS_augI, wpS_augV, wpS_par', wpS_par3', wpS_some, wpS_mNx, wpS_mCt, wpS_mBk, kont_rt, kont_ct, kont_bk, fin_rt, fin_nx, wp_mK, wp_v, vO_some, wp_ret, wp_bnd, wp_op, wp_op1, wp_call, wp_fn, wp_cons, wp_nil, wp_tup, wp_lst, wp_obj, wp_oNone, wp_oSome, intO_int, wp_sl, wp_mIf, wp_mAnd, wp_mOr, wp_mNot, wp_mB, wp_mAndV, wp_mOrV, wp_mNotV, wp_mChain, wp_mTru, isBl_bl, truO_some, x_addI, x_addJ, x_sub, x_mod, x_div, x_mul, x_pow, x_shl, x_shr, x_band, x_bor, x_bxor, x_lt, x_le, x_gt, x_ge, x_neg, x_eqI, x_neI, x_eqS, x_neS, x_isN, x_isNN, x_int, x_abs, x_max2, x_min2, x_d1, x_d2, x_mkL, x_mkT, x_mkO, x_mkD, x_mkDo, x_ix, ixO_some, x_len, lenO_some, x_list, wpO_some, x_slT, x_slL, x_addLL, x_addTT, blO_some, x_isi, wp_isiT, x_fld, x_getI, wp_mMeth, wp_mMake, wp_mMt, wp_mLc, wp_mIt, wp_range1, wp_range2, wp_range3, wpS_for, isi_non_bool, isi_non_int, isi_non_str, isi_non_list, isi_non_tuple, isi_non_dict, isi_bl_bool, isi_bl_int, isi_bl_str, isi_bl_list, isi_bl_tuple, isi_bl_dict, isi_int_bool, isi_int_int, isi_int_str, isi_int_list, isi_int_tuple, isi_int_dict, isi_str_bool, isi_str_int, isi_str_str, isi_str_list, isi_str_tuple, isi_str_dict, isi_lst_bool, isi_lst_int, isi_lst_str, isi_lst_list, isi_lst_tuple, isi_lst_dict, isi_src_bool, isi_src_int, isi_src_str, isi_src_list, isi_src_tuple, isi_src_dict, isi_tup_bool, isi_tup_int, isi_tup_str, isi_tup_list, isi_tup_tuple, isi_tup_dict, isi_dct_bool, isi_dct_int, isi_dct_str, isi_dct_list, isi_dct_tuple, isi_dct_dict, g_nm, g_tp, g_nil, g_cons, List.getElem?_cons_succ, List.getElem?_cons_zero, List.set_cons_succ, List.set_cons_zero, truD, wpO_gIx, ds2 get_same]
        refine kont_nx ?_
        rw [set_set]
        exact tail cell (by have : (0 : Int) < 10 ^ (18 : Int).toNat := by decide
                            omega)
      · rw [if_neg c3]
        exact kont_nx (tail b hb)
    · rw [if_neg c2]
      exact kont_nx (second h h0 h1 hi hb hr hr2 k)
  · rw [if_neg c]
    exact kont_nx (second h h0 h1 hi hb hr hr2 k)
theorem draws_at {ns : List Int} (hz : ns.length ≤ 16777216) (k : ∀ S', DrO S' S.nx → S'.nx = S.nx + 1 → (∀ j, j ≠ S.nx → S'.get j = S.get j) → Q (.obj S.nx) S') : wp (mDraws [.src (ns.map D.int)]) S Q E := by
  have e : wp (mDraws [.src (ns.map D.int)]) S Q E = wpS (bDraws [some (.src (ns.map D.int))] S) (fin Q E) := wp_runB (ds := [.src (ns.map D.int)]) rfl
  rw [e]
  unfold bDraws
  simp only [wpS_seq, wpS_gNm, wpS_asg, wpS_ifS, wpS_drop, wpS_ret, wpS_retN, wpS_stF, wpS_augF, wpS_augI, wpS_augV, wpS_par', wpS_par3', wpS_some, wpS_mNx, wpS_mCt, wpS_mBk, kont_rt, kont_ct, kont_bk, fin_rt, fin_nx, wp_mK, wp_v, vO_some, wp_ret, wp_bnd, wp_op, wp_op1, wp_call, wp_fn, wp_cons, wp_nil, wp_tup, wp_lst, wp_obj, wp_oNone, wp_oSome, intO_int, wp_sl, wp_mIf, wp_mAnd, wp_mOr, wp_mNot, wp_mB, wp_mAndV, wp_mOrV, wp_mNotV, wp_mChain, wp_mTru, isBl_bl, truO_some, x_addI, x_addJ, x_sub, x_mod, x_div, x_mul, x_pow, x_shl, x_shr, x_band, x_bor, x_bxor, x_lt, x_le, x_gt, x_ge, x_neg, x_eqI, x_neI, x_eqS, x_neS, x_isN, x_isNN, x_int, x_abs, x_max2, x_min2, x_d1, x_d2, x_mkL, x_mkT, x_mkO, x_mkD, x_mkDo, x_ix, ixO_some, x_len, lenO_some, x_list, wpO_some, x_slT, x_slL, x_addLL, x_addTT, blO_some, x_isi, wp_isiT, x_fld, x_getI, wp_mMeth, wp_mMake, wp_mMt, wp_mLc, wp_mIt, wp_range1, wp_range2, wp_range3, wpS_for, isi_non_bool, isi_non_int, isi_non_str, isi_non_list, isi_non_tuple, isi_non_dict, isi_bl_bool, isi_bl_int, isi_bl_str, isi_bl_list, isi_bl_tuple, isi_bl_dict, isi_int_bool, isi_int_int, isi_int_str, isi_int_list, isi_int_tuple, isi_int_dict, isi_str_bool, isi_str_int, isi_str_str, isi_str_list, isi_str_tuple, isi_str_dict, isi_lst_bool, isi_lst_int, isi_lst_str, isi_lst_list, isi_lst_tuple, isi_lst_dict, isi_src_bool, isi_src_int, isi_src_str, isi_src_list, isi_src_tuple, isi_src_dict, isi_tup_bool, isi_tup_int, isi_tup_str, isi_tup_list, isi_tup_tuple, isi_tup_dict, isi_dct_bool, isi_dct_int, isi_dct_str, isi_dct_list, isi_dct_tuple, isi_dct_dict, g_nm, g_tp, g_nil, g_cons, List.getElem?_cons_succ, List.getElem?_cons_zero, List.set_cons_succ, List.set_cons_zero, truD, dctOf, seqOf, lstOf, List.length_map]
  refine ⟨hz, small_of (by simp), k _ ⟨_, if_pos rfl, ns, 0, 0, 1, rfl, by decide, by decide, by decide, by decide⟩ rfl fun j hj => if_neg hj⟩
end
end Mi
/-! MiS: the laws' comparison, where it says yes. -/
namespace Mi
open PySem L2
section
variable {S : MS} {Q : D → MS → Prop} {E : Exn → MS → Prop} {R : Fl → Prop}
def bSame (self : List D → M D) : MSt :=
  (mSeq (mIfS (mB (mOp dIsN (mV 1) (mK .non))) (mRet (mOp dIsN (mV 0) (mK .non))) mNx)
  (mSeq (mIfS (mTru (mFn (d2 dIsi) (mCons (mV 1) (mCons (mK (.ty "bool")) mNil)))) (mRet (mAndV (mFn (d2 dIsi) (mCons (mV 0) (mCons (mK (.ty "bool")) mNil))) (mOp dEq (mV 0) (mV 1)))) mNx)
  (mSeq (mIfS (mTru (mFn (d2 dIsi) (mCons (mV 1) (mCons (mK (.ty "int")) mNil)))) (mRet (mAndV (mFn (d2 dIsi) (mCons (mV 0) (mCons (mK (.ty "int")) mNil))) (mAndV (mNotV (mFn (d2 dIsi) (mCons (mV 0) (mCons (mK (.ty "bool")) mNil)))) (mOp dEq (mV 0) (mV 1))))) mNx)
  (mSeq (mIfS (mTru (mFn (d2 dIsi) (mCons (mV 1) (mCons (mK (.ty "str")) mNil)))) (mRet (mAndV (mFn (d2 dIsi) (mCons (mV 0) (mCons (mK (.ty "str")) mNil))) (mOp dEq (mV 0) (mV 1)))) mNx)
  (mSeq (mIfS (mTru (mFn (d2 dIsi) (mCons (mV 1) (mCons (mK (.ty "dict")) mNil)))) (mSeq (mIfS (mOr (mNot (mTru (mFn (d2 dIsi) (mCons (mV 0) (mCons (mK (.ty "dict")) mNil))))) (mOr (mB (mOp dNe (mFn (d1 dLen) (mCons (mV 0) mNil)) (mFn (d1 dLen) (mCons (mV 1) mNil)))) (mNot (mTru (mFn (d1 dAll) (mCons (mLkM [1] (mLc (mIt (mV 1)) (gNm 3) mYes (mOp dIn (mV 3) (mV 0)) [3] mkL)) mNil)))))) (mRet (mK (.bl false))) mNx)
  (mRet (mFn (d1 dAll) (mCons (mLkM [1] (mLc (mIt (mV 1)) (gNm 3) mYes (mCall self (mCons (mOp dIx (mV 0) (mV 3)) (mCons (mOp dIx (mV 1) (mV 3)) mNil))) [3] mkL)) mNil)))) mNx)
  (mSeq (mIfS (mTru (mFn (d2 dIsi) (mCons (mV 1) (mCons (mK (.ty "list")) mNil)))) (mAsg (mFn (d2 dIsi) (mCons (mV 0) (mCons (mK (.ty "list")) mNil))) (gNm 2)) (mAsg (mFn (d2 dIsi) (mCons (mV 0) (mCons (mK (.ty "tuple")) mNil))) (gNm 2)))
  (mRet (mAndV (mV 2) (mAndV (mOp dEq (mFn (d1 dLen) (mCons (mV 0) mNil)) (mFn (d1 dLen) (mCons (mV 1) mNil))) (mFn (d1 dAll) (mCons (mLc (mRange1 (mCons (mFn (d1 dLen) (mCons (mV 1) mNil)) mNil)) (gNm 4) mYes (mCall self (mCons (mOp dIx (mV 0) (mV 4)) (mCons (mOp dIx (mV 1) (mV 4)) mNil))) [4] mkL) mNil)))))))))))
def mSame : Nat → List D → M D
  | 0 => fun _ => stuck
  | n + 1 => runB 5 2 (bSame (mSame n))
def smS (S : MS) : Nat → D → D → Prop
  | 0, _, _ => False
  | k + 1, x, y => (y = .non ∧ x = .non) ∨ (∃ b, y = .bl b ∧ x = .bl b) ∨ (∃ i, y = .int i ∧ x = .int i) ∨ (∃ z, y = .str z ∧ x = .str z) ∨
    (∃ xs ys, lstOf S y = some ys ∧ lstOf S x = some xs ∧ xs.length = ys.length ∧ ys.length ≤ 16777216 ∧ ∀ (i : Nat) d e, xs[i]? = some d → ys[i]? = some e → smS S k d e) ∨
    (∃ xs ys, y = .tup ys ∧ x = .tup xs ∧ xs.length = ys.length ∧ ys.length ≤ 16777216 ∧ ∀ (i : Nat) d e, xs[i]? = some d → ys[i]? = some e → smS S k d e)
theorem kind_tup {ds : List D} {T : String} : isiO S (.tup ds) T = isiB "tuple" T := rfl
theorem e_same : wp (mSame (n + 1) [x, y]) S Q E = wpS (bSame (mSame n) [some x, some y, none, none, none] S) (fin Q E) := wp_runB (ds := [x, y]) rfl
theorem isN_lst {d : D} {ds : List D} (h : lstOf S d = some ds) : isNon d = false := by
  cases d <;> first | rfl | cases h
theorem seqEnd {k : Nat} {x y : D} {xs ys : List D} (hx : seqOf S x = some xs) (hy : seqOf S y = some ys) (lx : lenB S x = some (xs.length : Int)) (ly : lenB S y = some (ys.length : Int)) (ix : ∀ i, ixAt S x (.int i) = atI xs i) (iy : ∀ i, ixAt S y (.int i) = atI ys i)
    (hl : xs.length = ys.length) (hz : ys.length ≤ 16777216) (h : ∀ (i : Nat) d e, xs[i]? = some d → ys[i]? = some e → mSame k [d, e] S = some (.ok (.bl true) S)) {o3 o4 : Option D} (q : Q (.bl true) S) :
    wpS (mRet (mAndV (mV 2) (mAndV (mOp dEq (mFn (d1 dLen) (mCons (mV 0) mNil)) (mFn (d1 dLen) (mCons (mV 1) mNil))) (mFn (d1 dAll) (mCons (mLc (mRange1 (mCons (mFn (d1 dLen) (mCons (mV 1) mNil)) mNil)) (gNm 4) mYes (mCall (mSame k) (mCons (mOp dIx (mV 0) (mV 4)) (mCons (mOp dIx (mV 1) (mV 4)) mNil))) [4] mkL) mNil)))) [some x, some y, some (.bl true), o3, o4] S) (fin Q E) := by
  simp only [wpS_seq, wpS_gNm, wpS_asg, wpS_ifS, wpS_drop, wpS_ret, wpS_retN, wpS_stF, wpS_augF, wpS_augI, wpS_augV, wpS_par', wpS_par3', wpS_some, wpS_mNx, wpS_mCt, wpS_mBk, kont_rt, kont_ct, kont_bk, fin_rt, fin_nx, wp_mK, wp_v, vO_some, wp_ret, wp_bnd, wp_op, wp_op1, wp_call, wp_fn, wp_cons, wp_nil, wp_tup, wp_lst, wp_obj, wp_oNone, wp_oSome, intO_int, wp_sl, wp_mIf, wp_mAnd, wp_mOr, wp_mNot, wp_mB, wp_mAndV, wp_mOrV, wp_mNotV, wp_mChain, wp_mTru, isBl_bl, truO_some, x_addI, x_addJ, x_sub, x_mod, x_div, x_mul, x_pow, x_shl, x_shr, x_band, x_bor, x_bxor, x_lt, x_le, x_gt, x_ge, x_neg, x_eqI, x_neI, x_eqS, x_neS, x_isN, x_isNN, x_int, x_abs, x_max2, x_min2, x_d1, x_d2, x_mkL, x_mkT, x_mkO, x_mkD, x_mkDo, x_ix, ixO_some, x_len, lenO_some, x_list, wpO_some, x_slT, x_slL, x_addLL, x_addTT, blO_some, x_isi, wp_isiT, x_fld, x_getI, wp_mMeth, wp_mMake, wp_mMt, wp_mLc, wp_mIt, wp_range1, wp_range2, wp_range3, wpS_for, isi_non_bool, isi_non_int, isi_non_str, isi_non_list, isi_non_tuple, isi_non_dict, isi_bl_bool, isi_bl_int, isi_bl_str, isi_bl_list, isi_bl_tuple, isi_bl_dict, isi_int_bool, isi_int_int, isi_int_str, isi_int_list, isi_int_tuple, isi_int_dict, isi_str_bool, isi_str_int, isi_str_str, isi_str_list, isi_str_tuple, isi_str_dict, isi_lst_bool, isi_lst_int, isi_lst_str, isi_lst_list, isi_lst_tuple, isi_lst_dict, isi_src_bool, isi_src_int, isi_src_str, isi_src_list, isi_src_tuple, isi_src_dict, isi_tup_bool, isi_tup_int, isi_tup_str, isi_tup_list, isi_tup_tuple, isi_tup_dict, isi_dct_bool, isi_dct_int, isi_dct_str, isi_dct_list, isi_dct_tuple, isi_dct_dict, g_nm, g_tp, g_nil, g_cons, List.getElem?_cons_succ, List.getElem?_cons_zero, List.set_cons_succ, List.set_cons_zero, truD, lx, ly, if_true, hl, decide_true]
  have hr : rngD1 [D.int (ys.length : Int)] = some (rngN 0 1 ys.length) := by
    unfold rngD1
    dsimp only
    rw [if_pos (by omega)]
    simp
  simp only [wpS_seq, wpS_gNm, wpS_asg, wpS_ifS, wpS_drop, wpS_ret, wpS_retN, wpS_stF, wpS_augF, wpS_augI, wpS_augV, wpS_par', wpS_par3', wpS_some, wpS_mNx, wpS_mCt, wpS_mBk, kont_rt, kont_ct, kont_bk, fin_rt, fin_nx, wp_mK, wp_v, vO_some, wp_ret, wp_bnd, wp_op, wp_op1, wp_call, wp_fn, wp_cons, wp_nil, wp_tup, wp_lst, wp_obj, wp_oNone, wp_oSome, intO_int, wp_sl, wp_mIf, wp_mAnd, wp_mOr, wp_mNot, wp_mB, wp_mAndV, wp_mOrV, wp_mNotV, wp_mChain, wp_mTru, isBl_bl, truO_some, x_addI, x_addJ, x_sub, x_mod, x_div, x_mul, x_pow, x_shl, x_shr, x_band, x_bor, x_bxor, x_lt, x_le, x_gt, x_ge, x_neg, x_eqI, x_neI, x_eqS, x_neS, x_isN, x_isNN, x_int, x_abs, x_max2, x_min2, x_d1, x_d2, x_mkL, x_mkT, x_mkO, x_mkD, x_mkDo, x_ix, ixO_some, x_len, lenO_some, x_list, wpO_some, x_slT, x_slL, x_addLL, x_addTT, blO_some, x_isi, wp_isiT, x_fld, x_getI, wp_mMeth, wp_mMake, wp_mMt, wp_mLc, wp_mIt, wp_range1, wp_range2, wp_range3, wpS_for, isi_non_bool, isi_non_int, isi_non_str, isi_non_list, isi_non_tuple, isi_non_dict, isi_bl_bool, isi_bl_int, isi_bl_str, isi_bl_list, isi_bl_tuple, isi_bl_dict, isi_int_bool, isi_int_int, isi_int_str, isi_int_list, isi_int_tuple, isi_int_dict, isi_str_bool, isi_str_int, isi_str_str, isi_str_list, isi_str_tuple, isi_str_dict, isi_lst_bool, isi_lst_int, isi_lst_str, isi_lst_list, isi_lst_tuple, isi_lst_dict, isi_src_bool, isi_src_int, isi_src_str, isi_src_list, isi_src_tuple, isi_src_dict, isi_tup_bool, isi_tup_int, isi_tup_str, isi_tup_list, isi_tup_tuple, isi_tup_dict, isi_dct_bool, isi_dct_int, isi_dct_str, isi_dct_list, isi_dct_tuple, isi_dct_dict, g_nm, g_tp, g_nil, g_cons, List.getElem?_cons_succ, List.getElem?_cons_zero, List.set_cons_succ, List.set_cons_zero, truD, hr]
  have lc := lc_pure (S := S) (env := wipeE [some x, some y, some (.bl true), o3, o4] [4]) (g := gNm 4) (tt := mYes) (te := mCall (mSame k) (mCons (mOp dIx (mV 0) (mV 4)) (mCons (mOp dIx (mV 1) (mV 4)) mNil))) (f := fun _ => .bl true) (ds := rngN 0 1 ys.length) (fun d hd => by
    unfold rngN at hd
    obtain ⟨i, hi, rfl⟩ := List.mem_map.mp hd
    have hi' : i < ys.length := List.mem_range.mp hi
    refine ⟨_, rfl, rfl, ?_⟩
    have hix : i < xs.length := by omega
    have z := h i _ _ (List.getElem?_eq_getElem hix) (List.getElem?_eq_getElem hi')
    have w : wp (mCall (mSame k) (mCons (mOp dIx (mV 0) (mV 4)) (mCons (mOp dIx (mV 1) (mV 4)) mNil)) [some x, some y, some (.bl true), o3, some (.int (0 + (i : Nat) * 1))]) S (fun v S' => v = .bl true ∧ S' = S) no := by
      have e0 : (0 : Int) + (i : Nat) * 1 = (i : Int) := by omega
      rw [e0]
      simp only [wpS_seq, wpS_gNm, wpS_asg, wpS_ifS, wpS_drop, wpS_ret, wpS_retN, wpS_stF, wpS_augF, wpS_augI, wpS_augV, wpS_par', wpS_par3', wpS_some, wpS_mNx, wpS_mCt, wpS_mBk, kont_rt, kont_ct, kont_bk, fin_rt, fin_nx, wp_mK, wp_v, vO_some, wp_ret, wp_bnd, wp_op, wp_op1, wp_call, wp_fn, wp_cons, wp_nil, wp_tup, wp_lst, wp_obj, wp_oNone, wp_oSome, intO_int, wp_sl, wp_mIf, wp_mAnd, wp_mOr, wp_mNot, wp_mB, wp_mAndV, wp_mOrV, wp_mNotV, wp_mChain, wp_mTru, isBl_bl, truO_some, x_addI, x_addJ, x_sub, x_mod, x_div, x_mul, x_pow, x_shl, x_shr, x_band, x_bor, x_bxor, x_lt, x_le, x_gt, x_ge, x_neg, x_eqI, x_neI, x_eqS, x_neS, x_isN, x_isNN, x_int, x_abs, x_max2, x_min2, x_d1, x_d2, x_mkL, x_mkT, x_mkO, x_mkD, x_mkDo, x_ix, ixO_some, x_len, lenO_some, x_list, wpO_some, x_slT, x_slL, x_addLL, x_addTT, blO_some, x_isi, wp_isiT, x_fld, x_getI, wp_mMeth, wp_mMake, wp_mMt, wp_mLc, wp_mIt, wp_range1, wp_range2, wp_range3, wpS_for, isi_non_bool, isi_non_int, isi_non_str, isi_non_list, isi_non_tuple, isi_non_dict, isi_bl_bool, isi_bl_int, isi_bl_str, isi_bl_list, isi_bl_tuple, isi_bl_dict, isi_int_bool, isi_int_int, isi_int_str, isi_int_list, isi_int_tuple, isi_int_dict, isi_str_bool, isi_str_int, isi_str_str, isi_str_list, isi_str_tuple, isi_str_dict, isi_lst_bool, isi_lst_int, isi_lst_str, isi_lst_list, isi_lst_tuple, isi_lst_dict, isi_src_bool, isi_src_int, isi_src_str, isi_src_list, isi_src_tuple, isi_src_dict, isi_tup_bool, isi_tup_int, isi_tup_str, isi_tup_list, isi_tup_tuple, isi_tup_dict, isi_dct_bool, isi_dct_int, isi_dct_str, isi_dct_list, isi_dct_tuple, isi_dct_dict, g_nm, g_tp, g_nil, g_cons, List.getElem?_cons_succ, List.getElem?_cons_zero, List.set_cons_succ, List.set_cons_zero, truD, ix, iy, at_nat hix, at_nat hi']
      rw [wp_of z]
      exact ⟨rfl, rfl⟩
    obtain ⟨v, S', e, rfl, rfl⟩ := wp_to w
    exact e)
  rw [wp_of lc]
  have hlen : (rngN 0 1 ys.length).length = ys.length := by unfold rngN; simp
  simp only [wpS_seq, wpS_gNm, wpS_asg, wpS_ifS, wpS_drop, wpS_ret, wpS_retN, wpS_stF, wpS_augF, wpS_augI, wpS_augV, wpS_par', wpS_par3', wpS_some, wpS_mNx, wpS_mCt, wpS_mBk, kont_rt, kont_ct, kont_bk, fin_rt, fin_nx, wp_mK, wp_v, vO_some, wp_ret, wp_bnd, wp_op, wp_op1, wp_call, wp_fn, wp_cons, wp_nil, wp_tup, wp_lst, wp_obj, wp_oNone, wp_oSome, intO_int, wp_sl, wp_mIf, wp_mAnd, wp_mOr, wp_mNot, wp_mB, wp_mAndV, wp_mOrV, wp_mNotV, wp_mChain, wp_mTru, isBl_bl, truO_some, x_addI, x_addJ, x_sub, x_mod, x_div, x_mul, x_pow, x_shl, x_shr, x_band, x_bor, x_bxor, x_lt, x_le, x_gt, x_ge, x_neg, x_eqI, x_neI, x_eqS, x_neS, x_isN, x_isNN, x_int, x_abs, x_max2, x_min2, x_d1, x_d2, x_mkL, x_mkT, x_mkO, x_mkD, x_mkDo, x_ix, ixO_some, x_len, lenO_some, x_list, wpO_some, x_slT, x_slL, x_addLL, x_addTT, blO_some, x_isi, wp_isiT, x_fld, x_getI, wp_mMeth, wp_mMake, wp_mMt, wp_mLc, wp_mIt, wp_range1, wp_range2, wp_range3, wpS_for, isi_non_bool, isi_non_int, isi_non_str, isi_non_list, isi_non_tuple, isi_non_dict, isi_bl_bool, isi_bl_int, isi_bl_str, isi_bl_list, isi_bl_tuple, isi_bl_dict, isi_int_bool, isi_int_int, isi_int_str, isi_int_list, isi_int_tuple, isi_int_dict, isi_str_bool, isi_str_int, isi_str_str, isi_str_list, isi_str_tuple, isi_str_dict, isi_lst_bool, isi_lst_int, isi_lst_str, isi_lst_list, isi_lst_tuple, isi_lst_dict, isi_src_bool, isi_src_int, isi_src_str, isi_src_list, isi_src_tuple, isi_src_dict, isi_tup_bool, isi_tup_int, isi_tup_str, isi_tup_list, isi_tup_tuple, isi_tup_dict, isi_dct_bool, isi_dct_int, isi_dct_str, isi_dct_list, isi_dct_tuple, isi_dct_dict, g_nm, g_tp, g_nil, g_cons, List.getElem?_cons_succ, List.getElem?_cons_zero, List.set_cons_succ, List.set_cons_zero, truD, List.length_map, hlen]
  refine ⟨hz, hz, ?_⟩
  rw [x_all (bs := (rngN 0 1 ys.length).map fun _ => true) (blsOf_map fun _ _ => rfl)]
  have : ((rngN 0 1 ys.length).map fun _ => true).all id = true := by simp
  rw [this]
  exact q
theorem same_at : ∀ {k : Nat} {x y : D}, smS S k x y → mSame k [x, y] S = some (.ok (.bl true) S)
  | 0, _, _, h => h.elim
  | k + 1, x, y, h => by
    have w : wp (mSame (k + 1) [x, y]) S (fun v S' => v = .bl true ∧ S' = S) no := by
      rw [e_same]
      unfold bSame
      rcases h with ⟨rfl, rfl⟩ | ⟨b, rfl, rfl⟩ | ⟨i, rfl, rfl⟩ | ⟨z, rfl, rfl⟩ | ⟨xs, ys, hy, hx, hl, hz, h⟩ | ⟨xs, ys, rfl, rfl, hl, hz, h⟩
      · simp only [wpS_seq, wpS_gNm, wpS_asg, wpS_ifS, wpS_drop, wpS_ret, wpS_retN, wpS_stF, wpS_augF, wpS_augI, wpS_augV, wpS_par', wpS_par3', wpS_some, wpS_mNx, wpS_mCt, wpS_mBk, kont_rt, kont_ct, kont_bk, fin_rt, fin_nx, wp_mK, wp_v, vO_some, wp_ret, wp_bnd, wp_op, wp_op1, wp_call, wp_fn, wp_cons, wp_nil, wp_tup, wp_lst, wp_obj, wp_oNone, wp_oSome, intO_int, wp_sl, wp_mIf, wp_mAnd, wp_mOr, wp_mNot, wp_mB, wp_mAndV, wp_mOrV, wp_mNotV, wp_mChain, wp_mTru, isBl_bl, truO_some, x_addI, x_addJ, x_sub, x_mod, x_div, x_mul, x_pow, x_shl, x_shr, x_band, x_bor, x_bxor, x_lt, x_le, x_gt, x_ge, x_neg, x_eqI, x_neI, x_eqS, x_neS, x_isN, x_isNN, x_int, x_abs, x_max2, x_min2, x_d1, x_d2, x_mkL, x_mkT, x_mkO, x_mkD, x_mkDo, x_ix, ixO_some, x_len, lenO_some, x_list, wpO_some, x_slT, x_slL, x_addLL, x_addTT, blO_some, x_isi, wp_isiT, x_fld, x_getI, wp_mMeth, wp_mMake, wp_mMt, wp_mLc, wp_mIt, wp_range1, wp_range2, wp_range3, wpS_for, isi_non_bool, isi_non_int, isi_non_str, isi_non_list, isi_non_tuple, isi_non_dict, isi_bl_bool, isi_bl_int, isi_bl_str, isi_bl_list, isi_bl_tuple, isi_bl_dict, isi_int_bool, isi_int_int, isi_int_str, isi_int_list, isi_int_tuple, isi_int_dict, isi_str_bool, isi_str_int, isi_str_str, isi_str_list, isi_str_tuple, isi_str_dict, isi_lst_bool, isi_lst_int, isi_lst_str, isi_lst_list, isi_lst_tuple, isi_lst_dict, isi_src_bool, isi_src_int, isi_src_str, isi_src_list, isi_src_tuple, isi_src_dict, isi_tup_bool, isi_tup_int, isi_tup_str, isi_tup_list, isi_tup_tuple, isi_tup_dict, isi_dct_bool, isi_dct_int, isi_dct_str, isi_dct_list, isi_dct_tuple, isi_dct_dict, g_nm, g_tp, g_nil, g_cons, List.getElem?_cons_succ, List.getElem?_cons_zero, List.set_cons_succ, List.set_cons_zero, truD, isNon, if_true]
        exact ⟨by first | rfl | trivial, by first | rfl | trivial⟩
      · simp only [wpS_seq, wpS_gNm, wpS_asg, wpS_ifS, wpS_drop, wpS_ret, wpS_retN, wpS_stF, wpS_augF, wpS_augI, wpS_augV, wpS_par', wpS_par3', wpS_some, wpS_mNx, wpS_mCt, wpS_mBk, kont_rt, kont_ct, kont_bk, fin_rt, fin_nx, wp_mK, wp_v, vO_some, wp_ret, wp_bnd, wp_op, wp_op1, wp_call, wp_fn, wp_cons, wp_nil, wp_tup, wp_lst, wp_obj, wp_oNone, wp_oSome, intO_int, wp_sl, wp_mIf, wp_mAnd, wp_mOr, wp_mNot, wp_mB, wp_mAndV, wp_mOrV, wp_mNotV, wp_mChain, wp_mTru, isBl_bl, truO_some, x_addI, x_addJ, x_sub, x_mod, x_div, x_mul, x_pow, x_shl, x_shr, x_band, x_bor, x_bxor, x_lt, x_le, x_gt, x_ge, x_neg, x_eqI, x_neI, x_eqS, x_neS, x_isN, x_isNN, x_int, x_abs, x_max2, x_min2, x_d1, x_d2, x_mkL, x_mkT, x_mkO, x_mkD, x_mkDo, x_ix, ixO_some, x_len, lenO_some, x_list, wpO_some, x_slT, x_slL, x_addLL, x_addTT, blO_some, x_isi, wp_isiT, x_fld, x_getI, wp_mMeth, wp_mMake, wp_mMt, wp_mLc, wp_mIt, wp_range1, wp_range2, wp_range3, wpS_for, isi_non_bool, isi_non_int, isi_non_str, isi_non_list, isi_non_tuple, isi_non_dict, isi_bl_bool, isi_bl_int, isi_bl_str, isi_bl_list, isi_bl_tuple, isi_bl_dict, isi_int_bool, isi_int_int, isi_int_str, isi_int_list, isi_int_tuple, isi_int_dict, isi_str_bool, isi_str_int, isi_str_str, isi_str_list, isi_str_tuple, isi_str_dict, isi_lst_bool, isi_lst_int, isi_lst_str, isi_lst_list, isi_lst_tuple, isi_lst_dict, isi_src_bool, isi_src_int, isi_src_str, isi_src_list, isi_src_tuple, isi_src_dict, isi_tup_bool, isi_tup_int, isi_tup_str, isi_tup_list, isi_tup_tuple, isi_tup_dict, isi_dct_bool, isi_dct_int, isi_dct_str, isi_dct_list, isi_dct_tuple, isi_dct_dict, g_nm, g_tp, g_nil, g_cons, List.getElem?_cons_succ, List.getElem?_cons_zero, List.set_cons_succ, List.set_cons_zero, truD, isNon, if_false, Bool.false_eq_true]
        refine kont_nx ?_
        simp only [wpS_seq, wpS_gNm, wpS_asg, wpS_ifS, wpS_drop, wpS_ret, wpS_retN, wpS_stF, wpS_augF, wpS_augI, wpS_augV, wpS_par', wpS_par3', wpS_some, wpS_mNx, wpS_mCt, wpS_mBk, kont_rt, kont_ct, kont_bk, fin_rt, fin_nx, wp_mK, wp_v, vO_some, wp_ret, wp_bnd, wp_op, wp_op1, wp_call, wp_fn, wp_cons, wp_nil, wp_tup, wp_lst, wp_obj, wp_oNone, wp_oSome, intO_int, wp_sl, wp_mIf, wp_mAnd, wp_mOr, wp_mNot, wp_mB, wp_mAndV, wp_mOrV, wp_mNotV, wp_mChain, wp_mTru, isBl_bl, truO_some, x_addI, x_addJ, x_sub, x_mod, x_div, x_mul, x_pow, x_shl, x_shr, x_band, x_bor, x_bxor, x_lt, x_le, x_gt, x_ge, x_neg, x_eqI, x_neI, x_eqS, x_neS, x_isN, x_isNN, x_int, x_abs, x_max2, x_min2, x_d1, x_d2, x_mkL, x_mkT, x_mkO, x_mkD, x_mkDo, x_ix, ixO_some, x_len, lenO_some, x_list, wpO_some, x_slT, x_slL, x_addLL, x_addTT, blO_some, x_isi, wp_isiT, x_fld, x_getI, wp_mMeth, wp_mMake, wp_mMt, wp_mLc, wp_mIt, wp_range1, wp_range2, wp_range3, wpS_for, isi_non_bool, isi_non_int, isi_non_str, isi_non_list, isi_non_tuple, isi_non_dict, isi_bl_bool, isi_bl_int, isi_bl_str, isi_bl_list, isi_bl_tuple, isi_bl_dict, isi_int_bool, isi_int_int, isi_int_str, isi_int_list, isi_int_tuple, isi_int_dict, isi_str_bool, isi_str_int, isi_str_str, isi_str_list, isi_str_tuple, isi_str_dict, isi_lst_bool, isi_lst_int, isi_lst_str, isi_lst_list, isi_lst_tuple, isi_lst_dict, isi_src_bool, isi_src_int, isi_src_str, isi_src_list, isi_src_tuple, isi_src_dict, isi_tup_bool, isi_tup_int, isi_tup_str, isi_tup_list, isi_tup_tuple, isi_tup_dict, isi_dct_bool, isi_dct_int, isi_dct_str, isi_dct_list, isi_dct_tuple, isi_dct_dict, g_nm, g_tp, g_nil, g_cons, List.getElem?_cons_succ, List.getElem?_cons_zero, List.set_cons_succ, List.set_cons_zero, truD, if_true, x_eq, dEqB, decide_true]
        exact ⟨by first | rfl | trivial, by first | rfl | trivial⟩
      · simp only [wpS_seq, wpS_gNm, wpS_asg, wpS_ifS, wpS_drop, wpS_ret, wpS_retN, wpS_stF, wpS_augF, wpS_augI, wpS_augV, wpS_par', wpS_par3', wpS_some, wpS_mNx, wpS_mCt, wpS_mBk, kont_rt, kont_ct, kont_bk, fin_rt, fin_nx, wp_mK, wp_v, vO_some, wp_ret, wp_bnd, wp_op, wp_op1, wp_call, wp_fn, wp_cons, wp_nil, wp_tup, wp_lst, wp_obj, wp_oNone, wp_oSome, intO_int, wp_sl, wp_mIf, wp_mAnd, wp_mOr, wp_mNot, wp_mB, wp_mAndV, wp_mOrV, wp_mNotV, wp_mChain, wp_mTru, isBl_bl, truO_some, x_addI, x_addJ, x_sub, x_mod, x_div, x_mul, x_pow, x_shl, x_shr, x_band, x_bor, x_bxor, x_lt, x_le, x_gt, x_ge, x_neg, x_eqI, x_neI, x_eqS, x_neS, x_isN, x_isNN, x_int, x_abs, x_max2, x_min2, x_d1, x_d2, x_mkL, x_mkT, x_mkO, x_mkD, x_mkDo, x_ix, ixO_some, x_len, lenO_some, x_list, wpO_some, x_slT, x_slL, x_addLL, x_addTT, blO_some, x_isi, wp_isiT, x_fld, x_getI, wp_mMeth, wp_mMake, wp_mMt, wp_mLc, wp_mIt, wp_range1, wp_range2, wp_range3, wpS_for, isi_non_bool, isi_non_int, isi_non_str, isi_non_list, isi_non_tuple, isi_non_dict, isi_bl_bool, isi_bl_int, isi_bl_str, isi_bl_list, isi_bl_tuple, isi_bl_dict, isi_int_bool, isi_int_int, isi_int_str, isi_int_list, isi_int_tuple, isi_int_dict, isi_str_bool, isi_str_int, isi_str_str, isi_str_list, isi_str_tuple, isi_str_dict, isi_lst_bool, isi_lst_int, isi_lst_str, isi_lst_list, isi_lst_tuple, isi_lst_dict, isi_src_bool, isi_src_int, isi_src_str, isi_src_list, isi_src_tuple, isi_src_dict, isi_tup_bool, isi_tup_int, isi_tup_str, isi_tup_list, isi_tup_tuple, isi_tup_dict, isi_dct_bool, isi_dct_int, isi_dct_str, isi_dct_list, isi_dct_tuple, isi_dct_dict, g_nm, g_tp, g_nil, g_cons, List.getElem?_cons_succ, List.getElem?_cons_zero, List.set_cons_succ, List.set_cons_zero, truD, isNon, if_false, Bool.false_eq_true]
        refine kont_nx ?_
        simp only [wpS_seq, wpS_gNm, wpS_asg, wpS_ifS, wpS_drop, wpS_ret, wpS_retN, wpS_stF, wpS_augF, wpS_augI, wpS_augV, wpS_par', wpS_par3', wpS_some, wpS_mNx, wpS_mCt, wpS_mBk, kont_rt, kont_ct, kont_bk, fin_rt, fin_nx, wp_mK, wp_v, vO_some, wp_ret, wp_bnd, wp_op, wp_op1, wp_call, wp_fn, wp_cons, wp_nil, wp_tup, wp_lst, wp_obj, wp_oNone, wp_oSome, intO_int, wp_sl, wp_mIf, wp_mAnd, wp_mOr, wp_mNot, wp_mB, wp_mAndV, wp_mOrV, wp_mNotV, wp_mChain, wp_mTru, isBl_bl, truO_some, x_addI, x_addJ, x_sub, x_mod, x_div, x_mul, x_pow, x_shl, x_shr, x_band, x_bor, x_bxor, x_lt, x_le, x_gt, x_ge, x_neg, x_eqI, x_neI, x_eqS, x_neS, x_isN, x_isNN, x_int, x_abs, x_max2, x_min2, x_d1, x_d2, x_mkL, x_mkT, x_mkO, x_mkD, x_mkDo, x_ix, ixO_some, x_len, lenO_some, x_list, wpO_some, x_slT, x_slL, x_addLL, x_addTT, blO_some, x_isi, wp_isiT, x_fld, x_getI, wp_mMeth, wp_mMake, wp_mMt, wp_mLc, wp_mIt, wp_range1, wp_range2, wp_range3, wpS_for, isi_non_bool, isi_non_int, isi_non_str, isi_non_list, isi_non_tuple, isi_non_dict, isi_bl_bool, isi_bl_int, isi_bl_str, isi_bl_list, isi_bl_tuple, isi_bl_dict, isi_int_bool, isi_int_int, isi_int_str, isi_int_list, isi_int_tuple, isi_int_dict, isi_str_bool, isi_str_int, isi_str_str, isi_str_list, isi_str_tuple, isi_str_dict, isi_lst_bool, isi_lst_int, isi_lst_str, isi_lst_list, isi_lst_tuple, isi_lst_dict, isi_src_bool, isi_src_int, isi_src_str, isi_src_list, isi_src_tuple, isi_src_dict, isi_tup_bool, isi_tup_int, isi_tup_str, isi_tup_list, isi_tup_tuple, isi_tup_dict, isi_dct_bool, isi_dct_int, isi_dct_str, isi_dct_list, isi_dct_tuple, isi_dct_dict, g_nm, g_tp, g_nil, g_cons, List.getElem?_cons_succ, List.getElem?_cons_zero, List.set_cons_succ, List.set_cons_zero, truD, if_false, Bool.false_eq_true]
        refine kont_nx ?_
        simp only [wpS_seq, wpS_gNm, wpS_asg, wpS_ifS, wpS_drop, wpS_ret, wpS_retN, wpS_stF, wpS_augF, wpS_augI, wpS_augV, wpS_par', wpS_par3', wpS_some, wpS_mNx, wpS_mCt, wpS_mBk, kont_rt, kont_ct, kont_bk, fin_rt, fin_nx, wp_mK, wp_v, vO_some, wp_ret, wp_bnd, wp_op, wp_op1, wp_call, wp_fn, wp_cons, wp_nil, wp_tup, wp_lst, wp_obj, wp_oNone, wp_oSome, intO_int, wp_sl, wp_mIf, wp_mAnd, wp_mOr, wp_mNot, wp_mB, wp_mAndV, wp_mOrV, wp_mNotV, wp_mChain, wp_mTru, isBl_bl, truO_some, x_addI, x_addJ, x_sub, x_mod, x_div, x_mul, x_pow, x_shl, x_shr, x_band, x_bor, x_bxor, x_lt, x_le, x_gt, x_ge, x_neg, x_eqI, x_neI, x_eqS, x_neS, x_isN, x_isNN, x_int, x_abs, x_max2, x_min2, x_d1, x_d2, x_mkL, x_mkT, x_mkO, x_mkD, x_mkDo, x_ix, ixO_some, x_len, lenO_some, x_list, wpO_some, x_slT, x_slL, x_addLL, x_addTT, blO_some, x_isi, wp_isiT, x_fld, x_getI, wp_mMeth, wp_mMake, wp_mMt, wp_mLc, wp_mIt, wp_range1, wp_range2, wp_range3, wpS_for, isi_non_bool, isi_non_int, isi_non_str, isi_non_list, isi_non_tuple, isi_non_dict, isi_bl_bool, isi_bl_int, isi_bl_str, isi_bl_list, isi_bl_tuple, isi_bl_dict, isi_int_bool, isi_int_int, isi_int_str, isi_int_list, isi_int_tuple, isi_int_dict, isi_str_bool, isi_str_int, isi_str_str, isi_str_list, isi_str_tuple, isi_str_dict, isi_lst_bool, isi_lst_int, isi_lst_str, isi_lst_list, isi_lst_tuple, isi_lst_dict, isi_src_bool, isi_src_int, isi_src_str, isi_src_list, isi_src_tuple, isi_src_dict, isi_tup_bool, isi_tup_int, isi_tup_str, isi_tup_list, isi_tup_tuple, isi_tup_dict, isi_dct_bool, isi_dct_int, isi_dct_str, isi_dct_list, isi_dct_tuple, isi_dct_dict, g_nm, g_tp, g_nil, g_cons, List.getElem?_cons_succ, List.getElem?_cons_zero, List.set_cons_succ, List.set_cons_zero, truD, if_true, Bool.not_false, decide_true]
        exact ⟨by first | rfl | trivial, by first | rfl | trivial⟩
      · simp only [wpS_seq, wpS_gNm, wpS_asg, wpS_ifS, wpS_drop, wpS_ret, wpS_retN, wpS_stF, wpS_augF, wpS_augI, wpS_augV, wpS_par', wpS_par3', wpS_some, wpS_mNx, wpS_mCt, wpS_mBk, kont_rt, kont_ct, kont_bk, fin_rt, fin_nx, wp_mK, wp_v, vO_some, wp_ret, wp_bnd, wp_op, wp_op1, wp_call, wp_fn, wp_cons, wp_nil, wp_tup, wp_lst, wp_obj, wp_oNone, wp_oSome, intO_int, wp_sl, wp_mIf, wp_mAnd, wp_mOr, wp_mNot, wp_mB, wp_mAndV, wp_mOrV, wp_mNotV, wp_mChain, wp_mTru, isBl_bl, truO_some, x_addI, x_addJ, x_sub, x_mod, x_div, x_mul, x_pow, x_shl, x_shr, x_band, x_bor, x_bxor, x_lt, x_le, x_gt, x_ge, x_neg, x_eqI, x_neI, x_eqS, x_neS, x_isN, x_isNN, x_int, x_abs, x_max2, x_min2, x_d1, x_d2, x_mkL, x_mkT, x_mkO, x_mkD, x_mkDo, x_ix, ixO_some, x_len, lenO_some, x_list, wpO_some, x_slT, x_slL, x_addLL, x_addTT, blO_some, x_isi, wp_isiT, x_fld, x_getI, wp_mMeth, wp_mMake, wp_mMt, wp_mLc, wp_mIt, wp_range1, wp_range2, wp_range3, wpS_for, isi_non_bool, isi_non_int, isi_non_str, isi_non_list, isi_non_tuple, isi_non_dict, isi_bl_bool, isi_bl_int, isi_bl_str, isi_bl_list, isi_bl_tuple, isi_bl_dict, isi_int_bool, isi_int_int, isi_int_str, isi_int_list, isi_int_tuple, isi_int_dict, isi_str_bool, isi_str_int, isi_str_str, isi_str_list, isi_str_tuple, isi_str_dict, isi_lst_bool, isi_lst_int, isi_lst_str, isi_lst_list, isi_lst_tuple, isi_lst_dict, isi_src_bool, isi_src_int, isi_src_str, isi_src_list, isi_src_tuple, isi_src_dict, isi_tup_bool, isi_tup_int, isi_tup_str, isi_tup_list, isi_tup_tuple, isi_tup_dict, isi_dct_bool, isi_dct_int, isi_dct_str, isi_dct_list, isi_dct_tuple, isi_dct_dict, g_nm, g_tp, g_nil, g_cons, List.getElem?_cons_succ, List.getElem?_cons_zero, List.set_cons_succ, List.set_cons_zero, truD, isNon, if_false, Bool.false_eq_true]
        refine kont_nx ?_
        simp only [wpS_seq, wpS_gNm, wpS_asg, wpS_ifS, wpS_drop, wpS_ret, wpS_retN, wpS_stF, wpS_augF, wpS_augI, wpS_augV, wpS_par', wpS_par3', wpS_some, wpS_mNx, wpS_mCt, wpS_mBk, kont_rt, kont_ct, kont_bk, fin_rt, fin_nx, wp_mK, wp_v, vO_some, wp_ret, wp_bnd, wp_op, wp_op1, wp_call, wp_fn, wp_cons, wp_nil, wp_tup, wp_lst, wp_obj, wp_oNone, wp_oSome, intO_int, wp_sl, wp_mIf, wp_mAnd, wp_mOr, wp_mNot, wp_mB, wp_mAndV, wp_mOrV, wp_mNotV, wp_mChain, wp_mTru, isBl_bl, truO_some, x_addI, x_addJ, x_sub, x_mod, x_div, x_mul, x_pow, x_shl, x_shr, x_band, x_bor, x_bxor, x_lt, x_le, x_gt, x_ge, x_neg, x_eqI, x_neI, x_eqS, x_neS, x_isN, x_isNN, x_int, x_abs, x_max2, x_min2, x_d1, x_d2, x_mkL, x_mkT, x_mkO, x_mkD, x_mkDo, x_ix, ixO_some, x_len, lenO_some, x_list, wpO_some, x_slT, x_slL, x_addLL, x_addTT, blO_some, x_isi, wp_isiT, x_fld, x_getI, wp_mMeth, wp_mMake, wp_mMt, wp_mLc, wp_mIt, wp_range1, wp_range2, wp_range3, wpS_for, isi_non_bool, isi_non_int, isi_non_str, isi_non_list, isi_non_tuple, isi_non_dict, isi_bl_bool, isi_bl_int, isi_bl_str, isi_bl_list, isi_bl_tuple, isi_bl_dict, isi_int_bool, isi_int_int, isi_int_str, isi_int_list, isi_int_tuple, isi_int_dict, isi_str_bool, isi_str_int, isi_str_str, isi_str_list, isi_str_tuple, isi_str_dict, isi_lst_bool, isi_lst_int, isi_lst_str, isi_lst_list, isi_lst_tuple, isi_lst_dict, isi_src_bool, isi_src_int, isi_src_str, isi_src_list, isi_src_tuple, isi_src_dict, isi_tup_bool, isi_tup_int, isi_tup_str, isi_tup_list, isi_tup_tuple, isi_tup_dict, isi_dct_bool, isi_dct_int, isi_dct_str, isi_dct_list, isi_dct_tuple, isi_dct_dict, g_nm, g_tp, g_nil, g_cons, List.getElem?_cons_succ, List.getElem?_cons_zero, List.set_cons_succ, List.set_cons_zero, truD, if_false, Bool.false_eq_true]
        refine kont_nx ?_
        simp only [wpS_seq, wpS_gNm, wpS_asg, wpS_ifS, wpS_drop, wpS_ret, wpS_retN, wpS_stF, wpS_augF, wpS_augI, wpS_augV, wpS_par', wpS_par3', wpS_some, wpS_mNx, wpS_mCt, wpS_mBk, kont_rt, kont_ct, kont_bk, fin_rt, fin_nx, wp_mK, wp_v, vO_some, wp_ret, wp_bnd, wp_op, wp_op1, wp_call, wp_fn, wp_cons, wp_nil, wp_tup, wp_lst, wp_obj, wp_oNone, wp_oSome, intO_int, wp_sl, wp_mIf, wp_mAnd, wp_mOr, wp_mNot, wp_mB, wp_mAndV, wp_mOrV, wp_mNotV, wp_mChain, wp_mTru, isBl_bl, truO_some, x_addI, x_addJ, x_sub, x_mod, x_div, x_mul, x_pow, x_shl, x_shr, x_band, x_bor, x_bxor, x_lt, x_le, x_gt, x_ge, x_neg, x_eqI, x_neI, x_eqS, x_neS, x_isN, x_isNN, x_int, x_abs, x_max2, x_min2, x_d1, x_d2, x_mkL, x_mkT, x_mkO, x_mkD, x_mkDo, x_ix, ixO_some, x_len, lenO_some, x_list, wpO_some, x_slT, x_slL, x_addLL, x_addTT, blO_some, x_isi, wp_isiT, x_fld, x_getI, wp_mMeth, wp_mMake, wp_mMt, wp_mLc, wp_mIt, wp_range1, wp_range2, wp_range3, wpS_for, isi_non_bool, isi_non_int, isi_non_str, isi_non_list, isi_non_tuple, isi_non_dict, isi_bl_bool, isi_bl_int, isi_bl_str, isi_bl_list, isi_bl_tuple, isi_bl_dict, isi_int_bool, isi_int_int, isi_int_str, isi_int_list, isi_int_tuple, isi_int_dict, isi_str_bool, isi_str_int, isi_str_str, isi_str_list, isi_str_tuple, isi_str_dict, isi_lst_bool, isi_lst_int, isi_lst_str, isi_lst_list, isi_lst_tuple, isi_lst_dict, isi_src_bool, isi_src_int, isi_src_str, isi_src_list, isi_src_tuple, isi_src_dict, isi_tup_bool, isi_tup_int, isi_tup_str, isi_tup_list, isi_tup_tuple, isi_tup_dict, isi_dct_bool, isi_dct_int, isi_dct_str, isi_dct_list, isi_dct_tuple, isi_dct_dict, g_nm, g_tp, g_nil, g_cons, List.getElem?_cons_succ, List.getElem?_cons_zero, List.set_cons_succ, List.set_cons_zero, truD, if_false, Bool.false_eq_true]
        refine kont_nx ?_
        simp only [wpS_seq, wpS_gNm, wpS_asg, wpS_ifS, wpS_drop, wpS_ret, wpS_retN, wpS_stF, wpS_augF, wpS_augI, wpS_augV, wpS_par', wpS_par3', wpS_some, wpS_mNx, wpS_mCt, wpS_mBk, kont_rt, kont_ct, kont_bk, fin_rt, fin_nx, wp_mK, wp_v, vO_some, wp_ret, wp_bnd, wp_op, wp_op1, wp_call, wp_fn, wp_cons, wp_nil, wp_tup, wp_lst, wp_obj, wp_oNone, wp_oSome, intO_int, wp_sl, wp_mIf, wp_mAnd, wp_mOr, wp_mNot, wp_mB, wp_mAndV, wp_mOrV, wp_mNotV, wp_mChain, wp_mTru, isBl_bl, truO_some, x_addI, x_addJ, x_sub, x_mod, x_div, x_mul, x_pow, x_shl, x_shr, x_band, x_bor, x_bxor, x_lt, x_le, x_gt, x_ge, x_neg, x_eqI, x_neI, x_eqS, x_neS, x_isN, x_isNN, x_int, x_abs, x_max2, x_min2, x_d1, x_d2, x_mkL, x_mkT, x_mkO, x_mkD, x_mkDo, x_ix, ixO_some, x_len, lenO_some, x_list, wpO_some, x_slT, x_slL, x_addLL, x_addTT, blO_some, x_isi, wp_isiT, x_fld, x_getI, wp_mMeth, wp_mMake, wp_mMt, wp_mLc, wp_mIt, wp_range1, wp_range2, wp_range3, wpS_for, isi_non_bool, isi_non_int, isi_non_str, isi_non_list, isi_non_tuple, isi_non_dict, isi_bl_bool, isi_bl_int, isi_bl_str, isi_bl_list, isi_bl_tuple, isi_bl_dict, isi_int_bool, isi_int_int, isi_int_str, isi_int_list, isi_int_tuple, isi_int_dict, isi_str_bool, isi_str_int, isi_str_str, isi_str_list, isi_str_tuple, isi_str_dict, isi_lst_bool, isi_lst_int, isi_lst_str, isi_lst_list, isi_lst_tuple, isi_lst_dict, isi_src_bool, isi_src_int, isi_src_str, isi_src_list, isi_src_tuple, isi_src_dict, isi_tup_bool, isi_tup_int, isi_tup_str, isi_tup_list, isi_tup_tuple, isi_tup_dict, isi_dct_bool, isi_dct_int, isi_dct_str, isi_dct_list, isi_dct_tuple, isi_dct_dict, g_nm, g_tp, g_nil, g_cons, List.getElem?_cons_succ, List.getElem?_cons_zero, List.set_cons_succ, List.set_cons_zero, truD, if_true, Bool.not_false, decide_true]
        exact ⟨by first | rfl | trivial, by first | rfl | trivial⟩
      · simp only [wpS_seq, wpS_gNm, wpS_asg, wpS_ifS, wpS_drop, wpS_ret, wpS_retN, wpS_stF, wpS_augF, wpS_augI, wpS_augV, wpS_par', wpS_par3', wpS_some, wpS_mNx, wpS_mCt, wpS_mBk, kont_rt, kont_ct, kont_bk, fin_rt, fin_nx, wp_mK, wp_v, vO_some, wp_ret, wp_bnd, wp_op, wp_op1, wp_call, wp_fn, wp_cons, wp_nil, wp_tup, wp_lst, wp_obj, wp_oNone, wp_oSome, intO_int, wp_sl, wp_mIf, wp_mAnd, wp_mOr, wp_mNot, wp_mB, wp_mAndV, wp_mOrV, wp_mNotV, wp_mChain, wp_mTru, isBl_bl, truO_some, x_addI, x_addJ, x_sub, x_mod, x_div, x_mul, x_pow, x_shl, x_shr, x_band, x_bor, x_bxor, x_lt, x_le, x_gt, x_ge, x_neg, x_eqI, x_neI, x_eqS, x_neS, x_isN, x_isNN, x_int, x_abs, x_max2, x_min2, x_d1, x_d2, x_mkL, x_mkT, x_mkO, x_mkD, x_mkDo, x_ix, ixO_some, x_len, lenO_some, x_list, wpO_some, x_slT, x_slL, x_addLL, x_addTT, blO_some, x_isi, wp_isiT, x_fld, x_getI, wp_mMeth, wp_mMake, wp_mMt, wp_mLc, wp_mIt, wp_range1, wp_range2, wp_range3, wpS_for, isi_non_bool, isi_non_int, isi_non_str, isi_non_list, isi_non_tuple, isi_non_dict, isi_bl_bool, isi_bl_int, isi_bl_str, isi_bl_list, isi_bl_tuple, isi_bl_dict, isi_int_bool, isi_int_int, isi_int_str, isi_int_list, isi_int_tuple, isi_int_dict, isi_str_bool, isi_str_int, isi_str_str, isi_str_list, isi_str_tuple, isi_str_dict, isi_lst_bool, isi_lst_int, isi_lst_str, isi_lst_list, isi_lst_tuple, isi_lst_dict, isi_src_bool, isi_src_int, isi_src_str, isi_src_list, isi_src_tuple, isi_src_dict, isi_tup_bool, isi_tup_int, isi_tup_str, isi_tup_list, isi_tup_tuple, isi_tup_dict, isi_dct_bool, isi_dct_int, isi_dct_str, isi_dct_list, isi_dct_tuple, isi_dct_dict, g_nm, g_tp, g_nil, g_cons, List.getElem?_cons_succ, List.getElem?_cons_zero, List.set_cons_succ, List.set_cons_zero, truD, isN_lst hy, if_false, Bool.false_eq_true]
        refine kont_nx ?_
        simp only [wpS_seq, wpS_gNm, wpS_asg, wpS_ifS, wpS_drop, wpS_ret, wpS_retN, wpS_stF, wpS_augF, wpS_augI, wpS_augV, wpS_par', wpS_par3', wpS_some, wpS_mNx, wpS_mCt, wpS_mBk, kont_rt, kont_ct, kont_bk, fin_rt, fin_nx, wp_mK, wp_v, vO_some, wp_ret, wp_bnd, wp_op, wp_op1, wp_call, wp_fn, wp_cons, wp_nil, wp_tup, wp_lst, wp_obj, wp_oNone, wp_oSome, intO_int, wp_sl, wp_mIf, wp_mAnd, wp_mOr, wp_mNot, wp_mB, wp_mAndV, wp_mOrV, wp_mNotV, wp_mChain, wp_mTru, isBl_bl, truO_some, x_addI, x_addJ, x_sub, x_mod, x_div, x_mul, x_pow, x_shl, x_shr, x_band, x_bor, x_bxor, x_lt, x_le, x_gt, x_ge, x_neg, x_eqI, x_neI, x_eqS, x_neS, x_isN, x_isNN, x_int, x_abs, x_max2, x_min2, x_d1, x_d2, x_mkL, x_mkT, x_mkO, x_mkD, x_mkDo, x_ix, ixO_some, x_len, lenO_some, x_list, wpO_some, x_slT, x_slL, x_addLL, x_addTT, blO_some, x_isi, wp_isiT, x_fld, x_getI, wp_mMeth, wp_mMake, wp_mMt, wp_mLc, wp_mIt, wp_range1, wp_range2, wp_range3, wpS_for, isi_non_bool, isi_non_int, isi_non_str, isi_non_list, isi_non_tuple, isi_non_dict, isi_bl_bool, isi_bl_int, isi_bl_str, isi_bl_list, isi_bl_tuple, isi_bl_dict, isi_int_bool, isi_int_int, isi_int_str, isi_int_list, isi_int_tuple, isi_int_dict, isi_str_bool, isi_str_int, isi_str_str, isi_str_list, isi_str_tuple, isi_str_dict, isi_lst_bool, isi_lst_int, isi_lst_str, isi_lst_list, isi_lst_tuple, isi_lst_dict, isi_src_bool, isi_src_int, isi_src_str, isi_src_list, isi_src_tuple, isi_src_dict, isi_tup_bool, isi_tup_int, isi_tup_str, isi_tup_list, isi_tup_tuple, isi_tup_dict, isi_dct_bool, isi_dct_int, isi_dct_str, isi_dct_list, isi_dct_tuple, isi_dct_dict, g_nm, g_tp, g_nil, g_cons, List.getElem?_cons_succ, List.getElem?_cons_zero, List.set_cons_succ, List.set_cons_zero, truD, if_false, Bool.false_eq_true, isi_lst hy, isiB_list_bool]
        refine kont_nx ?_
        simp only [wpS_seq, wpS_gNm, wpS_asg, wpS_ifS, wpS_drop, wpS_ret, wpS_retN, wpS_stF, wpS_augF, wpS_augI, wpS_augV, wpS_par', wpS_par3', wpS_some, wpS_mNx, wpS_mCt, wpS_mBk, kont_rt, kont_ct, kont_bk, fin_rt, fin_nx, wp_mK, wp_v, vO_some, wp_ret, wp_bnd, wp_op, wp_op1, wp_call, wp_fn, wp_cons, wp_nil, wp_tup, wp_lst, wp_obj, wp_oNone, wp_oSome, intO_int, wp_sl, wp_mIf, wp_mAnd, wp_mOr, wp_mNot, wp_mB, wp_mAndV, wp_mOrV, wp_mNotV, wp_mChain, wp_mTru, isBl_bl, truO_some, x_addI, x_addJ, x_sub, x_mod, x_div, x_mul, x_pow, x_shl, x_shr, x_band, x_bor, x_bxor, x_lt, x_le, x_gt, x_ge, x_neg, x_eqI, x_neI, x_eqS, x_neS, x_isN, x_isNN, x_int, x_abs, x_max2, x_min2, x_d1, x_d2, x_mkL, x_mkT, x_mkO, x_mkD, x_mkDo, x_ix, ixO_some, x_len, lenO_some, x_list, wpO_some, x_slT, x_slL, x_addLL, x_addTT, blO_some, x_isi, wp_isiT, x_fld, x_getI, wp_mMeth, wp_mMake, wp_mMt, wp_mLc, wp_mIt, wp_range1, wp_range2, wp_range3, wpS_for, isi_non_bool, isi_non_int, isi_non_str, isi_non_list, isi_non_tuple, isi_non_dict, isi_bl_bool, isi_bl_int, isi_bl_str, isi_bl_list, isi_bl_tuple, isi_bl_dict, isi_int_bool, isi_int_int, isi_int_str, isi_int_list, isi_int_tuple, isi_int_dict, isi_str_bool, isi_str_int, isi_str_str, isi_str_list, isi_str_tuple, isi_str_dict, isi_lst_bool, isi_lst_int, isi_lst_str, isi_lst_list, isi_lst_tuple, isi_lst_dict, isi_src_bool, isi_src_int, isi_src_str, isi_src_list, isi_src_tuple, isi_src_dict, isi_tup_bool, isi_tup_int, isi_tup_str, isi_tup_list, isi_tup_tuple, isi_tup_dict, isi_dct_bool, isi_dct_int, isi_dct_str, isi_dct_list, isi_dct_tuple, isi_dct_dict, g_nm, g_tp, g_nil, g_cons, List.getElem?_cons_succ, List.getElem?_cons_zero, List.set_cons_succ, List.set_cons_zero, truD, if_false, Bool.false_eq_true, isi_lst hy, isiB_list_int]
        refine kont_nx ?_
        simp only [wpS_seq, wpS_gNm, wpS_asg, wpS_ifS, wpS_drop, wpS_ret, wpS_retN, wpS_stF, wpS_augF, wpS_augI, wpS_augV, wpS_par', wpS_par3', wpS_some, wpS_mNx, wpS_mCt, wpS_mBk, kont_rt, kont_ct, kont_bk, fin_rt, fin_nx, wp_mK, wp_v, vO_some, wp_ret, wp_bnd, wp_op, wp_op1, wp_call, wp_fn, wp_cons, wp_nil, wp_tup, wp_lst, wp_obj, wp_oNone, wp_oSome, intO_int, wp_sl, wp_mIf, wp_mAnd, wp_mOr, wp_mNot, wp_mB, wp_mAndV, wp_mOrV, wp_mNotV, wp_mChain, wp_mTru, isBl_bl, truO_some, x_addI, x_addJ, x_sub, x_mod, x_div, x_mul, x_pow, x_shl, x_shr, x_band, x_bor, x_bxor, x_lt, x_le, x_gt, x_ge, x_neg, x_eqI, x_neI, x_eqS, x_neS, x_isN, x_isNN, x_int, x_abs, x_max2, x_min2, x_d1, x_d2, x_mkL, x_mkT, x_mkO, x_mkD, x_mkDo, x_ix, ixO_some, x_len, lenO_some, x_list, wpO_some, x_slT, x_slL, x_addLL, x_addTT, blO_some, x_isi, wp_isiT, x_fld, x_getI, wp_mMeth, wp_mMake, wp_mMt, wp_mLc, wp_mIt, wp_range1, wp_range2, wp_range3, wpS_for, isi_non_bool, isi_non_int, isi_non_str, isi_non_list, isi_non_tuple, isi_non_dict, isi_bl_bool, isi_bl_int, isi_bl_str, isi_bl_list, isi_bl_tuple, isi_bl_dict, isi_int_bool, isi_int_int, isi_int_str, isi_int_list, isi_int_tuple, isi_int_dict, isi_str_bool, isi_str_int, isi_str_str, isi_str_list, isi_str_tuple, isi_str_dict, isi_lst_bool, isi_lst_int, isi_lst_str, isi_lst_list, isi_lst_tuple, isi_lst_dict, isi_src_bool, isi_src_int, isi_src_str, isi_src_list, isi_src_tuple, isi_src_dict, isi_tup_bool, isi_tup_int, isi_tup_str, isi_tup_list, isi_tup_tuple, isi_tup_dict, isi_dct_bool, isi_dct_int, isi_dct_str, isi_dct_list, isi_dct_tuple, isi_dct_dict, g_nm, g_tp, g_nil, g_cons, List.getElem?_cons_succ, List.getElem?_cons_zero, List.set_cons_succ, List.set_cons_zero, truD, if_false, Bool.false_eq_true, isi_lst hy, isiB_list_str]
        refine kont_nx ?_
        simp only [wpS_seq, wpS_gNm, wpS_asg, wpS_ifS, wpS_drop, wpS_ret, wpS_retN, wpS_stF, wpS_augF, wpS_augI, wpS_augV, wpS_par', wpS_par3', wpS_some, wpS_mNx, wpS_mCt, wpS_mBk, kont_rt, kont_ct, kont_bk, fin_rt, fin_nx, wp_mK, wp_v, vO_some, wp_ret, wp_bnd, wp_op, wp_op1, wp_call, wp_fn, wp_cons, wp_nil, wp_tup, wp_lst, wp_obj, wp_oNone, wp_oSome, intO_int, wp_sl, wp_mIf, wp_mAnd, wp_mOr, wp_mNot, wp_mB, wp_mAndV, wp_mOrV, wp_mNotV, wp_mChain, wp_mTru, isBl_bl, truO_some, x_addI, x_addJ, x_sub, x_mod, x_div, x_mul, x_pow, x_shl, x_shr, x_band, x_bor, x_bxor, x_lt, x_le, x_gt, x_ge, x_neg, x_eqI, x_neI, x_eqS, x_neS, x_isN, x_isNN, x_int, x_abs, x_max2, x_min2, x_d1, x_d2, x_mkL, x_mkT, x_mkO, x_mkD, x_mkDo, x_ix, ixO_some, x_len, lenO_some, x_list, wpO_some, x_slT, x_slL, x_addLL, x_addTT, blO_some, x_isi, wp_isiT, x_fld, x_getI, wp_mMeth, wp_mMake, wp_mMt, wp_mLc, wp_mIt, wp_range1, wp_range2, wp_range3, wpS_for, isi_non_bool, isi_non_int, isi_non_str, isi_non_list, isi_non_tuple, isi_non_dict, isi_bl_bool, isi_bl_int, isi_bl_str, isi_bl_list, isi_bl_tuple, isi_bl_dict, isi_int_bool, isi_int_int, isi_int_str, isi_int_list, isi_int_tuple, isi_int_dict, isi_str_bool, isi_str_int, isi_str_str, isi_str_list, isi_str_tuple, isi_str_dict, isi_lst_bool, isi_lst_int, isi_lst_str, isi_lst_list, isi_lst_tuple, isi_lst_dict, isi_src_bool, isi_src_int, isi_src_str, isi_src_list, isi_src_tuple, isi_src_dict, isi_tup_bool, isi_tup_int, isi_tup_str, isi_tup_list, isi_tup_tuple, isi_tup_dict, isi_dct_bool, isi_dct_int, isi_dct_str, isi_dct_list, isi_dct_tuple, isi_dct_dict, g_nm, g_tp, g_nil, g_cons, List.getElem?_cons_succ, List.getElem?_cons_zero, List.set_cons_succ, List.set_cons_zero, truD, if_false, Bool.false_eq_true, isi_lst hy, isiB_list_dict]
        refine kont_nx ?_
        simp only [wpS_seq, wpS_gNm, wpS_asg, wpS_ifS, wpS_drop, wpS_ret, wpS_retN, wpS_stF, wpS_augF, wpS_augI, wpS_augV, wpS_par', wpS_par3', wpS_some, wpS_mNx, wpS_mCt, wpS_mBk, kont_rt, kont_ct, kont_bk, fin_rt, fin_nx, wp_mK, wp_v, vO_some, wp_ret, wp_bnd, wp_op, wp_op1, wp_call, wp_fn, wp_cons, wp_nil, wp_tup, wp_lst, wp_obj, wp_oNone, wp_oSome, intO_int, wp_sl, wp_mIf, wp_mAnd, wp_mOr, wp_mNot, wp_mB, wp_mAndV, wp_mOrV, wp_mNotV, wp_mChain, wp_mTru, isBl_bl, truO_some, x_addI, x_addJ, x_sub, x_mod, x_div, x_mul, x_pow, x_shl, x_shr, x_band, x_bor, x_bxor, x_lt, x_le, x_gt, x_ge, x_neg, x_eqI, x_neI, x_eqS, x_neS, x_isN, x_isNN, x_int, x_abs, x_max2, x_min2, x_d1, x_d2, x_mkL, x_mkT, x_mkO, x_mkD, x_mkDo, x_ix, ixO_some, x_len, lenO_some, x_list, wpO_some, x_slT, x_slL, x_addLL, x_addTT, blO_some, x_isi, wp_isiT, x_fld, x_getI, wp_mMeth, wp_mMake, wp_mMt, wp_mLc, wp_mIt, wp_range1, wp_range2, wp_range3, wpS_for, isi_non_bool, isi_non_int, isi_non_str, isi_non_list, isi_non_tuple, isi_non_dict, isi_bl_bool, isi_bl_int, isi_bl_str, isi_bl_list, isi_bl_tuple, isi_bl_dict, isi_int_bool, isi_int_int, isi_int_str, isi_int_list, isi_int_tuple, isi_int_dict, isi_str_bool, isi_str_int, isi_str_str, isi_str_list, isi_str_tuple, isi_str_dict, isi_lst_bool, isi_lst_int, isi_lst_str, isi_lst_list, isi_lst_tuple, isi_lst_dict, isi_src_bool, isi_src_int, isi_src_str, isi_src_list, isi_src_tuple, isi_src_dict, isi_tup_bool, isi_tup_int, isi_tup_str, isi_tup_list, isi_tup_tuple, isi_tup_dict, isi_dct_bool, isi_dct_int, isi_dct_str, isi_dct_list, isi_dct_tuple, isi_dct_dict, g_nm, g_tp, g_nil, g_cons, List.getElem?_cons_succ, List.getElem?_cons_zero, List.set_cons_succ, List.set_cons_zero, truD, if_true, isi_lst hy, isiB_list, isi_lst hx]
        refine kont_nx ?_
        exact seqEnd (seq_lst hx) (seq_lst hy) (len_lst hx) (len_lst hy) (fun i => ixAt_lst hx) (fun i => ixAt_lst hy) hl hz (fun i d e hd he => same_at (h i d e hd he)) ⟨rfl, rfl⟩
      · simp only [wpS_seq, wpS_gNm, wpS_asg, wpS_ifS, wpS_drop, wpS_ret, wpS_retN, wpS_stF, wpS_augF, wpS_augI, wpS_augV, wpS_par', wpS_par3', wpS_some, wpS_mNx, wpS_mCt, wpS_mBk, kont_rt, kont_ct, kont_bk, fin_rt, fin_nx, wp_mK, wp_v, vO_some, wp_ret, wp_bnd, wp_op, wp_op1, wp_call, wp_fn, wp_cons, wp_nil, wp_tup, wp_lst, wp_obj, wp_oNone, wp_oSome, intO_int, wp_sl, wp_mIf, wp_mAnd, wp_mOr, wp_mNot, wp_mB, wp_mAndV, wp_mOrV, wp_mNotV, wp_mChain, wp_mTru, isBl_bl, truO_some, x_addI, x_addJ, x_sub, x_mod, x_div, x_mul, x_pow, x_shl, x_shr, x_band, x_bor, x_bxor, x_lt, x_le, x_gt, x_ge, x_neg, x_eqI, x_neI, x_eqS, x_neS, x_isN, x_isNN, x_int, x_abs, x_max2, x_min2, x_d1, x_d2, x_mkL, x_mkT, x_mkO, x_mkD, x_mkDo, x_ix, ixO_some, x_len, lenO_some, x_list, wpO_some, x_slT, x_slL, x_addLL, x_addTT, blO_some, x_isi, wp_isiT, x_fld, x_getI, wp_mMeth, wp_mMake, wp_mMt, wp_mLc, wp_mIt, wp_range1, wp_range2, wp_range3, wpS_for, isi_non_bool, isi_non_int, isi_non_str, isi_non_list, isi_non_tuple, isi_non_dict, isi_bl_bool, isi_bl_int, isi_bl_str, isi_bl_list, isi_bl_tuple, isi_bl_dict, isi_int_bool, isi_int_int, isi_int_str, isi_int_list, isi_int_tuple, isi_int_dict, isi_str_bool, isi_str_int, isi_str_str, isi_str_list, isi_str_tuple, isi_str_dict, isi_lst_bool, isi_lst_int, isi_lst_str, isi_lst_list, isi_lst_tuple, isi_lst_dict, isi_src_bool, isi_src_int, isi_src_str, isi_src_list, isi_src_tuple, isi_src_dict, isi_tup_bool, isi_tup_int, isi_tup_str, isi_tup_list, isi_tup_tuple, isi_tup_dict, isi_dct_bool, isi_dct_int, isi_dct_str, isi_dct_list, isi_dct_tuple, isi_dct_dict, g_nm, g_tp, g_nil, g_cons, List.getElem?_cons_succ, List.getElem?_cons_zero, List.set_cons_succ, List.set_cons_zero, truD, isNon, if_false, Bool.false_eq_true]
        refine kont_nx ?_
        simp only [wpS_seq, wpS_gNm, wpS_asg, wpS_ifS, wpS_drop, wpS_ret, wpS_retN, wpS_stF, wpS_augF, wpS_augI, wpS_augV, wpS_par', wpS_par3', wpS_some, wpS_mNx, wpS_mCt, wpS_mBk, kont_rt, kont_ct, kont_bk, fin_rt, fin_nx, wp_mK, wp_v, vO_some, wp_ret, wp_bnd, wp_op, wp_op1, wp_call, wp_fn, wp_cons, wp_nil, wp_tup, wp_lst, wp_obj, wp_oNone, wp_oSome, intO_int, wp_sl, wp_mIf, wp_mAnd, wp_mOr, wp_mNot, wp_mB, wp_mAndV, wp_mOrV, wp_mNotV, wp_mChain, wp_mTru, isBl_bl, truO_some, x_addI, x_addJ, x_sub, x_mod, x_div, x_mul, x_pow, x_shl, x_shr, x_band, x_bor, x_bxor, x_lt, x_le, x_gt, x_ge, x_neg, x_eqI, x_neI, x_eqS, x_neS, x_isN, x_isNN, x_int, x_abs, x_max2, x_min2, x_d1, x_d2, x_mkL, x_mkT, x_mkO, x_mkD, x_mkDo, x_ix, ixO_some, x_len, lenO_some, x_list, wpO_some, x_slT, x_slL, x_addLL, x_addTT, blO_some, x_isi, wp_isiT, x_fld, x_getI, wp_mMeth, wp_mMake, wp_mMt, wp_mLc, wp_mIt, wp_range1, wp_range2, wp_range3, wpS_for, isi_non_bool, isi_non_int, isi_non_str, isi_non_list, isi_non_tuple, isi_non_dict, isi_bl_bool, isi_bl_int, isi_bl_str, isi_bl_list, isi_bl_tuple, isi_bl_dict, isi_int_bool, isi_int_int, isi_int_str, isi_int_list, isi_int_tuple, isi_int_dict, isi_str_bool, isi_str_int, isi_str_str, isi_str_list, isi_str_tuple, isi_str_dict, isi_lst_bool, isi_lst_int, isi_lst_str, isi_lst_list, isi_lst_tuple, isi_lst_dict, isi_src_bool, isi_src_int, isi_src_str, isi_src_list, isi_src_tuple, isi_src_dict, isi_tup_bool, isi_tup_int, isi_tup_str, isi_tup_list, isi_tup_tuple, isi_tup_dict, isi_dct_bool, isi_dct_int, isi_dct_str, isi_dct_list, isi_dct_tuple, isi_dct_dict, g_nm, g_tp, g_nil, g_cons, List.getElem?_cons_succ, List.getElem?_cons_zero, List.set_cons_succ, List.set_cons_zero, truD, if_false, Bool.false_eq_true]
        refine kont_nx ?_
        simp only [wpS_seq, wpS_gNm, wpS_asg, wpS_ifS, wpS_drop, wpS_ret, wpS_retN, wpS_stF, wpS_augF, wpS_augI, wpS_augV, wpS_par', wpS_par3', wpS_some, wpS_mNx, wpS_mCt, wpS_mBk, kont_rt, kont_ct, kont_bk, fin_rt, fin_nx, wp_mK, wp_v, vO_some, wp_ret, wp_bnd, wp_op, wp_op1, wp_call, wp_fn, wp_cons, wp_nil, wp_tup, wp_lst, wp_obj, wp_oNone, wp_oSome, intO_int, wp_sl, wp_mIf, wp_mAnd, wp_mOr, wp_mNot, wp_mB, wp_mAndV, wp_mOrV, wp_mNotV, wp_mChain, wp_mTru, isBl_bl, truO_some, x_addI, x_addJ, x_sub, x_mod, x_div, x_mul, x_pow, x_shl, x_shr, x_band, x_bor, x_bxor, x_lt, x_le, x_gt, x_ge, x_neg, x_eqI, x_neI, x_eqS, x_neS, x_isN, x_isNN, x_int, x_abs, x_max2, x_min2, x_d1, x_d2, x_mkL, x_mkT, x_mkO, x_mkD, x_mkDo, x_ix, ixO_some, x_len, lenO_some, x_list, wpO_some, x_slT, x_slL, x_addLL, x_addTT, blO_some, x_isi, wp_isiT, x_fld, x_getI, wp_mMeth, wp_mMake, wp_mMt, wp_mLc, wp_mIt, wp_range1, wp_range2, wp_range3, wpS_for, isi_non_bool, isi_non_int, isi_non_str, isi_non_list, isi_non_tuple, isi_non_dict, isi_bl_bool, isi_bl_int, isi_bl_str, isi_bl_list, isi_bl_tuple, isi_bl_dict, isi_int_bool, isi_int_int, isi_int_str, isi_int_list, isi_int_tuple, isi_int_dict, isi_str_bool, isi_str_int, isi_str_str, isi_str_list, isi_str_tuple, isi_str_dict, isi_lst_bool, isi_lst_int, isi_lst_str, isi_lst_list, isi_lst_tuple, isi_lst_dict, isi_src_bool, isi_src_int, isi_src_str, isi_src_list, isi_src_tuple, isi_src_dict, isi_tup_bool, isi_tup_int, isi_tup_str, isi_tup_list, isi_tup_tuple, isi_tup_dict, isi_dct_bool, isi_dct_int, isi_dct_str, isi_dct_list, isi_dct_tuple, isi_dct_dict, g_nm, g_tp, g_nil, g_cons, List.getElem?_cons_succ, List.getElem?_cons_zero, List.set_cons_succ, List.set_cons_zero, truD, if_false, Bool.false_eq_true]
        refine kont_nx ?_
        simp only [wpS_seq, wpS_gNm, wpS_asg, wpS_ifS, wpS_drop, wpS_ret, wpS_retN, wpS_stF, wpS_augF, wpS_augI, wpS_augV, wpS_par', wpS_par3', wpS_some, wpS_mNx, wpS_mCt, wpS_mBk, kont_rt, kont_ct, kont_bk, fin_rt, fin_nx, wp_mK, wp_v, vO_some, wp_ret, wp_bnd, wp_op, wp_op1, wp_call, wp_fn, wp_cons, wp_nil, wp_tup, wp_lst, wp_obj, wp_oNone, wp_oSome, intO_int, wp_sl, wp_mIf, wp_mAnd, wp_mOr, wp_mNot, wp_mB, wp_mAndV, wp_mOrV, wp_mNotV, wp_mChain, wp_mTru, isBl_bl, truO_some, x_addI, x_addJ, x_sub, x_mod, x_div, x_mul, x_pow, x_shl, x_shr, x_band, x_bor, x_bxor, x_lt, x_le, x_gt, x_ge, x_neg, x_eqI, x_neI, x_eqS, x_neS, x_isN, x_isNN, x_int, x_abs, x_max2, x_min2, x_d1, x_d2, x_mkL, x_mkT, x_mkO, x_mkD, x_mkDo, x_ix, ixO_some, x_len, lenO_some, x_list, wpO_some, x_slT, x_slL, x_addLL, x_addTT, blO_some, x_isi, wp_isiT, x_fld, x_getI, wp_mMeth, wp_mMake, wp_mMt, wp_mLc, wp_mIt, wp_range1, wp_range2, wp_range3, wpS_for, isi_non_bool, isi_non_int, isi_non_str, isi_non_list, isi_non_tuple, isi_non_dict, isi_bl_bool, isi_bl_int, isi_bl_str, isi_bl_list, isi_bl_tuple, isi_bl_dict, isi_int_bool, isi_int_int, isi_int_str, isi_int_list, isi_int_tuple, isi_int_dict, isi_str_bool, isi_str_int, isi_str_str, isi_str_list, isi_str_tuple, isi_str_dict, isi_lst_bool, isi_lst_int, isi_lst_str, isi_lst_list, isi_lst_tuple, isi_lst_dict, isi_src_bool, isi_src_int, isi_src_str, isi_src_list, isi_src_tuple, isi_src_dict, isi_tup_bool, isi_tup_int, isi_tup_str, isi_tup_list, isi_tup_tuple, isi_tup_dict, isi_dct_bool, isi_dct_int, isi_dct_str, isi_dct_list, isi_dct_tuple, isi_dct_dict, g_nm, g_tp, g_nil, g_cons, List.getElem?_cons_succ, List.getElem?_cons_zero, List.set_cons_succ, List.set_cons_zero, truD, if_false, Bool.false_eq_true]
        refine kont_nx ?_
        simp only [wpS_seq, wpS_gNm, wpS_asg, wpS_ifS, wpS_drop, wpS_ret, wpS_retN, wpS_stF, wpS_augF, wpS_augI, wpS_augV, wpS_par', wpS_par3', wpS_some, wpS_mNx, wpS_mCt, wpS_mBk, kont_rt, kont_ct, kont_bk, fin_rt, fin_nx, wp_mK, wp_v, vO_some, wp_ret, wp_bnd, wp_op, wp_op1, wp_call, wp_fn, wp_cons, wp_nil, wp_tup, wp_lst, wp_obj, wp_oNone, wp_oSome, intO_int, wp_sl, wp_mIf, wp_mAnd, wp_mOr, wp_mNot, wp_mB, wp_mAndV, wp_mOrV, wp_mNotV, wp_mChain, wp_mTru, isBl_bl, truO_some, x_addI, x_addJ, x_sub, x_mod, x_div, x_mul, x_pow, x_shl, x_shr, x_band, x_bor, x_bxor, x_lt, x_le, x_gt, x_ge, x_neg, x_eqI, x_neI, x_eqS, x_neS, x_isN, x_isNN, x_int, x_abs, x_max2, x_min2, x_d1, x_d2, x_mkL, x_mkT, x_mkO, x_mkD, x_mkDo, x_ix, ixO_some, x_len, lenO_some, x_list, wpO_some, x_slT, x_slL, x_addLL, x_addTT, blO_some, x_isi, wp_isiT, x_fld, x_getI, wp_mMeth, wp_mMake, wp_mMt, wp_mLc, wp_mIt, wp_range1, wp_range2, wp_range3, wpS_for, isi_non_bool, isi_non_int, isi_non_str, isi_non_list, isi_non_tuple, isi_non_dict, isi_bl_bool, isi_bl_int, isi_bl_str, isi_bl_list, isi_bl_tuple, isi_bl_dict, isi_int_bool, isi_int_int, isi_int_str, isi_int_list, isi_int_tuple, isi_int_dict, isi_str_bool, isi_str_int, isi_str_str, isi_str_list, isi_str_tuple, isi_str_dict, isi_lst_bool, isi_lst_int, isi_lst_str, isi_lst_list, isi_lst_tuple, isi_lst_dict, isi_src_bool, isi_src_int, isi_src_str, isi_src_list, isi_src_tuple, isi_src_dict, isi_tup_bool, isi_tup_int, isi_tup_str, isi_tup_list, isi_tup_tuple, isi_tup_dict, isi_dct_bool, isi_dct_int, isi_dct_str, isi_dct_list, isi_dct_tuple, isi_dct_dict, g_nm, g_tp, g_nil, g_cons, List.getElem?_cons_succ, List.getElem?_cons_zero, List.set_cons_succ, List.set_cons_zero, truD, if_false, Bool.false_eq_true]
        refine kont_nx ?_
        simp only [wpS_seq, wpS_gNm, wpS_asg, wpS_ifS, wpS_drop, wpS_ret, wpS_retN, wpS_stF, wpS_augF, wpS_augI, wpS_augV, wpS_par', wpS_par3', wpS_some, wpS_mNx, wpS_mCt, wpS_mBk, kont_rt, kont_ct, kont_bk, fin_rt, fin_nx, wp_mK, wp_v, vO_some, wp_ret, wp_bnd, wp_op, wp_op1, wp_call, wp_fn, wp_cons, wp_nil, wp_tup, wp_lst, wp_obj, wp_oNone, wp_oSome, intO_int, wp_sl, wp_mIf, wp_mAnd, wp_mOr, wp_mNot, wp_mB, wp_mAndV, wp_mOrV, wp_mNotV, wp_mChain, wp_mTru, isBl_bl, truO_some, x_addI, x_addJ, x_sub, x_mod, x_div, x_mul, x_pow, x_shl, x_shr, x_band, x_bor, x_bxor, x_lt, x_le, x_gt, x_ge, x_neg, x_eqI, x_neI, x_eqS, x_neS, x_isN, x_isNN, x_int, x_abs, x_max2, x_min2, x_d1, x_d2, x_mkL, x_mkT, x_mkO, x_mkD, x_mkDo, x_ix, ixO_some, x_len, lenO_some, x_list, wpO_some, x_slT, x_slL, x_addLL, x_addTT, blO_some, x_isi, wp_isiT, x_fld, x_getI, wp_mMeth, wp_mMake, wp_mMt, wp_mLc, wp_mIt, wp_range1, wp_range2, wp_range3, wpS_for, isi_non_bool, isi_non_int, isi_non_str, isi_non_list, isi_non_tuple, isi_non_dict, isi_bl_bool, isi_bl_int, isi_bl_str, isi_bl_list, isi_bl_tuple, isi_bl_dict, isi_int_bool, isi_int_int, isi_int_str, isi_int_list, isi_int_tuple, isi_int_dict, isi_str_bool, isi_str_int, isi_str_str, isi_str_list, isi_str_tuple, isi_str_dict, isi_lst_bool, isi_lst_int, isi_lst_str, isi_lst_list, isi_lst_tuple, isi_lst_dict, isi_src_bool, isi_src_int, isi_src_str, isi_src_list, isi_src_tuple, isi_src_dict, isi_tup_bool, isi_tup_int, isi_tup_str, isi_tup_list, isi_tup_tuple, isi_tup_dict, isi_dct_bool, isi_dct_int, isi_dct_str, isi_dct_list, isi_dct_tuple, isi_dct_dict, g_nm, g_tp, g_nil, g_cons, List.getElem?_cons_succ, List.getElem?_cons_zero, List.set_cons_succ, List.set_cons_zero, truD, if_false, Bool.false_eq_true]
        refine kont_nx ?_
        exact seqEnd rfl rfl rfl rfl (fun i => rfl) (fun i => rfl) hl hz (fun i d e hd he => same_at (h i d e hd he)) ⟨rfl, rfl⟩
    obtain ⟨v, S', e, rfl, rfl⟩ := wp_to w
    exact e
/-! dicts -/
theorem dct_lock {n : Nat} {o o' : MO} (e : S.get n = some o) (h : lockOf o = some o') (d : D) : dctOf (S.set n o') d = dctOf S d := by
  cases d with
  | obj k =>
    unfold dctOf
    dsimp only
    by_cases c : k = n
    · subst c
      rw [get_same, e]
      cases o <;> first | (cases h; rfl) | cases h
    · rw [get_ne c]
  | _ => rfl
theorem itk_no {env : En} {i : Nat} {d : D} {kvs : List (Key × D)} (he : env[i]? = some (some d)) (hl : dctOf S d = some kvs) (c : needLk S env [i] = false) : itAny S d = some (keysD kvs) := by
  cases d with
  | obj n =>
    unfold dctOf at hl
    unfold itAny
    dsimp only at hl ⊢
    cases e : S.get n with
    | none => rw [e] at hl; cases hl
    | some o =>
      rw [e] at hl
      have := need_no (d := .obj n) he e c
      cases o with
      | dk _ => cases this
      | lk _ => cases hl; rfl
      | _ => cases hl
  | dct _ => cases hl; rfl
  | _ => cases hl
theorem itk_lk {n : Nat} {o o' : MO} {kvs : List (Key × D)} (hl : dctOf S (.obj n) = some kvs) (ho : S.get n = some o) (hk : lockOf o = some o') : itAny (S.set n o') (.obj n) = some (keysD kvs) := by
  unfold dctOf at hl
  dsimp only at hl
  rw [ho] at hl
  unfold itAny
  dsimp only
  rw [get_same]
  cases o with
  | dk _ => cases hk; cases hl; rfl
  | _ => first | (cases hk; done) | (cases hl; done)
theorem comp_dct {env : En} {i j : Nat} {d : D} {kvs : List (Key × D)} {te : ME} {f : D → D} (he : env[i]? = some (some d)) (hl : dctOf S d = some kvs) (hz : kvs.length ≤ 16777216) (hp : ∀ x ∈ keysD kvs, ∀ S' : MS, (∀ d, dctOf S' d = dctOf S d) → te ((env.set j none).set j (some x)) S' = some (.ok (f x) S')) :
    mLkM [i] (mLc (mIt (mV i)) (gNm j) mYes te [j] mkL) env S = some (.ok (.lst ((keysD kvs).map f)) S) := by
  have hz' : (keysD kvs).length ≤ 16777216 := by unfold keysD; rw [List.length_map]; exact hz
  have core : ∀ S' : MS, (∀ d, dctOf S' d = dctOf S d) → itAny S' d = some (keysD kvs) → mLc (mIt (mV i)) (gNm j) mYes te [j] mkL env S' = some (.ok (.lst ((keysD kvs).map f)) S') := by
    intro S' hd hi
    have e1 : mIt (mV i) env S' = some (.ok (keysD kvs) S') := by
      unfold mIt
      rw [bnd_ok (m := mV i env) (a := d) (S' := S') (by unfold mV; rw [he])]
      rw [hi]
    unfold mLc
    rw [bnd_ok e1, bnd_ok (lc_pure (f := f) fun x hx => ⟨_, rfl, rfl, hp x hx S' hd⟩), if_pos (by rw [List.length_map]; exact hz')]
    unfold mkL
    rw [if_pos (by rw [List.length_map]; exact hz')]
  refine lkm_pure (fun c => core S (fun _ => rfl) (itk_no he hl c)) fun n o o' h1 h2 h3 => core _ (dct_lock h2 h3) ?_
  obtain rfl := ref_i he h1
  exact itk_lk hl h2 h3
theorem kind_dct {d : D} {kvs : List (Key × D)} (h : dctOf S d = some kvs) : kindOf S d = some "dict" := by
  cases d with
  | dct _ => rfl
  | obj n =>
    rw [kind_obj]
    unfold dctOf at h
    dsimp only at h
    cases e : S.get n with
    | none => rw [e] at h; cases h
    | some o =>
      rw [e] at h
      cases o <;> first | rfl | cases h
  | _ => cases h
theorem isi_dct {d : D} {kvs : List (Key × D)} {T : String} (h : dctOf S d = some kvs) : isiO S d T = isiB "dict" T := by
  unfold isiO
  rw [kind_dct h]
theorem isiB_dict : isiB "dict" "dict" = some true := by rfl
theorem isiB_dict_bool : isiB "dict" "bool" = some false := by rfl
theorem isiB_dict_int : isiB "dict" "int" = some false := by rfl
theorem isiB_dict_str : isiB "dict" "str" = some false := by rfl
theorem isN_dct {d : D} {kvs : List (Key × D)} (h : dctOf S d = some kvs) : isNon d = false := by
  cases d <;> first | rfl | cases h
theorem len_dct {d : D} {kvs : List (Key × D)} (h : dctOf S d = some kvs) : lenB S d = some (kvs.length : Int) := by
  unfold lenB
  rw [h]
theorem toKey_keyD (k : Key) : toKey (keyD k) = some k := by cases k <;> rfl
theorem same_dct {k : Nat} {x y : D} {kx ky : List (Key × D)} (hx : dctOf S x = some kx) (hy : dctOf S y = some ky) (hl : kx.length = ky.length) (hz : ky.length ≤ 16777216)
    (hv : ∀ p ∈ ky, ∃ d e, dLook kx p.1 = some d ∧ dLook ky p.1 = some e ∧ ∀ S', mSame k [d, e] S' = some (.ok (.bl true) S')) : mSame (k + 1) [x, y] S = some (.ok (.bl true) S) := by
  have w : wp (mSame (k + 1) [x, y]) S (fun v S' => v = .bl true ∧ S' = S) no := by
    rw [e_same]
    unfold bSame
    simp only [wpS_seq, wpS_gNm, wpS_asg, wpS_ifS, wpS_drop, wpS_ret, wpS_retN, wpS_stF, wpS_augF, wpS_augI, wpS_augV, wpS_par', wpS_par3', wpS_some, wpS_mNx, wpS_mCt, wpS_mBk, kont_rt, kont_ct, kont_bk, fin_rt, fin_nx, wp_mK, wp_v, vO_some, wp_ret, wp_bnd, wp_op, wp_op1, wp_call, wp_fn, wp_cons, wp_nil, wp_tup, wp_lst, wp_obj, wp_oNone, wp_oSome, intO_int, wp_sl, wp_mIf, wp_mAnd, wp_mOr, wp_mNot, wp_mB, wp_mAndV, wp_mOrV, wp_mNotV, wp_mChain, wp_mTru, isBl_bl, truO_some, x_addI, x_addJ, x_sub, x_mod, x_div, x_mul, x_pow, x_shl, x_shr, x_band, x_bor, x_bxor, x_lt, x_le, x_gt, x_ge, x_neg, x_eqI, x_neI, x_eqS, x_neS, x_isN, x_isNN, x_int, x_abs, x_max2, x_min2, x_d1, x_d2, x_mkL, x_mkT, x_mkO, x_mkD, x_mkDo, x_ix, ixO_some, x_len, lenO_some, x_list, wpO_some, x_slT, x_slL, x_addLL, x_addTT, blO_some, x_isi, wp_isiT, x_fld, x_getI, wp_mMeth, wp_mMake, wp_mMt, wp_mLc, wp_mIt, wp_range1, wp_range2, wp_range3, wpS_for, isi_non_bool, isi_non_int, isi_non_str, isi_non_list, isi_non_tuple, isi_non_dict, isi_bl_bool, isi_bl_int, isi_bl_str, isi_bl_list, isi_bl_tuple, isi_bl_dict, isi_int_bool, isi_int_int, isi_int_str, isi_int_list, isi_int_tuple, isi_int_dict, isi_str_bool, isi_str_int, isi_str_str, isi_str_list, isi_str_tuple, isi_str_dict, isi_lst_bool, isi_lst_int, isi_lst_str, isi_lst_list, isi_lst_tuple, isi_lst_dict, isi_src_bool, isi_src_int, isi_src_str, isi_src_list, isi_src_tuple, isi_src_dict, isi_tup_bool, isi_tup_int, isi_tup_str, isi_tup_list, isi_tup_tuple, isi_tup_dict, isi_dct_bool, isi_dct_int, isi_dct_str, isi_dct_list, isi_dct_tuple, isi_dct_dict, g_nm, g_tp, g_nil, g_cons, List.getElem?_cons_succ, List.getElem?_cons_zero, List.set_cons_succ, List.set_cons_zero, truD, isN_dct hy, if_false, Bool.false_eq_true]
    refine kont_nx ?_
    simp only [wpS_seq, wpS_gNm, wpS_asg, wpS_ifS, wpS_drop, wpS_ret, wpS_retN, wpS_stF, wpS_augF, wpS_augI, wpS_augV, wpS_par', wpS_par3', wpS_some, wpS_mNx, wpS_mCt, wpS_mBk, kont_rt, kont_ct, kont_bk, fin_rt, fin_nx, wp_mK, wp_v, vO_some, wp_ret, wp_bnd, wp_op, wp_op1, wp_call, wp_fn, wp_cons, wp_nil, wp_tup, wp_lst, wp_obj, wp_oNone, wp_oSome, intO_int, wp_sl, wp_mIf, wp_mAnd, wp_mOr, wp_mNot, wp_mB, wp_mAndV, wp_mOrV, wp_mNotV, wp_mChain, wp_mTru, isBl_bl, truO_some, x_addI, x_addJ, x_sub, x_mod, x_div, x_mul, x_pow, x_shl, x_shr, x_band, x_bor, x_bxor, x_lt, x_le, x_gt, x_ge, x_neg, x_eqI, x_neI, x_eqS, x_neS, x_isN, x_isNN, x_int, x_abs, x_max2, x_min2, x_d1, x_d2, x_mkL, x_mkT, x_mkO, x_mkD, x_mkDo, x_ix, ixO_some, x_len, lenO_some, x_list, wpO_some, x_slT, x_slL, x_addLL, x_addTT, blO_some, x_isi, wp_isiT, x_fld, x_getI, wp_mMeth, wp_mMake, wp_mMt, wp_mLc, wp_mIt, wp_range1, wp_range2, wp_range3, wpS_for, isi_non_bool, isi_non_int, isi_non_str, isi_non_list, isi_non_tuple, isi_non_dict, isi_bl_bool, isi_bl_int, isi_bl_str, isi_bl_list, isi_bl_tuple, isi_bl_dict, isi_int_bool, isi_int_int, isi_int_str, isi_int_list, isi_int_tuple, isi_int_dict, isi_str_bool, isi_str_int, isi_str_str, isi_str_list, isi_str_tuple, isi_str_dict, isi_lst_bool, isi_lst_int, isi_lst_str, isi_lst_list, isi_lst_tuple, isi_lst_dict, isi_src_bool, isi_src_int, isi_src_str, isi_src_list, isi_src_tuple, isi_src_dict, isi_tup_bool, isi_tup_int, isi_tup_str, isi_tup_list, isi_tup_tuple, isi_tup_dict, isi_dct_bool, isi_dct_int, isi_dct_str, isi_dct_list, isi_dct_tuple, isi_dct_dict, g_nm, g_tp, g_nil, g_cons, List.getElem?_cons_succ, List.getElem?_cons_zero, List.set_cons_succ, List.set_cons_zero, truD, if_false, Bool.false_eq_true, isi_dct hy, isiB_dict_bool]
    refine kont_nx ?_
    simp only [wpS_seq, wpS_gNm, wpS_asg, wpS_ifS, wpS_drop, wpS_ret, wpS_retN, wpS_stF, wpS_augF, wpS_augI, wpS_augV, wpS_par', wpS_par3', wpS_some, wpS_mNx, wpS_mCt, wpS_mBk, kont_rt, kont_ct, kont_bk, fin_rt, fin_nx, wp_mK, wp_v, vO_some, wp_ret, wp_bnd, wp_op, wp_op1, wp_call, wp_fn, wp_cons, wp_nil, wp_tup, wp_lst, wp_obj, wp_oNone, wp_oSome, intO_int, wp_sl, wp_mIf, wp_mAnd, wp_mOr, wp_mNot, wp_mB, wp_mAndV, wp_mOrV, wp_mNotV, wp_mChain, wp_mTru, isBl_bl, truO_some, x_addI, x_addJ, x_sub, x_mod, x_div, x_mul, x_pow, x_shl, x_shr, x_band, x_bor, x_bxor, x_lt, x_le, x_gt, x_ge, x_neg, x_eqI, x_neI, x_eqS, x_neS, x_isN, x_isNN, x_int, x_abs, x_max2, x_min2, x_d1, x_d2, x_mkL, x_mkT, x_mkO, x_mkD, x_mkDo, x_ix, ixO_some, x_len, lenO_some, x_list, wpO_some, x_slT, x_slL, x_addLL, x_addTT, blO_some, x_isi, wp_isiT, x_fld, x_getI, wp_mMeth, wp_mMake, wp_mMt, wp_mLc, wp_mIt, wp_range1, wp_range2, wp_range3, wpS_for, isi_non_bool, isi_non_int, isi_non_str, isi_non_list, isi_non_tuple, isi_non_dict, isi_bl_bool, isi_bl_int, isi_bl_str, isi_bl_list, isi_bl_tuple, isi_bl_dict, isi_int_bool, isi_int_int, isi_int_str, isi_int_list, isi_int_tuple, isi_int_dict, isi_str_bool, isi_str_int, isi_str_str, isi_str_list, isi_str_tuple, isi_str_dict, isi_lst_bool, isi_lst_int, isi_lst_str, isi_lst_list, isi_lst_tuple, isi_lst_dict, isi_src_bool, isi_src_int, isi_src_str, isi_src_list, isi_src_tuple, isi_src_dict, isi_tup_bool, isi_tup_int, isi_tup_str, isi_tup_list, isi_tup_tuple, isi_tup_dict, isi_dct_bool, isi_dct_int, isi_dct_str, isi_dct_list, isi_dct_tuple, isi_dct_dict, g_nm, g_tp, g_nil, g_cons, List.getElem?_cons_succ, List.getElem?_cons_zero, List.set_cons_succ, List.set_cons_zero, truD, if_false, Bool.false_eq_true, isi_dct hy, isiB_dict_int]
    refine kont_nx ?_
    simp only [wpS_seq, wpS_gNm, wpS_asg, wpS_ifS, wpS_drop, wpS_ret, wpS_retN, wpS_stF, wpS_augF, wpS_augI, wpS_augV, wpS_par', wpS_par3', wpS_some, wpS_mNx, wpS_mCt, wpS_mBk, kont_rt, kont_ct, kont_bk, fin_rt, fin_nx, wp_mK, wp_v, vO_some, wp_ret, wp_bnd, wp_op, wp_op1, wp_call, wp_fn, wp_cons, wp_nil, wp_tup, wp_lst, wp_obj, wp_oNone, wp_oSome, intO_int, wp_sl, wp_mIf, wp_mAnd, wp_mOr, wp_mNot, wp_mB, wp_mAndV, wp_mOrV, wp_mNotV, wp_mChain, wp_mTru, isBl_bl, truO_some, x_addI, x_addJ, x_sub, x_mod, x_div, x_mul, x_pow, x_shl, x_shr, x_band, x_bor, x_bxor, x_lt, x_le, x_gt, x_ge, x_neg, x_eqI, x_neI, x_eqS, x_neS, x_isN, x_isNN, x_int, x_abs, x_max2, x_min2, x_d1, x_d2, x_mkL, x_mkT, x_mkO, x_mkD, x_mkDo, x_ix, ixO_some, x_len, lenO_some, x_list, wpO_some, x_slT, x_slL, x_addLL, x_addTT, blO_some, x_isi, wp_isiT, x_fld, x_getI, wp_mMeth, wp_mMake, wp_mMt, wp_mLc, wp_mIt, wp_range1, wp_range2, wp_range3, wpS_for, isi_non_bool, isi_non_int, isi_non_str, isi_non_list, isi_non_tuple, isi_non_dict, isi_bl_bool, isi_bl_int, isi_bl_str, isi_bl_list, isi_bl_tuple, isi_bl_dict, isi_int_bool, isi_int_int, isi_int_str, isi_int_list, isi_int_tuple, isi_int_dict, isi_str_bool, isi_str_int, isi_str_str, isi_str_list, isi_str_tuple, isi_str_dict, isi_lst_bool, isi_lst_int, isi_lst_str, isi_lst_list, isi_lst_tuple, isi_lst_dict, isi_src_bool, isi_src_int, isi_src_str, isi_src_list, isi_src_tuple, isi_src_dict, isi_tup_bool, isi_tup_int, isi_tup_str, isi_tup_list, isi_tup_tuple, isi_tup_dict, isi_dct_bool, isi_dct_int, isi_dct_str, isi_dct_list, isi_dct_tuple, isi_dct_dict, g_nm, g_tp, g_nil, g_cons, List.getElem?_cons_succ, List.getElem?_cons_zero, List.set_cons_succ, List.set_cons_zero, truD, if_false, Bool.false_eq_true, isi_dct hy, isiB_dict_str]
    refine kont_nx ?_
    simp only [wpS_seq, wpS_gNm, wpS_asg, wpS_ifS, wpS_drop, wpS_ret, wpS_retN, wpS_stF, wpS_augF, wpS_augI, wpS_augV, wpS_par', wpS_par3', wpS_some, wpS_mNx, wpS_mCt, wpS_mBk, kont_rt, kont_ct, kont_bk, fin_rt, fin_nx, wp_mK, wp_v, vO_some, wp_ret, wp_bnd, wp_op, wp_op1, wp_call, wp_fn, wp_cons, wp_nil, wp_tup, wp_lst, wp_obj, wp_oNone, wp_oSome, intO_int, wp_sl, wp_mIf, wp_mAnd, wp_mOr, wp_mNot, wp_mB, wp_mAndV, wp_mOrV, wp_mNotV, wp_mChain, wp_mTru, isBl_bl, truO_some, x_addI, x_addJ, x_sub, x_mod, x_div, x_mul, x_pow, x_shl, x_shr, x_band, x_bor, x_bxor, x_lt, x_le, x_gt, x_ge, x_neg, x_eqI, x_neI, x_eqS, x_neS, x_isN, x_isNN, x_int, x_abs, x_max2, x_min2, x_d1, x_d2, x_mkL, x_mkT, x_mkO, x_mkD, x_mkDo, x_ix, ixO_some, x_len, lenO_some, x_list, wpO_some, x_slT, x_slL, x_addLL, x_addTT, blO_some, x_isi, wp_isiT, x_fld, x_getI, wp_mMeth, wp_mMake, wp_mMt, wp_mLc, wp_mIt, wp_range1, wp_range2, wp_range3, wpS_for, isi_non_bool, isi_non_int, isi_non_str, isi_non_list, isi_non_tuple, isi_non_dict, isi_bl_bool, isi_bl_int, isi_bl_str, isi_bl_list, isi_bl_tuple, isi_bl_dict, isi_int_bool, isi_int_int, isi_int_str, isi_int_list, isi_int_tuple, isi_int_dict, isi_str_bool, isi_str_int, isi_str_str, isi_str_list, isi_str_tuple, isi_str_dict, isi_lst_bool, isi_lst_int, isi_lst_str, isi_lst_list, isi_lst_tuple, isi_lst_dict, isi_src_bool, isi_src_int, isi_src_str, isi_src_list, isi_src_tuple, isi_src_dict, isi_tup_bool, isi_tup_int, isi_tup_str, isi_tup_list, isi_tup_tuple, isi_tup_dict, isi_dct_bool, isi_dct_int, isi_dct_str, isi_dct_list, isi_dct_tuple, isi_dct_dict, g_nm, g_tp, g_nil, g_cons, List.getElem?_cons_succ, List.getElem?_cons_zero, List.set_cons_succ, List.set_cons_zero, truD, if_true, if_false, Bool.false_eq_true, isi_dct hy, isi_dct hx, isiB_dict, Bool.not_true, len_dct hx, len_dct hy, hl, decide_true]
    have c1 := comp_dct (S := S) (env := [some x, some y, none, none, none]) (i := 1) (j := 3) (te := mOp dIn (mV 3) (mV 0)) (f := fun _ => .bl true) rfl hy hz (fun q hq S' hd => by
      unfold keysD at hq
      obtain ⟨p, hp, rfl⟩ := List.mem_map.mp hq
      obtain ⟨d, e, h1, h2, _⟩ := hv p hp
      have w : wp (mOp dIn (mV 3) (mV 0) [some x, some y, none, some (keyD p.1), none]) S' (fun v S'' => v = .bl true ∧ S'' = S') no := by
        have e1 : dInB S' (keyD p.1) x = some true := by
          unfold dInB
          rw [hd x, hx]
          dsimp only
          rw [toKey_keyD]
          dsimp only
          rw [h1] <;> rfl
        simp only [wpS_seq, wpS_gNm, wpS_asg, wpS_ifS, wpS_drop, wpS_ret, wpS_retN, wpS_stF, wpS_augF, wpS_augI, wpS_augV, wpS_par', wpS_par3', wpS_some, wpS_mNx, wpS_mCt, wpS_mBk, kont_rt, kont_ct, kont_bk, fin_rt, fin_nx, wp_mK, wp_v, vO_some, wp_ret, wp_bnd, wp_op, wp_op1, wp_call, wp_fn, wp_cons, wp_nil, wp_tup, wp_lst, wp_obj, wp_oNone, wp_oSome, intO_int, wp_sl, wp_mIf, wp_mAnd, wp_mOr, wp_mNot, wp_mB, wp_mAndV, wp_mOrV, wp_mNotV, wp_mChain, wp_mTru, isBl_bl, truO_some, x_addI, x_addJ, x_sub, x_mod, x_div, x_mul, x_pow, x_shl, x_shr, x_band, x_bor, x_bxor, x_lt, x_le, x_gt, x_ge, x_neg, x_eqI, x_neI, x_eqS, x_neS, x_isN, x_isNN, x_int, x_abs, x_max2, x_min2, x_d1, x_d2, x_mkL, x_mkT, x_mkO, x_mkD, x_mkDo, x_ix, ixO_some, x_len, lenO_some, x_list, wpO_some, x_slT, x_slL, x_addLL, x_addTT, blO_some, x_isi, wp_isiT, x_fld, x_getI, wp_mMeth, wp_mMake, wp_mMt, wp_mLc, wp_mIt, wp_range1, wp_range2, wp_range3, wpS_for, isi_non_bool, isi_non_int, isi_non_str, isi_non_list, isi_non_tuple, isi_non_dict, isi_bl_bool, isi_bl_int, isi_bl_str, isi_bl_list, isi_bl_tuple, isi_bl_dict, isi_int_bool, isi_int_int, isi_int_str, isi_int_list, isi_int_tuple, isi_int_dict, isi_str_bool, isi_str_int, isi_str_str, isi_str_list, isi_str_tuple, isi_str_dict, isi_lst_bool, isi_lst_int, isi_lst_str, isi_lst_list, isi_lst_tuple, isi_lst_dict, isi_src_bool, isi_src_int, isi_src_str, isi_src_list, isi_src_tuple, isi_src_dict, isi_tup_bool, isi_tup_int, isi_tup_str, isi_tup_list, isi_tup_tuple, isi_tup_dict, isi_dct_bool, isi_dct_int, isi_dct_str, isi_dct_list, isi_dct_tuple, isi_dct_dict, g_nm, g_tp, g_nil, g_cons, List.getElem?_cons_succ, List.getElem?_cons_zero, List.set_cons_succ, List.set_cons_zero, truD, x_in, e1]
        exact ⟨trivial, trivial⟩
      obtain ⟨v, S'', e3, rfl, rfl⟩ := wp_to w
      exact e3)
    rw [wp_of c1, x_all (bs := (keysD ky).map fun _ => true) (blsOf_map fun _ _ => rfl)]
    have t1 : ((keysD ky).map fun _ => true).all id = true := by simp
    rw [t1]
    simp only [wpS_seq, wpS_gNm, wpS_asg, wpS_ifS, wpS_drop, wpS_ret, wpS_retN, wpS_stF, wpS_augF, wpS_augI, wpS_augV, wpS_par', wpS_par3', wpS_some, wpS_mNx, wpS_mCt, wpS_mBk, kont_rt, kont_ct, kont_bk, fin_rt, fin_nx, wp_mK, wp_v, vO_some, wp_ret, wp_bnd, wp_op, wp_op1, wp_call, wp_fn, wp_cons, wp_nil, wp_tup, wp_lst, wp_obj, wp_oNone, wp_oSome, intO_int, wp_sl, wp_mIf, wp_mAnd, wp_mOr, wp_mNot, wp_mB, wp_mAndV, wp_mOrV, wp_mNotV, wp_mChain, wp_mTru, isBl_bl, truO_some, x_addI, x_addJ, x_sub, x_mod, x_div, x_mul, x_pow, x_shl, x_shr, x_band, x_bor, x_bxor, x_lt, x_le, x_gt, x_ge, x_neg, x_eqI, x_neI, x_eqS, x_neS, x_isN, x_isNN, x_int, x_abs, x_max2, x_min2, x_d1, x_d2, x_mkL, x_mkT, x_mkO, x_mkD, x_mkDo, x_ix, ixO_some, x_len, lenO_some, x_list, wpO_some, x_slT, x_slL, x_addLL, x_addTT, blO_some, x_isi, wp_isiT, x_fld, x_getI, wp_mMeth, wp_mMake, wp_mMt, wp_mLc, wp_mIt, wp_range1, wp_range2, wp_range3, wpS_for, isi_non_bool, isi_non_int, isi_non_str, isi_non_list, isi_non_tuple, isi_non_dict, isi_bl_bool, isi_bl_int, isi_bl_str, isi_bl_list, isi_bl_tuple, isi_bl_dict, isi_int_bool, isi_int_int, isi_int_str, isi_int_list, isi_int_tuple, isi_int_dict, isi_str_bool, isi_str_int, isi_str_str, isi_str_list, isi_str_tuple, isi_str_dict, isi_lst_bool, isi_lst_int, isi_lst_str, isi_lst_list, isi_lst_tuple, isi_lst_dict, isi_src_bool, isi_src_int, isi_src_str, isi_src_list, isi_src_tuple, isi_src_dict, isi_tup_bool, isi_tup_int, isi_tup_str, isi_tup_list, isi_tup_tuple, isi_tup_dict, isi_dct_bool, isi_dct_int, isi_dct_str, isi_dct_list, isi_dct_tuple, isi_dct_dict, g_nm, g_tp, g_nil, g_cons, List.getElem?_cons_succ, List.getElem?_cons_zero, List.set_cons_succ, List.set_cons_zero, truD, Bool.not_true, if_false, Bool.false_eq_true]
    refine kont_nx ?_
    simp only [wpS_seq, wpS_gNm, wpS_asg, wpS_ifS, wpS_drop, wpS_ret, wpS_retN, wpS_stF, wpS_augF, wpS_augI, wpS_augV, wpS_par', wpS_par3', wpS_some, wpS_mNx, wpS_mCt, wpS_mBk, kont_rt, kont_ct, kont_bk, fin_rt, fin_nx, wp_mK, wp_v, vO_some, wp_ret, wp_bnd, wp_op, wp_op1, wp_call, wp_fn, wp_cons, wp_nil, wp_tup, wp_lst, wp_obj, wp_oNone, wp_oSome, intO_int, wp_sl, wp_mIf, wp_mAnd, wp_mOr, wp_mNot, wp_mB, wp_mAndV, wp_mOrV, wp_mNotV, wp_mChain, wp_mTru, isBl_bl, truO_some, x_addI, x_addJ, x_sub, x_mod, x_div, x_mul, x_pow, x_shl, x_shr, x_band, x_bor, x_bxor, x_lt, x_le, x_gt, x_ge, x_neg, x_eqI, x_neI, x_eqS, x_neS, x_isN, x_isNN, x_int, x_abs, x_max2, x_min2, x_d1, x_d2, x_mkL, x_mkT, x_mkO, x_mkD, x_mkDo, x_ix, ixO_some, x_len, lenO_some, x_list, wpO_some, x_slT, x_slL, x_addLL, x_addTT, blO_some, x_isi, wp_isiT, x_fld, x_getI, wp_mMeth, wp_mMake, wp_mMt, wp_mLc, wp_mIt, wp_range1, wp_range2, wp_range3, wpS_for, isi_non_bool, isi_non_int, isi_non_str, isi_non_list, isi_non_tuple, isi_non_dict, isi_bl_bool, isi_bl_int, isi_bl_str, isi_bl_list, isi_bl_tuple, isi_bl_dict, isi_int_bool, isi_int_int, isi_int_str, isi_int_list, isi_int_tuple, isi_int_dict, isi_str_bool, isi_str_int, isi_str_str, isi_str_list, isi_str_tuple, isi_str_dict, isi_lst_bool, isi_lst_int, isi_lst_str, isi_lst_list, isi_lst_tuple, isi_lst_dict, isi_src_bool, isi_src_int, isi_src_str, isi_src_list, isi_src_tuple, isi_src_dict, isi_tup_bool, isi_tup_int, isi_tup_str, isi_tup_list, isi_tup_tuple, isi_tup_dict, isi_dct_bool, isi_dct_int, isi_dct_str, isi_dct_list, isi_dct_tuple, isi_dct_dict, g_nm, g_tp, g_nil, g_cons, List.getElem?_cons_succ, List.getElem?_cons_zero, List.set_cons_succ, List.set_cons_zero, truD]
    have c2 := comp_dct (S := S) (env := [some x, some y, none, none, none]) (i := 1) (j := 3) (te := mCall (mSame k) (mCons (mOp dIx (mV 0) (mV 3)) (mCons (mOp dIx (mV 1) (mV 3)) mNil))) (f := fun _ => .bl true) rfl hy hz (fun q hq S' hd => by
      unfold keysD at hq
      obtain ⟨p, hp, rfl⟩ := List.mem_map.mp hq
      obtain ⟨d, e, h1, h2, h3⟩ := hv p hp
      have w : wp (mCall (mSame k) (mCons (mOp dIx (mV 0) (mV 3)) (mCons (mOp dIx (mV 1) (mV 3)) mNil)) [some x, some y, none, some (keyD p.1), none]) S' (fun v S'' => v = .bl true ∧ S'' = S') no := by
        have e1 : ixAt S' x (keyD p.1) = some d := by
          unfold ixAt
          rw [hd x, hx]
          dsimp only
          rw [toKey_keyD]
          exact h1
        have e2 : ixAt S' y (keyD p.1) = some e := by
          unfold ixAt
          rw [hd y, hy]
          dsimp only
          rw [toKey_keyD]
          exact h2
        simp only [wpS_seq, wpS_gNm, wpS_asg, wpS_ifS, wpS_drop, wpS_ret, wpS_retN, wpS_stF, wpS_augF, wpS_augI, wpS_augV, wpS_par', wpS_par3', wpS_some, wpS_mNx, wpS_mCt, wpS_mBk, kont_rt, kont_ct, kont_bk, fin_rt, fin_nx, wp_mK, wp_v, vO_some, wp_ret, wp_bnd, wp_op, wp_op1, wp_call, wp_fn, wp_cons, wp_nil, wp_tup, wp_lst, wp_obj, wp_oNone, wp_oSome, intO_int, wp_sl, wp_mIf, wp_mAnd, wp_mOr, wp_mNot, wp_mB, wp_mAndV, wp_mOrV, wp_mNotV, wp_mChain, wp_mTru, isBl_bl, truO_some, x_addI, x_addJ, x_sub, x_mod, x_div, x_mul, x_pow, x_shl, x_shr, x_band, x_bor, x_bxor, x_lt, x_le, x_gt, x_ge, x_neg, x_eqI, x_neI, x_eqS, x_neS, x_isN, x_isNN, x_int, x_abs, x_max2, x_min2, x_d1, x_d2, x_mkL, x_mkT, x_mkO, x_mkD, x_mkDo, x_ix, ixO_some, x_len, lenO_some, x_list, wpO_some, x_slT, x_slL, x_addLL, x_addTT, blO_some, x_isi, wp_isiT, x_fld, x_getI, wp_mMeth, wp_mMake, wp_mMt, wp_mLc, wp_mIt, wp_range1, wp_range2, wp_range3, wpS_for, isi_non_bool, isi_non_int, isi_non_str, isi_non_list, isi_non_tuple, isi_non_dict, isi_bl_bool, isi_bl_int, isi_bl_str, isi_bl_list, isi_bl_tuple, isi_bl_dict, isi_int_bool, isi_int_int, isi_int_str, isi_int_list, isi_int_tuple, isi_int_dict, isi_str_bool, isi_str_int, isi_str_str, isi_str_list, isi_str_tuple, isi_str_dict, isi_lst_bool, isi_lst_int, isi_lst_str, isi_lst_list, isi_lst_tuple, isi_lst_dict, isi_src_bool, isi_src_int, isi_src_str, isi_src_list, isi_src_tuple, isi_src_dict, isi_tup_bool, isi_tup_int, isi_tup_str, isi_tup_list, isi_tup_tuple, isi_tup_dict, isi_dct_bool, isi_dct_int, isi_dct_str, isi_dct_list, isi_dct_tuple, isi_dct_dict, g_nm, g_tp, g_nil, g_cons, List.getElem?_cons_succ, List.getElem?_cons_zero, List.set_cons_succ, List.set_cons_zero, truD, e1, e2]
        rw [wp_of (h3 S')]
        exact ⟨rfl, rfl⟩
      obtain ⟨v, S'', e3, rfl, rfl⟩ := wp_to w
      exact e3)
    rw [wp_of c2, x_all (bs := (keysD ky).map fun _ => true) (blsOf_map fun _ _ => rfl), t1]
    exact ⟨rfl, rfl⟩
  obtain ⟨v, S', e, rfl, rfl⟩ := wp_to w
  exact e
/-- a list of draws -/
theorem lc_draws {n j lim : Nat} {env : En} {ds : List D} {Q : List D → MS → Prop} (he : env[1]? = some (some (.obj n))) (hj : j ≠ 1) (h : DrO S n) (h0 : 0 < lim) (h1 : lim < 1073741824)
    (k : ∀ (ns : List Nat) S', ns.length = ds.length → (∀ x ∈ ns, x < lim) → Dr n S S' → Q (ns.map fun x : Nat => D.int (x : Int)) S') : wp (lcM (gNm j) mYes (mCall mDraw (mCons (mV 1) (mCons (mK (.int (lim : Int))) mNil))) env ds) S Q E := by
  refine lc_inv (fun i acc S' => ∃ ns : List Nat, acc = (ns.map fun x : Nat => D.int (x : Int)) ∧ ns.length = i ∧ (∀ x ∈ ns, x < lim) ∧ Dr n S S') ⟨[], rfl, rfl, by simp, Dr.rfl' h⟩ ?_ fun acc S' ⟨ns, e, hl, hb, hd⟩ => by rw [e]; exact k ns S' hl hb hd
  rintro i d acc S' hi ⟨ns, rfl, hl, hb, hd⟩
  have e1 : (env.set j (some d))[1]? = some (some (.obj n)) := by rw [List.getElem?_set_ne (by omega)]; exact he
  simp only [wpS_seq, wpS_gNm, wpS_asg, wpS_ifS, wpS_drop, wpS_ret, wpS_retN, wpS_stF, wpS_augF, wpS_augI, wpS_augV, wpS_par', wpS_par3', wpS_some, wpS_mNx, wpS_mCt, wpS_mBk, kont_rt, kont_ct, kont_bk, fin_rt, fin_nx, wp_mK, wp_v, vO_some, wp_ret, wp_bnd, wp_op, wp_op1, wp_call, wp_fn, wp_cons, wp_nil, wp_tup, wp_lst, wp_obj, wp_oNone, wp_oSome, intO_int, wp_sl, wp_mIf, wp_mAnd, wp_mOr, wp_mNot, wp_mB, wp_mAndV, wp_mOrV, wp_mNotV, wp_mChain, wp_mTru, isBl_bl, truO_some, x_addI, x_addJ, x_sub, x_mod, x_div, x_mul, x_pow, x_shl, x_shr, x_band, x_bor, x_bxor, x_lt, x_le, x_gt, x_ge, x_neg, x_eqI, x_neI, x_eqS, x_neS, x_isN, x_isNN, x_int, x_abs, x_max2, x_min2, x_d1, x_d2, x_mkL, x_mkT, x_mkO, x_mkD, x_mkDo, x_ix, ixO_some, x_len, lenO_some, x_list, wpO_some, x_slT, x_slL, x_addLL, x_addTT, blO_some, x_isi, wp_isiT, x_fld, x_getI, wp_mMeth, wp_mMake, wp_mMt, wp_mLc, wp_mIt, wp_range1, wp_range2, wp_range3, wpS_for, isi_non_bool, isi_non_int, isi_non_str, isi_non_list, isi_non_tuple, isi_non_dict, isi_bl_bool, isi_bl_int, isi_bl_str, isi_bl_list, isi_bl_tuple, isi_bl_dict, isi_int_bool, isi_int_int, isi_int_str, isi_int_list, isi_int_tuple, isi_int_dict, isi_str_bool, isi_str_int, isi_str_str, isi_str_list, isi_str_tuple, isi_str_dict, isi_lst_bool, isi_lst_int, isi_lst_str, isi_lst_list, isi_lst_tuple, isi_lst_dict, isi_src_bool, isi_src_int, isi_src_str, isi_src_list, isi_src_tuple, isi_src_dict, isi_tup_bool, isi_tup_int, isi_tup_str, isi_tup_list, isi_tup_tuple, isi_tup_dict, isi_dct_bool, isi_dct_int, isi_dct_str, isi_dct_list, isi_dct_tuple, isi_dct_dict, g_nm, g_tp, g_nil, g_cons, List.getElem?_cons_succ, List.getElem?_cons_zero, List.set_cons_succ, List.set_cons_zero, truD, mYes, if_true, e1]
  refine draw_at hd.dr (by omega) (by omega) fun v S2 v0 v1 dr => ?_
  obtain ⟨m, rfl⟩ := Int.eq_ofNat_of_zero_le v0
  refine ⟨ns ++ [m], by simp, by simp [hl], fun x hx => ?_, hd.trans dr⟩
  rcases List.mem_append.mp hx with hx | hx
  · exact hb x hx
  · rw [List.mem_singleton.mp hx]; omega
theorem rngD1_nat {n : Nat} (h : n < 4611686018427387904) : rngD1 [D.int (n : Int)] = some (rngN 0 1 n) := by
  unfold rngD1
  dsimp only
  rw [if_pos (by omega)]
  simp
theorem rngN_len {lo c : Int} {n : Nat} : (rngN lo c n).length = n := by unfold rngN; simp
end
end Mi
/-! Gu: guards in plain Lean: the check over octets, that a change is seen. -/
namespace Gu
open PySem L2 Mi
def nn (ns : List Nat) : List D := ns.map (fun n : Nat => D.int (n : Int))
theorem nn_len {ns : List Nat} : (nn ns).length = ns.length := by unfold nn; simp
theorem nn_app {a b : List Nat} : nn a ++ nn b = nn (a ++ b) := by unfold nn; simp
def sb (f : Nat) : Nat := if f &&& 128 = 0 then f * 2 else ((f * 2) ^^^ 29) &&& 255
def sbk : Nat → Nat → Nat
  | 0, f => f
  | k + 1, f => sb (sbk k f)
def by1 (f n : Nat) : Nat := sbk 8 (f ^^^ n)
def crc (ns : List Nat) : Nat := ns.foldl by1 255 ^^^ 255
def is (g : Nat) : Nat := if g &&& 1 = 0 then g / 2 else ((g ^^^ 29) / 2) ||| 128
def isk : Nat → Nat → Nat
  | 0, f => f
  | k + 1, f => is (isk k f)
theorem sb_lt : ∀ f < 256, sb f < 256 := by decide +kernel
theorem is_sb : ∀ f < 256, isk 8 (sbk 8 f) = f := by decide +kernel
theorem sbk_lt {f : Nat} (h : f < 256) : ∀ k, sbk k f < 256
  | 0 => h
  | k + 1 => sb_lt _ (sbk_lt h k)
theorem xor_lt {a b : Nat} (h : a < 256) (g : b < 256) : a ^^^ b < 256 := Nat.xor_lt_two_pow (n := 8) h g
theorem by1_lt {f n : Nat} (h : f < 256) (g : n < 256) : by1 f n < 256 := sbk_lt (xor_lt h g) 8
theorem sbk_inj {a b : Nat} (h : a < 256) (g : b < 256) (e : sbk 8 a = sbk 8 b) : a = b := by
  rw [← is_sb a h, e, is_sb b g]
theorem xor_left {a b c : Nat} (h : a ^^^ b = a ^^^ c) : b = c := by
  have := congrArg (a ^^^ ·) h
  simpa [← Nat.xor_assoc] using this
theorem xor_right {a b c : Nat} (h : b ^^^ a = c ^^^ a) : b = c := xor_left (a := a) (by rw [Nat.xor_comm a b, Nat.xor_comm a c, h])
theorem fold_lt : ∀ {ns : List Nat} {f : Nat}, f < 256 → (∀ n ∈ ns, n < 256) → ns.foldl by1 f < 256
  | [], _, h, _ => h
  | n :: r, f, h, g => by
    show r.foldl by1 (by1 f n) < 256
    exact fold_lt (by1_lt h (g n List.mem_cons_self)) fun m hm => g m (List.mem_cons_of_mem _ hm)
theorem fold_inj : ∀ {ns : List Nat} {f g : Nat}, f < 256 → g < 256 → (∀ n ∈ ns, n < 256) → ns.foldl by1 f = ns.foldl by1 g → f = g
  | [], _, _, _, _, _, e => e
  | n :: r, f, g, hf, hg, hn, e => by
    have h1 := hn n List.mem_cons_self
    have := fold_inj (ns := r) (by1_lt hf h1) (by1_lt hg h1) (fun m hm => hn m (List.mem_cons_of_mem _ hm)) e
    exact xor_right (sbk_inj (xor_lt hf h1) (xor_lt hg h1) this)
theorem crc_lt {ns : List Nat} (h : ∀ n ∈ ns, n < 256) : crc ns < 256 := xor_lt (fold_lt (by decide) h) (by decide)
/-- one octet changed: the check differs -/
theorem crc_ne {a b : List Nat} {m n : Nat} (ha : ∀ x ∈ a, x < 256) (hb : ∀ x ∈ b, x < 256) (hm : m < 256) (hn : n < 256) (e : crc (a ++ m :: b) = crc (a ++ n :: b)) : m = n := by
  unfold crc at e
  have e := xor_right e
  rw [List.foldl_append, List.foldl_append, List.foldl_cons, List.foldl_cons] at e
  have hf : a.foldl by1 255 < 256 := fold_lt (by decide) ha
  have e2 := fold_inj (by1_lt hf hm) (by1_lt hf hn) hb e
  exact xor_left (sbk_inj (xor_lt hf hm) (xor_lt hf hn) e2)
/-! lists of ints compared -/
theorem pyI : ∀ ns : List Int, toPyL (ns.map D.int) = some (ns.map PyData.int)
  | [] => by simp [toPyL]
  | n :: r => by
    rw [List.map_cons]
    unfold toPyL
    rw [pyI r]
    simp [toPy]
theorem layI : ∀ ns : List Int, PyData.canLayAll0 (ns.map PyData.int) = true
  | [] => by simp [PyData.canLayAll0]
  | n :: r => by
    rw [List.map_cons]
    unfold PyData.canLayAll0
    rw [layI r]
    simp [PyData.canLay0]
theorem depI : ∀ ns : List Int, PyData.depthAll (ns.map PyData.int) = 0
  | [] => by simp [PyData.depthAll]
  | n :: r => by
    rw [List.map_cons]
    unfold PyData.depthAll
    rw [depI r]
    simp [PyData.depth]
theorem shI (ns : List Int) : SeqAt.shaped (.list (ns.map PyData.int)) = true := by
  unfold SeqAt.shaped
  have h1 : PyData.canLay0 (.list (ns.map PyData.int)) = true := by
    unfold PyData.canLay0
    exact layI ns
  have h2 : PyData.depth (.list (ns.map PyData.int)) ≤ 64 := by
    unfold PyData.depth
    rw [depI]
    decide
  rw [h1, decide_eq_true h2]
  rfl
theorem eqvI : ∀ a b : List Int, PyData.eqvAll (a.map PyData.int) (b.map PyData.int) = decide (a = b)
  | [], [] => by simp [PyData.eqvAll]
  | [], _ :: _ => by simp [PyData.eqvAll]
  | _ :: _, [] => by simp [PyData.eqvAll]
  | x :: a, y :: b => by
    rw [List.map_cons, List.map_cons]
    unfold PyData.eqvAll
    rw [eqvI a b]
    unfold PyData.eqv
    by_cases h : x = y
    · subst h; simp
    · simp [h]
/-- a list that may be compared: no lock lies on it -/
def Un (S : MS) (d : D) (ds : List D) : Prop := lstRd S d = some ds ∧ ∀ n, d = .obj n → S.get n = some (.lst ds)
theorem pyS {S : MS} {d : D} {ns : List Int} (h : Un S d (ns.map D.int)) : toPyS S d = some (.list (ns.map PyData.int)) := by
  obtain ⟨h1, h2⟩ := h
  unfold toPyS
  cases d with
  | lst ds =>
    cases h1
    dsimp only
    unfold toPy
    rw [pyI] <;> rfl
  | obj n =>
    dsimp only
    rw [h2 n rfl]
    dsimp only
    rw [pyI] <;> rfl
  | _ => cases h1
theorem eqB_lst {S : MS} {x y : D} {a b : List Int} (hx : Un S x (a.map D.int)) (hy : Un S y (b.map D.int)) : dEqB S x y = some (decide (a = b)) := by
  have key : (match toPyS S x, toPyS S y with
    | some p, some q => if (SeqAt.shaped p && SeqAt.shaped q) = true then some (PyData.eqv p q) else none
    | _, _ => none) = some (decide (a = b)) := by
    rw [pyS hx, pyS hy]
    dsimp only
    rw [shI, shI, if_pos (by rfl)]
    unfold PyData.eqv
    rw [eqvI]
  obtain ⟨h1, _⟩ := hx
  obtain ⟨h2, _⟩ := hy
  unfold dEqB
  cases x with
  | lst _ => exact key
  | obj _ => exact key
  | _ => cases h1
theorem nn_int (ns : List Nat) : nn ns = (ns.map fun n : Nat => (n : Int)).map D.int := by
  unfold nn
  rw [List.map_map] <;> rfl
theorem eqB_nn {S : MS} {x y : D} {a b : List Nat} (hx : Un S x (nn a)) (hy : Un S y (nn b)) : dEqB S x y = some (decide (a = b)) := by
  rw [nn_int] at hx hy
  rw [eqB_lst hx hy]
  congr 1
  refine decide_eq_decide.mpr ⟨fun h => ?_, fun h => by rw [h]⟩
  have inj : ∀ {a b : List Nat}, (a.map fun n : Nat => (n : Int)) = (b.map fun n : Nat => (n : Int)) → a = b := by
    intro a
    induction a with
    | nil =>
      intro b h
      cases b with
      | nil => rfl
      | cons _ _ => cases h
    | cons x a ih =>
      intro b h
      cases b with
      | nil => cases h
      | cons y b =>
        rw [List.map_cons, List.map_cons, List.cons.injEq] at h
        rw [ih h.2, show x = y by omega]
  exact inj h
/-- the guarded octets -/
def gd (ns : List Nat) (c key : Nat) : List Nat := crc (c :: (ns ++ [key / 256, key % 256])) :: c :: ns
theorem bx (a b : Nat) : Builtin.bitXor (a : Int) (b : Int) = ((a ^^^ b : Nat) : Int) := by
  rw [Bits.bitXor_pp (by omega) (by omega)]
  rfl
theorem ba (a b : Nat) : Builtin.bitAnd (a : Int) (b : Int) = ((a &&& b : Nat) : Int) := by
  unfold Builtin.bitAnd
  simp
theorem ba128 (a : Nat) : Builtin.bitAnd (a : Int) 128 = ((a &&& 128 : Nat) : Int) := ba a 128
theorem ba255 (a : Nat) : Builtin.bitAnd (a : Int) 255 = ((a &&& 255 : Nat) : Int) := ba a 255
theorem bx29 (a : Nat) : Builtin.bitXor (a : Int) 29 = ((a ^^^ 29 : Nat) : Int) := bx a 29
theorem bx255 (a : Nat) : Builtin.bitXor (a : Int) 255 = ((a ^^^ 255 : Nat) : Int) := bx a 255
theorem dbl (a : Nat) : (a : Int) * 2 ^ (1 : Int).toNat = ((a * 2 : Nat) : Int) := by
  show (a : Int) * 2 ^ 1 = _
  omega
theorem gd_len {data : List Nat} {wc kk : Nat} : (gd data wc kk).length = data.length + 2 := by unfold gd; simp
theorem xor_ne {a v : Nat} (h : 0 < v) : a ^^^ v ≠ a := by
  intro e
  have : a ^^^ v = a ^^^ 0 := by rw [e, Nat.xor_zero]
  have := xor_left this
  omega
theorem gd_lt {data : List Nat} {wc kk : Nat} (hdb : ∀ n ∈ data, n < 256) (hwc : wc ≤ 14) (hkk : kk ≤ 65535) : ∀ n ∈ gd data wc kk, n < 256 := by
  intro n hn
  unfold gd at hn
  rcases List.mem_cons.mp hn with rfl | hn
  · refine crc_lt fun n hn => ?_
    simp only [List.mem_cons, List.mem_append, List.not_mem_nil, or_false] at hn
    rcases hn with rfl | hn | rfl | rfl
    · omega
    · exact hdb n hn
    · omega
    · omega
  · rcases List.mem_cons.mp hn with rfl | hn
    · omega
    · exact hdb n hn
/-- one octet bent: not right -/
theorem flip_bad {data : List Nat} {wc kk q v : Nat} (hdb : ∀ n ∈ data, n < 256) (hwc : wc ≤ 14) (hkk : kk ≤ 65535) (hq : q < (gd data wc kk).length) (hv : 0 < v) (hv2 : v < 256) :
    ∃ x c ds, (gd data wc kk).set q ((gd data wc kk)[q] ^^^ v) = x :: c :: ds ∧ ds.length = data.length ∧ (∀ n ∈ x :: c :: ds, n < 256) ∧ ¬ (c ≤ 14 ∧ crc (c :: (ds ++ [kk / 256, kk % 256])) = x) := by
  have hg := gd_lt hdb hwc hkk
  have hk2 : ∀ n ∈ [kk / 256, kk % 256], n < 256 := by
    intro n hn
    simp only [List.mem_cons, List.not_mem_nil, or_false] at hn
    rcases hn with rfl | rfl <;> omega
  have hb : ∀ n ∈ (gd data wc kk).set q ((gd data wc kk)[q] ^^^ v), n < 256 := by
    intro n hn
    rcases List.mem_or_eq_of_mem_set hn with hn | rfl
    · exact hg n hn
    · exact xor_lt (hg _ (List.getElem_mem hq)) hv2
  unfold gd at hb hq ⊢
  match q, hq with
  | 0, hq => exact ⟨_, wc, data, rfl, rfl, hb, fun ⟨_, e⟩ => xor_ne hv e.symm⟩
  | 1, hq =>
    refine ⟨_, _, data, rfl, rfl, hb, fun ⟨_, e⟩ => ?_⟩
    have hk : ∀ n ∈ data ++ [kk / 256, kk % 256], n < 256 := fun n hn => (List.mem_append.mp hn).elim (hdb n) (hk2 n)
    exact xor_ne hv (crc_ne (a := []) (b := data ++ [kk / 256, kk % 256]) (m := wc ^^^ v) (n := wc) (by simp) hk (xor_lt (by omega) hv2) (by omega) e)
  | j + 2, hq =>
    have hj : j < data.length := by simpa using hq
    refine ⟨_, wc, data.set j (data[j] ^^^ v), rfl, by simp, hb, fun ⟨_, e⟩ => ?_⟩
    have e1 : data = data.take j ++ data[j] :: data.drop (j + 1) := by
      rw [← List.drop_eq_getElem_cons hj, List.take_append_drop]
    have e2 : data.set j (data[j] ^^^ v) = data.take j ++ (data[j] ^^^ v) :: data.drop (j + 1) := List.set_eq_take_append_cons_drop .. |>.trans (if_pos hj)
    have a1 : ∀ x ∈ wc :: data.take j, x < 256 := fun x hx => (List.mem_cons.mp hx).elim (fun z => by omega) fun z => hdb x (List.mem_of_mem_take z)
    have a2 : ∀ x ∈ data.drop (j + 1) ++ [kk / 256, kk % 256], x < 256 := fun x hx => (List.mem_append.mp hx).elim (fun z => hdb x (List.mem_of_mem_drop z)) (hk2 x)
    have dj : data[j] < 256 := hdb _ (List.getElem_mem hj)
    generalize hd : data[j] = dd at e1 e2 e dj
    rw [e2] at e
    have e3 : crc (wc :: (data ++ [kk / 256, kk % 256])) = crc (wc :: (data.take j ++ dd :: data.drop (j + 1) ++ [kk / 256, kk % 256])) := by rw [← e1]
    have e4 : crc ((wc :: data.take j) ++ (dd ^^^ v) :: (data.drop (j + 1) ++ [kk / 256, kk % 256])) = crc ((wc :: data.take j) ++ dd :: (data.drop (j + 1) ++ [kk / 256, kk % 256])) := by
      simp only [List.cons_append, List.append_assoc] at e e3 ⊢
      rw [e]
      exact e3
    exact xor_ne hv (crc_ne a1 a2 (xor_lt dj hv2) dj e4)
end Gu
/-! MiT: stepping: what a thing in the store gives, by what stands there; tests that wait. -/
namespace Mi
open PySem L2
section
variable {S : MS} {Q : D → MS → Prop} {P : D → MS → Prop} {E : Exn → MS → Prop} {R : Fl → Prop} {env : En} {mk : List D → M D} {n k : Nat} {ds xs ys : List D} {kvs : List (Key × D)} {c : Cl} {fs : List D} {d x y : D} {i j : Int} {o : MO}
/-! tests -/
/-- A and B are not looked into while the test waits: the last argument's type hangs on them -/
inductive Dp (A B : Prop) : Type
  | mk
def br (c : Bool) (A B : Prop) (h : Dp A B) : Prop := if c = true then A else B
theorem br_true {A B : Prop} {h : Dp A B} : br true A B h = A := propext ⟨fun h => h, fun h => h⟩
theorem br_false {A B : Prop} {h : Dp A B} : br false A B h = B := by unfold br; simp
theorem br_not {A B : Prop} {h : Dp A B} {b : Bool} : br (!b) A B h = br b B A .mk := by cases b <;> simp [br]
theorem br_if {c : Bool} {A B : Prop} : (if c = true then A else B) = br c A B .mk := rfl
theorem br_dec {p : Prop} [Decidable p] {A B : Prop} {z : Dp A B} (h : p → A) (g : ¬p → B) : br (decide p) A B z := by
  unfold br
  by_cases c : p
  · rw [if_pos (decide_eq_true c)]; exact h c
  · rw [if_neg (by rw [decide_eq_false c]; exact Bool.false_ne_true)]; exact g c
theorem br_cases {b : Bool} {A B : Prop} {z : Dp A B} (h : b = true → A) (g : b = false → B) : br b A B z := by
  cases b
  · exact g rfl
  · exact h rfl
theorem br_t {b : Bool} {A B : Prop} {z : Dp A B} (h : b = true) (g : A) : br b A B z := by rw [h]; exact g
theorem br_f {b : Bool} {A B : Prop} {z : Dp A B} (h : b = false) (g : B) : br b A B z := by rw [h]; exact (br_false ▸ g)
theorem br_p {p : Prop} [Decidable p] {A B : Prop} {z : Dp A B} (h : p) (g : A) : br (decide p) A B z := br_t (decide_eq_true h) g
theorem br_n {p : Prop} [Decidable p] {A B : Prop} {z : Dp A B} (h : ¬p) (g : B) : br (decide p) A B z := br_f (decide_eq_false h) g
theorem y_ifS {t : MT} {a b : MSt} : wpS (mIfS t a b env S) R = wp (t env) S (fun c S' => br c (wpS (a env S') R) (wpS (b env S') R) .mk) (fun e S' => R (.exc e env S')) := wpS_ifS
theorem y_mIf {t : MT} {a b : ME} : wp (mIf t a b env) S P E = wp (t env) S (fun c S' => br c (wp (a env) S' P E) (wp (b env) S' P E) .mk) E := wp_mIf
theorem y_mAnd {a b : MT} {P : Bool → MS → Prop} : wp (mAnd a b env) S P E = wp (a env) S (fun c S' => br c (wp (b env) S' P E) (P false S') .mk) E := wp_mAnd
theorem y_mOr {a b : MT} {P : Bool → MS → Prop} : wp (mOr a b env) S P E = wp (a env) S (fun c S' => br c (P true S') (wp (b env) S' P E) .mk) E := wp_mOr
theorem y_mAndV {a b : ME} : wp (mAndV a b env) S P E = wp (a env) S (isBl fun c S' => br c (wp (b env) S' P E) (P (.bl false) S') .mk) E := wp_mAndV
theorem y_mOrV {a b : ME} : wp (mOrV a b env) S P E = wp (a env) S (isBl fun c S' => br c (P (.bl true) S') (wp (b env) S' P E) .mk) E := wp_mOrV
theorem y_mChain {f g : D → D → M D} {a b c : ME} : wp (mChain f g a b c env) S P E = wp (a env) S (fun x S1 => wp (b env) S1 (fun y S2 => wp (f x y) S2 (isBl fun z S3 => br z (wp (c env) S3 (fun u S4 => wp (g y u) S4 P E) E) (P (.bl false) S3) .mk) E) E) E := wp_mChain
theorem k_nx {b : MSt} : kont b R (.nx env S) = wpS (b env S) R := propext Iff.rfl
theorem while_br {t : MT} {b : MSt} {env : En} {S : MS} {R : Fl → Prop} (Inv : Nat → En → MS → Prop) (n : Nat) (hn : n < fuelN) (h0 : Inv n env S)
    (hs : ∀ n env S, Inv n env S → wp (t env) S (fun c S' => br c (wpS (b env S') fun fl => match fl with
      | .nx e s => ∃ m, m < n ∧ Inv m e s
      | .ct e s => ∃ m, m < n ∧ Inv m e s
      | .bk e s => R (.nx e s)
      | .rt d s => R (.rt d s)
      | .exc x e s => R (.exc x e s))
      (R (.nx env S')) .mk) (fun e S' => R (.exc e env S'))) : wpS (mWhile t b env S) R := while_inv Inv n hn h0 hs
theorem lc_br {g : MG} {tt : MT} {te : ME} {env : En} {ds : List D} {S : MS} {Q : List D → MS → Prop} {E : Exn → MS → Prop} (Inv : Nat → List D → MS → Prop) (h0 : Inv 0 [] S)
    (hs : ∀ i d acc S, ds[i]? = some d → Inv i acc S → wpO (g d env S) fun z => wp (tt z.1) z.2 (fun c S1 => br c (wp (te z.1) S1 (fun y S2 => Inv (i + 1) (acc ++ [y]) S2) no) (Inv (i + 1) acc S1) .mk) no)
    (hd : ∀ acc S, Inv ds.length acc S → Q acc S) : wp (lcM g tt te env ds) S Q E := lc_inv Inv h0 hs hd
theorem y_yes {env : En} {S : MS} {P : Bool → MS → Prop} {E : Exn → MS → Prop} : wp (mYes env) S P E = P true S := propext Iff.rfl
/-! what stands there -/
def lstM : Option MO → Option (List D)
  | some (.lst ds) => some ds
  | some (.ll ds) => some ds
  | _ => none
def dctM : Option MO → Option (List (Key × D))
  | some (.dk kvs) => some kvs
  | some (.lk kvs) => some kvs
  | _ => none
theorem lstM_lst : lstM (some (.lst ds)) = some ds := rfl
theorem lstM_ll : lstM (some (.ll ds)) = some ds := rfl
theorem dctM_dk : dctM (some (.dk kvs)) = some kvs := rfl
theorem dctM_lk : dctM (some (.lk kvs)) = some kvs := rfl
theorem dctM_lst : dctM (some (.lst ds)) = none := rfl
theorem dctM_ll : dctM (some (.ll ds)) = none := rfl
theorem lstOf_obj : lstOf S (.obj n) = lstM (S.get n) := by
  unfold lstOf lstM
  dsimp only
  all_goals (
    cases S.get n with
    | none => rfl
    | some o => cases o <;> rfl)
theorem lstRd_obj : lstRd S (.obj n) = lstM (S.get n) := by
  unfold lstRd lstM
  dsimp only
  all_goals (
    cases S.get n with
    | none => rfl
    | some o => cases o <;> rfl)
theorem seqOf_obj : seqOf S (.obj n) = lstM (S.get n) := lstOf_obj
theorem dctOf_obj : dctOf S (.obj n) = dctM (S.get n) := by
  unfold dctOf dctM
  dsimp only
  all_goals (
    cases S.get n with
    | none => rfl
    | some o => cases o <;> rfl)
theorem lstOf_lst : lstOf S (.lst ds) = some ds := rfl
theorem lstOf_src : lstOf S (.src ds) = some ds := rfl
theorem lstRd_lst : lstRd S (.lst ds) = some ds := rfl
theorem seqOf_lst : seqOf S (.lst ds) = some ds := rfl
theorem seqOf_tup : seqOf S (.tup ds) = some ds := rfl
theorem seqOf_src : seqOf S (.src ds) = some ds := rfl
theorem dctOf_lst : dctOf S (.lst ds) = none := rfl
theorem dctOf_tup : dctOf S (.tup ds) = none := rfl
theorem dctOf_src : dctOf S (.src ds) = none := rfl
theorem dctOf_dct : dctOf S (.dct kvs) = some kvs := rfl
def itM : Option MO → Option (List D)
  | some (.ll ds) => some ds
  | some (.lk kvs) => some (keysD kvs)
  | _ => none
theorem itAny_obj : itAny S (.obj n) = itM (S.get n) := by
  unfold itAny itM
  dsimp only
  all_goals (
    cases S.get n with
    | none => rfl
    | some o => cases o <;> rfl)
theorem itM_ll : itM (some (.ll ds)) = some ds := rfl
theorem itM_lk : itM (some (.lk kvs)) = some (keysD kvs) := rfl
theorem itAny_lst : itAny S (.lst ds) = some ds := rfl
theorem itAny_src : itAny S (.src ds) = some ds := rfl
theorem itAny_tup : itAny S (.tup ds) = some ds := rfl
theorem itAny_dct : itAny S (.dct kvs) = some (keysD kvs) := rfl
def isiM (o : Option MO) (T : String) : Option Bool := match o.bind tyMO with
  | some k => isiB k T
  | none => none
theorem isi_obj {T : String} : isiO S (.obj n) T = isiM (S.get n) T := by
  unfold isiO isiM
  rw [kind_obj]
  all_goals rfl
theorem isiM_lst {T : String} : isiM (some (.lst ds)) T = isiB "list" T := rfl
theorem isiM_dk {T : String} : isiM (some (.dk kvs)) T = isiB "dict" T := rfl
def lenM (o : Option MO) : Option Int := match dctM o with
  | some kvs => some (kvs.length : Int)
  | none => (lstM o).map fun ds => (ds.length : Int)
theorem lenB_obj : lenB S (.obj n) = lenM (S.get n) := by
  unfold lenB lenM
  rw [dctOf_obj]
  cases dctM (S.get n) with
  | some kvs => rfl
  | none =>
    dsimp only
    rw [seqOf_obj]
    cases lstM (S.get n) <;> rfl
theorem lenM_lst : lenM (some (.lst ds)) = some (ds.length : Int) := rfl
theorem lenM_ll : lenM (some (.ll ds)) = some (ds.length : Int) := rfl
theorem lenM_dk : lenM (some (.dk kvs)) = some (kvs.length : Int) := rfl
theorem lenB_lst : lenB S (.lst ds) = some (ds.length : Int) := rfl
theorem lenB_tup : lenB S (.tup ds) = some (ds.length : Int) := rfl
theorem lenB_src : lenB S (.src ds) = some (ds.length : Int) := rfl
theorem lenB_dct : lenB S (.dct kvs) = some (kvs.length : Int) := rfl
def ixM (o : Option MO) (y : D) : Option D := match dctM o with
  | some kvs => match toKey y with
    | some k => dLook kvs k
    | none => none
  | none => match lstM o, y with
    | some es, .int i => atI es i
    | _, _ => none
theorem ixAt_obj : ixAt S (.obj n) y = ixM (S.get n) y := by
  unfold ixAt ixM
  rw [dctOf_obj, seqOf_obj]
  cases dctM (S.get n) with
  | some kvs => rfl
  | none =>
    dsimp only
    cases lstM (S.get n) with
    | some es => cases y <;> rfl
    | none => cases y <;> rfl
theorem getI_obj : getIAt S (.obj n) y = ixM (S.get n) y := by
  unfold getIAt ixM
  rw [dctOf_obj, lstOf_obj]
  all_goals rfl
theorem ixM_lst : ixM (some (.lst ds)) (.int i) = atI ds i := rfl
theorem ixM_ll : ixM (some (.ll ds)) (.int i) = atI ds i := rfl
theorem ixM_dkS {z : Str} : ixM (some (.dk kvs)) (.str z) = dLook kvs (.inr z) := rfl
theorem ixM_dkI : ixM (some (.dk kvs)) (.int i) = dLook kvs (.inl i) := rfl
theorem ixM_lkS {z : Str} : ixM (some (.lk kvs)) (.str z) = dLook kvs (.inr z) := rfl
theorem ixM_lkI : ixM (some (.lk kvs)) (.int i) = dLook kvs (.inl i) := rfl
theorem ixAt_lstI : ixAt S (.lst ds) (.int i) = atI ds i := rfl
theorem ixAt_tupI : ixAt S (.tup ds) (.int i) = atI ds i := rfl
theorem ixAt_srcI : ixAt S (.src ds) (.int i) = atI ds i := rfl
theorem ixAt_dctS {z : Str} : ixAt S (.dct kvs) (.str z) = dLook kvs (.inr z) := rfl
theorem ixAt_dctI : ixAt S (.dct kvs) (.int i) = dLook kvs (.inl i) := rfl
/-! instances -/
def insM (c : Cl) (n : Nat) : Option MO → Option (Nat × List D)
  | some (.ins c' fs) => if c' = c then some (n, fs) else none
  | _ => none
theorem insOf_obj : insOf S c (.obj n) = insM c n (S.get n) := by
  unfold insOf insM
  dsimp only
  all_goals (
    cases S.get n with
    | none => rfl
    | some o => cases o <;> rfl)
theorem insM_ins : insM c n (some (.ins c fs)) = some (n, fs) := if_pos rfl
def setX : List D → Nat → D → Option (List D)
  | [], 0, d => some [d]
  | [], _ + 1, _ => none
  | _ :: r, 0, d => some (d :: r)
  | a :: r, i + 1, d => (setX r i d).map (a :: ·)
theorem setF_X : ∀ (ds : List D) (i : Nat) (d : D), setF ds i d = setX ds i d
  | [], 0, d => rfl
  | [], i + 1, d => by
    unfold setF setX
    rw [if_neg (by simp), if_neg (by simp)]
  | a :: r, 0, d => by
    unfold setF setX
    rw [if_pos (by simp)] <;> rfl
  | a :: r, i + 1, d => by
    have ih := setF_X r i d
    unfold setX
    rw [← ih]
    unfold setF
    by_cases h : i < r.length
    · rw [if_pos (by simpa using h), if_pos h] <;> rfl
    · rw [if_neg (by simpa using h), if_neg h]
      by_cases h2 : i = r.length
      · rw [if_pos (by simpa using h2), if_pos h2] <;> rfl
      · rw [if_neg (by simpa using h2), if_neg h2] <;> rfl
theorem sx_n0 : setX [] 0 d = some [d] := rfl
theorem sx_c0 {a : D} {r : List D} : setX (a :: r) 0 d = some (d :: r) := rfl
theorem sx_cs {a : D} {r : List D} {i : Nat} : setX (a :: r) (i + 1) d = (setX r i d).map (a :: ·) := rfl
theorem map_some' {α β : Type} {f : α → β} {a : α} : (some a).map f = some (f a) := rfl
def stW (F : MS → Prop) (S : MS) (c : Cl) (n i : Nat) (x : D) : Option MO → Prop
  | some (.ins c' fs) => c' = c ∧ fs.length < 1000 ∧ wpO (setX fs i x) fun fs' => F (S.set n (.ins c fs'))
  | _ => False
theorem y_stF {F : MS → Prop} {i : Nat} : wpO (stF c i (.obj n) x S) F = stW F S c n i x (S.get n) := by
  unfold stF stW
  rw [insOf_obj]
  unfold insM
  cases S.get n with
  | none => rfl
  | some o =>
    cases o with
    | ins c' fs =>
      dsimp only
      by_cases h : c' = c
      · rw [if_pos h]
        dsimp only
        rw [setF_X]
        cases setX fs i x with
        | none => exact propext ⟨fun q => q.elim, fun q => q.2.2⟩
        | some fs' =>
          dsimp only
          by_cases hz : fs.length < 1000
          · rw [if_pos hz]
            exact propext ⟨fun q => ⟨h, hz, q⟩, fun q => q.2.2⟩
          · rw [if_neg hz]
            exact propext ⟨fun q => q.elim, fun q => (hz q.2.1).elim⟩
      · rw [if_neg h]
        exact propext ⟨fun q => q.elim, fun q => (h q.1).elim⟩
    | _ => rfl
theorem stW_ins {F : MS → Prop} {i : Nat} : stW F S c n i x (some (.ins c fs)) = (fs.length < 1000 ∧ wpO (setX fs i x) fun fs' => F (S.set n (.ins c fs'))) := propext ⟨fun q => q.2, fun q => ⟨rfl, q⟩⟩
/-! a place is written -/
def dsW (F : MS → Prop) (S : MS) (n : Nat) (y d : D) : Option MO → Prop
  | some (.lst ds) => match y with
    | .int i => wpO (ixN ds.length i) fun j => F (S.set n (.lst (ds.set j d)))
    | _ => False
  | some (.dk kvs) => match toKey y with
    | some k => kvs.length < lineN ∧ F (S.set n (.dk (dPutK kvs k d)))
    | none => False
  | _ => False
theorem y_dSet {F : MS → Prop} : wpO (dSet (.obj n) y d S) F = dsW F S n y d (S.get n) := by
  unfold dSet dsW
  dsimp only
  cases S.get n with
  | none => rfl
  | some o =>
    cases o with
    | lst ds =>
      cases y with
      | int i =>
        dsimp only
        cases ixN ds.length i <;> rfl
      | _ => rfl
    | dk kvs =>
      dsimp only
      cases toKey y with
      | none => rfl
      | some k =>
        dsimp only
        by_cases h : kvs.length < lineN
        · rw [if_pos h]; exact propext ⟨fun q => ⟨h, q⟩, fun q => q.2⟩
        · rw [if_neg h]; exact propext ⟨fun q => q.elim, fun q => h q.1⟩
    | _ => rfl
theorem dsW_lst {F : MS → Prop} : dsW F S n (.int i) d (some (.lst ds)) = wpO (ixN ds.length i) fun j => F (S.set n (.lst (ds.set j d))) := rfl
theorem dsW_dkS {F : MS → Prop} {z : Str} : dsW F S n (.str z) d (some (.dk kvs)) = (kvs.length < lineN ∧ F (S.set n (.dk (dPutK kvs (.inr z) d)))) := rfl
theorem dsW_dkI {F : MS → Prop} : dsW F S n (.int i) d (some (.dk kvs)) = (kvs.length < lineN ∧ F (S.set n (.dk (dPutK kvs (.inl i) d)))) := rfl
theorem y_gIx {mo mi : ME} {Z : En × MS → Prop} : wpO (gIx mo mi d env S) Z = wp (mo env) S (fun x S1 => wp (mi env) S1 (fun y S2 => wpO (dSet x y d S2) fun S3 => Z (env, S3)) no) no := wpO_gIx
/-! list methods -/
theorem mutL_obj : mutL S (.obj n) = match S.get n with
  | some (.lst ds) => some (n, ds)
  | _ => none := rfl
def apW (P : D → MS → Prop) (S : MS) (n : Nat) (y : D) : Option MO → Prop
  | some (.lst ds) => ds.length < lineN ∧ P .non (S.set n (.lst (ds ++ [y])))
  | _ => False
theorem y_append : wp (dAppend (.obj n) [y]) S P E = apW P S n y (S.get n) := by
  unfold dAppend wp apW mutL
  dsimp only
  cases S.get n with
  | none => rfl
  | some o =>
    cases o with
    | lst ds =>
      dsimp only
      by_cases h : ds.length < lineN
      · rw [if_pos h]; exact propext ⟨fun q => ⟨h, q⟩, fun q => q.2⟩
      · rw [if_neg h]; exact propext ⟨fun q => q.elim, fun q => h q.1⟩
    | _ => rfl
theorem apW_lst : apW P S n y (some (.lst ds)) = (ds.length < lineN ∧ P .non (S.set n (.lst (ds ++ [y])))) := rfl
def popW (P : D → MS → Prop) (S : MS) (n : Nat) (i : Int) : Option MO → Prop
  | some (.lst es) => wpO (ixN es.length i) fun j => wpO es[j]? fun y => (-(2 ^ 63) ≤ i ∧ i < 2 ^ 63) ∧ P y (S.set n (.lst (es.eraseIdx j)))
  | _ => False
theorem y_popAt : wp (dPopAt (.obj n) [.int i]) S P E = popW P S n i (S.get n) := by
  unfold dPopAt wp popW mutL
  dsimp only
  cases S.get n with
  | none => rfl
  | some o =>
    cases o with
    | lst es =>
      dsimp only
      cases ixN es.length i with
      | none => rfl
      | some j =>
        dsimp only [wpO]
        cases es[j]? with
        | none => rfl
        | some y =>
          dsimp only
          by_cases h : -(2 ^ 63) ≤ i ∧ i < 2 ^ 63
          · rw [if_pos (by simpa using h)]; exact propext ⟨fun q => ⟨h, q⟩, fun q => q.2⟩
          · rw [if_neg (by simpa using h)]; exact propext ⟨fun q => q.elim, fun q => h q.1⟩
    | _ => rfl
theorem popW_lst : popW P S n i (some (.lst ds)) = wpO (ixN ds.length i) fun j => wpO ds[j]? fun y => (-(2 ^ 63) ≤ i ∧ i < 2 ^ 63) ∧ P y (S.set n (.lst (ds.eraseIdx j))) := rfl
def tyM (T : String) (o : Option MO) : Bool := match T with
  | "list" => (lstM o).isSome
  | "dict" => match o with
    | some (.dk _) => true
    | _ => false
  | _ => false
theorem tyD_list : tyD S "list" (.obj n) = tyM "list" (S.get n) := by
  show (lstOf S (.obj n)).isSome = _
  rw [lstOf_obj] <;> rfl
theorem tyM_lst : tyM "list" (some (.lst ds)) = true := rfl
theorem tyM_ll : tyM "list" (some (.ll ds)) = true := rfl
def fzW (P : D → MS → Prop) (S : MS) (n : Nat) : Option MO → Prop
  | some (.lst ds) => P (.lst ds) (S.del n)
  | some (.dk kvs) => P (.dct kvs) (S.del n)
  | _ => P (.obj n) S
theorem y_mFz {m : ME} : wp (mFz m env) S P E = wp (m env) S (fun d S' => wp (fz d) S' P E) E := wp_op1
theorem y_fz : wp (fz (.obj n)) S P E = fzW P S n (S.get n) := by
  unfold fz wp fzW
  dsimp only
  cases S.get n with
  | none => rfl
  | some o => cases o <;> rfl
theorem fzW_lst : fzW P S n (some (.lst ds)) = P (.lst ds) (S.del n) := rfl
theorem fzW_dk : fzW P S n (some (.dk kvs)) = P (.dct kvs) (S.del n) := rfl
theorem fzW_ins : fzW P S n (some (.ins c fs)) = P (.obj n) S := rfl
theorem y_fzI : wp (fz (.int i)) S P E = P (.int i) S := propext Iff.rfl
theorem y_fzN : wp (fz .non) S P E = P .non S := propext Iff.rfl
theorem y_fzB {b : Bool} : wp (fz (.bl b)) S P E = P (.bl b) S := propext Iff.rfl
theorem y_fzS {z : Str} : wp (fz (.str z)) S P E = P (.str z) S := propext Iff.rfl
theorem y_fzL : wp (fz (.lst ds)) S P E = P (.lst ds) S := propext Iff.rfl
theorem y_fzT : wp (fz (.tup ds)) S P E = P (.tup ds) S := propext Iff.rfl
theorem y_fzD : wp (fz (.dct kvs)) S P E = P (.dct kvs) S := propext Iff.rfl
theorem y_copy {mk : List (Key × D) → M D} : wp (dCopy mk d) S P E = wpO (dctOf S d) fun kvs => wp (mk kvs) S P E := by
  unfold dCopy wpO
  show wp (fun S => _) S P E = _
  unfold wp
  dsimp only
  cases dctOf S d <;> rfl
def liM (o : Option MO) : Option (List D) := match dctM o with
  | some kvs => some (kvs.map fun kv => keyD kv.1)
  | none => lstM o
theorem y_listO : wp (dList mk (.obj n)) S P E = wpO (liM (S.get n)) fun ds => wp (mk ds) S P E := by
  rw [x_list, dctOf_obj, seqOf_obj]
  unfold liM
  cases dctM (S.get n) <;> rfl
theorem liM_lst : liM (some (.lst ds)) = some ds := rfl
theorem liM_ll : liM (some (.ll ds)) = some ds := rfl
theorem liM_dk : liM (some (.dk kvs)) = some (kvs.map fun kv => keyD kv.1) := rfl
theorem y_listL : wp (dList mk (.lst ds)) S P E = wp (mk ds) S P E := propext Iff.rfl
theorem y_listT : wp (dList mk (.tup ds)) S P E = wp (mk ds) S P E := propext Iff.rfl
theorem y_listS : wp (dList mk (.src ds)) S P E = wp (mk ds) S P E := propext Iff.rfl
theorem y_slO {lo hi : Option Int} : wp (dSl mk (.obj n) lo hi) S P E = wpO (lstM (S.get n)) fun ds => wp (mk (cutD ds lo hi)) S P E := by
  unfold dSl wpO
  show wp (fun S => _) S P E = _
  unfold wp
  dsimp only
  rw [lstOf_obj]
  cases lstM (S.get n) <;> rfl
theorem y_addOL : wp (dAdd mk (.obj n) (.lst ys)) S P E = wpO (lstM (S.get n)) fun xs => wp (mk (xs ++ ys)) S P E := by
  unfold dAdd wpO
  show wp (fun S => _) S P E = _
  unfold wp
  dsimp only
  rw [lstRd_obj]
  cases lstM (S.get n) <;> rfl
theorem y_addLO : wp (dAdd mk (.lst xs) (.obj n)) S P E = wpO (lstM (S.get n)) fun ys => wp (mk (xs ++ ys)) S P E := by
  unfold dAdd wpO
  show wp (fun S => _) S P E = _
  unfold wp
  dsimp only
  rw [lstRd_obj]
  cases lstM (S.get n) <;> rfl
/-! exceptions -/
def tryK (i : Nat) (cs : List (Str × Bool)) (ms : Nat → Exn → MSt) (R : Fl → Prop) : Fl → Prop
  | .exc x env' S' => match cs.lookup x.cls.nm with
    | some true => wpS (ms S'.nx x (env'.set i (some (.obj S'.nx))) ⟨S'.nx + 1, S'.get⟩) fun fl => match fl with
      | .nx e2 S2 => R (.nx (e2.set i none) S2)
      | .bk e2 S2 => R (.bk (e2.set i none) S2)
      | .ct e2 S2 => R (.ct (e2.set i none) S2)
      | .rt d S2 => R (.rt d S2)
      | .exc _ _ _ => False
    | some false => R (.exc x env' S')
    | none => False
  | fl => R fl
theorem y_try {i : Nat} {cs : List (Str × Bool)} {b : MSt} {ms : Nat → Exn → MSt} : wpS (mTry i cs b ms env S) R = wpS (b env S) (tryK i cs ms R) := by
  unfold mTry wpS
  cases b env S with
  | none => rfl
  | some fl =>
    cases fl with
    | exc x env' S' =>
      dsimp only [tryK]
      cases cs.lookup x.cls.nm with
      | none => rfl
      | some b =>
        cases b with
        | false => rfl
        | true =>
          dsimp only
          unfold wpS
          cases ms S'.nx x (env'.set i (some (.obj S'.nx))) ⟨S'.nx + 1, S'.get⟩ with
          | none => rfl
          | some f2 => cases f2 <;> rfl
    | _ => rfl
theorem tryK_rt {i : Nat} {cs : List (Str × Bool)} {ms : Nat → Exn → MSt} : tryK i cs ms R (.rt d S) = R (.rt d S) := rfl
theorem tryK_nx {i : Nat} {cs : List (Str × Bool)} {ms : Nat → Exn → MSt} : tryK i cs ms R (.nx env S) = R (.nx env S) := rfl
def suK (i : Nat) (R : Fl → Prop) : Fl → Prop
  | .nx e2 S2 => R (.nx (e2.set i none) S2)
  | .bk e2 S2 => R (.bk (e2.set i none) S2)
  | .ct e2 S2 => R (.ct (e2.set i none) S2)
  | .rt d S2 => R (.rt d S2)
  | .exc _ _ _ => False
theorem suK_rt {i : Nat} : suK i R (.rt d S) = R (.rt d S) := rfl
theorem suK_nx {i : Nat} : suK i R (.nx env S) = R (.nx (env.set i none) S) := rfl
theorem tryK_exc {i : Nat} {ms : Nat → Exn → MSt} {nm : Str} {fl : List Str} : tryK i [(nm, true)] ms R (.exc ⟨⟨nm, fl⟩, fs⟩ env S) = wpS (ms S.nx ⟨⟨nm, fl⟩, fs⟩ (env.set i (some (.obj S.nx))) ⟨S.nx + 1, S.get⟩) (suK i R) := by
  show (match List.lookup nm [(nm, true)] with
    | some true => _
    | some false => _
    | none => _) = _
  rw [List.lookup_cons_self]
  rfl
theorem y_raise {c : Cl} {nm : Str} {a : ME} : wpS (mRaise c nm (mCons a mNil) env S) R = wp (a env) S (fun d S' => R (.exc ⟨c, [d, .str nm]⟩ env S')) (fun e S' => R (.exc e env S')) := by
  unfold mRaise
  rw [wpS_stE, wp_cons]
  rfl
def xfK (n0 : Nat) (P : D → MS → Prop) (o : Option D) : D → MS → Prop
  | .obj n, S => n = n0 ∧ ixO P S o
  | _, _ => False
theorem y_xf {m : ME} {n0 k : Nat} : wp (mXf c n0 ⟨c, fs⟩ k m env) S P E = wp (m env) S (xfK n0 P fs[k]?) E := by
  unfold mXf
  rw [wp_bnd]
  congr 1
  funext d S'
  cases d with
  | obj n =>
    unfold wp xfK
    dsimp only
    by_cases h : n = n0
    · rw [if_pos ⟨h, rfl⟩]
      cases fs[k]? with
      | none => exact propext ⟨fun q => q.elim, fun q => q.2⟩
      | some v => exact propext ⟨fun q => ⟨h, q⟩, fun q => q.2⟩
    · rw [if_neg fun q => h q.1]
      exact propext ⟨fun q => q.elim, fun q => h q.1⟩
  | _ => rfl
theorem xfK_obj {n0 : Nat} {o : Option D} : xfK n0 P o (.obj n0) S = ixO P S o := propext ⟨fun q => q.2, fun q => ⟨rfl, q⟩⟩
theorem get_mk {m : Nat} {g : Nat → Option MO} {k : Nat} : (MS.mk m g).get k = g k := rfl
theorem nx_mk {m : Nat} {g : Nat → Option MO} : (MS.mk m g).nx = m := rfl
theorem fin_exc' {e : Exn} : fin P E (.exc e env S) = E e S := fin_exc
/-! indices -/
theorem ixN_n {m j : Nat} (h : j < m) : ixN m (j : Int) = some j := by
  unfold ixN
  rw [if_pos (by omega), if_pos (by omega)]
  simp
theorem at_0' {a : D} {r : List D} : atI (a :: r) 0 = some a := at_0
theorem pick {v : Int} (h0 : 0 ≤ v) (h1 : v < ds.length) (k : ∀ d ∈ ds, P d S) : ixO P S (atI ds v) := by
  obtain ⟨j, rfl⟩ := Int.eq_ofNat_of_zero_le h0
  have hj : j < ds.length := by omega
  rw [at_nat hj]
  exact k _ (List.getElem_mem hj)
theorem get_add_same : (S.add o).get S.nx = some o := if_pos rfl
theorem nxS {m : Nat} : (S.set m o).nx = S.nx := Eq.trans rfl rfl
theorem nxA : (S.add o).nx = S.nx + 1 := Eq.trans rfl rfl
theorem nxD {m : Nat} : (S.del m).nx = S.nx := Eq.trans rfl rfl
theorem nxM {m : Nat} {g : Nat → Option MO} : (MS.mk m g).nx = m := Eq.trans rfl rfl
theorem get_add_eq (h : k = S.nx) : (S.add o).get k = some o := if_pos h
theorem get_add_ne (h : k ≠ S.nx) : (S.add o).get k = S.get k := if_neg h
theorem get_del_ne (h : k ≠ n) : (S.del n).get k = S.get k := if_neg h
theorem truD_bl {b : Bool} : truD S (.bl b) = some b := rfl
theorem truD_int : truD S (.int i) = some (i != 0) := rfl
/-! sizes, as omega reads them -/
theorem y_mul : wp (dMul (.int i) (.int j)) S P E = ((-18446744073709551616 < i ∧ i < 18446744073709551616 ∨ -18446744073709551616 < j ∧ j < 18446744073709551616) ∧ P (.int (i * j)) S) := by
  rw [x_mul]
  simp only [dMulC, Bool.or_eq_true, Bool.and_eq_true, decide_eq_true_eq]
  try rfl
theorem pow_iff : (dPowC i j = true) = (0 ≤ j ∧ j ≤ 1000000 ∧ i.natAbs < 18446744073709551616) := by
  simp only [dPowC, Bool.and_eq_true, decide_eq_true_eq, and_assoc]
  try rfl
theorem y_pow : wp (dPow (.int i) (.int j)) S P E = ((0 ≤ j ∧ j ≤ 1000000 ∧ i.natAbs < 18446744073709551616) ∧ P (.int (i ^ j.toNat)) S) := by rw [x_pow, pow_iff]
theorem y_shl : wp (dShl (.int i) (.int j)) S P E = ((0 ≤ j ∧ j ≤ 1000000 ∧ i.natAbs < 18446744073709551616) ∧ P (.int (i * 2 ^ j.toNat)) S) := by rw [x_shl, pow_iff]
theorem rng_get {lo c : Int} {n i : Nat} {x : D} (h : (rngN lo c n)[i]? = some x) : i < n ∧ x = .int (lo + (i : Nat) * c) := by
  unfold rngN at h
  rw [List.getElem?_map] at h
  have hi : i < n := by
    cases e : (List.range n)[i]? with
    | none => rw [e] at h; cases h
    | some z =>
      have := (List.getElem?_eq_some_iff.mp e).1
      simpa using this
  rw [List.getElem?_range hi] at h
  exact ⟨hi, (Option.some.inj h).symm⟩
theorem rng01 {n i : Nat} {x : D} (h : (rngN 0 1 n)[i]? = some x) : i < n ∧ x = .int (i : Int) := by
  obtain ⟨h1, h2⟩ := rng_get h
  refine ⟨h1, h2.trans ?_⟩
  congr 1
  omega
/-! locks -/
theorem add_set_same {u : MO} : (S.add o).set S.nx u = S.add u := by
  unfold MS.set MS.add
  dsimp only
  congr 1
  funext m
  by_cases h : m = S.nx
  · rw [if_pos h, if_pos h]
  · rw [if_neg h, if_neg h, if_neg h]
def Tree : D → Prop
  | .obj _ => False
  | _ => True
theorem need_tree {i : Nat} (he : env[i]? = some (some d)) (h : Tree d) : needLk S env [i] = false := by
  unfold needLk refOf
  dsimp only
  rw [he]
  cases d <;> first | rfl | exact h.elim
theorem lk_tree {i : Nat} {m : MSt} (he : env[i]? = some (some d)) (h : Tree d) : wpS (mLkSM [i] m env S) R = wpS (m env S) R := by
  unfold mLkSM
  rw [need_tree he h]
  rfl
theorem lkm_tree {i : Nat} {m : ME} (he : env[i]? = some (some d)) (h : Tree d) : wp (mLkM [i] m env) S P E = wp (m env) S P E := by
  unfold mLkM wp
  dsimp only
  rw [need_tree he h]
  rfl
theorem lkT {i : Nat} {m : MSt} (w : wpS (m env S) R) (he : env[i]? = some (some d)) (h : Tree d) : wpS (mLkSM [i] m env S) R := by
  rw [lk_tree he h]; exact w
theorem lkmT {i : Nat} {m : ME} (w : wp (m env) S P E) (he : env[i]? = some (some d)) (h : Tree d) : wp (mLkM [i] m env) S P E := by
  rw [lkm_tree he h]; exact w
def ulK (n : Nat) (R : Fl → Prop) : Fl → Prop
  | .nx e S' => ∃ ds', S'.get n = some (.ll ds') ∧ R (.nx e (S'.set n (.lst ds')))
  | .rt d S' => ∃ ds', S'.get n = some (.ll ds') ∧ R (.rt d (S'.set n (.lst ds')))
  | _ => False
theorem lk_lst {i : Nat} {m : MSt} (he : env[i]? = some (some (.obj n))) (h : S.get n = some (.lst ds)) (w : wpS (m env (S.set n (.ll ds))) (ulK n R)) : wpS (mLkSM [i] m env S) R := by
  have e1 : refOf env S [i] = some n := by
    unfold refOf
    dsimp only
    rw [he]
  have e0 : needLk S env [i] = true := by
    unfold needLk
    rw [e1]
    dsimp only
    rw [h]
    rfl
  unfold mLkSM
  rw [e0, if_pos rfl]
  unfold mLkS
  rw [e1]
  dsimp only
  rw [h]
  dsimp only [lockOf]
  unfold wpS at w ⊢
  cases q : m env (S.set n (.ll ds)) with
  | none => rw [q] at w; exact w.elim
  | some fl =>
    rw [q] at w
    cases fl with
    | nx e S' =>
      obtain ⟨ds', h1, h2⟩ := w
      have hu : unS n S' = some (S'.set n (.lst ds')) := by
        unfold unS
        rw [h1]
        rfl
      dsimp only
      rw [hu]
      exact h2
    | rt d S' =>
      obtain ⟨ds', h1, h2⟩ := w
      have hu : unS n S' = some (S'.set n (.lst ds')) := by
        unfold unS
        rw [h1]
        rfl
      dsimp only
      rw [hu]
      exact h2
    | _ => exact w.elim
theorem loop_nil {g : MG} {b : MSt} : wpS (loopF g b [] env S) R = R (.nx env S) := rfl
end
end Mi
/-! MiU: frames; the laws' comparison by its parts. -/
namespace Mi
open PySem L2
section
variable {S S' S1 S2 S3 : MS} {Q : D → MS → Prop} {P : D → MS → Prop} {E : Exn → MS → Prop} {R : Fl → Prop} {n k m : Nat} {ns ms : List Nat} {d x y : D} {o u : MO} {xs ys : List D}
/-- what was there and is not among ns is as before -/
structure Fr (ns : List Nat) (S S' : MS) : Prop where
  nx : S.nx ≤ S'.nx
  ne : ∀ k, k < S.nx → k ∉ ns → S'.get k = S.get k
theorem Fr.refl : Fr ns S S := ⟨Nat.le_refl _, fun _ _ _ => rfl⟩
theorem Fr.trans (a : Fr ns S1 S2) (b : Fr ns S2 S3) : Fr ns S1 S3 := ⟨Nat.le_trans a.nx b.nx, fun k hk hn => (b.ne k (Nat.lt_of_lt_of_le hk a.nx) hn).trans (a.ne k hk hn)⟩
theorem Fr.set (h : n ∈ ns) : Fr ns S (S.set n o) := ⟨Nat.le_refl _, fun k _ hn => get_ne fun e => hn (by rw [e]; exact h)⟩
/-- a new one, or one of ns -/
theorem Fr.set' (f : Fr ns S S1) (h : n ∈ ns ∨ S.nx ≤ n) : Fr ns S (S1.set n o) := ⟨f.nx, fun k hk hn => (get_ne fun e => h.elim (fun h => hn (by rw [e]; exact h)) fun h => by omega).trans (f.ne k hk hn)⟩
theorem Fr.add : Fr ns S (S.add o) := ⟨Nat.le_succ _, fun k hk _ => if_neg (Nat.ne_of_lt hk)⟩
theorem Fr.add' (f : Fr ns S S1) : Fr ns S (S1.add o) := f.trans Fr.add
theorem Fr.del' (f : Fr ns S S1) (h : S.nx ≤ n) : Fr ns S (S1.del n) := ⟨f.nx, fun k hk hn => (if_neg (Nat.ne_of_lt (Nat.lt_of_lt_of_le hk h))).trans (f.ne k hk hn)⟩
theorem Fr.mono (f : Fr ns S S') (h : ∀ n ∈ ns, n ∈ ms) : Fr ms S S' := ⟨f.nx, fun k hk hn => f.ne k hk fun z => hn (h k z)⟩
theorem Fr.of (f : Fr [] S S') : Fr ns S S' := f.mono fun _ h => by cases h
theorem Fr.dr (d : Dr n S S') : Fr [n] S S' := ⟨Nat.le_of_eq d.nx.symm, fun k _ hn => d.ne k fun e => hn (by rw [e]; exact List.mem_singleton.mpr rfl)⟩
theorem Fr.at (f : Fr ns S S') (h : S.get k = some o) (hk : k < S.nx) (hn : k ∉ ns) : S'.get k = some o := (f.ne k hk hn).trans h
theorem Fr.dro (f : Fr ns S S') (h : DrO S k) (hk : k < S.nx) (hn : k ∉ ns) : DrO S' k := by
  obtain ⟨ds, h1, h2⟩ := h
  exact ⟨ds, f.at h1 hk hn, h2⟩
/-- it leaves what was there -/
theorem Fr.nil_trans (a : Fr ns S1 S2) (b : Fr [] S2 S3) : Fr ns S1 S3 := a.trans b.of
/-! ### the comparison says yes -/
def Yes (S : MS) (k : Nat) (x y : D) : Prop := mSame k [x, y] S = some (.ok (.bl true) S)
def YesL (S : MS) (k : Nat) : List D → List D → Prop
  | [], [] => True
  | x :: xs, y :: ys => Yes S k x y ∧ YesL S k xs ys
  | _, _ => False
theorem yes_s {k : Nat} (h : smS S (k + 1) x y) : Yes S (k + 1) x y := same_at h
theorem yes_non : Yes S (k + 1) .non .non := same_at (.inl ⟨rfl, rfl⟩)
theorem yes_bl {b : Bool} : Yes S (k + 1) (.bl b) (.bl b) := same_at (.inr (.inl ⟨b, rfl, rfl⟩))
theorem yes_int {i : Int} : Yes S (k + 1) (.int i) (.int i) := same_at (.inr (.inr (.inl ⟨i, rfl, rfl⟩)))
theorem yes_str {z : Str} : Yes S (k + 1) (.str z) (.str z) := same_at (.inr (.inr (.inr (.inl ⟨z, rfl, rfl⟩))))
theorem YesL.len : ∀ {xs ys : List D}, YesL S k xs ys → xs.length = ys.length
  | [], [], _ => rfl
  | _ :: _, _ :: _, h => by simp [YesL.len h.2]
  | [], _ :: _, h => h.elim
  | _ :: _, [], h => h.elim
theorem YesL.get : ∀ {xs ys : List D}, YesL S k xs ys → ∀ (i : Nat) (d e : D), xs[i]? = some d → ys[i]? = some e → Yes S k d e
  | [], [], _, i, d, e, h, _ => by simp at h
  | x :: xs, y :: ys, h, 0, d, e, h1, h2 => by
    have e1 : x = d := by simpa using h1
    have e2 : y = e := by simpa using h2
    subst e1 e2
    exact h.1
  | x :: xs, y :: ys, h, i + 1, d, e, h1, h2 => YesL.get h.2 i d e (by simpa using h1) (by simpa using h2)
  | [], _ :: _, h, _, _, _, _, _ => h.elim
  | _ :: _, [], h, _, _, _, _, _ => h.elim
theorem YesL.of : ∀ {xs ys : List D}, xs.length = ys.length → (∀ (i : Nat) (d e : D), xs[i]? = some d → ys[i]? = some e → Yes S k d e) → YesL S k xs ys
  | [], [], _, _ => True.intro
  | x :: xs, y :: ys, hl, h => ⟨h 0 x y rfl rfl, YesL.of (by simpa using hl) fun i d e h1 h2 => h (i + 1) d e (by simpa using h1) (by simpa using h2)⟩
  | [], _ :: _, h, _ => by simp at h
  | _ :: _, [], h, _ => by simp at h
theorem YesL.same {f : D → Prop} (hf : ∀ d, f d → Yes S k d d) : ∀ {xs : List D}, (∀ d ∈ xs, f d) → YesL S k xs xs
  | [], _ => True.intro
  | x :: xs, h => ⟨hf x (h x List.mem_cons_self), YesL.same hf fun d hd => h d (List.mem_cons_of_mem _ hd)⟩
theorem yes_lst (hx : lstOf S x = some xs) (hy : lstOf S y = some ys) (h : YesL S k xs ys) (hz : ys.length ≤ 16777216) : Yes S (k + 1) x y := by
  have w : wp (mSame (k + 1) [x, y]) S (fun v S' => v = .bl true ∧ S' = S) no := by
    rw [e_same]
    unfold bSame
    simp only [wpS_seq, wpS_gNm, wpS_asg, wpS_ifS, wpS_drop, wpS_ret, wpS_retN, wpS_stF, wpS_augF, wpS_augI, wpS_augV, wpS_par', wpS_par3', wpS_some, wpS_mNx, wpS_mCt, wpS_mBk, kont_rt, kont_ct, kont_bk, fin_rt, fin_nx, wp_mK, wp_v, vO_some, wp_ret, wp_bnd, wp_op, wp_op1, wp_call, wp_fn, wp_cons, wp_nil, wp_tup, wp_lst, wp_obj, wp_oNone, wp_oSome, intO_int, wp_sl, wp_mIf, wp_mAnd, wp_mOr, wp_mNot, wp_mB, wp_mAndV, wp_mOrV, wp_mNotV, wp_mChain, wp_mTru, isBl_bl, truO_some, x_addI, x_addJ, x_sub, x_mod, x_div, x_mul, x_pow, x_shl, x_shr, x_band, x_bor, x_bxor, x_lt, x_le, x_gt, x_ge, x_neg, x_eqI, x_neI, x_eqS, x_neS, x_isN, x_isNN, x_int, x_abs, x_max2, x_min2, x_d1, x_d2, x_mkL, x_mkT, x_mkO, x_mkD, x_mkDo, x_ix, ixO_some, x_len, lenO_some, x_list, wpO_some, x_slT, x_slL, x_addLL, x_addTT, blO_some, x_isi, wp_isiT, x_fld, x_getI, wp_mMeth, wp_mMake, wp_mMt, wp_mLc, wp_mIt, wp_range1, wp_range2, wp_range3, wpS_for, isi_non_bool, isi_non_int, isi_non_str, isi_non_list, isi_non_tuple, isi_non_dict, isi_bl_bool, isi_bl_int, isi_bl_str, isi_bl_list, isi_bl_tuple, isi_bl_dict, isi_int_bool, isi_int_int, isi_int_str, isi_int_list, isi_int_tuple, isi_int_dict, isi_str_bool, isi_str_int, isi_str_str, isi_str_list, isi_str_tuple, isi_str_dict, isi_lst_bool, isi_lst_int, isi_lst_str, isi_lst_list, isi_lst_tuple, isi_lst_dict, isi_src_bool, isi_src_int, isi_src_str, isi_src_list, isi_src_tuple, isi_src_dict, isi_tup_bool, isi_tup_int, isi_tup_str, isi_tup_list, isi_tup_tuple, isi_tup_dict, isi_dct_bool, isi_dct_int, isi_dct_str, isi_dct_list, isi_dct_tuple, isi_dct_dict, g_nm, g_tp, g_nil, g_cons, List.getElem?_cons_succ, List.getElem?_cons_zero, List.set_cons_succ, List.set_cons_zero, truD, isN_lst hy, if_false, Bool.false_eq_true]
    refine kont_nx ?_
    simp only [wpS_seq, wpS_gNm, wpS_asg, wpS_ifS, wpS_drop, wpS_ret, wpS_retN, wpS_stF, wpS_augF, wpS_augI, wpS_augV, wpS_par', wpS_par3', wpS_some, wpS_mNx, wpS_mCt, wpS_mBk, kont_rt, kont_ct, kont_bk, fin_rt, fin_nx, wp_mK, wp_v, vO_some, wp_ret, wp_bnd, wp_op, wp_op1, wp_call, wp_fn, wp_cons, wp_nil, wp_tup, wp_lst, wp_obj, wp_oNone, wp_oSome, intO_int, wp_sl, wp_mIf, wp_mAnd, wp_mOr, wp_mNot, wp_mB, wp_mAndV, wp_mOrV, wp_mNotV, wp_mChain, wp_mTru, isBl_bl, truO_some, x_addI, x_addJ, x_sub, x_mod, x_div, x_mul, x_pow, x_shl, x_shr, x_band, x_bor, x_bxor, x_lt, x_le, x_gt, x_ge, x_neg, x_eqI, x_neI, x_eqS, x_neS, x_isN, x_isNN, x_int, x_abs, x_max2, x_min2, x_d1, x_d2, x_mkL, x_mkT, x_mkO, x_mkD, x_mkDo, x_ix, ixO_some, x_len, lenO_some, x_list, wpO_some, x_slT, x_slL, x_addLL, x_addTT, blO_some, x_isi, wp_isiT, x_fld, x_getI, wp_mMeth, wp_mMake, wp_mMt, wp_mLc, wp_mIt, wp_range1, wp_range2, wp_range3, wpS_for, isi_non_bool, isi_non_int, isi_non_str, isi_non_list, isi_non_tuple, isi_non_dict, isi_bl_bool, isi_bl_int, isi_bl_str, isi_bl_list, isi_bl_tuple, isi_bl_dict, isi_int_bool, isi_int_int, isi_int_str, isi_int_list, isi_int_tuple, isi_int_dict, isi_str_bool, isi_str_int, isi_str_str, isi_str_list, isi_str_tuple, isi_str_dict, isi_lst_bool, isi_lst_int, isi_lst_str, isi_lst_list, isi_lst_tuple, isi_lst_dict, isi_src_bool, isi_src_int, isi_src_str, isi_src_list, isi_src_tuple, isi_src_dict, isi_tup_bool, isi_tup_int, isi_tup_str, isi_tup_list, isi_tup_tuple, isi_tup_dict, isi_dct_bool, isi_dct_int, isi_dct_str, isi_dct_list, isi_dct_tuple, isi_dct_dict, g_nm, g_tp, g_nil, g_cons, List.getElem?_cons_succ, List.getElem?_cons_zero, List.set_cons_succ, List.set_cons_zero, truD, if_false, Bool.false_eq_true, isi_lst hy, isiB_list_bool]
    refine kont_nx ?_
    simp only [wpS_seq, wpS_gNm, wpS_asg, wpS_ifS, wpS_drop, wpS_ret, wpS_retN, wpS_stF, wpS_augF, wpS_augI, wpS_augV, wpS_par', wpS_par3', wpS_some, wpS_mNx, wpS_mCt, wpS_mBk, kont_rt, kont_ct, kont_bk, fin_rt, fin_nx, wp_mK, wp_v, vO_some, wp_ret, wp_bnd, wp_op, wp_op1, wp_call, wp_fn, wp_cons, wp_nil, wp_tup, wp_lst, wp_obj, wp_oNone, wp_oSome, intO_int, wp_sl, wp_mIf, wp_mAnd, wp_mOr, wp_mNot, wp_mB, wp_mAndV, wp_mOrV, wp_mNotV, wp_mChain, wp_mTru, isBl_bl, truO_some, x_addI, x_addJ, x_sub, x_mod, x_div, x_mul, x_pow, x_shl, x_shr, x_band, x_bor, x_bxor, x_lt, x_le, x_gt, x_ge, x_neg, x_eqI, x_neI, x_eqS, x_neS, x_isN, x_isNN, x_int, x_abs, x_max2, x_min2, x_d1, x_d2, x_mkL, x_mkT, x_mkO, x_mkD, x_mkDo, x_ix, ixO_some, x_len, lenO_some, x_list, wpO_some, x_slT, x_slL, x_addLL, x_addTT, blO_some, x_isi, wp_isiT, x_fld, x_getI, wp_mMeth, wp_mMake, wp_mMt, wp_mLc, wp_mIt, wp_range1, wp_range2, wp_range3, wpS_for, isi_non_bool, isi_non_int, isi_non_str, isi_non_list, isi_non_tuple, isi_non_dict, isi_bl_bool, isi_bl_int, isi_bl_str, isi_bl_list, isi_bl_tuple, isi_bl_dict, isi_int_bool, isi_int_int, isi_int_str, isi_int_list, isi_int_tuple, isi_int_dict, isi_str_bool, isi_str_int, isi_str_str, isi_str_list, isi_str_tuple, isi_str_dict, isi_lst_bool, isi_lst_int, isi_lst_str, isi_lst_list, isi_lst_tuple, isi_lst_dict, isi_src_bool, isi_src_int, isi_src_str, isi_src_list, isi_src_tuple, isi_src_dict, isi_tup_bool, isi_tup_int, isi_tup_str, isi_tup_list, isi_tup_tuple, isi_tup_dict, isi_dct_bool, isi_dct_int, isi_dct_str, isi_dct_list, isi_dct_tuple, isi_dct_dict, g_nm, g_tp, g_nil, g_cons, List.getElem?_cons_succ, List.getElem?_cons_zero, List.set_cons_succ, List.set_cons_zero, truD, if_false, Bool.false_eq_true, isi_lst hy, isiB_list_int]
    refine kont_nx ?_
    simp only [wpS_seq, wpS_gNm, wpS_asg, wpS_ifS, wpS_drop, wpS_ret, wpS_retN, wpS_stF, wpS_augF, wpS_augI, wpS_augV, wpS_par', wpS_par3', wpS_some, wpS_mNx, wpS_mCt, wpS_mBk, kont_rt, kont_ct, kont_bk, fin_rt, fin_nx, wp_mK, wp_v, vO_some, wp_ret, wp_bnd, wp_op, wp_op1, wp_call, wp_fn, wp_cons, wp_nil, wp_tup, wp_lst, wp_obj, wp_oNone, wp_oSome, intO_int, wp_sl, wp_mIf, wp_mAnd, wp_mOr, wp_mNot, wp_mB, wp_mAndV, wp_mOrV, wp_mNotV, wp_mChain, wp_mTru, isBl_bl, truO_some, x_addI, x_addJ, x_sub, x_mod, x_div, x_mul, x_pow, x_shl, x_shr, x_band, x_bor, x_bxor, x_lt, x_le, x_gt, x_ge, x_neg, x_eqI, x_neI, x_eqS, x_neS, x_isN, x_isNN, x_int, x_abs, x_max2, x_min2, x_d1, x_d2, x_mkL, x_mkT, x_mkO, x_mkD, x_mkDo, x_ix, ixO_some, x_len, lenO_some, x_list, wpO_some, x_slT, x_slL, x_addLL, x_addTT, blO_some, x_isi, wp_isiT, x_fld, x_getI, wp_mMeth, wp_mMake, wp_mMt, wp_mLc, wp_mIt, wp_range1, wp_range2, wp_range3, wpS_for, isi_non_bool, isi_non_int, isi_non_str, isi_non_list, isi_non_tuple, isi_non_dict, isi_bl_bool, isi_bl_int, isi_bl_str, isi_bl_list, isi_bl_tuple, isi_bl_dict, isi_int_bool, isi_int_int, isi_int_str, isi_int_list, isi_int_tuple, isi_int_dict, isi_str_bool, isi_str_int, isi_str_str, isi_str_list, isi_str_tuple, isi_str_dict, isi_lst_bool, isi_lst_int, isi_lst_str, isi_lst_list, isi_lst_tuple, isi_lst_dict, isi_src_bool, isi_src_int, isi_src_str, isi_src_list, isi_src_tuple, isi_src_dict, isi_tup_bool, isi_tup_int, isi_tup_str, isi_tup_list, isi_tup_tuple, isi_tup_dict, isi_dct_bool, isi_dct_int, isi_dct_str, isi_dct_list, isi_dct_tuple, isi_dct_dict, g_nm, g_tp, g_nil, g_cons, List.getElem?_cons_succ, List.getElem?_cons_zero, List.set_cons_succ, List.set_cons_zero, truD, if_false, Bool.false_eq_true, isi_lst hy, isiB_list_str]
    refine kont_nx ?_
    simp only [wpS_seq, wpS_gNm, wpS_asg, wpS_ifS, wpS_drop, wpS_ret, wpS_retN, wpS_stF, wpS_augF, wpS_augI, wpS_augV, wpS_par', wpS_par3', wpS_some, wpS_mNx, wpS_mCt, wpS_mBk, kont_rt, kont_ct, kont_bk, fin_rt, fin_nx, wp_mK, wp_v, vO_some, wp_ret, wp_bnd, wp_op, wp_op1, wp_call, wp_fn, wp_cons, wp_nil, wp_tup, wp_lst, wp_obj, wp_oNone, wp_oSome, intO_int, wp_sl, wp_mIf, wp_mAnd, wp_mOr, wp_mNot, wp_mB, wp_mAndV, wp_mOrV, wp_mNotV, wp_mChain, wp_mTru, isBl_bl, truO_some, x_addI, x_addJ, x_sub, x_mod, x_div, x_mul, x_pow, x_shl, x_shr, x_band, x_bor, x_bxor, x_lt, x_le, x_gt, x_ge, x_neg, x_eqI, x_neI, x_eqS, x_neS, x_isN, x_isNN, x_int, x_abs, x_max2, x_min2, x_d1, x_d2, x_mkL, x_mkT, x_mkO, x_mkD, x_mkDo, x_ix, ixO_some, x_len, lenO_some, x_list, wpO_some, x_slT, x_slL, x_addLL, x_addTT, blO_some, x_isi, wp_isiT, x_fld, x_getI, wp_mMeth, wp_mMake, wp_mMt, wp_mLc, wp_mIt, wp_range1, wp_range2, wp_range3, wpS_for, isi_non_bool, isi_non_int, isi_non_str, isi_non_list, isi_non_tuple, isi_non_dict, isi_bl_bool, isi_bl_int, isi_bl_str, isi_bl_list, isi_bl_tuple, isi_bl_dict, isi_int_bool, isi_int_int, isi_int_str, isi_int_list, isi_int_tuple, isi_int_dict, isi_str_bool, isi_str_int, isi_str_str, isi_str_list, isi_str_tuple, isi_str_dict, isi_lst_bool, isi_lst_int, isi_lst_str, isi_lst_list, isi_lst_tuple, isi_lst_dict, isi_src_bool, isi_src_int, isi_src_str, isi_src_list, isi_src_tuple, isi_src_dict, isi_tup_bool, isi_tup_int, isi_tup_str, isi_tup_list, isi_tup_tuple, isi_tup_dict, isi_dct_bool, isi_dct_int, isi_dct_str, isi_dct_list, isi_dct_tuple, isi_dct_dict, g_nm, g_tp, g_nil, g_cons, List.getElem?_cons_succ, List.getElem?_cons_zero, List.set_cons_succ, List.set_cons_zero, truD, if_false, Bool.false_eq_true, isi_lst hy, isiB_list_dict]
    refine kont_nx ?_
    simp only [wpS_seq, wpS_gNm, wpS_asg, wpS_ifS, wpS_drop, wpS_ret, wpS_retN, wpS_stF, wpS_augF, wpS_augI, wpS_augV, wpS_par', wpS_par3', wpS_some, wpS_mNx, wpS_mCt, wpS_mBk, kont_rt, kont_ct, kont_bk, fin_rt, fin_nx, wp_mK, wp_v, vO_some, wp_ret, wp_bnd, wp_op, wp_op1, wp_call, wp_fn, wp_cons, wp_nil, wp_tup, wp_lst, wp_obj, wp_oNone, wp_oSome, intO_int, wp_sl, wp_mIf, wp_mAnd, wp_mOr, wp_mNot, wp_mB, wp_mAndV, wp_mOrV, wp_mNotV, wp_mChain, wp_mTru, isBl_bl, truO_some, x_addI, x_addJ, x_sub, x_mod, x_div, x_mul, x_pow, x_shl, x_shr, x_band, x_bor, x_bxor, x_lt, x_le, x_gt, x_ge, x_neg, x_eqI, x_neI, x_eqS, x_neS, x_isN, x_isNN, x_int, x_abs, x_max2, x_min2, x_d1, x_d2, x_mkL, x_mkT, x_mkO, x_mkD, x_mkDo, x_ix, ixO_some, x_len, lenO_some, x_list, wpO_some, x_slT, x_slL, x_addLL, x_addTT, blO_some, x_isi, wp_isiT, x_fld, x_getI, wp_mMeth, wp_mMake, wp_mMt, wp_mLc, wp_mIt, wp_range1, wp_range2, wp_range3, wpS_for, isi_non_bool, isi_non_int, isi_non_str, isi_non_list, isi_non_tuple, isi_non_dict, isi_bl_bool, isi_bl_int, isi_bl_str, isi_bl_list, isi_bl_tuple, isi_bl_dict, isi_int_bool, isi_int_int, isi_int_str, isi_int_list, isi_int_tuple, isi_int_dict, isi_str_bool, isi_str_int, isi_str_str, isi_str_list, isi_str_tuple, isi_str_dict, isi_lst_bool, isi_lst_int, isi_lst_str, isi_lst_list, isi_lst_tuple, isi_lst_dict, isi_src_bool, isi_src_int, isi_src_str, isi_src_list, isi_src_tuple, isi_src_dict, isi_tup_bool, isi_tup_int, isi_tup_str, isi_tup_list, isi_tup_tuple, isi_tup_dict, isi_dct_bool, isi_dct_int, isi_dct_str, isi_dct_list, isi_dct_tuple, isi_dct_dict, g_nm, g_tp, g_nil, g_cons, List.getElem?_cons_succ, List.getElem?_cons_zero, List.set_cons_succ, List.set_cons_zero, truD, if_true, isi_lst hy, isiB_list, isi_lst hx]
    refine kont_nx ?_
    exact seqEnd (seq_lst hx) (seq_lst hy) (len_lst hx) (len_lst hy) (fun i => ixAt_lst hx) (fun i => ixAt_lst hy) h.len hz (fun i d e hd he => h.get i d e hd he) ⟨rfl, rfl⟩
  obtain ⟨v, S', e, rfl, rfl⟩ := wp_to w
  exact e
theorem yes_tup (h : YesL S k xs ys) (hz : ys.length ≤ 16777216) : Yes S (k + 1) (.tup xs) (.tup ys) := by
  have w : wp (mSame (k + 1) [.tup xs, .tup ys]) S (fun v S' => v = .bl true ∧ S' = S) no := by
    rw [e_same]
    unfold bSame
    simp only [wpS_seq, wpS_gNm, wpS_asg, wpS_ifS, wpS_drop, wpS_ret, wpS_retN, wpS_stF, wpS_augF, wpS_augI, wpS_augV, wpS_par', wpS_par3', wpS_some, wpS_mNx, wpS_mCt, wpS_mBk, kont_rt, kont_ct, kont_bk, fin_rt, fin_nx, wp_mK, wp_v, vO_some, wp_ret, wp_bnd, wp_op, wp_op1, wp_call, wp_fn, wp_cons, wp_nil, wp_tup, wp_lst, wp_obj, wp_oNone, wp_oSome, intO_int, wp_sl, wp_mIf, wp_mAnd, wp_mOr, wp_mNot, wp_mB, wp_mAndV, wp_mOrV, wp_mNotV, wp_mChain, wp_mTru, isBl_bl, truO_some, x_addI, x_addJ, x_sub, x_mod, x_div, x_mul, x_pow, x_shl, x_shr, x_band, x_bor, x_bxor, x_lt, x_le, x_gt, x_ge, x_neg, x_eqI, x_neI, x_eqS, x_neS, x_isN, x_isNN, x_int, x_abs, x_max2, x_min2, x_d1, x_d2, x_mkL, x_mkT, x_mkO, x_mkD, x_mkDo, x_ix, ixO_some, x_len, lenO_some, x_list, wpO_some, x_slT, x_slL, x_addLL, x_addTT, blO_some, x_isi, wp_isiT, x_fld, x_getI, wp_mMeth, wp_mMake, wp_mMt, wp_mLc, wp_mIt, wp_range1, wp_range2, wp_range3, wpS_for, isi_non_bool, isi_non_int, isi_non_str, isi_non_list, isi_non_tuple, isi_non_dict, isi_bl_bool, isi_bl_int, isi_bl_str, isi_bl_list, isi_bl_tuple, isi_bl_dict, isi_int_bool, isi_int_int, isi_int_str, isi_int_list, isi_int_tuple, isi_int_dict, isi_str_bool, isi_str_int, isi_str_str, isi_str_list, isi_str_tuple, isi_str_dict, isi_lst_bool, isi_lst_int, isi_lst_str, isi_lst_list, isi_lst_tuple, isi_lst_dict, isi_src_bool, isi_src_int, isi_src_str, isi_src_list, isi_src_tuple, isi_src_dict, isi_tup_bool, isi_tup_int, isi_tup_str, isi_tup_list, isi_tup_tuple, isi_tup_dict, isi_dct_bool, isi_dct_int, isi_dct_str, isi_dct_list, isi_dct_tuple, isi_dct_dict, g_nm, g_tp, g_nil, g_cons, List.getElem?_cons_succ, List.getElem?_cons_zero, List.set_cons_succ, List.set_cons_zero, truD, Mi.isNon, if_false, Bool.false_eq_true]
    refine kont_nx ?_
    simp only [wpS_seq, wpS_gNm, wpS_asg, wpS_ifS, wpS_drop, wpS_ret, wpS_retN, wpS_stF, wpS_augF, wpS_augI, wpS_augV, wpS_par', wpS_par3', wpS_some, wpS_mNx, wpS_mCt, wpS_mBk, kont_rt, kont_ct, kont_bk, fin_rt, fin_nx, wp_mK, wp_v, vO_some, wp_ret, wp_bnd, wp_op, wp_op1, wp_call, wp_fn, wp_cons, wp_nil, wp_tup, wp_lst, wp_obj, wp_oNone, wp_oSome, intO_int, wp_sl, wp_mIf, wp_mAnd, wp_mOr, wp_mNot, wp_mB, wp_mAndV, wp_mOrV, wp_mNotV, wp_mChain, wp_mTru, isBl_bl, truO_some, x_addI, x_addJ, x_sub, x_mod, x_div, x_mul, x_pow, x_shl, x_shr, x_band, x_bor, x_bxor, x_lt, x_le, x_gt, x_ge, x_neg, x_eqI, x_neI, x_eqS, x_neS, x_isN, x_isNN, x_int, x_abs, x_max2, x_min2, x_d1, x_d2, x_mkL, x_mkT, x_mkO, x_mkD, x_mkDo, x_ix, ixO_some, x_len, lenO_some, x_list, wpO_some, x_slT, x_slL, x_addLL, x_addTT, blO_some, x_isi, wp_isiT, x_fld, x_getI, wp_mMeth, wp_mMake, wp_mMt, wp_mLc, wp_mIt, wp_range1, wp_range2, wp_range3, wpS_for, isi_non_bool, isi_non_int, isi_non_str, isi_non_list, isi_non_tuple, isi_non_dict, isi_bl_bool, isi_bl_int, isi_bl_str, isi_bl_list, isi_bl_tuple, isi_bl_dict, isi_int_bool, isi_int_int, isi_int_str, isi_int_list, isi_int_tuple, isi_int_dict, isi_str_bool, isi_str_int, isi_str_str, isi_str_list, isi_str_tuple, isi_str_dict, isi_lst_bool, isi_lst_int, isi_lst_str, isi_lst_list, isi_lst_tuple, isi_lst_dict, isi_src_bool, isi_src_int, isi_src_str, isi_src_list, isi_src_tuple, isi_src_dict, isi_tup_bool, isi_tup_int, isi_tup_str, isi_tup_list, isi_tup_tuple, isi_tup_dict, isi_dct_bool, isi_dct_int, isi_dct_str, isi_dct_list, isi_dct_tuple, isi_dct_dict, g_nm, g_tp, g_nil, g_cons, List.getElem?_cons_succ, List.getElem?_cons_zero, List.set_cons_succ, List.set_cons_zero, truD, if_false, Bool.false_eq_true]
    refine kont_nx ?_
    simp only [wpS_seq, wpS_gNm, wpS_asg, wpS_ifS, wpS_drop, wpS_ret, wpS_retN, wpS_stF, wpS_augF, wpS_augI, wpS_augV, wpS_par', wpS_par3', wpS_some, wpS_mNx, wpS_mCt, wpS_mBk, kont_rt, kont_ct, kont_bk, fin_rt, fin_nx, wp_mK, wp_v, vO_some, wp_ret, wp_bnd, wp_op, wp_op1, wp_call, wp_fn, wp_cons, wp_nil, wp_tup, wp_lst, wp_obj, wp_oNone, wp_oSome, intO_int, wp_sl, wp_mIf, wp_mAnd, wp_mOr, wp_mNot, wp_mB, wp_mAndV, wp_mOrV, wp_mNotV, wp_mChain, wp_mTru, isBl_bl, truO_some, x_addI, x_addJ, x_sub, x_mod, x_div, x_mul, x_pow, x_shl, x_shr, x_band, x_bor, x_bxor, x_lt, x_le, x_gt, x_ge, x_neg, x_eqI, x_neI, x_eqS, x_neS, x_isN, x_isNN, x_int, x_abs, x_max2, x_min2, x_d1, x_d2, x_mkL, x_mkT, x_mkO, x_mkD, x_mkDo, x_ix, ixO_some, x_len, lenO_some, x_list, wpO_some, x_slT, x_slL, x_addLL, x_addTT, blO_some, x_isi, wp_isiT, x_fld, x_getI, wp_mMeth, wp_mMake, wp_mMt, wp_mLc, wp_mIt, wp_range1, wp_range2, wp_range3, wpS_for, isi_non_bool, isi_non_int, isi_non_str, isi_non_list, isi_non_tuple, isi_non_dict, isi_bl_bool, isi_bl_int, isi_bl_str, isi_bl_list, isi_bl_tuple, isi_bl_dict, isi_int_bool, isi_int_int, isi_int_str, isi_int_list, isi_int_tuple, isi_int_dict, isi_str_bool, isi_str_int, isi_str_str, isi_str_list, isi_str_tuple, isi_str_dict, isi_lst_bool, isi_lst_int, isi_lst_str, isi_lst_list, isi_lst_tuple, isi_lst_dict, isi_src_bool, isi_src_int, isi_src_str, isi_src_list, isi_src_tuple, isi_src_dict, isi_tup_bool, isi_tup_int, isi_tup_str, isi_tup_list, isi_tup_tuple, isi_tup_dict, isi_dct_bool, isi_dct_int, isi_dct_str, isi_dct_list, isi_dct_tuple, isi_dct_dict, g_nm, g_tp, g_nil, g_cons, List.getElem?_cons_succ, List.getElem?_cons_zero, List.set_cons_succ, List.set_cons_zero, truD, if_false, Bool.false_eq_true]
    refine kont_nx ?_
    simp only [wpS_seq, wpS_gNm, wpS_asg, wpS_ifS, wpS_drop, wpS_ret, wpS_retN, wpS_stF, wpS_augF, wpS_augI, wpS_augV, wpS_par', wpS_par3', wpS_some, wpS_mNx, wpS_mCt, wpS_mBk, kont_rt, kont_ct, kont_bk, fin_rt, fin_nx, wp_mK, wp_v, vO_some, wp_ret, wp_bnd, wp_op, wp_op1, wp_call, wp_fn, wp_cons, wp_nil, wp_tup, wp_lst, wp_obj, wp_oNone, wp_oSome, intO_int, wp_sl, wp_mIf, wp_mAnd, wp_mOr, wp_mNot, wp_mB, wp_mAndV, wp_mOrV, wp_mNotV, wp_mChain, wp_mTru, isBl_bl, truO_some, x_addI, x_addJ, x_sub, x_mod, x_div, x_mul, x_pow, x_shl, x_shr, x_band, x_bor, x_bxor, x_lt, x_le, x_gt, x_ge, x_neg, x_eqI, x_neI, x_eqS, x_neS, x_isN, x_isNN, x_int, x_abs, x_max2, x_min2, x_d1, x_d2, x_mkL, x_mkT, x_mkO, x_mkD, x_mkDo, x_ix, ixO_some, x_len, lenO_some, x_list, wpO_some, x_slT, x_slL, x_addLL, x_addTT, blO_some, x_isi, wp_isiT, x_fld, x_getI, wp_mMeth, wp_mMake, wp_mMt, wp_mLc, wp_mIt, wp_range1, wp_range2, wp_range3, wpS_for, isi_non_bool, isi_non_int, isi_non_str, isi_non_list, isi_non_tuple, isi_non_dict, isi_bl_bool, isi_bl_int, isi_bl_str, isi_bl_list, isi_bl_tuple, isi_bl_dict, isi_int_bool, isi_int_int, isi_int_str, isi_int_list, isi_int_tuple, isi_int_dict, isi_str_bool, isi_str_int, isi_str_str, isi_str_list, isi_str_tuple, isi_str_dict, isi_lst_bool, isi_lst_int, isi_lst_str, isi_lst_list, isi_lst_tuple, isi_lst_dict, isi_src_bool, isi_src_int, isi_src_str, isi_src_list, isi_src_tuple, isi_src_dict, isi_tup_bool, isi_tup_int, isi_tup_str, isi_tup_list, isi_tup_tuple, isi_tup_dict, isi_dct_bool, isi_dct_int, isi_dct_str, isi_dct_list, isi_dct_tuple, isi_dct_dict, g_nm, g_tp, g_nil, g_cons, List.getElem?_cons_succ, List.getElem?_cons_zero, List.set_cons_succ, List.set_cons_zero, truD, if_false, Bool.false_eq_true]
    refine kont_nx ?_
    simp only [wpS_seq, wpS_gNm, wpS_asg, wpS_ifS, wpS_drop, wpS_ret, wpS_retN, wpS_stF, wpS_augF, wpS_augI, wpS_augV, wpS_par', wpS_par3', wpS_some, wpS_mNx, wpS_mCt, wpS_mBk, kont_rt, kont_ct, kont_bk, fin_rt, fin_nx, wp_mK, wp_v, vO_some, wp_ret, wp_bnd, wp_op, wp_op1, wp_call, wp_fn, wp_cons, wp_nil, wp_tup, wp_lst, wp_obj, wp_oNone, wp_oSome, intO_int, wp_sl, wp_mIf, wp_mAnd, wp_mOr, wp_mNot, wp_mB, wp_mAndV, wp_mOrV, wp_mNotV, wp_mChain, wp_mTru, isBl_bl, truO_some, x_addI, x_addJ, x_sub, x_mod, x_div, x_mul, x_pow, x_shl, x_shr, x_band, x_bor, x_bxor, x_lt, x_le, x_gt, x_ge, x_neg, x_eqI, x_neI, x_eqS, x_neS, x_isN, x_isNN, x_int, x_abs, x_max2, x_min2, x_d1, x_d2, x_mkL, x_mkT, x_mkO, x_mkD, x_mkDo, x_ix, ixO_some, x_len, lenO_some, x_list, wpO_some, x_slT, x_slL, x_addLL, x_addTT, blO_some, x_isi, wp_isiT, x_fld, x_getI, wp_mMeth, wp_mMake, wp_mMt, wp_mLc, wp_mIt, wp_range1, wp_range2, wp_range3, wpS_for, isi_non_bool, isi_non_int, isi_non_str, isi_non_list, isi_non_tuple, isi_non_dict, isi_bl_bool, isi_bl_int, isi_bl_str, isi_bl_list, isi_bl_tuple, isi_bl_dict, isi_int_bool, isi_int_int, isi_int_str, isi_int_list, isi_int_tuple, isi_int_dict, isi_str_bool, isi_str_int, isi_str_str, isi_str_list, isi_str_tuple, isi_str_dict, isi_lst_bool, isi_lst_int, isi_lst_str, isi_lst_list, isi_lst_tuple, isi_lst_dict, isi_src_bool, isi_src_int, isi_src_str, isi_src_list, isi_src_tuple, isi_src_dict, isi_tup_bool, isi_tup_int, isi_tup_str, isi_tup_list, isi_tup_tuple, isi_tup_dict, isi_dct_bool, isi_dct_int, isi_dct_str, isi_dct_list, isi_dct_tuple, isi_dct_dict, g_nm, g_tp, g_nil, g_cons, List.getElem?_cons_succ, List.getElem?_cons_zero, List.set_cons_succ, List.set_cons_zero, truD, if_false, Bool.false_eq_true]
    refine kont_nx ?_
    simp only [wpS_seq, wpS_gNm, wpS_asg, wpS_ifS, wpS_drop, wpS_ret, wpS_retN, wpS_stF, wpS_augF, wpS_augI, wpS_augV, wpS_par', wpS_par3', wpS_some, wpS_mNx, wpS_mCt, wpS_mBk, kont_rt, kont_ct, kont_bk, fin_rt, fin_nx, wp_mK, wp_v, vO_some, wp_ret, wp_bnd, wp_op, wp_op1, wp_call, wp_fn, wp_cons, wp_nil, wp_tup, wp_lst, wp_obj, wp_oNone, wp_oSome, intO_int, wp_sl, wp_mIf, wp_mAnd, wp_mOr, wp_mNot, wp_mB, wp_mAndV, wp_mOrV, wp_mNotV, wp_mChain, wp_mTru, isBl_bl, truO_some, x_addI, x_addJ, x_sub, x_mod, x_div, x_mul, x_pow, x_shl, x_shr, x_band, x_bor, x_bxor, x_lt, x_le, x_gt, x_ge, x_neg, x_eqI, x_neI, x_eqS, x_neS, x_isN, x_isNN, x_int, x_abs, x_max2, x_min2, x_d1, x_d2, x_mkL, x_mkT, x_mkO, x_mkD, x_mkDo, x_ix, ixO_some, x_len, lenO_some, x_list, wpO_some, x_slT, x_slL, x_addLL, x_addTT, blO_some, x_isi, wp_isiT, x_fld, x_getI, wp_mMeth, wp_mMake, wp_mMt, wp_mLc, wp_mIt, wp_range1, wp_range2, wp_range3, wpS_for, isi_non_bool, isi_non_int, isi_non_str, isi_non_list, isi_non_tuple, isi_non_dict, isi_bl_bool, isi_bl_int, isi_bl_str, isi_bl_list, isi_bl_tuple, isi_bl_dict, isi_int_bool, isi_int_int, isi_int_str, isi_int_list, isi_int_tuple, isi_int_dict, isi_str_bool, isi_str_int, isi_str_str, isi_str_list, isi_str_tuple, isi_str_dict, isi_lst_bool, isi_lst_int, isi_lst_str, isi_lst_list, isi_lst_tuple, isi_lst_dict, isi_src_bool, isi_src_int, isi_src_str, isi_src_list, isi_src_tuple, isi_src_dict, isi_tup_bool, isi_tup_int, isi_tup_str, isi_tup_list, isi_tup_tuple, isi_tup_dict, isi_dct_bool, isi_dct_int, isi_dct_str, isi_dct_list, isi_dct_tuple, isi_dct_dict, g_nm, g_tp, g_nil, g_cons, List.getElem?_cons_succ, List.getElem?_cons_zero, List.set_cons_succ, List.set_cons_zero, truD, if_false, Bool.false_eq_true]
    refine kont_nx ?_
    exact seqEnd rfl rfl rfl rfl (fun i => rfl) (fun i => rfl) h.len hz (fun i d e hd he => h.get i d e hd he) ⟨rfl, rfl⟩
  obtain ⟨v, S', e, rfl, rfl⟩ := wp_to w
  exact e
theorem yes_dct {kx ky : List (Key × D)} (hx : dctOf S x = some kx) (hy : dctOf S y = some ky) (hl : kx.length = ky.length) (hz : ky.length ≤ 16777216) (hv : ∀ p ∈ ky, ∃ d e, dLook kx p.1 = some d ∧ dLook ky p.1 = some e ∧ ∀ S', Yes S' k d e) : Yes S (k + 1) x y := same_dct hx hy hl hz hv
theorem yes_e {P : D → MS → Prop} (h : Yes S k x y) : wp (mSame k [x, y]) S P E = P (.bl true) S := wp_of h
theorem yes_wp {P : D → MS → Prop} (h : Yes S k x y) (q : P (.bl true) S) : wp (mSame k [x, y]) S P E := by
  rw [wp_of h]; exact q
/-! ### dict displays -/
variable {env : En}
theorem y_pnil {P : List (D × D) → MS → Prop} : wp (mPairs [] env) S P E = P [] S := propext Iff.rfl
theorem y_pcons {a b : ME} {r : List (ME × ME)} {P : List (D × D) → MS → Prop} : wp (mPairs ((a, b) :: r) env) S P E = wp (a env) S (fun x S1 => wp (b env) S1 (fun y S2 => wp (mPairs r env) S2 (fun l S3 => P ((x, y) :: l) S3) E) E) E := by
  show wp (bnd (a env) fun x => bnd (b env) fun y => bnd (mPairs r env) fun ps => ret ((x, y) :: ps)) S P E = _
  rw [wp_bnd]
  congr 1
  funext x S1
  rw [wp_bnd]
  congr 1
  funext y S2
  rw [wp_bnd]
  rfl
theorem y_dct {mk : List (Key × D) → M D} {ps : List (ME × ME)} : wp (mDct mk ps env) S P E = wp (mPairs ps env) S (fun l S' => wpO (keysOf l) fun kvs => kvs.length ≤ 15 ∧ wp (mk (dMerge [] kvs)) S' P E) E := by
  unfold mDct
  rw [wp_bnd]
  congr 1
  funext l S'
  cases keysOf l with
  | none => rfl
  | some kvs =>
    dsimp only [wpO]
    by_cases h : kvs.length ≤ 15
    · rw [if_pos h]; exact propext ⟨fun q => ⟨h, q⟩, fun q => q.2⟩
    · rw [if_neg h]; exact propext ⟨fun q => q.elim, fun q => h q.1⟩
theorem ko_nil : keysOf [] = some [] := rfl
theorem ko_s {z : Str} {l : List (D × D)} : keysOf ((.str z, d) :: l) = (keysOf l).map ((.inr z, d) :: ·) := by
  show (match toKey (.str z), keysOf l with
    | some k, some r => some ((k, d) :: r)
    | _, _ => none) = _
  cases keysOf l <;> rfl
theorem ko_i {i : Int} {l : List (D × D)} : keysOf ((.int i, d) :: l) = (keysOf l).map ((.inl i, d) :: ·) := by
  show (match toKey (.int i), keysOf l with
    | some k, some r => some ((k, d) :: r)
    | _, _ => none) = _
  cases keysOf l <;> rfl
theorem y_dct0 {mk : List (Key × D) → M D} : wp (mDct0 mk env) S P E = wp (mk []) S P E := rfl
theorem at_1 {a b : D} {r : List D} : atI (a :: b :: r) 1 = some b := at_nat (ds := a :: b :: r) (j := 1) (by simp)
theorem at_2 {a b c : D} {r : List D} : atI (a :: b :: c :: r) 2 = some c := at_nat (ds := a :: b :: c :: r) (j := 2) (by simp)
theorem at_3 {a b c d : D} {r : List D} : atI (a :: b :: c :: d :: r) 3 = some d := at_nat (ds := a :: b :: c :: d :: r) (j := 3) (by simp)
theorem cut_from {ds : List D} (k : Nat) : cutD ds (some (k : Int)) none = ds.drop k := by
  unfold cutD
  rw [HT.sIx_nat, HT.sIx_none]
  by_cases h : k ≤ ds.length
  · rw [Nat.min_eq_left h, List.take_of_length_le (by rw [List.length_drop]; omega)]
  · rw [Nat.min_eq_right (by omega), List.drop_of_length_le (Nat.le_refl _), List.drop_of_length_le (by omega)]
    simp
theorem cut_2 {a b : D} {r : List D} : cutD (a :: b :: r) (some 2) none = r := cut_from 2
theorem cut_1 {a : D} {r : List D} : cutD (a :: r) (some 1) none = r := cut_from 1
theorem wp_ex {α : Type} {S S1 : MS} {m : M α} {v : α} (h : wp m S (fun u S' => u = v ∧ S' = S1) no) : m S = some (.ok v S1) := by
  obtain ⟨_, _, e, rfl, rfl⟩ := wp_to h
  exact e
theorem y_gcons {env : En} {S : MS} {g : MG} {r : MGs} {d : D} {ds : List D} {Z : En × MS → Prop} : wpO (gsCons g r (d :: ds) env S) Z = wpO (g d env S) fun z => wpO (r ds z.1 z.2) Z := by
  unfold gsCons wpO
  dsimp only
  cases g d env S <;> rfl
theorem y_gnil {env : En} {S : MS} {Z : En × MS → Prop} : wpO (gsNil [] env S) Z = Z (env, S) := rfl
theorem y_gnm {env : En} {S : MS} {i : Nat} {d : D} {Z : En × MS → Prop} : wpO (gNm i d env S) Z = Z (env.set i (some d), S) := rfl
/-- both ways of a test come to one thing -/
theorem br_wp {c : Bool} {S : MS} {mA mB : M D} {P : D → MS → Prop} {E : Exn → MS → Prop} {z : Dp (wp mA S P E) (wp mB S P E)} (X : D → MS → Prop) (hA : c = true → wp mA S X E) (hB : c = false → wp mB S X E) (hP : ∀ d S', X d S' → P d S') : br c (wp mA S P E) (wp mB S P E) z := by
  cases c with
  | true => rw [br_true]; exact wp_mono (hA rfl) hP
  | false => rw [br_false]; exact wp_mono (hB rfl) hP
end
theorem wipe_n {env : En} : wipeE env [] = env := rfl
theorem wipe_c {env : En} {v : Nat} {vs : List Nat} : wipeE env (v :: vs) = (wipeE env vs).set v none := rfl
end Mi
namespace G93
open PySem L2 Mi
theorem r__law_draws {x0 : D} {S : MS} {Q : D → MS → Prop} {E : Exn → MS → Prop} : wp (m__law_draws [x0]) S Q E = wpS (b__law_draws [some x0] S) (fin Q E) := wp_runB (ds := [x0]) rfl
theorem r__law_draw {x0 x1 : D} {S : MS} {Q : D → MS → Prop} {E : Exn → MS → Prop} : wp (m__law_draw [x0, x1]) S Q E = wpS (b__law_draw [some x0, some x1, none, none] S) (fin Q E) := wp_runB (ds := [x0, x1]) rfl
theorem r__law_table {x0 x1 x2 : D} {S : MS} {Q : D → MS → Prop} {E : Exn → MS → Prop} : wp (m__law_table [x0, x1, x2]) S Q E = wpS (b__law_table [some x0, some x1, some x2, none, none, none, none, none] S) (fin Q E) := wp_runB (ds := [x0, x1, x2]) rfl
theorem r_is_number {x0 x1 x2 : D} {S : MS} {Q : D → MS → Prop} {E : Exn → MS → Prop} : wp (m_is_number [x0, x1, x2]) S Q E = wpS (b_is_number [some x0, some x1, some x2] S) (fin Q E) := wp_runB (ds := [x0, x1, x2]) rfl
theorem r_check_table {x0 x1 : D} {S : MS} {Q : D → MS → Prop} {E : Exn → MS → Prop} : wp (m_check_table [x0, x1]) S Q E = wpS (b_check_table [some x0, some x1, none, none, none] S) (fin Q E) := wp_runB (ds := [x0, x1]) rfl
theorem r_Net___init__ {x0 x1 x2 : D} {S : MS} {Q : D → MS → Prop} {E : Exn → MS → Prop} : wp (m_Net___init__ [x0, x1, x2]) S Q E = wpS (b_Net___init__ [some x0, some x1, some x2, none, none] S) (fin Q E) := wp_runB (ds := [x0, x1, x2]) rfl
theorem r__law_copy {n : Nat} {x0 : D} {S : MS} {Q : D → MS → Prop} {E : Exn → MS → Prop} : wp (m__law_copy (n + 1) [x0]) S Q E = wpS (b__law_copy (m__law_copy n) [some x0, none, none, none] S) (fin Q E) := wp_runB (ds := [x0]) rfl
theorem r_Net_due {x0 : D} {S : MS} {Q : D → MS → Prop} {E : Exn → MS → Prop} : wp (m_Net_due [x0]) S Q E = wpS (b_Net_due [some x0, none, none] S) (fin Q E) := wp_runB (ds := [x0]) rfl
theorem r_Net_begin {x0 : D} {S : MS} {Q : D → MS → Prop} {E : Exn → MS → Prop} : wp (m_Net_begin [x0]) S Q E = wpS (b_Net_begin [some x0, none, none, none, none] S) (fin Q E) := wp_runB (ds := [x0]) rfl
theorem r_comes {x0 x1 : D} {S : MS} {Q : D → MS → Prop} {E : Exn → MS → Prop} : wp (m_comes [x0, x1]) S Q E = wpS (b_comes [some x0, some x1, none] S) (fin Q E) := wp_runB (ds := [x0, x1]) rfl
theorem r_Net_wait_for {x0 x1 x2 x3 : D} {S : MS} {Q : D → MS → Prop} {E : Exn → MS → Prop} : wp (m_Net_wait_for [x0, x1, x2, x3]) S Q E = wpS (b_Net_wait_for [some x0, some x1, some x2, some x3] S) (fin Q E) := wp_runB (ds := [x0, x1, x2, x3]) rfl
theorem r_Net_come {x0 : D} {S : MS} {Q : D → MS → Prop} {E : Exn → MS → Prop} : wp (m_Net_come [x0]) S Q E = wpS (b_Net_come [some x0, none, none, none, none, none, none, none] S) (fin Q E) := wp_runB (ds := [x0]) rfl
theorem r_Net_wait {x0 x1 : D} {S : MS} {Q : D → MS → Prop} {E : Exn → MS → Prop} : wp (m_Net_wait [x0, x1]) S Q E = wpS (b_Net_wait [some x0, some x1, none, none] S) (fin Q E) := wp_runB (ds := [x0, x1]) rfl
theorem r_Net_put {x0 x1 x2 : D} {S : MS} {Q : D → MS → Prop} {E : Exn → MS → Prop} : wp (m_Net_put [x0, x1, x2]) S Q E = wpS (b_Net_put [some x0, some x1, some x2] S) (fin Q E) := wp_runB (ds := [x0, x1, x2]) rfl
theorem r_Net_settle {x0 x1 : D} {S : MS} {Q : D → MS → Prop} {E : Exn → MS → Prop} : wp (m_Net_settle [x0, x1]) S Q E = wpS (b_Net_settle [some x0, some x1, none] S) (fin Q E) := wp_runB (ds := [x0, x1]) rfl
theorem r__law_goals {x0 x1 : D} {S : MS} {Q : D → MS → Prop} {E : Exn → MS → Prop} : wp (m__law_goals [x0, x1]) S Q E = wpS (b__law_goals [some x0, some x1, none] S) (fin Q E) := wp_runB (ds := [x0, x1]) rfl
theorem r__law_all_ways {x0 x1 : D} {S : MS} {Q : D → MS → Prop} {E : Exn → MS → Prop} : wp (m__law_all_ways [x0, x1]) S Q E = wpS (b__law_all_ways [some x0, some x1, none, none, none] S) (fin Q E) := wp_runB (ds := [x0, x1]) rfl
theorem r__law_passed {x0 x1 : D} {S : MS} {Q : D → MS → Prop} {E : Exn → MS → Prop} : wp (m__law_passed [x0, x1]) S Q E = wpS (b__law_passed [some x0, some x1, none, none, none, none, none, none] S) (fin Q E) := wp_runB (ds := [x0, x1]) rfl
theorem r_law {x0 : D} {S : MS} {Q : D → MS → Prop} {E : Exn → MS → Prop} : wp (m_law [x0]) S Q E = wpS (b_law [some x0, none, none, none, none, none, none, none, none, none, none, none, none, none, none, none, none, none, none, none, none, none, none] S) (fin Q E) := wp_runB (ds := [x0]) rfl
end G93
/-! MiCo: what the laws' texts share. -/
namespace Mi
open PySem L2
section
variable {S S' S1 : MS} {Q : D → MS → Prop} {P : D → MS → Prop} {E : Exn → MS → Prop} {R : Fl → Prop} {env : En} {ns : List Nat} {d : D} {ds : List D}
theorem wq {m : M D} {v : D} (h : wp m S (fun u S' => u = v ∧ S' = S) no) : wp m S Q E = Q v S := wp_of (wp_ex h)
/-- the same, and the store is another one -/
theorem wq2 {m : M D} {v : D} (h : wp m S (fun u S' => u = v ∧ S' = S1) no) : wp m S Q E = Q v S1 := wp_of (wp_ex h)
theorem wpS_of {m : MSt} {fl : Fl} (e : m env S = some fl) : wpS (m env S) R = R fl := by
  unfold wpS
  rw [e]
def loopK (g : MG) (b : MSt) (ds : List D) (R : Fl → Prop) : Fl → Prop
  | .nx e s => wpS (loopF g b ds e s) R
  | .ct e s => wpS (loopF g b ds e s) R
  | .bk e s => R (.nx e s)
  | .rt d s => R (.rt d s)
  | .exc x e s => R (.exc x e s)
theorem loop_cons {g : MG} {b : MSt} : wpS (loopF g b (d :: ds) env S) R = wpO (g d env S) fun z => wpS (b z.1 z.2) (loopK g b ds R) := by
  unfold wpS wpO loopF
  cases g d env S with
  | none => rfl
  | some z =>
    obtain ⟨e1, S1⟩ := z
    dsimp only
    cases b e1 S1 with
    | none => rfl
    | some fl => cases fl <;> rfl
theorem lK_nx {g : MG} {b : MSt} : loopK g b ds R (.nx env S) = wpS (loopF g b ds env S) R := propext Iff.rfl
theorem lK_exc {g : MG} {b : MSt} {e : Exn} : loopK g b ds R (.exc e env S) = R (.exc e env S) := propext Iff.rfl
theorem sm0 : Small 0 = True := eq_true (small_of (by omega))
theorem sm1 : Small 1 = True := eq_true (small_of (by omega))
theorem sm2 : Small 2 = True := eq_true (small_of (by omega))
theorem sm3 : Small 3 = True := eq_true (small_of (by omega))
theorem sm4 : Small 4 = True := eq_true (small_of (by omega))
theorem sm5 : Small 5 = True := eq_true (small_of (by omega))
theorem sm6 : Small 6 = True := eq_true (small_of (by omega))
theorem sm7 : Small 7 = True := eq_true (small_of (by omega))
theorem sm8 : Small 8 = True := eq_true (small_of (by omega))
theorem sm9 : Small 9 = True := eq_true (small_of (by omega))
theorem suc_cast {n : Nat} : (n : Int) + 1 = ((n + 1 : Nat) : Int) := rfl
theorem add_mk {n : Nat} {o : MO} {k : Nat} : ((MS.mk n S.get).add o).nx = n + 1 := rfl
theorem lc_mp {α : Type} {enc : α → D} {l : List α} {g : α → D} {j : Nat} {te : ME} {Q : List D → MS → Prop} {E : Exn → MS → Prop} (he : ∀ x ∈ l, te (env.set j (some (enc x))) S = some (.ok (g x) S)) : wp (lcM (gNm j) mYes te env (l.map enc)) S Q E = Q (l.map g) S := by
  refine wp_of (wp_ex (S := S) (S1 := S) (v := l.map g) ?_)
  refine lc_br (fun i acc S' => acc = (l.take i).map g ∧ S' = S) ⟨by simp, rfl⟩ ?_ ?_
  · rintro i d acc S' hd ⟨rfl, rfl⟩
    have hk : i < l.length := by
      have := (List.getElem?_eq_some_iff.mp hd).1
      simpa using this
    have ex : d = enc l[i] := by
      rw [List.getElem?_map, List.getElem?_eq_getElem hk] at hd
      exact (Option.some.inj hd).symm
    subst ex
    rw [y_gnm, y_yes, br_true, wp_of (he _ (List.getElem_mem hk)), List.take_succ_eq_append_getElem hk]
    exact ⟨by rw [List.map_append]; rfl, rfl⟩
  · rintro acc S' ⟨rfl, rfl⟩
    rw [List.length_map, List.take_length]
    exact ⟨rfl, rfl⟩
/-- with a test -/
theorem lc_ft {α : Type} {enc : α → D} {l : List α} {f : α → Bool} {g : α → D} {j : Nat} {tt : MT} {te : ME} {Q : List D → MS → Prop} {E : Exn → MS → Prop} (ht : ∀ x ∈ l, tt (env.set j (some (enc x))) S = some (.ok (f x) S)) (he : ∀ x ∈ l, f x = true → te (env.set j (some (enc x))) S = some (.ok (g x) S)) : wp (lcM (gNm j) tt te env (l.map enc)) S Q E = Q ((l.filter f).map g) S := by
  refine wp_of (wp_ex (S := S) (S1 := S) (v := (l.filter f).map g) ?_)
  refine lc_br (fun i acc S' => acc = ((l.take i).filter f).map g ∧ S' = S) ⟨by simp, rfl⟩ ?_ ?_
  · rintro i d acc S' hd ⟨rfl, rfl⟩
    have hk : i < l.length := by
      have := (List.getElem?_eq_some_iff.mp hd).1
      simpa using this
    have ex : d = enc l[i] := by
      rw [List.getElem?_map, List.getElem?_eq_getElem hk] at hd
      exact (Option.some.inj hd).symm
    subst ex
    rw [y_gnm]
    dsimp only [wpO]
    rw [wp_of (ht _ (List.getElem_mem hk)), List.take_succ_eq_append_getElem hk, List.filter_append, List.map_append]
    cases c : f l[i] with
    | true =>
      rw [br_true, wp_of (he _ (List.getElem_mem hk) c), List.filter_cons_of_pos c]
      exact ⟨rfl, rfl⟩
    | false =>
      rw [br_false, List.filter_cons_of_neg (by rw [c]; exact Bool.false_ne_true)]
      exact ⟨by simp, rfl⟩
  · rintro acc S' ⟨rfl, rfl⟩
    rw [List.length_map, List.take_length]
    exact ⟨rfl, rfl⟩
theorem rng_mp {k : Nat} : rngN 0 1 k = (List.range k).map fun i : Nat => D.int (i : Int) := by
  unfold rngN
  refine List.map_congr_left fun i _ => ?_
  congr 1
  omega
theorem bls_map {α : Type} {l : List α} {f : α → Bool} : blsOf (l.map fun x => D.bl (f x)) = some (l.map f) := by
  induction l with
  | nil => rfl
  | cons a r ih =>
    show (blsOf (r.map fun x => D.bl (f x))).map (f a :: ·) = _
    rw [ih]
    rfl
theorem ints_map {α : Type} {l : List α} {f : α → Int} : intsOf (l.map fun x => D.int (f x)) = some (l.map f) := by
  induction l with
  | nil => rfl
  | cons a r ih =>
    show (intsOf (r.map fun x => D.int (f x))).map (f a :: ·) = _
    rw [ih]
    rfl
theorem x_minL {ds : List D} {is : List Int} (h : intsOf ds = some is) (hn : is ≠ []) : wp (dMinL (.lst ds)) S P E = P (.int (minI is)) S := by
  unfold dMinL dInts wp
  dsimp only [lstOf]
  rw [h]
  dsimp only
  have : (!is.isEmpty) = true := by cases is with
    | nil => exact absurd rfl hn
    | cons _ _ => rfl
  rw [if_pos this]
theorem x_maxL {ds : List D} {is : List Int} (h : intsOf ds = some is) (hn : is ≠ []) : wp (dMaxL (.lst ds)) S P E = P (.int (maxI is)) S := by
  unfold dMaxL dInts wp
  dsimp only [lstOf]
  rw [h]
  dsimp only
  have : (!is.isEmpty) = true := by cases is with
    | nil => exact absurd rfl hn
    | cons _ _ => rfl
  rw [if_pos this]
end
end Mi
/-! MiDt: tuples of ints: compared, sorted, the least, removed. -/
namespace Mi
open PySem L2
section
variable {S S' : MS} {Q : D → MS → Prop} {P : D → MS → Prop} {E : Exn → MS → Prop} {R : Fl → Prop} {env : En}
/-- a tuple of ints -/
def tD (xs : List Int) : D := .tup (xs.map D.int)
def pT (xs : List Int) : PyData := .tuple (xs.map PyData.int)
theorem py_ints : ∀ {xs : List Int}, toPyL (xs.map D.int) = some (xs.map PyData.int)
  | [] => rfl
  | a :: t => by
    show (match toPy (.int a), toPyL (t.map D.int) with
      | some p, some ps => some (p :: ps)
      | _, _ => none) = _
    rw [py_ints]
    rfl
theorem py_t {xs : List Int} : toPy (tD xs) = some (pT xs) := by
  show (toPyL (xs.map D.int)).map PyData.tuple = _
  rw [py_ints]
  rfl
theorem py_ts : ∀ {l : List (List Int)}, toPyL (l.map tD) = some (l.map pT)
  | [] => rfl
  | a :: t => by
    show (match toPy (tD a), toPyL (t.map tD) with
      | some p, some ps => some (p :: ps)
      | _, _ => none) = _
    rw [py_ts, py_t]
    rfl
theorem ev_all : ∀ {xs ys : List Int}, PyData.eqvAll (xs.map PyData.int) (ys.map PyData.int) = decide (xs = ys)
  | [], [] => by simp [PyData.eqvAll]
  | [], _ :: _ => by simp [PyData.eqvAll]
  | _ :: _, [] => by simp [PyData.eqvAll]
  | x :: xs, y :: ys => by
    rw [List.map_cons, List.map_cons]
    simp only [PyData.eqvAll, PyData.eqv, ev_all]
    by_cases h : x = y
    · by_cases h2 : xs = ys
      · simp [h, h2]
      · simp [h, h2]
    · simp [h]
theorem ev_t {xs ys : List Int} : PyData.eqv (pT xs) (pT ys) = decide (xs = ys) := by
  unfold pT
  simp only [PyData.eqv, ev_all]
theorem lay_ints : ∀ {xs : List Int}, PyData.canLayAll0 (xs.map PyData.int) = true
  | [] => by simp [PyData.canLayAll0]
  | x :: xs => by
    rw [List.map_cons]
    simp only [PyData.canLayAll0, PyData.canLay0, lay_ints, Bool.and_self]
theorem dep_ints : ∀ {xs : List Int}, PyData.depthAll (xs.map PyData.int) ≤ 1
  | [] => by simp [PyData.depthAll]
  | x :: xs => by
    rw [List.map_cons]
    have := dep_ints (xs := xs)
    simp only [PyData.depthAll, PyData.depth]
    omega
theorem sh_t {xs : List Int} : SeqAt.shaped (pT xs) = true := by
  unfold SeqAt.shaped pT
  have := dep_ints (xs := xs)
  rw [show PyData.canLay0 (.tuple (xs.map PyData.int)) = true from by simp only [PyData.canLay0, lay_ints], Bool.true_and]
  exact decide_eq_true (by simp only [PyData.depth]; omega)
theorem lay_ts : ∀ {l : List (List Int)}, PyData.canLayAll0 (l.map pT) = true
  | [] => by simp [PyData.canLayAll0]
  | x :: xs => by
    rw [List.map_cons]
    simp only [PyData.canLayAll0, lay_ts, Bool.and_true]
    unfold pT
    simp only [PyData.canLay0, lay_ints]
theorem dep_ts : ∀ {l : List (List Int)}, PyData.depthAll (l.map pT) ≤ 2
  | [] => by simp [PyData.depthAll]
  | x :: xs => by
    rw [List.map_cons]
    have h1 := dep_ts (l := xs)
    have h2 := dep_ints (xs := x)
    unfold pT at h1 ⊢
    simp only [PyData.depthAll, PyData.depth]
    omega
theorem sh_ts {l : List (List Int)} : SeqAt.shaped (.list (l.map pT)) = true := by
  unfold SeqAt.shaped
  have := dep_ts (l := l)
  rw [show PyData.canLay0 (.list (l.map pT)) = true from by simp only [PyData.canLay0, lay_ts], Bool.true_and]
  exact decide_eq_true (by simp only [PyData.depth]; omega)
theorem eqT {a b : List Int} : dEqB S (tD a) (tD b) = some (decide (a = b)) := by
  have h : dEqB S (tD a) (tD b) = (match toPy (tD a), toPy (tD b) with
    | some p, some q => if (SeqAt.shaped p && SeqAt.shaped q) = true then some (PyData.eqv p q) else none
    | _, _ => none) := rfl
  rw [h, py_t, py_t]
  dsimp only
  rw [sh_t, sh_t, Bool.and_self, if_pos rfl, ev_t]
theorem in_any {a : List Int} {l : List (List Int)} : ((l.map pT).any fun z => PyData.eqv z (pT a)) = decide (a ∈ l) := by
  by_cases c : a ∈ l
  · rw [decide_eq_true c, List.any_eq_true]
    exact ⟨pT a, List.mem_map.mpr ⟨a, c, rfl⟩, by rw [ev_t]; exact decide_eq_true rfl⟩
  · rw [decide_eq_false c, List.any_eq_false]
    intro z hz
    obtain ⟨b, hb, rfl⟩ := List.mem_map.mp hz
    rw [ev_t, decide_eq_true_eq]
    exact fun e => c (e ▸ hb)
theorem inT {a : List Int} {l : List (List Int)} : dInB S (tD a) (.lst (l.map tD)) = some (decide (a ∈ l)) := by
  unfold dInB
  rw [dctOf_lst, seqOf_lst]
  dsimp only
  rw [show flatD (tD a) = false from rfl, Bool.false_and, if_neg Bool.false_ne_true]
  rw [show toPyS S (tD a) = toPy (tD a) from rfl, py_t, py_ts]
  dsimp only
  rw [sh_t, sh_ts, Bool.and_self, if_pos rfl, in_any]
theorem inTO {a : List Int} {l : List (List Int)} {n : Nat} (h : S.get n = some (.lst (l.map tD))) : dInB S (tD a) (.obj n) = some (decide (a ∈ l)) := by
  unfold dInB
  rw [dctOf_obj, seqOf_obj, h, dctM_lst, lstM_lst]
  dsimp only
  rw [show flatD (tD a) = false from rfl, Bool.false_and, if_neg Bool.false_ne_true]
  rw [show toPyS S (tD a) = toPy (tD a) from rfl, py_t, py_ts]
  dsimp only
  rw [sh_t, sh_ts, Bool.and_self, if_pos rfl, in_any]
/-- a comprehension over what is encoded -/
theorem lc_fm {α : Type} {enc : α → D} {l : List α} {f : α → Bool} {g : α → D} {j : Nat} {tt : MT} {te : ME} {Q : List D → MS → Prop} (hs : ∀ x ∈ l, tt (env.set j (some (enc x))) S = some (.ok (f x) S)) (he : ∀ x ∈ l, te (env.set j (some (enc x))) S = some (.ok (g x) S)) : wp (lcM (gNm j) tt te env (l.map enc)) S Q E = Q ((l.filter f).map g) S := by
  refine wp_of (wp_ex (S := S) (S1 := S) (v := (l.filter f).map g) ?_)
  refine lc_br (fun i acc S' => acc = ((l.take i).filter f).map g ∧ S' = S) ⟨by simp, rfl⟩ ?_ ?_
  · rintro i d acc S' hd ⟨rfl, rfl⟩
    have hk : i < l.length := by
      have := (List.getElem?_eq_some_iff.mp hd).1
      simpa using this
    have ex : d = enc l[i] := by
      rw [List.getElem?_map, List.getElem?_eq_getElem hk] at hd
      exact (Option.some.inj hd).symm
    subst ex
    rw [y_gnm, wp_of (hs _ (List.getElem_mem hk)), List.take_succ_eq_append_getElem hk, List.filter_append]
    refine br_cases (fun c => ?_) (fun c => ?_)
    · rw [wp_of (he _ (List.getElem_mem hk)), List.filter_cons_of_pos c]
      exact ⟨by simp, rfl⟩
    · rw [List.filter_cons_of_neg (by rw [c]; exact Bool.false_ne_true)]
      exact ⟨by simp, rfl⟩
  · rintro acc S' ⟨rfl, rfl⟩
    rw [List.length_map, List.take_length]
    exact ⟨rfl, rfl⟩
def comes (t : List (List Int)) (s : List Int) : List (List Int) := (t.filter fun x => decide (x.take 2 = s)).map (·.drop 2)
theorem sml {α : Type} {l : List α} (h : l.length ≤ 100) : Small l.length := small_of (by omega)
theorem cutT {xs : List Int} : cutD (xs.map D.int) none (some 2) = (xs.take 2).map D.int := by
  show ((xs.map D.int).drop _).take _ = _
  have e : HT.sIx (xs.map D.int).length (xs.map D.int).length (some 2) = min 2 (xs.map D.int).length := HT.sIx_nat _ _ 2
  have e0 : HT.sIx (xs.map D.int).length 0 none = 0 := rfl
  rw [e, e0, List.drop_zero, Nat.sub_zero, List.map_take]
  by_cases c : 2 ≤ (xs.map D.int).length
  · rw [Nat.min_eq_left c]
  · rw [Nat.min_eq_right (by omega), List.take_of_length_le (Nat.le_refl _), List.take_of_length_le (by omega)]
theorem cutF {xs : List Int} : cutD (xs.map D.int) (some 2) none = (xs.drop 2).map D.int := by
  rw [show (2 : Int) = ((2 : Nat) : Int) from rfl, cut_from, List.map_drop]

/-! ### sorted, least, removed -/
theorem dat_ints : ∀ {xs : List Int}, datL (xs.map D.int) = some (xs.map PyData.int)
  | [] => by unfold datL; rfl
  | a :: t => by
    rw [List.map_cons]
    unfold datL
    rw [dat_ints]
    unfold datD
    rfl
theorem dat_t {xs : List Int} : datD (tD xs) = some (pT xs) := by
  unfold tD datD
  rw [dat_ints]
  rfl
theorem dat_ts : ∀ {l : List (List Int)}, datL (l.map tD) = some (l.map pT)
  | [] => by unfold datL; rfl
  | a :: t => by
    rw [List.map_cons]
    unfold datL
    rw [dat_ts, dat_t]
    rfl
theorem alike_t {xs ys : List Int} : PySem.W.alike (pT xs) (pT ys) = true := by
  unfold pT
  simp only [PySem.W.alike]
  exact PySem.W.alike_ints xs ys
theorem depth_t {xs : List Int} : (pT xs).depth ≤ 8 := by
  unfold pT
  have := dep_ints (xs := xs)
  simp only [PyData.depth]
  omega
theorem lt_t {xs ys : List Int} : PySem.W.dataLt (pT xs) (pT ys) = decide (xs < ys) := by
  unfold pT
  rw [PySem.W.dataLt_tuple]
  exact PySem.W.dataLt_ints xs ys
theorem okS_t {l : List (List Int)} (h : ∀ x ∈ l, x ≠ []) : okS (l.map pT) = true := by
  unfold okS
  simp only [Bool.and_eq_true, Bool.or_eq_true, List.all_eq_true]
  refine ⟨⟨fun p hp q hq => ?_, .inl fun p hp => ?_⟩, fun p hp => ?_⟩
  · obtain ⟨x, _, rfl⟩ := List.mem_map.mp hp
    obtain ⟨y, _, rfl⟩ := List.mem_map.mp hq
    exact alike_t
  · obtain ⟨x, hx, rfl⟩ := List.mem_map.mp hp
    cases x with
    | nil => exact absurd rfl (h _ hx)
    | cons a t => rfl
  · obtain ⟨x, _, rfl⟩ := List.mem_map.mp hp
    exact decide_eq_true depth_t
/-- by the rows of ints that they are -/
def le_k {α : Type} (k : α → List Int) (a b : α) : Bool := decide (k a ≤ k b)
def soK {α : Type} (k : α → List Int) (l : List α) : List α := l.mergeSort (le_k k)
def mnK {α : Type} (k : α → List Int) (x : α) (xs : List α) : α := xs.foldl (fun a y => if k y < k a then y else a) x
section
variable {α : Type} {k : α → List Int} {l : List α}
theorem zip_mm {β γ : Type} {f : α → β} {g : α → γ} : ∀ {l : List α}, (l.map f).zip (l.map g) = l.map fun a => (f a, g a)
  | [] => rfl
  | a :: r => by
    rw [List.map_cons, List.map_cons, List.map_cons, List.zip_cons_cons, zip_mm]
theorem erase_mm {β : Type} {f : α → β} : ∀ {l : List α} {j : Nat}, (l.map f).eraseIdx j = (l.eraseIdx j).map f
  | [], j => by simp
  | a :: r, 0 => rfl
  | a :: r, j + 1 => by
    rw [List.map_cons, List.eraseIdx_cons_succ, List.eraseIdx_cons_succ, List.map_cons, erase_mm]
theorem place_k [BEq α] [LawfulBEq α] (hk : ∀ a b, k a = k b → a = b) {a : α} : ∀ {l : List α}, a ∈ l → ((l.map k).map pT).findIdx? (fun y => PyData.eqv y (pT (k a))) = some (l.idxOf a)
  | [], h => by cases h
  | b :: r, h => by
    rw [List.map_cons, List.map_cons, List.findIdx?_cons, ev_t, List.idxOf_cons]
    by_cases c : b = a
    · subst c
      rw [decide_eq_true rfl, if_pos rfl]
      simp
    · have c2 : ¬k b = k a := fun q => c (hk _ _ q)
      rw [decide_eq_false c2, if_neg Bool.false_ne_true, place_k hk ((List.mem_cons.mp h).resolve_left fun e => c e.symm)]
      have : (b == a) = false := by simpa using c
      rw [this]
      rfl
theorem x_sortK {mk : List D → M D} (h : ∀ x, k x ≠ []) : wp (dSortG mk (.lst (l.map fun a => tD (k a)))) S P E = wp (mk ((soK k l).map fun a => tD (k a))) S P E := by
  have e1 : (l.map fun a => tD (k a)) = (l.map k).map tD := by rw [List.map_map]; rfl
  have e2 : datL (l.map fun a => tD (k a)) = some ((l.map k).map pT) := by rw [e1, dat_ts]
  have hok : okS ((l.map k).map pT) = true := okS_t fun x hx => by
    obtain ⟨a, _, rfl⟩ := List.mem_map.mp hx
    exact h a
  have e3 : sortDs (l.map fun a => tD (k a)) ((l.map k).map pT) = (soK k l).map fun a => tD (k a) := by
    unfold sortDs srt soK
    have ez : (l.map fun a => tD (k a)).zip ((l.map k).map pT) = l.map fun a => (tD (k a), pT (k a)) := by
      rw [List.map_map]
      exact zip_mm
    rw [ez, ← PySem.W.sort_maps (r := le_k k) (fun a => (tD (k a), pT (k a))) (fun a _ b _ => ?_), List.map_map]
    · rfl
    · show decide (k a ≤ k b) = !PySem.W.dataLt (pT (k b)) (pT (k a))
      rw [lt_t]
      by_cases c : k b < k a
      · rw [decide_eq_true c, decide_eq_false fun q => List.not_lt.mpr q c]
        rfl
      · rw [decide_eq_false c, decide_eq_true (List.not_lt.mp c)]
        rfl
  unfold dSortG wp
  dsimp only [lstOf]
  rw [e2]
  dsimp only
  rw [if_pos hok, e3]
theorem minD_k : ∀ (xs : List α) (x : α), PySem.W.minD (pT (k x)) (xs.map fun a => pT (k a)) = pT (k (mnK k x xs))
  | [], x => rfl
  | y :: ys, x => by
    have e1 : PySem.W.minD (pT (k x)) ((y :: ys).map fun a => pT (k a)) = PySem.W.minD (if PySem.W.dataLt (pT (k y)) (pT (k x)) then pT (k y) else pT (k x)) (ys.map fun a => pT (k a)) := rfl
    have e2 : mnK k x (y :: ys) = mnK k (if k y < k x then y else x) ys := rfl
    rw [e1, e2, lt_t]
    by_cases c : k y < k x
    · rw [decide_eq_true c, if_pos rfl, if_pos c]
      exact minD_k ys y
    · rw [decide_eq_false c, if_neg Bool.false_ne_true, if_neg c]
      exact minD_k ys x
theorem unL_map {xs : List Int} : unL (xs.map PyData.int) = xs.map D.int := un_datL dat_ints
theorem un_t {xs : List Int} : unD (pT xs) = tD xs := un_dat dat_t
theorem x_minK {x : α} {xs : List α} : wp (dMinG (.lst ((x :: xs).map fun a => tD (k a)))) S P E = P (tD (k (mnK k x xs))) S := by
  have e1 : datL ((x :: xs).map fun a => tD (k a)) = some (pT (k x) :: xs.map fun a => pT (k a)) := by
    have e : ((x :: xs).map fun a => tD (k a)) = ((x :: xs).map k).map tD := by rw [List.map_map]; rfl
    rw [e, dat_ts, List.map_map]
    rfl
  have hok : okM (pT (k x) :: xs.map fun a => pT (k a)) = true := by
    have e : (pT (k x) :: xs.map fun a => pT (k a)) = ((x :: xs).map k).map pT := by rw [List.map_map]; rfl
    rw [e]
    unfold okM
    simp only [Bool.and_eq_true, List.all_eq_true]
    refine ⟨⟨fun p hp q hq => ?_, fun p hp => ?_⟩, decide_eq_true ?_⟩
    · obtain ⟨x, _, rfl⟩ := List.mem_map.mp hp
      obtain ⟨y, _, rfl⟩ := List.mem_map.mp hq
      exact alike_t
    · obtain ⟨x, _, rfl⟩ := List.mem_map.mp hp
      rfl
    · have := dep_ts (l := (x :: xs).map k)
      omega
  unfold dMinG wp
  dsimp only [lstOf]
  rw [e1]
  dsimp only
  rw [if_pos hok, minD_k, un_t]
theorem plain_ints : ∀ {xs : List Int}, PyData.plainAll (xs.map PyData.int) = true
  | [] => by simp [PyData.plainAll]
  | x :: xs => by
    rw [List.map_cons]
    simp only [PyData.plainAll, PyData.plain, plain_ints, Bool.and_self]
theorem plain_t {xs : List Int} : (pT xs).plain = true := by
  unfold pT
  simp only [PyData.plain, plain_ints]
theorem plain_ts : ∀ {l : List (List Int)}, PyData.plainAll (l.map pT) = true
  | [] => by simp [PyData.plainAll]
  | x :: xs => by
    rw [List.map_cons]
    simp only [PyData.plainAll, plain_t, plain_ts, Bool.and_self]
theorem x_removeK [BEq α] [LawfulBEq α] (hk : ∀ a b, k a = k b → a = b) {n : Nat} {a : α} (h : S.get n = some (.lst (l.map fun a => tD (k a)))) (ha : a ∈ l) : wp (dRemoveG (.obj n) [tD (k a)]) S P E = P .non (S.set n (.lst ((l.erase a).map fun a => tD (k a)))) := by
  have e0 : (l.map fun a => tD (k a)) = (l.map k).map tD := by rw [List.map_map]; rfl
  have e1 : datL (l.map fun a => tD (k a)) = some ((l.map k).map pT) := by rw [e0, dat_ts]
  have hok : okR ((l.map k).map pT) (pT (k a)) = true := by
    unfold okR
    rw [plain_ts, plain_t, decide_eq_true depth_t]
    rfl
  have e2 : PySem.SeqAt.dataPlace ((l.map k).map pT) (pT (k a)) = some (l.idxOf a) := by
    exact place_k hk ha
  have hm : mutL S (.obj n) = some (n, l.map fun a => tD (k a)) := by
    unfold mutL
    dsimp only
    rw [h]
  unfold dRemoveG wp
  dsimp only
  rw [hm]
  dsimp only
  rw [e1, dat_t]
  dsimp only
  rw [if_pos hok, e2]
  dsimp only
  rw [List.erase_eq_eraseIdx_of_idxOf (i := l.idxOf a) ?_]
  · rw [erase_mm]
  · first | rfl | exact List.idxOf_lt_length_of_mem ha
end
/-! ### the order -/
section
variable {α : Type} {k : α → List Int} {l l' : List α}
theorem le_tr : ∀ a b c : α, le_k k a b = true → le_k k b c = true → le_k k a c = true := fun a b c h g => decide_eq_true (List.le_trans (of_decide_eq_true h) (of_decide_eq_true g))
theorem le_to : ∀ a b : α, (le_k k a b || le_k k b a) = true := fun a b => by
  unfold le_k
  rw [Bool.or_eq_true, decide_eq_true_eq, decide_eq_true_eq]
  exact List.le_total _ _
theorem le_an (hk : ∀ a b, k a = k b → a = b) {a b : α} (h : le_k k a b = true) (g : le_k k b a = true) : a = b := hk _ _ (List.le_antisymm (of_decide_eq_true h) (of_decide_eq_true g))
theorem so_sorted : (soK k l).Pairwise fun a b => le_k k a b = true := List.pairwise_mergeSort le_tr le_to l
theorem so_pm : (soK k l).Perm l := List.mergeSort_perm l _
theorem so_one (hk : ∀ a b, k a = k b → a = b) : ∀ {l m : List α}, l.Perm m → (l.Pairwise fun a b => le_k k a b = true) → (m.Pairwise fun a b => le_k k a b = true) → l = m
  | [], m, p, _, _ => (List.nil_perm.mp p).symm
  | a :: r, [], p, _, _ => absurd p.length_eq (by simp)
  | a :: r, b :: t, p, h, g => by
    have h1 := List.pairwise_cons.mp h
    have g1 := List.pairwise_cons.mp g
    have e : a = b := by
      rcases List.mem_cons.mp (p.mem_iff.mp List.mem_cons_self) with e | e
      · exact e
      · rcases List.mem_cons.mp (p.mem_iff.mpr List.mem_cons_self) with e2 | e2
        · exact e2.symm
        · exact le_an hk (h1.1 _ e2) (g1.1 _ e)
    subst e
    rw [so_one hk (List.Perm.cons_inv p) h1.2 g1.2]
theorem so_perm (hk : ∀ a b, k a = k b → a = b) (p : l.Perm l') : soK k l = soK k l' := so_one hk ((so_pm.trans p).trans so_pm.symm) so_sorted so_sorted
theorem mn_mem : ∀ (xs : List α) (x : α), mnK k x xs ∈ x :: xs
  | [], x => List.mem_singleton.mpr rfl
  | y :: ys, x => by
    have h := mn_mem ys (if k y < k x then y else x)
    have e : mnK k x (y :: ys) = mnK k (if k y < k x then y else x) ys := rfl
    rw [e]
    rcases List.mem_cons.mp h with h | h
    · rw [h]
      split
      · exact List.mem_cons_of_mem _ List.mem_cons_self
      · exact List.mem_cons_self
    · exact List.mem_cons_of_mem _ (List.mem_cons_of_mem _ h)
theorem mn_le : ∀ (xs : List α) (x : α), ∀ z ∈ x :: xs, le_k k (mnK k x xs) z = true
  | [], x, z, hz => by
    rw [List.mem_singleton.mp hz]
    exact decide_eq_true (List.le_refl _)
  | y :: ys, x, z, hz => by
    have e : mnK k x (y :: ys) = mnK k (if k y < k x then y else x) ys := rfl
    rw [e]
    have ih := mn_le ys (if k y < k x then y else x)
    have h0 := ih _ List.mem_cons_self
    rcases List.mem_cons.mp hz with rfl | hz
    · refine le_tr _ _ _ h0 (decide_eq_true ?_)
      split
      · rename_i c; exact List.le_of_lt c
      · exact List.le_refl _
    · rcases List.mem_cons.mp hz with rfl | hz
      · refine le_tr _ _ _ h0 (decide_eq_true ?_)
        split
        · exact List.le_refl _
        · rename_i c; exact List.not_lt.mp c
      · exact ih _ (List.mem_cons_of_mem _ hz)
/-- the least one is the first -/
theorem so_head (hk : ∀ a b, k a = k b → a = b) {x : α} {xs : List α} : ∃ r, soK k (x :: xs) = mnK k x xs :: r := by
  cases e : soK k (x :: xs) with
  | nil =>
    have := (so_pm (k := k) (l := x :: xs)).length_eq
    rw [e] at this
    simp at this
  | cons a r =>
    refine ⟨r, ?_⟩
    have hp : (a :: r).Perm (x :: xs) := by rw [← e]; exact so_pm
    have hs := so_sorted (k := k) (l := x :: xs)
    rw [e] at hs
    have h1 := List.pairwise_cons.mp hs
    congr 1
    refine le_an hk ?_ (mn_le xs x a (hp.mem_iff.mp List.mem_cons_self))
    rcases List.mem_cons.mp (hp.mem_iff.mpr (mn_mem (k := k) xs x)) with e2 | e2
    · rw [e2]
      exact decide_eq_true (List.le_refl _)
    · exact h1.1 _ e2
theorem so_tail (hk : ∀ a b, k a = k b → a = b) {a : α} {r m : List α} (h : soK k l = a :: r) (p : l.Perm (a :: m)) : soK k m = r := by
  refine so_one hk (so_pm.trans ?_) so_sorted ?_
  · have : (a :: r).Perm (a :: m) := by rw [← h]; exact so_pm.trans p
    exact (List.Perm.cons_inv this).symm
  · have hs := so_sorted (k := k) (l := l)
    rw [h] at hs
    exact (List.pairwise_cons.mp hs).2
end
end
end Mi
/-! MiLk: locks around what only reads. -/
namespace Mi
open PySem L2
section
variable {S S' S1 : MS} {Q : D → MS → Prop} {P : D → MS → Prop} {E : Exn → MS → Prop} {R : Fl → Prop} {env e : En} {path : List Nat} {n : Nat} {ds : List D}
theorem set_idem {o : MO} (h : S.get n = some o) : (S.set n (.ll ds)).set n o = S := by
  unfold MS.set
  dsimp only
  cases S with
  | mk nx get =>
    dsimp only at h ⊢
    congr 1
    funext k
    by_cases c : k = n
    · rw [if_pos c, c, h]
    · rw [if_neg c, if_neg c]
theorem lks_ro {m : MSt} (h0 : refOf env S path = some n) (h : S.get n = some (.lst ds)) (hm : m env (S.set n (.ll ds)) = some (.nx e (S.set n (.ll ds)))) : wpS (mLkSM path m env S) R = R (.nx e S) := by
  have e0 : needLk S env path = true := by
    unfold needLk
    rw [h0]
    dsimp only
    rw [h]
    rfl
  have hu : unS n (S.set n (.ll ds)) = some S := by
    unfold unS
    rw [get_same]
    show some ((S.set n (.ll ds)).set n (.lst ds)) = _
    rw [set_idem h]
  refine wpS_of' ?_
  unfold mLkSM
  rw [e0, if_pos rfl]
  unfold mLkS
  rw [h0]
  dsimp only
  rw [h]
  dsimp only [lockOf]
  rw [hm]
  dsimp only
  rw [hu]
where
  wpS_of' {R : Fl → Prop} {m : MSt} {env : En} {S : MS} {fl : Fl} (e : m env S = some fl) : wpS (m env S) R = R fl := by
    unfold wpS
    rw [e]
theorem lks_no {m : MSt} (h : needLk S env path = false) : wpS (mLkSM path m env S) R = wpS (m env S) R := by
  unfold mLkSM wpS
  rw [h]
  rfl
theorem lkm_no {m : ME} (h : needLk S env path = false) : wp (mLkM path m env) S P E = wp (m env) S P E := by
  unfold wp
  have e : mLkM path m env S = m env S := by
    unfold mLkM
    rw [h]
    rfl
  rw [e]
theorem lkm_ro {m : ME} {v : D} (h0 : refOf env S path = some n) (h : S.get n = some (.lst ds)) (hm : m env (S.set n (.ll ds)) = some (.ok v (S.set n (.ll ds)))) : wp (mLkM path m env) S P E = P v S := by
  have e0 : needLk S env path = true := by
    unfold needLk
    rw [h0]
    dsimp only
    rw [h]
    rfl
  refine wp_of ?_
  unfold mLkM
  rw [e0, if_pos rfl]
  unfold mLk
  rw [h0]
  dsimp only
  rw [h]
  dsimp only
  rw [hm]
  dsimp only
  rw [get_same]
  dsimp only
  rw [set_idem h]
/-- a statement that ends at once -/
theorem wpS_ex {m : MSt} {e : En} (h : wpS (m env S) (fun fl => fl = .nx e S1)) : m env S = some (.nx e S1) := by
  unfold wpS at h
  cases q : m env S with
  | none => rw [q] at h; exact h.elim
  | some fl => rw [q] at h; rw [h]
end
end Mi
open PySem L2 Mi in
local macro_rules | `(tactic| simp_arith [$xs,*]) => `(tactic| simp only [wpS_seq, wpS_gNm, wpS_asg, wpS_drop, wpS_ret, wpS_retN, wpS_stF, wpS_augF, wpS_augI, wpS_augV, wpS_par', wpS_par3', wpS_some, wpS_mNx, wpS_mCt, wpS_mBk, kont_rt, kont_ct, kont_bk, fin_rt, fin_nx, wp_mK, wp_v, vO_some, wp_ret, wp_bnd, wp_op, wp_op1, wp_call, wp_fn, wp_cons, wp_nil, wp_tup, wp_lst, wp_obj, wp_oNone, wp_oSome, intO_int, wp_sl, wp_mNot, wp_mB, wp_mNotV, wp_mTru, isBl_bl, truO_some, x_addI, x_addJ, x_sub, x_mod, x_div, x_shr, x_band, x_bor, x_bxor, x_lt, x_le, x_gt, x_ge, x_neg, x_eqI, x_neI, x_eqS, x_neS, x_isN, x_isNN, x_int, x_abs, x_max2, x_min2, x_d1, x_d2, x_mkL, x_mkT, x_mkD, x_mkDo, x_ix, ixO_some, x_len, lenO_some, x_list, wpO_some, x_slT, x_slL, x_addLL, x_addTT, blO_some, x_isi, wp_isiT, x_fld, x_getI, wp_mMeth, wp_mMake, wp_mMt, wp_mLc, wp_mIt, wp_range1, wp_range2, wp_range3, wpS_for, isi_non_bool, isi_non_int, isi_non_str, isi_non_list, isi_non_tuple, isi_non_dict, isi_bl_bool, isi_bl_int, isi_bl_str, isi_bl_list, isi_bl_tuple, isi_bl_dict, isi_int_bool, isi_int_int, isi_int_str, isi_int_list, isi_int_tuple, isi_int_dict, isi_str_bool, isi_str_int, isi_str_str, isi_str_list, isi_str_tuple, isi_str_dict, isi_lst_bool, isi_lst_int, isi_lst_str, isi_lst_list, isi_lst_tuple, isi_lst_dict, isi_src_bool, isi_src_int, isi_src_str, isi_src_list, isi_src_tuple, isi_src_dict, isi_tup_bool, isi_tup_int, isi_tup_str, isi_tup_list, isi_tup_tuple, isi_tup_dict, isi_dct_bool, isi_dct_int, isi_dct_str, isi_dct_list, isi_dct_tuple, isi_dct_dict, g_nm, g_tp, List.getElem?_cons_succ, List.getElem?_cons_zero, List.set_cons_succ, List.set_cons_zero, truD, x_mkO, y_mul, y_pow, y_shl, true_or, or_true, or_self, y_yes, br_true, br_false, br_not, y_ifS, y_mIf, y_mAnd, y_mOr, y_mAndV, y_mOrV, y_mChain, k_nx, lstM_lst, lstM_ll, dctM_dk, dctM_lk, dctM_lst, dctM_ll, lstOf_obj, lstRd_obj, seqOf_obj, dctOf_obj, lstOf_lst, lstOf_src, lstRd_lst, seqOf_lst, seqOf_tup, seqOf_src, dctOf_lst, dctOf_tup, dctOf_src, dctOf_dct, itAny_obj, itM_ll, itM_lk, itAny_lst, itAny_src, itAny_tup, itAny_dct, isi_obj, isiM_lst, isiM_dk, isiB_list, isiB_list_bool, isiB_list_int, isiB_list_str, isiB_list_dict, isiB_list_tuple, lenB_obj, lenM_lst, lenM_ll, lenM_dk, lenB_lst, lenB_tup, lenB_src, lenB_dct, ixAt_obj, getI_obj, ixM_lst, ixM_ll, ixM_dkS, ixM_dkI, ixM_lkS, ixM_lkI, ixAt_lstI, ixAt_tupI, ixAt_srcI, ixAt_dctS, ixAt_dctI, insOf_obj, insM_ins, y_stF, stW_ins, sx_n0, sx_c0, sx_cs, map_some', Option.map_some, y_dSet, dsW_lst, dsW_dkS, dsW_dkI, y_gIx, y_append, apW_lst, y_popAt, popW_lst, tyD_list, tyM_lst, tyM_ll, y_mFz, y_fz, fzW_lst, fzW_dk, fzW_ins, y_fzI, y_fzN, y_fzB, y_fzS, y_fzL, y_fzT, y_fzD, y_copy, y_listO, liM_lst, liM_ll, liM_dk, y_listL, y_listT, y_listS, y_slO, y_addOL, y_addLO, y_try, tryK_rt, tryK_nx, tryK_exc, suK_rt, suK_nx, y_raise, y_xf, xfK_obj, get_mk, nxM, fin_exc, kont_exc, get_add_same, get_add_eq, get_same, get_ne, get_add_ne, get_del_ne, nxS, nxA, nxD, set_set, y_gcons, y_gnil, y_gnm, y_pnil, y_pcons, y_dct, ko_nil, ko_s, ko_i, y_dct0, x_mkDo, add_set_same, truD_bl, truD_int, Mi.isNon, List.length_cons, List.length_nil, Nat.reduceAdd, Nat.reduceLT, Nat.reduceEqDiff, Nat.reduceLeDiff, Int.reduceLT, Int.reduceLE, Int.reduceEq, Int.reduceNeg, true_and, and_true, decide_true, decide_false, Bool.not_true, Bool.not_false, ne_eq, not_false_eq_true, Nat.succ_ne_self, not_true_eq_false, reduceCtorEq, Bool.false_eq_true, if_true, if_false, at_0, at_1, at_2, at_3, cut_1, cut_2, reduceIte, $xs,*])
namespace G93
open PySem L2 Mi Gu
section
variable {S S' : MS} {Q : D → MS → Prop} {P : D → MS → Prop} {E : Exn → MS → Prop} {R : Fl → Prop} {env : En}
def comes (t : List (List Int)) (s : List Int) : List (List Int) := (t.filter fun x => decide (x.take 2 = s)).map (·.drop 2)
theorem sml {α : Type} {l : List α} (h : l.length ≤ 100) : Small l.length := small_of (by omega)
theorem cutT {xs : List Int} : cutD (xs.map D.int) none (some 2) = (xs.take 2).map D.int := by
  show ((xs.map D.int).drop _).take _ = _
  have e : HT.sIx (xs.map D.int).length (xs.map D.int).length (some 2) = min 2 (xs.map D.int).length := HT.sIx_nat _ _ 2
  have e0 : HT.sIx (xs.map D.int).length 0 none = 0 := rfl
  rw [e, e0, List.drop_zero, Nat.sub_zero, List.map_take]
  by_cases c : 2 ≤ (xs.map D.int).length
  · rw [Nat.min_eq_left c]
  · rw [Nat.min_eq_right (by omega), List.take_of_length_le (Nat.le_refl _), List.take_of_length_le (by omega)]
theorem cutF {xs : List Int} : cutD (xs.map D.int) (some 2) none = (xs.drop 2).map D.int := by
  rw [show (2 : Int) = ((2 : Nat) : Int) from rfl, cut_from, List.map_drop]
theorem w_comes {t : List (List Int)} {s : List Int} (ht : t.length ≤ 100) (hr : ∀ x ∈ t, x.length ≤ 100) : wp (m_comes [.lst (t.map tD), tD s]) S Q E = Q (.lst ((comes t s).map tD)) S := by
  refine wq ?_
  rw [r_comes]
  unfold b_comes
  rw [wpS_ret, lkm_tree (d := .lst (t.map tD)) rfl trivial]
  (simp_arith [true_and, wipe_c, wipe_n])
  rw [lc_fm (enc := tD) (f := fun x => decide (x.take 2 = s)) (g := fun x => tD (x.drop 2)) (fun x hx => wp_ex ?_) (fun x hx => wp_ex ?_)]
  · have e : ((t.filter fun x => decide (x.take 2 = s)).map fun x => tD (x.drop 2)) = (comes t s).map tD := by
      unfold comes
      rw [List.map_map]
      rfl
    rw [e]
    have hl : (comes t s).length ≤ 100 := by
      unfold comes
      rw [List.length_map]
      exact Nat.le_trans (List.length_filter_le _ _) ht
    (simp_arith [true_and, List.length_map, sml hl])
  · have h1 : Small ((x.take 2).map D.int).length := sml (by rw [List.length_map, List.length_take]; omega)
    unfold tD
    (simp_arith [true_and, cutT, h1])
    have e : D.tup ((x.take 2).map D.int) = tD (x.take 2) := rfl
    have e2 : D.tup (s.map D.int) = tD s := rfl
    rw [e, e2]
    (simp_arith [true_and, x_eq, eqT])
  · have h1 : Small ((x.drop 2).map D.int).length := sml (by rw [List.length_map, List.length_drop]; have := hr x hx; omega)
    unfold tD
    (simp_arith [true_and, cutF, h1])
end
end G93
namespace G93
open PySem L2 Mi Gu
/-! going along all ways, without a program -/
def inner (w : List (List Int)) : List (List Int) → List (List (List Int)) → List (List (List Int)) × Option (List (List Int))
  | [], ws => (ws, none)
  | g :: gs, ws => if g ∈ w then (ws, some (w ++ [g])) else inner w gs (ws ++ [w ++ [g]])
def out (t : List (List Int)) : Nat → Nat → List (List (List Int)) → Option (List (List (List Int)) × Option (List (List Int)))
  | 0, _, _ => none
  | n + 1, k, ws => match ws[k]? with
    | none => some (ws, none)
    | some w => match inner w (comes t (w.getLastD [])) ws with
      | (ws', some r) => some (ws', some r)
      | (ws', none) => out t n (k + 1) ws'
theorem inner_none {w : List (List Int)} : ∀ {gs : List (List Int)} {ws : List (List (List Int))}, (∀ g ∈ gs, g ∉ w) → inner w gs ws = (ws ++ gs.map (fun g => w ++ [g]), none)
  | [], ws, _ => by simp [inner]
  | g :: gs, ws, h => by
    unfold inner
    rw [if_neg (h g List.mem_cons_self), inner_none fun x hx => h x (List.mem_cons_of_mem _ hx)]
    simp
theorem inner_ring {w : List (List Int)} {g : List Int} : ∀ {gs : List (List Int)} {ws : List (List (List Int))} {i : Nat}, gs[i]? = some g → (∀ x ∈ gs.take i, x ∉ w) → g ∈ w → inner w gs ws = (ws ++ (gs.take i).map (fun g => w ++ [g]), some (w ++ [g]))
  | [], ws, i, h, _, _ => by simp at h
  | a :: gs, ws, 0, h, _, hg => by
    have e : a = g := by simpa using h
    subst e
    unfold inner
    rw [if_pos hg]
    simp
  | a :: gs, ws, i + 1, h, h2, hg => by
    have ha : a ∉ w := h2 a (by simp)
    unfold inner
    rw [if_neg ha, inner_ring (i := i) (by simpa using h) (fun x hx => h2 x (by simp [hx])) hg]
    simp
/-- how many rows lead on from spots that a way has not left yet -/
def cw (t w : List (List Int)) : Nat := (t.filter fun x => decide (x.take 2 ∉ w.dropLast)).length
def wt (t w : List (List Int)) : Nat := 2 ^ cw t w
def mu (t : List (List Int)) (ws : List (List (List Int))) : Nat := (ws.map (wt t)).sum
theorem cw_step {t w : List (List Int)} {g : List Int} (hw : w ≠ []) (hn : w.Nodup) : cw t (w ++ [g]) + (comes t (w.getLastD [])).length = cw t w := by
  unfold cw comes
  rw [List.length_map, List.dropLast_concat]
  have hl : w = w.dropLast ++ [w.getLastD []] := by
    have := List.dropLast_concat_getLast hw
    rw [List.getLastD_eq_getLast?, List.getLast?_eq_some_getLast hw]
    exact this.symm
  generalize w.getLastD [] = e at hl
  generalize w.dropLast = u at hl
  subst hl
  have he : e ∉ u := fun q => (List.nodup_append.mp hn).2.2 e q e (by simp) rfl
  clear hn hw
  induction t with
  | nil => rfl
  | cons x t ih =>
    by_cases c1 : x.take 2 = e
    · have h1 : x.take 2 ∈ u ++ [e] := by rw [c1]; simp
      have h2 : x.take 2 ∉ u := by rw [c1]; exact he
      rw [List.filter_cons_of_neg (by rw [decide_eq_true_eq]; exact fun q => q h1), List.filter_cons_of_pos (by simpa using c1), List.filter_cons_of_pos (by simpa using h2)]
      simp only [List.length_cons]
      omega
    · by_cases c2 : x.take 2 ∈ u
      · have h1 : x.take 2 ∈ u ++ [e] := List.mem_append_left _ c2
        rw [List.filter_cons_of_neg (by rw [decide_eq_true_eq]; exact fun q => q h1), List.filter_cons_of_neg (by simpa using c1), List.filter_cons_of_neg (by simpa using c2)]
        exact ih
      · have h1 : x.take 2 ∉ u ++ [e] := fun q => (List.mem_append.mp q).elim c2 fun q => c1 (List.mem_singleton.mp q)
        rw [List.filter_cons_of_pos (by simpa using h1), List.filter_cons_of_neg (by simpa using c1), List.filter_cons_of_pos (by simpa using c2)]
        simp only [List.length_cons]
        omega
theorem mu_app {t : List (List Int)} {a b : List (List (List Int))} : mu t (a ++ b) = mu t a + mu t b := by
  unfold mu
  rw [List.map_append, List.sum_append]
theorem mu_new {t w : List (List Int)} {c : Nat} : ∀ {gs : List (List Int)}, (∀ g ∈ gs, wt t (w ++ [g]) = c) → mu t (gs.map fun g => w ++ [g]) = gs.length * c
  | [], _ => by simp [mu]
  | g :: gs, h => by
    have ih := mu_new (gs := gs) fun x hx => h x (List.mem_cons_of_mem _ hx)
    unfold mu at ih ⊢
    rw [List.map_cons, List.map_cons, List.sum_cons, ih, h g List.mem_cons_self, List.length_cons, Nat.succ_mul]
    omega
theorem mu_len {t : List (List Int)} : ∀ {ws : List (List (List Int))}, ws.length ≤ mu t ws
  | [] => Nat.zero_le _
  | w :: ws => by
    have ih := mu_len (t := t) (ws := ws)
    have : 0 < wt t w := Nat.pow_pos (by decide)
    unfold mu at ih ⊢
    rw [List.map_cons, List.sum_cons, List.length_cons]
    omega
/-- each way that is gone on from makes it less -/
theorem mu_step {t w : List (List Int)} {ws : List (List (List Int))} {k : Nat} (hk : ws[k]? = some w) (hw : w ≠ []) (hn : w.Nodup) : mu t ((ws ++ (comes t (w.getLastD [])).map fun g => w ++ [g]).drop (k + 1)) < mu t (ws.drop k) := by
  obtain ⟨hlt, rfl⟩ := List.getElem?_eq_some_iff.mp hk
  rw [List.drop_append_of_le_length (by omega), mu_app, List.drop_eq_getElem_cons hlt]
  generalize ws[k] = w at hw hn
  have e1 : mu t (w :: ws.drop (k + 1)) = wt t w + mu t (ws.drop (k + 1)) := by
    unfold mu
    rw [List.map_cons, List.sum_cons]
  rw [e1]
  generalize hg : comes t (w.getLastD []) = gs
  have e2 : ∀ g, cw t (w ++ [g]) + gs.length = cw t w := fun g => by rw [← hg]; exact cw_step hw hn
  have e3 : mu t (gs.map fun g => w ++ [g]) = gs.length * 2 ^ (cw t w - gs.length) := mu_new fun g _ => by
    unfold wt
    rw [← e2 g, Nat.add_sub_cancel]
  rw [e3]
  have e4 : wt t w = 2 ^ gs.length * 2 ^ (cw t w - gs.length) := by
    unfold wt
    rw [← Nat.pow_add]
    congr 1
    have := e2 []
    omega
  rw [e4]
  have h1 : gs.length < 2 ^ gs.length := Nat.lt_two_pow_self
  have h2 : 0 < 2 ^ (cw t w - gs.length) := Nat.pow_pos (by decide)
  have := Nat.mul_lt_mul_of_pos_right h1 h2
  omega
/-- ways without a ring -/
structure Gd (ws : List (List (List Int))) : Prop where
  ne : ∀ w ∈ ws, w ≠ []
  nd : ∀ w ∈ ws, w.Nodup
  le : ∀ w ∈ ws, w.length ≤ ws.length
  l2 : ∀ w ∈ ws, ∀ s ∈ w, s.length = 2
theorem Gd.snoc {ws : List (List (List Int))} {w : List (List Int)} {g : List Int} (h : Gd ws) (hw : w ∈ ws) (hg : g ∉ w) (h2 : g.length = 2) : Gd (ws ++ [w ++ [g]]) := by
  refine ⟨fun x hx => ?_, fun x hx => ?_, fun x hx => ?_, fun x hx s hs => ?_⟩
  · rcases List.mem_append.mp hx with hx | hx
    · exact h.ne x hx
    · rw [List.mem_singleton.mp hx]; simp
  · rcases List.mem_append.mp hx with hx | hx
    · exact h.nd x hx
    · rw [List.mem_singleton.mp hx]
      refine List.nodup_append.mpr ⟨h.nd w hw, by simp, fun a ha b hb e => ?_⟩
      rw [List.mem_singleton.mp hb] at e
      exact hg (e ▸ ha)
  · rw [List.length_append]
    rcases List.mem_append.mp hx with hx | hx
    · exact Nat.le_trans (h.le x hx) (Nat.le_add_right _ _)
    · rw [List.mem_singleton.mp hx, List.length_append]
      have := h.le w hw
      simp
      exact this
  · rcases List.mem_append.mp hx with hx | hx
    · exact h.l2 x hx s hs
    · rw [List.mem_singleton.mp hx] at hs
      rcases List.mem_append.mp hs with hs | hs
      · exact h.l2 w hw s hs
      · rw [List.mem_singleton.mp hs]; exact h2
theorem Gd.more {w : List (List Int)} : ∀ {gs : List (List Int)} {ws : List (List (List Int))}, Gd ws → w ∈ ws → (∀ g ∈ gs, g ∉ w ∧ g.length = 2) → Gd (ws ++ gs.map fun g => w ++ [g])
  | [], ws, h, _, _ => by simpa using h
  | g :: gs, ws, h, hw, hg => by
    have := Gd.more (gs := gs) (h.snoc hw (hg g List.mem_cons_self).1 (hg g List.mem_cons_self).2) (List.mem_append_left _ hw) fun x hx => hg x (List.mem_cons_of_mem _ hx)
    simpa using this
theorem comes2 {t : List (List Int)} {s g : List Int} (ht : ∀ x ∈ t, x.length = 4) (h : g ∈ comes t s) : g.length = 2 := by
  unfold comes at h
  obtain ⟨x, hx, rfl⟩ := List.mem_map.mp h
  rw [List.length_drop, ht x (List.mem_filter.mp hx).1]
theorem out_some {t : List (List Int)} (ht : ∀ x ∈ t, x.length = 4) : ∀ {n k : Nat} {ws : List (List (List Int))}, Gd ws → mu t (ws.drop k) < n → ∃ res, out t n k ws = some res
  | 0, k, ws, _, h => by omega
  | n + 1, k, ws, h, hm => by
    unfold out
    cases e : ws[k]? with
    | none => exact ⟨_, rfl⟩
    | some w =>
      dsimp only
      cases e2 : inner w (comes t (w.getLastD [])) ws with
      | mk ws' r =>
        cases r with
        | some r => exact ⟨_, rfl⟩
        | none =>
          dsimp only
          have hw : w ∈ ws := List.mem_of_getElem? e
          have hall : ∀ g ∈ comes t (w.getLastD []), g ∉ w := by
            intro g hg hc
            have : ∀ {gs : List (List Int)} {ws : List (List (List Int))}, (inner w gs ws).2 = none → ∀ g ∈ gs, g ∉ w := by
              intro gs
              induction gs with
              | nil => intro _ _ g hg; cases hg
              | cons a gs ih =>
                intro ws hq g hg
                unfold inner at hq
                by_cases c : a ∈ w
                · rw [if_pos c] at hq; cases hq
                · rw [if_neg c] at hq
                  rcases List.mem_cons.mp hg with rfl | hg
                  · exact c
                  · exact ih hq g hg
            exact this (by rw [e2]) g hg hc
          rw [inner_none hall] at e2
          cases e2
          have hs := mu_step (t := t) e (h.ne w hw) (h.nd w hw)
          exact out_some ht (h.more hw fun g hg => ⟨hall g hg, comes2 ht hg⟩) (by omega)
end G93
namespace G93
open PySem L2 Mi Gu
abbrev Way := List (List Int)
def wD (w : Way) : D := .lst (w.map tD)
/-- the wire where a way ends -/
def wr (w : Way) : Int := (w.getLastD []).headD 0
def dblK (ws : List Way) (k : Nat) : Option (Way × Way) := ((ws.take k).find? fun v => decide (wr v = wr (ws.getD k []))).map fun v => (v, ws.getD k [])
def dbl (ws : List Way) : Option (Way × Way) := (List.range ws.length).findSome? (dblK ws)
theorem dbl_snoc {ws : List Way} {x : Way} : dbl (ws ++ [x]) = match dbl ws with
    | some p => some p
    | none => (ws.find? fun v => decide (wr v = wr x)).map fun v => (v, x) := by
  unfold dbl
  rw [List.length_append, List.length_singleton, List.range_succ, List.findSome?_append]
  have h1 : (List.range ws.length).findSome? (dblK (ws ++ [x])) = (List.range ws.length).findSome? (dblK ws) := by
    have : ∀ {l : List Nat}, (∀ k ∈ l, k < ws.length) → l.findSome? (dblK (ws ++ [x])) = l.findSome? (dblK ws) := by
      intro l
      induction l with
      | nil => intro _; rfl
      | cons k l ih =>
        intro h
        have hk := h k List.mem_cons_self
        have e1 : dblK (ws ++ [x]) k = dblK ws k := by
          unfold dblK
          rw [List.take_append_of_le_length (by omega)]
          have : (ws ++ [x]).getD k [] = ws.getD k [] := by
            rw [List.getD_eq_getElem?_getD, List.getD_eq_getElem?_getD, List.getElem?_append_left hk]
          rw [this]
        rw [List.findSome?_cons, List.findSome?_cons, e1, ih fun k hk => h k (List.mem_cons_of_mem _ hk)]
    exact this fun k hk => List.mem_range.mp hk
  have h2 : dblK (ws ++ [x]) ws.length = (ws.find? fun v => decide (wr v = wr x)).map fun v => (v, x) := by
    unfold dblK
    have e1 : (ws ++ [x]).take ws.length = ws := by simp
    have e2 : (ws ++ [x]).getD ws.length [] = x := by
      rw [List.getD_eq_getElem?_getD]
      simp
    rw [e1, e2]
  rw [h1]
  cases (List.range ws.length).findSome? (dblK ws) with
  | some p => rfl
  | none =>
    rw [List.findSome?_cons, List.findSome?_nil, h2]
    dsimp only [Option.or]
    cases (ws.find? fun v => decide (wr v = wr x)) <;> rfl
def dbD : Option (Way × Way) → D
  | none => .non
  | some p => .tup [.str "double", wD p.1, wD p.2]
def rsD : List Way × Option Way → D
  | (_, some r) => .tup [.str "ring", wD r]
  | (ws, none) => match dbl ws with
    | some p => .tup [.str "double", wD p.1, wD p.2]
    | none => .tup [.str "tree", .lst (ws.map fun w => tD (w.getLastD []))]
section
variable {S S' : MS} {Q : D → MS → Prop} {P : D → MS → Prop} {E : Exn → MS → Prop} {R : Fl → Prop} {env : En}
variable {t : List (List Int)} {s g : List Int} {w : Way} {ws : List Way}
theorem at_last {ds : List D} (h : ds ≠ []) : atI ds (-1) = some (ds.getLastD .non) := by
  have hp : 0 < ds.length := List.length_pos_iff.mpr h
  unfold atI ixN
  rw [if_neg (by omega), if_pos (by omega)]
  show ds[(-1 + (ds.length : Int)).toNat]? = _
  rw [show (-1 + (ds.length : Int)).toNat = ds.length - 1 by omega, ← List.getLast?_eq_getElem?, List.getLastD_eq_getLast?, List.getLast?_eq_some_getLast h]
  rfl
theorem ix_w (h : w ≠ []) : ixAt S (wD w) (.int (-1)) = some (tD (w.getLastD [])) := by
  unfold wD
  rw [ixAt_lstI, at_last (by simpa using h)]
  congr 1
  rw [List.getLastD_eq_getLast?, List.getLastD_eq_getLast?, List.getLast?_map, List.getLast?_eq_some_getLast h]
  rfl
theorem ix_t (h : s.length = 2) : ixAt S (tD s) (.int 0) = some (.int (s.headD 0)) := by
  cases s with
  | nil => cases h
  | cons a r =>
    unfold tD
    rw [List.map_cons, ixAt_tupI, at_0]
    rfl
theorem in_w : dInB S (tD g) (wD w) = some (decide (g ∈ w)) := inT
theorem add_w (h : w.length ≤ 3000) : wp (dAdd mkL (wD w) (.lst [tD g])) S P E = P (wD (w ++ [g])) S := by
  unfold wD
  rw [x_addLL, x_mkL]
  have e : w.map tD ++ [tD g] = (w ++ [g]).map tD := by simp
  rw [e]
  exact propext ⟨fun q => q.2, fun q => ⟨small_of (by rw [List.length_map, List.length_append]; simp; omega), q⟩⟩
theorem at_ws {k : Nat} (h : ws[k]? = some w) : atI (ws.map wD) (k : Int) = some (wD w) := by
  obtain ⟨hk, rfl⟩ := List.getElem?_eq_some_iff.mp h
  rw [at_nat (ds := ws.map wD) (j := k) (by rw [List.length_map]; exact hk)]
  congr 1
  rw [List.getElem_map]
end
end G93
namespace G93
open PySem L2 Mi Gu
section
variable {S S' : MS} {Q : D → MS → Prop} {P : D → MS → Prop} {E : Exn → MS → Prop} {R : Fl → Prop} {env : En}
variable {t : List (List Int)} {s g : List Int} {w : Way} {ws : List Way}
theorem find_filter {f : Way → Bool} : ws.find? f = (ws.filter f).head? := by
  rw [List.head?_filter]
theorem z0 : ((0 : Nat) : Int) = 0 := Eq.trans rfl rfl
theorem wr_snoc : wr (w ++ [g]) = g.headD 0 := by
  unfold wr
  rw [List.getLastD_eq_getLast?, List.getLast?_concat]
  rfl
theorem last_mem (h : w ≠ []) : w.getLastD [] ∈ w := by
  rw [List.getLastD_eq_getLast?, List.getLast?_eq_some_getLast h]
  exact List.getLast_mem h
theorem rs_d {p : Way × Way} (h : dbl ws = some p) : rsD (ws, none) = dbD (some p) := by
  show (match dbl ws with
    | some p => D.tup [.str "double", wD p.1, wD p.2]
    | none => D.tup [.str "tree", .lst (ws.map fun w : Way => tD (w.getLastD []))]) = _
  rw [h]
  rfl
theorem rs_t (h : dbl ws = none) : rsD (ws, none) = .tup [.str "tree", .lst (ws.map fun w => tD (w.getLastD []))] := by
  show (match dbl ws with
    | some p => D.tup [.str "double", wD p.1, wD p.2]
    | none => D.tup [.str "tree", .lst (ws.map fun w : Way => tD (w.getLastD []))]) = _
  rw [h]
end
end G93
namespace G93
open PySem L2 Mi Gu
section
variable {S S' : MS} {Q : D → MS → Prop} {P : D → MS → Prop} {E : Exn → MS → Prop} {R : Fl → Prop} {env : En}
variable {t : List (List Int)} {s g : List Int} {w : Way} {ws : List Way}
theorem four {x : List Int} (h : x.length = 4) : ∃ a b c d, x = [a, b, c, d] := by
  match x, h with
  | [a, b, c, d], _ => exact ⟨a, b, c, d, rfl⟩
theorem two {x : List Int} (h : x.length = 2) : ∃ a b, x = [a, b] := by
  match x, h with
  | [a, b], _ => exact ⟨a, b, rfl⟩
theorem w_goals (ht : ∀ x ∈ t, x.length = 4) (htl : t.length ≤ 100) (hs : s.length = 2) : wp (m__law_goals [.lst (t.map tD), tD s]) S Q E = Q (.lst ((comes t s).map tD)) S := by
  refine wq ?_
  rw [r__law_goals]
  unfold b__law_goals
  rw [wpS_ret, lkm_tree (d := .lst (t.map tD)) rfl trivial]
  (simp_arith [true_and, wipe_c, wipe_n])
  obtain ⟨p, q, rfl⟩ := two hs
  rw [lc_fm (enc := tD) (f := fun x => decide (x.take 2 = [p, q])) (g := fun x => tD (x.drop 2)) (fun x hx => wp_ex ?_) (fun x hx => wp_ex ?_)]
  · have e : ((t.filter fun x => decide (x.take 2 = [p, q])).map fun x => tD (x.drop 2)) = (comes t [p, q]).map tD := by
      unfold comes
      rw [List.map_map]
      rfl
    rw [e]
    have hl : (comes t [p, q]).length ≤ 100 := by
      unfold comes
      rw [List.length_map]
      exact Nat.le_trans (List.length_filter_le _ _) htl
    (simp_arith [true_and, List.length_map, sml hl])
  · obtain ⟨a, b, c, d, rfl⟩ := four (ht x hx)
    unfold tD
    (simp_arith [true_and, List.map_cons, List.map_nil])
    refine br_dec (fun h => ?_) (fun h => ?_)
    · (simp_arith [true_and, List.map_cons, List.map_nil])
      simp [h]
    · simp [h]
  · obtain ⟨a, b, c, d, rfl⟩ := four (ht x hx)
    have s2 : Small 2 := small_of (by omega)
    unfold tD
    (simp_arith [true_and, List.map_cons, List.map_nil, s2])
    rfl
def opD : Option Way → D
  | none => .non
  | some r => wD r
theorem w_all (ht : ∀ x ∈ t, x.length = 4) (htl : t.length ≤ 10) (hs : s.length = 2) {n0 : Nat} {res : List Way × Option Way} (hn0 : n0 ≤ 2000) (hmu : mu t [[s]] ≤ 1024) (hres : out t n0 0 [[s]] = some res) (k : ∀ S' n, Fr [] S S' → S.nx ≤ n → n < S'.nx → S'.get n = some (.lst (res.1.map wD)) → Gd res.1 → res.1.length ≤ 2000 → Q (.tup [.obj n, opD res.2]) S') : wp (m__law_all_ways [.lst (t.map tD), tD s]) S Q E := by
  rw [r__law_all_ways]
  unfold b__law_all_ways
  have e1 : D.lst [tD s] = wD [s] := rfl
  have s1 : Small 1 := small_of (by omega)
  (simp_arith [true_and, e1, s1])
  refine while_br (fun n e S1 => ∃ (at' : Nat) (ws : List Way) (o4 : Option D), e = [some (.lst (t.map tD)), some (tD s), some (.obj S.nx), some (.int (at' : Nat)), o4] ∧ S1.get S.nx = some (.lst (ws.map wD)) ∧ Fr [] S S1 ∧ S.nx < S1.nx ∧ out t n at' ws = some res ∧ Gd ws ∧ at' + mu t (ws.drop at') ≤ 1024 ∧ at' ≤ ws.length) n0 (by show n0 < 1000000; omega)
    ⟨0, [[s]], none, rfl, get_add_same, Fr.add, Nat.lt_succ_self _, hres, ⟨by simp, by simp, by simp, by simpa using hs⟩, by simpa using hmu, by simp⟩ ?_
  rintro n e S1 ⟨at', ws, o4, rfl, hg, hf, hnx, ho, hgd, hm, hat⟩
  have hlen : ws.length ≤ 1024 := by
    have := mu_len (t := t) (ws := ws.drop at')
    rw [List.length_drop] at this
    omega
  (simp_arith [true_and, hg, List.length_map])
  cases n with
  | zero => cases ho
  | succ n =>
    refine br_dec (fun c => ?_) (fun c => ?_)
    · have hlt : at' < ws.length := by omega
      have hwk : ws[at']? = some ws[at'] := List.getElem?_eq_getElem hlt
      have hw : ws[at'] ∈ ws := List.getElem_mem hlt
      unfold out at ho
      rw [hwk] at ho
      dsimp only at ho
      have hms := mu_step (t := t) hwk (hgd.ne _ hw) (hgd.nd _ hw)
      generalize ws[at'] = w at hwk hw ho hms
      have hwl := hgd.le w hw
      have hne := hgd.ne w hw
      have hg2 : ∀ g ∈ comes t (w.getLastD []), g.length = 2 := fun g h => comes2 ht h
      have hgl : (comes t (w.getLastD [])).length ≤ 10 := by
        unfold comes
        rw [List.length_map]
        exact Nat.le_trans (List.length_filter_le _ _) htl
      (simp_arith [true_and, hg, at_ws hwk, ix_w hne, w_goals ht (by omega) (hgd.l2 w hw _ (last_mem hne))])
      generalize comes t (w.getLastD []) = gs at ho hg2 hgl hms
      try (simp_arith [true_and])
      refine loop_inv (fun i e S2 => ∃ o4, e = [some (.lst (t.map tD)), some (tD s), some (.obj S.nx), some (.int (at' : Nat)), o4] ∧ S2.get S.nx = some (.lst ((ws ++ (gs.take i).map fun g => w ++ [g]).map wD)) ∧ Fr [] S S2 ∧ S.nx < S2.nx ∧ ∀ g ∈ gs.take i, g ∉ w)
        ⟨o4, by simp, by simpa using hg, hf, hnx, by simp⟩ ?_ ?_
      · rintro i d e S2 hd ⟨o4, rfl, hg, hf, hnx, hall⟩
        have hi : i < gs.length := by
          have := (List.getElem?_eq_some_iff.mp hd).1
          simpa using this
        have ex : d = tD gs[i] := by
          rw [List.getElem?_map, List.getElem?_eq_getElem hi] at hd
          exact (Option.some.inj hd).symm
        subst ex
        have hgi : gs[i]? = some gs[i] := List.getElem?_eq_getElem hi
        have hgm : gs[i] ∈ gs := List.getElem_mem hi
        have htk : gs.take (i + 1) = gs.take i ++ [gs[i]] := List.take_succ_eq_append_getElem hi
        have hap : ws ++ (gs.take i ++ [gs[i]]).map (fun g => w ++ [g]) = (ws ++ (gs.take i).map fun g => w ++ [g]) ++ [w ++ [gs[i]]] := by rw [List.map_append, List.append_assoc]; rfl
        rw [htk, hap]
        have hg2i := hg2 _ hgm
        generalize gs[i] = g at hgi hgm htk hg2i hap ⊢
        have hgd2 : Gd (ws ++ (gs.take i).map fun g => w ++ [g]) := hgd.more hw fun g hg => ⟨hall g hg, hg2 g (List.mem_of_mem_take hg)⟩
        have hwk2 : (ws ++ (gs.take i).map fun g => w ++ [g])[at']? = some w := by rw [List.getElem?_append_left hlt]; exact hwk
        have hl2 : (ws ++ (gs.take i).map fun g => w ++ [g]).length ≤ 1100 := by
          rw [List.length_append, List.length_map, List.length_take]
          omega
        have hrg := fun c => inner_ring (w := w) (ws := ws) hgi hall c
        generalize hV : (ws ++ (gs.take i).map fun g => w ++ [g]) = V at hg hgd2 hwk2 hl2 hrg
        have s2 : Small 1 := small_of (by omega)
        have s3 : Small 2 := small_of (by omega)
        (simp_arith [true_and, hg, at_ws hwk2, x_in, in_w])
        refine br_dec (fun c => ?_) (fun c => ?_)
        · rw [hrg c] at ho
          cases ho
          (simp_arith [true_and, hg, at_ws hwk2, add_w (g := g) (w := w) (by omega), s2, s3])
          try (simp_arith [true_and, hg, at_ws hwk2, add_w (g := g) (w := w) (by omega), s2, s3])
          exact k _ _ hf (Nat.le_refl _) hnx hg hgd2 (by show V.length ≤ 2000; omega)
        · have hmp : (V ++ [w ++ [g]]).map wD = V.map wD ++ [wD (w ++ [g])] := by simp
          have hlt2 : ((V.map wD).length < lineN) = True := eq_true (by rw [List.length_map]; show V.length < 16777216; omega)
          have hall' : ∀ x ∈ gs.take i ++ [g], x ∉ w := fun x hx => (List.mem_append.mp hx).elim (hall x) fun q => by rw [List.mem_singleton.mp q]; exact c
          rw [hmp]
          (simp_arith [true_and, hg, at_ws hwk2, add_w (g := g) (w := w) (by omega), s2, hlt2])
          try (simp_arith [true_and, hg, at_ws hwk2, add_w (g := g) (w := w) (by omega), s2, hlt2])
          exact ⟨_, rfl, hf.set' (.inr (Nat.le_refl _)), hnx, hall'⟩
      · rintro e S2 ⟨o4, rfl, hg, hf, hnx, hall⟩
        rw [List.length_map, List.take_length] at hg hall
        have hin := inner_none (ws := ws) hall
        rw [hin] at ho
        dsimp only at ho
        (simp_arith [true_and])
        refine ⟨n, by omega, at' + 1, _, _, rfl, hg, hf, hnx, ho, hgd.more hw fun g hg => ⟨hall g hg, hg2 g hg⟩, by omega, ?_⟩
        rw [List.length_append]
        omega
    · have he : ws[at']? = none := List.getElem?_eq_none (by omega)
      unfold out at ho
      rw [he] at ho
      cases ho
      have s3 : Small 2 := small_of (by omega)
      (simp_arith [true_and, s3])
      exact k _ _ hf (Nat.le_refl _) hnx hg hgd (by show ws.length ≤ 2000; omega)
end
end G93
namespace G93
open PySem L2 Mi Gu
section
variable {S S' : MS} {Q : D → MS → Prop} {P : D → MS → Prop} {E : Exn → MS → Prop} {R : Fl → Prop} {env : En}
variable {t : List (List Int)} {s g : List Int} {w : Way} {ws : List Way}
theorem rng_map {k : Nat} : rngN 0 1 k = (List.range k).map fun i : Nat => D.int (i : Int) := by
  unfold rngN
  refine List.map_congr_left fun i _ => ?_
  congr 1
  omega
theorem fs_one {α : Type} {f : Nat → Option α} {i : Nat} {p : α} (h1 : ∀ j, j < i → f j = none) (h2 : f i = some p) : ∀ {n : Nat}, i < n → (List.range n).findSome? f = some p
  | 0, h => by omega
  | n + 1, h => by
    rw [List.range_succ, List.findSome?_append]
    by_cases c : i < n
    · rw [fs_one h1 h2 c]
      rfl
    · have e : i = n := by omega
      subst e
      have : (List.range i).findSome? f = none := List.findSome?_eq_none_iff.mpr fun j hj => h1 j (List.mem_range.mp hj)
      rw [this, List.findSome?_cons, h2]
      rfl
theorem take_map {k : Nat} (h : k ≤ ws.length) : ws.take k = (List.range k).map fun j => ws.getD j [] := by
  refine List.ext_getElem (by simp; omega) fun i h1 h2 => ?_
  rw [List.getElem_take, List.getElem_map, List.getElem_range, List.getD_eq_getElem?_getD, List.getElem?_eq_getElem (by simp at h1; omega)]
  rfl
theorem dblK_eq {k : Nat} (h : k ≤ ws.length) : dblK ws k = (((List.range k).filter fun j => decide (wr (ws.getD j []) = wr (ws.getD k []))).head?).map fun j => (ws.getD j [], ws.getD k []) := by
  unfold dblK
  rw [take_map h, List.find?_map, List.head?_filter, Option.map_map]
  rfl
theorem at_wd {k : Nat} (h : k < ws.length) : atI (ws.map wD) (k : Int) = some (wD (ws.getD k [])) := by
  have e : ws[k]? = some (ws.getD k []) := by
    rw [List.getD_eq_getElem?_getD, List.getElem?_eq_getElem h]
    rfl
  exact at_ws e
theorem mem_wd {k : Nat} (h : k < ws.length) : ws.getD k [] ∈ ws := by
  rw [List.getD_eq_getElem?_getD, List.getElem?_eq_getElem h]
  exact List.getElem_mem h
theorem w_lpassed (ht : ∀ x ∈ t, x.length = 4) (htl : t.length ≤ 10) (hs : s.length = 2) {n0 : Nat} {res : List Way × Option Way} (hn0 : n0 ≤ 2000) (hmu : mu t [[s]] ≤ 1024) (hres : out t n0 0 [[s]] = some res) (k : ∀ S', Fr [] S S' → Q (rsD res) S') : wp (m__law_passed [.lst (t.map tD), tD s]) S Q E := by
  rw [r__law_passed]
  unfold b__law_passed
  (simp_arith [true_and])
  refine w_all ht htl hs hn0 hmu hres fun S1 n hf hn1 hn2 hg hgd hl => ?_
  obtain ⟨ws, ring⟩ := res
  dsimp only at hg hgd hl ⊢
  have s2 : Small 2 := small_of (by omega)
  have s3 : Small 3 := small_of (by omega)
  cases ring with
  | some r =>
    unfold opD wD
    (simp_arith [true_and, g_tp, s2])
    exact k _ hf
  | none =>
    unfold opD
    (simp_arith [true_and, g_tp, hg, List.length_map, rngD1_nat (show ws.length < 4611686018427387904 by omega)])
    refine loop_inv (fun i e S2 => S2 = S1 ∧ (∃ o4 o5 o6, e = [some (.lst (t.map tD)), some (tD s), some (.obj n), some .non, o4, o5, o6, none]) ∧ ∀ j, j < i → dblK ws j = none) ⟨rfl, ⟨none, none, none, rfl⟩, fun j hj => absurd hj (Nat.not_lt_zero _)⟩ ?_ ?_
    · rintro i d e S2 hd ⟨rfl, ⟨o4, o5, o6, rfl⟩, hno⟩
      obtain ⟨hi, rfl⟩ := rng01 hd
      have hm := mem_wd hi
      have hli := hgd.l2 _ hm _ (last_mem (hgd.ne _ hm))
      (simp_arith [true_and, rngD1_nat (show i < 4611686018427387904 by omega), rng_map, wipe_c, wipe_n])
      rw [lc_fm (enc := fun j : Nat => D.int (j : Int)) (f := fun j => decide (wr (ws.getD j []) = wr (ws.getD i []))) (g := fun j : Nat => D.int (j : Int)) (fun j hj => wp_ex ?_) (fun j hj => wp_ex ?_)]
      · have hdk := dblK_eq (ws := ws) (Nat.le_of_lt hi)
        have hsub : ∀ j ∈ (List.range i).filter (fun j => decide (wr (ws.getD j []) = wr (ws.getD i []))), j < i := fun j hj => List.mem_range.mp (List.mem_filter.mp hj).1
        have hfl : ((List.range i).filter fun j => decide (wr (ws.getD j []) = wr (ws.getD i []))).length ≤ 2000 := Nat.le_trans (List.length_filter_le _ _) (by simp; omega)
        generalize (List.range i).filter (fun j => decide (wr (ws.getD j []) = wr (ws.getD i []))) = F at hdk hsub hfl
        have sF : Small F.length := small_of (by omega)
        cases F with
        | nil =>
          have s0 : Small 0 := small_of (by omega)
          (simp_arith [true_and, List.map_nil, s0, z0])
          refine ⟨⟨_, _, _, rfl⟩, fun j hj => ?_⟩
          by_cases c : j = i
          · subst c
            exact hdk
          · exact hno j (by omega)
        | cons j F =>
          have zp : decide ((0 : Int) < ((F.length + 1 : Nat) : Int)) = true := decide_eq_true (by omega)
          have hj := hsub j List.mem_cons_self
          have hd1 : dbl ws = some (ws.getD j [], ws.getD i []) := fs_one hno hdk hi
          have sF' : Small (F.length + 1) := sF
          (simp_arith [true_and, List.map_cons, List.length_map, sF', zp, hg, at_wd hi, at_wd (show j < ws.length by omega), s3])
          try (simp_arith [true_and, List.map_cons, List.length_map, sF', zp, hg, at_wd hi, at_wd (show j < ws.length by omega), s3])
          rw [rs_d hd1] at k
          exact k _ hf
      · have hj := List.mem_range.mp hj
        have hmj := mem_wd (ws := ws) (k := j) (by omega)
        have hlj := hgd.l2 _ hmj _ (last_mem (hgd.ne _ hmj))
        (simp_arith [true_and, hg, at_wd (show j < ws.length by omega), at_wd hi, ix_w (hgd.ne _ hmj), ix_w (hgd.ne _ hm), ix_t hlj, ix_t hli])
        rfl
      · (simp_arith [true_and])
    · rintro e S2 ⟨rfl, ⟨o4, o5, o6, rfl⟩, hno⟩
      rw [rngN_len] at hno
      have hdb : dbl ws = none := List.findSome?_eq_none_iff.mpr fun j hj => hno j (List.mem_range.mp hj)
      rw [rs_t hdb] at k
      (simp_arith [true_and])
      have cp := comp_pure (S := S2) (env := [some (D.lst (t.map tD)), some (tD s), some (D.obj n), some D.non, o4, o5, o6, none]) (i := 2) (j := 7) (d := .obj n) (ds := ws.map wD) (te := mOp dIx (mV 7) (mOp1 dNeg (mK (D.int 1)))) (f := fun d => (ixAt S2 d (.int (-1))).getD .non) rfl (by rw [seqOf_obj, hg]; rfl) (by rw [List.length_map]; omega) (fun x hx S' => by
        obtain ⟨w, hw, rfl⟩ := List.mem_map.mp hx
        refine wp_ex ?_
        rw [ix_w (hgd.ne w hw)]
        (simp_arith [true_and, ix_w (hgd.ne w hw)])
        rfl)
      have em : (ws.map wD).map (fun d => (ixAt S2 d (.int (-1))).getD .non) = ws.map fun w => tD (w.getLastD []) := by
        rw [List.map_map]
        refine List.map_congr_left fun w hw => ?_
        show (ixAt S2 (wD w) (.int (-1))).getD .non = _
        rw [ix_w (hgd.ne w hw)]
        rfl
      rw [wp_of cp, em]
      exact ⟨s2, k _ hf⟩
end
end G93
namespace G93
open PySem L2 Mi Gu
abbrev T3 := Int × Int × Int
abbrev W4 := Int × T3
abbrev L5 := Int × Int × Int × Int × Int
def i3 (t : T3) : List Int := [t.1, t.2.1, t.2.2]
def i4 (r : W4) : List Int := [r.1, r.2.1, r.2.2.1, r.2.2.2]
def i5 (r : L5) : List Int := [r.1, r.2.1, r.2.2.1, r.2.2.2.1, r.2.2.2.2]
def d3 (t : T3) : D := tD (i3 t)
def d4 (t : W4) : D := tD (i4 t)
def d5 (t : L5) : D := tD (i5 t)
def gD : Option W4 → D
  | none => .non
  | some r => d4 r
theorem i3_inj : ∀ a b, i3 a = i3 b → a = b := by
  rintro ⟨a, b, c⟩ ⟨a', b', c'⟩ h
  simp [i3] at h
  simp [h]
theorem i4_inj : ∀ a b, i4 a = i4 b → a = b := by
  rintro ⟨a, b, c, d⟩ ⟨a', b', c', d'⟩ h
  simp [i4] at h
  simp [h]
theorem i3_ne (a : T3) : i3 a ≠ [] := by simp [i3]
def Rt (wires : Int) (x : List Int) : Prop := ∃ a b c d : Int, x = [a, b, c, d] ∧ 0 ≤ a ∧ a < wires ∧ 0 ≤ c ∧ c < wires ∧ 0 ≤ b ∧ b ≤ 2047 ∧ 0 ≤ d ∧ d ≤ 2047 ∧ a ≠ c
def gls (t : List (List Int)) (w num : Int) : List (Int × Int) := (t.filter fun x => decide (x.take 2 = [w, num])).map fun x => (x.getD 2 0, x.getD 3 0)
def d2 (p : Int × Int) : D := tD [p.1, p.2]
section
variable {S S' : MS} {Q : D → MS → Prop} {P : D → MS → Prop} {E : Exn → MS → Prop} {R : Fl → Prop} {env : En}
variable {t : List (List Int)} {wires w num : Int}
theorem smK {α : Type} {l : List α} (h : l.length ≤ 20000) : Small l.length := small_of (by omega)
theorem w_comesP (ht : t.length ≤ 100) (hr : ∀ x ∈ t, Rt wires x) : wp (m_comes [.lst (t.map tD), .tup [.int w, .int num]]) S Q E = Q (.lst ((gls t w num).map d2)) S := by
  refine wq ?_
  rw [r_comes]
  unfold b_comes
  rw [wpS_ret, lkm_tree (d := .lst (t.map tD)) rfl trivial]
  (simp_arith [true_and, wipe_c, wipe_n])
  rw [lc_ft (enc := tD) (f := fun x => decide (x.take 2 = [w, num])) (g := fun x => d2 (x.getD 2 0, x.getD 3 0)) (fun x hx => wp_ex ?_) (fun x hx _ => wp_ex ?_)]
  · have e : ((t.filter fun x => decide (x.take 2 = [w, num])).map fun x => d2 (x.getD 2 0, x.getD 3 0)) = (gls t w num).map d2 := by
      unfold gls
      rw [List.map_map]
      rfl
    rw [e]
    have hl : (gls t w num).length ≤ 20000 := by
      unfold gls
      rw [List.length_map]
      have := List.length_filter_le (fun x => decide (x.take 2 = [w, num])) t
      omega
    (simp_arith [true_and, List.length_map, smK hl])
  · obtain ⟨a, b, c, d, rfl, _⟩ := hr x hx
    unfold tD
    (simp_arith [true_and, cutT, sm2])
    have e : D.tup [.int a, .int b] = tD [a, b] := rfl
    have e2 : D.tup [.int w, .int num] = tD [w, num] := rfl
    have e3 : D.tup (List.map D.int (List.take 2 [a, b, c, d])) = tD [a, b] := rfl
    try rw [e3]
    try rw [e]
    rw [e2]
    (simp_arith [true_and, x_eq, eqT, sm2, List.length_map, List.length_take, List.length_cons, List.length_nil, List.take])
    congr 1
  · obtain ⟨a, b, c, d, rfl, _⟩ := hr x hx
    unfold tD
    (simp_arith [true_and, cutF, sm2])
    exact ⟨small_of (by simp), rfl⟩
end
end G93
namespace G93
open PySem L2 Mi Gu
def pj (L : List W4) (w : Int) : List T3 := (L.filter fun r => decide (r.1 = w)).map (·.2)
def goes1 (ts : List Int) (now : Int) (σ : List W4 × List (Option W4)) (w : Nat) : List W4 × List (Option W4) :=
  match σ.2[w]? with
  | some none => match pj σ.1 w with
    | [] => σ
    | x :: xs => (σ.1.erase ((w : Int), mnK i3 x xs), σ.2.set w (some (now + ts.getD w 0, mnK i3 x xs)))
  | _ => σ
def goesN (ts : List Int) (now : Int) (k : Nat) (σ : List W4 × List (Option W4)) : List W4 × List (Option W4) := (List.range k).foldl (goes1 ts now) σ
theorem goesN_s {ts : List Int} {now : Int} {k : Nat} {σ : List W4 × List (Option W4)} : goesN ts now (k + 1) σ = goes1 ts now (goesN ts now k σ) k := by
  unfold goesN
  rw [List.range_succ, List.foldl_append]
  rfl
def wqL (n : Nat) (L : List W4) : List D := (List.range n).map fun w : Nat => D.lst ((soK i3 (pj L w)).map d3)
structure PN (S : MS) (r wt gt : Nat) (ts : List Int) (t : List (List Int)) (now count : Int) (L : List W4) (G : List (Option W4)) (lg : List L5) : Prop where
  gr : S.get r = some (.ins c_Net [.lst (ts.map D.int), .lst (t.map tD), .int now, .int count, .obj wt, .obj gt, .lst (lg.map d5)])
  gw : S.get wt = some (.lst (wqL ts.length L))
  gg : S.get gt = some (.lst (G.map gD))
  n1 : r ≠ wt
  n2 : r ≠ gt
  n3 : wt ≠ gt
  gl : G.length = ts.length
  tl : ts.length ≤ 5
section
variable {ts : List Int} {t : List (List Int)} {now count n' : Int} {ow oo ol ow' : Nat}
end
section
variable {S S' S1 : MS} {Q : D → MS → Prop} {P : D → MS → Prop} {E : Exn → MS → Prop} {R : Fl → Prop} {env : En}
variable {ts : List Int} {t : List (List Int)} {now count : Int} {L L' : List W4} {G G' : List (Option W4)} {lg : List L5} {r wt gt o ow oo ol : Nat} {w w' : Int} {m : T3}
theorem goes1_len {σ : List W4 × List (Option W4)} {w : Nat} : (goes1 ts now σ w).2.length = σ.2.length := by
  unfold goes1
  split
  · split
    · rfl
    · exact List.length_set
  · rfl
theorem goesN_len {σ : List W4 × List (Option W4)} : ∀ {k : Nat}, (goesN ts now k σ).2.length = σ.2.length
  | 0 => rfl
  | k + 1 => by rw [goesN_s, goes1_len, goesN_len]
theorem at_G {i : Nat} {g : Option W4} (h : G[i]? = some g) : atI (G.map gD) (i : Int) = some (gD g) := by
  have hi := (List.getElem?_eq_some_iff.mp h).1
  rw [at_nat (ds := G.map gD) (j := i) (by rw [List.length_map]; exact hi), List.getElem_map]
  rw [(List.getElem?_eq_some_iff.mp h).2]
theorem at_ts {i : Nat} (h : i < ts.length) : atI (ts.map D.int) (i : Int) = some (.int (ts.getD i 0)) := by
  rw [at_nat (ds := ts.map D.int) (j := i) (by rw [List.length_map]; exact h), List.getElem_map, List.getD_eq_getElem?_getD, List.getElem?_eq_getElem h]
  rfl
theorem wq_len {n : Nat} : (wqL n L).length = n := by unfold wqL; simp
theorem wq_get {n j : Nat} (h : j < (wqL n L).length) : (wqL n L)[j] = .lst ((soK i3 (pj L j)).map d3) := by
  unfold wqL at h ⊢
  rw [List.getElem_map, List.getElem_range]
theorem so_nil : soK i3 [] = [] := by
  unfold soK
  simp
theorem at_wq {n i : Nat} (h : i < n) : atI (wqL n L) (i : Int) = some (.lst ((soK i3 (pj L i)).map d3)) := by
  rw [at_nat (ds := wqL n L) (j := i) (by rw [wq_len]; exact h), wq_get]
theorem pj_mem (h : m ∈ pj L w) : (w, m) ∈ L := by
  obtain ⟨r, hr, rfl⟩ := List.mem_map.mp h
  obtain ⟨h1, h2⟩ := List.mem_filter.mp hr
  have e : r.1 = w := of_decide_eq_true h2
  rw [← e]
  exact h1
theorem pj_cons {x : W4} : pj (x :: L) w = if x.1 = w then x.2 :: pj L w else pj L w := by
  unfold pj
  by_cases c : x.1 = w
  · rw [if_pos c, List.filter_cons_of_pos (by simpa using c)]
    rfl
  · rw [if_neg c, List.filter_cons_of_neg (by simpa using c)]
theorem pj_perm (p : L.Perm L') : (pj L w).Perm (pj L' w) := (p.filter _).map _
theorem pj_erase (h : (w, m) ∈ L) : (pj L w').Perm (if w = w' then m :: pj (L.erase (w, m)) w' else pj (L.erase (w, m)) w') := by
  have p := pj_perm (w := w') (List.perm_cons_erase h)
  rw [pj_cons] at p
  exact p
theorem wq_erase {n i : Nat} (hi : i < n) {x : T3} {xs : List T3} (e : pj L i = x :: xs) : ∃ rest, soK i3 (pj L i) = mnK i3 x xs :: rest ∧ (wqL n L).set i (.lst (rest.map d3)) = wqL n (L.erase ((i : Int), mnK i3 x xs)) := by
  obtain ⟨rest, hr⟩ := so_head (k := i3) i3_inj (x := x) (xs := xs)
  have hm : ((i : Int), mnK i3 x xs) ∈ L := pj_mem (by rw [e]; exact mn_mem xs x)
  refine ⟨rest, by rw [e, hr], ?_⟩
  refine List.ext_getElem (by rw [List.length_set, wq_len, wq_len]) fun j h1 h2 => ?_
  rw [List.getElem_set]
  rw [wq_get, wq_get]
  have p := pj_erase (w' := (j : Int)) hm
  by_cases c : i = j
  · subst c
    rw [if_pos rfl] at p ⊢
    rw [e] at p
    rw [so_tail i3_inj hr p]
  · rw [if_neg c]
    rw [if_neg (by omega)] at p
    rw [so_perm i3_inj p]
theorem isn4 {a : W4} : Mi.isNon (d4 a) = false := rfl
theorem PN.fr {ns : List Nat} (h : PN S r wt gt ts t now count L G lg) (f : Fr ns S S') (h1 : r < S.nx) (h2 : wt < S.nx) (h3 : gt < S.nx) (m1 : r ∉ ns) (m2 : wt ∉ ns) (m3 : gt ∉ ns) : PN S' r wt gt ts t now count L G lg :=
  { h with gr := f.at h.gr h1 m1, gw := f.at h.gw h2 m2, gg := f.at h.gg h3 m3 }
theorem PN.begin1 {i : Nat} (h : PN S r wt gt ts t now count L G lg) (hi : i < ts.length) (hL : L.length ≤ 15000) {o2 o3 o4 : Option D}
    (K : ∀ S' p2 p3 p4, S'.nx = S.nx → Fr [wt, gt] S S' → PN S' r wt gt ts t now count (goes1 ts now (L, G) i).1 (goes1 ts now (L, G) i).2 lg → R (.nx [some (.obj r), some (.int (i : Nat)), p2, p3, p4] S')) :
    wpS (mIfS (mAnd (mB (mOp dIsN (mOp dIx (mOp1 (dFld c_Net 5) (mV 0)) (mV 1)) (mK .non))) (mB (mOp dGt (mFn (d1 dLen) (mCons (mOp dIx (mOp1 (dFld c_Net 4) (mV 0)) (mV 1)) mNil)) (mK (.int 0))))) (mSeq (mAsg (mOp dIx (mOp dIx (mOp1 (dFld c_Net 4) (mV 0)) (mV 1)) (mK (.int 0))) (gTp 3 (gsCons (gNm 2) (gsCons (gNm 3) (gsCons (gNm 4) gsNil)))))
  (mSeq (mAsg (mSl mkL (mOp dIx (mOp1 (dFld c_Net 4) (mV 0)) (mV 1)) (oSome (mK (.int 1))) oNone) (gIx (mOp1 (dFld c_Net 4) (mV 0)) (mV 1)))
  (mAsg (mTup (mCons (mOp (dAdd mkL) (mOp1 (dFld c_Net 2) (mV 0)) (mOp dIx (mOp1 (dFld c_Net 0) (mV 0)) (mV 1))) (mCons (mV 2) (mCons (mV 3) (mCons (mV 4) mNil))))) (gIx (mOp1 (dFld c_Net 5) (mV 0)) (mV 1))))) mNx [some (.obj r), some (.int (i : Nat)), o2, o3, o4] S) R := by
  obtain ⟨g, hg1⟩ : ∃ g, G[i]? = some g := ⟨_, List.getElem?_eq_getElem (by rw [h.gl]; exact hi)⟩
  have ha := at_G hg1
  cases g with
  | some a =>
    have e : goes1 ts now (L, G) i = (L, G) := by
      unfold goes1
      dsimp only
      rw [hg1]
    have ha' : atI (G.map gD) (i : Int) = some (d4 a) := ha
    rw [e] at K
    (simp_arith [true_and, h.gr, h.gg, ha', isn4])
    exact K _ _ _ _ rfl Fr.refl h
  | none =>
    have ha' : atI (G.map gD) (i : Int) = some .non := ha
    have hq := at_wq (L := L) hi
    cases e : pj L i with
    | nil =>
      have e2 : goes1 ts now (L, G) i = (L, G) := by
        unfold goes1
        dsimp only
        rw [hg1]
        dsimp only
        rw [e]
      rw [e2] at K
      rw [e, so_nil] at hq
      have hq' : atI (wqL ts.length L) (i : Int) = some (.lst []) := hq
      have z : decide ((0 : Int) < ((0 : Nat) : Int)) = false := rfl
      (simp_arith [true_and, h.gr, h.gg, ha', h.gw, hq', z])
      exact K _ _ _ _ rfl Fr.refl h
    | cons x xs =>
      obtain ⟨rest, h1, h2⟩ := wq_erase (L := L) hi e
      have e2 : goes1 ts now (L, G) i = (L.erase ((i : Int), mnK i3 x xs), G.set i (some (now + ts.getD i 0, mnK i3 x xs))) := by
        unfold goes1
        dsimp only
        rw [hg1]
        dsimp only
        rw [e]
      rw [e2] at K
      dsimp only at K
      rw [h1] at hq
      generalize hm : mnK i3 x xs = m at *
      obtain ⟨a, b, c⟩ := m
      have hq' : atI (wqL ts.length L) (i : Int) = some (.lst (.tup [.int a, .int b, .int c] :: rest.map d3)) := hq
      have z : decide ((0 : Int) < ((rest.length + 1 : Nat) : Int)) = true := decide_eq_true (by omega)
      have hr : rest.length ≤ 15000 := by
        have := (so_pm (k := i3) (l := pj L i)).length_eq
        rw [h1] at this
        have l2 : (pj L i).length ≤ L.length := by unfold pj; rw [List.length_map]; exact List.length_filter_le _ _
        simp at this
        omega
      have s1 : Small rest.length := small_of (by omega)
      have hi1 : i < (wqL ts.length L).length := by rw [wq_len]; exact hi
      have hi2 : i < (G.map gD).length := by rw [List.length_map, h.gl]; exact hi
      have gr2 : (S.set wt (.lst ((wqL ts.length L).set i (.lst (rest.map d3))))).get r = _ := (get_ne h.n1).trans h.gr
      have gg2 : (S.set wt (.lst ((wqL ts.length L).set i (.lst (rest.map d3))))).get gt = _ := (get_ne h.n3.symm).trans h.gg
      (simp_arith [true_and, h.gr, h.gg, ha', h.gw, hq', z, g_tp, s1, List.length_map, ixN_n hi1])
      (simp_arith [true_and, gr2, gg2, at_ts hi, sm4, ixN_n hi2, List.length_map, h.gl, ixN_n hi])
      refine K _ _ _ _ rfl ((Fr.set (by simp)).set' (.inl (by simp))) { h with gr := (get_ne h.n2).trans gr2, gw := ?_, gg := ?_, gl := by rw [List.length_set]; exact h.gl }
      · rw [(get_ne h.n3), get_same, h2]
      · rw [get_same]
        have : D.tup [.int (now + ts.getD i 0), .int a, .int b, .int c] = gD (some (now + ts.getD i 0, a, b, c)) := rfl
        rw [this, List.map_set]
end
end G93
namespace G93
open PySem L2 Mi Gu
section
variable {S S' S1 : MS} {Q : D → MS → Prop} {P : D → MS → Prop} {E : Exn → MS → Prop} {R : Fl → Prop} {env : En}
variable {ts : List Int} {t : List (List Int)} {now count : Int} {L L' : List W4} {G G' : List (Option W4)} {lg : List L5} {r wt gt o ow oo ol : Nat} {w w' : Int} {m : T3}
theorem goes1_le {σ : List W4 × List (Option W4)} {w : Nat} : (goes1 ts now σ w).1.length ≤ σ.1.length := by
  unfold goes1
  split
  · split
    · exact Nat.le_refl _
    · exact List.length_erase_le
  · exact Nat.le_refl _
theorem goesN_le {σ : List W4 × List (Option W4)} : ∀ {k : Nat}, (goesN ts now k σ).1.length ≤ σ.1.length
  | 0 => Nat.le_refl _
  | k + 1 => by rw [goesN_s]; exact Nat.le_trans goes1_le goesN_le
theorem PN.begin (h : PN S r wt gt ts t now count L G lg) (hL : L.length ≤ 15000)
    (K : ∀ S', S'.nx = S.nx → Fr [wt, gt] S S' → PN S' r wt gt ts t now count (goesN ts now ts.length (L, G)).1 (goesN ts now ts.length (L, G)).2 lg → Q .non S') : wp (m_Net_begin [.obj r]) S Q E := by
  rw [r_Net_begin]
  unfold b_Net_begin
  have tl := h.tl
  (simp_arith [true_and, h.gr, List.length_map, rngD1_nat (show ts.length < 4611686018427387904 by omega)])
  refine loop_inv (fun i e S2 => (∃ p1 p2 p3 p4, e = [some (.obj r), p1, p2, p3, p4]) ∧ S2.nx = S.nx ∧ Fr [wt, gt] S S2 ∧ PN S2 r wt gt ts t now count (goesN ts now i (L, G)).1 (goesN ts now i (L, G)).2 lg)
    ⟨⟨_, _, _, _, rfl⟩, rfl, Fr.refl, h⟩ ?_ ?_
  · rintro i z e S2 hz ⟨⟨p1, p2, p3, p4, rfl⟩, hn, hf, h2⟩
    obtain ⟨hi, rfl⟩ := rng01 hz
    rw [y_gnm]
    dsimp only [List.set_cons_succ, List.set_cons_zero]
    refine h2.begin1 hi (by have := goesN_le (ts := ts) (now := now) (σ := (L, G)) (k := i); dsimp only at this; omega) fun S3 q2 q3 q4 e1 e2 h3 => ?_
    rw [goesN_s]
    exact ⟨⟨_, _, _, _, rfl⟩, e1.trans hn, hf.trans e2, h3⟩
  · rintro e S2 ⟨⟨p1, p2, p3, p4, rfl⟩, hn, hf, h2⟩
    rw [rngN_len] at h2
    exact K S2 hn hf h2
theorem pj_app {x : W4} : pj (L ++ [x]) w = pj L w ++ if x.1 = w then [x.2] else [] := by
  unfold pj
  rw [List.filter_append, List.map_append]
  by_cases c : x.1 = w
  · rw [if_pos c, List.filter_cons_of_pos (by simpa using c)]
    rfl
  · rw [if_neg c, List.filter_cons_of_neg (by simpa using c)]
    rfl
theorem wq_add {n i : Nat} : (wqL n L).set i (.lst ((soK i3 (soK i3 (pj L i) ++ [m])).map d3)) = wqL n (L ++ [((i : Int), m)]) := by
  refine List.ext_getElem (by rw [List.length_set, wq_len, wq_len]) fun j h1 h2 => ?_
  rw [List.getElem_set, wq_get, wq_get, pj_app]
  by_cases c : i = j
  · subst c
    rw [if_pos rfl, if_pos rfl, so_perm i3_inj ((so_pm).append_right [m])]
  · rw [if_neg c, if_neg (by show ¬(i : Int) = (j : Int); omega), List.append_nil]
theorem PN.wait_for {i : Nat} {num idx : Int} (h : PN S r wt gt ts t now count L G lg) (hi : i < ts.length) (hL : L.length ≤ 15000) : ∃ S', S'.nx = S.nx ∧ Fr [wt] S S' ∧ PN S' r wt gt ts t now count (L ++ [((i : Int), num, idx, now)]) G lg ∧ ∀ {Q : D → MS → Prop} {E : Exn → MS → Prop}, wp (m_Net_wait_for [.obj r, .int (i : Nat), .int num, .int idx]) S Q E = Q .non S' := by
  refine ⟨S.set wt (.lst (wqL ts.length (L ++ [((i : Int), num, idx, now)]))), rfl, Fr.set (by simp), { h with gr := (get_ne h.n1).trans h.gr, gw := get_same, gg := (get_ne h.n3.symm).trans h.gg }, fun {Q E} => wq2 ?_⟩
  rw [r_Net_wait_for]
  unfold b_Net_wait_for
  have hl : (soK i3 (pj L i)).length ≤ 15000 := by
    rw [(so_pm).length_eq]
    unfold pj
    rw [List.length_map]
    exact Nat.le_trans (List.length_filter_le _ _) hL
  have e1 : D.tup [.int num, .int idx, .int now] = d3 (num, idx, now) := rfl
  have e2 : (soK i3 (pj L i)).map d3 ++ [d3 (num, idx, now)] = (soK i3 (pj L i) ++ [(num, idx, now)]).map d3 := by rw [List.map_append]; rfl
  have es : ∀ {P : D → MS → Prop} {E : Exn → MS → Prop}, wp (dSortG mkL (.lst ((soK i3 (pj L i) ++ [(num, idx, now)]).map d3))) S P E = wp (mkL ((soK i3 (soK i3 (pj L i) ++ [(num, idx, now)])).map d3)) S P E := x_sortK (k := i3) i3_ne
  have l1 : Small ((soK i3 (pj L i)).length + 1) := small_of (by omega)
  have l2 : (soK i3 (soK i3 (pj L i) ++ [(num, idx, now)])).length = (soK i3 (pj L i)).length + 1 := by
    rw [(so_pm).length_eq, List.length_append]
    rfl
  have hi1 : i < (wqL ts.length L).length := by rw [wq_len]; exact hi
  (simp_arith [true_and, h.gr, h.gw, at_wq hi, sm3, sm1])
  rw [e1]
  (simp_arith [true_and, e2, es, List.length_map, List.length_append, List.length_cons, List.length_nil, l1, l2, h.gr, h.gw, ixN_n hi1, wq_add])
end
end G93
namespace G93
open PySem L2 Mi Gu
def nb : MSt :=
  (mFor (mIt (mCall m_comes (mCons (mOp1 (dFld c_Net 1) (mV 0)) (mCons (mTup (mCons (mV 2) (mCons (mV 4) mNil))) mNil)))) (gTp 2 (gsCons (gNm 6) (gsCons (gNm 7) gsNil))) (mDrop (mMeth c_Net m_Net_wait_for (mV 0) (mCons (mV 6) (mCons (mV 7) (mCons (mV 5) mNil))))))
def eb : MSt :=
  (mSeq (mAsg (mOp dIx (mOp1 (dFld c_Net 5) (mV 0)) (mV 2)) (gNm 3))
  (mIfS (mAnd (mB (mOp dIsNotN (mV 3) (mK .non))) (mB (mOp dEq (mOp dIx (mV 3) (mK (.int 0))) (mOp1 (dFld c_Net 2) (mV 0))))) (mSeq (mAsg (mK .non) (gIx (mOp1 (dFld c_Net 5) (mV 0)) (mV 2)))
  (mSeq (mStF c_Net 6 (mV 0) (mOp (dAdd mkL) (mOp1 (dFld c_Net 6) (mV 0)) (mLst (mCons (mTup (mCons (mOp1 (dFld c_Net 2) (mV 0)) (mCons (mV 2) (mCons (mOp dIx (mV 3) (mK (.int 1))) (mCons (mOp dIx (mV 3) (mK (.int 2))) (mCons (mOp dSub (mOp1 (dFld c_Net 2) (mV 0)) (mOp dIx (mV 3) (mK (.int 3)))) mNil)))))) mNil))))
  (mDrop (mMt "list" dAppend (mV 1) (mCons (mTup (mCons (mV 2) (mCons (mOp dIx (mV 3) (mK (.int 1))) (mCons (mOp dIx (mV 3) (mK (.int 2))) mNil)))) mNil))))) mNx))
def b_Net_come2 : MSt :=
  (mSeq (mAsg (mObj mNil) (gNm 1))
  (mSeq (mFor (mRange1 (mCons (mFn (d1 dLen) (mCons (mOp1 (dFld c_Net 0) (mV 0)) mNil)) mNil)) (gNm 2) (eb))
  (mSeq (mLkSM [1] (mFor (mIt (mV 1)) (gTp 3 (gsCons (gNm 2) (gsCons (gNm 4) (gsCons (gNm 5) gsNil)))) (nb)))
  (mDrop (mMeth c_Net m_Net_begin (mV 0) mNil)))))
theorem b_Net_come_eq : b_Net_come = b_Net_come2 := rfl

def ends1 (now : Int) (x : List (Option W4) × List L5 × List T3) (w : Nat) : List (Option W4) × List L5 × List T3 := match x.1[w]? with
  | some (some a) => if a.1 = now then (x.1.set w none, x.2.1 ++ [(now, (w : Int), a.2.1, a.2.2.1, now - a.2.2.2)], x.2.2 ++ [((w : Int), a.2.1, a.2.2.1)]) else x
  | _ => x
def endsN (now : Int) (k : Nat) (x : List (Option W4) × List L5 × List T3) : List (Option W4) × List L5 × List T3 := (List.range k).foldl (ends1 now) x
theorem endsN_s {now : Int} {k : Nat} {x : List (Option W4) × List L5 × List T3} : endsN now (k + 1) x = ends1 now (endsN now k x) k := by
  unfold endsN
  rw [List.range_succ, List.foldl_append]
  rfl
def endL (G : List (Option W4)) : List Int := (G.filter Option.isSome).map fun o => (o.getD (0, 0, 0, 0)).1
def dueV (G : List (Option W4)) : D := if 0 < (endL G).length then .int (minI (endL G)) else .non
def more (t : List (List Int)) (now : Int) (L : List W4) (d : T3) : List W4 := L ++ (gls t d.1 d.2.1).map fun g => (g.1, g.2, d.2.2, now)
def mores (t : List (List Int)) (now : Int) (L : List W4) (ds : List T3) : List W4 := ds.foldl (more t now) L
section
variable {S S' S1 : MS} {Q : D → MS → Prop} {P : D → MS → Prop} {E : Exn → MS → Prop} {R : Fl → Prop} {env : En}
variable {ts : List Int} {t : List (List Int)} {now count : Int} {L L' : List W4} {G G' : List (Option W4)} {lg : List L5} {r wt gt o ow oo ol dn : Nat} {w w' : Int} {m : T3} {dl : List T3}
theorem ends1_len {x : List (Option W4) × List L5 × List T3} {w : Nat} : (ends1 now x w).1.length = x.1.length := by
  unfold ends1
  split
  · split
    · exact List.length_set
    · rfl
  · rfl
theorem endsN_len {x : List (Option W4) × List L5 × List T3} : ∀ {k : Nat}, (endsN now k x).1.length = x.1.length
  | 0 => rfl
  | k + 1 => by rw [endsN_s, ends1_len, endsN_len]
theorem ends1_b {x : List (Option W4) × List L5 × List T3} {w : Nat} : (ends1 now x w).2.1.length ≤ x.2.1.length + 1 ∧ (ends1 now x w).2.2.length ≤ x.2.2.length + 1 := by
  unfold ends1
  split
  · split
    · simp
    · omega
  · omega
theorem endsN_b {x : List (Option W4) × List L5 × List T3} : ∀ {k : Nat}, (endsN now k x).2.1.length ≤ x.2.1.length + k ∧ (endsN now k x).2.2.length ≤ x.2.2.length + k
  | 0 => ⟨Nat.le_refl _, Nat.le_refl _⟩
  | k + 1 => by
    have h1 := ends1_b (now := now) (x := endsN now k x) (w := k)
    have h2 := @endsN_b x k
    rw [endsN_s]
    omega
theorem ref5 {o1 o2 : Option D} (h : PN S r wt gt ts t now count L G lg) : refOf [some (.obj r), o1, o2] S [0, 5] = some gt := by
  have e : refOf [some (.obj r), o1, o2] S [0, 5] = match S.get r with
    | some (.ins _ fs) => match fs[5]? with
      | some (D.obj m) => some m
      | _ => none
    | _ => none := rfl
  rw [e, h.gr]
  rfl
theorem end_map : (G.filter Option.isSome).map (fun o => D.int (o.getD (0, 0, 0, 0)).1) = (endL G).map D.int := by
  unfold endL
  rw [List.map_map]
  rfl
theorem endL_le : (endL G).length ≤ G.length := by
  unfold endL
  rw [List.length_map]
  exact List.length_filter_le _ _
theorem PN.due (h : PN S r wt gt ts t now count L G lg) : wp (m_Net_due [.obj r]) S Q E = Q (dueV G) S := by
  refine wq ?_
  rw [r_Net_due]
  unfold b_Net_due
  have tl := h.tl
  have gl := h.gl
  have el := endL_le (G := G)
  have se : Small (endL G).length := small_of (by omega)
  rw [wpS_seq, lks_ro (n := gt) (ds := G.map gD) (e := [some (.obj r), some (.lst ((endL G).map D.int)), none]) (ref5 h) h.gg (wpS_ex ?_)]
  · rw [k_nx]
    unfold dueV
    by_cases c : 0 < (endL G).length
    · have z : decide ((0 : Int) < ((endL G).length : Int)) = true := decide_eq_true (by omega)
      have em : ∀ {P : D → MS → Prop} {E : Exn → MS → Prop}, wp (dMinL (.lst ((endL G).map D.int))) S P E = P (.int (minI (endL G))) S := by
        intro P E
        have e1 : intsOf ((endL G).map D.int) = some (endL G) := by
          have := ints_map (l := endL G) (f := id)
          rwa [List.map_id] at this
        exact x_minL e1 (List.length_pos_iff.mp c)
      rw [if_pos c]
      (simp_arith [true_and, List.length_map, z, em])
    · have z : decide ((0 : Int) < ((endL G).length : Int)) = false := decide_eq_false (by omega)
      rw [if_neg c]
      (simp_arith [true_and, List.length_map, z])
  · have gr2 : (S.set gt (.ll (G.map gD))).get r = _ := (get_ne h.n2).trans h.gr
    have gg2 : (S.set gt (.ll (G.map gD))).get gt = some (.ll (G.map gD)) := get_same
    (simp_arith [true_and, gr2, gg2, wipe_c, wipe_n])
    rw [lc_ft (enc := gD) (f := Option.isSome) (g := fun o => D.int (o.getD (0, 0, 0, 0)).1) (fun y hy => wp_ex ?_) (fun y hy hs => wp_ex ?_)]
    · rw [end_map]
      (simp_arith [true_and, List.length_map, se])
    · cases y with
      | none => unfold gD; (simp_arith [true_and]); rfl
      | some a => unfold gD; (simp_arith [true_and, isn4]); rfl
    · cases y with
      | none => cases hs
      | some a =>
        obtain ⟨a, b, c, d⟩ := a
        have e4 : gD (some (a, b, c, d)) = .tup [.int a, .int b, .int c, .int d] := rfl
        rw [e4]
        (simp_arith [true_and])
        rfl
theorem PN.end1 {i : Nat} (h : PN S r wt gt ts t now count L G lg) (hd : S.get dn = some (.lst (dl.map d3))) (m1 : r ≠ dn) (m2 : wt ≠ dn) (m3 : gt ≠ dn) (hdl : dl.length ≤ 100) (hlg : lg.length ≤ 15000) (hi : i < ts.length) {o3 o4 o5 o6 o7 : Option D}
    (K : ∀ S' p3, S'.nx = S.nx → Fr [r, gt, dn] S S' → PN S' r wt gt ts t now count L (ends1 now (G, lg, dl) i).1 (ends1 now (G, lg, dl) i).2.1 → S'.get dn = some (.lst ((ends1 now (G, lg, dl) i).2.2.map d3)) → R (.nx [some (.obj r), some (.obj dn), some (.int (i : Nat)), p3, o4, o5, o6, o7] S')) :
    wpS (eb [some (.obj r), some (.obj dn), some (.int (i : Nat)), o3, o4, o5, o6, o7] S) R := by
  unfold eb
  obtain ⟨g, hg1⟩ : ∃ g, G[i]? = some g := ⟨_, List.getElem?_eq_getElem (by rw [h.gl]; exact hi)⟩
  have ha := at_G hg1
  cases g with
  | none =>
    have e : ends1 now (G, lg, dl) i = (G, lg, dl) := by
      unfold ends1
      dsimp only
      rw [hg1]
    have ha' : atI (G.map gD) (i : Int) = some .non := ha
    rw [e] at K
    (simp_arith [true_and, h.gr, h.gg, ha'])
    exact K _ _ rfl Fr.refl h hd
  | some a =>
    obtain ⟨a, b, c, d⟩ := a
    have ha' : atI (G.map gD) (i : Int) = some (.tup [.int a, .int b, .int c, .int d]) := ha
    by_cases q : a = now
    · have e : ends1 now (G, lg, dl) i = (G.set i none, lg ++ [(now, (i : Int), b, c, now - d)], dl ++ [((i : Int), b, c)]) := by
        unfold ends1
        dsimp only
        rw [hg1]
        dsimp only
        rw [if_pos q]
      rw [e] at K
      dsimp only at K
      have hi2 : i < (G.map gD).length := by rw [List.length_map, h.gl]; exact hi
      have gr2 : (S.set gt (.lst ((G.map gD).set i .non))).get r = _ := (get_ne h.n2).trans h.gr
      have e5 : D.tup [.int now, .int (i : Int), .int b, .int c, .int (now - d)] = d5 (now, (i : Int), b, c, now - d) := rfl
      have e6 : D.tup [.int (i : Int), .int b, .int c] = d3 ((i : Int), b, c) := rfl
      have e7 : lg.map d5 ++ [d5 (now, (i : Int), b, c, now - d)] = (lg ++ [(now, (i : Int), b, c, now - d)]).map d5 := by rw [List.map_append]; rfl
      have e8 : dl.map d3 ++ [d3 ((i : Int), b, c)] = (dl ++ [((i : Int), b, c)]).map d3 := by rw [List.map_append]; rfl
      have s1 : Small (lg.length + 1) := small_of (by omega)
      have hz : (dl.length < lineN) = True := eq_true (by show dl.length < 16777216; omega)
      (simp_arith [true_and, h.gr, h.gg, ha', decide_eq_true q, ixN_n hi2, List.length_map, h.gl, ixN_n hi])
      (simp_arith [true_and, gr2, sm1, sm5, e5])
      have gd2 : ∀ fs, ((S.set gt (.lst ((G.map gD).set i .non))).set r (.ins c_Net fs)).get dn = some (.lst (dl.map d3)) := fun fs => (get_ne m1.symm).trans ((get_ne m3.symm).trans hd)
      have s3 : Small (lg.map d5 ++ [d5 (now, (i : Int), b, c, now - d)]).length := small_of (by rw [List.length_append, List.length_map]; simp; omega)
      (simp_arith [true_and, s3, gd2, sm3, hz, List.length_map, e6])
      try (simp_arith [true_and, s3, gd2, sm3, hz, List.length_map, e6, e8])
      have fr : Fr [r, gt, dn] S (((S.set gt (.lst ((G.map gD).set i .non))).set r (.ins c_Net [.lst (ts.map D.int), .lst (t.map tD), .int now, .int count, .obj wt, .obj gt, .lst (lg.map d5 ++ [d5 (now, (i : Int), b, c, now - d)])])).set dn (.lst ((dl ++ [((i : Int), b, c)]).map d3))) := ((Fr.set (by simp)).set' (.inl (by simp))).set' (.inl (by simp))
      refine K _ _ rfl fr { h with gr := ?_, gw := ?_, gg := ?_, gl := by rw [List.length_set]; exact h.gl } get_same
      · rw [get_ne m1, get_same, e7]
      · rw [get_ne m2, get_ne h.n1.symm, get_ne h.n3]
        exact h.gw
      · rw [get_ne m3, get_ne h.n2.symm, get_same, List.map_set]
        rfl
    · have e : ends1 now (G, lg, dl) i = (G, lg, dl) := by
        unfold ends1
        dsimp only
        rw [hg1]
        dsimp only
        rw [if_neg q]
      rw [e] at K
      (simp_arith [true_and, h.gr, h.gg, ha', decide_eq_false q])
      exact K _ _ rfl Fr.refl h hd
end
end G93
namespace G93
open PySem L2 Mi Gu
section
variable {S S' S1 : MS} {Q : D → MS → Prop} {P : D → MS → Prop} {E : Exn → MS → Prop} {R : Fl → Prop} {env : En}
variable {ts : List Int} {t : List (List Int)} {now count : Int} {L L' : List W4} {G G' : List (Option W4)} {lg : List L5} {r wt gt o ow oo ol dn : Nat} {w w' num idx : Int} {m : T3} {dl : List T3}
theorem gls_mem {g : Int × Int} {wires : Int} (hr : ∀ x ∈ t, Rt wires x) (h : g ∈ gls t w num) : 0 ≤ g.1 ∧ g.1 < wires ∧ 0 ≤ g.2 ∧ g.2 ≤ 2047 := by
  obtain ⟨x, hx, rfl⟩ := List.mem_map.mp h
  obtain ⟨a, b, c, d, rfl, h1, h2, h3, h4, h5, h6, h7, h8, _⟩ := hr x (List.mem_filter.mp hx).1
  exact ⟨h3, h4, h7, h8⟩
theorem gls_le : (gls t w num).length ≤ t.length := by
  unfold gls
  rw [List.length_map]
  exact List.length_filter_le _ _
theorem more_le {d : T3} : (more t now L d).length ≤ L.length + t.length := by
  unfold more
  rw [List.length_append, List.length_map]
  have := gls_le (t := t) (w := d.1) (num := d.2.1)
  omega
theorem mores_le : ∀ {ds : List T3} {L : List W4}, (mores t now L ds).length ≤ L.length + ds.length * t.length
  | [], L => by simp [mores]
  | d :: ds, L => by
    have h1 := mores_le (ds := ds) (L := more t now L d)
    have h2 := more_le (t := t) (now := now) (L := L) (d := d)
    have e : mores t now L (d :: ds) = mores t now (more t now L d) ds := rfl
    rw [e, List.length_cons, Nat.add_mul]
    omega
theorem mores_s {ds : List T3} {d : T3} : mores t now L (ds ++ [d]) = more t now (mores t now L ds) d := by
  unfold mores
  rw [List.foldl_append]
  rfl
theorem PN.nbs (h : PN S r wt gt ts t now count L G lg) (ht : t.length ≤ 100) (hr : ∀ x ∈ t, Rt ts.length x) (hL : L.length + t.length ≤ 15000) {o1 o3 o6 o7 : Option D}
    (K : ∀ S' p6 p7, S'.nx = S.nx → Fr [wt] S S' → PN S' r wt gt ts t now count (more t now L (w, num, idx)) G lg → R (.nx [some (.obj r), o1, some (.int w), o3, some (.int num), some (.int idx), p6, p7] S')) :
    wpS (nb [some (.obj r), o1, some (.int w), o3, some (.int num), some (.int idx), o6, o7] S) R := by
  unfold nb
  (simp_arith [true_and, h.gr, sm2, w_comesP ht hr])
  refine loop_inv (fun i e S2 => (∃ p6 p7, e = [some (.obj r), o1, some (.int w), o3, some (.int num), some (.int idx), p6, p7]) ∧ S2.nx = S.nx ∧ Fr [wt] S S2 ∧ PN S2 r wt gt ts t now count (L ++ ((gls t w num).take i).map fun g => (g.1, g.2, idx, now)) G lg)
    ⟨⟨_, _, rfl⟩, rfl, Fr.refl, by simpa using h⟩ ?_ ?_
  · rintro i z e S2 hz ⟨⟨p6, p7, rfl⟩, hn, hf, h2⟩
    have hi : i < (gls t w num).length := by
      have := (List.getElem?_eq_some_iff.mp hz).1
      simpa using this
    obtain ⟨g, hg⟩ : ∃ g, (gls t w num)[i]? = some g := ⟨_, List.getElem?_eq_getElem hi⟩
    have hm := gls_mem hr (List.mem_of_getElem? hg)
    rw [List.getElem?_map, hg] at hz
    cases hz
    obtain ⟨a, b⟩ := g
    dsimp only at hm
    obtain ⟨j, rfl⟩ := Int.eq_ofNat_of_zero_le hm.1
    have gl2 := gls_le (t := t) (w := w) (num := num)
    obtain ⟨S3, e1, f1, h3, hw⟩ := h2.wait_for (i := j) (num := b) (idx := idx) (by omega) (by
      rw [List.length_append, List.length_map, List.length_take]
      omega)
    have e2 : d2 ((j : Int), b) = .tup [.int (j : Nat), .int b] := rfl
    rw [e2]
    (simp_arith [true_and, g_tp, h2.gr, hw])
    refine ⟨⟨_, _, rfl⟩, e1.trans hn, hf.trans f1, ?_⟩
    have e3 : (gls t w num).take (i + 1) = (gls t w num).take i ++ [((j : Int), b)] := by
      rw [List.take_succ, hg]
      rfl
    rw [e3, List.map_append, ← List.append_assoc]
    exact h3
  · rintro e S2 ⟨⟨p6, p7, rfl⟩, hn, hf, h2⟩
    rw [List.length_map, List.take_length] at h2
    exact K _ _ _ hn hf h2
theorem PN.mores (h : PN S r wt gt ts t now count L G lg) (ht : t.length ≤ 100) (hr : ∀ x ∈ t, Rt ts.length x) (hd : S.get dn = some (.lst (dl.map d3))) (m1 : r ≠ dn) (m2 : wt ≠ dn) (m3 : gt ≠ dn) (l1 : r < S.nx) (l2 : wt < S.nx) (l3 : gt < S.nx) (l4 : dn < S.nx) (hL : L.length + (dl.length + 1) * t.length ≤ 15000) {o2 o3 o4 o5 o6 o7 : Option D}
    (K : ∀ S' p2 p4 p5 p6 p7, S'.nx = S.nx → Fr [wt, dn] S S' → PN S' r wt gt ts t now count (G93.mores t now L dl) G lg → R (.nx [some (.obj r), some (.obj dn), p2, o3, p4, p5, p6, p7] S')) :
    wpS (mLkSM [1] (mFor (mIt (mV 1)) (gTp 3 (gsCons (gNm 2) (gsCons (gNm 4) (gsCons (gNm 5) gsNil)))) nb) [some (.obj r), some (.obj dn), o2, o3, o4, o5, o6, o7] S) R := by
  refine lk_lst rfl hd ?_
  have f1 : Fr [dn] S (S.set dn (.ll (dl.map d3))) := Fr.set (by simp)
  have h1 := h.fr f1 l1 l2 l3 (by simp; exact m1) (by simp; exact m2) (by simp; exact m3)
  have hd1 : (S.set dn (.ll (dl.map d3))).get dn = some (.ll (dl.map d3)) := get_same
  have n1 : (S.set dn (.ll (dl.map d3))).nx = S.nx := nxS
  generalize S.set dn (.ll (dl.map d3)) = S1 at f1 h1 hd1 n1
  (simp_arith [true_and, hd1])
  refine loop_inv (fun i e S2 => (∃ p2 p4 p5 p6 p7, e = [some (.obj r), some (.obj dn), p2, o3, p4, p5, p6, p7]) ∧ S2.nx = S1.nx ∧ Fr [wt] S1 S2 ∧ PN S2 r wt gt ts t now count (G93.mores t now L (dl.take i)) G lg)
    ⟨⟨_, _, _, _, _, rfl⟩, rfl, Fr.refl, by rw [List.take_zero]; exact h1⟩ ?_ ?_
  · rintro i z e S2 hz ⟨⟨p2, p4, p5, p6, p7, rfl⟩, hn, hf, h2⟩
    have hi : i < dl.length := by
      have := (List.getElem?_eq_some_iff.mp hz).1
      simpa using this
    obtain ⟨g, hg⟩ : ∃ g, dl[i]? = some g := ⟨_, List.getElem?_eq_getElem hi⟩
    rw [List.getElem?_map, hg] at hz
    cases hz
    obtain ⟨a, b, c⟩ := g
    have e2 : d3 (a, b, c) = .tup [.int a, .int b, .int c] := rfl
    rw [e2]
    (simp_arith [true_and, g_tp])
    refine h2.nbs ht hr (Nat.le_trans ?_ hL) fun S3 q6 q7 e1 f2 h3 => ?_
    · have := mores_le (t := t) (now := now) (L := L) (ds := dl.take i)
      rw [List.length_take] at this
      have q : min i dl.length * t.length ≤ dl.length * t.length := Nat.mul_le_mul_right _ (by omega)
      rw [Nat.add_mul]
      omega
    · refine ⟨⟨_, _, _, _, _, rfl⟩, e1.trans hn, hf.trans f2, ?_⟩
      have e3 : dl.take (i + 1) = dl.take i ++ [(a, b, c)] := by
        rw [List.take_succ, hg]
        rfl
      rw [e3, mores_s]
      exact h3
  · rintro e S2 ⟨⟨p2, p4, p5, p6, p7, rfl⟩, hn, hf, h2⟩
    rw [List.length_map, List.take_length] at h2
    refine ⟨dl.map d3, hf.at hd1 (by omega) (by simp; omega), ?_⟩
    have f3 : Fr [dn] S2 (S2.set dn (.lst (dl.map d3))) := Fr.set (by simp)
    refine K _ _ _ _ _ _ (hn.trans n1) (((f1.mono (by simp)).trans (hf.mono (by simp))).trans (f3.mono (by simp))) (h2.fr f3 (by omega) (by omega) (by omega) (by simp; exact m1) (by simp; exact m2) (by simp; exact m3))
def comeF (ts : List Int) (t : List (List Int)) (now : Int) (L : List W4) (G : List (Option W4)) (lg : List L5) : List W4 × List (Option W4) × List L5 :=
  ((goesN ts now ts.length (mores t now L (endsN now ts.length (G, lg, [])).2.2, (endsN now ts.length (G, lg, [])).1)).1, (goesN ts now ts.length (mores t now L (endsN now ts.length (G, lg, [])).2.2, (endsN now ts.length (G, lg, [])).1)).2, (endsN now ts.length (G, lg, [])).2.1)
theorem PN.come (h : PN S r wt gt ts t now count L G lg) (ht : t.length ≤ 7) (hr : ∀ x ∈ t, Rt ts.length x) (l1 : r < S.nx) (l2 : wt < S.nx) (l3 : gt < S.nx) (hL : L.length ≤ 14000) (hlg : lg.length ≤ 14000)
    (K : ∀ S', S'.nx = S.nx + 1 → Fr [r, wt, gt] S S' → PN S' r wt gt ts t now count (comeF ts t now L G lg).1 (comeF ts t now L G lg).2.1 (comeF ts t now L G lg).2.2 → Q .non S') : wp (m_Net_come [.obj r]) S Q E := by
  rw [r_Net_come, b_Net_come_eq]
  unfold b_Net_come2
  have tl := h.tl
  have f0 : Fr [] S (S.add (.lst [])) := Fr.add
  have h0 := h.fr f0 l1 l2 l3 (by simp) (by simp) (by simp)
  have hd0 : (S.add (.lst [])).get S.nx = some (.lst (([] : List T3).map d3)) := get_add_same
  have n0 : (S.add (.lst [])).nx = S.nx + 1 := nxA
  (simp_arith [true_and, sm0])
  generalize S.add (.lst []) = S1 at f0 h0 hd0 n0
  (simp_arith [true_and, h0.gr, List.length_map, rngD1_nat (show ts.length < 4611686018427387904 by omega)])
  refine loop_inv (fun i e S2 => i ≤ ts.length ∧ (∃ p2 p3, e = [some (.obj r), some (.obj S.nx), p2, p3, none, none, none, none]) ∧ S2.nx = S1.nx ∧ Fr [r, gt, S.nx] S1 S2 ∧ PN S2 r wt gt ts t now count L (endsN now i (G, lg, [])).1 (endsN now i (G, lg, [])).2.1 ∧ S2.get S.nx = some (.lst ((endsN now i (G, lg, [])).2.2.map d3)))
    ⟨Nat.zero_le _, ⟨_, _, rfl⟩, rfl, Fr.refl, h0, hd0⟩ ?_ ?_
  · rintro i z e S2 hz ⟨hi', ⟨p2, p3, rfl⟩, hn, hf, h2, hd2⟩
    obtain ⟨hi, rfl⟩ := rng01 hz
    rw [y_gnm]
    dsimp only [List.set_cons_succ, List.set_cons_zero]
    have hb := endsN_b (now := now) (x := (G, lg, [])) (k := i)
    dsimp only [List.length_nil] at hb
    refine h2.end1 hd2 (by omega) (by omega) (by omega) (by omega) (by omega) hi fun S3 q3 e1 f1 h3 hd3 => ?_
    rw [endsN_s]
    exact ⟨hi, ⟨_, _, rfl⟩, e1.trans hn, hf.trans f1, h3, hd3⟩
  · rintro e S2 ⟨hi', ⟨p2, p3, rfl⟩, hn, hf, h2, hd2⟩
    rw [rngN_len] at h2 hd2
    have hb := endsN_b (now := now) (x := (G, lg, [])) (k := ts.length)
    dsimp only [List.length_nil] at hb
    (simp_arith [true_and])
    refine h2.mores (by omega) hr hd2 (by omega) (by omega) (by omega) (by omega) (by omega) (by omega) (by omega) ?_ fun S3 p2 p4 p5 p6 p7 e1 f1 h3 => ?_
    · have q : ((endsN now ts.length (G, lg, [])).2.2.length + 1) * t.length ≤ 7 * 7 := Nat.mul_le_mul (by omega) ht
      omega
    · (simp_arith [true_and, h3.gr])
      refine h3.begin ?_ fun S4 e2 f2 h4 => ?_
      · have q1 := mores_le (t := t) (now := now) (L := L) (ds := (endsN now ts.length (G, lg, [])).2.2)
        have q : (endsN now ts.length (G, lg, [])).2.2.length * t.length ≤ 5 * 7 := Nat.mul_le_mul (by omega) ht
        omega
      · refine K S4 (by omega) ?_ h4
        have fa : Fr [r, wt, gt, S.nx] S S4 := (((f0.mono (by simp)).trans (hf.mono (by simp))).trans (f1.mono (by simp))).trans (f2.mono (by simp))
        exact ⟨fa.nx, fun k hk hn => fa.ne k hk (by simp at hn ⊢; omega)⟩
end
end G93
namespace G93
open PySem L2 Mi Gu
abbrev Sg := List W4 × List (Option W4) × List L5
def unitF (ts : List Int) (t : List (List Int)) (now : Int) (σ : Sg) : Sg :=
  if 0 < (endsN now ts.length (σ.2.1, σ.2.2, [])).2.2.length then comeF ts t now σ.1 σ.2.1 σ.2.2 else (σ.1, (endsN now ts.length (σ.2.1, σ.2.2, [])).1, (endsN now ts.length (σ.2.1, σ.2.2, [])).2.1)
def st (ts : List Int) (t : List (List Int)) (now : Int) (σ : Sg) : Nat → Sg
  | 0 => σ
  | i + 1 => unitF ts t (now + ((i + 1 : Nat) : Int)) (st ts t now σ i)
section
variable {S S' S1 : MS} {Q : D → MS → Prop} {P : D → MS → Prop} {E : Exn → MS → Prop} {R : Fl → Prop} {env : En}
variable {ts : List Int} {t : List (List Int)} {now count : Int} {L L' : List W4} {G G' : List (Option W4)} {lg : List L5} {r wt gt o ow oo ol dn : Nat} {w w' num idx : Int} {m : T3} {dl : List T3} {σ : Sg}
theorem unit_le (ht : t.length ≤ 7) (hn : ts.length ≤ 5) : (unitF ts t now σ).1.length ≤ σ.1.length + 35 ∧ (unitF ts t now σ).2.2.length ≤ σ.2.2.length + 5 := by
  have hb := endsN_b (now := now) (x := (σ.2.1, σ.2.2, [])) (k := ts.length)
  dsimp only [List.length_nil] at hb
  unfold unitF
  split
  · unfold comeF
    dsimp only
    have g := goesN_le (ts := ts) (now := now) (σ := (mores t now σ.1 (endsN now ts.length (σ.2.1, σ.2.2, [])).2.2, (endsN now ts.length (σ.2.1, σ.2.2, [])).1)) (k := ts.length)
    have q1 := mores_le (t := t) (now := now) (L := σ.1) (ds := (endsN now ts.length (σ.2.1, σ.2.2, [])).2.2)
    have q : (endsN now ts.length (σ.2.1, σ.2.2, [])).2.2.length * t.length ≤ 5 * 7 := Nat.mul_le_mul (by omega) ht
    dsimp only at g
    omega
  · dsimp only
    omega
theorem st_le (ht : t.length ≤ 7) (hn : ts.length ≤ 5) : ∀ {i : Nat}, (st ts t now σ i).1.length ≤ σ.1.length + 35 * i ∧ (st ts t now σ i).2.2.length ≤ σ.2.2.length + 5 * i
  | 0 => ⟨Nat.le_refl _, Nat.le_refl _⟩
  | i + 1 => by
    have h1 := st_le ht hn (i := i)
    have h2 := unit_le ht hn (now := now + ((i + 1 : Nat) : Int)) (σ := st ts t now σ i)
    have e : st ts t now σ (i + 1) = unitF ts t (now + ((i + 1 : Nat) : Int)) (st ts t now σ i) := rfl
    rw [e]
    omega
end
end G93
namespace G93
open PySem L2 Mi Gu
def Ab (now : Int) (G : List (Option W4)) : Prop := ∀ a, some a ∈ G → now < a.1
theorem minI_mem : ∀ {l : List Int}, l ≠ [] → minI l ∈ l
  | [], h => absurd rfl h
  | [a], _ => List.mem_singleton.mpr rfl
  | a :: b :: r, _ => by
    unfold minI
    split
    · exact List.mem_cons_self
    · exact List.mem_cons_of_mem _ (minI_mem (by simp))
theorem minI_le : ∀ {l : List Int}, ∀ y ∈ l, minI l ≤ y
  | [a], y, h => by rw [List.mem_singleton.mp h]; exact Int.le_refl _
  | a :: b :: r, y, h => by
    have ih := minI_le (l := b :: r)
    unfold minI
    rcases List.mem_cons.mp h with rfl | h
    · split <;> omega
    · have := ih y h
      split <;> omega
section
variable {ts : List Int} {t : List (List Int)} {now count m : Int} {L L' : List W4} {G G' : List (Option W4)} {lg : List L5} {dl : List T3} {σ : Sg} {k : Nat}
theorem end_mem {e : Int} : e ∈ endL G ↔ ∃ a, some a ∈ G ∧ a.1 = e := by
  unfold endL
  constructor
  · intro h
    obtain ⟨x, hx, rfl⟩ := List.mem_map.mp h
    obtain ⟨h1, h2⟩ := List.mem_filter.mp hx
    cases x with
    | none => cases h2
    | some a => exact ⟨a, h1, rfl⟩
  · rintro ⟨a, ha, rfl⟩
    exact List.mem_map.mpr ⟨some a, List.mem_filter.mpr ⟨ha, rfl⟩, rfl⟩
theorem ends_at {x : List (Option W4) × List L5 × List T3} {j : Nat} : ∀ {k : Nat}, k ≤ j → (endsN m k x).1[j]? = x.1[j]?
  | 0, _ => rfl
  | k + 1, h => by
    rw [endsN_s]
    have ih := ends_at (x := x) (j := j) (k := k) (by omega)
    unfold ends1
    split
    · split
      · rw [List.getElem?_set_ne (by omega)]
        exact ih
      · exact ih
    · exact ih
theorem ends1_mem {x : List (Option W4) × List L5 × List T3} {w : Nat} {a : W4} (h : some a ∈ (ends1 m x w).1) : some a ∈ x.1 := by
  unfold ends1 at h
  split at h
  · split at h
    · dsimp only at h
      rcases List.mem_or_eq_of_mem_set h with h | h
      · exact h
      · cases h
    · exact h
  · exact h
theorem ends_mem {x : List (Option W4) × List L5 × List T3} {a : W4} : ∀ {k : Nat}, some a ∈ (endsN m k x).1 → some a ∈ x.1
  | 0, h => h
  | k + 1, h => by
    rw [endsN_s] at h
    exact ends_mem (ends1_mem h)
theorem ends_no {x : List (Option W4) × List L5 × List T3} {a : W4} : ∀ {k j : Nat}, j < k → (endsN m k x).1[j]? = some (some a) → a.1 ≠ m
  | k + 1, j, hj, h => by
    rw [endsN_s] at h
    by_cases c : j = k
    · subst c
      unfold ends1 at h
      split at h
      · rename_i b hb
        split at h
        · dsimp only at h
          have hlt := (List.getElem?_eq_some_iff.mp hb).1
          rw [List.getElem?_set_self hlt] at h
          cases h
        · rename_i q
          rw [hb] at h
          cases h
          exact q
      · rename_i q
        exact absurd h (q a)
    · have hj' : j < k := by omega
      refine ends_no (k := k) (x := x) hj' ?_
      unfold ends1 at h
      split at h
      · split at h
        · dsimp only at h
          rw [List.getElem?_set_ne (by omega)] at h
          exact h
        · exact h
      · exact h
theorem ends_mono {x : List (Option W4) × List L5 × List T3} {k : Nat} : ∀ {n : Nat}, (endsN m k x).2.2.length ≤ (endsN m (k + n) x).2.2.length
  | 0 => Nat.le_refl _
  | n + 1 => by
    have e : k + (n + 1) = (k + n) + 1 := by omega
    rw [e, endsN_s]
    refine Nat.le_trans (ends_mono (n := n)) ?_
    unfold ends1
    split
    · split
      · simp
      · exact Nat.le_refl _
    · exact Nat.le_refl _
theorem ends_some {w : Nat} {a : W4} (hw : w < k) (h : G[w]? = some (some a)) (e : a.1 = m) : 0 < (endsN m k (G, lg, [])).2.2.length := by
  have h1 : (endsN m w (G, lg, [])).1[w]? = some (some a) := (ends_at (Nat.le_refl _)).trans h
  have h2 : 0 < (endsN m (w + 1) (G, lg, [])).2.2.length := by
    rw [endsN_s]
    unfold ends1
    rw [h1]
    dsimp only
    rw [if_pos e]
    simp
  have h3 := ends_mono (m := m) (x := (G, lg, [])) (k := w + 1) (n := k - (w + 1))
  rw [show w + 1 + (k - (w + 1)) = k by omega] at h3
  omega
theorem ends_idle (h : ∀ a, some a ∈ G → a.1 ≠ m) : ∀ {k : Nat}, endsN m k (G, lg, dl) = (G, lg, dl)
  | 0 => rfl
  | k + 1 => by
    rw [endsN_s, ends_idle h]
    unfold ends1
    dsimp only
    split
    · rename_i a ha
      rw [if_neg (h a (List.mem_of_getElem? ha))]
    · rfl
theorem unit_idle (h : ∀ a, some a ∈ σ.2.1 → a.1 ≠ m) : unitF ts t m σ = σ := by
  unfold unitF
  rw [ends_idle h]
  rfl
theorem goes1_mem {x : List W4 × List (Option W4)} {w : Nat} {a : W4} (hw : w < ts.length) (h1 : ∀ x ∈ ts, (1 : Int) ≤ x) (h : some a ∈ (goes1 ts m x w).2) : some a ∈ x.2 ∨ m < a.1 := by
  unfold goes1 at h
  split at h
  · split at h
    · exact .inl h
    · dsimp only at h
      rcases List.mem_or_eq_of_mem_set h with h | h
      · exact .inl h
      · cases h
        right
        have : ts.getD w 0 ∈ ts := by
          rw [List.getD_eq_getElem?_getD, List.getElem?_eq_getElem hw]
          exact List.getElem_mem hw
        have := h1 _ this
        show m < m + ts.getD w 0
        omega
  · exact .inl h
theorem goes_mem {x : List W4 × List (Option W4)} {a : W4} (h1 : ∀ x ∈ ts, (1 : Int) ≤ x) : ∀ {k : Nat}, k ≤ ts.length → some a ∈ (goesN ts m k x).2 → some a ∈ x.2 ∨ m < a.1
  | 0, _, h => .inl h
  | k + 1, hk, h => by
    rw [goesN_s] at h
    rcases goes1_mem (by omega) h1 h with h | h
    · exact goes_mem h1 (by omega) h
    · exact .inr h
theorem come_ab (h1 : ∀ x ∈ ts, (1 : Int) ≤ x) (hl : G.length = ts.length) (h : ∀ a, some a ∈ G → m ≤ a.1) : Ab m (comeF ts t m L G lg).2.1 := by
  intro a ha
  unfold comeF at ha
  dsimp only at ha
  rcases goes_mem h1 (Nat.le_refl _) ha with ha | ha
  · dsimp only at ha
    obtain ⟨j, hj⟩ := List.mem_iff_getElem?.mp ha
    have hlt := (List.getElem?_eq_some_iff.mp hj).1
    rw [endsN_len] at hlt
    dsimp only at hlt
    have := ends_no (by omega) hj
    have := h a (ends_mem ha)
    omega
  · exact ha
theorem unit_ab (h1 : ∀ x ∈ ts, (1 : Int) ≤ x) (hl : σ.2.1.length = ts.length) (h : ∀ a, some a ∈ σ.2.1 → m ≤ a.1) : Ab m (unitF ts t m σ).2.1 := by
  unfold unitF
  split
  · exact come_ab h1 hl h
  · intro a ha
    dsimp only at ha
    obtain ⟨j, hj⟩ := List.mem_iff_getElem?.mp ha
    have hlt := (List.getElem?_eq_some_iff.mp hj).1
    rw [endsN_len] at hlt
    dsimp only at hlt
    have := ends_no (by omega) hj
    have := h a (ends_mem ha)
    omega
theorem unit_len (hl : σ.2.1.length = ts.length) : (unitF ts t m σ).2.1.length = ts.length := by
  unfold unitF
  split
  · unfold comeF
    dsimp only
    rw [goesN_len, endsN_len]
    exact hl
  · dsimp only
    rw [endsN_len]
    exact hl
theorem st_len (hl : σ.2.1.length = ts.length) : ∀ {i : Nat}, (st ts t now σ i).2.1.length = ts.length
  | 0 => hl
  | i + 1 => unit_len (st_len hl)
theorem st_ab (h1 : ∀ x ∈ ts, (1 : Int) ≤ x) (hl : σ.2.1.length = ts.length) (h : Ab now σ.2.1) : ∀ {i : Nat}, Ab (now + (i : Int)) (st ts t now σ i).2.1
  | 0 => by
    have e : now + ((0 : Nat) : Int) = now := by omega
    rw [e]
    exact h
  | i + 1 => by
    refine unit_ab h1 (st_len hl) fun a ha => ?_
    have := st_ab h1 hl h (i := i) a ha
    omega
theorem st_idle {s : Nat} : ∀ {d : Nat}, (∀ a, some a ∈ (st ts t now σ s).2.1 → now + ((s + d : Nat) : Int) < a.1) → st ts t now σ (s + d) = st ts t now σ s
  | 0, _ => rfl
  | d + 1, h => by
    have ih := st_idle (s := s) (d := d) fun a ha => by
      have := h a ha
      omega
    have e : st ts t now σ (s + (d + 1)) = unitF ts t (now + ((s + d + 1 : Nat) : Int)) (st ts t now σ (s + d)) := rfl
    rw [e, ih]
    refine unit_idle fun a ha q => ?_
    have := h a ha
    omega
end
section
variable {S S' S1 : MS} {Q : D → MS → Prop} {P : D → MS → Prop} {E : Exn → MS → Prop} {R : Fl → Prop} {env : En}
variable {ts : List Int} {t : List (List Int)} {now count : Int} {L L' : List W4} {G G' : List (Option W4)} {lg : List L5} {r wt gt o ow oo ol dn : Nat} {w w' num idx : Int} {m : T3} {dl : List T3} {σ : Sg}
theorem PN.at_time {n' : Int} (h : PN S r wt gt ts t now count L G lg) : PN (S.set r (.ins c_Net [.lst (ts.map D.int), .lst (t.map tD), .int n', .int count, .obj wt, .obj gt, .lst (lg.map d5)])) r wt gt ts t n' count L G lg :=
  { h with gr := get_same, gw := (get_ne h.n1.symm).trans h.gw, gg := (get_ne h.n2.symm).trans h.gg }
theorem PN.wait (h : PN S r wt gt ts t now count L G lg) (ht : t.length ≤ 7) (hr : ∀ x ∈ t, Rt ts.length x) (h1 : ∀ x ∈ ts, (1 : Int) ≤ x) (hab : Ab now G) (l1 : r < S.nx) (l2 : wt < S.nx) (l3 : gt < S.nx) {k : Nat} (hk : k ≤ 100) (hL : L.length + 35 * k ≤ 14000) (hlg : lg.length + 5 * k ≤ 14000)
    (K : ∀ S', S.nx ≤ S'.nx → Fr [r, wt, gt] S S' → PN S' r wt gt ts t (now + (k : Int)) count (st ts t now (L, G, lg) k).1 (st ts t now (L, G, lg) k).2.1 (st ts t now (L, G, lg) k).2.2 → Q .non S') : wp (m_Net_wait [.obj r, .int (k : Int)]) S Q E := by
  rw [r_Net_wait]
  unfold b_Net_wait
  have tl := h.tl
  have hk0 : decide ((k : Int) < 0) = false := decide_eq_false (by omega)
  (simp_arith [true_and, hk0, h.gr, h.due])
  refine while_br (fun n e S2 => ∃ s, n + s = k ∧ e = [some (.obj r), some (.int (k : Int)), some (.int (now + (k : Int))), some (dueV (st ts t now (L, G, lg) s).2.1)] ∧ S.nx ≤ S2.nx ∧ Fr [r, wt, gt] S S2 ∧ PN S2 r wt gt ts t (now + (s : Int)) count (st ts t now (L, G, lg) s).1 (st ts t now (L, G, lg) s).2.1 (st ts t now (L, G, lg) s).2.2)
    k (by show k < 1000000; omega) ⟨0, rfl, rfl, Nat.le_refl _, Fr.refl, by simpa [st] using h⟩ ?_
  rintro n e S2 ⟨s, hs, rfl, hn, hf, h2⟩
  have hab2 := st_ab (t := t) h1 (σ := (L, G, lg)) h.gl hab (i := s)
  have hfin : (∀ a, some a ∈ (st ts t now (L, G, lg) s).2.1 → now + (k : Int) < a.1) → stW (fun S3 => Q D.non S3) S2 c_Net r 2 (D.int (now + (k : Int))) (S2.get r) := fun q => by
    have e1 : st ts t now (L, G, lg) k = st ts t now (L, G, lg) s := by
      have := st_idle (ts := ts) (t := t) (now := now) (σ := (L, G, lg)) (s := s) (d := k - s) fun a ha => by
        have := q a ha
        omega
      rwa [show s + (k - s) = k by omega] at this
    rw [e1] at K
    (simp_arith [true_and, h2.gr])
    refine K _ hn ?_ (h2.at_time (n' := now + (k : Int)))
    exact hf.trans (Fr.set (by simp))
  unfold dueV
  by_cases c : 0 < (endL (st ts t now (L, G, lg) s).2.1).length
  · rw [if_pos c]
    have hne := List.length_pos_iff.mp c
    have hmem := minI_mem hne
    have hle := fun y hy => minI_le (l := endL (st ts t now (L, G, lg) s).2.1) y hy
    generalize hm : minI (endL (st ts t now (L, G, lg) s).2.1) = mm at *
    obtain ⟨a, ha, hae⟩ := end_mem.mp hmem
    have hgt := hab2 a ha
    (simp_arith [true_and])
    refine br_dec (fun c2 => ?_) (fun c2 => ?_)
    · obtain ⟨j, hj⟩ : ∃ j : Nat, mm = now + (j : Int) := ⟨(mm - now).toNat, by omega⟩
      (simp_arith [true_and, h2.gr])
      have h3 := h2.at_time (n' := mm)
      have hjs : s < j := by omega
      have hst : st ts t now (L, G, lg) j = comeF ts t mm (st ts t now (L, G, lg) s).1 (st ts t now (L, G, lg) s).2.1 (st ts t now (L, G, lg) s).2.2 := by
        have e1 : st ts t now (L, G, lg) (j - 1) = st ts t now (L, G, lg) s := by
          have := st_idle (ts := ts) (t := t) (now := now) (σ := (L, G, lg)) (s := s) (d := j - 1 - s) fun a ha => by
            have := hle _ (end_mem.mpr ⟨a, ha, rfl⟩)
            omega
          rwa [show s + (j - 1 - s) = j - 1 by omega] at this
        have e2 : st ts t now (L, G, lg) j = unitF ts t (now + (j : Int)) (st ts t now (L, G, lg) (j - 1)) := by
          obtain ⟨j', rfl⟩ : ∃ j', j = j' + 1 := ⟨j - 1, by omega⟩
          rfl
        rw [e2, e1, ← hj]
        unfold unitF
        obtain ⟨w, hw⟩ := List.mem_iff_getElem?.mp ha
        have hlt := (List.getElem?_eq_some_iff.mp hw).1
        rw [h2.gl] at hlt
        rw [if_pos (ends_some hlt hw hae)]
      have hb := st_le (t := t) ht tl (now := now) (σ := (L, G, lg)) (i := s)
      dsimp only at hb
      have f3 : Fr [r, wt, gt] S (S2.set r (.ins c_Net [.lst (ts.map D.int), .lst (t.map tD), .int mm, .int count, .obj wt, .obj gt, .lst ((st ts t now (L, G, lg) s).2.2.map d5)])) := hf.trans (Fr.set (by simp))
      have n3 : (S2.set r (.ins c_Net [.lst (ts.map D.int), .lst (t.map tD), .int mm, .int count, .obj wt, .obj gt, .lst ((st ts t now (L, G, lg) s).2.2.map d5)])).nx = S2.nx := rfl
      refine h3.come ht hr (by omega) (by omega) (by omega) (by omega) (by omega) fun S3 e1 f1 h4 => ?_
      rw [← hst] at h4
      (simp_arith [true_and, h4.gr, h4.due])
      refine ⟨k - j, by omega, j, by omega, ?_, by omega, f3.trans f1, ?_⟩
      · rw [hst]
        rfl
      · rw [← hj]
        exact h4
    · (simp_arith [true_and])
      have q := hfin fun a ha => by
        have := hle _ (end_mem.mpr ⟨a, ha, rfl⟩)
        omega
      exact q
  · rw [if_neg c]
    (simp_arith [true_and])
    have q := hfin fun a ha => absurd (List.length_pos_of_mem (end_mem.mpr ⟨a, ha, rfl⟩)) c
    exact q
end
end G93
namespace G93
open PySem L2 Mi Gu
/-- a frame at a spot: where it waits or goes, and its index -/
abbrev Tk := (Int × Int) × Int
def tk (r : W4) : Tk := ((r.1, r.2.1), r.2.2.1)
def lk (l : L5) : Tk := ((l.2.1, l.2.2.1), l.2.2.2.1)
def dk3 (d : T3) : Tk := ((d.1, d.2.1), d.2.2)
def gT : Nat → List (Option W4) → List Tk
  | _, [] => []
  | k, none :: G => gT (k + 1) G
  | k, some a :: G => (((k : Int), a.2.1), a.2.2.1) :: gT (k + 1) G
def Tok (L : List W4) (G : List (Option W4)) : List Tk := L.map tk ++ gT 0 G
def gq (t : List (List Int)) (p : Tk) : List Tk := (gls t p.1.1 p.1.2).map fun g => (g, p.2)
section
variable {ts : List Int} {t : List (List Int)} {now : Int} {L L' : List W4} {G G' : List (Option W4)} {lg : List L5} {a : W4}
theorem pm {α : Type} [BEq α] [LawfulBEq α] {a b : List α} (h : ∀ x, a.count x = b.count x) : a.Perm b := List.perm_iff_count.mpr h
theorem pc {α : Type} [BEq α] [LawfulBEq α] {a b : List α} (h : a.Perm b) (x : α) : a.count x = b.count x := List.perm_iff_count.mp h x
theorem gT_set1 : ∀ {G : List (Option W4)} {w k : Nat}, G[w]? = some none → (gT k (G.set w (some a))).Perm (((((k + w : Nat) : Int), a.2.1), a.2.2.1) :: gT k G)
  | [], w, k, h => by simp at h
  | x :: G, 0, k, h => by
    simp at h
    subst h
    exact List.Perm.refl _
  | x :: G, w + 1, k, h => by
    have ih := gT_set1 (G := G) (w := w) (k := k + 1) (by simpa using h)
    rw [show k + 1 + w = k + (w + 1) by omega] at ih
    cases x with
    | none => exact ih
    | some b => exact (ih.cons _).trans (List.Perm.swap _ _ _)
theorem gT_set0 : ∀ {G : List (Option W4)} {w k : Nat}, G[w]? = some (some a) → (gT k G).Perm (((((k + w : Nat) : Int), a.2.1), a.2.2.1) :: gT k (G.set w none))
  | [], w, k, h => by simp at h
  | x :: G, 0, k, h => by
    simp at h
    subst h
    exact List.Perm.refl _
  | x :: G, w + 1, k, h => by
    have ih := gT_set0 (G := G) (w := w) (k := k + 1) (by simpa using h)
    rw [show k + 1 + w = k + (w + 1) by omega] at ih
    cases x with
    | none => exact ih
    | some b => exact (ih.cons _).trans (List.Perm.swap _ _ _)
theorem goes1_tok {σ : List W4 × List (Option W4)} {w : Nat} : (Tok (goes1 ts now σ w).1 (goes1 ts now σ w).2).Perm (Tok σ.1 σ.2) := by
  unfold goes1
  split
  · rename_i e
    split
    · exact List.Perm.refl _
    · rename_i x xs e2
      have hm : ((w : Int), mnK i3 x xs) ∈ σ.1 := pj_mem (by
        obtain ⟨r, hr⟩ := so_head (k := i3) i3_inj (x := x) (xs := xs)
        rw [e2]
        exact so_pm.mem_iff.mp (by rw [hr]; exact List.mem_cons_self))
      dsimp only
      have p1 := (List.perm_cons_erase hm).map tk
      have p2 := gT_set1 (a := (now + ts.getD w 0, mnK i3 x xs)) (k := 0) e
      rw [List.map_cons] at p1
      rw [Nat.zero_add] at p2
      unfold Tok
      refine pm fun q => ?_
      have c1 := pc p1 q
      have c2 := pc p2 q
      rw [List.count_cons] at c1 c2
      rw [List.count_append, List.count_append]
      have e3 : tk ((w : Int), mnK i3 x xs) = (((w : Int), (mnK i3 x xs).1), (mnK i3 x xs).2.1) := rfl
      rw [e3] at c1
      dsimp only at c2
      omega
  · exact List.Perm.refl _
theorem goesN_tok {σ : List W4 × List (Option W4)} : ∀ {k : Nat}, (Tok (goesN ts now k σ).1 (goesN ts now k σ).2).Perm (Tok σ.1 σ.2)
  | 0 => List.Perm.refl _
  | k + 1 => by
    rw [goesN_s]
    exact goes1_tok.trans goesN_tok
theorem ends1_tok {x : List (Option W4) × List L5 × List T3} {w : Nat} : (gT 0 x.1 ++ x.2.2.map dk3).Perm (gT 0 (ends1 now x w).1 ++ (ends1 now x w).2.2.map dk3) ∧ ∃ e, (ends1 now x w).2.2 = x.2.2 ++ e ∧ (ends1 now x w).2.1.map lk = x.2.1.map lk ++ e.map dk3 := by
  unfold ends1
  split
  · rename_i a e
    split
    · dsimp only
      refine ⟨?_, _, rfl, ?_⟩
      · have p := gT_set0 (k := 0) e
        rw [Nat.zero_add] at p
        refine pm fun q => ?_
        have c := pc p q
        rw [List.count_cons] at c
        rw [List.map_append, List.count_append, List.count_append, List.count_append, List.map_cons, List.map_nil, List.count_cons, List.count_nil, c]
        have e3 : dk3 ((w : Int), a.2.1, a.2.2.1) = (((w : Int), a.2.1), a.2.2.1) := rfl
        rw [e3]
        omega
      · rw [List.map_append]
        rfl
    · exact ⟨List.Perm.refl _, [], by simp, by simp⟩
  · exact ⟨List.Perm.refl _, [], by simp, by simp⟩
theorem endsN_tok {x : List (Option W4) × List L5 × List T3} : ∀ {k : Nat}, (gT 0 x.1 ++ x.2.2.map dk3).Perm (gT 0 (endsN now k x).1 ++ (endsN now k x).2.2.map dk3) ∧ ∃ e, (endsN now k x).2.2 = x.2.2 ++ e ∧ (endsN now k x).2.1.map lk = x.2.1.map lk ++ e.map dk3
  | 0 => ⟨List.Perm.refl _, [], by simp [endsN], by simp [endsN]⟩
  | k + 1 => by
    obtain ⟨p1, e1, q1, q2⟩ := endsN_tok (x := x) (k := k)
    rw [endsN_s]
    obtain ⟨p2, e2, r1, r2⟩ := ends1_tok (now := now) (x := endsN now k x) (w := k)
    refine ⟨p1.trans p2, e1 ++ e2, ?_, ?_⟩
    · rw [r1, q1, List.append_assoc]
    · rw [r2, q2, List.map_append, List.append_assoc]
theorem mores_tok : ∀ {dl : List T3} {L : List W4}, (mores t now L dl).map tk = L.map tk ++ (dl.map dk3).flatMap (gq t)
  | [], L => by simp [mores]
  | d :: dl, L => by
    have e : mores t now L (d :: dl) = mores t now (more t now L d) dl := rfl
    rw [e, mores_tok]
    unfold more
    rw [List.map_append, List.map_map, List.map_cons, List.flatMap_cons, List.append_assoc]
    rfl
/-- what comes, ended frames apart -/
theorem come_tok : ∃ D K, (Tok L G).Perm (D ++ K) ∧ (Tok (comeF ts t now L G lg).1 (comeF ts t now L G lg).2.1).Perm (K ++ D.flatMap (gq t)) ∧ (comeF ts t now L G lg).2.2.map lk = lg.map lk ++ D ∧ D.length = (endsN now ts.length (G, lg, [])).2.2.length := by
  obtain ⟨p1, e, q1, q2⟩ := endsN_tok (now := now) (x := (G, lg, [])) (k := ts.length)
  dsimp only [List.nil_append, List.map_nil] at p1 q1 q2
  rw [List.map_nil, List.append_nil] at p1
  rw [← q1] at q2
  refine ⟨(endsN now ts.length (G, lg, [])).2.2.map dk3, L.map tk ++ gT 0 (endsN now ts.length (G, lg, [])).1, ?_, ?_, q2, List.length_map _⟩
  · unfold Tok
    refine pm fun q => ?_
    have c := pc p1 q
    simp only [List.count_append] at c ⊢
    omega
  · unfold comeF
    dsimp only
    refine goesN_tok.trans ?_
    dsimp only
    unfold Tok
    rw [mores_tok]
    refine pm fun q => ?_
    simp only [List.count_append]
    omega
end
end G93
namespace G93
open PySem L2 Mi Gu
/-- all spots that a frame comes to, within so many passages -/
def rc (t : List (List Int)) : Nat → (Int × Int) → List (Int × Int)
  | 0, _ => []
  | n + 1, s => s :: (gls t s.1 s.2).flatMap (rc t n)
/-- no way is as long -/
def Fn (t : List (List Int)) : Nat → (Int × Int) → Prop
  | 0, _ => False
  | n + 1, s => ∀ g ∈ gls t s.1 s.2, Fn t n g
section
variable {t : List (List Int)} {n m : Nat} {s g : Int × Int}
theorem flatMap_eq {α β : Type} {f g : α → List β} : ∀ {l : List α}, (∀ x ∈ l, f x = g x) → l.flatMap f = l.flatMap g
  | [], _ => rfl
  | a :: l, h => by
    rw [List.flatMap_cons, List.flatMap_cons, h a List.mem_cons_self, flatMap_eq fun x hx => h x (List.mem_cons_of_mem _ hx)]
theorem Fn.mono : ∀ {n : Nat} {s : Int × Int}, Fn t n s → ∀ {m : Nat}, n ≤ m → Fn t m s
  | 0, s, h, m, hm => h.elim
  | n + 1, s, h, 0, hm => absurd hm (Nat.not_succ_le_zero _)
  | n + 1, s, h, m + 1, hm => fun g hg => (h g hg).mono (Nat.le_of_succ_le_succ hm)
theorem rc_stab : ∀ {n : Nat} {s : Int × Int}, Fn t n s → ∀ {m : Nat}, n ≤ m → rc t m s = rc t n s
  | 0, s, h, m, hm => h.elim
  | n + 1, s, h, 0, hm => absurd hm (Nat.not_succ_le_zero _)
  | n + 1, s, h, m + 1, hm => by
    unfold rc
    rw [flatMap_eq fun g hg => rc_stab (h g hg) (Nat.le_of_succ_le_succ hm)]
theorem Fn.rc (h : Fn t n s) : rc t n s = s :: (gls t s.1 s.2).flatMap (rc t n) ∧ ∀ g ∈ gls t s.1 s.2, Fn t n g := by
  cases n with
  | zero => exact h.elim
  | succ n =>
    refine ⟨?_, fun g hg => (h g hg).mono (Nat.le_succ _)⟩
    show s :: (gls t s.1 s.2).flatMap (G93.rc t n) = _
    rw [flatMap_eq fun g hg => (rc_stab (h g hg) (Nat.le_succ n)).symm]
theorem Fn.self (h : Fn t n s) : s ∈ G93.rc t n s := by
  rw [h.rc.1]
  exact List.mem_cons_self
/-- spots as pairs -/
def sp2 (x : List Int) : Int × Int := (x.getD 0 0, x.getD 1 0)
theorem comes_gls {x : List Int} (ht : ∀ y ∈ t, y.length = 4) (hx : x.length = 2) : (comes t x).map sp2 = gls t (sp2 x).1 (sp2 x).2 := by
  obtain ⟨a, b, rfl⟩ := two hx
  unfold comes gls
  rw [List.map_map]
  have e : (fun x : List Int => decide (x.take 2 = [(sp2 [a, b]).1, (sp2 [a, b]).2])) = fun x => decide (x.take 2 = [a, b]) := rfl
  rw [e]
  refine List.map_congr_left fun y hy => ?_
  obtain ⟨c, d, e, f, rfl⟩ := four (ht y (List.mem_filter.mp hy).1)
  rfl
theorem sp2_inj {x y : List Int} (hx : x.length = 2) (hy : y.length = 2) (h : sp2 x = sp2 y) : x = y := by
  obtain ⟨a, b, rfl⟩ := two hx
  obtain ⟨c, d, rfl⟩ := two hy
  cases h
  rfl
/-- a way without end: each spot of it has one that follows -/
def Cy (t : List (List Int)) (c : List (List Int)) : Prop := ∀ x ∈ c, ∃ g ∈ comes t x, g ∈ c
/-- each follows the one ahead -/
def Ch (t : List (List Int)) (w : Way) : Prop := ∀ i, i + 1 < w.length → w.getD (i + 1) [] ∈ comes t (w.getD i [])
theorem Ch.snoc {w : Way} {g : List Int} (h : Ch t w) (hw : w ≠ []) (hg : g ∈ comes t (w.getLastD [])) : Ch t (w ++ [g]) := by
  intro i hi
  rw [List.length_append, List.length_singleton] at hi
  have hp := List.length_pos_iff.mpr hw
  rw [List.getD_eq_getElem?_getD, List.getD_eq_getElem?_getD, List.getElem?_append_left (show i < w.length by omega)]
  by_cases c : i + 1 < w.length
  · rw [List.getElem?_append_left c]
    have := h i c
    rwa [List.getD_eq_getElem?_getD, List.getD_eq_getElem?_getD] at this
  · have e : i + 1 = w.length := by omega
    rw [e, List.getElem?_append_right (Nat.le_refl _), Nat.sub_self]
    have e2 : w.getLastD [] = w[i]?.getD [] := by
      rw [List.getLastD_eq_getLast?, List.getLast?_eq_getElem?]
      congr 2
      omega
    rw [e2] at hg
    exact hg
theorem inner_ch {w : Way} : ∀ {gs : List (List Int)} {ws ws' : List Way} {r : Option Way}, (∀ g ∈ gs, g ∈ comes t (w.getLastD [])) → w ≠ [] → Ch t w → (∀ v ∈ ws, Ch t v) → inner w gs ws = (ws', r) → (∀ v ∈ ws', Ch t v) ∧ ∀ v, r = some v → ∃ g ∈ comes t (w.getLastD []), g ∈ w
  | [], ws, ws', r, _, _, _, h, e => by
    cases e
    exact ⟨h, fun v q => nomatch q⟩
  | a :: gs, ws, ws', r, hg, hw, hc, h, e => by
    unfold inner at e
    by_cases c : a ∈ w
    · rw [if_pos c] at e
      cases e
      exact ⟨h, fun v q => ⟨a, hg a List.mem_cons_self, c⟩⟩
    · rw [if_neg c] at e
      refine inner_ch (fun g h => hg g (List.mem_cons_of_mem _ h)) hw hc (fun v hv => ?_) e
      rcases List.mem_append.mp hv with hv | hv
      · exact h v hv
      · rw [List.mem_singleton.mp hv]
        exact hc.snoc hw (hg a List.mem_cons_self)
theorem inner_hd {w : Way} {s0 : List Int} : ∀ {gs : List (List Int)} {ws ws' : List Way} {r : Option Way}, w ≠ [] → w.getD 0 [] = s0 → (∀ v ∈ ws, v ≠ [] ∧ v.getD 0 [] = s0) → inner w gs ws = (ws', r) → ∀ v ∈ ws', v ≠ [] ∧ v.getD 0 [] = s0
  | [], ws, ws', r, _, _, h, e => by
    cases e
    exact h
  | a :: gs, ws, ws', r, hw, h0, h, e => by
    unfold inner at e
    by_cases c : a ∈ w
    · rw [if_pos c] at e
      cases e
      exact h
    · rw [if_neg c] at e
      refine inner_hd hw h0 (fun v hv => ?_) e
      rcases List.mem_append.mp hv with hv | hv
      · exact h v hv
      · rw [List.mem_singleton.mp hv]
        refine ⟨by simp, ?_⟩
        cases w with
        | nil => exact absurd rfl hw
        | cons x w => exact h0
/-- where a ring is told, a way without end begins -/
theorem out_ring {s0 : List Int} : ∀ {n k : Nat} {ws ws' : List Way} {r : Way}, (∀ v ∈ ws, Ch t v) → (∀ v ∈ ws, v ≠ [] ∧ v.getD 0 [] = s0) → out t n k ws = some (ws', some r) → ∃ c, s0 ∈ c ∧ Cy t c
  | 0, k, ws, ws', r, _, _, h => by cases h
  | n + 1, k, ws, ws', r, hc, h0, h => by
    unfold out at h
    cases e : ws[k]? with
    | none =>
      rw [e] at h
      cases h
    | some w =>
      rw [e] at h
      dsimp only at h
      have hw := List.mem_of_getElem? e
      cases e2 : inner w (comes t (w.getLastD [])) ws with
      | mk ws2 r2 =>
        have h2 := inner_ch (fun g hg => hg) (h0 w hw).1 (hc w hw) hc e2
        have h3 := inner_hd (s0 := s0) (h0 w hw).1 (h0 w hw).2 h0 e2
        rw [e2] at h
        cases r2 with
        | none => exact out_ring h2.1 h3 h
        | some r2 =>
          obtain ⟨g, hg, hgw⟩ := h2.2 r2 rfl
          refine ⟨w, ?_, fun x hx => ?_⟩
          · rw [← (h0 w hw).2]
            cases w with
            | nil => exact absurd rfl (h0 [] hw).1
            | cons x w => exact List.mem_cons_self
          · obtain ⟨i, hi, rfl⟩ := List.mem_iff_getElem.mp hx
            by_cases c : i + 1 < w.length
            · refine ⟨w[i + 1], ?_, List.getElem_mem c⟩
              have := hc w hw i c
              rwa [List.getD_eq_getElem?_getD, List.getD_eq_getElem?_getD, List.getElem?_eq_getElem c, List.getElem?_eq_getElem hi] at this
            · refine ⟨g, ?_, hgw⟩
              have e3 : w.getLastD [] = w[i] := by
                rw [List.getLastD_eq_getLast?, List.getLast?_eq_getElem?, show w.length - 1 = i by omega, List.getElem?_eq_getElem hi]
                rfl
              rwa [e3] at hg
end
end G93
namespace G93
open PySem L2 Mi Gu
section
variable {N n m k : Nat} {d : D} {t : List (List Int)} {s g : List Int} {w : Way} {ws : List Way} {res : List Way × Option Way}
/-- all that come are there -/
def CloW (t : List (List Int)) (ws : List Way) (w : Way) : Prop := ∀ g ∈ comes t (w.getLastD []), g ∉ w ∧ w ++ [g] ∈ ws
theorem inner_mem : ∀ {gs : List (List Int)} {ws ws' : List Way} {r : Option Way}, inner w gs ws = (ws', r) → ∀ v ∈ ws, v ∈ ws'
  | [], ws, ws', r, h, v, hv => by
    cases h
    exact hv
  | a :: gs, ws, ws', r, h, v, hv => by
    unfold inner at h
    by_cases c : a ∈ w
    · rw [if_pos c] at h
      cases h
      exact hv
    · rw [if_neg c] at h
      exact inner_mem h v (List.mem_append_left _ hv)
theorem inner_cl : ∀ {gs : List (List Int)} {ws ws' : List Way}, inner w gs ws = (ws', none) → ∀ g ∈ gs, g ∉ w ∧ w ++ [g] ∈ ws'
  | [], ws, ws', h, g, hg => by cases hg
  | a :: gs, ws, ws', h, g, hg => by
    unfold inner at h
    by_cases c : a ∈ w
    · rw [if_pos c] at h
      cases h
    · rw [if_neg c] at h
      rcases List.mem_cons.mp hg with rfl | hg
      · exact ⟨c, inner_mem h _ (List.mem_append_right _ (List.mem_singleton.mpr rfl))⟩
      · exact inner_cl h g hg
theorem inner_pre : ∀ {gs : List (List Int)} {ws ws' : List Way} {r : Option Way}, inner w gs ws = (ws', r) → ∃ l, ws' = ws ++ l
  | [], ws, ws', r, h => by
    cases h
    exact ⟨[], by simp⟩
  | a :: gs, ws, ws', r, h => by
    unfold inner at h
    by_cases c : a ∈ w
    · rw [if_pos c] at h
      cases h
      exact ⟨[], by simp⟩
    · rw [if_neg c] at h
      obtain ⟨l, e⟩ := inner_pre h
      exact ⟨(w ++ [a]) :: l, by rw [e]; simp⟩
theorem out_cl : ∀ {n k : Nat} {ws ws' : List Way}, out t n k ws = some (ws', none) → (∃ l, ws' = ws ++ l) ∧ ∀ j v, k ≤ j → ws'[j]? = some v → CloW t ws' v
  | 0, k, ws, ws', h => by cases h
  | n + 1, k, ws, ws', h => by
    unfold out at h
    cases e : ws[k]? with
    | none =>
      rw [e] at h
      cases h
      refine ⟨⟨[], by simp⟩, fun j v hj hv => ?_⟩
      have := List.getElem?_eq_none_iff.mp e
      have := (List.getElem?_eq_some_iff.mp hv).1
      omega
    | some w =>
      rw [e] at h
      dsimp only at h
      cases e2 : inner w (comes t (w.getLastD [])) ws with
      | mk ws2 r =>
        rw [e2] at h
        cases r with
        | some r => cases h
        | none =>
          dsimp only at h
          obtain ⟨⟨l, hl⟩, hc⟩ := out_cl h
          obtain ⟨l2, hl2⟩ := inner_pre e2
          refine ⟨⟨l2 ++ l, by rw [hl, hl2, List.append_assoc]⟩, fun j v hj hv => ?_⟩
          by_cases c : j = k
          · subst c
            have hlt := (List.getElem?_eq_some_iff.mp e).1
            have : v = w := by
              rw [hl, hl2, List.append_assoc, List.getElem?_append_left hlt, e] at hv
              cases hv
              rfl
            subst this
            intro g hg
            have := inner_cl e2 g hg
            exact ⟨this.1, by rw [hl]; exact List.mem_append_left _ this.2⟩
          · exact hc j v (by omega) hv
/-- every way is among them, if none comes back -/
theorem dbl_nodup (h : dbl ws = none) : (ws.map wr).Nodup := by
  have hk : ∀ k, k < ws.length → dblK ws k = none := fun k hk => by
    have := List.findSome?_eq_none_iff.mp h
    exact this k (List.mem_range.mpr hk)
  rw [List.Nodup, List.pairwise_iff_getElem]
  intro i j hi hj hij e
  rw [List.length_map] at hi hj
  rw [List.getElem_map, List.getElem_map] at e
  have := hk j hj
  unfold dblK at this
  rw [Option.map_eq_none_iff, List.find?_eq_none] at this
  refine this ws[i] ?_ (decide_eq_true ?_)
  · exact List.mem_take_iff_getElem.mpr ⟨i, by omega, rfl⟩
  · rw [List.getD_eq_getElem?_getD, List.getElem?_eq_getElem hj]
    exact e
def ls2 (w : Way) : Int × Int := sp2 (w.getLastD [])
theorem last_snoc {w : Way} {g : List Int} : (w ++ [g]).getLastD [] = g := by
  rw [List.getLastD_eq_getLast?, List.getLast?_append]
  rfl
theorem fn_in (ht : ∀ x ∈ t, x.length = 4) (hg : Gd ws) (hc : ∀ v ∈ ws, CloW t ws v) : ∀ {m : Nat} {v : Way}, v ∈ ws → ws.length + 1 ≤ v.length + m → Fn t m (ls2 v)
  | 0, v, hv, h => absurd (hg.le v hv) (by omega)
  | m + 1, v, hv, h => by
    intro g hg2
    unfold ls2 at hg2
    rw [← comes_gls ht (hg.l2 v hv _ (last_mem (hg.ne v hv)))] at hg2
    obtain ⟨x, hx, rfl⟩ := List.mem_map.mp hg2
    have := fn_in ht hg hc (m := m) (hc v hv x hx).2 (by rw [List.length_append, List.length_singleton]; omega)
    unfold ls2 at this
    rwa [last_snoc] at this
theorem out_rc (ht : ∀ x ∈ t, x.length = 4) : ∀ {n k : Nat} {ws ws' : List Way}, (∀ v ∈ ws, v ≠ [] ∧ ∀ x ∈ v, x.length = 2) → (∀ v ∈ ws.drop k, Fn t N (ls2 v)) → out t n k ws = some (ws', none) → (ws'.map ls2).Perm ((ws.take k).map ls2 ++ (ws.drop k).flatMap fun v => rc t N (ls2 v))
  | 0, k, ws, ws', _, _, h => by cases h
  | n + 1, k, ws, ws', h2, hf, h => by
    unfold out at h
    cases e : ws[k]? with
    | none =>
      rw [e] at h
      cases h
      have := List.getElem?_eq_none_iff.mp e
      rw [List.take_of_length_le this, List.drop_of_length_le this]
      simp
    | some w =>
      rw [e] at h
      dsimp only at h
      have hw := List.mem_of_getElem? e
      have hlt := (List.getElem?_eq_some_iff.mp e).1
      have hk : ws[k] = w := (List.getElem?_eq_some_iff.mp e).2
      have ed : ws.drop k = w :: ws.drop (k + 1) := by rw [List.drop_eq_getElem_cons hlt, hk]
      have et : ws.take (k + 1) = ws.take k ++ [w] := by rw [List.take_succ_eq_append_getElem hlt, hk]
      have l2 : (w.getLastD []).length = 2 := (h2 w hw).2 _ (last_mem (h2 w hw).1)
      have fw : Fn t N (ls2 w) := hf w (by rw [ed]; exact List.mem_cons_self)
      cases e2 : inner w (comes t (w.getLastD [])) ws with
      | mk ws2 r2 =>
        rw [e2] at h
        cases r2 with
        | some r2 => cases h
        | none =>
          dsimp only at h
          have hall := fun g hg => (inner_cl e2 g hg).1
          rw [inner_none hall] at e2
          have e3 : ws2 = ws ++ (comes t (w.getLastD [])).map fun g => w ++ [g] := by
            injection e2 with q
            exact q.symm
          have egs : ((comes t (w.getLastD [])).map fun g => w ++ [g]).map ls2 = gls t (ls2 w).1 (ls2 w).2 := by
            rw [List.map_map]
            unfold ls2
            rw [← comes_gls ht l2]
            refine List.map_congr_left fun g _ => ?_
            show sp2 ((w ++ [g]).getLastD []) = sp2 g
            rw [last_snoc]
          have dr : ws2.drop (k + 1) = ws.drop (k + 1) ++ (comes t (w.getLastD [])).map fun g => w ++ [g] := by rw [e3, List.drop_append_of_le_length (by omega)]
          have tr : ws2.take (k + 1) = ws.take k ++ [w] := by rw [e3, List.take_append_of_le_length (by omega), et]
          have ih := out_rc ht (n := n) (k := k + 1) (ws := ws2) (ws' := ws') (fun v hv => by
            rw [e3] at hv
            rcases List.mem_append.mp hv with hv | hv
            · exact h2 v hv
            · obtain ⟨g, hg, rfl⟩ := List.mem_map.mp hv
              refine ⟨by simp, fun x hx => ?_⟩
              rcases List.mem_append.mp hx with hx | hx
              · exact (h2 w hw).2 x hx
              · rw [List.mem_singleton.mp hx]
                exact comes2 ht hg) (fun v hv => by
            rw [dr] at hv
            rcases List.mem_append.mp hv with hv | hv
            · exact hf v (by rw [ed]; exact List.mem_cons_of_mem _ hv)
            · have : ls2 v ∈ ((comes t (w.getLastD [])).map fun g => w ++ [g]).map ls2 := List.mem_map_of_mem hv
              rw [egs] at this
              exact fw.rc.2 _ this) h
          refine ih.trans ?_
          rw [dr, tr, ed, List.flatMap_cons, fw.rc.1, List.map_append, List.flatMap_append]
          have ef : (((comes t (w.getLastD [])).map fun g => w ++ [g]).flatMap fun v => rc t N (ls2 v)) = (gls t (ls2 w).1 (ls2 w).2).flatMap (rc t N) := by
            rw [← egs]
            exact (List.flatMap_map ..).symm
          rw [ef]
          refine pm fun q => ?_
          simp only [List.count_append, List.map_cons, List.map_nil, List.count_cons, List.count_nil]
          omega
/-- what a tree tells -/
theorem tree_rc (ht : ∀ x ∈ t, x.length = 4) (hs : s.length = 2) (hg : Gd ws) (ho : out t n 0 [[s]] = some (ws, none)) (hl : ws.length ≤ N) : Fn t N (sp2 s) ∧ (ws.map ls2).Perm (rc t N (sp2 s)) := by
  obtain ⟨⟨l, hl2⟩, hc⟩ := out_cl ho
  have hc' : ∀ v ∈ ws, CloW t ws v := fun v hv => by
    obtain ⟨j, hj⟩ := List.mem_iff_getElem?.mp hv
    exact hc j v (Nat.zero_le _) hj
  have h0 : [s] ∈ ws := by rw [hl2]; exact List.mem_append_left _ List.mem_cons_self
  have hf : Fn t ws.length (ls2 [s]) := fn_in ht hg hc' h0 (by simp; omega)
  have hf' : Fn t N (sp2 s) := hf.mono hl
  refine ⟨hf', ?_⟩
  have := out_rc (N := N) ht (n := n) (k := 0) (ws := [[s]]) (ws' := ws) (by simpa using hs) (fun v hv => by
    have e : v = [s] := by simpa using hv
    rw [e]
    exact hf') ho
  refine this.trans ?_
  simp
  exact List.Perm.refl _
theorem nodup_int : ∀ {n : Nat} {l : List Int}, l.Nodup → (∀ x ∈ l, 0 ≤ x ∧ x < (n : Int)) → l.length ≤ n
  | 0, l, _, h => by
    cases l with
    | nil => exact Nat.le_refl _
    | cons a l => have := h a List.mem_cons_self; omega
  | n + 1, l, hn, h => by
    have := nodup_int (n := n) (l := l.erase (n : Int)) (hn.erase _) (fun x hx => by
      have h1 := h x (List.mem_of_mem_erase hx)
      have h2 := (hn.mem_erase_iff.mp hx).1
      omega)
    have := List.length_erase (a := (n : Int)) (l := l)
    split at this <;> omega
end
end G93
namespace G93
open PySem L2 Mi Gu
/-- at least so far apart -/
def gap (d : Int) (l : List Int) : Prop := ∀ i, i + 1 < l.length → l.getD i 0 + d ≤ l.getD (i + 1) 0
def ew (w : Nat) (lg : List L5) : List Int := (lg.filter fun l => decide (l.2.1 = (w : Int))).map (·.1)
structure TJ (ts : List Int) (now : Int) (L : List W4) (G : List (Option W4)) (lg : List L5) : Prop where
  gl : G.length = ts.length
  up : ∀ (w : Nat) (a : W4), G[w]? = some (some a) → a.1 ≤ now + 9 ∧ a.2.2.2 + ts.getD w 0 ≤ a.1 ∧ ∀ l ∈ lg, l.2.1 = (w : Int) → l.1 + ts.getD w 0 ≤ a.1
  wr : ∀ r ∈ L, 0 ≤ r.1 ∧ r.1 < (ts.length : Int)
  sl : ∀ r ∈ L, r.2.2.2 ≤ now
  le : ∀ l ∈ lg, l.1 ≤ now
  lw : ∀ w : Nat, w < ts.length → ∀ l ∈ lg, l.2.1 = (w : Int) → ts.getD w 0 ≤ l.2.2.2.2
  gp : ∀ w : Nat, w < ts.length → gap (ts.getD w 0) (ew w lg)
section
variable {ts : List Int} {t : List (List Int)} {now m : Int} {L L' : List W4} {G G' : List (Option W4)} {lg : List L5} {a : W4} {σ : List W4 × List (Option W4)}
theorem gap.snoc {d x : Int} {l : List Int} (h : gap d l) (hx : ∀ y ∈ l, y + d ≤ x) : gap d (l ++ [x]) := by
  intro i hi
  rw [List.length_append, List.length_singleton] at hi
  rw [List.getD_eq_getElem?_getD, List.getD_eq_getElem?_getD, List.getElem?_append_left (show i < l.length by omega)]
  by_cases c : i + 1 < l.length
  · rw [List.getElem?_append_left c]
    have := h i c
    rwa [List.getD_eq_getElem?_getD, List.getD_eq_getElem?_getD] at this
  · have e : i + 1 = l.length := by omega
    rw [e, List.getElem?_append_right (Nat.le_refl _), Nat.sub_self]
    have := hx l[i] (List.getElem_mem _)
    rw [List.getElem?_eq_getElem (show i < l.length by omega)]
    exact this
theorem TJ.time (h : TJ ts now L G lg) (hm : now ≤ m) : TJ ts m L G lg :=
  { h with up := fun w a e => ⟨by have := (h.up w a e).1; omega, (h.up w a e).2⟩, sl := fun r hr => by have := h.sl r hr; omega, le := fun l hl => by have := h.le l hl; omega }
theorem TJ.ends1 {dl : List T3} {w : Nat} (h : TJ ts m L G lg) (hw : w < ts.length) : TJ ts m L (ends1 m (G, lg, dl) w).1 (ends1 m (G, lg, dl) w).2.1 := by
  unfold G93.ends1
  split
  · rename_i a e
    dsimp only at e
    split
    · rename_i ha
      dsimp only
      have hu := h.up w a e
      refine ⟨by rw [List.length_set]; exact h.gl, fun w' a' e' => ?_, h.wr, h.sl, fun l hl => ?_, fun w' hw' l hl e' => ?_, fun w' hw' => ?_⟩
      · have hne : w ≠ w' := fun q => by
          subst q
          rw [List.getElem?_set_self (by rw [h.gl]; exact hw)] at e'
          cases e'
        rw [List.getElem?_set_ne hne] at e'
        have hu' := h.up w' a' e'
        refine ⟨hu'.1, hu'.2.1, fun l hl q => ?_⟩
        rcases List.mem_append.mp hl with hl | hl
        · exact hu'.2.2 l hl q
        · rw [List.mem_singleton.mp hl] at q
          dsimp only at q
          omega
      · rcases List.mem_append.mp hl with hl | hl
        · exact h.le l hl
        · rw [List.mem_singleton.mp hl]
          exact Int.le_refl _
      · rcases List.mem_append.mp hl with hl | hl
        · exact h.lw w' hw' l hl e'
        · rw [List.mem_singleton.mp hl] at e' ⊢
          dsimp only at e' ⊢
          have : w = w' := by omega
          subst this
          omega
      · unfold ew
        rw [List.filter_append, List.map_append]
        by_cases c : (w : Int) = (w' : Int)
        · have : w = w' := by omega
          subst this
          have e2 : ([((m : Int), (w : Int), a.2.1, a.2.2.1, m - a.2.2.2)] : List L5).filter (fun l => decide (l.2.1 = (w : Int))) = [(m, (w : Int), a.2.1, a.2.2.1, m - a.2.2.2)] := by
            rw [List.filter_cons_of_pos (by simp)]
            rfl
          rw [e2]
          refine (h.gp w hw).snoc fun y hy => ?_
          obtain ⟨l, hl, rfl⟩ := List.mem_map.mp hy
          have hl := List.mem_filter.mp hl
          have := hu.2.2 l hl.1 (of_decide_eq_true hl.2)
          show l.1 + ts.getD w 0 ≤ m
          omega
        · have e2 : ([((m : Int), (w : Int), a.2.1, a.2.2.1, m - a.2.2.2)] : List L5).filter (fun l => decide (l.2.1 = (w' : Int))) = [] := by
            rw [List.filter_cons_of_neg (by simpa using c)]
            rfl
          rw [e2, List.map_nil, List.append_nil]
          exact h.gp w' hw'
    · exact h
  · exact h
theorem TJ.endsN {dl : List T3} (h : TJ ts m L G lg) : ∀ {k : Nat}, k ≤ ts.length → TJ ts m L (endsN m k (G, lg, dl)).1 (endsN m k (G, lg, dl)).2.1
  | 0, _ => h
  | k + 1, hk => by
    rw [endsN_s]
    have ih := h.endsN (dl := dl) (k := k) (by omega)
    generalize G93.endsN m k (G, lg, dl) = x at ih
    obtain ⟨x1, x2, x3⟩ := x
    exact ih.ends1 (by omega)
theorem mores_mem {r : W4} : ∀ {dl : List T3} {L : List W4}, r ∈ mores t now L dl → r ∈ L ∨ ∃ d ∈ dl, ∃ g ∈ gls t d.1 d.2.1, r = (g.1, g.2, d.2.2, now)
  | [], L, h => .inl h
  | d :: dl, L, h => by
    have e : mores t now L (d :: dl) = mores t now (more t now L d) dl := rfl
    rw [e] at h
    rcases mores_mem h with h | ⟨d', hd, g, hg, q⟩
    · unfold more at h
      rcases List.mem_append.mp h with h | h
      · exact .inl h
      · obtain ⟨g, hg, q⟩ := List.mem_map.mp h
        exact .inr ⟨d, List.mem_cons_self, g, hg, q.symm⟩
    · exact .inr ⟨d', List.mem_cons_of_mem _ hd, g, hg, q⟩
theorem TJ.mores {dl : List T3} (h : TJ ts m L G lg) (hr : ∀ x ∈ t, Rt ts.length x) : TJ ts m (mores t m L dl) G lg :=
  { h with
    wr := fun r hr' => by
      rcases mores_mem hr' with hr' | ⟨d, hd, g, hg, rfl⟩
      · exact h.wr r hr'
      · have := gls_mem hr hg
        exact ⟨this.1, this.2.1⟩
    sl := fun r hr' => by
      rcases mores_mem hr' with hr' | ⟨d, hd, g, hg, rfl⟩
      · exact h.sl r hr'
      · exact Int.le_refl _ }
theorem TJ.goes1 {w : Nat} (h : TJ ts m L G lg) (hw : w < ts.length) (h9 : ∀ x ∈ ts, (1 : Int) ≤ x ∧ x ≤ 9) : TJ ts m (goes1 ts m (L, G) w).1 (goes1 ts m (L, G) w).2 lg := by
  unfold G93.goes1
  split
  · rename_i e
    split
    · exact h
    · rename_i x xs e2
      dsimp only at e e2 ⊢
      have hm : ((w : Int), mnK i3 x xs) ∈ L := pj_mem (by
        obtain ⟨r, hr⟩ := so_head (k := i3) i3_inj (x := x) (xs := xs)
        rw [e2]
        exact so_pm.mem_iff.mp (by rw [hr]; exact List.mem_cons_self))
      refine { h with gl := by rw [List.length_set]; exact h.gl, up := fun w' a e' => ?_, wr := fun r hr => h.wr r (List.mem_of_mem_erase hr), sl := fun r hr => h.sl r (List.mem_of_mem_erase hr) }
      by_cases c : w = w'
      · subst c
        rw [List.getElem?_set_self (by rw [h.gl]; exact hw)] at e'
        cases e'
        have hs := h.sl _ hm
        have h9' := h9 (ts.getD w 0) (by rw [List.getD_eq_getElem?_getD, List.getElem?_eq_getElem hw]; exact List.getElem_mem hw)
        refine ⟨by dsimp only; omega, ?_, fun l hl _ => ?_⟩
        · dsimp only at hs ⊢
          omega
        · have := h.le l hl
          dsimp only
          omega
      · rw [List.getElem?_set_ne c] at e'
        exact h.up w' a e'
  · exact h
theorem TJ.goesN (h : TJ ts m L G lg) (h9 : ∀ x ∈ ts, (1 : Int) ≤ x ∧ x ≤ 9) : ∀ {k : Nat}, k ≤ ts.length → TJ ts m (goesN ts m k (L, G)).1 (goesN ts m k (L, G)).2 lg
  | 0, _ => h
  | k + 1, hk => by
    rw [goesN_s]
    have ih := h.goesN h9 (k := k) (by omega)
    generalize G93.goesN ts m k (L, G) = x at ih
    obtain ⟨x1, x2⟩ := x
    exact ih.goes1 (by omega) h9
/-- what waits on a wire, waits for one that goes there -/
theorem goesN_bi (hl : σ.2.length = ts.length) : ∀ {k : Nat}, k ≤ ts.length → ∀ w : Nat, w < k → (goesN ts m k σ).2[w]? = some none → pj (goesN ts m k σ).1 w = []
  | 0, _, w, hw, _ => absurd hw (Nat.not_lt_zero _)
  | k + 1, hk, w, hw, e => by
    rw [goesN_s] at e ⊢
    have ih : ∀ w : Nat, w < k → (goesN ts m k σ).2[w]? = some none → pj (goesN ts m k σ).1 w = [] := goesN_bi hl (by omega)
    have hl2 := goesN_len (ts := ts) (now := m) (σ := σ) (k := k)
    generalize G93.goesN ts m k σ = x at ih e hl2
    unfold G93.goes1 at e ⊢
    split at e
    · rename_i e1
      split at e
      · rename_i e2
        by_cases c : w = k
        · subst c
          exact e2
        · exact ih w (by omega) e
      · rename_i y ys e2
        dsimp only at e ⊢
        have hne : k ≠ w := fun q => by
          subst q
          rw [List.getElem?_set_self (by omega)] at e
          cases e
        rw [List.getElem?_set_ne hne] at e
        have hp := ih w (by omega) e
        have hm : ((k : Int), mnK i3 y ys) ∈ x.1 := pj_mem (by
          obtain ⟨r, hr⟩ := so_head (k := i3) i3_inj (x := y) (xs := ys)
          rw [e2]
          exact so_pm.mem_iff.mp (by rw [hr]; exact List.mem_cons_self))
        have p := pj_erase (w' := (w : Int)) hm
        rw [if_neg (by omega), hp] at p
        exact List.nil_perm.mp p
    · rename_i e1
      by_cases c : w = k
      · subst c
        exact absurd e e1
      · exact ih w (by omega) e
end
end G93
namespace G93
open PySem L2 Mi Gu
structure TI (ts : List Int) (now : Int) (L : List W4) (G : List (Option W4)) (lg : List L5) : Prop extends TJ ts now L G lg where
  ab : Ab now G
  bi : ∀ w : Nat, w < ts.length → G[w]? = some none → pj L w = []
def rR (t : List (List Int)) (N : Nat) (p : Tk) : List Tk := (rc t N p.1).map fun s => (s, p.2)
structure XI (t : List (List Int)) (N : Nat) (P : List Tk) (L : List W4) (G : List (Option W4)) (lg : List L5) : Prop where
  px : (lg.map lk ++ (Tok L G).flatMap (rR t N)).Perm P
  tf : ∀ p ∈ Tok L G, Fn t N p.1
/-- a token on a way without end -/
def RI (C : List (Int × Int)) (L : List W4) (G : List (Option W4)) : Prop := ∃ p ∈ Tok L G, p.1 ∈ C
section
variable {ts : List Int} {t : List (List Int)} {now m : Int} {L L' : List W4} {G G' : List (Option W4)} {lg : List L5} {a : W4} {N : Nat} {P : List Tk} {C : List (Int × Int)}
theorem TI.come (h : TI ts now L G lg) (hr : ∀ x ∈ t, Rt ts.length x) (h9 : ∀ x ∈ ts, (1 : Int) ≤ x ∧ x ≤ 9) (hm : now ≤ m) (ha : ∀ a, some a ∈ G → m ≤ a.1) : TI ts m (comeF ts t m L G lg).1 (comeF ts t m L G lg).2.1 (comeF ts t m L G lg).2.2 := by
  have h1 : TJ ts m (comeF ts t m L G lg).1 (comeF ts t m L G lg).2.1 (comeF ts t m L G lg).2.2 := by
    unfold comeF
    dsimp only
    exact (((h.toTJ.time hm).endsN (dl := []) (Nat.le_refl _)).mores hr).goesN h9 (Nat.le_refl _)
  refine { h1 with ab := come_ab (fun x hx => (h9 x hx).1) h.gl ha, bi := fun w hw e => ?_ }
  unfold comeF at e ⊢
  dsimp only at e ⊢
  exact goesN_bi (by rw [endsN_len]; exact h.gl) (Nat.le_refl _) w hw e
theorem TI.time (h : TI ts now L G lg) (hm : now ≤ m) (ha : ∀ a, some a ∈ G → m < a.1) : TI ts m L G lg := { h.toTJ.time hm with ab := ha, bi := h.bi }
theorem ends0 (hl : G.length = ts.length) (hd : ¬0 < (endsN m ts.length (G, lg, [])).2.2.length) : ∀ a, some a ∈ G → a.1 ≠ m := fun a ha e => by
  obtain ⟨w, hw⟩ := List.mem_iff_getElem?.mp ha
  have hlt := (List.getElem?_eq_some_iff.mp hw).1
  exact hd (ends_some (by omega) hw e)
theorem TI.unit (h : TI ts now L G lg) (hr : ∀ x ∈ t, Rt ts.length x) (h9 : ∀ x ∈ ts, (1 : Int) ≤ x ∧ x ≤ 9) : TI ts (now + 1) (unitF ts t (now + 1) (L, G, lg)).1 (unitF ts t (now + 1) (L, G, lg)).2.1 (unitF ts t (now + 1) (L, G, lg)).2.2 := by
  by_cases c : 0 < (endsN (now + 1) ts.length (G, lg, [])).2.2.length
  · have e : unitF ts t (now + 1) (L, G, lg) = comeF ts t (now + 1) L G lg := by
      unfold unitF
      dsimp only
      rw [if_pos c]
    rw [e]
    exact h.come hr h9 (by omega) fun a ha => by have := h.ab a ha; omega
  · have hn := ends0 h.gl c
    rw [unit_idle hn]
    exact h.time (by omega) fun a ha => by have := h.ab a ha; have := hn a ha; omega
theorem rR_eq {p : Tk} (h : Fn t N p.1) : rR t N p = p :: (gq t p).flatMap (rR t N) := by
  unfold rR gq
  rw [h.rc.1, List.map_cons, List.map_flatMap, List.flatMap_map]
theorem rR_all : ∀ {D : List Tk}, (∀ p ∈ D, Fn t N p.1) → (D.flatMap (rR t N)).Perm (D ++ (D.flatMap (gq t)).flatMap (rR t N))
  | [], _ => List.Perm.refl _
  | p :: D, h => by
    have ih := rR_all fun q hq => h q (List.mem_cons_of_mem _ hq)
    rw [List.flatMap_cons, List.flatMap_cons, List.flatMap_append, rR_eq (h p List.mem_cons_self)]
    refine pm fun q => ?_
    have c := pc ih q
    simp only [List.count_append, List.cons_append, List.count_cons] at c ⊢
    omega
theorem XI.come (h : XI t N P L G lg) : XI t N P (comeF ts t m L G lg).1 (comeF ts t m L G lg).2.1 (comeF ts t m L G lg).2.2 := by
  obtain ⟨D, K, p1, p2, e, _⟩ := come_tok (ts := ts) (t := t) (now := m) (L := L) (G := G) (lg := lg)
  have hD : ∀ p ∈ D, Fn t N p.1 := fun p hp => h.tf p (p1.mem_iff.mpr (List.mem_append_left _ hp))
  refine ⟨List.Perm.trans ?_ h.px, fun p hp => ?_⟩
  · rw [e]
    have q1 := p1.flatMap_right (rR t N)
    have q2 := p2.flatMap_right (rR t N)
    have q3 := rR_all hD
    rw [List.flatMap_append] at q1 q2
    refine pm fun q => ?_
    have c1 := pc q1 q
    have c2 := pc q2 q
    have c3 := pc q3 q
    simp only [List.count_append] at c1 c2 c3 ⊢
    omega
  · rcases List.mem_append.mp (p2.mem_iff.mp hp) with hp | hp
    · exact h.tf p (p1.mem_iff.mpr (List.mem_append_right _ hp))
    · obtain ⟨q, hq, hp⟩ := List.mem_flatMap.mp hp
      obtain ⟨g, hg, rfl⟩ := List.mem_map.mp hp
      exact (hD q hq).rc.2 g hg
theorem XI.unit (h : XI t N P L G lg) (hl : G.length = ts.length) : XI t N P (unitF ts t m (L, G, lg)).1 (unitF ts t m (L, G, lg)).2.1 (unitF ts t m (L, G, lg)).2.2 := by
  by_cases c : 0 < (endsN m ts.length (G, lg, [])).2.2.length
  · have e : unitF ts t m (L, G, lg) = comeF ts t m L G lg := by
      unfold unitF
      dsimp only
      rw [if_pos c]
    rw [e]
    exact h.come
  · rw [unit_idle (ends0 hl c)]
    exact h
theorem RI.come (h : RI C L G) (hC : ∀ x ∈ C, ∃ g ∈ gls t x.1 x.2, g ∈ C) : RI C (comeF ts t m L G lg).1 (comeF ts t m L G lg).2.1 := by
  obtain ⟨D, K, p1, p2, e, _⟩ := come_tok (ts := ts) (t := t) (now := m) (L := L) (G := G) (lg := lg)
  obtain ⟨p, hp, hc⟩ := h
  rcases List.mem_append.mp (p1.mem_iff.mp hp) with hp | hp
  · obtain ⟨g, hg, hgc⟩ := hC _ hc
    exact ⟨(g, p.2), p2.mem_iff.mpr (List.mem_append_right _ (List.mem_flatMap.mpr ⟨p, hp, List.mem_map.mpr ⟨g, hg, rfl⟩⟩)), hgc⟩
  · exact ⟨p, p2.mem_iff.mpr (List.mem_append_left _ hp), hc⟩
/-- so many units on, all of these hold -/
theorem st_inv (h : TI ts now L G lg) (hr : ∀ x ∈ t, Rt ts.length x) (h9 : ∀ x ∈ ts, (1 : Int) ≤ x ∧ x ≤ 9) (hx : XI t N P L G lg) : ∀ {i : Nat}, TI ts (now + (i : Int)) (st ts t now (L, G, lg) i).1 (st ts t now (L, G, lg) i).2.1 (st ts t now (L, G, lg) i).2.2 ∧ XI t N P (st ts t now (L, G, lg) i).1 (st ts t now (L, G, lg) i).2.1 (st ts t now (L, G, lg) i).2.2
  | 0 => by
    have e : now + ((0 : Nat) : Int) = now := by omega
    rw [e]
    exact ⟨h, hx⟩
  | i + 1 => by
    obtain ⟨a, b⟩ := st_inv h hr h9 hx (i := i)
    have e : st ts t now (L, G, lg) (i + 1) = unitF ts t (now + ((i + 1 : Nat) : Int)) (st ts t now (L, G, lg) i) := rfl
    have e2 : now + ((i + 1 : Nat) : Int) = now + (i : Int) + 1 := by omega
    rw [e, e2]
    exact ⟨a.unit hr h9, b.unit a.gl⟩
/-- one more frame -/
def putF (ts : List Int) (now w num idx : Int) (L : List W4) (G : List (Option W4)) : List W4 × List (Option W4) := goesN ts now ts.length (L ++ [(w, num, idx, now)], G)
variable {w num idx : Int}
theorem TI.put (h : TI ts now L G lg) (h9 : ∀ x ∈ ts, (1 : Int) ≤ x ∧ x ≤ 9) (hw : 0 ≤ w ∧ w < (ts.length : Int)) : TI ts now (putF ts now w num idx L G).1 (putF ts now w num idx L G).2 lg := by
  have h1 : TJ ts now (L ++ [(w, num, idx, now)]) G lg := { h.toTJ with
    wr := fun r hr => by
      rcases List.mem_append.mp hr with hr | hr
      · exact h.wr r hr
      · rw [List.mem_singleton.mp hr]; exact hw
    sl := fun r hr => by
      rcases List.mem_append.mp hr with hr | hr
      · exact h.sl r hr
      · rw [List.mem_singleton.mp hr]; exact Int.le_refl _ }
  have h2 := h1.goesN h9 (Nat.le_refl _)
  refine { h2 with ab := fun a ha => ?_, bi := fun w hw e => goesN_bi (by exact h.gl) (Nat.le_refl _) w hw e }
  rcases goes_mem (fun x hx => (h9 x hx).1) (Nat.le_refl _) ha with ha | ha
  · exact h.ab a ha
  · exact ha
theorem put_tok : (Tok (putF ts now w num idx L G).1 (putF ts now w num idx L G).2).Perm (((w, num), idx) :: Tok L G) := by
  unfold putF
  refine goesN_tok.trans ?_
  unfold Tok
  dsimp only
  rw [List.map_append, List.map_cons, List.map_nil]
  refine pm fun q => ?_
  simp only [List.count_append, List.count_cons, List.count_nil]
  have e : tk (w, num, idx, now) = ((w, num), idx) := rfl
  rw [e]
  omega
theorem XI.put (h : XI t N P L G lg) (hf : Fn t N (w, num)) : XI t N (P ++ rR t N ((w, num), idx)) (putF ts now w num idx L G).1 (putF ts now w num idx L G).2 lg := by
  have p := put_tok (ts := ts) (now := now) (w := w) (num := num) (idx := idx) (L := L) (G := G)
  refine ⟨?_, fun q hq => ?_⟩
  · have p2 := p.flatMap_right (rR t N)
    rw [List.flatMap_cons] at p2
    refine pm fun q => ?_
    have c1 := pc p2 q
    have c2 := pc h.px q
    simp only [List.count_append] at c1 c2 ⊢
    omega
  · rcases List.mem_cons.mp (p.mem_iff.mp hq) with rfl | hq
    · exact hf
    · exact h.tf q hq
theorem gT_none : ∀ {G : List (Option W4)} {k : Nat}, (∀ a, some a ∉ G) → gT k G = []
  | [], k, _ => rfl
  | none :: G, k, h => by
    show gT (k + 1) G = []
    exact gT_none fun a ha => h a (List.mem_cons_of_mem _ ha)
  | some a :: G, k, h => absurd List.mem_cons_self (h a)
/-- where none goes, none waits -/
theorem TI.idle (h : TI ts now L G lg) (hn : ∀ a, some a ∉ G) : L = [] ∧ Tok L G = [] := by
  have hL : L = [] := by
    cases L with
    | nil => rfl
    | cons r L =>
      have hw := h.wr r List.mem_cons_self
      obtain ⟨w, hw1⟩ := Int.eq_ofNat_of_zero_le hw.1
      have hlt : w < ts.length := by omega
      have hb := h.bi w hlt (by
        have h2 : w < G.length := by rw [h.gl]; exact hlt
        rw [List.getElem?_eq_getElem h2]
        cases e : G[w] with
        | none => rfl
        | some a => exact absurd (e ▸ List.getElem_mem h2) (hn a))
      rw [pj_cons, if_pos hw1] at hb
      cases hb
  refine ⟨hL, ?_⟩
  unfold Tok
  rw [hL, gT_none hn]
  rfl
theorem XI.len (h : XI t N P L G lg) : lg.length + ((Tok L G).flatMap (rR t N)).length = P.length := by
  have := h.px.length_eq
  rwa [List.length_append, List.length_map] at this
theorem len_fm : ∀ {D : List Tk}, (∀ p ∈ D, Fn t N p.1) → D.length ≤ (D.flatMap (rR t N)).length
  | [], _ => Nat.le_refl _
  | p :: D, h => by
    have ih := len_fm fun q hq => h q (List.mem_cons_of_mem _ hq)
    rw [List.flatMap_cons, List.length_append, List.length_cons, rR_eq (h p List.mem_cons_self), List.length_cons]
    omega
theorem XI.sz (h : XI t N P L G lg) : lg.length + L.length ≤ P.length := by
  have h1 := h.len
  have h2 := len_fm h.tf
  have h3 : (Tok L G).length = L.length + (gT 0 G).length := by
    unfold Tok
    rw [List.length_append, List.length_map]
  omega
end
end G93
namespace G93
open PySem L2 Mi Gu
def cb : MSt :=
  (mSeq (mAsg (mOp dIx (mV 1) (mV 2)) (gNm 3))
  (mSeq (mIfS (mOr (mNot (mTru (mFn (Mi.d2 dIsi) (mCons (mV 3) (mCons (mK (.ty "tuple")) mNil))))) (mOr (mB (mOp dNe (mFn (d1 dLen) (mCons (mV 3) mNil)) (mK (.int 4)))) (mOr (mB (mOp dEq (mOp dIx (mV 3) (mK (.int 0))) (mOp dIx (mV 3) (mK (.int 2))))) (mB (mOp dIn (mV 3) (mSl mkL (mV 1) oNone (oSome (mV 2)))))))) mNever mNx)
  (mSeq (mIfS (mNot (mTru (mFn (d1 dAll) (mCons (mLc (mIt (mTup (mCons (mK (.int 0)) (mCons (mK (.int 2)) mNil)))) (gNm 4) mYes (mCall m_is_number (mCons (mOp dIx (mV 3) (mV 4)) (mCons (mK (.int 0)) (mCons (mOp dSub (mV 0) (mK (.int 1))) mNil)))) [4] mkL) mNil)))) mNever mNx)
  (mIfS (mNot (mTru (mFn (d1 dAll) (mCons (mLc (mIt (mTup (mCons (mK (.int 1)) (mCons (mK (.int 3)) mNil)))) (gNm 4) mYes (mCall m_is_number (mCons (mOp dIx (mV 3) (mV 4)) (mCons (mK (.int 0)) (mCons (mK (.int 2047)) mNil)))) [4] mkL) mNil)))) mNever mNx))))
def b_check_table2 : MSt :=
  (mFor (mRange1 (mCons (mFn (d1 dLen) (mCons (mV 1) mNil)) mNil)) (gNm 2) (cb))
theorem b_check_table_eq : b_check_table = b_check_table2 := rfl
section
variable {S S' S1 : MS} {Q : D → MS → Prop} {P : D → MS → Prop} {E : Exn → MS → Prop} {R : Fl → Prop} {env : En}
variable {ts : List Int} {t : List (List Int)} {now count wires : Int} {L L' : List W4} {G G' : List (Option W4)} {lg : List L5} {r wt gt dn g1 g2 n : Nat} {w w' num idx : Int} {m : T3} {dl : List T3} {ds : List D}
theorem q_draws : m__law_draws = mDraws := rfl
theorem q_draw : m__law_draw = mDraw := rfl
theorem ref6 {es : En} (h : PN S r wt gt ts t now count L G lg) : needLk S (some (.obj r) :: es) [0, 6] = false := by
  have e : refOf (some (.obj r) :: es) S [0, 6] = match S.get r with
    | some (.ins _ fs) => match fs[6]? with
      | some (D.obj m) => some m
      | _ => none
    | _ => none := rfl
  unfold needLk
  rw [e, h.gr]
  rfl
theorem w_is_number {a lo hi : Int} : wp (m_is_number [.int a, .int lo, .int hi]) S Q E = Q (.bl (decide (lo ≤ a ∧ a ≤ hi))) S := by
  refine wq ?_
  rw [r_is_number]
  unfold b_is_number
  (simp_arith [true_and])
  refine br_dec (fun c => ?_) (fun c => ?_)
  · (simp_arith [true_and])
    simp [c]
  · (simp_arith [true_and])
    simp [c]
theorem PN.put {i : Nat} (h : PN S r wt gt ts t now count L G lg) (hi : i < ts.length) (n0 : 0 ≤ num) (n1 : num ≤ 2047) (hL : L.length ≤ 14000)
    (K : ∀ S', S'.nx = S.nx → Fr [r, wt, gt] S S' → PN S' r wt gt ts t now (count + 1) (goesN ts now ts.length (L ++ [((i : Int), num, count, now)], G)).1 (goesN ts now ts.length (L ++ [((i : Int), num, count, now)], G)).2 lg → Q (.int count) S') : wp (m_Net_put [.obj r, .int (i : Nat), .int num]) S Q E := by
  rw [r_Net_put]
  unfold b_Net_put
  have tl := h.tl
  have e1 : decide ((0 : Int) ≤ (i : Int) ∧ (i : Int) ≤ (ts.length : Int) - 1) = true := decide_eq_true (by omega)
  have e2 : decide ((0 : Int) ≤ num ∧ num ≤ 2047) = true := decide_eq_true (by omega)
  have h2 : PN (S.set r (.ins c_Net [.lst (ts.map D.int), .lst (t.map tD), .int now, .int (count + 1), .obj wt, .obj gt, .lst (lg.map d5)])) r wt gt ts t now (count + 1) L G lg := { h with gr := get_same, gw := (get_ne h.n1.symm).trans h.gw, gg := (get_ne h.n2.symm).trans h.gg }
  have f2 : Fr [r, wt, gt] S (S.set r (.ins c_Net [.lst (ts.map D.int), .lst (t.map tD), .int now, .int (count + 1), .obj wt, .obj gt, .lst (lg.map d5)])) := Fr.set (by simp)
  have n2 : (S.set r (.ins c_Net [.lst (ts.map D.int), .lst (t.map tD), .int now, .int (count + 1), .obj wt, .obj gt, .lst (lg.map d5)])).nx = S.nx := rfl
  (simp_arith [true_and, h.gr, List.length_map, w_is_number, e1, e2])
  generalize S.set r (.ins c_Net [.lst (ts.map D.int), .lst (t.map tD), .int now, .int (count + 1), .obj wt, .obj gt, .lst (lg.map d5)]) = S2 at h2 f2 n2
  have ec : count + 1 - 1 = count := by omega
  obtain ⟨S3, n3, f3, h3, hw⟩ := h2.wait_for (i := i) (num := num) (idx := count) hi (by omega)
  (simp_arith [true_and, h2.gr, ec, hw, h3.gr])
  refine h3.begin (by rw [List.length_append]; simp; omega) fun S4 n4 f4 h4 => ?_
  (simp_arith [true_and, h4.gr, ec])
  exact K S4 (by omega) ((f2.trans (f3.mono (by simp))).trans (f4.mono (by simp))) h4
theorem lc_cons {g : MG} {te : ME} {d : D} {ds : List D} {Q : List D → MS → Prop} : wp (lcM g mYes te env (d :: ds)) S Q no = wpO (g d env S) fun z => wp (te z.1) z.2 (fun y S1 => wp (lcM g mYes te env ds) S1 (fun ys S2 => Q (y :: ys) S2) no) no := by
  have e0 : lcM g mYes te env (d :: ds) S = (match g d env S with
    | none => none
    | some (env1, S1) => match te env1 S1 with
      | some (.ok y S3) => match lcM g mYes te env ds S3 with
        | some (.ok ys S4) => some (.ok (y :: ys) S4)
        | _ => none
      | _ => none) := rfl
  unfold wp wpO
  rw [e0]
  cases g d env S with
  | none => rfl
  | some z =>
    obtain ⟨e1, S1⟩ := z
    dsimp only
    cases te e1 S1 with
    | none => rfl
    | some r =>
      cases r with
      | exc _ _ => rfl
      | ok y S2 =>
        dsimp only
        cases lcM g mYes te env ds S2 with
        | none => rfl
        | some r => cases r <;> rfl
theorem lc_nil {g : MG} {te : ME} {Q : List D → MS → Prop} : wp (lcM g mYes te env []) S Q E = Q [] S := propext Iff.rfl
theorem lc_ok {g : MG} {te : ME} {ds : List D} {Q : List D → MS → Prop} (h : wp (lcM g mYes te env ds) S Q no) : wp (lcM g mYes te env ds) S Q E := by
  unfold wp at h ⊢
  cases e : lcM g mYes te env ds S with
  | none => rw [e] at h; exact h
  | some r =>
    rw [e] at h
    cases r with
    | ok a S' => exact h
    | exc _ _ => exact h.elim
theorem cut_tD {ds : List D} {k : Nat} (h : k ≤ ds.length) : cutD ds none (some (k : Int)) = ds.take k := by
  unfold cutD
  rw [HT.sIx_nat, HT.sIx_none, List.drop_zero, Nat.sub_zero, Nat.min_eq_left h]
theorem al2 {a b : Bool} : blsOf [.bl a, .bl b] = some [a, b] := rfl
theorem alA {a b : Bool} : ([a, b] : List Bool).all id = (a && b) := by cases a <;> cases b <;> rfl
/-- a row of four ints -/
theorem step4 {tab : D} {t' : List (List Int)} {x : List Int} {k : Nat} {o3 : Option D} (h1 : ixAt S tab (.int (k : Int)) = some (tD x)) (h2 : ∀ {P : D → MS → Prop} {E : Exn → MS → Prop}, wp (dSl mkL tab none (some (k : Int))) S P E = P (.lst (t'.map tD)) S) (hx : Rt wires x) (hi : x ∉ t') (K : ∀ o3, R (.nx [some (.int wires), some tab, some (.int (k : Nat)), o3, none] S)) : wpS (cb [some (.int wires), some tab, some (.int (k : Nat)), o3, none] S) R := by
  obtain ⟨a, b, c, d, rfl, a0, a1, c0, c1, b0, b1, d0, d1, hac⟩ := hx
  have h1 : ixAt S tab (.int (k : Int)) = some (.tup [.int a, .int b, .int c, .int d]) := h1
  unfold cb
  have hin : dInB S (.tup [.int a, .int b, .int c, .int d]) (.lst (t'.map tD)) = some (decide ([a, b, c, d] ∈ t')) := inT (a := [a, b, c, d]) (l := t')
  have s2 : Small 2 := small_of (by omega)
  have e4 : decide (((4 : Nat) : Int) = 4) = true := rfl
  have n1 : decide ((0 : Int) ≤ a ∧ a ≤ wires - 1) = true := decide_eq_true (by omega)
  have n2 : decide ((0 : Int) ≤ c ∧ c ≤ wires - 1) = true := decide_eq_true (by omega)
  have n3 : decide ((0 : Int) ≤ b ∧ b ≤ 2047) = true := decide_eq_true (by omega)
  have n4 : decide ((0 : Int) ≤ d ∧ d ≤ 2047) = true := decide_eq_true (by omega)
  (simp_arith [true_and, h1, e4, decide_eq_false hac, h2, x_in, hin, decide_eq_false hi, s2])
  try (simp_arith [true_and, h1, e4, decide_eq_false hac, h2, x_in, hin, decide_eq_false hi, s2, wipe_c, wipe_n])
  refine lc_ok ?_
  (simp_arith [true_and, lc_cons, lc_nil, w_is_number, n1, n2, s2, x_all al2, alA, Bool.and_self, wipe_c, wipe_n])
  try (simp_arith [true_and, s2, wipe_c, wipe_n])
  refine lc_ok ?_
  (simp_arith [true_and, lc_cons, lc_nil, w_is_number, n3, n4, s2, x_all al2, alA, Bool.and_self])
  try (simp_arith [true_and, s2])
  exact K _
theorem w_check (hr : ∀ x ∈ t, Rt wires x) (hn : t.Nodup) (hl : t.length ≤ 50) : wp (m_check_table [.int wires, .lst (t.map tD)]) S Q E = Q .non S := by
  refine wq ?_
  rw [r_check_table, b_check_table_eq]
  unfold b_check_table2
  (simp_arith [true_and, List.length_map, rngD1_nat (show t.length < 4611686018427387904 by omega)])
  refine loop_inv (fun i e S1 => S1 = S ∧ ∃ o2 o3, e = [some (.int wires), some (.lst (t.map tD)), o2, o3, none]) ⟨rfl, none, none, rfl⟩ ?_ ?_
  · rintro i z e S1 hz ⟨rfl, o2, o3, rfl⟩
    obtain ⟨hi2, rfl⟩ := rng01 hz
    (simp_arith [true_and])
    have hx := hr _ (List.getElem_mem hi2)
    have e1 : ixAt S1 (.lst (t.map tD)) (.int (i : Int)) = some (tD t[i]) := by
      rw [ixAt_lstI, at_nat (ds := t.map tD) (j := i) (by rw [List.length_map]; exact hi2), List.getElem_map]
    have e2 : ∀ {P : D → MS → Prop} {E : Exn → MS → Prop}, wp (dSl mkL (.lst (t.map tD)) none (some (i : Int))) S1 P E = P (.lst ((t.take i).map tD)) S1 := fun {P E} => by
      have sT : Small (t.take i).length := small_of (by rw [List.length_take]; omega)
      rw [x_slL, cut_tD (by rw [List.length_map]; omega), ← List.map_take]
      (simp_arith [true_and, List.length_map, sT])
    have hni : t[i] ∉ t.take i := fun q => by
      obtain ⟨j, hj, e⟩ := List.getElem_of_mem q
      rw [List.getElem_take] at e
      rw [List.length_take] at hj
      have := (List.getElem_inj hn).mp e
      omega
    generalize t[i] = x at hx e1 hni
    exact step4 (t' := t.take i) e1 e2 hx hni fun o3 => ⟨rfl, _, _, rfl⟩
  · rintro e S1 ⟨rfl, o2, o3, rfl⟩
    exact ⟨rfl, rfl⟩
theorem w_table {dn : Nat} (h : DrO S dn) (hlt : dn < S.nx) (hw : 1 ≤ wires) (hw2 : wires ≤ 5) (k : ∀ S' (t : List (List Int)), DrO S' dn → dn < S'.nx → (∀ x ∈ t, Rt wires x) → t.Nodup → t.length ≤ 7 → Q (.lst (t.map tD)) S') : wp (m__law_table [.obj dn, .int wires, .int 7]) S Q E := by
  rw [r__law_table]
  unfold b__law_table
  have s0 : Small 0 := small_of (by omega)
  have s4 : Small 4 := small_of (by omega)
  (simp_arith [true_and, s0, q_draw])
  refine draw_at (n := dn) (by obtain ⟨ds, h1, h2⟩ := h; exact ⟨ds, (get_add_ne (by omega)).trans h1, h2⟩) (by decide) (by decide) fun v S1 v0 v1 d1 => ?_
  have hf : S1.get S.nx = some (.lst []) := (d1.ne _ (by omega)).trans get_add_same
  have hn1 : S1.nx = S.nx + 1 := d1.nx
  have hd := d1.dr
  clear d1
  obtain ⟨n, rfl⟩ := Int.eq_ofNat_of_zero_le v0
  (try (simp_arith [true_and, rngD1_nat (show n < 4611686018427387904 by omega)])); (repeat (with_reducible refine And.intro ?_ ?_; focus (first | trivial | assumption | decide | omega | exact small_of (by first | omega | (simp; done) | (simp; omega)) )))
  refine loop_inv (fun i e S2 => i ≤ 7 ∧ ∃ (t : List (List Int)) (o4 o5 o6 o7 : Option D), e = [some (.obj dn), some (.int wires), some (.int 7), some (.obj S.nx), o4, o5, o6, o7] ∧ DrO S2 dn ∧ S2.get S.nx = some (.lst (List.map tD t)) ∧ S2.nx = S.nx + 1 ∧ (∀ x ∈ t, Rt wires x) ∧ t.Nodup ∧ t.length ≤ i)
    ⟨by omega, [], none, none, none, none, rfl, hd, hf, hn1, by simp, by simp, by simp⟩ ?_ ?_
  · rintro i z e S2 hz ⟨hi, t, o4, o5, o6, o7, rfl, hd, hf, hn1, hr, hnd, hl⟩
    obtain ⟨hi2, rfl⟩ := rng01 hz
    (try (simp_arith [true_and, q_draw])); (repeat (with_reducible refine And.intro ?_ ?_; focus (first | trivial | assumption | decide | omega | exact small_of (by first | omega | (simp; done) | (simp; omega)) )))
    refine draw_at hd (by omega) (by omega) fun a S3 a0 a1 d1 => ?_
    have hf := (d1.ne S.nx (by omega)).trans hf
    have hn1 : S3.nx = S.nx + 1 := d1.nx.trans hn1
    have hd := d1.dr
    clear d1
    (try (simp_arith [true_and, q_draw])); (repeat (with_reducible refine And.intro ?_ ?_; focus (first | trivial | assumption | decide | omega | exact small_of (by first | omega | (simp; done) | (simp; omega)) )))
    refine draw_at hd (by omega) (by omega) fun c S4 c0 c1 d1 => ?_
    have hf := (d1.ne S.nx (by omega)).trans hf
    have hn1 : S4.nx = S.nx + 1 := d1.nx.trans hn1
    have hd := d1.dr
    clear d1
    (try (simp_arith [true_and, q_draw, s4])); (repeat (with_reducible refine And.intro ?_ ?_; focus (first | trivial | assumption | decide | omega | exact small_of (by first | omega | (simp; done) | (simp; omega)) )))
    refine draw_at hd (by decide) (by decide) fun v S5 v0 v1 d1 => ?_
    have hf := (d1.ne S.nx (by omega)).trans hf
    have hn1 : S5.nx = S.nx + 1 := d1.nx.trans hn1
    have hd := d1.dr
    clear d1
    (simp_arith [true_and])
    refine pick v0 (by simpa using v1) fun x hx => ?_
    obtain ⟨b, rfl, hb0, hb1⟩ : ∃ b : Int, x = .int b ∧ 0 ≤ b ∧ b ≤ 2047 := by
      simp only [List.mem_cons, List.not_mem_nil, or_false] at hx
      rcases hx with rfl | rfl | rfl | rfl <;> exact ⟨_, rfl, by omega, by omega⟩
    (try (simp_arith [true_and, q_draw, s4])); (repeat (with_reducible refine And.intro ?_ ?_; focus (first | trivial | assumption | decide | omega | exact small_of (by first | omega | (simp; done) | (simp; omega)) )))
    refine draw_at hd (by decide) (by decide) fun v' S6 v0' v1' d1 => ?_
    have hf := (d1.ne S.nx (by omega)).trans hf
    have hn1 : S6.nx = S.nx + 1 := d1.nx.trans hn1
    have hd := d1.dr
    clear d1
    (simp_arith [true_and])
    refine pick v0' (by simpa using v1') fun x hx => ?_
    obtain ⟨d, rfl, hd0, hd1⟩ : ∃ b : Int, x = .int b ∧ 0 ≤ b ∧ b ≤ 2047 := by
      simp only [List.mem_cons, List.not_mem_nil, or_false] at hx
      rcases hx with rfl | rfl | rfl | rfl <;> exact ⟨_, rfl, by omega, by omega⟩
    (try (simp_arith [true_and, s4])); (repeat (with_reducible refine And.intro ?_ ?_; focus (first | trivial | assumption | decide | omega | exact small_of (by first | omega | (simp; done) | (simp; omega)) )))
    refine br_dec (fun e => ?_) (fun e => ?_)
    · refine ⟨by omega, t, _, _, _, _, rfl, hd, hf, hn1, hr, hnd, by omega⟩
    · have hin : dInB S6 (.tup [.int a, .int b, .int c, .int d]) (.obj S.nx) = some (decide ([a, b, c, d] ∈ t)) := inTO (a := [a, b, c, d]) (l := t) hf
      (simp_arith [true_and, x_nin, hin])
      refine br_dec (fun q => ?_) (fun q => ?_)
      · refine ⟨by omega, t, _, _, _, _, rfl, hd, hf, hn1, hr, hnd, by omega⟩
      · have hlt2 : ((t.map tD).length < lineN) = True := eq_true (by rw [List.length_map]; show t.length < 16777216; omega)
        (simp_arith [true_and, hf, hlt2])
        refine ⟨by omega, t ++ [[a, b, c, d]], _, _, _, _, rfl, ?_, ?_, hn1, ?_, ?_, ?_⟩
        · obtain ⟨ds, h1, h2⟩ := hd
          exact ⟨ds, (get_ne (by omega)).trans h1, h2⟩
        · rw [List.map_append]
          rfl
        · intro x hx
          rcases List.mem_append.mp hx with hx | hx
          · exact hr x hx
          · rw [List.mem_singleton.mp hx]
            exact ⟨a, b, c, d, rfl, a0, a1, c0, c1, hb0, hb1, hd0, hd1, e⟩
        · exact List.nodup_append.mpr ⟨hnd, by simp, fun x hx y hy e => q (by rw [List.mem_singleton.mp hy] at e; exact e ▸ hx)⟩
        · rw [List.length_append]
          simp
          omega
  · rintro e S2 ⟨hi, t, o4, o5, o6, o7, rfl, hd, hf, hn1, hr, hnd, hl⟩
    rw [rngN_len] at hl hi
    (simp_arith [true_and, hf])
    refine k _ t ?_ (by show dn < S2.nx; omega) hr hnd (by omega)
    obtain ⟨ds, h1, h2⟩ := hd
    exact ⟨ds, (get_del_ne (by omega)).trans h1, h2⟩
theorem wq_nil {k : Nat} : wqL k [] = List.replicate k (D.lst []) := by
  unfold wqL
  have : ∀ w : Nat, D.lst ((soK i3 (pj [] (w : Int))).map d3) = .lst [] := fun w => by
    show D.lst ((soK i3 []).map d3) = _
    rw [so_nil]
    rfl
  refine (List.map_congr_left fun w _ => this w).trans ?_
  rw [List.map_const', List.length_range]
theorem n6 : (Int.natAbs 10 < 18446744073709551616) = True := by simp
theorem p6 : (10 : Int) ^ Int.toNat 6 = 1000000 := rfl
theorem PN.init (hr0 : S.get r = some (.ins c_Net [])) (l1 : r < S.nx) (hts : ∀ x ∈ ts, 1 ≤ x ∧ x ≤ 9) (hlen : ts.length ≤ 5) (hr : ∀ x ∈ t, Rt ts.length x) (hn : t.Nodup) (hl : t.length ≤ 50)
    (K : ∀ S', S'.nx = S.nx + 2 → Fr [r] S S' → PN S' r S.nx (S.nx + 1) ts t 0 0 [] (List.replicate ts.length none) [] → Q .non S') : wp (m_Net___init__ [.obj r, .lst (ts.map D.int), .lst (t.map tD)]) S Q E := by
  rw [r_Net___init__]
  unfold b_Net___init__
  (simp_arith [true_and, List.length_map, rngD1_nat (show ts.length < 4611686018427387904 by omega)])
  refine loop_inv (fun i e S1 => S1 = S ∧ ∃ o3, e = [some (.obj r), some (.lst (ts.map D.int)), some (.lst (t.map tD)), o3, none]) ⟨rfl, none, rfl⟩ ?_ ?_
  · rintro i z e S1 hz ⟨rfl, o3, rfl⟩
    obtain ⟨hi, rfl⟩ := rng01 hz
    have hx : ts.getD i 0 ∈ ts := by
      rw [List.getD_eq_getElem?_getD, List.getElem?_eq_getElem hi]
      exact List.getElem_mem hi
    have hb := hts _ hx
    have e1 : decide ((1 : Int) ≤ ts.getD i 0 ∧ ts.getD i 0 ≤ 1000000) = true := decide_eq_true (by omega)
    (try (simp_arith [true_and, at_ts hi, w_is_number, n6, p6, e1])); (repeat (with_reducible refine And.intro ?_ ?_; focus (first | trivial | assumption | decide | omega | exact small_of (by first | omega | (simp; done) | (simp; omega)) )))
    try (try (simp_arith [true_and, at_ts hi, w_is_number, n6, p6, e1])); (repeat (with_reducible refine And.intro ?_ ?_; focus (first | trivial | assumption | decide | omega | exact small_of (by first | omega | (simp; done) | (simp; omega)) )))
    exact ⟨_, rfl⟩
  · rintro e S1 ⟨rfl, o3, rfl⟩
    have s1 : Small ts.length := small_of (by omega)
    have s2 : Small t.length := small_of (by omega)
    (simp_arith [true_and, List.length_map, w_check hr hn hl, hr0, s1])
    (try (simp_arith [true_and, s2, List.length_map])); (repeat (with_reducible refine And.intro ?_ ?_; focus (first | trivial | assumption | decide | omega | exact small_of (by first | omega | (simp; done) | (simp; omega)) )))
    try (try (simp_arith [true_and, s2, List.length_map])); (repeat (with_reducible refine And.intro ?_ ?_; focus (first | trivial | assumption | decide | omega | exact small_of (by first | omega | (simp; done) | (simp; omega)) )))
    have ek : ∀ (f : D), (ts.map fun _ => f) = List.replicate ts.length f := fun f => List.map_const' ..
    have ll : ∀ {S2 : MS} {e : En} {f : D} {te : ME}, (∀ env S, te env S = some (.ok f S)) → e[1]? = some (some (.lst (ts.map D.int))) → 4 < e.length → ∀ {Q : D → MS → Prop} {E : Exn → MS → Prop}, wp (mLkM [1] (mLc (mIt (mV 1)) (gNm 4) mYes te [4] mkO) e) S2 Q E = Q (.obj S2.nx) (S2.add (.lst (List.replicate ts.length f))) := fun {S2 e f te} hte he hle {Q E} => by
      rw [lkm_tree (d := .lst (ts.map D.int)) he trivial]
      have ev : ∀ {P : D → MS → Prop} {E : Exn → MS → Prop}, wp (mV 1 e) S2 P E = P (.lst (ts.map D.int)) S2 := fun {P E} => wp_of (by unfold mV; rw [he])
      (simp_arith [true_and, ev, wipe_c, wipe_n])
      rw [lc_mp (enc := D.int) (g := fun _ => f) (fun y hy => hte _ _)]
      rw [ek]
      have s3 : Small (List.replicate ts.length f).length := by rw [List.length_replicate]; exact s1
      (simp_arith [true_and, s3, List.length_replicate, s1])
    rw [ll (te := mLst mNil) (f := .lst []) (fun env S => wp_ex (by (simp_arith [true_and, sm0]))) rfl (by simp)]
    have q1 : ¬r = S1.nx := by omega
    have q2 : ¬r = S1.nx + 1 := by omega
    (try (simp_arith [true_and, q1])); (repeat (with_reducible refine And.intro ?_ ?_; focus (first | trivial | assumption | decide | omega | exact small_of (by first | omega | (simp; done) | (simp; omega)) )))
    try (try (simp_arith [true_and, q1])); (repeat (with_reducible refine And.intro ?_ ?_; focus (first | trivial | assumption | decide | omega | exact small_of (by first | omega | (simp; done) | (simp; omega)) )))
    rw [ll (te := mK .non) (f := .non) (fun env S => rfl) rfl (by simp)]
    (try (simp_arith [true_and, q2, sm0])); (repeat (with_reducible refine And.intro ?_ ?_; focus (first | trivial | assumption | decide | omega | exact small_of (by first | omega | (simp; done) | (simp; omega)) )))
    try (try (simp_arith [true_and, q2, sm0])); (repeat (with_reducible refine And.intro ?_ ?_; focus (first | trivial | assumption | decide | omega | exact small_of (by first | omega | (simp; done) | (simp; omega)) )))
    have q3 : ¬S1.nx = r := by omega
    have q4 : ¬S1.nx = S1.nx + 1 := by omega
    have q5 : ¬S1.nx + 1 = r := by omega
    refine K _ rfl ((((Fr.set (by simp)).add').set' (.inl (by simp))).add'.set' (.inl (by simp))) ⟨get_same, ?_, ?_, by omega, by omega, by omega, by simp, hlen⟩
    · rw [wq_nil]
      (simp_arith [true_and, q3, q4])
    · rw [List.map_replicate]
      (simp_arith [true_and, q5])
      rfl
end
end G93
namespace G93
open PySem L2 Mi Gu
section
variable {S S' S1 : MS} {Q : D → MS → Prop} {P : D → MS → Prop} {E : Exn → MS → Prop} {R : Fl → Prop} {env : En}
variable {ts : List Int} {t : List (List Int)} {now count most : Int} {L L' : List W4} {G G' : List (Option W4)} {lg : List L5} {r wt gt : Nat}
theorem due_none (h : ∀ a, some a ∉ G) : dueV G = .non := by
  unfold dueV
  rw [if_neg fun c => ?_]
  obtain ⟨e, he⟩ := List.exists_mem_of_length_pos c
  obtain ⟨a, ha, _⟩ := end_mem.mp he
  exact h a ha
theorem due_some {a : W4} (h : some a ∈ G) : ∃ m, dueV G = .int m ∧ (∃ a, some a ∈ G ∧ a.1 = m) ∧ ∀ a, some a ∈ G → m ≤ a.1 := by
  have hp : 0 < (endL G).length := List.length_pos_of_mem (end_mem.mpr ⟨a, h, rfl⟩)
  refine ⟨minI (endL G), ?_, end_mem.mp (minI_mem (List.length_pos_iff.mp hp)), fun a ha => minI_le _ (end_mem.mpr ⟨a, ha, rfl⟩)⟩
  unfold dueV
  rw [if_pos hp]
theorem st_come {m : Int} {k : Nat} (hl : G.length = ts.length) (hab : Ab now G) (he : ∃ a, some a ∈ G ∧ a.1 = m) (hm : ∀ a, some a ∈ G → m ≤ a.1) (hk : m = now + (k : Int)) : st ts t now (L, G, lg) k = comeF ts t m L G lg := by
  obtain ⟨a, ha, hae⟩ := he
  have h1 := hab a ha
  obtain ⟨j, rfl⟩ : ∃ j, k = j + 1 := ⟨k - 1, by omega⟩
  have e1 : st ts t now (L, G, lg) j = (L, G, lg) := by
    have := st_idle (ts := ts) (t := t) (now := now) (σ := (L, G, lg)) (s := 0) (d := j) fun a ha => by
      have := hm a ha
      omega
    rw [Nat.zero_add] at this
    exact this
  have e2 : st ts t now (L, G, lg) (j + 1) = unitF ts t (now + ((j + 1 : Nat) : Int)) (st ts t now (L, G, lg) j) := rfl
  rw [e2, e1, ← hk]
  unfold unitF
  obtain ⟨w, hw⟩ := List.mem_iff_getElem?.mp ha
  have hlt := (List.getElem?_eq_some_iff.mp hw).1
  rw [hl] at hlt
  rw [if_pos (ends_some hlt hw hae)]
theorem PN.settle (h : PN S r wt gt ts t now count L G lg) (ht : t.length ≤ 7) (hr : ∀ x ∈ t, Rt ts.length x) (h1 : ∀ x ∈ ts, (1 : Int) ≤ x) (l1 : r < S.nx) (l2 : wt < S.nx) (l3 : gt < S.nx) (Inv : Nat → Int → List W4 → List (Option W4) → List L5 → Prop) {n0 : Nat} (hn0 : n0 ≤ 100000) (h0 : Inv n0 now L G lg)
    (hi : ∀ {n now L G lg}, Inv n now L G lg → Ab now G ∧ L.length ≤ 12000 ∧ lg.length ≤ 12000 ∧ ∀ a, some a ∈ G → a.1 ≤ now + 9)
    (hs : ∀ {n now' L G lg m}, Inv n now' L G lg → G.length = ts.length → (∃ a, some a ∈ G ∧ a.1 = m) → (∀ a, some a ∈ G → m ≤ a.1) → m ≤ now + most → ∃ n', n' < n ∧ Inv n' m (comeF ts t m L G lg).1 (comeF ts t m L G lg).2.1 (comeF ts t m L G lg).2.2)
    (K : ∀ S' n now' L' G' lg', S.nx ≤ S'.nx → Fr [r, wt, gt] S S' → PN S' r wt gt ts t now' count L' G' lg' → Inv n now' L' G' lg' → ((∀ a, some a ∉ G') → Q (.bl true) S') ∧ ((∃ a, some a ∈ G') → (∀ a, some a ∈ G' → now + most < a.1) → Q (.bl false) S')) : wp (m_Net_settle [.obj r, .int most]) S Q E := by
  rw [r_Net_settle]
  unfold b_Net_settle
  have tl := h.tl
  (simp_arith [true_and, h.gr])
  refine while_br (fun n e S2 => e = [some (.obj r), some (.int most), some (.int (now + most))] ∧ S.nx ≤ S2.nx ∧ Fr [r, wt, gt] S S2 ∧ ∃ now' L' G' lg', PN S2 r wt gt ts t now' count L' G' lg' ∧ Inv n now' L' G' lg')
    n0 (by show n0 < 1000000; omega) ⟨rfl, Nat.le_refl _, Fr.refl, _, _, _, _, h, h0⟩ ?_
  rintro n e S2 ⟨rfl, hn, hf, now', L', G', lg', h2, hv⟩
  have hb := hi hv
  by_cases c : ∃ a, some a ∈ G'
  · obtain ⟨a, ha⟩ := c
    obtain ⟨m, hd, he, hm⟩ := due_some ha
    (simp_arith [true_and, h2.due, hd, h2.gr])
    refine br_dec (fun c2 => ?_) (fun c2 => ?_)
    · obtain ⟨a', ha', hae⟩ := he
      have q1 := hb.1 a' ha'
      have q2 := hb.2.2.2 a' ha'
      obtain ⟨k, hk⟩ : ∃ k : Nat, m - now' = (k : Int) := ⟨(m - now').toNat, by omega⟩
      (simp_arith [true_and, h2.due, hd, h2.gr, hk])
      refine h2.wait ht hr h1 hb.1 (by omega) (by omega) (by omega) (by omega) (by omega) (by omega) fun S3 n3 f3 h3 => ?_
      rw [st_come h2.gl hb.1 ⟨a', ha', hae⟩ hm (by omega)] at h3
      rw [show now' + (k : Int) = m by omega] at h3
      obtain ⟨n', hn', hv'⟩ := hs hv h2.gl ⟨a', ha', hae⟩ hm c2
      try (simp_arith [true_and])
      exact ⟨n', hn', by omega, hf.trans f3, _, _, _, _, h3, hv'⟩
    · (simp_arith [true_and, h2.due, hd, h2.gr])
      have q := (K S2 n now' L' G' lg' hn hf h2 hv).2 ⟨a, ha⟩ fun a ha => by
        have := hm a ha
        omega
      exact q
  · have c' : ∀ a, some a ∉ G' := fun a ha => c ⟨a, ha⟩
    (simp_arith [true_and, h2.due, due_none c', h2.gr])
    exact (K S2 n now' L' G' lg' hn hf h2 hv).1 c'
end
end G93
namespace G93
open PySem L2 Mi Gu
section
variable {S S' S1 : MS} {Q : D → MS → Prop} {E : Exn → MS → Prop}
variable {ts : List Int} {t : List (List Int)} {now count most m : Int} {L L' : List W4} {G G' : List (Option W4)} {lg : List L5} {r wt gt N : Nat} {P : List Tk} {C : List (Int × Int)}
theorem come_sz (ht : t.length ≤ 7) (hn : ts.length ≤ 5) (hl : G.length = ts.length) (he : ∃ a, some a ∈ G ∧ a.1 = m) : (comeF ts t m L G lg).1.length ≤ L.length + 35 ∧ (comeF ts t m L G lg).2.2.length ≤ lg.length + 5 ∧ lg.length + 1 ≤ (comeF ts t m L G lg).2.2.length := by
  obtain ⟨a, ha, hae⟩ := he
  obtain ⟨w, hw⟩ := List.mem_iff_getElem?.mp ha
  have hlt := (List.getElem?_eq_some_iff.mp hw).1
  rw [hl] at hlt
  have hp := ends_some (m := m) (lg := lg) hlt hw hae
  have h1 := unit_le (t := t) (ts := ts) ht hn (now := m) (σ := (L, G, lg))
  have e : unitF ts t m (L, G, lg) = comeF ts t m L G lg := by
    unfold unitF
    dsimp only
    rw [if_pos hp]
  rw [e] at h1
  obtain ⟨D, K, p1, p2, e1, e2⟩ := come_tok (ts := ts) (t := t) (now := m) (L := L) (G := G) (lg := lg)
  have e3 := congrArg List.length e1
  rw [List.length_map, List.length_append, List.length_map, e2] at e3
  dsimp only at h1
  omega
theorem PN.settleT (h : PN S r wt gt ts t now count L G lg) (ht : t.length ≤ 7) (hr : ∀ x ∈ t, Rt ts.length x) (h9 : ∀ x ∈ ts, (1 : Int) ≤ x ∧ x ≤ 9) (l1 : r < S.nx) (l2 : wt < S.nx) (l3 : gt < S.nx) (hi : TI ts now L G lg) (hx : XI t N P L G lg) (hP : P.length ≤ 100)
    (K : ∀ S' now' G' lg', S.nx ≤ S'.nx → Fr [r, wt, gt] S S' → PN S' r wt gt ts t now' count [] G' lg' → TI ts now' [] G' lg' → (lg'.map lk).Perm P → (∀ a, some a ∉ G') → Q (.bl true) S') : wp (m_Net_settle [.obj r, .int 1000000]) S Q E := by
  have tl := h.tl
  have q0 := hx.len
  refine h.settle ht hr (fun x hx => (h9 x hx).1) l1 l2 l3 (fun n now' L G lg => TI ts now' L G lg ∧ XI t N P L G lg ∧ lg.length + n = P.length ∧ now' + 9 * (n : Int) ≤ now + 1000) (n0 := P.length - lg.length) (by omega) ⟨hi, hx, by omega, by omega⟩ ?_ ?_ ?_
  · rintro n now' L G lg ⟨a, b, c, d⟩
    have := b.sz
    refine ⟨a.ab, by omega, by omega, fun x hx => ?_⟩
    obtain ⟨w, hw⟩ := List.mem_iff_getElem?.mp hx
    exact (a.up w x hw).1
  · rintro n now' L G lg m ⟨a, b, c, d⟩ hl he hm hme
    have hz := come_sz (L := L) (lg := lg) ht tl hl he
    obtain ⟨x, hx1, hx2⟩ := he
    have hx3 := a.ab x hx1
    obtain ⟨w, hw⟩ := List.mem_iff_getElem?.mp hx1
    have hx4 := (a.up w x hw).1
    have ha := a.come (t := t) (m := m) hr h9 (by omega) hm
    have hb : XI t N P (comeF ts t m L G lg).1 (comeF ts t m L G lg).2.1 (comeF ts t m L G lg).2.2 := b.come
    have hbl := hb.len
    exact ⟨P.length - (comeF ts t m L G lg).2.2.length, by omega, ha, hb, by omega, by omega⟩
  · rintro S' n now' L' G' lg' n1 f1 hp ⟨a, b, c, d⟩
    refine ⟨fun hn => ?_, fun ⟨x, hx⟩ hgt => ?_⟩
    · obtain ⟨rfl, e2⟩ := a.idle hn
      refine K S' now' G' lg' n1 f1 hp a ?_ hn
      have := b.px
      rw [e2] at this
      simpa using this
    · obtain ⟨w, hw⟩ := List.mem_iff_getElem?.mp hx
      have := (a.up w x hw).1
      have := hgt x hx
      omega
theorem PN.settleR (h : PN S r wt gt ts t now count L G lg) (ht : t.length ≤ 7) (hr : ∀ x ∈ t, Rt ts.length x) (h9 : ∀ x ∈ ts, (1 : Int) ≤ x ∧ x ≤ 9) (l1 : r < S.nx) (l2 : wt < S.nx) (l3 : gt < S.nx) (hi : TI ts now L G lg) (hC : ∀ x ∈ C, ∃ g ∈ gls t x.1 x.2, g ∈ C) (hx : RI C L G) (hL : L.length ≤ 100) (hlg : lg.length ≤ 100)
    (K : ∀ S' now' L' G' lg', S.nx ≤ S'.nx → Fr [r, wt, gt] S S' → PN S' r wt gt ts t now' count L' G' lg' → lg.length + 5 ≤ lg'.length → Q (.bl false) S') : wp (m_Net_settle [.obj r, .int 300]) S Q E := by
  have tl := h.tl
  refine h.settle ht hr (fun x hx => (h9 x hx).1) l1 l2 l3 (fun n now' L G lg' => TI ts now' L G lg' ∧ RI C L G ∧ now ≤ now' ∧ (n : Int) + (now' - now) = 300 ∧ (L.length : Int) ≤ 100 + 35 * (now' - now) ∧ (lg'.length : Int) ≤ 100 + 5 * (now' - now) ∧ 9 * (lg.length : Int) + (now' - now) ≤ 9 * (lg'.length : Int)) (n0 := 300) (by omega) ⟨hi, hx, by omega, by omega, by omega, by omega, by omega⟩ ?_ ?_ ?_
  · rintro n now' L G lg' ⟨a, b, c, d, e, f, g⟩
    refine ⟨a.ab, by omega, by omega, fun x hx => ?_⟩
    obtain ⟨w, hw⟩ := List.mem_iff_getElem?.mp hx
    exact (a.up w x hw).1
  · rintro n now' L G lg' m ⟨a, b, c, d, e, f, g⟩ hl he hm hme
    have hz := come_sz (L := L) (lg := lg') ht tl hl he
    obtain ⟨x, hx1, hx2⟩ := he
    have hx3 := a.ab x hx1
    obtain ⟨w, hw⟩ := List.mem_iff_getElem?.mp hx1
    have hx4 := (a.up w x hw).1
    have ha := a.come (t := t) (m := m) hr h9 (by omega) hm
    have hb : RI C (comeF ts t m L G lg').1 (comeF ts t m L G lg').2.1 := b.come hC
    exact ⟨(now + 300 - m).toNat, by omega, ha, hb, by omega, by omega, by omega, by omega, by omega⟩
  · rintro S' n now' L' G' lg' n1 f1 hp ⟨a, b, c, d, e, f, g⟩
    refine ⟨fun hn => ?_, fun ⟨x, hx⟩ hgt => ?_⟩
    · obtain ⟨_, e2⟩ := a.idle hn
      obtain ⟨p, hp, _⟩ := b
      rw [e2] at hp
      cases hp
    · obtain ⟨w, hw⟩ := List.mem_iff_getElem?.mp hx
      have := (a.up w x hw).1
      have := hgt x hx
      exact K S' now' L' G' lg' n1 f1 hp (by omega)
end
end G93
namespace G93
open PySem L2 Mi Gu
def kdS : List Way × Option Way → Str
  | (_, some _) => "ring"
  | (ws, none) => match dbl ws with
    | some _ => "double"
    | none => "tree"
section
variable {S S' S1 : MS} {Q : D → MS → Prop} {P : D → MS → Prop} {E : Exn → MS → Prop} {R : Fl → Prop} {env : En}
variable {t : List (List Int)} {s g : List Int} {w : Way} {ws : List Way} {res : List Way × Option Way} {r n N : Nat}
theorem kd_r {ws : List Way} {r : Way} : kdS (ws, some r) = "ring" := rfl
theorem kd_d {ws : List Way} {p : Way × Way} (h : dbl ws = some p) : kdS (ws, none) = "double" := by
  have e : kdS (ws, none) = match dbl ws with
    | some _ => "double"
    | none => "tree" := rfl
  rw [e, h]
theorem kd_t {ws : List Way} (h : dbl ws = none) : kdS (ws, none) = "tree" := by
  have e : kdS (ws, none) = match dbl ws with
    | some _ => "double"
    | none => "tree" := rfl
  rw [e, h]
theorem s_rd : ("ring" : Str) ≠ "double" := by decide +kernel
theorem s_rt : ("ring" : Str) ≠ "tree" := by decide +kernel
theorem s_dt : ("double" : Str) ≠ "tree" := by decide +kernel
theorem rs_0 : ∃ l, rsD res = .tup (.str (kdS res) :: l) := by
  obtain ⟨ws, r⟩ := res
  cases r with
  | some r => exact ⟨_, rfl⟩
  | none =>
    cases e : dbl ws with
    | some p => exact ⟨_, by rw [kd_d e]; exact rs_d e⟩
    | none => exact ⟨_, by rw [kd_t e]; exact rs_t e⟩
/-- what is told of a spot -/
def resS (t : List (List Int)) (s : List Int) : List Way × Option Way := (out t 1025 0 [[s]]).getD ([], none)
theorem res_ok (ht : ∀ x ∈ t, x.length = 4) (htl : t.length ≤ 10) (hs : s.length = 2) : mu t [[s]] ≤ 1024 ∧ out t 1025 0 [[s]] = some (resS t s) := by
  have hg : Gd [[s]] := ⟨by simp, by simp, by simp, by simpa using hs⟩
  have hm : mu t [[s]] ≤ 1024 := by
    show (List.map (wt t) [[s]]).sum ≤ 1024
    rw [List.map_cons, List.map_nil, List.sum_cons, List.sum_nil]
    have h1 : cw t [s] ≤ 10 := Nat.le_trans (List.length_filter_le _ _) htl
    have h2 : wt t [s] ≤ 2 ^ 10 := Nat.pow_le_pow_right (by decide) h1
    omega
  obtain ⟨res, e⟩ := out_some ht (n := 1025) (k := 0) hg (by simpa using Nat.lt_succ_of_le hm)
  refine ⟨hm, ?_⟩
  unfold resS
  rw [e]
  rfl
theorem w_lp2 (ht : ∀ x ∈ t, x.length = 4) (htl : t.length ≤ 10) (hs : s.length = 2) (k : ∀ S', Fr [] S S' → Q (rsD (resS t s)) S') : wp (m__law_passed [.lst (t.map tD), tD s]) S Q E :=
  w_lpassed ht htl hs (n0 := 1025) (by omega) (res_ok ht htl hs).1 (res_ok ht htl hs).2 k
theorem lc_kind {Q : List D → MS → Prop} {z : Str} {spots : List (List Int)} (he : env[4]? = some (some (.lst (t.map tD)))) (hl : 12 < env.length) (ht : ∀ x ∈ t, x.length = 4) (htl : t.length ≤ 10) (hsp : ∀ s ∈ spots, s.length = 2) (K : ∀ S', Fr [] S S' → Q ((spots.filter fun s => decide (kdS (resS t s) = z)).map tD) S') : wp (lcM (gNm 12) (mB (mOp dEq (mOp dIx (mCall m__law_passed (mCons (mV 4) (mCons (mV 12) mNil))) (mK (.int 0))) (mK (.str z)))) (mV 12) env (spots.map tD)) S Q E := by
  refine lc_br (fun i acc S' => Fr [] S S' ∧ acc = ((spots.take i).filter fun s => decide (kdS (resS t s) = z)).map tD) ⟨Fr.refl, by simp⟩ ?_ fun acc S' ⟨f, e⟩ => by
    rw [e, List.length_map, List.take_length]
    exact K S' f
  rintro i d acc S' hd ⟨f, rfl⟩
  have hi : i < spots.length := by
    have := (List.getElem?_eq_some_iff.mp hd).1
    simpa using this
  have ex : d = tD spots[i] := by
    rw [List.getElem?_map, List.getElem?_eq_getElem hi] at hd
    exact (Option.some.inj hd).symm
  subst ex
  have htk : spots.take (i + 1) = spots.take i ++ [spots[i]] := List.take_succ_eq_append_getElem hi
  have hs2 := hsp _ (List.getElem_mem hi)
  rw [htk]
  generalize spots[i] = s at hs2 ⊢
  have e4 : (env.set 12 (some (tD s)))[4]? = some (some (.lst (t.map tD))) := by rw [List.getElem?_set_ne (by omega), he]
  have e12 : (env.set 12 (some (tD s)))[12]? = some (some (tD s)) := List.getElem?_set_self hl
  obtain ⟨l, hl⟩ := rs_0 (res := resS t s)
  (simp_arith [true_and, e4, e12])
  refine w_lp2 ht htl hs2 fun S2 f2 => ?_
  rw [hl]
  (simp_arith [true_and, e12])
  refine br_dec (fun c => ?_) (fun c => ?_)
  · (simp_arith [true_and, e12])
    refine ⟨f.trans f2, ?_⟩
    rw [List.filter_append, List.filter_cons_of_pos (by simpa using c), List.map_append]
    rfl
  · refine ⟨f.trans f2, ?_⟩
    rw [List.filter_append, List.filter_cons_of_neg (by simpa using c), List.filter_nil, List.append_nil]
theorem ref66 {i : Nat} {c : Cl} {vs : List D} {v : List D} (he : env[i]? = some (some (.obj r))) (hr : S.get r = some (.ins c vs)) (h6 : vs[6]? = some (.lst v)) : needLk S env [i, 6] = false := by
  unfold needLk refOf
  dsimp only
  rw [he]
  dsimp only
  rw [hr]
  dsimp only
  rw [h6]
end
end G93
namespace G93
open PySem L2 Mi Gu
section
variable {t : List (List Int)} {s g : List Int} {w : Way} {ws : List Way} {N n : Nat} {ts : List Int} {lg : List L5} {i j : Int} {p : Int × Int}
theorem inner_r {w r : Way} : ∀ {gs : List (List Int)} {ws : List Way}, (inner w gs ws).2 = some r → ∃ g ∈ gs, r = w ++ [g]
  | [], ws, h => by cases h
  | a :: gs, ws, h => by
    unfold inner at h
    by_cases c : a ∈ w
    · rw [if_pos c] at h
      cases h
      exact ⟨a, List.mem_cons_self, rfl⟩
    · rw [if_neg c] at h
      obtain ⟨g, hg, e⟩ := inner_r h
      exact ⟨g, List.mem_cons_of_mem _ hg, e⟩
theorem inner_gd {w : Way} : ∀ {gs : List (List Int)} {ws : List Way}, (∀ g ∈ gs, g.length = 2) → w ∈ ws → Gd ws → Gd (inner w gs ws).1 ∧ (inner w gs ws).1.length ≤ ws.length + gs.length
  | [], ws, _, _, h => ⟨h, Nat.le_refl _⟩
  | a :: gs, ws, h2, hw, h => by
    unfold inner
    by_cases c : a ∈ w
    · rw [if_pos c]
      exact ⟨h, by simp⟩
    · rw [if_neg c]
      have := inner_gd (w := w) (gs := gs) (ws := ws ++ [w ++ [a]]) (fun g hg => h2 g (List.mem_cons_of_mem _ hg)) (List.mem_append_left _ hw) (h.snoc hw c (h2 a List.mem_cons_self))
      refine ⟨this.1, Nat.le_trans this.2 ?_⟩
      rw [List.length_append, List.length_cons]
      simp
      omega
/-- what came out is small -/
structure SzO (res : List Way × Option Way) : Prop where
  gd : Gd res.1
  ln : res.1.length ≤ 1100
  ne : res.1 ≠ []
  rg : ∀ r, res.2 = some r → r.length ≤ 1100 ∧ ∀ x ∈ r, x.length = 2
theorem inner_n {w : Way} : ∀ {gs : List (List Int)} {ws : List Way}, (inner w gs ws).2 = none → ∀ g ∈ gs, g ∉ w
  | [], ws, h, g, hg => by cases hg
  | a :: gs, ws, h, g, hg => by
    unfold inner at h
    by_cases c : a ∈ w
    · rw [if_pos c] at h; cases h
    · rw [if_neg c] at h
      rcases List.mem_cons.mp hg with rfl | hg
      · exact c
      · exact inner_n h g hg
theorem out_so {res : List Way × Option Way} (ht : ∀ x ∈ t, x.length = 4) (htl : t.length ≤ 10) : ∀ {n k : Nat} {ws : List Way}, Gd ws → k + mu t (ws.drop k) ≤ 1024 → k ≤ ws.length → ws ≠ [] → out t n k ws = some res → SzO res
  | 0, k, ws, _, _, _, _, h => by cases h
  | n + 1, k, ws, hg, hm, hk, hne, h => by
    have hlen : ws.length ≤ 1024 := by
      have := mu_len (t := t) (ws := ws.drop k)
      rw [List.length_drop] at this
      omega
    unfold out at h
    cases e : ws[k]? with
    | none =>
      rw [e] at h
      cases h
      exact ⟨hg, by show ws.length ≤ 1100; omega, hne, fun r h => nomatch h⟩
    | some w =>
      rw [e] at h
      dsimp only at h
      have hw : w ∈ ws := List.mem_of_getElem? e
      have hcl : (comes t (w.getLastD [])).length ≤ 10 := by
        unfold comes
        rw [List.length_map]
        exact Nat.le_trans (List.length_filter_le _ _) htl
      cases e2 : inner w (comes t (w.getLastD [])) ws with
      | mk ws' r =>
        have hi := inner_gd (w := w) (gs := comes t (w.getLastD [])) (ws := ws) (fun g hg => comes2 ht hg) hw hg
        rw [e2] at h hi
        cases r with
        | some r =>
          cases h
          obtain ⟨g, hg1, rfl⟩ := inner_r (w := w) (gs := comes t (w.getLastD [])) (ws := ws) (r := r) (by rw [e2])
          have h2 := hg.le w hw
          obtain ⟨l, hl⟩ := inner_pre e2
          refine ⟨hi.1, by show ws'.length ≤ 1100; have := hi.2; dsimp only at this; omega, fun q => ?_, fun r q => ?_⟩
          · have q : ws' = [] := q
            rw [hl] at q
            exact hne (List.append_eq_nil_iff.mp q).1
          · injection q with q
            subst q
            refine ⟨by rw [List.length_append]; simp; omega, fun x hx => ?_⟩
            rcases List.mem_append.mp hx with hx | hx
            · exact hg.l2 w hw x hx
            · rw [List.mem_singleton.mp hx, comes2 ht hg1]
        | none =>
          dsimp only at h
          have hall := inner_n (w := w) (gs := comes t (w.getLastD [])) (ws := ws) (by rw [e2])
          rw [inner_none hall] at e2
          cases e2
          have hs := mu_step (t := t) e (hg.ne w hw) (hg.nd w hw)
          have hlt := (List.getElem?_eq_some_iff.mp e).1
          exact out_so ht htl (hg.more hw fun g hg1 => ⟨hall g hg1, comes2 ht hg1⟩) (by omega) (by rw [List.length_append]; omega) (fun q => hne (List.append_eq_nil_iff.mp q).1) h
theorem inner_all {P : List Int → Prop} : ∀ {gs : List (List Int)} {ws ws' : List Way} {r : Option Way}, (∀ g ∈ gs, P g) → (∀ x ∈ w, P x) → (∀ v ∈ ws, ∀ x ∈ v, P x) → inner w gs ws = (ws', r) → ∀ v ∈ ws', ∀ x ∈ v, P x
  | [], ws, ws', r, _, _, hv, h => by
    cases h
    exact hv
  | a :: gs, ws, ws', r, hg, hw, hv, h => by
    unfold inner at h
    by_cases c : a ∈ w
    · rw [if_pos c] at h
      cases h
      exact hv
    · rw [if_neg c] at h
      refine inner_all (fun g hg' => hg g (List.mem_cons_of_mem _ hg')) hw (fun v hv' x hx => ?_) h
      rcases List.mem_append.mp hv' with hv' | hv'
      · exact hv v hv' x hx
      · rw [List.mem_singleton.mp hv'] at hx
        rcases List.mem_append.mp hx with hx | hx
        · exact hw x hx
        · rw [List.mem_singleton.mp hx]
          exact hg a List.mem_cons_self
theorem out_all {P : List Int → Prop} (hc : ∀ s g, g ∈ comes t s → P g) : ∀ {n k : Nat} {ws ws' : List Way} {r : Option Way}, (∀ v ∈ ws, ∀ x ∈ v, P x) → out t n k ws = some (ws', r) → ∀ v ∈ ws', ∀ x ∈ v, P x
  | 0, k, ws, ws', r, _, h => by cases h
  | n + 1, k, ws, ws', r, hv, h => by
    unfold out at h
    cases e : ws[k]? with
    | none =>
      rw [e] at h
      cases h
      exact hv
    | some w =>
      rw [e] at h
      dsimp only at h
      cases e2 : inner w (comes t (w.getLastD [])) ws with
      | mk ws2 r2 =>
        have h2 := inner_all (fun g hg => hc _ g hg) (hv w (List.mem_of_getElem? e)) hv e2
        rw [e2] at h
        cases r2 with
        | some r2 =>
          cases h
          exact h2
        | none => exact out_all hc h2 h
/-- a tree, all of it -/
structure TS (t : List (List Int)) (s : List Int) : Prop where
  fn : Fn t 5 (sp2 s)
  pm : ((resS t s).1.map ls2).Perm (rc t 5 (sp2 s))
  ln : (resS t s).1.length ≤ 5
  l2 : ∀ w ∈ (resS t s).1, (w.getLastD []).length = 2
  rs : rsD (resS t s) = .tup [.str "tree", .lst ((resS t s).1.map fun w => tD (w.getLastD []))]
theorem tree_ts (hr : ∀ x ∈ t, Rt (n : Int) x) (hn : n ≤ 5) (htl : t.length ≤ 10) {a b : Int} (ha : 0 ≤ a ∧ a < (n : Int)) (hk : kdS (resS t [a, b]) = "tree") : TS t [a, b] := by
  have ht : ∀ x ∈ t, x.length = 4 := fun x hx => by
    obtain ⟨a, b, c, d, rfl, _⟩ := hr x hx
    rfl
  obtain ⟨hm, ho⟩ := res_ok (s := [a, b]) ht htl rfl
  have hg0 : Gd [[[a, b]]] := ⟨by simp, by simp, by simp, by simp⟩
  have so := out_so ht htl hg0 (by simpa using hm) (Nat.zero_le _) (by simp) ho
  have hw : ∀ v ∈ (resS t [a, b]).1, ∀ x ∈ v, 0 ≤ x.headD 0 ∧ x.headD 0 < (n : Int) := out_all (P := fun x => 0 ≤ x.headD 0 ∧ x.headD 0 < (n : Int)) (fun s g h => by
    unfold comes at h
    obtain ⟨x, hx, rfl⟩ := List.mem_map.mp h
    obtain ⟨a, b, c, d, rfl, h1, h2, h3, h4, _⟩ := hr x (List.mem_filter.mp hx).1
    exact ⟨h3, h4⟩) (by simpa using ha) ho
  obtain ⟨ws, hws, hd⟩ : ∃ ws, resS t [a, b] = (ws, none) ∧ dbl ws = none := by
    generalize resS t [a, b] = res at hk
    obtain ⟨ws, r⟩ := res
    cases r with
    | some r => exact absurd hk s_rt
    | none =>
      cases e : dbl ws with
      | some p => rw [kd_d e] at hk; exact absurd hk s_dt
      | none => exact ⟨ws, rfl, e⟩
  rw [hws] at ho so hw
  have hln : ws.length ≤ n := by
    have h1 := nodup_int (n := n) (dbl_nodup hd) (fun x hx => by
      obtain ⟨w, hw1, rfl⟩ := List.mem_map.mp hx
      exact hw w hw1 _ (last_mem (so.gd.ne w hw1)))
    rwa [List.length_map] at h1
  have hT := tree_rc (N := 5) ht rfl so.gd ho (Nat.le_trans hln hn)
  exact ⟨hT.1, by rw [hws]; exact hT.2, by rw [hws]; exact Nat.le_trans hln hn, by
    rw [hws]
    exact fun w hw1 => so.gd.l2 w hw1 _ (last_mem (so.gd.ne w hw1)), by rw [hws]; exact rs_t hd⟩
/-- a ring's way without end, as pairs -/
theorem ring_cy (ht : ∀ x ∈ t, x.length = 4) (htl : t.length ≤ 10) {a b : Int} (hk : kdS (resS t [a, b]) = "ring") : ∃ C : List (Int × Int), (a, b) ∈ C ∧ ∀ x ∈ C, ∃ g ∈ gls t x.1 x.2, g ∈ C := by
  obtain ⟨hm, ho⟩ := res_ok (s := [a, b]) ht htl rfl
  obtain ⟨ws, r, hws⟩ : ∃ ws r, resS t [a, b] = (ws, some r) := by
    generalize resS t [a, b] = res at hk
    obtain ⟨ws, r⟩ := res
    cases r with
    | some r => exact ⟨ws, r, rfl⟩
    | none =>
      cases e : dbl ws with
      | some p => rw [kd_d e] at hk; exact absurd hk s_rd.symm
      | none => rw [kd_t e] at hk; exact absurd hk s_rt.symm
  rw [hws] at ho
  obtain ⟨c, hc, hcy⟩ := out_ring (s0 := [a, b]) (by
    intro v hv i hi
    rw [List.mem_singleton.mp hv] at hi
    simp at hi) (by simp) ho
  refine ⟨(c.filter fun x => decide (x.length = 2)).map sp2, List.mem_map.mpr ⟨[a, b], List.mem_filter.mpr ⟨hc, rfl⟩, rfl⟩, fun x hx => ?_⟩
  obtain ⟨y, hy, rfl⟩ := List.mem_map.mp hx
  have hy := List.mem_filter.mp hy
  have hy2 := of_decide_eq_true hy.2
  obtain ⟨g, hg, hgc⟩ := hcy y hy.1
  refine ⟨sp2 g, ?_, List.mem_map.mpr ⟨g, List.mem_filter.mpr ⟨hgc, decide_eq_true (comes2 ht hg)⟩, rfl⟩⟩
  rw [← comes_gls ht hy2]
  exact List.mem_map_of_mem hg
/-- all that are put come to just these -/
def Pn (t : List (List Int)) (puts : List (List Int)) (n : Nat) : List Tk := (List.range n).flatMap fun i => rR t 5 (sp2 (puts.getD i []), (i : Int))
theorem Pn_s {puts : List (List Int)} {n : Nat} : Pn t puts (n + 1) = Pn t puts n ++ rR t 5 (sp2 (puts.getD n []), (n : Int)) := by
  unfold Pn
  rw [List.range_succ, List.flatMap_append, List.flatMap_cons, List.flatMap_nil, List.append_nil]
theorem Pn_snoc {puts : List (List Int)} : Pn t (puts ++ [s]) (puts ++ [s]).length = Pn t puts puts.length ++ rR t 5 (sp2 s, (puts.length : Int)) := by
  rw [List.length_append, List.length_singleton, Pn_s]
  have e : (puts ++ [s]).getD puts.length [] = s := by
    rw [List.getD_eq_getElem?_getD, List.getElem?_append_right (Nat.le_refl _), Nat.sub_self]
    rfl
  rw [e]
  congr 1
  unfold Pn
  refine flatMap_eq fun i hi => ?_
  have hi := List.mem_range.mp hi
  rw [List.getD_eq_getElem?_getD, List.getD_eq_getElem?_getD, List.getElem?_append_left hi]
theorem cnt_rR {s : Int × Int} : (rR t N (s, j)).count (p, i) = if i = j then (rc t N s).count p else 0 := by
  unfold rR
  dsimp only
  induction rc t N s with
  | nil => split <;> rfl
  | cons a l ih =>
    rw [List.map_cons, List.count_cons, List.count_cons, ih]
    by_cases c : i = j
    · subst c
      rw [if_pos rfl, if_pos rfl]
      by_cases c2 : a = p
      · subst c2
        simp
      · have : ¬(a, i) = (p, i) := fun q => c2 (by injection q)
        simp [c2, this]
    · rw [if_neg c, if_neg c]
      have : ¬(a, j) = (p, i) := fun q => c (by injection q with _ q; exact q.symm)
      simp [this]
theorem cnt_Pn {puts : List (List Int)} {k : Nat} : ∀ {n : Nat}, (Pn t puts n).count (p, (k : Int)) = if k < n then (rc t 5 (sp2 (puts.getD k []))).count p else 0
  | 0 => rfl
  | n + 1 => by
    rw [Pn_s, List.count_append, cnt_Pn, cnt_rR]
    by_cases c : k = n
    · subst c
      rw [if_neg (Nat.lt_irrefl _), if_pos rfl, if_pos (Nat.lt_succ_self _), Nat.zero_add]
    · rw [if_neg (show ¬((k : Int) = (n : Int)) by omega), Nat.add_zero]
      by_cases c2 : k < n
      · rw [if_pos c2, if_pos (by omega)]
      · rw [if_neg c2, if_neg (by omega)]
def cameL (lg : List L5) (i : Int) : List (Int × Int) := (lg.filter fun l => decide (l.2.2.2.1 = i)).map fun l => (l.2.1, l.2.2.1)
theorem cnt_came : (cameL lg i).count p = (lg.map lk).count (p, i) := by
  unfold cameL
  induction lg with
  | nil => rfl
  | cons l lg ih =>
    rw [List.map_cons, List.count_cons, ← ih]
    by_cases c : l.2.2.2.1 = i
    · rw [List.filter_cons_of_pos (by simpa using c), List.map_cons, List.count_cons]
      have e : lk l = ((l.2.1, l.2.2.1), i) := by rw [← c]; rfl
      rw [e]
      by_cases c2 : (l.2.1, l.2.2.1) = p
      · subst c2
        simp
      · have : ¬((l.2.1, l.2.2.1), i) = (p, i) := fun q => c2 (by injection q)
        simp [c2, this]
    · rw [List.filter_cons_of_neg (by simpa using c)]
      have : ¬lk l = (p, i) := fun q => c (by injection q)
      simp [this]
/-- a frame comes once to each spot of its tree -/
theorem came_once {puts : List (List Int)} {k : Nat} (h : (lg.map lk).Perm (Pn t puts puts.length)) (hk : k < puts.length) : (cameL lg (k : Int)).Perm (rc t 5 (sp2 (puts.getD k []))) := by
  refine pm fun q => ?_
  rw [cnt_came, pc h, cnt_Pn, if_pos hk]
end
end G93
namespace G93
open PySem L2 Mi Gu
def a8 : MSt :=
  (mIfS (mB (mOp dGt (mFn (d1 dLen) (mCons (mV 16) mNil)) (mK (.int 0)))) (mSeq (mAsg (mOp dIx (mV 16) (mCall m__law_draw (mCons (mV 1) (mCons (mFn (d1 dLen) (mCons (mV 16) mNil)) mNil)))) (gNm 12))
  (mSeq (mDrop (mMeth c_Net m_Net_put (mV 6) (mCons (mOp dIx (mV 12) (mK (.int 0))) (mCons (mOp dIx (mV 12) (mK (.int 1))) mNil))))
  (mSeq (mAsg (mFn (d1 dLen) (mCons (mOp1 (dFld c_Net 6) (mV 6)) mNil)) (gNm 17))
  (mIfS (mOr (mB (mOp dIsNotN (mMeth c_Net m_Net_settle (mV 6) (mCons (mK (.int 300)) mNil)) (mK (.bl false)))) (mB (mOp dLt (mFn (d1 dLen) (mCons (mOp1 (dFld c_Net 6) (mV 6)) mNil)) (mOp (dAdd mkL) (mV 17) (mK (.int 5)))))) (mRet (mK (.bl false))) mNx)))) mNx)
def a7 : MSt :=
  (mSeq (mLkSM [7] (mAsg (mLc (mIt (mV 7)) (gNm 12) (mB (mOp dEq (mOp dIx (mCall m__law_passed (mCons (mV 4) (mCons (mV 12) mNil))) (mK (.int 0))) (mK (.str ("ring" : Str))))) (mV 12) [12] mkL) (gNm 16)))
  (a8))
def wb9 : MSt :=
  (mSeq (mAsg (mLkM [6, 6] (mLc (mIt (mOp1 (dFld c_Net 6) (mV 6))) (gNm 22) (mB (mOp dEq (mOp dIx (mV 22) (mK (.int 1))) (mV 8))) (mOp dIx (mV 22) (mK (.int 0))) [22] mkL)) (gNm 15))
  (mIfS (mOr (mTru (mFn (d1 dAny) (mCons (mLc (mRange1 (mCons (mOp dSub (mFn (d1 dLen) (mCons (mV 15) mNil)) (mK (.int 1))) mNil)) (gNm 11) mYes (mOp dLt (mOp dSub (mOp dIx (mV 15) (mOp (dAdd mkL) (mV 11) (mK (.int 1)))) (mOp dIx (mV 15) (mV 11))) (mOp dIx (mV 5) (mV 8))) [11] mkL) mNil))) (mTru (mFn (d1 dAny) (mCons (mLkM [6, 6] (mLc (mIt (mOp1 (dFld c_Net 6) (mV 6))) (gNm 22) (mB (mOp dEq (mOp dIx (mV 22) (mK (.int 1))) (mV 8))) (mOp dLt (mOp dIx (mV 22) (mK (.int 4))) (mOp dIx (mV 5) (mV 8))) [22] mkL)) mNil)))) (mRet (mK (.bl false))) mNx))
def a6 : MSt :=
  (mSeq (mFor (mRange1 (mCons (mV 3) mNil)) (gNm 8) (wb9))
  (a7))
def ib : MSt :=
  (mSeq (mAsg (mFn (d1 (dSortG mkL)) (mCons (mLkM [6, 6] (mLc (mIt (mOp1 (dFld c_Net 6) (mV 6))) (gTp 5 (gsCons (gNm 19) (gsCons (gNm 8) (gsCons (gNm 18) (gsCons (gNm 20) (gsCons (gNm 21) gsNil)))))) (mB (mOp dEq (mV 20) (mV 13))) (mTup (mCons (mV 8) (mCons (mV 18) mNil))) [19, 8, 18, 20, 21] mkL)) mNil)) (gNm 14))
  (mIfS (mB (mOp dNe (mV 14) (mFn (d1 (dSortG mkL)) (mCons (mOp dIx (mV 10) (mV 13)) mNil)))) (mRet (mK (.bl false))) mNx))
def a5 : MSt :=
  (mSeq (mFor (mRange1 (mCons (mFn (d1 dLen) (mCons (mV 10) mNil)) mNil)) (gNm 13) (ib))
  (a6))
def a4 : MSt :=
  (mSeq (mIfS (mOr (mB (mOp dIsNotN (mMeth c_Net m_Net_settle (mV 6) (mCons (mOp dPow (mK (.int 10)) (mK (.int 6))) mNil)) (mK (.bl true)))) (mB (mOp dIsNotN (mMeth c_Net m_Net_due (mV 6) mNil) (mK .non)))) (mRet (mK (.bl false))) mNx)
  (a5))
def pb : MSt :=
  (mSeq (mAsg (mOp dIx (mV 9) (mCall m__law_draw (mCons (mV 1) (mCons (mFn (d1 dLen) (mCons (mV 9) mNil)) mNil)))) (gNm 12))
  (mSeq (mIfS (mB (mOp dNe (mMeth c_Net m_Net_put (mV 6) (mCons (mOp dIx (mV 12) (mK (.int 0))) (mCons (mOp dIx (mV 12) (mK (.int 1))) mNil))) (mFn (d1 dLen) (mCons (mV 10) mNil)))) (mRet (mK (.bl false))) mNx)
  (mSeq (mDrop (mMt "list" dAppend (mV 10) (mCons (mOp dIx (mCall m__law_passed (mCons (mV 4) (mCons (mV 12) mNil))) (mK (.int 1))) mNil)))
  (mDrop (mMeth c_Net m_Net_wait (mV 6) (mCons (mOp dIx (mLst (mCons (mK (.int 0)) (mCons (mK (.int 0)) (mCons (mK (.int 3)) (mCons (mK (.int 11)) mNil))))) (mCall m__law_draw (mCons (mV 1) (mCons (mK (.int 4)) mNil)))) mNil))))))
def a3 : MSt :=
  (mSeq (mFor (mRange1 (mCons (mOp dMul (mCall m__law_draw (mCons (mV 1) (mCons (mK (.int 13)) mNil))) (mFn (d1 dInt) (mCons (mOp dGt (mFn (d1 dLen) (mCons (mV 9) mNil)) (mK (.int 0))) mNil))) mNil)) (gNm 11) (pb))
  (a4))
def a2 : MSt :=
  (mSeq (mLkSM [7] (mAsg (mLc (mIt (mV 7)) (gNm 12) (mB (mOp dEq (mOp dIx (mCall m__law_passed (mCons (mV 4) (mCons (mV 12) mNil))) (mK (.int 0))) (mK (.str ("tree" : Str))))) (mV 12) [12] mkL) (gNm 9)))
  (mSeq (mAsg (mObj mNil) (gNm 10))
  (a3)))
def a1 : MSt :=
  (mSeq (mAsg (mLst mNil) (gNm 7))
  (mSeq (mFor (mRange1 (mCons (mV 3) mNil)) (gNm 8) (mAsg (mOp (dAdd mkL) (mV 7) (mLc (mIt (mLst (mCons (mK (.int 0)) (mCons (mK (.int 5)) (mCons (mK (.int 7)) (mCons (mK (.int 2047)) mNil)))))) (gNm 18) mYes (mTup (mCons (mV 8) (mCons (mV 18) mNil))) [18] mkL)) (gNm 7)))
  (a2)))
def lp : MSt :=
  (mSeq (mAsg (mOp (dAdd mkL) (mK (.int 2)) (mCall m__law_draw (mCons (mV 1) (mCons (mK (.int 4)) mNil)))) (gNm 3))
  (mSeq (mAsg (mCall m__law_table (mCons (mV 1) (mCons (mV 3) (mCons (mK (.int 7)) mNil)))) (gNm 4))
  (mSeq (mAsg (mLc (mRange1 (mCons (mV 3) mNil)) (gNm 11) mYes (mOp (dAdd mkL) (mK (.int 1)) (mCall m__law_draw (mCons (mV 1) (mCons (mK (.int 9)) mNil)))) [11] mkL) (gNm 5))
  (mSeq (mAsg (mMake c_Net m_Net___init__ (mCons (mFn (d1 (dList mkL)) (mCons (mV 5) mNil)) (mCons (mCall (m__law_copy 12) (mCons (mV 4) mNil)) mNil))) (gNm 6))
  (a1)))))
def b_law2 : MSt :=
  (mSeq (mAsg (mCall m__law_draws (mCons (mV 0) mNil)) (gNm 1))
  (mSeq (mFor (mRange1 (mCons (mK (.int 2)) mNil)) (gNm 2) (lp))
  (mRet (mK (.bl true)))))
theorem b_law_eq : b_law = b_law2 := rfl
section
variable {S S' S1 : MS} {Q : D → MS → Prop} {P : D → MS → Prop} {E : Exn → MS → Prop} {R : Fl → Prop} {env : En} {a x : D}
theorem ev_ts : ∀ {a b : List (List Int)}, PyData.eqvAll (a.map pT) (b.map pT) = decide (a = b)
  | [], [] => by simp [PyData.eqvAll]
  | [], _ :: _ => by simp [PyData.eqvAll]
  | _ :: _, [] => by simp [PyData.eqvAll]
  | x :: xs, y :: ys => by
    rw [List.map_cons, List.map_cons]
    simp only [PyData.eqvAll, ev_t, ev_ts]
    by_cases h : x = y
    · by_cases h2 : xs = ys
      · simp [h, h2]
      · simp [h, h2]
    · simp [h]
theorem eq_gen {p q : PyData} (e : dEqB S a x = (match toPy a, toPy x with
      | some p, some q => if (SeqAt.shaped p && SeqAt.shaped q) = true then some (PyData.eqv p q) else none
      | _, _ => none)) (h1 : toPy a = some p) (h2 : toPy x = some q) (s1 : SeqAt.shaped p = true) (s2 : SeqAt.shaped q = true) : dEqB S a x = some (PyData.eqv p q) := by
  rw [e, h1, h2]
  dsimp only
  rw [s1, s2]
  rfl
theorem eqW {ll mm : List (List Int)} : dEqB S (.lst (ll.map tD)) (.lst (mm.map tD)) = some (decide (ll = mm)) := by
  have h1 : toPy (.lst (ll.map tD)) = some (.list (ll.map pT)) := by
    show (toPyL (ll.map tD)).map PyData.list = _
    rw [py_ts]
    rfl
  have h2 : toPy (.lst (mm.map tD)) = some (.list (mm.map pT)) := by
    show (toPyL (mm.map tD)).map PyData.list = _
    rw [py_ts]
    rfl
  rw [eq_gen (a := .lst (ll.map tD)) (x := .lst (mm.map tD)) rfl h1 h2 sh_ts sh_ts]
  simp only [PyData.eqv, ev_ts]
end
section
variable {S S' S1 : MS} {Q : D → MS → Prop} {P : D → MS → Prop} {E : Exn → MS → Prop} {R : Fl → Prop} {env : En}
variable {ts : List Int} {t : List (List Int)} {now count : Int} {L L' : List W4} {G G' : List (Option W4)} {lg : List L5} {r wt gt dn du k : Nat} {puts spots trees : List (List Int)}
variable {o0 o1 o2 o3 o7 o8 o9 o11 o12 o13 o14 o15 o16 o17 o18 o19 o20 o21 o22 : Option D}
def k2 (p : Int × Int) : List Int := [p.1, p.2]
theorem k2_inj : ∀ a b, k2 a = k2 b → a = b := by
  rintro ⟨a, b⟩ ⟨c, d⟩ h
  injection h with h1 h2
  injection h2 with h2 _
  have h1 : a = c := h1
  have h2 : b = d := h2
  rw [h1, h2]
theorem k2_ne (a : Int × Int) : k2 a ≠ [] := by simp [k2]
def dueD (t : List (List Int)) (s : List Int) : D := .lst ((resS t s).1.map fun w => tD (w.getLastD []))
theorem due_k2 {s : List Int} (h : TS t s) : dueD t s = .lst (((resS t s).1.map ls2).map fun p => tD (k2 p)) := by
  unfold dueD
  rw [List.map_map]
  congr 1
  refine List.map_congr_left fun w hw => ?_
  obtain ⟨a, b, e⟩ := two (h.l2 w hw)
  show tD (w.getLastD []) = tD (k2 (sp2 (w.getLastD [])))
  rw [e]
  rfl
theorem lc_gf {α : Type} {enc : α → D} {l : List α} {g : MG} {ev : α → En} {f : α → Bool} {gg : α → D} {tt : MT} {te : ME} {Q : List D → MS → Prop} {E : Exn → MS → Prop} (hg : ∀ x ∈ l, g (enc x) env S = some (ev x, S)) (hf : ∀ x ∈ l, tt (ev x) S = some (.ok (f x) S)) (he : ∀ x ∈ l, te (ev x) S = some (.ok (gg x) S)) : wp (lcM g tt te env (l.map enc)) S Q E = Q ((l.filter f).map gg) S := by
  refine wp_of (wp_ex (S := S) (S1 := S) (v := (l.filter f).map gg) ?_)
  refine lc_br (fun i acc S' => acc = ((l.take i).filter f).map gg ∧ S' = S) ⟨by simp, rfl⟩ ?_ ?_
  · rintro i d acc S' hd ⟨rfl, rfl⟩
    have hk : i < l.length := by
      have := (List.getElem?_eq_some_iff.mp hd).1
      simpa using this
    have ex : d = enc l[i] := by
      rw [List.getElem?_map, List.getElem?_eq_getElem hk] at hd
      exact (Option.some.inj hd).symm
    subst ex
    rw [hg _ (List.getElem_mem hk)]
    dsimp only [wpO]
    rw [wp_of (hf _ (List.getElem_mem hk)), List.take_succ_eq_append_getElem hk, List.filter_append, List.map_append]
    cases c : f l[i] with
    | true =>
      rw [br_true, wp_of (he _ (List.getElem_mem hk)), List.filter_cons_of_pos c]
      exact ⟨rfl, rfl⟩
    | false =>
      rw [br_false, List.filter_cons_of_neg (by rw [c]; exact Bool.false_ne_true)]
      exact ⟨by simp, rfl⟩
  · rintro acc S' ⟨rfl, rfl⟩
    rw [List.length_map, List.take_length]
    exact ⟨rfl, rfl⟩
theorem w_ib (hp : PN S r wt gt ts t now count L G lg) (hdu : S.get du = some (.lst (puts.map (dueD t)))) (hk : k < puts.length) (hpm : (lg.map lk).Perm (Pn t puts puts.length)) (hts : ∀ s ∈ puts, TS t s) (hlg : lg.length ≤ 1000)
    (K : ∀ o14, R (.nx [o0, some (.obj dn), o2, o3, some (.lst (t.map tD)), some (.lst (ts.map D.int)), some (.obj r), o7, o8, o9, some (.obj du), o11, o12, some (.int (k : Int)), o14, o15, o16, o17, o18, o19, o20, o21, o22] S)) :
    wpS (ib [o0, some (.obj dn), o2, o3, some (.lst (t.map tD)), some (.lst (ts.map D.int)), some (.obj r), o7, o8, o9, some (.obj du), o11, o12, some (.int (k : Int)), o14, o15, o16, o17, o18, o19, o20, o21, o22] S) R := by
  unfold ib
  have hs : puts.getD k [] ∈ puts := by
    rw [List.getD_eq_getElem?_getD, List.getElem?_eq_getElem hk]
    exact List.getElem_mem hk
  have hT := hts _ hs
  have hc := (came_once hpm hk).trans hT.pm.symm
  have hat : atI (puts.map (dueD t)) (k : Int) = some (dueD t (puts.getD k [])) := by
    rw [at_nat (ds := puts.map (dueD t)) (j := k) (by rw [List.length_map]; exact hk), List.getElem_map, List.getD_eq_getElem?_getD, List.getElem?_eq_getElem hk]
    rfl
  have hso := so_perm k2_inj hc
  have hlen : (cameL lg (k : Int)).length ≤ 1000 := by
    unfold cameL
    rw [List.length_map]
    exact Nat.le_trans (List.length_filter_le _ _) hlg
  have hlen2 : ((resS t (puts.getD k [])).1.map ls2).length ≤ 1000 := by rw [← hc.length_eq]; exact hlen
  have eL : ((lg.filter fun l => decide (l.2.2.2.1 = (k : Int))).map fun l => D.tup [.int l.2.1, .int l.2.2.1]) = (cameL lg (k : Int)).map fun p => tD (k2 p) := by
    unfold cameL
    rw [List.map_map]
    rfl
  (simp_arith [true_and])
  rw [lkm_no (ref66 (i := 6) rfl hp.gr rfl)]
  (simp_arith [true_and, hp.gr, wipe_c, wipe_n])
  rw [lc_gf (enc := d5) (f := fun l : L5 => decide (l.2.2.2.1 = (k : Int))) (gg := fun l : L5 => D.tup [.int l.2.1, .int l.2.2.1]) (ev := fun l => [o0, some (.obj dn), o2, o3, some (.lst (t.map tD)), some (.lst (ts.map D.int)), some (.obj r), o7, some (.int l.2.1), o9, some (.obj du), o11, o12, some (.int (k : Int)), o14, o15, o16, o17, some (.int l.2.2.1), some (.int l.1), some (.int l.2.2.2.1), some (.int l.2.2.2.2), o22]) (fun l hl => rfl) (fun l hl => wp_ex ?_) (fun l hl => wp_ex ?_), eL]
  · have sC : Small (cameL lg (k : Int)).length := small_of (by omega)
    have sC2 : ∀ {l : List (Int × Int)}, l.length ≤ 1000 → Small l.length := fun h => small_of (by omega)
    have l1 : (soK k2 (cameL lg (k : Int))).length ≤ 1000 := by rw [so_pm.length_eq]; exact hlen
    have en : ∀ S (l : List (Int × Int)), (dEqB S (.lst (l.map fun p => tD (k2 p))) (.lst (l.map fun p => tD (k2 p)))).map (!·) = some false := fun S l => by
      have e : (l.map fun p => tD (k2 p)) = (l.map k2).map tD := by rw [List.map_map]; rfl
      rw [e, eqW, decide_eq_true rfl]
      rfl
    rw [List.length_map]
    refine ⟨sC, sC, ?_⟩
    rw [x_sortK k2_ne]
    (simp_arith [true_and, List.length_map, sC2 l1, hdu, hat, due_k2 hT, x_sortK k2_ne, ← hso, x_ne, en])
    try (simp_arith [true_and, List.length_map, sC2 l1, hdu, hat, due_k2 hT, x_sortK k2_ne, ← hso, x_ne, en])
    exact K _
  · (simp_arith [true_and])
  · (simp_arith [true_and, sm2])
/-- ends of a wire, one behind the other -/
theorem w_eb {w : Nat} {o : Option D} (hp : PN S r wt gt ts t now count L G lg) (hi : TI ts now L G lg) (hw : w < ts.length) (hlg : lg.length ≤ 1000)
    (K : ∀ o15, R (.nx [o0, some (.obj dn), o2, o3, some (.lst (t.map tD)), some (.lst (ts.map D.int)), some (.obj r), o7, some (.int (w : Int)), o9, some (.obj du), o11, o12, o13, o14, o15, o16, o17, o18, o19, o20, o21, o22] S)) :
    wpS (wb9 [o0, some (.obj dn), o2, o3, some (.lst (t.map tD)), some (.lst (ts.map D.int)), some (.obj r), o7, some (.int (w : Int)), o9, some (.obj du), o11, o12, o13, o14, o15, o16, o17, o18, o19, o20, o21, o22] S) R := by
  unfold wb9
  have hE : (ew w lg).length ≤ 1000 := by
    unfold ew
    rw [List.length_map]
    exact Nat.le_trans (List.length_filter_le _ _) hlg
  have sE : Small (ew w lg).length := small_of (by omega)
  have hg := hi.gp w hw
  have eE : ((lg.filter fun l => decide (l.2.1 = (w : Int))).map fun l => D.int l.1) = (ew w lg).map D.int := by
    unfold ew
    rw [List.map_map]
    rfl
  (simp_arith [true_and])
  rw [lkm_no (ref66 (i := 6) rfl hp.gr rfl)]
  (simp_arith [true_and, hp.gr, wipe_c, wipe_n])
  rw [lc_fm (enc := d5) (f := fun l : L5 => decide (l.2.1 = (w : Int))) (g := fun l : L5 => D.int l.1) (fun l hl => wp_ex ?_) (fun l hl => wp_ex ?_), eE]
  · have e1 : ∃ n : Nat, rngD1 [.int (((ew w lg).length : Int) - 1)] = some (rngN 0 1 n) ∧ n + 1 ≤ (ew w lg).length + 1 ∧ ∀ i, i < n → i + 1 < (ew w lg).length := by
      by_cases c : 0 < (ew w lg).length
      · obtain ⟨n, hn⟩ : ∃ n, (ew w lg).length = n + 1 := ⟨(ew w lg).length - 1, by omega⟩
        refine ⟨n, ?_, by omega, fun i h => by omega⟩
        rw [hn, show ((n + 1 : Nat) : Int) - 1 = (n : Int) by omega]
        exact rngD1_nat (by omega)
      · have : (ew w lg).length = 0 := by omega
        refine ⟨0, ?_, by omega, fun i h => by omega⟩
        rw [this]
        rfl
    obtain ⟨n, e1, hn, hlt⟩ := e1
    have sN : Small n := small_of (by omega)
    have e9 := at_ts hw
    (simp_arith [true_and, List.length_map, sE, e1, rng_mp, wipe_c, wipe_n])
    rw [lc_mp (enc := fun i : Nat => D.int (i : Int)) (g := fun i : Nat => D.bl (decide ((ew w lg).getD (i + 1) 0 - (ew w lg).getD i 0 < ts.getD w 0))) (fun i hi => wp_ex ?_)]
    · have a1 : ((List.range n).map fun i : Nat => decide ((ew w lg).getD (i + 1) 0 - (ew w lg).getD i 0 < ts.getD w 0)).any id = false := by
        rw [List.any_eq_false]
        intro b hb
        obtain ⟨i, hi, rfl⟩ := List.mem_map.mp hb
        have := hg i (hlt i (List.mem_range.mp hi))
        rw [decide_eq_false (by omega)]
        exact Bool.false_ne_true
      rw [List.length_map, List.length_range]
      refine ⟨sN, sN, ?_⟩
      rw [x_any bls_map, a1]
      (simp_arith [true_and])
      rw [lkm_no (ref66 (i := 6) rfl hp.gr rfl)]
      (simp_arith [true_and, hp.gr, wipe_c, wipe_n])
      rw [lc_fm (enc := d5) (f := fun l : L5 => decide (l.2.1 = (w : Int))) (g := fun l : L5 => D.bl (decide (l.2.2.2.2 < ts.getD w 0))) (fun l hl => wp_ex ?_) (fun l hl => wp_ex ?_)]
      · have sF : Small (lg.filter fun l => decide (l.2.1 = (w : Int))).length := small_of (by have := List.length_filter_le (fun l : L5 => decide (l.2.1 = (w : Int))) lg; omega)
        have a2 : ((lg.filter fun l => decide (l.2.1 = (w : Int))).map fun l : L5 => decide (l.2.2.2.2 < ts.getD w 0)).any id = false := by
          rw [List.any_eq_false]
          intro b hb
          obtain ⟨l, hl, rfl⟩ := List.mem_map.mp hb
          have hl := List.mem_filter.mp hl
          have := hi.lw w hw l hl.1 (of_decide_eq_true hl.2)
          rw [decide_eq_false (by omega)]
          exact Bool.false_ne_true
        rw [List.length_map]
        refine ⟨sF, sF, ?_⟩
        rw [x_any bls_map, a2]
        (simp_arith [true_and])
        exact K _
      · have e : d5 l = .tup [.int l.1, .int l.2.1, .int l.2.2.1, .int l.2.2.2.1, .int l.2.2.2.2] := rfl
        (simp_arith [true_and, e])
      · have e : d5 l = .tup [.int l.1, .int l.2.1, .int l.2.2.1, .int l.2.2.2.1, .int l.2.2.2.2] := rfl
        have e4 : atI [D.int l.1, D.int l.2.1, D.int l.2.2.1, D.int l.2.2.2.1, D.int l.2.2.2.2] 4 = some (.int l.2.2.2.2) := rfl
        (simp_arith [true_and, e, e4, e9])
    · have hi2 := hlt i (List.mem_range.mp hi)
      have b1 := at_ts (ts := ew w lg) hi2
      have b2 := at_ts (ts := ew w lg) (show i < (ew w lg).length by omega)
      have b3 : atI ((ew w lg).map D.int) ((i : Int) + 1) = some (.int ((ew w lg).getD (i + 1) 0)) := b1
      (simp_arith [true_and, b3, b2, e9])
  · have e : d5 l = .tup [.int l.1, .int l.2.1, .int l.2.2.1, .int l.2.2.2.1, .int l.2.2.2.2] := rfl
    (simp_arith [true_and, e])
  · have e : d5 l = .tup [.int l.1, .int l.2.1, .int l.2.2.1, .int l.2.2.2.1, .int l.2.2.2.2] := rfl
    (simp_arith [true_and, e])
end
end G93
namespace G93
open PySem L2 Mi Gu
structure HC (ts : List Int) (t : List (List Int)) : Prop where
  n5 : ts.length ≤ 5
  h9 : ∀ x ∈ ts, (1 : Int) ≤ x ∧ x ≤ 9
  hr : ∀ x ∈ t, Rt ts.length x
  t7 : t.length ≤ 7
/-- a spot of a net -/
def St (ts : List Int) (s : List Int) : Prop := ∃ (a : Nat) (b : Int), s = [(a : Int), b] ∧ a < ts.length ∧ 0 ≤ b ∧ b ≤ 2047
structure PV (S : MS) (dn r wt gt du : Nat) (ts : List Int) (t : List (List Int)) (puts : List (List Int)) (now : Int) (L : List W4) (G : List (Option W4)) (lg : List L5) : Prop where
  hd : DrO S dn
  l0 : dn < S.nx
  hp : PN S r wt gt ts t now (puts.length : Int) L G lg
  l1 : r < S.nx
  l2 : wt < S.nx
  l3 : gt < S.nx
  gd : S.get du = some (.lst (puts.map (dueD t)))
  l4 : du < S.nx
  ti : TI ts now L G lg
  xi : XI t 5 (Pn t puts puts.length) L G lg
  ts' : ∀ s ∈ puts, TS t s
  n1 : dn ≠ r
  n2 : dn ≠ wt
  n3 : dn ≠ gt
  n4 : dn ≠ du
  n5 : du ≠ r
  n6 : du ≠ wt
  n7 : du ≠ gt
section
variable {S S' S1 : MS} {Q : D → MS → Prop} {P : D → MS → Prop} {E : Exn → MS → Prop} {R : Fl → Prop} {env : En}
variable {ts : List Int} {t : List (List Int)} {now count : Int} {L L' : List W4} {G G' : List (Option W4)} {lg : List L5} {r wt gt dn du k : Nat} {puts spots trees : List (List Int)}
variable {o0 o1 o2 o3 o7 o8 o9 o11 o12 o13 o14 o15 o16 o17 o18 o19 o20 o21 o22 : Option D}
theorem x_isNB {a b : Bool} : wp (dIsNotN (.bl a) (.bl b)) S P E = P (.bl (!decide (a = b))) S := propext Iff.rfl
theorem HC.h4 (h : HC ts t) : ∀ x ∈ t, x.length = 4 := fun x hx => by
  obtain ⟨a, b, c, d, rfl, _⟩ := h.hr x hx
  rfl
theorem TS.rl {s : List Int} {i : Int} (h : TS t s) : (rR t 5 (sp2 s, i)).length ≤ 5 := by
  unfold rR
  rw [List.length_map, ← h.pm.length_eq, List.length_map]
  exact h.ln
theorem Pn_len : ∀ {n : Nat}, n ≤ puts.length → (∀ s ∈ puts, TS t s) → (Pn t puts n).length ≤ 5 * n
  | 0, _, _ => Nat.le_refl _
  | n + 1, hn, h => by
    rw [Pn_s, List.length_append]
    have ih := Pn_len (n := n) (by omega) h
    have := (h (puts.getD n []) (by
      rw [List.getD_eq_getElem?_getD, List.getElem?_eq_getElem (show n < puts.length by omega)]
      exact List.getElem_mem _)).rl (i := (n : Int))
    omega
theorem w_pb (hc : HC ts t) (h : PV S dn r wt gt du ts t puts now L G lg) (hpl : puts.length < 12) (ht0 : 0 < trees.length) (htl : trees.length ≤ 100) (htr : ∀ s ∈ trees, St ts s ∧ kdS (resS t s) = "tree")
    (K : ∀ S' puts' now' L' G' lg' o12, puts'.length = puts.length + 1 → PV S' dn r wt gt du ts t puts' now' L' G' lg' → R (.nx [o0, some (.obj dn), o2, o3, some (.lst (t.map tD)), some (.lst (ts.map D.int)), some (.obj r), o7, o8, some (.lst (trees.map tD)), some (.obj du), o11, o12, o13, o14, o15, o16, o17, o18, o19, o20, o21, o22] S')) :
    wpS (pb [o0, some (.obj dn), o2, o3, some (.lst (t.map tD)), some (.lst (ts.map D.int)), some (.obj r), o7, o8, some (.lst (trees.map tD)), some (.obj du), o11, o12, o13, o14, o15, o16, o17, o18, o19, o20, o21, o22] S) R := by
  unfold pb
  have hn5 := hc.n5
  have ht7 := hc.t7
  (simp_arith [true_and, q_draw, List.length_map])
  refine draw_at h.hd (by omega) (by omega) fun v S1 v0 v1 d1 => ?_
  have m1 := d1.nx
  have hp1 := h.hp.fr (Fr.dr d1) h.l1 h.l2 h.l3 (by simp; exact h.n1.symm) (by simp; exact h.n2.symm) (by simp; exact h.n3.symm)
  have gd1 : S1.get du = _ := (d1.ne du h.n4.symm).trans h.gd
  have hd1 := d1.dr
  have l0 := h.l0
  have l1 := h.l1
  have l2 := h.l2
  have l3 := h.l3
  have l4 := h.l4
  clear d1
  (simp_arith [true_and])
  refine pick v0 (by rw [List.length_map]; exact v1) fun d hd => ?_
  obtain ⟨s, hs, rfl⟩ := List.mem_map.mp hd
  obtain ⟨⟨a, b, rfl, ha, b0, b1⟩, hk⟩ := htr s hs
  have hT := tree_ts hc.hr hc.n5 (by omega) (a := (a : Int)) (b := b) (by omega) hk
  have e2 : tD [(a : Int), b] = .tup [.int (a : Int), .int b] := rfl
  have hsz := h.xi.sz
  have hP := Pn_len (Nat.le_refl _) h.ts'
  rw [e2]
  (simp_arith [true_and, hp1.gr])
  refine hp1.put ha b0 b1 (by omega) fun S2 m2 f2 hp2 => ?_
  have gd2 : S2.get du = _ := f2.at gd1 (by omega) (by simp; exact ⟨h.n5, h.n6, h.n7⟩)
  have hd2 : DrO S2 dn := f2.dro hd1 (by omega) (by simp; exact ⟨h.n1, h.n2, h.n3⟩)
  have cn : decide ((puts.length : Int) = (puts.length : Int)) = true := decide_eq_true rfl
  (simp_arith [true_and, gd2, List.length_map, cn])
  try (simp_arith [true_and, gd2, List.length_map, cn])
  rw [← e2]
  refine w_lp2 (s := [(a : Int), b]) hc.h4 (by omega) rfl fun S3 f3 => ?_
  have gd3 : S3.get du = _ := f3.at gd2 (by omega) (by simp)
  have hd3 : DrO S3 dn := f3.dro hd2 (by omega) (by simp)
  have hp3 := hp2.fr f3 (by omega) (by omega) (by omega) (by simp) (by simp) (by simp)
  have m3 := f3.nx
  have e3 : dueD t [(a : Int), b] = .lst ((resS t [(a : Int), b]).1.map fun w => tD (w.getLastD [])) := rfl
  have hz : ((puts.map (dueD t)).length < lineN) = True := eq_true (by rw [List.length_map]; show puts.length < 16777216; omega)
  rw [hT.rs, ← e3]
  (simp_arith [true_and, gd3, hz, q_draw])
  try (simp_arith [true_and, gd3, hz, q_draw])
  have f4 : Fr [du] S3 (S3.set du (.lst (puts.map (dueD t) ++ [dueD t [(a : Int), b]]))) := Fr.set (by simp)
  have hp4 := hp3.fr f4 (by omega) (by omega) (by omega) (by simp; exact h.n5.symm) (by simp; exact h.n6.symm) (by simp; exact h.n7.symm)
  have hd4 : DrO (S3.set du (.lst (puts.map (dueD t) ++ [dueD t [(a : Int), b]]))) dn := f4.dro hd3 (by omega) (by simp; exact h.n4)
  have gd4 : (S3.set du (.lst (puts.map (dueD t) ++ [dueD t [(a : Int), b]]))).get du = some (.lst (puts.map (dueD t) ++ [dueD t [(a : Int), b]])) := get_same
  have m4 : (S3.set du (.lst (puts.map (dueD t) ++ [dueD t [(a : Int), b]]))).nx = S3.nx := nxS
  generalize S3.set du (.lst (puts.map (dueD t) ++ [dueD t [(a : Int), b]])) = S4 at f4 hp4 hd4 gd4 m4 ⊢
  (simp_arith [true_and, hp4.gr, sm4])
  refine draw_at hd4 (by omega) (by omega) fun v' S5 v0' v1' d5' => ?_
  have m5 := d5'.nx
  have hp5 := hp4.fr (Fr.dr d5') (by omega) (by omega) (by omega) (by simp; exact h.n1.symm) (by simp; exact h.n2.symm) (by simp; exact h.n3.symm)
  have gd5 : S5.get du = _ := (d5'.ne du h.n4.symm).trans gd4
  have hd5 := d5'.dr
  clear d5'
  (simp_arith [true_and])
  refine pick v0' (by simpa using v1') fun x hx => ?_
  obtain ⟨k, rfl, hk⟩ : ∃ k : Nat, x = .int (k : Int) ∧ k ≤ 11 := by
    simp only [List.mem_cons, List.not_mem_nil, or_false] at hx
    rcases hx with rfl | rfl | rfl | rfl
    · exact ⟨0, rfl, by omega⟩
    · exact ⟨0, rfl, by omega⟩
    · exact ⟨3, rfl, by omega⟩
    · exact ⟨11, rfl, by omega⟩
  have ti2 : TI ts now (goesN ts now ts.length (L ++ [((a : Int), b, (puts.length : Int), now)], G)).1 (goesN ts now ts.length (L ++ [((a : Int), b, (puts.length : Int), now)], G)).2 lg := h.ti.put hc.h9 (by omega)
  have xi2 : XI t 5 (Pn t (puts ++ [[(a : Int), b]]) (puts ++ [[(a : Int), b]]).length) (goesN ts now ts.length (L ++ [((a : Int), b, (puts.length : Int), now)], G)).1 (goesN ts now ts.length (L ++ [((a : Int), b, (puts.length : Int), now)], G)).2 lg := by
    rw [Pn_snoc]
    exact h.xi.put (w := (a : Int)) (num := b) (idx := (puts.length : Int)) (ts := ts) (now := now) hT.fn
  have hts' : ∀ s ∈ puts ++ [[(a : Int), b]], TS t s := fun s hs => by
    rcases List.mem_append.mp hs with hs | hs
    · exact h.ts' s hs
    · rw [List.mem_singleton.mp hs]; exact hT
  generalize goesN ts now ts.length (L ++ [((a : Int), b, (puts.length : Int), now)], G) = Z at hp2 hp3 hp4 hp5 ti2 xi2
  have hsz2 := xi2.sz
  have hP2 := Pn_len (Nat.le_refl _) hts'
  rw [List.length_append, List.length_singleton] at hP2
  have inv := st_inv ti2 hc.hr hc.h9 xi2 (i := k)
  have hl2 : (puts ++ [[(a : Int), b]]).length = puts.length + 1 := by rw [List.length_append]; rfl
  rw [hl2] at hsz2
  refine hp5.wait hc.t7 hc.hr (fun x hx => (hc.h9 x hx).1) ti2.ab (by omega) (by omega) (by omega) (k := k) (by omega) (by omega) (by omega) fun S6 m6 f6 hp6 => ?_
  refine K S6 (puts ++ [[(a : Int), b]]) _ _ _ _ _ hl2 ⟨f6.dro hd5 (by omega) (by simp; exact ⟨h.n1, h.n2, h.n3⟩), by omega, ?_, by omega, by omega, by omega, ?_, by omega, inv.1, inv.2, hts', h.n1, h.n2, h.n3, h.n4, h.n5, h.n6, h.n7⟩
  · rw [hl2]
    exact hp6
  · rw [List.map_append]
    exact f6.at gd5 (by omega) (by simp; exact ⟨h.n5, h.n6, h.n7⟩)
/-- a ring never comes to rest -/
theorem w_a8 {rings : List (List Int)} (hc : HC ts t) (h : PV S dn r wt gt du ts t puts now L G lg) (hL : L.length ≤ 50) (hlg : lg.length ≤ 100) (hrl : rings.length ≤ 100) (hrr : ∀ s ∈ rings, St ts s ∧ kdS (resS t s) = "ring")
    (K : ∀ S' o12 o17, DrO S' dn → dn < S'.nx → R (.nx [o0, some (.obj dn), o2, o3, some (.lst (t.map tD)), some (.lst (ts.map D.int)), some (.obj r), o7, o8, o9, some (.obj du), o11, o12, o13, o14, o15, some (.lst (rings.map tD)), o17, o18, o19, o20, o21, o22] S')) :
    wpS (a8 [o0, some (.obj dn), o2, o3, some (.lst (t.map tD)), some (.lst (ts.map D.int)), some (.obj r), o7, o8, o9, some (.obj du), o11, o12, o13, o14, o15, some (.lst (rings.map tD)), o17, o18, o19, o20, o21, o22] S) R := by
  unfold a8
  have hn5 := hc.n5
  have ht7 := hc.t7
  have l0 := h.l0
  have l1 := h.l1
  have l2 := h.l2
  have l3 := h.l3
  (simp_arith [true_and, List.length_map])
  refine br_dec (fun c => ?_) (fun c => ?_)
  · (simp_arith [true_and, q_draw, List.length_map])
    refine draw_at h.hd (by omega) (by omega) fun v S1 v0 v1 d1 => ?_
    have m1 := d1.nx
    have hp1 := h.hp.fr (Fr.dr d1) h.l1 h.l2 h.l3 (by simp; exact h.n1.symm) (by simp; exact h.n2.symm) (by simp; exact h.n3.symm)
    have hd1 := d1.dr
    clear d1
    (simp_arith [true_and])
    refine pick v0 (by rw [List.length_map]; exact v1) fun d hd => ?_
    obtain ⟨s, hs, rfl⟩ := List.mem_map.mp hd
    obtain ⟨⟨a, b, rfl, ha, b0, b1⟩, hk⟩ := hrr s hs
    obtain ⟨C, hC0, hC⟩ := ring_cy hc.h4 (by omega) hk
    have e2 : tD [(a : Int), b] = .tup [.int (a : Int), .int b] := rfl
    rw [e2]
    (simp_arith [true_and, hp1.gr])
    refine hp1.put ha b0 b1 (by omega) fun S2 m2 f2 hp2 => ?_
    have hd2 : DrO S2 dn := f2.dro hd1 (by omega) (by simp; exact ⟨h.n1, h.n2, h.n3⟩)
    have ti2 : TI ts now (goesN ts now ts.length (L ++ [((a : Int), b, (puts.length : Int), now)], G)).1 (goesN ts now ts.length (L ++ [((a : Int), b, (puts.length : Int), now)], G)).2 lg := h.ti.put hc.h9 (by omega)
    have rt := put_tok (ts := ts) (now := now) (w := (a : Int)) (num := b) (idx := (puts.length : Int)) (L := L) (G := G)
    have ri : RI C (goesN ts now ts.length (L ++ [((a : Int), b, (puts.length : Int), now)], G)).1 (goesN ts now ts.length (L ++ [((a : Int), b, (puts.length : Int), now)], G)).2 := ⟨(((a : Int), b), (puts.length : Int)), rt.mem_iff.mpr List.mem_cons_self, hC0⟩
    have zl := goesN_le (ts := ts) (now := now) (σ := (L ++ [((a : Int), b, (puts.length : Int), now)], G)) (k := ts.length)
    dsimp only at zl
    rw [List.length_append, List.length_singleton] at zl
    generalize goesN ts now ts.length (L ++ [((a : Int), b, (puts.length : Int), now)], G) = Z at hp2 ti2 ri zl
    (simp_arith [true_and, hp2.gr, List.length_map])
    try (simp_arith [true_and, hp2.gr, List.length_map])
    refine hp2.settleR hc.t7 hc.hr hc.h9 (by omega) (by omega) (by omega) ti2 hC ri (by omega) (by omega) fun S3 now' L' G' lg' m3 f3 hp3 hlen => ?_
    have c2 : decide ((lg'.length : Int) < (lg.length : Int) + 5) = false := decide_eq_false (by omega)
    have cb : decide (false = false) = true := rfl
    (simp_arith [true_and, x_isNB, cb, hp3.gr, List.length_map, c2])
    try (simp_arith [true_and, x_isNB, cb, hp3.gr, List.length_map, c2])
    exact K _ _ _ (f3.dro hd2 (by omega) (by simp; exact ⟨h.n1, h.n2, h.n3⟩)) (by omega)
  · (simp_arith [true_and])
    exact K _ _ _ h.hd h.l0
end
end G93
namespace G93
open PySem L2 Mi Gu
def Env0 (sc : D) (dn : Nat) (e : En) : Prop := ∃ o2 o3 o4 o5 o6 o7 o8 o9 o10 o11 o12 o13 o14 o15 o16 o17 o18 o19 o20 o21 o22, e = [some sc, some (.obj dn), o2, o3, o4, o5, o6, o7, o8, o9, o10, o11, o12, o13, o14, o15, o16, o17, o18, o19, o20, o21, o22]
section
variable {S S' S1 : MS} {Q : D → MS → Prop} {P : D → MS → Prop} {E : Exn → MS → Prop} {R : Fl → Prop} {env : En}
variable {ts : List Int} {t : List (List Int)} {now count : Int} {L L' : List W4} {G G' : List (Option W4)} {lg : List L5} {r wt gt dn du k : Nat} {puts spots trees : List (List Int)} {sc : D}
variable {o0 o1 o2 o3 o7 o8 o9 o11 o12 o13 o14 o15 o16 o17 o18 o19 o20 o21 o22 : Option D}
theorem PV.grow (h : PV S dn r wt gt du ts t puts now L G lg) (f : Fr [] S S') : PV S' dn r wt gt du ts t puts now L G lg :=
  have n := f.nx
  have l0 := h.l0
  have l1 := h.l1
  have l2 := h.l2
  have l3 := h.l3
  have l4 := h.l4
  { h with hd := f.dro h.hd h.l0 (by simp), l0 := by omega, hp := h.hp.fr f h.l1 h.l2 h.l3 (by simp) (by simp) (by simp), l1 := by omega, l2 := by omega, l3 := by omega, gd := f.at h.gd h.l4 (by simp), l4 := by omega }
theorem no7 (ds : List D) (h : env[7]? = some (some (.lst ds))) : needLk S env [7] = false := by
  unfold needLk refOf
  dsimp only
  rw [h]
theorem w_a7 (hc : HC ts t) (h : PV S dn r wt gt du ts t puts now L G lg) (hL : L.length ≤ 50) (hlg : lg.length ≤ 100) (hsl : spots.length ≤ 100) (hsp : ∀ s ∈ spots, St ts s)
    (K : ∀ S' e', Env0 sc dn e' → DrO S' dn → dn < S'.nx → R (.nx e' S')) :
    wpS (a7 [some sc, some (.obj dn), o2, o3, some (.lst (t.map tD)), some (.lst (ts.map D.int)), some (.obj r), some (.lst (spots.map tD)), o8, o9, some (.obj du), o11, o12, o13, o14, o15, o16, o17, o18, o19, o20, o21, o22] S) R := by
  have ht7 := hc.t7
  unfold a7
  rw [wpS_seq, lks_no (no7 _ rfl)]
  (simp_arith [true_and, wipe_c, wipe_n])
  refine lc_kind rfl (by simp) hc.h4 (by omega) (fun s hs => by obtain ⟨a, b, rfl, _⟩ := hsp s hs; rfl) fun S1 f1 => ?_
  have hfl := List.length_filter_le (fun s => decide (kdS (resS t s) = "ring")) spots
  have sF : Small ((spots.filter fun s => decide (kdS (resS t s) = "ring")).map tD).length := small_of (by rw [List.length_map]; omega)
  refine ⟨sF, ?_⟩
  try (simp_arith [true_and, sF])
  refine w_a8 hc (h.grow f1) hL hlg (by omega) (fun s hs => ?_) fun S' p12 p17 hd hl => ?_
  · have hs := List.mem_filter.mp hs
    exact ⟨hsp s hs.1, of_decide_eq_true hs.2⟩
  · exact K S' _ ⟨_, _, _, _, _, _, _, _, _, _, _, _, _, _, _, _, _, _, _, _, _, rfl⟩ hd hl
theorem w_a6 (hc : HC ts t) (h : PV S dn r wt gt du ts t puts now L G lg) (hL : L.length ≤ 50) (hlg : lg.length ≤ 100) (hsl : spots.length ≤ 100) (hsp : ∀ s ∈ spots, St ts s)
    (K : ∀ S' e', Env0 sc dn e' → DrO S' dn → dn < S'.nx → R (.nx e' S')) :
    wpS (a6 [some sc, some (.obj dn), o2, some (.int (ts.length : Int)), some (.lst (t.map tD)), some (.lst (ts.map D.int)), some (.obj r), some (.lst (spots.map tD)), o8, o9, some (.obj du), o11, o12, o13, o14, o15, o16, o17, o18, o19, o20, o21, o22] S) R := by
  have hn5 := hc.n5
  unfold a6
  (simp_arith [true_and, rngD1_nat (show ts.length < 4611686018427387904 by omega)])
  refine loop_inv (fun i e S1 => S1 = S ∧ ∃ o8 o15, e = [some sc, some (.obj dn), o2, some (.int (ts.length : Int)), some (.lst (t.map tD)), some (.lst (ts.map D.int)), some (.obj r), some (.lst (spots.map tD)), o8, o9, some (.obj du), o11, o12, o13, o14, o15, o16, o17, o18, o19, o20, o21, o22]) ⟨rfl, _, _, rfl⟩ ?_ ?_
  · rintro i z e S1 hz ⟨rfl, o8, o15, rfl⟩
    obtain ⟨hi, rfl⟩ := rng01 hz
    (simp_arith [true_and])
    exact w_eb (o := none) h.hp h.ti hi (by omega) fun o15 => ⟨rfl, _, _, rfl⟩
  · rintro e S1 ⟨rfl, o8, o15, rfl⟩
    rw [k_nx]
    with_reducible exact w_a7 hc h hL hlg hsl hsp K
theorem w_a5 (hc : HC ts t) (h : PV S dn r wt gt du ts t puts now L G lg) (hpl : puts.length ≤ 12) (hpm : (lg.map lk).Perm (Pn t puts puts.length)) (hL : L.length ≤ 50) (hlg : lg.length ≤ 100) (hsl : spots.length ≤ 100) (hsp : ∀ s ∈ spots, St ts s)
    (K : ∀ S' e', Env0 sc dn e' → DrO S' dn → dn < S'.nx → R (.nx e' S')) :
    wpS (a5 [some sc, some (.obj dn), o2, some (.int (ts.length : Int)), some (.lst (t.map tD)), some (.lst (ts.map D.int)), some (.obj r), some (.lst (spots.map tD)), o8, o9, some (.obj du), o11, o12, o13, o14, o15, o16, o17, o18, o19, o20, o21, o22] S) R := by
  have hn5 := hc.n5
  unfold a5
  (simp_arith [true_and, h.gd, List.length_map, rngD1_nat (show puts.length < 4611686018427387904 by omega)])
  refine loop_inv (fun i e S1 => S1 = S ∧ ∃ o13 o14, e = [some sc, some (.obj dn), o2, some (.int (ts.length : Int)), some (.lst (t.map tD)), some (.lst (ts.map D.int)), some (.obj r), some (.lst (spots.map tD)), o8, o9, some (.obj du), o11, o12, o13, o14, o15, o16, o17, o18, o19, o20, o21, o22]) ⟨rfl, _, _, rfl⟩ ?_ ?_
  · rintro i z e S1 hz ⟨rfl, o13, o14, rfl⟩
    obtain ⟨hi, rfl⟩ := rng01 hz
    (simp_arith [true_and])
    with_reducible refine w_ib h.hp h.gd hi hpm h.ts' (by omega) fun o14 => ?_
    exact ⟨rfl, _, _, rfl⟩
  · rintro e S1 ⟨rfl, o13, o14, rfl⟩
    rw [k_nx]
    with_reducible exact w_a6 hc h hL hlg hsl hsp K
theorem n6' : (Int.natAbs 10 < 18446744073709551616) = True := by simp
theorem w_a4 (hc : HC ts t) (h : PV S dn r wt gt du ts t puts now L G lg) (hpl : puts.length ≤ 12) (hsl : spots.length ≤ 100) (hsp : ∀ s ∈ spots, St ts s)
    (K : ∀ S' e', Env0 sc dn e' → DrO S' dn → dn < S'.nx → R (.nx e' S')) :
    wpS (a4 [some sc, some (.obj dn), o2, some (.int (ts.length : Int)), some (.lst (t.map tD)), some (.lst (ts.map D.int)), some (.obj r), some (.lst (spots.map tD)), o8, o9, some (.obj du), o11, o12, o13, o14, o15, o16, o17, o18, o19, o20, o21, o22] S) R := by
  have hn5 := hc.n5
  have hP := Pn_len (Nat.le_refl _) h.ts'
  have l0 := h.l0
  have l1 := h.l1
  have l2 := h.l2
  have l3 := h.l3
  have l4 := h.l4
  unfold a4
  (simp_arith [true_and, h.hp.gr, n6, p6])
  try (simp_arith [true_and, h.hp.gr, n6, p6])
  refine h.hp.settleT hc.t7 hc.hr hc.h9 l1 l2 l3 h.ti h.xi (by omega) fun S1 now' G' lg' m1 f1 hp1 ti1 pm1 hn1 => ?_
  have hl1 := pm1.length_eq
  rw [List.length_map] at hl1
  have px1 : XI t 5 (Pn t puts puts.length) [] G' lg' := ⟨by rw [(ti1.idle hn1).2]; simpa using pm1, fun p hp => by rw [(ti1.idle hn1).2] at hp; cases hp⟩
  have h1 : PV S1 dn r wt gt du ts t puts now' [] G' lg' := { h with hd := f1.dro h.hd l0 (by simp; exact ⟨h.n1, h.n2, h.n3⟩), l0 := by omega, hp := hp1, l1 := by omega, l2 := by omega, l3 := by omega, gd := f1.at h.gd l4 (by simp; exact ⟨h.n5, h.n6, h.n7⟩), l4 := by omega, ti := ti1, xi := px1 }
  have cb : decide (true = true) = true := rfl
  (simp_arith [true_and, x_isNB, cb, hp1.gr, hp1.due, due_none hn1])
  try (simp_arith [true_and, x_isNB, cb, hp1.gr, hp1.due, due_none hn1])
  with_reducible exact w_a5 hc h1 hpl pm1 (by simp) (by omega) hsl hsp K
end
end G93
namespace G93
open PySem L2 Mi Gu
section
variable {S S' S1 : MS} {Q : D → MS → Prop} {P : D → MS → Prop} {E : Exn → MS → Prop} {R : Fl → Prop} {env : En}
variable {ts : List Int} {t : List (List Int)} {now count : Int} {L L' : List W4} {G G' : List (Option W4)} {lg : List L5} {r wt gt dn du k : Nat} {puts spots trees : List (List Int)} {sc : D}
variable {o0 o1 o2 o3 o7 o8 o9 o10 o11 o12 o13 o14 o15 o16 o17 o18 o19 o20 o21 o22 : Option D}
theorem x_dtup {ds : List D} : wp (dTuple (.lst ds)) S P E = wp (mkT ds) S P E := rfl
theorem c_int {n : Nat} {i : Int} : m__law_copy (n + 1) [.int i] S = some (.ok (.int i) S) := by
  refine wp_ex ?_
  rw [r__law_copy]
  unfold b__law_copy
  (simp_arith [true_and])
theorem c_tup {n : Nat} {x : List Int} (h : x.length ≤ 100) : m__law_copy (n + 2) [tD x] S = some (.ok (tD x) S) := by
  refine wp_ex ?_
  rw [r__law_copy]
  unfold b__law_copy tD
  (simp_arith [true_and])
  have cp := comp_pure (S := S) (env := [some (D.tup (x.map D.int)), none, none, none]) (i := 0) (j := 3) (d := .tup (x.map D.int)) (ds := x.map D.int) (te := mCall (m__law_copy (n + 1)) (mCons (mV 3) mNil)) (f := id) rfl rfl (by rw [List.length_map]; omega) (fun y hy S' => by
    obtain ⟨i, _, rfl⟩ := List.mem_map.mp hy
    refine wp_ex ?_
    (simp_arith [true_and, wp_of (c_int (n := n) (i := i) (S := S'))])
    rfl)
  rw [wp_of cp, List.map_id, x_dtup]
  have hs : Small (x.map D.int).length := small_of (by rw [List.length_map]; omega)
  (simp_arith [true_and, hs])
theorem c_tab {n : Nat} {t : List (List Int)} (h : t.length ≤ 100) (h2 : ∀ x ∈ t, x.length ≤ 100) : m__law_copy (n + 3) [.lst (t.map tD)] S = some (.ok (.lst (t.map tD)) S) := by
  refine wp_ex ?_
  rw [r__law_copy]
  unfold b__law_copy
  (simp_arith [true_and])
  have cp := comp_pure (S := S) (env := [some (D.lst (t.map tD)), none, none, none]) (i := 0) (j := 3) (d := .lst (t.map tD)) (ds := t.map tD) (te := mCall (m__law_copy (n + 2)) (mCons (mV 3) mNil)) (f := id) rfl rfl (by rw [List.length_map]; omega) (fun y hy S' => by
    obtain ⟨x, hx, rfl⟩ := List.mem_map.mp hy
    refine wp_ex ?_
    (simp_arith [true_and, wp_of (c_tup (n := n) (x := x) (S := S') (h2 x hx))])
    rfl)
  rw [wp_of cp, List.map_id]
  try exact ⟨rfl, rfl⟩
theorem x_intB {b : Bool} : wp (dInt (.bl b)) S P E = P (.int (if b = true then 1 else 0)) S := propext Iff.rfl
theorem w_a3 (hc : HC ts t) (h : PV S dn r wt gt du ts t [] now L G lg) (hsl : spots.length ≤ 100) (hsp : ∀ s ∈ spots, St ts s) (htl : trees.length ≤ 100) (htr : ∀ s ∈ trees, St ts s ∧ kdS (resS t s) = "tree")
    (K : ∀ S' e', Env0 sc dn e' → DrO S' dn → dn < S'.nx → R (.nx e' S')) :
    wpS (a3 [some sc, some (.obj dn), o2, some (.int (ts.length : Int)), some (.lst (t.map tD)), some (.lst (ts.map D.int)), some (.obj r), some (.lst (spots.map tD)), o8, some (.lst (trees.map tD)), some (.obj du), o11, o12, o13, o14, o15, o16, o17, o18, o19, o20, o21, o22] S) R := by
  unfold a3
  (simp_arith [true_and, q_draw, List.length_map])
  refine draw_at h.hd (by decide) (by decide) fun v S1 v0 v1 d1 => ?_
  have m1 := d1.nx
  have l0 := h.l0
  have l1 := h.l1
  have l2 := h.l2
  have l3 := h.l3
  have l4 := h.l4
  have h1 : PV S1 dn r wt gt du ts t [] now L G lg := { h with hd := d1.dr, l0 := by omega, hp := h.hp.fr (Fr.dr d1) h.l1 h.l2 h.l3 (by simp; exact h.n1.symm) (by simp; exact h.n2.symm) (by simp; exact h.n3.symm), l1 := by omega, l2 := by omega, l3 := by omega, gd := (d1.ne du h.n4.symm).trans h.gd, l4 := by omega }
  clear d1
  obtain ⟨m, hm, hm2, hm3⟩ : ∃ m : Nat, v * (if decide ((0 : Int) < (trees.length : Int)) = true then 1 else 0) = (m : Int) ∧ m ≤ 12 ∧ (0 < m → 0 < trees.length) := by
    obtain ⟨v', rfl⟩ := Int.eq_ofNat_of_zero_le v0
    by_cases c : (0 : Int) < (trees.length : Int)
    · exact ⟨v', by rw [if_pos (decide_eq_true c)]; omega, by omega, fun _ => by omega⟩
    · exact ⟨0, by rw [if_neg (by rw [decide_eq_false c]; exact Bool.false_ne_true)]; simp, by omega, fun q => absurd q (Nat.lt_irrefl _)⟩
  have sv : (-18446744073709551616 < v ∧ v < 18446744073709551616) = True := eq_true (by omega)
  (simp_arith [true_and, x_intB, hm, sv, rngD1_nat (show m < 4611686018427387904 by omega)])
  try (simp_arith [true_and, x_intB, hm, sv, rngD1_nat (show m < 4611686018427387904 by omega)])
  refine loop_inv (fun i e S2 => ∃ puts now L G lg o11 o12, e = [some sc, some (.obj dn), o2, some (.int (ts.length : Int)), some (.lst (t.map tD)), some (.lst (ts.map D.int)), some (.obj r), some (.lst (spots.map tD)), o8, some (.lst (trees.map tD)), some (.obj du), o11, o12, o13, o14, o15, o16, o17, o18, o19, o20, o21, o22] ∧ puts.length = i ∧ PV S2 dn r wt gt du ts t puts now L G lg)
    ⟨[], _, _, _, _, _, _, rfl, rfl, h1⟩ ?_ ?_
  · rintro i z e S2 hz ⟨puts, now, L, G, lg, o11, o12, rfl, hpl, h2⟩
    obtain ⟨hi, rfl⟩ := rng01 hz
    (simp_arith [true_and])
    with_reducible refine w_pb hc h2 (by omega) (hm3 (by omega)) htl htr fun S' puts' now' L' G' lg' o12 hl' h' => ?_
    exact ⟨puts', now', L', G', lg', _, _, rfl, by omega, h'⟩
  · rintro e S2 ⟨puts, now, L, G, lg, o11, o12, rfl, hpl, h2⟩
    rw [k_nx]
    rw [rngN_len] at hpl
    with_reducible exact w_a4 hc h2 (by omega) hsl hsp K
theorem PN0 (hc : HC ts t) (hp : PN S r wt gt ts t 0 0 [] (List.replicate ts.length none) []) : TI ts 0 [] (List.replicate ts.length none) [] ∧ XI t 5 (Pn t [] 0) [] (List.replicate ts.length none) [] := by
  have hn : ∀ a : W4, some a ∉ List.replicate ts.length none := fun a ha => by
    have := List.eq_of_mem_replicate ha
    cases this
  have hn' : ∀ (w : Nat) (a : W4), (List.replicate ts.length (none : Option W4))[w]? ≠ some (some a) := fun w a e => hn a (List.mem_of_getElem? e)
  have ti : TI ts 0 [] (List.replicate ts.length none) [] := { gl := List.length_replicate, up := fun w a e => absurd e (hn' w a), wr := by simp, sl := by simp, le := by simp, lw := by simp, gp := fun w hw i hi => by simp [ew] at hi, ab := fun a ha => absurd ha (hn a), bi := fun w hw e => rfl }
  refine ⟨ti, ⟨?_, fun p hp => ?_⟩⟩
  · rw [(ti.idle hn).2]
    exact List.Perm.refl _
  · rw [(ti.idle hn).2] at hp
    cases hp
theorem w_a2 (hc : HC ts t) (hd : DrO S dn) (l0 : dn < S.nx) (hp : PN S r wt gt ts t 0 0 [] (List.replicate ts.length none) []) (l1 : r < S.nx) (l2 : wt < S.nx) (l3 : gt < S.nx) (n1 : dn ≠ r) (n2 : dn ≠ wt) (n3 : dn ≠ gt) (hsl : spots.length ≤ 100) (hsp : ∀ s ∈ spots, St ts s)
    (K : ∀ S' e', Env0 sc dn e' → DrO S' dn → dn < S'.nx → R (.nx e' S')) :
    wpS (a2 [some sc, some (.obj dn), o2, some (.int (ts.length : Int)), some (.lst (t.map tD)), some (.lst (ts.map D.int)), some (.obj r), some (.lst (spots.map tD)), o8, o9, o10, o11, o12, o13, o14, o15, o16, o17, o18, o19, o20, o21, o22] S) R := by
  have ht7 := hc.t7
  unfold a2
  rw [wpS_seq, lks_no (no7 _ rfl)]
  (simp_arith [true_and, wipe_c, wipe_n])
  refine lc_kind rfl (by simp) hc.h4 (by omega) (fun s hs => by obtain ⟨a, b, rfl, _⟩ := hsp s hs; rfl) fun S1 f1 => ?_
  have hfl := List.length_filter_le (fun s => decide (kdS (resS t s) = "tree")) spots
  have sF : Small ((spots.filter fun s => decide (kdS (resS t s) = "tree")).map tD).length := small_of (by rw [List.length_map]; omega)
  refine ⟨sF, ?_⟩
  (simp_arith [true_and, sm0])
  try (simp_arith [true_and, sm0])
  have m1 := f1.nx
  have f2 : Fr [] S (S1.add (.lst [])) := f1.trans Fr.add
  have m2 : (S1.add (.lst [])).nx = S1.nx + 1 := rfl
  have inv := PN0 hc hp
  refine ⟨sF, ?_⟩
  refine w_a3 hc (now := 0) (trees := spots.filter fun s => decide (kdS (resS t s) = "tree")) ⟨f2.dro hd l0 (by simp), by omega, hp.fr f2 l1 l2 l3 (by simp) (by simp) (by simp), by omega, by omega, by omega, get_add_same, by omega, inv.1, inv.2, by simp, n1, n2, n3, by omega, by omega, by omega, by omega⟩ hsl hsp (by omega) (fun s hs => ?_) K
  have hs := List.mem_filter.mp hs
  exact ⟨hsp s hs.1, of_decide_eq_true hs.2⟩
theorem w_a1 (hc : HC ts t) (hd : DrO S dn) (l0 : dn < S.nx) (hp : PN S r wt gt ts t 0 0 [] (List.replicate ts.length none) []) (l1 : r < S.nx) (l2 : wt < S.nx) (l3 : gt < S.nx) (n1 : dn ≠ r) (n2 : dn ≠ wt) (n3 : dn ≠ gt)
    (K : ∀ S' e', Env0 sc dn e' → DrO S' dn → dn < S'.nx → R (.nx e' S')) :
    wpS (a1 [some sc, some (.obj dn), o2, some (.int (ts.length : Int)), some (.lst (t.map tD)), some (.lst (ts.map D.int)), some (.obj r), o7, o8, o9, o10, o11, o12, o13, o14, o15, o16, o17, o18, o19, o20, o21, o22] S) R := by
  have hn5 := hc.n5
  unfold a1
  (simp_arith [true_and, sm0, rngD1_nat (show ts.length < 4611686018427387904 by omega)])
  refine loop_inv (fun i e S1 => S1 = S ∧ ∃ spots o8, e = [some sc, some (.obj dn), o2, some (.int (ts.length : Int)), some (.lst (t.map tD)), some (.lst (ts.map D.int)), some (.obj r), some (.lst (spots.map tD)), o8, o9, o10, o11, o12, o13, o14, o15, o16, o17, o18, o19, o20, o21, o22] ∧ spots.length = 4 * i ∧ ∀ s ∈ spots, St ts s) ⟨rfl, [], _, rfl, rfl, by simp⟩ ?_ ?_
  · rintro i z e S1 hz ⟨rfl, spots, o8, rfl, hl, hs⟩
    obtain ⟨hi, rfl⟩ := rng01 hz
    have e1 : [D.int 0, D.int 5, D.int 7, D.int 2047] = ([0, 5, 7, 2047] : List Int).map D.int := rfl
    (simp_arith [true_and, sm4, wipe_c, wipe_n])
    rw [e1, lc_mp (enc := D.int) (g := fun x => tD [(i : Int), x]) (fun x hx => wp_ex ?_)]
    · have e2 : spots.map tD ++ (([0, 5, 7, 2047] : List Int).map fun x => tD [(i : Int), x]) = (spots ++ ([0, 5, 7, 2047] : List Int).map fun x => [(i : Int), x]).map tD := by
        rw [List.map_append, List.map_map]
        rfl
      have sA : Small ((spots ++ ([0, 5, 7, 2047] : List Int).map fun x => [(i : Int), x]).map tD).length := small_of (by rw [List.length_map, List.length_append]; simp; omega)
      rw [e2]
      refine ⟨sm4.mpr trivial, sm4.mpr trivial, sA, rfl, spots ++ ([0, 5, 7, 2047] : List Int).map fun x => [(i : Int), x], _, rfl, by rw [List.length_append]; simp; omega, fun s hs' => ?_⟩
      rcases List.mem_append.mp hs' with hs' | hs'
      · exact hs s hs'
      · obtain ⟨x, hx, rfl⟩ := List.mem_map.mp hs'
        simp only [List.mem_cons, List.not_mem_nil, or_false] at hx
        rcases hx with rfl | rfl | rfl | rfl <;> exact ⟨i, _, rfl, hi, by omega, by omega⟩
    · (simp_arith [true_and, sm2])
      rfl
  · rintro e S1 ⟨rfl, spots, o8, rfl, hl, hs⟩
    rw [k_nx]
    rw [rngN_len] at hl
    with_reducible exact w_a2 hc hd l0 hp l1 l2 l3 n1 n2 n3 (by omega) hs K
theorem w_times {e : En} {l : List D} (hl : l.length ≤ 5) (he : e[1]? = some (some (.obj dn))) (h : DrO S dn) {Q : List D → MS → Prop} {E : Exn → MS → Prop}
    (K : ∀ (ts : List Int) S', ts.length = l.length → (∀ x ∈ ts, 1 ≤ x ∧ x ≤ 9) → Dr dn S S' → Q (ts.map D.int) S') : wp (lcM (gNm 11) mYes (mOp (dAdd mkL) (mK (.int 1)) (mCall m__law_draw (mCons (mV 1) (mCons (mK (.int 9)) mNil)))) e l) S Q E := by
  refine lc_br (fun i acc S' => ∃ ts : List Int, acc = ts.map D.int ∧ ts.length = i ∧ (∀ x ∈ ts, 1 ≤ x ∧ x ≤ 9) ∧ Dr dn S S') ⟨[], rfl, rfl, by simp, Dr.rfl' h⟩ ?_ fun acc S' ⟨ts, e1, e2, e3, e4⟩ => by rw [e1]; exact K ts S' e2 e3 e4
  rintro i d acc S' hd ⟨ts, rfl, e2, e3, e4⟩
  have he' : (e.set 11 (some d))[1]? = some (some (.obj dn)) := by rw [List.getElem?_set_ne (by omega), he]
  (simp_arith [true_and, q_draw, he'])
  refine draw_at e4.dr (by decide) (by decide) fun v S2 v0 v1 d1 => ?_
  (simp_arith [true_and])
  refine ⟨ts ++ [1 + v], by rw [List.map_append]; rfl, by rw [List.length_append, e2]; rfl, fun y hy => ?_, e4.trans d1⟩
  rcases List.mem_append.mp hy with hy | hy
  · exact e3 y hy
  · rw [List.mem_singleton.mp hy]
    exact ⟨by omega, by omega⟩
theorem w_lp {o4 o5 o6 : Option D} (hd : DrO S dn) (hlt : dn < S.nx)
    (K : ∀ S' e', Env0 sc dn e' → DrO S' dn → dn < S'.nx → R (.nx e' S')) :
    wpS (lp [some sc, some (.obj dn), o2, o3, o4, o5, o6, o7, o8, o9, o10, o11, o12, o13, o14, o15, o16, o17, o18, o19, o20, o21, o22] S) R := by
  unfold lp
  (simp_arith [true_and, q_draw])
  refine draw_at hd (by decide) (by decide) fun v S1 v0 v1 d1 => ?_
  have hlt : dn < S1.nx := by rw [d1.nx]; exact hlt
  have hd := d1.dr
  clear d1
  obtain ⟨n, rfl⟩ := Int.eq_ofNat_of_zero_le v0
  have en : (2 : Int) + (n : Int) = ((n + 2 : Nat) : Int) := by omega
  (simp_arith [true_and, en])
  refine w_table (wires := ((n + 2 : Nat) : Int)) hd hlt (by omega) (by omega) fun S2 t hd hlt hr hnd hl => ?_
  (simp_arith [true_and, rngD1_nat (show n + 2 < 4611686018427387904 by omega), wipe_c, wipe_n])
  refine w_times (dn := dn) (by rw [rngN_len]; omega) rfl hd fun ts S3 e1 h9 d1 => ?_
  rw [rngN_len] at e1
  have m3 := d1.nx
  have hd3 := d1.dr
  clear d1
  have sT : Small ts.length := small_of (by omega)
  have hr4 : ∀ x ∈ t, x.length ≤ 100 := fun x hx => by
    obtain ⟨a, b, c, d, rfl, _⟩ := hr x hx
    simp
  rw [← e1] at hr en ⊢
  (simp_arith [true_and, List.length_map, sT, wp_of (c_tab (n := 9) (t := t) (by omega) hr4)])
  try (simp_arith [true_and, List.length_map, sT, wp_of (c_tab (n := 9) (t := t) (by omega) hr4)])
  have f4 : Fr [] S3 (S3.add (.ins c_Net [])) := Fr.add
  have n4 : (S3.add (.ins c_Net [])).nx = S3.nx + 1 := rfl
  have g4 : (S3.add (.ins c_Net [])).get S3.nx = some (.ins c_Net []) := get_add_same
  have hd4 : DrO (S3.add (.ins c_Net [])) dn := f4.dro hd3 (by omega) (by simp)
  generalize S3.add (.ins c_Net []) = S4 at f4 n4 g4 hd4 ⊢
  have hc : HC ts t := ⟨by omega, h9, hr, hl⟩
  with_reducible refine PN.init (ts := ts) (t := t) g4 (by omega) h9 (by omega) hr hnd (by omega) fun S5 n5 f5 hp5 => ?_
  with_reducible refine And.intro rfl ?_
  have hd5 : DrO S5 dn := f5.dro hd4 (by omega) (by simp; omega)
  with_reducible exact w_a1 hc hd5 (by omega) hp5 (by omega) (by omega) (by omega) (by omega) (by omega) (by omega) K
end
theorem rng2 : rngD1 [D.int 2] = some (rngN 0 1 2) := by rfl
theorem pure : ∀ ns : List Int, ns.length ≤ 63 → ∃ S', m_law [.src (ns.map D.int)] S0 = some (.ok (.bl true) S') := by
  intro ns hns
  have w : wp (m_law [.src (ns.map D.int)]) S0 (fun v _ => v = .bl true) no := by
    rw [r_law, b_law_eq]
    unfold b_law2
    (simp_arith [true_and, q_draws])
    refine draws_at (by omega) fun S1 hd hnx hne => ?_
    generalize hdn : S0.nx = dn at hd hnx hne
    (try (simp_arith [true_and, rng2])); (repeat (with_reducible refine And.intro ?_ ?_; focus (first | trivial | assumption | decide | omega | exact small_of (by first | omega | (simp; done) | (simp; omega)) )))
    refine loop_inv (fun _ e S => Env0 (.src (ns.map D.int)) dn e ∧ DrO S dn ∧ dn < S.nx)
      ⟨⟨_, _, _, _, _, _, _, _, _, _, _, _, _, _, _, _, _, _, _, _, _, rfl⟩, hd, by omega⟩ ?_ ?_
    · rintro i z e S _ ⟨⟨o2, o3, o4, o5, o6, o7, o8, o9, o10, o11, o12, o13, o14, o15, o16, o17, o18, o19, o20, o21, o22, rfl⟩, hd, hlt⟩
      (simp_arith [true_and])
      with_reducible refine w_lp hd hlt fun S' e' he q1 q2 => ?_
      exact ⟨he, q1, q2⟩
    · rintro e S ⟨⟨o2, o3, o4, o5, o6, o7, o8, o9, o10, o11, o12, o13, o14, o15, o16, o17, o18, o19, o20, o21, o22, rfl⟩, hd, hlt⟩
      rw [k_nx]
      (simp_arith [true_and])
  obtain ⟨v, S', e, rfl⟩ := wp_to w
  exact ⟨S', e⟩
end G93
namespace G93
open PySem L2 Mi
structure KlT (K : PySem.W.Frag) (mg : Str → Option Value) (c : Cl) (A : Addr) : Prop where
  mg : mg c.nm = some (.ref A)
  cl : Cls K A
  na : ∀ f ∈ c.fl, NoAttr K A f
  nd : c.fl.Nodup
theorem KlT.ok {K : PySem.W.Frag} {mg : Str → Option Value} {c : Cl} {A : Addr} (h : KlT K mg c A) {X : Cx} (hK : X.K = K) (hm : X.mg = mg) : KlOk X c := by
  subst hK hm
  exact ⟨fun B e => by rw [h.mg] at e; cases e; exact h.cl, fun B e => by rw [h.mg] at e; cases e; exact h.na, h.nd⟩
structure Tx (P : Program) (K : PySem.W.Frag) (mg : Str → Option Value) where
  f__law_draws : Addr
  d__law_draws : FuncData
  F__law_draws : Fun K "_law_draws" "_law_draws" s__law_draws f__law_draws d__law_draws
  b__law_draws : Binds K d__law_draws ["script"] []
  g__law_draws : mg "_law_draws" = some (.ref f__law_draws)
  k__law_draws : PySem.W.keepIn K (.ref f__law_draws) = true
  f__law_draw : Addr
  d__law_draw : FuncData
  F__law_draw : Fun K "_law_draw" "_law_draw" s__law_draw f__law_draw d__law_draw
  b__law_draw : Binds K d__law_draw ["draws", "limit"] []
  g__law_draw : mg "_law_draw" = some (.ref f__law_draw)
  k__law_draw : PySem.W.keepIn K (.ref f__law_draw) = true
  f__law_table : Addr
  d__law_table : FuncData
  F__law_table : Fun K "_law_table" "_law_table" s__law_table f__law_table d__law_table
  b__law_table : Binds K d__law_table ["draws", "wires", "most"] []
  g__law_table : mg "_law_table" = some (.ref f__law_table)
  k__law_table : PySem.W.keepIn K (.ref f__law_table) = true
  f_is_number : Addr
  d_is_number : FuncData
  F_is_number : Fun K "is_number" "is_number" s_is_number f_is_number d_is_number
  b_is_number : Binds K d_is_number ["thing", "low", "high"] []
  g_is_number : mg "is_number" = some (.ref f_is_number)
  k_is_number : PySem.W.keepIn K (.ref f_is_number) = true
  f_check_table : Addr
  d_check_table : FuncData
  F_check_table : Fun K "check_table" "check_table" s_check_table f_check_table d_check_table
  b_check_table : Binds K d_check_table ["wires", "table"] []
  g_check_table : mg "check_table" = some (.ref f_check_table)
  k_check_table : PySem.W.keepIn K (.ref f_check_table) = true
  f_Net___init__ : Addr
  d_Net___init__ : FuncData
  F_Net___init__ : Fun K "__init__" "Net.__init__" s_Net___init__ f_Net___init__ d_Net___init__
  b_Net___init__ : Binds K d_Net___init__ ["self", "times", "table"] []
  f__law_copy : Addr
  d__law_copy : FuncData
  F__law_copy : Fun K "_law_copy" "_law_copy" s__law_copy f__law_copy d__law_copy
  b__law_copy : Binds K d__law_copy ["thing"] []
  g__law_copy : mg "_law_copy" = some (.ref f__law_copy)
  k__law_copy : PySem.W.keepIn K (.ref f__law_copy) = true
  f_Net_due : Addr
  d_Net_due : FuncData
  F_Net_due : Fun K "due" "Net.due" s_Net_due f_Net_due d_Net_due
  b_Net_due : Binds K d_Net_due ["self"] []
  f_Net_begin : Addr
  d_Net_begin : FuncData
  F_Net_begin : Fun K "begin" "Net.begin" s_Net_begin f_Net_begin d_Net_begin
  b_Net_begin : Binds K d_Net_begin ["self"] []
  f_comes : Addr
  d_comes : FuncData
  F_comes : Fun K "comes" "comes" s_comes f_comes d_comes
  b_comes : Binds K d_comes ["table", "spot"] []
  g_comes : mg "comes" = some (.ref f_comes)
  k_comes : PySem.W.keepIn K (.ref f_comes) = true
  f_Net_wait_for : Addr
  d_Net_wait_for : FuncData
  F_Net_wait_for : Fun K "wait_for" "Net.wait_for" s_Net_wait_for f_Net_wait_for d_Net_wait_for
  b_Net_wait_for : Binds K d_Net_wait_for ["self", "wire", "number", "index"] []
  f_Net_come : Addr
  d_Net_come : FuncData
  F_Net_come : Fun K "come" "Net.come" s_Net_come f_Net_come d_Net_come
  b_Net_come : Binds K d_Net_come ["self"] []
  f_Net_wait : Addr
  d_Net_wait : FuncData
  F_Net_wait : Fun K "wait" "Net.wait" s_Net_wait f_Net_wait d_Net_wait
  b_Net_wait : Binds K d_Net_wait ["self", "many"] []
  f_Net_put : Addr
  d_Net_put : FuncData
  F_Net_put : Fun K "put" "Net.put" s_Net_put f_Net_put d_Net_put
  b_Net_put : Binds K d_Net_put ["self", "wire", "number"] []
  f_Net_settle : Addr
  d_Net_settle : FuncData
  F_Net_settle : Fun K "settle" "Net.settle" s_Net_settle f_Net_settle d_Net_settle
  b_Net_settle : Binds K d_Net_settle ["self", "most"] []
  f__law_goals : Addr
  d__law_goals : FuncData
  F__law_goals : Fun K "_law_goals" "_law_goals" s__law_goals f__law_goals d__law_goals
  b__law_goals : Binds K d__law_goals ["table", "spot"] []
  g__law_goals : mg "_law_goals" = some (.ref f__law_goals)
  k__law_goals : PySem.W.keepIn K (.ref f__law_goals) = true
  f__law_all_ways : Addr
  d__law_all_ways : FuncData
  F__law_all_ways : Fun K "_law_all_ways" "_law_all_ways" s__law_all_ways f__law_all_ways d__law_all_ways
  b__law_all_ways : Binds K d__law_all_ways ["table", "spot"] []
  g__law_all_ways : mg "_law_all_ways" = some (.ref f__law_all_ways)
  k__law_all_ways : PySem.W.keepIn K (.ref f__law_all_ways) = true
  f__law_passed : Addr
  d__law_passed : FuncData
  F__law_passed : Fun K "_law_passed" "_law_passed" s__law_passed f__law_passed d__law_passed
  b__law_passed : Binds K d__law_passed ["table", "spot"] []
  g__law_passed : mg "_law_passed" = some (.ref f__law_passed)
  k__law_passed : PySem.W.keepIn K (.ref f__law_passed) = true
  f_law : Addr
  d_law : FuncData
  F_law : Fun K "law" "law" s_law f_law d_law
  b_law : Binds K d_law ["script"] []
  g_law : mg "law" = some (.ref f_law)
  k_law : PySem.W.keepIn K (.ref f_law) = true
  A_Net : Addr
  kl_Net : KlT K mg c_Net A_Net
  mk_Net : Mk K A_Net f_Net___init__
  m_Net_due : Meth K A_Net "due" f_Net_due
  m_Net_begin : Meth K A_Net "begin" f_Net_begin
  m_Net_wait_for : Meth K A_Net "wait_for" f_Net_wait_for
  m_Net_come : Meth K A_Net "come" f_Net_come
  m_Net_wait : Meth K A_Net "wait" f_Net_wait
  m_Net_put : Meth K A_Net "put" f_Net_put
  m_Net_settle : Meth K A_Net "settle" f_Net_settle
  n_all : mg "all" = none
  n_any : mg "any" = none
  n_bool : mg "bool" = none
  n_dict : mg "dict" = none
  n_int : mg "int" = none
  n_isinstance : mg "isinstance" = none
  n_len : mg "len" = none
  n_list : mg "list" = none
  n_min : mg "min" = none
  n_range : mg "range" = none
  n_sorted : mg "sorted" = none
  n_tuple : mg "tuple" = none
section
variable {P : Program} {wo : World} {K : PySem.W.Frag} {mg : Str → Option Value}
theorem f__law_draws (T : Tx P K mg) (base : Heap) : FJ P wo K mg base 1 T.f__law_draws T.d__law_draws ["script"] m__law_draws := fj_mk (k := 0) T.F__law_draws sc__law_draws fun cdv A outer s H E C hr =>
  (jb_one (js_ret (j_obj (ja_cons (j_callTy (call_listA rfl) (opA_list mkL_s) (by rfl) T.n_list (by rfl) (ja_cons (j_var (pv 0)) ja_nil)) (ja_cons j_int (ja_cons j_int (ja_cons j_int ja_nil)))))))
theorem f__law_draw (T : Tx P K mg) (base : Heap) : FJ P wo K mg base 1 T.f__law_draw T.d__law_draw ["draws", "limit"] m__law_draw := fj_mk (k := 0) T.F__law_draw sc__law_draw fun cdv A outer s H E C hr =>
  (jb_cons (js_if (jt_w (jw_and (jt_cmp (op_eqA (hu64 hr)) op2_eq (j_ix (hu64 hr) (j_var (pv 0)) j_int fun _ _ => rfl) j_int (nomark _)) (jw_and1 (jt_cmp op_lt op2_lt (j_ix (hu64 hr) (j_var (pv 0)) j_int fun _ _ => rfl) (j_callB call_lenA opA_len (by rfl) T.n_len (by rfl) (ja_cons (j_ix (hu64 hr) (j_var (pv 0)) j_int fun _ _ => rfl) ja_nil)) (nomark _))))) (jb_cons (js_set (i := 2) sc__law_draw.nd rfl (by first | exact .inl rfl | exact .inr rfl) (j_ix (hu64 hr) (j_ix (hu64 hr) (j_var (pv 0)) j_int fun _ _ => rfl) (j_ix (hu64 hr) (j_var (pv 0)) j_int fun _ _ => rfl) fun _ _ => rfl))
  (jb_cons (js_asg (j_op op_addA (op2_add mkL_s) (j_ix (hu64 hr) (j_var (pv 0)) j_int fun _ _ => rfl) j_int) (jg_ix (hu64 hr) (j_var (pv 0)) j_int))
  (jb_cons (js_if (jt_cmp op_ge op2_ge (j_var (pv 2)) (j_op op_pow op2_pow j_int j_int) (nomark _)) (jb_one (js_asg (j_var (pv 2)) (jg_ix (hu64 hr) (j_var (pv 0)) j_int))) jb_nil)
  (jb_one (js_asg (j_op op_mod op2_mod (j_callTy call_int1 opA_int (by rfl) T.n_int (by rfl) (ja_cons (j_op op_addA (op2_add mkL_s) (j_op op_addA (op2_add mkL_s) (j_op op_mul op2_mul (j_ix (hu64 hr) (j_var (pv 0)) j_int fun _ _ => rfl) j_int) (j_var (pv 2))) j_int) ja_nil)) j_int) (jg_ix (hu64 hr) (j_var (pv 0)) j_int)))))) jb_nil)
  (jb_cons (js_if (jt_cmp op_gt op2_gt (j_ix (hu64 hr) (j_var (pv 0)) j_int fun _ _ => rfl) j_int (nomark _)) (jb_cons (js_set (i := 3) sc__law_draw.nd rfl (by first | exact .inl rfl | exact .inr rfl) (j_op op_mod op2_mod (j_callTy call_int1 opA_int (by rfl) T.n_int (by rfl) (ja_cons (j_ix (hu64 hr) (j_var (pv 0)) j_int fun _ _ => rfl) ja_nil)) (j_var (pv 1))))
  (jb_cons (js_asg (j_op op_fdiv op2_div (j_ix (hu64 hr) (j_var (pv 0)) j_int fun _ _ => rfl) (j_var (pv 1))) (jg_ix (hu64 hr) (j_var (pv 0)) j_int))
  (jb_one (js_ret (j_var (pv 3)))))) jb_nil)
  (jb_cons (js_asg (j_op op_mod op2_mod (j_callTy call_int1 opA_int (by rfl) T.n_int (by rfl) (ja_cons (j_op op_addA (op2_add mkL_s) (j_op op_mul op2_mul (j_ix (hu64 hr) (j_var (pv 0)) j_int fun _ _ => rfl) j_int) j_int) ja_nil)) j_int) (jg_ix (hu64 hr) (j_var (pv 0)) j_int))
  (jb_one (js_ret (j_op op_mod op2_mod (j_callTy call_int1 opA_int (by rfl) T.n_int (by rfl) (ja_cons (j_op op_fdiv op2_div (j_ix (hu64 hr) (j_var (pv 0)) j_int fun _ _ => rfl) j_int) ja_nil)) (j_var (pv 1))))))))
theorem f__law_table (T : Tx P K mg) (base : Heap) : FJ P wo K mg base 2 T.f__law_table T.d__law_table ["draws", "wires", "most"] m__law_table := fj_mk (k := 1) T.F__law_table sc__law_table fun cdv A outer s H E C hr =>
  (jb_cons (js_set (i := 3) sc__law_table.nd rfl (by first | exact .inl rfl | exact .inr rfl) (j_obj ja_nil))
  (jb_cons (js_for rfl (ji_range1 (by rfl) T.n_range (ja_cons (j_call (f__law_draw T base) ar_runB (hr.mono (by omega)) (by rfl) T.g__law_draw T.k__law_draw T.b__law_draw (ja_cons (j_var (pv 0)) (ja_cons (j_op op_addA (op2_add mkL_s) (j_var (pv 2)) j_int) ja_nil))) ja_nil)) (jg_name (pg_name (i := 4) sc__law_table.nd rfl (by first | exact .inl rfl | exact .inr rfl))) (jb_cons (js_par (i := 5) (j := 6) rfl sc__law_table.nd rfl rfl (by decide) rfl rfl (ja_cons (j_call (f__law_draw T base) ar_runB (hr.mono (by omega)) (by rfl) T.g__law_draw T.k__law_draw T.b__law_draw (ja_cons (j_var (pv 0)) (ja_cons (j_var (pv 1)) ja_nil))) (ja_cons (j_call (f__law_draw T base) ar_runB (hr.mono (by omega)) (by rfl) T.g__law_draw T.k__law_draw T.b__law_draw (ja_cons (j_var (pv 0)) (ja_cons (j_var (pv 1)) ja_nil))) ja_nil)) rfl)
  (jb_cons (js_set (i := 7) sc__law_table.nd rfl (by first | exact .inl rfl | exact .inr rfl) (j_tup (ja_cons (j_var (pv 5)) (ja_cons (j_ix (hu64 hr) (j_lst (ja_cons j_int (ja_cons j_int (ja_cons j_int (ja_cons j_int ja_nil))))) (j_call (f__law_draw T base) ar_runB (hr.mono (by omega)) (by rfl) T.g__law_draw T.k__law_draw T.b__law_draw (ja_cons (j_var (pv 0)) (ja_cons j_int ja_nil))) fun _ _ => rfl) (ja_cons (j_var (pv 6)) (ja_cons (j_ix (hu64 hr) (j_lst (ja_cons j_int (ja_cons j_int (ja_cons j_int (ja_cons j_int ja_nil))))) (j_call (f__law_draw T base) ar_runB (hr.mono (by omega)) (by rfl) T.g__law_draw T.k__law_draw T.b__law_draw (ja_cons (j_var (pv 0)) (ja_cons j_int ja_nil))) fun _ _ => rfl) ja_nil))))))
  (jb_one (js_if (jt_w (jw_and (jt_cmp (op_neA (hu64 hr)) op2_ne (j_var (pv 5)) (j_var (pv 6)) (nomark _)) (jw_and1 (jt_cmp (op_notInA (hu65 hr)) op2_notin (j_var (pv 7)) (j_var (pv 3)) (by with_unfolding_all rfl))))) (jb_one (js_expr (j_bm PySem.F.plainAttrs_list PySem.F.slot_list_append PySem.F.type_list_append mt_append opM_append (j_var (pv 3)) (ja_cons (j_var (pv 7)) ja_nil)))) jb_nil)))))
  (jb_one (js_ret (j_fz (j_var (pv 3)))))))
theorem f_is_number (T : Tx P K mg) (base : Heap) : FJ P wo K mg base 1 T.f_is_number T.d_is_number ["thing", "low", "high"] m_is_number := fj_mk (k := 0) T.F_is_number sc_is_number fun cdv A outer s H E C hr =>
  (jb_one (js_ret (j_and (j_callB call_isi opA_isi (by rfl) T.n_isinstance (by rfl) (ja_cons (j_var (pv 0)) (ja_cons (j_ty (by rfl) T.n_int (by rfl)) ja_nil))) (j_and (j_not (j_callB call_isi opA_isi (by rfl) T.n_isinstance (by rfl) (ja_cons (j_var (pv 0)) (ja_cons (j_ty (by rfl) T.n_bool (by rfl)) ja_nil)))) (j_one (j_chain op_le op_le op2_le op2_le (j_var (pv 1)) (j_var (pv 0)) (j_var (pv 2))))))))
theorem f_check_table (T : Tx P K mg) (base : Heap) : FJ P wo K mg base 2 T.f_check_table T.d_check_table ["wires", "table"] m_check_table := fj_mk (k := 1) T.F_check_table sc_check_table fun cdv A outer s H E C hr =>
  (jb_one (js_for rfl (ji_range1 (by rfl) T.n_range (ja_cons (j_callB call_lenA opA_len (by rfl) T.n_len (by rfl) (ja_cons (j_var (pv 1)) ja_nil)) ja_nil)) (jg_name (pg_name (i := 2) sc_check_table.nd rfl (by first | exact .inl rfl | exact .inr rfl))) (jb_cons (js_set (i := 3) sc_check_table.nd rfl (by first | exact .inl rfl | exact .inr rfl) (j_ix (hu64 hr) (j_var (pv 1)) (j_var (pv 2)) fun _ _ => rfl))
  (jb_cons (js_if (jt_w (jw_or (jt_not (jt_tru (j_callB call_isi opA_isi (by rfl) T.n_isinstance (by rfl) (ja_cons (j_var (pv 3)) (ja_cons (j_ty (by rfl) T.n_tuple (by rfl)) ja_nil))))) (jw_or (jt_cmp (op_neA (hu64 hr)) op2_ne (j_callB call_lenA opA_len (by rfl) T.n_len (by rfl) (ja_cons (j_var (pv 3)) ja_nil)) j_int (nomark _)) (jw_or (jt_cmp (op_eqA (hu64 hr)) op2_eq (j_ix (hu64 hr) (j_var (pv 3)) j_int fun _ _ => rfl) (j_ix (hu64 hr) (j_var (pv 3)) j_int fun _ _ => rfl) (nomark _)) (jw_or1 (jt_cmp (op_inA (hu65 hr)) op2_in (j_var (pv 3)) (j_slice mkL_s (j_var (pv 1)) jo_none (jo_some (j_var (pv 2)))) (by with_unfolding_all rfl))))))) (jb_one js_never) jb_nil)
  (jb_cons (js_if (jt_not (jt_tru (j_callB (cr_all rfl) opA_all (by rfl) T.n_all (by rfl) (ja_cons (j_lc mkL_c rfl sc_check_table.nd (ji_any (j_tup (ja_cons j_int (ja_cons j_int ja_nil)))) (blkOk_by (own := [("at", 4)]) (by kernel_rfl)) rfl (gv_name (by decide)) (fun _ _ _ _ _ => (pg_name (i := 4) sc_check_table.nd rfl (by first | exact .inl rfl | exact .inr rfl))) (fun _ _ _ _ _ => jts_nil) (fun _ _ _ _ _ => (j_call (f_is_number T base) ar_runB (hr.mono (by omega)) (by rfl) T.g_is_number T.k_is_number T.b_is_number (ja_cons (j_ix (hu64 hr) (j_var (pv 3)) (j_var (pv 4)) fun _ _ => rfl) (ja_cons j_int (ja_cons (j_op op_sub op2_sub (j_var (pv 0)) j_int) ja_nil)))))) ja_nil)))) (jb_one js_never) jb_nil)
  (jb_one (js_if (jt_not (jt_tru (j_callB (cr_all rfl) opA_all (by rfl) T.n_all (by rfl) (ja_cons (j_lc mkL_c rfl sc_check_table.nd (ji_any (j_tup (ja_cons j_int (ja_cons j_int ja_nil)))) (blkOk_by (own := [("at", 4)]) (by kernel_rfl)) rfl (gv_name (by decide)) (fun _ _ _ _ _ => (pg_name (i := 4) sc_check_table.nd rfl (by first | exact .inl rfl | exact .inr rfl))) (fun _ _ _ _ _ => jts_nil) (fun _ _ _ _ _ => (j_call (f_is_number T base) ar_runB (hr.mono (by omega)) (by rfl) T.g_is_number T.k_is_number T.b_is_number (ja_cons (j_ix (hu64 hr) (j_var (pv 3)) (j_var (pv 4)) fun _ _ => rfl) (ja_cons j_int (ja_cons j_int ja_nil)))))) ja_nil)))) (jb_one js_never) jb_nil)))))))
theorem f_Net___init__ (T : Tx P K mg) (base : Heap) : FJ P wo K mg base 3 T.f_Net___init__ T.d_Net___init__ ["self", "times", "table"] m_Net___init__ := fj_mk (k := 2) T.F_Net___init__ sc_Net___init__ fun cdv A outer s H E C hr =>
  (jb_cons (js_for rfl (ji_range1 (by rfl) T.n_range (ja_cons (j_callB call_lenA opA_len (by rfl) T.n_len (by rfl) (ja_cons (j_var (pv 1)) ja_nil)) ja_nil)) (jg_name (pg_name (i := 3) sc_Net___init__.nd rfl (by first | exact .inl rfl | exact .inr rfl))) (jb_one (js_if (jt_not (jt_tru (j_call (f_is_number T base) ar_runB (hr.mono (by omega)) (by rfl) T.g_is_number T.k_is_number T.b_is_number (ja_cons (j_ix (hu64 hr) (j_var (pv 1)) (j_var (pv 3)) fun _ _ => rfl) (ja_cons j_int (ja_cons (j_op op_pow op2_pow j_int j_int) ja_nil)))))) (jb_one js_never) jb_nil)))
  (jb_cons (js_expr (j_call (f_check_table T base) ar_runB (hr.mono (by omega)) (by rfl) T.g_check_table T.k_check_table T.b_check_table (ja_cons (j_callB call_lenA opA_len (by rfl) T.n_len (by rfl) (ja_cons (j_var (pv 1)) ja_nil)) (ja_cons (j_var (pv 2)) ja_nil))))
  (jb_cons (js_fld (T.kl_Net.ok rfl rfl) rfl (j_var (pv 0)) (j_callTy (call_listA rfl) (opA_list mkL_s) (by rfl) T.n_list (by rfl) (ja_cons (j_var (pv 1)) ja_nil)))
  (jb_cons (js_fld (T.kl_Net.ok rfl rfl) rfl (j_var (pv 0)) (j_callTy (call_listA rfl) (opA_list mkL_s) (by rfl) T.n_list (by rfl) (ja_cons (j_var (pv 2)) ja_nil)))
  (jb_cons (js_fld (T.kl_Net.ok rfl rfl) rfl (j_var (pv 0)) j_int)
  (jb_cons (js_fld (T.kl_Net.ok rfl rfl) rfl (j_var (pv 0)) j_int)
  (jb_cons (js_fld (T.kl_Net.ok rfl rfl) rfl (j_var (pv 0)) (j_lkm [1] (j_lc mkO_c rfl sc_Net___init__.nd (ji_any (j_var (pv 1))) (blkOk_by (own := [("_", 4)]) (by kernel_rfl)) rfl (gv_name (by decide)) (fun _ _ _ _ _ => (pg_name (i := 4) sc_Net___init__.nd rfl (by first | exact .inl rfl | exact .inr rfl))) (fun _ _ _ _ _ => jts_nil) (fun _ _ _ _ _ => (j_lst ja_nil)))))
  (jb_cons (js_fld (T.kl_Net.ok rfl rfl) rfl (j_var (pv 0)) (j_lkm [1] (j_lc mkO_c rfl sc_Net___init__.nd (ji_any (j_var (pv 1))) (blkOk_by (own := [("_", 4)]) (by kernel_rfl)) rfl (gv_name (by decide)) (fun _ _ _ _ _ => (pg_name (i := 4) sc_Net___init__.nd rfl (by first | exact .inl rfl | exact .inr rfl))) (fun _ _ _ _ _ => jts_nil) (fun _ _ _ _ _ => j_non))))
  (jb_one (js_fld (T.kl_Net.ok rfl rfl) rfl (j_var (pv 0)) (j_lst ja_nil)))))))))))
theorem f__law_copy (T : Tx P K mg) (base : Heap) : ∀ n : Nat, FJ P wo K mg base (0 + n) T.f__law_copy T.d__law_copy ["thing"] (m__law_copy n)
  | 0 => fj_zero
  | n + 1 => by
    have FS := f__law_copy T base n
    have aS := a__law_copy n
    exact fj_mk (k := 0 + n) T.F__law_copy sc__law_copy fun cdv A outer s H E C hr =>
  (jb_cons (js_if (jt_tru (j_callB call_isi opA_isi (by rfl) T.n_isinstance (by rfl) (ja_cons (j_var (pv 0)) (ja_cons (j_ty (by rfl) T.n_list (by rfl)) ja_nil)))) (jb_one (js_ret (j_lkm [0] (j_lc mkL_c rfl sc__law_copy.nd (ji_any (j_var (pv 0))) (blkOk_by (own := [("part", 3)]) (by kernel_rfl)) rfl (gv_name (by decide)) (fun _ _ _ _ _ => (pg_name (i := 3) sc__law_copy.nd rfl (by first | exact .inl rfl | exact .inr rfl))) (fun _ _ _ _ _ => jts_nil) (fun _ _ _ _ _ => (j_call FS aS (hr.mono (by omega)) (by rfl) T.g__law_copy T.k__law_copy T.b__law_copy (ja_cons (j_var (pv 3)) ja_nil))))))) jb_nil)
  (jb_cons (js_if (jt_tru (j_callB call_isi opA_isi (by rfl) T.n_isinstance (by rfl) (ja_cons (j_var (pv 0)) (ja_cons (j_ty (by rfl) T.n_tuple (by rfl)) ja_nil)))) (jb_one (js_ret (j_callTy call_tupleA opA_tuple (by rfl) T.n_tuple (by rfl) (ja_cons (j_lkm [0] (j_lc mkL_c rfl sc__law_copy.nd (ji_any (j_var (pv 0))) (blkOk_by (own := [("part", 3)]) (by kernel_rfl)) rfl (gv_name (by decide)) (fun _ _ _ _ _ => (pg_name (i := 3) sc__law_copy.nd rfl (by first | exact .inl rfl | exact .inr rfl))) (fun _ _ _ _ _ => jts_nil) (fun _ _ _ _ _ => (j_call FS aS (hr.mono (by omega)) (by rfl) T.g__law_copy T.k__law_copy T.b__law_copy (ja_cons (j_var (pv 3)) ja_nil))))) ja_nil)))) jb_nil)
  (jb_cons (js_if (jt_tru (j_callB call_isi opA_isi (by rfl) T.n_isinstance (by rfl) (ja_cons (j_var (pv 0)) (ja_cons (j_ty (by rfl) T.n_dict (by rfl)) ja_nil)))) (jb_cons (js_set (i := 1) sc__law_copy.nd rfl (by first | exact .inl rfl | exact .inr rfl) (j_dct0 mkD_s))
  (jb_cons (js_lkm [0] (js_for rfl (ji_any (j_var (pv 0))) (jg_name (pg_name (i := 2) sc__law_copy.nd rfl (by first | exact .inl rfl | exact .inr rfl))) (jb_one (js_asg (j_call FS aS (hr.mono (by omega)) (by rfl) T.g__law_copy T.k__law_copy T.b__law_copy (ja_cons (j_ix (hu64 hr) (j_var (pv 0)) (j_var (pv 2)) fun _ _ => rfl) ja_nil)) (jg_ix (hu64 hr) (j_var (pv 1)) (j_var (pv 2)))))))
  (jb_one (js_ret (j_var (pv 1)))))) jb_nil)
  (jb_one (js_ret (j_var (pv 0)))))))
theorem f_Net_due (T : Tx P K mg) (base : Heap) : FJ P wo K mg base 1 T.f_Net_due T.d_Net_due ["self"] m_Net_due := fj_mk (k := 0) T.F_Net_due sc_Net_due fun cdv A outer s H E C hr =>
  (jb_cons (js_lkm [0, 5] (js_setLc (i := 1) mkL_c rfl sc_Net_due.nd rfl rfl (sw_true rfl rfl rfl rfl) (ji_any (j_fld (T.kl_Net.ok rfl rfl) rfl (j_var (pv 0)))) (blkOk_by (own := [("row", 2)]) (by kernel_rfl)) rfl (gv_name (by decide)) (fun _ _ _ _ _ => (pg_name (i := 2) sc_Net_due.nd rfl (by first | exact .inl rfl | exact .inr rfl))) (fun _ _ _ _ _ => (jts_one (jt_cmp op_isNotA op2_isnot (j_var (pv 2)) j_non (nomark _)))) (fun _ _ _ _ _ => (j_ix (hu64 hr) (j_var (pv 2)) j_int fun _ _ => rfl))))
  (jb_one (js_ret (j_if (jt_cmp op_gt op2_gt (j_callB call_lenA opA_len (by rfl) T.n_len (by rfl) (ja_cons (j_var (pv 1)) ja_nil)) j_int (nomark _)) (j_callB (cr_min rfl) opA_minL (by rfl) T.n_min (by rfl) (ja_cons (j_var (pv 1)) ja_nil)) j_non))))
theorem f_Net_begin (T : Tx P K mg) (base : Heap) : FJ P wo K mg base 1 T.f_Net_begin T.d_Net_begin ["self"] m_Net_begin := fj_mk (k := 0) T.F_Net_begin sc_Net_begin fun cdv A outer s H E C hr =>
  (jb_one (js_for rfl (ji_range1 (by rfl) T.n_range (ja_cons (j_callB call_lenA opA_len (by rfl) T.n_len (by rfl) (ja_cons (j_fld (T.kl_Net.ok rfl rfl) rfl (j_var (pv 0))) ja_nil)) ja_nil)) (jg_name (pg_name (i := 1) sc_Net_begin.nd rfl (by first | exact .inl rfl | exact .inr rfl))) (jb_one (js_if (jt_w (jw_and (jt_cmp op_isA op2_is (j_ix (hu64 hr) (j_fld (T.kl_Net.ok rfl rfl) rfl (j_var (pv 0))) (j_var (pv 1)) fun _ _ => rfl) j_non (nomark _)) (jw_and1 (jt_cmp op_gt op2_gt (j_callB call_lenA opA_len (by rfl) T.n_len (by rfl) (ja_cons (j_ix (hu64 hr) (j_fld (T.kl_Net.ok rfl rfl) rfl (j_var (pv 0))) (j_var (pv 1)) fun _ _ => rfl) ja_nil)) j_int (nomark _))))) (jb_cons (js_asg (j_ix (hu64 hr) (j_ix (hu64 hr) (j_fld (T.kl_Net.ok rfl rfl) rfl (j_var (pv 0))) (j_var (pv 1)) fun _ _ => rfl) j_int fun _ _ => rfl) (jg_tup rfl (jgs_cons (jg_name (pg_name (i := 2) sc_Net_begin.nd rfl (by first | exact .inl rfl | exact .inr rfl))) (jgs_cons (jg_name (pg_name (i := 3) sc_Net_begin.nd rfl (by first | exact .inl rfl | exact .inr rfl))) (jgs_cons (jg_name (pg_name (i := 4) sc_Net_begin.nd rfl (by first | exact .inl rfl | exact .inr rfl))) jgs_nil)))))
  (jb_cons (js_asg (j_slice mkL_s (j_ix (hu64 hr) (j_fld (T.kl_Net.ok rfl rfl) rfl (j_var (pv 0))) (j_var (pv 1)) fun _ _ => rfl) (jo_some j_int) jo_none) (jg_ix (hu64 hr) (j_fld (T.kl_Net.ok rfl rfl) rfl (j_var (pv 0))) (j_var (pv 1))))
  (jb_one (js_asg (j_tup (ja_cons (j_op op_addA (op2_add mkL_s) (j_fld (T.kl_Net.ok rfl rfl) rfl (j_var (pv 0))) (j_ix (hu64 hr) (j_fld (T.kl_Net.ok rfl rfl) rfl (j_var (pv 0))) (j_var (pv 1)) fun _ _ => rfl)) (ja_cons (j_var (pv 2)) (ja_cons (j_var (pv 3)) (ja_cons (j_var (pv 4)) ja_nil))))) (jg_ix (hu64 hr) (j_fld (T.kl_Net.ok rfl rfl) rfl (j_var (pv 0))) (j_var (pv 1))))))) jb_nil))))
theorem f_comes (T : Tx P K mg) (base : Heap) : FJ P wo K mg base 1 T.f_comes T.d_comes ["table", "spot"] m_comes := fj_mk (k := 0) T.F_comes sc_comes fun cdv A outer s H E C hr =>
  (jb_one (js_ret (j_lkm [0] (j_lc mkL_c rfl sc_comes.nd (ji_any (j_var (pv 0))) (blkOk_by (own := [("row", 2)]) (by kernel_rfl)) rfl (gv_name (by decide)) (fun _ _ _ _ _ => (pg_name (i := 2) sc_comes.nd rfl (by first | exact .inl rfl | exact .inr rfl))) (fun _ _ _ _ _ => (jts_one (jt_cmp (op_eqA (hu64 hr)) op2_eq (j_slice mkL_s (j_var (pv 2)) jo_none (jo_some j_int)) (j_var (pv 1)) (nomark _)))) (fun _ _ _ _ _ => (j_slice mkL_s (j_var (pv 2)) (jo_some j_int) jo_none))))))
theorem f_Net_wait_for (T : Tx P K mg) (base : Heap) : FJ P wo K mg base 1 T.f_Net_wait_for T.d_Net_wait_for ["self", "wire", "number", "index"] m_Net_wait_for := fj_mk (k := 0) T.F_Net_wait_for sc_Net_wait_for fun cdv A outer s H E C hr =>
  (jb_one (js_asg (j_callB (cr_sortG (hu64 hr)) (opA_sortG mkL_s) (by rfl) T.n_sorted (by rfl) (ja_cons (j_op op_addA (op2_add mkL_s) (j_ix (hu64 hr) (j_fld (T.kl_Net.ok rfl rfl) rfl (j_var (pv 0))) (j_var (pv 1)) fun _ _ => rfl) (j_lst (ja_cons (j_tup (ja_cons (j_var (pv 2)) (ja_cons (j_var (pv 3)) (ja_cons (j_fld (T.kl_Net.ok rfl rfl) rfl (j_var (pv 0))) ja_nil)))) ja_nil))) ja_nil)) (jg_ix (hu64 hr) (j_fld (T.kl_Net.ok rfl rfl) rfl (j_var (pv 0))) (j_var (pv 1)))))
theorem f_Net_come (T : Tx P K mg) (base : Heap) : FJ P wo K mg base 2 T.f_Net_come T.d_Net_come ["self"] m_Net_come := fj_mk (k := 1) T.F_Net_come sc_Net_come fun cdv A outer s H E C hr =>
  (jb_cons (js_set (i := 1) sc_Net_come.nd rfl (by first | exact .inl rfl | exact .inr rfl) (j_obj ja_nil))
  (jb_cons (js_for rfl (ji_range1 (by rfl) T.n_range (ja_cons (j_callB call_lenA opA_len (by rfl) T.n_len (by rfl) (ja_cons (j_fld (T.kl_Net.ok rfl rfl) rfl (j_var (pv 0))) ja_nil)) ja_nil)) (jg_name (pg_name (i := 2) sc_Net_come.nd rfl (by first | exact .inl rfl | exact .inr rfl))) (jb_cons (js_set (i := 3) sc_Net_come.nd rfl (by first | exact .inl rfl | exact .inr rfl) (j_ix (hu64 hr) (j_fld (T.kl_Net.ok rfl rfl) rfl (j_var (pv 0))) (j_var (pv 2)) fun _ _ => rfl))
  (jb_one (js_if (jt_w (jw_and (jt_cmp op_isNotA op2_isnot (j_var (pv 3)) j_non (nomark _)) (jw_and1 (jt_cmp (op_eqA (hu64 hr)) op2_eq (j_ix (hu64 hr) (j_var (pv 3)) j_int fun _ _ => rfl) (j_fld (T.kl_Net.ok rfl rfl) rfl (j_var (pv 0))) (nomark _))))) (jb_cons (js_asg j_non (jg_ix (hu64 hr) (j_fld (T.kl_Net.ok rfl rfl) rfl (j_var (pv 0))) (j_var (pv 2))))
  (jb_cons (js_fld (T.kl_Net.ok rfl rfl) rfl (j_var (pv 0)) (j_op op_addA (op2_add mkL_s) (j_fld (T.kl_Net.ok rfl rfl) rfl (j_var (pv 0))) (j_lst (ja_cons (j_tup (ja_cons (j_fld (T.kl_Net.ok rfl rfl) rfl (j_var (pv 0))) (ja_cons (j_var (pv 2)) (ja_cons (j_ix (hu64 hr) (j_var (pv 3)) j_int fun _ _ => rfl) (ja_cons (j_ix (hu64 hr) (j_var (pv 3)) j_int fun _ _ => rfl) (ja_cons (j_op op_sub op2_sub (j_fld (T.kl_Net.ok rfl rfl) rfl (j_var (pv 0))) (j_ix (hu64 hr) (j_var (pv 3)) j_int fun _ _ => rfl)) ja_nil)))))) ja_nil))))
  (jb_one (js_expr (j_bm PySem.F.plainAttrs_list PySem.F.slot_list_append PySem.F.type_list_append mt_append opM_append (j_var (pv 1)) (ja_cons (j_tup (ja_cons (j_var (pv 2)) (ja_cons (j_ix (hu64 hr) (j_var (pv 3)) j_int fun _ _ => rfl) (ja_cons (j_ix (hu64 hr) (j_var (pv 3)) j_int fun _ _ => rfl) ja_nil)))) ja_nil)))))) jb_nil))))
  (jb_cons (js_lkm [1] (js_for rfl (ji_any (j_var (pv 1))) (jg_tup rfl (jgs_cons (jg_name (pg_name (i := 2) sc_Net_come.nd rfl (by first | exact .inl rfl | exact .inr rfl))) (jgs_cons (jg_name (pg_name (i := 4) sc_Net_come.nd rfl (by first | exact .inl rfl | exact .inr rfl))) (jgs_cons (jg_name (pg_name (i := 5) sc_Net_come.nd rfl (by first | exact .inl rfl | exact .inr rfl))) jgs_nil)))) (jb_one (js_for rfl (ji_any (j_call (f_comes T base) ar_runB (hr.mono (by omega)) (by rfl) T.g_comes T.k_comes T.b_comes (ja_cons (j_fld (T.kl_Net.ok rfl rfl) rfl (j_var (pv 0))) (ja_cons (j_tup (ja_cons (j_var (pv 2)) (ja_cons (j_var (pv 4)) ja_nil))) ja_nil)))) (jg_tup rfl (jgs_cons (jg_name (pg_name (i := 6) sc_Net_come.nd rfl (by first | exact .inl rfl | exact .inr rfl))) (jgs_cons (jg_name (pg_name (i := 7) sc_Net_come.nd rfl (by first | exact .inl rfl | exact .inr rfl))) jgs_nil))) (jb_one (js_expr (j_meth (T.kl_Net.ok rfl rfl) T.kl_Net.mg (by decide +kernel) (j_var (pv 0)) T.m_Net_wait_for (f_Net_wait_for T base) ar_runB (hr.mono (by omega)) T.b_Net_wait_for (ja_cons (j_var (pv 6)) (ja_cons (j_var (pv 7)) (ja_cons (j_var (pv 5)) ja_nil))))))))))
  (jb_one (js_expr (j_meth0 (T.kl_Net.ok rfl rfl) T.kl_Net.mg (by decide +kernel) (j_var (pv 0)) T.m_Net_begin (f_Net_begin T base) ar_runB (hr.mono (by omega)) T.b_Net_begin))))))
theorem f_Net_wait (T : Tx P K mg) (base : Heap) : FJ P wo K mg base 3 T.f_Net_wait T.d_Net_wait ["self", "many"] m_Net_wait := fj_mk (k := 2) T.F_Net_wait sc_Net_wait fun cdv A outer s H E C hr =>
  (jb_cons (js_if (jt_cmp op_lt op2_lt (j_var (pv 1)) j_int (nomark _)) (jb_one js_never) jb_nil)
  (jb_cons (js_set (i := 2) sc_Net_wait.nd rfl (by first | exact .inl rfl | exact .inr rfl) (j_op op_addA (op2_add mkL_s) (j_fld (T.kl_Net.ok rfl rfl) rfl (j_var (pv 0))) (j_var (pv 1))))
  (jb_cons (js_set (i := 3) sc_Net_wait.nd rfl (by first | exact .inl rfl | exact .inr rfl) (j_meth0 (T.kl_Net.ok rfl rfl) T.kl_Net.mg (by decide +kernel) (j_var (pv 0)) T.m_Net_due (f_Net_due T base) ar_runB (hr.mono (by omega)) T.b_Net_due))
  (jb_cons (js_while (jt_w (jw_and (jt_cmp op_isNotA op2_isnot (j_var (pv 3)) j_non (nomark _)) (jw_and1 (jt_cmp op_le op2_le (j_var (pv 3)) (j_var (pv 2)) (nomark _))))) (jb_cons (js_fld (T.kl_Net.ok rfl rfl) rfl (j_var (pv 0)) (j_var (pv 3)))
  (jb_cons (js_expr (j_meth0 (T.kl_Net.ok rfl rfl) T.kl_Net.mg (by decide +kernel) (j_var (pv 0)) T.m_Net_come (f_Net_come T base) ar_runB (hr.mono (by omega)) T.b_Net_come))
  (jb_one (js_set (i := 3) sc_Net_wait.nd rfl (by first | exact .inl rfl | exact .inr rfl) (j_meth0 (T.kl_Net.ok rfl rfl) T.kl_Net.mg (by decide +kernel) (j_var (pv 0)) T.m_Net_due (f_Net_due T base) ar_runB (hr.mono (by omega)) T.b_Net_due))))))
  (jb_one (js_fld (T.kl_Net.ok rfl rfl) rfl (j_var (pv 0)) (j_var (pv 2))))))))
theorem f_Net_put (T : Tx P K mg) (base : Heap) : FJ P wo K mg base 2 T.f_Net_put T.d_Net_put ["self", "wire", "number"] m_Net_put := fj_mk (k := 1) T.F_Net_put sc_Net_put fun cdv A outer s H E C hr =>
  (jb_cons (js_if (jt_not (jt_tru (j_call (f_is_number T base) ar_runB (hr.mono (by omega)) (by rfl) T.g_is_number T.k_is_number T.b_is_number (ja_cons (j_var (pv 1)) (ja_cons j_int (ja_cons (j_op op_sub op2_sub (j_callB call_lenA opA_len (by rfl) T.n_len (by rfl) (ja_cons (j_fld (T.kl_Net.ok rfl rfl) rfl (j_var (pv 0))) ja_nil)) j_int) ja_nil)))))) (jb_one js_never) jb_nil)
  (jb_cons (js_if (jt_not (jt_tru (j_call (f_is_number T base) ar_runB (hr.mono (by omega)) (by rfl) T.g_is_number T.k_is_number T.b_is_number (ja_cons (j_var (pv 2)) (ja_cons j_int (ja_cons j_int ja_nil)))))) (jb_one js_never) jb_nil)
  (jb_cons (js_augF (T.kl_Net.ok rfl rfl) rfl (j_var (pv 0)) j_int iop_add op2_iadd)
  (jb_cons (js_expr (j_meth (T.kl_Net.ok rfl rfl) T.kl_Net.mg (by decide +kernel) (j_var (pv 0)) T.m_Net_wait_for (f_Net_wait_for T base) ar_runB (hr.mono (by omega)) T.b_Net_wait_for (ja_cons (j_var (pv 1)) (ja_cons (j_var (pv 2)) (ja_cons (j_op op_sub op2_sub (j_fld (T.kl_Net.ok rfl rfl) rfl (j_var (pv 0))) j_int) ja_nil)))))
  (jb_cons (js_expr (j_meth0 (T.kl_Net.ok rfl rfl) T.kl_Net.mg (by decide +kernel) (j_var (pv 0)) T.m_Net_begin (f_Net_begin T base) ar_runB (hr.mono (by omega)) T.b_Net_begin))
  (jb_one (js_ret (j_op op_sub op2_sub (j_fld (T.kl_Net.ok rfl rfl) rfl (j_var (pv 0))) j_int))))))))
theorem f_Net_settle (T : Tx P K mg) (base : Heap) : FJ P wo K mg base 4 T.f_Net_settle T.d_Net_settle ["self", "most"] m_Net_settle := fj_mk (k := 3) T.F_Net_settle sc_Net_settle fun cdv A outer s H E C hr =>
  (jb_cons (js_set (i := 2) sc_Net_settle.nd rfl (by first | exact .inl rfl | exact .inr rfl) (j_op op_addA (op2_add mkL_s) (j_fld (T.kl_Net.ok rfl rfl) rfl (j_var (pv 0))) (j_var (pv 1))))
  (jb_cons (js_while (jt_w (jw_and (jt_cmp op_isNotA op2_isnot (j_meth0 (T.kl_Net.ok rfl rfl) T.kl_Net.mg (by decide +kernel) (j_var (pv 0)) T.m_Net_due (f_Net_due T base) ar_runB (hr.mono (by omega)) T.b_Net_due) j_non (nomark _)) (jw_and1 (jt_cmp op_le op2_le (j_meth0 (T.kl_Net.ok rfl rfl) T.kl_Net.mg (by decide +kernel) (j_var (pv 0)) T.m_Net_due (f_Net_due T base) ar_runB (hr.mono (by omega)) T.b_Net_due) (j_var (pv 2)) (nomark _))))) (jb_one (js_expr (j_meth (T.kl_Net.ok rfl rfl) T.kl_Net.mg (by decide +kernel) (j_var (pv 0)) T.m_Net_wait (f_Net_wait T base) ar_runB (hr.mono (by omega)) T.b_Net_wait (ja_cons (j_op op_sub op2_sub (j_meth0 (T.kl_Net.ok rfl rfl) T.kl_Net.mg (by decide +kernel) (j_var (pv 0)) T.m_Net_due (f_Net_due T base) ar_runB (hr.mono (by omega)) T.b_Net_due) (j_fld (T.kl_Net.ok rfl rfl) rfl (j_var (pv 0)))) ja_nil)))))
  (jb_one (js_ret (j_cmp op_isA op2_is (j_meth0 (T.kl_Net.ok rfl rfl) T.kl_Net.mg (by decide +kernel) (j_var (pv 0)) T.m_Net_due (f_Net_due T base) ar_runB (hr.mono (by omega)) T.b_Net_due) j_non (nomark _))))))
theorem f__law_goals (T : Tx P K mg) (base : Heap) : FJ P wo K mg base 1 T.f__law_goals T.d__law_goals ["table", "spot"] m__law_goals := fj_mk (k := 0) T.F__law_goals sc__law_goals fun cdv A outer s H E C hr =>
  (jb_one (js_ret (j_lkm [0] (j_lc mkL_c rfl sc__law_goals.nd (ji_any (j_var (pv 0))) (blkOk_by (own := [("row", 2)]) (by kernel_rfl)) rfl (gv_name (by decide)) (fun _ _ _ _ _ => (pg_name (i := 2) sc__law_goals.nd rfl (by first | exact .inl rfl | exact .inr rfl))) (fun _ _ _ _ _ => (jts_one (jt_w (jw_and (jt_cmp (op_eqA (hu64 hr)) op2_eq (j_ix (hu64 hr) (j_var (pv 2)) j_int fun _ _ => rfl) (j_ix (hu64 hr) (j_var (pv 1)) j_int fun _ _ => rfl) (nomark _)) (jw_and1 (jt_cmp (op_eqA (hu64 hr)) op2_eq (j_ix (hu64 hr) (j_var (pv 2)) j_int fun _ _ => rfl) (j_ix (hu64 hr) (j_var (pv 1)) j_int fun _ _ => rfl) (nomark _))))))) (fun _ _ _ _ _ => (j_tup (ja_cons (j_ix (hu64 hr) (j_var (pv 2)) j_int fun _ _ => rfl) (ja_cons (j_ix (hu64 hr) (j_var (pv 2)) j_int fun _ _ => rfl) ja_nil))))))))
theorem f__law_all_ways (T : Tx P K mg) (base : Heap) : FJ P wo K mg base 2 T.f__law_all_ways T.d__law_all_ways ["table", "spot"] m__law_all_ways := fj_mk (k := 1) T.F__law_all_ways sc__law_all_ways fun cdv A outer s H E C hr =>
  (jb_cons (js_set (i := 2) sc__law_all_ways.nd rfl (by first | exact .inl rfl | exact .inr rfl) (j_obj (ja_cons (j_lst (ja_cons (j_var (pv 1)) ja_nil)) ja_nil)))
  (jb_cons (js_set (i := 3) sc__law_all_ways.nd rfl (by first | exact .inl rfl | exact .inr rfl) j_int)
  (jb_cons (js_while (jt_cmp op_lt op2_lt (j_var (pv 3)) (j_callB call_lenA opA_len (by rfl) T.n_len (by rfl) (ja_cons (j_var (pv 2)) ja_nil)) (nomark _)) (jb_cons (js_for rfl (ji_any (j_call (f__law_goals T base) ar_runB (hr.mono (by omega)) (by rfl) T.g__law_goals T.k__law_goals T.b__law_goals (ja_cons (j_var (pv 0)) (ja_cons (j_ix (hu64 hr) (j_ix (hu64 hr) (j_var (pv 2)) (j_var (pv 3)) fun _ _ => rfl) (j_un un_neg op1_neg j_int) fun _ _ => rfl) ja_nil)))) (jg_name (pg_name (i := 4) sc__law_all_ways.nd rfl (by first | exact .inl rfl | exact .inr rfl))) (jb_cons (js_if (jt_cmp (op_inA (hu65 hr)) op2_in (j_var (pv 4)) (j_ix (hu64 hr) (j_var (pv 2)) (j_var (pv 3)) fun _ _ => rfl) (by with_unfolding_all rfl)) (jb_one (js_ret (j_tup (ja_cons (j_var (pv 2)) (ja_cons (j_op op_addA (op2_add mkL_s) (j_ix (hu64 hr) (j_var (pv 2)) (j_var (pv 3)) fun _ _ => rfl) (j_lst (ja_cons (j_var (pv 4)) ja_nil))) ja_nil))))) jb_nil)
  (jb_one (js_expr (j_bm PySem.F.plainAttrs_list PySem.F.slot_list_append PySem.F.type_list_append mt_append opM_append (j_var (pv 2)) (ja_cons (j_op op_addA (op2_add mkL_s) (j_ix (hu64 hr) (j_var (pv 2)) (j_var (pv 3)) fun _ _ => rfl) (j_lst (ja_cons (j_var (pv 4)) ja_nil))) ja_nil))))))
  (jb_one (js_set (i := 3) sc__law_all_ways.nd rfl (by first | exact .inl rfl | exact .inr rfl) (j_op op_addA (op2_add mkL_s) (j_var (pv 3)) j_int)))))
  (jb_one (js_ret (j_tup (ja_cons (j_var (pv 2)) (ja_cons j_non ja_nil))))))))
theorem f__law_passed (T : Tx P K mg) (base : Heap) : FJ P wo K mg base 3 T.f__law_passed T.d__law_passed ["table", "spot"] m__law_passed := fj_mk (k := 2) T.F__law_passed sc__law_passed fun cdv A outer s H E C hr =>
  (jb_cons (js_asg (j_call (f__law_all_ways T base) ar_runB (hr.mono (by omega)) (by rfl) T.g__law_all_ways T.k__law_all_ways T.b__law_all_ways (ja_cons (j_var (pv 0)) (ja_cons (j_var (pv 1)) ja_nil))) (jg_tup rfl (jgs_cons (jg_name (pg_name (i := 2) sc__law_passed.nd rfl (by first | exact .inl rfl | exact .inr rfl))) (jgs_cons (jg_name (pg_name (i := 3) sc__law_passed.nd rfl (by first | exact .inl rfl | exact .inr rfl))) jgs_nil))))
  (jb_cons (js_if (jt_cmp op_isNotA op2_isnot (j_var (pv 3)) j_non (nomark _)) (jb_one (js_ret (j_tup (ja_cons j_str (ja_cons (j_var (pv 3)) ja_nil))))) jb_nil)
  (jb_cons (js_for rfl (ji_range1 (by rfl) T.n_range (ja_cons (j_callB call_lenA opA_len (by rfl) T.n_len (by rfl) (ja_cons (j_var (pv 2)) ja_nil)) ja_nil)) (jg_name (pg_name (i := 4) sc__law_passed.nd rfl (by first | exact .inl rfl | exact .inr rfl))) (jb_cons (js_setLc (i := 5) mkL_c rfl sc__law_passed.nd rfl rfl (sw_true rfl rfl rfl rfl) (ji_range1 (by rfl) T.n_range (ja_cons (j_var (pv 4)) ja_nil)) (blkOk_by (own := [("j", 6)]) (by kernel_rfl)) rfl (gv_name (by decide)) (fun _ _ _ _ _ => (pg_name (i := 6) sc__law_passed.nd rfl (by first | exact .inl rfl | exact .inr rfl))) (fun _ _ _ _ _ => (jts_one (jt_cmp (op_eqA (hu64 hr)) op2_eq (j_ix (hu64 hr) (j_ix (hu64 hr) (j_ix (hu64 hr) (j_var (pv 2)) (j_var (pv 6)) fun _ _ => rfl) (j_un un_neg op1_neg j_int) fun _ _ => rfl) j_int fun _ _ => rfl) (j_ix (hu64 hr) (j_ix (hu64 hr) (j_ix (hu64 hr) (j_var (pv 2)) (j_var (pv 4)) fun _ _ => rfl) (j_un un_neg op1_neg j_int) fun _ _ => rfl) j_int fun _ _ => rfl) (nomark _)))) (fun _ _ _ _ _ => (j_var (pv 6))))
  (jb_one (js_if (jt_cmp op_gt op2_gt (j_callB call_lenA opA_len (by rfl) T.n_len (by rfl) (ja_cons (j_var (pv 5)) ja_nil)) j_int (nomark _)) (jb_one (js_ret (j_tup (ja_cons j_str (ja_cons (j_ix (hu64 hr) (j_var (pv 2)) (j_ix (hu64 hr) (j_var (pv 5)) j_int fun _ _ => rfl) fun _ _ => rfl) (ja_cons (j_ix (hu64 hr) (j_var (pv 2)) (j_var (pv 4)) fun _ _ => rfl) ja_nil)))))) jb_nil))))
  (jb_one (js_ret (j_tup (ja_cons j_str (ja_cons (j_lkm [2] (j_lc mkL_c rfl sc__law_passed.nd (ji_any (j_var (pv 2))) (blkOk_by (own := [("way", 7)]) (by kernel_rfl)) rfl (gv_name (by decide)) (fun _ _ _ _ _ => (pg_name (i := 7) sc__law_passed.nd rfl (by first | exact .inl rfl | exact .inr rfl))) (fun _ _ _ _ _ => jts_nil) (fun _ _ _ _ _ => (j_ix (hu64 hr) (j_var (pv 7)) (j_un un_neg op1_neg j_int) fun _ _ => rfl)))) ja_nil))))))))
theorem f_law (T : Tx P K mg) (base : Heap) : FJ P wo K mg base 13 T.f_law T.d_law ["script"] m_law := fj_mk (k := 12) T.F_law sc_law fun cdv A outer s H E C hr =>
  (jb_cons (js_set (i := 1) sc_law.nd rfl (by first | exact .inl rfl | exact .inr rfl) (j_call (f__law_draws T base) ar_runB (hr.mono (by omega)) (by rfl) T.g__law_draws T.k__law_draws T.b__law_draws (ja_cons (j_var (pv 0)) ja_nil)))
  (jb_cons (js_for rfl (ji_range1 (by rfl) T.n_range (ja_cons j_int ja_nil)) (jg_name (pg_name (i := 2) sc_law.nd rfl (by first | exact .inl rfl | exact .inr rfl))) (jb_cons (js_set (i := 3) sc_law.nd rfl (by first | exact .inl rfl | exact .inr rfl) (j_op op_addA (op2_add mkL_s) j_int (j_call (f__law_draw T base) ar_runB (hr.mono (by omega)) (by rfl) T.g__law_draw T.k__law_draw T.b__law_draw (ja_cons (j_var (pv 1)) (ja_cons j_int ja_nil)))))
  (jb_cons (js_set (i := 4) sc_law.nd rfl (by first | exact .inl rfl | exact .inr rfl) (j_call (f__law_table T base) ar_runB (hr.mono (by omega)) (by rfl) T.g__law_table T.k__law_table T.b__law_table (ja_cons (j_var (pv 1)) (ja_cons (j_var (pv 3)) (ja_cons j_int ja_nil)))))
  (jb_cons (js_set (i := 5) sc_law.nd rfl (by first | exact .inl rfl | exact .inr rfl) (j_lc mkL_c rfl sc_law.nd (ji_range1 (by rfl) T.n_range (ja_cons (j_var (pv 3)) ja_nil)) (blkOk_by (own := [("k", 11)]) (by kernel_rfl)) rfl (gv_name (by decide)) (fun _ _ _ _ _ => (pg_name (i := 11) sc_law.nd rfl (by first | exact .inl rfl | exact .inr rfl))) (fun _ _ _ _ _ => jts_nil) (fun _ _ _ _ _ => (j_op op_addA (op2_add mkL_s) j_int (j_call (f__law_draw T base) ar_runB (hr.mono (by omega)) (by rfl) T.g__law_draw T.k__law_draw T.b__law_draw (ja_cons (j_var (pv 1)) (ja_cons j_int ja_nil)))))))
  (jb_cons (js_set (i := 6) sc_law.nd rfl (by first | exact .inl rfl | exact .inr rfl) (j_make T.kl_Net.mg rfl T.mk_Net (f_Net___init__ T base) ar_runB (hr.mono (by omega)) (by rfl) T.b_Net___init__ (ja_cons (j_callTy (call_listA rfl) (opA_list mkL_s) (by rfl) T.n_list (by rfl) (ja_cons (j_var (pv 5)) ja_nil)) (ja_cons (j_call (f__law_copy T base 12) (a__law_copy 12) (hr.mono (by omega)) (by rfl) T.g__law_copy T.k__law_copy T.b__law_copy (ja_cons (j_var (pv 4)) ja_nil)) ja_nil))))
  (jb_cons (js_set (i := 7) sc_law.nd rfl (by first | exact .inl rfl | exact .inr rfl) (j_lst ja_nil))
  (jb_cons (js_for rfl (ji_range1 (by rfl) T.n_range (ja_cons (j_var (pv 3)) ja_nil)) (jg_name (pg_name (i := 8) sc_law.nd rfl (by first | exact .inl rfl | exact .inr rfl))) (jb_one (js_set (i := 7) sc_law.nd rfl (by first | exact .inl rfl | exact .inr rfl) (j_op op_addA (op2_add mkL_s) (j_var (pv 7)) (j_lc mkL_c rfl sc_law.nd (ji_any (j_lst (ja_cons j_int (ja_cons j_int (ja_cons j_int (ja_cons j_int ja_nil)))))) (blkOk_by (own := [("number", 18)]) (by kernel_rfl)) rfl (gv_name (by decide)) (fun _ _ _ _ _ => (pg_name (i := 18) sc_law.nd rfl (by first | exact .inl rfl | exact .inr rfl))) (fun _ _ _ _ _ => jts_nil) (fun _ _ _ _ _ => (j_tup (ja_cons (j_var (pv 8)) (ja_cons (j_var (pv 18)) ja_nil)))))))))
  (jb_cons (js_lkm [7] (js_setLc (i := 9) mkL_c rfl sc_law.nd rfl rfl (sw_true rfl rfl rfl rfl) (ji_any (j_var (pv 7))) (blkOk_by (own := [("spot", 12)]) (by kernel_rfl)) rfl (gv_name (by decide)) (fun _ _ _ _ _ => (pg_name (i := 12) sc_law.nd rfl (by first | exact .inl rfl | exact .inr rfl))) (fun _ _ _ _ _ => (jts_one (jt_cmp (op_eqA (hu64 hr)) op2_eq (j_ix (hu64 hr) (j_call (f__law_passed T base) ar_runB (hr.mono (by omega)) (by rfl) T.g__law_passed T.k__law_passed T.b__law_passed (ja_cons (j_var (pv 4)) (ja_cons (j_var (pv 12)) ja_nil))) j_int fun _ _ => rfl) j_str (nomark _)))) (fun _ _ _ _ _ => (j_var (pv 12)))))
  (jb_cons (js_set (i := 10) sc_law.nd rfl (by first | exact .inl rfl | exact .inr rfl) (j_obj ja_nil))
  (jb_cons (js_for rfl (ji_range1 (by rfl) T.n_range (ja_cons (j_op op_mul op2_mul (j_call (f__law_draw T base) ar_runB (hr.mono (by omega)) (by rfl) T.g__law_draw T.k__law_draw T.b__law_draw (ja_cons (j_var (pv 1)) (ja_cons j_int ja_nil))) (j_callTy call_int1 opA_int (by rfl) T.n_int (by rfl) (ja_cons (j_cmp op_gt op2_gt (j_callB call_lenA opA_len (by rfl) T.n_len (by rfl) (ja_cons (j_var (pv 9)) ja_nil)) j_int (nomark _)) ja_nil))) ja_nil)) (jg_name (pg_name (i := 11) sc_law.nd rfl (by first | exact .inl rfl | exact .inr rfl))) (jb_cons (js_set (i := 12) sc_law.nd rfl (by first | exact .inl rfl | exact .inr rfl) (j_ix (hu64 hr) (j_var (pv 9)) (j_call (f__law_draw T base) ar_runB (hr.mono (by omega)) (by rfl) T.g__law_draw T.k__law_draw T.b__law_draw (ja_cons (j_var (pv 1)) (ja_cons (j_callB call_lenA opA_len (by rfl) T.n_len (by rfl) (ja_cons (j_var (pv 9)) ja_nil)) ja_nil))) fun _ _ => rfl))
  (jb_cons (js_if (jt_cmp (op_neA (hu64 hr)) op2_ne (j_meth (T.kl_Net.ok rfl rfl) T.kl_Net.mg (by decide +kernel) (j_var (pv 6)) T.m_Net_put (f_Net_put T base) ar_runB (hr.mono (by omega)) T.b_Net_put (ja_cons (j_ix (hu64 hr) (j_var (pv 12)) j_int fun _ _ => rfl) (ja_cons (j_ix (hu64 hr) (j_var (pv 12)) j_int fun _ _ => rfl) ja_nil))) (j_callB call_lenA opA_len (by rfl) T.n_len (by rfl) (ja_cons (j_var (pv 10)) ja_nil)) (nomark _)) (jb_one (js_ret j_bl)) jb_nil)
  (jb_cons (js_expr (j_bm PySem.F.plainAttrs_list PySem.F.slot_list_append PySem.F.type_list_append mt_append opM_append (j_var (pv 10)) (ja_cons (j_ix (hu64 hr) (j_call (f__law_passed T base) ar_runB (hr.mono (by omega)) (by rfl) T.g__law_passed T.k__law_passed T.b__law_passed (ja_cons (j_var (pv 4)) (ja_cons (j_var (pv 12)) ja_nil))) j_int fun _ _ => rfl) ja_nil)))
  (jb_one (js_expr (j_meth (T.kl_Net.ok rfl rfl) T.kl_Net.mg (by decide +kernel) (j_var (pv 6)) T.m_Net_wait (f_Net_wait T base) ar_runB (hr.mono (by omega)) T.b_Net_wait (ja_cons (j_ix (hu64 hr) (j_lst (ja_cons j_int (ja_cons j_int (ja_cons j_int (ja_cons j_int ja_nil))))) (j_call (f__law_draw T base) ar_runB (hr.mono (by omega)) (by rfl) T.g__law_draw T.k__law_draw T.b__law_draw (ja_cons (j_var (pv 1)) (ja_cons j_int ja_nil))) fun _ _ => rfl) ja_nil))))))))
  (jb_cons (js_if (jt_w (jw_or (jt_cmp op_isNotA op2_isnot (j_meth (T.kl_Net.ok rfl rfl) T.kl_Net.mg (by decide +kernel) (j_var (pv 6)) T.m_Net_settle (f_Net_settle T base) ar_runB (hr.mono (by omega)) T.b_Net_settle (ja_cons (j_op op_pow op2_pow j_int j_int) ja_nil)) j_bl (nomark _)) (jw_or1 (jt_cmp op_isNotA op2_isnot (j_meth0 (T.kl_Net.ok rfl rfl) T.kl_Net.mg (by decide +kernel) (j_var (pv 6)) T.m_Net_due (f_Net_due T base) ar_runB (hr.mono (by omega)) T.b_Net_due) j_non (nomark _))))) (jb_one (js_ret j_bl)) jb_nil)
  (jb_cons (js_for rfl (ji_range1 (by rfl) T.n_range (ja_cons (j_callB call_lenA opA_len (by rfl) T.n_len (by rfl) (ja_cons (j_var (pv 10)) ja_nil)) ja_nil)) (jg_name (pg_name (i := 13) sc_law.nd rfl (by first | exact .inl rfl | exact .inr rfl))) (jb_cons (js_set (i := 14) sc_law.nd rfl (by first | exact .inl rfl | exact .inr rfl) (j_callB (cr_sortG (hu64 hr)) (opA_sortG mkL_s) (by rfl) T.n_sorted (by rfl) (ja_cons (j_lkm [6, 6] (j_lc mkL_c rfl sc_law.nd (ji_any (j_fld (T.kl_Net.ok rfl rfl) rfl (j_var (pv 6)))) (blkOk_by (own := [("time", 19), ("wire", 8), ("number", 18), ("one", 20), ("waited", 21)]) (by kernel_rfl)) rfl (gv_tup (gvs_cons (gv_name (by decide)) (gvs_cons (gv_name (by decide)) (gvs_cons (gv_name (by decide)) (gvs_cons (gv_name (by decide)) (gvs_cons (gv_name (by decide)) gvs_nil)))))) (fun _ _ _ _ _ => (pg_tup rfl (pgs_cons (pg_name (i := 19) sc_law.nd rfl (by first | exact .inl rfl | exact .inr rfl)) (pgs_cons (pg_name (i := 8) sc_law.nd rfl (by first | exact .inl rfl | exact .inr rfl)) (pgs_cons (pg_name (i := 18) sc_law.nd rfl (by first | exact .inl rfl | exact .inr rfl)) (pgs_cons (pg_name (i := 20) sc_law.nd rfl (by first | exact .inl rfl | exact .inr rfl)) (pgs_cons (pg_name (i := 21) sc_law.nd rfl (by first | exact .inl rfl | exact .inr rfl)) pgs_nil))))))) (fun _ _ _ _ _ => (jts_one (jt_cmp (op_eqA (hu64 hr)) op2_eq (j_var (pv 20)) (j_var (pv 13)) (nomark _)))) (fun _ _ _ _ _ => (j_tup (ja_cons (j_var (pv 8)) (ja_cons (j_var (pv 18)) ja_nil)))))) ja_nil)))
  (jb_one (js_if (jt_cmp (op_neA (hu64 hr)) op2_ne (j_var (pv 14)) (j_callB (cr_sortG (hu64 hr)) (opA_sortG mkL_s) (by rfl) T.n_sorted (by rfl) (ja_cons (j_ix (hu64 hr) (j_var (pv 10)) (j_var (pv 13)) fun _ _ => rfl) ja_nil)) (nomark _)) (jb_one (js_ret j_bl)) jb_nil))))
  (jb_cons (js_for rfl (ji_range1 (by rfl) T.n_range (ja_cons (j_var (pv 3)) ja_nil)) (jg_name (pg_name (i := 8) sc_law.nd rfl (by first | exact .inl rfl | exact .inr rfl))) (jb_cons (js_set (i := 15) sc_law.nd rfl (by first | exact .inl rfl | exact .inr rfl) (j_lkm [6, 6] (j_lc mkL_c rfl sc_law.nd (ji_any (j_fld (T.kl_Net.ok rfl rfl) rfl (j_var (pv 6)))) (blkOk_by (own := [("row", 22)]) (by kernel_rfl)) rfl (gv_name (by decide)) (fun _ _ _ _ _ => (pg_name (i := 22) sc_law.nd rfl (by first | exact .inl rfl | exact .inr rfl))) (fun _ _ _ _ _ => (jts_one (jt_cmp (op_eqA (hu64 hr)) op2_eq (j_ix (hu64 hr) (j_var (pv 22)) j_int fun _ _ => rfl) (j_var (pv 8)) (nomark _)))) (fun _ _ _ _ _ => (j_ix (hu64 hr) (j_var (pv 22)) j_int fun _ _ => rfl)))))
  (jb_one (js_if (jt_w (jw_or (jt_tru (j_callB (cr_any rfl) opA_any (by rfl) T.n_any (by rfl) (ja_cons (j_lc mkL_c rfl sc_law.nd (ji_range1 (by rfl) T.n_range (ja_cons (j_op op_sub op2_sub (j_callB call_lenA opA_len (by rfl) T.n_len (by rfl) (ja_cons (j_var (pv 15)) ja_nil)) j_int) ja_nil)) (blkOk_by (own := [("k", 11)]) (by kernel_rfl)) rfl (gv_name (by decide)) (fun _ _ _ _ _ => (pg_name (i := 11) sc_law.nd rfl (by first | exact .inl rfl | exact .inr rfl))) (fun _ _ _ _ _ => jts_nil) (fun _ _ _ _ _ => (j_cmp op_lt op2_lt (j_op op_sub op2_sub (j_ix (hu64 hr) (j_var (pv 15)) (j_op op_addA (op2_add mkL_s) (j_var (pv 11)) j_int) fun _ _ => rfl) (j_ix (hu64 hr) (j_var (pv 15)) (j_var (pv 11)) fun _ _ => rfl)) (j_ix (hu64 hr) (j_var (pv 5)) (j_var (pv 8)) fun _ _ => rfl) (nomark _)))) ja_nil))) (jw_or1 (jt_tru (j_callB (cr_any rfl) opA_any (by rfl) T.n_any (by rfl) (ja_cons (j_lkm [6, 6] (j_lc mkL_c rfl sc_law.nd (ji_any (j_fld (T.kl_Net.ok rfl rfl) rfl (j_var (pv 6)))) (blkOk_by (own := [("row", 22)]) (by kernel_rfl)) rfl (gv_name (by decide)) (fun _ _ _ _ _ => (pg_name (i := 22) sc_law.nd rfl (by first | exact .inl rfl | exact .inr rfl))) (fun _ _ _ _ _ => (jts_one (jt_cmp (op_eqA (hu64 hr)) op2_eq (j_ix (hu64 hr) (j_var (pv 22)) j_int fun _ _ => rfl) (j_var (pv 8)) (nomark _)))) (fun _ _ _ _ _ => (j_cmp op_lt op2_lt (j_ix (hu64 hr) (j_var (pv 22)) j_int fun _ _ => rfl) (j_ix (hu64 hr) (j_var (pv 5)) (j_var (pv 8)) fun _ _ => rfl) (nomark _))))) ja_nil)))))) (jb_one (js_ret j_bl)) jb_nil))))
  (jb_cons (js_lkm [7] (js_setLc (i := 16) mkL_c rfl sc_law.nd rfl rfl (sw_true rfl rfl rfl rfl) (ji_any (j_var (pv 7))) (blkOk_by (own := [("spot", 12)]) (by kernel_rfl)) rfl (gv_name (by decide)) (fun _ _ _ _ _ => (pg_name (i := 12) sc_law.nd rfl (by first | exact .inl rfl | exact .inr rfl))) (fun _ _ _ _ _ => (jts_one (jt_cmp (op_eqA (hu64 hr)) op2_eq (j_ix (hu64 hr) (j_call (f__law_passed T base) ar_runB (hr.mono (by omega)) (by rfl) T.g__law_passed T.k__law_passed T.b__law_passed (ja_cons (j_var (pv 4)) (ja_cons (j_var (pv 12)) ja_nil))) j_int fun _ _ => rfl) j_str (nomark _)))) (fun _ _ _ _ _ => (j_var (pv 12)))))
  (jb_one (js_if (jt_cmp op_gt op2_gt (j_callB call_lenA opA_len (by rfl) T.n_len (by rfl) (ja_cons (j_var (pv 16)) ja_nil)) j_int (nomark _)) (jb_cons (js_set (i := 12) sc_law.nd rfl (by first | exact .inl rfl | exact .inr rfl) (j_ix (hu64 hr) (j_var (pv 16)) (j_call (f__law_draw T base) ar_runB (hr.mono (by omega)) (by rfl) T.g__law_draw T.k__law_draw T.b__law_draw (ja_cons (j_var (pv 1)) (ja_cons (j_callB call_lenA opA_len (by rfl) T.n_len (by rfl) (ja_cons (j_var (pv 16)) ja_nil)) ja_nil))) fun _ _ => rfl))
  (jb_cons (js_expr (j_meth (T.kl_Net.ok rfl rfl) T.kl_Net.mg (by decide +kernel) (j_var (pv 6)) T.m_Net_put (f_Net_put T base) ar_runB (hr.mono (by omega)) T.b_Net_put (ja_cons (j_ix (hu64 hr) (j_var (pv 12)) j_int fun _ _ => rfl) (ja_cons (j_ix (hu64 hr) (j_var (pv 12)) j_int fun _ _ => rfl) ja_nil))))
  (jb_cons (js_set (i := 17) sc_law.nd rfl (by first | exact .inl rfl | exact .inr rfl) (j_callB call_lenA opA_len (by rfl) T.n_len (by rfl) (ja_cons (j_fld (T.kl_Net.ok rfl rfl) rfl (j_var (pv 6))) ja_nil)))
  (jb_one (js_if (jt_w (jw_or (jt_cmp op_isNotA op2_isnot (j_meth (T.kl_Net.ok rfl rfl) T.kl_Net.mg (by decide +kernel) (j_var (pv 6)) T.m_Net_settle (f_Net_settle T base) ar_runB (hr.mono (by omega)) T.b_Net_settle (ja_cons j_int ja_nil)) j_bl (nomark _)) (jw_or1 (jt_cmp op_lt op2_lt (j_callB call_lenA opA_len (by rfl) T.n_len (by rfl) (ja_cons (j_fld (T.kl_Net.ok rfl rfl) rfl (j_var (pv 6))) ja_nil)) (j_op op_addA (op2_add mkL_s) (j_var (pv 17)) j_int) (nomark _))))) (jb_one (js_ret j_bl)) jb_nil))))) jb_nil))))))))))))))))
  (jb_one (js_ret j_bl))))
end
/-! what the top has written -/
theorem all_mk {l : PySem.W.OpenLaw} {w : World} {K : PySem.W.Frag} {h : Heap} {mg : Str → Option Value} {fa : Addr} {o__law_draws o__law_draw o__law_table o_is_number o_check_table o_Net___init__ o__law_copy o_Net_due o_Net_begin o_comes o_Net_wait_for o_Net_come o_Net_wait o_Net_put o_Net_settle o__law_goals o__law_all_ways o__law_passed o_law A_Net : Addr} {od__law_draws an__law_draws od__law_draw an__law_draw od__law_table an__law_table od_is_number an_is_number od_check_table an_check_table od_Net___init__ an_Net___init__ od__law_copy an__law_copy od_Net_due an_Net_due od_Net_begin an_Net_begin od_comes an_comes od_Net_wait_for an_Net_wait_for od_Net_come an_Net_come od_Net_wait an_Net_wait od_Net_put an_Net_put od_Net_settle an_Net_settle od__law_goals an__law_goals od__law_all_ways an__law_all_ways od__law_passed an__law_passed od_law an_law : Option Addr} {sl__law_draws sl__law_draw sl__law_table sl_is_number sl_check_table sl_Net___init__ sl__law_copy sl_Net_due sl_Net_begin sl_comes sl_Net_wait_for sl_Net_come sl_Net_wait sl_Net_put sl_Net_settle sl__law_goals sl__law_all_ways sl__law_passed sl_law : Array (Option Value)} {oc__law_draws kV__law_draws dc__law_draws pm__law_draws cd__law_draws ct__law_draws oc__law_draw kV__law_draw dc__law_draw pm__law_draw cd__law_draw ct__law_draw oc__law_table kV__law_table dc__law_table pm__law_table cd__law_table ct__law_table oc_is_number kV_is_number dc_is_number pm_is_number cd_is_number ct_is_number oc_check_table kV_check_table dc_check_table pm_check_table cd_check_table ct_check_table oc_Net___init__ kV_Net___init__ dc_Net___init__ pm_Net___init__ cd_Net___init__ ct_Net___init__ oc__law_copy kV__law_copy dc__law_copy pm__law_copy cd__law_copy ct__law_copy oc_Net_due kV_Net_due dc_Net_due pm_Net_due cd_Net_due ct_Net_due oc_Net_begin kV_Net_begin dc_Net_begin pm_Net_begin cd_Net_begin ct_Net_begin oc_comes kV_comes dc_comes pm_comes cd_comes ct_comes oc_Net_wait_for kV_Net_wait_for dc_Net_wait_for pm_Net_wait_for cd_Net_wait_for ct_Net_wait_for oc_Net_come kV_Net_come dc_Net_come pm_Net_come cd_Net_come ct_Net_come oc_Net_wait kV_Net_wait dc_Net_wait pm_Net_wait cd_Net_wait ct_Net_wait oc_Net_put kV_Net_put dc_Net_put pm_Net_put cd_Net_put ct_Net_put oc_Net_settle kV_Net_settle dc_Net_settle pm_Net_settle cd_Net_settle ct_Net_settle oc__law_goals kV__law_goals dc__law_goals pm__law_goals cd__law_goals ct__law_goals oc__law_all_ways kV__law_all_ways dc__law_all_ways pm__law_all_ways cd__law_all_ways ct__law_all_ways oc__law_passed kV__law_passed dc__law_passed pm__law_passed cd__law_passed ct__law_passed oc_law kV_law dc_law pm_law cd_law ct_law : Value} (X : K.In h) (G : h.Ns mainGlobals mg) (hfa : mg "law" = some (.ref fa))
  (aC_Net : PySem.W.nsIn K mainGlobals "Net" = some (some (.ref A_Net)))
  (a__law_draws : PySem.W.nsIn K mainGlobals "_law_draws" = some (some (.ref o__law_draws)))
  (l__law_draws : K.lookup o__law_draws = some ⟨oc__law_draws, od__law_draws, .func (PySem.W.fnOf "_law_draws" "_law_draws" (defArgs s__law_draws) (defBody s__law_draws) (defScope s__law_draws) .none kV__law_draws dc__law_draws pm__law_draws an__law_draws cd__law_draws ct__law_draws), sl__law_draws⟩)
  (c__law_draws : PySem.W.codeIn K cd__law_draws "_law_draws" = true)
  (k__law_draws : PySem.W.keepIn K (.ref o__law_draws) = true)
  (a__law_draw : PySem.W.nsIn K mainGlobals "_law_draw" = some (some (.ref o__law_draw)))
  (l__law_draw : K.lookup o__law_draw = some ⟨oc__law_draw, od__law_draw, .func (PySem.W.fnOf "_law_draw" "_law_draw" (defArgs s__law_draw) (defBody s__law_draw) (defScope s__law_draw) .none kV__law_draw dc__law_draw pm__law_draw an__law_draw cd__law_draw ct__law_draw), sl__law_draw⟩)
  (c__law_draw : PySem.W.codeIn K cd__law_draw "_law_draw" = true)
  (k__law_draw : PySem.W.keepIn K (.ref o__law_draw) = true)
  (a__law_table : PySem.W.nsIn K mainGlobals "_law_table" = some (some (.ref o__law_table)))
  (l__law_table : K.lookup o__law_table = some ⟨oc__law_table, od__law_table, .func (PySem.W.fnOf "_law_table" "_law_table" (defArgs s__law_table) (defBody s__law_table) (defScope s__law_table) .none kV__law_table dc__law_table pm__law_table an__law_table cd__law_table ct__law_table), sl__law_table⟩)
  (c__law_table : PySem.W.codeIn K cd__law_table "_law_table" = true)
  (k__law_table : PySem.W.keepIn K (.ref o__law_table) = true)
  (a_is_number : PySem.W.nsIn K mainGlobals "is_number" = some (some (.ref o_is_number)))
  (l_is_number : K.lookup o_is_number = some ⟨oc_is_number, od_is_number, .func (PySem.W.fnOf "is_number" "is_number" (defArgs s_is_number) (defBody s_is_number) (defScope s_is_number) .none kV_is_number dc_is_number pm_is_number an_is_number cd_is_number ct_is_number), sl_is_number⟩)
  (c_is_number : PySem.W.codeIn K cd_is_number "is_number" = true)
  (k_is_number : PySem.W.keepIn K (.ref o_is_number) = true)
  (a_check_table : PySem.W.nsIn K mainGlobals "check_table" = some (some (.ref o_check_table)))
  (l_check_table : K.lookup o_check_table = some ⟨oc_check_table, od_check_table, .func (PySem.W.fnOf "check_table" "check_table" (defArgs s_check_table) (defBody s_check_table) (defScope s_check_table) .none kV_check_table dc_check_table pm_check_table an_check_table cd_check_table ct_check_table), sl_check_table⟩)
  (c_check_table : PySem.W.codeIn K cd_check_table "check_table" = true)
  (k_check_table : PySem.W.keepIn K (.ref o_check_table) = true)
  (a_Net___init__ : PySem.W.findIn K (.ref A_Net) "__init__" = some (some (.ref o_Net___init__)))
  (i_Net___init__ : PySem.W.isFn K (.ref o_Net___init__) = true)
  (l_Net___init__ : K.lookup o_Net___init__ = some ⟨oc_Net___init__, od_Net___init__, .func (PySem.W.fnOf "__init__" "Net.__init__" (defArgs s_Net___init__) (defBody s_Net___init__) (defScope s_Net___init__) .none kV_Net___init__ dc_Net___init__ pm_Net___init__ an_Net___init__ cd_Net___init__ ct_Net___init__), sl_Net___init__⟩)
  (c_Net___init__ : PySem.W.codeIn K cd_Net___init__ "Net.__init__" = true)
  (k_Net___init__ : PySem.W.keepIn K (.ref o_Net___init__) = true)
  (a__law_copy : PySem.W.nsIn K mainGlobals "_law_copy" = some (some (.ref o__law_copy)))
  (l__law_copy : K.lookup o__law_copy = some ⟨oc__law_copy, od__law_copy, .func (PySem.W.fnOf "_law_copy" "_law_copy" (defArgs s__law_copy) (defBody s__law_copy) (defScope s__law_copy) .none kV__law_copy dc__law_copy pm__law_copy an__law_copy cd__law_copy ct__law_copy), sl__law_copy⟩)
  (c__law_copy : PySem.W.codeIn K cd__law_copy "_law_copy" = true)
  (k__law_copy : PySem.W.keepIn K (.ref o__law_copy) = true)
  (a_Net_due : PySem.W.findIn K (.ref A_Net) "due" = some (some (.ref o_Net_due)))
  (i_Net_due : PySem.W.isFn K (.ref o_Net_due) = true)
  (l_Net_due : K.lookup o_Net_due = some ⟨oc_Net_due, od_Net_due, .func (PySem.W.fnOf "due" "Net.due" (defArgs s_Net_due) (defBody s_Net_due) (defScope s_Net_due) .none kV_Net_due dc_Net_due pm_Net_due an_Net_due cd_Net_due ct_Net_due), sl_Net_due⟩)
  (c_Net_due : PySem.W.codeIn K cd_Net_due "Net.due" = true)
  (k_Net_due : PySem.W.keepIn K (.ref o_Net_due) = true)
  (a_Net_begin : PySem.W.findIn K (.ref A_Net) "begin" = some (some (.ref o_Net_begin)))
  (i_Net_begin : PySem.W.isFn K (.ref o_Net_begin) = true)
  (l_Net_begin : K.lookup o_Net_begin = some ⟨oc_Net_begin, od_Net_begin, .func (PySem.W.fnOf "begin" "Net.begin" (defArgs s_Net_begin) (defBody s_Net_begin) (defScope s_Net_begin) .none kV_Net_begin dc_Net_begin pm_Net_begin an_Net_begin cd_Net_begin ct_Net_begin), sl_Net_begin⟩)
  (c_Net_begin : PySem.W.codeIn K cd_Net_begin "Net.begin" = true)
  (k_Net_begin : PySem.W.keepIn K (.ref o_Net_begin) = true)
  (a_comes : PySem.W.nsIn K mainGlobals "comes" = some (some (.ref o_comes)))
  (l_comes : K.lookup o_comes = some ⟨oc_comes, od_comes, .func (PySem.W.fnOf "comes" "comes" (defArgs s_comes) (defBody s_comes) (defScope s_comes) .none kV_comes dc_comes pm_comes an_comes cd_comes ct_comes), sl_comes⟩)
  (c_comes : PySem.W.codeIn K cd_comes "comes" = true)
  (k_comes : PySem.W.keepIn K (.ref o_comes) = true)
  (a_Net_wait_for : PySem.W.findIn K (.ref A_Net) "wait_for" = some (some (.ref o_Net_wait_for)))
  (i_Net_wait_for : PySem.W.isFn K (.ref o_Net_wait_for) = true)
  (l_Net_wait_for : K.lookup o_Net_wait_for = some ⟨oc_Net_wait_for, od_Net_wait_for, .func (PySem.W.fnOf "wait_for" "Net.wait_for" (defArgs s_Net_wait_for) (defBody s_Net_wait_for) (defScope s_Net_wait_for) .none kV_Net_wait_for dc_Net_wait_for pm_Net_wait_for an_Net_wait_for cd_Net_wait_for ct_Net_wait_for), sl_Net_wait_for⟩)
  (c_Net_wait_for : PySem.W.codeIn K cd_Net_wait_for "Net.wait_for" = true)
  (k_Net_wait_for : PySem.W.keepIn K (.ref o_Net_wait_for) = true)
  (a_Net_come : PySem.W.findIn K (.ref A_Net) "come" = some (some (.ref o_Net_come)))
  (i_Net_come : PySem.W.isFn K (.ref o_Net_come) = true)
  (l_Net_come : K.lookup o_Net_come = some ⟨oc_Net_come, od_Net_come, .func (PySem.W.fnOf "come" "Net.come" (defArgs s_Net_come) (defBody s_Net_come) (defScope s_Net_come) .none kV_Net_come dc_Net_come pm_Net_come an_Net_come cd_Net_come ct_Net_come), sl_Net_come⟩)
  (c_Net_come : PySem.W.codeIn K cd_Net_come "Net.come" = true)
  (k_Net_come : PySem.W.keepIn K (.ref o_Net_come) = true)
  (a_Net_wait : PySem.W.findIn K (.ref A_Net) "wait" = some (some (.ref o_Net_wait)))
  (i_Net_wait : PySem.W.isFn K (.ref o_Net_wait) = true)
  (l_Net_wait : K.lookup o_Net_wait = some ⟨oc_Net_wait, od_Net_wait, .func (PySem.W.fnOf "wait" "Net.wait" (defArgs s_Net_wait) (defBody s_Net_wait) (defScope s_Net_wait) .none kV_Net_wait dc_Net_wait pm_Net_wait an_Net_wait cd_Net_wait ct_Net_wait), sl_Net_wait⟩)
  (c_Net_wait : PySem.W.codeIn K cd_Net_wait "Net.wait" = true)
  (k_Net_wait : PySem.W.keepIn K (.ref o_Net_wait) = true)
  (a_Net_put : PySem.W.findIn K (.ref A_Net) "put" = some (some (.ref o_Net_put)))
  (i_Net_put : PySem.W.isFn K (.ref o_Net_put) = true)
  (l_Net_put : K.lookup o_Net_put = some ⟨oc_Net_put, od_Net_put, .func (PySem.W.fnOf "put" "Net.put" (defArgs s_Net_put) (defBody s_Net_put) (defScope s_Net_put) .none kV_Net_put dc_Net_put pm_Net_put an_Net_put cd_Net_put ct_Net_put), sl_Net_put⟩)
  (c_Net_put : PySem.W.codeIn K cd_Net_put "Net.put" = true)
  (k_Net_put : PySem.W.keepIn K (.ref o_Net_put) = true)
  (a_Net_settle : PySem.W.findIn K (.ref A_Net) "settle" = some (some (.ref o_Net_settle)))
  (i_Net_settle : PySem.W.isFn K (.ref o_Net_settle) = true)
  (l_Net_settle : K.lookup o_Net_settle = some ⟨oc_Net_settle, od_Net_settle, .func (PySem.W.fnOf "settle" "Net.settle" (defArgs s_Net_settle) (defBody s_Net_settle) (defScope s_Net_settle) .none kV_Net_settle dc_Net_settle pm_Net_settle an_Net_settle cd_Net_settle ct_Net_settle), sl_Net_settle⟩)
  (c_Net_settle : PySem.W.codeIn K cd_Net_settle "Net.settle" = true)
  (k_Net_settle : PySem.W.keepIn K (.ref o_Net_settle) = true)
  (a__law_goals : PySem.W.nsIn K mainGlobals "_law_goals" = some (some (.ref o__law_goals)))
  (l__law_goals : K.lookup o__law_goals = some ⟨oc__law_goals, od__law_goals, .func (PySem.W.fnOf "_law_goals" "_law_goals" (defArgs s__law_goals) (defBody s__law_goals) (defScope s__law_goals) .none kV__law_goals dc__law_goals pm__law_goals an__law_goals cd__law_goals ct__law_goals), sl__law_goals⟩)
  (c__law_goals : PySem.W.codeIn K cd__law_goals "_law_goals" = true)
  (k__law_goals : PySem.W.keepIn K (.ref o__law_goals) = true)
  (a__law_all_ways : PySem.W.nsIn K mainGlobals "_law_all_ways" = some (some (.ref o__law_all_ways)))
  (l__law_all_ways : K.lookup o__law_all_ways = some ⟨oc__law_all_ways, od__law_all_ways, .func (PySem.W.fnOf "_law_all_ways" "_law_all_ways" (defArgs s__law_all_ways) (defBody s__law_all_ways) (defScope s__law_all_ways) .none kV__law_all_ways dc__law_all_ways pm__law_all_ways an__law_all_ways cd__law_all_ways ct__law_all_ways), sl__law_all_ways⟩)
  (c__law_all_ways : PySem.W.codeIn K cd__law_all_ways "_law_all_ways" = true)
  (k__law_all_ways : PySem.W.keepIn K (.ref o__law_all_ways) = true)
  (a__law_passed : PySem.W.nsIn K mainGlobals "_law_passed" = some (some (.ref o__law_passed)))
  (l__law_passed : K.lookup o__law_passed = some ⟨oc__law_passed, od__law_passed, .func (PySem.W.fnOf "_law_passed" "_law_passed" (defArgs s__law_passed) (defBody s__law_passed) (defScope s__law_passed) .none kV__law_passed dc__law_passed pm__law_passed an__law_passed cd__law_passed ct__law_passed), sl__law_passed⟩)
  (c__law_passed : PySem.W.codeIn K cd__law_passed "_law_passed" = true)
  (k__law_passed : PySem.W.keepIn K (.ref o__law_passed) = true)
  (a_law : PySem.W.nsIn K mainGlobals "law" = some (some (.ref o_law)))
  (l_law : K.lookup o_law = some ⟨oc_law, od_law, .func (PySem.W.fnOf "law" "law" (defArgs s_law) (defBody s_law) (defScope s_law) .none kV_law dc_law pm_law an_law cd_law ct_law), sl_law⟩)
  (c_law : PySem.W.codeIn K cd_law "law" = true)
  (k_law : PySem.W.keepIn K (.ref o_law) = true)
  (pg_Net : PySem.W.plainGet K A_Net Str.empty = true)
  (hd_Net : PySem.W.hasDictIn K A_Net = true)
  (po_Net : PySem.W.plainOver K A_Net = true)
  (sa_Net : PySem.W.findIn K (.ref A_Net) "__setattr__" = some (some (.builtin "object.__setattr__")))
  (mk_Net : PySem.W.makesIn K A_Net = true)
  (kc_Net : PySem.W.keepIn K (.ref A_Net) = true)
  (na_Net_times : PySem.W.findIn K (.ref A_Net) "times" = some none)
  (na_Net_table : PySem.W.findIn K (.ref A_Net) "table" = some none)
  (na_Net_now : PySem.W.findIn K (.ref A_Net) "now" = some none)
  (na_Net_count : PySem.W.findIn K (.ref A_Net) "count" = some none)
  (na_Net_waiting : PySem.W.findIn K (.ref A_Net) "waiting" = some none)
  (na_Net_going : PySem.W.findIn K (.ref A_Net) "going" = some none)
  (na_Net_log : PySem.W.findIn K (.ref A_Net) "log" = some none)
  (z_all : PySem.W.nsIn K mainGlobals "all" = some none)
  (z_any : PySem.W.nsIn K mainGlobals "any" = some none)
  (z_bool : PySem.W.nsIn K mainGlobals "bool" = some none)
  (z_dict : PySem.W.nsIn K mainGlobals "dict" = some none)
  (z_int : PySem.W.nsIn K mainGlobals "int" = some none)
  (z_isinstance : PySem.W.nsIn K mainGlobals "isinstance" = some none)
  (z_len : PySem.W.nsIn K mainGlobals "len" = some none)
  (z_list : PySem.W.nsIn K mainGlobals "list" = some none)
  (z_min : PySem.W.nsIn K mainGlobals "min" = some none)
  (z_range : PySem.W.nsIn K mainGlobals "range" = some none)
  (z_sorted : PySem.W.nsIn K mainGlobals "sorted" = some none)
  (z_tuple : PySem.W.nsIn K mainGlobals "tuple" = some none) :
  ∃ fd : FuncData, (∀ (s : Shared) (v : Value), BindsTo s fd ⟨[v], []⟩ [("script", v)]) ∧ ∀ base : Heap, K.In base → base.Ns mainGlobals mg → FnOk l.prog w K mg base (L2.CX l.prog w) 13 fa fd ["script"] (spM K mg 1 m_law) := by
  have e := hfa.symm.trans (PySem.W.mg_of X G a_law)
  cases e
  have F__law_draws := fun_mk (st := s__law_draws) l__law_draws c__law_draws k__law_draws
  have b__law_draws := F__law_draws.binds (ps := ["script"]) fun _ _ _ _ _ _ us hl => match us, hl with | [_], _ => rfl
  have F__law_draw := fun_mk (st := s__law_draw) l__law_draw c__law_draw k__law_draw
  have b__law_draw := F__law_draw.binds (ps := ["draws", "limit"]) fun _ _ _ _ _ _ us hl => match us, hl with | [_, _], _ => rfl
  have F__law_table := fun_mk (st := s__law_table) l__law_table c__law_table k__law_table
  have b__law_table := F__law_table.binds (ps := ["draws", "wires", "most"]) fun _ _ _ _ _ _ us hl => match us, hl with | [_, _, _], _ => rfl
  have F_is_number := fun_mk (st := s_is_number) l_is_number c_is_number k_is_number
  have b_is_number := F_is_number.binds (ps := ["thing", "low", "high"]) fun _ _ _ _ _ _ us hl => match us, hl with | [_, _, _], _ => rfl
  have F_check_table := fun_mk (st := s_check_table) l_check_table c_check_table k_check_table
  have b_check_table := F_check_table.binds (ps := ["wires", "table"]) fun _ _ _ _ _ _ us hl => match us, hl with | [_, _], _ => rfl
  have F_Net___init__ := fun_mk (st := s_Net___init__) l_Net___init__ c_Net___init__ k_Net___init__
  have b_Net___init__ := F_Net___init__.binds (ps := ["self", "times", "table"]) fun _ _ _ _ _ _ us hl => match us, hl with | [_, _, _], _ => rfl
  have F__law_copy := fun_mk (st := s__law_copy) l__law_copy c__law_copy k__law_copy
  have b__law_copy := F__law_copy.binds (ps := ["thing"]) fun _ _ _ _ _ _ us hl => match us, hl with | [_], _ => rfl
  have F_Net_due := fun_mk (st := s_Net_due) l_Net_due c_Net_due k_Net_due
  have b_Net_due := F_Net_due.binds (ps := ["self"]) fun _ _ _ _ _ _ us hl => match us, hl with | [_], _ => rfl
  have F_Net_begin := fun_mk (st := s_Net_begin) l_Net_begin c_Net_begin k_Net_begin
  have b_Net_begin := F_Net_begin.binds (ps := ["self"]) fun _ _ _ _ _ _ us hl => match us, hl with | [_], _ => rfl
  have F_comes := fun_mk (st := s_comes) l_comes c_comes k_comes
  have b_comes := F_comes.binds (ps := ["table", "spot"]) fun _ _ _ _ _ _ us hl => match us, hl with | [_, _], _ => rfl
  have F_Net_wait_for := fun_mk (st := s_Net_wait_for) l_Net_wait_for c_Net_wait_for k_Net_wait_for
  have b_Net_wait_for := F_Net_wait_for.binds (ps := ["self", "wire", "number", "index"]) fun _ _ _ _ _ _ us hl => match us, hl with | [_, _, _, _], _ => rfl
  have F_Net_come := fun_mk (st := s_Net_come) l_Net_come c_Net_come k_Net_come
  have b_Net_come := F_Net_come.binds (ps := ["self"]) fun _ _ _ _ _ _ us hl => match us, hl with | [_], _ => rfl
  have F_Net_wait := fun_mk (st := s_Net_wait) l_Net_wait c_Net_wait k_Net_wait
  have b_Net_wait := F_Net_wait.binds (ps := ["self", "many"]) fun _ _ _ _ _ _ us hl => match us, hl with | [_, _], _ => rfl
  have F_Net_put := fun_mk (st := s_Net_put) l_Net_put c_Net_put k_Net_put
  have b_Net_put := F_Net_put.binds (ps := ["self", "wire", "number"]) fun _ _ _ _ _ _ us hl => match us, hl with | [_, _, _], _ => rfl
  have F_Net_settle := fun_mk (st := s_Net_settle) l_Net_settle c_Net_settle k_Net_settle
  have b_Net_settle := F_Net_settle.binds (ps := ["self", "most"]) fun _ _ _ _ _ _ us hl => match us, hl with | [_, _], _ => rfl
  have F__law_goals := fun_mk (st := s__law_goals) l__law_goals c__law_goals k__law_goals
  have b__law_goals := F__law_goals.binds (ps := ["table", "spot"]) fun _ _ _ _ _ _ us hl => match us, hl with | [_, _], _ => rfl
  have F__law_all_ways := fun_mk (st := s__law_all_ways) l__law_all_ways c__law_all_ways k__law_all_ways
  have b__law_all_ways := F__law_all_ways.binds (ps := ["table", "spot"]) fun _ _ _ _ _ _ us hl => match us, hl with | [_, _], _ => rfl
  have F__law_passed := fun_mk (st := s__law_passed) l__law_passed c__law_passed k__law_passed
  have b__law_passed := F__law_passed.binds (ps := ["table", "spot"]) fun _ _ _ _ _ _ us hl => match us, hl with | [_, _], _ => rfl
  have F_law := fun_mk (st := s_law) l_law c_law k_law
  have b_law := F_law.binds (ps := ["script"]) fun _ _ _ _ _ _ us hl => match us, hl with | [_], _ => rfl
  have NA_Net : ∀ f ∈ c_Net.fl, NoAttr K A_Net f := by
      intro f hf
      simp only [List.mem_cons, List.not_mem_nil, or_false] at hf
      rcases hf with rfl | rfl | rfl | rfl | rfl | rfl | rfl
      · exact na_Net_times
      · exact na_Net_table
      · exact na_Net_now
      · exact na_Net_count
      · exact na_Net_waiting
      · exact na_Net_going
      · exact na_Net_log
  let T : Tx l.prog K mg := {
    f__law_draws := o__law_draws, d__law_draws := _, F__law_draws := F__law_draws, b__law_draws := b__law_draws,
    g__law_draws := PySem.W.mg_of X G a__law_draws, k__law_draws := k__law_draws,
    f__law_draw := o__law_draw, d__law_draw := _, F__law_draw := F__law_draw, b__law_draw := b__law_draw,
    g__law_draw := PySem.W.mg_of X G a__law_draw, k__law_draw := k__law_draw,
    f__law_table := o__law_table, d__law_table := _, F__law_table := F__law_table, b__law_table := b__law_table,
    g__law_table := PySem.W.mg_of X G a__law_table, k__law_table := k__law_table,
    f_is_number := o_is_number, d_is_number := _, F_is_number := F_is_number, b_is_number := b_is_number,
    g_is_number := PySem.W.mg_of X G a_is_number, k_is_number := k_is_number,
    f_check_table := o_check_table, d_check_table := _, F_check_table := F_check_table, b_check_table := b_check_table,
    g_check_table := PySem.W.mg_of X G a_check_table, k_check_table := k_check_table,
    f_Net___init__ := o_Net___init__, d_Net___init__ := _, F_Net___init__ := F_Net___init__, b_Net___init__ := b_Net___init__,
    f__law_copy := o__law_copy, d__law_copy := _, F__law_copy := F__law_copy, b__law_copy := b__law_copy,
    g__law_copy := PySem.W.mg_of X G a__law_copy, k__law_copy := k__law_copy,
    f_Net_due := o_Net_due, d_Net_due := _, F_Net_due := F_Net_due, b_Net_due := b_Net_due,
    f_Net_begin := o_Net_begin, d_Net_begin := _, F_Net_begin := F_Net_begin, b_Net_begin := b_Net_begin,
    f_comes := o_comes, d_comes := _, F_comes := F_comes, b_comes := b_comes,
    g_comes := PySem.W.mg_of X G a_comes, k_comes := k_comes,
    f_Net_wait_for := o_Net_wait_for, d_Net_wait_for := _, F_Net_wait_for := F_Net_wait_for, b_Net_wait_for := b_Net_wait_for,
    f_Net_come := o_Net_come, d_Net_come := _, F_Net_come := F_Net_come, b_Net_come := b_Net_come,
    f_Net_wait := o_Net_wait, d_Net_wait := _, F_Net_wait := F_Net_wait, b_Net_wait := b_Net_wait,
    f_Net_put := o_Net_put, d_Net_put := _, F_Net_put := F_Net_put, b_Net_put := b_Net_put,
    f_Net_settle := o_Net_settle, d_Net_settle := _, F_Net_settle := F_Net_settle, b_Net_settle := b_Net_settle,
    f__law_goals := o__law_goals, d__law_goals := _, F__law_goals := F__law_goals, b__law_goals := b__law_goals,
    g__law_goals := PySem.W.mg_of X G a__law_goals, k__law_goals := k__law_goals,
    f__law_all_ways := o__law_all_ways, d__law_all_ways := _, F__law_all_ways := F__law_all_ways, b__law_all_ways := b__law_all_ways,
    g__law_all_ways := PySem.W.mg_of X G a__law_all_ways, k__law_all_ways := k__law_all_ways,
    f__law_passed := o__law_passed, d__law_passed := _, F__law_passed := F__law_passed, b__law_passed := b__law_passed,
    g__law_passed := PySem.W.mg_of X G a__law_passed, k__law_passed := k__law_passed,
    f_law := fa, d_law := _, F_law := F_law, b_law := b_law,
    g_law := PySem.W.mg_of X G a_law, k_law := k_law,
    A_Net := A_Net, kl_Net := ⟨PySem.W.mg_of X G aC_Net, ⟨pg_Net, hd_Net, po_Net, sa_Net⟩, NA_Net, by decide +kernel⟩,
    mk_Net := ⟨mk_Net, a_Net___init__, i_Net___init__, kc_Net⟩,
    m_Net_due := ⟨a_Net_due, i_Net_due, k_Net_due⟩,
    m_Net_begin := ⟨a_Net_begin, i_Net_begin, k_Net_begin⟩,
    m_Net_wait_for := ⟨a_Net_wait_for, i_Net_wait_for, k_Net_wait_for⟩,
    m_Net_come := ⟨a_Net_come, i_Net_come, k_Net_come⟩,
    m_Net_wait := ⟨a_Net_wait, i_Net_wait, k_Net_wait⟩,
    m_Net_put := ⟨a_Net_put, i_Net_put, k_Net_put⟩,
    m_Net_settle := ⟨a_Net_settle, i_Net_settle, k_Net_settle⟩,
    n_all := PySem.W.mg_none_of X G z_all,
    n_any := PySem.W.mg_none_of X G z_any,
    n_bool := PySem.W.mg_none_of X G z_bool,
    n_dict := PySem.W.mg_none_of X G z_dict,
    n_int := PySem.W.mg_none_of X G z_int,
    n_isinstance := PySem.W.mg_none_of X G z_isinstance,
    n_len := PySem.W.mg_none_of X G z_len,
    n_list := PySem.W.mg_none_of X G z_list,
    n_min := PySem.W.mg_none_of X G z_min,
    n_range := PySem.W.mg_none_of X G z_range,
    n_sorted := PySem.W.mg_none_of X G z_sorted,
    n_tuple := PySem.W.mg_none_of X G z_tuple }
  exact ⟨PySem.W.fnOf "law" "law" (defArgs s_law) (defBody s_law) (defScope s_law) .none kV_law dc_law pm_law an_law cd_law ct_law, fun s v => .of_eq rfl, fun base _ _ => f_law (P := l.prog) (wo := w) T base⟩
end G93
namespace G93
open PySem L2 Mi
theorem walk {l : PySem.W.OpenLaw} {q : Program} {loose : List Str} {XP : (Str → Option Value) → Heap → Prop} {YP : World → Heap → Prop} {d : DefRec} {K : Params → PySem.W.Frag} (hn : l.most = some 63) (hdf : d.params.defaults = [])
    (hY : ∀ (w : World) (h : Heap), YP w h → (K w.params).In h)
    (F : ∀ (w : World) (mg : Str → Option Value) (fa : Addr) (h : Heap), (K w.params).In h → h.Ns mainGlobals mg → mg d.name = some (.ref fa) →
      ∃ fd : FuncData, (∀ (s : Shared) (u : Value), BindsTo s fd ⟨[u], []⟩ [("script", u)]) ∧ ∀ base : Heap, (K w.params).In base → base.Ns mainGlobals mg → FnOk l.prog w (K w.params) mg base (L2.CX l.prog w) 13 fa fd ["script"] (spM (K w.params) mg 1 m_law)) :
    PySem.W.WalkO q loose XP YP l.row.toRowW d [] (fun f vs => PySem.call f vs) :=
  L2.walk_of (n := 63) (k := 13) (x := "script") (CX := fun w => L2.CX l.prog w) (sp := fun w => spL (K w.params)) hn (by decide) hdf ⟨rfl, by decide, by decide⟩ hY (fun w mg fa h a b c => by
    obtain ⟨fd, h1, h2⟩ := F w mg fa h a b c
    exact ⟨fd, h1, fun base x y => (h2 base x y).imp fun vs H Q E hs => spL_go pure hs⟩) (fun _ _ a ns hl _ hS => ⟨a, ns, rfl, hS, hl, fun _ => rfl⟩) fun _ _ _ _ _ z => cx_no z
end G93
open PySem PySem.W PyProof.Rows
set_option maxRecDepth 100000 in
set_option maxHeartbeats 0 in
theorem PySem.Challenge.cw_axlewire_k93_frames_come_once_holds : PySem.Challenge.rw_axlewire_k93_frames_come_once.Holds := by
  w_on; o_law; k_head; (case hw => w_witness2)
  k_fill
  refine G93.walk (l := PySem.Challenge.rw_axlewire_k93_frames_come_once) rfl rfl (fun w h Y => PySem.W.kIn_of Y) ?F
  case F =>
    intro w mg fa h KX G hmg
    refine' G93.all_mk KX G hmg ?aC_Net ?a__law_draws ?l__law_draws ?c__law_draws ?k__law_draws ?a__law_draw ?l__law_draw ?c__law_draw ?k__law_draw ?a__law_table ?l__law_table ?c__law_table ?k__law_table ?a_is_number ?l_is_number ?c_is_number ?k_is_number ?a_check_table ?l_check_table ?c_check_table ?k_check_table ?a_Net___init__ ?i_Net___init__ ?l_Net___init__ ?c_Net___init__ ?k_Net___init__ ?a__law_copy ?l__law_copy ?c__law_copy ?k__law_copy ?a_Net_due ?i_Net_due ?l_Net_due ?c_Net_due ?k_Net_due ?a_Net_begin ?i_Net_begin ?l_Net_begin ?c_Net_begin ?k_Net_begin ?a_comes ?l_comes ?c_comes ?k_comes ?a_Net_wait_for ?i_Net_wait_for ?l_Net_wait_for ?c_Net_wait_for ?k_Net_wait_for ?a_Net_come ?i_Net_come ?l_Net_come ?c_Net_come ?k_Net_come ?a_Net_wait ?i_Net_wait ?l_Net_wait ?c_Net_wait ?k_Net_wait ?a_Net_put ?i_Net_put ?l_Net_put ?c_Net_put ?k_Net_put ?a_Net_settle ?i_Net_settle ?l_Net_settle ?c_Net_settle ?k_Net_settle ?a__law_goals ?l__law_goals ?c__law_goals ?k__law_goals ?a__law_all_ways ?l__law_all_ways ?c__law_all_ways ?k__law_all_ways ?a__law_passed ?l__law_passed ?c__law_passed ?k__law_passed ?a_law ?l_law ?c_law ?k_law ?pg_Net ?hd_Net ?po_Net ?sa_Net ?mk_Net ?kc_Net ?na_Net_times ?na_Net_table ?na_Net_now ?na_Net_count ?na_Net_waiting ?na_Net_going ?na_Net_log ?z_all ?z_any ?z_bool ?z_dict ?z_int ?z_isinstance ?z_len ?z_list ?z_min ?z_range ?z_sorted ?z_tuple
    (case aC_Net => k_is); (case a__law_draws => k_is); (case l__law_draws => k_is); (case c__law_draws => k_is); (case k__law_draws => k_is); (case a__law_draw => k_is); (case l__law_draw => k_is); (case c__law_draw => k_is); (case k__law_draw => k_is); (case a__law_table => k_is); (case l__law_table => k_is); (case c__law_table => k_is); (case k__law_table => k_is); (case a_is_number => k_is); (case l_is_number => k_is); (case c_is_number => k_is); (case k_is_number => k_is); (case a_check_table => k_is); (case l_check_table => k_is); (case c_check_table => k_is); (case k_check_table => k_is); (case a_Net___init__ => k_is); (case i_Net___init__ => k_is); (case l_Net___init__ => k_is); (case c_Net___init__ => k_is); (case k_Net___init__ => k_is); (case a__law_copy => k_is); (case l__law_copy => k_is); (case c__law_copy => k_is); (case k__law_copy => k_is); (case a_Net_due => k_is); (case i_Net_due => k_is); (case l_Net_due => k_is); (case c_Net_due => k_is); (case k_Net_due => k_is); (case a_Net_begin => k_is); (case i_Net_begin => k_is); (case l_Net_begin => k_is); (case c_Net_begin => k_is); (case k_Net_begin => k_is); (case a_comes => k_is); (case l_comes => k_is); (case c_comes => k_is); (case k_comes => k_is); (case a_Net_wait_for => k_is); (case i_Net_wait_for => k_is); (case l_Net_wait_for => k_is); (case c_Net_wait_for => k_is); (case k_Net_wait_for => k_is); (case a_Net_come => k_is); (case i_Net_come => k_is); (case l_Net_come => k_is); (case c_Net_come => k_is); (case k_Net_come => k_is); (case a_Net_wait => k_is); (case i_Net_wait => k_is); (case l_Net_wait => k_is); (case c_Net_wait => k_is); (case k_Net_wait => k_is); (case a_Net_put => k_is); (case i_Net_put => k_is); (case l_Net_put => k_is); (case c_Net_put => k_is); (case k_Net_put => k_is); (case a_Net_settle => k_is); (case i_Net_settle => k_is); (case l_Net_settle => k_is); (case c_Net_settle => k_is); (case k_Net_settle => k_is); (case a__law_goals => k_is); (case l__law_goals => k_is); (case c__law_goals => k_is); (case k__law_goals => k_is); (case a__law_all_ways => k_is); (case l__law_all_ways => k_is); (case c__law_all_ways => k_is); (case k__law_all_ways => k_is); (case a__law_passed => k_is); (case l__law_passed => k_is); (case c__law_passed => k_is); (case k__law_passed => k_is); (case a_law => k_is); (case l_law => k_is); (case c_law => k_is); (case k_law => k_is); (case pg_Net => k_is); (case hd_Net => k_is); (case po_Net => k_is); (case sa_Net => k_is); (case mk_Net => k_is); (case kc_Net => k_is); (case na_Net_times => k_is); (case na_Net_table => k_is); (case na_Net_now => k_is); (case na_Net_count => k_is); (case na_Net_waiting => k_is); (case na_Net_going => k_is); (case na_Net_log => k_is); (case z_all => k_is); (case z_any => k_is); (case z_bool => k_is); (case z_dict => k_is); (case z_int => k_is); (case z_isinstance => k_is); (case z_len => k_is); (case z_list => k_is); (case z_min => k_is); (case z_range => k_is); (case z_sorted => k_is); (case z_tuple => k_is)
#print axioms PySem.Challenge.cw_axlewire_k93_frames_come_once_holds
