import PyProof.Rows.All
import HandS.ForMost
import HandS.Wide
import HandS.TupAny
import HandS.Deep
import HandS.WordsExc
import HandS.Small
import HandS.Star
import HandS.MethStar
import HandS.ClsMeth
import KE.GoesMore
import HandS.FStr
import HandS.Text
import HandS.RaiseMore
import HandS.Codes
import HandS.Strs
import HandS.SetFor
import HandS.SetIn
import HandS.Ends
import HandS.Words
import HandS.HeadEnd
import PyProof.ReprBulk
import HandS.TupLe
import KE.SortData
import KE.KDictSum
import HandS.Conv
import HandS.DictComp
import HandS.SetBool
import HandS.Head0
import HandS.Head1
import HandS.Head2
import HandS.HeadHook1
import HandS.HeadHook2
import HandS.HeadHook3
import PySem.Challenge.RW_farmirrors_k13_whole_plain_floors
set_option Elab.async false
set_option linter.all false
set_option maxRecDepth 100000
set_option maxHeartbeats 8000000
/-! DL, 1: values as trees D, an abstract store of mutable things, what stands for what. -/
namespace DL
open PySem PySem.Spec PyProof.Rows L2

inductive D where
  | non | bl (b : Bool) | int (i : Int) | str (s : Str)
  | tup (ds : List D) | lst (ds : List D)
  | dk (kvs : List (Key × D)) | dt (kvs : List (List Key × D))
  | obj (C : Addr) (fs : List (Str × D))
  | loc (l : Nat) | cst (a : Addr) | ty (n : String) | scr (ns : List Int)

inductive Ob where
  | lst (ds : List D)
  | dk (kvs : List (Key × D)) | dt (kvs : List (List Key × D))
  | ins (C : Addr) (fs : List (Str × D))
  | ext (φ : Addr → Heap → Prop)

abbrev Store := List Ob
abbrev Rho := List (Option D)
abbrev Locs := List (Option Addr)

/-- a is no live location -/
def Off (α : Locs) (a : Addr) : Prop := ∀ l : Nat, α[l]? ≠ some (some a)

def KT (K : PySem.W.Frag) (a : Addr) (xs : List V) : Prop :=
  ∃ (o : Obj) (its : Array Value) (n : Nat), K.lookup a = some o ∧ o.cls = .type "tuple" ∧ o.data = .seq its n ∧ its.size ≤ sizeLine ∧ Vals xs its.toList
def KL (K : PySem.W.Frag) (a : Addr) (xs : List V) : Prop :=
  ∃ (o : Obj) (its : Array Value) (n : Nat), K.lookup a = some o ∧ o.cls = .type "list" ∧ o.dict = none ∧ o.data = .seq its n ∧ its.size ≤ sizeLine ∧ Vals xs its.toList
def Tp (_ : PySem.W.Frag) (α : Locs) (H : Hp) (a : Addr) (xs : List V) : Prop := H a = some (.tup xs) ∧ Off α a
def Lp (K : PySem.W.Frag) (α : Locs) (H : Hp) (a : Addr) (xs : List V) : Prop := (Rd H a (.lst xs) ∧ Off α a) ∨ KL K a xs
theorem Tp.sq {K α H a xs} (h : Tp K α H a xs) : SqT K H a xs := Or.inl (Or.inl h.1)
theorem Lp.sq {K α H a xs} (h : Lp K α H a xs) : SqL K H a xs := by
  rcases h with ⟨h, _⟩ | h
  · exact Or.inl h
  · exact Or.inr h

section
variable (K : PySem.W.Frag) (α : Locs) (H : Hp)
mutual
/-- v stands for d -/
def Rp : V → D → Prop
  | v, .non => v = .non
  | v, .bl b => v = .bl b
  | v, .int i => v = .int i
  | v, .str s => v = .str s
  | v, .tup ds => ∃ a xs, v = .ref a ∧ Tp K α H a xs ∧ RpL xs ds
  | v, .lst ds => ∃ a xs, v = .ref a ∧ H a = some (.lst xs) ∧ Off α a ∧ RpL xs ds
  | v, .dk kvs => ∃ a xs, v = .ref a ∧ H a = some (.dK xs) ∧ Off α a ∧ RpK xs kvs
  | v, .dt kvs => ∃ a xs, v = .ref a ∧ H a = some (.dT xs) ∧ Off α a ∧ RpT xs kvs
  | v, .obj C fs => ∃ a dx xs, v = .ref a ∧ H a = some (.ins C dx xs) ∧ Off α a ∧ RpF xs fs
  | v, .loc l => ∃ a, v = .ref a ∧ α[l]? = some (some a)
  | v, .cst a => v = .ref a
  | v, .ty n => v = .ty n
  | v, .scr ns => ∃ a, v = .ref a ∧ Lp K α H a (ns.map V.int)
def RpL : List V → List D → Prop
  | vs, [] => vs = []
  | vs, d :: ds => ∃ v r, vs = v :: r ∧ Rp v d ∧ RpL r ds
def RpK : List (Key × V) → List (Key × D) → Prop
  | vs, [] => vs = []
  | vs, (k, d) :: ds => ∃ v r, vs = (k, v) :: r ∧ Rp v d ∧ RpK r ds
def RpT : List (List Key × V) → List (List Key × D) → Prop
  | vs, [] => vs = []
  | vs, (k, d) :: ds => ∃ v r, vs = (k, v) :: r ∧ Rp v d ∧ RpT r ds
def RpF : List (Str × V) → List (Str × D) → Prop
  | vs, [] => vs = []
  | vs, (k, d) :: ds => ∃ v r, vs = (k, v) :: r ∧ Rp v d ∧ RpF r ds
end
def ObRp (a : Addr) : Ob → Prop
  | .lst ds => ∃ xs, H a = some (.lst xs) ∧ RpL K α H xs ds
  | .dk kvs => ∃ xs, H a = some (.dK xs) ∧ RpK K α H xs kvs
  | .dt kvs => ∃ xs, H a = some (.dT xs) ∧ RpT K α H xs kvs
  | .ins C fs => ∃ dx xs, H a = some (.ins C dx xs) ∧ RpF K α H xs fs
  | .ext φ => H a = some (.ext (φ a))
structure StoreOk (S : Store) : Prop where
  len : α.length = S.length
  inj : ∀ (l l' : Nat) a, α[l]? = some (some a) → α[l']? = some (some a) → l = l'
  ob : ∀ (l : Nat) a o, α[l]? = some (some a) → S[l]? = some o → ObRp K α H a o
end

/-- from a state on -/
structure Stp (α : Locs) (H : Hp) (α' : Locs) (H' : Hp) : Prop where
  keep : ∀ a o, H a = some o → Off α a → H' a = some o
  dom : ∀ a, H' a = none → H a = none
  pre : ∀ (l : Nat) o, α[l]? = some o → α'[l]? = some o
  new : ∀ (l : Nat) a, α.length ≤ l → α'[l]? = some (some a) → H a = none

theorem Stp.refl (α : Locs) (H : Hp) : Stp α H α H :=
  ⟨fun _ _ h _ => h, fun _ h => h, fun _ _ h => h, fun l a h e => by
    rw [List.getElem?_eq_none_iff.mpr h] at e; cases e⟩
theorem Stp.off {α α' : Locs} {H H' : Hp} (t : Stp α H α' H') {a : Addr} {o : HO} (h : H a = some o) (f : Off α a) : Off α' a := fun l e => by
  by_cases hl : l < α.length
  · have e1 : α[l]? = some α[l] := List.getElem?_eq_getElem hl
    have e2 := t.pre l _ e1
    rw [e] at e2
    cases e2' : α[l] with
    | none => rw [e2'] at e2; cases e2
    | some b =>
      rw [e2'] at e2
      cases e2
      exact f l (by rw [e1, e2'])
  · have := t.new l a (Nat.le_of_not_lt hl) e
    rw [h] at this; cases this
theorem Stp.len {α α' : Locs} {H H' : Hp} (t : Stp α H α' H') : α.length ≤ α'.length := by
  by_cases h : α.length ≤ α'.length
  · exact h
  · have hl : α'.length < α.length := Nat.lt_of_not_le h
    have e1 : α[α'.length]? = some α[α'.length] := List.getElem?_eq_getElem hl
    have e2 := t.pre _ _ e1
    rw [List.getElem?_eq_none_iff.mpr (Nat.le_refl _)] at e2; cases e2
theorem Stp.trans {α α1 α2 : Locs} {H H1 H2 : Hp} (t : Stp α H α1 H1) (u : Stp α1 H1 α2 H2) : Stp α H α2 H2 where
  keep := fun a o h f => u.keep a o (t.keep a o h f) (t.off h f)
  dom := fun a h => t.dom a (u.dom a h)
  pre := fun l o h => u.pre l o (t.pre l o h)
  new := fun l a h e => by
    by_cases hl : l < α1.length
    · have e1 : α1[l]? = some α1[l] := List.getElem?_eq_getElem hl
      have e2 := u.pre l _ e1
      rw [e] at e2
      refine t.new l a h ?_
      rw [e1]
      exact e2.symm
    · exact t.dom a (u.new l a (Nat.le_of_not_lt hl) e)
theorem Stp.grow {α : Locs} {H H' : Hp} (k : ∀ a o, H a = some o → H' a = some o) : Stp α H α H' :=
  ⟨fun a o h _ => k a o h, fun a h => (by
    cases e : H a with
    | none => rfl
    | some o => rw [k a o e] at h; cases h), fun _ _ h => h, fun l a h e => by
    rw [List.getElem?_eq_none_iff.mpr h] at e; cases e⟩
theorem keep_new {H : Hp} {p : Addr} {o : HO} (hp : H p = none) : ∀ a u, H a = some u → upd H p o a = some u := fun a u h => by
  rw [upd_ne (ne_of_none h hp)]; exact h
theorem Stp.new_ {α : Locs} {H : Hp} {p : Addr} {o : HO} (hp : H p = none) : Stp α H α (upd H p o) := Stp.grow (keep_new hp)
theorem Stp.mut {α : Locs} {H : Hp} {l : Nat} {a : Addr} {o u : HO} (hl : α[l]? = some (some a)) (ha : H a = some o) : Stp α H α (upd H a u) :=
  ⟨fun b w h f => (by
    have ne : b ≠ a := fun e => f l (by rw [e]; exact hl)
    rw [upd_ne ne]; exact h), fun b h => (by
    by_cases e : b = a
    · subst e; rw [upd_same] at h; cases h
    · rw [upd_ne e] at h; exact h), fun _ _ h => h, fun l a h e => by
    rw [List.getElem?_eq_none_iff.mpr h] at e; cases e⟩

section
variable {K : PySem.W.Frag} {α α' : Locs} {H H' : Hp}
theorem Rd.stp {a : Addr} {u : HO} (t : Stp α H α' H') (h : Rd H a u) (f : Off α a) : Rd H' a u ∧ Off α' a := by
  rcases h with h | ⟨o, h⟩
  · exact ⟨Or.inl (t.keep _ _ h f), t.off h f⟩
  · exact ⟨Or.inr ⟨o, t.keep _ _ h f⟩, t.off h f⟩
theorem Tp.stp {a : Addr} {xs : List V} (t : Stp α H α' H') (h : Tp K α H a xs) : Tp K α' H' a xs := ⟨t.keep _ _ h.1 h.2, t.off h.1 h.2⟩
theorem Lp.stp {a : Addr} {xs : List V} (t : Stp α H α' H') (h : Lp K α H a xs) : Lp K α' H' a xs := by
  rcases h with ⟨h, f⟩ | h
  · exact Or.inl (Rd.stp t h f)
  · exact Or.inr h
mutual
theorem Rp.stp (t : Stp α H α' H') : ∀ (d : D) (v : V), Rp K α H v d → Rp K α' H' v d
  | .non, v, h => h
  | .bl b, v, h => h
  | .int i, v, h => h
  | .str s, v, h => h
  | .tup ds, v, h => by
    obtain ⟨a, xs, e, hs, hr⟩ := h
    exact ⟨a, xs, e, hs.stp t, RpL.stp t ds xs hr⟩
  | .lst ds, v, h => by
    obtain ⟨a, xs, e, hs, f, hr⟩ := h
    exact ⟨a, xs, e, t.keep _ _ hs f, t.off hs f, RpL.stp t ds xs hr⟩
  | .dk kvs, v, h => by
    obtain ⟨a, xs, e, hs, f, hr⟩ := h
    exact ⟨a, xs, e, t.keep _ _ hs f, t.off hs f, RpK.stp t kvs xs hr⟩
  | .dt kvs, v, h => by
    obtain ⟨a, xs, e, hs, f, hr⟩ := h
    exact ⟨a, xs, e, t.keep _ _ hs f, t.off hs f, RpT.stp t kvs xs hr⟩
  | .obj C fs, v, h => by
    obtain ⟨a, dx, xs, e, hs, f, hr⟩ := h
    exact ⟨a, dx, xs, e, t.keep _ _ hs f, t.off hs f, RpF.stp t fs xs hr⟩
  | .loc l, v, h => by
    obtain ⟨a, e, h⟩ := h
    exact ⟨a, e, t.pre _ _ h⟩
  | .cst a, v, h => h
  | .ty n, v, h => h
  | .scr ns, v, h => by
    obtain ⟨a, e, hs⟩ := h
    exact ⟨a, e, hs.stp t⟩
theorem RpL.stp (t : Stp α H α' H') : ∀ (ds : List D) (vs : List V), RpL K α H vs ds → RpL K α' H' vs ds
  | [], vs, h => h
  | d :: ds, vs, h => by
    obtain ⟨v, r, e, h1, h2⟩ := h
    exact ⟨v, r, e, Rp.stp t d v h1, RpL.stp t ds r h2⟩
theorem RpK.stp (t : Stp α H α' H') : ∀ (ds : List (Key × D)) (vs : List (Key × V)), RpK K α H vs ds → RpK K α' H' vs ds
  | [], vs, h => h
  | (k, d) :: ds, vs, h => by
    obtain ⟨v, r, e, h1, h2⟩ := h
    exact ⟨v, r, e, Rp.stp t d v h1, RpK.stp t ds r h2⟩
theorem RpT.stp (t : Stp α H α' H') : ∀ (ds : List (List Key × D)) (vs : List (List Key × V)), RpT K α H vs ds → RpT K α' H' vs ds
  | [], vs, h => h
  | (k, d) :: ds, vs, h => by
    obtain ⟨v, r, e, h1, h2⟩ := h
    exact ⟨v, r, e, Rp.stp t d v h1, RpT.stp t ds r h2⟩
theorem RpF.stp (t : Stp α H α' H') : ∀ (ds : List (Str × D)) (vs : List (Str × V)), RpF K α H vs ds → RpF K α' H' vs ds
  | [], vs, h => h
  | (k, d) :: ds, vs, h => by
    obtain ⟨v, r, e, h1, h2⟩ := h
    exact ⟨v, r, e, Rp.stp t d v h1, RpF.stp t ds r h2⟩
end

/-! ### lists of values -/
theorem RpL.len : ∀ {ds : List D} {vs : List V}, RpL K α H vs ds → vs.length = ds.length
  | [], vs, h => by
    have h : vs = [] := h
    subst h; rfl
  | d :: ds, vs, h => by
    obtain ⟨v, r, e, h1, h2⟩ := h
    subst e
    rw [List.length_cons, List.length_cons, RpL.len h2]
theorem RpL.get : ∀ {ds : List D} {vs : List V} {i : Nat} {d : D}, RpL K α H vs ds → ds[i]? = some d → ∃ v, vs[i]? = some v ∧ Rp K α H v d
  | [], vs, i, d, h, e => by simp at e
  | d :: ds, vs, 0, d', h, e => by
    obtain ⟨v, r, e1, h1, h2⟩ := h
    subst e1
    simp at e; subst e
    exact ⟨v, by simp, h1⟩
  | d :: ds, vs, i + 1, d', h, e => by
    obtain ⟨v, r, e1, h1, h2⟩ := h
    subst e1
    simp at e
    obtain ⟨w, q, rw'⟩ := RpL.get h2 e
    exact ⟨w, by simpa using q, rw'⟩
theorem RpL.append : ∀ {ds es : List D} {vs ws : List V}, RpL K α H vs ds → RpL K α H ws es → RpL K α H (vs ++ ws) (ds ++ es)
  | [], es, vs, ws, h, g => by
    have h : vs = [] := h
    subst h; exact g
  | d :: ds, es, vs, ws, h, g => by
    obtain ⟨v, r, e1, h1, h2⟩ := h
    subst e1
    exact ⟨v, r ++ ws, rfl, h1, RpL.append h2 g⟩
theorem RpL.one {v : V} {d : D} (h : Rp K α H v d) : RpL K α H [v] [d] := ⟨v, [], rfl, h, rfl⟩
theorem RpL.take : ∀ {ds : List D} {vs : List V} (n : Nat), RpL K α H vs ds → RpL K α H (vs.take n) (ds.take n)
  | _, _, 0, _ => rfl
  | [], vs, n + 1, h => by
    have h : vs = [] := h
    subst h; rfl
  | d :: ds, vs, n + 1, h => by
    obtain ⟨v, r, e1, h1, h2⟩ := h
    subst e1
    exact ⟨v, r.take n, rfl, h1, RpL.take n h2⟩
theorem RpL.drop : ∀ {ds : List D} {vs : List V} (n : Nat), RpL K α H vs ds → RpL K α H (vs.drop n) (ds.drop n)
  | _, _, 0, h => h
  | [], vs, n + 1, h => by
    have h : vs = [] := h
    subst h; rfl
  | d :: ds, vs, n + 1, h => by
    obtain ⟨v, r, e1, h1, h2⟩ := h
    subst e1
    exact RpL.drop n h2
theorem RpL.set : ∀ {ds : List D} {vs : List V} {v : V} {d : D} (i : Nat), Rp K α H v d → RpL K α H vs ds → RpL K α H (vs.set i v) (ds.set i d)
  | [], vs, v, d, i, r, h => by
    have h : vs = [] := h
    subst h; rfl
  | d :: ds, vs, v, d', 0, r, h => by
    obtain ⟨w, t, e1, h1, h2⟩ := h
    subst e1
    exact ⟨v, t, rfl, r, h2⟩
  | d :: ds, vs, v, d', i + 1, r, h => by
    obtain ⟨w, t, e1, h1, h2⟩ := h
    subst e1
    exact ⟨w, t.set i v, rfl, h1, RpL.set i r h2⟩
theorem RpL.reverse : ∀ {ds : List D} {vs : List V}, RpL K α H vs ds → RpL K α H vs.reverse ds.reverse
  | [], vs, h => by
    have h : vs = [] := h
    subst h; rfl
  | d :: ds, vs, h => by
    obtain ⟨w, t, e1, h1, h2⟩ := h
    subst e1
    rw [List.reverse_cons, List.reverse_cons]
    exact RpL.append (RpL.reverse h2) (RpL.one h1)
theorem RpL.ints : ∀ (ns : List Int), RpL K α H (ns.map V.int) (ns.map D.int)
  | [] => rfl
  | n :: ns => ⟨.int n, _, rfl, rfl, RpL.ints ns⟩
/-- attributes -/
theorem RpF.lookup : ∀ {fs : List (Str × D)} {xs : List (Str × V)} {f : Str} {d : D}, RpF K α H xs fs → fs.lookup f = some d → ∃ v, xs.lookup f = some v ∧ Rp K α H v d
  | [], xs, f, d, h, e => by simp at e
  | (k, d) :: fs, xs, f, d', h, e => by
    obtain ⟨v, r, e1, h1, h2⟩ := h
    subst e1
    rw [List.lookup_cons] at e ⊢
    cases q : (f == k) with
    | true =>
      rw [q] at e
      simp at e
      subst e
      exact ⟨v, rfl, h1⟩
    | false =>
      rw [q] at e
      exact RpF.lookup h2 e
theorem RpF.lookup_none : ∀ {fs : List (Str × D)} {xs : List (Str × V)} {f : Str}, RpF K α H xs fs → fs.lookup f = none → xs.lookup f = none
  | [], xs, f, h, e => by
    have h : xs = [] := h
    subst h; rfl
  | (k, d) :: fs, xs, f, h, e => by
    obtain ⟨v, r, e1, h1, h2⟩ := h
    subst e1
    rw [List.lookup_cons] at e ⊢
    cases q : (f == k) with
    | true => rw [q] at e; simp at e
    | false =>
      rw [q] at e
      exact RpF.lookup_none h2 e
theorem RpF.len : ∀ {fs : List (Str × D)} {xs : List (Str × V)}, RpF K α H xs fs → xs.length = fs.length
  | [], xs, h => by
    have h : xs = [] := h
    subst h; rfl
  | (k, d) :: ds, vs, h => by
    obtain ⟨v, r, e, h1, h2⟩ := h
    subst e
    rw [List.length_cons, List.length_cons, RpF.len h2]
def putD (f : Str) (y : D) : List (Str × D) → List (Str × D)
  | [] => [(f, y)]
  | (g, d) :: r => if g = f then (g, y) :: r else (g, d) :: putD f y r
end
end DL

/-! DL, 2: the store's laws; readings by data, lifted. -/
namespace DL
open PySem PySem.Spec PyProof.Rows L2

section
variable {K : PySem.W.Frag} {α α' : Locs} {H H' : Hp} {S : Store}
theorem ObRp.stp {a : Addr} (t : Stp α H α' H') (e : H' a = H a) : ∀ {o : Ob}, ObRp K α H a o → ObRp K α' H' a o
  | .lst ds, ⟨xs, h, r⟩ => ⟨xs, e.trans h, RpL.stp t ds xs r⟩
  | .dk ds, ⟨xs, h, r⟩ => ⟨xs, e.trans h, RpK.stp t ds xs r⟩
  | .dt ds, ⟨xs, h, r⟩ => ⟨xs, e.trans h, RpT.stp t ds xs r⟩
  | .ins C ds, ⟨dx, xs, h, r⟩ => ⟨dx, xs, e.trans h, RpF.stp t ds xs r⟩
  | .ext o, h => e.trans h
theorem ObRp.there {a : Addr} : ∀ {o : Ob}, ObRp K α H a o → ∃ u, H a = some u
  | .lst ds, ⟨xs, h, r⟩ => ⟨_, h⟩
  | .dk ds, ⟨xs, h, r⟩ => ⟨_, h⟩
  | .dt ds, ⟨xs, h, r⟩ => ⟨_, h⟩
  | .ins C ds, ⟨dx, xs, h, r⟩ => ⟨_, h⟩
  | .ext o, h => ⟨_, h⟩
theorem StoreOk.live (so : StoreOk K α H S) {l : Nat} {a : Addr} (h : α[l]? = some (some a)) : ∃ o u, S[l]? = some o ∧ ObRp K α H a o ∧ H a = some u := by
  have hl : l < S.length := by
    rw [← so.len]
    exact (List.getElem?_eq_some_iff.mp h).1
  have e : S[l]? = some S[l] := List.getElem?_eq_getElem hl
  have r := so.ob l a _ h e
  obtain ⟨u, hu⟩ := r.there
  exact ⟨_, u, e, r, hu⟩
theorem StoreOk.grow (so : StoreOk K α H S) (k : ∀ a o, H a = some o → H' a = some o) : StoreOk K α H' S :=
  ⟨so.len, so.inj, fun l a o h e => by
    have r := so.ob l a o h e
    obtain ⟨u, hu⟩ := r.there
    exact r.stp (Stp.grow k) ((k a u hu).trans hu.symm)⟩
theorem StoreOk.off_new (so : StoreOk K α H S) {p : Addr} (hp : H p = none) : Off α p := fun l e => by
  obtain ⟨_, u, _, _, hu⟩ := so.live e
  rw [hp] at hu; cases hu
theorem Stp.push {p : Addr} {o : HO} (hp : H p = none) : Stp α H (α ++ [some p]) (upd H p o) where
  keep := fun a u h _ => keep_new hp a u h
  dom := fun a h => by
    by_cases e : a = p
    · rw [e]; exact hp
    · rw [upd_ne e] at h; exact h
  pre := fun l u h => by
    rw [List.getElem?_append_left (List.getElem?_eq_some_iff.mp h).1]; exact h
  new := fun l a hl e => by
    rw [List.getElem?_append_right hl] at e
    cases q : l - α.length with
    | zero => rw [q] at e; simp at e; rw [← e]; exact hp
    | succ n => rw [q] at e; simp at e
theorem StoreOk.push {p : Addr} {o : HO} {ob : Ob} (so : StoreOk K α H S) (hp : H p = none) (r : ObRp K (α ++ [some p]) (upd H p o) p ob) : StoreOk K (α ++ [some p]) (upd H p o) (S ++ [ob]) where
  len := by rw [List.length_append, List.length_append, so.len]; rfl
  inj := fun l l' a h h' => by
    have key : ∀ m, (α ++ [some p])[m]? = some (some a) → (m < α.length ∧ α[m]? = some (some a) ∧ a ≠ p) ∨ (m = α.length ∧ a = p) := fun m hm => by
      by_cases hlt : m < α.length
      · rw [List.getElem?_append_left hlt] at hm
        refine Or.inl ⟨hlt, hm, ?_⟩
        rintro rfl
        exact so.off_new hp m hm
      · rw [List.getElem?_append_right (Nat.le_of_not_lt hlt)] at hm
        cases q : m - α.length with
        | zero => rw [q] at hm; simp at hm; exact Or.inr ⟨by omega, hm.symm⟩
        | succ n => rw [q] at hm; simp at hm
    rcases key l h with ⟨_, h1, n1⟩ | ⟨e1, e2⟩
    · rcases key l' h' with ⟨_, h2, _⟩ | ⟨_, e3⟩
      · exact so.inj l l' a h1 h2
      · exact absurd e3 n1
    · rcases key l' h' with ⟨_, _, n2⟩ | ⟨e3, _⟩
      · exact absurd e2 n2
      · rw [e1, e3]
  ob := fun l a u h e => by
    by_cases hlt : l < α.length
    · rw [List.getElem?_append_left hlt] at h
      rw [List.getElem?_append_left (by rw [← so.len]; exact hlt)] at e
      have r0 := so.ob l a u h e
      obtain ⟨w, hw⟩ := r0.there
      exact r0.stp (Stp.push hp) (by rw [upd_ne (ne_of_none hw hp)])
    · rw [List.getElem?_append_right (Nat.le_of_not_lt hlt)] at h
      rw [List.getElem?_append_right (by rw [← so.len]; exact Nat.le_of_not_lt hlt), ← so.len] at e
      cases q : l - α.length with
      | zero =>
        rw [q] at h e; simp at h e
        rw [← h, ← e]; exact r
      | succ n => rw [q] at h; simp at h
theorem StoreOk.set {l : Nat} {a : Addr} {o : HO} {ob : Ob} {u : HO} (so : StoreOk K α H S) (hl : α[l]? = some (some a)) (ha : H a = some u) (r : ObRp K α (upd H a o) a ob) : StoreOk K α (upd H a o) (S.set l ob) where
  len := by rw [List.length_set]; exact so.len
  inj := so.inj
  ob := fun l' a' o' h e => by
    by_cases q : l' = l
    · subst q
      rw [h] at hl; cases hl
      have hlt : l' < S.length := by rw [← so.len]; exact (List.getElem?_eq_some_iff.mp h).1
      rw [List.getElem?_set_self hlt] at e
      cases e
      exact r
    · rw [List.getElem?_set_ne (Ne.symm q)] at e
      have r0 := so.ob l' a' o' h e
      have ne : a' ≠ a := fun z => q (so.inj l' l a (by rw [← z]; exact h) hl)
      exact r0.stp (Stp.mut hl ha) (by rw [upd_ne ne])
end

/-! ### the frame -/
def getR : Rho → Nat → Option D
  | [], _ => none
  | x :: _, 0 => x
  | _ :: r, n + 1 => getR r n
def setR : Rho → Nat → D → Rho
  | [], _, _ => []
  | _ :: r, 0, d => some d :: r
  | x :: r, n + 1, d => x :: setR r n d
section
variable (K : PySem.W.Frag) (α : Locs) (H : Hp)
def RhoOk : Rho → L2.St → Prop
  | [], σ => σ = []
  | none :: r, σ => ∃ x t, σ = x :: t ∧ RhoOk r t
  | some d :: r, σ => ∃ v t, σ = some v :: t ∧ Rp K α H v d ∧ RhoOk r t
end
section
variable {K : PySem.W.Frag} {α α' : Locs} {H H' : Hp}
theorem RhoOk.stp (t : Stp α H α' H') : ∀ {ρ : Rho} {σ : L2.St}, RhoOk K α H ρ σ → RhoOk K α' H' ρ σ
  | [], σ, h => h
  | none :: r, σ, ⟨x, u, e, h⟩ => ⟨x, u, e, RhoOk.stp t h⟩
  | some d :: r, σ, ⟨v, u, e, h1, h⟩ => ⟨v, u, e, Rp.stp t d v h1, RhoOk.stp t h⟩
theorem RhoOk.get : ∀ {ρ : Rho} {σ : L2.St} {i : Nat} {d : D}, RhoOk K α H ρ σ → getR ρ i = some d → ∃ v, σ[i]? = some (some v) ∧ Rp K α H v d
  | [], σ, i, d, h, e => by cases e
  | none :: r, σ, 0, d, h, e => by cases e
  | none :: r, σ, i + 1, d, ⟨x, u, e1, h⟩, e => by
    subst e1
    obtain ⟨v, q, rr⟩ := RhoOk.get (i := i) h e
    exact ⟨v, by simpa using q, rr⟩
  | some d :: r, σ, 0, d', ⟨v, u, e1, h1, h⟩, e => by
    subst e1
    have e : some d = some d' := e
    cases e
    exact ⟨v, by simp, h1⟩
  | some d :: r, σ, i + 1, d', ⟨v, u, e1, h1, h⟩, e => by
    subst e1
    obtain ⟨v, q, rr⟩ := RhoOk.get (i := i) h e
    exact ⟨v, by simpa using q, rr⟩
theorem RhoOk.set : ∀ {ρ : Rho} {σ : L2.St} {v : V} {d : D} (i : Nat), Rp K α H v d → RhoOk K α H ρ σ → RhoOk K α H (setR ρ i d) (σ.set i (some v))
  | [], σ, v, d, i, r, h => by
    have h : σ = [] := h
    subst h; rfl
  | none :: ρ, σ, v, d, 0, r, ⟨x, u, e1, h⟩ => by
    subst e1
    exact ⟨v, u, rfl, r, h⟩
  | some d :: ρ, σ, v, d', 0, r, ⟨x, u, e1, h1, h⟩ => by
    subst e1
    exact ⟨v, u, rfl, r, h⟩
  | none :: ρ, σ, v, d, i + 1, r, ⟨x, u, e1, h⟩ => by
    subst e1
    exact ⟨x, u.set i (some v), rfl, RhoOk.set i r h⟩
  | some d :: ρ, σ, v, d', i + 1, r, ⟨x, u, e1, h1, h⟩ => by
    subst e1
    exact ⟨x, u.set i (some v), rfl, h1, RhoOk.set i r h⟩
theorem RhoOk.len : ∀ {ρ : Rho} {σ : L2.St}, RhoOk K α H ρ σ → σ.length = ρ.length
  | [], σ, h => by
    have h : σ = [] := h
    subst h; rfl
  | none :: r, σ, ⟨x, u, e, h⟩ => by
    subst e
    rw [List.length_cons, List.length_cons, RhoOk.len h]
  | some d :: r, σ, ⟨v, u, e, h1, h⟩ => by
    subst e
    rw [List.length_cons, List.length_cons, RhoOk.len h]
/-- slots forgotten -/
def subR : Rho → Rho → Prop
  | [], ρ => ρ = []
  | none :: r, ρ => ∃ x t, ρ = x :: t ∧ subR r t
  | some d :: r, ρ => ∃ t, ρ = some d :: t ∧ subR r t
theorem RhoOk.sub : ∀ {ρ' ρ : Rho} {σ : L2.St}, subR ρ' ρ → RhoOk K α H ρ σ → RhoOk K α H ρ' σ
  | [], ρ, σ, h, g => by
    have h : ρ = [] := h
    subst h; exact g
  | none :: r, ρ, σ, ⟨x, t, e, h⟩, g => by
    subst e
    cases x with
    | none => obtain ⟨y, u, e, g⟩ := g; exact ⟨y, u, e, RhoOk.sub h g⟩
    | some d => obtain ⟨v, u, e, _, g⟩ := g; exact ⟨some v, u, e, RhoOk.sub h g⟩
  | some d :: r, ρ, σ, ⟨t, e, h⟩, g => by
    subst e
    obtain ⟨v, u, e, g1, g⟩ := g
    exact ⟨v, u, e, g1, RhoOk.sub h g⟩
end

/-! ### readings by data -/
abbrev DK := D → Store → Prop
abbrev DT := Rho → Store → DK → Prop
abbrev DTt := Rho → Store → (Bool → Store → Prop) → Prop
abbrev DA := Rho → Store → (List D → Store → Prop) → Prop
abbrev RD := D → D → Store → DK → Prop
abbrev UD := D → Store → DK → Prop
abbrev CD := List D → Store → DK → Prop
structure DEnds where
  nx : Rho → Store → Prop
  rt : DK
  bk : Rho → Store → Prop := fun _ _ => False
  ct : Rho → Store → Prop := fun _ _ => False
abbrev DS := DEnds → Rho → Store → Prop
abbrev DG := D → Rho → Store → (Rho → Store → Prop) → Prop
abbrev DGs := List D → Rho → Store → (Rho → Store → Prop) → Prop

/-- what follows a value -/
def KE (K : PySem.W.Frag) (α : Locs) (H : Hp) (Q : DK) (Q' : VK) : Prop :=
  ∀ v H' α' d S', Stp α H α' H' → StoreOk K α' H' S' → Rp K α' H' v d → Q d S' → Q' v H'
def LiftE (K : PySem.W.Frag) (te : TE) (t : DT) : Prop :=
  ∀ α ρ S σ H Q Q', StoreOk K α H S → RhoOk K α H ρ σ → t ρ S Q → KE K α H Q Q' → te σ H Q'
def LiftT (K : PySem.W.Frag) (tt : TT) (t : DTt) : Prop :=
  ∀ α ρ S σ H (Q : Bool → Store → Prop) (Q' : Bool → Hp → Prop), StoreOk K α H S → RhoOk K α H ρ σ → t ρ S Q →
    (∀ b H' α' S', Stp α H α' H' → StoreOk K α' H' S' → Q b S' → Q' b H') → tt σ H Q'
def LiftA (K : PySem.W.Frag) (ta : TA) (t : DA) : Prop :=
  ∀ α ρ S σ H (Q : List D → Store → Prop) (Q' : List V → Hp → Prop), StoreOk K α H S → RhoOk K α H ρ σ → t ρ S Q →
    (∀ vs H' α' ds S', Stp α H α' H' → StoreOk K α' H' S' → RpL K α' H' vs ds → Q ds S' → Q' vs H') → ta σ H Q'
def LiftR (K : PySem.W.Frag) (r : R2) (t : RD) : Prop :=
  ∀ α S H x y v u Q Q', StoreOk K α H S → Rp K α H v x → Rp K α H u y → t x y S Q → KE K α H Q Q' → r v u H Q'
def LiftU (K : PySem.W.Frag) (r : V → Hp → VK → Prop) (t : UD) : Prop :=
  ∀ α S H x v Q Q', StoreOk K α H S → Rp K α H v x → t x S Q → KE K α H Q Q' → r v H Q'
def LiftC (K : PySem.W.Frag) (r : List V → Hp → VK → Prop) (t : CD) : Prop :=
  ∀ α S H xs vs Q Q', StoreOk K α H S → RpL K α H vs xs → t xs S Q → KE K α H Q Q' → r vs H Q'
structure EndsOk (K : PySem.W.Frag) (α : Locs) (H : Hp) (E : DEnds) (F : Ends) : Prop where
  nx : ∀ σ' H' α' ρ' S', Stp α H α' H' → StoreOk K α' H' S' → RhoOk K α' H' ρ' σ' → E.nx ρ' S' → F.nx σ' H'
  rt : KE K α H E.rt F.rt
  bk : ∀ σ' H' α' ρ' S', Stp α H α' H' → StoreOk K α' H' S' → RhoOk K α' H' ρ' σ' → E.bk ρ' S' → F.bk σ' H'
  ct : ∀ σ' H' α' ρ' S', Stp α H α' H' → StoreOk K α' H' S' → RhoOk K α' H' ρ' σ' → E.ct ρ' S' → F.ct σ' H'
def LiftS (K : PySem.W.Frag) (ts : TS) (t : DS) : Prop :=
  ∀ α ρ S σ H E F, StoreOk K α H S → RhoOk K α H ρ σ → t E ρ S → EndsOk K α H E F → ts F σ H
/-- slots outside of vs are as they were -/
def SameBut (vs : List Nat) (σ σ' : L2.St) : Prop := σ'.length = σ.length ∧ ∀ j, j ∉ vs → σ'[j]? = σ[j]?
def LiftG (K : PySem.W.Frag) (ws : List Nat) (g : TG) (t : DG) : Prop :=
  ∀ α ρ S σ H v d (Q : Rho → Store → Prop) (Q' : L2.St → Hp → Prop), StoreOk K α H S → RhoOk K α H ρ σ → Rp K α H v d → t d ρ S Q →
    (∀ σ' H' α' ρ' S', SameBut ws σ σ' → Stp α H α' H' → StoreOk K α' H' S' → RhoOk K α' H' ρ' σ' → Q ρ' S' → Q' σ' H') → g v σ H Q'
def LiftGs (K : PySem.W.Frag) (ws : List Nat) (g : TGs) (t : DGs) : Prop :=
  ∀ α ρ S σ H vs ds (Q : Rho → Store → Prop) (Q' : L2.St → Hp → Prop), StoreOk K α H S → RhoOk K α H ρ σ → RpL K α H vs ds → t ds ρ S Q →
    (∀ σ' H' α' ρ' S', SameBut ws σ σ' → Stp α H α' H' → StoreOk K α' H' S' → RhoOk K α' H' ρ' σ' → Q ρ' S' → Q' σ' H') → g vs σ H Q'

structure DE (X : Cx) (e : Expr) (t : DT) : Prop where
  ex : ∃ te, PE X e te ∧ LiftE X.K te t
structure DTst (X : Cx) (e : Expr) (t : DTt) : Prop where
  ex : ∃ tt, PT X e tt ∧ LiftT X.K tt t
structure DW (X : Cx) (e : Expr) (t : DTt) : Prop where
  ex : ∃ tt, PW X e tt ∧ LiftT X.K tt t
structure DAs (X : Cx) (es : List Expr) (t : DA) : Prop where
  ex : ∃ ta, PA X es ta ∧ LiftA X.K ta t
structure DSt (X : Cx) (st : Stmt) (t : DS) : Prop where
  ex : ∃ ts, PS X st ts ∧ LiftS X.K ts t
structure DSs (X : Cx) (st : List Stmt) (t : DS) : Prop where
  ex : ∃ ts, PSs X st ts ∧ LiftS X.K ts t
structure DGt (X : Cx) (e : Expr) (ws : List Nat) (t : DG) : Prop where
  ex : ∃ g, PG X e g ∧ LiftG X.K ws g t
structure DGts (X : Cx) (es : List Expr) (ws : List Nat) (t : DGs) : Prop where
  ex : ∃ g, PGs X es g ∧ LiftGs X.K ws g t
structure OpD (X : Cx) (f : Value → Value → Sem Value) (t : RD) : Prop where
  ex : ∃ r, OpR X f r ∧ LiftR X.K r t
structure IxD (X : Cx) (t : RD) : Prop where
  ex : ∃ r, IxR X r ∧ LiftR X.K r t
structure CallD (X : Cx) (f : Value) (t : CD) : Prop where
  ex : ∃ r, CallR X f r ∧ LiftC X.K r t

theorem EndsOk.stp {K : PySem.W.Frag} {α α' : Locs} {H H' : Hp} {E : DEnds} {F : Ends} (k : EndsOk K α H E F) (t : Stp α H α' H') : EndsOk K α' H' E F :=
  ⟨fun σ' H'' α'' ρ' S' u => k.nx σ' H'' α'' ρ' S' (t.trans u), fun v H'' α'' d S' u => k.rt v H'' α'' d S' (t.trans u), fun σ' H'' α'' ρ' S' u => k.bk σ' H'' α'' ρ' S' (t.trans u), fun σ' H'' α'' ρ' S' u => k.ct σ' H'' α'' ρ' S' (t.trans u)⟩
theorem EndsOk.nxt {K : PySem.W.Frag} {α : Locs} {H : Hp} {E : DEnds} {F : Ends} {N : Rho → Store → Prop} {N' : L2.St → Hp → Prop} (k : EndsOk K α H E F)
    (h : ∀ σ' H' α' ρ' S', Stp α H α' H' → StoreOk K α' H' S' → RhoOk K α' H' ρ' σ' → N ρ' S' → N' σ' H') : EndsOk K α H { E with nx := N } { F with nx := N' } :=
  ⟨h, k.rt, k.bk, k.ct⟩
theorem KE.stp {K : PySem.W.Frag} {α α' : Locs} {H H' : Hp} {Q : DK} {Q' : VK} (k : KE K α H Q Q') (t : Stp α H α' H') : KE K α' H' Q Q' :=
  fun v H'' α'' d S' u => k v H'' α'' d S' (t.trans u)

/-! ### names, constants -/
section
variable {X : Cx} {e a b : Expr} {es : List Expr} {pos : Pos} {t ta tb : DT}
def dVar (i : Nat) : DT := fun ρ S Q => match getR ρ i with
  | some d => Q d S
  | none => False
def dC (d : D) : DT := fun _ S Q => Q d S
theorem lift_var {K : PySem.W.Frag} (i : Nat) : LiftE K (tVar i) (dVar i) := fun α ρ S σ H Q Q' so ro h k => by
  unfold dVar at h
  cases e : getR ρ i with
  | none => rw [e] at h; exact h.elim
  | some d =>
    rw [e] at h
    obtain ⟨v, hv, rv⟩ := ro.get e
    exact ⟨v, hv, k v H α d S (Stp.refl _ _) so rv h⟩
theorem lift_c {K : PySem.W.Frag} {v : V} {d : D} (h : ∀ α H, Rp K α H v d) : LiftE K (tC v) (dC d) := fun α ρ S σ H Q Q' so ro q k => k v H α d S (Stp.refl _ _) so (h α H) q
theorem dv (i : Nat) {x : Str} {pos : Pos} (hN : X.N[i]? = some x := by rfl) (hv : Vis X.env.scope x := by first | exact Or.inl rfl | exact Or.inr (Or.inl rfl) | exact Or.inr (Or.inr rfl)) (hd : (x == ("__debug__" : Str)) = false := by decide)
    (hcd : (x == ("__classdict__" : Str)) = false := by decide) : DE X (.Name x pos) (dVar i) := ⟨_, pe_var hN hv hd hcd, lift_var i⟩
theorem de_int {i j pos} : DE X (.Constant (.int i) j pos) (dC (.int i)) := ⟨_, pe_int, lift_c fun _ _ => rfl⟩
theorem de_bl {i j pos} : DE X (.Constant (.bool i) j pos) (dC (.bl i)) := ⟨_, pe_bl, lift_c fun _ _ => rfl⟩
theorem de_non {j pos} : DE X (.Constant .none j pos) (dC .non) := ⟨_, pe_non, lift_c fun _ _ => rfl⟩
theorem de_str {x j pos} : DE X (.Constant (.str x) j pos) (dC (.str x)) := ⟨_, pe_str, lift_c fun _ _ => rfl⟩
theorem de_globI {x : Str} {i : Int} {u : Value} {pos : Pos} (hg : Gl X x) (hm : X.mg x = some u) (r : RelV (.int i) u) (hd : (x == ("__debug__" : Str)) = false := by decide) : DE X (.Name x pos) (dC (.int i)) := ⟨_, pe_glob hg hm r hd, lift_c fun _ _ => rfl⟩
theorem de_globS {x : Str} {i : Str} {u : Value} {pos : Pos} (hg : Gl X x) (hm : X.mg x = some u) (r : RelV (.str i) u) (hd : (x == ("__debug__" : Str)) = false := by decide) : DE X (.Name x pos) (dC (.str i)) := ⟨_, pe_glob hg hm r hd, lift_c fun _ _ => rfl⟩
theorem de_globA {x : Str} {i : Addr} {u : Value} {pos : Pos} (hg : Gl X x) (hm : X.mg x = some u) (r : RelV (.ref i) u) (hd : (x == ("__debug__" : Str)) = false := by decide) : DE X (.Name x pos) (dC (.cst i)) := ⟨_, pe_glob hg hm r hd, lift_c fun _ _ => rfl⟩

/-! ### two operands -/
def dOp (r : RD) (ta tb : DT) : DT := fun ρ S Q => ta ρ S fun x S1 => tb ρ S1 fun y S2 => r x y S2 Q
theorem lift_op {K : PySem.W.Frag} {r : R2} {rd : RD} {te tf : TE} (hr : LiftR K r rd) (ha : LiftE K te ta) (hb : LiftE K tf tb) : LiftE K (tOp r te tf) (dOp rd ta tb) := fun α ρ S σ H Q Q' so ro h k => by
  refine ha α ρ S σ H _ _ so ro h fun v H1 α1 x S1 t1 so1 r1 h1 => ?_
  refine hb α1 ρ S1 σ H1 _ _ so1 (ro.stp t1) h1 fun u H2 α2 y S2 t2 so2 r2 h2 => ?_
  exact hr α2 S2 H2 x y v u Q Q' so2 (r1.stp t2) r2 h2 (k.stp (t1.trans t2))
theorem de_op {op : Operator} {r : RD} (ho : OpD X (binaryOp op) r) (ha : DE X a ta) (hb : DE X b tb) : DE X (.BinOp a op b pos) (dOp r ta tb) := by
  obtain ⟨⟨ro, h1, h2⟩⟩ := ho
  obtain ⟨⟨te, h3, h4⟩⟩ := ha
  obtain ⟨⟨tf, h5, h6⟩⟩ := hb
  exact ⟨_, pe_op h1 h3 h5, lift_op h2 h4 h6⟩
theorem de_cmp {op : CmpOp} {r : RD} (ho : OpD X (compareOp op) r) (ha : DE X a ta) (hb : DE X b tb) (hm : behindInMarks op b = false) : DE X (.Compare a [op] [b] pos) (dOp r ta tb) := by
  obtain ⟨⟨ro, h1, h2⟩⟩ := ho
  obtain ⟨⟨te, h3, h4⟩⟩ := ha
  obtain ⟨⟨tf, h5, h6⟩⟩ := hb
  exact ⟨_, pe_cmpR h1 h3 h5 hm, lift_op h2 h4 h6⟩
def onBl (d : D) (P : Bool → Prop) : Prop := match d with
  | .bl k => P k
  | _ => False
def onInt (d : D) (P : Int → Prop) : Prop := match d with
  | .int k => P k
  | _ => False
def onStr (d : D) (P : Str → Prop) : Prop := match d with
  | .str k => P k
  | _ => False
def onTup (d : D) (P : List D → Prop) : Prop := match d with
  | .tup k => P k
  | _ => False
def onOpt {β : Type} (d : Option β) (P : β → Prop) : Prop := ∃ k, d = some k ∧ P k
def dTest (t : DT) : DTt := fun ρ S Q => t ρ S fun x S1 => onBl x fun k => Q k S1
theorem dT_bl {K : PySem.W.Frag} {α : Locs} {H : Hp} {v : V} {d : D} {P : Bool → Prop} (r : Rp K α H v d) (h : onBl d P) : ∃ k, v = .bl k ∧ P k := by
  cases d with
  | bl b => exact ⟨b, r, h⟩
  | _ => exact h.elim
theorem lift_test {K : PySem.W.Frag} {te : TE} (h : LiftE K te t) : LiftT K (tTest te) (dTest t) := fun α ρ S σ H Q Q' so ro q k => by
  refine h α ρ S σ H _ _ so ro q fun v H1 α1 x S1 t1 so1 r1 q1 => ?_
  obtain ⟨b, e, q2⟩ := dT_bl (P := fun b => Q b S1) r1 q1
  exact ⟨b, e, k b H1 α1 S1 t1 so1 q2⟩
theorem dt_cmp {op : CmpOp} {r : RD} (ho : OpD X (compareOp op) r) (ha : DE X a ta) (hb : DE X b tb) (hm : behindInMarks op b = false) : DTst X (.Compare a [op] [b] pos) (dTest (dOp r ta tb)) := by
  obtain ⟨⟨ro, h1, h2⟩⟩ := ho
  obtain ⟨⟨te, h3, h4⟩⟩ := ha
  obtain ⟨⟨tf, h5, h6⟩⟩ := hb
  exact ⟨_, pt_cmpR h1 h3 h5 hm, lift_test (lift_op h2 h4 h6)⟩
theorem dt_val {e : Expr} {t : DT} (h : DE X e t) (he : ∀ whole, isTrue e X.env whole = (do let v ← whole; standAt e.pos; holding [v] (truthy v)) := by intro _; rfl) : DTst X e (dTest t) := by
  obtain ⟨⟨te, h1, h2⟩⟩ := h
  exact ⟨_, pt_val h1 he, lift_test h2⟩
/-! chains -/
def dChain (r r' : RD) (ta tb tc : DT) : DT := fun ρ S Q => ta ρ S fun x S1 => tb ρ S1 fun y S2 => r x y S2 fun z S3 => onBl z fun k =>
  (k = true → tc ρ S3 fun w S4 => r' y w S4 Q) ∧ (k = false → Q (.bl false) S3)
theorem lift_chain {K : PySem.W.Frag} {r r' : R2} {rd rd' : RD} {te tf tg : TE} {tc : DT} (hr : LiftR K r rd) (hr' : LiftR K r' rd') (ha : LiftE K te ta) (hb : LiftE K tf tb) (hc : LiftE K tg tc) : LiftE K (tChain r r' te tf tg) (dChain rd rd' ta tb tc) := fun α ρ S σ H Q Q' so ro h k => by
  refine ha α ρ S σ H _ _ so ro h fun v H1 α1 x S1 t1 so1 r1 h1 => ?_
  refine hb α1 ρ S1 σ H1 _ _ so1 (ro.stp t1) h1 fun u H2 α2 y S2 t2 so2 r2 h2 => ?_
  refine hr α2 S2 H2 x y v u _ _ so2 (r1.stp t2) r2 h2 fun z H3 α3 d S3 t3 so3 r3 h3 => ?_
  obtain ⟨b, e, q2⟩ := dT_bl (P := fun k => (k = true → tc ρ S3 fun w S4 => rd' y w S4 Q) ∧ (k = false → Q (.bl false) S3)) r3 h3
  refine ⟨b, e, ?_⟩
  have t13 := (t1.trans t2).trans t3
  cases b with
  | true =>
    rw [if_pos rfl]
    refine hc α3 ρ S3 σ H3 _ _ so3 (ro.stp t13) (q2.1 rfl) fun w H4 α4 y' S4 t4 so4 r4 h4 => ?_
    exact hr' α4 S4 H4 y y' u w Q Q' so4 (r2.stp (t3.trans t4)) r4 h4 (k.stp (t13.trans t4))
  | false =>
    rw [if_neg Bool.false_ne_true]
    exact k _ H3 α3 (.bl false) S3 t13 so3 rfl (q2.2 rfl)
theorem de_chain {op op' : CmpOp} {r r' : RD} {c : Expr} {tc : DT} (ho : OpD X (compareOp op) r) (ho' : OpD X (compareOp op') r') (ha : DE X a ta) (hb : DE X b tb) (hc : DE X c tc)
    (hm : lastMarks [op, op'] [b, c] = false := by with_unfolding_all rfl) : DE X (.Compare a [op, op'] [b, c] pos) (dChain r r' ta tb tc) := by
  obtain ⟨⟨ro, h1, h2⟩⟩ := ho
  obtain ⟨⟨ro', h1', h2'⟩⟩ := ho'
  obtain ⟨⟨te, h3, h4⟩⟩ := ha
  obtain ⟨⟨tf, h5, h6⟩⟩ := hb
  obtain ⟨⟨tg, h7, h8⟩⟩ := hc
  exact ⟨_, pe_chain h1 h1' h3 h5 h7 hm, lift_chain h2 h2' h4 h6 h8⟩
theorem dt_chain {op op' : CmpOp} {r r' : RD} {c : Expr} {tc : DT} (ho : OpD X (compareOp op) r) (ho' : OpD X (compareOp op') r') (ha : DE X a ta) (hb : DE X b tb) (hc : DE X c tc)
    (hm : lastMarks [op, op'] [b, c] = false := by with_unfolding_all rfl) : DTst X (.Compare a [op, op'] [b, c] pos) (dTest (dChain r r' ta tb tc)) := by
  obtain ⟨⟨ro, h1, h2⟩⟩ := ho
  obtain ⟨⟨ro', h1', h2'⟩⟩ := ho'
  obtain ⟨⟨te, h3, h4⟩⟩ := ha
  obtain ⟨⟨tf, h5, h6⟩⟩ := hb
  obtain ⟨⟨tg, h7, h8⟩⟩ := hc
  exact ⟨_, pt_chain h1 h1' h3 h5 h7 hm, lift_test (lift_chain h2 h2' h4 h6 h8)⟩

/-! ### operators on ints -/
def rdI (C : Int → Int → Prop) (g : Int → Int → D) : RD := fun x y S Q => match x, y with
  | .int i, .int j => C i j ∧ Q (g i j) S
  | _, _ => False
def rdI0 (g : Int → Int → D) : RD := fun x y S Q => match x, y with
  | .int i, .int j => Q (g i j) S
  | _, _ => False
theorem lift_I {K : PySem.W.Frag} {C C' : Int → Int → Prop} {g : Int → Int → V} {g' : Int → Int → D} (hC : ∀ i j, C' i j → C i j) (hg : ∀ i j α H, Rp K α H (g i j) (g' i j)) : LiftR K (rI C g) (rdI C' g') := fun α S H x y v u Q Q' so rx ry h k => by
  unfold rdI at h
  split at h
  · rename_i i j
    exact ⟨i, j, rx, ry, hC i j h.1, k _ H α _ S (Stp.refl _ _) so (hg i j α H) h.2⟩
  · exact h.elim
theorem lift_I0 {K : PySem.W.Frag} {g : Int → Int → V} {g' : Int → Int → D} (hg : ∀ i j α H, Rp K α H (g i j) (g' i j)) : LiftR K (rI0 g) (rdI0 g') := fun α S H x y v u Q Q' so rx ry h k => by
  unfold rdI0 at h
  split at h
  · rename_i i j
    exact ⟨i, j, rx, ry, k _ H α _ S (Stp.refl _ _) so (hg i j α H) h⟩
  · exact h.elim
theorem od_add : OpD X (binaryOp .Add) (rdI0 fun i j => .int (i + j)) := ⟨_, op_add, lift_I0 fun _ _ _ _ => rfl⟩
theorem od_sub : OpD X (binaryOp .Sub) (rdI0 fun i j => .int (i - j)) := ⟨_, op_sub, lift_I0 fun _ _ _ _ => rfl⟩
theorem od_mul : OpD X (binaryOp .Mult) (rdI CMulW fun i j => .int (i * j)) := ⟨_, op_mulW, lift_I (fun _ _ h => h) fun _ _ _ _ => rfl⟩
theorem od_div : OpD X (binaryOp .FloorDiv) (rdI CDivW fun i j => .int (i / j)) := ⟨_, op_fdivW, lift_I (fun _ _ h => h) fun _ _ _ _ => rfl⟩
theorem od_mod : OpD X (binaryOp .Mod) (rdI (fun _ j => 0 < j) fun i j => .int (i % j)) := ⟨_, op_mod, lift_I (fun _ _ h => h) fun _ _ _ _ => rfl⟩
theorem od_lt : OpD X (compareOp .Lt) (rdI0 fun i j => .bl (decide (i < j))) := ⟨_, op_lt, lift_I0 fun _ _ _ _ => rfl⟩
theorem od_le : OpD X (compareOp .LtE) (rdI0 fun i j => .bl (decide (i ≤ j))) := ⟨_, op_le, lift_I0 fun _ _ _ _ => rfl⟩
theorem od_gt : OpD X (compareOp .Gt) (rdI0 fun i j => .bl (decide (j < i))) := ⟨_, op_gt, lift_I0 fun _ _ _ _ => rfl⟩
theorem od_ge : OpD X (compareOp .GtE) (rdI0 fun i j => .bl (decide (j ≤ i))) := ⟨_, op_ge, lift_I0 fun _ _ _ _ => rfl⟩
/-- a power that is not too large -/
def CPowW (i j : Int) : Prop := 0 ≤ j ∧ (Builtin.Int.intBits i : Int) * j ≤ 2 ^ 27
theorem op_powW : OpR X (binaryOp .Pow) (rI CPowW fun i j => .int (i ^ j.toNat)) := opI fun _ _ _ _ _ _ _ hc q => pow_int hc.1 hc.2 q
theorem od_pow : OpD X (binaryOp .Pow) (rdI CPowW fun i j => .int (i ^ j.toNat)) := ⟨_, op_powW, lift_I (fun _ _ h => h) fun _ _ _ _ => rfl⟩
end
end DL

/-! DL, 3: locations below a bound, the store cut back; tests, displays, indices, statements, loops, comprehensions. -/
namespace DL
open PySem PySem.Spec PyProof.Rows L2

/-! ### locations below n -/
section
variable (n : Nat)
mutual
def bnd : D → Prop
  | .loc l => l < n
  | .tup ds => bndL ds
  | .lst ds => bndL ds
  | .dk kvs => bndK kvs
  | .dt kvs => bndT kvs
  | .obj _ fs => bndF fs
  | .non => True | .bl _ => True | .int _ => True | .str _ => True | .cst _ => True | .ty _ => True | .scr _ => True
def bndL : List D → Prop
  | [] => True
  | d :: ds => bnd d ∧ bndL ds
def bndK : List (Key × D) → Prop
  | [] => True
  | (_, d) :: ds => bnd d ∧ bndK ds
def bndT : List (List Key × D) → Prop
  | [] => True
  | (_, d) :: ds => bnd d ∧ bndT ds
def bndF : List (Str × D) → Prop
  | [] => True
  | (_, d) :: ds => bnd d ∧ bndF ds
end
def bndO : Ob → Prop
  | .lst ds => bndL n ds
  | .dk kvs => bndK n kvs
  | .dt kvs => bndT n kvs
  | .ins _ fs => bndF n fs
  | .ext _ => True
def bndS : Store → Prop
  | [] => True
  | o :: S => bndO n o ∧ bndS S
end
section
variable {K : PySem.W.Frag} {α α' : Locs} {H : Hp}
mutual
theorem Rp.bnd : ∀ (d : D) (v : V), Rp K α H v d → bnd α.length d
  | .loc l, v, ⟨a, _, h⟩ => (List.getElem?_eq_some_iff.mp h).1
  | .tup ds, v, ⟨a, xs, _, _, h⟩ => RpL.bnd ds xs h
  | .lst ds, v, ⟨a, xs, _, _, _, h⟩ => RpL.bnd ds xs h
  | .dk kvs, v, ⟨a, xs, _, _, _, h⟩ => RpK.bnd kvs xs h
  | .dt kvs, v, ⟨a, xs, _, _, _, h⟩ => RpT.bnd kvs xs h
  | .obj C fs, v, ⟨a, dx, xs, _, _, _, h⟩ => RpF.bnd fs xs h
  | .non, _, _ => trivial | .bl _, _, _ => trivial | .int _, _, _ => trivial | .str _, _, _ => trivial | .cst _, _, _ => trivial | .ty _, _, _ => trivial | .scr _, _, _ => trivial
theorem RpL.bnd : ∀ (ds : List D) (vs : List V), RpL K α H vs ds → bndL α.length ds
  | [], _, _ => trivial
  | d :: ds, vs, ⟨v, r, _, h1, h2⟩ => ⟨Rp.bnd d v h1, RpL.bnd ds r h2⟩
theorem RpK.bnd : ∀ (ds : List (Key × D)) (vs : List (Key × V)), RpK K α H vs ds → bndK α.length ds
  | [], _, _ => trivial
  | (k, d) :: ds, vs, ⟨v, r, _, h1, h2⟩ => ⟨Rp.bnd d v h1, RpK.bnd ds r h2⟩
theorem RpT.bnd : ∀ (ds : List (List Key × D)) (vs : List (List Key × V)), RpT K α H vs ds → bndT α.length ds
  | [], _, _ => trivial
  | (k, d) :: ds, vs, ⟨v, r, _, h1, h2⟩ => ⟨Rp.bnd d v h1, RpT.bnd ds r h2⟩
theorem RpF.bnd : ∀ (ds : List (Str × D)) (vs : List (Str × V)), RpF K α H vs ds → bndF α.length ds
  | [], _, _ => trivial
  | (k, d) :: ds, vs, ⟨v, r, _, h1, h2⟩ => ⟨Rp.bnd d v h1, RpF.bnd ds r h2⟩
end
theorem Off.take {n : Nat} {a : Addr} (h : Off α' a) : Off (α'.take n) a := fun l e => by
  rw [List.getElem?_take] at e
  split at e
  · exact h l e
  · cases e
theorem Rd.take {n : Nat} {a : Addr} {xs : List V} (h : Tp K α' H a xs) : Tp K (α'.take n) H a xs := ⟨h.1, h.2.take⟩
theorem Rl.take {n : Nat} {a : Addr} {xs : List V} (h : Lp K α' H a xs) : Lp K (α'.take n) H a xs := by
  rcases h with ⟨h, f⟩ | h
  · exact Or.inl ⟨h, f.take⟩
  · exact Or.inr h
mutual
theorem Rp.cut {n : Nat} : ∀ (d : D) (v : V), Rp K α' H v d → bnd n d → Rp K (α'.take n) H v d
  | .loc l, v, ⟨a, e, h⟩, b => ⟨a, e, by
    have b : l < n := b
    rw [List.getElem?_take, if_pos b]; exact h⟩
  | .tup ds, v, ⟨a, xs, e, t, h⟩, b => ⟨a, xs, e, Rd.take t, RpL.cut ds xs h b⟩
  | .lst ds, v, ⟨a, xs, e, t, f, h⟩, b => ⟨a, xs, e, t, f.take, RpL.cut ds xs h b⟩
  | .dk ds, v, ⟨a, xs, e, t, f, h⟩, b => ⟨a, xs, e, t, f.take, RpK.cut ds xs h b⟩
  | .dt ds, v, ⟨a, xs, e, t, f, h⟩, b => ⟨a, xs, e, t, f.take, RpT.cut ds xs h b⟩
  | .obj C fs, v, ⟨a, dx, xs, e, t, f, h⟩, b => ⟨a, dx, xs, e, t, f.take, RpF.cut fs xs h b⟩
  | .non, _, h, _ => h | .bl _, _, h, _ => h | .int _, _, h, _ => h | .str _, _, h, _ => h | .cst _, _, h, _ => h | .ty _, _, h, _ => h
  | .scr _, _, ⟨a, e, h⟩, _ => ⟨a, e, Rl.take h⟩
theorem RpL.cut {n : Nat} : ∀ (ds : List D) (vs : List V), RpL K α' H vs ds → bndL n ds → RpL K (α'.take n) H vs ds
  | [], _, h, _ => h
  | d :: ds, vs, ⟨v, r, e, h1, h2⟩, b => ⟨v, r, e, Rp.cut d v h1 b.1, RpL.cut ds r h2 b.2⟩
theorem RpK.cut {n : Nat} : ∀ (ds : List (Key × D)) (vs : List (Key × V)), RpK K α' H vs ds → bndK n ds → RpK K (α'.take n) H vs ds
  | [], _, h, _ => h
  | (k, d) :: ds, vs, ⟨v, r, e, h1, h2⟩, b => ⟨v, r, e, Rp.cut d v h1 b.1, RpK.cut ds r h2 b.2⟩
theorem RpT.cut {n : Nat} : ∀ (ds : List (List Key × D)) (vs : List (List Key × V)), RpT K α' H vs ds → bndT n ds → RpT K (α'.take n) H vs ds
  | [], _, h, _ => h
  | (k, d) :: ds, vs, ⟨v, r, e, h1, h2⟩, b => ⟨v, r, e, Rp.cut d v h1 b.1, RpT.cut ds r h2 b.2⟩
theorem RpF.cut {n : Nat} : ∀ (ds : List (Str × D)) (vs : List (Str × V)), RpF K α' H vs ds → bndF n ds → RpF K (α'.take n) H vs ds
  | [], _, h, _ => h
  | (k, d) :: ds, vs, ⟨v, r, e, h1, h2⟩, b => ⟨v, r, e, Rp.cut d v h1 b.1, RpF.cut ds r h2 b.2⟩
end
theorem ObRp.cut {n : Nat} {a : Addr} : ∀ {o : Ob}, ObRp K α' H a o → bndO n o → ObRp K (α'.take n) H a o
  | .lst ds, ⟨xs, h, r⟩, b => ⟨xs, h, RpL.cut ds xs r b⟩
  | .dk ds, ⟨xs, h, r⟩, b => ⟨xs, h, RpK.cut ds xs r b⟩
  | .dt ds, ⟨xs, h, r⟩, b => ⟨xs, h, RpT.cut ds xs r b⟩
  | .ins C ds, ⟨dx, xs, h, r⟩, b => ⟨dx, xs, h, RpF.cut ds xs r b⟩
  | .ext o, h, b => h
mutual
/-- another choice of live locations, the old ones below n within -/
theorem Rp.sel {n : Nat} {α2 : Locs} (f : ∀ b, Off α' b → Off α2 b) (g : ∀ (m : Nat) b, m < n → α'[m]? = some b → α2[m]? = some b) : ∀ (d : D) (v : V), Rp K α' H v d → bnd n d → Rp K α2 H v d
  | .loc l, v, ⟨a, e, h⟩, b => ⟨a, e, g l _ b h⟩
  | .tup ds, v, ⟨a, xs, e, t, h⟩, b => ⟨a, xs, e, ⟨t.1, f _ t.2⟩, RpL.sel f g ds xs h b⟩
  | .lst ds, v, ⟨a, xs, e, t, o, h⟩, b => ⟨a, xs, e, t, f _ o, RpL.sel f g ds xs h b⟩
  | .dk ds, v, ⟨a, xs, e, t, o, h⟩, b => ⟨a, xs, e, t, f _ o, RpK.sel f g ds xs h b⟩
  | .dt ds, v, ⟨a, xs, e, t, o, h⟩, b => ⟨a, xs, e, t, f _ o, RpT.sel f g ds xs h b⟩
  | .obj C fs, v, ⟨a, dx, xs, e, t, o, h⟩, b => ⟨a, dx, xs, e, t, f _ o, RpF.sel f g fs xs h b⟩
  | .non, _, h, _ => h | .bl _, _, h, _ => h | .int _, _, h, _ => h | .str _, _, h, _ => h | .cst _, _, h, _ => h | .ty _, _, h, _ => h
  | .scr _, _, ⟨a, e, t⟩, _ => ⟨a, e, (by rcases t with ⟨t, o⟩ | t; exact Or.inl ⟨t, f _ o⟩; exact Or.inr t)⟩
theorem RpL.sel {n : Nat} {α2 : Locs} (f : ∀ b, Off α' b → Off α2 b) (g : ∀ (m : Nat) b, m < n → α'[m]? = some b → α2[m]? = some b) : ∀ (ds : List D) (vs : List V), RpL K α' H vs ds → bndL n ds → RpL K α2 H vs ds
  | [], _, h, _ => h
  | d :: ds, vs, ⟨v, r, e, h1, h2⟩, b => ⟨v, r, e, Rp.sel f g d v h1 b.1, RpL.sel f g ds r h2 b.2⟩
theorem RpK.sel {n : Nat} {α2 : Locs} (f : ∀ b, Off α' b → Off α2 b) (g : ∀ (m : Nat) b, m < n → α'[m]? = some b → α2[m]? = some b) : ∀ (ds : List (Key × D)) (vs : List (Key × V)), RpK K α' H vs ds → bndK n ds → RpK K α2 H vs ds
  | [], _, h, _ => h
  | (k, d) :: ds, vs, ⟨v, r, e, h1, h2⟩, b => ⟨v, r, e, Rp.sel f g d v h1 b.1, RpK.sel f g ds r h2 b.2⟩
theorem RpT.sel {n : Nat} {α2 : Locs} (f : ∀ b, Off α' b → Off α2 b) (g : ∀ (m : Nat) b, m < n → α'[m]? = some b → α2[m]? = some b) : ∀ (ds : List (List Key × D)) (vs : List (List Key × V)), RpT K α' H vs ds → bndT n ds → RpT K α2 H vs ds
  | [], _, h, _ => h
  | (k, d) :: ds, vs, ⟨v, r, e, h1, h2⟩, b => ⟨v, r, e, Rp.sel f g d v h1 b.1, RpT.sel f g ds r h2 b.2⟩
theorem RpF.sel {n : Nat} {α2 : Locs} (f : ∀ b, Off α' b → Off α2 b) (g : ∀ (m : Nat) b, m < n → α'[m]? = some b → α2[m]? = some b) : ∀ (ds : List (Str × D)) (vs : List (Str × V)), RpF K α' H vs ds → bndF n ds → RpF K α2 H vs ds
  | [], _, h, _ => h
  | (k, d) :: ds, vs, ⟨v, r, e, h1, h2⟩, b => ⟨v, r, e, Rp.sel f g d v h1 b.1, RpF.sel f g ds r h2 b.2⟩
end
theorem ObRp.sel {n : Nat} {a : Addr} {α2 : Locs} : ∀ {o : Ob}, ObRp K α' H a o → (∀ b, Off α' b → Off α2 b) → (∀ (m : Nat) b, m < n → α'[m]? = some b → α2[m]? = some b) → bndO n o → ObRp K α2 H a o
  | .lst ds, ⟨xs, h, r⟩, f, g, b => ⟨xs, h, RpL.sel f g ds xs r b⟩
  | .dk ds, ⟨xs, h, r⟩, f, g, b => ⟨xs, h, RpK.sel f g ds xs r b⟩
  | .dt ds, ⟨xs, h, r⟩, f, g, b => ⟨xs, h, RpT.sel f g ds xs r b⟩
  | .ins C ds, ⟨dx, xs, h, r⟩, f, g, b => ⟨dx, xs, h, RpF.sel f g ds xs r b⟩
  | .ext o, h, _, _, _ => h
theorem ObRp.bnd {a : Addr} : ∀ {o : Ob}, ObRp K α H a o → bndO α.length o
  | .lst ds, ⟨xs, h, r⟩ => RpL.bnd ds xs r
  | .dk ds, ⟨xs, h, r⟩ => RpK.bnd ds xs r
  | .dt ds, ⟨xs, h, r⟩ => RpT.bnd ds xs r
  | .ins C ds, ⟨dx, xs, h, r⟩ => RpF.bnd ds xs r
  | .ext o, h => trivial
theorem bndS.get {n : Nat} : ∀ {S : Store} {l : Nat} {o : Ob}, bndS n S → S[l]? = some o → bndO n o
  | [], l, o, _, e => by simp at e
  | x :: S, 0, o, h, e => by simp at e; subst e; exact h.1
  | x :: S, l + 1, o, h, e => bndS.get (l := l) h.2 (by simpa using e)
end
section
variable {K : PySem.W.Frag} {α α' : Locs} {H H' : Hp} {S S' : Store}
theorem Stp.takes (t : Stp α H α' H') : α'.take α.length = α := by
  apply List.ext_getElem?
  intro l
  rw [List.getElem?_take]
  by_cases h : l < α.length
  · rw [if_pos h]
    have e1 : α[l]? = some α[l] := List.getElem?_eq_getElem h
    rw [e1]
    exact t.pre l _ e1
  · rw [if_neg h]
    exact (List.getElem?_eq_none_iff.mpr (Nat.le_of_not_lt h)).symm
theorem Stp.back (t : Stp α H α' H') : Stp α H α H' :=
  ⟨t.keep, t.dom, fun _ _ h => h, fun l a h e => by rw [List.getElem?_eq_none_iff.mpr h] at e; cases e⟩
/-- what is left when the younger locations are forgotten: unchanged ones, or ones that name no younger -/
def CutOk (S S' : Store) : Prop := ∀ (l : Nat) (o : Ob), l < S.length → S'[l]? = some o → S[l]? = some o ∨ bndO S.length o
theorem CutOk.same {ex : Store} : CutOk S (S ++ ex) := fun l o h e => by
  rw [List.getElem?_append_left h] at e; exact Or.inl e
theorem StoreOk.cut (so : StoreOk K α H S) (t : Stp α H α' H') (so' : StoreOk K α' H' S') (c : CutOk S S') : StoreOk K α H' (S'.take S.length) := by
  have hlen : α.length = S.length := so.len
  have ht : α'.take S.length = α := by rw [← hlen]; exact t.takes
  refine ⟨?_, ?_, ?_⟩
  · rw [List.length_take, ← so'.len]
    have := t.len
    omega
  · intro l l' a h h'
    exact so'.inj l l' a (t.pre _ _ h) (t.pre _ _ h')
  · intro l a o h e
    have hl : l < α.length := (List.getElem?_eq_some_iff.mp h).1
    rw [List.getElem?_take, if_pos (by omega)] at e
    have r := so'.ob l a o (t.pre _ _ h) e
    have b : bndO S.length o := by
      rcases c l o (by omega) e with q | q
      · rw [← hlen]; exact (so.ob l a o h q).bnd
      · exact q
    have r2 := r.cut b
    rw [ht] at r2
    exact r2
end

section
variable {K : PySem.W.Frag} {α : Locs} {H : Hp} {S : Store} {Q : DK} {Q' : VK}
theorem KE.int (k : KE K α H Q Q') (so : StoreOk K α H S) {i : Int} (h : Q (.int i) S) : Q' (.int i) H := k _ H α (.int i) S (Stp.refl _ _) so rfl h
theorem KE.str (k : KE K α H Q Q') (so : StoreOk K α H S) {i : Str} (h : Q (.str i) S) : Q' (.str i) H := k _ H α (.str i) S (Stp.refl _ _) so rfl h
theorem KE.bl (k : KE K α H Q Q') (so : StoreOk K α H S) {i : Bool} (h : Q (.bl i) S) : Q' (.bl i) H := k _ H α (.bl i) S (Stp.refl _ _) so rfl h
theorem KE.non (k : KE K α H Q Q') (so : StoreOk K α H S) (h : Q .non S) : Q' .non H := k _ H α .non S (Stp.refl _ _) so rfl h
theorem KE.val (k : KE K α H Q Q') (so : StoreOk K α H S) {v : V} {d : D} (r : Rp K α H v d) (h : Q d S) : Q' v H := k _ H α d S (Stp.refl _ _) so r h
end

/-! ### what a younger thing is when it is let go: the tree of it -/
inductive Frz (n : Nat) (S : Store) : D → D → Prop where
  | same {d : D} : bnd n d → Frz n S d d
  | lst {l : Nat} {ds : List D} : n ≤ l → S[l]? = some (.lst ds) → bndL n ds → Frz n S (.loc l) (.lst ds)
  | dk {l : Nat} {ds : List (Key × D)} : n ≤ l → S[l]? = some (.dk ds) → bndK n ds → Frz n S (.loc l) (.dk ds)
  | dt {l : Nat} {ds : List (List Key × D)} : n ≤ l → S[l]? = some (.dt ds) → bndT n ds → Frz n S (.loc l) (.dt ds)
  | ins {l : Nat} {C : Addr} {ds : List (Str × D)} : n ≤ l → S[l]? = some (.ins C ds) → bndF n ds → Frz n S (.loc l) (.obj C ds)
  | pairL {l : Nat} {ds : List D} {d : D} : n ≤ l → S[l]? = some (.lst ds) → bndL n ds → bnd n d → Frz n S (.tup [.loc l, d]) (.tup [.lst ds, d])
section
variable {K : PySem.W.Frag} {α α' : Locs} {H H' : Hp} {S S' : Store}
theorem Frz.rp {d d' : D} {v : V} (t : Stp α H α' H') (so' : StoreOk K α' H' S') (f : Frz α.length S' d d') (r : Rp K α' H' v d) : Rp K α H' v d' := by
  have ht := t.takes
  have off : ∀ {l : Nat} {a : Addr}, α.length ≤ l → α'[l]? = some (some a) → Off α a := fun {l a} h e m q => by
    have e2 := t.pre _ _ q
    have := so'.inj l m a e e2
    have hm := (List.getElem?_eq_some_iff.mp q).1
    omega
  cases f with
  | same b =>
    have q := Rp.cut d v r b
    rw [ht] at q; exact q
  | @lst l ds hn e b =>
    obtain ⟨a, rfl, ha⟩ := r
    obtain ⟨xs, h1, h2⟩ := so'.ob l a _ ha e
    have q := RpL.cut ds xs h2 b
    rw [ht] at q
    exact ⟨a, xs, rfl, h1, off hn ha, q⟩
  | @dk l ds hn e b =>
    obtain ⟨a, rfl, ha⟩ := r
    obtain ⟨xs, h1, h2⟩ := so'.ob l a _ ha e
    have q := RpK.cut ds xs h2 b
    rw [ht] at q
    exact ⟨a, xs, rfl, h1, off hn ha, q⟩
  | @dt l ds hn e b =>
    obtain ⟨a, rfl, ha⟩ := r
    obtain ⟨xs, h1, h2⟩ := so'.ob l a _ ha e
    have q := RpT.cut ds xs h2 b
    rw [ht] at q
    exact ⟨a, xs, rfl, h1, off hn ha, q⟩
  | @ins l C ds hn e b =>
    obtain ⟨a, rfl, ha⟩ := r
    obtain ⟨dx, xs, h1, h2⟩ := so'.ob l a _ ha e
    have q := RpF.cut ds xs h2 b
    rw [ht] at q
    exact ⟨a, dx, xs, rfl, h1, off hn ha, q⟩
  | @pairL l ds d hn e b b2 =>
    obtain ⟨a, xs, rfl, ht2, v1, r1, e1, h1, v2, r2, e2, h2, h3⟩ := r
    obtain ⟨a1, rfl, ha⟩ := h1
    obtain ⟨ys, q1, q2⟩ := so'.ob l a1 _ ha e
    have q := RpL.cut ds ys q2 b
    rw [ht] at q
    have q3 := Rp.cut d v2 h2 b2
    rw [ht] at q3
    have ht3 := Rd.take (n := α.length) ht2
    rw [ht] at ht3
    exact ⟨a, xs, rfl, ht3, _, _, e1, ⟨a1, ys, rfl, q1, off hn ha, q⟩, _, _, e2, q3, h3⟩
end
/-- an object whose attributes name younger things: their trees -/
def FrzF (n : Nat) (S : Store) : List (Str × D) → List (Str × D) → Prop
  | [], [] => True
  | (k, d) :: r, (k', d') :: r' => k' = k ∧ Frz n S d d' ∧ FrzF n S r r'
  | _, _ => False
inductive FrzO (n : Nat) (S : Store) : Ob → Ob → Prop where
  | same {o : Ob} : bndO n o → FrzO n S o o
  | ins {C : Addr} {fs fs' : List (Str × D)} : FrzF n S fs fs' → FrzO n S (.ins C fs) (.ins C fs')
def CutTo (S S' S'' : Store) : Prop := S''.length = S.length ∧ ∀ (l : Nat) (o : Ob), l < S.length → S'[l]? = some o → (S[l]? = some o ∧ S''[l]? = some o) ∨ ∃ o', S''[l]? = some o' ∧ FrzO S.length S' o o'
section
variable {K : PySem.W.Frag} {α α' : Locs} {H H' : Hp} {S S' S'' : Store}
theorem FrzF.rp (t : Stp α H α' H') (so' : StoreOk K α' H' S') : ∀ {fs fs' : List (Str × D)} {vs : List (Str × V)}, FrzF α.length S' fs fs' → RpF K α' H' vs fs → RpF K α H' vs fs'
  | [], [], vs, _, r => r
  | (k, d) :: r, (k', d') :: r', vs, ⟨e, f1, f2⟩, ⟨v, vr, ev, r1, r2⟩ => by
    subst e ev
    exact ⟨v, _, rfl, f1.rp t so' r1, FrzF.rp t so' f2 r2⟩
  | [], _ :: _, _, f, _ => f.elim
  | (_, _) :: _, [], _, f, _ => f.elim
theorem StoreOk.cutTo (so : StoreOk K α H S) (t : Stp α H α' H') (so' : StoreOk K α' H' S') (c : CutTo S S' S'') : StoreOk K α H' S'' := by
  have hlen : α.length = S.length := so.len
  have ht : α'.take S.length = α := by rw [← hlen]; exact t.takes
  refine ⟨?_, ?_, ?_⟩
  · rw [c.1]; exact hlen
  · intro l l' a h h'
    exact so'.inj l l' a (t.pre _ _ h) (t.pre _ _ h')
  · intro l a o h e
    have hl : l < α.length := (List.getElem?_eq_some_iff.mp h).1
    have hl' : l < S'.length := by rw [← so'.len]; have := t.len; omega
    obtain ⟨u, e'⟩ : ∃ u, S'[l]? = some u := ⟨_, List.getElem?_eq_getElem hl'⟩
    have r := so'.ob l a _ (t.pre _ _ h) e'
    rcases c.2 l _ (by omega) e' with ⟨q1, q2⟩ | ⟨o', q1, q2⟩
    · rw [e] at q2
      cases q2
      have b : bndO S.length o := by rw [← hlen]; exact (so.ob l a _ h q1).bnd
      have r2 := r.cut b
      rw [ht] at r2
      exact r2
    · rw [e] at q1
      cases q1
      cases q2 with
      | same b =>
        have r2 := r.cut b
        rw [ht] at r2
        exact r2
      | ins f =>
        obtain ⟨dx, xs, h1, h2⟩ := r
        rw [← hlen] at f
        exact ⟨dx, xs, h1, f.rp t so' h2⟩
end
/-- behind a def, an expression: what it made is let go, but for what it hands on: its tree, or the one new location -/
@[irreducible] def Rt (S : Store) (Q : DK) : DK := fun d S' => (CutOk S S' ∧ ((∃ d', Frz S.length S' d d' ∧ Q d' (S'.take S.length)) ∨
  ∃ l ob, d = .loc l ∧ S.length ≤ l ∧ S'[l]? = some ob ∧ bndO S.length ob ∧ Q (.loc S.length) (S'.take S.length ++ [ob]))) ∨
  ∃ S'' d', CutTo S S' S'' ∧ Frz S.length S' d d' ∧ Q d' S''
theorem Rt.fin {K : PySem.W.Frag} {α α' : Locs} {H H' : Hp} {S S' : Store} {v : V} {d : D} {Q : DK} {Q' : VK} (so : StoreOk K α H S) (t : Stp α H α' H') (so' : StoreOk K α' H' S') (r : Rp K α' H' v d) (h : Rt S Q d S') (k : KE K α H Q Q') : Q' v H' := by
  unfold Rt at h
  rcases h with ⟨c, h⟩ | ⟨S'', d', c, f, q⟩
  rotate_left
  · have so2 := so.cutTo t so' c
    rw [← so.len] at f
    exact k v H' α d' _ t.back so2 (f.rp t so' r) q
  have so2 := so.cut t so' c
  rcases h with ⟨d', f, q⟩ | ⟨l, ob, rfl, hl, e, bb, q⟩
  · rw [← so.len] at f
    exact k v H' α d' _ t.back so2 (f.rp t so' r) q
  · obtain ⟨a, rfl, ha⟩ := r
    have hn : H a = none := t.new l a (by rw [so.len]; exact hl) ha
    have off : Off α a := so.off_new hn
    have ob1 := (so'.ob l a ob ha e).cut bb
    have ht : α'.take S.length = α := by rw [← so.len]; exact t.takes
    rw [ht] at ob1
    have t2 : Stp α H (α ++ [some a]) H' := by
      refine ⟨t.keep, t.dom, fun l o h => ?_, fun l b hl e => ?_⟩
      · rw [List.getElem?_append_left (List.getElem?_eq_some_iff.mp h).1]; exact h
      · rw [List.getElem?_append_right hl] at e
        cases q : l - α.length with
        | zero => rw [q] at e; simp at e; rw [← e]; exact hn
        | succ n => rw [q] at e; simp at e
    have off2 : ∀ {b : Addr} {o : HO}, H' b = some o → Off α b → b ≠ a → Off (α ++ [some a]) b := fun {b o} _ hb hne l e => by
      by_cases hlt : l < α.length
      · rw [List.getElem?_append_left hlt] at e
        exact hb l e
      · rw [List.getElem?_append_right (Nat.le_of_not_lt hlt)] at e
        cases q : l - α.length with
        | zero => rw [q] at e; simp at e; exact hne e.symm
        | succ n => rw [q] at e; simp at e
    -- the map α → α ++ [a], from the whole α'
    have sel : ∀ (o : Ob) (c : Addr), ObRp K α' H' c o → bndO S.length o → ObRp K (α ++ [some a]) H' c o := fun o c ho hb => by
      have : ∀ l b, (α ++ [some a])[l]? = some (some b) → ∃ m, α'[m]? = some (some b) := fun m b e => by
        by_cases hlt : m < α.length
        · rw [List.getElem?_append_left hlt] at e
          exact ⟨m, t.pre _ _ e⟩
        · rw [List.getElem?_append_right (Nat.le_of_not_lt hlt)] at e
          cases q : m - α.length with
          | zero => rw [q] at e; simp at e; subst e; exact ⟨l, ha⟩
          | succ n => rw [q] at e; simp at e
      exact ho.sel (α2 := α ++ [some a]) (fun b hb2 m e => by obtain ⟨m2, e2⟩ := this m b e; exact hb2 m2 e2) (fun m b hm e => by
        rw [List.getElem?_append_left (by rw [so.len]; exact hm)]
        have hm' : m < α.length := by rw [so.len]; exact hm
        have e1 : α[m]? = some α[m] := List.getElem?_eq_getElem hm'
        have e2 := t.pre _ _ e1
        rw [e] at e2
        rw [e1, Option.some.inj e2]) hb
    have soN : StoreOk K (α ++ [some a]) H' (S'.take S.length ++ [ob]) := by
      refine ⟨?_, ?_, ?_⟩
      · rw [List.length_append, List.length_append, so2.len]; rfl
      · intro m m' b e1 e2
        have key : ∀ m, (α ++ [some a])[m]? = some (some b) → (m < α.length ∧ α[m]? = some (some b) ∧ b ≠ a) ∨ (m = α.length ∧ b = a) := fun m hm => by
          by_cases hlt : m < α.length
          · rw [List.getElem?_append_left hlt] at hm
            refine Or.inl ⟨hlt, hm, ?_⟩
            rintro rfl
            exact off m hm
          · rw [List.getElem?_append_right (Nat.le_of_not_lt hlt)] at hm
            cases q : m - α.length with
            | zero => rw [q] at hm; simp at hm; exact Or.inr ⟨by omega, hm.symm⟩
            | succ n => rw [q] at hm; simp at hm
        rcases key m e1 with ⟨_, h1, n1⟩ | ⟨z1, z2⟩
        · rcases key m' e2 with ⟨_, h2, _⟩ | ⟨_, z3⟩
          · exact so.inj m m' b h1 h2
          · exact absurd z3 n1
        · rcases key m' e2 with ⟨_, _, n2⟩ | ⟨z3, _⟩
          · exact absurd z2 n2
          · rw [z1, z3]
      · intro m b o e1 e2
        have hlen : α.length = S.length := so.len
        by_cases hlt : m < α.length
        · rw [List.getElem?_append_left hlt] at e1
          have h1 : m < (S'.take S.length).length := by rw [← so2.len]; exact hlt
          rw [List.getElem?_append_left h1, List.getElem?_take, if_pos (by omega)] at e2
          refine sel o b (so'.ob m b o (t.pre _ _ e1) e2) ?_
          rcases c m o (by omega) e2 with z | z
          · rw [← hlen]; exact (so.ob m b o e1 z).bnd
          · exact z
        · have hge := Nat.le_of_not_lt hlt
          rw [List.getElem?_append_right hge] at e1
          rw [List.getElem?_append_right (by rw [← so2.len]; exact hge), ← so2.len] at e2
          cases q : m - α.length with
          | zero =>
            rw [q] at e1 e2; simp at e1 e2
            rw [← e1, ← e2]
            exact sel ob a (so'.ob l a ob ha e) bb
          | succ n => rw [q] at e1; simp at e1
    exact k (.ref a) H' _ (.loc S.length) _ t2 soN ⟨a, rfl, by rw [← so.len]; simp⟩ q
def dGc (t : DT) : DT := fun ρ S Q => t ρ S (Rt S Q)
theorem lift_gc {K : PySem.W.Frag} {te : TE} {t : DT} (h : LiftE K te t) : LiftE K te (dGc t) := fun α ρ S σ H Q Q' so ro q k =>
  h α ρ S σ H _ _ so ro q fun v H1 α1 d S1 t1 so1 r1 q1 => Rt.fin so t1 so1 r1 q1 k
theorem de_gc {X : Cx} {e : Expr} {t : DT} (h : DE X e t) : DE X e (dGc t) := by
  obtain ⟨⟨te, h1, h2⟩⟩ := h
  exact ⟨_, h1, lift_gc h2⟩

section
variable {X : Cx} {e a b c : Expr} {es : List Expr} {pos : Pos} {t ta tb : DT} {tc td : DTt}
/-! ### tests -/
def dAnd (t u : DTt) : DTt := fun ρ S Q => t ρ S fun c S1 => (c = true → u ρ S1 Q) ∧ (c = false → Q false S1)
def dOr (t u : DTt) : DTt := fun ρ S Q => t ρ S fun c S1 => (c = true → Q true S1) ∧ (c = false → u ρ S1 Q)
def dNot (t : DTt) : DTt := fun ρ S Q => t ρ S fun c S1 => Q (!c) S1
theorem lift_and {K : PySem.W.Frag} {tt tu : TT} (h1 : LiftT K tt tc) (h2 : LiftT K tu td) : LiftT K (tAnd tt tu) (dAnd tc td) := fun α ρ S σ H Q Q' so ro q k => by
  refine h1 α ρ S σ H _ _ so ro q fun b H1 α1 S1 t1 so1 q1 => ?_
  cases b with
  | true => exact h2 α1 ρ S1 σ H1 Q Q' so1 (ro.stp t1) (q1.1 rfl) fun b H2 α2 S2 t2 => k b H2 α2 S2 (t1.trans t2)
  | false => exact k false H1 α1 S1 t1 so1 (q1.2 rfl)
theorem lift_or {K : PySem.W.Frag} {tt tu : TT} (h1 : LiftT K tt tc) (h2 : LiftT K tu td) : LiftT K (tOr tt tu) (dOr tc td) := fun α ρ S σ H Q Q' so ro q k => by
  refine h1 α ρ S σ H _ _ so ro q fun b H1 α1 S1 t1 so1 q1 => ?_
  cases b with
  | false => exact h2 α1 ρ S1 σ H1 Q Q' so1 (ro.stp t1) (q1.2 rfl) fun b H2 α2 S2 t2 => k b H2 α2 S2 (t1.trans t2)
  | true => exact k true H1 α1 S1 t1 so1 (q1.1 rfl)
theorem dw_one {rest : List Expr} (h : DTst X a tc) : DW X (.BoolOp .And [a] pos) tc := by
  obtain ⟨⟨tt, h1, h2⟩⟩ := h
  exact ⟨_, pw_and1 h1, h2⟩
theorem dw_and1 (h : DTst X a tc) : DW X (.BoolOp .And [a] pos) tc := by
  obtain ⟨⟨tt, h1, h2⟩⟩ := h
  exact ⟨_, pw_and1 h1, h2⟩
theorem dw_or1 (h : DTst X a tc) : DW X (.BoolOp .Or [a] pos) tc := by
  obtain ⟨⟨tt, h1, h2⟩⟩ := h
  exact ⟨_, pw_or1 h1, h2⟩
theorem dw_and {rest : List Expr} (ha : DTst X a tc) (hb : DW X (.BoolOp .And (b :: rest) pos) td) : DW X (.BoolOp .And (a :: b :: rest) pos) (dAnd tc td) := by
  obtain ⟨⟨tt, h1, h2⟩⟩ := ha
  obtain ⟨⟨tu, h3, h4⟩⟩ := hb
  exact ⟨_, pw_and h1 h3, lift_and h2 h4⟩
theorem dw_or {rest : List Expr} (ha : DTst X a tc) (hb : DW X (.BoolOp .Or (b :: rest) pos) td) : DW X (.BoolOp .Or (a :: b :: rest) pos) (dOr tc td) := by
  obtain ⟨⟨tt, h1, h2⟩⟩ := ha
  obtain ⟨⟨tu, h3, h4⟩⟩ := hb
  exact ⟨_, pw_or h1 h3, lift_or h2 h4⟩
theorem DW.pt (h : DW X e tc) : DTst X e tc := by
  obtain ⟨⟨tt, h1, h2⟩⟩ := h
  exact ⟨_, h1.pt, h2⟩
theorem dt_not (h : DTst X a tc) : DTst X (.UnaryOp .Not a pos) (dNot tc) := by
  obtain ⟨⟨tt, h1, h2⟩⟩ := h
  exact ⟨_, pt_not h1, fun α ρ S σ H Q Q' so ro q k => h2 α ρ S σ H _ _ so ro q fun b H1 α1 S1 t1 so1 q1 => k (!b) H1 α1 S1 t1 so1 q1⟩
/-- as values -/
def dAndV (ta tb : DT) : DT := fun ρ S Q => ta ρ S fun x S1 => onBl x fun c => (c = true → tb ρ S1 Q) ∧ (c = false → Q (.bl false) S1)
def dOrV (ta tb : DT) : DT := fun ρ S Q => ta ρ S fun x S1 => onBl x fun c => (c = true → Q (.bl true) S1) ∧ (c = false → tb ρ S1 Q)
def dNotV (ta : DT) : DT := fun ρ S Q => ta ρ S fun x S1 => onBl x fun c => Q (.bl (!c)) S1
theorem de_one {op} (h : DE X a t) : DE X (.BoolOp op [a] pos) t := by
  obtain ⟨⟨te, h1, h2⟩⟩ := h
  exact ⟨_, pe_one h1, h2⟩
theorem de_and {rest : List Expr} (ha : DE X a ta) (hb : DE X (.BoolOp .And (b :: rest) pos) tb) : DE X (.BoolOp .And (a :: b :: rest) pos) (dAndV ta tb) := by
  obtain ⟨⟨te, h1, h2⟩⟩ := ha
  obtain ⟨⟨tf, h3, h4⟩⟩ := hb
  refine ⟨_, pe_and h1 h3, fun α ρ S σ H Q Q' so ro q k => ?_⟩
  refine h2 α ρ S σ H _ _ so ro q fun v H1 α1 x S1 t1 so1 r1 q1 => ?_
  obtain ⟨c, e, q2⟩ := dT_bl (P := fun c => (c = true → tb ρ S1 Q) ∧ (c = false → Q (.bl false) S1)) r1 q1
  refine ⟨c, e, ?_⟩
  cases c with
  | true => exact h4 α1 ρ S1 σ H1 Q Q' so1 (ro.stp t1) (q2.1 rfl) (k.stp t1)
  | false => exact k _ H1 α1 (.bl false) S1 t1 so1 rfl (q2.2 rfl)
theorem de_or {rest : List Expr} (ha : DE X a ta) (hb : DE X (.BoolOp .Or (b :: rest) pos) tb) : DE X (.BoolOp .Or (a :: b :: rest) pos) (dOrV ta tb) := by
  obtain ⟨⟨te, h1, h2⟩⟩ := ha
  obtain ⟨⟨tf, h3, h4⟩⟩ := hb
  refine ⟨_, pe_or h1 h3, fun α ρ S σ H Q Q' so ro q k => ?_⟩
  refine h2 α ρ S σ H _ _ so ro q fun v H1 α1 x S1 t1 so1 r1 q1 => ?_
  obtain ⟨c, e, q2⟩ := dT_bl (P := fun c => (c = true → Q (.bl true) S1) ∧ (c = false → tb ρ S1 Q)) r1 q1
  refine ⟨c, e, ?_⟩
  cases c with
  | false => exact h4 α1 ρ S1 σ H1 Q Q' so1 (ro.stp t1) (q2.2 rfl) (k.stp t1)
  | true => exact k _ H1 α1 (.bl true) S1 t1 so1 rfl (q2.1 rfl)
theorem de_not (ha : DE X a ta) : DE X (.UnaryOp .Not a pos) (dNotV ta) := by
  obtain ⟨⟨te, h1, h2⟩⟩ := ha
  refine ⟨_, pe_not h1, fun α ρ S σ H Q Q' so ro q k => ?_⟩
  refine h2 α ρ S σ H _ _ so ro q fun v H1 α1 x S1 t1 so1 r1 q1 => ?_
  obtain ⟨c, e, q2⟩ := dT_bl (P := fun c => Q (.bl (!c)) S1) r1 q1
  exact ⟨c, e, (k.stp t1).bl so1 q2⟩
def dIf (t : DTt) (ta tb : DT) : DT := fun ρ S Q => t ρ S fun c S1 => (c = true → ta ρ S1 Q) ∧ (c = false → tb ρ S1 Q)
theorem de_ifExp (hc : DTst X c tc) (ha : DE X a ta) (hb : DE X b tb) : DE X (.IfExp c a b pos) (dIf tc ta tb) := by
  obtain ⟨⟨tt, h1, h2⟩⟩ := hc
  obtain ⟨⟨te, h3, h4⟩⟩ := ha
  obtain ⟨⟨tf, h5, h6⟩⟩ := hb
  refine ⟨_, pe_ifExp h1 h3 h5, fun α ρ S σ H Q Q' so ro q k => ?_⟩
  refine h2 α ρ S σ H _ _ so ro q fun b H1 α1 S1 t1 so1 q1 => ?_
  cases b with
  | true => exact h4 α1 ρ S1 σ H1 Q Q' so1 (ro.stp t1) (q1.1 rfl) (k.stp t1)
  | false => exact h6 α1 ρ S1 σ H1 Q Q' so1 (ro.stp t1) (q1.2 rfl) (k.stp t1)

/-! ### arguments, displays -/
def dNil : DA := fun _ S Q => Q [] S
def dCons (ta : DT) (tr : DA) : DA := fun ρ S Q => ta ρ S fun x S1 => tr ρ S1 fun xs S2 => Q (x :: xs) S2
theorem da_nil : DAs X [] dNil := ⟨_, pa_nil, fun α ρ S σ H Q Q' so ro q k => k [] H α [] S (Stp.refl _ _) so rfl q⟩
theorem da_cons {tr : DA} (ha : DE X e t) (hr : DAs X es tr) (hs : starEach (e :: es) X.env = (false, eval e X.env) :: starEach es X.env := by rfl) : DAs X (e :: es) (dCons t tr) := by
  obtain ⟨⟨te, h1, h2⟩⟩ := ha
  obtain ⟨⟨tf, h3, h4⟩⟩ := hr
  refine ⟨_, pa_cons h1 h3 hs, fun α ρ S σ H Q Q' so ro q k => ?_⟩
  refine h2 α ρ S σ H _ _ so ro q fun v H1 α1 x S1 t1 so1 r1 q1 => ?_
  refine h4 α1 ρ S1 σ H1 _ _ so1 (ro.stp t1) q1 fun vs H2 α2 ds S2 t2 so2 r2 q2 => ?_
  exact k (v :: vs) H2 α2 (x :: ds) S2 (t1.trans t2) so2 ⟨v, vs, rfl, r1.stp t2, r2⟩ q2
def dTup (t : DA) : DT := fun ρ S Q => t ρ S fun xs S1 => xs.length ≤ sizeLine ∧ Q (.tup xs) S1
def dLst (t : DA) : DT := fun ρ S Q => t ρ S fun xs S1 => xs.length ≤ sizeLine ∧ Q (.loc S1.length) (S1 ++ [.lst xs])
theorem new_tup {K : PySem.W.Frag} {α : Locs} {H : Hp} {S : Store} {p : Addr} {vs : List V} {ds : List D} (so : StoreOk K α H S) (r : RpL K α H vs ds) (hp : H p = none) :
    Stp α H α (upd H p (.tup vs)) ∧ StoreOk K α (upd H p (.tup vs)) S ∧ Rp K α (upd H p (.tup vs)) (.ref p) (.tup ds) :=
  ⟨Stp.new_ hp, so.grow (keep_new hp), p, vs, rfl, ⟨upd_same, so.off_new hp⟩, RpL.stp (Stp.new_ hp) ds vs r⟩
theorem new_lst {K : PySem.W.Frag} {α : Locs} {H : Hp} {S : Store} {p : Addr} {vs : List V} {ds : List D} (so : StoreOk K α H S) (r : RpL K α H vs ds) (hp : H p = none) :
    Stp α H (α ++ [some p]) (upd H p (.lst vs)) ∧ StoreOk K (α ++ [some p]) (upd H p (.lst vs)) (S ++ [.lst ds]) ∧ Rp K (α ++ [some p]) (upd H p (.lst vs)) (.ref p) (.loc S.length) :=
  ⟨Stp.push hp, so.push hp ⟨vs, upd_same, RpL.stp (Stp.push hp) ds vs r⟩, p, rfl, by rw [List.getElem?_append_right (by rw [so.len]; exact Nat.le_refl _), so.len]; simp⟩
theorem de_tup {x1} {ta : DA} (h : DAs X es ta) : DE X (.Tuple es x1 pos) (dTup ta) := by
  obtain ⟨⟨te, h1, h2⟩⟩ := h
  refine ⟨_, pe_tup h1, fun α ρ S σ H Q Q' so ro q k => ?_⟩
  refine h2 α ρ S σ H _ _ so ro q fun vs H1 α1 ds S1 t1 so1 r1 ⟨hz, q1⟩ => ⟨by rw [r1.len]; exact hz, fun p hp => ?_⟩
  obtain ⟨t2, so2, r2⟩ := new_tup so1 r1 hp
  exact k _ _ α1 _ S1 (t1.trans t2) so2 r2 q1
theorem de_lst {ta : DA} (h : DAs X es ta) : DE X (.List es pos) (dLst ta) := by
  obtain ⟨⟨te, h1, h2⟩⟩ := h
  refine ⟨_, pe_lst h1, fun α ρ S σ H Q Q' so ro q k => ?_⟩
  refine h2 α ρ S σ H _ _ so ro q fun vs H1 α1 ds S1 t1 so1 r1 ⟨hz, q1⟩ => ⟨by rw [r1.len]; exact hz, fun p hp => ?_⟩
  obtain ⟨t2, so2, r2⟩ := new_lst so1 r1 hp
  exact k _ _ _ _ _ (t1.trans t2) so2 r2 q1

/-! ### lists, tuples read -/
/-- the items of a list (of any standing) -/
def onLst (d : D) (S : Store) (P : List D → Prop) : Prop := match d with
  | .lst ds => P ds
  | .scr ns => P (ns.map D.int)
  | .loc l => onOpt S[l]? fun o => match o with
    | .lst ds => P ds
    | _ => False
  | _ => False
def onSeq (d : D) (S : Store) (P : List D → Prop) : Prop := match d with
  | .tup ds => P ds
  | .lst ds => P ds
  | .scr ns => P (ns.map D.int)
  | .loc l => onOpt S[l]? fun o => match o with
    | .lst ds => P ds
    | _ => False
  | _ => False
theorem onLst.rp {K : PySem.W.Frag} {α : Locs} {H : Hp} {S : Store} {d : D} {v : V} {P : List D → Prop} (so : StoreOk K α H S) (r : Rp K α H v d) (h : onLst d S P) : ∃ a xs ds, v = .ref a ∧ SqL K H a xs ∧ RpL K α H xs ds ∧ P ds := by
  unfold onLst at h
  split at h
  · rename_i ds
    obtain ⟨a, xs, e, hs, _, hr⟩ := r
    exact ⟨a, xs, ds, e, SqL.of hs, hr, h⟩
  · rename_i ns
    obtain ⟨a, e, hs⟩ := r
    exact ⟨a, _, _, e, hs.sq, RpL.ints ns, h⟩
  · rename_i l
    obtain ⟨a, e, ha⟩ := r
    obtain ⟨o, u, h1, h2, h3⟩ := so.live ha
    obtain ⟨o', ho, h⟩ := h
    rw [h1] at ho
    cases ho
    cases o with
    | lst ds =>
      obtain ⟨xs, h4, h5⟩ := h2
      exact ⟨a, xs, ds, e, SqL.of h4, h5, h⟩
    | _ => exact h.elim
  · exact h.elim
theorem onSeq.rp {K : PySem.W.Frag} {α : Locs} {H : Hp} {S : Store} {d : D} {v : V} {P : List D → Prop} (so : StoreOk K α H S) (r : Rp K α H v d) (h : onSeq d S P) : ∃ a xs ds, v = .ref a ∧ (SqL K H a xs ∨ SqT K H a xs) ∧ RpL K α H xs ds ∧ P ds := by
  by_cases ht : ∃ ds, d = .tup ds
  · obtain ⟨ds, rfl⟩ := ht
    obtain ⟨a, xs, e, hs, hr⟩ := r
    exact ⟨a, xs, ds, e, Or.inr hs.sq, hr, h⟩
  · have h' : onLst d S P := by
      cases d with
      | tup ds => exact absurd ⟨ds, rfl⟩ ht
      | _ => exact h
    obtain ⟨a, xs, ds, e, hs, hr, hp⟩ := onLst.rp so r h'
    exact ⟨a, xs, ds, e, Or.inl hs, hr, hp⟩
/-- xs[i] -/
def rdIx : RD := fun x y S Q => onInt y fun i => match x with
  | .str z => z.length ≤ sizeLine ∧ onOpt (atI z.cps.toList i) fun c => Q (.str ⟨#[c]⟩) S
  | x => onSeq x S fun ds => onOpt (atI ds i) fun d => Q d S
theorem RpL.atI {K : PySem.W.Frag} {α : Locs} {H : Hp} {xs : List V} {ds : List D} {i : Int} {d : D} (r : RpL K α H xs ds) (h : L2.atI ds i = some d) : ∃ v, L2.atI xs i = some v ∧ Rp K α H v d := by
  unfold L2.atI at h ⊢
  rw [r.len]
  cases e : ixN ds.length i with
  | none => rw [e] at h; cases h
  | some j =>
    rw [e] at h
    have h : ds[j]? = some d := h
    exact r.get h
theorem onInt.rp {K : PySem.W.Frag} {α : Locs} {H : Hp} {d : D} {v : V} {P : Int → Prop} (r : Rp K α H v d) (h : onInt d P) : ∃ i, v = .int i ∧ d = .int i ∧ P i := by
  cases d with
  | int i => exact ⟨i, r, rfl, h⟩
  | _ => exact h.elim
theorem onOpt.ex {β : Type} {o : Option β} {P : β → Prop} (h : onOpt o P) : ∃ x, o = some x ∧ P x := by
  exact h
theorem ix_any : IxD X rdIx := by
  refine ⟨_, ix_seq, fun α S H x y v u Q Q' so rx ry h k => ?_⟩
  obtain ⟨i, rfl, rfl, h⟩ := onInt.rp ry h
  by_cases hs : ∃ z, x = .str z
  · obtain ⟨z, rfl⟩ := hs
    obtain ⟨hz, h⟩ := h
    obtain ⟨c, hc, h⟩ := onOpt.ex h
    have rx : v = .str z := rx
    exact Or.inr (Or.inr ⟨z, i, c, rx, rfl, hz, hc, k.str so h⟩)
  · have h' : onSeq x S fun ds => onOpt (atI ds i) fun d => Q d S := by
      cases x with
      | str z => exact absurd ⟨z, rfl⟩ hs
      | _ => exact h
    obtain ⟨a, xs, ds, rfl, hsq, hr, h2⟩ := onSeq.rp so rx h'
    obtain ⟨d, hd, h3⟩ := onOpt.ex h2
    obtain ⟨w, hw, rw'⟩ := hr.atI hd
    have kk := k w H α d S (Stp.refl _ _) so rw' h3
    rcases hsq with hl | ht
    · exact Or.inl ⟨a, xs, i, w, rfl, rfl, hl, hw, kk⟩
    · exact Or.inr (Or.inl ⟨a, xs, i, w, rfl, rfl, ht, hw, kk⟩)
theorem de_ix {r : RD} (hr : IxD X r) (ha : DE X a ta) (hb : DE X b tb) (hs : PlainIx b) : DE X (.Subscript a b pos) (dOp r ta tb) := by
  obtain ⟨⟨ro, h1, h2⟩⟩ := hr
  obtain ⟨⟨te, h3, h4⟩⟩ := ha
  obtain ⟨⟨tf, h5, h6⟩⟩ := hb
  exact ⟨_, pe_ix h1 h3 h5 hs, lift_op h2 h4 h6⟩

/-! ### built-in functions -/
def dCB (r : CD) (t : DA) : DT := fun ρ S Q => t ρ S fun vs S1 => r vs S1 Q
theorem lift_cb {K : PySem.W.Frag} {r : List V → Hp → VK → Prop} {rd : CD} {t : TA} {td : DA} (hr : LiftC K r rd) (ha : LiftA K t td) : LiftE K (tCB r t) (dCB rd td) := fun α ρ S σ H Q Q' so ro q k =>
  ha α ρ S σ H _ _ so ro q fun vs H1 α1 ds S1 t1 so1 r1 q1 => hr α1 S1 H1 ds vs Q Q' so1 r1 q1 (k.stp t1)
theorem de_callB {x : Str} {p : Pos} {id : String} {r : CD} {td : DA} (hc : CallD X (.builtin id) r) (hg : Gl X x) (hm : X.mg x = none) (hv : bootBuiltins x = some (.builtin id)) (ha : DAs X (e :: es) td) (hn : x ≠ "__name__" := by decide) (hdb : (x == ("__debug__" : Str)) = false := by decide)
    (he : starEach (e :: es) X.env = (false, eval e X.env) :: starEach es X.env := by rfl) (hpl : (backTo pos (starEach es X.env)).any (·.1) = false := by rfl) : DE X (.Call (.Name x p) (e :: es) [] pos) (dCB r td) := by
  obtain ⟨⟨ro, h1, h2⟩⟩ := hc
  obtain ⟨⟨te, h3, h4⟩⟩ := ha
  exact ⟨_, pe_callB h1 hg hm hv h3 hn hdb he hpl, lift_cb h2 h4⟩
theorem de_callTy {x : Str} {p : Pos} {id : String} {r : CD} {td : DA} (hc : CallD X (.type id) r) (hg : Gl X x) (hm : X.mg x = none) (hv : bootBuiltins x = some (.type id)) (ha : DAs X (e :: es) td) (hn : x ≠ "__name__" := by decide) (hdb : (x == ("__debug__" : Str)) = false := by decide)
    (he : starEach (e :: es) X.env = (false, eval e X.env) :: starEach es X.env := by rfl) (hpl : (backTo pos (starEach es X.env)).any (·.1) = false := by rfl) : DE X (.Call (.Name x p) (e :: es) [] pos) (dCB r td) := by
  obtain ⟨⟨ro, h1, h2⟩⟩ := hc
  obtain ⟨⟨te, h3, h4⟩⟩ := ha
  exact ⟨_, pe_callTy h1 hg hm hv h3 hn hdb he hpl, lift_cb h2 h4⟩
def on1 (ds : List D) (P : D → Prop) : Prop := match ds with
  | [d] => P d
  | _ => False
def on2 (ds : List D) (P : D → D → Prop) : Prop := match ds with
  | [d, e] => P d e
  | _ => False
theorem on1.rp {K : PySem.W.Frag} {α : Locs} {H : Hp} {ds : List D} {vs : List V} {P : D → Prop} (r : RpL K α H vs ds) (h : on1 ds P) : ∃ d v, ds = [d] ∧ vs = [v] ∧ Rp K α H v d ∧ P d := by
  match ds, r, h with
  | [d], ⟨v, t, e, h1, h2⟩, h =>
    have h2 : t = [] := h2
    subst h2
    exact ⟨d, v, rfl, e, h1, h⟩
theorem on2.rp {K : PySem.W.Frag} {α : Locs} {H : Hp} {ds : List D} {vs : List V} {P : D → D → Prop} (r : RpL K α H vs ds) (h : on2 ds P) : ∃ d e v w, ds = [d, e] ∧ vs = [v, w] ∧ Rp K α H v d ∧ Rp K α H w e ∧ P d e := by
  match ds, r, h with
  | [d, f], ⟨v, t, e, h1, ⟨w, t2, e2, h3, h4⟩⟩, h =>
    have h4 : t2 = [] := h4
    subst h4
    subst e2
    exact ⟨d, f, v, w, rfl, e, h1, h3, h⟩
def cdLen : CD := fun ds S Q => on1 ds fun d => match d with
  | .str z => z.length ≤ sizeLine ∧ Q (.int z.length) S
  | d => onSeq d S fun xs => Q (.int xs.length) S
theorem cd_len : CallD X (.builtin "len") cdLen := by
  refine ⟨_, call_len_seq.or call_len_str, fun α S H xs vs Q Q' so r h k => ?_⟩
  obtain ⟨d, v, rfl, rfl, rv, h⟩ := on1.rp r h
  by_cases hs : ∃ z, d = .str z
  · obtain ⟨z, rfl⟩ := hs
    have rv : v = .str z := rv
    subst rv
    exact Or.inr ⟨z, rfl, h.1, k.int so h.2⟩
  · have h' : onSeq d S fun xs => Q (.int xs.length) S := by
      cases d with
      | str z => exact absurd ⟨z, rfl⟩ hs
      | _ => exact h
    obtain ⟨a, xs, ds, rfl, hsq, hr, h2⟩ := onSeq.rp so rv h'
    refine Or.inl ⟨a, xs, rfl, hsq, ?_⟩
    rw [hr.len]
    exact k.int so h2
def cdAbs : CD := fun ds S Q => on1 ds fun d => onInt d fun i => Q (.int (if i < 0 then -i else i)) S
theorem cd_abs : CallD X (.builtin "abs") cdAbs := by
  refine ⟨_, call_abs, fun α S H xs vs Q Q' so r h k => ?_⟩
  obtain ⟨d, v, rfl, rfl, rv, h⟩ := on1.rp r h
  obtain ⟨i, rfl, rfl, h⟩ := onInt.rp rv h
  exact ⟨i, rfl, k.int so h⟩
def cdMax2 : CD := fun ds S Q => on2 ds fun d e => onInt d fun i => onInt e fun j => Q (.int (if j > i then j else i)) S
def cdMin2 : CD := fun ds S Q => on2 ds fun d e => onInt d fun i => onInt e fun j => Q (.int (if j < i then j else i)) S
theorem cd_max2 (hc : X.calm = true) : CallD X (.builtin "max") cdMax2 := by
  refine ⟨_, call_max2 hc, fun α S H xs vs Q Q' so r h k => ?_⟩
  obtain ⟨d, e, v, w, rfl, rfl, rv, rw', h⟩ := on2.rp r h
  obtain ⟨i, rfl, rfl, h⟩ := onInt.rp rv h
  obtain ⟨j, rfl, rfl, h⟩ := onInt.rp rw' h
  exact ⟨i, j, rfl, k.int so h⟩
theorem cd_min2 (hc : X.calm = true) : CallD X (.builtin "min") cdMin2 := by
  refine ⟨_, call_min2 hc, fun α S H xs vs Q Q' so r h k => ?_⟩
  obtain ⟨d, e, v, w, rfl, rfl, rv, rw', h⟩ := on2.rp r h
  obtain ⟨i, rfl, rfl, h⟩ := onInt.rp rv h
  obtain ⟨j, rfl, rfl, h⟩ := onInt.rp rw' h
  exact ⟨i, j, rfl, k.int so h⟩
/-- list(xs): a new list; tuple(xs) -/
def cdList : CD := fun ds S Q => on1 ds fun d => onSeq d S fun xs => Q (.loc S.length) (S ++ [.lst xs])
theorem cd_list : CallD X (.type "list") cdList := by
  refine ⟨_, call_list_of, fun α S H xs vs Q Q' so r h k => ?_⟩
  obtain ⟨d, v, rfl, rfl, rv, h⟩ := on1.rp r h
  obtain ⟨a, xs, ds, rfl, hsq, hr, h2⟩ := onSeq.rp so rv h
  refine ⟨a, xs, rfl, hsq, fun l hl => ?_⟩
  obtain ⟨t2, so2, r2⟩ := new_lst so hr hl
  exact k _ _ _ _ _ t2 so2 r2 h2
def cdTuple : CD := fun ds S Q => on1 ds fun d => onLst d S fun xs => Q (.tup xs) S
theorem cd_tuple : CallD X (.type "tuple") cdTuple := by
  refine ⟨_, call_tuple_of, fun α S H xs vs Q Q' so r h k => ?_⟩
  obtain ⟨d, v, rfl, rfl, rv, h⟩ := on1.rp r h
  obtain ⟨a, xs, ds, rfl, hsq, hr, h2⟩ := onLst.rp so rv h
  refine ⟨a, xs, rfl, Or.inl ⟨hsq, fun l hl => ?_⟩⟩
  obtain ⟨t2, so2, r2⟩ := new_tup so hr hl
  exact k _ _ _ _ _ t2 so2 r2 h2
end
end DL

/-! DL, 4: statements, targets, loops, comprehensions. -/
namespace DL
open PySem PySem.Spec PyProof.Rows L2

section
variable {X : Cx} {e a b c : Expr} {es : List Expr} {st : Stmt} {rest body : List Stmt} {pos : Pos} {t ta tb : DT} {tc td : DTt} {u v : DS}
def sNext : DS := fun E ρ S => E.nx ρ S
def sSeq (t u : DS) : DS := fun E ρ S => t { E with nx := u E } ρ S
theorem ds_nil : DSs X [] sNext := ⟨_, pss_nil, fun α ρ S σ H E F so ro q k => k.nx σ H α ρ S (Stp.refl _ _) so ro q⟩
theorem ds_cons (h1 : DSt X st u) (h2 : DSs X rest v) : DSs X (st :: rest) (sSeq u v) := by
  obtain ⟨⟨ts, h3, h4⟩⟩ := h1
  obtain ⟨⟨tr, h5, h6⟩⟩ := h2
  refine ⟨_, pss_cons h3 h5, fun α ρ S σ H E F so ro q k => ?_⟩
  exact h4 α ρ S σ H { E with nx := v E } { F with nx := tr F } so ro q (k.nxt fun σ' H' α' ρ' S' t' so' ro' q' => h6 α' ρ' S' σ' H' E F so' ro' q' (k.stp t'))
theorem ds_one (h1 : DSt X st u) : DSs X [st] u := by
  obtain ⟨⟨ts, h3, h4⟩⟩ := h1
  exact ⟨_, pss_one h3, h4⟩
def sBreak : DS := fun E ρ S => E.bk ρ S
def sCont : DS := fun E ρ S => E.ct ρ S
theorem ds_pass : DSt X (.Pass pos) sNext := ⟨_, ps_pass, fun α ρ S σ H E F so ro q k => k.nx σ H α ρ S (Stp.refl _ _) so ro q⟩
theorem ds_break : DSt X (.Break pos) sBreak := ⟨_, ps_break, fun α ρ S σ H E F so ro q k => k.bk σ H α ρ S (Stp.refl _ _) so ro q⟩
theorem ds_continue : DSt X (.Continue pos) sCont := ⟨_, ps_continue, fun α ρ S σ H E F so ro q k => k.ct σ H α ρ S (Stp.refl _ _) so ro q⟩
def sDrop (t : DT) : DS := fun E ρ S => t ρ S fun _ S1 => E.nx ρ S1
theorem ds_expr (he : DE X e t) (hs : swapsWith e none pos.line X.env = pure false := by rfl) : DSt X (.Expr e pos) (sDrop t) := by
  obtain ⟨⟨te, h1, h2⟩⟩ := he
  refine ⟨_, ps_expr h1 hs, fun α ρ S σ H E F so ro q k => ?_⟩
  exact h2 α ρ S σ H _ _ so ro q fun v H1 α1 d S1 t1 so1 r1 q1 => k.nx σ H1 α1 ρ S1 t1 so1 (ro.stp t1) q1
def sRet (t : DT) : DS := fun E ρ S => t ρ S E.rt
theorem ds_ret (he : DE X e t) : DSt X (.Return (some e) pos) (sRet t) := by
  obtain ⟨⟨te, h1, h2⟩⟩ := he
  exact ⟨_, ps_ret h1, fun α ρ S σ H E F so ro q k => h2 α ρ S σ H _ _ so ro q k.rt⟩
def sRetN : DS := fun E ρ S => E.rt .non S
theorem ds_retN : DSt X (.Return none pos) sRetN := ⟨_, ps_retN, fun α ρ S σ H E F so ro q k => k.rt.non so q⟩
def sIf (c : DTt) (t u : DS) : DS := fun E ρ S => c ρ S fun b S1 => (b = true → t E ρ S1) ∧ (b = false → u E ρ S1)
theorem ds_if {bd orelse : List Stmt} (hc : DTst X c tc) (ha : DSs X bd u) (hb : DSs X orelse v) : DSt X (.If c bd orelse pos) (sIf tc u v) := by
  obtain ⟨⟨tt, h1, h2⟩⟩ := hc
  obtain ⟨⟨ts, h3, h4⟩⟩ := ha
  obtain ⟨⟨tr, h5, h6⟩⟩ := hb
  refine ⟨_, ps_if h1 h3 h5, fun α ρ S σ H E F so ro q k => ?_⟩
  refine h2 α ρ S σ H _ _ so ro q fun b H1 α1 S1 t1 so1 q1 => ?_
  cases b with
  | true => exact h4 α1 ρ S1 σ H1 E F so1 (ro.stp t1) (q1.1 rfl) (k.stp t1)
  | false => exact h6 α1 ρ S1 σ H1 E F so1 (ro.stp t1) (q1.2 rfl) (k.stp t1)

/-! ### targets -/
theorem SameBut.refl (ws : List Nat) (σ : L2.St) : SameBut ws σ σ := ⟨rfl, fun _ _ => rfl⟩
theorem SameBut.trans {ws xs : List Nat} {σ σ1 σ2 : L2.St} (h1 : SameBut ws σ σ1) (h2 : SameBut xs σ1 σ2) : SameBut (ws ++ xs) σ σ2 :=
  ⟨h2.1.trans h1.1, fun j hj => (h2.2 j fun z => hj (List.mem_append_right _ z)).trans (h1.2 j fun z => hj (List.mem_append_left _ z))⟩
def gdName (i : Nat) : DG := fun d ρ S Q => Q (setR ρ i d) S
theorem dg_name {i : Nat} {x : Str} (hN : X.N.Nodup) (hi : X.N[i]? = some x) (hx : Loc X.env.scope x) (hf : X.fn x = true ∨ X.env.scope.names.lookup x = some .local := by first | exact .inl rfl | exact .inr rfl | assumption) : DGt X (.Name x pos) [i] (gdName i) :=
  ⟨_, pg_name hN hi hx hf, fun α ρ S σ H v d Q Q' so ro r q k => k _ H α _ S ⟨List.length_set .., fun j hj => List.getElem?_set_ne fun e => hj (by rw [e]; exact List.mem_singleton.mpr rfl)⟩ (Stp.refl _ _) so (RhoOk.set i r ro) q⟩
def gdNil : DGs := fun ds ρ S Q => match ds with
  | [] => Q ρ S
  | _ => False
def gdCons (g : DG) (gs : DGs) : DGs := fun ds ρ S Q => match ds with
  | d :: r => g d ρ S fun ρ1 S1 => gs r ρ1 S1 Q
  | [] => False
theorem dgs_nil : DGts X [] [] gdNil := by
  refine ⟨_, pgs_nil, fun α ρ S σ H vs ds Q Q' so ro r q k => ?_⟩
  cases ds with
  | nil => exact ⟨r, k σ H α ρ S (SameBut.refl _ _) (Stp.refl _ _) so ro q⟩
  | cons d ds => exact q.elim
theorem dgs_cons {ws xs : List Nat} {g : DG} {gs : DGs} (h1 : DGt X e ws g) (h2 : DGts X es xs gs)
    (hs : (assignEach (e :: es) X.env).map (·.2) = assign e X.env :: (assignEach es X.env).map (·.2) := by rfl) : DGts X (e :: es) (ws ++ xs) (gdCons g gs) := by
  obtain ⟨⟨g1, h3, h4⟩⟩ := h1
  obtain ⟨⟨g2, h5, h6⟩⟩ := h2
  refine ⟨_, pgs_cons h3 h5 hs, fun α ρ S σ H vs ds Q Q' so ro r q k => ?_⟩
  cases ds with
  | nil => exact q.elim
  | cons d ds =>
    obtain ⟨v, t, e1, r1, r2⟩ := r
    refine ⟨v, t, e1, ?_⟩
    refine h4 α ρ S σ H v d _ _ so ro r1 q fun σ1 H1 α1 ρ1 S1 sb t1 so1 ro1 q1 => ?_
    exact h6 α1 ρ1 S1 σ1 H1 t ds Q Q' so1 ro1 (RpL.stp t1 ds t r2) q1 fun σ2 H2 α2 ρ2 S2 sb2 t2 => k σ2 H2 α2 ρ2 S2 (sb.trans sb2) (t1.trans t2)
def gdTup (n : Nat) (gs : DGs) : DG := fun d ρ S Q => match d with
  | .tup ds => ds.length = n ∧ gs ds ρ S Q
  | _ => False
theorem dg_tup {ws : List Nat} {k : Nat} {gs : DGs} {n : Nat} (hc : X.calm = true) (h : DGts X es ws gs)
    (hn : (assignEach es X.env).length = n := by rfl) (hst : (assignEach es X.env).findIdx? (·.1) = none := by rfl) : DGt X (.Tuple es k pos) ws (gdTup n gs) := by
  obtain ⟨⟨g1, h3, h4⟩⟩ := h
  refine ⟨_, pg_tup hc h3 hn hst, fun α ρ S σ H v d Q Q' so ro r q k => ?_⟩
  cases d with
  | tup ds =>
    obtain ⟨a, xs, e, ht, hr⟩ := r
    exact ⟨a, xs, e, ht.sq, by rw [hr.len]; exact q.1, h4 α ρ S σ H xs ds Q Q' so ro hr q.2 k⟩
  | _ => exact q.elim
def sAsg (t : DT) (g : DG) : DS := fun E ρ S => t ρ S fun d S1 => g d ρ S1 E.nx
theorem lift_asg {K : PySem.W.Frag} {te : TE} {g : TG} {gd : DG} {ws : List Nat} (h1 : LiftE K te t) (h2 : LiftG K ws g gd) : LiftS K (tAsg te g) (sAsg t gd) := fun α ρ S σ H E F so ro q k => by
  refine h1 α ρ S σ H _ _ so ro q fun v H1 α1 d S1 t1 so1 r1 q1 => ?_
  exact h2 α1 ρ S1 σ H1 v d _ _ so1 (ro.stp t1) r1 q1 fun σ2 H2 α2 ρ2 S2 _ t2 so2 ro2 q2 => k.nx σ2 H2 α2 ρ2 S2 (t1.trans t2) so2 ro2 q2
theorem ds_asg {tg : Expr} {ws : List Nat} {g : DG} (he : DE X e t) (hg : DGt X tg ws g) (hs : swapsWithSole [tg] e pos.line X.env = pure false := by rfl) (hw : swappedStores [tg] e X.env = pure none := by rfl)
    (h1 : (assignEach [tg] X.env).map (·.2) = [assign tg X.env] := by rfl) : DSt X (.Assign [tg] e pos) (sAsg t g) := by
  obtain ⟨⟨te, h3, h4⟩⟩ := he
  obtain ⟨⟨g1, h5, h6⟩⟩ := hg
  exact ⟨_, ps_asg h3 h5 hs hw h1, lift_asg h4 h6⟩
theorem ds_set {i : Nat} {x : Str} {pos' : Pos} (hN : X.N.Nodup) (hi : X.N[i]? = some x) (hx : Loc X.env.scope x) (he : DE X e t) (hs : swapsWith e (some (.Name x pos')) pos.line X.env = pure false := by rfl) (hf : X.fn x = true ∨ X.env.scope.names.lookup x = some .local := by first | exact .inl rfl | exact .inr rfl | assumption) :
    DSt X (.Assign [.Name x pos'] e pos) (sAsg t (gdName i)) := by
  obtain ⟨⟨te, h3, h4⟩⟩ := he
  refine ⟨_, ps_set hN hi hx h3 hs hf, lift_asg (ws := [i]) h4 ?_⟩
  exact fun α ρ S σ H v d Q Q' so ro r q k => k _ H α _ S ⟨List.length_set .., fun j hj => List.getElem?_set_ne fun e => hj (by rw [e]; exact List.mem_singleton.mpr rfl)⟩ (Stp.refl _ _) so (RhoOk.set i r ro) q
/-- a, b = x, y -/
def sPar (i j : Nat) (ta : DA) : DS := fun E ρ S => ta ρ S fun ds S1 => on2 ds fun d e => E.nx (setR (setR ρ i d) j e) S1
theorem ds_par {i j : Nat} {x y : Str} {px py pt : Pos} {kt k2 pt2} {da : DA} (hc : X.calm = true) (hN : X.N.Nodup) (hi : X.N[i]? = some x) (hj : X.N[j]? = some y) (hij : i ≠ j)
    (hx : X.env.scope.names.lookup x = some .local) (hy : X.env.scope.names.lookup y = some .local) (ha : DAs X [a, b] da)
    (hw : swappedStores [.Tuple [.Name x px, .Name y py] kt pt] (.Tuple [a, b] k2 pt2) X.env = pure (some [x, y]))
    (hs : swapsWithSole [.Tuple [.Name x px, .Name y py] kt pt] (.Tuple [a, b] k2 pt2) pos.line X.env = pure false := by rfl) :
    DSt X (.Assign [.Tuple [.Name x px, .Name y py] kt pt] (.Tuple [a, b] k2 pt2) pos) (sPar i j da) := by
  obtain ⟨⟨te, h3, h4⟩⟩ := ha
  refine ⟨_, ps_par hc hN hi hj hij hx hy h3 hw hs, fun α ρ S σ H E F so ro q k => ?_⟩
  refine h4 α ρ S σ H _ _ so ro q fun vs H1 α1 ds S1 t1 so1 r1 q1 => ?_
  obtain ⟨d, e, v, w, rfl, rfl, r2, r3, q2⟩ := on2.rp r1 q1
  exact ⟨v, w, rfl, k.nx _ H1 α1 _ S1 t1 so1 (RhoOk.set j r3 (RhoOk.set i r2 (ro.stp t1))) q2⟩
/-- name += int, name -= int -/
def sAugI (f : Int → Int → Int) (i : Nat) (t : DT) : DS := fun E ρ S => onOpt (getR ρ i) fun x => onInt x fun m => t ρ S fun y S1 => onInt y fun n => E.nx (setR ρ i (.int (f m n))) S1
theorem lift_aug {K : PySem.W.Frag} {te : TE} {i : Nat} {f : Int → Int → Int} (h : LiftE K te t) : LiftS K (tAug i te (ipI f)) (sAugI f i t) := fun α ρ S σ H E F so ro q k => by
  obtain ⟨x, hx, q⟩ := onOpt.ex q
  obtain ⟨v, hv, rv⟩ := ro.get hx
  obtain ⟨m, rfl, rfl, q⟩ := onInt.rp rv q
  refine ⟨_, hv, ?_⟩
  refine h α ρ S σ H _ _ so ro q fun v H1 α1 d S1 t1 so1 r1 q1 => ?_
  obtain ⟨n, rfl, rfl, q2⟩ := onInt.rp r1 q1
  exact ⟨m, n, rfl, rfl, k.nx _ H1 α1 _ S1 t1 so1 (RhoOk.set (v := V.int (f m n)) (d := D.int (f m n)) i rfl (ro.stp t1)) q2⟩
theorem ds_augAdd {i : Nat} {x : Str} {pos' : Pos} (hN : X.N.Nodup) (hi : X.N[i]? = some x) (hx : Loc X.env.scope x) (he : DE X e t) (hf : X.fn x = true ∨ X.env.scope.names.lookup x = some .local := by first | exact .inl rfl | exact .inr rfl | assumption) :
    DSt X (.AugAssign (.Name x pos') .Add e pos) (sAugI (fun i j => i + j) i t) := by
  obtain ⟨⟨te, h3, h4⟩⟩ := he
  exact ⟨_, ps_aug hN hi hx h3 ip_add hf, lift_aug h4⟩
theorem ds_augSub {i : Nat} {x : Str} {pos' : Pos} (hN : X.N.Nodup) (hi : X.N[i]? = some x) (hx : Loc X.env.scope x) (he : DE X e t) (hf : X.fn x = true ∨ X.env.scope.names.lookup x = some .local := by first | exact .inl rfl | exact .inr rfl | assumption) :
    DSt X (.AugAssign (.Name x pos') .Sub e pos) (sAugI (fun i j => i - j) i t) := by
  obtain ⟨⟨te, h3, h4⟩⟩ := he
  exact ⟨_, ps_aug hN hi hx h3 ip_sub hf, lift_aug h4⟩

/-! ### while -/
def sWhile (c : DTt) (tb : DS) : DS := fun E ρ S => ∃ W : Nat → Rho → Store → Prop, (∃ m, W m ρ S) ∧ ∀ m ρ S, W m ρ S →
  c ρ S fun b S1 => (b = true → tb { E with nx := fun ρ' S' => ∃ m', m' < m ∧ W m' ρ' S', ct := fun ρ' S' => ∃ m', m' < m ∧ W m' ρ' S', bk := E.nx } ρ S1) ∧ (b = false → E.nx ρ S1)
theorem ds_while (hp : PassesOwn (model X.prog X.w) X.A X.env X.xe) (hc : DTst X c tc) (hb : DSs X body u) : DSt X (.While c body [] pos) (sWhile tc u) := by
  obtain ⟨⟨tt, h1, h2⟩⟩ := hc
  obtain ⟨⟨ts, h3, h4⟩⟩ := hb
  refine ⟨_, ps_while hp h1 h3, fun α0 ρ0 S0 σ0 H0 E F so0 ro0 q k => ?_⟩
  obtain ⟨W, ⟨m0, w0⟩, step⟩ := q
  refine ⟨fun m σ H => ∃ α ρ S, Stp α0 H0 α H ∧ StoreOk X.K α H S ∧ RhoOk X.K α H ρ σ ∧ W m ρ S, ⟨m0, α0, ρ0, S0, Stp.refl _ _, so0, ro0, w0⟩, ?_⟩
  rintro m σ H ⟨α, ρ, S, t, so, ro, w⟩
  refine h2 α ρ S σ H _ _ so ro (step m ρ S w) fun b H1 α1 S1 t1 so1 q1 => ?_
  cases b with
  | true =>
    rw [if_pos rfl]
    have q1 := q1.1 rfl
    refine ⟨fun σ' H' => ∃ m', m' < m ∧ ∃ α ρ S, Stp α0 H0 α H' ∧ StoreOk X.K α H' S ∧ RhoOk X.K α H' ρ σ' ∧ W m' ρ S, fun σ' H' z => z, ?_⟩
    refine h4 α1 ρ S1 σ H1 _ _ so1 (ro.stp t1) q1 ⟨?_, (k.stp (t.trans t1)).rt, ?_, ?_⟩
    · rintro σ' H' α' ρ' S' t' so' ro' ⟨m', hm, w'⟩
      exact ⟨m', hm, α', ρ', S', (t.trans t1).trans t', so', ro', w'⟩
    · exact (k.stp (t.trans t1)).nx
    · rintro σ' H' α' ρ' S' t' so' ro' ⟨m', hm, w'⟩
      exact ⟨m', hm, α', ρ', S', (t.trans t1).trans t', so', ro', w'⟩
  | false =>
    rw [if_neg Bool.false_ne_true]
    exact k.nx σ H1 α1 ρ S1 (t.trans t1) so1 (ro.stp t1) (q1.2 rfl)

/-! ### what is walked -/
/-- the items that come, one by one -/
abbrev DI := Rho → Store → (List D → Store → Prop) → Prop
/-- J yields what stands for the items, from (α0, H0) on, whatever changes but the source -/
structure Yields (K : PySem.W.Frag) (α0 : Locs) (H0 : Hp) (J : It) (n : Nat) (P : Hp → Prop) (R : Locs → Hp → Nat → V → Prop) : Prop where
  go : ∀ i H, i < n → P H → J.go i H
  stop : ∀ H, P H → J.stop n H
  yld : ∀ i α H x H', i < n → P H → Stp α0 H0 α H → J.yld i H x H' → Stp α H α H' ∧ (∀ S, StoreOk K α H S → StoreOk K α H' S) ∧ R α H' i x
/-- the walked thing is of the unchanging kind -/
def LiftI (K : PySem.W.Frag) (wi : TI) (t : DI) : Prop :=
  ∀ α ρ S σ H (Q : List D → Store → Prop) (R : It → Hp → Prop), StoreOk K α H S → RhoOk K α H ρ σ → t ρ S Q →
    (∀ J H' α' ds S', Stp α H α' H' → StoreOk K α' H' S' → bndL α'.length ds → Q ds S' →
      (∀ i α2 H2, i < ds.length → Stp α' H' α2 H2 → J.go i H2) → (∀ α2 H2, Stp α' H' α2 H2 → J.stop ds.length H2) →
      (∀ i α2 H2 x H3 d, ds[i]? = some d → Stp α' H' α2 H2 → (∃ S2, StoreOk K α2 H2 S2) → J.yld i H2 x H3 → ∃ α3, Stp α2 H2 α3 H3 ∧ (∀ S2, StoreOk K α2 H2 S2 → StoreOk K α3 H3 S2) ∧ Rp K α3 H3 x d) → R J H') → wi σ H R
structure DIt (X : Cx) (tg iter : Expr) (t : DI) : Prop where
  ex : ∃ wi, PI X tg iter wi ∧ LiftI X.K wi t
/-- a tuple, a list that is no location -/
def diSeq (t : DT) : DI := fun ρ S Q => t ρ S fun d S1 => onTup d fun ds => Q ds S1
theorem di_tup {tg : Expr} (h : DE X e t) : DIt X tg e (diSeq t) := by
  obtain ⟨⟨te, h1, h2⟩⟩ := h
  refine ⟨_, pi_tup h1, fun α ρ S σ H Q R so ro q k => ?_⟩
  refine h2 α ρ S σ H _ _ so ro q fun v H1 α1 d S1 t1 so1 r1 q1 => ?_
  cases d with
  | tup ds =>
    obtain ⟨a, xs, e, ht, hr⟩ := r1
    refine ⟨a, e, ⟨xs, ht.sq⟩, k _ H1 α1 ds S1 t1 so1 (RpL.bnd ds xs hr) q1 ?_ ?_ ?_⟩
    · intro i α2 H2 hi t2
      have hl := hr.len
      exact ⟨xs, xs[i]'(by omega), (ht.stp t2).sq, by simp⟩
    · intro α2 H2 t2
      exact ⟨xs, (ht.stp t2).sq, by rw [hr.len]; exact Nat.le_refl _⟩
    · rintro i α2 H2 x H3 d hd t2 _ ⟨rfl, hy⟩
      have h3 := hy xs (ht.stp t2).sq
      obtain ⟨v, hv, rv⟩ := (RpL.stp t2 ds xs hr).get hd
      rw [h3] at hv
      cases hv
      exact ⟨α2, Stp.refl _ _, fun _ z => z, rv⟩
  | _ => exact q1.elim
def diLst (t : DT) : DI := fun ρ S Q => t ρ S fun d S1 => match d with
  | .lst ds => Q ds S1
  | .scr ns => Q (ns.map D.int) S1
  | _ => False
theorem di_lst {tg : Expr} (h : DE X e t) : DIt X tg e (diLst t) := by
  obtain ⟨⟨te, h1, h2⟩⟩ := h
  refine ⟨_, pi_list h1, fun α ρ S σ H Q R so ro q k => ?_⟩
  refine h2 α ρ S σ H _ _ so ro q fun v H1 α1 d S1 t1 so1 r1 q1 => ?_
  have key : ∀ a xs ds, v = .ref a → (∀ α2 H2, Stp α1 H1 α2 H2 → SqL X.K H2 a xs) → RpL X.K α1 H1 xs ds → Q ds S1 → ∃ a, v = .ref a ∧ (∃ xs, SqL X.K H1 a xs) ∧ R (Itl X.K a) H1 := by
    intro a xs ds e ht hr q1
    refine ⟨a, e, ⟨xs, ht α1 H1 (Stp.refl _ _)⟩, k _ H1 α1 ds S1 t1 so1 (RpL.bnd ds xs hr) q1 ?_ ?_ ?_⟩
    · intro i α2 H2 hi t2
      have hl := hr.len
      exact ⟨xs, xs[i]'(by omega), ht α2 H2 t2, by simp⟩
    · intro α2 H2 t2
      exact ⟨xs, ht α2 H2 t2, by rw [hr.len]; exact Nat.le_refl _⟩
    · rintro i α2 H2 x H3 d hd t2 _ ⟨rfl, hy⟩
      have h3 := hy xs (ht α2 _ t2)
      obtain ⟨v, hv, rv⟩ := (RpL.stp t2 ds xs hr).get hd
      rw [h3] at hv
      cases hv
      exact ⟨α2, Stp.refl _ _, fun _ z => z, rv⟩
  cases d with
  | lst ds =>
    obtain ⟨a, xs, e, hs, f, hr⟩ := r1
    exact key a xs ds e (fun α2 H2 t2 => SqL.of (t2.keep _ _ hs f)) hr q1
  | scr ns =>
    obtain ⟨a, e, hs⟩ := r1
    exact key a _ _ e (fun α2 H2 t2 => (hs.stp t2).sq) (RpL.ints ns) q1
  | _ => exact q1.elim
def intsFrom (lo : Int) (n : Nat) : List D := (List.range n).map fun (i : Nat) => D.int (lo + i)
theorem intsFrom_get {lo : Int} {n i : Nat} {d : D} (h : (intsFrom lo n)[i]? = some d) : i < n ∧ d = .int (lo + i) := by
  unfold intsFrom at h
  rw [List.getElem?_map] at h
  by_cases hi : i < n
  · rw [List.getElem?_range hi] at h
    exact ⟨hi, (Option.some.inj h).symm⟩
  · rw [List.getElem?_eq_none_iff.mpr (by rw [List.length_range]; omega)] at h
    cases h
theorem intsFrom_len (lo : Int) (n : Nat) : (intsFrom lo n).length = n := by simp [intsFrom]
theorem bndL_all {n : Nat} : ∀ {ds : List D}, (∀ d ∈ ds, bnd n d) → bndL n ds
  | [], _ => trivial
  | d :: ds, h => ⟨h d List.mem_cons_self, bndL_all fun x hx => h x (List.mem_cons_of_mem _ hx)⟩
theorem bndL_map {β : Type} {n : Nat} {f : β → D} {l : List β} (h : ∀ x, bnd n (f x)) : bndL n (l.map f) := bndL_all fun d hd => by
  obtain ⟨x, _, rfl⟩ := List.mem_map.mp hd
  exact h x
theorem intsFrom_bnd (m : Nat) (lo : Int) (n : Nat) : bndL m (intsFrom lo n) := bndL_map (f := fun (i : Nat) => D.int (lo + i)) fun _ => trivial
def diRng1 (t : DA) : DI := fun ρ S Q => t ρ S fun ds S1 => on1 ds fun d => onInt d fun j => -(2 ^ 62) ≤ j ∧ j < 2 ^ 62 ∧ Q (intsFrom 0 j.toNat) S1
def diRng2 (t : DA) : DI := fun ρ S Q => t ρ S fun ds S1 => on2 ds fun d e => onInt d fun i => onInt e fun j => (-(2 ^ 62) ≤ i ∧ i < 2 ^ 62 ∧ -(2 ^ 62) ≤ j ∧ j < 2 ^ 62) ∧ Q (intsFrom i (j - i).toNat) S1
theorem rng_key {K : PySem.W.Frag} {lo : Int} {n : Nat} {α1 : Locs} {H1 : Hp} {S1 : Store} {α : Locs} {H : Hp} {Q : List D → Store → Prop} {R : It → Hp → Prop} (t1 : Stp α H α1 H1) (so1 : StoreOk K α1 H1 S1) (q1 : Q (intsFrom lo n) S1)
    (k : ∀ J H' α' ds S', Stp α H α' H' → StoreOk K α' H' S' → bndL α'.length ds → Q ds S' →
      (∀ i α2 H2, i < ds.length → Stp α' H' α2 H2 → J.go i H2) → (∀ α2 H2, Stp α' H' α2 H2 → J.stop ds.length H2) →
      (∀ i α2 H2 x H3 d, ds[i]? = some d → Stp α' H' α2 H2 → (∃ S2, StoreOk K α2 H2 S2) → J.yld i H2 x H3 → ∃ α3, Stp α2 H2 α3 H3 ∧ (∀ S2, StoreOk K α2 H2 S2 → StoreOk K α3 H3 S2) ∧ Rp K α3 H3 x d) → R J H') : R (Itr lo n) H1 := by
  refine k _ H1 α1 (intsFrom lo n) S1 t1 so1 (intsFrom_bnd _ _ _) q1 ?_ ?_ ?_
  · intro i α2 H2 hi _
    rw [intsFrom_len] at hi
    exact hi
  · intro α2 H2 _
    rw [intsFrom_len]
    exact Nat.le_refl _
  · rintro i α2 H2 x H3 d hd t2 _ ⟨rfl, rfl⟩
    obtain ⟨_, rfl⟩ := intsFrom_get hd
    exact ⟨α2, Stp.refl _ _, fun _ z => z, rfl⟩
theorem di_rng1 {tg : Expr} {da : DA} {p : Pos} (hg : Gl X "range") (hm : X.mg "range" = none) (ha : DAs X [a] da) (hs : starEach [a] X.env = [(false, eval a X.env)] := by rfl) : DIt X tg (.Call (.Name "range" p) [a] [] pos) (diRng1 da) := by
  obtain ⟨⟨te, h1, h2⟩⟩ := ha
  refine ⟨_, pi_range1 hg hm h1 hs, fun α ρ S σ H Q R so ro q k => ?_⟩
  refine h2 α ρ S σ H _ _ so ro q fun vs H1 α1 ds S1 t1 so1 r1 q1 => ?_
  obtain ⟨d, v, rfl, rfl, r2, q2⟩ := on1.rp r1 q1
  obtain ⟨j, rfl, rfl, b1, b2, q3⟩ := onInt.rp r2 q2
  exact ⟨j, rfl, b1, b2, rng_key t1 so1 q3 k⟩
theorem di_rng2 {tg : Expr} {da : DA} {p : Pos} (hg : Gl X "range") (hm : X.mg "range" = none) (ha : DAs X [a, b] da) (hs : starEach [a, b] X.env = [(false, eval a X.env), (false, eval b X.env)] := by rfl) (hs2 : starEach [b] X.env = [(false, eval b X.env)] := by rfl) :
    DIt X tg (.Call (.Name "range" p) [a, b] [] pos) (diRng2 da) := by
  obtain ⟨⟨te, h1, h2⟩⟩ := ha
  refine ⟨_, pi_range2 hg hm h1 hs hs2, fun α ρ S σ H Q R so ro q k => ?_⟩
  refine h2 α ρ S σ H _ _ so ro q fun vs H1 α1 ds S1 t1 so1 r1 q1 => ?_
  obtain ⟨d, e, v, w, rfl, rfl, r2, r3, q2⟩ := on2.rp r1 q1
  obtain ⟨i, rfl, rfl, q2⟩ := onInt.rp r2 q2
  obtain ⟨j, rfl, rfl, b1, q3⟩ := onInt.rp r3 q2
  exact ⟨i, j, rfl, b1, rng_key t1 so1 q3 k⟩
end
end DL

/-! DL, 5: for, list comprehensions, calls of defs. -/
namespace DL
open PySem PySem.Spec PyProof.Rows L2

section
variable {X : Cx} {e a b c : Expr} {es : List Expr} {st : Stmt} {rest body : List Stmt} {pos : Pos} {t ta tb : DT} {tc td : DTt} {u v : DS}
def forL0 (g : DG) (tb : DS) (E : DEnds) : List D → Rho → Store → Prop
  | [], ρ, S => E.nx ρ S
  | x :: r, ρ, S => g x ρ S fun ρ1 S1 => tb { E with nx := forL0 g tb E r, ct := forL0 g tb E r, bk := E.nx } ρ1 S1
@[irreducible] def forL (g : DG) (tb : DS) (E : DEnds) : List D → Rho → Store → Prop := forL0 g tb E
def sFor (di : DI) (g : DG) (tb : DS) : DS := fun E ρ S => di ρ S fun items S1 => forL g tb E items ρ S1
theorem forL_nil {g : DG} {tb : DS} {E : DEnds} {ρ : Rho} {S : Store} : forL g tb E [] ρ S = E.nx ρ S := by unfold forL; rfl
theorem forL_cons {g : DG} {tb : DS} {E : DEnds} {x : D} {r : List D} {ρ : Rho} {S : Store} : forL g tb E (x :: r) ρ S = g x ρ S fun ρ1 S1 => tb { E with nx := forL g tb E r, ct := forL g tb E r, bk := E.nx } ρ1 S1 := by unfold forL; rfl
theorem drop_of_get {α : Type} {l : List α} {i : Nat} (h : i < l.length) : ∃ x, l[i]? = some x ∧ l.drop i = x :: l.drop (i + 1) :=
  ⟨l[i], List.getElem?_eq_getElem h, List.drop_eq_getElem_cons h⟩
theorem ds_for {iter tg : Expr} {di : DI} {ws : List Nat} {g : DG} (hp : PassesOwn (model X.prog X.w) X.A X.env X.xe) (hc : X.calm = true) (hi : DIt X tg iter di) (hg : DGt X tg ws g) (hb : DSs X body u)
    (hs : ∀ x, foldedSetIterable iter X.env x = pure x := by intro _; rfl) : DSt X (.For tg iter body [] pos) (sFor di g u) := by
  obtain ⟨⟨wi, h1, h2⟩⟩ := hi
  obtain ⟨⟨g1, h3, h4⟩⟩ := hg
  obtain ⟨⟨ts, h5, h6⟩⟩ := hb
  refine ⟨_, ps_for hp hc h1 h3 h5 hs, fun α ρ S σ H E F so ro q k => ?_⟩
  refine h2 α ρ S σ H _ _ so ro q fun J H1 α1 ds S1 t1 so1 bd q1 hgo hstop hyld => ?_
  refine ⟨fun i m σ H => m = ds.length - i ∧ i ≤ ds.length ∧ ∃ α ρ S, Stp α1 H1 α H ∧ StoreOk X.K α H S ∧ RhoOk X.K α H ρ σ ∧ forL g u E (ds.drop i) ρ S, ⟨ds.length, by simp, Nat.zero_le _, α1, ρ, S1, Stp.refl _ _, so1, ro.stp t1, q1⟩, ?_⟩
  rintro i m σ2 H2 ⟨rfl, hi, α2, ρ2, S2, t2, so2, ro2, q2⟩
  by_cases hlt : i < ds.length
  · obtain ⟨d, hd, hdrop⟩ := drop_of_get hlt
    rw [hdrop, forL_cons] at q2
    refine Or.inr ⟨hgo i α2 H2 hlt t2, fun σ' H' => ∃ α ρ S, Stp α1 H1 α H' ∧ StoreOk X.K α H' S ∧ RhoOk X.K α H' ρ σ' ∧ forL g u E (ds.drop (i + 1)) ρ S, ?_, ?_⟩
    · rintro σ' H' ⟨α', ρ', S', z⟩
      exact ⟨ds.length - (i + 1), by omega, rfl, hlt, α', ρ', S', z⟩
    · intro x H3 hy
      obtain ⟨α3, t3, so3, r3⟩ := hyld i α2 H2 x H3 d hd t2 ⟨_, so2⟩ hy
      have t13 := t2.trans t3
      refine h4 α3 ρ2 S2 σ2 H3 x d _ _ (so3 S2 so2) (ro2.stp t3) r3 q2 fun σ4 H4 α4 ρ4 S4 _ t4 so4 ro4 q4 => ?_
      refine h6 α4 ρ4 S4 σ4 H4 _ _ so4 ro4 q4 ⟨?_, (k.stp (t1.trans (t13.trans t4))).rt, (k.stp (t1.trans (t13.trans t4))).nx, ?_⟩
      · intro σ5 H5 α5 ρ5 S5 t5 so5 ro5 q5
        exact ⟨α5, ρ5, S5, (t13.trans t4).trans t5, so5, ro5, q5⟩
      · intro σ5 H5 α5 ρ5 S5 t5 so5 ro5 q5
        exact ⟨α5, ρ5, S5, (t13.trans t4).trans t5, so5, ro5, q5⟩
  · have e : i = ds.length := by omega
    subst e
    rw [List.drop_length, forL_nil] at q2
    exact Or.inl ⟨hstop α2 H2 t2, k.nx σ2 H2 α2 ρ2 S2 (t1.trans t2) so2 ro2 q2⟩
/-- the loop by what holds behind i items -/
theorem forL_inv {g : DG} {tb : DS} {E : DEnds} (P : Nat → Rho → Store → Prop) : ∀ (items : List D) (i : Nat) (ρ : Rho) (S : Store), P i ρ S →
    (∀ j x ρ S, items[j]? = some x → P (i + j) ρ S → ∀ N : Rho → Store → Prop, (∀ ρ' S', P (i + j + 1) ρ' S' → N ρ' S') → g x ρ S fun ρ1 S1 => tb { E with nx := N, ct := N, bk := E.nx } ρ1 S1) →
    (∀ ρ S, P (i + items.length) ρ S → E.nx ρ S) → forL g tb E items ρ S
  | [], i, ρ, S, h0, _, hd => by rw [forL_nil]; exact hd ρ S h0
  | x :: r, i, ρ, S, h0, hs, hd => by
    rw [forL_cons]
    refine hs 0 x ρ S rfl h0 _ fun ρ' S' h1 => ?_
    refine forL_inv P r (i + 1) ρ' S' h1 (fun j y ρ S hj hp N hN => ?_) fun ρ S hp => hd ρ S ?_
    · have e : i + 1 + j = i + (j + 1) := by omega
      rw [e] at hp hN
      exact hs (j + 1) y ρ S (by simpa using hj) hp N hN
    · have e : i + 1 + r.length = i + (x :: r).length := by rw [List.length_cons]; omega
      rw [e] at hp
      exact hp

/-! ### list comprehensions -/
def wipeR (ρ : Rho) : List Nat → Rho
  | [] => ρ
  | v :: vs => clrR (wipeR ρ vs) v
where clrR : Rho → Nat → Rho
  | [], _ => []
  | _ :: r, 0 => none :: r
  | x :: r, n + 1 => x :: clrR r n
theorem clr_ok {K : PySem.W.Frag} {α : Locs} {H : Hp} : ∀ {ρ : Rho} {σ : L2.St} (i : Nat), RhoOk K α H ρ σ → RhoOk K α H (wipeR.clrR ρ i) (σ.set i none)
  | [], σ, i, h => by
    have h : σ = [] := h
    subst h; rfl
  | none :: ρ, σ, 0, ⟨x, u, e1, h⟩ => by
    subst e1
    exact ⟨none, u, rfl, h⟩
  | some d :: ρ, σ, 0, ⟨x, u, e1, _, h⟩ => by
    subst e1
    exact ⟨none, u, rfl, h⟩
  | none :: ρ, σ, i + 1, ⟨x, u, e1, h⟩ => by
    subst e1
    exact ⟨x, u.set i none, rfl, clr_ok i h⟩
  | some d :: ρ, σ, i + 1, ⟨x, u, e1, h1, h⟩ => by
    subst e1
    exact ⟨x, u.set i none, rfl, h1, clr_ok i h⟩
theorem wipe_ok {K : PySem.W.Frag} {α : Locs} {H : Hp} {ρ : Rho} {σ : L2.St} (h : RhoOk K α H ρ σ) : ∀ vs : List Nat, RhoOk K α H (wipeR ρ vs) (wipe σ vs)
  | [] => h
  | v :: vs => clr_ok v (wipe_ok h vs)
theorem wipe_get {σ : L2.St} {j : Nat} : ∀ {vs : List Nat}, (wipe σ vs)[j]? = if j ∈ vs then (if j < σ.length then some none else none) else σ[j]?
  | [] => by simp [wipe]
  | v :: vs => by
    unfold wipe
    rw [List.getElem?_set]
    by_cases e : v = j
    · subst e
      rw [if_pos rfl, wipe_length, if_pos List.mem_cons_self]
    · rw [if_neg e, wipe_get (vs := vs)]
      have : j ∈ v :: vs ↔ j ∈ vs := by
        rw [List.mem_cons]
        exact ⟨fun h => h.resolve_left fun z => e z.symm, Or.inr⟩
      by_cases h : j ∈ vs
      · rw [if_pos h, if_pos (this.mpr h)]
      · rw [if_neg h, if_neg fun z => h (this.mp z)]
theorem wipe_same {σ σ' : L2.St} {ws vs : List Nat} (h : SameBut ws (wipe σ vs) σ') (sub : ∀ i ∈ ws, i ∈ vs) : wipe σ' vs = wipe σ vs := by
  have hl : σ'.length = σ.length := h.1.trans (wipe_length σ vs)
  apply List.ext_getElem?
  intro j
  rw [wipe_get, wipe_get, hl]
  by_cases hj : j ∈ vs
  · rw [if_pos hj, if_pos hj]
  · rw [if_neg hj, if_neg hj, h.2 j (fun z => hj (sub j z)), wipe_get, if_neg hj]
/-- one item: kept with its element, or left out -/
def elemR (g : DG) (tt : DTt) (te : DT) (ρ : Rho) (x : D) (S : Store) (k : Option D → Store → Prop) : Prop :=
  g x ρ S fun ρ2 S2 => tt ρ2 S2 fun b S3 => (b = true → te ρ2 S3 fun y S4 => k (some y) S4) ∧ (b = false → k none S3)
def compL0 (n : Nat) (g : DG) (tt : DTt) (te : DT) (ρ : Rho) : List D → Store → (Store → Prop) → Prop
  | [], S, Q => Q S
  | x :: r, S, Q => elemR g tt te ρ x S fun o S4 => match o with
    | some y => ∃ acc, S4[n]? = some (.lst acc) ∧ acc.length < sizeLine ∧ compL0 n g tt te ρ r (S4.set n (.lst (acc ++ [y]))) Q
    | none => compL0 n g tt te ρ r S4 Q
@[irreducible] def compL (n : Nat) (g : DG) (tt : DTt) (te : DT) (ρ : Rho) : List D → Store → (Store → Prop) → Prop := compL0 n g tt te ρ
theorem compL_nil {n : Nat} {g : DG} {tt : DTt} {te : DT} {ρ : Rho} {S : Store} {Q : Store → Prop} : compL n g tt te ρ [] S Q = Q S := by unfold compL; rfl
theorem compL_cons {n : Nat} {g : DG} {tt : DTt} {te : DT} {ρ : Rho} {x : D} {r : List D} {S : Store} {Q : Store → Prop} : compL n g tt te ρ (x :: r) S Q = elemR g tt te ρ x S fun o S4 => match o with
    | some y => ∃ acc, S4[n]? = some (.lst acc) ∧ acc.length < sizeLine ∧ compL n g tt te ρ r (S4.set n (.lst (acc ++ [y]))) Q
    | none => compL n g tt te ρ r S4 Q := by
  unfold compL
  rfl
def dComp (di : DI) (g : DG) (tt : DTt) (te : DT) (vs : List Nat) : DT := fun ρ S Q => di ρ S fun items S1 => compL S1.length g tt te (wipeR ρ vs) items (S1 ++ [.lst []]) fun S2 => Q (.loc S1.length) S2
structure DTsts (X : Cx) (ifs : List Expr) (t : DTt) : Prop where
  ex : ∃ tt, PTs X ifs tt ∧ LiftT X.K tt t
def dYes : DTt := fun _ S Q => Q true S
theorem lift_comp {K : PySem.W.Frag} {wi : TI} {di : DI} {g : TG} {gd : DG} {tt : TT} {td : DTt} {te : TE} {t : DT} {ws vs : List Nat} (h2 : LiftI K wi di) (h4 : LiftG K ws g gd) (h6 : LiftT K tt td) (h8 : LiftE K te t) (sub : ∀ i ∈ ws, i ∈ vs) :
    LiftE K (tLc wi g tt te vs) (dComp di gd td t vs) := fun α ρ S σ H Q Q' so ro q k => by
  refine h2 α ρ S σ H _ _ so ro q fun J H1 α1 ds S1 t1 so1 bd q1 hgo hstop hyld => ?_
  intro DD hD
  have ta := Stp.push (α := α1) (o := HO.lst []) hD
  have soa := so1.push (o := .lst []) (ob := .lst []) hD ⟨[], upd_same, rfl⟩
  have hlen : α1.length = S1.length := so1.len
  have hloc : (α1 ++ [some DD])[S1.length]? = some (some DD) := by rw [← hlen]; simp
  refine ⟨fun i m H => m = ds.length - i ∧ i ≤ ds.length ∧ ∃ α S, Stp (α1 ++ [some DD]) (upd H1 DD (.lst [])) α H ∧ StoreOk K α H S ∧ compL S1.length gd td t (wipeR ρ vs) (ds.drop i) S (fun S2 => Q (.loc S1.length) S2), ⟨ds.length, by simp, Nat.zero_le _, _, _, Stp.refl _ _, soa, q1⟩, ?_⟩
  rintro i m H2 ⟨rfl, hi, α2, S2, t2, so2, q2⟩
  have t12 := (t1.trans ta).trans t2
  by_cases hlt : i < ds.length
  · obtain ⟨d, hd, hdrop⟩ := drop_of_get hlt
    rw [hdrop, compL_cons] at q2
    refine Or.inr ⟨hgo i α2 H2 hlt (ta.trans t2), fun H' => ∃ α S, Stp (α1 ++ [some DD]) (upd H1 DD (.lst [])) α H' ∧ StoreOk K α H' S ∧ compL S1.length gd td t (wipeR ρ vs) (ds.drop (i + 1)) S (fun S2 => Q (.loc S1.length) S2), ?_, ?_⟩
    · rintro H' ⟨α', S', z⟩
      exact ⟨ds.length - (i + 1), by omega, rfl, hlt, α', S', z⟩
    · intro x H3 hy
      obtain ⟨α3, t3, so3, r3⟩ := hyld i α2 H2 x H3 d hd (ta.trans t2) ⟨_, so2⟩ hy
      refine h4 α3 (wipeR ρ vs) S2 (wipe σ vs) H3 x d _ _ (so3 S2 so2) (wipe_ok (ro.stp (t12.trans t3)) vs) r3 q2 fun σ4 H4 α4 ρ4 S4 sb t4 so4 ro4 q4 => ⟨wipe_same sb sub, ?_⟩
      refine h6 α4 ρ4 S4 σ4 H4 _ _ so4 ro4 q4 fun bb H5 α5 S5 t5 so5 q5 => ?_
      have t25 := ((t2.trans t3).trans t4).trans t5
      cases bb with
      | true =>
        rw [if_pos rfl]
        refine h8 α5 ρ4 S5 σ4 H5 _ _ so5 (ro4.stp t5) (q5.1 rfl) fun y H6 α6 yd S6 t6 so6 r6 ⟨acc, hacc, hz, q6⟩ => ?_
        have hl6 : α6[S1.length]? = some (some DD) := (t25.trans t6).pre _ _ hloc
        obtain ⟨o, u, e1, e2, e3⟩ := so6.live hl6
        rw [hacc] at e1
        cases e1
        obtain ⟨xs, e4, e5⟩ := e2
        have tm := Stp.mut (u := HO.lst (xs ++ [y])) hl6 e4
        refine ⟨xs, e4, by rw [e5.len]; exact hz, α6, _, (t25.trans t6).trans tm, so6.set (ob := .lst (acc ++ [yd])) hl6 e4 ⟨_, upd_same, RpL.stp tm _ _ (RpL.append e5 (RpL.one r6))⟩, q6⟩
      | false =>
        rw [if_neg Bool.false_ne_true]
        exact ⟨α5, S5, t25, so5, q5.2 rfl⟩
  · have e : i = ds.length := by omega
    subst e
    rw [List.drop_length, compL_nil] at q2
    exact Or.inl ⟨hstop α2 H2 (ta.trans t2), k _ H2 α2 (.loc S1.length) S2 t12 so2 ⟨DD, rfl, t2.pre _ _ hloc⟩ q2⟩
theorem dts_nil : DTsts X [] dYes := ⟨_, pts_nil, fun α ρ S σ H Q Q' so ro q k => k true H α S (Stp.refl _ _) so q⟩
theorem dts_one (h : DTst X c tc) : DTsts X [c] tc := by
  obtain ⟨⟨tt, h1, h2⟩⟩ := h
  exact ⟨_, pts_one h1, h2⟩

/-! the one reading of a rule by data -/
def canonE (K : PySem.W.Frag) (t : DT) : TE := fun σ H Q' => ∃ α ρ S Q, StoreOk K α H S ∧ RhoOk K α H ρ σ ∧ t ρ S Q ∧ KE K α H Q Q'
theorem lift_canon {K : PySem.W.Frag} {t : DT} : LiftE K (canonE K t) t := fun α ρ S σ H Q Q' so ro q k => ⟨α, ρ, S, Q, so, ro, q, k⟩
theorem DE.pe (h : DE X e t) : PE X e (canonE X.K t) := by
  obtain ⟨⟨te, h1, h2⟩⟩ := h
  exact ⟨fun pins s σ H Q I ⟨α, ρ, S, Qd, so, ro, q, k⟩ => h1.run pins s σ H Q I (h2 α ρ S σ H Qd Q so ro q k)⟩
def canonT (K : PySem.W.Frag) (t : DTt) : TT := fun σ H Q' => ∃ α ρ S Q, StoreOk K α H S ∧ RhoOk K α H ρ σ ∧ t ρ S Q ∧ ∀ b H' α' S', Stp α H α' H' → StoreOk K α' H' S' → Q b S' → Q' b H'
theorem lift_canonT {K : PySem.W.Frag} {t : DTt} : LiftT K (canonT K t) t := fun α ρ S σ H Q Q' so ro q k => ⟨α, ρ, S, Q, so, ro, q, k⟩
theorem DTsts.pts {ifs : List Expr} (h : DTsts X ifs tc) : PTs X ifs (canonT X.K tc) := by
  obtain ⟨⟨te, h1, h2⟩⟩ := h
  exact ⟨fun pins s σ H Q I ⟨α, ρ, S, Qd, so, ro, q, k⟩ => h1.run pins s σ H Q I (h2 α ρ S σ H Qd Q so ro q k)⟩
def canonG (K : PySem.W.Frag) (ws : List Nat) (t : DG) : TG := fun v σ H Q' => ∃ α ρ S d Q, StoreOk K α H S ∧ RhoOk K α H ρ σ ∧ Rp K α H v d ∧ t d ρ S Q ∧
  ∀ σ' H' α' ρ' S', SameBut ws σ σ' → Stp α H α' H' → StoreOk K α' H' S' → RhoOk K α' H' ρ' σ' → Q ρ' S' → Q' σ' H'
theorem lift_canonG {K : PySem.W.Frag} {ws : List Nat} {t : DG} : LiftG K ws (canonG K ws t) t := fun α ρ S σ H v d Q Q' so ro r q k => ⟨α, ρ, S, d, Q, so, ro, r, q, k⟩
theorem DGt.pg {ws : List Nat} {g : DG} (h : DGt X e ws g) : PG X e (canonG X.K ws g) := by
  obtain ⟨⟨te, h1, h2⟩⟩ := h
  exact ⟨fun pins s σ H v u Q I rv ⟨α, ρ, S, d, Qd, so, ro, r, q, k⟩ => h1.run pins s σ H v u Q I rv (h2 α ρ S σ H v d Qd Q so ro r q k)⟩
theorem de_lc {elt tg iter : Expr} {ifs : List Expr} {scope : Scope} {own : List (Str × Nat)} {di : DI} {ws : List Nat} {g : DG} {tt : DTt} (hc : X.calm = true) (hN : X.N.Nodup) (hi : DIt X tg iter di) (ok : BlkOk X.N X.env.scope scope own)
    (hg : ∀ (s : Shared) (H : Hp) (C : Addr) (cl : List (Str × Addr)) (fp : List Addr), DGt (X.blk s H scope (compEnvC scope cl C X.env) fp) tg ws g) (ht : ∀ (s : Shared) (H : Hp) (C : Addr) (cl : List (Str × Addr)) (fp : List Addr), DTsts (X.blk s H scope (compEnvC scope cl C X.env) fp) ifs tt)
    (he : ∀ (s : Shared) (H : Hp) (C : Addr) (cl : List (Str × Addr)) (fp : List Addr), DE (X.blk s H scope (compEnvC scope cl C X.env) fp) elt t) (sub : ∀ i ∈ ws, i ∈ own.map (·.2) := by decide) (hs : ∀ x, foldedSetIterable iter X.env x = pure x := by intro _; rfl) :
    DE X (.ListComp elt [⟨tg, iter, ifs, 0⟩] scope pos) (dComp di g tt t (own.map (·.2))) := by
  obtain ⟨⟨wi, h1, h2⟩⟩ := hi
  exact ⟨_, pe_lc hc hN h1 ok (fun s H C cl fp => (hg s H C cl fp).pg) (fun s H C cl fp => (ht s H C cl fp).pts) (fun s H C cl fp => (he s H C cl fp).pe) hs, lift_comp h2 lift_canonG lift_canonT lift_canon sub⟩
theorem ds_setLc {i : Nat} {y : Str} {py : Pos} {elt tg iter : Expr} {ifs : List Expr} {scope : Scope} {own : List (Str × Nat)} {spos : Pos} {di : DI} {ws : List Nat} {g : DG} {tt : DTt} (hc : X.calm = true) (hN : X.N.Nodup) (hy : X.N[i]? = some y) (hyl : X.env.scope.names.lookup y = some .local)
    (hsw : swapsWith (.ListComp elt [⟨tg, iter, ifs, 0⟩] scope pos) (some (.Name y py)) spos.line X.env = pure true) (hi : DIt X tg iter di) (ok : BlkOk X.N X.env.scope scope own)
    (hg : ∀ (s : Shared) (H : Hp) (C : Addr) (cl : List (Str × Addr)) (fp : List Addr), DGt (X.blk s H scope (compEnvC scope cl C X.env) fp) tg ws g) (ht : ∀ (s : Shared) (H : Hp) (C : Addr) (cl : List (Str × Addr)) (fp : List Addr), DTsts (X.blk s H scope (compEnvC scope cl C X.env) fp) ifs tt)
    (he : ∀ (s : Shared) (H : Hp) (C : Addr) (cl : List (Str × Addr)) (fp : List Addr), DE (X.blk s H scope (compEnvC scope cl C X.env) fp) elt t) (sub : ∀ i ∈ ws, i ∈ own.map (·.2) := by decide) (hs : ∀ x, foldedSetIterable iter X.env x = pure x := by intro _; rfl) :
    DSt X (.Assign [.Name y py] (.ListComp elt [⟨tg, iter, ifs, 0⟩] scope pos) spos) (sAsg (dComp di g tt t (own.map (·.2))) (gdName i)) := by
  obtain ⟨⟨wi, h1, h2⟩⟩ := hi
  refine ⟨_, ps_setLc hc hN hy hyl hsw h1 ok (fun s H C cl fp => (hg s H C cl fp).pg) (fun s H C cl fp => (ht s H C cl fp).pts) (fun s H C cl fp => (he s H C cl fp).pe) hs, lift_asg (ws := [i]) (lift_comp h2 lift_canonG lift_canonT lift_canon sub) ?_⟩
  exact fun α ρ S σ H v d Q Q' so ro r q k => k _ H α _ S ⟨List.length_set .., fun j hj => List.getElem?_set_ne fun e => hj (by rw [e]; exact List.mem_singleton.mpr rfl)⟩ (Stp.refl _ _) so (RhoOk.set i r ro) q
/-- .. its list let go as a tree -/
theorem ds_setLcG {i : Nat} {y : Str} {py : Pos} {elt tg iter : Expr} {ifs : List Expr} {scope : Scope} {own : List (Str × Nat)} {spos : Pos} {di : DI} {ws : List Nat} {g : DG} {tt : DTt} (hc : X.calm = true) (hN : X.N.Nodup) (hy : X.N[i]? = some y) (hyl : X.env.scope.names.lookup y = some .local)
    (hsw : swapsWith (.ListComp elt [⟨tg, iter, ifs, 0⟩] scope pos) (some (.Name y py)) spos.line X.env = pure true) (hi : DIt X tg iter di) (ok : BlkOk X.N X.env.scope scope own)
    (hg : ∀ (s : Shared) (H : Hp) (C : Addr) (cl : List (Str × Addr)) (fp : List Addr), DGt (X.blk s H scope (compEnvC scope cl C X.env) fp) tg ws g) (ht : ∀ (s : Shared) (H : Hp) (C : Addr) (cl : List (Str × Addr)) (fp : List Addr), DTsts (X.blk s H scope (compEnvC scope cl C X.env) fp) ifs tt)
    (he : ∀ (s : Shared) (H : Hp) (C : Addr) (cl : List (Str × Addr)) (fp : List Addr), DE (X.blk s H scope (compEnvC scope cl C X.env) fp) elt t) (sub : ∀ i ∈ ws, i ∈ own.map (·.2) := by decide) (hs : ∀ x, foldedSetIterable iter X.env x = pure x := by intro _; rfl) :
    DSt X (.Assign [.Name y py] (.ListComp elt [⟨tg, iter, ifs, 0⟩] scope pos) spos) (sAsg (dGc (dComp di g tt t (own.map (·.2)))) (gdName i)) := by
  obtain ⟨⟨wi, h1, h2⟩⟩ := hi
  refine ⟨_, ps_setLc hc hN hy hyl hsw h1 ok (fun s H C cl fp => (hg s H C cl fp).pg) (fun s H C cl fp => (ht s H C cl fp).pts) (fun s H C cl fp => (he s H C cl fp).pe) hs, lift_asg (ws := [i]) (lift_gc (lift_comp h2 lift_canonG lift_canonT lift_canon sub)) ?_⟩
  exact fun α ρ S σ H v d Q Q' so ro r q k => k _ H α _ S ⟨List.length_set .., fun j hj => List.getElem?_set_ne fun e => hj (by rw [e]; exact List.mem_singleton.mpr rfl)⟩ (Stp.refl _ _) so (RhoOk.set i r ro) q
end

/-! ### a comprehension whose items are reckoned without a change of the store -/
theorem getElem_push (S : Store) (o : Ob) : (S ++ [o])[S.length]? = some o := by
  rw [List.getElem?_append_right (Nat.le_refl _)]; simp
theorem set_push (S : Store) (o u : Ob) : (S ++ [o]).set S.length u = S ++ [u] := by
  rw [List.set_append_right _ _ (Nat.le_refl _)]; simp
theorem take_push (S : Store) (ex : Store) : (S ++ ex).take S.length = S := by simp
theorem compL_pure {g : DG} {tt : DTt} {te : DT} {ρ : Rho} {S : Store} {Q : Store → Prop} (f : D → Option D) : ∀ (items acc : List D), (∀ x ∈ items, ∀ acc k, k (f x) (S ++ [.lst acc]) → elemR g tt te ρ x (S ++ [.lst acc]) k) →
    acc.length + items.length ≤ sizeLine → Q (S ++ [.lst (acc ++ items.filterMap f)]) → compL S.length g tt te ρ items (S ++ [.lst acc]) Q
  | [], acc, _, _, q => by
    rw [List.filterMap_nil, List.append_nil] at q
    rw [compL_nil]; exact q
  | x :: r, acc, h, hz, q => by
    rw [List.length_cons] at hz
    rw [compL_cons]
    refine h x List.mem_cons_self acc _ ?_
    cases e : f x with
    | none =>
      rw [List.filterMap_cons_none e] at q
      exact compL_pure f r acc (fun y hy => h y (List.mem_cons_of_mem _ hy)) (by omega) q
    | some y =>
      rw [List.filterMap_cons_some e] at q
      refine ⟨acc, getElem_push _ _, by omega, ?_⟩
      rw [set_push]
      refine compL_pure f r (acc ++ [y]) (fun y hy => h y (List.mem_cons_of_mem _ hy)) (by rw [List.length_append]; simp; omega) ?_
      rw [List.append_assoc]; exact q
theorem comp_gc {di : DI} {g : DG} {tt : DTt} {te : DT} {vs : List Nat} {ρ : Rho} {S : Store} {Q : DK} (items : List D) (f : D → Option D) (hi : ∀ P : List D → Store → Prop, P items S → di ρ S P)
    (h : ∀ x ∈ items, ∀ acc k, k (f x) (S ++ [.lst acc]) → elemR g tt te (wipeR ρ vs) x (S ++ [.lst acc]) k) (hz : items.length ≤ sizeLine) (hb : bndL S.length (items.filterMap f)) (q : Q (.lst (items.filterMap f)) S) : dGc (dComp di g tt te vs) ρ S Q := by
  refine hi _ ?_
  refine compL_pure f items [] h (by simpa using hz) ?_
  rw [List.nil_append]
  unfold Rt
  refine Or.inl ⟨CutOk.same, Or.inl ⟨_, Frz.lst (Nat.le_refl _) (getElem_push _ _) hb, ?_⟩⟩
  rw [take_push]; exact q
end DL

/-! DL, 6: == of data, is None, in, slices, + of sequences, attributes, calls of defs and methods, the def's own rule. -/
namespace DL
open PySem PySem.Spec PyProof.Rows L2

/-! ### data -/
mutual
def py : D → PyData
  | .non => .none | .bl b => .bool b | .int i => .int i | .str s => .str s
  | .tup ds => .tuple (pyL ds) | .lst ds => .list (pyL ds) | .scr ns => .list (ns.map PyData.int)
  | .dk _ => .dict [] | .dt _ => .dict [] | .obj _ _ => .dict [] | .loc _ => .dict [] | .cst _ => .dict [] | .ty _ => .dict []
def pyL : List D → List PyData
  | [] => []
  | d :: ds => py d :: pyL ds
end
/-- data through and through, at most n deep, of proper texts -/
def okD : Nat → D → Bool
  | _, .non => true | _, .bl _ => true | _, .int _ => true | _, .str s => PyData.strOk s
  | n + 1, .tup ds => ds.all (okD n) | n + 1, .lst ds => ds.all (okD n)
  | _, _ => false
theorem okD_lay : ∀ (n : Nat) (d : D), okD n d = true → (py d).canLay0 = true ∧ (py d).depth ≤ n
  | n, .non, _ => ⟨rfl, Nat.zero_le _⟩
  | n, .bl _, _ => ⟨rfl, Nat.zero_le _⟩
  | n, .int _, _ => ⟨rfl, Nat.zero_le _⟩
  | 0, .str s, h => ⟨h, Nat.zero_le _⟩
  | n + 1, .str s, h => ⟨h, Nat.zero_le _⟩
  | 0, .tup ds, h => by simp [okD] at h
  | 0, .lst ds, h => by simp [okD] at h
  | n + 1, .tup ds, h => by
    have h : ds.all (okD n) = true := h
    have key : ∀ ds : List D, ds.all (okD n) = true → PyData.canLayAll0 (pyL ds) = true ∧ PyData.depthAll (pyL ds) ≤ n := fun ds => by
      induction ds with
      | nil => intro _; exact ⟨rfl, Nat.zero_le _⟩
      | cons d ds ih =>
        intro h
        rw [List.all_cons, Bool.and_eq_true] at h
        obtain ⟨a1, a2⟩ := okD_lay n d h.1
        obtain ⟨b1, b2⟩ := ih h.2
        refine ⟨?_, ?_⟩
        · show (PyData.canLay0 (py d) && PyData.canLayAll0 (pyL ds)) = true
          rw [a1, b1]; rfl
        · show max (PyData.depth (py d)) (PyData.depthAll (pyL ds)) ≤ n
          omega
    obtain ⟨a, b⟩ := key ds h
    exact ⟨a, Nat.succ_le_succ b⟩
  | n + 1, .lst ds, h => by
    have h : ds.all (okD n) = true := h
    have key : ∀ ds : List D, ds.all (okD n) = true → PyData.canLayAll0 (pyL ds) = true ∧ PyData.depthAll (pyL ds) ≤ n := fun ds => by
      induction ds with
      | nil => intro _; exact ⟨rfl, Nat.zero_le _⟩
      | cons d ds ih =>
        intro h
        rw [List.all_cons, Bool.and_eq_true] at h
        obtain ⟨a1, a2⟩ := okD_lay n d h.1
        obtain ⟨b1, b2⟩ := ih h.2
        refine ⟨?_, ?_⟩
        · show (PyData.canLay0 (py d) && PyData.canLayAll0 (pyL ds)) = true
          rw [a1, b1]; rfl
        · show max (PyData.depth (py d)) (PyData.depthAll (pyL ds)) ≤ n
          omega
    obtain ⟨a, b⟩ := key ds h
    exact ⟨a, Nat.succ_le_succ b⟩
  | 0, .scr _, h => by simp [okD] at h
  | n + 1, .scr _, h => by simp [okD] at h
  | 0, .dk _, h => by simp [okD] at h
  | n + 1, .dk _, h => by simp [okD] at h
  | 0, .dt _, h => by simp [okD] at h
  | n + 1, .dt _, h => by simp [okD] at h
  | 0, .obj _ _, h => by simp [okD] at h
  | n + 1, .obj _ _, h => by simp [okD] at h
  | 0, .loc _, h => by simp [okD] at h
  | n + 1, .loc _, h => by simp [okD] at h
  | 0, .cst _, h => by simp [okD] at h
  | n + 1, .cst _, h => by simp [okD] at h
  | 0, .ty _, h => by simp [okD] at h
  | n + 1, .ty _, h => by simp [okD] at h
theorem okD_shaped {d : D} (h : okD 12 d = true) : SeqAt.shaped (py d) = true := by
  obtain ⟨a, b⟩ := okD_lay 12 d h
  show ((py d).canLay0 && decide ((py d).depth ≤ 64)) = true
  rw [a, decide_eq_true (show (py d).depth ≤ 64 by omega)]; rfl
section
variable {K : PySem.W.Frag} {α : Locs} {H : Hp}
theorem okD_dp : ∀ (n : Nat) (d : D) (v : V), okD n d = true → Rp K α H v d → Dp K H v (py d)
  | n, .non, v, _, r => by cases (show v = .non from r); exact Dp.non
  | n, .bl _, v, _, r => by cases (show v = .bl _ from r); exact Dp.bl _
  | n, .int _, v, _, r => by cases (show v = .int _ from r); exact Dp.int _
  | n, .str s, v, _, r => by cases (show v = .str _ from r); exact Dp.str _
  | 0, .tup ds, v, h, _ => by simp [okD] at h
  | 0, .lst ds, v, h, _ => by simp [okD] at h
  | n + 1, .tup ds, v, h, ⟨a, xs, e, hs, hr⟩ => by
    have h : ds.all (okD n) = true := h
    have key : ∀ (ds : List D) (xs : List V), ds.all (okD n) = true → RpL K α H xs ds → DpAll K H xs (pyL ds) := fun ds => by
      induction ds with
      | nil => intro xs _ r; cases (show xs = [] from r); exact DpAll.nil
      | cons d ds ih =>
        intro xs h r
        obtain ⟨v, t, e, r1, r2⟩ := r
        subst e
        rw [List.all_cons, Bool.and_eq_true] at h
        exact DpAll.cons (okD_dp n d v h.1 r1) (ih t h.2 r2)
    subst e
    exact Dp.tup hs.sq (key ds xs h hr)
  | n + 1, .lst ds, v, h, ⟨a, xs, e, hs, _, hr⟩ => by
    have h : ds.all (okD n) = true := h
    have key : ∀ (ds : List D) (xs : List V), ds.all (okD n) = true → RpL K α H xs ds → DpAll K H xs (pyL ds) := fun ds => by
      induction ds with
      | nil => intro xs _ r; cases (show xs = [] from r); exact DpAll.nil
      | cons d ds ih =>
        intro xs h r
        obtain ⟨v, t, e, r1, r2⟩ := r
        subst e
        rw [List.all_cons, Bool.and_eq_true] at h
        exact DpAll.cons (okD_dp n d v h.1 r1) (ih t h.2 r2)
    subst e
    exact Dp.lst (SqL.of hs) (key ds xs h hr)
  | 0, .scr _, v, h, _ => by simp [okD] at h
  | n + 1, .scr _, v, h, _ => by simp [okD] at h
  | 0, .dk _, v, h, _ => by simp [okD] at h
  | n + 1, .dk _, v, h, _ => by simp [okD] at h
  | 0, .dt _, v, h, _ => by simp [okD] at h
  | n + 1, .dt _, v, h, _ => by simp [okD] at h
  | 0, .obj _ _, v, h, _ => by simp [okD] at h
  | n + 1, .obj _ _, v, h, _ => by simp [okD] at h
  | 0, .loc _, v, h, _ => by simp [okD] at h
  | n + 1, .loc _, v, h, _ => by simp [okD] at h
  | 0, .cst _, v, h, _ => by simp [okD] at h
  | n + 1, .cst _, v, h, _ => by simp [okD] at h
  | 0, .ty _, v, h, _ => by simp [okD] at h
  | n + 1, .ty _, v, h, _ => by simp [okD] at h
/-- a list at a location as a tree -/
def res (S : Store) : D → D
  | .loc l => match S[l]? with
    | some (.lst ds) => .lst ds
    | _ => .loc l
  | d => d
theorem res_dp {S : Store} {d : D} {v : V} (so : StoreOk K α H S) (r : Rp K α H v d) (h : okD 12 (res S d) = true) : Dp K H v (py (res S d)) := by
  cases d with
  | loc l =>
    obtain ⟨a, e, ha⟩ := r
    obtain ⟨o, u, h1, h2, h3⟩ := so.live ha
    have er : res S (.loc l) = match (some o : Option Ob) with | some (.lst ds) => .lst ds | _ => .loc l := by
      show (match S[l]? with | some (.lst ds) => D.lst ds | _ => .loc l) = _
      rw [h1]
    rw [er] at h ⊢
    cases o with
    | lst ds =>
      obtain ⟨xs, h4, h5⟩ := h2
      subst e
      have key : ∀ (ds : List D) (xs : List V), ds.all (okD 11) = true → RpL K α H xs ds → DpAll K H xs (pyL ds) := fun ds => by
        induction ds with
        | nil => intro xs _ r; cases (show xs = [] from r); exact DpAll.nil
        | cons d ds ih =>
          intro xs h r
          obtain ⟨v, t, e, r1, r2⟩ := r
          subst e
          rw [List.all_cons, Bool.and_eq_true] at h
          exact DpAll.cons (okD_dp 11 d v h.1 r1) (ih t h.2 r2)
      exact Dp.lst (SqL.of h4) (key ds xs h h5)
    | _ => simp [okD] at h
  | _ => exact okD_dp 12 _ v h r
end
section
variable {X : Cx}
/-- a list at a location read as a tree -/
def onRes (d : D) (S : Store) (P : D → Prop) : Prop := match d with
  | .loc l => onOpt S[l]? fun o => match o with
    | .lst ds => P (.lst ds)
    | _ => False
  | d => P d
theorem onRes.dp {K : PySem.W.Frag} {α : Locs} {H : Hp} {S : Store} {d : D} {v : V} {P : D → Prop} (so : StoreOk K α H S) (r : Rp K α H v d) (h : onRes d S P) : ∃ d', P d' ∧ (okD 12 d' = true → Dp K H v (py d')) := by
  cases d with
  | loc l =>
    obtain ⟨o, ho, h⟩ : onOpt S[l]? fun o => match o with | .lst ds => P (.lst ds) | _ => False := h
    cases o with
    | lst ds =>
      have e : res S (.loc l) = .lst ds := by
        show (match S[l]? with | some (.lst ds) => D.lst ds | _ => .loc l) = _
        rw [ho]
      exact ⟨.lst ds, h, fun hk => by
        have := res_dp so r (by rw [e]; exact hk)
        rw [e] at this; exact this⟩
    | _ => exact h.elim
  | _ => exact ⟨_, h, fun hk => okD_dp 12 _ v hk r⟩
/-- == of data -/
def rdEq : RD := fun x y S Q => onRes x S fun x' => onRes y S fun y' => okD 12 x' = true ∧ okD 12 y' = true ∧ Q (.bl (PyData.eqv (py x') (py y'))) S
def rdNe : RD := fun x y S Q => onRes x S fun x' => onRes y S fun y' => okD 12 x' = true ∧ okD 12 y' = true ∧ Q (.bl (!PyData.eqv (py x') (py y'))) S
theorem od_eq (hu : X.A.units + 64 < cLine) : OpD X (compareOp .Eq) rdEq := ⟨_, op_eqD hu, fun α S H x y v u Q Q' so rx ry h k => by
  obtain ⟨x', h, dx⟩ := onRes.dp so rx h
  obtain ⟨y', ⟨h1, h2, q⟩, dy⟩ := onRes.dp so ry h
  exact ⟨_, _, dx h1, dy h2, okD_shaped h1, okD_shaped h2, k.bl so q⟩⟩
theorem od_ne (hu : X.A.units + 64 < cLine) : OpD X (compareOp .NotEq) rdNe := ⟨_, op_neD hu, fun α S H x y v u Q Q' so rx ry h k => by
  obtain ⟨x', h, dx⟩ := onRes.dp so rx h
  obtain ⟨y', ⟨h1, h2, q⟩, dy⟩ := onRes.dp so ry h
  exact ⟨_, _, dx h1, dy h2, okD_shaped h1, okD_shaped h2, k.bl so q⟩⟩
/-- == of two scalars: ints, texts -/
def rdEqI : RD := fun x y S Q => match x, y with
  | .int i, .int j => Q (.bl (decide (i = j))) S
  | .str i, .str j => Q (.bl (decide (i = j))) S
  | _, _ => False
def rdNeI : RD := fun x y S Q => match x, y with
  | .int i, .int j => Q (.bl (!decide (i = j))) S
  | .str i, .str j => Q (.bl (!decide (i = j))) S
  | _, _ => False
theorem dec_vint {i j : Int} : decide (V.int i = V.int j) = decide (i = j) := by simp
theorem dec_vstr {i j : Str} : decide (V.str i = V.str j) = decide (i = j) := by simp
theorem od_eqI : OpD X (compareOp .Eq) rdEqI := ⟨_, op_eq, fun α S H x y v u Q Q' so rx ry h k => by
  unfold rdEqI at h
  split at h
  · rename_i i j
    cases (show v = .int i from rx)
    cases (show u = .int j from ry)
    exact ⟨rfl, by rw [dec_vint]; exact k.bl so h⟩
  · rename_i i j
    cases (show v = .str i from rx)
    cases (show u = .str j from ry)
    exact ⟨rfl, by rw [dec_vstr]; exact k.bl so h⟩
  · exact h.elim⟩
theorem od_neI : OpD X (compareOp .NotEq) rdNeI := ⟨_, op_ne, fun α S H x y v u Q Q' so rx ry h k => by
  unfold rdNeI at h
  split at h
  · rename_i i j
    cases (show v = .int i from rx)
    cases (show u = .int j from ry)
    exact ⟨rfl, by rw [dec_vint]; exact k.bl so h⟩
  · rename_i i j
    cases (show v = .str i from rx)
    cases (show u = .str j from ry)
    exact ⟨rfl, by rw [dec_vstr]; exact k.bl so h⟩
  · exact h.elim⟩
/-- is None -/
def isNon : D → Bool
  | .non => true
  | _ => false
theorem isNon_rp {K : PySem.W.Frag} {α : Locs} {H : Hp} {v : V} {d : D} (r : Rp K α H v d) : decide (v = .non) = isNon d := by
  cases d with
  | non => cases (show v = .non from r); rfl
  | bl b => cases (show v = .bl b from r); rfl
  | int b => cases (show v = .int b from r); rfl
  | str b => cases (show v = .str b from r); rfl
  | ty b => cases (show v = .ty b from r); rfl
  | cst b => cases (show v = .ref b from r); rfl
  | tup ds => obtain ⟨a, xs, e, _⟩ := r; subst e; rfl
  | lst ds => obtain ⟨a, xs, e, _⟩ := r; subst e; rfl
  | dk ds => obtain ⟨a, xs, e, _⟩ := r; subst e; rfl
  | dt ds => obtain ⟨a, xs, e, _⟩ := r; subst e; rfl
  | obj C ds => obtain ⟨a, _, xs, e, _⟩ := r; subst e; rfl
  | loc l => obtain ⟨a, e, _⟩ := r; subst e; rfl
  | scr ns => obtain ⟨a, e, _⟩ := r; subst e; rfl
def rdIsN : RD := fun x y S Q => match y with
  | .non => Q (.bl (isNon x)) S
  | _ => False
def rdNotN : RD := fun x y S Q => match y with
  | .non => Q (.bl (!isNon x)) S
  | _ => False
theorem od_isN : OpD X (compareOp .Is) rdIsN := ⟨_, op_isN, fun α S H x y v u Q Q' so rx ry h k => by
  cases y with
  | non => exact ⟨ry, by rw [isNon_rp rx]; exact k.bl so h⟩
  | _ => exact h.elim⟩
theorem od_notN : OpD X (compareOp .IsNot) rdNotN := ⟨_, op_notN, fun α S H x y v u Q Q' so rx ry h k => by
  cases y with
  | non => exact ⟨ry, by rw [isNon_rp rx]; exact k.bl so h⟩
  | _ => exact h.elim⟩
/-- x in a list of data -/
def onLstR (d : D) (S : Store) (P : List D → Prop) : Prop := match d with
  | .lst ds => P ds
  | .loc l => onOpt S[l]? fun o => match o with
    | .lst ds => P ds
    | _ => False
  | _ => False
theorem onLstR.ex {d : D} {S : Store} {P : List D → Prop} (h : onLstR d S P) : ∃ ds, res S d = .lst ds ∧ P ds := by
  cases d with
  | lst ds => exact ⟨ds, rfl, h⟩
  | loc l =>
    obtain ⟨o, ho, h⟩ : onOpt S[l]? fun o => match o with | .lst ds => P ds | _ => False := h
    cases o with
    | lst ds =>
      refine ⟨ds, ?_, h⟩
      show (match S[l]? with | some (.lst ds) => D.lst ds | _ => .loc l) = _
      rw [ho]
    | _ => exact h.elim
  | _ => exact h.elim
theorem pyL_any (d : PyData) : ∀ ds : List D, (pyL ds).any (fun z => PyData.eqv z d) = ds.any fun z => PyData.eqv (py z) d
  | [] => rfl
  | x :: ds => by
    show ((py x).eqv d || (pyL ds).any _) = _
    rw [pyL_any d ds]; rfl
def inD (x : D) (ds : List D) : Bool := ds.any fun z => PyData.eqv (py z) (py x)
def rdIn : RD := fun x y S Q => onLstR y S fun ds => okD 12 x = true ∧ ds.all (okD 11) = true ∧ Q (.bl (inD x ds)) S
def rdNotIn : RD := fun x y S Q => onLstR y S fun ds => okD 12 x = true ∧ ds.all (okD 11) = true ∧ Q (.bl (!inD x ds)) S
theorem od_in (hu : X.A.units + 65 < cLine) : OpD X (compareOp .In) rdIn := ⟨_, op_inD hu, fun α S H x y v u Q Q' so rx ry h k => by
  obtain ⟨ds, e, h1, h2, q⟩ := h.ex
  have hok : okD 12 (res S y) = true := by rw [e]; exact h2
  have dy := res_dp so ry hok
  have sy := okD_shaped hok
  rw [e] at dy sy
  exact ⟨py x, pyL ds, okD_dp 12 x v h1 rx, dy, okD_shaped h1, sy, by rw [pyL_any]; exact k.bl so q⟩⟩
theorem od_notIn (hu : X.A.units + 65 < cLine) : OpD X (compareOp .NotIn) rdNotIn := ⟨_, op_notInD hu, fun α S H x y v u Q Q' so rx ry h k => by
  obtain ⟨ds, e, h1, h2, q⟩ := h.ex
  have hok : okD 12 (res S y) = true := by rw [e]; exact h2
  have dy := res_dp so ry hok
  have sy := okD_shaped hok
  rw [e] at dy sy
  exact ⟨py x, pyL ds, okD_dp 12 x v h1 rx, dy, okD_shaped h1, sy, by rw [pyL_any]; exact k.bl so q⟩⟩
/-- x in a tuple of scalars -/
def flatD : D → Bool
  | .non => true | .bl _ => true | .int _ => true | .str _ => true
  | _ => false
theorem flat_V {K : PySem.W.Frag} {α : Locs} {H : Hp} {v : V} {d : D} (r : Rp K α H v d) (h : flatD d = true) : flatV v = true := by
  cases d with
  | non => cases (show v = .non from r); rfl
  | bl b => cases (show v = .bl b from r); rfl
  | int b => cases (show v = .int b from r); rfl
  | str b => cases (show v = .str b from r); rfl
  | _ => simp [flatD] at h
theorem eqV_py {K : PySem.W.Frag} {α : Locs} {H : Hp} {v w : V} {d e : D} (r : Rp K α H v d) (r' : Rp K α H w e) (h : flatD d = true) (h' : flatD e = true) : eqV v w = PyData.eqv (py d) (py e) := by
  cases d with
  | non => 
    cases (show v = .non from r)
    cases e with
    | non => cases (show w = .non from r'); rfl
    | bl b => cases (show w = .bl b from r'); rfl
    | int b => cases (show w = .int b from r'); rfl
    | str b => cases (show w = .str b from r'); rfl
    | _ => simp [flatD] at h'
  | bl b =>
    cases (show v = .bl b from r)
    cases e with
    | non => cases (show w = .non from r'); rfl
    | bl b => cases (show w = .bl b from r'); rfl
    | int b => cases (show w = .int b from r'); rfl
    | str b => cases (show w = .str b from r'); rfl
    | _ => simp [flatD] at h'
  | int b =>
    cases (show v = .int b from r)
    cases e with
    | non => cases (show w = .non from r'); rfl
    | bl b => cases (show w = .bl b from r'); rfl
    | int b => cases (show w = .int b from r'); rfl
    | str b => cases (show w = .str b from r'); rfl
    | _ => simp [flatD] at h'
  | str b =>
    cases (show v = .str b from r)
    cases e with
    | non => cases (show w = .non from r'); rfl
    | bl b => cases (show w = .bl b from r'); rfl
    | int b => cases (show w = .int b from r'); rfl
    | str b => cases (show w = .str b from r'); rfl
    | _ => simp [flatD] at h'
  | _ => simp [flatD] at h
end
end DL

/-! DL, 7: in a tuple, slices, + of sequences, attributes, methods, calls, the def's own rule. -/
namespace DL
open PySem PySem.Spec PyProof.Rows L2
section
variable {X : Cx}
theorem flatL {K : PySem.W.Frag} {α : Locs} {H : Hp} : ∀ {ds : List D} {xs : List V}, RpL K α H xs ds → ds.all flatD = true → xs.all flatV = true
  | [], xs, r, _ => by cases (show xs = [] from r); rfl
  | d :: ds, xs, ⟨v, t, e, r1, r2⟩, h => by
    subst e
    rw [List.all_cons, Bool.and_eq_true] at h ⊢
    exact ⟨flat_V r1 h.1, flatL r2 h.2⟩
theorem inV_D {K : PySem.W.Frag} {α : Locs} {H : Hp} {v : V} {d : D} (r : Rp K α H v d) (hf : flatD d = true) : ∀ {ds : List D} {xs : List V}, RpL K α H xs ds → ds.all flatD = true → inV v xs = inD d ds
  | [], xs, r', _ => by cases (show xs = [] from r'); rfl
  | e :: ds, xs, ⟨w, t, ee, r1, r2⟩, h => by
    subst ee
    rw [List.all_cons, Bool.and_eq_true] at h
    show (eqV w v || inV v t) = (PyData.eqv (py e) (py d) || inD d ds)
    rw [eqV_py r1 r h.1 hf, inV_D r hf r2 h.2]
/-- x in (..) of scalars -/
def rdInT : RD := fun x y S Q => onSeq y S fun ds => flatD x = true ∧ ds.all flatD = true ∧ Q (.bl (inD x ds)) S
def rdNotInT : RD := fun x y S Q => onSeq y S fun ds => flatD x = true ∧ ds.all flatD = true ∧ Q (.bl (!inD x ds)) S
theorem od_inT : OpD X (compareOp .In) rdInT := ⟨_, op_in_seq, fun α S H x y v u Q Q' so rx ry h k => by
  obtain ⟨a, xs, ds, rfl, hs, hr, h1, h2, q⟩ := onSeq.rp so ry h
  refine ⟨a, xs, rfl, hs, flat_V rx h1, flatL hr h2, ?_⟩
  show Q' (.bl (inV v xs)) H
  rw [inV_D rx h1 hr h2]
  exact k.bl so q⟩
theorem od_notInT : OpD X (compareOp .NotIn) rdNotInT := ⟨_, op_notIn_seq, fun α S H x y v u Q Q' so rx ry h k => by
  obtain ⟨a, xs, ds, rfl, hs, hr, h1, h2, q⟩ := onSeq.rp so ry h
  refine ⟨a, xs, rfl, hs, flat_V rx h1, flatL hr h2, ?_⟩
  show Q' (.bl (!inV v xs)) H
  rw [inV_D rx h1 hr h2]
  exact k.bl so q⟩

/-! ### + of sequences, texts -/
def rdCat : RD := fun x y S Q => match x, y with
  | .tup ds, .tup es => ds.length + es.length ≤ sizeLine ∧ Q (.tup (ds ++ es)) S
  | _, _ => False
theorem RpL.nil_iff {K : PySem.W.Frag} {α : Locs} {H : Hp} {ds : List D} {xs : List V} (r : RpL K α H xs ds) : xs = [] ↔ ds = [] := by
  have h := r.len
  constructor
  · rintro rfl
    exact List.length_eq_zero_iff.mp h.symm
  · rintro rfl
    exact List.length_eq_zero_iff.mp h
theorem od_cat : OpD X (binaryOp .Add) rdCat := ⟨_, op_catA, fun α S H x y v u Q Q' so rx ry h k => by
  unfold rdCat at h
  split at h
  · rename_i ds es
    obtain ⟨a, xs, rfl, hx, rx⟩ := rx
    obtain ⟨b, ys, rfl, hy, ry⟩ := ry
    refine ⟨a, b, xs, ys, rfl, rfl, hx.sq, hy.sq, by rw [rx.len, ry.len]; exact h.1, fun e => ?_, fun _ e => ?_, fun _ _ p hp => ?_⟩
    · have e2 := rx.nil_iff.mp e
      subst e2
      exact k.val (d := .tup es) so ⟨b, ys, rfl, hy, ry⟩ h.2
    · have e2 := ry.nil_iff.mp e
      subst e2
      rw [List.append_nil] at h
      exact k.val (d := .tup ds) so ⟨a, xs, rfl, hx, rx⟩ h.2
    · obtain ⟨t2, so2, r2⟩ := new_tup so (RpL.append rx ry) hp
      exact k _ _ α _ S t2 so2 r2 h.2
  · exact h.elim⟩
def rdCatL : RD := fun x y S Q => onLstR x S fun ds => onLstR y S fun es => ds.length + es.length ≤ sizeLine ∧ Q (.loc S.length) (S ++ [.lst (ds ++ es)])
theorem onLstR.rp {K : PySem.W.Frag} {α : Locs} {H : Hp} {S : Store} {d : D} {v : V} {P : List D → Prop} (so : StoreOk K α H S) (r : Rp K α H v d) (h : onLstR d S P) : ∃ a xs ds, v = .ref a ∧ H a = some (.lst xs) ∧ RpL K α H xs ds ∧ P ds := by
  obtain ⟨ds, e, h⟩ := h.ex
  cases d with
  | lst es =>
    have e0 : es = ds := D.lst.inj e
    subst e0
    obtain ⟨a, xs, e, hs, _, hr⟩ := r
    exact ⟨a, xs, es, e, hs, hr, h⟩
  | loc l =>
    obtain ⟨a, e2, ha⟩ := r
    obtain ⟨o, u, h1, h2, h3⟩ := so.live ha
    have e' : (match S[l]? with | some (.lst ds) => D.lst ds | _ => .loc l) = .lst ds := e
    rw [h1] at e'
    cases o with
    | lst es =>
      have e0 : es = ds := D.lst.inj e'
      subst e0
      obtain ⟨xs, h4, h5⟩ := h2
      exact ⟨a, xs, es, e2, h4, h5, h⟩
    | _ => cases e'
  | _ => cases e
theorem od_catL : OpD X (binaryOp .Add) rdCatL := ⟨_, op_cat, fun α S H x y v u Q Q' so rx ry h k => by
  obtain ⟨a, xs, ds, rfl, hx, rx, h⟩ := h.rp so rx
  obtain ⟨b, ys, es, rfl, hy, ry, hz, q⟩ := onLstR.rp so ry h
  refine ⟨a, b, xs, ys, rfl, rfl, hx, hy, by rw [rx.len, ry.len]; exact hz, fun p hp => ?_⟩
  obtain ⟨t2, so2, r2⟩ := new_lst so (RpL.append rx ry) hp
  exact k _ _ _ _ _ t2 so2 r2 q⟩
def rdCatS : RD := fun x y S Q => match x, y with
  | .str i, .str j => i.length + j.length ≤ sizeLine ∧ Q (.str (i ++ j)) S
  | _, _ => False
theorem od_catS : OpD X (binaryOp .Add) rdCatS := ⟨_, op_add_str, fun α S H x y v u Q Q' so rx ry h k => by
  unfold rdCatS at h
  split at h
  · rename_i i j
    exact ⟨i, j, rx, ry, h.1, k.str so h.2⟩
  · exact h.elim⟩

/-! ### slices -/
abbrev DO := Rho → Store → (Option Int → Store → Prop) → Prop
def LiftO (K : PySem.W.Frag) (to : TO) (t : DO) : Prop :=
  ∀ α ρ S σ H (Q : Option Int → Store → Prop) (Q' : Option Int → Hp → Prop), StoreOk K α H S → RhoOk K α H ρ σ → t ρ S Q →
    (∀ o H' α' S', Stp α H α' H' → StoreOk K α' H' S' → Q o S' → Q' o H') → to σ H Q'
structure DOp (X : Cx) (e : Option Expr) (t : DO) : Prop where
  ex : ∃ to, PO X e to ∧ LiftO X.K to t
def dNoPart : DO := fun _ S Q => Q none S
def dPart (t : DT) : DO := fun ρ S Q => t ρ S fun d S1 => onInt d fun i => Q (some i) S1
theorem do_none : DOp X none dNoPart := ⟨_, po_none, fun α ρ S σ H Q Q' so ro q k => k none H α S (Stp.refl _ _) so q⟩
theorem do_some {e : Expr} {t : DT} (h : DE X e t) : DOp X (some e) (dPart t) := by
  obtain ⟨⟨te, h1, h2⟩⟩ := h
  refine ⟨_, po_some h1, fun α ρ S σ H Q Q' so ro q k => ?_⟩
  refine h2 α ρ S σ H _ _ so ro q fun v H1 α1 d S1 t1 so1 r1 q1 => ?_
  obtain ⟨i, rfl, rfl, q2⟩ := onInt.rp r1 q1
  exact ⟨i, rfl, k _ H1 α1 S1 t1 so1 q2⟩
def cutD (ds : List D) (lo hi : Option Int) : List D := (ds.drop (HT.sIx ds.length 0 lo)).take (HT.sIx ds.length ds.length hi - HT.sIx ds.length 0 lo)
theorem cut_rp {K : PySem.W.Frag} {α : Locs} {H : Hp} {ds : List D} {xs : List V} {lo hi : Option Int} (r : RpL K α H xs ds) : RpL K α H (cutV xs lo hi) (cutD ds lo hi) := by
  unfold cutV cutD
  rw [r.len]
  exact RpL.take _ (RpL.drop _ r)
theorem cut_whole {ds : List D} {lo hi : Option Int} (h : HT.sIx ds.length 0 lo = 0 ∧ HT.sIx ds.length ds.length hi = ds.length) : cutD ds lo hi = ds := by
  unfold cutD
  rw [h.1, h.2, List.drop_zero, Nat.sub_zero, List.take_length]
/-- t[lo:hi] -/
def dSlT (te : DT) (tl th : DO) : DT := fun ρ S Q => te ρ S fun d S1 => tl ρ S1 fun lo S2 => th ρ S2 fun hi S3 => onTup d fun ds => Q (.tup (cutD ds lo hi)) S3
theorem de_slT {e : Expr} {lo hi : Option Expr} {p2 pos : Pos} {te : DT} {tl th : DO} (he : DE X e te) (hl : DOp X lo tl) (hu : DOp X hi th) : DE X (.Subscript e (.Slice lo hi none p2) pos) (dSlT te tl th) := by
  obtain ⟨⟨t1, h1, h2⟩⟩ := he
  obtain ⟨⟨t2, h3, h4⟩⟩ := hl
  obtain ⟨⟨t3, h5, h6⟩⟩ := hu
  refine ⟨_, pe_slice sl_tupA h1 h3 h5, fun α ρ S σ H Q Q' so ro q k => ?_⟩
  refine h2 α ρ S σ H _ _ so ro q fun v H1 α1 d S1 t1 so1 r1 q1 => ?_
  refine h4 α1 ρ S1 σ H1 _ _ so1 (ro.stp t1) q1 fun o H2 α2 S2 t2 so2 q2 => ?_
  refine h6 α2 ρ S2 σ H2 _ _ so2 (ro.stp (t1.trans t2)) q2 fun o' H3 α3 S3 t3 so3 q3 => ?_
  cases d with
  | tup ds =>
    have r3 : Rp X.K α3 H3 v (.tup ds) := Rp.stp (t2.trans t3) _ _ r1
    obtain ⟨a, xs, rfl, hx, hr⟩ := r3
    have t13 := (t1.trans t2).trans t3
    refine ⟨a, xs, rfl, hx.sq, fun hw => ?_, fun hw p hp => ?_⟩
    · rw [hr.len] at hw
      refine k _ H3 α3 _ S3 t13 so3 ?_ q3
      rw [cut_whole hw]
      exact ⟨a, xs, rfl, hx, hr⟩
    · obtain ⟨t4, so4, r4⟩ := new_tup so3 (cut_rp (lo := o) (hi := o') hr) hp
      exact k _ _ α3 _ S3 (t13.trans t4) so4 r4 q3
  | _ => exact q3.elim
/-- xs[lo:hi], a new list -/
def dSlL (te : DT) (tl th : DO) : DT := fun ρ S Q => te ρ S fun d S1 => tl ρ S1 fun lo S2 => th ρ S2 fun hi S3 => onLst d S3 fun ds => Q (.loc S3.length) (S3 ++ [.lst (cutD ds lo hi)])
theorem de_slL {e : Expr} {lo hi : Option Expr} {p2 pos : Pos} {te : DT} {tl th : DO} (he : DE X e te) (hl : DOp X lo tl) (hu : DOp X hi th) : DE X (.Subscript e (.Slice lo hi none p2) pos) (dSlL te tl th) := by
  obtain ⟨⟨t1, h1, h2⟩⟩ := he
  obtain ⟨⟨t2, h3, h4⟩⟩ := hl
  obtain ⟨⟨t3, h5, h6⟩⟩ := hu
  refine ⟨_, pe_slice sl_list h1 h3 h5, fun α ρ S σ H Q Q' so ro q k => ?_⟩
  refine h2 α ρ S σ H _ _ so ro q fun v H1 α1 d S1 t1 so1 r1 q1 => ?_
  refine h4 α1 ρ S1 σ H1 _ _ so1 (ro.stp t1) q1 fun o H2 α2 S2 t2 so2 q2 => ?_
  refine h6 α2 ρ S2 σ H2 _ _ so2 (ro.stp (t1.trans t2)) q2 fun o' H3 α3 S3 t3 so3 q3 => ?_
  obtain ⟨a, xs, ds, rfl, hx, hr, q4⟩ := onLst.rp so3 (Rp.stp (t2.trans t3) _ _ r1) q3
  have t13 := (t1.trans t2).trans t3
  refine ⟨a, xs, rfl, hx, fun p hp => ?_⟩
  obtain ⟨t4, so4, r4⟩ := new_lst so3 (cut_rp (lo := o) (hi := o') hr) hp
  exact k _ _ _ _ _ (t13.trans t4) so4 r4 q4

/-! ### methods of lists -/
variable {e o value : Expr} {es : List Expr} {pos apos cpos p : Pos} {t tv : DT} {td : DA}
/-- the list at a location, whatever is done to it -/
def onLoc (d : D) (S : Store) (P : Nat → List D → Prop) : Prop := match d with
  | .loc l => onOpt S[l]? fun o => match o with
    | .lst ds => P l ds
    | _ => False
  | _ => False
theorem onLoc.rp {K : PySem.W.Frag} {α : Locs} {H : Hp} {S : Store} {d : D} {v : V} {P : Nat → List D → Prop} (so : StoreOk K α H S) (r : Rp K α H v d) (h : onLoc d S P) :
    ∃ l a xs ds, d = .loc l ∧ v = .ref a ∧ α[l]? = some (some a) ∧ S[l]? = some (.lst ds) ∧ H a = some (.lst xs) ∧ RpL K α H xs ds ∧ P l ds := by
  cases d with
  | loc l =>
    obtain ⟨a, e2, ha⟩ := r
    obtain ⟨o, u, h1, h2, h3⟩ := so.live ha
    obtain ⟨o', ho, h⟩ : onOpt S[l]? fun o => match o with | .lst ds => P l ds | _ => False := h
    rw [h1] at ho
    cases ho
    cases o with
    | lst ds =>
      obtain ⟨xs, h4, h5⟩ := h2
      exact ⟨l, a, xs, ds, rfl, e2, ha, h1, h4, h5, h⟩
    | _ => exact h.elim
  | _ => exact h.elim
/-- o.append(e) -/
def dAppend (to : DT) (te : DT) : DT := fun ρ S Q => to ρ S fun x S1 => (∃ l ds, x = .loc l ∧ S1[l]? = some (.lst ds)) ∧ te ρ S1 fun y S2 => onLoc x S2 fun l ds => ds.length < sizeLine ∧ Q .non (S2.set l (.lst (ds ++ [y])))
theorem de_append (ho : DE X o t) (he : DE X e tv)
    (hbase : attributeBase o "append" X.env (eval o X.env) = eval o X.env := by rfl)
    (hfew : ((backTo cpos (starEach (e :: []) X.env)).all (fun x => !x.1) && (backToKw cpos (keywordEach [] X.env)).all (fun x => x.1.isSome)
      && decide ((e :: []).length + ([] : List Keyword).length + (if ([] : List Keyword).isEmpty then 0 else 1) < 30)) = true := by rfl)
    (hline : (apos.endLine == cpos.line) = true := by rfl) (hs : starEach (e :: []) X.env = (false, eval e X.env) :: starEach [] X.env := by rfl) (hplain : (backTo cpos (starEach [] X.env)).any (·.1) = false := by rfl) :
    DE X (.Call (.Attribute o "append" apos) [e] [] cpos) (dAppend t tv) := by
  obtain ⟨⟨t1, h1, h2⟩⟩ := ho
  obtain ⟨⟨t2, h3, h4⟩⟩ := he
  refine ⟨_, pe_bm PySem.F.plainAttrs_list PySem.F.slot_list_append PySem.F.type_list_append mt_append h1 (pa_cons h3 pa_nil hs) hbase hfew hline hs hplain, fun α ρ S σ H Q Q' so ro q k => ?_⟩
  refine h2 α ρ S σ H _ _ so ro q fun v H1 α1 x S1 t1 so1 r1 qq => ?_
  obtain ⟨⟨l, ds, rfl, hl⟩, q1⟩ := qq
  obtain ⟨a, e2, ha⟩ := id r1
  obtain ⟨xs, hx, _⟩ := so1.ob l a _ ha hl
  subst e2
  refine ⟨Or.inl ⟨rfl, xs, SqL.of hx⟩, ?_⟩
  refine h4 α1 ρ S1 σ H1 _ _ so1 (ro.stp t1) q1 fun y H2 α2 yd S2 t2 so2 r2 q2 => ?_
  obtain ⟨l', a', xs', ds', e3, e4, hl', hs', hx', hr', hz, q3⟩ := onLoc.rp so2 (Rp.stp t2 _ _ r1) q2
  cases e4
  cases e3
  have tm := Stp.mut (u := HO.lst (xs' ++ [y])) hl' hx'
  refine ⟨a, xs', y, rfl, rfl, hx', by rw [hr'.len]; exact hz, ?_⟩
  exact k _ _ α2 .non _ ((t1.trans t2).trans tm) (so2.set (ob := .lst (ds' ++ [yd])) hl' hx' ⟨_, upd_same, RpL.stp tm _ _ (RpL.append hr' (RpL.one r2))⟩) rfl q3
/-- xs[i] = e -/
def gdSet (to ti : DT) : DG := fun d ρ S Q => to ρ S fun x S1 => ti ρ S1 fun y S2 => onInt y fun i => onLoc x S2 fun l ds => onOpt (ixN ds.length i) fun j => Q ρ (S2.set l (.lst (ds.set j d)))
theorem dg_set {i : Expr} {ti : DT} (ho : DE X o t) (hi : DE X i ti)
    (ha : ∀ v, assign (.Subscript o i pos) X.env v = (do
      let ov ← holding [v] (eval o X.env)
      let iv ← holding [v, ov] (eval i X.env)
      standAt pos
      holding [v, ov, iv] (setItem ov iv v)
      release [v, ov, iv] []) := by intro _; rfl) : DGt X (.Subscript o i pos) [] (gdSet t ti) := by
  obtain ⟨⟨t1, h1, h2⟩⟩ := ho
  obtain ⟨⟨t2, h3, h4⟩⟩ := hi
  refine ⟨_, pg_sub h1 h3 set_list ha, fun α ρ S σ H v d Q Q' so ro r q k => ?_⟩
  refine h2 α ρ S σ H _ _ so ro q fun ov H1 α1 x S1 t1 so1 r1 q1 => ?_
  refine h4 α1 ρ S1 σ H1 _ _ so1 (ro.stp t1) q1 fun iv H2 α2 y S2 t2 so2 r2 q2 => ?_
  obtain ⟨i, rfl, rfl, q2⟩ := onInt.rp r2 q2
  obtain ⟨l, a, xs, ds, rfl, rfl, hl, hs, hx, hr, q3⟩ := onLoc.rp so2 (Rp.stp t2 _ _ r1) q2
  obtain ⟨j, hj, q4⟩ := onOpt.ex q3
  have tm := Stp.mut (u := HO.lst (xs.set j v)) hl hx
  refine ⟨a, xs, i, j, rfl, rfl, hx, by rw [hr.len]; exact hj, ?_⟩
  have t12 := (t1.trans t2)
  exact k σ _ α2 ρ _ (SameBut.refl _ _) (t12.trans tm) (so2.set (ob := .lst (ds.set j d)) hl hx ⟨_, upd_same, RpL.stp tm _ _ (RpL.set j (Rp.stp t12 _ _ r) hr)⟩) (ro.stp (t12.trans tm)) q4

/-! ### attributes -/
def onObj (C : Addr) (d : D) (S : Store) (P : List (Str × D) → Prop) : Prop := match d with
  | .obj C' fs => C' = C ∧ P fs
  | .loc l => onOpt S[l]? fun o => match o with
    | .ins C' fs => C' = C ∧ P fs
    | _ => False
  | _ => False
theorem onObj.rp {K : PySem.W.Frag} {α : Locs} {H : Hp} {S : Store} {C : Addr} {d : D} {v : V} {P : List (Str × D) → Prop} (so : StoreOk K α H S) (r : Rp K α H v d) (h : onObj C d S P) : ∃ a dx xs fs, v = .ref a ∧ H a = some (.ins C dx xs) ∧ RpF K α H xs fs ∧ P fs := by
  cases d with
  | obj C' fs =>
    obtain ⟨a, dx, xs, e, hs, _, hr⟩ := r
    obtain ⟨rfl, h⟩ := h
    exact ⟨a, dx, xs, fs, e, hs, hr, h⟩
  | loc l =>
    obtain ⟨a, e2, ha⟩ := r
    obtain ⟨o, u, h1, h2, h3⟩ := so.live ha
    obtain ⟨o', ho, hh⟩ : onOpt S[l]? fun o => match o with | .ins C' fs => C' = C ∧ P fs | _ => False := h
    rw [h1] at ho
    cases ho
    cases o with
    | ins C' fs =>
      obtain ⟨rfl, hq⟩ := hh
      obtain ⟨dx, xs, h4, h5⟩ := h2
      exact ⟨a, dx, xs, fs, e2, h4, h5, hq⟩
    | _ => exact hh.elim
  | _ => exact h.elim
/-- e.f -/
def dFld (C : Addr) (t : DT) (f : Str) : DT := fun ρ S Q => t ρ S fun d S1 => onObj C d S1 fun fs => onOpt (fs.lookup f) fun v => Q v S1
theorem de_fld {C : Addr} {f : Str} (he : DE X e t) (c : Cls X.K C) (n : NoAttr X.K C f) (hb : attributeBase e f X.env (eval e X.env) = eval e X.env := by rfl) : DE X (.Attribute e f pos) (dFld C t f) := by
  obtain ⟨⟨t1, h1, h2⟩⟩ := he
  refine ⟨_, pe_fld h1 hb, fun α ρ S σ H Q Q' so ro q k => ?_⟩
  refine h2 α ρ S σ H _ _ so ro q fun v H1 α1 x S1 t1 so1 r1 q1 => ?_
  obtain ⟨a, dx, xs, fs, rfl, hx, hr, q2⟩ := onObj.rp so1 r1 q1
  obtain ⟨d, hd, q3⟩ := onOpt.ex q2
  obtain ⟨w, hw, rw'⟩ := hr.lookup hd
  exact ⟨a, C, dx, xs, w, rfl, hx, c, n, hw, (k.stp t1).val so1 rw' q3⟩
/-- e.f, a constant of the class -/
def dCon (C : Addr) (t : DT) (f : Str) (v : D) : DT := fun ρ S Q => t ρ S fun d S1 => onObj C d S1 fun fs => fs.lookup f = none ∧ Q v S1
theorem de_con {C : Addr} {f : Str} {v : V} {d : D} {u : Value} (he : DE X e t) (c : Cls X.K C) (n : Con X.K C f v u) (hv : ∀ α H, Rp X.K α H v d) (hb : attributeBase e f X.env (eval e X.env) = eval e X.env := by rfl) : DE X (.Attribute e f pos) (dCon C t f d) := by
  obtain ⟨⟨t1, h1, h2⟩⟩ := he
  refine ⟨_, pe_con h1 hb, fun α ρ S σ H Q Q' so ro q k => ?_⟩
  refine h2 α ρ S σ H _ _ so ro q fun w H1 α1 x S1 t1 so1 r1 q1 => ?_
  obtain ⟨a, dx, xs, fs, rfl, hx, hr, hn, q2⟩ := onObj.rp so1 r1 q1
  exact ⟨a, C, dx, xs, v, u, rfl, hx, c, n, hr.lookup_none hn, (k.stp t1).val so1 (hv _ _) q2⟩
theorem RpF.put {K : PySem.W.Frag} {α : Locs} {H : Hp} {f : Str} {v : V} {d : D} (r : Rp K α H v d) : ∀ {fs : List (Str × D)} {xs : List (Str × V)}, RpF K α H xs fs → RpF K α H (putF f v xs) (putD f d fs)
  | [], xs, h => by
    cases (show xs = [] from h)
    exact ⟨v, [], rfl, r, rfl⟩
  | (g, e) :: fs, xs, ⟨w, t, ee, h1, h2⟩ => by
    subst ee
    show RpF K α H (if g = f then (g, v) :: t else (g, w) :: putF f v t) (if g = f then (g, d) :: fs else (g, e) :: putD f d fs)
    by_cases hg : g = f
    · rw [if_pos hg, if_pos hg]
      exact ⟨v, t, rfl, r, h2⟩
    · rw [if_neg hg, if_neg hg]
      exact ⟨w, _, rfl, h1, RpF.put r h2⟩
/-- o.f = value, o an instance at a location -/
def sFldD (C : Addr) (to tv : DT) (f : Str) : DS := fun E ρ S => tv ρ S fun y S1 => to ρ S1 fun x S2 => match x with
  | .loc l => onOpt S2[l]? fun ob => match ob with
    | .ins C' fs => C' = C ∧ fs.length < 1000 ∧ E.nx ρ (S2.set l (.ins C (putD f y fs)))
    | _ => False
  | _ => False
theorem ds_fld {C : Addr} {f : Str} {pos' : Pos} (ho : DE X o t) (hv : DE X value tv) (c : Cls X.K C) (n : NoAttr X.K C f) (hs : swapsWith value (some (.Attribute o f pos')) pos.line X.env = pure false := by rfl) : DSt X (.Assign [.Attribute o f pos'] value pos) (sFldD C t tv f) := by
  obtain ⟨⟨t1, h1, h2⟩⟩ := ho
  obtain ⟨⟨t2, h3, h4⟩⟩ := hv
  refine ⟨_, ps_fld h1 h3 hs, fun α ρ S σ H E F so ro q k => ?_⟩
  refine h4 α ρ S σ H _ _ so ro q fun y H1 α1 yd S1 t1 so1 r1 q1 => ?_
  refine h2 α1 ρ S1 σ H1 _ _ so1 (ro.stp t1) q1 fun x H2 α2 xd S2 t2 so2 r2 q2 => ?_
  cases xd with
  | loc l =>
    obtain ⟨a, rfl, ha⟩ := r2
    obtain ⟨ob, u, e1, e2, e3⟩ := so2.live ha
    obtain ⟨o', ho, q2⟩ : onOpt S2[l]? fun ob => match ob with | .ins C' fs => C' = C ∧ fs.length < 1000 ∧ E.nx ρ (S2.set l (.ins C (putD f yd fs))) | _ => False := q2
    rw [e1] at ho
    cases ho
    cases ob with
    | ins C' fs =>
      obtain ⟨rfl, hz, q3⟩ := q2
      obtain ⟨dx, xs, h5, h6⟩ := e2
      have tm := Stp.mut (u := HO.ins C' dx (putF f y xs)) ha h5
      refine ⟨a, C', dx, xs, rfl, h5, c, n, by rw [h6.len]; exact hz, ?_⟩
      exact k.nx σ _ α2 ρ _ ((t1.trans t2).trans tm) (so2.set (ob := .ins C' (putD f yd fs)) ha h5 ⟨dx, _, upd_same, RpF.stp tm _ _ (RpF.put (Rp.stp t2 _ _ r1) h6)⟩) (ro.stp ((t1.trans t2).trans tm)) q3
    | _ => exact q2.elim
  | _ => exact q2.elim

/-! ### what a def promises, by data -/
abbrev DXk := Addr → List (Str × D) → Store → Prop
abbrev DSp := List D → Store → DK → DXk → Prop
def XRp (K : PySem.W.Frag) (α : Locs) (H : Hp) (od : Option Addr) (fs : List (Str × D)) : Prop := match od with
  | none => fs = []
  | some d => ∃ xs, H d = some (.xd xs) ∧ Off α d ∧ RpF K α H xs fs
def KX (K : PySem.W.Frag) (α : Locs) (H : Hp) (Ed : DXk) (E : XK) : Prop :=
  ∀ C od H' α' S' fs, Stp α H α' H' → StoreOk K α' H' S' → XRp K α' H' od fs → Ed C fs S' → E (.ref C) od H'
def noX : DXk := fun _ _ _ => False
theorem KX.no {K : PySem.W.Frag} {α : Locs} {H : Hp} {E : XK} : KX K α H noX E := fun _ _ _ _ _ _ _ _ _ h => h.elim
def spOf (K : PySem.W.Frag) (n : Nat) (dsp : DSp) : Sp := fun vs H Q E => vs.length = n ∧ ∃ α S ds Qd Ed, StoreOk K α H S ∧ RpL K α H vs ds ∧ dsp ds S Qd Ed ∧ KE K α H Qd Q ∧ KX K α H Ed E
/-- f(..) -/
def dCall (dsp : DSp) (dds : List D) (t : DA) : DT := fun ρ S Q => t ρ S fun ds S1 => dsp (ds ++ dds) S1 Q noX
section
variable {CX : CXT} {k n : Nat} {f C : Addr} {fd : FuncData} {ps : List Str} {dsp : DSp} {dvs : List V} {dds : List D} {dfs : List Value} {x m : Str}
theorem lift_call {K : PySem.W.Frag} {ta : TA} (h : LiftA K ta td) (hd : ∀ α H, RpL K α H dvs dds) (hn : ∀ ds S Q E, dsp ds S Q E → ds.length = n) : LiftE K (tCall (spOf K n dsp) dvs E0 ta) (dCall dsp dds td) := fun α ρ S σ H Q Q' so ro q k => by
  refine h α ρ S σ H _ _ so ro q fun vs H1 α1 ds S1 t1 so1 r1 q1 => ?_
  have r2 := RpL.append r1 (hd α1 H1)
  exact ⟨by rw [r2.len]; exact hn _ _ _ _ q1, α1, S1, _, Q, noX, so1, r2, q1, k.stp t1, KX.no⟩
theorem de_call (F : FnOk X.prog X.w X.K X.mg X.base CX k f fd ps (spOf X.K n dsp)) (hr : Room k X.A) (hg : Gl X x) (hm : X.mg x = some (.ref f)) (hk : PySem.W.keepIn X.K (.ref f) = true) (hb : Binds X.K fd ps dfs) (hd : Vals dvs dfs) (hdd : ∀ α H, RpL X.K α H dvs dds) (hx : Passes CX X E0) (hn : ∀ ds S Q E, dsp ds S Q E → ds.length = n)
    (ha : DAs X (e :: es) td) (hdb : (x == ("__debug__" : Str)) = false := by decide) (he : starEach (e :: es) X.env = (false, eval e X.env) :: starEach es X.env := by rfl) (hpl : (backTo pos (starEach es X.env)).any (·.1) = false := by rfl) :
    DE X (.Call (.Name x p) (e :: es) [] pos) (dCall dsp dds td) := by
  obtain ⟨⟨t1, h1, h2⟩⟩ := ha
  exact ⟨_, pe_call F hr hg hm hk hb hd hx h1 hdb he hpl, lift_call h2 hdd hn⟩
/-- o.m(..) -/
def dMeth (C : Addr) (m : Str) (dsp : DSp) (dds : List D) (to : DT) (t : DA) : DT := fun ρ S Q => to ρ S fun x S1 => onObj C x S1 fun fs => fs.lookup m = none ∧ t ρ S1 fun ds S2 => dsp (x :: (ds ++ dds)) S2 Q noX
theorem lift_meth {K : PySem.W.Frag} {ta : TA} {te : TE} {to : DT} (h0 : LiftE K te to) (h : LiftA K ta td) (hd : ∀ α H, RpL K α H dvs dds) (hn : ∀ ds S Q E, dsp ds S Q E → ds.length = n) : LiftE K (tMeth C m (spOf K n dsp) dvs E0 te ta) (dMeth C m dsp dds to td) := fun α ρ S σ H Q Q' so ro q k => by
  refine h0 α ρ S σ H _ _ so ro q fun v H1 α1 x S1 t1 so1 r1 q1 => ?_
  obtain ⟨a, dx, xs, fs, rfl, hx, hr, hno, q2⟩ := onObj.rp so1 r1 q1
  refine ⟨a, dx, xs, rfl, hx, hr.lookup_none hno, ?_⟩
  refine h α1 ρ S1 σ H1 _ _ so1 (ro.stp t1) q2 fun vs H2 α2 ds S2 t2 so2 r2 q3 => ?_
  have r3 : RpL K α2 H2 (.ref a :: (vs ++ dvs)) (x :: (ds ++ dds)) := ⟨_, _, rfl, Rp.stp t2 _ _ r1, RpL.append r2 (hd α2 H2)⟩
  exact ⟨by rw [r3.len]; exact hn _ _ _ _ q3, α2, S2, _, Q, noX, so2, r3, q3, k.stp (t1.trans t2), KX.no⟩
theorem de_meth {pl : Sem Bool} (ho : DE X o t) (c : Cls X.K C) (hm : Meth X.K C m f) (F : FnOk X.prog X.w X.K X.mg X.base CX k f fd ps (spOf X.K n dsp)) (hr : Room k X.A) (hb : Binds X.K fd ps dfs) (hd : Vals dvs dfs) (hdd : ∀ α H, RpL X.K α H dvs dds) (hx : Passes CX X E0) (hn : ∀ ds S Q E, dsp ds S Q E → ds.length = n) (ha : DAs X (e :: es) td)
    (hst : starEach (e :: es) X.env = (false, eval e X.env) :: starEach es X.env := by rfl) (hpl : (backTo pos (starEach es X.env)).any (·.1) = false := by rfl)
    (ht : eval (.Call (.Attribute o m apos) (e :: es) [] pos) X.env = (do
      let ov ← eval o X.env
      standAt apos.atName
      let (f, first) ← holding [ov] (getMethod ov m pl)
      callWith pos f first (backTo pos (starEach (e :: es) X.env)) (backToKw pos (keywordEach [] X.env))) := by rfl) :
    DE X (.Call (.Attribute o m apos) (e :: es) [] pos) (dMeth C m dsp dds t td) := by
  obtain ⟨⟨t0, h0, h0'⟩⟩ := ho
  obtain ⟨⟨t1, h1, h2⟩⟩ := ha
  exact ⟨_, pe_meth h0 c hm F hr hb hd hx h1 hst hpl ht, lift_meth h0' h2 hdd hn⟩
theorem de_meth0 {pl : Sem Bool} (ho : DE X o t) (c : Cls X.K C) (hm : Meth X.K C m f) (F : FnOk X.prog X.w X.K X.mg X.base CX k f fd ps (spOf X.K n dsp)) (hr : Room k X.A) (hb : Binds X.K fd ps dfs) (hd : Vals dvs dfs) (hdd : ∀ α H, RpL X.K α H dvs dds) (hx : Passes CX X E0) (hn : ∀ ds S Q E, dsp ds S Q E → ds.length = n)
    (ht : eval (.Call (.Attribute o m apos) [] [] pos) X.env = (do
      let ov ← eval o X.env
      standAt apos.atName
      let (f, first) ← holding [ov] (getMethod ov m pl)
      callWith pos f first (backTo pos (starEach [] X.env)) (backToKw pos (keywordEach [] X.env))) := by rfl) :
    DE X (.Call (.Attribute o m apos) [] [] pos) (dMeth C m dsp dds t dNil) := by
  obtain ⟨⟨t0, h0, h0'⟩⟩ := ho
  exact ⟨_, pe_meth0 h0 c hm F hr hb hd hx ht, lift_meth h0' (fun α ρ S σ H Q Q' so ro q k => k [] H α [] S (Stp.refl _ _) so rfl q) hdd hn⟩
/-- C(..) by its __init__ -/
def dMake (C : Addr) (dsp : DSp) (dds : List D) (t : DA) : DT := fun ρ S Q => t ρ S fun ds S1 => dsp (.loc S1.length :: (ds ++ dds)) (S1 ++ [.ins C []]) (fun v S2 => v = .non ∧ Q (.loc S1.length) S2) noX
theorem lift_make {K : PySem.W.Frag} {ta : TA} (h : LiftA K ta td) (hd : ∀ α H, RpL K α H dvs dds) (hn : ∀ ds S Q E, dsp ds S Q E → ds.length = n) : LiftE K (tMake C (spOf K n dsp) dvs E0 ta) (dMake C dsp dds td) := fun α ρ S σ H Q Q' so ro q k => by
  refine h α ρ S σ H _ _ so ro q fun vs H1 α1 ds S1 t1 so1 r1 q1 x dx hx hdx hne => ?_
  have hx2 : upd H1 dx (.own x) x = none := by rw [upd_ne (Ne.symm hne)]; exact hx
  have t2 : Stp α1 H1 (α1 ++ [some x]) (upd (upd H1 dx (.own x)) x (.ins C dx [])) := (Stp.new_ hdx).trans (Stp.push hx2)
  have so2 : StoreOk K (α1 ++ [some x]) (upd (upd H1 dx (.own x)) x (.ins C dx [])) (S1 ++ [.ins C []]) := (so1.grow (keep_new hdx)).push (ob := .ins C []) hx2 ⟨dx, [], upd_same, rfl⟩
  have hl : (α1 ++ [some x])[S1.length]? = some (some x) := by rw [← so1.len]; simp
  have r3 : RpL K (α1 ++ [some x]) (upd (upd H1 dx (.own x)) x (.ins C dx [])) (.ref x :: (vs ++ dvs)) (.loc S1.length :: (ds ++ dds)) := ⟨_, _, rfl, ⟨x, rfl, hl⟩, RpL.append (RpL.stp t2 _ _ r1) (hd _ _)⟩
  refine ⟨by rw [r3.len]; exact hn _ _ _ _ q1, _, _, _, _, noX, so2, r3, q1, fun v H' α' d S' t' so' r' ⟨e, q'⟩ => ?_, KX.no⟩
  subst e
  refine ⟨r', k (.ref x) H' α' (.loc S1.length) S' (t1.trans (t2.trans t')) so' ⟨x, rfl, t'.pre _ _ hl⟩ q'⟩
end
end

/-! ### a def of the text -/
def startR : Nat → List D → Rho
  | 0, _ => []
  | n + 1, [] => none :: startR n []
  | n + 1, d :: ds => some d :: startR n ds
theorem startR_ok {K : PySem.W.Frag} {α : Locs} {H : Hp} : ∀ {n : Nat} {ds : List D} {vs : List V}, RpL K α H vs ds → ds.length ≤ n → RhoOk K α H (startR n ds) (vs.map some ++ List.replicate (n - vs.length) none)
  | 0, [], vs, r, _ => by cases (show vs = [] from r); rfl
  | 0, d :: ds, vs, r, h => by simp at h
  | n + 1, [], vs, r, _ => by
    cases (show vs = [] from r)
    refine ⟨none, List.replicate n none, ?_, ?_⟩
    · simp [List.replicate_succ]
    · have := startR_ok (K := K) (α := α) (H := H) (n := n) (ds := []) (vs := []) rfl (Nat.zero_le _)
      simpa using this
  | n + 1, d :: ds, vs, ⟨v, t, e, r1, r2⟩, h => by
    subst e
    rw [List.length_cons] at h
    refine ⟨v, _, rfl, r1, ?_⟩
    have := startR_ok (n := n) r2 (by omega)
    have e2 : n + 1 - (v :: t).length = n - t.length := by rw [List.length_cons]; omega
    rw [e2]
    exact this
theorem Rt.pure {S ex : Store} {Q : DK} {d : D} (hb : bnd S.length d) (q : Q d S) : Rt S Q d (S ++ ex) := by
  unfold Rt
  exact Or.inl ⟨CutOk.same, Or.inl ⟨d, .same hb, by rw [take_push]; exact q⟩⟩
theorem Rt.same {S : Store} {Q : DK} {d : D} (hb : bnd S.length d) (q : Q d S) : Rt S Q d S := by
  have h := Rt.pure (ex := []) hb q
  rw [List.append_nil] at h
  exact h
/-- a new list, handed on as a location -/
theorem Rt.loc {S : Store} {Q : DK} {ob : Ob} (hb : bndO S.length ob) (q : Q (.loc S.length) (S ++ [ob])) : Rt S Q (.loc S.length) (S ++ [ob]) := by
  unfold Rt
  exact Or.inl ⟨CutOk.same, Or.inr ⟨_, ob, rfl, Nat.le_refl _, getElem_push _ _, hb, by rw [take_push]; exact q⟩⟩
section
variable {P : Program} {w : World} {K : PySem.W.Frag} {mg : Str → Option Value} {base : Heap} {x qual : Str} {st : Stmt} {f : Addr} {fd : FuncData} {N ps : List Str} {k : Nat} {dsp : DSp} {t : DS}
theorem dfn_ok (F : Fun K x qual st f fd) (S : FnScope N ps (defScope st)) (hlen : ∀ ds S Q E, dsp ds S Q E → ds.length = ps.length)
    (hbody : ∀ (cdv : Value) (A : Around) (outer : List Env) (s : Shared) (H : Hp) (E : XK), Room k (A.deeper (envOfC qual (defScope st) s.heap.objs.size f cdv)) → DSs (cxOf CX0 P w K mg base N qual (defScope st) f cdv A outer s H E).nox (defBody st) t)
    (spec : ∀ ds S Q E, bndL S.length ds → dsp ds S Q E → t { nx := fun _ S' => Rt S Q .non S', rt := Rt S Q } (startR N.length ds) S) : FnOk P w K mg base CX0 (k + 1) f fd ps (spOf K ps.length dsp) := by
  refine F.ok S (fun vs H Q E h => h.1) fun cdv A outer s H vs Q E hr h => ?_
  obtain ⟨hl, α, S0, ds, Qd, Ed, so, r, hd, ke, kx⟩ := h
  obtain ⟨⟨ts, h1, h2⟩⟩ := hbody cdv A outer s H E hr
  refine ⟨ts, h1, ?_⟩
  have hpl : ps.length ≤ N.length := by have := congrArg List.length S.pre; rw [List.length_take] at this; omega
  have hds : ds.length ≤ N.length := by rw [hlen _ _ _ _ hd]; exact hpl
  have fin : ∀ v H' α' d S', Stp α H α' H' → StoreOk K α' H' S' → Rp K α' H' v d → Rt S0 Qd d S' → Q v H' := fun v H' α' d S' t' so' r' q => Rt.fin so t' so' r' q ke
  have bd : bndL S0.length ds := by rw [← so.len]; exact r.bnd
  refine h2 α (startR N.length ds) S0 (start N vs) H _ _ so (startR_ok r hds) (spec ds S0 Qd Ed bd hd) ⟨?_, fin, fun _ _ _ _ _ _ _ _ z => z.elim, fun _ _ _ _ _ _ _ _ z => z.elim⟩
  intro σ' H' α' ρ' S' t' so' ro' q
  exact fin .non H' α' .non S' t' so' rfl q
end
end DL

/-! DL, 8: small things: the store changed at one place, sizes, the sources of the laws' draws. -/
namespace DL
open PySem L2
theorem rpl_nil {K : PySem.W.Frag} : ∀ (α : Locs) (H : Hp), RpL K α H [] [] := fun _ _ => rfl
theorem set_same {S : Store} {l : Nat} {o o' : Ob} (h : S[l]? = some o) : (S.set l o')[l]? = some o' := List.getElem?_set_self (List.getElem?_eq_some_iff.mp h).1
theorem set_other {S : Store} {l m : Nat} {o o' : Ob} (h : S[m]? = some o) (hne : l ≠ m) : (S.set l o')[m]? = some o := by
  rw [List.getElem?_set_ne hne]; exact h
theorem app_left {S X : Store} {l : Nat} {o : Ob} (h : S[l]? = some o) : (S ++ X)[l]? = some o := by
  rw [List.getElem?_append_left (List.getElem?_eq_some_iff.mp h).1]; exact h
theorem set_set {S : Store} {l : Nat} {o o' : Ob} : (S.set l o).set l o' = S.set l o' := List.set_set ..
theorem CutOk.set {S : Store} {l : Nat} {o : Ob} (h : bndO S.length o) : CutOk S (S.set l o) := fun l' o' hl e => by
  by_cases q : l' = l
  · subst q
    rw [List.getElem?_set_self hl] at e
    cases e
    exact Or.inr h
  · rw [List.getElem?_set_ne (Ne.symm q)] at e
    exact Or.inl e
theorem Rt.set {S : Store} {Q : DK} {l : Nat} {o : Ob} {d : D} (hb : bnd S.length d) (ho : bndO S.length o) (q : Q d (S.set l o)) : Rt S Q d (S.set l o) := by
  unfold Rt
  exact Or.inl ⟨CutOk.set ho, Or.inl ⟨d, .same hb, by rw [List.take_of_length_le (by rw [List.length_set]; exact Nat.le_refl _)]; exact q⟩⟩
/-! sizes -/
theorem line_le {n : Nat} (h : n ≤ 1000) : n ≤ sizeLine := Nat.le_trans h (by decide)
theorem line_lt {n : Nat} (h : n ≤ 1000) : n < sizeLine := Nat.lt_of_le_of_lt h (by decide)
theorem powW {i j : Int} {b : Nat} (hj : 0 ≤ j) (hi : i.natAbs < 2 ^ b) (hb : 0 < b) (h : (b : Int) * j ≤ 2 ^ 27) : CPowW i j := by
  refine ⟨hj, ?_⟩
  have h2 : (PySem.Builtin.Int.intBits i : Int) ≤ (b : Int) := by
    unfold PySem.Builtin.Int.intBits
    split
    · omega
    · rename_i hz
      have := PySem.Flt.log2_lt_of hb hi
      omega
  exact Int.le_trans (Int.mul_le_mul_of_nonneg_right h2 hj) h
theorem divW {i j : Int} {b : Nat} (h : 0 < j) (hb : j.natAbs < 2 ^ b) (h0 : 0 < b) (h9 : b ≤ 9000) : CDivW i j := wide_div h hb h0 h9
theorem abs_lt {i : Int} {n : Nat} (h0 : 0 ≤ i) (h : i < (2 : Int) ^ n) : i.natAbs < 2 ^ n := by
  have e : ((2 : Int) ^ n) = ((2 ^ n : Nat) : Int) := by simp
  rw [e] at h
  omega
theorem mulS {i j : Int} (h1 : -(2 ^ 100) < i ∧ i < 2 ^ 100) (h2 : -(2 ^ 100) < j ∧ j < 2 ^ 100) : CMulW i j := wide_mul (a := 100) (b := 100) (by omega) (by omega) (by decide) (by decide) (by decide)
theorem divS {i j : Int} (h : 0 < j ∧ j < 2 ^ 100) : CDivW i j := divW (b := 100) h.1 (by omega) (by decide) (by decide)
/-! -x -/
def dNeg (t : DT) : DT := fun ρ S Q => t ρ S fun d S1 => onInt d fun i => Q (.int (-i)) S1
theorem de_neg {X : Cx} {a : Expr} {pos : Pos} {t : DT} (h : DE X a t) : DE X (.UnaryOp .USub a pos) (dNeg t) := by
  obtain ⟨⟨t1, h1, h2⟩⟩ := h
  refine ⟨_, pe_un un_neg h1, fun α ρ S σ H Q Q' so ro q k => ?_⟩
  refine h2 α ρ S σ H _ _ so ro q fun v H1 α1 x S1 t1 so1 r1 q1 => ?_
  obtain ⟨i, rfl, rfl, q2⟩ := onInt.rp r1 q1
  exact ⟨i, rfl, (k.stp t1).int so1 q2⟩
theorem hu65 {k : Nat} {A : Around} (r : Room k A) : A.units + 65 < cLine := by have := r.un; omega
/-! in -/
theorem inD_nil (x : D) : inD x [] = false := rfl
theorem inD_int_cons (x a : Int) (ds : List D) : inD (.int x) (.int a :: ds) = (decide (a = x) || inD (.int x) ds) := by
  show ((a == x) || inD (.int x) ds) = _
  rw [Bool.beq_eq_decide_eq]
/-! a source of numbers: what stands at its location -/
def Src (n : Nat) (o : Ob) : Prop := ∃ a b c : Int, o = .lst [.int a, .int b, .int c] ∧ 0 ≤ a ∧ 0 ≤ b ∧ b < 2 ^ 200 ∧ 0 ≤ c ∧ c ≤ (n : Int)
theorem Src.mono {n m : Nat} {o : Ob} (h : Src n o) (hm : n ≤ m) : Src m o := by
  obtain ⟨a, b, c, e, h1, h2, h3, h4, h5⟩ := h
  exact ⟨a, b, c, e, h1, h2, h3, h4, by omega⟩
theorem Src.bnd {n m : Nat} {o : Ob} (h : Src n o) : bndO m o := by
  obtain ⟨a, b, c, rfl, _⟩ := h
  exact ⟨trivial, trivial, trivial, trivial⟩
def SrcAt (S : Store) (l n : Nat) : Prop := ∃ o, S[l]? = some o ∧ Src n o
theorem SrcAt.app {S X : Store} {l n : Nat} (h : SrcAt S l n) : SrcAt (S ++ X) l n := by
  obtain ⟨o, e, q⟩ := h
  exact ⟨o, app_left e, q⟩
/-- the source at l was drawn from, nothing else was touched -/
structure SrcStep (l n : Nat) (S S' : Store) : Prop where
  ex : ∃ o, l < S.length ∧ Src n o ∧ S' = S.set l o
theorem SrcStep.srcAt {l n : Nat} {S S' : Store} (h : SrcStep l n S S') : SrcAt S' l n := by
  obtain ⟨o, hl, ho, rfl⟩ := h
  exact ⟨o, List.getElem?_set_self hl, ho⟩
theorem SrcStep.get {l n m : Nat} {S S' : Store} {o : Option Ob} (h : SrcStep l n S S') (hne : l ≠ m) (e : S[m]? = o) : S'[m]? = o := by
  obtain ⟨o', hl, ho, rfl⟩ := h
  rw [List.getElem?_set_ne hne]; exact e
theorem SrcStep.len {l n : Nat} {S S' : Store} (h : SrcStep l n S S') : S'.length = S.length := by
  obtain ⟨o', hl, ho, rfl⟩ := h
  exact List.length_set ..
theorem SrcStep.trans {l n m : Nat} {S S1 S2 : Store} (h : SrcStep l n S S1) (h2 : SrcStep l m S1 S2) : SrcStep l m S S2 := by
  obtain ⟨o, hl, ho, rfl⟩ := h
  obtain ⟨o2, hl2, ho2, rfl⟩ := h2
  exact ⟨o2, hl, ho2, set_set⟩
theorem SrcStep.mono {l n m : Nat} {S S' : Store} (h : SrcStep l n S S') (hm : n ≤ m) : SrcStep l m S S' := by
  obtain ⟨o, hl, ho, rfl⟩ := h
  exact ⟨o, hl, ho.mono hm, rfl⟩
theorem SrcAt.mono {l n m : Nat} {S : Store} (h : SrcAt S l n) (hm : n ≤ m) : SrcAt S l m := by
  obtain ⟨o, e, ho⟩ := h
  exact ⟨o, e, ho.mono hm⟩
theorem SrcAt.refl {l n : Nat} {S : Store} (h : SrcAt S l n) : SrcStep l n S S := by
  obtain ⟨o, e, ho⟩ := h
  refine ⟨o, (List.getElem?_eq_some_iff.mp e).1, ho, ?_⟩
  apply List.ext_getElem?
  intro j
  rw [List.getElem?_set]
  by_cases q : l = j
  · subst q
    rw [if_pos rfl, if_pos (List.getElem?_eq_some_iff.mp e).1, e]
  · rw [if_neg q]
theorem Rt.src {S S' : Store} {Q : DK} {l n : Nat} {d : D} (h : SrcStep l n S S') (hb : bnd S.length d) (q : Q d S') : Rt S Q d S' := by
  obtain ⟨o, hl, ho, rfl⟩ := h
  exact Rt.set hb ho.bnd q
/-- .. and some things were made behind -/
theorem Rt.srcs {S S' : Store} {Q : DK} {l n : Nat} {d : D} {ex : Store} (h : SrcStep l n S S') (hb : bnd S.length d) (q : Q d S') : Rt S Q d (S' ++ ex) := by
  obtain ⟨o, hl, ho, rfl⟩ := h
  unfold Rt
  refine Or.inl ⟨fun l' o' hl' e => ?_, Or.inl ⟨d, .same hb, ?_⟩⟩
  · rw [List.getElem?_append_left (by rw [List.length_set]; exact hl')] at e
    exact CutOk.set ho.bnd l' o' hl' e
  · have : (S.set l o ++ ex).take S.length = S.set l o := by
      rw [List.take_append_of_le_length (by rw [List.length_set]; exact Nat.le_refl _), List.take_of_length_le (by rw [List.length_set]; exact Nat.le_refl _)]
    rw [this]; exact q
def spDraw : DSp := fun ds S Q E => ∃ (l : Nat) (m : Int) (n : Nat), ds = [.loc l, .int m] ∧ SrcAt S l n ∧ n < 1000000000 ∧ (0 < m ∧ m < 2 ^ 200) ∧
  ∀ r S', 0 ≤ r → r < m → SrcStep l (n + 1) S S' → Q (.int r) S'
/-- the arithmetic of a draw -/
theorem draw_sizes {b c : Int} {n : Nat} (hb : 0 ≤ b) (hb2 : b < 2 ^ 200) (hc : 0 ≤ c) (hcn : c ≤ (n : Int)) (hn : n < 1000000000) :
    CMulW 15485863 (c + 1) ∧ CMulW 32452843 (c + 1) ∧ CPowW (b + 15485863 * (c + 1)) 3 ∧ ∀ x : Int, CPowW (x % (10 ^ 35 + 69) + 32452843 * (c + 1)) 3 := by
  have h1 : (c + 1).natAbs < 2 ^ 40 := by omega
  refine ⟨wide_mul (a := 30) (b := 40) (by decide) h1 (by decide) (by decide) (by decide), wide_mul (a := 30) (b := 40) (by decide) h1 (by decide) (by decide) (by decide),
    powW (b := 300) (by decide) ?_ (by decide) (by decide), fun x => powW (b := 300) (by decide) ?_ (by decide) (by decide)⟩
  · refine abs_lt (by omega) ?_
    have : (2 : Int) ^ 200 + 2 ^ 200 ≤ 2 ^ 300 := by decide
    have h2 : 15485863 * (c + 1) < (2 : Int) ^ 200 := by
      have : (15485863 : Int) * 1000000000 < 2 ^ 200 := by decide
      omega
    omega
  · have hx : 0 ≤ x % (10 ^ 35 + 69) := Int.emod_nonneg _ (by decide)
    have hx2 : x % (10 ^ 35 + 69) < 10 ^ 35 + 69 := Int.emod_lt_of_pos _ (by decide)
    refine abs_lt (by omega) ?_
    have : (10 : Int) ^ 35 + 69 + 2 ^ 200 ≤ 2 ^ 300 := by decide
    have h2 : 32452843 * (c + 1) < (2 : Int) ^ 200 := by
      have : (32452843 : Int) * 1000000000 < 2 ^ 200 := by decide
      omega
    omega
end DL
namespace DL
open PySem L2
/-! a statement where the walk stops, for a word about what holds behind it -/
/-- (a box that no reduction opens, neither the elaborator's nor the kernel's) -/
inductive MkP (n : Nat) (p : Prop) : Prop
  | mk (h : p) : MkP n p
@[irreducible] def sMark (n : Nat) (u : DS) : DS := fun E ρ S => MkP n (u E ρ S)
theorem mark_of {n : Nat} {u : DS} {E : DEnds} {ρ : Rho} {S : Store} (h : sMark n u E ρ S) : u E ρ S := by
  unfold sMark at h
  exact h.1
theorem mark_go {n : Nat} {u : DS} {E : DEnds} {ρ : Rho} {S : Store} (h : u E ρ S) : sMark n u E ρ S := by
  unfold sMark
  exact ⟨h⟩
theorem ds_mark {X : Cx} {st : Stmt} {u : DS} (n : Nat) (h : DSt X st u) : DSt X st (sMark n u) := by
  obtain ⟨⟨ts, h1, h2⟩⟩ := h
  exact ⟨ts, h1, fun α ρ S σ H E F so ro q k => h2 α ρ S σ H E F so ro (mark_of q) k⟩
theorem mark_join {n : Nat} {u : DS} {E : DEnds} {ρ : Rho} {S : Store} (P : Rho → Store → Prop) (h1 : ∀ N : Rho → Store → Prop, (∀ ρ' S', P ρ' S' → N ρ' S') → u { E with nx := N } ρ S) (h2 : ∀ ρ' S', P ρ' S' → E.nx ρ' S') : sMark n u E ρ S :=
  mark_go (h1 E.nx h2)
end DL

/-! DL, 9: dicts with keys of ints, texts, or tuples of such. -/
namespace DL
open PySem PySem.Spec PyProof.Rows L2
def keyK : D → Option Key
  | .int i => some (.inl i)
  | .str s => some (.inr s)
  | _ => none
def keyL : List D → Option (List Key)
  | [] => some []
  | d :: r => match keyK d, keyL r with
    | some k, some ks => some (k :: ks)
    | _, _ => none
def keyT : D → Option (List Key)
  | .tup ds => keyL ds
  | _ => none
def valD {κ : Type} [DecidableEq κ] (kvs : List (κ × D)) (k : κ) : Option D := (kvs.find? fun kv => decide (kv.1 = k)).map (·.2)
def stoD {κ : Type} [DecidableEq κ] (kvs : List (κ × D)) (k : κ) (v : D) : List (κ × D) :=
  if (kvs.any fun kv => decide (kv.1 = k)) = true then kvs.map (fun kv => if kv.1 = k then (kv.1, v) else kv) else kvs ++ [(k, v)]
section
variable {K : PySem.W.Frag} {α : Locs} {H : Hp}
def RpO (K : PySem.W.Frag) (α : Locs) (H : Hp) : Option V → Option D → Prop
  | none, none => True
  | some v, some d => Rp K α H v d
  | _, _ => False
theorem keyK_rp {d : D} {v : V} {k : Key} (r : Rp K α H v d) (h : keyK d = some k) : v = kV k := by
  cases d with
  | int i => cases h; exact r
  | str s => cases h; exact r
  | _ => cases h
theorem keyL_rp : ∀ {ds : List D} {xs : List V} {ks : List Key}, RpL K α H xs ds → keyL ds = some ks → xs = ks.map kV
  | [], xs, ks, r, h => by cases h; exact r
  | d :: ds, xs, ks, ⟨v, t, e, r1, r2⟩, h => by
    subst e
    unfold keyL at h
    cases e1 : keyK d with
    | none => rw [e1] at h; cases h
    | some k =>
      cases e2 : keyL ds with
      | none => rw [e1, e2] at h; cases h
      | some ks' =>
        rw [e1, e2] at h
        cases h
        rw [List.map_cons, keyK_rp r1 e1, keyL_rp r2 e2]
theorem keyT_rp {d : D} {v : V} {k : List Key} (r : Rp K α H v d) (h : keyT d = some k) : ∃ b, v = .ref b ∧ H b = some (.tup (k.map kV)) := by
  cases d with
  | tup ds =>
    obtain ⟨a, xs, e, t, r⟩ := r
    refine ⟨a, e, ?_⟩
    rw [← keyL_rp r h]
    exact t.1
  | _ => cases h
theorem RpK.val : ∀ {kvs : List (Key × D)} {xs : List (Key × V)} (k : Key), RpK K α H xs kvs → RpO K α H (valV xs k) (valD kvs k)
  | [], xs, k, r => by
    cases (show xs = [] from r)
    exact True.intro
  | (k', d) :: kvs, xs, k, ⟨v, t, e, r1, r2⟩ => by
    subst e
    by_cases h : k' = k
    · rw [valV_pos (p := (k', v)) h]
      have : valD ((k', d) :: kvs) k = some d := by simp [valD, List.find?_cons, h]
      rw [this]
      exact r1
    · rw [valV_neg (p := (k', v)) h]
      have : valD ((k', d) :: kvs) k = valD kvs k := by simp [valD, List.find?_cons, h]
      rw [this]
      exact RpK.val k r2
theorem RpT.val : ∀ {kvs : List (List Key × D)} {xs : List (List Key × V)} (k : List Key), RpT K α H xs kvs → RpO K α H (valV xs k) (valD kvs k)
  | [], xs, k, r => by
    cases (show xs = [] from r)
    exact True.intro
  | (k', d) :: kvs, xs, k, ⟨v, t, e, r1, r2⟩ => by
    subst e
    by_cases h : k' = k
    · rw [valV_pos (p := (k', v)) h]
      have : valD ((k', d) :: kvs) k = some d := by simp [valD, List.find?_cons, h]
      rw [this]
      exact r1
    · rw [valV_neg (p := (k', v)) h]
      have : valD ((k', d) :: kvs) k = valD kvs k := by simp [valD, List.find?_cons, h]
      rw [this]
      exact RpT.val k r2
theorem RpK.len : ∀ {kvs : List (Key × D)} {xs : List (Key × V)}, RpK K α H xs kvs → xs.length = kvs.length
  | [], xs, r => by cases (show xs = [] from r); rfl
  | _ :: kvs, xs, ⟨v, t, e, r1, r2⟩ => by subst e; rw [List.length_cons, List.length_cons, RpK.len r2]
theorem RpT.len : ∀ {kvs : List (List Key × D)} {xs : List (List Key × V)}, RpT K α H xs kvs → xs.length = kvs.length
  | [], xs, r => by cases (show xs = [] from r); rfl
  | _ :: kvs, xs, ⟨v, t, e, r1, r2⟩ => by subst e; rw [List.length_cons, List.length_cons, RpT.len r2]
theorem RpK.any : ∀ {kvs : List (Key × D)} {xs : List (Key × V)} (k : Key), RpK K α H xs kvs → (xs.any fun kv => decide (kv.1 = k)) = (kvs.any fun kv => decide (kv.1 = k))
  | [], xs, k, r => by cases (show xs = [] from r); rfl
  | _ :: kvs, xs, k, ⟨v, t, e, r1, r2⟩ => by subst e; rw [List.any_cons, List.any_cons, RpK.any k r2]
theorem RpT.any : ∀ {kvs : List (List Key × D)} {xs : List (List Key × V)} (k : List Key), RpT K α H xs kvs → (xs.any fun kv => decide (kv.1 = k)) = (kvs.any fun kv => decide (kv.1 = k))
  | [], xs, k, r => by cases (show xs = [] from r); rfl
  | _ :: kvs, xs, k, ⟨v, t, e, r1, r2⟩ => by subst e; rw [List.any_cons, List.any_cons, RpT.any k r2]
theorem RpK.mapPut {v : V} {d : D} (r : Rp K α H v d) (k : Key) : ∀ {kvs : List (Key × D)} {xs : List (Key × V)}, RpK K α H xs kvs → RpK K α H (xs.map fun kv => if kv.1 = k then (kv.1, v) else kv) (kvs.map fun kv => if kv.1 = k then (kv.1, d) else kv)
  | [], xs, h => by cases (show xs = [] from h); rfl
  | (k', d') :: kvs, xs, ⟨v', t, e, r1, r2⟩ => by
    subst e
    rw [List.map_cons, List.map_cons]
    by_cases q : k' = k
    · rw [if_pos q, if_pos q]
      exact ⟨v, _, rfl, r, RpK.mapPut r k r2⟩
    · rw [if_neg q, if_neg q]
      exact ⟨v', _, rfl, r1, RpK.mapPut r k r2⟩
theorem RpT.mapPut {v : V} {d : D} (r : Rp K α H v d) (k : List Key) : ∀ {kvs : List (List Key × D)} {xs : List (List Key × V)}, RpT K α H xs kvs → RpT K α H (xs.map fun kv => if kv.1 = k then (kv.1, v) else kv) (kvs.map fun kv => if kv.1 = k then (kv.1, d) else kv)
  | [], xs, h => by cases (show xs = [] from h); rfl
  | (k', d') :: kvs, xs, ⟨v', t, e, r1, r2⟩ => by
    subst e
    rw [List.map_cons, List.map_cons]
    by_cases q : k' = k
    · rw [if_pos q, if_pos q]
      exact ⟨v, _, rfl, r, RpT.mapPut r k r2⟩
    · rw [if_neg q, if_neg q]
      exact ⟨v', _, rfl, r1, RpT.mapPut r k r2⟩
theorem RpK.snoc {v : V} {d : D} (r : Rp K α H v d) (k : Key) : ∀ {kvs : List (Key × D)} {xs : List (Key × V)}, RpK K α H xs kvs → RpK K α H (xs ++ [(k, v)]) (kvs ++ [(k, d)])
  | [], xs, h => by cases (show xs = [] from h); exact ⟨v, _, rfl, r, rfl⟩
  | (k', d') :: kvs, xs, ⟨v', t, e, r1, r2⟩ => by subst e; exact ⟨v', _, rfl, r1, RpK.snoc r k r2⟩
theorem RpT.snoc {v : V} {d : D} (r : Rp K α H v d) (k : List Key) : ∀ {kvs : List (List Key × D)} {xs : List (List Key × V)}, RpT K α H xs kvs → RpT K α H (xs ++ [(k, v)]) (kvs ++ [(k, d)])
  | [], xs, h => by cases (show xs = [] from h); exact ⟨v, _, rfl, r, rfl⟩
  | (k', d') :: kvs, xs, ⟨v', t, e, r1, r2⟩ => by subst e; exact ⟨v', _, rfl, r1, RpT.snoc r k r2⟩
theorem RpK.put {v : V} {d : D} (r : Rp K α H v d) (k : Key) {kvs : List (Key × D)} {xs : List (Key × V)} (h : RpK K α H xs kvs) : RpK K α H (putK xs k v) (stoD kvs k d) := by
  unfold putK stoD
  rw [RpK.any k h]
  split
  · exact RpK.mapPut r k h
  · exact RpK.snoc r k h
theorem RpT.put {v : V} {d : D} (r : Rp K α H v d) (k : List Key) {kvs : List (List Key × D)} {xs : List (List Key × V)} (h : RpT K α H xs kvs) : RpT K α H (putK xs k v) (stoD kvs k d) := by
  unfold putK stoD
  rw [RpT.any k h]
  split
  · exact RpT.mapPut r k h
  · exact RpT.snoc r k h
/-- x[y], there or not -/
def onDget (x y : D) (S : Store) (P : Option D → Prop) : Prop := match x with
  | .dk kvs => onOpt (keyK y) fun k => P (valD kvs k)
  | .dt kvs => onOpt (keyT y) fun k => P (valD kvs k)
  | .loc l => onOpt S[l]? fun o => match o with
    | .dk kvs => onOpt (keyK y) fun k => P (valD kvs k)
    | .dt kvs => onOpt (keyT y) fun k => P (valD kvs k)
    | _ => False
  | _ => False
theorem onDget.rp {S : Store} {x y : D} {v u : V} {P : Option D → Prop} (so : StoreOk K α H S) (rx : Rp K α H v x) (ry : Rp K α H u y) (h : onDget x y S P) :
    ∃ a o d, v = .ref a ∧ IsD H a ∧ DGet H a u o ∧ RpO K α H o d ∧ P d := by
  have hK : ∀ {a : Addr} {xs : List (Key × V)} {kvs : List (Key × D)}, H a = some (.dK xs) → RpK K α H xs kvs → (onOpt (keyK y) fun k => P (valD kvs k)) → ∃ o d, IsD H a ∧ DGet H a u o ∧ RpO K α H o d ∧ P d := fun {a xs kvs} e r h => by
    obtain ⟨k, hk, h⟩ := h
    exact ⟨_, _, Or.inl ⟨_, Or.inl e⟩, Or.inl ⟨xs, k, Or.inl e, keyK_rp ry hk, rfl⟩, RpK.val k r, h⟩
  have hT : ∀ {a : Addr} {xs : List (List Key × V)} {kvs : List (List Key × D)}, H a = some (.dT xs) → RpT K α H xs kvs → (onOpt (keyT y) fun k => P (valD kvs k)) → ∃ o d, IsD H a ∧ DGet H a u o ∧ RpO K α H o d ∧ P d := fun {a xs kvs} e r h => by
    obtain ⟨k, hk, h⟩ := h
    obtain ⟨b, eb, hb⟩ := keyT_rp ry hk
    exact ⟨_, _, Or.inr ⟨_, Or.inl e⟩, Or.inr ⟨xs, k, b, Or.inl e, eb, hb, rfl⟩, RpT.val k r, h⟩
  cases x with
  | dk kvs =>
    obtain ⟨a, xs, e, hs, _, hr⟩ := rx
    obtain ⟨o, d, h1⟩ := hK hs hr h
    exact ⟨a, o, d, e, h1⟩
  | dt kvs =>
    obtain ⟨a, xs, e, hs, _, hr⟩ := rx
    obtain ⟨o, d, h1⟩ := hT hs hr h
    exact ⟨a, o, d, e, h1⟩
  | loc l =>
    obtain ⟨a, e2, ha⟩ := rx
    obtain ⟨o, ho, h⟩ : onOpt S[l]? _ := h
    have hob := so.ob l a o ha ho
    cases o with
    | dk kvs =>
      obtain ⟨xs, hs, hr⟩ := hob
      obtain ⟨o, d, h1⟩ := hK hs hr h
      exact ⟨a, o, d, e2, h1⟩
    | dt kvs =>
      obtain ⟨xs, hs, hr⟩ := hob
      obtain ⟨o, d, h1⟩ := hT hs hr h
      exact ⟨a, o, d, e2, h1⟩
    | _ => exact h.elim
  | _ => exact h.elim
end
section
variable {X : Cx} {e a b c o : Expr} {es : List Expr} {pos : Pos} {t ta tb to ti : DT}
/-- k in d, by values -/
def rDIn : R2 := fun y x H Q => ∃ a o, x = .ref a ∧ DGet H a y o ∧ Q (.bl o.isSome) H
theorem op_dIn (hu : X.A.units + 1 < cLine) : OpR X (compareOp .In) rDIn := fun pins s σ H y x u v Q I ry rx h => by
  obtain ⟨a, ov, ex, g, q⟩ := h
  subst ex
  obtain rfl : v = Value.ref a := rx
  exact d_in hu I g ry fun s3 I3 => ⟨.bl ov.isSome, H, I3, rfl, q⟩
def rDNotIn : R2 := fun y x H Q => ∃ a o, x = .ref a ∧ DGet H a y o ∧ Q (.bl (!o.isSome)) H
theorem op_dNotIn (hu : X.A.units + 1 < cLine) : OpR X (compareOp .NotIn) rDNotIn := fun pins s σ H y x u v Q I ry rx h => by
  obtain ⟨a, ov, ex, g, q⟩ := h
  subst ex
  obtain rfl : v = Value.ref a := rx
  exact d_notIn hu I g ry fun s3 I3 => ⟨.bl (!ov.isSome), H, I3, rfl, q⟩
theorem RpO.some? {K : PySem.W.Frag} {α : Locs} {H : Hp} {o : Option V} {d : Option D} (r : RpO K α H o d) : o.isSome = d.isSome := by
  cases o <;> cases d <;> first | rfl | exact r.elim
def rdDIn : RD := fun y x S Q => onDget x y S fun o => Q (.bl o.isSome) S
def rdDNotIn : RD := fun y x S Q => onDget x y S fun o => Q (.bl (!o.isSome)) S
theorem od_dIn (hu : X.A.units + 65 < cLine) : OpD X (compareOp .In) rdDIn := ⟨_, op_dIn (by omega), fun α S H y x u v Q Q' so ry rx h k => by
  obtain ⟨a, o, d, e, _, g, r, q⟩ := onDget.rp so rx ry h
  refine ⟨a, o, e, g, ?_⟩
  rw [r.some?]
  exact k.bl so q⟩
theorem od_dNotIn (hu : X.A.units + 65 < cLine) : OpD X (compareOp .NotIn) rdDNotIn := ⟨_, op_dNotIn (by omega), fun α S H y x u v Q Q' so ry rx h k => by
  obtain ⟨a, o, d, e, _, g, r, q⟩ := onDget.rp so rx ry h
  refine ⟨a, o, e, g, ?_⟩
  rw [r.some?]
  exact k.bl so q⟩
/-- d[k] -/
def rdDGet : RD := fun x y S Q => onDget x y S fun o => onOpt o fun d => Q d S
def dDget (to ti : DT) : DT := dOp rdDGet to ti
theorem de_dget (hu : X.A.units + 65 < cLine) (ho : DE X o to) (hi : DE X e ti) (hs : NoSl e) : DE X (.Subscript o e pos) (dDget to ti) := by
  obtain ⟨⟨t1, h1, h2⟩⟩ := ho
  obtain ⟨⟨t2, h3, h4⟩⟩ := hi
  refine ⟨_, pe_dget (by omega) h1 h3 hs, fun α ρ S σ H Q Q' so ro q k => ?_⟩
  refine h2 α ρ S σ H _ _ so ro q fun ov H1 α1 x S1 t1 so1 r1 q1 => ?_
  refine h4 α1 ρ S1 σ H1 _ _ so1 (ro.stp t1) q1 fun iv H2 α2 y S2 t2 so2 r2 q2 => ?_
  obtain ⟨a, o, d, e, _, g, r, q3⟩ := onDget.rp so2 (Rp.stp t2 _ _ r1) r2 q2
  obtain ⟨d', hd, q4⟩ := q3
  subst hd
  cases o with
  | none => exact r.elim
  | some v => exact ⟨a, v, e, g, k v H2 α2 d' S2 (t1.trans t2) so2 r q4⟩
/-- d.get(k) -/
def dDget1 (to ti : DT) : DT := fun ρ S Q => to ρ S fun x S1 => (onDct x S1) ∧ ti ρ S1 fun y S2 => onDget x y S2 fun o => Q (o.getD .non) S2
where onDct (x : D) (S : Store) : Prop := match x with
  | .dk _ => True
  | .dt _ => True
  | .loc l => (∃ kvs, S[l]? = some (.dk kvs)) ∨ ∃ kvs, S[l]? = some (.dt kvs)
  | _ => False
theorem onDct.rp {K : PySem.W.Frag} {α : Locs} {H : Hp} {S : Store} {x : D} {v : V} (so : StoreOk K α H S) (r : Rp K α H v x) (h : dDget1.onDct x S) : ∃ a, v = .ref a ∧ IsD H a := by
  cases x with
  | dk kvs =>
    obtain ⟨a, xs, e, hs, _⟩ := r
    exact ⟨a, e, Or.inl ⟨_, Or.inl hs⟩⟩
  | dt kvs =>
    obtain ⟨a, xs, e, hs, _⟩ := r
    exact ⟨a, e, Or.inr ⟨_, Or.inl hs⟩⟩
  | loc l =>
    obtain ⟨a, e2, ha⟩ := r
    rcases h with ⟨kvs, h⟩ | ⟨kvs, h⟩
    · obtain ⟨xs, hs, _⟩ := so.ob l a _ ha h
      exact ⟨a, e2, Or.inl ⟨_, Or.inl hs⟩⟩
    · obtain ⟨xs, hs, _⟩ := so.ob l a _ ha h
      exact ⟨a, e2, Or.inr ⟨_, Or.inl hs⟩⟩
  | _ => exact h.elim
theorem de_dget1 {apos cpos : Pos} (hu : X.A.units + 65 < cLine) (ho : DE X o to) (he : DE X e ti) (m : M1 X o "get" apos e cpos) : DE X (.Call (.Attribute o "get" apos) [e] [] cpos) (dDget1 to ti) := by
  obtain ⟨⟨t1, h1, h2⟩⟩ := ho
  obtain ⟨⟨t2, h3, h4⟩⟩ := he
  refine ⟨_, pe_dget1 (by omega) h1 h3 m, fun α ρ S σ H Q Q' so ro q k => ?_⟩
  refine h2 α ρ S σ H _ _ so ro q fun ov H1 α1 x S1 t1 so1 r1 q1 => ?_
  obtain ⟨a, e, isd⟩ := onDct.rp so1 r1 q1.1
  refine ⟨a, e, isd, ?_⟩
  refine h4 α1 ρ S1 σ H1 _ _ so1 (ro.stp t1) q1.2 fun iv H2 α2 y S2 t2 so2 r2 q2 => ?_
  obtain ⟨a', o, d, e', _, g, r, q3⟩ := onDget.rp so2 (Rp.stp t2 _ _ r1) r2 q2
  rw [e] at e'
  cases e'
  refine ⟨o, g, ?_⟩
  refine k _ H2 α2 _ S2 (t1.trans t2) so2 ?_ q3
  cases o <;> cases d <;> first | exact r.elim | exact r | exact (rfl : V.non = V.non)
def dDget2 (to ti tx : DT) : DT := fun ρ S Q => to ρ S fun x S1 => (dDget1.onDct x S1) ∧ ti ρ S1 fun y S2 => tx ρ S2 fun z S3 => onDget x y S3 fun o => Q (o.getD z) S3
theorem de_dget2 {f : Expr} {tx : DT} {apos cpos : Pos} (hu : X.A.units + 65 < cLine) (ho : DE X o to) (he : DE X e ti) (hf : DE X f tx) (m : M2 X o "get" apos e f cpos) : DE X (.Call (.Attribute o "get" apos) [e, f] [] cpos) (dDget2 to ti tx) := by
  obtain ⟨⟨t1, h1, h2⟩⟩ := ho
  obtain ⟨⟨t2, h3, h4⟩⟩ := he
  obtain ⟨⟨t3, h5, h6⟩⟩ := hf
  refine ⟨_, pe_dget2 (by omega) h1 h3 h5 m, fun α ρ S σ H Q Q' so ro q k => ?_⟩
  refine h2 α ρ S σ H _ _ so ro q fun ov H1 α1 x S1 t1 so1 r1 q1 => ?_
  obtain ⟨a, e, isd⟩ := onDct.rp so1 r1 q1.1
  refine ⟨a, e, isd, ?_⟩
  refine h4 α1 ρ S1 σ H1 _ _ so1 (ro.stp t1) q1.2 fun iv H2 α2 y S2 t2 so2 r2 q2 => ?_
  refine h6 α2 ρ S2 σ H2 _ _ so2 (ro.stp (t1.trans t2)) q2 fun zv H3 α3 z S3 t3 so3 r3 q3 => ?_
  obtain ⟨a', o, d, e', _, g, r, q4⟩ := onDget.rp so3 (Rp.stp (t2.trans t3) _ _ r1) (Rp.stp t3 _ _ r2) q3
  rw [e] at e'
  cases e'
  refine ⟨o, g, ?_⟩
  refine k _ H3 α3 _ S3 ((t1.trans t2).trans t3) so3 ?_ q4
  cases o <;> cases d <;> first | exact r.elim | exact r | exact r3
/-- {} -/
def dNewT : DT := fun _ S Q => Q (.loc S.length) (S ++ [.dt []])
theorem de_newT : DE X (.Dict [] [] pos) dNewT := ⟨_, pe_dnewT, fun α ρ S σ H Q Q' so ro q k => by
  intro p hp
  have tp := Stp.push (α := α) (o := HO.dT []) hp
  have hloc : (α ++ [some p])[S.length]? = some (some p) := by
    have hlen : α.length = S.length := so.len
    rw [← hlen, List.getElem?_append_right (Nat.le_refl _), Nat.sub_self]; rfl
  exact k _ _ (α ++ [some p]) (.loc S.length) _ tp (so.push (o := .dT []) (ob := .dt []) hp ⟨[], upd_same, rfl⟩) ⟨p, rfl, hloc⟩ q⟩
def dNewK : DT := fun _ S Q => Q (.loc S.length) (S ++ [.dk []])
theorem de_newK : DE X (.Dict [] [] pos) dNewK := ⟨_, pe_dnewK, fun α ρ S σ H Q Q' so ro q k => by
  intro p hp
  have tp := Stp.push (α := α) (o := HO.dK []) hp
  have hloc : (α ++ [some p])[S.length]? = some (some p) := by
    have hlen : α.length = S.length := so.len
    rw [← hlen, List.getElem?_append_right (Nat.le_refl _), Nat.sub_self]; rfl
  exact k _ _ (α ++ [some p]) (.loc S.length) _ tp (so.push (o := .dK []) (ob := .dk []) hp ⟨[], upd_same, rfl⟩) ⟨p, rfl, hloc⟩ q⟩
/-- d[k] = v -/
def onDput (x y d : D) (S : Store) (P : Store → Prop) : Prop := match x with
  | .loc l => onOpt S[l]? fun o => match o with
    | .dk kvs => onOpt (keyK y) fun k => kvs.length < sizeLine ∧ P (S.set l (.dk (stoD kvs k d)))
    | .dt kvs => onOpt (keyT y) fun k => kvs.length < sizeLine ∧ P (S.set l (.dt (stoD kvs k d)))
    | _ => False
  | _ => False
def gdPut (to ti : DT) : DG := fun d ρ S Q => to ρ S fun x S1 => ti ρ S1 fun y S2 => onDput x y d S2 fun S3 => Q ρ S3
theorem dg_put {i : Expr} (hu : X.A.units + 65 < cLine) (ho : DE X o to) (hi : DE X i ti)
    (ha : ∀ v, assign (.Subscript o i pos) X.env v = (do
      let ov ← holding [v] (eval o X.env)
      let iv ← holding [v, ov] (eval i X.env)
      standAt pos
      holding [v, ov, iv] (setItem ov iv v)
      release [v, ov, iv] []) := by intro _; rfl) : DGt X (.Subscript o i pos) [] (gdPut to ti) := by
  obtain ⟨⟨t1, h1, h2⟩⟩ := ho
  obtain ⟨⟨t2, h3, h4⟩⟩ := hi
  refine ⟨_, pg_sub h1 h3 (set_dict (by omega)) ha, fun α ρ S σ H v d Q Q' so ro r q k => ?_⟩
  refine h2 α ρ S σ H _ _ so ro q fun ov H1 α1 x S1 t1 so1 r1 q1 => ?_
  refine h4 α1 ρ S1 σ H1 _ _ so1 (ro.stp t1) q1 fun iv H2 α2 y S2 t2 so2 r2 q2 => ?_
  have t12 := t1.trans t2
  have rd := Rp.stp t12 _ _ r
  cases x with
  | loc l =>
    obtain ⟨a, e2, ha⟩ := Rp.stp t2 _ _ r1
    obtain ⟨o, ho, q3⟩ : onOpt S2[l]? _ := q2
    have hob := so2.ob l a o ha ho
    cases o with
    | dk kvs =>
      obtain ⟨xs, hs, hr⟩ := hob
      obtain ⟨kk, hk, hz, q4⟩ := q3
      have tm := Stp.mut (u := HO.dK (putK xs kk v)) ha hs
      refine ⟨a, _, e2, Or.inl ⟨xs, kk, hs, keyK_rp r2 hk, by rw [RpK.len hr]; exact hz, rfl⟩, ?_⟩
      exact k σ _ α2 ρ _ (SameBut.refl _ _) (t12.trans tm) (so2.set (ob := .dk (stoD kvs kk d)) ha hs ⟨_, upd_same, RpK.stp tm _ _ (RpK.put rd kk hr)⟩) (ro.stp (t12.trans tm)) q4
    | dt kvs =>
      obtain ⟨xs, hs, hr⟩ := hob
      obtain ⟨kk, hk, hz, q4⟩ := q3
      obtain ⟨b, eb, hb⟩ := keyT_rp r2 hk
      have tm := Stp.mut (u := HO.dT (putK xs kk v)) ha hs
      refine ⟨a, _, e2, Or.inr ⟨xs, kk, b, hs, eb, hb, by rw [RpT.len hr]; exact hz, rfl⟩, ?_⟩
      exact k σ _ α2 ρ _ (SameBut.refl _ _) (t12.trans tm) (so2.set (ob := .dt (stoD kvs kk d)) ha hs ⟨_, upd_same, RpT.stp tm _ _ (RpT.put rd kk hr)⟩) (ro.stp (t12.trans tm)) q4
    | _ => exact q3.elim
  | _ => exact q2.elim
end
end DL

/-! DL, 10: star parameters and arguments, classmethods, class constants, what is never reached. -/
namespace DL
open PySem PySem.Spec PyProof.Rows L2 StX ClX
/-- a statement that is never reached -/
def sNever : DS := fun _ _ _ => False
theorem ds_never {X : Cx} (st : Stmt) : DSt X st sNever := ⟨fun _ _ _ => False, ⟨fun pins s σ H D I h => h.elim⟩, fun α ρ S σ H E F so ro q k => q⟩
section
variable {X : Cx} {e a b c o : Expr} {es : List Expr} {pos p apos : Pos} {t ta tb to ti : DT} {td : DA}
def dStar (t : DT) (td : DA) : DA := fun ρ S Q => t ρ S fun d S1 => onSeq d S1 fun xs => td ρ S1 fun ys S2 => Q (xs ++ ys) S2
theorem da_star (he : DE X e t) (hr : DAs X es td) (hs : starEach (.Starred e p :: es) X.env = (true, eval e X.env) :: starEach es X.env := by rfl) : DAs X (.Starred e p :: es) (dStar t td) := by
  obtain ⟨⟨t1, h1, h2⟩⟩ := he
  obtain ⟨⟨t2, h3, h4⟩⟩ := hr
  refine ⟨_, pa_star h1 h3 hs, fun α ρ S σ H Q Q' so ro q k => ?_⟩
  refine h2 α ρ S σ H _ _ so ro q fun v H1 α1 d S1 s1 so1 r1 q1 => ?_
  obtain ⟨a, xs, ds, rfl, hsq, hr, q2⟩ := onSeq.rp so1 r1 q1
  refine ⟨a, xs, rfl, hsq.symm, ?_⟩
  refine h4 α1 ρ S1 σ H1 _ _ so1 (ro.stp s1) q2 fun vs H2 α2 ys S2 s2 so2 r2 q3 => ?_
  exact k _ H2 α2 _ S2 (s1.trans s2) so2 (RpL.append (RpL.stp s2 _ _ hr) r2) q3
/-! a def with a star parameter -/
def spStar (K : PySem.W.Frag) (n : Nat) (dsp : DSp) : Sp := fun vs H Q E => (n ≤ vs.length ∧ vs.length ≤ n + 1000) ∧ ∃ α S ds Qd Ed, StoreOk K α H S ∧ RpL K α H vs ds ∧ dsp (ds.take n ++ [.tup (ds.drop n)]) S Qd Ed ∧ KE K α H Qd Q ∧ KX K α H Ed E
end
section
variable {P : Program} {w : World} {K : PySem.W.Frag} {mg : Str → Option Value} {base : Heap} {x qual pv : Str} {st : Stmt} {f : Addr} {fd : FuncData} {N ps : List Str} {k : Nat} {dsp : DSp} {t : DS}
theorem dfn_star (F : Fun K x qual st f fd) (S : FnScope N (ps ++ [pv]) (defScope st)) (hlen : ∀ ds S Q E, dsp ds S Q E → ds.length = ps.length + 1)
    (hb : ∀ (kV doc pm : Value) (an : Option Addr) (cdv ct : Value) (us rest : List Value), us.length = ps.length → bindArgs (PySem.W.fnOf x qual (defArgs st) (defBody st) (defScope st) .none kV doc pm an cdv ct) ⟨us ++ rest, []⟩ = (newTuple rest >>= fun t => pure (ps.zip us ++ [(pv, t)])))
    (hbody : ∀ (cdv : Value) (A : Around) (outer : List Env) (s : Shared) (H : Hp) (E : XK), Room k (A.deeper (envOfC qual (defScope st) s.heap.objs.size f cdv)) → DSs (cxOf CX0 P w K mg base N qual (defScope st) f cdv A outer s H E).nox (defBody st) t)
    (spec : ∀ ds S Q E, bndL S.length ds → dsp ds S Q E → t { nx := fun _ S' => Rt S Q .non S', rt := Rt S Q } (startR N.length ds) S) : FnR P w K mg base CX0 (k + 1) f (spStar K ps.length dsp) := by
  obtain ⟨oc, od, kV, doc, pm, an, cdv, ct, osl, rfl, lk, hcd⟩ := F.ex
  have main := fn_star (CX := CX0) (P := P) (w := w) (mg := mg) (base := base) (k := k) (sp := spOf K (ps.length + 1) dsp) lk hcd S cxUp_none (hb kV doc pm an cdv ct) fun A outer s H vs Q E hr h => ?_
  · refine FnR.imp main fun vs H Q E h => ?_
    obtain ⟨⟨h1, h2⟩, α, S0, ds, Qd, Ed, so, r, hd, ke, kx⟩ := h
    refine ⟨vs.take ps.length, vs.drop ps.length, (List.take_append_drop _ _).symm, by rw [List.length_take]; omega, by rw [List.length_drop]; exact line_le (by omega), fun p hp => ?_⟩
    have tp := Stp.new_ (α := α) (o := HO.tup (vs.drop ps.length)) hp
    have so2 := so.grow (keep_new (o := HO.tup (vs.drop ps.length)) hp)
    have r2 : RpL K α (upd H p (.tup (vs.drop ps.length))) (vs.take ps.length ++ [V.ref p]) (ds.take ps.length ++ [.tup (ds.drop ps.length)]) := RpL.append (RpL.stp tp _ _ (RpL.take _ r)) ⟨_, _, rfl, ⟨p, _, rfl, ⟨upd_same, so.off_new hp⟩, RpL.stp tp _ _ (RpL.drop _ r)⟩, rfl⟩
    refine ⟨by rw [r2.len]; exact hlen _ _ _ _ hd, α, S0, _, Qd, Ed, so2, r2, hd, ?_, ?_⟩
    · exact ke.stp tp
    · exact fun C od H' α' S' fs t' so' x e => kx C od H' α' S' fs (tp.trans t') so' x e
  · obtain ⟨hl, α, S0, ds, Qd, Ed, so, r, hd, ke, kx⟩ := h
    obtain ⟨⟨ts, h1, h2⟩⟩ := hbody cdv A outer s H E hr
    refine ⟨ts, h1.nox, ?_⟩
    have hpl : (ps ++ [pv]).length ≤ N.length := by have := congrArg List.length S.pre; rw [List.length_take] at this; omega
    have hds : ds.length ≤ N.length := by rw [hlen _ _ _ _ hd]; rw [List.length_append] at hpl; exact hpl
    have fin : ∀ v H' α' d S', Stp α H α' H' → StoreOk K α' H' S' → Rp K α' H' v d → Rt S0 Qd d S' → Q v H' := fun v H' α' d S' t' so' r' q => Rt.fin so t' so' r' q ke
    have bd : bndL S0.length ds := by rw [← so.len]; exact r.bnd
    refine h2 α (startR N.length ds) S0 (start N vs) H _ _ so (startR_ok r hds) (spec ds S0 Qd Ed bd hd) ⟨?_, fin, fun _ _ _ _ _ _ _ _ z => z.elim, fun _ _ _ _ _ _ _ _ z => z.elim⟩
    intro σ' H' α' ρ' S' t' so' ro' q
    exact fin .non H' α' .non S' t' so' rfl q
end

section
variable {X : Cx} {e a b c o : Expr} {es : List Expr} {pos p apos : Pos} {t ta tb to ti : DT} {td : DA} {k n i : Nat} {f C g pm : Addr} {dsp : DSp} {x m fl : Str} {mc : Value} {K : PySem.W.Frag}
/-! C(.., *y) by an __init__ with a star parameter, C by a local name or by its own -/
def onN (n : Nat) (ds : List D) : Prop := n ≤ ds.length ∧ ds.length ≤ n + 1000
def dMakeS (C : Addr) (n : Nat) (dsp : DSp) (t : DA) : DT := fun ρ S Q => t ρ S fun ds S1 => onN n (.non :: ds) ∧ dsp ((.loc S1.length :: ds).take n ++ [.tup ((.loc S1.length :: ds).drop n)]) (S1 ++ [.ins C []]) (fun v S2 => v = .non ∧ Q (.loc S1.length) S2) noX
theorem lift_makeS {ta : TA} (h : LiftA K ta td) : LiftE K (tMakeR C (spStar K n dsp) E0 ta) (dMakeS C n dsp td) := fun α ρ S σ H Q Q' so ro q k => by
  refine h α ρ S σ H _ _ so ro q fun vs H1 α1 ds S1 t1 so1 r1 q1 x dx hx hdx hne => ?_
  obtain ⟨hl, q1⟩ := q1
  have hx2 : upd H1 dx (.own x) x = none := by rw [upd_ne (Ne.symm hne)]; exact hx
  have t2 : Stp α1 H1 (α1 ++ [some x]) (upd (upd H1 dx (.own x)) x (.ins C dx [])) := (Stp.new_ hdx).trans (Stp.push hx2)
  have so2 : StoreOk K (α1 ++ [some x]) (upd (upd H1 dx (.own x)) x (.ins C dx [])) (S1 ++ [.ins C []]) := (so1.grow (keep_new hdx)).push (ob := .ins C []) hx2 ⟨dx, [], upd_same, rfl⟩
  have hloc : (α1 ++ [some x])[S1.length]? = some (some x) := by rw [← so1.len]; simp
  have r3 : RpL K (α1 ++ [some x]) (upd (upd H1 dx (.own x)) x (.ins C dx [])) (.ref x :: vs) (.loc S1.length :: ds) := ⟨_, _, rfl, ⟨x, rfl, hloc⟩, RpL.stp t2 _ _ r1⟩
  have hl3 := r3.len
  refine ⟨by rw [hl3]; exact hl, _, _, _, _, noX, so2, r3, q1, fun v H' α' d S' t' so' r' ⟨e, q'⟩ => ?_, KX.no⟩
  subst e
  exact ⟨r', k (.ref x) H' α' (.loc S1.length) S' (t1.trans (t2.trans t')) so' ⟨x, rfl, t'.pre _ _ hloc⟩ q'⟩
theorem pe_makeS {ta : TA} {sp : Sp} (M : Mk X.K C f) (F : FnR X.prog X.w X.K X.mg X.base CX0 k f sp) (hr : Room (k + 1) X.A) (hx : Passes CX0 X E0) (ha : PA X (e :: es) ta) {te : TE}
    (hn : ∀ pins s σ H Q, Inv X pins σ H s → te σ H Q → wpAny (model X.prog X.w) X.A (eval (.Name x p) X.env) (fun u s1 => ∃ v H1, Inv X pins σ H1 s1 ∧ RelV v u ∧ v = .ref C ∧ Q v H1) X.xe s)
    (he : starEach (e :: es) X.env = (false, eval e X.env) :: starEach es X.env := by rfl) (hst : (backTo pos (starEach es X.env)).any (·.1) = true := by rfl) :
    PE X (.Call (.Name x p) (e :: es) [] pos) (fun σ H Q => te σ H fun _ H1 => tMakeR C sp E0 ta σ H1 Q) := by
  refine ⟨fun pins s σ H Q I h => ?_⟩
  refine wpAny_Call_Name_kw (thn (hn pins s σ H _ I h) fun u s1 ⟨v, H1, I1, r1, ev, q1⟩ => ?_)
  subst ev
  cases r1
  refine PySem.W.callWith_S2 (h₀ := X.base) I1.ok.mod.kin M.kp (thn (ha.run pos pins s1 σ H1 _ I1 q1) fun us s2 ⟨vs, H2, I2, r, q⟩ => ⟨I2.kIn, ?_⟩) he hst
  exact run_makeR M F hr hx I2 r q
def dMakeSL (i : Nat) (C : Addr) (n : Nat) (dsp : DSp) (t : DA) : DT := fun ρ S Q => getR ρ i = some (.cst C) ∧ dMakeS C n dsp t ρ S Q
theorem de_makeSL (M : Mk X.K C f) (F : FnR X.prog X.w X.K X.mg X.base CX0 k f (spStar X.K n dsp)) (hr : Room (k + 1) X.A) (hx : Passes CX0 X E0) (hN : X.N[i]? = some x) (hv : Vis X.env.scope x) (ha : DAs X (e :: es) td)
    (hdb : (x == ("__debug__" : Str)) = false := by decide) (hcd : (x == ("__classdict__" : Str)) = false := by decide)
    (he : starEach (e :: es) X.env = (false, eval e X.env) :: starEach es X.env := by rfl) (hst : (backTo pos (starEach es X.env)).any (·.1) = true := by rfl) :
    DE X (.Call (.Name x p) (e :: es) [] pos) (dMakeSL i C n dsp td) := by
  obtain ⟨⟨t1, h1, h2⟩⟩ := ha
  refine ⟨_, pe_makeS (te := fun σ H Q => σ[i]? = some (some (.ref C)) ∧ Q (.ref C) H) M F hr hx h1 (fun pins s σ H Q I h => ?_) he hst, fun α ρ S σ H Q Q' so ro q kk => ?_⟩
  · exact (pe_var (pos := p) hN hv hdb hcd).run pins s σ H (fun v H1 => v = .ref C ∧ Q v H1) I ⟨.ref C, h.1, rfl, h.2⟩
  · obtain ⟨v, hv, rv⟩ := ro.get q.1
    cases (show v = .ref C from rv)
    exact ⟨hv, lift_makeS h2 α ρ S σ H Q Q' so ro q.2 kk⟩
theorem de_makeSG (M : Mk X.K C f) (F : FnR X.prog X.w X.K X.mg X.base CX0 k f (spStar X.K n dsp)) (hr : Room (k + 1) X.A) (hx : Passes CX0 X E0) (hg : Gl X x) (hm : X.mg x = some (.ref C)) (ha : DAs X (e :: es) td)
    (hdb : (x == ("__debug__" : Str)) = false := by decide)
    (he : starEach (e :: es) X.env = (false, eval e X.env) :: starEach es X.env := by rfl) (hst : (backTo pos (starEach es X.env)).any (·.1) = true := by rfl) :
    DE X (.Call (.Name x p) (e :: es) [] pos) (dMakeS C n dsp td) := by
  obtain ⟨⟨t1, h1, h2⟩⟩ := ha
  refine ⟨_, pe_makeS (te := fun σ H Q => Q (.ref C) H) M F hr hx h1 (fun pins s σ H Q I h => ?_) he hst, fun α ρ S σ H Q Q' so ro q kk => ?_⟩
  · exact (pe_glob (v := .ref C) (pos := p) hg hm rfl hdb).run pins s σ H (fun v H1 => v = .ref C ∧ Q v H1) I ⟨rfl, h⟩
  · exact lift_makeS h2 α ρ S σ H Q Q' so ro q kk
/-! C.m(..), m a classmethod -/
def dCMeth (C : Addr) (dsp : DSp) (t : DT) (td : DA) : DT := fun ρ S Q => t ρ S fun x S1 => x = .cst C ∧ td ρ S1 fun ds S2 => dsp (.cst C :: ds) S2 Q noX
theorem de_cmeth {pl : Sem Bool} {fd : FuncData} {ps : List Str} (ho : DE X o t) (r : CRead X.K C mc) (c : CMet X.K C mc m pm g) (F : FnOk X.prog X.w X.K X.mg X.base CX0 k g fd ps (spOf X.K n dsp)) (hr : Room k X.A) (hb : Binds X.K fd ps []) (hx : Passes CX0 X E0) (hn : ∀ ds S Q E, dsp ds S Q E → ds.length = n) (ha : DAs X (e :: es) td)
    (hst : starEach (e :: es) X.env = (false, eval e X.env) :: starEach es X.env := by rfl) (hpl : (backTo pos (starEach es X.env)).any (·.1) = false := by rfl)
    (ht : eval (.Call (.Attribute o m apos) (e :: es) [] pos) X.env = (do
      let ov ← eval o X.env
      standAt apos.atName
      let (f, first) ← holding [ov] (getMethod ov m pl)
      callWith pos f first (backTo pos (starEach (e :: es) X.env)) (backToKw pos (keywordEach [] X.env))) := by rfl) :
    DE X (.Call (.Attribute o m apos) (e :: es) [] pos) (dCMeth C dsp t td) := by
  obtain ⟨⟨t0, h0, h0'⟩⟩ := ho
  obtain ⟨⟨t1, h1, h2⟩⟩ := ha
  refine ⟨_, pe_cmeth h0 r c (F.raw hb .nil) hr hx h1 hst hpl ht, fun α ρ S σ H Q Q' so ro q kk => ?_⟩
  refine h0' α ρ S σ H _ _ so ro q fun v H1 α1 x S1 t1 so1 r1 q1 => ?_
  obtain ⟨rfl, q1⟩ := q1
  refine ⟨r1, ?_⟩
  refine h2 α1 ρ S1 σ H1 _ _ so1 (ro.stp t1) q1 fun vs H2 α2 ds S2 t2 so2 r2 q2 => ?_
  have r3 : RpL X.K α2 H2 (.ref C :: vs ++ []) (.cst C :: ds) := by rw [List.append_nil]; exact ⟨_, _, rfl, rfl, r2⟩
  exact ⟨by rw [r3.len]; exact hn _ _ _ _ q2, α2, S2, _, Q, noX, so2, r3, q2, kk.stp (t1.trans t2), KX.no⟩
/-! C.f, a class's constant -/
def dCVal (C : Addr) (t : DT) (d : D) : DT := fun ρ S Q => t ρ S fun x S1 => x = .cst C ∧ Q d S1
theorem de_cval {v : V} {u : Value} {d : D} (he : DE X e t) (r : CRead X.K C mc) (c : CVal X.K C mc fl v u) (hv : ∀ α H, Rp X.K α H v d) (hb : attributeBase e fl X.env (eval e X.env) = eval e X.env := by rfl) : DE X (.Attribute e fl pos) (dCVal C t d) := by
  obtain ⟨⟨t1, h1, h2⟩⟩ := he
  refine ⟨_, pe_cval h1 hb, fun α ρ S σ H Q Q' so ro q kk => ?_⟩
  refine h2 α ρ S σ H _ _ so ro q fun w H1 α1 x S1 t1 so1 r1 q1 => ?_
  obtain ⟨rfl, q1⟩ := q1
  exact ⟨C, mc, v, u, r1, r, c, kk v H1 α1 d S1 t1 so1 (hv _ _) q1⟩
theorem de_cvalE {v : V} {d : D} (he : DE X e t) (r : CRead X.K C mc) (c : ∃ u, CVal X.K C mc fl v u) (hv : ∀ α H, Rp X.K α H v d) (hb : attributeBase e fl X.env (eval e X.env) = eval e X.env := by rfl) : DE X (.Attribute e fl pos) (dCVal C t d) := by
  obtain ⟨u, c⟩ := c
  exact de_cval he r c hv hb
end
end DL

/-! DL, 11: enumerate of a tuple. -/
namespace DL
open PySem PySem.Spec PyProof.Rows L2
open AutoSeq1 (wpAny_loadPart')
theorem meets_enum_tup (l : Addr) (items : Array Value) (n : Nat) (dct : Option Addr) (sl : Array (Option Value)) :
    Meets (Builtin.«enumerate.__new__» ⟨[.type "enumerate", .ref l], []⟩) (fun _ R s => s.heap.get? l = some { cls := .type "tuple", dict := dct, data := .seq items n, slots := sl } ∧
      R (.ok (.ret (.ref (s.heap.push { cls := .type "tuple_iterator", data := .fields #[.ref l, .int 0 0] }).objs.size)))
        { s with heap := (s.heap.push { cls := .type "tuple_iterator", data := .fields #[.ref l, .int 0 0] }).push { cls := .type "enumerate", data := .fields #[.none, .bool false, .ref s.heap.objs.size, rawInt 0, .none, .none] } }) :=
  .of_wp fun prog w A R s h => by
    obtain ⟨hp, g, d, tk, os⟩ := s; obtain ⟨hl, h⟩ := h
    have hsub := sub_enumerate
    have hL : Heap.IsTuple (Shared.heap ⟨hp, g, d, tk, os⟩) l items := ⟨_, hl, rfl, n, rfl⟩
    wp_walk using wpAny_loadPart' hl
    refine wpAny_stack_any fun st => wpAny_pure ?_
    split
    · rename_i c _ _ _ _ _
      cases (c == Value.type "enumerate")
      · wp_walk using wpAny_loadPart' hl, wpAny_pyIter_tuple hL
        exact ⟨_, rfl, h⟩
      · wp_walk using wpAny_loadPart' hl, wpAny_pyIter_tuple hL
        exact ⟨_, rfl, h⟩
    · wp_walk using wpAny_loadPart' hl, wpAny_pyIter_tuple hL
      exact ⟨_, rfl, h⟩
section
variable {prog : Program} {w : World} {A : Around} {E : Value → Shared → Prop} {s : Shared}
theorem call_enum_tup {l : Addr} {items : Array Value} {Q : Value → Shared → Prop} (hL : s.heap.IsTuple l items)
    (h : ∀ h', IsEnum h' (s.heap.objs.size + 1) s.heap.objs.size 0 .none → h'.IsTupleIter s.heap.objs.size l 0 → h'.objs.size = s.heap.objs.size + 2 →
      (∀ b o, s.heap.get? b = some o → h'.get? b = some o) → Q (.ref (s.heap.objs.size + 1)) { s with heap := h' }) :
    wpAny (model prog w) A (call (.type "enumerate") [.ref l]) Q E s := by
  obtain ⟨⟨c, dct, dt, sl⟩, hl, hc, n, hd⟩ := hL
  replace hc : c = .type "tuple" := hc
  replace hd : dt = .seq items n := hd
  subst hc hd
  refine callType_new F.called_enumerate (by decide) (F.typeCall_enumerate_1 _) (F.newCall_enumerate_1 _) (fun obj => F.args_object_init_2 obj _) F.entry_enumerate_new
    (meets_enum_tup l items n dct sl) ⟨hl, ?_⟩
  have hz : (s.heap.push { cls := .type "tuple_iterator", data := .fields #[.ref l, .int 0 0] }).objs.size = s.heap.objs.size + 1 := Heap.size_push ..
  show _ ∧ _
  rw [hz]
  have he : IsEnum ((s.heap.push { cls := .type "tuple_iterator", data := .fields #[.ref l, .int 0 0] }).push
      { cls := .type "enumerate", data := .fields #[.none, .bool false, .ref s.heap.objs.size, rawInt 0, .none, .none] }) (s.heap.objs.size + 1) s.heap.objs.size 0 .none := by
    have := Heap.get?_push_size (s.heap.push { cls := .type "tuple_iterator", data := .fields #[.ref l, .int 0 0] })
      (o := { cls := .type "enumerate", data := .fields #[.none, .bool false, .ref s.heap.objs.size, rawInt 0, .none, .none] }) rfl
    rw [hz] at this; exact this
  refine ⟨⟨_, he, rfl⟩, h _ he ⟨_, Heap.get?_push_of_some _ (Heap.get?_push_size _ rfl), rfl, rfl⟩ (by rw [Heap.size_push, hz]) fun b o x => Heap.get?_push_of_some _ (Heap.get?_push_of_some _ x)⟩
end
/-- the tuple at a, each item in a new pair -/
def IteT (K : PySem.W.Frag) (a : Addr) : It :=
  ⟨fun i H => ∃ (xs : List V) (x : V), SqT K H a xs ∧ xs[i]? = some x, fun i H v H' => ∃ T x, v = .ref T ∧ H T = none ∧ H' = upd H T (.tup [.int (i : Nat), x]) ∧ ∀ xs, SqT K H a xs → xs[i]? = some x, fun i H => ∃ xs : List V, SqT K H a xs ∧ xs.length = i⟩
theorem turn_enumT {P : Program} {w : World} {K : PySem.W.Frag} {elts : List Expr} {kk : Nat} {tpos : Pos} (a e it : Addr) :
    Turn P w K (.Tuple elts kk tpos) (IteT K a) [e, it] e (fun i h => (∃ old, IsEnum h e it ((i : Nat) : Int) old) ∧ h.IsTupleIter it a i ∧ e ≠ it) where
  mem := by simp
  obj := fun i h st b hb => by
    obtain ⟨⟨old, he⟩, ⟨o, ho, hc, hd⟩, _⟩ := st
    have e' : b = e ∨ b = it := by simpa using hb
    rcases e' with z | z
    · rw [z]; exact ⟨_, he, fun v q => nomatch q⟩
    · rw [z]; exact ⟨o, ho, fun v q => by rw [hd] at q; cases q⟩
  keep := fun i h h' st k => let ⟨⟨old, he⟩, hi, hne⟩ := st; ⟨⟨old, k e (by simp) _ he⟩, hi.at fun o q => k it (by simp) o q, hne⟩
  item := by
    intro X hP hw hK hc i pins s σ H E I hf st hg
    subst hP hw hK
    obtain ⟨⟨old, he⟩, hit, hne⟩ := st
    obtain ⟨xs, x, hq, hx⟩ := hg
    obtain ⟨its, rv, p, hz⟩ := I.tuple hq
    obtain ⟨u, hu, ru⟩ := rv.get hx
    have hel : e < s.heap.objs.size := Heap.lt_size he
    have hil : it < s.heap.objs.size := by obtain ⟨_, q, _⟩ := hit; exact Heap.lt_size q
    have hp : s.heap.IsTuple a its.toArray := p
    have hae : a ≠ e := fun z => by
      subst z
      obtain ⟨o, ho, hc, _⟩ := hp
      rw [show s.heap.get? a = _ from he] at ho
      cases ho
      exact absurd (show Value.type "enumerate" = Value.type "tuple" from hc) (by decide)
    have hai : a ≠ it := fun z => by
      subst z
      obtain ⟨o, ho, hc, _⟩ := hp
      obtain ⟨o2, ho2, hc2, _⟩ := hit
      rw [ho] at ho2
      cases ho2
      rw [hc] at hc2
      exact nomatch hc2
    have hlt : i < its.toArray.size := by
      have := (List.getElem?_eq_some_iff.mp hu).1
      simpa using this
    refine wpAny_pyNext_enum_itemD (Draws.tuple (prog := X.prog) (w := X.w) (A := X.A.in1) (I.ok.hd hc) it a hai its.toArray) he ⟨hit, hp⟩ hlt hne (by simp; exact ⟨hne, Ne.symm hae⟩) fun x' h' tk hx' ho st' hT hsz hk => ?_
    have hxu : x' = u := by
      have : its.toArray[i]? = some u := by simpa using hu
      rw [hx'] at this
      exact Option.some.inj this
    subst hxu
    refine ⟨_, rfl, wpAny_letOwnedTupleGo_enum (s := { s with heap := h', toks := tk + 1 }) ho fun h'' he' sb => ?_⟩
    have hT2 : h''.get? s.heap.objs.size = some { cls := .type "tuple", data := .seq #[.int i tk, x'] } := (sb.2 _ (Nat.ne_of_gt hel)).trans hT
    have new : ObjOk X.prog X.w (upd H s.heap.objs.size (.tup [.int (i : Nat), x])) h'' s.heap.objs.size (.tup [.int (i : Nat), x]) :=
      ⟨by show 2 ≤ sizeLine; decide, [.int i tk, x'], .cons ⟨_, rfl⟩ (.cons ru .nil), ⟨_, hT2, rfl, _, rfl⟩⟩
    have I1 : Inv X pins σ (upd H s.heap.objs.size (.tup [.int (i : Nat), x])) { s with heap := h'', toks := tk + 1 } :=
      I.turnedNew (ch := [e, it]) (fun b ob hb q => (sb.2 b (fun z => hb (by simp [z]))).trans (hk b ob (fun z => hb (by simp [z])) (fun z => hb (by simp [z])) q)) hf (Nat.le_refl _) new
    refine ⟨.ref s.heap.objs.size, _, I1, rfl, ⟨_, x, rfl, I.hok.fresh (Nat.le_refl _), rfl, fun ys hy => ?_⟩, ⟨⟨x', ?_⟩, st'.1.at fun o q => (sb.2 it (Ne.symm hne)).trans q, hne⟩, fun b hb => ?_⟩
    · rw [I.tuple_inj hy hq]; exact hx
    · have e1 : ((i + 1 : Nat) : Int) = (i : Int) + 1 := by omega
      rw [e1]; exact he'
    · have hb' : b < s.heap.objs.size := by
        have e' : b = e ∨ b = it := by simpa using hb
        rcases e' with z | z
        · rw [z]; exact hel
        · rw [z]; exact hil
      rw [upd_ne (Nat.ne_of_lt hb')]
      exact (hf b hb).1
  done := by
    intro X hP hw hK hc i pins s σ H E I hf st hg
    subst hP hw hK
    obtain ⟨⟨old, he⟩, hit, hne⟩ := st
    obtain ⟨xs, hq, hx⟩ := hg
    obtain ⟨its, rv, p, hz⟩ := I.tuple hq
    have hp : s.heap.IsTuple a its.toArray := p
    obtain ⟨f0, f1, f2, f3, f4, f5⟩ := hf it (by simp)
    have hl := rv.length
    have hai : a ≠ it := fun z => by
      subst z
      obtain ⟨o, ho, hc, _⟩ := hp
      obtain ⟨o2, ho2, hc2, _⟩ := hit
      rw [ho] at ho2
      cases ho2
      rw [hc] at hc2
      exact nomatch hc2
    have hn : its.toArray.size = i := by simp; omega
    exact wpAny_pyNext_enum_endD (Draws.tuple (prog := X.prog) (w := X.w) (A := X.A.in1) (I.ok.hd hc) it a hai its.toArray) he (by rw [hn]; exact ⟨hit, hp⟩) fun h' eb => ⟨rfl, I.turned (t' := s.toks) (fun b o hb q => eb b o hb q) f0 f1 f3 f4 f5⟩
  self := fun A i s Q E st h => let ⟨⟨_, he⟩, _⟩ := st; wpAny_pyIter_enum he h
def iEnumT (K : PySem.W.Frag) (ta : TA) : TI := fun σ H R => ta σ H fun vs H1 => ∃ a xs, vs = [.ref a] ∧ SqT K H1 a xs ∧ R (IteT K a) H1
theorem pi_enumT {X : Cx} {e : Expr} {ta : TA} {p pos tpos : Pos} {elts : List Expr} {kk : Nat} (hg : Gl X "enumerate") (hm : X.mg "enumerate" = none) (ha : PA X [e] ta) (hs : starEach [e] X.env = [(false, eval e X.env)] := by rfl) :
    PI X (.Tuple elts kk tpos) (.Call (.Name "enumerate" p) [e] [] pos) (iEnumT X.K ta) := by
  refine ⟨fun pins s σ H R I h => ?_⟩
  refine Call_ (ld_blt I hg hm boot_enumerate (PyProof.Rows.callWith_type1 (thn (ha.run pos pins s σ H _ I h) fun us s1 ⟨vs, H1, I1, r1, q1⟩ => ?_) hs rfl))
  obtain ⟨a, xs, ex, hq, q⟩ := q1
  subst ex
  cases r1 with
  | cons r rr =>
    cases rr
    cases r
    obtain ⟨its, rv, p', hz⟩ := I1.tuple hq
    refine call_enum_tup (show s1.heap.IsTuple a its.toArray from p') fun h' he hit hsz hk => wpAny_pyIter_enum he ?_
    have I2 : Inv X pins σ H1 { s1 with heap := h' } := I1.kept (t' := s1.toks) hk
    refine ⟨s1.heap.objs.size + 1, [s1.heap.objs.size + 1, s1.heap.objs.size], _, _, H1, rfl, I2, turn_enumT a (s1.heap.objs.size + 1) s1.heap.objs.size, ⟨⟨.none, he⟩, hit, Nat.succ_ne_self _⟩, fun b hb => ?_, q⟩
    have e' : b = s1.heap.objs.size + 1 ∨ b = s1.heap.objs.size := by simpa using hb
    have hle : s1.heap.objs.size ≤ b := by
      rcases e' with z | z
      · rw [z]; exact Nat.le_add_right _ _
      · rw [z]; exact Nat.le_refl _
    exact I1.fpOk hle (I1.hok.fresh hle)
def enumD : Nat → List D → List D
  | _, [] => []
  | i, d :: ds => .tup [.int (i : Nat), d] :: enumD (i + 1) ds
theorem enumD_get : ∀ {ds : List D} {n i : Nat} {d : D}, (enumD n ds)[i]? = some d → ∃ d', ds[i]? = some d' ∧ d = .tup [.int ((n + i : Nat) : Int), d']
  | [], n, i, d, h => by simp [enumD] at h
  | x :: ds, n, 0, d, h => by
    cases h
    exact ⟨x, rfl, rfl⟩
  | x :: ds, n, i + 1, d, h => by
    obtain ⟨d', h1, h2⟩ := enumD_get (ds := ds) (n := n + 1) (i := i) h
    refine ⟨d', h1, ?_⟩
    rw [h2]
    have : n + 1 + i = n + (i + 1) := by omega
    rw [this]
theorem enumD_len : ∀ (ds : List D) (n : Nat), (enumD n ds).length = ds.length
  | [], _ => rfl
  | _ :: ds, n => by rw [enumD, List.length_cons, List.length_cons, enumD_len ds]
theorem enumD_bnd {m : Nat} : ∀ {ds : List D} {n : Nat}, bndL m ds → bndL m (enumD n ds)
  | [], _, _ => trivial
  | _ :: ds, n, ⟨h1, h2⟩ => ⟨⟨trivial, h1, trivial⟩, enumD_bnd h2⟩
def diEnum (t : DA) : DI := fun ρ S Q => t ρ S fun ds S1 => on1 ds fun d => onTup d fun xs => Q (enumD 0 xs) S1
theorem di_enum {X : Cx} {e : Expr} {p pos tpos : Pos} {elts : List Expr} {kk : Nat} {da : DA} (hg : Gl X "enumerate") (hm : X.mg "enumerate" = none) (ha : DAs X [e] da) (hs : starEach [e] X.env = [(false, eval e X.env)] := by rfl) :
    DIt X (.Tuple elts kk tpos) (.Call (.Name "enumerate" p) [e] [] pos) (diEnum da) := by
  obtain ⟨⟨te, h1, h2⟩⟩ := ha
  refine ⟨_, pi_enumT hg hm h1 hs, fun α ρ S σ H Q R so ro q k => ?_⟩
  refine h2 α ρ S σ H _ _ so ro q fun vs H1 α1 ds S1 t1 so1 r1 q1 => ?_
  obtain ⟨d, v, rfl, rfl, r2, q2⟩ := on1.rp r1 q1
  cases d with
  | tup ds =>
    obtain ⟨a, xs, e, ht, hr⟩ := r2
    subst e
    refine ⟨a, xs, rfl, ht.sq, k _ H1 α1 (enumD 0 ds) S1 t1 so1 (enumD_bnd (RpL.bnd ds xs hr)) q2 ?_ ?_ ?_⟩
    · intro i α2 H2 hi t2
      have hl := hr.len
      rw [enumD_len] at hi
      exact ⟨xs, xs[i]'(by omega), (ht.stp t2).sq, by simp⟩
    · intro α2 H2 t2
      exact ⟨xs, (ht.stp t2).sq, by rw [hr.len, enumD_len]⟩
    · rintro i α2 H2 x H3 d hd t2 ⟨S0, so0⟩ ⟨T, y, rfl, hT, rfl, hy⟩
      obtain ⟨d', hd', rfl⟩ := enumD_get hd
      have h3 := hy xs (ht.stp t2).sq
      obtain ⟨v, hv, rv⟩ := (RpL.stp t2 ds xs hr).get hd'
      rw [h3] at hv
      cases hv
      have tn := Stp.new_ (α := α2) (o := HO.tup [.int (i : Nat), y]) hT
      refine ⟨α2, tn, fun S2 so => so.grow (keep_new hT), T, _, rfl, ⟨upd_same, ?_⟩, _, _, rfl, ?_, _, _, rfl, Rp.stp tn _ _ rv, rfl⟩
      · exact so0.off_new hT
      · show V.int (i : Nat) = V.int ((0 + i : Nat) : Int)
        rw [Nat.zero_add]
  | _ => exact q2.elim
end DL

/-! DL, 12: f-strings, join. -/
namespace DL
open PySem PySem.Spec PyProof.Rows L2
section
variable {X : Cx} {e a b c o v1 v2 : Expr} {es rest : List Expr} {pos apos : Pos} {t to : DT}
def dFmt (t : DT) : DT := fun ρ S Q => t ρ S fun d S1 => match d with
  | .str y => y.length ≤ sizeLine ∧ Q (.str y) S1
  | .int i => i.natAbs.log2 < 1920 ∧ Q (.str (toString i)) S1
  | _ => False
theorem de_fmt (h : DE X e t) : DE X (.FormattedValue e (-1) none pos) (dFmt t) := by
  obtain ⟨⟨t1, h1, h2⟩⟩ := h
  refine ⟨_, pe_fmt h1, fun α ρ S σ H Q Q' so ro q k => ?_⟩
  refine h2 α ρ S σ H _ _ so ro q fun v H1 α1 d S1 t1 so1 r1 q1 => ?_
  cases d with
  | str y =>
    cases (show v = .str y from r1)
    exact Or.inl ⟨y, rfl, q1.1, (k.stp t1).str so1 q1.2⟩
  | int i =>
    cases (show v = .int i from r1)
    exact Or.inr ⟨i, rfl, q1.1, (k.stp t1).str so1 q1.2⟩
  | _ => exact q1.elim
def dJs : List DT → Str → Rho → Store → (Str → Store → Prop) → Prop
  | [], acc, _, S, Q => Q acc S
  | t :: ts, acc, ρ, S, Q => t ρ S fun d S1 => match d with
    | .str y => (acc ++ y).length ≤ sizeLine ∧ dJs ts (acc ++ y) ρ S1 Q
    | _ => False
structure DJ (X : Cx) (es : List Expr) (ts : List DT) : Prop where
  ex : ∃ tt, PJ X es tt ∧ ∀ (acc : Str) α ρ S σ H (Q : Str → Store → Prop) (Q' : Str → Hp → Prop), StoreOk X.K α H S → RhoOk X.K α H ρ σ → dJs ts acc ρ S Q →
    (∀ y H' α' S', Stp α H α' H' → StoreOk X.K α' H' S' → Q y S' → Q' y H') → tJs tt acc σ H Q'
theorem dj_nil : DJ X [] [] := ⟨[], .nil, fun acc α ρ S σ H Q Q' so ro q k => k acc H α S (Stp.refl _ _) so q⟩
theorem dj_cons {ts : List DT} (h : DE X e t) (r : DJ X es ts) : DJ X (e :: es) (t :: ts) := by
  obtain ⟨⟨t1, h1, h2⟩⟩ := h
  obtain ⟨⟨tt, h3, h4⟩⟩ := r
  refine ⟨_, .cons h1 h3, fun acc α ρ S σ H Q Q' so ro q k => ?_⟩
  refine h2 α ρ S σ H _ _ so ro q fun v H1 α1 d S1 t1 so1 r1 q1 => ?_
  cases d with
  | str y =>
    cases (show v = .str y from r1)
    exact ⟨y, rfl, q1.1, h4 (acc ++ y) α1 ρ S1 σ H1 _ _ so1 (ro.stp t1) q1.2 fun z H' α' S' t' so' q' => k z H' α' S' (t1.trans t') so' q'⟩
  | _ => exact q1.elim
def dJoined (ts : List DT) : DT := fun ρ S Q => dJs ts Str.empty ρ S fun y S1 => Q (.str y) S1
theorem de_joined {ts : List DT} (h : DJ X (v1 :: v2 :: rest) ts) : DE X (.JoinedStr (v1 :: v2 :: rest) pos) (dJoined ts) := by
  obtain ⟨⟨tt, h1, h2⟩⟩ := h
  refine ⟨_, pe_joined h1, fun α ρ S σ H Q Q' so ro q k => ?_⟩
  exact h2 Str.empty α ρ S σ H _ _ so ro q fun y H' α' S' t' so' q' => (k.stp t').str so' q'
theorem de_joined1 (h : DE X e t) : DE X (.JoinedStr [e] pos) t := by
  obtain ⟨⟨tt, h1, h2⟩⟩ := h
  exact ⟨_, pe_joined1 h1, h2⟩
/-- s.join(xs) -/
def dJoin (to t : DT) : DT := fun ρ S Q => to ρ S fun x S1 => (∃ a, x = .str a) ∧ t ρ S1 fun y S2 => onSeq y S2 fun ds => ∃ (a : Str) (ys : List Str), x = .str a ∧ ds = ys.map D.str ∧ (ys.map (·.length)).sum + ys.length * a.length ≤ 16777216 ∧ Q (.str (Txt.join a ys)) S2
theorem RpL.strs {K : PySem.W.Frag} {α : Locs} {H : Hp} : ∀ {ys : List Str} {xs : List V}, RpL K α H xs (ys.map D.str) → xs = ys.map V.str
  | [], xs, r => r
  | y :: ys, xs, ⟨v, t, e, r1, r2⟩ => by
    subst e
    cases (show v = .str y from r1)
    rw [List.map_cons, RpL.strs r2]
theorem de_join (ho : DE X o to) (he : DE X e t) (hs : starEach [e] X.env = [(false, eval e X.env)] := by rfl) (hbase : attributeBase o "join" X.env (eval o X.env) = eval o X.env := by rfl) (hline : (apos.endLine == pos.line) = true := by rfl) :
    DE X (.Call (.Attribute o "join" apos) [e] [] pos) (dJoin to t) := by
  obtain ⟨⟨t1, h1, h2⟩⟩ := ho
  obtain ⟨⟨t2, h3, h4⟩⟩ := he
  refine ⟨_, pe_join h1 h3 hs hbase hline, fun α ρ S σ H Q Q' so ro q k => ?_⟩
  refine h2 α ρ S σ H _ _ so ro q fun v H1 α1 d S1 t1 so1 r1 q1 => ?_
  obtain ⟨⟨a, rfl⟩, q1⟩ := q1
  cases (show v = .str a from r1)
  refine ⟨⟨a, rfl⟩, ?_⟩
  refine h4 α1 ρ S1 σ H1 _ _ so1 (ro.stp t1) q1 fun v H2 α2 y S2 t2 so2 r2 q2 => ?_
  obtain ⟨p, xs, ds, rfl, hsq, hr, a', ys, ea, rfl, hz, q3⟩ := onSeq.rp so2 r2 q2
  cases ea
  rw [RpL.strs hr] at hsq
  exact ⟨a, p, ys, rfl, rfl, hsq, hz, (k.stp (t1.trans t2)).str so2 q3⟩
end
/-! lengths of texts -/
theorem len_int {i : Int} (h : i.natAbs.log2 < 64) : (Str.ofString (toString i)).length ≤ 65 := by
  rw [PySem.ofString_length]
  exact int_text_length_le (k := 64) (by decide) h
theorem log2_small {i : Int} {b : Nat} (h : i.natAbs < 2 ^ b) (h0 : 0 < b) : i.natAbs.log2 < b := by
  by_cases hz : i.natAbs = 0
  · rw [hz]; simpa using h0
  · exact (Nat.log2_lt hz).mpr h
end DL

/-! DL, 13: dicts of the module with text keys, tuples of the module. -/
namespace DL
open PySem PySem.Spec PyProof.Rows L2
structure KTab (K : PySem.W.Frag) (w : World) (a : Addr) (tab : List (Str × D)) : Prop where
  ex : ∃ es n, KDict K w a es n ∧ ∀ z : Str, ∃ r, PySem.W.nsIn K a z = some r ∧ match tab.lookup z with
    | none => r = none
    | some d => ∃ u v, r = some u ∧ RelV v u ∧ ∀ α H, Rp K α H v d
section
variable {X : Cx} {e a b c o : Expr} {es : List Expr} {pos : Pos} {t ta tb : DT} {q : Addr} {tab : List (Str × D)}
def rdKIn (q : Addr) (tab : List (Str × D)) : RD := fun y x S Q => match x, y with
  | .cst q', .str z => q' = q ∧ Q (.bl (tab.lookup z).isSome) S
  | _, _ => False
theorem od_kIn (T : KTab X.K X.w q tab) : OpD X (compareOp .In) (rdKIn q tab) := by
  obtain ⟨es, n, kd, hz⟩ := T.ex
  refine ⟨_, op_in_kd kd, fun α S H y x u v Q Q' so ry rx h k => ?_⟩
  cases x with
  | cst q' =>
    cases y with
    | str z =>
      obtain ⟨rfl, h⟩ := h
      cases (show v = .ref q' from rx)
      cases (show u = .str z from ry)
      obtain ⟨r, hr, hm⟩ := hz z
      refine ⟨z, r, rfl, rfl, hr, ?_⟩
      have : r.isSome = (tab.lookup z).isSome := by
        cases e : tab.lookup z with
        | none => rw [e] at hm; rw [show r = none from hm]; rfl
        | some d =>
          rw [e] at hm
          obtain ⟨u, v, hu, _⟩ := hm
          rw [hu]; rfl
      rw [this]
      exact k.bl so h
    | _ => exact h.elim
  | _ => exact h.elim
def rdKGet (q : Addr) (tab : List (Str × D)) : RD := fun x y S Q => match x, y with
  | .cst q', .str z => q' = q ∧ onOpt (tab.lookup z) fun d => Q d S
  | _, _ => False
theorem ix_kGet (T : KTab X.K X.w q tab) : IxD X (rdKGet q tab) := by
  obtain ⟨es, n, kd, hz⟩ := T.ex
  refine ⟨fun x y H Q => ∃ (z : Str) (u0 : Value) (v0 : V), x = .ref q ∧ y = .str z ∧ PySem.W.nsIn X.K q z = some (some u0) ∧ RelV v0 u0 ∧ Q v0 H, ?_, fun α S H x y v u Q Q' so rx ry h k => ?_⟩
  · intro value slice pins s σ H x y v u Q I rx ry h hs
    have hop := op_item_kd kd pins s σ H x y v u Q I rx ry h
    obtain ⟨z, u0, v0, rfl, rfl, _⟩ := h
    cases rx
    exact tail_any (kd_type kd I) slot_dict_getitem.lookup hop hs
  · cases x with
    | cst q' =>
      cases y with
      | str z =>
        obtain ⟨rfl, d, hd, h⟩ := h
        obtain ⟨r, hr, hm⟩ := hz z
        rw [hd] at hm
        obtain ⟨u0, v0, rfl, rv, rp⟩ := hm
        exact ⟨z, u0, v0, rx, ry, hr, rv, k v0 H α d S (Stp.refl _ _) so (rp α H) h⟩
      | _ => exact h.elim
    | _ => exact h.elim
end

/-! a, b = t, t a new tuple or one of the module's -/
structure CTup (K : PySem.W.Frag) (q : Addr) (ds : List D) : Prop where
  ex : ∃ xs, KT K q xs ∧ ∀ α H, RpL K α H xs ds
def gdTupC (cs : Addr → List D → Prop) (n : Nat) (gs : DGs) : DG := fun d ρ S Q => match d with
  | .tup ds => ds.length = n ∧ gs ds ρ S Q
  | .cst q => ∃ ds, cs q ds ∧ ds.length = n ∧ gs ds ρ S Q
  | _ => False
theorem dg_tupC {X : Cx} {es : List Expr} {pos : Pos} {cs : Addr → List D → Prop} {ws : List Nat} {k : Nat} {gs : DGs} {n : Nat} (hc : X.calm = true) (hcs : ∀ q ds, cs q ds → CTup X.K q ds) (h : DGts X es ws gs)
    (hn : (assignEach es X.env).length = n := by rfl) (hst : (assignEach es X.env).findIdx? (·.1) = none := by rfl) : DGt X (.Tuple es k pos) ws (gdTupC cs n gs) := by
  obtain ⟨⟨g1, h3, h4⟩⟩ := h
  refine ⟨_, pg_tup hc h3 hn hst, fun α ρ S σ H v d Q Q' so ro r q k => ?_⟩
  cases d with
  | tup ds =>
    obtain ⟨a, xs, e, ht, hr⟩ := r
    exact ⟨a, xs, e, ht.sq, by rw [hr.len]; exact q.1, h4 α ρ S σ H xs ds Q Q' so ro hr q.2 k⟩
  | cst a =>
    obtain ⟨ds, hd, hl, q⟩ := q
    obtain ⟨xs, ht, hr⟩ := (hcs a ds hd).ex
    exact ⟨a, xs, r, Or.inr ht, by rw [(hr α H).len]; exact hl, h4 α ρ S σ H xs ds Q Q' so ro (hr α H) q k⟩
  | _ => exact q.elim
end DL

/-! DL, 14: returns that let go. -/
namespace DL
open PySem L2
theorem Rt.cutTo {S S' S'' : Store} {Q : DK} {d d' : D} (c : CutTo S S' S'') (f : Frz S.length S' d d') (q : Q d' S'') : Rt S Q d S' := by
  unfold Rt
  exact Or.inr ⟨S'', d', c, f, q⟩
/-- the object at l has got its attributes -/
theorem Rt.obj {S S' : Store} {Q : DK} {l : Nat} {C : Addr} {fs fs' : List (Str × D)} {d : D} (hl : l < S.length) (he : S'[l]? = some (.ins C fs)) (hf : FrzF S.length S' fs fs') (ho : ∀ m, m < S.length → m ≠ l → S'[m]? = S[m]?) (hb : bnd S.length d)
    (q : Q d (S.set l (.ins C fs'))) : Rt S Q d S' := by
  refine Rt.cutTo ⟨List.length_set .., fun m o hm e => ?_⟩ (.same hb) q
  by_cases h : m = l
  · subst h
    rw [he] at e
    cases e
    exact Or.inr ⟨_, List.getElem?_set_self hl, .ins hf⟩
  · rw [ho m hm h] at e
    exact Or.inl ⟨e, by rw [List.getElem?_set_ne (Ne.symm h)]; exact e⟩
/-- a new object, handed on as a tree -/
theorem Rt.tree {S S' : Store} {Q : DK} {l : Nat} {C : Addr} {fs : List (Str × D)} (hl : S.length ≤ l) (he : S'[l]? = some (.ins C fs)) (hb : bndF S.length fs) (ho : ∀ m, m < S.length → S'[m]? = S[m]?) (q : Q (.obj C fs) S) : Rt S Q (.loc l) S' := by
  refine Rt.cutTo (S'' := S) ⟨rfl, fun m o hm e => ?_⟩ (.ins hl he hb) q
  rw [ho m hm] at e
  exact Or.inl ⟨e, e⟩

theorem de_globIE {X : Cx} {x : Str} {i : Int} {pos : Pos} (hg : Gl X x) (hm : ∃ t, X.mg x = some (.int i t)) (hd : (x == ("__debug__" : Str)) = false := by decide) : DE X (.Name x pos) (dC (.int i)) := by
  obtain ⟨t, h⟩ := hm
  exact de_globI hg h ⟨_, rfl⟩ hd
theorem de_globSE {X : Cx} {x : Str} {i : Str} {pos : Pos} (hg : Gl X x) (hm : ∃ t, X.mg x = some (.str i t)) (hd : (x == ("__debug__" : Str)) = false := by decide) : DE X (.Name x pos) (dC (.str i)) := by
  obtain ⟨t, h⟩ := hm
  exact de_globS hg h ⟨_, rfl⟩ hd

theorem sjoin_le (a : Str) : ∀ ys : List Str, (Str.join a ys).length ≤ (ys.map (·.length)).sum + ys.length * a.length
  | [] => Nat.zero_le _
  | [x] => by show x.length ≤ _; simp
  | x :: y :: r => by
    have ih := sjoin_le a (y :: r)
    show (x ++ a ++ Str.join a (y :: r)).length ≤ _
    rw [PySem.Str.length_append, PySem.Str.length_append]
    rw [List.map_cons, List.sum_cons, List.length_cons, Nat.add_mul]
    omega
theorem join_le (a : Str) (ys : List Str) : (Txt.join a ys).length ≤ (ys.map (·.length)).sum + ys.length * a.length := by
  rw [TL.join_eq]; exact sjoin_le a ys
theorem sum_le {n : Nat} : ∀ ys : List Str, (∀ y ∈ ys, y.length ≤ n) → (ys.map (·.length)).sum ≤ n * ys.length
  | [], _ => by simp
  | y :: r, h => by
    have ih := sum_le r fun z hz => h z (List.mem_cons_of_mem _ hz)
    have h1 := h y List.mem_cons_self
    rw [List.map_cons, List.sum_cons, List.length_cons, Nat.mul_add]
    omega
theorem len_cat (a b : Str) : (a ++ b).length = a.length + b.length := PySem.Str.length_append a b
theorem len_e : Str.empty.length = 0 := rfl
theorem line_le6 {n : Nat} (h : n ≤ 100000) : n ≤ sizeLine := Nat.le_trans h (by decide)
theorem log_le {i : Int} (h : i.natAbs < 2 ^ 64) : i.natAbs.log2 < 1920 := Nat.lt_of_lt_of_le (log2_small (b := 64) h (by decide)) (by decide)

theorem bind_star3 {B : List Value → Sem (List (Str × Value))} {p1 p2 p3 pv : Str} (h0 : ∀ a b c, B [a, b, c] = (newTuple [] >>= fun t => pure [(p1, a), (p2, b), (p3, c), (pv, t)])) (h1 : ∀ a b c r rs, B (a :: b :: c :: r :: rs) = (newTuple (r :: rs) >>= fun t => pure [(p1, a), (p2, b), (p3, c), (pv, t)])) :
    ∀ us rest : List Value, us.length = [p1, p2, p3].length → B (us ++ rest) = (newTuple rest >>= fun t => pure ([p1, p2, p3].zip us ++ [(pv, t)]))
  | [a, b, c], [], _ => h0 a b c
  | [a, b, c], r :: rs, _ => h1 a b c r rs
end DL

/-! DL, 15: o.f op= value. -/
namespace DL
open PySem PySem.Spec PyProof.Rows L2
def rInI (p : Int → Int → Prop) (f : Int → Int → Int) : V → V → Hp → VK → Prop := fun x y H Q => ∃ i j, x = .int i ∧ y = .int j ∧ p i j ∧ Q (.int (f i j)) H
section
variable {X : Cx} {e a b c o value : Expr} {es : List Expr} {pos tpos : Pos} {t tv : DT} {C : Addr} {f : Str}
theorem inI_add : InOp X .Add (rInI (fun _ _ => True) fun i j => i + j) := fun pins s σ H x y u v Q I rx ry ⟨i, j, e1, e2, _, q⟩ => in_add pins s σ H x y u v Q I rx ry ⟨i, j, e1, e2, q⟩
theorem inI_sub : InOp X .Sub (rInI (fun _ _ => True) fun i j => i - j) := fun pins s σ H x y u v Q I rx ry ⟨i, j, e1, e2, _, q⟩ => in_sub pins s σ H x y u v Q I rx ry ⟨i, j, e1, e2, q⟩
theorem inI_mod : InOp X .Mod (rInI (fun _ j => 0 < j) fun i j => i % j) := by
  rintro pins s σ H x y u v Q I rx ry ⟨i, j, rfl, rfl, hj, q⟩
  obtain ⟨t, rfl⟩ := (show ∃ t, u = Value.int i t from rx)
  obtain ⟨t', rfl⟩ := (show ∃ t', v = Value.int j t' from ry)
  refine imod_int (by omega) ?_
  rw [Int.fmod_eq_emod_of_nonneg _ (by omega)]
  exact ⟨.int (i % j), H, I.tok _, ⟨_, rfl⟩, q⟩
def sFldAugD (C : Addr) (to tv : DT) (p : Int → Int → Prop) (g : Int → Int → Int) (f : Str) : DS := fun E ρ S => to ρ S fun x S1 => match x with
  | .loc l => onOpt S1[l]? fun ob => match ob with
    | .ins C' fs => C' = C ∧ onOpt (fs.lookup f) fun d => onInt d fun i => tv ρ S1 fun y S2 => onInt y fun j => p i j ∧ onOpt S2[l]? fun ob2 => match ob2 with
      | .ins C2 fs2 => C2 = C ∧ fs2.length < 1000 ∧ E.nx ρ (S2.set l (.ins C (putD f (.int (g i j)) fs2)))
      | _ => False
    | _ => False
  | _ => False
theorem ds_fldaug {op : Operator} {p : Int → Int → Prop} {g : Int → Int → Int} (hop : InOp X op (rInI p g)) (ho : DE X o t) (hv : DE X value tv) (c : Cls X.K C) (n : NoAttr X.K C f) : DSt X (.AugAssign (.Attribute o f tpos) op value pos) (sFldAugD C t tv p g f) := by
  obtain ⟨⟨t1, h1, h2⟩⟩ := ho
  obtain ⟨⟨t2, h3, h4⟩⟩ := hv
  refine ⟨_, ps_fldaug h1 h3 hop, fun α ρ S σ H E F so ro q k => ?_⟩
  refine h2 α ρ S σ H _ _ so ro q fun x H1 α1 xd S1 s1 so1 r1 q1 => ?_
  cases xd with
  | loc l =>
    obtain ⟨a, rfl, ha⟩ := r1
    obtain ⟨ob, hob, q2⟩ : onOpt S1[l]? _ := q1
    have hh := so1.ob l a ob ha hob
    cases ob with
    | ins C' fs =>
      obtain ⟨rfl, d, hd, q3⟩ := q2
      obtain ⟨dx, xs, h5, h6⟩ := hh
      obtain ⟨v, hv, rv⟩ := h6.lookup hd
      obtain ⟨i, rfl, rfl, q4⟩ := onInt.rp rv q3
      refine ⟨a, C', dx, xs, .int i, rfl, h5, c, n, hv, ?_⟩
      refine h4 α1 ρ S1 σ H1 _ _ so1 (ro.stp s1) q4 fun y H2 α2 yd S2 s2 so2 r2 q5 => ?_
      obtain ⟨j, rfl, rfl, hp, ob2, hob2, q6⟩ := onInt.rp r2 q5
      have ha2 := s2.pre _ _ ha
      have hh2 := so2.ob l a ob2 ha2 hob2
      refine ⟨i, j, rfl, rfl, hp, ?_⟩
      cases ob2 with
      | ins C2 fs2 =>
        obtain ⟨rfl, hz, q7⟩ := q6
        obtain ⟨dx2, xs2, h7, h8⟩ := hh2
        have tm := Stp.mut (u := HO.ins C2 dx2 (putF f (.int (g i j)) xs2)) ha2 h7
        refine ⟨dx2, xs2, h7, by rw [h8.len]; exact hz, ?_⟩
        exact k.nx σ _ α2 ρ _ ((s1.trans s2).trans tm) (so2.set (ob := .ins C2 (putD f (.int (g i j)) fs2)) ha2 h7 ⟨dx2, _, upd_same, RpF.stp tm _ _ (RpF.put (d := .int (g i j)) rfl h8)⟩) (ro.stp ((s1.trans s2).trans tm)) q7
      | _ => exact q6.elim
    | _ => exact q2.elim
  | _ => exact q1.elim
end
end DL

/-! DL, 16: a list comprehension over a list that lives in the store (and stays as it is meanwhile). -/
namespace DL
open PySem PySem.Spec PyProof.Rows L2
def compM0 (l : Nat) (ds : List D) (n : Nat) (g : DG) (tt : DTt) (te : DT) (ρ : Rho) : List D → Store → (Store → Prop) → Prop
  | [], S, Q => S[l]? = some (.lst ds) ∧ Q S
  | x :: r, S, Q => S[l]? = some (.lst ds) ∧ elemR g tt te ρ x S fun o S4 => match o with
    | some y => ∃ acc, S4[n]? = some (.lst acc) ∧ acc.length < sizeLine ∧ compM0 l ds n g tt te ρ r (S4.set n (.lst (acc ++ [y]))) Q
    | none => compM0 l ds n g tt te ρ r S4 Q
@[irreducible] def compM (l : Nat) (ds : List D) (n : Nat) (g : DG) (tt : DTt) (te : DT) (ρ : Rho) : List D → Store → (Store → Prop) → Prop := compM0 l ds n g tt te ρ
theorem compM_nil {l n : Nat} {ds : List D} {g : DG} {tt : DTt} {te : DT} {ρ : Rho} {S : Store} {Q : Store → Prop} : compM l ds n g tt te ρ [] S Q = (S[l]? = some (.lst ds) ∧ Q S) := by unfold compM; rfl
theorem compM_cons {l n : Nat} {ds : List D} {g : DG} {tt : DTt} {te : DT} {ρ : Rho} {x : D} {r : List D} {S : Store} {Q : Store → Prop} : compM l ds n g tt te ρ (x :: r) S Q = (S[l]? = some (.lst ds) ∧ elemR g tt te ρ x S fun o S4 => match o with
    | some y => ∃ acc, S4[n]? = some (.lst acc) ∧ acc.length < sizeLine ∧ compM l ds n g tt te ρ r (S4.set n (.lst (acc ++ [y]))) Q
    | none => compM l ds n g tt te ρ r S4 Q) := by
  unfold compM
  rfl
def dCompM (t0 : DT) (g : DG) (tt : DTt) (te : DT) (vs : List Nat) : DT := fun ρ S Q => t0 ρ S fun d S1 => match d with
  | .loc l => ∃ ds, S1[l]? = some (.lst ds) ∧ compM l ds S1.length g tt te (wipeR ρ vs) ds (S1 ++ [.lst []]) fun S2 => Q (.loc S1.length) S2
  | _ => False
theorem StoreOk.lst {K : PySem.W.Frag} {α : Locs} {H : Hp} {S : Store} {l : Nat} {a : Addr} {ds : List D} (so : StoreOk K α H S) (h : α[l]? = some (some a)) (e : S[l]? = some (.lst ds)) : ∃ xs, H a = some (.lst xs) ∧ RpL K α H xs ds := by
  obtain ⟨o, u, e1, e2, e3⟩ := so.live h
  rw [e] at e1
  cases e1
  exact e2
theorem lift_compM {K : PySem.W.Frag} {te0 : TE} {t0 : DT} {g : TG} {gd : DG} {tt : TT} {td : DTt} {te : TE} {t : DT} {ws vs : List Nat} (h2 : LiftE K te0 t0) (h4 : LiftG K ws g gd) (h6 : LiftT K tt td) (h8 : LiftE K te t) (sub : ∀ i ∈ ws, i ∈ vs) :
    LiftE K (tLc (iList K te0) g tt te vs) (dCompM t0 gd td t vs) := fun α ρ S σ H Q Q' so ro q k => by
  refine h2 α ρ S σ H _ _ so ro q fun v H1 α1 d S1 t1 so1 r1 q1 => ?_
  cases d with
  | loc lv =>
    obtain ⟨a, rfl, hla⟩ := r1
    obtain ⟨ds, hds, q1⟩ := q1
    obtain ⟨xs0, hx0, hr0⟩ := so1.lst hla hds
    refine ⟨a, rfl, ⟨xs0, SqL.of hx0⟩, ?_⟩
    intro DD hD
    have ta := Stp.push (α := α1) (o := HO.lst []) hD
    have soa := so1.push (o := .lst []) (ob := .lst []) hD ⟨[], upd_same, rfl⟩
    have hlen : α1.length = S1.length := so1.len
    have hloc : (α1 ++ [some DD])[S1.length]? = some (some DD) := by rw [← hlen]; simp
    have hla1 : (α1 ++ [some DD])[lv]? = some (some a) := ta.pre _ _ hla
    refine ⟨fun i m H => m = ds.length - i ∧ i ≤ ds.length ∧ ∃ α S, Stp (α1 ++ [some DD]) (upd H1 DD (.lst [])) α H ∧ StoreOk K α H S ∧ compM lv ds S1.length gd td t (wipeR ρ vs) (ds.drop i) S (fun S2 => Q (.loc S1.length) S2), ⟨ds.length, by simp, Nat.zero_le _, _, _, Stp.refl _ _, soa, q1⟩, ?_⟩
    rintro i m H2 ⟨rfl, hi, α2, S2, t2, so2, q2⟩
    have t12 := (t1.trans ta).trans t2
    have hla2 : α2[lv]? = some (some a) := t2.pre _ _ hla1
    by_cases hlt : i < ds.length
    · obtain ⟨d, hd, hdrop⟩ := drop_of_get hlt
      rw [hdrop, compM_cons] at q2
      obtain ⟨hnow, q2⟩ := q2
      obtain ⟨xs, hx, hr⟩ := so2.lst hla2 hnow
      have hl := hr.len
      refine Or.inr ⟨⟨xs, xs[i]'(by omega), SqL.of hx, by simp⟩, fun H' => ∃ α S, Stp (α1 ++ [some DD]) (upd H1 DD (.lst [])) α H' ∧ StoreOk K α H' S ∧ compM lv ds S1.length gd td t (wipeR ρ vs) (ds.drop (i + 1)) S (fun S2 => Q (.loc S1.length) S2), ?_, ?_⟩
      · rintro H' ⟨α', S', z⟩
        exact ⟨ds.length - (i + 1), by omega, rfl, hlt, α', S', z⟩
      · rintro x H3 ⟨rfl, hy⟩
        have h3 := hy xs (SqL.of hx)
        obtain ⟨v, hv, r3⟩ := hr.get hd
        rw [h3] at hv
        cases hv
        refine h4 α2 (wipeR ρ vs) S2 (wipe σ vs) _ x d _ _ so2 (wipe_ok (ro.stp t12) vs) r3 q2 fun σ4 H4 α4 ρ4 S4 sb t4 so4 ro4 q4 => ⟨wipe_same sb sub, ?_⟩
        refine h6 α4 ρ4 S4 σ4 H4 _ _ so4 ro4 q4 fun bb H5 α5 S5 t5 so5 q5 => ?_
        have t25 := (t2.trans t4).trans t5
        cases bb with
        | true =>
          rw [if_pos rfl]
          refine h8 α5 ρ4 S5 σ4 H5 _ _ so5 (ro4.stp t5) (q5.1 rfl) fun y H6 α6 yd S6 t6 so6 r6 ⟨acc, hacc, hz, q6⟩ => ?_
          have hl6 : α6[S1.length]? = some (some DD) := (t25.trans t6).pre _ _ hloc
          obtain ⟨o, u, e1, e2, e3⟩ := so6.live hl6
          rw [hacc] at e1
          cases e1
          obtain ⟨xs, e4, e5⟩ := e2
          have tm := Stp.mut (u := HO.lst (xs ++ [y])) hl6 e4
          refine ⟨xs, e4, by rw [e5.len]; exact hz, α6, _, (t25.trans t6).trans tm, so6.set (ob := .lst (acc ++ [yd])) hl6 e4 ⟨_, upd_same, RpL.stp tm _ _ (RpL.append e5 (RpL.one r6))⟩, q6⟩
        | false =>
          rw [if_neg Bool.false_ne_true]
          exact ⟨α5, S5, t25, so5, q5.2 rfl⟩
    · have e : i = ds.length := by omega
      subst e
      rw [List.drop_length, compM_nil] at q2
      obtain ⟨hnow, q2⟩ := q2
      obtain ⟨xs, hx, hr⟩ := so2.lst hla2 hnow
      exact Or.inl ⟨⟨xs, SqL.of hx, by rw [hr.len]; exact Nat.le_refl _⟩, k _ H2 α2 (.loc S1.length) S2 t12 so2 ⟨DD, rfl, t2.pre _ _ hloc⟩ q2⟩
  | _ => exact q1.elim
theorem de_lcM {X : Cx} {pos : Pos} {t t0 : DT} {elt tg iter : Expr} {ifs : List Expr} {scope : Scope} {own : List (Str × Nat)} {ws : List Nat} {g : DG} {tt : DTt} (hc : X.calm = true) (hN : X.N.Nodup) (hi : DE X iter t0) (ok : BlkOk X.N X.env.scope scope own)
    (hg : ∀ (s : Shared) (H : Hp) (C : Addr) (cl : List (Str × Addr)) (fp : List Addr), DGt (X.blk s H scope (compEnvC scope cl C X.env) fp) tg ws g) (ht : ∀ (s : Shared) (H : Hp) (C : Addr) (cl : List (Str × Addr)) (fp : List Addr), DTsts (X.blk s H scope (compEnvC scope cl C X.env) fp) ifs tt)
    (he : ∀ (s : Shared) (H : Hp) (C : Addr) (cl : List (Str × Addr)) (fp : List Addr), DE (X.blk s H scope (compEnvC scope cl C X.env) fp) elt t) (sub : ∀ i ∈ ws, i ∈ own.map (·.2) := by decide) (hs : ∀ x, foldedSetIterable iter X.env x = pure x := by intro _; rfl) :
    DE X (.ListComp elt [⟨tg, iter, ifs, 0⟩] scope pos) (dCompM t0 g tt t (own.map (·.2))) := by
  obtain ⟨⟨te, h1, h2⟩⟩ := hi
  exact ⟨_, pe_lc hc hN (pi_list h1) ok (fun s H C cl fp => (hg s H C cl fp).pg) (fun s H C cl fp => (ht s H C cl fp).pts) (fun s H C cl fp => (he s H C cl fp).pe) hs, lift_compM h2 lift_canonG lift_canonT lift_canon sub⟩
theorem compM_inv {l n : Nat} {ds : List D} {g : DG} {tt : DTt} {te : DT} {ρ : Rho} {Q : Store → Prop} (I : Nat → List D → Store → Prop) (hI : ∀ i acc S, I i acc S → S[l]? = some (.lst ds)) : ∀ (items : List D) (i : Nat) (acc : List D) (S : Store), I i acc S →
    (∀ j x acc S, items[j]? = some x → I (i + j) acc S → ∀ k : Option D → Store → Prop, (∀ y S', S'[n]? = some (.lst acc) → acc.length < sizeLine → I (i + j + 1) (acc ++ [y]) (S'.set n (.lst (acc ++ [y]))) → k (some y) S') → (∀ S', I (i + j + 1) acc S' → k none S') → elemR g tt te ρ x S k) →
    (∀ acc S, I (i + items.length) acc S → Q S) → compM l ds n g tt te ρ items S Q
  | [], i, acc, S, h0, hs, hq => by
    rw [compM_nil]
    exact ⟨hI _ _ _ h0, hq acc S h0⟩
  | x :: r, i, acc, S, h0, hs, hq => by
    rw [compM_cons]
    refine ⟨hI _ _ _ h0, hs 0 x acc S rfl h0 _ (fun y S' h1 h2 h3 => ?_) (fun S' h3 => ?_)⟩
    · refine ⟨acc, h1, h2, compM_inv I hI r (i + 1) _ _ h3 (fun j x acc S hj hJ => ?_) (fun acc S hJ => ?_)⟩
      · rw [show i + 1 + j = i + (j + 1) by omega] at hJ ⊢
        exact hs (j + 1) x acc S (by rw [List.getElem?_cons_succ]; exact hj) hJ
      · exact hq acc S (by rw [List.length_cons, show i + (r.length + 1) = i + 1 + r.length by omega]; exact hJ)
    · refine compM_inv I hI r (i + 1) _ _ h3 (fun j x acc S hj hJ => ?_) (fun acc S hJ => ?_)
      · rw [show i + 1 + j = i + (j + 1) by omega] at hJ ⊢
        exact hs (j + 1) x acc S (by rw [List.getElem?_cons_succ]; exact hj) hJ
      · exact hq acc S (by rw [List.length_cons, show i + (r.length + 1) = i + 1 + r.length by omega]; exact hJ)
end DL

/-! DL, 17: an instance made without a star where __init__ has one; repr of a number or None; the least of a list; comprehensions over live lists let go as trees. -/
namespace DL
open PySem PySem.Spec PyProof.Rows L2 StX ClX
section
variable {X : Cx} {e : Expr} {es : List Expr} {pos p : Pos} {td : DA} {C f : Addr} {k n : Nat} {x : Str} {dsp : DSp}
theorem de_makeR (M : Mk X.K C f) (F : FnR X.prog X.w X.K X.mg X.base CX0 k f (spStar X.K n dsp)) (hr : Room (k + 1) X.A) (hx : Passes CX0 X E0) (hg : Gl X x) (hm : X.mg x = some (.ref C)) (ha : DAs X (e :: es) td)
    (hdb : (x == ("__debug__" : Str)) = false := by decide)
    (he : starEach (e :: es) X.env = (false, eval e X.env) :: starEach es X.env := by rfl) (hpl : (backTo pos (starEach es X.env)).any (·.1) = false := by rfl) :
    DE X (.Call (.Name x p) (e :: es) [] pos) (dMakeS C n dsp td) := by
  obtain ⟨⟨t1, h1, h2⟩⟩ := ha
  exact ⟨_, pe_makeR M F hr hg hm hx h1 hdb he hpl, lift_makeS h2⟩
theorem call_repr_non : CallR X (.builtin "repr") (fun xs H Q => xs = [.non] ∧ Q (.str "None") H) := by
  intro pins s σ H xs us Q I r h
  obtain ⟨rfl, q⟩ := h
  obtain ⟨u, rfl, ru⟩ := vals1 r
  cases ru
  exact PySem.P.repr_of_none ⟨.str _, H, I.tok _, ⟨_, rfl⟩, q⟩
def cdRepr : CD := fun ds S Q => on1 ds fun d => match d with
  | .int i => i.natAbs.log2 < 1920 ∧ Q (.str (toString i)) S
  | .non => Q (.str "None") S
  | _ => False
theorem cd_repr : CallD X (.builtin "repr") cdRepr := by
  refine ⟨_, SkE.call_repr_int.or call_repr_non, fun α S H xs vs Q Q' so r h k => ?_⟩
  obtain ⟨d, v, rfl, rfl, rv, h⟩ := on1.rp r h
  cases d with
  | int i =>
    cases (show v = .int i from rv)
    exact Or.inl ⟨i, rfl, h.1, k.str so h.2⟩
  | non =>
    cases (show v = .non from rv)
    exact Or.inr ⟨rfl, k.str so h⟩
  | _ => exact h.elim
theorem rpl_ints {K : PySem.W.Frag} {α : Locs} {H : Hp} : ∀ {ns : List Int} {xs : List V}, RpL K α H xs (ns.map D.int) → xs = ns.map V.int
  | [], xs, h => h
  | n :: r, xs, h => by
    obtain ⟨v, u, e, h1, h2⟩ := h
    rw [e, show v = .int n from h1, rpl_ints h2]; rfl
def cdMinL : CD := fun ds S Q => on1 ds fun d => onLst d S fun xs => ∃ ns : List Int, xs = ns.map D.int ∧ 0 < ns.length ∧ ∀ m, m ∈ ns → (∀ y, y ∈ ns → m ≤ y) → Q (.int m) S
theorem cd_minL (hc : X.calm = true) : CallD X (.builtin "min") cdMinL := by
  refine ⟨_, cr_min hc, fun α S H xs vs Q Q' so r h k => ?_⟩
  obtain ⟨d, v, rfl, rfl, rv, h⟩ := on1.rp r h
  obtain ⟨a, xs, ds, rfl, hsq, hr, ns, rfl, hl, h2⟩ := onLst.rp so rv h
  rw [rpl_ints hr] at hsq
  exact ⟨a, ns, rfl, hsq, hl, fun m h1 h3 => k.int so (h2 m h1 h3)⟩
theorem ds_setLcM {i : Nat} {y : Str} {py : Pos} {t t0 : DT} {elt tg iter : Expr} {ifs : List Expr} {scope : Scope} {own : List (Str × Nat)} {spos : Pos} {ws : List Nat} {g : DG} {tt : DTt} (hc : X.calm = true) (hN : X.N.Nodup) (hy : X.N[i]? = some y) (hyl : X.env.scope.names.lookup y = some .local)
    (hsw : swapsWith (.ListComp elt [⟨tg, iter, ifs, 0⟩] scope pos) (some (.Name y py)) spos.line X.env = pure true) (hi : DE X iter t0) (ok : BlkOk X.N X.env.scope scope own)
    (hg : ∀ (s : Shared) (H : Hp) (C : Addr) (cl : List (Str × Addr)) (fp : List Addr), DGt (X.blk s H scope (compEnvC scope cl C X.env) fp) tg ws g) (ht : ∀ (s : Shared) (H : Hp) (C : Addr) (cl : List (Str × Addr)) (fp : List Addr), DTsts (X.blk s H scope (compEnvC scope cl C X.env) fp) ifs tt)
    (he : ∀ (s : Shared) (H : Hp) (C : Addr) (cl : List (Str × Addr)) (fp : List Addr), DE (X.blk s H scope (compEnvC scope cl C X.env) fp) elt t) (sub : ∀ i ∈ ws, i ∈ own.map (·.2) := by decide) (hs : ∀ x, foldedSetIterable iter X.env x = pure x := by intro _; rfl) :
    DSt X (.Assign [.Name y py] (.ListComp elt [⟨tg, iter, ifs, 0⟩] scope pos) spos) (sAsg (dGc (dCompM t0 g tt t (own.map (·.2)))) (gdName i)) := by
  obtain ⟨⟨te, h1, h2⟩⟩ := hi
  refine ⟨_, ps_setLc hc hN hy hyl hsw (pi_list h1) ok (fun s H C cl fp => (hg s H C cl fp).pg) (fun s H C cl fp => (ht s H C cl fp).pts) (fun s H C cl fp => (he s H C cl fp).pe) hs, lift_asg (ws := [i]) (lift_gc (lift_compM h2 lift_canonG lift_canonT lift_canon sub)) ?_⟩
  exact fun α ρ S σ H v d Q Q' so ro r q k => k _ H α _ S ⟨List.length_set .., fun j hj => List.getElem?_set_ne fun e => hj (by rw [e]; exact List.mem_singleton.mpr rfl)⟩ (Stp.refl _ _) so (RhoOk.set i r ro) q
end
theorem compM_pure {l : Nat} {ds : List D} {g : DG} {tt : DTt} {te : DT} {ρ : Rho} {S : Store} {Q : Store → Prop} (f : D → Option D) (hl : S[l]? = some (.lst ds)) : ∀ (items acc : List D), (∀ x ∈ items, ∀ acc k, k (f x) (S ++ [.lst acc]) → elemR g tt te ρ x (S ++ [.lst acc]) k) →
    acc.length + items.length ≤ sizeLine → Q (S ++ [.lst (acc ++ items.filterMap f)]) → compM l ds S.length g tt te ρ items (S ++ [.lst acc]) Q
  | [], acc, _, _, q => by
    rw [List.filterMap_nil, List.append_nil] at q
    rw [compM_nil]; exact ⟨app_left hl, q⟩
  | x :: r, acc, h, hz, q => by
    rw [List.length_cons] at hz
    rw [compM_cons]
    refine ⟨app_left hl, h x List.mem_cons_self acc _ ?_⟩
    cases e : f x with
    | none =>
      rw [List.filterMap_cons_none e] at q
      exact compM_pure f hl r acc (fun y hy => h y (List.mem_cons_of_mem _ hy)) (by omega) q
    | some y =>
      rw [List.filterMap_cons_some e] at q
      refine ⟨acc, getElem_push _ _, by omega, ?_⟩
      rw [set_push]
      refine compM_pure f hl r (acc ++ [y]) (fun y hy => h y (List.mem_cons_of_mem _ hy)) (by rw [List.length_append]; simp; omega) ?_
      rw [List.append_assoc]; exact q
/-- a comprehension over the live list ds, its own list let go as a tree -/
theorem compM_gc {l : Nat} {ds : List D} {g : DG} {tt : DTt} {te : DT} {ρ : Rho} {S : Store} {Q : DK} (f : D → Option D) (hl : S[l]? = some (.lst ds))
    (h : ∀ x ∈ ds, ∀ acc k, k (f x) (S ++ [.lst acc]) → elemR g tt te ρ x (S ++ [.lst acc]) k) (hz : ds.length ≤ sizeLine) (hb : bndL S.length (ds.filterMap f)) (q : Q (.lst (ds.filterMap f)) S) :
    compM l ds S.length g tt te ρ ds (S ++ [.lst []]) fun S2 => Rt S Q (.loc S.length) S2 := by
  refine compM_pure f hl ds [] h (by simpa using hz) ?_
  rw [List.nil_append]
  unfold Rt
  refine Or.inl ⟨CutOk.same, Or.inl ⟨_, Frz.lst (Nat.le_refl _) (getElem_push _ _) hb, ?_⟩⟩
  rw [take_push]; exact q
end DL

/-! DL, 18: isinstance of an own class. -/
namespace DL
open PySem PySem.Spec PyProof.Rows L2
def cdIsC (C : Addr) : CD := fun ds S Q => on2 ds fun x y => y = .cst C ∧ onObj C x S fun _ => Q (.bl true) S
theorem cd_isC {X : Cx} {C : Addr} (c : C8.InsC X.K C) : CallD X (.builtin "isinstance") (cdIsC C) := by
  refine ⟨_, C8.call_isC c, fun α S H xs vs Q Q' so r h k => ?_⟩
  obtain ⟨d1, d2, v1, v2, rfl, rfl, r1, r2, h0⟩ := on2.rp r (show on2 _ _ from h)
  obtain ⟨rfl, h1⟩ := (show _ ∧ onObj C d1 S (fun _ => Q (.bl true) S) from h0)
  obtain ⟨a, dx, ys, fs, rfl, ha, hr, q1⟩ := onObj.rp so r1 h1
  cases (show v2 = .ref C from r2)
  exact ⟨a, dx, ys, rfl, ha, k.bl so q1⟩
end DL

/-! DL, 19: sorted({a, b}) and sorted(set([a, b])) of ints. -/
namespace DL
open PySem PySem.Spec PyProof.Rows L2
section
variable {prog : Program} {w : World} {A : Around} {E : Value → Shared → Prop} {s : Shared}
abbrev freshSet (w : World) : Obj := { cls := .type "set", dict := none, data := .set #[] 0 (.fresh 0 0 (!w.params.followText "set-order")) }
theorem make_set {Q : Value → Shared → Prop} (h : Q (.ref s.heap.objs.size) { s with heap := s.heap.push (freshSet w) }) : wpAny (model prog w) A (newSet (.type "set")) Q E s := by
  unfold newSet setsByText
  refine wpAny_bind (wpAny_bind (wpAny_askSetting (wpAny_pure ?_)))
  simp only [newObj]
  exact wpAny_bind (wpAny_alloc (wpAny_pure h))
theorem one_by_one {b : Bool} {elts : List (Bool × Sem Value)} {ts : List (Sem Value)} {Q : Value → Shared → Prop} (hs : elts.findIdx? (·.1) = none) (hlen : elts.length ≤ 30) (hm : elts.map (·.2) = ts)
    (h : wpAny (model prog w) A (evalAll ts) (fun vs s' => PySem.W.KdsFill (model prog w) A E false s.heap.objs.size Q vs s') E { s with heap := s.heap.push (freshSet w) }) :
    wpAny (model prog w) A (setDisplay .oneByOne b elts) Q E s := by
  have hn : (if elts.length > 30 then 0 else (elts.findIdx? (·.1)).getD elts.length) = elts.length := by rw [if_neg (by omega), hs]; rfl
  unfold setDisplay
  rw [if_neg (by decide)]
  refine wpAny_bind (make_set ?_)
  dsimp only
  rw [hn, List.take_length, List.drop_length, hm]
  refine wpAny_bind (wpAny_holding (wpAny_bind (wpAny_mono h (fun vs s' h' => ?_) fun _ _ x => x)))
  refine wpAny_bind (wpAny_holding (wpAny_bind (wpAny_mono (PySem.W.kds_for (fun x P s hx => ?_) vs s' h') (fun _ s1 h1 => ?_) fun _ _ x => x)))
  · refine wpAny_bind (wpAny_mono hx (fun _ s2 h2 => ?_) fun _ _ x => x)
    first | exact wpAny_pure ⟨rfl, h2⟩ | exact wpAny_bind (wpAny_pure (wpAny_pure ⟨rfl, h2⟩))
  · have h2 : Q (.ref s.heap.objs.size) s1 := by simpa [PySem.W.KdsFill] using h1
    rw [if_neg (by decide)]
    refine wpAny_pure ?_
    rw [List.forIn_nil]
    exact wpAny_pure (wpAny_pure h2)
/-- the set's members, one after another -/
theorem fill_set {D : Addr} {Q : Value → Shared → Prop} {h₀ : Heap} : ∀ (ns : List Int) (vs : List Value) (h : Heap) (k : Nat) (S : Int → Bool) (n : Nat), IntsAre vs ns → SetR w h D S n → (∀ b o, b ≠ D → h₀.get? b = some o → h.get? b = some o) → n + ns.length < 60 →
    (∀ h' k' n', SetR w h' D (fun j => S j || decide (j ∈ ns)) n' → n' ≤ n + ns.length → (∀ b o, b ≠ D → h₀.get? b = some o → h'.get? b = some o) → Q (.ref D) { s with heap := h', toks := k' }) →
    PySem.W.KdsFill (model prog w) A E false D Q vs { s with heap := h, toks := k }
  | [], _, h, k, S, n, .nil, R, hk, _, q => PySem.W.kds_fill_nil rfl (q h k n (R.congr fun j => by simp) (Nat.le_add_right _ _) hk)
  | a :: ns, _, h, k, S, n, .cons _ t r, R, hk, hn, q => by
    rw [List.length_cons] at hn
    refine PySem.W.kds_fill_cons ?_
    unfold setAdd
    refine wpAny_holding (wpAny_bind ((intKind prog w).pyHash (k := a) (intKind_is _ _ _ _) ?_))
    refine setR_add_hashed (s := { s with heap := h, toks := k + 1 }) R (by unfold scanBound; omega) fun h' sb R' => ?_
    refine fill_set ns _ h' (k + 1) _ _ r R' (fun b o hb e => (sb.2 b hb).trans (hk b o hb e)) (by split <;> omega) fun h2 k2 n2 a1 a2 a3 => q h2 k2 n2 (a1.congr fun j => ?_) ?_ a3
    · simp [Bool.or_assoc]
    · rw [List.length_cons]
      split at a2 <;> omega
end
section
variable {X : Cx} {e1 e2 : Expr} {t1 t2 : TE} {pos : Pos}
/-- a display of two ints -/
def tSet2 (w : World) (t1 t2 : TE) : TE := fun σ H Q => ∀ q, H q = none → t1 σ (upd H q (SetO w q (fun _ => false) 0)) fun x H1 => t2 σ H1 fun y H2 => ∃ a b : Int, x = .int a ∧ y = .int b ∧ H2 q = some (SetO w q (fun _ => false) 0) ∧
  ∀ n, n ≤ 2 → Q (.ref q) (upd H2 q (SetO w q (fun j => false || decide (j ∈ [a, b])) n))
theorem pe_set2 (h1 : PE X e1 t1) (h2 : PE X e2 t2) (hcd : PySem.W.kdsCode X.K X.env.code = true) (hp : [e1, e2].all PySem.W.kdsPlain = true) : PE X (.Set [e1, e2] 0 pos) (tSet2 X.w t1 t2) := by
  refine ⟨fun pins s σ H Q I h => ?_⟩
  have hn : H s.heap.objs.size = none := I.hok.fresh (Nat.le_refl _)
  rw [arm_eval_Set]
  refine wpAny_bind (wpAny_standAt ?_)
  refine wpAny_bind (PySem.W.kds_main I.kIn hcd fun b => ?_)
  rw [PySem.W.kds_star _ hp]
  refine one_by_one (ts := (evalEach [e1, e2] X.env).map fun t => do let v ← t; standAt pos; pure v) ?_ ?_ ?_ ?_
  · refine List.findIdx?_eq_none_iff.mpr fun x hx => ?_
    rw [List.map_map] at hx
    obtain ⟨t, _, rfl⟩ := List.mem_map.mp hx
    rfl
  · rw [List.length_map, List.length_map, PySem.W.kds_len]
    exact Nat.le_of_ble_eq_true rfl
  · rw [List.map_map, List.map_map]
    rfl
  · refine PySem.W.kds_all pos [e1, e2] _ _ ?_
    have I0 : Inv X pins σ (upd H s.heap.objs.size (SetO X.w s.heap.objs.size (fun _ => false) 0)) { s with heap := s.heap.push (freshSet X.w) } :=
      I.laid (t' := s.toks) (fun b u e => Heap.get?_push_of_some _ e) (Nat.le_refl _) (setO_new (setR_fresh X.w))
    show wpAny (model X.prog X.w) X.A (eval e1 X.env) _ _ _
    refine thn (h1.run pins _ σ _ _ I0 (h _ hn)) fun u1 s1 ⟨x, H1, I1, r1, q1⟩ => ?_
    show wpAny (model X.prog X.w) X.A (eval e2 X.env) _ _ _
    refine thn (h2.run pins _ σ _ _ I1 q1) fun u2 s2 ⟨y, H2, I2, r2, q2⟩ => ?_
    obtain ⟨a, b, rfl, rfl, hq, q2⟩ := q2
    obtain ⟨k1, rfl⟩ := r1
    obtain ⟨k2, rfl⟩ := r2
    have R := setO_get I2 hq
    refine fill_set (s := s2) (h₀ := s2.heap) [a, b] _ s2.heap s2.toks _ 0 (.cons _ _ (.cons _ _ .nil)) R (fun _ _ _ e => e) (show 0 + 2 < 60 by decide) fun h' k' n' R' hn' hk => ?_
    have he : ∃ u, h'.get? s.heap.objs.size = some u := by
      have ⟨o, _, _, _, ho, _⟩ := R'
      exact ⟨o, ho⟩
    exact ⟨.ref _, _, I2.write (e := s.heap.objs.size) (t' := k') (by rw [hq]; trivial) (.inl rfl) (fun b u hb hu => hk b u hb hu) he (setO_new R'), rfl, q2 n' (by simpa using hn')⟩
end
theorem strict_uniq : ∀ {l1 l2 : List Int}, l1.Pairwise (· < ·) → l2.Pairwise (· < ·) → (∀ k, k ∈ l1 ↔ k ∈ l2) → l1 = l2
  | [], [], _, _, _ => rfl
  | [], b :: r, _, _, h => absurd ((h b).mpr List.mem_cons_self) List.not_mem_nil
  | a :: r, [], _, _, h => absurd ((h a).mp List.mem_cons_self) List.not_mem_nil
  | a :: r, b :: r2, p1, p2, h => by
    obtain ⟨p1, q1⟩ := List.pairwise_cons.mp p1
    obtain ⟨p2, q2⟩ := List.pairwise_cons.mp p2
    have e : a = b := by
      rcases List.mem_cons.mp ((h a).mp List.mem_cons_self) with e | e
      · exact e
      · rcases List.mem_cons.mp ((h b).mpr List.mem_cons_self) with e2 | e2
        · exact e2.symm
        · have := p1 b e2
          have := p2 a e
          omega
    subst e
    rw [strict_uniq q1 q2 fun k => ?_]
    constructor
    · intro hk
      rcases List.mem_cons.mp ((h k).mp (List.mem_cons_of_mem _ hk)) with e | e
      · have := p1 k hk; omega
      · exact e
    · intro hk
      rcases List.mem_cons.mp ((h k).mpr (List.mem_cons_of_mem _ hk)) with e | e
      · have := p2 k hk; omega
      · exact e
def twoL (a b : Int) : List Int := if a < b then [a, b] else if b < a then [b, a] else [a]
theorem twoL_of {a b : Int} {ns : List Int} (p : ns.Pairwise (· < ·)) (h : ∀ k, k ∈ ns ↔ k ∈ [a, b]) : ns = twoL a b := by
  refine strict_uniq p ?_ fun k => (h k).trans ?_
  · unfold twoL
    split
    · exact .cons (fun x hx => by rw [List.mem_singleton] at hx; subst hx; assumption) (.cons (fun _ h => nomatch h) .nil)
    · split
      · exact .cons (fun x hx => by rw [List.mem_singleton] at hx; subst hx; assumption) (.cons (fun _ h => nomatch h) .nil)
      · exact .cons (fun _ h => nomatch h) .nil
  · unfold twoL
    split
    · exact Iff.rfl
    · split
      · simp only [List.mem_cons, List.not_mem_nil, or_false]; omega
      · simp only [List.mem_cons, List.not_mem_nil, or_false]; omega
/-! an object that only the set's rules know is written -/
section
variable {K : PySem.W.Frag} {α α' : Locs} {H H' : Hp} {S : Store} {g : Addr} {o : HO} {φ : Heap → Prop}
theorem Stp.fix {u : HO} (t : Stp α H α' H') (h0 : H g = none) (h1 : H' g = some u) : Stp α H α' (upd H' g o) where
  keep := fun a u h f => by rw [upd_ne (ne_of_none h h0)]; exact t.keep a u h f
  dom := fun a h => by
    by_cases e : a = g
    · rw [e]; exact h0
    · rw [upd_ne e] at h; exact t.dom a h
  pre := t.pre
  new := t.new
theorem ext_ne (hg : H g = some (.ext φ)) {a : Addr} {u : HO} (h : H a = some u) (hu : ∀ ψ, u ≠ .ext ψ) : upd H g o a = some u := by
  have : a ≠ g := fun e => by rw [e, hg] at h; exact hu φ (Option.some.inj h).symm
  rw [upd_ne this]; exact h
theorem Rd.ext (hg : H g = some (.ext φ)) {a : Addr} {xs : List V} (h : Rd H a (.lst xs)) : Rd (upd H g o) a (.lst xs) := by
  rcases h with h | ⟨u, h⟩
  · exact Or.inl (ext_ne hg h (fun _ z => nomatch z))
  · exact Or.inr ⟨u, ext_ne hg h (fun _ z => nomatch z)⟩
mutual
theorem Rp.ext (hg : H g = some (.ext φ)) : ∀ (d : D) (v : V), Rp K α H v d → Rp K α (upd H g o) v d
  | .non, v, h => h
  | .bl b, v, h => h
  | .int i, v, h => h
  | .str s, v, h => h
  | .tup ds, v, ⟨a, xs, e, hs, hr⟩ => ⟨a, xs, e, ⟨ext_ne hg hs.1 (fun _ z => nomatch z), hs.2⟩, RpL.ext hg ds xs hr⟩
  | .lst ds, v, ⟨a, xs, e, hs, f, hr⟩ => ⟨a, xs, e, ext_ne hg hs (fun _ z => nomatch z), f, RpL.ext hg ds xs hr⟩
  | .dk kvs, v, ⟨a, xs, e, hs, f, hr⟩ => ⟨a, xs, e, ext_ne hg hs (fun _ z => nomatch z), f, RpK.ext hg kvs xs hr⟩
  | .dt kvs, v, ⟨a, xs, e, hs, f, hr⟩ => ⟨a, xs, e, ext_ne hg hs (fun _ z => nomatch z), f, RpT.ext hg kvs xs hr⟩
  | .obj C fs, v, ⟨a, dx, xs, e, hs, f, hr⟩ => ⟨a, dx, xs, e, ext_ne hg hs (fun _ z => nomatch z), f, RpF.ext hg fs xs hr⟩
  | .loc l, v, h => h
  | .cst a, v, h => h
  | .ty n, v, h => h
  | .scr ns, v, ⟨a, e, hs⟩ => ⟨a, e, hs.elim (fun h => Or.inl ⟨Rd.ext hg h.1, h.2⟩) Or.inr⟩
theorem RpL.ext (hg : H g = some (.ext φ)) : ∀ (ds : List D) (vs : List V), RpL K α H vs ds → RpL K α (upd H g o) vs ds
  | [], vs, h => h
  | d :: ds, vs, ⟨v, r, e, h1, h2⟩ => ⟨v, r, e, Rp.ext hg d v h1, RpL.ext hg ds r h2⟩
theorem RpK.ext (hg : H g = some (.ext φ)) : ∀ (ds : List (Key × D)) (vs : List (Key × V)), RpK K α H vs ds → RpK K α (upd H g o) vs ds
  | [], vs, h => h
  | (k, d) :: ds, vs, ⟨v, r, e, h1, h2⟩ => ⟨v, r, e, Rp.ext hg d v h1, RpK.ext hg ds r h2⟩
theorem RpT.ext (hg : H g = some (.ext φ)) : ∀ (ds : List (List Key × D)) (vs : List (List Key × V)), RpT K α H vs ds → RpT K α (upd H g o) vs ds
  | [], vs, h => h
  | (k, d) :: ds, vs, ⟨v, r, e, h1, h2⟩ => ⟨v, r, e, Rp.ext hg d v h1, RpT.ext hg ds r h2⟩
theorem RpF.ext (hg : H g = some (.ext φ)) : ∀ (ds : List (Str × D)) (vs : List (Str × V)), RpF K α H vs ds → RpF K α (upd H g o) vs ds
  | [], vs, h => h
  | (k, d) :: ds, vs, ⟨v, r, e, h1, h2⟩ => ⟨v, r, e, Rp.ext hg d v h1, RpF.ext hg ds r h2⟩
end
theorem StoreOk.ext (so : StoreOk K α H S) (hg : H g = some (.ext φ)) (f : Off α g) : StoreOk K α (upd H g o) S where
  len := so.len
  inj := so.inj
  ob := fun l a u h e => by
    have ne : a ≠ g := fun z => f l (by rw [← z]; exact h)
    have r := so.ob l a u h e
    cases u with
    | lst ds => obtain ⟨xs, h1, h2⟩ := r; exact ⟨xs, by rw [upd_ne ne]; exact h1, RpL.ext hg _ _ h2⟩
    | dk ds => obtain ⟨xs, h1, h2⟩ := r; exact ⟨xs, by rw [upd_ne ne]; exact h1, RpK.ext hg _ _ h2⟩
    | dt ds => obtain ⟨xs, h1, h2⟩ := r; exact ⟨xs, by rw [upd_ne ne]; exact h1, RpT.ext hg _ _ h2⟩
    | ins C ds => obtain ⟨dx, xs, h1, h2⟩ := r; exact ⟨dx, xs, by rw [upd_ne ne]; exact h1, RpF.ext hg _ _ h2⟩
    | ext u => exact (upd_ne ne).trans r
end
def dSSet2 (t1 t2 : DT) : DT := fun ρ S Q => t1 ρ S fun x S1 => onInt x fun a => t2 ρ S1 fun y S2 => onInt y fun b => Q (.loc S2.length) (S2 ++ [.lst ((twoL a b).map D.int)])
theorem de_sset2 {X : Cx} {e1 e2 : Expr} {t1 t2 : DT} {p q pos : Pos} (hc : X.calm = true) (hcd : PySem.W.kdsCode X.K X.env.code = true) (hg : Gl X "sorted") (hm : X.mg "sorted" = none) (h1 : DE X e1 t1) (h2 : DE X e2 t2)
    (hp : [e1, e2].all PySem.W.kdsPlain = true := by rfl) : DE X (.Call (.Name "sorted" p) [.Set [e1, e2] 0 q] [] pos) (dSSet2 t1 t2) := by
  obtain ⟨⟨u1, a1, b1⟩⟩ := h1
  obtain ⟨⟨u2, a2, b2⟩⟩ := h2
  refine ⟨_, pe_callB (cr_sortedSet hc) hg hm (by decide +kernel) (pa_cons (pe_set2 a1 a2 hcd hp) pa_nil rfl), fun α ρ S σ H Q Q' so ro h k => ?_⟩
  intro g hgn
  have tg : Stp α H α (upd H g (SetO X.w g (fun _ => false) 0)) := Stp.new_ hgn
  have sog := so.grow (keep_new (o := SetO X.w g (fun _ => false) 0) hgn)
  have gof := so.off_new hgn
  refine b1 α ρ S σ _ _ _ sog (ro.stp tg) h fun v H1 α1 d S1 t1' so1 r1 q1 => ?_
  obtain ⟨a, rfl, rfl, q1⟩ := onInt.rp r1 q1
  have g1 : H1 g = some (SetO X.w g (fun _ => false) 0) := t1'.keep _ _ upd_same gof
  have gof1 : Off α1 g := t1'.off upd_same gof
  refine b2 α1 ρ S1 σ H1 _ _ so1 ((ro.stp tg).stp t1') q1 fun v2 H2 α2 d2 S2 t2' so2 r2 q2 => ?_
  obtain ⟨b, rfl, rfl, q2⟩ := onInt.rp r2 q2
  have g2 : H2 g = some (SetO X.w g (fun _ => false) 0) := t2'.keep _ _ g1 gof1
  have gof2 : Off α2 g := t2'.off g1 gof1
  refine ⟨a, b, rfl, rfl, g2, fun n hn => ?_⟩
  refine ⟨g, _, n, rfl, upd_same, by omega, fun ns p pw mem _ hp => ?_⟩
  have ens : ns = twoL a b := twoL_of pw fun k => (mem k).trans (by simp)
  subst ens
  have t3 : Stp α H α2 (upd H2 g (SetO X.w g (fun j => false || decide (j ∈ [a, b])) n)) := Stp.fix (tg.trans (t1'.trans t2')) hgn g2
  have so3 : StoreOk X.K α2 (upd H2 g (SetO X.w g (fun j => false || decide (j ∈ [a, b])) n)) S2 := so2.ext g2 gof2
  have tp := Stp.push (α := α2) (o := HO.lst ((twoL a b).map V.int)) hp
  have hloc : (α2 ++ [some p])[S2.length]? = some (some p) := by
    rw [← so2.len, List.getElem?_append_right (Nat.le_refl _), Nat.sub_self]; rfl
  exact k _ _ (α2 ++ [some p]) (.loc S2.length) _ (t3.trans tp) (so3.push (o := .lst ((twoL a b).map V.int)) (ob := .lst ((twoL a b).map D.int)) hp ⟨_, upd_same, RpL.ints _⟩) ⟨p, rfl, hloc⟩ q2
end DL

/-! DL, 20: promises that hold while no repr is under way (FnG): so the text of a tree's repr is known. -/
namespace DL
open PySem PySem.Spec PyProof.Rows L2
/-- what a def promises to a caller with no repr under way -/
structure FnG (P : Program) (w : World) (K : PySem.W.Frag) (mg : Str → Option Value) (base : Heap) (k : Nat) (f : Addr) (fd : FuncData) (ps : List Str) (sp : Sp) : Prop where
  len : ∀ vs H Q E, sp vs H Q E → vs.length = ps.length
  run : ∀ (A : Around) (outer : List Env) (s : Shared) (H : Hp) (args : Args) (us : List Value) (vs : List V) (Q : VK) (E : XK), A.guards = some [] → Room k A → Env0 P w K mg base A outer s H →
    BindsTo s fd args (ps.zip us) → Vals vs us → sp vs H Q E → codeAny (model P w) A (.call (.ref f) args) (CR CX0 outer P w H s Q E) s
section
variable {P : Program} {w : World} {K : PySem.W.Frag} {mg : Str → Option Value} {base : Heap} {k : Nat} {f : Addr} {N ps : List Str} {sp : Sp} {st : Stmt} {qual x : Str} {fd : FuncData}
theorem FnG.of (F : FnOk P w K mg base CX0 k f fd ps sp) : FnG P w K mg base k f fd ps sp :=
  ⟨F.len, fun A outer s H args us vs Q E _ => F.run A outer s H args us vs Q E⟩
theorem fnG_of {name : Str} {params : Arguments} {body : List Stmt} {scope : Scope} {dV kV doc pm cdv ct oc : Value} {an od : Option Addr} {osl : Array (Option Value)}
    (lk : K.lookup f = some ⟨oc, od, .func (PySem.W.fnOf name qual params body scope dV kV doc pm an cdv ct), osl⟩) (hcd : PySem.W.codeIn K cdv qual = true) (S : FnScope N ps scope) (len : ∀ vs H Q E, sp vs H Q E → vs.length = ps.length)
    (hb0 : ∀ (A : Around) (outer : List Env) (s : Shared) (H : Hp) (vs : List V) (Q : VK) (E : XK), A.guards = some [] → Room k (A.deeper (envOfC qual scope s.heap.objs.size f cdv)) → sp vs H Q E →
      ∃ t, PSs (cxOf CX0 P w K mg base N qual scope f cdv A outer s H E) body t ∧ t { nx := fun _ H' => Q .non H', rt := Q } (start N vs) H) :
    FnG P w K mg base (k + 1) f (PySem.W.fnOf name qual params body scope dV kV doc pm an cdv ct) ps sp where
  len := len
  run := by
    intro A outer s H args us vs Q E hG room env0 binds rel want
    have keepB : ∀ b o, base.get? b = some o → s.heap.get? b = some o := fun b o e => (env0.bs b o e).1
    have inK := env0.mod.kin.keeps keepB
    have noLim := env0.mod.nolimit.keeps keepB
    refine codeAny_call_function room.depth (inK _ _ lk) rfl S.co S.gen rfl (PySem.W.codeRec_of inK hcd) (binds _ _ _ _ (wpAny_newFunctionEnv_cells S.kind (fun y hy => ?par) fun env he s1 x => ?go))
    case par =>
      obtain ⟨n, v⟩ := y
      exact (S.par n (List.of_mem_zip hy).1).elim (fun q => .inl q) fun q => .inr ⟨q, PySem.W.cellsFrom_some _ _ _ (.inl q)⟩
    case go =>
      cases he
      obtain ⟨t, ht, hq⟩ := hb0 A outer s H vs Q E hG (room.deeper _) want
      have inv := inv_start (CX := CX0) (E := E) S room.hd env0 (len _ _ _ _ want) rel x
      refine ⟨noLim.keeps x.toInCall.keep, codeAny_func (wpAny_mono (ht.run [] s1 (start N vs) H _ inv hq) ?_ fun _ _ z => z)⟩
      intro fl s' hs
      cases fl with
      | next =>
        obtain ⟨σ', H', J, q⟩ := hs
        exact ⟨.non, H', J.os, J.bare, J.base, J.hok, rfl, q⟩
      | ret u =>
        obtain ⟨v, σ', H', J, rv, q⟩ := hs
        exact ⟨v, H', J.os, J.bare, J.base, J.hok, rv, q⟩
      | brk =>
        obtain ⟨_, _, _, q⟩ := hs
        exact absurd q id
      | cont =>
        obtain ⟨_, _, _, q⟩ := hs
        exact absurd q id
theorem dfn_okG {dsp : DSp} {t : DS} (F : Fun K x qual st f fd) (S : FnScope N ps (defScope st)) (hlen : ∀ ds S Q E, dsp ds S Q E → ds.length = ps.length)
    (hbody : ∀ (cdv : Value) (A : Around) (outer : List Env) (s : Shared) (H : Hp) (E : XK), A.guards = some [] → Room k (A.deeper (envOfC qual (defScope st) s.heap.objs.size f cdv)) → DSs (cxOf CX0 P w K mg base N qual (defScope st) f cdv A outer s H E).nox (defBody st) t)
    (spec : ∀ ds S Q E, bndL S.length ds → dsp ds S Q E → t { nx := fun _ S' => Rt S Q .non S', rt := Rt S Q } (startR N.length ds) S) : FnG P w K mg base (k + 1) f fd ps (spOf K ps.length dsp) := by
  obtain ⟨oc, od, kV, doc, pm, an, cdv, ct, osl, rfl, lk, hcd⟩ := F.ex
  refine fnG_of lk hcd S (fun vs H Q E h => h.1) fun A outer s H vs Q E hG hr h => ?_
  obtain ⟨hl, α, S0, ds, Qd, Ed, so, r, hd, ke, kx⟩ := h
  obtain ⟨⟨ts, h1, h2⟩⟩ := hbody cdv A outer s H E hG hr
  refine ⟨ts, h1.nox, ?_⟩
  have hpl : ps.length ≤ N.length := by have := congrArg List.length S.pre; rw [List.length_take] at this; omega
  have hds : ds.length ≤ N.length := by rw [hlen _ _ _ _ hd]; exact hpl
  have bd : bndL S0.length ds := by rw [← so.len]; exact r.bnd
  have fin : ∀ v H' α' d S', Stp α H α' H' → StoreOk K α' H' S' → Rp K α' H' v d → Rt S0 Qd d S' → Q v H' := fun v H' α' d S' t' so' r' q => Rt.fin so t' so' r' q ke
  exact h2 α (startR N.length ds) S0 (start N vs) H _ _ so (startR_ok r hds) (spec ds S0 Qd Ed bd hd) ⟨fun σ' H' α' ρ' S' t' so' ro' q => fin .non H' α' .non S' t' so' rfl q, fin, fun _ _ _ _ _ _ _ _ z => z.elim, fun _ _ _ _ _ _ _ _ z => z.elim⟩
end
section
variable {X : Cx} {CX : CXT} {k n : Nat} {f : Addr} {fd : FuncData} {ps : List Str} {dsp : DSp} {sp : Sp} {dvs : List V} {dfs : List Value} {x : Str} {p pos : Pos} {e : Expr} {es : List Expr} {td : DA} {E : XK}
/-- the callee of a promise FnG runs -/
theorem run_fnG {pins : List (Addr × Obj)} {σ : L2.St} {H : Hp} {s : Shared} {Q : VK} {us : List Value} {vs : List V} (hG : X.A.guards = some []) (F : FnG X.prog X.w X.K X.mg X.base k f fd ps sp) (hr : Room k X.A) (hb : Binds X.K fd ps []) (hx : Passes CX0 X E)
    (I : Inv X pins σ H s) (rel : Vals vs us) (want : sp vs H Q E) : wpAny (model X.prog X.w) X.A (call (.ref f) us) (EP X pins σ Q) X.xe s := by
  have hl : (us ++ []).length = ps.length := by
    rw [List.append_nil, ← rel.length]
    exact F.len _ _ _ _ want
  have bd := hb s us I.kIn hl
  rw [List.append_nil] at bd
  refine wpAny_call (codeAny_mono (F.run X.A X.stack s H ⟨us, []⟩ us vs Q E hG hr I.env0 bd rel want) ?_)
  rintro (er | fl) s' hq
  · exact hx pins σ H s er s' I hq
  · cases fl with
    | ret u => exact I.after hq
    | next => exact absurd hq id
    | brk => exact absurd hq id
    | cont => exact absurd hq id
theorem de_callG (hG : X.A.guards = some []) (F : FnG X.prog X.w X.K X.mg X.base k f fd ps (spOf X.K n dsp)) (hr : Room k X.A) (hg : Gl X x) (hm : X.mg x = some (.ref f)) (hk : PySem.W.keepIn X.K (.ref f) = true) (hb : Binds X.K fd ps []) (hx : Passes CX0 X E0) (hn : ∀ ds S Q E, dsp ds S Q E → ds.length = n)
    (ha : DAs X (e :: es) td) (hdb : (x == ("__debug__" : Str)) = false := by decide) (he : starEach (e :: es) X.env = (false, eval e X.env) :: starEach es X.env := by rfl) (hpl : (backTo pos (starEach es X.env)).any (·.1) = false := by rfl) :
    DE X (.Call (.Name x p) (e :: es) [] pos) (dCall dsp [] td) := by
  obtain ⟨⟨t1, h1, h2⟩⟩ := ha
  refine ⟨tCall (spOf X.K n dsp) [] E0 t1, ⟨fun pins s σ H Q I h => wpAny_Call_Name_kw (ld_glob I hg hm ?_ hdb)⟩, lift_call h2 (fun _ _ => rfl) hn⟩
  refine PySem.W.callWith_K (h₀ := X.base) I.ok.mod.kin hk (thn (h1.run pos pins s σ H _ I h) fun us s1 ⟨vs, H1, I1, r, q⟩ => ⟨I1.kIn, run_fnG hG F hr hb hx I1 r ?_⟩) he hpl
  have q : spOf X.K n dsp (vs ++ []) H1 Q E0 := q
  rwa [List.append_nil] at q
/-! repr of a tree -/
theorem call_reprT (hG : X.A.guards = some []) (hu : X.A.units + 65 < cLine) : CallR X (.builtin "repr") (fun xs H Q => ∃ a d, xs = [.ref a] ∧ Dp X.K H (.ref a) d ∧ (d.showable = true ∧ d.hasDict = false ∧ d.depth ≤ 20 ∧ d.shown.length ≤ sizeLine) ∧ Q (.str d.shown) H) := by
  intro pins s σ H xs us Q I r h
  obtain ⟨a, d, rfl, hd, ⟨h1, h2, h3, h4⟩, q⟩ := h
  obtain ⟨u, rfl, ru⟩ := vals1 r
  obtain ⟨as, rd⟩ := Dp.reads I d _ u hd ru
  cases ru
  exact repr_of_reads' rd h1 (PyData.noDict_hsm h2) hG (by omega) (fun _ _ z => z) (fun h' u' tk hk => ⟨.str _, H, I.kept hk, ⟨_, rfl⟩, q⟩) h4
/-- what may be shown: proper texts, ints of a bounded size -/
def shw : D → Bool
  | .int i => decide (i.natAbs < 2 ^ 200)
  | .str s => decide (s.length ≤ 1000)
  | .non => true
  | .bl _ => true
  | _ => false
def shw1 : D → Bool
  | .tup ds => decide (ds.length ≤ 64) && ds.all shw
  | .lst ds => decide (ds.length ≤ 64) && ds.all shw
  | d => shw d
end
end DL

/-! DL, 21: a law's end for a promise FnG: the law's caller has no repr under way. -/
namespace DL
open PySem PySem.Spec PyProof.Rows L2
/-- what is known of the abstract heap at the law's entry: at most the script is tracked -/
structure Entry (P : Program) (w : World) (K : PySem.W.Frag) (s : Shared) (a : Addr) (H : Hp) : Prop where
  only : Only H
  ok : HOk P w H s.heap
  at_ : ∀ b, H b ≠ none → b = a
  low : H a ≠ none → K.lookup a = none
section
variable {P : Program} {w : World} {K : PySem.W.Frag} {mg mb : Str → Option Value} {fa a : Addr} {fd : FuncData} {x : Str} {sp : Sp} {s₁ : Shared} {vs : List Value} {ns : List Int} {k : Nat} {H : Hp}
theorem Entry.hides (T : Entry P w K s₁ a H) (ha : s₁.heap.get? a = some { cls := .type "list", data := .seq vs.toArray }) {b : Addr} {o : Obj} {es : Array DictEntry} {ep : Nat} (e : s₁.heap.get? b = some o) (d : o.data = .dict es ep) : H b = none := by
  by_cases q : H b = none
  · exact q
  · have hb := T.at_ b q
    rw [hb, ha] at e
    rw [← Option.some.inj e] at d
    exact absurd d (fun z => nomatch z)
theorem Entry.frag (T : Entry P w K s₁ a H) (inK : K.In s₁.heap) : K.In (hidT s₁.heap H) := by
  intro b o e
  refine hidT_get (inK b o e) (Classical.byContradiction fun q => ?_)
  have hb := T.at_ b q
  have e2 : K.lookup b = none := by rw [hb]; exact T.low (hb ▸ q)
  rw [show K.lookup b = some o from e] at e2
  exact absurd e2 (fun z => nomatch z)
theorem Entry.names (T : Entry P w K s₁ a H) (ha : s₁.heap.get? a = some { cls := .type "list", data := .seq vs.toArray }) {b : Addr} {m : Str → Option Value} (h : s₁.heap.Ns b m) : (hidT s₁.heap H).Ns b m := by
  obtain ⟨o, es, ep, e, d, r⟩ := h
  exact ⟨o, es, ep, hidT_get e (T.hides ha e d), d, r⟩
theorem Entry.run (T : Entry P w K s₁ a H) (inK : K.In s₁.heap) (hmg : s₁.heap.Ns mainGlobals mg) (hmb : s₁.heap.Ns builtinsNs mb) (hbb : ∀ x : Str, x ≠ "__name__" → mb x = bootBuiltins x) (noLim : s₁.heap.NoLimit) (gens : s₁.gens = #[])
    (ha : s₁.heap.get? a = some { cls := .type "list", data := .seq vs.toArray }) (room : Room k callerA)
    (F : ∀ base : Heap, K.In base → base.Ns mainGlobals mg → FnG P w K mg base k fa fd [x] sp) (bind : ∀ (s : Shared) (u : Value), BindsTo s fd ⟨[u], []⟩ [(x, u)]) (want : sp [.ref a] H (fun v _ => v = .bl true) fun _ _ _ => False) :
    codeAny (model P w) callerA (.call (.ref fa) ⟨[.ref a], []⟩) (fun r s' => r = .ok (.ret (.bool true)) ∧ OldK s₁.heap s'.heap ∧ s'.os = s₁.os ∧ AllBare s'.gens) s₁ := by
  have kb := T.frag inK
  have kg := T.names ha hmg
  have modu : Mod K mg (hidT s₁.heap H) := by
    obtain ⟨mc, l1, l2⟩ := noLim
    exact ⟨kb, kg, ⟨mb, T.names ha hmb, hbb⟩, mc, T.names ha l1, l2⟩
  have env0 : Env0 P w K mg (hidT s₁.heap H) callerA [] s₁ H :=
    { frames := rfl, mod := modu, bs := fun b o e => of_hidT e, bsz := Nat.le_of_eq (hidT_size _ _), funs := trivial, frf := fun b hb => (List.not_mem_nil hb).elim, hok := T.ok, bare := .of_eq gens }
  have call := (F _ kb kg).run callerA [] s₁ H ⟨[.ref a], []⟩ [.ref a] [.ref a] _ _ rfl room env0 (bind s₁ (.ref a)) (.cons rfl .nil) want
  refine codeAny_mono call ?_
  rintro (er | fl) s' h
  · exact absurd h (fun z => nomatch z)
  · cases fl with
    | next => exact absurd h id
    | brk => exact absurd h id
    | cont => exact absurd h id
    | ret u =>
      obtain ⟨v, H', os, bare, un, ok', rel, e⟩ := h
      cases (show v = .bl true from e)
      cases (show u = Value.bool true from rel)
      refine ⟨rfl, OldK.of_keep fun b o e => ?_, os, bare⟩
      rcases T.only b with q | ⟨ob, ys, q⟩
      · exact un.keep b o e q (fun z => (List.not_mem_nil (show b ∈ ([] : List Addr) from z)).elim) (List.not_mem_nil)
      · have e1 := (T.ok b _ q).1
        rw [e] at e1
        rw [Option.some.inj e1]
        exact (ok' b _ (un.frzs b ob _ q)).1
theorem law_callG (inK : K.In s₁.heap) (hmg : s₁.heap.Ns mainGlobals mg) (hmb : s₁.heap.Ns builtinsNs mb) (hbb : ∀ x : Str, x ≠ "__name__" → mb x = bootBuiltins x) (noLim : s₁.heap.NoLimit) (gens : s₁.gens = #[])
    (ha : s₁.heap.get? a = some { cls := .type "list", data := .seq vs.toArray }) (isI : IntsAre vs ns) (hl : ns.length ≤ sizeLine) (room : Room k callerA)
    (F : ∀ base : Heap, K.In base → base.Ns mainGlobals mg → FnG P w K mg base k fa fd [x] sp) (bind : ∀ (s : Shared) (u : Value), BindsTo s fd ⟨[u], []⟩ [(x, u)])
    (want : ∀ H : Hp, Only H → SqL K H a (ns.map V.int) → sp [.ref a] H (fun v _ => v = .bl true) fun _ _ _ => False) :
    codeAny (model P w) callerA (.call (.ref fa) ⟨[.ref a], []⟩) (fun r s' => r = .ok (.ret (.bool true)) ∧ OldK s₁.heap s'.heap ∧ s'.os = s₁.os ∧ AllBare s'.gens) s₁ := by
  by_cases low : K.lookup a = none
  · -- the script is tracked as a list that nobody changes
    have self : ∀ {b : Addr} {u : HO}, (if b = a then some (HO.frz { cls := .type "list", data := .seq vs.toArray } (.lst (ns.map V.int))) else none) = some u → b = a ∧ u = HO.frz { cls := .type "list", data := .seq vs.toArray } (.lst (ns.map V.int)) := by
      intro b u z
      by_cases e : b = a
      · rw [if_pos e] at z; exact ⟨e, (Option.some.inj z).symm⟩
      · rw [if_neg e] at z; exact absurd z (fun q => nomatch q)
    have T : Entry P w K s₁ a (fun b => if b = a then some (.frz { cls := .type "list", data := .seq vs.toArray } (.lst (ns.map V.int))) else none) :=
      { only := fun b => by
          by_cases e : b = a
          · exact .inr ⟨_, _, if_pos e⟩
          · exact .inl (if_neg e)
        ok := fun b u z => by
          obtain ⟨rfl, rfl⟩ := self z
          exact ⟨ha, by rw [List.length_map]; exact hl, vs, _, vals_ints isI, ha⟩
        at_ := fun b z => Classical.byContradiction fun e => z (if_neg e)
        low := fun _ => low }
    exact T.run inK hmg hmb hbb noLim gens ha room F bind (want _ T.only (.inl (.inr ⟨_, if_pos rfl⟩)))
  · obtain ⟨o, low⟩ := Option.ne_none_iff_exists'.mp low
    have e := inK a o low
    rw [ha] at e
    cases e
    have T : Entry P w K s₁ a (fun _ => none) := { only := fun _ => .inl rfl, ok := fun b u z => by exact absurd (show (none : Option HO) = some u from z) (fun q => nomatch q), at_ := fun b z => absurd rfl z, low := fun z => absurd rfl z }
    exact T.run inK hmg hmb hbb noLim gens ha room F bind (want _ T.only (.inr ⟨_, vs.toArray, _, low, rfl, rfl, rfl, by rw [List.size_toArray, isI.length]; exact hl, by simpa using vals_ints isI⟩))
end
theorem walk_ofG {l : PySem.W.OpenLaw} {n k : Nat} {q : Program} {loose : List Str} {XP : (Str → Option Value) → Heap → Prop} {YP : World → Heap → Prop} {d : DefRec} {x : Str} (hn : l.most = some n) (hn2 : n ≤ sizeLine) (hdf : d.params.defaults = []) (room : Room k callerA)
    (F : ∀ (w : World) (mg : Str → Option Value) (fa : Addr) (h : Heap), YP w h → h.Ns mainGlobals mg → mg d.name = some (.ref fa) →
      ∃ (K : PySem.W.Frag) (fd : FuncData) (sp : Sp), K.In h ∧ (∀ (s : Shared) (u : Value), BindsTo s fd ⟨[u], []⟩ [(x, u)]) ∧
        (∀ (H : Hp) (a : Addr) (ns : List Int), ns.length ≤ n → Only H → SqL K H a (ns.map V.int) → sp [.ref a] H (fun v _ => v = .bl true) fun _ _ _ => False) ∧
        ∀ base : Heap, K.In base → base.Ns mainGlobals mg → FnG l.prog w K mg base k fa fd [x] sp) :
    PySem.W.WalkO q loose XP YP l.row.toRowW d [] (fun f vs => PySem.call f vs) := by
  refine Att.attach_call hn hdf fun w s₀ s₁ mg mb fa o pm cd doc a vs ns glob inY ho hd hcd hfa hobj isI short gens => ?_
  obtain ⟨K, fd, sp, inK, bind, want, promise⟩ := F w mg fa _ inY glob.T.g hfa
  exact law_callG inK glob.T.g glob.T.b glob.T.builtins glob.T.nolimit gens hobj isI (Nat.le_trans short hn2) room promise bind fun H only sq => want H a ns short only sq
end DL

/-! DL, 22: a display of a dict whose keys are written texts; repr at a place with no repr under way. -/
namespace DL
open PySem PySem.Spec PyProof.Rows L2
/-- an empty dict at p that nobody refers to yet -/
def EmpD (P : Program) (w : World) (p : Addr) : HO := .ext fun h => ∀ h' : Heap, (∀ o, h.get? p = some o → h'.get? p = some o) → h'.DictOf (mixKind P w) p []
theorem empD_new {P : Program} {w : World} {H : Hp} (h : Heap) : ObjOk P w H (h.push { cls := .type "dict", data := .dict #[] }) h.objs.size (EmpD P w h.objs.size) := by
  have at_ : (h.push { cls := .type "dict", data := .dict #[] }).get? h.objs.size = some { cls := .type "dict", data := .dict #[] } := Heap.get?_push_size _ rfl
  exact ⟨fun h' k => ⟨_, #[], 0, k _ at_, ⟨rfl, rfl, rfl⟩, rfl, (fun _ he => by simp at he), Pairs.nil, List.nodup_nil⟩, ⟨_, at_⟩, fun h1 h2 f k h' k' => f h' fun o e => k' o (k o e)⟩
/-- {k: v, ..}: while the pairs are made nobody refers to the new dict -/
def tDispX (P : Program) (w : World) (trs : List (TE × TE)) : TE := fun σ H Q => ∀ p, H p = none → tPairs trs σ (upd H p (EmpD P w p)) fun ps H2 => H2 p = some (EmpD P w p) ∧
  ∃ kvs : List (Key × V), ps = kvs.map (fun kv => (kV kv.1, kv.2)) ∧ kvs.length ≤ 15 ∧ Q (.ref p) (upd H2 p (.dK (mergeK [] kvs)))
theorem pe_dispX {X : Cx} {pos : Pos} {keys : List (Option Expr)} {vals : List Expr} {trs : List (TE × TE)} (h : PPs X pos keys vals trs) (hall : keys.all (·.isSome) = true) (hl : keys.length = vals.length) (h0 : keys ≠ []) (h15 : keys.length ≤ 15) : PE X (.Dict keys vals pos) (tDispX X.prog X.w trs) := by
  refine ⟨fun pins s σ H Q I q => ?_⟩
  have new := I.hok.fresh (Nat.le_refl s.heap.objs.size)
  have big : (s.heap.objs.size == sysModules) = false := beq_eq_false_iff_ne.mpr (Ne.symm (Nat.ne_of_lt I.big))
  refine wpAny_Dict_walk (knd := mixKind X.prog X.w) hall hl h0 h15 (thn (h.run pins _ σ _ _ (I.laid (o := EmpD X.prog X.w s.heap.objs.size) (t' := s.toks) (fun _ _ z => Heap.get?_push_of_some _ z) (Nat.le_refl _) (empD_new s.heap)) (q _ new)) ?_)
  rintro ws s2 ⟨ps, H2, I2, rel, e, kvs, rfl, lk, q2⟩
  obtain ⟨rs, c, rk⟩ := carries_of (P := X.prog) (w := X.w) rel
  have emp := (I2.hok _ _ e).1 s2.heap fun _ z => z
  refine ⟨rs, c, emp, fun h' dd' hs => ⟨.ref s.heap.objs.size, _, d_write I2 (by rw [e]; exact True.intro) hs ?_ (dk_new ?_ big (rk.merge .nil) dd'), rfl, q2⟩⟩
  · obtain ⟨u, _, _, hu, _⟩ := dd'
    exact ⟨u, hu⟩
  · have h1 := length_mergeK kvs []
    rw [List.length_nil] at h1
    rw [sizeLine_eq]; omega
def LiftP (K : PySem.W.Frag) (trs : List (TE × TE)) (ks : List Str) (t : DA) : Prop :=
  ∀ α ρ S σ H (Q : List D → Store → Prop) (Q' : List (V × V) → Hp → Prop), StoreOk K α H S → RhoOk K α H ρ σ → t ρ S Q →
    (∀ vs H' α' ds S', Stp α H α' H' → StoreOk K α' H' S' → RpL K α' H' vs ds → ds.length = ks.length → Q ds S' → Q' ((ks.map V.str).zip vs) H') → tPairs trs σ H Q'
structure DPs (X : Cx) (pos : Pos) (keys : List (Option Expr)) (vals : List Expr) (ks : List Str) (t : DA) : Prop where
  ex : ∃ trs, PPs X pos keys vals trs ∧ LiftP X.K trs ks t
section
variable {X : Cx} {pos : Pos} {v : Expr} {keys : List (Option Expr)} {vals : List Expr} {ks : List Str} {t : DA} {tv : DT}
theorem dps_nil : DPs X pos [] [] [] dNil := ⟨_, pps_nil, fun α ρ S σ H Q Q' so ro q k => k [] H α [] S (Stp.refl _ _) so rfl rfl q⟩
theorem dps_cons {x : Str} {j : Nat} {p : Pos} (hv : DE X v tv) (hr : DPs X pos keys vals ks t) : DPs X pos (some (.Constant (.str x) j p) :: keys) (v :: vals) (x :: ks) (dCons tv t) := by
  obtain ⟨⟨te, h1, h2⟩⟩ := hv
  obtain ⟨⟨trs, h3, h4⟩⟩ := hr
  refine ⟨_, pps_cons pe_str h1 h3, fun α ρ S σ H Q Q' so ro q k => ?_⟩
  show tPairs _ σ H Q'
  refine h2 α ρ S σ H _ _ so ro q fun u H1 α1 d S1 t1 so1 r1 q1 => ?_
  refine h4 α1 ρ S1 σ H1 _ _ so1 (ro.stp t1) q1 fun vs H2 α2 ds S2 t2 so2 r2 hl q2 => ?_
  exact k _ _ _ _ _ (t1.trans t2) so2 (show RpL X.K α2 H2 (u :: vs) (d :: ds) from ⟨u, vs, rfl, Rp.stp t2 _ _ r1, r2⟩) (by rw [List.length_cons, List.length_cons, hl]) q2
def dspK (ks : List Str) (ds : List D) : List (Key × D) := (ks.zip ds).foldl (fun acc kv => stoD acc (Sum.inr kv.1) kv.2) []
def dDisp (ks : List Str) (t : DA) : DT := fun ρ S Q => t ρ S fun ds S1 => Q (.dk (dspK ks ds)) S1
theorem disp_rp {K : PySem.W.Frag} {α : Locs} {H : Hp} : ∀ {ks : List Str} {ds : List D} {vs : List V} {acc : List (Key × D)} {acc' : List (Key × V)}, RpL K α H vs ds → ds.length = ks.length → RpK K α H acc' acc →
    RpK K α H (mergeK acc' ((ks.zip vs).map fun p => ((Sum.inr p.1 : Key), p.2))) ((ks.zip ds).foldl (fun acc kv => stoD acc (Sum.inr kv.1) kv.2) acc)
  | [], ds, vs, acc, acc', r, hl, ra => by
    rw [List.length_nil] at hl
    rw [List.length_eq_zero_iff.mp hl] at r ⊢
    cases (show vs = [] from r)
    exact ra
  | k :: ks, [], vs, acc, acc', r, hl, ra => by simp at hl
  | k :: ks, d :: ds, vs, acc, acc', ⟨v, w, e, r1, r2⟩, hl, ra => by
    subst e
    exact disp_rp (ks := ks) r2 (by simpa using hl) (RpK.put r1 (Sum.inr k) ra)
theorem de_disp (h : DPs X pos keys vals ks t) (hall : keys.all (·.isSome) = true := by rfl) (hl : keys.length = vals.length := by rfl) (h0 : keys ≠ [] := by simp) (h15 : keys.length ≤ 15 := by exact Nat.le_of_ble_eq_true rfl) (hk : ks.length ≤ 15 := by exact Nat.le_of_ble_eq_true rfl) :
    DE X (.Dict keys vals pos) (dDisp ks t) := by
  obtain ⟨⟨trs, h1, h2⟩⟩ := h
  refine ⟨_, pe_dispX h1 hall hl h0 h15, fun α ρ S σ H Q Q' so ro q k => ?_⟩
  intro p hp
  have tg : Stp α H α (upd H p (EmpD X.prog X.w p)) := Stp.new_ hp
  have sog := so.grow (keep_new (o := EmpD X.prog X.w p) hp)
  have gof := so.off_new hp
  refine h2 α ρ S σ _ _ _ sog (ro.stp tg) q fun vs H1 α1 ds S1 t1 so1 r1 hlen q1 => ?_
  have g1 : H1 p = some (EmpD X.prog X.w p) := t1.keep _ _ upd_same gof
  have gof1 : Off α1 p := t1.off upd_same gof
  have hvl := r1.len
  refine ⟨g1, (ks.zip vs).map fun p => ((Sum.inr p.1 : Key), p.2), ?_, ?_, ?_⟩
  · rw [List.map_map, List.zip_map_left]; rfl
  · rw [List.length_map, List.length_zip]; omega
  have go := disp_rp (ks := ks) (acc := []) (acc' := []) r1 hlen rfl
  have so2 : StoreOk X.K α1 (upd H1 p (.dK (mergeK [] ((ks.zip vs).map fun p => ((Sum.inr p.1 : Key), p.2))))) S1 := so1.ext g1 gof1
  exact k _ _ α1 (.dk (dspK ks ds)) S1 (Stp.fix (tg.trans t1) hp g1) so2 ⟨p, _, rfl, upd_same, gof1, RpK.ext g1 _ _ go⟩ q1
end
end DL

/-! DL, 23: repr of trees, int of a truth value. -/
namespace DL
open PySem PySem.Spec PyProof.Rows L2
mutual
/-- what may be shown: bounded ints, proper texts, lists and tuples of such -/
def fine : D → Prop
  | .int i => -(2 ^ 200) < i ∧ i < 2 ^ 200
  | .non => True
  | .bl _ => True
  | .str s => PyData.strOk s = true
  | .tup ds => fineL ds
  | .lst ds => fineL ds
  | .dk _ => False | .dt _ => False | .obj _ _ => False | .loc _ => False | .cst _ => False | .ty _ => False | .scr _ => False
def fineL : List D → Prop
  | [] => True
  | d :: ds => fine d ∧ fineL ds
end
mutual
def siz : D → Nat
  | .str s => s.cps.size
  | .tup ds => sizL ds
  | .lst ds => sizL ds
  | .int _ => 0 | .non => 0 | .bl _ => 0 | .dk _ => 0 | .dt _ => 0 | .obj _ _ => 0 | .loc _ => 0 | .cst _ => 0 | .ty _ => 0 | .scr _ => 0
def sizL : List D → Nat
  | [] => 0
  | d :: ds => siz d + 1 + sizL ds
end
mutual
def dpt : D → Nat
  | .tup ds => dptL ds + 1
  | .lst ds => dptL ds + 1
  | .str _ => 0 | .int _ => 0 | .non => 0 | .bl _ => 0 | .dk _ => 0 | .dt _ => 0 | .obj _ _ => 0 | .loc _ => 0 | .cst _ => 0 | .ty _ => 0 | .scr _ => 0
def dptL : List D → Nat
  | [] => 0
  | d :: ds => max (dpt d) (dptL ds)
end
structure ReprOk (d : D) : Prop where
  f : fine d
  s : siz d ≤ 40000
  d : dpt d ≤ 12
mutual
theorem fine_ok : ∀ (d : D) (n : Nat), fine d → dpt d ≤ n → okD n d = true
  | .int _, n, _, _ => by cases n <;> rfl
  | .non, n, _, _ => by cases n <;> rfl
  | .bl _, n, _, _ => by cases n <;> rfl
  | .str s, n, h, _ => by cases n <;> exact h
  | .tup ds, 0, _, hd => by simp [dpt] at hd
  | .lst ds, 0, _, hd => by simp [dpt] at hd
  | .tup ds, n + 1, h, hd => fine_okL ds n h (by simp [dpt] at hd; exact hd)
  | .lst ds, n + 1, h, hd => fine_okL ds n h (by simp [dpt] at hd; exact hd)
  | .dk _, _, h, _ => h.elim
  | .dt _, _, h, _ => h.elim
  | .obj _ _, _, h, _ => h.elim
  | .loc _, _, h, _ => h.elim
  | .cst _, _, h, _ => h.elim
  | .ty _, _, h, _ => h.elim
  | .scr _, _, h, _ => h.elim
theorem fine_okL : ∀ (ds : List D) (n : Nat), fineL ds → dptL ds ≤ n → ds.all (okD n) = true
  | [], _, _, _ => rfl
  | d :: ds, n, h, hd => by
    have hd : max (dpt d) (dptL ds) ≤ n := hd
    rw [List.all_cons, fine_ok d n h.1 (by omega), fine_okL ds n h.2 (by omega)]; rfl
end
theorem log200 {i : Int} (h : -(2 ^ 200) < i ∧ i < 2 ^ 200) : i.natAbs.log2 < 200 := log2_small (b := 200) (by omega) (by decide)
mutual
theorem fine_show : ∀ d : D, fine d → (py d).showable = true ∧ (py d).leavesShort 250 = true ∧ (py d).bulk = siz d
  | .int i, h => by
    have h1 := log200 h
    refine ⟨decide_eq_true (by omega), decide_eq_true ?_, rfl⟩
    show (Str.ofString (toString i)).length ≤ 250
    rw [PySem.ofString_length]
    exact Nat.le_trans (int_text_length_le (k := 200) (by decide) h1) (by decide)
  | .non, _ => ⟨rfl, rfl, rfl⟩
  | .bl _, _ => ⟨rfl, rfl, rfl⟩
  | .str s, h => by
    refine ⟨rfl, ?_, rfl⟩
    show (s.cps.toList.all fun c => decide (c < 16 ^ 8)) = true
    have h : s.cps.all (· < 0x110000) = true := h
    rw [← Array.all_toList, List.all_eq_true] at h
    rw [List.all_eq_true]
    intro c hc
    have := of_decide_eq_true (h c hc)
    exact decide_eq_true (by omega)
  | .tup ds, h => fine_showL ds h
  | .lst ds, h => fine_showL ds h
  | .dk _, h => h.elim
  | .dt _, h => h.elim
  | .obj _ _, h => h.elim
  | .loc _, h => h.elim
  | .cst _, h => h.elim
  | .ty _, h => h.elim
  | .scr _, h => h.elim
theorem fine_showL : ∀ ds : List D, fineL ds → PyData.showableAll (pyL ds) = true ∧ PyData.leavesShortAll 250 (pyL ds) = true ∧ PyData.bulkAll (pyL ds) = sizL ds
  | [], _ => ⟨rfl, rfl, rfl⟩
  | d :: ds, h => by
    obtain ⟨a1, a2, a3⟩ := fine_show d h.1
    obtain ⟨b1, b2, b3⟩ := fine_showL ds h.2
    refine ⟨?_, ?_, ?_⟩
    · show ((py d).showable && PyData.showableAll (pyL ds)) = true
      rw [a1, b1]; rfl
    · show ((py d).leavesShort 250 && PyData.leavesShortAll 250 (pyL ds)) = true
      rw [a2, b2]; rfl
    · show (py d).bulk + 1 + PyData.bulkAll (pyL ds) = siz d + 1 + sizL ds
      rw [a3, b3]
end
theorem ReprOk.len {d : D} (h : ReprOk d) : (py d).shown.length ≤ sizeLine := by
  obtain ⟨h1, h2, h3⟩ := fine_show d h.f
  have h4 := PyData.shown_le_bulk 250 (by decide) (py d) h2
  rw [h3] at h4
  have h5 := h.s
  have h6 : (250 + 2) * siz d ≤ 252 * 40000 := Nat.mul_le_mul_left 252 h5
  rw [sizeLine_eq]
  omega
section
variable {X : Cx}
/-- repr(d): the text of d -/
def cdReprT : CD := fun ds S Q => on1 ds fun d => match d with
  | .int i => (-(2 ^ 200) < i ∧ i < 2 ^ 200) ∧ Q (.str (py (.int i)).shown) S
  | .non => Q (.str (py .non).shown) S
  | .bl b => Q (.str (py (.bl b)).shown) S
  | .tup xs => ReprOk (.tup xs) ∧ Q (.str (py (.tup xs)).shown) S
  | .lst xs => ReprOk (.lst xs) ∧ Q (.str (py (.lst xs)).shown) S
  | .loc l => onOpt S[l]? fun o => match o with
    | .lst xs => ReprOk (.lst xs) ∧ Q (.str (py (.lst xs)).shown) S
    | _ => False
  | _ => False
theorem call_repr_bl : CallR X (.builtin "repr") (fun xs H Q => ∃ b, xs = [.bl b] ∧ Q (.str (PyData.bool b).shown) H) := by
  intro pins s σ H xs us Q I r h
  obtain ⟨b, rfl, q⟩ := h
  obtain ⟨u, rfl, ru⟩ := vals1 r
  cases ru
  exact PySem.P.repr_of_bool ⟨.str _, H, I.tok _, ⟨_, rfl⟩, by cases b <;> exact q⟩
theorem cd_reprT (hG : X.A.guards = some []) (hu : X.A.units + 65 < cLine) : CallD X (.builtin "repr") cdReprT := by
  refine ⟨_, ((SkE.call_repr_int.or call_repr_non).or call_repr_bl).or (call_reprT hG hu), fun α S H xs vs Q Q' so r h k => ?_⟩
  obtain ⟨d, v, rfl, rfl, rv, h⟩ := on1.rp r h
  have tree : ∀ d' : D, (∃ a, v = .ref a) → Dp X.K H v (py d') → ReprOk d' → Q (.str (py d').shown) S → ∃ a e, [v] = [V.ref a] ∧ Dp X.K H (.ref a) e ∧ (e.showable = true ∧ e.hasDict = false ∧ e.depth ≤ 20 ∧ e.shown.length ≤ sizeLine) ∧ Q' (.str e.shown) H := by
    rintro d' ⟨a, rfl⟩ hd ok q
    have h1 := fine_ok d' 12 ok.f ok.d
    obtain ⟨h2, h3⟩ := okD_lay 12 d' h1
    exact ⟨a, _, rfl, hd, ⟨(fine_show d' ok.f).1, PyData.hasDict_of_canLay _ h2, by omega, ok.len⟩, k.str so q⟩
  cases d with
  | int i =>
    cases (show v = .int i from rv)
    exact Or.inl (Or.inl (Or.inl ⟨i, rfl, Nat.lt_trans (log200 h.1) (by decide), k.str so h.2⟩))
  | non =>
    cases (show v = .non from rv)
    exact Or.inl (Or.inl (Or.inr ⟨rfl, k.str so h⟩))
  | bl b =>
    cases (show v = .bl b from rv)
    exact Or.inl (Or.inr ⟨b, rfl, k.str so h⟩)
  | tup ds =>
    obtain ⟨ok, q⟩ := h
    obtain ⟨a, xs, e, _⟩ := id rv
    exact Or.inr (tree _ ⟨a, e⟩ (okD_dp 12 _ v (fine_ok _ 12 ok.f ok.d) rv) ok q)
  | lst ds =>
    obtain ⟨ok, q⟩ := h
    obtain ⟨a, xs, e, _⟩ := id rv
    exact Or.inr (tree _ ⟨a, e⟩ (okD_dp 12 _ v (fine_ok _ 12 ok.f ok.d) rv) ok q)
  | loc l =>
    obtain ⟨o, ho, h⟩ : onOpt S[l]? fun o => match o with | .lst xs => ReprOk (.lst xs) ∧ Q (.str (py (.lst xs)).shown) S | _ => False := h
    cases o with
    | lst xs =>
      obtain ⟨ok, q⟩ := h
      have e : res S (.loc l) = .lst xs := by
        show (match S[l]? with | some (.lst ds) => D.lst ds | _ => .loc l) = _
        rw [ho]
      have hd := res_dp so rv (by rw [e]; exact fine_ok _ 12 ok.f ok.d)
      rw [e] at hd
      obtain ⟨a, ea, _⟩ := id rv
      exact Or.inr (tree _ ⟨a, ea⟩ hd ok q)
    | _ => exact h.elim
  | _ => exact h.elim
/-- int(i), int(b) -/
def cdInt1 : CD := fun ds S Q => on1 ds fun d => match d with
  | .int i => Q (.int i) S
  | .bl b => Q (.int (if b then 1 else 0)) S
  | _ => False
theorem cd_int1 : CallD X (.type "int") cdInt1 := by
  refine ⟨_, call_int1, fun α S H xs vs Q Q' so r h k => ?_⟩
  obtain ⟨d, v, rfl, rfl, rv, h⟩ := on1.rp r h
  cases d with
  | int i =>
    cases (show v = .int i from rv)
    exact Or.inl ⟨i, rfl, k.int so h⟩
  | bl b =>
    cases (show v = .bl b from rv)
    exact Or.inr ⟨b, rfl, k.int so h⟩
  | _ => exact h.elim
end
end DL

/-! DL, 24: a for over a list that lives in the store (and stays as it is meanwhile). -/
namespace DL
open PySem PySem.Spec PyProof.Rows L2
def forM0 (l : Nat) (ds : List D) (g : DG) (tb : DS) (E : DEnds) : List D → Rho → Store → Prop
  | [], ρ, S => S[l]? = some (.lst ds) ∧ E.nx ρ S
  | x :: r, ρ, S => S[l]? = some (.lst ds) ∧ g x ρ S fun ρ1 S1 => tb { E with nx := forM0 l ds g tb E r, ct := forM0 l ds g tb E r, bk := E.nx } ρ1 S1
@[irreducible] def forM (l : Nat) (ds : List D) (g : DG) (tb : DS) (E : DEnds) : List D → Rho → Store → Prop := forM0 l ds g tb E
def sForM (t0 : DT) (g : DG) (tb : DS) : DS := fun E ρ S => t0 ρ S fun d S1 => match d with
  | .loc l => ∃ ds, S1[l]? = some (.lst ds) ∧ forM l ds g tb E ds ρ S1
  | _ => False
theorem forM_nil {l : Nat} {ds : List D} {g : DG} {tb : DS} {E : DEnds} {ρ : Rho} {S : Store} : forM l ds g tb E [] ρ S = (S[l]? = some (.lst ds) ∧ E.nx ρ S) := by unfold forM; rfl
theorem forM_cons {l : Nat} {ds : List D} {g : DG} {tb : DS} {E : DEnds} {x : D} {r : List D} {ρ : Rho} {S : Store} : forM l ds g tb E (x :: r) ρ S = (S[l]? = some (.lst ds) ∧ g x ρ S fun ρ1 S1 => tb { E with nx := forM l ds g tb E r, ct := forM l ds g tb E r, bk := E.nx } ρ1 S1) := by unfold forM; rfl
section
variable {X : Cx} {e a b c : Expr} {body : List Stmt} {pos : Pos} {u : DS}
theorem ds_forM {iter tg : Expr} {t0 : DT} {ws : List Nat} {g : DG} (hp : PassesOwn (model X.prog X.w) X.A X.env X.xe) (hc : X.calm = true) (hi : DE X iter t0) (hg : DGt X tg ws g) (hb : DSs X body u)
    (hs : ∀ x, foldedSetIterable iter X.env x = pure x := by intro _; rfl) : DSt X (.For tg iter body [] pos) (sForM t0 g u) := by
  obtain ⟨⟨te, h1, h2⟩⟩ := hi
  obtain ⟨⟨g1, h3, h4⟩⟩ := hg
  obtain ⟨⟨ts, h5, h6⟩⟩ := hb
  refine ⟨_, ps_for hp hc (pi_list h1) h3 h5 hs, fun α ρ S σ H E F so ro q k => ?_⟩
  refine h2 α ρ S σ H _ _ so ro q fun v H1 α1 d S1 t1 so1 r1 q1 => ?_
  cases d with
  | loc lv =>
    obtain ⟨a, rfl, hla⟩ := r1
    obtain ⟨ds, hds, q1⟩ := q1
    obtain ⟨xs0, hx0, hr0⟩ := so1.lst hla hds
    refine ⟨a, rfl, ⟨xs0, SqL.of hx0⟩, ?_⟩
    refine ⟨fun i m σ H => m = ds.length - i ∧ i ≤ ds.length ∧ ∃ α ρ S, Stp α1 H1 α H ∧ StoreOk X.K α H S ∧ RhoOk X.K α H ρ σ ∧ forM lv ds g u E (ds.drop i) ρ S, ⟨ds.length, by simp, Nat.zero_le _, α1, ρ, S1, Stp.refl _ _, so1, ro.stp t1, q1⟩, ?_⟩
    rintro i m σ2 H2 ⟨rfl, hi, α2, ρ2, S2, t2, so2, ro2, q2⟩
    have hla2 : α2[lv]? = some (some a) := t2.pre _ _ hla
    by_cases hlt : i < ds.length
    · obtain ⟨d, hd, hdrop⟩ := drop_of_get hlt
      rw [hdrop, forM_cons] at q2
      obtain ⟨hnow, q2⟩ := q2
      obtain ⟨xs, hx, hr⟩ := so2.lst hla2 hnow
      have hl := hr.len
      refine Or.inr ⟨⟨xs, xs[i]'(by omega), SqL.of hx, by simp⟩, fun σ' H' => ∃ α ρ S, Stp α1 H1 α H' ∧ StoreOk X.K α H' S ∧ RhoOk X.K α H' ρ σ' ∧ forM lv ds g u E (ds.drop (i + 1)) ρ S, ?_, ?_⟩
      · rintro σ' H' ⟨α', ρ', S', z⟩
        exact ⟨ds.length - (i + 1), by omega, rfl, hlt, α', ρ', S', z⟩
      · rintro x H3 ⟨rfl, hy⟩
        have h3 := hy xs (SqL.of hx)
        obtain ⟨v, hv, r3⟩ := hr.get hd
        rw [h3] at hv
        cases hv
        refine h4 α2 ρ2 S2 σ2 _ x d _ _ so2 ro2 r3 q2 fun σ4 H4 α4 ρ4 S4 _ t4 so4 ro4 q4 => ?_
        refine h6 α4 ρ4 S4 σ4 H4 _ _ so4 ro4 q4 ⟨?_, (k.stp (t1.trans (t2.trans t4))).rt, (k.stp (t1.trans (t2.trans t4))).nx, ?_⟩
        · intro σ5 H5 α5 ρ5 S5 t5 so5 ro5 q5
          exact ⟨α5, ρ5, S5, (t2.trans t4).trans t5, so5, ro5, q5⟩
        · intro σ5 H5 α5 ρ5 S5 t5 so5 ro5 q5
          exact ⟨α5, ρ5, S5, (t2.trans t4).trans t5, so5, ro5, q5⟩
    · have e : i = ds.length := by omega
      subst e
      rw [List.drop_length, forM_nil] at q2
      obtain ⟨hnow, q2⟩ := q2
      obtain ⟨xs, hx, hr⟩ := so2.lst hla2 hnow
      exact Or.inl ⟨⟨xs, SqL.of hx, by rw [hr.len]; exact Nat.le_refl _⟩, k.nx σ2 H2 α2 ρ2 S2 (t1.trans t2) so2 ro2 q2⟩
  | _ => exact q1.elim
end
/-- the loop by what holds behind i items -/
theorem forM_inv {l : Nat} {ds : List D} {g : DG} {tb : DS} {E : DEnds} (P : Nat → Rho → Store → Prop) (hP : ∀ i ρ S, P i ρ S → S[l]? = some (.lst ds)) : ∀ (items : List D) (i : Nat) (ρ : Rho) (S : Store), P i ρ S →
    (∀ j x ρ S, items[j]? = some x → P (i + j) ρ S → ∀ N : Rho → Store → Prop, (∀ ρ' S', P (i + j + 1) ρ' S' → N ρ' S') → g x ρ S fun ρ1 S1 => tb { E with nx := N, ct := N, bk := E.nx } ρ1 S1) →
    (∀ ρ S, P (i + items.length) ρ S → E.nx ρ S) → forM l ds g tb E items ρ S
  | [], i, ρ, S, h0, _, hd => by rw [forM_nil]; exact ⟨hP _ _ _ h0, hd ρ S h0⟩
  | x :: r, i, ρ, S, h0, hs, hd => by
    rw [forM_cons]
    refine ⟨hP _ _ _ h0, hs 0 x ρ S rfl h0 _ fun ρ' S' h1 => ?_⟩
    refine forM_inv P hP r (i + 1) ρ' S' h1 (fun j y ρ S hj hp N hN => ?_) fun ρ S hp => hd ρ S ?_
    · have e : i + 1 + j = i + (j + 1) := by omega
      rw [e] at hp hN
      exact hs (j + 1) y ρ S (by simpa using hj) hp N hN
    · have e : i + 1 + r.length = i + (x :: r).length := by rw [List.length_cons]; omega
      rw [e] at hp
      exact hp
end DL

/-! DL, 25: sorted(set([a, b])) of ints. -/
namespace DL
open PySem PySem.Spec PyProof.Rows L2
section
variable {P : Program} {w : World} {A : Around} {E : Value → Shared → Prop} {s : Shared}
/-- what the set's __init__ leaves -/
def SetMade (w : World) (s : Shared) (ns : List Int) (r : Value) (s' : Shared) : Prop :=
  r = .none ∧ ∃ g tk c, s' = { s with heap := g, toks := tk } ∧ SetR w g s.heap.objs.size (fun j => decide (j ∈ ns)) c ∧ c ≤ ns.length ∧ ∀ b u, s.heap.get? b = some u → g.get? b = some u
theorem call_set_lst {l : Addr} {vs : Array Value} (ns : List Int) {Q : Value → Shared → Prop} (free : A.handled = none) (isl : s.heap.IsList l vs) (iare : IntsAre vs.toList ns) (room : ns.length + 1 < scanBound)
    (fin : ∀ g tk c, SetR w g s.heap.objs.size (fun j => decide (j ∈ ns)) c → c ≤ ns.length → (∀ b u, s.heap.get? b = some u → g.get? b = some u) → Q (.ref s.heap.objs.size) { s with heap := g, toks := tk }) :
    wpAny (model P w) A (call (.type "set") [.ref l]) Q E s := by
  have vlen : vs.size = ns.length := by rw [← Array.length_toList]; exact iare.length
  obtain ⟨u1, u2, mro⟩ := F.called_set.mro
  have made := F.called_set.made
  have sub := F.called_set.sub
  refine wpAny_call (codeAny_of_tree (show wpAny _ _ (callAny (.type "set") _) _ _ _ from wpAny_pure ⟨Code.quiet_builtin _ (by decide +kernel), codeAny_builtin F.entry_type_call ?_⟩))
  rw [Around.under_plain (weight_type_call_type "set" [.ref l] []) rfl]
  have nt := F.called_set.notType
  have cc := F.called_set.canCreate
  have tc := F.typeCall_set_1 (.ref l)
  repeat (any_goals (first | assumption | wp_step))
  refine codeAny_mono (code_set_led1 (.ref l) (E := E) (Q₁ := fun x s1 => x = .ref s.heap.objs.size ∧ s1 = { s with heap := s.heap.push (freshSet w) }) ⟨rfl, rfl⟩) fun r s1 hr => ?_
  match r, hr with
  | .error e, hr => exact hr
  | .ok (.ret x), hr =>
    obtain ⟨rfl, rfl⟩ := hr
    have at0 : (s.heap.push (freshSet w)).get? s.heap.objs.size = some (freshSet w) := Heap.get?_push_size _ rfl
    have ty : Shared.TypeIs { s with heap := s.heap.push (freshSet w) } (.ref s.heap.objs.size) "set" := ⟨_, at0, rfl⟩
    have look := F.called_set.init.lookup
    have bnd := F.called_set.init.bind (.ref s.heap.objs.size)
    repeat (any_goals (first | assumption | wp_step))
    refine codeAny_mono (codeAny_call_builtin (R := wants (SetMade w s ns) E) F.called_set.init.plain F.entry_set_init (check_set_init_1 ty ?_)) fun r2 s2 hr2 => ?_
    · obtain ⟨⟨c0, d0, data0, sl0⟩, atl, ecl, nl, edl⟩ := isl
      simp only at ecl edl
      subst ecl edl
      have atl1 := Heap.get?_push_of_some (freshSet w) atl
      have s1 := F.sub_list_set
      have s2 := F.sub_list_frozenset
      have s3 : (Value.type "list" == Value.type "dict") = false := by decide
      have isl1 : (s.heap.push (freshSet w)).IsList l vs := ⟨_, atl1, rfl, nl, rfl⟩
      unfold Builtin.«set.__init__» noKeywords Builtin.Frozenset.updateFrom
      generalize hIt : pyIter = It
      wp_walk
      subst hIt
      refine wpAny_pyIter_list isl1 (wpAny_bind (wpAny_runValue ?_))
      have lt0 : l < s.heap.objs.size := Heap.lt_size atl
      have sz : (s.heap.push (freshSet w)).objs.size = s.heap.objs.size + 1 := Heap.size_push ..
      have ne1 : l ≠ (s.heap.push (freshSet w)).objs.size := by rw [sz]; exact Nat.ne_of_lt (Nat.lt_succ_of_lt lt0)
      have out : s.heap.objs.size ∉ [(s.heap.push (freshSet w)).objs.size, l] := by
        rw [sz]
        intro hm
        rcases List.mem_cons.mp hm with e | e
        · exact absurd e (Nat.ne_of_lt (Nat.lt_succ_self _))
        · exact absurd (List.mem_singleton.mp e) (Nat.ne_of_gt lt0)
      have each : ∀ (i : Nat) (v : Value), vs[i]? = some v → ∃ k t, ns[i]? = some k ∧ v = .int k t := by
        intro i v hv
        have lt : i < ns.length := by rw [← vlen]; exact (Array.getElem?_eq_some_iff.mp hv).1
        obtain ⟨t, e⟩ := iare.int_at i v (by rw [Array.getElem?_toList]; exact hv)
        refine ⟨ns[i], t, List.getElem?_eq_getElem lt, ?_⟩
        rw [e, List.getD_eq_getElem?_getD, List.getElem?_eq_getElem lt] <;> rfl
      refine set_update_ints ((Walks.list (by simp [free]) _ l ne1 vs).toS) s.heap.objs.size out ns vlen room each (vs.size - 0) 0 _ (by omega) (Nat.zero_le _) ⟨⟨_, Heap.get?_push_size _ rfl, rfl, rfl⟩, isl1.push _⟩ ⟨0, Nat.le_refl 0, setR_new_at (Heap.get?_push_of_some _ at0)⟩ ?_
      rintro ⟨h1, g1, d1, t1, o1⟩ c mv cle R
      obtain rfl : g1 = s.gens := mv.gens
      obtain rfl : d1 = s.drawn := mv.drawn
      obtain rfl : o1 = s.os := mv.os
      refine wpAny_pure (show wpAny _ _ (ret Value.none) _ _ _ from wpAny_pure ⟨rfl, h1, t1, c, rfl, R, by omega, fun b u e => ?_⟩)
      have b0 := Heap.lt_size e
      refine mv.heap b u (fun hm => ?_) (Heap.get?_push_of_some _ (Heap.get?_push_of_some _ e))
      rcases List.mem_cons.mp hm with e1 | hm
      · exact absurd e1 (Nat.ne_of_lt b0)
      · exact absurd (List.mem_singleton.mp hm) (by rw [sz]; exact Nat.ne_of_lt (Nat.lt_succ_of_lt b0))
    · match r2, hr2 with
      | .error e, hr2 => exact hr2
      | .ok (.ret x), hr2 =>
        obtain ⟨rfl, g, tk, c, rfl, R, cle, keep⟩ := hr2
        repeat (any_goals (first | assumption | wp_step))
        exact fin _ _ _ R cle keep
end
section
variable {X : Cx}
def rSetOfI (K : PySem.W.Frag) (w : World) : List V → Hp → VK → Prop := fun xs H Q => ∃ (l : Addr) (ns : List Int), xs = [V.ref l] ∧ SqL K H l (ns.map V.int) ∧ ns.length < 60 ∧
  ∀ a c, H a = none → c ≤ ns.length → Q (.ref a) (upd H a (SetO w a (fun j => decide (j ∈ ns)) c))
theorem cr_setOfI (hc : X.calm = true) : CallR X (.type "set") (rSetOfI X.K X.w) := by
  intro pins s σ H xs us Q I r h
  obtain ⟨l, ns, rfl, hl, hf, q⟩ := h
  rw [Vals.ref1 r]
  obtain ⟨its, rv, pl, hz⟩ := I.list hl
  refine call_set_lst ns (I.ok.hd hc) pl.isList (by simpa using ints_of_vals rv) (by unfold scanBound; omega) fun g tk c R cle keep => ?_
  exact ⟨.ref _, _, I.laid (t' := tk) keep (Nat.le_refl _) (setO_new R), rfl, q _ c (I.hok.fresh (Nat.le_refl _)) cle⟩
end
theorem de_sset2L {X : Cx} {e1 e2 : Expr} {t1 t2 : DT} {p q q2 pos pos2 : Pos} (hc : X.calm = true) (hg : Gl X "sorted") (hm : X.mg "sorted" = none) (hg2 : Gl X "set") (hm2 : X.mg "set" = none) (h1 : DE X e1 t1) (h2 : DE X e2 t2)
    (hs1 : starEach [e1, e2] X.env = (false, eval e1 X.env) :: starEach [e2] X.env := by rfl) (hs2 : starEach [e2] X.env = (false, eval e2 X.env) :: starEach [] X.env := by rfl) : DE X (.Call (.Name "sorted" p) [.Call (.Name "set" q) [.List [e1, e2] q2] [] pos2] [] pos) (dSSet2 t1 t2) := by
  obtain ⟨⟨u1, a1, b1⟩⟩ := h1
  obtain ⟨⟨u2, a2, b2⟩⟩ := h2
  refine ⟨_, pe_callB (cr_sortedSet hc) hg hm (by decide +kernel) (pa_cons (pe_callTy (cr_setOfI hc) hg2 hm2 (by decide +kernel) (pa_cons (pe_lst (pa_cons a1 (pa_cons a2 pa_nil hs2) hs1)) pa_nil rfl)) pa_nil rfl), fun α ρ S σ H Q Q' so ro h k => ?_⟩
  refine b1 α ρ S σ _ _ _ so ro h fun v H1 α1 d S1 t1' so1 r1 q1 => ?_
  obtain ⟨a, rfl, rfl, q1⟩ := onInt.rp r1 q1
  refine b2 α1 ρ S1 σ H1 _ _ so1 (ro.stp t1') q1 fun v2 H2 α2 d2 S2 t2' so2 r2 q2 => ?_
  obtain ⟨b, rfl, rfl, q2⟩ := onInt.rp r2 q2
  refine ⟨Nat.le_of_ble_eq_true rfl, fun l hl => ?_⟩
  have tl : Stp α2 H2 α2 (upd H2 l (.lst [V.int a, V.int b])) := Stp.new_ hl
  refine ⟨l, [a, b], rfl, Or.inl (Or.inl upd_same), Nat.le_of_ble_eq_true rfl, fun g c hgn hcl => ?_⟩
  have tg := Stp.new_ (α := α2) (o := SetO X.w g (fun j => decide (j ∈ [a, b])) c) hgn
  have so3 := so2.grow (keep_new (o := .lst [V.int a, V.int b]) hl)
  have so4 := so3.grow (keep_new (o := SetO X.w g (fun j => decide (j ∈ [a, b])) c) hgn)
  refine ⟨g, _, c, rfl, upd_same, by simp at hcl; omega, fun ns p pw mem _ hp => ?_⟩
  have ens : ns = twoL a b := twoL_of pw fun k => (mem k).trans (by simp)
  subst ens
  have tp := Stp.push (α := α2) (o := HO.lst ((twoL a b).map V.int)) hp
  have hloc : (α2 ++ [some p])[S2.length]? = some (some p) := by
    rw [← so2.len, List.getElem?_append_right (Nat.le_refl _), Nat.sub_self]; rfl
  exact k _ _ (α2 ++ [some p]) (.loc S2.length) _ (((t1'.trans t2').trans (tl.trans tg)).trans tp) (so4.push (o := .lst ((twoL a b).map V.int)) (ob := .lst ((twoL a b).map D.int)) hp ⟨_, upd_same, RpL.ints _⟩) ⟨p, rfl, hloc⟩ q2
end DL

/-! DL, 26: a def whose body asks for its code's record (set displays). -/
namespace DL
open PySem PySem.Spec PyProof.Rows L2
theorem code_kds {K : PySem.W.Frag} {cd : Value} {q : Str} (h : PySem.W.codeIn K cd q = true) : PySem.W.kdsCode K cd = true := by
  unfold PySem.W.codeIn at h
  unfold PySem.W.kdsCode
  split at h
  · split at h
    · rename_i e; simp only [e]
    · cases h
  · cases h
section
variable {P : Program} {w : World} {K : PySem.W.Frag} {mg : Str → Option Value} {base : Heap} {x qual : Str} {st : Stmt} {f : Addr} {fd : FuncData} {N ps : List Str} {k : Nat} {dsp : DSp} {t : DS}
theorem dfn_okC (F : Fun K x qual st f fd) (S : FnScope N ps (defScope st)) (hlen : ∀ ds S Q E, dsp ds S Q E → ds.length = ps.length)
    (hbody : ∀ (cdv : Value) (A : Around) (outer : List Env) (s : Shared) (H : Hp) (E : XK), PySem.W.kdsCode K cdv = true → Room k (A.deeper (envOfC qual (defScope st) s.heap.objs.size f cdv)) → DSs (cxOf CX0 P w K mg base N qual (defScope st) f cdv A outer s H E).nox (defBody st) t)
    (spec : ∀ ds S Q E, bndL S.length ds → dsp ds S Q E → t { nx := fun _ S' => Rt S Q .non S', rt := Rt S Q } (startR N.length ds) S) : FnOk P w K mg base CX0 (k + 1) f fd ps (spOf K ps.length dsp) := by
  obtain ⟨oc, od, kV, doc, pm, an, cdv, ct, osl, rfl, lk, hcd⟩ := F.ex
  refine fn_of lk hcd S (fun vs H Q E h => h.1) fun A outer s H vs Q E hr h => ?_
  obtain ⟨hl, α, S0, ds, Qd, Ed, so, r, hd, ke, kx⟩ := h
  obtain ⟨⟨ts, h1, h2⟩⟩ := hbody cdv A outer s H E (code_kds hcd) hr
  refine ⟨ts, h1.nox, ?_⟩
  have hpl : ps.length ≤ N.length := by have := congrArg List.length S.pre; rw [List.length_take] at this; omega
  have hds : ds.length ≤ N.length := by rw [hlen _ _ _ _ hd]; exact hpl
  have fin : ∀ v H' α' d S', Stp α H α' H' → StoreOk K α' H' S' → Rp K α' H' v d → Rt S0 Qd d S' → Q v H' := fun v H' α' d S' t' so' r' q => Rt.fin so t' so' r' q ke
  have bd : bndL S0.length ds := by rw [← so.len]; exact r.bnd
  refine h2 α (startR N.length ds) S0 (start N vs) H _ _ so (startR_ok r hds) (spec ds S0 Qd Ed bd hd) ⟨?_, fin, fun _ _ _ _ _ _ _ _ z => z.elim, fun _ _ _ _ _ _ _ _ z => z.elim⟩
  intro σ' H' α' ρ' S' t' so' ro' q
  exact fin .non H' α' .non S' t' so' rfl q
end
/-- name %= int -/
def sAugP (p : Int → Int → Prop) (f : Int → Int → Int) (i : Nat) (t : DT) : DS := fun E ρ S => onOpt (getR ρ i) fun x => onInt x fun m => t ρ S fun y S1 => onInt y fun n => p m n ∧ E.nx (setR ρ i (.int (f m n))) S1
theorem lift_augP {K : PySem.W.Frag} {te : TE} {i : Nat} {p : Int → Int → Prop} {f : Int → Int → Int} {t : DT} (h : LiftE K te t) : LiftS K (tAug i te (rInI p f)) (sAugP p f i t) := fun α ρ S σ H E F so ro q k => by
  obtain ⟨x, hx, q⟩ := onOpt.ex q
  obtain ⟨v, hv, rv⟩ := ro.get hx
  obtain ⟨m, rfl, rfl, q⟩ := onInt.rp rv q
  refine ⟨_, hv, ?_⟩
  refine h α ρ S σ H _ _ so ro q fun v H1 α1 d S1 t1 so1 r1 q1 => ?_
  obtain ⟨n, rfl, rfl, q2⟩ := onInt.rp r1 q1
  exact ⟨m, n, rfl, rfl, q2.1, k.nx _ H1 α1 _ S1 t1 so1 (RhoOk.set (v := V.int (f m n)) (d := D.int (f m n)) i rfl (ro.stp t1)) q2.2⟩
theorem ds_augMod {X : Cx} {e : Expr} {t : DT} {pos : Pos} {i : Nat} {x : Str} {pos' : Pos} (hN : X.N.Nodup) (hi : X.N[i]? = some x) (hx : Loc X.env.scope x) (he : DE X e t) (hf : X.fn x = true ∨ X.env.scope.names.lookup x = some .local := by first | exact .inl rfl | exact .inr rfl | assumption) :
    DSt X (.AugAssign (.Name x pos') .Mod e pos) (sAugP (fun _ j => 0 < j) (fun i j => i % j) i t) := by
  obtain ⟨⟨te, h3, h4⟩⟩ := he
  exact ⟨_, ps_aug hN hi hx h3 inI_mod hf, lift_augP h4⟩
end DL

/-! DL, 27: min of a list of tuples of ints, min of two such. -/
namespace DL
open PySem PySem.Spec PyProof.Rows L2
def KeptIn (h0 h : Heap) : Prop := ∀ b o, h0.get? b = some o → h.get? b = some o
/-- a comparison that may look at what was there before -/
def CmpIn (P : Program) (w : World) (A : Around) (V : Nat → Value → Prop) (bt : Nat → Nat → Bool) (h0 : Heap) : Prop :=
  ∀ i j x y (s : Shared) (Q E : Value → Shared → Prop), V i x → V j y → KeptIn h0 s.heap → Q (.bool (bt i j)) s → wpAny (model P w) A (richCompare .Lt x y) Q E s
section
variable {P : Program} {w : World} {A : Around} {R : Result → Shared → Prop} {I S : Addr} {fp wr : List Addr} {n : Nat} {V : Nat → Value → Prop} {St : Nat → Heap → Prop} {bt : Nat → Nat → Bool} {h0 : Heap}
theorem loop_name : (toString "min" ++ toString ".loop" : String) = "min.loop" := by decide
theorem up_other {g : Heap} {S b : Addr} {f : Obj → Obj} {o : Obj} (h : b ≠ S) (e : g.get? b = some o) : (g.update S f).get? b = some o := (Heap.get?_update_other _ _ (Ne.symm h)).trans e
/-- the list in which the loop keeps the best so far -/
abbrev bestOb (xs : Array Value) (c : Nat) : Obj := { cls := .type "list", dict := none, data := .seq xs c, slots := #[] }
theorem best_loop (W : Walks P w A.in1 I fp wr n V St) (cmp : CmpIn P w A.in1 V bt h0) (out : S ∉ fp) (old : ∀ b o, h0.get? b = some o → b ∉ wr ∧ b ≠ S) : ∀ (k j : Nat) (s : Shared) (v : Value) (c : Nat), n = j + 1 + k → St (j + 1) s.heap → V (argBest bt j) v → KeptIn h0 s.heap → s.heap.get? S = some (bestOb #[v, v] c) →
    (∀ v g tk, V (argBest bt (n - 1)) v → KeptIn h0 g → (∀ b o, b ∉ wr → b ≠ S → s.heap.get? b = some o → g.get? b = some o) → R (.ok (.ret v)) { s with heap := g, toks := tk }) → codeAny (model P w) A (.builtin "min.loop" ⟨[.ref I, .none, .ref S], []⟩) R s
  | 0, j, s, v, c, hn, st, hv, kp, atS, fin => by
    have nw : S ∉ wr := fun z => out (W.sub _ z)
    refine codeAny_builtin F.entry_min_loop (by
      rw [Around.under_plainId F.plain_min_loop _]
      refine (show wpAny _ A.in1 (seqItems? (.ref S) >>= _) _ _ s from wpAny_bind (wpAny_seqItems atS rfl ?_))
      refine (show wpAny _ A.in1 (tryCatch (pyNext (.ref I)) _ >>= _) _ _ s from wpAny_bind (wpAny_tryCatch (W.done s _ _ (by rw [hn]; exact st) fun g tk kg => ?_)))
      have atS2 := kg S _ nw atS
      refine (show wpAny _ A.in1 (updateSeq S (fun _ => #[]) >>= _) _ _ _ from wpAny_bind (wpAny_updateSeq atS2 rfl (wpAny_bind (wpAny_letGo (wpAny_pure ?_)))))
      exact fin v _ tk (by rw [hn]; exact hv) (fun b o e => up_other (old b o e).2 (kg b o (old b o e).1 (kp b o e))) fun b o b1 b2 e => up_other b2 (kg b o b1 e))
  | k + 1, j, s, v, c, hn, st, hv, kp, atS, fin => by
    have nw : S ∉ wr := fun z => out (W.sub _ z)
    refine codeAny_builtin F.entry_min_loop (by
      rw [Around.under_plainId F.plain_min_loop _]
      refine (show wpAny _ A.in1 (seqItems? (.ref S) >>= _) _ _ s from wpAny_bind (wpAny_seqItems atS rfl ?_))
      refine (show wpAny _ A.in1 (tryCatch (pyNext (.ref I)) _ >>= _) _ _ s from wpAny_bind (wpAny_tryCatch (W.item (j + 1) s _ _ (by omega) st fun x g tk hx st2 kg => ?_)))
      have atS2 := kg S _ nw atS
      have kp2 : KeptIn h0 g := fun b o e => kg b o (old b o e).1 (kp b o e)
      refine (show wpAny _ A.in1 (tryCatch (holding [x, x] (richCompare .Lt x v >>= _)) _ >>= _) _ _ _ from wpAny_bind (wpAny_tryCatch (wpAny_holding (wpAny_bind (cmp (j + 1) (argBest bt j) x v _ _ _ hx hv kp2 ?_)))))
      refine wpAny_bind (wpAny_holding (wpAny_truthy_bool (wpAny_bind (wpAny_letGo (wpAny_pure ?_)))))
      cases hb : bt (j + 1) (argBest bt j) with
      | true =>
        simp only [if_true]
        refine wpAny_bind (wpAny_updateSeq atS2 rfl (wpAny_bind (wpAny_letGo ?_)))
        rw [loop_name]
        refine wpAny_pure ⟨plainId_quiet F.plain_min_loop _, best_loop W cmp out old k (j + 1) _ x _ (by omega) (W.frame _ _ _ st2 fun b hbf o e => up_other (fun z => out (z ▸ hbf)) e) (by simp only [argBest, hb, if_true]; exact hx) (fun b o e => up_other (old b o e).2 (kp2 b o e)) (Heap.get?_update_self _ atS2 rfl) fun y g2 tk2 hy kp3 k2 => ?_⟩
        exact fin y g2 tk2 hy kp3 fun b o b1 b2 e => k2 b o b1 b2 (up_other b2 (kg b o b1 e))
      | false =>
        simp only [Bool.false_eq_true, if_false]
        refine wpAny_bind (wpAny_letGo ?_)
        rw [loop_name]
        refine wpAny_pure ⟨plainId_quiet F.plain_min_loop _, best_loop W cmp out old k (j + 1) _ v c (by omega) st2 (by simp only [argBest, hb, Bool.false_eq_true, if_false]; exact hv) kp2 atS2 fun y g2 tk2 hy kp3 k2 => ?_⟩
        exact fin y g2 tk2 hy kp3 fun b o b1 b2 e => k2 b o b1 b2 (kg b o b1 e))
theorem best_first (W : Walks P w A.in1 I fp wr n V St) (cmp : CmpIn P w A.in1 V bt h0) (out : S ∉ fp) (old : ∀ b o, h0.get? b = some o → b ∉ wr ∧ b ≠ S) (hn : 0 < n) {s : Shared} {c : Nat} (st : St 0 s.heap) (kp : KeptIn h0 s.heap) (atS : s.heap.get? S = some (bestOb #[] c))
    (fin : ∀ v g tk, V (argBest bt (n - 1)) v → KeptIn h0 g → R (.ok (.ret v)) { s with heap := g, toks := tk }) : codeAny (model P w) A (.builtin "min.loop" ⟨[.ref I, .none, .ref S], []⟩) R s := by
  have nw : S ∉ wr := fun z => out (W.sub _ z)
  refine codeAny_builtin F.entry_min_loop (by
    rw [Around.under_plainId F.plain_min_loop _]
    refine (show wpAny _ A.in1 (seqItems? (.ref S) >>= _) _ _ s from wpAny_bind (wpAny_seqItems atS rfl ?_))
    refine (show wpAny _ A.in1 (tryCatch (pyNext (.ref I)) _ >>= _) _ _ s from wpAny_bind (wpAny_tryCatch (W.item 0 s _ _ hn st fun x g tk hx st2 kg => ?_)))
    have atS2 := kg S _ nw atS
    refine (show wpAny _ A.in1 (updateSeq S (fun _ => #[x, x]) >>= _) _ _ _ from wpAny_bind (wpAny_updateSeq atS2 rfl ?_))
    rw [loop_name]
    exact wpAny_pure ⟨plainId_quiet F.plain_min_loop _, best_loop W cmp out old (n - 1) 0 _ x _ (by omega) (W.frame _ _ _ st2 fun b hbf o e => up_other (fun z => out (z ▸ hbf)) e) hx (fun b o e => up_other (old b o e).2 (kg b o (old b o e).1 (kp b o e))) (Heap.get?_update_self _ atS2 rfl) fun y g2 tk2 hy kp3 _ => fin y g2 tk2 hy kp3⟩)
end
section
variable {P : Program} {w : World} {A : Around} {E : Value → Shared → Prop} {s : Shared}
/-- the items of a list are tuples of ints -/
def TupsAt (h : Heap) (vs : Array Value) (f : Nat → List Int) : Prop := ∀ i v, vs[i]? = some v → ∃ a its, v = .ref a ∧ IsTup h a its ∧ IntsAre its.toList (f i)
theorem tup_kept {h g : Heap} (k : KeptIn h g) {a : Addr} {its : Array Value} (t : IsTup h a its) : IsTup g a its := by
  obtain ⟨o, ho, r⟩ := t
  exact ⟨o, k _ _ ho, r⟩
theorem cmp_tups {vs : Array Value} {f : Nat → List Int} (hu : A.units < cLine) {h0 : Heap} (t : TupsAt h0 vs f) : CmpIn P w A (fun i v => vs[i]? = some v) (fun i j => HT.lexLt (f i) (f j)) h0 := by
  intro i j x y s Q E hx hy kp q
  obtain ⟨a, its, rfl, t1, i1⟩ := t i x hx
  obtain ⟨b, its2, rfl, t2, i2⟩ := t j y hy
  exact HT.lt_tupInts (tup_kept kp t1) (tup_kept kp t2) i1 i2 hu q
theorem call_min_lst {l : Addr} {vs : Array Value} {f : Nat → List Int} {Q : Value → Shared → Prop} (free : A.handled = none) (hu : A.units + 3 < cLine) (isl : s.heap.IsList l vs) (ne : 0 < vs.size) (tups : TupsAt s.heap vs f)
    (fin : ∀ v g tk, vs[argBest (fun i j => HT.lexLt (f i) (f j)) (vs.size - 1)]? = some v → KeptIn s.heap g → Q v { s with heap := g, toks := tk }) : wpAny (model P w) A (call (.builtin "min") [.ref l]) Q E s := by
  refine call_function_tree F.kind_min F.plain_min F.entry_min (F.args_min1 _) ?_
  refine (show wpAny _ A.in1 (Builtin.Builtins.bindParams "min" ["key", "default"] 0 ⟨[], []⟩ >>= _) _ _ s from wpAny_bind (wpAny_of_eq (show Builtin.Builtins.bindParams "min" ["key", "default"] 0 ⟨[], []⟩ = pure [none, none] from rfl) (wpAny_bind (wpAny_pure ?_))))
  refine wpAny_bind (wpAny_pyIter_list isl ?_)
  refine wpAny_bind (wpAny_newObj_type ?_)
  rw [loop_name]
  have lt0 : l < s.heap.objs.size := by
    obtain ⟨ol, hol, _⟩ := isl
    exact Heap.lt_size hol
  have old : ∀ b o, s.heap.get? b = some o → b ∉ [s.heap.objs.size] ∧ b ≠ (s.heap.push { cls := .type "list_iterator", data := .fields #[.ref l, .int 0 0] }).objs.size := by
    intro b o e
    have b0 := Heap.lt_size e
    refine ⟨fun hm => absurd (List.mem_singleton.mp hm) (Nat.ne_of_lt b0), ?_⟩
    rw [Heap.size_push]
    exact Nat.ne_of_lt (Nat.lt_succ_of_lt b0)
  have out : (s.heap.push { cls := .type "list_iterator", data := .fields #[.ref l, .int 0 0] }).objs.size ∉ [s.heap.objs.size, l] := by
    rw [Heap.size_push]
    intro hm
    rcases List.mem_cons.mp hm with e | e
    · exact absurd e (Nat.ne_of_gt (Nat.lt_succ_self _))
    · exact absurd (List.mem_singleton.mp e) (Nat.ne_of_gt (Nat.lt_succ_of_lt lt0))
  have kp2 : ∀ o : Obj, KeptIn s.heap ((s.heap.push { cls := .type "list_iterator", data := .fields #[.ref l, .int 0 0] }).push o) := fun o b u e => Heap.get?_push_of_some _ (Heap.get?_push_of_some _ e)
  refine wpAny_pure ⟨plainId_quiet F.plain_min_loop _, best_first (Walks.list (by simp [free]) _ l (Nat.ne_of_lt lt0) vs) (cmp_tups (by simp; omega) tups) out old ne ⟨⟨_, Heap.get?_push_of_some _ (Heap.get?_push_size _ rfl), rfl, rfl⟩, (isl.push _).push _⟩ (kp2 _) (Heap.get?_push_size _ rfl) fun v g tk hv kg => ?_⟩
  exact fin v g tk hv kg
end
end DL

/-! DL, 28: the order of tuples of ints; min of a list, of two. -/
namespace DL
open PySem PySem.Spec PyProof.Rows L2
theorem lex_irr : ∀ a : List Int, HT.lexLt a a = false
  | [] => rfl
  | x :: r => by rw [HT.lexLt_cons, if_pos rfl]; exact lex_irr r
theorem lex_trans : ∀ a b c : List Int, HT.lexLt a b = true → HT.lexLt b c = true → HT.lexLt a c = true
  | [], [], c, h1, _ => by rw [HT.lexLt_nil_nil] at h1; cases h1
  | [], _ :: _, [], _, h2 => by rw [HT.lexLt_cons_nil] at h2; cases h2
  | [], _ :: _, _ :: _, _, _ => HT.lexLt_nil_cons _ _
  | _ :: _, [], _, h1, _ => by rw [HT.lexLt_cons_nil] at h1; cases h1
  | _ :: _, _ :: _, [], _, h2 => by rw [HT.lexLt_cons_nil] at h2; cases h2
  | x :: a, y :: b, z :: c, h1, h2 => by
    rw [HT.lexLt_cons] at h1 h2 ⊢
    split at h1
    · rename_i e1
      subst e1
      split at h2
      · rename_i e2
        subst e2
        rw [if_pos rfl]
        exact lex_trans a b c h1 h2
      · rename_i e2
        rw [if_neg e2]; exact h2
    · rename_i e1
      have l1 := of_decide_eq_true h1
      split at h2
      · rename_i e2
        subst e2
        rw [if_neg e1]; exact h1
      · have l2 := of_decide_eq_true h2
        rw [if_neg (by omega)]
        exact decide_eq_true (by omega)
theorem lex_total : ∀ a b : List Int, HT.lexLt a b = false → HT.lexLt b a = false → a = b
  | [], [], _, _ => rfl
  | [], _ :: _, h1, _ => by rw [HT.lexLt_nil_cons] at h1; cases h1
  | _ :: _, [], _, h2 => by rw [HT.lexLt_nil_cons] at h2; cases h2
  | x :: a, y :: b, h1, h2 => by
    rw [HT.lexLt_cons] at h1 h2
    by_cases e : x = y
    · subst e
      rw [if_pos rfl] at h1 h2
      rw [lex_total a b h1 h2]
    · rw [if_neg e] at h1
      rw [if_neg (Ne.symm e)] at h2
      have l1 := of_decide_eq_false h1
      have l2 := of_decide_eq_false h2
      omega
theorem argBest_lex (f : Nat → List Int) : ∀ k, argBest (fun i j => HT.lexLt (f i) (f j)) k ≤ k ∧ ∀ j, j ≤ k → HT.lexLt (f j) (f (argBest (fun i j => HT.lexLt (f i) (f j)) k)) = false
  | 0 => ⟨Nat.le_refl _, fun j hj => by rw [show j = 0 by omega]; exact lex_irr _⟩
  | k + 1 => by
    obtain ⟨h1, h2⟩ := argBest_lex f k
    show (if HT.lexLt (f (k + 1)) (f (argBest (fun i j => HT.lexLt (f i) (f j)) k)) = true then k + 1 else argBest _ k) ≤ k + 1 ∧ ∀ j, j ≤ k + 1 → HT.lexLt (f j) (f (if HT.lexLt (f (k + 1)) (f (argBest (fun i j => HT.lexLt (f i) (f j)) k)) = true then k + 1 else argBest _ k)) = false
    by_cases hb : HT.lexLt (f (k + 1)) (f (argBest (fun i j => HT.lexLt (f i) (f j)) k)) = true
    · rw [if_pos hb]
      refine ⟨Nat.le_refl _, fun j hj => ?_⟩
      by_cases e : j = k + 1
      · rw [e]; exact lex_irr _
      · cases hl : HT.lexLt (f j) (f (k + 1)) with
        | false => rfl
        | true =>
          have := lex_trans _ _ _ hl hb
          rw [h2 j (by omega)] at this
          cases this
    · rw [if_neg hb]
      refine ⟨by omega, fun j hj => ?_⟩
      by_cases e : j = k + 1
      · rw [e]; exact Bool.eq_false_iff.mpr hb
      · exact h2 j (by omega)
section
variable {P : Program} {w : World} {A : Around} {E : Value → Shared → Prop} {s : Shared}
theorem call_min_pair {a b : Addr} {xs ys : Array Value} {ns ms : List Int} {Q : Value → Shared → Prop} (free : A.handled = none) (hu : A.units + 3 < cLine) (ta : IsTup s.heap a xs) (ia : IntsAre xs.toList ns) (tb : IsTup s.heap b ys) (ib : IntsAre ys.toList ms)
    (fin : ∀ g tk, KeptIn s.heap g → Q (.ref (if HT.lexLt ms ns = true then b else a)) { s with heap := g, toks := tk }) : wpAny (model P w) A (call (.builtin "min") [.ref a, .ref b]) Q E s := by
  refine call_function_tree F.kind_min F.plain_min F.entry_min (F.args_min2 _ _) ?_
  refine (show wpAny _ A.in1 (Builtin.Builtins.bindParams "min" ["key", "default"] 0 ⟨[], []⟩ >>= _) _ _ s from wpAny_bind (wpAny_of_eq (show Builtin.Builtins.bindParams "min" ["key", "default"] 0 ⟨[], []⟩ = pure [none, none] from rfl) ?_))
  refine (show wpAny _ A.in1 (newTuple [.ref a, .ref b] >>= _) _ _ s from wpAny_bind (wpAny_newObj_type ?_))
  have tT : (s.heap.push { cls := .type "tuple", data := .seq #[.ref a, .ref b] }).IsTuple s.heap.objs.size #[.ref a, .ref b] := ⟨_, Heap.get?_push_size _ rfl, rfl, _, rfl⟩
  have kT : KeptIn s.heap (s.heap.push { cls := .type "tuple", data := .seq #[.ref a, .ref b] }) := fun b o e => Heap.get?_push_of_some _ e
  have hsz : (s.heap.push { cls := .type "tuple", data := .seq #[.ref a, .ref b] }).objs.size = s.heap.objs.size + 1 := Heap.size_push ..
  generalize s.heap.push { cls := .type "tuple", data := .seq #[.ref a, .ref b] } = g1 at *
  refine wpAny_bind (wpAny_pyIter_tuple tT ?_)
  refine wpAny_bind (wpAny_newObj_type ?_)
  rw [loop_name]
  have tups : TupsAt g1 #[.ref a, .ref b] (fun i => if i = 0 then ns else ms) := by
    intro i v hv
    match i, hv with
    | 0, hv =>
      cases (show Value.ref a = v from Option.some.inj hv)
      exact ⟨a, xs, rfl, tup_kept kT ta, ia⟩
    | 1, hv =>
      cases (show Value.ref b = v from Option.some.inj hv)
      exact ⟨b, ys, rfl, tup_kept kT tb, ib⟩
    | i + 2, hv => cases hv
  have old : ∀ b o, g1.get? b = some o → b ∉ [g1.objs.size] ∧ b ≠ (g1.push { cls := .type "tuple_iterator", data := .fields #[.ref s.heap.objs.size, .int 0 0] }).objs.size := by
    intro b o e
    have b0 := Heap.lt_size e
    refine ⟨fun hm => absurd (List.mem_singleton.mp hm) (Nat.ne_of_lt b0), ?_⟩
    rw [Heap.size_push]
    exact Nat.ne_of_lt (Nat.lt_succ_of_lt b0)
  have out : (g1.push { cls := .type "tuple_iterator", data := .fields #[.ref s.heap.objs.size, .int 0 0] }).objs.size ∉ [g1.objs.size, s.heap.objs.size] := by
    rw [Heap.size_push]
    intro hm
    rcases List.mem_cons.mp hm with e | e
    · exact absurd e (Nat.ne_of_gt (Nat.lt_succ_self _))
    · exact absurd (List.mem_singleton.mp e) (Nat.ne_of_gt (by rw [hsz]; exact Nat.lt_succ_of_lt (Nat.lt_succ_self _)))
  have kp2 : ∀ o : Obj, KeptIn g1 ((g1.push { cls := .type "tuple_iterator", data := .fields #[.ref s.heap.objs.size, .int 0 0] }).push o) := fun o b u e => Heap.get?_push_of_some _ (Heap.get?_push_of_some _ e)
  refine wpAny_pure ⟨plainId_quiet F.plain_min_loop _, best_first (Walks.tuple (by simp [free]) _ s.heap.objs.size (by rw [hsz]; exact Nat.ne_of_lt (Nat.lt_succ_self _)) #[.ref a, .ref b]) (cmp_tups (by simp; omega) tups) out old (Nat.succ_pos 1) ⟨⟨_, Heap.get?_push_of_some _ (Heap.get?_push_size _ rfl), rfl, rfl⟩, (tT.push _).push _⟩ (kp2 _) (Heap.get?_push_size _ rfl) fun v g tk hv kg => ?_⟩
  have hv : (#[Value.ref a, .ref b] : Array Value)[if HT.lexLt ms ns = true then 1 else 0]? = some v := hv
  have e : v = .ref (if HT.lexLt ms ns = true then b else a) := by
    split at hv
    · rename_i h; rw [if_pos h]; exact (Option.some.inj hv).symm
    · rename_i h; rw [if_neg h]; exact (Option.some.inj hv).symm
  rw [e]
  exact fin g tk fun b o e => kg b o (kT b o e)
end
theorem refs_vals : ∀ {ps : List (Addr × List Int)} {us : List Value}, Vals (ps.map fun p => V.ref p.1) us → us = ps.map fun p => Value.ref p.1
  | [], _, .nil => rfl
  | p :: ps, _, .cons r t => by
    cases r
    rw [refs_vals t] <;> rfl
def rMinT (K : PySem.W.Frag) : List V → Hp → VK → Prop := fun vs H Q => ∃ (a : Addr) (ps : List (Addr × List Int)), vs = [V.ref a] ∧ SqL K H a (ps.map fun p => V.ref p.1) ∧ (∀ p ∈ ps, SqT K H p.1 (p.2.map V.int)) ∧ 0 < ps.length ∧
  ∀ p, p ∈ ps → (∀ q ∈ ps, HT.lexLt q.2 p.2 = false) → Q (.ref p.1) H
def rMinT2 (K : PySem.W.Frag) : List V → Hp → VK → Prop := fun vs H Q => ∃ (a b : Addr) (ns ms : List Int), vs = [V.ref a, V.ref b] ∧ SqT K H a (ns.map V.int) ∧ SqT K H b (ms.map V.int) ∧ (HT.lexLt ms ns = true → Q (.ref b) H) ∧ (HT.lexLt ms ns = false → Q (.ref a) H)
section
variable {X : Cx}
theorem cr_minT (hc : X.calm = true) (hu : X.A.units + 3 < cLine) : CallR X (.builtin "min") (rMinT X.K) := by
  intro pins s σ H vs us Q I r h
  obtain ⟨a, ps, rfl, hs, hk, hne, q⟩ := h
  rw [Vals.ref1 r]
  obtain ⟨its, rv, pl, hz⟩ := I.list hs
  have e := refs_vals rv
  subst e
  have tups : TupsAt s.heap (ps.map fun p => Value.ref p.1).toArray (fun i => (ps.getD i (0, [])).2) := by
    intro i v hv
    rw [List.getElem?_toArray, List.getElem?_map] at hv
    cases hp : ps[i]? with
    | none => rw [hp] at hv; cases hv
    | some p =>
      rw [hp] at hv
      cases hv
      obtain ⟨its2, r2, p2, _⟩ := I.tuple (hk p (List.mem_of_getElem? hp))
      refine ⟨p.1, _, rfl, p2, ?_⟩
      show IntsAre its2.toArray.toList (ps.getD i (0, [])).2
      rw [List.getD_eq_getElem?_getD, hp]
      exact intsAre_of r2
  refine call_min_lst (I.ok.hd hc) hu pl.isList (by simpa using hne) tups fun v g tk hv kg => ?_
  have hsz : (ps.map fun p => Value.ref p.1).toArray.size - 1 = ps.length - 1 := by simp
  rw [hsz] at hv
  obtain ⟨b1, b2⟩ := argBest_lex (fun i => (ps.getD i (0, [])).2) (ps.length - 1)
  generalize argBest (fun i j => HT.lexLt ((fun i => (ps.getD i (0, [])).2) i) ((fun i => (ps.getD i (0, [])).2) j)) (ps.length - 1) = m at *
  have hm : m < ps.length := by omega
  rw [List.getElem?_toArray, List.getElem?_map, List.getElem?_eq_getElem hm] at hv
  cases hv
  refine ⟨.ref ps[m].1, H, I.kept kg, rfl, q ps[m] (List.getElem_mem _) fun p hp => ?_⟩
  obtain ⟨j, hj, rfl⟩ := List.mem_iff_getElem.mp hp
  have h3 := b2 j (by omega)
  simpa [List.getD_eq_getElem?_getD, List.getElem?_eq_getElem hj, List.getElem?_eq_getElem hm] using h3
theorem cr_minT2 (hc : X.calm = true) (hu : X.A.units + 3 < cLine) : CallR X (.builtin "min") (rMinT2 X.K) := by
  intro pins s σ H vs us Q I r h
  obtain ⟨a, b, ns, ms, rfl, ha, hb, q1, q2⟩ := h
  obtain ⟨u, v, rfl, ru, rv⟩ := vals2 r
  cases ru
  cases rv
  obtain ⟨its, r1, p1, _⟩ := I.tuple ha
  obtain ⟨its2, r2, p2, _⟩ := I.tuple hb
  refine call_min_pair (I.ok.hd hc) hu p1 (intsAre_of r1) p2 (intsAre_of r2) fun g tk kg => ?_
  refine ⟨.ref (if HT.lexLt ms ns = true then b else a), H, I.kept kg, rfl, ?_⟩
  by_cases h : HT.lexLt ms ns = true
  · rw [if_pos h]; exact q1 h
  · rw [if_neg h]; exact q2 (Bool.eq_false_iff.mpr h)
end
/-! the same by trees -/
def tupI (ns : List Int) : D := .tup (ns.map D.int)
theorem rp_tupI {K : PySem.W.Frag} {α : Locs} {H : Hp} {v : V} {ns : List Int} (r : Rp K α H v (tupI ns)) : ∃ a, v = .ref a ∧ SqT K H a (ns.map V.int) := by
  obtain ⟨a, xs, rfl, hs, hr⟩ := r
  rw [rpl_ints hr] at hs
  exact ⟨a, rfl, hs.sq⟩
theorem rpl_tups {K : PySem.W.Frag} {α : Locs} {H : Hp} : ∀ {nss : List (List Int)} {xs : List V}, RpL K α H xs (nss.map tupI) → ∃ ps : List (Addr × List Int), xs = ps.map (fun p => V.ref p.1) ∧ ps.map (·.2) = nss ∧ ∀ p ∈ ps, SqT K H p.1 (p.2.map V.int) ∧ Rp K α H (.ref p.1) (tupI p.2)
  | [], xs, h => ⟨[], h, rfl, (fun _ h => nomatch h)⟩
  | ns :: r, xs, h => by
    obtain ⟨v, u, rfl, h1, h2⟩ := h
    obtain ⟨ps, rfl, e2, h3⟩ := rpl_tups h2
    obtain ⟨a, rfl, hs⟩ := rp_tupI h1
    refine ⟨(a, ns) :: ps, rfl, by rw [List.map_cons, e2], fun p hp => ?_⟩
    rcases List.mem_cons.mp hp with rfl | hp
    · exact ⟨hs, h1⟩
    · exact h3 p hp
def cdMinT : CD := fun ds S Q => on1 ds fun d => onLst d S fun xs => ∃ nss : List (List Int), xs = nss.map tupI ∧ 0 < nss.length ∧ ∀ m, m ∈ nss → (∀ y ∈ nss, HT.lexLt y m = false) → Q (tupI m) S
def cdMinT2 : CD := fun ds S Q => on2 ds fun d e => ∃ ns ms : List Int, d = tupI ns ∧ e = tupI ms ∧ Q (if HT.lexLt ms ns = true then tupI ms else tupI ns) S
def cdSum : CD := fun ds S Q => on1 ds fun d => onLst d S fun xs => ∃ ns : List Int, xs = ns.map D.int ∧ Q (.int ns.sum) S
section
variable {X : Cx}
theorem cd_minT (hc : X.calm = true) (hu : X.A.units + 65 < cLine) : CallD X (.builtin "min") cdMinT := by
  refine ⟨_, cr_minT hc (by omega), fun α S H xs vs Q Q' so r h k => ?_⟩
  obtain ⟨d, v, rfl, rfl, rv, h⟩ := on1.rp r h
  obtain ⟨a, xs, ds, rfl, hsq, hr, nss, rfl, hl, h2⟩ := onLst.rp so rv h
  obtain ⟨ps, rfl, rfl, h3⟩ := rpl_tups hr
  refine ⟨a, ps, rfl, hsq, fun p hp => (h3 p hp).1, by simpa using hl, fun p hp hm => ?_⟩
  exact k _ H α _ S (Stp.refl _ _) so (h3 p hp).2 (h2 p.2 (List.mem_map.mpr ⟨p, hp, rfl⟩) fun y hy => by
    obtain ⟨q, hq, rfl⟩ := List.mem_map.mp hy
    exact hm q hq)
theorem cd_minT2 (hc : X.calm = true) (hu : X.A.units + 65 < cLine) : CallD X (.builtin "min") cdMinT2 := by
  refine ⟨_, cr_minT2 hc (by omega), fun α S H xs vs Q Q' so r h k => ?_⟩
  obtain ⟨d, e, v, w, rfl, rfl, rv, rw', ns, ms, rfl, rfl, hq⟩ := on2.rp r h
  obtain ⟨a, rfl, ha⟩ := rp_tupI rv
  obtain ⟨b, rfl, hb⟩ := rp_tupI rw'
  refine ⟨a, b, ns, ms, rfl, ha, hb, fun e => ?_, fun e => ?_⟩
  · rw [if_pos e] at hq
    exact k _ H α _ S (Stp.refl _ _) so rw' hq
  · rw [if_neg (by rw [e]; decide)] at hq
    exact k _ H α _ S (Stp.refl _ _) so rv hq
theorem cd_sum (hc : X.calm = true) : CallD X (.builtin "sum") cdSum := by
  refine ⟨_, cr_sum hc, fun α S H xs vs Q Q' so r h k => ?_⟩
  obtain ⟨d, v, rfl, rfl, rv, h⟩ := on1.rp r h
  obtain ⟨a, xs, ds, rfl, hsq, hr, ns, rfl, h2⟩ := onLst.rp so rv h
  rw [rpl_ints hr] at hsq
  exact ⟨a, ns, rfl, hsq, k.int so h2⟩
end
end DL

/-! DL, 29: max of two tuples of ints. -/
namespace DL
open PySem PySem.Spec PyProof.Rows L2
/-- a comparison that may look at what was there before -/
def CmpInG (P : Program) (w : World) (A : Around) (V : Nat → Value → Prop) (bt : Nat → Nat → Bool) (h0 : Heap) : Prop :=
  ∀ i j x y (s : Shared) (Q E : Value → Shared → Prop), V i x → V j y → KeptIn h0 s.heap → Q (.bool (bt i j)) s → wpAny (model P w) A (richCompare .Gt x y) Q E s
section
variable {P : Program} {w : World} {A : Around} {R : Result → Shared → Prop} {I S : Addr} {fp wr : List Addr} {n : Nat} {V : Nat → Value → Prop} {St : Nat → Heap → Prop} {bt : Nat → Nat → Bool} {h0 : Heap}
theorem loop_nameG : (toString "max" ++ toString ".loop" : String) = "max.loop" := by decide
theorem best_loopG (W : Walks P w A.in1 I fp wr n V St) (cmp : CmpInG P w A.in1 V bt h0) (out : S ∉ fp) (old : ∀ b o, h0.get? b = some o → b ∉ wr ∧ b ≠ S) : ∀ (k j : Nat) (s : Shared) (v : Value) (c : Nat), n = j + 1 + k → St (j + 1) s.heap → V (argBest bt j) v → KeptIn h0 s.heap → s.heap.get? S = some (bestOb #[v, v] c) →
    (∀ v g tk, V (argBest bt (n - 1)) v → KeptIn h0 g → (∀ b o, b ∉ wr → b ≠ S → s.heap.get? b = some o → g.get? b = some o) → R (.ok (.ret v)) { s with heap := g, toks := tk }) → codeAny (model P w) A (.builtin "max.loop" ⟨[.ref I, .none, .ref S], []⟩) R s
  | 0, j, s, v, c, hn, st, hv, kp, atS, fin => by
    have nw : S ∉ wr := fun z => out (W.sub _ z)
    refine codeAny_builtin F.entry_max_loop (by
      rw [Around.under_plainId F.plain_max_loop _]
      refine (show wpAny _ A.in1 (seqItems? (.ref S) >>= _) _ _ s from wpAny_bind (wpAny_seqItems atS rfl ?_))
      refine (show wpAny _ A.in1 (tryCatch (pyNext (.ref I)) _ >>= _) _ _ s from wpAny_bind (wpAny_tryCatch (W.done s _ _ (by rw [hn]; exact st) fun g tk kg => ?_)))
      have atS2 := kg S _ nw atS
      refine (show wpAny _ A.in1 (updateSeq S (fun _ => #[]) >>= _) _ _ _ from wpAny_bind (wpAny_updateSeq atS2 rfl (wpAny_bind (wpAny_letGo (wpAny_pure ?_)))))
      exact fin v _ tk (by rw [hn]; exact hv) (fun b o e => up_other (old b o e).2 (kg b o (old b o e).1 (kp b o e))) fun b o b1 b2 e => up_other b2 (kg b o b1 e))
  | k + 1, j, s, v, c, hn, st, hv, kp, atS, fin => by
    have nw : S ∉ wr := fun z => out (W.sub _ z)
    refine codeAny_builtin F.entry_max_loop (by
      rw [Around.under_plainId F.plain_max_loop _]
      refine (show wpAny _ A.in1 (seqItems? (.ref S) >>= _) _ _ s from wpAny_bind (wpAny_seqItems atS rfl ?_))
      refine (show wpAny _ A.in1 (tryCatch (pyNext (.ref I)) _ >>= _) _ _ s from wpAny_bind (wpAny_tryCatch (W.item (j + 1) s _ _ (by omega) st fun x g tk hx st2 kg => ?_)))
      have atS2 := kg S _ nw atS
      have kp2 : KeptIn h0 g := fun b o e => kg b o (old b o e).1 (kp b o e)
      refine (show wpAny _ A.in1 (tryCatch (holding [x, x] (richCompare .Gt x v >>= _)) _ >>= _) _ _ _ from wpAny_bind (wpAny_tryCatch (wpAny_holding (wpAny_bind (cmp (j + 1) (argBest bt j) x v _ _ _ hx hv kp2 ?_)))))
      refine wpAny_bind (wpAny_holding (wpAny_truthy_bool (wpAny_bind (wpAny_letGo (wpAny_pure ?_)))))
      cases hb : bt (j + 1) (argBest bt j) with
      | true =>
        simp only [if_true]
        refine wpAny_bind (wpAny_updateSeq atS2 rfl (wpAny_bind (wpAny_letGo ?_)))
        rw [loop_nameG]
        refine wpAny_pure ⟨plainId_quiet F.plain_max_loop _, best_loopG W cmp out old k (j + 1) _ x _ (by omega) (W.frame _ _ _ st2 fun b hbf o e => up_other (fun z => out (z ▸ hbf)) e) (by simp only [argBest, hb, if_true]; exact hx) (fun b o e => up_other (old b o e).2 (kp2 b o e)) (Heap.get?_update_self _ atS2 rfl) fun y g2 tk2 hy kp3 k2 => ?_⟩
        exact fin y g2 tk2 hy kp3 fun b o b1 b2 e => k2 b o b1 b2 (up_other b2 (kg b o b1 e))
      | false =>
        simp only [Bool.false_eq_true, if_false]
        refine wpAny_bind (wpAny_letGo ?_)
        rw [loop_nameG]
        refine wpAny_pure ⟨plainId_quiet F.plain_max_loop _, best_loopG W cmp out old k (j + 1) _ v c (by omega) st2 (by simp only [argBest, hb, Bool.false_eq_true, if_false]; exact hv) kp2 atS2 fun y g2 tk2 hy kp3 k2 => ?_⟩
        exact fin y g2 tk2 hy kp3 fun b o b1 b2 e => k2 b o b1 b2 (kg b o b1 e))
theorem best_firstG (W : Walks P w A.in1 I fp wr n V St) (cmp : CmpInG P w A.in1 V bt h0) (out : S ∉ fp) (old : ∀ b o, h0.get? b = some o → b ∉ wr ∧ b ≠ S) (hn : 0 < n) {s : Shared} {c : Nat} (st : St 0 s.heap) (kp : KeptIn h0 s.heap) (atS : s.heap.get? S = some (bestOb #[] c))
    (fin : ∀ v g tk, V (argBest bt (n - 1)) v → KeptIn h0 g → R (.ok (.ret v)) { s with heap := g, toks := tk }) : codeAny (model P w) A (.builtin "max.loop" ⟨[.ref I, .none, .ref S], []⟩) R s := by
  have nw : S ∉ wr := fun z => out (W.sub _ z)
  refine codeAny_builtin F.entry_max_loop (by
    rw [Around.under_plainId F.plain_max_loop _]
    refine (show wpAny _ A.in1 (seqItems? (.ref S) >>= _) _ _ s from wpAny_bind (wpAny_seqItems atS rfl ?_))
    refine (show wpAny _ A.in1 (tryCatch (pyNext (.ref I)) _ >>= _) _ _ s from wpAny_bind (wpAny_tryCatch (W.item 0 s _ _ hn st fun x g tk hx st2 kg => ?_)))
    have atS2 := kg S _ nw atS
    refine (show wpAny _ A.in1 (updateSeq S (fun _ => #[x, x]) >>= _) _ _ _ from wpAny_bind (wpAny_updateSeq atS2 rfl ?_))
    rw [loop_nameG]
    exact wpAny_pure ⟨plainId_quiet F.plain_max_loop _, best_loopG W cmp out old (n - 1) 0 _ x _ (by omega) (W.frame _ _ _ st2 fun b hbf o e => up_other (fun z => out (z ▸ hbf)) e) hx (fun b o e => up_other (old b o e).2 (kg b o (old b o e).1 (kp b o e))) (Heap.get?_update_self _ atS2 rfl) fun y g2 tk2 hy kp3 _ => fin y g2 tk2 hy kp3⟩)
end
theorem lexAt_lt (ns ms : List Int) : ∀ k i, k = min ns.length ms.length - i → i ≤ min ns.length ms.length → Ob.lexAt (fun j => decide (ns.getD j 0 = ms.getD j 0)) (fun j => decide (ms.getD j 0 < ns.getD j 0)) (decide (ns.length > ms.length)) i k = HT.lexLt (ms.drop i) (ns.drop i)
  | 0, i, hk, hi => by
    rw [Ob.lexAt_zero]
    by_cases h : ns.length ≤ ms.length
    · have e : ns.drop i = [] := List.drop_eq_nil_of_le (by omega)
      rw [e, decide_eq_false (by omega)]
      cases ms.drop i with
      | nil => rfl
      | cons a r => rfl
    · have e : ms.drop i = [] := List.drop_eq_nil_of_le (by omega)
      rw [e, decide_eq_true (by omega)]
      cases h2 : ns.drop i with
      | nil =>
        have := List.drop_eq_nil_iff.mp h2
        omega
      | cons a r => rfl
  | k + 1, i, hk, hi => by
    have h1 : i < ns.length := by omega
    have h2 : i < ms.length := by omega
    have ih := lexAt_lt ns ms k (i + 1) (by omega) (by omega)
    rw [Ob.lexAt_succ, ih, List.drop_eq_getElem_cons h1, List.drop_eq_getElem_cons h2, HT.lexLt_cons]
    simp only [List.getD_eq_getElem?_getD, List.getElem?_eq_getElem h1, List.getElem?_eq_getElem h2, Option.getD_some]
    by_cases h : ns[i] = ms[i]
    · rw [if_pos (decide_eq_true h), if_pos h.symm]
    · rw [if_neg (by simp [h]), if_neg (fun e => h e.symm)]
theorem dec_beq (a b : Int) : decide (a = b) = (a == b) := by
  by_cases q : a = b
  · rw [decide_eq_true q]; exact (beq_iff_eq.mpr q).symm
  · rw [decide_eq_false q]; exact (beq_eq_false_iff_ne.mpr q).symm
section
variable {P : Program} {w : World} {A : Around} {E : Value → Shared → Prop} {s : Shared}
theorem gt_tups {l b : Addr} {xs ys : Array Value} {ns ms : List Int} {Q : Value → Shared → Prop} (hl : IsTup s.heap l xs) (hb : IsTup s.heap b ys) (i1 : IntsAre xs.toList ns) (i2 : IntsAre ys.toList ms) (hu : A.units < cLine) (h : Q (.bool (HT.lexLt ms ns)) s) : wpAny (model P w) A (richCompare .Gt (.ref l) (.ref b)) Q E s := by
  have e1 : xs.size = ns.length := by rw [← Array.length_toList]; exact i1.length
  have e2 : ys.size = ms.length := by rw [← Array.length_toList]; exact i2.length
  have v1 : ∀ j (h1 : j < xs.size), ∃ t, xs[j] = .int (ns.getD j 0) t := fun j h1 => i1.int_at _ _ (by rw [Array.getElem?_toList]; exact Array.getElem?_eq_getElem h1)
  have v2 : ∀ j (h1 : j < ys.size), ∃ t, ys[j] = .int (ms.getD j 0) t := fun j h1 => i2.int_at _ _ (by rw [Array.getElem?_toList]; exact Array.getElem?_eq_getElem h1)
  have R := Ob.RcOp.tuples_gt (A := A) (s := s) (e := fun j => decide (ns.getD j 0 = ms.getD j 0)) (r := fun j => decide (ms.getD j 0 < ns.getD j 0)) hl hb hu (fun j h1 h2 => by
    obtain ⟨t, et⟩ := v1 j h1
    obtain ⟨u, eu⟩ := v2 j h2
    rw [et, eu, show decide (ns.getD j 0 = ms.getD j 0) = (ns.getD j 0 == ms.getD j 0) from (dec_beq _ _)]
    exact SeqAt.EqAt.int_int _ _ _ _) (fun j h1 h2 _ => by
    obtain ⟨t, et⟩ := v1 j h1
    obtain ⟨u, eu⟩ := v2 j h2
    rw [et, eu]
    exact Ob.RcOp.gt_int _ _ _ _)
  rw [e1, e2, lexAt_lt ns ms (min ns.length ms.length) 0 rfl (Nat.zero_le _)] at R
  exact R P w E Q h
theorem cmp_tupsG {vs : Array Value} {f : Nat → List Int} (hu : A.units < cLine) {h0 : Heap} (t : TupsAt h0 vs f) : CmpInG P w A (fun i v => vs[i]? = some v) (fun i j => HT.lexLt (f j) (f i)) h0 := by
  intro i j x y s Q E hx hy kp q
  obtain ⟨a, its, rfl, t1, i1⟩ := t i x hx
  obtain ⟨b, its2, rfl, t2, i2⟩ := t j y hy
  exact gt_tups (tup_kept kp t1) (tup_kept kp t2) i1 i2 hu q
theorem call_max_pair {a b : Addr} {xs ys : Array Value} {ns ms : List Int} {Q : Value → Shared → Prop} (free : A.handled = none) (hu : A.units + 3 < cLine) (ta : IsTup s.heap a xs) (ia : IntsAre xs.toList ns) (tb : IsTup s.heap b ys) (ib : IntsAre ys.toList ms)
    (fin : ∀ g tk, KeptIn s.heap g → Q (.ref (if HT.lexLt ns ms = true then b else a)) { s with heap := g, toks := tk }) : wpAny (model P w) A (call (.builtin "max") [.ref a, .ref b]) Q E s := by
  refine call_function_tree F.kind_max F.plain_max F.entry_max (F.args_max2 _ _) ?_
  refine (show wpAny _ A.in1 (Builtin.Builtins.bindParams "max" ["key", "default"] 0 ⟨[], []⟩ >>= _) _ _ s from wpAny_bind (wpAny_of_eq (show Builtin.Builtins.bindParams "max" ["key", "default"] 0 ⟨[], []⟩ = pure [none, none] from rfl) ?_))
  refine (show wpAny _ A.in1 (newTuple [.ref a, .ref b] >>= _) _ _ s from wpAny_bind (wpAny_newObj_type ?_))
  have tT : (s.heap.push { cls := .type "tuple", data := .seq #[.ref a, .ref b] }).IsTuple s.heap.objs.size #[.ref a, .ref b] := ⟨_, Heap.get?_push_size _ rfl, rfl, _, rfl⟩
  have kT : KeptIn s.heap (s.heap.push { cls := .type "tuple", data := .seq #[.ref a, .ref b] }) := fun b o e => Heap.get?_push_of_some _ e
  have hsz : (s.heap.push { cls := .type "tuple", data := .seq #[.ref a, .ref b] }).objs.size = s.heap.objs.size + 1 := Heap.size_push ..
  generalize s.heap.push { cls := .type "tuple", data := .seq #[.ref a, .ref b] } = g1 at *
  refine wpAny_bind (wpAny_pyIter_tuple tT ?_)
  refine wpAny_bind (wpAny_newObj_type ?_)
  rw [loop_nameG]
  have tups : TupsAt g1 #[.ref a, .ref b] (fun i => if i = 0 then ns else ms) := by
    intro i v hv
    match i, hv with
    | 0, hv =>
      cases (show Value.ref a = v from Option.some.inj hv)
      exact ⟨a, xs, rfl, tup_kept kT ta, ia⟩
    | 1, hv =>
      cases (show Value.ref b = v from Option.some.inj hv)
      exact ⟨b, ys, rfl, tup_kept kT tb, ib⟩
    | i + 2, hv => cases hv
  have old : ∀ b o, g1.get? b = some o → b ∉ [g1.objs.size] ∧ b ≠ (g1.push { cls := .type "tuple_iterator", data := .fields #[.ref s.heap.objs.size, .int 0 0] }).objs.size := by
    intro b o e
    have b0 := Heap.lt_size e
    refine ⟨fun hm => absurd (List.mem_singleton.mp hm) (Nat.ne_of_lt b0), ?_⟩
    rw [Heap.size_push]
    exact Nat.ne_of_lt (Nat.lt_succ_of_lt b0)
  have out : (g1.push { cls := .type "tuple_iterator", data := .fields #[.ref s.heap.objs.size, .int 0 0] }).objs.size ∉ [g1.objs.size, s.heap.objs.size] := by
    rw [Heap.size_push]
    intro hm
    rcases List.mem_cons.mp hm with e | e
    · exact absurd e (Nat.ne_of_gt (Nat.lt_succ_self _))
    · exact absurd (List.mem_singleton.mp e) (Nat.ne_of_gt (by rw [hsz]; exact Nat.lt_succ_of_lt (Nat.lt_succ_self _)))
  have kp2 : ∀ o : Obj, KeptIn g1 ((g1.push { cls := .type "tuple_iterator", data := .fields #[.ref s.heap.objs.size, .int 0 0] }).push o) := fun o b u e => Heap.get?_push_of_some _ (Heap.get?_push_of_some _ e)
  refine wpAny_pure ⟨plainId_quiet F.plain_max_loop _, best_firstG (Walks.tuple (by simp [free]) _ s.heap.objs.size (by rw [hsz]; exact Nat.ne_of_lt (Nat.lt_succ_self _)) #[.ref a, .ref b]) (cmp_tupsG (by simp; omega) tups) out old (Nat.succ_pos 1) ⟨⟨_, Heap.get?_push_of_some _ (Heap.get?_push_size _ rfl), rfl, rfl⟩, (tT.push _).push _⟩ (kp2 _) (Heap.get?_push_size _ rfl) fun v g tk hv kg => ?_⟩
  have hv : (#[Value.ref a, .ref b] : Array Value)[if HT.lexLt ns ms = true then 1 else 0]? = some v := hv
  have e : v = .ref (if HT.lexLt ns ms = true then b else a) := by
    split at hv
    · rename_i h; rw [if_pos h]; exact (Option.some.inj hv).symm
    · rename_i h; rw [if_neg h]; exact (Option.some.inj hv).symm
  rw [e]
  exact fin g tk fun b o e => kg b o (kT b o e)
end
def rMaxT2 (K : PySem.W.Frag) : List V → Hp → VK → Prop := fun vs H Q => ∃ (a b : Addr) (ns ms : List Int), vs = [V.ref a, V.ref b] ∧ SqT K H a (ns.map V.int) ∧ SqT K H b (ms.map V.int) ∧ (HT.lexLt ns ms = true → Q (.ref b) H) ∧ (HT.lexLt ns ms = false → Q (.ref a) H)
def cdMaxT2 : CD := fun ds S Q => on2 ds fun d e => ∃ ns ms : List Int, d = tupI ns ∧ e = tupI ms ∧ Q (if HT.lexLt ns ms = true then tupI ms else tupI ns) S
section
variable {X : Cx}
theorem cr_maxT2 (hc : X.calm = true) (hu : X.A.units + 3 < cLine) : CallR X (.builtin "max") (rMaxT2 X.K) := by
  intro pins s σ H vs us Q I r h
  obtain ⟨a, b, ns, ms, rfl, ha, hb, q1, q2⟩ := h
  obtain ⟨u, v, rfl, ru, rv⟩ := vals2 r
  cases ru
  cases rv
  obtain ⟨its, r1, p1, _⟩ := I.tuple ha
  obtain ⟨its2, r2, p2, _⟩ := I.tuple hb
  refine call_max_pair (I.ok.hd hc) hu p1 (intsAre_of r1) p2 (intsAre_of r2) fun g tk kg => ?_
  refine ⟨.ref (if HT.lexLt ns ms = true then b else a), H, I.kept kg, rfl, ?_⟩
  by_cases h : HT.lexLt ns ms = true
  · rw [if_pos h]; exact q1 h
  · rw [if_neg h]; exact q2 (Bool.eq_false_iff.mpr h)
theorem cd_maxT2 (hc : X.calm = true) (hu : X.A.units + 65 < cLine) : CallD X (.builtin "max") cdMaxT2 := by
  refine ⟨_, cr_maxT2 hc (by omega), fun α S H xs vs Q Q' so r h k => ?_⟩
  obtain ⟨d, e, v, w, rfl, rfl, rv, rw', ns, ms, rfl, rfl, hq⟩ := on2.rp r h
  obtain ⟨a, rfl, ha⟩ := rp_tupI rv
  obtain ⟨b, rfl, hb⟩ := rp_tupI rw'
  refine ⟨a, b, ns, ms, rfl, ha, hb, fun e => ?_, fun e => ?_⟩
  · rw [if_pos e] at hq
    exact k _ H α _ S (Stp.refl _ _) so rw' hq
  · rw [if_neg (by rw [e]; decide)] at hq
    exact k _ H α _ S (Stp.refl _ _) so rv hq
end
end DL

/-! DL, 30: the greatest of a live list of ints. -/
namespace DL
open PySem PySem.Spec PyProof.Rows L2 StX ClX
section
variable {X : Cx}
def cdMaxL : CD := fun ds S Q => on1 ds fun d => onLst d S fun xs => ∃ ns : List Int, xs = ns.map D.int ∧ 0 < ns.length ∧ ∀ m, m ∈ ns → (∀ y, y ∈ ns → y ≤ m) → Q (.int m) S
theorem cd_maxL (hc : X.calm = true) : CallD X (.builtin "max") cdMaxL := by
  refine ⟨_, cr_max hc, fun α S H xs vs Q Q' so r h k => ?_⟩
  obtain ⟨d, v, rfl, rfl, rv, h⟩ := on1.rp r h
  obtain ⟨a, xs, ds, rfl, hsq, hr, ns, rfl, hl, h2⟩ := onLst.rp so rv h
  rw [rpl_ints hr] at hsq
  exact ⟨a, ns, rfl, hsq, hl, fun m h1 h3 => k.int so (h2 m h1 h3)⟩
end
end DL

/-! DL, 31: sorted(xs), xs a live list of tuples of ints. -/
namespace DL
open PySem PySem.Spec PyProof.Rows L2 StX ClX
theorem lex_dec : ∀ xs ys : List Int, HT.lexLt xs ys = decide (xs < ys)
  | [], [] => by rw [HT.lexLt_nil_nil]; simp
  | [], y :: ys => by rw [HT.lexLt_nil_cons]; simp
  | x :: xs, [] => by rw [HT.lexLt_cons_nil]; simp
  | x :: xs, y :: ys => by
    rw [HT.lexLt_cons, lex_dec xs ys]
    by_cases h : x = y
    · subst h
      rw [if_pos rfl]
      simp [List.cons_lt_cons_iff]
    · rw [if_neg h]
      simp [List.cons_lt_cons_iff, h]
def encT (b : Addr × List Int) : PyData := .tuple (b.2.map .int)
theorem enc_le (a b : Addr × List Int) : PySem.W.dataLe false encT a b = !HT.lexLt b.2 a.2 := by
  rw [PySem.W.dataLe_eq]
  show (!PySem.W.dataLt (.tuple (b.2.map .int)) (.tuple (a.2.map .int))) = _
  rw [PySem.W.dataLt_tuple, lex_dec]
  have := PySem.W.dataLt_ints b.2 a.2
  unfold PySem.W.rowLt at this
  rw [this]
theorem reads_ints {h : Heap} : ∀ {vs : List Value} {ns : List Int}, IntsAre vs ns → ReadsAll h vs (ns.map .int) []
  | _, _, .nil => .nil
  | _, _, .cons n t r => .cons (as := []) (bs := []) (.int n t) (reads_ints r)
/-- sorted(xs) of a list of tuples of ints -/
def rSortTI (K : PySem.W.Frag) : List V → Hp → VK → Prop := fun vs H Q => ∃ (a : Addr) (ps : List (Addr × List Int)), vs = [V.ref a] ∧ SqL K H a (ps.map fun p => V.ref p.1) ∧ (∀ p ∈ ps, p.2 ≠ [] ∧ SqT K H p.1 (p.2.map V.int)) ∧
  ∀ (qs : List (Addr × List Int)) (c : Addr), qs.Perm ps → qs.Pairwise (fun p q => HT.lexLt q.2 p.2 = false) → H c = none → Q (.ref c) (upd H c (.lst (qs.map fun p => V.ref p.1)))
theorem each_refs : ∀ {ps : List (Addr × List Int)} {out : List Value}, PySem.W.EachIs (fun (v : Value) (b : Addr × List Int) => v = Value.ref b.1) out ps → out = ps.map fun p => Value.ref p.1
  | _, _, .nil => rfl
  | _, _, .cons h t => by rw [h, each_refs t]; rfl
theorem refs_each (R : Value → Addr × List Int → Prop) : ∀ {ps : List (Addr × List Int)}, (∀ p ∈ ps, R (Value.ref p.1) p) → PySem.W.EachIs R (ps.map fun p => Value.ref p.1) ps
  | [], _ => .nil
  | p :: r, h => .cons (h p List.mem_cons_self) (refs_each R fun q hq => h q (List.mem_cons_of_mem _ hq))
theorem vals_refs : ∀ ps : List (Addr × List Int), Vals (ps.map fun p => V.ref p.1) (ps.map fun p => Value.ref p.1)
  | [] => .nil
  | p :: r => .cons (show RelV (.ref p.1) (.ref p.1) from rfl) (vals_refs r)
section
variable {X : Cx}
theorem cr_sortTI (hu : X.A.units + 4 < cLine) : CallR X (.builtin "sorted") (rSortTI X.K) := by
  intro pins s σ H vs us Q I r h
  obtain ⟨a, ps, rfl, hs, hk, q⟩ := h
  rw [Vals.ref1 r]
  obtain ⟨its, rv, pl, hz⟩ := I.list hs
  have e := refs_vals rv
  subst e
  rw [List.length_map] at hz
  refine PySem.W.sorted_data (R := fun v b => v = Value.ref b.1) (enc := encT) (bs := ps) (vs := ps.map fun p => Value.ref p.1) pl.isList (refs_each _ fun p _ => rfl) (refs_each _ fun p hp => ?_) (PySem.W.AllAlike.of fun b b' => ?_) (.inl fun d hd => ?_) (by first | exact hz | simpa using hz) (fun b hb => ?_) fun out hl ho => ?_
  · obtain ⟨its2, r2, p2, _⟩ := I.tuple (hk p hp).2
    obtain ⟨o, h1, h2, n, h3⟩ := p2
    exact ⟨[], .tuple h1 h2 h3 (reads_ints (by simpa using intsAre_of r2))⟩
  · show PySem.W.alike (.tuple _) (.tuple _) = true
    simp only [PySem.W.alike]
    exact PySem.W.alike_ints _ _
  · obtain ⟨b, hb, rfl⟩ := List.mem_map.mp hd
    have hn := (hk b hb).1
    obtain ⟨b1, b2⟩ := b
    cases b2 with
    | nil => exact absurd rfl hn
    | cons x r => exact ⟨_, _, rfl⟩
  · have hdp : (encT b).depth ≤ 1 := by
      unfold encT
      rw [PyData.depth, PySem.W.depth_ints]
      exact Nat.le_refl _
    omega
  · have e := each_refs ho
    subst e
    obtain ⟨ep, he'⟩ := PyProof.Rows.sortedAll_at s.heap (ps.map fun p => Value.ref p.1) (List.toArray ((ps.mergeSort (PySem.W.dataLe false encT)).map fun p => Value.ref p.1))
    have hperm := List.mergeSort_perm ps (PySem.W.dataLe false encT)
    have hpw : (ps.mergeSort (PySem.W.dataLe false encT)).Pairwise (fun p q => HT.lexLt q.2 p.2 = false) := by
      refine (PySem.W.sort_pairwise (PySem.W.sortLe_total _ false _) ps).imp fun {p q} h => ?_
      have h : PySem.W.dataLe false encT p q = true := h
      rw [enc_le] at h
      simpa using h
    generalize ps.mergeSort (PySem.W.dataLe false encT) = qs at *
    have hlen : (qs.map fun p => V.ref p.1).length ≤ sizeLine := by rw [List.length_map, hperm.length_eq]; exact hz
    exact ⟨.ref _, upd H (s.heap.objs.size + 1) (.lst (qs.map fun p => V.ref p.1)), I.laid (t' := s.toks) (fun _ _ => PyProof.Rows.sortedAll_old) (Nat.le_succ _) ⟨hlen, _, ep, vals_refs qs, he'⟩, rfl, q qs _ hperm hpw (I.hok.fresh (Nat.le_succ _))⟩
def cdSortTI : CD := fun ds S Q => on1 ds fun d => onLst d S fun xs => ∃ nss : List (List Int), xs = nss.map tupI ∧ (∀ ns ∈ nss, ns ≠ []) ∧ ∀ mss : List (List Int), mss.Perm nss → mss.Pairwise (fun p q => HT.lexLt q p = false) → Q (.loc S.length) (S ++ [.lst (mss.map tupI)])
theorem cd_sortTI (hu : X.A.units + 65 < cLine) : CallD X (.builtin "sorted") cdSortTI := by
  refine ⟨_, cr_sortTI (by omega), fun α S H xs vs Q Q' so r h k => ?_⟩
  obtain ⟨d, v, rfl, rfl, rv, h⟩ := on1.rp r h
  obtain ⟨a, xs, ds, rfl, hsq, hr, nss, rfl, hne, h2⟩ := onLst.rp so rv h
  obtain ⟨ps, rfl, rfl, h3⟩ := rpl_tups hr
  refine ⟨a, ps, rfl, hsq, fun p hp => ⟨hne p.2 (List.mem_map.mpr ⟨p, hp, rfl⟩), (h3 p hp).1⟩, fun qs c hperm hpw hc => ?_⟩
  have hr2 : RpL X.K α H (qs.map fun p => V.ref p.1) ((qs.map (·.2)).map tupI) := by
    have hall : ∀ p ∈ qs, Rp X.K α H (.ref p.1) (tupI p.2) := fun p hp => (h3 p (hperm.mem_iff.mp hp)).2
    clear hperm hpw
    induction qs with
    | nil => trivial
    | cons p r ih => exact ⟨_, _, rfl, hall p List.mem_cons_self, ih fun q hq => hall q (List.mem_cons_of_mem _ hq)⟩
  obtain ⟨t2, so2, r2⟩ := new_lst so hr2 hc
  exact k _ _ _ _ _ t2 so2 r2 (h2 (qs.map (·.2)) (hperm.map _) (List.pairwise_map.mpr hpw))
end
end DL

/-! DL, 32: sorted(d) of a dict whose keys are tuples of ints. -/
namespace DL
open PySem PySem.Spec PyProof.Rows L2 StX ClX
def intsK (ns : List Int) : List Key := ns.map Sum.inl
theorem intsK_V (ns : List Int) : (intsK ns).map kV = ns.map V.int := by
  unfold intsK
  rw [List.map_map]
  rfl
theorem keys_pairs {H : Hp} : ∀ {kvs : List (List Key × V)} {bs : List Addr} {nss : List (List Int)}, IsKeys H kvs bs → kvs.map (·.1) = nss.map intsK → ∃ ps : List (Addr × List Int), bs = ps.map (·.1) ∧ nss = ps.map (·.2) ∧ ∀ p ∈ ps, H p.1 = some (.tup (p.2.map V.int))
  | _, _, [], .nil, _ => ⟨[], rfl, rfl, fun _ h => nomatch h⟩
  | _, _, ns :: nss, .nil, e => by cases e
  | _, _, [], .cons _ _, e => by cases e
  | _, _, ns :: nss, @Paired.cons _ _ _ kv b kvs bs h t, e => by
    rw [List.map_cons, List.map_cons] at e
    injection e with e1 e2
    obtain ⟨ps, h1, h2, h3⟩ := keys_pairs t e2
    refine ⟨(b, ns) :: ps, by rw [h1]; rfl, by rw [h2]; rfl, fun p hp => ?_⟩
    rcases List.mem_cons.mp hp with rfl | hp
    · have h : H b = some (.tup (kv.1.map kV)) := h
      rw [e1, intsK_V] at h
      exact h
    · exact h3 p hp
def rSortDT : List V → Hp → VK → Prop := fun vs H Q => ∃ (d : Addr) (kvs : List (List Key × V)) (nss : List (List Int)), vs = [V.ref d] ∧ Rd H d (.dT kvs) ∧ kvs.map (·.1) = nss.map intsK ∧ (∀ ns ∈ nss, ns ≠ []) ∧
  ∀ (qs : List (Addr × List Int)) (c : Addr), (qs.map (·.2)).Perm nss → qs.Pairwise (fun p q => HT.lexLt q.2 p.2 = false) → (∀ q ∈ qs, H q.1 = some (.tup (q.2.map V.int))) → H c = none → Q (.ref c) (upd H c (.lst (qs.map fun p => V.ref p.1)))
section
variable {X : Cx}
theorem cr_sortDT (hc : X.calm = true) (hu : X.A.units + 5 < cLine) : CallR X (.builtin "sorted") rSortDT := by
  intro pins s σ H xs us Q I r h
  obtain ⟨d, kvs, nss, rfl, hd, hks, hne, q⟩ := h
  obtain ⟨u, rfl, rx⟩ := r.one
  cases rx
  obtain ⟨z, hs, ks, pr, o, es, ep, ho, hx, hdt, he, hn⟩ := (show ObjOk X.prog X.w H s.heap d (.dT kvs) from hd.ok I.hok)
  have l1 : es.size = ks.length := size_of_entries he
  have l2 : kvs.length = ks.length := Paired.length pr
  obtain ⟨ps, p1, p2, p3⟩ := keys_pairs (isKeys_of pr) hks
  have l3 : ps.length = ks.length := by
    have := congrArg List.length p1
    rw [List.length_map, List.length_map] at this
    exact this.symm
  refine PySem.Calls.call_function_entry kind_sorted plain_sorted entry_sorted (args_sorted1 _) ?_
  unfold Builtin.«sorted»
  refine wpAny_bind (wpAny_pure ?_)
  refine wpAny_bind (PySem.W.kdu_collect (A := X.A.in1) (kdl_raw hs hx hdt) (by simpa using I.ok.hd hc) ho (by omega) fun h' tk acc hk hacc => ?_)
  have ea : acc.toList = ps.map fun p => Value.ref p.1 := by
    have e0 : acc.toList = ks.map fun x => Value.ref x.2.1 := by
      have hl : acc.toList.length = ks.length := by rw [Array.length_toList, hacc.1]; exact l1
      apply List.ext_getElem?
      intro j
      rw [List.getElem?_map]
      cases hj : acc.toList[j]? with
      | none =>
        have h1 := List.getElem?_eq_none_iff.mp hj
        rw [List.getElem?_eq_none (by omega)]
        all_goals rfl
      | some v =>
        obtain ⟨en, hen, hv⟩ := hacc.2 j v (by rw [← Array.getElem?_toList]; exact hj)
        have qe := entry_at he j
        rw [hen] at qe
        cases hb : ks[j]? with
        | none =>
          rw [hb] at qe
          exact nomatch (show some en = none from qe)
        | some b =>
          rw [hb] at qe
          have e2 : en = entryOfKey (tupleKind (mixKind X.prog X.w)) b := Option.some.inj qe
          rw [hv, e2]
          all_goals rfl
    have e1 : (ks.map fun x => Value.ref x.2.1) = (ks.map fun x => x.2.1).map Value.ref := by rw [List.map_map]; rfl
    rw [e0, e1, p1, List.map_map]
    rfl
  rw [ea]
  have hlen : (ps.map fun p => Value.ref p.1).length ≤ sizeLine := by rw [List.length_map]; omega
  refine wpAny_bind (wpAny_newList ?_ hlen)
  have hat : (h'.push { cls := .type "list", data := .seq (ps.map fun p => Value.ref p.1).toArray }).get? h'.objs.size = some (seqObj "list" (ps.map fun p => Value.ref p.1).toArray 0) := Heap.get?_push_size _ rfl
  have I1 : Inv X pins σ H { s with heap := h', toks := tk } := I.kept (t' := tk) hk
  refine wpAny_bind (wpAny_holding (wpAny_mono (PySem.W.list_sort_data (n := 0) (R := fun v b => v = Value.ref b.1) (enc := encT) (bs := ps) (vs := ps.map fun p => Value.ref p.1) (Q := fun _ s' => ∃ out : List Value, PySem.W.EachIs (fun (v : Value) (b : Addr × List Int) => v = Value.ref b.1) out (ps.mergeSort (PySem.W.dataLe false encT)) ∧
    s' = { s with heap := sortedHeap (h'.push { cls := .type "list", data := .seq (ps.map fun p => Value.ref p.1).toArray }) h'.objs.size (ps.map fun p => Value.ref p.1) out.toArray, toks := tk })
    hat (refs_each _ fun p _ => rfl) (refs_each _ fun p hp => ?_) (PySem.W.AllAlike.of fun b b' => ?_) (.inl fun d hd => ?_) (by omega) (fun b hb => ?_) fun out hl ho => ⟨out, ho, rfl⟩) (fun _ s' x => ?_) fun _ _ e => e))
  · obtain ⟨its2, r2, ⟨oo, g1, g2, n, g3⟩, _⟩ := I.tuple (.inl (.inl (p3 p hp)))
    exact ⟨[], .tuple (Heap.get?_push_of_some _ (hk _ _ g1)) g2 g3 (reads_ints (by simpa using intsAre_of r2)), by simp⟩
  · show PySem.W.alike (.tuple _) (.tuple _) = true
    simp only [PySem.W.alike]
    exact PySem.W.alike_ints _ _
  · obtain ⟨b, hb, rfl⟩ := List.mem_map.mp hd
    have hn2 := hne b.2 (by rw [p2]; exact List.mem_map.mpr ⟨b, hb, rfl⟩)
    obtain ⟨b1, b2⟩ := b
    cases b2 with
    | nil => exact absurd rfl hn2
    | cons x r => exact ⟨_, _, rfl⟩
  · have hdp : (encT b).depth ≤ 1 := by
      unfold encT
      rw [PyData.depth, PySem.W.depth_ints]
      exact Nat.le_refl _
    have hin : X.A.in1.units ≤ X.A.units + 1 := by simp
    omega
  · obtain ⟨out, ho, rfl⟩ := x
    have e := each_refs ho
    subst e
    obtain ⟨ep2, he2⟩ := sortedHeap_at (out := ((ps.mergeSort (PySem.W.dataLe false encT)).map fun p => Value.ref p.1).toArray) hat
    have hperm := List.mergeSort_perm ps (PySem.W.dataLe false encT)
    have hpw : (ps.mergeSort (PySem.W.dataLe false encT)).Pairwise (fun p q => HT.lexLt q.2 p.2 = false) := by
      refine (PySem.W.sort_pairwise (PySem.W.sortLe_total _ false _) ps).imp fun {p q} h => ?_
      have h : PySem.W.dataLe false encT p q = true := h
      rw [enc_le] at h
      simpa using h
    generalize ps.mergeSort (PySem.W.dataLe false encT) = qs at *
    have hlen2 : (qs.map fun p => V.ref p.1).length ≤ sizeLine := by rw [List.length_map, hperm.length_eq]; omega
    refine wpAny_pure ⟨_, rfl, ⟨.ref _, upd H h'.objs.size (.lst (qs.map fun p => V.ref p.1)), I1.laid (t' := tk) (fun b u e => ?_) (Nat.le_refl _) ⟨hlen2, _, ep2, vals_refs qs, he2⟩, rfl, q qs _ (by rw [p2]; exact hperm.map _) hpw (fun p hp => p3 p (hperm.mem_iff.mp hp)) (I1.hok.fresh (Nat.le_refl _))⟩⟩
    have e : h'.get? b = some u := e
    have hb := Heap.lt_size e
    rw [sortedHeap_old (Nat.ne_of_lt hb) (by rw [Heap.size_push]; exact Nat.lt_succ_of_lt hb)]
    exact Heap.get?_push_of_some _ e
theorem rpt_keys {K : PySem.W.Frag} {α : Locs} {H : Hp} : ∀ {kvs : List (List Key × D)} {xs : List (List Key × V)}, RpT K α H xs kvs → xs.map (·.1) = kvs.map (·.1)
  | [], xs, h => by
    have h : xs = [] := h
    rw [h]; rfl
  | (k, d) :: r, xs, h => by
    obtain ⟨v, u, rfl, h1, h2⟩ := h
    rw [List.map_cons, List.map_cons, rpt_keys h2]
/-- a tuple is no live location -/
theorem off_tup {K : PySem.W.Frag} {α : Locs} {H : Hp} {S : Store} (so : StoreOk K α H S) {a : Addr} {xs : List V} (h : H a = some (.tup xs)) : Off α a := by
  intro l e
  have hl : l < α.length := (List.getElem?_eq_some_iff.mp e).1
  have hS : S[l]? = some (S[l]'(by rw [← so.len]; exact hl)) := List.getElem?_eq_getElem _
  have ob := so.ob l a _ e hS
  generalize S[l]'(by rw [← so.len]; exact hl) = o at ob
  cases o with
  | lst ds => obtain ⟨ys, h2, _⟩ := ob; rw [h] at h2; cases h2
  | dk kvs => obtain ⟨ys, h2, _⟩ := ob; rw [h] at h2; cases h2
  | dt kvs => obtain ⟨ys, h2, _⟩ := ob; rw [h] at h2; cases h2
  | ins C fs => obtain ⟨dx, ys, h2, _⟩ := ob; rw [h] at h2; cases h2
  | ext φ => have h2 : H a = some (.ext (φ a)) := ob; rw [h] at h2; cases h2
theorem rp_ints {K : PySem.W.Frag} {α : Locs} {H : Hp} : ∀ ns : List Int, RpL K α H (ns.map V.int) (ns.map D.int)
  | [] => rfl
  | n :: r => ⟨_, _, rfl, rfl, rp_ints r⟩
def cdSortDT : CD := fun ds S Q => on1 ds fun d => ∃ (l : Nat) (kvs : List (List Key × D)) (nss : List (List Int)), d = .loc l ∧ S[l]? = some (.dt kvs) ∧ kvs.map (·.1) = nss.map intsK ∧ (∀ ns ∈ nss, ns ≠ []) ∧
  ∀ mss : List (List Int), mss.Perm nss → mss.Pairwise (fun p q => HT.lexLt q p = false) → Q (.loc S.length) (S ++ [.lst (mss.map tupI)])
theorem cd_sortDT (hc : X.calm = true) (hu : X.A.units + 65 < cLine) : CallD X (.builtin "sorted") cdSortDT := by
  refine ⟨_, cr_sortDT hc (by omega), fun α S H xs vs Q Q' so r h k => ?_⟩
  obtain ⟨d, v, rfl, rfl, rv, l, kvs, nss, rfl, hl, hk, hne, h2⟩ := on1.rp r h
  obtain ⟨a, rfl, ha⟩ := rv
  obtain ⟨xs, hs, hr⟩ := so.ob l a _ ha hl
  refine ⟨a, xs, nss, rfl, .inl hs, by rw [rpt_keys hr]; exact hk, hne, fun qs c hperm hpw ht hc => ?_⟩
  have hr2 : RpL X.K α H (qs.map fun p => V.ref p.1) ((qs.map (·.2)).map tupI) := by
    have hall : ∀ p ∈ qs, Rp X.K α H (.ref p.1) (tupI p.2) := fun p hp => ⟨p.1, _, rfl, ⟨ht p hp, off_tup so (ht p hp)⟩, rp_ints _⟩
    clear hperm hpw ht
    induction qs with
    | nil => trivial
    | cons p r ih => exact ⟨_, _, rfl, hall p List.mem_cons_self, ih fun q hq => hall q (List.mem_cons_of_mem _ hq)⟩
  obtain ⟨t2, so2, r2⟩ := new_lst so hr2 hc
  exact k _ _ _ _ _ t2 so2 r2 (h2 (qs.map (·.2)) hperm (List.pairwise_map.mpr hpw))
end
end DL

/-! DL, 33: == of two instances of a class by its own __eq__. -/
namespace DL
open PySem PySem.Spec PyProof.Rows L2
theorem lt64 {a c : Nat} (h : a + 64 < c) : a < c := Nat.lt_of_le_of_lt (Nat.le_add_right _ _) h
def rOwn (C : Addr) (sp : Sp) : R2 := fun x y H Q => ∃ a b dx dy fs gs, x = .ref a ∧ y = .ref b ∧ H a = some (.ins C dx fs) ∧ H b = some (.ins C dy gs) ∧ sp [.ref a, .ref b] H Q E0
def rdOwn (C : Addr) (dsp : DSp) : RD := fun x y S Q => onObj C x S fun _ => onObj C y S fun _ => dsp [x, y] S Q noX
section
variable {X : Cx} {CX : CXT} {k : Nat} {f C : Addr} {fd : FuncData} {ps : List Str} {dsp : DSp} {sp : Sp}
theorem op_own (hm : Meth X.K C "__eq__" f) (F : FnOk X.prog X.w X.K X.mg X.base CX k f fd ps sp) (hu : X.A.units < cLine) (hr : Room k X.A) (hb : Binds X.K fd ps []) (hx : Passes CX X E0) : OpR X (compareOp .Eq) (rOwn C sp) := by
  intro pins s σ H x y v u Q I rx ry hq
  obtain ⟨a, b, dx, dy, fs, gs, rfl, rfl, ha, hb', hr'⟩ := hq
  cases rx
  cases ry
  obtain ⟨mA, J, _⟩ := ins_get I.hok ha
  obtain ⟨mB, J', _⟩ := ins_get I.hok hb'
  obtain ⟨od, J, _⟩ := J.look
  obtain ⟨od', J', _⟩ := J'.look
  obtain ⟨m, hF⟩ := I.fr
  show wpAny (model X.prog X.w) X.A (richCompare .Eq (.ref a) (.ref b)) (EP X pins σ Q) X.xe s
  refine PySem.W.cmp_K (op := .Eq) (tb := .ref C) hu hF I.ok.mod.kin J J'.type (by simp [PySem.W.notFirst]) hm.at_ hm.fn ?_
  refine wpAny_mono (run_fn (us := [.ref a, .ref b]) (vs := [.ref a, .ref b]) F hr hb .nil hx I (.cons rfl (.cons rfl .nil)) hr') (fun v s' hv => ?_) fun _ _ z => z
  obtain ⟨z, H', I', rz, q⟩ := hv
  have out : v ≠ .notImplemented → PySem.W.CmpBack (EP X pins σ Q) v s' := fun hne => by
    have : EP X pins σ Q v s' := ⟨z, H', I', rz, q⟩
    cases v <;> first | exact absurd rfl hne | exact this
  refine out fun e => ?_
  subst e
  cases z <;> first | (obtain ⟨_, e⟩ := rz; exact nomatch e) | exact nomatch rz | (have rz : Value.notImplemented = _ := rz; exact nomatch rz)
theorem od_own (hm : Meth X.K C "__eq__" f) (F : FnOk X.prog X.w X.K X.mg X.base CX k f fd ps (spOf X.K 2 dsp)) (hu : X.A.units < cLine) (hr : Room k X.A) (hb : Binds X.K fd ps []) (hx : Passes CX X E0) : OpD X (compareOp .Eq) (rdOwn C dsp) :=
  ⟨_, op_own hm F hu hr hb hx, fun α S H x y v u Q Q' so rx ry h k => by
    obtain ⟨a, dx, xs, fs, e1, hx1, hr1, h⟩ := onObj.rp so rx h
    obtain ⟨b, dy, ys, gs, e2, hy1, hr2, h⟩ := onObj.rp so ry h
    subst e1 e2
    exact ⟨a, b, dx, dy, _, _, rfl, rfl, hx1, hy1, rfl, α, S, [x, y], Q, noX, so, ⟨_, _, rfl, rx, _, _, rfl, ry, rfl⟩, h, k, KX.no⟩⟩
end
end DL

/-! DL, 34: comprehensions over an empty dict; dicts compared; the empty set's length. -/
namespace DL
open PySem PySem.Spec PyProof.Rows L2
/-- nothing is walked -/
def It0 (d : Addr) (o : Obj) : It := ⟨fun _ _ => False, fun _ _ _ _ => False, fun _ H => H d = some (.frz o (.dT []))⟩
section
variable {X : Cx} {pins : List (Addr × Obj)} {σ : L2.St} {H : Hp} {s : Shared} {d : Addr} {o : Obj}
theorem frz0 (I : Inv X pins σ H s) (h : H d = some (.frz o (.dT []))) :
    (d == sysModules) = false ∧ s.heap.get? d = some o ∧ ∃ (ep : Nat), o.data = .dict #[] ep ∧ s.heap.DictAt (mixKind X.prog X.w) d [] ep := by
  obtain ⟨hs, hgd, hx, es, ep, hdt, hsz, _⟩ := I.frzT h
  have e : es = #[] := Array.eq_empty_of_size_eq_zero hsz
  subst e
  exact ⟨hs, hgd, ep, hdt, o, #[], hgd, hx, hdt, (fun e he => by simp at he), .nil, List.nodup_nil⟩
theorem turn_vals0 {P : Program} {w : World} {K : PySem.W.Frag} {tg : Expr} {ep : Nat} (it : Addr) (hod : o.data = .dict #[] ep) : Turn P w K tg (It0 d o) [it] it (fun i h => h.IsValIter it d i 0 ep) where
  mem := by simp
  obj := fun i h st b hb => by
    have e : b = it := by simpa using hb
    subst e
    obtain ⟨oi, e, c, dd⟩ := st
    exact ⟨oi, e, fun v z => by rw [dd] at z; cases z⟩
  keep := fun i h h' st k => st.at fun oi e => k it (by simp) oi e
  item := by
    intro X hP hw hK hc i pins s σ H E I hf st hg
    exact hg.elim
  done := by
    intro X hP hw hK hc i pins s σ H E I hf st hg
    subst hP hw hK
    obtain ⟨f0, f1, f2, f3, f4, f5⟩ := hf it (by simp)
    obtain ⟨hs, hgd, ep', hdt, hm⟩ := frz0 I hg
    have e : ep' = ep := by rw [hod] at hdt; injection hdt with _ e; exact e.symm
    subst e
    exact wpAny_pyNext_values_end (I.ok.hd hc) st hm rfl fun h' eb => ⟨rfl, I.turned (t' := s.toks) (fun b ob hb e => eb b ob hb e) f0 f1 f3 f4 f5⟩
  self := fun A i s Q E st h => wpAny_pyIter_valiter st h
def iVals0 (td : TE) : TI := fun σ H R => td σ H fun x H1 => ∃ d o, x = .ref d ∧ H1 d = some (.frz o (.dT [])) ∧ R (It0 d o) H1
theorem pi_values0 {tg e : Expr} {td : TE} {apos cpos : Pos} (he : PE X e td) (hbase : attributeBase e "values" X.env (eval e X.env) = eval e X.env := by rfl) (hline : (apos.endLine == cpos.line) = true := by rfl) : PI X tg (.Call (.Attribute e "values" apos) [] [] cpos) (iVals0 td) := by
  refine ⟨fun pins s σ H R I h => ?_⟩
  refine wpAny_Call_method (T := "dict") (id := "dict.values") hbase rfl hline F.plainAttrs_dict F.slot_dict_values F.type_dict_values (thn (he.run pins s σ H _ I h) fun u s1 ⟨x, H1, I1, rx, d, o, ex, hd, q⟩ => ?_)
  subst ex
  obtain rfl : u = Value.ref d := rx
  obtain ⟨hs, hgd, ep, hdt, hm⟩ := frz0 I1 hd
  refine ⟨hm.dictOf.typeIs, hm.dictOf.mapOf.noDict, ?_⟩
  have I2 : Inv X pins σ H1 { s1 with heap := s1.heap.push { cls := .type "dict_values", data := .fields #[.ref d] } } := I1.kept (t' := s1.toks) fun b ob q => Heap.get?_push_of_some _ q
  have fin : wpAny (model X.prog X.w) X.A (pyIter (.ref s1.heap.objs.size)) (PIE X pins σ tg R) X.xe { s1 with heap := s1.heap.push { cls := .type "dict_values", data := .fields #[.ref d] } } := by
    exact wpAny_pyIter_values (d := d) (knd := mixKind X.prog X.w) ⟨_, Heap.get?_push_size _ rfl, rfl, rfl⟩ (hm.push _) (pi_one (tk := s1.toks) I2 _ (turn_vals0 _ hdt) ⟨_, Heap.get?_push_size _ rfl, rfl, rfl⟩ q)
  show wpAny _ _ (callWith cpos (.builtin "dict.values") [.ref d] [] []) _ X.xe s1
  exact method_meetsIn F.slot_dict_values F.entry_dict_values rfl (PySem.evalArgs_none ⟨rfl, hm.dictOf.typeIs, F.args_dict_values_1 _, _, meets_dict_values (mixKind X.prog X.w) d hs, ⟨[], hm.dictOf⟩, fin⟩)
end
def gNo : TG := fun _ _ _ _ => False
def tNo : TT := fun _ _ _ => False
def eNo : TE := fun _ _ _ => False
theorem pg_no {X : Cx} {e : Expr} : PG X e gNo := ⟨fun _ _ _ _ _ _ _ _ _ h => h.elim⟩
theorem pt_no {X : Cx} {e : List Expr} : PTs X e tNo := ⟨fun _ _ _ _ _ _ h => h.elim⟩
theorem pe_no {X : Cx} {e : Expr} : PE X e eNo := ⟨fun _ _ _ _ _ _ h => h.elim⟩
/-- slot i holds an instance of C whose attribute f is an empty dict -/
def onEmpty (C : Addr) (f : Str) (i : Nat) (ρ : Rho) : Prop := ∃ fs, getR ρ i = some (.obj C fs) ∧ fs.lookup f = some (.dt [])
section
variable {X : Cx} {C : Addr} {f : Str} {i : Nat} {pos vpos apos cpos fpos : Pos} {x : Str} {elt tg : Expr} {ifs : List Expr} {scope : Scope} {own : List (Str × Nat)}
theorem onEmpty.rp {K : PySem.W.Frag} {α : Locs} {ρ : Rho} {S : Store} {σ : L2.St} {H : Hp} (so : StoreOk K α H S) (ro : RhoOk K α H ρ σ) (h : onEmpty C f i ρ) :
    ∃ a dx xs d, σ[i]? = some (some (.ref a)) ∧ H a = some (.ins C dx xs) ∧ xs.lookup f = some (.ref d) ∧ H d = some (.dT []) ∧ Off α d := by
  obtain ⟨fs, h1, h2⟩ := h
  obtain ⟨v, hv, rv⟩ := ro.get h1
  obtain ⟨a, dx, xs, rfl, ha, _, hr⟩ := rv
  obtain ⟨u, hu, ru⟩ := hr.lookup h2
  obtain ⟨d, ys, rfl, hd, of, hy⟩ := ru
  cases (show ys = [] from hy)
  exact ⟨a, dx, xs, d, hv, ha, hu, hd, of⟩
theorem back0 {H : Hp} {d D : Addr} {od : Obj} {u : HO} (hd : H d = some (.dT [])) (hD : upd H d (.frz od (.dT [])) D = none) :
    D ≠ d ∧ H D = none ∧ upd (upd (upd H d (.frz od (.dT []))) D u) d (.dT []) = upd H D u := by
  have ne : D ≠ d := fun e => by rw [e, upd_same] at hD; cases hD
  refine ⟨ne, by rwa [upd_ne ne] at hD, ?_⟩
  funext b
  unfold upd
  by_cases h1 : b = d
  · subst h1
    rw [if_pos rfl, if_neg (Ne.symm ne), hd]
  · rw [if_neg h1]
    by_cases h2 : b = D
    · rw [if_pos h2, if_pos h2]
    · rw [if_neg h2, if_neg h2, if_neg h1]
/-- y = [.. for .. in o.f.values() ..], o.f empty -/
def sLcV0 (C : Addr) (f : Str) (i j : Nat) : DS := fun E ρ S => onEmpty C f i ρ ∧ gdName j (.loc S.length) ρ (S ++ [.lst []]) E.nx
theorem ds_lcV0 {j : Nat} {y : Str} {py spos : Pos} (hc : X.calm = true) (hN : X.N.Nodup) (hi : X.N[i]? = some x) (hv : Vis X.env.scope x) (c : Cls X.K C) (n : NoAttr X.K C f) (hy : X.N[j]? = some y) (hyl : X.env.scope.names.lookup y = some .local)
    (hsw : swapsWith (.ListComp elt [⟨tg, .Call (.Attribute (.Attribute (.Name x vpos) f fpos) "values" apos) [] [] cpos, ifs, 0⟩] scope pos) (some (.Name y py)) spos.line X.env = pure true) (ok : BlkOk X.N X.env.scope scope own)
    (hd : (x == ("__debug__" : Str)) = false := by decide) (hcd : (x == ("__classdict__" : Str)) = false := by decide)
    (hb : attributeBase (.Name x vpos) f X.env (eval (.Name x vpos) X.env) = eval (.Name x vpos) X.env := by rfl)
    (hbase : attributeBase (.Attribute (.Name x vpos) f fpos) "values" X.env (eval (.Attribute (.Name x vpos) f fpos) X.env) = eval (.Attribute (.Name x vpos) f fpos) X.env := by rfl) (hline : (apos.endLine == cpos.line) = true := by rfl)
    (hs : ∀ v, foldedSetIterable (.Call (.Attribute (.Attribute (.Name x vpos) f fpos) "values" apos) [] [] cpos) X.env v = pure v := by intro _; rfl) :
    DSt X (.Assign [.Name y py] (.ListComp elt [⟨tg, .Call (.Attribute (.Attribute (.Name x vpos) f fpos) "values" apos) [] [] cpos, ifs, 0⟩] scope pos) spos) (sLcV0 C f i j) := by
  refine ⟨_, ps_lock (ps_setLc hc hN hy hyl hsw (pi_values0 (pe_fld (pe_var hi hv hd hcd) hb) hbase hline) ok (fun _ _ _ _ _ => pg_no) (fun _ _ _ _ _ => pt_no) (fun _ _ _ _ _ => pe_no) hs), fun α ρ S σ H E F so ro q k => ?_⟩
  obtain ⟨a, dx, xs, d, h1, h2, h3, h4, of⟩ := q.1.rp so ro
  have nad : a ≠ d := fun e => by rw [e, h4] at h2; cases h2
  refine ⟨d, .dT [], h4, trivial, fun od => ⟨.ref a, h1, a, C, dx, xs, .ref d, rfl, by rw [upd_ne nad]; exact h2, c, n, h3, d, od, rfl, upd_same, fun D hD => ?_⟩⟩
  obtain ⟨ne, hDn, e⟩ := back0 (u := .lst []) h4 hD
  refine ⟨fun j m H' => j = 0 ∧ H' = upd (upd H d (.frz od (.dT []))) D (.lst []), ⟨0, rfl, rfl⟩, ?_⟩
  rintro jj m H' ⟨rfl, rfl⟩
  have hdd : upd (upd H d (.frz od (.dT []))) D (.lst []) d = some (.frz od (.dT [])) := by rw [upd_ne (Ne.symm ne)]; exact upd_same
  have tp := Stp.push (α := α) (o := HO.lst []) hDn
  refine Or.inl ⟨hdd, hdd, ?_⟩
  rw [e]
  exact k.nx _ _ _ _ _ tp (so.push (o := .lst []) (ob := .lst []) hDn ⟨[], upd_same, rfl⟩) (RhoOk.set j (show Rp _ _ _ (.ref D) (.loc S.length) from ⟨D, rfl, by rw [← so.len]; simp⟩) (ro.stp tp)) q.2
theorem sw_trueS {elt : Expr} {gs : List Comprehension} {scope : Scope} {pos py : Pos} {y : Str} {l : Nat} {env : Env} (hk : env.scope.kind = .function) (hy : env.scope.names.lookup y = some .local) (hl : (py.line == pos.line) = true)
    (ha : (scope.names.any fun (n, k) => n == y && (k == .local || k == .cell)) = false) : swapsWith (.SetComp elt gs scope pos) (some (.Name y py)) l env = pure true := by
  have ky : env.kindOf y = some .local := hy
  have hb : env.blockKind = .function := by unfold Env.blockKind; rw [hk]; rfl
  unfold swapsWith
  simp only [hb, ky, ha, Expr.pos, hl]
  rfl
theorem ps_setSc {i : Nat} {y : Str} {py : Pos} {elt tg iter : Expr} {ifs : List Expr} {scope : Scope} {own : List (Str × Nat)} {pos spos : Pos} {wi : TI} {g : TG} {tt : TT} {te : TE} (hc : X.calm = true) (hN : X.N.Nodup) (hy : X.N[i]? = some y) (hyl : X.env.scope.names.lookup y = some .local)
    (hsw : swapsWith (.SetComp elt [⟨tg, iter, ifs, 0⟩] scope pos) (some (.Name y py)) spos.line X.env = pure true) (hi : PI X tg iter wi) (ok : BlkOk X.N X.env.scope scope own)
    (hg : ∀ (s : Shared) (H : Hp) (C : Addr) (cl : List (Str × Addr)) (fp : List Addr), PG (X.blk s H scope (compEnvC scope cl C X.env) fp) tg g) (ht : ∀ (s : Shared) (H : Hp) (C : Addr) (cl : List (Str × Addr)) (fp : List Addr), PTs (X.blk s H scope (compEnvC scope cl C X.env) fp) ifs tt)
    (he : ∀ (s : Shared) (H : Hp) (C : Addr) (cl : List (Str × Addr)) (fp : List Addr), PE (X.blk s H scope (compEnvC scope cl C X.env) fp) elt te) (hs : ∀ x, foldedSetIterable iter X.env x = pure x := by intro _; rfl) :
    PS X (.Assign [.Name y py] (.SetComp elt [⟨tg, iter, ifs, 0⟩] scope pos) spos) (tAsg (PpSet.tSc X.w wi g tt te (own.map (·.2))) (gName i)) := by
  refine ⟨fun pins s σ H D I h => ?_⟩
  rw [exec_Assign_Name_used _ _ _ _ hsw]
  refine wpAny_bind (wpAny_standAt (wpAny_bind ?_))
  show wpAny _ X.A (do let _ ← comprehension (.SetComp elt [⟨tg, iter, ifs, 0⟩] scope pos) scope X.env (firstIterPos [⟨tg, iter, ifs, 0⟩] pos) (newSet (.type "set")) false (eval iter X.env) (some (assign (.Name y py) X.env))) _ _ s
  have h : PpSet.tSc X.w wi g tt te (own.map (·.2)) σ H (fun x H1 => gName i x σ H1 D.nx) := h
  refine wpAny_bind (thn (PpSet.sc_core (Qf := fun _ s' => SP X pins D .next s') hc hN I hi ok hg ht he hs h fun L C s' m H' I' q hn f => ?_) fun _ s' hq => wpAny_pure (wpAny_pure hq))
  show wpAny _ _ (assign (.Name y py) X.env (.ref L)) _ _ _
  refine wpAny_assign_Name (store_ok2 (v := V.ref L) I' hN hy (.inl hyl) rfl (fun s2 I2 ⟨a, sb, ha⟩ => ?_) (.inr hyl))
  obtain ⟨f0, f1, f2, f3, f4, f5⟩ := f
  have haC : C ≠ a := by
    rcases ha with z | z
    · rw [z]; exact f1
    · exact fun e => f4 y a z e.symm
  refine ⟨m, hn.sameBut sb haC, fun h3 sb3 => ?_⟩
  exact ⟨_, H', I2.turned (t' := s2.toks) (fun b o hb e => (sb3.2 b hb).trans e) f0 f1 f3 f4 f5, q⟩
/-- the empty set that a comprehension makes -/
def set0 (w : World) : Addr → Heap → Prop := fun a h => PpSet.SetB w h a (fun _ => false) 0
def sScK0 (w : World) (C : Addr) (f : Str) (i j : Nat) : DS := fun E ρ S => onEmpty C f i ρ ∧ gdName j (.loc S.length) ρ (S ++ [.ext (set0 w)]) E.nx
/-- y = {.. for .. in o.f ..}, o.f empty -/
theorem ds_scK0 {w' : World} {j : Nat} {y : Str} {py spos : Pos} (hw : X.w = w') (hc : X.calm = true) (hN : X.N.Nodup) (hi : X.N[i]? = some x) (hv : Vis X.env.scope x) (c : Cls X.K C) (n : NoAttr X.K C f) (hy : X.N[j]? = some y) (hyl : X.env.scope.names.lookup y = some .local)
    (hsw : swapsWith (.SetComp elt [⟨tg, .Attribute (.Name x vpos) f fpos, ifs, 0⟩] scope pos) (some (.Name y py)) spos.line X.env = pure true) (ok : BlkOk X.N X.env.scope scope own)
    (hd : (x == ("__debug__" : Str)) = false := by decide) (hcd : (x == ("__classdict__" : Str)) = false := by decide)
    (hb : attributeBase (.Name x vpos) f X.env (eval (.Name x vpos) X.env) = eval (.Name x vpos) X.env := by rfl)
    (hs : ∀ v, foldedSetIterable (.Attribute (.Name x vpos) f fpos) X.env v = pure v := by intro _; rfl) :
    DSt X (.Assign [.Name y py] (.SetComp elt [⟨tg, .Attribute (.Name x vpos) f fpos, ifs, 0⟩] scope pos) spos) (sScK0 w' C f i j) := by
  subst hw
  refine ⟨_, ps_lock (ps_setSc hc hN hy hyl hsw (pi_keys (pe_fld (pe_var hi hv hd hcd) hb)) ok (fun _ _ _ _ _ => pg_no) (fun _ _ _ _ _ => pt_no) (fun _ _ _ _ _ => pe_no) hs), fun α ρ S σ H E F so ro q k => ?_⟩
  obtain ⟨a, dx, xs, d, h1, h2, h3, h4, of⟩ := q.1.rp so ro
  have nad : a ≠ d := fun e => by rw [e, h4] at h2; cases h2
  refine ⟨d, .dT [], h4, trivial, fun od => ⟨.ref a, h1, a, C, dx, xs, .ref d, rfl, by rw [upd_ne nad]; exact h2, c, n, h3, d, od, rfl, Or.inr ⟨[], upd_same, fun D hD => ?_⟩⟩⟩
  obtain ⟨ne, hDn, e⟩ := back0 (u := PpSet.SetBO X.w D (fun _ => false) 0) h4 hD
  refine ⟨fun j m H' => j = 0 ∧ H' = upd (upd H d (.frz od (.dT []))) D (PpSet.SetBO X.w D (fun _ => false) 0), ⟨0, rfl, rfl⟩, ?_⟩
  rintro jj m H' ⟨rfl, rfl⟩
  have hdd : upd (upd H d (.frz od (.dT []))) D (PpSet.SetBO X.w D (fun _ => false) 0) d = some (.frz od (.dT [])) := by rw [upd_ne (Ne.symm ne)]; exact upd_same
  have tp := Stp.push (α := α) (o := PpSet.SetBO X.w D (fun _ => false) 0) hDn
  refine Or.inl ⟨⟨hdd, Nat.le_refl _⟩, hdd, ?_⟩
  rw [e]
  exact k.nx _ _ _ _ _ tp (so.push (o := PpSet.SetBO X.w D (fun _ => false) 0) (ob := .ext (set0 X.w)) hDn upd_same) (RhoOk.set j (show Rp _ _ _ (.ref D) (.loc S.length) from ⟨D, rfl, by rw [← so.len]; simp⟩) (ro.stp tp)) q.2
/-- len of that set -/
def cdLen0 (w : World) : CD := fun ds S Q => on1 ds fun d => ∃ l, d = .loc l ∧ S[l]? = some (.ext (set0 w)) ∧ Q (.int 0) S
theorem cr_len0 : CallR X (.builtin "len") (fun xs H Q => ∃ a, xs = [.ref a] ∧ H a = some (.ext (set0 X.w a)) ∧ Q (.int 0) H) := by
  intro pins s σ H xs us Q I r h
  obtain ⟨a, rfl, ha, q⟩ := h
  obtain ⟨u, rfl, rx⟩ := r.one
  cases rx
  obtain ⟨o, es, ep, t, ho, hex, hd, _, _, _, _, hf, hn, _⟩ := (show PpSet.SetB X.w s.heap a (fun _ => false) 0 from (I.hok a _ ha).1)
  refine call_len_set ho hex hd hf (by rw [hn]; decide) ⟨.int 0, H, I.tok _, ⟨_, by rw [hn]; rfl⟩, q⟩
theorem cd_len0 {w' : World} (hw : X.w = w') : CallD X (.builtin "len") (cdLen0 w') := by
  subst hw
  refine ⟨_, cr_len0, fun α S H xs vs Q Q' so r h k => ?_⟩
  obtain ⟨d, v, rfl, rfl, rv, l, rfl, hl, h2⟩ := on1.rp r h
  obtain ⟨a, rfl, ha⟩ := rv
  exact ⟨a, rfl, so.ob l a _ ha hl, k.int so h2⟩
/-- {.. for .. in xs}, xs an empty list that lives -/
def dDc0 (t : DT) : DT := fun ρ S Q => t ρ S fun d S1 => ∃ l, d = .loc l ∧ S1[l]? = some (.lst []) ∧ Q (.loc S1.length) (S1 ++ [.dk []])
theorem de_dc0 {e kx vx : Expr} {t : DT} (hc : X.calm = true) (hN : X.N.Nodup) (he : DE X e t) (ok : BlkOk X.N X.env.scope scope own) (hs : ∀ v, foldedSetIterable e X.env v = pure v := by intro _; rfl) :
    DE X (.DictComp kx vx [⟨tg, e, ifs, 0⟩] scope pos) (dDc0 t) := by
  obtain ⟨⟨te, h1, h2⟩⟩ := he
  refine ⟨_, pe_dc hc hN (pi_list h1) ok (fun _ _ _ _ _ => pg_no) (fun _ _ _ _ _ => pt_no) (fun _ _ _ _ _ => pe_no) (fun _ _ _ _ _ => pe_no) hs, fun α ρ S σ H Q Q' so ro q k => ?_⟩
  refine h2 α ρ S σ H _ _ so ro q fun v H1 α1 d S1 t1 so1 r1 ⟨l, e1, hl, q1⟩ => ?_
  subst e1
  obtain ⟨a, rfl, hla⟩ := r1
  obtain ⟨xs0, hx0, hr0⟩ := so1.lst hla hl
  cases (show xs0 = [] from hr0)
  refine ⟨a, rfl, ⟨[], SqL.of hx0⟩, fun D hD => ?_⟩
  have ne : a ≠ D := fun e => by rw [e, hD] at hx0; cases hx0
  refine ⟨fun j m H' => j = 0 ∧ H' = upd H1 D (.dK []), ⟨0, rfl, rfl⟩, ?_⟩
  rintro j m H' ⟨rfl, rfl⟩
  have tp := Stp.push (α := α1) (o := HO.dK []) hD
  refine Or.inl ⟨⟨[], SqL.of (by rw [upd_ne ne]; exact hx0), Nat.le_refl _⟩, ?_⟩
  exact k _ _ _ (.loc S1.length) _ (t1.trans tp) (so1.push (o := .dK []) (ob := .dk []) hD ⟨[], upd_same, rfl⟩) ⟨D, rfl, by rw [← so1.len]; simp⟩ q1
/-- d != {} of two empty dicts -/
def rdNe0 : RD := fun x y S Q => ∃ l m, x = .loc l ∧ y = .loc m ∧ S[l]? = some (.dk []) ∧ S[m]? = some (.dk []) ∧ Q (.bl false) S
theorem od_ne0 (hu : X.A.units < cLine) : OpD X (compareOp .NotEq) rdNe0 := ⟨_, op_ne_dictA hu, fun α S H x y v u Q Q' so rx ry h k => by
  obtain ⟨l, m, rfl, rfl, h1, h2, q⟩ := h
  obtain ⟨a, rfl, ha⟩ := rx
  obtain ⟨b, rfl, hb⟩ := ry
  obtain ⟨xs, e1, e2⟩ := so.ob l a _ ha h1
  obtain ⟨ys, e3, e4⟩ := so.ob m b _ hb h2
  cases (show xs = [] from e2)
  cases (show ys = [] from e4)
  exact ⟨a, b, [], [], rfl, rfl, e1, e3, rfl, (fun _ h => nomatch h), k.bl so q⟩⟩
theorem dss_never (sts : List Stmt) : DSs X sts sNever := ⟨fun _ _ _ => False, ⟨fun pins s σ H D I h => h.elim⟩, fun α ρ S σ H E F so ro q k => q⟩
/-- a new location, wherever it stands, handed on as the next one -/
theorem Rt.locN {S ex : Store} {Q : DK} {l : Nat} {ob : Ob} (hl : S.length ≤ l) (he : (S ++ ex)[l]? = some ob) (hb : bndO S.length ob) (q : Q (.loc S.length) (S ++ [ob])) : Rt S Q (.loc l) (S ++ ex) := by
  unfold Rt
  exact Or.inl ⟨CutOk.same, Or.inr ⟨_, ob, rfl, hl, he, hb, by rw [take_push]; exact q⟩⟩
end
end DL

/-! the facts of the text, from what the head says -/
namespace DL
open PySem L2
theorem ns_list {z : Str} : ∀ {es : List DictEntry} {tab : List (Str × D)}, Paired (fun (e : DictEntry) (p : Str × D) => ∃ t, e.key = .str p.1 t ∧ ∃ v, RelV v e.val ∧ ∀ K α H, Rp K α H v p.2) es tab →
    (es.any (·.refKey) = false) ∧ match tab.lookup z with
      | none => es.find? (·.key.isStr z) = none
      | some d => ∃ e v, es.find? (·.key.isStr z) = some e ∧ RelV v e.val ∧ ∀ K α H, Rp K α H v d
  | _, _, .nil => ⟨rfl, rfl⟩
  | e :: r, (x, d) :: tab, .cons h p => by
    obtain ⟨t, hk, v, hv, hr⟩ := h
    obtain ⟨h1, h2⟩ := ns_list (z := z) p
    have hk : e.key = .str x t := hk
    have hs : e.key.isStr z = (x == z) := by rw [hk]; rfl
    have hf : e.refKey = false := by unfold DictEntry.refKey; rw [hk]
    refine ⟨by rw [List.any_cons, hf, h1]; rfl, ?_⟩
    by_cases hz : z = x
    · subst hz
      rw [List.lookup_cons_self, List.find?_cons, hs, beq_self_eq_true]
      exact ⟨e, v, rfl, hv, hr⟩
    · have e1 : (z == x) = false := beq_eq_false_iff_ne.mpr hz
      have e2 : (x == z) = false := beq_eq_false_iff_ne.mpr (fun e => hz e.symm)
      rw [List.lookup_cons, e1, List.find?_cons, hs, e2]
      exact h2
theorem ktab_of {K : PySem.W.Frag} {w : World} {a : Addr} {es : Array DictEntry} {n : Nat} {tab : List (Str × D)} (l : K.lookup a = some ⟨.type "dict", none, .dict es n, #[]⟩) (kl : PySem.W.KeysLit w.params es.toList) (low : (a == sysModules) = false)
    (h : Paired (fun (e : DictEntry) (p : Str × D) => ∃ t, e.key = .str p.1 t ∧ ∃ v, RelV v e.val ∧ ∀ K α H, Rp K α H v p.2) es.toList tab) : KTab K w a tab := by
  refine ⟨es, n, ⟨l, kl, low⟩, fun z => ?_⟩
  obtain ⟨h1, h2⟩ := ns_list (z := z) h
  unfold PySem.W.nsIn
  rw [l]
  show ∃ r, (match es.toList.find? (·.key.isStr z) with | some e => some (some e.val) | none => if es.toList.any (·.refKey) then none else some none) = some r ∧ _
  cases e : tab.lookup z with
  | none =>
    rw [e] at h2
    rw [show es.toList.find? (·.key.isStr z) = none from h2]
    exact ⟨none, by show (if es.toList.any (·.refKey) then none else some none) = some none; rw [h1]; rfl, rfl⟩
  | some d =>
    rw [e] at h2
    obtain ⟨e', v, q1, q2, q3⟩ := h2
    rw [q1]
    exact ⟨_, rfl, _, v, rfl, q2, fun α H => q3 K α H⟩
def KP (e : DictEntry) (p : Str × D) : Prop := ∃ t, e.key = .str p.1 t ∧ ∃ v, RelV v e.val ∧ ∀ K α H, Rp K α H v p.2
theorem kp_str {e : DictEntry} {x s : Str} {t u : Tok} {r : List DictEntry} {tab : List (Str × D)} (hk : e.key = .str x t) (hv : e.val = .str s u) (p : Paired KP r tab) : Paired KP (e :: r) ((x, .str s) :: tab) :=
  .cons ⟨t, hk, .str s, ⟨u, hv⟩, fun _ _ _ => rfl⟩ p
theorem kp_cst {e : DictEntry} {x : Str} {q : Addr} {t : Tok} {r : List DictEntry} {tab : List (Str × D)} (hk : e.key = .str x t) (hv : e.val = .ref q) (p : Paired KP r tab) : Paired KP (e :: r) ((x, .cst q) :: tab) :=
  .cons ⟨t, hk, .ref q, hv, fun _ _ _ => rfl⟩ p
theorem ctup2 {K : PySem.W.Frag} {q : Addr} {o : Obj} {i j : Int} {t u : Value} {n : Nat} {its : Array Value} (l : K.lookup q = some o) (c : o.cls = .type "tuple") (d : o.data = .seq its n) (e : its.toList = [t, u]) (h1 : RelV (.int i) t) (h2 : RelV (.int j) u) : CTup K q [.int i, .int j] := by
  have hs : its.size = 2 := by rw [← Array.length_toList, e]; rfl
  exact ⟨[.int i, .int j], ⟨o, its, n, l, c, d, by rw [hs]; decide, by rw [e]; exact .cons h1 (.cons h2 .nil)⟩, fun α H => ⟨_, _, rfl, rfl, _, _, rfl, rfl, rfl⟩⟩
end DL

/-! the head by one run of the kernel: what is looked at behind the top (facts of the text as one Bool, the defs, the dicts with text keys) -/
namespace KH
open PySem PySem.Spec PyProof.Rows L2 DL He
/-! ### the part of the heap that the facts speak of -/
def refsK (o : Obj) : List Addr := match o.data with
  | .seq its _ => its.toList.flatMap refV
  | .dict es _ => es.toList.flatMap fun e => refV e.val
  | .func fd => refV fd.code
  | .cls cd => [cd.ns]
  | .fields vs => vs.toList.flatMap refV
  | _ => []
def walkA (g : Addr → Option Obj) : Nat → List Addr → List Addr
  | 0, f => f
  | n + 1, f => f ++ walkA g n (f.flatMap fun a => match g a with
    | some o => refsK o
    | none => [])
def fragK (g : Addr → Option Obj) : PySem.W.Frag := frG g (cStatics :: walkA g 5 [mainGlobals])
/-! ### where a def stands -/
inductive Wh where
  | g (x : Str)
  | m (C m : Str)
  | c (C m : Str)
def clsRec (K : PySem.W.Frag) (C : Addr) (m : Str) : Addr := match PySem.W.findCls K (.ref C) (.type "type") m with
  | some (.get _ (.ref p) _ _) => p
  | _ => 0
def recAt (K : PySem.W.Frag) (p : Addr) : Addr := match PySem.W.recIn K p "classmethod" with
  | some (.ref f :: _) => f
  | _ => 0
def recRest (K : PySem.W.Frag) (p : Addr) : List Value := match PySem.W.recIn K p "classmethod" with
  | some (_ :: r) => r
  | _ => []
def Wh.ad (K : PySem.W.Frag) : Wh → Addr
  | .g y => ga K y
  | .m C f => ma K (ga K C) f
  | .c C f => recAt K (clsRec K (ga K C) f)
structure Df where
  at_ : Wh
  name : Str
  qual : Str
  st : Stmt
def Df.val (d : Df) : FnV := some (d.name, d.qual, defArgs d.st, .stmts (defBody d.st), defScope d.st, mainGlobals, [], .none, builtinsNs)
def fnA (K : PySem.W.Frag) (a : Addr) : FnV := match K.lookup a with
  | some ⟨_, _, .func fd, _⟩ => some (fd.name, fd.qualname, fd.params, fd.body, fd.scope, fd.globals, fd.closure, fd.defaults, fd.builtins)
  | _ => none
def codeA (K : PySem.W.Frag) (a : Addr) (q : Str) : Bool := match K.lookup a with
  | some ⟨_, _, .func fd, _⟩ => PySem.W.codeIn K fd.code q && PySem.W.keepIn K (.ref a)
  | _ => false
theorem fun_of {K : PySem.W.Frag} {a : Addr} {d : Df} (e : fnA K a = d.val) (c : codeA K a d.qual = true) : ∃ fd, Fun K d.name d.qual d.st a fd := by
  unfold fnA at e
  unfold codeA at c
  split at e
  · rename_i oc od fd osl q
    rw [q] at c
    obtain ⟨c1, c2⟩ := ba c
    obtain ⟨n1, n2, n3, n4, n5, n6, n7, n8, n9, n10, n11, n12, n13, n14, n15⟩ := fd
    unfold Df.val at e
    simp only [Option.some.injEq, Prod.mk.injEq] at e
    obtain ⟨h1, h2, h3, h4, h5, h6, h7, h8, h9⟩ := e
    subst h1 h2 h3 h4 h5 h6 h7 h8 h9
    exact ⟨_, ⟨⟨oc, od, n9, n10, n11, n12, n13, n14, osl, rfl, q, c1⟩, c2⟩⟩
  · cases e
/-! ### the Hook -/
structure Cfg where
  fn : List Df
  ts : List (Str × List Str)
  ex : PySem.W.Frag → Bool
abbrev AlK : Type := Bool × List FnV × List (Option (List (Option (Str × Int))))
def obsK (c : Cfg) (K : PySem.W.Frag) : AlK := (c.ex K && c.fn.all fun d => codeA K (d.at_.ad K) d.qual, c.fn.map fun d => fnA K (d.at_.ad K), c.ts.map fun t => dicW K (ga K t.1))
def valK (c : Cfg) (w : World) : AlK := (true, c.fn.map Df.val, c.ts.map fun t => some (keysIn w.params t.2))
def hookK (c : Cfg) : PySem.W.Hook where
  α := AlK
  obs := fun s => obsK c (fragK s.heap.get?)
  val := fun w => valK c w
  says := fun w h => ∃ K : PySem.W.Frag, K.In h ∧ obsK c K = valK c w
  of := fun _ _ e => ⟨_, frG_in, e⟩
  keeps := fun _ _ _ ⟨K, hK, c⟩ k => ⟨K, PySem.W.Frag.In.keeps hK k, c⟩
def obK (c : Cfg) (s : PySem.W.SharedT) : AlK := obsK c (fragK (HandSHeadRun.getT s))
theorem obK_eq (c : Cfg) (s : PySem.W.SharedT) : obK c s = (hookK c).obs s.abs := by
  have e : HandSHeadRun.getT s = s.abs.heap.get? := funext (HandSHeadRun.getT_eq s)
  show obsK c (fragK (HandSHeadRun.getT s)) = obsK c (fragK s.abs.heap.get?)
  rw [e]
section
variable {c : Cfg} {w : World} {K : PySem.W.Frag}
theorem says_ex (s : obsK c K = valK c w) : c.ex K = true := (ba (show (c.ex K && c.fn.all fun d => codeA K (d.at_.ad K) d.qual) = true from congrArg (fun z : AlK => z.1) s)).1
theorem says_fn (s : obsK c K = valK c w) (i : Nat) {d : Df} (h : c.fn[i]? = some d) : ∃ fd, Fun K d.name d.qual d.st (d.at_.ad K) fd := by
  have c2 := (ba (show (c.ex K && c.fn.all fun d => codeA K (d.at_.ad K) d.qual) = true from congrArg (fun z : AlK => z.1) s)).2
  have e : c.fn.map (fun d => fnA K (d.at_.ad K)) = c.fn.map Df.val := congrArg (fun z : AlK => z.2.1) s
  have e2 : (c.fn.map fun d => fnA K (d.at_.ad K))[i]? = (c.fn.map Df.val)[i]? := by rw [e]
  rw [List.getElem?_map, List.getElem?_map, h] at e2
  exact fun_of (Option.some.inj e2) (List.all_eq_true.mp c2 d (List.mem_of_getElem? h))
theorem says_tab (s : obsK c K = valK c w) (i : Nat) {t : Str × List Str} (h : c.ts[i]? = some t) : ∃ es n, KDict K w (ga K t.1) es n := by
  have e : c.ts.map (fun t => dicW K (ga K t.1)) = c.ts.map fun t => some (keysIn w.params t.2) := congrArg (fun z : AlK => z.2.2) s
  have e2 : (c.ts.map fun t => dicW K (ga K t.1))[i]? = (c.ts.map fun t => some (keysIn w.params t.2))[i]? := by rw [e]
  rw [List.getElem?_map, List.getElem?_map, h] at e2
  exact dicW_ok (Option.some.inj e2)
end
/-! ### facts as Bools -/
def intB (K : PySem.W.Frag) (x : Str) (i : Int) : Bool := match PySem.W.nsIn K mainGlobals x with
  | some (some (.int j _)) => decide (j = i)
  | _ => false
theorem intB_ok {K : PySem.W.Frag} {x : Str} {i : Int} (h : intB K x i = true) : ∃ t, PySem.W.nsIn K mainGlobals x = some (some (.int i t)) := by
  unfold intB at h
  split at h
  · rename_i j t q
    rw [q, of_decide_eq_true h]
    exact ⟨t, rfl⟩
  · cases h
def strB (K : PySem.W.Frag) (x z : Str) : Bool := match PySem.W.nsIn K mainGlobals x with
  | some (some (.str y _)) => decide (y = z)
  | _ => false
theorem strB_ok {K : PySem.W.Frag} {x z : Str} (h : strB K x z = true) : ∃ t, PySem.W.nsIn K mainGlobals x = some (some (.str z t)) := by
  unfold strB at h
  split at h
  · rename_i j t q
    rw [q, of_decide_eq_true h]
    exact ⟨t, rfl⟩
  · cases h
def clsValB (K : PySem.W.Frag) (C : Addr) (m : Str) (v : V) : Bool := match PySem.W.findCls K (.ref C) (.type "type") m with
  | some (.val u) => relB v u
  | _ => false
theorem clsValB_ok {K : PySem.W.Frag} {C : Addr} {m : Str} {v : V} (h : clsValB K C m v = true) : ∃ u, PySem.W.findCls K (.ref C) (.type "type") m = some (.val u) ∧ RelV v u := by
  unfold clsValB at h
  split at h
  · rename_i u q
    exact ⟨u, q, relB_ok h⟩
  · cases h
def cmB (K : PySem.W.Frag) (C : Addr) (m : Str) : Bool := match PySem.W.findCls K (.ref C) (.type "type") m with
  | some (.get (.builtin "classmethod.__get__") (.ref p) .none (.ref C')) => decide (C' = C) && (match PySem.W.recIn K p "classmethod" with
    | some (.ref _ :: _) => true
    | _ => false)
  | _ => false
theorem cmB_ok {K : PySem.W.Frag} {C : Addr} {m : Str} (h : cmB K C m = true) : PySem.W.findCls K (.ref C) (.type "type") m = some (.get (.builtin "classmethod.__get__") (.ref (clsRec K C m)) .none (.ref C)) ∧ PySem.W.recIn K (clsRec K C m) "classmethod" = some (.ref (recAt K (clsRec K C m)) :: recRest K (clsRec K C m)) := by
  unfold cmB at h
  split at h
  · rename_i p C' q
    obtain ⟨h1, h2⟩ := ba h
    have e : clsRec K C m = p := by unfold clsRec; rw [q]
    rw [e, q, of_decide_eq_true h1]
    refine ⟨rfl, ?_⟩
    split at h2
    · rename_i f r q2
      unfold recAt recRest
      rw [q2]
    · cases h2
  · cases h
/-- a dict with text keys: its values -/
inductive Tv where
  | s (x : Str)
  | q (i : Nat)
def valAt (K : PySem.W.Frag) (a : Addr) (i : Nat) : Addr := match K.lookup a with
  | some ⟨_, _, .dict es _, _⟩ => (match es.toList[i]? with
    | some ⟨_, _, .ref p⟩ => p
    | _ => 0)
  | _ => 0
def Tv.d (K : PySem.W.Frag) (a : Addr) : Tv → D
  | .s x => .str x
  | .q i => .cst (valAt K a i)
def tvB (K : PySem.W.Frag) (a : Addr) : List DictEntry → List (Str × Tv) → Bool
  | [], [] => true
  | e :: r, (x, t) :: tab => (match e.key, e.val, t with
    | .str y _, .str z _, .s z' => decide (y = x) && decide (z = z')
    | .str y _, .ref p, .q i => decide (y = x) && decide (p = valAt K a i)
    | _, _, _ => false) && tvB K a r tab
  | _, _ => false
theorem tvB_ok {K : PySem.W.Frag} {a : Addr} : ∀ {es : List DictEntry} {tab : List (Str × Tv)}, tvB K a es tab = true → Paired KP es (tab.map fun p => (p.1, p.2.d K a))
  | [], [], _ => .nil
  | e :: r, (x, t) :: tab, h => by
    obtain ⟨h1, h2⟩ := ba (show (_ && tvB K a r tab) = true from h)
    have ih := tvB_ok h2
    split at h1
    · rename_i y t1 z t2 z' q1 q2
      obtain ⟨h3, h4⟩ := ba h1
      have h3 := of_decide_eq_true h3
      have h4 := of_decide_eq_true h4
      subst h3; subst h4
      exact kp_str q1 q2 ih
    · rename_i y t1 p i q1 q2
      obtain ⟨h3, h4⟩ := ba h1
      have h3 := of_decide_eq_true h3
      have h4 := of_decide_eq_true h4
      subst h3
      exact kp_cst q1 (by rw [q2, h4]) ih
    · cases h1
  | [], _ :: _, h => by cases h
  | _ :: _, [], h => by cases h
def tabB (K : PySem.W.Frag) (a : Addr) (tab : List (Str × Tv)) : Bool := match K.lookup a with
  | some ⟨_, _, .dict es _, _⟩ => tvB K a es.toList tab
  | _ => false
theorem tab_of {K : PySem.W.Frag} {w : World} {a : Addr} {tab : List (Str × Tv)} (k : ∃ es n, KDict K w a es n) (h : tabB K a tab = true) : KTab K w a (tab.map fun p => (p.1, p.2.d K a)) := by
  obtain ⟨es, n, ⟨l, kl, low⟩⟩ := k
  unfold tabB at h
  rw [l] at h
  exact ktab_of l kl low (tvB_ok h)
/-- a tuple of two ints -/
def tup2B (K : PySem.W.Frag) (a : Addr) (i j : Int) : Bool := match K.lookup a with
  | some ⟨.type c, _, .seq its _, _⟩ => decide (c = "tuple") && (match its.toList with
    | [.int x _, .int y _] => decide (x = i) && decide (y = j)
    | _ => false)
  | _ => false
theorem tup2B_ok {K : PySem.W.Frag} {a : Addr} {i j : Int} (h : tup2B K a i j = true) : CTup K a [.int i, .int j] := by
  unfold tup2B at h
  split at h
  · rename_i c od its n sl q
    obtain ⟨h1, h2⟩ := ba h
    split at h2
    · rename_i x t1 y t2 q2
      obtain ⟨h3, h4⟩ := ba h2
      have h1 := of_decide_eq_true h1
      have h3 := of_decide_eq_true h3
      have h4 := of_decide_eq_true h4
      subst h1; subst h3; subst h4
      exact ctup2 q rfl rfl q2 ⟨_, rfl⟩ ⟨_, rfl⟩
    · cases h2
  · cases h
end KH

/-! KW: tuples of the module that hold tuples of the module. -/
namespace DL
open PySem PySem.Spec PyProof.Rows L2
structure CSeq (K : PySem.W.Frag) (q : Addr) (qs : List Addr) : Prop where
  ex : KT K q (qs.map V.ref)
def diCseq (q : Addr) (qs : List Addr) (t : DT) : DI := fun ρ S Q => t ρ S fun d S1 => d = .cst q ∧ Q (qs.map D.cst) S1
theorem rpl_refs {K : PySem.W.Frag} {α : Locs} {H : Hp} : ∀ qs : List Addr, RpL K α H (qs.map V.ref) (qs.map D.cst)
  | [] => rfl
  | _ :: r => ⟨_, _, rfl, rfl, rpl_refs r⟩
theorem di_cseq {X : Cx} {tg e : Expr} {q : Addr} {qs : List Addr} {t : DT} (c : CSeq X.K q qs) (h : DE X e t) : DIt X tg e (diCseq q qs t) := by
  obtain ⟨⟨te, h1, h2⟩⟩ := h
  refine ⟨_, pi_tup h1, fun α ρ S σ H Q R so ro q k => ?_⟩
  refine h2 α ρ S σ H _ _ so ro q fun v H1 α1 d S1 t1 so1 r1 ⟨e1, q1⟩ => ?_
  subst e1
  have hr : ∀ α H, RpL X.K α H (qs.map V.ref) (qs.map D.cst) := fun α H => rpl_refs qs
  refine ⟨_, r1, ⟨_, Or.inr c.ex⟩, k _ H1 α1 (qs.map D.cst) S1 t1 so1 (RpL.bnd _ _ (hr α1 H1)) q1 ?_ ?_ ?_⟩
  · intro i α2 H2 hi t2
    rw [List.length_map] at hi
    exact ⟨_, V.ref qs[i], Or.inr c.ex, by simp⟩
  · intro α2 H2 t2
    exact ⟨_, Or.inr c.ex, by rw [List.length_map, List.length_map]; exact Nat.le_refl _⟩
  · rintro i α2 H2 x H3 d hd t2 _ ⟨rfl, hy⟩
    have h3 := hy _ (Or.inr c.ex)
    obtain ⟨v, hv, rv⟩ := (hr α2 _).get hd
    rw [h3] at hv
    cases hv
    exact ⟨α2, Stp.refl _ _, fun _ z => z, rv⟩
end DL
namespace KH
open PySem PySem.Spec PyProof.Rows L2 DL He
def itemAt (K : PySem.W.Frag) (a : Addr) (i : Nat) : Addr := match K.lookup a with
  | some ⟨_, _, .seq its _, _⟩ => (match its.toList[i]? with
    | some (.ref p) => p
    | _ => 0)
  | _ => 0
def refsB : List Value → List Addr → Bool
  | [], [] => true
  | .ref p :: r, q :: qs => decide (p = q) && refsB r qs
  | _, _ => false
theorem refsB_ok : ∀ {vs : List Value} {qs : List Addr}, refsB vs qs = true → Vals (qs.map V.ref) vs
  | [], [], _ => .nil
  | [], _ :: _, h => by cases h
  | v :: r, qs, h => by
    cases qs with
    | nil => cases v <;> cases h
    | cons q qs =>
      cases v with
      | ref p =>
        obtain ⟨h1, h2⟩ := ba (show (_ && refsB r qs) = true from h)
        have h1 := of_decide_eq_true h1
        subst h1
        exact .cons rfl (refsB_ok h2)
      | _ => cases h
def seqB (K : PySem.W.Frag) (a : Addr) (qs : List Addr) : Bool := match K.lookup a with
  | some ⟨.type c, _, .seq its _, _⟩ => decide (c = "tuple") && (decide (its.size ≤ 64) && refsB its.toList qs)
  | _ => false
theorem seqB_ok {K : PySem.W.Frag} {a : Addr} {qs : List Addr} (h : seqB K a qs = true) : CSeq K a qs := by
  unfold seqB at h
  split at h
  · rename_i c od its n sl q
    obtain ⟨h1, h2⟩ := ba h
    obtain ⟨h2, h3⟩ := ba h2
    have h1 := of_decide_eq_true h1
    have h2 := of_decide_eq_true h2
    subst h1
    exact ⟨_, its, n, q, rfl, rfl, Nat.le_trans h2 (by decide), refsB_ok h3⟩
  · cases h
end KH

namespace K
open PySem L2 DL
def top (i : Nat) : Stmt := PySem.Challenge.pw_farmirrors_k13_whole_plain_floors.main.body.getD i (.Pass ⟨0, 0, 0, 0⟩)
abbrev s__law_source : Stmt := top 50
/-- _law_source -/
theorem sc__law_source : FnScope ["_law_script", "_law_index", "_law_cell"] ["_law_script", "_law_index"] (defScope s__law_source) := ⟨rfl, rfl, rfl, by decide +kernel, rfl, by decide +kernel, by decide +kernel⟩
abbrev s__law_draw : Stmt := top 51
/-- _law_draw -/
theorem sc__law_draw : FnScope ["_law_source_here", "_law_bound", "_law_mixed", "_law_digit"] ["_law_source_here", "_law_bound"] (defScope s__law_draw) := ⟨rfl, rfl, rfl, by decide +kernel, rfl, by decide +kernel, by decide +kernel⟩
abbrev s__law_drawn_size : Stmt := top 53
/-- _law_drawn_size -/
theorem sc__law_drawn_size : FnScope ["_law_source_here", "_law_most", "_law_way", "_law_width", "_law_height", "_law_unit"] ["_law_source_here", "_law_most"] (defScope s__law_drawn_size) := ⟨rfl, rfl, rfl, by decide +kernel, rfl, by decide +kernel, by decide +kernel⟩
abbrev s__law_drawn_ray : Stmt := top 56
/-- _law_drawn_ray -/
theorem sc__law_drawn_ray : FnScope ["_law_source_here", "_law_size", "_law_width", "_law_height", "_law_x", "_law_y", "_law_dx", "_law_dy"] ["_law_source_here", "_law_size"] (defScope s__law_drawn_ray) := ⟨rfl, rfl, rfl, by decide +kernel, rfl, by decide +kernel, by decide +kernel⟩
abbrev s_shown_text : Stmt := top 13
/-- shown_text -/
theorem sc_shown_text : FnScope ["width", "height", "things", "text", "x", "y", "kind"] ["width", "height", "things"] (defScope s_shown_text) := ⟨rfl, rfl, rfl, by decide +kernel, rfl, by decide +kernel, by decide +kernel⟩
abbrev s_Floor_is_point : Stmt := inClass (top 12) 3
/-- Floor.is_point -/
theorem sc_Floor_is_point : FnScope ["self", "x", "y"] ["self", "x", "y"] (defScope s_Floor_is_point) := ⟨rfl, rfl, rfl, by decide +kernel, rfl, by decide +kernel, by decide +kernel⟩
abbrev s_Floor_is_inner : Stmt := inClass (top 12) 4
/-- Floor.is_inner -/
theorem sc_Floor_is_inner : FnScope ["self", "x", "y"] ["self", "x", "y"] (defScope s_Floor_is_inner) := ⟨rfl, rfl, rfl, by decide +kernel, rfl, by decide +kernel, by decide +kernel⟩
abbrev s_Floor_may_stand : Stmt := inClass (top 12) 5
/-- Floor.may_stand -/
theorem sc_Floor_may_stand : FnScope ["self", "x", "y", "kind"] ["self", "x", "y", "kind"] (defScope s_Floor_may_stand) := ⟨rfl, rfl, rfl, by decide +kernel, rfl, by decide +kernel, by decide +kernel⟩
abbrev s_Floor___init__ : Stmt := inClass (top 12) 1
/-- Floor.__init__ -/
theorem sc_Floor___init__ : FnScope ["self", "width", "height", "things", "index", "x", "y", "kind"] ["self", "width", "height", "things"] (defScope s_Floor___init__) := ⟨rfl, rfl, rfl, by decide +kernel, rfl, by decide +kernel, by decide +kernel⟩
abbrev s_Floor_kind_at : Stmt := inClass (top 12) 7
/-- Floor.kind_at -/
theorem sc_Floor_kind_at : FnScope ["self", "x", "y", "number"] ["self", "x", "y"] (defScope s_Floor_kind_at) := ⟨rfl, rfl, rfl, by decide +kernel, rfl, by decide +kernel, by decide +kernel⟩
abbrev s_on_floor : Stmt := top 22
/-- on_floor -/
theorem sc_on_floor : FnScope ["floor", "x", "y"] ["floor", "x", "y"] (defScope s_on_floor) := ⟨rfl, rfl, rfl, by decide +kernel, rfl, by decide +kernel, by decide +kernel⟩
abbrev s_check_ray : Stmt := top 23
/-- check_ray -/
theorem sc_check_ray : FnScope ["floor", "ray", "x", "y", "dx", "dy"] ["floor", "ray"] (defScope s_check_ray) := ⟨rfl, rfl, rfl, by decide +kernel, rfl, by decide +kernel, by decide +kernel⟩
abbrev s_turn_at : Stmt := top 24
/-- turn_at -/
theorem sc_turn_at : FnScope ["floor", "x", "y"] ["floor", "x", "y"] (defScope s_turn_at) := ⟨rfl, rfl, rfl, by decide +kernel, rfl, by decide +kernel, by decide +kernel⟩
abbrev s_reversed_ray : Stmt := top 25
/-- reversed_ray -/
theorem sc_reversed_ray : FnScope ["floor", "ray", "x", "y", "dx", "dy", "across", "along"] ["floor", "ray"] (defScope s_reversed_ray) := ⟨rfl, rfl, rfl, by decide +kernel, rfl, by decide +kernel, by decide +kernel⟩
abbrev s_common : Stmt := top 15
/-- common -/
theorem sc_common : FnScope ["first", "second"] ["first", "second"] (defScope s_common) := ⟨rfl, rfl, rfl, by decide +kernel, rfl, by decide +kernel, by decide +kernel⟩
abbrev s_inverse_of : Stmt := top 16
/-- inverse_of -/
theorem sc_inverse_of : FnScope ["number", "modulus", "larger", "smaller", "first", "second", "quotient"] ["number", "modulus"] (defScope s_inverse_of) := ⟨rfl, rfl, rfl, by decide +kernel, rfl, by decide +kernel, by decide +kernel⟩
abbrev s_Event___init__ : Stmt := inClass (top 17) 0
/-- Event.__init__ -/
theorem sc_Event___init__ : FnScope ["self", "steps", "number", "left"] ["self", "steps", "number", "left"] (defScope s_Event___init__) := ⟨rfl, rfl, rfl, by decide +kernel, rfl, by decide +kernel, by decide +kernel⟩
abbrev s_Torus_reduced : Stmt := inClass (top 18) 2
/-- Torus.reduced -/
theorem sc_Torus_reduced : FnScope ["self", "place"] ["self", "place"] (defScope s_Torus_reduced) := ⟨rfl, rfl, rfl, by decide +kernel, rfl, by decide +kernel, by decide +kernel⟩
abbrev s_Torus_leaving : Stmt := inClass (top 18) 3
/-- Torus.leaving -/
theorem sc_Torus_leaving : FnScope ["self", "place", "kind"] ["self", "place", "kind"] (defScope s_Torus_leaving) := ⟨rfl, rfl, rfl, by decide +kernel, rfl, by decide +kernel, by decide +kernel⟩
abbrev s_Torus_place_of : Stmt := inClass (top 18) 4
/-- Torus.place_of -/
theorem sc_Torus_place_of : FnScope ["self", "ray", "x", "y", "dx", "dy"] ["self", "ray"] (defScope s_Torus_place_of) := ⟨rfl, rfl, rfl, by decide +kernel, rfl, by decide +kernel, by decide +kernel⟩
abbrev s_Torus_ray_at : Stmt := inClass (top 18) 5
/-- Torus.ray_at -/
theorem sc_Torus_ray_at : FnScope ["self", "place", "x", "y", "dx", "dy"] ["self", "place"] (defScope s_Torus_ray_at) := ⟨rfl, rfl, rfl, by decide +kernel, rfl, by decide +kernel, by decide +kernel⟩
abbrev s_Torus_walls_between : Stmt := inClass (top 18) 10
/-- Torus.walls_between -/
theorem sc_Torus_walls_between : FnScope ["self", "place", "steps", "x", "y", "half", "other"] ["self", "place", "steps"] (defScope s_Torus_walls_between) := ⟨rfl, rfl, rfl, by decide +kernel, rfl, by decide +kernel, by decide +kernel⟩
abbrev s_Torus_add_target : Stmt := inClass (top 18) 1
/-- Torus.add_target -/
theorem sc_Torus_add_target : FnScope ["self", "place", "number", "left", "rest"] ["self", "place", "number", "left"] (defScope s_Torus_add_target) := ⟨rfl, rfl, rfl, by decide +kernel, rfl, by decide +kernel, by decide +kernel⟩
abbrev s_Torus___init__ : Stmt := inClass (top 18) 0
/-- Torus.__init__ -/
theorem sc_Torus___init__ : FnScope ["self", "width", "height", "things", "number", "a", "b", "kind", "x", "y"] ["self", "width", "height", "things"] (defScope s_Torus___init__) := ⟨rfl, rfl, rfl, by decide +kernel, rfl, by decide +kernel, by decide +kernel⟩
abbrev s_Torus_event : Stmt := inClass (top 18) 8
/-- Torus.event -/
theorem sc_Torus_event : FnScope ["self", "place", "nearest", "least", "target", "number", "left", "first", "gap", "steps"] ["self", "place"] (defScope s_Torus_event) := ⟨rfl, rfl, rfl, by decide +kernel, rfl, by decide +kernel, by decide +kernel⟩
abbrev s_torus_of : Stmt := top 19
/-- torus_of -/
theorem sc_torus_of : FnScope ["floor"] ["floor"] (defScope s_torus_of) := ⟨rfl, rfl, rfl, by decide +kernel, rfl, by decide +kernel, by decide +kernel⟩
abbrev s_Course___init__ : Stmt := inClass (top 44) 0
/-- Course.__init__ -/
theorem sc_Course___init__ : FnScope ["self", "torus", "place", "steps"] ["self", "torus", "place", "steps"] (defScope s_Course___init__) := ⟨rfl, rfl, rfl, by decide +kernel, rfl, by decide +kernel, by decide +kernel⟩
abbrev s_Course_follow : Stmt := inClass (top 44) 1
/-- Course.follow -/
theorem sc_Course_follow : FnScope ["self", "start", "before", "event"] ["self"] (defScope s_Course_follow) := ⟨rfl, rfl, rfl, by decide +kernel, rfl, by decide +kernel, by decide +kernel⟩
abbrev s_Course_leave_out : Stmt := inClass (top 44) 2
/-- Course.leave_out -/
theorem sc_Course_leave_out : FnScope ["self", "before", "length", "rounds"] ["self", "before"] (defScope s_Course_leave_out) := ⟨rfl, rfl, rfl, by decide +kernel, rfl, by decide +kernel, by decide +kernel⟩
abbrev s_Course_ray : Stmt := inClass (top 44) 3
/-- Course.ray -/
theorem sc_Course_ray : FnScope ["self"] ["self"] (defScope s_Course_ray) := ⟨rfl, rfl, rfl, by decide +kernel, rfl, by decide +kernel, by decide +kernel⟩
abbrev s_run : Stmt := top 46
/-- run -/
theorem sc_run : FnScope ["floor", "ray", "steps", "torus", "back"] ["floor", "ray", "steps"] (defScope s_run) := ⟨rfl, rfl, rfl, by decide +kernel, rfl, by decide +kernel, by decide +kernel⟩
abbrev s_came_from : Stmt := top 47
/-- came_from -/
theorem sc_came_from : FnScope ["floor", "torus", "back", "steps", "course", "x", "y", "kind", "end"] ["floor", "torus", "back", "steps"] (defScope s_came_from) := ⟨rfl, rfl, rfl, by decide +kernel, rfl, by decide +kernel, by decide +kernel⟩
abbrev s_exit_of : Stmt := top 48
/-- exit_of -/
theorem sc_exit_of : FnScope ["floor", "ray", "torus", "place", "taken", "seen", "event"] ["floor", "ray"] (defScope s_exit_of) := ⟨rfl, rfl, rfl, by decide +kernel, rfl, by decide +kernel, by decide +kernel⟩
abbrev s_Torus_remainder : Stmt := inClass (top 18) 6
/-- Torus.remainder -/
theorem sc_Torus_remainder : FnScope ["self", "place", "rest"] ["self", "place"] (defScope s_Torus_remainder) := ⟨rfl, rfl, rfl, by decide +kernel, rfl, by decide +kernel, by decide +kernel⟩
abbrev s_Line___init__ : Stmt := inClass (top 28) 0
/-- Line.__init__ -/
theorem sc_Line___init__ : FnScope ["self", "length", "ends", "first", "hits"] ["self", "length", "ends", "first", "hits"] (defScope s_Line___init__) := ⟨rfl, rfl, rfl, by decide +kernel, rfl, by decide +kernel, by decide +kernel⟩
abbrev s_Line___eq__ : Stmt := inClass (top 28) 1
/-- Line.__eq__ -/
theorem sc_Line___eq__ : FnScope ["self", "other", "own"] ["self", "other"] (defScope s_Line___eq__) := ⟨rfl, rfl, rfl, by decide +kernel, rfl, by decide +kernel, by decide +kernel⟩
abbrev s_line_at : Stmt := top 33
/-- line_at -/
theorem sc_line_at : FnScope ["floor", "torus", "place", "event", "start", "steps", "events"] ["floor", "torus", "place"] (defScope s_line_at) := ⟨rfl, rfl, rfl, by decide +kernel, rfl, by decide +kernel, by decide +kernel⟩
abbrev s_line_of : Stmt := top 34
/-- line_of -/
theorem sc_line_of : FnScope ["floor", "ray", "torus"] ["floor", "ray"] (defScope s_line_of) := ⟨rfl, rfl, rfl, by decide +kernel, rfl, by decide +kernel, by decide +kernel⟩
abbrev s_lines_at : Stmt := top 35
/-- lines_at -/
theorem sc_lines_at : FnScope ["floor", "x", "y", "torus", "found", "dx", "dy", "line", "first"] ["floor", "x", "y"] (defScope s_lines_at) := ⟨rfl, rfl, rfl, by decide +kernel, rfl, by decide +kernel, by decide +kernel⟩
abbrev s_ends_of : Stmt := top 36
/-- ends_of -/
theorem sc_ends_of : FnScope ["floor", "ends", "x", "y", "kind", "dx", "dy"] ["floor"] (defScope s_ends_of) := ⟨rfl, rfl, rfl, by decide +kernel, rfl, by decide +kernel, by decide +kernel⟩
abbrev s_paths : Stmt := top 37
/-- paths -/
theorem sc_paths : FnScope ["floor", "torus", "found", "end", "first", "line"] ["floor"] (defScope s_paths) := ⟨rfl, rfl, rfl, by decide +kernel, rfl, by decide +kernel, by decide +kernel⟩
abbrev s_following_places : Stmt := top 38
/-- following_places -/
theorem sc_following_places : FnScope ["torus", "places", "number", "left", "place"] ["torus"] (defScope s_following_places) := ⟨rfl, rfl, rfl, by decide +kernel, rfl, by decide +kernel, by decide +kernel⟩
abbrev s_removed_paths : Stmt := top 39
/-- removed_paths -/
theorem sc_removed_paths : FnScope ["torus", "after", "ends", "end", "event", "place", "done"] ["torus", "after", "ends"] (defScope s_removed_paths) := ⟨rfl, rfl, rfl, by decide +kernel, rfl, by decide +kernel, by decide +kernel⟩
abbrev s_count_of : Stmt := top 40
/-- count_of -/
theorem sc_count_of : FnScope ["floor", "things", "torus", "after", "ends", "x", "y", "kind", "circles", "touched", "place", "following", "dx", "dy"] ["floor", "things"] (defScope s_count_of) := ⟨rfl, rfl, rfl, by decide +kernel, rfl, by decide +kernel, by decide +kernel⟩
abbrev s_count_closed : Stmt := top 41
/-- count_closed -/
theorem sc_count_closed : FnScope ["floor"] ["floor"] (defScope s_count_closed) := ⟨rfl, rfl, rfl, by decide +kernel, rfl, by decide +kernel, by decide +kernel⟩
abbrev s_closed_lines : Stmt := top 42
/-- closed_lines -/
theorem sc_closed_lines : FnScope ["floor", "torus", "after", "found", "line", "event", "ray", "place", "first"] ["floor"] (defScope s_closed_lines) := ⟨rfl, rfl, rfl, by decide +kernel, rfl, by decide +kernel, by decide +kernel⟩
abbrev s_next_thing : Stmt := top 45
/-- next_thing -/
theorem sc_next_thing : FnScope ["floor", "ray", "torus", "event"] ["floor", "ray"] (defScope s_next_thing) := ⟨rfl, rfl, rfl, by decide +kernel, rfl, by decide +kernel, by decide +kernel⟩
abbrev s__law_common : Stmt := top 57
/-- _law_common -/
theorem sc__law_common : FnScope ["_law_first", "_law_second", "_law_larger", "_law_smaller"] ["_law_first", "_law_second"] (defScope s__law_common) := ⟨rfl, rfl, rfl, by decide +kernel, rfl, by decide +kernel, by decide +kernel⟩
abbrev s__law_rest : Stmt := top 58
/-- _law_rest -/
theorem sc__law_rest : FnScope ["_law_size", "_law_unit", "_law_ray", "_law_x", "_law_y", "_law_rest_here"] ["_law_size", "_law_unit", "_law_ray"] (defScope s__law_rest) := ⟨rfl, rfl, rfl, by decide +kernel, rfl, by decide +kernel, by decide +kernel⟩
abbrev s_law : Stmt := top 59
/-- law -/
theorem sc_law : FnScope ["_law_script", "_law_index", "_law_source_here", "_law_size", "_law_floor", "_law_unit", "_law_length", "_law_rays", "_law_ray", "_law_line", "_law_own", "_law_other", "_law_inner", "_law_crossing", "_law_turn"] ["_law_script"] (defScope s_law) := ⟨rfl, rfl, rfl, by decide +kernel, rfl, by decide +kernel, by decide +kernel⟩
structure Ads where
  a_Floor : Addr
  a_Event : Addr
  a_Torus : Addr
  a_Course : Addr
  a_Line : Addr
  a_law_source : Addr
  a_law_draw : Addr
  a_law_drawn_size : Addr
  a_law_drawn_ray : Addr
  a_shown_text : Addr
  a_Floor_is_point : Addr
  a_Floor_is_inner : Addr
  a_Floor_may_stand : Addr
  a_Floor___init__ : Addr
  a_Floor_kind_at : Addr
  a_on_floor : Addr
  a_check_ray : Addr
  a_turn_at : Addr
  a_reversed_ray : Addr
  a_common : Addr
  a_inverse_of : Addr
  a_Event___init__ : Addr
  a_Torus_reduced : Addr
  a_Torus_leaving : Addr
  a_Torus_place_of : Addr
  a_Torus_ray_at : Addr
  a_Torus_walls_between : Addr
  a_Torus_add_target : Addr
  a_Torus___init__ : Addr
  a_Torus_event : Addr
  a_torus_of : Addr
  a_Course___init__ : Addr
  a_Course_follow : Addr
  a_Course_leave_out : Addr
  a_Course_ray : Addr
  a_run : Addr
  a_came_from : Addr
  a_exit_of : Addr
  a_Torus_remainder : Addr
  a_Line___init__ : Addr
  a_Line___eq__ : Addr
  a_line_at : Addr
  a_line_of : Addr
  a_lines_at : Addr
  a_ends_of : Addr
  a_paths : Addr
  a_following_places : Addr
  a_removed_paths : Addr
  a_count_of : Addr
  a_count_closed : Addr
  a_closed_lines : Addr
  a_next_thing : Addr
  a_law_common : Addr
  a_law_rest : Addr
  a_law : Addr
  a_OTHER_KIND : Addr
  a_TURNS : Addr
  t_TURNS0 : Addr
  t_TURNS1 : Addr
  t_TURNS2 : Addr
  t_WAYS0 : Addr
  t_WAYS1 : Addr
  t_WAYS2 : Addr
  t_WAYS3 : Addr
  a_WAYS : Addr
structure Fds where
  a_law_source : FuncData
  a_law_draw : FuncData
  a_law_drawn_size : FuncData
  a_law_drawn_ray : FuncData
  a_shown_text : FuncData
  a_Floor_is_point : FuncData
  a_Floor_is_inner : FuncData
  a_Floor_may_stand : FuncData
  a_Floor___init__ : FuncData
  a_Floor_kind_at : FuncData
  a_on_floor : FuncData
  a_check_ray : FuncData
  a_turn_at : FuncData
  a_reversed_ray : FuncData
  a_common : FuncData
  a_inverse_of : FuncData
  a_Event___init__ : FuncData
  a_Torus_reduced : FuncData
  a_Torus_leaving : FuncData
  a_Torus_place_of : FuncData
  a_Torus_ray_at : FuncData
  a_Torus_walls_between : FuncData
  a_Torus_add_target : FuncData
  a_Torus___init__ : FuncData
  a_Torus_event : FuncData
  a_torus_of : FuncData
  a_Course___init__ : FuncData
  a_Course_follow : FuncData
  a_Course_leave_out : FuncData
  a_Course_ray : FuncData
  a_run : FuncData
  a_came_from : FuncData
  a_exit_of : FuncData
  a_Torus_remainder : FuncData
  a_Line___init__ : FuncData
  a_Line___eq__ : FuncData
  a_line_at : FuncData
  a_line_of : FuncData
  a_lines_at : FuncData
  a_ends_of : FuncData
  a_paths : FuncData
  a_following_places : FuncData
  a_removed_paths : FuncData
  a_count_of : FuncData
  a_count_closed : FuncData
  a_closed_lines : FuncData
  a_next_thing : FuncData
  a_law_common : FuncData
  a_law_rest : FuncData
  a_law : FuncData
structure Txt (w : World) (K : PySem.W.Frag) (mg : Str → Option Value) (A : Ads) (B : Fds) : Prop where
  z_abs : mg "abs" = none
  z_len : mg "len" = none
  z_max : mg "max" = none
  z_min : mg "min" = none
  z_range : mg "range" = none
  z_tuple : mg "tuple" = none
  z_list : mg "list" = none
  z_enumerate : mg "enumerate" = none
  z_repr : mg "repr" = none
  z_sorted : mg "sorted" = none
  z_isinstance : mg "isinstance" = none
  F__law_source : Fun K "_law_source" "_law_source" s__law_source A.a_law_source B.a_law_source
  b__law_source : Binds K B.a_law_source ["_law_script", "_law_index"] []
  g__law_source : mg "_law_source" = some (.ref A.a_law_source)
  k__law_source : PySem.W.keepIn K (.ref A.a_law_source) = true
  F__law_draw : Fun K "_law_draw" "_law_draw" s__law_draw A.a_law_draw B.a_law_draw
  b__law_draw : Binds K B.a_law_draw ["_law_source_here", "_law_bound"] []
  g__law_draw : mg "_law_draw" = some (.ref A.a_law_draw)
  k__law_draw : PySem.W.keepIn K (.ref A.a_law_draw) = true
  F__law_drawn_size : Fun K "_law_drawn_size" "_law_drawn_size" s__law_drawn_size A.a_law_drawn_size B.a_law_drawn_size
  b__law_drawn_size : Binds K B.a_law_drawn_size ["_law_source_here", "_law_most"] []
  g__law_drawn_size : mg "_law_drawn_size" = some (.ref A.a_law_drawn_size)
  k__law_drawn_size : PySem.W.keepIn K (.ref A.a_law_drawn_size) = true
  F__law_drawn_ray : Fun K "_law_drawn_ray" "_law_drawn_ray" s__law_drawn_ray A.a_law_drawn_ray B.a_law_drawn_ray
  b__law_drawn_ray : Binds K B.a_law_drawn_ray ["_law_source_here", "_law_size"] []
  g__law_drawn_ray : mg "_law_drawn_ray" = some (.ref A.a_law_drawn_ray)
  k__law_drawn_ray : PySem.W.keepIn K (.ref A.a_law_drawn_ray) = true
  F_shown_text : Fun K "shown_text" "shown_text" s_shown_text A.a_shown_text B.a_shown_text
  b_shown_text : Binds K B.a_shown_text ["width", "height", "things"] []
  g_shown_text : mg "shown_text" = some (.ref A.a_shown_text)
  k_shown_text : PySem.W.keepIn K (.ref A.a_shown_text) = true
  F_Floor_is_point : Fun K "is_point" "Floor.is_point" s_Floor_is_point A.a_Floor_is_point B.a_Floor_is_point
  b_Floor_is_point : Binds K B.a_Floor_is_point ["self", "x", "y"] []
  m_Floor_is_point : Meth K A.a_Floor "is_point" A.a_Floor_is_point
  F_Floor_is_inner : Fun K "is_inner" "Floor.is_inner" s_Floor_is_inner A.a_Floor_is_inner B.a_Floor_is_inner
  b_Floor_is_inner : Binds K B.a_Floor_is_inner ["self", "x", "y"] []
  m_Floor_is_inner : Meth K A.a_Floor "is_inner" A.a_Floor_is_inner
  F_Floor_may_stand : Fun K "may_stand" "Floor.may_stand" s_Floor_may_stand A.a_Floor_may_stand B.a_Floor_may_stand
  b_Floor_may_stand : Binds K B.a_Floor_may_stand ["self", "x", "y", "kind"] []
  m_Floor_may_stand : Meth K A.a_Floor "may_stand" A.a_Floor_may_stand
  F_Floor___init__ : Fun K "__init__" "Floor.__init__" s_Floor___init__ A.a_Floor___init__ B.a_Floor___init__
  F_Floor_kind_at : Fun K "kind_at" "Floor.kind_at" s_Floor_kind_at A.a_Floor_kind_at B.a_Floor_kind_at
  b_Floor_kind_at : Binds K B.a_Floor_kind_at ["self", "x", "y"] []
  m_Floor_kind_at : Meth K A.a_Floor "kind_at" A.a_Floor_kind_at
  F_on_floor : Fun K "on_floor" "on_floor" s_on_floor A.a_on_floor B.a_on_floor
  b_on_floor : Binds K B.a_on_floor ["floor", "x", "y"] []
  g_on_floor : mg "on_floor" = some (.ref A.a_on_floor)
  k_on_floor : PySem.W.keepIn K (.ref A.a_on_floor) = true
  F_check_ray : Fun K "check_ray" "check_ray" s_check_ray A.a_check_ray B.a_check_ray
  b_check_ray : Binds K B.a_check_ray ["floor", "ray"] []
  g_check_ray : mg "check_ray" = some (.ref A.a_check_ray)
  k_check_ray : PySem.W.keepIn K (.ref A.a_check_ray) = true
  F_turn_at : Fun K "turn_at" "turn_at" s_turn_at A.a_turn_at B.a_turn_at
  b_turn_at : Binds K B.a_turn_at ["floor", "x", "y"] []
  g_turn_at : mg "turn_at" = some (.ref A.a_turn_at)
  k_turn_at : PySem.W.keepIn K (.ref A.a_turn_at) = true
  F_reversed_ray : Fun K "reversed_ray" "reversed_ray" s_reversed_ray A.a_reversed_ray B.a_reversed_ray
  b_reversed_ray : Binds K B.a_reversed_ray ["floor", "ray"] []
  g_reversed_ray : mg "reversed_ray" = some (.ref A.a_reversed_ray)
  k_reversed_ray : PySem.W.keepIn K (.ref A.a_reversed_ray) = true
  F_common : Fun K "common" "common" s_common A.a_common B.a_common
  b_common : Binds K B.a_common ["first", "second"] []
  g_common : mg "common" = some (.ref A.a_common)
  k_common : PySem.W.keepIn K (.ref A.a_common) = true
  F_inverse_of : Fun K "inverse_of" "inverse_of" s_inverse_of A.a_inverse_of B.a_inverse_of
  b_inverse_of : Binds K B.a_inverse_of ["number", "modulus"] []
  g_inverse_of : mg "inverse_of" = some (.ref A.a_inverse_of)
  k_inverse_of : PySem.W.keepIn K (.ref A.a_inverse_of) = true
  F_Event___init__ : Fun K "__init__" "Event.__init__" s_Event___init__ A.a_Event___init__ B.a_Event___init__
  b_Event___init__ : Binds K B.a_Event___init__ ["self", "steps", "number", "left"] []
  F_Torus_reduced : Fun K "reduced" "Torus.reduced" s_Torus_reduced A.a_Torus_reduced B.a_Torus_reduced
  b_Torus_reduced : Binds K B.a_Torus_reduced ["self", "place"] []
  m_Torus_reduced : Meth K A.a_Torus "reduced" A.a_Torus_reduced
  F_Torus_leaving : Fun K "leaving" "Torus.leaving" s_Torus_leaving A.a_Torus_leaving B.a_Torus_leaving
  b_Torus_leaving : Binds K B.a_Torus_leaving ["self", "place", "kind"] []
  m_Torus_leaving : Meth K A.a_Torus "leaving" A.a_Torus_leaving
  F_Torus_place_of : Fun K "place_of" "Torus.place_of" s_Torus_place_of A.a_Torus_place_of B.a_Torus_place_of
  b_Torus_place_of : Binds K B.a_Torus_place_of ["self", "ray"] []
  m_Torus_place_of : Meth K A.a_Torus "place_of" A.a_Torus_place_of
  F_Torus_ray_at : Fun K "ray_at" "Torus.ray_at" s_Torus_ray_at A.a_Torus_ray_at B.a_Torus_ray_at
  b_Torus_ray_at : Binds K B.a_Torus_ray_at ["self", "place"] []
  m_Torus_ray_at : Meth K A.a_Torus "ray_at" A.a_Torus_ray_at
  F_Torus_walls_between : Fun K "walls_between" "Torus.walls_between" s_Torus_walls_between A.a_Torus_walls_between B.a_Torus_walls_between
  b_Torus_walls_between : Binds K B.a_Torus_walls_between ["self", "place", "steps"] []
  m_Torus_walls_between : Meth K A.a_Torus "walls_between" A.a_Torus_walls_between
  F_Torus_add_target : Fun K "add_target" "Torus.add_target" s_Torus_add_target A.a_Torus_add_target B.a_Torus_add_target
  b_Torus_add_target : Binds K B.a_Torus_add_target ["self", "place", "number", "left"] []
  m_Torus_add_target : Meth K A.a_Torus "add_target" A.a_Torus_add_target
  F_Torus___init__ : Fun K "__init__" "Torus.__init__" s_Torus___init__ A.a_Torus___init__ B.a_Torus___init__
  b_Torus___init__ : Binds K B.a_Torus___init__ ["self", "width", "height", "things"] []
  F_Torus_event : Fun K "event" "Torus.event" s_Torus_event A.a_Torus_event B.a_Torus_event
  b_Torus_event : Binds K B.a_Torus_event ["self", "place"] []
  m_Torus_event : Meth K A.a_Torus "event" A.a_Torus_event
  F_torus_of : Fun K "torus_of" "torus_of" s_torus_of A.a_torus_of B.a_torus_of
  b_torus_of : Binds K B.a_torus_of ["floor"] []
  g_torus_of : mg "torus_of" = some (.ref A.a_torus_of)
  k_torus_of : PySem.W.keepIn K (.ref A.a_torus_of) = true
  F_Course___init__ : Fun K "__init__" "Course.__init__" s_Course___init__ A.a_Course___init__ B.a_Course___init__
  b_Course___init__ : Binds K B.a_Course___init__ ["self", "torus", "place", "steps"] []
  F_Course_follow : Fun K "follow" "Course.follow" s_Course_follow A.a_Course_follow B.a_Course_follow
  b_Course_follow : Binds K B.a_Course_follow ["self"] []
  m_Course_follow : Meth K A.a_Course "follow" A.a_Course_follow
  F_Course_leave_out : Fun K "leave_out" "Course.leave_out" s_Course_leave_out A.a_Course_leave_out B.a_Course_leave_out
  b_Course_leave_out : Binds K B.a_Course_leave_out ["self", "before"] []
  m_Course_leave_out : Meth K A.a_Course "leave_out" A.a_Course_leave_out
  F_Course_ray : Fun K "ray" "Course.ray" s_Course_ray A.a_Course_ray B.a_Course_ray
  b_Course_ray : Binds K B.a_Course_ray ["self"] []
  m_Course_ray : Meth K A.a_Course "ray" A.a_Course_ray
  F_run : Fun K "run" "run" s_run A.a_run B.a_run
  b_run : Binds K B.a_run ["floor", "ray", "steps"] []
  g_run : mg "run" = some (.ref A.a_run)
  k_run : PySem.W.keepIn K (.ref A.a_run) = true
  F_came_from : Fun K "came_from" "came_from" s_came_from A.a_came_from B.a_came_from
  b_came_from : Binds K B.a_came_from ["floor", "torus", "back", "steps"] []
  g_came_from : mg "came_from" = some (.ref A.a_came_from)
  k_came_from : PySem.W.keepIn K (.ref A.a_came_from) = true
  F_exit_of : Fun K "exit_of" "exit_of" s_exit_of A.a_exit_of B.a_exit_of
  b_exit_of : Binds K B.a_exit_of ["floor", "ray"] []
  g_exit_of : mg "exit_of" = some (.ref A.a_exit_of)
  k_exit_of : PySem.W.keepIn K (.ref A.a_exit_of) = true
  F_Torus_remainder : Fun K "remainder" "Torus.remainder" s_Torus_remainder A.a_Torus_remainder B.a_Torus_remainder
  b_Torus_remainder : Binds K B.a_Torus_remainder ["self", "place"] []
  m_Torus_remainder : Meth K A.a_Torus "remainder" A.a_Torus_remainder
  F_Line___init__ : Fun K "__init__" "Line.__init__" s_Line___init__ A.a_Line___init__ B.a_Line___init__
  b_Line___init__ : Binds K B.a_Line___init__ ["self", "length", "ends", "first", "hits"] []
  F_Line___eq__ : Fun K "__eq__" "Line.__eq__" s_Line___eq__ A.a_Line___eq__ B.a_Line___eq__
  b_Line___eq__ : Binds K B.a_Line___eq__ ["self", "other"] []
  m_Line___eq__ : Meth K A.a_Line "__eq__" A.a_Line___eq__
  F_line_at : Fun K "line_at" "line_at" s_line_at A.a_line_at B.a_line_at
  b_line_at : Binds K B.a_line_at ["floor", "torus", "place"] []
  g_line_at : mg "line_at" = some (.ref A.a_line_at)
  k_line_at : PySem.W.keepIn K (.ref A.a_line_at) = true
  F_line_of : Fun K "line_of" "line_of" s_line_of A.a_line_of B.a_line_of
  b_line_of : Binds K B.a_line_of ["floor", "ray"] []
  g_line_of : mg "line_of" = some (.ref A.a_line_of)
  k_line_of : PySem.W.keepIn K (.ref A.a_line_of) = true
  F_lines_at : Fun K "lines_at" "lines_at" s_lines_at A.a_lines_at B.a_lines_at
  b_lines_at : Binds K B.a_lines_at ["floor", "x", "y"] []
  g_lines_at : mg "lines_at" = some (.ref A.a_lines_at)
  k_lines_at : PySem.W.keepIn K (.ref A.a_lines_at) = true
  F_ends_of : Fun K "ends_of" "ends_of" s_ends_of A.a_ends_of B.a_ends_of
  b_ends_of : Binds K B.a_ends_of ["floor"] []
  g_ends_of : mg "ends_of" = some (.ref A.a_ends_of)
  k_ends_of : PySem.W.keepIn K (.ref A.a_ends_of) = true
  F_paths : Fun K "paths" "paths" s_paths A.a_paths B.a_paths
  b_paths : Binds K B.a_paths ["floor"] []
  g_paths : mg "paths" = some (.ref A.a_paths)
  k_paths : PySem.W.keepIn K (.ref A.a_paths) = true
  F_following_places : Fun K "following_places" "following_places" s_following_places A.a_following_places B.a_following_places
  b_following_places : Binds K B.a_following_places ["torus"] []
  g_following_places : mg "following_places" = some (.ref A.a_following_places)
  k_following_places : PySem.W.keepIn K (.ref A.a_following_places) = true
  F_removed_paths : Fun K "removed_paths" "removed_paths" s_removed_paths A.a_removed_paths B.a_removed_paths
  b_removed_paths : Binds K B.a_removed_paths ["torus", "after", "ends"] []
  g_removed_paths : mg "removed_paths" = some (.ref A.a_removed_paths)
  k_removed_paths : PySem.W.keepIn K (.ref A.a_removed_paths) = true
  F_count_of : Fun K "count_of" "count_of" s_count_of A.a_count_of B.a_count_of
  b_count_of : Binds K B.a_count_of ["floor", "things"] []
  g_count_of : mg "count_of" = some (.ref A.a_count_of)
  k_count_of : PySem.W.keepIn K (.ref A.a_count_of) = true
  F_count_closed : Fun K "count_closed" "count_closed" s_count_closed A.a_count_closed B.a_count_closed
  b_count_closed : Binds K B.a_count_closed ["floor"] []
  g_count_closed : mg "count_closed" = some (.ref A.a_count_closed)
  k_count_closed : PySem.W.keepIn K (.ref A.a_count_closed) = true
  F_closed_lines : Fun K "closed_lines" "closed_lines" s_closed_lines A.a_closed_lines B.a_closed_lines
  b_closed_lines : Binds K B.a_closed_lines ["floor"] []
  g_closed_lines : mg "closed_lines" = some (.ref A.a_closed_lines)
  k_closed_lines : PySem.W.keepIn K (.ref A.a_closed_lines) = true
  F_next_thing : Fun K "next_thing" "next_thing" s_next_thing A.a_next_thing B.a_next_thing
  b_next_thing : Binds K B.a_next_thing ["floor", "ray"] []
  g_next_thing : mg "next_thing" = some (.ref A.a_next_thing)
  k_next_thing : PySem.W.keepIn K (.ref A.a_next_thing) = true
  F__law_common : Fun K "_law_common" "_law_common" s__law_common A.a_law_common B.a_law_common
  b__law_common : Binds K B.a_law_common ["_law_first", "_law_second"] []
  g__law_common : mg "_law_common" = some (.ref A.a_law_common)
  k__law_common : PySem.W.keepIn K (.ref A.a_law_common) = true
  F__law_rest : Fun K "_law_rest" "_law_rest" s__law_rest A.a_law_rest B.a_law_rest
  b__law_rest : Binds K B.a_law_rest ["_law_size", "_law_unit", "_law_ray"] []
  g__law_rest : mg "_law_rest" = some (.ref A.a_law_rest)
  k__law_rest : PySem.W.keepIn K (.ref A.a_law_rest) = true
  F_law : Fun K "law" "law" s_law A.a_law B.a_law
  b_law : Binds K B.a_law ["_law_script"] []
  g_law : mg "law" = some (.ref A.a_law)
  k_law : PySem.W.keepIn K (.ref A.a_law) = true
  cl_Floor : Cls K A.a_Floor
  g_Floor : mg "Floor" = some (.ref A.a_Floor)
  mk_Floor : Mk K A.a_Floor A.a_Floor___init__
  cr_Floor : ClX.CRead K A.a_Floor (.type "type")
  n_Floor_width : NoAttr K A.a_Floor "width"
  n_Floor_height : NoAttr K A.a_Floor "height"
  n_Floor_numbers : NoAttr K A.a_Floor "numbers"
  n_Floor_things : NoAttr K A.a_Floor "things"
  n_Floor_shown : NoAttr K A.a_Floor "shown"
  cl_Event : Cls K A.a_Event
  g_Event : mg "Event" = some (.ref A.a_Event)
  mk_Event : Mk K A.a_Event A.a_Event___init__
  n_Event_steps : NoAttr K A.a_Event "steps"
  n_Event_number : NoAttr K A.a_Event "number"
  n_Event_left : NoAttr K A.a_Event "left"
  cl_Torus : Cls K A.a_Torus
  g_Torus : mg "Torus" = some (.ref A.a_Torus)
  mk_Torus : Mk K A.a_Torus A.a_Torus___init__
  n_Torus_across : NoAttr K A.a_Torus "across"
  n_Torus_along : NoAttr K A.a_Torus "along"
  n_Torus_unit : NoAttr K A.a_Torus "unit"
  n_Torus_rest : NoAttr K A.a_Torus "rest"
  n_Torus_circuit : NoAttr K A.a_Torus "circuit"
  n_Torus_factor : NoAttr K A.a_Torus "factor"
  n_Torus_targets : NoAttr K A.a_Torus "targets"
  n_Torus_classes : NoAttr K A.a_Torus "classes"
  cl_Course : Cls K A.a_Course
  g_Course : mg "Course" = some (.ref A.a_Course)
  mk_Course : Mk K A.a_Course A.a_Course___init__
  n_Course_torus : NoAttr K A.a_Course "torus"
  n_Course_spot : NoAttr K A.a_Course "spot"
  n_Course_steps : NoAttr K A.a_Course "steps"
  n_Course_walls : NoAttr K A.a_Course "walls"
  n_Course_mirrors : NoAttr K A.a_Course "mirrors"
  n_Course_door : NoAttr K A.a_Course "door"
  n_Course_taken : NoAttr K A.a_Course "taken"
  cl_Line : Cls K A.a_Line
  g_Line : mg "Line" = some (.ref A.a_Line)
  mk_Line : Mk K A.a_Line A.a_Line___init__
  ic_Line : C8.InsC K A.a_Line
  n_Line_length : NoAttr K A.a_Line "length"
  n_Line_ends : NoAttr K A.a_Line "ends"
  n_Line_first : NoAttr K A.a_Line "first"
  n_Line_hits : NoAttr K A.a_Line "hits"
  g_OTHER_KIND : mg "OTHER_KIND" = some (.ref A.a_OTHER_KIND)
  kt_OTHER_KIND : KTab K w A.a_OTHER_KIND [("|", .str "-"), ("-", .str "|")]
  g_TURNS : mg "TURNS" = some (.ref A.a_TURNS)
  kt_TURNS : KTab K w A.a_TURNS [("", .cst A.t_TURNS0), ("|", .cst A.t_TURNS1), ("-", .cst A.t_TURNS2)]
  ct_TURNS0 : CTup K A.t_TURNS0 [.int 1, .int 1]
  ct_TURNS1 : CTup K A.t_TURNS1 [.int (-1), .int 1]
  ct_TURNS2 : CTup K A.t_TURNS2 [.int 1, .int (-1)]
  ct_WAYS0 : CTup K A.t_WAYS0 [.int (-1), .int (-1)]
  ct_WAYS1 : CTup K A.t_WAYS1 [.int (-1), .int 1]
  ct_WAYS2 : CTup K A.t_WAYS2 [.int 1, .int (-1)]
  ct_WAYS3 : CTup K A.t_WAYS3 [.int 1, .int 1]
  g_WAYS : mg "WAYS" = some (.ref A.a_WAYS)
  w_WAYS : CSeq K A.a_WAYS [A.t_WAYS0, A.t_WAYS1, A.t_WAYS2, A.t_WAYS3]
  g_MOST_SIZE : ∃ t, mg "MOST_SIZE" = some (.int 1000000000000000 t)
  g_DOOR : ∃ t, mg "DOOR" = some (.str "o" t)
  cv_Floor_MOST_THINGS : ∃ u, ClX.CVal K A.a_Floor (.type "type") "MOST_THINGS" (.int 40) u
end K

namespace K
open PySem L2 DL
def ex0 (K : PySem.W.Frag) : Bool :=
  decide (PySem.W.nsIn K PySem.mainGlobals "abs" = some none) && (
  decide (PySem.W.nsIn K PySem.mainGlobals "len" = some none) && (
  decide (PySem.W.nsIn K PySem.mainGlobals "max" = some none) && (
  decide (PySem.W.nsIn K PySem.mainGlobals "min" = some none) && (
  decide (PySem.W.nsIn K PySem.mainGlobals "range" = some none) && (
  decide (PySem.W.nsIn K PySem.mainGlobals "tuple" = some none) && (
  decide (PySem.W.nsIn K PySem.mainGlobals "list" = some none) && (
  decide (PySem.W.nsIn K PySem.mainGlobals "enumerate" = some none) && (
  decide (PySem.W.nsIn K PySem.mainGlobals "repr" = some none) && (
  decide (PySem.W.nsIn K PySem.mainGlobals "sorted" = some none) && (
  decide (PySem.W.nsIn K PySem.mainGlobals "isinstance" = some none) && (
  decide (PySem.W.nsIn K PySem.mainGlobals "Floor" = some (some (.ref (He.ga K "Floor")))) && (
  decide (PySem.W.nsIn K PySem.mainGlobals "Event" = some (some (.ref (He.ga K "Event")))) && (
  decide (PySem.W.nsIn K PySem.mainGlobals "Torus" = some (some (.ref (He.ga K "Torus")))) && (
  decide (PySem.W.nsIn K PySem.mainGlobals "Course" = some (some (.ref (He.ga K "Course")))) && (
  decide (PySem.W.nsIn K PySem.mainGlobals "Line" = some (some (.ref (He.ga K "Line")))) && (
  decide (PySem.W.nsIn K PySem.mainGlobals "_law_source" = some (some (.ref (He.ga K "_law_source")))) && (
  decide (PySem.W.nsIn K PySem.mainGlobals "_law_draw" = some (some (.ref (He.ga K "_law_draw")))) && (
  decide (PySem.W.nsIn K PySem.mainGlobals "_law_drawn_size" = some (some (.ref (He.ga K "_law_drawn_size")))) && (
  decide (PySem.W.nsIn K PySem.mainGlobals "_law_drawn_ray" = some (some (.ref (He.ga K "_law_drawn_ray")))) && (
  decide (PySem.W.nsIn K PySem.mainGlobals "shown_text" = some (some (.ref (He.ga K "shown_text")))) && (
  decide (PySem.W.findIn K (.ref (He.ga K "Floor")) "is_point" = some (some (.ref (He.ma K (He.ga K "Floor") "is_point")))) && (
  PySem.W.isFn K (.ref (He.ma K (He.ga K "Floor") "is_point")) && (
  decide (PySem.W.findIn K (.ref (He.ga K "Floor")) "is_inner" = some (some (.ref (He.ma K (He.ga K "Floor") "is_inner")))) && (
  PySem.W.isFn K (.ref (He.ma K (He.ga K "Floor") "is_inner")) && (
  decide (PySem.W.findIn K (.ref (He.ga K "Floor")) "may_stand" = some (some (.ref (He.ma K (He.ga K "Floor") "may_stand")))) && (
  PySem.W.isFn K (.ref (He.ma K (He.ga K "Floor") "may_stand")) && (
  decide (PySem.W.findIn K (.ref (He.ga K "Floor")) "__init__" = some (some (.ref (He.ma K (He.ga K "Floor") "__init__")))) && (
  PySem.W.isFn K (.ref (He.ma K (He.ga K "Floor") "__init__")) && (
  decide (PySem.W.findIn K (.ref (He.ga K "Floor")) "kind_at" = some (some (.ref (He.ma K (He.ga K "Floor") "kind_at")))) && (
  PySem.W.isFn K (.ref (He.ma K (He.ga K "Floor") "kind_at")) && (
  decide (PySem.W.nsIn K PySem.mainGlobals "on_floor" = some (some (.ref (He.ga K "on_floor")))) && (
  decide (PySem.W.nsIn K PySem.mainGlobals "check_ray" = some (some (.ref (He.ga K "check_ray")))) && (
  decide (PySem.W.nsIn K PySem.mainGlobals "turn_at" = some (some (.ref (He.ga K "turn_at")))) && (
  decide (PySem.W.nsIn K PySem.mainGlobals "reversed_ray" = some (some (.ref (He.ga K "reversed_ray")))) && (
  decide (PySem.W.nsIn K PySem.mainGlobals "common" = some (some (.ref (He.ga K "common")))) && (
  decide (PySem.W.nsIn K PySem.mainGlobals "inverse_of" = some (some (.ref (He.ga K "inverse_of")))) && (
  decide (PySem.W.findIn K (.ref (He.ga K "Event")) "__init__" = some (some (.ref (He.ma K (He.ga K "Event") "__init__")))) && (
  PySem.W.isFn K (.ref (He.ma K (He.ga K "Event") "__init__")) && (
  decide (PySem.W.findIn K (.ref (He.ga K "Torus")) "reduced" = some (some (.ref (He.ma K (He.ga K "Torus") "reduced")))) && (
  PySem.W.isFn K (.ref (He.ma K (He.ga K "Torus") "reduced")) && (
  decide (PySem.W.findIn K (.ref (He.ga K "Torus")) "leaving" = some (some (.ref (He.ma K (He.ga K "Torus") "leaving")))) && (
  PySem.W.isFn K (.ref (He.ma K (He.ga K "Torus") "leaving")) && (
  decide (PySem.W.findIn K (.ref (He.ga K "Torus")) "place_of" = some (some (.ref (He.ma K (He.ga K "Torus") "place_of")))) && (
  PySem.W.isFn K (.ref (He.ma K (He.ga K "Torus") "place_of")) && (
  decide (PySem.W.findIn K (.ref (He.ga K "Torus")) "ray_at" = some (some (.ref (He.ma K (He.ga K "Torus") "ray_at")))) && (
  PySem.W.isFn K (.ref (He.ma K (He.ga K "Torus") "ray_at")) && (
  decide (PySem.W.findIn K (.ref (He.ga K "Torus")) "walls_between" = some (some (.ref (He.ma K (He.ga K "Torus") "walls_between")))) && (
  PySem.W.isFn K (.ref (He.ma K (He.ga K "Torus") "walls_between")) && (
  decide (PySem.W.findIn K (.ref (He.ga K "Torus")) "add_target" = some (some (.ref (He.ma K (He.ga K "Torus") "add_target")))) && (
  PySem.W.isFn K (.ref (He.ma K (He.ga K "Torus") "add_target")) && (
  decide (PySem.W.findIn K (.ref (He.ga K "Torus")) "__init__" = some (some (.ref (He.ma K (He.ga K "Torus") "__init__")))) && (
  PySem.W.isFn K (.ref (He.ma K (He.ga K "Torus") "__init__")) && (
  decide (PySem.W.findIn K (.ref (He.ga K "Torus")) "event" = some (some (.ref (He.ma K (He.ga K "Torus") "event")))) && (
  PySem.W.isFn K (.ref (He.ma K (He.ga K "Torus") "event")) && (
  decide (PySem.W.nsIn K PySem.mainGlobals "torus_of" = some (some (.ref (He.ga K "torus_of")))) && (
  decide (PySem.W.findIn K (.ref (He.ga K "Course")) "__init__" = some (some (.ref (He.ma K (He.ga K "Course") "__init__")))) && (
  PySem.W.isFn K (.ref (He.ma K (He.ga K "Course") "__init__")) && (
  decide (PySem.W.findIn K (.ref (He.ga K "Course")) "follow" = some (some (.ref (He.ma K (He.ga K "Course") "follow")))) && (
  PySem.W.isFn K (.ref (He.ma K (He.ga K "Course") "follow")) && true)))))))))))))))))))))))))))))))))))))))))))))))))))))))))))
def ex1 (K : PySem.W.Frag) : Bool :=
  decide (PySem.W.findIn K (.ref (He.ga K "Course")) "leave_out" = some (some (.ref (He.ma K (He.ga K "Course") "leave_out")))) && (
  PySem.W.isFn K (.ref (He.ma K (He.ga K "Course") "leave_out")) && (
  decide (PySem.W.findIn K (.ref (He.ga K "Course")) "ray" = some (some (.ref (He.ma K (He.ga K "Course") "ray")))) && (
  PySem.W.isFn K (.ref (He.ma K (He.ga K "Course") "ray")) && (
  decide (PySem.W.nsIn K PySem.mainGlobals "run" = some (some (.ref (He.ga K "run")))) && (
  decide (PySem.W.nsIn K PySem.mainGlobals "came_from" = some (some (.ref (He.ga K "came_from")))) && (
  decide (PySem.W.nsIn K PySem.mainGlobals "exit_of" = some (some (.ref (He.ga K "exit_of")))) && (
  decide (PySem.W.findIn K (.ref (He.ga K "Torus")) "remainder" = some (some (.ref (He.ma K (He.ga K "Torus") "remainder")))) && (
  PySem.W.isFn K (.ref (He.ma K (He.ga K "Torus") "remainder")) && (
  decide (PySem.W.findIn K (.ref (He.ga K "Line")) "__init__" = some (some (.ref (He.ma K (He.ga K "Line") "__init__")))) && (
  PySem.W.isFn K (.ref (He.ma K (He.ga K "Line") "__init__")) && (
  decide (PySem.W.findIn K (.ref (He.ga K "Line")) "__eq__" = some (some (.ref (He.ma K (He.ga K "Line") "__eq__")))) && (
  PySem.W.isFn K (.ref (He.ma K (He.ga K "Line") "__eq__")) && (
  decide (PySem.W.nsIn K PySem.mainGlobals "line_at" = some (some (.ref (He.ga K "line_at")))) && (
  decide (PySem.W.nsIn K PySem.mainGlobals "line_of" = some (some (.ref (He.ga K "line_of")))) && (
  decide (PySem.W.nsIn K PySem.mainGlobals "lines_at" = some (some (.ref (He.ga K "lines_at")))) && (
  decide (PySem.W.nsIn K PySem.mainGlobals "ends_of" = some (some (.ref (He.ga K "ends_of")))) && (
  decide (PySem.W.nsIn K PySem.mainGlobals "paths" = some (some (.ref (He.ga K "paths")))) && (
  decide (PySem.W.nsIn K PySem.mainGlobals "following_places" = some (some (.ref (He.ga K "following_places")))) && (
  decide (PySem.W.nsIn K PySem.mainGlobals "removed_paths" = some (some (.ref (He.ga K "removed_paths")))) && (
  decide (PySem.W.nsIn K PySem.mainGlobals "count_of" = some (some (.ref (He.ga K "count_of")))) && (
  decide (PySem.W.nsIn K PySem.mainGlobals "count_closed" = some (some (.ref (He.ga K "count_closed")))) && (
  decide (PySem.W.nsIn K PySem.mainGlobals "closed_lines" = some (some (.ref (He.ga K "closed_lines")))) && (
  decide (PySem.W.nsIn K PySem.mainGlobals "next_thing" = some (some (.ref (He.ga K "next_thing")))) && (
  decide (PySem.W.nsIn K PySem.mainGlobals "_law_common" = some (some (.ref (He.ga K "_law_common")))) && (
  decide (PySem.W.nsIn K PySem.mainGlobals "_law_rest" = some (some (.ref (He.ga K "_law_rest")))) && (
  decide (PySem.W.nsIn K PySem.mainGlobals "law" = some (some (.ref (He.ga K "law")))) && (
  PySem.W.plainGet K (He.ga K "Floor") PySem.Str.empty && (
  PySem.W.hasDictIn K (He.ga K "Floor") && (
  PySem.W.plainOver K (He.ga K "Floor") && (
  decide (PySem.W.findIn K (.ref (He.ga K "Floor")) "__setattr__" = some (some (.builtin "object.__setattr__"))) && (
  PySem.W.makesIn K (He.ga K "Floor") && (
  PySem.W.keepIn K (.ref (He.ga K "Floor")) && (
  PySem.W.readsIn K (He.ga K "Floor") (.type "type") && (
  decide (PySem.W.specialIn K (.ref (He.ga K "Floor")) "__getattribute__" = some (some (.builtin "type.__getattribute__"))) && (
  decide (PySem.W.findIn K (.ref (He.ga K "Floor")) "width" = some none) && (
  decide (PySem.W.findIn K (.ref (He.ga K "Floor")) "height" = some none) && (
  decide (PySem.W.findIn K (.ref (He.ga K "Floor")) "numbers" = some none) && (
  decide (PySem.W.findIn K (.ref (He.ga K "Floor")) "things" = some none) && (
  decide (PySem.W.findIn K (.ref (He.ga K "Floor")) "shown" = some none) && (
  PySem.W.plainGet K (He.ga K "Event") PySem.Str.empty && (
  PySem.W.hasDictIn K (He.ga K "Event") && (
  PySem.W.plainOver K (He.ga K "Event") && (
  decide (PySem.W.findIn K (.ref (He.ga K "Event")) "__setattr__" = some (some (.builtin "object.__setattr__"))) && (
  PySem.W.makesIn K (He.ga K "Event") && (
  PySem.W.keepIn K (.ref (He.ga K "Event")) && (
  decide (PySem.W.findIn K (.ref (He.ga K "Event")) "steps" = some none) && (
  decide (PySem.W.findIn K (.ref (He.ga K "Event")) "number" = some none) && (
  decide (PySem.W.findIn K (.ref (He.ga K "Event")) "left" = some none) && (
  PySem.W.plainGet K (He.ga K "Torus") PySem.Str.empty && (
  PySem.W.hasDictIn K (He.ga K "Torus") && (
  PySem.W.plainOver K (He.ga K "Torus") && (
  decide (PySem.W.findIn K (.ref (He.ga K "Torus")) "__setattr__" = some (some (.builtin "object.__setattr__"))) && (
  PySem.W.makesIn K (He.ga K "Torus") && (
  PySem.W.keepIn K (.ref (He.ga K "Torus")) && (
  decide (PySem.W.findIn K (.ref (He.ga K "Torus")) "across" = some none) && (
  decide (PySem.W.findIn K (.ref (He.ga K "Torus")) "along" = some none) && (
  decide (PySem.W.findIn K (.ref (He.ga K "Torus")) "unit" = some none) && (
  decide (PySem.W.findIn K (.ref (He.ga K "Torus")) "rest" = some none) && (
  decide (PySem.W.findIn K (.ref (He.ga K "Torus")) "circuit" = some none) && true)))))))))))))))))))))))))))))))))))))))))))))))))))))))))))
def ex2 (K : PySem.W.Frag) : Bool :=
  decide (PySem.W.findIn K (.ref (He.ga K "Torus")) "factor" = some none) && (
  decide (PySem.W.findIn K (.ref (He.ga K "Torus")) "targets" = some none) && (
  decide (PySem.W.findIn K (.ref (He.ga K "Torus")) "classes" = some none) && (
  PySem.W.plainGet K (He.ga K "Course") PySem.Str.empty && (
  PySem.W.hasDictIn K (He.ga K "Course") && (
  PySem.W.plainOver K (He.ga K "Course") && (
  decide (PySem.W.findIn K (.ref (He.ga K "Course")) "__setattr__" = some (some (.builtin "object.__setattr__"))) && (
  PySem.W.makesIn K (He.ga K "Course") && (
  PySem.W.keepIn K (.ref (He.ga K "Course")) && (
  decide (PySem.W.findIn K (.ref (He.ga K "Course")) "torus" = some none) && (
  decide (PySem.W.findIn K (.ref (He.ga K "Course")) "spot" = some none) && (
  decide (PySem.W.findIn K (.ref (He.ga K "Course")) "steps" = some none) && (
  decide (PySem.W.findIn K (.ref (He.ga K "Course")) "walls" = some none) && (
  decide (PySem.W.findIn K (.ref (He.ga K "Course")) "mirrors" = some none) && (
  decide (PySem.W.findIn K (.ref (He.ga K "Course")) "door" = some none) && (
  decide (PySem.W.findIn K (.ref (He.ga K "Course")) "taken" = some none) && (
  PySem.W.plainGet K (He.ga K "Line") PySem.Str.empty && (
  PySem.W.hasDictIn K (He.ga K "Line") && (
  PySem.W.plainOver K (He.ga K "Line") && (
  decide (PySem.W.findIn K (.ref (He.ga K "Line")) "__setattr__" = some (some (.builtin "object.__setattr__"))) && (
  PySem.W.makesIn K (He.ga K "Line") && (
  PySem.W.keepIn K (.ref (He.ga K "Line")) && (
  decide (PySem.W.findIn K (.ref (He.ga K "Line")) "__class__" = some (some (.builtin "object.__class__"))) && (
  decide (PySem.W.specialIn K (.builtin "object.__class__") "__get__" = some (some (.builtin "getset_descriptor.__get__"))) && (
  decide (PySem.W.takesIn K (.builtin "object.__class__") = some true) && (
  decide (PySem.W.mroIn K (He.ga K "Line") (.type "object") = some true) && (
  decide (PySem.W.findIn K (.ref (He.ga K "Line")) "length" = some none) && (
  decide (PySem.W.findIn K (.ref (He.ga K "Line")) "ends" = some none) && (
  decide (PySem.W.findIn K (.ref (He.ga K "Line")) "first" = some none) && (
  decide (PySem.W.findIn K (.ref (He.ga K "Line")) "hits" = some none) && (
  decide (PySem.W.nsIn K PySem.mainGlobals "OTHER_KIND" = some (some (.ref (He.ga K "OTHER_KIND")))) && (
  KH.tabB K (He.ga K "OTHER_KIND") [("|", .s "-"), ("-", .s "|")] && (
  decide (PySem.W.nsIn K PySem.mainGlobals "TURNS" = some (some (.ref (He.ga K "TURNS")))) && (
  KH.tabB K (He.ga K "TURNS") [("", .q 0), ("|", .q 1), ("-", .q 2)] && (
  decide (PySem.W.nsIn K PySem.mainGlobals "WAYS" = some (some (.ref (He.ga K "WAYS")))) && (
  KH.seqB K (He.ga K "WAYS") [(KH.itemAt K (He.ga K "WAYS") 0), (KH.itemAt K (He.ga K "WAYS") 1), (KH.itemAt K (He.ga K "WAYS") 2), (KH.itemAt K (He.ga K "WAYS") 3)] && (
  KH.tup2B K (KH.valAt K (He.ga K "TURNS") 0) 1 1 && (
  KH.tup2B K (KH.valAt K (He.ga K "TURNS") 1) (-1) 1 && (
  KH.tup2B K (KH.valAt K (He.ga K "TURNS") 2) 1 (-1) && (
  KH.tup2B K (KH.itemAt K (He.ga K "WAYS") 0) (-1) (-1) && (
  KH.tup2B K (KH.itemAt K (He.ga K "WAYS") 1) (-1) 1 && (
  KH.tup2B K (KH.itemAt K (He.ga K "WAYS") 2) 1 (-1) && (
  KH.tup2B K (KH.itemAt K (He.ga K "WAYS") 3) 1 1 && (
  KH.intB K "MOST_SIZE" 1000000000000000 && (
  KH.strB K "DOOR" "o" && (
  KH.clsValB K (He.ga K "Floor") "MOST_THINGS" (V.int 40) && true)))))))))))))))))))))))))))))))))))))))))))))
def fn0 : List KH.Df := [⟨.g "_law_source", "_law_source", "_law_source", s__law_source⟩,
  ⟨.g "_law_draw", "_law_draw", "_law_draw", s__law_draw⟩,
  ⟨.g "_law_drawn_size", "_law_drawn_size", "_law_drawn_size", s__law_drawn_size⟩,
  ⟨.g "_law_drawn_ray", "_law_drawn_ray", "_law_drawn_ray", s__law_drawn_ray⟩,
  ⟨.g "shown_text", "shown_text", "shown_text", s_shown_text⟩,
  ⟨.m "Floor" "is_point", "is_point", "Floor.is_point", s_Floor_is_point⟩,
  ⟨.m "Floor" "is_inner", "is_inner", "Floor.is_inner", s_Floor_is_inner⟩,
  ⟨.m "Floor" "may_stand", "may_stand", "Floor.may_stand", s_Floor_may_stand⟩,
  ⟨.m "Floor" "__init__", "__init__", "Floor.__init__", s_Floor___init__⟩,
  ⟨.m "Floor" "kind_at", "kind_at", "Floor.kind_at", s_Floor_kind_at⟩,
  ⟨.g "on_floor", "on_floor", "on_floor", s_on_floor⟩,
  ⟨.g "check_ray", "check_ray", "check_ray", s_check_ray⟩,
  ⟨.g "turn_at", "turn_at", "turn_at", s_turn_at⟩,
  ⟨.g "reversed_ray", "reversed_ray", "reversed_ray", s_reversed_ray⟩,
  ⟨.g "common", "common", "common", s_common⟩,
  ⟨.g "inverse_of", "inverse_of", "inverse_of", s_inverse_of⟩,
  ⟨.m "Event" "__init__", "__init__", "Event.__init__", s_Event___init__⟩,
  ⟨.m "Torus" "reduced", "reduced", "Torus.reduced", s_Torus_reduced⟩,
  ⟨.m "Torus" "leaving", "leaving", "Torus.leaving", s_Torus_leaving⟩,
  ⟨.m "Torus" "place_of", "place_of", "Torus.place_of", s_Torus_place_of⟩,
  ⟨.m "Torus" "ray_at", "ray_at", "Torus.ray_at", s_Torus_ray_at⟩,
  ⟨.m "Torus" "walls_between", "walls_between", "Torus.walls_between", s_Torus_walls_between⟩,
  ⟨.m "Torus" "add_target", "add_target", "Torus.add_target", s_Torus_add_target⟩,
  ⟨.m "Torus" "__init__", "__init__", "Torus.__init__", s_Torus___init__⟩,
  ⟨.m "Torus" "event", "event", "Torus.event", s_Torus_event⟩,
  ⟨.g "torus_of", "torus_of", "torus_of", s_torus_of⟩,
  ⟨.m "Course" "__init__", "__init__", "Course.__init__", s_Course___init__⟩,
  ⟨.m "Course" "follow", "follow", "Course.follow", s_Course_follow⟩,
  ⟨.m "Course" "leave_out", "leave_out", "Course.leave_out", s_Course_leave_out⟩,
  ⟨.m "Course" "ray", "ray", "Course.ray", s_Course_ray⟩]
def fn1 : List KH.Df := [⟨.g "run", "run", "run", s_run⟩,
  ⟨.g "came_from", "came_from", "came_from", s_came_from⟩,
  ⟨.g "exit_of", "exit_of", "exit_of", s_exit_of⟩,
  ⟨.m "Torus" "remainder", "remainder", "Torus.remainder", s_Torus_remainder⟩,
  ⟨.m "Line" "__init__", "__init__", "Line.__init__", s_Line___init__⟩,
  ⟨.m "Line" "__eq__", "__eq__", "Line.__eq__", s_Line___eq__⟩,
  ⟨.g "line_at", "line_at", "line_at", s_line_at⟩,
  ⟨.g "line_of", "line_of", "line_of", s_line_of⟩,
  ⟨.g "lines_at", "lines_at", "lines_at", s_lines_at⟩,
  ⟨.g "ends_of", "ends_of", "ends_of", s_ends_of⟩,
  ⟨.g "paths", "paths", "paths", s_paths⟩,
  ⟨.g "following_places", "following_places", "following_places", s_following_places⟩,
  ⟨.g "removed_paths", "removed_paths", "removed_paths", s_removed_paths⟩,
  ⟨.g "count_of", "count_of", "count_of", s_count_of⟩,
  ⟨.g "count_closed", "count_closed", "count_closed", s_count_closed⟩,
  ⟨.g "closed_lines", "closed_lines", "closed_lines", s_closed_lines⟩,
  ⟨.g "next_thing", "next_thing", "next_thing", s_next_thing⟩,
  ⟨.g "_law_common", "_law_common", "_law_common", s__law_common⟩,
  ⟨.g "_law_rest", "_law_rest", "_law_rest", s__law_rest⟩,
  ⟨.g "law", "law", "law", s_law⟩]
def cfg : KH.Cfg where
  fn := fn0 ++ fn1
  ts := [("OTHER_KIND", ["|", "-"]), ("TURNS", ["", "|", "-"])]
  ex := fun K => ex0 K && (ex1 K && (ex2 K && true))
def nm0 : List PySem.Str := ["_wall", "__name__", "FloorError", "BadFloor", "BadThing", "BadPoint", "BadRay", "NoThing", "MOST_SIZE", "OTHER_KIND", "DOOR", "Floor", "shown_text", "common", "inverse_of", "Event", "Torus", "torus_of", "TURNS", "on_floor", "check_ray", "turn_at", "reversed_ray", "WAYS", "Line", "last_ray", "path_from", "path_line", "closed_line", "line_at"]
def nm1 : List PySem.Str := ["line_of", "lines_at", "ends_of", "paths", "following_places", "removed_paths", "count_of", "count_closed", "closed_lines", "Course", "next_thing", "run", "came_from", "exit_of", "_law_source", "_law_draw", "_law_shuffled", "_law_drawn_size", "_law_shut_point", "_law_drawn_things", "_law_drawn_ray", "_law_common", "_law_rest"]
def names : List PySem.Str := nm0 ++ nm1
abbrev RunAt (w : World) : Prop := HandSHeadRun.RunEq (PySem.W.OpenLaw.row PySem.Challenge.rw_farmirrors_k13_whole_plain_floors) (PySem.W.view (PySem.W.OpenLaw.row PySem.Challenge.rw_farmirrors_k13_whole_plain_floors).prog [59]) (KH.hookK cfg) (KH.obK cfg) 60000 names w
theorem run_f (w : World) : RunAt (w.withFollow "special-get-raises" false) := by
  intro os
  kernel_rfl
theorem run_t (w : World) : RunAt (w.withFollow "special-get-raises" true) := by
  intro os
  kernel_rfl
theorem run (w : World) : RunAt w := PySem.W.byRow2 "special-get-raises" (P := RunAt) run_f run_t w
end K

namespace K
open PySem L2 DL
local macro_rules | `(tactic| walk_at "w") => `(tactic| (conv => whnf))
local macro_rules | `(tactic| walk_at "at") => `(tactic| first | assumption | (refine SrcStep.get (l := ?l0) (n := ?n0) (S := ?s0) ?h1 ?h2 ?h3; (case h1 => assumption); (case h2 => omega); (case h3 => walk_at "at")) | (refine set_same (o := ?oo) ?sm; (case sm => walk_at "at")) | (refine set_other ?sm ?sn; (case sn => omega); (case sm => walk_at "at")) | (exact getElem_push _ _) | (refine app_left ?sm; (case sm => walk_at "at")) | rfl)
local macro_rules | `(tactic| walk_at "get") => `(tactic| (refine Exists.intro ?wit (And.intro ?gt ?_); (case gt => walk_at "at")))
local macro_rules | `(tactic| walk_at "bool") => `(tactic| (refine And.intro (fun hcond => ?_) (fun hcond => ?_) <;> (first | (exact absurd hcond (by decide)) | (simp only [decide_eq_true_eq, decide_eq_false_iff_not, Bool.not_eq_true', Bool.not_eq_false', Int.not_lt, Int.not_le, inD_nil, inD_int_cons, Bool.or_eq_true, Bool.or_eq_false_iff, Bool.or_false, ne_eq, Decidable.not_not] at hcond) | skip)))
local macro_rules | `(tactic| walk_at "len") => `(tactic| (refine line_le6 ?_; (try simp only [len_cat, len_e]); omega))
local macro_rules | `(tactic| walk_at "cond") => `(tactic| first | assumption | rfl | exact True.intro | omega | (exact Nat.le_of_ble_eq_true rfl) | (refine mulS ?cm1 ?cm2 <;> omega) | (refine divS ?cm1 <;> omega) | (refine And.intro ?cd1 ?cd2 <;> decide) | (exact line_le (Nat.le_of_ble_eq_true rfl)) | (exact line_lt (Nat.le_of_ble_eq_true rfl)) | (refine' Exists.intro _ (Exists.intro _ (And.intro rfl ?cm1)); (case cm1 => walk_at "at")) | (exact log_le (by omega)) | walk_at "len" | solve_by_elim | fail "no cond")
local macro_rules | `(tactic| walk_at "src") => `(tactic| first | assumption | (refine SrcStep.srcAt (S := ?ss) ?st; (case st => assumption)) | (refine SrcAt.app ?st; (case st => walk_at "src")))
local macro_rules | `(tactic| walk_at "draw") => `(tactic| (refine' Exists.intro _ (Exists.intro _ (Exists.intro ?nn (And.intro rfl (And.intro ?d1 (And.intro ?d2 (And.intro ?d3 (fun r S' h0 h1 hst => ?_))))))); (case d1 => walk_at "src"); (case d2 => omega); (case d3 => omega)))
local macro_rules | `(tactic| walk_at "steps") => `(tactic| first | assumption | (refine SrcStep.trans (n := ?sn) (S1 := ?sm) ?sx ?sy; (case sy => assumption); (case sx => walk_at "steps")) | (refine SrcAt.refl ?sz; assumption))
local macro_rules | `(tactic| walk_at "side") => `(tactic| (refine And.intro ?sd ?_; (case sd => walk_at "cond")))
local macro_rules | `(tactic| walk_at "go1") => `(tactic| (conv => whnf) <;> (first | walk_at "get" | walk_at "bool" | walk_at "draw" | walk_at "side" | fail "no step"))
local macro_rules | `(tactic| walk_at "go") => `(tactic| (repeat' (walk_at "go1")); (all_goals try (conv => whnf)))

theorem n__law_draw : ∀ ds S Q E, spDraw ds S Q E → ds.length = 2 := by
  rintro ds S Q E ⟨l, m, n, rfl, _⟩
  rfl
section
variable {P : Program} {w : World} {K : PySem.W.Frag} {mg : Str → Option Value} {base : Heap} {A : Ads} {B : Fds}
theorem ok__law_draw (T : Txt w K mg A B) : FnOk P w K mg base CX0 1 A.a_law_draw B.a_law_draw ["_law_source_here", "_law_bound"] (spOf K 2 spDraw) := by
  refine dfn_ok T.F__law_draw sc__law_draw n__law_draw (fun cdv A outer s H E hr => (ds_cons (ds_if (dt_cmp od_gt (de_ix ix_any (dv 0) de_int (fun _ _ => rfl)) de_int (nomark _)) (ds_cons (ds_set (i := 3) sc__law_draw.nd rfl (.inl rfl) (de_op od_mod (de_ix ix_any (dv 0) de_int (fun _ _ => rfl)) (dv 1)))
      (ds_cons (ds_asg (de_op od_div (de_ix ix_any (dv 0) de_int (fun _ _ => rfl)) (dv 1)) (dg_set (dv 0) de_int))
      (ds_one (ds_ret (dv 3))))) ds_nil)
      (ds_cons (ds_asg (de_op od_add (de_ix ix_any (dv 0) de_int (fun _ _ => rfl)) de_int) (dg_set (dv 0) de_int))
      (ds_cons (ds_set (i := 2) sc__law_draw.nd rfl (.inl rfl) (de_op od_mod (de_op od_pow (de_op od_add (de_ix ix_any (dv 0) de_int (fun _ _ => rfl)) (de_op od_mul de_int (de_ix ix_any (dv 0) de_int (fun _ _ => rfl)))) de_int) (de_op od_add (de_op od_pow de_int de_int) de_int)))
      (ds_cons (ds_set (i := 2) sc__law_draw.nd rfl (.inl rfl) (de_op od_mod (de_op od_pow (de_op od_add (dv 2) (de_op od_mul de_int (de_ix ix_any (dv 0) de_int (fun _ _ => rfl)))) de_int) (de_op od_add (de_op od_pow de_int de_int) de_int)))
      (ds_one (ds_ret (de_op od_mod (de_op od_div (dv 2) de_int) (dv 1))))))))) ?_
  rintro ds S Q E bd ⟨l, m, n, rfl, ⟨o, hl, ⟨a, b, c, rfl, ha, hb, hb2, hc, hcn⟩⟩, hn, ⟨hm, hm2⟩, q⟩
  have hd : ∀ i, CDivW i m := fun i => divW (b := 200) hm (abs_lt (by omega) hm2) (by decide) (by decide)
  obtain ⟨z1, z2, z3, z4⟩ := draw_sizes hb hb2 hc hcn hn
  have hlt : l < S.length := (List.getElem?_eq_some_iff.mp hl).1
  walk_at "go"
  · exact Rt.set (d := .int (a % m)) (o := .lst [.int (a / m), .int b, .int c]) trivial ⟨trivial, trivial, trivial, trivial⟩ (q _ _ (Int.emod_nonneg _ (by omega)) (Int.emod_lt_of_pos _ hm) ⟨_, hlt, ⟨_, b, c, rfl, Int.ediv_nonneg ha (by omega), hb, hb2, hc, by omega⟩, rfl⟩)
  · refine Rt.set (o := .lst [.int a, .int b, .int (c + 1)]) (d := .int _) trivial ⟨trivial, trivial, trivial, trivial⟩ (q _ _ (Int.emod_nonneg _ (by omega)) (Int.emod_lt_of_pos _ hm) ⟨_, hlt, ⟨a, b, _, rfl, ha, hb, hb2, Int.add_nonneg hc (by decide), ?_⟩, rfl⟩)
    show c + 1 ≤ ((n + 1 : Nat) : Int)
    omega
/-- a source's making -/
def spSource : DSp := fun ds S Q E => ∃ (ns : List Int) (i : Int), ds = [.scr ns, .int i] ∧ 0 ≤ i ∧ i < 1000 ∧ ∀ o, Src 0 o → Q (.loc S.length) (S ++ [o])
theorem n__law_source : ∀ ds S Q E, spSource ds S Q E → ds.length = 2 := by
  rintro ds S Q E ⟨ns, i, rfl, _⟩
  rfl
theorem ok__law_source (T : Txt w K mg A B) : FnOk P w K mg base CX0 1 A.a_law_source B.a_law_source ["_law_script", "_law_index"] (spOf K 2 spSource) := by
  refine dfn_ok T.F__law_source sc__law_source n__law_source (fun cdv A outer s H E hr => (ds_cons (ds_set (i := 2) sc__law_source.nd rfl (.inl rfl) de_int)
      (ds_cons (ds_mark 1 (ds_if (dt_cmp od_lt (dv 1) (de_callB cd_len rfl T.z_len (by decide +kernel) (da_cons (dv 0) da_nil)) (nomark _)) (ds_one (ds_set (i := 2) sc__law_source.nd rfl (.inl rfl) (de_ix ix_any (dv 0) (dv 1) (fun _ _ => rfl)))) ds_nil))
      (ds_one (ds_ret (de_lst (da_cons (de_callB (cd_max2 rfl) rfl T.z_max (by decide +kernel) (da_cons de_int (da_cons (de_op od_sub (dv 2) (de_op od_pow de_int de_int)) da_nil))) (da_cons (de_op od_add (de_op od_mod (dv 2) (de_op od_add (de_op od_pow de_int de_int) de_int)) (de_op od_mul de_int (dv 1))) (da_cons de_int da_nil))))))))) ?_
  rintro ds S Q E bd ⟨ns, i, rfl, h0, h1, q⟩
  have hm : CMulW 1299709 i := wide_mul (a := 21) (b := 20) (by decide) (by omega) (by decide) (by decide) (by decide)
  conv => whnf
  refine mark_join (fun ρ' S' => ∃ c : Int, ρ' = [some (.scr ns), some (.int i), some (.int c)] ∧ S' = S) (fun N hN => ?_) ?_
  · walk_at "go"
    · rename_i hc
      have hi : i.toNat < ns.length := by
        have : i < ((ns.map D.int).length : Int) := hc
        rw [List.length_map] at this
        omega
      refine ⟨.int ns[i.toNat], ?_, ?_⟩
      · have e := atI_nat (xs := ns.map D.int) (j := i.toNat) (v := .int ns[i.toNat]) (by rw [List.getElem?_map, List.getElem?_eq_getElem hi]; rfl)
        have e2 : ((i.toNat : Nat) : Int) = i := by omega
        rw [e2] at e
        exact e
      · exact hN _ _ ⟨_, rfl, rfl⟩
    · exact hN _ _ ⟨_, rfl, rfl⟩
  · rintro ρ' S' ⟨c, rfl, rfl⟩
    walk_at "go"
    have hc1 : 0 ≤ c % (10 ^ 37 + 43) := Int.emod_nonneg _ (by decide)
    have hc2 : c % (10 ^ 37 + 43) < 10 ^ 37 + 43 := Int.emod_lt_of_pos _ (by decide)
    have hc3 : (10 : Int) ^ 37 + 43 + 1299709 * 1000 < 2 ^ 200 := by decide
    refine Rt.loc (ob := .lst [.int _, .int (c % (10 ^ 37 + 43) + 1299709 * i), .int 0]) ⟨trivial, trivial, trivial, trivial⟩ (q _ ⟨_, _, _, rfl, ?_, ?_, ?_, by decide, by decide⟩)
    · split <;> omega
    · omega
    · omega
end
end K

namespace K
open PySem L2 DL
local macro_rules | `(tactic| walk_at "w") => `(tactic| (conv => whnf))
local macro_rules | `(tactic| walk_at "at") => `(tactic| first | assumption | (refine SrcStep.get (l := ?l0) (n := ?n0) (S := ?s0) ?h1 ?h2 ?h3; (case h1 => assumption); (case h2 => omega); (case h3 => walk_at "at")) | (refine set_same (o := ?oo) ?sm; (case sm => walk_at "at")) | (refine set_other ?sm ?sn; (case sn => omega); (case sm => walk_at "at")) | (exact getElem_push _ _) | (refine app_left ?sm; (case sm => walk_at "at")) | rfl)
local macro_rules | `(tactic| walk_at "get") => `(tactic| (refine Exists.intro ?wit (And.intro ?gt ?_); (case gt => walk_at "at")))
local macro_rules | `(tactic| walk_at "bool") => `(tactic| (refine And.intro (fun hcond => ?_) (fun hcond => ?_) <;> (first | (exact absurd hcond (by decide)) | (simp only [decide_eq_true_eq, decide_eq_false_iff_not, Bool.not_eq_true', Bool.not_eq_false', Int.not_lt, Int.not_le, inD_nil, inD_int_cons, Bool.or_eq_true, Bool.or_eq_false_iff, Bool.or_false, ne_eq, Decidable.not_not] at hcond) | skip)))
local macro_rules | `(tactic| walk_at "len") => `(tactic| (refine line_le6 ?_; (try simp only [len_cat, len_e]); omega))
local macro_rules | `(tactic| walk_at "cond") => `(tactic| first | assumption | rfl | exact True.intro | omega | (exact Nat.le_of_ble_eq_true rfl) | (refine mulS ?cm1 ?cm2 <;> omega) | (refine divS ?cm1 <;> omega) | (refine And.intro ?cd1 ?cd2 <;> decide) | (exact line_le (Nat.le_of_ble_eq_true rfl)) | (exact line_lt (Nat.le_of_ble_eq_true rfl)) | (refine' Exists.intro _ (Exists.intro _ (And.intro rfl ?cm1)); (case cm1 => walk_at "at")) | (exact log_le (by omega)) | walk_at "len" | solve_by_elim | fail "no cond")
local macro_rules | `(tactic| walk_at "src") => `(tactic| first | assumption | (refine SrcStep.srcAt (S := ?ss) ?st; (case st => assumption)) | (refine SrcAt.app ?st; (case st => walk_at "src")))
local macro_rules | `(tactic| walk_at "draw") => `(tactic| (refine' Exists.intro _ (Exists.intro _ (Exists.intro ?nn (And.intro rfl (And.intro ?d1 (And.intro ?d2 (And.intro ?d3 (fun r S' h0 h1 hst => ?_))))))); (case d1 => walk_at "src"); (case d2 => omega); (case d3 => omega)))
local macro_rules | `(tactic| walk_at "steps") => `(tactic| first | assumption | (refine SrcStep.trans (n := ?sn) (S1 := ?sm) ?sx ?sy; (case sy => assumption); (case sx => walk_at "steps")) | (refine SrcAt.refl ?sz; assumption))
local macro_rules | `(tactic| walk_at "side") => `(tactic| (refine And.intro ?sd ?_; (case sd => walk_at "cond")))
local macro_rules | `(tactic| walk_at "go1") => `(tactic| (conv => whnf) <;> (first | walk_at "get" | walk_at "bool" | walk_at "draw" | walk_at "side" | fail "no step"))
local macro_rules | `(tactic| walk_at "go") => `(tactic| (repeat' (walk_at "go1")); (all_goals try (conv => whnf)))

def spSize : DSp := fun ds S Q E => ∃ (l : Nat) (m : Int) (n : Nat), ds = [.loc l, .int m] ∧ SrcAt S l n ∧ n < 100000000 ∧ (1 ≤ m ∧ m ≤ 1000000000000000) ∧
  ∀ w h S', 1 ≤ w → 1 ≤ h → (w ≤ m ∨ w ≤ 12) → (h ≤ m ∨ h ≤ 12) → SrcStep l (n + 6) S S' → Q (.tup [.int w, .int h]) S'
theorem n__law_drawn_size : ∀ ds S Q E, spSize ds S Q E → ds.length = 2 := by
  rintro ds S Q E ⟨l, m, n, rfl, _⟩
  rfl
def SzI (l : Nat) (m : Int) (k : Nat) (S : Store) : Rho → Store → Prop := fun ρ' S' => ∃ (way w h : Int) (u : Option D), ρ' = [some (.loc l), some (.int m), some (.int way), some (.int w), some (.int h), u] ∧
  0 ≤ way ∧ way < 6 ∧ 1 ≤ w ∧ 1 ≤ h ∧ (w ≤ m ∨ w ≤ 12) ∧ (h ≤ m ∨ h ≤ 12) ∧ SrcStep l k S S'
theorem unit_mul {u x : Int} (hu : 1 ≤ u) (hu2 : u ≤ 12) (m : Int) (hx : 1 ≤ x) (hm : x ≤ m ∨ x ≤ 12) : 1 ≤ u * (if x / u > 1 then x / u else 1) ∧ (u * (if x / u > 1 then x / u else 1) ≤ m ∨ u * (if x / u > 1 then x / u else 1) ≤ 12) := by
  have h1 : u * (x / u) ≤ x := Int.mul_ediv_self_le (by omega)
  split
  · rename_i h
    refine ⟨?_, by omega⟩
    have : u * 1 ≤ u * (x / u) := Int.mul_le_mul_of_nonneg_left (by omega) (by omega)
    omega
  · rw [Int.mul_one]
    exact ⟨hu, Or.inr hu2⟩
theorem unit_wide {u x : Int} (hu : 1 ≤ u) (hu2 : u ≤ 12) (hx : 1 ≤ x) (hm : x ≤ 1000000000000000) : CMulW u (if x / u > 1 then x / u else 1) := by
  have h1 : x / u ≤ x := Int.ediv_le_self _ (by omega)
  refine wide_mul (a := 5) (b := 60) (by omega) ?_ (by decide) (by decide) (by decide)
  split <;> omega
section
variable {P : Program} {w : World} {K : PySem.W.Frag} {mg : Str → Option Value} {base : Heap} {A : Ads} {B : Fds}
theorem ok__law_drawn_size (T : Txt w K mg A B) : FnOk P w K mg base CX0 2 A.a_law_drawn_size B.a_law_drawn_size ["_law_source_here", "_law_most"] (spOf K 2 spSize) := by
  refine dfn_ok T.F__law_drawn_size sc__law_drawn_size n__law_drawn_size (fun cdv A outer s H E hr => (ds_cons (ds_set (i := 2) sc__law_drawn_size.nd rfl (.inl rfl) (de_call (ok__law_draw T) (hr.mono (by decide)) rfl T.g__law_draw T.k__law_draw T.b__law_draw .nil rpl_nil pass0 n__law_draw (da_cons (dv 0) (da_cons de_int da_nil))))
      (ds_cons (ds_par (i := 3) (j := 4) rfl sc__law_drawn_size.nd rfl rfl (by decide) rfl rfl (da_cons (de_op od_add de_int (de_call (ok__law_draw T) (hr.mono (by decide)) rfl T.g__law_draw T.k__law_draw T.b__law_draw .nil rpl_nil pass0 n__law_draw (da_cons (dv 0) (da_cons (dv 1) da_nil)))) (da_cons (de_op od_add de_int (de_call (ok__law_draw T) (hr.mono (by decide)) rfl T.g__law_draw T.k__law_draw T.b__law_draw .nil rpl_nil pass0 n__law_draw (da_cons (dv 0) (da_cons (dv 1) da_nil)))) da_nil)) (by rfl))
      (ds_cons (ds_mark 1 (ds_if (dt_cmp od_eqI (dv 2) de_int (nomark _)) (ds_one (ds_set (i := 4) sc__law_drawn_size.nd rfl (.inl rfl) (dv 3))) ds_nil))
      (ds_cons (ds_mark 2 (ds_if (dt_cmp od_eqI (dv 2) de_int (nomark _)) (ds_one (ds_set (i := 4) sc__law_drawn_size.nd rfl (.inl rfl) (de_callB (cd_max2 rfl) rfl T.z_max (by decide +kernel) (da_cons de_int (da_cons (de_op od_div (dv 3) (de_op od_add de_int (de_call (ok__law_draw T) (hr.mono (by decide)) rfl T.g__law_draw T.k__law_draw T.b__law_draw .nil rpl_nil pass0 n__law_draw (da_cons (dv 0) (da_cons de_int da_nil))))) da_nil))))) ds_nil))
      (ds_cons (ds_mark 3 (ds_if (dt_cmp od_eqI (dv 2) de_int (nomark _)) (ds_one (ds_set (i := 3) sc__law_drawn_size.nd rfl (.inl rfl) de_int)) ds_nil))
      (ds_cons (ds_mark 4 (ds_if (dt_cmp od_eqI (dv 2) de_int (nomark _)) (ds_one (ds_set (i := 4) sc__law_drawn_size.nd rfl (.inl rfl) (de_op od_add de_int (de_call (ok__law_draw T) (hr.mono (by decide)) rfl T.g__law_draw T.k__law_draw T.b__law_draw .nil rpl_nil pass0 n__law_draw (da_cons (dv 0) (da_cons de_int da_nil)))))) ds_nil))
      (ds_cons (ds_mark 5 (ds_if (dt_cmp od_eqI (dv 2) de_int (nomark _)) (ds_cons (ds_set (i := 5) sc__law_drawn_size.nd rfl (.inl rfl) (de_op od_add de_int (de_call (ok__law_draw T) (hr.mono (by decide)) rfl T.g__law_draw T.k__law_draw T.b__law_draw .nil rpl_nil pass0 n__law_draw (da_cons (dv 0) (da_cons de_int da_nil)))))
      (ds_one (ds_par (i := 3) (j := 4) rfl sc__law_drawn_size.nd rfl rfl (by decide) rfl rfl (da_cons (de_op od_mul (dv 5) (de_callB (cd_max2 rfl) rfl T.z_max (by decide +kernel) (da_cons de_int (da_cons (de_op od_div (dv 3) (dv 5)) da_nil)))) (da_cons (de_op od_mul (dv 5) (de_callB (cd_max2 rfl) rfl T.z_max (by decide +kernel) (da_cons de_int (da_cons (de_op od_div (dv 4) (dv 5)) da_nil)))) da_nil)) (by rfl)))) ds_nil))
      (ds_one (ds_ret (de_tup (da_cons (dv 3) (da_cons (dv 4) da_nil))))))))))))) ?_
  rintro ds S Q E bd ⟨l, m, n, rfl, hs, hn, ⟨hm1, hm2⟩, q⟩
  walk_at "go"
  rename_i way S1 a1 a2 st1 wd S2 b1 b2 st2 ht S3 c1 c2 st3
  refine mark_join (SzI l m (n + 3) S) (fun N hN => ?_) ?_
  · walk_at "go"
    · exact hN _ _ ⟨way, _, _, none, rfl, by omega, by omega, by omega, by omega, by omega, by omega, by walk_at "steps"⟩
    · exact hN _ _ ⟨way, _, _, none, rfl, by omega, by omega, by omega, by omega, by omega, by omega, by walk_at "steps"⟩
  clear st1 st2 st3 a1 a2 b1 b2 c1 c2
  rintro ρ' S1 ⟨way, w, h, u, rfl, e1, e2, e3, e4, e5, e6, st⟩
  walk_at "go"
  refine mark_join (SzI l m (n + 4) S) (fun N hN => ?_) ?_
  · walk_at "go"
    · rename_i r S2 f1 f2 st2
      have hd : w / (1 + r) ≤ w := Int.ediv_le_self _ (by omega)
      exact hN _ _ ⟨way, _, _, u, rfl, by omega, by omega, by omega, by (show 1 ≤ if w / (1 + r) > 1 then w / (1 + r) else 1); split <;> omega, by omega, by (show (if w / (1 + r) > 1 then w / (1 + r) else 1) ≤ m ∨ (if w / (1 + r) > 1 then w / (1 + r) else 1) ≤ 12); split <;> omega, by walk_at "steps"⟩
    · exact hN _ _ ⟨way, _, _, u, rfl, by omega, by omega, by omega, by omega, by omega, by omega, st.mono (by omega)⟩
  clear st e1 e2 e3 e4 e5 e6
  rintro ρ' S2 ⟨way, w, h, u, rfl, e1, e2, e3, e4, e5, e6, st⟩
  walk_at "go"
  refine mark_join (SzI l m (n + 4) S) (fun N hN => ?_) ?_
  · walk_at "go"
    · exact hN _ _ ⟨way, _, _, u, rfl, by omega, by omega, by omega, by omega, by omega, by omega, st⟩
    · exact hN _ _ ⟨way, _, _, u, rfl, by omega, by omega, by omega, by omega, by omega, by omega, st⟩
  clear st e1 e2 e3 e4 e5 e6
  rintro ρ' S2 ⟨way, w, h, u, rfl, e1, e2, e3, e4, e5, e6, st⟩
  walk_at "go"
  refine mark_join (SzI l m (n + 5) S) (fun N hN => ?_) ?_
  · walk_at "go"
    · exact hN _ _ ⟨way, _, _, u, rfl, by omega, by omega, by omega, by omega, by omega, by omega, by walk_at "steps"⟩
    · exact hN _ _ ⟨way, _, _, u, rfl, by omega, by omega, by omega, by omega, by omega, by omega, st.mono (by omega)⟩
  clear st e1 e2 e3 e4 e5 e6
  rintro ρ' S2 ⟨way, w, h, u, rfl, e1, e2, e3, e4, e5, e6, st⟩
  walk_at "go"
  refine mark_join (SzI l m (n + 6) S) (fun N hN => ?_) ?_
  · walk_at "go"
    · rename_i r S3 f1 f2 st2
      have hdv : ∀ x, CDivW x (1 + r) := fun x => divW (b := 10) (by omega) (by omega) (by decide) (by decide)
      have hw := unit_mul (u := 1 + r) (by omega) (by omega) m e3 e5
      have hh := unit_mul (u := 1 + r) (by omega) (by omega) m e4 e6
      have ww := unit_wide (u := 1 + r) (by omega) (by omega) e3 (by omega)
      have wh := unit_wide (u := 1 + r) (by omega) (by omega) e4 (by omega)
      walk_at "go"
      exact hN _ _ ⟨way, _, _, _, rfl, by omega, by omega, hw.1, hh.1, hw.2, hh.2, by walk_at "steps"⟩
    · exact hN _ _ ⟨way, _, _, u, rfl, by omega, by omega, by omega, by omega, by omega, by omega, st.mono (by omega)⟩
  clear st e1 e2 e3 e4 e5 e6
  rintro ρ' S2 ⟨way, w, h, u, rfl, e1, e2, e3, e4, e5, e6, st⟩
  walk_at "go"
  exact Rt.src st ⟨trivial, trivial, trivial⟩ (q w h S2 e3 e4 e5 e6 st)
end
end K

namespace K
open PySem L2 DL
local macro_rules | `(tactic| walk_at "w") => `(tactic| (conv => whnf))
local macro_rules | `(tactic| walk_at "at") => `(tactic| first | assumption | (refine SrcStep.get (l := ?l0) (n := ?n0) (S := ?s0) ?h1 ?h2 ?h3; (case h1 => assumption); (case h2 => omega); (case h3 => walk_at "at")) | (refine set_same (o := ?oo) ?sm; (case sm => walk_at "at")) | (refine set_other ?sm ?sn; (case sn => omega); (case sm => walk_at "at")) | (exact getElem_push _ _) | (refine app_left ?sm; (case sm => walk_at "at")) | rfl)
local macro_rules | `(tactic| walk_at "get") => `(tactic| (refine Exists.intro ?wit (And.intro ?gt ?_); (case gt => walk_at "at")))
local macro_rules | `(tactic| walk_at "bool") => `(tactic| (refine And.intro (fun hcond => ?_) (fun hcond => ?_) <;> (first | (exact absurd hcond (by decide)) | (simp only [decide_eq_true_eq, decide_eq_false_iff_not, Bool.not_eq_true', Bool.not_eq_false', Int.not_lt, Int.not_le, inD_nil, inD_int_cons, Bool.or_eq_true, Bool.or_eq_false_iff, Bool.or_false, ne_eq, Decidable.not_not] at hcond) | skip)))
local macro_rules | `(tactic| walk_at "len") => `(tactic| (refine line_le6 ?_; (try simp only [len_cat, len_e]); omega))
local macro_rules | `(tactic| walk_at "cond") => `(tactic| first | assumption | rfl | exact True.intro | omega | (exact Nat.le_of_ble_eq_true rfl) | (refine mulS ?cm1 ?cm2 <;> omega) | (refine divS ?cm1 <;> omega) | (refine And.intro ?cd1 ?cd2 <;> decide) | (exact line_le (Nat.le_of_ble_eq_true rfl)) | (exact line_lt (Nat.le_of_ble_eq_true rfl)) | (refine' Exists.intro _ (Exists.intro _ (And.intro rfl ?cm1)); (case cm1 => walk_at "at")) | (exact log_le (by omega)) | walk_at "len" | solve_by_elim | fail "no cond")
local macro_rules | `(tactic| walk_at "src") => `(tactic| first | assumption | (refine SrcStep.srcAt (S := ?ss) ?st; (case st => assumption)) | (refine SrcAt.app ?st; (case st => walk_at "src")))
local macro_rules | `(tactic| walk_at "draw") => `(tactic| (refine' Exists.intro _ (Exists.intro _ (Exists.intro ?nn (And.intro rfl (And.intro ?d1 (And.intro ?d2 (And.intro ?d3 (fun r S' h0 h1 hst => ?_))))))); (case d1 => walk_at "src"); (case d2 => omega); (case d3 => omega)))
local macro_rules | `(tactic| walk_at "steps") => `(tactic| first | assumption | (refine SrcStep.trans (n := ?sn) (S1 := ?sm) ?sx ?sy; (case sy => assumption); (case sx => walk_at "steps")) | (refine SrcAt.refl ?sz; assumption))
local macro_rules | `(tactic| walk_at "side") => `(tactic| (refine And.intro ?sd ?_; (case sd => walk_at "cond")))
local macro_rules | `(tactic| walk_at "go1") => `(tactic| (conv => whnf) <;> (first | walk_at "get" | walk_at "bool" | walk_at "draw" | walk_at "side" | fail "no step"))
local macro_rules | `(tactic| walk_at "go") => `(tactic| (repeat' (walk_at "go1")); (all_goals try (conv => whnf)))

def sizeD (w h : Int) : D := .tup [.int w, .int h]
def Wall (w h x y : Int) : Prop := ((x = 0 ∨ x = 2 * w) ∧ 0 ≤ y ∧ y ≤ 2 * h ∧ y % 2 = 1) ∨ ((y = 0 ∨ y = 2 * h) ∧ 0 ≤ x ∧ x ≤ 2 * w ∧ x % 2 = 1)
def spShut : DSp := fun ds S Q E => ∃ (l : Nat) (w h : Int) (n : Nat), ds = [.loc l, sizeD w h] ∧ SrcAt S l n ∧ n < 100000000 ∧ (1 ≤ w ∧ w ≤ 1000000000000000 ∧ 1 ≤ h ∧ h ≤ 1000000000000000) ∧
  ∀ x y S', Wall w h x y → SrcStep l (n + 3) S S' → Q (.tup [.int x, .int y]) S'
theorem n__law_shut_point : ∀ ds S Q E, spShut ds S Q E → ds.length = 2 := by
  rintro ds S Q E ⟨l, w, h, n, rfl, _⟩
  rfl
structure RayOk (w h x y dx dy : Int) : Prop where
  x0 : 0 ≤ x
  x1 : x ≤ 2 * w
  y0 : 0 ≤ y
  y1 : y ≤ 2 * h
  odd : (x + y) % 2 = 1
  hdx : dx = 1 ∨ dx = -1
  hdy : dy = 1 ∨ dy = -1
  a0 : 0 ≤ x + dx
  a1 : x + dx ≤ 2 * w
  b0 : 0 ≤ y + dy
  b1 : y + dy ≤ 2 * h
def rayD (x y dx dy : Int) : D := .tup [.int x, .int y, .int dx, .int dy]
def spRay : DSp := fun ds S Q E => ∃ (l : Nat) (w h : Int) (n : Nat), ds = [.loc l, sizeD w h] ∧ SrcAt S l n ∧ n < 100000000 ∧ (1 ≤ w ∧ w ≤ 1000000000000000 ∧ 1 ≤ h ∧ h ≤ 1000000000000000) ∧
  ∀ x y dx dy S', RayOk w h x y dx dy → SrcStep l (n + 4) S S' → Q (rayD x y dx dy) S'
theorem n__law_drawn_ray : ∀ ds S Q E, spRay ds S Q E → ds.length = 2 := by
  rintro ds S Q E ⟨l, w, h, n, rfl, _⟩
  rfl
section
variable {P : Program} {w : World} {K : PySem.W.Frag} {mg : Str → Option Value} {base : Heap} {A : Ads} {B : Fds}
theorem ok__law_drawn_ray (T : Txt w K mg A B) : FnOk P w K mg base CX0 2 A.a_law_drawn_ray B.a_law_drawn_ray ["_law_source_here", "_law_size"] (spOf K 2 spRay) := by
  refine dfn_ok T.F__law_drawn_ray sc__law_drawn_ray n__law_drawn_ray (fun cdv A outer s H E hr => (ds_cons (ds_asg (dv 1) (dg_tup (n := 2) rfl (dgs_cons (dg_name (i := 2) sc__law_drawn_ray.nd rfl (.inl rfl)) (dgs_cons (dg_name (i := 3) sc__law_drawn_ray.nd rfl (.inl rfl)) dgs_nil))))
      (ds_cons (ds_par (i := 4) (j := 5) rfl sc__law_drawn_ray.nd rfl rfl (by decide) rfl rfl (da_cons (de_call (ok__law_draw T) (hr.mono (by decide)) rfl T.g__law_draw T.k__law_draw T.b__law_draw .nil rpl_nil pass0 n__law_draw (da_cons (dv 0) (da_cons (de_op od_add (de_op od_mul de_int (dv 2)) de_int) da_nil))) (da_cons (de_call (ok__law_draw T) (hr.mono (by decide)) rfl T.g__law_draw T.k__law_draw T.b__law_draw .nil rpl_nil pass0 n__law_draw (da_cons (dv 0) (da_cons (de_op od_add (de_op od_mul de_int (dv 3)) de_int) da_nil))) da_nil)) (by rfl))
      (ds_cons (ds_mark 1 (ds_if (dt_cmp od_eqI (de_op od_mod (de_op od_add (dv 4) (dv 5)) de_int) de_int (nomark _)) (ds_one (ds_set (i := 4) sc__law_drawn_ray.nd rfl (.inl rfl) (de_ifExp (dt_cmp od_lt (dv 4) (de_op od_mul de_int (dv 2)) (nomark _)) (de_op od_add (dv 4) de_int) (de_op od_sub (dv 4) de_int)))) ds_nil))
      (ds_cons (ds_par (i := 6) (j := 7) rfl sc__law_drawn_ray.nd rfl rfl (by decide) rfl rfl (da_cons (de_op od_sub (de_op od_mul de_int (de_call (ok__law_draw T) (hr.mono (by decide)) rfl T.g__law_draw T.k__law_draw T.b__law_draw .nil rpl_nil pass0 n__law_draw (da_cons (dv 0) (da_cons de_int da_nil)))) de_int) (da_cons (de_op od_sub (de_op od_mul de_int (de_call (ok__law_draw T) (hr.mono (by decide)) rfl T.g__law_draw T.k__law_draw T.b__law_draw .nil rpl_nil pass0 n__law_draw (da_cons (dv 0) (da_cons de_int da_nil)))) de_int) da_nil)) (by rfl))
      (ds_cons (ds_mark 2 (ds_if (dt_cmp od_inT (dv 4) (de_tup (da_cons de_int (da_cons (de_op od_mul de_int (dv 2)) da_nil))) (by rfl)) (ds_one (ds_set (i := 6) sc__law_drawn_ray.nd rfl (.inl rfl) (de_ifExp (dt_cmp od_eqI (dv 4) de_int (nomark _)) de_int (de_neg de_int)))) ds_nil))
      (ds_cons (ds_mark 3 (ds_if (dt_cmp od_inT (dv 5) (de_tup (da_cons de_int (da_cons (de_op od_mul de_int (dv 3)) da_nil))) (by rfl)) (ds_one (ds_set (i := 7) sc__law_drawn_ray.nd rfl (.inl rfl) (de_ifExp (dt_cmp od_eqI (dv 5) de_int (nomark _)) de_int (de_neg de_int)))) ds_nil))
      (ds_one (ds_ret (de_tup (da_cons (dv 4) (da_cons (dv 5) (da_cons (dv 6) (da_cons (dv 7) da_nil)))))))))))))) ?_
  rintro ds S Q E bd ⟨l, w, h, n, rfl, hs, hn, ⟨hw1, hw2, hh1, hh2⟩, q⟩
  walk_at "go"
  rename_i x0 S1 a1 a2 st1 y S2 b1 b2 st2
  refine mark_join (fun ρ' S' => ∃ x : Int, ρ' = [some (.loc l), some (sizeD w h), some (.int w), some (.int h), some (.int x), some (.int y), none, none] ∧ 0 ≤ x ∧ x ≤ 2 * w ∧ (x + y) % 2 = 1 ∧ S' = S2) (fun N hN => ?_) ?_
  · walk_at "go"
    · exact hN _ _ ⟨_, rfl, by omega, by omega, by omega, rfl⟩
    · exact hN _ _ ⟨_, rfl, by omega, by omega, by omega, rfl⟩
    · exact hN _ _ ⟨_, rfl, by omega, by omega, by omega, rfl⟩
  rintro ρ' S' ⟨x, rfl, e1, e2, e3, rfl⟩
  walk_at "go"
  rename_i r S3 c1 c2 st3 r2 S4 d1 d2 st4
  refine mark_join (fun ρ' S' => ∃ dx : Int, ρ' = [some (.loc l), some (sizeD w h), some (.int w), some (.int h), some (.int x), some (.int y), some (.int dx), some (.int (2 * r2 - 1))] ∧ (dx = 1 ∨ dx = -1) ∧ 0 ≤ x + dx ∧ x + dx ≤ 2 * w ∧ S' = S4) (fun N hN => ?_) ?_
  · walk_at "go"
    · exact hN _ _ ⟨_, rfl, by omega, by omega, by omega, rfl⟩
    · exact hN _ _ ⟨_, rfl, by omega, by omega, by omega, rfl⟩
    · exact hN _ _ ⟨_, rfl, by omega, by omega, by omega, rfl⟩
  rintro ρ' S5 ⟨dx, rfl, f1, f2, f3, rfl⟩
  walk_at "go"
  refine mark_join (fun ρ' S' => ∃ dy : Int, ρ' = [some (.loc l), some (sizeD w h), some (.int w), some (.int h), some (.int x), some (.int y), some (.int dx), some (.int dy)] ∧ (dy = 1 ∨ dy = -1) ∧ 0 ≤ y + dy ∧ y + dy ≤ 2 * h ∧ S' = S5) (fun N hN => ?_) ?_
  · walk_at "go"
    · exact hN _ _ ⟨_, rfl, by omega, by omega, by omega, rfl⟩
    · exact hN _ _ ⟨_, rfl, by omega, by omega, by omega, rfl⟩
    · exact hN _ _ ⟨_, rfl, by omega, by omega, by omega, rfl⟩
  rintro ρ' S6 ⟨dy, rfl, g1, g2, g3, rfl⟩
  walk_at "go"
  have st : SrcStep l (n + 4) S S6 := by walk_at "steps"
  exact Rt.src (d := rayD x y dx dy) st ⟨trivial, trivial, trivial, trivial, trivial⟩ (q _ _ _ _ S6 ⟨e1, e2, by omega, by omega, e3, f1, g1, f2, f3, g2, g3⟩ st)
end
end K

namespace K
open PySem L2 DL
local macro_rules | `(tactic| walk_at "w") => `(tactic| (conv => whnf))
local macro_rules | `(tactic| walk_at "at") => `(tactic| first | assumption | (refine SrcStep.get (l := ?l0) (n := ?n0) (S := ?s0) ?h1 ?h2 ?h3; (case h1 => assumption); (case h2 => omega); (case h3 => walk_at "at")) | (refine set_same (o := ?oo) ?sm; (case sm => walk_at "at")) | (refine set_other ?sm ?sn; (case sn => omega); (case sm => walk_at "at")) | (exact getElem_push _ _) | (refine app_left ?sm; (case sm => walk_at "at")) | rfl)
local macro_rules | `(tactic| walk_at "get") => `(tactic| (refine Exists.intro ?wit (And.intro ?gt ?_); (case gt => walk_at "at")))
local macro_rules | `(tactic| walk_at "bool") => `(tactic| (refine And.intro (fun hcond => ?_) (fun hcond => ?_) <;> (first | (exact absurd hcond (by decide)) | (simp only [decide_eq_true_eq, decide_eq_false_iff_not, Bool.not_eq_true', Bool.not_eq_false', Int.not_lt, Int.not_le, inD_nil, inD_int_cons, Bool.or_eq_true, Bool.or_eq_false_iff, Bool.or_false, ne_eq, Decidable.not_not] at hcond) | skip)))
local macro_rules | `(tactic| walk_at "len") => `(tactic| (refine line_le6 ?_; (try simp only [len_cat, len_e]); omega))
local macro_rules | `(tactic| walk_at "cond") => `(tactic| first | assumption | rfl | exact True.intro | omega | (exact Nat.le_of_ble_eq_true rfl) | (refine mulS ?cm1 ?cm2 <;> omega) | (refine divS ?cm1 <;> omega) | (refine And.intro ?cd1 ?cd2 <;> decide) | (exact line_le (Nat.le_of_ble_eq_true rfl)) | (exact line_lt (Nat.le_of_ble_eq_true rfl)) | (refine' Exists.intro _ (Exists.intro _ (And.intro rfl ?cm1)); (case cm1 => walk_at "at")) | (exact log_le (by omega)) | walk_at "len" | solve_by_elim | fail "no cond")
local macro_rules | `(tactic| walk_at "src") => `(tactic| first | assumption | (refine SrcStep.srcAt (S := ?ss) ?st; (case st => assumption)) | (refine SrcAt.app ?st; (case st => walk_at "src")))
local macro_rules | `(tactic| walk_at "draw") => `(tactic| (refine' Exists.intro _ (Exists.intro _ (Exists.intro ?nn (And.intro rfl (And.intro ?d1 (And.intro ?d2 (And.intro ?d3 (fun r S' h0 h1 hst => ?_))))))); (case d1 => walk_at "src"); (case d2 => omega); (case d3 => omega)))
local macro_rules | `(tactic| walk_at "steps") => `(tactic| first | assumption | (refine SrcStep.trans (n := ?sn) (S1 := ?sm) ?sx ?sy; (case sy => assumption); (case sx => walk_at "steps")) | (refine SrcAt.refl ?sz; assumption))
local macro_rules | `(tactic| walk_at "side") => `(tactic| (refine And.intro ?sd ?_; (case sd => walk_at "cond")))
local macro_rules | `(tactic| walk_at "go1") => `(tactic| (conv => whnf) <;> (first | walk_at "get" | walk_at "bool" | walk_at "draw" | walk_at "side" | fail "no step"))
local macro_rules | `(tactic| walk_at "go") => `(tactic| (repeat' (walk_at "go1")); (all_goals try (conv => whnf)))

def TwoAt (l m : Nat) (S : Store) (a b : Ob) (S' : Store) : Prop := ∃ S0 X, SrcStep l m S S0 ∧ S' = S0 ++ (a :: b :: X)
theorem SrcStep.app {l m : Nat} {S0 X S' : Store} (hl : l < S0.length) (h : SrcStep l m (S0 ++ X) S') : ∃ S1, SrcStep l m S0 S1 ∧ S' = S1 ++ X := by
  obtain ⟨o, h1, h2, rfl⟩ := h
  exact ⟨S0.set l o, ⟨o, hl, h2, rfl⟩, List.set_append_left _ _ hl⟩
section
variable {l m m' : Nat} {S S' S'' Y : Store} {a b c : Ob}
theorem TwoAt.lt (t : TwoAt l m S a b S') : l < S.length := by
  obtain ⟨S0, X, ⟨o, h, _, rfl⟩, rfl⟩ := t
  exact h
theorem TwoAt.len (t : TwoAt l m S a b S') : S.length + 2 ≤ S'.length := by
  obtain ⟨S0, X, h, rfl⟩ := t
  rw [List.length_append, h.len, List.length_cons, List.length_cons]; omega
theorem TwoAt.srcAt (t : TwoAt l m S a b S') : SrcAt S' l m := by
  have hl := t.lt
  obtain ⟨S0, X, h, rfl⟩ := t
  obtain ⟨o, e, q⟩ := h.srcAt
  exact ⟨o, by rw [List.getElem?_append_left (by rw [h.len]; exact hl)]; exact e, q⟩
theorem TwoAt.fst (t : TwoAt l m S a b S') : S'[S.length]? = some a := by
  obtain ⟨S0, X, h, rfl⟩ := t
  rw [← h.len, List.getElem?_append_right (Nat.le_refl _), Nat.sub_self]; rfl
theorem TwoAt.snd (t : TwoAt l m S a b S') : S'[S.length + 1]? = some b := by
  obtain ⟨S0, X, h, rfl⟩ := t
  rw [← h.len, List.getElem?_append_right (by omega), show S0.length + 1 - S0.length = 1 by omega]; rfl
theorem TwoAt.step (t : TwoAt l m S a b S') (h : SrcStep l m' S' S'') : TwoAt l m' S a b S'' := by
  have hl := t.lt
  obtain ⟨S0, X, h0, rfl⟩ := t
  obtain ⟨S1, h1, rfl⟩ := SrcStep.app (by rw [h0.len]; exact hl) h
  exact ⟨S1, X, h0.trans h1, rfl⟩
theorem TwoAt.push (t : TwoAt l m S a b S') : TwoAt l m S a b (S' ++ Y) := by
  obtain ⟨S0, X, h0, rfl⟩ := t
  exact ⟨S0, X ++ Y, h0, by rw [List.append_assoc]; rfl⟩
theorem TwoAt.set1 (t : TwoAt l m S a b S') : TwoAt l m S c b (S'.set S.length c) := by
  obtain ⟨S0, X, h0, rfl⟩ := t
  refine ⟨S0, X, h0, ?_⟩
  rw [← h0.len, List.set_append_right _ _ (Nat.le_refl _), Nat.sub_self]; rfl
theorem TwoAt.set2 (t : TwoAt l m S a b S') : TwoAt l m S a c (S'.set (S.length + 1) c) := by
  obtain ⟨S0, X, h0, rfl⟩ := t
  refine ⟨S0, X, h0, ?_⟩
  rw [← h0.len, List.set_append_right _ _ (by omega), show S0.length + 1 - S0.length = 1 by omega]; rfl
theorem TwoAt.mono (t : TwoAt l m S a b S') (h : m ≤ m') : TwoAt l m' S a b S' := by
  obtain ⟨S0, X, h0, rfl⟩ := t
  exact ⟨S0, X, h0.mono h, rfl⟩
end
local macro_rules | `(tactic| walk_at "two") => `(tactic| first | assumption | (refine TwoAt.step (m := ?ma) (S' := ?sa) ?st ?sh; (case sh => assumption); (case st => walk_at "two")) | (refine TwoAt.push ?st; (case st => walk_at "two")))
local macro_rules | `(tactic| walk_at "tw") => `(tactic| (refine TwoAt.mono (m := ?mz) ?h1 ?h2; (case h1 => walk_at "two"); (case h2 => omega)))
structure Th where
  x : Int
  y : Int
  kind : Str
def Th.pt (t : Th) : D := .tup [.int t.x, .int t.y]
def Th.d (t : Th) : D := .tup [.int t.x, .int t.y, .str t.kind]
def Th.Ok (w h : Int) (t : Th) : Prop := ((t.kind = "|" ∨ t.kind = "-") ∧ 0 < t.x ∧ t.x < 2 * w ∧ 0 < t.y ∧ t.y < 2 * h ∧ (t.x + t.y) % 2 = 1) ∨ (t.kind = "o" ∧ Wall w h t.x t.y)
structure ThsOk (w h : Int) (ts : List Th) : Prop where
  all : ∀ t ∈ ts, t.Ok w h
  nd : (ts.map fun t => (t.x, t.y)).Nodup
def spThings : DSp := fun ds S Q E => ∃ (l : Nat) (w h m dr : Int) (n : Nat), ds = [.loc l, sizeD w h, .int m, .int dr] ∧ SrcAt S l n ∧ n < 50000000 ∧ (1 ≤ w ∧ w ≤ 1000000000000000 ∧ 1 ≤ h ∧ h ≤ 1000000000000000) ∧ (0 ≤ m ∧ m ≤ 100) ∧ (0 ≤ dr ∧ dr ≤ 1000) ∧
  ∀ (ts : List Th) S', ThsOk w h ts → (ts.length : Int) ≤ m → SrcStep l (n + 1400) S S' → Q (.tup (ts.map Th.d)) S'
theorem n__law_drawn_things : ∀ ds S Q E, spThings ds S Q E → ds.length = 4 := by
  rintro ds S Q E ⟨l, w, h, m, dr, n, rfl, _⟩
  rfl
theorem pt_eqv (x y a b : Int) : PyData.eqv (py (.tup [.int x, .int y])) (py (.tup [.int a, .int b])) = decide (x = a ∧ y = b) := by
  show ((x == a) && ((y == b) && true)) = _
  rw [Bool.and_true, Bool.decide_and, Bool.beq_eq_decide_eq, Bool.beq_eq_decide_eq]
theorem pts_in (x y : Int) (ts : List Th) : inD (.tup [.int x, .int y]) (ts.map Th.pt) = decide ((x, y) ∈ ts.map fun t => (t.x, t.y)) := by
  induction ts with
  | nil => rfl
  | cons t r ih =>
    show (PyData.eqv (py t.pt) (py (.tup [.int x, .int y])) || inD _ (r.map Th.pt)) = _
    rw [ih]
    unfold Th.pt
    rw [pt_eqv, ← Bool.decide_or]
    apply decide_eq_decide.mpr
    rw [List.map_cons, List.mem_cons, Prod.mk.injEq]
    constructor
    · rintro (⟨h1, h2⟩ | h)
      · exact Or.inl ⟨h1.symm, h2.symm⟩
      · exact Or.inr h
    · rintro (⟨h1, h2⟩ | h)
      · exact Or.inl ⟨h1.symm, h2.symm⟩
      · exact Or.inr h
theorem th_add {w h x y : Int} {kd : Str} {ts : List Th} (ok : ThsOk w h ts) (hk : ((kd = "|" ∨ kd = "-") ∧ (x + y) % 2 = 1) ∨ (kd = "o" ∧ Wall w h x y)) (hn : inD (.tup [.int x, .int y]) (ts.map Th.pt) = false)
    (hi : (0 < x ∧ x < 2 * w ∧ 0 < y ∧ y < 2 * h) ∨ kd = Str.ofString "o") : ThsOk w h (ts ++ [⟨x, y, kd⟩]) := by
  refine ⟨fun t ht => ?_, ?_⟩
  · rcases List.mem_append.mp ht with ht | ht
    · exact ok.all t ht
    · rw [List.mem_singleton] at ht
      subst ht
      rcases hk with ⟨h1, h2⟩ | h1
      · refine Or.inl ⟨h1, ?_⟩
        rcases hi with ⟨a, b, c, d⟩ | e
        · exact ⟨a, b, c, d, h2⟩
        · subst e
          exact absurd h1 (by decide)
      · exact Or.inr h1
  · rw [List.map_append]
    refine List.nodup_append.mpr ⟨ok.nd, by simp, ?_⟩
    rw [pts_in] at hn
    have hn := of_decide_eq_false hn
    intro a ha b hb e
    rw [List.map_cons, List.map_nil, List.mem_singleton] at hb
    subst hb
    subst e
    exact hn ha
theorem pts_ends {ts : List Th} (h : PyData.eqv (py (.lst (ts.map Th.pt))) (py (.lst [])) = false) : ∃ t t' : Th, atI (ts.map Th.pt) (-1) = some t.pt ∧ atI (ts.map Th.pt) 0 = some t'.pt := by
  rcases List.eq_nil_or_concat ts with rfl | ⟨r, x, rfl⟩
  · exact absurd h (by decide +kernel)
  · obtain ⟨y, r', e⟩ := List.exists_cons_of_ne_nil (l := r ++ [x]) (by simp)
    refine ⟨x, y, ?_, ?_⟩
    · rw [List.concat_eq_append, List.map_append]; exact atI_last _ _
    · rw [List.concat_eq_append, e]; exact atI_nat (j := 0) rfl
def TJ (l : Nat) (w h m dr : Int) (S : Store) (ts : List Th) (i : Option D) (way : Int) (k : Nat) (ρ' : Rho) (S' : Store) : Prop := ∃ (x y : Int) (u4 u5 u7 : Option D),
  ρ' = [some (.loc l), some (sizeD w h), some (.int m), some (.int dr), some (.int w), some (.int h), some (.loc S.length), some (.loc (S.length + 1)), i, some (.int way), some (.int x), some (.int y), u4, u5, u7] ∧
  TwoAt l k S (.lst (ts.map Th.d)) (.lst (ts.map Th.pt)) S'
def TK (l : Nat) (w h m dr : Int) (S : Store) (ts : List Th) (i : Option D) (way : Int) (kd : Str) (k : Nat) (ρ' : Rho) (S' : Store) : Prop := ∃ (x y : Int) (u5 u7 : Option D),
  ρ' = [some (.loc l), some (sizeD w h), some (.int m), some (.int dr), some (.int w), some (.int h), some (.loc S.length), some (.loc (S.length + 1)), i, some (.int way), some (.int x), some (.int y), some (.str kd), u5, u7] ∧
  (x + y) % 2 = 1 ∧ TwoAt l k S (.lst (ts.map Th.d)) (.lst (ts.map Th.pt)) S'
def TF (l : Nat) (w h m dr : Int) (S : Store) (ts : List Th) (i : Option D) (way : Int) (k : Nat) (ρ' : Rho) (S' : Store) : Prop := ∃ (x y : Int) (kd : Str) (u5 u7 : Option D),
  ρ' = [some (.loc l), some (sizeD w h), some (.int m), some (.int dr), some (.int w), some (.int h), some (.loc S.length), some (.loc (S.length + 1)), i, some (.int way), some (.int x), some (.int y), some (.str kd), u5, u7] ∧
  (((kd = "|" ∨ kd = "-") ∧ (x + y) % 2 = 1) ∨ (kd = "o" ∧ Wall w h x y)) ∧ TwoAt l k S (.lst (ts.map Th.d)) (.lst (ts.map Th.pt)) S'
section
variable {P : Program} {w : World} {K : PySem.W.Frag} {mg : Str → Option Value} {base : Heap} {A : Ads} {B : Fds}
end
end K

namespace K
open PySem L2 DL
local macro_rules | `(tactic| walk_at "w") => `(tactic| (conv => whnf))
local macro_rules | `(tactic| walk_at "at") => `(tactic| first | assumption | (refine SrcStep.get (l := ?l0) (n := ?n0) (S := ?s0) ?h1 ?h2 ?h3; (case h1 => assumption); (case h2 => omega); (case h3 => walk_at "at")) | (refine set_same (o := ?oo) ?sm; (case sm => walk_at "at")) | (refine set_other ?sm ?sn; (case sn => omega); (case sm => walk_at "at")) | (exact getElem_push _ _) | (refine app_left ?sm; (case sm => walk_at "at")) | rfl)
local macro_rules | `(tactic| walk_at "get") => `(tactic| (refine Exists.intro ?wit (And.intro ?gt ?_); (case gt => walk_at "at")))
local macro_rules | `(tactic| walk_at "bool") => `(tactic| (refine And.intro (fun hcond => ?_) (fun hcond => ?_) <;> (first | (exact absurd hcond (by decide)) | (simp only [decide_eq_true_eq, decide_eq_false_iff_not, Bool.not_eq_true', Bool.not_eq_false', Int.not_lt, Int.not_le, inD_nil, inD_int_cons, Bool.or_eq_true, Bool.or_eq_false_iff, Bool.or_false, ne_eq, Decidable.not_not] at hcond) | skip)))
local macro_rules | `(tactic| walk_at "len") => `(tactic| (refine line_le6 ?_; (try simp only [len_cat, len_e]); omega))
local macro_rules | `(tactic| walk_at "cond") => `(tactic| first | assumption | rfl | exact True.intro | omega | (exact Nat.le_of_ble_eq_true rfl) | (refine mulS ?cm1 ?cm2 <;> omega) | (refine divS ?cm1 <;> omega) | (refine And.intro ?cd1 ?cd2 <;> decide) | (exact line_le (Nat.le_of_ble_eq_true rfl)) | (exact line_lt (Nat.le_of_ble_eq_true rfl)) | (refine' Exists.intro _ (Exists.intro _ (And.intro rfl ?cm1)); (case cm1 => walk_at "at")) | (exact log_le (by omega)) | walk_at "len" | solve_by_elim | fail "no cond")
local macro_rules | `(tactic| walk_at "src") => `(tactic| first | assumption | (refine SrcStep.srcAt (S := ?ss) ?st; (case st => assumption)) | (refine SrcAt.app ?st; (case st => walk_at "src")))
local macro_rules | `(tactic| walk_at "draw") => `(tactic| (refine' Exists.intro _ (Exists.intro _ (Exists.intro ?nn (And.intro rfl (And.intro ?d1 (And.intro ?d2 (And.intro ?d3 (fun r S' h0 h1 hst => ?_))))))); (case d1 => walk_at "src"); (case d2 => omega); (case d3 => omega)))
local macro_rules | `(tactic| walk_at "steps") => `(tactic| first | assumption | (refine SrcStep.trans (n := ?sn) (S1 := ?sm) ?sx ?sy; (case sy => assumption); (case sx => walk_at "steps")) | (refine SrcAt.refl ?sz; assumption))
local macro_rules | `(tactic| walk_at "side") => `(tactic| (refine And.intro ?sd ?_; (case sd => walk_at "cond")))
local macro_rules | `(tactic| walk_at "go1") => `(tactic| (conv => whnf) <;> (first | walk_at "get" | walk_at "bool" | walk_at "draw" | walk_at "side" | fail "no step"))
local macro_rules | `(tactic| walk_at "go") => `(tactic| (repeat' (walk_at "go1")); (all_goals try (conv => whnf)))

def spText : DSp := fun ds S Q E => ∃ (w h : Int) (ts : List Th), ds = [.int w, .int h, .tup (ts.map Th.d)] ∧ (1 ≤ w ∧ w ≤ 1000000000000000 ∧ 1 ≤ h ∧ h ≤ 1000000000000000) ∧ ThsOk w h ts ∧ ts.length ≤ 100 ∧
  ∀ sh : Str, Q (.str sh) S
theorem Th.Ok.box {w h : Int} {t : Th} (o : t.Ok w h) (hw : 1 ≤ w) (hh : 1 ≤ h) : 0 ≤ t.x ∧ t.x ≤ 2 * w ∧ 0 ≤ t.y ∧ t.y ≤ 2 * h ∧ (t.x + t.y) % 2 = 1 := by
  rcases o with ⟨_, a, b, c, d, e⟩ | ⟨_, h1 | h1⟩
  · exact ⟨by omega, by omega, by omega, by omega, e⟩
  · obtain ⟨h2, h3, h4, h5⟩ := h1
    exact ⟨by omega, by omega, h3, h4, by omega⟩
  · obtain ⟨h2, h3, h4, h5⟩ := h1
    exact ⟨h3, h4, by omega, by omega, by omega⟩
theorem Th.Ok.kl {w h : Int} {t : Th} (o : t.Ok w h) : t.kind.length = 1 := by
  rcases o with ⟨h1 | h1, _⟩ | ⟨h1, _⟩ <;> (rw [h1]; rfl)
def Th.txt (t : Th) : Str := Str.empty ++ (toString t.x : String) ++ "," ++ (toString t.y : String) ++ t.kind
def txtF : D → Option D
  | .tup [.int x, .int y, .str k] => some (.str (Th.txt ⟨x, y, k⟩))
  | _ => none
theorem txtF_map (ts : List Th) : (ts.map Th.d).filterMap txtF = (ts.map Th.txt).map D.str := by
  induction ts with
  | nil => rfl
  | cons t r ih => rw [List.map_cons, List.filterMap_cons_some (b := D.str t.txt) (by rfl), ih, List.map_cons, List.map_cons]
theorem n_shown_text : ∀ ds S Q E, spText ds S Q E → ds.length = 3 := by
  rintro ds S Q E ⟨w, h, ts, rfl, _⟩
  rfl
section
variable {P : Program} {w : World} {K : PySem.W.Frag} {mg : Str → Option Value} {base : Heap} {A : Ads} {B : Fds}
theorem ok_shown_text (T : Txt w K mg A B) : FnOk P w K mg base CX0 1 A.a_shown_text B.a_shown_text ["width", "height", "things"] (spOf K 3 spText) := by
  refine dfn_ok T.F_shown_text sc_shown_text n_shown_text (fun cdv A outer s H E hr => (ds_cons (ds_set (i := 3) sc_shown_text.nd rfl (.inl rfl) (de_join de_str (de_gc (de_lc (own := [("x", 4), ("y", 5), ("kind", 6)]) rfl sc_shown_text.nd (di_tup (dv 2)) (blkOk_by (own := [("x", 4), ("y", 5), ("kind", 6)]) (N := ["width", "height", "things", "text", "x", "y", "kind"]) (sc := defScope s_shown_text) (by decide +kernel)) (fun _ _ _ _ _ => (dg_tup (n := 3) rfl (dgs_cons (dg_name (i := 4) sc_shown_text.nd rfl (.inl rfl)) (dgs_cons (dg_name (i := 5) sc_shown_text.nd rfl (.inl rfl)) (dgs_cons (dg_name (i := 6) sc_shown_text.nd rfl (.inl rfl)) dgs_nil))))) (fun _ _ _ _ _ => dts_nil) (fun _ _ _ _ _ => (de_joined (dj_cons (de_fmt (dv 4)) (dj_cons de_str (dj_cons (de_fmt (dv 5)) (dj_cons (de_fmt (dv 6)) dj_nil))))))))))
      (ds_one (ds_ret (de_ifExp (dt_cmp od_neI (dv 3) de_str (nomark _)) (de_joined (dj_cons de_str (dj_cons (de_fmt (dv 0)) (dj_cons de_str (dj_cons (de_fmt (dv 1)) (dj_cons de_str (dj_cons (de_fmt (dv 3)) (dj_cons de_str dj_nil)))))))) (de_joined (dj_cons de_str (dj_cons (de_fmt (dv 0)) (dj_cons de_str (dj_cons (de_fmt (dv 1)) (dj_cons de_str dj_nil))))))))))) ?_
  rintro ds S Q E bd ⟨w, h, ts, rfl, ⟨hw1, hw2, hh1, hh2⟩, hts, hlen, q⟩
  walk_at "go"
  refine ⟨⟨_, rfl⟩, ?_⟩
  refine comp_gc (ts.map Th.d) txtF (fun P h => h) (fun x hx acc k hk => ?_) (line_le (by rw [List.length_map]; omega)) ?_ ?_
  · obtain ⟨t, ht, rfl⟩ := List.mem_map.mp hx
    obtain ⟨b1, b2, b3, b4, b5⟩ := (hts.all t ht).box hw1 hh1
    have b6 := (hts.all t ht).kl
    have l2 : (Str.ofString ",").length = 1 := rfl
    have lx := len_int (i := t.x) (log2_small (by omega) (by decide))
    have ly := len_int (i := t.y) (log2_small (by omega) (by decide))
    walk_at "go"
    exact hk
  · rw [txtF_map]
    exact bndL_map fun _ => trivial
  · rw [txtF_map]
    have hz : ∀ y ∈ ts.map Th.txt, y.length ≤ 140 := by
      intro y hy
      obtain ⟨t, ht, rfl⟩ := List.mem_map.mp hy
      obtain ⟨b1, b2, b3, b4, b5⟩ := (hts.all t ht).box hw1 hh1
      have b6 := (hts.all t ht).kl
      have lx := len_int (i := t.x) (log2_small (by omega) (by decide))
      have ly := len_int (i := t.y) (log2_small (by omega) (by decide))
      have l2 : (Str.ofString ",").length = 1 := rfl
      unfold Th.txt
      simp only [len_cat, len_e]
      omega
    have hs := sum_le _ hz
    have hsl : (ts.map Th.txt).length = ts.length := List.length_map ..
    have hj := join_le (Str.ofString " ") (ts.map Th.txt)
    have hsp : (Str.ofString " ").length = 1 := rfl
    have lw := len_int (i := w) (log2_small (by omega) (by decide))
    have lh := len_int (i := h) (log2_small (by omega) (by decide))
    have l1 : (Str.ofString "Floor(").length = 6 := rfl
    have l2 : (Str.ofString "x").length = 1 := rfl
    have l3 : (Str.ofString ": ").length = 2 := rfl
    have l4 : (Str.ofString ")").length = 1 := rfl
    rw [hsp] at hj
    refine ⟨_, _, rfl, rfl, by rw [hsp]; omega, ?_⟩
    generalize Txt.join (Str.ofString " ") (ts.map Th.txt) = jj at hj ⊢
    walk_at "go"
    · exact Rt.same (d := .str _) trivial (q _)
    · exact Rt.same (d := .str _) trivial (q _)
end
end K

namespace K
open PySem L2 DL
local macro_rules | `(tactic| walk_at "w") => `(tactic| (conv => whnf))
local macro_rules | `(tactic| walk_at "at") => `(tactic| first | assumption | (refine SrcStep.get (l := ?l0) (n := ?n0) (S := ?s0) ?h1 ?h2 ?h3; (case h1 => assumption); (case h2 => omega); (case h3 => walk_at "at")) | (refine set_same (o := ?oo) ?sm; (case sm => walk_at "at")) | (refine set_other ?sm ?sn; (case sn => omega); (case sm => walk_at "at")) | (exact getElem_push _ _) | (refine app_left ?sm; (case sm => walk_at "at")) | rfl)
local macro_rules | `(tactic| walk_at "get") => `(tactic| (refine Exists.intro ?wit (And.intro ?gt ?_); (case gt => walk_at "at")))
local macro_rules | `(tactic| walk_at "bool") => `(tactic| (refine And.intro (fun hcond => ?_) (fun hcond => ?_) <;> (first | (exact absurd hcond (by decide)) | (simp only [decide_eq_true_eq, decide_eq_false_iff_not, Bool.not_eq_true', Bool.not_eq_false', Int.not_lt, Int.not_le, inD_nil, inD_int_cons, Bool.or_eq_true, Bool.or_eq_false_iff, Bool.or_false, ne_eq, Decidable.not_not] at hcond) | skip)))
local macro_rules | `(tactic| walk_at "len") => `(tactic| (refine line_le6 ?_; (try simp only [len_cat, len_e]); omega))
local macro_rules | `(tactic| walk_at "cond") => `(tactic| first | assumption | rfl | exact True.intro | omega | (exact Nat.le_of_ble_eq_true rfl) | (refine mulS ?cm1 ?cm2 <;> omega) | (refine divS ?cm1 <;> omega) | (refine And.intro ?cd1 ?cd2 <;> decide) | (exact line_le (Nat.le_of_ble_eq_true rfl)) | (exact line_lt (Nat.le_of_ble_eq_true rfl)) | (refine' Exists.intro _ (Exists.intro _ (And.intro rfl ?cm1)); (case cm1 => walk_at "at")) | (exact log_le (by omega)) | walk_at "len" | solve_by_elim | fail "no cond")
local macro_rules | `(tactic| walk_at "src") => `(tactic| first | assumption | (refine SrcStep.srcAt (S := ?ss) ?st; (case st => assumption)) | (refine SrcAt.app ?st; (case st => walk_at "src")))
local macro_rules | `(tactic| walk_at "draw") => `(tactic| (refine' Exists.intro _ (Exists.intro _ (Exists.intro ?nn (And.intro rfl (And.intro ?d1 (And.intro ?d2 (And.intro ?d3 (fun r S' h0 h1 hst => ?_))))))); (case d1 => walk_at "src"); (case d2 => omega); (case d3 => omega)))
local macro_rules | `(tactic| walk_at "steps") => `(tactic| first | assumption | (refine SrcStep.trans (n := ?sn) (S1 := ?sm) ?sx ?sy; (case sy => assumption); (case sx => walk_at "steps")) | (refine SrcAt.refl ?sz; assumption))
local macro_rules | `(tactic| walk_at "side") => `(tactic| (refine And.intro ?sd ?_; (case sd => walk_at "cond")))
local macro_rules | `(tactic| walk_at "go1") => `(tactic| (conv => whnf) <;> (first | walk_at "get" | walk_at "bool" | walk_at "draw" | walk_at "side" | fail "no step"))
local macro_rules | `(tactic| walk_at "go") => `(tactic| (repeat' (walk_at "go1")); (all_goals try (conv => whnf)))

/-- an object of class C with these attributes (of those asked for) -/
def Has (C : Addr) (f : D) (S : Store) (F : List (Str × D) → Prop) : Prop := (∃ fs, f = .obj C fs ∧ F fs) ∨ ∃ l fs, f = .loc l ∧ S[l]? = some (.ins C fs) ∧ F fs
structure WH (w h : Int) (fs : List (Str × D)) : Prop where
  lw : fs.lookup ("width" : Str) = some (.int w)
  lh : fs.lookup ("height" : Str) = some (.int h)
  m1 : fs.lookup ("is_point" : Str) = none
  m2 : fs.lookup ("is_inner" : Str) = none
  m3 : fs.lookup ("may_stand" : Str) = none
  m4 : fs.lookup ("kind_at" : Str) = none
  w1 : 1 ≤ w
  w2 : w ≤ 1000000000000000
  h1 : 1 ≤ h
  h2 : h ≤ 1000000000000000
def Point (w h x y : Int) : Prop := 0 ≤ x ∧ x ≤ 2 * w ∧ 0 ≤ y ∧ y ≤ 2 * h ∧ (x + y) % 2 = 1
def Inner (w h x y : Int) : Prop := 0 < x ∧ x < 2 * w ∧ 0 < y ∧ y < 2 * h ∧ (x + y) % 2 = 1
def spPoint (C : Addr) : DSp := fun ds S Q E => ∃ (f : D) (w h x y : Int), ds = [f, .int x, .int y] ∧ Has C f S (WH w h) ∧ ∀ b : Bool, (b = true ↔ Point w h x y) → Q (.bl b) S
def spInner (C : Addr) : DSp := fun ds S Q E => ∃ (f : D) (w h x y : Int), ds = [f, .int x, .int y] ∧ Has C f S (WH w h) ∧ ∀ b : Bool, (b = true ↔ Inner w h x y) → Q (.bl b) S
def spStand (C : Addr) : DSp := fun ds S Q E => ∃ (f : D) (w h : Int) (t : Th), ds = [f, .int t.x, .int t.y, .str t.kind] ∧ Has C f S (WH w h) ∧ ∀ b : Bool, (b = true ↔ t.Ok w h) → Q (.bl b) S
theorem n_Floor_is_point {C : Addr} : ∀ ds S Q E, spPoint C ds S Q E → ds.length = 3 := by
  rintro ds S Q E ⟨f, w, h, x, y, rfl, _⟩
  rfl
theorem n_Floor_is_inner {C : Addr} : ∀ ds S Q E, spInner C ds S Q E → ds.length = 3 := by
  rintro ds S Q E ⟨f, w, h, x, y, rfl, _⟩
  rfl
theorem n_Floor_may_stand {C : Addr} : ∀ ds S Q E, spStand C ds S Q E → ds.length = 4 := by
  rintro ds S Q E ⟨f, w, h, t, rfl, _⟩
  rfl
theorem ok_iff {w h : Int} {t : Th} (hw : 1 ≤ w) (hh : 1 ≤ h) : t.Ok w h ↔ ((t.kind = "|" ∨ t.kind = "-") ∧ Inner w h t.x t.y) ∨ (t.kind = "o" ∧ Point w h t.x t.y ∧ ¬ Inner w h t.x t.y) := by
  unfold Th.Ok Inner Point Wall
  constructor
  · rintro (⟨a, b⟩ | ⟨a, b⟩)
    · exact Or.inl ⟨a, b⟩
    · exact Or.inr ⟨a, by omega, by omega⟩
  · rintro (⟨a, b⟩ | ⟨a, b, c⟩)
    · exact Or.inl ⟨a, b⟩
    · exact Or.inr ⟨a, by omega⟩
section
variable {P : Program} {w : World} {K : PySem.W.Frag} {mg : Str → Option Value} {base : Heap} {A : Ads} {B : Fds}
theorem ok_Floor_is_point (T : Txt w K mg A B) : FnOk P w K mg base CX0 1 A.a_Floor_is_point B.a_Floor_is_point ["self", "x", "y"] (spOf K 3 (spPoint A.a_Floor)) := by
  refine dfn_ok T.F_Floor_is_point sc_Floor_is_point n_Floor_is_point (fun cdv A outer s H E hr => (ds_one (ds_ret (de_and (de_chain od_le od_le de_int (dv 1) (de_op od_mul de_int (de_fld (dv 0) T.cl_Floor T.n_Floor_width))) (de_and (de_chain od_le od_le de_int (dv 2) (de_op od_mul de_int (de_fld (dv 0) T.cl_Floor T.n_Floor_height))) (de_one (de_cmp od_eqI (de_op od_mod (de_op od_add (dv 1) (dv 2)) de_int) de_int (nomark _)))))))) ?_
  rintro ds S Q E bd ⟨f, w, h, x, y, rfl, hf, q⟩
  rcases hf with ⟨fs, rfl, g⟩ | ⟨l, fs, rfl, he, g⟩
  all_goals
    obtain ⟨g1, g2, g3, g4, g5, g6, g7, g8, g9, g10⟩ := g
    walk_at "go"
    all_goals
      refine Rt.same (d := .bl _) trivial (q _ ?_)
      unfold Point
      simp only [decide_eq_true_eq, Bool.false_eq_true, false_iff]
      omega
theorem ok_Floor_is_inner (T : Txt w K mg A B) : FnOk P w K mg base CX0 1 A.a_Floor_is_inner B.a_Floor_is_inner ["self", "x", "y"] (spOf K 3 (spInner A.a_Floor)) := by
  refine dfn_ok T.F_Floor_is_inner sc_Floor_is_inner n_Floor_is_inner (fun cdv A outer s H E hr => (ds_one (ds_ret (de_and (de_chain od_lt od_lt de_int (dv 1) (de_op od_mul de_int (de_fld (dv 0) T.cl_Floor T.n_Floor_width))) (de_and (de_chain od_lt od_lt de_int (dv 2) (de_op od_mul de_int (de_fld (dv 0) T.cl_Floor T.n_Floor_height))) (de_one (de_cmp od_eqI (de_op od_mod (de_op od_add (dv 1) (dv 2)) de_int) de_int (nomark _)))))))) ?_
  rintro ds S Q E bd ⟨f, w, h, x, y, rfl, hf, q⟩
  rcases hf with ⟨fs, rfl, g⟩ | ⟨l, fs, rfl, he, g⟩
  all_goals
    obtain ⟨g1, g2, g3, g4, g5, g6, g7, g8, g9, g10⟩ := g
    walk_at "go"
    all_goals
      refine Rt.same (d := .bl _) trivial (q _ ?_)
      unfold Inner
      simp only [decide_eq_true_eq, Bool.false_eq_true, false_iff]
      omega
theorem kind_in (k : Str) : (([("|", D.str "-"), ("-", D.str "|")] : List (Str × D)).lookup k).isSome = decide (k = "|" ∨ k = "-") := by
  by_cases h1 : k = "|"
  · subst h1; rfl
  · by_cases h2 : k = "-"
    · subst h2; rfl
    · have e1 : (k == ("|" : Str)) = false := by simpa using h1
      have e2 : (k == ("-" : Str)) = false := by simpa using h2
      rw [List.lookup_cons, e1, List.lookup_cons, e2]
      simp [h1, h2]
theorem ok_a {w h : Int} {t : Th} (hw : 1 ≤ w) (hh : 1 ≤ h) (hk : t.kind = "|" ∨ t.kind = "-") : t.Ok w h ↔ Inner w h t.x t.y := by
  rw [ok_iff hw hh]
  constructor
  · rintro (⟨_, a⟩ | ⟨a, _⟩)
    · exact a
    · rcases hk with hk | hk <;> (rw [a] at hk; exact absurd hk (by decide))
  · intro h
    exact Or.inl ⟨hk, h⟩
theorem ok_b {w h : Int} {t : Th} (hw : 1 ≤ w) (hh : 1 ≤ h) (hk : t.kind = Str.ofString "o") : t.Ok w h ↔ (Point w h t.x t.y ∧ ¬ Inner w h t.x t.y) := by
  rw [ok_iff hw hh]
  constructor
  · rintro (⟨a, _⟩ | ⟨_, a⟩)
    · rcases a with a | a <;> (rw [hk] at a; exact absurd a (by decide))
    · exact a
  · intro h
    exact Or.inr ⟨hk, h⟩
theorem ok_c {w h : Int} {t : Th} (hw : 1 ≤ w) (hh : 1 ≤ h) (h1 : ¬ (t.kind = "|" ∨ t.kind = "-")) (hk : ¬ t.kind = Str.ofString "o") : ¬ t.Ok w h := by
  rw [ok_iff hw hh]
  rintro (⟨a, _⟩ | ⟨a, _⟩)
  · exact h1 a
  · exact hk a
theorem ok_Floor_may_stand (T : Txt w K mg A B) : FnOk P w K mg base CX0 2 A.a_Floor_may_stand B.a_Floor_may_stand ["self", "x", "y", "kind"] (spOf K 4 (spStand A.a_Floor)) := by
  refine dfn_ok T.F_Floor_may_stand sc_Floor_may_stand n_Floor_may_stand (fun cdv A outer s H E hr => (ds_cons (ds_if (dt_cmp (od_kIn T.kt_OTHER_KIND) (dv 3) (de_globA rfl T.g_OTHER_KIND rfl) (by rfl)) (ds_one (ds_ret (de_meth (dv 0) T.cl_Floor T.m_Floor_is_inner (ok_Floor_is_inner T) (hr.mono (by decide)) T.b_Floor_is_inner .nil rpl_nil pass0 n_Floor_is_inner (da_cons (dv 1) (da_cons (dv 2) da_nil))))) ds_nil)
      (ds_one (ds_ret (de_and (de_cmp od_eqI (dv 3) (de_globSE rfl T.g_DOOR) (nomark _)) (de_and (de_meth (dv 0) T.cl_Floor T.m_Floor_is_point (ok_Floor_is_point T) (hr.mono (by decide)) T.b_Floor_is_point .nil rpl_nil pass0 n_Floor_is_point (da_cons (dv 1) (da_cons (dv 2) da_nil))) (de_one (de_not (de_meth (dv 0) T.cl_Floor T.m_Floor_is_inner (ok_Floor_is_inner T) (hr.mono (by decide)) T.b_Floor_is_inner .nil rpl_nil pass0 n_Floor_is_inner (da_cons (dv 1) (da_cons (dv 2) da_nil))))))))))) ?_
  rintro ds S Q E bd ⟨f, w, h, t, rfl, hf, q⟩
  have hf0 := hf
  rcases hf with ⟨fs, rfl, g⟩ | ⟨l, fs, rfl, he, g⟩
  all_goals
    obtain ⟨g1, g2, g3, g4, g5, g6, g7, g8, g9, g10⟩ := g
    walk_at "go"
    · rename_i hc
      rw [kind_in] at hc
      refine ⟨_, _, _, _, _, rfl, hf0, fun b hb => ?_⟩
      walk_at "go"
      exact Rt.same (d := .bl _) trivial (q _ (hb.trans (ok_a g7 g9 (of_decide_eq_true hc)).symm))
    · rename_i hc hk
      refine ⟨_, _, _, _, _, rfl, hf0, fun b hb => ?_⟩
      walk_at "go"
      · rename_i hb1
        refine ⟨_, _, _, _, _, rfl, hf0, fun b2 hb2 => ?_⟩
        walk_at "go"
        refine Rt.same (d := .bl _) trivial (q _ ?_)
        rw [ok_b g7 g9 hk, ← hb, ← hb2, Bool.not_eq_true', hb1]
        simp
      · rename_i hb1
        refine Rt.same (d := .bl _) trivial (q _ ?_)
        rw [ok_b g7 g9 hk, ← hb, hb1]
        simp
    · rename_i hc hk
      rw [kind_in] at hc
      refine Rt.same (d := .bl _) trivial (q _ ?_)
      have := ok_c g7 g9 (of_decide_eq_false hc) hk
      simp [this]
end
end K

namespace K
open PySem L2 DL
local macro_rules | `(tactic| walk_at "w") => `(tactic| (conv => whnf))
local macro_rules | `(tactic| walk_at "at") => `(tactic| first | assumption | (refine SrcStep.get (l := ?l0) (n := ?n0) (S := ?s0) ?h1 ?h2 ?h3; (case h1 => assumption); (case h2 => omega); (case h3 => walk_at "at")) | (refine set_same (o := ?oo) ?sm; (case sm => walk_at "at")) | (refine set_other ?sm ?sn; (case sn => omega); (case sm => walk_at "at")) | (exact getElem_push _ _) | (refine app_left ?sm; (case sm => walk_at "at")) | rfl)
local macro_rules | `(tactic| walk_at "get") => `(tactic| (refine Exists.intro ?wit (And.intro ?gt ?_); (case gt => walk_at "at")))
local macro_rules | `(tactic| walk_at "bool") => `(tactic| (refine And.intro (fun hcond => ?_) (fun hcond => ?_) <;> (first | (exact absurd hcond (by decide)) | (simp only [decide_eq_true_eq, decide_eq_false_iff_not, Bool.not_eq_true', Bool.not_eq_false', Int.not_lt, Int.not_le, inD_nil, inD_int_cons, Bool.or_eq_true, Bool.or_eq_false_iff, Bool.or_false, ne_eq, Decidable.not_not] at hcond) | skip)))
local macro_rules | `(tactic| walk_at "len") => `(tactic| (refine line_le6 ?_; (try simp only [len_cat, len_e]); omega))
local macro_rules | `(tactic| walk_at "cond") => `(tactic| first | assumption | rfl | exact True.intro | omega | (exact Nat.le_of_ble_eq_true rfl) | (refine mulS ?cm1 ?cm2 <;> omega) | (refine divS ?cm1 <;> omega) | (refine And.intro ?cd1 ?cd2 <;> decide) | (exact line_le (Nat.le_of_ble_eq_true rfl)) | (exact line_lt (Nat.le_of_ble_eq_true rfl)) | (refine' Exists.intro _ (Exists.intro _ (And.intro rfl ?cm1)); (case cm1 => walk_at "at")) | (exact log_le (by omega)) | walk_at "len" | solve_by_elim | fail "no cond")
local macro_rules | `(tactic| walk_at "src") => `(tactic| first | assumption | (refine SrcStep.srcAt (S := ?ss) ?st; (case st => assumption)) | (refine SrcAt.app ?st; (case st => walk_at "src")))
local macro_rules | `(tactic| walk_at "draw") => `(tactic| (refine' Exists.intro _ (Exists.intro _ (Exists.intro ?nn (And.intro rfl (And.intro ?d1 (And.intro ?d2 (And.intro ?d3 (fun r S' h0 h1 hst => ?_))))))); (case d1 => walk_at "src"); (case d2 => omega); (case d3 => omega)))
local macro_rules | `(tactic| walk_at "steps") => `(tactic| first | assumption | (refine SrcStep.trans (n := ?sn) (S1 := ?sm) ?sx ?sy; (case sy => assumption); (case sx => walk_at "steps")) | (refine SrcAt.refl ?sz; assumption))
local macro_rules | `(tactic| walk_at "side") => `(tactic| (refine And.intro ?sd ?_; (case sd => walk_at "cond")))
local macro_rules | `(tactic| walk_at "go1") => `(tactic| (conv => whnf) <;> (first | walk_at "get" | walk_at "bool" | walk_at "draw" | walk_at "side" | fail "no step"))
local macro_rules | `(tactic| walk_at "go") => `(tactic| (repeat' (walk_at "go1")); (all_goals try (conv => whnf)))

def Th.key (t : Th) : List Key := [.inl t.x, .inl t.y]
def numsD : Nat → List Th → List (List Key × D)
  | _, [] => []
  | i, t :: r => (t.key, .int (i : Nat)) :: numsD (i + 1) r
theorem numsD_snoc (t : Th) : ∀ (ts : List Th) (i : Nat), numsD i (ts ++ [t]) = numsD i ts ++ [(t.key, .int ((i + ts.length : Nat) : Int))]
  | [], i => rfl
  | a :: r, i => by
    show (a.key, D.int (i : Nat)) :: numsD (i + 1) (r ++ [t]) = (a.key, D.int (i : Nat)) :: (numsD (i + 1) r ++ _)
    rw [numsD_snoc t r (i + 1), List.length_cons, show i + 1 + r.length = i + (r.length + 1) by omega]
theorem key_eq (a t : Th) : (a.key = t.key) ↔ ((t.x, t.y) = (a.x, a.y)) := by
  unfold Th.key
  constructor
  · intro h
    injection h with h1 h2
    injection h2 with h2 h3
    injection h1 with h1
    injection h2 with h2
    rw [h1, h2]
  · intro h
    injection h with h1 h2
    rw [h1, h2]
theorem numsD_any (t : Th) : ∀ (ts : List Th) (i : Nat), ((numsD i ts).any fun kv => decide (kv.1 = t.key)) = decide ((t.x, t.y) ∈ ts.map fun a => (a.x, a.y))
  | [], i => rfl
  | a :: r, i => by
    rw [numsD, List.any_cons, numsD_any t r (i + 1), List.map_cons, ← Bool.decide_or]
    apply decide_eq_decide.mpr
    rw [List.mem_cons, key_eq a t]
theorem valD_any {κ : Type} [DecidableEq κ] (k : κ) : ∀ kvs : List (κ × D), (valD kvs k).isSome = kvs.any fun kv => decide (kv.1 = k)
  | [] => rfl
  | (a, d) :: r => by
    rw [List.any_cons, ← valD_any k r]
    by_cases h : a = k
    · simp [valD, List.find?_cons, h]
    · simp [valD, List.find?_cons, h]
theorem numsD_bnd (n : Nat) : ∀ (ts : List Th) (i : Nat), bndT n (numsD i ts)
  | [], _ => trivial
  | _ :: r, i => ⟨trivial, numsD_bnd n r (i + 1)⟩
def spInit (C : Addr) : DSp := fun ds S Q E => ∃ (l : Nat) (w h : Int) (ts : List Th), ds = [.loc l, .int w, .int h, .tup (ts.map Th.d)] ∧ S[l]? = some (.ins C []) ∧ (1 ≤ w ∧ w ≤ 1000000000000000 ∧ 1 ≤ h ∧ h ≤ 1000000000000000) ∧ ThsOk w h ts ∧ ts.length ≤ 40 ∧
  ∀ sh : Str, Q .non (S.set l (.ins C [("width", .int w), ("height", .int h), ("numbers", .dt (numsD 0 ts)), ("things", .tup (ts.map Th.d)), ("shown", .str sh)]))
theorem n_Floor___init__ {C : Addr} : ∀ ds S Q E, spInit C ds S Q E → ds.length = 4 := by
  rintro ds S Q E ⟨l, w, h, ts, rfl, _⟩
  rfl
section
variable {P : Program} {w : World} {K : PySem.W.Frag} {mg : Str → Option Value} {base : Heap} {A : Ads} {B : Fds}
theorem ok_Floor___init__ (T : Txt w K mg A B) : FnR P w K mg base CX0 3 A.a_Floor___init__ (spStar K 3 (spInit A.a_Floor)) := by
  refine dfn_star (ps := ["self", "width", "height"]) (pv := "things") T.F_Floor___init__ sc_Floor___init__ n_Floor___init__ (fun kV doc pm an cdv ct us rest hl => bind_star3 (B := fun us => bindArgs (PySem.W.fnOf "__init__" "Floor.__init__" (defArgs s_Floor___init__) (defBody s_Floor___init__) (defScope s_Floor___init__) .none kV doc pm an cdv ct) ⟨us, []⟩) (fun _ _ _ => rfl) (fun _ _ _ _ _ => rfl) us rest hl) (fun cdv A outer s H E hr => (ds_cons (ds_if (dt_not (dt_chain od_le od_le de_int (dv 1) (de_globIE rfl T.g_MOST_SIZE))) (ds_one (ds_never _)) ds_nil)
      (ds_cons (ds_if (dt_not (dt_chain od_le od_le de_int (dv 2) (de_globIE rfl T.g_MOST_SIZE))) (ds_one (ds_never _)) ds_nil)
      (ds_cons (ds_fld (dv 0) (dv 1) T.cl_Floor T.n_Floor_width)
      (ds_cons (ds_fld (dv 0) (dv 2) T.cl_Floor T.n_Floor_height)
      (ds_cons (ds_fld (dv 0) de_newT T.cl_Floor T.n_Floor_numbers)
      (ds_cons (ds_for PassesOwn.never rfl (di_enum rfl T.z_enumerate (da_cons (dv 3) da_nil)) (dg_tup (n := 2) rfl (dgs_cons (dg_name (i := 4) sc_Floor___init__.nd rfl (.inl rfl)) (dgs_cons (dg_tup (n := 3) rfl (dgs_cons (dg_name (i := 5) sc_Floor___init__.nd rfl (.inl rfl)) (dgs_cons (dg_name (i := 6) sc_Floor___init__.nd rfl (.inl rfl)) (dgs_cons (dg_name (i := 7) sc_Floor___init__.nd rfl (.inl rfl)) dgs_nil)))) dgs_nil))) (ds_cons (ds_if (DW.pt (dw_or (dt_cmp od_ge (dv 4) (de_cvalE (d := D.int 40) (de_globA rfl T.g_Floor rfl) T.cr_Floor T.cv_Floor_MOST_THINGS (fun _ _ => rfl)) (nomark _)) (dw_or (dt_not (dt_val (de_meth (dv 0) T.cl_Floor T.m_Floor_may_stand (ok_Floor_may_stand T) (hr.mono (by decide)) T.b_Floor_may_stand .nil rpl_nil pass0 n_Floor_may_stand (da_cons (dv 5) (da_cons (dv 6) (da_cons (dv 7) da_nil)))))) (dw_or1 (dt_cmp (od_dIn (hu65 hr)) (de_tup (da_cons (dv 5) (da_cons (dv 6) da_nil))) (de_fld (dv 0) T.cl_Floor T.n_Floor_numbers) (by rfl)))))) (ds_one (ds_never _)) ds_nil)
      (ds_one (ds_asg (dv 4) (dg_put (hu65 hr) (de_fld (dv 0) T.cl_Floor T.n_Floor_numbers) (de_tup (da_cons (dv 5) (da_cons (dv 6) da_nil))))))))
      (ds_cons (ds_fld (dv 0) (dv 3) T.cl_Floor T.n_Floor_things)
      (ds_one (ds_fld (dv 0) (de_call (ok_shown_text T) (hr.mono (by decide)) rfl T.g_shown_text T.k_shown_text T.b_shown_text .nil rpl_nil pass0 n_shown_text (da_cons (dv 1) (da_cons (dv 2) (da_cons (dv 3) da_nil)))) T.cl_Floor T.n_Floor_shown)))))))))) ?_
  rintro ds S Q E bd ⟨l, w, h, ts, rfl, hl, ⟨hw1, hw2, hh1, hh2⟩, hts, hlen, q⟩
  have hlt : l < S.length := (List.getElem?_eq_some_iff.mp hl).1
  walk_at "go"
  all_goals try omega
  refine forL_inv (fun k ρ' S' => ∃ u4 u5 u6 u7 : Option D, ρ' = [some (.loc l), some (.int w), some (.int h), some (.tup (ts.map Th.d)), u4, u5, u6, u7] ∧
    S' = S.set l (.ins A.a_Floor [("width", .int w), ("height", .int h), ("numbers", .loc S.length)]) ++ [.dt (numsD 0 (ts.take k))]) _ 0 _ _ ⟨none, none, none, none, rfl, ?_⟩ ?_ ?_
  · rw [List.set_append_left _ _ (by rw [List.length_set, List.length_set]; exact hlt), List.set_set, List.set_set]
    simp only [List.length_set]
    rfl
  · rintro j x ρ S' hj ⟨u4, u5, u6, u7, rfl, hS⟩ N hN
    obtain ⟨d', hd', rfl⟩ := enumD_get hj
    rw [List.getElem?_map] at hd'
    obtain ⟨t, ht, rfl⟩ := Option.map_eq_some_iff.mp hd'
    have hjl := (List.getElem?_eq_some_iff.mp ht).1
    have htk : ts.take (j + 1) = ts.take j ++ [t] := by rw [List.take_add_one, ht]; rfl
    have tok := hts.all t (List.mem_of_getElem? ht)
    rw [Nat.zero_add] at hN hS ⊢
    have g0 : S'[l]? = some (.ins A.a_Floor [("width", .int w), ("height", .int h), ("numbers", .loc S.length)]) := by
      rw [hS]; exact app_left (List.getElem?_set_self hlt)
    have g1 : S'[S.length]? = some (.dt (numsD 0 (ts.take j))) := by
      rw [hS]
      have := getElem_push (S.set l (.ins A.a_Floor [("width", .int w), ("height", .int h), ("numbers", .loc S.length)])) (Ob.dt (numsD 0 (ts.take j)))
      rw [List.length_set] at this
      exact this
    have hno : ((numsD 0 (ts.take j)).any fun kv => decide (kv.1 = t.key)) = false := by
      rw [numsD_any]
      apply decide_eq_false
      intro hm
      have nd := hts.nd
      rw [← List.take_append_drop (j + 1) ts, htk, List.map_append, List.map_append] at nd
      have nd2 := (List.nodup_append.mp nd).1
      exact (List.nodup_append.mp nd2).2.2 _ hm _ (by simp) rfl
    have hz : (numsD 0 (ts.take j)).length < sizeLine := by
      have : ∀ (ts : List Th) (i : Nat), (numsD i ts).length = ts.length := fun ts => by
        induction ts with
        | nil => intro _; rfl
        | cons a r ih => intro i; rw [numsD, List.length_cons, List.length_cons, ih]
      rw [this, List.length_take]
      exact line_lt (by omega)
    clear hj hd'
    walk_at "go"
    · omega
    refine ⟨_, _, _, t, rfl, Or.inr ⟨l, _, rfl, g0, ⟨rfl, rfl, rfl, rfl, rfl, rfl, hw1, hw2, hh1, hh2⟩⟩, fun b hb => ?_⟩
    have hb2 : b = true := hb.mpr tok
    subst hb2
    walk_at "go"
    · rename_i hc
      have h1 := valD_any t.key (numsD 0 (ts.take j))
      rw [hno] at h1
      exact absurd (hc.symm.trans h1) (by decide)
    · refine hN _ _ ⟨_, _, _, _, rfl, ?_⟩
      have hst : stoD (numsD 0 (ts.take j)) [Sum.inl t.x, Sum.inl t.y] (D.int (j : Nat)) = numsD 0 (ts.take (j + 1)) := by
        show stoD (numsD 0 (ts.take j)) t.key (D.int (j : Nat)) = _
        unfold stoD
        rw [hno, htk, numsD_snoc, List.length_take, Nat.min_eq_left (by omega), Nat.zero_add]
        rfl
      rw [hst, hS, List.set_append_right _ _ (by rw [List.length_set]; exact Nat.le_refl _), List.length_set, Nat.sub_self]
      rfl
  · rw [enumD_len, List.length_map, Nat.zero_add, List.take_length]
    rintro ρ S' ⟨u4, u5, u6, u7, rfl, hS⟩
    have g0 : S'[l]? = some (.ins A.a_Floor [("width", .int w), ("height", .int h), ("numbers", .loc S.length)]) := by
      rw [hS]; exact app_left (List.getElem?_set_self hlt)
    have g1 : S'[S.length]? = some (.dt (numsD 0 ts)) := by
      rw [hS]
      have := getElem_push (S.set l (.ins A.a_Floor [("width", .int w), ("height", .int h), ("numbers", .loc S.length)])) (Ob.dt (numsD 0 ts))
      rw [List.length_set] at this
      exact this
    walk_at "go"
    refine ⟨w, h, ts, rfl, ⟨hw1, hw2, hh1, hh2⟩, hts, by omega, fun sh => ?_⟩
    walk_at "go"
    refine Rt.obj (l := l) (C := A.a_Floor) (d := .non) hlt (by walk_at "at") (fs' := [("width", .int w), ("height", .int h), ("numbers", .dt (numsD 0 ts)), ("things", .tup (ts.map Th.d)), ("shown", .str sh)]) ?_ ?_ trivial (q sh)
    · exact ⟨rfl, .same trivial, rfl, .same trivial, rfl, .dt (Nat.le_refl _) (by walk_at "at") (numsD_bnd _ _ _), rfl, .same (bndL_map fun _ => ⟨trivial, trivial, trivial, trivial⟩), rfl, .same trivial, trivial⟩
    · intro m hm hne
      rw [List.getElem?_set_ne (Ne.symm hne), List.getElem?_set_ne (Ne.symm hne), hS, List.getElem?_append_left (by rw [List.length_set]; exact hm), List.getElem?_set_ne (Ne.symm hne)]
end
end K

namespace K
open PySem L2 DL
local macro_rules | `(tactic| walk_at "w") => `(tactic| (conv => whnf))
local macro_rules | `(tactic| walk_at "at") => `(tactic| first | assumption | (refine SrcStep.get (l := ?l0) (n := ?n0) (S := ?s0) ?h1 ?h2 ?h3; (case h1 => assumption); (case h2 => omega); (case h3 => walk_at "at")) | (refine set_same (o := ?oo) ?sm; (case sm => walk_at "at")) | (refine set_other ?sm ?sn; (case sn => omega); (case sm => walk_at "at")) | (exact getElem_push _ _) | (refine app_left ?sm; (case sm => walk_at "at")) | rfl)
local macro_rules | `(tactic| walk_at "get") => `(tactic| (refine Exists.intro ?wit (And.intro ?gt ?_); (case gt => walk_at "at")))
local macro_rules | `(tactic| walk_at "bool") => `(tactic| (refine And.intro (fun hcond => ?_) (fun hcond => ?_) <;> (first | (exact absurd hcond (by decide)) | (simp only [decide_eq_true_eq, decide_eq_false_iff_not, Bool.not_eq_true', Bool.not_eq_false', Int.not_lt, Int.not_le, inD_nil, inD_int_cons, Bool.or_eq_true, Bool.or_eq_false_iff, Bool.or_false, ne_eq, Decidable.not_not] at hcond) | skip)))
local macro_rules | `(tactic| walk_at "len") => `(tactic| (refine line_le6 ?_; (try simp only [len_cat, len_e]); omega))
local macro_rules | `(tactic| walk_at "cond") => `(tactic| first | assumption | rfl | exact True.intro | omega | (exact Nat.le_of_ble_eq_true rfl) | (refine mulS ?cm1 ?cm2 <;> omega) | (refine divS ?cm1 <;> omega) | (refine And.intro ?cd1 ?cd2 <;> decide) | (exact line_le (Nat.le_of_ble_eq_true rfl)) | (exact line_lt (Nat.le_of_ble_eq_true rfl)) | (refine' Exists.intro _ (Exists.intro _ (And.intro rfl ?cm1)); (case cm1 => walk_at "at")) | (exact log_le (by omega)) | walk_at "len" | solve_by_elim | fail "no cond")
local macro_rules | `(tactic| walk_at "src") => `(tactic| first | assumption | (refine SrcStep.srcAt (S := ?ss) ?st; (case st => assumption)) | (refine SrcAt.app ?st; (case st => walk_at "src")))
local macro_rules | `(tactic| walk_at "draw") => `(tactic| (refine' Exists.intro _ (Exists.intro _ (Exists.intro ?nn (And.intro rfl (And.intro ?d1 (And.intro ?d2 (And.intro ?d3 (fun r S' h0 h1 hst => ?_))))))); (case d1 => walk_at "src"); (case d2 => omega); (case d3 => omega)))
local macro_rules | `(tactic| walk_at "steps") => `(tactic| first | assumption | (refine SrcStep.trans (n := ?sn) (S1 := ?sm) ?sx ?sy; (case sy => assumption); (case sx => walk_at "steps")) | (refine SrcAt.refl ?sz; assumption))
local macro_rules | `(tactic| walk_at "side") => `(tactic| (refine And.intro ?sd ?_; (case sd => walk_at "cond")))
local macro_rules | `(tactic| walk_at "go1") => `(tactic| (conv => whnf) <;> (first | walk_at "get" | walk_at "bool" | walk_at "draw" | walk_at "side" | fail "no step"))
local macro_rules | `(tactic| walk_at "go") => `(tactic| (repeat' (walk_at "go1")); (all_goals try (conv => whnf)))

def floorF (w h : Int) (ts : List Th) (sh : Str) : List (Str × D) := [("width", .int w), ("height", .int h), ("numbers", .dt (numsD 0 ts)), ("things", .tup (ts.map Th.d)), ("shown", .str sh)]
def floorD (C : Addr) (w h : Int) (ts : List Th) (sh : Str) : D := .obj C (floorF w h ts sh)
structure FlOk (w h : Int) (ts : List Th) : Prop where
  w1 : 1 ≤ w
  w2 : w ≤ 1000000000000000
  h1 : 1 ≤ h
  h2 : h ≤ 1000000000000000
  ok : ThsOk w h ts
  len : ts.length ≤ 40
theorem floor_bnd {w h : Int} {ts : List Th} {sh : Str} (n : Nat) : bndF n (floorF w h ts sh) := ⟨trivial, trivial, numsD_bnd _ _ _, bndL_map fun _ => ⟨trivial, trivial, trivial, trivial⟩, trivial, trivial⟩
def spOfF (C : Addr) : DSp := fun ds S Q E => ∃ (w h : Int) (ts : List Th), ds = [.cst C, .int w, .int h, .tup (ts.map Th.d)] ∧ FlOk w h ts ∧ ∀ sh : Str, Q (floorD C w h ts sh) S
theorem n_Floor_of {C : Addr} : ∀ ds S Q E, spOfF C ds S Q E → ds.length = 4 := by
  rintro ds S Q E ⟨w, h, ts, rfl, _⟩
  rfl
def kindAt (ts : List Th) (x y : Int) : Str := ((ts.find? fun t => decide (t.x = x ∧ t.y = y)).map Th.kind).getD ""
theorem num_at (x y : Int) : ∀ (ts : List Th) (i : Nat), (valD (numsD i ts) [Sum.inl x, Sum.inl y] = none ∧ kindAt ts x y = "") ∨ ∃ (j : Nat) (t : Th), ts[j]? = some t ∧ valD (numsD i ts) [Sum.inl x, Sum.inl y] = some (.int ((i + j : Nat) : Int)) ∧ kindAt ts x y = t.kind ∧ t.x = x ∧ t.y = y
  | [], i => Or.inl ⟨rfl, rfl⟩
  | a :: r, i => by
    by_cases h : a.x = x ∧ a.y = y
    · refine Or.inr ⟨0, a, rfl, ?_, ?_, h.1, h.2⟩
      · have : a.key = [Sum.inl x, Sum.inl y] := by unfold Th.key; rw [h.1, h.2]
        simp [numsD, valD, List.find?_cons, this]
      · simp [kindAt, List.find?_cons, h]
    · have hk : ¬ a.key = [Sum.inl x, Sum.inl y] := fun e => h ((by
        have := (key_eq a ⟨x, y, ""⟩).mp e
        injection this with h1 h2
        exact ⟨h1.symm, h2.symm⟩))
      have e1 : valD (numsD i (a :: r)) [Sum.inl x, Sum.inl y] = valD (numsD (i + 1) r) [Sum.inl x, Sum.inl y] := by
        simp [numsD, valD, List.find?_cons, hk]
      have e2 : kindAt (a :: r) x y = kindAt r x y := by
        simp only [kindAt, List.find?_cons, decide_eq_false h]
      rw [e1, e2]
      rcases num_at x y r (i + 1) with h1 | ⟨j, t, h1, h2, h3⟩
      · exact Or.inl h1
      · refine Or.inr ⟨j + 1, t, h1, ?_, h3⟩
        rw [h2, show i + 1 + j = i + (j + 1) by omega]
def spKind (C : Addr) : DSp := fun ds S Q E => ∃ (w h : Int) (ts : List Th) (sh : Str) (x y : Int), ds = [floorD C w h ts sh, .int x, .int y] ∧ FlOk w h ts ∧ Q (.str (kindAt ts x y)) S
theorem n_Floor_kind_at {C : Addr} : ∀ ds S Q E, spKind C ds S Q E → ds.length = 3 := by
  rintro ds S Q E ⟨w, h, ts, sh, x, y, rfl, _⟩
  rfl
def spOnFloor (C : Addr) : DSp := fun ds S Q E => ∃ (w h : Int) (ts : List Th) (sh : Str) (x y : Int), ds = [floorD C w h ts sh, .int x, .int y] ∧ FlOk w h ts ∧ ∀ b : Bool, (b = true ↔ (0 ≤ x ∧ x ≤ 2 * w ∧ 0 ≤ y ∧ y ≤ 2 * h)) → Q (.bl b) S
theorem n_on_floor {C : Addr} : ∀ ds S Q E, spOnFloor C ds S Q E → ds.length = 3 := by
  rintro ds S Q E ⟨w, h, ts, sh, x, y, rfl, _⟩
  rfl
def spCheck (C : Addr) : DSp := fun ds S Q E => ∃ (w h : Int) (ts : List Th) (sh : Str) (x y dx dy : Int), ds = [floorD C w h ts sh, rayD x y dx dy] ∧ FlOk w h ts ∧ RayOk w h x y dx dy ∧ Q .non S
theorem n_check_ray {C : Addr} : ∀ ds S Q E, spCheck C ds S Q E → ds.length = 2 := by
  rintro ds S Q E ⟨w, h, ts, sh, x, y, dx, dy, rfl, _⟩
  rfl
/-- the two factors of a turn at a point -/
def tX (w h : Int) (k : Str) (x y : Int) : Int := if x = 0 ∨ x = 2 * w then -1 else if y = 0 ∨ y = 2 * h then 1 else if k = "|" then -1 else 1
def tY (w h : Int) (k : Str) (x y : Int) : Int := if x = 0 ∨ x = 2 * w then 1 else if y = 0 ∨ y = 2 * h then -1 else if k = "-" then -1 else 1
def turnsC (A : Ads) (q : Addr) (ds : List D) : Prop := (q = A.t_TURNS0 ∧ ds = [.int 1, .int 1]) ∨ (q = A.t_TURNS1 ∧ ds = [.int (-1), .int 1]) ∨ (q = A.t_TURNS2 ∧ ds = [.int 1, .int (-1)])
def IsPair (A : Ads) (d : D) (a b : Int) : Prop := d = .tup [.int a, .int b] ∨ ∃ q, d = .cst q ∧ turnsC A q [.int a, .int b]
theorem turns_ok {w : World} {K : PySem.W.Frag} {mg : Str → Option Value} {A : Ads} {B : Fds} (T : Txt w K mg A B) : ∀ q ds, turnsC A q ds → CTup K q ds := by
  rintro q ds (⟨rfl, rfl⟩ | ⟨rfl, rfl⟩ | ⟨rfl, rfl⟩)
  · exact T.ct_TURNS0
  · exact T.ct_TURNS1
  · exact T.ct_TURNS2
/-- a point where a ray may turn: no door but at a wall -/
def TurnPt (w h : Int) (ts : List Th) (x y : Int) : Prop := x = 0 ∨ x = 2 * w ∨ y = 0 ∨ y = 2 * h ∨ kindAt ts x y = "" ∨ kindAt ts x y = "|" ∨ kindAt ts x y = "-"
def spTurn (A : Ads) : DSp := fun ds S Q E => ∃ (w h : Int) (ts : List Th) (sh : Str) (x y : Int), ds = [floorD A.a_Floor w h ts sh, .int x, .int y] ∧ FlOk w h ts ∧ TurnPt w h ts x y ∧
  ∀ d, bnd S.length d → IsPair A d (tX w h (kindAt ts x y) x y) (tY w h (kindAt ts x y) x y) → Q d S
theorem n_turn_at {A : Ads} : ∀ ds S Q E, spTurn A ds S Q E → ds.length = 3 := by
  rintro ds S Q E ⟨w, h, ts, sh, x, y, rfl, _⟩
  rfl
section
variable {P : Program} {w : World} {K : PySem.W.Frag} {mg : Str → Option Value} {base : Heap} {A : Ads} {B : Fds}
theorem ok_Floor_kind_at (T : Txt w K mg A B) : FnOk P w K mg base CX0 1 A.a_Floor_kind_at B.a_Floor_kind_at ["self", "x", "y"] (spOf K 3 (spKind A.a_Floor)) := by
  refine dfn_ok T.F_Floor_kind_at sc_Floor_kind_at n_Floor_kind_at (fun cdv A outer s H E hr => (ds_cons (ds_set (i := 3) sc_Floor_kind_at.nd rfl (.inl rfl) (de_dget1 (hu65 hr) (de_fld (dv 0) T.cl_Floor T.n_Floor_numbers) (de_tup (da_cons (dv 1) (da_cons (dv 2) da_nil))) ⟨by rfl, by rfl, by rfl, by rfl⟩))
      (ds_one (ds_ret (de_ifExp (dt_cmp od_isN (dv 3) de_non (nomark _)) de_str (de_ix ix_any (de_ix ix_any (de_fld (dv 0) T.cl_Floor T.n_Floor_things) (dv 3) (fun _ _ => rfl)) de_int (fun _ _ => rfl))))))) ?_
  rintro ds S Q E bd ⟨w, h, ts, sh, x, y, rfl, fo, q⟩
  rcases num_at x y ts 0 with ⟨e1, e2⟩ | ⟨j, t, e0, e1, e2, e3, e4⟩
  · walk_at "go"
    · rw [e2] at q
      exact Rt.same (d := .str _) trivial q
    · rename_i hc
      rw [e1] at hc
      exact absurd (show true = false from hc) (by decide)
  · walk_at "go"
    · rename_i hc
      rw [e1] at hc
      exact absurd (show false = true from hc) (by decide)
    · have e5 : atI (ts.map Th.d) (((0 + j : Nat) : Nat) : Int) = some t.d := by
        refine atI_nat ?_
        rw [Nat.zero_add, List.getElem?_map, e0]; rfl
      rw [e1]
      walk_at "go"
      rw [e2] at q
      exact Rt.same (d := .str _) trivial q
/-! rays.py -/
theorem ok_on_floor (T : Txt w K mg A B) : FnOk P w K mg base CX0 1 A.a_on_floor B.a_on_floor ["floor", "x", "y"] (spOf K 3 (spOnFloor A.a_Floor)) := by
  refine dfn_ok T.F_on_floor sc_on_floor n_on_floor (fun cdv A outer s H E hr => (ds_one (ds_ret (de_and (de_chain od_le od_le de_int (dv 1) (de_op od_mul de_int (de_fld (dv 0) T.cl_Floor T.n_Floor_width))) (de_one (de_chain od_le od_le de_int (dv 2) (de_op od_mul de_int (de_fld (dv 0) T.cl_Floor T.n_Floor_height)))))))) ?_
  rintro ds S Q E bd ⟨w, h, ts, sh, x, y, rfl, fo, q⟩
  obtain ⟨f1, f2, f3, f4, f5, f6⟩ := fo
  walk_at "go"
  all_goals
    refine Rt.same (d := .bl _) trivial (q _ ?_)
    simp only [decide_eq_true_eq, Bool.false_eq_true, false_iff]
    omega
end
end K

namespace K
open PySem L2 DL
local macro_rules | `(tactic| walk_at "w") => `(tactic| (conv => whnf))
local macro_rules | `(tactic| walk_at "at") => `(tactic| first | assumption | (refine SrcStep.get (l := ?l0) (n := ?n0) (S := ?s0) ?h1 ?h2 ?h3; (case h1 => assumption); (case h2 => omega); (case h3 => walk_at "at")) | (refine set_same (o := ?oo) ?sm; (case sm => walk_at "at")) | (refine set_other ?sm ?sn; (case sn => omega); (case sm => walk_at "at")) | (exact getElem_push _ _) | (refine app_left ?sm; (case sm => walk_at "at")) | rfl)
local macro_rules | `(tactic| walk_at "get") => `(tactic| (refine Exists.intro ?wit (And.intro ?gt ?_); (case gt => walk_at "at")))
local macro_rules | `(tactic| walk_at "bool") => `(tactic| (refine And.intro (fun hcond => ?_) (fun hcond => ?_) <;> (first | (exact absurd hcond (by decide)) | (simp only [decide_eq_true_eq, decide_eq_false_iff_not, Bool.not_eq_true', Bool.not_eq_false', Int.not_lt, Int.not_le, inD_nil, inD_int_cons, Bool.or_eq_true, Bool.or_eq_false_iff, Bool.or_false, ne_eq, Decidable.not_not] at hcond) | skip)))
local macro_rules | `(tactic| walk_at "len") => `(tactic| (refine line_le6 ?_; (try simp only [len_cat, len_e]); omega))
local macro_rules | `(tactic| walk_at "cond") => `(tactic| first | assumption | rfl | exact True.intro | omega | (exact Nat.le_of_ble_eq_true rfl) | (refine mulS ?cm1 ?cm2 <;> omega) | (refine divS ?cm1 <;> omega) | (refine And.intro ?cd1 ?cd2 <;> decide) | (exact line_le (Nat.le_of_ble_eq_true rfl)) | (exact line_lt (Nat.le_of_ble_eq_true rfl)) | (refine' Exists.intro _ (Exists.intro _ (And.intro rfl ?cm1)); (case cm1 => walk_at "at")) | (exact log_le (by omega)) | walk_at "len" | solve_by_elim | fail "no cond")
local macro_rules | `(tactic| walk_at "src") => `(tactic| first | assumption | (refine SrcStep.srcAt (S := ?ss) ?st; (case st => assumption)) | (refine SrcAt.app ?st; (case st => walk_at "src")))
local macro_rules | `(tactic| walk_at "draw") => `(tactic| (refine' Exists.intro _ (Exists.intro _ (Exists.intro ?nn (And.intro rfl (And.intro ?d1 (And.intro ?d2 (And.intro ?d3 (fun r S' h0 h1 hst => ?_))))))); (case d1 => walk_at "src"); (case d2 => omega); (case d3 => omega)))
local macro_rules | `(tactic| walk_at "steps") => `(tactic| first | assumption | (refine SrcStep.trans (n := ?sn) (S1 := ?sm) ?sx ?sy; (case sy => assumption); (case sx => walk_at "steps")) | (refine SrcAt.refl ?sz; assumption))
local macro_rules | `(tactic| walk_at "side") => `(tactic| (refine And.intro ?sd ?_; (case sd => walk_at "cond")))
local macro_rules | `(tactic| walk_at "go1") => `(tactic| (conv => whnf) <;> (first | walk_at "get" | walk_at "bool" | walk_at "draw" | walk_at "side" | fail "no step"))
local macro_rules | `(tactic| walk_at "go") => `(tactic| (repeat' (walk_at "go1")); (all_goals try (conv => whnf)))

section
variable {P : Program} {w : World} {K : PySem.W.Frag} {mg : Str → Option Value} {base : Heap} {A : Ads} {B : Fds}
theorem ok_check_ray (T : Txt w K mg A B) : FnOk P w K mg base CX0 2 A.a_check_ray B.a_check_ray ["floor", "ray"] (spOf K 2 (spCheck A.a_Floor)) := by
  refine dfn_ok T.F_check_ray sc_check_ray n_check_ray (fun cdv Ar outer s H E hr => (ds_cons (ds_asg (dv 1) (dg_tup (n := 4) rfl (dgs_cons (dg_name (i := 2) sc_check_ray.nd rfl (.inl rfl)) (dgs_cons (dg_name (i := 3) sc_check_ray.nd rfl (.inl rfl)) (dgs_cons (dg_name (i := 4) sc_check_ray.nd rfl (.inl rfl)) (dgs_cons (dg_name (i := 5) sc_check_ray.nd rfl (.inl rfl)) dgs_nil))))))
      (ds_one (ds_if (DW.pt (dw_or (dt_cmp od_neI (de_callB cd_abs rfl T.z_abs (by decide +kernel) (da_cons (dv 4) da_nil)) de_int (nomark _)) (dw_or (dt_cmp od_neI (de_callB cd_abs rfl T.z_abs (by decide +kernel) (da_cons (dv 5) da_nil)) de_int (nomark _)) (dw_or (dt_not (dt_val (de_meth (dv 0) T.cl_Floor T.m_Floor_is_point (ok_Floor_is_point T) (hr.mono (by decide)) T.b_Floor_is_point .nil rpl_nil pass0 n_Floor_is_point (da_cons (dv 2) (da_cons (dv 3) da_nil))))) (dw_or1 (dt_not (dt_val (de_call (ok_on_floor T) (hr.mono (by decide)) rfl T.g_on_floor T.k_on_floor T.b_on_floor .nil rpl_nil pass0 n_on_floor (da_cons (dv 0) (da_cons (de_op od_add (dv 2) (dv 4)) (da_cons (de_op od_add (dv 3) (dv 5)) da_nil))))))))))) (ds_one (ds_never _)) ds_nil)))) ?_
  rintro ds S Q E bd ⟨w, h, ts, sh, x, y, dx, dy, rfl, fo, r, q⟩
  have r0 := r
  have fo0 := fo
  obtain ⟨f1, f2, f3, f4, f5, f6⟩ := fo
  obtain ⟨a1, a2, a3, a4, a5, hdx, hdy, a6, a7, a8, a9⟩ := r
  rcases hdx with rfl | rfl <;> rcases hdy with rfl | rfl
  all_goals
    walk_at "go"
    refine ⟨_, _, _, _, _, rfl, Or.inl ⟨_, rfl, ⟨rfl, rfl, rfl, rfl, rfl, rfl, f1, f2, f3, f4⟩⟩, fun b hb => ?_⟩
    have hb2 : b = true := hb.mpr ⟨a1, a2, a3, a4, a5⟩
    subst hb2
    walk_at "go"
    refine ⟨_, _, _, _, _, _, rfl, fo0, fun b hb => ?_⟩
    have hb2 : b = true := hb.mpr ⟨a6, a7, a8, a9⟩
    subst hb2
    walk_at "go"
    exact Rt.same (d := .non) trivial q
theorem ok_turn_at (T : Txt w K mg A B) : FnOk P w K mg base CX0 2 A.a_turn_at B.a_turn_at ["floor", "x", "y"] (spOf K 3 (spTurn A)) := by
  refine dfn_ok T.F_turn_at sc_turn_at n_turn_at (fun cdv Ar outer s H E hr => (ds_cons (ds_if (dt_cmp od_inT (dv 1) (de_tup (da_cons de_int (da_cons (de_op od_mul de_int (de_fld (dv 0) T.cl_Floor T.n_Floor_width)) da_nil))) (by rfl)) (ds_one (ds_ret (de_tup (da_cons (de_neg de_int) (da_cons de_int da_nil))))) ds_nil)
      (ds_cons (ds_if (dt_cmp od_inT (dv 2) (de_tup (da_cons de_int (da_cons (de_op od_mul de_int (de_fld (dv 0) T.cl_Floor T.n_Floor_height)) da_nil))) (by rfl)) (ds_one (ds_ret (de_tup (da_cons de_int (da_cons (de_neg de_int) da_nil))))) ds_nil)
      (ds_one (ds_ret (de_ix (ix_kGet T.kt_TURNS) (de_globA rfl T.g_TURNS rfl) (de_meth (dv 0) T.cl_Floor T.m_Floor_kind_at (ok_Floor_kind_at T) (hr.mono (by decide)) T.b_Floor_kind_at .nil rpl_nil pass0 n_Floor_kind_at (da_cons (dv 1) (da_cons (dv 2) da_nil))) (fun _ _ => rfl))))))) ?_
  rintro ds S Q E bd ⟨w, h, ts, sh, x, y, rfl, fo, hk, q⟩
  have fo0 := fo
  obtain ⟨f1, f2, f3, f4, f5, f6⟩ := fo
  walk_at "go"
  · rename_i hc
    refine Rt.same (d := .tup [.int _, .int _]) ⟨trivial, trivial, trivial⟩ (q _ ⟨trivial, trivial, trivial⟩ (Or.inl ?_))
    have hx : tX w h (kindAt ts x y) x y = -1 := by unfold tX; rw [if_pos (by omega)]
    have hy : tY w h (kindAt ts x y) x y = 1 := by unfold tY; rw [if_pos (by omega)]
    rw [hx, hy]
  · rename_i hc1 hc2
    refine Rt.same (d := .tup [.int _, .int _]) ⟨trivial, trivial, trivial⟩ (q _ ⟨trivial, trivial, trivial⟩ (Or.inl ?_))
    have hx : tX w h (kindAt ts x y) x y = 1 := by unfold tX; rw [if_neg (by omega), if_pos (by omega)]
    have hy : tY w h (kindAt ts x y) x y = -1 := by unfold tY; rw [if_neg (by omega), if_pos (by omega)]
    rw [hx, hy]
  · rename_i hc1 hc2
    refine ⟨w, h, ts, sh, x, y, rfl, fo0, ?_⟩
    have hk2 : kindAt ts x y = "" ∨ kindAt ts x y = "|" ∨ kindAt ts x y = "-" := by
      rcases hk with h | h | h | h | h
      · omega
      · omega
      · omega
      · omega
      · exact h
    have hx : tX w h (kindAt ts x y) x y = if kindAt ts x y = "|" then -1 else 1 := by rw [tX, if_neg (by omega), if_neg (by omega)]
    have hy : tY w h (kindAt ts x y) x y = if kindAt ts x y = "-" then -1 else 1 := by rw [tY, if_neg (by omega), if_neg (by omega)]
    rw [hx, hy] at q
    rcases hk2 with e | e | e
    all_goals
      rw [e] at q ⊢
      walk_at "go"
      refine Rt.same (d := .cst _) trivial (q _ trivial (Or.inr ⟨_, rfl, ?_⟩))
    · exact Or.inl ⟨rfl, rfl⟩
    · exact Or.inr (Or.inl ⟨rfl, rfl⟩)
    · exact Or.inr (Or.inr ⟨rfl, rfl⟩)
/-- the ray behind a step, or none at a door -/
def stepR (w h : Int) (ts : List Th) (x y dx dy : Int) : Option (Int × Int × Int × Int) :=
  if kindAt ts (x + dx) (y + dy) = "o" then none else some (x + dx, y + dy, dx * tX w h (kindAt ts (x + dx) (y + dy)) (x + dx) (y + dy), dy * tY w h (kindAt ts (x + dx) (y + dy)) (x + dx) (y + dy))
def revR (w h : Int) (ts : List Th) (x y dx dy : Int) : Option (Int × Int × Int × Int) :=
  if kindAt ts x y = "o" then none else some (x, y, 0 - dx * tX w h (kindAt ts x y) x y, 0 - dy * tY w h (kindAt ts x y) x y)
def optRay : Option (Int × Int × Int × Int) → D
  | none => .non
  | some (x, y, dx, dy) => rayD x y dx dy
def spStep (C : Addr) (F : Int → Int → List Th → Int → Int → Int → Int → Option (Int × Int × Int × Int)) : DSp := fun ds S Q E => ∃ (w h : Int) (ts : List Th) (sh : Str) (x y dx dy : Int), ds = [floorD C w h ts sh, rayD x y dx dy] ∧ FlOk w h ts ∧ RayOk w h x y dx dy ∧ Q (optRay (F w h ts x y dx dy)) S
theorem n_step {C : Addr} {F : Int → Int → List Th → Int → Int → Int → Int → Option (Int × Int × Int × Int)} : ∀ ds S Q E, spStep C F ds S Q E → ds.length = 2 := by
  rintro ds S Q E ⟨w, h, ts, sh, x, y, dx, dy, rfl, _⟩
  rfl
theorem turn_pt {w h : Int} {ts : List Th} (fo : FlOk w h ts) {x y : Int} (hk : kindAt ts x y ≠ "o") : TurnPt w h ts x y := by
  rcases num_at x y ts 0 with ⟨_, e⟩ | ⟨j, t, e0, _, e, _, _⟩
  · exact Or.inr (Or.inr (Or.inr (Or.inr (Or.inl e))))
  · rcases fo.ok.all t (List.mem_of_getElem? e0) with ⟨h1 | h1, _⟩ | ⟨h1, _⟩
    · exact Or.inr (Or.inr (Or.inr (Or.inr (Or.inr (Or.inl (e.trans h1))))))
    · exact Or.inr (Or.inr (Or.inr (Or.inr (Or.inr (Or.inr (e.trans h1))))))
    · exact absurd (e.trans h1) hk
theorem tX_pm {w h : Int} {k : Str} {x y : Int} : tX w h k x y = 1 ∨ tX w h k x y = -1 := by
  unfold tX
  repeat' split
  all_goals omega
theorem tY_pm {w h : Int} {k : Str} {x y : Int} : tY w h k x y = 1 ∨ tY w h k x y = -1 := by
  unfold tY
  repeat' split
  all_goals omega
theorem n_next_ray {C : Addr} : ∀ ds S Q E, spStep C stepR ds S Q E → ds.length = 2 := n_step
theorem n_reversed_ray {C : Addr} : ∀ ds S Q E, spStep C revR ds S Q E → ds.length = 2 := n_step
theorem n_advance {C : Addr} : ∀ ds S Q E, spStep C stepR ds S Q E → ds.length = 2 := n_step
theorem n_reverse {C : Addr} : ∀ ds S Q E, spStep C revR ds S Q E → ds.length = 2 := n_step
theorem ok_reversed_ray (T : Txt w K mg A B) : FnOk P w K mg base CX0 3 A.a_reversed_ray B.a_reversed_ray ["floor", "ray"] (spOf K 2 (spStep A.a_Floor revR)) := by
  refine dfn_ok T.F_reversed_ray sc_reversed_ray n_reversed_ray (fun cdv Ar outer s H E hr => (ds_cons (ds_asg (dv 1) (dg_tup (n := 4) rfl (dgs_cons (dg_name (i := 2) sc_reversed_ray.nd rfl (.inl rfl)) (dgs_cons (dg_name (i := 3) sc_reversed_ray.nd rfl (.inl rfl)) (dgs_cons (dg_name (i := 4) sc_reversed_ray.nd rfl (.inl rfl)) (dgs_cons (dg_name (i := 5) sc_reversed_ray.nd rfl (.inl rfl)) dgs_nil))))))
      (ds_cons (ds_if (dt_cmp od_eqI (de_meth (dv 0) T.cl_Floor T.m_Floor_kind_at (ok_Floor_kind_at T) (hr.mono (by decide)) T.b_Floor_kind_at .nil rpl_nil pass0 n_Floor_kind_at (da_cons (dv 2) (da_cons (dv 3) da_nil))) (de_globSE rfl T.g_DOOR) (nomark _)) (ds_one (ds_ret de_non)) ds_nil)
      (ds_cons (ds_asg (de_call (ok_turn_at T) (hr.mono (by decide)) rfl T.g_turn_at T.k_turn_at T.b_turn_at .nil rpl_nil pass0 n_turn_at (da_cons (dv 0) (da_cons (dv 2) (da_cons (dv 3) da_nil)))) (dg_tupC (cs := turnsC A) (n := 2) rfl (turns_ok T) (dgs_cons (dg_name (i := 6) sc_reversed_ray.nd rfl (.inl rfl)) (dgs_cons (dg_name (i := 7) sc_reversed_ray.nd rfl (.inl rfl)) dgs_nil))))
      (ds_one (ds_ret (de_tup (da_cons (dv 2) (da_cons (dv 3) (da_cons (de_op od_sub de_int (de_op od_mul (dv 4) (dv 6))) (da_cons (de_op od_sub de_int (de_op od_mul (dv 5) (dv 7))) da_nil))))))))))) ?_
  rintro ds S Q E bd ⟨w, h, ts, sh, x, y, dx, dy, rfl, fo, r, q⟩
  walk_at "go"
  refine ⟨w, h, ts, sh, x, y, rfl, fo, ?_⟩
  walk_at "go"
  · rename_i hc
    have e : revR w h ts x y dx dy = none := by unfold revR; rw [if_pos hc]
    rw [e] at q
    exact Rt.same (d := .non) trivial q
  · rename_i hc
    have e : revR w h ts x y dx dy = some (x, y, 0 - dx * tX w h (kindAt ts x y) x y, 0 - dy * tY w h (kindAt ts x y) x y) := by unfold revR; rw [if_neg hc]
    rw [e] at q
    have px := tX_pm (w := w) (h := h) (k := kindAt ts x y) (x := x) (y := y)
    have py := tY_pm (w := w) (h := h) (k := kindAt ts x y) (x := x) (y := y)
    have hdx := r.hdx
    have hdy := r.hdy
    refine ⟨w, h, ts, sh, x, y, rfl, fo, turn_pt fo hc, fun d hb hp => ?_⟩
    rcases hp with rfl | ⟨q', rfl, hq⟩
    all_goals
      walk_at "go"
      exact Rt.same (d := rayD _ _ _ _) ⟨trivial, trivial, trivial, trivial, trivial⟩ q
theorem optRay_bnd (n : Nat) : ∀ o, bnd n (optRay o)
  | none => trivial
  | some (_, _, _, _) => ⟨trivial, trivial, trivial, trivial, trivial⟩
end
end K

namespace K
open PySem L2 DL
local macro_rules | `(tactic| walk_at "w") => `(tactic| (conv => whnf))
local macro_rules | `(tactic| walk_at "at") => `(tactic| first | assumption | (refine SrcStep.get (l := ?l0) (n := ?n0) (S := ?s0) ?h1 ?h2 ?h3; (case h1 => assumption); (case h2 => omega); (case h3 => walk_at "at")) | (refine set_same (o := ?oo) ?sm; (case sm => walk_at "at")) | (refine set_other ?sm ?sn; (case sn => omega); (case sm => walk_at "at")) | (exact getElem_push _ _) | (refine app_left ?sm; (case sm => walk_at "at")) | rfl)
local macro_rules | `(tactic| walk_at "get") => `(tactic| (refine Exists.intro ?wit (And.intro ?gt ?_); (case gt => walk_at "at")))
local macro_rules | `(tactic| walk_at "bool") => `(tactic| (refine And.intro (fun hcond => ?_) (fun hcond => ?_) <;> (first | (exact absurd hcond (by decide)) | (simp only [decide_eq_true_eq, decide_eq_false_iff_not, Bool.not_eq_true', Bool.not_eq_false', Int.not_lt, Int.not_le, inD_nil, inD_int_cons, Bool.or_eq_true, Bool.or_eq_false_iff, Bool.or_false, ne_eq, Decidable.not_not] at hcond) | skip)))
local macro_rules | `(tactic| walk_at "len") => `(tactic| (refine line_le6 ?_; (try simp only [len_cat, len_e]); omega))
local macro_rules | `(tactic| walk_at "cond") => `(tactic| first | assumption | rfl | exact True.intro | omega | (exact Nat.le_of_ble_eq_true rfl) | (refine mulS ?cm1 ?cm2 <;> omega) | (refine divS ?cm1 <;> omega) | (refine And.intro ?cd1 ?cd2 <;> decide) | (exact line_le (Nat.le_of_ble_eq_true rfl)) | (exact line_lt (Nat.le_of_ble_eq_true rfl)) | (refine' Exists.intro _ (Exists.intro _ (And.intro rfl ?cm1)); (case cm1 => walk_at "at")) | (exact log_le (by omega)) | walk_at "len" | solve_by_elim | fail "no cond")
local macro_rules | `(tactic| walk_at "src") => `(tactic| first | assumption | (refine SrcStep.srcAt (S := ?ss) ?st; (case st => assumption)) | (refine SrcAt.app ?st; (case st => walk_at "src")))
local macro_rules | `(tactic| walk_at "draw") => `(tactic| (refine' Exists.intro _ (Exists.intro _ (Exists.intro ?nn (And.intro rfl (And.intro ?d1 (And.intro ?d2 (And.intro ?d3 (fun r S' h0 h1 hst => ?_))))))); (case d1 => walk_at "src"); (case d2 => omega); (case d3 => omega)))
local macro_rules | `(tactic| walk_at "steps") => `(tactic| first | assumption | (refine SrcStep.trans (n := ?sn) (S1 := ?sm) ?sx ?sy; (case sy => assumption); (case sx => walk_at "steps")) | (refine SrcAt.refl ?sz; assumption))
local macro_rules | `(tactic| walk_at "side") => `(tactic| (refine And.intro ?sd ?_; (case sd => walk_at "cond")))
local macro_rules | `(tactic| walk_at "go1") => `(tactic| (conv => whnf) <;> (first | walk_at "get" | walk_at "bool" | walk_at "draw" | walk_at "side" | fail "no step"))
local macro_rules | `(tactic| walk_at "go") => `(tactic| (repeat' (walk_at "go1")); (all_goals try (conv => whnf)))

def IsGcd (g a b : Int) : Prop := 0 ≤ g ∧ ∀ d : Int, d ∣ g ↔ d ∣ a ∧ d ∣ b
def spCommon : DSp := fun ds S Q E => ∃ (a b : Int), ds = [.int a, .int b] ∧ 0 ≤ a ∧ 0 ≤ b ∧ ∀ g, IsGcd g a b → Q (.int g) S
theorem n_common : ∀ ds S Q E, spCommon ds S Q E → ds.length = 2 := by
  rintro ds S Q E ⟨a, b, rfl, _⟩
  rfl
def spInv : DSp := fun ds S Q E => ∃ (n m : Int), ds = [.int n, .int m] ∧ 1 ≤ m ∧ m ≤ 100000000000000000 ∧ (∀ d : Int, 0 < d → d ∣ n → d ∣ m → d = 1) ∧ ∀ r : Int, 0 ≤ r → r < m → (r * n) % m = 1 % m → Q (.int r) S
theorem n_inverse_of : ∀ ds S Q E, spInv ds S Q E → ds.length = 2 := by
  rintro ds S Q E ⟨n, m, rfl, _⟩
  rfl
theorem gcd_step (x y d : Int) : (d ∣ y ∧ d ∣ x % y) ↔ (d ∣ x ∧ d ∣ y) := by
  have e := Int.mul_ediv_add_emod x y
  constructor
  · rintro ⟨h1, h2⟩
    exact ⟨by rw [← e]; exact Int.dvd_add (Int.dvd_mul_of_dvd_left h1) h2, h1⟩
  · rintro ⟨h1, h2⟩
    refine ⟨h2, ?_⟩
    rw [Int.emod_def]
    exact Int.dvd_sub h1 (Int.dvd_mul_of_dvd_left h2)
/-- the state of the extended division -/
structure ExtI (n m L s f c F C : Int) : Prop where
  s0 : 0 ≤ s
  sL : s < L
  Lm : L ≤ m
  F0 : 0 ≤ F
  C0 : 0 ≤ C
  sg : (f = F ∧ c = -C) ∨ (f = -F ∧ c = C)
  eq : C * L + F * s = m
  df : m ∣ f * n - L
  dc : m ∣ c * n - s
  co : ∀ d : Int, 0 < d → d ∣ L → d ∣ s → d = 1
theorem ExtI.cm {n m L s f c F C : Int} (h : ExtI n m L s f c F C) : C ≤ m := by
  have h1 : C * 1 ≤ C * L := Int.mul_le_mul_of_nonneg_left (by have := h.s0; have := h.sL; omega) h.C0
  have h2 : 0 ≤ F * s := Int.mul_nonneg h.F0 h.s0
  have := h.eq
  omega
theorem ExtI.step {n m L s f c F C : Int} (h : ExtI n m L s f c F C) (hs : 0 < s) : ExtI n m s (L - L / s * s) c (f - L / s * c) C (F + L / s * C) := by
  have e := Int.mul_ediv_add_emod L s
  have m0 := Int.emod_nonneg L (show s ≠ 0 by omega)
  have m1 := Int.emod_lt_of_pos L hs
  have hq : 0 ≤ L / s := Int.ediv_nonneg (by have := h.sL; omega) h.s0
  have hr : L - L / s * s = L % s := by rw [Int.mul_comm (L / s) s]; omega
  obtain ⟨s0, sL, Lm, F0, C0, sg, eq, df, dc, co⟩ := h
  generalize L / s = q at *
  have qC : 0 ≤ q * C := Int.mul_nonneg hq C0
  refine ⟨by omega, by omega, by omega, C0, by omega, ?_, ?_, dc, ?_, ?_⟩
  · rcases sg with ⟨rfl, rfl⟩ | ⟨rfl, rfl⟩
    · exact Or.inr ⟨rfl, by rw [Int.mul_neg]; omega⟩
    · exact Or.inl ⟨rfl, by omega⟩
  · rw [Int.add_mul, Int.mul_sub]
    have : q * C * s = C * (q * s) := by rw [Int.mul_comm q C, Int.mul_assoc]
    omega
  · have : (f - q * c) * n - (L - q * s) = (f * n - L) - q * (c * n - s) := by
      rw [Int.sub_mul, Int.mul_sub, Int.mul_assoc]; omega
    rw [this]
    exact Int.dvd_sub df (Int.dvd_mul_of_dvd_right dc)
  · intro d hd h1 h2
    refine co d hd ?_ h1
    have : L = (L - q * s) + q * s := by omega
    rw [this]
    exact Int.dvd_add h2 (Int.dvd_mul_of_dvd_right h1)
theorem ExtI.fin {n m L s f c F C : Int} (h : ExtI n m L s f c F C) (hs : s ≤ 0) : (f % m * n) % m = 1 % m := by
  have hs0 : s = 0 := Int.le_antisymm hs h.s0
  subst hs0
  have hL : L = 1 := h.co L h.sL (Int.dvd_refl L) (Int.dvd_zero L)
  subst hL
  have e : (f * n) % m = 1 % m := Int.emod_eq_emod_iff_emod_sub_eq_zero.mpr (Int.emod_eq_zero_of_dvd h.df)
  rw [Int.mul_emod, Int.emod_emod, ← Int.mul_emod, e]
section
variable {P : Program} {w : World} {K : PySem.W.Frag} {mg : Str → Option Value} {base : Heap} {A : Ads} {B : Fds}
theorem ok_common (T : Txt w K mg A B) : FnOk P w K mg base CX0 1 A.a_common B.a_common ["first", "second"] (spOf K 2 spCommon) := by
  refine dfn_ok T.F_common sc_common n_common (fun cdv Ar outer s H E hr => (ds_cons (ds_while PassesOwn.never (dt_cmp od_gt (dv 1) de_int (nomark _)) (ds_one (ds_par (i := 0) (j := 1) rfl sc_common.nd rfl rfl (by decide) rfl rfl (da_cons (dv 1) (da_cons (de_op od_mod (dv 0) (dv 1)) da_nil)) (by rfl))))
      (ds_one (ds_ret (dv 0))))) ?_
  rintro ds S Q E bd ⟨a, b, rfl, ha, hb, q⟩
  conv => whnf
  refine ⟨fun m ρ S' => ∃ x y : Int, ρ = [some (.int x), some (.int y)] ∧ 0 ≤ x ∧ 0 ≤ y ∧ m = y.toNat ∧ (∀ d : Int, (d ∣ x ∧ d ∣ y) ↔ (d ∣ a ∧ d ∣ b)) ∧ S' = S, ⟨b.toNat, a, b, rfl, ha, hb, rfl, fun _ => Iff.rfl, rfl⟩, ?_⟩
  rintro m ρ S' ⟨x, y, rfl, hx, hy, rfl, hd, rfl⟩
  walk_at "go"
  · rename_i hc
    have m0 := Int.emod_nonneg x (show y ≠ 0 by omega)
    have m1 := Int.emod_lt_of_pos x (show 0 < y by omega)
    exact ⟨_, by omega, _, _, rfl, hy, m0, rfl, fun d => (gcd_step x y d).trans (hd d), rfl⟩
  · rename_i hc
    have hy0 : y = 0 := by omega
    subst hy0
    exact Rt.same (d := .int _) trivial (q x ⟨hx, fun d => ⟨fun h => (hd d).mp ⟨h, Int.dvd_zero d⟩, fun h => ((hd d).mpr h).1⟩⟩)
theorem ok_inverse_of (T : Txt w K mg A B) : FnOk P w K mg base CX0 1 A.a_inverse_of B.a_inverse_of ["number", "modulus"] (spOf K 2 spInv) := by
  refine dfn_ok T.F_inverse_of sc_inverse_of n_inverse_of (fun cdv Ar outer s H E hr => (ds_cons (ds_par (i := 2) (j := 3) rfl sc_inverse_of.nd rfl rfl (by decide) rfl rfl (da_cons (dv 1) (da_cons (de_op od_mod (dv 0) (dv 1)) da_nil)) (by rfl))
      (ds_cons (ds_asg (de_tup (da_cons de_int (da_cons de_int da_nil))) (dg_tup (n := 2) rfl (dgs_cons (dg_name (i := 4) sc_inverse_of.nd rfl (.inl rfl)) (dgs_cons (dg_name (i := 5) sc_inverse_of.nd rfl (.inl rfl)) dgs_nil))))
      (ds_cons (ds_while PassesOwn.never (dt_cmp od_gt (dv 3) de_int (nomark _)) (ds_cons (ds_set (i := 6) sc_inverse_of.nd rfl (.inl rfl) (de_op od_div (dv 2) (dv 3)))
      (ds_cons (ds_par (i := 2) (j := 3) rfl sc_inverse_of.nd rfl rfl (by decide) rfl rfl (da_cons (dv 3) (da_cons (de_op od_sub (dv 2) (de_op od_mul (dv 6) (dv 3))) da_nil)) (by rfl))
      (ds_one (ds_par (i := 4) (j := 5) rfl sc_inverse_of.nd rfl rfl (by decide) rfl rfl (da_cons (dv 5) (da_cons (de_op od_sub (dv 4) (de_op od_mul (dv 6) (dv 5))) da_nil)) (by rfl))))))
      (ds_one (ds_ret (de_op od_mod (dv 4) (dv 1)))))))) ?_
  rintro ds S Q E bd ⟨n, m, rfl, hm, hm2, hco, q⟩
  walk_at "go"
  refine ⟨fun k ρ S' => ∃ (L s f c F C : Int) (u : Option D), ρ = [some (.int n), some (.int m), some (.int L), some (.int s), some (.int f), some (.int c), u] ∧ ExtI n m L s f c F C ∧ k = s.toNat ∧ S' = S, ⟨_, _, _, _, _, 0, 1, _, rfl, ?_, rfl, rfl⟩, ?_⟩
  · refine ⟨Int.emod_nonneg _ (by omega), Int.emod_lt_of_pos _ (by omega), Int.le_refl _, by decide, by decide, Or.inr ⟨rfl, rfl⟩, by omega, ⟨-1, by omega⟩, ?_, fun d hd h1 h2 => ?_⟩
    · rw [Int.one_mul]
      exact ⟨n / m, by have := Int.mul_ediv_add_emod n m; omega⟩
    · refine hco d hd ?_ h1
      have e := Int.mul_ediv_add_emod n m
      rw [← e]
      exact Int.dvd_add (Int.dvd_mul_of_dvd_left h1) h2
  · rintro k ρ S' ⟨L, s, f, c, F, C, u, rfl, h, rfl, rfl⟩
    have hcm := h.cm
    obtain ⟨s0, sL, Lm, F0, C0, sg, eq, df, dc, co⟩ := id h
    by_cases hs : 0 < s
    · have hq1 : L / s ≤ L := Int.ediv_le_self _ (by omega)
      have hq0 : 0 ≤ L / s := Int.ediv_nonneg (by omega) (by omega)
      walk_at "go"
      · have hst := h.step hs
        have s1 := hst.sL
        have s2 := hst.s0
        exact ⟨_, by omega, _, _, _, _, _, _, _, rfl, hst, rfl, rfl⟩
      · omega
    · walk_at "go"
      · omega
      · exact Rt.same (d := .int _) trivial (q _ (Int.emod_nonneg _ (by omega)) (Int.emod_lt_of_pos _ (by omega)) (h.fin (by omega)))
end
end K

namespace K
open PySem L2 DL
local macro_rules | `(tactic| walk_at "w") => `(tactic| (conv => whnf))
local macro_rules | `(tactic| walk_at "at") => `(tactic| first | assumption | (refine SrcStep.get (l := ?l0) (n := ?n0) (S := ?s0) ?h1 ?h2 ?h3; (case h1 => assumption); (case h2 => omega); (case h3 => walk_at "at")) | (refine set_same (o := ?oo) ?sm; (case sm => walk_at "at")) | (refine set_other ?sm ?sn; (case sn => omega); (case sm => walk_at "at")) | (exact getElem_push _ _) | (refine app_left ?sm; (case sm => walk_at "at")) | rfl)
local macro_rules | `(tactic| walk_at "get") => `(tactic| (refine Exists.intro ?wit (And.intro ?gt ?_); (case gt => walk_at "at")))
local macro_rules | `(tactic| walk_at "bool") => `(tactic| (refine And.intro (fun hcond => ?_) (fun hcond => ?_) <;> (first | (exact absurd hcond (by decide)) | (simp only [decide_eq_true_eq, decide_eq_false_iff_not, Bool.not_eq_true', Bool.not_eq_false', Int.not_lt, Int.not_le, inD_nil, inD_int_cons, Bool.or_eq_true, Bool.or_eq_false_iff, Bool.or_false, ne_eq, Decidable.not_not] at hcond) | skip)))
local macro_rules | `(tactic| walk_at "len") => `(tactic| (refine line_le6 ?_; (try simp only [len_cat, len_e]); omega))
local macro_rules | `(tactic| walk_at "cond") => `(tactic| first | assumption | rfl | exact True.intro | omega | (exact Nat.le_of_ble_eq_true rfl) | (refine mulS ?cm1 ?cm2 <;> omega) | (refine divS ?cm1 <;> omega) | (refine And.intro ?cd1 ?cd2 <;> decide) | (exact line_le (Nat.le_of_ble_eq_true rfl)) | (exact line_lt (Nat.le_of_ble_eq_true rfl)) | (refine' Exists.intro _ (Exists.intro _ (And.intro rfl ?cm1)); (case cm1 => walk_at "at")) | (exact log_le (by omega)) | walk_at "len" | solve_by_elim | fail "no cond")
local macro_rules | `(tactic| walk_at "src") => `(tactic| first | assumption | (refine SrcStep.srcAt (S := ?ss) ?st; (case st => assumption)) | (refine SrcAt.app ?st; (case st => walk_at "src")))
local macro_rules | `(tactic| walk_at "draw") => `(tactic| (refine' Exists.intro _ (Exists.intro _ (Exists.intro ?nn (And.intro rfl (And.intro ?d1 (And.intro ?d2 (And.intro ?d3 (fun r S' h0 h1 hst => ?_))))))); (case d1 => walk_at "src"); (case d2 => omega); (case d3 => omega)))
local macro_rules | `(tactic| walk_at "steps") => `(tactic| first | assumption | (refine SrcStep.trans (n := ?sn) (S1 := ?sm) ?sx ?sy; (case sy => assumption); (case sx => walk_at "steps")) | (refine SrcAt.refl ?sz; assumption))
local macro_rules | `(tactic| walk_at "side") => `(tactic| (refine And.intro ?sd ?_; (case sd => walk_at "cond")))
local macro_rules | `(tactic| walk_at "go1") => `(tactic| (conv => whnf) <;> (first | walk_at "get" | walk_at "bool" | walk_at "draw" | walk_at "side" | fail "no step"))
local macro_rules | `(tactic| walk_at "go") => `(tactic| (repeat' (walk_at "go1")); (all_goals try (conv => whnf)))

def spEvent (C : Addr) : DSp := fun ds S Q E => ∃ (l : Nat) (a b c : D), ds = [.loc l, a, b, c] ∧ S[l]? = some (.ins C []) ∧ (bnd S.length a ∧ bnd S.length b ∧ bnd S.length c) ∧ Q .non (S.set l (.ins C [("steps", a), ("number", b), ("left", c)]))
theorem n_Event___init__ {C : Addr} : ∀ ds S Q E, spEvent C ds S Q E → ds.length = 4 := by
  rintro ds S Q E ⟨l, a, b, c, rfl, _⟩
  rfl
/-- a torus (or one that is being made) of these measures -/
structure TW (a l : Int) (fs : List (Str × D)) : Prop where
  la : fs.lookup ("across" : Str) = some (.int a)
  ll : fs.lookup ("along" : Str) = some (.int l)
  m1 : fs.lookup ("reduced" : Str) = none
  m2 : fs.lookup ("leaving" : Str) = none
  m3 : fs.lookup ("add_target" : Str) = none
  m4 : fs.lookup ("place_of" : Str) = none
  m5 : fs.lookup ("ray_at" : Str) = none
  a1 : 4 ≤ a
  a2 : a ≤ 4000000000000000
  l1 : 4 ≤ l
  l2 : l ≤ 4000000000000000
def placeD (x y : Int) : D := .tup [.int x, .int y]
def spReduced (C : Addr) : DSp := fun ds S Q E => ∃ (f : D) (a l x y : Int), ds = [f, placeD x y] ∧ Has C f S (TW a l) ∧ Q (placeD (x % a) (y % l)) S
theorem n_Torus_reduced {C : Addr} : ∀ ds S Q E, spReduced C ds S Q E → ds.length = 2 := by
  rintro ds S Q E ⟨f, a, l, x, y, rfl, _⟩
  rfl
/-- where a ray that comes to a place of a thing goes on -/
def leftD (a l : Int) (k : Str) (x y : Int) : D := if k = "o" then .non else if k = "|" then placeD ((0 - x) % a) (y % l) else placeD (x % a) ((0 - y) % l)
def spLeaving (C : Addr) : DSp := fun ds S Q E => ∃ (f : D) (a l x y : Int) (k : Str), ds = [f, placeD x y, .str k] ∧ Has C f S (TW a l) ∧ Q (leftD a l k x y) S
theorem n_Torus_leaving {C : Addr} : ∀ ds S Q E, spLeaving C ds S Q E → ds.length = 3 := by
  rintro ds S Q E ⟨f, a, l, x, y, k, rfl, _⟩
  rfl
def spPlace (C : Addr) : DSp := fun ds S Q E => ∃ (f : D) (a l x y dx dy : Int), ds = [f, rayD x y dx dy] ∧ Has C f S (TW a l) ∧ ((0 ≤ x ∧ x ≤ 4000000000000000 ∧ 0 ≤ y ∧ y ≤ 4000000000000000) ∧ (dx = 1 ∨ dx = -1) ∧ (dy = 1 ∨ dy = -1)) ∧ Q (placeD (x * dx % a) (y * dy % l)) S
theorem n_Torus_place_of {C : Addr} : ∀ ds S Q E, spPlace C ds S Q E → ds.length = 2 := by
  rintro ds S Q E ⟨f, a, l, x, y, dx, dy, rfl, _⟩
  rfl
def atR (a l x y : Int) : D := rayD (if 2 * (x % a) < a then x % a else a - x % a) (if 2 * (y % l) < l then y % l else l - y % l) (if 2 * (x % a) < a then 1 else -1) (if 2 * (y % l) < l then 1 else -1)
def spRayAt (C : Addr) : DSp := fun ds S Q E => ∃ (f : D) (a l x y : Int), ds = [f, placeD x y] ∧ Has C f S (TW a l) ∧ Q (atR a l x y) S
theorem n_Torus_ray_at {C : Addr} : ∀ ds S Q E, spRayAt C ds S Q E → ds.length = 2 := by
  rintro ds S Q E ⟨f, a, l, x, y, rfl, _⟩
  rfl
section
variable {P : Program} {w : World} {K : PySem.W.Frag} {mg : Str → Option Value} {base : Heap} {A : Ads} {B : Fds}
theorem ok_Event___init__ (T : Txt w K mg A B) : FnOk P w K mg base CX0 1 A.a_Event___init__ B.a_Event___init__ ["self", "steps", "number", "left"] (spOf K 4 (spEvent A.a_Event)) := by
  refine dfn_ok T.F_Event___init__ sc_Event___init__ n_Event___init__ (fun cdv Ar outer s H E hr => (ds_cons (ds_fld (dv 0) (dv 1) T.cl_Event T.n_Event_steps)
      (ds_cons (ds_fld (dv 0) (dv 2) T.cl_Event T.n_Event_number)
      (ds_one (ds_fld (dv 0) (dv 3) T.cl_Event T.n_Event_left))))) ?_
  rintro ds S Q E bd ⟨l, a, b, c, rfl, hl, ⟨b1, b2, b3⟩, q⟩
  have hlt : l < S.length := (List.getElem?_eq_some_iff.mp hl).1
  walk_at "go"
  rw [List.set_set, List.set_set]
  exact Rt.set (o := .ins A.a_Event [("steps", a), ("number", b), ("left", c)]) (d := .non) trivial ⟨b1, b2, b3, trivial⟩ q
theorem ok_Torus_reduced (T : Txt w K mg A B) : FnOk P w K mg base CX0 1 A.a_Torus_reduced B.a_Torus_reduced ["self", "place"] (spOf K 2 (spReduced A.a_Torus)) := by
  refine dfn_ok T.F_Torus_reduced sc_Torus_reduced n_Torus_reduced (fun cdv Ar outer s H E hr => (ds_one (ds_ret (de_tup (da_cons (de_op od_mod (de_ix ix_any (dv 1) de_int (fun _ _ => rfl)) (de_fld (dv 0) T.cl_Torus T.n_Torus_across)) (da_cons (de_op od_mod (de_ix ix_any (dv 1) de_int (fun _ _ => rfl)) (de_fld (dv 0) T.cl_Torus T.n_Torus_along)) da_nil)))))) ?_
  rintro ds S Q E bd ⟨f, a, l, x, y, rfl, hf, q⟩
  rcases hf with ⟨fs, rfl, g⟩ | ⟨l', fs, rfl, he, g⟩
  all_goals
    obtain ⟨g1, g2, g3, g4, g5, g6, g7, g8, g9, g10, g11⟩ := g
    walk_at "go"
    exact Rt.same (d := placeD _ _) ⟨trivial, trivial, trivial⟩ q
theorem ok_Torus_leaving (T : Txt w K mg A B) : FnOk P w K mg base CX0 2 A.a_Torus_leaving B.a_Torus_leaving ["self", "place", "kind"] (spOf K 3 (spLeaving A.a_Torus)) := by
  refine dfn_ok T.F_Torus_leaving sc_Torus_leaving n_Torus_leaving (fun cdv Ar outer s H E hr => (ds_cons (ds_if (dt_cmp od_eqI (dv 2) (de_globSE rfl T.g_DOOR) (nomark _)) (ds_one (ds_ret de_non)) ds_nil)
      (ds_cons (ds_if (dt_cmp od_eqI (dv 2) de_str (nomark _)) (ds_one (ds_ret (de_meth (dv 0) T.cl_Torus T.m_Torus_reduced (ok_Torus_reduced T) (hr.mono (by decide)) T.b_Torus_reduced .nil rpl_nil pass0 n_Torus_reduced (da_cons (de_tup (da_cons (de_op od_sub de_int (de_ix ix_any (dv 1) de_int (fun _ _ => rfl))) (da_cons (de_ix ix_any (dv 1) de_int (fun _ _ => rfl)) da_nil))) da_nil)))) ds_nil)
      (ds_one (ds_ret (de_meth (dv 0) T.cl_Torus T.m_Torus_reduced (ok_Torus_reduced T) (hr.mono (by decide)) T.b_Torus_reduced .nil rpl_nil pass0 n_Torus_reduced (da_cons (de_tup (da_cons (de_ix ix_any (dv 1) de_int (fun _ _ => rfl)) (da_cons (de_op od_sub de_int (de_ix ix_any (dv 1) de_int (fun _ _ => rfl))) da_nil))) da_nil))))))) ?_
  rintro ds S Q E bd ⟨f, a, l, x, y, k, rfl, hf, q⟩
  have hf0 := hf
  rcases hf with ⟨fs, rfl, g⟩ | ⟨l', fs, rfl, he, g⟩
  all_goals
    obtain ⟨g1, g2, g3, g4, g5, g6, g7, g8, g9, g10, g11⟩ := g
    unfold leftD at q
    walk_at "go"
    · rename_i hc
      rw [if_pos hc] at q
      exact Rt.same (d := .non) trivial q
    · rename_i hc1 hc2
      rw [if_neg hc1, if_pos hc2] at q
      refine ⟨_, a, l, _, _, rfl, hf0, ?_⟩
      exact Rt.same (d := placeD _ _) ⟨trivial, trivial, trivial⟩ q
    · rename_i hc1 hc2
      rw [if_neg hc1, if_neg hc2] at q
      refine ⟨_, a, l, _, _, rfl, hf0, ?_⟩
      exact Rt.same (d := placeD _ _) ⟨trivial, trivial, trivial⟩ q
theorem ok_Torus_place_of (T : Txt w K mg A B) : FnOk P w K mg base CX0 2 A.a_Torus_place_of B.a_Torus_place_of ["self", "ray"] (spOf K 2 (spPlace A.a_Torus)) := by
  refine dfn_ok T.F_Torus_place_of sc_Torus_place_of n_Torus_place_of (fun cdv Ar outer s H E hr => (ds_cons (ds_asg (dv 1) (dg_tup (n := 4) rfl (dgs_cons (dg_name (i := 2) sc_Torus_place_of.nd rfl (.inl rfl)) (dgs_cons (dg_name (i := 3) sc_Torus_place_of.nd rfl (.inl rfl)) (dgs_cons (dg_name (i := 4) sc_Torus_place_of.nd rfl (.inl rfl)) (dgs_cons (dg_name (i := 5) sc_Torus_place_of.nd rfl (.inl rfl)) dgs_nil))))))
      (ds_one (ds_ret (de_meth (dv 0) T.cl_Torus T.m_Torus_reduced (ok_Torus_reduced T) (hr.mono (by decide)) T.b_Torus_reduced .nil rpl_nil pass0 n_Torus_reduced (da_cons (de_tup (da_cons (de_op od_mul (dv 2) (dv 4)) (da_cons (de_op od_mul (dv 3) (dv 5)) da_nil))) da_nil)))))) ?_
  rintro ds S Q E bd ⟨f, a, l, x, y, dx, dy, rfl, hf, ⟨⟨b1, b2, b3, b4⟩, b5, b6⟩, q⟩
  have hf0 := hf
  rcases hf with ⟨fs, rfl, g⟩ | ⟨l', fs, rfl, he, g⟩
  all_goals
    obtain ⟨g1, g2, g3, g4, g5, g6, g7, g8, g9, g10, g11⟩ := g
    walk_at "go"
    refine ⟨_, a, l, _, _, rfl, hf0, ?_⟩
    exact Rt.same (d := placeD _ _) ⟨trivial, trivial, trivial⟩ q
theorem ok_Torus_ray_at (T : Txt w K mg A B) : FnOk P w K mg base CX0 2 A.a_Torus_ray_at B.a_Torus_ray_at ["self", "place"] (spOf K 2 (spRayAt A.a_Torus)) := by
  refine dfn_ok T.F_Torus_ray_at sc_Torus_ray_at n_Torus_ray_at (fun cdv Ar outer s H E hr => (ds_cons (ds_asg (de_meth (dv 0) T.cl_Torus T.m_Torus_reduced (ok_Torus_reduced T) (hr.mono (by decide)) T.b_Torus_reduced .nil rpl_nil pass0 n_Torus_reduced (da_cons (dv 1) da_nil)) (dg_tup (n := 2) rfl (dgs_cons (dg_name (i := 2) sc_Torus_ray_at.nd rfl (.inl rfl)) (dgs_cons (dg_name (i := 3) sc_Torus_ray_at.nd rfl (.inl rfl)) dgs_nil))))
      (ds_cons (ds_par (i := 4) (j := 5) rfl sc_Torus_ray_at.nd rfl rfl (by decide) rfl rfl (da_cons (de_ifExp (dt_cmp od_lt (de_op od_mul de_int (dv 2)) (de_fld (dv 0) T.cl_Torus T.n_Torus_across) (nomark _)) de_int (de_neg de_int)) (da_cons (de_ifExp (dt_cmp od_lt (de_op od_mul de_int (dv 3)) (de_fld (dv 0) T.cl_Torus T.n_Torus_along) (nomark _)) de_int (de_neg de_int)) da_nil)) (by rfl))
      (ds_one (ds_ret (de_tup (da_cons (de_ifExp (dt_cmp od_eqI (dv 4) de_int (nomark _)) (dv 2) (de_op od_sub (de_fld (dv 0) T.cl_Torus T.n_Torus_across) (dv 2))) (da_cons (de_ifExp (dt_cmp od_eqI (dv 5) de_int (nomark _)) (dv 3) (de_op od_sub (de_fld (dv 0) T.cl_Torus T.n_Torus_along) (dv 3))) (da_cons (dv 4) (da_cons (dv 5) da_nil)))))))))) ?_
  rintro ds S Q E bd ⟨f, a, l, x, y, rfl, hf, q⟩
  have hf0 := hf
  rcases hf with ⟨fs, rfl, g⟩ | ⟨l', fs, rfl, he, g⟩
  all_goals
    obtain ⟨g1, g2, g3, g4, g5, g6, g7, g8, g9, g10, g11⟩ := g
    have m1 := Int.emod_nonneg x (show a ≠ 0 by omega)
    have m2 := Int.emod_lt_of_pos x (show 0 < a by omega)
    have m3 := Int.emod_nonneg y (show l ≠ 0 by omega)
    have m4 := Int.emod_lt_of_pos y (show 0 < l by omega)
    unfold atR at q
    walk_at "go"
    refine ⟨_, a, l, _, _, rfl, hf0, ?_⟩
    walk_at "go"
    all_goals
      rename_i h1 h2 h3 h4
      refine Rt.same (d := rayD _ _ _ _) ⟨trivial, trivial, trivial, trivial, trivial⟩ ?_
      by_cases c1 : 2 * (x % a) < a <;> by_cases c2 : 2 * (y % l) < l <;> first
        | (exfalso; omega)
        | (simp only [c1, c2, ↓reduceIte] at q; exact q)
end
end K

namespace K
open PySem L2 DL
local macro_rules | `(tactic| walk_at "w") => `(tactic| (conv => whnf))
local macro_rules | `(tactic| walk_at "at") => `(tactic| first | assumption | (refine SrcStep.get (l := ?l0) (n := ?n0) (S := ?s0) ?h1 ?h2 ?h3; (case h1 => assumption); (case h2 => omega); (case h3 => walk_at "at")) | (refine set_same (o := ?oo) ?sm; (case sm => walk_at "at")) | (refine set_other ?sm ?sn; (case sn => omega); (case sm => walk_at "at")) | (exact getElem_push _ _) | (refine app_left ?sm; (case sm => walk_at "at")) | rfl)
local macro_rules | `(tactic| walk_at "get") => `(tactic| (refine Exists.intro ?wit (And.intro ?gt ?_); (case gt => walk_at "at")))
local macro_rules | `(tactic| walk_at "bool") => `(tactic| (refine And.intro (fun hcond => ?_) (fun hcond => ?_) <;> (first | (exact absurd hcond (by decide)) | (simp only [decide_eq_true_eq, decide_eq_false_iff_not, Bool.not_eq_true', Bool.not_eq_false', Int.not_lt, Int.not_le, inD_nil, inD_int_cons, Bool.or_eq_true, Bool.or_eq_false_iff, Bool.or_false, ne_eq, Decidable.not_not] at hcond) | skip)))
local macro_rules | `(tactic| walk_at "len") => `(tactic| (refine line_le6 ?_; (try simp only [len_cat, len_e]); omega))
local macro_rules | `(tactic| walk_at "cond") => `(tactic| first | assumption | rfl | exact True.intro | omega | (exact Nat.le_of_ble_eq_true rfl) | (refine mulS ?cm1 ?cm2 <;> omega) | (refine divS ?cm1 <;> omega) | (refine And.intro ?cd1 ?cd2 <;> decide) | (exact line_le (Nat.le_of_ble_eq_true rfl)) | (exact line_lt (Nat.le_of_ble_eq_true rfl)) | (refine' Exists.intro _ (Exists.intro _ (And.intro rfl ?cm1)); (case cm1 => walk_at "at")) | (exact log_le (by omega)) | walk_at "len" | solve_by_elim | fail "no cond")
local macro_rules | `(tactic| walk_at "src") => `(tactic| first | assumption | (refine SrcStep.srcAt (S := ?ss) ?st; (case st => assumption)) | (refine SrcAt.app ?st; (case st => walk_at "src")))
local macro_rules | `(tactic| walk_at "draw") => `(tactic| (refine' Exists.intro _ (Exists.intro _ (Exists.intro ?nn (And.intro rfl (And.intro ?d1 (And.intro ?d2 (And.intro ?d3 (fun r S' h0 h1 hst => ?_))))))); (case d1 => walk_at "src"); (case d2 => omega); (case d3 => omega)))
local macro_rules | `(tactic| walk_at "steps") => `(tactic| first | assumption | (refine SrcStep.trans (n := ?sn) (S1 := ?sm) ?sx ?sy; (case sy => assumption); (case sx => walk_at "steps")) | (refine SrcAt.refl ?sz; assumption))
local macro_rules | `(tactic| walk_at "side") => `(tactic| (refine And.intro ?sd ?_; (case sd => walk_at "cond")))
local macro_rules | `(tactic| walk_at "go1") => `(tactic| (conv => whnf) <;> (first | walk_at "get" | walk_at "bool" | walk_at "draw" | walk_at "side" | fail "no step"))
local macro_rules | `(tactic| walk_at "go") => `(tactic| (repeat' (walk_at "go1")); (all_goals try (conv => whnf)))

/-- a new list, let go as a tree -/
theorem Rt.lstT {S S' : Store} {Q : DK} {l : Nat} {ds : List D} (hl : S.length ≤ l) (he : S'[l]? = some (.lst ds)) (hb : bndL S.length ds) (ho : ∀ m, m < S.length → S'[m]? = S[m]?) (q : Q (.lst ds) S) : Rt S Q (.loc l) S' := by
  refine Rt.cutTo (S'' := S) ⟨rfl, fun m o hm e => ?_⟩ (.lst hl he hb) q
  rw [ho m hm] at e
  exact Or.inl ⟨e, e⟩
theorem Rt.set2 {S : Store} {Q : DK} {l m : Nat} {o1 o2 : Ob} {d : D} (hb : bnd S.length d) (h1 : bndO S.length o1) (h2 : bndO S.length o2) (q : Q d ((S.set l o1).set m o2)) : Rt S Q d ((S.set l o1).set m o2) := by
  refine Rt.cutTo (S'' := (S.set l o1).set m o2) ⟨by rw [List.length_set, List.length_set], fun k o hk e => ?_⟩ (.same hb) q
  by_cases c1 : m = k
  · subst c1
    rw [List.getElem?_set_self (by rw [List.length_set]; exact hk)] at e
    cases e
    exact Or.inr ⟨_, List.getElem?_set_self (by rw [List.length_set]; exact hk), .same h2⟩
  · rw [List.getElem?_set_ne c1] at e
    by_cases c2 : l = k
    · subst c2
      rw [List.getElem?_set_self hk] at e
      cases e
      exact Or.inr ⟨_, by rw [List.getElem?_set_ne c1]; exact List.getElem?_set_self hk, .same h1⟩
    · rw [List.getElem?_set_ne c2] at e
      exact Or.inl ⟨e, by rw [List.getElem?_set_ne c1, List.getElem?_set_ne c2]; exact e⟩
/-- a target: its place, the thing's number, where a ray goes on -/
structure Tg where
  x : Int
  y : Int
  n : Nat
  left : Option (Int × Int)
def optPlace : Option (Int × Int) → D
  | none => .non
  | some (x, y) => placeD x y
def Tg.ent (t : Tg) : List Key × D := ([.inl t.x, .inl t.y], .tup [.int (t.n : Nat), optPlace t.left])
def Tg.pl (t : Tg) : D := placeD t.x t.y
/-- the places of one remainder -/
def inClass (u r : Int) (tg : List Tg) : List Tg := tg.filter fun t => decide ((t.x - t.y) % u = r)
structure ClOk (u : Int) (tg : List Tg) (cl : List (Key × D)) : Prop where
  at_ : ∀ r : Int, valD cl (.inl r) = if inClass u r tg = [] then none else some (.lst ((inClass u r tg).map Tg.pl))
  vals : ∀ kv ∈ cl, ∃ ps : List Tg, kv.2 = .lst (ps.map Tg.pl)
theorem valD_sto {κ : Type} [DecidableEq κ] (k j : κ) (d : D) : ∀ kvs : List (κ × D), valD (stoD kvs k d) j = if j = k then some d else valD kvs j := by
  intro kvs
  unfold stoD
  by_cases h : (kvs.any fun kv => decide (kv.1 = k)) = true
  · rw [if_pos h]
    induction kvs with
    | nil => simp at h
    | cons p r ih =>
      obtain ⟨a, b⟩ := p
      by_cases ha : a = k
      · subst ha
        by_cases hj : j = a
        · subst hj; simp [valD, List.find?_cons]
        · have hj' : ¬ a = j := fun e => hj e.symm
          rw [if_neg hj]
          have : ∀ r : List (κ × D), valD (r.map fun kv => if kv.1 = a then (kv.1, d) else kv) j = valD r j := fun r => by
            induction r with
            | nil => rfl
            | cons p r ih =>
              obtain ⟨a', b'⟩ := p
              by_cases h1 : a' = a
              · subst h1
                simp only [List.map_cons, ↓reduceIte]
                simp only [valD, List.find?_cons, decide_eq_false hj'] at ih ⊢
                exact ih
              · by_cases h2 : a' = j
                · subst h2; simp [valD, List.find?_cons, h1]
                · simp only [List.map_cons, if_neg h1]
                  simp only [valD, List.find?_cons, decide_eq_false h2] at ih ⊢
                  exact ih
          exact this _
      · rw [List.any_cons, decide_eq_false ha, Bool.false_or] at h
        have ih := ih h
        rw [List.map_cons, if_neg ha]
        by_cases h2 : a = j
        · subst h2
          rw [if_neg ha]
          simp [valD, List.find?_cons]
        · simp only [valD, List.find?_cons, decide_eq_false h2] at ih ⊢
          exact ih
  · rw [if_neg h]
    have h : (kvs.any fun kv => decide (kv.1 = k)) = false := Bool.eq_false_iff.mpr h
    by_cases hj : j = k
    · subst hj
      rw [if_pos rfl]
      have h0 : valD kvs j = none := by
        have := valD_any j kvs
        rw [h] at this
        cases e : valD kvs j with
        | none => rfl
        | some x => rw [e] at this; cases this
      unfold valD at h0 ⊢
      rw [List.find?_append]
      cases e : kvs.find? fun kv => decide (kv.1 = j) with
      | none => simp
      | some x => rw [e] at h0; cases h0
    · rw [if_neg hj]
      have hk : ¬ k = j := fun e => hj e.symm
      unfold valD
      rw [List.find?_append]
      simp [hk]
theorem tg_any (x y : Int) : ∀ tg : List Tg, ((tg.map Tg.ent).any fun kv => decide (kv.1 = [Sum.inl x, Sum.inl y])) = decide ((x, y) ∈ tg.map fun t => (t.x, t.y))
  | [] => rfl
  | a :: r => by
    rw [List.map_cons, List.any_cons, tg_any x y r, List.map_cons, ← Bool.decide_or]
    apply decide_eq_decide.mpr
    rw [List.mem_cons]
    have : (a.ent.1 = [Sum.inl x, Sum.inl y]) ↔ (x, y) = (a.x, a.y) := by
      unfold Tg.ent
      constructor
      · intro h
        injection h with h1 h2
        injection h2 with h2 h3
        injection h1 with h1
        injection h2 with h2
        rw [h1, h2]
      · intro h
        injection h with h1 h2
        rw [h1, h2]
    rw [this]
theorem tg_mem {x y : Int} {tg : List Tg} {b : Bool} (h : (valD (tg.map Tg.ent) [Sum.inl x, Sum.inl y]).isSome = b) : b = true ↔ (x, y) ∈ tg.map fun t => (t.x, t.y) := by
  rw [← h, valD_any, tg_any, decide_eq_true_eq]
theorem tg_sto {t : Tg} {tg : List Tg} (h : (t.x, t.y) ∉ tg.map fun t => (t.x, t.y)) : stoD (tg.map Tg.ent) [Sum.inl t.x, Sum.inl t.y] (.tup [.int (t.n : Nat), optPlace t.left]) = (tg ++ [t]).map Tg.ent := by
  unfold stoD
  rw [tg_any, decide_eq_false h, if_neg (by decide), List.map_append]
  rfl
theorem optPlace_bnd (n : Nat) : ∀ o, bnd n (optPlace o)
  | none => trivial
  | some (_, _) => ⟨trivial, trivial, trivial⟩
theorem tg_bnd (n : Nat) : ∀ tg : List Tg, bndT n (tg.map Tg.ent)
  | [] => trivial
  | t :: r => ⟨⟨trivial, optPlace_bnd n _, trivial⟩, tg_bnd n r⟩
theorem ClOk.add {u : Int} {tg : List Tg} {cl : List (Key × D)} (h : ClOk u tg cl) (t : Tg) : ClOk u (tg ++ [t]) (stoD cl (.inl ((t.x - t.y) % u)) (.lst ((inClass u ((t.x - t.y) % u) tg).map Tg.pl ++ [t.pl]))) := by
  refine ⟨fun r => ?_, fun kv hkv => ?_⟩
  rotate_left
  · unfold stoD at hkv
    have e : (inClass u ((t.x - t.y) % u) tg).map Tg.pl ++ [t.pl] = (inClass u ((t.x - t.y) % u) tg ++ [t]).map Tg.pl := by rw [List.map_append]; rfl
    split at hkv
    · obtain ⟨kv', h1, rfl⟩ := List.mem_map.mp hkv
      split
      · exact ⟨_, by rw [e]⟩
      · exact h.vals kv' h1
    · rcases List.mem_append.mp hkv with h1 | h1
      · exact h.vals kv h1
      · rw [List.mem_singleton] at h1
        subst h1
        exact ⟨_, by rw [e]⟩
  rw [valD_sto]
  by_cases hr : r = (t.x - t.y) % u
  · subst hr
    have e : inClass u ((t.x - t.y) % u) (tg ++ [t]) = inClass u ((t.x - t.y) % u) tg ++ [t] := by
      simp [inClass, List.filter_append]
    rw [if_pos rfl, e, if_neg (by simp), List.map_append]
    rfl
  · have e : inClass u r (tg ++ [t]) = inClass u r tg := by
      have : ¬ (t.x - t.y) % u = r := fun e => hr e.symm
      simp [inClass, List.filter_append, this]
    rw [if_neg (fun e => hr (by injection e)), e]
    exact h.at_ r
theorem cl_bnd {u : Int} {tg : List Tg} (n : Nat) : ∀ {cl : List (Key × D)}, ClOk u tg cl → bndK n cl := fun {cl} h => by
  have := h.vals
  clear h
  induction cl with
  | nil => trivial
  | cons p r ih =>
    obtain ⟨k, d⟩ := p
    obtain ⟨ps, e⟩ := this (k, d) List.mem_cons_self
    have e : d = .lst (ps.map Tg.pl) := e
    subst e
    exact ⟨bndL_map fun _ => ⟨trivial, trivial, trivial⟩, ih fun kv h => this kv (List.mem_cons_of_mem _ h)⟩
/-- a torus that is being made: its dicts at lt and lc -/
structure TM (a l u : Int) (lt lc : Nat) (fs : List (Str × D)) : Prop where
  tw : TW a l fs
  lu : fs.lookup ("unit" : Str) = some (.int u)
  tg : fs.lookup ("targets" : Str) = some (.loc lt)
  cl : fs.lookup ("classes" : Str) = some (.loc lc)
  u0 : 0 < u
def spAdd (C : Addr) : DSp := fun ds S Q E => ∃ (s lt lc : Nat) (fs : List (Str × D)) (a l u : Int) (tg : List Tg) (cl : List (Key × D)) (t : Tg), ds = [.loc s, t.pl, .int (t.n : Nat), optPlace t.left] ∧ S[s]? = some (.ins C fs) ∧ TM a l u lt lc fs ∧
  S[lt]? = some (.dt (tg.map Tg.ent)) ∧ S[lc]? = some (.dk cl) ∧ lt ≠ lc ∧ ClOk u tg cl ∧ (tg.length < 1000 ∧ cl.length < 1000) ∧
  ((t.x, t.y) ∈ tg.map (fun t => (t.x, t.y)) → Q .non S) ∧
  ((t.x, t.y) ∉ tg.map (fun t => (t.x, t.y)) → Q .non ((S.set lt (.dt ((tg ++ [t]).map Tg.ent))).set lc (.dk (stoD cl (.inl ((t.x - t.y) % u)) (.lst ((inClass u ((t.x - t.y) % u) tg).map Tg.pl ++ [t.pl])))))  )
theorem n_Torus_add_target {C : Addr} : ∀ ds S Q E, spAdd C ds S Q E → ds.length = 4 := by
  rintro ds S Q E ⟨s, lt, lc, fs, a, l, u, tg, cl, t, rfl, _⟩
  rfl
section
variable {P : Program} {w : World} {K : PySem.W.Frag} {mg : Str → Option Value} {base : Heap} {A : Ads} {B : Fds}
theorem ok_Torus_add_target (T : Txt w K mg A B) : FnOk P w K mg base CX0 1 A.a_Torus_add_target B.a_Torus_add_target ["self", "place", "number", "left"] (spOf K 4 (spAdd A.a_Torus)) := by
  refine dfn_ok T.F_Torus_add_target sc_Torus_add_target n_Torus_add_target (fun cdv Ar outer s H E hr => (ds_one (ds_if (dt_cmp (od_dNotIn (hu65 hr)) (dv 1) (de_fld (dv 0) T.cl_Torus T.n_Torus_targets) (by rfl)) (ds_cons (ds_asg (de_tup (da_cons (dv 2) (da_cons (dv 3) da_nil))) (dg_put (hu65 hr) (de_fld (dv 0) T.cl_Torus T.n_Torus_targets) (dv 1)))
      (ds_cons (ds_set (i := 4) sc_Torus_add_target.nd rfl (.inl rfl) (de_op od_mod (de_op od_sub (de_ix ix_any (dv 1) de_int (fun _ _ => rfl)) (de_ix ix_any (dv 1) de_int (fun _ _ => rfl))) (de_fld (dv 0) T.cl_Torus T.n_Torus_unit)))
      (ds_one (ds_asg (de_gc (de_lst (da_star (de_dget2 (hu65 hr) (de_fld (dv 0) T.cl_Torus T.n_Torus_classes) (dv 4) (de_lst da_nil) ⟨by rfl, by rfl, by rfl, by rfl⟩) (da_cons (dv 1) da_nil)))) (dg_put (hu65 hr) (de_fld (dv 0) T.cl_Torus T.n_Torus_classes) (dv 4)))))) ds_nil))) ?_
  rintro ds S Q E bd ⟨s, lt, lc, fs, a, l, u, tg, cl, t, rfl, hs, ⟨tw, lu, ltg, lcl, u0⟩, h1, h2, hne, hcl, ⟨hz1, hz2⟩, q1, q2⟩
  have hz3 : (tg.map Tg.ent).length < sizeLine := line_lt (by rw [List.length_map]; omega)
  have hz4 : cl.length < sizeLine := line_lt (by omega)
  have n1 : lt ≠ s := fun e => by subst e; rw [hs] at h1; cases h1
  have n2 : lc ≠ s := fun e => by subst e; rw [hs] at h2; cases h2
  walk_at "go"
  · rename_i hc
    have hm : (t.x, t.y) ∉ tg.map fun t => (t.x, t.y) := fun h => absurd ((tg_mem hc).mpr h) (by decide)
    have q2 := q2 hm
    rw [tg_sto hm]
    walk_at "go"
    refine ⟨Or.inl ⟨cl, by walk_at "at"⟩, ?_⟩
    walk_at "go"
    have hv := hcl.at_ ((t.x - t.y) % u)
    have hlen : (inClass u ((t.x - t.y) % u) tg).length ≤ tg.length := List.length_filter_le ..
    have fin : ∀ xs : List D, xs = (inClass u ((t.x - t.y) % u) tg).map Tg.pl ++ [t.pl] → xs.length ≤ sizeLine ∧
        Rt (S.set lt (.dt ((tg ++ [t]).map Tg.ent))) (fun d S1 => gdPut (dFld A.a_Torus (dVar 0) "classes") (dVar 4) d [some (.loc s), some t.pl, some (.int (t.n : Nat)), some (optPlace t.left), some (.int ((t.x - t.y) % u))] S1 fun _ S' => Rt S Q .non S')
          (.loc (S.set lt (.dt ((tg ++ [t]).map Tg.ent)) ++ [Ob.lst []]).length) (S.set lt (.dt ((tg ++ [t]).map Tg.ent)) ++ [Ob.lst []] ++ [Ob.lst xs]) := by
      rintro xs rfl
      refine ⟨line_le (by rw [List.length_append, List.length_map]; simp only [List.length_cons, List.length_nil]; omega), ?_⟩
      refine Rt.lstT (by rw [List.length_append]; omega) (getElem_push _ _) ?_ (fun m hm => ?_) ?_
      · have e : (inClass u ((t.x - t.y) % u) tg).map Tg.pl ++ [t.pl] = (inClass u ((t.x - t.y) % u) tg ++ [t]).map Tg.pl := by rw [List.map_append]; rfl
        rw [e]
        exact bndL_map fun _ => ⟨trivial, trivial, trivial⟩
      · rw [List.getElem?_append_left (by rw [List.length_append]; omega), List.getElem?_append_left hm]
      · walk_at "go"
        refine Rt.set2 (o1 := .dt ((tg ++ [t]).map Tg.ent)) (d := .non) trivial ?_ ?_ q2
        · exact tg_bnd _ _
        · exact cl_bnd _ (hcl.add t)
    by_cases he : inClass u ((t.x - t.y) % u) tg = []
    · rw [if_pos he] at hv
      rw [hv]
      walk_at "go"
      exact (fin ([] ++ [t.pl]) (by simp [he])).2
    · rw [if_neg he] at hv
      rw [hv]
      walk_at "go"
      exact fin _ rfl
  · rename_i hc
    exact Rt.same (d := .non) trivial (q1 ((tg_mem hc).mp rfl))
end
end K

namespace K
open PySem L2 DL
local macro_rules | `(tactic| walk_at "w") => `(tactic| (conv => whnf))
local macro_rules | `(tactic| walk_at "at") => `(tactic| first | assumption | (refine SrcStep.get (l := ?l0) (n := ?n0) (S := ?s0) ?h1 ?h2 ?h3; (case h1 => assumption); (case h2 => omega); (case h3 => walk_at "at")) | (refine set_same (o := ?oo) ?sm; (case sm => walk_at "at")) | (refine set_other ?sm ?sn; (case sn => omega); (case sm => walk_at "at")) | (exact getElem_push _ _) | (refine app_left ?sm; (case sm => walk_at "at")) | rfl)
local macro_rules | `(tactic| walk_at "get") => `(tactic| (refine Exists.intro ?wit (And.intro ?gt ?_); (case gt => walk_at "at")))
local macro_rules | `(tactic| walk_at "bool") => `(tactic| (refine And.intro (fun hcond => ?_) (fun hcond => ?_) <;> (first | (exact absurd hcond (by decide)) | (simp only [decide_eq_true_eq, decide_eq_false_iff_not, Bool.not_eq_true', Bool.not_eq_false', Int.not_lt, Int.not_le, inD_nil, inD_int_cons, Bool.or_eq_true, Bool.or_eq_false_iff, Bool.or_false, ne_eq, Decidable.not_not] at hcond) | skip)))
local macro_rules | `(tactic| walk_at "len") => `(tactic| (refine line_le6 ?_; (try simp only [len_cat, len_e]); omega))
local macro_rules | `(tactic| walk_at "cond") => `(tactic| first | assumption | rfl | exact True.intro | omega | (exact Nat.le_of_ble_eq_true rfl) | (refine mulS ?cm1 ?cm2 <;> omega) | (refine divS ?cm1 <;> omega) | (refine And.intro ?cd1 ?cd2 <;> decide) | (exact line_le (Nat.le_of_ble_eq_true rfl)) | (exact line_lt (Nat.le_of_ble_eq_true rfl)) | (refine' Exists.intro _ (Exists.intro _ (And.intro rfl ?cm1)); (case cm1 => walk_at "at")) | (exact log_le (by omega)) | walk_at "len" | solve_by_elim | fail "no cond")
local macro_rules | `(tactic| walk_at "src") => `(tactic| first | assumption | (refine SrcStep.srcAt (S := ?ss) ?st; (case st => assumption)) | (refine SrcAt.app ?st; (case st => walk_at "src")))
local macro_rules | `(tactic| walk_at "draw") => `(tactic| (refine' Exists.intro _ (Exists.intro _ (Exists.intro ?nn (And.intro rfl (And.intro ?d1 (And.intro ?d2 (And.intro ?d3 (fun r S' h0 h1 hst => ?_))))))); (case d1 => walk_at "src"); (case d2 => omega); (case d3 => omega)))
local macro_rules | `(tactic| walk_at "steps") => `(tactic| first | assumption | (refine SrcStep.trans (n := ?sn) (S1 := ?sm) ?sx ?sy; (case sy => assumption); (case sx => walk_at "steps")) | (refine SrcAt.refl ?sz; assumption))
local macro_rules | `(tactic| walk_at "side") => `(tactic| (refine And.intro ?sd ?_; (case sd => walk_at "cond")))
local macro_rules | `(tactic| walk_at "go1") => `(tactic| (conv => whnf) <;> (first | walk_at "get" | walk_at "bool" | walk_at "draw" | walk_at "side" | fail "no step"))
local macro_rules | `(tactic| walk_at "go") => `(tactic| (repeat' (walk_at "go1")); (all_goals try (conv => whnf)))

theorem de_make {X : Cx} {e : Expr} {es : List Expr} {p pos : Pos} {td : DA} {k n : Nat} {f C : Addr} {fd : FuncData} {ps : List Str} {dsp : DSp} {dvs : List V} {dds : List D} {dfs : List Value} {x : Str}
    (M : Mk X.K C f) (F : FnOk X.prog X.w X.K X.mg X.base CX0 k f fd ps (spOf X.K n dsp)) (hr : Room (k + 1) X.A) (hg : Gl X x) (hm : X.mg x = some (.ref C)) (hb : Binds X.K fd ps dfs) (hd : Vals dvs dfs) (hdd : ∀ α H, RpL X.K α H dvs dds) (hx : Passes CX0 X E0)
    (hn : ∀ ds S Q E, dsp ds S Q E → ds.length = n) (ha : DAs X (e :: es) td) (hdb : (x == ("__debug__" : Str)) = false := by decide)
    (he : starEach (e :: es) X.env = (false, eval e X.env) :: starEach es X.env := by rfl) (hpl : (backTo pos (starEach es X.env)).any (·.1) = false := by rfl) : DE X (.Call (.Name x p) (e :: es) [] pos) (dMake C dsp dds td) := by
  obtain ⟨⟨t1, h1, h2⟩⟩ := ha
  exact ⟨_, pe_make M F hr hg hm hb hd hx h1 hdb he hpl, lift_make h2 hdd hn⟩
/-- the numbers of a torus -/
structure TNum where
  a : Int
  l : Int
  u : Int
  rest : Int
  circ : Int
  fac : Int
structure TNum.Ok (n : TNum) : Prop where
  a1 : 4 ≤ n.a
  a2 : n.a ≤ 4000000000000000
  l1 : 4 ≤ n.l
  l2 : n.l ≤ 4000000000000000
  u1 : 0 < n.u
  u2 : n.u ≤ 4000000000000000
  r1 : 0 < n.rest
  r2 : n.rest ≤ 4000000000000000
  f1 : 0 ≤ n.fac
  f2 : n.fac ≤ 4000000000000000
/-- a torus that is made, with its targets -/
structure TD (n : TNum) (tg : List Tg) (fs : List (Str × D)) : Prop where
  ok : n.Ok
  la : fs.lookup ("across" : Str) = some (.int n.a)
  ll : fs.lookup ("along" : Str) = some (.int n.l)
  lu : fs.lookup ("unit" : Str) = some (.int n.u)
  lr : fs.lookup ("rest" : Str) = some (.int n.rest)
  lc : fs.lookup ("circuit" : Str) = some (.int n.circ)
  lf : fs.lookup ("factor" : Str) = some (.int n.fac)
  lt : fs.lookup ("targets" : Str) = some (.dt (tg.map Tg.ent))
  lcl : ∃ cl, fs.lookup ("classes" : Str) = some (.dk cl) ∧ ClOk n.u tg cl
  nd : (tg.map fun t => (t.x, t.y)).Nodup
  len : tg.length < 1000
  m1 : fs.lookup ("event" : Str) = none
def stepsTo (n : TNum) (px py : Int) (t : Tg) : Int :=
  if (t.x - px) % n.a + n.a * ((((t.y - py) % n.l - (t.x - px) % n.a) / n.u * n.fac) % n.rest) = 0 then n.circ else (t.x - px) % n.a + n.a * ((((t.y - py) % n.l - (t.x - px) % n.a) / n.u * n.fac) % n.rest)
def evStep (n : TNum) (px py : Int) (b : Option Tg × Int) (t : Tg) : Option Tg × Int := if stepsTo n px py t < b.2 then (some t, stepsTo n px py t) else b
def evBest (n : TNum) (px py : Int) (L : List Tg) : Option Tg × Int := L.foldl (evStep n px py) (none, n.circ + 1)
theorem evBest_mem (n : TNum) (px py : Int) {t : Tg} : ∀ (L : List Tg) (b : Option Tg × Int), (L.foldl (evStep n px py) b).1 = some t → t ∈ L ∨ b.1 = some t
  | [], b, h => Or.inr h
  | x :: r, b, h => by
    rcases evBest_mem n px py r _ h with h1 | h1
    · exact Or.inl (List.mem_cons_of_mem _ h1)
    · unfold evStep at h1
      split at h1
      · injection h1 with h1
        exact Or.inl (by rw [h1]; exact List.mem_cons_self)
      · exact Or.inr h1
def eventD (C : Addr) : Option Tg × Int → D
  | (none, _) => .non
  | (some t, s) => .obj C [("steps", .int s), ("number", .int (t.n : Nat)), ("left", optPlace t.left)]
theorem tg_get {t : Tg} : ∀ {tg : List Tg}, (tg.map fun t => (t.x, t.y)).Nodup → t ∈ tg → valD (tg.map Tg.ent) [Sum.inl t.x, Sum.inl t.y] = some (.tup [.int (t.n : Nat), optPlace t.left])
  | [], _, h => nomatch h
  | a :: r, nd, h => by
    rw [List.map_cons, List.nodup_cons] at nd
    rcases List.mem_cons.mp h with rfl | h
    · simp [valD, Tg.ent, List.find?_cons]
    · have hne : ¬ a.ent.1 = [Sum.inl t.x, Sum.inl t.y] := fun e => nd.1 (by
        unfold Tg.ent at e
        injection e with e1 e2
        injection e2 with e2 e3
        injection e1 with e1
        injection e2 with e2
        exact List.mem_map.mpr ⟨t, h, by rw [e1, e2]⟩)
      have ih := tg_get nd.2 h
      unfold valD at ih ⊢
      rw [List.map_cons, List.find?_cons, decide_eq_false hne]
      exact ih
theorem gc_opt {S : Store} {Q : DK} {o : Option D} {L : List Tg} (h : o = if L = [] then none else some (.lst (L.map Tg.pl))) (q : Q (.lst (L.map Tg.pl)) S) : Rt S Q (o.getD (.loc S.length)) (S ++ [.lst []]) := by
  by_cases e : L = []
  · rw [if_pos e] at h
    subst h e
    exact Rt.lstT (Nat.le_refl _) (getElem_push _ _) trivial (fun m hm => List.getElem?_append_left hm) q
  · rw [if_neg e] at h
    subst h
    exact Rt.pure (d := .lst _) (bndL_map fun _ => ⟨trivial, trivial, trivial⟩) q
theorem evBest_snoc (n : TNum) (px py : Int) (L : List Tg) (t : Tg) : evBest n px py (L ++ [t]) = evStep n px py (evBest n px py L) t := by
  unfold evBest
  rw [List.foldl_append]; rfl
def optTg : Option Tg → D
  | none => .non
  | some t => t.pl
def spEv (A : Ads) : DSp := fun ds S Q E => ∃ (fs : List (Str × D)) (n : TNum) (tg : List Tg) (px py : Int), ds = [.obj A.a_Torus fs, placeD px py] ∧ TD n tg fs ∧ Q (eventD A.a_Event (evBest n px py (inClass n.u ((px - py) % n.u) tg))) S
theorem n_Torus_event {A : Ads} : ∀ ds S Q E, spEv A ds S Q E → ds.length = 2 := by
  rintro ds S Q E ⟨fs, n, tg, px, py, rfl, _⟩
  rfl
section
variable {P : Program} {w : World} {K : PySem.W.Frag} {mg : Str → Option Value} {base : Heap} {A : Ads} {B : Fds}
theorem ok_Torus_event (T : Txt w K mg A B) : FnOk P w K mg base CX0 3 A.a_Torus_event B.a_Torus_event ["self", "place"] (spOf K 2 (spEv A)) := by
  refine dfn_ok T.F_Torus_event sc_Torus_event n_Torus_event (fun cdv Ar outer s H E hr => (ds_cons (ds_set (i := 2) sc_Torus_event.nd rfl (.inl rfl) de_non)
      (ds_cons (ds_set (i := 3) sc_Torus_event.nd rfl (.inl rfl) (de_op od_add (de_fld (dv 0) T.cl_Torus T.n_Torus_circuit) de_int))
      (ds_cons (ds_for PassesOwn.never rfl (di_lst (de_gc (de_dget2 (hu65 hr) (de_fld (dv 0) T.cl_Torus T.n_Torus_classes) (de_op od_mod (de_op od_sub (de_ix ix_any (dv 1) de_int (fun _ _ => rfl)) (de_ix ix_any (dv 1) de_int (fun _ _ => rfl))) (de_fld (dv 0) T.cl_Torus T.n_Torus_unit)) (de_lst da_nil) ⟨by rfl, by rfl, by rfl, by rfl⟩))) (dg_name (i := 4) sc_Torus_event.nd rfl (.inl rfl)) (ds_cons (ds_set (i := 7) sc_Torus_event.nd rfl (.inl rfl) (de_op od_mod (de_op od_sub (de_ix ix_any (dv 4) de_int (fun _ _ => rfl)) (de_ix ix_any (dv 1) de_int (fun _ _ => rfl))) (de_fld (dv 0) T.cl_Torus T.n_Torus_across)))
      (ds_cons (ds_set (i := 8) sc_Torus_event.nd rfl (.inl rfl) (de_op od_sub (de_op od_mod (de_op od_sub (de_ix ix_any (dv 4) de_int (fun _ _ => rfl)) (de_ix ix_any (dv 1) de_int (fun _ _ => rfl))) (de_fld (dv 0) T.cl_Torus T.n_Torus_along)) (dv 7)))
      (ds_cons (ds_set (i := 9) sc_Torus_event.nd rfl (.inl rfl) (de_op od_add (dv 7) (de_op od_mul (de_fld (dv 0) T.cl_Torus T.n_Torus_across) (de_op od_mod (de_op od_mul (de_op od_div (dv 8) (de_fld (dv 0) T.cl_Torus T.n_Torus_unit)) (de_fld (dv 0) T.cl_Torus T.n_Torus_factor)) (de_fld (dv 0) T.cl_Torus T.n_Torus_rest)))))
      (ds_cons (ds_mark 1 (ds_if (dt_cmp od_eqI (dv 9) de_int (nomark _)) (ds_one (ds_set (i := 9) sc_Torus_event.nd rfl (.inl rfl) (de_fld (dv 0) T.cl_Torus T.n_Torus_circuit))) ds_nil))
      (ds_one (ds_if (dt_cmp od_lt (dv 9) (dv 3) (nomark _)) (ds_one (ds_par (i := 2) (j := 3) rfl sc_Torus_event.nd rfl rfl (by decide) rfl rfl (da_cons (dv 4) (da_cons (dv 9) da_nil)) (by rfl))) ds_nil)))))))
      (ds_cons (ds_if (dt_cmp od_isN (dv 2) de_non (nomark _)) (ds_one (ds_ret de_non)) ds_nil)
      (ds_cons (ds_asg (de_dget (hu65 hr) (de_fld (dv 0) T.cl_Torus T.n_Torus_targets) (dv 2) (by intro _ _; rfl)) (dg_tup (n := 2) rfl (dgs_cons (dg_name (i := 5) sc_Torus_event.nd rfl (.inl rfl)) (dgs_cons (dg_name (i := 6) sc_Torus_event.nd rfl (.inl rfl)) dgs_nil))))
      (ds_one (ds_ret (de_make T.mk_Event (ok_Event___init__ T) (hr.mono (by decide)) rfl T.g_Event T.b_Event___init__ .nil rpl_nil pass0 n_Event___init__ (da_cons (dv 3) (da_cons (dv 5) (da_cons (dv 6) da_nil)))))))))))) ?_
  rintro ds S Q E bd ⟨fs, n, tg, px, py, rfl, td, q⟩
  obtain ⟨⟨k1, k2, k3, k4, k5, k6, k7, k8, k9, k10⟩, g1, g2, g3, g4, g5, g6, g7, ⟨cl, g8, hcl⟩, nd, hlen, m1⟩ := td
  walk_at "go"
  refine gc_opt (hcl.at_ ((px - py) % n.u)) ?_
  have hsub : ∀ t ∈ inClass n.u ((px - py) % n.u) tg, t ∈ tg := fun t ht => (List.mem_filter.mp ht).1
  generalize inClass n.u ((px - py) % n.u) tg = L at q hsub ⊢
  walk_at "go"
  refine forL_inv (fun k ρ' S' => ∃ u4 u5 u6 u7 u8 u9 : Option D, ρ' = [some (.obj A.a_Torus fs), some (placeD px py), some (optTg (evBest n px py (L.take k)).1), some (.int (evBest n px py (L.take k)).2), u4, u5, u6, u7, u8, u9] ∧ S' = S) _ 0 _ _ ⟨none, none, none, none, none, none, rfl, rfl⟩ ?_ ?_
  · rintro j x ρ S' hj ⟨u4, u5, u6, u7, u8, u9, rfl, rfl⟩ N hN
    rw [List.getElem?_map] at hj
    obtain ⟨t, ht, rfl⟩ := Option.map_eq_some_iff.mp hj
    have htk : L.take (j + 1) = L.take j ++ [t] := by rw [List.take_add_one, ht]; rfl
    rw [Nat.zero_add] at hN ⊢
    rw [htk, evBest_snoc] at hN
    generalize evBest n px py (L.take j) = b at hN ⊢
    have m1 := Int.emod_nonneg (t.x - px) (show n.a ≠ 0 by omega)
    have m2 := Int.emod_lt_of_pos (t.x - px) (show 0 < n.a by omega)
    have m3 := Int.emod_nonneg (t.y - py) (show n.l ≠ 0 by omega)
    have m4 := Int.emod_lt_of_pos (t.y - py) (show 0 < n.l by omega)
    have m5 := Int.emod_nonneg (((t.y - py) % n.l - (t.x - px) % n.a) / n.u * n.fac) (show n.rest ≠ 0 by omega)
    have m6 := Int.emod_lt_of_pos (((t.y - py) % n.l - (t.x - px) % n.a) / n.u * n.fac) (show 0 < n.rest by omega)
    have d1 : ((t.y - py) % n.l - (t.x - px) % n.a) / n.u ≤ 4000000000000000 := Int.ediv_le_of_le_mul k5 (by have : 4000000000000000 * 1 ≤ 4000000000000000 * n.u := Int.mul_le_mul_of_nonneg_left (by omega) (by decide); omega)
    have d2 : -4000000000000000 ≤ ((t.y - py) % n.l - (t.x - px) % n.a) / n.u := Int.le_ediv_of_mul_le k5 (by have : 4000000000000000 * 1 ≤ 4000000000000000 * n.u := Int.mul_le_mul_of_nonneg_left (by omega) (by decide); omega)
    walk_at "go"
    refine mark_join (fun ρ' S'' => ∃ u5 u6 u7 u8 : Option D, ρ' = [some (.obj A.a_Torus fs), some (placeD px py), some (optTg b.1), some (.int b.2), some t.pl, u5, u6, u7, u8, some (.int (stepsTo n px py t))] ∧ S'' = S') (fun N hN => ?_) ?_
    · walk_at "go"
      · rename_i hc
        have e : stepsTo n px py t = n.circ := by unfold stepsTo; rw [if_pos hc]
        rw [e] at hN
        exact hN _ _ ⟨_, _, _, _, rfl, rfl⟩
      · rename_i hc
        have e : stepsTo n px py t = (t.x - px) % n.a + n.a * ((((t.y - py) % n.l - (t.x - px) % n.a) / n.u * n.fac) % n.rest) := by unfold stepsTo; rw [if_neg hc]
        rw [e] at hN
        exact hN _ _ ⟨_, _, _, _, rfl, rfl⟩
    rintro ρ' S'' ⟨u5, u6, u7, u8, rfl, rfl⟩
    walk_at "go"
    · rename_i hc
      have e : evStep n px py b t = (some t, stepsTo n px py t) := by unfold evStep; rw [if_pos hc]
      rw [e] at hN
      exact hN _ _ ⟨_, _, _, _, _, _, rfl, rfl⟩
    · rename_i hc
      have e : evStep n px py b t = b := by unfold evStep; rw [if_neg (by omega)]
      rw [e] at hN
      exact hN _ _ ⟨_, _, _, _, _, _, rfl, rfl⟩
  · rw [List.length_map, Nat.zero_add, List.take_length]
    rintro ρ S' ⟨u4, u5, u6, u7, u8, u9, rfl, rfl⟩
    have hmem : ∀ t, (evBest n px py L).1 = some t → t ∈ tg := fun t h => by
      rcases evBest_mem n px py L _ h with h1 | h1
      · exact hsub t h1
      · cases h1
    generalize evBest n px py L = b at q hmem ⊢
    obtain ⟨b1, b2⟩ := b
    cases b1 with
    | none =>
      walk_at "go"
      · exact Rt.same (d := .non) trivial q
      · rename_i hc
        exact absurd (show true = false from hc) (by decide)
    | some t =>
      have ht := hmem t rfl
      have hg := tg_get nd ht
      walk_at "go"
      · rename_i hc
        exact absurd (show false = true from hc) (by decide)
      · skip
        refine ⟨_, _, _, _, rfl, getElem_push _ _, ⟨trivial, trivial, optPlace_bnd _ _⟩, ⟨rfl, ?_⟩⟩
        refine Rt.tree (fs := [("steps", .int b2), ("number", .int (t.n : Nat)), ("left", optPlace t.left)]) (Nat.le_refl _) (List.getElem?_set_self (by rw [List.length_append]; exact Nat.lt_succ_self _)) ⟨trivial, trivial, optPlace_bnd _ _, trivial⟩ (fun m hm => ?_) q
        rw [List.getElem?_set_ne (by omega), List.getElem?_append_left hm]
end
end K

namespace K
open PySem L2 DL
local macro_rules | `(tactic| walk_at "w") => `(tactic| (conv => whnf))
local macro_rules | `(tactic| walk_at "at") => `(tactic| first | assumption | (refine SrcStep.get (l := ?l0) (n := ?n0) (S := ?s0) ?h1 ?h2 ?h3; (case h1 => assumption); (case h2 => omega); (case h3 => walk_at "at")) | (refine set_same (o := ?oo) ?sm; (case sm => walk_at "at")) | (refine set_other ?sm ?sn; (case sn => omega); (case sm => walk_at "at")) | (exact getElem_push _ _) | (refine app_left ?sm; (case sm => walk_at "at")) | rfl)
local macro_rules | `(tactic| walk_at "get") => `(tactic| (refine Exists.intro ?wit (And.intro ?gt ?_); (case gt => walk_at "at")))
local macro_rules | `(tactic| walk_at "bool") => `(tactic| (refine And.intro (fun hcond => ?_) (fun hcond => ?_) <;> (first | (exact absurd hcond (by decide)) | (simp only [decide_eq_true_eq, decide_eq_false_iff_not, Bool.not_eq_true', Bool.not_eq_false', Int.not_lt, Int.not_le, inD_nil, inD_int_cons, Bool.or_eq_true, Bool.or_eq_false_iff, Bool.or_false, ne_eq, Decidable.not_not] at hcond) | skip)))
local macro_rules | `(tactic| walk_at "len") => `(tactic| (refine line_le6 ?_; (try simp only [len_cat, len_e]); omega))
local macro_rules | `(tactic| walk_at "cond") => `(tactic| first | assumption | rfl | exact True.intro | omega | (exact Nat.le_of_ble_eq_true rfl) | (refine mulS ?cm1 ?cm2 <;> omega) | (refine divS ?cm1 <;> omega) | (refine And.intro ?cd1 ?cd2 <;> decide) | (exact line_le (Nat.le_of_ble_eq_true rfl)) | (exact line_lt (Nat.le_of_ble_eq_true rfl)) | (refine' Exists.intro _ (Exists.intro _ (And.intro rfl ?cm1)); (case cm1 => walk_at "at")) | (exact log_le (by omega)) | walk_at "len" | solve_by_elim | fail "no cond")
local macro_rules | `(tactic| walk_at "src") => `(tactic| first | assumption | (refine SrcStep.srcAt (S := ?ss) ?st; (case st => assumption)) | (refine SrcAt.app ?st; (case st => walk_at "src")))
local macro_rules | `(tactic| walk_at "draw") => `(tactic| (refine' Exists.intro _ (Exists.intro _ (Exists.intro ?nn (And.intro rfl (And.intro ?d1 (And.intro ?d2 (And.intro ?d3 (fun r S' h0 h1 hst => ?_))))))); (case d1 => walk_at "src"); (case d2 => omega); (case d3 => omega)))
local macro_rules | `(tactic| walk_at "steps") => `(tactic| first | assumption | (refine SrcStep.trans (n := ?sn) (S1 := ?sm) ?sx ?sy; (case sy => assumption); (case sx => walk_at "steps")) | (refine SrcAt.refl ?sz; assumption))
local macro_rules | `(tactic| walk_at "side") => `(tactic| (refine And.intro ?sd ?_; (case sd => walk_at "cond")))
local macro_rules | `(tactic| walk_at "go1") => `(tactic| (conv => whnf) <;> (first | walk_at "get" | walk_at "bool" | walk_at "draw" | walk_at "side" | fail "no step"))
local macro_rules | `(tactic| walk_at "go") => `(tactic| (repeat' (walk_at "go1")); (all_goals try (conv => whnf)))

def wallsN (n : TNum) (x y s : Int) : Int := (x + s) / (n.a / 2) - x / (n.a / 2) + (y + s) / (n.l / 2) - y / (n.l / 2)
def spWalls (C : Addr) : DSp := fun ds S Q E => ∃ (fs : List (Str × D)) (n : TNum) (tg : List Tg) (x y s : Int), ds = [.obj C fs, placeD x y, .int s] ∧ TD n tg fs ∧ Q (.int (wallsN n x y s)) S
theorem n_Torus_walls_between {C : Addr} : ∀ ds S Q E, spWalls C ds S Q E → ds.length = 3 := by
  rintro ds S Q E ⟨fs, n, tg, x, y, s, rfl, _⟩
  rfl
section
variable {P : Program} {w : World} {K : PySem.W.Frag} {mg : Str → Option Value} {base : Heap} {A : Ads} {B : Fds}
theorem ok_Torus_walls_between (T : Txt w K mg A B) : FnOk P w K mg base CX0 1 A.a_Torus_walls_between B.a_Torus_walls_between ["self", "place", "steps"] (spOf K 3 (spWalls A.a_Torus)) := by
  refine dfn_ok T.F_Torus_walls_between sc_Torus_walls_between n_Torus_walls_between (fun cdv Ar outer s H E hr => (ds_cons (ds_asg (dv 1) (dg_tup (n := 2) rfl (dgs_cons (dg_name (i := 3) sc_Torus_walls_between.nd rfl (.inl rfl)) (dgs_cons (dg_name (i := 4) sc_Torus_walls_between.nd rfl (.inl rfl)) dgs_nil))))
      (ds_cons (ds_par (i := 5) (j := 6) rfl sc_Torus_walls_between.nd rfl rfl (by decide) rfl rfl (da_cons (de_op od_div (de_fld (dv 0) T.cl_Torus T.n_Torus_across) de_int) (da_cons (de_op od_div (de_fld (dv 0) T.cl_Torus T.n_Torus_along) de_int) da_nil)) (by rfl))
      (ds_one (ds_ret (de_op od_sub (de_op od_add (de_op od_sub (de_op od_div (de_op od_add (dv 3) (dv 2)) (dv 5)) (de_op od_div (dv 3) (dv 5))) (de_op od_div (de_op od_add (dv 4) (dv 2)) (dv 6))) (de_op od_div (dv 4) (dv 6)))))))) ?_
  rintro ds S Q E bd ⟨fs, n, tg, x, y, s, rfl, td, q⟩
  obtain ⟨⟨k1, k2, k3, k4, k5, k6, k7, k8, k9, k10⟩, g1, g2, g3, g4, g5, g6, g7, ⟨cl, g8, hcl⟩, nd, hlen, m1⟩ := td
  have h1 : 0 < n.a / 2 := by omega
  have h2 : 0 < n.l / 2 := by omega
  have h3 : n.a / 2 < 4000000000000000 := by omega
  have h4 : n.l / 2 < 4000000000000000 := by omega
  walk_at "go"
  exact Rt.same (d := .int _) trivial q
end
end K

namespace K
open PySem L2 DL
local macro_rules | `(tactic| walk_at "w") => `(tactic| (conv => whnf))
local macro_rules | `(tactic| walk_at "at") => `(tactic| first | assumption | (refine SrcStep.get (l := ?l0) (n := ?n0) (S := ?s0) ?h1 ?h2 ?h3; (case h1 => assumption); (case h2 => omega); (case h3 => walk_at "at")) | (refine set_same (o := ?oo) ?sm; (case sm => walk_at "at")) | (refine set_other ?sm ?sn; (case sn => omega); (case sm => walk_at "at")) | (exact getElem_push _ _) | (refine app_left ?sm; (case sm => walk_at "at")) | rfl)
local macro_rules | `(tactic| walk_at "get") => `(tactic| (refine Exists.intro ?wit (And.intro ?gt ?_); (case gt => walk_at "at")))
local macro_rules | `(tactic| walk_at "bool") => `(tactic| (refine And.intro (fun hcond => ?_) (fun hcond => ?_) <;> (first | (exact absurd hcond (by decide)) | (simp only [decide_eq_true_eq, decide_eq_false_iff_not, Bool.not_eq_true', Bool.not_eq_false', Int.not_lt, Int.not_le, inD_nil, inD_int_cons, Bool.or_eq_true, Bool.or_eq_false_iff, Bool.or_false, ne_eq, Decidable.not_not] at hcond) | skip)))
local macro_rules | `(tactic| walk_at "len") => `(tactic| (refine line_le6 ?_; (try simp only [len_cat, len_e]); omega))
local macro_rules | `(tactic| walk_at "cond") => `(tactic| first | assumption | rfl | exact True.intro | omega | (exact Nat.le_of_ble_eq_true rfl) | (refine mulS ?cm1 ?cm2 <;> omega) | (refine divS ?cm1 <;> omega) | (refine And.intro ?cd1 ?cd2 <;> decide) | (exact line_le (Nat.le_of_ble_eq_true rfl)) | (exact line_lt (Nat.le_of_ble_eq_true rfl)) | (refine' Exists.intro _ (Exists.intro _ (And.intro rfl ?cm1)); (case cm1 => walk_at "at")) | (exact log_le (by omega)) | walk_at "len" | solve_by_elim | fail "no cond")
local macro_rules | `(tactic| walk_at "src") => `(tactic| first | assumption | (refine SrcStep.srcAt (S := ?ss) ?st; (case st => assumption)) | (refine SrcAt.app ?st; (case st => walk_at "src")))
local macro_rules | `(tactic| walk_at "draw") => `(tactic| (refine' Exists.intro _ (Exists.intro _ (Exists.intro ?nn (And.intro rfl (And.intro ?d1 (And.intro ?d2 (And.intro ?d3 (fun r S' h0 h1 hst => ?_))))))); (case d1 => walk_at "src"); (case d2 => omega); (case d3 => omega)))
local macro_rules | `(tactic| walk_at "steps") => `(tactic| first | assumption | (refine SrcStep.trans (n := ?sn) (S1 := ?sm) ?sx ?sy; (case sy => assumption); (case sx => walk_at "steps")) | (refine SrcAt.refl ?sz; assumption))
local macro_rules | `(tactic| walk_at "side") => `(tactic| (refine And.intro ?sd ?_; (case sd => walk_at "cond")))
local macro_rules | `(tactic| walk_at "go1") => `(tactic| (conv => whnf) <;> (first | walk_at "get" | walk_at "bool" | walk_at "draw" | walk_at "side" | fail "no step"))
local macro_rules | `(tactic| walk_at "go") => `(tactic| (repeat' (walk_at "go1")); (all_goals try (conv => whnf)))

/-- a course: where it stands -/
structure Cs where
  x : Int
  y : Int
  steps : Int
  walls : Int
  mirrors : Int
  door : Option Nat
  taken : Int
def optNat : Option Nat → D
  | none => .non
  | some n => .int (n : Nat)
def Cs.fs (c : Cs) (torus : D) : List (Str × D) := [("torus", torus), ("spot", placeD c.x c.y), ("steps", .int c.steps), ("walls", .int c.walls), ("mirrors", .int c.mirrors), ("door", optNat c.door), ("taken", .int c.taken)]
theorem optNat_bnd (n : Nat) : ∀ o, bnd n (optNat o)
  | none => trivial
  | some _ => trivial
theorem cs_bnd {n : Nat} {torus : D} {c : Cs} (hb : bnd n torus) : bndF n (c.fs torus) := ⟨hb, ⟨trivial, trivial, trivial⟩, trivial, trivial, trivial, optNat_bnd n _, trivial, trivial⟩
/-- whole rounds left out -/
def Cs.leave (c : Cs) (t0 w0 m0 : Int) : Cs :=
  { c with walls := c.walls + c.steps / (c.taken - t0) * (c.walls - w0), mirrors := c.mirrors + c.steps / (c.taken - t0) * (c.mirrors - m0), taken := c.taken + c.steps / (c.taken - t0) * (c.taken - t0), steps := c.steps % (c.taken - t0) }
def spLeave (C : Addr) : DSp := fun ds S Q E => ∃ (l : Nat) (c : Cs) (torus : D) (t0 w0 m0 : Int), ds = [.loc l, .tup [.int t0, .int w0, .int m0]] ∧ S[l]? = some (.ins C (c.fs torus)) ∧ bnd S.length torus ∧
  (0 < c.taken - t0 ∧ c.taken - t0 < 2 ^ 130 ∧ CMulW (c.steps / (c.taken - t0)) (c.walls - w0) ∧ CMulW (c.steps / (c.taken - t0)) (c.mirrors - m0) ∧ CMulW (c.steps / (c.taken - t0)) (c.taken - t0)) ∧
  Q .non (S.set l (.ins C ((c.leave t0 w0 m0).fs torus)))
theorem n_Course_leave_out {C : Addr} : ∀ ds S Q E, spLeave C ds S Q E → ds.length = 2 := by
  rintro ds S Q E ⟨l, c, torus, t0, w0, m0, rfl, _⟩
  rfl
section
variable {P : Program} {w : World} {K : PySem.W.Frag} {mg : Str → Option Value} {base : Heap} {A : Ads} {B : Fds}
theorem ok_Course_leave_out (T : Txt w K mg A B) : FnOk P w K mg base CX0 1 A.a_Course_leave_out B.a_Course_leave_out ["self", "before"] (spOf K 2 (spLeave A.a_Course)) := by
  refine dfn_ok T.F_Course_leave_out sc_Course_leave_out n_Course_leave_out (fun cdv Ar outer s H E hr => (ds_cons (ds_set (i := 2) sc_Course_leave_out.nd rfl (.inl rfl) (de_op od_sub (de_fld (dv 0) T.cl_Course T.n_Course_taken) (de_ix ix_any (dv 1) de_int (fun _ _ => rfl))))
      (ds_cons (ds_set (i := 3) sc_Course_leave_out.nd rfl (.inl rfl) (de_op od_div (de_fld (dv 0) T.cl_Course T.n_Course_steps) (dv 2)))
      (ds_cons (ds_fldaug inI_add (dv 0) (de_op od_mul (dv 3) (de_op od_sub (de_fld (dv 0) T.cl_Course T.n_Course_walls) (de_ix ix_any (dv 1) de_int (fun _ _ => rfl)))) T.cl_Course T.n_Course_walls)
      (ds_cons (ds_fldaug inI_add (dv 0) (de_op od_mul (dv 3) (de_op od_sub (de_fld (dv 0) T.cl_Course T.n_Course_mirrors) (de_ix ix_any (dv 1) de_int (fun _ _ => rfl)))) T.cl_Course T.n_Course_mirrors)
      (ds_cons (ds_fldaug inI_add (dv 0) (de_op od_mul (dv 3) (dv 2)) T.cl_Course T.n_Course_taken)
      (ds_one (ds_fldaug inI_mod (dv 0) (dv 2) T.cl_Course T.n_Course_steps)))))))) ?_
  rintro ds S Q E bd ⟨l, c, torus, t0, w0, m0, rfl, hl, hb, ⟨h1, h2, h3, h4, h5⟩, q⟩
  have hd : ∀ i, CDivW i (c.taken - t0) := fun i => divW (b := 130) h1 (by omega) (by decide) (by decide)
  have hlt : l < S.length := (List.getElem?_eq_some_iff.mp hl).1
  walk_at "go"
  rw [List.set_set, List.set_set, List.set_set]
  exact Rt.set (o := .ins A.a_Course ((c.leave t0 w0 m0).fs torus)) (d := .non) trivial (cs_bnd hb) q
/-- the ray that a course has led to, or none behind a door -/
def spCRay (A : Ads) : DSp := fun ds S Q E => ∃ (l : Nat) (c : Cs) (fs : List (Str × D)) (n : TNum) (tg : List Tg), ds = [.loc l] ∧ S[l]? = some (.ins A.a_Course (c.fs (.obj A.a_Torus fs))) ∧ TD n tg fs ∧ TW n.a n.l fs ∧
  Q (match c.door with | some _ => .non | none => atR n.a n.l c.x c.y) S
theorem n_Course_ray {A : Ads} : ∀ ds S Q E, spCRay A ds S Q E → ds.length = 1 := by
  rintro ds S Q E ⟨l, c, fs, n, tg, rfl, _⟩
  rfl
theorem atR_bnd (k : Nat) (a l x y : Int) : bnd k (atR a l x y) := ⟨trivial, trivial, trivial, trivial, trivial⟩
theorem ok_Course_ray (T : Txt w K mg A B) : FnOk P w K mg base CX0 3 A.a_Course_ray B.a_Course_ray ["self"] (spOf K 1 (spCRay A)) := by
  refine dfn_ok T.F_Course_ray sc_Course_ray n_Course_ray (fun cdv Ar outer s H E hr => (ds_one (ds_ret (de_ifExp (dt_cmp od_notN (de_fld (dv 0) T.cl_Course T.n_Course_door) de_non (nomark _)) de_non (de_meth (de_fld (dv 0) T.cl_Course T.n_Course_torus) T.cl_Torus T.m_Torus_ray_at (ok_Torus_ray_at T) (hr.mono (by decide)) T.b_Torus_ray_at .nil rpl_nil pass0 n_Torus_ray_at (da_cons (de_fld (dv 0) T.cl_Course T.n_Course_spot) da_nil)))))) ?_
  rintro ds S Q E bd ⟨l, c, fs, n, tg, rfl, hl, td, tw, q⟩
  have g5 := tw.m5
  obtain ⟨x, y, st, wl, mi, door, tk⟩ := c
  cases door with
  | none =>
    walk_at "go"
    · rename_i hc
      exact absurd (show true = false from hc) (by decide)
    · refine ⟨_, n.a, n.l, x, y, rfl, Or.inl ⟨fs, rfl, tw⟩, ?_⟩
      exact Rt.same (atR_bnd _ _ _ _ _) q
  | some d =>
    walk_at "go"
    · exact Rt.same (d := .non) trivial q
    · rename_i hc
      exact absurd (show false = true from hc) (by decide)
end
end K

namespace K
open PySem L2 DL
local macro_rules | `(tactic| walk_at "w") => `(tactic| (conv => whnf))
local macro_rules | `(tactic| walk_at "at") => `(tactic| first | assumption | (refine SrcStep.get (l := ?l0) (n := ?n0) (S := ?s0) ?h1 ?h2 ?h3; (case h1 => assumption); (case h2 => omega); (case h3 => walk_at "at")) | (refine set_same (o := ?oo) ?sm; (case sm => walk_at "at")) | (refine set_other ?sm ?sn; (case sn => omega); (case sm => walk_at "at")) | (exact getElem_push _ _) | (refine app_left ?sm; (case sm => walk_at "at")) | rfl)
local macro_rules | `(tactic| walk_at "get") => `(tactic| (refine Exists.intro ?wit (And.intro ?gt ?_); (case gt => walk_at "at")))
local macro_rules | `(tactic| walk_at "bool") => `(tactic| (refine And.intro (fun hcond => ?_) (fun hcond => ?_) <;> (first | (exact absurd hcond (by decide)) | (simp only [decide_eq_true_eq, decide_eq_false_iff_not, Bool.not_eq_true', Bool.not_eq_false', Int.not_lt, Int.not_le, inD_nil, inD_int_cons, Bool.or_eq_true, Bool.or_eq_false_iff, Bool.or_false, ne_eq, Decidable.not_not] at hcond) | skip)))
local macro_rules | `(tactic| walk_at "len") => `(tactic| (refine line_le6 ?_; (try simp only [len_cat, len_e]); omega))
local macro_rules | `(tactic| walk_at "cond") => `(tactic| first | assumption | rfl | exact True.intro | omega | (exact Nat.le_of_ble_eq_true rfl) | (refine mulS ?cm1 ?cm2 <;> omega) | (refine divS ?cm1 <;> omega) | (refine And.intro ?cd1 ?cd2 <;> decide) | (exact line_le (Nat.le_of_ble_eq_true rfl)) | (exact line_lt (Nat.le_of_ble_eq_true rfl)) | (refine' Exists.intro _ (Exists.intro _ (And.intro rfl ?cm1)); (case cm1 => walk_at "at")) | (exact log_le (by omega)) | walk_at "len" | solve_by_elim | fail "no cond")
local macro_rules | `(tactic| walk_at "src") => `(tactic| first | assumption | (refine SrcStep.srcAt (S := ?ss) ?st; (case st => assumption)) | (refine SrcAt.app ?st; (case st => walk_at "src")))
local macro_rules | `(tactic| walk_at "draw") => `(tactic| (refine' Exists.intro _ (Exists.intro _ (Exists.intro ?nn (And.intro rfl (And.intro ?d1 (And.intro ?d2 (And.intro ?d3 (fun r S' h0 h1 hst => ?_))))))); (case d1 => walk_at "src"); (case d2 => omega); (case d3 => omega)))
local macro_rules | `(tactic| walk_at "steps") => `(tactic| first | assumption | (refine SrcStep.trans (n := ?sn) (S1 := ?sm) ?sx ?sy; (case sy => assumption); (case sx => walk_at "steps")) | (refine SrcAt.refl ?sz; assumption))
local macro_rules | `(tactic| walk_at "side") => `(tactic| (refine And.intro ?sd ?_; (case sd => walk_at "cond")))
local macro_rules | `(tactic| walk_at "go1") => `(tactic| (conv => whnf) <;> (first | walk_at "get" | walk_at "bool" | walk_at "draw" | walk_at "side" | fail "no step"))
local macro_rules | `(tactic| walk_at "go") => `(tactic| (repeat' (walk_at "go1")); (all_goals try (conv => whnf)))

def leftO (a l : Int) (k : Str) (x y : Int) : Option (Int × Int) := if k = "o" then none else if k = "|" then some ((0 - x) % a, y % l) else some (x % a, (0 - y) % l)
theorem leftO_d (a l : Int) (k : Str) (x y : Int) : leftD a l k x y = optPlace (leftO a l k x y) := by
  unfold leftD leftO
  repeat' split
  all_goals rfl
def img (a l : Int) (i : Nat) (k : Str) (x y : Int) : Tg := ⟨x % a, y % l, i, leftO a l k x y⟩
def imgs (a l : Int) (i : Nat) (t : Th) : List Tg := [img a l i t.kind t.x t.y, img a l i t.kind t.x (0 - t.y), img a l i t.kind (0 - t.x) t.y, img a l i t.kind (0 - t.x) (0 - t.y)]
def addTg (tg : List Tg) (t : Tg) : List Tg := if (t.x, t.y) ∈ tg.map (fun t => (t.x, t.y)) then tg else tg ++ [t]
def tgFrom (a l : Int) : Nat → List Th → List Tg → List Tg
  | _, [], tg => tg
  | i, t :: r, tg => tgFrom a l (i + 1) r ((imgs a l i t).foldl addTg tg)
def pts (t : Th) : List (Int × Int) := [(t.x, t.y), (t.x, 0 - t.y), (0 - t.x, t.y), (0 - t.x, 0 - t.y)]
theorem imgs_pts (a l : Int) (i : Nat) (t : Th) : imgs a l i t = (pts t).map fun p => img a l i t.kind p.1 p.2 := rfl
theorem tgFrom_snoc (a l : Int) (t : Th) : ∀ (ts : List Th) (i : Nat) (tg : List Tg), tgFrom a l i (ts ++ [t]) tg = (imgs a l (i + ts.length) t).foldl addTg (tgFrom a l i ts tg)
  | [], i, tg => rfl
  | x :: r, i, tg => by
    show tgFrom a l (i + 1) (r ++ [t]) _ = _
    rw [tgFrom_snoc a l t r (i + 1), List.length_cons, show i + 1 + r.length = i + (r.length + 1) by omega]
    rfl
/-- targets under way -/
structure TgI (u : Int) (k : Nat) (tg : List Tg) (cl : List (Key × D)) : Prop where
  ok : ClOk u tg cl
  nd : (tg.map fun t => (t.x, t.y)).Nodup
  l1 : tg.length ≤ k
  l2 : cl.length ≤ k
theorem sto_len {κ : Type} [DecidableEq κ] (kvs : List (κ × D)) (k : κ) (d : D) : (stoD kvs k d).length ≤ kvs.length + 1 := by
  unfold stoD
  split
  · rw [List.length_map]; omega
  · rw [List.length_append]; exact Nat.le_refl _
theorem TgI.add {u : Int} {k : Nat} {tg : List Tg} {cl : List (Key × D)} (h : TgI u k tg cl) (t : Tg) (hn : (t.x, t.y) ∉ tg.map fun t => (t.x, t.y)) : TgI u (k + 1) (addTg tg t) (stoD cl (.inl ((t.x - t.y) % u)) (.lst ((inClass u ((t.x - t.y) % u) tg).map Tg.pl ++ [t.pl]))) := by
  have e : addTg tg t = tg ++ [t] := by unfold addTg; rw [if_neg hn]
  rw [e]
  refine ⟨h.ok.add t, ?_, by rw [List.length_append]; exact Nat.succ_le_succ h.l1, Nat.le_trans (sto_len _ _ _) (Nat.succ_le_succ h.l2)⟩
  rw [List.map_append]
  refine List.nodup_append.mpr ⟨h.nd, by simp, fun p hp q hq e => ?_⟩
  rw [List.map_cons, List.map_nil, List.mem_singleton] at hq
  subst hq
  subst e
  exact hn hp
theorem TgI.same {u : Int} {k : Nat} {tg : List Tg} {cl : List (Key × D)} (h : TgI u k tg cl) {t : Tg} (hn : (t.x, t.y) ∈ tg.map fun t => (t.x, t.y)) : addTg tg t = tg ∧ TgI u (k + 1) tg cl :=
  ⟨by unfold addTg; rw [if_pos hn], h.ok, h.nd, Nat.le_succ_of_le h.l1, Nat.le_succ_of_le h.l2⟩
def torF (w h g fac : Int) (n : Nat) : List (Str × D) := [("across", .int (4 * w)), ("along", .int (4 * h)), ("unit", .int g), ("rest", .int (4 * h / g)), ("circuit", .int (4 * w * (4 * h / g))), ("factor", .int fac), ("targets", .loc n), ("classes", .loc (n + 1))]
theorem cop_of {g A L : Int} (h : IsGcd g A L) (hg : 0 < g) : ∀ d : Int, 0 < d → d ∣ A / g → d ∣ L / g → d = 1 := by
  intro d hd h1 h2
  obtain ⟨gA, gL⟩ := (h.2 g).mp (Int.dvd_refl g)
  have e1 : g * (A / g) = A := Int.mul_ediv_cancel' gA
  have e2 : g * (L / g) = L := Int.mul_ediv_cancel' gL
  have h3 : g * d ∣ g := (h.2 (g * d)).mpr ⟨by rw [← e1]; exact Int.mul_dvd_mul_left g h1, by rw [← e2]; exact Int.mul_dvd_mul_left g h2⟩
  have h4 : g * d ≤ g * 1 := by rw [Int.mul_one]; exact Int.le_of_dvd hg h3
  have := Int.le_of_mul_le_mul_left h4 hg
  omega
/-- names of methods that are no names of fields -/
def NoM (fs : List (Str × D)) : Prop := fs.lookup ("walls_between" : Str) = none ∧ fs.lookup ("steps_between" : Str) = none ∧ fs.lookup ("remainder" : Str) = none ∧ fs.lookup ("events" : Str) = none
/-- the numbers of a torus that is made -/
structure TGood (n : TNum) : Prop where
  a0 : 0 < n.a
  u0 : 0 < n.u
  r0 : 0 < n.rest
  ua : n.u ∣ n.a
  hl : n.l = n.u * n.rest
  hc : n.circ = n.a * n.rest
  hf : n.rest ∣ n.fac * (n.a / n.u) - 1
theorem stepsTo_pos {n : TNum} (g : TGood n) (t : Tg) (x y : Int) : 1 ≤ stepsTo n x y t := by
  have h0 := Int.emod_nonneg (t.x - x) (show n.a ≠ 0 by have := g.a0; omega)
  have h1 := Int.mul_nonneg (show 0 ≤ n.a by have := g.a0; omega) (Int.emod_nonneg (((t.y - y) % n.l - (t.x - x) % n.a) / n.u * n.fac) (show n.rest ≠ 0 by have := g.r0; omega))
  have h2 : 0 < n.circ := by rw [g.hc]; exact Int.mul_pos g.a0 g.r0
  unfold stepsTo
  split <;> omega
def spTorus (C : Addr) : DSp := fun ds S Q E => ∃ (l : Nat) (w h : Int) (ts : List Th), ds = [.loc l, .int w, .int h, .tup (ts.map Th.d)] ∧ S[l]? = some (.ins C []) ∧ FlOk w h ts ∧
  ∀ fs n, TD n (tgFrom (4 * w) (4 * h) 0 ts []) fs → TGood n → NoM fs → n.a = 4 * w → n.l = 4 * h → TW n.a n.l fs → (∀ k, bndF k fs) → Q .non (S.set l (.ins C fs))
theorem n_Torus___init__ {C : Addr} : ∀ ds S Q E, spTorus C ds S Q E → ds.length = 4 := by
  rintro ds S Q E ⟨l, w, h, ts, rfl, _⟩
  rfl
section
variable {P : Program} {w : World} {K : PySem.W.Frag} {mg : Str → Option Value} {base : Heap} {A : Ads} {B : Fds}
theorem ok_Torus___init__ (T : Txt w K mg A B) : FnOk P w K mg base CX0 3 A.a_Torus___init__ B.a_Torus___init__ ["self", "width", "height", "things"] (spOf K 4 (spTorus A.a_Torus)) := by
  refine dfn_ok T.F_Torus___init__ sc_Torus___init__ n_Torus___init__ (fun cdv Ar outer s H E hr => (ds_cons (ds_fld (dv 0) (de_op od_mul de_int (dv 1)) T.cl_Torus T.n_Torus_across)
      (ds_cons (ds_fld (dv 0) (de_op od_mul de_int (dv 2)) T.cl_Torus T.n_Torus_along)
      (ds_cons (ds_fld (dv 0) (de_call (ok_common T) (hr.mono (by decide)) rfl T.g_common T.k_common T.b_common .nil rpl_nil pass0 n_common (da_cons (de_fld (dv 0) T.cl_Torus T.n_Torus_across) (da_cons (de_fld (dv 0) T.cl_Torus T.n_Torus_along) da_nil))) T.cl_Torus T.n_Torus_unit)
      (ds_cons (ds_fld (dv 0) (de_op od_div (de_fld (dv 0) T.cl_Torus T.n_Torus_along) (de_fld (dv 0) T.cl_Torus T.n_Torus_unit)) T.cl_Torus T.n_Torus_rest)
      (ds_cons (ds_fld (dv 0) (de_op od_mul (de_fld (dv 0) T.cl_Torus T.n_Torus_across) (de_fld (dv 0) T.cl_Torus T.n_Torus_rest)) T.cl_Torus T.n_Torus_circuit)
      (ds_cons (ds_mark 1 (ds_fld (dv 0) (de_ifExp (dt_cmp od_gt (de_fld (dv 0) T.cl_Torus T.n_Torus_rest) de_int (nomark _)) (de_call (ok_inverse_of T) (hr.mono (by decide)) rfl T.g_inverse_of T.k_inverse_of T.b_inverse_of .nil rpl_nil pass0 n_inverse_of (da_cons (de_op od_div (de_fld (dv 0) T.cl_Torus T.n_Torus_across) (de_fld (dv 0) T.cl_Torus T.n_Torus_unit)) (da_cons (de_fld (dv 0) T.cl_Torus T.n_Torus_rest) da_nil))) de_int) T.cl_Torus T.n_Torus_factor))
      (ds_cons (ds_fld (dv 0) de_newT T.cl_Torus T.n_Torus_targets)
      (ds_cons (ds_fld (dv 0) de_newK T.cl_Torus T.n_Torus_classes)
      (ds_one (ds_for PassesOwn.never rfl (di_enum rfl T.z_enumerate (da_cons (dv 3) da_nil)) (dg_tup (n := 2) rfl (dgs_cons (dg_name (i := 4) sc_Torus___init__.nd rfl (.inl rfl)) (dgs_cons (dg_tup (n := 3) rfl (dgs_cons (dg_name (i := 5) sc_Torus___init__.nd rfl (.inl rfl)) (dgs_cons (dg_name (i := 6) sc_Torus___init__.nd rfl (.inl rfl)) (dgs_cons (dg_name (i := 7) sc_Torus___init__.nd rfl (.inl rfl)) dgs_nil)))) dgs_nil))) (ds_one (ds_for PassesOwn.never rfl (di_tup (de_tup (da_cons (de_tup (da_cons (dv 5) (da_cons (dv 6) da_nil))) (da_cons (de_tup (da_cons (dv 5) (da_cons (de_op od_sub de_int (dv 6)) da_nil))) (da_cons (de_tup (da_cons (de_op od_sub de_int (dv 5)) (da_cons (dv 6) da_nil))) (da_cons (de_tup (da_cons (de_op od_sub de_int (dv 5)) (da_cons (de_op od_sub de_int (dv 6)) da_nil))) da_nil)))))) (dg_tup (n := 2) rfl (dgs_cons (dg_name (i := 8) sc_Torus___init__.nd rfl (.inl rfl)) (dgs_cons (dg_name (i := 9) sc_Torus___init__.nd rfl (.inl rfl)) dgs_nil))) (ds_one (ds_expr (de_meth (dv 0) T.cl_Torus T.m_Torus_add_target (ok_Torus_add_target T) (hr.mono (by decide)) T.b_Torus_add_target .nil rpl_nil pass0 n_Torus_add_target (da_cons (de_meth (dv 0) T.cl_Torus T.m_Torus_reduced (ok_Torus_reduced T) (hr.mono (by decide)) T.b_Torus_reduced .nil rpl_nil pass0 n_Torus_reduced (da_cons (de_tup (da_cons (dv 8) (da_cons (dv 9) da_nil))) da_nil)) (da_cons (dv 4) (da_cons (de_meth (dv 0) T.cl_Torus T.m_Torus_leaving (ok_Torus_leaving T) (hr.mono (by decide)) T.b_Torus_leaving .nil rpl_nil pass0 n_Torus_leaving (da_cons (de_tup (da_cons (dv 8) (da_cons (dv 9) da_nil))) (da_cons (dv 7) da_nil))) da_nil))))))))))))))))))) ?_
  rintro ds S Q E bd ⟨l, w, h, ts, rfl, hl, fo, q⟩
  have hlt : l < S.length := (List.getElem?_eq_some_iff.mp hl).1
  obtain ⟨f1, f2, f3, f4, f5, f6⟩ := id fo
  walk_at "go"
  refine ⟨_, _, rfl, by omega, by omega, fun g hg => ?_⟩
  have hg0 : 0 < g := by
    rcases Int.lt_or_le 0 g with h0 | h0
    · exact h0
    · have e : g = 0 := Int.le_antisymm h0 hg.1
      subst e
      have := ((hg.2 0).mp (Int.dvd_refl 0)).1
      have := Int.zero_dvd.mp this
      omega
  have hgl : g ≤ 4 * h := Int.le_of_dvd (by omega) ((hg.2 g).mp (Int.dvd_refl g)).2
  have hr1 : 1 ≤ 4 * h / g := Int.le_ediv_of_mul_le hg0 (by omega)
  have hr2 : 4 * h / g ≤ 4 * h := Int.ediv_le_self _ (by omega)
  walk_at "go"
  refine mark_join (fun ρ' S' => ∃ fac : Int, 0 ≤ fac ∧ fac ≤ 4000000000000000 ∧ (4 * h / g ∣ fac * (4 * w / g) - 1) ∧ ρ' = [some (.loc l), some (.int w), some (.int h), some (.tup (ts.map Th.d)), none, none, none, none, none, none] ∧
    S' = S.set l (.ins A.a_Torus [("across", .int (4 * w)), ("along", .int (4 * h)), ("unit", .int g), ("rest", .int (4 * h / g)), ("circuit", .int (4 * w * (4 * h / g))), ("factor", .int fac)])) (fun N hN => ?_) ?_
  · walk_at "go"
    · refine ⟨_, _, rfl, by omega, by omega, cop_of hg hg0, fun r r0 r1 r2 => ?_⟩
      walk_at "go"
      exact hN _ _ ⟨r, r0, by omega, ⟨r * (4 * w / g) / (4 * h / g), by have := Int.mul_ediv_add_emod (r * (4 * w / g)) (4 * h / g); have r3 : (1 : Int) % (4 * h / g) = 1 := Int.emod_eq_of_lt (by decide) (by omega); omega⟩, rfl, by simp only [List.set_set]; rfl⟩
    · have e1 : 4 * h / g = 1 := by omega
      exact hN _ _ ⟨0, by decide, by decide, ⟨-1, by rw [e1]; omega⟩, rfl, by simp only [List.set_set]; rfl⟩
  rintro ρ' S' ⟨fac, c0, c1, c2, rfl, hS⟩
  have g0 : S'[l]? = some (.ins A.a_Torus [("across", .int (4 * w)), ("along", .int (4 * h)), ("unit", .int g), ("rest", .int (4 * h / g)), ("circuit", .int (4 * w * (4 * h / g))), ("factor", .int fac)]) := by
    rw [hS]; exact List.getElem?_set_self hlt
  have hSl : S'.length = S.length := by rw [hS, List.length_set]
  walk_at "go"
  refine forL_inv (fun k ρ S'' => ∃ (u4 u5 u6 u7 u8 u9 : Option D) (cl : List (Key × D)), ρ = [some (.loc l), some (.int w), some (.int h), some (.tup (ts.map Th.d)), u4, u5, u6, u7, u8, u9] ∧
    S'' = S.set l (.ins A.a_Torus (torF w h g fac S.length)) ++ [.dt ((tgFrom (4 * w) (4 * h) 0 (ts.take k) []).map Tg.ent), .dk cl] ∧ TgI g (4 * k) (tgFrom (4 * w) (4 * h) 0 (ts.take k) []) cl) _ 0 _ _ ⟨none, none, none, none, none, none, [], rfl, ?_, ⟨fun r => rfl, fun _ h => nomatch h⟩, .nil, Nat.le_refl _, Nat.le_refl _⟩ ?_ ?_
  · rw [hS]
    have e1 : ∀ (o o' : Ob) (x : Ob), (S.set l o ++ [x]).set l o' = S.set l o' ++ [x] := fun o o' x => by rw [List.set_append_left _ _ (by rw [List.length_set]; exact hlt), List.set_set]
    have e2 : ∀ (o o' : Ob) (x y : Ob), (S.set l o ++ [x] ++ [y]).set l o' = S.set l o' ++ [x, y] := fun o o' x y => by rw [List.append_assoc, List.set_append_left _ _ (by rw [List.length_set]; exact hlt), List.set_set]; rfl
    rw [e1, e2]
    simp only [List.length_append, List.length_set, List.length_cons, List.length_nil]
    rfl
  · rintro j x ρ S'' hj ⟨u4, u5, u6, u7, u8, u9, cl, rfl, hS2, inv⟩ N hN
    obtain ⟨d', hd', rfl⟩ := enumD_get hj
    rw [List.getElem?_map] at hd'
    obtain ⟨t, ht, rfl⟩ := Option.map_eq_some_iff.mp hd'
    have hjl := (List.getElem?_eq_some_iff.mp ht).1
    have htk : ts.take (j + 1) = ts.take j ++ [t] := by rw [List.take_add_one, ht]; rfl
    rw [Nat.zero_add] at hN hS2 inv ⊢
    rw [htk, tgFrom_snoc, List.length_take, Nat.min_eq_left (by omega), Nat.zero_add] at hN
    generalize tgFrom (4 * w) (4 * h) 0 (ts.take j) [] = tg at hN hS2 inv
    walk_at "go"
    show forL _ _ _ ((pts t).map fun p => placeD p.1 p.2) [some (.loc l), some (.int w), some (.int h), some (.tup (ts.map Th.d)), some (.int (j : Nat)), some (.int t.x), some (.int t.y), some (.str t.kind), u8, u9] S''
    refine forL_inv (fun m ρ S3 => ∃ (u8 u9 : Option D) (cl : List (Key × D)), ρ = [some (.loc l), some (.int w), some (.int h), some (.tup (ts.map Th.d)), some (.int (j : Nat)), some (.int t.x), some (.int t.y), some (.str t.kind), u8, u9] ∧
      S3 = S.set l (.ins A.a_Torus (torF w h g fac S.length)) ++ [.dt ((((imgs (4 * w) (4 * h) j t).take m).foldl addTg tg).map Tg.ent), .dk cl] ∧ TgI g (4 * j + m) (((imgs (4 * w) (4 * h) j t).take m).foldl addTg tg) cl) _ 0 _ _ ⟨u8, u9, cl, rfl, hS2, inv⟩ ?_ ?_
    · rintro m x ρ S3 hm ⟨u8, u9, cl, rfl, hS3, inv⟩ N hN
      rw [List.getElem?_map] at hm
      obtain ⟨p, hp, rfl⟩ := Option.map_eq_some_iff.mp hm
      have hml : m < 4 := (List.getElem?_eq_some_iff.mp hp).1
      have him : (imgs (4 * w) (4 * h) j t)[m]? = some (img (4 * w) (4 * h) j t.kind p.1 p.2) := by rw [imgs_pts, List.getElem?_map, hp]; rfl
      have htk2 : (imgs (4 * w) (4 * h) j t).take (m + 1) = (imgs (4 * w) (4 * h) j t).take m ++ [img (4 * w) (4 * h) j t.kind p.1 p.2] := by rw [List.take_add_one, him]; rfl
      rw [Nat.zero_add] at hN hS3 inv
      rw [htk2, List.foldl_append] at hN
      generalize ((imgs (4 * w) (4 * h) j t).take m).foldl addTg tg = tg2 at hN hS3 inv
      have l1 := inv.l1
      have l2 := inv.l2
      have g0 : S3[l]? = some (.ins A.a_Torus (torF w h g fac S.length)) := by
        rw [hS3]; exact app_left (List.getElem?_set_self hlt)
      have g1 : S3[S.length]? = some (.dt (tg2.map Tg.ent)) := by
        rw [hS3, List.getElem?_append_right (by rw [List.length_set]; exact Nat.le_refl _), List.length_set, Nat.sub_self]; rfl
      have g2 : S3[S.length + 1]? = some (.dk cl) := by
        rw [hS3, List.getElem?_append_right (by rw [List.length_set]; omega), List.length_set, show S.length + 1 - S.length = 1 by omega]; rfl
      have tw : TW (4 * w) (4 * h) (torF w h g fac S.length) := ⟨rfl, rfl, rfl, rfl, rfl, rfl, rfl, by omega, by omega, by omega, by omega⟩
      walk_at "go"
      refine ⟨_, 4 * w, 4 * h, p.1, p.2, rfl, Or.inr ⟨l, _, rfl, g0, tw⟩, ?_⟩
      walk_at "go"
      refine ⟨_, 4 * w, 4 * h, p.1, p.2, t.kind, rfl, Or.inr ⟨l, _, rfl, g0, tw⟩, ?_⟩
      rw [leftO_d]
      walk_at "go"
      refine ⟨l, S.length, S.length + 1, _, 4 * w, 4 * h, g, tg2, cl, img (4 * w) (4 * h) j t.kind p.1 p.2, rfl, g0, ⟨tw, rfl, rfl, rfl, hg0⟩, g1, g2, by omega, inv.ok, ⟨by omega, by omega⟩, fun hm => ?_, fun hm => ?_⟩
      · obtain ⟨e1, e2⟩ := inv.same hm
        exact hN _ _ ⟨_, _, cl, rfl, by show S3 = _; rw [hS3]; show _ = S.set l _ ++ [.dt ((addTg tg2 _).map Tg.ent), _]; rw [e1], by show TgI g _ (addTg tg2 _) cl; rw [e1]; exact e2⟩
      · have e1 : addTg tg2 (img (4 * w) (4 * h) j t.kind p.1 p.2) = tg2 ++ [img (4 * w) (4 * h) j t.kind p.1 p.2] := by unfold addTg; rw [if_neg hm]
        refine hN _ _ ⟨_, _, _, rfl, ?_, inv.add _ hm⟩
        show _ = S.set l _ ++ [.dt ((addTg tg2 _).map Tg.ent), _]
        rw [e1, hS3]
        rw [List.set_append_right _ _ (by rw [List.length_set]; exact Nat.le_refl _), List.set_append_right _ _ (by rw [List.length_set]; omega), List.length_set, Nat.sub_self, show S.length + 1 - S.length = 1 by omega]
        rfl
    · rintro ρ S3 ⟨u8, u9, cl, rfl, hS3, inv⟩
      have e4 : (imgs (4 * w) (4 * h) j t).take (0 + ((pts t).map fun p => placeD p.1 p.2).length) = imgs (4 * w) (4 * h) j t := rfl
      rw [e4] at hS3 inv
      exact hN _ _ ⟨_, _, _, _, _, _, cl, rfl, hS3, inv⟩
  · rw [enumD_len, List.length_map, Nat.zero_add, List.take_length]
    rintro ρ S'' ⟨u4, u5, u6, u7, u8, u9, cl, rfl, hS2, inv⟩
    have l1 := inv.l1
    refine Rt.obj (l := l) (C := A.a_Torus) (d := .non) (fs := torF w h g fac S.length) (fs' := [("across", .int (4 * w)), ("along", .int (4 * h)), ("unit", .int g), ("rest", .int (4 * h / g)), ("circuit", .int (4 * w * (4 * h / g))), ("factor", .int fac), ("targets", .dt ((tgFrom (4 * w) (4 * h) 0 ts []).map Tg.ent)), ("classes", .dk cl)]) hlt ?_ ?_ ?_ trivial ?_
    · rw [hS2]; exact app_left (List.getElem?_set_self hlt)
    · refine ⟨rfl, .same trivial, rfl, .same trivial, rfl, .same trivial, rfl, .same trivial, rfl, .same trivial, rfl, .same trivial, rfl, .dt (Nat.le_refl _) ?_ (tg_bnd _ _), rfl, .dk (Nat.le_succ _) ?_ (cl_bnd _ inv.ok), trivial⟩
      · rw [hS2, List.getElem?_append_right (by rw [List.length_set]; exact Nat.le_refl _), List.length_set, Nat.sub_self]; rfl
      · rw [hS2, List.getElem?_append_right (by rw [List.length_set]; omega), List.length_set, show S.length + 1 - S.length = 1 by omega]; rfl
    · intro m hm hne
      rw [hS2, List.getElem?_append_left (by rw [List.length_set]; exact hm), List.getElem?_set_ne (Ne.symm hne)]
    · refine q _ ⟨4 * w, 4 * h, g, 4 * h / g, 4 * w * (4 * h / g), fac⟩ ⟨⟨by show 4 ≤ 4 * w; omega, by show 4 * w ≤ _; omega, by show 4 ≤ 4 * h; omega, by show 4 * h ≤ _; omega, hg0, by show g ≤ _; omega, by show 0 < 4 * h / g; omega, by show 4 * h / g ≤ _; omega, c0, c1⟩, rfl, rfl, rfl, rfl, rfl, rfl, rfl, ⟨cl, rfl, inv.ok⟩, inv.nd, by omega, rfl⟩ ⟨by show 0 < 4 * w; omega, hg0, by show 0 < 4 * h / g; omega, ((hg.2 g).mp (Int.dvd_refl g)).1, (Int.mul_ediv_cancel' ((hg.2 g).mp (Int.dvd_refl g)).2).symm, rfl, c2⟩ ⟨rfl, rfl, rfl, rfl⟩ rfl rfl ⟨rfl, rfl, rfl, rfl, rfl, rfl, rfl, by show 4 ≤ 4 * w; omega, by show 4 * w ≤ _; omega, by show 4 ≤ 4 * h; omega, by show 4 * h ≤ _; omega⟩ (fun k => ⟨trivial, trivial, trivial, trivial, trivial, trivial, tg_bnd _ _, cl_bnd _ inv.ok, trivial⟩)
end
end K

namespace K
open PySem L2 DL
local macro_rules | `(tactic| walk_at "w") => `(tactic| (conv => whnf))
local macro_rules | `(tactic| walk_at "at") => `(tactic| first | assumption | (refine SrcStep.get (l := ?l0) (n := ?n0) (S := ?s0) ?h1 ?h2 ?h3; (case h1 => assumption); (case h2 => omega); (case h3 => walk_at "at")) | (refine set_same (o := ?oo) ?sm; (case sm => walk_at "at")) | (refine set_other ?sm ?sn; (case sn => omega); (case sm => walk_at "at")) | (exact getElem_push _ _) | (refine app_left ?sm; (case sm => walk_at "at")) | rfl)
local macro_rules | `(tactic| walk_at "get") => `(tactic| (refine Exists.intro ?wit (And.intro ?gt ?_); (case gt => walk_at "at")))
local macro_rules | `(tactic| walk_at "bool") => `(tactic| (refine And.intro (fun hcond => ?_) (fun hcond => ?_) <;> (first | (exact absurd hcond (by decide)) | (simp only [decide_eq_true_eq, decide_eq_false_iff_not, Bool.not_eq_true', Bool.not_eq_false', Int.not_lt, Int.not_le, inD_nil, inD_int_cons, Bool.or_eq_true, Bool.or_eq_false_iff, Bool.or_false, ne_eq, Decidable.not_not] at hcond) | skip)))
local macro_rules | `(tactic| walk_at "len") => `(tactic| (refine line_le6 ?_; (try simp only [len_cat, len_e]); omega))
local macro_rules | `(tactic| walk_at "cond") => `(tactic| first | assumption | rfl | exact True.intro | omega | (exact Nat.le_of_ble_eq_true rfl) | (refine mulS ?cm1 ?cm2 <;> omega) | (refine divS ?cm1 <;> omega) | (refine And.intro ?cd1 ?cd2 <;> decide) | (exact line_le (Nat.le_of_ble_eq_true rfl)) | (exact line_lt (Nat.le_of_ble_eq_true rfl)) | (refine' Exists.intro _ (Exists.intro _ (And.intro rfl ?cm1)); (case cm1 => walk_at "at")) | (exact log_le (by omega)) | walk_at "len" | solve_by_elim | fail "no cond")
local macro_rules | `(tactic| walk_at "src") => `(tactic| first | assumption | (refine SrcStep.srcAt (S := ?ss) ?st; (case st => assumption)) | (refine SrcAt.app ?st; (case st => walk_at "src")))
local macro_rules | `(tactic| walk_at "draw") => `(tactic| (refine' Exists.intro _ (Exists.intro _ (Exists.intro ?nn (And.intro rfl (And.intro ?d1 (And.intro ?d2 (And.intro ?d3 (fun r S' h0 h1 hst => ?_))))))); (case d1 => walk_at "src"); (case d2 => omega); (case d3 => omega)))
local macro_rules | `(tactic| walk_at "steps") => `(tactic| first | assumption | (refine SrcStep.trans (n := ?sn) (S1 := ?sm) ?sx ?sy; (case sy => assumption); (case sx => walk_at "steps")) | (refine SrcAt.refl ?sz; assumption))
local macro_rules | `(tactic| walk_at "side") => `(tactic| (refine And.intro ?sd ?_; (case sd => walk_at "cond")))
local macro_rules | `(tactic| walk_at "go1") => `(tactic| (conv => whnf) <;> (first | walk_at "get" | walk_at "bool" | walk_at "draw" | walk_at "side" | fail "no step"))
local macro_rules | `(tactic| walk_at "go") => `(tactic| (repeat' (walk_at "go1")); (all_goals try (conv => whnf)))

theorem ray_pl {w h x y dx dy : Int} (r : RayOk w h x y dx dy) (fo : w ≤ 1000000000000000 ∧ h ≤ 1000000000000000) : (0 ≤ x ∧ x ≤ 4000000000000000 ∧ 0 ≤ y ∧ y ≤ 4000000000000000) ∧ (dx = 1 ∨ dx = -1) ∧ (dy = 1 ∨ dy = -1) := by
  obtain ⟨a1, a2, a3, a4, a5, hdx, hdy, a6, a7, a8, a9⟩ := r
  exact ⟨⟨a1, by omega, a3, by omega⟩, hdx, hdy⟩
/-- the torus of a floor, with all that is known of it -/
structure TAll (w h : Int) (ts : List Th) (n : TNum) (fs : List (Str × D)) : Prop where
  td : TD n (tgFrom (4 * w) (4 * h) 0 ts []) fs
  g : TGood n
  mw : NoM fs
  ea : n.a = 4 * w
  el : n.l = 4 * h
  tw : TW n.a n.l fs
  fb : ∀ k, bndF k fs
def spTorusOf (A : Ads) : DSp := fun ds S Q E => ∃ (w h : Int) (ts : List Th) (sh : Str), ds = [floorD A.a_Floor w h ts sh] ∧ FlOk w h ts ∧
  ∀ fs n, TAll w h ts n fs → Q (.obj A.a_Torus fs) S
theorem n_torus_of {A : Ads} : ∀ ds S Q E, spTorusOf A ds S Q E → ds.length = 1 := by
  rintro ds S Q E ⟨w, h, ts, sh, rfl, _⟩
  rfl
section
variable {P : Program} {w : World} {K : PySem.W.Frag} {mg : Str → Option Value} {base : Heap} {A : Ads} {B : Fds}
theorem ok_torus_of (T : Txt w K mg A B) : FnOk P w K mg base CX0 5 A.a_torus_of B.a_torus_of ["floor"] (spOf K 1 (spTorusOf A)) := by
  refine dfn_ok T.F_torus_of sc_torus_of n_torus_of (fun cdv Ar outer s H E hr => (ds_one (ds_ret (de_make T.mk_Torus (ok_Torus___init__ T) (hr.mono (by decide)) rfl T.g_Torus T.b_Torus___init__ .nil rpl_nil pass0 n_Torus___init__ (da_cons (de_fld (dv 0) T.cl_Floor T.n_Floor_width) (da_cons (de_fld (dv 0) T.cl_Floor T.n_Floor_height) (da_cons (de_fld (dv 0) T.cl_Floor T.n_Floor_things) da_nil))))))) ?_
  rintro ds S Q E bd ⟨w, h, ts, sh, rfl, fo, q⟩
  walk_at "go"
  refine ⟨_, w, h, ts, rfl, getElem_push _ _, fo, fun fs n td tg mw e1 e2 tw fb => ⟨rfl, ?_⟩⟩
  refine Rt.tree (fs := fs) (Nat.le_refl _) (List.getElem?_set_self (by rw [List.length_append]; exact Nat.lt_succ_self _)) (fb _) (fun m hm => ?_) (q fs n ⟨td, tg, mw, e1, e2, tw, fb⟩)
  rw [List.getElem?_set_ne (by omega), List.getElem?_append_left hm]
end
end K

namespace K
open PySem L2 DL
local macro_rules | `(tactic| walk_at "w") => `(tactic| (conv => whnf))
local macro_rules | `(tactic| walk_at "at") => `(tactic| first | assumption | (refine SrcStep.get (l := ?l0) (n := ?n0) (S := ?s0) ?h1 ?h2 ?h3; (case h1 => assumption); (case h2 => omega); (case h3 => walk_at "at")) | (refine set_same (o := ?oo) ?sm; (case sm => walk_at "at")) | (refine set_other ?sm ?sn; (case sn => omega); (case sm => walk_at "at")) | (exact getElem_push _ _) | (refine app_left ?sm; (case sm => walk_at "at")) | rfl)
local macro_rules | `(tactic| walk_at "get") => `(tactic| (refine Exists.intro ?wit (And.intro ?gt ?_); (case gt => walk_at "at")))
local macro_rules | `(tactic| walk_at "bool") => `(tactic| (refine And.intro (fun hcond => ?_) (fun hcond => ?_) <;> (first | (exact absurd hcond (by decide)) | (simp only [decide_eq_true_eq, decide_eq_false_iff_not, Bool.not_eq_true', Bool.not_eq_false', Int.not_lt, Int.not_le, inD_nil, inD_int_cons, Bool.or_eq_true, Bool.or_eq_false_iff, Bool.or_false, ne_eq, Decidable.not_not] at hcond) | skip)))
local macro_rules | `(tactic| walk_at "len") => `(tactic| (refine line_le6 ?_; (try simp only [len_cat, len_e]); omega))
local macro_rules | `(tactic| walk_at "cond") => `(tactic| first | assumption | rfl | exact True.intro | omega | (exact Nat.le_of_ble_eq_true rfl) | (refine mulS ?cm1 ?cm2 <;> omega) | (refine divS ?cm1 <;> omega) | (refine And.intro ?cd1 ?cd2 <;> decide) | (exact line_le (Nat.le_of_ble_eq_true rfl)) | (exact line_lt (Nat.le_of_ble_eq_true rfl)) | (refine' Exists.intro _ (Exists.intro _ (And.intro rfl ?cm1)); (case cm1 => walk_at "at")) | (exact log_le (by omega)) | walk_at "len" | solve_by_elim | fail "no cond")
local macro_rules | `(tactic| walk_at "src") => `(tactic| first | assumption | (refine SrcStep.srcAt (S := ?ss) ?st; (case st => assumption)) | (refine SrcAt.app ?st; (case st => walk_at "src")))
local macro_rules | `(tactic| walk_at "draw") => `(tactic| (refine' Exists.intro _ (Exists.intro _ (Exists.intro ?nn (And.intro rfl (And.intro ?d1 (And.intro ?d2 (And.intro ?d3 (fun r S' h0 h1 hst => ?_))))))); (case d1 => walk_at "src"); (case d2 => omega); (case d3 => omega)))
local macro_rules | `(tactic| walk_at "steps") => `(tactic| first | assumption | (refine SrcStep.trans (n := ?sn) (S1 := ?sm) ?sx ?sy; (case sy => assumption); (case sx => walk_at "steps")) | (refine SrcAt.refl ?sz; assumption))
local macro_rules | `(tactic| walk_at "side") => `(tactic| (refine And.intro ?sd ?_; (case sd => walk_at "cond")))
local macro_rules | `(tactic| walk_at "go1") => `(tactic| (conv => whnf) <;> (first | walk_at "get" | walk_at "bool" | walk_at "draw" | walk_at "side" | fail "no step"))
local macro_rules | `(tactic| walk_at "go") => `(tactic| (repeat' (walk_at "go1")); (all_goals try (conv => whnf)))

/-- the next event from a place -/
def evAt (n : TNum) (tg : List Tg) (x y : Int) : Option Tg × Int := evBest n x y (inClass n.u ((x - y) % n.u) tg)
def Cs.hit (n : TNum) (c : Cs) (s : Int) : Cs := { c with walls := c.walls + wallsN n c.x c.y s, steps := c.steps - s, taken := c.taken + s }
def Cs.atDoor (n : TNum) (c : Cs) (s : Int) (k : Nat) : Cs := { c.hit n s with door := some k, walls := c.walls + wallsN n c.x c.y s - 1 }
def Cs.atMirror (n : TNum) (c : Cs) (s : Int) (p : Int × Int) : Cs := { c.hit n s with mirrors := c.mirrors + 1, x := p.1, y := p.2 }
def Cs.glide (n : TNum) (c : Cs) : Cs := { c with walls := c.walls + wallsN n c.x c.y c.steps, taken := c.taken + c.steps, x := c.x + c.steps, y := c.y + c.steps }
/-- from a state of the loop of Course.follow to the end -/
inductive Fol (n : TNum) (tg : List Tg) : Cs → Option (Int × Int) → Int × Int × Int → Cs → Prop where
  | stop {c : Cs} {st : Option (Int × Int)} {bf : Int × Int × Int} (h : (evAt n tg c.x c.y).1 = none ∨ c.steps < (evAt n tg c.x c.y).2) : Fol n tg c st bf (c.glide n)
  | door {c : Cs} {st : Option (Int × Int)} {bf : Int × Int × Int} {e : Tg} {s : Int} (h : evAt n tg c.x c.y = (some e, s)) (hs : s ≤ c.steps) (hl : e.left = none) : Fol n tg c st bf (c.atDoor n s e.n)
  | first {c c' : Cs} {bf : Int × Int × Int} {e : Tg} {s : Int} {p : Int × Int} (h : evAt n tg c.x c.y = (some e, s)) (hs : s ≤ c.steps) (hl : e.left = some p)
      (r : Fol n tg (c.atMirror n s p) (some p) ((c.atMirror n s p).taken, (c.atMirror n s p).walls, (c.atMirror n s p).mirrors) c') : Fol n tg c none bf c'
  | again {c c' : Cs} {bf : Int × Int × Int} {e : Tg} {s : Int} {p : Int × Int} (h : evAt n tg c.x c.y = (some e, s)) (hs : s ≤ c.steps) (hl : e.left = some p)
      (r : Fol n tg ((c.atMirror n s p).leave bf.1 bf.2.1 bf.2.2) (some p) bf c') : Fol n tg c (some p) bf c'
  | other {c c' : Cs} {bf : Int × Int × Int} {e : Tg} {s : Int} {p q : Int × Int} (h : evAt n tg c.x c.y = (some e, s)) (hs : s ≤ c.steps) (hl : e.left = some p) (hne : p ≠ q)
      (r : Fol n tg (c.atMirror n s p) (some q) bf c') : Fol n tg c (some q) bf c'
theorem div_walls {x s h : Int} (hh : 2 ≤ h) (hs : 1 ≤ s) : 0 ≤ (x + s) / h - x / h ∧ 2 * ((x + s) / h - x / h) ≤ 3 * s := by
  have e1 := Int.mul_ediv_add_emod x h
  have e2 := Int.mul_ediv_add_emod (x + s) h
  have a1 := Int.emod_nonneg x (show h ≠ 0 by omega)
  have a2 := Int.emod_lt_of_pos x (show 0 < h by omega)
  have b1 := Int.emod_nonneg (x + s) (show h ≠ 0 by omega)
  have b2 := Int.emod_lt_of_pos (x + s) (show 0 < h by omega)
  generalize (x + s) / h = q at *
  generalize x / h = p at *
  have e3 : h * (q - p) = s + (x % h - (x + s) % h) := by rw [Int.mul_sub]; omega
  have h0 : 0 ≤ q - p := by
    rcases Int.lt_or_le (q - p) 0 with hn | hn
    · have : h * (q - p) ≤ h * (-1) := Int.mul_le_mul_of_nonneg_left (by omega) (by omega)
      omega
    · exact hn
  refine ⟨h0, ?_⟩
  rcases Int.lt_or_le 0 (q - p) with hp | hp
  · have h1 : h * (q - p - 1) = h * (q - p) - h := by rw [Int.mul_sub, Int.mul_one]
    have h2 : 2 * (q - p - 1) ≤ h * (q - p - 1) := Int.mul_le_mul_of_nonneg_right hh (by omega)
    omega
  · omega
theorem walls_le {n : TNum} (ok : n.Ok) {x y s : Int} (hs : 1 ≤ s) : 0 ≤ wallsN n x y s ∧ wallsN n x y s ≤ 3 * s := by
  have h1 := div_walls (x := x) (s := s) (h := n.a / 2) (by have := ok.a1; omega) hs
  have h2 := div_walls (x := y) (s := s) (h := n.l / 2) (by have := ok.l1; omega) hs
  unfold wallsN
  omega
end K

namespace K
open PySem L2 DL
abbrev Ray := Int × Int × Int × Int
def fX (a X : Int) : Int := if 2 * (X % a) < a then X % a else a - X % a
def fD (a X : Int) : Int := if 2 * (X % a) < a then 1 else -1
def rayOf (a l X Y : Int) : Ray := (fX a X, fX l Y, fD a X, fD l Y)
theorem em_succ {a X : Int} (ha : 1 < a) : (X + 1) % a = if X % a + 1 = a then 0 else X % a + 1 := by
  have h0 := Int.emod_nonneg X (show a ≠ 0 by omega)
  have h1 := Int.emod_lt_of_pos X (show 0 < a by omega)
  have e : (X + 1) % a = (X % a + 1) % a := by rw [Int.add_emod X 1, Int.add_emod (X % a) 1, Int.emod_emod]
  rw [e]
  split
  · rename_i h; rw [h, Int.emod_self]
  · rename_i h; exact Int.emod_eq_of_lt (by omega) (by omega)
theorem em_neg {a X : Int} (ha : 1 < a) : (0 - X) % a = if X % a = 0 then 0 else a - X % a := by
  have h0 := Int.emod_nonneg X (show a ≠ 0 by omega)
  have h1 := Int.emod_lt_of_pos X (show 0 < a by omega)
  have e1 := Int.mul_ediv_add_emod X a
  split
  · rename_i h
    exact Int.emod_eq_zero_of_dvd ⟨-(X / a), by rw [Int.mul_neg]; omega⟩
  · rename_i h
    have : (0 - X) = (a - X % a) + a * (-(X / a) - 1) := by rw [Int.mul_sub, Int.mul_neg]; omega
    rw [this, Int.add_mul_emod_self_left]
    exact Int.emod_eq_of_lt (by omega) (by omega)
section
variable {w X : Int} (hw : 1 ≤ w)
include hw
theorem fX_rng (X : Int) : 0 ≤ fX (4 * w) X ∧ fX (4 * w) X ≤ 2 * w ∧ 0 ≤ fX (4 * w) X + fD (4 * w) X ∧ fX (4 * w) X + fD (4 * w) X ≤ 2 * w ∧ (fD (4 * w) X = 1 ∨ fD (4 * w) X = -1) := by
  have h0 := Int.emod_nonneg X (show 4 * w ≠ 0 by omega)
  have h1 := Int.emod_lt_of_pos X (show 0 < 4 * w by omega)
  unfold fX fD
  split <;> omega
theorem fX_succ (X : Int) : fX (4 * w) (X + 1) = fX (4 * w) X + fD (4 * w) X := by
  have h0 := Int.emod_nonneg X (show 4 * w ≠ 0 by omega)
  have h1 := Int.emod_lt_of_pos X (show 0 < 4 * w by omega)
  unfold fX fD
  rw [em_succ (show 1 < 4 * w by omega)]
  repeat' split
  all_goals omega
theorem fD_in (X : Int) (h : fX (4 * w) (X + 1) ≠ 0 ∧ fX (4 * w) (X + 1) ≠ 2 * w) : fD (4 * w) (X + 1) = fD (4 * w) X := by
  have h0 := Int.emod_nonneg X (show 4 * w ≠ 0 by omega)
  have h1 := Int.emod_lt_of_pos X (show 0 < 4 * w by omega)
  revert h
  unfold fX fD
  rw [em_succ (show 1 < 4 * w by omega)]
  repeat' split
  all_goals omega
theorem fD_wall (X : Int) (h : fX (4 * w) (X + 1) = 0 ∨ fX (4 * w) (X + 1) = 2 * w) : fD (4 * w) (X + 1) = fD (4 * w) X * -1 := by
  have h0 := Int.emod_nonneg X (show 4 * w ≠ 0 by omega)
  have h1 := Int.emod_lt_of_pos X (show 0 < 4 * w by omega)
  revert h
  unfold fX fD
  rw [em_succ (show 1 < 4 * w by omega)]
  repeat' split
  all_goals omega
theorem fX_neg (X : Int) : fX (4 * w) (0 - X) = fX (4 * w) X := by
  have h0 := Int.emod_nonneg X (show 4 * w ≠ 0 by omega)
  have h1 := Int.emod_lt_of_pos X (show 0 < 4 * w by omega)
  unfold fX
  rw [em_neg (show 1 < 4 * w by omega)]
  repeat' split
  all_goals omega
theorem fD_neg (X : Int) (h : fX (4 * w) X ≠ 0 ∧ fX (4 * w) X ≠ 2 * w) : fD (4 * w) (0 - X) = fD (4 * w) X * -1 := by
  have h0 := Int.emod_nonneg X (show 4 * w ≠ 0 by omega)
  have h1 := Int.emod_lt_of_pos X (show 0 < 4 * w by omega)
  revert h
  unfold fX fD
  rw [em_neg (show 1 < 4 * w by omega)]
  repeat' split
  all_goals omega
theorem fX_par (X : Int) : (fX (4 * w) X - X) % 2 = 0 := by
  have e := Int.mul_ediv_add_emod X (4 * w)
  unfold fX
  rw [Int.mul_assoc] at e
  split <;> omega
theorem fX_of {x dx : Int} (h0 : 0 ≤ x) (h1 : x ≤ 2 * w) (hd : dx = 1 ∨ dx = -1) (h2 : 0 ≤ x + dx) (h3 : x + dx ≤ 2 * w) : fX (4 * w) (x * dx) = x ∧ fD (4 * w) (x * dx) = dx := by
  rcases hd with rfl | rfl
  · rw [Int.mul_one]
    have e : x % (4 * w) = x := Int.emod_eq_of_lt h0 (by omega)
    unfold fX fD
    rw [e]
    constructor <;> split <;> omega
  · have e : x % (4 * w) = x := Int.emod_eq_of_lt h0 (by omega)
    have e2 : x * -1 = 0 - x := by omega
    unfold fX fD
    rw [e2, em_neg (show 1 < 4 * w by omega), e]
    constructor <;> repeat' split
    all_goals omega
theorem fX_inv {x : Int} (h : fX (4 * w) X = x) : X % (4 * w) = x % (4 * w) ∨ X % (4 * w) = (0 - x) % (4 * w) := by
  have h0 := Int.emod_nonneg X (show 4 * w ≠ 0 by omega)
  have h1 := Int.emod_lt_of_pos X (show 0 < 4 * w by omega)
  unfold fX at h
  split at h
  · exact Or.inl (by rw [← h, Int.emod_emod])
  · refine Or.inr ?_
    rw [← h, em_neg (show 1 < 4 * w by omega)]
    have : (4 * w - X % (4 * w)) % (4 * w) = 4 * w - X % (4 * w) := Int.emod_eq_of_lt (by omega) (by omega)
    rw [this]
    split <;> omega
end
theorem fX_mod (a X : Int) : fX a (X % a) = fX a X := by unfold fX; rw [Int.emod_emod]
theorem fD_mod (a X : Int) : fD a (X % a) = fD a X := by unfold fD; rw [Int.emod_emod]
theorem rayOf_mod (a l X Y : Int) : rayOf a l (X % a) (Y % l) = rayOf a l X Y := by unfold rayOf; rw [fX_mod, fX_mod, fD_mod, fD_mod]
def rOk (w h : Int) (r : Ray) : Prop := RayOk w h r.1 r.2.1 r.2.2.1 r.2.2.2
def stp (w h : Int) (ts : List Th) (r : Ray) : Option Ray := stepR w h ts r.1 r.2.1 r.2.2.1 r.2.2.2
def rvs (w h : Int) (ts : List Th) (r : Ray) : Option Ray := revR w h ts r.1 r.2.1 r.2.2.1 r.2.2.2
theorem rayOf_ok {w h X Y : Int} (hw : 1 ≤ w) (hh : 1 ≤ h) (ho : (X + Y) % 2 = 1) : rOk w h (rayOf (4 * w) (4 * h) X Y) := by
  obtain ⟨a1, a2, a3, a4, a5⟩ := fX_rng hw X
  obtain ⟨b1, b2, b3, b4, b5⟩ := fX_rng hh Y
  have p1 := fX_par hw X
  have p2 := fX_par hh Y
  exact ⟨a1, a2, b1, b2, by show (fX (4 * w) X + fX (4 * h) Y) % 2 = 1; omega, a5, b5, a3, a4, b3, b4⟩
theorem rayOf_of {w h : Int} {r : Ray} (hw : 1 ≤ w) (hh : 1 ≤ h) (k : rOk w h r) : rayOf (4 * w) (4 * h) (r.1 * r.2.2.1) (r.2.1 * r.2.2.2) = r := by
  obtain ⟨x, y, dx, dy⟩ := r
  obtain ⟨a1, a2, a3, a4, a5, hdx, hdy, a6, a7, a8, a9⟩ := k
  obtain ⟨e1, e2⟩ := fX_of hw a1 a2 hdx a6 a7
  obtain ⟨e3, e4⟩ := fX_of hh a3 a4 hdy a8 a9
  unfold rayOf
  show (fX (4 * w) (x * dx), fX (4 * h) (y * dy), fD (4 * w) (x * dx), fD (4 * h) (y * dy)) = _
  rw [e1, e2, e3, e4]
theorem kind_cases {ts : List Th} (x y : Int) : (kindAt ts x y = "" ∧ ∀ t ∈ ts, ¬ (t.x = x ∧ t.y = y)) ∨ ∃ t ∈ ts, t.x = x ∧ t.y = y ∧ kindAt ts x y = t.kind := by
  unfold kindAt
  cases e : ts.find? fun t => decide (t.x = x ∧ t.y = y) with
  | none =>
    refine Or.inl ⟨rfl, fun t ht h => ?_⟩
    have := List.find?_eq_none.mp e t ht
    simp [h] at this
  | some t =>
    have h1 := List.find?_some e
    have h2 := List.mem_of_find?_eq_some e
    have h3 := of_decide_eq_true h1
    exact Or.inr ⟨t, h2, h3.1, h3.2, rfl⟩
theorem nodup_get {α β : Type} {f : α → β} : ∀ {L : List α}, (L.map f).Nodup → ∀ {a b}, a ∈ L → b ∈ L → f a = f b → a = b
  | [], _, _, _, h, _, _ => nomatch h
  | x :: r, nd, a, b, ha, hb, e => by
    rw [List.map_cons, List.nodup_cons] at nd
    rcases List.mem_cons.mp ha with rfl | ha' <;> rcases List.mem_cons.mp hb with rfl | hb'
    · rfl
    · exact absurd (List.mem_map.mpr ⟨b, hb', e.symm⟩) nd.1
    · exact absurd (List.mem_map.mpr ⟨a, ha', e⟩) nd.1
    · exact nodup_get nd.2 ha' hb' e
theorem kind_of {w h : Int} {ts : List Th} (ok : ThsOk w h ts) {t : Th} (ht : t ∈ ts) : kindAt ts t.x t.y = t.kind := by
  rcases kind_cases (ts := ts) t.x t.y with ⟨_, h1⟩ | ⟨t', h1, h2, h3, h4⟩
  · exact absurd ⟨rfl, rfl⟩ (h1 t ht)
  · rw [h4, nodup_get ok.nd h1 ht (by show (t'.x, t'.y) = (t.x, t.y); rw [h2, h3])]
/-- kinds at points -/
theorem kind_rng {w h : Int} {ts : List Th} (ok : ThsOk w h ts) (x y : Int) : kindAt ts x y = "" ∨ ((kindAt ts x y = "|" ∨ kindAt ts x y = "-") ∧ 0 < x ∧ x < 2 * w ∧ 0 < y ∧ y < 2 * h) ∨ (kindAt ts x y = "o" ∧ Wall w h x y) := by
  rcases kind_cases (ts := ts) x y with ⟨h1, _⟩ | ⟨t, h1, rfl, rfl, h4⟩
  · exact Or.inl h1
  · rcases ok.all t h1 with ⟨k1, k2, k3, k4, k5, k6⟩ | ⟨k1, k2⟩
    · exact Or.inr (Or.inl ⟨by rw [h4]; exact k1, k2, k3, k4, k5⟩)
    · exact Or.inr (Or.inr ⟨h4.trans k1, k2⟩)
/-- one step on the doubled floor -/
theorem stp_place {w h : Int} {ts : List Th} (hw : 1 ≤ w) (hh : 1 ≤ h) (ok : ThsOk w h ts) {X Y : Int} (ho : (X + Y) % 2 = 1) :
    stp w h ts (rayOf (4 * w) (4 * h) X Y) = (if kindAt ts (fX (4 * w) (X + 1)) (fX (4 * h) (Y + 1)) = "o" then none else if kindAt ts (fX (4 * w) (X + 1)) (fX (4 * h) (Y + 1)) = "|" then some (rayOf (4 * w) (4 * h) (0 - (X + 1)) (Y + 1)) else if kindAt ts (fX (4 * w) (X + 1)) (fX (4 * h) (Y + 1)) = "-" then some (rayOf (4 * w) (4 * h) (X + 1) (0 - (Y + 1))) else some (rayOf (4 * w) (4 * h) (X + 1) (Y + 1))) := by
  show stepR w h ts (fX (4 * w) X) (fX (4 * h) Y) (fD (4 * w) X) (fD (4 * h) Y) = _
  unfold stepR
  rw [← fX_succ hw, ← fX_succ hh]
  have p1 := fX_par hw (X + 1)
  have p2 := fX_par hh (Y + 1)
  have kr := kind_rng ok (fX (4 * w) (X + 1)) (fX (4 * h) (Y + 1))
  have i1 := fD_in hw X
  have i2 := fD_in hh Y
  have w1 := fD_wall hw X
  have w2 := fD_wall hh Y
  have n1 := fX_neg hw (X + 1)
  have n2 := fX_neg hh (Y + 1)
  have d1 := fD_neg hw (X + 1)
  have d2 := fD_neg hh (Y + 1)
  by_cases c1 : kindAt ts (fX (4 * w) (X + 1)) (fX (4 * h) (Y + 1)) = "o"
  · rw [if_pos c1, if_pos c1]
  rw [if_neg c1, if_neg c1]
  unfold rayOf
  generalize hk : kindAt ts (fX (4 * w) (X + 1)) (fX (4 * h) (Y + 1)) = k at *
  rcases kr with rfl | ⟨kr, b1, b2, b3, b4⟩ | ⟨kr, _⟩
  · rw [if_neg (by decide), if_neg (by decide)]
    unfold tX tY
    by_cases x0 : fX (4 * w) (X + 1) = 0 ∨ fX (4 * w) (X + 1) = 2 * w
    · rw [if_pos x0, if_pos x0, w1 x0, i2 (by omega), Int.mul_one]
    · rw [if_neg x0, if_neg x0, i1 (by omega)]
      by_cases y0 : fX (4 * h) (Y + 1) = 0 ∨ fX (4 * h) (Y + 1) = 2 * h
      · rw [if_pos y0, if_pos y0, w2 y0, Int.mul_one]
      · rw [if_neg y0, if_neg y0, i2 (by omega), if_neg (by decide), if_neg (by decide), Int.mul_one, Int.mul_one]
  · unfold tX tY
    have x0 : ¬ (fX (4 * w) (X + 1) = 0 ∨ fX (4 * w) (X + 1) = 2 * w) := by omega
    have y0 : ¬ (fX (4 * h) (Y + 1) = 0 ∨ fX (4 * h) (Y + 1) = 2 * h) := by omega
    rw [if_neg x0, if_neg y0, if_neg x0, if_neg y0]
    rcases kr with rfl | rfl
    · rw [if_pos rfl, if_neg (by decide), if_pos rfl, n1, d1 (by omega), i1 (by omega), i2 (by omega), Int.mul_one]
    · rw [if_neg (by decide), if_pos rfl, if_neg (by decide), if_pos rfl, n2, d2 (by omega), i1 (by omega), i2 (by omega), Int.mul_one]
  · exact absurd kr c1
theorem mem_addTg {tg : List Tg} {t t' : Tg} (h : t' ∈ addTg tg t) : t' ∈ tg ∨ t' = t := by
  unfold addTg at h
  split at h
  · exact Or.inl h
  · rcases List.mem_append.mp h with h | h
    · exact Or.inl h
    · exact Or.inr (List.mem_singleton.mp h)
theorem mem_addTgs {t' : Tg} : ∀ (L : List Tg) (tg : List Tg), t' ∈ L.foldl addTg tg → t' ∈ tg ∨ t' ∈ L
  | [], tg, h => Or.inl h
  | t :: r, tg, h => by
    rcases mem_addTgs r _ h with h | h
    · rcases mem_addTg h with h | h
      · exact Or.inl h
      · exact Or.inr (by rw [h]; exact List.mem_cons_self)
    · exact Or.inr (List.mem_cons_of_mem _ h)
theorem addTg_keep {tg : List Tg} {t : Tg} {p : Int × Int} (h : p ∈ tg.map (fun t => (t.x, t.y)) ∨ p = (t.x, t.y)) : p ∈ (addTg tg t).map (fun t => (t.x, t.y)) := by
  unfold addTg
  split
  · rename_i hc
    rcases h with h | h
    · exact h
    · rw [h]; exact hc
  · rw [List.map_append]
    rcases h with h | h
    · exact List.mem_append_left _ h
    · exact List.mem_append_right _ (by rw [h]; exact List.mem_cons_self)
theorem addTgs_keep {p : Int × Int} : ∀ (L : List Tg) (tg : List Tg), (p ∈ tg.map (fun t => (t.x, t.y)) ∨ p ∈ L.map (fun t => (t.x, t.y))) → p ∈ (L.foldl addTg tg).map (fun t => (t.x, t.y))
  | [], tg, h => by
    rcases h with h | h
    · exact h
    · cases h
  | t :: r, tg, h => by
    refine addTgs_keep r _ ?_
    rcases h with h | h
    · exact Or.inl (addTg_keep (Or.inl h))
    · rw [List.map_cons] at h
      rcases List.mem_cons.mp h with h | h
      · exact Or.inl (addTg_keep (Or.inr h))
      · exact Or.inr h
theorem mem_tgFrom {a l : Int} {t : Tg} : ∀ (ts : List Th) (i : Nat) (tg : List Tg), t ∈ tgFrom a l i ts tg → t ∈ tg ∨ ∃ j th, ts[j]? = some th ∧ t ∈ imgs a l (i + j) th
  | [], i, tg, h => Or.inl h
  | x :: r, i, tg, h => by
    rcases mem_tgFrom r (i + 1) _ h with h | ⟨j, th, h1, h2⟩
    · rcases mem_addTgs _ _ h with h | h
      · exact Or.inl h
      · exact Or.inr ⟨0, x, rfl, h⟩
    · exact Or.inr ⟨j + 1, th, h1, by rw [show i + (j + 1) = i + 1 + j by omega]; exact h2⟩
theorem tgFrom_keep {a l : Int} {p : Int × Int} : ∀ (ts : List Th) (i : Nat) (tg : List Tg), (p ∈ tg.map (fun t => (t.x, t.y)) ∨ ∃ th ∈ ts, p ∈ (imgs a l 0 th).map (fun t => (t.x, t.y))) → p ∈ (tgFrom a l i ts tg).map (fun t => (t.x, t.y))
  | [], i, tg, h => by
    rcases h with h | ⟨_, h, _⟩
    · exact h
    · cases h
  | x :: r, i, tg, h => by
    refine tgFrom_keep r (i + 1) _ ?_
    rcases h with h | ⟨th, h1, h2⟩
    · exact Or.inl (addTgs_keep _ _ (Or.inl h))
    · rcases List.mem_cons.mp h1 with rfl | h1
      · exact Or.inl (addTgs_keep _ _ (Or.inr h2))
      · exact Or.inr ⟨th, h1, h2⟩
/-- a target on the doubled floor of a floor: what is there -/
structure TgOk (w h : Int) (ts : List Th) (t : Tg) : Prop where
  x0 : 0 ≤ t.x
  x1 : t.x < 4 * w
  y0 : 0 ≤ t.y
  y1 : t.y < 4 * h
  th : ∃ th, ts[t.n]? = some th ∧ fX (4 * w) t.x = th.x ∧ fX (4 * h) t.y = th.y ∧ t.left = leftO (4 * w) (4 * h) th.kind t.x t.y
theorem em_neg_mod (a x : Int) : (0 - x % a) % a = (0 - x) % a := by
  rw [Int.sub_emod, Int.emod_emod, ← Int.sub_emod]
theorem leftO_mod (a l : Int) (k : Str) (x y : Int) : leftO a l k (x % a) (y % l) = leftO a l k x y := by
  unfold leftO
  rw [em_neg_mod, em_neg_mod, Int.emod_emod, Int.emod_emod]
theorem img_ok {w h : Int} {ts : List Th} (hw : 1 ≤ w) (hh : 1 ≤ h) {i : Nat} {th : Th} (hi : ts[i]? = some th) {x y : Int} (hx : fX (4 * w) x = th.x) (hy : fX (4 * h) y = th.y) : TgOk w h ts (img (4 * w) (4 * h) i th.kind x y) :=
  ⟨Int.emod_nonneg _ (by omega), Int.emod_lt_of_pos _ (by omega), Int.emod_nonneg _ (by omega), Int.emod_lt_of_pos _ (by omega), th, hi, (fX_mod _ _).trans hx, (fX_mod _ _).trans hy, (leftO_mod _ _ _ _ _).symm⟩
theorem th_fold {w h : Int} {ts : List Th} (hw : 1 ≤ w) (hh : 1 ≤ h) (ok : ThsOk w h ts) {th : Th} (ht : th ∈ ts) : (fX (4 * w) th.x = th.x ∧ fX (4 * w) (0 - th.x) = th.x) ∧ fX (4 * h) th.y = th.y ∧ fX (4 * h) (0 - th.y) = th.y := by
  have b : (0 ≤ th.x ∧ th.x ≤ 2 * w) ∧ 0 ≤ th.y ∧ th.y ≤ 2 * h := by
    rcases ok.all th ht with ⟨k1, k2, k3, k4, k5, k6⟩ | ⟨k1, ⟨h1, h2⟩ | ⟨h1, h2⟩⟩ <;> omega
  have e1 : th.x % (4 * w) = th.x := Int.emod_eq_of_lt b.1.1 (by omega)
  have e2 : th.y % (4 * h) = th.y := Int.emod_eq_of_lt b.2.1 (by omega)
  have f1 : fX (4 * w) th.x = th.x := by unfold fX; rw [e1]; split <;> omega
  have f2 : fX (4 * h) th.y = th.y := by unfold fX; rw [e2]; split <;> omega
  exact ⟨⟨f1, (fX_neg hw _).trans f1⟩, f2, (fX_neg hh _).trans f2⟩
theorem tg_ok {w h : Int} {ts : List Th} (hw : 1 ≤ w) (hh : 1 ≤ h) (ok : ThsOk w h ts) {t : Tg} (ht : t ∈ tgFrom (4 * w) (4 * h) 0 ts []) : TgOk w h ts t := by
  rcases mem_tgFrom ts 0 [] ht with h0 | ⟨j, th, hj, hm⟩
  · cases h0
  · rw [Nat.zero_add] at hm
    obtain ⟨⟨f1, f2⟩, f3, f4⟩ := th_fold hw hh ok (List.mem_of_getElem? hj)
    unfold imgs at hm
    rcases List.mem_cons.mp hm with rfl | hm
    · exact img_ok hw hh hj f1 f3
    rcases List.mem_cons.mp hm with rfl | hm
    · exact img_ok hw hh hj f1 f4
    rcases List.mem_cons.mp hm with rfl | hm
    · exact img_ok hw hh hj f2 f3
    rcases List.mem_cons.mp hm with rfl | hm
    · exact img_ok hw hh hj f2 f4
    · cases hm
/-- every place of a thing is a target -/
theorem tg_all {w h : Int} {ts : List Th} (hw : 1 ≤ w) (hh : 1 ≤ h) {th : Th} (ht : th ∈ ts) {X Y : Int} (hx : fX (4 * w) X = th.x) (hy : fX (4 * h) Y = th.y) :
    ∃ t ∈ tgFrom (4 * w) (4 * h) 0 ts [], t.x = X % (4 * w) ∧ t.y = Y % (4 * h) := by
  have h1 : (X % (4 * w), Y % (4 * h)) ∈ (tgFrom (4 * w) (4 * h) 0 ts []).map (fun t => (t.x, t.y)) := by
    refine tgFrom_keep ts 0 [] (Or.inr ⟨th, ht, ?_⟩)
    show (X % (4 * w), Y % (4 * h)) ∈ [(th.x % (4 * w), th.y % (4 * h)), (th.x % (4 * w), (0 - th.y) % (4 * h)), ((0 - th.x) % (4 * w), th.y % (4 * h)), ((0 - th.x) % (4 * w), (0 - th.y) % (4 * h))]
    rcases fX_inv hw hx with e1 | e1 <;> rcases fX_inv hh hy with e2 | e2 <;> rw [e1, e2] <;> simp
  obtain ⟨t, h1, h2⟩ := List.mem_map.mp h1
  injection h2 with h2 h3
  exact ⟨t, h1, h2, h3⟩
theorem crt_hit {a l u rest fac X Y tx ty : Int} (ha : 0 < a) (hu : 0 < u) (hr : 0 < rest) (ua : u ∣ a) (hl : l = u * rest) (hf : rest ∣ fac * (a / u) - 1) (hc : u ∣ (tx - ty) - (X - Y)) :
    0 ≤ (tx - X) % a + a * ((((ty - Y) % l - (tx - X) % a) / u * fac) % rest) ∧ (tx - X) % a + a * ((((ty - Y) % l - (tx - X) % a) / u * fac) % rest) < a * rest ∧
    a ∣ X + ((tx - X) % a + a * ((((ty - Y) % l - (tx - X) % a) / u * fac) % rest)) - tx ∧ l ∣ Y + ((tx - X) % a + a * ((((ty - Y) % l - (tx - X) % a) / u * fac) % rest)) - ty := by
  have e1 := Int.mul_ediv_add_emod (tx - X) a
  have f0 := Int.emod_nonneg (tx - X) (show a ≠ 0 by omega)
  have f1 := Int.emod_lt_of_pos (tx - X) ha
  have e2 := Int.mul_ediv_add_emod (ty - Y) l
  generalize (tx - X) % a = f at *
  generalize (tx - X) / a = qa at *
  generalize (ty - Y) % l = g at *
  generalize (ty - Y) / l = ql at *
  obtain ⟨a', rfl⟩ := ua
  have ea : u * a' / u = a' := Int.mul_ediv_cancel_left _ (by omega)
  rw [ea] at hf
  have hg : u ∣ g - f := by
    have : g - f = u * (a' * qa - rest * ql) - ((tx - ty) - (X - Y)) := by
      rw [Int.mul_sub, ← Int.mul_assoc, ← Int.mul_assoc, ← hl]; omega
    rw [this]
    exact Int.dvd_sub (Int.dvd_mul_right _ _) hc
  obtain ⟨m, hm⟩ := hg
  have em : (g - f) / u = m := by rw [hm]; exact Int.mul_ediv_cancel_left _ (by omega)
  rw [em]
  have k0 := Int.emod_nonneg (m * fac) (show rest ≠ 0 by omega)
  have k1 := Int.emod_lt_of_pos (m * fac) hr
  have e3 := Int.mul_ediv_add_emod (m * fac) rest
  generalize m * fac % rest = k at *
  generalize m * fac / rest = qk at *
  refine ⟨?_, ?_, ?_, ?_⟩
  · have := Int.mul_nonneg (show 0 ≤ u * a' by omega) k0
    omega
  · have h1 : u * a' * k ≤ u * a' * (rest - 1) := Int.mul_le_mul_of_nonneg_left (by omega) (by omega)
    rw [Int.mul_sub, Int.mul_one] at h1
    omega
  · refine ⟨k - qa, ?_⟩
    rw [Int.mul_sub]; omega
  · obtain ⟨z, hz⟩ := hf
    have h1 : a' * k - m = rest * (m * z - a' * qk) := by
      have : k = m * fac - rest * qk := by omega
      rw [this, Int.mul_sub, Int.mul_sub]
      have : a' * (m * fac) = m * (fac * a') := by rw [← Int.mul_assoc, Int.mul_comm a' m, Int.mul_assoc, Int.mul_comm a' fac]
      rw [this, show fac * a' = rest * z + 1 by omega, Int.mul_add, Int.mul_one]
      have : a' * (rest * qk) = rest * (a' * qk) := by rw [← Int.mul_assoc, Int.mul_comm a' rest, Int.mul_assoc]
      have h2 : m * (rest * z) = rest * (m * z) := by rw [← Int.mul_assoc, Int.mul_comm m rest, Int.mul_assoc]
      omega
    refine ⟨m * z - a' * qk - ql, ?_⟩
    have h3 : u * (a' * k - m) = u * rest * (m * z - a' * qk) := by rw [h1, Int.mul_assoc]
    rw [Int.mul_sub, ← Int.mul_assoc, ← hl] at h3
    rw [Int.mul_sub l]
    omega
theorem crt_uniq {a l u rest fac d : Int} (hu : 0 < u) (ua : u ∣ a) (hl : l = u * rest) (hf : rest ∣ fac * (a / u) - 1) (h1 : a ∣ d) (h2 : l ∣ d) : a * rest ∣ d := by
  obtain ⟨a', rfl⟩ := ua
  have ea : u * a' / u = a' := Int.mul_ediv_cancel_left _ (by omega)
  rw [ea] at hf
  obtain ⟨m, rfl⟩ := h1
  rw [hl, Int.mul_assoc] at h2
  have h3 : rest ∣ a' * m := Int.dvd_of_mul_dvd_mul_left (by omega) h2
  refine Int.mul_dvd_mul_left _ ?_
  have h4 : rest ∣ fac * a' * m := by rw [Int.mul_assoc]; exact Int.dvd_mul_of_dvd_right h3
  have h5 : rest ∣ (fac * a' - 1) * m := Int.dvd_mul_of_dvd_left hf
  have : m = fac * a' * m - (fac * a' - 1) * m := by rw [Int.sub_mul]; omega
  rw [this]
  exact Int.dvd_sub h4 h5
/-- after s steps from a place a target is reached -/
def Hit (n : TNum) (t : Tg) (X Y s : Int) : Prop := n.a ∣ X + s - t.x ∧ n.l ∣ Y + s - t.y
theorem hit_class {n : TNum} (g : TGood n) {t : Tg} {X Y s : Int} (h : Hit n t X Y s) : n.u ∣ (t.x - t.y) - (X - Y) := by
  obtain ⟨h1, h2⟩ := h
  have h3 : n.u ∣ X + s - t.x := Int.dvd_trans g.ua h1
  have h4 : n.u ∣ Y + s - t.y := Int.dvd_trans ⟨n.rest, g.hl⟩ h2
  have : (t.x - t.y) - (X - Y) = (Y + s - t.y) - (X + s - t.x) := by omega
  rw [this]
  exact Int.dvd_sub h4 h3
theorem stepsTo_spec {n : TNum} (g : TGood n) {t : Tg} {X Y : Int} (hc : n.u ∣ (t.x - t.y) - (X - Y)) :
    1 ≤ stepsTo n X Y t ∧ stepsTo n X Y t ≤ n.circ ∧ Hit n t X Y (stepsTo n X Y t) ∧ ∀ s, 1 ≤ s → Hit n t X Y s → stepsTo n X Y t ≤ s := by
  obtain ⟨h1, h2, h3, h4⟩ := crt_hit g.a0 g.u0 g.r0 g.ua g.hl g.hf hc
  have hp : 0 < n.circ := by rw [g.hc]; exact Int.mul_pos g.a0 g.r0
  rw [← g.hc] at h2
  unfold stepsTo
  generalize (t.x - X) % n.a + n.a * ((((t.y - Y) % n.l - (t.x - X) % n.a) / n.u * n.fac) % n.rest) = s0 at *
  have key : ∀ s, Hit n t X Y s → n.circ ∣ s - s0 := by
    intro s hs
    rw [g.hc]
    refine crt_uniq g.u0 g.ua g.hl g.hf ?_ ?_
    · have : s - s0 = (X + s - t.x) - (X + s0 - t.x) := by omega
      rw [this]; exact Int.dvd_sub hs.1 h3
    · have : s - s0 = (Y + s - t.y) - (Y + s0 - t.y) := by omega
      rw [this]; exact Int.dvd_sub hs.2 h4
  have ca : n.a ∣ n.circ := ⟨n.rest, g.hc⟩
  have cl : n.l ∣ n.circ := by
    obtain ⟨a', ha'⟩ := g.ua
    exact ⟨a', by rw [g.hc, g.hl, ha', Int.mul_assoc, Int.mul_comm a', Int.mul_assoc]⟩
  split
  · rename_i h0
    subst h0
    refine ⟨by omega, Int.le_refl _, ⟨?_, ?_⟩, fun s hs hh => ?_⟩
    · have : X + n.circ - t.x = n.circ + (X + 0 - t.x) := by omega
      rw [this]; exact Int.dvd_add ca h3
    · have : Y + n.circ - t.y = n.circ + (Y + 0 - t.y) := by omega
      rw [this]; exact Int.dvd_add cl h4
    · have := key s hh
      exact Int.le_of_dvd (by omega) (by rw [Int.sub_zero] at this; exact this)
  · rename_i h0
    refine ⟨by omega, by omega, ⟨h3, h4⟩, fun s hs hh => ?_⟩
    obtain ⟨z, hz⟩ := key s hh
    rcases Int.lt_or_le z 0 with hz0 | hz0
    · have : n.circ * z ≤ n.circ * (-1) := Int.mul_le_mul_of_nonneg_left (by omega) (by omega)
      omega
    · have := Int.mul_nonneg (show 0 ≤ n.circ by omega) hz0
      omega
theorem mem_class {u r : Int} {tg : List Tg} {t : Tg} : t ∈ inClass u r tg ↔ t ∈ tg ∧ (t.x - t.y) % u = r := by
  unfold inClass
  rw [List.mem_filter, decide_eq_true_iff]
theorem best_fold (n : TNum) (X Y : Int) : ∀ (L : List Tg) (b : Option Tg × Int), (∀ t ∈ L, (L.foldl (evStep n X Y) b).2 ≤ stepsTo n X Y t) ∧ (L.foldl (evStep n X Y) b).2 ≤ b.2 ∧ (L.foldl (evStep n X Y) b = b ∨ ∃ t ∈ L, L.foldl (evStep n X Y) b = (some t, stepsTo n X Y t))
  | [], b => ⟨(fun _ h => nomatch h), Int.le_refl _, Or.inl rfl⟩
  | t :: r, b => by
    obtain ⟨h1, h2, h3⟩ := best_fold n X Y r (evStep n X Y b t)
    have k : (evStep n X Y b t).2 ≤ b.2 ∧ (evStep n X Y b t).2 ≤ stepsTo n X Y t ∧ (evStep n X Y b t = b ∨ evStep n X Y b t = (some t, stepsTo n X Y t)) := by
      unfold evStep
      split
      · rename_i hc
        exact ⟨by show stepsTo n X Y t ≤ b.2; omega, Int.le_refl _, Or.inr rfl⟩
      · rename_i hc
        exact ⟨Int.le_refl _, by omega, Or.inl rfl⟩
    obtain ⟨k1, k2, k3⟩ := k
    refine ⟨fun t' ht => ?_, Int.le_trans h2 k1, ?_⟩
    · rcases List.mem_cons.mp ht with rfl | ht
      · exact Int.le_trans h2 k2
      · exact h1 t' ht
    · rcases h3 with h3 | ⟨t', h3, h4⟩
      · show r.foldl _ _ = b ∨ _
        rcases k3 with k3 | k3
        · exact Or.inl (h3.trans k3)
        · exact Or.inr ⟨t, List.mem_cons_self, h3.trans k3⟩
      · exact Or.inr ⟨t', List.mem_cons_of_mem _ h3, h4⟩
/-- what the next event is -/
theorem evAt_spec {n : TNum} (g : TGood n) (tg : List Tg) (X Y : Int) :
    ((evAt n tg X Y).1 = none ∧ ∀ t ∈ tg, ∀ s, 1 ≤ s → ¬ Hit n t X Y s) ∨
    (∃ t s, evAt n tg X Y = (some t, s) ∧ t ∈ tg ∧ 1 ≤ s ∧ Hit n t X Y s ∧ ∀ t' ∈ tg, ∀ j, 1 ≤ j → Hit n t' X Y j → s ≤ j) := by
  have cls : ∀ t : Tg, ((t.x - t.y) % n.u = (X - Y) % n.u) ↔ n.u ∣ (t.x - t.y) - (X - Y) := fun t =>
    ⟨fun h => Int.dvd_of_emod_eq_zero (Int.emod_eq_emod_iff_emod_sub_eq_zero.mp h), fun h => Int.emod_eq_emod_iff_emod_sub_eq_zero.mpr (Int.emod_eq_zero_of_dvd h)⟩
  obtain ⟨h1, h2, h3⟩ := best_fold n X Y (inClass n.u ((X - Y) % n.u) tg) (none, n.circ + 1)
  change (∀ t ∈ _, (evAt n tg X Y).2 ≤ _) at h1
  change (evAt n tg X Y = _ ∨ _) at h3
  rcases h3 with h3 | ⟨t, ht, h4⟩
  · refine Or.inl ⟨by rw [h3], fun t ht s hs hh => ?_⟩
    have hc := hit_class g hh
    have hm : t ∈ inClass n.u ((X - Y) % n.u) tg := mem_class.mpr ⟨ht, (cls t).mpr hc⟩
    have h5 := h1 t hm
    rw [h3] at h5
    have := (stepsTo_spec g hc).2.1
    have h5 : n.circ + 1 ≤ stepsTo n X Y t := h5
    omega
  · obtain ⟨ht1, ht2⟩ := mem_class.mp ht
    have hc := (cls t).mp ht2
    obtain ⟨k1, k2, k3, k4⟩ := stepsTo_spec g hc
    refine Or.inr ⟨t, _, h4, ht1, k1, k3, fun t' ht' j hj hh => ?_⟩
    have hc' := hit_class g hh
    have hm : t' ∈ inClass n.u ((X - Y) % n.u) tg := mem_class.mpr ⟨ht', (cls t').mpr hc'⟩
    have h5 := h1 t' hm
    rw [show evAt n tg X Y = (some t, stepsTo n X Y t) from h4] at h5
    exact Int.le_trans h5 ((stepsTo_spec g hc').2.2.2 j hj hh)
def iterR (w h : Int) (ts : List Th) : Nat → Ray → Option Ray
  | 0, r => some r
  | k + 1, r => (stp w h ts r).bind (iterR w h ts k)
section
variable {w h : Int} {ts : List Th}
theorem iter_add (i j : Nat) (r : Ray) : iterR w h ts (i + j) r = (iterR w h ts i r).bind (iterR w h ts j) := by
  induction i generalizing r with
  | zero => rw [Nat.zero_add]; rfl
  | succ i ih =>
    rw [show i + 1 + j = (i + j) + 1 by omega]
    show (stp w h ts r).bind _ = ((stp w h ts r).bind _).bind _
    cases stp w h ts r with
    | none => rfl
    | some r' => exact ih r'
theorem iter_one (r : Ray) : iterR w h ts 1 r = stp w h ts r := by
  show (stp w h ts r).bind _ = _
  cases stp w h ts r <;> rfl
theorem iter_succ (k : Nat) (r : Ray) : iterR w h ts (k + 1) r = (iterR w h ts k r).bind (stp w h ts) := by
  rw [iter_add]
  cases iterR w h ts k r with
  | none => rfl
  | some r' => exact iter_one r'
theorem iter_none {i j : Nat} {r : Ray} (h1 : iterR w h ts i r = none) (hij : i ≤ j) : iterR w h ts j r = none := by
  obtain ⟨m, rfl⟩ : ∃ m, j = i + m := ⟨j - i, by omega⟩
  rw [iter_add, h1]; rfl
theorem iter_period {D : Nat} {r : Ray} (hp : iterR w h ts D r = some r) (m j : Nat) : iterR w h ts (D * m + j) r = iterR w h ts j r := by
  induction m with
  | zero => rw [Nat.mul_zero, Nat.zero_add]
  | succ m ih =>
    rw [Nat.mul_add, Nat.mul_one, show D * m + D + j = D + (D * m + j) by omega, iter_add, hp]
    exact ih
end
/-- a floor with its doubled floor -/
structure Wd (w h : Int) (ts : List Th) (n : TNum) (tg : List Tg) : Prop where
  hw : 1 ≤ w
  hh : 1 ≤ h
  ok : ThsOk w h ts
  ea : n.a = 4 * w
  el : n.l = 4 * h
  g : TGood n
  tg : tg = tgFrom (4 * w) (4 * h) 0 ts []
section
variable {w h : Int} {ts : List Th} {n : TNum} {tg : List Tg} (W : Wd w h ts n tg)
include W
theorem hit_eq {t : Tg} (ht : t ∈ tg) {X Y s : Int} : Hit n t X Y s ↔ (X + s) % (4 * w) = t.x ∧ (Y + s) % (4 * h) = t.y := by
  have k := tg_ok W.hw W.hh W.ok (by rw [← W.tg]; exact ht)
  have e1 : t.x % (4 * w) = t.x := Int.emod_eq_of_lt k.x0 k.x1
  have e2 : t.y % (4 * h) = t.y := Int.emod_eq_of_lt k.y0 k.y1
  unfold Hit
  rw [W.ea, W.el]
  constructor
  · rintro ⟨h1, h2⟩
    have h1 := Int.emod_eq_emod_iff_emod_sub_eq_zero.mpr (Int.emod_eq_zero_of_dvd h1)
    have h2 := Int.emod_eq_emod_iff_emod_sub_eq_zero.mpr (Int.emod_eq_zero_of_dvd h2)
    exact ⟨h1.trans e1, h2.trans e2⟩
  · rintro ⟨h1, h2⟩
    exact ⟨Int.dvd_of_emod_eq_zero (Int.emod_eq_emod_iff_emod_sub_eq_zero.mp (h1.trans e1.symm)), Int.dvd_of_emod_eq_zero (Int.emod_eq_emod_iff_emod_sub_eq_zero.mp (h2.trans e2.symm))⟩
theorem hit_th {t : Tg} (ht : t ∈ tg) {X Y s : Int} (hh : Hit n t X Y s) : ∃ th, ts[t.n]? = some th ∧ fX (4 * w) (X + s) = th.x ∧ fX (4 * h) (Y + s) = th.y ∧ kindAt ts (fX (4 * w) (X + s)) (fX (4 * h) (Y + s)) = th.kind ∧ t.left = leftO (4 * w) (4 * h) th.kind (X + s) (Y + s) := by
  obtain ⟨e1, e2⟩ := (hit_eq W ht).mp hh
  obtain ⟨_, _, _, _, th, k1, k2, k3, k4⟩ := tg_ok W.hw W.hh W.ok (by rw [← W.tg]; exact ht)
  rw [← e1, fX_mod] at k2
  rw [← e2, fX_mod] at k3
  refine ⟨th, k1, k2, k3, ?_, ?_⟩
  · rw [k2, k3]; exact kind_of W.ok (List.mem_of_getElem? k1)
  · rw [k4, ← e1, ← e2, leftO_mod]
theorem no_hit {X Y s : Int} (hn : ∀ t ∈ tg, ¬ Hit n t X Y s) : kindAt ts (fX (4 * w) (X + s)) (fX (4 * h) (Y + s)) = "" := by
  rcases kind_cases (ts := ts) (fX (4 * w) (X + s)) (fX (4 * h) (Y + s)) with ⟨e, _⟩ | ⟨th, h1, h2, h3, _⟩
  · exact e
  · obtain ⟨t, h4, h5, h6⟩ := tg_all W.hw W.hh h1 h2.symm h3.symm
    rw [← W.tg] at h4
    exact absurd ((hit_eq W h4).mpr ⟨h5.symm, h6.symm⟩) (hn t h4)
theorem glide_iter {X Y : Int} (ho : (X + Y) % 2 = 1) : ∀ s : Nat, (∀ j : Int, 1 ≤ j → j ≤ s → ∀ t ∈ tg, ¬ Hit n t X Y j) → iterR w h ts s (rayOf (4 * w) (4 * h) X Y) = some (rayOf (4 * w) (4 * h) (X + s) (Y + s))
  | 0, _ => by
    show some _ = _
    rw [show X + ((0 : Nat) : Int) = X by omega, show Y + ((0 : Nat) : Int) = Y by omega]
  | s + 1, hn => by
    rw [iter_succ, glide_iter ho s fun j h1 h2 => hn j h1 (by omega)]
    show stp w h ts _ = _
    rw [stp_place W.hw W.hh W.ok (by omega)]
    have e := no_hit W (hn ((s + 1 : Nat) : Int) (by omega) (by omega))
    have a1 : X + (s : Int) + 1 = X + ((s + 1 : Nat) : Int) := by omega
    have a2 : Y + (s : Int) + 1 = Y + ((s + 1 : Nat) : Int) := by omega
    rw [a1, a2, e, if_neg (by decide), if_neg (by decide), if_neg (by decide)]
theorem em_par (w X : Int) : (X % (4 * w) - X) % 2 = 0 := by
  have e := Int.mul_ediv_add_emod X (4 * w)
  rw [Int.mul_assoc] at e
  omega
/-- a step that comes to a thing -/
theorem ev_iter {X Y : Int} (ho : (X + Y) % 2 = 1) {t : Tg} {s : Int} (he : evAt n tg X Y = (some t, s)) :
    t ∈ tg ∧ 1 ≤ s ∧ (∀ j : Nat, (j : Int) < s → iterR w h ts j (rayOf (4 * w) (4 * h) X Y) = some (rayOf (4 * w) (4 * h) (X + j) (Y + j))) ∧
    iterR w h ts s.toNat (rayOf (4 * w) (4 * h) X Y) = t.left.map (fun p => rayOf (4 * w) (4 * h) p.1 p.2) ∧ (∀ p, t.left = some p → (p.1 + p.2) % 2 = 1) ∧
    ∃ th, ts[t.n]? = some th ∧ fX (4 * w) (X + s) = th.x ∧ fX (4 * h) (Y + s) = th.y ∧ (t.left = none → th.kind = "o") := by
  rcases evAt_spec W.g tg X Y with ⟨e, _⟩ | ⟨t', s', e, ht, h1, hhit, hmin⟩
  · rw [he] at e; cases e
  rw [he] at e
  injection e with e1 e2
  injection e1 with e1
  subst e1; subst e2
  have hfree : ∀ j : Nat, (j : Int) < s → iterR w h ts j (rayOf (4 * w) (4 * h) X Y) = some (rayOf (4 * w) (4 * h) (X + j) (Y + j)) := fun j hj =>
    glide_iter W ho j fun i hi1 hi2 t' ht' hh => by
      have := hmin t' ht' i hi1 hh
      omega
  obtain ⟨th, k1, k2, k3, k4, k5⟩ := hit_th W ht hhit
  have hk := W.ok.all th (List.mem_of_getElem? k1)
  have hlast : iterR w h ts s.toNat (rayOf (4 * w) (4 * h) X Y) = stp w h ts (rayOf (4 * w) (4 * h) (X + (s - 1)) (Y + (s - 1))) := by
    obtain ⟨m, hm⟩ : ∃ m : Nat, s.toNat = m + 1 := ⟨s.toNat - 1, by omega⟩
    rw [hm, iter_succ, hfree m (by omega), show ((m : Nat) : Int) = s - 1 by omega]
    rfl
  have p1 := em_par W w (0 - (X + s))
  have p2 := em_par W h (0 - (Y + s))
  have p3 := em_par W w (X + s)
  have p4 := em_par W h (Y + s)
  refine ⟨ht, h1, hfree, ?_, ?_, th, k1, k2, k3, ?_⟩
  · rw [hlast, stp_place W.hw W.hh W.ok (by omega), show X + (s - 1) + 1 = X + s by omega, show Y + (s - 1) + 1 = Y + s by omega, k4, k5]
    unfold leftO
    rcases hk with ⟨hk | hk, _⟩ | ⟨hk, _⟩
    · rw [hk, if_neg (by decide), if_pos rfl, if_neg (by decide), if_pos rfl]
      show some (rayOf _ _ _ _) = some (rayOf _ _ ((0 - (X + s)) % (4 * w)) ((Y + s) % (4 * h)))
      rw [rayOf_mod]
    · rw [hk, if_neg (by decide), if_neg (by decide), if_pos rfl, if_neg (by decide), if_neg (by decide)]
      show some (rayOf _ _ _ _) = some (rayOf _ _ ((X + s) % (4 * w)) ((0 - (Y + s)) % (4 * h)))
      rw [rayOf_mod]
    · rw [hk, if_pos rfl, if_pos rfl]; rfl
  · intro p hp
    rw [k5] at hp
    unfold leftO at hp
    split at hp
    · cases hp
    · split at hp <;> (injection hp with hp; subst hp; show (_ % _ + _ % _) % 2 = 1; omega)
  · intro hl
    rw [k5] at hl
    rcases hk with ⟨hk | hk, _⟩ | ⟨hk, _⟩
    · rw [hk] at hl; unfold leftO at hl; rw [if_neg (by decide), if_pos rfl] at hl; cases hl
    · rw [hk] at hl; unfold leftO at hl; rw [if_neg (by decide), if_neg (by decide)] at hl; cases hl
    · exact hk
theorem ev_none {X Y : Int} (ho : (X + Y) % 2 = 1) (he : (evAt n tg X Y).1 = none) (s : Nat) : iterR w h ts s (rayOf (4 * w) (4 * h) X Y) = some (rayOf (4 * w) (4 * h) (X + s) (Y + s)) := by
  rcases evAt_spec W.g tg X Y with ⟨_, e⟩ | ⟨t', s', e, _⟩
  · exact glide_iter W ho s fun j h1 h2 t ht => e t ht j h1
  · rw [e] at he; cases he
end
/-- the loop of a course, under way: what is still to come is what is to come from the start -/
structure FolP (w h : Int) (ts : List Th) (k0 : Nat) (R0 : Ray) (c : Cs) (st : Option (Int × Int)) (bf : Int × Int × Int) : Prop where
  s0 : 0 ≤ c.steps
  par : (c.x + c.y) % 2 = 1
  run : ∀ i : Nat, i ≤ 1 → (i : Int) ≤ c.steps → i ≤ k0 ∧ iterR w h ts (c.steps.toNat - i) (rayOf (4 * w) (4 * h) c.x c.y) = iterR w h ts (k0 - i) R0
  lap : ∀ q, st = some q → bf.1 ≤ c.taken ∧ iterR w h ts (c.taken - bf.1).toNat (rayOf (4 * w) (4 * h) q.1 q.2) = some (rayOf (4 * w) (4 * h) c.x c.y)
  door : c.door = none
/-- where a course ends -/
def FolEnd (w h : Int) (ts : List Th) (k0 : Nat) (R0 : Ray) (c' : Cs) : Prop :=
  (c'.door = none ∧ (c'.x + c'.y) % 2 = 1 ∧ iterR w h ts k0 R0 = some (rayOf (4 * w) (4 * h) c'.x c'.y)) ∨
  (∃ d th, c'.door = some d ∧ ts[d]? = some th ∧ th.kind = "o" ∧ 0 ≤ c'.steps ∧ iterR w h ts k0 R0 = none ∧ 1 ≤ k0 ∧ (0 < c'.steps → iterR w h ts (k0 - 1) R0 = none) ∧
    (c'.steps = 0 → ∃ r, iterR w h ts (k0 - 1) R0 = some r ∧ rOk w h r ∧ stp w h ts r = none ∧ th.x = r.1 + r.2.2.1 ∧ th.y = r.2.1 + r.2.2.2))
section
variable {w h : Int} {ts : List Th} {n : TNum} {tg : List Tg} (W : Wd w h ts n tg)
include W
theorem FolP.hit {k0 : Nat} {R0 : Ray} {c : Cs} {st : Option (Int × Int)} {bf : Int × Int × Int} (I : FolP w h ts k0 R0 c st bf) {e : Tg} {s : Int} {p : Int × Int} (he : evAt n tg c.x c.y = (some e, s)) (hs : s ≤ c.steps) (hl : e.left = some p) :
    FolP w h ts k0 R0 (c.atMirror n s p) st bf ∧ 1 ≤ s := by
  obtain ⟨ht, h1, hfree, hit, hpar, _⟩ := ev_iter W I.par he
  rw [hl] at hit
  have hit : iterR w h ts s.toNat (rayOf (4 * w) (4 * h) c.x c.y) = some (rayOf (4 * w) (4 * h) p.1 p.2) := hit
  refine ⟨⟨by show 0 ≤ c.steps - s; omega, hpar p hl, ?_, ?_, I.door⟩, h1⟩
  · intro i hi hi2
    have hi2 : (i : Int) ≤ c.steps - s := hi2
    obtain ⟨k1, k2⟩ := I.run i hi (by omega)
    refine ⟨k1, ?_⟩
    rw [← k2]
    show iterR w h ts ((c.steps - s).toNat - i) (rayOf (4 * w) (4 * h) p.1 p.2) = _
    rw [show c.steps.toNat - i = s.toNat + ((c.steps - s).toNat - i) by omega, iter_add, hit]
    rfl
  · intro q hq
    obtain ⟨k1, k2⟩ := I.lap q hq
    refine ⟨by show bf.1 ≤ c.taken + s; omega, ?_⟩
    show iterR w h ts (c.taken + s - bf.1).toNat _ = some (rayOf (4 * w) (4 * h) p.1 p.2)
    rw [show (c.taken + s - bf.1).toNat = (c.taken - bf.1).toNat + s.toNat by omega, iter_add, k2]
    exact hit
theorem fol_end {k0 : Nat} {R0 : Ray} {c c' : Cs} {st : Option (Int × Int)} {bf : Int × Int × Int} (f : Fol n tg c st bf c') : FolP w h ts k0 R0 c st bf → FolEnd w h ts k0 R0 c' := by
  induction f with
  | @stop c st bf h =>
    intro I
    refine Or.inl ⟨I.door, ?_, ?_⟩
    · show (c.x + c.steps + (c.y + c.steps)) % 2 = 1
      have := I.par
      omega
    · have h0 := I.s0
      have hr := (I.run 0 (by omega) I.s0).2
      rw [Nat.sub_zero, Nat.sub_zero] at hr
      rw [← hr]
      show _ = some (rayOf _ _ (c.x + c.steps) (c.y + c.steps))
      rw [show c.x + c.steps = c.x + (c.steps.toNat : Int) by omega, show c.y + c.steps = c.y + (c.steps.toNat : Int) by omega]
      rcases h with h | h
      · exact ev_none W I.par h _
      · cases he : evAt n tg c.x c.y with
        | mk e s =>
          rw [he] at h
          cases e with
          | none => exact ev_none W I.par (by rw [he]) _
          | some e => exact (ev_iter W I.par he).2.2.1 _ (by have h : c.steps < s := h; omega)
  | @door c st bf e s he hs hl =>
    intro I
    obtain ⟨ht, h1, hfree, hit, hpar, th, q1, q2, q3, q4⟩ := ev_iter W I.par he
    rw [hl] at hit
    have hit : iterR w h ts s.toNat (rayOf (4 * w) (4 * h) c.x c.y) = none := hit
    have r0 := (I.run 0 (by omega) I.s0).2
    rw [Nat.sub_zero, Nat.sub_zero] at r0
    obtain ⟨hk1, r1⟩ := I.run 1 (by omega) (by omega)
    refine Or.inr ⟨e.n, th, rfl, q1, q4 hl, by show 0 ≤ c.steps - s; omega, ?_, hk1, ?_, ?_⟩
    · rw [← r0]; exact iter_none hit (by omega)
    · intro hp
      have hp : 0 < c.steps - s := hp
      rw [← r1]; exact iter_none hit (by omega)
    · intro hp
      have hp : c.steps - s = 0 := hp
      have hfr := hfree (s.toNat - 1) (by omega)
      have e1 : ((s.toNat - 1 : Nat) : Int) = s - 1 := by omega
      rw [e1] at hfr
      refine ⟨rayOf (4 * w) (4 * h) (c.x + (s - 1)) (c.y + (s - 1)), ?_, rayOf_ok W.hw W.hh (by have := I.par; omega), ?_, ?_, ?_⟩
      · rw [← r1, ← hfr, show c.steps.toNat - 1 = s.toNat - 1 by omega]
      · have := hit
        rw [show s.toNat = (s.toNat - 1) + 1 by omega, iter_succ, hfr] at this
        exact this
      · rw [← q2]
        show _ = fX (4 * w) _ + fD (4 * w) _
        rw [← fX_succ W.hw, show c.x + (s - 1) + 1 = c.x + s by omega]
      · rw [← q3]
        show _ = fX (4 * h) _ + fD (4 * h) _
        rw [← fX_succ W.hh, show c.y + (s - 1) + 1 = c.y + s by omega]
  | @first c c' bf e s p he hs hl r ih =>
    intro I
    obtain ⟨I2, h1⟩ := I.hit W he hs hl
    refine ih ⟨I2.s0, I2.par, I2.run, ?_, I2.door⟩
    intro q hq
    injection hq with hq
    subst hq
    refine ⟨Int.le_refl _, ?_⟩
    show iterR w h ts ((c.taken + s) - (c.taken + s)).toNat _ = some (rayOf (4 * w) (4 * h) p.1 p.2)
    rw [Int.sub_self]
    rfl
  | @again c c' bf e s p he hs hl r ih =>
    intro I
    obtain ⟨I2, h1⟩ := I.hit W he hs hl
    have l0 := (I.lap p rfl).1
    obtain ⟨l1, l2⟩ := I2.lap p rfl
    have s0 := I2.s0
    have l2 : iterR w h ts (c.taken + s - bf.1).toNat (rayOf (4 * w) (4 * h) p.1 p.2) = some (rayOf (4 * w) (4 * h) p.1 p.2) := l2
    have s0 : 0 ≤ c.steps - s := s0
    have hD : 0 < c.taken + s - bf.1 := by omega
    have m0 := Int.emod_nonneg (c.steps - s) (show c.taken + s - bf.1 ≠ 0 by omega)
    have d0 := Int.ediv_nonneg s0 (show 0 ≤ c.taken + s - bf.1 by omega)
    have em := Int.mul_ediv_add_emod (c.steps - s) (c.taken + s - bf.1)
    have mul0 := Int.mul_nonneg (show 0 ≤ c.taken + s - bf.1 by omega) d0
    have key : ∀ j : Nat, iterR w h ts ((c.taken + s - bf.1).toNat * ((c.steps - s) / (c.taken + s - bf.1)).toNat + j) (rayOf (4 * w) (4 * h) p.1 p.2) = iterR w h ts j (rayOf (4 * w) (4 * h) p.1 p.2) := fun j => iter_period l2 _ j
    have enat : (((c.taken + s - bf.1).toNat * ((c.steps - s) / (c.taken + s - bf.1)).toNat : Nat) : Int) = (c.taken + s - bf.1) * ((c.steps - s) / (c.taken + s - bf.1)) := by
      rw [Int.natCast_mul, Int.toNat_of_nonneg (by omega), Int.toNat_of_nonneg d0]
    refine ih ⟨m0, I2.par, ?_, ?_, I2.door⟩
    · intro i hi hi2
      have hi2 : (i : Int) ≤ (c.steps - s) % (c.taken + s - bf.1) := hi2
      obtain ⟨k1, k2⟩ := I2.run i hi (by show (i : Int) ≤ c.steps - s; omega)
      refine ⟨k1, ?_⟩
      rw [← k2]
      show iterR w h ts (((c.steps - s) % (c.taken + s - bf.1)).toNat - i) (rayOf (4 * w) (4 * h) p.1 p.2) = iterR w h ts ((c.steps - s).toNat - i) (rayOf (4 * w) (4 * h) p.1 p.2)
      rw [← key]
      congr 1
      omega
    · intro q hq
      injection hq with hq
      subst hq
      have e2 : c.taken + s + (c.steps - s) / (c.taken + s - bf.1) * (c.taken + s - bf.1) - bf.1 = (c.taken + s - bf.1) * ((c.steps - s) / (c.taken + s - bf.1)) + (c.taken + s - bf.1) := by
        rw [Int.mul_comm ((c.steps - s) / (c.taken + s - bf.1))]; omega
      refine ⟨?_, ?_⟩
      · show bf.1 ≤ c.taken + s + (c.steps - s) / (c.taken + s - bf.1) * (c.taken + s - bf.1)
        omega
      · show iterR w h ts (c.taken + s + (c.steps - s) / (c.taken + s - bf.1) * (c.taken + s - bf.1) - bf.1).toNat _ = some (rayOf (4 * w) (4 * h) p.1 p.2)
        rw [← l2]
        conv => rhs; rw [← key]
        congr 1
        omega
  | @other c c' bf e s p q he hs hl hne r ih =>
    intro I
    exact ih (I.hit W he hs hl).1
/-- a course from a ray -/
theorem fol_ray {r : Ray} (hr : rOk w h r) {k : Int} (hk : 0 ≤ k) {c c' : Cs} (cx : c.x = r.1 * r.2.2.1 % n.a) (cy : c.y = r.2.1 * r.2.2.2 % n.l) (cs : c.steps = k) (cd : c.door = none) (f : Fol n tg c none (0, 0, 0) c') : FolEnd w h ts k.toNat r c' := by
  have e : rayOf (4 * w) (4 * h) c.x c.y = r := by
    rw [cx, cy, W.ea, W.el, rayOf_mod]; exact rayOf_of W.hw W.hh hr
  refine fol_end W f ⟨by omega, ?_, ?_, (fun _ h => nomatch h), cd⟩
  · have p1 := em_par W w (r.1 * r.2.2.1)
    have p2 := em_par W h (r.2.1 * r.2.2.2)
    rw [cx, cy, W.ea, W.el]
    obtain ⟨a1, a2, a3, a4, a5, hdx, hdy, _⟩ := hr
    have q1 : (r.1 * r.2.2.1 - r.1) % 2 = 0 := by rcases hdx with h1 | h1 <;> rw [h1] <;> omega
    have q2 : (r.2.1 * r.2.2.2 - r.2.1) % 2 = 0 := by rcases hdy with h1 | h1 <;> rw [h1] <;> omega
    omega
  · intro i hi hi2
    rw [e, cs]
    exact ⟨by omega, rfl⟩
end
/-- back over the last half step -/
def bk (r : Ray) : Ray := (r.1 + r.2.2.1, r.2.1 + r.2.2.2, 0 - r.2.2.1, 0 - r.2.2.2)
theorem bk_bk (r : Ray) : bk (bk r) = r := by
  obtain ⟨x, y, dx, dy⟩ := r
  show (x + dx + (0 - dx), y + dy + (0 - dy), 0 - (0 - dx), 0 - (0 - dy)) = (x, y, dx, dy)
  rw [show x + dx + (0 - dx) = x by omega, show y + dy + (0 - dy) = y by omega, show 0 - (0 - dx) = dx by omega, show 0 - (0 - dy) = dy by omega]
section
variable {w h : Int} {ts : List Th}
theorem bk_ok {r : Ray} (k : rOk w h r) : rOk w h (bk r) := by
  obtain ⟨x, y, dx, dy⟩ := r
  obtain ⟨a1, a2, a3, a4, a5, hdx, hdy, a6, a7, a8, a9⟩ := k
  simp only at *
  refine ⟨a6, a7, a8, a9, ?_, ?_, ?_, ?_, ?_, ?_, ?_⟩ <;> simp only [bk] <;> omega
theorem tX_sq {k : Str} {x y : Int} : tX w h k x y = 1 ∨ tX w h k x y = -1 := by
  unfold tX
  repeat' split
  all_goals omega
theorem tY_sq {k : Str} {x y : Int} : tY w h k x y = 1 ∨ tY w h k x y = -1 := by
  unfold tY
  repeat' split
  all_goals omega
theorem rvs_some {r b : Ray} (e : rvs w h ts r = some b) : kindAt ts r.1 r.2.1 ≠ "o" ∧ b = (r.1, r.2.1, 0 - r.2.2.1 * tX w h (kindAt ts r.1 r.2.1) r.1 r.2.1, 0 - r.2.2.2 * tY w h (kindAt ts r.1 r.2.1) r.1 r.2.1) := by
  unfold rvs revR at e
  split at e
  · cases e
  · rename_i hc
    injection e with e
    exact ⟨hc, e.symm⟩
theorem turn_ok (hw : 1 ≤ w) (hh : 1 ≤ h) {x y dx dy : Int} {k : Str} (x0 : 0 ≤ x) (x1 : x ≤ 2 * w) (y0 : 0 ≤ y) (y1 : y ≤ 2 * h) (odd : (x + y) % 2 = 1) (hdx : dx = 1 ∨ dx = -1) (hdy : dy = 1 ∨ dy = -1)
    (b0 : 0 ≤ x - dx) (b1 : x - dx ≤ 2 * w) (b2 : 0 ≤ y - dy) (b3 : y - dy ≤ 2 * h) : RayOk w h x y (dx * tX w h k x y) (dy * tY w h k x y) := by
  unfold tX tY
  refine ⟨x0, x1, y0, y1, odd, ?_, ?_, ?_, ?_, ?_, ?_⟩
  all_goals
    rcases hdx with rfl | rfl <;> rcases hdy with rfl | rfl <;> repeat' split
  all_goals omega
theorem rvs_rvs (hw : 1 ≤ w) (hh : 1 ≤ h) {r b : Ray} (k : rOk w h r) (e : rvs w h ts r = some b) : rOk w h b ∧ rvs w h ts b = some r := by
  obtain ⟨h1, rfl⟩ := rvs_some e
  obtain ⟨x, y, dx, dy⟩ := r
  obtain ⟨a1, a2, a3, a4, a5, hdx, hdy, a6, a7, a8, a9⟩ := k
  simp only at *
  constructor
  · have := turn_ok (k := kindAt ts x y) hw hh (dx := -dx) (dy := -dy) a1 a2 a3 a4 a5 (by omega) (by omega) (by omega) (by omega) (by omega) (by omega)
    rw [Int.neg_mul, Int.neg_mul] at this
    show RayOk w h x y (0 - dx * _) (0 - dy * _)
    rw [Int.zero_sub, Int.zero_sub]
    exact this
  · show revR w h ts x y _ _ = _
    unfold revR
    rw [if_neg h1]
    have e1 : 0 - (0 - dx * tX w h (kindAt ts x y) x y) * tX w h (kindAt ts x y) x y = dx := by
      rcases tX_sq (w := w) (h := h) (k := kindAt ts x y) (x := x) (y := y) with e | e <;> rw [e] <;> omega
    have e2 : 0 - (0 - dy * tY w h (kindAt ts x y) x y) * tY w h (kindAt ts x y) x y = dy := by
      rcases tY_sq (w := w) (h := h) (k := kindAt ts x y) (x := x) (y := y) with e | e <;> rw [e] <;> omega
    rw [e1, e2]
theorem stp_some (hw : 1 ≤ w) (hh : 1 ≤ h) {r r' : Ray} (k : rOk w h r) (e : stp w h ts r = some r') : rOk w h r' ∧ rvs w h ts r' = some (bk r) := by
  obtain ⟨x, y, dx, dy⟩ := r
  unfold stp stepR at e
  split at e
  · cases e
  rename_i hc
  injection e with e
  subst e
  obtain ⟨a1, a2, a3, a4, a5, hdx, hdy, a6, a7, a8, a9⟩ := k
  simp only at *
  constructor
  · have := turn_ok (k := kindAt ts (x + dx) (y + dy)) hw hh (x := x + dx) (y := y + dy) a6 a7 a8 a9 (by omega) hdx hdy (by omega) (by omega) (by omega) (by omega)
    exact this
  · show revR w h ts _ _ _ _ = _
    unfold revR
    rw [if_neg hc]
    have e1 : 0 - dx * tX w h (kindAt ts (x + dx) (y + dy)) (x + dx) (y + dy) * tX w h (kindAt ts (x + dx) (y + dy)) (x + dx) (y + dy) = 0 - dx := by
      rcases tX_sq (w := w) (h := h) (k := kindAt ts (x + dx) (y + dy)) (x := x + dx) (y := y + dy) with e | e <;> rw [e] <;> omega
    have e2 : 0 - dy * tY w h (kindAt ts (x + dx) (y + dy)) (x + dx) (y + dy) * tY w h (kindAt ts (x + dx) (y + dy)) (x + dx) (y + dy) = 0 - dy := by
      rcases tY_sq (w := w) (h := h) (k := kindAt ts (x + dx) (y + dy)) (x := x + dx) (y := y + dy) with e | e <;> rw [e] <;> omega
    rw [e1, e2]
    rfl
theorem stp_bk (r : Ray) : stp w h ts (bk r) = rvs w h ts r := by
  obtain ⟨x, y, dx, dy⟩ := r
  show stepR w h ts (x + dx) (y + dy) (0 - dx) (0 - dy) = revR w h ts x y dx dy
  unfold stepR revR
  rw [show x + dx + (0 - dx) = x by omega, show y + dy + (0 - dy) = y by omega]
  split
  · rfl
  · rw [Int.zero_sub, Int.zero_sub, Int.neg_mul, Int.neg_mul, ← Int.zero_sub, ← Int.zero_sub]
theorem iter_ok (hw : 1 ≤ w) (hh : 1 ≤ h) : ∀ (k : Nat) {r r' : Ray}, rOk w h r → iterR w h ts k r = some r' → rOk w h r'
  | 0, r, r', k, e => by
    injection e with e
    rw [← e]; exact k
  | i + 1, r, r', k, e => by
    unfold iterR at e
    cases e1 : stp w h ts r with
    | none => rw [e1] at e; cases e
    | some r1 =>
      rw [e1] at e
      exact iter_ok hw hh i (stp_some hw hh k e1).1 e
/-- the way back -/
theorem iter_back (hw : 1 ≤ w) (hh : 1 ≤ h) : ∀ (k : Nat) {r r' : Ray}, rOk w h r → iterR w h ts k r = some r' → (k = 0 ∧ r' = r) ∨ (1 ≤ k ∧ ∃ b', rvs w h ts r' = some b' ∧ iterR w h ts k b' = rvs w h ts r ∧ iterR w h ts (k - 1) b' = some (bk r))
  | 0, r, r', k, e => by
    injection e with e
    exact Or.inl ⟨rfl, e.symm⟩
  | i + 1, r, r', k, e => by
    unfold iterR at e
    cases e1 : stp w h ts r with
    | none => rw [e1] at e; cases e
    | some r1 =>
      rw [e1] at e
      obtain ⟨k1, hb⟩ := stp_some hw hh k e1
      refine Or.inr ⟨by omega, ?_⟩
      rcases iter_back hw hh i k1 e with ⟨rfl, rfl⟩ | ⟨hi, b', h1, h2, h3⟩
      · exact ⟨bk r, hb, (iter_one _).trans (stp_bk r), rfl⟩
      · rw [hb] at h2
        refine ⟨b', h1, ?_, h2⟩
        rw [iter_succ, h2]
        exact stp_bk r
/-- came_from -/
def cameF (w h : Int) (ts : List Th) (b : Ray) (k : Nat) : Option Ray :=
  match iterR w h ts k b with
  | some r' => rvs w h ts r'
  | none => (iterR w h ts (k - 1) b).map bk
/-- run -/
def runF (w h : Int) (ts : List Th) (r : Ray) (k : Int) : Option Ray :=
  if 0 ≤ k then iterR w h ts k.toNat r else match rvs w h ts r with
    | none => none
    | some b => cameF w h ts b (0 - k).toNat
theorem run_pos {r : Ray} {k : Int} (hk : 0 ≤ k) : runF w h ts r k = iterR w h ts k.toNat r := by unfold runF; rw [if_pos hk]
theorem law_m1 {r : Ray} (e : rvs w h ts r = none) : runF w h ts r (-1) = none := by unfold runF; rw [if_neg (by decide), e]
theorem law_m2 {r b bb : Ray} (e : rvs w h ts r = some b) (e2 : stp w h ts b = some bb) : runF w h ts r (-1) = rvs w h ts bb := by
  unfold runF
  rw [if_neg (by decide), e]
  show cameF w h ts b 1 = _
  unfold cameF
  rw [iter_one, e2]
theorem law_m3 {r b : Ray} (e : rvs w h ts r = some b) (e2 : stp w h ts b = none) : runF w h ts r (-1) = some (bk b) := by
  unfold runF
  rw [if_neg (by decide), e]
  show cameF w h ts b 1 = _
  unfold cameF
  rw [iter_one, e2]
  rfl
theorem law_home (hw : 1 ≤ w) (hh : 1 ≤ h) {r r' : Ray} {k : Int} (hk : 0 ≤ k) (ok : rOk w h r) (e : runF w h ts r k = some r') : runF w h ts r' (0 - k) = some r := by
  rw [run_pos hk] at e
  rcases iter_back hw hh _ ok e with ⟨h1, rfl⟩ | ⟨h1, b', h2, h3, h4⟩
  · have : k = 0 := by omega
    subst this
    rfl
  · unfold runF
    rw [if_neg (by omega), h2]
    show cameF w h ts b' (0 - (0 - k)).toNat = _
    rw [show 0 - (0 - k) = k by omega]
    unfold cameF
    rw [h3, h4]
    cases e5 : rvs w h ts r with
    | none => exact congrArg some (bk_bk r)
    | some b => exact (rvs_rvs hw hh ok e5).2
theorem law_back (hw : 1 ≤ w) (hh : 1 ≤ h) {r r' b home : Ray} {k : Int} (hk : 0 ≤ k) (ok : rOk w h r) (e : runF w h ts r k = some r') (eb : rvs w h ts r = some b) (eh : rvs w h ts r' = some home) : runF w h ts home k = some b := by
  rw [run_pos hk] at e ⊢
  rcases iter_back hw hh _ ok e with ⟨h1, rfl⟩ | ⟨h1, b', h2, h3, h4⟩
  · rw [eb] at eh
    injection eh with eh
    subst eh
    rw [h1]; rfl
  · rw [eh] at h2
    injection h2 with h2
    rw [h2, h3, eb]
theorem law_next {r r' : Ray} {k : Int} (hk : 0 ≤ k) (e : runF w h ts r k = some r') : runF w h ts r (k + 1) = stp w h ts r' := by
  rw [run_pos hk] at e
  rw [run_pos (by omega), show (k + 1).toNat = k.toNat + 1 by omega, iter_succ, e]
  rfl
theorem run_ok (hw : 1 ≤ w) (hh : 1 ≤ h) {r r' : Ray} {k : Int} (hk : 0 ≤ k) (ok : rOk w h r) (e : runF w h ts r k = some r') : rOk w h r' := by
  rw [run_pos hk] at e
  exact iter_ok hw hh _ ok e
/-- what exit_of answers -/
def ExitF (w h : Int) (ts : List Th) (r : Ray) : Option Int → Prop
  | none => ∀ k : Nat, iterR w h ts k r ≠ none
  | some t => 1 ≤ t ∧ iterR w h ts t.toNat r = none ∧ iterR w h ts (t - 1).toNat r ≠ none
theorem exit_run {r : Ray} {o : Option Int} (x : ExitF w h ts r o) {k : Int} (hk : 0 ≤ k) : runF w h ts r k = none ↔ ∃ t, o = some t ∧ t ≤ k := by
  rw [run_pos hk]
  cases o with
  | none => exact ⟨fun e => absurd e (x _), fun ⟨t, h, _⟩ => nomatch h⟩
  | some t =>
    obtain ⟨h1, h2, h3⟩ := x
    constructor
    · intro e
      refine ⟨t, rfl, ?_⟩
      rcases Int.lt_or_le k t with hl | hl
      · exact absurd (iter_none e (by omega)) h3
      · exact hl
    · rintro ⟨t', h, hl⟩
      injection h with h
      subst h
      exact iter_none h2 (by omega)
theorem lap_exit {r r' : Ray} {T D : Nat} (hD : 0 < D) (h1 : iterR w h ts T r = some r') (h2 : iterR w h ts D r' = some r') : ExitF w h ts r none := by
  intro k e
  have h3 : iterR w h ts (T + D * k) r = some r' := by
    rw [iter_add, h1]
    show iterR w h ts (D * k) r' = _
    have := iter_period h2 k 0
    rw [Nat.add_zero] at this
    rw [this]; rfl
  have h4 : k ≤ D * k := Nat.le_mul_of_pos_left k hD
  rw [iter_none e (show k ≤ T + D * k by omega)] at h3
  cases h3
end
end K

namespace K
open PySem L2 DL
def Best (P : Int → Prop) : Option Int → Prop
  | none => ∀ t, 0 ≤ t → ¬ P t
  | some c => 0 ≤ c ∧ P c ∧ ∀ t, 0 ≤ t → P t → c ≤ t
theorem Best.uniq {P Q : Int → Prop} (h : ∀ t, 0 ≤ t → (P t ↔ Q t)) {o o' : Option Int} (b : Best P o) (b' : Best Q o') : o = o' := by
  cases o with
  | none =>
    cases o' with
    | none => rfl
    | some c => exact absurd ((h c b'.1).mpr b'.2.1) (b c b'.1)
  | some c =>
    cases o' with
    | none => exact absurd ((h c b.1).mp b.2.1) (b' c b.1)
    | some c' =>
      have h1 := b.2.2 c' b'.1 ((h c' b'.1).mpr b'.2.1)
      have h2 := b'.2.2 c b.1 ((h c b.1).mp b.2.1)
      have : c = c' := by omega
      rw [this]
theorem Best.congr {P Q : Int → Prop} (h : ∀ t, 0 ≤ t → (P t ↔ Q t)) {o : Option Int} (b : Best P o) : Best Q o := by
  cases o with
  | none => exact fun t ht hq => b t ht ((h t ht).mpr hq)
  | some c => exact ⟨b.1, (h c b.1).mp b.2.1, fun t ht hq => b.2.2 t ht ((h t ht).mpr hq)⟩
theorem best_none {P : Int → Prop} {L : List Int} (h1 : ∀ t, 0 ≤ t → P t → ∃ c ∈ L, c ≤ t) (e : L = []) : Best P none := by
  intro t ht hp
  obtain ⟨c, hc, _⟩ := h1 t ht hp
  rw [e] at hc; cases hc
theorem best_some {P : Int → Prop} {L : List Int} (h1 : ∀ t, 0 ≤ t → P t → ∃ c ∈ L, c ≤ t) (h2 : ∀ c ∈ L, 0 ≤ c ∧ P c) {m : Int} (hm : m ∈ L) (hl : ∀ y ∈ L, m ≤ y) : Best P (some m) :=
  ⟨(h2 m hm).1, (h2 m hm).2, fun t ht hp => by
    obtain ⟨c, hc, hct⟩ := h1 t ht hp
    exact Int.le_trans (hl c hc) hct⟩
/-- two remainders at once -/
theorem crt_none {p q u f s : Int} (h : IsGcd u p q) (hn : ¬ u ∣ s - f) : Best (fun t => p ∣ t - f ∧ q ∣ t - s) none := by
  rintro t _ ⟨h1, h2⟩
  obtain ⟨up, uq⟩ := (h.2 u).mp (Int.dvd_refl u)
  refine hn ?_
  have : s - f = (t - f) - (t - s) := by omega
  rw [this]
  exact Int.dvd_sub (Int.dvd_trans up h1) (Int.dvd_trans uq h2)
theorem crt_some {p q u f s fac : Int} (hp : 0 < p) (hq : 0 < q) (hu : 0 < u) (h : IsGcd u p q) (hf : q / u ∣ fac * (p / u) - 1) (f0 : 0 ≤ f) (f1 : f < p) (s0 : 0 ≤ s) (s1 : s < q) (hd : u ∣ s - f) :
    Best (fun t => p ∣ t - f ∧ q ∣ t - s) (some (f + p * ((s - f) / u * fac % (q / u)))) ∧ f + p * ((s - f) / u * fac % (q / u)) < p * (q / u) := by
  obtain ⟨up, uq⟩ := (h.2 u).mp (Int.dvd_refl u)
  have hl : q = u * (q / u) := (Int.mul_ediv_cancel' uq).symm
  have hr : 0 < q / u := by
    rcases Int.lt_or_le 0 (q / u) with h0 | h0
    · exact h0
    · have := Int.mul_le_mul_of_nonneg_left h0 (show 0 ≤ u by omega)
      omega
  have ef : (f - 0) % p = f := by rw [Int.sub_zero]; exact Int.emod_eq_of_lt f0 f1
  have es : (s - 0) % q = s := by rw [Int.sub_zero]; exact Int.emod_eq_of_lt s0 s1
  have hd2 : u ∣ (f - s) - (0 - 0) := by
    obtain ⟨z, hz⟩ := hd
    exact ⟨-z, by rw [Int.mul_neg]; omega⟩
  obtain ⟨h1, h2, h3, h4⟩ := crt_hit (X := 0) (Y := 0) (tx := f) (ty := s) hp hu hr up hl hf hd2
  rw [ef, es] at h1 h2 h3 h4
  rw [Int.zero_add] at h3 h4
  refine ⟨⟨h1, ⟨h3, h4⟩, ?_⟩, h2⟩
  rintro t ht ⟨h5, h6⟩
  have key : p * (q / u) ∣ t - (f + p * ((s - f) / u * fac % (q / u))) := by
    refine crt_uniq hu up hl hf ?_ ?_
    · have : t - (f + p * ((s - f) / u * fac % (q / u))) = (t - f) - (f + p * ((s - f) / u * fac % (q / u)) - f) := by omega
      rw [this]; exact Int.dvd_sub h5 h3
    · have : t - (f + p * ((s - f) / u * fac % (q / u))) = (t - s) - (f + p * ((s - f) / u * fac % (q / u)) - s) := by omega
      rw [this]; exact Int.dvd_sub h6 h4
  obtain ⟨z, hz⟩ := key
  have hpos : 0 < p * (q / u) := Int.mul_pos hp hr
  rcases Int.lt_or_le z 0 with hz0 | hz0
  · have : p * (q / u) * z ≤ p * (q / u) * (-1) := Int.mul_le_mul_of_nonneg_left (by omega) (by omega)
    omega
  · have := Int.mul_nonneg (show 0 ≤ p * (q / u) by omega) hz0
    omega
/-! equal coordinates on the doubled floor -/
theorem fX_eq {w P Q : Int} (hw : 1 ≤ w) : fX (4 * w) P = fX (4 * w) Q ↔ 4 * w ∣ P - Q ∨ 4 * w ∣ P + Q := by
  have p0 := Int.emod_nonneg P (show 4 * w ≠ 0 by omega)
  have p1 := Int.emod_lt_of_pos P (show 0 < 4 * w by omega)
  have q0 := Int.emod_nonneg Q (show 4 * w ≠ 0 by omega)
  have q1 := Int.emod_lt_of_pos Q (show 0 < 4 * w by omega)
  have pe := Int.mul_ediv_add_emod P (4 * w)
  have qe := Int.mul_ediv_add_emod Q (4 * w)
  have hs : 4 * w ∣ P - Q ↔ P % (4 * w) = Q % (4 * w) :=
    ⟨fun h => Int.emod_eq_emod_iff_emod_sub_eq_zero.mpr (Int.emod_eq_zero_of_dvd h), fun h => Int.dvd_of_emod_eq_zero (Int.emod_eq_emod_iff_emod_sub_eq_zero.mp h)⟩
  have ha : 4 * w ∣ P + Q ↔ (P % (4 * w) + Q % (4 * w) = 0 ∨ P % (4 * w) + Q % (4 * w) = 4 * w) := by
    have e : P + Q = 4 * w * (P / (4 * w) + Q / (4 * w)) + (P % (4 * w) + Q % (4 * w)) := by rw [Int.mul_add]; omega
    constructor
    · intro h
      rw [e] at h
      have h2 : 4 * w ∣ P % (4 * w) + Q % (4 * w) := (Int.dvd_add_right (Int.dvd_mul_right _ _)).mp h
      obtain ⟨z, hz⟩ := h2
      rcases Int.lt_or_le z 0 with z0 | z0
      · have : 4 * w * z ≤ 4 * w * (-1) := Int.mul_le_mul_of_nonneg_left (by omega) (by omega)
        omega
      rcases Int.lt_or_le 1 z with z1 | z1
      · have : 4 * w * 2 ≤ 4 * w * z := Int.mul_le_mul_of_nonneg_left (by omega) (by omega)
        omega
      have : z = 0 ∨ z = 1 := by omega
      rcases this with rfl | rfl
      · exact Or.inl (by rw [hz, Int.mul_zero])
      · exact Or.inr (by rw [hz, Int.mul_one])
    · intro h
      rw [e]
      refine Int.dvd_add (Int.dvd_mul_right _ _) ?_
      rcases h with h | h <;> rw [h]
      · exact Int.dvd_zero _
      · exact Int.dvd_refl _
  rw [hs, ha]
  unfold fX
  split <;> split <;> omega
theorem fX_half {w : Int} (hw : 1 ≤ w) (P : Int) : fX (4 * w) (P + 2 * w) = 2 * w - fX (4 * w) P := by
  have p0 := Int.emod_nonneg P (show 4 * w ≠ 0 by omega)
  have p1 := Int.emod_lt_of_pos P (show 0 < 4 * w by omega)
  have pe := Int.mul_ediv_add_emod P (4 * w)
  have e : (P + 2 * w) % (4 * w) = if P % (4 * w) < 2 * w then P % (4 * w) + 2 * w else P % (4 * w) - 2 * w := by
    split
    · rename_i h
      have : P + 2 * w = (P % (4 * w) + 2 * w) + 4 * w * (P / (4 * w)) := by omega
      rw [this, Int.add_mul_emod_self_left]
      exact Int.emod_eq_of_lt (by omega) (by omega)
    · rename_i h
      have : P + 2 * w = (P % (4 * w) - 2 * w) + 4 * w * (P / (4 * w) + 1) := by rw [Int.mul_add]; omega
      rw [this, Int.add_mul_emod_self_left]
      exact Int.emod_eq_of_lt (by omega) (by omega)
  unfold fX
  rw [e]
  split <;> split <;> split <;> omega
/-- half a turn: when two numbers have the sum 0 -/
def halfF (P Q a : Int) : Option Int := if (P + Q) % 2 = 1 then none else some ((0 - P - Q) / 2 % (a / 2))
theorem half_spec {w P Q t : Int} (hw : 1 ≤ w) : 4 * w ∣ (P + t) + (Q + t) ↔ ∃ c, halfF P Q (4 * w) = some c ∧ 2 * w ∣ t - c := by
  unfold halfF
  have e2 : 4 * w / 2 = 2 * w := by omega
  rw [e2]
  constructor
  · rintro ⟨z, hz⟩
    rw [Int.mul_assoc] at hz
    rw [if_neg (by omega)]
    refine ⟨_, rfl, ?_⟩
    have em := Int.mul_ediv_add_emod ((0 - P - Q) / 2) (2 * w)
    refine ⟨z + (0 - P - Q) / 2 / (2 * w), ?_⟩
    rw [Int.mul_add, Int.mul_assoc]
    omega
  · rintro ⟨c, hc, z, hz⟩
    split at hc
    · cases hc
    · injection hc with hc
      have em := Int.mul_ediv_add_emod ((0 - P - Q) / 2) (2 * w)
      refine ⟨z - (0 - P - Q) / 2 / (2 * w), ?_⟩
      rw [show 4 * w = 2 * (2 * w) by omega, Int.mul_assoc, Int.mul_sub]
      omega
theorem half_rng {w P Q c : Int} (hw : 1 ≤ w) (h : halfF P Q (4 * w) = some c) : 0 ≤ c ∧ c < 2 * w := by
  unfold halfF at h
  split at h
  · cases h
  · injection h with h
    rw [← h, show 4 * w / 2 = 2 * w by omega]
    exact ⟨Int.emod_nonneg _ (by omega), Int.emod_lt_of_pos _ (by omega)⟩
/-- two rays are at one point -/
def MeetP (w h X Y U V t : Int) : Prop := fX (4 * w) (X + t) = fX (4 * w) (U + t) ∧ fX (4 * h) (Y + t) = fX (4 * h) (V + t)
theorem meet_iff {w h X Y U V t : Int} (hw : 1 ≤ w) (hh : 1 ≤ h) : MeetP w h X Y U V t ↔ (4 * w ∣ X - U ∨ ∃ c, halfF X U (4 * w) = some c ∧ 2 * w ∣ t - c) ∧ (4 * h ∣ Y - V ∨ ∃ c, halfF Y V (4 * h) = some c ∧ 2 * h ∣ t - c) := by
  unfold MeetP
  rw [fX_eq hw, fX_eq hh, half_spec hw, half_spec hh, show X + t - (U + t) = X - U by omega, show Y + t - (V + t) = Y - V by omega]
/-- candidates for the least -/
theorem cands {P : Int → Prop} {os : List (Option Int)} (h1 : ∀ o ∈ os, ∃ C : Int → Prop, Best C o ∧ ∀ t, 0 ≤ t → C t → P t) (h2 : ∀ t, 0 ≤ t → P t → ∃ o ∈ os, ∃ C : Int → Prop, Best C o ∧ C t) :
    (∀ t, 0 ≤ t → P t → ∃ c ∈ os.filterMap id, c ≤ t) ∧ ∀ c ∈ os.filterMap id, 0 ≤ c ∧ P c := by
  constructor
  · intro t ht hp
    obtain ⟨o, ho, C, hb, hc⟩ := h2 t ht hp
    cases o with
    | none => exact absurd hc (hb t ht)
    | some c => exact ⟨c, List.mem_filterMap.mpr ⟨some c, ho, rfl⟩, hb.2.2 t ht hc⟩
  · intro c hc
    obtain ⟨o, ho, e⟩ := List.mem_filterMap.mp hc
    have e : o = some c := e
    subst e
    obtain ⟨C, hb, hcp⟩ := h1 _ ho
    exact ⟨hb.1, hcp c hb.1 hb.2.1⟩
theorem best_zero : Best (fun _ => True) (some 0) := ⟨Int.le_refl _, trivial, fun t ht _ => ht⟩
theorem best_never : Best (fun _ => False) none := fun _ _ h => h
theorem half_best {w P Q : Int} (hw : 1 ≤ w) : Best (fun t => ∃ c, halfF P Q (4 * w) = some c ∧ 2 * w ∣ t - c) (halfF P Q (4 * w)) := by
  cases e : halfF P Q (4 * w) with
  | none => exact fun t ht ⟨c, h, _⟩ => nomatch h
  | some c =>
    obtain ⟨c0, c1⟩ := half_rng hw e
    refine ⟨c0, ⟨c, rfl, 0, by omega⟩, ?_⟩
    rintro t ht ⟨c', h, z, hz⟩
    injection h with h
    subst h
    rcases Int.lt_or_le z 0 with z0 | z0
    · have : 2 * w * z ≤ 2 * w * (-1) := Int.mul_le_mul_of_nonneg_left (by omega) (by omega)
      omega
    · have := Int.mul_nonneg (show 0 ≤ 2 * w by omega) z0
      omega
theorem dvd_red {w X U : Int} (hw : 1 ≤ w) (x0 : 0 ≤ X) (x1 : X < 4 * w) (u0 : 0 ≤ U) (u1 : U < 4 * w) : 4 * w ∣ X - U ↔ X = U := by
  constructor
  · rintro ⟨z, hz⟩
    rcases Int.lt_or_le z 0 with z0 | z0
    · have : 4 * w * z ≤ 4 * w * (-1) := Int.mul_le_mul_of_nonneg_left (by omega) (by omega)
      omega
    rcases Int.lt_or_le 0 z with z1 | z1
    · have : 4 * w * 1 ≤ 4 * w * z := Int.mul_le_mul_of_nonneg_left (by omega) (by omega)
      omega
    have : z = 0 := by omega
    subst this
    rw [Int.mul_zero] at hz
    omega
  · rintro rfl
    exact ⟨0, by omega⟩
/-- the ticks of first_meeting -/
def ticks0 (ha hb ct : Option Int) : List (Option Int) := match ha, hb with | some _, some _ => [ct] | _, _ => [none]
def ticksF (X Y U V : Int) (ha hb ct : Option Int) : List (Option Int) :=
  (ticks0 ha hb ct ++ if X = U then [if Y = V then some 0 else hb] else []) ++ if Y = V then [if X = U then some 0 else ha] else []
theorem ticks_cands {w h X Y U V : Int} (hw : 1 ≤ w) (hh : 1 ≤ h) (hX : 4 * w ∣ X - U ↔ X = U) (hY : 4 * h ∣ Y - V ↔ Y = V) {ct : Option Int}
    (hct : ∀ c d, halfF X U (4 * w) = some c → halfF Y V (4 * h) = some d → Best (fun t => 2 * w ∣ t - c ∧ 2 * h ∣ t - d) ct) :
    (∀ t, 0 ≤ t → MeetP w h X Y U V t → ∃ c ∈ (ticksF X Y U V (halfF X U (4 * w)) (halfF Y V (4 * h)) ct).filterMap id, c ≤ t) ∧ ∀ c ∈ (ticksF X Y U V (halfF X U (4 * w)) (halfF Y V (4 * h)) ct).filterMap id, 0 ≤ c ∧ MeetP w h X Y U V c := by
  have ba := half_best (P := X) (Q := U) hw
  have bb := half_best (P := Y) (Q := V) hh
  have c0 : ∀ o ∈ ticks0 (halfF X U (4 * w)) (halfF Y V (4 * h)) ct, Best (fun t => (∃ c, halfF X U (4 * w) = some c ∧ 2 * w ∣ t - c) ∧ ∃ c, halfF Y V (4 * h) = some c ∧ 2 * h ∣ t - c) o := by
    intro o ho
    unfold ticks0 at ho
    split at ho
    · rename_i c d e1 e2
      rw [List.mem_singleton] at ho
      subst ho
      refine Best.congr ?_ (hct c d e1 e2)
      intro t ht
      constructor
      · rintro ⟨h1, h2⟩
        exact ⟨⟨c, e1, h1⟩, d, e2, h2⟩
      · rintro ⟨⟨c', q1, h1⟩, d', q2, h2⟩
        rw [e1] at q1
        rw [e2] at q2
        injection q1 with q1
        injection q2 with q2
        subst q1; subst q2
        exact ⟨h1, h2⟩
    · rename_i hno
      rw [List.mem_singleton] at ho
      subst ho
      rintro t ht ⟨⟨c', q1, h1⟩, d', q2, h2⟩
      exact hno _ _ q1 q2
  have ne0 : ∃ o, o ∈ ticks0 (halfF X U (4 * w)) (halfF Y V (4 * h)) ct := by
    unfold ticks0
    split
    · exact ⟨_, List.mem_singleton.mpr rfl⟩
    · exact ⟨_, List.mem_singleton.mpr rfl⟩
  refine cands ?_ ?_
  · intro o ho
    unfold ticksF at ho
    rcases List.mem_append.mp ho with ho | ho
    · rcases List.mem_append.mp ho with ho | ho
      · exact ⟨_, c0 o ho, fun t ht ⟨h1, h2⟩ => (meet_iff hw hh).mpr ⟨Or.inr h1, Or.inr h2⟩⟩
      · split at ho
        · rename_i e1
          rw [List.mem_singleton] at ho
          subst ho
          split
          · rename_i e2
            exact ⟨_, best_zero, fun t ht _ => (meet_iff hw hh).mpr ⟨Or.inl (hX.mpr e1), Or.inl (hY.mpr e2)⟩⟩
          · exact ⟨_, bb, fun t ht h2 => (meet_iff hw hh).mpr ⟨Or.inl (hX.mpr e1), Or.inr h2⟩⟩
        · cases ho
    · split at ho
      · rename_i e2
        rw [List.mem_singleton] at ho
        subst ho
        split
        · rename_i e1
          exact ⟨_, best_zero, fun t ht _ => (meet_iff hw hh).mpr ⟨Or.inl (hX.mpr e1), Or.inl (hY.mpr e2)⟩⟩
        · exact ⟨_, ba, fun t ht h1 => (meet_iff hw hh).mpr ⟨Or.inr h1, Or.inl (hY.mpr e2)⟩⟩
      · cases ho
  · intro t ht hm
    obtain ⟨h1, h2⟩ := (meet_iff hw hh).mp hm
    unfold ticksF
    rcases h1 with h1 | h1
    · have e1 := hX.mp h1
      rw [if_pos e1]
      rcases h2 with h2 | h2
      · have e2 := hY.mp h2
        exact ⟨some 0, List.mem_append_left _ (List.mem_append_right _ (by rw [if_pos e2]; exact List.mem_singleton.mpr rfl)), _, best_zero, trivial⟩
      · by_cases e2 : Y = V
        · exact ⟨some 0, List.mem_append_left _ (List.mem_append_right _ (by rw [if_pos e2]; exact List.mem_singleton.mpr rfl)), _, best_zero, trivial⟩
        · exact ⟨_, List.mem_append_left _ (List.mem_append_right _ (by rw [if_neg e2]; exact List.mem_singleton.mpr rfl)), _, bb, h2⟩
    · rcases h2 with h2 | h2
      · have e2 := hY.mp h2
        simp only [if_pos e2]
        by_cases e1 : X = U
        · exact ⟨some 0, List.mem_append_right _ (by rw [if_pos e1]; exact List.mem_singleton.mpr rfl), _, best_zero, trivial⟩
        · exact ⟨_, List.mem_append_right _ (by rw [if_neg e1]; exact List.mem_singleton.mpr rfl), _, ba, h1⟩
      · obtain ⟨o, ho⟩ := ne0
        exact ⟨o, List.mem_append_left _ (List.mem_append_left _ ho), _, c0 o ho, h1, h2⟩
/-! rays -/
def pX (r : Ray) : Int := r.1 * r.2.2.1
def pY (r : Ray) : Int := r.2.1 * r.2.2.2
def FM (w h : Int) (r o : Ray) (res : Option Int) : Prop := Best (MeetP w h (pX r) (pY r) (pX o) (pY o)) res
theorem fX_congr {a P Q t : Int} (h : P % a = Q % a) : fX a (P + t) = fX a (Q + t) := by
  unfold fX
  have : (P + t) % a = (Q + t) % a := by rw [Int.add_emod, h, ← Int.add_emod]
  rw [this]
theorem meet_congr {w h X Y U V X' Y' U' V' t : Int} (e1 : X % (4 * w) = X' % (4 * w)) (e2 : Y % (4 * h) = Y' % (4 * h)) (e3 : U % (4 * w) = U' % (4 * w)) (e4 : V % (4 * h) = V' % (4 * h)) : MeetP w h X Y U V t ↔ MeetP w h X' Y' U' V' t := by
  unfold MeetP
  rw [fX_congr e1, fX_congr e2, fX_congr e3, fX_congr e4]
theorem pX_rayOf {w h X Y : Int} (hw : 1 ≤ w) : pX (rayOf (4 * w) (4 * h) X Y) % (4 * w) = X % (4 * w) := by
  have p0 := Int.emod_nonneg X (show 4 * w ≠ 0 by omega)
  have p1 := Int.emod_lt_of_pos X (show 0 < 4 * w by omega)
  show (fX (4 * w) X * fD (4 * w) X) % (4 * w) = _
  unfold fX fD
  split
  · rw [Int.mul_one, Int.emod_emod]
  · rw [show (4 * w - X % (4 * w)) * -1 = X % (4 * w) + 4 * w * (-1) by omega, Int.add_mul_emod_self_left, Int.emod_emod]
theorem pY_rayOf {w h X Y : Int} (hh : 1 ≤ h) : pY (rayOf (4 * w) (4 * h) X Y) % (4 * h) = Y % (4 * h) := pX_rayOf (w := h) (h := w) (X := Y) (Y := X) hh
theorem noTh {w h : Int} : ThsOk w h [] := ⟨(fun _ h => nomatch h), List.nodup_nil⟩
theorem pXY_odd {w h : Int} {r : Ray} (k : rOk w h r) : (pX r + pY r) % 2 = 1 := by
  obtain ⟨a1, a2, a3, a4, a5, hdx, hdy, _⟩ := k
  have q1 : (pX r - r.1) % 2 = 0 := by unfold pX; rcases hdx with h1 | h1 <;> rw [h1] <;> omega
  have q2 : (pY r - r.2.1) % 2 = 0 := by unfold pY; rcases hdy with h1 | h1 <;> rw [h1] <;> omega
  omega
theorem plain_stp {w h X Y : Int} (hw : 1 ≤ w) (hh : 1 ≤ h) (ho : (X + Y) % 2 = 1) : stp w h [] (rayOf (4 * w) (4 * h) X Y) = some (rayOf (4 * w) (4 * h) (X + 1) (Y + 1)) := by
  rw [stp_place hw hh noTh ho]
  have e : kindAt [] (fX (4 * w) (X + 1)) (fX (4 * h) (Y + 1)) = "" := rfl
  rw [e, if_neg (by decide), if_neg (by decide), if_neg (by decide)]
theorem plain_iter {w h X Y : Int} (hw : 1 ≤ w) (hh : 1 ≤ h) (ho : (X + Y) % 2 = 1) : ∀ k : Nat, iterR w h [] k (rayOf (4 * w) (4 * h) X Y) = some (rayOf (4 * w) (4 * h) (X + k) (Y + k))
  | 0 => by
    show some _ = _
    rw [show X + ((0 : Nat) : Int) = X by omega, show Y + ((0 : Nat) : Int) = Y by omega]
  | k + 1 => by
    rw [iter_succ, plain_iter hw hh ho k]
    show stp w h [] _ = _
    rw [plain_stp hw hh (by omega), show X + (k : Int) + 1 = X + ((k + 1 : Nat) : Int) by omega, show Y + (k : Int) + 1 = Y + ((k + 1 : Nat) : Int) by omega]
theorem plain_run {w h : Int} {r : Ray} {k : Int} (hw : 1 ≤ w) (hh : 1 ≤ h) (ok : rOk w h r) (hk : 0 ≤ k) : runF w h [] r k = some (rayOf (4 * w) (4 * h) (pX r + k) (pY r + k)) := by
  rw [run_pos hk]
  have e := plain_iter hw hh (pXY_odd ok) k.toNat
  rw [show rayOf (4 * w) (4 * h) (pX r) (pY r) = r from rayOf_of hw hh ok, show ((k.toNat : Nat) : Int) = k by omega] at e
  exact e
theorem plain_rvs {w h : Int} {r : Ray} : ∃ b, rvs w h [] r = some b := by
  unfold rvs revR
  rw [show kindAt [] r.1 r.2.1 = "" from rfl, if_neg (by decide)]
  exact ⟨_, rfl⟩
theorem plain_before {w h : Int} {r : Ray} (hw : 1 ≤ w) (hh : 1 ≤ h) (ok : rOk w h r) : ∃ r0, runF w h [] r (-1) = some r0 ∧ rOk w h r0 ∧ (pX r0 + 1) % (4 * w) = pX r % (4 * w) ∧ (pY r0 + 1) % (4 * h) = pY r % (4 * h) := by
  obtain ⟨b, hb⟩ := plain_rvs (w := w) (h := h) (r := r)
  obtain ⟨kb, hbr⟩ := rvs_rvs hw hh ok hb
  have e1 := plain_stp hw hh (pXY_odd kb)
  rw [show rayOf (4 * w) (4 * h) (pX b) (pY b) = b from rayOf_of hw hh kb] at e1
  obtain ⟨k2, e2⟩ := stp_some hw hh kb e1
  refine ⟨bk b, (law_m2 hb e1).trans e2, bk_ok kb, ?_⟩
  have e3 : stp w h [] (bk b) = some r := (stp_bk b).trans hbr
  have e4 := plain_stp hw hh (pXY_odd (bk_ok kb))
  rw [show rayOf (4 * w) (4 * h) (pX (bk b)) (pY (bk b)) = bk b from rayOf_of hw hh (bk_ok kb), e3] at e4
  injection e4 with e4
  rw [e4]
  exact ⟨(pX_rayOf hw).symm, (pY_rayOf hh).symm⟩
/-! what the law asks of meetings -/
theorem fm_sym {w h : Int} {r o : Ray} {a b : Option Int} (x : FM w h r o a) (y : FM w h o r b) : b = a :=
  Best.uniq (fun t _ => ⟨fun ⟨h1, h2⟩ => ⟨h1.symm, h2.symm⟩, fun ⟨h1, h2⟩ => ⟨h1.symm, h2.symm⟩⟩) y x
theorem fm_par {w h : Int} {r o : Ray} {c : Int} (hw : 1 ≤ w) (kr : rOk w h r) (ko : rOk w h o) (x : FM w h r o (some c)) : (r.1 + o.1) % 2 = 0 := by
  obtain ⟨_, ⟨e, _⟩, _⟩ := x
  have p1 := fX_par hw (pX r + c)
  have p2 := fX_par hw (pX o + c)
  obtain ⟨_, _, _, _, _, hdx, _⟩ := kr
  obtain ⟨_, _, _, _, _, hdx2, _⟩ := ko
  have q1 : (pX r - r.1) % 2 = 0 := by unfold pX; rcases hdx with h1 | h1 <;> rw [h1] <;> omega
  have q2 : (pX o - o.1) % 2 = 0 := by unfold pX; rcases hdx2 with h1 | h1 <;> rw [h1] <;> omega
  omega
theorem meet_shift {w h X Y U V c t : Int} : MeetP w h (X + c) (Y + c) (U + c) (V + c) t ↔ MeetP w h X Y U V (c + t) := by
  unfold MeetP
  rw [Int.add_assoc, Int.add_assoc, Int.add_assoc, Int.add_assoc]
theorem fm_zero {w h c : Int} {r o : Ray} {res : Option Int} (hw : 1 ≤ w) (hh : 1 ≤ h) (x : FM w h r o (some c)) (y : FM w h (rayOf (4 * w) (4 * h) (pX r + c) (pY r + c)) (rayOf (4 * w) (4 * h) (pX o + c) (pY o + c)) res) : res = some 0 := by
  refine Best.uniq (Q := MeetP w h (pX (rayOf (4 * w) (4 * h) (pX r + c) (pY r + c))) (pY (rayOf (4 * w) (4 * h) (pX r + c) (pY r + c))) (pX (rayOf (4 * w) (4 * h) (pX o + c) (pY o + c))) (pY (rayOf (4 * w) (4 * h) (pX o + c) (pY o + c)))) (fun _ _ => Iff.rfl) y ⟨Int.le_refl _, ?_, fun t ht _ => ht⟩
  refine (meet_congr (pX_rayOf hw) (pY_rayOf hh) (pX_rayOf hw) (pY_rayOf hh)).mpr (meet_shift.mpr ?_)
  rw [Int.add_zero]
  exact x.2.1
theorem fm_early {w h c : Int} {r o r0 o0 : Ray} {res : Option Int} (hw : 1 ≤ w) (hh : 1 ≤ h) (k1 : rOk w h r0) (k2 : rOk w h o0) (x : FM w h r o (some c)) (y : FM w h r0 o0 res)
    (e1 : (pX r0 + 1) % (4 * w) = pX r % (4 * w)) (e2 : (pY r0 + 1) % (4 * h) = pY r % (4 * h)) (e3 : (pX o0 + 1) % (4 * w) = pX o % (4 * w)) (e4 : (pY o0 + 1) % (4 * h) = pY o % (4 * h)) :
    (r0.1 = o0.1 ∧ r0.2.1 = o0.2.1 → res = some 0) ∧ (¬ (r0.1 = o0.1 ∧ r0.2.1 = o0.2.1) → res = some (c + 1)) := by
  have ptx : ∀ r : Ray, rOk w h r → fX (4 * w) (pX r) = r.1 ∧ fX (4 * h) (pY r) = r.2.1 := fun r k => by
    have := rayOf_of hw hh k
    exact ⟨congrArg (·.1) this, congrArg (·.2.1) this⟩
  have at0 : MeetP w h (pX r0) (pY r0) (pX o0) (pY o0) 0 ↔ (r0.1 = o0.1 ∧ r0.2.1 = o0.2.1) := by
    unfold MeetP
    rw [Int.add_zero, Int.add_zero, Int.add_zero, Int.add_zero, (ptx r0 k1).1, (ptx r0 k1).2, (ptx o0 k2).1, (ptx o0 k2).2]
  have at1 : ∀ t, MeetP w h (pX r0) (pY r0) (pX o0) (pY o0) (1 + t) ↔ MeetP w h (pX r) (pY r) (pX o) (pY o) t := fun t =>
    meet_shift.symm.trans (meet_congr e1 e2 e3 e4)
  constructor
  · intro he
    exact Best.uniq (Q := MeetP w h (pX r0) (pY r0) (pX o0) (pY o0)) (fun _ _ => Iff.rfl) y ⟨Int.le_refl _, at0.mpr he, fun t ht _ => ht⟩
  · intro he
    have c0 : 0 ≤ c := x.1
    refine Best.uniq (Q := MeetP w h (pX r0) (pY r0) (pX o0) (pY o0)) (fun _ _ => Iff.rfl) y ⟨by omega, ?_, fun t ht hm => ?_⟩
    · have := (at1 c).mpr x.2.1
      rw [Int.add_comm] at this
      exact this
    · rcases Int.lt_or_le 0 t with h0 | h0
      · have hm2 : MeetP w h (pX r0) (pY r0) (pX o0) (pY o0) (1 + (t - 1)) := by rw [show 1 + (t - 1) = t by omega]; exact hm
        have := x.2.2 (t - 1) (by omega) ((at1 _).mp hm2)
        omega
      · have : t = 0 := by omega
        subst this
        exact absurd (at0.mp hm) he
def imgR (w h k : Int) (r : Ray) : Ray := if k = 0 then (2 * w - r.1, r.2.1, 0 - r.2.2.1, r.2.2.2) else (r.1, 2 * h - r.2.1, r.2.2.1, 0 - r.2.2.2)
theorem imgR_ok {w h k : Int} {r : Ray} (hw : 1 ≤ w) (hh : 1 ≤ h) (ok : rOk w h r) : rOk w h (imgR w h k r) := by
  obtain ⟨x, y, dx, dy⟩ := r
  obtain ⟨a1, a2, a3, a4, a5, hdx, hdy, a6, a7, a8, a9⟩ := ok
  simp only at *
  unfold imgR
  split <;> refine ⟨?_, ?_, ?_, ?_, ?_, ?_, ?_, ?_, ?_, ?_, ?_⟩ <;> simp only <;> omega
theorem img_px {w x dx : Int} (hdx : dx = 1 ∨ dx = -1) : ((2 * w - x) * (0 - dx)) % (4 * w) = (x * dx + 2 * w) % (4 * w) := by
  rcases hdx with rfl | rfl
  · rw [show (2 * w - x) * (0 - 1) = (x * 1 + 2 * w) + 4 * w * (-1) by omega, Int.add_mul_emod_self_left]
  · rw [show (2 * w - x) * (0 - -1) = x * -1 + 2 * w by omega]
theorem fm_img {w h k : Int} {r o : Ray} {a b : Option Int} (hw : 1 ≤ w) (hh : 1 ≤ h) (k1 : rOk w h r) (k2 : rOk w h o) (x : FM w h r o a) (y : FM w h (imgR w h k r) (imgR w h k o) b) : b = a := by
  refine Best.uniq (fun t _ => ?_) y x
  obtain ⟨_, _, _, _, _, hdx, hdy, _⟩ := k1
  obtain ⟨_, _, _, _, _, hdx2, hdy2, _⟩ := k2
  unfold imgR
  split
  · have e : ∀ (P : Int), fX (4 * w) (P + 2 * w + t) = 2 * w - fX (4 * w) (P + t) := fun P => by rw [show P + 2 * w + t = P + t + 2 * w by omega, fX_half hw]
    refine (meet_congr (X' := pX r + 2 * w) (Y' := pY r) (U' := pX o + 2 * w) (V' := pY o) (img_px hdx) rfl (img_px hdx2) rfl).trans ?_
    unfold MeetP
    rw [e, e]
    constructor <;> rintro ⟨h1, h2⟩ <;> exact ⟨by omega, h2⟩
  · have e : ∀ (P : Int), fX (4 * h) (P + 2 * h + t) = 2 * h - fX (4 * h) (P + t) := fun P => by rw [show P + 2 * h + t = P + t + 2 * h by omega, fX_half hh]
    refine (meet_congr (X' := pX r) (Y' := pY r + 2 * h) (U' := pX o) (V' := pY o + 2 * h) rfl (img_px hdy) rfl (img_px hdy2)).trans ?_
    unfold MeetP
    rw [e, e]
    constructor <;> rintro ⟨h1, h2⟩ <;> exact ⟨h1, by omega⟩
end K

namespace K
open PySem L2 DL
local macro_rules | `(tactic| walk_at "w") => `(tactic| (conv => whnf))
local macro_rules | `(tactic| walk_at "at") => `(tactic| first | assumption | (refine SrcStep.get (l := ?l0) (n := ?n0) (S := ?s0) ?h1 ?h2 ?h3; (case h1 => assumption); (case h2 => omega); (case h3 => walk_at "at")) | (refine set_same (o := ?oo) ?sm; (case sm => walk_at "at")) | (refine set_other ?sm ?sn; (case sn => omega); (case sm => walk_at "at")) | (exact getElem_push _ _) | (refine app_left ?sm; (case sm => walk_at "at")) | rfl)
local macro_rules | `(tactic| walk_at "get") => `(tactic| (refine Exists.intro ?wit (And.intro ?gt ?_); (case gt => walk_at "at")))
local macro_rules | `(tactic| walk_at "bool") => `(tactic| (refine And.intro (fun hcond => ?_) (fun hcond => ?_) <;> (first | (exact absurd hcond (by decide)) | (simp only [decide_eq_true_eq, decide_eq_false_iff_not, Bool.not_eq_true', Bool.not_eq_false', Int.not_lt, Int.not_le, inD_nil, inD_int_cons, Bool.or_eq_true, Bool.or_eq_false_iff, Bool.or_false, ne_eq, Decidable.not_not] at hcond) | skip)))
local macro_rules | `(tactic| walk_at "len") => `(tactic| (refine line_le6 ?_; (try simp only [len_cat, len_e]); omega))
local macro_rules | `(tactic| walk_at "cond") => `(tactic| first | assumption | rfl | exact True.intro | omega | (exact Nat.le_of_ble_eq_true rfl) | (refine mulS ?cm1 ?cm2 <;> omega) | (refine divS ?cm1 <;> omega) | (refine And.intro ?cd1 ?cd2 <;> decide) | (exact line_le (Nat.le_of_ble_eq_true rfl)) | (exact line_lt (Nat.le_of_ble_eq_true rfl)) | (refine' Exists.intro _ (Exists.intro _ (And.intro rfl ?cm1)); (case cm1 => walk_at "at")) | (exact log_le (by omega)) | walk_at "len" | solve_by_elim | fail "no cond")
local macro_rules | `(tactic| walk_at "src") => `(tactic| first | assumption | (refine SrcStep.srcAt (S := ?ss) ?st; (case st => assumption)) | (refine SrcAt.app ?st; (case st => walk_at "src")))
local macro_rules | `(tactic| walk_at "draw") => `(tactic| (refine' Exists.intro _ (Exists.intro _ (Exists.intro ?nn (And.intro rfl (And.intro ?d1 (And.intro ?d2 (And.intro ?d3 (fun r S' h0 h1 hst => ?_))))))); (case d1 => walk_at "src"); (case d2 => omega); (case d3 => omega)))
local macro_rules | `(tactic| walk_at "steps") => `(tactic| first | assumption | (refine SrcStep.trans (n := ?sn) (S1 := ?sm) ?sx ?sy; (case sy => assumption); (case sx => walk_at "steps")) | (refine SrcAt.refl ?sz; assumption))
local macro_rules | `(tactic| walk_at "side") => `(tactic| (refine And.intro ?sd ?_; (case sd => walk_at "cond")))
local macro_rules | `(tactic| walk_at "go1") => `(tactic| (conv => whnf) <;> (first | walk_at "get" | walk_at "bool" | walk_at "draw" | walk_at "side" | fail "no step"))
local macro_rules | `(tactic| walk_at "go") => `(tactic| (repeat' (walk_at "go1")); (all_goals try (conv => whnf)))

def tri (b : Int × Int × Int) : D := .tup [.int b.1, .int b.2.1, .int b.2.2]
/-- sizes along the loop -/
structure FolI (M : Int) (c : Cs) (st : Option (Int × Int)) (bf : Int × Int × Int) : Prop where
  s0 : 0 ≤ c.steps
  t0 : 0 ≤ c.taken
  sum : c.taken + c.steps ≤ M
  w0 : 0 ≤ c.walls
  w1 : c.walls ≤ 3 * c.taken
  m0 : 0 ≤ c.mirrors
  m1 : c.mirrors ≤ c.taken
  door : c.door = none
  b : st ≠ none → bf.1 ≤ c.taken ∧ 0 ≤ bf.1 ∧ 0 ≤ c.walls - bf.2.1 ∧ c.walls - bf.2.1 ≤ 3 * (c.taken - bf.1) ∧ 0 ≤ c.mirrors - bf.2.2 ∧ c.mirrors - bf.2.2 ≤ c.taken - bf.1
theorem mulT {i j : Int} (h1 : -(2 ^ 130) < i ∧ i < 2 ^ 130) (h2 : -(2 ^ 130) < j ∧ j < 2 ^ 130) : CMulW i j := wide_mul (a := 130) (b := 130) (by omega) (by omega) (by decide) (by decide) (by decide)
theorem FolI.leave {M : Int} {c : Cs} {p : Int × Int} {bf : Int × Int × Int} (h : FolI M c (some p) bf) (hD : 0 < c.taken - bf.1) : FolI M (c.leave bf.1 bf.2.1 bf.2.2) (some p) bf := by
  obtain ⟨i1, i2, i3, i4, i5, i6, i7, i8, i9⟩ := h
  obtain ⟨b1, b2, b3, b4, b5, b6⟩ := i9 (fun h => nomatch h)
  have m0 := Int.emod_nonneg c.steps (show c.taken - bf.1 ≠ 0 by omega)
  have d0 := Int.ediv_nonneg i1 (show 0 ≤ c.taken - bf.1 by omega)
  have em := Int.mul_ediv_add_emod c.steps (c.taken - bf.1)
  have a1 : c.steps / (c.taken - bf.1) * (c.walls - bf.2.1) ≤ c.steps / (c.taken - bf.1) * (3 * (c.taken - bf.1)) := Int.mul_le_mul_of_nonneg_left b4 d0
  have a2 : c.steps / (c.taken - bf.1) * (c.mirrors - bf.2.2) ≤ c.steps / (c.taken - bf.1) * (c.taken - bf.1) := Int.mul_le_mul_of_nonneg_left b6 d0
  have a3 := Int.mul_nonneg d0 b3
  have a4 := Int.mul_nonneg d0 b5
  have a5 : c.steps / (c.taken - bf.1) * (3 * (c.taken - bf.1)) = 3 * (c.steps / (c.taken - bf.1) * (c.taken - bf.1)) := by rw [← Int.mul_assoc, Int.mul_comm _ 3, Int.mul_assoc]
  have a6 : (c.taken - bf.1) * (c.steps / (c.taken - bf.1)) = c.steps / (c.taken - bf.1) * (c.taken - bf.1) := Int.mul_comm _ _
  have a7 := Int.mul_nonneg d0 (show 0 ≤ c.taken - bf.1 by omega)
  refine ⟨?_, ?_, ?_, ?_, ?_, ?_, ?_, i8, fun _ => ⟨?_, ?_, ?_, ?_, ?_, ?_⟩⟩ <;> (try simp only [Cs.leave]) <;> omega
def spFollow (A : Ads) : DSp := fun ds S Q E => ∃ (l : Nat) (c : Cs) (fs : List (Str × D)) (n : TNum) (tg : List Tg), ds = [.loc l] ∧ S[l]? = some (.ins A.a_Course (c.fs (.obj A.a_Torus fs))) ∧ TD n tg fs ∧ TW n.a n.l fs ∧ (∀ k, bndF k fs) ∧
  (0 ≤ c.steps ∧ c.steps ≤ 100000000000000000000000000000000000) ∧ (c.walls = 0 ∧ c.mirrors = 0 ∧ c.taken = 0 ∧ c.door = none) ∧ (fs.lookup ("walls_between" : Str) = none) ∧ (∀ t ∈ tg, ∀ x y, 1 ≤ stepsTo n x y t) ∧
  ∀ c', Fol n tg c none (0, 0, 0) c' → Q .non (S.set l (.ins A.a_Course (c'.fs (.obj A.a_Torus fs))))
theorem n_Course_follow {A : Ads} : ∀ ds S Q E, spFollow A ds S Q E → ds.length = 1 := by
  rintro ds S Q E ⟨l, c, fs, n, tg, rfl, _⟩
  rfl
theorem evBest_val (n : TNum) (px py : Int) {t : Tg} {s : Int} : ∀ (L : List Tg) (b : Option Tg × Int), L.foldl (evStep n px py) b = (some t, s) → (t ∈ L ∧ s = stepsTo n px py t) ∨ b = (some t, s)
  | [], b, h => Or.inr h
  | x :: r, b, h => by
    rcases evBest_val n px py r _ h with ⟨h1, h2⟩ | h1
    · exact Or.inl ⟨List.mem_cons_of_mem _ h1, h2⟩
    · unfold evStep at h1
      split at h1
      · injection h1 with h1 h2
        injection h1 with h1
        subst h1
        exact Or.inl ⟨List.mem_cons_self, h2.symm⟩
      · exact Or.inr h1
section
variable {P : Program} {w : World} {K : PySem.W.Frag} {mg : Str → Option Value} {base : Heap} {A : Ads} {B : Fds}
theorem ok_Course_follow (T : Txt w K mg A B) : FnOk P w K mg base CX0 4 A.a_Course_follow B.a_Course_follow ["self"] (spOf K 1 (spFollow A)) := by
  refine dfn_ok T.F_Course_follow sc_Course_follow n_Course_follow (fun cdv Ar outer s H E hr => (ds_cons (ds_set (i := 1) sc_Course_follow.nd rfl (.inl rfl) de_non)
      (ds_cons (ds_set (i := 2) sc_Course_follow.nd rfl (.inl rfl) (de_tup (da_cons de_int (da_cons de_int (da_cons de_int da_nil)))))
      (ds_cons (ds_set (i := 3) sc_Course_follow.nd rfl (.inl rfl) (de_meth (de_fld (dv 0) T.cl_Course T.n_Course_torus) T.cl_Torus T.m_Torus_event (ok_Torus_event T) (hr.mono (by decide)) T.b_Torus_event .nil rpl_nil pass0 n_Torus_event (da_cons (de_fld (dv 0) T.cl_Course T.n_Course_spot) da_nil)))
      (ds_cons (ds_while PassesOwn.never (DW.pt (dw_and (dt_cmp od_notN (dv 3) de_non (nomark _)) (dw_and1 (dt_cmp od_le (de_fld (dv 3) T.cl_Event T.n_Event_steps) (de_fld (dv 0) T.cl_Course T.n_Course_steps) (nomark _))))) (ds_cons (ds_fldaug inI_add (dv 0) (de_meth (de_fld (dv 0) T.cl_Course T.n_Course_torus) T.cl_Torus T.m_Torus_walls_between (ok_Torus_walls_between T) (hr.mono (by decide)) T.b_Torus_walls_between .nil rpl_nil pass0 n_Torus_walls_between (da_cons (de_fld (dv 0) T.cl_Course T.n_Course_spot) (da_cons (de_fld (dv 3) T.cl_Event T.n_Event_steps) da_nil))) T.cl_Course T.n_Course_walls)
      (ds_cons (ds_fldaug inI_sub (dv 0) (de_fld (dv 3) T.cl_Event T.n_Event_steps) T.cl_Course T.n_Course_steps)
      (ds_cons (ds_fldaug inI_add (dv 0) (de_fld (dv 3) T.cl_Event T.n_Event_steps) T.cl_Course T.n_Course_taken)
      (ds_cons (ds_if (dt_cmp od_isN (de_fld (dv 3) T.cl_Event T.n_Event_left) de_non (nomark _)) (ds_cons (ds_fld (dv 0) (de_fld (dv 3) T.cl_Event T.n_Event_number) T.cl_Course T.n_Course_door)
      (ds_cons (ds_fldaug inI_sub (dv 0) de_int T.cl_Course T.n_Course_walls)
      (ds_one ds_retN))) ds_nil)
      (ds_cons (ds_fldaug inI_add (dv 0) de_int T.cl_Course T.n_Course_mirrors)
      (ds_cons (ds_fld (dv 0) (de_fld (dv 3) T.cl_Event T.n_Event_left) T.cl_Course T.n_Course_spot)
      (ds_cons (ds_mark 1 (ds_if (dt_cmp od_isN (dv 1) de_non (nomark _)) (ds_one (ds_par (i := 1) (j := 2) rfl sc_Course_follow.nd rfl rfl (by decide) rfl rfl (da_cons (de_fld (dv 0) T.cl_Course T.n_Course_spot) (da_cons (de_tup (da_cons (de_fld (dv 0) T.cl_Course T.n_Course_taken) (da_cons (de_fld (dv 0) T.cl_Course T.n_Course_walls) (da_cons (de_fld (dv 0) T.cl_Course T.n_Course_mirrors) da_nil)))) da_nil)) (by rfl))) (ds_one (ds_if (dt_cmp (od_eq hr.units) (de_fld (dv 0) T.cl_Course T.n_Course_spot) (dv 1) (nomark _)) (ds_one (ds_expr (de_meth (dv 0) T.cl_Course T.m_Course_leave_out (ok_Course_leave_out T) (hr.mono (by decide)) T.b_Course_leave_out .nil rpl_nil pass0 n_Course_leave_out (da_cons (dv 2) da_nil)))) ds_nil))))
      (ds_one (ds_set (i := 3) sc_Course_follow.nd rfl (.inl rfl) (de_meth (de_fld (dv 0) T.cl_Course T.n_Course_torus) T.cl_Torus T.m_Torus_event (ok_Torus_event T) (hr.mono (by decide)) T.b_Torus_event .nil rpl_nil pass0 n_Torus_event (da_cons (de_fld (dv 0) T.cl_Course T.n_Course_spot) da_nil))))))))))))
      (ds_cons (ds_fldaug inI_add (dv 0) (de_meth (de_fld (dv 0) T.cl_Course T.n_Course_torus) T.cl_Torus T.m_Torus_walls_between (ok_Torus_walls_between T) (hr.mono (by decide)) T.b_Torus_walls_between .nil rpl_nil pass0 n_Torus_walls_between (da_cons (de_fld (dv 0) T.cl_Course T.n_Course_spot) (da_cons (de_fld (dv 0) T.cl_Course T.n_Course_steps) da_nil))) T.cl_Course T.n_Course_walls)
      (ds_cons (ds_fldaug inI_add (dv 0) (de_fld (dv 0) T.cl_Course T.n_Course_steps) T.cl_Course T.n_Course_taken)
      (ds_one (ds_fld (dv 0) (de_tup (da_cons (de_op od_add (de_ix ix_any (de_fld (dv 0) T.cl_Course T.n_Course_spot) de_int (fun _ _ => rfl)) (de_fld (dv 0) T.cl_Course T.n_Course_steps)) (da_cons (de_op od_add (de_ix ix_any (de_fld (dv 0) T.cl_Course T.n_Course_spot) de_int (fun _ _ => rfl)) (de_fld (dv 0) T.cl_Course T.n_Course_steps)) da_nil))) T.cl_Course T.n_Course_spot))))))))) ?_
  rintro ds S Q E bd ⟨l, c, fs, n, tg, rfl, hl, td, tw, fb, ⟨s0, s1⟩, ⟨z1, z2, z3, z4⟩, mw, hst, q⟩
  have hlt : l < S.length := (List.getElem?_eq_some_iff.mp hl).1
  have me := td.m1
  walk_at "go"
  refine ⟨fs, n, tg, c.x, c.y, rfl, td, ?_⟩
  conv => whnf
  refine ⟨fun m ρ S' => ∃ (c1 : Cs) (st : Option (Int × Int)) (bf : Int × Int × Int), (∀ c', Fol n tg c1 st bf c' → Fol n tg c none (0, 0, 0) c') ∧ FolI c.steps c1 st bf ∧ m = c1.steps.toNat ∧
    ρ = [some (.loc l), some (optPlace st), some (tri bf), some (eventD A.a_Event (evAt n tg c1.x c1.y))] ∧ S' = S.set l (.ins A.a_Course (c1.fs (.obj A.a_Torus fs))), ⟨_, c, none, (0, 0, 0), fun _ h => h, ⟨s0, by omega, by omega, by omega, by omega, by omega, by omega, z4, fun h => absurd rfl h⟩, rfl, rfl, ?_⟩, ?_⟩
  · apply List.ext_getElem?
    intro j
    rw [List.getElem?_set]
    by_cases e : l = j
    · subst e; rw [if_pos rfl, if_pos hlt, hl]
    · rw [if_neg e]
  · rintro m ρ S' ⟨c1, st, bf, hf, inv, rfl, rfl, hS⟩
    have g0 : S'[l]? = some (.ins A.a_Course (c1.fs (.obj A.a_Torus fs))) := by rw [hS]; exact List.getElem?_set_self hlt
    obtain ⟨i1, i2, i3, i4, i5, i6, i7, i8, i9⟩ := id inv
    cases he : evAt n tg c1.x c1.y with
    | mk e s =>
      cases e with
      | none =>
        have fin := q _ (hf _ (.stop (Or.inl (by rw [he]))))
        walk_at "go"
        · rename_i hc
          exact absurd (show true = false from hc) (by decide)
        · refine ⟨fs, n, tg, c1.x, c1.y, c1.steps, rfl, td, ?_⟩
          walk_at "go"
          rw [List.set_set, List.set_set, hS, List.set_set]
          exact Rt.set (o := .ins A.a_Course ((c1.glide n).fs (.obj A.a_Torus fs))) (d := .non) trivial (cs_bnd (fb _)) fin
      | some e =>
        have hev : (evAt n tg c1.x c1.y).1 = some e := by rw [he]
        have hmem : e ∈ inClass n.u ((c1.x - c1.y) % n.u) tg := by
          rcases evBest_mem n c1.x c1.y _ _ hev with h1 | h1
          · exact h1
          · cases h1
        obtain ⟨ex, ey, en, el⟩ := e
        walk_at "go"
        · rename_i hs
          refine ⟨fs, n, tg, c1.x, c1.y, s, rfl, td, ?_⟩
          cases el with
          | none =>
            have fin := q _ (hf _ (.door he hs rfl))
            walk_at "go"
            · rw [List.set_set, List.set_set, List.set_set, List.set_set, hS, List.set_set]
              exact Rt.set (o := .ins A.a_Course ((c1.atDoor n s en).fs (.obj A.a_Torus fs))) (d := .non) trivial (cs_bnd (fb _)) fin
            · rename_i hc
              exact absurd (show true = false from hc) (by decide)
          | some p =>
            walk_at "go"
            · rename_i hc
              exact absurd (show false = true from hc) (by decide)
            rw [List.set_set, List.set_set, List.set_set, List.set_set, hS, List.set_set]
            have hs1 : 1 ≤ s := by
              rcases evBest_val n c1.x c1.y _ _ he with ⟨h1, h2⟩ | h1
              · rw [h2]; exact hst _ (List.mem_filter.mp h1).1 _ _
              · cases h1
            have wl := walls_le td.ok (x := c1.x) (y := c1.y) hs1
            refine mark_join (fun ρ' S'' => ∃ (c2 : Cs) (st2 : Option (Int × Int)) (bf2 : Int × Int × Int) (u3 : Option D), (∀ c', Fol n tg c2 st2 bf2 c' → Fol n tg c1 st bf c') ∧ FolI c.steps c2 st2 bf2 ∧ c2.steps < c1.steps ∧
              ρ' = [some (.loc l), some (optPlace st2), some (tri bf2), u3] ∧ S'' = S.set l (.ins A.a_Course (c2.fs (.obj A.a_Torus fs)))) (fun N hN => ?_) ?_
            · cases st with
              | none =>
                walk_at "go"
                · refine hN _ _ ⟨c1.atMirror n s p, some p, ((c1.atMirror n s p).taken, (c1.atMirror n s p).walls, (c1.atMirror n s p).mirrors), _, fun c' h => .first he hs rfl h, ?_, ?_, rfl, rfl⟩
                  · refine ⟨?_, ?_, ?_, ?_, ?_, ?_, ?_, i8, fun _ => ⟨?_, ?_, ?_, ?_, ?_, ?_⟩⟩ <;> simp only [Cs.atMirror, Cs.hit] <;> omega
                  · show c1.steps - s < c1.steps
                    omega
              | some q0 =>
                obtain ⟨b1, b2, b3, b4, b5, b6⟩ := i9 (fun h => nomatch h)
                have inv3 : FolI c.steps (c1.atMirror n s p) (some q0) bf := by
                  refine ⟨?_, ?_, ?_, ?_, ?_, ?_, ?_, i8, fun _ => ⟨?_, ?_, ?_, ?_, ?_, ?_⟩⟩ <;> (try simp only [Cs.atMirror, Cs.hit]) <;> omega
                walk_at "go"
                · rename_i hc
                  exact absurd (show false = true from hc) (by decide)
                · rename_i hc
                  have hc2 := (pt_eqv p.1 p.2 q0.1 q0.2).symm.trans hc
                  have e : p = q0 := by
                    have := of_decide_eq_true hc2
                    exact Prod.ext this.1 this.2
                  subst e
                  have k1 : 0 < (c1.atMirror n s p).taken - bf.1 := by show 0 < c1.taken + s - bf.1; omega
                  have k2 : (c1.atMirror n s p).taken - bf.1 < 2 ^ 130 := by show c1.taken + s - bf.1 < 2 ^ 130; omega
                  obtain ⟨j1, j2, j3, j4, j5, j6, j7, j8, j9⟩ := id inv3
                  obtain ⟨q1, q2, q3, q4, q5, q6⟩ := j9 (fun h => nomatch h)
                  have d0 := Int.ediv_nonneg j1 (show 0 ≤ (c1.atMirror n s p).taken - bf.1 by omega)
                  have d1 := Int.ediv_le_self ((c1.atMirror n s p).taken - bf.1) j1
                  have em := Int.mul_ediv_add_emod (c1.steps - s) ((c1.atMirror n s p).taken - bf.1)
                  have em0 := Int.emod_nonneg (c1.steps - s) (show (c1.atMirror n s p).taken - bf.1 ≠ 0 by omega)
                  have em1 := Int.emod_lt_of_pos (c1.steps - s) k1
                  have em2 : 0 ≤ ((c1.atMirror n s p).taken - bf.1) * ((c1.steps - s) / ((c1.atMirror n s p).taken - bf.1)) := Int.mul_nonneg (by omega) d0
                  refine ⟨l, c1.atMirror n s p, .obj A.a_Torus fs, bf.1, bf.2.1, bf.2.2, rfl, List.getElem?_set_self hlt, fb _, ⟨k1, k2, ?_, ?_, ?_⟩, ?_⟩
                  · exact mulT ⟨by omega, by omega⟩ ⟨by omega, by omega⟩
                  · exact mulT ⟨by omega, by omega⟩ ⟨by omega, by omega⟩
                  · exact mulT ⟨by omega, by omega⟩ ⟨by omega, by omega⟩
                  · walk_at "go"
                    rw [List.set_set]
                    refine hN _ _ ⟨(c1.atMirror n s p).leave bf.1 bf.2.1 bf.2.2, some p, bf, _, fun c' h => .again he hs rfl h, inv3.leave k1, ?_, rfl, rfl⟩
                    show (c1.steps - s) % ((c1.atMirror n s p).taken - bf.1) < c1.steps
                    omega
                · rename_i hc
                  have hne : p ≠ q0 := by
                    rintro rfl
                    have := (pt_eqv p.1 p.2 p.1 p.2).symm.trans hc
                    simp at this
                  refine hN _ _ ⟨c1.atMirror n s p, some q0, bf, _, fun c' h => .other he hs rfl hne h, inv3, ?_, rfl, rfl⟩
                  show c1.steps - s < c1.steps
                  omega
            · rintro ρ' S'' ⟨c2, st2, bf2, u3, hf2, inv2, hlt2, rfl, rfl⟩
              have g0 : (S.set l (.ins A.a_Course (c2.fs (.obj A.a_Torus fs))))[l]? = some (.ins A.a_Course (c2.fs (.obj A.a_Torus fs))) := List.getElem?_set_self hlt
              walk_at "go"
              refine ⟨fs, n, tg, c2.x, c2.y, rfl, td, ?_⟩
              refine ⟨c2.steps.toNat, by have := inv2.s0; omega, c2, st2, bf2, fun c' h => hf _ (hf2 _ h), inv2, rfl, rfl, rfl⟩
        · rename_i hs
          have fin := q _ (hf _ (.stop (Or.inr (by rw [he]; exact hs))))
          refine ⟨fs, n, tg, c1.x, c1.y, c1.steps, rfl, td, ?_⟩
          walk_at "go"
          rw [List.set_set, List.set_set, hS, List.set_set]
          exact Rt.set (o := .ins A.a_Course ((c1.glide n).fs (.obj A.a_Torus fs))) (d := .non) trivial (cs_bnd (fb _)) fin
        · rename_i hc _
          exact absurd (show false = true from hc) (by decide)
end
end K

namespace K
open PySem L2 DL
local macro_rules | `(tactic| walk_at "w") => `(tactic| (conv => whnf))
local macro_rules | `(tactic| walk_at "at") => `(tactic| first | assumption | (refine SrcStep.get (l := ?l0) (n := ?n0) (S := ?s0) ?h1 ?h2 ?h3; (case h1 => assumption); (case h2 => omega); (case h3 => walk_at "at")) | (refine set_same (o := ?oo) ?sm; (case sm => walk_at "at")) | (refine set_other ?sm ?sn; (case sn => omega); (case sm => walk_at "at")) | (exact getElem_push _ _) | (refine app_left ?sm; (case sm => walk_at "at")) | rfl)
local macro_rules | `(tactic| walk_at "get") => `(tactic| (refine Exists.intro ?wit (And.intro ?gt ?_); (case gt => walk_at "at")))
local macro_rules | `(tactic| walk_at "bool") => `(tactic| (refine And.intro (fun hcond => ?_) (fun hcond => ?_) <;> (first | (exact absurd hcond (by decide)) | (simp only [decide_eq_true_eq, decide_eq_false_iff_not, Bool.not_eq_true', Bool.not_eq_false', Int.not_lt, Int.not_le, inD_nil, inD_int_cons, Bool.or_eq_true, Bool.or_eq_false_iff, Bool.or_false, ne_eq, Decidable.not_not] at hcond) | skip)))
local macro_rules | `(tactic| walk_at "len") => `(tactic| (refine line_le6 ?_; (try simp only [len_cat, len_e]); omega))
local macro_rules | `(tactic| walk_at "cond") => `(tactic| first | assumption | rfl | exact True.intro | omega | (exact Nat.le_of_ble_eq_true rfl) | (refine mulS ?cm1 ?cm2 <;> omega) | (refine divS ?cm1 <;> omega) | (refine And.intro ?cd1 ?cd2 <;> decide) | (exact line_le (Nat.le_of_ble_eq_true rfl)) | (exact line_lt (Nat.le_of_ble_eq_true rfl)) | (refine' Exists.intro _ (Exists.intro _ (And.intro rfl ?cm1)); (case cm1 => walk_at "at")) | (exact log_le (by omega)) | walk_at "len" | solve_by_elim | fail "no cond")
local macro_rules | `(tactic| walk_at "src") => `(tactic| first | assumption | (refine SrcStep.srcAt (S := ?ss) ?st; (case st => assumption)) | (refine SrcAt.app ?st; (case st => walk_at "src")))
local macro_rules | `(tactic| walk_at "draw") => `(tactic| (refine' Exists.intro _ (Exists.intro _ (Exists.intro ?nn (And.intro rfl (And.intro ?d1 (And.intro ?d2 (And.intro ?d3 (fun r S' h0 h1 hst => ?_))))))); (case d1 => walk_at "src"); (case d2 => omega); (case d3 => omega)))
local macro_rules | `(tactic| walk_at "steps") => `(tactic| first | assumption | (refine SrcStep.trans (n := ?sn) (S1 := ?sm) ?sx ?sy; (case sy => assumption); (case sx => walk_at "steps")) | (refine SrcAt.refl ?sz; assumption))
local macro_rules | `(tactic| walk_at "side") => `(tactic| (refine And.intro ?sd ?_; (case sd => walk_at "cond")))
local macro_rules | `(tactic| walk_at "go1") => `(tactic| (conv => whnf) <;> (first | walk_at "get" | walk_at "bool" | walk_at "draw" | walk_at "side" | fail "no step"))
local macro_rules | `(tactic| walk_at "go") => `(tactic| (repeat' (walk_at "go1")); (all_goals try (conv => whnf)))

def spCourse (A : Ads) : DSp := fun ds S Q E => ∃ (l : Nat) (fs : List (Str × D)) (w h : Int) (ts : List Th) (n : TNum) (x y k : Int), ds = [.loc l, .obj A.a_Torus fs, placeD x y, .int k] ∧ S[l]? = some (.ins A.a_Course []) ∧ TAll w h ts n fs ∧ (0 ≤ k ∧ k ≤ 100000000000000000000000000000000000) ∧
  ∀ c', Fol n (tgFrom (4 * w) (4 * h) 0 ts []) ⟨x, y, k, 0, 0, none, 0⟩ none (0, 0, 0) c' → Q .non (S.set l (.ins A.a_Course (c'.fs (.obj A.a_Torus fs))))
theorem n_Course___init__ {A : Ads} : ∀ ds S Q E, spCourse A ds S Q E → ds.length = 4 := by
  rintro ds S Q E ⟨l, fs, w, h, ts, n, x, y, k, rfl, _⟩
  rfl
section
variable {P : Program} {w : World} {K : PySem.W.Frag} {mg : Str → Option Value} {base : Heap} {A : Ads} {B : Fds}
theorem ok_Course___init__ (T : Txt w K mg A B) : FnOk P w K mg base CX0 5 A.a_Course___init__ B.a_Course___init__ ["self", "torus", "place", "steps"] (spOf K 4 (spCourse A)) := by
  refine dfn_ok T.F_Course___init__ sc_Course___init__ n_Course___init__ (fun cdv Ar outer s H E hr => (ds_cons (ds_fld (dv 0) (dv 1) T.cl_Course T.n_Course_torus)
      (ds_cons (ds_fld (dv 0) (dv 2) T.cl_Course T.n_Course_spot)
      (ds_cons (ds_fld (dv 0) (dv 3) T.cl_Course T.n_Course_steps)
      (ds_cons (ds_fld (dv 0) de_int T.cl_Course T.n_Course_walls)
      (ds_cons (ds_fld (dv 0) de_int T.cl_Course T.n_Course_mirrors)
      (ds_cons (ds_fld (dv 0) de_non T.cl_Course T.n_Course_door)
      (ds_cons (ds_fld (dv 0) de_int T.cl_Course T.n_Course_taken)
      (ds_one (ds_expr (de_meth0 (dv 0) T.cl_Course T.m_Course_follow (ok_Course_follow T) (hr.mono (by decide)) T.b_Course_follow .nil rpl_nil pass0 n_Course_follow))))))))))) ?_
  rintro ds S Q E bd ⟨l, fs, w, h, ts, n, x, y, k, rfl, hl, ta, ⟨k0, k1⟩, q⟩
  have hlt : l < S.length := (List.getElem?_eq_some_iff.mp hl).1
  walk_at "go"
  simp only [List.set_set]
  refine ⟨l, ⟨x, y, k, 0, 0, none, 0⟩, fs, n, _, rfl, List.getElem?_set_self hlt, ta.td, ta.tw, ta.fb, ⟨k0, k1⟩, ⟨rfl, rfl, rfl, rfl⟩, ta.mw.1, fun t _ x y => stepsTo_pos ta.g t x y, fun c' f => ?_⟩
  rw [List.set_set]
  exact Rt.set (o := .ins A.a_Course (c'.fs (.obj A.a_Torus fs))) (d := .non) trivial (cs_bnd (ta.fb _)) (q c' f)
end
end K

namespace K
open PySem L2 DL
local macro_rules | `(tactic| walk_at "w") => `(tactic| (conv => whnf))
local macro_rules | `(tactic| walk_at "at") => `(tactic| first | assumption | (refine SrcStep.get (l := ?l0) (n := ?n0) (S := ?s0) ?h1 ?h2 ?h3; (case h1 => assumption); (case h2 => omega); (case h3 => walk_at "at")) | (refine set_same (o := ?oo) ?sm; (case sm => walk_at "at")) | (refine set_other ?sm ?sn; (case sn => omega); (case sm => walk_at "at")) | (exact getElem_push _ _) | (refine app_left ?sm; (case sm => walk_at "at")) | rfl)
local macro_rules | `(tactic| walk_at "get") => `(tactic| (refine Exists.intro ?wit (And.intro ?gt ?_); (case gt => walk_at "at")))
local macro_rules | `(tactic| walk_at "bool") => `(tactic| (refine And.intro (fun hcond => ?_) (fun hcond => ?_) <;> (first | (exact absurd hcond (by decide)) | (simp only [decide_eq_true_eq, decide_eq_false_iff_not, Bool.not_eq_true', Bool.not_eq_false', Int.not_lt, Int.not_le, inD_nil, inD_int_cons, Bool.or_eq_true, Bool.or_eq_false_iff, Bool.or_false, ne_eq, Decidable.not_not] at hcond) | skip)))
local macro_rules | `(tactic| walk_at "len") => `(tactic| (refine line_le6 ?_; (try simp only [len_cat, len_e]); omega))
local macro_rules | `(tactic| walk_at "cond") => `(tactic| first | assumption | rfl | exact True.intro | omega | (exact Nat.le_of_ble_eq_true rfl) | (refine mulS ?cm1 ?cm2 <;> omega) | (refine divS ?cm1 <;> omega) | (refine And.intro ?cd1 ?cd2 <;> decide) | (exact line_le (Nat.le_of_ble_eq_true rfl)) | (exact line_lt (Nat.le_of_ble_eq_true rfl)) | (refine' Exists.intro _ (Exists.intro _ (And.intro rfl ?cm1)); (case cm1 => walk_at "at")) | (exact log_le (by omega)) | walk_at "len" | solve_by_elim | fail "no cond")
local macro_rules | `(tactic| walk_at "src") => `(tactic| first | assumption | (refine SrcStep.srcAt (S := ?ss) ?st; (case st => assumption)) | (refine SrcAt.app ?st; (case st => walk_at "src")))
local macro_rules | `(tactic| walk_at "draw") => `(tactic| (refine' Exists.intro _ (Exists.intro _ (Exists.intro ?nn (And.intro rfl (And.intro ?d1 (And.intro ?d2 (And.intro ?d3 (fun r S' h0 h1 hst => ?_))))))); (case d1 => walk_at "src"); (case d2 => omega); (case d3 => omega)))
local macro_rules | `(tactic| walk_at "steps") => `(tactic| first | assumption | (refine SrcStep.trans (n := ?sn) (S1 := ?sm) ?sx ?sy; (case sy => assumption); (case sx => walk_at "steps")) | (refine SrcAt.refl ?sz; assumption))
local macro_rules | `(tactic| walk_at "side") => `(tactic| (refine And.intro ?sd ?_; (case sd => walk_at "cond")))
local macro_rules | `(tactic| walk_at "go1") => `(tactic| (conv => whnf) <;> (first | walk_at "get" | walk_at "bool" | walk_at "draw" | walk_at "side" | fail "no step"))
local macro_rules | `(tactic| walk_at "go") => `(tactic| (repeat' (walk_at "go1")); (all_goals try (conv => whnf)))

theorem TAll.wd {w h : Int} {ts : List Th} {n : TNum} {fs : List (Str × D)} (ta : TAll w h ts n fs) (fo : FlOk w h ts) : Wd w h ts n (tgFrom (4 * w) (4 * h) 0 ts []) := ⟨fo.w1, fo.h1, fo.ok, ta.ea, ta.el, ta.g, rfl⟩
def spCame (A : Ads) : DSp := fun ds S Q E => ∃ (w h : Int) (ts : List Th) (sh : Str) (n : TNum) (fs : List (Str × D)) (x y dx dy k : Int), ds = [floorD A.a_Floor w h ts sh, .obj A.a_Torus fs, rayD x y dx dy, .int k] ∧ FlOk w h ts ∧ TAll w h ts n fs ∧ RayOk w h x y dx dy ∧ (1 ≤ k ∧ k ≤ 100000000000000000000000000000000000) ∧
  Q (optRay (cameF w h ts (x, y, dx, dy) k.toNat)) S
theorem n_came_from {A : Ads} : ∀ ds S Q E, spCame A ds S Q E → ds.length = 4 := by
  rintro ds S Q E ⟨w, h, ts, sh, n, fs, x, y, dx, dy, k, rfl, _⟩
  rfl
def spRun (A : Ads) : DSp := fun ds S Q E => ∃ (w h : Int) (ts : List Th) (sh : Str) (x y dx dy k : Int), ds = [floorD A.a_Floor w h ts sh, rayD x y dx dy, .int k] ∧ FlOk w h ts ∧ RayOk w h x y dx dy ∧ (-100000000000000000000000000000000000 ≤ k ∧ k ≤ 100000000000000000000000000000000000) ∧
  Q (optRay (runF w h ts (x, y, dx, dy) k)) S
theorem n_run {A : Ads} : ∀ ds S Q E, spRun A ds S Q E → ds.length = 3 := by
  rintro ds S Q E ⟨w, h, ts, sh, x, y, dx, dy, k, rfl, _⟩
  rfl
theorem toNat_pred (k : Int) : (k - 1).toNat = k.toNat - 1 := by omega
theorem set_push {α : Type} (S : List α) (a b : α) : (S ++ [a]).set S.length b = S ++ [b] := by
  rw [List.set_append_right _ _ (Nat.le_refl _), Nat.sub_self]; rfl
section
variable {P : Program} {w : World} {K : PySem.W.Frag} {mg : Str → Option Value} {base : Heap} {A : Ads} {B : Fds}
theorem ok_came_from (T : Txt w K mg A B) : FnOk P w K mg base CX0 8 A.a_came_from B.a_came_from ["floor", "torus", "back", "steps"] (spOf K 4 (spCame A)) := by
  refine dfn_ok T.F_came_from sc_came_from n_came_from (fun cdv Ar outer s H E hr => (ds_cons (ds_set (i := 4) sc_came_from.nd rfl (.inl rfl) (de_make T.mk_Course (ok_Course___init__ T) (hr.mono (by decide)) rfl T.g_Course T.b_Course___init__ .nil rpl_nil pass0 n_Course___init__ (da_cons (dv 1) (da_cons (de_meth (dv 1) T.cl_Torus T.m_Torus_place_of (ok_Torus_place_of T) (hr.mono (by decide)) T.b_Torus_place_of .nil rpl_nil pass0 n_Torus_place_of (da_cons (dv 2) da_nil)) (da_cons (dv 3) da_nil)))))
      (ds_cons (ds_if (dt_cmp od_isN (de_fld (dv 4) T.cl_Course T.n_Course_door) de_non (nomark _)) (ds_one (ds_ret (de_call (ok_reversed_ray T) (hr.mono (by decide)) rfl T.g_reversed_ray T.k_reversed_ray T.b_reversed_ray .nil rpl_nil pass0 n_reversed_ray (da_cons (dv 0) (da_cons (de_meth0 (dv 4) T.cl_Course T.m_Course_ray (ok_Course_ray T) (hr.mono (by decide)) T.b_Course_ray .nil rpl_nil pass0 n_Course_ray) da_nil))))) ds_nil)
      (ds_cons (ds_if (dt_cmp od_gt (de_fld (dv 4) T.cl_Course T.n_Course_steps) de_int (nomark _)) (ds_one (ds_ret de_non)) ds_nil)
      (ds_cons (ds_asg (de_ix ix_any (de_fld (dv 0) T.cl_Floor T.n_Floor_things) (de_fld (dv 4) T.cl_Course T.n_Course_door) (fun _ _ => rfl)) (dg_tup (n := 3) rfl (dgs_cons (dg_name (i := 5) sc_came_from.nd rfl (.inl rfl)) (dgs_cons (dg_name (i := 6) sc_came_from.nd rfl (.inl rfl)) (dgs_cons (dg_name (i := 7) sc_came_from.nd rfl (.inl rfl)) dgs_nil)))))
      (ds_cons (ds_set (i := 8) sc_came_from.nd rfl (.inl rfl) (de_meth0 (de_make T.mk_Course (ok_Course___init__ T) (hr.mono (by decide)) rfl T.g_Course T.b_Course___init__ .nil rpl_nil pass0 n_Course___init__ (da_cons (dv 1) (da_cons (de_meth (dv 1) T.cl_Torus T.m_Torus_place_of (ok_Torus_place_of T) (hr.mono (by decide)) T.b_Torus_place_of .nil rpl_nil pass0 n_Torus_place_of (da_cons (dv 2) da_nil)) (da_cons (de_op od_sub (dv 3) de_int) da_nil)))) T.cl_Course T.m_Course_ray (ok_Course_ray T) (hr.mono (by decide)) T.b_Course_ray .nil rpl_nil pass0 n_Course_ray))
      (ds_one (ds_ret (de_tup (da_cons (dv 5) (da_cons (dv 6) (da_cons (de_op od_sub de_int (de_ix ix_any (dv 8) de_int (fun _ _ => rfl))) (da_cons (de_op od_sub de_int (de_ix ix_any (dv 8) de_int (fun _ _ => rfl))) da_nil))))))))))))) ?_
  rintro ds S Q E bd ⟨w, h, ts, sh, n, fs, x, y, dx, dy, k, rfl, fo, ta, r, ⟨k0, k1⟩, q⟩
  have W := ta.wd fo
  have g4 := ta.tw.m4
  walk_at "go"
  refine ⟨_, n.a, n.l, x, y, dx, dy, rfl, Or.inl ⟨fs, rfl, ta.tw⟩, ray_pl r ⟨fo.w2, fo.h2⟩, ?_⟩
  walk_at "go"
  refine ⟨S.length, fs, w, h, ts, n, _, _, k, rfl, getElem_push _ _, ta, ⟨by omega, k1⟩, fun c f => ⟨rfl, ?_⟩⟩
  have fe : FolEnd w h ts k.toNat (x, y, dx, dy) c := fol_ray W (r := (x, y, dx, dy)) (k := k) r (by omega) rfl rfl rfl rfl f
  rw [set_push]
  obtain ⟨cx, cy, cs, cw, cm, cd, ct⟩ := c
  rcases fe with ⟨rfl, hp, hi⟩ | ⟨d, th, rfl, hth, hk, hs0, hi, hk1, hpos, hzero⟩
  · have ro : rOk w h (rayOf n.a n.l cx cy) := by rw [ta.ea, ta.el]; exact rayOf_ok fo.w1 fo.h1 hp
    have e : cameF w h ts (x, y, dx, dy) k.toNat = rvs w h ts (rayOf n.a n.l cx cy) := by
      rw [ta.ea, ta.el]
      unfold cameF
      rw [hi]
    rw [e] at q
    have g0 := getElem_push S (.ins A.a_Course ((⟨cx, cy, cs, cw, cm, none, ct⟩ : Cs).fs (.obj A.a_Torus fs)))
    walk_at "go"
    · refine ⟨S.length, ⟨cx, cy, cs, cw, cm, none, ct⟩, fs, n, _, rfl, g0, ta.td, ta.tw, ?_⟩
      walk_at "go"
      refine ⟨w, h, ts, sh, _, _, _, _, rfl, fo, ro, ?_⟩
      exact Rt.pure (optRay_bnd _ _) q
    all_goals
      rename_i hc hc2
      exact absurd (show true = false from hc) (by decide)
  · have g0 := getElem_push S (.ins A.a_Course ((⟨cx, cy, cs, cw, cm, some d, ct⟩ : Cs).fs (.obj A.a_Torus fs)))
    have e5 : atI (ts.map Th.d) ((d : Nat) : Int) = some th.d := atI_nat (by rw [List.getElem?_map, hth]; rfl)
    walk_at "go"
    · rename_i hc
      exact absurd (show false = true from hc) (by decide)
    · rename_i hc1 hc
      have e : cameF w h ts (x, y, dx, dy) k.toNat = none := by
        unfold cameF
        rw [hi, hpos hc]; rfl
      rw [e] at q
      exact Rt.pure (d := .non) trivial q
    · rename_i hc1 hc
      have hs0 : 0 ≤ cs := hs0
      obtain ⟨r1, hr1, ro, _, ex, ey⟩ := hzero (show cs = 0 by omega)
      have e : cameF w h ts (x, y, dx, dy) k.toNat = some (bk r1) := by
        unfold cameF
        rw [hi, hr1]; rfl
      rw [e] at q
      have ek := toNat_pred k
      have hkk : 0 ≤ k - 1 ∧ k - 1 ≤ 100000000000000000000000000000000000 := ⟨by omega, by omega⟩
      refine ⟨_, n.a, n.l, x, y, dx, dy, rfl, Or.inl ⟨fs, rfl, ta.tw⟩, ray_pl r ⟨fo.w2, fo.h2⟩, ?_⟩
      walk_at "go"
      refine ⟨_, fs, w, h, ts, n, _, _, k - 1, rfl, getElem_push _ _, ta, hkk, fun c f2 => ⟨rfl, ?_⟩⟩
      have fe : FolEnd w h ts (k - 1).toNat (x, y, dx, dy) c := fol_ray W (r := (x, y, dx, dy)) (k := k - 1) r hkk.1 rfl rfl rfl rfl f2
      rw [set_push]
      have g1 := getElem_push (S ++ [Ob.ins A.a_Course ((⟨cx, cy, cs, cw, cm, some d, ct⟩ : Cs).fs (.obj A.a_Torus fs))]) (.ins A.a_Course (c.fs (.obj A.a_Torus fs)))
      rw [ek] at fe
      walk_at "go"
      refine ⟨_, c, fs, n, _, rfl, g1, ta.td, ta.tw, ?_⟩
      rcases fe with ⟨h1, hp, hi⟩ | ⟨d2, th2, h1, hth2, hk2, hs2, hi, _⟩
      · rw [hr1] at hi
        injection hi with hi
        rw [h1, ta.ea, ta.el]
        have q2 : Q (.tup [.int th.x, .int th.y, .int (0 - fD (4 * w) c.x), .int (0 - fD (4 * h) c.y)]) S := by
          rw [ex, ey]
          rw [hi] at q ⊢
          exact q
        walk_at "go"
        rw [List.append_assoc]
        exact Rt.pure (d := .tup [.int _, .int _, .int _, .int _]) ⟨trivial, trivial, trivial, trivial, trivial⟩ q2
      · rw [hr1] at hi
        cases hi
theorem ok_run (T : Txt w K mg A B) : FnOk P w K mg base CX0 9 A.a_run B.a_run ["floor", "ray", "steps"] (spOf K 3 (spRun A)) := by
  refine dfn_ok T.F_run sc_run n_run (fun cdv Ar outer s H E hr => (ds_cons (ds_expr (de_call (ok_check_ray T) (hr.mono (by decide)) rfl T.g_check_ray T.k_check_ray T.b_check_ray .nil rpl_nil pass0 n_check_ray (da_cons (dv 0) (da_cons (dv 1) da_nil))))
      (ds_cons (ds_set (i := 3) sc_run.nd rfl (.inl rfl) (de_call (ok_torus_of T) (hr.mono (by decide)) rfl T.g_torus_of T.k_torus_of T.b_torus_of .nil rpl_nil pass0 n_torus_of (da_cons (dv 0) da_nil)))
      (ds_cons (ds_if (dt_cmp od_ge (dv 2) de_int (nomark _)) (ds_one (ds_ret (de_meth0 (de_make T.mk_Course (ok_Course___init__ T) (hr.mono (by decide)) rfl T.g_Course T.b_Course___init__ .nil rpl_nil pass0 n_Course___init__ (da_cons (dv 3) (da_cons (de_meth (dv 3) T.cl_Torus T.m_Torus_place_of (ok_Torus_place_of T) (hr.mono (by decide)) T.b_Torus_place_of .nil rpl_nil pass0 n_Torus_place_of (da_cons (dv 1) da_nil)) (da_cons (dv 2) da_nil)))) T.cl_Course T.m_Course_ray (ok_Course_ray T) (hr.mono (by decide)) T.b_Course_ray .nil rpl_nil pass0 n_Course_ray))) ds_nil)
      (ds_cons (ds_set (i := 4) sc_run.nd rfl (.inl rfl) (de_call (ok_reversed_ray T) (hr.mono (by decide)) rfl T.g_reversed_ray T.k_reversed_ray T.b_reversed_ray .nil rpl_nil pass0 n_reversed_ray (da_cons (dv 0) (da_cons (dv 1) da_nil))))
      (ds_cons (ds_if (dt_cmp od_isN (dv 4) de_non (nomark _)) (ds_one (ds_ret de_non)) ds_nil)
      (ds_one (ds_ret (de_call (ok_came_from T) (hr.mono (by decide)) rfl T.g_came_from T.k_came_from T.b_came_from .nil rpl_nil pass0 n_came_from (da_cons (dv 0) (da_cons (dv 3) (da_cons (dv 4) (da_cons (de_op od_sub de_int (dv 2)) da_nil))))))))))))) ?_
  rintro ds S Q E bd ⟨w, h, ts, sh, x, y, dx, dy, k, rfl, fo, r, ⟨k0, k1⟩, q⟩
  walk_at "go"
  refine ⟨w, h, ts, sh, x, y, dx, dy, rfl, fo, r, ?_⟩
  walk_at "go"
  refine ⟨w, h, ts, sh, rfl, fo, fun fs n ta => ?_⟩
  have W := ta.wd fo
  have g4 := ta.tw.m4
  walk_at "go"
  · refine ⟨_, n.a, n.l, x, y, dx, dy, rfl, Or.inl ⟨fs, rfl, ta.tw⟩, ray_pl r ⟨fo.w2, fo.h2⟩, ?_⟩
    walk_at "go"
    rename_i hk
    refine ⟨S.length, fs, w, h, ts, n, _, _, k, rfl, getElem_push _ _, ta, ⟨hk, k1⟩, fun c f => ⟨rfl, ?_⟩⟩
    have fe : FolEnd w h ts k.toNat (x, y, dx, dy) c := fol_ray W (r := (x, y, dx, dy)) (k := k) r hk rfl rfl rfl rfl f
    rw [set_push]
    have g0 := getElem_push S (.ins A.a_Course (c.fs (.obj A.a_Torus fs)))
    rw [run_pos hk] at q
    walk_at "go"
    refine ⟨S.length, c, fs, n, _, rfl, g0, ta.td, ta.tw, ?_⟩
    rcases fe with ⟨h1, hp, hi⟩ | ⟨d, th, h1, hth, hk, hs0, hi, _⟩
    · rw [hi] at q
      rw [h1, ta.ea, ta.el]
      exact Rt.pure (d := atR _ _ _ _) (atR_bnd _ _ _ _ _) q
    · rw [hi] at q
      rw [h1]
      exact Rt.pure (d := .non) trivial q
  · refine ⟨w, h, ts, sh, x, y, dx, dy, rfl, fo, r, ?_⟩
    rename_i hk
    have e : runF w h ts (x, y, dx, dy) k = match revR w h ts x y dx dy with | none => none | some b => cameF w h ts b (0 - k).toNat := by
      unfold runF
      rw [if_neg (by omega)]
      rfl
    rw [e] at q
    cases er : revR w h ts x y dx dy with
    | none =>
      rw [er] at q
      walk_at "go"
      exact Rt.same (d := .non) trivial q
    | some b =>
      rw [er] at q
      obtain ⟨b1, b2, b3, b4⟩ := b
      have ro := (rvs_rvs fo.w1 fo.h1 (r := (x, y, dx, dy)) r er).1
      walk_at "go"
      · rename_i hc
        exact absurd (show false = true from hc) (by decide)
      · refine ⟨w, h, ts, sh, n, fs, b1, b2, b3, b4, 0 - k, rfl, fo, ta, ro, ⟨by omega, by omega⟩, ?_⟩
        exact Rt.same (optRay_bnd _ _) q
end
end K

namespace K
open PySem L2 DL
local macro_rules | `(tactic| walk_at "w") => `(tactic| (conv => whnf))
local macro_rules | `(tactic| walk_at "at") => `(tactic| first | assumption | (refine SrcStep.get (l := ?l0) (n := ?n0) (S := ?s0) ?h1 ?h2 ?h3; (case h1 => assumption); (case h2 => omega); (case h3 => walk_at "at")) | (refine set_same (o := ?oo) ?sm; (case sm => walk_at "at")) | (refine set_other ?sm ?sn; (case sn => omega); (case sm => walk_at "at")) | (exact getElem_push _ _) | (refine app_left ?sm; (case sm => walk_at "at")) | rfl)
local macro_rules | `(tactic| walk_at "get") => `(tactic| (refine Exists.intro ?wit (And.intro ?gt ?_); (case gt => walk_at "at")))
local macro_rules | `(tactic| walk_at "bool") => `(tactic| (refine And.intro (fun hcond => ?_) (fun hcond => ?_) <;> (first | (exact absurd hcond (by decide)) | (simp only [decide_eq_true_eq, decide_eq_false_iff_not, Bool.not_eq_true', Bool.not_eq_false', Int.not_lt, Int.not_le, inD_nil, inD_int_cons, Bool.or_eq_true, Bool.or_eq_false_iff, Bool.or_false, ne_eq, Decidable.not_not] at hcond) | skip)))
local macro_rules | `(tactic| walk_at "len") => `(tactic| (refine line_le6 ?_; (try simp only [len_cat, len_e]); omega))
local macro_rules | `(tactic| walk_at "cond") => `(tactic| first | assumption | rfl | exact True.intro | omega | (exact Nat.le_of_ble_eq_true rfl) | (refine mulS ?cm1 ?cm2 <;> omega) | (refine divS ?cm1 <;> omega) | (refine And.intro ?cd1 ?cd2 <;> decide) | (exact line_le (Nat.le_of_ble_eq_true rfl)) | (exact line_lt (Nat.le_of_ble_eq_true rfl)) | (refine' Exists.intro _ (Exists.intro _ (And.intro rfl ?cm1)); (case cm1 => walk_at "at")) | (exact log_le (by omega)) | walk_at "len" | solve_by_elim | fail "no cond")
local macro_rules | `(tactic| walk_at "src") => `(tactic| first | assumption | (refine SrcStep.srcAt (S := ?ss) ?st; (case st => assumption)) | (refine SrcAt.app ?st; (case st => walk_at "src")))
local macro_rules | `(tactic| walk_at "draw") => `(tactic| (refine' Exists.intro _ (Exists.intro _ (Exists.intro ?nn (And.intro rfl (And.intro ?d1 (And.intro ?d2 (And.intro ?d3 (fun r S' h0 h1 hst => ?_))))))); (case d1 => walk_at "src"); (case d2 => omega); (case d3 => omega)))
local macro_rules | `(tactic| walk_at "steps") => `(tactic| first | assumption | (refine SrcStep.trans (n := ?sn) (S1 := ?sm) ?sx ?sy; (case sy => assumption); (case sx => walk_at "steps")) | (refine SrcAt.refl ?sz; assumption))
local macro_rules | `(tactic| walk_at "side") => `(tactic| (refine And.intro ?sd ?_; (case sd => walk_at "cond")))
local macro_rules | `(tactic| walk_at "go1") => `(tactic| (conv => whnf) <;> (first | walk_at "get" | walk_at "bool" | walk_at "draw" | walk_at "side" | fail "no step"))
local macro_rules | `(tactic| walk_at "go") => `(tactic| (repeat' (walk_at "go1")); (all_goals try (conv => whnf)))

/-- the loop of exit_of, under way -/
structure ExI (w h : Int) (ts : List Th) (tg : List Tg) (circ : Int) (r : Ray) (p0 : Int × Int) (px py T : Int) (ps : List (Int × Int)) : Prop where
  t0 : 0 ≤ T
  par : (px + py) % 2 = 1
  here : iterR w h ts T.toNat r = some (rayOf (4 * w) (4 * h) px py)
  seen : ∀ q ∈ ps, ∃ t : Nat, (t : Int) < T ∧ iterR w h ts t r = some (rayOf (4 * w) (4 * h) q.1 q.2)
  nd : ps.Nodup
  sub : ps ⊆ p0 :: tg.filterMap Tg.left
  subp : (px, py) ∈ p0 :: tg.filterMap Tg.left
  tle : T ≤ ps.length * circ
section
variable {w h : Int} {ts : List Th} {n : TNum} {tg : List Tg} (W : Wd w h ts n tg) {r : Ray} {p0 : Int × Int} {px py T : Int} {ps : List (Int × Int)} (I : ExI w h ts tg n.circ r p0 px py T ps)
include W I
theorem ExI.len : ps.length ≤ tg.length + 1 := by
  have h1 := List.Nodup.length_le_of_subset I.nd I.sub
  have h2 := List.length_filterMap_le Tg.left tg
  rw [List.length_cons] at h1
  omega
theorem ExI.lap (hin : (px, py) ∈ ps) : ExitF w h ts r none := by
  obtain ⟨t, h1, h2⟩ := I.seen _ hin
  have h3 := I.here
  rw [show T.toNat = t + (T.toNat - t) by omega, iter_add, h2] at h3
  exact lap_exit (by omega) h2 h3
theorem ExI.free (he : (evAt n tg px py).1 = none) : ExitF w h ts r none := by
  intro k e
  have h2 : iterR w h ts (T.toNat + k) r = some (rayOf (4 * w) (4 * h) (px + k) (py + k)) := by rw [iter_add, I.here]; exact ev_none W I.par he k
  rw [iter_none e (by omega)] at h2
  cases h2
theorem ExI.door {t : Tg} {s : Int} (he : evAt n tg px py = (some t, s)) (hl : t.left = none) : ExitF w h ts r (some (T + s)) := by
  obtain ⟨ht, h1, hfree, hit, _⟩ := ev_iter W I.par he
  have t0 := I.t0
  rw [hl] at hit
  refine ⟨by omega, ?_, ?_⟩
  · rw [show (T + s).toNat = T.toNat + s.toNat by omega, iter_add, I.here]
    exact hit
  · rw [show (T + s - 1).toNat = T.toNat + (s.toNat - 1) by omega, iter_add, I.here]
    show iterR w h ts (s.toNat - 1) _ ≠ none
    rw [hfree _ (by omega)]
    exact fun h => nomatch h
theorem ExI.next {t : Tg} {s : Int} {p : Int × Int} (hn : (px, py) ∉ ps) (hs : s ≤ n.circ) (he : evAt n tg px py = (some t, s)) (hl : t.left = some p) : ExI w h ts tg n.circ r p0 p.1 p.2 (T + s) (ps ++ [(px, py)]) := by
  obtain ⟨ht, h1, hfree, hit, hpar, _⟩ := ev_iter W I.par he
  have t0 := I.t0
  rw [hl] at hit
  refine ⟨by omega, hpar p hl, ?_, ?_, ?_, ?_, ?_, ?_⟩
  · rw [show (T + s).toNat = T.toNat + s.toNat by omega, iter_add, I.here]
    exact hit
  · intro q hq
    rcases List.mem_append.mp hq with hq | hq
    · obtain ⟨t, k1, k2⟩ := I.seen q hq
      exact ⟨t, by omega, k2⟩
    · rw [List.mem_singleton] at hq
      subst hq
      exact ⟨T.toNat, by omega, I.here⟩
  · refine List.nodup_append.mpr ⟨I.nd, by simp, fun a ha b hb e => ?_⟩
    rw [List.mem_singleton] at hb
    subst hb; subst e
    exact hn ha
  · intro q hq
    rcases List.mem_append.mp hq with hq | hq
    · exact I.sub hq
    · rw [List.mem_singleton] at hq
      rw [hq]; exact I.subp
  · exact List.mem_cons_of_mem _ (List.mem_filterMap.mpr ⟨t, ht, hl⟩)
  · have := I.tle
    rw [List.length_append, List.length_cons, List.length_nil, show ((ps.length + (0 + 1) : Nat) : Int) = (ps.length : Int) + 1 by omega, Int.add_mul, Int.one_mul]
    omega
end
theorem ev_le {n : TNum} (g : TGood n) {tg : List Tg} {X Y : Int} {t : Tg} {s : Int} (he : evAt n tg X Y = (some t, s)) : s ≤ n.circ := by
  rcases evBest_val n X Y _ _ he with ⟨h1, h2⟩ | h1
  · have hc := (mem_class.mp h1).2
    rw [h2]
    exact (stepsTo_spec g (Int.dvd_of_emod_eq_zero (Int.emod_eq_emod_iff_emod_sub_eq_zero.mp hc))).2.1
  · cases h1
def seenD (ps : List (Int × Int)) : List (List Key × D) := ps.map fun p => ([.inl p.1, .inl p.2], .bl true)
theorem seen_val (x y : Int) : ∀ ps : List (Int × Int), (valD (seenD ps) [Sum.inl x, Sum.inl y]).isSome = decide ((x, y) ∈ ps)
  | [] => rfl
  | p :: r => by
    have ih := seen_val x y r
    by_cases h : p = (x, y)
    · subst h
      simp [seenD, valD, List.find?_cons]
    · have h2 : ¬ ([Sum.inl p.1, Sum.inl p.2] : List Key) = [Sum.inl x, Sum.inl y] := fun e => h (by
        injection e with e1 e2
        injection e2 with e2 e3
        injection e1 with e1
        injection e2 with e2
        exact Prod.ext e1 e2)
      have h3 : (x, y) ≠ p := fun e => h e.symm
      have e1 : valD (seenD (p :: r)) [Sum.inl x, Sum.inl y] = valD (seenD r) [Sum.inl x, Sum.inl y] := by
        simp only [seenD, valD, List.map_cons, List.find?_cons, decide_eq_false h2]
      rw [e1, ih]
      apply decide_eq_decide.mpr
      rw [List.mem_cons]
      exact ⟨Or.inr, fun hh => hh.resolve_left h3⟩
theorem seen_sto {x y : Int} {ps : List (Int × Int)} (h : (x, y) ∉ ps) : stoD (seenD ps) [Sum.inl x, Sum.inl y] (.bl true) = seenD (ps ++ [(x, y)]) := by
  have h1 : ((seenD ps).any fun kv => decide (kv.1 = [Sum.inl x, Sum.inl y])) = false := by
    exact (valD_any _ _).symm.trans ((seen_val x y ps).trans (decide_eq_false h))
  unfold stoD
  rw [h1, if_neg (by decide)]
  unfold seenD
  rw [List.map_append]; rfl
theorem seen_bnd (n : Nat) : ∀ ps, bndT n (seenD ps)
  | [] => trivial
  | p :: r => ⟨trivial, seen_bnd n r⟩
theorem circ_le {n : TNum} (ok : n.Ok) (g : TGood n) : n.circ ≤ 16000000000000000000000000000000 := by
  rw [g.hc]
  have h1 : n.a * n.rest ≤ 4000000000000000 * n.rest := Int.mul_le_mul_of_nonneg_right ok.a2 (by have := ok.r1; omega)
  have := ok.r2
  omega
def optPair : Option (Int × Nat) → D
  | none => .non
  | some (t, d) => .tup [.int t, .int (d : Nat)]
def spExit (A : Ads) : DSp := fun ds S Q E => ∃ (w h : Int) (ts : List Th) (sh : Str) (x y dx dy : Int), ds = [floorD A.a_Floor w h ts sh, rayD x y dx dy] ∧ FlOk w h ts ∧ RayOk w h x y dx dy ∧
  ∀ o : Option (Int × Nat), ExitF w h ts (x, y, dx, dy) (o.map (·.1)) → (∀ p, o = some p → p.1 ≤ 100000000000000000000000000000000000) → Q (optPair o) S
theorem n_exit_of {A : Ads} : ∀ ds S Q E, spExit A ds S Q E → ds.length = 2 := by
  rintro ds S Q E ⟨w, h, ts, sh, x, y, dx, dy, rfl, _⟩
  rfl
section
variable {P : Program} {w : World} {K : PySem.W.Frag} {mg : Str → Option Value} {base : Heap} {A : Ads} {B : Fds}
theorem ok_exit_of (T : Txt w K mg A B) : FnOk P w K mg base CX0 7 A.a_exit_of B.a_exit_of ["floor", "ray"] (spOf K 2 (spExit A)) := by
  refine dfn_ok T.F_exit_of sc_exit_of n_exit_of (fun cdv Ar outer s H E hr => (ds_cons (ds_expr (de_call (ok_check_ray T) (hr.mono (by decide)) rfl T.g_check_ray T.k_check_ray T.b_check_ray .nil rpl_nil pass0 n_check_ray (da_cons (dv 0) (da_cons (dv 1) da_nil))))
      (ds_cons (ds_set (i := 2) sc_exit_of.nd rfl (.inl rfl) (de_call (ok_torus_of T) (hr.mono (by decide)) rfl T.g_torus_of T.k_torus_of T.b_torus_of .nil rpl_nil pass0 n_torus_of (da_cons (dv 0) da_nil)))
      (ds_cons (ds_set (i := 3) sc_exit_of.nd rfl (.inl rfl) (de_meth (dv 2) T.cl_Torus T.m_Torus_place_of (ok_Torus_place_of T) (hr.mono (by decide)) T.b_Torus_place_of .nil rpl_nil pass0 n_Torus_place_of (da_cons (dv 1) da_nil)))
      (ds_cons (ds_set (i := 4) sc_exit_of.nd rfl (.inl rfl) de_int)
      (ds_cons (ds_set (i := 5) sc_exit_of.nd rfl (.inl rfl) de_newT)
      (ds_cons (ds_while PassesOwn.never (dt_cmp (od_dNotIn (hu65 hr)) (dv 3) (dv 5) (by rfl)) (ds_cons (ds_asg de_bl (dg_put (hu65 hr) (dv 5) (dv 3)))
      (ds_cons (ds_set (i := 6) sc_exit_of.nd rfl (.inl rfl) (de_meth (dv 2) T.cl_Torus T.m_Torus_event (ok_Torus_event T) (hr.mono (by decide)) T.b_Torus_event .nil rpl_nil pass0 n_Torus_event (da_cons (dv 3) da_nil)))
      (ds_cons (ds_if (dt_cmp od_isN (dv 6) de_non (nomark _)) (ds_one (ds_ret de_non)) ds_nil)
      (ds_cons (ds_augAdd (i := 4) sc_exit_of.nd rfl (.inl rfl) (de_fld (dv 6) T.cl_Event T.n_Event_steps))
      (ds_cons (ds_if (dt_cmp od_isN (de_fld (dv 6) T.cl_Event T.n_Event_left) de_non (nomark _)) (ds_one (ds_ret (de_tup (da_cons (dv 4) (da_cons (de_fld (dv 6) T.cl_Event T.n_Event_number) da_nil))))) ds_nil)
      (ds_one (ds_set (i := 3) sc_exit_of.nd rfl (.inl rfl) (de_fld (dv 6) T.cl_Event T.n_Event_left)))))))))
      (ds_one (ds_ret de_non))))))))) ?_
  rintro ds S Q E bd ⟨w, h, ts, sh, x, y, dx, dy, rfl, fo, r, q⟩
  walk_at "go"
  refine ⟨w, h, ts, sh, x, y, dx, dy, rfl, fo, r, ?_⟩
  walk_at "go"
  refine ⟨w, h, ts, sh, rfl, fo, fun fs n ta => ?_⟩
  have W := ta.wd fo
  have g4 := ta.tw.m4
  have g5 := ta.td.m1
  walk_at "go"
  refine ⟨_, n.a, n.l, x, y, dx, dy, rfl, Or.inl ⟨fs, rfl, ta.tw⟩, ray_pl r ⟨fo.w2, fo.h2⟩, ?_⟩
  walk_at "go"
  refine ⟨fun m ρ S' => ∃ (px py T : Int) (ps : List (Int × Int)) (u6 : Option D), ρ = [some (floorD A.a_Floor w h ts sh), some (rayD x y dx dy), some (.obj A.a_Torus fs), some (placeD px py), some (.int T), some (.loc S.length), u6] ∧ S' = S ++ [.dt (seenD ps)] ∧
    ExI w h ts (tgFrom (4 * w) (4 * h) 0 ts []) n.circ (x, y, dx, dy) (x * dx % n.a, y * dy % n.l) px py T ps ∧ m = (tgFrom (4 * w) (4 * h) 0 ts []).length + 2 - ps.length, ⟨_, _, _, 0, [], none, rfl, rfl, ?_, rfl⟩, ?_⟩
  · refine ⟨Int.le_refl _, ?_, ?_, (fun _ h => nomatch h), .nil, (fun _ h => nomatch h), List.mem_cons_self, ?_⟩
    · have p1 := em_par W w (x * dx)
      have p2 := em_par W h (y * dy)
      rw [ta.ea, ta.el]
      obtain ⟨a1, a2, a3, a4, a5, hdx, hdy, _⟩ := r
      have q1 : (x * dx - x) % 2 = 0 := by rcases hdx with h1 | h1 <;> rw [h1] <;> omega
      have q2 : (y * dy - y) % 2 = 0 := by rcases hdy with h1 | h1 <;> rw [h1] <;> omega
      omega
    · show some _ = some _
      rw [ta.ea, ta.el, rayOf_mod]
      exact congrArg some (rayOf_of W.hw W.hh (r := (x, y, dx, dy)) r).symm
    · show (0 : Int) ≤ ((0 : Nat) : Int) * n.circ
      rw [Int.natCast_zero, Int.zero_mul]; exact Int.le_refl _
  · rintro m ρ S' ⟨px, py, T, ps, u6, rfl, rfl, I, rfl⟩
    have g0 := getElem_push S (.dt (seenD ps))
    have hlen := I.len W
    have htl := ta.td.len
    have hz : (seenD ps).length < sizeLine := line_lt (by unfold seenD; rw [List.length_map]; omega)
    have hcirc := circ_le ta.td.ok ta.g
    have t0 := I.t0
    have tle := I.tle
    have hpc : (ps.length : Int) * n.circ ≤ (ps.length : Int) * 16000000000000000000000000000000 := Int.mul_le_mul_of_nonneg_left hcirc (by omega)
    walk_at "go"
    · rename_i hc
      rw [seen_val] at hc
      have hni : (px, py) ∉ ps := of_decide_eq_false hc
      rw [seen_sto hni, set_push]
      refine ⟨fs, n, tgFrom (4 * w) (4 * h) 0 ts [], px, py, rfl, ta.td, ?_⟩
      show gdName _ (eventD A.a_Event (evAt n (tgFrom (4 * w) (4 * h) 0 ts []) px py)) _ _ _
      cases he : evAt n (tgFrom (4 * w) (4 * h) 0 ts []) px py with
      | mk e s =>
        cases e with
        | none =>
          have q2 := q none (I.free W (by rw [he])) (fun _ h => nomatch h)
          walk_at "go"
          · exact Rt.pure (d := .non) trivial q2
          · rename_i hc
            exact absurd (show true = false from hc) (by decide)
        | some e =>
          have hs := ev_le ta.g he
          obtain ⟨ex, ey, en, el⟩ := e
          cases el with
          | none =>
            have q2 := q (some (T + s, en)) (I.door W he rfl) (fun p hp => by injection hp with hp; subst hp; show T + s ≤ _; omega)
            walk_at "go"
            · rename_i hc
              exact absurd (show false = true from hc) (by decide)
            · exact Rt.pure (d := .tup [.int _, .int _]) ⟨trivial, trivial, trivial⟩ q2
            · rename_i hc
              exact absurd (show true = false from hc) (by decide)
          | some p =>
            have hI := I.next W hni hs he rfl
            walk_at "go"
            · rename_i hc
              exact absurd (show false = true from hc) (by decide)
            · rename_i hc
              exact absurd (show false = true from hc) (by decide)
            · refine ⟨_, ?_, p.1, p.2, T + s, ps ++ [(px, py)], _, rfl, rfl, hI, rfl⟩
              rw [List.length_append, List.length_cons, List.length_nil]
              omega
    · rename_i hc
      rw [seen_val] at hc
      have q2 := q none (I.lap W (of_decide_eq_true hc)) (fun _ h => nomatch h)
      exact Rt.pure (d := .non) trivial q2
end
end K

namespace K
open PySem L2 DL
local macro_rules | `(tactic| walk_at "w") => `(tactic| (conv => whnf))
local macro_rules | `(tactic| walk_at "at") => `(tactic| first | assumption | (refine SrcStep.get (l := ?l0) (n := ?n0) (S := ?s0) ?h1 ?h2 ?h3; (case h1 => assumption); (case h2 => omega); (case h3 => walk_at "at")) | (refine set_same (o := ?oo) ?sm; (case sm => walk_at "at")) | (refine set_other ?sm ?sn; (case sn => omega); (case sm => walk_at "at")) | (exact getElem_push _ _) | (refine app_left ?sm; (case sm => walk_at "at")) | rfl)
local macro_rules | `(tactic| walk_at "get") => `(tactic| (refine Exists.intro ?wit (And.intro ?gt ?_); (case gt => walk_at "at")))
local macro_rules | `(tactic| walk_at "bool") => `(tactic| (refine And.intro (fun hcond => ?_) (fun hcond => ?_) <;> (first | (exact absurd hcond (by decide)) | (simp only [decide_eq_true_eq, decide_eq_false_iff_not, Bool.not_eq_true', Bool.not_eq_false', Int.not_lt, Int.not_le, inD_nil, inD_int_cons, Bool.or_eq_true, Bool.or_eq_false_iff, Bool.or_false, ne_eq, Decidable.not_not] at hcond) | skip)))
local macro_rules | `(tactic| walk_at "len") => `(tactic| (refine line_le6 ?_; (try simp only [len_cat, len_e]); omega))
local macro_rules | `(tactic| walk_at "cond") => `(tactic| first | assumption | rfl | exact True.intro | omega | (exact Nat.le_of_ble_eq_true rfl) | (refine mulS ?cm1 ?cm2 <;> omega) | (refine divS ?cm1 <;> omega) | (refine And.intro ?cd1 ?cd2 <;> decide) | (exact line_le (Nat.le_of_ble_eq_true rfl)) | (exact line_lt (Nat.le_of_ble_eq_true rfl)) | (refine' Exists.intro _ (Exists.intro _ (And.intro rfl ?cm1)); (case cm1 => walk_at "at")) | (exact log_le (by omega)) | walk_at "len" | solve_by_elim | fail "no cond")
local macro_rules | `(tactic| walk_at "src") => `(tactic| first | assumption | (refine SrcStep.srcAt (S := ?ss) ?st; (case st => assumption)) | (refine SrcAt.app ?st; (case st => walk_at "src")))
local macro_rules | `(tactic| walk_at "draw") => `(tactic| (refine' Exists.intro _ (Exists.intro _ (Exists.intro ?nn (And.intro rfl (And.intro ?d1 (And.intro ?d2 (And.intro ?d3 (fun r S' h0 h1 hst => ?_))))))); (case d1 => walk_at "src"); (case d2 => omega); (case d3 => omega)))
local macro_rules | `(tactic| walk_at "steps") => `(tactic| first | assumption | (refine SrcStep.trans (n := ?sn) (S1 := ?sm) ?sx ?sy; (case sy => assumption); (case sx => walk_at "steps")) | (refine SrcAt.refl ?sz; assumption))
local macro_rules | `(tactic| walk_at "side") => `(tactic| (refine And.intro ?sd ?_; (case sd => walk_at "cond")))
local macro_rules | `(tactic| walk_at "go1") => `(tactic| (conv => whnf) <;> (first | walk_at "get" | walk_at "bool" | walk_at "draw" | walk_at "side" | fail "no step"))
local macro_rules | `(tactic| walk_at "go") => `(tactic| (repeat' (walk_at "go1")); (all_goals try (conv => whnf)))

def optI : Option Int → D
  | none => .non
  | some c => .int c
theorem optI_bnd (n : Nat) : ∀ o, bnd n (optI o)
  | none => trivial
  | some _ => trivial
def spTick : DSp := fun ds S Q E => ∃ (f p s q : Int), ds = [.int f, .int p, .int s, .int q] ∧ (0 ≤ f ∧ f < p ∧ 0 ≤ s ∧ s < q) ∧ (p ≤ 10000000000000000 ∧ q ≤ 10000000000000000) ∧
  ∀ res, Best (fun t => p ∣ t - f ∧ q ∣ t - s) res → (∀ c, res = some c → c ≤ 100000000000000000000000000000000) → Q (optI res) S
theorem n_common_tick : ∀ ds S Q E, spTick ds S Q E → ds.length = 4 := by
  rintro ds S Q E ⟨f, p, s, q, rfl, _⟩
  rfl
def spHalf : DSp := fun ds S Q E => ∃ (P R a : Int), ds = [.int P, .int R, .int a] ∧ (4 ≤ a ∧ a ≤ 4000000000000000) ∧ Q (optI (halfF P R a)) S
theorem n_half_turn : ∀ ds S Q E, spHalf ds S Q E → ds.length = 3 := by
  rintro ds S Q E ⟨P, R, a, rfl, _⟩
  rfl
theorem gcd_pos {g a b : Int} (hg : IsGcd g a b) (ha : 0 < a) : 0 < g := by
  rcases Int.lt_or_le 0 g with h0 | h0
  · exact h0
  · have e : g = 0 := Int.le_antisymm h0 hg.1
    subst e
    have := ((hg.2 0).mp (Int.dvd_refl 0)).1
    have := Int.zero_dvd.mp this
    omega
theorem prod_le {p r : Int} (h0 : 0 ≤ p) (h1 : p ≤ 10000000000000000) (h2 : 0 ≤ r) (h3 : r ≤ 10000000000000000) : p * r ≤ 100000000000000000000000000000000 := by
  have := Int.mul_le_mul_of_nonneg_right h1 h2
  omega
theorem div_abs {g u B : Int} (hu : 0 < u) (hB : 0 ≤ B) (h0 : -B ≤ g) (h1 : g ≤ B) : -B ≤ g / u ∧ g / u ≤ B := by
  have h2 : B * 1 ≤ B * u := Int.mul_le_mul_of_nonneg_left (by omega) hB
  refine ⟨Int.le_ediv_of_mul_le hu ?_, Int.ediv_le_of_le_mul hu (by omega)⟩
  rw [Int.neg_mul]
  omega
section
variable {P : Program} {w : World} {K : PySem.W.Frag} {mg : Str → Option Value} {base : Heap} {A : Ads} {B : Fds}
end
end K

namespace K
open PySem L2 DL
local macro_rules | `(tactic| walk_at "w") => `(tactic| (conv => whnf))
local macro_rules | `(tactic| walk_at "at") => `(tactic| first | assumption | (refine SrcStep.get (l := ?l0) (n := ?n0) (S := ?s0) ?h1 ?h2 ?h3; (case h1 => assumption); (case h2 => omega); (case h3 => walk_at "at")) | (refine set_same (o := ?oo) ?sm; (case sm => walk_at "at")) | (refine set_other ?sm ?sn; (case sn => omega); (case sm => walk_at "at")) | (exact getElem_push _ _) | (refine app_left ?sm; (case sm => walk_at "at")) | rfl)
local macro_rules | `(tactic| walk_at "get") => `(tactic| (refine Exists.intro ?wit (And.intro ?gt ?_); (case gt => walk_at "at")))
local macro_rules | `(tactic| walk_at "bool") => `(tactic| (refine And.intro (fun hcond => ?_) (fun hcond => ?_) <;> (first | (exact absurd hcond (by decide)) | (simp only [decide_eq_true_eq, decide_eq_false_iff_not, Bool.not_eq_true', Bool.not_eq_false', Int.not_lt, Int.not_le, inD_nil, inD_int_cons, Bool.or_eq_true, Bool.or_eq_false_iff, Bool.or_false, ne_eq, Decidable.not_not] at hcond) | skip)))
local macro_rules | `(tactic| walk_at "len") => `(tactic| (refine line_le6 ?_; (try simp only [len_cat, len_e]); omega))
local macro_rules | `(tactic| walk_at "cond") => `(tactic| first | assumption | rfl | exact True.intro | omega | (exact Nat.le_of_ble_eq_true rfl) | (refine mulS ?cm1 ?cm2 <;> omega) | (refine divS ?cm1 <;> omega) | (refine And.intro ?cd1 ?cd2 <;> decide) | (exact line_le (Nat.le_of_ble_eq_true rfl)) | (exact line_lt (Nat.le_of_ble_eq_true rfl)) | (refine' Exists.intro _ (Exists.intro _ (And.intro rfl ?cm1)); (case cm1 => walk_at "at")) | (exact log_le (by omega)) | walk_at "len" | solve_by_elim | fail "no cond")
local macro_rules | `(tactic| walk_at "src") => `(tactic| first | assumption | (refine SrcStep.srcAt (S := ?ss) ?st; (case st => assumption)) | (refine SrcAt.app ?st; (case st => walk_at "src")))
local macro_rules | `(tactic| walk_at "draw") => `(tactic| (refine' Exists.intro _ (Exists.intro _ (Exists.intro ?nn (And.intro rfl (And.intro ?d1 (And.intro ?d2 (And.intro ?d3 (fun r S' h0 h1 hst => ?_))))))); (case d1 => walk_at "src"); (case d2 => omega); (case d3 => omega)))
local macro_rules | `(tactic| walk_at "steps") => `(tactic| first | assumption | (refine SrcStep.trans (n := ?sn) (S1 := ?sm) ?sx ?sy; (case sy => assumption); (case sx => walk_at "steps")) | (refine SrcAt.refl ?sz; assumption))
local macro_rules | `(tactic| walk_at "side") => `(tactic| (refine And.intro ?sd ?_; (case sd => walk_at "cond")))
local macro_rules | `(tactic| walk_at "go1") => `(tactic| (conv => whnf) <;> (first | walk_at "get" | walk_at "bool" | walk_at "draw" | walk_at "side" | fail "no step"))
local macro_rules | `(tactic| walk_at "go") => `(tactic| (repeat' (walk_at "go1")); (all_goals try (conv => whnf)))

theorem fF {C : Prop} (h : false = true) : C := nomatch h
theorem tF {C : Prop} (h : true = false) : C := nomatch h
local macro_rules | `(tactic| walk_at "no") => `(tactic| first
  | (rename_i hc0; first | exact fF hc0 | exact tF hc0)
  | (rename_i hc0 hc1; first | exact fF hc0 | exact tF hc0)
  | (rename_i hc0 hc1 hc2; first | exact fF hc0 | exact tF hc0)
  | (rename_i hc0 hc1 hc2 hc3; first | exact fF hc0 | exact tF hc0))
theorem flPlain {w h : Int} (b : 1 ≤ w ∧ w ≤ 1000000000000000 ∧ 1 ≤ h ∧ h ≤ 1000000000000000) : FlOk w h [] := ⟨b.1, b.2.1, b.2.2.1, b.2.2.2, noTh, by decide⟩
def spFirst : DSp := fun ds S Q E => ∃ (w h : Int) (x y dx dy a b da db : Int), ds = [.int w, .int h, rayD x y dx dy, rayD a b da db] ∧ (1 ≤ w ∧ w ≤ 1000000000000000 ∧ 1 ≤ h ∧ h ≤ 1000000000000000) ∧ RayOk w h x y dx dy ∧ RayOk w h a b da db ∧
  ∀ res, FM w h (x, y, dx, dy) (a, b, da, db) res → (∀ c, res = some c → c ≤ 100000000000000000000000000000000) → Q (optI res) S
theorem n_first_meeting : ∀ ds S Q E, spFirst ds S Q E → ds.length = 4 := by
  rintro ds S Q E ⟨w, h, x, y, dx, dy, a, b, da, db, rfl, _⟩
  rfl
/-- a live list of numbers and None -/
def LiveO (S : Store) (l : Nat) (os : List (Option Int)) (S' : Store) : Prop := ∃ ex, S' = S ++ ex ∧ S.length ≤ l ∧ S'[l]? = some (.lst (os.map optI))
theorem LiveO.app {S S' : Store} {l : Nat} {os : List (Option Int)} (h : LiveO S l os S') (o : Option Int) : LiveO S l (os ++ [o]) (S'.set l (.lst (os.map optI ++ [optI o]))) := by
  obtain ⟨ex, rfl, h1, h2⟩ := h
  have hlt := (List.getElem?_eq_some_iff.mp h2).1
  refine ⟨ex.set (l - S.length) (.lst (os.map optI ++ [optI o])), List.set_append_right _ _ h1, h1, ?_⟩
  rw [List.getElem?_set_self hlt, List.map_append]; rfl
theorem ticks_bound {X Y U V B : Int} {ha hb ct : Option Int} (h1 : ∀ c, ct = some c → c ≤ B) (h2 : ∀ c, ha = some c → 0 ≤ c ∧ c ≤ B) (h3 : ∀ c, hb = some c → 0 ≤ c ∧ c ≤ B) (hB : 0 ≤ B) : ∀ c ∈ (ticksF X Y U V ha hb ct).filterMap id, c ≤ B := by
  intro c hc
  obtain ⟨o, ho, e⟩ := List.mem_filterMap.mp hc
  have e : o = some c := e
  subst e
  unfold ticksF at ho
  rcases List.mem_append.mp ho with ho | ho
  · rcases List.mem_append.mp ho with ho | ho
    · unfold ticks0 at ho
      split at ho
      · rw [List.mem_singleton] at ho; exact h1 c ho.symm
      · rw [List.mem_singleton] at ho; cases ho
    · split at ho
      · rw [List.mem_singleton] at ho
        split at ho
        · injection ho with ho; omega
        · exact (h3 c ho.symm).2
      · cases ho
  · split at ho
    · rw [List.mem_singleton] at ho
      split at ho
      · injection ho with ho; omega
      · exact (h2 c ho.symm).2
    · cases ho
theorem ok_ints (n : Nat) (L : List Int) : okD (n + 1) (.lst (L.map D.int)) = true := by
  show (L.map D.int).all (okD n) = true
  rw [List.all_map, List.all_eq_true]
  intro _ _
  cases n <;> rfl
def keepI (d : D) : Option D := if DL.isNon d then none else some d
theorem keep_map : ∀ os : List (Option Int), (os.map optI).filterMap keepI = (os.filterMap id).map D.int
  | [] => rfl
  | none :: r => by
    show List.filterMap keepI (optI none :: r.map optI) = _
    rw [List.filterMap_cons_none (show keepI (optI none) = none from rfl), keep_map r]; rfl
  | some c :: r => by
    show List.filterMap keepI (optI (some c) :: r.map optI) = _
    rw [List.filterMap_cons_some (show keepI (optI (some c)) = some (.int c) from rfl), keep_map r]; rfl
theorem map_int_bnd (n : Nat) (L : List Int) : bndL n (L.map D.int) := bndL_map fun _ => trivial
section
variable {P : Program} {w : World} {K : PySem.W.Frag} {mg : Str → Option Value} {base : Heap} {A : Ads} {B : Fds}
end
end K

namespace K
open PySem L2 DL
local macro_rules | `(tactic| walk_at "w") => `(tactic| (conv => whnf))
local macro_rules | `(tactic| walk_at "at") => `(tactic| first | assumption | (refine SrcStep.get (l := ?l0) (n := ?n0) (S := ?s0) ?h1 ?h2 ?h3; (case h1 => assumption); (case h2 => omega); (case h3 => walk_at "at")) | (refine set_same (o := ?oo) ?sm; (case sm => walk_at "at")) | (refine set_other ?sm ?sn; (case sn => omega); (case sm => walk_at "at")) | (exact getElem_push _ _) | (refine app_left ?sm; (case sm => walk_at "at")) | rfl)
local macro_rules | `(tactic| walk_at "get") => `(tactic| (refine Exists.intro ?wit (And.intro ?gt ?_); (case gt => walk_at "at")))
local macro_rules | `(tactic| walk_at "bool") => `(tactic| (refine And.intro (fun hcond => ?_) (fun hcond => ?_) <;> (first | (exact absurd hcond (by decide)) | (simp only [decide_eq_true_eq, decide_eq_false_iff_not, Bool.not_eq_true', Bool.not_eq_false', Int.not_lt, Int.not_le, inD_nil, inD_int_cons, Bool.or_eq_true, Bool.or_eq_false_iff, Bool.or_false, ne_eq, Decidable.not_not] at hcond) | skip)))
local macro_rules | `(tactic| walk_at "len") => `(tactic| (refine line_le6 ?_; (try simp only [len_cat, len_e]); omega))
local macro_rules | `(tactic| walk_at "cond") => `(tactic| first | assumption | rfl | exact True.intro | omega | (exact Nat.le_of_ble_eq_true rfl) | (refine mulS ?cm1 ?cm2 <;> omega) | (refine divS ?cm1 <;> omega) | (refine And.intro ?cd1 ?cd2 <;> decide) | (exact line_le (Nat.le_of_ble_eq_true rfl)) | (exact line_lt (Nat.le_of_ble_eq_true rfl)) | (refine' Exists.intro _ (Exists.intro _ (And.intro rfl ?cm1)); (case cm1 => walk_at "at")) | (exact log_le (by omega)) | walk_at "len" | solve_by_elim | fail "no cond")
local macro_rules | `(tactic| walk_at "src") => `(tactic| first | assumption | (refine SrcStep.srcAt (S := ?ss) ?st; (case st => assumption)) | (refine SrcAt.app ?st; (case st => walk_at "src")))
local macro_rules | `(tactic| walk_at "draw") => `(tactic| (refine' Exists.intro _ (Exists.intro _ (Exists.intro ?nn (And.intro rfl (And.intro ?d1 (And.intro ?d2 (And.intro ?d3 (fun r S' h0 h1 hst => ?_))))))); (case d1 => walk_at "src"); (case d2 => omega); (case d3 => omega)))
local macro_rules | `(tactic| walk_at "steps") => `(tactic| first | assumption | (refine SrcStep.trans (n := ?sn) (S1 := ?sm) ?sx ?sy; (case sy => assumption); (case sx => walk_at "steps")) | (refine SrcAt.refl ?sz; assumption))
local macro_rules | `(tactic| walk_at "side") => `(tactic| (refine And.intro ?sd ?_; (case sd => walk_at "cond")))
local macro_rules | `(tactic| walk_at "go1") => `(tactic| (conv => whnf) <;> (first | walk_at "get" | walk_at "bool" | walk_at "draw" | walk_at "side" | fail "no step"))
local macro_rules | `(tactic| walk_at "go") => `(tactic| (repeat' (walk_at "go1")); (all_goals try (conv => whnf)))

/-- the round of all rays of a floor without things -/
structure Per (w h N : Int) : Prop where
  pos : 1 ≤ N
  dw : 4 * w ∣ N
  dh : 4 * h ∣ N
  least : ∀ t, 0 < t → 4 * w ∣ t → 4 * h ∣ t → N ≤ t
theorem per_ex {w h : Int} (hw : 1 ≤ w) (hh : 1 ≤ h) (hw2 : w ≤ 12) (hh2 : h ≤ 12) : ∃ N, Per w h N ∧ N ≤ 2304 := by
  obtain ⟨a, ha⟩ : ∃ a : Nat, (a : Int) = 4 * w := ⟨(4 * w).toNat, by omega⟩
  obtain ⟨b, hb⟩ : ∃ b : Nat, (b : Int) = 4 * h := ⟨(4 * h).toNat, by omega⟩
  have hl : ∀ t : Int, 0 < t → 4 * w ∣ t → 4 * h ∣ t → ((Nat.lcm a b : Nat) : Int) ≤ t := by
    intro t ht h1 h2
    obtain ⟨n, hn⟩ : ∃ n : Nat, (n : Int) = t := ⟨t.toNat, by omega⟩
    rw [← ha, ← hn] at h1
    rw [← hb, ← hn] at h2
    have := Nat.le_of_dvd (by omega) (Nat.lcm_dvd (Int.natCast_dvd_natCast.mp h1) (Int.natCast_dvd_natCast.mp h2))
    omega
  refine ⟨((Nat.lcm a b : Nat) : Int), ⟨?_, ?_, ?_, hl⟩, ?_⟩
  · have := Nat.lcm_pos (show 0 < a by omega) (show 0 < b by omega)
    omega
  · rw [← ha]; exact Int.natCast_dvd_natCast.mpr (Nat.dvd_lcm_left a b)
  · rw [← hb]; exact Int.natCast_dvd_natCast.mpr (Nat.dvd_lcm_right a b)
  · have h1 : 0 ≤ 4 * w * (4 * h) := Int.mul_nonneg (by omega) (by omega)
    have h2 : 4 * w * (4 * h) ≤ 48 * (4 * h) := Int.mul_le_mul_of_nonneg_right (by omega) (by omega)
    have h3 : 4 * w * 1 ≤ 4 * w * (4 * h) := Int.mul_le_mul_of_nonneg_left (by omega) (by omega)
    have := hl (4 * w * (4 * h)) (by omega) (Int.dvd_mul_right _ _) (Int.dvd_mul_left _ _)
    omega
theorem per_uniq {w h N M : Int} (p : Per w h N) (q : Per w h M) : N = M := by
  have h1 := p.least M (by have := q.pos; omega) q.dw q.dh
  have h2 := q.least N (by have := p.pos; omega) p.dw p.dh
  omega
/-- the rays of a trip -/
@[irreducible] def orbD (w h : Int) (r : Ray) (k : Nat) : List D := (List.range k).map fun (i : Nat) => optRay (some (rayOf (4 * w) (4 * h) (pX r + i) (pY r + i)))
theorem orb_succ (w h : Int) (r : Ray) (k : Nat) : orbD w h r (k + 1) = orbD w h r k ++ [optRay (some (rayOf (4 * w) (4 * h) (pX r + k) (pY r + k)))] := by
  unfold orbD
  rw [List.range_succ, List.map_append]; rfl
theorem orb_one (w h : Int) (r : Ray) : orbD w h r 1 = [optRay (some (rayOf (4 * w) (4 * h) (pX r + ((0 : Nat) : Int)) (pY r + ((0 : Nat) : Int))))] := by
  unfold orbD; rfl
theorem orb_len (w h : Int) (r : Ray) (k : Nat) : (orbD w h r k).length = k := by simp [orbD]
theorem orb_bnd (n : Nat) (w h : Int) (r : Ray) (k : Nat) : bndL n (orbD w h r k) := by
  unfold orbD
  exact bndL_map (f := fun (i : Nat) => optRay (some (rayOf (4 * w) (4 * h) (pX r + i) (pY r + i)))) fun _ => ⟨trivial, trivial, trivial, trivial, trivial⟩
theorem orb_get (w h : Int) (r : Ray) {k i : Nat} (hi : i < k) : (orbD w h r k)[i]? = some (optRay (some (rayOf (4 * w) (4 * h) (pX r + i) (pY r + i)))) := by
  unfold orbD
  rw [List.getElem?_map, List.getElem?_range hi]; rfl
theorem rayOf_per {w h N X Y : Int} (p : Per w h N) : rayOf (4 * w) (4 * h) (X + N) (Y + N) = rayOf (4 * w) (4 * h) X Y := by
  have e1 : (X + N) % (4 * w) = X % (4 * w) := by
    obtain ⟨z, hz⟩ := p.dw
    rw [hz, Int.add_mul_emod_self_left]
  have e2 : (Y + N) % (4 * h) = Y % (4 * h) := by
    obtain ⟨z, hz⟩ := p.dh
    rw [hz, Int.add_mul_emod_self_left]
  rw [← rayOf_mod, e1, e2, rayOf_mod]
theorem rayOf_inj {w h X Y U V : Int} (hw : 1 ≤ w) (hh : 1 ≤ h) (e : rayOf (4 * w) (4 * h) X Y = rayOf (4 * w) (4 * h) U V) : 4 * w ∣ X - U ∧ 4 * h ∣ Y - V := by
  have e1 := (pX_rayOf (w := w) (h := h) (X := X) (Y := Y) hw).symm.trans ((congrArg (fun r => pX r % (4 * w)) e).trans (pX_rayOf hw))
  have e2 := (pY_rayOf (w := w) (h := h) (X := X) (Y := Y) hh).symm.trans ((congrArg (fun r => pY r % (4 * h)) e).trans (pY_rayOf hh))
  exact ⟨Int.dvd_of_emod_eq_zero (Int.emod_eq_emod_iff_emod_sub_eq_zero.mp e1), Int.dvd_of_emod_eq_zero (Int.emod_eq_emod_iff_emod_sub_eq_zero.mp e2)⟩
/-- back at the start: not before the round -/
theorem per_back {w h N X Y t : Int} (p : Per w h N) (hw : 1 ≤ w) (hh : 1 ≤ h) (ht : 0 < t) (e : rayOf (4 * w) (4 * h) (X + t) (Y + t) = rayOf (4 * w) (4 * h) X Y) : N ≤ t := by
  obtain ⟨h1, h2⟩ := rayOf_inj hw hh e
  rw [show X + t - X = t by omega] at h1
  rw [show Y + t - Y = t by omega] at h2
  exact p.least t ht h1 h2
theorem meet_per {w h N X Y U V t : Int} (p : Per w h N) : MeetP w h X Y U V (t % N) ↔ MeetP w h X Y U V t := by
  have em := Int.mul_ediv_add_emod t N
  have d1 : 4 * w ∣ N * (t / N) := Int.dvd_mul_of_dvd_left p.dw
  have d2 : 4 * h ∣ N * (t / N) := Int.dvd_mul_of_dvd_left p.dh
  have c : ∀ (a P : Int), a ∣ N * (t / N) → fX a (P + t % N) = fX a (P + t) := fun a P hd => by
    obtain ⟨z, hz⟩ := hd
    unfold fX
    have : (P + t) % a = (P + t % N) % a := by
      rw [show P + t = (P + t % N) + a * z by omega, Int.add_mul_emod_self_left]
    rw [this]
  unfold MeetP
  rw [c _ _ d1, c _ _ d1, c _ _ d2, c _ _ d2]
/-- the first meeting before a tick -/
def DueK (w h X Y U V : Int) (k : Nat) : Option Int → Prop
  | none => ∀ t : Int, 0 ≤ t → t < (k : Int) → ¬ MeetP w h X Y U V t
  | some c => 0 ≤ c ∧ c < (k : Int) ∧ MeetP w h X Y U V c ∧ ∀ t : Int, 0 ≤ t → t < c → ¬ MeetP w h X Y U V t
theorem due_best {w h X Y U V N : Int} (p : Per w h N) {o : Option Int} (d : DueK w h X Y U V N.toNat o) : Best (MeetP w h X Y U V) o := by
  have h0 := p.pos
  cases o with
  | none =>
    intro t ht hm
    have m0 := Int.emod_nonneg t (show N ≠ 0 by omega)
    have m1 := Int.emod_lt_of_pos t (show 0 < N by omega)
    exact d (t % N) m0 (by omega) ((meet_per p).mpr hm)
  | some c =>
    obtain ⟨d1, d2, d3, d4⟩ := d
    refine ⟨d1, d3, fun t ht hm => ?_⟩
    rcases Int.lt_or_le t c with hl | hl
    · exact absurd hm (d4 t ht hl)
    · exact hl
theorem due_hit {w h X Y U V : Int} {k : Nat} (d : DueK w h X Y U V k none) (hm : MeetP w h X Y U V k) : DueK w h X Y U V (k + 1) (some (k : Int)) := ⟨by omega, by omega, hm, fun t ht hl => d t ht hl⟩
theorem due_miss {w h X Y U V : Int} {k : Nat} (d : DueK w h X Y U V k none) (hm : ¬ MeetP w h X Y U V k) : DueK w h X Y U V (k + 1) none := fun t ht hl => by
  by_cases e : t = k
  · subst e; exact hm
  · exact d t ht (by omega)
theorem due_keep {w h X Y U V c : Int} {k : Nat} (d : DueK w h X Y U V k (some c)) : DueK w h X Y U V (k + 1) (some c) := ⟨d.1, by have := d.2.1; omega, d.2.2⟩
end K

namespace K
open PySem L2 DL
/-! floors without things: reversed rays, rays ahead, the round of a torus -/
theorem fD_negw {w X : Int} (hw : 1 ≤ w) (h : fX (4 * w) X = 0 ∨ fX (4 * w) X = 2 * w) : fD (4 * w) (0 - X) = fD (4 * w) X := by
  have h0 := Int.emod_nonneg X (show 4 * w ≠ 0 by omega)
  have h1 := Int.emod_lt_of_pos X (show 0 < 4 * w by omega)
  revert h
  unfold fX fD
  rw [em_neg (show 1 < 4 * w by omega)]
  repeat' split
  all_goals omega
theorem rvs_rayOf {w h X Y : Int} (hw : 1 ≤ w) (hh : 1 ≤ h) (ho : (X + Y) % 2 = 1) : rvs w h [] (rayOf (4 * w) (4 * h) X Y) = some (rayOf (4 * w) (4 * h) (0 - X) (0 - Y)) := by
  show revR w h [] (fX (4 * w) X) (fX (4 * h) Y) (fD (4 * w) X) (fD (4 * h) Y) = _
  unfold revR
  have e : kindAt [] (fX (4 * w) X) (fX (4 * h) Y) = "" := rfl
  rw [e, if_neg (by decide)]
  have p1 := fX_par hw X
  have p2 := fX_par hh Y
  have n1 := fX_neg hw X
  have n2 := fX_neg hh Y
  have d1 := fD_neg hw X
  have d2 := fD_neg hh Y
  have w1 := fD_negw hw (X := X)
  have w2 := fD_negw hh (X := Y)
  unfold rayOf tX tY
  rw [n1, n2]
  by_cases x0 : fX (4 * w) X = 0 ∨ fX (4 * w) X = 2 * w
  · rw [if_pos x0, if_pos x0, w1 x0, d2 (by omega)]
    congr 4 <;> omega
  · rw [if_neg x0, if_neg x0, d1 (by omega)]
    by_cases y0 : fX (4 * h) Y = 0 ∨ fX (4 * h) Y = 2 * h
    · rw [if_pos y0, if_pos y0, w2 y0]
      congr 4 <;> omega
    · rw [if_neg y0, if_neg y0, d2 (by omega), if_neg (by decide), if_neg (by decide)]
      congr 4 <;> omega
/-- t steps lead from a ray to another one -/
def OnP (w h : Int) (r o : Ray) (t : Int) : Prop := 4 * w ∣ pX r + t - pX o ∧ 4 * h ∣ pY r + t - pY o
theorem dvd_em {a X Y : Int} (e : X % a = Y % a) : a ∣ X - Y := Int.dvd_of_emod_eq_zero (Int.emod_eq_emod_iff_emod_sub_eq_zero.mp e)
theorem on_ray {w h X Y : Int} (hw : 1 ≤ w) (hh : 1 ≤ h) {r : Ray} : OnP w h r (rayOf (4 * w) (4 * h) (pX r + X) (pY r + X)) X :=
  ⟨dvd_em (pX_rayOf hw).symm, dvd_em (pY_rayOf hh).symm⟩
theorem four_dvd {w X : Int} (h : 4 * w ∣ X) : (4 : Int) ∣ X := Int.dvd_trans ⟨w, rfl⟩ h
/-- a ray never runs to the reverse of a ray of its line -/
theorem on_odd {w h t : Int} {r o : Ray} (hx : (4 : Int) ∣ pX r + t - pX o) (hy : (4 : Int) ∣ pY r + t - pY o) {s : Int} (kx : (4 : Int) ∣ pX o + s + pX r) (ky : (4 : Int) ∣ pY o + s + pY r) (k : rOk w h r) : False := by
  have h1 := pXY_odd k
  omega
theorem per_torus {w h : Int} {n : TNum} (g : TGood n) (ea : n.a = 4 * w) (el : n.l = 4 * h) (ok : n.Ok) : Per w h n.circ := by
  have hp : 0 < n.circ := by rw [g.hc]; exact Int.mul_pos g.a0 g.r0
  refine ⟨hp, ?_, ?_, ?_⟩
  · rw [← ea]; exact ⟨n.rest, g.hc⟩
  · rw [← el]
    obtain ⟨a', ha'⟩ := g.ua
    exact ⟨a', by rw [g.hc, g.hl, ha', Int.mul_assoc, Int.mul_comm a', Int.mul_assoc]⟩
  · intro t ht h1 h2
    have := crt_uniq g.u0 g.ua g.hl g.hf (d := t) (by rw [ea]; exact h1) (by rw [el]; exact h2)
    rw [← g.hc] at this
    exact Int.le_of_dvd ht this
/-- the least steps to a place without things -/
theorem steps_best {w h : Int} {n : TNum} (g : TGood n) (ea : n.a = 4 * w) (el : n.l = 4 * h) {X Y U V : Int} {t : Tg} (tx : t.x = U) (ty : t.y = V) (hne : ¬ (4 * w ∣ X - U ∧ 4 * h ∣ Y - V)) (hc : n.u ∣ (t.x - t.y) - (X - Y)) :
    Best (fun s => 4 * w ∣ X + s - U ∧ 4 * h ∣ Y + s - V) (some (stepsTo n X Y t)) := by
  obtain ⟨h1, h2, ⟨h3, h4⟩, h5⟩ := stepsTo_spec g hc
  rw [tx, ea] at h3
  rw [ty, el] at h4
  refine ⟨by omega, ⟨h3, h4⟩, fun s hs ⟨h6, h7⟩ => ?_⟩
  by_cases e : s = 0
  · subst e
    refine absurd ⟨?_, ?_⟩ hne
    · rwa [Int.add_zero] at h6
    · rwa [Int.add_zero] at h7
  · refine h5 s (by omega) ⟨?_, ?_⟩
    · rw [ea, tx]; exact h6
    · rw [el, ty]; exact h7
theorem steps_none {w h : Int} {n : TNum} (g : TGood n) (ea : n.a = 4 * w) (el : n.l = 4 * h) {X Y U V : Int} (hc : ¬ n.u ∣ (U - V) - (X - Y)) : Best (fun s => 4 * w ∣ X + s - U ∧ 4 * h ∣ Y + s - V) none := by
  rintro s _ ⟨h1, h2⟩
  refine hc ?_
  rw [← ea] at h1
  rw [← el] at h2
  have h3 := Int.dvd_trans g.ua h1
  have h4 : n.u ∣ Y + s - V := Int.dvd_trans ⟨n.rest, g.hl⟩ h2
  have : (U - V) - (X - Y) = (Y + s - V) - (X + s - U) := by omega
  rw [this]
  exact Int.dvd_sub h4 h3
/-! the law's own questions -/
theorem rayOf_congr {a l X Y U V : Int} (h1 : X % a = U % a) (h2 : Y % l = V % l) : rayOf a l X Y = rayOf a l U V := by
  rw [← rayOf_mod, h1, h2, rayOf_mod]
theorem em_of_dvd {a X Y : Int} (e : a ∣ X - Y) : X % a = Y % a := Int.emod_eq_emod_iff_emod_sub_eq_zero.mpr (Int.emod_eq_zero_of_dvd e)
section
variable {w h k : Int} {r o : Ray} (hw : 1 ≤ w) (hh : 1 ≤ h) (kr : rOk w h r)
include hw hh kr
/-- the reverse of a ray k steps ahead -/
theorem ahead_rvs (k : Int) : rvs w h [] (rayOf (4 * w) (4 * h) (pX r + k) (pY r + k)) = some (rayOf (4 * w) (4 * h) (0 - (pX r + k)) (0 - (pY r + k))) := rvs_rayOf hw hh (by have := pXY_odd kr; omega)
theorem ahead_ok (k : Int) : rOk w h (rayOf (4 * w) (4 * h) (pX r + k) (pY r + k)) := rayOf_ok hw hh (by have := pXY_odd kr; omega)
theorem back_ok (k : Int) : rOk w h (rayOf (4 * w) (4 * h) (0 - (pX r + k)) (0 - (pY r + k))) := rayOf_ok hw hh (by have := pXY_odd kr; omega)
theorem head_odd (hk : k % 2 = 1) {res : Option Int} (f : FM w h r (rayOf (4 * w) (4 * h) (0 - (pX r + k)) (0 - (pY r + k))) res) : res = none := by
  cases res with
  | none => rfl
  | some c =>
    have := fm_par hw kr (back_ok hw hh kr k) f
    have p1 : ((rayOf (4 * w) (4 * h) (0 - (pX r + k)) (0 - (pY r + k))).1 - (0 - (pX r + k))) % 2 = 0 := fX_par hw _
    have p2 : (pX r - r.1) % 2 = 0 := by
      obtain ⟨a1, a2, a3, a4, a5, hdx, hdy, _⟩ := kr
      unfold pX; rcases hdx with h1 | h1 <;> rw [h1] <;> omega
    omega
theorem head_even (hk : k % 2 = 0) (k0 : 0 ≤ k) {res : Option Int} (f : FM w h r (rayOf (4 * w) (4 * h) (0 - (pX r + k)) (0 - (pY r + k))) res) : ∃ c, res = some c ∧ 0 ≤ c ∧ c ≤ k / 2 := by
  have hm : MeetP w h (pX r) (pY r) (pX (rayOf (4 * w) (4 * h) (0 - (pX r + k)) (0 - (pY r + k)))) (pY (rayOf (4 * w) (4 * h) (0 - (pX r + k)) (0 - (pY r + k)))) (k / 2) := by
    refine (meet_congr (X' := pX r) (Y' := pY r) (U' := 0 - (pX r + k)) (V' := 0 - (pY r + k)) rfl rfl (pX_rayOf hw) (pY_rayOf hh)).mpr ⟨?_, ?_⟩
    · rw [show 0 - (pX r + k) + k / 2 = 0 - (pX r + k / 2) by omega, fX_neg hw]
    · rw [show 0 - (pY r + k) + k / 2 = 0 - (pY r + k / 2) by omega, fX_neg hh]
  cases res with
  | none => exact absurd hm (f _ (by omega))
  | some c => exact ⟨c, rfl, f.1, f.2.2 _ (by omega) hm⟩
theorem head_half (hk : k % 2 = 0) (k0 : 0 ≤ k) : runF w h [] (rayOf (4 * w) (4 * h) (0 - (pX r + k)) (0 - (pY r + k))) (k / 2) = some (rayOf (4 * w) (4 * h) (0 - (pX r + k / 2)) (0 - (pY r + k / 2))) := by
  rw [plain_run hw hh (back_ok hw hh kr k) (by omega)]
  have e1 := pX_rayOf (w := w) (h := h) (X := 0 - (pX r + k)) (Y := 0 - (pY r + k)) hw
  have e2 := pY_rayOf (w := w) (h := h) (X := 0 - (pX r + k)) (Y := 0 - (pY r + k)) hh
  rw [rayOf_congr (U := 0 - (pX r + k / 2)) (V := 0 - (pY r + k / 2))]
  · rw [Int.add_emod, e1, ← Int.add_emod, show 0 - (pX r + k) + k / 2 = 0 - (pX r + k / 2) by omega]
  · rw [Int.add_emod, e2, ← Int.add_emod, show 0 - (pY r + k) + k / 2 = 0 - (pY r + k / 2) by omega]
theorem no_same (t : Int) : ¬ OnP w h r (rayOf (4 * w) (4 * h) (0 - (pX r + k)) (0 - (pY r + k))) t ∧ ¬ OnP w h (rayOf (4 * w) (4 * h) (0 - (pX r + k)) (0 - (pY r + k))) r t := by
  have e1 := four_dvd (dvd_em (pX_rayOf (w := w) (h := h) (X := 0 - (pX r + k)) (Y := 0 - (pY r + k)) hw))
  have e2 := four_dvd (dvd_em (pY_rayOf (w := w) (h := h) (X := 0 - (pX r + k)) (Y := 0 - (pY r + k)) hh))
  have h1 := pXY_odd kr
  constructor
  · rintro ⟨h2, h3⟩
    have h2 := four_dvd h2
    have h3 := four_dvd h3
    omega
  · rintro ⟨h2, h3⟩
    have h2 := four_dvd h2
    have h3 := four_dvd h3
    omega
theorem rvs_back {b : Ray} (e : rvs w h [] (rayOf (4 * w) (4 * h) (0 - (pX r + k)) (0 - (pY r + k))) = some b) : OnP w h r b k := by
  rw [rvs_rayOf hw hh (by have := pXY_odd kr; omega)] at e
  injection e with e
  subst e
  rw [show 0 - (0 - (pX r + k)) = pX r + k by omega, show 0 - (0 - (pY r + k)) = pY r + k by omega]
  exact on_ray (Y := 0) hw hh
theorem ahead_zero {res : Option Int} (f : FM w h r (rayOf (4 * w) (4 * h) (pX r + 0) (pY r + 0)) res) : res = some 0 := by
  rw [show rayOf (4 * w) (4 * h) (pX r + 0) (pY r + 0) = r by rw [Int.add_zero, Int.add_zero]; exact rayOf_of hw hh kr] at f
  cases res with
  | none => exact absurd (show MeetP w h (pX r) (pY r) (pX r) (pY r) 0 from ⟨rfl, rfl⟩) (f 0 (Int.le_refl _))
  | some c =>
    have h1 := f.1
    have h2 := f.2.2 0 (Int.le_refl _) (show MeetP w h (pX r) (pY r) (pX r) (pY r) 0 from ⟨rfl, rfl⟩)
    rw [show c = 0 by omega]
theorem fm_lt {N c : Int} (p : Per w h N) (f : FM w h r o (some c)) : c < N := by
  have hp := p.pos
  have m0 := Int.emod_nonneg c (show N ≠ 0 by omega)
  have m1 := Int.emod_lt_of_pos c (show 0 < N by omega)
  have := f.2.2 (c % N) m0 ((meet_per p).mpr f.2.1)
  omega
theorem run_per {N c : Int} (p : Per w h N) (c0 : 0 ≤ c) : runF w h [] r (N + c) = some (rayOf (4 * w) (4 * h) (pX r + c) (pY r + c)) := by
  have hp := p.pos
  rw [plain_run hw hh kr (by omega), show pX r + (N + c) = pX r + c + N by omega, show pY r + (N + c) = pY r + c + N by omega, rayOf_per p]
end
end K

namespace K
open PySem L2 DL
local macro_rules | `(tactic| walk_at "w") => `(tactic| (conv => whnf))
local macro_rules | `(tactic| walk_at "at") => `(tactic| first | assumption | (refine SrcStep.get (l := ?l0) (n := ?n0) (S := ?s0) ?h1 ?h2 ?h3; (case h1 => assumption); (case h2 => omega); (case h3 => walk_at "at")) | (refine set_same (o := ?oo) ?sm; (case sm => walk_at "at")) | (refine set_other ?sm ?sn; (case sn => omega); (case sm => walk_at "at")) | (exact getElem_push _ _) | (refine app_left ?sm; (case sm => walk_at "at")) | rfl)
local macro_rules | `(tactic| walk_at "get") => `(tactic| (refine Exists.intro ?wit (And.intro ?gt ?_); (case gt => walk_at "at")))
local macro_rules | `(tactic| walk_at "bool") => `(tactic| (refine And.intro (fun hcond => ?_) (fun hcond => ?_) <;> (first | (exact absurd hcond (by decide)) | (simp only [decide_eq_true_eq, decide_eq_false_iff_not, Bool.not_eq_true', Bool.not_eq_false', Int.not_lt, Int.not_le, inD_nil, inD_int_cons, Bool.or_eq_true, Bool.or_eq_false_iff, Bool.or_false, ne_eq, Decidable.not_not] at hcond) | skip)))
local macro_rules | `(tactic| walk_at "len") => `(tactic| (refine line_le6 ?_; (try simp only [len_cat, len_e]); omega))
local macro_rules | `(tactic| walk_at "cond") => `(tactic| first | assumption | rfl | exact True.intro | omega | (exact Nat.le_of_ble_eq_true rfl) | (refine mulS ?cm1 ?cm2 <;> omega) | (refine divS ?cm1 <;> omega) | (refine And.intro ?cd1 ?cd2 <;> decide) | (exact line_le (Nat.le_of_ble_eq_true rfl)) | (exact line_lt (Nat.le_of_ble_eq_true rfl)) | (refine' Exists.intro _ (Exists.intro _ (And.intro rfl ?cm1)); (case cm1 => walk_at "at")) | (exact log_le (by omega)) | walk_at "len" | solve_by_elim | fail "no cond")
local macro_rules | `(tactic| walk_at "src") => `(tactic| first | assumption | (refine SrcStep.srcAt (S := ?ss) ?st; (case st => assumption)) | (refine SrcAt.app ?st; (case st => walk_at "src")))
local macro_rules | `(tactic| walk_at "draw") => `(tactic| (refine' Exists.intro _ (Exists.intro _ (Exists.intro ?nn (And.intro rfl (And.intro ?d1 (And.intro ?d2 (And.intro ?d3 (fun r S' h0 h1 hst => ?_))))))); (case d1 => walk_at "src"); (case d2 => omega); (case d3 => omega)))
local macro_rules | `(tactic| walk_at "steps") => `(tactic| first | assumption | (refine SrcStep.trans (n := ?sn) (S1 := ?sm) ?sx ?sy; (case sy => assumption); (case sx => walk_at "steps")) | (refine SrcAt.refl ?sz; assumption))
local macro_rules | `(tactic| walk_at "side") => `(tactic| (refine And.intro ?sd ?_; (case sd => walk_at "cond")))
local macro_rules | `(tactic| walk_at "go1") => `(tactic| (conv => whnf) <;> (first | walk_at "get" | walk_at "bool" | walk_at "draw" | walk_at "side" | fail "no step"))
local macro_rules | `(tactic| walk_at "go") => `(tactic| (repeat' (walk_at "go1")); (all_goals try (conv => whnf)))

local macro_rules | `(tactic| walk_at "no") => `(tactic| first
  | (rename_i hc0; first | exact fF hc0 | exact tF hc0)
  | (rename_i hc0 hc1; first | exact fF hc0 | exact tF hc0)
  | (rename_i hc0 hc1 hc2; first | exact fF hc0 | exact tF hc0)
  | (rename_i hc0 hc1 hc2 hc3; first | exact fF hc0 | exact tF hc0))
/-- the remainder that tells the line of a place without things -/
def remF (u X Y : Int) : Int := if u - (X - Y) % u < (X - Y) % u then u - (X - Y) % u else (X - Y) % u
def spRem (A : Ads) : DSp := fun ds S Q E => ∃ (fs : List (Str × D)) (n : TNum) (tg : List Tg) (x y : Int), ds = [.obj A.a_Torus fs, placeD x y] ∧ TD n tg fs ∧ NoM fs ∧ Q (.int (remF n.u x y)) S
theorem n_Torus_remainder {A : Ads} : ∀ ds S Q E, spRem A ds S Q E → ds.length = 2 := by
  rintro ds S Q E ⟨fs, n, tg, x, y, rfl, _⟩
  rfl
def spBetween (A : Ads) : DSp := fun ds S Q E => ∃ (fs : List (Str × D)) (n : TNum) (tg : List Tg) (t : Tg) (x y : Int), ds = [.obj A.a_Torus fs, placeD x y, t.pl] ∧ TD n tg fs ∧ NoM fs ∧ TGood n ∧
  (n.u ∣ (t.x - t.y) - (x - y) → Q (.int (stepsTo n x y t)) S) ∧ (¬ n.u ∣ (t.x - t.y) - (x - y) → Q .non S)
theorem n_Torus_steps_between {A : Ads} : ∀ ds S Q E, spBetween A ds S Q E → ds.length = 3 := by
  rintro ds S Q E ⟨fs, n, tg, t, x, y, rfl, _⟩
  rfl
def spLine (C : Addr) : DSp := fun ds S Q E => ∃ (l : Nat) (a b c d : D), ds = [.loc l, a, b, c, d] ∧ S[l]? = some (.ins C []) ∧ (bnd S.length a ∧ bnd S.length b ∧ bnd S.length c ∧ bnd S.length d) ∧ Q .non (S.set l (.ins C [("length", a), ("ends", b), ("first", c), ("hits", d)]))
theorem n_Line___init__ {C : Addr} : ∀ ds S Q E, spLine C ds S Q E → ds.length = 5 := by
  rintro ds S Q E ⟨l, a, b, c, d, rfl, _⟩
  rfl
/-- the line of a ray of a floor without things -/
def lineP (C : Addr) (N r : Int) : D := .obj C [("length", .int N), ("ends", .tup []), ("first", .tup [.int 0, .int r, .int 1, .int (-1)]), ("hits", .tup [])]
def spLineAt (A : Ads) : DSp := fun ds S Q E => ∃ (w h : Int) (sh : Str) (n : TNum) (fs : List (Str × D)) (x y : Int), ds = [floorD A.a_Floor w h [] sh, .obj A.a_Torus fs, placeD x y] ∧ TAll w h [] n fs ∧ Q (lineP A.a_Line n.circ (remF n.u x y)) S
theorem n_line_at {A : Ads} : ∀ ds S Q E, spLineAt A ds S Q E → ds.length = 3 := by
  rintro ds S Q E ⟨w, h, sh, n, fs, x, y, rfl, _⟩
  rfl
def spLineOf (A : Ads) : DSp := fun ds S Q E => ∃ (w h : Int) (sh : Str) (x y dx dy : Int), ds = [floorD A.a_Floor w h [] sh, rayD x y dx dy] ∧ FlOk w h [] ∧ RayOk w h x y dx dy ∧ ∀ n, n.a = 4 * w → n.l = 4 * h → TGood n → n.Ok → Q (lineP A.a_Line n.circ (remF n.u (x * dx) (y * dy))) S
theorem n_line_of {A : Ads} : ∀ ds S Q E, spLineOf A ds S Q E → ds.length = 2 := by
  rintro ds S Q E ⟨w, h, sh, x, y, dx, dy, rfl, _⟩
  rfl
theorem gap_dvd {n : TNum} (g : TGood n) {X Y U V : Int} : ((V - Y) % n.l - (U - X) % n.a) % n.u = 0 ↔ n.u ∣ (U - V) - (X - Y) := by
  have ul : n.u ∣ n.l := ⟨n.rest, g.hl⟩
  have h1 := Int.mul_ediv_add_emod (V - Y) n.l
  have h2 := Int.mul_ediv_add_emod (U - X) n.a
  have e : (U - V) - (X - Y) = n.a * ((U - X) / n.a) - n.l * ((V - Y) / n.l) - ((V - Y) % n.l - (U - X) % n.a) := by omega
  have d : n.u ∣ n.a * ((U - X) / n.a) - n.l * ((V - Y) / n.l) := Int.dvd_sub (Int.dvd_mul_of_dvd_left g.ua) (Int.dvd_mul_of_dvd_left ul)
  rw [e]
  constructor
  · intro h
    exact Int.dvd_sub d (Int.dvd_of_emod_eq_zero h)
  · intro h
    have := Int.dvd_sub d h
    rw [show n.a * ((U - X) / n.a) - n.l * ((V - Y) / n.l) - (n.a * ((U - X) / n.a) - n.l * ((V - Y) / n.l) - ((V - Y) % n.l - (U - X) % n.a)) = (V - Y) % n.l - (U - X) % n.a by omega] at this
    exact Int.emod_eq_zero_of_dvd this
theorem rem_mod {n : TNum} (g : TGood n) (X Y : Int) : remF n.u (X % n.a) (Y % n.l) = remF n.u X Y := by
  have ul : n.u ∣ n.l := ⟨n.rest, g.hl⟩
  have e : (X % n.a - Y % n.l) % n.u = (X - Y) % n.u := by
    rw [Int.sub_emod, Int.emod_emod_of_dvd _ g.ua, Int.emod_emod_of_dvd _ ul, ← Int.sub_emod]
  unfold remF
  rw [e]
theorem bn_nil (n : Nat) (r : Int) : bnd n (.tup [.int 0, .int r, .int 1, .int (-1)]) := ⟨trivial, trivial, trivial, trivial, trivial⟩
section
variable {P : Program} {w : World} {K : PySem.W.Frag} {mg : Str → Option Value} {base : Heap} {A : Ads} {B : Fds}
theorem ok_Torus_remainder (T : Txt w K mg A B) : FnOk P w K mg base CX0 1 A.a_Torus_remainder B.a_Torus_remainder ["self", "place"] (spOf K 2 (spRem A)) := by
  refine dfn_ok T.F_Torus_remainder sc_Torus_remainder n_Torus_remainder (fun cdv Ar outer s H E hr => (ds_cons (ds_set (i := 2) sc_Torus_remainder.nd rfl (.inl rfl) (de_op od_mod (de_op od_sub (de_ix ix_any (dv 1) de_int (fun _ _ => rfl)) (de_ix ix_any (dv 1) de_int (fun _ _ => rfl))) (de_fld (dv 0) T.cl_Torus T.n_Torus_unit)))
      (ds_one (ds_ret (de_callB (cd_min2 rfl) rfl T.z_min (by decide +kernel) (da_cons (dv 2) (da_cons (de_op od_sub (de_fld (dv 0) T.cl_Torus T.n_Torus_unit) (dv 2)) da_nil))))))) ?_
  rintro ds S Q E bd ⟨fs, n, tg, x, y, rfl, td, nm, q⟩
  obtain ⟨⟨k1, k2, k3, k4, k5, k6, k7, k8, k9, k10⟩, g1, g2, g3, g4, g5, g6, g7, _, nd, hlen, m1⟩ := td
  walk_at "go"
  all_goals exact Rt.same (d := .int (remF n.u x y)) trivial q
theorem ok_Line___init__ (T : Txt w K mg A B) : FnOk P w K mg base CX0 1 A.a_Line___init__ B.a_Line___init__ ["self", "length", "ends", "first", "hits"] (spOf K 5 (spLine A.a_Line)) := by
  refine dfn_ok T.F_Line___init__ sc_Line___init__ n_Line___init__ (fun cdv Ar outer s H E hr => (ds_cons (ds_fld (dv 0) (dv 1) T.cl_Line T.n_Line_length)
      (ds_cons (ds_fld (dv 0) (dv 2) T.cl_Line T.n_Line_ends)
      (ds_cons (ds_fld (dv 0) (dv 3) T.cl_Line T.n_Line_first)
      (ds_one (ds_fld (dv 0) (dv 4) T.cl_Line T.n_Line_hits)))))) ?_
  rintro ds S Q E bd ⟨l, a, b, c, d, rfl, hl, ⟨b1, b2, b3, b4⟩, q⟩
  have hlt : l < S.length := (List.getElem?_eq_some_iff.mp hl).1
  walk_at "go"
  rw [List.set_set, List.set_set, List.set_set]
  exact Rt.set (o := .ins A.a_Line [("length", a), ("ends", b), ("first", c), ("hits", d)]) (d := .non) trivial ⟨b1, b2, b3, b4, trivial⟩ q
theorem ok_line_at (T : Txt w K mg A B) : FnOk P w K mg base CX0 4 A.a_line_at B.a_line_at ["floor", "torus", "place"] (spOf K 3 (spLineAt A)) := by
  refine dfn_ok T.F_line_at sc_line_at n_line_at (fun cdv Ar outer s H E hr => (ds_cons (ds_set (i := 3) sc_line_at.nd rfl (.inl rfl) (de_meth (dv 1) T.cl_Torus T.m_Torus_event (ok_Torus_event T) (hr.mono (by decide)) T.b_Torus_event .nil rpl_nil pass0 n_Torus_event (da_cons (dv 2) da_nil)))
      (ds_cons (ds_if (dt_cmp od_isN (dv 3) de_non (nomark _)) (ds_one (ds_ret (de_make T.mk_Line (ok_Line___init__ T) (hr.mono (by decide)) rfl T.g_Line T.b_Line___init__ .nil rpl_nil pass0 n_Line___init__ (da_cons (de_fld (dv 1) T.cl_Torus T.n_Torus_circuit) (da_cons (de_tup da_nil) (da_cons (de_tup (da_cons de_int (da_cons (de_meth (dv 1) T.cl_Torus T.m_Torus_remainder (ok_Torus_remainder T) (hr.mono (by decide)) T.b_Torus_remainder .nil rpl_nil pass0 n_Torus_remainder (da_cons (dv 2) da_nil)) (da_cons de_int (da_cons (de_neg de_int) da_nil))))) (da_cons (de_tup da_nil) da_nil))))))) ds_nil)
      (ds_cons (ds_never _)
      (ds_cons (ds_never _)
      (ds_one (ds_never _))))))) ?_
  rintro ds S Q E bd ⟨w, h, sh, n, fs, x, y, rfl, ta, q⟩
  have g0 := ta.td.lc
  have g1 := ta.mw.2.2.1
  have g2 := ta.td.m1
  walk_at "go"
  refine ⟨fs, n, [], x, y, rfl, ta.td, ?_⟩
  walk_at "go"
  all_goals try (walk_at "no")
  refine ⟨fs, n, [], x, y, rfl, ta.td, ta.mw, ?_⟩
  generalize remF n.u x y = r at q ⊢
  walk_at "go"
  refine ⟨_, _, _, _, _, rfl, getElem_push _ _, ⟨trivial, trivial, bn_nil _ _, trivial⟩, ⟨rfl, ?_⟩⟩
  refine Rt.tree (fs := [("length", .int n.circ), ("ends", .tup []), ("first", .tup [.int 0, .int r, .int 1, .int (-1)]), ("hits", .tup [])]) (Nat.le_refl _) (List.getElem?_set_self (by rw [List.length_append]; exact Nat.lt_succ_self _)) ⟨trivial, trivial, bn_nil _ _, trivial, trivial⟩ (fun m hm => ?_) q
  rw [List.getElem?_set_ne (by omega), List.getElem?_append_left hm]
theorem ok_line_of (T : Txt w K mg A B) : FnOk P w K mg base CX0 6 A.a_line_of B.a_line_of ["floor", "ray"] (spOf K 2 (spLineOf A)) := by
  refine dfn_ok T.F_line_of sc_line_of n_line_of (fun cdv Ar outer s H E hr => (ds_cons (ds_expr (de_call (ok_check_ray T) (hr.mono (by decide)) rfl T.g_check_ray T.k_check_ray T.b_check_ray .nil rpl_nil pass0 n_check_ray (da_cons (dv 0) (da_cons (dv 1) da_nil))))
      (ds_cons (ds_set (i := 2) sc_line_of.nd rfl (.inl rfl) (de_call (ok_torus_of T) (hr.mono (by decide)) rfl T.g_torus_of T.k_torus_of T.b_torus_of .nil rpl_nil pass0 n_torus_of (da_cons (dv 0) da_nil)))
      (ds_one (ds_ret (de_call (ok_line_at T) (hr.mono (by decide)) rfl T.g_line_at T.k_line_at T.b_line_at .nil rpl_nil pass0 n_line_at (da_cons (dv 0) (da_cons (dv 2) (da_cons (de_meth (dv 2) T.cl_Torus T.m_Torus_place_of (ok_Torus_place_of T) (hr.mono (by decide)) T.b_Torus_place_of .nil rpl_nil pass0 n_Torus_place_of (da_cons (dv 1) da_nil)) da_nil))))))))) ?_
  rintro ds S Q E bd ⟨w, h, sh, x, y, dx, dy, rfl, fo, ro, q⟩
  walk_at "go"
  refine ⟨w, h, [], sh, x, y, dx, dy, rfl, fo, ro, ?_⟩
  walk_at "go"
  refine ⟨w, h, [], sh, rfl, fo, fun fs n ta => ?_⟩
  have g4 := ta.tw.m4
  walk_at "go"
  refine ⟨_, n.a, n.l, x, y, dx, dy, rfl, Or.inl ⟨fs, rfl, ta.tw⟩, ray_pl ro ⟨fo.w2, fo.h2⟩, ?_⟩
  walk_at "go"
  refine ⟨w, h, sh, n, fs, _, _, rfl, ta, ?_⟩
  rw [rem_mod ta.g (x * dx) (y * dy)]
  exact Rt.same (d := lineP _ _ _) ⟨trivial, trivial, bn_nil _ _, trivial, trivial⟩ (q _ ta.ea ta.el ta.g ta.td.ok)
end
end K

namespace K
open PySem L2 DL
/-! the source while new things lie behind it; comparisons of equal values -/
theorem ray_eqv (a b c d x y z u : Int) : PyData.eqv (py (rayD a b c d)) (py (rayD x y z u)) = decide ((a, b, c, d) = (x, y, z, u)) := by
  show ((a == x) && ((b == y) && ((c == z) && ((d == u) && true)))) = _
  rw [Bool.and_true, Bool.beq_eq_decide_eq, Bool.beq_eq_decide_eq, Bool.beq_eq_decide_eq, Bool.beq_eq_decide_eq, ← Bool.decide_and, ← Bool.decide_and, ← Bool.decide_and]
  apply decide_eq_decide.mpr
  rw [Prod.mk.injEq, Prod.mk.injEq, Prod.mk.injEq]
/-- the source has drawn, and there is something new behind -/
def SrcX (l m : Nat) (S S' : Store) : Prop := ∃ S1 ex, SrcStep l m S S1 ∧ S' = S1 ++ ex
section
variable {l m m' : Nat} {S S' S'' Y : Store}
theorem SrcX.srcAt (t : SrcX l m S S') : SrcAt S' l m := by
  obtain ⟨S1, ex, h, rfl⟩ := t
  exact h.srcAt.app
theorem SrcX.lt (t : SrcX l m S S') : l < S'.length := by
  obtain ⟨S1, ex, h, rfl⟩ := t
  obtain ⟨o, hl, ho, rfl⟩ := h
  rw [List.length_append, List.length_set]; omega
theorem SrcX.step (t : SrcX l m S S') (h : SrcStep l m' S' S'') : SrcX l m' S S'' := by
  obtain ⟨S1, ex, h1, rfl⟩ := t
  obtain ⟨o, hl, ho, e⟩ := h1
  obtain ⟨S2, h2, rfl⟩ := SrcStep.app (by rw [e, List.length_set]; exact hl) h
  exact ⟨S2, ex, SrcStep.trans ⟨o, hl, ho, e⟩ h2, rfl⟩
theorem SrcX.push (t : SrcX l m S S') : SrcX l m S (S' ++ Y) := by
  obtain ⟨S1, ex, h1, rfl⟩ := t
  exact ⟨S1, ex ++ Y, h1, by rw [List.append_assoc]⟩
theorem SrcX.mono (t : SrcX l m S S') (h : m ≤ m') : SrcX l m' S S' := by
  obtain ⟨S1, ex, h1, rfl⟩ := t
  exact ⟨S1, ex, h1.mono h, rfl⟩
theorem SrcX.refl (h : SrcAt S l m) : SrcX l m S S := ⟨S, [], SrcAt.refl h, (List.append_nil _).symm⟩
end
theorem ray_self (a b c d : Int) : PyData.eqv (py (rayD a b c d)) (py (rayD a b c d)) = true := by rw [ray_eqv, decide_eq_true rfl]
theorem str_self (s : Str) : PyData.eqv (py (.str s)) (py (.str s)) = true := by
  show (s == s) = true
  exact beq_self_eq_true s
theorem int_self (c : Int) : PyData.eqv (py (.int c)) (py (.int c)) = true := by
  show (c == c) = true
  exact beq_self_eq_true c
theorem sF {s : Str} {C : Prop} (h : PyData.eqv (py (.str s)) (py (.str s)) = false) : C := by rw [str_self] at h; cases h
theorem iF {c : Int} {C : Prop} (h : PyData.eqv (py (.int c)) (py (.int c)) = false) : C := by rw [int_self] at h; cases h
theorem pF {a b : Int} {C : Prop} (h : PyData.eqv (py (.tup [.int a, .int b])) (py (.tup [.int a, .int b])) = false) : C := by rw [pt_eqv, decide_eq_true ⟨rfl, rfl⟩] at h; cases h
theorem SrcX.ext {m : Nat} {T0 S' : Store} {o : Ob} (h : SrcX T0.length m (T0 ++ [o]) S') : ∃ ex, S' = T0 ++ ex := by
  obtain ⟨S1, ex, ⟨o', hl, ho, rfl⟩, rfl⟩ := h
  exact ⟨[o'] ++ ex, by rw [set_push, List.append_assoc]⟩
/-- rays that were drawn -/
def RaysOk (w h : Int) (ds : List D) : Prop := ∀ d ∈ ds, ∃ x y dx dy, d = rayD x y dx dy ∧ RayOk w h x y dx dy
theorem rays_bnd {w h : Int} (n : Nat) : ∀ {L : List D}, RaysOk w h L → bndL n L
  | [], _ => trivial
  | d :: r, k => by
    obtain ⟨x, y, dx, dy, rfl, _⟩ := k d List.mem_cons_self
    exact ⟨⟨trivial, trivial, trivial, trivial, trivial⟩, rays_bnd n fun d hd => k d (List.mem_cons_of_mem _ hd)⟩
/-- a new list, let go as a tree while the source has drawn -/
theorem Rt.lstS {S S1 ex : Store} {Q : DK} {l n m : Nat} {ds : List D} (h : SrcStep l n S S1) (hm : S.length ≤ m) (he : (S1 ++ ex)[m]? = some (.lst ds)) (hb : bndL S.length ds) (q : Q (.lst ds) S1) : Rt S Q (.loc m) (S1 ++ ex) := by
  refine Rt.cutTo (S'' := S1) ⟨h.len, fun l' o hl' e => ?_⟩ (.lst hm he hb) q
  rw [List.getElem?_append_left (by rw [h.len]; exact hl')] at e
  obtain ⟨o', hl, ho, rfl⟩ := h
  by_cases c : l = l'
  · subst c
    rw [List.getElem?_set_self hl] at e
    cases e
    exact Or.inr ⟨_, List.getElem?_set_self hl, .same ho.bnd⟩
  · rw [List.getElem?_set_ne c] at e
    exact Or.inl ⟨e, by rw [List.getElem?_set_ne c]; exact e⟩
end K

namespace K
open PySem L2 DL
local macro_rules | `(tactic| walk_at "w") => `(tactic| (conv => whnf))
local macro_rules | `(tactic| walk_at "at") => `(tactic| first | assumption | (refine SrcStep.get (l := ?l0) (n := ?n0) (S := ?s0) ?h1 ?h2 ?h3; (case h1 => assumption); (case h2 => omega); (case h3 => walk_at "at")) | (refine set_same (o := ?oo) ?sm; (case sm => walk_at "at")) | (refine set_other ?sm ?sn; (case sn => omega); (case sm => walk_at "at")) | (exact getElem_push _ _) | (refine app_left ?sm; (case sm => walk_at "at")) | rfl)
local macro_rules | `(tactic| walk_at "get") => `(tactic| (refine Exists.intro ?wit (And.intro ?gt ?_); (case gt => walk_at "at")))
local macro_rules | `(tactic| walk_at "bool") => `(tactic| (refine And.intro (fun hcond => ?_) (fun hcond => ?_) <;> (first | (exact absurd hcond (by decide)) | (simp only [decide_eq_true_eq, decide_eq_false_iff_not, Bool.not_eq_true', Bool.not_eq_false', Int.not_lt, Int.not_le, inD_nil, inD_int_cons, Bool.or_eq_true, Bool.or_eq_false_iff, Bool.or_false, ne_eq, Decidable.not_not] at hcond) | skip)))
local macro_rules | `(tactic| walk_at "len") => `(tactic| (refine line_le6 ?_; (try simp only [len_cat, len_e]); omega))
local macro_rules | `(tactic| walk_at "cond") => `(tactic| first | assumption | rfl | exact True.intro | omega | (exact Nat.le_of_ble_eq_true rfl) | (refine mulS ?cm1 ?cm2 <;> omega) | (refine divS ?cm1 <;> omega) | (refine And.intro ?cd1 ?cd2 <;> decide) | (exact line_le (Nat.le_of_ble_eq_true rfl)) | (exact line_lt (Nat.le_of_ble_eq_true rfl)) | (refine' Exists.intro _ (Exists.intro _ (And.intro rfl ?cm1)); (case cm1 => walk_at "at")) | (exact log_le (by omega)) | walk_at "len" | solve_by_elim | fail "no cond")
local macro_rules | `(tactic| walk_at "src") => `(tactic| first | assumption | (refine SrcStep.srcAt (S := ?ss) ?st; (case st => assumption)) | (refine SrcAt.app ?st; (case st => walk_at "src")))
local macro_rules | `(tactic| walk_at "draw") => `(tactic| (refine' Exists.intro _ (Exists.intro _ (Exists.intro ?nn (And.intro rfl (And.intro ?d1 (And.intro ?d2 (And.intro ?d3 (fun r S' h0 h1 hst => ?_))))))); (case d1 => walk_at "src"); (case d2 => omega); (case d3 => omega)))
local macro_rules | `(tactic| walk_at "steps") => `(tactic| first | assumption | (refine SrcStep.trans (n := ?sn) (S1 := ?sm) ?sx ?sy; (case sy => assumption); (case sx => walk_at "steps")) | (refine SrcAt.refl ?sz; assumption))
local macro_rules | `(tactic| walk_at "side") => `(tactic| (refine And.intro ?sd ?_; (case sd => walk_at "cond")))
local macro_rules | `(tactic| walk_at "go1") => `(tactic| (conv => whnf) <;> (first | walk_at "get" | walk_at "bool" | walk_at "draw" | walk_at "side" | fail "no step"))
local macro_rules | `(tactic| walk_at "go") => `(tactic| (repeat' (walk_at "go1")); (all_goals try (conv => whnf)))

local macro_rules | `(tactic| walk_at "no") => `(tactic| first
  | (rename_i hc0; first | exact fF hc0 | exact tF hc0)
  | (rename_i hc0 hc1; first | exact fF hc0 | exact tF hc0)
  | (rename_i hc0 hc1 hc2; first | exact fF hc0 | exact tF hc0)
  | (rename_i hc0 hc1 hc2 hc3; first | exact fF hc0 | exact tF hc0))
/-! floors without things: next_thing, the numbers of lines, no paths, no closed lines with mirrors -/
def spNextP (A : Ads) : DSp := fun ds S Q E => ∃ (w h : Int) (sh : Str) (x y dx dy : Int), ds = [floorD A.a_Floor w h [] sh, rayD x y dx dy] ∧ FlOk w h [] ∧ RayOk w h x y dx dy ∧ Q .non S
theorem n_next_thing {A : Ads} : ∀ ds S Q E, spNextP A ds S Q E → ds.length = 2 := by
  rintro ds S Q E ⟨w, h, sh, x, y, dx, dy, rfl, _⟩
  rfl
def spEnds (A : Ads) : DSp := fun ds S Q E => ∃ (w h : Int) (sh : Str), ds = [floorD A.a_Floor w h [] sh] ∧ FlOk w h [] ∧ Q (.lst []) S
theorem n_ends_of {A : Ads} : ∀ ds S Q E, spEnds A ds S Q E → ds.length = 1 := by
  rintro ds S Q E ⟨w, h, sh, rfl, _⟩
  rfl
def spPaths (A : Ads) : DSp := fun ds S Q E => ∃ (w h : Int) (sh : Str), ds = [floorD A.a_Floor w h [] sh] ∧ FlOk w h [] ∧ Q (.tup []) S
theorem n_paths {A : Ads} : ∀ ds S Q E, spPaths A ds S Q E → ds.length = 1 := by
  rintro ds S Q E ⟨w, h, sh, rfl, _⟩
  rfl
theorem n_closed_lines {A : Ads} : ∀ ds S Q E, spPaths A ds S Q E → ds.length = 1 := n_paths
def spFollowing (A : Ads) : DSp := fun ds S Q E => ∃ (n : TNum) (fs : List (Str × D)), ds = [.obj A.a_Torus fs] ∧ TD n [] fs ∧ Q (.loc S.length) (S ++ [.dk []])
theorem n_following_places {A : Ads} : ∀ ds S Q E, spFollowing A ds S Q E → ds.length = 1 := by
  rintro ds S Q E ⟨n, fs, rfl, _⟩
  rfl
def spRemoved : DSp := fun ds S Q E => ∃ a b : D, ds = [a, b, .lst []] ∧ Q .non S
theorem n_removed_paths : ∀ ds S Q E, spRemoved ds S Q E → ds.length = 3 := by
  rintro ds S Q E ⟨a, b, rfl, _⟩
  rfl
def spCount (A : Ads) : DSp := fun ds S Q E => ∃ (w h : Int) (sh : Str), ds = [floorD A.a_Floor w h [] sh] ∧ FlOk w h [] ∧ ∀ n, n.a = 4 * w → n.l = 4 * h → TGood n → n.Ok → Q (.int (n.u / 2 / 2)) S
theorem n_count_closed {A : Ads} : ∀ ds S Q E, spCount A ds S Q E → ds.length = 1 := by
  rintro ds S Q E ⟨w, h, sh, rfl, _⟩
  rfl
def spCountOf (A : Ads) : DSp := fun ds S Q E => ∃ (w h : Int) (sh : Str), ds = [floorD A.a_Floor w h [] sh, .tup []] ∧ FlOk w h [] ∧ ∀ n, n.a = 4 * w → n.l = 4 * h → TGood n → n.Ok → Q (.int (n.u / 2 / 2)) S
theorem n_count_of {A : Ads} : ∀ ds S Q E, spCountOf A ds S Q E → ds.length = 2 := by
  rintro ds S Q E ⟨w, h, sh, rfl, _⟩
  rfl
section
variable {P : Program} {w : World} {K : PySem.W.Frag} {mg : Str → Option Value} {base : Heap} {A : Ads} {B : Fds}
theorem ok_next_thing (T : Txt w K mg A B) : FnOk P w K mg base CX0 7 A.a_next_thing B.a_next_thing ["floor", "ray"] (spOf K 2 (spNextP A)) := by
  refine dfn_ok T.F_next_thing sc_next_thing n_next_thing (fun cdv Ar outer s H E hr => (ds_cons (ds_expr (de_call (ok_check_ray T) (hr.mono (by decide)) rfl T.g_check_ray T.k_check_ray T.b_check_ray .nil rpl_nil pass0 n_check_ray (da_cons (dv 0) (da_cons (dv 1) da_nil))))
      (ds_cons (ds_set (i := 2) sc_next_thing.nd rfl (.inl rfl) (de_call (ok_torus_of T) (hr.mono (by decide)) rfl T.g_torus_of T.k_torus_of T.b_torus_of .nil rpl_nil pass0 n_torus_of (da_cons (dv 0) da_nil)))
      (ds_cons (ds_set (i := 3) sc_next_thing.nd rfl (.inl rfl) (de_meth (dv 2) T.cl_Torus T.m_Torus_event (ok_Torus_event T) (hr.mono (by decide)) T.b_Torus_event .nil rpl_nil pass0 n_Torus_event (da_cons (de_meth (dv 2) T.cl_Torus T.m_Torus_place_of (ok_Torus_place_of T) (hr.mono (by decide)) T.b_Torus_place_of .nil rpl_nil pass0 n_Torus_place_of (da_cons (dv 1) da_nil)) da_nil)))
      (ds_one (ds_ret (de_ifExp (dt_cmp od_isN (dv 3) de_non (nomark _)) de_non (de_tup (da_cons (de_fld (dv 3) T.cl_Event T.n_Event_steps) (da_cons (de_fld (dv 3) T.cl_Event T.n_Event_number) da_nil)))))))))) ?_
  rintro ds S Q E bd ⟨w, h, sh, x, y, dx, dy, rfl, fo, r, q⟩
  walk_at "go"
  refine ⟨w, h, [], sh, x, y, dx, dy, rfl, fo, r, ?_⟩
  walk_at "go"
  refine ⟨w, h, [], sh, rfl, fo, fun fs n ta => ?_⟩
  have g4 := ta.tw.m4
  have g5 := ta.td.m1
  walk_at "go"
  refine ⟨_, n.a, n.l, x, y, dx, dy, rfl, Or.inl ⟨fs, rfl, ta.tw⟩, ray_pl r ⟨fo.w2, fo.h2⟩, ?_⟩
  walk_at "go"
  refine ⟨fs, n, [], _, _, rfl, ta.td, ?_⟩
  walk_at "go"
  all_goals try (walk_at "no")
  exact Rt.same (d := .non) trivial q
theorem ok_ends_of (T : Txt w K mg A B) : FnOk P w K mg base CX0 1 A.a_ends_of B.a_ends_of ["floor"] (spOf K 1 (spEnds A)) := by
  refine dfn_ok T.F_ends_of sc_ends_of n_ends_of (fun cdv Ar outer s H E hr => (ds_cons (ds_set (i := 1) sc_ends_of.nd rfl (.inl rfl) (de_lst da_nil))
      (ds_cons (ds_for PassesOwn.never rfl (di_tup (de_fld (dv 0) T.cl_Floor T.n_Floor_things)) (dg_tup (n := 3) rfl (dgs_cons (dg_name (i := 2) sc_ends_of.nd rfl (.inr rfl)) (dgs_cons (dg_name (i := 3) sc_ends_of.nd rfl (.inr rfl)) (dgs_cons (dg_name (i := 4) sc_ends_of.nd rfl (.inl rfl)) dgs_nil)))) (dss_never _))
      (ds_one (ds_ret (de_gc (de_callB (cd_sortTI (hu65 hr)) rfl T.z_sorted (by decide +kernel) (da_cons (dv 1) da_nil)))))))) ?_
  rintro ds S Q E bd ⟨w, h, sh, rfl, fo, q⟩
  walk_at "go"
  rw [show (List.map Th.d ([] : List Th)) = [] from rfl, forL_nil]
  walk_at "go"
  refine ⟨[], rfl, (fun _ h => nomatch h), fun mss hp _ => ?_⟩
  cases (List.perm_nil.mp hp)
  refine Rt.lstT (ds := []) (Nat.le_refl _) (getElem_push _ _) trivial (fun m hm => List.getElem?_append_left hm) ?_
  exact Rt.pure (d := .lst []) trivial q
theorem ok_removed_paths (T : Txt w K mg A B) : FnOk P w K mg base CX0 1 A.a_removed_paths B.a_removed_paths ["torus", "after", "ends"] (spOf K 3 spRemoved) := by
  refine dfn_ok T.F_removed_paths sc_removed_paths n_removed_paths (fun cdv Ar outer s H E hr => (ds_one (ds_for PassesOwn.never rfl (di_lst (dv 2)) (dg_name (i := 3) sc_removed_paths.nd rfl (.inl rfl)) (dss_never _)))) ?_
  rintro ds S Q E bd ⟨a, b, rfl, q⟩
  walk_at "go"
  rw [forL_nil]
  walk_at "go"
  exact Rt.same (d := .non) trivial q
theorem ok_following_places (T : Txt w K mg A B) : FnOk P w K mg base CX0 1 A.a_following_places B.a_following_places ["torus"] (spOf K 1 (spFollowing A)) := by
  refine dfn_ok T.F_following_places sc_following_places n_following_places (fun cdv Ar outer s H E hr => (ds_cons (ds_lcV0 (i := 0) (j := 1) (own := [("number", 2), ("left", 3)]) rfl sc_following_places.nd rfl (by first | exact Or.inl rfl | exact Or.inr (Or.inl rfl) | exact Or.inr (Or.inr rfl)) T.cl_Torus T.n_Torus_targets rfl rfl (sw_true rfl rfl rfl (by decide +kernel)) (blkOk_by (own := [("number", 2), ("left", 3)]) (N := ["torus", "places", "number", "left", "place"]) (sc := defScope s_following_places) (by decide +kernel)))
      (ds_one (ds_ret (de_dc0 (own := [("place", 4)]) rfl sc_following_places.nd (dv 1) (blkOk_by (own := [("place", 4)]) (N := ["torus", "places", "number", "left", "place"]) (sc := defScope s_following_places) (by decide +kernel))))))) ?_
  rintro ds S Q E bd ⟨n, fs, rfl, td, q⟩
  have g1 := td.lt
  walk_at "go"
  refine ⟨getElem_push _ _, ?_⟩
  rw [List.append_assoc]
  exact Rt.locN (ob := .dk []) (by rw [List.length_append]; omega) (by rw [← List.append_assoc]; exact getElem_push _ _) trivial q
theorem ok_count_of (T : Txt w K mg A B) : FnOk P w K mg base CX0 6 A.a_count_of B.a_count_of ["floor", "things"] (spOf K 2 (spCountOf A)) := by
  refine dfn_ok T.F_count_of sc_count_of n_count_of (fun cdv Ar outer s H E hr => (ds_cons (ds_set (i := 2) sc_count_of.nd rfl (.inr rfl) (de_gc (de_make T.mk_Torus (ok_Torus___init__ T) (hr.mono (by decide)) rfl T.g_Torus T.b_Torus___init__ .nil rpl_nil pass0 n_Torus___init__ (da_cons (de_fld (dv 0) T.cl_Floor T.n_Floor_width) (da_cons (de_fld (dv 0) T.cl_Floor T.n_Floor_height) (da_cons (dv 1) da_nil))))))
      (ds_cons (ds_set (i := 3) sc_count_of.nd rfl (.inl rfl) (de_call (ok_following_places T) (hr.mono (by decide)) rfl T.g_following_places T.k_following_places T.b_following_places .nil rpl_nil pass0 n_following_places (da_cons (dv 2) da_nil)))
      (ds_cons (ds_set (i := 4) sc_count_of.nd rfl (.inl rfl) (de_gc (de_lst da_nil)))
      (ds_cons (ds_for PassesOwn.never rfl (di_tup (dv 1)) (dg_tup (n := 3) rfl (dgs_cons (dg_name (i := 5) sc_count_of.nd rfl (.inr rfl)) (dgs_cons (dg_name (i := 6) sc_count_of.nd rfl (.inr rfl)) (dgs_cons (dg_name (i := 7) sc_count_of.nd rfl (.inl rfl)) dgs_nil)))) (dss_never _))
      (ds_cons (ds_expr (de_call (ok_removed_paths T) (hr.mono (by decide)) rfl T.g_removed_paths T.k_removed_paths T.b_removed_paths .nil rpl_nil pass0 n_removed_paths (da_cons (dv 2) (da_cons (dv 3) (da_cons (dv 4) da_nil)))))
      (ds_cons (ds_set (i := 8) sc_count_of.nd rfl (.inl rfl) de_int)
      (ds_cons (ds_while PassesOwn.never (dt_cmp (od_ne0 (lt64 hr.units)) (dv 3) de_newK (nomark _)) (dss_never _))
      (ds_cons (ds_scK0 (i := 2) (j := 9) (own := [("x", 5), ("y", 6)]) (w' := w) rfl rfl sc_count_of.nd rfl (by first | exact Or.inl rfl | exact Or.inr (Or.inl rfl) | exact Or.inr (Or.inr rfl)) T.cl_Torus T.n_Torus_targets rfl rfl (sw_trueS rfl rfl rfl (by decide +kernel)) (blkOk_by (own := [("x", 5), ("y", 6)]) (N := ["floor", "things", "torus", "after", "ends", "x", "y", "kind", "circles", "touched", "place", "following", "dx", "dy"]) (sc := defScope s_count_of) (by decide +kernel)))
      (ds_one (ds_ret (de_op od_add (de_op od_div (dv 8) de_int) (de_op od_div (de_op od_sub (de_op od_div (de_fld (dv 2) T.cl_Torus T.n_Torus_unit) de_int) (de_callB (cd_len0 (w' := w) rfl) rfl T.z_len (by decide +kernel) (da_cons (dv 9) da_nil))) de_int))))))))))))) ?_
  rintro ds S Q E bd ⟨w, h, sh, rfl, fo, q⟩
  walk_at "go"
  refine ⟨S.length, w, h, [], rfl, getElem_push _ _, fo, fun fs n td g mw ea el tw fb => ⟨rfl, ?_⟩⟩
  refine Rt.tree (fs := fs) (Nat.le_refl _) (List.getElem?_set_self (by rw [List.length_append]; exact Nat.lt_succ_self _)) (fb _) (fun m hm => ?_) ?_
  · rw [List.getElem?_set_ne (by omega), List.getElem?_append_left hm]
  have g1 := td.lt
  have g2 := td.lu
  walk_at "go"
  refine ⟨n, fs, rfl, td, ?_⟩
  walk_at "go"
  refine Rt.lstT (ds := []) (Nat.le_refl _) (getElem_push _ _) trivial (fun m hm => List.getElem?_append_left hm) ?_
  walk_at "go"
  rw [forL_nil]
  walk_at "go"
  refine ⟨_, _, rfl, ?_⟩
  walk_at "go"
  refine ⟨fun m ρ S' => ρ = [some (floorD A.a_Floor w h [] sh), some (.tup []), some (.obj A.a_Torus fs), some (.loc S.length), some (.lst []), none, none, none, some (.int 0), none, none, none, none, none] ∧ S' = S ++ [.dk []], ⟨0, rfl, rfl⟩, ?_⟩
  rintro m ρ S' ⟨rfl, rfl⟩
  walk_at "go"
  refine ⟨S.length, (S ++ [Ob.dk []]).length, rfl, rfl, app_left (getElem_push _ _), getElem_push _ _, ⟨fun h => (nomatch h), fun _ => ?_⟩⟩
  walk_at "go"
  refine ⟨getElem_push _ _, ?_⟩
  walk_at "go"
  have e : (0 : Int) / 2 + (n.u / 2 - 0) / 2 = n.u / 2 / 2 := by omega
  have q2 := q n ea el g td.ok
  rw [← e] at q2
  rw [List.append_assoc, List.append_assoc]
  exact Rt.pure (d := .int _) trivial q2
theorem ok_count_closed (T : Txt w K mg A B) : FnOk P w K mg base CX0 7 A.a_count_closed B.a_count_closed ["floor"] (spOf K 1 (spCount A)) := by
  refine dfn_ok T.F_count_closed sc_count_closed n_count_closed (fun cdv Ar outer s H E hr => (ds_one (ds_ret (de_call (ok_count_of T) (hr.mono (by decide)) rfl T.g_count_of T.k_count_of T.b_count_of .nil rpl_nil pass0 n_count_of (da_cons (dv 0) (da_cons (de_fld (dv 0) T.cl_Floor T.n_Floor_things) da_nil)))))) ?_
  rintro ds S Q E bd ⟨w, h, sh, rfl, fo, q⟩
  walk_at "go"
  refine ⟨w, h, sh, rfl, fo, fun n e1 e2 e3 e4 => ?_⟩
  exact Rt.same (d := .int _) trivial (q n e1 e2 e3 e4)
theorem ok_paths (T : Txt w K mg A B) : FnOk P w K mg base CX0 6 A.a_paths B.a_paths ["floor"] (spOf K 1 (spPaths A)) := by
  refine dfn_ok T.F_paths sc_paths n_paths (fun cdv Ar outer s H E hr => (ds_cons (ds_set (i := 1) sc_paths.nd rfl (.inl rfl) (de_call (ok_torus_of T) (hr.mono (by decide)) rfl T.g_torus_of T.k_torus_of T.b_torus_of .nil rpl_nil pass0 n_torus_of (da_cons (dv 0) da_nil)))
      (ds_cons (ds_set (i := 2) sc_paths.nd rfl (.inr rfl) de_newT)
      (ds_cons (ds_for PassesOwn.never rfl (di_lst (de_call (ok_ends_of T) (hr.mono (by decide)) rfl T.g_ends_of T.k_ends_of T.b_ends_of .nil rpl_nil pass0 n_ends_of (da_cons (dv 0) da_nil))) (dg_name (i := 3) sc_paths.nd rfl (.inl rfl)) (dss_never _))
      (ds_one (ds_ret (de_callTy cd_tuple rfl T.z_tuple (by decide +kernel) (da_cons (de_gc (de_lc (own := [("first", 4)]) rfl sc_paths.nd (di_lst (de_gc (de_callB (cd_sortDT rfl (hu65 hr)) rfl T.z_sorted (by decide +kernel) (da_cons (dv 2) da_nil)))) (blkOk_by (own := [("first", 4)]) (N := ["floor", "torus", "found", "end", "first", "line"]) (sc := defScope s_paths) (by decide +kernel)) (fun _ _ _ _ _ => (dg_name (i := 4) sc_paths.nd rfl (.inl rfl))) (fun _ _ _ _ _ => dts_nil) (fun _ _ _ _ _ => (de_dget (hu65 hr) (dv 2) (dv 4) (by intro _ _; rfl))))) da_nil)))))))) ?_
  rintro ds S Q E bd ⟨w, h, sh, rfl, fo, q⟩
  walk_at "go"
  refine ⟨w, h, [], sh, rfl, fo, fun fs n ta => ?_⟩
  walk_at "go"
  refine ⟨w, h, sh, rfl, fo, ?_⟩
  walk_at "go"
  rw [forL_nil]
  walk_at "go"
  refine ⟨S.length, [], [], rfl, getElem_push _ _, rfl, (fun _ h => nomatch h), fun mss hp _ => ?_⟩
  cases (List.perm_nil.mp hp)
  refine Rt.lstT (ds := []) (Nat.le_refl _) (getElem_push _ _) trivial (fun m hm => List.getElem?_append_left hm) ?_
  walk_at "go"
  rw [compL_nil]
  refine Rt.lstT (ds := []) (Nat.le_refl _) (getElem_push _ _) trivial (fun m hm => List.getElem?_append_left hm) ?_
  walk_at "go"
  exact Rt.pure (d := .tup []) trivial q
theorem ok_closed_lines (T : Txt w K mg A B) : FnOk P w K mg base CX0 6 A.a_closed_lines B.a_closed_lines ["floor"] (spOf K 1 (spPaths A)) := by
  refine dfn_ok T.F_closed_lines sc_closed_lines n_closed_lines (fun cdv Ar outer s H E hr => (ds_cons (ds_set (i := 1) sc_closed_lines.nd rfl (.inl rfl) (de_call (ok_torus_of T) (hr.mono (by decide)) rfl T.g_torus_of T.k_torus_of T.b_torus_of .nil rpl_nil pass0 n_torus_of (da_cons (dv 0) da_nil)))
      (ds_cons (ds_set (i := 2) sc_closed_lines.nd rfl (.inl rfl) (de_call (ok_following_places T) (hr.mono (by decide)) rfl T.g_following_places T.k_following_places T.b_following_places .nil rpl_nil pass0 n_following_places (da_cons (dv 1) da_nil)))
      (ds_cons (ds_expr (de_call (ok_removed_paths T) (hr.mono (by decide)) rfl T.g_removed_paths T.k_removed_paths T.b_removed_paths .nil rpl_nil pass0 n_removed_paths (da_cons (dv 1) (da_cons (dv 2) (da_cons (de_call (ok_ends_of T) (hr.mono (by decide)) rfl T.g_ends_of T.k_ends_of T.b_ends_of .nil rpl_nil pass0 n_ends_of (da_cons (dv 0) da_nil)) da_nil)))))
      (ds_cons (ds_set (i := 3) sc_closed_lines.nd rfl (.inr rfl) de_newT)
      (ds_cons (ds_while PassesOwn.never (dt_cmp (od_ne0 (lt64 hr.units)) (dv 2) de_newK (nomark _)) (dss_never _))
      (ds_one (ds_ret (de_callTy cd_tuple rfl T.z_tuple (by decide +kernel) (da_cons (de_gc (de_lc (own := [("first", 8)]) rfl sc_closed_lines.nd (di_lst (de_gc (de_callB (cd_sortDT rfl (hu65 hr)) rfl T.z_sorted (by decide +kernel) (da_cons (dv 3) da_nil)))) (blkOk_by (own := [("first", 8)]) (N := ["floor", "torus", "after", "found", "line", "event", "ray", "place", "first"]) (sc := defScope s_closed_lines) (by decide +kernel)) (fun _ _ _ _ _ => (dg_name (i := 8) sc_closed_lines.nd rfl (.inl rfl))) (fun _ _ _ _ _ => dts_nil) (fun _ _ _ _ _ => (de_dget (hu65 hr) (dv 3) (dv 8) (by intro _ _; rfl))))) da_nil)))))))))) ?_
  rintro ds S Q E bd ⟨w, h, sh, rfl, fo, q⟩
  walk_at "go"
  refine ⟨w, h, [], sh, rfl, fo, fun fs n ta => ?_⟩
  walk_at "go"
  refine ⟨n, fs, rfl, ta.td, ?_⟩
  walk_at "go"
  refine ⟨w, h, sh, rfl, fo, ?_⟩
  walk_at "go"
  refine ⟨_, _, rfl, ?_⟩
  walk_at "go"
  refine ⟨fun m ρ S' => ρ = [some (floorD A.a_Floor w h [] sh), some (.obj A.a_Torus fs), some (.loc S.length), some (.loc (S ++ [Ob.dk []]).length), none, none, none, none, none] ∧ S' = S ++ [.dk []] ++ [.dt []], ⟨0, rfl, rfl⟩, ?_⟩
  rintro m ρ S' ⟨rfl, rfl⟩
  walk_at "go"
  refine ⟨S.length, (S ++ [Ob.dk []] ++ [Ob.dt []]).length, rfl, rfl, app_left (app_left (getElem_push _ _)), getElem_push _ _, ⟨fun h => (nomatch h), fun _ => ?_⟩⟩
  walk_at "go"
  refine ⟨(S ++ [Ob.dk []]).length, [], [], rfl, app_left (getElem_push _ _), rfl, (fun _ h => nomatch h), fun mss hp _ => ?_⟩
  cases (List.perm_nil.mp hp)
  refine Rt.lstT (ds := []) (Nat.le_refl _) (getElem_push _ _) trivial (fun m hm => List.getElem?_append_left hm) ?_
  walk_at "go"
  rw [compL_nil]
  refine Rt.lstT (ds := []) (Nat.le_refl _) (getElem_push _ _) trivial (fun m hm => List.getElem?_append_left hm) ?_
  walk_at "go"
  rw [List.append_assoc, List.append_assoc]
  exact Rt.pure (d := .tup []) trivial q
end
end K

namespace K
open PySem L2 DL
/-! k13, plain law: the remainder that tells a line, the number of lines at a point, the round of a line -/
theorem remF_congr {u X Y X' Y' : Int} (h : (X - Y) % u = (X' - Y') % u) : remF u X Y = remF u X' Y' := by
  unfold remF
  rw [h]
theorem remF_neg {u X Y X' Y' : Int} (hu : 1 < u) (h : (X - Y) % u = (Y' - X') % u) : remF u X Y = remF u X' Y' := by
  unfold remF
  rw [h]
  have e : (X' - Y') % u = if (Y' - X') % u = 0 then 0 else u - (Y' - X') % u := by
    have := em_neg hu (X := Y' - X')
    rw [show X' - Y' = 0 - (Y' - X') by omega]
    exact this
  rw [e]
  have r0 := Int.emod_nonneg (Y' - X') (show u ≠ 0 by omega)
  have r1 := Int.emod_lt_of_pos (Y' - X') (show 0 < u by omega)
  generalize (Y' - X') % u = r at *
  repeat' split
  all_goals omega
theorem remF_rng {u X Y : Int} (hu : 0 < u) : 0 ≤ remF u X Y ∧ remF u X Y ≤ u := by
  unfold remF
  have r0 := Int.emod_nonneg (X - Y) (show u ≠ 0 by omega)
  have r1 := Int.emod_lt_of_pos (X - Y) hu
  split <;> omega
/-- the lines at a point: by the remainders of both ways through it -/
def cntL (u x y : Int) : Nat := if remF u x y = remF u x (0 - y) then 1 else 2
/-- both are one at a wall -/
theorem cnt_wall {w h u x y : Int} (hu : 1 < u) (uw : u ∣ 4 * w) (uh : u ∣ 4 * h) (hx : x = 0 ∨ x = 2 * w ∨ y = 0 ∨ y = 2 * h) : remF u x y = remF u x (0 - y) := by
  have em : ∀ a b : Int, u ∣ a - b → a % u = b % u := fun a b h => Int.emod_eq_emod_iff_emod_sub_eq_zero.mpr (Int.emod_eq_zero_of_dvd h)
  rcases hx with rfl | rfl | rfl | rfl
  · exact remF_neg hu (em _ _ ⟨0, by omega⟩)
  · refine remF_neg hu (em _ _ ?_)
    rw [show 2 * w - y - (0 - y - 2 * w) = 4 * w by omega]; exact uw
  · exact remF_congr (em _ _ ⟨0, by omega⟩)
  · refine remF_congr (em _ _ ?_)
    rw [show x - 2 * h - (x - (0 - 2 * h)) = 0 - 4 * h by omega]
    exact Int.dvd_sub (Int.dvd_zero u) uh
/-- a ray's own remainder and the crossing one -/
theorem own_cross {u x y dx dy : Int} (hu : 1 < u) (hdx : dx = 1 ∨ dx = -1) (hdy : dy = 1 ∨ dy = -1) :
    (remF u (x * dx) (y * dy) = remF u x y ∧ remF u (x * dx) (y * (0 - dy)) = remF u x (0 - y)) ∨ (remF u (x * dx) (y * dy) = remF u x (0 - y) ∧ remF u (x * dx) (y * (0 - dy)) = remF u x y) := by
  have em : ∀ a b : Int, a = b → a % u = b % u := fun a b h => by rw [h]
  rcases hdx with rfl | rfl <;> rcases hdy with rfl | rfl
  · exact Or.inl ⟨remF_congr (em _ _ (by omega)), remF_congr (em _ _ (by omega))⟩
  · exact Or.inr ⟨remF_congr (em _ _ (by omega)), remF_congr (em _ _ (by omega))⟩
  · exact Or.inr ⟨remF_neg hu (em _ _ (by omega)), remF_neg hu (em _ _ (by omega))⟩
  · exact Or.inl ⟨remF_neg hu (em _ _ (by omega)), remF_neg hu (em _ _ (by omega))⟩
/-- what the law expects at a point -/
theorem due_cnt {w h u x y dx dy : Int} (hu : 1 < u) (uw : u ∣ 4 * w) (uh : u ∣ 4 * h) (ro : RayOk w h x y dx dy) :
    ((cntL u x y : Nat) : Int) = if ((0 < x ∧ x < 2 * w) ∧ 0 < y ∧ y < 2 * h) ∧ remF u (x * dx) (y * (0 - dy)) ≠ remF u (x * dx) (y * dy) then 2 else 1 := by
  obtain ⟨a1, a2, a3, a4, a5, hdx, hdy, _⟩ := id ro
  unfold cntL
  have oc := own_cross (x := x) (y := y) hu hdx hdy
  by_cases hin : (0 < x ∧ x < 2 * w) ∧ 0 < y ∧ y < 2 * h
  · rcases oc with ⟨e1, e2⟩ | ⟨e1, e2⟩
    · rw [e1, e2]
      by_cases e : remF u x y = remF u x (0 - y)
      · rw [if_pos e, if_neg (fun k => k.2 e.symm)]; rfl
      · rw [if_neg e, if_pos ⟨hin, fun k => e k.symm⟩]; rfl
    · rw [e1, e2]
      by_cases e : remF u x y = remF u x (0 - y)
      · rw [if_pos e, if_neg (fun k => k.2 e)]; rfl
      · rw [if_neg e, if_pos ⟨hin, e⟩]; rfl
  · rw [if_pos (cnt_wall hu uw uh (by omega)), if_neg (fun k => hin k.1)]; rfl
/-- the remainders found, one after another -/
def accR (rs : List Int) (b : Bool) (r : Int) : List Int := if b = true then (if r ∈ rs then rs else rs ++ [r]) else rs
theorem acc_len {A B : Int} {b0 b1 b2 b3 : Bool} (h1 : A ≠ B → (b0 = true ∨ b3 = true) ∧ (b1 = true ∨ b2 = true)) (h2 : b0 = true ∨ b1 = true ∨ b2 = true ∨ b3 = true) :
    (accR (accR (accR (accR [] b0 A) b1 B) b2 B) b3 A).length = if A = B then 1 else 2 := by
  by_cases e : A = B
  · subst e
    rw [if_pos rfl]
    cases b0 <;> cases b1 <;> cases b2 <;> cases b3 <;> simp [accR] at h2 ⊢
  · rw [if_neg e]
    have e' : ¬ B = A := fun k => e k.symm
    have h1 := h1 e
    cases b0 <;> cases b1 <;> cases b2 <;> cases b3 <;> simp [accR, e, e'] at h1 ⊢
/-- the four ways from a point -/
def wx (k : Nat) : Int := if k < 2 then -1 else 1
def wy (k : Nat) : Int := if k % 2 = 0 then -1 else 1
theorem wx_pm (k : Nat) : wx k = 1 ∨ wx k = -1 := by unfold wx; split <;> simp
theorem wy_pm (k : Nat) : wy k = 1 ∨ wy k = -1 := by unfold wy; split <;> simp
def onB (w h x y : Int) (k : Nat) : Bool := decide (0 ≤ x + wx k ∧ x + wx k ≤ 2 * w ∧ 0 ≤ y + wy k ∧ y + wy k ≤ 2 * h)
def accK (w h u x y : Int) : Nat → List Int
  | 0 => []
  | k + 1 => accR (accK w h u x y k) (onB w h x y k) (remF u (x * wx k) (y * wy k))
theorem accR_le (rs : List Int) (b : Bool) (r : Int) : (accR rs b r).length ≤ rs.length + 1 := by
  unfold accR
  split
  · split
    · omega
    · rw [List.length_append]; simp
  · omega
theorem accK_le (w h u x y : Int) : ∀ k, (accK w h u x y k).length ≤ k
  | 0 => Nat.le_refl _
  | k + 1 => by
    have h1 := accR_le (accK w h u x y k) (onB w h x y k) (remF u (x * wx k) (y * wy k))
    have h2 := accK_le w h u x y k
    show (accR _ _ _).length ≤ _
    omega
theorem accK_len {w h u x y : Int} (hu : 1 < u) (uw : u ∣ 4 * w) (uh : u ∣ 4 * h) (hw : 1 ≤ w) (hh : 1 ≤ h) (pt : 0 ≤ x ∧ x ≤ 2 * w ∧ 0 ≤ y ∧ y ≤ 2 * h ∧ (x + y) % 2 = 1) : (accK w h u x y 4).length = cntL u x y := by
  have r0 : remF u (x * wx 0) (y * wy 0) = remF u x y := remF_neg hu (by rw [show x * wx 0 - y * wy 0 = y - x by show x * -1 - y * -1 = _; omega])
  have r1 : remF u (x * wx 1) (y * wy 1) = remF u x (0 - y) := remF_neg hu (by rw [show x * wx 1 - y * wy 1 = 0 - y - x by show x * -1 - y * 1 = _; omega])
  have r2 : remF u (x * wx 2) (y * wy 2) = remF u x (0 - y) := remF_congr (by rw [show x * wx 2 - y * wy 2 = x - (0 - y) by show x * 1 - y * -1 = _; omega])
  have r3 : remF u (x * wx 3) (y * wy 3) = remF u x y := remF_congr (by rw [show x * wx 3 - y * wy 3 = x - y by show x * 1 - y * 1 = _; omega])
  have o : ∀ k, onB w h x y k = true ↔ (0 ≤ x + wx k ∧ x + wx k ≤ 2 * w ∧ 0 ≤ y + wy k ∧ y + wy k ≤ 2 * h) := fun k => decide_eq_true_iff
  have e0 : wx 0 = -1 := rfl
  have e1 : wx 1 = -1 := rfl
  have e2 : wx 2 = 1 := rfl
  have e3 : wx 3 = 1 := rfl
  have f0 : wy 0 = -1 := rfl
  have f1 : wy 1 = 1 := rfl
  have f2 : wy 2 = -1 := rfl
  have f3 : wy 3 = 1 := rfl
  have o0 := o 0
  have o1 := o 1
  have o2 := o 2
  have o3 := o 3
  rw [e0, f0] at o0
  rw [e1, f1] at o1
  rw [e2, f2] at o2
  rw [e3, f3] at o3
  show (accR (accR (accR (accR [] (onB w h x y 0) _) (onB w h x y 1) _) (onB w h x y 2) _) (onB w h x y 3) _).length = _
  rw [r0, r1, r2, r3]
  refine acc_len (fun hne => ?_) ?_
  · have hin : ¬ (x = 0 ∨ x = 2 * w ∨ y = 0 ∨ y = 2 * h) := fun k => hne (cnt_wall hu uw uh k)
    exact ⟨Or.inl (o0.mpr (by omega)), Or.inl (o1.mpr (by omega))⟩
  · rw [o0, o1, o2, o3]
    omega
theorem unit_big {w h : Int} {n : TNum} (ea : n.a = 4 * w) (el : n.l = 4 * h) (g : TGood n) : 1 < n.u := by
  obtain ⟨g1, g2, g3, g4, g5, g6, g7⟩ := g
  obtain ⟨a', ha⟩ := g4
  have ed : n.a / n.u = a' := by rw [ha]; exact Int.mul_ediv_cancel_left _ (by omega)
  rw [ed] at g7
  obtain ⟨q, hq⟩ := g7
  have hd : (4 : Int) ∣ n.u := by
    have d1 : (4 : Int) ∣ n.a := by rw [ea]; exact ⟨w, rfl⟩
    have d2 : (4 : Int) ∣ n.l := by rw [el]; exact ⟨h, rfl⟩
    have e : n.u = n.a * n.fac - n.l * q := by
      have h2 : n.u * (n.fac * a' - 1) = n.u * (n.rest * q) := by rw [hq]
      rw [Int.mul_sub, Int.mul_one] at h2
      rw [ha, g5, Int.mul_assoc, Int.mul_comm a', Int.mul_assoc]
      omega
    rw [e]
    exact Int.dvd_sub (Int.dvd_mul_of_dvd_left d1) (Int.dvd_mul_of_dvd_left d2)
  have := Int.le_of_dvd g2 hd
  omega
/-- the unit and the round, by the greatest common divisor -/
theorem round_val {w h g : Int} {n : TNum} (ea : n.a = 4 * w) (el : n.l = 4 * h) (tg : TGood n) (g0 : 0 < g) (hu : n.u = 4 * g) : n.circ = 4 * w * h / g ∧ n.u / 2 / 2 = g := by
  have h1 := tg.hl
  rw [hu, el, Int.mul_assoc] at h1
  have h2 : h = g * n.rest := by omega
  refine ⟨?_, by omega⟩
  rw [tg.hc, ea, h2, Int.mul_comm g, ← Int.mul_assoc, Int.mul_ediv_cancel _ (by omega)]
theorem half_away {w h N : Int} {r : Ray} (hw : 1 ≤ w) (hh : 1 ≤ h) (p : Per w h N) (e : rayOf (4 * w) (4 * h) (pX r + N / 2) (pY r + N / 2) = r) : False := by
  have hp := p.pos
  obtain ⟨q, hq⟩ := p.dw
  have h4 : 4 ≤ N := by
    have : 4 * 1 ≤ 4 * (w * q) := by
      have : 1 ≤ w * q := by rw [hq, Int.mul_assoc] at hp; omega
      omega
    rw [hq, Int.mul_assoc]; omega
  have e1 := pX_rayOf (w := w) (h := h) (X := pX r + N / 2) (Y := pY r + N / 2) hw
  have e2 := pY_rayOf (w := w) (h := h) (X := pX r + N / 2) (Y := pY r + N / 2) hh
  rw [e] at e1 e2
  have d1 := dvd_em e1.symm
  have d2 := dvd_em e2.symm
  rw [show pX r + N / 2 - pX r = N / 2 by omega] at d1
  rw [show pY r + N / 2 - pY r = N / 2 by omega] at d2
  have := p.least (N / 2) (by omega) d1 d2
  omega
end K

namespace K
open PySem L2 DL
local macro_rules | `(tactic| walk_at "w") => `(tactic| (conv => whnf))
local macro_rules | `(tactic| walk_at "at") => `(tactic| first | assumption | (refine SrcStep.get (l := ?l0) (n := ?n0) (S := ?s0) ?h1 ?h2 ?h3; (case h1 => assumption); (case h2 => omega); (case h3 => walk_at "at")) | (refine set_same (o := ?oo) ?sm; (case sm => walk_at "at")) | (refine set_other ?sm ?sn; (case sn => omega); (case sm => walk_at "at")) | (exact getElem_push _ _) | (refine app_left ?sm; (case sm => walk_at "at")) | rfl)
local macro_rules | `(tactic| walk_at "get") => `(tactic| (refine Exists.intro ?wit (And.intro ?gt ?_); (case gt => walk_at "at")))
local macro_rules | `(tactic| walk_at "bool") => `(tactic| (refine And.intro (fun hcond => ?_) (fun hcond => ?_) <;> (first | (exact absurd hcond (by decide)) | (simp only [decide_eq_true_eq, decide_eq_false_iff_not, Bool.not_eq_true', Bool.not_eq_false', Int.not_lt, Int.not_le, inD_nil, inD_int_cons, Bool.or_eq_true, Bool.or_eq_false_iff, Bool.or_false, ne_eq, Decidable.not_not] at hcond) | skip)))
local macro_rules | `(tactic| walk_at "len") => `(tactic| (refine line_le6 ?_; (try simp only [len_cat, len_e]); omega))
local macro_rules | `(tactic| walk_at "cond") => `(tactic| first | assumption | rfl | exact True.intro | omega | (exact Nat.le_of_ble_eq_true rfl) | (refine mulS ?cm1 ?cm2 <;> omega) | (refine divS ?cm1 <;> omega) | (refine And.intro ?cd1 ?cd2 <;> decide) | (exact line_le (Nat.le_of_ble_eq_true rfl)) | (exact line_lt (Nat.le_of_ble_eq_true rfl)) | (refine' Exists.intro _ (Exists.intro _ (And.intro rfl ?cm1)); (case cm1 => walk_at "at")) | (exact log_le (by omega)) | walk_at "len" | solve_by_elim | fail "no cond")
local macro_rules | `(tactic| walk_at "src") => `(tactic| first | assumption | (refine SrcStep.srcAt (S := ?ss) ?st; (case st => assumption)) | (refine SrcAt.app ?st; (case st => walk_at "src")))
local macro_rules | `(tactic| walk_at "draw") => `(tactic| (refine' Exists.intro _ (Exists.intro _ (Exists.intro ?nn (And.intro rfl (And.intro ?d1 (And.intro ?d2 (And.intro ?d3 (fun r S' h0 h1 hst => ?_))))))); (case d1 => walk_at "src"); (case d2 => omega); (case d3 => omega)))
local macro_rules | `(tactic| walk_at "steps") => `(tactic| first | assumption | (refine SrcStep.trans (n := ?sn) (S1 := ?sm) ?sx ?sy; (case sy => assumption); (case sx => walk_at "steps")) | (refine SrcAt.refl ?sz; assumption))
local macro_rules | `(tactic| walk_at "side") => `(tactic| (refine And.intro ?sd ?_; (case sd => walk_at "cond")))
local macro_rules | `(tactic| walk_at "go1") => `(tactic| (conv => whnf) <;> (first | walk_at "get" | walk_at "bool" | walk_at "draw" | walk_at "side" | fail "no step"))
local macro_rules | `(tactic| walk_at "go") => `(tactic| (repeat' (walk_at "go1")); (all_goals try (conv => whnf)))

local macro_rules | `(tactic| walk_at "no") => `(tactic| first
  | (rename_i hc0; first | exact fF hc0 | exact tF hc0)
  | (rename_i hc0 hc1; first | exact fF hc0 | exact tF hc0)
  | (rename_i hc0 hc1 hc2; first | exact fF hc0 | exact tF hc0)
  | (rename_i hc0 hc1 hc2 hc3; first | exact fF hc0 | exact tF hc0))
def waysC (A : Ads) (q : Addr) (ds : List D) : Prop := (q = A.t_WAYS0 ∧ ds = [.int (-1), .int (-1)]) ∨ (q = A.t_WAYS1 ∧ ds = [.int (-1), .int 1]) ∨ (q = A.t_WAYS2 ∧ ds = [.int 1, .int (-1)]) ∨ (q = A.t_WAYS3 ∧ ds = [.int 1, .int 1])
theorem ways_ok {w : World} {K : PySem.W.Frag} {mg : Str → Option Value} {A : Ads} {B : Fds} (T : Txt w K mg A B) : ∀ q ds, waysC A q ds → CTup K q ds := by
  rintro q ds (⟨rfl, rfl⟩ | ⟨rfl, rfl⟩ | ⟨rfl, rfl⟩ | ⟨rfl, rfl⟩)
  · exact T.ct_WAYS0
  · exact T.ct_WAYS1
  · exact T.ct_WAYS2
  · exact T.ct_WAYS3
def spLineEq (A : Ads) : DSp := fun ds S Q E => ∃ (N r s : Int), ds = [lineP A.a_Line N r, lineP A.a_Line N s] ∧ Q (.bl (decide (r = s))) S
theorem n_Line___eq__ {A : Ads} : ∀ ds S Q E, spLineEq A ds S Q E → ds.length = 2 := by
  rintro ds S Q E ⟨N, r, s, rfl, _⟩
  rfl
theorem line_eqv (N r s : Int) : PyData.eqv (py (.tup [.int N, .tup [], .tup [.int 0, .int r, .int 1, .int (-1)], .tup []])) (py (.tup [.int N, .tup [], .tup [.int 0, .int s, .int 1, .int (-1)], .tup []])) = decide (r = s) := by
  show ((N == N) && (true && (((0 : Int) == 0) && ((r == s) && (((1 : Int) == 1) && (((-1 : Int) == -1) && true))) && (true && true)))) = decide (r = s)
  by_cases e : r = s
  · subst e; simp
  · simp [e]
/-- the dict of lines by their first rays -/
def keyR (r : Int) : List Key := intsK [0, r, 1, -1]
def kvR (C : Addr) (N : Int) (rs : List Int) : List (List Key × D) := rs.map fun r => (keyR r, lineP C N r)
theorem key_inj {r s : Int} (h : keyR r = keyR s) : r = s := by
  unfold keyR intsK at h
  simpa using h
theorem kv_val {C : Addr} {N r : Int} : ∀ {rs : List Int}, r ∈ rs → valD (kvR C N rs) (keyR r) = some (lineP C N r)
  | a :: rs, h => by
    unfold valD kvR
    rw [List.map_cons, List.find?_cons]
    by_cases e : a = r
    · subst e
      simp
    · have e' : ¬ keyR a = keyR r := fun k => e (key_inj k)
      rw [decide_eq_false e']
      have := kv_val (C := C) (N := N) ((List.mem_cons.mp h).resolve_left fun k => e k.symm)
      exact this
theorem kv_sto {C : Addr} {N r : Int} (rs : List Int) : stoD (kvR C N rs) (keyR r) (lineP C N r) = kvR C N (accR rs true r) := by
  unfold stoD accR
  have hany : ((kvR C N rs).any fun kv => decide (kv.1 = keyR r)) = decide (r ∈ rs) := by
    unfold kvR
    rw [List.any_map]
    induction rs with
    | nil => rfl
    | cons a t ih =>
      rw [List.any_cons, ih]
      by_cases e : a = r
      · subst e; simp
      · have e' : ¬ keyR a = keyR r := fun k => e (key_inj k)
        have e2 : ¬ r = a := fun k => e k.symm
        simp [e', e2]
  rw [hany, if_pos rfl]
  by_cases h : r ∈ rs
  · rw [if_pos (decide_eq_true h), if_pos h]
    unfold kvR
    rw [List.map_map]
    refine List.map_congr_left fun a _ => ?_
    show (if keyR a = keyR r then (keyR a, lineP C N r) else (keyR a, lineP C N a)) = _
    by_cases e : a = r
    · subst e; rw [if_pos rfl]
    · rw [if_neg fun k => e (key_inj k)]
  · rw [if_neg (by simpa using h), if_neg h]
    unfold kvR
    rw [List.map_append]; rfl
def fL (C : Addr) (N : Int) : D → Option D
  | .tup [.int _, .int r, .int _, .int _] => some (lineP C N r)
  | _ => none
theorem fm_lines {C : Addr} {N : Int} : ∀ {mss : List (List Int)}, (∀ ms ∈ mss, ∃ r, ms = [0, r, 1, -1]) → ((mss.map tupI).filterMap (fL C N)).length = mss.length ∧ (∀ n, bndL n ((mss.map tupI).filterMap (fL C N))) ∧ ∀ n, bndL n (mss.map tupI)
  | [], _ => ⟨rfl, fun _ => trivial, fun _ => trivial⟩
  | ms :: mss, h => by
    obtain ⟨r, rfl⟩ := h ms List.mem_cons_self
    obtain ⟨h1, h2, h3⟩ := fm_lines (C := C) (N := N) (mss := mss) fun m hm => h m (List.mem_cons_of_mem _ hm)
    have e : (List.map tupI ([0, r, 1, -1] :: mss)).filterMap (fL C N) = lineP C N r :: (mss.map tupI).filterMap (fL C N) := rfl
    rw [e]
    exact ⟨by rw [List.length_cons, h1]; rfl, fun n => ⟨⟨trivial, trivial, ⟨trivial, trivial, trivial, trivial, trivial⟩, trivial, trivial⟩, h2 n⟩, fun n => ⟨⟨trivial, trivial, trivial, trivial, trivial⟩, h3 n⟩⟩
def spLinesAt (A : Ads) : DSp := fun ds S Q E => ∃ (w h : Int) (sh : Str) (x y : Int), ds = [floorD A.a_Floor w h [] sh, .int x, .int y] ∧ FlOk w h [] ∧ (0 ≤ x ∧ x ≤ 2 * w ∧ 0 ≤ y ∧ y ≤ 2 * h ∧ (x + y) % 2 = 1) ∧
  ∀ n ls, n.a = 4 * w → n.l = 4 * h → TGood n → n.Ok → ls.length = cntL n.u x y → Q (.tup ls) S
theorem n_lines_at {A : Ads} : ∀ ds S Q E, spLinesAt A ds S Q E → ds.length = 3 := by
  rintro ds S Q E ⟨w, h, sh, x, y, rfl, _⟩
  rfl
theorem n__law_common : ∀ ds S Q E, spCommon ds S Q E → ds.length = 2 := n_common
def spLRest : DSp := fun ds S Q E => ∃ (w h g x y dx dy : Int), ds = [sizeD w h, .int g, rayD x y dx dy] ∧ (1 ≤ w ∧ w ≤ 1000000000000000 ∧ 1 ≤ h ∧ h ≤ 1000000000000000) ∧ (0 < g ∧ g ≤ 1000000000000000 ∧ g ∣ w ∧ g ∣ h) ∧ (0 ≤ x ∧ x ≤ 2 * w ∧ 0 ≤ y ∧ y ≤ 2 * h) ∧ (dx = 1 ∨ dx = -1) ∧ (dy = 1 ∨ dy = -1) ∧ Q (.int (remF (4 * g) (x * dx) (y * dy))) S
theorem n__law_rest : ∀ ds S Q E, spLRest ds S Q E → ds.length = 3 := by
  rintro ds S Q E ⟨w, h, g, x, y, dx, dy, rfl, _⟩
  rfl
section
variable {P : Program} {w : World} {K : PySem.W.Frag} {mg : Str → Option Value} {base : Heap} {A : Ads} {B : Fds}
theorem ok_Line___eq__ (T : Txt w K mg A B) : FnOk P w K mg base CX0 1 A.a_Line___eq__ B.a_Line___eq__ ["self", "other"] (spOf K 2 (spLineEq A)) := by
  refine dfn_ok T.F_Line___eq__ sc_Line___eq__ n_Line___eq__ (fun cdv Ar outer s H E hr => (ds_cons (ds_if (dt_not (dt_val (de_callB (cd_isC T.ic_Line) rfl T.z_isinstance (by decide +kernel) (da_cons (dv 1) (da_cons (de_globA rfl T.g_Line rfl) da_nil))))) (ds_one (ds_ret de_bl)) ds_nil)
      (ds_cons (ds_set (i := 2) sc_Line___eq__.nd rfl (.inl rfl) (de_tup (da_cons (de_fld (dv 0) T.cl_Line T.n_Line_length) (da_cons (de_fld (dv 0) T.cl_Line T.n_Line_ends) (da_cons (de_fld (dv 0) T.cl_Line T.n_Line_first) (da_cons (de_fld (dv 0) T.cl_Line T.n_Line_hits) da_nil))))))
      (ds_one (ds_ret (de_cmp (od_eq hr.units) (dv 2) (de_tup (da_cons (de_fld (dv 1) T.cl_Line T.n_Line_length) (da_cons (de_fld (dv 1) T.cl_Line T.n_Line_ends) (da_cons (de_fld (dv 1) T.cl_Line T.n_Line_first) (da_cons (de_fld (dv 1) T.cl_Line T.n_Line_hits) da_nil))))) (nomark _))))))) ?_
  rintro ds S Q E bd ⟨N, r, s, rfl, q⟩
  rw [← line_eqv N r s] at q
  walk_at "go"
  exact Rt.same (d := .bl _) trivial q
theorem ok_lines_at (T : Txt w K mg A B) : FnOk P w K mg base CX0 6 A.a_lines_at B.a_lines_at ["floor", "x", "y"] (spOf K 3 (spLinesAt A)) := by
  refine dfn_ok T.F_lines_at sc_lines_at n_lines_at (fun cdv Ar outer s H E hr => (ds_cons (ds_if (dt_not (dt_val (de_meth (dv 0) T.cl_Floor T.m_Floor_is_point (ok_Floor_is_point T) (hr.mono (by decide)) T.b_Floor_is_point .nil rpl_nil pass0 n_Floor_is_point (da_cons (dv 1) (da_cons (dv 2) da_nil))))) (ds_one (ds_never _)) ds_nil)
      (ds_cons (ds_set (i := 3) sc_lines_at.nd rfl (.inl rfl) (de_call (ok_torus_of T) (hr.mono (by decide)) rfl T.g_torus_of T.k_torus_of T.b_torus_of .nil rpl_nil pass0 n_torus_of (da_cons (dv 0) da_nil)))
      (ds_cons (ds_set (i := 4) sc_lines_at.nd rfl (.inr rfl) de_newT)
      (ds_cons (ds_for PassesOwn.never rfl (di_cseq T.w_WAYS (de_globA rfl T.g_WAYS rfl)) (dg_tupC (cs := waysC A) (n := 2) rfl (ways_ok T) (dgs_cons (dg_name (i := 5) sc_lines_at.nd rfl (.inl rfl)) (dgs_cons (dg_name (i := 6) sc_lines_at.nd rfl (.inl rfl)) dgs_nil))) (ds_one (ds_if (dt_val (de_call (ok_on_floor T) (hr.mono (by decide)) rfl T.g_on_floor T.k_on_floor T.b_on_floor .nil rpl_nil pass0 n_on_floor (da_cons (dv 0) (da_cons (de_op od_add (dv 1) (dv 5)) (da_cons (de_op od_add (dv 2) (dv 6)) da_nil))))) (ds_cons (ds_set (i := 7) sc_lines_at.nd rfl (.inl rfl) (de_call (ok_line_at T) (hr.mono (by decide)) rfl T.g_line_at T.k_line_at T.b_line_at .nil rpl_nil pass0 n_line_at (da_cons (dv 0) (da_cons (dv 3) (da_cons (de_meth (dv 3) T.cl_Torus T.m_Torus_place_of (ok_Torus_place_of T) (hr.mono (by decide)) T.b_Torus_place_of .nil rpl_nil pass0 n_Torus_place_of (da_cons (de_tup (da_cons (dv 1) (da_cons (dv 2) (da_cons (dv 5) (da_cons (dv 6) da_nil))))) da_nil)) da_nil)))))
      (ds_one (ds_asg (dv 7) (dg_put (hu65 hr) (dv 4) (de_fld (dv 7) T.cl_Line T.n_Line_first))))) ds_nil)))
      (ds_one (ds_ret (de_callTy cd_tuple rfl T.z_tuple (by decide +kernel) (da_cons (de_gc (de_lc (own := [("first", 8)]) rfl sc_lines_at.nd (di_lst (de_gc (de_callB (cd_sortDT rfl (hu65 hr)) rfl T.z_sorted (by decide +kernel) (da_cons (dv 4) da_nil)))) (blkOk_by (own := [("first", 8)]) (N := ["floor", "x", "y", "torus", "found", "dx", "dy", "line", "first"]) (sc := defScope s_lines_at) (by decide +kernel)) (fun _ _ _ _ _ => (dg_name (i := 8) sc_lines_at.nd rfl (.inl rfl))) (fun _ _ _ _ _ => dts_nil) (fun _ _ _ _ _ => (de_dget (hu65 hr) (dv 4) (dv 8) (by intro _ _; rfl))))) da_nil))))))))) ?_
  rintro ds S Q E bd ⟨w, h, sh, x, y, rfl, fo, pt, q⟩
  have fo0 := fo
  obtain ⟨f1, f2, f3, f4, f5, f6⟩ := fo
  walk_at "go"
  refine ⟨_, _, _, _, _, rfl, Or.inl ⟨_, rfl, ⟨rfl, rfl, rfl, rfl, rfl, rfl, f1, f2, f3, f4⟩⟩, fun b hb => ?_⟩
  have hb2 : b = true := hb.mpr pt
  subst hb2
  walk_at "go"
  refine ⟨w, h, [], sh, rfl, fo0, fun fs n ta => ?_⟩
  have g4 := ta.tw.m4
  walk_at "go"
  refine forL_inv (fun k ρ' S' => ∃ (u5 u6 u7 : Option D), ρ' = [some (floorD A.a_Floor w h [] sh), some (.int x), some (.int y), some (.obj A.a_Torus fs), some (.loc S.length), u5, u6, u7, none] ∧ S' = S ++ [.dt (kvR A.a_Line n.circ (accK w h n.u x y k))]) _ 0 _ _ ⟨none, none, none, rfl, rfl⟩ ?_ ?_
  · rintro j d ρ S' hj ⟨u5, u6, u7, rfl, rfl⟩ N hN
    rw [Nat.zero_add] at hN ⊢
    have hq : ∃ q, d = .cst q ∧ waysC A q [.int (wx j), .int (wy j)] := by
      match j, hj with
      | 0, hj => cases hj; exact ⟨_, rfl, Or.inl ⟨rfl, rfl⟩⟩
      | 1, hj => cases hj; exact ⟨_, rfl, Or.inr (Or.inl ⟨rfl, rfl⟩)⟩
      | 2, hj => cases hj; exact ⟨_, rfl, Or.inr (Or.inr (Or.inl ⟨rfl, rfl⟩))⟩
      | 3, hj => cases hj; exact ⟨_, rfl, Or.inr (Or.inr (Or.inr ⟨rfl, rfl⟩))⟩
      | j + 4, hj => cases hj
    obtain ⟨qa, rfl, hq⟩ := hq
    have hx := wx_pm j
    have hy := wy_pm j
    have hjl := accK_le w h n.u x y j
    have hj4 : j < 4 := (List.getElem?_eq_some_iff.mp hj).1
    refine ⟨_, hq, rfl, ?_⟩
    walk_at "go"
    refine ⟨w, h, [], sh, _, _, rfl, fo0, fun b hb => ?_⟩
    have hon : onB w h x y j = b := by
      unfold onB
      cases b with
      | true => exact decide_eq_true (hb.mp rfl)
      | false => exact decide_eq_false fun k => by have := hb.mpr k; cases this
    cases b with
    | true =>
      walk_at "go"
      refine ⟨_, n.a, n.l, x, y, _, _, rfl, Or.inl ⟨fs, rfl, ta.tw⟩, ⟨by omega, hx, hy⟩, ?_⟩
      walk_at "go"
      refine ⟨w, h, sh, n, fs, _, _, rfl, ta, ?_⟩
      rw [rem_mod ta.g (x * wx j) (y * wy j)]
      generalize hR : remF n.u (x * wx j) (y * wy j) = R
      walk_at "go"
      refine ⟨line_lt (by unfold kvR; rw [List.length_map]; omega), hN _ _ ⟨_, _, _, rfl, ?_⟩⟩
      show (S ++ [_]).set S.length (.dt (stoD (kvR A.a_Line n.circ _) (keyR R) (lineP A.a_Line n.circ R))) = S ++ [Ob.dt (kvR A.a_Line n.circ (accR _ _ _))]
      rw [set_push, kv_sto, hon, hR]
    | false =>
      walk_at "go"
      refine hN _ _ ⟨_, _, _, rfl, ?_⟩
      show _ = S ++ [Ob.dt (kvR A.a_Line n.circ (accR _ _ _))]
      rw [hon]; rfl
  · rintro ρ S' ⟨u5, u6, u7, rfl, rfl⟩
    walk_at "go"
    have hlen : accK w h n.u x y (0 + (List.map D.cst [A.t_WAYS0, A.t_WAYS1, A.t_WAYS2, A.t_WAYS3]).length) = accK w h n.u x y 4 := rfl
    rw [hlen]
    have hu := ta.g.u0
    have hcnt := accK_len (w := w) (h := h) (u := n.u) (x := x) (y := y) (unit_big ta.ea ta.el ta.g) (by rw [← ta.ea]; exact ta.g.ua) (by rw [← ta.el, ta.g.hl]; exact ⟨n.rest, rfl⟩) f1 f3 pt
    generalize accK w h n.u x y 4 = rs at hcnt ⊢
    refine ⟨S.length, kvR A.a_Line n.circ rs, rs.map fun r => [0, r, 1, -1], rfl, getElem_push _ _, by unfold kvR; rw [List.map_map, List.map_map]; rfl, ?_, fun mss hp _ => ?_⟩
    · intro ns hns
      obtain ⟨r, _, rfl⟩ := List.mem_map.mp hns
      exact List.cons_ne_nil _ _
    have hle : rs.length ≤ 2 := by
      rw [hcnt]; unfold cntL; split <;> omega
    have hms : ∀ ms ∈ mss, ∃ r ∈ rs, ms = [0, r, 1, -1] := fun ms hm => by
      obtain ⟨r, hr, e⟩ := List.mem_map.mp (hp.mem_iff.mp hm)
      exact ⟨r, hr, e.symm⟩
    have hml : mss.length = rs.length := by rw [hp.length_eq, List.length_map]
    have hfm := fm_lines (C := A.a_Line) (N := n.circ) (mss := mss) fun ms hm => let ⟨r, _, e⟩ := hms ms hm; ⟨r, e⟩
    refine Rt.lstT (ds := mss.map tupI) (Nat.le_refl _) (getElem_push _ _) ?_ (fun m hm => List.getElem?_append_left hm) ?_
    · exact hfm.2.2 _
    walk_at "go"
    refine compL_pure (S := S ++ [Ob.dt (kvR A.a_Line n.circ rs)]) (fL A.a_Line n.circ) (mss.map tupI) [] ?_ (by rw [List.length_map, hml]; exact line_le (by show 0 + _ ≤ 1000; omega)) ?_
    · intro d hd acc k hk
      obtain ⟨ms, hm, rfl⟩ := List.mem_map.mp hd
      obtain ⟨r, hr, rfl⟩ := hms ms hm
      have hv := kv_val (C := A.a_Line) (N := n.circ) hr
      walk_at "go"
      exact hk
    refine Rt.lstT (ds := (mss.map tupI).filterMap (fL A.a_Line n.circ)) (Nat.le_refl _) (getElem_push _ _) (hfm.2.1 _) (fun m hm => List.getElem?_append_left hm) ?_
    walk_at "go"
    exact Rt.pure (d := .tup _) (hfm.2.1 _) (q n _ ta.ea ta.el ta.g ta.td.ok (by rw [hfm.1, hml, hcnt]))
theorem ok__law_common (T : Txt w K mg A B) : FnOk P w K mg base CX0 1 A.a_law_common B.a_law_common ["_law_first", "_law_second"] (spOf K 2 spCommon) := by
  refine dfn_ok T.F__law_common sc__law_common n__law_common (fun cdv Ar outer s H E hr => (ds_cons (ds_par (i := 2) (j := 3) rfl sc__law_common.nd rfl rfl (by decide) rfl rfl (da_cons (dv 0) (da_cons (dv 1) da_nil)) (by rfl))
      (ds_cons (ds_while PassesOwn.never (dt_cmp od_gt (dv 3) de_int (nomark _)) (ds_one (ds_par (i := 2) (j := 3) rfl sc__law_common.nd rfl rfl (by decide) rfl rfl (da_cons (dv 3) (da_cons (de_op od_mod (dv 2) (dv 3)) da_nil)) (by rfl))))
      (ds_one (ds_ret (dv 2)))))) ?_
  rintro ds S Q E bd ⟨a, b, rfl, ha, hb, q⟩
  walk_at "go"
  refine ⟨fun m ρ S' => ∃ x y : Int, ρ = [some (.int a), some (.int b), some (.int x), some (.int y)] ∧ 0 ≤ x ∧ 0 ≤ y ∧ m = y.toNat ∧ (∀ d : Int, (d ∣ x ∧ d ∣ y) ↔ (d ∣ a ∧ d ∣ b)) ∧ S' = S, ⟨b.toNat, a, b, ?_, ha, hb, rfl, fun _ => Iff.rfl, rfl⟩, ?_⟩
  · rfl
  rintro m ρ S' ⟨x, y, rfl, hx, hy, rfl, hd, rfl⟩
  walk_at "go"
  · rename_i hc
    have m0 := Int.emod_nonneg x (show y ≠ 0 by omega)
    have m1 := Int.emod_lt_of_pos x (show 0 < y by omega)
    exact ⟨_, by omega, _, _, rfl, hy, m0, rfl, fun d => (gcd_step x y d).trans (hd d), rfl⟩
  · rename_i hc
    have hy0 : y = 0 := by omega
    subst hy0
    exact Rt.same (d := .int _) trivial (q x ⟨hx, fun d => ⟨fun h => (hd d).mp ⟨h, Int.dvd_zero d⟩, fun h => ((hd d).mpr h).1⟩⟩)
theorem ok__law_rest (T : Txt w K mg A B) : FnOk P w K mg base CX0 1 A.a_law_rest B.a_law_rest ["_law_size", "_law_unit", "_law_ray"] (spOf K 3 spLRest) := by
  refine dfn_ok T.F__law_rest sc__law_rest n__law_rest (fun cdv Ar outer s H E hr => (ds_cons (ds_mark 1 (ds_set (i := 3) sc__law_rest.nd rfl (.inl rfl) (de_ifExp (dt_cmp od_eqI (de_ix ix_any (dv 2) de_int (fun _ _ => rfl)) de_int (nomark _)) (de_ix ix_any (dv 2) de_int (fun _ _ => rfl)) (de_op od_sub (de_op od_mul de_int (de_ix ix_any (dv 0) de_int (fun _ _ => rfl))) (de_ix ix_any (dv 2) de_int (fun _ _ => rfl))))))
      (ds_cons (ds_mark 2 (ds_set (i := 4) sc__law_rest.nd rfl (.inl rfl) (de_ifExp (dt_cmp od_eqI (de_ix ix_any (dv 2) de_int (fun _ _ => rfl)) de_int (nomark _)) (de_ix ix_any (dv 2) de_int (fun _ _ => rfl)) (de_op od_sub (de_op od_mul de_int (de_ix ix_any (dv 0) de_int (fun _ _ => rfl))) (de_ix ix_any (dv 2) de_int (fun _ _ => rfl))))))
      (ds_cons (ds_set (i := 5) sc__law_rest.nd rfl (.inl rfl) (de_op od_mod (de_op od_sub (dv 3) (dv 4)) (de_op od_mul de_int (dv 1))))
      (ds_one (ds_ret (de_callB (cd_min2 rfl) rfl T.z_min (by decide +kernel) (da_cons (dv 5) (da_cons (de_op od_sub (de_op od_mul de_int (dv 1)) (dv 5)) da_nil))))))))) ?_
  rintro ds S Q E bd ⟨w, h, g, x, y, dx, dy, rfl, bw, ⟨g0, g1, gw, gh⟩, ⟨x0, x1, y0, y1⟩, hdx, hdy, q⟩
  walk_at "go"
  refine mark_join (fun ρ' S5 => ∃ X : Int, 4 * w ∣ X - x * dx ∧ (0 ≤ X ∧ X ≤ 4 * w) ∧ ρ' = [some (sizeD w h), some (.int g), some (rayD x y dx dy), some (.int X), none, none] ∧ S5 = S) (fun N hN => ?_) ?_
  · rcases hdx with rfl | rfl
    · walk_at "go"
      exact hN _ _ ⟨x, ⟨0, by omega⟩, by omega, rfl, rfl⟩
    · walk_at "go"
      exact hN _ _ ⟨4 * w - x, ⟨1, by omega⟩, by omega, rfl, rfl⟩
  rintro ρ' S5 ⟨X, hX, bX, rfl, rfl⟩
  walk_at "go"
  refine mark_join (fun ρ' S6 => ∃ Y : Int, 4 * h ∣ Y - y * dy ∧ (0 ≤ Y ∧ Y ≤ 4 * h) ∧ ρ' = [some (sizeD w h), some (.int g), some (rayD x y dx dy), some (.int X), some (.int Y), none] ∧ S6 = S5) (fun N hN => ?_) ?_
  · rcases hdy with rfl | rfl
    · walk_at "go"
      exact hN _ _ ⟨y, ⟨0, by omega⟩, by omega, rfl, rfl⟩
    · walk_at "go"
      exact hN _ _ ⟨4 * h - y, ⟨1, by omega⟩, by omega, rfl, rfl⟩
  rintro ρ' S6 ⟨Y, hY, bY, rfl, rfl⟩
  walk_at "go"
  have e : remF (4 * g) (x * dx) (y * dy) = remF (4 * g) X Y := by
    refine remF_congr (Int.emod_eq_emod_iff_emod_sub_eq_zero.mpr (Int.emod_eq_zero_of_dvd ?_))
    rw [show x * dx - y * dy - (X - Y) = (Y - y * dy) - (X - x * dx) by omega]
    exact Int.dvd_sub (Int.dvd_trans (Int.mul_dvd_mul_left 4 gh) hY) (Int.dvd_trans (Int.mul_dvd_mul_left 4 gw) hX)
  rw [e] at q
  exact Rt.same (d := .int _) trivial q
end
end K

namespace K
open PySem L2 DL
local macro_rules | `(tactic| walk_at "w") => `(tactic| (conv => whnf))
local macro_rules | `(tactic| walk_at "at") => `(tactic| first | assumption | (refine SrcStep.get (l := ?l0) (n := ?n0) (S := ?s0) ?h1 ?h2 ?h3; (case h1 => assumption); (case h2 => omega); (case h3 => walk_at "at")) | (refine set_same (o := ?oo) ?sm; (case sm => walk_at "at")) | (refine set_other ?sm ?sn; (case sn => omega); (case sm => walk_at "at")) | (exact getElem_push _ _) | (refine app_left ?sm; (case sm => walk_at "at")) | rfl)
local macro_rules | `(tactic| walk_at "get") => `(tactic| (refine Exists.intro ?wit (And.intro ?gt ?_); (case gt => walk_at "at")))
local macro_rules | `(tactic| walk_at "bool") => `(tactic| (refine And.intro (fun hcond => ?_) (fun hcond => ?_) <;> (first | (exact absurd hcond (by decide)) | (simp only [decide_eq_true_eq, decide_eq_false_iff_not, Bool.not_eq_true', Bool.not_eq_false', Int.not_lt, Int.not_le, inD_nil, inD_int_cons, Bool.or_eq_true, Bool.or_eq_false_iff, Bool.or_false, ne_eq, Decidable.not_not] at hcond) | skip)))
local macro_rules | `(tactic| walk_at "len") => `(tactic| (refine line_le6 ?_; (try simp only [len_cat, len_e]); omega))
local macro_rules | `(tactic| walk_at "cond") => `(tactic| first | assumption | rfl | exact True.intro | omega | (exact Nat.le_of_ble_eq_true rfl) | (refine mulS ?cm1 ?cm2 <;> omega) | (refine divS ?cm1 <;> omega) | (refine And.intro ?cd1 ?cd2 <;> decide) | (exact line_le (Nat.le_of_ble_eq_true rfl)) | (exact line_lt (Nat.le_of_ble_eq_true rfl)) | (refine' Exists.intro _ (Exists.intro _ (And.intro rfl ?cm1)); (case cm1 => walk_at "at")) | (exact log_le (by omega)) | walk_at "len" | solve_by_elim | fail "no cond")
local macro_rules | `(tactic| walk_at "src") => `(tactic| first | assumption | (refine SrcStep.srcAt (S := ?ss) ?st; (case st => assumption)) | (refine SrcAt.app ?st; (case st => walk_at "src")))
local macro_rules | `(tactic| walk_at "draw") => `(tactic| (refine' Exists.intro _ (Exists.intro _ (Exists.intro ?nn (And.intro rfl (And.intro ?d1 (And.intro ?d2 (And.intro ?d3 (fun r S' h0 h1 hst => ?_))))))); (case d1 => walk_at "src"); (case d2 => omega); (case d3 => omega)))
local macro_rules | `(tactic| walk_at "steps") => `(tactic| first | assumption | (refine SrcStep.trans (n := ?sn) (S1 := ?sm) ?sx ?sy; (case sy => assumption); (case sx => walk_at "steps")) | (refine SrcAt.refl ?sz; assumption))
local macro_rules | `(tactic| walk_at "side") => `(tactic| (refine And.intro ?sd ?_; (case sd => walk_at "cond")))
local macro_rules | `(tactic| walk_at "go1") => `(tactic| (conv => whnf) <;> (first | walk_at "get" | walk_at "bool" | walk_at "draw" | walk_at "side" | fail "no step"))
local macro_rules | `(tactic| walk_at "go") => `(tactic| (repeat' (walk_at "go1")); (all_goals try (conv => whnf)))

theorem unit_gcd {w h : Int} {n : TNum} (ea : n.a = 4 * w) (el : n.l = 4 * h) (g : TGood n) {gg : Int} (g0 : 0 < gg) (hg : IsGcd gg w h) : n.u = 4 * gg := by
  obtain ⟨g1, g2, g3, g4, g5, g6, g7⟩ := g
  obtain ⟨a', ha⟩ := g4
  have ed : n.a / n.u = a' := by rw [ha]; exact Int.mul_ediv_cancel_left _ (by omega)
  rw [ed] at g7
  obtain ⟨q, hq⟩ := g7
  have hd : ∀ d : Int, d ∣ 4 * w → d ∣ 4 * h → d ∣ n.u := by
    intro d d1 d2
    rw [← ea] at d1
    rw [← el] at d2
    have e : n.u = n.a * n.fac - n.l * q := by
      have h2 : n.u * (n.fac * a' - 1) = n.u * (n.rest * q) := by rw [hq]
      rw [Int.mul_sub, Int.mul_one] at h2
      rw [ha, g5, Int.mul_assoc, Int.mul_comm a', Int.mul_assoc]
      omega
    rw [e]
    exact Int.dvd_sub (Int.dvd_mul_of_dvd_left d1) (Int.dvd_mul_of_dvd_left d2)
  have gw := ((hg.2 gg).mp (Int.dvd_refl _)).1
  have gh := ((hg.2 gg).mp (Int.dvd_refl _)).2
  have h1 : 4 * gg ∣ n.u := hd _ (Int.mul_dvd_mul_left 4 gw) (Int.mul_dvd_mul_left 4 gh)
  have h4 : (4 : Int) ∣ n.u := hd 4 ⟨w, rfl⟩ ⟨h, rfl⟩
  obtain ⟨v, hv⟩ := h4
  have uw : n.u ∣ 4 * w := by rw [← ea, ha]; exact ⟨a', rfl⟩
  have uh : n.u ∣ 4 * h := by rw [← el, g5]; exact ⟨n.rest, rfl⟩
  rw [hv] at uw uh
  have vw := Int.dvd_of_mul_dvd_mul_left (show (4 : Int) ≠ 0 by decide) uw
  have vh := Int.dvd_of_mul_dvd_mul_left (show (4 : Int) ≠ 0 by decide) uh
  have vg := (hg.2 v).mpr ⟨vw, vh⟩
  have l1 : 4 * gg ≤ n.u := Int.le_of_dvd g2 h1
  have l2 : v ≤ gg := Int.le_of_dvd g0 vg
  omega
theorem comp_inv {n : Nat} {g : DG} {tt : DTt} {te : DT} {ρ : Rho} {Q : Store → Prop} (I : Nat → List D → Store → Prop) : ∀ (items : List D) (i : Nat) (acc : List D) (S : Store), I i acc S →
    (∀ j x acc S, items[j]? = some x → I (i + j) acc S → ∀ k : Option D → Store → Prop, (∀ y S', S'[n]? = some (.lst acc) → acc.length < sizeLine → I (i + j + 1) (acc ++ [y]) (S'.set n (.lst (acc ++ [y]))) → k (some y) S') → (∀ S', I (i + j + 1) acc S' → k none S') → elemR g tt te ρ x S k) →
    (∀ acc S, I (i + items.length) acc S → Q S) → compL n g tt te ρ items S Q
  | [], i, acc, S, h0, hs, hq => by
    rw [compL_nil]
    exact hq acc S h0
  | x :: r, i, acc, S, h0, hs, hq => by
    rw [compL_cons]
    refine hs 0 x acc S rfl h0 _ (fun y S' h1 h2 h3 => ?_) (fun S' h3 => ?_)
    · refine ⟨acc, h1, h2, comp_inv I r (i + 1) _ _ h3 (fun j x acc S hj hI => ?_) (fun acc S hI => ?_)⟩
      · rw [show i + 1 + j = i + (j + 1) by omega] at hI ⊢
        exact hs (j + 1) x acc S (by rw [List.getElem?_cons_succ]; exact hj) hI
      · exact hq acc S (by rw [List.length_cons, show i + (r.length + 1) = i + 1 + r.length by omega]; exact hI)
    · refine comp_inv I r (i + 1) _ _ h3 (fun j x acc S hj hI => ?_) (fun acc S hI => ?_)
      · rw [show i + 1 + j = i + (j + 1) by omega] at hI ⊢
        exact hs (j + 1) x acc S (by rw [List.getElem?_cons_succ]; exact hj) hI
      · exact hq acc S (by rw [List.length_cons, show i + (r.length + 1) = i + 1 + r.length by omega]; exact hI)
theorem fiN {i : Int} (h : -100000000000000000000000000000000000000000 ≤ i ∧ i ≤ 100000000000000000000000000000000000000000) : fine (.int i) := ⟨Int.lt_of_lt_of_le (by decide) h.1, Int.lt_of_le_of_lt h.2 (by decide)⟩
theorem ray_no {a b c d : Int} {C : Prop} (h : PyData.eqv (py (rayD a b c d)) (py (rayD a b c d)) = false) : C := by rw [ray_self] at h; cases h
local macro_rules | `(tactic| walk_at "no") => `(tactic| first
  | (rename_i hc0; first | exact fF hc0 | exact tF hc0 | exact sF hc0 | exact iF hc0 | exact pF hc0 | exact ray_no hc0 | exact absurd trivial hc0)
  | (rename_i hc0 hc1; first | exact fF hc0 | exact tF hc0 | exact sF hc0 | exact iF hc0 | exact pF hc0 | exact ray_no hc0 | exact absurd trivial hc0)
  | (rename_i hc0 hc1 hc2; first | exact fF hc0 | exact tF hc0 | exact sF hc0 | exact iF hc0 | exact pF hc0 | exact ray_no hc0 | exact absurd trivial hc0)
  | (rename_i hc0 hc1 hc2 hc3; first | exact fF hc0 | exact tF hc0 | exact sF hc0 | exact iF hc0 | exact pF hc0 | exact ray_no hc0 | exact absurd trivial hc0)
  | (rename_i hc0 hc1 hc2 hc3 hc4; first | exact fF hc0 | exact tF hc0 | exact sF hc0 | exact iF hc0 | exact pF hc0 | exact ray_no hc0 | exact absurd trivial hc0))
def spLaw : DSp := fun ds S Q E => ∃ (ns : List Int), ds = [.scr ns] ∧ ns.length ≤ 63 ∧ Q (.bl true) S
theorem n_law : ∀ ds S Q E, spLaw ds S Q E → ds.length = 1 := by
  rintro ds S Q E ⟨ns, rfl, _⟩
  rfl
section
variable {P : Program} {w : World} {K : PySem.W.Frag} {mg : Str → Option Value} {base : Heap} {A : Ads} {B : Fds}
theorem ok_law (T : Txt w K mg A B) : FnG P w K mg base 11 A.a_law B.a_law ["_law_script"] (spOf K 1 spLaw) := by
  refine dfn_okG T.F_law sc_law n_law (fun cdv Ar outer s H E hG hr => (ds_cons (ds_for PassesOwn.never rfl (di_rng1 rfl T.z_range (da_cons (de_callB (cd_max2 rfl) rfl T.z_max (by decide +kernel) (da_cons de_int (da_cons (de_callB (cd_min2 rfl) rfl T.z_min (by decide +kernel) (da_cons de_int (da_cons (de_callB cd_len rfl T.z_len (by decide +kernel) (da_cons (dv 0) da_nil)) da_nil))) da_nil))) da_nil)) (dg_name (i := 1) sc_law.nd rfl (.inl rfl)) (ds_cons (ds_set (i := 2) sc_law.nd rfl (.inr rfl) (de_call (ok__law_source T) (hr.mono (by decide)) rfl T.g__law_source T.k__law_source T.b__law_source .nil rpl_nil pass0 n__law_source (da_cons (dv 0) (da_cons (dv 1) da_nil))))
      (ds_cons (ds_mark 1 (ds_set (i := 3) sc_law.nd rfl (.inr rfl) (de_call (ok__law_drawn_size T) (hr.mono (by decide)) rfl T.g__law_drawn_size T.k__law_drawn_size T.b__law_drawn_size .nil rpl_nil pass0 n__law_drawn_size (da_cons (dv 2) (da_cons (de_ix ix_any (de_lst (da_cons (de_op od_pow de_int de_int) (da_cons (de_op od_pow de_int de_int) (da_cons de_int da_nil)))) (de_call (ok__law_draw T) (hr.mono (by decide)) rfl T.g__law_draw T.k__law_draw T.b__law_draw .nil rpl_nil pass0 n__law_draw (da_cons (dv 2) (da_cons de_int da_nil))) (fun _ _ => rfl)) da_nil)))))
      (ds_cons (ds_set (i := 4) sc_law.nd rfl (.inl rfl) (de_gc (de_makeR (n := 3) T.mk_Floor (ok_Floor___init__ T) (hr.mono (by decide)) pass0 rfl T.g_Floor (da_cons (de_ix ix_any (dv 3) de_int (fun _ _ => rfl)) (da_cons (de_ix ix_any (dv 3) de_int (fun _ _ => rfl)) da_nil)))))
      (ds_cons (ds_set (i := 5) sc_law.nd rfl (.inl rfl) (de_call (ok__law_common T) (hr.mono (by decide)) rfl T.g__law_common T.k__law_common T.b__law_common .nil rpl_nil pass0 n__law_common (da_cons (de_ix ix_any (dv 3) de_int (fun _ _ => rfl)) (da_cons (de_ix ix_any (dv 3) de_int (fun _ _ => rfl)) da_nil))))
      (ds_cons (ds_set (i := 6) sc_law.nd rfl (.inl rfl) (de_op od_div (de_op od_mul (de_op od_mul de_int (de_ix ix_any (dv 3) de_int (fun _ _ => rfl))) (de_ix ix_any (dv 3) de_int (fun _ _ => rfl))) (dv 5)))
      (ds_cons (ds_if (DW.pt (dw_or (dt_cmp od_neI (de_callB (cd_reprT hG (hu65 hr)) rfl T.z_repr (by decide +kernel) (da_cons (de_call (ok_count_closed T) (hr.mono (by decide)) rfl T.g_count_closed T.k_count_closed T.b_count_closed .nil rpl_nil pass0 n_count_closed (da_cons (dv 4) da_nil)) da_nil)) (de_callB (cd_reprT hG (hu65 hr)) rfl T.z_repr (by decide +kernel) (da_cons (dv 5) da_nil)) (nomark _)) (dw_or (dt_cmp (od_ne hr.units) (de_call (ok_closed_lines T) (hr.mono (by decide)) rfl T.g_closed_lines T.k_closed_lines T.b_closed_lines .nil rpl_nil pass0 n_closed_lines (da_cons (dv 4) da_nil)) (de_tup da_nil) (nomark _)) (dw_or1 (dt_cmp (od_ne hr.units) (de_call (ok_paths T) (hr.mono (by decide)) rfl T.g_paths T.k_paths T.b_paths .nil rpl_nil pass0 n_paths (da_cons (dv 4) da_nil)) (de_tup da_nil) (nomark _)))))) (ds_one (ds_ret de_bl)) ds_nil)
      (ds_cons (ds_setLcG (i := 7) (own := [("_law_turn", 14)]) rfl sc_law.nd rfl rfl (sw_true rfl rfl rfl (by decide +kernel)) (di_rng1 rfl T.z_range (da_cons de_int da_nil)) (blkOk_by (own := [("_law_turn", 14)]) (N := ["_law_script", "_law_index", "_law_source_here", "_law_size", "_law_floor", "_law_unit", "_law_length", "_law_rays", "_law_ray", "_law_line", "_law_own", "_law_other", "_law_inner", "_law_crossing", "_law_turn"]) (sc := defScope s_law) (by decide +kernel)) (fun _ _ _ _ _ => (dg_name (i := 14) sc_law.nd rfl (.inl rfl))) (fun _ _ _ _ _ => dts_nil) (fun _ _ _ _ _ => (de_call (ok__law_drawn_ray T) (hr.mono (by decide)) rfl T.g__law_drawn_ray T.k__law_drawn_ray T.b__law_drawn_ray .nil rpl_nil pass0 n__law_drawn_ray (da_cons (dv 2) (da_cons (dv 3) da_nil)))))
      (ds_one (ds_for PassesOwn.never rfl (di_lst (dv 7)) (dg_name (i := 8) sc_law.nd rfl (.inl rfl)) (ds_cons (ds_set (i := 9) sc_law.nd rfl (.inl rfl) (de_call (ok_line_of T) (hr.mono (by decide)) rfl T.g_line_of T.k_line_of T.b_line_of .nil rpl_nil pass0 n_line_of (da_cons (dv 4) (da_cons (dv 8) da_nil))))
      (ds_cons (ds_set (i := 10) sc_law.nd rfl (.inl rfl) (de_call (ok__law_rest T) (hr.mono (by decide)) rfl T.g__law_rest T.k__law_rest T.b__law_rest .nil rpl_nil pass0 n__law_rest (da_cons (dv 3) (da_cons (dv 5) (da_cons (dv 8) da_nil)))))
      (ds_cons (ds_if (dt_cmp od_neI (de_callB (cd_reprT hG (hu65 hr)) rfl T.z_repr (by decide +kernel) (da_cons (de_tup (da_cons (de_fld (dv 9) T.cl_Line T.n_Line_length) (da_cons (de_fld (dv 9) T.cl_Line T.n_Line_ends) (da_cons (de_fld (dv 9) T.cl_Line T.n_Line_first) (da_cons (de_fld (dv 9) T.cl_Line T.n_Line_hits) da_nil))))) da_nil)) (de_callB (cd_reprT hG (hu65 hr)) rfl T.z_repr (by decide +kernel) (da_cons (de_tup (da_cons (dv 6) (da_cons (de_tup da_nil) (da_cons (de_tup (da_cons de_int (da_cons (dv 10) (da_cons de_int (da_cons (de_neg de_int) da_nil))))) (da_cons (de_tup da_nil) da_nil))))) da_nil)) (nomark _)) (ds_one (ds_ret de_bl)) ds_nil)
      (ds_cons (ds_if (DW.pt (dw_or (dt_cmp (od_ne hr.units) (de_call (ok_run T) (hr.mono (by decide)) rfl T.g_run T.k_run T.b_run .nil rpl_nil pass0 n_run (da_cons (dv 4) (da_cons (dv 8) (da_cons (dv 6) da_nil)))) (dv 8) (nomark _)) (dw_or1 (dt_cmp (od_eq hr.units) (de_call (ok_run T) (hr.mono (by decide)) rfl T.g_run T.k_run T.b_run .nil rpl_nil pass0 n_run (da_cons (dv 4) (da_cons (dv 8) (da_cons (de_op od_div (dv 6) de_int) da_nil)))) (dv 8) (nomark _))))) (ds_one (ds_ret de_bl)) ds_nil)
      (ds_cons (ds_if (DW.pt (dw_or (dt_cmp od_notN (de_call (ok_next_thing T) (hr.mono (by decide)) rfl T.g_next_thing T.k_next_thing T.b_next_thing .nil rpl_nil pass0 n_next_thing (da_cons (dv 4) (da_cons (dv 8) da_nil))) de_non (nomark _)) (dw_or1 (dt_cmp od_notN (de_call (ok_exit_of T) (hr.mono (by decide)) rfl T.g_exit_of T.k_exit_of T.b_exit_of .nil rpl_nil pass0 n_exit_of (da_cons (dv 4) (da_cons (dv 8) da_nil))) de_non (nomark _))))) (ds_one (ds_ret de_bl)) ds_nil)
      (ds_cons (ds_for PassesOwn.never rfl (di_lst (dv 7)) (dg_name (i := 11) sc_law.nd rfl (.inl rfl)) (ds_one (ds_if (dt_cmp (od_ne hr.units) (de_cmp (od_own T.m_Line___eq__ (ok_Line___eq__ T) (lt64 hr.units) (hr.mono (by decide)) T.b_Line___eq__ pass0) (de_call (ok_line_of T) (hr.mono (by decide)) rfl T.g_line_of T.k_line_of T.b_line_of .nil rpl_nil pass0 n_line_of (da_cons (dv 4) (da_cons (dv 11) da_nil))) (dv 9) (nomark _)) (de_cmp od_eqI (dv 10) (de_call (ok__law_rest T) (hr.mono (by decide)) rfl T.g__law_rest T.k__law_rest T.b__law_rest .nil rpl_nil pass0 n__law_rest (da_cons (dv 3) (da_cons (dv 5) (da_cons (dv 11) da_nil)))) (nomark _)) (nomark _)) (ds_one (ds_ret de_bl)) ds_nil)))
      (ds_cons (ds_mark 2 (ds_set (i := 12) sc_law.nd rfl (.inl rfl) (de_and (de_chain od_lt od_lt de_int (de_ix ix_any (dv 8) de_int (fun _ _ => rfl)) (de_op od_mul de_int (de_ix ix_any (dv 3) de_int (fun _ _ => rfl)))) (de_one (de_chain od_lt od_lt de_int (de_ix ix_any (dv 8) de_int (fun _ _ => rfl)) (de_op od_mul de_int (de_ix ix_any (dv 3) de_int (fun _ _ => rfl))))))))
      (ds_cons (ds_set (i := 13) sc_law.nd rfl (.inl rfl) (de_call (ok__law_rest T) (hr.mono (by decide)) rfl T.g__law_rest T.k__law_rest T.b__law_rest .nil rpl_nil pass0 n__law_rest (da_cons (dv 3) (da_cons (dv 5) (da_cons (de_tup (da_cons (de_ix ix_any (dv 8) de_int (fun _ _ => rfl)) (da_cons (de_ix ix_any (dv 8) de_int (fun _ _ => rfl)) (da_cons (de_ix ix_any (dv 8) de_int (fun _ _ => rfl)) (da_cons (de_op od_sub de_int (de_ix ix_any (dv 8) de_int (fun _ _ => rfl))) da_nil))))) da_nil)))))
      (ds_one (ds_if (dt_cmp od_neI (de_callB cd_len rfl T.z_len (by decide +kernel) (da_cons (de_call (ok_lines_at T) (hr.mono (by decide)) rfl T.g_lines_at T.k_lines_at T.b_lines_at .nil rpl_nil pass0 n_lines_at (da_cons (dv 4) (da_cons (de_ix ix_any (dv 8) de_int (fun _ _ => rfl)) (da_cons (de_ix ix_any (dv 8) de_int (fun _ _ => rfl)) da_nil)))) da_nil)) (de_ifExp (DW.pt (dw_and (dt_val (dv 12)) (dw_and1 (dt_cmp od_neI (dv 13) (dv 10) (nomark _))))) de_int de_int) (nomark _)) (ds_one (ds_ret de_bl)) ds_nil))))))))))))))))))))
      (ds_one (ds_ret de_bl)))) ?_
  rintro ds S Q E bd ⟨ns, rfl, hns, q⟩
  walk_at "go"
  refine forL_inv (fun k ρ' S' => ∃ (u1 u2 u3 u4 u5 u6 u7 u8 u9 u10 u11 u12 u13 u14 : Option D) (ex : Store), ρ' = [some (.scr ns), u1, u2, u3, u4, u5, u6, u7, u8, u9, u10, u11, u12, u13, u14] ∧ S' = S ++ ex) _ 0 _ _ ⟨none, none, none, none, none, none, none, none, none, none, none, none, none, none, [], rfl, (List.append_nil _).symm⟩ ?_ ?_
  · rintro j xx ρ S0 hj ⟨u1, u2, u3, u4, u5, u6, u7, u8, u9, u10, u11, u12, u13, u14, ex, rfl, rfl⟩ N hN
    obtain ⟨hj1, rfl⟩ := intsFrom_get hj
    have hj2 : j < 1000 := by
      rw [List.length_map] at hj1
      split at hj1 <;> omega
    walk_at "go"
    refine ⟨ns, 0 + j, rfl, by omega, by omega, fun o ho => ?_⟩
    generalize hT : S ++ ex = T0
    have sa : SrcAt (T0 ++ [o]) T0.length 0 := ⟨o, getElem_push _ _, ho⟩
    have sx := SrcX.refl sa
    walk_at "go"
    refine mark_join (fun ρ' S1 => ∃ (w h : Int), (1 ≤ w ∧ w ≤ 1000000000000000 ∧ 1 ≤ h ∧ h ≤ 1000000000000000) ∧ ρ' = [some (.scr ns), some (.int (0 + j)), some (.loc T0.length), some (sizeD w h), u4, u5, u6, u7, u8, u9, u10, u11, u12, u13, u14] ∧ SrcX T0.length 10 (T0 ++ [o]) S1) (fun N hN => ?_) ?_
    · walk_at "go"
      rename_i r1 Sa a1 a2 sta
      have hle : (T0 ++ [o]).length = T0.length + 1 := by rw [List.length_append]; rfl
      have ne : T0.length ≠ (T0 ++ [o]).length := by omega
      have sxa : SrcX T0.length 1 (T0 ++ [o]) Sa := sx.push.step sta
      have hr1 : r1 = 0 ∨ r1 = 1 ∨ r1 = 2 := by omega
      rcases hr1 with rfl | rfl | rfl
      · walk_at "go"
        refine ⟨T0.length, 1000000000000000, 1, rfl, sxa.srcAt, by omega, ⟨by decide, by decide⟩, fun w h S2 w1 h1 w2 h2 st2 => ?_⟩
        walk_at "go"
        exact hN _ _ ⟨w, h, ⟨w1, by omega, h1, by omega⟩, rfl, (sxa.step st2).mono (by omega)⟩
      · walk_at "go"
        refine ⟨T0.length, 10000, 1, rfl, sxa.srcAt, by omega, ⟨by decide, by decide⟩, fun w h S2 w1 h1 w2 h2 st2 => ?_⟩
        walk_at "go"
        exact hN _ _ ⟨w, h, ⟨w1, by omega, h1, by omega⟩, rfl, (sxa.step st2).mono (by omega)⟩
      · walk_at "go"
        rename_i w h S2 w1 h1
        intro w2 h2 st2
        walk_at "go"
        exact hN _ _ ⟨w, h, ⟨w1, by omega, h1, by omega⟩, rfl, (sxa.step st2).mono (by omega)⟩
    rintro ρ' S1 ⟨w, h, bw, rfl, sx⟩
    have bw0 := bw
    obtain ⟨w1, w2, h1, h2⟩ := bw
    have fo := flPlain bw0
    have sa := sx.srcAt
    have hlt := sx.lt
    walk_at "go"
    refine ⟨⟨Nat.le_of_ble_eq_true rfl, Nat.le_of_ble_eq_true rfl⟩, S1.length, w, h, [], rfl, getElem_push _ _, ⟨w1, w2, h1, h2⟩, noTh, by decide, fun sh => ⟨rfl, ?_⟩⟩
    refine Rt.tree (fs := floorF w h [] sh) (Nat.le_refl _) (List.getElem?_set_self (by rw [List.length_append]; exact Nat.lt_succ_self _)) (floor_bnd _) (fun m hm => ?_) ?_
    · rw [List.getElem?_set_ne (by omega), List.getElem?_append_left hm]
    walk_at "go"
    refine ⟨w, h, rfl, by omega, by omega, fun gg hg => ?_⟩
    have gw := ((hg.2 gg).mp (Int.dvd_refl _)).1
    have gh := ((hg.2 gg).mp (Int.dvd_refl _)).2
    have g0 : 0 < gg := by
      have := hg.1
      rcases Int.lt_or_le 0 gg with h | h
      · exact h
      · have e : gg = 0 := by omega
        subst e
        obtain ⟨q, hq⟩ := gw
        rw [Int.zero_mul] at hq
        omega
    have g1 : gg ≤ 1000000000000000 := Int.le_trans (Int.le_of_dvd (by omega) gw) w2
    have hun := fun (n : TNum) ea el tg => unit_gcd (n := n) ea el tg g0 hg
    walk_at "go"
    refine ⟨w, h, sh, rfl, fo, fun n ea el tg ok => ?_⟩
    obtain ⟨hcirc, hgg⟩ := round_val ea el tg g0 (hun n ea el tg)
    rw [hgg]
    have huw : 4 * gg ∣ 4 * w := Int.mul_dvd_mul_left 4 gw
    have huh : 4 * gg ∣ 4 * h := Int.mul_dvd_mul_left 4 gh
    have hper := per_torus tg ea el ok
    have hcle := circ_le ok tg
    rw [hcirc] at hper hcle
    have hcv := fun (n : TNum) ea el tg => (round_val (n := n) ea el tg g0 (hun n ea el tg)).1
    generalize hL : 4 * w * h / gg = L at *
    walk_at "go"
    all_goals try (walk_at "no")
    refine ⟨w, h, sh, rfl, fo, ?_⟩
    walk_at "go"
    all_goals try (walk_at "no")
    refine ⟨w, h, sh, rfl, fo, ?_⟩
    walk_at "go"
    all_goals try (walk_at "no")
    have sa := sx.srcAt
    refine comp_inv (fun i acc S' => acc.length = i ∧ RaysOk w h acc ∧ ∃ T1, SrcStep T0.length (10 + 4 * i) S1 T1 ∧ S' = T1 ++ [.lst acc]) _ 0 [] _ ⟨rfl, (fun _ h => nomatch h), S1, SrcAt.refl sa, rfl⟩ ?_ ?_
    · rintro i x acc S' hi ⟨hl, ha, T1, st, rfl⟩ k hk1 hk2
      have hi3 : i < 5 := (intsFrom_get hi).1
      have e1 := st.len
      have sa : SrcAt (T1 ++ [Ob.lst acc]) T0.length (10 + 4 * (0 + i)) := st.srcAt.app
      have hlt1 : T0.length < T1.length := by omega
      walk_at "go"
      refine ⟨T0.length, w, h, _, rfl, sa, by omega, bw0, fun x y dx dy S'' ro st3 => ?_⟩
      walk_at "go"
      obtain ⟨T2, st2, rfl⟩ := SrcStep.app hlt1 st3
      have e2 := st2.len
      have e3 : S1.length = T2.length := by omega
      refine hk1 _ _ (by rw [e3]; exact getElem_push _ _) (line_lt (by omega)) ⟨by rw [List.length_append, hl]; rfl, fun d hd => ?_, T2, (st.trans st2).mono (by omega), by rw [e3, set_push]⟩
      rcases List.mem_append.mp hd with hd | hd
      · exact ha d hd
      · rw [List.mem_singleton] at hd
        exact ⟨x, y, dx, dy, hd, ro⟩
    rintro acc S3 ⟨hl, ha, T1, st, rfl⟩
    have e1 := st.len
    refine Rt.lstS (ds := acc) st (Nat.le_refl _) (by rw [← e1]; exact getElem_push _ _) (rays_bnd _ ha) ?_
    have sx2 := sx.step st
    clear st e1 sa sx hl
    walk_at "go"
    refine forL_inv (fun k ρ' S4 => ∃ (u8 u9 u10 u11 u12 u13 u14 : Option D), ρ' = [some (.scr ns), some (.int (0 + j)), some (.loc T0.length), some (sizeD w h), some (floorD A.a_Floor w h [] sh), some (.int gg), some (.int L), some (.lst acc), u8, u9, u10, u11, u12, u13, u14] ∧ S4 = T1) _ 0 _ _ ⟨u8, u9, u10, u11, u12, u13, u14, by rw [← hL]; rfl, rfl⟩ ?_ ?_
    · rintro i d ρ S4 hi ⟨u8, u9, u10, u11, u12, u13, u14, rfl, rfl⟩ N2 hN2
      obtain ⟨x, y, dx, dy, rfl, ro⟩ := ha d (List.mem_of_getElem? hi)
      obtain ⟨a1, a2, a3, a4, a5, hdx, hdy, _⟩ := id ro
      walk_at "go"
      refine ⟨w, h, sh, x, y, dx, dy, rfl, fo, ro, fun n1 ea1 el1 tg1 ok1 => ?_⟩
      rw [hcv n1 ea1 el1 tg1, hun n1 ea1 el1 tg1]
      have hor := remF_rng (u := 4 * gg) (X := x * dx) (Y := y * dy) (by omega)
      generalize hown : remF (4 * gg) (x * dx) (y * dy) = own at hor ⊢
      walk_at "go"
      refine ⟨w, h, gg, x, y, dx, dy, rfl, bw0, ⟨g0, g1, gw, gh⟩, ⟨a1, a2, a3, a4⟩, hdx, hdy, ?_⟩
      rw [hown]
      walk_at "go"
      have hp0 := hper.pos
      have rep : ReprOk (.tup [.int L, .tup [], .tup [.int 0, .int own, .int 1, .int (-1)], .tup []]) := ⟨⟨fiN ⟨by omega, by omega⟩, trivial, ⟨fiN ⟨by omega, by omega⟩, fiN ⟨by omega, by omega⟩, fiN ⟨by omega, by omega⟩, fiN ⟨by omega, by omega⟩, trivial⟩, trivial, trivial⟩, Nat.le_of_ble_eq_true rfl, Nat.le_of_ble_eq_true rfl⟩
      refine ⟨rep, ?_⟩
      walk_at "go"
      all_goals try (walk_at "no")
      have hrl : runF w h [] (x, y, dx, dy) L = some (x, y, dx, dy) := by
        have e := run_per (r := (x, y, dx, dy)) w1 h1 ro hper (Int.le_refl 0)
        rw [Int.add_zero, Int.add_zero, Int.add_zero] at e
        rw [e]
        exact congrArg some (rayOf_of (r := (x, y, dx, dy)) w1 h1 ro)
      refine ⟨w, h, [], sh, x, y, dx, dy, L, rfl, fo, ro, ⟨by omega, by omega⟩, ?_⟩
      rw [hrl]
      walk_at "go"
      all_goals try (walk_at "no")
      have hhf := plain_run (r := (x, y, dx, dy)) (k := L / 2) w1 h1 ro (by omega)
      have hne : rayOf (4 * w) (4 * h) (pX (x, y, dx, dy) + L / 2) (pY (x, y, dx, dy) + L / 2) ≠ (x, y, dx, dy) := fun e => half_away (r := (x, y, dx, dy)) w1 h1 hper e
      generalize rayOf (4 * w) (4 * h) (pX (x, y, dx, dy) + L / 2) (pY (x, y, dx, dy) + L / 2) = aa at hhf hne
      obtain ⟨b1, b2, b3, b4⟩ := aa
      refine ⟨w, h, [], sh, x, y, dx, dy, L / 2, rfl, fo, ro, ⟨by omega, by omega⟩, ?_⟩
      rw [hhf]
      walk_at "go"
      · have hc1 : PyData.eqv (py (rayD b1 b2 b3 b4)) (py (rayD x y dx dy)) = true := by assumption
        rw [ray_eqv] at hc1
        exact absurd (of_decide_eq_true hc1) hne
      clear hhf hne
      refine ⟨w, h, sh, x, y, dx, dy, rfl, fo, ro, ?_⟩
      walk_at "go"
      all_goals try (walk_at "no")
      refine ⟨w, h, [], sh, x, y, dx, dy, rfl, fo, ro, fun oo he hb => ?_⟩
      have hoo : oo = none := by
        cases oo with
        | none => rfl
        | some p =>
          have h2 : iterR w h [] (p.1).toNat (x, y, dx, dy) = none := he.2.1
          have h3 := plain_iter (w := w) (h := h) (X := pX (x, y, dx, dy)) (Y := pY (x, y, dx, dy)) w1 h1 (pXY_odd (r := (x, y, dx, dy)) ro) (p.1).toNat
          rw [show rayOf (4 * w) (4 * h) (pX (x, y, dx, dy)) (pY (x, y, dx, dy)) = (x, y, dx, dy) from rayOf_of (r := (x, y, dx, dy)) w1 h1 ro, h2] at h3
          cases h3
      subst hoo
      clear he hb
      walk_at "go"
      all_goals try (walk_at "no")
      refine forL_inv (fun k ρ' S6 => ∃ (u11 : Option D), ρ' = [some (.scr ns), some (.int (0 + j)), some (.loc T0.length), some (sizeD w h), some (floorD A.a_Floor w h [] sh), some (.int gg), some (.int L), some (.lst acc), some (rayD x y dx dy), some (lineP A.a_Line L own), some (.int own), u11, u12, u13, u14] ∧ S6 = S4) _ 0 _ _ ⟨u11, rfl, rfl⟩ ?_ ?_
      · rintro i2 d2 ρ S6 hi2 ⟨u11, rfl, rfl⟩ N3 hN3
        obtain ⟨x2, y2, dx2, dy2, rfl, ro2⟩ := ha d2 (List.mem_of_getElem? hi2)
        obtain ⟨c1, c2, c3, c4, c5, hdx2, hdy2, _⟩ := id ro2
        walk_at "go"
        refine ⟨w, h, sh, x2, y2, dx2, dy2, rfl, fo, ro2, fun n2 ea2 el2 tg2 ok2 => ?_⟩
        rw [hcv n2 ea2 el2 tg2, hun n2 ea2 el2 tg2]
        generalize hown2 : remF (4 * gg) (x2 * dx2) (y2 * dy2) = own2
        walk_at "go"
        refine ⟨L, own2, own, rfl, ?_⟩
        walk_at "go"
        refine ⟨w, h, gg, x2, y2, dx2, dy2, rfl, bw0, ⟨g0, g1, gw, gh⟩, ⟨c1, c2, c3, c4⟩, hdx2, hdy2, ?_⟩
        rw [hown2]
        by_cases ho : own2 = own
        · subst ho
          rw [decide_eq_true rfl]
          walk_at "go"
          · rename_i hc
            exact absurd hc (by decide)
          · exact hN3 _ _ ⟨_, rfl, rfl⟩
        · rw [decide_eq_false ho]
          walk_at "go"
          · rename_i hc
            rw [decide_eq_false (fun k => ho k.symm)] at hc
            exact absurd hc (by decide)
          · exact hN3 _ _ ⟨_, rfl, rfl⟩
      rintro ρ' S6 ⟨u11, rfl, rfl⟩
      walk_at "go"
      refine mark_join (fun ρ' S7 => ∃ b : Bool, (b = true ↔ (0 < x ∧ x < 2 * w) ∧ 0 < y ∧ y < 2 * h) ∧ ρ' = [some (.scr ns), some (.int (0 + j)), some (.loc T0.length), some (sizeD w h), some (floorD A.a_Floor w h [] sh), some (.int gg), some (.int L), some (.lst acc), some (rayD x y dx dy), some (lineP A.a_Line L own), some (.int own), u11, some (.bl b), u13, u14] ∧ S7 = S6) (fun N hN => ?_) ?_
      · walk_at "go"
        all_goals
          refine hN _ _ ⟨_, ?_, rfl, rfl⟩
          first
            | exact ⟨fun h => (nomatch h), fun h => absurd h (by omega)⟩
            | (refine decide_eq_true_iff.trans ?_; omega)
      rintro ρ' S7 ⟨b, hb, rfl, rfl⟩
      walk_at "go"
      refine ⟨w, h, gg, x, y, dx, 0 - dy, rfl, bw0, ⟨g0, g1, gw, gh⟩, ⟨a1, a2, a3, a4⟩, hdx, by omega, ?_⟩
      have hdue := due_cnt (w := w) (h := h) (u := 4 * gg) (by omega) huw huh ro
      rw [hown] at hdue
      generalize remF (4 * gg) (x * dx) (y * (0 - dy)) = cr at hdue ⊢
      walk_at "go"
      refine ⟨w, h, sh, x, y, rfl, fo, ⟨a1, a2, a3, a4, a5⟩, fun n3 ls ea3 el3 tg3 ok3 hls => ?_⟩
      rw [hun n3 ea3 el3 tg3] at hls
      rw [← hls] at hdue
      have dn : ∀ {C : Prop}, (¬ (ls.length : Int) = if b = true ∧ ¬ cr = own then 2 else 1) → C := fun h => absurd (by
        rw [hdue]
        by_cases h1 : b = true ∧ ¬ cr = own
        · rw [if_pos h1, if_pos ⟨hb.mp h1.1, h1.2⟩]
        · rw [if_neg h1, if_neg fun k => h1 ⟨hb.mpr k.1, k.2⟩]) h
      have dn1 : ∀ {C : Prop}, b = true → ¬ cr = own → ¬ (ls.length : Int) = 2 → C := fun q1 q2 q3 => dn fun e => q3 (e.trans (if_pos ⟨q1, q2⟩))
      have dn2 : ∀ {C : Prop}, b = true → cr = own → ¬ (ls.length : Int) = 1 → C := fun q1 q2 q3 => dn fun e => q3 (e.trans (if_neg fun k => k.2 q2))
      have dn3 : ∀ {C : Prop}, b = false → ¬ (ls.length : Int) = 1 → C := fun q1 q3 => dn fun e => q3 (e.trans (if_neg fun k => Bool.noConfusion (q1.symm.trans k.1)))
      walk_at "go"
      · rename_i q1 q2 q3
        exact dn1 q1 q2 q3
      · exact hN2 _ _ ⟨_, _, _, _, _, _, _, rfl, rfl⟩
      · rename_i q1 q2 q3
        exact dn2 q1 q2 q3
      · exact hN2 _ _ ⟨_, _, _, _, _, _, _, rfl, rfl⟩
      · rename_i q1 q2 q3
        exact dn3 q1 q3
      · exact hN2 _ _ ⟨_, _, _, _, _, _, _, rfl, rfl⟩
    · rintro ρ' S5 ⟨u8, u9, u10, u11, u12, u13, u14, rfl, rfl⟩
      obtain ⟨ex', he⟩ := sx2.ext
      exact hN _ _ ⟨_, _, _, _, _, _, _, _, _, _, _, _, _, _, ex ++ ex', rfl, by rw [he, ← hT, List.append_assoc]⟩
  · rintro ρ S5 ⟨u1, u2, u3, u4, u5, u6, u7, u8, u9, u10, u11, u12, u13, u14, ex, rfl, rfl⟩
    walk_at "go"
    exact Rt.pure (d := .bl true) trivial q
end
end K

namespace K
open PySem L2 DL
theorem txt_of {w : World} {K : PySem.W.Frag} {h : Heap} {mg : Str → Option Value} (X : K.In h) (G : h.Ns mainGlobals mg) (s : KH.obsK cfg K = KH.valK cfg w) : ∃ A B, Txt w K mg A B := by
  have hx : (ex0 K && (ex1 K && (ex2 K && true))) = true := KH.says_ex s
  obtain ⟨e0, hx⟩ := He.ba hx
  unfold ex0 at e0
  obtain ⟨z_abs, e0⟩ := He.ba e0
  replace z_abs := of_decide_eq_true z_abs
  obtain ⟨z_len, e0⟩ := He.ba e0
  replace z_len := of_decide_eq_true z_len
  obtain ⟨z_max, e0⟩ := He.ba e0
  replace z_max := of_decide_eq_true z_max
  obtain ⟨z_min, e0⟩ := He.ba e0
  replace z_min := of_decide_eq_true z_min
  obtain ⟨z_range, e0⟩ := He.ba e0
  replace z_range := of_decide_eq_true z_range
  obtain ⟨z_tuple, e0⟩ := He.ba e0
  replace z_tuple := of_decide_eq_true z_tuple
  obtain ⟨z_list, e0⟩ := He.ba e0
  replace z_list := of_decide_eq_true z_list
  obtain ⟨z_enumerate, e0⟩ := He.ba e0
  replace z_enumerate := of_decide_eq_true z_enumerate
  obtain ⟨z_repr, e0⟩ := He.ba e0
  replace z_repr := of_decide_eq_true z_repr
  obtain ⟨z_sorted, e0⟩ := He.ba e0
  replace z_sorted := of_decide_eq_true z_sorted
  obtain ⟨z_isinstance, e0⟩ := He.ba e0
  replace z_isinstance := of_decide_eq_true z_isinstance
  obtain ⟨nc_Floor, e0⟩ := He.ba e0
  replace nc_Floor := of_decide_eq_true nc_Floor
  obtain ⟨nc_Event, e0⟩ := He.ba e0
  replace nc_Event := of_decide_eq_true nc_Event
  obtain ⟨nc_Torus, e0⟩ := He.ba e0
  replace nc_Torus := of_decide_eq_true nc_Torus
  obtain ⟨nc_Course, e0⟩ := He.ba e0
  replace nc_Course := of_decide_eq_true nc_Course
  obtain ⟨nc_Line, e0⟩ := He.ba e0
  replace nc_Line := of_decide_eq_true nc_Line
  obtain ⟨n__law_source, e0⟩ := He.ba e0
  replace n__law_source := of_decide_eq_true n__law_source
  obtain ⟨n__law_draw, e0⟩ := He.ba e0
  replace n__law_draw := of_decide_eq_true n__law_draw
  obtain ⟨n__law_drawn_size, e0⟩ := He.ba e0
  replace n__law_drawn_size := of_decide_eq_true n__law_drawn_size
  obtain ⟨n__law_drawn_ray, e0⟩ := He.ba e0
  replace n__law_drawn_ray := of_decide_eq_true n__law_drawn_ray
  obtain ⟨n_shown_text, e0⟩ := He.ba e0
  replace n_shown_text := of_decide_eq_true n_shown_text
  obtain ⟨a_Floor_is_point, e0⟩ := He.ba e0
  replace a_Floor_is_point := of_decide_eq_true a_Floor_is_point
  obtain ⟨i_Floor_is_point, e0⟩ := He.ba e0
  obtain ⟨a_Floor_is_inner, e0⟩ := He.ba e0
  replace a_Floor_is_inner := of_decide_eq_true a_Floor_is_inner
  obtain ⟨i_Floor_is_inner, e0⟩ := He.ba e0
  obtain ⟨a_Floor_may_stand, e0⟩ := He.ba e0
  replace a_Floor_may_stand := of_decide_eq_true a_Floor_may_stand
  obtain ⟨i_Floor_may_stand, e0⟩ := He.ba e0
  obtain ⟨a_Floor___init__, e0⟩ := He.ba e0
  replace a_Floor___init__ := of_decide_eq_true a_Floor___init__
  obtain ⟨i_Floor___init__, e0⟩ := He.ba e0
  obtain ⟨a_Floor_kind_at, e0⟩ := He.ba e0
  replace a_Floor_kind_at := of_decide_eq_true a_Floor_kind_at
  obtain ⟨i_Floor_kind_at, e0⟩ := He.ba e0
  obtain ⟨n_on_floor, e0⟩ := He.ba e0
  replace n_on_floor := of_decide_eq_true n_on_floor
  obtain ⟨n_check_ray, e0⟩ := He.ba e0
  replace n_check_ray := of_decide_eq_true n_check_ray
  obtain ⟨n_turn_at, e0⟩ := He.ba e0
  replace n_turn_at := of_decide_eq_true n_turn_at
  obtain ⟨n_reversed_ray, e0⟩ := He.ba e0
  replace n_reversed_ray := of_decide_eq_true n_reversed_ray
  obtain ⟨n_common, e0⟩ := He.ba e0
  replace n_common := of_decide_eq_true n_common
  obtain ⟨n_inverse_of, e0⟩ := He.ba e0
  replace n_inverse_of := of_decide_eq_true n_inverse_of
  obtain ⟨a_Event___init__, e0⟩ := He.ba e0
  replace a_Event___init__ := of_decide_eq_true a_Event___init__
  obtain ⟨i_Event___init__, e0⟩ := He.ba e0
  obtain ⟨a_Torus_reduced, e0⟩ := He.ba e0
  replace a_Torus_reduced := of_decide_eq_true a_Torus_reduced
  obtain ⟨i_Torus_reduced, e0⟩ := He.ba e0
  obtain ⟨a_Torus_leaving, e0⟩ := He.ba e0
  replace a_Torus_leaving := of_decide_eq_true a_Torus_leaving
  obtain ⟨i_Torus_leaving, e0⟩ := He.ba e0
  obtain ⟨a_Torus_place_of, e0⟩ := He.ba e0
  replace a_Torus_place_of := of_decide_eq_true a_Torus_place_of
  obtain ⟨i_Torus_place_of, e0⟩ := He.ba e0
  obtain ⟨a_Torus_ray_at, e0⟩ := He.ba e0
  replace a_Torus_ray_at := of_decide_eq_true a_Torus_ray_at
  obtain ⟨i_Torus_ray_at, e0⟩ := He.ba e0
  obtain ⟨a_Torus_walls_between, e0⟩ := He.ba e0
  replace a_Torus_walls_between := of_decide_eq_true a_Torus_walls_between
  obtain ⟨i_Torus_walls_between, e0⟩ := He.ba e0
  obtain ⟨a_Torus_add_target, e0⟩ := He.ba e0
  replace a_Torus_add_target := of_decide_eq_true a_Torus_add_target
  obtain ⟨i_Torus_add_target, e0⟩ := He.ba e0
  obtain ⟨a_Torus___init__, e0⟩ := He.ba e0
  replace a_Torus___init__ := of_decide_eq_true a_Torus___init__
  obtain ⟨i_Torus___init__, e0⟩ := He.ba e0
  obtain ⟨a_Torus_event, e0⟩ := He.ba e0
  replace a_Torus_event := of_decide_eq_true a_Torus_event
  obtain ⟨i_Torus_event, e0⟩ := He.ba e0
  obtain ⟨n_torus_of, e0⟩ := He.ba e0
  replace n_torus_of := of_decide_eq_true n_torus_of
  obtain ⟨a_Course___init__, e0⟩ := He.ba e0
  replace a_Course___init__ := of_decide_eq_true a_Course___init__
  obtain ⟨i_Course___init__, e0⟩ := He.ba e0
  obtain ⟨a_Course_follow, e0⟩ := He.ba e0
  replace a_Course_follow := of_decide_eq_true a_Course_follow
  obtain ⟨i_Course_follow, e0⟩ := He.ba e0
  obtain ⟨e1, hx⟩ := He.ba hx
  unfold ex1 at e1
  obtain ⟨a_Course_leave_out, e1⟩ := He.ba e1
  replace a_Course_leave_out := of_decide_eq_true a_Course_leave_out
  obtain ⟨i_Course_leave_out, e1⟩ := He.ba e1
  obtain ⟨a_Course_ray, e1⟩ := He.ba e1
  replace a_Course_ray := of_decide_eq_true a_Course_ray
  obtain ⟨i_Course_ray, e1⟩ := He.ba e1
  obtain ⟨n_run, e1⟩ := He.ba e1
  replace n_run := of_decide_eq_true n_run
  obtain ⟨n_came_from, e1⟩ := He.ba e1
  replace n_came_from := of_decide_eq_true n_came_from
  obtain ⟨n_exit_of, e1⟩ := He.ba e1
  replace n_exit_of := of_decide_eq_true n_exit_of
  obtain ⟨a_Torus_remainder, e1⟩ := He.ba e1
  replace a_Torus_remainder := of_decide_eq_true a_Torus_remainder
  obtain ⟨i_Torus_remainder, e1⟩ := He.ba e1
  obtain ⟨a_Line___init__, e1⟩ := He.ba e1
  replace a_Line___init__ := of_decide_eq_true a_Line___init__
  obtain ⟨i_Line___init__, e1⟩ := He.ba e1
  obtain ⟨a_Line___eq__, e1⟩ := He.ba e1
  replace a_Line___eq__ := of_decide_eq_true a_Line___eq__
  obtain ⟨i_Line___eq__, e1⟩ := He.ba e1
  obtain ⟨n_line_at, e1⟩ := He.ba e1
  replace n_line_at := of_decide_eq_true n_line_at
  obtain ⟨n_line_of, e1⟩ := He.ba e1
  replace n_line_of := of_decide_eq_true n_line_of
  obtain ⟨n_lines_at, e1⟩ := He.ba e1
  replace n_lines_at := of_decide_eq_true n_lines_at
  obtain ⟨n_ends_of, e1⟩ := He.ba e1
  replace n_ends_of := of_decide_eq_true n_ends_of
  obtain ⟨n_paths, e1⟩ := He.ba e1
  replace n_paths := of_decide_eq_true n_paths
  obtain ⟨n_following_places, e1⟩ := He.ba e1
  replace n_following_places := of_decide_eq_true n_following_places
  obtain ⟨n_removed_paths, e1⟩ := He.ba e1
  replace n_removed_paths := of_decide_eq_true n_removed_paths
  obtain ⟨n_count_of, e1⟩ := He.ba e1
  replace n_count_of := of_decide_eq_true n_count_of
  obtain ⟨n_count_closed, e1⟩ := He.ba e1
  replace n_count_closed := of_decide_eq_true n_count_closed
  obtain ⟨n_closed_lines, e1⟩ := He.ba e1
  replace n_closed_lines := of_decide_eq_true n_closed_lines
  obtain ⟨n_next_thing, e1⟩ := He.ba e1
  replace n_next_thing := of_decide_eq_true n_next_thing
  obtain ⟨n__law_common, e1⟩ := He.ba e1
  replace n__law_common := of_decide_eq_true n__law_common
  obtain ⟨n__law_rest, e1⟩ := He.ba e1
  replace n__law_rest := of_decide_eq_true n__law_rest
  obtain ⟨n_law, e1⟩ := He.ba e1
  replace n_law := of_decide_eq_true n_law
  obtain ⟨pg_Floor, e1⟩ := He.ba e1
  obtain ⟨hd_Floor, e1⟩ := He.ba e1
  obtain ⟨po_Floor, e1⟩ := He.ba e1
  obtain ⟨sa_Floor, e1⟩ := He.ba e1
  replace sa_Floor := of_decide_eq_true sa_Floor
  obtain ⟨mk_Floor, e1⟩ := He.ba e1
  obtain ⟨kc_Floor, e1⟩ := He.ba e1
  obtain ⟨rd_Floor, e1⟩ := He.ba e1
  obtain ⟨ga_Floor, e1⟩ := He.ba e1
  replace ga_Floor := of_decide_eq_true ga_Floor
  obtain ⟨x_Floor_width, e1⟩ := He.ba e1
  replace x_Floor_width := of_decide_eq_true x_Floor_width
  obtain ⟨x_Floor_height, e1⟩ := He.ba e1
  replace x_Floor_height := of_decide_eq_true x_Floor_height
  obtain ⟨x_Floor_numbers, e1⟩ := He.ba e1
  replace x_Floor_numbers := of_decide_eq_true x_Floor_numbers
  obtain ⟨x_Floor_things, e1⟩ := He.ba e1
  replace x_Floor_things := of_decide_eq_true x_Floor_things
  obtain ⟨x_Floor_shown, e1⟩ := He.ba e1
  replace x_Floor_shown := of_decide_eq_true x_Floor_shown
  obtain ⟨pg_Event, e1⟩ := He.ba e1
  obtain ⟨hd_Event, e1⟩ := He.ba e1
  obtain ⟨po_Event, e1⟩ := He.ba e1
  obtain ⟨sa_Event, e1⟩ := He.ba e1
  replace sa_Event := of_decide_eq_true sa_Event
  obtain ⟨mk_Event, e1⟩ := He.ba e1
  obtain ⟨kc_Event, e1⟩ := He.ba e1
  obtain ⟨x_Event_steps, e1⟩ := He.ba e1
  replace x_Event_steps := of_decide_eq_true x_Event_steps
  obtain ⟨x_Event_number, e1⟩ := He.ba e1
  replace x_Event_number := of_decide_eq_true x_Event_number
  obtain ⟨x_Event_left, e1⟩ := He.ba e1
  replace x_Event_left := of_decide_eq_true x_Event_left
  obtain ⟨pg_Torus, e1⟩ := He.ba e1
  obtain ⟨hd_Torus, e1⟩ := He.ba e1
  obtain ⟨po_Torus, e1⟩ := He.ba e1
  obtain ⟨sa_Torus, e1⟩ := He.ba e1
  replace sa_Torus := of_decide_eq_true sa_Torus
  obtain ⟨mk_Torus, e1⟩ := He.ba e1
  obtain ⟨kc_Torus, e1⟩ := He.ba e1
  obtain ⟨x_Torus_across, e1⟩ := He.ba e1
  replace x_Torus_across := of_decide_eq_true x_Torus_across
  obtain ⟨x_Torus_along, e1⟩ := He.ba e1
  replace x_Torus_along := of_decide_eq_true x_Torus_along
  obtain ⟨x_Torus_unit, e1⟩ := He.ba e1
  replace x_Torus_unit := of_decide_eq_true x_Torus_unit
  obtain ⟨x_Torus_rest, e1⟩ := He.ba e1
  replace x_Torus_rest := of_decide_eq_true x_Torus_rest
  obtain ⟨x_Torus_circuit, e1⟩ := He.ba e1
  replace x_Torus_circuit := of_decide_eq_true x_Torus_circuit
  obtain ⟨e2, hx⟩ := He.ba hx
  unfold ex2 at e2
  obtain ⟨x_Torus_factor, e2⟩ := He.ba e2
  replace x_Torus_factor := of_decide_eq_true x_Torus_factor
  obtain ⟨x_Torus_targets, e2⟩ := He.ba e2
  replace x_Torus_targets := of_decide_eq_true x_Torus_targets
  obtain ⟨x_Torus_classes, e2⟩ := He.ba e2
  replace x_Torus_classes := of_decide_eq_true x_Torus_classes
  obtain ⟨pg_Course, e2⟩ := He.ba e2
  obtain ⟨hd_Course, e2⟩ := He.ba e2
  obtain ⟨po_Course, e2⟩ := He.ba e2
  obtain ⟨sa_Course, e2⟩ := He.ba e2
  replace sa_Course := of_decide_eq_true sa_Course
  obtain ⟨mk_Course, e2⟩ := He.ba e2
  obtain ⟨kc_Course, e2⟩ := He.ba e2
  obtain ⟨x_Course_torus, e2⟩ := He.ba e2
  replace x_Course_torus := of_decide_eq_true x_Course_torus
  obtain ⟨x_Course_spot, e2⟩ := He.ba e2
  replace x_Course_spot := of_decide_eq_true x_Course_spot
  obtain ⟨x_Course_steps, e2⟩ := He.ba e2
  replace x_Course_steps := of_decide_eq_true x_Course_steps
  obtain ⟨x_Course_walls, e2⟩ := He.ba e2
  replace x_Course_walls := of_decide_eq_true x_Course_walls
  obtain ⟨x_Course_mirrors, e2⟩ := He.ba e2
  replace x_Course_mirrors := of_decide_eq_true x_Course_mirrors
  obtain ⟨x_Course_door, e2⟩ := He.ba e2
  replace x_Course_door := of_decide_eq_true x_Course_door
  obtain ⟨x_Course_taken, e2⟩ := He.ba e2
  replace x_Course_taken := of_decide_eq_true x_Course_taken
  obtain ⟨pg_Line, e2⟩ := He.ba e2
  obtain ⟨hd_Line, e2⟩ := He.ba e2
  obtain ⟨po_Line, e2⟩ := He.ba e2
  obtain ⟨sa_Line, e2⟩ := He.ba e2
  replace sa_Line := of_decide_eq_true sa_Line
  obtain ⟨mk_Line, e2⟩ := He.ba e2
  obtain ⟨kc_Line, e2⟩ := He.ba e2
  obtain ⟨ia_Line, e2⟩ := He.ba e2
  replace ia_Line := of_decide_eq_true ia_Line
  obtain ⟨ib_Line, e2⟩ := He.ba e2
  replace ib_Line := of_decide_eq_true ib_Line
  obtain ⟨id_Line, e2⟩ := He.ba e2
  replace id_Line := of_decide_eq_true id_Line
  obtain ⟨im_Line, e2⟩ := He.ba e2
  replace im_Line := of_decide_eq_true im_Line
  obtain ⟨x_Line_length, e2⟩ := He.ba e2
  replace x_Line_length := of_decide_eq_true x_Line_length
  obtain ⟨x_Line_ends, e2⟩ := He.ba e2
  replace x_Line_ends := of_decide_eq_true x_Line_ends
  obtain ⟨x_Line_first, e2⟩ := He.ba e2
  replace x_Line_first := of_decide_eq_true x_Line_first
  obtain ⟨x_Line_hits, e2⟩ := He.ba e2
  replace x_Line_hits := of_decide_eq_true x_Line_hits
  obtain ⟨nt_OTHER_KIND, e2⟩ := He.ba e2
  replace nt_OTHER_KIND := of_decide_eq_true nt_OTHER_KIND
  obtain ⟨tb_OTHER_KIND, e2⟩ := He.ba e2
  obtain ⟨nt_TURNS, e2⟩ := He.ba e2
  replace nt_TURNS := of_decide_eq_true nt_TURNS
  obtain ⟨tb_TURNS, e2⟩ := He.ba e2
  obtain ⟨nw_WAYS, e2⟩ := He.ba e2
  replace nw_WAYS := of_decide_eq_true nw_WAYS
  obtain ⟨sq_WAYS, e2⟩ := He.ba e2
  obtain ⟨tp_TURNS0, e2⟩ := He.ba e2
  obtain ⟨tp_TURNS1, e2⟩ := He.ba e2
  obtain ⟨tp_TURNS2, e2⟩ := He.ba e2
  obtain ⟨tp_WAYS0, e2⟩ := He.ba e2
  obtain ⟨tp_WAYS1, e2⟩ := He.ba e2
  obtain ⟨tp_WAYS2, e2⟩ := He.ba e2
  obtain ⟨tp_WAYS3, e2⟩ := He.ba e2
  obtain ⟨nv_MOST_SIZE, e2⟩ := He.ba e2
  obtain ⟨nv_DOOR, e2⟩ := He.ba e2
  obtain ⟨vv_Floor_MOST_THINGS, e2⟩ := He.ba e2
  obtain ⟨d__law_source, F__law_source⟩ := KH.says_fn s 0 (d := ⟨.g "_law_source", "_law_source", "_law_source", s__law_source⟩) rfl
  obtain ⟨d__law_draw, F__law_draw⟩ := KH.says_fn s 1 (d := ⟨.g "_law_draw", "_law_draw", "_law_draw", s__law_draw⟩) rfl
  obtain ⟨d__law_drawn_size, F__law_drawn_size⟩ := KH.says_fn s 2 (d := ⟨.g "_law_drawn_size", "_law_drawn_size", "_law_drawn_size", s__law_drawn_size⟩) rfl
  obtain ⟨d__law_drawn_ray, F__law_drawn_ray⟩ := KH.says_fn s 3 (d := ⟨.g "_law_drawn_ray", "_law_drawn_ray", "_law_drawn_ray", s__law_drawn_ray⟩) rfl
  obtain ⟨d_shown_text, F_shown_text⟩ := KH.says_fn s 4 (d := ⟨.g "shown_text", "shown_text", "shown_text", s_shown_text⟩) rfl
  obtain ⟨d_Floor_is_point, F_Floor_is_point⟩ := KH.says_fn s 5 (d := ⟨.m "Floor" "is_point", "is_point", "Floor.is_point", s_Floor_is_point⟩) rfl
  obtain ⟨d_Floor_is_inner, F_Floor_is_inner⟩ := KH.says_fn s 6 (d := ⟨.m "Floor" "is_inner", "is_inner", "Floor.is_inner", s_Floor_is_inner⟩) rfl
  obtain ⟨d_Floor_may_stand, F_Floor_may_stand⟩ := KH.says_fn s 7 (d := ⟨.m "Floor" "may_stand", "may_stand", "Floor.may_stand", s_Floor_may_stand⟩) rfl
  obtain ⟨d_Floor___init__, F_Floor___init__⟩ := KH.says_fn s 8 (d := ⟨.m "Floor" "__init__", "__init__", "Floor.__init__", s_Floor___init__⟩) rfl
  obtain ⟨d_Floor_kind_at, F_Floor_kind_at⟩ := KH.says_fn s 9 (d := ⟨.m "Floor" "kind_at", "kind_at", "Floor.kind_at", s_Floor_kind_at⟩) rfl
  obtain ⟨d_on_floor, F_on_floor⟩ := KH.says_fn s 10 (d := ⟨.g "on_floor", "on_floor", "on_floor", s_on_floor⟩) rfl
  obtain ⟨d_check_ray, F_check_ray⟩ := KH.says_fn s 11 (d := ⟨.g "check_ray", "check_ray", "check_ray", s_check_ray⟩) rfl
  obtain ⟨d_turn_at, F_turn_at⟩ := KH.says_fn s 12 (d := ⟨.g "turn_at", "turn_at", "turn_at", s_turn_at⟩) rfl
  obtain ⟨d_reversed_ray, F_reversed_ray⟩ := KH.says_fn s 13 (d := ⟨.g "reversed_ray", "reversed_ray", "reversed_ray", s_reversed_ray⟩) rfl
  obtain ⟨d_common, F_common⟩ := KH.says_fn s 14 (d := ⟨.g "common", "common", "common", s_common⟩) rfl
  obtain ⟨d_inverse_of, F_inverse_of⟩ := KH.says_fn s 15 (d := ⟨.g "inverse_of", "inverse_of", "inverse_of", s_inverse_of⟩) rfl
  obtain ⟨d_Event___init__, F_Event___init__⟩ := KH.says_fn s 16 (d := ⟨.m "Event" "__init__", "__init__", "Event.__init__", s_Event___init__⟩) rfl
  obtain ⟨d_Torus_reduced, F_Torus_reduced⟩ := KH.says_fn s 17 (d := ⟨.m "Torus" "reduced", "reduced", "Torus.reduced", s_Torus_reduced⟩) rfl
  obtain ⟨d_Torus_leaving, F_Torus_leaving⟩ := KH.says_fn s 18 (d := ⟨.m "Torus" "leaving", "leaving", "Torus.leaving", s_Torus_leaving⟩) rfl
  obtain ⟨d_Torus_place_of, F_Torus_place_of⟩ := KH.says_fn s 19 (d := ⟨.m "Torus" "place_of", "place_of", "Torus.place_of", s_Torus_place_of⟩) rfl
  obtain ⟨d_Torus_ray_at, F_Torus_ray_at⟩ := KH.says_fn s 20 (d := ⟨.m "Torus" "ray_at", "ray_at", "Torus.ray_at", s_Torus_ray_at⟩) rfl
  obtain ⟨d_Torus_walls_between, F_Torus_walls_between⟩ := KH.says_fn s 21 (d := ⟨.m "Torus" "walls_between", "walls_between", "Torus.walls_between", s_Torus_walls_between⟩) rfl
  obtain ⟨d_Torus_add_target, F_Torus_add_target⟩ := KH.says_fn s 22 (d := ⟨.m "Torus" "add_target", "add_target", "Torus.add_target", s_Torus_add_target⟩) rfl
  obtain ⟨d_Torus___init__, F_Torus___init__⟩ := KH.says_fn s 23 (d := ⟨.m "Torus" "__init__", "__init__", "Torus.__init__", s_Torus___init__⟩) rfl
  obtain ⟨d_Torus_event, F_Torus_event⟩ := KH.says_fn s 24 (d := ⟨.m "Torus" "event", "event", "Torus.event", s_Torus_event⟩) rfl
  obtain ⟨d_torus_of, F_torus_of⟩ := KH.says_fn s 25 (d := ⟨.g "torus_of", "torus_of", "torus_of", s_torus_of⟩) rfl
  obtain ⟨d_Course___init__, F_Course___init__⟩ := KH.says_fn s 26 (d := ⟨.m "Course" "__init__", "__init__", "Course.__init__", s_Course___init__⟩) rfl
  obtain ⟨d_Course_follow, F_Course_follow⟩ := KH.says_fn s 27 (d := ⟨.m "Course" "follow", "follow", "Course.follow", s_Course_follow⟩) rfl
  obtain ⟨d_Course_leave_out, F_Course_leave_out⟩ := KH.says_fn s 28 (d := ⟨.m "Course" "leave_out", "leave_out", "Course.leave_out", s_Course_leave_out⟩) rfl
  obtain ⟨d_Course_ray, F_Course_ray⟩ := KH.says_fn s 29 (d := ⟨.m "Course" "ray", "ray", "Course.ray", s_Course_ray⟩) rfl
  obtain ⟨d_run, F_run⟩ := KH.says_fn s 30 (d := ⟨.g "run", "run", "run", s_run⟩) rfl
  obtain ⟨d_came_from, F_came_from⟩ := KH.says_fn s 31 (d := ⟨.g "came_from", "came_from", "came_from", s_came_from⟩) rfl
  obtain ⟨d_exit_of, F_exit_of⟩ := KH.says_fn s 32 (d := ⟨.g "exit_of", "exit_of", "exit_of", s_exit_of⟩) rfl
  obtain ⟨d_Torus_remainder, F_Torus_remainder⟩ := KH.says_fn s 33 (d := ⟨.m "Torus" "remainder", "remainder", "Torus.remainder", s_Torus_remainder⟩) rfl
  obtain ⟨d_Line___init__, F_Line___init__⟩ := KH.says_fn s 34 (d := ⟨.m "Line" "__init__", "__init__", "Line.__init__", s_Line___init__⟩) rfl
  obtain ⟨d_Line___eq__, F_Line___eq__⟩ := KH.says_fn s 35 (d := ⟨.m "Line" "__eq__", "__eq__", "Line.__eq__", s_Line___eq__⟩) rfl
  obtain ⟨d_line_at, F_line_at⟩ := KH.says_fn s 36 (d := ⟨.g "line_at", "line_at", "line_at", s_line_at⟩) rfl
  obtain ⟨d_line_of, F_line_of⟩ := KH.says_fn s 37 (d := ⟨.g "line_of", "line_of", "line_of", s_line_of⟩) rfl
  obtain ⟨d_lines_at, F_lines_at⟩ := KH.says_fn s 38 (d := ⟨.g "lines_at", "lines_at", "lines_at", s_lines_at⟩) rfl
  obtain ⟨d_ends_of, F_ends_of⟩ := KH.says_fn s 39 (d := ⟨.g "ends_of", "ends_of", "ends_of", s_ends_of⟩) rfl
  obtain ⟨d_paths, F_paths⟩ := KH.says_fn s 40 (d := ⟨.g "paths", "paths", "paths", s_paths⟩) rfl
  obtain ⟨d_following_places, F_following_places⟩ := KH.says_fn s 41 (d := ⟨.g "following_places", "following_places", "following_places", s_following_places⟩) rfl
  obtain ⟨d_removed_paths, F_removed_paths⟩ := KH.says_fn s 42 (d := ⟨.g "removed_paths", "removed_paths", "removed_paths", s_removed_paths⟩) rfl
  obtain ⟨d_count_of, F_count_of⟩ := KH.says_fn s 43 (d := ⟨.g "count_of", "count_of", "count_of", s_count_of⟩) rfl
  obtain ⟨d_count_closed, F_count_closed⟩ := KH.says_fn s 44 (d := ⟨.g "count_closed", "count_closed", "count_closed", s_count_closed⟩) rfl
  obtain ⟨d_closed_lines, F_closed_lines⟩ := KH.says_fn s 45 (d := ⟨.g "closed_lines", "closed_lines", "closed_lines", s_closed_lines⟩) rfl
  obtain ⟨d_next_thing, F_next_thing⟩ := KH.says_fn s 46 (d := ⟨.g "next_thing", "next_thing", "next_thing", s_next_thing⟩) rfl
  obtain ⟨d__law_common, F__law_common⟩ := KH.says_fn s 47 (d := ⟨.g "_law_common", "_law_common", "_law_common", s__law_common⟩) rfl
  obtain ⟨d__law_rest, F__law_rest⟩ := KH.says_fn s 48 (d := ⟨.g "_law_rest", "_law_rest", "_law_rest", s__law_rest⟩) rfl
  obtain ⟨d_law, F_law⟩ := KH.says_fn s 49 (d := ⟨.g "law", "law", "law", s_law⟩) rfl
  have kt_OTHER_KIND := KH.tab_of (KH.says_tab s 0 (t := ("OTHER_KIND", ["|", "-"])) rfl) tb_OTHER_KIND
  have kt_TURNS := KH.tab_of (KH.says_tab s 1 (t := ("TURNS", ["", "|", "-"])) rfl) tb_TURNS
  obtain ⟨tk_MOST_SIZE, nk_MOST_SIZE⟩ := KH.intB_ok nv_MOST_SIZE
  obtain ⟨tk_DOOR, nk_DOOR⟩ := KH.strB_ok nv_DOOR
  obtain ⟨u_MOST_THINGS, v1_MOST_THINGS, v2_MOST_THINGS⟩ := KH.clsValB_ok vv_Floor_MOST_THINGS
  exact ⟨⟨(He.ga K "Floor"),
    (He.ga K "Event"),
    (He.ga K "Torus"),
    (He.ga K "Course"),
    (He.ga K "Line"),
    (He.ga K "_law_source"),
    (He.ga K "_law_draw"),
    (He.ga K "_law_drawn_size"),
    (He.ga K "_law_drawn_ray"),
    (He.ga K "shown_text"),
    (He.ma K (He.ga K "Floor") "is_point"),
    (He.ma K (He.ga K "Floor") "is_inner"),
    (He.ma K (He.ga K "Floor") "may_stand"),
    (He.ma K (He.ga K "Floor") "__init__"),
    (He.ma K (He.ga K "Floor") "kind_at"),
    (He.ga K "on_floor"),
    (He.ga K "check_ray"),
    (He.ga K "turn_at"),
    (He.ga K "reversed_ray"),
    (He.ga K "common"),
    (He.ga K "inverse_of"),
    (He.ma K (He.ga K "Event") "__init__"),
    (He.ma K (He.ga K "Torus") "reduced"),
    (He.ma K (He.ga K "Torus") "leaving"),
    (He.ma K (He.ga K "Torus") "place_of"),
    (He.ma K (He.ga K "Torus") "ray_at"),
    (He.ma K (He.ga K "Torus") "walls_between"),
    (He.ma K (He.ga K "Torus") "add_target"),
    (He.ma K (He.ga K "Torus") "__init__"),
    (He.ma K (He.ga K "Torus") "event"),
    (He.ga K "torus_of"),
    (He.ma K (He.ga K "Course") "__init__"),
    (He.ma K (He.ga K "Course") "follow"),
    (He.ma K (He.ga K "Course") "leave_out"),
    (He.ma K (He.ga K "Course") "ray"),
    (He.ga K "run"),
    (He.ga K "came_from"),
    (He.ga K "exit_of"),
    (He.ma K (He.ga K "Torus") "remainder"),
    (He.ma K (He.ga K "Line") "__init__"),
    (He.ma K (He.ga K "Line") "__eq__"),
    (He.ga K "line_at"),
    (He.ga K "line_of"),
    (He.ga K "lines_at"),
    (He.ga K "ends_of"),
    (He.ga K "paths"),
    (He.ga K "following_places"),
    (He.ga K "removed_paths"),
    (He.ga K "count_of"),
    (He.ga K "count_closed"),
    (He.ga K "closed_lines"),
    (He.ga K "next_thing"),
    (He.ga K "_law_common"),
    (He.ga K "_law_rest"),
    (He.ga K "law"),
    (He.ga K "OTHER_KIND"),
    (He.ga K "TURNS"),
    (KH.valAt K (He.ga K "TURNS") 0),
    (KH.valAt K (He.ga K "TURNS") 1),
    (KH.valAt K (He.ga K "TURNS") 2),
    (KH.itemAt K (He.ga K "WAYS") 0),
    (KH.itemAt K (He.ga K "WAYS") 1),
    (KH.itemAt K (He.ga K "WAYS") 2),
    (KH.itemAt K (He.ga K "WAYS") 3),
    (He.ga K "WAYS")⟩, ⟨d__law_source, d__law_draw, d__law_drawn_size, d__law_drawn_ray, d_shown_text, d_Floor_is_point, d_Floor_is_inner, d_Floor_may_stand, d_Floor___init__, d_Floor_kind_at, d_on_floor, d_check_ray, d_turn_at, d_reversed_ray, d_common, d_inverse_of, d_Event___init__, d_Torus_reduced, d_Torus_leaving, d_Torus_place_of, d_Torus_ray_at, d_Torus_walls_between, d_Torus_add_target, d_Torus___init__, d_Torus_event, d_torus_of, d_Course___init__, d_Course_follow, d_Course_leave_out, d_Course_ray, d_run, d_came_from, d_exit_of, d_Torus_remainder, d_Line___init__, d_Line___eq__, d_line_at, d_line_of, d_lines_at, d_ends_of, d_paths, d_following_places, d_removed_paths, d_count_of, d_count_closed, d_closed_lines, d_next_thing, d__law_common, d__law_rest, d_law⟩, {
    z_abs := PySem.W.mg_none_of X G z_abs,
    z_len := PySem.W.mg_none_of X G z_len,
    z_max := PySem.W.mg_none_of X G z_max,
    z_min := PySem.W.mg_none_of X G z_min,
    z_range := PySem.W.mg_none_of X G z_range,
    z_tuple := PySem.W.mg_none_of X G z_tuple,
    z_list := PySem.W.mg_none_of X G z_list,
    z_enumerate := PySem.W.mg_none_of X G z_enumerate,
    z_repr := PySem.W.mg_none_of X G z_repr,
    z_sorted := PySem.W.mg_none_of X G z_sorted,
    z_isinstance := PySem.W.mg_none_of X G z_isinstance,
    F__law_source := F__law_source,
    b__law_source := F__law_source.binds (ps := ["_law_script", "_law_index"]) fun _ _ _ _ _ _ us hl => match us, hl with | [_, _], _ => rfl,
    g__law_source := PySem.W.mg_of X G n__law_source,
    k__law_source := F__law_source.kp,
    F__law_draw := F__law_draw,
    b__law_draw := F__law_draw.binds (ps := ["_law_source_here", "_law_bound"]) fun _ _ _ _ _ _ us hl => match us, hl with | [_, _], _ => rfl,
    g__law_draw := PySem.W.mg_of X G n__law_draw,
    k__law_draw := F__law_draw.kp,
    F__law_drawn_size := F__law_drawn_size,
    b__law_drawn_size := F__law_drawn_size.binds (ps := ["_law_source_here", "_law_most"]) fun _ _ _ _ _ _ us hl => match us, hl with | [_, _], _ => rfl,
    g__law_drawn_size := PySem.W.mg_of X G n__law_drawn_size,
    k__law_drawn_size := F__law_drawn_size.kp,
    F__law_drawn_ray := F__law_drawn_ray,
    b__law_drawn_ray := F__law_drawn_ray.binds (ps := ["_law_source_here", "_law_size"]) fun _ _ _ _ _ _ us hl => match us, hl with | [_, _], _ => rfl,
    g__law_drawn_ray := PySem.W.mg_of X G n__law_drawn_ray,
    k__law_drawn_ray := F__law_drawn_ray.kp,
    F_shown_text := F_shown_text,
    b_shown_text := F_shown_text.binds (ps := ["width", "height", "things"]) fun _ _ _ _ _ _ us hl => match us, hl with | [_, _, _], _ => rfl,
    g_shown_text := PySem.W.mg_of X G n_shown_text,
    k_shown_text := F_shown_text.kp,
    F_Floor_is_point := F_Floor_is_point,
    b_Floor_is_point := F_Floor_is_point.binds (ps := ["self", "x", "y"]) fun _ _ _ _ _ _ us hl => match us, hl with | [_, _, _], _ => rfl,
    m_Floor_is_point := ⟨a_Floor_is_point, i_Floor_is_point, F_Floor_is_point.kp⟩,
    F_Floor_is_inner := F_Floor_is_inner,
    b_Floor_is_inner := F_Floor_is_inner.binds (ps := ["self", "x", "y"]) fun _ _ _ _ _ _ us hl => match us, hl with | [_, _, _], _ => rfl,
    m_Floor_is_inner := ⟨a_Floor_is_inner, i_Floor_is_inner, F_Floor_is_inner.kp⟩,
    F_Floor_may_stand := F_Floor_may_stand,
    b_Floor_may_stand := F_Floor_may_stand.binds (ps := ["self", "x", "y", "kind"]) fun _ _ _ _ _ _ us hl => match us, hl with | [_, _, _, _], _ => rfl,
    m_Floor_may_stand := ⟨a_Floor_may_stand, i_Floor_may_stand, F_Floor_may_stand.kp⟩,
    F_Floor___init__ := F_Floor___init__,
    F_Floor_kind_at := F_Floor_kind_at,
    b_Floor_kind_at := F_Floor_kind_at.binds (ps := ["self", "x", "y"]) fun _ _ _ _ _ _ us hl => match us, hl with | [_, _, _], _ => rfl,
    m_Floor_kind_at := ⟨a_Floor_kind_at, i_Floor_kind_at, F_Floor_kind_at.kp⟩,
    F_on_floor := F_on_floor,
    b_on_floor := F_on_floor.binds (ps := ["floor", "x", "y"]) fun _ _ _ _ _ _ us hl => match us, hl with | [_, _, _], _ => rfl,
    g_on_floor := PySem.W.mg_of X G n_on_floor,
    k_on_floor := F_on_floor.kp,
    F_check_ray := F_check_ray,
    b_check_ray := F_check_ray.binds (ps := ["floor", "ray"]) fun _ _ _ _ _ _ us hl => match us, hl with | [_, _], _ => rfl,
    g_check_ray := PySem.W.mg_of X G n_check_ray,
    k_check_ray := F_check_ray.kp,
    F_turn_at := F_turn_at,
    b_turn_at := F_turn_at.binds (ps := ["floor", "x", "y"]) fun _ _ _ _ _ _ us hl => match us, hl with | [_, _, _], _ => rfl,
    g_turn_at := PySem.W.mg_of X G n_turn_at,
    k_turn_at := F_turn_at.kp,
    F_reversed_ray := F_reversed_ray,
    b_reversed_ray := F_reversed_ray.binds (ps := ["floor", "ray"]) fun _ _ _ _ _ _ us hl => match us, hl with | [_, _], _ => rfl,
    g_reversed_ray := PySem.W.mg_of X G n_reversed_ray,
    k_reversed_ray := F_reversed_ray.kp,
    F_common := F_common,
    b_common := F_common.binds (ps := ["first", "second"]) fun _ _ _ _ _ _ us hl => match us, hl with | [_, _], _ => rfl,
    g_common := PySem.W.mg_of X G n_common,
    k_common := F_common.kp,
    F_inverse_of := F_inverse_of,
    b_inverse_of := F_inverse_of.binds (ps := ["number", "modulus"]) fun _ _ _ _ _ _ us hl => match us, hl with | [_, _], _ => rfl,
    g_inverse_of := PySem.W.mg_of X G n_inverse_of,
    k_inverse_of := F_inverse_of.kp,
    F_Event___init__ := F_Event___init__,
    b_Event___init__ := F_Event___init__.binds (ps := ["self", "steps", "number", "left"]) fun _ _ _ _ _ _ us hl => match us, hl with | [_, _, _, _], _ => rfl,
    F_Torus_reduced := F_Torus_reduced,
    b_Torus_reduced := F_Torus_reduced.binds (ps := ["self", "place"]) fun _ _ _ _ _ _ us hl => match us, hl with | [_, _], _ => rfl,
    m_Torus_reduced := ⟨a_Torus_reduced, i_Torus_reduced, F_Torus_reduced.kp⟩,
    F_Torus_leaving := F_Torus_leaving,
    b_Torus_leaving := F_Torus_leaving.binds (ps := ["self", "place", "kind"]) fun _ _ _ _ _ _ us hl => match us, hl with | [_, _, _], _ => rfl,
    m_Torus_leaving := ⟨a_Torus_leaving, i_Torus_leaving, F_Torus_leaving.kp⟩,
    F_Torus_place_of := F_Torus_place_of,
    b_Torus_place_of := F_Torus_place_of.binds (ps := ["self", "ray"]) fun _ _ _ _ _ _ us hl => match us, hl with | [_, _], _ => rfl,
    m_Torus_place_of := ⟨a_Torus_place_of, i_Torus_place_of, F_Torus_place_of.kp⟩,
    F_Torus_ray_at := F_Torus_ray_at,
    b_Torus_ray_at := F_Torus_ray_at.binds (ps := ["self", "place"]) fun _ _ _ _ _ _ us hl => match us, hl with | [_, _], _ => rfl,
    m_Torus_ray_at := ⟨a_Torus_ray_at, i_Torus_ray_at, F_Torus_ray_at.kp⟩,
    F_Torus_walls_between := F_Torus_walls_between,
    b_Torus_walls_between := F_Torus_walls_between.binds (ps := ["self", "place", "steps"]) fun _ _ _ _ _ _ us hl => match us, hl with | [_, _, _], _ => rfl,
    m_Torus_walls_between := ⟨a_Torus_walls_between, i_Torus_walls_between, F_Torus_walls_between.kp⟩,
    F_Torus_add_target := F_Torus_add_target,
    b_Torus_add_target := F_Torus_add_target.binds (ps := ["self", "place", "number", "left"]) fun _ _ _ _ _ _ us hl => match us, hl with | [_, _, _, _], _ => rfl,
    m_Torus_add_target := ⟨a_Torus_add_target, i_Torus_add_target, F_Torus_add_target.kp⟩,
    F_Torus___init__ := F_Torus___init__,
    b_Torus___init__ := F_Torus___init__.binds (ps := ["self", "width", "height", "things"]) fun _ _ _ _ _ _ us hl => match us, hl with | [_, _, _, _], _ => rfl,
    F_Torus_event := F_Torus_event,
    b_Torus_event := F_Torus_event.binds (ps := ["self", "place"]) fun _ _ _ _ _ _ us hl => match us, hl with | [_, _], _ => rfl,
    m_Torus_event := ⟨a_Torus_event, i_Torus_event, F_Torus_event.kp⟩,
    F_torus_of := F_torus_of,
    b_torus_of := F_torus_of.binds (ps := ["floor"]) fun _ _ _ _ _ _ us hl => match us, hl with | [_], _ => rfl,
    g_torus_of := PySem.W.mg_of X G n_torus_of,
    k_torus_of := F_torus_of.kp,
    F_Course___init__ := F_Course___init__,
    b_Course___init__ := F_Course___init__.binds (ps := ["self", "torus", "place", "steps"]) fun _ _ _ _ _ _ us hl => match us, hl with | [_, _, _, _], _ => rfl,
    F_Course_follow := F_Course_follow,
    b_Course_follow := F_Course_follow.binds (ps := ["self"]) fun _ _ _ _ _ _ us hl => match us, hl with | [_], _ => rfl,
    m_Course_follow := ⟨a_Course_follow, i_Course_follow, F_Course_follow.kp⟩,
    F_Course_leave_out := F_Course_leave_out,
    b_Course_leave_out := F_Course_leave_out.binds (ps := ["self", "before"]) fun _ _ _ _ _ _ us hl => match us, hl with | [_, _], _ => rfl,
    m_Course_leave_out := ⟨a_Course_leave_out, i_Course_leave_out, F_Course_leave_out.kp⟩,
    F_Course_ray := F_Course_ray,
    b_Course_ray := F_Course_ray.binds (ps := ["self"]) fun _ _ _ _ _ _ us hl => match us, hl with | [_], _ => rfl,
    m_Course_ray := ⟨a_Course_ray, i_Course_ray, F_Course_ray.kp⟩,
    F_run := F_run,
    b_run := F_run.binds (ps := ["floor", "ray", "steps"]) fun _ _ _ _ _ _ us hl => match us, hl with | [_, _, _], _ => rfl,
    g_run := PySem.W.mg_of X G n_run,
    k_run := F_run.kp,
    F_came_from := F_came_from,
    b_came_from := F_came_from.binds (ps := ["floor", "torus", "back", "steps"]) fun _ _ _ _ _ _ us hl => match us, hl with | [_, _, _, _], _ => rfl,
    g_came_from := PySem.W.mg_of X G n_came_from,
    k_came_from := F_came_from.kp,
    F_exit_of := F_exit_of,
    b_exit_of := F_exit_of.binds (ps := ["floor", "ray"]) fun _ _ _ _ _ _ us hl => match us, hl with | [_, _], _ => rfl,
    g_exit_of := PySem.W.mg_of X G n_exit_of,
    k_exit_of := F_exit_of.kp,
    F_Torus_remainder := F_Torus_remainder,
    b_Torus_remainder := F_Torus_remainder.binds (ps := ["self", "place"]) fun _ _ _ _ _ _ us hl => match us, hl with | [_, _], _ => rfl,
    m_Torus_remainder := ⟨a_Torus_remainder, i_Torus_remainder, F_Torus_remainder.kp⟩,
    F_Line___init__ := F_Line___init__,
    b_Line___init__ := F_Line___init__.binds (ps := ["self", "length", "ends", "first", "hits"]) fun _ _ _ _ _ _ us hl => match us, hl with | [_, _, _, _, _], _ => rfl,
    F_Line___eq__ := F_Line___eq__,
    b_Line___eq__ := F_Line___eq__.binds (ps := ["self", "other"]) fun _ _ _ _ _ _ us hl => match us, hl with | [_, _], _ => rfl,
    m_Line___eq__ := ⟨a_Line___eq__, i_Line___eq__, F_Line___eq__.kp⟩,
    F_line_at := F_line_at,
    b_line_at := F_line_at.binds (ps := ["floor", "torus", "place"]) fun _ _ _ _ _ _ us hl => match us, hl with | [_, _, _], _ => rfl,
    g_line_at := PySem.W.mg_of X G n_line_at,
    k_line_at := F_line_at.kp,
    F_line_of := F_line_of,
    b_line_of := F_line_of.binds (ps := ["floor", "ray"]) fun _ _ _ _ _ _ us hl => match us, hl with | [_, _], _ => rfl,
    g_line_of := PySem.W.mg_of X G n_line_of,
    k_line_of := F_line_of.kp,
    F_lines_at := F_lines_at,
    b_lines_at := F_lines_at.binds (ps := ["floor", "x", "y"]) fun _ _ _ _ _ _ us hl => match us, hl with | [_, _, _], _ => rfl,
    g_lines_at := PySem.W.mg_of X G n_lines_at,
    k_lines_at := F_lines_at.kp,
    F_ends_of := F_ends_of,
    b_ends_of := F_ends_of.binds (ps := ["floor"]) fun _ _ _ _ _ _ us hl => match us, hl with | [_], _ => rfl,
    g_ends_of := PySem.W.mg_of X G n_ends_of,
    k_ends_of := F_ends_of.kp,
    F_paths := F_paths,
    b_paths := F_paths.binds (ps := ["floor"]) fun _ _ _ _ _ _ us hl => match us, hl with | [_], _ => rfl,
    g_paths := PySem.W.mg_of X G n_paths,
    k_paths := F_paths.kp,
    F_following_places := F_following_places,
    b_following_places := F_following_places.binds (ps := ["torus"]) fun _ _ _ _ _ _ us hl => match us, hl with | [_], _ => rfl,
    g_following_places := PySem.W.mg_of X G n_following_places,
    k_following_places := F_following_places.kp,
    F_removed_paths := F_removed_paths,
    b_removed_paths := F_removed_paths.binds (ps := ["torus", "after", "ends"]) fun _ _ _ _ _ _ us hl => match us, hl with | [_, _, _], _ => rfl,
    g_removed_paths := PySem.W.mg_of X G n_removed_paths,
    k_removed_paths := F_removed_paths.kp,
    F_count_of := F_count_of,
    b_count_of := F_count_of.binds (ps := ["floor", "things"]) fun _ _ _ _ _ _ us hl => match us, hl with | [_, _], _ => rfl,
    g_count_of := PySem.W.mg_of X G n_count_of,
    k_count_of := F_count_of.kp,
    F_count_closed := F_count_closed,
    b_count_closed := F_count_closed.binds (ps := ["floor"]) fun _ _ _ _ _ _ us hl => match us, hl with | [_], _ => rfl,
    g_count_closed := PySem.W.mg_of X G n_count_closed,
    k_count_closed := F_count_closed.kp,
    F_closed_lines := F_closed_lines,
    b_closed_lines := F_closed_lines.binds (ps := ["floor"]) fun _ _ _ _ _ _ us hl => match us, hl with | [_], _ => rfl,
    g_closed_lines := PySem.W.mg_of X G n_closed_lines,
    k_closed_lines := F_closed_lines.kp,
    F_next_thing := F_next_thing,
    b_next_thing := F_next_thing.binds (ps := ["floor", "ray"]) fun _ _ _ _ _ _ us hl => match us, hl with | [_, _], _ => rfl,
    g_next_thing := PySem.W.mg_of X G n_next_thing,
    k_next_thing := F_next_thing.kp,
    F__law_common := F__law_common,
    b__law_common := F__law_common.binds (ps := ["_law_first", "_law_second"]) fun _ _ _ _ _ _ us hl => match us, hl with | [_, _], _ => rfl,
    g__law_common := PySem.W.mg_of X G n__law_common,
    k__law_common := F__law_common.kp,
    F__law_rest := F__law_rest,
    b__law_rest := F__law_rest.binds (ps := ["_law_size", "_law_unit", "_law_ray"]) fun _ _ _ _ _ _ us hl => match us, hl with | [_, _, _], _ => rfl,
    g__law_rest := PySem.W.mg_of X G n__law_rest,
    k__law_rest := F__law_rest.kp,
    F_law := F_law,
    b_law := F_law.binds (ps := ["_law_script"]) fun _ _ _ _ _ _ us hl => match us, hl with | [_], _ => rfl,
    g_law := PySem.W.mg_of X G n_law,
    k_law := F_law.kp,
    cl_Floor := ⟨pg_Floor, hd_Floor, po_Floor, sa_Floor⟩,
    g_Floor := PySem.W.mg_of X G nc_Floor,
    mk_Floor := ⟨mk_Floor, a_Floor___init__, i_Floor___init__, kc_Floor⟩,
    cr_Floor := ⟨rd_Floor, ga_Floor⟩,
    n_Floor_width := x_Floor_width,
    n_Floor_height := x_Floor_height,
    n_Floor_numbers := x_Floor_numbers,
    n_Floor_things := x_Floor_things,
    n_Floor_shown := x_Floor_shown,
    cl_Event := ⟨pg_Event, hd_Event, po_Event, sa_Event⟩,
    g_Event := PySem.W.mg_of X G nc_Event,
    mk_Event := ⟨mk_Event, a_Event___init__, i_Event___init__, kc_Event⟩,
    n_Event_steps := x_Event_steps,
    n_Event_number := x_Event_number,
    n_Event_left := x_Event_left,
    cl_Torus := ⟨pg_Torus, hd_Torus, po_Torus, sa_Torus⟩,
    g_Torus := PySem.W.mg_of X G nc_Torus,
    mk_Torus := ⟨mk_Torus, a_Torus___init__, i_Torus___init__, kc_Torus⟩,
    n_Torus_across := x_Torus_across,
    n_Torus_along := x_Torus_along,
    n_Torus_unit := x_Torus_unit,
    n_Torus_rest := x_Torus_rest,
    n_Torus_circuit := x_Torus_circuit,
    n_Torus_factor := x_Torus_factor,
    n_Torus_targets := x_Torus_targets,
    n_Torus_classes := x_Torus_classes,
    cl_Course := ⟨pg_Course, hd_Course, po_Course, sa_Course⟩,
    g_Course := PySem.W.mg_of X G nc_Course,
    mk_Course := ⟨mk_Course, a_Course___init__, i_Course___init__, kc_Course⟩,
    n_Course_torus := x_Course_torus,
    n_Course_spot := x_Course_spot,
    n_Course_steps := x_Course_steps,
    n_Course_walls := x_Course_walls,
    n_Course_mirrors := x_Course_mirrors,
    n_Course_door := x_Course_door,
    n_Course_taken := x_Course_taken,
    cl_Line := ⟨pg_Line, hd_Line, po_Line, sa_Line⟩,
    g_Line := PySem.W.mg_of X G nc_Line,
    mk_Line := ⟨mk_Line, a_Line___init__, i_Line___init__, kc_Line⟩,
    ic_Line := ⟨⟨pg_Line, hd_Line, po_Line, sa_Line⟩, ia_Line, ib_Line, id_Line, im_Line, if_pos (beq_self_eq_true _)⟩,
    n_Line_length := x_Line_length,
    n_Line_ends := x_Line_ends,
    n_Line_first := x_Line_first,
    n_Line_hits := x_Line_hits,
    g_OTHER_KIND := PySem.W.mg_of X G nt_OTHER_KIND,
    kt_OTHER_KIND := kt_OTHER_KIND,
    g_TURNS := PySem.W.mg_of X G nt_TURNS,
    kt_TURNS := kt_TURNS,
    ct_TURNS0 := KH.tup2B_ok tp_TURNS0,
    ct_TURNS1 := KH.tup2B_ok tp_TURNS1,
    ct_TURNS2 := KH.tup2B_ok tp_TURNS2,
    ct_WAYS0 := KH.tup2B_ok tp_WAYS0,
    ct_WAYS1 := KH.tup2B_ok tp_WAYS1,
    ct_WAYS2 := KH.tup2B_ok tp_WAYS2,
    ct_WAYS3 := KH.tup2B_ok tp_WAYS3,
    g_WAYS := PySem.W.mg_of X G nw_WAYS,
    w_WAYS := KH.seqB_ok sq_WAYS,
    g_MOST_SIZE := ⟨tk_MOST_SIZE, PySem.W.mg_of X G nk_MOST_SIZE⟩,
    g_DOOR := ⟨tk_DOOR, PySem.W.mg_of X G nk_DOOR⟩,
    cv_Floor_MOST_THINGS := ⟨u_MOST_THINGS, v1_MOST_THINGS, v2_MOST_THINGS⟩ }⟩
end K

namespace K
open PySem L2 DL
theorem facts {P : Program} {w : World} {K : PySem.W.Frag} {h : Heap} {mg : Str → Option Value} {fa : Addr} (X : K.In h) (G : h.Ns mainGlobals mg) (hfa : mg "law" = some (.ref fa)) (s : KH.obsK cfg K = KH.valK cfg w) :
    ∃ fd : FuncData, (∀ (s : Shared) (v : Value), BindsTo s fd ⟨[v], []⟩ [("_law_script", v)]) ∧ ∀ base : Heap, K.In base → base.Ns mainGlobals mg → FnG P w K mg base 11 fa fd ["_law_script"] (spOf K 1 spLaw) := by
  obtain ⟨A, B, T⟩ := txt_of X G s
  have e := hfa.symm.trans T.g_law
  cases e
  refine ⟨B.a_law, fun s v => ?_, fun base _ _ => ok_law T⟩
  obtain ⟨oc, od, kV, doc, pm, an, cdv, ct, osl, e, lk, hcd⟩ := T.F_law.ex
  rw [e]
  exact .of_eq rfl
theorem script_ok {K : PySem.W.Frag} {H : Hp} {a : Addr} {ns : List Int} (hl : ns.length ≤ 63) (hS : SqL K H a (ns.map V.int)) : spOf K 1 spLaw [.ref a] H (fun v _ => v = .bl true) fun _ _ _ => False := by
  refine ⟨rfl, [], [], [.scr ns], fun d _ => d = .bl true, noX, ⟨rfl, (fun l l' a h => nomatch h), (fun l a o h => nomatch h)⟩, ?_, ⟨ns, rfl, hl, rfl⟩, ?_, KX.no⟩
  · refine ⟨_, _, rfl, ⟨a, rfl, ?_⟩, rfl⟩
    rcases hS with h | h
    · exact Or.inl ⟨h, fun l e => nomatch e⟩
    · exact Or.inr h
  · rintro v H' α' d S' _ _ r rfl
    exact r
end K
open PySem PySem.W PySem.Calls PyProof.Rows
set_option maxHeartbeats 0 in
theorem PySem.Challenge.cw_farmirrors_k13_whole_plain_floors_holds : PySem.Challenge.rw_farmirrors_k13_whole_plain_floors.Holds := by
  w_on; o_law
  refine HandSHeadRun.head_any (r := OpenLaw.row PySem.Challenge.rw_farmirrors_k13_whole_plain_floors) (q := view (OpenLaw.row PySem.Challenge.rw_farmirrors_k13_whole_plain_floors).prog [59]) (H := KH.hookK K.cfg) (ob := KH.obK K.cfg) (M := 60000) (loose := K.names) (d := HandSHeadRun.topDef (OpenLaw.row PySem.Challenge.rw_farmirrors_k13_whole_plain_floors).prog 59) (kwd := []) (KH.obK_eq K.cfg)
    (by kernel_rfl) (fun s => by kernel_rfl) K.run (by kernel_rfl) (by kernel_rfl) (by kernel_rfl) (by rfl) (by first | assumption | decide +kernel) (by decide +kernel) ⟨rfl, rfl, rfl, rfl, rfl, by decide +kernel⟩ ?hw ?hc
  case hw => w_witness2
  case hc =>
    refine DL.walk_ofG (l := PySem.Challenge.rw_farmirrors_k13_whole_plain_floors) (n := 63) (k := 11) (x := "_law_script") rfl (by decide) (by kernel_rfl) ⟨rfl, by decide, by decide⟩ ?F
    intro w mg fa h Y G hmg0
    obtain ⟨K₀, KX, c⟩ := Y
    have hmg : mg ("law" : PySem.Str) = some (.ref fa) := by
      have e : (HandSHeadRun.topDef (OpenLaw.row PySem.Challenge.rw_farmirrors_k13_whole_plain_floors).prog 59).name = ("law" : PySem.Str) := by kernel_rfl
      rw [← e]
      exact hmg0
    obtain ⟨fd, hb, hF⟩ := K.facts (P := (PySem.Challenge.rw_farmirrors_k13_whole_plain_floors).prog) (w := w) KX G hmg c
    exact ⟨K₀, fd, DL.spOf K₀ 1 K.spLaw, KX, hb, fun H a ns hl _ hS => K.script_ok hl hS, hF⟩
#print axioms PySem.Challenge.cw_farmirrors_k13_whole_plain_floors_holds
