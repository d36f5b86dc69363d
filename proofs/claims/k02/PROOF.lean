import PyProof.Rows.All
import HandS.ForMost
import HandS.Wide
import HandS.TupAny
import HandS.Deep
import HandS.WordsExc
import HandS.Small
import HandS.Star
import HandS.MethStar
import HandS.ClsMeth
import KE.GoesMore
import HandS.FStr
import HandS.Text
import HandS.RaiseMore
import HandS.Codes
import HandS.Strs
import HandS.SetFor
import HandS.SetIn
import HandS.Ends
import HandS.Words
import HandS.HeadEnd
import PyProof.ReprBulk
import HandS.TupLe
import KE.SortData
import KE.KDictSum
import HandS.Conv
import HandS.DictComp
import HandS.SetBool
import OpenK.KOps
import KE.KFmtOwn
import PyProof.InstNe
import HandS.OwnEq
import HandS.IsInst
import HandS.Style
import HandS.Head0
import HandS.Head1
import HandS.Head2
import HandS.HeadHook1
import HandS.HeadHook2
import HandS.HeadHook3
import PySem.Challenge.RW_farmirrors_k02_floors
set_option Elab.async false
set_option linter.all false
set_option maxRecDepth 100000
set_option maxHeartbeats 8000000
/-! DL, 1: values as trees D, an abstract store of mutable things, what stands for what. -/
namespace DL
open PySem PySem.Spec PyProof.Rows L2

inductive D where
  | non | bl (b : Bool) | int (i : Int) | str (s : Str)
  | tup (ds : List D) | lst (ds : List D)
  | dk (kvs : List (Key × D)) | dt (kvs : List (List Key × D))
  | obj (C : Addr) (fs : List (Str × D))
  | loc (l : Nat) | cst (a : Addr) | ty (n : String) | scr (ns : List Int)

inductive Ob where
  | lst (ds : List D)
  | dk (kvs : List (Key × D)) | dt (kvs : List (List Key × D))
  | ins (C : Addr) (fs : List (Str × D))
  | ext (φ : Addr → Heap → Prop)

abbrev Store := List Ob
abbrev Rho := List (Option D)
abbrev Locs := List (Option Addr)

/-- a is no live location -/
def Off (α : Locs) (a : Addr) : Prop := ∀ l : Nat, α[l]? ≠ some (some a)

def KT (K : PySem.W.Frag) (a : Addr) (xs : List V) : Prop :=
  ∃ (o : Obj) (its : Array Value) (n : Nat), K.lookup a = some o ∧ o.cls = .type "tuple" ∧ o.data = .seq its n ∧ its.size ≤ sizeLine ∧ Vals xs its.toList
def KL (K : PySem.W.Frag) (a : Addr) (xs : List V) : Prop :=
  ∃ (o : Obj) (its : Array Value) (n : Nat), K.lookup a = some o ∧ o.cls = .type "list" ∧ o.dict = none ∧ o.data = .seq its n ∧ its.size ≤ sizeLine ∧ Vals xs its.toList
def Tp (_ : PySem.W.Frag) (α : Locs) (H : Hp) (a : Addr) (xs : List V) : Prop := H a = some (.tup xs) ∧ Off α a
def Lp (K : PySem.W.Frag) (α : Locs) (H : Hp) (a : Addr) (xs : List V) : Prop := (Rd H a (.lst xs) ∧ Off α a) ∨ KL K a xs
theorem Tp.sq {K α H a xs} (h : Tp K α H a xs) : SqT K H a xs := Or.inl (Or.inl h.1)
theorem Lp.sq {K α H a xs} (h : Lp K α H a xs) : SqL K H a xs := by
  rcases h with ⟨h, _⟩ | h
  · exact Or.inl h
  · exact Or.inr h

section
variable (K : PySem.W.Frag) (α : Locs) (H : Hp)
mutual
/-- v stands for d -/
def Rp : V → D → Prop
  | v, .non => v = .non
  | v, .bl b => v = .bl b
  | v, .int i => v = .int i
  | v, .str s => v = .str s
  | v, .tup ds => ∃ a xs, v = .ref a ∧ Tp K α H a xs ∧ RpL xs ds
  | v, .lst ds => ∃ a xs, v = .ref a ∧ H a = some (.lst xs) ∧ Off α a ∧ RpL xs ds
  | v, .dk kvs => ∃ a xs, v = .ref a ∧ H a = some (.dK xs) ∧ Off α a ∧ RpK xs kvs
  | v, .dt kvs => ∃ a xs, v = .ref a ∧ H a = some (.dT xs) ∧ Off α a ∧ RpT xs kvs
  | v, .obj C fs => ∃ a dx xs, v = .ref a ∧ H a = some (.ins C dx xs) ∧ Off α a ∧ RpF xs fs
  | v, .loc l => ∃ a, v = .ref a ∧ α[l]? = some (some a)
  | v, .cst a => v = .ref a
  | v, .ty n => v = .ty n
  | v, .scr ns => ∃ a, v = .ref a ∧ Lp K α H a (ns.map V.int)
def RpL : List V → List D → Prop
  | vs, [] => vs = []
  | vs, d :: ds => ∃ v r, vs = v :: r ∧ Rp v d ∧ RpL r ds
def RpK : List (Key × V) → List (Key × D) → Prop
  | vs, [] => vs = []
  | vs, (k, d) :: ds => ∃ v r, vs = (k, v) :: r ∧ Rp v d ∧ RpK r ds
def RpT : List (List Key × V) → List (List Key × D) → Prop
  | vs, [] => vs = []
  | vs, (k, d) :: ds => ∃ v r, vs = (k, v) :: r ∧ Rp v d ∧ RpT r ds
def RpF : List (Str × V) → List (Str × D) → Prop
  | vs, [] => vs = []
  | vs, (k, d) :: ds => ∃ v r, vs = (k, v) :: r ∧ Rp v d ∧ RpF r ds
end
def ObRp (a : Addr) : Ob → Prop
  | .lst ds => ∃ xs, H a = some (.lst xs) ∧ RpL K α H xs ds
  | .dk kvs => ∃ xs, H a = some (.dK xs) ∧ RpK K α H xs kvs
  | .dt kvs => ∃ xs, H a = some (.dT xs) ∧ RpT K α H xs kvs
  | .ins C fs => ∃ dx xs, H a = some (.ins C dx xs) ∧ RpF K α H xs fs
  | .ext φ => H a = some (.ext (φ a))
structure StoreOk (S : Store) : Prop where
  len : α.length = S.length
  inj : ∀ (l l' : Nat) a, α[l]? = some (some a) → α[l']? = some (some a) → l = l'
  ob : ∀ (l : Nat) a o, α[l]? = some (some a) → S[l]? = some o → ObRp K α H a o
end

/-- from a state on -/
structure Stp (α : Locs) (H : Hp) (α' : Locs) (H' : Hp) : Prop where
  keep : ∀ a o, H a = some o → Off α a → H' a = some o
  dom : ∀ a, H' a = none → H a = none
  pre : ∀ (l : Nat) o, α[l]? = some o → α'[l]? = some o
  new : ∀ (l : Nat) a, α.length ≤ l → α'[l]? = some (some a) → H a = none

theorem Stp.refl (α : Locs) (H : Hp) : Stp α H α H :=
  ⟨fun _ _ h _ => h, fun _ h => h, fun _ _ h => h, fun l a h e => by
    rw [List.getElem?_eq_none_iff.mpr h] at e; cases e⟩
theorem Stp.off {α α' : Locs} {H H' : Hp} (t : Stp α H α' H') {a : Addr} {o : HO} (h : H a = some o) (f : Off α a) : Off α' a := fun l e => by
  by_cases hl : l < α.length
  · have e1 : α[l]? = some α[l] := List.getElem?_eq_getElem hl
    have e2 := t.pre l _ e1
    rw [e] at e2
    cases e2' : α[l] with
    | none => rw [e2'] at e2; cases e2
    | some b =>
      rw [e2'] at e2
      cases e2
      exact f l (by rw [e1, e2'])
  · have := t.new l a (Nat.le_of_not_lt hl) e
    rw [h] at this; cases this
theorem Stp.len {α α' : Locs} {H H' : Hp} (t : Stp α H α' H') : α.length ≤ α'.length := by
  by_cases h : α.length ≤ α'.length
  · exact h
  · have hl : α'.length < α.length := Nat.lt_of_not_le h
    have e1 : α[α'.length]? = some α[α'.length] := List.getElem?_eq_getElem hl
    have e2 := t.pre _ _ e1
    rw [List.getElem?_eq_none_iff.mpr (Nat.le_refl _)] at e2; cases e2
theorem Stp.trans {α α1 α2 : Locs} {H H1 H2 : Hp} (t : Stp α H α1 H1) (u : Stp α1 H1 α2 H2) : Stp α H α2 H2 where
  keep := fun a o h f => u.keep a o (t.keep a o h f) (t.off h f)
  dom := fun a h => t.dom a (u.dom a h)
  pre := fun l o h => u.pre l o (t.pre l o h)
  new := fun l a h e => by
    by_cases hl : l < α1.length
    · have e1 : α1[l]? = some α1[l] := List.getElem?_eq_getElem hl
      have e2 := u.pre l _ e1
      rw [e] at e2
      refine t.new l a h ?_
      rw [e1]
      exact e2.symm
    · exact t.dom a (u.new l a (Nat.le_of_not_lt hl) e)
theorem Stp.grow {α : Locs} {H H' : Hp} (k : ∀ a o, H a = some o → H' a = some o) : Stp α H α H' :=
  ⟨fun a o h _ => k a o h, fun a h => (by
    cases e : H a with
    | none => rfl
    | some o => rw [k a o e] at h; cases h), fun _ _ h => h, fun l a h e => by
    rw [List.getElem?_eq_none_iff.mpr h] at e; cases e⟩
theorem keep_new {H : Hp} {p : Addr} {o : HO} (hp : H p = none) : ∀ a u, H a = some u → upd H p o a = some u := fun a u h => by
  rw [upd_ne (ne_of_none h hp)]; exact h
theorem Stp.new_ {α : Locs} {H : Hp} {p : Addr} {o : HO} (hp : H p = none) : Stp α H α (upd H p o) := Stp.grow (keep_new hp)
theorem Stp.mut {α : Locs} {H : Hp} {l : Nat} {a : Addr} {o u : HO} (hl : α[l]? = some (some a)) (ha : H a = some o) : Stp α H α (upd H a u) :=
  ⟨fun b w h f => (by
    have ne : b ≠ a := fun e => f l (by rw [e]; exact hl)
    rw [upd_ne ne]; exact h), fun b h => (by
    by_cases e : b = a
    · subst e; rw [upd_same] at h; cases h
    · rw [upd_ne e] at h; exact h), fun _ _ h => h, fun l a h e => by
    rw [List.getElem?_eq_none_iff.mpr h] at e; cases e⟩

section
variable {K : PySem.W.Frag} {α α' : Locs} {H H' : Hp}
theorem Rd.stp {a : Addr} {u : HO} (t : Stp α H α' H') (h : Rd H a u) (f : Off α a) : Rd H' a u ∧ Off α' a := by
  rcases h with h | ⟨o, h⟩
  · exact ⟨Or.inl (t.keep _ _ h f), t.off h f⟩
  · exact ⟨Or.inr ⟨o, t.keep _ _ h f⟩, t.off h f⟩
theorem Tp.stp {a : Addr} {xs : List V} (t : Stp α H α' H') (h : Tp K α H a xs) : Tp K α' H' a xs := ⟨t.keep _ _ h.1 h.2, t.off h.1 h.2⟩
theorem Lp.stp {a : Addr} {xs : List V} (t : Stp α H α' H') (h : Lp K α H a xs) : Lp K α' H' a xs := by
  rcases h with ⟨h, f⟩ | h
  · exact Or.inl (Rd.stp t h f)
  · exact Or.inr h
mutual
theorem Rp.stp (t : Stp α H α' H') : ∀ (d : D) (v : V), Rp K α H v d → Rp K α' H' v d
  | .non, v, h => h
  | .bl b, v, h => h
  | .int i, v, h => h
  | .str s, v, h => h
  | .tup ds, v, h => by
    obtain ⟨a, xs, e, hs, hr⟩ := h
    exact ⟨a, xs, e, hs.stp t, RpL.stp t ds xs hr⟩
  | .lst ds, v, h => by
    obtain ⟨a, xs, e, hs, f, hr⟩ := h
    exact ⟨a, xs, e, t.keep _ _ hs f, t.off hs f, RpL.stp t ds xs hr⟩
  | .dk kvs, v, h => by
    obtain ⟨a, xs, e, hs, f, hr⟩ := h
    exact ⟨a, xs, e, t.keep _ _ hs f, t.off hs f, RpK.stp t kvs xs hr⟩
  | .dt kvs, v, h => by
    obtain ⟨a, xs, e, hs, f, hr⟩ := h
    exact ⟨a, xs, e, t.keep _ _ hs f, t.off hs f, RpT.stp t kvs xs hr⟩
  | .obj C fs, v, h => by
    obtain ⟨a, dx, xs, e, hs, f, hr⟩ := h
    exact ⟨a, dx, xs, e, t.keep _ _ hs f, t.off hs f, RpF.stp t fs xs hr⟩
  | .loc l, v, h => by
    obtain ⟨a, e, h⟩ := h
    exact ⟨a, e, t.pre _ _ h⟩
  | .cst a, v, h => h
  | .ty n, v, h => h
  | .scr ns, v, h => by
    obtain ⟨a, e, hs⟩ := h
    exact ⟨a, e, hs.stp t⟩
theorem RpL.stp (t : Stp α H α' H') : ∀ (ds : List D) (vs : List V), RpL K α H vs ds → RpL K α' H' vs ds
  | [], vs, h => h
  | d :: ds, vs, h => by
    obtain ⟨v, r, e, h1, h2⟩ := h
    exact ⟨v, r, e, Rp.stp t d v h1, RpL.stp t ds r h2⟩
theorem RpK.stp (t : Stp α H α' H') : ∀ (ds : List (Key × D)) (vs : List (Key × V)), RpK K α H vs ds → RpK K α' H' vs ds
  | [], vs, h => h
  | (k, d) :: ds, vs, h => by
    obtain ⟨v, r, e, h1, h2⟩ := h
    exact ⟨v, r, e, Rp.stp t d v h1, RpK.stp t ds r h2⟩
theorem RpT.stp (t : Stp α H α' H') : ∀ (ds : List (List Key × D)) (vs : List (List Key × V)), RpT K α H vs ds → RpT K α' H' vs ds
  | [], vs, h => h
  | (k, d) :: ds, vs, h => by
    obtain ⟨v, r, e, h1, h2⟩ := h
    exact ⟨v, r, e, Rp.stp t d v h1, RpT.stp t ds r h2⟩
theorem RpF.stp (t : Stp α H α' H') : ∀ (ds : List (Str × D)) (vs : List (Str × V)), RpF K α H vs ds → RpF K α' H' vs ds
  | [], vs, h => h
  | (k, d) :: ds, vs, h => by
    obtain ⟨v, r, e, h1, h2⟩ := h
    exact ⟨v, r, e, Rp.stp t d v h1, RpF.stp t ds r h2⟩
end

/-! ### lists of values -/
theorem RpL.len : ∀ {ds : List D} {vs : List V}, RpL K α H vs ds → vs.length = ds.length
  | [], vs, h => by
    have h : vs = [] := h
    subst h; rfl
  | d :: ds, vs, h => by
    obtain ⟨v, r, e, h1, h2⟩ := h
    subst e
    rw [List.length_cons, List.length_cons, RpL.len h2]
theorem RpL.get : ∀ {ds : List D} {vs : List V} {i : Nat} {d : D}, RpL K α H vs ds → ds[i]? = some d → ∃ v, vs[i]? = some v ∧ Rp K α H v d
  | [], vs, i, d, h, e => by simp at e
  | d :: ds, vs, 0, d', h, e => by
    obtain ⟨v, r, e1, h1, h2⟩ := h
    subst e1
    simp at e; subst e
    exact ⟨v, by simp, h1⟩
  | d :: ds, vs, i + 1, d', h, e => by
    obtain ⟨v, r, e1, h1, h2⟩ := h
    subst e1
    simp at e
    obtain ⟨w, q, rw'⟩ := RpL.get h2 e
    exact ⟨w, by simpa using q, rw'⟩
theorem RpL.append : ∀ {ds es : List D} {vs ws : List V}, RpL K α H vs ds → RpL K α H ws es → RpL K α H (vs ++ ws) (ds ++ es)
  | [], es, vs, ws, h, g => by
    have h : vs = [] := h
    subst h; exact g
  | d :: ds, es, vs, ws, h, g => by
    obtain ⟨v, r, e1, h1, h2⟩ := h
    subst e1
    exact ⟨v, r ++ ws, rfl, h1, RpL.append h2 g⟩
theorem RpL.one {v : V} {d : D} (h : Rp K α H v d) : RpL K α H [v] [d] := ⟨v, [], rfl, h, rfl⟩
theorem RpL.take : ∀ {ds : List D} {vs : List V} (n : Nat), RpL K α H vs ds → RpL K α H (vs.take n) (ds.take n)
  | _, _, 0, _ => rfl
  | [], vs, n + 1, h => by
    have h : vs = [] := h
    subst h; rfl
  | d :: ds, vs, n + 1, h => by
    obtain ⟨v, r, e1, h1, h2⟩ := h
    subst e1
    exact ⟨v, r.take n, rfl, h1, RpL.take n h2⟩
theorem RpL.drop : ∀ {ds : List D} {vs : List V} (n : Nat), RpL K α H vs ds → RpL K α H (vs.drop n) (ds.drop n)
  | _, _, 0, h => h
  | [], vs, n + 1, h => by
    have h : vs = [] := h
    subst h; rfl
  | d :: ds, vs, n + 1, h => by
    obtain ⟨v, r, e1, h1, h2⟩ := h
    subst e1
    exact RpL.drop n h2
theorem RpL.set : ∀ {ds : List D} {vs : List V} {v : V} {d : D} (i : Nat), Rp K α H v d → RpL K α H vs ds → RpL K α H (vs.set i v) (ds.set i d)
  | [], vs, v, d, i, r, h => by
    have h : vs = [] := h
    subst h; rfl
  | d :: ds, vs, v, d', 0, r, h => by
    obtain ⟨w, t, e1, h1, h2⟩ := h
    subst e1
    exact ⟨v, t, rfl, r, h2⟩
  | d :: ds, vs, v, d', i + 1, r, h => by
    obtain ⟨w, t, e1, h1, h2⟩ := h
    subst e1
    exact ⟨w, t.set i v, rfl, h1, RpL.set i r h2⟩
theorem RpL.reverse : ∀ {ds : List D} {vs : List V}, RpL K α H vs ds → RpL K α H vs.reverse ds.reverse
  | [], vs, h => by
    have h : vs = [] := h
    subst h; rfl
  | d :: ds, vs, h => by
    obtain ⟨w, t, e1, h1, h2⟩ := h
    subst e1
    rw [List.reverse_cons, List.reverse_cons]
    exact RpL.append (RpL.reverse h2) (RpL.one h1)
theorem RpL.ints : ∀ (ns : List Int), RpL K α H (ns.map V.int) (ns.map D.int)
  | [] => rfl
  | n :: ns => ⟨.int n, _, rfl, rfl, RpL.ints ns⟩
/-- attributes -/
theorem RpF.lookup : ∀ {fs : List (Str × D)} {xs : List (Str × V)} {f : Str} {d : D}, RpF K α H xs fs → fs.lookup f = some d → ∃ v, xs.lookup f = some v ∧ Rp K α H v d
  | [], xs, f, d, h, e => by simp at e
  | (k, d) :: fs, xs, f, d', h, e => by
    obtain ⟨v, r, e1, h1, h2⟩ := h
    subst e1
    rw [List.lookup_cons] at e ⊢
    cases q : (f == k) with
    | true =>
      rw [q] at e
      simp at e
      subst e
      exact ⟨v, rfl, h1⟩
    | false =>
      rw [q] at e
      exact RpF.lookup h2 e
theorem RpF.lookup_none : ∀ {fs : List (Str × D)} {xs : List (Str × V)} {f : Str}, RpF K α H xs fs → fs.lookup f = none → xs.lookup f = none
  | [], xs, f, h, e => by
    have h : xs = [] := h
    subst h; rfl
  | (k, d) :: fs, xs, f, h, e => by
    obtain ⟨v, r, e1, h1, h2⟩ := h
    subst e1
    rw [List.lookup_cons] at e ⊢
    cases q : (f == k) with
    | true => rw [q] at e; simp at e
    | false =>
      rw [q] at e
      exact RpF.lookup_none h2 e
theorem RpF.len : ∀ {fs : List (Str × D)} {xs : List (Str × V)}, RpF K α H xs fs → xs.length = fs.length
  | [], xs, h => by
    have h : xs = [] := h
    subst h; rfl
  | (k, d) :: ds, vs, h => by
    obtain ⟨v, r, e, h1, h2⟩ := h
    subst e
    rw [List.length_cons, List.length_cons, RpF.len h2]
def putD (f : Str) (y : D) : List (Str × D) → List (Str × D)
  | [] => [(f, y)]
  | (g, d) :: r => if g = f then (g, y) :: r else (g, d) :: putD f y r
end
end DL

/-! DL, 2: the store's laws; readings by data, lifted. -/
namespace DL
open PySem PySem.Spec PyProof.Rows L2

section
variable {K : PySem.W.Frag} {α α' : Locs} {H H' : Hp} {S : Store}
theorem ObRp.stp {a : Addr} (t : Stp α H α' H') (e : H' a = H a) : ∀ {o : Ob}, ObRp K α H a o → ObRp K α' H' a o
  | .lst ds, ⟨xs, h, r⟩ => ⟨xs, e.trans h, RpL.stp t ds xs r⟩
  | .dk ds, ⟨xs, h, r⟩ => ⟨xs, e.trans h, RpK.stp t ds xs r⟩
  | .dt ds, ⟨xs, h, r⟩ => ⟨xs, e.trans h, RpT.stp t ds xs r⟩
  | .ins C ds, ⟨dx, xs, h, r⟩ => ⟨dx, xs, e.trans h, RpF.stp t ds xs r⟩
  | .ext o, h => e.trans h
theorem ObRp.there {a : Addr} : ∀ {o : Ob}, ObRp K α H a o → ∃ u, H a = some u
  | .lst ds, ⟨xs, h, r⟩ => ⟨_, h⟩
  | .dk ds, ⟨xs, h, r⟩ => ⟨_, h⟩
  | .dt ds, ⟨xs, h, r⟩ => ⟨_, h⟩
  | .ins C ds, ⟨dx, xs, h, r⟩ => ⟨_, h⟩
  | .ext o, h => ⟨_, h⟩
theorem StoreOk.live (so : StoreOk K α H S) {l : Nat} {a : Addr} (h : α[l]? = some (some a)) : ∃ o u, S[l]? = some o ∧ ObRp K α H a o ∧ H a = some u := by
  have hl : l < S.length := by
    rw [← so.len]
    exact (List.getElem?_eq_some_iff.mp h).1
  have e : S[l]? = some S[l] := List.getElem?_eq_getElem hl
  have r := so.ob l a _ h e
  obtain ⟨u, hu⟩ := r.there
  exact ⟨_, u, e, r, hu⟩
theorem StoreOk.grow (so : StoreOk K α H S) (k : ∀ a o, H a = some o → H' a = some o) : StoreOk K α H' S :=
  ⟨so.len, so.inj, fun l a o h e => by
    have r := so.ob l a o h e
    obtain ⟨u, hu⟩ := r.there
    exact r.stp (Stp.grow k) ((k a u hu).trans hu.symm)⟩
theorem StoreOk.off_new (so : StoreOk K α H S) {p : Addr} (hp : H p = none) : Off α p := fun l e => by
  obtain ⟨_, u, _, _, hu⟩ := so.live e
  rw [hp] at hu; cases hu
theorem Stp.push {p : Addr} {o : HO} (hp : H p = none) : Stp α H (α ++ [some p]) (upd H p o) where
  keep := fun a u h _ => keep_new hp a u h
  dom := fun a h => by
    by_cases e : a = p
    · rw [e]; exact hp
    · rw [upd_ne e] at h; exact h
  pre := fun l u h => by
    rw [List.getElem?_append_left (List.getElem?_eq_some_iff.mp h).1]; exact h
  new := fun l a hl e => by
    rw [List.getElem?_append_right hl] at e
    cases q : l - α.length with
    | zero => rw [q] at e; simp at e; rw [← e]; exact hp
    | succ n => rw [q] at e; simp at e
theorem StoreOk.push {p : Addr} {o : HO} {ob : Ob} (so : StoreOk K α H S) (hp : H p = none) (r : ObRp K (α ++ [some p]) (upd H p o) p ob) : StoreOk K (α ++ [some p]) (upd H p o) (S ++ [ob]) where
  len := by rw [List.length_append, List.length_append, so.len]; rfl
  inj := fun l l' a h h' => by
    have key : ∀ m, (α ++ [some p])[m]? = some (some a) → (m < α.length ∧ α[m]? = some (some a) ∧ a ≠ p) ∨ (m = α.length ∧ a = p) := fun m hm => by
      by_cases hlt : m < α.length
      · rw [List.getElem?_append_left hlt] at hm
        refine Or.inl ⟨hlt, hm, ?_⟩
        rintro rfl
        exact so.off_new hp m hm
      · rw [List.getElem?_append_right (Nat.le_of_not_lt hlt)] at hm
        cases q : m - α.length with
        | zero => rw [q] at hm; simp at hm; exact Or.inr ⟨by omega, hm.symm⟩
        | succ n => rw [q] at hm; simp at hm
    rcases key l h with ⟨_, h1, n1⟩ | ⟨e1, e2⟩
    · rcases key l' h' with ⟨_, h2, _⟩ | ⟨_, e3⟩
      · exact so.inj l l' a h1 h2
      · exact absurd e3 n1
    · rcases key l' h' with ⟨_, _, n2⟩ | ⟨e3, _⟩
      · exact absurd e2 n2
      · rw [e1, e3]
  ob := fun l a u h e => by
    by_cases hlt : l < α.length
    · rw [List.getElem?_append_left hlt] at h
      rw [List.getElem?_append_left (by rw [← so.len]; exact hlt)] at e
      have r0 := so.ob l a u h e
      obtain ⟨w, hw⟩ := r0.there
      exact r0.stp (Stp.push hp) (by rw [upd_ne (ne_of_none hw hp)])
    · rw [List.getElem?_append_right (Nat.le_of_not_lt hlt)] at h
      rw [List.getElem?_append_right (by rw [← so.len]; exact Nat.le_of_not_lt hlt), ← so.len] at e
      cases q : l - α.length with
      | zero =>
        rw [q] at h e; simp at h e
        rw [← h, ← e]; exact r
      | succ n => rw [q] at h; simp at h
theorem StoreOk.set {l : Nat} {a : Addr} {o : HO} {ob : Ob} {u : HO} (so : StoreOk K α H S) (hl : α[l]? = some (some a)) (ha : H a = some u) (r : ObRp K α (upd H a o) a ob) : StoreOk K α (upd H a o) (S.set l ob) where
  len := by rw [List.length_set]; exact so.len
  inj := so.inj
  ob := fun l' a' o' h e => by
    by_cases q : l' = l
    · subst q
      rw [h] at hl; cases hl
      have hlt : l' < S.length := by rw [← so.len]; exact (List.getElem?_eq_some_iff.mp h).1
      rw [List.getElem?_set_self hlt] at e
      cases e
      exact r
    · rw [List.getElem?_set_ne (Ne.symm q)] at e
      have r0 := so.ob l' a' o' h e
      have ne : a' ≠ a := fun z => q (so.inj l' l a (by rw [← z]; exact h) hl)
      exact r0.stp (Stp.mut hl ha) (by rw [upd_ne ne])
end

/-! ### the frame -/
def getR : Rho → Nat → Option D
  | [], _ => none
  | x :: _, 0 => x
  | _ :: r, n + 1 => getR r n
def setR : Rho → Nat → D → Rho
  | [], _, _ => []
  | _ :: r, 0, d => some d :: r
  | x :: r, n + 1, d => x :: setR r n d
section
variable (K : PySem.W.Frag) (α : Locs) (H : Hp)
def RhoOk : Rho → L2.St → Prop
  | [], σ => σ = []
  | none :: r, σ => ∃ x t, σ = x :: t ∧ RhoOk r t
  | some d :: r, σ => ∃ v t, σ = some v :: t ∧ Rp K α H v d ∧ RhoOk r t
end
section
variable {K : PySem.W.Frag} {α α' : Locs} {H H' : Hp}
theorem RhoOk.stp (t : Stp α H α' H') : ∀ {ρ : Rho} {σ : L2.St}, RhoOk K α H ρ σ → RhoOk K α' H' ρ σ
  | [], σ, h => h
  | none :: r, σ, ⟨x, u, e, h⟩ => ⟨x, u, e, RhoOk.stp t h⟩
  | some d :: r, σ, ⟨v, u, e, h1, h⟩ => ⟨v, u, e, Rp.stp t d v h1, RhoOk.stp t h⟩
theorem RhoOk.get : ∀ {ρ : Rho} {σ : L2.St} {i : Nat} {d : D}, RhoOk K α H ρ σ → getR ρ i = some d → ∃ v, σ[i]? = some (some v) ∧ Rp K α H v d
  | [], σ, i, d, h, e => by cases e
  | none :: r, σ, 0, d, h, e => by cases e
  | none :: r, σ, i + 1, d, ⟨x, u, e1, h⟩, e => by
    subst e1
    obtain ⟨v, q, rr⟩ := RhoOk.get (i := i) h e
    exact ⟨v, by simpa using q, rr⟩
  | some d :: r, σ, 0, d', ⟨v, u, e1, h1, h⟩, e => by
    subst e1
    have e : some d = some d' := e
    cases e
    exact ⟨v, by simp, h1⟩
  | some d :: r, σ, i + 1, d', ⟨v, u, e1, h1, h⟩, e => by
    subst e1
    obtain ⟨v, q, rr⟩ := RhoOk.get (i := i) h e
    exact ⟨v, by simpa using q, rr⟩
theorem RhoOk.set : ∀ {ρ : Rho} {σ : L2.St} {v : V} {d : D} (i : Nat), Rp K α H v d → RhoOk K α H ρ σ → RhoOk K α H (setR ρ i d) (σ.set i (some v))
  | [], σ, v, d, i, r, h => by
    have h : σ = [] := h
    subst h; rfl
  | none :: ρ, σ, v, d, 0, r, ⟨x, u, e1, h⟩ => by
    subst e1
    exact ⟨v, u, rfl, r, h⟩
  | some d :: ρ, σ, v, d', 0, r, ⟨x, u, e1, h1, h⟩ => by
    subst e1
    exact ⟨v, u, rfl, r, h⟩
  | none :: ρ, σ, v, d, i + 1, r, ⟨x, u, e1, h⟩ => by
    subst e1
    exact ⟨x, u.set i (some v), rfl, RhoOk.set i r h⟩
  | some d :: ρ, σ, v, d', i + 1, r, ⟨x, u, e1, h1, h⟩ => by
    subst e1
    exact ⟨x, u.set i (some v), rfl, h1, RhoOk.set i r h⟩
theorem RhoOk.len : ∀ {ρ : Rho} {σ : L2.St}, RhoOk K α H ρ σ → σ.length = ρ.length
  | [], σ, h => by
    have h : σ = [] := h
    subst h; rfl
  | none :: r, σ, ⟨x, u, e, h⟩ => by
    subst e
    rw [List.length_cons, List.length_cons, RhoOk.len h]
  | some d :: r, σ, ⟨v, u, e, h1, h⟩ => by
    subst e
    rw [List.length_cons, List.length_cons, RhoOk.len h]
/-- slots forgotten -/
def subR : Rho → Rho → Prop
  | [], ρ => ρ = []
  | none :: r, ρ => ∃ x t, ρ = x :: t ∧ subR r t
  | some d :: r, ρ => ∃ t, ρ = some d :: t ∧ subR r t
theorem RhoOk.sub : ∀ {ρ' ρ : Rho} {σ : L2.St}, subR ρ' ρ → RhoOk K α H ρ σ → RhoOk K α H ρ' σ
  | [], ρ, σ, h, g => by
    have h : ρ = [] := h
    subst h; exact g
  | none :: r, ρ, σ, ⟨x, t, e, h⟩, g => by
    subst e
    cases x with
    | none => obtain ⟨y, u, e, g⟩ := g; exact ⟨y, u, e, RhoOk.sub h g⟩
    | some d => obtain ⟨v, u, e, _, g⟩ := g; exact ⟨some v, u, e, RhoOk.sub h g⟩
  | some d :: r, ρ, σ, ⟨t, e, h⟩, g => by
    subst e
    obtain ⟨v, u, e, g1, g⟩ := g
    exact ⟨v, u, e, g1, RhoOk.sub h g⟩
end

/-! ### readings by data -/
abbrev DK := D → Store → Prop
abbrev DT := Rho → Store → DK → Prop
abbrev DTt := Rho → Store → (Bool → Store → Prop) → Prop
abbrev DA := Rho → Store → (List D → Store → Prop) → Prop
abbrev RD := D → D → Store → DK → Prop
abbrev UD := D → Store → DK → Prop
abbrev CD := List D → Store → DK → Prop
structure DEnds where
  nx : Rho → Store → Prop
  rt : DK
  bk : Rho → Store → Prop := fun _ _ => False
  ct : Rho → Store → Prop := fun _ _ => False
abbrev DS := DEnds → Rho → Store → Prop
abbrev DG := D → Rho → Store → (Rho → Store → Prop) → Prop
abbrev DGs := List D → Rho → Store → (Rho → Store → Prop) → Prop

/-- what follows a value -/
def KE (K : PySem.W.Frag) (α : Locs) (H : Hp) (Q : DK) (Q' : VK) : Prop :=
  ∀ v H' α' d S', Stp α H α' H' → StoreOk K α' H' S' → Rp K α' H' v d → Q d S' → Q' v H'
def LiftE (K : PySem.W.Frag) (te : TE) (t : DT) : Prop :=
  ∀ α ρ S σ H Q Q', StoreOk K α H S → RhoOk K α H ρ σ → t ρ S Q → KE K α H Q Q' → te σ H Q'
def LiftT (K : PySem.W.Frag) (tt : TT) (t : DTt) : Prop :=
  ∀ α ρ S σ H (Q : Bool → Store → Prop) (Q' : Bool → Hp → Prop), StoreOk K α H S → RhoOk K α H ρ σ → t ρ S Q →
    (∀ b H' α' S', Stp α H α' H' → StoreOk K α' H' S' → Q b S' → Q' b H') → tt σ H Q'
def LiftA (K : PySem.W.Frag) (ta : TA) (t : DA) : Prop :=
  ∀ α ρ S σ H (Q : List D → Store → Prop) (Q' : List V → Hp → Prop), StoreOk K α H S → RhoOk K α H ρ σ → t ρ S Q →
    (∀ vs H' α' ds S', Stp α H α' H' → StoreOk K α' H' S' → RpL K α' H' vs ds → Q ds S' → Q' vs H') → ta σ H Q'
def LiftR (K : PySem.W.Frag) (r : R2) (t : RD) : Prop :=
  ∀ α S H x y v u Q Q', StoreOk K α H S → Rp K α H v x → Rp K α H u y → t x y S Q → KE K α H Q Q' → r v u H Q'
def LiftU (K : PySem.W.Frag) (r : V → Hp → VK → Prop) (t : UD) : Prop :=
  ∀ α S H x v Q Q', StoreOk K α H S → Rp K α H v x → t x S Q → KE K α H Q Q' → r v H Q'
def LiftC (K : PySem.W.Frag) (r : List V → Hp → VK → Prop) (t : CD) : Prop :=
  ∀ α S H xs vs Q Q', StoreOk K α H S → RpL K α H vs xs → t xs S Q → KE K α H Q Q' → r vs H Q'
structure EndsOk (K : PySem.W.Frag) (α : Locs) (H : Hp) (E : DEnds) (F : Ends) : Prop where
  nx : ∀ σ' H' α' ρ' S', Stp α H α' H' → StoreOk K α' H' S' → RhoOk K α' H' ρ' σ' → E.nx ρ' S' → F.nx σ' H'
  rt : KE K α H E.rt F.rt
  bk : ∀ σ' H' α' ρ' S', Stp α H α' H' → StoreOk K α' H' S' → RhoOk K α' H' ρ' σ' → E.bk ρ' S' → F.bk σ' H'
  ct : ∀ σ' H' α' ρ' S', Stp α H α' H' → StoreOk K α' H' S' → RhoOk K α' H' ρ' σ' → E.ct ρ' S' → F.ct σ' H'
def LiftS (K : PySem.W.Frag) (ts : TS) (t : DS) : Prop :=
  ∀ α ρ S σ H E F, StoreOk K α H S → RhoOk K α H ρ σ → t E ρ S → EndsOk K α H E F → ts F σ H
/-- slots outside of vs are as they were -/
def SameBut (vs : List Nat) (σ σ' : L2.St) : Prop := σ'.length = σ.length ∧ ∀ j, j ∉ vs → σ'[j]? = σ[j]?
def LiftG (K : PySem.W.Frag) (ws : List Nat) (g : TG) (t : DG) : Prop :=
  ∀ α ρ S σ H v d (Q : Rho → Store → Prop) (Q' : L2.St → Hp → Prop), StoreOk K α H S → RhoOk K α H ρ σ → Rp K α H v d → t d ρ S Q →
    (∀ σ' H' α' ρ' S', SameBut ws σ σ' → Stp α H α' H' → StoreOk K α' H' S' → RhoOk K α' H' ρ' σ' → Q ρ' S' → Q' σ' H') → g v σ H Q'
def LiftGs (K : PySem.W.Frag) (ws : List Nat) (g : TGs) (t : DGs) : Prop :=
  ∀ α ρ S σ H vs ds (Q : Rho → Store → Prop) (Q' : L2.St → Hp → Prop), StoreOk K α H S → RhoOk K α H ρ σ → RpL K α H vs ds → t ds ρ S Q →
    (∀ σ' H' α' ρ' S', SameBut ws σ σ' → Stp α H α' H' → StoreOk K α' H' S' → RhoOk K α' H' ρ' σ' → Q ρ' S' → Q' σ' H') → g vs σ H Q'

structure DE (X : Cx) (e : Expr) (t : DT) : Prop where
  ex : ∃ te, PE X e te ∧ LiftE X.K te t
structure DTst (X : Cx) (e : Expr) (t : DTt) : Prop where
  ex : ∃ tt, PT X e tt ∧ LiftT X.K tt t
structure DW (X : Cx) (e : Expr) (t : DTt) : Prop where
  ex : ∃ tt, PW X e tt ∧ LiftT X.K tt t
structure DAs (X : Cx) (es : List Expr) (t : DA) : Prop where
  ex : ∃ ta, PA X es ta ∧ LiftA X.K ta t
structure DSt (X : Cx) (st : Stmt) (t : DS) : Prop where
  ex : ∃ ts, PS X st ts ∧ LiftS X.K ts t
structure DSs (X : Cx) (st : List Stmt) (t : DS) : Prop where
  ex : ∃ ts, PSs X st ts ∧ LiftS X.K ts t
structure DGt (X : Cx) (e : Expr) (ws : List Nat) (t : DG) : Prop where
  ex : ∃ g, PG X e g ∧ LiftG X.K ws g t
structure DGts (X : Cx) (es : List Expr) (ws : List Nat) (t : DGs) : Prop where
  ex : ∃ g, PGs X es g ∧ LiftGs X.K ws g t
structure OpD (X : Cx) (f : Value → Value → Sem Value) (t : RD) : Prop where
  ex : ∃ r, OpR X f r ∧ LiftR X.K r t
structure IxD (X : Cx) (t : RD) : Prop where
  ex : ∃ r, IxR X r ∧ LiftR X.K r t
structure CallD (X : Cx) (f : Value) (t : CD) : Prop where
  ex : ∃ r, CallR X f r ∧ LiftC X.K r t

theorem EndsOk.stp {K : PySem.W.Frag} {α α' : Locs} {H H' : Hp} {E : DEnds} {F : Ends} (k : EndsOk K α H E F) (t : Stp α H α' H') : EndsOk K α' H' E F :=
  ⟨fun σ' H'' α'' ρ' S' u => k.nx σ' H'' α'' ρ' S' (t.trans u), fun v H'' α'' d S' u => k.rt v H'' α'' d S' (t.trans u), fun σ' H'' α'' ρ' S' u => k.bk σ' H'' α'' ρ' S' (t.trans u), fun σ' H'' α'' ρ' S' u => k.ct σ' H'' α'' ρ' S' (t.trans u)⟩
theorem EndsOk.nxt {K : PySem.W.Frag} {α : Locs} {H : Hp} {E : DEnds} {F : Ends} {N : Rho → Store → Prop} {N' : L2.St → Hp → Prop} (k : EndsOk K α H E F)
    (h : ∀ σ' H' α' ρ' S', Stp α H α' H' → StoreOk K α' H' S' → RhoOk K α' H' ρ' σ' → N ρ' S' → N' σ' H') : EndsOk K α H { E with nx := N } { F with nx := N' } :=
  ⟨h, k.rt, k.bk, k.ct⟩
theorem KE.stp {K : PySem.W.Frag} {α α' : Locs} {H H' : Hp} {Q : DK} {Q' : VK} (k : KE K α H Q Q') (t : Stp α H α' H') : KE K α' H' Q Q' :=
  fun v H'' α'' d S' u => k v H'' α'' d S' (t.trans u)

/-! ### names, constants -/
section
variable {X : Cx} {e a b : Expr} {es : List Expr} {pos : Pos} {t ta tb : DT}
def dVar (i : Nat) : DT := fun ρ S Q => match getR ρ i with
  | some d => Q d S
  | none => False
def dC (d : D) : DT := fun _ S Q => Q d S
theorem lift_var {K : PySem.W.Frag} (i : Nat) : LiftE K (tVar i) (dVar i) := fun α ρ S σ H Q Q' so ro h k => by
  unfold dVar at h
  cases e : getR ρ i with
  | none => rw [e] at h; exact h.elim
  | some d =>
    rw [e] at h
    obtain ⟨v, hv, rv⟩ := ro.get e
    exact ⟨v, hv, k v H α d S (Stp.refl _ _) so rv h⟩
theorem lift_c {K : PySem.W.Frag} {v : V} {d : D} (h : ∀ α H, Rp K α H v d) : LiftE K (tC v) (dC d) := fun α ρ S σ H Q Q' so ro q k => k v H α d S (Stp.refl _ _) so (h α H) q
theorem dv (i : Nat) {x : Str} {pos : Pos} (hN : X.N[i]? = some x := by rfl) (hv : Vis X.env.scope x := by first | exact Or.inl rfl | exact Or.inr (Or.inl rfl) | exact Or.inr (Or.inr rfl)) (hd : (x == ("__debug__" : Str)) = false := by decide)
    (hcd : (x == ("__classdict__" : Str)) = false := by decide) : DE X (.Name x pos) (dVar i) := ⟨_, pe_var hN hv hd hcd, lift_var i⟩
theorem de_int {i j pos} : DE X (.Constant (.int i) j pos) (dC (.int i)) := ⟨_, pe_int, lift_c fun _ _ => rfl⟩
theorem de_bl {i j pos} : DE X (.Constant (.bool i) j pos) (dC (.bl i)) := ⟨_, pe_bl, lift_c fun _ _ => rfl⟩
theorem de_non {j pos} : DE X (.Constant .none j pos) (dC .non) := ⟨_, pe_non, lift_c fun _ _ => rfl⟩
theorem de_str {x j pos} : DE X (.Constant (.str x) j pos) (dC (.str x)) := ⟨_, pe_str, lift_c fun _ _ => rfl⟩
theorem de_globI {x : Str} {i : Int} {u : Value} {pos : Pos} (hg : Gl X x) (hm : X.mg x = some u) (r : RelV (.int i) u) (hd : (x == ("__debug__" : Str)) = false := by decide) : DE X (.Name x pos) (dC (.int i)) := ⟨_, pe_glob hg hm r hd, lift_c fun _ _ => rfl⟩
theorem de_globS {x : Str} {i : Str} {u : Value} {pos : Pos} (hg : Gl X x) (hm : X.mg x = some u) (r : RelV (.str i) u) (hd : (x == ("__debug__" : Str)) = false := by decide) : DE X (.Name x pos) (dC (.str i)) := ⟨_, pe_glob hg hm r hd, lift_c fun _ _ => rfl⟩
theorem de_globA {x : Str} {i : Addr} {u : Value} {pos : Pos} (hg : Gl X x) (hm : X.mg x = some u) (r : RelV (.ref i) u) (hd : (x == ("__debug__" : Str)) = false := by decide) : DE X (.Name x pos) (dC (.cst i)) := ⟨_, pe_glob hg hm r hd, lift_c fun _ _ => rfl⟩

/-! ### two operands -/
def dOp (r : RD) (ta tb : DT) : DT := fun ρ S Q => ta ρ S fun x S1 => tb ρ S1 fun y S2 => r x y S2 Q
theorem lift_op {K : PySem.W.Frag} {r : R2} {rd : RD} {te tf : TE} (hr : LiftR K r rd) (ha : LiftE K te ta) (hb : LiftE K tf tb) : LiftE K (tOp r te tf) (dOp rd ta tb) := fun α ρ S σ H Q Q' so ro h k => by
  refine ha α ρ S σ H _ _ so ro h fun v H1 α1 x S1 t1 so1 r1 h1 => ?_
  refine hb α1 ρ S1 σ H1 _ _ so1 (ro.stp t1) h1 fun u H2 α2 y S2 t2 so2 r2 h2 => ?_
  exact hr α2 S2 H2 x y v u Q Q' so2 (r1.stp t2) r2 h2 (k.stp (t1.trans t2))
theorem de_op {op : Operator} {r : RD} (ho : OpD X (binaryOp op) r) (ha : DE X a ta) (hb : DE X b tb) : DE X (.BinOp a op b pos) (dOp r ta tb) := by
  obtain ⟨⟨ro, h1, h2⟩⟩ := ho
  obtain ⟨⟨te, h3, h4⟩⟩ := ha
  obtain ⟨⟨tf, h5, h6⟩⟩ := hb
  exact ⟨_, pe_op h1 h3 h5, lift_op h2 h4 h6⟩
theorem de_cmp {op : CmpOp} {r : RD} (ho : OpD X (compareOp op) r) (ha : DE X a ta) (hb : DE X b tb) (hm : behindInMarks op b = false) : DE X (.Compare a [op] [b] pos) (dOp r ta tb) := by
  obtain ⟨⟨ro, h1, h2⟩⟩ := ho
  obtain ⟨⟨te, h3, h4⟩⟩ := ha
  obtain ⟨⟨tf, h5, h6⟩⟩ := hb
  exact ⟨_, pe_cmpR h1 h3 h5 hm, lift_op h2 h4 h6⟩
def onBl (d : D) (P : Bool → Prop) : Prop := match d with
  | .bl k => P k
  | _ => False
def onInt (d : D) (P : Int → Prop) : Prop := match d with
  | .int k => P k
  | _ => False
def onStr (d : D) (P : Str → Prop) : Prop := match d with
  | .str k => P k
  | _ => False
def onTup (d : D) (P : List D → Prop) : Prop := match d with
  | .tup k => P k
  | _ => False
def onOpt {β : Type} (d : Option β) (P : β → Prop) : Prop := ∃ k, d = some k ∧ P k
def dTest (t : DT) : DTt := fun ρ S Q => t ρ S fun x S1 => onBl x fun k => Q k S1
theorem dT_bl {K : PySem.W.Frag} {α : Locs} {H : Hp} {v : V} {d : D} {P : Bool → Prop} (r : Rp K α H v d) (h : onBl d P) : ∃ k, v = .bl k ∧ P k := by
  cases d with
  | bl b => exact ⟨b, r, h⟩
  | _ => exact h.elim
theorem lift_test {K : PySem.W.Frag} {te : TE} (h : LiftE K te t) : LiftT K (tTest te) (dTest t) := fun α ρ S σ H Q Q' so ro q k => by
  refine h α ρ S σ H _ _ so ro q fun v H1 α1 x S1 t1 so1 r1 q1 => ?_
  obtain ⟨b, e, q2⟩ := dT_bl (P := fun b => Q b S1) r1 q1
  exact ⟨b, e, k b H1 α1 S1 t1 so1 q2⟩
theorem dt_cmp {op : CmpOp} {r : RD} (ho : OpD X (compareOp op) r) (ha : DE X a ta) (hb : DE X b tb) (hm : behindInMarks op b = false) : DTst X (.Compare a [op] [b] pos) (dTest (dOp r ta tb)) := by
  obtain ⟨⟨ro, h1, h2⟩⟩ := ho
  obtain ⟨⟨te, h3, h4⟩⟩ := ha
  obtain ⟨⟨tf, h5, h6⟩⟩ := hb
  exact ⟨_, pt_cmpR h1 h3 h5 hm, lift_test (lift_op h2 h4 h6)⟩
theorem dt_val {e : Expr} {t : DT} (h : DE X e t) (he : ∀ whole, isTrue e X.env whole = (do let v ← whole; standAt e.pos; holding [v] (truthy v)) := by intro _; rfl) : DTst X e (dTest t) := by
  obtain ⟨⟨te, h1, h2⟩⟩ := h
  exact ⟨_, pt_val h1 he, lift_test h2⟩
/-! chains -/
def dChain (r r' : RD) (ta tb tc : DT) : DT := fun ρ S Q => ta ρ S fun x S1 => tb ρ S1 fun y S2 => r x y S2 fun z S3 => onBl z fun k =>
  (k = true → tc ρ S3 fun w S4 => r' y w S4 Q) ∧ (k = false → Q (.bl false) S3)
theorem lift_chain {K : PySem.W.Frag} {r r' : R2} {rd rd' : RD} {te tf tg : TE} {tc : DT} (hr : LiftR K r rd) (hr' : LiftR K r' rd') (ha : LiftE K te ta) (hb : LiftE K tf tb) (hc : LiftE K tg tc) : LiftE K (tChain r r' te tf tg) (dChain rd rd' ta tb tc) := fun α ρ S σ H Q Q' so ro h k => by
  refine ha α ρ S σ H _ _ so ro h fun v H1 α1 x S1 t1 so1 r1 h1 => ?_
  refine hb α1 ρ S1 σ H1 _ _ so1 (ro.stp t1) h1 fun u H2 α2 y S2 t2 so2 r2 h2 => ?_
  refine hr α2 S2 H2 x y v u _ _ so2 (r1.stp t2) r2 h2 fun z H3 α3 d S3 t3 so3 r3 h3 => ?_
  obtain ⟨b, e, q2⟩ := dT_bl (P := fun k => (k = true → tc ρ S3 fun w S4 => rd' y w S4 Q) ∧ (k = false → Q (.bl false) S3)) r3 h3
  refine ⟨b, e, ?_⟩
  have t13 := (t1.trans t2).trans t3
  cases b with
  | true =>
    rw [if_pos rfl]
    refine hc α3 ρ S3 σ H3 _ _ so3 (ro.stp t13) (q2.1 rfl) fun w H4 α4 y' S4 t4 so4 r4 h4 => ?_
    exact hr' α4 S4 H4 y y' u w Q Q' so4 (r2.stp (t3.trans t4)) r4 h4 (k.stp (t13.trans t4))
  | false =>
    rw [if_neg Bool.false_ne_true]
    exact k _ H3 α3 (.bl false) S3 t13 so3 rfl (q2.2 rfl)
theorem de_chain {op op' : CmpOp} {r r' : RD} {c : Expr} {tc : DT} (ho : OpD X (compareOp op) r) (ho' : OpD X (compareOp op') r') (ha : DE X a ta) (hb : DE X b tb) (hc : DE X c tc)
    (hm : lastMarks [op, op'] [b, c] = false := by with_unfolding_all rfl) : DE X (.Compare a [op, op'] [b, c] pos) (dChain r r' ta tb tc) := by
  obtain ⟨⟨ro, h1, h2⟩⟩ := ho
  obtain ⟨⟨ro', h1', h2'⟩⟩ := ho'
  obtain ⟨⟨te, h3, h4⟩⟩ := ha
  obtain ⟨⟨tf, h5, h6⟩⟩ := hb
  obtain ⟨⟨tg, h7, h8⟩⟩ := hc
  exact ⟨_, pe_chain h1 h1' h3 h5 h7 hm, lift_chain h2 h2' h4 h6 h8⟩
theorem dt_chain {op op' : CmpOp} {r r' : RD} {c : Expr} {tc : DT} (ho : OpD X (compareOp op) r) (ho' : OpD X (compareOp op') r') (ha : DE X a ta) (hb : DE X b tb) (hc : DE X c tc)
    (hm : lastMarks [op, op'] [b, c] = false := by with_unfolding_all rfl) : DTst X (.Compare a [op, op'] [b, c] pos) (dTest (dChain r r' ta tb tc)) := by
  obtain ⟨⟨ro, h1, h2⟩⟩ := ho
  obtain ⟨⟨ro', h1', h2'⟩⟩ := ho'
  obtain ⟨⟨te, h3, h4⟩⟩ := ha
  obtain ⟨⟨tf, h5, h6⟩⟩ := hb
  obtain ⟨⟨tg, h7, h8⟩⟩ := hc
  exact ⟨_, pt_chain h1 h1' h3 h5 h7 hm, lift_test (lift_chain h2 h2' h4 h6 h8)⟩

/-! ### operators on ints -/
def rdI (C : Int → Int → Prop) (g : Int → Int → D) : RD := fun x y S Q => match x, y with
  | .int i, .int j => C i j ∧ Q (g i j) S
  | _, _ => False
def rdI0 (g : Int → Int → D) : RD := fun x y S Q => match x, y with
  | .int i, .int j => Q (g i j) S
  | _, _ => False
theorem lift_I {K : PySem.W.Frag} {C C' : Int → Int → Prop} {g : Int → Int → V} {g' : Int → Int → D} (hC : ∀ i j, C' i j → C i j) (hg : ∀ i j α H, Rp K α H (g i j) (g' i j)) : LiftR K (rI C g) (rdI C' g') := fun α S H x y v u Q Q' so rx ry h k => by
  unfold rdI at h
  split at h
  · rename_i i j
    exact ⟨i, j, rx, ry, hC i j h.1, k _ H α _ S (Stp.refl _ _) so (hg i j α H) h.2⟩
  · exact h.elim
theorem lift_I0 {K : PySem.W.Frag} {g : Int → Int → V} {g' : Int → Int → D} (hg : ∀ i j α H, Rp K α H (g i j) (g' i j)) : LiftR K (rI0 g) (rdI0 g') := fun α S H x y v u Q Q' so rx ry h k => by
  unfold rdI0 at h
  split at h
  · rename_i i j
    exact ⟨i, j, rx, ry, k _ H α _ S (Stp.refl _ _) so (hg i j α H) h⟩
  · exact h.elim
theorem od_add : OpD X (binaryOp .Add) (rdI0 fun i j => .int (i + j)) := ⟨_, op_add, lift_I0 fun _ _ _ _ => rfl⟩
theorem od_sub : OpD X (binaryOp .Sub) (rdI0 fun i j => .int (i - j)) := ⟨_, op_sub, lift_I0 fun _ _ _ _ => rfl⟩
theorem od_mul : OpD X (binaryOp .Mult) (rdI CMulW fun i j => .int (i * j)) := ⟨_, op_mulW, lift_I (fun _ _ h => h) fun _ _ _ _ => rfl⟩
theorem od_div : OpD X (binaryOp .FloorDiv) (rdI CDivW fun i j => .int (i / j)) := ⟨_, op_fdivW, lift_I (fun _ _ h => h) fun _ _ _ _ => rfl⟩
theorem od_mod : OpD X (binaryOp .Mod) (rdI (fun _ j => 0 < j) fun i j => .int (i % j)) := ⟨_, op_mod, lift_I (fun _ _ h => h) fun _ _ _ _ => rfl⟩
theorem od_lt : OpD X (compareOp .Lt) (rdI0 fun i j => .bl (decide (i < j))) := ⟨_, op_lt, lift_I0 fun _ _ _ _ => rfl⟩
theorem od_le : OpD X (compareOp .LtE) (rdI0 fun i j => .bl (decide (i ≤ j))) := ⟨_, op_le, lift_I0 fun _ _ _ _ => rfl⟩
theorem od_gt : OpD X (compareOp .Gt) (rdI0 fun i j => .bl (decide (j < i))) := ⟨_, op_gt, lift_I0 fun _ _ _ _ => rfl⟩
theorem od_ge : OpD X (compareOp .GtE) (rdI0 fun i j => .bl (decide (j ≤ i))) := ⟨_, op_ge, lift_I0 fun _ _ _ _ => rfl⟩
/-- a power that is not too large -/
def CPowW (i j : Int) : Prop := 0 ≤ j ∧ (Builtin.Int.intBits i : Int) * j ≤ 2 ^ 27
theorem op_powW : OpR X (binaryOp .Pow) (rI CPowW fun i j => .int (i ^ j.toNat)) := opI fun _ _ _ _ _ _ _ hc q => pow_int hc.1 hc.2 q
theorem od_pow : OpD X (binaryOp .Pow) (rdI CPowW fun i j => .int (i ^ j.toNat)) := ⟨_, op_powW, lift_I (fun _ _ h => h) fun _ _ _ _ => rfl⟩
end
end DL

/-! DL, 3: locations below a bound, the store cut back; tests, displays, indices, statements, loops, comprehensions. -/
namespace DL
open PySem PySem.Spec PyProof.Rows L2

/-! ### locations below n -/
section
variable (n : Nat)
mutual
def bnd : D → Prop
  | .loc l => l < n
  | .tup ds => bndL ds
  | .lst ds => bndL ds
  | .dk kvs => bndK kvs
  | .dt kvs => bndT kvs
  | .obj _ fs => bndF fs
  | .non => True | .bl _ => True | .int _ => True | .str _ => True | .cst _ => True | .ty _ => True | .scr _ => True
def bndL : List D → Prop
  | [] => True
  | d :: ds => bnd d ∧ bndL ds
def bndK : List (Key × D) → Prop
  | [] => True
  | (_, d) :: ds => bnd d ∧ bndK ds
def bndT : List (List Key × D) → Prop
  | [] => True
  | (_, d) :: ds => bnd d ∧ bndT ds
def bndF : List (Str × D) → Prop
  | [] => True
  | (_, d) :: ds => bnd d ∧ bndF ds
end
def bndO : Ob → Prop
  | .lst ds => bndL n ds
  | .dk kvs => bndK n kvs
  | .dt kvs => bndT n kvs
  | .ins _ fs => bndF n fs
  | .ext _ => True
def bndS : Store → Prop
  | [] => True
  | o :: S => bndO n o ∧ bndS S
end
section
variable {K : PySem.W.Frag} {α α' : Locs} {H : Hp}
mutual
theorem Rp.bnd : ∀ (d : D) (v : V), Rp K α H v d → bnd α.length d
  | .loc l, v, ⟨a, _, h⟩ => (List.getElem?_eq_some_iff.mp h).1
  | .tup ds, v, ⟨a, xs, _, _, h⟩ => RpL.bnd ds xs h
  | .lst ds, v, ⟨a, xs, _, _, _, h⟩ => RpL.bnd ds xs h
  | .dk kvs, v, ⟨a, xs, _, _, _, h⟩ => RpK.bnd kvs xs h
  | .dt kvs, v, ⟨a, xs, _, _, _, h⟩ => RpT.bnd kvs xs h
  | .obj C fs, v, ⟨a, dx, xs, _, _, _, h⟩ => RpF.bnd fs xs h
  | .non, _, _ => trivial | .bl _, _, _ => trivial | .int _, _, _ => trivial | .str _, _, _ => trivial | .cst _, _, _ => trivial | .ty _, _, _ => trivial | .scr _, _, _ => trivial
theorem RpL.bnd : ∀ (ds : List D) (vs : List V), RpL K α H vs ds → bndL α.length ds
  | [], _, _ => trivial
  | d :: ds, vs, ⟨v, r, _, h1, h2⟩ => ⟨Rp.bnd d v h1, RpL.bnd ds r h2⟩
theorem RpK.bnd : ∀ (ds : List (Key × D)) (vs : List (Key × V)), RpK K α H vs ds → bndK α.length ds
  | [], _, _ => trivial
  | (k, d) :: ds, vs, ⟨v, r, _, h1, h2⟩ => ⟨Rp.bnd d v h1, RpK.bnd ds r h2⟩
theorem RpT.bnd : ∀ (ds : List (List Key × D)) (vs : List (List Key × V)), RpT K α H vs ds → bndT α.length ds
  | [], _, _ => trivial
  | (k, d) :: ds, vs, ⟨v, r, _, h1, h2⟩ => ⟨Rp.bnd d v h1, RpT.bnd ds r h2⟩
theorem RpF.bnd : ∀ (ds : List (Str × D)) (vs : List (Str × V)), RpF K α H vs ds → bndF α.length ds
  | [], _, _ => trivial
  | (k, d) :: ds, vs, ⟨v, r, _, h1, h2⟩ => ⟨Rp.bnd d v h1, RpF.bnd ds r h2⟩
end
theorem Off.take {n : Nat} {a : Addr} (h : Off α' a) : Off (α'.take n) a := fun l e => by
  rw [List.getElem?_take] at e
  split at e
  · exact h l e
  · cases e
theorem Rd.take {n : Nat} {a : Addr} {xs : List V} (h : Tp K α' H a xs) : Tp K (α'.take n) H a xs := ⟨h.1, h.2.take⟩
theorem Rl.take {n : Nat} {a : Addr} {xs : List V} (h : Lp K α' H a xs) : Lp K (α'.take n) H a xs := by
  rcases h with ⟨h, f⟩ | h
  · exact Or.inl ⟨h, f.take⟩
  · exact Or.inr h
mutual
theorem Rp.cut {n : Nat} : ∀ (d : D) (v : V), Rp K α' H v d → bnd n d → Rp K (α'.take n) H v d
  | .loc l, v, ⟨a, e, h⟩, b => ⟨a, e, by
    have b : l < n := b
    rw [List.getElem?_take, if_pos b]; exact h⟩
  | .tup ds, v, ⟨a, xs, e, t, h⟩, b => ⟨a, xs, e, Rd.take t, RpL.cut ds xs h b⟩
  | .lst ds, v, ⟨a, xs, e, t, f, h⟩, b => ⟨a, xs, e, t, f.take, RpL.cut ds xs h b⟩
  | .dk ds, v, ⟨a, xs, e, t, f, h⟩, b => ⟨a, xs, e, t, f.take, RpK.cut ds xs h b⟩
  | .dt ds, v, ⟨a, xs, e, t, f, h⟩, b => ⟨a, xs, e, t, f.take, RpT.cut ds xs h b⟩
  | .obj C fs, v, ⟨a, dx, xs, e, t, f, h⟩, b => ⟨a, dx, xs, e, t, f.take, RpF.cut fs xs h b⟩
  | .non, _, h, _ => h | .bl _, _, h, _ => h | .int _, _, h, _ => h | .str _, _, h, _ => h | .cst _, _, h, _ => h | .ty _, _, h, _ => h
  | .scr _, _, ⟨a, e, h⟩, _ => ⟨a, e, Rl.take h⟩
theorem RpL.cut {n : Nat} : ∀ (ds : List D) (vs : List V), RpL K α' H vs ds → bndL n ds → RpL K (α'.take n) H vs ds
  | [], _, h, _ => h
  | d :: ds, vs, ⟨v, r, e, h1, h2⟩, b => ⟨v, r, e, Rp.cut d v h1 b.1, RpL.cut ds r h2 b.2⟩
theorem RpK.cut {n : Nat} : ∀ (ds : List (Key × D)) (vs : List (Key × V)), RpK K α' H vs ds → bndK n ds → RpK K (α'.take n) H vs ds
  | [], _, h, _ => h
  | (k, d) :: ds, vs, ⟨v, r, e, h1, h2⟩, b => ⟨v, r, e, Rp.cut d v h1 b.1, RpK.cut ds r h2 b.2⟩
theorem RpT.cut {n : Nat} : ∀ (ds : List (List Key × D)) (vs : List (List Key × V)), RpT K α' H vs ds → bndT n ds → RpT K (α'.take n) H vs ds
  | [], _, h, _ => h
  | (k, d) :: ds, vs, ⟨v, r, e, h1, h2⟩, b => ⟨v, r, e, Rp.cut d v h1 b.1, RpT.cut ds r h2 b.2⟩
theorem RpF.cut {n : Nat} : ∀ (ds : List (Str × D)) (vs : List (Str × V)), RpF K α' H vs ds → bndF n ds → RpF K (α'.take n) H vs ds
  | [], _, h, _ => h
  | (k, d) :: ds, vs, ⟨v, r, e, h1, h2⟩, b => ⟨v, r, e, Rp.cut d v h1 b.1, RpF.cut ds r h2 b.2⟩
end
theorem ObRp.cut {n : Nat} {a : Addr} : ∀ {o : Ob}, ObRp K α' H a o → bndO n o → ObRp K (α'.take n) H a o
  | .lst ds, ⟨xs, h, r⟩, b => ⟨xs, h, RpL.cut ds xs r b⟩
  | .dk ds, ⟨xs, h, r⟩, b => ⟨xs, h, RpK.cut ds xs r b⟩
  | .dt ds, ⟨xs, h, r⟩, b => ⟨xs, h, RpT.cut ds xs r b⟩
  | .ins C ds, ⟨dx, xs, h, r⟩, b => ⟨dx, xs, h, RpF.cut ds xs r b⟩
  | .ext o, h, b => h
mutual
/-- another choice of live locations, the old ones below n within -/
theorem Rp.sel {n : Nat} {α2 : Locs} (f : ∀ b, Off α' b → Off α2 b) (g : ∀ (m : Nat) b, m < n → α'[m]? = some b → α2[m]? = some b) : ∀ (d : D) (v : V), Rp K α' H v d → bnd n d → Rp K α2 H v d
  | .loc l, v, ⟨a, e, h⟩, b => ⟨a, e, g l _ b h⟩
  | .tup ds, v, ⟨a, xs, e, t, h⟩, b => ⟨a, xs, e, ⟨t.1, f _ t.2⟩, RpL.sel f g ds xs h b⟩
  | .lst ds, v, ⟨a, xs, e, t, o, h⟩, b => ⟨a, xs, e, t, f _ o, RpL.sel f g ds xs h b⟩
  | .dk ds, v, ⟨a, xs, e, t, o, h⟩, b => ⟨a, xs, e, t, f _ o, RpK.sel f g ds xs h b⟩
  | .dt ds, v, ⟨a, xs, e, t, o, h⟩, b => ⟨a, xs, e, t, f _ o, RpT.sel f g ds xs h b⟩
  | .obj C fs, v, ⟨a, dx, xs, e, t, o, h⟩, b => ⟨a, dx, xs, e, t, f _ o, RpF.sel f g fs xs h b⟩
  | .non, _, h, _ => h | .bl _, _, h, _ => h | .int _, _, h, _ => h | .str _, _, h, _ => h | .cst _, _, h, _ => h | .ty _, _, h, _ => h
  | .scr _, _, ⟨a, e, t⟩, _ => ⟨a, e, (by rcases t with ⟨t, o⟩ | t; exact Or.inl ⟨t, f _ o⟩; exact Or.inr t)⟩
theorem RpL.sel {n : Nat} {α2 : Locs} (f : ∀ b, Off α' b → Off α2 b) (g : ∀ (m : Nat) b, m < n → α'[m]? = some b → α2[m]? = some b) : ∀ (ds : List D) (vs : List V), RpL K α' H vs ds → bndL n ds → RpL K α2 H vs ds
  | [], _, h, _ => h
  | d :: ds, vs, ⟨v, r, e, h1, h2⟩, b => ⟨v, r, e, Rp.sel f g d v h1 b.1, RpL.sel f g ds r h2 b.2⟩
theorem RpK.sel {n : Nat} {α2 : Locs} (f : ∀ b, Off α' b → Off α2 b) (g : ∀ (m : Nat) b, m < n → α'[m]? = some b → α2[m]? = some b) : ∀ (ds : List (Key × D)) (vs : List (Key × V)), RpK K α' H vs ds → bndK n ds → RpK K α2 H vs ds
  | [], _, h, _ => h
  | (k, d) :: ds, vs, ⟨v, r, e, h1, h2⟩, b => ⟨v, r, e, Rp.sel f g d v h1 b.1, RpK.sel f g ds r h2 b.2⟩
theorem RpT.sel {n : Nat} {α2 : Locs} (f : ∀ b, Off α' b → Off α2 b) (g : ∀ (m : Nat) b, m < n → α'[m]? = some b → α2[m]? = some b) : ∀ (ds : List (List Key × D)) (vs : List (List Key × V)), RpT K α' H vs ds → bndT n ds → RpT K α2 H vs ds
  | [], _, h, _ => h
  | (k, d) :: ds, vs, ⟨v, r, e, h1, h2⟩, b => ⟨v, r, e, Rp.sel f g d v h1 b.1, RpT.sel f g ds r h2 b.2⟩
theorem RpF.sel {n : Nat} {α2 : Locs} (f : ∀ b, Off α' b → Off α2 b) (g : ∀ (m : Nat) b, m < n → α'[m]? = some b → α2[m]? = some b) : ∀ (ds : List (Str × D)) (vs : List (Str × V)), RpF K α' H vs ds → bndF n ds → RpF K α2 H vs ds
  | [], _, h, _ => h
  | (k, d) :: ds, vs, ⟨v, r, e, h1, h2⟩, b => ⟨v, r, e, Rp.sel f g d v h1 b.1, RpF.sel f g ds r h2 b.2⟩
end
theorem ObRp.sel {n : Nat} {a : Addr} {α2 : Locs} : ∀ {o : Ob}, ObRp K α' H a o → (∀ b, Off α' b → Off α2 b) → (∀ (m : Nat) b, m < n → α'[m]? = some b → α2[m]? = some b) → bndO n o → ObRp K α2 H a o
  | .lst ds, ⟨xs, h, r⟩, f, g, b => ⟨xs, h, RpL.sel f g ds xs r b⟩
  | .dk ds, ⟨xs, h, r⟩, f, g, b => ⟨xs, h, RpK.sel f g ds xs r b⟩
  | .dt ds, ⟨xs, h, r⟩, f, g, b => ⟨xs, h, RpT.sel f g ds xs r b⟩
  | .ins C ds, ⟨dx, xs, h, r⟩, f, g, b => ⟨dx, xs, h, RpF.sel f g ds xs r b⟩
  | .ext o, h, _, _, _ => h
theorem ObRp.bnd {a : Addr} : ∀ {o : Ob}, ObRp K α H a o → bndO α.length o
  | .lst ds, ⟨xs, h, r⟩ => RpL.bnd ds xs r
  | .dk ds, ⟨xs, h, r⟩ => RpK.bnd ds xs r
  | .dt ds, ⟨xs, h, r⟩ => RpT.bnd ds xs r
  | .ins C ds, ⟨dx, xs, h, r⟩ => RpF.bnd ds xs r
  | .ext o, h => trivial
theorem bndS.get {n : Nat} : ∀ {S : Store} {l : Nat} {o : Ob}, bndS n S → S[l]? = some o → bndO n o
  | [], l, o, _, e => by simp at e
  | x :: S, 0, o, h, e => by simp at e; subst e; exact h.1
  | x :: S, l + 1, o, h, e => bndS.get (l := l) h.2 (by simpa using e)
end
section
variable {K : PySem.W.Frag} {α α' : Locs} {H H' : Hp} {S S' : Store}
theorem Stp.takes (t : Stp α H α' H') : α'.take α.length = α := by
  apply List.ext_getElem?
  intro l
  rw [List.getElem?_take]
  by_cases h : l < α.length
  · rw [if_pos h]
    have e1 : α[l]? = some α[l] := List.getElem?_eq_getElem h
    rw [e1]
    exact t.pre l _ e1
  · rw [if_neg h]
    exact (List.getElem?_eq_none_iff.mpr (Nat.le_of_not_lt h)).symm
theorem Stp.back (t : Stp α H α' H') : Stp α H α H' :=
  ⟨t.keep, t.dom, fun _ _ h => h, fun l a h e => by rw [List.getElem?_eq_none_iff.mpr h] at e; cases e⟩
/-- what is left when the younger locations are forgotten: unchanged ones, or ones that name no younger -/
def CutOk (S S' : Store) : Prop := ∀ (l : Nat) (o : Ob), l < S.length → S'[l]? = some o → S[l]? = some o ∨ bndO S.length o
theorem CutOk.same {ex : Store} : CutOk S (S ++ ex) := fun l o h e => by
  rw [List.getElem?_append_left h] at e; exact Or.inl e
theorem StoreOk.cut (so : StoreOk K α H S) (t : Stp α H α' H') (so' : StoreOk K α' H' S') (c : CutOk S S') : StoreOk K α H' (S'.take S.length) := by
  have hlen : α.length = S.length := so.len
  have ht : α'.take S.length = α := by rw [← hlen]; exact t.takes
  refine ⟨?_, ?_, ?_⟩
  · rw [List.length_take, ← so'.len]
    have := t.len
    omega
  · intro l l' a h h'
    exact so'.inj l l' a (t.pre _ _ h) (t.pre _ _ h')
  · intro l a o h e
    have hl : l < α.length := (List.getElem?_eq_some_iff.mp h).1
    rw [List.getElem?_take, if_pos (by omega)] at e
    have r := so'.ob l a o (t.pre _ _ h) e
    have b : bndO S.length o := by
      rcases c l o (by omega) e with q | q
      · rw [← hlen]; exact (so.ob l a o h q).bnd
      · exact q
    have r2 := r.cut b
    rw [ht] at r2
    exact r2
end

section
variable {K : PySem.W.Frag} {α : Locs} {H : Hp} {S : Store} {Q : DK} {Q' : VK}
theorem KE.int (k : KE K α H Q Q') (so : StoreOk K α H S) {i : Int} (h : Q (.int i) S) : Q' (.int i) H := k _ H α (.int i) S (Stp.refl _ _) so rfl h
theorem KE.str (k : KE K α H Q Q') (so : StoreOk K α H S) {i : Str} (h : Q (.str i) S) : Q' (.str i) H := k _ H α (.str i) S (Stp.refl _ _) so rfl h
theorem KE.bl (k : KE K α H Q Q') (so : StoreOk K α H S) {i : Bool} (h : Q (.bl i) S) : Q' (.bl i) H := k _ H α (.bl i) S (Stp.refl _ _) so rfl h
theorem KE.non (k : KE K α H Q Q') (so : StoreOk K α H S) (h : Q .non S) : Q' .non H := k _ H α .non S (Stp.refl _ _) so rfl h
theorem KE.val (k : KE K α H Q Q') (so : StoreOk K α H S) {v : V} {d : D} (r : Rp K α H v d) (h : Q d S) : Q' v H := k _ H α d S (Stp.refl _ _) so r h
end

/-! ### what a younger thing is when it is let go: the tree of it -/
inductive Frz (n : Nat) (S : Store) : D → D → Prop where
  | same {d : D} : bnd n d → Frz n S d d
  | lst {l : Nat} {ds : List D} : n ≤ l → S[l]? = some (.lst ds) → bndL n ds → Frz n S (.loc l) (.lst ds)
  | dk {l : Nat} {ds : List (Key × D)} : n ≤ l → S[l]? = some (.dk ds) → bndK n ds → Frz n S (.loc l) (.dk ds)
  | dt {l : Nat} {ds : List (List Key × D)} : n ≤ l → S[l]? = some (.dt ds) → bndT n ds → Frz n S (.loc l) (.dt ds)
  | ins {l : Nat} {C : Addr} {ds : List (Str × D)} : n ≤ l → S[l]? = some (.ins C ds) → bndF n ds → Frz n S (.loc l) (.obj C ds)
  | pairL {l : Nat} {ds : List D} {d : D} : n ≤ l → S[l]? = some (.lst ds) → bndL n ds → bnd n d → Frz n S (.tup [.loc l, d]) (.tup [.lst ds, d])
section
variable {K : PySem.W.Frag} {α α' : Locs} {H H' : Hp} {S S' : Store}
theorem Frz.rp {d d' : D} {v : V} (t : Stp α H α' H') (so' : StoreOk K α' H' S') (f : Frz α.length S' d d') (r : Rp K α' H' v d) : Rp K α H' v d' := by
  have ht := t.takes
  have off : ∀ {l : Nat} {a : Addr}, α.length ≤ l → α'[l]? = some (some a) → Off α a := fun {l a} h e m q => by
    have e2 := t.pre _ _ q
    have := so'.inj l m a e e2
    have hm := (List.getElem?_eq_some_iff.mp q).1
    omega
  cases f with
  | same b =>
    have q := Rp.cut d v r b
    rw [ht] at q; exact q
  | @lst l ds hn e b =>
    obtain ⟨a, rfl, ha⟩ := r
    obtain ⟨xs, h1, h2⟩ := so'.ob l a _ ha e
    have q := RpL.cut ds xs h2 b
    rw [ht] at q
    exact ⟨a, xs, rfl, h1, off hn ha, q⟩
  | @dk l ds hn e b =>
    obtain ⟨a, rfl, ha⟩ := r
    obtain ⟨xs, h1, h2⟩ := so'.ob l a _ ha e
    have q := RpK.cut ds xs h2 b
    rw [ht] at q
    exact ⟨a, xs, rfl, h1, off hn ha, q⟩
  | @dt l ds hn e b =>
    obtain ⟨a, rfl, ha⟩ := r
    obtain ⟨xs, h1, h2⟩ := so'.ob l a _ ha e
    have q := RpT.cut ds xs h2 b
    rw [ht] at q
    exact ⟨a, xs, rfl, h1, off hn ha, q⟩
  | @ins l C ds hn e b =>
    obtain ⟨a, rfl, ha⟩ := r
    obtain ⟨dx, xs, h1, h2⟩ := so'.ob l a _ ha e
    have q := RpF.cut ds xs h2 b
    rw [ht] at q
    exact ⟨a, dx, xs, rfl, h1, off hn ha, q⟩
  | @pairL l ds d hn e b b2 =>
    obtain ⟨a, xs, rfl, ht2, v1, r1, e1, h1, v2, r2, e2, h2, h3⟩ := r
    obtain ⟨a1, rfl, ha⟩ := h1
    obtain ⟨ys, q1, q2⟩ := so'.ob l a1 _ ha e
    have q := RpL.cut ds ys q2 b
    rw [ht] at q
    have q3 := Rp.cut d v2 h2 b2
    rw [ht] at q3
    have ht3 := Rd.take (n := α.length) ht2
    rw [ht] at ht3
    exact ⟨a, xs, rfl, ht3, _, _, e1, ⟨a1, ys, rfl, q1, off hn ha, q⟩, _, _, e2, q3, h3⟩
end
/-- an object whose attributes name younger things: their trees -/
def FrzF (n : Nat) (S : Store) : List (Str × D) → List (Str × D) → Prop
  | [], [] => True
  | (k, d) :: r, (k', d') :: r' => k' = k ∧ Frz n S d d' ∧ FrzF n S r r'
  | _, _ => False
inductive FrzO (n : Nat) (S : Store) : Ob → Ob → Prop where
  | same {o : Ob} : bndO n o → FrzO n S o o
  | ins {C : Addr} {fs fs' : List (Str × D)} : FrzF n S fs fs' → FrzO n S (.ins C fs) (.ins C fs')
def CutTo (S S' S'' : Store) : Prop := S''.length = S.length ∧ ∀ (l : Nat) (o : Ob), l < S.length → S'[l]? = some o → (S[l]? = some o ∧ S''[l]? = some o) ∨ ∃ o', S''[l]? = some o' ∧ FrzO S.length S' o o'
section
variable {K : PySem.W.Frag} {α α' : Locs} {H H' : Hp} {S S' S'' : Store}
theorem FrzF.rp (t : Stp α H α' H') (so' : StoreOk K α' H' S') : ∀ {fs fs' : List (Str × D)} {vs : List (Str × V)}, FrzF α.length S' fs fs' → RpF K α' H' vs fs → RpF K α H' vs fs'
  | [], [], vs, _, r => r
  | (k, d) :: r, (k', d') :: r', vs, ⟨e, f1, f2⟩, ⟨v, vr, ev, r1, r2⟩ => by
    subst e ev
    exact ⟨v, _, rfl, f1.rp t so' r1, FrzF.rp t so' f2 r2⟩
  | [], _ :: _, _, f, _ => f.elim
  | (_, _) :: _, [], _, f, _ => f.elim
theorem StoreOk.cutTo (so : StoreOk K α H S) (t : Stp α H α' H') (so' : StoreOk K α' H' S') (c : CutTo S S' S'') : StoreOk K α H' S'' := by
  have hlen : α.length = S.length := so.len
  have ht : α'.take S.length = α := by rw [← hlen]; exact t.takes
  refine ⟨?_, ?_, ?_⟩
  · rw [c.1]; exact hlen
  · intro l l' a h h'
    exact so'.inj l l' a (t.pre _ _ h) (t.pre _ _ h')
  · intro l a o h e
    have hl : l < α.length := (List.getElem?_eq_some_iff.mp h).1
    have hl' : l < S'.length := by rw [← so'.len]; have := t.len; omega
    obtain ⟨u, e'⟩ : ∃ u, S'[l]? = some u := ⟨_, List.getElem?_eq_getElem hl'⟩
    have r := so'.ob l a _ (t.pre _ _ h) e'
    rcases c.2 l _ (by omega) e' with ⟨q1, q2⟩ | ⟨o', q1, q2⟩
    · rw [e] at q2
      cases q2
      have b : bndO S.length o := by rw [← hlen]; exact (so.ob l a _ h q1).bnd
      have r2 := r.cut b
      rw [ht] at r2
      exact r2
    · rw [e] at q1
      cases q1
      cases q2 with
      | same b =>
        have r2 := r.cut b
        rw [ht] at r2
        exact r2
      | ins f =>
        obtain ⟨dx, xs, h1, h2⟩ := r
        rw [← hlen] at f
        exact ⟨dx, xs, h1, f.rp t so' h2⟩
end
/-- behind a def, an expression: what it made is let go, but for what it hands on: its tree, or the one new location -/
@[irreducible] def Rt (S : Store) (Q : DK) : DK := fun d S' => (CutOk S S' ∧ ((∃ d', Frz S.length S' d d' ∧ Q d' (S'.take S.length)) ∨
  ∃ l ob, d = .loc l ∧ S.length ≤ l ∧ S'[l]? = some ob ∧ bndO S.length ob ∧ Q (.loc S.length) (S'.take S.length ++ [ob]))) ∨
  ∃ S'' d', CutTo S S' S'' ∧ Frz S.length S' d d' ∧ Q d' S''
theorem Rt.fin {K : PySem.W.Frag} {α α' : Locs} {H H' : Hp} {S S' : Store} {v : V} {d : D} {Q : DK} {Q' : VK} (so : StoreOk K α H S) (t : Stp α H α' H') (so' : StoreOk K α' H' S') (r : Rp K α' H' v d) (h : Rt S Q d S') (k : KE K α H Q Q') : Q' v H' := by
  unfold Rt at h
  rcases h with ⟨c, h⟩ | ⟨S'', d', c, f, q⟩
  rotate_left
  · have so2 := so.cutTo t so' c
    rw [← so.len] at f
    exact k v H' α d' _ t.back so2 (f.rp t so' r) q
  have so2 := so.cut t so' c
  rcases h with ⟨d', f, q⟩ | ⟨l, ob, rfl, hl, e, bb, q⟩
  · rw [← so.len] at f
    exact k v H' α d' _ t.back so2 (f.rp t so' r) q
  · obtain ⟨a, rfl, ha⟩ := r
    have hn : H a = none := t.new l a (by rw [so.len]; exact hl) ha
    have off : Off α a := so.off_new hn
    have ob1 := (so'.ob l a ob ha e).cut bb
    have ht : α'.take S.length = α := by rw [← so.len]; exact t.takes
    rw [ht] at ob1
    have t2 : Stp α H (α ++ [some a]) H' := by
      refine ⟨t.keep, t.dom, fun l o h => ?_, fun l b hl e => ?_⟩
      · rw [List.getElem?_append_left (List.getElem?_eq_some_iff.mp h).1]; exact h
      · rw [List.getElem?_append_right hl] at e
        cases q : l - α.length with
        | zero => rw [q] at e; simp at e; rw [← e]; exact hn
        | succ n => rw [q] at e; simp at e
    have off2 : ∀ {b : Addr} {o : HO}, H' b = some o → Off α b → b ≠ a → Off (α ++ [some a]) b := fun {b o} _ hb hne l e => by
      by_cases hlt : l < α.length
      · rw [List.getElem?_append_left hlt] at e
        exact hb l e
      · rw [List.getElem?_append_right (Nat.le_of_not_lt hlt)] at e
        cases q : l - α.length with
        | zero => rw [q] at e; simp at e; exact hne e.symm
        | succ n => rw [q] at e; simp at e
    -- the map α → α ++ [a], from the whole α'
    have sel : ∀ (o : Ob) (c : Addr), ObRp K α' H' c o → bndO S.length o → ObRp K (α ++ [some a]) H' c o := fun o c ho hb => by
      have : ∀ l b, (α ++ [some a])[l]? = some (some b) → ∃ m, α'[m]? = some (some b) := fun m b e => by
        by_cases hlt : m < α.length
        · rw [List.getElem?_append_left hlt] at e
          exact ⟨m, t.pre _ _ e⟩
        · rw [List.getElem?_append_right (Nat.le_of_not_lt hlt)] at e
          cases q : m - α.length with
          | zero => rw [q] at e; simp at e; subst e; exact ⟨l, ha⟩
          | succ n => rw [q] at e; simp at e
      exact ho.sel (α2 := α ++ [some a]) (fun b hb2 m e => by obtain ⟨m2, e2⟩ := this m b e; exact hb2 m2 e2) (fun m b hm e => by
        rw [List.getElem?_append_left (by rw [so.len]; exact hm)]
        have hm' : m < α.length := by rw [so.len]; exact hm
        have e1 : α[m]? = some α[m] := List.getElem?_eq_getElem hm'
        have e2 := t.pre _ _ e1
        rw [e] at e2
        rw [e1, Option.some.inj e2]) hb
    have soN : StoreOk K (α ++ [some a]) H' (S'.take S.length ++ [ob]) := by
      refine ⟨?_, ?_, ?_⟩
      · rw [List.length_append, List.length_append, so2.len]; rfl
      · intro m m' b e1 e2
        have key : ∀ m, (α ++ [some a])[m]? = some (some b) → (m < α.length ∧ α[m]? = some (some b) ∧ b ≠ a) ∨ (m = α.length ∧ b = a) := fun m hm => by
          by_cases hlt : m < α.length
          · rw [List.getElem?_append_left hlt] at hm
            refine Or.inl ⟨hlt, hm, ?_⟩
            rintro rfl
            exact off m hm
          · rw [List.getElem?_append_right (Nat.le_of_not_lt hlt)] at hm
            cases q : m - α.length with
            | zero => rw [q] at hm; simp at hm; exact Or.inr ⟨by omega, hm.symm⟩
            | succ n => rw [q] at hm; simp at hm
        rcases key m e1 with ⟨_, h1, n1⟩ | ⟨z1, z2⟩
        · rcases key m' e2 with ⟨_, h2, _⟩ | ⟨_, z3⟩
          · exact so.inj m m' b h1 h2
          · exact absurd z3 n1
        · rcases key m' e2 with ⟨_, _, n2⟩ | ⟨z3, _⟩
          · exact absurd z2 n2
          · rw [z1, z3]
      · intro m b o e1 e2
        have hlen : α.length = S.length := so.len
        by_cases hlt : m < α.length
        · rw [List.getElem?_append_left hlt] at e1
          have h1 : m < (S'.take S.length).length := by rw [← so2.len]; exact hlt
          rw [List.getElem?_append_left h1, List.getElem?_take, if_pos (by omega)] at e2
          refine sel o b (so'.ob m b o (t.pre _ _ e1) e2) ?_
          rcases c m o (by omega) e2 with z | z
          · rw [← hlen]; exact (so.ob m b o e1 z).bnd
          · exact z
        · have hge := Nat.le_of_not_lt hlt
          rw [List.getElem?_append_right hge] at e1
          rw [List.getElem?_append_right (by rw [← so2.len]; exact hge), ← so2.len] at e2
          cases q : m - α.length with
          | zero =>
            rw [q] at e1 e2; simp at e1 e2
            rw [← e1, ← e2]
            exact sel ob a (so'.ob l a ob ha e) bb
          | succ n => rw [q] at e1; simp at e1
    exact k (.ref a) H' _ (.loc S.length) _ t2 soN ⟨a, rfl, by rw [← so.len]; simp⟩ q
def dGc (t : DT) : DT := fun ρ S Q => t ρ S (Rt S Q)
theorem lift_gc {K : PySem.W.Frag} {te : TE} {t : DT} (h : LiftE K te t) : LiftE K te (dGc t) := fun α ρ S σ H Q Q' so ro q k =>
  h α ρ S σ H _ _ so ro q fun v H1 α1 d S1 t1 so1 r1 q1 => Rt.fin so t1 so1 r1 q1 k
theorem de_gc {X : Cx} {e : Expr} {t : DT} (h : DE X e t) : DE X e (dGc t) := by
  obtain ⟨⟨te, h1, h2⟩⟩ := h
  exact ⟨_, h1, lift_gc h2⟩

section
variable {X : Cx} {e a b c : Expr} {es : List Expr} {pos : Pos} {t ta tb : DT} {tc td : DTt}
/-! ### tests -/
def dAnd (t u : DTt) : DTt := fun ρ S Q => t ρ S fun c S1 => (c = true → u ρ S1 Q) ∧ (c = false → Q false S1)
def dOr (t u : DTt) : DTt := fun ρ S Q => t ρ S fun c S1 => (c = true → Q true S1) ∧ (c = false → u ρ S1 Q)
def dNot (t : DTt) : DTt := fun ρ S Q => t ρ S fun c S1 => Q (!c) S1
theorem lift_and {K : PySem.W.Frag} {tt tu : TT} (h1 : LiftT K tt tc) (h2 : LiftT K tu td) : LiftT K (tAnd tt tu) (dAnd tc td) := fun α ρ S σ H Q Q' so ro q k => by
  refine h1 α ρ S σ H _ _ so ro q fun b H1 α1 S1 t1 so1 q1 => ?_
  cases b with
  | true => exact h2 α1 ρ S1 σ H1 Q Q' so1 (ro.stp t1) (q1.1 rfl) fun b H2 α2 S2 t2 => k b H2 α2 S2 (t1.trans t2)
  | false => exact k false H1 α1 S1 t1 so1 (q1.2 rfl)
theorem lift_or {K : PySem.W.Frag} {tt tu : TT} (h1 : LiftT K tt tc) (h2 : LiftT K tu td) : LiftT K (tOr tt tu) (dOr tc td) := fun α ρ S σ H Q Q' so ro q k => by
  refine h1 α ρ S σ H _ _ so ro q fun b H1 α1 S1 t1 so1 q1 => ?_
  cases b with
  | false => exact h2 α1 ρ S1 σ H1 Q Q' so1 (ro.stp t1) (q1.2 rfl) fun b H2 α2 S2 t2 => k b H2 α2 S2 (t1.trans t2)
  | true => exact k true H1 α1 S1 t1 so1 (q1.1 rfl)
theorem dw_one {rest : List Expr} (h : DTst X a tc) : DW X (.BoolOp .And [a] pos) tc := by
  obtain ⟨⟨tt, h1, h2⟩⟩ := h
  exact ⟨_, pw_and1 h1, h2⟩
theorem dw_and1 (h : DTst X a tc) : DW X (.BoolOp .And [a] pos) tc := by
  obtain ⟨⟨tt, h1, h2⟩⟩ := h
  exact ⟨_, pw_and1 h1, h2⟩
theorem dw_or1 (h : DTst X a tc) : DW X (.BoolOp .Or [a] pos) tc := by
  obtain ⟨⟨tt, h1, h2⟩⟩ := h
  exact ⟨_, pw_or1 h1, h2⟩
theorem dw_and {rest : List Expr} (ha : DTst X a tc) (hb : DW X (.BoolOp .And (b :: rest) pos) td) : DW X (.BoolOp .And (a :: b :: rest) pos) (dAnd tc td) := by
  obtain ⟨⟨tt, h1, h2⟩⟩ := ha
  obtain ⟨⟨tu, h3, h4⟩⟩ := hb
  exact ⟨_, pw_and h1 h3, lift_and h2 h4⟩
theorem dw_or {rest : List Expr} (ha : DTst X a tc) (hb : DW X (.BoolOp .Or (b :: rest) pos) td) : DW X (.BoolOp .Or (a :: b :: rest) pos) (dOr tc td) := by
  obtain ⟨⟨tt, h1, h2⟩⟩ := ha
  obtain ⟨⟨tu, h3, h4⟩⟩ := hb
  exact ⟨_, pw_or h1 h3, lift_or h2 h4⟩
theorem DW.pt (h : DW X e tc) : DTst X e tc := by
  obtain ⟨⟨tt, h1, h2⟩⟩ := h
  exact ⟨_, h1.pt, h2⟩
theorem dt_not (h : DTst X a tc) : DTst X (.UnaryOp .Not a pos) (dNot tc) := by
  obtain ⟨⟨tt, h1, h2⟩⟩ := h
  exact ⟨_, pt_not h1, fun α ρ S σ H Q Q' so ro q k => h2 α ρ S σ H _ _ so ro q fun b H1 α1 S1 t1 so1 q1 => k (!b) H1 α1 S1 t1 so1 q1⟩
/-- as values -/
def dAndV (ta tb : DT) : DT := fun ρ S Q => ta ρ S fun x S1 => onBl x fun c => (c = true → tb ρ S1 Q) ∧ (c = false → Q (.bl false) S1)
def dOrV (ta tb : DT) : DT := fun ρ S Q => ta ρ S fun x S1 => onBl x fun c => (c = true → Q (.bl true) S1) ∧ (c = false → tb ρ S1 Q)
def dNotV (ta : DT) : DT := fun ρ S Q => ta ρ S fun x S1 => onBl x fun c => Q (.bl (!c)) S1
theorem de_one {op} (h : DE X a t) : DE X (.BoolOp op [a] pos) t := by
  obtain ⟨⟨te, h1, h2⟩⟩ := h
  exact ⟨_, pe_one h1, h2⟩
theorem de_and {rest : List Expr} (ha : DE X a ta) (hb : DE X (.BoolOp .And (b :: rest) pos) tb) : DE X (.BoolOp .And (a :: b :: rest) pos) (dAndV ta tb) := by
  obtain ⟨⟨te, h1, h2⟩⟩ := ha
  obtain ⟨⟨tf, h3, h4⟩⟩ := hb
  refine ⟨_, pe_and h1 h3, fun α ρ S σ H Q Q' so ro q k => ?_⟩
  refine h2 α ρ S σ H _ _ so ro q fun v H1 α1 x S1 t1 so1 r1 q1 => ?_
  obtain ⟨c, e, q2⟩ := dT_bl (P := fun c => (c = true → tb ρ S1 Q) ∧ (c = false → Q (.bl false) S1)) r1 q1
  refine ⟨c, e, ?_⟩
  cases c with
  | true => exact h4 α1 ρ S1 σ H1 Q Q' so1 (ro.stp t1) (q2.1 rfl) (k.stp t1)
  | false => exact k _ H1 α1 (.bl false) S1 t1 so1 rfl (q2.2 rfl)
theorem de_or {rest : List Expr} (ha : DE X a ta) (hb : DE X (.BoolOp .Or (b :: rest) pos) tb) : DE X (.BoolOp .Or (a :: b :: rest) pos) (dOrV ta tb) := by
  obtain ⟨⟨te, h1, h2⟩⟩ := ha
  obtain ⟨⟨tf, h3, h4⟩⟩ := hb
  refine ⟨_, pe_or h1 h3, fun α ρ S σ H Q Q' so ro q k => ?_⟩
  refine h2 α ρ S σ H _ _ so ro q fun v H1 α1 x S1 t1 so1 r1 q1 => ?_
  obtain ⟨c, e, q2⟩ := dT_bl (P := fun c => (c = true → Q (.bl true) S1) ∧ (c = false → tb ρ S1 Q)) r1 q1
  refine ⟨c, e, ?_⟩
  cases c with
  | false => exact h4 α1 ρ S1 σ H1 Q Q' so1 (ro.stp t1) (q2.2 rfl) (k.stp t1)
  | true => exact k _ H1 α1 (.bl true) S1 t1 so1 rfl (q2.1 rfl)
theorem de_not (ha : DE X a ta) : DE X (.UnaryOp .Not a pos) (dNotV ta) := by
  obtain ⟨⟨te, h1, h2⟩⟩ := ha
  refine ⟨_, pe_not h1, fun α ρ S σ H Q Q' so ro q k => ?_⟩
  refine h2 α ρ S σ H _ _ so ro q fun v H1 α1 x S1 t1 so1 r1 q1 => ?_
  obtain ⟨c, e, q2⟩ := dT_bl (P := fun c => Q (.bl (!c)) S1) r1 q1
  exact ⟨c, e, (k.stp t1).bl so1 q2⟩
def dIf (t : DTt) (ta tb : DT) : DT := fun ρ S Q => t ρ S fun c S1 => (c = true → ta ρ S1 Q) ∧ (c = false → tb ρ S1 Q)
theorem de_ifExp (hc : DTst X c tc) (ha : DE X a ta) (hb : DE X b tb) : DE X (.IfExp c a b pos) (dIf tc ta tb) := by
  obtain ⟨⟨tt, h1, h2⟩⟩ := hc
  obtain ⟨⟨te, h3, h4⟩⟩ := ha
  obtain ⟨⟨tf, h5, h6⟩⟩ := hb
  refine ⟨_, pe_ifExp h1 h3 h5, fun α ρ S σ H Q Q' so ro q k => ?_⟩
  refine h2 α ρ S σ H _ _ so ro q fun b H1 α1 S1 t1 so1 q1 => ?_
  cases b with
  | true => exact h4 α1 ρ S1 σ H1 Q Q' so1 (ro.stp t1) (q1.1 rfl) (k.stp t1)
  | false => exact h6 α1 ρ S1 σ H1 Q Q' so1 (ro.stp t1) (q1.2 rfl) (k.stp t1)

/-! ### arguments, displays -/
def dNil : DA := fun _ S Q => Q [] S
def dCons (ta : DT) (tr : DA) : DA := fun ρ S Q => ta ρ S fun x S1 => tr ρ S1 fun xs S2 => Q (x :: xs) S2
theorem da_nil : DAs X [] dNil := ⟨_, pa_nil, fun α ρ S σ H Q Q' so ro q k => k [] H α [] S (Stp.refl _ _) so rfl q⟩
theorem da_cons {tr : DA} (ha : DE X e t) (hr : DAs X es tr) (hs : starEach (e :: es) X.env = (false, eval e X.env) :: starEach es X.env := by rfl) : DAs X (e :: es) (dCons t tr) := by
  obtain ⟨⟨te, h1, h2⟩⟩ := ha
  obtain ⟨⟨tf, h3, h4⟩⟩ := hr
  refine ⟨_, pa_cons h1 h3 hs, fun α ρ S σ H Q Q' so ro q k => ?_⟩
  refine h2 α ρ S σ H _ _ so ro q fun v H1 α1 x S1 t1 so1 r1 q1 => ?_
  refine h4 α1 ρ S1 σ H1 _ _ so1 (ro.stp t1) q1 fun vs H2 α2 ds S2 t2 so2 r2 q2 => ?_
  exact k (v :: vs) H2 α2 (x :: ds) S2 (t1.trans t2) so2 ⟨v, vs, rfl, r1.stp t2, r2⟩ q2
def dTup (t : DA) : DT := fun ρ S Q => t ρ S fun xs S1 => xs.length ≤ sizeLine ∧ Q (.tup xs) S1
def dLst (t : DA) : DT := fun ρ S Q => t ρ S fun xs S1 => xs.length ≤ sizeLine ∧ Q (.loc S1.length) (S1 ++ [.lst xs])
theorem new_tup {K : PySem.W.Frag} {α : Locs} {H : Hp} {S : Store} {p : Addr} {vs : List V} {ds : List D} (so : StoreOk K α H S) (r : RpL K α H vs ds) (hp : H p = none) :
    Stp α H α (upd H p (.tup vs)) ∧ StoreOk K α (upd H p (.tup vs)) S ∧ Rp K α (upd H p (.tup vs)) (.ref p) (.tup ds) :=
  ⟨Stp.new_ hp, so.grow (keep_new hp), p, vs, rfl, ⟨upd_same, so.off_new hp⟩, RpL.stp (Stp.new_ hp) ds vs r⟩
theorem new_lst {K : PySem.W.Frag} {α : Locs} {H : Hp} {S : Store} {p : Addr} {vs : List V} {ds : List D} (so : StoreOk K α H S) (r : RpL K α H vs ds) (hp : H p = none) :
    Stp α H (α ++ [some p]) (upd H p (.lst vs)) ∧ StoreOk K (α ++ [some p]) (upd H p (.lst vs)) (S ++ [.lst ds]) ∧ Rp K (α ++ [some p]) (upd H p (.lst vs)) (.ref p) (.loc S.length) :=
  ⟨Stp.push hp, so.push hp ⟨vs, upd_same, RpL.stp (Stp.push hp) ds vs r⟩, p, rfl, by rw [List.getElem?_append_right (by rw [so.len]; exact Nat.le_refl _), so.len]; simp⟩
theorem de_tup {x1} {ta : DA} (h : DAs X es ta) : DE X (.Tuple es x1 pos) (dTup ta) := by
  obtain ⟨⟨te, h1, h2⟩⟩ := h
  refine ⟨_, pe_tup h1, fun α ρ S σ H Q Q' so ro q k => ?_⟩
  refine h2 α ρ S σ H _ _ so ro q fun vs H1 α1 ds S1 t1 so1 r1 ⟨hz, q1⟩ => ⟨by rw [r1.len]; exact hz, fun p hp => ?_⟩
  obtain ⟨t2, so2, r2⟩ := new_tup so1 r1 hp
  exact k _ _ α1 _ S1 (t1.trans t2) so2 r2 q1
theorem de_lst {ta : DA} (h : DAs X es ta) : DE X (.List es pos) (dLst ta) := by
  obtain ⟨⟨te, h1, h2⟩⟩ := h
  refine ⟨_, pe_lst h1, fun α ρ S σ H Q Q' so ro q k => ?_⟩
  refine h2 α ρ S σ H _ _ so ro q fun vs H1 α1 ds S1 t1 so1 r1 ⟨hz, q1⟩ => ⟨by rw [r1.len]; exact hz, fun p hp => ?_⟩
  obtain ⟨t2, so2, r2⟩ := new_lst so1 r1 hp
  exact k _ _ _ _ _ (t1.trans t2) so2 r2 q1

/-! ### lists, tuples read -/
/-- the items of a list (of any standing) -/
def onLst (d : D) (S : Store) (P : List D → Prop) : Prop := match d with
  | .lst ds => P ds
  | .scr ns => P (ns.map D.int)
  | .loc l => onOpt S[l]? fun o => match o with
    | .lst ds => P ds
    | _ => False
  | _ => False
def onSeq (d : D) (S : Store) (P : List D → Prop) : Prop := match d with
  | .tup ds => P ds
  | .lst ds => P ds
  | .scr ns => P (ns.map D.int)
  | .loc l => onOpt S[l]? fun o => match o with
    | .lst ds => P ds
    | _ => False
  | _ => False
theorem onLst.rp {K : PySem.W.Frag} {α : Locs} {H : Hp} {S : Store} {d : D} {v : V} {P : List D → Prop} (so : StoreOk K α H S) (r : Rp K α H v d) (h : onLst d S P) : ∃ a xs ds, v = .ref a ∧ SqL K H a xs ∧ RpL K α H xs ds ∧ P ds := by
  unfold onLst at h
  split at h
  · rename_i ds
    obtain ⟨a, xs, e, hs, _, hr⟩ := r
    exact ⟨a, xs, ds, e, SqL.of hs, hr, h⟩
  · rename_i ns
    obtain ⟨a, e, hs⟩ := r
    exact ⟨a, _, _, e, hs.sq, RpL.ints ns, h⟩
  · rename_i l
    obtain ⟨a, e, ha⟩ := r
    obtain ⟨o, u, h1, h2, h3⟩ := so.live ha
    obtain ⟨o', ho, h⟩ := h
    rw [h1] at ho
    cases ho
    cases o with
    | lst ds =>
      obtain ⟨xs, h4, h5⟩ := h2
      exact ⟨a, xs, ds, e, SqL.of h4, h5, h⟩
    | _ => exact h.elim
  · exact h.elim
theorem onSeq.rp {K : PySem.W.Frag} {α : Locs} {H : Hp} {S : Store} {d : D} {v : V} {P : List D → Prop} (so : StoreOk K α H S) (r : Rp K α H v d) (h : onSeq d S P) : ∃ a xs ds, v = .ref a ∧ (SqL K H a xs ∨ SqT K H a xs) ∧ RpL K α H xs ds ∧ P ds := by
  by_cases ht : ∃ ds, d = .tup ds
  · obtain ⟨ds, rfl⟩ := ht
    obtain ⟨a, xs, e, hs, hr⟩ := r
    exact ⟨a, xs, ds, e, Or.inr hs.sq, hr, h⟩
  · have h' : onLst d S P := by
      cases d with
      | tup ds => exact absurd ⟨ds, rfl⟩ ht
      | _ => exact h
    obtain ⟨a, xs, ds, e, hs, hr, hp⟩ := onLst.rp so r h'
    exact ⟨a, xs, ds, e, Or.inl hs, hr, hp⟩
/-- xs[i] -/
def rdIx : RD := fun x y S Q => onInt y fun i => match x with
  | .str z => z.length ≤ sizeLine ∧ onOpt (atI z.cps.toList i) fun c => Q (.str ⟨#[c]⟩) S
  | x => onSeq x S fun ds => onOpt (atI ds i) fun d => Q d S
theorem RpL.atI {K : PySem.W.Frag} {α : Locs} {H : Hp} {xs : List V} {ds : List D} {i : Int} {d : D} (r : RpL K α H xs ds) (h : L2.atI ds i = some d) : ∃ v, L2.atI xs i = some v ∧ Rp K α H v d := by
  unfold L2.atI at h ⊢
  rw [r.len]
  cases e : ixN ds.length i with
  | none => rw [e] at h; cases h
  | some j =>
    rw [e] at h
    have h : ds[j]? = some d := h
    exact r.get h
theorem onInt.rp {K : PySem.W.Frag} {α : Locs} {H : Hp} {d : D} {v : V} {P : Int → Prop} (r : Rp K α H v d) (h : onInt d P) : ∃ i, v = .int i ∧ d = .int i ∧ P i := by
  cases d with
  | int i => exact ⟨i, r, rfl, h⟩
  | _ => exact h.elim
theorem onOpt.ex {β : Type} {o : Option β} {P : β → Prop} (h : onOpt o P) : ∃ x, o = some x ∧ P x := by
  exact h
theorem ix_any : IxD X rdIx := by
  refine ⟨_, ix_seq, fun α S H x y v u Q Q' so rx ry h k => ?_⟩
  obtain ⟨i, rfl, rfl, h⟩ := onInt.rp ry h
  by_cases hs : ∃ z, x = .str z
  · obtain ⟨z, rfl⟩ := hs
    obtain ⟨hz, h⟩ := h
    obtain ⟨c, hc, h⟩ := onOpt.ex h
    have rx : v = .str z := rx
    exact Or.inr (Or.inr ⟨z, i, c, rx, rfl, hz, hc, k.str so h⟩)
  · have h' : onSeq x S fun ds => onOpt (atI ds i) fun d => Q d S := by
      cases x with
      | str z => exact absurd ⟨z, rfl⟩ hs
      | _ => exact h
    obtain ⟨a, xs, ds, rfl, hsq, hr, h2⟩ := onSeq.rp so rx h'
    obtain ⟨d, hd, h3⟩ := onOpt.ex h2
    obtain ⟨w, hw, rw'⟩ := hr.atI hd
    have kk := k w H α d S (Stp.refl _ _) so rw' h3
    rcases hsq with hl | ht
    · exact Or.inl ⟨a, xs, i, w, rfl, rfl, hl, hw, kk⟩
    · exact Or.inr (Or.inl ⟨a, xs, i, w, rfl, rfl, ht, hw, kk⟩)
theorem de_ix {r : RD} (hr : IxD X r) (ha : DE X a ta) (hb : DE X b tb) (hs : PlainIx b) : DE X (.Subscript a b pos) (dOp r ta tb) := by
  obtain ⟨⟨ro, h1, h2⟩⟩ := hr
  obtain ⟨⟨te, h3, h4⟩⟩ := ha
  obtain ⟨⟨tf, h5, h6⟩⟩ := hb
  exact ⟨_, pe_ix h1 h3 h5 hs, lift_op h2 h4 h6⟩

/-! ### built-in functions -/
def dCB (r : CD) (t : DA) : DT := fun ρ S Q => t ρ S fun vs S1 => r vs S1 Q
theorem lift_cb {K : PySem.W.Frag} {r : List V → Hp → VK → Prop} {rd : CD} {t : TA} {td : DA} (hr : LiftC K r rd) (ha : LiftA K t td) : LiftE K (tCB r t) (dCB rd td) := fun α ρ S σ H Q Q' so ro q k =>
  ha α ρ S σ H _ _ so ro q fun vs H1 α1 ds S1 t1 so1 r1 q1 => hr α1 S1 H1 ds vs Q Q' so1 r1 q1 (k.stp t1)
theorem de_callB {x : Str} {p : Pos} {id : String} {r : CD} {td : DA} (hc : CallD X (.builtin id) r) (hg : Gl X x) (hm : X.mg x = none) (hv : bootBuiltins x = some (.builtin id)) (ha : DAs X (e :: es) td) (hn : x ≠ "__name__" := by decide) (hdb : (x == ("__debug__" : Str)) = false := by decide)
    (he : starEach (e :: es) X.env = (false, eval e X.env) :: starEach es X.env := by rfl) (hpl : (backTo pos (starEach es X.env)).any (·.1) = false := by rfl) : DE X (.Call (.Name x p) (e :: es) [] pos) (dCB r td) := by
  obtain ⟨⟨ro, h1, h2⟩⟩ := hc
  obtain ⟨⟨te, h3, h4⟩⟩ := ha
  exact ⟨_, pe_callB h1 hg hm hv h3 hn hdb he hpl, lift_cb h2 h4⟩
theorem de_callTy {x : Str} {p : Pos} {id : String} {r : CD} {td : DA} (hc : CallD X (.type id) r) (hg : Gl X x) (hm : X.mg x = none) (hv : bootBuiltins x = some (.type id)) (ha : DAs X (e :: es) td) (hn : x ≠ "__name__" := by decide) (hdb : (x == ("__debug__" : Str)) = false := by decide)
    (he : starEach (e :: es) X.env = (false, eval e X.env) :: starEach es X.env := by rfl) (hpl : (backTo pos (starEach es X.env)).any (·.1) = false := by rfl) : DE X (.Call (.Name x p) (e :: es) [] pos) (dCB r td) := by
  obtain ⟨⟨ro, h1, h2⟩⟩ := hc
  obtain ⟨⟨te, h3, h4⟩⟩ := ha
  exact ⟨_, pe_callTy h1 hg hm hv h3 hn hdb he hpl, lift_cb h2 h4⟩
def on1 (ds : List D) (P : D → Prop) : Prop := match ds with
  | [d] => P d
  | _ => False
def on2 (ds : List D) (P : D → D → Prop) : Prop := match ds with
  | [d, e] => P d e
  | _ => False
theorem on1.rp {K : PySem.W.Frag} {α : Locs} {H : Hp} {ds : List D} {vs : List V} {P : D → Prop} (r : RpL K α H vs ds) (h : on1 ds P) : ∃ d v, ds = [d] ∧ vs = [v] ∧ Rp K α H v d ∧ P d := by
  match ds, r, h with
  | [d], ⟨v, t, e, h1, h2⟩, h =>
    have h2 : t = [] := h2
    subst h2
    exact ⟨d, v, rfl, e, h1, h⟩
theorem on2.rp {K : PySem.W.Frag} {α : Locs} {H : Hp} {ds : List D} {vs : List V} {P : D → D → Prop} (r : RpL K α H vs ds) (h : on2 ds P) : ∃ d e v w, ds = [d, e] ∧ vs = [v, w] ∧ Rp K α H v d ∧ Rp K α H w e ∧ P d e := by
  match ds, r, h with
  | [d, f], ⟨v, t, e, h1, ⟨w, t2, e2, h3, h4⟩⟩, h =>
    have h4 : t2 = [] := h4
    subst h4
    subst e2
    exact ⟨d, f, v, w, rfl, e, h1, h3, h⟩
def cdLen : CD := fun ds S Q => on1 ds fun d => match d with
  | .str z => z.length ≤ sizeLine ∧ Q (.int z.length) S
  | d => onSeq d S fun xs => Q (.int xs.length) S
theorem cd_len : CallD X (.builtin "len") cdLen := by
  refine ⟨_, call_len_seq.or call_len_str, fun α S H xs vs Q Q' so r h k => ?_⟩
  obtain ⟨d, v, rfl, rfl, rv, h⟩ := on1.rp r h
  by_cases hs : ∃ z, d = .str z
  · obtain ⟨z, rfl⟩ := hs
    have rv : v = .str z := rv
    subst rv
    exact Or.inr ⟨z, rfl, h.1, k.int so h.2⟩
  · have h' : onSeq d S fun xs => Q (.int xs.length) S := by
      cases d with
      | str z => exact absurd ⟨z, rfl⟩ hs
      | _ => exact h
    obtain ⟨a, xs, ds, rfl, hsq, hr, h2⟩ := onSeq.rp so rv h'
    refine Or.inl ⟨a, xs, rfl, hsq, ?_⟩
    rw [hr.len]
    exact k.int so h2
def cdAbs : CD := fun ds S Q => on1 ds fun d => onInt d fun i => Q (.int (if i < 0 then -i else i)) S
theorem cd_abs : CallD X (.builtin "abs") cdAbs := by
  refine ⟨_, call_abs, fun α S H xs vs Q Q' so r h k => ?_⟩
  obtain ⟨d, v, rfl, rfl, rv, h⟩ := on1.rp r h
  obtain ⟨i, rfl, rfl, h⟩ := onInt.rp rv h
  exact ⟨i, rfl, k.int so h⟩
def cdMax2 : CD := fun ds S Q => on2 ds fun d e => onInt d fun i => onInt e fun j => Q (.int (if j > i then j else i)) S
def cdMin2 : CD := fun ds S Q => on2 ds fun d e => onInt d fun i => onInt e fun j => Q (.int (if j < i then j else i)) S
theorem cd_max2 (hc : X.calm = true) : CallD X (.builtin "max") cdMax2 := by
  refine ⟨_, call_max2 hc, fun α S H xs vs Q Q' so r h k => ?_⟩
  obtain ⟨d, e, v, w, rfl, rfl, rv, rw', h⟩ := on2.rp r h
  obtain ⟨i, rfl, rfl, h⟩ := onInt.rp rv h
  obtain ⟨j, rfl, rfl, h⟩ := onInt.rp rw' h
  exact ⟨i, j, rfl, k.int so h⟩
theorem cd_min2 (hc : X.calm = true) : CallD X (.builtin "min") cdMin2 := by
  refine ⟨_, call_min2 hc, fun α S H xs vs Q Q' so r h k => ?_⟩
  obtain ⟨d, e, v, w, rfl, rfl, rv, rw', h⟩ := on2.rp r h
  obtain ⟨i, rfl, rfl, h⟩ := onInt.rp rv h
  obtain ⟨j, rfl, rfl, h⟩ := onInt.rp rw' h
  exact ⟨i, j, rfl, k.int so h⟩
/-- list(xs): a new list; tuple(xs) -/
def cdList : CD := fun ds S Q => on1 ds fun d => onSeq d S fun xs => Q (.loc S.length) (S ++ [.lst xs])
theorem cd_list : CallD X (.type "list") cdList := by
  refine ⟨_, call_list_of, fun α S H xs vs Q Q' so r h k => ?_⟩
  obtain ⟨d, v, rfl, rfl, rv, h⟩ := on1.rp r h
  obtain ⟨a, xs, ds, rfl, hsq, hr, h2⟩ := onSeq.rp so rv h
  refine ⟨a, xs, rfl, hsq, fun l hl => ?_⟩
  obtain ⟨t2, so2, r2⟩ := new_lst so hr hl
  exact k _ _ _ _ _ t2 so2 r2 h2
def cdTuple : CD := fun ds S Q => on1 ds fun d => onLst d S fun xs => Q (.tup xs) S
theorem cd_tuple : CallD X (.type "tuple") cdTuple := by
  refine ⟨_, call_tuple_of, fun α S H xs vs Q Q' so r h k => ?_⟩
  obtain ⟨d, v, rfl, rfl, rv, h⟩ := on1.rp r h
  obtain ⟨a, xs, ds, rfl, hsq, hr, h2⟩ := onLst.rp so rv h
  refine ⟨a, xs, rfl, Or.inl ⟨hsq, fun l hl => ?_⟩⟩
  obtain ⟨t2, so2, r2⟩ := new_tup so hr hl
  exact k _ _ _ _ _ t2 so2 r2 h2
end
end DL

/-! DL, 4: statements, targets, loops, comprehensions. -/
namespace DL
open PySem PySem.Spec PyProof.Rows L2

section
variable {X : Cx} {e a b c : Expr} {es : List Expr} {st : Stmt} {rest body : List Stmt} {pos : Pos} {t ta tb : DT} {tc td : DTt} {u v : DS}
def sNext : DS := fun E ρ S => E.nx ρ S
def sSeq (t u : DS) : DS := fun E ρ S => t { E with nx := u E } ρ S
theorem ds_nil : DSs X [] sNext := ⟨_, pss_nil, fun α ρ S σ H E F so ro q k => k.nx σ H α ρ S (Stp.refl _ _) so ro q⟩
theorem ds_cons (h1 : DSt X st u) (h2 : DSs X rest v) : DSs X (st :: rest) (sSeq u v) := by
  obtain ⟨⟨ts, h3, h4⟩⟩ := h1
  obtain ⟨⟨tr, h5, h6⟩⟩ := h2
  refine ⟨_, pss_cons h3 h5, fun α ρ S σ H E F so ro q k => ?_⟩
  exact h4 α ρ S σ H { E with nx := v E } { F with nx := tr F } so ro q (k.nxt fun σ' H' α' ρ' S' t' so' ro' q' => h6 α' ρ' S' σ' H' E F so' ro' q' (k.stp t'))
theorem ds_one (h1 : DSt X st u) : DSs X [st] u := by
  obtain ⟨⟨ts, h3, h4⟩⟩ := h1
  exact ⟨_, pss_one h3, h4⟩
def sBreak : DS := fun E ρ S => E.bk ρ S
def sCont : DS := fun E ρ S => E.ct ρ S
theorem ds_pass : DSt X (.Pass pos) sNext := ⟨_, ps_pass, fun α ρ S σ H E F so ro q k => k.nx σ H α ρ S (Stp.refl _ _) so ro q⟩
theorem ds_break : DSt X (.Break pos) sBreak := ⟨_, ps_break, fun α ρ S σ H E F so ro q k => k.bk σ H α ρ S (Stp.refl _ _) so ro q⟩
theorem ds_continue : DSt X (.Continue pos) sCont := ⟨_, ps_continue, fun α ρ S σ H E F so ro q k => k.ct σ H α ρ S (Stp.refl _ _) so ro q⟩
def sDrop (t : DT) : DS := fun E ρ S => t ρ S fun _ S1 => E.nx ρ S1
theorem ds_expr (he : DE X e t) (hs : swapsWith e none pos.line X.env = pure false := by rfl) : DSt X (.Expr e pos) (sDrop t) := by
  obtain ⟨⟨te, h1, h2⟩⟩ := he
  refine ⟨_, ps_expr h1 hs, fun α ρ S σ H E F so ro q k => ?_⟩
  exact h2 α ρ S σ H _ _ so ro q fun v H1 α1 d S1 t1 so1 r1 q1 => k.nx σ H1 α1 ρ S1 t1 so1 (ro.stp t1) q1
def sRet (t : DT) : DS := fun E ρ S => t ρ S E.rt
theorem ds_ret (he : DE X e t) : DSt X (.Return (some e) pos) (sRet t) := by
  obtain ⟨⟨te, h1, h2⟩⟩ := he
  exact ⟨_, ps_ret h1, fun α ρ S σ H E F so ro q k => h2 α ρ S σ H _ _ so ro q k.rt⟩
def sRetN : DS := fun E ρ S => E.rt .non S
theorem ds_retN : DSt X (.Return none pos) sRetN := ⟨_, ps_retN, fun α ρ S σ H E F so ro q k => k.rt.non so q⟩
def sIf (c : DTt) (t u : DS) : DS := fun E ρ S => c ρ S fun b S1 => (b = true → t E ρ S1) ∧ (b = false → u E ρ S1)
theorem ds_if {bd orelse : List Stmt} (hc : DTst X c tc) (ha : DSs X bd u) (hb : DSs X orelse v) : DSt X (.If c bd orelse pos) (sIf tc u v) := by
  obtain ⟨⟨tt, h1, h2⟩⟩ := hc
  obtain ⟨⟨ts, h3, h4⟩⟩ := ha
  obtain ⟨⟨tr, h5, h6⟩⟩ := hb
  refine ⟨_, ps_if h1 h3 h5, fun α ρ S σ H E F so ro q k => ?_⟩
  refine h2 α ρ S σ H _ _ so ro q fun b H1 α1 S1 t1 so1 q1 => ?_
  cases b with
  | true => exact h4 α1 ρ S1 σ H1 E F so1 (ro.stp t1) (q1.1 rfl) (k.stp t1)
  | false => exact h6 α1 ρ S1 σ H1 E F so1 (ro.stp t1) (q1.2 rfl) (k.stp t1)

/-! ### targets -/
theorem SameBut.refl (ws : List Nat) (σ : L2.St) : SameBut ws σ σ := ⟨rfl, fun _ _ => rfl⟩
theorem SameBut.trans {ws xs : List Nat} {σ σ1 σ2 : L2.St} (h1 : SameBut ws σ σ1) (h2 : SameBut xs σ1 σ2) : SameBut (ws ++ xs) σ σ2 :=
  ⟨h2.1.trans h1.1, fun j hj => (h2.2 j fun z => hj (List.mem_append_right _ z)).trans (h1.2 j fun z => hj (List.mem_append_left _ z))⟩
def gdName (i : Nat) : DG := fun d ρ S Q => Q (setR ρ i d) S
theorem dg_name {i : Nat} {x : Str} (hN : X.N.Nodup) (hi : X.N[i]? = some x) (hx : Loc X.env.scope x) (hf : X.fn x = true ∨ X.env.scope.names.lookup x = some .local := by first | exact .inl rfl | exact .inr rfl | assumption) : DGt X (.Name x pos) [i] (gdName i) :=
  ⟨_, pg_name hN hi hx hf, fun α ρ S σ H v d Q Q' so ro r q k => k _ H α _ S ⟨List.length_set .., fun j hj => List.getElem?_set_ne fun e => hj (by rw [e]; exact List.mem_singleton.mpr rfl)⟩ (Stp.refl _ _) so (RhoOk.set i r ro) q⟩
def gdNil : DGs := fun ds ρ S Q => match ds with
  | [] => Q ρ S
  | _ => False
def gdCons (g : DG) (gs : DGs) : DGs := fun ds ρ S Q => match ds with
  | d :: r => g d ρ S fun ρ1 S1 => gs r ρ1 S1 Q
  | [] => False
theorem dgs_nil : DGts X [] [] gdNil := by
  refine ⟨_, pgs_nil, fun α ρ S σ H vs ds Q Q' so ro r q k => ?_⟩
  cases ds with
  | nil => exact ⟨r, k σ H α ρ S (SameBut.refl _ _) (Stp.refl _ _) so ro q⟩
  | cons d ds => exact q.elim
theorem dgs_cons {ws xs : List Nat} {g : DG} {gs : DGs} (h1 : DGt X e ws g) (h2 : DGts X es xs gs)
    (hs : (assignEach (e :: es) X.env).map (·.2) = assign e X.env :: (assignEach es X.env).map (·.2) := by rfl) : DGts X (e :: es) (ws ++ xs) (gdCons g gs) := by
  obtain ⟨⟨g1, h3, h4⟩⟩ := h1
  obtain ⟨⟨g2, h5, h6⟩⟩ := h2
  refine ⟨_, pgs_cons h3 h5 hs, fun α ρ S σ H vs ds Q Q' so ro r q k => ?_⟩
  cases ds with
  | nil => exact q.elim
  | cons d ds =>
    obtain ⟨v, t, e1, r1, r2⟩ := r
    refine ⟨v, t, e1, ?_⟩
    refine h4 α ρ S σ H v d _ _ so ro r1 q fun σ1 H1 α1 ρ1 S1 sb t1 so1 ro1 q1 => ?_
    exact h6 α1 ρ1 S1 σ1 H1 t ds Q Q' so1 ro1 (RpL.stp t1 ds t r2) q1 fun σ2 H2 α2 ρ2 S2 sb2 t2 => k σ2 H2 α2 ρ2 S2 (sb.trans sb2) (t1.trans t2)
def gdTup (n : Nat) (gs : DGs) : DG := fun d ρ S Q => match d with
  | .tup ds => ds.length = n ∧ gs ds ρ S Q
  | _ => False
theorem dg_tup {ws : List Nat} {k : Nat} {gs : DGs} {n : Nat} (hc : X.calm = true) (h : DGts X es ws gs)
    (hn : (assignEach es X.env).length = n := by rfl) (hst : (assignEach es X.env).findIdx? (·.1) = none := by rfl) : DGt X (.Tuple es k pos) ws (gdTup n gs) := by
  obtain ⟨⟨g1, h3, h4⟩⟩ := h
  refine ⟨_, pg_tup hc h3 hn hst, fun α ρ S σ H v d Q Q' so ro r q k => ?_⟩
  cases d with
  | tup ds =>
    obtain ⟨a, xs, e, ht, hr⟩ := r
    exact ⟨a, xs, e, ht.sq, by rw [hr.len]; exact q.1, h4 α ρ S σ H xs ds Q Q' so ro hr q.2 k⟩
  | _ => exact q.elim
def sAsg (t : DT) (g : DG) : DS := fun E ρ S => t ρ S fun d S1 => g d ρ S1 E.nx
theorem lift_asg {K : PySem.W.Frag} {te : TE} {g : TG} {gd : DG} {ws : List Nat} (h1 : LiftE K te t) (h2 : LiftG K ws g gd) : LiftS K (tAsg te g) (sAsg t gd) := fun α ρ S σ H E F so ro q k => by
  refine h1 α ρ S σ H _ _ so ro q fun v H1 α1 d S1 t1 so1 r1 q1 => ?_
  exact h2 α1 ρ S1 σ H1 v d _ _ so1 (ro.stp t1) r1 q1 fun σ2 H2 α2 ρ2 S2 _ t2 so2 ro2 q2 => k.nx σ2 H2 α2 ρ2 S2 (t1.trans t2) so2 ro2 q2
theorem ds_asg {tg : Expr} {ws : List Nat} {g : DG} (he : DE X e t) (hg : DGt X tg ws g) (hs : swapsWithSole [tg] e pos.line X.env = pure false := by rfl) (hw : swappedStores [tg] e X.env = pure none := by rfl)
    (h1 : (assignEach [tg] X.env).map (·.2) = [assign tg X.env] := by rfl) : DSt X (.Assign [tg] e pos) (sAsg t g) := by
  obtain ⟨⟨te, h3, h4⟩⟩ := he
  obtain ⟨⟨g1, h5, h6⟩⟩ := hg
  exact ⟨_, ps_asg h3 h5 hs hw h1, lift_asg h4 h6⟩
theorem ds_set {i : Nat} {x : Str} {pos' : Pos} (hN : X.N.Nodup) (hi : X.N[i]? = some x) (hx : Loc X.env.scope x) (he : DE X e t) (hs : swapsWith e (some (.Name x pos')) pos.line X.env = pure false := by rfl) (hf : X.fn x = true ∨ X.env.scope.names.lookup x = some .local := by first | exact .inl rfl | exact .inr rfl | assumption) :
    DSt X (.Assign [.Name x pos'] e pos) (sAsg t (gdName i)) := by
  obtain ⟨⟨te, h3, h4⟩⟩ := he
  refine ⟨_, ps_set hN hi hx h3 hs hf, lift_asg (ws := [i]) h4 ?_⟩
  exact fun α ρ S σ H v d Q Q' so ro r q k => k _ H α _ S ⟨List.length_set .., fun j hj => List.getElem?_set_ne fun e => hj (by rw [e]; exact List.mem_singleton.mpr rfl)⟩ (Stp.refl _ _) so (RhoOk.set i r ro) q
/-- a, b = x, y -/
def sPar (i j : Nat) (ta : DA) : DS := fun E ρ S => ta ρ S fun ds S1 => on2 ds fun d e => E.nx (setR (setR ρ i d) j e) S1
theorem ds_par {i j : Nat} {x y : Str} {px py pt : Pos} {kt k2 pt2} {da : DA} (hc : X.calm = true) (hN : X.N.Nodup) (hi : X.N[i]? = some x) (hj : X.N[j]? = some y) (hij : i ≠ j)
    (hx : X.env.scope.names.lookup x = some .local) (hy : X.env.scope.names.lookup y = some .local) (ha : DAs X [a, b] da)
    (hw : swappedStores [.Tuple [.Name x px, .Name y py] kt pt] (.Tuple [a, b] k2 pt2) X.env = pure (some [x, y]))
    (hs : swapsWithSole [.Tuple [.Name x px, .Name y py] kt pt] (.Tuple [a, b] k2 pt2) pos.line X.env = pure false := by rfl) :
    DSt X (.Assign [.Tuple [.Name x px, .Name y py] kt pt] (.Tuple [a, b] k2 pt2) pos) (sPar i j da) := by
  obtain ⟨⟨te, h3, h4⟩⟩ := ha
  refine ⟨_, ps_par hc hN hi hj hij hx hy h3 hw hs, fun α ρ S σ H E F so ro q k => ?_⟩
  refine h4 α ρ S σ H _ _ so ro q fun vs H1 α1 ds S1 t1 so1 r1 q1 => ?_
  obtain ⟨d, e, v, w, rfl, rfl, r2, r3, q2⟩ := on2.rp r1 q1
  exact ⟨v, w, rfl, k.nx _ H1 α1 _ S1 t1 so1 (RhoOk.set j r3 (RhoOk.set i r2 (ro.stp t1))) q2⟩
/-- name += int, name -= int -/
def sAugI (f : Int → Int → Int) (i : Nat) (t : DT) : DS := fun E ρ S => onOpt (getR ρ i) fun x => onInt x fun m => t ρ S fun y S1 => onInt y fun n => E.nx (setR ρ i (.int (f m n))) S1
theorem lift_aug {K : PySem.W.Frag} {te : TE} {i : Nat} {f : Int → Int → Int} (h : LiftE K te t) : LiftS K (tAug i te (ipI f)) (sAugI f i t) := fun α ρ S σ H E F so ro q k => by
  obtain ⟨x, hx, q⟩ := onOpt.ex q
  obtain ⟨v, hv, rv⟩ := ro.get hx
  obtain ⟨m, rfl, rfl, q⟩ := onInt.rp rv q
  refine ⟨_, hv, ?_⟩
  refine h α ρ S σ H _ _ so ro q fun v H1 α1 d S1 t1 so1 r1 q1 => ?_
  obtain ⟨n, rfl, rfl, q2⟩ := onInt.rp r1 q1
  exact ⟨m, n, rfl, rfl, k.nx _ H1 α1 _ S1 t1 so1 (RhoOk.set (v := V.int (f m n)) (d := D.int (f m n)) i rfl (ro.stp t1)) q2⟩
theorem ds_augAdd {i : Nat} {x : Str} {pos' : Pos} (hN : X.N.Nodup) (hi : X.N[i]? = some x) (hx : Loc X.env.scope x) (he : DE X e t) (hf : X.fn x = true ∨ X.env.scope.names.lookup x = some .local := by first | exact .inl rfl | exact .inr rfl | assumption) :
    DSt X (.AugAssign (.Name x pos') .Add e pos) (sAugI (fun i j => i + j) i t) := by
  obtain ⟨⟨te, h3, h4⟩⟩ := he
  exact ⟨_, ps_aug hN hi hx h3 ip_add hf, lift_aug h4⟩
theorem ds_augSub {i : Nat} {x : Str} {pos' : Pos} (hN : X.N.Nodup) (hi : X.N[i]? = some x) (hx : Loc X.env.scope x) (he : DE X e t) (hf : X.fn x = true ∨ X.env.scope.names.lookup x = some .local := by first | exact .inl rfl | exact .inr rfl | assumption) :
    DSt X (.AugAssign (.Name x pos') .Sub e pos) (sAugI (fun i j => i - j) i t) := by
  obtain ⟨⟨te, h3, h4⟩⟩ := he
  exact ⟨_, ps_aug hN hi hx h3 ip_sub hf, lift_aug h4⟩

/-! ### while -/
def sWhile (c : DTt) (tb : DS) : DS := fun E ρ S => ∃ W : Nat → Rho → Store → Prop, (∃ m, W m ρ S) ∧ ∀ m ρ S, W m ρ S →
  c ρ S fun b S1 => (b = true → tb { E with nx := fun ρ' S' => ∃ m', m' < m ∧ W m' ρ' S', ct := fun ρ' S' => ∃ m', m' < m ∧ W m' ρ' S', bk := E.nx } ρ S1) ∧ (b = false → E.nx ρ S1)
theorem ds_while (hp : PassesOwn (model X.prog X.w) X.A X.env X.xe) (hc : DTst X c tc) (hb : DSs X body u) : DSt X (.While c body [] pos) (sWhile tc u) := by
  obtain ⟨⟨tt, h1, h2⟩⟩ := hc
  obtain ⟨⟨ts, h3, h4⟩⟩ := hb
  refine ⟨_, ps_while hp h1 h3, fun α0 ρ0 S0 σ0 H0 E F so0 ro0 q k => ?_⟩
  obtain ⟨W, ⟨m0, w0⟩, step⟩ := q
  refine ⟨fun m σ H => ∃ α ρ S, Stp α0 H0 α H ∧ StoreOk X.K α H S ∧ RhoOk X.K α H ρ σ ∧ W m ρ S, ⟨m0, α0, ρ0, S0, Stp.refl _ _, so0, ro0, w0⟩, ?_⟩
  rintro m σ H ⟨α, ρ, S, t, so, ro, w⟩
  refine h2 α ρ S σ H _ _ so ro (step m ρ S w) fun b H1 α1 S1 t1 so1 q1 => ?_
  cases b with
  | true =>
    rw [if_pos rfl]
    have q1 := q1.1 rfl
    refine ⟨fun σ' H' => ∃ m', m' < m ∧ ∃ α ρ S, Stp α0 H0 α H' ∧ StoreOk X.K α H' S ∧ RhoOk X.K α H' ρ σ' ∧ W m' ρ S, fun σ' H' z => z, ?_⟩
    refine h4 α1 ρ S1 σ H1 _ _ so1 (ro.stp t1) q1 ⟨?_, (k.stp (t.trans t1)).rt, ?_, ?_⟩
    · rintro σ' H' α' ρ' S' t' so' ro' ⟨m', hm, w'⟩
      exact ⟨m', hm, α', ρ', S', (t.trans t1).trans t', so', ro', w'⟩
    · exact (k.stp (t.trans t1)).nx
    · rintro σ' H' α' ρ' S' t' so' ro' ⟨m', hm, w'⟩
      exact ⟨m', hm, α', ρ', S', (t.trans t1).trans t', so', ro', w'⟩
  | false =>
    rw [if_neg Bool.false_ne_true]
    exact k.nx σ H1 α1 ρ S1 (t.trans t1) so1 (ro.stp t1) (q1.2 rfl)

/-! ### what is walked -/
/-- the items that come, one by one -/
abbrev DI := Rho → Store → (List D → Store → Prop) → Prop
/-- J yields what stands for the items, from (α0, H0) on, whatever changes but the source -/
structure Yields (K : PySem.W.Frag) (α0 : Locs) (H0 : Hp) (J : It) (n : Nat) (P : Hp → Prop) (R : Locs → Hp → Nat → V → Prop) : Prop where
  go : ∀ i H, i < n → P H → J.go i H
  stop : ∀ H, P H → J.stop n H
  yld : ∀ i α H x H', i < n → P H → Stp α0 H0 α H → J.yld i H x H' → Stp α H α H' ∧ (∀ S, StoreOk K α H S → StoreOk K α H' S) ∧ R α H' i x
/-- the walked thing is of the unchanging kind -/
def LiftI (K : PySem.W.Frag) (wi : TI) (t : DI) : Prop :=
  ∀ α ρ S σ H (Q : List D → Store → Prop) (R : It → Hp → Prop), StoreOk K α H S → RhoOk K α H ρ σ → t ρ S Q →
    (∀ J H' α' ds S', Stp α H α' H' → StoreOk K α' H' S' → bndL α'.length ds → Q ds S' →
      (∀ i α2 H2, i < ds.length → Stp α' H' α2 H2 → J.go i H2) → (∀ α2 H2, Stp α' H' α2 H2 → J.stop ds.length H2) →
      (∀ i α2 H2 x H3 d, ds[i]? = some d → Stp α' H' α2 H2 → (∃ S2, StoreOk K α2 H2 S2) → J.yld i H2 x H3 → ∃ α3, Stp α2 H2 α3 H3 ∧ (∀ S2, StoreOk K α2 H2 S2 → StoreOk K α3 H3 S2) ∧ Rp K α3 H3 x d) → R J H') → wi σ H R
structure DIt (X : Cx) (tg iter : Expr) (t : DI) : Prop where
  ex : ∃ wi, PI X tg iter wi ∧ LiftI X.K wi t
/-- a tuple, a list that is no location -/
def diSeq (t : DT) : DI := fun ρ S Q => t ρ S fun d S1 => onTup d fun ds => Q ds S1
theorem di_tup {tg : Expr} (h : DE X e t) : DIt X tg e (diSeq t) := by
  obtain ⟨⟨te, h1, h2⟩⟩ := h
  refine ⟨_, pi_tup h1, fun α ρ S σ H Q R so ro q k => ?_⟩
  refine h2 α ρ S σ H _ _ so ro q fun v H1 α1 d S1 t1 so1 r1 q1 => ?_
  cases d with
  | tup ds =>
    obtain ⟨a, xs, e, ht, hr⟩ := r1
    refine ⟨a, e, ⟨xs, ht.sq⟩, k _ H1 α1 ds S1 t1 so1 (RpL.bnd ds xs hr) q1 ?_ ?_ ?_⟩
    · intro i α2 H2 hi t2
      have hl := hr.len
      exact ⟨xs, xs[i]'(by omega), (ht.stp t2).sq, by simp⟩
    · intro α2 H2 t2
      exact ⟨xs, (ht.stp t2).sq, by rw [hr.len]; exact Nat.le_refl _⟩
    · rintro i α2 H2 x H3 d hd t2 _ ⟨rfl, hy⟩
      have h3 := hy xs (ht.stp t2).sq
      obtain ⟨v, hv, rv⟩ := (RpL.stp t2 ds xs hr).get hd
      rw [h3] at hv
      cases hv
      exact ⟨α2, Stp.refl _ _, fun _ z => z, rv⟩
  | _ => exact q1.elim
def diLst (t : DT) : DI := fun ρ S Q => t ρ S fun d S1 => match d with
  | .lst ds => Q ds S1
  | .scr ns => Q (ns.map D.int) S1
  | _ => False
theorem di_lst {tg : Expr} (h : DE X e t) : DIt X tg e (diLst t) := by
  obtain ⟨⟨te, h1, h2⟩⟩ := h
  refine ⟨_, pi_list h1, fun α ρ S σ H Q R so ro q k => ?_⟩
  refine h2 α ρ S σ H _ _ so ro q fun v H1 α1 d S1 t1 so1 r1 q1 => ?_
  have key : ∀ a xs ds, v = .ref a → (∀ α2 H2, Stp α1 H1 α2 H2 → SqL X.K H2 a xs) → RpL X.K α1 H1 xs ds → Q ds S1 → ∃ a, v = .ref a ∧ (∃ xs, SqL X.K H1 a xs) ∧ R (Itl X.K a) H1 := by
    intro a xs ds e ht hr q1
    refine ⟨a, e, ⟨xs, ht α1 H1 (Stp.refl _ _)⟩, k _ H1 α1 ds S1 t1 so1 (RpL.bnd ds xs hr) q1 ?_ ?_ ?_⟩
    · intro i α2 H2 hi t2
      have hl := hr.len
      exact ⟨xs, xs[i]'(by omega), ht α2 H2 t2, by simp⟩
    · intro α2 H2 t2
      exact ⟨xs, ht α2 H2 t2, by rw [hr.len]; exact Nat.le_refl _⟩
    · rintro i α2 H2 x H3 d hd t2 _ ⟨rfl, hy⟩
      have h3 := hy xs (ht α2 _ t2)
      obtain ⟨v, hv, rv⟩ := (RpL.stp t2 ds xs hr).get hd
      rw [h3] at hv
      cases hv
      exact ⟨α2, Stp.refl _ _, fun _ z => z, rv⟩
  cases d with
  | lst ds =>
    obtain ⟨a, xs, e, hs, f, hr⟩ := r1
    exact key a xs ds e (fun α2 H2 t2 => SqL.of (t2.keep _ _ hs f)) hr q1
  | scr ns =>
    obtain ⟨a, e, hs⟩ := r1
    exact key a _ _ e (fun α2 H2 t2 => (hs.stp t2).sq) (RpL.ints ns) q1
  | _ => exact q1.elim
def intsFrom (lo : Int) (n : Nat) : List D := (List.range n).map fun (i : Nat) => D.int (lo + i)
theorem intsFrom_get {lo : Int} {n i : Nat} {d : D} (h : (intsFrom lo n)[i]? = some d) : i < n ∧ d = .int (lo + i) := by
  unfold intsFrom at h
  rw [List.getElem?_map] at h
  by_cases hi : i < n
  · rw [List.getElem?_range hi] at h
    exact ⟨hi, (Option.some.inj h).symm⟩
  · rw [List.getElem?_eq_none_iff.mpr (by rw [List.length_range]; omega)] at h
    cases h
theorem intsFrom_len (lo : Int) (n : Nat) : (intsFrom lo n).length = n := by simp [intsFrom]
theorem bndL_all {n : Nat} : ∀ {ds : List D}, (∀ d ∈ ds, bnd n d) → bndL n ds
  | [], _ => trivial
  | d :: ds, h => ⟨h d List.mem_cons_self, bndL_all fun x hx => h x (List.mem_cons_of_mem _ hx)⟩
theorem bndL_map {β : Type} {n : Nat} {f : β → D} {l : List β} (h : ∀ x, bnd n (f x)) : bndL n (l.map f) := bndL_all fun d hd => by
  obtain ⟨x, _, rfl⟩ := List.mem_map.mp hd
  exact h x
theorem intsFrom_bnd (m : Nat) (lo : Int) (n : Nat) : bndL m (intsFrom lo n) := bndL_map (f := fun (i : Nat) => D.int (lo + i)) fun _ => trivial
def diRng1 (t : DA) : DI := fun ρ S Q => t ρ S fun ds S1 => on1 ds fun d => onInt d fun j => -(2 ^ 62) ≤ j ∧ j < 2 ^ 62 ∧ Q (intsFrom 0 j.toNat) S1
def diRng2 (t : DA) : DI := fun ρ S Q => t ρ S fun ds S1 => on2 ds fun d e => onInt d fun i => onInt e fun j => (-(2 ^ 62) ≤ i ∧ i < 2 ^ 62 ∧ -(2 ^ 62) ≤ j ∧ j < 2 ^ 62) ∧ Q (intsFrom i (j - i).toNat) S1
theorem rng_key {K : PySem.W.Frag} {lo : Int} {n : Nat} {α1 : Locs} {H1 : Hp} {S1 : Store} {α : Locs} {H : Hp} {Q : List D → Store → Prop} {R : It → Hp → Prop} (t1 : Stp α H α1 H1) (so1 : StoreOk K α1 H1 S1) (q1 : Q (intsFrom lo n) S1)
    (k : ∀ J H' α' ds S', Stp α H α' H' → StoreOk K α' H' S' → bndL α'.length ds → Q ds S' →
      (∀ i α2 H2, i < ds.length → Stp α' H' α2 H2 → J.go i H2) → (∀ α2 H2, Stp α' H' α2 H2 → J.stop ds.length H2) →
      (∀ i α2 H2 x H3 d, ds[i]? = some d → Stp α' H' α2 H2 → (∃ S2, StoreOk K α2 H2 S2) → J.yld i H2 x H3 → ∃ α3, Stp α2 H2 α3 H3 ∧ (∀ S2, StoreOk K α2 H2 S2 → StoreOk K α3 H3 S2) ∧ Rp K α3 H3 x d) → R J H') : R (Itr lo n) H1 := by
  refine k _ H1 α1 (intsFrom lo n) S1 t1 so1 (intsFrom_bnd _ _ _) q1 ?_ ?_ ?_
  · intro i α2 H2 hi _
    rw [intsFrom_len] at hi
    exact hi
  · intro α2 H2 _
    rw [intsFrom_len]
    exact Nat.le_refl _
  · rintro i α2 H2 x H3 d hd t2 _ ⟨rfl, rfl⟩
    obtain ⟨_, rfl⟩ := intsFrom_get hd
    exact ⟨α2, Stp.refl _ _, fun _ z => z, rfl⟩
theorem di_rng1 {tg : Expr} {da : DA} {p : Pos} (hg : Gl X "range") (hm : X.mg "range" = none) (ha : DAs X [a] da) (hs : starEach [a] X.env = [(false, eval a X.env)] := by rfl) : DIt X tg (.Call (.Name "range" p) [a] [] pos) (diRng1 da) := by
  obtain ⟨⟨te, h1, h2⟩⟩ := ha
  refine ⟨_, pi_range1 hg hm h1 hs, fun α ρ S σ H Q R so ro q k => ?_⟩
  refine h2 α ρ S σ H _ _ so ro q fun vs H1 α1 ds S1 t1 so1 r1 q1 => ?_
  obtain ⟨d, v, rfl, rfl, r2, q2⟩ := on1.rp r1 q1
  obtain ⟨j, rfl, rfl, b1, b2, q3⟩ := onInt.rp r2 q2
  exact ⟨j, rfl, b1, b2, rng_key t1 so1 q3 k⟩
theorem di_rng2 {tg : Expr} {da : DA} {p : Pos} (hg : Gl X "range") (hm : X.mg "range" = none) (ha : DAs X [a, b] da) (hs : starEach [a, b] X.env = [(false, eval a X.env), (false, eval b X.env)] := by rfl) (hs2 : starEach [b] X.env = [(false, eval b X.env)] := by rfl) :
    DIt X tg (.Call (.Name "range" p) [a, b] [] pos) (diRng2 da) := by
  obtain ⟨⟨te, h1, h2⟩⟩ := ha
  refine ⟨_, pi_range2 hg hm h1 hs hs2, fun α ρ S σ H Q R so ro q k => ?_⟩
  refine h2 α ρ S σ H _ _ so ro q fun vs H1 α1 ds S1 t1 so1 r1 q1 => ?_
  obtain ⟨d, e, v, w, rfl, rfl, r2, r3, q2⟩ := on2.rp r1 q1
  obtain ⟨i, rfl, rfl, q2⟩ := onInt.rp r2 q2
  obtain ⟨j, rfl, rfl, b1, q3⟩ := onInt.rp r3 q2
  exact ⟨i, j, rfl, b1, rng_key t1 so1 q3 k⟩
end
end DL

/-! DL, 5: for, list comprehensions, calls of defs. -/
namespace DL
open PySem PySem.Spec PyProof.Rows L2

section
variable {X : Cx} {e a b c : Expr} {es : List Expr} {st : Stmt} {rest body : List Stmt} {pos : Pos} {t ta tb : DT} {tc td : DTt} {u v : DS}
def forL0 (g : DG) (tb : DS) (E : DEnds) : List D → Rho → Store → Prop
  | [], ρ, S => E.nx ρ S
  | x :: r, ρ, S => g x ρ S fun ρ1 S1 => tb { E with nx := forL0 g tb E r, ct := forL0 g tb E r, bk := E.nx } ρ1 S1
@[irreducible] def forL (g : DG) (tb : DS) (E : DEnds) : List D → Rho → Store → Prop := forL0 g tb E
def sFor (di : DI) (g : DG) (tb : DS) : DS := fun E ρ S => di ρ S fun items S1 => forL g tb E items ρ S1
theorem forL_nil {g : DG} {tb : DS} {E : DEnds} {ρ : Rho} {S : Store} : forL g tb E [] ρ S = E.nx ρ S := by unfold forL; rfl
theorem forL_cons {g : DG} {tb : DS} {E : DEnds} {x : D} {r : List D} {ρ : Rho} {S : Store} : forL g tb E (x :: r) ρ S = g x ρ S fun ρ1 S1 => tb { E with nx := forL g tb E r, ct := forL g tb E r, bk := E.nx } ρ1 S1 := by unfold forL; rfl
theorem drop_of_get {α : Type} {l : List α} {i : Nat} (h : i < l.length) : ∃ x, l[i]? = some x ∧ l.drop i = x :: l.drop (i + 1) :=
  ⟨l[i], List.getElem?_eq_getElem h, List.drop_eq_getElem_cons h⟩
theorem ds_for {iter tg : Expr} {di : DI} {ws : List Nat} {g : DG} (hp : PassesOwn (model X.prog X.w) X.A X.env X.xe) (hc : X.calm = true) (hi : DIt X tg iter di) (hg : DGt X tg ws g) (hb : DSs X body u)
    (hs : ∀ x, foldedSetIterable iter X.env x = pure x := by intro _; rfl) : DSt X (.For tg iter body [] pos) (sFor di g u) := by
  obtain ⟨⟨wi, h1, h2⟩⟩ := hi
  obtain ⟨⟨g1, h3, h4⟩⟩ := hg
  obtain ⟨⟨ts, h5, h6⟩⟩ := hb
  refine ⟨_, ps_for hp hc h1 h3 h5 hs, fun α ρ S σ H E F so ro q k => ?_⟩
  refine h2 α ρ S σ H _ _ so ro q fun J H1 α1 ds S1 t1 so1 bd q1 hgo hstop hyld => ?_
  refine ⟨fun i m σ H => m = ds.length - i ∧ i ≤ ds.length ∧ ∃ α ρ S, Stp α1 H1 α H ∧ StoreOk X.K α H S ∧ RhoOk X.K α H ρ σ ∧ forL g u E (ds.drop i) ρ S, ⟨ds.length, by simp, Nat.zero_le _, α1, ρ, S1, Stp.refl _ _, so1, ro.stp t1, q1⟩, ?_⟩
  rintro i m σ2 H2 ⟨rfl, hi, α2, ρ2, S2, t2, so2, ro2, q2⟩
  by_cases hlt : i < ds.length
  · obtain ⟨d, hd, hdrop⟩ := drop_of_get hlt
    rw [hdrop, forL_cons] at q2
    refine Or.inr ⟨hgo i α2 H2 hlt t2, fun σ' H' => ∃ α ρ S, Stp α1 H1 α H' ∧ StoreOk X.K α H' S ∧ RhoOk X.K α H' ρ σ' ∧ forL g u E (ds.drop (i + 1)) ρ S, ?_, ?_⟩
    · rintro σ' H' ⟨α', ρ', S', z⟩
      exact ⟨ds.length - (i + 1), by omega, rfl, hlt, α', ρ', S', z⟩
    · intro x H3 hy
      obtain ⟨α3, t3, so3, r3⟩ := hyld i α2 H2 x H3 d hd t2 ⟨_, so2⟩ hy
      have t13 := t2.trans t3
      refine h4 α3 ρ2 S2 σ2 H3 x d _ _ (so3 S2 so2) (ro2.stp t3) r3 q2 fun σ4 H4 α4 ρ4 S4 _ t4 so4 ro4 q4 => ?_
      refine h6 α4 ρ4 S4 σ4 H4 _ _ so4 ro4 q4 ⟨?_, (k.stp (t1.trans (t13.trans t4))).rt, (k.stp (t1.trans (t13.trans t4))).nx, ?_⟩
      · intro σ5 H5 α5 ρ5 S5 t5 so5 ro5 q5
        exact ⟨α5, ρ5, S5, (t13.trans t4).trans t5, so5, ro5, q5⟩
      · intro σ5 H5 α5 ρ5 S5 t5 so5 ro5 q5
        exact ⟨α5, ρ5, S5, (t13.trans t4).trans t5, so5, ro5, q5⟩
  · have e : i = ds.length := by omega
    subst e
    rw [List.drop_length, forL_nil] at q2
    exact Or.inl ⟨hstop α2 H2 t2, k.nx σ2 H2 α2 ρ2 S2 (t1.trans t2) so2 ro2 q2⟩
/-- the loop by what holds behind i items -/
theorem forL_inv {g : DG} {tb : DS} {E : DEnds} (P : Nat → Rho → Store → Prop) : ∀ (items : List D) (i : Nat) (ρ : Rho) (S : Store), P i ρ S →
    (∀ j x ρ S, items[j]? = some x → P (i + j) ρ S → ∀ N : Rho → Store → Prop, (∀ ρ' S', P (i + j + 1) ρ' S' → N ρ' S') → g x ρ S fun ρ1 S1 => tb { E with nx := N, ct := N, bk := E.nx } ρ1 S1) →
    (∀ ρ S, P (i + items.length) ρ S → E.nx ρ S) → forL g tb E items ρ S
  | [], i, ρ, S, h0, _, hd => by rw [forL_nil]; exact hd ρ S h0
  | x :: r, i, ρ, S, h0, hs, hd => by
    rw [forL_cons]
    refine hs 0 x ρ S rfl h0 _ fun ρ' S' h1 => ?_
    refine forL_inv P r (i + 1) ρ' S' h1 (fun j y ρ S hj hp N hN => ?_) fun ρ S hp => hd ρ S ?_
    · have e : i + 1 + j = i + (j + 1) := by omega
      rw [e] at hp hN
      exact hs (j + 1) y ρ S (by simpa using hj) hp N hN
    · have e : i + 1 + r.length = i + (x :: r).length := by rw [List.length_cons]; omega
      rw [e] at hp
      exact hp

/-! ### list comprehensions -/
def wipeR (ρ : Rho) : List Nat → Rho
  | [] => ρ
  | v :: vs => clrR (wipeR ρ vs) v
where clrR : Rho → Nat → Rho
  | [], _ => []
  | _ :: r, 0 => none :: r
  | x :: r, n + 1 => x :: clrR r n
theorem clr_ok {K : PySem.W.Frag} {α : Locs} {H : Hp} : ∀ {ρ : Rho} {σ : L2.St} (i : Nat), RhoOk K α H ρ σ → RhoOk K α H (wipeR.clrR ρ i) (σ.set i none)
  | [], σ, i, h => by
    have h : σ = [] := h
    subst h; rfl
  | none :: ρ, σ, 0, ⟨x, u, e1, h⟩ => by
    subst e1
    exact ⟨none, u, rfl, h⟩
  | some d :: ρ, σ, 0, ⟨x, u, e1, _, h⟩ => by
    subst e1
    exact ⟨none, u, rfl, h⟩
  | none :: ρ, σ, i + 1, ⟨x, u, e1, h⟩ => by
    subst e1
    exact ⟨x, u.set i none, rfl, clr_ok i h⟩
  | some d :: ρ, σ, i + 1, ⟨x, u, e1, h1, h⟩ => by
    subst e1
    exact ⟨x, u.set i none, rfl, h1, clr_ok i h⟩
theorem wipe_ok {K : PySem.W.Frag} {α : Locs} {H : Hp} {ρ : Rho} {σ : L2.St} (h : RhoOk K α H ρ σ) : ∀ vs : List Nat, RhoOk K α H (wipeR ρ vs) (wipe σ vs)
  | [] => h
  | v :: vs => clr_ok v (wipe_ok h vs)
theorem wipe_get {σ : L2.St} {j : Nat} : ∀ {vs : List Nat}, (wipe σ vs)[j]? = if j ∈ vs then (if j < σ.length then some none else none) else σ[j]?
  | [] => by simp [wipe]
  | v :: vs => by
    unfold wipe
    rw [List.getElem?_set]
    by_cases e : v = j
    · subst e
      rw [if_pos rfl, wipe_length, if_pos List.mem_cons_self]
    · rw [if_neg e, wipe_get (vs := vs)]
      have : j ∈ v :: vs ↔ j ∈ vs := by
        rw [List.mem_cons]
        exact ⟨fun h => h.resolve_left fun z => e z.symm, Or.inr⟩
      by_cases h : j ∈ vs
      · rw [if_pos h, if_pos (this.mpr h)]
      · rw [if_neg h, if_neg fun z => h (this.mp z)]
theorem wipe_same {σ σ' : L2.St} {ws vs : List Nat} (h : SameBut ws (wipe σ vs) σ') (sub : ∀ i ∈ ws, i ∈ vs) : wipe σ' vs = wipe σ vs := by
  have hl : σ'.length = σ.length := h.1.trans (wipe_length σ vs)
  apply List.ext_getElem?
  intro j
  rw [wipe_get, wipe_get, hl]
  by_cases hj : j ∈ vs
  · rw [if_pos hj, if_pos hj]
  · rw [if_neg hj, if_neg hj, h.2 j (fun z => hj (sub j z)), wipe_get, if_neg hj]
/-- one item: kept with its element, or left out -/
def elemR (g : DG) (tt : DTt) (te : DT) (ρ : Rho) (x : D) (S : Store) (k : Option D → Store → Prop) : Prop :=
  g x ρ S fun ρ2 S2 => tt ρ2 S2 fun b S3 => (b = true → te ρ2 S3 fun y S4 => k (some y) S4) ∧ (b = false → k none S3)
def compL0 (n : Nat) (g : DG) (tt : DTt) (te : DT) (ρ : Rho) : List D → Store → (Store → Prop) → Prop
  | [], S, Q => Q S
  | x :: r, S, Q => elemR g tt te ρ x S fun o S4 => match o with
    | some y => ∃ acc, S4[n]? = some (.lst acc) ∧ acc.length < sizeLine ∧ compL0 n g tt te ρ r (S4.set n (.lst (acc ++ [y]))) Q
    | none => compL0 n g tt te ρ r S4 Q
@[irreducible] def compL (n : Nat) (g : DG) (tt : DTt) (te : DT) (ρ : Rho) : List D → Store → (Store → Prop) → Prop := compL0 n g tt te ρ
theorem compL_nil {n : Nat} {g : DG} {tt : DTt} {te : DT} {ρ : Rho} {S : Store} {Q : Store → Prop} : compL n g tt te ρ [] S Q = Q S := by unfold compL; rfl
theorem compL_cons {n : Nat} {g : DG} {tt : DTt} {te : DT} {ρ : Rho} {x : D} {r : List D} {S : Store} {Q : Store → Prop} : compL n g tt te ρ (x :: r) S Q = elemR g tt te ρ x S fun o S4 => match o with
    | some y => ∃ acc, S4[n]? = some (.lst acc) ∧ acc.length < sizeLine ∧ compL n g tt te ρ r (S4.set n (.lst (acc ++ [y]))) Q
    | none => compL n g tt te ρ r S4 Q := by
  unfold compL
  rfl
def dComp (di : DI) (g : DG) (tt : DTt) (te : DT) (vs : List Nat) : DT := fun ρ S Q => di ρ S fun items S1 => compL S1.length g tt te (wipeR ρ vs) items (S1 ++ [.lst []]) fun S2 => Q (.loc S1.length) S2
structure DTsts (X : Cx) (ifs : List Expr) (t : DTt) : Prop where
  ex : ∃ tt, PTs X ifs tt ∧ LiftT X.K tt t
def dYes : DTt := fun _ S Q => Q true S
theorem lift_comp {K : PySem.W.Frag} {wi : TI} {di : DI} {g : TG} {gd : DG} {tt : TT} {td : DTt} {te : TE} {t : DT} {ws vs : List Nat} (h2 : LiftI K wi di) (h4 : LiftG K ws g gd) (h6 : LiftT K tt td) (h8 : LiftE K te t) (sub : ∀ i ∈ ws, i ∈ vs) :
    LiftE K (tLc wi g tt te vs) (dComp di gd td t vs) := fun α ρ S σ H Q Q' so ro q k => by
  refine h2 α ρ S σ H _ _ so ro q fun J H1 α1 ds S1 t1 so1 bd q1 hgo hstop hyld => ?_
  intro DD hD
  have ta := Stp.push (α := α1) (o := HO.lst []) hD
  have soa := so1.push (o := .lst []) (ob := .lst []) hD ⟨[], upd_same, rfl⟩
  have hlen : α1.length = S1.length := so1.len
  have hloc : (α1 ++ [some DD])[S1.length]? = some (some DD) := by rw [← hlen]; simp
  refine ⟨fun i m H => m = ds.length - i ∧ i ≤ ds.length ∧ ∃ α S, Stp (α1 ++ [some DD]) (upd H1 DD (.lst [])) α H ∧ StoreOk K α H S ∧ compL S1.length gd td t (wipeR ρ vs) (ds.drop i) S (fun S2 => Q (.loc S1.length) S2), ⟨ds.length, by simp, Nat.zero_le _, _, _, Stp.refl _ _, soa, q1⟩, ?_⟩
  rintro i m H2 ⟨rfl, hi, α2, S2, t2, so2, q2⟩
  have t12 := (t1.trans ta).trans t2
  by_cases hlt : i < ds.length
  · obtain ⟨d, hd, hdrop⟩ := drop_of_get hlt
    rw [hdrop, compL_cons] at q2
    refine Or.inr ⟨hgo i α2 H2 hlt (ta.trans t2), fun H' => ∃ α S, Stp (α1 ++ [some DD]) (upd H1 DD (.lst [])) α H' ∧ StoreOk K α H' S ∧ compL S1.length gd td t (wipeR ρ vs) (ds.drop (i + 1)) S (fun S2 => Q (.loc S1.length) S2), ?_, ?_⟩
    · rintro H' ⟨α', S', z⟩
      exact ⟨ds.length - (i + 1), by omega, rfl, hlt, α', S', z⟩
    · intro x H3 hy
      obtain ⟨α3, t3, so3, r3⟩ := hyld i α2 H2 x H3 d hd (ta.trans t2) ⟨_, so2⟩ hy
      refine h4 α3 (wipeR ρ vs) S2 (wipe σ vs) H3 x d _ _ (so3 S2 so2) (wipe_ok (ro.stp (t12.trans t3)) vs) r3 q2 fun σ4 H4 α4 ρ4 S4 sb t4 so4 ro4 q4 => ⟨wipe_same sb sub, ?_⟩
      refine h6 α4 ρ4 S4 σ4 H4 _ _ so4 ro4 q4 fun bb H5 α5 S5 t5 so5 q5 => ?_
      have t25 := ((t2.trans t3).trans t4).trans t5
      cases bb with
      | true =>
        rw [if_pos rfl]
        refine h8 α5 ρ4 S5 σ4 H5 _ _ so5 (ro4.stp t5) (q5.1 rfl) fun y H6 α6 yd S6 t6 so6 r6 ⟨acc, hacc, hz, q6⟩ => ?_
        have hl6 : α6[S1.length]? = some (some DD) := (t25.trans t6).pre _ _ hloc
        obtain ⟨o, u, e1, e2, e3⟩ := so6.live hl6
        rw [hacc] at e1
        cases e1
        obtain ⟨xs, e4, e5⟩ := e2
        have tm := Stp.mut (u := HO.lst (xs ++ [y])) hl6 e4
        refine ⟨xs, e4, by rw [e5.len]; exact hz, α6, _, (t25.trans t6).trans tm, so6.set (ob := .lst (acc ++ [yd])) hl6 e4 ⟨_, upd_same, RpL.stp tm _ _ (RpL.append e5 (RpL.one r6))⟩, q6⟩
      | false =>
        rw [if_neg Bool.false_ne_true]
        exact ⟨α5, S5, t25, so5, q5.2 rfl⟩
  · have e : i = ds.length := by omega
    subst e
    rw [List.drop_length, compL_nil] at q2
    exact Or.inl ⟨hstop α2 H2 (ta.trans t2), k _ H2 α2 (.loc S1.length) S2 t12 so2 ⟨DD, rfl, t2.pre _ _ hloc⟩ q2⟩
theorem dts_nil : DTsts X [] dYes := ⟨_, pts_nil, fun α ρ S σ H Q Q' so ro q k => k true H α S (Stp.refl _ _) so q⟩
theorem dts_one (h : DTst X c tc) : DTsts X [c] tc := by
  obtain ⟨⟨tt, h1, h2⟩⟩ := h
  exact ⟨_, pts_one h1, h2⟩

/-! the one reading of a rule by data -/
def canonE (K : PySem.W.Frag) (t : DT) : TE := fun σ H Q' => ∃ α ρ S Q, StoreOk K α H S ∧ RhoOk K α H ρ σ ∧ t ρ S Q ∧ KE K α H Q Q'
theorem lift_canon {K : PySem.W.Frag} {t : DT} : LiftE K (canonE K t) t := fun α ρ S σ H Q Q' so ro q k => ⟨α, ρ, S, Q, so, ro, q, k⟩
theorem DE.pe (h : DE X e t) : PE X e (canonE X.K t) := by
  obtain ⟨⟨te, h1, h2⟩⟩ := h
  exact ⟨fun pins s σ H Q I ⟨α, ρ, S, Qd, so, ro, q, k⟩ => h1.run pins s σ H Q I (h2 α ρ S σ H Qd Q so ro q k)⟩
def canonT (K : PySem.W.Frag) (t : DTt) : TT := fun σ H Q' => ∃ α ρ S Q, StoreOk K α H S ∧ RhoOk K α H ρ σ ∧ t ρ S Q ∧ ∀ b H' α' S', Stp α H α' H' → StoreOk K α' H' S' → Q b S' → Q' b H'
theorem lift_canonT {K : PySem.W.Frag} {t : DTt} : LiftT K (canonT K t) t := fun α ρ S σ H Q Q' so ro q k => ⟨α, ρ, S, Q, so, ro, q, k⟩
theorem DTsts.pts {ifs : List Expr} (h : DTsts X ifs tc) : PTs X ifs (canonT X.K tc) := by
  obtain ⟨⟨te, h1, h2⟩⟩ := h
  exact ⟨fun pins s σ H Q I ⟨α, ρ, S, Qd, so, ro, q, k⟩ => h1.run pins s σ H Q I (h2 α ρ S σ H Qd Q so ro q k)⟩
def canonG (K : PySem.W.Frag) (ws : List Nat) (t : DG) : TG := fun v σ H Q' => ∃ α ρ S d Q, StoreOk K α H S ∧ RhoOk K α H ρ σ ∧ Rp K α H v d ∧ t d ρ S Q ∧
  ∀ σ' H' α' ρ' S', SameBut ws σ σ' → Stp α H α' H' → StoreOk K α' H' S' → RhoOk K α' H' ρ' σ' → Q ρ' S' → Q' σ' H'
theorem lift_canonG {K : PySem.W.Frag} {ws : List Nat} {t : DG} : LiftG K ws (canonG K ws t) t := fun α ρ S σ H v d Q Q' so ro r q k => ⟨α, ρ, S, d, Q, so, ro, r, q, k⟩
theorem DGt.pg {ws : List Nat} {g : DG} (h : DGt X e ws g) : PG X e (canonG X.K ws g) := by
  obtain ⟨⟨te, h1, h2⟩⟩ := h
  exact ⟨fun pins s σ H v u Q I rv ⟨α, ρ, S, d, Qd, so, ro, r, q, k⟩ => h1.run pins s σ H v u Q I rv (h2 α ρ S σ H v d Qd Q so ro r q k)⟩
theorem de_lc {elt tg iter : Expr} {ifs : List Expr} {scope : Scope} {own : List (Str × Nat)} {di : DI} {ws : List Nat} {g : DG} {tt : DTt} (hc : X.calm = true) (hN : X.N.Nodup) (hi : DIt X tg iter di) (ok : BlkOk X.N X.env.scope scope own)
    (hg : ∀ (s : Shared) (H : Hp) (C : Addr) (cl : List (Str × Addr)) (fp : List Addr), DGt (X.blk s H scope (compEnvC scope cl C X.env) fp) tg ws g) (ht : ∀ (s : Shared) (H : Hp) (C : Addr) (cl : List (Str × Addr)) (fp : List Addr), DTsts (X.blk s H scope (compEnvC scope cl C X.env) fp) ifs tt)
    (he : ∀ (s : Shared) (H : Hp) (C : Addr) (cl : List (Str × Addr)) (fp : List Addr), DE (X.blk s H scope (compEnvC scope cl C X.env) fp) elt t) (sub : ∀ i ∈ ws, i ∈ own.map (·.2) := by decide) (hs : ∀ x, foldedSetIterable iter X.env x = pure x := by intro _; rfl) :
    DE X (.ListComp elt [⟨tg, iter, ifs, 0⟩] scope pos) (dComp di g tt t (own.map (·.2))) := by
  obtain ⟨⟨wi, h1, h2⟩⟩ := hi
  exact ⟨_, pe_lc hc hN h1 ok (fun s H C cl fp => (hg s H C cl fp).pg) (fun s H C cl fp => (ht s H C cl fp).pts) (fun s H C cl fp => (he s H C cl fp).pe) hs, lift_comp h2 lift_canonG lift_canonT lift_canon sub⟩
theorem ds_setLc {i : Nat} {y : Str} {py : Pos} {elt tg iter : Expr} {ifs : List Expr} {scope : Scope} {own : List (Str × Nat)} {spos : Pos} {di : DI} {ws : List Nat} {g : DG} {tt : DTt} (hc : X.calm = true) (hN : X.N.Nodup) (hy : X.N[i]? = some y) (hyl : X.env.scope.names.lookup y = some .local)
    (hsw : swapsWith (.ListComp elt [⟨tg, iter, ifs, 0⟩] scope pos) (some (.Name y py)) spos.line X.env = pure true) (hi : DIt X tg iter di) (ok : BlkOk X.N X.env.scope scope own)
    (hg : ∀ (s : Shared) (H : Hp) (C : Addr) (cl : List (Str × Addr)) (fp : List Addr), DGt (X.blk s H scope (compEnvC scope cl C X.env) fp) tg ws g) (ht : ∀ (s : Shared) (H : Hp) (C : Addr) (cl : List (Str × Addr)) (fp : List Addr), DTsts (X.blk s H scope (compEnvC scope cl C X.env) fp) ifs tt)
    (he : ∀ (s : Shared) (H : Hp) (C : Addr) (cl : List (Str × Addr)) (fp : List Addr), DE (X.blk s H scope (compEnvC scope cl C X.env) fp) elt t) (sub : ∀ i ∈ ws, i ∈ own.map (·.2) := by decide) (hs : ∀ x, foldedSetIterable iter X.env x = pure x := by intro _; rfl) :
    DSt X (.Assign [.Name y py] (.ListComp elt [⟨tg, iter, ifs, 0⟩] scope pos) spos) (sAsg (dComp di g tt t (own.map (·.2))) (gdName i)) := by
  obtain ⟨⟨wi, h1, h2⟩⟩ := hi
  refine ⟨_, ps_setLc hc hN hy hyl hsw h1 ok (fun s H C cl fp => (hg s H C cl fp).pg) (fun s H C cl fp => (ht s H C cl fp).pts) (fun s H C cl fp => (he s H C cl fp).pe) hs, lift_asg (ws := [i]) (lift_comp h2 lift_canonG lift_canonT lift_canon sub) ?_⟩
  exact fun α ρ S σ H v d Q Q' so ro r q k => k _ H α _ S ⟨List.length_set .., fun j hj => List.getElem?_set_ne fun e => hj (by rw [e]; exact List.mem_singleton.mpr rfl)⟩ (Stp.refl _ _) so (RhoOk.set i r ro) q
/-- .. its list let go as a tree -/
theorem ds_setLcG {i : Nat} {y : Str} {py : Pos} {elt tg iter : Expr} {ifs : List Expr} {scope : Scope} {own : List (Str × Nat)} {spos : Pos} {di : DI} {ws : List Nat} {g : DG} {tt : DTt} (hc : X.calm = true) (hN : X.N.Nodup) (hy : X.N[i]? = some y) (hyl : X.env.scope.names.lookup y = some .local)
    (hsw : swapsWith (.ListComp elt [⟨tg, iter, ifs, 0⟩] scope pos) (some (.Name y py)) spos.line X.env = pure true) (hi : DIt X tg iter di) (ok : BlkOk X.N X.env.scope scope own)
    (hg : ∀ (s : Shared) (H : Hp) (C : Addr) (cl : List (Str × Addr)) (fp : List Addr), DGt (X.blk s H scope (compEnvC scope cl C X.env) fp) tg ws g) (ht : ∀ (s : Shared) (H : Hp) (C : Addr) (cl : List (Str × Addr)) (fp : List Addr), DTsts (X.blk s H scope (compEnvC scope cl C X.env) fp) ifs tt)
    (he : ∀ (s : Shared) (H : Hp) (C : Addr) (cl : List (Str × Addr)) (fp : List Addr), DE (X.blk s H scope (compEnvC scope cl C X.env) fp) elt t) (sub : ∀ i ∈ ws, i ∈ own.map (·.2) := by decide) (hs : ∀ x, foldedSetIterable iter X.env x = pure x := by intro _; rfl) :
    DSt X (.Assign [.Name y py] (.ListComp elt [⟨tg, iter, ifs, 0⟩] scope pos) spos) (sAsg (dGc (dComp di g tt t (own.map (·.2)))) (gdName i)) := by
  obtain ⟨⟨wi, h1, h2⟩⟩ := hi
  refine ⟨_, ps_setLc hc hN hy hyl hsw h1 ok (fun s H C cl fp => (hg s H C cl fp).pg) (fun s H C cl fp => (ht s H C cl fp).pts) (fun s H C cl fp => (he s H C cl fp).pe) hs, lift_asg (ws := [i]) (lift_gc (lift_comp h2 lift_canonG lift_canonT lift_canon sub)) ?_⟩
  exact fun α ρ S σ H v d Q Q' so ro r q k => k _ H α _ S ⟨List.length_set .., fun j hj => List.getElem?_set_ne fun e => hj (by rw [e]; exact List.mem_singleton.mpr rfl)⟩ (Stp.refl _ _) so (RhoOk.set i r ro) q
end

/-! ### a comprehension whose items are reckoned without a change of the store -/
theorem getElem_push (S : Store) (o : Ob) : (S ++ [o])[S.length]? = some o := by
  rw [List.getElem?_append_right (Nat.le_refl _)]; simp
theorem set_push (S : Store) (o u : Ob) : (S ++ [o]).set S.length u = S ++ [u] := by
  rw [List.set_append_right _ _ (Nat.le_refl _)]; simp
theorem take_push (S : Store) (ex : Store) : (S ++ ex).take S.length = S := by simp
theorem compL_pure {g : DG} {tt : DTt} {te : DT} {ρ : Rho} {S : Store} {Q : Store → Prop} (f : D → Option D) : ∀ (items acc : List D), (∀ x ∈ items, ∀ acc k, k (f x) (S ++ [.lst acc]) → elemR g tt te ρ x (S ++ [.lst acc]) k) →
    acc.length + items.length ≤ sizeLine → Q (S ++ [.lst (acc ++ items.filterMap f)]) → compL S.length g tt te ρ items (S ++ [.lst acc]) Q
  | [], acc, _, _, q => by
    rw [List.filterMap_nil, List.append_nil] at q
    rw [compL_nil]; exact q
  | x :: r, acc, h, hz, q => by
    rw [List.length_cons] at hz
    rw [compL_cons]
    refine h x List.mem_cons_self acc _ ?_
    cases e : f x with
    | none =>
      rw [List.filterMap_cons_none e] at q
      exact compL_pure f r acc (fun y hy => h y (List.mem_cons_of_mem _ hy)) (by omega) q
    | some y =>
      rw [List.filterMap_cons_some e] at q
      refine ⟨acc, getElem_push _ _, by omega, ?_⟩
      rw [set_push]
      refine compL_pure f r (acc ++ [y]) (fun y hy => h y (List.mem_cons_of_mem _ hy)) (by rw [List.length_append]; simp; omega) ?_
      rw [List.append_assoc]; exact q
theorem comp_gc {di : DI} {g : DG} {tt : DTt} {te : DT} {vs : List Nat} {ρ : Rho} {S : Store} {Q : DK} (items : List D) (f : D → Option D) (hi : ∀ P : List D → Store → Prop, P items S → di ρ S P)
    (h : ∀ x ∈ items, ∀ acc k, k (f x) (S ++ [.lst acc]) → elemR g tt te (wipeR ρ vs) x (S ++ [.lst acc]) k) (hz : items.length ≤ sizeLine) (hb : bndL S.length (items.filterMap f)) (q : Q (.lst (items.filterMap f)) S) : dGc (dComp di g tt te vs) ρ S Q := by
  refine hi _ ?_
  refine compL_pure f items [] h (by simpa using hz) ?_
  rw [List.nil_append]
  unfold Rt
  refine Or.inl ⟨CutOk.same, Or.inl ⟨_, Frz.lst (Nat.le_refl _) (getElem_push _ _) hb, ?_⟩⟩
  rw [take_push]; exact q
end DL

/-! DL, 6: == of data, is None, in, slices, + of sequences, attributes, calls of defs and methods, the def's own rule. -/
namespace DL
open PySem PySem.Spec PyProof.Rows L2

/-! ### data -/
mutual
def py : D → PyData
  | .non => .none | .bl b => .bool b | .int i => .int i | .str s => .str s
  | .tup ds => .tuple (pyL ds) | .lst ds => .list (pyL ds) | .scr ns => .list (ns.map PyData.int)
  | .dk _ => .dict [] | .dt _ => .dict [] | .obj _ _ => .dict [] | .loc _ => .dict [] | .cst _ => .dict [] | .ty _ => .dict []
def pyL : List D → List PyData
  | [] => []
  | d :: ds => py d :: pyL ds
end
/-- data through and through, at most n deep, of proper texts -/
def okD : Nat → D → Bool
  | _, .non => true | _, .bl _ => true | _, .int _ => true | _, .str s => PyData.strOk s
  | n + 1, .tup ds => ds.all (okD n) | n + 1, .lst ds => ds.all (okD n)
  | _, _ => false
theorem okD_lay : ∀ (n : Nat) (d : D), okD n d = true → (py d).canLay0 = true ∧ (py d).depth ≤ n
  | n, .non, _ => ⟨rfl, Nat.zero_le _⟩
  | n, .bl _, _ => ⟨rfl, Nat.zero_le _⟩
  | n, .int _, _ => ⟨rfl, Nat.zero_le _⟩
  | 0, .str s, h => ⟨h, Nat.zero_le _⟩
  | n + 1, .str s, h => ⟨h, Nat.zero_le _⟩
  | 0, .tup ds, h => by simp [okD] at h
  | 0, .lst ds, h => by simp [okD] at h
  | n + 1, .tup ds, h => by
    have h : ds.all (okD n) = true := h
    have key : ∀ ds : List D, ds.all (okD n) = true → PyData.canLayAll0 (pyL ds) = true ∧ PyData.depthAll (pyL ds) ≤ n := fun ds => by
      induction ds with
      | nil => intro _; exact ⟨rfl, Nat.zero_le _⟩
      | cons d ds ih =>
        intro h
        rw [List.all_cons, Bool.and_eq_true] at h
        obtain ⟨a1, a2⟩ := okD_lay n d h.1
        obtain ⟨b1, b2⟩ := ih h.2
        refine ⟨?_, ?_⟩
        · show (PyData.canLay0 (py d) && PyData.canLayAll0 (pyL ds)) = true
          rw [a1, b1]; rfl
        · show max (PyData.depth (py d)) (PyData.depthAll (pyL ds)) ≤ n
          omega
    obtain ⟨a, b⟩ := key ds h
    exact ⟨a, Nat.succ_le_succ b⟩
  | n + 1, .lst ds, h => by
    have h : ds.all (okD n) = true := h
    have key : ∀ ds : List D, ds.all (okD n) = true → PyData.canLayAll0 (pyL ds) = true ∧ PyData.depthAll (pyL ds) ≤ n := fun ds => by
      induction ds with
      | nil => intro _; exact ⟨rfl, Nat.zero_le _⟩
      | cons d ds ih =>
        intro h
        rw [List.all_cons, Bool.and_eq_true] at h
        obtain ⟨a1, a2⟩ := okD_lay n d h.1
        obtain ⟨b1, b2⟩ := ih h.2
        refine ⟨?_, ?_⟩
        · show (PyData.canLay0 (py d) && PyData.canLayAll0 (pyL ds)) = true
          rw [a1, b1]; rfl
        · show max (PyData.depth (py d)) (PyData.depthAll (pyL ds)) ≤ n
          omega
    obtain ⟨a, b⟩ := key ds h
    exact ⟨a, Nat.succ_le_succ b⟩
  | 0, .scr _, h => by simp [okD] at h
  | n + 1, .scr _, h => by simp [okD] at h
  | 0, .dk _, h => by simp [okD] at h
  | n + 1, .dk _, h => by simp [okD] at h
  | 0, .dt _, h => by simp [okD] at h
  | n + 1, .dt _, h => by simp [okD] at h
  | 0, .obj _ _, h => by simp [okD] at h
  | n + 1, .obj _ _, h => by simp [okD] at h
  | 0, .loc _, h => by simp [okD] at h
  | n + 1, .loc _, h => by simp [okD] at h
  | 0, .cst _, h => by simp [okD] at h
  | n + 1, .cst _, h => by simp [okD] at h
  | 0, .ty _, h => by simp [okD] at h
  | n + 1, .ty _, h => by simp [okD] at h
theorem okD_shaped {d : D} (h : okD 12 d = true) : SeqAt.shaped (py d) = true := by
  obtain ⟨a, b⟩ := okD_lay 12 d h
  show ((py d).canLay0 && decide ((py d).depth ≤ 64)) = true
  rw [a, decide_eq_true (show (py d).depth ≤ 64 by omega)]; rfl
section
variable {K : PySem.W.Frag} {α : Locs} {H : Hp}
theorem okD_dp : ∀ (n : Nat) (d : D) (v : V), okD n d = true → Rp K α H v d → Dp K H v (py d)
  | n, .non, v, _, r => by cases (show v = .non from r); exact Dp.non
  | n, .bl _, v, _, r => by cases (show v = .bl _ from r); exact Dp.bl _
  | n, .int _, v, _, r => by cases (show v = .int _ from r); exact Dp.int _
  | n, .str s, v, _, r => by cases (show v = .str _ from r); exact Dp.str _
  | 0, .tup ds, v, h, _ => by simp [okD] at h
  | 0, .lst ds, v, h, _ => by simp [okD] at h
  | n + 1, .tup ds, v, h, ⟨a, xs, e, hs, hr⟩ => by
    have h : ds.all (okD n) = true := h
    have key : ∀ (ds : List D) (xs : List V), ds.all (okD n) = true → RpL K α H xs ds → DpAll K H xs (pyL ds) := fun ds => by
      induction ds with
      | nil => intro xs _ r; cases (show xs = [] from r); exact DpAll.nil
      | cons d ds ih =>
        intro xs h r
        obtain ⟨v, t, e, r1, r2⟩ := r
        subst e
        rw [List.all_cons, Bool.and_eq_true] at h
        exact DpAll.cons (okD_dp n d v h.1 r1) (ih t h.2 r2)
    subst e
    exact Dp.tup hs.sq (key ds xs h hr)
  | n + 1, .lst ds, v, h, ⟨a, xs, e, hs, _, hr⟩ => by
    have h : ds.all (okD n) = true := h
    have key : ∀ (ds : List D) (xs : List V), ds.all (okD n) = true → RpL K α H xs ds → DpAll K H xs (pyL ds) := fun ds => by
      induction ds with
      | nil => intro xs _ r; cases (show xs = [] from r); exact DpAll.nil
      | cons d ds ih =>
        intro xs h r
        obtain ⟨v, t, e, r1, r2⟩ := r
        subst e
        rw [List.all_cons, Bool.and_eq_true] at h
        exact DpAll.cons (okD_dp n d v h.1 r1) (ih t h.2 r2)
    subst e
    exact Dp.lst (SqL.of hs) (key ds xs h hr)
  | 0, .scr _, v, h, _ => by simp [okD] at h
  | n + 1, .scr _, v, h, _ => by simp [okD] at h
  | 0, .dk _, v, h, _ => by simp [okD] at h
  | n + 1, .dk _, v, h, _ => by simp [okD] at h
  | 0, .dt _, v, h, _ => by simp [okD] at h
  | n + 1, .dt _, v, h, _ => by simp [okD] at h
  | 0, .obj _ _, v, h, _ => by simp [okD] at h
  | n + 1, .obj _ _, v, h, _ => by simp [okD] at h
  | 0, .loc _, v, h, _ => by simp [okD] at h
  | n + 1, .loc _, v, h, _ => by simp [okD] at h
  | 0, .cst _, v, h, _ => by simp [okD] at h
  | n + 1, .cst _, v, h, _ => by simp [okD] at h
  | 0, .ty _, v, h, _ => by simp [okD] at h
  | n + 1, .ty _, v, h, _ => by simp [okD] at h
/-- a list at a location as a tree -/
def res (S : Store) : D → D
  | .loc l => match S[l]? with
    | some (.lst ds) => .lst ds
    | _ => .loc l
  | d => d
theorem res_dp {S : Store} {d : D} {v : V} (so : StoreOk K α H S) (r : Rp K α H v d) (h : okD 12 (res S d) = true) : Dp K H v (py (res S d)) := by
  cases d with
  | loc l =>
    obtain ⟨a, e, ha⟩ := r
    obtain ⟨o, u, h1, h2, h3⟩ := so.live ha
    have er : res S (.loc l) = match (some o : Option Ob) with | some (.lst ds) => .lst ds | _ => .loc l := by
      show (match S[l]? with | some (.lst ds) => D.lst ds | _ => .loc l) = _
      rw [h1]
    rw [er] at h ⊢
    cases o with
    | lst ds =>
      obtain ⟨xs, h4, h5⟩ := h2
      subst e
      have key : ∀ (ds : List D) (xs : List V), ds.all (okD 11) = true → RpL K α H xs ds → DpAll K H xs (pyL ds) := fun ds => by
        induction ds with
        | nil => intro xs _ r; cases (show xs = [] from r); exact DpAll.nil
        | cons d ds ih =>
          intro xs h r
          obtain ⟨v, t, e, r1, r2⟩ := r
          subst e
          rw [List.all_cons, Bool.and_eq_true] at h
          exact DpAll.cons (okD_dp 11 d v h.1 r1) (ih t h.2 r2)
      exact Dp.lst (SqL.of h4) (key ds xs h h5)
    | _ => simp [okD] at h
  | _ => exact okD_dp 12 _ v h r
end
section
variable {X : Cx}
/-- a list at a location read as a tree -/
def onRes (d : D) (S : Store) (P : D → Prop) : Prop := match d with
  | .loc l => onOpt S[l]? fun o => match o with
    | .lst ds => P (.lst ds)
    | _ => False
  | d => P d
theorem onRes.dp {K : PySem.W.Frag} {α : Locs} {H : Hp} {S : Store} {d : D} {v : V} {P : D → Prop} (so : StoreOk K α H S) (r : Rp K α H v d) (h : onRes d S P) : ∃ d', P d' ∧ (okD 12 d' = true → Dp K H v (py d')) := by
  cases d with
  | loc l =>
    obtain ⟨o, ho, h⟩ : onOpt S[l]? fun o => match o with | .lst ds => P (.lst ds) | _ => False := h
    cases o with
    | lst ds =>
      have e : res S (.loc l) = .lst ds := by
        show (match S[l]? with | some (.lst ds) => D.lst ds | _ => .loc l) = _
        rw [ho]
      exact ⟨.lst ds, h, fun hk => by
        have := res_dp so r (by rw [e]; exact hk)
        rw [e] at this; exact this⟩
    | _ => exact h.elim
  | _ => exact ⟨_, h, fun hk => okD_dp 12 _ v hk r⟩
/-- == of data -/
def rdEq : RD := fun x y S Q => onRes x S fun x' => onRes y S fun y' => okD 12 x' = true ∧ okD 12 y' = true ∧ Q (.bl (PyData.eqv (py x') (py y'))) S
def rdNe : RD := fun x y S Q => onRes x S fun x' => onRes y S fun y' => okD 12 x' = true ∧ okD 12 y' = true ∧ Q (.bl (!PyData.eqv (py x') (py y'))) S
theorem od_eq (hu : X.A.units + 64 < cLine) : OpD X (compareOp .Eq) rdEq := ⟨_, op_eqD hu, fun α S H x y v u Q Q' so rx ry h k => by
  obtain ⟨x', h, dx⟩ := onRes.dp so rx h
  obtain ⟨y', ⟨h1, h2, q⟩, dy⟩ := onRes.dp so ry h
  exact ⟨_, _, dx h1, dy h2, okD_shaped h1, okD_shaped h2, k.bl so q⟩⟩
theorem od_ne (hu : X.A.units + 64 < cLine) : OpD X (compareOp .NotEq) rdNe := ⟨_, op_neD hu, fun α S H x y v u Q Q' so rx ry h k => by
  obtain ⟨x', h, dx⟩ := onRes.dp so rx h
  obtain ⟨y', ⟨h1, h2, q⟩, dy⟩ := onRes.dp so ry h
  exact ⟨_, _, dx h1, dy h2, okD_shaped h1, okD_shaped h2, k.bl so q⟩⟩
/-- == of two scalars: ints, texts -/
def rdEqI : RD := fun x y S Q => match x, y with
  | .int i, .int j => Q (.bl (decide (i = j))) S
  | .str i, .str j => Q (.bl (decide (i = j))) S
  | _, _ => False
def rdNeI : RD := fun x y S Q => match x, y with
  | .int i, .int j => Q (.bl (!decide (i = j))) S
  | .str i, .str j => Q (.bl (!decide (i = j))) S
  | _, _ => False
theorem dec_vint {i j : Int} : decide (V.int i = V.int j) = decide (i = j) := by simp
theorem dec_vstr {i j : Str} : decide (V.str i = V.str j) = decide (i = j) := by simp
theorem od_eqI : OpD X (compareOp .Eq) rdEqI := ⟨_, op_eq, fun α S H x y v u Q Q' so rx ry h k => by
  unfold rdEqI at h
  split at h
  · rename_i i j
    cases (show v = .int i from rx)
    cases (show u = .int j from ry)
    exact ⟨rfl, by rw [dec_vint]; exact k.bl so h⟩
  · rename_i i j
    cases (show v = .str i from rx)
    cases (show u = .str j from ry)
    exact ⟨rfl, by rw [dec_vstr]; exact k.bl so h⟩
  · exact h.elim⟩
theorem od_neI : OpD X (compareOp .NotEq) rdNeI := ⟨_, op_ne, fun α S H x y v u Q Q' so rx ry h k => by
  unfold rdNeI at h
  split at h
  · rename_i i j
    cases (show v = .int i from rx)
    cases (show u = .int j from ry)
    exact ⟨rfl, by rw [dec_vint]; exact k.bl so h⟩
  · rename_i i j
    cases (show v = .str i from rx)
    cases (show u = .str j from ry)
    exact ⟨rfl, by rw [dec_vstr]; exact k.bl so h⟩
  · exact h.elim⟩
/-- is None -/
def isNon : D → Bool
  | .non => true
  | _ => false
theorem isNon_rp {K : PySem.W.Frag} {α : Locs} {H : Hp} {v : V} {d : D} (r : Rp K α H v d) : decide (v = .non) = isNon d := by
  cases d with
  | non => cases (show v = .non from r); rfl
  | bl b => cases (show v = .bl b from r); rfl
  | int b => cases (show v = .int b from r); rfl
  | str b => cases (show v = .str b from r); rfl
  | ty b => cases (show v = .ty b from r); rfl
  | cst b => cases (show v = .ref b from r); rfl
  | tup ds => obtain ⟨a, xs, e, _⟩ := r; subst e; rfl
  | lst ds => obtain ⟨a, xs, e, _⟩ := r; subst e; rfl
  | dk ds => obtain ⟨a, xs, e, _⟩ := r; subst e; rfl
  | dt ds => obtain ⟨a, xs, e, _⟩ := r; subst e; rfl
  | obj C ds => obtain ⟨a, _, xs, e, _⟩ := r; subst e; rfl
  | loc l => obtain ⟨a, e, _⟩ := r; subst e; rfl
  | scr ns => obtain ⟨a, e, _⟩ := r; subst e; rfl
def rdIsN : RD := fun x y S Q => match y with
  | .non => Q (.bl (isNon x)) S
  | _ => False
def rdNotN : RD := fun x y S Q => match y with
  | .non => Q (.bl (!isNon x)) S
  | _ => False
theorem od_isN : OpD X (compareOp .Is) rdIsN := ⟨_, op_isN, fun α S H x y v u Q Q' so rx ry h k => by
  cases y with
  | non => exact ⟨ry, by rw [isNon_rp rx]; exact k.bl so h⟩
  | _ => exact h.elim⟩
theorem od_notN : OpD X (compareOp .IsNot) rdNotN := ⟨_, op_notN, fun α S H x y v u Q Q' so rx ry h k => by
  cases y with
  | non => exact ⟨ry, by rw [isNon_rp rx]; exact k.bl so h⟩
  | _ => exact h.elim⟩
/-- x in a list of data -/
def onLstR (d : D) (S : Store) (P : List D → Prop) : Prop := match d with
  | .lst ds => P ds
  | .loc l => onOpt S[l]? fun o => match o with
    | .lst ds => P ds
    | _ => False
  | _ => False
theorem onLstR.ex {d : D} {S : Store} {P : List D → Prop} (h : onLstR d S P) : ∃ ds, res S d = .lst ds ∧ P ds := by
  cases d with
  | lst ds => exact ⟨ds, rfl, h⟩
  | loc l =>
    obtain ⟨o, ho, h⟩ : onOpt S[l]? fun o => match o with | .lst ds => P ds | _ => False := h
    cases o with
    | lst ds =>
      refine ⟨ds, ?_, h⟩
      show (match S[l]? with | some (.lst ds) => D.lst ds | _ => .loc l) = _
      rw [ho]
    | _ => exact h.elim
  | _ => exact h.elim
theorem pyL_any (d : PyData) : ∀ ds : List D, (pyL ds).any (fun z => PyData.eqv z d) = ds.any fun z => PyData.eqv (py z) d
  | [] => rfl
  | x :: ds => by
    show ((py x).eqv d || (pyL ds).any _) = _
    rw [pyL_any d ds]; rfl
def inD (x : D) (ds : List D) : Bool := ds.any fun z => PyData.eqv (py z) (py x)
def rdIn : RD := fun x y S Q => onLstR y S fun ds => okD 12 x = true ∧ ds.all (okD 11) = true ∧ Q (.bl (inD x ds)) S
def rdNotIn : RD := fun x y S Q => onLstR y S fun ds => okD 12 x = true ∧ ds.all (okD 11) = true ∧ Q (.bl (!inD x ds)) S
theorem od_in (hu : X.A.units + 65 < cLine) : OpD X (compareOp .In) rdIn := ⟨_, op_inD hu, fun α S H x y v u Q Q' so rx ry h k => by
  obtain ⟨ds, e, h1, h2, q⟩ := h.ex
  have hok : okD 12 (res S y) = true := by rw [e]; exact h2
  have dy := res_dp so ry hok
  have sy := okD_shaped hok
  rw [e] at dy sy
  exact ⟨py x, pyL ds, okD_dp 12 x v h1 rx, dy, okD_shaped h1, sy, by rw [pyL_any]; exact k.bl so q⟩⟩
theorem od_notIn (hu : X.A.units + 65 < cLine) : OpD X (compareOp .NotIn) rdNotIn := ⟨_, op_notInD hu, fun α S H x y v u Q Q' so rx ry h k => by
  obtain ⟨ds, e, h1, h2, q⟩ := h.ex
  have hok : okD 12 (res S y) = true := by rw [e]; exact h2
  have dy := res_dp so ry hok
  have sy := okD_shaped hok
  rw [e] at dy sy
  exact ⟨py x, pyL ds, okD_dp 12 x v h1 rx, dy, okD_shaped h1, sy, by rw [pyL_any]; exact k.bl so q⟩⟩
/-- x in a tuple of scalars -/
def flatD : D → Bool
  | .non => true | .bl _ => true | .int _ => true | .str _ => true
  | _ => false
theorem flat_V {K : PySem.W.Frag} {α : Locs} {H : Hp} {v : V} {d : D} (r : Rp K α H v d) (h : flatD d = true) : flatV v = true := by
  cases d with
  | non => cases (show v = .non from r); rfl
  | bl b => cases (show v = .bl b from r); rfl
  | int b => cases (show v = .int b from r); rfl
  | str b => cases (show v = .str b from r); rfl
  | _ => simp [flatD] at h
theorem eqV_py {K : PySem.W.Frag} {α : Locs} {H : Hp} {v w : V} {d e : D} (r : Rp K α H v d) (r' : Rp K α H w e) (h : flatD d = true) (h' : flatD e = true) : eqV v w = PyData.eqv (py d) (py e) := by
  cases d with
  | non => 
    cases (show v = .non from r)
    cases e with
    | non => cases (show w = .non from r'); rfl
    | bl b => cases (show w = .bl b from r'); rfl
    | int b => cases (show w = .int b from r'); rfl
    | str b => cases (show w = .str b from r'); rfl
    | _ => simp [flatD] at h'
  | bl b =>
    cases (show v = .bl b from r)
    cases e with
    | non => cases (show w = .non from r'); rfl
    | bl b => cases (show w = .bl b from r'); rfl
    | int b => cases (show w = .int b from r'); rfl
    | str b => cases (show w = .str b from r'); rfl
    | _ => simp [flatD] at h'
  | int b =>
    cases (show v = .int b from r)
    cases e with
    | non => cases (show w = .non from r'); rfl
    | bl b => cases (show w = .bl b from r'); rfl
    | int b => cases (show w = .int b from r'); rfl
    | str b => cases (show w = .str b from r'); rfl
    | _ => simp [flatD] at h'
  | str b =>
    cases (show v = .str b from r)
    cases e with
    | non => cases (show w = .non from r'); rfl
    | bl b => cases (show w = .bl b from r'); rfl
    | int b => cases (show w = .int b from r'); rfl
    | str b => cases (show w = .str b from r'); rfl
    | _ => simp [flatD] at h'
  | _ => simp [flatD] at h
end
end DL

/-! DL, 7: in a tuple, slices, + of sequences, attributes, methods, calls, the def's own rule. -/
namespace DL
open PySem PySem.Spec PyProof.Rows L2
section
variable {X : Cx}
theorem flatL {K : PySem.W.Frag} {α : Locs} {H : Hp} : ∀ {ds : List D} {xs : List V}, RpL K α H xs ds → ds.all flatD = true → xs.all flatV = true
  | [], xs, r, _ => by cases (show xs = [] from r); rfl
  | d :: ds, xs, ⟨v, t, e, r1, r2⟩, h => by
    subst e
    rw [List.all_cons, Bool.and_eq_true] at h ⊢
    exact ⟨flat_V r1 h.1, flatL r2 h.2⟩
theorem inV_D {K : PySem.W.Frag} {α : Locs} {H : Hp} {v : V} {d : D} (r : Rp K α H v d) (hf : flatD d = true) : ∀ {ds : List D} {xs : List V}, RpL K α H xs ds → ds.all flatD = true → inV v xs = inD d ds
  | [], xs, r', _ => by cases (show xs = [] from r'); rfl
  | e :: ds, xs, ⟨w, t, ee, r1, r2⟩, h => by
    subst ee
    rw [List.all_cons, Bool.and_eq_true] at h
    show (eqV w v || inV v t) = (PyData.eqv (py e) (py d) || inD d ds)
    rw [eqV_py r1 r h.1 hf, inV_D r hf r2 h.2]
/-- x in (..) of scalars -/
def rdInT : RD := fun x y S Q => onSeq y S fun ds => flatD x = true ∧ ds.all flatD = true ∧ Q (.bl (inD x ds)) S
def rdNotInT : RD := fun x y S Q => onSeq y S fun ds => flatD x = true ∧ ds.all flatD = true ∧ Q (.bl (!inD x ds)) S
theorem od_inT : OpD X (compareOp .In) rdInT := ⟨_, op_in_seq, fun α S H x y v u Q Q' so rx ry h k => by
  obtain ⟨a, xs, ds, rfl, hs, hr, h1, h2, q⟩ := onSeq.rp so ry h
  refine ⟨a, xs, rfl, hs, flat_V rx h1, flatL hr h2, ?_⟩
  show Q' (.bl (inV v xs)) H
  rw [inV_D rx h1 hr h2]
  exact k.bl so q⟩
theorem od_notInT : OpD X (compareOp .NotIn) rdNotInT := ⟨_, op_notIn_seq, fun α S H x y v u Q Q' so rx ry h k => by
  obtain ⟨a, xs, ds, rfl, hs, hr, h1, h2, q⟩ := onSeq.rp so ry h
  refine ⟨a, xs, rfl, hs, flat_V rx h1, flatL hr h2, ?_⟩
  show Q' (.bl (!inV v xs)) H
  rw [inV_D rx h1 hr h2]
  exact k.bl so q⟩

/-! ### + of sequences, texts -/
def rdCat : RD := fun x y S Q => match x, y with
  | .tup ds, .tup es => ds.length + es.length ≤ sizeLine ∧ Q (.tup (ds ++ es)) S
  | _, _ => False
theorem RpL.nil_iff {K : PySem.W.Frag} {α : Locs} {H : Hp} {ds : List D} {xs : List V} (r : RpL K α H xs ds) : xs = [] ↔ ds = [] := by
  have h := r.len
  constructor
  · rintro rfl
    exact List.length_eq_zero_iff.mp h.symm
  · rintro rfl
    exact List.length_eq_zero_iff.mp h
theorem od_cat : OpD X (binaryOp .Add) rdCat := ⟨_, op_catA, fun α S H x y v u Q Q' so rx ry h k => by
  unfold rdCat at h
  split at h
  · rename_i ds es
    obtain ⟨a, xs, rfl, hx, rx⟩ := rx
    obtain ⟨b, ys, rfl, hy, ry⟩ := ry
    refine ⟨a, b, xs, ys, rfl, rfl, hx.sq, hy.sq, by rw [rx.len, ry.len]; exact h.1, fun e => ?_, fun _ e => ?_, fun _ _ p hp => ?_⟩
    · have e2 := rx.nil_iff.mp e
      subst e2
      exact k.val (d := .tup es) so ⟨b, ys, rfl, hy, ry⟩ h.2
    · have e2 := ry.nil_iff.mp e
      subst e2
      rw [List.append_nil] at h
      exact k.val (d := .tup ds) so ⟨a, xs, rfl, hx, rx⟩ h.2
    · obtain ⟨t2, so2, r2⟩ := new_tup so (RpL.append rx ry) hp
      exact k _ _ α _ S t2 so2 r2 h.2
  · exact h.elim⟩
def rdCatL : RD := fun x y S Q => onLstR x S fun ds => onLstR y S fun es => ds.length + es.length ≤ sizeLine ∧ Q (.loc S.length) (S ++ [.lst (ds ++ es)])
theorem onLstR.rp {K : PySem.W.Frag} {α : Locs} {H : Hp} {S : Store} {d : D} {v : V} {P : List D → Prop} (so : StoreOk K α H S) (r : Rp K α H v d) (h : onLstR d S P) : ∃ a xs ds, v = .ref a ∧ H a = some (.lst xs) ∧ RpL K α H xs ds ∧ P ds := by
  obtain ⟨ds, e, h⟩ := h.ex
  cases d with
  | lst es =>
    have e0 : es = ds := D.lst.inj e
    subst e0
    obtain ⟨a, xs, e, hs, _, hr⟩ := r
    exact ⟨a, xs, es, e, hs, hr, h⟩
  | loc l =>
    obtain ⟨a, e2, ha⟩ := r
    obtain ⟨o, u, h1, h2, h3⟩ := so.live ha
    have e' : (match S[l]? with | some (.lst ds) => D.lst ds | _ => .loc l) = .lst ds := e
    rw [h1] at e'
    cases o with
    | lst es =>
      have e0 : es = ds := D.lst.inj e'
      subst e0
      obtain ⟨xs, h4, h5⟩ := h2
      exact ⟨a, xs, es, e2, h4, h5, h⟩
    | _ => cases e'
  | _ => cases e
theorem od_catL : OpD X (binaryOp .Add) rdCatL := ⟨_, op_cat, fun α S H x y v u Q Q' so rx ry h k => by
  obtain ⟨a, xs, ds, rfl, hx, rx, h⟩ := h.rp so rx
  obtain ⟨b, ys, es, rfl, hy, ry, hz, q⟩ := onLstR.rp so ry h
  refine ⟨a, b, xs, ys, rfl, rfl, hx, hy, by rw [rx.len, ry.len]; exact hz, fun p hp => ?_⟩
  obtain ⟨t2, so2, r2⟩ := new_lst so (RpL.append rx ry) hp
  exact k _ _ _ _ _ t2 so2 r2 q⟩
def rdCatS : RD := fun x y S Q => match x, y with
  | .str i, .str j => i.length + j.length ≤ sizeLine ∧ Q (.str (i ++ j)) S
  | _, _ => False
theorem od_catS : OpD X (binaryOp .Add) rdCatS := ⟨_, op_add_str, fun α S H x y v u Q Q' so rx ry h k => by
  unfold rdCatS at h
  split at h
  · rename_i i j
    exact ⟨i, j, rx, ry, h.1, k.str so h.2⟩
  · exact h.elim⟩

/-! ### slices -/
abbrev DO := Rho → Store → (Option Int → Store → Prop) → Prop
def LiftO (K : PySem.W.Frag) (to : TO) (t : DO) : Prop :=
  ∀ α ρ S σ H (Q : Option Int → Store → Prop) (Q' : Option Int → Hp → Prop), StoreOk K α H S → RhoOk K α H ρ σ → t ρ S Q →
    (∀ o H' α' S', Stp α H α' H' → StoreOk K α' H' S' → Q o S' → Q' o H') → to σ H Q'
structure DOp (X : Cx) (e : Option Expr) (t : DO) : Prop where
  ex : ∃ to, PO X e to ∧ LiftO X.K to t
def dNoPart : DO := fun _ S Q => Q none S
def dPart (t : DT) : DO := fun ρ S Q => t ρ S fun d S1 => onInt d fun i => Q (some i) S1
theorem do_none : DOp X none dNoPart := ⟨_, po_none, fun α ρ S σ H Q Q' so ro q k => k none H α S (Stp.refl _ _) so q⟩
theorem do_some {e : Expr} {t : DT} (h : DE X e t) : DOp X (some e) (dPart t) := by
  obtain ⟨⟨te, h1, h2⟩⟩ := h
  refine ⟨_, po_some h1, fun α ρ S σ H Q Q' so ro q k => ?_⟩
  refine h2 α ρ S σ H _ _ so ro q fun v H1 α1 d S1 t1 so1 r1 q1 => ?_
  obtain ⟨i, rfl, rfl, q2⟩ := onInt.rp r1 q1
  exact ⟨i, rfl, k _ H1 α1 S1 t1 so1 q2⟩
def cutD (ds : List D) (lo hi : Option Int) : List D := (ds.drop (HT.sIx ds.length 0 lo)).take (HT.sIx ds.length ds.length hi - HT.sIx ds.length 0 lo)
theorem cut_rp {K : PySem.W.Frag} {α : Locs} {H : Hp} {ds : List D} {xs : List V} {lo hi : Option Int} (r : RpL K α H xs ds) : RpL K α H (cutV xs lo hi) (cutD ds lo hi) := by
  unfold cutV cutD
  rw [r.len]
  exact RpL.take _ (RpL.drop _ r)
theorem cut_whole {ds : List D} {lo hi : Option Int} (h : HT.sIx ds.length 0 lo = 0 ∧ HT.sIx ds.length ds.length hi = ds.length) : cutD ds lo hi = ds := by
  unfold cutD
  rw [h.1, h.2, List.drop_zero, Nat.sub_zero, List.take_length]
/-- t[lo:hi] -/
def dSlT (te : DT) (tl th : DO) : DT := fun ρ S Q => te ρ S fun d S1 => tl ρ S1 fun lo S2 => th ρ S2 fun hi S3 => onTup d fun ds => Q (.tup (cutD ds lo hi)) S3
theorem de_slT {e : Expr} {lo hi : Option Expr} {p2 pos : Pos} {te : DT} {tl th : DO} (he : DE X e te) (hl : DOp X lo tl) (hu : DOp X hi th) : DE X (.Subscript e (.Slice lo hi none p2) pos) (dSlT te tl th) := by
  obtain ⟨⟨t1, h1, h2⟩⟩ := he
  obtain ⟨⟨t2, h3, h4⟩⟩ := hl
  obtain ⟨⟨t3, h5, h6⟩⟩ := hu
  refine ⟨_, pe_slice sl_tupA h1 h3 h5, fun α ρ S σ H Q Q' so ro q k => ?_⟩
  refine h2 α ρ S σ H _ _ so ro q fun v H1 α1 d S1 t1 so1 r1 q1 => ?_
  refine h4 α1 ρ S1 σ H1 _ _ so1 (ro.stp t1) q1 fun o H2 α2 S2 t2 so2 q2 => ?_
  refine h6 α2 ρ S2 σ H2 _ _ so2 (ro.stp (t1.trans t2)) q2 fun o' H3 α3 S3 t3 so3 q3 => ?_
  cases d with
  | tup ds =>
    have r3 : Rp X.K α3 H3 v (.tup ds) := Rp.stp (t2.trans t3) _ _ r1
    obtain ⟨a, xs, rfl, hx, hr⟩ := r3
    have t13 := (t1.trans t2).trans t3
    refine ⟨a, xs, rfl, hx.sq, fun hw => ?_, fun hw p hp => ?_⟩
    · rw [hr.len] at hw
      refine k _ H3 α3 _ S3 t13 so3 ?_ q3
      rw [cut_whole hw]
      exact ⟨a, xs, rfl, hx, hr⟩
    · obtain ⟨t4, so4, r4⟩ := new_tup so3 (cut_rp (lo := o) (hi := o') hr) hp
      exact k _ _ α3 _ S3 (t13.trans t4) so4 r4 q3
  | _ => exact q3.elim
/-- xs[lo:hi], a new list -/
def dSlL (te : DT) (tl th : DO) : DT := fun ρ S Q => te ρ S fun d S1 => tl ρ S1 fun lo S2 => th ρ S2 fun hi S3 => onLst d S3 fun ds => Q (.loc S3.length) (S3 ++ [.lst (cutD ds lo hi)])
theorem de_slL {e : Expr} {lo hi : Option Expr} {p2 pos : Pos} {te : DT} {tl th : DO} (he : DE X e te) (hl : DOp X lo tl) (hu : DOp X hi th) : DE X (.Subscript e (.Slice lo hi none p2) pos) (dSlL te tl th) := by
  obtain ⟨⟨t1, h1, h2⟩⟩ := he
  obtain ⟨⟨t2, h3, h4⟩⟩ := hl
  obtain ⟨⟨t3, h5, h6⟩⟩ := hu
  refine ⟨_, pe_slice sl_list h1 h3 h5, fun α ρ S σ H Q Q' so ro q k => ?_⟩
  refine h2 α ρ S σ H _ _ so ro q fun v H1 α1 d S1 t1 so1 r1 q1 => ?_
  refine h4 α1 ρ S1 σ H1 _ _ so1 (ro.stp t1) q1 fun o H2 α2 S2 t2 so2 q2 => ?_
  refine h6 α2 ρ S2 σ H2 _ _ so2 (ro.stp (t1.trans t2)) q2 fun o' H3 α3 S3 t3 so3 q3 => ?_
  obtain ⟨a, xs, ds, rfl, hx, hr, q4⟩ := onLst.rp so3 (Rp.stp (t2.trans t3) _ _ r1) q3
  have t13 := (t1.trans t2).trans t3
  refine ⟨a, xs, rfl, hx, fun p hp => ?_⟩
  obtain ⟨t4, so4, r4⟩ := new_lst so3 (cut_rp (lo := o) (hi := o') hr) hp
  exact k _ _ _ _ _ (t13.trans t4) so4 r4 q4

/-! ### methods of lists -/
variable {e o value : Expr} {es : List Expr} {pos apos cpos p : Pos} {t tv : DT} {td : DA}
/-- the list at a location, whatever is done to it -/
def onLoc (d : D) (S : Store) (P : Nat → List D → Prop) : Prop := match d with
  | .loc l => onOpt S[l]? fun o => match o with
    | .lst ds => P l ds
    | _ => False
  | _ => False
theorem onLoc.rp {K : PySem.W.Frag} {α : Locs} {H : Hp} {S : Store} {d : D} {v : V} {P : Nat → List D → Prop} (so : StoreOk K α H S) (r : Rp K α H v d) (h : onLoc d S P) :
    ∃ l a xs ds, d = .loc l ∧ v = .ref a ∧ α[l]? = some (some a) ∧ S[l]? = some (.lst ds) ∧ H a = some (.lst xs) ∧ RpL K α H xs ds ∧ P l ds := by
  cases d with
  | loc l =>
    obtain ⟨a, e2, ha⟩ := r
    obtain ⟨o, u, h1, h2, h3⟩ := so.live ha
    obtain ⟨o', ho, h⟩ : onOpt S[l]? fun o => match o with | .lst ds => P l ds | _ => False := h
    rw [h1] at ho
    cases ho
    cases o with
    | lst ds =>
      obtain ⟨xs, h4, h5⟩ := h2
      exact ⟨l, a, xs, ds, rfl, e2, ha, h1, h4, h5, h⟩
    | _ => exact h.elim
  | _ => exact h.elim
/-- o.append(e) -/
def dAppend (to : DT) (te : DT) : DT := fun ρ S Q => to ρ S fun x S1 => (∃ l ds, x = .loc l ∧ S1[l]? = some (.lst ds)) ∧ te ρ S1 fun y S2 => onLoc x S2 fun l ds => ds.length < sizeLine ∧ Q .non (S2.set l (.lst (ds ++ [y])))
theorem de_append (ho : DE X o t) (he : DE X e tv)
    (hbase : attributeBase o "append" X.env (eval o X.env) = eval o X.env := by rfl)
    (hfew : ((backTo cpos (starEach (e :: []) X.env)).all (fun x => !x.1) && (backToKw cpos (keywordEach [] X.env)).all (fun x => x.1.isSome)
      && decide ((e :: []).length + ([] : List Keyword).length + (if ([] : List Keyword).isEmpty then 0 else 1) < 30)) = true := by rfl)
    (hline : (apos.endLine == cpos.line) = true := by rfl) (hs : starEach (e :: []) X.env = (false, eval e X.env) :: starEach [] X.env := by rfl) (hplain : (backTo cpos (starEach [] X.env)).any (·.1) = false := by rfl) :
    DE X (.Call (.Attribute o "append" apos) [e] [] cpos) (dAppend t tv) := by
  obtain ⟨⟨t1, h1, h2⟩⟩ := ho
  obtain ⟨⟨t2, h3, h4⟩⟩ := he
  refine ⟨_, pe_bm PySem.F.plainAttrs_list PySem.F.slot_list_append PySem.F.type_list_append mt_append h1 (pa_cons h3 pa_nil hs) hbase hfew hline hs hplain, fun α ρ S σ H Q Q' so ro q k => ?_⟩
  refine h2 α ρ S σ H _ _ so ro q fun v H1 α1 x S1 t1 so1 r1 qq => ?_
  obtain ⟨⟨l, ds, rfl, hl⟩, q1⟩ := qq
  obtain ⟨a, e2, ha⟩ := id r1
  obtain ⟨xs, hx, _⟩ := so1.ob l a _ ha hl
  subst e2
  refine ⟨Or.inl ⟨rfl, xs, SqL.of hx⟩, ?_⟩
  refine h4 α1 ρ S1 σ H1 _ _ so1 (ro.stp t1) q1 fun y H2 α2 yd S2 t2 so2 r2 q2 => ?_
  obtain ⟨l', a', xs', ds', e3, e4, hl', hs', hx', hr', hz, q3⟩ := onLoc.rp so2 (Rp.stp t2 _ _ r1) q2
  cases e4
  cases e3
  have tm := Stp.mut (u := HO.lst (xs' ++ [y])) hl' hx'
  refine ⟨a, xs', y, rfl, rfl, hx', by rw [hr'.len]; exact hz, ?_⟩
  exact k _ _ α2 .non _ ((t1.trans t2).trans tm) (so2.set (ob := .lst (ds' ++ [yd])) hl' hx' ⟨_, upd_same, RpL.stp tm _ _ (RpL.append hr' (RpL.one r2))⟩) rfl q3
/-- xs[i] = e -/
def gdSet (to ti : DT) : DG := fun d ρ S Q => to ρ S fun x S1 => ti ρ S1 fun y S2 => onInt y fun i => onLoc x S2 fun l ds => onOpt (ixN ds.length i) fun j => Q ρ (S2.set l (.lst (ds.set j d)))
theorem dg_set {i : Expr} {ti : DT} (ho : DE X o t) (hi : DE X i ti)
    (ha : ∀ v, assign (.Subscript o i pos) X.env v = (do
      let ov ← holding [v] (eval o X.env)
      let iv ← holding [v, ov] (eval i X.env)
      standAt pos
      holding [v, ov, iv] (setItem ov iv v)
      release [v, ov, iv] []) := by intro _; rfl) : DGt X (.Subscript o i pos) [] (gdSet t ti) := by
  obtain ⟨⟨t1, h1, h2⟩⟩ := ho
  obtain ⟨⟨t2, h3, h4⟩⟩ := hi
  refine ⟨_, pg_sub h1 h3 set_list ha, fun α ρ S σ H v d Q Q' so ro r q k => ?_⟩
  refine h2 α ρ S σ H _ _ so ro q fun ov H1 α1 x S1 t1 so1 r1 q1 => ?_
  refine h4 α1 ρ S1 σ H1 _ _ so1 (ro.stp t1) q1 fun iv H2 α2 y S2 t2 so2 r2 q2 => ?_
  obtain ⟨i, rfl, rfl, q2⟩ := onInt.rp r2 q2
  obtain ⟨l, a, xs, ds, rfl, rfl, hl, hs, hx, hr, q3⟩ := onLoc.rp so2 (Rp.stp t2 _ _ r1) q2
  obtain ⟨j, hj, q4⟩ := onOpt.ex q3
  have tm := Stp.mut (u := HO.lst (xs.set j v)) hl hx
  refine ⟨a, xs, i, j, rfl, rfl, hx, by rw [hr.len]; exact hj, ?_⟩
  have t12 := (t1.trans t2)
  exact k σ _ α2 ρ _ (SameBut.refl _ _) (t12.trans tm) (so2.set (ob := .lst (ds.set j d)) hl hx ⟨_, upd_same, RpL.stp tm _ _ (RpL.set j (Rp.stp t12 _ _ r) hr)⟩) (ro.stp (t12.trans tm)) q4

/-! ### attributes -/
def onObj (C : Addr) (d : D) (S : Store) (P : List (Str × D) → Prop) : Prop := match d with
  | .obj C' fs => C' = C ∧ P fs
  | .loc l => onOpt S[l]? fun o => match o with
    | .ins C' fs => C' = C ∧ P fs
    | _ => False
  | _ => False
theorem onObj.rp {K : PySem.W.Frag} {α : Locs} {H : Hp} {S : Store} {C : Addr} {d : D} {v : V} {P : List (Str × D) → Prop} (so : StoreOk K α H S) (r : Rp K α H v d) (h : onObj C d S P) : ∃ a dx xs fs, v = .ref a ∧ H a = some (.ins C dx xs) ∧ RpF K α H xs fs ∧ P fs := by
  cases d with
  | obj C' fs =>
    obtain ⟨a, dx, xs, e, hs, _, hr⟩ := r
    obtain ⟨rfl, h⟩ := h
    exact ⟨a, dx, xs, fs, e, hs, hr, h⟩
  | loc l =>
    obtain ⟨a, e2, ha⟩ := r
    obtain ⟨o, u, h1, h2, h3⟩ := so.live ha
    obtain ⟨o', ho, hh⟩ : onOpt S[l]? fun o => match o with | .ins C' fs => C' = C ∧ P fs | _ => False := h
    rw [h1] at ho
    cases ho
    cases o with
    | ins C' fs =>
      obtain ⟨rfl, hq⟩ := hh
      obtain ⟨dx, xs, h4, h5⟩ := h2
      exact ⟨a, dx, xs, fs, e2, h4, h5, hq⟩
    | _ => exact hh.elim
  | _ => exact h.elim
/-- e.f -/
def dFld (C : Addr) (t : DT) (f : Str) : DT := fun ρ S Q => t ρ S fun d S1 => onObj C d S1 fun fs => onOpt (fs.lookup f) fun v => Q v S1
theorem de_fld {C : Addr} {f : Str} (he : DE X e t) (c : Cls X.K C) (n : NoAttr X.K C f) (hb : attributeBase e f X.env (eval e X.env) = eval e X.env := by rfl) : DE X (.Attribute e f pos) (dFld C t f) := by
  obtain ⟨⟨t1, h1, h2⟩⟩ := he
  refine ⟨_, pe_fld h1 hb, fun α ρ S σ H Q Q' so ro q k => ?_⟩
  refine h2 α ρ S σ H _ _ so ro q fun v H1 α1 x S1 t1 so1 r1 q1 => ?_
  obtain ⟨a, dx, xs, fs, rfl, hx, hr, q2⟩ := onObj.rp so1 r1 q1
  obtain ⟨d, hd, q3⟩ := onOpt.ex q2
  obtain ⟨w, hw, rw'⟩ := hr.lookup hd
  exact ⟨a, C, dx, xs, w, rfl, hx, c, n, hw, (k.stp t1).val so1 rw' q3⟩
/-- e.f, a constant of the class -/
def dCon (C : Addr) (t : DT) (f : Str) (v : D) : DT := fun ρ S Q => t ρ S fun d S1 => onObj C d S1 fun fs => fs.lookup f = none ∧ Q v S1
theorem de_con {C : Addr} {f : Str} {v : V} {d : D} {u : Value} (he : DE X e t) (c : Cls X.K C) (n : Con X.K C f v u) (hv : ∀ α H, Rp X.K α H v d) (hb : attributeBase e f X.env (eval e X.env) = eval e X.env := by rfl) : DE X (.Attribute e f pos) (dCon C t f d) := by
  obtain ⟨⟨t1, h1, h2⟩⟩ := he
  refine ⟨_, pe_con h1 hb, fun α ρ S σ H Q Q' so ro q k => ?_⟩
  refine h2 α ρ S σ H _ _ so ro q fun w H1 α1 x S1 t1 so1 r1 q1 => ?_
  obtain ⟨a, dx, xs, fs, rfl, hx, hr, hn, q2⟩ := onObj.rp so1 r1 q1
  exact ⟨a, C, dx, xs, v, u, rfl, hx, c, n, hr.lookup_none hn, (k.stp t1).val so1 (hv _ _) q2⟩
theorem RpF.put {K : PySem.W.Frag} {α : Locs} {H : Hp} {f : Str} {v : V} {d : D} (r : Rp K α H v d) : ∀ {fs : List (Str × D)} {xs : List (Str × V)}, RpF K α H xs fs → RpF K α H (putF f v xs) (putD f d fs)
  | [], xs, h => by
    cases (show xs = [] from h)
    exact ⟨v, [], rfl, r, rfl⟩
  | (g, e) :: fs, xs, ⟨w, t, ee, h1, h2⟩ => by
    subst ee
    show RpF K α H (if g = f then (g, v) :: t else (g, w) :: putF f v t) (if g = f then (g, d) :: fs else (g, e) :: putD f d fs)
    by_cases hg : g = f
    · rw [if_pos hg, if_pos hg]
      exact ⟨v, t, rfl, r, h2⟩
    · rw [if_neg hg, if_neg hg]
      exact ⟨w, _, rfl, h1, RpF.put r h2⟩
/-- o.f = value, o an instance at a location -/
def sFldD (C : Addr) (to tv : DT) (f : Str) : DS := fun E ρ S => tv ρ S fun y S1 => to ρ S1 fun x S2 => match x with
  | .loc l => onOpt S2[l]? fun ob => match ob with
    | .ins C' fs => C' = C ∧ fs.length < 1000 ∧ E.nx ρ (S2.set l (.ins C (putD f y fs)))
    | _ => False
  | _ => False
theorem ds_fld {C : Addr} {f : Str} {pos' : Pos} (ho : DE X o t) (hv : DE X value tv) (c : Cls X.K C) (n : NoAttr X.K C f) (hs : swapsWith value (some (.Attribute o f pos')) pos.line X.env = pure false := by rfl) : DSt X (.Assign [.Attribute o f pos'] value pos) (sFldD C t tv f) := by
  obtain ⟨⟨t1, h1, h2⟩⟩ := ho
  obtain ⟨⟨t2, h3, h4⟩⟩ := hv
  refine ⟨_, ps_fld h1 h3 hs, fun α ρ S σ H E F so ro q k => ?_⟩
  refine h4 α ρ S σ H _ _ so ro q fun y H1 α1 yd S1 t1 so1 r1 q1 => ?_
  refine h2 α1 ρ S1 σ H1 _ _ so1 (ro.stp t1) q1 fun x H2 α2 xd S2 t2 so2 r2 q2 => ?_
  cases xd with
  | loc l =>
    obtain ⟨a, rfl, ha⟩ := r2
    obtain ⟨ob, u, e1, e2, e3⟩ := so2.live ha
    obtain ⟨o', ho, q2⟩ : onOpt S2[l]? fun ob => match ob with | .ins C' fs => C' = C ∧ fs.length < 1000 ∧ E.nx ρ (S2.set l (.ins C (putD f yd fs))) | _ => False := q2
    rw [e1] at ho
    cases ho
    cases ob with
    | ins C' fs =>
      obtain ⟨rfl, hz, q3⟩ := q2
      obtain ⟨dx, xs, h5, h6⟩ := e2
      have tm := Stp.mut (u := HO.ins C' dx (putF f y xs)) ha h5
      refine ⟨a, C', dx, xs, rfl, h5, c, n, by rw [h6.len]; exact hz, ?_⟩
      exact k.nx σ _ α2 ρ _ ((t1.trans t2).trans tm) (so2.set (ob := .ins C' (putD f yd fs)) ha h5 ⟨dx, _, upd_same, RpF.stp tm _ _ (RpF.put (Rp.stp t2 _ _ r1) h6)⟩) (ro.stp ((t1.trans t2).trans tm)) q3
    | _ => exact q2.elim
  | _ => exact q2.elim

/-! ### what a def promises, by data -/
abbrev DXk := Addr → List (Str × D) → Store → Prop
abbrev DSp := List D → Store → DK → DXk → Prop
def XRp (K : PySem.W.Frag) (α : Locs) (H : Hp) (od : Option Addr) (fs : List (Str × D)) : Prop := match od with
  | none => fs = []
  | some d => ∃ xs, H d = some (.xd xs) ∧ Off α d ∧ RpF K α H xs fs
def KX (K : PySem.W.Frag) (α : Locs) (H : Hp) (Ed : DXk) (E : XK) : Prop :=
  ∀ C od H' α' S' fs, Stp α H α' H' → StoreOk K α' H' S' → XRp K α' H' od fs → Ed C fs S' → E (.ref C) od H'
def noX : DXk := fun _ _ _ => False
theorem KX.no {K : PySem.W.Frag} {α : Locs} {H : Hp} {E : XK} : KX K α H noX E := fun _ _ _ _ _ _ _ _ _ h => h.elim
def spOf (K : PySem.W.Frag) (n : Nat) (dsp : DSp) : Sp := fun vs H Q E => vs.length = n ∧ ∃ α S ds Qd Ed, StoreOk K α H S ∧ RpL K α H vs ds ∧ dsp ds S Qd Ed ∧ KE K α H Qd Q ∧ KX K α H Ed E
/-- f(..) -/
def dCall (dsp : DSp) (dds : List D) (t : DA) : DT := fun ρ S Q => t ρ S fun ds S1 => dsp (ds ++ dds) S1 Q noX
section
variable {CX : CXT} {k n : Nat} {f C : Addr} {fd : FuncData} {ps : List Str} {dsp : DSp} {dvs : List V} {dds : List D} {dfs : List Value} {x m : Str}
theorem lift_call {K : PySem.W.Frag} {ta : TA} (h : LiftA K ta td) (hd : ∀ α H, RpL K α H dvs dds) (hn : ∀ ds S Q E, dsp ds S Q E → ds.length = n) : LiftE K (tCall (spOf K n dsp) dvs E0 ta) (dCall dsp dds td) := fun α ρ S σ H Q Q' so ro q k => by
  refine h α ρ S σ H _ _ so ro q fun vs H1 α1 ds S1 t1 so1 r1 q1 => ?_
  have r2 := RpL.append r1 (hd α1 H1)
  exact ⟨by rw [r2.len]; exact hn _ _ _ _ q1, α1, S1, _, Q, noX, so1, r2, q1, k.stp t1, KX.no⟩
theorem de_call (F : FnOk X.prog X.w X.K X.mg X.base CX k f fd ps (spOf X.K n dsp)) (hr : Room k X.A) (hg : Gl X x) (hm : X.mg x = some (.ref f)) (hk : PySem.W.keepIn X.K (.ref f) = true) (hb : Binds X.K fd ps dfs) (hd : Vals dvs dfs) (hdd : ∀ α H, RpL X.K α H dvs dds) (hx : Passes CX X E0) (hn : ∀ ds S Q E, dsp ds S Q E → ds.length = n)
    (ha : DAs X (e :: es) td) (hdb : (x == ("__debug__" : Str)) = false := by decide) (he : starEach (e :: es) X.env = (false, eval e X.env) :: starEach es X.env := by rfl) (hpl : (backTo pos (starEach es X.env)).any (·.1) = false := by rfl) :
    DE X (.Call (.Name x p) (e :: es) [] pos) (dCall dsp dds td) := by
  obtain ⟨⟨t1, h1, h2⟩⟩ := ha
  exact ⟨_, pe_call F hr hg hm hk hb hd hx h1 hdb he hpl, lift_call h2 hdd hn⟩
/-- o.m(..) -/
def dMeth (C : Addr) (m : Str) (dsp : DSp) (dds : List D) (to : DT) (t : DA) : DT := fun ρ S Q => to ρ S fun x S1 => onObj C x S1 fun fs => fs.lookup m = none ∧ t ρ S1 fun ds S2 => dsp (x :: (ds ++ dds)) S2 Q noX
theorem lift_meth {K : PySem.W.Frag} {ta : TA} {te : TE} {to : DT} (h0 : LiftE K te to) (h : LiftA K ta td) (hd : ∀ α H, RpL K α H dvs dds) (hn : ∀ ds S Q E, dsp ds S Q E → ds.length = n) : LiftE K (tMeth C m (spOf K n dsp) dvs E0 te ta) (dMeth C m dsp dds to td) := fun α ρ S σ H Q Q' so ro q k => by
  refine h0 α ρ S σ H _ _ so ro q fun v H1 α1 x S1 t1 so1 r1 q1 => ?_
  obtain ⟨a, dx, xs, fs, rfl, hx, hr, hno, q2⟩ := onObj.rp so1 r1 q1
  refine ⟨a, dx, xs, rfl, hx, hr.lookup_none hno, ?_⟩
  refine h α1 ρ S1 σ H1 _ _ so1 (ro.stp t1) q2 fun vs H2 α2 ds S2 t2 so2 r2 q3 => ?_
  have r3 : RpL K α2 H2 (.ref a :: (vs ++ dvs)) (x :: (ds ++ dds)) := ⟨_, _, rfl, Rp.stp t2 _ _ r1, RpL.append r2 (hd α2 H2)⟩
  exact ⟨by rw [r3.len]; exact hn _ _ _ _ q3, α2, S2, _, Q, noX, so2, r3, q3, k.stp (t1.trans t2), KX.no⟩
theorem de_meth {pl : Sem Bool} (ho : DE X o t) (c : Cls X.K C) (hm : Meth X.K C m f) (F : FnOk X.prog X.w X.K X.mg X.base CX k f fd ps (spOf X.K n dsp)) (hr : Room k X.A) (hb : Binds X.K fd ps dfs) (hd : Vals dvs dfs) (hdd : ∀ α H, RpL X.K α H dvs dds) (hx : Passes CX X E0) (hn : ∀ ds S Q E, dsp ds S Q E → ds.length = n) (ha : DAs X (e :: es) td)
    (hst : starEach (e :: es) X.env = (false, eval e X.env) :: starEach es X.env := by rfl) (hpl : (backTo pos (starEach es X.env)).any (·.1) = false := by rfl)
    (ht : eval (.Call (.Attribute o m apos) (e :: es) [] pos) X.env = (do
      let ov ← eval o X.env
      standAt apos.atName
      let (f, first) ← holding [ov] (getMethod ov m pl)
      callWith pos f first (backTo pos (starEach (e :: es) X.env)) (backToKw pos (keywordEach [] X.env))) := by rfl) :
    DE X (.Call (.Attribute o m apos) (e :: es) [] pos) (dMeth C m dsp dds t td) := by
  obtain ⟨⟨t0, h0, h0'⟩⟩ := ho
  obtain ⟨⟨t1, h1, h2⟩⟩ := ha
  exact ⟨_, pe_meth h0 c hm F hr hb hd hx h1 hst hpl ht, lift_meth h0' h2 hdd hn⟩
theorem de_meth0 {pl : Sem Bool} (ho : DE X o t) (c : Cls X.K C) (hm : Meth X.K C m f) (F : FnOk X.prog X.w X.K X.mg X.base CX k f fd ps (spOf X.K n dsp)) (hr : Room k X.A) (hb : Binds X.K fd ps dfs) (hd : Vals dvs dfs) (hdd : ∀ α H, RpL X.K α H dvs dds) (hx : Passes CX X E0) (hn : ∀ ds S Q E, dsp ds S Q E → ds.length = n)
    (ht : eval (.Call (.Attribute o m apos) [] [] pos) X.env = (do
      let ov ← eval o X.env
      standAt apos.atName
      let (f, first) ← holding [ov] (getMethod ov m pl)
      callWith pos f first (backTo pos (starEach [] X.env)) (backToKw pos (keywordEach [] X.env))) := by rfl) :
    DE X (.Call (.Attribute o m apos) [] [] pos) (dMeth C m dsp dds t dNil) := by
  obtain ⟨⟨t0, h0, h0'⟩⟩ := ho
  exact ⟨_, pe_meth0 h0 c hm F hr hb hd hx ht, lift_meth h0' (fun α ρ S σ H Q Q' so ro q k => k [] H α [] S (Stp.refl _ _) so rfl q) hdd hn⟩
/-- C(..) by its __init__ -/
def dMake (C : Addr) (dsp : DSp) (dds : List D) (t : DA) : DT := fun ρ S Q => t ρ S fun ds S1 => dsp (.loc S1.length :: (ds ++ dds)) (S1 ++ [.ins C []]) (fun v S2 => v = .non ∧ Q (.loc S1.length) S2) noX
theorem lift_make {K : PySem.W.Frag} {ta : TA} (h : LiftA K ta td) (hd : ∀ α H, RpL K α H dvs dds) (hn : ∀ ds S Q E, dsp ds S Q E → ds.length = n) : LiftE K (tMake C (spOf K n dsp) dvs E0 ta) (dMake C dsp dds td) := fun α ρ S σ H Q Q' so ro q k => by
  refine h α ρ S σ H _ _ so ro q fun vs H1 α1 ds S1 t1 so1 r1 q1 x dx hx hdx hne => ?_
  have hx2 : upd H1 dx (.own x) x = none := by rw [upd_ne (Ne.symm hne)]; exact hx
  have t2 : Stp α1 H1 (α1 ++ [some x]) (upd (upd H1 dx (.own x)) x (.ins C dx [])) := (Stp.new_ hdx).trans (Stp.push hx2)
  have so2 : StoreOk K (α1 ++ [some x]) (upd (upd H1 dx (.own x)) x (.ins C dx [])) (S1 ++ [.ins C []]) := (so1.grow (keep_new hdx)).push (ob := .ins C []) hx2 ⟨dx, [], upd_same, rfl⟩
  have hl : (α1 ++ [some x])[S1.length]? = some (some x) := by rw [← so1.len]; simp
  have r3 : RpL K (α1 ++ [some x]) (upd (upd H1 dx (.own x)) x (.ins C dx [])) (.ref x :: (vs ++ dvs)) (.loc S1.length :: (ds ++ dds)) := ⟨_, _, rfl, ⟨x, rfl, hl⟩, RpL.append (RpL.stp t2 _ _ r1) (hd _ _)⟩
  refine ⟨by rw [r3.len]; exact hn _ _ _ _ q1, _, _, _, _, noX, so2, r3, q1, fun v H' α' d S' t' so' r' ⟨e, q'⟩ => ?_, KX.no⟩
  subst e
  refine ⟨r', k (.ref x) H' α' (.loc S1.length) S' (t1.trans (t2.trans t')) so' ⟨x, rfl, t'.pre _ _ hl⟩ q'⟩
end
end

/-! ### a def of the text -/
def startR : Nat → List D → Rho
  | 0, _ => []
  | n + 1, [] => none :: startR n []
  | n + 1, d :: ds => some d :: startR n ds
theorem startR_ok {K : PySem.W.Frag} {α : Locs} {H : Hp} : ∀ {n : Nat} {ds : List D} {vs : List V}, RpL K α H vs ds → ds.length ≤ n → RhoOk K α H (startR n ds) (vs.map some ++ List.replicate (n - vs.length) none)
  | 0, [], vs, r, _ => by cases (show vs = [] from r); rfl
  | 0, d :: ds, vs, r, h => by simp at h
  | n + 1, [], vs, r, _ => by
    cases (show vs = [] from r)
    refine ⟨none, List.replicate n none, ?_, ?_⟩
    · simp [List.replicate_succ]
    · have := startR_ok (K := K) (α := α) (H := H) (n := n) (ds := []) (vs := []) rfl (Nat.zero_le _)
      simpa using this
  | n + 1, d :: ds, vs, ⟨v, t, e, r1, r2⟩, h => by
    subst e
    rw [List.length_cons] at h
    refine ⟨v, _, rfl, r1, ?_⟩
    have := startR_ok (n := n) r2 (by omega)
    have e2 : n + 1 - (v :: t).length = n - t.length := by rw [List.length_cons]; omega
    rw [e2]
    exact this
theorem Rt.pure {S ex : Store} {Q : DK} {d : D} (hb : bnd S.length d) (q : Q d S) : Rt S Q d (S ++ ex) := by
  unfold Rt
  exact Or.inl ⟨CutOk.same, Or.inl ⟨d, .same hb, by rw [take_push]; exact q⟩⟩
theorem Rt.same {S : Store} {Q : DK} {d : D} (hb : bnd S.length d) (q : Q d S) : Rt S Q d S := by
  have h := Rt.pure (ex := []) hb q
  rw [List.append_nil] at h
  exact h
/-- a new list, handed on as a location -/
theorem Rt.loc {S : Store} {Q : DK} {ob : Ob} (hb : bndO S.length ob) (q : Q (.loc S.length) (S ++ [ob])) : Rt S Q (.loc S.length) (S ++ [ob]) := by
  unfold Rt
  exact Or.inl ⟨CutOk.same, Or.inr ⟨_, ob, rfl, Nat.le_refl _, getElem_push _ _, hb, by rw [take_push]; exact q⟩⟩
section
variable {P : Program} {w : World} {K : PySem.W.Frag} {mg : Str → Option Value} {base : Heap} {x qual : Str} {st : Stmt} {f : Addr} {fd : FuncData} {N ps : List Str} {k : Nat} {dsp : DSp} {t : DS}
theorem dfn_ok (F : Fun K x qual st f fd) (S : FnScope N ps (defScope st)) (hlen : ∀ ds S Q E, dsp ds S Q E → ds.length = ps.length)
    (hbody : ∀ (cdv : Value) (A : Around) (outer : List Env) (s : Shared) (H : Hp) (E : XK), Room k (A.deeper (envOfC qual (defScope st) s.heap.objs.size f cdv)) → DSs (cxOf CX0 P w K mg base N qual (defScope st) f cdv A outer s H E).nox (defBody st) t)
    (spec : ∀ ds S Q E, bndL S.length ds → dsp ds S Q E → t { nx := fun _ S' => Rt S Q .non S', rt := Rt S Q } (startR N.length ds) S) : FnOk P w K mg base CX0 (k + 1) f fd ps (spOf K ps.length dsp) := by
  refine F.ok S (fun vs H Q E h => h.1) fun cdv A outer s H vs Q E hr h => ?_
  obtain ⟨hl, α, S0, ds, Qd, Ed, so, r, hd, ke, kx⟩ := h
  obtain ⟨⟨ts, h1, h2⟩⟩ := hbody cdv A outer s H E hr
  refine ⟨ts, h1, ?_⟩
  have hpl : ps.length ≤ N.length := by have := congrArg List.length S.pre; rw [List.length_take] at this; omega
  have hds : ds.length ≤ N.length := by rw [hlen _ _ _ _ hd]; exact hpl
  have fin : ∀ v H' α' d S', Stp α H α' H' → StoreOk K α' H' S' → Rp K α' H' v d → Rt S0 Qd d S' → Q v H' := fun v H' α' d S' t' so' r' q => Rt.fin so t' so' r' q ke
  have bd : bndL S0.length ds := by rw [← so.len]; exact r.bnd
  refine h2 α (startR N.length ds) S0 (start N vs) H _ _ so (startR_ok r hds) (spec ds S0 Qd Ed bd hd) ⟨?_, fin, fun _ _ _ _ _ _ _ _ z => z.elim, fun _ _ _ _ _ _ _ _ z => z.elim⟩
  intro σ' H' α' ρ' S' t' so' ro' q
  exact fin .non H' α' .non S' t' so' rfl q
end
end DL

/-! DL, 8: small things: the store changed at one place, sizes, the sources of the laws' draws. -/
namespace DL
open PySem L2
theorem rpl_nil {K : PySem.W.Frag} : ∀ (α : Locs) (H : Hp), RpL K α H [] [] := fun _ _ => rfl
theorem set_same {S : Store} {l : Nat} {o o' : Ob} (h : S[l]? = some o) : (S.set l o')[l]? = some o' := List.getElem?_set_self (List.getElem?_eq_some_iff.mp h).1
theorem set_other {S : Store} {l m : Nat} {o o' : Ob} (h : S[m]? = some o) (hne : l ≠ m) : (S.set l o')[m]? = some o := by
  rw [List.getElem?_set_ne hne]; exact h
theorem app_left {S X : Store} {l : Nat} {o : Ob} (h : S[l]? = some o) : (S ++ X)[l]? = some o := by
  rw [List.getElem?_append_left (List.getElem?_eq_some_iff.mp h).1]; exact h
theorem set_set {S : Store} {l : Nat} {o o' : Ob} : (S.set l o).set l o' = S.set l o' := List.set_set ..
theorem CutOk.set {S : Store} {l : Nat} {o : Ob} (h : bndO S.length o) : CutOk S (S.set l o) := fun l' o' hl e => by
  by_cases q : l' = l
  · subst q
    rw [List.getElem?_set_self hl] at e
    cases e
    exact Or.inr h
  · rw [List.getElem?_set_ne (Ne.symm q)] at e
    exact Or.inl e
theorem Rt.set {S : Store} {Q : DK} {l : Nat} {o : Ob} {d : D} (hb : bnd S.length d) (ho : bndO S.length o) (q : Q d (S.set l o)) : Rt S Q d (S.set l o) := by
  unfold Rt
  exact Or.inl ⟨CutOk.set ho, Or.inl ⟨d, .same hb, by rw [List.take_of_length_le (by rw [List.length_set]; exact Nat.le_refl _)]; exact q⟩⟩
/-! sizes -/
theorem line_le {n : Nat} (h : n ≤ 1000) : n ≤ sizeLine := Nat.le_trans h (by decide)
theorem line_lt {n : Nat} (h : n ≤ 1000) : n < sizeLine := Nat.lt_of_le_of_lt h (by decide)
theorem powW {i j : Int} {b : Nat} (hj : 0 ≤ j) (hi : i.natAbs < 2 ^ b) (hb : 0 < b) (h : (b : Int) * j ≤ 2 ^ 27) : CPowW i j := by
  refine ⟨hj, ?_⟩
  have h2 : (PySem.Builtin.Int.intBits i : Int) ≤ (b : Int) := by
    unfold PySem.Builtin.Int.intBits
    split
    · omega
    · rename_i hz
      have := PySem.Flt.log2_lt_of hb hi
      omega
  exact Int.le_trans (Int.mul_le_mul_of_nonneg_right h2 hj) h
theorem divW {i j : Int} {b : Nat} (h : 0 < j) (hb : j.natAbs < 2 ^ b) (h0 : 0 < b) (h9 : b ≤ 9000) : CDivW i j := wide_div h hb h0 h9
theorem abs_lt {i : Int} {n : Nat} (h0 : 0 ≤ i) (h : i < (2 : Int) ^ n) : i.natAbs < 2 ^ n := by
  have e : ((2 : Int) ^ n) = ((2 ^ n : Nat) : Int) := by simp
  rw [e] at h
  omega
theorem mulS {i j : Int} (h1 : -(2 ^ 100) < i ∧ i < 2 ^ 100) (h2 : -(2 ^ 100) < j ∧ j < 2 ^ 100) : CMulW i j := wide_mul (a := 100) (b := 100) (by omega) (by omega) (by decide) (by decide) (by decide)
theorem divS {i j : Int} (h : 0 < j ∧ j < 2 ^ 100) : CDivW i j := divW (b := 100) h.1 (by omega) (by decide) (by decide)
/-! -x -/
def dNeg (t : DT) : DT := fun ρ S Q => t ρ S fun d S1 => onInt d fun i => Q (.int (-i)) S1
theorem de_neg {X : Cx} {a : Expr} {pos : Pos} {t : DT} (h : DE X a t) : DE X (.UnaryOp .USub a pos) (dNeg t) := by
  obtain ⟨⟨t1, h1, h2⟩⟩ := h
  refine ⟨_, pe_un un_neg h1, fun α ρ S σ H Q Q' so ro q k => ?_⟩
  refine h2 α ρ S σ H _ _ so ro q fun v H1 α1 x S1 t1 so1 r1 q1 => ?_
  obtain ⟨i, rfl, rfl, q2⟩ := onInt.rp r1 q1
  exact ⟨i, rfl, (k.stp t1).int so1 q2⟩
theorem hu65 {k : Nat} {A : Around} (r : Room k A) : A.units + 65 < cLine := by have := r.un; omega
/-! in -/
theorem inD_nil (x : D) : inD x [] = false := rfl
theorem inD_int_cons (x a : Int) (ds : List D) : inD (.int x) (.int a :: ds) = (decide (a = x) || inD (.int x) ds) := by
  show ((a == x) || inD (.int x) ds) = _
  rw [Bool.beq_eq_decide_eq]
/-! a source of numbers: what stands at its location -/
def Src (n : Nat) (o : Ob) : Prop := ∃ a b c : Int, o = .lst [.int a, .int b, .int c] ∧ 0 ≤ a ∧ 0 ≤ b ∧ b < 2 ^ 200 ∧ 0 ≤ c ∧ c ≤ (n : Int)
theorem Src.mono {n m : Nat} {o : Ob} (h : Src n o) (hm : n ≤ m) : Src m o := by
  obtain ⟨a, b, c, e, h1, h2, h3, h4, h5⟩ := h
  exact ⟨a, b, c, e, h1, h2, h3, h4, by omega⟩
theorem Src.bnd {n m : Nat} {o : Ob} (h : Src n o) : bndO m o := by
  obtain ⟨a, b, c, rfl, _⟩ := h
  exact ⟨trivial, trivial, trivial, trivial⟩
def SrcAt (S : Store) (l n : Nat) : Prop := ∃ o, S[l]? = some o ∧ Src n o
theorem SrcAt.app {S X : Store} {l n : Nat} (h : SrcAt S l n) : SrcAt (S ++ X) l n := by
  obtain ⟨o, e, q⟩ := h
  exact ⟨o, app_left e, q⟩
/-- the source at l was drawn from, nothing else was touched -/
structure SrcStep (l n : Nat) (S S' : Store) : Prop where
  ex : ∃ o, l < S.length ∧ Src n o ∧ S' = S.set l o
theorem SrcStep.srcAt {l n : Nat} {S S' : Store} (h : SrcStep l n S S') : SrcAt S' l n := by
  obtain ⟨o, hl, ho, rfl⟩ := h
  exact ⟨o, List.getElem?_set_self hl, ho⟩
theorem SrcStep.get {l n m : Nat} {S S' : Store} {o : Option Ob} (h : SrcStep l n S S') (hne : l ≠ m) (e : S[m]? = o) : S'[m]? = o := by
  obtain ⟨o', hl, ho, rfl⟩ := h
  rw [List.getElem?_set_ne hne]; exact e
theorem SrcStep.len {l n : Nat} {S S' : Store} (h : SrcStep l n S S') : S'.length = S.length := by
  obtain ⟨o', hl, ho, rfl⟩ := h
  exact List.length_set ..
theorem SrcStep.trans {l n m : Nat} {S S1 S2 : Store} (h : SrcStep l n S S1) (h2 : SrcStep l m S1 S2) : SrcStep l m S S2 := by
  obtain ⟨o, hl, ho, rfl⟩ := h
  obtain ⟨o2, hl2, ho2, rfl⟩ := h2
  exact ⟨o2, hl, ho2, set_set⟩
theorem SrcStep.mono {l n m : Nat} {S S' : Store} (h : SrcStep l n S S') (hm : n ≤ m) : SrcStep l m S S' := by
  obtain ⟨o, hl, ho, rfl⟩ := h
  exact ⟨o, hl, ho.mono hm, rfl⟩
theorem SrcAt.mono {l n m : Nat} {S : Store} (h : SrcAt S l n) (hm : n ≤ m) : SrcAt S l m := by
  obtain ⟨o, e, ho⟩ := h
  exact ⟨o, e, ho.mono hm⟩
theorem SrcAt.refl {l n : Nat} {S : Store} (h : SrcAt S l n) : SrcStep l n S S := by
  obtain ⟨o, e, ho⟩ := h
  refine ⟨o, (List.getElem?_eq_some_iff.mp e).1, ho, ?_⟩
  apply List.ext_getElem?
  intro j
  rw [List.getElem?_set]
  by_cases q : l = j
  · subst q
    rw [if_pos rfl, if_pos (List.getElem?_eq_some_iff.mp e).1, e]
  · rw [if_neg q]
theorem Rt.src {S S' : Store} {Q : DK} {l n : Nat} {d : D} (h : SrcStep l n S S') (hb : bnd S.length d) (q : Q d S') : Rt S Q d S' := by
  obtain ⟨o, hl, ho, rfl⟩ := h
  exact Rt.set hb ho.bnd q
/-- .. and some things were made behind -/
theorem Rt.srcs {S S' : Store} {Q : DK} {l n : Nat} {d : D} {ex : Store} (h : SrcStep l n S S') (hb : bnd S.length d) (q : Q d S') : Rt S Q d (S' ++ ex) := by
  obtain ⟨o, hl, ho, rfl⟩ := h
  unfold Rt
  refine Or.inl ⟨fun l' o' hl' e => ?_, Or.inl ⟨d, .same hb, ?_⟩⟩
  · rw [List.getElem?_append_left (by rw [List.length_set]; exact hl')] at e
    exact CutOk.set ho.bnd l' o' hl' e
  · have : (S.set l o ++ ex).take S.length = S.set l o := by
      rw [List.take_append_of_le_length (by rw [List.length_set]; exact Nat.le_refl _), List.take_of_length_le (by rw [List.length_set]; exact Nat.le_refl _)]
    rw [this]; exact q
def spDraw : DSp := fun ds S Q E => ∃ (l : Nat) (m : Int) (n : Nat), ds = [.loc l, .int m] ∧ SrcAt S l n ∧ n < 1000000000 ∧ (0 < m ∧ m < 2 ^ 200) ∧
  ∀ r S', 0 ≤ r → r < m → SrcStep l (n + 1) S S' → Q (.int r) S'
/-- the arithmetic of a draw -/
theorem draw_sizes {b c : Int} {n : Nat} (hb : 0 ≤ b) (hb2 : b < 2 ^ 200) (hc : 0 ≤ c) (hcn : c ≤ (n : Int)) (hn : n < 1000000000) :
    CMulW 15485863 (c + 1) ∧ CMulW 32452843 (c + 1) ∧ CPowW (b + 15485863 * (c + 1)) 3 ∧ ∀ x : Int, CPowW (x % (10 ^ 35 + 69) + 32452843 * (c + 1)) 3 := by
  have h1 : (c + 1).natAbs < 2 ^ 40 := by omega
  refine ⟨wide_mul (a := 30) (b := 40) (by decide) h1 (by decide) (by decide) (by decide), wide_mul (a := 30) (b := 40) (by decide) h1 (by decide) (by decide) (by decide),
    powW (b := 300) (by decide) ?_ (by decide) (by decide), fun x => powW (b := 300) (by decide) ?_ (by decide) (by decide)⟩
  · refine abs_lt (by omega) ?_
    have : (2 : Int) ^ 200 + 2 ^ 200 ≤ 2 ^ 300 := by decide
    have h2 : 15485863 * (c + 1) < (2 : Int) ^ 200 := by
      have : (15485863 : Int) * 1000000000 < 2 ^ 200 := by decide
      omega
    omega
  · have hx : 0 ≤ x % (10 ^ 35 + 69) := Int.emod_nonneg _ (by decide)
    have hx2 : x % (10 ^ 35 + 69) < 10 ^ 35 + 69 := Int.emod_lt_of_pos _ (by decide)
    refine abs_lt (by omega) ?_
    have : (10 : Int) ^ 35 + 69 + 2 ^ 200 ≤ 2 ^ 300 := by decide
    have h2 : 32452843 * (c + 1) < (2 : Int) ^ 200 := by
      have : (32452843 : Int) * 1000000000 < 2 ^ 200 := by decide
      omega
    omega
end DL
namespace DL
open PySem L2
/-! a statement where the walk stops, for a word about what holds behind it -/
/-- (a box that no reduction opens, neither the elaborator's nor the kernel's) -/
inductive MkP (n : Nat) (p : Prop) : Prop
  | mk (h : p) : MkP n p
@[irreducible] def sMark (n : Nat) (u : DS) : DS := fun E ρ S => MkP n (u E ρ S)
theorem mark_of {n : Nat} {u : DS} {E : DEnds} {ρ : Rho} {S : Store} (h : sMark n u E ρ S) : u E ρ S := by
  unfold sMark at h
  exact h.1
theorem mark_go {n : Nat} {u : DS} {E : DEnds} {ρ : Rho} {S : Store} (h : u E ρ S) : sMark n u E ρ S := by
  unfold sMark
  exact ⟨h⟩
theorem ds_mark {X : Cx} {st : Stmt} {u : DS} (n : Nat) (h : DSt X st u) : DSt X st (sMark n u) := by
  obtain ⟨⟨ts, h1, h2⟩⟩ := h
  exact ⟨ts, h1, fun α ρ S σ H E F so ro q k => h2 α ρ S σ H E F so ro (mark_of q) k⟩
theorem mark_join {n : Nat} {u : DS} {E : DEnds} {ρ : Rho} {S : Store} (P : Rho → Store → Prop) (h1 : ∀ N : Rho → Store → Prop, (∀ ρ' S', P ρ' S' → N ρ' S') → u { E with nx := N } ρ S) (h2 : ∀ ρ' S', P ρ' S' → E.nx ρ' S') : sMark n u E ρ S :=
  mark_go (h1 E.nx h2)
end DL

/-! DL, 9: dicts with keys of ints, texts, or tuples of such. -/
namespace DL
open PySem PySem.Spec PyProof.Rows L2
def keyK : D → Option Key
  | .int i => some (.inl i)
  | .str s => some (.inr s)
  | _ => none
def keyL : List D → Option (List Key)
  | [] => some []
  | d :: r => match keyK d, keyL r with
    | some k, some ks => some (k :: ks)
    | _, _ => none
def keyT : D → Option (List Key)
  | .tup ds => keyL ds
  | _ => none
def valD {κ : Type} [DecidableEq κ] (kvs : List (κ × D)) (k : κ) : Option D := (kvs.find? fun kv => decide (kv.1 = k)).map (·.2)
def stoD {κ : Type} [DecidableEq κ] (kvs : List (κ × D)) (k : κ) (v : D) : List (κ × D) :=
  if (kvs.any fun kv => decide (kv.1 = k)) = true then kvs.map (fun kv => if kv.1 = k then (kv.1, v) else kv) else kvs ++ [(k, v)]
section
variable {K : PySem.W.Frag} {α : Locs} {H : Hp}
def RpO (K : PySem.W.Frag) (α : Locs) (H : Hp) : Option V → Option D → Prop
  | none, none => True
  | some v, some d => Rp K α H v d
  | _, _ => False
theorem keyK_rp {d : D} {v : V} {k : Key} (r : Rp K α H v d) (h : keyK d = some k) : v = kV k := by
  cases d with
  | int i => cases h; exact r
  | str s => cases h; exact r
  | _ => cases h
theorem keyL_rp : ∀ {ds : List D} {xs : List V} {ks : List Key}, RpL K α H xs ds → keyL ds = some ks → xs = ks.map kV
  | [], xs, ks, r, h => by cases h; exact r
  | d :: ds, xs, ks, ⟨v, t, e, r1, r2⟩, h => by
    subst e
    unfold keyL at h
    cases e1 : keyK d with
    | none => rw [e1] at h; cases h
    | some k =>
      cases e2 : keyL ds with
      | none => rw [e1, e2] at h; cases h
      | some ks' =>
        rw [e1, e2] at h
        cases h
        rw [List.map_cons, keyK_rp r1 e1, keyL_rp r2 e2]
theorem keyT_rp {d : D} {v : V} {k : List Key} (r : Rp K α H v d) (h : keyT d = some k) : ∃ b, v = .ref b ∧ H b = some (.tup (k.map kV)) := by
  cases d with
  | tup ds =>
    obtain ⟨a, xs, e, t, r⟩ := r
    refine ⟨a, e, ?_⟩
    rw [← keyL_rp r h]
    exact t.1
  | _ => cases h
theorem RpK.val : ∀ {kvs : List (Key × D)} {xs : List (Key × V)} (k : Key), RpK K α H xs kvs → RpO K α H (valV xs k) (valD kvs k)
  | [], xs, k, r => by
    cases (show xs = [] from r)
    exact True.intro
  | (k', d) :: kvs, xs, k, ⟨v, t, e, r1, r2⟩ => by
    subst e
    by_cases h : k' = k
    · rw [valV_pos (p := (k', v)) h]
      have : valD ((k', d) :: kvs) k = some d := by simp [valD, List.find?_cons, h]
      rw [this]
      exact r1
    · rw [valV_neg (p := (k', v)) h]
      have : valD ((k', d) :: kvs) k = valD kvs k := by simp [valD, List.find?_cons, h]
      rw [this]
      exact RpK.val k r2
theorem RpT.val : ∀ {kvs : List (List Key × D)} {xs : List (List Key × V)} (k : List Key), RpT K α H xs kvs → RpO K α H (valV xs k) (valD kvs k)
  | [], xs, k, r => by
    cases (show xs = [] from r)
    exact True.intro
  | (k', d) :: kvs, xs, k, ⟨v, t, e, r1, r2⟩ => by
    subst e
    by_cases h : k' = k
    · rw [valV_pos (p := (k', v)) h]
      have : valD ((k', d) :: kvs) k = some d := by simp [valD, List.find?_cons, h]
      rw [this]
      exact r1
    · rw [valV_neg (p := (k', v)) h]
      have : valD ((k', d) :: kvs) k = valD kvs k := by simp [valD, List.find?_cons, h]
      rw [this]
      exact RpT.val k r2
theorem RpK.len : ∀ {kvs : List (Key × D)} {xs : List (Key × V)}, RpK K α H xs kvs → xs.length = kvs.length
  | [], xs, r => by cases (show xs = [] from r); rfl
  | _ :: kvs, xs, ⟨v, t, e, r1, r2⟩ => by subst e; rw [List.length_cons, List.length_cons, RpK.len r2]
theorem RpT.len : ∀ {kvs : List (List Key × D)} {xs : List (List Key × V)}, RpT K α H xs kvs → xs.length = kvs.length
  | [], xs, r => by cases (show xs = [] from r); rfl
  | _ :: kvs, xs, ⟨v, t, e, r1, r2⟩ => by subst e; rw [List.length_cons, List.length_cons, RpT.len r2]
theorem RpK.any : ∀ {kvs : List (Key × D)} {xs : List (Key × V)} (k : Key), RpK K α H xs kvs → (xs.any fun kv => decide (kv.1 = k)) = (kvs.any fun kv => decide (kv.1 = k))
  | [], xs, k, r => by cases (show xs = [] from r); rfl
  | _ :: kvs, xs, k, ⟨v, t, e, r1, r2⟩ => by subst e; rw [List.any_cons, List.any_cons, RpK.any k r2]
theorem RpT.any : ∀ {kvs : List (List Key × D)} {xs : List (List Key × V)} (k : List Key), RpT K α H xs kvs → (xs.any fun kv => decide (kv.1 = k)) = (kvs.any fun kv => decide (kv.1 = k))
  | [], xs, k, r => by cases (show xs = [] from r); rfl
  | _ :: kvs, xs, k, ⟨v, t, e, r1, r2⟩ => by subst e; rw [List.any_cons, List.any_cons, RpT.any k r2]
theorem RpK.mapPut {v : V} {d : D} (r : Rp K α H v d) (k : Key) : ∀ {kvs : List (Key × D)} {xs : List (Key × V)}, RpK K α H xs kvs → RpK K α H (xs.map fun kv => if kv.1 = k then (kv.1, v) else kv) (kvs.map fun kv => if kv.1 = k then (kv.1, d) else kv)
  | [], xs, h => by cases (show xs = [] from h); rfl
  | (k', d') :: kvs, xs, ⟨v', t, e, r1, r2⟩ => by
    subst e
    rw [List.map_cons, List.map_cons]
    by_cases q : k' = k
    · rw [if_pos q, if_pos q]
      exact ⟨v, _, rfl, r, RpK.mapPut r k r2⟩
    · rw [if_neg q, if_neg q]
      exact ⟨v', _, rfl, r1, RpK.mapPut r k r2⟩
theorem RpT.mapPut {v : V} {d : D} (r : Rp K α H v d) (k : List Key) : ∀ {kvs : List (List Key × D)} {xs : List (List Key × V)}, RpT K α H xs kvs → RpT K α H (xs.map fun kv => if kv.1 = k then (kv.1, v) else kv) (kvs.map fun kv => if kv.1 = k then (kv.1, d) else kv)
  | [], xs, h => by cases (show xs = [] from h); rfl
  | (k', d') :: kvs, xs, ⟨v', t, e, r1, r2⟩ => by
    subst e
    rw [List.map_cons, List.map_cons]
    by_cases q : k' = k
    · rw [if_pos q, if_pos q]
      exact ⟨v, _, rfl, r, RpT.mapPut r k r2⟩
    · rw [if_neg q, if_neg q]
      exact ⟨v', _, rfl, r1, RpT.mapPut r k r2⟩
theorem RpK.snoc {v : V} {d : D} (r : Rp K α H v d) (k : Key) : ∀ {kvs : List (Key × D)} {xs : List (Key × V)}, RpK K α H xs kvs → RpK K α H (xs ++ [(k, v)]) (kvs ++ [(k, d)])
  | [], xs, h => by cases (show xs = [] from h); exact ⟨v, _, rfl, r, rfl⟩
  | (k', d') :: kvs, xs, ⟨v', t, e, r1, r2⟩ => by subst e; exact ⟨v', _, rfl, r1, RpK.snoc r k r2⟩
theorem RpT.snoc {v : V} {d : D} (r : Rp K α H v d) (k : List Key) : ∀ {kvs : List (List Key × D)} {xs : List (List Key × V)}, RpT K α H xs kvs → RpT K α H (xs ++ [(k, v)]) (kvs ++ [(k, d)])
  | [], xs, h => by cases (show xs = [] from h); exact ⟨v, _, rfl, r, rfl⟩
  | (k', d') :: kvs, xs, ⟨v', t, e, r1, r2⟩ => by subst e; exact ⟨v', _, rfl, r1, RpT.snoc r k r2⟩
theorem RpK.put {v : V} {d : D} (r : Rp K α H v d) (k : Key) {kvs : List (Key × D)} {xs : List (Key × V)} (h : RpK K α H xs kvs) : RpK K α H (putK xs k v) (stoD kvs k d) := by
  unfold putK stoD
  rw [RpK.any k h]
  split
  · exact RpK.mapPut r k h
  · exact RpK.snoc r k h
theorem RpT.put {v : V} {d : D} (r : Rp K α H v d) (k : List Key) {kvs : List (List Key × D)} {xs : List (List Key × V)} (h : RpT K α H xs kvs) : RpT K α H (putK xs k v) (stoD kvs k d) := by
  unfold putK stoD
  rw [RpT.any k h]
  split
  · exact RpT.mapPut r k h
  · exact RpT.snoc r k h
/-- x[y], there or not -/
def onDget (x y : D) (S : Store) (P : Option D → Prop) : Prop := match x with
  | .dk kvs => onOpt (keyK y) fun k => P (valD kvs k)
  | .dt kvs => onOpt (keyT y) fun k => P (valD kvs k)
  | .loc l => onOpt S[l]? fun o => match o with
    | .dk kvs => onOpt (keyK y) fun k => P (valD kvs k)
    | .dt kvs => onOpt (keyT y) fun k => P (valD kvs k)
    | _ => False
  | _ => False
theorem onDget.rp {S : Store} {x y : D} {v u : V} {P : Option D → Prop} (so : StoreOk K α H S) (rx : Rp K α H v x) (ry : Rp K α H u y) (h : onDget x y S P) :
    ∃ a o d, v = .ref a ∧ IsD H a ∧ DGet H a u o ∧ RpO K α H o d ∧ P d := by
  have hK : ∀ {a : Addr} {xs : List (Key × V)} {kvs : List (Key × D)}, H a = some (.dK xs) → RpK K α H xs kvs → (onOpt (keyK y) fun k => P (valD kvs k)) → ∃ o d, IsD H a ∧ DGet H a u o ∧ RpO K α H o d ∧ P d := fun {a xs kvs} e r h => by
    obtain ⟨k, hk, h⟩ := h
    exact ⟨_, _, Or.inl ⟨_, Or.inl e⟩, Or.inl ⟨xs, k, Or.inl e, keyK_rp ry hk, rfl⟩, RpK.val k r, h⟩
  have hT : ∀ {a : Addr} {xs : List (List Key × V)} {kvs : List (List Key × D)}, H a = some (.dT xs) → RpT K α H xs kvs → (onOpt (keyT y) fun k => P (valD kvs k)) → ∃ o d, IsD H a ∧ DGet H a u o ∧ RpO K α H o d ∧ P d := fun {a xs kvs} e r h => by
    obtain ⟨k, hk, h⟩ := h
    obtain ⟨b, eb, hb⟩ := keyT_rp ry hk
    exact ⟨_, _, Or.inr ⟨_, Or.inl e⟩, Or.inr ⟨xs, k, b, Or.inl e, eb, hb, rfl⟩, RpT.val k r, h⟩
  cases x with
  | dk kvs =>
    obtain ⟨a, xs, e, hs, _, hr⟩ := rx
    obtain ⟨o, d, h1⟩ := hK hs hr h
    exact ⟨a, o, d, e, h1⟩
  | dt kvs =>
    obtain ⟨a, xs, e, hs, _, hr⟩ := rx
    obtain ⟨o, d, h1⟩ := hT hs hr h
    exact ⟨a, o, d, e, h1⟩
  | loc l =>
    obtain ⟨a, e2, ha⟩ := rx
    obtain ⟨o, ho, h⟩ : onOpt S[l]? _ := h
    have hob := so.ob l a o ha ho
    cases o with
    | dk kvs =>
      obtain ⟨xs, hs, hr⟩ := hob
      obtain ⟨o, d, h1⟩ := hK hs hr h
      exact ⟨a, o, d, e2, h1⟩
    | dt kvs =>
      obtain ⟨xs, hs, hr⟩ := hob
      obtain ⟨o, d, h1⟩ := hT hs hr h
      exact ⟨a, o, d, e2, h1⟩
    | _ => exact h.elim
  | _ => exact h.elim
end
section
variable {X : Cx} {e a b c o : Expr} {es : List Expr} {pos : Pos} {t ta tb to ti : DT}
/-- k in d, by values -/
def rDIn : R2 := fun y x H Q => ∃ a o, x = .ref a ∧ DGet H a y o ∧ Q (.bl o.isSome) H
theorem op_dIn (hu : X.A.units + 1 < cLine) : OpR X (compareOp .In) rDIn := fun pins s σ H y x u v Q I ry rx h => by
  obtain ⟨a, ov, ex, g, q⟩ := h
  subst ex
  obtain rfl : v = Value.ref a := rx
  exact d_in hu I g ry fun s3 I3 => ⟨.bl ov.isSome, H, I3, rfl, q⟩
def rDNotIn : R2 := fun y x H Q => ∃ a o, x = .ref a ∧ DGet H a y o ∧ Q (.bl (!o.isSome)) H
theorem op_dNotIn (hu : X.A.units + 1 < cLine) : OpR X (compareOp .NotIn) rDNotIn := fun pins s σ H y x u v Q I ry rx h => by
  obtain ⟨a, ov, ex, g, q⟩ := h
  subst ex
  obtain rfl : v = Value.ref a := rx
  exact d_notIn hu I g ry fun s3 I3 => ⟨.bl (!ov.isSome), H, I3, rfl, q⟩
theorem RpO.some? {K : PySem.W.Frag} {α : Locs} {H : Hp} {o : Option V} {d : Option D} (r : RpO K α H o d) : o.isSome = d.isSome := by
  cases o <;> cases d <;> first | rfl | exact r.elim
def rdDIn : RD := fun y x S Q => onDget x y S fun o => Q (.bl o.isSome) S
def rdDNotIn : RD := fun y x S Q => onDget x y S fun o => Q (.bl (!o.isSome)) S
theorem od_dIn (hu : X.A.units + 65 < cLine) : OpD X (compareOp .In) rdDIn := ⟨_, op_dIn (by omega), fun α S H y x u v Q Q' so ry rx h k => by
  obtain ⟨a, o, d, e, _, g, r, q⟩ := onDget.rp so rx ry h
  refine ⟨a, o, e, g, ?_⟩
  rw [r.some?]
  exact k.bl so q⟩
theorem od_dNotIn (hu : X.A.units + 65 < cLine) : OpD X (compareOp .NotIn) rdDNotIn := ⟨_, op_dNotIn (by omega), fun α S H y x u v Q Q' so ry rx h k => by
  obtain ⟨a, o, d, e, _, g, r, q⟩ := onDget.rp so rx ry h
  refine ⟨a, o, e, g, ?_⟩
  rw [r.some?]
  exact k.bl so q⟩
/-- d[k] -/
def rdDGet : RD := fun x y S Q => onDget x y S fun o => onOpt o fun d => Q d S
def dDget (to ti : DT) : DT := dOp rdDGet to ti
theorem de_dget (hu : X.A.units + 65 < cLine) (ho : DE X o to) (hi : DE X e ti) (hs : NoSl e) : DE X (.Subscript o e pos) (dDget to ti) := by
  obtain ⟨⟨t1, h1, h2⟩⟩ := ho
  obtain ⟨⟨t2, h3, h4⟩⟩ := hi
  refine ⟨_, pe_dget (by omega) h1 h3 hs, fun α ρ S σ H Q Q' so ro q k => ?_⟩
  refine h2 α ρ S σ H _ _ so ro q fun ov H1 α1 x S1 t1 so1 r1 q1 => ?_
  refine h4 α1 ρ S1 σ H1 _ _ so1 (ro.stp t1) q1 fun iv H2 α2 y S2 t2 so2 r2 q2 => ?_
  obtain ⟨a, o, d, e, _, g, r, q3⟩ := onDget.rp so2 (Rp.stp t2 _ _ r1) r2 q2
  obtain ⟨d', hd, q4⟩ := q3
  subst hd
  cases o with
  | none => exact r.elim
  | some v => exact ⟨a, v, e, g, k v H2 α2 d' S2 (t1.trans t2) so2 r q4⟩
/-- d.get(k) -/
def dDget1 (to ti : DT) : DT := fun ρ S Q => to ρ S fun x S1 => (onDct x S1) ∧ ti ρ S1 fun y S2 => onDget x y S2 fun o => Q (o.getD .non) S2
where onDct (x : D) (S : Store) : Prop := match x with
  | .dk _ => True
  | .dt _ => True
  | .loc l => (∃ kvs, S[l]? = some (.dk kvs)) ∨ ∃ kvs, S[l]? = some (.dt kvs)
  | _ => False
theorem onDct.rp {K : PySem.W.Frag} {α : Locs} {H : Hp} {S : Store} {x : D} {v : V} (so : StoreOk K α H S) (r : Rp K α H v x) (h : dDget1.onDct x S) : ∃ a, v = .ref a ∧ IsD H a := by
  cases x with
  | dk kvs =>
    obtain ⟨a, xs, e, hs, _⟩ := r
    exact ⟨a, e, Or.inl ⟨_, Or.inl hs⟩⟩
  | dt kvs =>
    obtain ⟨a, xs, e, hs, _⟩ := r
    exact ⟨a, e, Or.inr ⟨_, Or.inl hs⟩⟩
  | loc l =>
    obtain ⟨a, e2, ha⟩ := r
    rcases h with ⟨kvs, h⟩ | ⟨kvs, h⟩
    · obtain ⟨xs, hs, _⟩ := so.ob l a _ ha h
      exact ⟨a, e2, Or.inl ⟨_, Or.inl hs⟩⟩
    · obtain ⟨xs, hs, _⟩ := so.ob l a _ ha h
      exact ⟨a, e2, Or.inr ⟨_, Or.inl hs⟩⟩
  | _ => exact h.elim
theorem de_dget1 {apos cpos : Pos} (hu : X.A.units + 65 < cLine) (ho : DE X o to) (he : DE X e ti) (m : M1 X o "get" apos e cpos) : DE X (.Call (.Attribute o "get" apos) [e] [] cpos) (dDget1 to ti) := by
  obtain ⟨⟨t1, h1, h2⟩⟩ := ho
  obtain ⟨⟨t2, h3, h4⟩⟩ := he
  refine ⟨_, pe_dget1 (by omega) h1 h3 m, fun α ρ S σ H Q Q' so ro q k => ?_⟩
  refine h2 α ρ S σ H _ _ so ro q fun ov H1 α1 x S1 t1 so1 r1 q1 => ?_
  obtain ⟨a, e, isd⟩ := onDct.rp so1 r1 q1.1
  refine ⟨a, e, isd, ?_⟩
  refine h4 α1 ρ S1 σ H1 _ _ so1 (ro.stp t1) q1.2 fun iv H2 α2 y S2 t2 so2 r2 q2 => ?_
  obtain ⟨a', o, d, e', _, g, r, q3⟩ := onDget.rp so2 (Rp.stp t2 _ _ r1) r2 q2
  rw [e] at e'
  cases e'
  refine ⟨o, g, ?_⟩
  refine k _ H2 α2 _ S2 (t1.trans t2) so2 ?_ q3
  cases o <;> cases d <;> first | exact r.elim | exact r | exact (rfl : V.non = V.non)
def dDget2 (to ti tx : DT) : DT := fun ρ S Q => to ρ S fun x S1 => (dDget1.onDct x S1) ∧ ti ρ S1 fun y S2 => tx ρ S2 fun z S3 => onDget x y S3 fun o => Q (o.getD z) S3
theorem de_dget2 {f : Expr} {tx : DT} {apos cpos : Pos} (hu : X.A.units + 65 < cLine) (ho : DE X o to) (he : DE X e ti) (hf : DE X f tx) (m : M2 X o "get" apos e f cpos) : DE X (.Call (.Attribute o "get" apos) [e, f] [] cpos) (dDget2 to ti tx) := by
  obtain ⟨⟨t1, h1, h2⟩⟩ := ho
  obtain ⟨⟨t2, h3, h4⟩⟩ := he
  obtain ⟨⟨t3, h5, h6⟩⟩ := hf
  refine ⟨_, pe_dget2 (by omega) h1 h3 h5 m, fun α ρ S σ H Q Q' so ro q k => ?_⟩
  refine h2 α ρ S σ H _ _ so ro q fun ov H1 α1 x S1 t1 so1 r1 q1 => ?_
  obtain ⟨a, e, isd⟩ := onDct.rp so1 r1 q1.1
  refine ⟨a, e, isd, ?_⟩
  refine h4 α1 ρ S1 σ H1 _ _ so1 (ro.stp t1) q1.2 fun iv H2 α2 y S2 t2 so2 r2 q2 => ?_
  refine h6 α2 ρ S2 σ H2 _ _ so2 (ro.stp (t1.trans t2)) q2 fun zv H3 α3 z S3 t3 so3 r3 q3 => ?_
  obtain ⟨a', o, d, e', _, g, r, q4⟩ := onDget.rp so3 (Rp.stp (t2.trans t3) _ _ r1) (Rp.stp t3 _ _ r2) q3
  rw [e] at e'
  cases e'
  refine ⟨o, g, ?_⟩
  refine k _ H3 α3 _ S3 ((t1.trans t2).trans t3) so3 ?_ q4
  cases o <;> cases d <;> first | exact r.elim | exact r | exact r3
/-- {} -/
def dNewT : DT := fun _ S Q => Q (.loc S.length) (S ++ [.dt []])
theorem de_newT : DE X (.Dict [] [] pos) dNewT := ⟨_, pe_dnewT, fun α ρ S σ H Q Q' so ro q k => by
  intro p hp
  have tp := Stp.push (α := α) (o := HO.dT []) hp
  have hloc : (α ++ [some p])[S.length]? = some (some p) := by
    have hlen : α.length = S.length := so.len
    rw [← hlen, List.getElem?_append_right (Nat.le_refl _), Nat.sub_self]; rfl
  exact k _ _ (α ++ [some p]) (.loc S.length) _ tp (so.push (o := .dT []) (ob := .dt []) hp ⟨[], upd_same, rfl⟩) ⟨p, rfl, hloc⟩ q⟩
def dNewK : DT := fun _ S Q => Q (.loc S.length) (S ++ [.dk []])
theorem de_newK : DE X (.Dict [] [] pos) dNewK := ⟨_, pe_dnewK, fun α ρ S σ H Q Q' so ro q k => by
  intro p hp
  have tp := Stp.push (α := α) (o := HO.dK []) hp
  have hloc : (α ++ [some p])[S.length]? = some (some p) := by
    have hlen : α.length = S.length := so.len
    rw [← hlen, List.getElem?_append_right (Nat.le_refl _), Nat.sub_self]; rfl
  exact k _ _ (α ++ [some p]) (.loc S.length) _ tp (so.push (o := .dK []) (ob := .dk []) hp ⟨[], upd_same, rfl⟩) ⟨p, rfl, hloc⟩ q⟩
/-- d[k] = v -/
def onDput (x y d : D) (S : Store) (P : Store → Prop) : Prop := match x with
  | .loc l => onOpt S[l]? fun o => match o with
    | .dk kvs => onOpt (keyK y) fun k => kvs.length < sizeLine ∧ P (S.set l (.dk (stoD kvs k d)))
    | .dt kvs => onOpt (keyT y) fun k => kvs.length < sizeLine ∧ P (S.set l (.dt (stoD kvs k d)))
    | _ => False
  | _ => False
def gdPut (to ti : DT) : DG := fun d ρ S Q => to ρ S fun x S1 => ti ρ S1 fun y S2 => onDput x y d S2 fun S3 => Q ρ S3
theorem dg_put {i : Expr} (hu : X.A.units + 65 < cLine) (ho : DE X o to) (hi : DE X i ti)
    (ha : ∀ v, assign (.Subscript o i pos) X.env v = (do
      let ov ← holding [v] (eval o X.env)
      let iv ← holding [v, ov] (eval i X.env)
      standAt pos
      holding [v, ov, iv] (setItem ov iv v)
      release [v, ov, iv] []) := by intro _; rfl) : DGt X (.Subscript o i pos) [] (gdPut to ti) := by
  obtain ⟨⟨t1, h1, h2⟩⟩ := ho
  obtain ⟨⟨t2, h3, h4⟩⟩ := hi
  refine ⟨_, pg_sub h1 h3 (set_dict (by omega)) ha, fun α ρ S σ H v d Q Q' so ro r q k => ?_⟩
  refine h2 α ρ S σ H _ _ so ro q fun ov H1 α1 x S1 t1 so1 r1 q1 => ?_
  refine h4 α1 ρ S1 σ H1 _ _ so1 (ro.stp t1) q1 fun iv H2 α2 y S2 t2 so2 r2 q2 => ?_
  have t12 := t1.trans t2
  have rd := Rp.stp t12 _ _ r
  cases x with
  | loc l =>
    obtain ⟨a, e2, ha⟩ := Rp.stp t2 _ _ r1
    obtain ⟨o, ho, q3⟩ : onOpt S2[l]? _ := q2
    have hob := so2.ob l a o ha ho
    cases o with
    | dk kvs =>
      obtain ⟨xs, hs, hr⟩ := hob
      obtain ⟨kk, hk, hz, q4⟩ := q3
      have tm := Stp.mut (u := HO.dK (putK xs kk v)) ha hs
      refine ⟨a, _, e2, Or.inl ⟨xs, kk, hs, keyK_rp r2 hk, by rw [RpK.len hr]; exact hz, rfl⟩, ?_⟩
      exact k σ _ α2 ρ _ (SameBut.refl _ _) (t12.trans tm) (so2.set (ob := .dk (stoD kvs kk d)) ha hs ⟨_, upd_same, RpK.stp tm _ _ (RpK.put rd kk hr)⟩) (ro.stp (t12.trans tm)) q4
    | dt kvs =>
      obtain ⟨xs, hs, hr⟩ := hob
      obtain ⟨kk, hk, hz, q4⟩ := q3
      obtain ⟨b, eb, hb⟩ := keyT_rp r2 hk
      have tm := Stp.mut (u := HO.dT (putK xs kk v)) ha hs
      refine ⟨a, _, e2, Or.inr ⟨xs, kk, b, hs, eb, hb, by rw [RpT.len hr]; exact hz, rfl⟩, ?_⟩
      exact k σ _ α2 ρ _ (SameBut.refl _ _) (t12.trans tm) (so2.set (ob := .dt (stoD kvs kk d)) ha hs ⟨_, upd_same, RpT.stp tm _ _ (RpT.put rd kk hr)⟩) (ro.stp (t12.trans tm)) q4
    | _ => exact q3.elim
  | _ => exact q2.elim
end
end DL

/-! DL, 10: star parameters and arguments, classmethods, class constants, what is never reached. -/
namespace DL
open PySem PySem.Spec PyProof.Rows L2 StX ClX
/-- a statement that is never reached -/
def sNever : DS := fun _ _ _ => False
theorem ds_never {X : Cx} (st : Stmt) : DSt X st sNever := ⟨fun _ _ _ => False, ⟨fun pins s σ H D I h => h.elim⟩, fun α ρ S σ H E F so ro q k => q⟩
section
variable {X : Cx} {e a b c o : Expr} {es : List Expr} {pos p apos : Pos} {t ta tb to ti : DT} {td : DA}
def dStar (t : DT) (td : DA) : DA := fun ρ S Q => t ρ S fun d S1 => onSeq d S1 fun xs => td ρ S1 fun ys S2 => Q (xs ++ ys) S2
theorem da_star (he : DE X e t) (hr : DAs X es td) (hs : starEach (.Starred e p :: es) X.env = (true, eval e X.env) :: starEach es X.env := by rfl) : DAs X (.Starred e p :: es) (dStar t td) := by
  obtain ⟨⟨t1, h1, h2⟩⟩ := he
  obtain ⟨⟨t2, h3, h4⟩⟩ := hr
  refine ⟨_, pa_star h1 h3 hs, fun α ρ S σ H Q Q' so ro q k => ?_⟩
  refine h2 α ρ S σ H _ _ so ro q fun v H1 α1 d S1 s1 so1 r1 q1 => ?_
  obtain ⟨a, xs, ds, rfl, hsq, hr, q2⟩ := onSeq.rp so1 r1 q1
  refine ⟨a, xs, rfl, hsq.symm, ?_⟩
  refine h4 α1 ρ S1 σ H1 _ _ so1 (ro.stp s1) q2 fun vs H2 α2 ys S2 s2 so2 r2 q3 => ?_
  exact k _ H2 α2 _ S2 (s1.trans s2) so2 (RpL.append (RpL.stp s2 _ _ hr) r2) q3
/-! a def with a star parameter -/
def spStar (K : PySem.W.Frag) (n : Nat) (dsp : DSp) : Sp := fun vs H Q E => (n ≤ vs.length ∧ vs.length ≤ n + 1000) ∧ ∃ α S ds Qd Ed, StoreOk K α H S ∧ RpL K α H vs ds ∧ dsp (ds.take n ++ [.tup (ds.drop n)]) S Qd Ed ∧ KE K α H Qd Q ∧ KX K α H Ed E
end
section
variable {P : Program} {w : World} {K : PySem.W.Frag} {mg : Str → Option Value} {base : Heap} {x qual pv : Str} {st : Stmt} {f : Addr} {fd : FuncData} {N ps : List Str} {k : Nat} {dsp : DSp} {t : DS}
theorem dfn_star (F : Fun K x qual st f fd) (S : FnScope N (ps ++ [pv]) (defScope st)) (hlen : ∀ ds S Q E, dsp ds S Q E → ds.length = ps.length + 1)
    (hb : ∀ (kV doc pm : Value) (an : Option Addr) (cdv ct : Value) (us rest : List Value), us.length = ps.length → bindArgs (PySem.W.fnOf x qual (defArgs st) (defBody st) (defScope st) .none kV doc pm an cdv ct) ⟨us ++ rest, []⟩ = (newTuple rest >>= fun t => pure (ps.zip us ++ [(pv, t)])))
    (hbody : ∀ (cdv : Value) (A : Around) (outer : List Env) (s : Shared) (H : Hp) (E : XK), Room k (A.deeper (envOfC qual (defScope st) s.heap.objs.size f cdv)) → DSs (cxOf CX0 P w K mg base N qual (defScope st) f cdv A outer s H E).nox (defBody st) t)
    (spec : ∀ ds S Q E, bndL S.length ds → dsp ds S Q E → t { nx := fun _ S' => Rt S Q .non S', rt := Rt S Q } (startR N.length ds) S) : FnR P w K mg base CX0 (k + 1) f (spStar K ps.length dsp) := by
  obtain ⟨oc, od, kV, doc, pm, an, cdv, ct, osl, rfl, lk, hcd⟩ := F.ex
  have main := fn_star (CX := CX0) (P := P) (w := w) (mg := mg) (base := base) (k := k) (sp := spOf K (ps.length + 1) dsp) lk hcd S cxUp_none (hb kV doc pm an cdv ct) fun A outer s H vs Q E hr h => ?_
  · refine FnR.imp main fun vs H Q E h => ?_
    obtain ⟨⟨h1, h2⟩, α, S0, ds, Qd, Ed, so, r, hd, ke, kx⟩ := h
    refine ⟨vs.take ps.length, vs.drop ps.length, (List.take_append_drop _ _).symm, by rw [List.length_take]; omega, by rw [List.length_drop]; exact line_le (by omega), fun p hp => ?_⟩
    have tp := Stp.new_ (α := α) (o := HO.tup (vs.drop ps.length)) hp
    have so2 := so.grow (keep_new (o := HO.tup (vs.drop ps.length)) hp)
    have r2 : RpL K α (upd H p (.tup (vs.drop ps.length))) (vs.take ps.length ++ [V.ref p]) (ds.take ps.length ++ [.tup (ds.drop ps.length)]) := RpL.append (RpL.stp tp _ _ (RpL.take _ r)) ⟨_, _, rfl, ⟨p, _, rfl, ⟨upd_same, so.off_new hp⟩, RpL.stp tp _ _ (RpL.drop _ r)⟩, rfl⟩
    refine ⟨by rw [r2.len]; exact hlen _ _ _ _ hd, α, S0, _, Qd, Ed, so2, r2, hd, ?_, ?_⟩
    · exact ke.stp tp
    · exact fun C od H' α' S' fs t' so' x e => kx C od H' α' S' fs (tp.trans t') so' x e
  · obtain ⟨hl, α, S0, ds, Qd, Ed, so, r, hd, ke, kx⟩ := h
    obtain ⟨⟨ts, h1, h2⟩⟩ := hbody cdv A outer s H E hr
    refine ⟨ts, h1.nox, ?_⟩
    have hpl : (ps ++ [pv]).length ≤ N.length := by have := congrArg List.length S.pre; rw [List.length_take] at this; omega
    have hds : ds.length ≤ N.length := by rw [hlen _ _ _ _ hd]; rw [List.length_append] at hpl; exact hpl
    have fin : ∀ v H' α' d S', Stp α H α' H' → StoreOk K α' H' S' → Rp K α' H' v d → Rt S0 Qd d S' → Q v H' := fun v H' α' d S' t' so' r' q => Rt.fin so t' so' r' q ke
    have bd : bndL S0.length ds := by rw [← so.len]; exact r.bnd
    refine h2 α (startR N.length ds) S0 (start N vs) H _ _ so (startR_ok r hds) (spec ds S0 Qd Ed bd hd) ⟨?_, fin, fun _ _ _ _ _ _ _ _ z => z.elim, fun _ _ _ _ _ _ _ _ z => z.elim⟩
    intro σ' H' α' ρ' S' t' so' ro' q
    exact fin .non H' α' .non S' t' so' rfl q
end

section
variable {X : Cx} {e a b c o : Expr} {es : List Expr} {pos p apos : Pos} {t ta tb to ti : DT} {td : DA} {k n i : Nat} {f C g pm : Addr} {dsp : DSp} {x m fl : Str} {mc : Value} {K : PySem.W.Frag}
/-! C(.., *y) by an __init__ with a star parameter, C by a local name or by its own -/
def onN (n : Nat) (ds : List D) : Prop := n ≤ ds.length ∧ ds.length ≤ n + 1000
def dMakeS (C : Addr) (n : Nat) (dsp : DSp) (t : DA) : DT := fun ρ S Q => t ρ S fun ds S1 => onN n (.non :: ds) ∧ dsp ((.loc S1.length :: ds).take n ++ [.tup ((.loc S1.length :: ds).drop n)]) (S1 ++ [.ins C []]) (fun v S2 => v = .non ∧ Q (.loc S1.length) S2) noX
theorem lift_makeS {ta : TA} (h : LiftA K ta td) : LiftE K (tMakeR C (spStar K n dsp) E0 ta) (dMakeS C n dsp td) := fun α ρ S σ H Q Q' so ro q k => by
  refine h α ρ S σ H _ _ so ro q fun vs H1 α1 ds S1 t1 so1 r1 q1 x dx hx hdx hne => ?_
  obtain ⟨hl, q1⟩ := q1
  have hx2 : upd H1 dx (.own x) x = none := by rw [upd_ne (Ne.symm hne)]; exact hx
  have t2 : Stp α1 H1 (α1 ++ [some x]) (upd (upd H1 dx (.own x)) x (.ins C dx [])) := (Stp.new_ hdx).trans (Stp.push hx2)
  have so2 : StoreOk K (α1 ++ [some x]) (upd (upd H1 dx (.own x)) x (.ins C dx [])) (S1 ++ [.ins C []]) := (so1.grow (keep_new hdx)).push (ob := .ins C []) hx2 ⟨dx, [], upd_same, rfl⟩
  have hloc : (α1 ++ [some x])[S1.length]? = some (some x) := by rw [← so1.len]; simp
  have r3 : RpL K (α1 ++ [some x]) (upd (upd H1 dx (.own x)) x (.ins C dx [])) (.ref x :: vs) (.loc S1.length :: ds) := ⟨_, _, rfl, ⟨x, rfl, hloc⟩, RpL.stp t2 _ _ r1⟩
  have hl3 := r3.len
  refine ⟨by rw [hl3]; exact hl, _, _, _, _, noX, so2, r3, q1, fun v H' α' d S' t' so' r' ⟨e, q'⟩ => ?_, KX.no⟩
  subst e
  exact ⟨r', k (.ref x) H' α' (.loc S1.length) S' (t1.trans (t2.trans t')) so' ⟨x, rfl, t'.pre _ _ hloc⟩ q'⟩
theorem pe_makeS {ta : TA} {sp : Sp} (M : Mk X.K C f) (F : FnR X.prog X.w X.K X.mg X.base CX0 k f sp) (hr : Room (k + 1) X.A) (hx : Passes CX0 X E0) (ha : PA X (e :: es) ta) {te : TE}
    (hn : ∀ pins s σ H Q, Inv X pins σ H s → te σ H Q → wpAny (model X.prog X.w) X.A (eval (.Name x p) X.env) (fun u s1 => ∃ v H1, Inv X pins σ H1 s1 ∧ RelV v u ∧ v = .ref C ∧ Q v H1) X.xe s)
    (he : starEach (e :: es) X.env = (false, eval e X.env) :: starEach es X.env := by rfl) (hst : (backTo pos (starEach es X.env)).any (·.1) = true := by rfl) :
    PE X (.Call (.Name x p) (e :: es) [] pos) (fun σ H Q => te σ H fun _ H1 => tMakeR C sp E0 ta σ H1 Q) := by
  refine ⟨fun pins s σ H Q I h => ?_⟩
  refine wpAny_Call_Name_kw (thn (hn pins s σ H _ I h) fun u s1 ⟨v, H1, I1, r1, ev, q1⟩ => ?_)
  subst ev
  cases r1
  refine PySem.W.callWith_S2 (h₀ := X.base) I1.ok.mod.kin M.kp (thn (ha.run pos pins s1 σ H1 _ I1 q1) fun us s2 ⟨vs, H2, I2, r, q⟩ => ⟨I2.kIn, ?_⟩) he hst
  exact run_makeR M F hr hx I2 r q
def dMakeSL (i : Nat) (C : Addr) (n : Nat) (dsp : DSp) (t : DA) : DT := fun ρ S Q => getR ρ i = some (.cst C) ∧ dMakeS C n dsp t ρ S Q
theorem de_makeSL (M : Mk X.K C f) (F : FnR X.prog X.w X.K X.mg X.base CX0 k f (spStar X.K n dsp)) (hr : Room (k + 1) X.A) (hx : Passes CX0 X E0) (hN : X.N[i]? = some x) (hv : Vis X.env.scope x) (ha : DAs X (e :: es) td)
    (hdb : (x == ("__debug__" : Str)) = false := by decide) (hcd : (x == ("__classdict__" : Str)) = false := by decide)
    (he : starEach (e :: es) X.env = (false, eval e X.env) :: starEach es X.env := by rfl) (hst : (backTo pos (starEach es X.env)).any (·.1) = true := by rfl) :
    DE X (.Call (.Name x p) (e :: es) [] pos) (dMakeSL i C n dsp td) := by
  obtain ⟨⟨t1, h1, h2⟩⟩ := ha
  refine ⟨_, pe_makeS (te := fun σ H Q => σ[i]? = some (some (.ref C)) ∧ Q (.ref C) H) M F hr hx h1 (fun pins s σ H Q I h => ?_) he hst, fun α ρ S σ H Q Q' so ro q kk => ?_⟩
  · exact (pe_var (pos := p) hN hv hdb hcd).run pins s σ H (fun v H1 => v = .ref C ∧ Q v H1) I ⟨.ref C, h.1, rfl, h.2⟩
  · obtain ⟨v, hv, rv⟩ := ro.get q.1
    cases (show v = .ref C from rv)
    exact ⟨hv, lift_makeS h2 α ρ S σ H Q Q' so ro q.2 kk⟩
theorem de_makeSG (M : Mk X.K C f) (F : FnR X.prog X.w X.K X.mg X.base CX0 k f (spStar X.K n dsp)) (hr : Room (k + 1) X.A) (hx : Passes CX0 X E0) (hg : Gl X x) (hm : X.mg x = some (.ref C)) (ha : DAs X (e :: es) td)
    (hdb : (x == ("__debug__" : Str)) = false := by decide)
    (he : starEach (e :: es) X.env = (false, eval e X.env) :: starEach es X.env := by rfl) (hst : (backTo pos (starEach es X.env)).any (·.1) = true := by rfl) :
    DE X (.Call (.Name x p) (e :: es) [] pos) (dMakeS C n dsp td) := by
  obtain ⟨⟨t1, h1, h2⟩⟩ := ha
  refine ⟨_, pe_makeS (te := fun σ H Q => Q (.ref C) H) M F hr hx h1 (fun pins s σ H Q I h => ?_) he hst, fun α ρ S σ H Q Q' so ro q kk => ?_⟩
  · exact (pe_glob (v := .ref C) (pos := p) hg hm rfl hdb).run pins s σ H (fun v H1 => v = .ref C ∧ Q v H1) I ⟨rfl, h⟩
  · exact lift_makeS h2 α ρ S σ H Q Q' so ro q kk
/-! C.m(..), m a classmethod -/
def dCMeth (C : Addr) (dsp : DSp) (t : DT) (td : DA) : DT := fun ρ S Q => t ρ S fun x S1 => x = .cst C ∧ td ρ S1 fun ds S2 => dsp (.cst C :: ds) S2 Q noX
theorem de_cmeth {pl : Sem Bool} {fd : FuncData} {ps : List Str} (ho : DE X o t) (r : CRead X.K C mc) (c : CMet X.K C mc m pm g) (F : FnOk X.prog X.w X.K X.mg X.base CX0 k g fd ps (spOf X.K n dsp)) (hr : Room k X.A) (hb : Binds X.K fd ps []) (hx : Passes CX0 X E0) (hn : ∀ ds S Q E, dsp ds S Q E → ds.length = n) (ha : DAs X (e :: es) td)
    (hst : starEach (e :: es) X.env = (false, eval e X.env) :: starEach es X.env := by rfl) (hpl : (backTo pos (starEach es X.env)).any (·.1) = false := by rfl)
    (ht : eval (.Call (.Attribute o m apos) (e :: es) [] pos) X.env = (do
      let ov ← eval o X.env
      standAt apos.atName
      let (f, first) ← holding [ov] (getMethod ov m pl)
      callWith pos f first (backTo pos (starEach (e :: es) X.env)) (backToKw pos (keywordEach [] X.env))) := by rfl) :
    DE X (.Call (.Attribute o m apos) (e :: es) [] pos) (dCMeth C dsp t td) := by
  obtain ⟨⟨t0, h0, h0'⟩⟩ := ho
  obtain ⟨⟨t1, h1, h2⟩⟩ := ha
  refine ⟨_, pe_cmeth h0 r c (F.raw hb .nil) hr hx h1 hst hpl ht, fun α ρ S σ H Q Q' so ro q kk => ?_⟩
  refine h0' α ρ S σ H _ _ so ro q fun v H1 α1 x S1 t1 so1 r1 q1 => ?_
  obtain ⟨rfl, q1⟩ := q1
  refine ⟨r1, ?_⟩
  refine h2 α1 ρ S1 σ H1 _ _ so1 (ro.stp t1) q1 fun vs H2 α2 ds S2 t2 so2 r2 q2 => ?_
  have r3 : RpL X.K α2 H2 (.ref C :: vs ++ []) (.cst C :: ds) := by rw [List.append_nil]; exact ⟨_, _, rfl, rfl, r2⟩
  exact ⟨by rw [r3.len]; exact hn _ _ _ _ q2, α2, S2, _, Q, noX, so2, r3, q2, kk.stp (t1.trans t2), KX.no⟩
/-! C.f, a class's constant -/
def dCVal (C : Addr) (t : DT) (d : D) : DT := fun ρ S Q => t ρ S fun x S1 => x = .cst C ∧ Q d S1
theorem de_cval {v : V} {u : Value} {d : D} (he : DE X e t) (r : CRead X.K C mc) (c : CVal X.K C mc fl v u) (hv : ∀ α H, Rp X.K α H v d) (hb : attributeBase e fl X.env (eval e X.env) = eval e X.env := by rfl) : DE X (.Attribute e fl pos) (dCVal C t d) := by
  obtain ⟨⟨t1, h1, h2⟩⟩ := he
  refine ⟨_, pe_cval h1 hb, fun α ρ S σ H Q Q' so ro q kk => ?_⟩
  refine h2 α ρ S σ H _ _ so ro q fun w H1 α1 x S1 t1 so1 r1 q1 => ?_
  obtain ⟨rfl, q1⟩ := q1
  exact ⟨C, mc, v, u, r1, r, c, kk v H1 α1 d S1 t1 so1 (hv _ _) q1⟩
theorem de_cvalE {v : V} {d : D} (he : DE X e t) (r : CRead X.K C mc) (c : ∃ u, CVal X.K C mc fl v u) (hv : ∀ α H, Rp X.K α H v d) (hb : attributeBase e fl X.env (eval e X.env) = eval e X.env := by rfl) : DE X (.Attribute e fl pos) (dCVal C t d) := by
  obtain ⟨u, c⟩ := c
  exact de_cval he r c hv hb
end
end DL

/-! DL, 11: enumerate of a tuple. -/
namespace DL
open PySem PySem.Spec PyProof.Rows L2
open AutoSeq1 (wpAny_loadPart')
theorem meets_enum_tup (l : Addr) (items : Array Value) (n : Nat) (dct : Option Addr) (sl : Array (Option Value)) :
    Meets (Builtin.«enumerate.__new__» ⟨[.type "enumerate", .ref l], []⟩) (fun _ R s => s.heap.get? l = some { cls := .type "tuple", dict := dct, data := .seq items n, slots := sl } ∧
      R (.ok (.ret (.ref (s.heap.push { cls := .type "tuple_iterator", data := .fields #[.ref l, .int 0 0] }).objs.size)))
        { s with heap := (s.heap.push { cls := .type "tuple_iterator", data := .fields #[.ref l, .int 0 0] }).push { cls := .type "enumerate", data := .fields #[.none, .bool false, .ref s.heap.objs.size, rawInt 0, .none, .none] } }) :=
  .of_wp fun prog w A R s h => by
    obtain ⟨hp, g, d, tk, os⟩ := s; obtain ⟨hl, h⟩ := h
    have hsub := sub_enumerate
    have hL : Heap.IsTuple (Shared.heap ⟨hp, g, d, tk, os⟩) l items := ⟨_, hl, rfl, n, rfl⟩
    wp_walk using wpAny_loadPart' hl
    refine wpAny_stack_any fun st => wpAny_pure ?_
    split
    · rename_i c _ _ _ _ _
      cases (c == Value.type "enumerate")
      · wp_walk using wpAny_loadPart' hl, wpAny_pyIter_tuple hL
        exact ⟨_, rfl, h⟩
      · wp_walk using wpAny_loadPart' hl, wpAny_pyIter_tuple hL
        exact ⟨_, rfl, h⟩
    · wp_walk using wpAny_loadPart' hl, wpAny_pyIter_tuple hL
      exact ⟨_, rfl, h⟩
section
variable {prog : Program} {w : World} {A : Around} {E : Value → Shared → Prop} {s : Shared}
theorem call_enum_tup {l : Addr} {items : Array Value} {Q : Value → Shared → Prop} (hL : s.heap.IsTuple l items)
    (h : ∀ h', IsEnum h' (s.heap.objs.size + 1) s.heap.objs.size 0 .none → h'.IsTupleIter s.heap.objs.size l 0 → h'.objs.size = s.heap.objs.size + 2 →
      (∀ b o, s.heap.get? b = some o → h'.get? b = some o) → Q (.ref (s.heap.objs.size + 1)) { s with heap := h' }) :
    wpAny (model prog w) A (call (.type "enumerate") [.ref l]) Q E s := by
  obtain ⟨⟨c, dct, dt, sl⟩, hl, hc, n, hd⟩ := hL
  replace hc : c = .type "tuple" := hc
  replace hd : dt = .seq items n := hd
  subst hc hd
  refine callType_new F.called_enumerate (by decide) (F.typeCall_enumerate_1 _) (F.newCall_enumerate_1 _) (fun obj => F.args_object_init_2 obj _) F.entry_enumerate_new
    (meets_enum_tup l items n dct sl) ⟨hl, ?_⟩
  have hz : (s.heap.push { cls := .type "tuple_iterator", data := .fields #[.ref l, .int 0 0] }).objs.size = s.heap.objs.size + 1 := Heap.size_push ..
  show _ ∧ _
  rw [hz]
  have he : IsEnum ((s.heap.push { cls := .type "tuple_iterator", data := .fields #[.ref l, .int 0 0] }).push
      { cls := .type "enumerate", data := .fields #[.none, .bool false, .ref s.heap.objs.size, rawInt 0, .none, .none] }) (s.heap.objs.size + 1) s.heap.objs.size 0 .none := by
    have := Heap.get?_push_size (s.heap.push { cls := .type "tuple_iterator", data := .fields #[.ref l, .int 0 0] })
      (o := { cls := .type "enumerate", data := .fields #[.none, .bool false, .ref s.heap.objs.size, rawInt 0, .none, .none] }) rfl
    rw [hz] at this; exact this
  refine ⟨⟨_, he, rfl⟩, h _ he ⟨_, Heap.get?_push_of_some _ (Heap.get?_push_size _ rfl), rfl, rfl⟩ (by rw [Heap.size_push, hz]) fun b o x => Heap.get?_push_of_some _ (Heap.get?_push_of_some _ x)⟩
end
/-- the tuple at a, each item in a new pair -/
def IteT (K : PySem.W.Frag) (a : Addr) : It :=
  ⟨fun i H => ∃ (xs : List V) (x : V), SqT K H a xs ∧ xs[i]? = some x, fun i H v H' => ∃ T x, v = .ref T ∧ H T = none ∧ H' = upd H T (.tup [.int (i : Nat), x]) ∧ ∀ xs, SqT K H a xs → xs[i]? = some x, fun i H => ∃ xs : List V, SqT K H a xs ∧ xs.length = i⟩
theorem turn_enumT {P : Program} {w : World} {K : PySem.W.Frag} {elts : List Expr} {kk : Nat} {tpos : Pos} (a e it : Addr) :
    Turn P w K (.Tuple elts kk tpos) (IteT K a) [e, it] e (fun i h => (∃ old, IsEnum h e it ((i : Nat) : Int) old) ∧ h.IsTupleIter it a i ∧ e ≠ it) where
  mem := by simp
  obj := fun i h st b hb => by
    obtain ⟨⟨old, he⟩, ⟨o, ho, hc, hd⟩, _⟩ := st
    have e' : b = e ∨ b = it := by simpa using hb
    rcases e' with z | z
    · rw [z]; exact ⟨_, he, fun v q => nomatch q⟩
    · rw [z]; exact ⟨o, ho, fun v q => by rw [hd] at q; cases q⟩
  keep := fun i h h' st k => let ⟨⟨old, he⟩, hi, hne⟩ := st; ⟨⟨old, k e (by simp) _ he⟩, hi.at fun o q => k it (by simp) o q, hne⟩
  item := by
    intro X hP hw hK hc i pins s σ H E I hf st hg
    subst hP hw hK
    obtain ⟨⟨old, he⟩, hit, hne⟩ := st
    obtain ⟨xs, x, hq, hx⟩ := hg
    obtain ⟨its, rv, p, hz⟩ := I.tuple hq
    obtain ⟨u, hu, ru⟩ := rv.get hx
    have hel : e < s.heap.objs.size := Heap.lt_size he
    have hil : it < s.heap.objs.size := by obtain ⟨_, q, _⟩ := hit; exact Heap.lt_size q
    have hp : s.heap.IsTuple a its.toArray := p
    have hae : a ≠ e := fun z => by
      subst z
      obtain ⟨o, ho, hc, _⟩ := hp
      rw [show s.heap.get? a = _ from he] at ho
      cases ho
      exact absurd (show Value.type "enumerate" = Value.type "tuple" from hc) (by decide)
    have hai : a ≠ it := fun z => by
      subst z
      obtain ⟨o, ho, hc, _⟩ := hp
      obtain ⟨o2, ho2, hc2, _⟩ := hit
      rw [ho] at ho2
      cases ho2
      rw [hc] at hc2
      exact nomatch hc2
    have hlt : i < its.toArray.size := by
      have := (List.getElem?_eq_some_iff.mp hu).1
      simpa using this
    refine wpAny_pyNext_enum_itemD (Draws.tuple (prog := X.prog) (w := X.w) (A := X.A.in1) (I.ok.hd hc) it a hai its.toArray) he ⟨hit, hp⟩ hlt hne (by simp; exact ⟨hne, Ne.symm hae⟩) fun x' h' tk hx' ho st' hT hsz hk => ?_
    have hxu : x' = u := by
      have : its.toArray[i]? = some u := by simpa using hu
      rw [hx'] at this
      exact Option.some.inj this
    subst hxu
    refine ⟨_, rfl, wpAny_letOwnedTupleGo_enum (s := { s with heap := h', toks := tk + 1 }) ho fun h'' he' sb => ?_⟩
    have hT2 : h''.get? s.heap.objs.size = some { cls := .type "tuple", data := .seq #[.int i tk, x'] } := (sb.2 _ (Nat.ne_of_gt hel)).trans hT
    have new : ObjOk X.prog X.w (upd H s.heap.objs.size (.tup [.int (i : Nat), x])) h'' s.heap.objs.size (.tup [.int (i : Nat), x]) :=
      ⟨by show 2 ≤ sizeLine; decide, [.int i tk, x'], .cons ⟨_, rfl⟩ (.cons ru .nil), ⟨_, hT2, rfl, _, rfl⟩⟩
    have I1 : Inv X pins σ (upd H s.heap.objs.size (.tup [.int (i : Nat), x])) { s with heap := h'', toks := tk + 1 } :=
      I.turnedNew (ch := [e, it]) (fun b ob hb q => (sb.2 b (fun z => hb (by simp [z]))).trans (hk b ob (fun z => hb (by simp [z])) (fun z => hb (by simp [z])) q)) hf (Nat.le_refl _) new
    refine ⟨.ref s.heap.objs.size, _, I1, rfl, ⟨_, x, rfl, I.hok.fresh (Nat.le_refl _), rfl, fun ys hy => ?_⟩, ⟨⟨x', ?_⟩, st'.1.at fun o q => (sb.2 it (Ne.symm hne)).trans q, hne⟩, fun b hb => ?_⟩
    · rw [I.tuple_inj hy hq]; exact hx
    · have e1 : ((i + 1 : Nat) : Int) = (i : Int) + 1 := by omega
      rw [e1]; exact he'
    · have hb' : b < s.heap.objs.size := by
        have e' : b = e ∨ b = it := by simpa using hb
        rcases e' with z | z
        · rw [z]; exact hel
        · rw [z]; exact hil
      rw [upd_ne (Nat.ne_of_lt hb')]
      exact (hf b hb).1
  done := by
    intro X hP hw hK hc i pins s σ H E I hf st hg
    subst hP hw hK
    obtain ⟨⟨old, he⟩, hit, hne⟩ := st
    obtain ⟨xs, hq, hx⟩ := hg
    obtain ⟨its, rv, p, hz⟩ := I.tuple hq
    have hp : s.heap.IsTuple a its.toArray := p
    obtain ⟨f0, f1, f2, f3, f4, f5⟩ := hf it (by simp)
    have hl := rv.length
    have hai : a ≠ it := fun z => by
      subst z
      obtain ⟨o, ho, hc, _⟩ := hp
      obtain ⟨o2, ho2, hc2, _⟩ := hit
      rw [ho] at ho2
      cases ho2
      rw [hc] at hc2
      exact nomatch hc2
    have hn : its.toArray.size = i := by simp; omega
    exact wpAny_pyNext_enum_endD (Draws.tuple (prog := X.prog) (w := X.w) (A := X.A.in1) (I.ok.hd hc) it a hai its.toArray) he (by rw [hn]; exact ⟨hit, hp⟩) fun h' eb => ⟨rfl, I.turned (t' := s.toks) (fun b o hb q => eb b o hb q) f0 f1 f3 f4 f5⟩
  self := fun A i s Q E st h => let ⟨⟨_, he⟩, _⟩ := st; wpAny_pyIter_enum he h
def iEnumT (K : PySem.W.Frag) (ta : TA) : TI := fun σ H R => ta σ H fun vs H1 => ∃ a xs, vs = [.ref a] ∧ SqT K H1 a xs ∧ R (IteT K a) H1
theorem pi_enumT {X : Cx} {e : Expr} {ta : TA} {p pos tpos : Pos} {elts : List Expr} {kk : Nat} (hg : Gl X "enumerate") (hm : X.mg "enumerate" = none) (ha : PA X [e] ta) (hs : starEach [e] X.env = [(false, eval e X.env)] := by rfl) :
    PI X (.Tuple elts kk tpos) (.Call (.Name "enumerate" p) [e] [] pos) (iEnumT X.K ta) := by
  refine ⟨fun pins s σ H R I h => ?_⟩
  refine Call_ (ld_blt I hg hm boot_enumerate (PyProof.Rows.callWith_type1 (thn (ha.run pos pins s σ H _ I h) fun us s1 ⟨vs, H1, I1, r1, q1⟩ => ?_) hs rfl))
  obtain ⟨a, xs, ex, hq, q⟩ := q1
  subst ex
  cases r1 with
  | cons r rr =>
    cases rr
    cases r
    obtain ⟨its, rv, p', hz⟩ := I1.tuple hq
    refine call_enum_tup (show s1.heap.IsTuple a its.toArray from p') fun h' he hit hsz hk => wpAny_pyIter_enum he ?_
    have I2 : Inv X pins σ H1 { s1 with heap := h' } := I1.kept (t' := s1.toks) hk
    refine ⟨s1.heap.objs.size + 1, [s1.heap.objs.size + 1, s1.heap.objs.size], _, _, H1, rfl, I2, turn_enumT a (s1.heap.objs.size + 1) s1.heap.objs.size, ⟨⟨.none, he⟩, hit, Nat.succ_ne_self _⟩, fun b hb => ?_, q⟩
    have e' : b = s1.heap.objs.size + 1 ∨ b = s1.heap.objs.size := by simpa using hb
    have hle : s1.heap.objs.size ≤ b := by
      rcases e' with z | z
      · rw [z]; exact Nat.le_add_right _ _
      · rw [z]; exact Nat.le_refl _
    exact I1.fpOk hle (I1.hok.fresh hle)
def enumD : Nat → List D → List D
  | _, [] => []
  | i, d :: ds => .tup [.int (i : Nat), d] :: enumD (i + 1) ds
theorem enumD_get : ∀ {ds : List D} {n i : Nat} {d : D}, (enumD n ds)[i]? = some d → ∃ d', ds[i]? = some d' ∧ d = .tup [.int ((n + i : Nat) : Int), d']
  | [], n, i, d, h => by simp [enumD] at h
  | x :: ds, n, 0, d, h => by
    cases h
    exact ⟨x, rfl, rfl⟩
  | x :: ds, n, i + 1, d, h => by
    obtain ⟨d', h1, h2⟩ := enumD_get (ds := ds) (n := n + 1) (i := i) h
    refine ⟨d', h1, ?_⟩
    rw [h2]
    have : n + 1 + i = n + (i + 1) := by omega
    rw [this]
theorem enumD_len : ∀ (ds : List D) (n : Nat), (enumD n ds).length = ds.length
  | [], _ => rfl
  | _ :: ds, n => by rw [enumD, List.length_cons, List.length_cons, enumD_len ds]
theorem enumD_bnd {m : Nat} : ∀ {ds : List D} {n : Nat}, bndL m ds → bndL m (enumD n ds)
  | [], _, _ => trivial
  | _ :: ds, n, ⟨h1, h2⟩ => ⟨⟨trivial, h1, trivial⟩, enumD_bnd h2⟩
def diEnum (t : DA) : DI := fun ρ S Q => t ρ S fun ds S1 => on1 ds fun d => onTup d fun xs => Q (enumD 0 xs) S1
theorem di_enum {X : Cx} {e : Expr} {p pos tpos : Pos} {elts : List Expr} {kk : Nat} {da : DA} (hg : Gl X "enumerate") (hm : X.mg "enumerate" = none) (ha : DAs X [e] da) (hs : starEach [e] X.env = [(false, eval e X.env)] := by rfl) :
    DIt X (.Tuple elts kk tpos) (.Call (.Name "enumerate" p) [e] [] pos) (diEnum da) := by
  obtain ⟨⟨te, h1, h2⟩⟩ := ha
  refine ⟨_, pi_enumT hg hm h1 hs, fun α ρ S σ H Q R so ro q k => ?_⟩
  refine h2 α ρ S σ H _ _ so ro q fun vs H1 α1 ds S1 t1 so1 r1 q1 => ?_
  obtain ⟨d, v, rfl, rfl, r2, q2⟩ := on1.rp r1 q1
  cases d with
  | tup ds =>
    obtain ⟨a, xs, e, ht, hr⟩ := r2
    subst e
    refine ⟨a, xs, rfl, ht.sq, k _ H1 α1 (enumD 0 ds) S1 t1 so1 (enumD_bnd (RpL.bnd ds xs hr)) q2 ?_ ?_ ?_⟩
    · intro i α2 H2 hi t2
      have hl := hr.len
      rw [enumD_len] at hi
      exact ⟨xs, xs[i]'(by omega), (ht.stp t2).sq, by simp⟩
    · intro α2 H2 t2
      exact ⟨xs, (ht.stp t2).sq, by rw [hr.len, enumD_len]⟩
    · rintro i α2 H2 x H3 d hd t2 ⟨S0, so0⟩ ⟨T, y, rfl, hT, rfl, hy⟩
      obtain ⟨d', hd', rfl⟩ := enumD_get hd
      have h3 := hy xs (ht.stp t2).sq
      obtain ⟨v, hv, rv⟩ := (RpL.stp t2 ds xs hr).get hd'
      rw [h3] at hv
      cases hv
      have tn := Stp.new_ (α := α2) (o := HO.tup [.int (i : Nat), y]) hT
      refine ⟨α2, tn, fun S2 so => so.grow (keep_new hT), T, _, rfl, ⟨upd_same, ?_⟩, _, _, rfl, ?_, _, _, rfl, Rp.stp tn _ _ rv, rfl⟩
      · exact so0.off_new hT
      · show V.int (i : Nat) = V.int ((0 + i : Nat) : Int)
        rw [Nat.zero_add]
  | _ => exact q2.elim
end DL

/-! DL, 12: f-strings, join. -/
namespace DL
open PySem PySem.Spec PyProof.Rows L2
section
variable {X : Cx} {e a b c o v1 v2 : Expr} {es rest : List Expr} {pos apos : Pos} {t to : DT}
def dFmt (t : DT) : DT := fun ρ S Q => t ρ S fun d S1 => match d with
  | .str y => y.length ≤ sizeLine ∧ Q (.str y) S1
  | .int i => i.natAbs.log2 < 1920 ∧ Q (.str (toString i)) S1
  | _ => False
theorem de_fmt (h : DE X e t) : DE X (.FormattedValue e (-1) none pos) (dFmt t) := by
  obtain ⟨⟨t1, h1, h2⟩⟩ := h
  refine ⟨_, pe_fmt h1, fun α ρ S σ H Q Q' so ro q k => ?_⟩
  refine h2 α ρ S σ H _ _ so ro q fun v H1 α1 d S1 t1 so1 r1 q1 => ?_
  cases d with
  | str y =>
    cases (show v = .str y from r1)
    exact Or.inl ⟨y, rfl, q1.1, (k.stp t1).str so1 q1.2⟩
  | int i =>
    cases (show v = .int i from r1)
    exact Or.inr ⟨i, rfl, q1.1, (k.stp t1).str so1 q1.2⟩
  | _ => exact q1.elim
def dJs : List DT → Str → Rho → Store → (Str → Store → Prop) → Prop
  | [], acc, _, S, Q => Q acc S
  | t :: ts, acc, ρ, S, Q => t ρ S fun d S1 => match d with
    | .str y => (acc ++ y).length ≤ sizeLine ∧ dJs ts (acc ++ y) ρ S1 Q
    | _ => False
structure DJ (X : Cx) (es : List Expr) (ts : List DT) : Prop where
  ex : ∃ tt, PJ X es tt ∧ ∀ (acc : Str) α ρ S σ H (Q : Str → Store → Prop) (Q' : Str → Hp → Prop), StoreOk X.K α H S → RhoOk X.K α H ρ σ → dJs ts acc ρ S Q →
    (∀ y H' α' S', Stp α H α' H' → StoreOk X.K α' H' S' → Q y S' → Q' y H') → tJs tt acc σ H Q'
theorem dj_nil : DJ X [] [] := ⟨[], .nil, fun acc α ρ S σ H Q Q' so ro q k => k acc H α S (Stp.refl _ _) so q⟩
theorem dj_cons {ts : List DT} (h : DE X e t) (r : DJ X es ts) : DJ X (e :: es) (t :: ts) := by
  obtain ⟨⟨t1, h1, h2⟩⟩ := h
  obtain ⟨⟨tt, h3, h4⟩⟩ := r
  refine ⟨_, .cons h1 h3, fun acc α ρ S σ H Q Q' so ro q k => ?_⟩
  refine h2 α ρ S σ H _ _ so ro q fun v H1 α1 d S1 t1 so1 r1 q1 => ?_
  cases d with
  | str y =>
    cases (show v = .str y from r1)
    exact ⟨y, rfl, q1.1, h4 (acc ++ y) α1 ρ S1 σ H1 _ _ so1 (ro.stp t1) q1.2 fun z H' α' S' t' so' q' => k z H' α' S' (t1.trans t') so' q'⟩
  | _ => exact q1.elim
def dJoined (ts : List DT) : DT := fun ρ S Q => dJs ts Str.empty ρ S fun y S1 => Q (.str y) S1
theorem de_joined {ts : List DT} (h : DJ X (v1 :: v2 :: rest) ts) : DE X (.JoinedStr (v1 :: v2 :: rest) pos) (dJoined ts) := by
  obtain ⟨⟨tt, h1, h2⟩⟩ := h
  refine ⟨_, pe_joined h1, fun α ρ S σ H Q Q' so ro q k => ?_⟩
  exact h2 Str.empty α ρ S σ H _ _ so ro q fun y H' α' S' t' so' q' => (k.stp t').str so' q'
theorem de_joined1 (h : DE X e t) : DE X (.JoinedStr [e] pos) t := by
  obtain ⟨⟨tt, h1, h2⟩⟩ := h
  exact ⟨_, pe_joined1 h1, h2⟩
/-- s.join(xs) -/
def dJoin (to t : DT) : DT := fun ρ S Q => to ρ S fun x S1 => (∃ a, x = .str a) ∧ t ρ S1 fun y S2 => onSeq y S2 fun ds => ∃ (a : Str) (ys : List Str), x = .str a ∧ ds = ys.map D.str ∧ (ys.map (·.length)).sum + ys.length * a.length ≤ 16777216 ∧ Q (.str (Txt.join a ys)) S2
theorem RpL.strs {K : PySem.W.Frag} {α : Locs} {H : Hp} : ∀ {ys : List Str} {xs : List V}, RpL K α H xs (ys.map D.str) → xs = ys.map V.str
  | [], xs, r => r
  | y :: ys, xs, ⟨v, t, e, r1, r2⟩ => by
    subst e
    cases (show v = .str y from r1)
    rw [List.map_cons, RpL.strs r2]
theorem de_join (ho : DE X o to) (he : DE X e t) (hs : starEach [e] X.env = [(false, eval e X.env)] := by rfl) (hbase : attributeBase o "join" X.env (eval o X.env) = eval o X.env := by rfl) (hline : (apos.endLine == pos.line) = true := by rfl) :
    DE X (.Call (.Attribute o "join" apos) [e] [] pos) (dJoin to t) := by
  obtain ⟨⟨t1, h1, h2⟩⟩ := ho
  obtain ⟨⟨t2, h3, h4⟩⟩ := he
  refine ⟨_, pe_join h1 h3 hs hbase hline, fun α ρ S σ H Q Q' so ro q k => ?_⟩
  refine h2 α ρ S σ H _ _ so ro q fun v H1 α1 d S1 t1 so1 r1 q1 => ?_
  obtain ⟨⟨a, rfl⟩, q1⟩ := q1
  cases (show v = .str a from r1)
  refine ⟨⟨a, rfl⟩, ?_⟩
  refine h4 α1 ρ S1 σ H1 _ _ so1 (ro.stp t1) q1 fun v H2 α2 y S2 t2 so2 r2 q2 => ?_
  obtain ⟨p, xs, ds, rfl, hsq, hr, a', ys, ea, rfl, hz, q3⟩ := onSeq.rp so2 r2 q2
  cases ea
  rw [RpL.strs hr] at hsq
  exact ⟨a, p, ys, rfl, rfl, hsq, hz, (k.stp (t1.trans t2)).str so2 q3⟩
end
/-! lengths of texts -/
theorem len_int {i : Int} (h : i.natAbs.log2 < 64) : (Str.ofString (toString i)).length ≤ 65 := by
  rw [PySem.ofString_length]
  exact int_text_length_le (k := 64) (by decide) h
theorem log2_small {i : Int} {b : Nat} (h : i.natAbs < 2 ^ b) (h0 : 0 < b) : i.natAbs.log2 < b := by
  by_cases hz : i.natAbs = 0
  · rw [hz]; simpa using h0
  · exact (Nat.log2_lt hz).mpr h
end DL

/-! DL, 13: dicts of the module with text keys, tuples of the module. -/
namespace DL
open PySem PySem.Spec PyProof.Rows L2
structure KTab (K : PySem.W.Frag) (w : World) (a : Addr) (tab : List (Str × D)) : Prop where
  ex : ∃ es n, KDict K w a es n ∧ ∀ z : Str, ∃ r, PySem.W.nsIn K a z = some r ∧ match tab.lookup z with
    | none => r = none
    | some d => ∃ u v, r = some u ∧ RelV v u ∧ ∀ α H, Rp K α H v d
section
variable {X : Cx} {e a b c o : Expr} {es : List Expr} {pos : Pos} {t ta tb : DT} {q : Addr} {tab : List (Str × D)}
def rdKIn (q : Addr) (tab : List (Str × D)) : RD := fun y x S Q => match x, y with
  | .cst q', .str z => q' = q ∧ Q (.bl (tab.lookup z).isSome) S
  | _, _ => False
theorem od_kIn (T : KTab X.K X.w q tab) : OpD X (compareOp .In) (rdKIn q tab) := by
  obtain ⟨es, n, kd, hz⟩ := T.ex
  refine ⟨_, op_in_kd kd, fun α S H y x u v Q Q' so ry rx h k => ?_⟩
  cases x with
  | cst q' =>
    cases y with
    | str z =>
      obtain ⟨rfl, h⟩ := h
      cases (show v = .ref q' from rx)
      cases (show u = .str z from ry)
      obtain ⟨r, hr, hm⟩ := hz z
      refine ⟨z, r, rfl, rfl, hr, ?_⟩
      have : r.isSome = (tab.lookup z).isSome := by
        cases e : tab.lookup z with
        | none => rw [e] at hm; rw [show r = none from hm]; rfl
        | some d =>
          rw [e] at hm
          obtain ⟨u, v, hu, _⟩ := hm
          rw [hu]; rfl
      rw [this]
      exact k.bl so h
    | _ => exact h.elim
  | _ => exact h.elim
def rdKGet (q : Addr) (tab : List (Str × D)) : RD := fun x y S Q => match x, y with
  | .cst q', .str z => q' = q ∧ onOpt (tab.lookup z) fun d => Q d S
  | _, _ => False
theorem ix_kGet (T : KTab X.K X.w q tab) : IxD X (rdKGet q tab) := by
  obtain ⟨es, n, kd, hz⟩ := T.ex
  refine ⟨fun x y H Q => ∃ (z : Str) (u0 : Value) (v0 : V), x = .ref q ∧ y = .str z ∧ PySem.W.nsIn X.K q z = some (some u0) ∧ RelV v0 u0 ∧ Q v0 H, ?_, fun α S H x y v u Q Q' so rx ry h k => ?_⟩
  · intro value slice pins s σ H x y v u Q I rx ry h hs
    have hop := op_item_kd kd pins s σ H x y v u Q I rx ry h
    obtain ⟨z, u0, v0, rfl, rfl, _⟩ := h
    cases rx
    exact tail_any (kd_type kd I) slot_dict_getitem.lookup hop hs
  · cases x with
    | cst q' =>
      cases y with
      | str z =>
        obtain ⟨rfl, d, hd, h⟩ := h
        obtain ⟨r, hr, hm⟩ := hz z
        rw [hd] at hm
        obtain ⟨u0, v0, rfl, rv, rp⟩ := hm
        exact ⟨z, u0, v0, rx, ry, hr, rv, k v0 H α d S (Stp.refl _ _) so (rp α H) h⟩
      | _ => exact h.elim
    | _ => exact h.elim
end

/-! a, b = t, t a new tuple or one of the module's -/
structure CTup (K : PySem.W.Frag) (q : Addr) (ds : List D) : Prop where
  ex : ∃ xs, KT K q xs ∧ ∀ α H, RpL K α H xs ds
def gdTupC (cs : Addr → List D → Prop) (n : Nat) (gs : DGs) : DG := fun d ρ S Q => match d with
  | .tup ds => ds.length = n ∧ gs ds ρ S Q
  | .cst q => ∃ ds, cs q ds ∧ ds.length = n ∧ gs ds ρ S Q
  | _ => False
theorem dg_tupC {X : Cx} {es : List Expr} {pos : Pos} {cs : Addr → List D → Prop} {ws : List Nat} {k : Nat} {gs : DGs} {n : Nat} (hc : X.calm = true) (hcs : ∀ q ds, cs q ds → CTup X.K q ds) (h : DGts X es ws gs)
    (hn : (assignEach es X.env).length = n := by rfl) (hst : (assignEach es X.env).findIdx? (·.1) = none := by rfl) : DGt X (.Tuple es k pos) ws (gdTupC cs n gs) := by
  obtain ⟨⟨g1, h3, h4⟩⟩ := h
  refine ⟨_, pg_tup hc h3 hn hst, fun α ρ S σ H v d Q Q' so ro r q k => ?_⟩
  cases d with
  | tup ds =>
    obtain ⟨a, xs, e, ht, hr⟩ := r
    exact ⟨a, xs, e, ht.sq, by rw [hr.len]; exact q.1, h4 α ρ S σ H xs ds Q Q' so ro hr q.2 k⟩
  | cst a =>
    obtain ⟨ds, hd, hl, q⟩ := q
    obtain ⟨xs, ht, hr⟩ := (hcs a ds hd).ex
    exact ⟨a, xs, r, Or.inr ht, by rw [(hr α H).len]; exact hl, h4 α ρ S σ H xs ds Q Q' so ro (hr α H) q k⟩
  | _ => exact q.elim
end DL

/-! DL, 14: returns that let go. -/
namespace DL
open PySem L2
theorem Rt.cutTo {S S' S'' : Store} {Q : DK} {d d' : D} (c : CutTo S S' S'') (f : Frz S.length S' d d') (q : Q d' S'') : Rt S Q d S' := by
  unfold Rt
  exact Or.inr ⟨S'', d', c, f, q⟩
/-- the object at l has got its attributes -/
theorem Rt.obj {S S' : Store} {Q : DK} {l : Nat} {C : Addr} {fs fs' : List (Str × D)} {d : D} (hl : l < S.length) (he : S'[l]? = some (.ins C fs)) (hf : FrzF S.length S' fs fs') (ho : ∀ m, m < S.length → m ≠ l → S'[m]? = S[m]?) (hb : bnd S.length d)
    (q : Q d (S.set l (.ins C fs'))) : Rt S Q d S' := by
  refine Rt.cutTo ⟨List.length_set .., fun m o hm e => ?_⟩ (.same hb) q
  by_cases h : m = l
  · subst h
    rw [he] at e
    cases e
    exact Or.inr ⟨_, List.getElem?_set_self hl, .ins hf⟩
  · rw [ho m hm h] at e
    exact Or.inl ⟨e, by rw [List.getElem?_set_ne (Ne.symm h)]; exact e⟩
/-- a new object, handed on as a tree -/
theorem Rt.tree {S S' : Store} {Q : DK} {l : Nat} {C : Addr} {fs : List (Str × D)} (hl : S.length ≤ l) (he : S'[l]? = some (.ins C fs)) (hb : bndF S.length fs) (ho : ∀ m, m < S.length → S'[m]? = S[m]?) (q : Q (.obj C fs) S) : Rt S Q (.loc l) S' := by
  refine Rt.cutTo (S'' := S) ⟨rfl, fun m o hm e => ?_⟩ (.ins hl he hb) q
  rw [ho m hm] at e
  exact Or.inl ⟨e, e⟩

theorem de_globIE {X : Cx} {x : Str} {i : Int} {pos : Pos} (hg : Gl X x) (hm : ∃ t, X.mg x = some (.int i t)) (hd : (x == ("__debug__" : Str)) = false := by decide) : DE X (.Name x pos) (dC (.int i)) := by
  obtain ⟨t, h⟩ := hm
  exact de_globI hg h ⟨_, rfl⟩ hd
theorem de_globSE {X : Cx} {x : Str} {i : Str} {pos : Pos} (hg : Gl X x) (hm : ∃ t, X.mg x = some (.str i t)) (hd : (x == ("__debug__" : Str)) = false := by decide) : DE X (.Name x pos) (dC (.str i)) := by
  obtain ⟨t, h⟩ := hm
  exact de_globS hg h ⟨_, rfl⟩ hd

theorem sjoin_le (a : Str) : ∀ ys : List Str, (Str.join a ys).length ≤ (ys.map (·.length)).sum + ys.length * a.length
  | [] => Nat.zero_le _
  | [x] => by show x.length ≤ _; simp
  | x :: y :: r => by
    have ih := sjoin_le a (y :: r)
    show (x ++ a ++ Str.join a (y :: r)).length ≤ _
    rw [PySem.Str.length_append, PySem.Str.length_append]
    rw [List.map_cons, List.sum_cons, List.length_cons, Nat.add_mul]
    omega
theorem join_le (a : Str) (ys : List Str) : (Txt.join a ys).length ≤ (ys.map (·.length)).sum + ys.length * a.length := by
  rw [TL.join_eq]; exact sjoin_le a ys
theorem sum_le {n : Nat} : ∀ ys : List Str, (∀ y ∈ ys, y.length ≤ n) → (ys.map (·.length)).sum ≤ n * ys.length
  | [], _ => by simp
  | y :: r, h => by
    have ih := sum_le r fun z hz => h z (List.mem_cons_of_mem _ hz)
    have h1 := h y List.mem_cons_self
    rw [List.map_cons, List.sum_cons, List.length_cons, Nat.mul_add]
    omega
theorem len_cat (a b : Str) : (a ++ b).length = a.length + b.length := PySem.Str.length_append a b
theorem len_e : Str.empty.length = 0 := rfl
theorem line_le6 {n : Nat} (h : n ≤ 100000) : n ≤ sizeLine := Nat.le_trans h (by decide)
theorem log_le {i : Int} (h : i.natAbs < 2 ^ 64) : i.natAbs.log2 < 1920 := Nat.lt_of_lt_of_le (log2_small (b := 64) h (by decide)) (by decide)

theorem bind_star3 {B : List Value → Sem (List (Str × Value))} {p1 p2 p3 pv : Str} (h0 : ∀ a b c, B [a, b, c] = (newTuple [] >>= fun t => pure [(p1, a), (p2, b), (p3, c), (pv, t)])) (h1 : ∀ a b c r rs, B (a :: b :: c :: r :: rs) = (newTuple (r :: rs) >>= fun t => pure [(p1, a), (p2, b), (p3, c), (pv, t)])) :
    ∀ us rest : List Value, us.length = [p1, p2, p3].length → B (us ++ rest) = (newTuple rest >>= fun t => pure ([p1, p2, p3].zip us ++ [(pv, t)]))
  | [a, b, c], [], _ => h0 a b c
  | [a, b, c], r :: rs, _ => h1 a b c r rs
end DL

/-! DL, 15: o.f op= value. -/
namespace DL
open PySem PySem.Spec PyProof.Rows L2
def rInI (p : Int → Int → Prop) (f : Int → Int → Int) : V → V → Hp → VK → Prop := fun x y H Q => ∃ i j, x = .int i ∧ y = .int j ∧ p i j ∧ Q (.int (f i j)) H
section
variable {X : Cx} {e a b c o value : Expr} {es : List Expr} {pos tpos : Pos} {t tv : DT} {C : Addr} {f : Str}
theorem inI_add : InOp X .Add (rInI (fun _ _ => True) fun i j => i + j) := fun pins s σ H x y u v Q I rx ry ⟨i, j, e1, e2, _, q⟩ => in_add pins s σ H x y u v Q I rx ry ⟨i, j, e1, e2, q⟩
theorem inI_sub : InOp X .Sub (rInI (fun _ _ => True) fun i j => i - j) := fun pins s σ H x y u v Q I rx ry ⟨i, j, e1, e2, _, q⟩ => in_sub pins s σ H x y u v Q I rx ry ⟨i, j, e1, e2, q⟩
theorem inI_mod : InOp X .Mod (rInI (fun _ j => 0 < j) fun i j => i % j) := by
  rintro pins s σ H x y u v Q I rx ry ⟨i, j, rfl, rfl, hj, q⟩
  obtain ⟨t, rfl⟩ := (show ∃ t, u = Value.int i t from rx)
  obtain ⟨t', rfl⟩ := (show ∃ t', v = Value.int j t' from ry)
  refine imod_int (by omega) ?_
  rw [Int.fmod_eq_emod_of_nonneg _ (by omega)]
  exact ⟨.int (i % j), H, I.tok _, ⟨_, rfl⟩, q⟩
def sFldAugD (C : Addr) (to tv : DT) (p : Int → Int → Prop) (g : Int → Int → Int) (f : Str) : DS := fun E ρ S => to ρ S fun x S1 => match x with
  | .loc l => onOpt S1[l]? fun ob => match ob with
    | .ins C' fs => C' = C ∧ onOpt (fs.lookup f) fun d => onInt d fun i => tv ρ S1 fun y S2 => onInt y fun j => p i j ∧ onOpt S2[l]? fun ob2 => match ob2 with
      | .ins C2 fs2 => C2 = C ∧ fs2.length < 1000 ∧ E.nx ρ (S2.set l (.ins C (putD f (.int (g i j)) fs2)))
      | _ => False
    | _ => False
  | _ => False
theorem ds_fldaug {op : Operator} {p : Int → Int → Prop} {g : Int → Int → Int} (hop : InOp X op (rInI p g)) (ho : DE X o t) (hv : DE X value tv) (c : Cls X.K C) (n : NoAttr X.K C f) : DSt X (.AugAssign (.Attribute o f tpos) op value pos) (sFldAugD C t tv p g f) := by
  obtain ⟨⟨t1, h1, h2⟩⟩ := ho
  obtain ⟨⟨t2, h3, h4⟩⟩ := hv
  refine ⟨_, ps_fldaug h1 h3 hop, fun α ρ S σ H E F so ro q k => ?_⟩
  refine h2 α ρ S σ H _ _ so ro q fun x H1 α1 xd S1 s1 so1 r1 q1 => ?_
  cases xd with
  | loc l =>
    obtain ⟨a, rfl, ha⟩ := r1
    obtain ⟨ob, hob, q2⟩ : onOpt S1[l]? _ := q1
    have hh := so1.ob l a ob ha hob
    cases ob with
    | ins C' fs =>
      obtain ⟨rfl, d, hd, q3⟩ := q2
      obtain ⟨dx, xs, h5, h6⟩ := hh
      obtain ⟨v, hv, rv⟩ := h6.lookup hd
      obtain ⟨i, rfl, rfl, q4⟩ := onInt.rp rv q3
      refine ⟨a, C', dx, xs, .int i, rfl, h5, c, n, hv, ?_⟩
      refine h4 α1 ρ S1 σ H1 _ _ so1 (ro.stp s1) q4 fun y H2 α2 yd S2 s2 so2 r2 q5 => ?_
      obtain ⟨j, rfl, rfl, hp, ob2, hob2, q6⟩ := onInt.rp r2 q5
      have ha2 := s2.pre _ _ ha
      have hh2 := so2.ob l a ob2 ha2 hob2
      refine ⟨i, j, rfl, rfl, hp, ?_⟩
      cases ob2 with
      | ins C2 fs2 =>
        obtain ⟨rfl, hz, q7⟩ := q6
        obtain ⟨dx2, xs2, h7, h8⟩ := hh2
        have tm := Stp.mut (u := HO.ins C2 dx2 (putF f (.int (g i j)) xs2)) ha2 h7
        refine ⟨dx2, xs2, h7, by rw [h8.len]; exact hz, ?_⟩
        exact k.nx σ _ α2 ρ _ ((s1.trans s2).trans tm) (so2.set (ob := .ins C2 (putD f (.int (g i j)) fs2)) ha2 h7 ⟨dx2, _, upd_same, RpF.stp tm _ _ (RpF.put (d := .int (g i j)) rfl h8)⟩) (ro.stp ((s1.trans s2).trans tm)) q7
      | _ => exact q6.elim
    | _ => exact q2.elim
  | _ => exact q1.elim
end
end DL

/-! DL, 16: a list comprehension over a list that lives in the store (and stays as it is meanwhile). -/
namespace DL
open PySem PySem.Spec PyProof.Rows L2
def compM0 (l : Nat) (ds : List D) (n : Nat) (g : DG) (tt : DTt) (te : DT) (ρ : Rho) : List D → Store → (Store → Prop) → Prop
  | [], S, Q => S[l]? = some (.lst ds) ∧ Q S
  | x :: r, S, Q => S[l]? = some (.lst ds) ∧ elemR g tt te ρ x S fun o S4 => match o with
    | some y => ∃ acc, S4[n]? = some (.lst acc) ∧ acc.length < sizeLine ∧ compM0 l ds n g tt te ρ r (S4.set n (.lst (acc ++ [y]))) Q
    | none => compM0 l ds n g tt te ρ r S4 Q
@[irreducible] def compM (l : Nat) (ds : List D) (n : Nat) (g : DG) (tt : DTt) (te : DT) (ρ : Rho) : List D → Store → (Store → Prop) → Prop := compM0 l ds n g tt te ρ
theorem compM_nil {l n : Nat} {ds : List D} {g : DG} {tt : DTt} {te : DT} {ρ : Rho} {S : Store} {Q : Store → Prop} : compM l ds n g tt te ρ [] S Q = (S[l]? = some (.lst ds) ∧ Q S) := by unfold compM; rfl
theorem compM_cons {l n : Nat} {ds : List D} {g : DG} {tt : DTt} {te : DT} {ρ : Rho} {x : D} {r : List D} {S : Store} {Q : Store → Prop} : compM l ds n g tt te ρ (x :: r) S Q = (S[l]? = some (.lst ds) ∧ elemR g tt te ρ x S fun o S4 => match o with
    | some y => ∃ acc, S4[n]? = some (.lst acc) ∧ acc.length < sizeLine ∧ compM l ds n g tt te ρ r (S4.set n (.lst (acc ++ [y]))) Q
    | none => compM l ds n g tt te ρ r S4 Q) := by
  unfold compM
  rfl
def dCompM (t0 : DT) (g : DG) (tt : DTt) (te : DT) (vs : List Nat) : DT := fun ρ S Q => t0 ρ S fun d S1 => match d with
  | .loc l => ∃ ds, S1[l]? = some (.lst ds) ∧ compM l ds S1.length g tt te (wipeR ρ vs) ds (S1 ++ [.lst []]) fun S2 => Q (.loc S1.length) S2
  | _ => False
theorem StoreOk.lst {K : PySem.W.Frag} {α : Locs} {H : Hp} {S : Store} {l : Nat} {a : Addr} {ds : List D} (so : StoreOk K α H S) (h : α[l]? = some (some a)) (e : S[l]? = some (.lst ds)) : ∃ xs, H a = some (.lst xs) ∧ RpL K α H xs ds := by
  obtain ⟨o, u, e1, e2, e3⟩ := so.live h
  rw [e] at e1
  cases e1
  exact e2
theorem lift_compM {K : PySem.W.Frag} {te0 : TE} {t0 : DT} {g : TG} {gd : DG} {tt : TT} {td : DTt} {te : TE} {t : DT} {ws vs : List Nat} (h2 : LiftE K te0 t0) (h4 : LiftG K ws g gd) (h6 : LiftT K tt td) (h8 : LiftE K te t) (sub : ∀ i ∈ ws, i ∈ vs) :
    LiftE K (tLc (iList K te0) g tt te vs) (dCompM t0 gd td t vs) := fun α ρ S σ H Q Q' so ro q k => by
  refine h2 α ρ S σ H _ _ so ro q fun v H1 α1 d S1 t1 so1 r1 q1 => ?_
  cases d with
  | loc lv =>
    obtain ⟨a, rfl, hla⟩ := r1
    obtain ⟨ds, hds, q1⟩ := q1
    obtain ⟨xs0, hx0, hr0⟩ := so1.lst hla hds
    refine ⟨a, rfl, ⟨xs0, SqL.of hx0⟩, ?_⟩
    intro DD hD
    have ta := Stp.push (α := α1) (o := HO.lst []) hD
    have soa := so1.push (o := .lst []) (ob := .lst []) hD ⟨[], upd_same, rfl⟩
    have hlen : α1.length = S1.length := so1.len
    have hloc : (α1 ++ [some DD])[S1.length]? = some (some DD) := by rw [← hlen]; simp
    have hla1 : (α1 ++ [some DD])[lv]? = some (some a) := ta.pre _ _ hla
    refine ⟨fun i m H => m = ds.length - i ∧ i ≤ ds.length ∧ ∃ α S, Stp (α1 ++ [some DD]) (upd H1 DD (.lst [])) α H ∧ StoreOk K α H S ∧ compM lv ds S1.length gd td t (wipeR ρ vs) (ds.drop i) S (fun S2 => Q (.loc S1.length) S2), ⟨ds.length, by simp, Nat.zero_le _, _, _, Stp.refl _ _, soa, q1⟩, ?_⟩
    rintro i m H2 ⟨rfl, hi, α2, S2, t2, so2, q2⟩
    have t12 := (t1.trans ta).trans t2
    have hla2 : α2[lv]? = some (some a) := t2.pre _ _ hla1
    by_cases hlt : i < ds.length
    · obtain ⟨d, hd, hdrop⟩ := drop_of_get hlt
      rw [hdrop, compM_cons] at q2
      obtain ⟨hnow, q2⟩ := q2
      obtain ⟨xs, hx, hr⟩ := so2.lst hla2 hnow
      have hl := hr.len
      refine Or.inr ⟨⟨xs, xs[i]'(by omega), SqL.of hx, by simp⟩, fun H' => ∃ α S, Stp (α1 ++ [some DD]) (upd H1 DD (.lst [])) α H' ∧ StoreOk K α H' S ∧ compM lv ds S1.length gd td t (wipeR ρ vs) (ds.drop (i + 1)) S (fun S2 => Q (.loc S1.length) S2), ?_, ?_⟩
      · rintro H' ⟨α', S', z⟩
        exact ⟨ds.length - (i + 1), by omega, rfl, hlt, α', S', z⟩
      · rintro x H3 ⟨rfl, hy⟩
        have h3 := hy xs (SqL.of hx)
        obtain ⟨v, hv, r3⟩ := hr.get hd
        rw [h3] at hv
        cases hv
        refine h4 α2 (wipeR ρ vs) S2 (wipe σ vs) _ x d _ _ so2 (wipe_ok (ro.stp t12) vs) r3 q2 fun σ4 H4 α4 ρ4 S4 sb t4 so4 ro4 q4 => ⟨wipe_same sb sub, ?_⟩
        refine h6 α4 ρ4 S4 σ4 H4 _ _ so4 ro4 q4 fun bb H5 α5 S5 t5 so5 q5 => ?_
        have t25 := (t2.trans t4).trans t5
        cases bb with
        | true =>
          rw [if_pos rfl]
          refine h8 α5 ρ4 S5 σ4 H5 _ _ so5 (ro4.stp t5) (q5.1 rfl) fun y H6 α6 yd S6 t6 so6 r6 ⟨acc, hacc, hz, q6⟩ => ?_
          have hl6 : α6[S1.length]? = some (some DD) := (t25.trans t6).pre _ _ hloc
          obtain ⟨o, u, e1, e2, e3⟩ := so6.live hl6
          rw [hacc] at e1
          cases e1
          obtain ⟨xs, e4, e5⟩ := e2
          have tm := Stp.mut (u := HO.lst (xs ++ [y])) hl6 e4
          refine ⟨xs, e4, by rw [e5.len]; exact hz, α6, _, (t25.trans t6).trans tm, so6.set (ob := .lst (acc ++ [yd])) hl6 e4 ⟨_, upd_same, RpL.stp tm _ _ (RpL.append e5 (RpL.one r6))⟩, q6⟩
        | false =>
          rw [if_neg Bool.false_ne_true]
          exact ⟨α5, S5, t25, so5, q5.2 rfl⟩
    · have e : i = ds.length := by omega
      subst e
      rw [List.drop_length, compM_nil] at q2
      obtain ⟨hnow, q2⟩ := q2
      obtain ⟨xs, hx, hr⟩ := so2.lst hla2 hnow
      exact Or.inl ⟨⟨xs, SqL.of hx, by rw [hr.len]; exact Nat.le_refl _⟩, k _ H2 α2 (.loc S1.length) S2 t12 so2 ⟨DD, rfl, t2.pre _ _ hloc⟩ q2⟩
  | _ => exact q1.elim
theorem de_lcM {X : Cx} {pos : Pos} {t t0 : DT} {elt tg iter : Expr} {ifs : List Expr} {scope : Scope} {own : List (Str × Nat)} {ws : List Nat} {g : DG} {tt : DTt} (hc : X.calm = true) (hN : X.N.Nodup) (hi : DE X iter t0) (ok : BlkOk X.N X.env.scope scope own)
    (hg : ∀ (s : Shared) (H : Hp) (C : Addr) (cl : List (Str × Addr)) (fp : List Addr), DGt (X.blk s H scope (compEnvC scope cl C X.env) fp) tg ws g) (ht : ∀ (s : Shared) (H : Hp) (C : Addr) (cl : List (Str × Addr)) (fp : List Addr), DTsts (X.blk s H scope (compEnvC scope cl C X.env) fp) ifs tt)
    (he : ∀ (s : Shared) (H : Hp) (C : Addr) (cl : List (Str × Addr)) (fp : List Addr), DE (X.blk s H scope (compEnvC scope cl C X.env) fp) elt t) (sub : ∀ i ∈ ws, i ∈ own.map (·.2) := by decide) (hs : ∀ x, foldedSetIterable iter X.env x = pure x := by intro _; rfl) :
    DE X (.ListComp elt [⟨tg, iter, ifs, 0⟩] scope pos) (dCompM t0 g tt t (own.map (·.2))) := by
  obtain ⟨⟨te, h1, h2⟩⟩ := hi
  exact ⟨_, pe_lc hc hN (pi_list h1) ok (fun s H C cl fp => (hg s H C cl fp).pg) (fun s H C cl fp => (ht s H C cl fp).pts) (fun s H C cl fp => (he s H C cl fp).pe) hs, lift_compM h2 lift_canonG lift_canonT lift_canon sub⟩
theorem compM_inv {l n : Nat} {ds : List D} {g : DG} {tt : DTt} {te : DT} {ρ : Rho} {Q : Store → Prop} (I : Nat → List D → Store → Prop) (hI : ∀ i acc S, I i acc S → S[l]? = some (.lst ds)) : ∀ (items : List D) (i : Nat) (acc : List D) (S : Store), I i acc S →
    (∀ j x acc S, items[j]? = some x → I (i + j) acc S → ∀ k : Option D → Store → Prop, (∀ y S', S'[n]? = some (.lst acc) → acc.length < sizeLine → I (i + j + 1) (acc ++ [y]) (S'.set n (.lst (acc ++ [y]))) → k (some y) S') → (∀ S', I (i + j + 1) acc S' → k none S') → elemR g tt te ρ x S k) →
    (∀ acc S, I (i + items.length) acc S → Q S) → compM l ds n g tt te ρ items S Q
  | [], i, acc, S, h0, hs, hq => by
    rw [compM_nil]
    exact ⟨hI _ _ _ h0, hq acc S h0⟩
  | x :: r, i, acc, S, h0, hs, hq => by
    rw [compM_cons]
    refine ⟨hI _ _ _ h0, hs 0 x acc S rfl h0 _ (fun y S' h1 h2 h3 => ?_) (fun S' h3 => ?_)⟩
    · refine ⟨acc, h1, h2, compM_inv I hI r (i + 1) _ _ h3 (fun j x acc S hj hJ => ?_) (fun acc S hJ => ?_)⟩
      · rw [show i + 1 + j = i + (j + 1) by omega] at hJ ⊢
        exact hs (j + 1) x acc S (by rw [List.getElem?_cons_succ]; exact hj) hJ
      · exact hq acc S (by rw [List.length_cons, show i + (r.length + 1) = i + 1 + r.length by omega]; exact hJ)
    · refine compM_inv I hI r (i + 1) _ _ h3 (fun j x acc S hj hJ => ?_) (fun acc S hJ => ?_)
      · rw [show i + 1 + j = i + (j + 1) by omega] at hJ ⊢
        exact hs (j + 1) x acc S (by rw [List.getElem?_cons_succ]; exact hj) hJ
      · exact hq acc S (by rw [List.length_cons, show i + (r.length + 1) = i + 1 + r.length by omega]; exact hJ)
end DL

/-! DL, 17: an instance made without a star where __init__ has one; repr of a number or None; the least of a list; comprehensions over live lists let go as trees. -/
namespace DL
open PySem PySem.Spec PyProof.Rows L2 StX ClX
section
variable {X : Cx} {e : Expr} {es : List Expr} {pos p : Pos} {td : DA} {C f : Addr} {k n : Nat} {x : Str} {dsp : DSp}
theorem de_makeR (M : Mk X.K C f) (F : FnR X.prog X.w X.K X.mg X.base CX0 k f (spStar X.K n dsp)) (hr : Room (k + 1) X.A) (hx : Passes CX0 X E0) (hg : Gl X x) (hm : X.mg x = some (.ref C)) (ha : DAs X (e :: es) td)
    (hdb : (x == ("__debug__" : Str)) = false := by decide)
    (he : starEach (e :: es) X.env = (false, eval e X.env) :: starEach es X.env := by rfl) (hpl : (backTo pos (starEach es X.env)).any (·.1) = false := by rfl) :
    DE X (.Call (.Name x p) (e :: es) [] pos) (dMakeS C n dsp td) := by
  obtain ⟨⟨t1, h1, h2⟩⟩ := ha
  exact ⟨_, pe_makeR M F hr hg hm hx h1 hdb he hpl, lift_makeS h2⟩
theorem call_repr_non : CallR X (.builtin "repr") (fun xs H Q => xs = [.non] ∧ Q (.str "None") H) := by
  intro pins s σ H xs us Q I r h
  obtain ⟨rfl, q⟩ := h
  obtain ⟨u, rfl, ru⟩ := vals1 r
  cases ru
  exact PySem.P.repr_of_none ⟨.str _, H, I.tok _, ⟨_, rfl⟩, q⟩
def cdRepr : CD := fun ds S Q => on1 ds fun d => match d with
  | .int i => i.natAbs.log2 < 1920 ∧ Q (.str (toString i)) S
  | .non => Q (.str "None") S
  | _ => False
theorem cd_repr : CallD X (.builtin "repr") cdRepr := by
  refine ⟨_, SkE.call_repr_int.or call_repr_non, fun α S H xs vs Q Q' so r h k => ?_⟩
  obtain ⟨d, v, rfl, rfl, rv, h⟩ := on1.rp r h
  cases d with
  | int i =>
    cases (show v = .int i from rv)
    exact Or.inl ⟨i, rfl, h.1, k.str so h.2⟩
  | non =>
    cases (show v = .non from rv)
    exact Or.inr ⟨rfl, k.str so h⟩
  | _ => exact h.elim
theorem rpl_ints {K : PySem.W.Frag} {α : Locs} {H : Hp} : ∀ {ns : List Int} {xs : List V}, RpL K α H xs (ns.map D.int) → xs = ns.map V.int
  | [], xs, h => h
  | n :: r, xs, h => by
    obtain ⟨v, u, e, h1, h2⟩ := h
    rw [e, show v = .int n from h1, rpl_ints h2]; rfl
def cdMinL : CD := fun ds S Q => on1 ds fun d => onLst d S fun xs => ∃ ns : List Int, xs = ns.map D.int ∧ 0 < ns.length ∧ ∀ m, m ∈ ns → (∀ y, y ∈ ns → m ≤ y) → Q (.int m) S
theorem cd_minL (hc : X.calm = true) : CallD X (.builtin "min") cdMinL := by
  refine ⟨_, cr_min hc, fun α S H xs vs Q Q' so r h k => ?_⟩
  obtain ⟨d, v, rfl, rfl, rv, h⟩ := on1.rp r h
  obtain ⟨a, xs, ds, rfl, hsq, hr, ns, rfl, hl, h2⟩ := onLst.rp so rv h
  rw [rpl_ints hr] at hsq
  exact ⟨a, ns, rfl, hsq, hl, fun m h1 h3 => k.int so (h2 m h1 h3)⟩
theorem ds_setLcM {i : Nat} {y : Str} {py : Pos} {t t0 : DT} {elt tg iter : Expr} {ifs : List Expr} {scope : Scope} {own : List (Str × Nat)} {spos : Pos} {ws : List Nat} {g : DG} {tt : DTt} (hc : X.calm = true) (hN : X.N.Nodup) (hy : X.N[i]? = some y) (hyl : X.env.scope.names.lookup y = some .local)
    (hsw : swapsWith (.ListComp elt [⟨tg, iter, ifs, 0⟩] scope pos) (some (.Name y py)) spos.line X.env = pure true) (hi : DE X iter t0) (ok : BlkOk X.N X.env.scope scope own)
    (hg : ∀ (s : Shared) (H : Hp) (C : Addr) (cl : List (Str × Addr)) (fp : List Addr), DGt (X.blk s H scope (compEnvC scope cl C X.env) fp) tg ws g) (ht : ∀ (s : Shared) (H : Hp) (C : Addr) (cl : List (Str × Addr)) (fp : List Addr), DTsts (X.blk s H scope (compEnvC scope cl C X.env) fp) ifs tt)
    (he : ∀ (s : Shared) (H : Hp) (C : Addr) (cl : List (Str × Addr)) (fp : List Addr), DE (X.blk s H scope (compEnvC scope cl C X.env) fp) elt t) (sub : ∀ i ∈ ws, i ∈ own.map (·.2) := by decide) (hs : ∀ x, foldedSetIterable iter X.env x = pure x := by intro _; rfl) :
    DSt X (.Assign [.Name y py] (.ListComp elt [⟨tg, iter, ifs, 0⟩] scope pos) spos) (sAsg (dGc (dCompM t0 g tt t (own.map (·.2)))) (gdName i)) := by
  obtain ⟨⟨te, h1, h2⟩⟩ := hi
  refine ⟨_, ps_setLc hc hN hy hyl hsw (pi_list h1) ok (fun s H C cl fp => (hg s H C cl fp).pg) (fun s H C cl fp => (ht s H C cl fp).pts) (fun s H C cl fp => (he s H C cl fp).pe) hs, lift_asg (ws := [i]) (lift_gc (lift_compM h2 lift_canonG lift_canonT lift_canon sub)) ?_⟩
  exact fun α ρ S σ H v d Q Q' so ro r q k => k _ H α _ S ⟨List.length_set .., fun j hj => List.getElem?_set_ne fun e => hj (by rw [e]; exact List.mem_singleton.mpr rfl)⟩ (Stp.refl _ _) so (RhoOk.set i r ro) q
end
theorem compM_pure {l : Nat} {ds : List D} {g : DG} {tt : DTt} {te : DT} {ρ : Rho} {S : Store} {Q : Store → Prop} (f : D → Option D) (hl : S[l]? = some (.lst ds)) : ∀ (items acc : List D), (∀ x ∈ items, ∀ acc k, k (f x) (S ++ [.lst acc]) → elemR g tt te ρ x (S ++ [.lst acc]) k) →
    acc.length + items.length ≤ sizeLine → Q (S ++ [.lst (acc ++ items.filterMap f)]) → compM l ds S.length g tt te ρ items (S ++ [.lst acc]) Q
  | [], acc, _, _, q => by
    rw [List.filterMap_nil, List.append_nil] at q
    rw [compM_nil]; exact ⟨app_left hl, q⟩
  | x :: r, acc, h, hz, q => by
    rw [List.length_cons] at hz
    rw [compM_cons]
    refine ⟨app_left hl, h x List.mem_cons_self acc _ ?_⟩
    cases e : f x with
    | none =>
      rw [List.filterMap_cons_none e] at q
      exact compM_pure f hl r acc (fun y hy => h y (List.mem_cons_of_mem _ hy)) (by omega) q
    | some y =>
      rw [List.filterMap_cons_some e] at q
      refine ⟨acc, getElem_push _ _, by omega, ?_⟩
      rw [set_push]
      refine compM_pure f hl r (acc ++ [y]) (fun y hy => h y (List.mem_cons_of_mem _ hy)) (by rw [List.length_append]; simp; omega) ?_
      rw [List.append_assoc]; exact q
/-- a comprehension over the live list ds, its own list let go as a tree -/
theorem compM_gc {l : Nat} {ds : List D} {g : DG} {tt : DTt} {te : DT} {ρ : Rho} {S : Store} {Q : DK} (f : D → Option D) (hl : S[l]? = some (.lst ds))
    (h : ∀ x ∈ ds, ∀ acc k, k (f x) (S ++ [.lst acc]) → elemR g tt te ρ x (S ++ [.lst acc]) k) (hz : ds.length ≤ sizeLine) (hb : bndL S.length (ds.filterMap f)) (q : Q (.lst (ds.filterMap f)) S) :
    compM l ds S.length g tt te ρ ds (S ++ [.lst []]) fun S2 => Rt S Q (.loc S.length) S2 := by
  refine compM_pure f hl ds [] h (by simpa using hz) ?_
  rw [List.nil_append]
  unfold Rt
  refine Or.inl ⟨CutOk.same, Or.inl ⟨_, Frz.lst (Nat.le_refl _) (getElem_push _ _) hb, ?_⟩⟩
  rw [take_push]; exact q
end DL

/-! DL, 18: isinstance of an own class. -/
namespace DL
open PySem PySem.Spec PyProof.Rows L2
def cdIsC (C : Addr) : CD := fun ds S Q => on2 ds fun x y => y = .cst C ∧ onObj C x S fun _ => Q (.bl true) S
theorem cd_isC {X : Cx} {C : Addr} (c : C8.InsC X.K C) : CallD X (.builtin "isinstance") (cdIsC C) := by
  refine ⟨_, C8.call_isC c, fun α S H xs vs Q Q' so r h k => ?_⟩
  obtain ⟨d1, d2, v1, v2, rfl, rfl, r1, r2, h0⟩ := on2.rp r (show on2 _ _ from h)
  obtain ⟨rfl, h1⟩ := (show _ ∧ onObj C d1 S (fun _ => Q (.bl true) S) from h0)
  obtain ⟨a, dx, ys, fs, rfl, ha, hr, q1⟩ := onObj.rp so r1 h1
  cases (show v2 = .ref C from r2)
  exact ⟨a, dx, ys, rfl, ha, k.bl so q1⟩
end DL

/-! DL, 19: sorted({a, b}) and sorted(set([a, b])) of ints. -/
namespace DL
open PySem PySem.Spec PyProof.Rows L2
section
variable {prog : Program} {w : World} {A : Around} {E : Value → Shared → Prop} {s : Shared}
abbrev freshSet (w : World) : Obj := { cls := .type "set", dict := none, data := .set #[] 0 (.fresh 0 0 (!w.params.followText "set-order")) }
theorem make_set {Q : Value → Shared → Prop} (h : Q (.ref s.heap.objs.size) { s with heap := s.heap.push (freshSet w) }) : wpAny (model prog w) A (newSet (.type "set")) Q E s := by
  unfold newSet setsByText
  refine wpAny_bind (wpAny_bind (wpAny_askSetting (wpAny_pure ?_)))
  simp only [newObj]
  exact wpAny_bind (wpAny_alloc (wpAny_pure h))
theorem one_by_one {b : Bool} {elts : List (Bool × Sem Value)} {ts : List (Sem Value)} {Q : Value → Shared → Prop} (hs : elts.findIdx? (·.1) = none) (hlen : elts.length ≤ 30) (hm : elts.map (·.2) = ts)
    (h : wpAny (model prog w) A (evalAll ts) (fun vs s' => PySem.W.KdsFill (model prog w) A E false s.heap.objs.size Q vs s') E { s with heap := s.heap.push (freshSet w) }) :
    wpAny (model prog w) A (setDisplay .oneByOne b elts) Q E s := by
  have hn : (if elts.length > 30 then 0 else (elts.findIdx? (·.1)).getD elts.length) = elts.length := by rw [if_neg (by omega), hs]; rfl
  unfold setDisplay
  rw [if_neg (by decide)]
  refine wpAny_bind (make_set ?_)
  dsimp only
  rw [hn, List.take_length, List.drop_length, hm]
  refine wpAny_bind (wpAny_holding (wpAny_bind (wpAny_mono h (fun vs s' h' => ?_) fun _ _ x => x)))
  refine wpAny_bind (wpAny_holding (wpAny_bind (wpAny_mono (PySem.W.kds_for (fun x P s hx => ?_) vs s' h') (fun _ s1 h1 => ?_) fun _ _ x => x)))
  · refine wpAny_bind (wpAny_mono hx (fun _ s2 h2 => ?_) fun _ _ x => x)
    first | exact wpAny_pure ⟨rfl, h2⟩ | exact wpAny_bind (wpAny_pure (wpAny_pure ⟨rfl, h2⟩))
  · have h2 : Q (.ref s.heap.objs.size) s1 := by simpa [PySem.W.KdsFill] using h1
    rw [if_neg (by decide)]
    refine wpAny_pure ?_
    rw [List.forIn_nil]
    exact wpAny_pure (wpAny_pure h2)
/-- the set's members, one after another -/
theorem fill_set {D : Addr} {Q : Value → Shared → Prop} {h₀ : Heap} : ∀ (ns : List Int) (vs : List Value) (h : Heap) (k : Nat) (S : Int → Bool) (n : Nat), IntsAre vs ns → SetR w h D S n → (∀ b o, b ≠ D → h₀.get? b = some o → h.get? b = some o) → n + ns.length < 60 →
    (∀ h' k' n', SetR w h' D (fun j => S j || decide (j ∈ ns)) n' → n' ≤ n + ns.length → (∀ b o, b ≠ D → h₀.get? b = some o → h'.get? b = some o) → Q (.ref D) { s with heap := h', toks := k' }) →
    PySem.W.KdsFill (model prog w) A E false D Q vs { s with heap := h, toks := k }
  | [], _, h, k, S, n, .nil, R, hk, _, q => PySem.W.kds_fill_nil rfl (q h k n (R.congr fun j => by simp) (Nat.le_add_right _ _) hk)
  | a :: ns, _, h, k, S, n, .cons _ t r, R, hk, hn, q => by
    rw [List.length_cons] at hn
    refine PySem.W.kds_fill_cons ?_
    unfold setAdd
    refine wpAny_holding (wpAny_bind ((intKind prog w).pyHash (k := a) (intKind_is _ _ _ _) ?_))
    refine setR_add_hashed (s := { s with heap := h, toks := k + 1 }) R (by unfold scanBound; omega) fun h' sb R' => ?_
    refine fill_set ns _ h' (k + 1) _ _ r R' (fun b o hb e => (sb.2 b hb).trans (hk b o hb e)) (by split <;> omega) fun h2 k2 n2 a1 a2 a3 => q h2 k2 n2 (a1.congr fun j => ?_) ?_ a3
    · simp [Bool.or_assoc]
    · rw [List.length_cons]
      split at a2 <;> omega
end
section
variable {X : Cx} {e1 e2 : Expr} {t1 t2 : TE} {pos : Pos}
/-- a display of two ints -/
def tSet2 (w : World) (t1 t2 : TE) : TE := fun σ H Q => ∀ q, H q = none → t1 σ (upd H q (SetO w q (fun _ => false) 0)) fun x H1 => t2 σ H1 fun y H2 => ∃ a b : Int, x = .int a ∧ y = .int b ∧ H2 q = some (SetO w q (fun _ => false) 0) ∧
  ∀ n, n ≤ 2 → Q (.ref q) (upd H2 q (SetO w q (fun j => false || decide (j ∈ [a, b])) n))
theorem pe_set2 (h1 : PE X e1 t1) (h2 : PE X e2 t2) (hcd : PySem.W.kdsCode X.K X.env.code = true) (hp : [e1, e2].all PySem.W.kdsPlain = true) : PE X (.Set [e1, e2] 0 pos) (tSet2 X.w t1 t2) := by
  refine ⟨fun pins s σ H Q I h => ?_⟩
  have hn : H s.heap.objs.size = none := I.hok.fresh (Nat.le_refl _)
  rw [arm_eval_Set]
  refine wpAny_bind (wpAny_standAt ?_)
  refine wpAny_bind (PySem.W.kds_main I.kIn hcd fun b => ?_)
  rw [PySem.W.kds_star _ hp]
  refine one_by_one (ts := (evalEach [e1, e2] X.env).map fun t => do let v ← t; standAt pos; pure v) ?_ ?_ ?_ ?_
  · refine List.findIdx?_eq_none_iff.mpr fun x hx => ?_
    rw [List.map_map] at hx
    obtain ⟨t, _, rfl⟩ := List.mem_map.mp hx
    rfl
  · rw [List.length_map, List.length_map, PySem.W.kds_len]
    exact Nat.le_of_ble_eq_true rfl
  · rw [List.map_map, List.map_map]
    rfl
  · refine PySem.W.kds_all pos [e1, e2] _ _ ?_
    have I0 : Inv X pins σ (upd H s.heap.objs.size (SetO X.w s.heap.objs.size (fun _ => false) 0)) { s with heap := s.heap.push (freshSet X.w) } :=
      I.laid (t' := s.toks) (fun b u e => Heap.get?_push_of_some _ e) (Nat.le_refl _) (setO_new (setR_fresh X.w))
    show wpAny (model X.prog X.w) X.A (eval e1 X.env) _ _ _
    refine thn (h1.run pins _ σ _ _ I0 (h _ hn)) fun u1 s1 ⟨x, H1, I1, r1, q1⟩ => ?_
    show wpAny (model X.prog X.w) X.A (eval e2 X.env) _ _ _
    refine thn (h2.run pins _ σ _ _ I1 q1) fun u2 s2 ⟨y, H2, I2, r2, q2⟩ => ?_
    obtain ⟨a, b, rfl, rfl, hq, q2⟩ := q2
    obtain ⟨k1, rfl⟩ := r1
    obtain ⟨k2, rfl⟩ := r2
    have R := setO_get I2 hq
    refine fill_set (s := s2) (h₀ := s2.heap) [a, b] _ s2.heap s2.toks _ 0 (.cons _ _ (.cons _ _ .nil)) R (fun _ _ _ e => e) (show 0 + 2 < 60 by decide) fun h' k' n' R' hn' hk => ?_
    have he : ∃ u, h'.get? s.heap.objs.size = some u := by
      have ⟨o, _, _, _, ho, _⟩ := R'
      exact ⟨o, ho⟩
    exact ⟨.ref _, _, I2.write (e := s.heap.objs.size) (t' := k') (by rw [hq]; trivial) (.inl rfl) (fun b u hb hu => hk b u hb hu) he (setO_new R'), rfl, q2 n' (by simpa using hn')⟩
end
theorem strict_uniq : ∀ {l1 l2 : List Int}, l1.Pairwise (· < ·) → l2.Pairwise (· < ·) → (∀ k, k ∈ l1 ↔ k ∈ l2) → l1 = l2
  | [], [], _, _, _ => rfl
  | [], b :: r, _, _, h => absurd ((h b).mpr List.mem_cons_self) List.not_mem_nil
  | a :: r, [], _, _, h => absurd ((h a).mp List.mem_cons_self) List.not_mem_nil
  | a :: r, b :: r2, p1, p2, h => by
    obtain ⟨p1, q1⟩ := List.pairwise_cons.mp p1
    obtain ⟨p2, q2⟩ := List.pairwise_cons.mp p2
    have e : a = b := by
      rcases List.mem_cons.mp ((h a).mp List.mem_cons_self) with e | e
      · exact e
      · rcases List.mem_cons.mp ((h b).mpr List.mem_cons_self) with e2 | e2
        · exact e2.symm
        · have := p1 b e2
          have := p2 a e
          omega
    subst e
    rw [strict_uniq q1 q2 fun k => ?_]
    constructor
    · intro hk
      rcases List.mem_cons.mp ((h k).mp (List.mem_cons_of_mem _ hk)) with e | e
      · have := p1 k hk; omega
      · exact e
    · intro hk
      rcases List.mem_cons.mp ((h k).mpr (List.mem_cons_of_mem _ hk)) with e | e
      · have := p2 k hk; omega
      · exact e
def twoL (a b : Int) : List Int := if a < b then [a, b] else if b < a then [b, a] else [a]
theorem twoL_of {a b : Int} {ns : List Int} (p : ns.Pairwise (· < ·)) (h : ∀ k, k ∈ ns ↔ k ∈ [a, b]) : ns = twoL a b := by
  refine strict_uniq p ?_ fun k => (h k).trans ?_
  · unfold twoL
    split
    · exact .cons (fun x hx => by rw [List.mem_singleton] at hx; subst hx; assumption) (.cons (fun _ h => nomatch h) .nil)
    · split
      · exact .cons (fun x hx => by rw [List.mem_singleton] at hx; subst hx; assumption) (.cons (fun _ h => nomatch h) .nil)
      · exact .cons (fun _ h => nomatch h) .nil
  · unfold twoL
    split
    · exact Iff.rfl
    · split
      · simp only [List.mem_cons, List.not_mem_nil, or_false]; omega
      · simp only [List.mem_cons, List.not_mem_nil, or_false]; omega
/-! an object that only the set's rules know is written -/
section
variable {K : PySem.W.Frag} {α α' : Locs} {H H' : Hp} {S : Store} {g : Addr} {o : HO} {φ : Heap → Prop}
theorem Stp.fix {u : HO} (t : Stp α H α' H') (h0 : H g = none) (h1 : H' g = some u) : Stp α H α' (upd H' g o) where
  keep := fun a u h f => by rw [upd_ne (ne_of_none h h0)]; exact t.keep a u h f
  dom := fun a h => by
    by_cases e : a = g
    · rw [e]; exact h0
    · rw [upd_ne e] at h; exact t.dom a h
  pre := t.pre
  new := t.new
theorem ext_ne (hg : H g = some (.ext φ)) {a : Addr} {u : HO} (h : H a = some u) (hu : ∀ ψ, u ≠ .ext ψ) : upd H g o a = some u := by
  have : a ≠ g := fun e => by rw [e, hg] at h; exact hu φ (Option.some.inj h).symm
  rw [upd_ne this]; exact h
theorem Rd.ext (hg : H g = some (.ext φ)) {a : Addr} {xs : List V} (h : Rd H a (.lst xs)) : Rd (upd H g o) a (.lst xs) := by
  rcases h with h | ⟨u, h⟩
  · exact Or.inl (ext_ne hg h (fun _ z => nomatch z))
  · exact Or.inr ⟨u, ext_ne hg h (fun _ z => nomatch z)⟩
mutual
theorem Rp.ext (hg : H g = some (.ext φ)) : ∀ (d : D) (v : V), Rp K α H v d → Rp K α (upd H g o) v d
  | .non, v, h => h
  | .bl b, v, h => h
  | .int i, v, h => h
  | .str s, v, h => h
  | .tup ds, v, ⟨a, xs, e, hs, hr⟩ => ⟨a, xs, e, ⟨ext_ne hg hs.1 (fun _ z => nomatch z), hs.2⟩, RpL.ext hg ds xs hr⟩
  | .lst ds, v, ⟨a, xs, e, hs, f, hr⟩ => ⟨a, xs, e, ext_ne hg hs (fun _ z => nomatch z), f, RpL.ext hg ds xs hr⟩
  | .dk kvs, v, ⟨a, xs, e, hs, f, hr⟩ => ⟨a, xs, e, ext_ne hg hs (fun _ z => nomatch z), f, RpK.ext hg kvs xs hr⟩
  | .dt kvs, v, ⟨a, xs, e, hs, f, hr⟩ => ⟨a, xs, e, ext_ne hg hs (fun _ z => nomatch z), f, RpT.ext hg kvs xs hr⟩
  | .obj C fs, v, ⟨a, dx, xs, e, hs, f, hr⟩ => ⟨a, dx, xs, e, ext_ne hg hs (fun _ z => nomatch z), f, RpF.ext hg fs xs hr⟩
  | .loc l, v, h => h
  | .cst a, v, h => h
  | .ty n, v, h => h
  | .scr ns, v, ⟨a, e, hs⟩ => ⟨a, e, hs.elim (fun h => Or.inl ⟨Rd.ext hg h.1, h.2⟩) Or.inr⟩
theorem RpL.ext (hg : H g = some (.ext φ)) : ∀ (ds : List D) (vs : List V), RpL K α H vs ds → RpL K α (upd H g o) vs ds
  | [], vs, h => h
  | d :: ds, vs, ⟨v, r, e, h1, h2⟩ => ⟨v, r, e, Rp.ext hg d v h1, RpL.ext hg ds r h2⟩
theorem RpK.ext (hg : H g = some (.ext φ)) : ∀ (ds : List (Key × D)) (vs : List (Key × V)), RpK K α H vs ds → RpK K α (upd H g o) vs ds
  | [], vs, h => h
  | (k, d) :: ds, vs, ⟨v, r, e, h1, h2⟩ => ⟨v, r, e, Rp.ext hg d v h1, RpK.ext hg ds r h2⟩
theorem RpT.ext (hg : H g = some (.ext φ)) : ∀ (ds : List (List Key × D)) (vs : List (List Key × V)), RpT K α H vs ds → RpT K α (upd H g o) vs ds
  | [], vs, h => h
  | (k, d) :: ds, vs, ⟨v, r, e, h1, h2⟩ => ⟨v, r, e, Rp.ext hg d v h1, RpT.ext hg ds r h2⟩
theorem RpF.ext (hg : H g = some (.ext φ)) : ∀ (ds : List (Str × D)) (vs : List (Str × V)), RpF K α H vs ds → RpF K α (upd H g o) vs ds
  | [], vs, h => h
  | (k, d) :: ds, vs, ⟨v, r, e, h1, h2⟩ => ⟨v, r, e, Rp.ext hg d v h1, RpF.ext hg ds r h2⟩
end
theorem StoreOk.ext (so : StoreOk K α H S) (hg : H g = some (.ext φ)) (f : Off α g) : StoreOk K α (upd H g o) S where
  len := so.len
  inj := so.inj
  ob := fun l a u h e => by
    have ne : a ≠ g := fun z => f l (by rw [← z]; exact h)
    have r := so.ob l a u h e
    cases u with
    | lst ds => obtain ⟨xs, h1, h2⟩ := r; exact ⟨xs, by rw [upd_ne ne]; exact h1, RpL.ext hg _ _ h2⟩
    | dk ds => obtain ⟨xs, h1, h2⟩ := r; exact ⟨xs, by rw [upd_ne ne]; exact h1, RpK.ext hg _ _ h2⟩
    | dt ds => obtain ⟨xs, h1, h2⟩ := r; exact ⟨xs, by rw [upd_ne ne]; exact h1, RpT.ext hg _ _ h2⟩
    | ins C ds => obtain ⟨dx, xs, h1, h2⟩ := r; exact ⟨dx, xs, by rw [upd_ne ne]; exact h1, RpF.ext hg _ _ h2⟩
    | ext u => exact (upd_ne ne).trans r
end
def dSSet2 (t1 t2 : DT) : DT := fun ρ S Q => t1 ρ S fun x S1 => onInt x fun a => t2 ρ S1 fun y S2 => onInt y fun b => Q (.loc S2.length) (S2 ++ [.lst ((twoL a b).map D.int)])
theorem de_sset2 {X : Cx} {e1 e2 : Expr} {t1 t2 : DT} {p q pos : Pos} (hc : X.calm = true) (hcd : PySem.W.kdsCode X.K X.env.code = true) (hg : Gl X "sorted") (hm : X.mg "sorted" = none) (h1 : DE X e1 t1) (h2 : DE X e2 t2)
    (hp : [e1, e2].all PySem.W.kdsPlain = true := by rfl) : DE X (.Call (.Name "sorted" p) [.Set [e1, e2] 0 q] [] pos) (dSSet2 t1 t2) := by
  obtain ⟨⟨u1, a1, b1⟩⟩ := h1
  obtain ⟨⟨u2, a2, b2⟩⟩ := h2
  refine ⟨_, pe_callB (cr_sortedSet hc) hg hm (by decide +kernel) (pa_cons (pe_set2 a1 a2 hcd hp) pa_nil rfl), fun α ρ S σ H Q Q' so ro h k => ?_⟩
  intro g hgn
  have tg : Stp α H α (upd H g (SetO X.w g (fun _ => false) 0)) := Stp.new_ hgn
  have sog := so.grow (keep_new (o := SetO X.w g (fun _ => false) 0) hgn)
  have gof := so.off_new hgn
  refine b1 α ρ S σ _ _ _ sog (ro.stp tg) h fun v H1 α1 d S1 t1' so1 r1 q1 => ?_
  obtain ⟨a, rfl, rfl, q1⟩ := onInt.rp r1 q1
  have g1 : H1 g = some (SetO X.w g (fun _ => false) 0) := t1'.keep _ _ upd_same gof
  have gof1 : Off α1 g := t1'.off upd_same gof
  refine b2 α1 ρ S1 σ H1 _ _ so1 ((ro.stp tg).stp t1') q1 fun v2 H2 α2 d2 S2 t2' so2 r2 q2 => ?_
  obtain ⟨b, rfl, rfl, q2⟩ := onInt.rp r2 q2
  have g2 : H2 g = some (SetO X.w g (fun _ => false) 0) := t2'.keep _ _ g1 gof1
  have gof2 : Off α2 g := t2'.off g1 gof1
  refine ⟨a, b, rfl, rfl, g2, fun n hn => ?_⟩
  refine ⟨g, _, n, rfl, upd_same, by omega, fun ns p pw mem _ hp => ?_⟩
  have ens : ns = twoL a b := twoL_of pw fun k => (mem k).trans (by simp)
  subst ens
  have t3 : Stp α H α2 (upd H2 g (SetO X.w g (fun j => false || decide (j ∈ [a, b])) n)) := Stp.fix (tg.trans (t1'.trans t2')) hgn g2
  have so3 : StoreOk X.K α2 (upd H2 g (SetO X.w g (fun j => false || decide (j ∈ [a, b])) n)) S2 := so2.ext g2 gof2
  have tp := Stp.push (α := α2) (o := HO.lst ((twoL a b).map V.int)) hp
  have hloc : (α2 ++ [some p])[S2.length]? = some (some p) := by
    rw [← so2.len, List.getElem?_append_right (Nat.le_refl _), Nat.sub_self]; rfl
  exact k _ _ (α2 ++ [some p]) (.loc S2.length) _ (t3.trans tp) (so3.push (o := .lst ((twoL a b).map V.int)) (ob := .lst ((twoL a b).map D.int)) hp ⟨_, upd_same, RpL.ints _⟩) ⟨p, rfl, hloc⟩ q2
end DL

/-! DL, 20: promises that hold while no repr is under way (FnG): so the text of a tree's repr is known. -/
namespace DL
open PySem PySem.Spec PyProof.Rows L2
/-- what a def promises to a caller with no repr under way -/
structure FnG (P : Program) (w : World) (K : PySem.W.Frag) (mg : Str → Option Value) (base : Heap) (k : Nat) (f : Addr) (fd : FuncData) (ps : List Str) (sp : Sp) : Prop where
  len : ∀ vs H Q E, sp vs H Q E → vs.length = ps.length
  run : ∀ (A : Around) (outer : List Env) (s : Shared) (H : Hp) (args : Args) (us : List Value) (vs : List V) (Q : VK) (E : XK), A.guards = some [] → Room k A → Env0 P w K mg base A outer s H →
    BindsTo s fd args (ps.zip us) → Vals vs us → sp vs H Q E → codeAny (model P w) A (.call (.ref f) args) (CR CX0 outer P w H s Q E) s
section
variable {P : Program} {w : World} {K : PySem.W.Frag} {mg : Str → Option Value} {base : Heap} {k : Nat} {f : Addr} {N ps : List Str} {sp : Sp} {st : Stmt} {qual x : Str} {fd : FuncData}
theorem FnG.of (F : FnOk P w K mg base CX0 k f fd ps sp) : FnG P w K mg base k f fd ps sp :=
  ⟨F.len, fun A outer s H args us vs Q E _ => F.run A outer s H args us vs Q E⟩
theorem fnG_of {name : Str} {params : Arguments} {body : List Stmt} {scope : Scope} {dV kV doc pm cdv ct oc : Value} {an od : Option Addr} {osl : Array (Option Value)}
    (lk : K.lookup f = some ⟨oc, od, .func (PySem.W.fnOf name qual params body scope dV kV doc pm an cdv ct), osl⟩) (hcd : PySem.W.codeIn K cdv qual = true) (S : FnScope N ps scope) (len : ∀ vs H Q E, sp vs H Q E → vs.length = ps.length)
    (hb0 : ∀ (A : Around) (outer : List Env) (s : Shared) (H : Hp) (vs : List V) (Q : VK) (E : XK), A.guards = some [] → Room k (A.deeper (envOfC qual scope s.heap.objs.size f cdv)) → sp vs H Q E →
      ∃ t, PSs (cxOf CX0 P w K mg base N qual scope f cdv A outer s H E) body t ∧ t { nx := fun _ H' => Q .non H', rt := Q } (start N vs) H) :
    FnG P w K mg base (k + 1) f (PySem.W.fnOf name qual params body scope dV kV doc pm an cdv ct) ps sp where
  len := len
  run := by
    intro A outer s H args us vs Q E hG room env0 binds rel want
    have keepB : ∀ b o, base.get? b = some o → s.heap.get? b = some o := fun b o e => (env0.bs b o e).1
    have inK := env0.mod.kin.keeps keepB
    have noLim := env0.mod.nolimit.keeps keepB
    refine codeAny_call_function room.depth (inK _ _ lk) rfl S.co S.gen rfl (PySem.W.codeRec_of inK hcd) (binds _ _ _ _ (wpAny_newFunctionEnv_cells S.kind (fun y hy => ?par) fun env he s1 x => ?go))
    case par =>
      obtain ⟨n, v⟩ := y
      exact (S.par n (List.of_mem_zip hy).1).elim (fun q => .inl q) fun q => .inr ⟨q, PySem.W.cellsFrom_some _ _ _ (.inl q)⟩
    case go =>
      cases he
      obtain ⟨t, ht, hq⟩ := hb0 A outer s H vs Q E hG (room.deeper _) want
      have inv := inv_start (CX := CX0) (E := E) S room.hd env0 (len _ _ _ _ want) rel x
      refine ⟨noLim.keeps x.toInCall.keep, codeAny_func (wpAny_mono (ht.run [] s1 (start N vs) H _ inv hq) ?_ fun _ _ z => z)⟩
      intro fl s' hs
      cases fl with
      | next =>
        obtain ⟨σ', H', J, q⟩ := hs
        exact ⟨.non, H', J.os, J.bare, J.base, J.hok, rfl, q⟩
      | ret u =>
        obtain ⟨v, σ', H', J, rv, q⟩ := hs
        exact ⟨v, H', J.os, J.bare, J.base, J.hok, rv, q⟩
      | brk =>
        obtain ⟨_, _, _, q⟩ := hs
        exact absurd q id
      | cont =>
        obtain ⟨_, _, _, q⟩ := hs
        exact absurd q id
theorem dfn_okG {dsp : DSp} {t : DS} (F : Fun K x qual st f fd) (S : FnScope N ps (defScope st)) (hlen : ∀ ds S Q E, dsp ds S Q E → ds.length = ps.length)
    (hbody : ∀ (cdv : Value) (A : Around) (outer : List Env) (s : Shared) (H : Hp) (E : XK), A.guards = some [] → Room k (A.deeper (envOfC qual (defScope st) s.heap.objs.size f cdv)) → DSs (cxOf CX0 P w K mg base N qual (defScope st) f cdv A outer s H E).nox (defBody st) t)
    (spec : ∀ ds S Q E, bndL S.length ds → dsp ds S Q E → t { nx := fun _ S' => Rt S Q .non S', rt := Rt S Q } (startR N.length ds) S) : FnG P w K mg base (k + 1) f fd ps (spOf K ps.length dsp) := by
  obtain ⟨oc, od, kV, doc, pm, an, cdv, ct, osl, rfl, lk, hcd⟩ := F.ex
  refine fnG_of lk hcd S (fun vs H Q E h => h.1) fun A outer s H vs Q E hG hr h => ?_
  obtain ⟨hl, α, S0, ds, Qd, Ed, so, r, hd, ke, kx⟩ := h
  obtain ⟨⟨ts, h1, h2⟩⟩ := hbody cdv A outer s H E hG hr
  refine ⟨ts, h1.nox, ?_⟩
  have hpl : ps.length ≤ N.length := by have := congrArg List.length S.pre; rw [List.length_take] at this; omega
  have hds : ds.length ≤ N.length := by rw [hlen _ _ _ _ hd]; exact hpl
  have bd : bndL S0.length ds := by rw [← so.len]; exact r.bnd
  have fin : ∀ v H' α' d S', Stp α H α' H' → StoreOk K α' H' S' → Rp K α' H' v d → Rt S0 Qd d S' → Q v H' := fun v H' α' d S' t' so' r' q => Rt.fin so t' so' r' q ke
  exact h2 α (startR N.length ds) S0 (start N vs) H _ _ so (startR_ok r hds) (spec ds S0 Qd Ed bd hd) ⟨fun σ' H' α' ρ' S' t' so' ro' q => fin .non H' α' .non S' t' so' rfl q, fin, fun _ _ _ _ _ _ _ _ z => z.elim, fun _ _ _ _ _ _ _ _ z => z.elim⟩
end
section
variable {X : Cx} {CX : CXT} {k n : Nat} {f : Addr} {fd : FuncData} {ps : List Str} {dsp : DSp} {sp : Sp} {dvs : List V} {dfs : List Value} {x : Str} {p pos : Pos} {e : Expr} {es : List Expr} {td : DA} {E : XK}
/-- the callee of a promise FnG runs -/
theorem run_fnG {pins : List (Addr × Obj)} {σ : L2.St} {H : Hp} {s : Shared} {Q : VK} {us : List Value} {vs : List V} (hG : X.A.guards = some []) (F : FnG X.prog X.w X.K X.mg X.base k f fd ps sp) (hr : Room k X.A) (hb : Binds X.K fd ps []) (hx : Passes CX0 X E)
    (I : Inv X pins σ H s) (rel : Vals vs us) (want : sp vs H Q E) : wpAny (model X.prog X.w) X.A (call (.ref f) us) (EP X pins σ Q) X.xe s := by
  have hl : (us ++ []).length = ps.length := by
    rw [List.append_nil, ← rel.length]
    exact F.len _ _ _ _ want
  have bd := hb s us I.kIn hl
  rw [List.append_nil] at bd
  refine wpAny_call (codeAny_mono (F.run X.A X.stack s H ⟨us, []⟩ us vs Q E hG hr I.env0 bd rel want) ?_)
  rintro (er | fl) s' hq
  · exact hx pins σ H s er s' I hq
  · cases fl with
    | ret u => exact I.after hq
    | next => exact absurd hq id
    | brk => exact absurd hq id
    | cont => exact absurd hq id
theorem de_callG (hG : X.A.guards = some []) (F : FnG X.prog X.w X.K X.mg X.base k f fd ps (spOf X.K n dsp)) (hr : Room k X.A) (hg : Gl X x) (hm : X.mg x = some (.ref f)) (hk : PySem.W.keepIn X.K (.ref f) = true) (hb : Binds X.K fd ps []) (hx : Passes CX0 X E0) (hn : ∀ ds S Q E, dsp ds S Q E → ds.length = n)
    (ha : DAs X (e :: es) td) (hdb : (x == ("__debug__" : Str)) = false := by decide) (he : starEach (e :: es) X.env = (false, eval e X.env) :: starEach es X.env := by rfl) (hpl : (backTo pos (starEach es X.env)).any (·.1) = false := by rfl) :
    DE X (.Call (.Name x p) (e :: es) [] pos) (dCall dsp [] td) := by
  obtain ⟨⟨t1, h1, h2⟩⟩ := ha
  refine ⟨tCall (spOf X.K n dsp) [] E0 t1, ⟨fun pins s σ H Q I h => wpAny_Call_Name_kw (ld_glob I hg hm ?_ hdb)⟩, lift_call h2 (fun _ _ => rfl) hn⟩
  refine PySem.W.callWith_K (h₀ := X.base) I.ok.mod.kin hk (thn (h1.run pos pins s σ H _ I h) fun us s1 ⟨vs, H1, I1, r, q⟩ => ⟨I1.kIn, run_fnG hG F hr hb hx I1 r ?_⟩) he hpl
  have q : spOf X.K n dsp (vs ++ []) H1 Q E0 := q
  rwa [List.append_nil] at q
/-! repr of a tree -/
theorem call_reprT (hG : X.A.guards = some []) (hu : X.A.units + 65 < cLine) : CallR X (.builtin "repr") (fun xs H Q => ∃ a d, xs = [.ref a] ∧ Dp X.K H (.ref a) d ∧ (d.showable = true ∧ d.hasDict = false ∧ d.depth ≤ 20 ∧ d.shown.length ≤ sizeLine) ∧ Q (.str d.shown) H) := by
  intro pins s σ H xs us Q I r h
  obtain ⟨a, d, rfl, hd, ⟨h1, h2, h3, h4⟩, q⟩ := h
  obtain ⟨u, rfl, ru⟩ := vals1 r
  obtain ⟨as, rd⟩ := Dp.reads I d _ u hd ru
  cases ru
  exact repr_of_reads' rd h1 (PyData.noDict_hsm h2) hG (by omega) (fun _ _ z => z) (fun h' u' tk hk => ⟨.str _, H, I.kept hk, ⟨_, rfl⟩, q⟩) h4
/-- what may be shown: proper texts, ints of a bounded size -/
def shw : D → Bool
  | .int i => decide (i.natAbs < 2 ^ 200)
  | .str s => decide (s.length ≤ 1000)
  | .non => true
  | .bl _ => true
  | _ => false
def shw1 : D → Bool
  | .tup ds => decide (ds.length ≤ 64) && ds.all shw
  | .lst ds => decide (ds.length ≤ 64) && ds.all shw
  | d => shw d
end
end DL

/-! DL, 21: a law's end for a promise FnG: the law's caller has no repr under way. -/
namespace DL
open PySem PySem.Spec PyProof.Rows L2
/-- what is known of the abstract heap at the law's entry: at most the script is tracked -/
structure Entry (P : Program) (w : World) (K : PySem.W.Frag) (s : Shared) (a : Addr) (H : Hp) : Prop where
  only : Only H
  ok : HOk P w H s.heap
  at_ : ∀ b, H b ≠ none → b = a
  low : H a ≠ none → K.lookup a = none
section
variable {P : Program} {w : World} {K : PySem.W.Frag} {mg mb : Str → Option Value} {fa a : Addr} {fd : FuncData} {x : Str} {sp : Sp} {s₁ : Shared} {vs : List Value} {ns : List Int} {k : Nat} {H : Hp}
theorem Entry.hides (T : Entry P w K s₁ a H) (ha : s₁.heap.get? a = some { cls := .type "list", data := .seq vs.toArray }) {b : Addr} {o : Obj} {es : Array DictEntry} {ep : Nat} (e : s₁.heap.get? b = some o) (d : o.data = .dict es ep) : H b = none := by
  by_cases q : H b = none
  · exact q
  · have hb := T.at_ b q
    rw [hb, ha] at e
    rw [← Option.some.inj e] at d
    exact absurd d (fun z => nomatch z)
theorem Entry.frag (T : Entry P w K s₁ a H) (inK : K.In s₁.heap) : K.In (hidT s₁.heap H) := by
  intro b o e
  refine hidT_get (inK b o e) (Classical.byContradiction fun q => ?_)
  have hb := T.at_ b q
  have e2 : K.lookup b = none := by rw [hb]; exact T.low (hb ▸ q)
  rw [show K.lookup b = some o from e] at e2
  exact absurd e2 (fun z => nomatch z)
theorem Entry.names (T : Entry P w K s₁ a H) (ha : s₁.heap.get? a = some { cls := .type "list", data := .seq vs.toArray }) {b : Addr} {m : Str → Option Value} (h : s₁.heap.Ns b m) : (hidT s₁.heap H).Ns b m := by
  obtain ⟨o, es, ep, e, d, r⟩ := h
  exact ⟨o, es, ep, hidT_get e (T.hides ha e d), d, r⟩
theorem Entry.run (T : Entry P w K s₁ a H) (inK : K.In s₁.heap) (hmg : s₁.heap.Ns mainGlobals mg) (hmb : s₁.heap.Ns builtinsNs mb) (hbb : ∀ x : Str, x ≠ "__name__" → mb x = bootBuiltins x) (noLim : s₁.heap.NoLimit) (gens : s₁.gens = #[])
    (ha : s₁.heap.get? a = some { cls := .type "list", data := .seq vs.toArray }) (room : Room k callerA)
    (F : ∀ base : Heap, K.In base → base.Ns mainGlobals mg → FnG P w K mg base k fa fd [x] sp) (bind : ∀ (s : Shared) (u : Value), BindsTo s fd ⟨[u], []⟩ [(x, u)]) (want : sp [.ref a] H (fun v _ => v = .bl true) fun _ _ _ => False) :
    codeAny (model P w) callerA (.call (.ref fa) ⟨[.ref a], []⟩) (fun r s' => r = .ok (.ret (.bool true)) ∧ OldK s₁.heap s'.heap ∧ s'.os = s₁.os ∧ AllBare s'.gens) s₁ := by
  have kb := T.frag inK
  have kg := T.names ha hmg
  have modu : Mod K mg (hidT s₁.heap H) := by
    obtain ⟨mc, l1, l2⟩ := noLim
    exact ⟨kb, kg, ⟨mb, T.names ha hmb, hbb⟩, mc, T.names ha l1, l2⟩
  have env0 : Env0 P w K mg (hidT s₁.heap H) callerA [] s₁ H :=
    { frames := rfl, mod := modu, bs := fun b o e => of_hidT e, bsz := Nat.le_of_eq (hidT_size _ _), funs := trivial, frf := fun b hb => (List.not_mem_nil hb).elim, hok := T.ok, bare := .of_eq gens }
  have call := (F _ kb kg).run callerA [] s₁ H ⟨[.ref a], []⟩ [.ref a] [.ref a] _ _ rfl room env0 (bind s₁ (.ref a)) (.cons rfl .nil) want
  refine codeAny_mono call ?_
  rintro (er | fl) s' h
  · exact absurd h (fun z => nomatch z)
  · cases fl with
    | next => exact absurd h id
    | brk => exact absurd h id
    | cont => exact absurd h id
    | ret u =>
      obtain ⟨v, H', os, bare, un, ok', rel, e⟩ := h
      cases (show v = .bl true from e)
      cases (show u = Value.bool true from rel)
      refine ⟨rfl, OldK.of_keep fun b o e => ?_, os, bare⟩
      rcases T.only b with q | ⟨ob, ys, q⟩
      · exact un.keep b o e q (fun z => (List.not_mem_nil (show b ∈ ([] : List Addr) from z)).elim) (List.not_mem_nil)
      · have e1 := (T.ok b _ q).1
        rw [e] at e1
        rw [Option.some.inj e1]
        exact (ok' b _ (un.frzs b ob _ q)).1
theorem law_callG (inK : K.In s₁.heap) (hmg : s₁.heap.Ns mainGlobals mg) (hmb : s₁.heap.Ns builtinsNs mb) (hbb : ∀ x : Str, x ≠ "__name__" → mb x = bootBuiltins x) (noLim : s₁.heap.NoLimit) (gens : s₁.gens = #[])
    (ha : s₁.heap.get? a = some { cls := .type "list", data := .seq vs.toArray }) (isI : IntsAre vs ns) (hl : ns.length ≤ sizeLine) (room : Room k callerA)
    (F : ∀ base : Heap, K.In base → base.Ns mainGlobals mg → FnG P w K mg base k fa fd [x] sp) (bind : ∀ (s : Shared) (u : Value), BindsTo s fd ⟨[u], []⟩ [(x, u)])
    (want : ∀ H : Hp, Only H → SqL K H a (ns.map V.int) → sp [.ref a] H (fun v _ => v = .bl true) fun _ _ _ => False) :
    codeAny (model P w) callerA (.call (.ref fa) ⟨[.ref a], []⟩) (fun r s' => r = .ok (.ret (.bool true)) ∧ OldK s₁.heap s'.heap ∧ s'.os = s₁.os ∧ AllBare s'.gens) s₁ := by
  by_cases low : K.lookup a = none
  · -- the script is tracked as a list that nobody changes
    have self : ∀ {b : Addr} {u : HO}, (if b = a then some (HO.frz { cls := .type "list", data := .seq vs.toArray } (.lst (ns.map V.int))) else none) = some u → b = a ∧ u = HO.frz { cls := .type "list", data := .seq vs.toArray } (.lst (ns.map V.int)) := by
      intro b u z
      by_cases e : b = a
      · rw [if_pos e] at z; exact ⟨e, (Option.some.inj z).symm⟩
      · rw [if_neg e] at z; exact absurd z (fun q => nomatch q)
    have T : Entry P w K s₁ a (fun b => if b = a then some (.frz { cls := .type "list", data := .seq vs.toArray } (.lst (ns.map V.int))) else none) :=
      { only := fun b => by
          by_cases e : b = a
          · exact .inr ⟨_, _, if_pos e⟩
          · exact .inl (if_neg e)
        ok := fun b u z => by
          obtain ⟨rfl, rfl⟩ := self z
          exact ⟨ha, by rw [List.length_map]; exact hl, vs, _, vals_ints isI, ha⟩
        at_ := fun b z => Classical.byContradiction fun e => z (if_neg e)
        low := fun _ => low }
    exact T.run inK hmg hmb hbb noLim gens ha room F bind (want _ T.only (.inl (.inr ⟨_, if_pos rfl⟩)))
  · obtain ⟨o, low⟩ := Option.ne_none_iff_exists'.mp low
    have e := inK a o low
    rw [ha] at e
    cases e
    have T : Entry P w K s₁ a (fun _ => none) := { only := fun _ => .inl rfl, ok := fun b u z => by exact absurd (show (none : Option HO) = some u from z) (fun q => nomatch q), at_ := fun b z => absurd rfl z, low := fun z => absurd rfl z }
    exact T.run inK hmg hmb hbb noLim gens ha room F bind (want _ T.only (.inr ⟨_, vs.toArray, _, low, rfl, rfl, rfl, by rw [List.size_toArray, isI.length]; exact hl, by simpa using vals_ints isI⟩))
end
theorem walk_ofG {l : PySem.W.OpenLaw} {n k : Nat} {q : Program} {loose : List Str} {XP : (Str → Option Value) → Heap → Prop} {YP : World → Heap → Prop} {d : DefRec} {x : Str} (hn : l.most = some n) (hn2 : n ≤ sizeLine) (hdf : d.params.defaults = []) (room : Room k callerA)
    (F : ∀ (w : World) (mg : Str → Option Value) (fa : Addr) (h : Heap), YP w h → h.Ns mainGlobals mg → mg d.name = some (.ref fa) →
      ∃ (K : PySem.W.Frag) (fd : FuncData) (sp : Sp), K.In h ∧ (∀ (s : Shared) (u : Value), BindsTo s fd ⟨[u], []⟩ [(x, u)]) ∧
        (∀ (H : Hp) (a : Addr) (ns : List Int), ns.length ≤ n → Only H → SqL K H a (ns.map V.int) → sp [.ref a] H (fun v _ => v = .bl true) fun _ _ _ => False) ∧
        ∀ base : Heap, K.In base → base.Ns mainGlobals mg → FnG l.prog w K mg base k fa fd [x] sp) :
    PySem.W.WalkO q loose XP YP l.row.toRowW d [] (fun f vs => PySem.call f vs) := by
  refine Att.attach_call hn hdf fun w s₀ s₁ mg mb fa o pm cd doc a vs ns glob inY ho hd hcd hfa hobj isI short gens => ?_
  obtain ⟨K, fd, sp, inK, bind, want, promise⟩ := F w mg fa _ inY glob.T.g hfa
  exact law_callG inK glob.T.g glob.T.b glob.T.builtins glob.T.nolimit gens hobj isI (Nat.le_trans short hn2) room promise bind fun H only sq => want H a ns short only sq
end DL

/-! DL, 22: a display of a dict whose keys are written texts; repr at a place with no repr under way. -/
namespace DL
open PySem PySem.Spec PyProof.Rows L2
/-- an empty dict at p that nobody refers to yet -/
def EmpD (P : Program) (w : World) (p : Addr) : HO := .ext fun h => ∀ h' : Heap, (∀ o, h.get? p = some o → h'.get? p = some o) → h'.DictOf (mixKind P w) p []
theorem empD_new {P : Program} {w : World} {H : Hp} (h : Heap) : ObjOk P w H (h.push { cls := .type "dict", data := .dict #[] }) h.objs.size (EmpD P w h.objs.size) := by
  have at_ : (h.push { cls := .type "dict", data := .dict #[] }).get? h.objs.size = some { cls := .type "dict", data := .dict #[] } := Heap.get?_push_size _ rfl
  exact ⟨fun h' k => ⟨_, #[], 0, k _ at_, ⟨rfl, rfl, rfl⟩, rfl, (fun _ he => by simp at he), Pairs.nil, List.nodup_nil⟩, ⟨_, at_⟩, fun h1 h2 f k h' k' => f h' fun o e => k' o (k o e)⟩
/-- {k: v, ..}: while the pairs are made nobody refers to the new dict -/
def tDispX (P : Program) (w : World) (trs : List (TE × TE)) : TE := fun σ H Q => ∀ p, H p = none → tPairs trs σ (upd H p (EmpD P w p)) fun ps H2 => H2 p = some (EmpD P w p) ∧
  ∃ kvs : List (Key × V), ps = kvs.map (fun kv => (kV kv.1, kv.2)) ∧ kvs.length ≤ 15 ∧ Q (.ref p) (upd H2 p (.dK (mergeK [] kvs)))
theorem pe_dispX {X : Cx} {pos : Pos} {keys : List (Option Expr)} {vals : List Expr} {trs : List (TE × TE)} (h : PPs X pos keys vals trs) (hall : keys.all (·.isSome) = true) (hl : keys.length = vals.length) (h0 : keys ≠ []) (h15 : keys.length ≤ 15) : PE X (.Dict keys vals pos) (tDispX X.prog X.w trs) := by
  refine ⟨fun pins s σ H Q I q => ?_⟩
  have new := I.hok.fresh (Nat.le_refl s.heap.objs.size)
  have big : (s.heap.objs.size == sysModules) = false := beq_eq_false_iff_ne.mpr (Ne.symm (Nat.ne_of_lt I.big))
  refine wpAny_Dict_walk (knd := mixKind X.prog X.w) hall hl h0 h15 (thn (h.run pins _ σ _ _ (I.laid (o := EmpD X.prog X.w s.heap.objs.size) (t' := s.toks) (fun _ _ z => Heap.get?_push_of_some _ z) (Nat.le_refl _) (empD_new s.heap)) (q _ new)) ?_)
  rintro ws s2 ⟨ps, H2, I2, rel, e, kvs, rfl, lk, q2⟩
  obtain ⟨rs, c, rk⟩ := carries_of (P := X.prog) (w := X.w) rel
  have emp := (I2.hok _ _ e).1 s2.heap fun _ z => z
  refine ⟨rs, c, emp, fun h' dd' hs => ⟨.ref s.heap.objs.size, _, d_write I2 (by rw [e]; exact True.intro) hs ?_ (dk_new ?_ big (rk.merge .nil) dd'), rfl, q2⟩⟩
  · obtain ⟨u, _, _, hu, _⟩ := dd'
    exact ⟨u, hu⟩
  · have h1 := length_mergeK kvs []
    rw [List.length_nil] at h1
    rw [sizeLine_eq]; omega
def LiftP (K : PySem.W.Frag) (trs : List (TE × TE)) (ks : List Str) (t : DA) : Prop :=
  ∀ α ρ S σ H (Q : List D → Store → Prop) (Q' : List (V × V) → Hp → Prop), StoreOk K α H S → RhoOk K α H ρ σ → t ρ S Q →
    (∀ vs H' α' ds S', Stp α H α' H' → StoreOk K α' H' S' → RpL K α' H' vs ds → ds.length = ks.length → Q ds S' → Q' ((ks.map V.str).zip vs) H') → tPairs trs σ H Q'
structure DPs (X : Cx) (pos : Pos) (keys : List (Option Expr)) (vals : List Expr) (ks : List Str) (t : DA) : Prop where
  ex : ∃ trs, PPs X pos keys vals trs ∧ LiftP X.K trs ks t
section
variable {X : Cx} {pos : Pos} {v : Expr} {keys : List (Option Expr)} {vals : List Expr} {ks : List Str} {t : DA} {tv : DT}
theorem dps_nil : DPs X pos [] [] [] dNil := ⟨_, pps_nil, fun α ρ S σ H Q Q' so ro q k => k [] H α [] S (Stp.refl _ _) so rfl rfl q⟩
theorem dps_cons {x : Str} {j : Nat} {p : Pos} (hv : DE X v tv) (hr : DPs X pos keys vals ks t) : DPs X pos (some (.Constant (.str x) j p) :: keys) (v :: vals) (x :: ks) (dCons tv t) := by
  obtain ⟨⟨te, h1, h2⟩⟩ := hv
  obtain ⟨⟨trs, h3, h4⟩⟩ := hr
  refine ⟨_, pps_cons pe_str h1 h3, fun α ρ S σ H Q Q' so ro q k => ?_⟩
  show tPairs _ σ H Q'
  refine h2 α ρ S σ H _ _ so ro q fun u H1 α1 d S1 t1 so1 r1 q1 => ?_
  refine h4 α1 ρ S1 σ H1 _ _ so1 (ro.stp t1) q1 fun vs H2 α2 ds S2 t2 so2 r2 hl q2 => ?_
  exact k _ _ _ _ _ (t1.trans t2) so2 (show RpL X.K α2 H2 (u :: vs) (d :: ds) from ⟨u, vs, rfl, Rp.stp t2 _ _ r1, r2⟩) (by rw [List.length_cons, List.length_cons, hl]) q2
def dspK (ks : List Str) (ds : List D) : List (Key × D) := (ks.zip ds).foldl (fun acc kv => stoD acc (Sum.inr kv.1) kv.2) []
def dDisp (ks : List Str) (t : DA) : DT := fun ρ S Q => t ρ S fun ds S1 => Q (.dk (dspK ks ds)) S1
theorem disp_rp {K : PySem.W.Frag} {α : Locs} {H : Hp} : ∀ {ks : List Str} {ds : List D} {vs : List V} {acc : List (Key × D)} {acc' : List (Key × V)}, RpL K α H vs ds → ds.length = ks.length → RpK K α H acc' acc →
    RpK K α H (mergeK acc' ((ks.zip vs).map fun p => ((Sum.inr p.1 : Key), p.2))) ((ks.zip ds).foldl (fun acc kv => stoD acc (Sum.inr kv.1) kv.2) acc)
  | [], ds, vs, acc, acc', r, hl, ra => by
    rw [List.length_nil] at hl
    rw [List.length_eq_zero_iff.mp hl] at r ⊢
    cases (show vs = [] from r)
    exact ra
  | k :: ks, [], vs, acc, acc', r, hl, ra => by simp at hl
  | k :: ks, d :: ds, vs, acc, acc', ⟨v, w, e, r1, r2⟩, hl, ra => by
    subst e
    exact disp_rp (ks := ks) r2 (by simpa using hl) (RpK.put r1 (Sum.inr k) ra)
theorem de_disp (h : DPs X pos keys vals ks t) (hall : keys.all (·.isSome) = true := by rfl) (hl : keys.length = vals.length := by rfl) (h0 : keys ≠ [] := by simp) (h15 : keys.length ≤ 15 := by exact Nat.le_of_ble_eq_true rfl) (hk : ks.length ≤ 15 := by exact Nat.le_of_ble_eq_true rfl) :
    DE X (.Dict keys vals pos) (dDisp ks t) := by
  obtain ⟨⟨trs, h1, h2⟩⟩ := h
  refine ⟨_, pe_dispX h1 hall hl h0 h15, fun α ρ S σ H Q Q' so ro q k => ?_⟩
  intro p hp
  have tg : Stp α H α (upd H p (EmpD X.prog X.w p)) := Stp.new_ hp
  have sog := so.grow (keep_new (o := EmpD X.prog X.w p) hp)
  have gof := so.off_new hp
  refine h2 α ρ S σ _ _ _ sog (ro.stp tg) q fun vs H1 α1 ds S1 t1 so1 r1 hlen q1 => ?_
  have g1 : H1 p = some (EmpD X.prog X.w p) := t1.keep _ _ upd_same gof
  have gof1 : Off α1 p := t1.off upd_same gof
  have hvl := r1.len
  refine ⟨g1, (ks.zip vs).map fun p => ((Sum.inr p.1 : Key), p.2), ?_, ?_, ?_⟩
  · rw [List.map_map, List.zip_map_left]; rfl
  · rw [List.length_map, List.length_zip]; omega
  have go := disp_rp (ks := ks) (acc := []) (acc' := []) r1 hlen rfl
  have so2 : StoreOk X.K α1 (upd H1 p (.dK (mergeK [] ((ks.zip vs).map fun p => ((Sum.inr p.1 : Key), p.2))))) S1 := so1.ext g1 gof1
  exact k _ _ α1 (.dk (dspK ks ds)) S1 (Stp.fix (tg.trans t1) hp g1) so2 ⟨p, _, rfl, upd_same, gof1, RpK.ext g1 _ _ go⟩ q1
end
end DL

/-! DL, 23: repr of trees, int of a truth value. -/
namespace DL
open PySem PySem.Spec PyProof.Rows L2
mutual
/-- what may be shown: bounded ints, proper texts, lists and tuples of such -/
def fine : D → Prop
  | .int i => -(2 ^ 200) < i ∧ i < 2 ^ 200
  | .non => True
  | .bl _ => True
  | .str s => PyData.strOk s = true
  | .tup ds => fineL ds
  | .lst ds => fineL ds
  | .dk _ => False | .dt _ => False | .obj _ _ => False | .loc _ => False | .cst _ => False | .ty _ => False | .scr _ => False
def fineL : List D → Prop
  | [] => True
  | d :: ds => fine d ∧ fineL ds
end
mutual
def siz : D → Nat
  | .str s => s.cps.size
  | .tup ds => sizL ds
  | .lst ds => sizL ds
  | .int _ => 0 | .non => 0 | .bl _ => 0 | .dk _ => 0 | .dt _ => 0 | .obj _ _ => 0 | .loc _ => 0 | .cst _ => 0 | .ty _ => 0 | .scr _ => 0
def sizL : List D → Nat
  | [] => 0
  | d :: ds => siz d + 1 + sizL ds
end
mutual
def dpt : D → Nat
  | .tup ds => dptL ds + 1
  | .lst ds => dptL ds + 1
  | .str _ => 0 | .int _ => 0 | .non => 0 | .bl _ => 0 | .dk _ => 0 | .dt _ => 0 | .obj _ _ => 0 | .loc _ => 0 | .cst _ => 0 | .ty _ => 0 | .scr _ => 0
def dptL : List D → Nat
  | [] => 0
  | d :: ds => max (dpt d) (dptL ds)
end
structure ReprOk (d : D) : Prop where
  f : fine d
  s : siz d ≤ 40000
  d : dpt d ≤ 12
mutual
theorem fine_ok : ∀ (d : D) (n : Nat), fine d → dpt d ≤ n → okD n d = true
  | .int _, n, _, _ => by cases n <;> rfl
  | .non, n, _, _ => by cases n <;> rfl
  | .bl _, n, _, _ => by cases n <;> rfl
  | .str s, n, h, _ => by cases n <;> exact h
  | .tup ds, 0, _, hd => by simp [dpt] at hd
  | .lst ds, 0, _, hd => by simp [dpt] at hd
  | .tup ds, n + 1, h, hd => fine_okL ds n h (by simp [dpt] at hd; exact hd)
  | .lst ds, n + 1, h, hd => fine_okL ds n h (by simp [dpt] at hd; exact hd)
  | .dk _, _, h, _ => h.elim
  | .dt _, _, h, _ => h.elim
  | .obj _ _, _, h, _ => h.elim
  | .loc _, _, h, _ => h.elim
  | .cst _, _, h, _ => h.elim
  | .ty _, _, h, _ => h.elim
  | .scr _, _, h, _ => h.elim
theorem fine_okL : ∀ (ds : List D) (n : Nat), fineL ds → dptL ds ≤ n → ds.all (okD n) = true
  | [], _, _, _ => rfl
  | d :: ds, n, h, hd => by
    have hd : max (dpt d) (dptL ds) ≤ n := hd
    rw [List.all_cons, fine_ok d n h.1 (by omega), fine_okL ds n h.2 (by omega)]; rfl
end
theorem log200 {i : Int} (h : -(2 ^ 200) < i ∧ i < 2 ^ 200) : i.natAbs.log2 < 200 := log2_small (b := 200) (by omega) (by decide)
mutual
theorem fine_show : ∀ d : D, fine d → (py d).showable = true ∧ (py d).leavesShort 250 = true ∧ (py d).bulk = siz d
  | .int i, h => by
    have h1 := log200 h
    refine ⟨decide_eq_true (by omega), decide_eq_true ?_, rfl⟩
    show (Str.ofString (toString i)).length ≤ 250
    rw [PySem.ofString_length]
    exact Nat.le_trans (int_text_length_le (k := 200) (by decide) h1) (by decide)
  | .non, _ => ⟨rfl, rfl, rfl⟩
  | .bl _, _ => ⟨rfl, rfl, rfl⟩
  | .str s, h => by
    refine ⟨rfl, ?_, rfl⟩
    show (s.cps.toList.all fun c => decide (c < 16 ^ 8)) = true
    have h : s.cps.all (· < 0x110000) = true := h
    rw [← Array.all_toList, List.all_eq_true] at h
    rw [List.all_eq_true]
    intro c hc
    have := of_decide_eq_true (h c hc)
    exact decide_eq_true (by omega)
  | .tup ds, h => fine_showL ds h
  | .lst ds, h => fine_showL ds h
  | .dk _, h => h.elim
  | .dt _, h => h.elim
  | .obj _ _, h => h.elim
  | .loc _, h => h.elim
  | .cst _, h => h.elim
  | .ty _, h => h.elim
  | .scr _, h => h.elim
theorem fine_showL : ∀ ds : List D, fineL ds → PyData.showableAll (pyL ds) = true ∧ PyData.leavesShortAll 250 (pyL ds) = true ∧ PyData.bulkAll (pyL ds) = sizL ds
  | [], _ => ⟨rfl, rfl, rfl⟩
  | d :: ds, h => by
    obtain ⟨a1, a2, a3⟩ := fine_show d h.1
    obtain ⟨b1, b2, b3⟩ := fine_showL ds h.2
    refine ⟨?_, ?_, ?_⟩
    · show ((py d).showable && PyData.showableAll (pyL ds)) = true
      rw [a1, b1]; rfl
    · show ((py d).leavesShort 250 && PyData.leavesShortAll 250 (pyL ds)) = true
      rw [a2, b2]; rfl
    · show (py d).bulk + 1 + PyData.bulkAll (pyL ds) = siz d + 1 + sizL ds
      rw [a3, b3]
end
theorem ReprOk.len {d : D} (h : ReprOk d) : (py d).shown.length ≤ sizeLine := by
  obtain ⟨h1, h2, h3⟩ := fine_show d h.f
  have h4 := PyData.shown_le_bulk 250 (by decide) (py d) h2
  rw [h3] at h4
  have h5 := h.s
  have h6 : (250 + 2) * siz d ≤ 252 * 40000 := Nat.mul_le_mul_left 252 h5
  rw [sizeLine_eq]
  omega
section
variable {X : Cx}
/-- repr(d): the text of d -/
def cdReprT : CD := fun ds S Q => on1 ds fun d => match d with
  | .int i => (-(2 ^ 200) < i ∧ i < 2 ^ 200) ∧ Q (.str (py (.int i)).shown) S
  | .non => Q (.str (py .non).shown) S
  | .bl b => Q (.str (py (.bl b)).shown) S
  | .tup xs => ReprOk (.tup xs) ∧ Q (.str (py (.tup xs)).shown) S
  | .lst xs => ReprOk (.lst xs) ∧ Q (.str (py (.lst xs)).shown) S
  | .loc l => onOpt S[l]? fun o => match o with
    | .lst xs => ReprOk (.lst xs) ∧ Q (.str (py (.lst xs)).shown) S
    | _ => False
  | _ => False
theorem call_repr_bl : CallR X (.builtin "repr") (fun xs H Q => ∃ b, xs = [.bl b] ∧ Q (.str (PyData.bool b).shown) H) := by
  intro pins s σ H xs us Q I r h
  obtain ⟨b, rfl, q⟩ := h
  obtain ⟨u, rfl, ru⟩ := vals1 r
  cases ru
  exact PySem.P.repr_of_bool ⟨.str _, H, I.tok _, ⟨_, rfl⟩, by cases b <;> exact q⟩
theorem cd_reprT (hG : X.A.guards = some []) (hu : X.A.units + 65 < cLine) : CallD X (.builtin "repr") cdReprT := by
  refine ⟨_, ((SkE.call_repr_int.or call_repr_non).or call_repr_bl).or (call_reprT hG hu), fun α S H xs vs Q Q' so r h k => ?_⟩
  obtain ⟨d, v, rfl, rfl, rv, h⟩ := on1.rp r h
  have tree : ∀ d' : D, (∃ a, v = .ref a) → Dp X.K H v (py d') → ReprOk d' → Q (.str (py d').shown) S → ∃ a e, [v] = [V.ref a] ∧ Dp X.K H (.ref a) e ∧ (e.showable = true ∧ e.hasDict = false ∧ e.depth ≤ 20 ∧ e.shown.length ≤ sizeLine) ∧ Q' (.str e.shown) H := by
    rintro d' ⟨a, rfl⟩ hd ok q
    have h1 := fine_ok d' 12 ok.f ok.d
    obtain ⟨h2, h3⟩ := okD_lay 12 d' h1
    exact ⟨a, _, rfl, hd, ⟨(fine_show d' ok.f).1, PyData.hasDict_of_canLay _ h2, by omega, ok.len⟩, k.str so q⟩
  cases d with
  | int i =>
    cases (show v = .int i from rv)
    exact Or.inl (Or.inl (Or.inl ⟨i, rfl, Nat.lt_trans (log200 h.1) (by decide), k.str so h.2⟩))
  | non =>
    cases (show v = .non from rv)
    exact Or.inl (Or.inl (Or.inr ⟨rfl, k.str so h⟩))
  | bl b =>
    cases (show v = .bl b from rv)
    exact Or.inl (Or.inr ⟨b, rfl, k.str so h⟩)
  | tup ds =>
    obtain ⟨ok, q⟩ := h
    obtain ⟨a, xs, e, _⟩ := id rv
    exact Or.inr (tree _ ⟨a, e⟩ (okD_dp 12 _ v (fine_ok _ 12 ok.f ok.d) rv) ok q)
  | lst ds =>
    obtain ⟨ok, q⟩ := h
    obtain ⟨a, xs, e, _⟩ := id rv
    exact Or.inr (tree _ ⟨a, e⟩ (okD_dp 12 _ v (fine_ok _ 12 ok.f ok.d) rv) ok q)
  | loc l =>
    obtain ⟨o, ho, h⟩ : onOpt S[l]? fun o => match o with | .lst xs => ReprOk (.lst xs) ∧ Q (.str (py (.lst xs)).shown) S | _ => False := h
    cases o with
    | lst xs =>
      obtain ⟨ok, q⟩ := h
      have e : res S (.loc l) = .lst xs := by
        show (match S[l]? with | some (.lst ds) => D.lst ds | _ => .loc l) = _
        rw [ho]
      have hd := res_dp so rv (by rw [e]; exact fine_ok _ 12 ok.f ok.d)
      rw [e] at hd
      obtain ⟨a, ea, _⟩ := id rv
      exact Or.inr (tree _ ⟨a, ea⟩ hd ok q)
    | _ => exact h.elim
  | _ => exact h.elim
/-- int(i), int(b) -/
def cdInt1 : CD := fun ds S Q => on1 ds fun d => match d with
  | .int i => Q (.int i) S
  | .bl b => Q (.int (if b then 1 else 0)) S
  | _ => False
theorem cd_int1 : CallD X (.type "int") cdInt1 := by
  refine ⟨_, call_int1, fun α S H xs vs Q Q' so r h k => ?_⟩
  obtain ⟨d, v, rfl, rfl, rv, h⟩ := on1.rp r h
  cases d with
  | int i =>
    cases (show v = .int i from rv)
    exact Or.inl ⟨i, rfl, k.int so h⟩
  | bl b =>
    cases (show v = .bl b from rv)
    exact Or.inr ⟨b, rfl, k.int so h⟩
  | _ => exact h.elim
end
end DL

/-! DL, 24: a for over a list that lives in the store (and stays as it is meanwhile). -/
namespace DL
open PySem PySem.Spec PyProof.Rows L2
def forM0 (l : Nat) (ds : List D) (g : DG) (tb : DS) (E : DEnds) : List D → Rho → Store → Prop
  | [], ρ, S => S[l]? = some (.lst ds) ∧ E.nx ρ S
  | x :: r, ρ, S => S[l]? = some (.lst ds) ∧ g x ρ S fun ρ1 S1 => tb { E with nx := forM0 l ds g tb E r, ct := forM0 l ds g tb E r, bk := E.nx } ρ1 S1
@[irreducible] def forM (l : Nat) (ds : List D) (g : DG) (tb : DS) (E : DEnds) : List D → Rho → Store → Prop := forM0 l ds g tb E
def sForM (t0 : DT) (g : DG) (tb : DS) : DS := fun E ρ S => t0 ρ S fun d S1 => match d with
  | .loc l => ∃ ds, S1[l]? = some (.lst ds) ∧ forM l ds g tb E ds ρ S1
  | _ => False
theorem forM_nil {l : Nat} {ds : List D} {g : DG} {tb : DS} {E : DEnds} {ρ : Rho} {S : Store} : forM l ds g tb E [] ρ S = (S[l]? = some (.lst ds) ∧ E.nx ρ S) := by unfold forM; rfl
theorem forM_cons {l : Nat} {ds : List D} {g : DG} {tb : DS} {E : DEnds} {x : D} {r : List D} {ρ : Rho} {S : Store} : forM l ds g tb E (x :: r) ρ S = (S[l]? = some (.lst ds) ∧ g x ρ S fun ρ1 S1 => tb { E with nx := forM l ds g tb E r, ct := forM l ds g tb E r, bk := E.nx } ρ1 S1) := by unfold forM; rfl
section
variable {X : Cx} {e a b c : Expr} {body : List Stmt} {pos : Pos} {u : DS}
theorem ds_forM {iter tg : Expr} {t0 : DT} {ws : List Nat} {g : DG} (hp : PassesOwn (model X.prog X.w) X.A X.env X.xe) (hc : X.calm = true) (hi : DE X iter t0) (hg : DGt X tg ws g) (hb : DSs X body u)
    (hs : ∀ x, foldedSetIterable iter X.env x = pure x := by intro _; rfl) : DSt X (.For tg iter body [] pos) (sForM t0 g u) := by
  obtain ⟨⟨te, h1, h2⟩⟩ := hi
  obtain ⟨⟨g1, h3, h4⟩⟩ := hg
  obtain ⟨⟨ts, h5, h6⟩⟩ := hb
  refine ⟨_, ps_for hp hc (pi_list h1) h3 h5 hs, fun α ρ S σ H E F so ro q k => ?_⟩
  refine h2 α ρ S σ H _ _ so ro q fun v H1 α1 d S1 t1 so1 r1 q1 => ?_
  cases d with
  | loc lv =>
    obtain ⟨a, rfl, hla⟩ := r1
    obtain ⟨ds, hds, q1⟩ := q1
    obtain ⟨xs0, hx0, hr0⟩ := so1.lst hla hds
    refine ⟨a, rfl, ⟨xs0, SqL.of hx0⟩, ?_⟩
    refine ⟨fun i m σ H => m = ds.length - i ∧ i ≤ ds.length ∧ ∃ α ρ S, Stp α1 H1 α H ∧ StoreOk X.K α H S ∧ RhoOk X.K α H ρ σ ∧ forM lv ds g u E (ds.drop i) ρ S, ⟨ds.length, by simp, Nat.zero_le _, α1, ρ, S1, Stp.refl _ _, so1, ro.stp t1, q1⟩, ?_⟩
    rintro i m σ2 H2 ⟨rfl, hi, α2, ρ2, S2, t2, so2, ro2, q2⟩
    have hla2 : α2[lv]? = some (some a) := t2.pre _ _ hla
    by_cases hlt : i < ds.length
    · obtain ⟨d, hd, hdrop⟩ := drop_of_get hlt
      rw [hdrop, forM_cons] at q2
      obtain ⟨hnow, q2⟩ := q2
      obtain ⟨xs, hx, hr⟩ := so2.lst hla2 hnow
      have hl := hr.len
      refine Or.inr ⟨⟨xs, xs[i]'(by omega), SqL.of hx, by simp⟩, fun σ' H' => ∃ α ρ S, Stp α1 H1 α H' ∧ StoreOk X.K α H' S ∧ RhoOk X.K α H' ρ σ' ∧ forM lv ds g u E (ds.drop (i + 1)) ρ S, ?_, ?_⟩
      · rintro σ' H' ⟨α', ρ', S', z⟩
        exact ⟨ds.length - (i + 1), by omega, rfl, hlt, α', ρ', S', z⟩
      · rintro x H3 ⟨rfl, hy⟩
        have h3 := hy xs (SqL.of hx)
        obtain ⟨v, hv, r3⟩ := hr.get hd
        rw [h3] at hv
        cases hv
        refine h4 α2 ρ2 S2 σ2 _ x d _ _ so2 ro2 r3 q2 fun σ4 H4 α4 ρ4 S4 _ t4 so4 ro4 q4 => ?_
        refine h6 α4 ρ4 S4 σ4 H4 _ _ so4 ro4 q4 ⟨?_, (k.stp (t1.trans (t2.trans t4))).rt, (k.stp (t1.trans (t2.trans t4))).nx, ?_⟩
        · intro σ5 H5 α5 ρ5 S5 t5 so5 ro5 q5
          exact ⟨α5, ρ5, S5, (t2.trans t4).trans t5, so5, ro5, q5⟩
        · intro σ5 H5 α5 ρ5 S5 t5 so5 ro5 q5
          exact ⟨α5, ρ5, S5, (t2.trans t4).trans t5, so5, ro5, q5⟩
    · have e : i = ds.length := by omega
      subst e
      rw [List.drop_length, forM_nil] at q2
      obtain ⟨hnow, q2⟩ := q2
      obtain ⟨xs, hx, hr⟩ := so2.lst hla2 hnow
      exact Or.inl ⟨⟨xs, SqL.of hx, by rw [hr.len]; exact Nat.le_refl _⟩, k.nx σ2 H2 α2 ρ2 S2 (t1.trans t2) so2 ro2 q2⟩
  | _ => exact q1.elim
end
/-- the loop by what holds behind i items -/
theorem forM_inv {l : Nat} {ds : List D} {g : DG} {tb : DS} {E : DEnds} (P : Nat → Rho → Store → Prop) (hP : ∀ i ρ S, P i ρ S → S[l]? = some (.lst ds)) : ∀ (items : List D) (i : Nat) (ρ : Rho) (S : Store), P i ρ S →
    (∀ j x ρ S, items[j]? = some x → P (i + j) ρ S → ∀ N : Rho → Store → Prop, (∀ ρ' S', P (i + j + 1) ρ' S' → N ρ' S') → g x ρ S fun ρ1 S1 => tb { E with nx := N, ct := N, bk := E.nx } ρ1 S1) →
    (∀ ρ S, P (i + items.length) ρ S → E.nx ρ S) → forM l ds g tb E items ρ S
  | [], i, ρ, S, h0, _, hd => by rw [forM_nil]; exact ⟨hP _ _ _ h0, hd ρ S h0⟩
  | x :: r, i, ρ, S, h0, hs, hd => by
    rw [forM_cons]
    refine ⟨hP _ _ _ h0, hs 0 x ρ S rfl h0 _ fun ρ' S' h1 => ?_⟩
    refine forM_inv P hP r (i + 1) ρ' S' h1 (fun j y ρ S hj hp N hN => ?_) fun ρ S hp => hd ρ S ?_
    · have e : i + 1 + j = i + (j + 1) := by omega
      rw [e] at hp hN
      exact hs (j + 1) y ρ S (by simpa using hj) hp N hN
    · have e : i + 1 + r.length = i + (x :: r).length := by rw [List.length_cons]; omega
      rw [e] at hp
      exact hp
end DL

/-! DL, 25: sorted(set([a, b])) of ints. -/
namespace DL
open PySem PySem.Spec PyProof.Rows L2
section
variable {P : Program} {w : World} {A : Around} {E : Value → Shared → Prop} {s : Shared}
/-- what the set's __init__ leaves -/
def SetMade (w : World) (s : Shared) (ns : List Int) (r : Value) (s' : Shared) : Prop :=
  r = .none ∧ ∃ g tk c, s' = { s with heap := g, toks := tk } ∧ SetR w g s.heap.objs.size (fun j => decide (j ∈ ns)) c ∧ c ≤ ns.length ∧ ∀ b u, s.heap.get? b = some u → g.get? b = some u
theorem call_set_lst {l : Addr} {vs : Array Value} (ns : List Int) {Q : Value → Shared → Prop} (free : A.handled = none) (isl : s.heap.IsList l vs) (iare : IntsAre vs.toList ns) (room : ns.length + 1 < scanBound)
    (fin : ∀ g tk c, SetR w g s.heap.objs.size (fun j => decide (j ∈ ns)) c → c ≤ ns.length → (∀ b u, s.heap.get? b = some u → g.get? b = some u) → Q (.ref s.heap.objs.size) { s with heap := g, toks := tk }) :
    wpAny (model P w) A (call (.type "set") [.ref l]) Q E s := by
  have vlen : vs.size = ns.length := by rw [← Array.length_toList]; exact iare.length
  obtain ⟨u1, u2, mro⟩ := F.called_set.mro
  have made := F.called_set.made
  have sub := F.called_set.sub
  refine wpAny_call (codeAny_of_tree (show wpAny _ _ (callAny (.type "set") _) _ _ _ from wpAny_pure ⟨Code.quiet_builtin _ (by decide +kernel), codeAny_builtin F.entry_type_call ?_⟩))
  rw [Around.under_plain (weight_type_call_type "set" [.ref l] []) rfl]
  have nt := F.called_set.notType
  have cc := F.called_set.canCreate
  have tc := F.typeCall_set_1 (.ref l)
  repeat (any_goals (first | assumption | wp_step))
  refine codeAny_mono (code_set_led1 (.ref l) (E := E) (Q₁ := fun x s1 => x = .ref s.heap.objs.size ∧ s1 = { s with heap := s.heap.push (freshSet w) }) ⟨rfl, rfl⟩) fun r s1 hr => ?_
  match r, hr with
  | .error e, hr => exact hr
  | .ok (.ret x), hr =>
    obtain ⟨rfl, rfl⟩ := hr
    have at0 : (s.heap.push (freshSet w)).get? s.heap.objs.size = some (freshSet w) := Heap.get?_push_size _ rfl
    have ty : Shared.TypeIs { s with heap := s.heap.push (freshSet w) } (.ref s.heap.objs.size) "set" := ⟨_, at0, rfl⟩
    have look := F.called_set.init.lookup
    have bnd := F.called_set.init.bind (.ref s.heap.objs.size)
    repeat (any_goals (first | assumption | wp_step))
    refine codeAny_mono (codeAny_call_builtin (R := wants (SetMade w s ns) E) F.called_set.init.plain F.entry_set_init (check_set_init_1 ty ?_)) fun r2 s2 hr2 => ?_
    · obtain ⟨⟨c0, d0, data0, sl0⟩, atl, ecl, nl, edl⟩ := isl
      simp only at ecl edl
      subst ecl edl
      have atl1 := Heap.get?_push_of_some (freshSet w) atl
      have s1 := F.sub_list_set
      have s2 := F.sub_list_frozenset
      have s3 : (Value.type "list" == Value.type "dict") = false := by decide
      have isl1 : (s.heap.push (freshSet w)).IsList l vs := ⟨_, atl1, rfl, nl, rfl⟩
      unfold Builtin.«set.__init__» noKeywords Builtin.Frozenset.updateFrom
      generalize hIt : pyIter = It
      wp_walk
      subst hIt
      refine wpAny_pyIter_list isl1 (wpAny_bind (wpAny_runValue ?_))
      have lt0 : l < s.heap.objs.size := Heap.lt_size atl
      have sz : (s.heap.push (freshSet w)).objs.size = s.heap.objs.size + 1 := Heap.size_push ..
      have ne1 : l ≠ (s.heap.push (freshSet w)).objs.size := by rw [sz]; exact Nat.ne_of_lt (Nat.lt_succ_of_lt lt0)
      have out : s.heap.objs.size ∉ [(s.heap.push (freshSet w)).objs.size, l] := by
        rw [sz]
        intro hm
        rcases List.mem_cons.mp hm with e | e
        · exact absurd e (Nat.ne_of_lt (Nat.lt_succ_self _))
        · exact absurd (List.mem_singleton.mp e) (Nat.ne_of_gt lt0)
      have each : ∀ (i : Nat) (v : Value), vs[i]? = some v → ∃ k t, ns[i]? = some k ∧ v = .int k t := by
        intro i v hv
        have lt : i < ns.length := by rw [← vlen]; exact (Array.getElem?_eq_some_iff.mp hv).1
        obtain ⟨t, e⟩ := iare.int_at i v (by rw [Array.getElem?_toList]; exact hv)
        refine ⟨ns[i], t, List.getElem?_eq_getElem lt, ?_⟩
        rw [e, List.getD_eq_getElem?_getD, List.getElem?_eq_getElem lt] <;> rfl
      refine set_update_ints ((Walks.list (by simp [free]) _ l ne1 vs).toS) s.heap.objs.size out ns vlen room each (vs.size - 0) 0 _ (by omega) (Nat.zero_le _) ⟨⟨_, Heap.get?_push_size _ rfl, rfl, rfl⟩, isl1.push _⟩ ⟨0, Nat.le_refl 0, setR_new_at (Heap.get?_push_of_some _ at0)⟩ ?_
      rintro ⟨h1, g1, d1, t1, o1⟩ c mv cle R
      obtain rfl : g1 = s.gens := mv.gens
      obtain rfl : d1 = s.drawn := mv.drawn
      obtain rfl : o1 = s.os := mv.os
      refine wpAny_pure (show wpAny _ _ (ret Value.none) _ _ _ from wpAny_pure ⟨rfl, h1, t1, c, rfl, R, by omega, fun b u e => ?_⟩)
      have b0 := Heap.lt_size e
      refine mv.heap b u (fun hm => ?_) (Heap.get?_push_of_some _ (Heap.get?_push_of_some _ e))
      rcases List.mem_cons.mp hm with e1 | hm
      · exact absurd e1 (Nat.ne_of_lt b0)
      · exact absurd (List.mem_singleton.mp hm) (by rw [sz]; exact Nat.ne_of_lt (Nat.lt_succ_of_lt b0))
    · match r2, hr2 with
      | .error e, hr2 => exact hr2
      | .ok (.ret x), hr2 =>
        obtain ⟨rfl, g, tk, c, rfl, R, cle, keep⟩ := hr2
        repeat (any_goals (first | assumption | wp_step))
        exact fin _ _ _ R cle keep
end
section
variable {X : Cx}
def rSetOfI (K : PySem.W.Frag) (w : World) : List V → Hp → VK → Prop := fun xs H Q => ∃ (l : Addr) (ns : List Int), xs = [V.ref l] ∧ SqL K H l (ns.map V.int) ∧ ns.length < 60 ∧
  ∀ a c, H a = none → c ≤ ns.length → Q (.ref a) (upd H a (SetO w a (fun j => decide (j ∈ ns)) c))
theorem cr_setOfI (hc : X.calm = true) : CallR X (.type "set") (rSetOfI X.K X.w) := by
  intro pins s σ H xs us Q I r h
  obtain ⟨l, ns, rfl, hl, hf, q⟩ := h
  rw [Vals.ref1 r]
  obtain ⟨its, rv, pl, hz⟩ := I.list hl
  refine call_set_lst ns (I.ok.hd hc) pl.isList (by simpa using ints_of_vals rv) (by unfold scanBound; omega) fun g tk c R cle keep => ?_
  exact ⟨.ref _, _, I.laid (t' := tk) keep (Nat.le_refl _) (setO_new R), rfl, q _ c (I.hok.fresh (Nat.le_refl _)) cle⟩
end
theorem de_sset2L {X : Cx} {e1 e2 : Expr} {t1 t2 : DT} {p q q2 pos pos2 : Pos} (hc : X.calm = true) (hg : Gl X "sorted") (hm : X.mg "sorted" = none) (hg2 : Gl X "set") (hm2 : X.mg "set" = none) (h1 : DE X e1 t1) (h2 : DE X e2 t2)
    (hs1 : starEach [e1, e2] X.env = (false, eval e1 X.env) :: starEach [e2] X.env := by rfl) (hs2 : starEach [e2] X.env = (false, eval e2 X.env) :: starEach [] X.env := by rfl) : DE X (.Call (.Name "sorted" p) [.Call (.Name "set" q) [.List [e1, e2] q2] [] pos2] [] pos) (dSSet2 t1 t2) := by
  obtain ⟨⟨u1, a1, b1⟩⟩ := h1
  obtain ⟨⟨u2, a2, b2⟩⟩ := h2
  refine ⟨_, pe_callB (cr_sortedSet hc) hg hm (by decide +kernel) (pa_cons (pe_callTy (cr_setOfI hc) hg2 hm2 (by decide +kernel) (pa_cons (pe_lst (pa_cons a1 (pa_cons a2 pa_nil hs2) hs1)) pa_nil rfl)) pa_nil rfl), fun α ρ S σ H Q Q' so ro h k => ?_⟩
  refine b1 α ρ S σ _ _ _ so ro h fun v H1 α1 d S1 t1' so1 r1 q1 => ?_
  obtain ⟨a, rfl, rfl, q1⟩ := onInt.rp r1 q1
  refine b2 α1 ρ S1 σ H1 _ _ so1 (ro.stp t1') q1 fun v2 H2 α2 d2 S2 t2' so2 r2 q2 => ?_
  obtain ⟨b, rfl, rfl, q2⟩ := onInt.rp r2 q2
  refine ⟨Nat.le_of_ble_eq_true rfl, fun l hl => ?_⟩
  have tl : Stp α2 H2 α2 (upd H2 l (.lst [V.int a, V.int b])) := Stp.new_ hl
  refine ⟨l, [a, b], rfl, Or.inl (Or.inl upd_same), Nat.le_of_ble_eq_true rfl, fun g c hgn hcl => ?_⟩
  have tg := Stp.new_ (α := α2) (o := SetO X.w g (fun j => decide (j ∈ [a, b])) c) hgn
  have so3 := so2.grow (keep_new (o := .lst [V.int a, V.int b]) hl)
  have so4 := so3.grow (keep_new (o := SetO X.w g (fun j => decide (j ∈ [a, b])) c) hgn)
  refine ⟨g, _, c, rfl, upd_same, by simp at hcl; omega, fun ns p pw mem _ hp => ?_⟩
  have ens : ns = twoL a b := twoL_of pw fun k => (mem k).trans (by simp)
  subst ens
  have tp := Stp.push (α := α2) (o := HO.lst ((twoL a b).map V.int)) hp
  have hloc : (α2 ++ [some p])[S2.length]? = some (some p) := by
    rw [← so2.len, List.getElem?_append_right (Nat.le_refl _), Nat.sub_self]; rfl
  exact k _ _ (α2 ++ [some p]) (.loc S2.length) _ (((t1'.trans t2').trans (tl.trans tg)).trans tp) (so4.push (o := .lst ((twoL a b).map V.int)) (ob := .lst ((twoL a b).map D.int)) hp ⟨_, upd_same, RpL.ints _⟩) ⟨p, rfl, hloc⟩ q2
end DL

/-! DL, 26: a def whose body asks for its code's record (set displays). -/
namespace DL
open PySem PySem.Spec PyProof.Rows L2
theorem code_kds {K : PySem.W.Frag} {cd : Value} {q : Str} (h : PySem.W.codeIn K cd q = true) : PySem.W.kdsCode K cd = true := by
  unfold PySem.W.codeIn at h
  unfold PySem.W.kdsCode
  split at h
  · split at h
    · rename_i e; simp only [e]
    · cases h
  · cases h
section
variable {P : Program} {w : World} {K : PySem.W.Frag} {mg : Str → Option Value} {base : Heap} {x qual : Str} {st : Stmt} {f : Addr} {fd : FuncData} {N ps : List Str} {k : Nat} {dsp : DSp} {t : DS}
theorem dfn_okC (F : Fun K x qual st f fd) (S : FnScope N ps (defScope st)) (hlen : ∀ ds S Q E, dsp ds S Q E → ds.length = ps.length)
    (hbody : ∀ (cdv : Value) (A : Around) (outer : List Env) (s : Shared) (H : Hp) (E : XK), PySem.W.kdsCode K cdv = true → Room k (A.deeper (envOfC qual (defScope st) s.heap.objs.size f cdv)) → DSs (cxOf CX0 P w K mg base N qual (defScope st) f cdv A outer s H E).nox (defBody st) t)
    (spec : ∀ ds S Q E, bndL S.length ds → dsp ds S Q E → t { nx := fun _ S' => Rt S Q .non S', rt := Rt S Q } (startR N.length ds) S) : FnOk P w K mg base CX0 (k + 1) f fd ps (spOf K ps.length dsp) := by
  obtain ⟨oc, od, kV, doc, pm, an, cdv, ct, osl, rfl, lk, hcd⟩ := F.ex
  refine fn_of lk hcd S (fun vs H Q E h => h.1) fun A outer s H vs Q E hr h => ?_
  obtain ⟨hl, α, S0, ds, Qd, Ed, so, r, hd, ke, kx⟩ := h
  obtain ⟨⟨ts, h1, h2⟩⟩ := hbody cdv A outer s H E (code_kds hcd) hr
  refine ⟨ts, h1.nox, ?_⟩
  have hpl : ps.length ≤ N.length := by have := congrArg List.length S.pre; rw [List.length_take] at this; omega
  have hds : ds.length ≤ N.length := by rw [hlen _ _ _ _ hd]; exact hpl
  have fin : ∀ v H' α' d S', Stp α H α' H' → StoreOk K α' H' S' → Rp K α' H' v d → Rt S0 Qd d S' → Q v H' := fun v H' α' d S' t' so' r' q => Rt.fin so t' so' r' q ke
  have bd : bndL S0.length ds := by rw [← so.len]; exact r.bnd
  refine h2 α (startR N.length ds) S0 (start N vs) H _ _ so (startR_ok r hds) (spec ds S0 Qd Ed bd hd) ⟨?_, fin, fun _ _ _ _ _ _ _ _ z => z.elim, fun _ _ _ _ _ _ _ _ z => z.elim⟩
  intro σ' H' α' ρ' S' t' so' ro' q
  exact fin .non H' α' .non S' t' so' rfl q
end
/-- name %= int -/
def sAugP (p : Int → Int → Prop) (f : Int → Int → Int) (i : Nat) (t : DT) : DS := fun E ρ S => onOpt (getR ρ i) fun x => onInt x fun m => t ρ S fun y S1 => onInt y fun n => p m n ∧ E.nx (setR ρ i (.int (f m n))) S1
theorem lift_augP {K : PySem.W.Frag} {te : TE} {i : Nat} {p : Int → Int → Prop} {f : Int → Int → Int} {t : DT} (h : LiftE K te t) : LiftS K (tAug i te (rInI p f)) (sAugP p f i t) := fun α ρ S σ H E F so ro q k => by
  obtain ⟨x, hx, q⟩ := onOpt.ex q
  obtain ⟨v, hv, rv⟩ := ro.get hx
  obtain ⟨m, rfl, rfl, q⟩ := onInt.rp rv q
  refine ⟨_, hv, ?_⟩
  refine h α ρ S σ H _ _ so ro q fun v H1 α1 d S1 t1 so1 r1 q1 => ?_
  obtain ⟨n, rfl, rfl, q2⟩ := onInt.rp r1 q1
  exact ⟨m, n, rfl, rfl, q2.1, k.nx _ H1 α1 _ S1 t1 so1 (RhoOk.set (v := V.int (f m n)) (d := D.int (f m n)) i rfl (ro.stp t1)) q2.2⟩
theorem ds_augMod {X : Cx} {e : Expr} {t : DT} {pos : Pos} {i : Nat} {x : Str} {pos' : Pos} (hN : X.N.Nodup) (hi : X.N[i]? = some x) (hx : Loc X.env.scope x) (he : DE X e t) (hf : X.fn x = true ∨ X.env.scope.names.lookup x = some .local := by first | exact .inl rfl | exact .inr rfl | assumption) :
    DSt X (.AugAssign (.Name x pos') .Mod e pos) (sAugP (fun _ j => 0 < j) (fun i j => i % j) i t) := by
  obtain ⟨⟨te, h3, h4⟩⟩ := he
  exact ⟨_, ps_aug hN hi hx h3 inI_mod hf, lift_augP h4⟩
end DL

/-! DL, 27: min of a list of tuples of ints, min of two such. -/
namespace DL
open PySem PySem.Spec PyProof.Rows L2
def KeptIn (h0 h : Heap) : Prop := ∀ b o, h0.get? b = some o → h.get? b = some o
/-- a comparison that may look at what was there before -/
def CmpIn (P : Program) (w : World) (A : Around) (V : Nat → Value → Prop) (bt : Nat → Nat → Bool) (h0 : Heap) : Prop :=
  ∀ i j x y (s : Shared) (Q E : Value → Shared → Prop), V i x → V j y → KeptIn h0 s.heap → Q (.bool (bt i j)) s → wpAny (model P w) A (richCompare .Lt x y) Q E s
section
variable {P : Program} {w : World} {A : Around} {R : Result → Shared → Prop} {I S : Addr} {fp wr : List Addr} {n : Nat} {V : Nat → Value → Prop} {St : Nat → Heap → Prop} {bt : Nat → Nat → Bool} {h0 : Heap}
theorem loop_name : (toString "min" ++ toString ".loop" : String) = "min.loop" := by decide
theorem up_other {g : Heap} {S b : Addr} {f : Obj → Obj} {o : Obj} (h : b ≠ S) (e : g.get? b = some o) : (g.update S f).get? b = some o := (Heap.get?_update_other _ _ (Ne.symm h)).trans e
/-- the list in which the loop keeps the best so far -/
abbrev bestOb (xs : Array Value) (c : Nat) : Obj := { cls := .type "list", dict := none, data := .seq xs c, slots := #[] }
theorem best_loop (W : Walks P w A.in1 I fp wr n V St) (cmp : CmpIn P w A.in1 V bt h0) (out : S ∉ fp) (old : ∀ b o, h0.get? b = some o → b ∉ wr ∧ b ≠ S) : ∀ (k j : Nat) (s : Shared) (v : Value) (c : Nat), n = j + 1 + k → St (j + 1) s.heap → V (argBest bt j) v → KeptIn h0 s.heap → s.heap.get? S = some (bestOb #[v, v] c) →
    (∀ v g tk, V (argBest bt (n - 1)) v → KeptIn h0 g → (∀ b o, b ∉ wr → b ≠ S → s.heap.get? b = some o → g.get? b = some o) → R (.ok (.ret v)) { s with heap := g, toks := tk }) → codeAny (model P w) A (.builtin "min.loop" ⟨[.ref I, .none, .ref S], []⟩) R s
  | 0, j, s, v, c, hn, st, hv, kp, atS, fin => by
    have nw : S ∉ wr := fun z => out (W.sub _ z)
    refine codeAny_builtin F.entry_min_loop (by
      rw [Around.under_plainId F.plain_min_loop _]
      refine (show wpAny _ A.in1 (seqItems? (.ref S) >>= _) _ _ s from wpAny_bind (wpAny_seqItems atS rfl ?_))
      refine (show wpAny _ A.in1 (tryCatch (pyNext (.ref I)) _ >>= _) _ _ s from wpAny_bind (wpAny_tryCatch (W.done s _ _ (by rw [hn]; exact st) fun g tk kg => ?_)))
      have atS2 := kg S _ nw atS
      refine (show wpAny _ A.in1 (updateSeq S (fun _ => #[]) >>= _) _ _ _ from wpAny_bind (wpAny_updateSeq atS2 rfl (wpAny_bind (wpAny_letGo (wpAny_pure ?_)))))
      exact fin v _ tk (by rw [hn]; exact hv) (fun b o e => up_other (old b o e).2 (kg b o (old b o e).1 (kp b o e))) fun b o b1 b2 e => up_other b2 (kg b o b1 e))
  | k + 1, j, s, v, c, hn, st, hv, kp, atS, fin => by
    have nw : S ∉ wr := fun z => out (W.sub _ z)
    refine codeAny_builtin F.entry_min_loop (by
      rw [Around.under_plainId F.plain_min_loop _]
      refine (show wpAny _ A.in1 (seqItems? (.ref S) >>= _) _ _ s from wpAny_bind (wpAny_seqItems atS rfl ?_))
      refine (show wpAny _ A.in1 (tryCatch (pyNext (.ref I)) _ >>= _) _ _ s from wpAny_bind (wpAny_tryCatch (W.item (j + 1) s _ _ (by omega) st fun x g tk hx st2 kg => ?_)))
      have atS2 := kg S _ nw atS
      have kp2 : KeptIn h0 g := fun b o e => kg b o (old b o e).1 (kp b o e)
      refine (show wpAny _ A.in1 (tryCatch (holding [x, x] (richCompare .Lt x v >>= _)) _ >>= _) _ _ _ from wpAny_bind (wpAny_tryCatch (wpAny_holding (wpAny_bind (cmp (j + 1) (argBest bt j) x v _ _ _ hx hv kp2 ?_)))))
      refine wpAny_bind (wpAny_holding (wpAny_truthy_bool (wpAny_bind (wpAny_letGo (wpAny_pure ?_)))))
      cases hb : bt (j + 1) (argBest bt j) with
      | true =>
        simp only [if_true]
        refine wpAny_bind (wpAny_updateSeq atS2 rfl (wpAny_bind (wpAny_letGo ?_)))
        rw [loop_name]
        refine wpAny_pure ⟨plainId_quiet F.plain_min_loop _, best_loop W cmp out old k (j + 1) _ x _ (by omega) (W.frame _ _ _ st2 fun b hbf o e => up_other (fun z => out (z ▸ hbf)) e) (by simp only [argBest, hb, if_true]; exact hx) (fun b o e => up_other (old b o e).2 (kp2 b o e)) (Heap.get?_update_self _ atS2 rfl) fun y g2 tk2 hy kp3 k2 => ?_⟩
        exact fin y g2 tk2 hy kp3 fun b o b1 b2 e => k2 b o b1 b2 (up_other b2 (kg b o b1 e))
      | false =>
        simp only [Bool.false_eq_true, if_false]
        refine wpAny_bind (wpAny_letGo ?_)
        rw [loop_name]
        refine wpAny_pure ⟨plainId_quiet F.plain_min_loop _, best_loop W cmp out old k (j + 1) _ v c (by omega) st2 (by simp only [argBest, hb, Bool.false_eq_true, if_false]; exact hv) kp2 atS2 fun y g2 tk2 hy kp3 k2 => ?_⟩
        exact fin y g2 tk2 hy kp3 fun b o b1 b2 e => k2 b o b1 b2 (kg b o b1 e))
theorem best_first (W : Walks P w A.in1 I fp wr n V St) (cmp : CmpIn P w A.in1 V bt h0) (out : S ∉ fp) (old : ∀ b o, h0.get? b = some o → b ∉ wr ∧ b ≠ S) (hn : 0 < n) {s : Shared} {c : Nat} (st : St 0 s.heap) (kp : KeptIn h0 s.heap) (atS : s.heap.get? S = some (bestOb #[] c))
    (fin : ∀ v g tk, V (argBest bt (n - 1)) v → KeptIn h0 g → R (.ok (.ret v)) { s with heap := g, toks := tk }) : codeAny (model P w) A (.builtin "min.loop" ⟨[.ref I, .none, .ref S], []⟩) R s := by
  have nw : S ∉ wr := fun z => out (W.sub _ z)
  refine codeAny_builtin F.entry_min_loop (by
    rw [Around.under_plainId F.plain_min_loop _]
    refine (show wpAny _ A.in1 (seqItems? (.ref S) >>= _) _ _ s from wpAny_bind (wpAny_seqItems atS rfl ?_))
    refine (show wpAny _ A.in1 (tryCatch (pyNext (.ref I)) _ >>= _) _ _ s from wpAny_bind (wpAny_tryCatch (W.item 0 s _ _ hn st fun x g tk hx st2 kg => ?_)))
    have atS2 := kg S _ nw atS
    refine (show wpAny _ A.in1 (updateSeq S (fun _ => #[x, x]) >>= _) _ _ _ from wpAny_bind (wpAny_updateSeq atS2 rfl ?_))
    rw [loop_name]
    exact wpAny_pure ⟨plainId_quiet F.plain_min_loop _, best_loop W cmp out old (n - 1) 0 _ x _ (by omega) (W.frame _ _ _ st2 fun b hbf o e => up_other (fun z => out (z ▸ hbf)) e) hx (fun b o e => up_other (old b o e).2 (kg b o (old b o e).1 (kp b o e))) (Heap.get?_update_self _ atS2 rfl) fun y g2 tk2 hy kp3 _ => fin y g2 tk2 hy kp3⟩)
end
section
variable {P : Program} {w : World} {A : Around} {E : Value → Shared → Prop} {s : Shared}
/-- the items of a list are tuples of ints -/
def TupsAt (h : Heap) (vs : Array Value) (f : Nat → List Int) : Prop := ∀ i v, vs[i]? = some v → ∃ a its, v = .ref a ∧ IsTup h a its ∧ IntsAre its.toList (f i)
theorem tup_kept {h g : Heap} (k : KeptIn h g) {a : Addr} {its : Array Value} (t : IsTup h a its) : IsTup g a its := by
  obtain ⟨o, ho, r⟩ := t
  exact ⟨o, k _ _ ho, r⟩
theorem cmp_tups {vs : Array Value} {f : Nat → List Int} (hu : A.units < cLine) {h0 : Heap} (t : TupsAt h0 vs f) : CmpIn P w A (fun i v => vs[i]? = some v) (fun i j => HT.lexLt (f i) (f j)) h0 := by
  intro i j x y s Q E hx hy kp q
  obtain ⟨a, its, rfl, t1, i1⟩ := t i x hx
  obtain ⟨b, its2, rfl, t2, i2⟩ := t j y hy
  exact HT.lt_tupInts (tup_kept kp t1) (tup_kept kp t2) i1 i2 hu q
theorem call_min_lst {l : Addr} {vs : Array Value} {f : Nat → List Int} {Q : Value → Shared → Prop} (free : A.handled = none) (hu : A.units + 3 < cLine) (isl : s.heap.IsList l vs) (ne : 0 < vs.size) (tups : TupsAt s.heap vs f)
    (fin : ∀ v g tk, vs[argBest (fun i j => HT.lexLt (f i) (f j)) (vs.size - 1)]? = some v → KeptIn s.heap g → Q v { s with heap := g, toks := tk }) : wpAny (model P w) A (call (.builtin "min") [.ref l]) Q E s := by
  refine call_function_tree F.kind_min F.plain_min F.entry_min (F.args_min1 _) ?_
  refine (show wpAny _ A.in1 (Builtin.Builtins.bindParams "min" ["key", "default"] 0 ⟨[], []⟩ >>= _) _ _ s from wpAny_bind (wpAny_of_eq (show Builtin.Builtins.bindParams "min" ["key", "default"] 0 ⟨[], []⟩ = pure [none, none] from rfl) (wpAny_bind (wpAny_pure ?_))))
  refine wpAny_bind (wpAny_pyIter_list isl ?_)
  refine wpAny_bind (wpAny_newObj_type ?_)
  rw [loop_name]
  have lt0 : l < s.heap.objs.size := by
    obtain ⟨ol, hol, _⟩ := isl
    exact Heap.lt_size hol
  have old : ∀ b o, s.heap.get? b = some o → b ∉ [s.heap.objs.size] ∧ b ≠ (s.heap.push { cls := .type "list_iterator", data := .fields #[.ref l, .int 0 0] }).objs.size := by
    intro b o e
    have b0 := Heap.lt_size e
    refine ⟨fun hm => absurd (List.mem_singleton.mp hm) (Nat.ne_of_lt b0), ?_⟩
    rw [Heap.size_push]
    exact Nat.ne_of_lt (Nat.lt_succ_of_lt b0)
  have out : (s.heap.push { cls := .type "list_iterator", data := .fields #[.ref l, .int 0 0] }).objs.size ∉ [s.heap.objs.size, l] := by
    rw [Heap.size_push]
    intro hm
    rcases List.mem_cons.mp hm with e | e
    · exact absurd e (Nat.ne_of_gt (Nat.lt_succ_self _))
    · exact absurd (List.mem_singleton.mp e) (Nat.ne_of_gt (Nat.lt_succ_of_lt lt0))
  have kp2 : ∀ o : Obj, KeptIn s.heap ((s.heap.push { cls := .type "list_iterator", data := .fields #[.ref l, .int 0 0] }).push o) := fun o b u e => Heap.get?_push_of_some _ (Heap.get?_push_of_some _ e)
  refine wpAny_pure ⟨plainId_quiet F.plain_min_loop _, best_first (Walks.list (by simp [free]) _ l (Nat.ne_of_lt lt0) vs) (cmp_tups (by simp; omega) tups) out old ne ⟨⟨_, Heap.get?_push_of_some _ (Heap.get?_push_size _ rfl), rfl, rfl⟩, (isl.push _).push _⟩ (kp2 _) (Heap.get?_push_size _ rfl) fun v g tk hv kg => ?_⟩
  exact fin v g tk hv kg
end
end DL

/-! DL, 28: the order of tuples of ints; min of a list, of two. -/
namespace DL
open PySem PySem.Spec PyProof.Rows L2
theorem lex_irr : ∀ a : List Int, HT.lexLt a a = false
  | [] => rfl
  | x :: r => by rw [HT.lexLt_cons, if_pos rfl]; exact lex_irr r
theorem lex_trans : ∀ a b c : List Int, HT.lexLt a b = true → HT.lexLt b c = true → HT.lexLt a c = true
  | [], [], c, h1, _ => by rw [HT.lexLt_nil_nil] at h1; cases h1
  | [], _ :: _, [], _, h2 => by rw [HT.lexLt_cons_nil] at h2; cases h2
  | [], _ :: _, _ :: _, _, _ => HT.lexLt_nil_cons _ _
  | _ :: _, [], _, h1, _ => by rw [HT.lexLt_cons_nil] at h1; cases h1
  | _ :: _, _ :: _, [], _, h2 => by rw [HT.lexLt_cons_nil] at h2; cases h2
  | x :: a, y :: b, z :: c, h1, h2 => by
    rw [HT.lexLt_cons] at h1 h2 ⊢
    split at h1
    · rename_i e1
      subst e1
      split at h2
      · rename_i e2
        subst e2
        rw [if_pos rfl]
        exact lex_trans a b c h1 h2
      · rename_i e2
        rw [if_neg e2]; exact h2
    · rename_i e1
      have l1 := of_decide_eq_true h1
      split at h2
      · rename_i e2
        subst e2
        rw [if_neg e1]; exact h1
      · have l2 := of_decide_eq_true h2
        rw [if_neg (by omega)]
        exact decide_eq_true (by omega)
theorem lex_total : ∀ a b : List Int, HT.lexLt a b = false → HT.lexLt b a = false → a = b
  | [], [], _, _ => rfl
  | [], _ :: _, h1, _ => by rw [HT.lexLt_nil_cons] at h1; cases h1
  | _ :: _, [], _, h2 => by rw [HT.lexLt_nil_cons] at h2; cases h2
  | x :: a, y :: b, h1, h2 => by
    rw [HT.lexLt_cons] at h1 h2
    by_cases e : x = y
    · subst e
      rw [if_pos rfl] at h1 h2
      rw [lex_total a b h1 h2]
    · rw [if_neg e] at h1
      rw [if_neg (Ne.symm e)] at h2
      have l1 := of_decide_eq_false h1
      have l2 := of_decide_eq_false h2
      omega
theorem argBest_lex (f : Nat → List Int) : ∀ k, argBest (fun i j => HT.lexLt (f i) (f j)) k ≤ k ∧ ∀ j, j ≤ k → HT.lexLt (f j) (f (argBest (fun i j => HT.lexLt (f i) (f j)) k)) = false
  | 0 => ⟨Nat.le_refl _, fun j hj => by rw [show j = 0 by omega]; exact lex_irr _⟩
  | k + 1 => by
    obtain ⟨h1, h2⟩ := argBest_lex f k
    show (if HT.lexLt (f (k + 1)) (f (argBest (fun i j => HT.lexLt (f i) (f j)) k)) = true then k + 1 else argBest _ k) ≤ k + 1 ∧ ∀ j, j ≤ k + 1 → HT.lexLt (f j) (f (if HT.lexLt (f (k + 1)) (f (argBest (fun i j => HT.lexLt (f i) (f j)) k)) = true then k + 1 else argBest _ k)) = false
    by_cases hb : HT.lexLt (f (k + 1)) (f (argBest (fun i j => HT.lexLt (f i) (f j)) k)) = true
    · rw [if_pos hb]
      refine ⟨Nat.le_refl _, fun j hj => ?_⟩
      by_cases e : j = k + 1
      · rw [e]; exact lex_irr _
      · cases hl : HT.lexLt (f j) (f (k + 1)) with
        | false => rfl
        | true =>
          have := lex_trans _ _ _ hl hb
          rw [h2 j (by omega)] at this
          cases this
    · rw [if_neg hb]
      refine ⟨by omega, fun j hj => ?_⟩
      by_cases e : j = k + 1
      · rw [e]; exact Bool.eq_false_iff.mpr hb
      · exact h2 j (by omega)
section
variable {P : Program} {w : World} {A : Around} {E : Value → Shared → Prop} {s : Shared}
theorem call_min_pair {a b : Addr} {xs ys : Array Value} {ns ms : List Int} {Q : Value → Shared → Prop} (free : A.handled = none) (hu : A.units + 3 < cLine) (ta : IsTup s.heap a xs) (ia : IntsAre xs.toList ns) (tb : IsTup s.heap b ys) (ib : IntsAre ys.toList ms)
    (fin : ∀ g tk, KeptIn s.heap g → Q (.ref (if HT.lexLt ms ns = true then b else a)) { s with heap := g, toks := tk }) : wpAny (model P w) A (call (.builtin "min") [.ref a, .ref b]) Q E s := by
  refine call_function_tree F.kind_min F.plain_min F.entry_min (F.args_min2 _ _) ?_
  refine (show wpAny _ A.in1 (Builtin.Builtins.bindParams "min" ["key", "default"] 0 ⟨[], []⟩ >>= _) _ _ s from wpAny_bind (wpAny_of_eq (show Builtin.Builtins.bindParams "min" ["key", "default"] 0 ⟨[], []⟩ = pure [none, none] from rfl) ?_))
  refine (show wpAny _ A.in1 (newTuple [.ref a, .ref b] >>= _) _ _ s from wpAny_bind (wpAny_newObj_type ?_))
  have tT : (s.heap.push { cls := .type "tuple", data := .seq #[.ref a, .ref b] }).IsTuple s.heap.objs.size #[.ref a, .ref b] := ⟨_, Heap.get?_push_size _ rfl, rfl, _, rfl⟩
  have kT : KeptIn s.heap (s.heap.push { cls := .type "tuple", data := .seq #[.ref a, .ref b] }) := fun b o e => Heap.get?_push_of_some _ e
  have hsz : (s.heap.push { cls := .type "tuple", data := .seq #[.ref a, .ref b] }).objs.size = s.heap.objs.size + 1 := Heap.size_push ..
  generalize s.heap.push { cls := .type "tuple", data := .seq #[.ref a, .ref b] } = g1 at *
  refine wpAny_bind (wpAny_pyIter_tuple tT ?_)
  refine wpAny_bind (wpAny_newObj_type ?_)
  rw [loop_name]
  have tups : TupsAt g1 #[.ref a, .ref b] (fun i => if i = 0 then ns else ms) := by
    intro i v hv
    match i, hv with
    | 0, hv =>
      cases (show Value.ref a = v from Option.some.inj hv)
      exact ⟨a, xs, rfl, tup_kept kT ta, ia⟩
    | 1, hv =>
      cases (show Value.ref b = v from Option.some.inj hv)
      exact ⟨b, ys, rfl, tup_kept kT tb, ib⟩
    | i + 2, hv => cases hv
  have old : ∀ b o, g1.get? b = some o → b ∉ [g1.objs.size] ∧ b ≠ (g1.push { cls := .type "tuple_iterator", data := .fields #[.ref s.heap.objs.size, .int 0 0] }).objs.size := by
    intro b o e
    have b0 := Heap.lt_size e
    refine ⟨fun hm => absurd (List.mem_singleton.mp hm) (Nat.ne_of_lt b0), ?_⟩
    rw [Heap.size_push]
    exact Nat.ne_of_lt (Nat.lt_succ_of_lt b0)
  have out : (g1.push { cls := .type "tuple_iterator", data := .fields #[.ref s.heap.objs.size, .int 0 0] }).objs.size ∉ [g1.objs.size, s.heap.objs.size] := by
    rw [Heap.size_push]
    intro hm
    rcases List.mem_cons.mp hm with e | e
    · exact absurd e (Nat.ne_of_gt (Nat.lt_succ_self _))
    · exact absurd (List.mem_singleton.mp e) (Nat.ne_of_gt (by rw [hsz]; exact Nat.lt_succ_of_lt (Nat.lt_succ_self _)))
  have kp2 : ∀ o : Obj, KeptIn g1 ((g1.push { cls := .type "tuple_iterator", data := .fields #[.ref s.heap.objs.size, .int 0 0] }).push o) := fun o b u e => Heap.get?_push_of_some _ (Heap.get?_push_of_some _ e)
  refine wpAny_pure ⟨plainId_quiet F.plain_min_loop _, best_first (Walks.tuple (by simp [free]) _ s.heap.objs.size (by rw [hsz]; exact Nat.ne_of_lt (Nat.lt_succ_self _)) #[.ref a, .ref b]) (cmp_tups (by simp; omega) tups) out old (Nat.succ_pos 1) ⟨⟨_, Heap.get?_push_of_some _ (Heap.get?_push_size _ rfl), rfl, rfl⟩, (tT.push _).push _⟩ (kp2 _) (Heap.get?_push_size _ rfl) fun v g tk hv kg => ?_⟩
  have hv : (#[Value.ref a, .ref b] : Array Value)[if HT.lexLt ms ns = true then 1 else 0]? = some v := hv
  have e : v = .ref (if HT.lexLt ms ns = true then b else a) := by
    split at hv
    · rename_i h; rw [if_pos h]; exact (Option.some.inj hv).symm
    · rename_i h; rw [if_neg h]; exact (Option.some.inj hv).symm
  rw [e]
  exact fin g tk fun b o e => kg b o (kT b o e)
end
theorem refs_vals : ∀ {ps : List (Addr × List Int)} {us : List Value}, Vals (ps.map fun p => V.ref p.1) us → us = ps.map fun p => Value.ref p.1
  | [], _, .nil => rfl
  | p :: ps, _, .cons r t => by
    cases r
    rw [refs_vals t] <;> rfl
def rMinT (K : PySem.W.Frag) : List V → Hp → VK → Prop := fun vs H Q => ∃ (a : Addr) (ps : List (Addr × List Int)), vs = [V.ref a] ∧ SqL K H a (ps.map fun p => V.ref p.1) ∧ (∀ p ∈ ps, SqT K H p.1 (p.2.map V.int)) ∧ 0 < ps.length ∧
  ∀ p, p ∈ ps → (∀ q ∈ ps, HT.lexLt q.2 p.2 = false) → Q (.ref p.1) H
def rMinT2 (K : PySem.W.Frag) : List V → Hp → VK → Prop := fun vs H Q => ∃ (a b : Addr) (ns ms : List Int), vs = [V.ref a, V.ref b] ∧ SqT K H a (ns.map V.int) ∧ SqT K H b (ms.map V.int) ∧ (HT.lexLt ms ns = true → Q (.ref b) H) ∧ (HT.lexLt ms ns = false → Q (.ref a) H)
section
variable {X : Cx}
theorem cr_minT (hc : X.calm = true) (hu : X.A.units + 3 < cLine) : CallR X (.builtin "min") (rMinT X.K) := by
  intro pins s σ H vs us Q I r h
  obtain ⟨a, ps, rfl, hs, hk, hne, q⟩ := h
  rw [Vals.ref1 r]
  obtain ⟨its, rv, pl, hz⟩ := I.list hs
  have e := refs_vals rv
  subst e
  have tups : TupsAt s.heap (ps.map fun p => Value.ref p.1).toArray (fun i => (ps.getD i (0, [])).2) := by
    intro i v hv
    rw [List.getElem?_toArray, List.getElem?_map] at hv
    cases hp : ps[i]? with
    | none => rw [hp] at hv; cases hv
    | some p =>
      rw [hp] at hv
      cases hv
      obtain ⟨its2, r2, p2, _⟩ := I.tuple (hk p (List.mem_of_getElem? hp))
      refine ⟨p.1, _, rfl, p2, ?_⟩
      show IntsAre its2.toArray.toList (ps.getD i (0, [])).2
      rw [List.getD_eq_getElem?_getD, hp]
      exact intsAre_of r2
  refine call_min_lst (I.ok.hd hc) hu pl.isList (by simpa using hne) tups fun v g tk hv kg => ?_
  have hsz : (ps.map fun p => Value.ref p.1).toArray.size - 1 = ps.length - 1 := by simp
  rw [hsz] at hv
  obtain ⟨b1, b2⟩ := argBest_lex (fun i => (ps.getD i (0, [])).2) (ps.length - 1)
  generalize argBest (fun i j => HT.lexLt ((fun i => (ps.getD i (0, [])).2) i) ((fun i => (ps.getD i (0, [])).2) j)) (ps.length - 1) = m at *
  have hm : m < ps.length := by omega
  rw [List.getElem?_toArray, List.getElem?_map, List.getElem?_eq_getElem hm] at hv
  cases hv
  refine ⟨.ref ps[m].1, H, I.kept kg, rfl, q ps[m] (List.getElem_mem _) fun p hp => ?_⟩
  obtain ⟨j, hj, rfl⟩ := List.mem_iff_getElem.mp hp
  have h3 := b2 j (by omega)
  simpa [List.getD_eq_getElem?_getD, List.getElem?_eq_getElem hj, List.getElem?_eq_getElem hm] using h3
theorem cr_minT2 (hc : X.calm = true) (hu : X.A.units + 3 < cLine) : CallR X (.builtin "min") (rMinT2 X.K) := by
  intro pins s σ H vs us Q I r h
  obtain ⟨a, b, ns, ms, rfl, ha, hb, q1, q2⟩ := h
  obtain ⟨u, v, rfl, ru, rv⟩ := vals2 r
  cases ru
  cases rv
  obtain ⟨its, r1, p1, _⟩ := I.tuple ha
  obtain ⟨its2, r2, p2, _⟩ := I.tuple hb
  refine call_min_pair (I.ok.hd hc) hu p1 (intsAre_of r1) p2 (intsAre_of r2) fun g tk kg => ?_
  refine ⟨.ref (if HT.lexLt ms ns = true then b else a), H, I.kept kg, rfl, ?_⟩
  by_cases h : HT.lexLt ms ns = true
  · rw [if_pos h]; exact q1 h
  · rw [if_neg h]; exact q2 (Bool.eq_false_iff.mpr h)
end
/-! the same by trees -/
def tupI (ns : List Int) : D := .tup (ns.map D.int)
theorem rp_tupI {K : PySem.W.Frag} {α : Locs} {H : Hp} {v : V} {ns : List Int} (r : Rp K α H v (tupI ns)) : ∃ a, v = .ref a ∧ SqT K H a (ns.map V.int) := by
  obtain ⟨a, xs, rfl, hs, hr⟩ := r
  rw [rpl_ints hr] at hs
  exact ⟨a, rfl, hs.sq⟩
theorem rpl_tups {K : PySem.W.Frag} {α : Locs} {H : Hp} : ∀ {nss : List (List Int)} {xs : List V}, RpL K α H xs (nss.map tupI) → ∃ ps : List (Addr × List Int), xs = ps.map (fun p => V.ref p.1) ∧ ps.map (·.2) = nss ∧ ∀ p ∈ ps, SqT K H p.1 (p.2.map V.int) ∧ Rp K α H (.ref p.1) (tupI p.2)
  | [], xs, h => ⟨[], h, rfl, (fun _ h => nomatch h)⟩
  | ns :: r, xs, h => by
    obtain ⟨v, u, rfl, h1, h2⟩ := h
    obtain ⟨ps, rfl, e2, h3⟩ := rpl_tups h2
    obtain ⟨a, rfl, hs⟩ := rp_tupI h1
    refine ⟨(a, ns) :: ps, rfl, by rw [List.map_cons, e2], fun p hp => ?_⟩
    rcases List.mem_cons.mp hp with rfl | hp
    · exact ⟨hs, h1⟩
    · exact h3 p hp
def cdMinT : CD := fun ds S Q => on1 ds fun d => onLst d S fun xs => ∃ nss : List (List Int), xs = nss.map tupI ∧ 0 < nss.length ∧ ∀ m, m ∈ nss → (∀ y ∈ nss, HT.lexLt y m = false) → Q (tupI m) S
def cdMinT2 : CD := fun ds S Q => on2 ds fun d e => ∃ ns ms : List Int, d = tupI ns ∧ e = tupI ms ∧ Q (if HT.lexLt ms ns = true then tupI ms else tupI ns) S
def cdSum : CD := fun ds S Q => on1 ds fun d => onLst d S fun xs => ∃ ns : List Int, xs = ns.map D.int ∧ Q (.int ns.sum) S
section
variable {X : Cx}
theorem cd_minT (hc : X.calm = true) (hu : X.A.units + 65 < cLine) : CallD X (.builtin "min") cdMinT := by
  refine ⟨_, cr_minT hc (by omega), fun α S H xs vs Q Q' so r h k => ?_⟩
  obtain ⟨d, v, rfl, rfl, rv, h⟩ := on1.rp r h
  obtain ⟨a, xs, ds, rfl, hsq, hr, nss, rfl, hl, h2⟩ := onLst.rp so rv h
  obtain ⟨ps, rfl, rfl, h3⟩ := rpl_tups hr
  refine ⟨a, ps, rfl, hsq, fun p hp => (h3 p hp).1, by simpa using hl, fun p hp hm => ?_⟩
  exact k _ H α _ S (Stp.refl _ _) so (h3 p hp).2 (h2 p.2 (List.mem_map.mpr ⟨p, hp, rfl⟩) fun y hy => by
    obtain ⟨q, hq, rfl⟩ := List.mem_map.mp hy
    exact hm q hq)
theorem cd_minT2 (hc : X.calm = true) (hu : X.A.units + 65 < cLine) : CallD X (.builtin "min") cdMinT2 := by
  refine ⟨_, cr_minT2 hc (by omega), fun α S H xs vs Q Q' so r h k => ?_⟩
  obtain ⟨d, e, v, w, rfl, rfl, rv, rw', ns, ms, rfl, rfl, hq⟩ := on2.rp r h
  obtain ⟨a, rfl, ha⟩ := rp_tupI rv
  obtain ⟨b, rfl, hb⟩ := rp_tupI rw'
  refine ⟨a, b, ns, ms, rfl, ha, hb, fun e => ?_, fun e => ?_⟩
  · rw [if_pos e] at hq
    exact k _ H α _ S (Stp.refl _ _) so rw' hq
  · rw [if_neg (by rw [e]; decide)] at hq
    exact k _ H α _ S (Stp.refl _ _) so rv hq
theorem cd_sum (hc : X.calm = true) : CallD X (.builtin "sum") cdSum := by
  refine ⟨_, cr_sum hc, fun α S H xs vs Q Q' so r h k => ?_⟩
  obtain ⟨d, v, rfl, rfl, rv, h⟩ := on1.rp r h
  obtain ⟨a, xs, ds, rfl, hsq, hr, ns, rfl, h2⟩ := onLst.rp so rv h
  rw [rpl_ints hr] at hsq
  exact ⟨a, ns, rfl, hsq, k.int so h2⟩
end
end DL

/-! DL, 29: max of two tuples of ints. -/
namespace DL
open PySem PySem.Spec PyProof.Rows L2
/-- a comparison that may look at what was there before -/
def CmpInG (P : Program) (w : World) (A : Around) (V : Nat → Value → Prop) (bt : Nat → Nat → Bool) (h0 : Heap) : Prop :=
  ∀ i j x y (s : Shared) (Q E : Value → Shared → Prop), V i x → V j y → KeptIn h0 s.heap → Q (.bool (bt i j)) s → wpAny (model P w) A (richCompare .Gt x y) Q E s
section
variable {P : Program} {w : World} {A : Around} {R : Result → Shared → Prop} {I S : Addr} {fp wr : List Addr} {n : Nat} {V : Nat → Value → Prop} {St : Nat → Heap → Prop} {bt : Nat → Nat → Bool} {h0 : Heap}
theorem loop_nameG : (toString "max" ++ toString ".loop" : String) = "max.loop" := by decide
theorem best_loopG (W : Walks P w A.in1 I fp wr n V St) (cmp : CmpInG P w A.in1 V bt h0) (out : S ∉ fp) (old : ∀ b o, h0.get? b = some o → b ∉ wr ∧ b ≠ S) : ∀ (k j : Nat) (s : Shared) (v : Value) (c : Nat), n = j + 1 + k → St (j + 1) s.heap → V (argBest bt j) v → KeptIn h0 s.heap → s.heap.get? S = some (bestOb #[v, v] c) →
    (∀ v g tk, V (argBest bt (n - 1)) v → KeptIn h0 g → (∀ b o, b ∉ wr → b ≠ S → s.heap.get? b = some o → g.get? b = some o) → R (.ok (.ret v)) { s with heap := g, toks := tk }) → codeAny (model P w) A (.builtin "max.loop" ⟨[.ref I, .none, .ref S], []⟩) R s
  | 0, j, s, v, c, hn, st, hv, kp, atS, fin => by
    have nw : S ∉ wr := fun z => out (W.sub _ z)
    refine codeAny_builtin F.entry_max_loop (by
      rw [Around.under_plainId F.plain_max_loop _]
      refine (show wpAny _ A.in1 (seqItems? (.ref S) >>= _) _ _ s from wpAny_bind (wpAny_seqItems atS rfl ?_))
      refine (show wpAny _ A.in1 (tryCatch (pyNext (.ref I)) _ >>= _) _ _ s from wpAny_bind (wpAny_tryCatch (W.done s _ _ (by rw [hn]; exact st) fun g tk kg => ?_)))
      have atS2 := kg S _ nw atS
      refine (show wpAny _ A.in1 (updateSeq S (fun _ => #[]) >>= _) _ _ _ from wpAny_bind (wpAny_updateSeq atS2 rfl (wpAny_bind (wpAny_letGo (wpAny_pure ?_)))))
      exact fin v _ tk (by rw [hn]; exact hv) (fun b o e => up_other (old b o e).2 (kg b o (old b o e).1 (kp b o e))) fun b o b1 b2 e => up_other b2 (kg b o b1 e))
  | k + 1, j, s, v, c, hn, st, hv, kp, atS, fin => by
    have nw : S ∉ wr := fun z => out (W.sub _ z)
    refine codeAny_builtin F.entry_max_loop (by
      rw [Around.under_plainId F.plain_max_loop _]
      refine (show wpAny _ A.in1 (seqItems? (.ref S) >>= _) _ _ s from wpAny_bind (wpAny_seqItems atS rfl ?_))
      refine (show wpAny _ A.in1 (tryCatch (pyNext (.ref I)) _ >>= _) _ _ s from wpAny_bind (wpAny_tryCatch (W.item (j + 1) s _ _ (by omega) st fun x g tk hx st2 kg => ?_)))
      have atS2 := kg S _ nw atS
      have kp2 : KeptIn h0 g := fun b o e => kg b o (old b o e).1 (kp b o e)
      refine (show wpAny _ A.in1 (tryCatch (holding [x, x] (richCompare .Gt x v >>= _)) _ >>= _) _ _ _ from wpAny_bind (wpAny_tryCatch (wpAny_holding (wpAny_bind (cmp (j + 1) (argBest bt j) x v _ _ _ hx hv kp2 ?_)))))
      refine wpAny_bind (wpAny_holding (wpAny_truthy_bool (wpAny_bind (wpAny_letGo (wpAny_pure ?_)))))
      cases hb : bt (j + 1) (argBest bt j) with
      | true =>
        simp only [if_true]
        refine wpAny_bind (wpAny_updateSeq atS2 rfl (wpAny_bind (wpAny_letGo ?_)))
        rw [loop_nameG]
        refine wpAny_pure ⟨plainId_quiet F.plain_max_loop _, best_loopG W cmp out old k (j + 1) _ x _ (by omega) (W.frame _ _ _ st2 fun b hbf o e => up_other (fun z => out (z ▸ hbf)) e) (by simp only [argBest, hb, if_true]; exact hx) (fun b o e => up_other (old b o e).2 (kp2 b o e)) (Heap.get?_update_self _ atS2 rfl) fun y g2 tk2 hy kp3 k2 => ?_⟩
        exact fin y g2 tk2 hy kp3 fun b o b1 b2 e => k2 b o b1 b2 (up_other b2 (kg b o b1 e))
      | false =>
        simp only [Bool.false_eq_true, if_false]
        refine wpAny_bind (wpAny_letGo ?_)
        rw [loop_nameG]
        refine wpAny_pure ⟨plainId_quiet F.plain_max_loop _, best_loopG W cmp out old k (j + 1) _ v c (by omega) st2 (by simp only [argBest, hb, Bool.false_eq_true, if_false]; exact hv) kp2 atS2 fun y g2 tk2 hy kp3 k2 => ?_⟩
        exact fin y g2 tk2 hy kp3 fun b o b1 b2 e => k2 b o b1 b2 (kg b o b1 e))
theorem best_firstG (W : Walks P w A.in1 I fp wr n V St) (cmp : CmpInG P w A.in1 V bt h0) (out : S ∉ fp) (old : ∀ b o, h0.get? b = some o → b ∉ wr ∧ b ≠ S) (hn : 0 < n) {s : Shared} {c : Nat} (st : St 0 s.heap) (kp : KeptIn h0 s.heap) (atS : s.heap.get? S = some (bestOb #[] c))
    (fin : ∀ v g tk, V (argBest bt (n - 1)) v → KeptIn h0 g → R (.ok (.ret v)) { s with heap := g, toks := tk }) : codeAny (model P w) A (.builtin "max.loop" ⟨[.ref I, .none, .ref S], []⟩) R s := by
  have nw : S ∉ wr := fun z => out (W.sub _ z)
  refine codeAny_builtin F.entry_max_loop (by
    rw [Around.under_plainId F.plain_max_loop _]
    refine (show wpAny _ A.in1 (seqItems? (.ref S) >>= _) _ _ s from wpAny_bind (wpAny_seqItems atS rfl ?_))
    refine (show wpAny _ A.in1 (tryCatch (pyNext (.ref I)) _ >>= _) _ _ s from wpAny_bind (wpAny_tryCatch (W.item 0 s _ _ hn st fun x g tk hx st2 kg => ?_)))
    have atS2 := kg S _ nw atS
    refine (show wpAny _ A.in1 (updateSeq S (fun _ => #[x, x]) >>= _) _ _ _ from wpAny_bind (wpAny_updateSeq atS2 rfl ?_))
    rw [loop_nameG]
    exact wpAny_pure ⟨plainId_quiet F.plain_max_loop _, best_loopG W cmp out old (n - 1) 0 _ x _ (by omega) (W.frame _ _ _ st2 fun b hbf o e => up_other (fun z => out (z ▸ hbf)) e) hx (fun b o e => up_other (old b o e).2 (kg b o (old b o e).1 (kp b o e))) (Heap.get?_update_self _ atS2 rfl) fun y g2 tk2 hy kp3 _ => fin y g2 tk2 hy kp3⟩)
end
theorem lexAt_lt (ns ms : List Int) : ∀ k i, k = min ns.length ms.length - i → i ≤ min ns.length ms.length → Ob.lexAt (fun j => decide (ns.getD j 0 = ms.getD j 0)) (fun j => decide (ms.getD j 0 < ns.getD j 0)) (decide (ns.length > ms.length)) i k = HT.lexLt (ms.drop i) (ns.drop i)
  | 0, i, hk, hi => by
    rw [Ob.lexAt_zero]
    by_cases h : ns.length ≤ ms.length
    · have e : ns.drop i = [] := List.drop_eq_nil_of_le (by omega)
      rw [e, decide_eq_false (by omega)]
      cases ms.drop i with
      | nil => rfl
      | cons a r => rfl
    · have e : ms.drop i = [] := List.drop_eq_nil_of_le (by omega)
      rw [e, decide_eq_true (by omega)]
      cases h2 : ns.drop i with
      | nil =>
        have := List.drop_eq_nil_iff.mp h2
        omega
      | cons a r => rfl
  | k + 1, i, hk, hi => by
    have h1 : i < ns.length := by omega
    have h2 : i < ms.length := by omega
    have ih := lexAt_lt ns ms k (i + 1) (by omega) (by omega)
    rw [Ob.lexAt_succ, ih, List.drop_eq_getElem_cons h1, List.drop_eq_getElem_cons h2, HT.lexLt_cons]
    simp only [List.getD_eq_getElem?_getD, List.getElem?_eq_getElem h1, List.getElem?_eq_getElem h2, Option.getD_some]
    by_cases h : ns[i] = ms[i]
    · rw [if_pos (decide_eq_true h), if_pos h.symm]
    · rw [if_neg (by simp [h]), if_neg (fun e => h e.symm)]
theorem dec_beq (a b : Int) : decide (a = b) = (a == b) := by
  by_cases q : a = b
  · rw [decide_eq_true q]; exact (beq_iff_eq.mpr q).symm
  · rw [decide_eq_false q]; exact (beq_eq_false_iff_ne.mpr q).symm
section
variable {P : Program} {w : World} {A : Around} {E : Value → Shared → Prop} {s : Shared}
theorem gt_tups {l b : Addr} {xs ys : Array Value} {ns ms : List Int} {Q : Value → Shared → Prop} (hl : IsTup s.heap l xs) (hb : IsTup s.heap b ys) (i1 : IntsAre xs.toList ns) (i2 : IntsAre ys.toList ms) (hu : A.units < cLine) (h : Q (.bool (HT.lexLt ms ns)) s) : wpAny (model P w) A (richCompare .Gt (.ref l) (.ref b)) Q E s := by
  have e1 : xs.size = ns.length := by rw [← Array.length_toList]; exact i1.length
  have e2 : ys.size = ms.length := by rw [← Array.length_toList]; exact i2.length
  have v1 : ∀ j (h1 : j < xs.size), ∃ t, xs[j] = .int (ns.getD j 0) t := fun j h1 => i1.int_at _ _ (by rw [Array.getElem?_toList]; exact Array.getElem?_eq_getElem h1)
  have v2 : ∀ j (h1 : j < ys.size), ∃ t, ys[j] = .int (ms.getD j 0) t := fun j h1 => i2.int_at _ _ (by rw [Array.getElem?_toList]; exact Array.getElem?_eq_getElem h1)
  have R := Ob.RcOp.tuples_gt (A := A) (s := s) (e := fun j => decide (ns.getD j 0 = ms.getD j 0)) (r := fun j => decide (ms.getD j 0 < ns.getD j 0)) hl hb hu (fun j h1 h2 => by
    obtain ⟨t, et⟩ := v1 j h1
    obtain ⟨u, eu⟩ := v2 j h2
    rw [et, eu, show decide (ns.getD j 0 = ms.getD j 0) = (ns.getD j 0 == ms.getD j 0) from (dec_beq _ _)]
    exact SeqAt.EqAt.int_int _ _ _ _) (fun j h1 h2 _ => by
    obtain ⟨t, et⟩ := v1 j h1
    obtain ⟨u, eu⟩ := v2 j h2
    rw [et, eu]
    exact Ob.RcOp.gt_int _ _ _ _)
  rw [e1, e2, lexAt_lt ns ms (min ns.length ms.length) 0 rfl (Nat.zero_le _)] at R
  exact R P w E Q h
theorem cmp_tupsG {vs : Array Value} {f : Nat → List Int} (hu : A.units < cLine) {h0 : Heap} (t : TupsAt h0 vs f) : CmpInG P w A (fun i v => vs[i]? = some v) (fun i j => HT.lexLt (f j) (f i)) h0 := by
  intro i j x y s Q E hx hy kp q
  obtain ⟨a, its, rfl, t1, i1⟩ := t i x hx
  obtain ⟨b, its2, rfl, t2, i2⟩ := t j y hy
  exact gt_tups (tup_kept kp t1) (tup_kept kp t2) i1 i2 hu q
theorem call_max_pair {a b : Addr} {xs ys : Array Value} {ns ms : List Int} {Q : Value → Shared → Prop} (free : A.handled = none) (hu : A.units + 3 < cLine) (ta : IsTup s.heap a xs) (ia : IntsAre xs.toList ns) (tb : IsTup s.heap b ys) (ib : IntsAre ys.toList ms)
    (fin : ∀ g tk, KeptIn s.heap g → Q (.ref (if HT.lexLt ns ms = true then b else a)) { s with heap := g, toks := tk }) : wpAny (model P w) A (call (.builtin "max") [.ref a, .ref b]) Q E s := by
  refine call_function_tree F.kind_max F.plain_max F.entry_max (F.args_max2 _ _) ?_
  refine (show wpAny _ A.in1 (Builtin.Builtins.bindParams "max" ["key", "default"] 0 ⟨[], []⟩ >>= _) _ _ s from wpAny_bind (wpAny_of_eq (show Builtin.Builtins.bindParams "max" ["key", "default"] 0 ⟨[], []⟩ = pure [none, none] from rfl) ?_))
  refine (show wpAny _ A.in1 (newTuple [.ref a, .ref b] >>= _) _ _ s from wpAny_bind (wpAny_newObj_type ?_))
  have tT : (s.heap.push { cls := .type "tuple", data := .seq #[.ref a, .ref b] }).IsTuple s.heap.objs.size #[.ref a, .ref b] := ⟨_, Heap.get?_push_size _ rfl, rfl, _, rfl⟩
  have kT : KeptIn s.heap (s.heap.push { cls := .type "tuple", data := .seq #[.ref a, .ref b] }) := fun b o e => Heap.get?_push_of_some _ e
  have hsz : (s.heap.push { cls := .type "tuple", data := .seq #[.ref a, .ref b] }).objs.size = s.heap.objs.size + 1 := Heap.size_push ..
  generalize s.heap.push { cls := .type "tuple", data := .seq #[.ref a, .ref b] } = g1 at *
  refine wpAny_bind (wpAny_pyIter_tuple tT ?_)
  refine wpAny_bind (wpAny_newObj_type ?_)
  rw [loop_nameG]
  have tups : TupsAt g1 #[.ref a, .ref b] (fun i => if i = 0 then ns else ms) := by
    intro i v hv
    match i, hv with
    | 0, hv =>
      cases (show Value.ref a = v from Option.some.inj hv)
      exact ⟨a, xs, rfl, tup_kept kT ta, ia⟩
    | 1, hv =>
      cases (show Value.ref b = v from Option.some.inj hv)
      exact ⟨b, ys, rfl, tup_kept kT tb, ib⟩
    | i + 2, hv => cases hv
  have old : ∀ b o, g1.get? b = some o → b ∉ [g1.objs.size] ∧ b ≠ (g1.push { cls := .type "tuple_iterator", data := .fields #[.ref s.heap.objs.size, .int 0 0] }).objs.size := by
    intro b o e
    have b0 := Heap.lt_size e
    refine ⟨fun hm => absurd (List.mem_singleton.mp hm) (Nat.ne_of_lt b0), ?_⟩
    rw [Heap.size_push]
    exact Nat.ne_of_lt (Nat.lt_succ_of_lt b0)
  have out : (g1.push { cls := .type "tuple_iterator", data := .fields #[.ref s.heap.objs.size, .int 0 0] }).objs.size ∉ [g1.objs.size, s.heap.objs.size] := by
    rw [Heap.size_push]
    intro hm
    rcases List.mem_cons.mp hm with e | e
    · exact absurd e (Nat.ne_of_gt (Nat.lt_succ_self _))
    · exact absurd (List.mem_singleton.mp e) (Nat.ne_of_gt (by rw [hsz]; exact Nat.lt_succ_of_lt (Nat.lt_succ_self _)))
  have kp2 : ∀ o : Obj, KeptIn g1 ((g1.push { cls := .type "tuple_iterator", data := .fields #[.ref s.heap.objs.size, .int 0 0] }).push o) := fun o b u e => Heap.get?_push_of_some _ (Heap.get?_push_of_some _ e)
  refine wpAny_pure ⟨plainId_quiet F.plain_max_loop _, best_firstG (Walks.tuple (by simp [free]) _ s.heap.objs.size (by rw [hsz]; exact Nat.ne_of_lt (Nat.lt_succ_self _)) #[.ref a, .ref b]) (cmp_tupsG (by simp; omega) tups) out old (Nat.succ_pos 1) ⟨⟨_, Heap.get?_push_of_some _ (Heap.get?_push_size _ rfl), rfl, rfl⟩, (tT.push _).push _⟩ (kp2 _) (Heap.get?_push_size _ rfl) fun v g tk hv kg => ?_⟩
  have hv : (#[Value.ref a, .ref b] : Array Value)[if HT.lexLt ns ms = true then 1 else 0]? = some v := hv
  have e : v = .ref (if HT.lexLt ns ms = true then b else a) := by
    split at hv
    · rename_i h; rw [if_pos h]; exact (Option.some.inj hv).symm
    · rename_i h; rw [if_neg h]; exact (Option.some.inj hv).symm
  rw [e]
  exact fin g tk fun b o e => kg b o (kT b o e)
end
def rMaxT2 (K : PySem.W.Frag) : List V → Hp → VK → Prop := fun vs H Q => ∃ (a b : Addr) (ns ms : List Int), vs = [V.ref a, V.ref b] ∧ SqT K H a (ns.map V.int) ∧ SqT K H b (ms.map V.int) ∧ (HT.lexLt ns ms = true → Q (.ref b) H) ∧ (HT.lexLt ns ms = false → Q (.ref a) H)
def cdMaxT2 : CD := fun ds S Q => on2 ds fun d e => ∃ ns ms : List Int, d = tupI ns ∧ e = tupI ms ∧ Q (if HT.lexLt ns ms = true then tupI ms else tupI ns) S
section
variable {X : Cx}
theorem cr_maxT2 (hc : X.calm = true) (hu : X.A.units + 3 < cLine) : CallR X (.builtin "max") (rMaxT2 X.K) := by
  intro pins s σ H vs us Q I r h
  obtain ⟨a, b, ns, ms, rfl, ha, hb, q1, q2⟩ := h
  obtain ⟨u, v, rfl, ru, rv⟩ := vals2 r
  cases ru
  cases rv
  obtain ⟨its, r1, p1, _⟩ := I.tuple ha
  obtain ⟨its2, r2, p2, _⟩ := I.tuple hb
  refine call_max_pair (I.ok.hd hc) hu p1 (intsAre_of r1) p2 (intsAre_of r2) fun g tk kg => ?_
  refine ⟨.ref (if HT.lexLt ns ms = true then b else a), H, I.kept kg, rfl, ?_⟩
  by_cases h : HT.lexLt ns ms = true
  · rw [if_pos h]; exact q1 h
  · rw [if_neg h]; exact q2 (Bool.eq_false_iff.mpr h)
theorem cd_maxT2 (hc : X.calm = true) (hu : X.A.units + 65 < cLine) : CallD X (.builtin "max") cdMaxT2 := by
  refine ⟨_, cr_maxT2 hc (by omega), fun α S H xs vs Q Q' so r h k => ?_⟩
  obtain ⟨d, e, v, w, rfl, rfl, rv, rw', ns, ms, rfl, rfl, hq⟩ := on2.rp r h
  obtain ⟨a, rfl, ha⟩ := rp_tupI rv
  obtain ⟨b, rfl, hb⟩ := rp_tupI rw'
  refine ⟨a, b, ns, ms, rfl, ha, hb, fun e => ?_, fun e => ?_⟩
  · rw [if_pos e] at hq
    exact k _ H α _ S (Stp.refl _ _) so rw' hq
  · rw [if_neg (by rw [e]; decide)] at hq
    exact k _ H α _ S (Stp.refl _ _) so rv hq
end
end DL

/-! DL, 30: the greatest of a live list of ints. -/
namespace DL
open PySem PySem.Spec PyProof.Rows L2 StX ClX
section
variable {X : Cx}
def cdMaxL : CD := fun ds S Q => on1 ds fun d => onLst d S fun xs => ∃ ns : List Int, xs = ns.map D.int ∧ 0 < ns.length ∧ ∀ m, m ∈ ns → (∀ y, y ∈ ns → y ≤ m) → Q (.int m) S
theorem cd_maxL (hc : X.calm = true) : CallD X (.builtin "max") cdMaxL := by
  refine ⟨_, cr_max hc, fun α S H xs vs Q Q' so r h k => ?_⟩
  obtain ⟨d, v, rfl, rfl, rv, h⟩ := on1.rp r h
  obtain ⟨a, xs, ds, rfl, hsq, hr, ns, rfl, hl, h2⟩ := onLst.rp so rv h
  rw [rpl_ints hr] at hsq
  exact ⟨a, ns, rfl, hsq, hl, fun m h1 h3 => k.int so (h2 m h1 h3)⟩
end
end DL

/-! DL, 31: sorted(xs), xs a live list of tuples of ints. -/
namespace DL
open PySem PySem.Spec PyProof.Rows L2 StX ClX
theorem lex_dec : ∀ xs ys : List Int, HT.lexLt xs ys = decide (xs < ys)
  | [], [] => by rw [HT.lexLt_nil_nil]; simp
  | [], y :: ys => by rw [HT.lexLt_nil_cons]; simp
  | x :: xs, [] => by rw [HT.lexLt_cons_nil]; simp
  | x :: xs, y :: ys => by
    rw [HT.lexLt_cons, lex_dec xs ys]
    by_cases h : x = y
    · subst h
      rw [if_pos rfl]
      simp [List.cons_lt_cons_iff]
    · rw [if_neg h]
      simp [List.cons_lt_cons_iff, h]
def encT (b : Addr × List Int) : PyData := .tuple (b.2.map .int)
theorem enc_le (a b : Addr × List Int) : PySem.W.dataLe false encT a b = !HT.lexLt b.2 a.2 := by
  rw [PySem.W.dataLe_eq]
  show (!PySem.W.dataLt (.tuple (b.2.map .int)) (.tuple (a.2.map .int))) = _
  rw [PySem.W.dataLt_tuple, lex_dec]
  have := PySem.W.dataLt_ints b.2 a.2
  unfold PySem.W.rowLt at this
  rw [this]
theorem reads_ints {h : Heap} : ∀ {vs : List Value} {ns : List Int}, IntsAre vs ns → ReadsAll h vs (ns.map .int) []
  | _, _, .nil => .nil
  | _, _, .cons n t r => .cons (as := []) (bs := []) (.int n t) (reads_ints r)
/-- sorted(xs) of a list of tuples of ints -/
def rSortTI (K : PySem.W.Frag) : List V → Hp → VK → Prop := fun vs H Q => ∃ (a : Addr) (ps : List (Addr × List Int)), vs = [V.ref a] ∧ SqL K H a (ps.map fun p => V.ref p.1) ∧ (∀ p ∈ ps, p.2 ≠ [] ∧ SqT K H p.1 (p.2.map V.int)) ∧
  ∀ (qs : List (Addr × List Int)) (c : Addr), qs.Perm ps → qs.Pairwise (fun p q => HT.lexLt q.2 p.2 = false) → H c = none → Q (.ref c) (upd H c (.lst (qs.map fun p => V.ref p.1)))
theorem each_refs : ∀ {ps : List (Addr × List Int)} {out : List Value}, PySem.W.EachIs (fun (v : Value) (b : Addr × List Int) => v = Value.ref b.1) out ps → out = ps.map fun p => Value.ref p.1
  | _, _, .nil => rfl
  | _, _, .cons h t => by rw [h, each_refs t]; rfl
theorem refs_each (R : Value → Addr × List Int → Prop) : ∀ {ps : List (Addr × List Int)}, (∀ p ∈ ps, R (Value.ref p.1) p) → PySem.W.EachIs R (ps.map fun p => Value.ref p.1) ps
  | [], _ => .nil
  | p :: r, h => .cons (h p List.mem_cons_self) (refs_each R fun q hq => h q (List.mem_cons_of_mem _ hq))
theorem vals_refs : ∀ ps : List (Addr × List Int), Vals (ps.map fun p => V.ref p.1) (ps.map fun p => Value.ref p.1)
  | [] => .nil
  | p :: r => .cons (show RelV (.ref p.1) (.ref p.1) from rfl) (vals_refs r)
section
variable {X : Cx}
theorem cr_sortTI (hu : X.A.units + 4 < cLine) : CallR X (.builtin "sorted") (rSortTI X.K) := by
  intro pins s σ H vs us Q I r h
  obtain ⟨a, ps, rfl, hs, hk, q⟩ := h
  rw [Vals.ref1 r]
  obtain ⟨its, rv, pl, hz⟩ := I.list hs
  have e := refs_vals rv
  subst e
  rw [List.length_map] at hz
  refine PySem.W.sorted_data (R := fun v b => v = Value.ref b.1) (enc := encT) (bs := ps) (vs := ps.map fun p => Value.ref p.1) pl.isList (refs_each _ fun p _ => rfl) (refs_each _ fun p hp => ?_) (PySem.W.AllAlike.of fun b b' => ?_) (.inl fun d hd => ?_) (by first | exact hz | simpa using hz) (fun b hb => ?_) fun out hl ho => ?_
  · obtain ⟨its2, r2, p2, _⟩ := I.tuple (hk p hp).2
    obtain ⟨o, h1, h2, n, h3⟩ := p2
    exact ⟨[], .tuple h1 h2 h3 (reads_ints (by simpa using intsAre_of r2))⟩
  · show PySem.W.alike (.tuple _) (.tuple _) = true
    simp only [PySem.W.alike]
    exact PySem.W.alike_ints _ _
  · obtain ⟨b, hb, rfl⟩ := List.mem_map.mp hd
    have hn := (hk b hb).1
    obtain ⟨b1, b2⟩ := b
    cases b2 with
    | nil => exact absurd rfl hn
    | cons x r => exact ⟨_, _, rfl⟩
  · have hdp : (encT b).depth ≤ 1 := by
      unfold encT
      rw [PyData.depth, PySem.W.depth_ints]
      exact Nat.le_refl _
    omega
  · have e := each_refs ho
    subst e
    obtain ⟨ep, he'⟩ := PyProof.Rows.sortedAll_at s.heap (ps.map fun p => Value.ref p.1) (List.toArray ((ps.mergeSort (PySem.W.dataLe false encT)).map fun p => Value.ref p.1))
    have hperm := List.mergeSort_perm ps (PySem.W.dataLe false encT)
    have hpw : (ps.mergeSort (PySem.W.dataLe false encT)).Pairwise (fun p q => HT.lexLt q.2 p.2 = false) := by
      refine (PySem.W.sort_pairwise (PySem.W.sortLe_total _ false _) ps).imp fun {p q} h => ?_
      have h : PySem.W.dataLe false encT p q = true := h
      rw [enc_le] at h
      simpa using h
    generalize ps.mergeSort (PySem.W.dataLe false encT) = qs at *
    have hlen : (qs.map fun p => V.ref p.1).length ≤ sizeLine := by rw [List.length_map, hperm.length_eq]; exact hz
    exact ⟨.ref _, upd H (s.heap.objs.size + 1) (.lst (qs.map fun p => V.ref p.1)), I.laid (t' := s.toks) (fun _ _ => PyProof.Rows.sortedAll_old) (Nat.le_succ _) ⟨hlen, _, ep, vals_refs qs, he'⟩, rfl, q qs _ hperm hpw (I.hok.fresh (Nat.le_succ _))⟩
def cdSortTI : CD := fun ds S Q => on1 ds fun d => onLst d S fun xs => ∃ nss : List (List Int), xs = nss.map tupI ∧ (∀ ns ∈ nss, ns ≠ []) ∧ ∀ mss : List (List Int), mss.Perm nss → mss.Pairwise (fun p q => HT.lexLt q p = false) → Q (.loc S.length) (S ++ [.lst (mss.map tupI)])
theorem cd_sortTI (hu : X.A.units + 65 < cLine) : CallD X (.builtin "sorted") cdSortTI := by
  refine ⟨_, cr_sortTI (by omega), fun α S H xs vs Q Q' so r h k => ?_⟩
  obtain ⟨d, v, rfl, rfl, rv, h⟩ := on1.rp r h
  obtain ⟨a, xs, ds, rfl, hsq, hr, nss, rfl, hne, h2⟩ := onLst.rp so rv h
  obtain ⟨ps, rfl, rfl, h3⟩ := rpl_tups hr
  refine ⟨a, ps, rfl, hsq, fun p hp => ⟨hne p.2 (List.mem_map.mpr ⟨p, hp, rfl⟩), (h3 p hp).1⟩, fun qs c hperm hpw hc => ?_⟩
  have hr2 : RpL X.K α H (qs.map fun p => V.ref p.1) ((qs.map (·.2)).map tupI) := by
    have hall : ∀ p ∈ qs, Rp X.K α H (.ref p.1) (tupI p.2) := fun p hp => (h3 p (hperm.mem_iff.mp hp)).2
    clear hperm hpw
    induction qs with
    | nil => trivial
    | cons p r ih => exact ⟨_, _, rfl, hall p List.mem_cons_self, ih fun q hq => hall q (List.mem_cons_of_mem _ hq)⟩
  obtain ⟨t2, so2, r2⟩ := new_lst so hr2 hc
  exact k _ _ _ _ _ t2 so2 r2 (h2 (qs.map (·.2)) (hperm.map _) (List.pairwise_map.mpr hpw))
end
end DL

/-! DL, 32: sorted(d) of a dict whose keys are tuples of ints. -/
namespace DL
open PySem PySem.Spec PyProof.Rows L2 StX ClX
def intsK (ns : List Int) : List Key := ns.map Sum.inl
theorem intsK_V (ns : List Int) : (intsK ns).map kV = ns.map V.int := by
  unfold intsK
  rw [List.map_map]
  rfl
theorem keys_pairs {H : Hp} : ∀ {kvs : List (List Key × V)} {bs : List Addr} {nss : List (List Int)}, IsKeys H kvs bs → kvs.map (·.1) = nss.map intsK → ∃ ps : List (Addr × List Int), bs = ps.map (·.1) ∧ nss = ps.map (·.2) ∧ ∀ p ∈ ps, H p.1 = some (.tup (p.2.map V.int))
  | _, _, [], .nil, _ => ⟨[], rfl, rfl, fun _ h => nomatch h⟩
  | _, _, ns :: nss, .nil, e => by cases e
  | _, _, [], .cons _ _, e => by cases e
  | _, _, ns :: nss, @Paired.cons _ _ _ kv b kvs bs h t, e => by
    rw [List.map_cons, List.map_cons] at e
    injection e with e1 e2
    obtain ⟨ps, h1, h2, h3⟩ := keys_pairs t e2
    refine ⟨(b, ns) :: ps, by rw [h1]; rfl, by rw [h2]; rfl, fun p hp => ?_⟩
    rcases List.mem_cons.mp hp with rfl | hp
    · have h : H b = some (.tup (kv.1.map kV)) := h
      rw [e1, intsK_V] at h
      exact h
    · exact h3 p hp
def rSortDT : List V → Hp → VK → Prop := fun vs H Q => ∃ (d : Addr) (kvs : List (List Key × V)) (nss : List (List Int)), vs = [V.ref d] ∧ Rd H d (.dT kvs) ∧ kvs.map (·.1) = nss.map intsK ∧ (∀ ns ∈ nss, ns ≠ []) ∧
  ∀ (qs : List (Addr × List Int)) (c : Addr), (qs.map (·.2)).Perm nss → qs.Pairwise (fun p q => HT.lexLt q.2 p.2 = false) → (∀ q ∈ qs, H q.1 = some (.tup (q.2.map V.int))) → H c = none → Q (.ref c) (upd H c (.lst (qs.map fun p => V.ref p.1)))
section
variable {X : Cx}
theorem cr_sortDT (hc : X.calm = true) (hu : X.A.units + 5 < cLine) : CallR X (.builtin "sorted") rSortDT := by
  intro pins s σ H xs us Q I r h
  obtain ⟨d, kvs, nss, rfl, hd, hks, hne, q⟩ := h
  obtain ⟨u, rfl, rx⟩ := r.one
  cases rx
  obtain ⟨z, hs, ks, pr, o, es, ep, ho, hx, hdt, he, hn⟩ := (show ObjOk X.prog X.w H s.heap d (.dT kvs) from hd.ok I.hok)
  have l1 : es.size = ks.length := size_of_entries he
  have l2 : kvs.length = ks.length := Paired.length pr
  obtain ⟨ps, p1, p2, p3⟩ := keys_pairs (isKeys_of pr) hks
  have l3 : ps.length = ks.length := by
    have := congrArg List.length p1
    rw [List.length_map, List.length_map] at this
    exact this.symm
  refine PySem.Calls.call_function_entry kind_sorted plain_sorted entry_sorted (args_sorted1 _) ?_
  unfold Builtin.«sorted»
  refine wpAny_bind (wpAny_pure ?_)
  refine wpAny_bind (PySem.W.kdu_collect (A := X.A.in1) (kdl_raw hs hx hdt) (by simpa using I.ok.hd hc) ho (by omega) fun h' tk acc hk hacc => ?_)
  have ea : acc.toList = ps.map fun p => Value.ref p.1 := by
    have e0 : acc.toList = ks.map fun x => Value.ref x.2.1 := by
      have hl : acc.toList.length = ks.length := by rw [Array.length_toList, hacc.1]; exact l1
      apply List.ext_getElem?
      intro j
      rw [List.getElem?_map]
      cases hj : acc.toList[j]? with
      | none =>
        have h1 := List.getElem?_eq_none_iff.mp hj
        rw [List.getElem?_eq_none (by omega)]
        all_goals rfl
      | some v =>
        obtain ⟨en, hen, hv⟩ := hacc.2 j v (by rw [← Array.getElem?_toList]; exact hj)
        have qe := entry_at he j
        rw [hen] at qe
        cases hb : ks[j]? with
        | none =>
          rw [hb] at qe
          exact nomatch (show some en = none from qe)
        | some b =>
          rw [hb] at qe
          have e2 : en = entryOfKey (tupleKind (mixKind X.prog X.w)) b := Option.some.inj qe
          rw [hv, e2]
          all_goals rfl
    have e1 : (ks.map fun x => Value.ref x.2.1) = (ks.map fun x => x.2.1).map Value.ref := by rw [List.map_map]; rfl
    rw [e0, e1, p1, List.map_map]
    rfl
  rw [ea]
  have hlen : (ps.map fun p => Value.ref p.1).length ≤ sizeLine := by rw [List.length_map]; omega
  refine wpAny_bind (wpAny_newList ?_ hlen)
  have hat : (h'.push { cls := .type "list", data := .seq (ps.map fun p => Value.ref p.1).toArray }).get? h'.objs.size = some (seqObj "list" (ps.map fun p => Value.ref p.1).toArray 0) := Heap.get?_push_size _ rfl
  have I1 : Inv X pins σ H { s with heap := h', toks := tk } := I.kept (t' := tk) hk
  refine wpAny_bind (wpAny_holding (wpAny_mono (PySem.W.list_sort_data (n := 0) (R := fun v b => v = Value.ref b.1) (enc := encT) (bs := ps) (vs := ps.map fun p => Value.ref p.1) (Q := fun _ s' => ∃ out : List Value, PySem.W.EachIs (fun (v : Value) (b : Addr × List Int) => v = Value.ref b.1) out (ps.mergeSort (PySem.W.dataLe false encT)) ∧
    s' = { s with heap := sortedHeap (h'.push { cls := .type "list", data := .seq (ps.map fun p => Value.ref p.1).toArray }) h'.objs.size (ps.map fun p => Value.ref p.1) out.toArray, toks := tk })
    hat (refs_each _ fun p _ => rfl) (refs_each _ fun p hp => ?_) (PySem.W.AllAlike.of fun b b' => ?_) (.inl fun d hd => ?_) (by omega) (fun b hb => ?_) fun out hl ho => ⟨out, ho, rfl⟩) (fun _ s' x => ?_) fun _ _ e => e))
  · obtain ⟨its2, r2, ⟨oo, g1, g2, n, g3⟩, _⟩ := I.tuple (.inl (.inl (p3 p hp)))
    exact ⟨[], .tuple (Heap.get?_push_of_some _ (hk _ _ g1)) g2 g3 (reads_ints (by simpa using intsAre_of r2)), by simp⟩
  · show PySem.W.alike (.tuple _) (.tuple _) = true
    simp only [PySem.W.alike]
    exact PySem.W.alike_ints _ _
  · obtain ⟨b, hb, rfl⟩ := List.mem_map.mp hd
    have hn2 := hne b.2 (by rw [p2]; exact List.mem_map.mpr ⟨b, hb, rfl⟩)
    obtain ⟨b1, b2⟩ := b
    cases b2 with
    | nil => exact absurd rfl hn2
    | cons x r => exact ⟨_, _, rfl⟩
  · have hdp : (encT b).depth ≤ 1 := by
      unfold encT
      rw [PyData.depth, PySem.W.depth_ints]
      exact Nat.le_refl _
    have hin : X.A.in1.units ≤ X.A.units + 1 := by simp
    omega
  · obtain ⟨out, ho, rfl⟩ := x
    have e := each_refs ho
    subst e
    obtain ⟨ep2, he2⟩ := sortedHeap_at (out := ((ps.mergeSort (PySem.W.dataLe false encT)).map fun p => Value.ref p.1).toArray) hat
    have hperm := List.mergeSort_perm ps (PySem.W.dataLe false encT)
    have hpw : (ps.mergeSort (PySem.W.dataLe false encT)).Pairwise (fun p q => HT.lexLt q.2 p.2 = false) := by
      refine (PySem.W.sort_pairwise (PySem.W.sortLe_total _ false _) ps).imp fun {p q} h => ?_
      have h : PySem.W.dataLe false encT p q = true := h
      rw [enc_le] at h
      simpa using h
    generalize ps.mergeSort (PySem.W.dataLe false encT) = qs at *
    have hlen2 : (qs.map fun p => V.ref p.1).length ≤ sizeLine := by rw [List.length_map, hperm.length_eq]; omega
    refine wpAny_pure ⟨_, rfl, ⟨.ref _, upd H h'.objs.size (.lst (qs.map fun p => V.ref p.1)), I1.laid (t' := tk) (fun b u e => ?_) (Nat.le_refl _) ⟨hlen2, _, ep2, vals_refs qs, he2⟩, rfl, q qs _ (by rw [p2]; exact hperm.map _) hpw (fun p hp => p3 p (hperm.mem_iff.mp hp)) (I1.hok.fresh (Nat.le_refl _))⟩⟩
    have e : h'.get? b = some u := e
    have hb := Heap.lt_size e
    rw [sortedHeap_old (Nat.ne_of_lt hb) (by rw [Heap.size_push]; exact Nat.lt_succ_of_lt hb)]
    exact Heap.get?_push_of_some _ e
theorem rpt_keys {K : PySem.W.Frag} {α : Locs} {H : Hp} : ∀ {kvs : List (List Key × D)} {xs : List (List Key × V)}, RpT K α H xs kvs → xs.map (·.1) = kvs.map (·.1)
  | [], xs, h => by
    have h : xs = [] := h
    rw [h]; rfl
  | (k, d) :: r, xs, h => by
    obtain ⟨v, u, rfl, h1, h2⟩ := h
    rw [List.map_cons, List.map_cons, rpt_keys h2]
/-- a tuple is no live location -/
theorem off_tup {K : PySem.W.Frag} {α : Locs} {H : Hp} {S : Store} (so : StoreOk K α H S) {a : Addr} {xs : List V} (h : H a = some (.tup xs)) : Off α a := by
  intro l e
  have hl : l < α.length := (List.getElem?_eq_some_iff.mp e).1
  have hS : S[l]? = some (S[l]'(by rw [← so.len]; exact hl)) := List.getElem?_eq_getElem _
  have ob := so.ob l a _ e hS
  generalize S[l]'(by rw [← so.len]; exact hl) = o at ob
  cases o with
  | lst ds => obtain ⟨ys, h2, _⟩ := ob; rw [h] at h2; cases h2
  | dk kvs => obtain ⟨ys, h2, _⟩ := ob; rw [h] at h2; cases h2
  | dt kvs => obtain ⟨ys, h2, _⟩ := ob; rw [h] at h2; cases h2
  | ins C fs => obtain ⟨dx, ys, h2, _⟩ := ob; rw [h] at h2; cases h2
  | ext φ => have h2 : H a = some (.ext (φ a)) := ob; rw [h] at h2; cases h2
theorem rp_ints {K : PySem.W.Frag} {α : Locs} {H : Hp} : ∀ ns : List Int, RpL K α H (ns.map V.int) (ns.map D.int)
  | [] => rfl
  | n :: r => ⟨_, _, rfl, rfl, rp_ints r⟩
def cdSortDT : CD := fun ds S Q => on1 ds fun d => ∃ (l : Nat) (kvs : List (List Key × D)) (nss : List (List Int)), d = .loc l ∧ S[l]? = some (.dt kvs) ∧ kvs.map (·.1) = nss.map intsK ∧ (∀ ns ∈ nss, ns ≠ []) ∧
  ∀ mss : List (List Int), mss.Perm nss → mss.Pairwise (fun p q => HT.lexLt q p = false) → Q (.loc S.length) (S ++ [.lst (mss.map tupI)])
theorem cd_sortDT (hc : X.calm = true) (hu : X.A.units + 65 < cLine) : CallD X (.builtin "sorted") cdSortDT := by
  refine ⟨_, cr_sortDT hc (by omega), fun α S H xs vs Q Q' so r h k => ?_⟩
  obtain ⟨d, v, rfl, rfl, rv, l, kvs, nss, rfl, hl, hk, hne, h2⟩ := on1.rp r h
  obtain ⟨a, rfl, ha⟩ := rv
  obtain ⟨xs, hs, hr⟩ := so.ob l a _ ha hl
  refine ⟨a, xs, nss, rfl, .inl hs, by rw [rpt_keys hr]; exact hk, hne, fun qs c hperm hpw ht hc => ?_⟩
  have hr2 : RpL X.K α H (qs.map fun p => V.ref p.1) ((qs.map (·.2)).map tupI) := by
    have hall : ∀ p ∈ qs, Rp X.K α H (.ref p.1) (tupI p.2) := fun p hp => ⟨p.1, _, rfl, ⟨ht p hp, off_tup so (ht p hp)⟩, rp_ints _⟩
    clear hperm hpw ht
    induction qs with
    | nil => trivial
    | cons p r ih => exact ⟨_, _, rfl, hall p List.mem_cons_self, ih fun q hq => hall q (List.mem_cons_of_mem _ hq)⟩
  obtain ⟨t2, so2, r2⟩ := new_lst so hr2 hc
  exact k _ _ _ _ _ t2 so2 r2 (h2 (qs.map (·.2)) hperm (List.pairwise_map.mpr hpw))
end
end DL

/-! DL, 33: == of two instances of a class by its own __eq__. -/
namespace DL
open PySem PySem.Spec PyProof.Rows L2
theorem lt64 {a c : Nat} (h : a + 64 < c) : a < c := Nat.lt_of_le_of_lt (Nat.le_add_right _ _) h
def rOwn (C : Addr) (sp : Sp) : R2 := fun x y H Q => ∃ a b dx dy fs gs, x = .ref a ∧ y = .ref b ∧ H a = some (.ins C dx fs) ∧ H b = some (.ins C dy gs) ∧ sp [.ref a, .ref b] H Q E0
def rdOwn (C : Addr) (dsp : DSp) : RD := fun x y S Q => onObj C x S fun _ => onObj C y S fun _ => dsp [x, y] S Q noX
section
variable {X : Cx} {CX : CXT} {k : Nat} {f C : Addr} {fd : FuncData} {ps : List Str} {dsp : DSp} {sp : Sp}
theorem op_own (hm : Meth X.K C "__eq__" f) (F : FnOk X.prog X.w X.K X.mg X.base CX k f fd ps sp) (hu : X.A.units < cLine) (hr : Room k X.A) (hb : Binds X.K fd ps []) (hx : Passes CX X E0) : OpR X (compareOp .Eq) (rOwn C sp) := by
  intro pins s σ H x y v u Q I rx ry hq
  obtain ⟨a, b, dx, dy, fs, gs, rfl, rfl, ha, hb', hr'⟩ := hq
  cases rx
  cases ry
  obtain ⟨mA, J, _⟩ := ins_get I.hok ha
  obtain ⟨mB, J', _⟩ := ins_get I.hok hb'
  obtain ⟨od, J, _⟩ := J.look
  obtain ⟨od', J', _⟩ := J'.look
  obtain ⟨m, hF⟩ := I.fr
  show wpAny (model X.prog X.w) X.A (richCompare .Eq (.ref a) (.ref b)) (EP X pins σ Q) X.xe s
  refine PySem.W.cmp_K (op := .Eq) (tb := .ref C) hu hF I.ok.mod.kin J J'.type (by simp [PySem.W.notFirst]) hm.at_ hm.fn ?_
  refine wpAny_mono (run_fn (us := [.ref a, .ref b]) (vs := [.ref a, .ref b]) F hr hb .nil hx I (.cons rfl (.cons rfl .nil)) hr') (fun v s' hv => ?_) fun _ _ z => z
  obtain ⟨z, H', I', rz, q⟩ := hv
  have out : v ≠ .notImplemented → PySem.W.CmpBack (EP X pins σ Q) v s' := fun hne => by
    have : EP X pins σ Q v s' := ⟨z, H', I', rz, q⟩
    cases v <;> first | exact absurd rfl hne | exact this
  refine out fun e => ?_
  subst e
  cases z <;> first | (obtain ⟨_, e⟩ := rz; exact nomatch e) | exact nomatch rz | (have rz : Value.notImplemented = _ := rz; exact nomatch rz)
theorem od_own (hm : Meth X.K C "__eq__" f) (F : FnOk X.prog X.w X.K X.mg X.base CX k f fd ps (spOf X.K 2 dsp)) (hu : X.A.units < cLine) (hr : Room k X.A) (hb : Binds X.K fd ps []) (hx : Passes CX X E0) : OpD X (compareOp .Eq) (rdOwn C dsp) :=
  ⟨_, op_own hm F hu hr hb hx, fun α S H x y v u Q Q' so rx ry h k => by
    obtain ⟨a, dx, xs, fs, e1, hx1, hr1, h⟩ := onObj.rp so rx h
    obtain ⟨b, dy, ys, gs, e2, hy1, hr2, h⟩ := onObj.rp so ry h
    subst e1 e2
    exact ⟨a, b, dx, dy, _, _, rfl, rfl, hx1, hy1, rfl, α, S, [x, y], Q, noX, so, ⟨_, _, rfl, rx, _, _, rfl, ry, rfl⟩, h, k, KX.no⟩⟩
end
end DL

/-! DL, 34: comprehensions over an empty dict; dicts compared; the empty set's length. -/
namespace DL
open PySem PySem.Spec PyProof.Rows L2
/-- nothing is walked -/
def It0 (d : Addr) (o : Obj) : It := ⟨fun _ _ => False, fun _ _ _ _ => False, fun _ H => H d = some (.frz o (.dT []))⟩
section
variable {X : Cx} {pins : List (Addr × Obj)} {σ : L2.St} {H : Hp} {s : Shared} {d : Addr} {o : Obj}
theorem frz0 (I : Inv X pins σ H s) (h : H d = some (.frz o (.dT []))) :
    (d == sysModules) = false ∧ s.heap.get? d = some o ∧ ∃ (ep : Nat), o.data = .dict #[] ep ∧ s.heap.DictAt (mixKind X.prog X.w) d [] ep := by
  obtain ⟨hs, hgd, hx, es, ep, hdt, hsz, _⟩ := I.frzT h
  have e : es = #[] := Array.eq_empty_of_size_eq_zero hsz
  subst e
  exact ⟨hs, hgd, ep, hdt, o, #[], hgd, hx, hdt, (fun e he => by simp at he), .nil, List.nodup_nil⟩
theorem turn_vals0 {P : Program} {w : World} {K : PySem.W.Frag} {tg : Expr} {ep : Nat} (it : Addr) (hod : o.data = .dict #[] ep) : Turn P w K tg (It0 d o) [it] it (fun i h => h.IsValIter it d i 0 ep) where
  mem := by simp
  obj := fun i h st b hb => by
    have e : b = it := by simpa using hb
    subst e
    obtain ⟨oi, e, c, dd⟩ := st
    exact ⟨oi, e, fun v z => by rw [dd] at z; cases z⟩
  keep := fun i h h' st k => st.at fun oi e => k it (by simp) oi e
  item := by
    intro X hP hw hK hc i pins s σ H E I hf st hg
    exact hg.elim
  done := by
    intro X hP hw hK hc i pins s σ H E I hf st hg
    subst hP hw hK
    obtain ⟨f0, f1, f2, f3, f4, f5⟩ := hf it (by simp)
    obtain ⟨hs, hgd, ep', hdt, hm⟩ := frz0 I hg
    have e : ep' = ep := by rw [hod] at hdt; injection hdt with _ e; exact e.symm
    subst e
    exact wpAny_pyNext_values_end (I.ok.hd hc) st hm rfl fun h' eb => ⟨rfl, I.turned (t' := s.toks) (fun b ob hb e => eb b ob hb e) f0 f1 f3 f4 f5⟩
  self := fun A i s Q E st h => wpAny_pyIter_valiter st h
def iVals0 (td : TE) : TI := fun σ H R => td σ H fun x H1 => ∃ d o, x = .ref d ∧ H1 d = some (.frz o (.dT [])) ∧ R (It0 d o) H1
theorem pi_values0 {tg e : Expr} {td : TE} {apos cpos : Pos} (he : PE X e td) (hbase : attributeBase e "values" X.env (eval e X.env) = eval e X.env := by rfl) (hline : (apos.endLine == cpos.line) = true := by rfl) : PI X tg (.Call (.Attribute e "values" apos) [] [] cpos) (iVals0 td) := by
  refine ⟨fun pins s σ H R I h => ?_⟩
  refine wpAny_Call_method (T := "dict") (id := "dict.values") hbase rfl hline F.plainAttrs_dict F.slot_dict_values F.type_dict_values (thn (he.run pins s σ H _ I h) fun u s1 ⟨x, H1, I1, rx, d, o, ex, hd, q⟩ => ?_)
  subst ex
  obtain rfl : u = Value.ref d := rx
  obtain ⟨hs, hgd, ep, hdt, hm⟩ := frz0 I1 hd
  refine ⟨hm.dictOf.typeIs, hm.dictOf.mapOf.noDict, ?_⟩
  have I2 : Inv X pins σ H1 { s1 with heap := s1.heap.push { cls := .type "dict_values", data := .fields #[.ref d] } } := I1.kept (t' := s1.toks) fun b ob q => Heap.get?_push_of_some _ q
  have fin : wpAny (model X.prog X.w) X.A (pyIter (.ref s1.heap.objs.size)) (PIE X pins σ tg R) X.xe { s1 with heap := s1.heap.push { cls := .type "dict_values", data := .fields #[.ref d] } } := by
    exact wpAny_pyIter_values (d := d) (knd := mixKind X.prog X.w) ⟨_, Heap.get?_push_size _ rfl, rfl, rfl⟩ (hm.push _) (pi_one (tk := s1.toks) I2 _ (turn_vals0 _ hdt) ⟨_, Heap.get?_push_size _ rfl, rfl, rfl⟩ q)
  show wpAny _ _ (callWith cpos (.builtin "dict.values") [.ref d] [] []) _ X.xe s1
  exact method_meetsIn F.slot_dict_values F.entry_dict_values rfl (PySem.evalArgs_none ⟨rfl, hm.dictOf.typeIs, F.args_dict_values_1 _, _, meets_dict_values (mixKind X.prog X.w) d hs, ⟨[], hm.dictOf⟩, fin⟩)
end
def gNo : TG := fun _ _ _ _ => False
def tNo : TT := fun _ _ _ => False
def eNo : TE := fun _ _ _ => False
theorem pg_no {X : Cx} {e : Expr} : PG X e gNo := ⟨fun _ _ _ _ _ _ _ _ _ h => h.elim⟩
theorem pt_no {X : Cx} {e : List Expr} : PTs X e tNo := ⟨fun _ _ _ _ _ _ h => h.elim⟩
theorem pe_no {X : Cx} {e : Expr} : PE X e eNo := ⟨fun _ _ _ _ _ _ h => h.elim⟩
/-- slot i holds an instance of C whose attribute f is an empty dict -/
def onEmpty (C : Addr) (f : Str) (i : Nat) (ρ : Rho) : Prop := ∃ fs, getR ρ i = some (.obj C fs) ∧ fs.lookup f = some (.dt [])
section
variable {X : Cx} {C : Addr} {f : Str} {i : Nat} {pos vpos apos cpos fpos : Pos} {x : Str} {elt tg : Expr} {ifs : List Expr} {scope : Scope} {own : List (Str × Nat)}
theorem onEmpty.rp {K : PySem.W.Frag} {α : Locs} {ρ : Rho} {S : Store} {σ : L2.St} {H : Hp} (so : StoreOk K α H S) (ro : RhoOk K α H ρ σ) (h : onEmpty C f i ρ) :
    ∃ a dx xs d, σ[i]? = some (some (.ref a)) ∧ H a = some (.ins C dx xs) ∧ xs.lookup f = some (.ref d) ∧ H d = some (.dT []) ∧ Off α d := by
  obtain ⟨fs, h1, h2⟩ := h
  obtain ⟨v, hv, rv⟩ := ro.get h1
  obtain ⟨a, dx, xs, rfl, ha, _, hr⟩ := rv
  obtain ⟨u, hu, ru⟩ := hr.lookup h2
  obtain ⟨d, ys, rfl, hd, of, hy⟩ := ru
  cases (show ys = [] from hy)
  exact ⟨a, dx, xs, d, hv, ha, hu, hd, of⟩
theorem back0 {H : Hp} {d D : Addr} {od : Obj} {u : HO} (hd : H d = some (.dT [])) (hD : upd H d (.frz od (.dT [])) D = none) :
    D ≠ d ∧ H D = none ∧ upd (upd (upd H d (.frz od (.dT []))) D u) d (.dT []) = upd H D u := by
  have ne : D ≠ d := fun e => by rw [e, upd_same] at hD; cases hD
  refine ⟨ne, by rwa [upd_ne ne] at hD, ?_⟩
  funext b
  unfold upd
  by_cases h1 : b = d
  · subst h1
    rw [if_pos rfl, if_neg (Ne.symm ne), hd]
  · rw [if_neg h1]
    by_cases h2 : b = D
    · rw [if_pos h2, if_pos h2]
    · rw [if_neg h2, if_neg h2, if_neg h1]
/-- y = [.. for .. in o.f.values() ..], o.f empty -/
def sLcV0 (C : Addr) (f : Str) (i j : Nat) : DS := fun E ρ S => onEmpty C f i ρ ∧ gdName j (.loc S.length) ρ (S ++ [.lst []]) E.nx
theorem ds_lcV0 {j : Nat} {y : Str} {py spos : Pos} (hc : X.calm = true) (hN : X.N.Nodup) (hi : X.N[i]? = some x) (hv : Vis X.env.scope x) (c : Cls X.K C) (n : NoAttr X.K C f) (hy : X.N[j]? = some y) (hyl : X.env.scope.names.lookup y = some .local)
    (hsw : swapsWith (.ListComp elt [⟨tg, .Call (.Attribute (.Attribute (.Name x vpos) f fpos) "values" apos) [] [] cpos, ifs, 0⟩] scope pos) (some (.Name y py)) spos.line X.env = pure true) (ok : BlkOk X.N X.env.scope scope own)
    (hd : (x == ("__debug__" : Str)) = false := by decide) (hcd : (x == ("__classdict__" : Str)) = false := by decide)
    (hb : attributeBase (.Name x vpos) f X.env (eval (.Name x vpos) X.env) = eval (.Name x vpos) X.env := by rfl)
    (hbase : attributeBase (.Attribute (.Name x vpos) f fpos) "values" X.env (eval (.Attribute (.Name x vpos) f fpos) X.env) = eval (.Attribute (.Name x vpos) f fpos) X.env := by rfl) (hline : (apos.endLine == cpos.line) = true := by rfl)
    (hs : ∀ v, foldedSetIterable (.Call (.Attribute (.Attribute (.Name x vpos) f fpos) "values" apos) [] [] cpos) X.env v = pure v := by intro _; rfl) :
    DSt X (.Assign [.Name y py] (.ListComp elt [⟨tg, .Call (.Attribute (.Attribute (.Name x vpos) f fpos) "values" apos) [] [] cpos, ifs, 0⟩] scope pos) spos) (sLcV0 C f i j) := by
  refine ⟨_, ps_lock (ps_setLc hc hN hy hyl hsw (pi_values0 (pe_fld (pe_var hi hv hd hcd) hb) hbase hline) ok (fun _ _ _ _ _ => pg_no) (fun _ _ _ _ _ => pt_no) (fun _ _ _ _ _ => pe_no) hs), fun α ρ S σ H E F so ro q k => ?_⟩
  obtain ⟨a, dx, xs, d, h1, h2, h3, h4, of⟩ := q.1.rp so ro
  have nad : a ≠ d := fun e => by rw [e, h4] at h2; cases h2
  refine ⟨d, .dT [], h4, trivial, fun od => ⟨.ref a, h1, a, C, dx, xs, .ref d, rfl, by rw [upd_ne nad]; exact h2, c, n, h3, d, od, rfl, upd_same, fun D hD => ?_⟩⟩
  obtain ⟨ne, hDn, e⟩ := back0 (u := .lst []) h4 hD
  refine ⟨fun j m H' => j = 0 ∧ H' = upd (upd H d (.frz od (.dT []))) D (.lst []), ⟨0, rfl, rfl⟩, ?_⟩
  rintro jj m H' ⟨rfl, rfl⟩
  have hdd : upd (upd H d (.frz od (.dT []))) D (.lst []) d = some (.frz od (.dT [])) := by rw [upd_ne (Ne.symm ne)]; exact upd_same
  have tp := Stp.push (α := α) (o := HO.lst []) hDn
  refine Or.inl ⟨hdd, hdd, ?_⟩
  rw [e]
  exact k.nx _ _ _ _ _ tp (so.push (o := .lst []) (ob := .lst []) hDn ⟨[], upd_same, rfl⟩) (RhoOk.set j (show Rp _ _ _ (.ref D) (.loc S.length) from ⟨D, rfl, by rw [← so.len]; simp⟩) (ro.stp tp)) q.2
theorem sw_trueS {elt : Expr} {gs : List Comprehension} {scope : Scope} {pos py : Pos} {y : Str} {l : Nat} {env : Env} (hk : env.scope.kind = .function) (hy : env.scope.names.lookup y = some .local) (hl : (py.line == pos.line) = true)
    (ha : (scope.names.any fun (n, k) => n == y && (k == .local || k == .cell)) = false) : swapsWith (.SetComp elt gs scope pos) (some (.Name y py)) l env = pure true := by
  have ky : env.kindOf y = some .local := hy
  have hb : env.blockKind = .function := by unfold Env.blockKind; rw [hk]; rfl
  unfold swapsWith
  simp only [hb, ky, ha, Expr.pos, hl]
  rfl
theorem ps_setSc {i : Nat} {y : Str} {py : Pos} {elt tg iter : Expr} {ifs : List Expr} {scope : Scope} {own : List (Str × Nat)} {pos spos : Pos} {wi : TI} {g : TG} {tt : TT} {te : TE} (hc : X.calm = true) (hN : X.N.Nodup) (hy : X.N[i]? = some y) (hyl : X.env.scope.names.lookup y = some .local)
    (hsw : swapsWith (.SetComp elt [⟨tg, iter, ifs, 0⟩] scope pos) (some (.Name y py)) spos.line X.env = pure true) (hi : PI X tg iter wi) (ok : BlkOk X.N X.env.scope scope own)
    (hg : ∀ (s : Shared) (H : Hp) (C : Addr) (cl : List (Str × Addr)) (fp : List Addr), PG (X.blk s H scope (compEnvC scope cl C X.env) fp) tg g) (ht : ∀ (s : Shared) (H : Hp) (C : Addr) (cl : List (Str × Addr)) (fp : List Addr), PTs (X.blk s H scope (compEnvC scope cl C X.env) fp) ifs tt)
    (he : ∀ (s : Shared) (H : Hp) (C : Addr) (cl : List (Str × Addr)) (fp : List Addr), PE (X.blk s H scope (compEnvC scope cl C X.env) fp) elt te) (hs : ∀ x, foldedSetIterable iter X.env x = pure x := by intro _; rfl) :
    PS X (.Assign [.Name y py] (.SetComp elt [⟨tg, iter, ifs, 0⟩] scope pos) spos) (tAsg (PpSet.tSc X.w wi g tt te (own.map (·.2))) (gName i)) := by
  refine ⟨fun pins s σ H D I h => ?_⟩
  rw [exec_Assign_Name_used _ _ _ _ hsw]
  refine wpAny_bind (wpAny_standAt (wpAny_bind ?_))
  show wpAny _ X.A (do let _ ← comprehension (.SetComp elt [⟨tg, iter, ifs, 0⟩] scope pos) scope X.env (firstIterPos [⟨tg, iter, ifs, 0⟩] pos) (newSet (.type "set")) false (eval iter X.env) (some (assign (.Name y py) X.env))) _ _ s
  have h : PpSet.tSc X.w wi g tt te (own.map (·.2)) σ H (fun x H1 => gName i x σ H1 D.nx) := h
  refine wpAny_bind (thn (PpSet.sc_core (Qf := fun _ s' => SP X pins D .next s') hc hN I hi ok hg ht he hs h fun L C s' m H' I' q hn f => ?_) fun _ s' hq => wpAny_pure (wpAny_pure hq))
  show wpAny _ _ (assign (.Name y py) X.env (.ref L)) _ _ _
  refine wpAny_assign_Name (store_ok2 (v := V.ref L) I' hN hy (.inl hyl) rfl (fun s2 I2 ⟨a, sb, ha⟩ => ?_) (.inr hyl))
  obtain ⟨f0, f1, f2, f3, f4, f5⟩ := f
  have haC : C ≠ a := by
    rcases ha with z | z
    · rw [z]; exact f1
    · exact fun e => f4 y a z e.symm
  refine ⟨m, hn.sameBut sb haC, fun h3 sb3 => ?_⟩
  exact ⟨_, H', I2.turned (t' := s2.toks) (fun b o hb e => (sb3.2 b hb).trans e) f0 f1 f3 f4 f5, q⟩
/-- the empty set that a comprehension makes -/
def set0 (w : World) : Addr → Heap → Prop := fun a h => PpSet.SetB w h a (fun _ => false) 0
def sScK0 (w : World) (C : Addr) (f : Str) (i j : Nat) : DS := fun E ρ S => onEmpty C f i ρ ∧ gdName j (.loc S.length) ρ (S ++ [.ext (set0 w)]) E.nx
/-- y = {.. for .. in o.f ..}, o.f empty -/
theorem ds_scK0 {w' : World} {j : Nat} {y : Str} {py spos : Pos} (hw : X.w = w') (hc : X.calm = true) (hN : X.N.Nodup) (hi : X.N[i]? = some x) (hv : Vis X.env.scope x) (c : Cls X.K C) (n : NoAttr X.K C f) (hy : X.N[j]? = some y) (hyl : X.env.scope.names.lookup y = some .local)
    (hsw : swapsWith (.SetComp elt [⟨tg, .Attribute (.Name x vpos) f fpos, ifs, 0⟩] scope pos) (some (.Name y py)) spos.line X.env = pure true) (ok : BlkOk X.N X.env.scope scope own)
    (hd : (x == ("__debug__" : Str)) = false := by decide) (hcd : (x == ("__classdict__" : Str)) = false := by decide)
    (hb : attributeBase (.Name x vpos) f X.env (eval (.Name x vpos) X.env) = eval (.Name x vpos) X.env := by rfl)
    (hs : ∀ v, foldedSetIterable (.Attribute (.Name x vpos) f fpos) X.env v = pure v := by intro _; rfl) :
    DSt X (.Assign [.Name y py] (.SetComp elt [⟨tg, .Attribute (.Name x vpos) f fpos, ifs, 0⟩] scope pos) spos) (sScK0 w' C f i j) := by
  subst hw
  refine ⟨_, ps_lock (ps_setSc hc hN hy hyl hsw (pi_keys (pe_fld (pe_var hi hv hd hcd) hb)) ok (fun _ _ _ _ _ => pg_no) (fun _ _ _ _ _ => pt_no) (fun _ _ _ _ _ => pe_no) hs), fun α ρ S σ H E F so ro q k => ?_⟩
  obtain ⟨a, dx, xs, d, h1, h2, h3, h4, of⟩ := q.1.rp so ro
  have nad : a ≠ d := fun e => by rw [e, h4] at h2; cases h2
  refine ⟨d, .dT [], h4, trivial, fun od => ⟨.ref a, h1, a, C, dx, xs, .ref d, rfl, by rw [upd_ne nad]; exact h2, c, n, h3, d, od, rfl, Or.inr ⟨[], upd_same, fun D hD => ?_⟩⟩⟩
  obtain ⟨ne, hDn, e⟩ := back0 (u := PpSet.SetBO X.w D (fun _ => false) 0) h4 hD
  refine ⟨fun j m H' => j = 0 ∧ H' = upd (upd H d (.frz od (.dT []))) D (PpSet.SetBO X.w D (fun _ => false) 0), ⟨0, rfl, rfl⟩, ?_⟩
  rintro jj m H' ⟨rfl, rfl⟩
  have hdd : upd (upd H d (.frz od (.dT []))) D (PpSet.SetBO X.w D (fun _ => false) 0) d = some (.frz od (.dT [])) := by rw [upd_ne (Ne.symm ne)]; exact upd_same
  have tp := Stp.push (α := α) (o := PpSet.SetBO X.w D (fun _ => false) 0) hDn
  refine Or.inl ⟨⟨hdd, Nat.le_refl _⟩, hdd, ?_⟩
  rw [e]
  exact k.nx _ _ _ _ _ tp (so.push (o := PpSet.SetBO X.w D (fun _ => false) 0) (ob := .ext (set0 X.w)) hDn upd_same) (RhoOk.set j (show Rp _ _ _ (.ref D) (.loc S.length) from ⟨D, rfl, by rw [← so.len]; simp⟩) (ro.stp tp)) q.2
/-- len of that set -/
def cdLen0 (w : World) : CD := fun ds S Q => on1 ds fun d => ∃ l, d = .loc l ∧ S[l]? = some (.ext (set0 w)) ∧ Q (.int 0) S
theorem cr_len0 : CallR X (.builtin "len") (fun xs H Q => ∃ a, xs = [.ref a] ∧ H a = some (.ext (set0 X.w a)) ∧ Q (.int 0) H) := by
  intro pins s σ H xs us Q I r h
  obtain ⟨a, rfl, ha, q⟩ := h
  obtain ⟨u, rfl, rx⟩ := r.one
  cases rx
  obtain ⟨o, es, ep, t, ho, hex, hd, _, _, _, _, hf, hn, _⟩ := (show PpSet.SetB X.w s.heap a (fun _ => false) 0 from (I.hok a _ ha).1)
  refine call_len_set ho hex hd hf (by rw [hn]; decide) ⟨.int 0, H, I.tok _, ⟨_, by rw [hn]; rfl⟩, q⟩
theorem cd_len0 {w' : World} (hw : X.w = w') : CallD X (.builtin "len") (cdLen0 w') := by
  subst hw
  refine ⟨_, cr_len0, fun α S H xs vs Q Q' so r h k => ?_⟩
  obtain ⟨d, v, rfl, rfl, rv, l, rfl, hl, h2⟩ := on1.rp r h
  obtain ⟨a, rfl, ha⟩ := rv
  exact ⟨a, rfl, so.ob l a _ ha hl, k.int so h2⟩
/-- {.. for .. in xs}, xs an empty list that lives -/
def dDc0 (t : DT) : DT := fun ρ S Q => t ρ S fun d S1 => ∃ l, d = .loc l ∧ S1[l]? = some (.lst []) ∧ Q (.loc S1.length) (S1 ++ [.dk []])
theorem de_dc0 {e kx vx : Expr} {t : DT} (hc : X.calm = true) (hN : X.N.Nodup) (he : DE X e t) (ok : BlkOk X.N X.env.scope scope own) (hs : ∀ v, foldedSetIterable e X.env v = pure v := by intro _; rfl) :
    DE X (.DictComp kx vx [⟨tg, e, ifs, 0⟩] scope pos) (dDc0 t) := by
  obtain ⟨⟨te, h1, h2⟩⟩ := he
  refine ⟨_, pe_dc hc hN (pi_list h1) ok (fun _ _ _ _ _ => pg_no) (fun _ _ _ _ _ => pt_no) (fun _ _ _ _ _ => pe_no) (fun _ _ _ _ _ => pe_no) hs, fun α ρ S σ H Q Q' so ro q k => ?_⟩
  refine h2 α ρ S σ H _ _ so ro q fun v H1 α1 d S1 t1 so1 r1 ⟨l, e1, hl, q1⟩ => ?_
  subst e1
  obtain ⟨a, rfl, hla⟩ := r1
  obtain ⟨xs0, hx0, hr0⟩ := so1.lst hla hl
  cases (show xs0 = [] from hr0)
  refine ⟨a, rfl, ⟨[], SqL.of hx0⟩, fun D hD => ?_⟩
  have ne : a ≠ D := fun e => by rw [e, hD] at hx0; cases hx0
  refine ⟨fun j m H' => j = 0 ∧ H' = upd H1 D (.dK []), ⟨0, rfl, rfl⟩, ?_⟩
  rintro j m H' ⟨rfl, rfl⟩
  have tp := Stp.push (α := α1) (o := HO.dK []) hD
  refine Or.inl ⟨⟨[], SqL.of (by rw [upd_ne ne]; exact hx0), Nat.le_refl _⟩, ?_⟩
  exact k _ _ _ (.loc S1.length) _ (t1.trans tp) (so1.push (o := .dK []) (ob := .dk []) hD ⟨[], upd_same, rfl⟩) ⟨D, rfl, by rw [← so1.len]; simp⟩ q1
/-- d != {} of two empty dicts -/
def rdNe0 : RD := fun x y S Q => ∃ l m, x = .loc l ∧ y = .loc m ∧ S[l]? = some (.dk []) ∧ S[m]? = some (.dk []) ∧ Q (.bl false) S
theorem od_ne0 (hu : X.A.units < cLine) : OpD X (compareOp .NotEq) rdNe0 := ⟨_, op_ne_dictA hu, fun α S H x y v u Q Q' so rx ry h k => by
  obtain ⟨l, m, rfl, rfl, h1, h2, q⟩ := h
  obtain ⟨a, rfl, ha⟩ := rx
  obtain ⟨b, rfl, hb⟩ := ry
  obtain ⟨xs, e1, e2⟩ := so.ob l a _ ha h1
  obtain ⟨ys, e3, e4⟩ := so.ob m b _ hb h2
  cases (show xs = [] from e2)
  cases (show ys = [] from e4)
  exact ⟨a, b, [], [], rfl, rfl, e1, e3, rfl, (fun _ h => nomatch h), k.bl so q⟩⟩
theorem dss_never (sts : List Stmt) : DSs X sts sNever := ⟨fun _ _ _ => False, ⟨fun pins s σ H D I h => h.elim⟩, fun α ρ S σ H E F so ro q k => q⟩
/-- a new location, wherever it stands, handed on as the next one -/
theorem Rt.locN {S ex : Store} {Q : DK} {l : Nat} {ob : Ob} (hl : S.length ≤ l) (he : (S ++ ex)[l]? = some ob) (hb : bndO S.length ob) (q : Q (.loc S.length) (S ++ [ob])) : Rt S Q (.loc l) (S ++ ex) := by
  unfold Rt
  exact Or.inl ⟨CutOk.same, Or.inr ⟨_, ob, rfl, hl, he, hb, by rw [take_push]; exact q⟩⟩
end
end DL

/-! DL, 35: !=, len, repr and the text in an f-string of an instance by its class' own __eq__, __len__, __repr__; isinstance, == and != with a tuple on the other side. -/
namespace DL
open PySem PySem.Spec PyProof.Rows L2
section
variable {prog : Program} {w : World} {A : Around} {E : Value → Shared → Prop} {s : Shared} {K : PySem.W.Frag} {x C L f : Addr} {h₀ : Heap} {m : Str → Option Value} {ox : Obj} {od : Option Obj} {b tb : Value}
open PySem.W PySem.Builtin
theorem ifBound_blt {M : Model} {name : Str} {id : String} {args : List Value} {Q : Option Value → Shared → Prop} (X : K.In s.heap) (I : InstAt s.heap x ox C od) (hs : findIn K (.ref C) name = some (some (.builtin id)))
    (hb : ∀ self, bindSpecial (.builtin id) self = pure (.builtin id, [self])) (h : wpAny M A (call (.builtin id) (.ref x :: args)) (fun v => Q (some v)) E s) : wpAny M A (callSpecialIfBound? (.ref x) name args) Q E s := by
  simp only [callSpecialIfBound?, bindSpecialIfBound?]
  refine wpAny_holding (wpAny_bind (wpAny_bind (wpAny_bind (I.type.here ((looks_findIn X hs).here ?_)))))
  refine wpAny_bind (wpAny_askSetting (wpAny_ite ?_))
  have fin : wpAny M A (call (.builtin id) ([.ref x] ++ args) >>= fun v => pure (some v)) Q E s := wpAny_bind (wpAny_mono h (fun v s' h' => wpAny_pure h') fun _ _ h' => h')
  split
  · exact wpAny_bind ((Looks.of_pure (hb _)).here (wpAny_pure (by exact fin)))
  · exact wpAny_tryCatch (wpAny_bind ((Looks.of_pure (hb _)).here (wpAny_pure (by exact fin))))
theorem ne_K {Q : Value → Shared → Prop} (hu : A.units + 1 < cLine) (FR : Fr h₀ L s.heap m) (X₀ : K.In h₀) (I : InstAt s.heap x ox C od) (hb : Looks (model prog w) s.heap (typeOf b) tb) (hn : notFirst K C tb = true)
    (hne : findIn K (.ref C) "__ne__" = some (some (.builtin "object.__ne__"))) (hm : mroIn K C (.type "object") = some true)
    (hs : findIn K (.ref C) "__eq__" = some (some (.ref f))) (hf : isFn K (.ref f) = true)
    (h : wpAny (model prog w) A.in1 (call (.ref f) [.ref x, b]) (fun v s' => ∃ r, v = .bool r ∧ Q (.bool (!r)) s') E s) : wpAny (model prog w) A (richCompare .NotEq (.ref x) b) Q E s := by
  have X := X₀.keeps FR.keep
  have one : wpAny (model prog w) A (tryCompare (.ref x) "__ne__" b) (fun r s' => ∃ v, r = some v ∧ Q v s') E s := by
    unfold tryCompare
    refine wpAny_bind (ifBound_blt X I hne F.cmp_object.ne.bind (wpAny_call (codeAny_call_builtin F.cmp_object.ne.plain F.cmpEntry_ne (check_slot (i := "object.__ne__") (owner := "object") (n := "__ne__") F.cmpKind_ne F.cmpSplit_ne (I.type.andThen (looks_mroIn X hm)) (F.cmpArgs_ne _ _) ?_))))
    unfold Builtin.«object.__ne__»
    refine wpAny_bind (m := slotArgs "__ne__" 1 _) (wpAny_pure ?_)
    refine wpAny_bind (m := cRoomFor _ _) (wpAny_cRoomFor (by show A.units + 1 < _; omega) ?_)
    refine wpAny_bind (m := callSpecialIfBound? (.ref x) (Str.ofString "__eq__") _) (ifBound_K X I hs hf (wpAny_mono h (fun v s' hv => ?_) fun _ _ e => e))
    obtain ⟨r, rfl, hq⟩ := hv
    refine wpAny_bind (m := truthy (.bool r)) (wpAny_truthy_bool ?_)
    first
      | exact wpAny_pure (wpAny_pure ⟨_, rfl, hq⟩)
      | exact wpAny_pure ⟨_, rfl, hq⟩
      | exact wpAny_pure (wpAny_pure (wpAny_pure ⟨_, rfl, hq⟩))
  unfold richCompare
  simp only [oneThing_ref]
  refine wpAny_holding (wpAny_bind (wpAny_cRoomFor (by omega) ?_))
  rw [cmpInfo_NotEq]
  dsimp only
  refine wpAny_bind (I.type.here (wpAny_bind (hb.here ?_)))
  split
  · rename_i q
    have e : subIn K tb (.ref C) = some false := by
      rcases Bool.or_eq_true_iff.mp hn with e | e
      · rw [beq_iff_eq.mp e] at q; simp at q
      · exact beq_iff_eq.mp e
    refine wpAny_bind ((looks_subIn X e).here ?_)
    simp only [Bool.false_eq_true, if_false]
    refine wpAny_bind (wpAny_mono one (fun r s' z => ?_) fun _ _ e => e)
    obtain ⟨v, rfl, hq⟩ := z
    exact wpAny_pure hq
  · refine wpAny_bind (wpAny_pure ?_)
    simp only [Bool.false_eq_true, if_false]
    refine wpAny_bind (wpAny_mono one (fun r s' z => ?_) fun _ _ e => e)
    obtain ⟨v, rfl, hq⟩ := z
    exact wpAny_pure hq
end
section
variable {X : Cx} {CX : CXT} {k : Nat} {f C : Addr} {fd : FuncData} {ps : List Str} {dsp : DSp} {sp : Sp}
/-- the callee of a promise, called somewhere below the running body -/
theorem run_sub {A : Around} {pins : List (Addr × Obj)} {σ : L2.St} {H : Hp} {s : Shared} {Q : VK} {us : List Value} {vs : List V} (sb : Sub X k A) (F : FnOk X.prog X.w X.K X.mg X.base CX k f fd ps sp) (hb : Binds X.K fd ps []) (hx : Passes CX X E0)
    (I : Inv X pins σ H s) (rel : Vals vs us) (want : sp vs H Q E0) : wpAny (model X.prog X.w) A (call (.ref f) us) (EP X pins σ Q) X.xe s := by
  have e0 : Env0 X.prog X.w X.K X.mg X.base A X.stack s H := by
    have e := I.env0
    exact ⟨by rw [sb.fr]; exact e.frames, e.mod, e.bs, e.bsz, e.funs, e.frf, e.hok, e.bare⟩
  have hl : us.length = ps.length := by rw [← rel.length]; exact F.len _ _ _ _ want
  refine wpAny_call (codeAny_mono (F.run A X.stack s H ⟨us, []⟩ us vs _ E0 sb.room e0 (by
    have := hb s us I.kIn (by simpa using hl)
    simpa using this) rel want) fun r s' hq => ?_)
  cases r with
  | error e => exact hx pins σ H s e s' I hq
  | ok fl =>
    cases fl with
    | ret u => exact I.after hq
    | next => exact False.elim hq
    | brk => exact False.elim hq
    | cont => exact False.elim hq
theorem sub1 {n : Nat} (h : Room (n + 1) X.A) : Sub X n X.A.in1 := ⟨h.in1, rfl⟩
theorem sub2 {n : Nat} (h : Room (n + 2) X.A) : Sub X n X.A.in1.in1 := ⟨h.in1.in1, rfl⟩
/-- len(o), o an instance of C with its own __len__ -/
def rLenO (C : Addr) (sp : Sp) : List V → Hp → VK → Prop := fun xs H Q => ∃ a dx fs, xs = [.ref a] ∧ H a = some (.ins C dx fs) ∧ sp [.ref a] H (fun v H' => ∃ n : Nat, v = .int n ∧ n ≤ 1000 ∧ Q (.int n) H') E0
theorem cr_lenO (hm : Meth X.K C "__len__" f) (F : FnOk X.prog X.w X.K X.mg X.base CX k f fd ps sp) (hr : Room (k + 1) X.A) (hb : Binds X.K fd ps []) (hx : Passes CX X E0) : CallR X (.builtin "len") (rLenO C sp) := by
  intro pins s σ H xs us Q I r h
  obtain ⟨a, dx, fs, rfl, ha, hq⟩ := h
  obtain ⟨u, rfl, rx⟩ := r.one
  cases rx
  obtain ⟨mA, J, _⟩ := ins_get I.hok ha
  obtain ⟨od, J, _⟩ := J.look
  obtain ⟨m, hF⟩ := I.fr
  refine PySem.W.len_K hF I.ok.mod.kin J hm.at_ hm.fn (wpAny_mono (run_sub (us := [.ref a]) (vs := [.ref a]) (sub1 hr) F hb hx I (.cons rfl .nil) hq) (fun v s' hv => ?_) fun _ _ z => z)
  obtain ⟨z, H', I', rz, n, rfl, hn, q⟩ := hv
  obtain ⟨t, rfl⟩ := rz
  exact ⟨⟨by omega, by omega⟩, .int n, H', I'.tok _, ⟨_, rfl⟩, q⟩
def cdLenO (C : Addr) (dsp : DSp) : CD := fun ds S Q => on1 ds fun x => onObj C x S fun _ => dsp [x] S (fun d S' => ∃ n : Nat, d = .int n ∧ n ≤ 1000 ∧ Q (.int n) S') noX
theorem cd_lenO (hm : Meth X.K C "__len__" f) (F : FnOk X.prog X.w X.K X.mg X.base CX k f fd ps (spOf X.K 1 dsp)) (hr : Room (k + 1) X.A) (hb : Binds X.K fd ps []) (hx : Passes CX X E0) : CallD X (.builtin "len") (cdLenO C dsp) := by
  refine ⟨_, cr_lenO hm F hr hb hx, fun α S H xs vs Q Q' so r h k => ?_⟩
  obtain ⟨d, v, rfl, rfl, rv, h⟩ := on1.rp r h
  obtain ⟨a, dx, ys, fs, e1, hx1, hr1, h⟩ := onObj.rp so rv h
  subst e1
  refine ⟨a, dx, _, rfl, hx1, rfl, α, S, [d], _, noX, so, ⟨_, _, rfl, rv, rfl⟩, h, ?_, KX.no⟩
  rintro v2 H' α' d2 S' t' so' r' ⟨n, rfl, hn, q⟩
  cases (show v2 = .int n from r')
  exact ⟨n, rfl, hn, k _ _ _ _ _ t' so' r' q⟩
/-- repr(o) -/
def rReprO (C : Addr) (sp : Sp) : List V → Hp → VK → Prop := fun xs H Q => ∃ a dx fs, xs = [.ref a] ∧ H a = some (.ins C dx fs) ∧ sp [.ref a] H (fun v H' => ∃ z : Str, v = .str z ∧ Q (.str z) H') E0
theorem cr_reprO (hm : Meth X.K C "__repr__" f) (F : FnOk X.prog X.w X.K X.mg X.base CX k f fd ps sp) (hr : Room (k + 1) X.A) (hb : Binds X.K fd ps []) (hx : Passes CX X E0) : CallR X (.builtin "repr") (rReprO C sp) := by
  intro pins s σ H xs us Q I r h
  obtain ⟨a, dx, fs, rfl, ha, hq⟩ := h
  obtain ⟨u, rfl, rx⟩ := r.one
  cases rx
  obtain ⟨mA, J, _⟩ := ins_get I.hok ha
  obtain ⟨od, J, _⟩ := J.look
  obtain ⟨m, hF⟩ := I.fr
  refine PySem.W.repr_K hr.in1.units0 hF I.ok.mod.kin J hm.at_ hm.fn (wpAny_mono (run_sub (us := [.ref a]) (vs := [.ref a]) (sub1 hr) F hb hx I (.cons rfl .nil) hq) (fun v s' hv => ?_) fun _ _ z => z)
  obtain ⟨z, H', I', rz, y, rfl, q⟩ := hv
  obtain ⟨t, rfl⟩ := rz
  exact ⟨.str y, H', I', ⟨_, rfl⟩, q⟩
def cdReprO (C : Addr) (dsp : DSp) : CD := fun ds S Q => on1 ds fun x => onObj C x S fun _ => dsp [x] S (fun d S' => ∃ z : Str, d = .str z ∧ Q (.str z) S') noX
theorem str_want {K : PySem.W.Frag} {α : Locs} {H : Hp} {S : Store} {Q : DK} {Q' : VK} {x : D} {v : V} (so : StoreOk K α H S) (rv : Rp K α H v x) (h : dsp [x] S (fun d S' => ∃ z : Str, d = .str z ∧ Q (.str z) S') noX) (k : KE K α H Q Q') :
    spOf K 1 dsp [v] H (fun v H' => ∃ z : Str, v = .str z ∧ Q' (.str z) H') E0 := by
  refine ⟨rfl, α, S, [x], _, noX, so, ⟨_, _, rfl, rv, rfl⟩, h, ?_, KX.no⟩
  rintro v2 H' α' d2 S' t' so' r' ⟨z, rfl, q⟩
  cases (show v2 = .str z from r')
  exact ⟨z, rfl, k _ _ _ _ _ t' so' r' q⟩
theorem cd_reprO (hm : Meth X.K C "__repr__" f) (F : FnOk X.prog X.w X.K X.mg X.base CX k f fd ps (spOf X.K 1 dsp)) (hr : Room (k + 1) X.A) (hb : Binds X.K fd ps []) (hx : Passes CX X E0) : CallD X (.builtin "repr") (cdReprO C dsp) := by
  refine ⟨_, cr_reprO hm F hr hb hx, fun α S H xs vs Q Q' so r h k => ?_⟩
  obtain ⟨d, v, rfl, rfl, rv, h⟩ := on1.rp r h
  obtain ⟨a, dx, ys, fs, e1, hx1, hr1, h⟩ := onObj.rp so rv h
  subst e1
  exact ⟨a, dx, _, rfl, hx1, str_want so rv h k⟩
/-- what an f-string asks of a class without own __format__, __str__ -/
structure FmtC (K : PySem.W.Frag) (C : Addr) : Prop where
  hf : PySem.W.findIn K (.ref C) "__format__" = some (some (.builtin "object.__format__"))
  hs : PySem.W.findIn K (.ref C) "__str__" = some (some (.builtin "object.__str__"))
  hm : PySem.W.mroIn K C (.type "object") = some true
/-- {o} in an f-string -/
def dFmtO (C : Addr) (dsp : DSp) (t : DT) : DT := fun ρ S Q => t ρ S fun x S1 => onObj C x S1 fun _ => dsp [x] S1 (fun d S' => ∃ z : Str, d = .str z ∧ Q (.str z) S') noX
theorem de_fmtO {e : Expr} {pos : Pos} {t : DT} (fc : FmtC X.K C) (hm : Meth X.K C "__repr__" f) (F : FnOk X.prog X.w X.K X.mg X.base CX k f fd ps (spOf X.K 1 dsp)) (hr : Room (k + 2) X.A) (hb : Binds X.K fd ps []) (hx : Passes CX X E0) (he : DE X e t) :
    DE X (.FormattedValue e (-1) none pos) (dFmtO C dsp t) := by
  obtain ⟨⟨t1, h1, h2⟩⟩ := he
  refine ⟨fun σ H Q => t1 σ H fun v H1 => ∃ a dx fs, v = .ref a ∧ H1 a = some (.ins C dx fs) ∧ spOf X.K 1 dsp [.ref a] H1 (fun v H' => ∃ z : Str, v = .str z ∧ Q (.str z) H') E0, ⟨fun pins s σ H Q I h => ?_⟩, fun α ρ S σ H Q Q' so ro q k => ?_⟩
  · refine wpAny_FormattedValue_plain (thn (h1.run pins s σ H _ I h) fun v s1 hv => ?_)
    obtain ⟨x, H1, I1, r1, a, dx, fs, rfl, ha, hq⟩ := hv
    cases r1
    obtain ⟨mA, J, _⟩ := ins_get I1.hok ha
    obtain ⟨od, J, _⟩ := J.look
    refine PySem.W.kfo_fieldR hr.in1.units0 hr.in1.in1.units0 I1.kIn J fc.hf fc.hm fc.hs hm.at_ hm.fn (wpAny_mono (run_sub (s := { s1 with toks := s1.toks + 1 }) (us := [.ref a]) (vs := [.ref a]) (sub2 hr) F hb hx (I1.tok _) (.cons rfl .nil) hq) (fun v s' hv => ?_) fun _ _ z => z)
    obtain ⟨z, H', I', rz, y, rfl, q⟩ := hv
    obtain ⟨t, rfl⟩ := rz
    exact ⟨.str y, H', I', ⟨_, rfl⟩, q⟩
  · refine h2 α ρ S σ H _ _ so ro q fun v H1 α1 x S1 t1 so1 r1 q1 => ?_
    obtain ⟨a, dx, ys, fs, e1, hx1, hr1, q2⟩ := onObj.rp so1 r1 q1
    subst e1
    exact ⟨a, dx, _, rfl, hx1, str_want so1 r1 q2 (k.stp t1)⟩
/-- what comparisons and isinstance ask of a class with own __eq__ -/
structure OwnC (K : PySem.W.Frag) (C : Addr) : Prop where
  nt : PySem.W.notFirst K C (.type "tuple") = true
  kt : PySem.W.kitOne K (.type "tuple") (.ref C) = some false
  ne : PySem.W.findIn K (.ref C) "__ne__" = some (some (.builtin "object.__ne__"))
  mo : PySem.W.mroIn K C (.type "object") = some true
/-- the other side: an instance of the same class, or a tuple -/
def Side (C : Addr) (H : Hp) (b : Addr) : Prop := (∃ dx fs, H b = some (.ins C dx fs)) ∨ ∃ xs, H b = some (.tup xs)
theorem side_looks {pins : List (Addr × Obj)} {σ : L2.St} {H : Hp} {s : Shared} {b : Addr} (oc : OwnC X.K C) (I : Inv X pins σ H s) (h : Side C H b) :
    ∃ tb, PySem.W.Looks (model X.prog X.w) s.heap (typeOf (.ref b)) tb ∧ PySem.W.notFirst X.K C tb = true := by
  rcases h with ⟨dx, fs, h⟩ | ⟨xs, h⟩
  · obtain ⟨mB, J', _⟩ := ins_get I.hok h
    obtain ⟨od', J', _⟩ := J'.look
    exact ⟨_, J'.type, by simp [PySem.W.notFirst]⟩
  · obtain ⟨its, _, ⟨o, e, c, _⟩, _⟩ := I.tuple (.inl (.inl h))
    exact ⟨.type "tuple", fun A Q E s' k q => wpAny_typeOf (T := "tuple") (v := .ref b) ⟨o, k _ _ e, c⟩ q, oc.nt⟩
def rEqO (C : Addr) (sp : Sp) : R2 := fun x y H Q => ∃ a b dx fs, x = .ref a ∧ y = .ref b ∧ H a = some (.ins C dx fs) ∧ Side C H b ∧ sp [.ref a, .ref b] H Q E0
def rNeO (C : Addr) (sp : Sp) : R2 := fun x y H Q => ∃ a b dx fs, x = .ref a ∧ y = .ref b ∧ H a = some (.ins C dx fs) ∧ Side C H b ∧ sp [.ref a, .ref b] H (fun v H' => ∃ r, v = .bl r ∧ Q (.bl (!r)) H') E0
theorem op_eqO (oc : OwnC X.K C) (hm : Meth X.K C "__eq__" f) (F : FnOk X.prog X.w X.K X.mg X.base CX k f fd ps sp) (hr : Room k X.A) (hb : Binds X.K fd ps []) (hx : Passes CX X E0) : OpR X (compareOp .Eq) (rEqO C sp) := by
  intro pins s σ H x y v u Q I rx ry hq
  obtain ⟨a, b, dx, fs, rfl, rfl, ha, hs, hr'⟩ := hq
  cases rx
  cases ry
  obtain ⟨mA, J, _⟩ := ins_get I.hok ha
  obtain ⟨od, J, _⟩ := J.look
  obtain ⟨m, hF⟩ := I.fr
  obtain ⟨tb, hl, hn⟩ := side_looks oc I hs
  show wpAny (model X.prog X.w) X.A (richCompare .Eq (.ref a) (.ref b)) (EP X pins σ Q) X.xe s
  refine PySem.W.cmp_K (op := .Eq) (tb := tb) hr.units0 hF I.ok.mod.kin J hl hn hm.at_ hm.fn ?_
  refine wpAny_mono (run_fn (us := [.ref a, .ref b]) (vs := [.ref a, .ref b]) F hr hb .nil hx I (.cons rfl (.cons rfl .nil)) hr') (fun v s' hv => ?_) fun _ _ z => z
  obtain ⟨z, H', I', rz, q⟩ := hv
  have out : v ≠ .notImplemented → PySem.W.CmpBack (EP X pins σ Q) v s' := fun hne => by
    have : EP X pins σ Q v s' := ⟨z, H', I', rz, q⟩
    cases v <;> first | exact absurd rfl hne | exact this
  refine out fun e => ?_
  subst e
  cases z <;> first | (obtain ⟨_, e⟩ := rz; exact nomatch e) | exact nomatch rz | (have rz : Value.notImplemented = _ := rz; exact nomatch rz)
theorem op_neO (oc : OwnC X.K C) (hm : Meth X.K C "__eq__" f) (F : FnOk X.prog X.w X.K X.mg X.base CX k f fd ps sp) (hr : Room (k + 1) X.A) (hb : Binds X.K fd ps []) (hx : Passes CX X E0) : OpR X (compareOp .NotEq) (rNeO C sp) := by
  intro pins s σ H x y v u Q I rx ry hq
  obtain ⟨a, b, dx, fs, rfl, rfl, ha, hs, hr'⟩ := hq
  cases rx
  cases ry
  obtain ⟨mA, J, _⟩ := ins_get I.hok ha
  obtain ⟨od, J, _⟩ := J.look
  obtain ⟨m, hF⟩ := I.fr
  obtain ⟨tb, hl, hn⟩ := side_looks oc I hs
  show wpAny (model X.prog X.w) X.A (richCompare .NotEq (.ref a) (.ref b)) (EP X pins σ Q) X.xe s
  refine ne_K (tb := tb) (by have := hr.un; omega) hF I.ok.mod.kin J hl hn oc.ne oc.mo hm.at_ hm.fn (wpAny_mono (run_sub (us := [.ref a, .ref b]) (vs := [.ref a, .ref b]) (sub1 hr) F hb hx I (.cons rfl (.cons rfl .nil)) hr') (fun v s' hv => ?_) fun _ _ z => z)
  obtain ⟨z, H', I', rz, r, rfl, q⟩ := hv
  cases (show v = .bool r from rz)
  exact ⟨r, rfl, .bl (!r), H', I', rfl, q⟩
/-- the other side, by data -/
def onSide (C : Addr) (y : D) (P : Prop) : Prop := match y with
  | .obj C' _ => C' = C ∧ P
  | .tup _ => P
  | _ => False
theorem onSide.rp {K : PySem.W.Frag} {α : Locs} {H : Hp} {y : D} {u : V} {P : Prop} (r : Rp K α H u y) (h : onSide C y P) : ∃ b, u = .ref b ∧ Side C H b ∧ P := by
  cases y with
  | obj C' fs =>
    obtain ⟨rfl, p⟩ := h
    obtain ⟨b, dx, xs, e, hb, _⟩ := r
    exact ⟨b, e, Or.inl ⟨dx, xs, hb⟩, p⟩
  | tup ds =>
    obtain ⟨b, xs, e, hb, _⟩ := r
    exact ⟨b, e, Or.inr ⟨xs, hb.1⟩, h⟩
  | _ => exact h.elim
def rdEqO (C : Addr) (dsp : DSp) : RD := fun x y S Q => onObj C x S fun _ => onSide C y (dsp [x, y] S Q noX)
def rdNeO (C : Addr) (dsp : DSp) : RD := fun x y S Q => onObj C x S fun _ => onSide C y (dsp [x, y] S (fun d S' => ∃ r, d = .bl r ∧ Q (.bl (!r)) S') noX)
theorem od_eqO (oc : OwnC X.K C) (hm : Meth X.K C "__eq__" f) (F : FnOk X.prog X.w X.K X.mg X.base CX k f fd ps (spOf X.K 2 dsp)) (hr : Room k X.A) (hb : Binds X.K fd ps []) (hx : Passes CX X E0) : OpD X (compareOp .Eq) (rdEqO C dsp) :=
  ⟨_, op_eqO oc hm F hr hb hx, fun α S H x y v u Q Q' so rx ry h k => by
    obtain ⟨a, dx, xs, fs, e1, hx1, hr1, h⟩ := onObj.rp so rx h
    obtain ⟨b, e2, hs, h⟩ := onSide.rp ry h
    subst e1 e2
    exact ⟨a, b, dx, _, rfl, rfl, hx1, hs, rfl, α, S, [x, y], Q, noX, so, ⟨_, _, rfl, rx, _, _, rfl, ry, rfl⟩, h, k, KX.no⟩⟩
theorem od_neO (oc : OwnC X.K C) (hm : Meth X.K C "__eq__" f) (F : FnOk X.prog X.w X.K X.mg X.base CX k f fd ps (spOf X.K 2 dsp)) (hr : Room (k + 1) X.A) (hb : Binds X.K fd ps []) (hx : Passes CX X E0) : OpD X (compareOp .NotEq) (rdNeO C dsp) :=
  ⟨_, op_neO oc hm F hr hb hx, fun α S H x y v u Q Q' so rx ry h k => by
    obtain ⟨a, dx, xs, fs, e1, hx1, hr1, h⟩ := onObj.rp so rx h
    obtain ⟨b, e2, hs, h⟩ := onSide.rp ry h
    subst e1 e2
    refine ⟨a, b, dx, _, rfl, rfl, hx1, hs, rfl, α, S, [x, y], _, noX, so, ⟨_, _, rfl, rx, _, _, rfl, ry, rfl⟩, h, ?_, KX.no⟩
    rintro v2 H' α' d2 S' t' so' r' ⟨r, rfl, q⟩
    cases (show v2 = .bl r from r')
    exact ⟨r, rfl, (k.stp t').bl so' q⟩⟩
/-- isinstance(x, C): an instance of C, or a tuple -/
def cdIsO (C : Addr) : CD := fun ds S Q => on2 ds fun x y => y = .cst C ∧ match x with
  | .tup _ => Q (.bl false) S
  | x => onObj C x S fun _ => Q (.bl true) S
theorem cd_isO (oc : OwnC X.K C) (c : C8.InsC X.K C) : CallD X (.builtin "isinstance") (cdIsO C) := by
  refine ⟨_, (C8.call_isC c).or call_isi, fun α S H xs vs Q Q' so r h k => ?_⟩
  obtain ⟨d1, d2, v1, v2, rfl, rfl, r1, r2, rfl, h1⟩ := on2.rp r h
  cases (show v2 = .ref C from r2)
  have go : (onObj C d1 S fun _ => Q (.bl true) S) → ((∃ a dx fs, [v1, V.ref C] = [V.ref a, V.ref C] ∧ H a = some (.ins C dx fs) ∧ Q' (.bl true) H) ∨ rIsi X.K [v1, V.ref C] H Q') := fun h1 => by
    obtain ⟨a, dx, ys, fs, rfl, ha, hr, q1⟩ := onObj.rp so r1 h1
    exact Or.inl ⟨a, dx, ys, rfl, ha, k.bl so q1⟩
  cases d1 with
  | tup ds =>
    obtain ⟨a, xs, rfl, ht, hr⟩ := r1
    exact Or.inr ⟨.ref a, .ref C, .type "tuple", .ref C, false, rfl, .own C, .base (.tup ht.1), oc.kt, k.bl so h1⟩
  | _ => exact go h1
end
end DL

/-! DL, 36: t[::-1] of a tuple; str of ints and texts; comparisons by the class' own __eq__. -/
namespace DL
open PySem PySem.Spec PyProof.Rows L2
section
variable {prog : Program} {w : World} {A : Around} {E : Value → Shared → Prop} {s : Shared}
theorem adjust_rev (n : Nat) : Builtin.Slice.sliceAdjust none none (-1) (n : Int) = ((n : Int) - 1, -1) := by
  unfold Builtin.Slice.sliceAdjust
  simp
theorem places_rev (n : Nat) : Builtin.Slice.slicePlaces ((n : Int) - 1) (-1) (-1) = n := by
  unfold Builtin.Slice.slicePlaces
  have h1 : ¬ ((-1 : Int) > 0) := by omega
  simp only [h1, if_false, show (-(-1 : Int)) = 1 by decide, Int.ediv_one]
  split <;> omega
theorem sliceApplied_rev {sl : Addr} {vl vu vs : Value} {n : Nat} {Q : Int × Int × Nat → Shared → Prop} (hs : s.heap.IsSliceOf sl vl vu vs) (pl : IsPart vl none) (pu : IsPart vu none) (ps : IsPart vs (some (-1)))
    (h : Q ((n : Int) - 1, -1, n) s) : wpAny (model prog w) A (Builtin.Slice.sliceApplied (.ref sl) (pure (n : Int))) Q E s := by
  obtain ⟨os, hos, hcs, hds⟩ := id hs
  unfold Builtin.Slice.sliceApplied Builtin.Slice.sliceFields
  refine wpAny_bind (wpAny_bind (wpAny_field hos hds (x := vl) rfl (wpAny_bind (wpAny_field hos hds (x := vu) rfl (wpAny_bind (wpAny_field hos hds (x := vs) rfl (wpAny_pure ?_)))))))
  refine wpAny_bind (HT.slicePart_ ps ?_)
  show wpAny _ _ (if ((-1 : Int) == 0) = true then _ else _) _ _ s
  rw [if_neg (by decide)]
  refine wpAny_bind (HT.slicePart_ pl (wpAny_bind (HT.slicePart_ pu (wpAny_bind (wpAny_pure ?_)))))
  show wpAny _ _ (match Builtin.Slice.sliceAdjust none none (-1) (n : Int) with | (lo, hi) => pure (lo, (-1 : Int), Builtin.Slice.slicePlaces lo hi (-1))) _ _ s
  rw [adjust_rev n]
  show wpAny _ _ (pure ((n : Int) - 1, (-1 : Int), Builtin.Slice.slicePlaces ((n : Int) - 1) (-1) (-1))) _ _ s
  rw [places_rev]
  exact wpAny_pure h
theorem pick_rev (xs : Array Value) : ((List.range xs.size).filterMap fun (m : Nat) => xs[((xs.size : Int) - 1 + (m : Int) * (-1)).toNat]?).toArray = xs.toList.reverse.toArray := by
  have e : ((List.range xs.size).filterMap fun (m : Nat) => xs[((xs.size : Int) - 1 + (m : Int) * (-1)).toNat]?) = ((List.range xs.size).map fun k => xs.size - 1 - k).filterMap (xs[·]?) := by
    rw [List.filterMap_map]
    congr 1
    funext m
    show _ = xs[xs.size - 1 - m]?
    rw [show ((xs.size : Int) - 1 + (m : Int) * (-1)).toNat = xs.size - 1 - m by omega]
  rw [e, PySem.W.krv_range, List.filterMap_reverse, PySem.W.krv_all]
theorem getItem_tuple_rev {t sl : Addr} {items : Array Value} {vl vu vs : Value} {Q : Value → Shared → Prop} (ht : IsTup s.heap t items) (hs : s.heap.IsSliceOf sl vl vu vs) (pl : IsPart vl none) (pu : IsPart vu none) (ps : IsPart vs (some (-1)))
    (h : Q (.ref s.heap.objs.size) { s with heap := s.heap.push { cls := .type "tuple", data := .seq items.toList.reverse.toArray } }) (hsz : items.size ≤ sizeLine) : wpAny (model prog w) A (getItem (.ref t) (.ref sl)) Q E s := by
  have htake : sizeOk (.seq items.toList.reverse.toArray) := by
    show items.toList.reverse.toArray.size ≤ sizeLine
    rw [List.size_toArray, List.length_reverse, Array.length_toList]; exact hsz
  obtain ⟨os, hos, hcs, hds⟩ := id hs
  have hTs : s.TypeIs (.ref sl) "slice" := ⟨os, hos, hcs⟩
  unfold getItem
  try with_reducible refine wpAny_holding ?_
  first | refine wpAny_bind (wpAny_pure ?_) | skip
  refine wpAny_bind (wpAny_sequenceKey ht.typeIs (by decide) ?_)
  refine wpAny_bind (wpAny_callSpecial?_slot (name := Str.ofString "__getitem__") ht.typeIs PyProof.Rows.slot_tuple_getitem
    (wpAny_call_entry PyProof.Rows.slot_tuple_getitem ht.typeIs entry_tuple_getitem ?_ (args_tuple_getitem _ _)))
  show wpAny _ _ (Builtin.Tuple.tupleItemsOf (.ref t) >>= _) _ _ s
  refine wpAny_bind (tupleItemsOf_ ht ?_)
  refine wpAny_bind (wpAny_typeOf hTs ?_)
  rw [if_pos (by decide)]
  refine wpAny_bind (sliceApplied_rev hs pl pu ps ?_)
  show wpAny _ _ (if (((items.size : Int) - 1) == 0 && (-1 : Int) == 1 && items.size == items.size) = true then _ else _) _ _ s
  rw [if_neg (by simp), pick_rev]
  first
    | exact wpAny_bind (m := Builtin.Tuple.tupleExact _) (wpAny_newObj_type (wpAny_pure ⟨_, rfl, wpAny_pure h⟩) htake)
    | exact wpAny_bind (m := Builtin.Tuple.tupleExact _) (wpAny_newObj_type (wpAny_bind (wpAny_pure (wpAny_pure ⟨_, rfl, wpAny_pure h⟩))) htake)
    | exact wpAny_bind (wpAny_bind (m := Builtin.Tuple.tupleExact _) (wpAny_newObj_type (wpAny_pure (wpAny_pure ⟨_, rfl, wpAny_pure h⟩)) htake))
    | exact wpAny_bind (wpAny_bind (m := Builtin.Tuple.tupleExact _) (wpAny_newObj_type (wpAny_pure ⟨_, rfl, wpAny_pure h⟩) htake))
end
section
variable {X : Cx} {CX : CXT} {k : Nat} {f C : Addr} {fd : FuncData} {ps : List Str} {dsp : DSp} {sp : Sp}
def tRevT (K : PySem.W.Frag) (te : TE) : TE := fun σ H Q => te σ H fun x H1 => ∃ a xs, x = .ref a ∧ SqT K H1 a xs ∧ ∀ p, H1 p = none → Q (.ref p) (upd H1 p (.tup xs.reverse))
theorem pe_revT {e : Expr} {te : TE} {k : Nat} {p1 p2 p3 pos : Pos} (he : PE X e te) : PE X (.Subscript e (.Slice none none (some (.UnaryOp .USub (.Constant (.int 1) k p1) p2)) p3) pos) (tRevT X.K te) := by
  refine ⟨fun pins s σ H Q I h => ?_⟩
  refine Subscript_ (thn (he.run pins s σ H _ I h) fun v s1 ⟨x, H1, I1, r1, q1⟩ => ?_)
  obtain ⟨a, xs, ex, hx, q⟩ := q1
  subst ex
  cases r1
  have hst : PO X (some (.UnaryOp .USub (.Constant (.int 1) k p1) p2)) (tPart (tUn (rU fun i => .int (-i)) (tC (.int 1)))) := po_some (pe_un un_neg pe_int)
  refine wpAny_Slice (thn (po_none.run pins s1 σ H1 (fun o H2 => o = none ∧ H2 = H1) I1 ⟨rfl, rfl⟩) fun vl s2 ⟨l, H2, I2, pl, el, e2⟩ => ?_)
  subst el e2
  refine thn (po_none.run pins s2 σ H2 (fun o H3 => o = none ∧ H3 = H2) I2 ⟨rfl, rfl⟩) fun vu s3 ⟨u, H3, I3, pu, eu, e3⟩ => ?_
  subst eu e3
  refine thn (hst.run pins s3 σ H3 (fun o H4 => o = some (-1) ∧ H4 = H3) I3 ⟨1, rfl, -1, rfl, rfl, rfl⟩) fun vs s4 ⟨o, H4, I4, ps, eo, e4⟩ => ?_
  subst eo e4
  have I5 : Inv X pins σ H4 { s4 with heap := s4.heap.push { cls := .type "slice", data := .fields #[vl, vu, vs] } } := I4.kept (t' := s4.toks) fun b ob q => Heap.get?_push_of_some _ q
  obtain ⟨its, r, ht, hz⟩ := I5.tuple hx
  have hlen := r.length
  show wpAny (model X.prog X.w) X.A (subscriptTail e (.Slice none none (some (.UnaryOp .USub (.Constant (.int 1) k p1) p2)) p3) (.ref a) (.ref s4.heap.objs.size)) (EP X pins σ Q) X.xe { s4 with heap := s4.heap.push { cls := .type "slice", data := .fields #[vl, vu, vs] } }
  refine tail_any (ops := [.ref a, .ref s4.heap.objs.size]) ht.typeIs (PyProof.Rows.slot_tuple_getitem.lookup) ?_ (by with_unfolding_all rfl)
  have hz' : xs.length ≤ sizeLine := hz
  refine getItem_tuple_rev ht (Heap.IsSliceOf.new _ vl vu vs) pl pu ps ?_ (by rw [List.size_toArray]; omega)
  refine ⟨.ref _, _, I5.laid (t' := s4.toks) (o := .tup xs.reverse) (fun b ob q => Heap.get?_push_of_some _ q) (Nat.le_refl _) ?_, rfl, q _ (I5.hok.fresh (Nat.le_refl _))⟩
  exact ⟨by rw [List.length_reverse]; exact hz', its.reverse, r.reverse, ⟨_, Heap.get?_push_size _ rfl, rfl, _, rfl⟩⟩
theorem RpL.rev {K : PySem.W.Frag} {α : Locs} {H : Hp} : ∀ {ds : List D} {vs : List V}, RpL K α H vs ds → RpL K α H vs.reverse ds.reverse
  | [], vs, h => by cases (show vs = [] from h); exact rfl
  | d :: ds, vs, ⟨v, r, e, h1, h2⟩ => by
    subst e
    rw [List.reverse_cons, List.reverse_cons]
    exact RpL.append h2.rev (RpL.one h1)
def dRevT (t : DT) : DT := fun ρ S Q => t ρ S fun d S1 => onTup d fun ds => Q (.tup ds.reverse) S1
theorem de_revT {e : Expr} {t : DT} {k : Nat} {p1 p2 p3 pos : Pos} (he : DE X e t) : DE X (.Subscript e (.Slice none none (some (.UnaryOp .USub (.Constant (.int 1) k p1) p2)) p3) pos) (dRevT t) := by
  obtain ⟨⟨t1, h1, h2⟩⟩ := he
  refine ⟨_, pe_revT h1, fun α ρ S σ H Q Q' so ro q k => ?_⟩
  refine h2 α ρ S σ H _ _ so ro q fun v H1 α1 d S1 t1 so1 r1 q1 => ?_
  cases d with
  | tup ds =>
    obtain ⟨a, xs, e, ht, hr⟩ := r1
    refine ⟨a, xs, e, ht.sq, fun p hp => ?_⟩
    obtain ⟨t2, so2, r2⟩ := new_tup so1 hr.rev hp
    exact k _ _ _ _ _ (t1.trans t2) so2 r2 q1
  | _ => exact q1.elim
/-- str(x) of an int or a text -/
def cdStr : CD := fun ds S Q => on1 ds fun d => match d with
  | .int i => i.natAbs.log2 < 1920 ∧ Q (.str (toString i)) S
  | .str a => Q (.str a) S
  | _ => False
theorem cd_str : CallD X (.type "str") cdStr := by
  refine ⟨_, call_str_int.or SkE.call_str_str, fun α S H xs vs Q Q' so r h k => ?_⟩
  obtain ⟨d, v, rfl, rfl, rv, h⟩ := on1.rp r h
  cases d with
  | int i =>
    cases (show v = .int i from rv)
    exact Or.inl ⟨i, rfl, h.1, k.str so h.2⟩
  | str a =>
    cases (show v = .str a from rv)
    exact Or.inr ⟨a, rfl, k.str so h⟩
  | _ => exact h.elim
end
end DL

/-! the facts of the text, from what the head says -/
namespace DL
open PySem L2
theorem ns_list {z : Str} : ∀ {es : List DictEntry} {tab : List (Str × D)}, Paired (fun (e : DictEntry) (p : Str × D) => ∃ t, e.key = .str p.1 t ∧ ∃ v, RelV v e.val ∧ ∀ K α H, Rp K α H v p.2) es tab →
    (es.any (·.refKey) = false) ∧ match tab.lookup z with
      | none => es.find? (·.key.isStr z) = none
      | some d => ∃ e v, es.find? (·.key.isStr z) = some e ∧ RelV v e.val ∧ ∀ K α H, Rp K α H v d
  | _, _, .nil => ⟨rfl, rfl⟩
  | e :: r, (x, d) :: tab, .cons h p => by
    obtain ⟨t, hk, v, hv, hr⟩ := h
    obtain ⟨h1, h2⟩ := ns_list (z := z) p
    have hk : e.key = .str x t := hk
    have hs : e.key.isStr z = (x == z) := by rw [hk]; rfl
    have hf : e.refKey = false := by unfold DictEntry.refKey; rw [hk]
    refine ⟨by rw [List.any_cons, hf, h1]; rfl, ?_⟩
    by_cases hz : z = x
    · subst hz
      rw [List.lookup_cons_self, List.find?_cons, hs, beq_self_eq_true]
      exact ⟨e, v, rfl, hv, hr⟩
    · have e1 : (z == x) = false := beq_eq_false_iff_ne.mpr hz
      have e2 : (x == z) = false := beq_eq_false_iff_ne.mpr (fun e => hz e.symm)
      rw [List.lookup_cons, e1, List.find?_cons, hs, e2]
      exact h2
theorem ktab_of {K : PySem.W.Frag} {w : World} {a : Addr} {es : Array DictEntry} {n : Nat} {tab : List (Str × D)} (l : K.lookup a = some ⟨.type "dict", none, .dict es n, #[]⟩) (kl : PySem.W.KeysLit w.params es.toList) (low : (a == sysModules) = false)
    (h : Paired (fun (e : DictEntry) (p : Str × D) => ∃ t, e.key = .str p.1 t ∧ ∃ v, RelV v e.val ∧ ∀ K α H, Rp K α H v p.2) es.toList tab) : KTab K w a tab := by
  refine ⟨es, n, ⟨l, kl, low⟩, fun z => ?_⟩
  obtain ⟨h1, h2⟩ := ns_list (z := z) h
  unfold PySem.W.nsIn
  rw [l]
  show ∃ r, (match es.toList.find? (·.key.isStr z) with | some e => some (some e.val) | none => if es.toList.any (·.refKey) then none else some none) = some r ∧ _
  cases e : tab.lookup z with
  | none =>
    rw [e] at h2
    rw [show es.toList.find? (·.key.isStr z) = none from h2]
    exact ⟨none, by show (if es.toList.any (·.refKey) then none else some none) = some none; rw [h1]; rfl, rfl⟩
  | some d =>
    rw [e] at h2
    obtain ⟨e', v, q1, q2, q3⟩ := h2
    rw [q1]
    exact ⟨_, rfl, _, v, rfl, q2, fun α H => q3 K α H⟩
def KP (e : DictEntry) (p : Str × D) : Prop := ∃ t, e.key = .str p.1 t ∧ ∃ v, RelV v e.val ∧ ∀ K α H, Rp K α H v p.2
theorem kp_str {e : DictEntry} {x s : Str} {t u : Tok} {r : List DictEntry} {tab : List (Str × D)} (hk : e.key = .str x t) (hv : e.val = .str s u) (p : Paired KP r tab) : Paired KP (e :: r) ((x, .str s) :: tab) :=
  .cons ⟨t, hk, .str s, ⟨u, hv⟩, fun _ _ _ => rfl⟩ p
theorem kp_cst {e : DictEntry} {x : Str} {q : Addr} {t : Tok} {r : List DictEntry} {tab : List (Str × D)} (hk : e.key = .str x t) (hv : e.val = .ref q) (p : Paired KP r tab) : Paired KP (e :: r) ((x, .cst q) :: tab) :=
  .cons ⟨t, hk, .ref q, hv, fun _ _ _ => rfl⟩ p
theorem ctup2 {K : PySem.W.Frag} {q : Addr} {o : Obj} {i j : Int} {t u : Value} {n : Nat} {its : Array Value} (l : K.lookup q = some o) (c : o.cls = .type "tuple") (d : o.data = .seq its n) (e : its.toList = [t, u]) (h1 : RelV (.int i) t) (h2 : RelV (.int j) u) : CTup K q [.int i, .int j] := by
  have hs : its.size = 2 := by rw [← Array.length_toList, e]; rfl
  exact ⟨[.int i, .int j], ⟨o, its, n, l, c, d, by rw [hs]; decide, by rw [e]; exact .cons h1 (.cons h2 .nil)⟩, fun α H => ⟨_, _, rfl, rfl, _, _, rfl, rfl, rfl⟩⟩
end DL

/-! the head by one run of the kernel: what is looked at behind the top (facts of the text as one Bool, the defs, the dicts with text keys) -/
namespace KH
open PySem PySem.Spec PyProof.Rows L2 DL He
/-! ### the part of the heap that the facts speak of -/
def refsK (o : Obj) : List Addr := match o.data with
  | .seq its _ => its.toList.flatMap refV
  | .dict es _ => es.toList.flatMap fun e => refV e.val
  | .func fd => refV fd.code
  | .cls cd => [cd.ns]
  | .fields vs => vs.toList.flatMap refV
  | _ => []
def walkA (g : Addr → Option Obj) : Nat → List Addr → List Addr
  | 0, f => f
  | n + 1, f => f ++ walkA g n (f.flatMap fun a => match g a with
    | some o => refsK o
    | none => [])
def fragK (g : Addr → Option Obj) : PySem.W.Frag := frG g (cStatics :: walkA g 5 [mainGlobals])
/-! ### where a def stands -/
inductive Wh where
  | g (x : Str)
  | m (C m : Str)
  | c (C m : Str)
def clsRec (K : PySem.W.Frag) (C : Addr) (m : Str) : Addr := match PySem.W.findCls K (.ref C) (.type "type") m with
  | some (.get _ (.ref p) _ _) => p
  | _ => 0
def recAt (K : PySem.W.Frag) (p : Addr) : Addr := match PySem.W.recIn K p "classmethod" with
  | some (.ref f :: _) => f
  | _ => 0
def recRest (K : PySem.W.Frag) (p : Addr) : List Value := match PySem.W.recIn K p "classmethod" with
  | some (_ :: r) => r
  | _ => []
def Wh.ad (K : PySem.W.Frag) : Wh → Addr
  | .g y => ga K y
  | .m C f => ma K (ga K C) f
  | .c C f => recAt K (clsRec K (ga K C) f)
structure Df where
  at_ : Wh
  name : Str
  qual : Str
  st : Stmt
def Df.val (d : Df) : FnV := some (d.name, d.qual, defArgs d.st, .stmts (defBody d.st), defScope d.st, mainGlobals, [], .none, builtinsNs)
def fnA (K : PySem.W.Frag) (a : Addr) : FnV := match K.lookup a with
  | some ⟨_, _, .func fd, _⟩ => some (fd.name, fd.qualname, fd.params, fd.body, fd.scope, fd.globals, fd.closure, fd.defaults, fd.builtins)
  | _ => none
def codeA (K : PySem.W.Frag) (a : Addr) (q : Str) : Bool := match K.lookup a with
  | some ⟨_, _, .func fd, _⟩ => PySem.W.codeIn K fd.code q && PySem.W.keepIn K (.ref a)
  | _ => false
theorem fun_of {K : PySem.W.Frag} {a : Addr} {d : Df} (e : fnA K a = d.val) (c : codeA K a d.qual = true) : ∃ fd, Fun K d.name d.qual d.st a fd := by
  unfold fnA at e
  unfold codeA at c
  split at e
  · rename_i oc od fd osl q
    rw [q] at c
    obtain ⟨c1, c2⟩ := ba c
    obtain ⟨n1, n2, n3, n4, n5, n6, n7, n8, n9, n10, n11, n12, n13, n14, n15⟩ := fd
    unfold Df.val at e
    simp only [Option.some.injEq, Prod.mk.injEq] at e
    obtain ⟨h1, h2, h3, h4, h5, h6, h7, h8, h9⟩ := e
    subst h1 h2 h3 h4 h5 h6 h7 h8 h9
    exact ⟨_, ⟨⟨oc, od, n9, n10, n11, n12, n13, n14, osl, rfl, q, c1⟩, c2⟩⟩
  · cases e
/-! ### the Hook -/
structure Cfg where
  fn : List Df
  ts : List (Str × List Str)
  ex : PySem.W.Frag → Bool
abbrev AlK : Type := Bool × List FnV × List (Option (List (Option (Str × Int))))
def obsK (c : Cfg) (K : PySem.W.Frag) : AlK := (c.ex K && c.fn.all fun d => codeA K (d.at_.ad K) d.qual, c.fn.map fun d => fnA K (d.at_.ad K), c.ts.map fun t => dicW K (ga K t.1))
def valK (c : Cfg) (w : World) : AlK := (true, c.fn.map Df.val, c.ts.map fun t => some (keysIn w.params t.2))
def hookK (c : Cfg) : PySem.W.Hook where
  α := AlK
  obs := fun s => obsK c (fragK s.heap.get?)
  val := fun w => valK c w
  says := fun w h => ∃ K : PySem.W.Frag, K.In h ∧ obsK c K = valK c w
  of := fun _ _ e => ⟨_, frG_in, e⟩
  keeps := fun _ _ _ ⟨K, hK, c⟩ k => ⟨K, PySem.W.Frag.In.keeps hK k, c⟩
def obK (c : Cfg) (s : PySem.W.SharedT) : AlK := obsK c (fragK (HandSHeadRun.getT s))
theorem obK_eq (c : Cfg) (s : PySem.W.SharedT) : obK c s = (hookK c).obs s.abs := by
  have e : HandSHeadRun.getT s = s.abs.heap.get? := funext (HandSHeadRun.getT_eq s)
  show obsK c (fragK (HandSHeadRun.getT s)) = obsK c (fragK s.abs.heap.get?)
  rw [e]
section
variable {c : Cfg} {w : World} {K : PySem.W.Frag}
theorem says_ex (s : obsK c K = valK c w) : c.ex K = true := (ba (show (c.ex K && c.fn.all fun d => codeA K (d.at_.ad K) d.qual) = true from congrArg (fun z : AlK => z.1) s)).1
theorem says_fn (s : obsK c K = valK c w) (i : Nat) {d : Df} (h : c.fn[i]? = some d) : ∃ fd, Fun K d.name d.qual d.st (d.at_.ad K) fd := by
  have c2 := (ba (show (c.ex K && c.fn.all fun d => codeA K (d.at_.ad K) d.qual) = true from congrArg (fun z : AlK => z.1) s)).2
  have e : c.fn.map (fun d => fnA K (d.at_.ad K)) = c.fn.map Df.val := congrArg (fun z : AlK => z.2.1) s
  have e2 : (c.fn.map fun d => fnA K (d.at_.ad K))[i]? = (c.fn.map Df.val)[i]? := by rw [e]
  rw [List.getElem?_map, List.getElem?_map, h] at e2
  exact fun_of (Option.some.inj e2) (List.all_eq_true.mp c2 d (List.mem_of_getElem? h))
theorem says_tab (s : obsK c K = valK c w) (i : Nat) {t : Str × List Str} (h : c.ts[i]? = some t) : ∃ es n, KDict K w (ga K t.1) es n := by
  have e : c.ts.map (fun t => dicW K (ga K t.1)) = c.ts.map fun t => some (keysIn w.params t.2) := congrArg (fun z : AlK => z.2.2) s
  have e2 : (c.ts.map fun t => dicW K (ga K t.1))[i]? = (c.ts.map fun t => some (keysIn w.params t.2))[i]? := by rw [e]
  rw [List.getElem?_map, List.getElem?_map, h] at e2
  exact dicW_ok (Option.some.inj e2)
end
/-! ### facts as Bools -/
def intB (K : PySem.W.Frag) (x : Str) (i : Int) : Bool := match PySem.W.nsIn K mainGlobals x with
  | some (some (.int j _)) => decide (j = i)
  | _ => false
theorem intB_ok {K : PySem.W.Frag} {x : Str} {i : Int} (h : intB K x i = true) : ∃ t, PySem.W.nsIn K mainGlobals x = some (some (.int i t)) := by
  unfold intB at h
  split at h
  · rename_i j t q
    rw [q, of_decide_eq_true h]
    exact ⟨t, rfl⟩
  · cases h
def strB (K : PySem.W.Frag) (x z : Str) : Bool := match PySem.W.nsIn K mainGlobals x with
  | some (some (.str y _)) => decide (y = z)
  | _ => false
theorem strB_ok {K : PySem.W.Frag} {x z : Str} (h : strB K x z = true) : ∃ t, PySem.W.nsIn K mainGlobals x = some (some (.str z t)) := by
  unfold strB at h
  split at h
  · rename_i j t q
    rw [q, of_decide_eq_true h]
    exact ⟨t, rfl⟩
  · cases h
def clsValB (K : PySem.W.Frag) (C : Addr) (m : Str) (v : V) : Bool := match PySem.W.findCls K (.ref C) (.type "type") m with
  | some (.val u) => relB v u
  | _ => false
theorem clsValB_ok {K : PySem.W.Frag} {C : Addr} {m : Str} {v : V} (h : clsValB K C m v = true) : ∃ u, PySem.W.findCls K (.ref C) (.type "type") m = some (.val u) ∧ RelV v u := by
  unfold clsValB at h
  split at h
  · rename_i u q
    exact ⟨u, q, relB_ok h⟩
  · cases h
def cmB (K : PySem.W.Frag) (C : Addr) (m : Str) : Bool := match PySem.W.findCls K (.ref C) (.type "type") m with
  | some (.get (.builtin "classmethod.__get__") (.ref p) .none (.ref C')) => decide (C' = C) && (match PySem.W.recIn K p "classmethod" with
    | some (.ref _ :: _) => true
    | _ => false)
  | _ => false
theorem cmB_ok {K : PySem.W.Frag} {C : Addr} {m : Str} (h : cmB K C m = true) : PySem.W.findCls K (.ref C) (.type "type") m = some (.get (.builtin "classmethod.__get__") (.ref (clsRec K C m)) .none (.ref C)) ∧ PySem.W.recIn K (clsRec K C m) "classmethod" = some (.ref (recAt K (clsRec K C m)) :: recRest K (clsRec K C m)) := by
  unfold cmB at h
  split at h
  · rename_i p C' q
    obtain ⟨h1, h2⟩ := ba h
    have e : clsRec K C m = p := by unfold clsRec; rw [q]
    rw [e, q, of_decide_eq_true h1]
    refine ⟨rfl, ?_⟩
    split at h2
    · rename_i f r q2
      unfold recAt recRest
      rw [q2]
    · cases h2
  · cases h
/-- a dict with text keys: its values -/
inductive Tv where
  | s (x : Str)
  | q (i : Nat)
def valAt (K : PySem.W.Frag) (a : Addr) (i : Nat) : Addr := match K.lookup a with
  | some ⟨_, _, .dict es _, _⟩ => (match es.toList[i]? with
    | some ⟨_, _, .ref p⟩ => p
    | _ => 0)
  | _ => 0
def Tv.d (K : PySem.W.Frag) (a : Addr) : Tv → D
  | .s x => .str x
  | .q i => .cst (valAt K a i)
def tvB (K : PySem.W.Frag) (a : Addr) : List DictEntry → List (Str × Tv) → Bool
  | [], [] => true
  | e :: r, (x, t) :: tab => (match e.key, e.val, t with
    | .str y _, .str z _, .s z' => decide (y = x) && decide (z = z')
    | .str y _, .ref p, .q i => decide (y = x) && decide (p = valAt K a i)
    | _, _, _ => false) && tvB K a r tab
  | _, _ => false
theorem tvB_ok {K : PySem.W.Frag} {a : Addr} : ∀ {es : List DictEntry} {tab : List (Str × Tv)}, tvB K a es tab = true → Paired KP es (tab.map fun p => (p.1, p.2.d K a))
  | [], [], _ => .nil
  | e :: r, (x, t) :: tab, h => by
    obtain ⟨h1, h2⟩ := ba (show (_ && tvB K a r tab) = true from h)
    have ih := tvB_ok h2
    split at h1
    · rename_i y t1 z t2 z' q1 q2
      obtain ⟨h3, h4⟩ := ba h1
      have h3 := of_decide_eq_true h3
      have h4 := of_decide_eq_true h4
      subst h3; subst h4
      exact kp_str q1 q2 ih
    · rename_i y t1 p i q1 q2
      obtain ⟨h3, h4⟩ := ba h1
      have h3 := of_decide_eq_true h3
      have h4 := of_decide_eq_true h4
      subst h3
      exact kp_cst q1 (by rw [q2, h4]) ih
    · cases h1
  | [], _ :: _, h => by cases h
  | _ :: _, [], h => by cases h
def tabB (K : PySem.W.Frag) (a : Addr) (tab : List (Str × Tv)) : Bool := match K.lookup a with
  | some ⟨_, _, .dict es _, _⟩ => tvB K a es.toList tab
  | _ => false
theorem tab_of {K : PySem.W.Frag} {w : World} {a : Addr} {tab : List (Str × Tv)} (k : ∃ es n, KDict K w a es n) (h : tabB K a tab = true) : KTab K w a (tab.map fun p => (p.1, p.2.d K a)) := by
  obtain ⟨es, n, ⟨l, kl, low⟩⟩ := k
  unfold tabB at h
  rw [l] at h
  exact ktab_of l kl low (tvB_ok h)
/-- a tuple of two ints -/
def tup2B (K : PySem.W.Frag) (a : Addr) (i j : Int) : Bool := match K.lookup a with
  | some ⟨.type c, _, .seq its _, _⟩ => decide (c = "tuple") && (match its.toList with
    | [.int x _, .int y _] => decide (x = i) && decide (y = j)
    | _ => false)
  | _ => false
theorem tup2B_ok {K : PySem.W.Frag} {a : Addr} {i j : Int} (h : tup2B K a i j = true) : CTup K a [.int i, .int j] := by
  unfold tup2B at h
  split at h
  · rename_i c od its n sl q
    obtain ⟨h1, h2⟩ := ba h
    split at h2
    · rename_i x t1 y t2 q2
      obtain ⟨h3, h4⟩ := ba h2
      have h1 := of_decide_eq_true h1
      have h3 := of_decide_eq_true h3
      have h4 := of_decide_eq_true h4
      subst h1; subst h3; subst h4
      exact ctup2 q rfl rfl q2 ⟨_, rfl⟩ ⟨_, rfl⟩
    · cases h2
  · cases h
end KH

namespace K
open PySem L2 DL
def top (i : Nat) : Stmt := PySem.Challenge.pw_farmirrors_k02_floors.main.body.getD i (.Pass ⟨0, 0, 0, 0⟩)
abbrev s__law_source : Stmt := top 15
/-- _law_source -/
theorem sc__law_source : FnScope ["_law_script", "_law_index", "_law_cell"] ["_law_script", "_law_index"] (defScope s__law_source) := ⟨rfl, rfl, rfl, by decide +kernel, rfl, by decide +kernel, by decide +kernel⟩
abbrev s__law_draw : Stmt := top 16
/-- _law_draw -/
theorem sc__law_draw : FnScope ["_law_source_here", "_law_bound", "_law_mixed", "_law_digit"] ["_law_source_here", "_law_bound"] (defScope s__law_draw) := ⟨rfl, rfl, rfl, by decide +kernel, rfl, by decide +kernel, by decide +kernel⟩
abbrev s__law_drawn_size : Stmt := top 18
/-- _law_drawn_size -/
theorem sc__law_drawn_size : FnScope ["_law_source_here", "_law_most", "_law_way", "_law_width", "_law_height", "_law_unit"] ["_law_source_here", "_law_most"] (defScope s__law_drawn_size) := ⟨rfl, rfl, rfl, by decide +kernel, rfl, by decide +kernel, by decide +kernel⟩
abbrev s__law_shut_point : Stmt := top 19
/-- _law_shut_point -/
theorem sc__law_shut_point : FnScope ["_law_source_here", "_law_size", "_law_width", "_law_height"] ["_law_source_here", "_law_size"] (defScope s__law_shut_point) := ⟨rfl, rfl, rfl, by decide +kernel, rfl, by decide +kernel, by decide +kernel⟩
abbrev s__law_drawn_things : Stmt := top 20
/-- _law_drawn_things -/
theorem sc__law_drawn_things : FnScope ["_law_source_here", "_law_size", "_law_most", "_law_doors", "_law_width", "_law_height", "_law_found", "_law_taken", "_law_number", "_law_way", "_law_x", "_law_y", "_law_kind", "_law_inner", "_law_far"] ["_law_source_here", "_law_size", "_law_most", "_law_doors"] (defScope s__law_drawn_things) := ⟨rfl, rfl, rfl, by decide +kernel, rfl, by decide +kernel, by decide +kernel⟩
abbrev s_shown_text : Stmt := top 13
/-- shown_text -/
theorem sc_shown_text : FnScope ["width", "height", "things", "text", "x", "y", "kind"] ["width", "height", "things"] (defScope s_shown_text) := ⟨rfl, rfl, rfl, by decide +kernel, rfl, by decide +kernel, by decide +kernel⟩
abbrev s_Floor_is_point : Stmt := inClass (top 12) 3
/-- Floor.is_point -/
theorem sc_Floor_is_point : FnScope ["self", "x", "y"] ["self", "x", "y"] (defScope s_Floor_is_point) := ⟨rfl, rfl, rfl, by decide +kernel, rfl, by decide +kernel, by decide +kernel⟩
abbrev s_Floor_is_inner : Stmt := inClass (top 12) 4
/-- Floor.is_inner -/
theorem sc_Floor_is_inner : FnScope ["self", "x", "y"] ["self", "x", "y"] (defScope s_Floor_is_inner) := ⟨rfl, rfl, rfl, by decide +kernel, rfl, by decide +kernel, by decide +kernel⟩
abbrev s_Floor_may_stand : Stmt := inClass (top 12) 5
/-- Floor.may_stand -/
theorem sc_Floor_may_stand : FnScope ["self", "x", "y", "kind"] ["self", "x", "y", "kind"] (defScope s_Floor_may_stand) := ⟨rfl, rfl, rfl, by decide +kernel, rfl, by decide +kernel, by decide +kernel⟩
abbrev s_Floor___init__ : Stmt := inClass (top 12) 1
/-- Floor.__init__ -/
theorem sc_Floor___init__ : FnScope ["self", "width", "height", "things", "index", "x", "y", "kind"] ["self", "width", "height", "things"] (defScope s_Floor___init__) := ⟨rfl, rfl, rfl, by decide +kernel, rfl, by decide +kernel, by decide +kernel⟩
abbrev s_Floor_of : Stmt := inClass (top 12) 2
/-- Floor.of -/
theorem sc_Floor_of : FnScope ["cls", "width", "height", "things"] ["cls", "width", "height", "things"] (defScope s_Floor_of) := ⟨rfl, rfl, rfl, by decide +kernel, rfl, by decide +kernel, by decide +kernel⟩
abbrev s_Floor_number_at : Stmt := inClass (top 12) 6
/-- Floor.number_at -/
theorem sc_Floor_number_at : FnScope ["self", "x", "y"] ["self", "x", "y"] (defScope s_Floor_number_at) := ⟨rfl, rfl, rfl, by decide +kernel, rfl, by decide +kernel, by decide +kernel⟩
abbrev s_Floor_with_thing : Stmt := inClass (top 12) 8
/-- Floor.with_thing -/
theorem sc_Floor_with_thing : FnScope ["self", "x", "y", "kind"] ["self", "x", "y", "kind"] (defScope s_Floor_with_thing) := ⟨rfl, rfl, rfl, by decide +kernel, rfl, by decide +kernel, by decide +kernel⟩
abbrev s_Floor_without : Stmt := inClass (top 12) 9
/-- Floor.without -/
theorem sc_Floor_without : FnScope ["self", "number", "things"] ["self", "number"] (defScope s_Floor_without) := ⟨rfl, rfl, rfl, by decide +kernel, rfl, by decide +kernel, by decide +kernel⟩
abbrev s_Floor_turned : Stmt := inClass (top 12) 10
/-- Floor.turned -/
theorem sc_Floor_turned : FnScope ["self", "number", "x", "y", "kind", "things"] ["self", "number"] (defScope s_Floor_turned) := ⟨rfl, rfl, rfl, by decide +kernel, rfl, by decide +kernel, by decide +kernel⟩
abbrev s_Floor___eq__ : Stmt := inClass (top 12) 11
/-- Floor.__eq__ -/
theorem sc_Floor___eq__ : FnScope ["self", "other"] ["self", "other"] (defScope s_Floor___eq__) := ⟨rfl, rfl, rfl, by decide +kernel, rfl, by decide +kernel, by decide +kernel⟩
abbrev s_Floor___len__ : Stmt := inClass (top 12) 12
/-- Floor.__len__ -/
theorem sc_Floor___len__ : FnScope ["self"] ["self"] (defScope s_Floor___len__) := ⟨rfl, rfl, rfl, by decide +kernel, rfl, by decide +kernel, by decide +kernel⟩
abbrev s_Floor___repr__ : Stmt := inClass (top 12) 13
/-- Floor.__repr__ -/
theorem sc_Floor___repr__ : FnScope ["self"] ["self"] (defScope s_Floor___repr__) := ⟨rfl, rfl, rfl, by decide +kernel, rfl, by decide +kernel, by decide +kernel⟩
abbrev s__law_same : Stmt := top 22
/-- _law_same -/
theorem sc__law_same : FnScope ["_law_floor", "_law_size", "_law_things", "_law_shown", "_law_x", "_law_y", "_law_kind"] ["_law_floor", "_law_size", "_law_things"] (defScope s__law_same) := ⟨rfl, rfl, rfl, by decide +kernel, rfl, by decide +kernel, by decide +kernel⟩
abbrev s__law_points_right : Stmt := top 23
/-- _law_points_right -/
theorem sc__law_points_right : FnScope ["_law_source_here", "_law_floor", "_law_size", "_law_things", "_law_spots", "_law_x", "_law_y", "_law_number", "_law_inside", "_law_inner", "_law_due", "_law_kind"] ["_law_source_here", "_law_floor", "_law_size", "_law_things"] (defScope s__law_points_right) := ⟨rfl, rfl, rfl, by decide +kernel, rfl, by decide +kernel, by decide +kernel⟩
abbrev s__law_changes_right : Stmt := top 24
/-- _law_changes_right -/
theorem sc__law_changes_right : FnScope ["_law_source_here", "_law_floor", "_law_size", "_law_things", "_law_number", "_law_x", "_law_y", "_law_kind", "_law_less", "_law_turned"] ["_law_source_here", "_law_floor", "_law_size", "_law_things"] (defScope s__law_changes_right) := ⟨rfl, rfl, rfl, by decide +kernel, rfl, by decide +kernel, by decide +kernel⟩
abbrev s_law : Stmt := top 25
/-- law -/
theorem sc_law : FnScope ["_law_script", "_law_index", "_law_source_here", "_law_size", "_law_things", "_law_floor", "_law_other", "_law_one", "_law_t", "_law_due", "_law_again", "_law_many"] ["_law_script"] (defScope s_law) := ⟨rfl, rfl, rfl, by decide +kernel, rfl, by decide +kernel, by decide +kernel⟩
structure Ads where
  a_Floor : Addr
  a_law_source : Addr
  a_law_draw : Addr
  a_law_drawn_size : Addr
  a_law_shut_point : Addr
  a_law_drawn_things : Addr
  a_shown_text : Addr
  a_Floor_is_point : Addr
  a_Floor_is_inner : Addr
  a_Floor_may_stand : Addr
  a_Floor___init__ : Addr
  a_Floor_of : Addr
  a_Floor_number_at : Addr
  a_Floor_with_thing : Addr
  a_Floor_without : Addr
  a_Floor_turned : Addr
  a_Floor___eq__ : Addr
  a_Floor___len__ : Addr
  a_Floor___repr__ : Addr
  a_law_same : Addr
  a_law_points_right : Addr
  a_law_changes_right : Addr
  a_law : Addr
  p_Floor_of : Addr
  a_OTHER_KIND : Addr
structure Fds where
  a_law_source : FuncData
  a_law_draw : FuncData
  a_law_drawn_size : FuncData
  a_law_shut_point : FuncData
  a_law_drawn_things : FuncData
  a_shown_text : FuncData
  a_Floor_is_point : FuncData
  a_Floor_is_inner : FuncData
  a_Floor_may_stand : FuncData
  a_Floor___init__ : FuncData
  a_Floor_of : FuncData
  a_Floor_number_at : FuncData
  a_Floor_with_thing : FuncData
  a_Floor_without : FuncData
  a_Floor_turned : FuncData
  a_Floor___eq__ : FuncData
  a_Floor___len__ : FuncData
  a_Floor___repr__ : FuncData
  a_law_same : FuncData
  a_law_points_right : FuncData
  a_law_changes_right : FuncData
  a_law : FuncData
structure Txt (w : World) (K : PySem.W.Frag) (mg : Str → Option Value) (A : Ads) (B : Fds) : Prop where
  z_abs : mg "abs" = none
  z_len : mg "len" = none
  z_max : mg "max" = none
  z_min : mg "min" = none
  z_range : mg "range" = none
  z_tuple : mg "tuple" = none
  z_list : mg "list" = none
  z_enumerate : mg "enumerate" = none
  z_repr : mg "repr" = none
  z_isinstance : mg "isinstance" = none
  z_str : mg "str" = none
  F__law_source : Fun K "_law_source" "_law_source" s__law_source A.a_law_source B.a_law_source
  b__law_source : Binds K B.a_law_source ["_law_script", "_law_index"] []
  g__law_source : mg "_law_source" = some (.ref A.a_law_source)
  k__law_source : PySem.W.keepIn K (.ref A.a_law_source) = true
  F__law_draw : Fun K "_law_draw" "_law_draw" s__law_draw A.a_law_draw B.a_law_draw
  b__law_draw : Binds K B.a_law_draw ["_law_source_here", "_law_bound"] []
  g__law_draw : mg "_law_draw" = some (.ref A.a_law_draw)
  k__law_draw : PySem.W.keepIn K (.ref A.a_law_draw) = true
  F__law_drawn_size : Fun K "_law_drawn_size" "_law_drawn_size" s__law_drawn_size A.a_law_drawn_size B.a_law_drawn_size
  b__law_drawn_size : Binds K B.a_law_drawn_size ["_law_source_here", "_law_most"] []
  g__law_drawn_size : mg "_law_drawn_size" = some (.ref A.a_law_drawn_size)
  k__law_drawn_size : PySem.W.keepIn K (.ref A.a_law_drawn_size) = true
  F__law_shut_point : Fun K "_law_shut_point" "_law_shut_point" s__law_shut_point A.a_law_shut_point B.a_law_shut_point
  b__law_shut_point : Binds K B.a_law_shut_point ["_law_source_here", "_law_size"] []
  g__law_shut_point : mg "_law_shut_point" = some (.ref A.a_law_shut_point)
  k__law_shut_point : PySem.W.keepIn K (.ref A.a_law_shut_point) = true
  F__law_drawn_things : Fun K "_law_drawn_things" "_law_drawn_things" s__law_drawn_things A.a_law_drawn_things B.a_law_drawn_things
  b__law_drawn_things : Binds K B.a_law_drawn_things ["_law_source_here", "_law_size", "_law_most", "_law_doors"] []
  g__law_drawn_things : mg "_law_drawn_things" = some (.ref A.a_law_drawn_things)
  k__law_drawn_things : PySem.W.keepIn K (.ref A.a_law_drawn_things) = true
  F_shown_text : Fun K "shown_text" "shown_text" s_shown_text A.a_shown_text B.a_shown_text
  b_shown_text : Binds K B.a_shown_text ["width", "height", "things"] []
  g_shown_text : mg "shown_text" = some (.ref A.a_shown_text)
  k_shown_text : PySem.W.keepIn K (.ref A.a_shown_text) = true
  F_Floor_is_point : Fun K "is_point" "Floor.is_point" s_Floor_is_point A.a_Floor_is_point B.a_Floor_is_point
  b_Floor_is_point : Binds K B.a_Floor_is_point ["self", "x", "y"] []
  m_Floor_is_point : Meth K A.a_Floor "is_point" A.a_Floor_is_point
  F_Floor_is_inner : Fun K "is_inner" "Floor.is_inner" s_Floor_is_inner A.a_Floor_is_inner B.a_Floor_is_inner
  b_Floor_is_inner : Binds K B.a_Floor_is_inner ["self", "x", "y"] []
  m_Floor_is_inner : Meth K A.a_Floor "is_inner" A.a_Floor_is_inner
  F_Floor_may_stand : Fun K "may_stand" "Floor.may_stand" s_Floor_may_stand A.a_Floor_may_stand B.a_Floor_may_stand
  b_Floor_may_stand : Binds K B.a_Floor_may_stand ["self", "x", "y", "kind"] []
  m_Floor_may_stand : Meth K A.a_Floor "may_stand" A.a_Floor_may_stand
  F_Floor___init__ : Fun K "__init__" "Floor.__init__" s_Floor___init__ A.a_Floor___init__ B.a_Floor___init__
  F_Floor_of : Fun K "of" "Floor.of" s_Floor_of A.a_Floor_of B.a_Floor_of
  b_Floor_of : Binds K B.a_Floor_of ["cls", "width", "height", "things"] []
  cm_Floor_of : ClX.CMet K A.a_Floor (.type "type") "of" A.p_Floor_of A.a_Floor_of
  F_Floor_number_at : Fun K "number_at" "Floor.number_at" s_Floor_number_at A.a_Floor_number_at B.a_Floor_number_at
  b_Floor_number_at : Binds K B.a_Floor_number_at ["self", "x", "y"] []
  m_Floor_number_at : Meth K A.a_Floor "number_at" A.a_Floor_number_at
  F_Floor_with_thing : Fun K "with_thing" "Floor.with_thing" s_Floor_with_thing A.a_Floor_with_thing B.a_Floor_with_thing
  b_Floor_with_thing : Binds K B.a_Floor_with_thing ["self", "x", "y", "kind"] []
  m_Floor_with_thing : Meth K A.a_Floor "with_thing" A.a_Floor_with_thing
  F_Floor_without : Fun K "without" "Floor.without" s_Floor_without A.a_Floor_without B.a_Floor_without
  b_Floor_without : Binds K B.a_Floor_without ["self", "number"] []
  m_Floor_without : Meth K A.a_Floor "without" A.a_Floor_without
  F_Floor_turned : Fun K "turned" "Floor.turned" s_Floor_turned A.a_Floor_turned B.a_Floor_turned
  b_Floor_turned : Binds K B.a_Floor_turned ["self", "number"] []
  m_Floor_turned : Meth K A.a_Floor "turned" A.a_Floor_turned
  F_Floor___eq__ : Fun K "__eq__" "Floor.__eq__" s_Floor___eq__ A.a_Floor___eq__ B.a_Floor___eq__
  b_Floor___eq__ : Binds K B.a_Floor___eq__ ["self", "other"] []
  m_Floor___eq__ : Meth K A.a_Floor "__eq__" A.a_Floor___eq__
  F_Floor___len__ : Fun K "__len__" "Floor.__len__" s_Floor___len__ A.a_Floor___len__ B.a_Floor___len__
  b_Floor___len__ : Binds K B.a_Floor___len__ ["self"] []
  m_Floor___len__ : Meth K A.a_Floor "__len__" A.a_Floor___len__
  F_Floor___repr__ : Fun K "__repr__" "Floor.__repr__" s_Floor___repr__ A.a_Floor___repr__ B.a_Floor___repr__
  b_Floor___repr__ : Binds K B.a_Floor___repr__ ["self"] []
  m_Floor___repr__ : Meth K A.a_Floor "__repr__" A.a_Floor___repr__
  F__law_same : Fun K "_law_same" "_law_same" s__law_same A.a_law_same B.a_law_same
  b__law_same : Binds K B.a_law_same ["_law_floor", "_law_size", "_law_things"] []
  g__law_same : mg "_law_same" = some (.ref A.a_law_same)
  k__law_same : PySem.W.keepIn K (.ref A.a_law_same) = true
  F__law_points_right : Fun K "_law_points_right" "_law_points_right" s__law_points_right A.a_law_points_right B.a_law_points_right
  b__law_points_right : Binds K B.a_law_points_right ["_law_source_here", "_law_floor", "_law_size", "_law_things"] []
  g__law_points_right : mg "_law_points_right" = some (.ref A.a_law_points_right)
  k__law_points_right : PySem.W.keepIn K (.ref A.a_law_points_right) = true
  F__law_changes_right : Fun K "_law_changes_right" "_law_changes_right" s__law_changes_right A.a_law_changes_right B.a_law_changes_right
  b__law_changes_right : Binds K B.a_law_changes_right ["_law_source_here", "_law_floor", "_law_size", "_law_things"] []
  g__law_changes_right : mg "_law_changes_right" = some (.ref A.a_law_changes_right)
  k__law_changes_right : PySem.W.keepIn K (.ref A.a_law_changes_right) = true
  F_law : Fun K "law" "law" s_law A.a_law B.a_law
  b_law : Binds K B.a_law ["_law_script"] []
  g_law : mg "law" = some (.ref A.a_law)
  k_law : PySem.W.keepIn K (.ref A.a_law) = true
  cl_Floor : Cls K A.a_Floor
  g_Floor : mg "Floor" = some (.ref A.a_Floor)
  mk_Floor : Mk K A.a_Floor A.a_Floor___init__
  cr_Floor : ClX.CRead K A.a_Floor (.type "type")
  oc_Floor : OwnC K A.a_Floor
  fc_Floor : FmtC K A.a_Floor
  ic_Floor : C8.InsC K A.a_Floor
  n_Floor_width : NoAttr K A.a_Floor "width"
  n_Floor_height : NoAttr K A.a_Floor "height"
  n_Floor_numbers : NoAttr K A.a_Floor "numbers"
  n_Floor_things : NoAttr K A.a_Floor "things"
  n_Floor_shown : NoAttr K A.a_Floor "shown"
  g_OTHER_KIND : mg "OTHER_KIND" = some (.ref A.a_OTHER_KIND)
  kt_OTHER_KIND : KTab K w A.a_OTHER_KIND [("|", .str "-"), ("-", .str "|")]
  g_MOST_SIZE : ∃ t, mg "MOST_SIZE" = some (.int 1000000000000000 t)
  g_DOOR : ∃ t, mg "DOOR" = some (.str "o" t)
  cv_Floor_MOST_THINGS : ∃ u, ClX.CVal K A.a_Floor (.type "type") "MOST_THINGS" (.int 40) u
end K

namespace K
open PySem L2 DL
def ex0 (K : PySem.W.Frag) : Bool :=
  decide (PySem.W.nsIn K PySem.mainGlobals "abs" = some none) && (
  decide (PySem.W.nsIn K PySem.mainGlobals "len" = some none) && (
  decide (PySem.W.nsIn K PySem.mainGlobals "max" = some none) && (
  decide (PySem.W.nsIn K PySem.mainGlobals "min" = some none) && (
  decide (PySem.W.nsIn K PySem.mainGlobals "range" = some none) && (
  decide (PySem.W.nsIn K PySem.mainGlobals "tuple" = some none) && (
  decide (PySem.W.nsIn K PySem.mainGlobals "list" = some none) && (
  decide (PySem.W.nsIn K PySem.mainGlobals "enumerate" = some none) && (
  decide (PySem.W.nsIn K PySem.mainGlobals "repr" = some none) && (
  decide (PySem.W.nsIn K PySem.mainGlobals "isinstance" = some none) && (
  decide (PySem.W.nsIn K PySem.mainGlobals "str" = some none) && (
  decide (PySem.W.nsIn K PySem.mainGlobals "Floor" = some (some (.ref (He.ga K "Floor")))) && (
  decide (PySem.W.nsIn K PySem.mainGlobals "_law_source" = some (some (.ref (He.ga K "_law_source")))) && (
  decide (PySem.W.nsIn K PySem.mainGlobals "_law_draw" = some (some (.ref (He.ga K "_law_draw")))) && (
  decide (PySem.W.nsIn K PySem.mainGlobals "_law_drawn_size" = some (some (.ref (He.ga K "_law_drawn_size")))) && (
  decide (PySem.W.nsIn K PySem.mainGlobals "_law_shut_point" = some (some (.ref (He.ga K "_law_shut_point")))) && (
  decide (PySem.W.nsIn K PySem.mainGlobals "_law_drawn_things" = some (some (.ref (He.ga K "_law_drawn_things")))) && (
  decide (PySem.W.nsIn K PySem.mainGlobals "shown_text" = some (some (.ref (He.ga K "shown_text")))) && (
  decide (PySem.W.findIn K (.ref (He.ga K "Floor")) "is_point" = some (some (.ref (He.ma K (He.ga K "Floor") "is_point")))) && (
  PySem.W.isFn K (.ref (He.ma K (He.ga K "Floor") "is_point")) && (
  decide (PySem.W.findIn K (.ref (He.ga K "Floor")) "is_inner" = some (some (.ref (He.ma K (He.ga K "Floor") "is_inner")))) && (
  PySem.W.isFn K (.ref (He.ma K (He.ga K "Floor") "is_inner")) && (
  decide (PySem.W.findIn K (.ref (He.ga K "Floor")) "may_stand" = some (some (.ref (He.ma K (He.ga K "Floor") "may_stand")))) && (
  PySem.W.isFn K (.ref (He.ma K (He.ga K "Floor") "may_stand")) && (
  decide (PySem.W.findIn K (.ref (He.ga K "Floor")) "__init__" = some (some (.ref (He.ma K (He.ga K "Floor") "__init__")))) && (
  PySem.W.isFn K (.ref (He.ma K (He.ga K "Floor") "__init__")) && (
  KH.cmB K (He.ga K "Floor") "of" && (
  PySem.W.fnIn K (KH.recAt K (KH.clsRec K (He.ga K "Floor") "of")) && (
  decide (PySem.W.findIn K (.ref (He.ga K "Floor")) "number_at" = some (some (.ref (He.ma K (He.ga K "Floor") "number_at")))) && (
  PySem.W.isFn K (.ref (He.ma K (He.ga K "Floor") "number_at")) && (
  decide (PySem.W.findIn K (.ref (He.ga K "Floor")) "with_thing" = some (some (.ref (He.ma K (He.ga K "Floor") "with_thing")))) && (
  PySem.W.isFn K (.ref (He.ma K (He.ga K "Floor") "with_thing")) && (
  decide (PySem.W.findIn K (.ref (He.ga K "Floor")) "without" = some (some (.ref (He.ma K (He.ga K "Floor") "without")))) && (
  PySem.W.isFn K (.ref (He.ma K (He.ga K "Floor") "without")) && (
  decide (PySem.W.findIn K (.ref (He.ga K "Floor")) "turned" = some (some (.ref (He.ma K (He.ga K "Floor") "turned")))) && (
  PySem.W.isFn K (.ref (He.ma K (He.ga K "Floor") "turned")) && (
  decide (PySem.W.findIn K (.ref (He.ga K "Floor")) "__eq__" = some (some (.ref (He.ma K (He.ga K "Floor") "__eq__")))) && (
  PySem.W.isFn K (.ref (He.ma K (He.ga K "Floor") "__eq__")) && (
  decide (PySem.W.findIn K (.ref (He.ga K "Floor")) "__len__" = some (some (.ref (He.ma K (He.ga K "Floor") "__len__")))) && (
  PySem.W.isFn K (.ref (He.ma K (He.ga K "Floor") "__len__")) && (
  decide (PySem.W.findIn K (.ref (He.ga K "Floor")) "__repr__" = some (some (.ref (He.ma K (He.ga K "Floor") "__repr__")))) && (
  PySem.W.isFn K (.ref (He.ma K (He.ga K "Floor") "__repr__")) && (
  decide (PySem.W.nsIn K PySem.mainGlobals "_law_same" = some (some (.ref (He.ga K "_law_same")))) && (
  decide (PySem.W.nsIn K PySem.mainGlobals "_law_points_right" = some (some (.ref (He.ga K "_law_points_right")))) && (
  decide (PySem.W.nsIn K PySem.mainGlobals "_law_changes_right" = some (some (.ref (He.ga K "_law_changes_right")))) && (
  decide (PySem.W.nsIn K PySem.mainGlobals "law" = some (some (.ref (He.ga K "law")))) && (
  PySem.W.plainGet K (He.ga K "Floor") PySem.Str.empty && (
  PySem.W.hasDictIn K (He.ga K "Floor") && (
  PySem.W.plainOver K (He.ga K "Floor") && (
  decide (PySem.W.findIn K (.ref (He.ga K "Floor")) "__setattr__" = some (some (.builtin "object.__setattr__"))) && (
  PySem.W.makesIn K (He.ga K "Floor") && (
  PySem.W.keepIn K (.ref (He.ga K "Floor")) && (
  decide (PySem.W.findIn K (.ref (He.ga K "Floor")) "__class__" = some (some (.builtin "object.__class__"))) && (
  decide (PySem.W.specialIn K (.builtin "object.__class__") "__get__" = some (some (.builtin "getset_descriptor.__get__"))) && (
  decide (PySem.W.takesIn K (.builtin "object.__class__") = some true) && (
  decide (PySem.W.mroIn K (He.ga K "Floor") (.type "object") = some true) && (
  decide (PySem.W.notFirst K (He.ga K "Floor") (.type "tuple") = true) && (
  decide (PySem.W.kitOne K (.type "tuple") (.ref (He.ga K "Floor")) = some false) && (
  decide (PySem.W.findIn K (.ref (He.ga K "Floor")) "__ne__" = some (some (.builtin "object.__ne__"))) && (
  decide (PySem.W.mroIn K (He.ga K "Floor") (.type "object") = some true) && true)))))))))))))))))))))))))))))))))))))))))))))))))))))))))))
def ex1 (K : PySem.W.Frag) : Bool :=
  decide (PySem.W.findIn K (.ref (He.ga K "Floor")) "__format__" = some (some (.builtin "object.__format__"))) && (
  decide (PySem.W.findIn K (.ref (He.ga K "Floor")) "__str__" = some (some (.builtin "object.__str__"))) && (
  PySem.W.readsIn K (He.ga K "Floor") (.type "type") && (
  decide (PySem.W.specialIn K (.ref (He.ga K "Floor")) "__getattribute__" = some (some (.builtin "type.__getattribute__"))) && (
  decide (PySem.W.findIn K (.ref (He.ga K "Floor")) "width" = some none) && (
  decide (PySem.W.findIn K (.ref (He.ga K "Floor")) "height" = some none) && (
  decide (PySem.W.findIn K (.ref (He.ga K "Floor")) "numbers" = some none) && (
  decide (PySem.W.findIn K (.ref (He.ga K "Floor")) "things" = some none) && (
  decide (PySem.W.findIn K (.ref (He.ga K "Floor")) "shown" = some none) && (
  decide (PySem.W.nsIn K PySem.mainGlobals "OTHER_KIND" = some (some (.ref (He.ga K "OTHER_KIND")))) && (
  KH.tabB K (He.ga K "OTHER_KIND") [("|", .s "-"), ("-", .s "|")] && (
  KH.intB K "MOST_SIZE" 1000000000000000 && (
  KH.strB K "DOOR" "o" && (
  KH.clsValB K (He.ga K "Floor") "MOST_THINGS" (V.int 40) && true)))))))))))))
def fn0 : List KH.Df := [⟨.g "_law_source", "_law_source", "_law_source", s__law_source⟩,
  ⟨.g "_law_draw", "_law_draw", "_law_draw", s__law_draw⟩,
  ⟨.g "_law_drawn_size", "_law_drawn_size", "_law_drawn_size", s__law_drawn_size⟩,
  ⟨.g "_law_shut_point", "_law_shut_point", "_law_shut_point", s__law_shut_point⟩,
  ⟨.g "_law_drawn_things", "_law_drawn_things", "_law_drawn_things", s__law_drawn_things⟩,
  ⟨.g "shown_text", "shown_text", "shown_text", s_shown_text⟩,
  ⟨.m "Floor" "is_point", "is_point", "Floor.is_point", s_Floor_is_point⟩,
  ⟨.m "Floor" "is_inner", "is_inner", "Floor.is_inner", s_Floor_is_inner⟩,
  ⟨.m "Floor" "may_stand", "may_stand", "Floor.may_stand", s_Floor_may_stand⟩,
  ⟨.m "Floor" "__init__", "__init__", "Floor.__init__", s_Floor___init__⟩,
  ⟨.c "Floor" "of", "of", "Floor.of", s_Floor_of⟩,
  ⟨.m "Floor" "number_at", "number_at", "Floor.number_at", s_Floor_number_at⟩,
  ⟨.m "Floor" "with_thing", "with_thing", "Floor.with_thing", s_Floor_with_thing⟩,
  ⟨.m "Floor" "without", "without", "Floor.without", s_Floor_without⟩,
  ⟨.m "Floor" "turned", "turned", "Floor.turned", s_Floor_turned⟩,
  ⟨.m "Floor" "__eq__", "__eq__", "Floor.__eq__", s_Floor___eq__⟩,
  ⟨.m "Floor" "__len__", "__len__", "Floor.__len__", s_Floor___len__⟩,
  ⟨.m "Floor" "__repr__", "__repr__", "Floor.__repr__", s_Floor___repr__⟩,
  ⟨.g "_law_same", "_law_same", "_law_same", s__law_same⟩,
  ⟨.g "_law_points_right", "_law_points_right", "_law_points_right", s__law_points_right⟩,
  ⟨.g "_law_changes_right", "_law_changes_right", "_law_changes_right", s__law_changes_right⟩,
  ⟨.g "law", "law", "law", s_law⟩]
def cfg : KH.Cfg where
  fn := fn0
  ts := [("OTHER_KIND", ["|", "-"])]
  ex := fun K => ex0 K && (ex1 K && true)
def nm0 : List PySem.Str := ["_wall", "__name__", "FloorError", "BadFloor", "BadThing", "BadPoint", "NoThing", "NoMirror", "MOST_SIZE", "OTHER_KIND", "DOOR", "Floor", "shown_text", "_law_source", "_law_draw", "_law_shuffled", "_law_drawn_size", "_law_shut_point", "_law_drawn_things", "_law_drawn_ray", "_law_same", "_law_points_right", "_law_changes_right"]
def names : List PySem.Str := nm0
abbrev RunAt (w : World) : Prop := HandSHeadRun.RunEq (PySem.W.OpenLaw.row PySem.Challenge.rw_farmirrors_k02_floors) (PySem.W.view (PySem.W.OpenLaw.row PySem.Challenge.rw_farmirrors_k02_floors).prog [25]) (KH.hookK cfg) (KH.obK cfg) 60000 names w
theorem run_f (w : World) : RunAt (w.withFollow "special-get-raises" false) := by
  intro os
  kernel_rfl
theorem run_t (w : World) : RunAt (w.withFollow "special-get-raises" true) := by
  intro os
  kernel_rfl
theorem run (w : World) : RunAt w := PySem.W.byRow2 "special-get-raises" (P := RunAt) run_f run_t w
end K

namespace K
open PySem L2 DL
local macro_rules | `(tactic| walk_at "w") => `(tactic| (conv => whnf))
local macro_rules | `(tactic| walk_at "at") => `(tactic| first | assumption | (refine SrcStep.get (l := ?l0) (n := ?n0) (S := ?s0) ?h1 ?h2 ?h3; (case h1 => assumption); (case h2 => omega); (case h3 => walk_at "at")) | (refine set_same (o := ?oo) ?sm; (case sm => walk_at "at")) | (refine set_other ?sm ?sn; (case sn => omega); (case sm => walk_at "at")) | (exact getElem_push _ _) | (refine app_left ?sm; (case sm => walk_at "at")) | rfl)
local macro_rules | `(tactic| walk_at "get") => `(tactic| (refine Exists.intro ?wit (And.intro ?gt ?_); (case gt => walk_at "at")))
local macro_rules | `(tactic| walk_at "bool") => `(tactic| (refine And.intro (fun hcond => ?_) (fun hcond => ?_) <;> (first | (exact absurd hcond (by decide)) | (simp only [decide_eq_true_eq, decide_eq_false_iff_not, Bool.not_eq_true', Bool.not_eq_false', Int.not_lt, Int.not_le, inD_nil, inD_int_cons, Bool.or_eq_true, Bool.or_eq_false_iff, Bool.or_false, ne_eq, Decidable.not_not] at hcond) | skip)))
local macro_rules | `(tactic| walk_at "len") => `(tactic| (refine line_le6 ?_; (try simp only [len_cat, len_e]); omega))
local macro_rules | `(tactic| walk_at "cond") => `(tactic| first | assumption | rfl | exact True.intro | omega | (exact Nat.le_of_ble_eq_true rfl) | (refine mulS ?cm1 ?cm2 <;> omega) | (refine divS ?cm1 <;> omega) | (refine And.intro ?cd1 ?cd2 <;> decide) | (exact line_le (Nat.le_of_ble_eq_true rfl)) | (exact line_lt (Nat.le_of_ble_eq_true rfl)) | (refine' Exists.intro _ (Exists.intro _ (And.intro rfl ?cm1)); (case cm1 => walk_at "at")) | (exact log_le (by omega)) | walk_at "len" | solve_by_elim | fail "no cond")
local macro_rules | `(tactic| walk_at "src") => `(tactic| first | assumption | (refine SrcStep.srcAt (S := ?ss) ?st; (case st => assumption)) | (refine SrcAt.app ?st; (case st => walk_at "src")))
local macro_rules | `(tactic| walk_at "draw") => `(tactic| (refine' Exists.intro _ (Exists.intro _ (Exists.intro ?nn (And.intro rfl (And.intro ?d1 (And.intro ?d2 (And.intro ?d3 (fun r S' h0 h1 hst => ?_))))))); (case d1 => walk_at "src"); (case d2 => omega); (case d3 => omega)))
local macro_rules | `(tactic| walk_at "steps") => `(tactic| first | assumption | (refine SrcStep.trans (n := ?sn) (S1 := ?sm) ?sx ?sy; (case sy => assumption); (case sx => walk_at "steps")) | (refine SrcAt.refl ?sz; assumption))
local macro_rules | `(tactic| walk_at "side") => `(tactic| (refine And.intro ?sd ?_; (case sd => walk_at "cond")))
local macro_rules | `(tactic| walk_at "go1") => `(tactic| (conv => whnf) <;> (first | walk_at "get" | walk_at "bool" | walk_at "draw" | walk_at "side" | fail "no step"))
local macro_rules | `(tactic| walk_at "go") => `(tactic| (repeat' (walk_at "go1")); (all_goals try (conv => whnf)))

theorem n__law_draw : ∀ ds S Q E, spDraw ds S Q E → ds.length = 2 := by
  rintro ds S Q E ⟨l, m, n, rfl, _⟩
  rfl
section
variable {P : Program} {w : World} {K : PySem.W.Frag} {mg : Str → Option Value} {base : Heap} {A : Ads} {B : Fds}
theorem ok__law_draw (T : Txt w K mg A B) : FnOk P w K mg base CX0 1 A.a_law_draw B.a_law_draw ["_law_source_here", "_law_bound"] (spOf K 2 spDraw) := by
  refine dfn_ok T.F__law_draw sc__law_draw n__law_draw (fun cdv A outer s H E hr => (ds_cons (ds_if (dt_cmp od_gt (de_ix ix_any (dv 0) de_int (fun _ _ => rfl)) de_int (nomark _)) (ds_cons (ds_set (i := 3) sc__law_draw.nd rfl (.inl rfl) (de_op od_mod (de_ix ix_any (dv 0) de_int (fun _ _ => rfl)) (dv 1)))
      (ds_cons (ds_asg (de_op od_div (de_ix ix_any (dv 0) de_int (fun _ _ => rfl)) (dv 1)) (dg_set (dv 0) de_int))
      (ds_one (ds_ret (dv 3))))) ds_nil)
      (ds_cons (ds_asg (de_op od_add (de_ix ix_any (dv 0) de_int (fun _ _ => rfl)) de_int) (dg_set (dv 0) de_int))
      (ds_cons (ds_set (i := 2) sc__law_draw.nd rfl (.inl rfl) (de_op od_mod (de_op od_pow (de_op od_add (de_ix ix_any (dv 0) de_int (fun _ _ => rfl)) (de_op od_mul de_int (de_ix ix_any (dv 0) de_int (fun _ _ => rfl)))) de_int) (de_op od_add (de_op od_pow de_int de_int) de_int)))
      (ds_cons (ds_set (i := 2) sc__law_draw.nd rfl (.inl rfl) (de_op od_mod (de_op od_pow (de_op od_add (dv 2) (de_op od_mul de_int (de_ix ix_any (dv 0) de_int (fun _ _ => rfl)))) de_int) (de_op od_add (de_op od_pow de_int de_int) de_int)))
      (ds_one (ds_ret (de_op od_mod (de_op od_div (dv 2) de_int) (dv 1))))))))) ?_
  rintro ds S Q E bd ⟨l, m, n, rfl, ⟨o, hl, ⟨a, b, c, rfl, ha, hb, hb2, hc, hcn⟩⟩, hn, ⟨hm, hm2⟩, q⟩
  have hd : ∀ i, CDivW i m := fun i => divW (b := 200) hm (abs_lt (by omega) hm2) (by decide) (by decide)
  obtain ⟨z1, z2, z3, z4⟩ := draw_sizes hb hb2 hc hcn hn
  have hlt : l < S.length := (List.getElem?_eq_some_iff.mp hl).1
  walk_at "go"
  · exact Rt.set (d := .int (a % m)) (o := .lst [.int (a / m), .int b, .int c]) trivial ⟨trivial, trivial, trivial, trivial⟩ (q _ _ (Int.emod_nonneg _ (by omega)) (Int.emod_lt_of_pos _ hm) ⟨_, hlt, ⟨_, b, c, rfl, Int.ediv_nonneg ha (by omega), hb, hb2, hc, by omega⟩, rfl⟩)
  · refine Rt.set (o := .lst [.int a, .int b, .int (c + 1)]) (d := .int _) trivial ⟨trivial, trivial, trivial, trivial⟩ (q _ _ (Int.emod_nonneg _ (by omega)) (Int.emod_lt_of_pos _ hm) ⟨_, hlt, ⟨a, b, _, rfl, ha, hb, hb2, Int.add_nonneg hc (by decide), ?_⟩, rfl⟩)
    show c + 1 ≤ ((n + 1 : Nat) : Int)
    omega
/-- a source's making -/
def spSource : DSp := fun ds S Q E => ∃ (ns : List Int) (i : Int), ds = [.scr ns, .int i] ∧ 0 ≤ i ∧ i < 1000 ∧ ∀ o, Src 0 o → Q (.loc S.length) (S ++ [o])
theorem n__law_source : ∀ ds S Q E, spSource ds S Q E → ds.length = 2 := by
  rintro ds S Q E ⟨ns, i, rfl, _⟩
  rfl
theorem ok__law_source (T : Txt w K mg A B) : FnOk P w K mg base CX0 1 A.a_law_source B.a_law_source ["_law_script", "_law_index"] (spOf K 2 spSource) := by
  refine dfn_ok T.F__law_source sc__law_source n__law_source (fun cdv A outer s H E hr => (ds_cons (ds_set (i := 2) sc__law_source.nd rfl (.inl rfl) de_int)
      (ds_cons (ds_mark 1 (ds_if (dt_cmp od_lt (dv 1) (de_callB cd_len rfl T.z_len (by decide +kernel) (da_cons (dv 0) da_nil)) (nomark _)) (ds_one (ds_set (i := 2) sc__law_source.nd rfl (.inl rfl) (de_ix ix_any (dv 0) (dv 1) (fun _ _ => rfl)))) ds_nil))
      (ds_one (ds_ret (de_lst (da_cons (de_callB (cd_max2 rfl) rfl T.z_max (by decide +kernel) (da_cons de_int (da_cons (de_op od_sub (dv 2) (de_op od_pow de_int de_int)) da_nil))) (da_cons (de_op od_add (de_op od_mod (dv 2) (de_op od_add (de_op od_pow de_int de_int) de_int)) (de_op od_mul de_int (dv 1))) (da_cons de_int da_nil))))))))) ?_
  rintro ds S Q E bd ⟨ns, i, rfl, h0, h1, q⟩
  have hm : CMulW 1299709 i := wide_mul (a := 21) (b := 20) (by decide) (by omega) (by decide) (by decide) (by decide)
  conv => whnf
  refine mark_join (fun ρ' S' => ∃ c : Int, ρ' = [some (.scr ns), some (.int i), some (.int c)] ∧ S' = S) (fun N hN => ?_) ?_
  · walk_at "go"
    · rename_i hc
      have hi : i.toNat < ns.length := by
        have : i < ((ns.map D.int).length : Int) := hc
        rw [List.length_map] at this
        omega
      refine ⟨.int ns[i.toNat], ?_, ?_⟩
      · have e := atI_nat (xs := ns.map D.int) (j := i.toNat) (v := .int ns[i.toNat]) (by rw [List.getElem?_map, List.getElem?_eq_getElem hi]; rfl)
        have e2 : ((i.toNat : Nat) : Int) = i := by omega
        rw [e2] at e
        exact e
      · exact hN _ _ ⟨_, rfl, rfl⟩
    · exact hN _ _ ⟨_, rfl, rfl⟩
  · rintro ρ' S' ⟨c, rfl, rfl⟩
    walk_at "go"
    have hc1 : 0 ≤ c % (10 ^ 37 + 43) := Int.emod_nonneg _ (by decide)
    have hc2 : c % (10 ^ 37 + 43) < 10 ^ 37 + 43 := Int.emod_lt_of_pos _ (by decide)
    have hc3 : (10 : Int) ^ 37 + 43 + 1299709 * 1000 < 2 ^ 200 := by decide
    refine Rt.loc (ob := .lst [.int _, .int (c % (10 ^ 37 + 43) + 1299709 * i), .int 0]) ⟨trivial, trivial, trivial, trivial⟩ (q _ ⟨_, _, _, rfl, ?_, ?_, ?_, by decide, by decide⟩)
    · split <;> omega
    · omega
    · omega
end
end K

namespace K
open PySem L2 DL
local macro_rules | `(tactic| walk_at "w") => `(tactic| (conv => whnf))
local macro_rules | `(tactic| walk_at "at") => `(tactic| first | assumption | (refine SrcStep.get (l := ?l0) (n := ?n0) (S := ?s0) ?h1 ?h2 ?h3; (case h1 => assumption); (case h2 => omega); (case h3 => walk_at "at")) | (refine set_same (o := ?oo) ?sm; (case sm => walk_at "at")) | (refine set_other ?sm ?sn; (case sn => omega); (case sm => walk_at "at")) | (exact getElem_push _ _) | (refine app_left ?sm; (case sm => walk_at "at")) | rfl)
local macro_rules | `(tactic| walk_at "get") => `(tactic| (refine Exists.intro ?wit (And.intro ?gt ?_); (case gt => walk_at "at")))
local macro_rules | `(tactic| walk_at "bool") => `(tactic| (refine And.intro (fun hcond => ?_) (fun hcond => ?_) <;> (first | (exact absurd hcond (by decide)) | (simp only [decide_eq_true_eq, decide_eq_false_iff_not, Bool.not_eq_true', Bool.not_eq_false', Int.not_lt, Int.not_le, inD_nil, inD_int_cons, Bool.or_eq_true, Bool.or_eq_false_iff, Bool.or_false, ne_eq, Decidable.not_not] at hcond) | skip)))
local macro_rules | `(tactic| walk_at "len") => `(tactic| (refine line_le6 ?_; (try simp only [len_cat, len_e]); omega))
local macro_rules | `(tactic| walk_at "cond") => `(tactic| first | assumption | rfl | exact True.intro | omega | (exact Nat.le_of_ble_eq_true rfl) | (refine mulS ?cm1 ?cm2 <;> omega) | (refine divS ?cm1 <;> omega) | (refine And.intro ?cd1 ?cd2 <;> decide) | (exact line_le (Nat.le_of_ble_eq_true rfl)) | (exact line_lt (Nat.le_of_ble_eq_true rfl)) | (refine' Exists.intro _ (Exists.intro _ (And.intro rfl ?cm1)); (case cm1 => walk_at "at")) | (exact log_le (by omega)) | walk_at "len" | solve_by_elim | fail "no cond")
local macro_rules | `(tactic| walk_at "src") => `(tactic| first | assumption | (refine SrcStep.srcAt (S := ?ss) ?st; (case st => assumption)) | (refine SrcAt.app ?st; (case st => walk_at "src")))
local macro_rules | `(tactic| walk_at "draw") => `(tactic| (refine' Exists.intro _ (Exists.intro _ (Exists.intro ?nn (And.intro rfl (And.intro ?d1 (And.intro ?d2 (And.intro ?d3 (fun r S' h0 h1 hst => ?_))))))); (case d1 => walk_at "src"); (case d2 => omega); (case d3 => omega)))
local macro_rules | `(tactic| walk_at "steps") => `(tactic| first | assumption | (refine SrcStep.trans (n := ?sn) (S1 := ?sm) ?sx ?sy; (case sy => assumption); (case sx => walk_at "steps")) | (refine SrcAt.refl ?sz; assumption))
local macro_rules | `(tactic| walk_at "side") => `(tactic| (refine And.intro ?sd ?_; (case sd => walk_at "cond")))
local macro_rules | `(tactic| walk_at "go1") => `(tactic| (conv => whnf) <;> (first | walk_at "get" | walk_at "bool" | walk_at "draw" | walk_at "side" | fail "no step"))
local macro_rules | `(tactic| walk_at "go") => `(tactic| (repeat' (walk_at "go1")); (all_goals try (conv => whnf)))

def spSize : DSp := fun ds S Q E => ∃ (l : Nat) (m : Int) (n : Nat), ds = [.loc l, .int m] ∧ SrcAt S l n ∧ n < 100000000 ∧ (1 ≤ m ∧ m ≤ 1000000000000000) ∧
  ∀ w h S', 1 ≤ w → 1 ≤ h → (w ≤ m ∨ w ≤ 12) → (h ≤ m ∨ h ≤ 12) → SrcStep l (n + 6) S S' → Q (.tup [.int w, .int h]) S'
theorem n__law_drawn_size : ∀ ds S Q E, spSize ds S Q E → ds.length = 2 := by
  rintro ds S Q E ⟨l, m, n, rfl, _⟩
  rfl
def SzI (l : Nat) (m : Int) (k : Nat) (S : Store) : Rho → Store → Prop := fun ρ' S' => ∃ (way w h : Int) (u : Option D), ρ' = [some (.loc l), some (.int m), some (.int way), some (.int w), some (.int h), u] ∧
  0 ≤ way ∧ way < 6 ∧ 1 ≤ w ∧ 1 ≤ h ∧ (w ≤ m ∨ w ≤ 12) ∧ (h ≤ m ∨ h ≤ 12) ∧ SrcStep l k S S'
theorem unit_mul {u x : Int} (hu : 1 ≤ u) (hu2 : u ≤ 12) (m : Int) (hx : 1 ≤ x) (hm : x ≤ m ∨ x ≤ 12) : 1 ≤ u * (if x / u > 1 then x / u else 1) ∧ (u * (if x / u > 1 then x / u else 1) ≤ m ∨ u * (if x / u > 1 then x / u else 1) ≤ 12) := by
  have h1 : u * (x / u) ≤ x := Int.mul_ediv_self_le (by omega)
  split
  · rename_i h
    refine ⟨?_, by omega⟩
    have : u * 1 ≤ u * (x / u) := Int.mul_le_mul_of_nonneg_left (by omega) (by omega)
    omega
  · rw [Int.mul_one]
    exact ⟨hu, Or.inr hu2⟩
theorem unit_wide {u x : Int} (hu : 1 ≤ u) (hu2 : u ≤ 12) (hx : 1 ≤ x) (hm : x ≤ 1000000000000000) : CMulW u (if x / u > 1 then x / u else 1) := by
  have h1 : x / u ≤ x := Int.ediv_le_self _ (by omega)
  refine wide_mul (a := 5) (b := 60) (by omega) ?_ (by decide) (by decide) (by decide)
  split <;> omega
section
variable {P : Program} {w : World} {K : PySem.W.Frag} {mg : Str → Option Value} {base : Heap} {A : Ads} {B : Fds}
theorem ok__law_drawn_size (T : Txt w K mg A B) : FnOk P w K mg base CX0 2 A.a_law_drawn_size B.a_law_drawn_size ["_law_source_here", "_law_most"] (spOf K 2 spSize) := by
  refine dfn_ok T.F__law_drawn_size sc__law_drawn_size n__law_drawn_size (fun cdv A outer s H E hr => (ds_cons (ds_set (i := 2) sc__law_drawn_size.nd rfl (.inl rfl) (de_call (ok__law_draw T) (hr.mono (by decide)) rfl T.g__law_draw T.k__law_draw T.b__law_draw .nil rpl_nil pass0 n__law_draw (da_cons (dv 0) (da_cons de_int da_nil))))
      (ds_cons (ds_par (i := 3) (j := 4) rfl sc__law_drawn_size.nd rfl rfl (by decide) rfl rfl (da_cons (de_op od_add de_int (de_call (ok__law_draw T) (hr.mono (by decide)) rfl T.g__law_draw T.k__law_draw T.b__law_draw .nil rpl_nil pass0 n__law_draw (da_cons (dv 0) (da_cons (dv 1) da_nil)))) (da_cons (de_op od_add de_int (de_call (ok__law_draw T) (hr.mono (by decide)) rfl T.g__law_draw T.k__law_draw T.b__law_draw .nil rpl_nil pass0 n__law_draw (da_cons (dv 0) (da_cons (dv 1) da_nil)))) da_nil)) (by rfl))
      (ds_cons (ds_mark 1 (ds_if (dt_cmp od_eqI (dv 2) de_int (nomark _)) (ds_one (ds_set (i := 4) sc__law_drawn_size.nd rfl (.inl rfl) (dv 3))) ds_nil))
      (ds_cons (ds_mark 2 (ds_if (dt_cmp od_eqI (dv 2) de_int (nomark _)) (ds_one (ds_set (i := 4) sc__law_drawn_size.nd rfl (.inl rfl) (de_callB (cd_max2 rfl) rfl T.z_max (by decide +kernel) (da_cons de_int (da_cons (de_op od_div (dv 3) (de_op od_add de_int (de_call (ok__law_draw T) (hr.mono (by decide)) rfl T.g__law_draw T.k__law_draw T.b__law_draw .nil rpl_nil pass0 n__law_draw (da_cons (dv 0) (da_cons de_int da_nil))))) da_nil))))) ds_nil))
      (ds_cons (ds_mark 3 (ds_if (dt_cmp od_eqI (dv 2) de_int (nomark _)) (ds_one (ds_set (i := 3) sc__law_drawn_size.nd rfl (.inl rfl) de_int)) ds_nil))
      (ds_cons (ds_mark 4 (ds_if (dt_cmp od_eqI (dv 2) de_int (nomark _)) (ds_one (ds_set (i := 4) sc__law_drawn_size.nd rfl (.inl rfl) (de_op od_add de_int (de_call (ok__law_draw T) (hr.mono (by decide)) rfl T.g__law_draw T.k__law_draw T.b__law_draw .nil rpl_nil pass0 n__law_draw (da_cons (dv 0) (da_cons de_int da_nil)))))) ds_nil))
      (ds_cons (ds_mark 5 (ds_if (dt_cmp od_eqI (dv 2) de_int (nomark _)) (ds_cons (ds_set (i := 5) sc__law_drawn_size.nd rfl (.inl rfl) (de_op od_add de_int (de_call (ok__law_draw T) (hr.mono (by decide)) rfl T.g__law_draw T.k__law_draw T.b__law_draw .nil rpl_nil pass0 n__law_draw (da_cons (dv 0) (da_cons de_int da_nil)))))
      (ds_one (ds_par (i := 3) (j := 4) rfl sc__law_drawn_size.nd rfl rfl (by decide) rfl rfl (da_cons (de_op od_mul (dv 5) (de_callB (cd_max2 rfl) rfl T.z_max (by decide +kernel) (da_cons de_int (da_cons (de_op od_div (dv 3) (dv 5)) da_nil)))) (da_cons (de_op od_mul (dv 5) (de_callB (cd_max2 rfl) rfl T.z_max (by decide +kernel) (da_cons de_int (da_cons (de_op od_div (dv 4) (dv 5)) da_nil)))) da_nil)) (by rfl)))) ds_nil))
      (ds_one (ds_ret (de_tup (da_cons (dv 3) (da_cons (dv 4) da_nil))))))))))))) ?_
  rintro ds S Q E bd ⟨l, m, n, rfl, hs, hn, ⟨hm1, hm2⟩, q⟩
  walk_at "go"
  rename_i way S1 a1 a2 st1 wd S2 b1 b2 st2 ht S3 c1 c2 st3
  refine mark_join (SzI l m (n + 3) S) (fun N hN => ?_) ?_
  · walk_at "go"
    · exact hN _ _ ⟨way, _, _, none, rfl, by omega, by omega, by omega, by omega, by omega, by omega, by walk_at "steps"⟩
    · exact hN _ _ ⟨way, _, _, none, rfl, by omega, by omega, by omega, by omega, by omega, by omega, by walk_at "steps"⟩
  clear st1 st2 st3 a1 a2 b1 b2 c1 c2
  rintro ρ' S1 ⟨way, w, h, u, rfl, e1, e2, e3, e4, e5, e6, st⟩
  walk_at "go"
  refine mark_join (SzI l m (n + 4) S) (fun N hN => ?_) ?_
  · walk_at "go"
    · rename_i r S2 f1 f2 st2
      have hd : w / (1 + r) ≤ w := Int.ediv_le_self _ (by omega)
      exact hN _ _ ⟨way, _, _, u, rfl, by omega, by omega, by omega, by (show 1 ≤ if w / (1 + r) > 1 then w / (1 + r) else 1); split <;> omega, by omega, by (show (if w / (1 + r) > 1 then w / (1 + r) else 1) ≤ m ∨ (if w / (1 + r) > 1 then w / (1 + r) else 1) ≤ 12); split <;> omega, by walk_at "steps"⟩
    · exact hN _ _ ⟨way, _, _, u, rfl, by omega, by omega, by omega, by omega, by omega, by omega, st.mono (by omega)⟩
  clear st e1 e2 e3 e4 e5 e6
  rintro ρ' S2 ⟨way, w, h, u, rfl, e1, e2, e3, e4, e5, e6, st⟩
  walk_at "go"
  refine mark_join (SzI l m (n + 4) S) (fun N hN => ?_) ?_
  · walk_at "go"
    · exact hN _ _ ⟨way, _, _, u, rfl, by omega, by omega, by omega, by omega, by omega, by omega, st⟩
    · exact hN _ _ ⟨way, _, _, u, rfl, by omega, by omega, by omega, by omega, by omega, by omega, st⟩
  clear st e1 e2 e3 e4 e5 e6
  rintro ρ' S2 ⟨way, w, h, u, rfl, e1, e2, e3, e4, e5, e6, st⟩
  walk_at "go"
  refine mark_join (SzI l m (n + 5) S) (fun N hN => ?_) ?_
  · walk_at "go"
    · exact hN _ _ ⟨way, _, _, u, rfl, by omega, by omega, by omega, by omega, by omega, by omega, by walk_at "steps"⟩
    · exact hN _ _ ⟨way, _, _, u, rfl, by omega, by omega, by omega, by omega, by omega, by omega, st.mono (by omega)⟩
  clear st e1 e2 e3 e4 e5 e6
  rintro ρ' S2 ⟨way, w, h, u, rfl, e1, e2, e3, e4, e5, e6, st⟩
  walk_at "go"
  refine mark_join (SzI l m (n + 6) S) (fun N hN => ?_) ?_
  · walk_at "go"
    · rename_i r S3 f1 f2 st2
      have hdv : ∀ x, CDivW x (1 + r) := fun x => divW (b := 10) (by omega) (by omega) (by decide) (by decide)
      have hw := unit_mul (u := 1 + r) (by omega) (by omega) m e3 e5
      have hh := unit_mul (u := 1 + r) (by omega) (by omega) m e4 e6
      have ww := unit_wide (u := 1 + r) (by omega) (by omega) e3 (by omega)
      have wh := unit_wide (u := 1 + r) (by omega) (by omega) e4 (by omega)
      walk_at "go"
      exact hN _ _ ⟨way, _, _, _, rfl, by omega, by omega, hw.1, hh.1, hw.2, hh.2, by walk_at "steps"⟩
    · exact hN _ _ ⟨way, _, _, u, rfl, by omega, by omega, by omega, by omega, by omega, by omega, st.mono (by omega)⟩
  clear st e1 e2 e3 e4 e5 e6
  rintro ρ' S2 ⟨way, w, h, u, rfl, e1, e2, e3, e4, e5, e6, st⟩
  walk_at "go"
  exact Rt.src st ⟨trivial, trivial, trivial⟩ (q w h S2 e3 e4 e5 e6 st)
end
end K

namespace K
open PySem L2 DL
local macro_rules | `(tactic| walk_at "w") => `(tactic| (conv => whnf))
local macro_rules | `(tactic| walk_at "at") => `(tactic| first | assumption | (refine SrcStep.get (l := ?l0) (n := ?n0) (S := ?s0) ?h1 ?h2 ?h3; (case h1 => assumption); (case h2 => omega); (case h3 => walk_at "at")) | (refine set_same (o := ?oo) ?sm; (case sm => walk_at "at")) | (refine set_other ?sm ?sn; (case sn => omega); (case sm => walk_at "at")) | (exact getElem_push _ _) | (refine app_left ?sm; (case sm => walk_at "at")) | rfl)
local macro_rules | `(tactic| walk_at "get") => `(tactic| (refine Exists.intro ?wit (And.intro ?gt ?_); (case gt => walk_at "at")))
local macro_rules | `(tactic| walk_at "bool") => `(tactic| (refine And.intro (fun hcond => ?_) (fun hcond => ?_) <;> (first | (exact absurd hcond (by decide)) | (simp only [decide_eq_true_eq, decide_eq_false_iff_not, Bool.not_eq_true', Bool.not_eq_false', Int.not_lt, Int.not_le, inD_nil, inD_int_cons, Bool.or_eq_true, Bool.or_eq_false_iff, Bool.or_false, ne_eq, Decidable.not_not] at hcond) | skip)))
local macro_rules | `(tactic| walk_at "len") => `(tactic| (refine line_le6 ?_; (try simp only [len_cat, len_e]); omega))
local macro_rules | `(tactic| walk_at "cond") => `(tactic| first | assumption | rfl | exact True.intro | omega | (exact Nat.le_of_ble_eq_true rfl) | (refine mulS ?cm1 ?cm2 <;> omega) | (refine divS ?cm1 <;> omega) | (refine And.intro ?cd1 ?cd2 <;> decide) | (exact line_le (Nat.le_of_ble_eq_true rfl)) | (exact line_lt (Nat.le_of_ble_eq_true rfl)) | (refine' Exists.intro _ (Exists.intro _ (And.intro rfl ?cm1)); (case cm1 => walk_at "at")) | (exact log_le (by omega)) | walk_at "len" | solve_by_elim | fail "no cond")
local macro_rules | `(tactic| walk_at "src") => `(tactic| first | assumption | (refine SrcStep.srcAt (S := ?ss) ?st; (case st => assumption)) | (refine SrcAt.app ?st; (case st => walk_at "src")))
local macro_rules | `(tactic| walk_at "draw") => `(tactic| (refine' Exists.intro _ (Exists.intro _ (Exists.intro ?nn (And.intro rfl (And.intro ?d1 (And.intro ?d2 (And.intro ?d3 (fun r S' h0 h1 hst => ?_))))))); (case d1 => walk_at "src"); (case d2 => omega); (case d3 => omega)))
local macro_rules | `(tactic| walk_at "steps") => `(tactic| first | assumption | (refine SrcStep.trans (n := ?sn) (S1 := ?sm) ?sx ?sy; (case sy => assumption); (case sx => walk_at "steps")) | (refine SrcAt.refl ?sz; assumption))
local macro_rules | `(tactic| walk_at "side") => `(tactic| (refine And.intro ?sd ?_; (case sd => walk_at "cond")))
local macro_rules | `(tactic| walk_at "go1") => `(tactic| (conv => whnf) <;> (first | walk_at "get" | walk_at "bool" | walk_at "draw" | walk_at "side" | fail "no step"))
local macro_rules | `(tactic| walk_at "go") => `(tactic| (repeat' (walk_at "go1")); (all_goals try (conv => whnf)))

def sizeD (w h : Int) : D := .tup [.int w, .int h]
def Wall (w h x y : Int) : Prop := ((x = 0 ∨ x = 2 * w) ∧ 0 ≤ y ∧ y ≤ 2 * h ∧ y % 2 = 1) ∨ ((y = 0 ∨ y = 2 * h) ∧ 0 ≤ x ∧ x ≤ 2 * w ∧ x % 2 = 1)
def spShut : DSp := fun ds S Q E => ∃ (l : Nat) (w h : Int) (n : Nat), ds = [.loc l, sizeD w h] ∧ SrcAt S l n ∧ n < 100000000 ∧ (1 ≤ w ∧ w ≤ 1000000000000000 ∧ 1 ≤ h ∧ h ≤ 1000000000000000) ∧
  ∀ x y S', Wall w h x y → SrcStep l (n + 3) S S' → Q (.tup [.int x, .int y]) S'
theorem n__law_shut_point : ∀ ds S Q E, spShut ds S Q E → ds.length = 2 := by
  rintro ds S Q E ⟨l, w, h, n, rfl, _⟩
  rfl
structure RayOk (w h x y dx dy : Int) : Prop where
  x0 : 0 ≤ x
  x1 : x ≤ 2 * w
  y0 : 0 ≤ y
  y1 : y ≤ 2 * h
  odd : (x + y) % 2 = 1
  hdx : dx = 1 ∨ dx = -1
  hdy : dy = 1 ∨ dy = -1
  a0 : 0 ≤ x + dx
  a1 : x + dx ≤ 2 * w
  b0 : 0 ≤ y + dy
  b1 : y + dy ≤ 2 * h
def rayD (x y dx dy : Int) : D := .tup [.int x, .int y, .int dx, .int dy]
def spRay : DSp := fun ds S Q E => ∃ (l : Nat) (w h : Int) (n : Nat), ds = [.loc l, sizeD w h] ∧ SrcAt S l n ∧ n < 100000000 ∧ (1 ≤ w ∧ w ≤ 1000000000000000 ∧ 1 ≤ h ∧ h ≤ 1000000000000000) ∧
  ∀ x y dx dy S', RayOk w h x y dx dy → SrcStep l (n + 4) S S' → Q (rayD x y dx dy) S'
theorem n__law_drawn_ray : ∀ ds S Q E, spRay ds S Q E → ds.length = 2 := by
  rintro ds S Q E ⟨l, w, h, n, rfl, _⟩
  rfl
section
variable {P : Program} {w : World} {K : PySem.W.Frag} {mg : Str → Option Value} {base : Heap} {A : Ads} {B : Fds}
theorem ok__law_shut_point (T : Txt w K mg A B) : FnOk P w K mg base CX0 2 A.a_law_shut_point B.a_law_shut_point ["_law_source_here", "_law_size"] (spOf K 2 spShut) := by
  refine dfn_ok T.F__law_shut_point sc__law_shut_point n__law_shut_point (fun cdv A outer s H E hr => (ds_cons (ds_asg (dv 1) (dg_tup (n := 2) rfl (dgs_cons (dg_name (i := 2) sc__law_shut_point.nd rfl (.inl rfl)) (dgs_cons (dg_name (i := 3) sc__law_shut_point.nd rfl (.inl rfl)) dgs_nil))))
      (ds_cons (ds_if (dt_cmp od_eqI (de_call (ok__law_draw T) (hr.mono (by decide)) rfl T.g__law_draw T.k__law_draw T.b__law_draw .nil rpl_nil pass0 n__law_draw (da_cons (dv 0) (da_cons de_int da_nil))) de_int (nomark _)) (ds_one (ds_ret (de_tup (da_cons (de_op od_mul (de_op od_mul de_int (dv 2)) (de_call (ok__law_draw T) (hr.mono (by decide)) rfl T.g__law_draw T.k__law_draw T.b__law_draw .nil rpl_nil pass0 n__law_draw (da_cons (dv 0) (da_cons de_int da_nil)))) (da_cons (de_op od_add (de_op od_mul de_int (de_call (ok__law_draw T) (hr.mono (by decide)) rfl T.g__law_draw T.k__law_draw T.b__law_draw .nil rpl_nil pass0 n__law_draw (da_cons (dv 0) (da_cons (dv 3) da_nil)))) de_int) da_nil))))) ds_nil)
      (ds_one (ds_ret (de_tup (da_cons (de_op od_add (de_op od_mul de_int (de_call (ok__law_draw T) (hr.mono (by decide)) rfl T.g__law_draw T.k__law_draw T.b__law_draw .nil rpl_nil pass0 n__law_draw (da_cons (dv 0) (da_cons (dv 2) da_nil)))) de_int) (da_cons (de_op od_mul (de_op od_mul de_int (dv 3)) (de_call (ok__law_draw T) (hr.mono (by decide)) rfl T.g__law_draw T.k__law_draw T.b__law_draw .nil rpl_nil pass0 n__law_draw (da_cons (dv 0) (da_cons de_int da_nil)))) da_nil)))))))) ?_
  rintro ds S Q E bd ⟨l, w, h, n, rfl, hs, hn, ⟨hw1, hw2, hh1, hh2⟩, q⟩
  walk_at "go"
  · rename_i r1 S1 a1 a2 st1 hr r2 S2 b1 b2 st2 r3 S3 c1 c2 st3
    have st : SrcStep l (n + 3) S S3 := by walk_at "steps"
    refine Rt.src (d := .tup [.int _, .int _]) st ⟨trivial, trivial, trivial⟩ (q _ _ S3 (Or.inl ⟨?_, by omega, by omega, by omega⟩) st)
    have : r2 = 0 ∨ r2 = 1 := by omega
    rcases this with rfl | rfl <;> omega
  · rename_i r1 S1 a1 a2 st1 hr r2 S2 b1 b2 st2 r3 S3 c1 c2 st3
    have st : SrcStep l (n + 3) S S3 := by walk_at "steps"
    refine Rt.src (d := .tup [.int _, .int _]) st ⟨trivial, trivial, trivial⟩ (q _ _ S3 (Or.inr ⟨?_, by omega, by omega, by omega⟩) st)
    have : r3 = 0 ∨ r3 = 1 := by omega
    rcases this with rfl | rfl <;> omega
end
end K

namespace K
open PySem L2 DL
local macro_rules | `(tactic| walk_at "w") => `(tactic| (conv => whnf))
local macro_rules | `(tactic| walk_at "at") => `(tactic| first | assumption | (refine SrcStep.get (l := ?l0) (n := ?n0) (S := ?s0) ?h1 ?h2 ?h3; (case h1 => assumption); (case h2 => omega); (case h3 => walk_at "at")) | (refine set_same (o := ?oo) ?sm; (case sm => walk_at "at")) | (refine set_other ?sm ?sn; (case sn => omega); (case sm => walk_at "at")) | (exact getElem_push _ _) | (refine app_left ?sm; (case sm => walk_at "at")) | rfl)
local macro_rules | `(tactic| walk_at "get") => `(tactic| (refine Exists.intro ?wit (And.intro ?gt ?_); (case gt => walk_at "at")))
local macro_rules | `(tactic| walk_at "bool") => `(tactic| (refine And.intro (fun hcond => ?_) (fun hcond => ?_) <;> (first | (exact absurd hcond (by decide)) | (simp only [decide_eq_true_eq, decide_eq_false_iff_not, Bool.not_eq_true', Bool.not_eq_false', Int.not_lt, Int.not_le, inD_nil, inD_int_cons, Bool.or_eq_true, Bool.or_eq_false_iff, Bool.or_false, ne_eq, Decidable.not_not] at hcond) | skip)))
local macro_rules | `(tactic| walk_at "len") => `(tactic| (refine line_le6 ?_; (try simp only [len_cat, len_e]); omega))
local macro_rules | `(tactic| walk_at "cond") => `(tactic| first | assumption | rfl | exact True.intro | omega | (exact Nat.le_of_ble_eq_true rfl) | (refine mulS ?cm1 ?cm2 <;> omega) | (refine divS ?cm1 <;> omega) | (refine And.intro ?cd1 ?cd2 <;> decide) | (exact line_le (Nat.le_of_ble_eq_true rfl)) | (exact line_lt (Nat.le_of_ble_eq_true rfl)) | (refine' Exists.intro _ (Exists.intro _ (And.intro rfl ?cm1)); (case cm1 => walk_at "at")) | (exact log_le (by omega)) | walk_at "len" | solve_by_elim | fail "no cond")
local macro_rules | `(tactic| walk_at "src") => `(tactic| first | assumption | (refine SrcStep.srcAt (S := ?ss) ?st; (case st => assumption)) | (refine SrcAt.app ?st; (case st => walk_at "src")))
local macro_rules | `(tactic| walk_at "draw") => `(tactic| (refine' Exists.intro _ (Exists.intro _ (Exists.intro ?nn (And.intro rfl (And.intro ?d1 (And.intro ?d2 (And.intro ?d3 (fun r S' h0 h1 hst => ?_))))))); (case d1 => walk_at "src"); (case d2 => omega); (case d3 => omega)))
local macro_rules | `(tactic| walk_at "steps") => `(tactic| first | assumption | (refine SrcStep.trans (n := ?sn) (S1 := ?sm) ?sx ?sy; (case sy => assumption); (case sx => walk_at "steps")) | (refine SrcAt.refl ?sz; assumption))
local macro_rules | `(tactic| walk_at "side") => `(tactic| (refine And.intro ?sd ?_; (case sd => walk_at "cond")))
local macro_rules | `(tactic| walk_at "go1") => `(tactic| (conv => whnf) <;> (first | walk_at "get" | walk_at "bool" | walk_at "draw" | walk_at "side" | fail "no step"))
local macro_rules | `(tactic| walk_at "go") => `(tactic| (repeat' (walk_at "go1")); (all_goals try (conv => whnf)))

def TwoAt (l m : Nat) (S : Store) (a b : Ob) (S' : Store) : Prop := ∃ S0 X, SrcStep l m S S0 ∧ S' = S0 ++ (a :: b :: X)
theorem SrcStep.app {l m : Nat} {S0 X S' : Store} (hl : l < S0.length) (h : SrcStep l m (S0 ++ X) S') : ∃ S1, SrcStep l m S0 S1 ∧ S' = S1 ++ X := by
  obtain ⟨o, h1, h2, rfl⟩ := h
  exact ⟨S0.set l o, ⟨o, hl, h2, rfl⟩, List.set_append_left _ _ hl⟩
section
variable {l m m' : Nat} {S S' S'' Y : Store} {a b c : Ob}
theorem TwoAt.lt (t : TwoAt l m S a b S') : l < S.length := by
  obtain ⟨S0, X, ⟨o, h, _, rfl⟩, rfl⟩ := t
  exact h
theorem TwoAt.len (t : TwoAt l m S a b S') : S.length + 2 ≤ S'.length := by
  obtain ⟨S0, X, h, rfl⟩ := t
  rw [List.length_append, h.len, List.length_cons, List.length_cons]; omega
theorem TwoAt.srcAt (t : TwoAt l m S a b S') : SrcAt S' l m := by
  have hl := t.lt
  obtain ⟨S0, X, h, rfl⟩ := t
  obtain ⟨o, e, q⟩ := h.srcAt
  exact ⟨o, by rw [List.getElem?_append_left (by rw [h.len]; exact hl)]; exact e, q⟩
theorem TwoAt.fst (t : TwoAt l m S a b S') : S'[S.length]? = some a := by
  obtain ⟨S0, X, h, rfl⟩ := t
  rw [← h.len, List.getElem?_append_right (Nat.le_refl _), Nat.sub_self]; rfl
theorem TwoAt.snd (t : TwoAt l m S a b S') : S'[S.length + 1]? = some b := by
  obtain ⟨S0, X, h, rfl⟩ := t
  rw [← h.len, List.getElem?_append_right (by omega), show S0.length + 1 - S0.length = 1 by omega]; rfl
theorem TwoAt.step (t : TwoAt l m S a b S') (h : SrcStep l m' S' S'') : TwoAt l m' S a b S'' := by
  have hl := t.lt
  obtain ⟨S0, X, h0, rfl⟩ := t
  obtain ⟨S1, h1, rfl⟩ := SrcStep.app (by rw [h0.len]; exact hl) h
  exact ⟨S1, X, h0.trans h1, rfl⟩
theorem TwoAt.push (t : TwoAt l m S a b S') : TwoAt l m S a b (S' ++ Y) := by
  obtain ⟨S0, X, h0, rfl⟩ := t
  exact ⟨S0, X ++ Y, h0, by rw [List.append_assoc]; rfl⟩
theorem TwoAt.set1 (t : TwoAt l m S a b S') : TwoAt l m S c b (S'.set S.length c) := by
  obtain ⟨S0, X, h0, rfl⟩ := t
  refine ⟨S0, X, h0, ?_⟩
  rw [← h0.len, List.set_append_right _ _ (Nat.le_refl _), Nat.sub_self]; rfl
theorem TwoAt.set2 (t : TwoAt l m S a b S') : TwoAt l m S a c (S'.set (S.length + 1) c) := by
  obtain ⟨S0, X, h0, rfl⟩ := t
  refine ⟨S0, X, h0, ?_⟩
  rw [← h0.len, List.set_append_right _ _ (by omega), show S0.length + 1 - S0.length = 1 by omega]; rfl
theorem TwoAt.mono (t : TwoAt l m S a b S') (h : m ≤ m') : TwoAt l m' S a b S' := by
  obtain ⟨S0, X, h0, rfl⟩ := t
  exact ⟨S0, X, h0.mono h, rfl⟩
end
local macro_rules | `(tactic| walk_at "two") => `(tactic| first | assumption | (refine TwoAt.step (m := ?ma) (S' := ?sa) ?st ?sh; (case sh => assumption); (case st => walk_at "two")) | (refine TwoAt.push ?st; (case st => walk_at "two")))
local macro_rules | `(tactic| walk_at "tw") => `(tactic| (refine TwoAt.mono (m := ?mz) ?h1 ?h2; (case h1 => walk_at "two"); (case h2 => omega)))
structure Th where
  x : Int
  y : Int
  kind : Str
def Th.pt (t : Th) : D := .tup [.int t.x, .int t.y]
def Th.d (t : Th) : D := .tup [.int t.x, .int t.y, .str t.kind]
def Th.Ok (w h : Int) (t : Th) : Prop := ((t.kind = "|" ∨ t.kind = "-") ∧ 0 < t.x ∧ t.x < 2 * w ∧ 0 < t.y ∧ t.y < 2 * h ∧ (t.x + t.y) % 2 = 1) ∨ (t.kind = "o" ∧ Wall w h t.x t.y)
structure ThsOk (w h : Int) (ts : List Th) : Prop where
  all : ∀ t ∈ ts, t.Ok w h
  nd : (ts.map fun t => (t.x, t.y)).Nodup
def spThings : DSp := fun ds S Q E => ∃ (l : Nat) (w h m dr : Int) (n : Nat), ds = [.loc l, sizeD w h, .int m, .int dr] ∧ SrcAt S l n ∧ n < 50000000 ∧ (1 ≤ w ∧ w ≤ 1000000000000000 ∧ 1 ≤ h ∧ h ≤ 1000000000000000) ∧ (0 ≤ m ∧ m ≤ 100) ∧ (0 ≤ dr ∧ dr ≤ 1000) ∧
  ∀ (ts : List Th) S', ThsOk w h ts → (ts.length : Int) ≤ m → SrcStep l (n + 1400) S S' → Q (.tup (ts.map Th.d)) S'
theorem n__law_drawn_things : ∀ ds S Q E, spThings ds S Q E → ds.length = 4 := by
  rintro ds S Q E ⟨l, w, h, m, dr, n, rfl, _⟩
  rfl
theorem pt_eqv (x y a b : Int) : PyData.eqv (py (.tup [.int x, .int y])) (py (.tup [.int a, .int b])) = decide (x = a ∧ y = b) := by
  show ((x == a) && ((y == b) && true)) = _
  rw [Bool.and_true, Bool.decide_and, Bool.beq_eq_decide_eq, Bool.beq_eq_decide_eq]
theorem pts_in (x y : Int) (ts : List Th) : inD (.tup [.int x, .int y]) (ts.map Th.pt) = decide ((x, y) ∈ ts.map fun t => (t.x, t.y)) := by
  induction ts with
  | nil => rfl
  | cons t r ih =>
    show (PyData.eqv (py t.pt) (py (.tup [.int x, .int y])) || inD _ (r.map Th.pt)) = _
    rw [ih]
    unfold Th.pt
    rw [pt_eqv, ← Bool.decide_or]
    apply decide_eq_decide.mpr
    rw [List.map_cons, List.mem_cons, Prod.mk.injEq]
    constructor
    · rintro (⟨h1, h2⟩ | h)
      · exact Or.inl ⟨h1.symm, h2.symm⟩
      · exact Or.inr h
    · rintro (⟨h1, h2⟩ | h)
      · exact Or.inl ⟨h1.symm, h2.symm⟩
      · exact Or.inr h
theorem th_add {w h x y : Int} {kd : Str} {ts : List Th} (ok : ThsOk w h ts) (hk : ((kd = "|" ∨ kd = "-") ∧ (x + y) % 2 = 1) ∨ (kd = "o" ∧ Wall w h x y)) (hn : inD (.tup [.int x, .int y]) (ts.map Th.pt) = false)
    (hi : (0 < x ∧ x < 2 * w ∧ 0 < y ∧ y < 2 * h) ∨ kd = Str.ofString "o") : ThsOk w h (ts ++ [⟨x, y, kd⟩]) := by
  refine ⟨fun t ht => ?_, ?_⟩
  · rcases List.mem_append.mp ht with ht | ht
    · exact ok.all t ht
    · rw [List.mem_singleton] at ht
      subst ht
      rcases hk with ⟨h1, h2⟩ | h1
      · refine Or.inl ⟨h1, ?_⟩
        rcases hi with ⟨a, b, c, d⟩ | e
        · exact ⟨a, b, c, d, h2⟩
        · subst e
          exact absurd h1 (by decide)
      · exact Or.inr h1
  · rw [List.map_append]
    refine List.nodup_append.mpr ⟨ok.nd, by simp, ?_⟩
    rw [pts_in] at hn
    have hn := of_decide_eq_false hn
    intro a ha b hb e
    rw [List.map_cons, List.map_nil, List.mem_singleton] at hb
    subst hb
    subst e
    exact hn ha
theorem pts_ends {ts : List Th} (h : PyData.eqv (py (.lst (ts.map Th.pt))) (py (.lst [])) = false) : ∃ t t' : Th, atI (ts.map Th.pt) (-1) = some t.pt ∧ atI (ts.map Th.pt) 0 = some t'.pt := by
  rcases List.eq_nil_or_concat ts with rfl | ⟨r, x, rfl⟩
  · exact absurd h (by decide +kernel)
  · obtain ⟨y, r', e⟩ := List.exists_cons_of_ne_nil (l := r ++ [x]) (by simp)
    refine ⟨x, y, ?_, ?_⟩
    · rw [List.concat_eq_append, List.map_append]; exact atI_last _ _
    · rw [List.concat_eq_append, e]; exact atI_nat (j := 0) rfl
def TJ (l : Nat) (w h m dr : Int) (S : Store) (ts : List Th) (i : Option D) (way : Int) (k : Nat) (ρ' : Rho) (S' : Store) : Prop := ∃ (x y : Int) (u4 u5 u7 : Option D),
  ρ' = [some (.loc l), some (sizeD w h), some (.int m), some (.int dr), some (.int w), some (.int h), some (.loc S.length), some (.loc (S.length + 1)), i, some (.int way), some (.int x), some (.int y), u4, u5, u7] ∧
  TwoAt l k S (.lst (ts.map Th.d)) (.lst (ts.map Th.pt)) S'
def TK (l : Nat) (w h m dr : Int) (S : Store) (ts : List Th) (i : Option D) (way : Int) (kd : Str) (k : Nat) (ρ' : Rho) (S' : Store) : Prop := ∃ (x y : Int) (u5 u7 : Option D),
  ρ' = [some (.loc l), some (sizeD w h), some (.int m), some (.int dr), some (.int w), some (.int h), some (.loc S.length), some (.loc (S.length + 1)), i, some (.int way), some (.int x), some (.int y), some (.str kd), u5, u7] ∧
  (x + y) % 2 = 1 ∧ TwoAt l k S (.lst (ts.map Th.d)) (.lst (ts.map Th.pt)) S'
def TF (l : Nat) (w h m dr : Int) (S : Store) (ts : List Th) (i : Option D) (way : Int) (k : Nat) (ρ' : Rho) (S' : Store) : Prop := ∃ (x y : Int) (kd : Str) (u5 u7 : Option D),
  ρ' = [some (.loc l), some (sizeD w h), some (.int m), some (.int dr), some (.int w), some (.int h), some (.loc S.length), some (.loc (S.length + 1)), i, some (.int way), some (.int x), some (.int y), some (.str kd), u5, u7] ∧
  (((kd = "|" ∨ kd = "-") ∧ (x + y) % 2 = 1) ∨ (kd = "o" ∧ Wall w h x y)) ∧ TwoAt l k S (.lst (ts.map Th.d)) (.lst (ts.map Th.pt)) S'
section
variable {P : Program} {w : World} {K : PySem.W.Frag} {mg : Str → Option Value} {base : Heap} {A : Ads} {B : Fds}
theorem ok__law_drawn_things (T : Txt w K mg A B) : FnOk P w K mg base CX0 3 A.a_law_drawn_things B.a_law_drawn_things ["_law_source_here", "_law_size", "_law_most", "_law_doors"] (spOf K 4 spThings) := by
  refine dfn_ok T.F__law_drawn_things sc__law_drawn_things n__law_drawn_things (fun cdv A outer s H E hr => (ds_cons (ds_asg (dv 1) (dg_tup (n := 2) rfl (dgs_cons (dg_name (i := 4) sc__law_drawn_things.nd rfl (.inl rfl)) (dgs_cons (dg_name (i := 5) sc__law_drawn_things.nd rfl (.inl rfl)) dgs_nil))))
      (ds_cons (ds_set (i := 6) sc__law_drawn_things.nd rfl (.inl rfl) (de_lst da_nil))
      (ds_cons (ds_set (i := 7) sc__law_drawn_things.nd rfl (.inl rfl) (de_lst da_nil))
      (ds_cons (ds_for PassesOwn.never rfl (di_rng1 rfl T.z_range (da_cons (de_call (ok__law_draw T) (hr.mono (by decide)) rfl T.g__law_draw T.k__law_draw T.b__law_draw .nil rpl_nil pass0 n__law_draw (da_cons (dv 0) (da_cons (de_op od_add (dv 2) de_int) da_nil))) da_nil)) (dg_name (i := 8) sc__law_drawn_things.nd rfl (.inl rfl)) (ds_cons (ds_set (i := 9) sc__law_drawn_things.nd rfl (.inl rfl) (de_call (ok__law_draw T) (hr.mono (by decide)) rfl T.g__law_draw T.k__law_draw T.b__law_draw .nil rpl_nil pass0 n__law_draw (da_cons (dv 0) (da_cons de_int da_nil))))
      (ds_cons (ds_par (i := 10) (j := 11) rfl sc__law_drawn_things.nd rfl rfl (by decide) rfl rfl (da_cons (de_call (ok__law_draw T) (hr.mono (by decide)) rfl T.g__law_draw T.k__law_draw T.b__law_draw .nil rpl_nil pass0 n__law_draw (da_cons (dv 0) (da_cons (de_op od_add (de_op od_mul de_int (dv 4)) de_int) da_nil))) (da_cons (de_call (ok__law_draw T) (hr.mono (by decide)) rfl T.g__law_draw T.k__law_draw T.b__law_draw .nil rpl_nil pass0 n__law_draw (da_cons (dv 0) (da_cons (de_op od_add (de_op od_mul de_int (dv 5)) de_int) da_nil))) da_nil)) (by rfl))
      (ds_cons (ds_mark 1 (ds_if (dt_cmp od_eqI (dv 9) de_int (nomark _)) (ds_one (ds_par (i := 10) (j := 11) rfl sc__law_drawn_things.nd rfl rfl (by decide) rfl rfl (da_cons (de_op od_mod (dv 10) de_int) (da_cons (de_op od_mod (dv 11) de_int) da_nil)) (by rfl))) ds_nil))
      (ds_cons (ds_mark 2 (ds_if (DW.pt (dw_and (dt_cmp od_eqI (dv 9) de_int (nomark _)) (dw_and1 (dt_cmp (od_ne hr.units) (dv 7) (de_lst da_nil) (nomark _))))) (ds_one (ds_par (i := 10) (j := 11) rfl sc__law_drawn_things.nd rfl rfl (by decide) rfl rfl (da_cons (de_op od_sub (de_op od_add (de_ix ix_any (de_ix ix_any (dv 7) (de_neg de_int) (fun _ _ => rfl)) de_int (fun _ _ => rfl)) (de_call (ok__law_draw T) (hr.mono (by decide)) rfl T.g__law_draw T.k__law_draw T.b__law_draw .nil rpl_nil pass0 n__law_draw (da_cons (dv 0) (da_cons de_int da_nil)))) de_int) (da_cons (de_op od_sub (de_op od_add (de_ix ix_any (de_ix ix_any (dv 7) (de_neg de_int) (fun _ _ => rfl)) de_int (fun _ _ => rfl)) (de_call (ok__law_draw T) (hr.mono (by decide)) rfl T.g__law_draw T.k__law_draw T.b__law_draw .nil rpl_nil pass0 n__law_draw (da_cons (dv 0) (da_cons de_int da_nil)))) de_int) da_nil)) (by rfl))) ds_nil))
      (ds_cons (ds_mark 3 (ds_if (DW.pt (dw_and (dt_cmp od_eqI (dv 9) de_int (nomark _)) (dw_and1 (dt_cmp (od_ne hr.units) (dv 7) (de_lst da_nil) (nomark _))))) (ds_cons (ds_set (i := 14) sc__law_drawn_things.nd rfl (.inl rfl) (de_call (ok__law_draw T) (hr.mono (by decide)) rfl T.g__law_draw T.k__law_draw T.b__law_draw .nil rpl_nil pass0 n__law_draw (da_cons (dv 0) (da_cons (dv 4) da_nil))))
      (ds_one (ds_par (i := 10) (j := 11) rfl sc__law_drawn_things.nd rfl rfl (by decide) rfl rfl (da_cons (de_op od_add (de_ix ix_any (de_ix ix_any (dv 7) de_int (fun _ _ => rfl)) de_int (fun _ _ => rfl)) (dv 14)) (da_cons (de_op od_add (de_ix ix_any (de_ix ix_any (dv 7) de_int (fun _ _ => rfl)) de_int (fun _ _ => rfl)) (dv 14)) da_nil)) (by rfl)))) ds_nil))
      (ds_cons (ds_set (i := 12) sc__law_drawn_things.nd rfl (.inl rfl) (de_ix ix_any (de_lst (da_cons de_str (da_cons de_str da_nil))) (de_call (ok__law_draw T) (hr.mono (by decide)) rfl T.g__law_draw T.k__law_draw T.b__law_draw .nil rpl_nil pass0 n__law_draw (da_cons (dv 0) (da_cons de_int da_nil))) (fun _ _ => rfl)))
      (ds_cons (ds_mark 4 (ds_if (dt_cmp od_eqI (de_op od_mod (de_op od_add (dv 10) (dv 11)) de_int) de_int (nomark _)) (ds_one (ds_set (i := 10) sc__law_drawn_things.nd rfl (.inl rfl) (de_op od_add (dv 10) de_int))) ds_nil))
      (ds_cons (ds_mark 5 (ds_if (DW.pt (dw_and (dt_cmp od_gt (dv 3) de_int (nomark _)) (dw_and1 (dt_cmp od_eqI (de_call (ok__law_draw T) (hr.mono (by decide)) rfl T.g__law_draw T.k__law_draw T.b__law_draw .nil rpl_nil pass0 n__law_draw (da_cons (dv 0) (da_cons (dv 3) da_nil))) de_int (nomark _))))) (ds_cons (ds_asg (de_call (ok__law_shut_point T) (hr.mono (by decide)) rfl T.g__law_shut_point T.k__law_shut_point T.b__law_shut_point .nil rpl_nil pass0 n__law_shut_point (da_cons (dv 0) (da_cons (dv 1) da_nil))) (dg_tup (n := 2) rfl (dgs_cons (dg_name (i := 10) sc__law_drawn_things.nd rfl (.inl rfl)) (dgs_cons (dg_name (i := 11) sc__law_drawn_things.nd rfl (.inl rfl)) dgs_nil))))
      (ds_one (ds_set (i := 12) sc__law_drawn_things.nd rfl (.inl rfl) de_str))) ds_nil))
      (ds_cons (ds_set (i := 13) sc__law_drawn_things.nd rfl (.inl rfl) (de_and (de_chain od_lt od_lt de_int (dv 10) (de_op od_mul de_int (dv 4))) (de_one (de_chain od_lt od_lt de_int (dv 11) (de_op od_mul de_int (dv 5))))))
      (ds_one (ds_if (DW.pt (dw_and (DW.pt (dw_or (dt_val (dv 13)) (dw_or1 (dt_cmp od_eqI (dv 12) de_str (nomark _))))) (dw_and1 (dt_cmp (od_notIn (hu65 hr)) (de_tup (da_cons (dv 10) (da_cons (dv 11) da_nil))) (dv 7) (by rfl))))) (ds_cons (ds_expr (de_append (dv 7) (de_tup (da_cons (dv 10) (da_cons (dv 11) da_nil)))))
      (ds_one (ds_expr (de_append (dv 6) (de_tup (da_cons (dv 10) (da_cons (dv 11) (da_cons (dv 12) da_nil)))))))) ds_nil))))))))))))
      (ds_one (ds_ret (de_callTy cd_tuple rfl T.z_tuple (by decide +kernel) (da_cons (dv 6) da_nil))))))))) ?_
  rintro ds S Q E bd ⟨l, w, h, m, dr, n, rfl, hs, hn, ⟨hw1, hw2, hh1, hh2⟩, ⟨hm1, hm2⟩, ⟨hd1, hd2⟩, q⟩
  have t0 : TwoAt l n S (.lst []) (.lst []) (S ++ [Ob.lst []] ++ [Ob.lst []]) := ⟨S, [], SrcAt.refl hs, by rw [List.append_assoc]; rfl⟩
  have g0 := t0.srcAt
  have hl1 : (S ++ [Ob.lst []]).length = S.length + 1 := by rw [List.length_append]; rfl
  walk_at "go"
  rw [hl1]
  rename_i r S1 r0 r1 st1
  have t1 := t0.step st1
  refine forL_inv (fun k ρ' S' => ∃ (ts : List Th) (u1 u2 u3 u4 u5 u6 u7 : Option D), ρ' = [some (.loc l), some (sizeD w h), some (.int m), some (.int dr), some (.int w), some (.int h), some (.loc S.length), some (.loc (S.length + 1)), u1, u2, u3, u4, u5, u6, u7] ∧ ThsOk w h ts ∧ ts.length ≤ k ∧ TwoAt l (n + 1 + 12 * k) S (.lst (ts.map Th.d)) (.lst (ts.map Th.pt)) S') _ 0 _ _ ⟨[], none, none, none, none, none, none, none, rfl, ⟨(fun _ h => nomatch h), .nil⟩, Nat.le_refl _, t1.mono (by omega)⟩ ?_ ?_
  · intro j x ρ S2 hj ⟨ts, u1, u2, u3, u4, u5, u6, u7, e1, ok, hlen, t⟩ N hN
    subst e1
    rw [Nat.zero_add] at hlen t hN
    have hlt := t.lt
    have g0 := t.srcAt
    have hj2 : j < 101 := by have := (intsFrom_get hj).1; omega
    clear hs g0 t0 t1
    have g0 := t.srcAt
    have g1 := t.fst
    have g2 := t.snd
    have hok : okD 12 (.lst (ts.map Th.pt)) = true := by
      show (ts.map Th.pt).all (okD 11) = true
      rw [List.all_map, List.all_eq_true]; intro _ _; rfl
    walk_at "go"
    rename_i way S3 v0 v1 st3 x0 S4 v2 v3 st4 y0 S5 v4 v5 st5
    have tt : TwoAt l (n + 1 + 12 * j + 3) S (.lst (ts.map Th.d)) (.lst (ts.map Th.pt)) S5 := t.step (by walk_at "steps")
    clear v0 v1 v2 v3 v4 v5 st3 st4 st5 g0 g1 g2
    refine mark_join (TJ l w h m dr S ts (some x) way (n + 1 + 12 * j + 3) ) (fun N hN => ?_) ?_
    · walk_at "go"
      · exact hN _ _ ⟨_, _, _, _, _, rfl, tt⟩
      · exact hN _ _ ⟨_, _, _, _, _, rfl, tt⟩
    clear tt
    rintro ρ' S6 ⟨x1, y1, u4, u5, u7, rfl, tt⟩
    have g0 := tt.srcAt
    have g1 := tt.fst
    have g2 := tt.snd
    refine mark_join (TJ l w h m dr S ts (some x) way (n + 1 + 12 * j + 5) ) (fun N hN => ?_) ?_
    · walk_at "go"
      · obtain ⟨t1, t2, e1, e2⟩ := pts_ends (ts := ts) (by assumption)
        walk_at "go"
        exact hN _ _ ⟨_, _, _, _, _, rfl, by walk_at "tw"⟩
      · exact hN _ _ ⟨_, _, _, _, _, rfl, by walk_at "tw"⟩
      · exact hN _ _ ⟨_, _, _, _, _, rfl, by walk_at "tw"⟩
    clear tt g0 g1 g2
    rintro ρ' S6 ⟨x1, y1, u4, u5, u7, rfl, tt⟩
    have g0 := tt.srcAt
    have g1 := tt.fst
    have g2 := tt.snd
    refine mark_join (TJ l w h m dr S ts (some x) way (n + 1 + 12 * j + 6)) (fun N hN => ?_) ?_
    · walk_at "go"
      · obtain ⟨t1, t2, e1, e2⟩ := pts_ends (ts := ts) (by assumption)
        walk_at "go"
        exact hN _ _ ⟨_, _, _, _, _, rfl, by walk_at "tw"⟩
      · exact hN _ _ ⟨_, _, _, _, _, rfl, by walk_at "tw"⟩
      · exact hN _ _ ⟨_, _, _, _, _, rfl, by walk_at "tw"⟩
    clear tt g0 g1 g2
    rintro ρ' S6 ⟨x1, y1, u4, u5, u7, rfl, tt⟩
    have g0 := tt.srcAt
    have g1 := tt.fst
    have g2 := tt.snd
    walk_at "go"
    rename_i kr S7 k0 k1 st7
    obtain ⟨kd, hk, ek⟩ : ∃ kd : Str, (kd = "|" ∨ kd = "-") ∧ atI [D.str (Str.ofString "|"), D.str (Str.ofString "-")] kr = some (.str kd) := by
      have : kr = 0 ∨ kr = 1 := by omega
      rcases this with rfl | rfl
      · exact ⟨_, Or.inl rfl, rfl⟩
      · exact ⟨_, Or.inr rfl, rfl⟩
    have gl := tt.len
    walk_at "go"
    have tt2 : TwoAt l (n + 1 + 12 * j + 7) S (.lst (ts.map Th.d)) (.lst (ts.map Th.pt)) S7 := by walk_at "tw"
    clear tt st7 ek g0 g1 g2 gl
    refine mark_join (TK l w h m dr S ts (some x) way kd (n + 1 + 12 * j + 7)) (fun N hN => ?_) ?_
    · walk_at "go"
      · exact hN _ _ ⟨_, _, _, _, rfl, by omega, tt2⟩
      · exact hN _ _ ⟨_, _, _, _, rfl, by omega, tt2⟩
    clear tt2
    rintro ρ' S6 ⟨x1, y1, u5, u7, rfl, hodd, tt⟩
    have g0 := tt.srcAt
    refine mark_join (TF l w h m dr S ts (some x) way (n + 1 + 12 * j + 11)) (fun N hN => ?_) ?_
    · walk_at "go"
      · refine' Exists.intro _ (Exists.intro _ (Exists.intro _ (Exists.intro ?nn (And.intro rfl (And.intro ?d1 (And.intro ?d2 (And.intro ⟨hw1, hw2, hh1, hh2⟩ fun x y S' hwall hst => ?_)))))))
        case d1 => walk_at "src"
        case d2 => omega
        walk_at "go"
        exact hN _ _ ⟨_, _, _, _, _, rfl, Or.inr ⟨rfl, hwall⟩, by walk_at "tw"⟩
      · exact hN _ _ ⟨_, _, _, _, _, rfl, Or.inl ⟨hk, hodd⟩, by walk_at "tw"⟩
      · exact hN _ _ ⟨_, _, _, _, _, rfl, Or.inl ⟨hk, hodd⟩, by walk_at "tw"⟩
    clear tt g0 hk
    rintro ρ' S6 ⟨x1, y1, kd, u5, u7, rfl, hk, tt⟩
    have g0 := tt.srcAt
    have g1 := tt.fst
    have g2 := tt.snd
    have gl := tt.len
    have hz1 : (ts.map Th.pt).length < sizeLine := line_lt (by rw [List.length_map]; omega)
    have hz2 : (ts.map Th.d).length < sizeLine := line_lt (by rw [List.length_map]; omega)
    have hok1 : (ts.map Th.pt).all (okD 11) = true := by
      rw [List.all_map, List.all_eq_true]; intro _ _; rfl
    walk_at "go"
    all_goals first
      | (refine hN _ _ ⟨ts, _, _, _, _, _, _, _, rfl, ok, by omega, ?_⟩
         walk_at "tw")
      | (refine hN _ _ ⟨ts ++ [⟨x1, y1, kd⟩], _, _, _, _, _, _, _, rfl, ?_, ?_, ?_⟩
         · exact th_add ok hk (by assumption) (by first | (right; assumption) | (left; refine ⟨?_, ?_, ?_, ?_⟩ <;> omega))
         · rw [List.length_append]; simp only [List.length_cons, List.length_nil]; omega
         · rw [List.map_append, List.map_append]
           exact ((tt.set2).set1).mono (by omega))
  · rw [intsFrom_len]
    rintro ρ' S2 ⟨ts, u1, u2, u3, u4, u5, u6, u7, rfl, ok, hlen, t⟩
    have g1 := t.fst
    walk_at "go"
    obtain ⟨S0, X, st, rfl⟩ := t
    refine Rt.srcs st ?_ (q ts S0 ok (by omega) (st.mono (by omega)))
    exact bndL_map fun _ => ⟨trivial, trivial, trivial, trivial⟩
end
end K

namespace K
open PySem L2 DL
local macro_rules | `(tactic| walk_at "w") => `(tactic| (conv => whnf))
local macro_rules | `(tactic| walk_at "at") => `(tactic| first | assumption | (refine SrcStep.get (l := ?l0) (n := ?n0) (S := ?s0) ?h1 ?h2 ?h3; (case h1 => assumption); (case h2 => omega); (case h3 => walk_at "at")) | (refine set_same (o := ?oo) ?sm; (case sm => walk_at "at")) | (refine set_other ?sm ?sn; (case sn => omega); (case sm => walk_at "at")) | (exact getElem_push _ _) | (refine app_left ?sm; (case sm => walk_at "at")) | rfl)
local macro_rules | `(tactic| walk_at "get") => `(tactic| (refine Exists.intro ?wit (And.intro ?gt ?_); (case gt => walk_at "at")))
local macro_rules | `(tactic| walk_at "bool") => `(tactic| (refine And.intro (fun hcond => ?_) (fun hcond => ?_) <;> (first | (exact absurd hcond (by decide)) | (simp only [decide_eq_true_eq, decide_eq_false_iff_not, Bool.not_eq_true', Bool.not_eq_false', Int.not_lt, Int.not_le, inD_nil, inD_int_cons, Bool.or_eq_true, Bool.or_eq_false_iff, Bool.or_false, ne_eq, Decidable.not_not] at hcond) | skip)))
local macro_rules | `(tactic| walk_at "len") => `(tactic| (refine line_le6 ?_; (try simp only [len_cat, len_e]); omega))
local macro_rules | `(tactic| walk_at "cond") => `(tactic| first | assumption | rfl | exact True.intro | omega | (exact Nat.le_of_ble_eq_true rfl) | (refine mulS ?cm1 ?cm2 <;> omega) | (refine divS ?cm1 <;> omega) | (refine And.intro ?cd1 ?cd2 <;> decide) | (exact line_le (Nat.le_of_ble_eq_true rfl)) | (exact line_lt (Nat.le_of_ble_eq_true rfl)) | (refine' Exists.intro _ (Exists.intro _ (And.intro rfl ?cm1)); (case cm1 => walk_at "at")) | (exact log_le (by omega)) | walk_at "len" | solve_by_elim | fail "no cond")
local macro_rules | `(tactic| walk_at "src") => `(tactic| first | assumption | (refine SrcStep.srcAt (S := ?ss) ?st; (case st => assumption)) | (refine SrcAt.app ?st; (case st => walk_at "src")))
local macro_rules | `(tactic| walk_at "draw") => `(tactic| (refine' Exists.intro _ (Exists.intro _ (Exists.intro ?nn (And.intro rfl (And.intro ?d1 (And.intro ?d2 (And.intro ?d3 (fun r S' h0 h1 hst => ?_))))))); (case d1 => walk_at "src"); (case d2 => omega); (case d3 => omega)))
local macro_rules | `(tactic| walk_at "steps") => `(tactic| first | assumption | (refine SrcStep.trans (n := ?sn) (S1 := ?sm) ?sx ?sy; (case sy => assumption); (case sx => walk_at "steps")) | (refine SrcAt.refl ?sz; assumption))
local macro_rules | `(tactic| walk_at "side") => `(tactic| (refine And.intro ?sd ?_; (case sd => walk_at "cond")))
local macro_rules | `(tactic| walk_at "go1") => `(tactic| (conv => whnf) <;> (first | walk_at "get" | walk_at "bool" | walk_at "draw" | walk_at "side" | fail "no step"))
local macro_rules | `(tactic| walk_at "go") => `(tactic| (repeat' (walk_at "go1")); (all_goals try (conv => whnf)))

def Th.txt (t : Th) : Str := Str.empty ++ (toString t.x : String) ++ "," ++ (toString t.y : String) ++ t.kind
/-- the text of a floor -/
def shownT (w h : Int) (ts : List Th) : Str :=
  if Txt.join (Str.ofString " ") (ts.map Th.txt) = "" then Str.empty ++ "Floor(" ++ (toString w : String) ++ "x" ++ (toString h : String) ++ ")"
  else Str.empty ++ "Floor(" ++ (toString w : String) ++ "x" ++ (toString h : String) ++ ": " ++ Txt.join (Str.ofString " ") (ts.map Th.txt) ++ ")"
def spText : DSp := fun ds S Q E => ∃ (w h : Int) (ts : List Th), ds = [.int w, .int h, .tup (ts.map Th.d)] ∧ (1 ≤ w ∧ w ≤ 1000000000000000 ∧ 1 ≤ h ∧ h ≤ 1000000000000000) ∧ ThsOk w h ts ∧ ts.length ≤ 100 ∧
  Q (.str (shownT w h ts)) S
theorem Th.Ok.box {w h : Int} {t : Th} (o : t.Ok w h) (hw : 1 ≤ w) (hh : 1 ≤ h) : 0 ≤ t.x ∧ t.x ≤ 2 * w ∧ 0 ≤ t.y ∧ t.y ≤ 2 * h ∧ (t.x + t.y) % 2 = 1 := by
  rcases o with ⟨_, a, b, c, d, e⟩ | ⟨_, h1 | h1⟩
  · exact ⟨by omega, by omega, by omega, by omega, e⟩
  · obtain ⟨h2, h3, h4, h5⟩ := h1
    exact ⟨by omega, by omega, h3, h4, by omega⟩
  · obtain ⟨h2, h3, h4, h5⟩ := h1
    exact ⟨h3, h4, by omega, by omega, by omega⟩
theorem Th.Ok.kl {w h : Int} {t : Th} (o : t.Ok w h) : t.kind.length = 1 := by
  rcases o with ⟨h1 | h1, _⟩ | ⟨h1, _⟩ <;> (rw [h1]; rfl)
def txtF : D → Option D
  | .tup [.int x, .int y, .str k] => some (.str (Th.txt ⟨x, y, k⟩))
  | _ => none
theorem txtF_map (ts : List Th) : (ts.map Th.d).filterMap txtF = (ts.map Th.txt).map D.str := by
  induction ts with
  | nil => rfl
  | cons t r ih => rw [List.map_cons, List.filterMap_cons_some (b := D.str t.txt) (by rfl), ih, List.map_cons, List.map_cons]
theorem n_shown_text : ∀ ds S Q E, spText ds S Q E → ds.length = 3 := by
  rintro ds S Q E ⟨w, h, ts, rfl, _⟩
  rfl
section
variable {P : Program} {w : World} {K : PySem.W.Frag} {mg : Str → Option Value} {base : Heap} {A : Ads} {B : Fds}
theorem ok_shown_text (T : Txt w K mg A B) : FnOk P w K mg base CX0 1 A.a_shown_text B.a_shown_text ["width", "height", "things"] (spOf K 3 spText) := by
  refine dfn_ok T.F_shown_text sc_shown_text n_shown_text (fun cdv A outer s H E hr => (ds_cons (ds_set (i := 3) sc_shown_text.nd rfl (.inl rfl) (de_join de_str (de_gc (de_lc (own := [("x", 4), ("y", 5), ("kind", 6)]) rfl sc_shown_text.nd (di_tup (dv 2)) (blkOk_by (own := [("x", 4), ("y", 5), ("kind", 6)]) (N := ["width", "height", "things", "text", "x", "y", "kind"]) (sc := defScope s_shown_text) (by decide +kernel)) (fun _ _ _ _ _ => (dg_tup (n := 3) rfl (dgs_cons (dg_name (i := 4) sc_shown_text.nd rfl (.inl rfl)) (dgs_cons (dg_name (i := 5) sc_shown_text.nd rfl (.inl rfl)) (dgs_cons (dg_name (i := 6) sc_shown_text.nd rfl (.inl rfl)) dgs_nil))))) (fun _ _ _ _ _ => dts_nil) (fun _ _ _ _ _ => (de_joined (dj_cons (de_fmt (dv 4)) (dj_cons de_str (dj_cons (de_fmt (dv 5)) (dj_cons (de_fmt (dv 6)) dj_nil))))))))))
      (ds_one (ds_ret (de_ifExp (dt_cmp od_neI (dv 3) de_str (nomark _)) (de_joined (dj_cons de_str (dj_cons (de_fmt (dv 0)) (dj_cons de_str (dj_cons (de_fmt (dv 1)) (dj_cons de_str (dj_cons (de_fmt (dv 3)) (dj_cons de_str dj_nil)))))))) (de_joined (dj_cons de_str (dj_cons (de_fmt (dv 0)) (dj_cons de_str (dj_cons (de_fmt (dv 1)) (dj_cons de_str dj_nil))))))))))) ?_
  rintro ds S Q E bd ⟨w, h, ts, rfl, ⟨hw1, hw2, hh1, hh2⟩, hts, hlen, q⟩
  walk_at "go"
  refine ⟨⟨_, rfl⟩, ?_⟩
  refine comp_gc (ts.map Th.d) txtF (fun P h => h) (fun x hx acc k hk => ?_) (line_le (by rw [List.length_map]; omega)) ?_ ?_
  · obtain ⟨t, ht, rfl⟩ := List.mem_map.mp hx
    obtain ⟨b1, b2, b3, b4, b5⟩ := (hts.all t ht).box hw1 hh1
    have b6 := (hts.all t ht).kl
    have l2 : (Str.ofString ",").length = 1 := rfl
    have lx := len_int (i := t.x) (log2_small (by omega) (by decide))
    have ly := len_int (i := t.y) (log2_small (by omega) (by decide))
    walk_at "go"
    exact hk
  · rw [txtF_map]
    exact bndL_map fun _ => trivial
  · rw [txtF_map]
    have hz : ∀ y ∈ ts.map Th.txt, y.length ≤ 140 := by
      intro y hy
      obtain ⟨t, ht, rfl⟩ := List.mem_map.mp hy
      obtain ⟨b1, b2, b3, b4, b5⟩ := (hts.all t ht).box hw1 hh1
      have b6 := (hts.all t ht).kl
      have lx := len_int (i := t.x) (log2_small (by omega) (by decide))
      have ly := len_int (i := t.y) (log2_small (by omega) (by decide))
      have l2 : (Str.ofString ",").length = 1 := rfl
      unfold Th.txt
      simp only [len_cat, len_e]
      omega
    have hs := sum_le _ hz
    have hsl : (ts.map Th.txt).length = ts.length := List.length_map ..
    have hj := join_le (Str.ofString " ") (ts.map Th.txt)
    have hsp : (Str.ofString " ").length = 1 := rfl
    have lw := len_int (i := w) (log2_small (by omega) (by decide))
    have lh := len_int (i := h) (log2_small (by omega) (by decide))
    have l1 : (Str.ofString "Floor(").length = 6 := rfl
    have l2 : (Str.ofString "x").length = 1 := rfl
    have l3 : (Str.ofString ": ").length = 2 := rfl
    have l4 : (Str.ofString ")").length = 1 := rfl
    rw [hsp] at hj
    refine ⟨_, _, rfl, rfl, by rw [hsp]; omega, ?_⟩
    unfold shownT at q
    generalize Txt.join (Str.ofString " ") (ts.map Th.txt) = jj at hj q ⊢
    walk_at "go"
    · rename_i hc
      rw [if_neg hc] at q
      exact Rt.same (d := .str _) trivial q
    · rename_i hc
      rw [if_pos hc] at q
      exact Rt.same (d := .str _) trivial q
end
end K

namespace K
open PySem L2 DL
local macro_rules | `(tactic| walk_at "w") => `(tactic| (conv => whnf))
local macro_rules | `(tactic| walk_at "at") => `(tactic| first | assumption | (refine SrcStep.get (l := ?l0) (n := ?n0) (S := ?s0) ?h1 ?h2 ?h3; (case h1 => assumption); (case h2 => omega); (case h3 => walk_at "at")) | (refine set_same (o := ?oo) ?sm; (case sm => walk_at "at")) | (refine set_other ?sm ?sn; (case sn => omega); (case sm => walk_at "at")) | (exact getElem_push _ _) | (refine app_left ?sm; (case sm => walk_at "at")) | rfl)
local macro_rules | `(tactic| walk_at "get") => `(tactic| (refine Exists.intro ?wit (And.intro ?gt ?_); (case gt => walk_at "at")))
local macro_rules | `(tactic| walk_at "bool") => `(tactic| (refine And.intro (fun hcond => ?_) (fun hcond => ?_) <;> (first | (exact absurd hcond (by decide)) | (simp only [decide_eq_true_eq, decide_eq_false_iff_not, Bool.not_eq_true', Bool.not_eq_false', Int.not_lt, Int.not_le, inD_nil, inD_int_cons, Bool.or_eq_true, Bool.or_eq_false_iff, Bool.or_false, ne_eq, Decidable.not_not] at hcond) | skip)))
local macro_rules | `(tactic| walk_at "len") => `(tactic| (refine line_le6 ?_; (try simp only [len_cat, len_e]); omega))
local macro_rules | `(tactic| walk_at "cond") => `(tactic| first | assumption | rfl | exact True.intro | omega | (exact Nat.le_of_ble_eq_true rfl) | (refine mulS ?cm1 ?cm2 <;> omega) | (refine divS ?cm1 <;> omega) | (refine And.intro ?cd1 ?cd2 <;> decide) | (exact line_le (Nat.le_of_ble_eq_true rfl)) | (exact line_lt (Nat.le_of_ble_eq_true rfl)) | (refine' Exists.intro _ (Exists.intro _ (And.intro rfl ?cm1)); (case cm1 => walk_at "at")) | (exact log_le (by omega)) | walk_at "len" | solve_by_elim | fail "no cond")
local macro_rules | `(tactic| walk_at "src") => `(tactic| first | assumption | (refine SrcStep.srcAt (S := ?ss) ?st; (case st => assumption)) | (refine SrcAt.app ?st; (case st => walk_at "src")))
local macro_rules | `(tactic| walk_at "draw") => `(tactic| (refine' Exists.intro _ (Exists.intro _ (Exists.intro ?nn (And.intro rfl (And.intro ?d1 (And.intro ?d2 (And.intro ?d3 (fun r S' h0 h1 hst => ?_))))))); (case d1 => walk_at "src"); (case d2 => omega); (case d3 => omega)))
local macro_rules | `(tactic| walk_at "steps") => `(tactic| first | assumption | (refine SrcStep.trans (n := ?sn) (S1 := ?sm) ?sx ?sy; (case sy => assumption); (case sx => walk_at "steps")) | (refine SrcAt.refl ?sz; assumption))
local macro_rules | `(tactic| walk_at "side") => `(tactic| (refine And.intro ?sd ?_; (case sd => walk_at "cond")))
local macro_rules | `(tactic| walk_at "go1") => `(tactic| (conv => whnf) <;> (first | walk_at "get" | walk_at "bool" | walk_at "draw" | walk_at "side" | fail "no step"))
local macro_rules | `(tactic| walk_at "go") => `(tactic| (repeat' (walk_at "go1")); (all_goals try (conv => whnf)))

/-- an object of class C with these attributes (of those asked for) -/
def Has (C : Addr) (f : D) (S : Store) (F : List (Str × D) → Prop) : Prop := (∃ fs, f = .obj C fs ∧ F fs) ∨ ∃ l fs, f = .loc l ∧ S[l]? = some (.ins C fs) ∧ F fs
structure WH (w h : Int) (fs : List (Str × D)) : Prop where
  lw : fs.lookup ("width" : Str) = some (.int w)
  lh : fs.lookup ("height" : Str) = some (.int h)
  m1 : fs.lookup ("is_point" : Str) = none
  m2 : fs.lookup ("is_inner" : Str) = none
  m3 : fs.lookup ("may_stand" : Str) = none
  m4 : fs.lookup ("kind_at" : Str) = none
  w1 : 1 ≤ w
  w2 : w ≤ 1000000000000000
  h1 : 1 ≤ h
  h2 : h ≤ 1000000000000000
def Point (w h x y : Int) : Prop := 0 ≤ x ∧ x ≤ 2 * w ∧ 0 ≤ y ∧ y ≤ 2 * h ∧ (x + y) % 2 = 1
def Inner (w h x y : Int) : Prop := 0 < x ∧ x < 2 * w ∧ 0 < y ∧ y < 2 * h ∧ (x + y) % 2 = 1
def spPoint (C : Addr) : DSp := fun ds S Q E => ∃ (f : D) (w h x y : Int), ds = [f, .int x, .int y] ∧ Has C f S (WH w h) ∧ ∀ b : Bool, (b = true ↔ Point w h x y) → Q (.bl b) S
def spInner (C : Addr) : DSp := fun ds S Q E => ∃ (f : D) (w h x y : Int), ds = [f, .int x, .int y] ∧ Has C f S (WH w h) ∧ ∀ b : Bool, (b = true ↔ Inner w h x y) → Q (.bl b) S
def spStand (C : Addr) : DSp := fun ds S Q E => ∃ (f : D) (w h : Int) (t : Th), ds = [f, .int t.x, .int t.y, .str t.kind] ∧ Has C f S (WH w h) ∧ ∀ b : Bool, (b = true ↔ t.Ok w h) → Q (.bl b) S
theorem n_Floor_is_point {C : Addr} : ∀ ds S Q E, spPoint C ds S Q E → ds.length = 3 := by
  rintro ds S Q E ⟨f, w, h, x, y, rfl, _⟩
  rfl
theorem n_Floor_is_inner {C : Addr} : ∀ ds S Q E, spInner C ds S Q E → ds.length = 3 := by
  rintro ds S Q E ⟨f, w, h, x, y, rfl, _⟩
  rfl
theorem n_Floor_may_stand {C : Addr} : ∀ ds S Q E, spStand C ds S Q E → ds.length = 4 := by
  rintro ds S Q E ⟨f, w, h, t, rfl, _⟩
  rfl
theorem ok_iff {w h : Int} {t : Th} (hw : 1 ≤ w) (hh : 1 ≤ h) : t.Ok w h ↔ ((t.kind = "|" ∨ t.kind = "-") ∧ Inner w h t.x t.y) ∨ (t.kind = "o" ∧ Point w h t.x t.y ∧ ¬ Inner w h t.x t.y) := by
  unfold Th.Ok Inner Point Wall
  constructor
  · rintro (⟨a, b⟩ | ⟨a, b⟩)
    · exact Or.inl ⟨a, b⟩
    · exact Or.inr ⟨a, by omega, by omega⟩
  · rintro (⟨a, b⟩ | ⟨a, b, c⟩)
    · exact Or.inl ⟨a, b⟩
    · exact Or.inr ⟨a, by omega⟩
section
variable {P : Program} {w : World} {K : PySem.W.Frag} {mg : Str → Option Value} {base : Heap} {A : Ads} {B : Fds}
theorem ok_Floor_is_point (T : Txt w K mg A B) : FnOk P w K mg base CX0 1 A.a_Floor_is_point B.a_Floor_is_point ["self", "x", "y"] (spOf K 3 (spPoint A.a_Floor)) := by
  refine dfn_ok T.F_Floor_is_point sc_Floor_is_point n_Floor_is_point (fun cdv A outer s H E hr => (ds_one (ds_ret (de_and (de_chain od_le od_le de_int (dv 1) (de_op od_mul de_int (de_fld (dv 0) T.cl_Floor T.n_Floor_width))) (de_and (de_chain od_le od_le de_int (dv 2) (de_op od_mul de_int (de_fld (dv 0) T.cl_Floor T.n_Floor_height))) (de_one (de_cmp od_eqI (de_op od_mod (de_op od_add (dv 1) (dv 2)) de_int) de_int (nomark _)))))))) ?_
  rintro ds S Q E bd ⟨f, w, h, x, y, rfl, hf, q⟩
  rcases hf with ⟨fs, rfl, g⟩ | ⟨l, fs, rfl, he, g⟩
  all_goals
    obtain ⟨g1, g2, g3, g4, g5, g6, g7, g8, g9, g10⟩ := g
    walk_at "go"
    all_goals
      refine Rt.same (d := .bl _) trivial (q _ ?_)
      unfold Point
      simp only [decide_eq_true_eq, Bool.false_eq_true, false_iff]
      omega
theorem ok_Floor_is_inner (T : Txt w K mg A B) : FnOk P w K mg base CX0 1 A.a_Floor_is_inner B.a_Floor_is_inner ["self", "x", "y"] (spOf K 3 (spInner A.a_Floor)) := by
  refine dfn_ok T.F_Floor_is_inner sc_Floor_is_inner n_Floor_is_inner (fun cdv A outer s H E hr => (ds_one (ds_ret (de_and (de_chain od_lt od_lt de_int (dv 1) (de_op od_mul de_int (de_fld (dv 0) T.cl_Floor T.n_Floor_width))) (de_and (de_chain od_lt od_lt de_int (dv 2) (de_op od_mul de_int (de_fld (dv 0) T.cl_Floor T.n_Floor_height))) (de_one (de_cmp od_eqI (de_op od_mod (de_op od_add (dv 1) (dv 2)) de_int) de_int (nomark _)))))))) ?_
  rintro ds S Q E bd ⟨f, w, h, x, y, rfl, hf, q⟩
  rcases hf with ⟨fs, rfl, g⟩ | ⟨l, fs, rfl, he, g⟩
  all_goals
    obtain ⟨g1, g2, g3, g4, g5, g6, g7, g8, g9, g10⟩ := g
    walk_at "go"
    all_goals
      refine Rt.same (d := .bl _) trivial (q _ ?_)
      unfold Inner
      simp only [decide_eq_true_eq, Bool.false_eq_true, false_iff]
      omega
theorem kind_in (k : Str) : (([("|", D.str "-"), ("-", D.str "|")] : List (Str × D)).lookup k).isSome = decide (k = "|" ∨ k = "-") := by
  by_cases h1 : k = "|"
  · subst h1; rfl
  · by_cases h2 : k = "-"
    · subst h2; rfl
    · have e1 : (k == ("|" : Str)) = false := by simpa using h1
      have e2 : (k == ("-" : Str)) = false := by simpa using h2
      rw [List.lookup_cons, e1, List.lookup_cons, e2]
      simp [h1, h2]
theorem ok_a {w h : Int} {t : Th} (hw : 1 ≤ w) (hh : 1 ≤ h) (hk : t.kind = "|" ∨ t.kind = "-") : t.Ok w h ↔ Inner w h t.x t.y := by
  rw [ok_iff hw hh]
  constructor
  · rintro (⟨_, a⟩ | ⟨a, _⟩)
    · exact a
    · rcases hk with hk | hk <;> (rw [a] at hk; exact absurd hk (by decide))
  · intro h
    exact Or.inl ⟨hk, h⟩
theorem ok_b {w h : Int} {t : Th} (hw : 1 ≤ w) (hh : 1 ≤ h) (hk : t.kind = Str.ofString "o") : t.Ok w h ↔ (Point w h t.x t.y ∧ ¬ Inner w h t.x t.y) := by
  rw [ok_iff hw hh]
  constructor
  · rintro (⟨a, _⟩ | ⟨_, a⟩)
    · rcases a with a | a <;> (rw [hk] at a; exact absurd a (by decide))
    · exact a
  · intro h
    exact Or.inr ⟨hk, h⟩
theorem ok_c {w h : Int} {t : Th} (hw : 1 ≤ w) (hh : 1 ≤ h) (h1 : ¬ (t.kind = "|" ∨ t.kind = "-")) (hk : ¬ t.kind = Str.ofString "o") : ¬ t.Ok w h := by
  rw [ok_iff hw hh]
  rintro (⟨a, _⟩ | ⟨a, _⟩)
  · exact h1 a
  · exact hk a
theorem ok_Floor_may_stand (T : Txt w K mg A B) : FnOk P w K mg base CX0 2 A.a_Floor_may_stand B.a_Floor_may_stand ["self", "x", "y", "kind"] (spOf K 4 (spStand A.a_Floor)) := by
  refine dfn_ok T.F_Floor_may_stand sc_Floor_may_stand n_Floor_may_stand (fun cdv A outer s H E hr => (ds_cons (ds_if (dt_cmp (od_kIn T.kt_OTHER_KIND) (dv 3) (de_globA rfl T.g_OTHER_KIND rfl) (by rfl)) (ds_one (ds_ret (de_meth (dv 0) T.cl_Floor T.m_Floor_is_inner (ok_Floor_is_inner T) (hr.mono (by decide)) T.b_Floor_is_inner .nil rpl_nil pass0 n_Floor_is_inner (da_cons (dv 1) (da_cons (dv 2) da_nil))))) ds_nil)
      (ds_one (ds_ret (de_and (de_cmp od_eqI (dv 3) (de_globSE rfl T.g_DOOR) (nomark _)) (de_and (de_meth (dv 0) T.cl_Floor T.m_Floor_is_point (ok_Floor_is_point T) (hr.mono (by decide)) T.b_Floor_is_point .nil rpl_nil pass0 n_Floor_is_point (da_cons (dv 1) (da_cons (dv 2) da_nil))) (de_one (de_not (de_meth (dv 0) T.cl_Floor T.m_Floor_is_inner (ok_Floor_is_inner T) (hr.mono (by decide)) T.b_Floor_is_inner .nil rpl_nil pass0 n_Floor_is_inner (da_cons (dv 1) (da_cons (dv 2) da_nil))))))))))) ?_
  rintro ds S Q E bd ⟨f, w, h, t, rfl, hf, q⟩
  have hf0 := hf
  rcases hf with ⟨fs, rfl, g⟩ | ⟨l, fs, rfl, he, g⟩
  all_goals
    obtain ⟨g1, g2, g3, g4, g5, g6, g7, g8, g9, g10⟩ := g
    walk_at "go"
    · rename_i hc
      rw [kind_in] at hc
      refine ⟨_, _, _, _, _, rfl, hf0, fun b hb => ?_⟩
      walk_at "go"
      exact Rt.same (d := .bl _) trivial (q _ (hb.trans (ok_a g7 g9 (of_decide_eq_true hc)).symm))
    · rename_i hc hk
      refine ⟨_, _, _, _, _, rfl, hf0, fun b hb => ?_⟩
      walk_at "go"
      · rename_i hb1
        refine ⟨_, _, _, _, _, rfl, hf0, fun b2 hb2 => ?_⟩
        walk_at "go"
        refine Rt.same (d := .bl _) trivial (q _ ?_)
        rw [ok_b g7 g9 hk, ← hb, ← hb2, Bool.not_eq_true', hb1]
        simp
      · rename_i hb1
        refine Rt.same (d := .bl _) trivial (q _ ?_)
        rw [ok_b g7 g9 hk, ← hb, hb1]
        simp
    · rename_i hc hk
      rw [kind_in] at hc
      refine Rt.same (d := .bl _) trivial (q _ ?_)
      have := ok_c g7 g9 (of_decide_eq_false hc) hk
      simp [this]
end
end K

namespace K
open PySem L2 DL
local macro_rules | `(tactic| walk_at "w") => `(tactic| (conv => whnf))
local macro_rules | `(tactic| walk_at "at") => `(tactic| first | assumption | (refine SrcStep.get (l := ?l0) (n := ?n0) (S := ?s0) ?h1 ?h2 ?h3; (case h1 => assumption); (case h2 => omega); (case h3 => walk_at "at")) | (refine set_same (o := ?oo) ?sm; (case sm => walk_at "at")) | (refine set_other ?sm ?sn; (case sn => omega); (case sm => walk_at "at")) | (exact getElem_push _ _) | (refine app_left ?sm; (case sm => walk_at "at")) | rfl)
local macro_rules | `(tactic| walk_at "get") => `(tactic| (refine Exists.intro ?wit (And.intro ?gt ?_); (case gt => walk_at "at")))
local macro_rules | `(tactic| walk_at "bool") => `(tactic| (refine And.intro (fun hcond => ?_) (fun hcond => ?_) <;> (first | (exact absurd hcond (by decide)) | (simp only [decide_eq_true_eq, decide_eq_false_iff_not, Bool.not_eq_true', Bool.not_eq_false', Int.not_lt, Int.not_le, inD_nil, inD_int_cons, Bool.or_eq_true, Bool.or_eq_false_iff, Bool.or_false, ne_eq, Decidable.not_not] at hcond) | skip)))
local macro_rules | `(tactic| walk_at "len") => `(tactic| (refine line_le6 ?_; (try simp only [len_cat, len_e]); omega))
local macro_rules | `(tactic| walk_at "cond") => `(tactic| first | assumption | rfl | exact True.intro | omega | (exact Nat.le_of_ble_eq_true rfl) | (refine mulS ?cm1 ?cm2 <;> omega) | (refine divS ?cm1 <;> omega) | (refine And.intro ?cd1 ?cd2 <;> decide) | (exact line_le (Nat.le_of_ble_eq_true rfl)) | (exact line_lt (Nat.le_of_ble_eq_true rfl)) | (refine' Exists.intro _ (Exists.intro _ (And.intro rfl ?cm1)); (case cm1 => walk_at "at")) | (exact log_le (by omega)) | walk_at "len" | solve_by_elim | fail "no cond")
local macro_rules | `(tactic| walk_at "src") => `(tactic| first | assumption | (refine SrcStep.srcAt (S := ?ss) ?st; (case st => assumption)) | (refine SrcAt.app ?st; (case st => walk_at "src")))
local macro_rules | `(tactic| walk_at "draw") => `(tactic| (refine' Exists.intro _ (Exists.intro _ (Exists.intro ?nn (And.intro rfl (And.intro ?d1 (And.intro ?d2 (And.intro ?d3 (fun r S' h0 h1 hst => ?_))))))); (case d1 => walk_at "src"); (case d2 => omega); (case d3 => omega)))
local macro_rules | `(tactic| walk_at "steps") => `(tactic| first | assumption | (refine SrcStep.trans (n := ?sn) (S1 := ?sm) ?sx ?sy; (case sy => assumption); (case sx => walk_at "steps")) | (refine SrcAt.refl ?sz; assumption))
local macro_rules | `(tactic| walk_at "side") => `(tactic| (refine And.intro ?sd ?_; (case sd => walk_at "cond")))
local macro_rules | `(tactic| walk_at "go1") => `(tactic| (conv => whnf) <;> (first | walk_at "get" | walk_at "bool" | walk_at "draw" | walk_at "side" | fail "no step"))
local macro_rules | `(tactic| walk_at "go") => `(tactic| (repeat' (walk_at "go1")); (all_goals try (conv => whnf)))

def Th.key (t : Th) : List Key := [.inl t.x, .inl t.y]
def numsD : Nat → List Th → List (List Key × D)
  | _, [] => []
  | i, t :: r => (t.key, .int (i : Nat)) :: numsD (i + 1) r
theorem numsD_snoc (t : Th) : ∀ (ts : List Th) (i : Nat), numsD i (ts ++ [t]) = numsD i ts ++ [(t.key, .int ((i + ts.length : Nat) : Int))]
  | [], i => rfl
  | a :: r, i => by
    show (a.key, D.int (i : Nat)) :: numsD (i + 1) (r ++ [t]) = (a.key, D.int (i : Nat)) :: (numsD (i + 1) r ++ _)
    rw [numsD_snoc t r (i + 1), List.length_cons, show i + 1 + r.length = i + (r.length + 1) by omega]
theorem key_eq (a t : Th) : (a.key = t.key) ↔ ((t.x, t.y) = (a.x, a.y)) := by
  unfold Th.key
  constructor
  · intro h
    injection h with h1 h2
    injection h2 with h2 h3
    injection h1 with h1
    injection h2 with h2
    rw [h1, h2]
  · intro h
    injection h with h1 h2
    rw [h1, h2]
theorem numsD_any (t : Th) : ∀ (ts : List Th) (i : Nat), ((numsD i ts).any fun kv => decide (kv.1 = t.key)) = decide ((t.x, t.y) ∈ ts.map fun a => (a.x, a.y))
  | [], i => rfl
  | a :: r, i => by
    rw [numsD, List.any_cons, numsD_any t r (i + 1), List.map_cons, ← Bool.decide_or]
    apply decide_eq_decide.mpr
    rw [List.mem_cons, key_eq a t]
theorem valD_any {κ : Type} [DecidableEq κ] (k : κ) : ∀ kvs : List (κ × D), (valD kvs k).isSome = kvs.any fun kv => decide (kv.1 = k)
  | [] => rfl
  | (a, d) :: r => by
    rw [List.any_cons, ← valD_any k r]
    by_cases h : a = k
    · simp [valD, List.find?_cons, h]
    · simp [valD, List.find?_cons, h]
theorem numsD_bnd (n : Nat) : ∀ (ts : List Th) (i : Nat), bndT n (numsD i ts)
  | [], _ => trivial
  | _ :: r, i => ⟨trivial, numsD_bnd n r (i + 1)⟩
def spInit (C : Addr) : DSp := fun ds S Q E => ∃ (l : Nat) (w h : Int) (ts : List Th), ds = [.loc l, .int w, .int h, .tup (ts.map Th.d)] ∧ S[l]? = some (.ins C []) ∧ (1 ≤ w ∧ w ≤ 1000000000000000 ∧ 1 ≤ h ∧ h ≤ 1000000000000000) ∧ ThsOk w h ts ∧ ts.length ≤ 40 ∧
  ∀ sh : Str, sh = shownT w h ts → Q .non (S.set l (.ins C [("width", .int w), ("height", .int h), ("numbers", .dt (numsD 0 ts)), ("things", .tup (ts.map Th.d)), ("shown", .str sh)]))
theorem n_Floor___init__ {C : Addr} : ∀ ds S Q E, spInit C ds S Q E → ds.length = 4 := by
  rintro ds S Q E ⟨l, w, h, ts, rfl, _⟩
  rfl
section
variable {P : Program} {w : World} {K : PySem.W.Frag} {mg : Str → Option Value} {base : Heap} {A : Ads} {B : Fds}
theorem ok_Floor___init__ (T : Txt w K mg A B) : FnR P w K mg base CX0 3 A.a_Floor___init__ (spStar K 3 (spInit A.a_Floor)) := by
  refine dfn_star (ps := ["self", "width", "height"]) (pv := "things") T.F_Floor___init__ sc_Floor___init__ n_Floor___init__ (fun kV doc pm an cdv ct us rest hl => bind_star3 (B := fun us => bindArgs (PySem.W.fnOf "__init__" "Floor.__init__" (defArgs s_Floor___init__) (defBody s_Floor___init__) (defScope s_Floor___init__) .none kV doc pm an cdv ct) ⟨us, []⟩) (fun _ _ _ => rfl) (fun _ _ _ _ _ => rfl) us rest hl) (fun cdv A outer s H E hr => (ds_cons (ds_if (dt_not (dt_chain od_le od_le de_int (dv 1) (de_globIE rfl T.g_MOST_SIZE))) (ds_one (ds_never _)) ds_nil)
      (ds_cons (ds_if (dt_not (dt_chain od_le od_le de_int (dv 2) (de_globIE rfl T.g_MOST_SIZE))) (ds_one (ds_never _)) ds_nil)
      (ds_cons (ds_fld (dv 0) (dv 1) T.cl_Floor T.n_Floor_width)
      (ds_cons (ds_fld (dv 0) (dv 2) T.cl_Floor T.n_Floor_height)
      (ds_cons (ds_fld (dv 0) de_newT T.cl_Floor T.n_Floor_numbers)
      (ds_cons (ds_for PassesOwn.never rfl (di_enum rfl T.z_enumerate (da_cons (dv 3) da_nil)) (dg_tup (n := 2) rfl (dgs_cons (dg_name (i := 4) sc_Floor___init__.nd rfl (.inl rfl)) (dgs_cons (dg_tup (n := 3) rfl (dgs_cons (dg_name (i := 5) sc_Floor___init__.nd rfl (.inl rfl)) (dgs_cons (dg_name (i := 6) sc_Floor___init__.nd rfl (.inl rfl)) (dgs_cons (dg_name (i := 7) sc_Floor___init__.nd rfl (.inl rfl)) dgs_nil)))) dgs_nil))) (ds_cons (ds_if (DW.pt (dw_or (dt_cmp od_ge (dv 4) (de_cvalE (d := D.int 40) (de_globA rfl T.g_Floor rfl) T.cr_Floor T.cv_Floor_MOST_THINGS (fun _ _ => rfl)) (nomark _)) (dw_or (dt_not (dt_val (de_meth (dv 0) T.cl_Floor T.m_Floor_may_stand (ok_Floor_may_stand T) (hr.mono (by decide)) T.b_Floor_may_stand .nil rpl_nil pass0 n_Floor_may_stand (da_cons (dv 5) (da_cons (dv 6) (da_cons (dv 7) da_nil)))))) (dw_or1 (dt_cmp (od_dIn (hu65 hr)) (de_tup (da_cons (dv 5) (da_cons (dv 6) da_nil))) (de_fld (dv 0) T.cl_Floor T.n_Floor_numbers) (by rfl)))))) (ds_one (ds_never _)) ds_nil)
      (ds_one (ds_asg (dv 4) (dg_put (hu65 hr) (de_fld (dv 0) T.cl_Floor T.n_Floor_numbers) (de_tup (da_cons (dv 5) (da_cons (dv 6) da_nil))))))))
      (ds_cons (ds_fld (dv 0) (dv 3) T.cl_Floor T.n_Floor_things)
      (ds_one (ds_fld (dv 0) (de_call (ok_shown_text T) (hr.mono (by decide)) rfl T.g_shown_text T.k_shown_text T.b_shown_text .nil rpl_nil pass0 n_shown_text (da_cons (dv 1) (da_cons (dv 2) (da_cons (dv 3) da_nil)))) T.cl_Floor T.n_Floor_shown)))))))))) ?_
  rintro ds S Q E bd ⟨l, w, h, ts, rfl, hl, ⟨hw1, hw2, hh1, hh2⟩, hts, hlen, q⟩
  have hlt : l < S.length := (List.getElem?_eq_some_iff.mp hl).1
  walk_at "go"
  all_goals try omega
  refine forL_inv (fun k ρ' S' => ∃ u4 u5 u6 u7 : Option D, ρ' = [some (.loc l), some (.int w), some (.int h), some (.tup (ts.map Th.d)), u4, u5, u6, u7] ∧
    S' = S.set l (.ins A.a_Floor [("width", .int w), ("height", .int h), ("numbers", .loc S.length)]) ++ [.dt (numsD 0 (ts.take k))]) _ 0 _ _ ⟨none, none, none, none, rfl, ?_⟩ ?_ ?_
  · rw [List.set_append_left _ _ (by rw [List.length_set, List.length_set]; exact hlt), List.set_set, List.set_set]
    simp only [List.length_set]
    rfl
  · rintro j x ρ S' hj ⟨u4, u5, u6, u7, rfl, hS⟩ N hN
    obtain ⟨d', hd', rfl⟩ := enumD_get hj
    rw [List.getElem?_map] at hd'
    obtain ⟨t, ht, rfl⟩ := Option.map_eq_some_iff.mp hd'
    have hjl := (List.getElem?_eq_some_iff.mp ht).1
    have htk : ts.take (j + 1) = ts.take j ++ [t] := by rw [List.take_add_one, ht]; rfl
    have tok := hts.all t (List.mem_of_getElem? ht)
    rw [Nat.zero_add] at hN hS ⊢
    have g0 : S'[l]? = some (.ins A.a_Floor [("width", .int w), ("height", .int h), ("numbers", .loc S.length)]) := by
      rw [hS]; exact app_left (List.getElem?_set_self hlt)
    have g1 : S'[S.length]? = some (.dt (numsD 0 (ts.take j))) := by
      rw [hS]
      have := getElem_push (S.set l (.ins A.a_Floor [("width", .int w), ("height", .int h), ("numbers", .loc S.length)])) (Ob.dt (numsD 0 (ts.take j)))
      rw [List.length_set] at this
      exact this
    have hno : ((numsD 0 (ts.take j)).any fun kv => decide (kv.1 = t.key)) = false := by
      rw [numsD_any]
      apply decide_eq_false
      intro hm
      have nd := hts.nd
      rw [← List.take_append_drop (j + 1) ts, htk, List.map_append, List.map_append] at nd
      have nd2 := (List.nodup_append.mp nd).1
      exact (List.nodup_append.mp nd2).2.2 _ hm _ (by simp) rfl
    have hz : (numsD 0 (ts.take j)).length < sizeLine := by
      have : ∀ (ts : List Th) (i : Nat), (numsD i ts).length = ts.length := fun ts => by
        induction ts with
        | nil => intro _; rfl
        | cons a r ih => intro i; rw [numsD, List.length_cons, List.length_cons, ih]
      rw [this, List.length_take]
      exact line_lt (by omega)
    clear hj hd'
    walk_at "go"
    · omega
    refine ⟨_, _, _, t, rfl, Or.inr ⟨l, _, rfl, g0, ⟨rfl, rfl, rfl, rfl, rfl, rfl, hw1, hw2, hh1, hh2⟩⟩, fun b hb => ?_⟩
    have hb2 : b = true := hb.mpr tok
    subst hb2
    walk_at "go"
    · rename_i hc
      have h1 := valD_any t.key (numsD 0 (ts.take j))
      rw [hno] at h1
      exact absurd (hc.symm.trans h1) (by decide)
    · refine hN _ _ ⟨_, _, _, _, rfl, ?_⟩
      have hst : stoD (numsD 0 (ts.take j)) [Sum.inl t.x, Sum.inl t.y] (D.int (j : Nat)) = numsD 0 (ts.take (j + 1)) := by
        show stoD (numsD 0 (ts.take j)) t.key (D.int (j : Nat)) = _
        unfold stoD
        rw [hno, htk, numsD_snoc, List.length_take, Nat.min_eq_left (by omega), Nat.zero_add]
        rfl
      rw [hst, hS, List.set_append_right _ _ (by rw [List.length_set]; exact Nat.le_refl _), List.length_set, Nat.sub_self]
      rfl
  · rw [enumD_len, List.length_map, Nat.zero_add, List.take_length]
    rintro ρ S' ⟨u4, u5, u6, u7, rfl, hS⟩
    have g0 : S'[l]? = some (.ins A.a_Floor [("width", .int w), ("height", .int h), ("numbers", .loc S.length)]) := by
      rw [hS]; exact app_left (List.getElem?_set_self hlt)
    have g1 : S'[S.length]? = some (.dt (numsD 0 ts)) := by
      rw [hS]
      have := getElem_push (S.set l (.ins A.a_Floor [("width", .int w), ("height", .int h), ("numbers", .loc S.length)])) (Ob.dt (numsD 0 ts))
      rw [List.length_set] at this
      exact this
    walk_at "go"
    refine ⟨w, h, ts, rfl, ⟨hw1, hw2, hh1, hh2⟩, hts, by omega, ?_⟩
    obtain ⟨sh, hsh⟩ : ∃ sh, sh = shownT w h ts := ⟨_, rfl⟩
    rw [← hsh]
    walk_at "go"
    refine Rt.obj (l := l) (C := A.a_Floor) (d := .non) hlt (by walk_at "at") (fs' := [("width", .int w), ("height", .int h), ("numbers", .dt (numsD 0 ts)), ("things", .tup (ts.map Th.d)), ("shown", .str sh)]) ?_ ?_ trivial (q sh hsh)
    · exact ⟨rfl, .same trivial, rfl, .same trivial, rfl, .dt (Nat.le_refl _) (by walk_at "at") (numsD_bnd _ _ _), rfl, .same (bndL_map fun _ => ⟨trivial, trivial, trivial, trivial⟩), rfl, .same trivial, trivial⟩
    · intro m hm hne
      rw [List.getElem?_set_ne (Ne.symm hne), List.getElem?_set_ne (Ne.symm hne), hS, List.getElem?_append_left (by rw [List.length_set]; exact hm), List.getElem?_set_ne (Ne.symm hne)]
end
end K

namespace K
open PySem L2 DL
local macro_rules | `(tactic| walk_at "w") => `(tactic| (conv => whnf))
local macro_rules | `(tactic| walk_at "at") => `(tactic| first | assumption | (refine SrcStep.get (l := ?l0) (n := ?n0) (S := ?s0) ?h1 ?h2 ?h3; (case h1 => assumption); (case h2 => omega); (case h3 => walk_at "at")) | (refine set_same (o := ?oo) ?sm; (case sm => walk_at "at")) | (refine set_other ?sm ?sn; (case sn => omega); (case sm => walk_at "at")) | (exact getElem_push _ _) | (refine app_left ?sm; (case sm => walk_at "at")) | rfl)
local macro_rules | `(tactic| walk_at "get") => `(tactic| (refine Exists.intro ?wit (And.intro ?gt ?_); (case gt => walk_at "at")))
local macro_rules | `(tactic| walk_at "bool") => `(tactic| (refine And.intro (fun hcond => ?_) (fun hcond => ?_) <;> (first | (exact absurd hcond (by decide)) | (simp only [decide_eq_true_eq, decide_eq_false_iff_not, Bool.not_eq_true', Bool.not_eq_false', Int.not_lt, Int.not_le, inD_nil, inD_int_cons, Bool.or_eq_true, Bool.or_eq_false_iff, Bool.or_false, ne_eq, Decidable.not_not] at hcond) | skip)))
local macro_rules | `(tactic| walk_at "len") => `(tactic| (refine line_le6 ?_; (try simp only [len_cat, len_e]); omega))
local macro_rules | `(tactic| walk_at "cond") => `(tactic| first | assumption | rfl | exact True.intro | omega | (exact Nat.le_of_ble_eq_true rfl) | (refine mulS ?cm1 ?cm2 <;> omega) | (refine divS ?cm1 <;> omega) | (refine And.intro ?cd1 ?cd2 <;> decide) | (exact line_le (Nat.le_of_ble_eq_true rfl)) | (exact line_lt (Nat.le_of_ble_eq_true rfl)) | (refine' Exists.intro _ (Exists.intro _ (And.intro rfl ?cm1)); (case cm1 => walk_at "at")) | (exact log_le (by omega)) | walk_at "len" | solve_by_elim | fail "no cond")
local macro_rules | `(tactic| walk_at "src") => `(tactic| first | assumption | (refine SrcStep.srcAt (S := ?ss) ?st; (case st => assumption)) | (refine SrcAt.app ?st; (case st => walk_at "src")))
local macro_rules | `(tactic| walk_at "draw") => `(tactic| (refine' Exists.intro _ (Exists.intro _ (Exists.intro ?nn (And.intro rfl (And.intro ?d1 (And.intro ?d2 (And.intro ?d3 (fun r S' h0 h1 hst => ?_))))))); (case d1 => walk_at "src"); (case d2 => omega); (case d3 => omega)))
local macro_rules | `(tactic| walk_at "steps") => `(tactic| first | assumption | (refine SrcStep.trans (n := ?sn) (S1 := ?sm) ?sx ?sy; (case sy => assumption); (case sx => walk_at "steps")) | (refine SrcAt.refl ?sz; assumption))
local macro_rules | `(tactic| walk_at "side") => `(tactic| (refine And.intro ?sd ?_; (case sd => walk_at "cond")))
local macro_rules | `(tactic| walk_at "go1") => `(tactic| (conv => whnf) <;> (first | walk_at "get" | walk_at "bool" | walk_at "draw" | walk_at "side" | fail "no step"))
local macro_rules | `(tactic| walk_at "go") => `(tactic| (repeat' (walk_at "go1")); (all_goals try (conv => whnf)))

def floorF (w h : Int) (ts : List Th) (sh : Str) : List (Str × D) := [("width", .int w), ("height", .int h), ("numbers", .dt (numsD 0 ts)), ("things", .tup (ts.map Th.d)), ("shown", .str sh)]
def floorD (C : Addr) (w h : Int) (ts : List Th) (sh : Str) : D := .obj C (floorF w h ts sh)
structure FlOk (w h : Int) (ts : List Th) : Prop where
  w1 : 1 ≤ w
  w2 : w ≤ 1000000000000000
  h1 : 1 ≤ h
  h2 : h ≤ 1000000000000000
  ok : ThsOk w h ts
  len : ts.length ≤ 40
theorem floor_bnd {w h : Int} {ts : List Th} {sh : Str} (n : Nat) : bndF n (floorF w h ts sh) := ⟨trivial, trivial, numsD_bnd _ _ _, bndL_map fun _ => ⟨trivial, trivial, trivial, trivial⟩, trivial, trivial⟩
def spOfF (C : Addr) : DSp := fun ds S Q E => ∃ (w h : Int) (ts : List Th), ds = [.cst C, .int w, .int h, .tup (ts.map Th.d)] ∧ FlOk w h ts ∧ ∀ sh : Str, sh = shownT w h ts → Q (floorD C w h ts sh) S
theorem n_Floor_of {C : Addr} : ∀ ds S Q E, spOfF C ds S Q E → ds.length = 4 := by
  rintro ds S Q E ⟨w, h, ts, rfl, _⟩
  rfl
def kindAt (ts : List Th) (x y : Int) : Str := ((ts.find? fun t => decide (t.x = x ∧ t.y = y)).map Th.kind).getD ""
theorem num_at (x y : Int) : ∀ (ts : List Th) (i : Nat), (valD (numsD i ts) [Sum.inl x, Sum.inl y] = none ∧ kindAt ts x y = "") ∨ ∃ (j : Nat) (t : Th), ts[j]? = some t ∧ valD (numsD i ts) [Sum.inl x, Sum.inl y] = some (.int ((i + j : Nat) : Int)) ∧ kindAt ts x y = t.kind ∧ t.x = x ∧ t.y = y
  | [], i => Or.inl ⟨rfl, rfl⟩
  | a :: r, i => by
    by_cases h : a.x = x ∧ a.y = y
    · refine Or.inr ⟨0, a, rfl, ?_, ?_, h.1, h.2⟩
      · have : a.key = [Sum.inl x, Sum.inl y] := by unfold Th.key; rw [h.1, h.2]
        simp [numsD, valD, List.find?_cons, this]
      · simp [kindAt, List.find?_cons, h]
    · have hk : ¬ a.key = [Sum.inl x, Sum.inl y] := fun e => h ((by
        have := (key_eq a ⟨x, y, ""⟩).mp e
        injection this with h1 h2
        exact ⟨h1.symm, h2.symm⟩))
      have e1 : valD (numsD i (a :: r)) [Sum.inl x, Sum.inl y] = valD (numsD (i + 1) r) [Sum.inl x, Sum.inl y] := by
        simp [numsD, valD, List.find?_cons, hk]
      have e2 : kindAt (a :: r) x y = kindAt r x y := by
        simp only [kindAt, List.find?_cons, decide_eq_false h]
      rw [e1, e2]
      rcases num_at x y r (i + 1) with h1 | ⟨j, t, h1, h2, h3⟩
      · exact Or.inl h1
      · refine Or.inr ⟨j + 1, t, h1, ?_, h3⟩
        rw [h2, show i + 1 + j = i + (j + 1) by omega]
def spKind (C : Addr) : DSp := fun ds S Q E => ∃ (w h : Int) (ts : List Th) (sh : Str) (x y : Int), ds = [floorD C w h ts sh, .int x, .int y] ∧ FlOk w h ts ∧ Q (.str (kindAt ts x y)) S
theorem n_Floor_kind_at {C : Addr} : ∀ ds S Q E, spKind C ds S Q E → ds.length = 3 := by
  rintro ds S Q E ⟨w, h, ts, sh, x, y, rfl, _⟩
  rfl
def spOnFloor (C : Addr) : DSp := fun ds S Q E => ∃ (w h : Int) (ts : List Th) (sh : Str) (x y : Int), ds = [floorD C w h ts sh, .int x, .int y] ∧ FlOk w h ts ∧ ∀ b : Bool, (b = true ↔ (0 ≤ x ∧ x ≤ 2 * w ∧ 0 ≤ y ∧ y ≤ 2 * h)) → Q (.bl b) S
theorem n_on_floor {C : Addr} : ∀ ds S Q E, spOnFloor C ds S Q E → ds.length = 3 := by
  rintro ds S Q E ⟨w, h, ts, sh, x, y, rfl, _⟩
  rfl
def spCheck (C : Addr) : DSp := fun ds S Q E => ∃ (w h : Int) (ts : List Th) (sh : Str) (x y dx dy : Int), ds = [floorD C w h ts sh, rayD x y dx dy] ∧ FlOk w h ts ∧ RayOk w h x y dx dy ∧ Q .non S
theorem n_check_ray {C : Addr} : ∀ ds S Q E, spCheck C ds S Q E → ds.length = 2 := by
  rintro ds S Q E ⟨w, h, ts, sh, x, y, dx, dy, rfl, _⟩
  rfl
/-- the two factors of a turn at a point -/
def tX (w h : Int) (k : Str) (x y : Int) : Int := if x = 0 ∨ x = 2 * w then -1 else if y = 0 ∨ y = 2 * h then 1 else if k = "|" then -1 else 1
def tY (w h : Int) (k : Str) (x y : Int) : Int := if x = 0 ∨ x = 2 * w then 1 else if y = 0 ∨ y = 2 * h then -1 else if k = "-" then -1 else 1
/-- a point where a ray may turn: no door but at a wall -/
def TurnPt (w h : Int) (ts : List Th) (x y : Int) : Prop := x = 0 ∨ x = 2 * w ∨ y = 0 ∨ y = 2 * h ∨ kindAt ts x y = "" ∨ kindAt ts x y = "|" ∨ kindAt ts x y = "-"
section
variable {P : Program} {w : World} {K : PySem.W.Frag} {mg : Str → Option Value} {base : Heap} {A : Ads} {B : Fds}
theorem ok_Floor_of (T : Txt w K mg A B) : FnOk P w K mg base CX0 5 A.a_Floor_of B.a_Floor_of ["cls", "width", "height", "things"] (spOf K 4 (spOfF A.a_Floor)) := by
  refine dfn_ok T.F_Floor_of sc_Floor_of n_Floor_of (fun cdv A outer s H E hr => (ds_one (ds_ret (de_makeSL (i := 0) (n := 3) T.mk_Floor (ok_Floor___init__ T) (hr.mono (by decide)) pass0 rfl (.inl rfl) (da_cons (dv 1) (da_cons (dv 2) (da_star (dv 3) da_nil))))))) ?_
  rintro ds S Q E bd ⟨w, h, ts, rfl, fo, q⟩
  refine ⟨rfl, ?_⟩
  walk_at "go"
  rw [List.append_nil]
  have hl := fo.len
  refine ⟨⟨by rw [List.length_cons, List.length_cons, List.length_cons]; omega, by rw [List.length_cons, List.length_cons, List.length_cons, List.length_map]; omega⟩, S.length, w, h, ts, rfl, getElem_push _ _, ⟨fo.w1, fo.w2, fo.h1, fo.h2⟩, fo.ok, fo.len, fun sh hsh => ⟨rfl, ?_⟩⟩
  refine Rt.tree (fs := floorF w h ts sh) (Nat.le_refl _) (List.getElem?_set_self (by rw [List.length_append]; exact Nat.lt_succ_self _)) (floor_bnd _) (fun m hm => ?_) (q sh hsh)
  rw [List.getElem?_set_ne (by omega), List.getElem?_append_left hm]
/-! rays.py -/
end
end K

namespace K
open PySem L2 DL
/-! k02, plain: texts, things compared, numbers of things, things left out and turned -/
theorem str_ext {a b : Str} (h : a.cps = b.cps) : a = b := by cases a; cases b; cases h; rfl
theorem app_assoc (a b c : Str) : a ++ b ++ c = a ++ (b ++ c) := str_ext (by rw [PySem.Str.cps_append, PySem.Str.cps_append, PySem.Str.cps_append, PySem.Str.cps_append, Array.append_assoc])
theorem e_app (a : Str) : Str.empty ++ a = a := str_ext (by rw [PySem.Str.cps_append]; simp [PySem.Str.empty])
/-- the text by which the law shows a floor: first the size, then the things -/
def sizeT (w h : Int) : Str := (toString w : String) ++ (Str.ofString "x") ++ (toString h : String)
def thT (t : Th) : Str := (toString t.x : String) ++ (Str.ofString ",") ++ (toString t.y : String) ++ t.kind
theorem thT_eq (t : Th) : t.txt = thT t := by
  unfold Th.txt thT
  rw [e_app]
theorem join_len (a y : Str) : ∀ ys : List Str, y.length ≤ (Str.join a (y :: ys)).length
  | [] => Nat.le_refl _
  | z :: r => by
    show y.length ≤ (y ++ a ++ Str.join a (z :: r)).length
    rw [PySem.Str.length_append, PySem.Str.length_append]
    omega
theorem join_ne {t : Th} {ts : List Th} : Txt.join (Str.ofString " ") ((t :: ts).map Th.txt) ≠ "" := by
  intro e
  have h1 : (Txt.join (Str.ofString " ") ((t :: ts).map Th.txt)).length = 0 := by rw [e]; rfl
  rw [TL.join_eq, List.map_cons] at h1
  have h2 := join_len (Str.ofString " ") t.txt (ts.map Th.txt)
  have h3 : 1 ≤ t.txt.length := by
    unfold Th.txt
    simp only [len_cat]
    have : (Str.ofString ",").length = 1 := rfl
    omega
  omega
def lawT (w h : Int) (ts : List Th) : Str := if ts = [] then sizeT w h else sizeT w h ++ (Str.ofString ": ") ++ Txt.join (Str.ofString " ") (ts.map thT)
theorem shown_law (w h : Int) (ts : List Th) : (Str.ofString "Floor(") ++ lawT w h ts ++ (Str.ofString ")") = shownT w h ts := by
  have hm : ts.map thT = ts.map Th.txt := List.map_congr_left fun t _ => (thT_eq t).symm
  unfold shownT lawT sizeT
  rw [hm]
  cases ts with
  | nil =>
    rw [if_pos rfl, if_pos (by rfl), e_app]
    simp only [app_assoc]
  | cons t r =>
    rw [if_neg (List.cons_ne_nil _ _), if_neg join_ne, e_app]
    simp only [app_assoc]
instance : DecidableEq Th := fun a b => decidable_of_iff (a.x = b.x ∧ a.y = b.y ∧ a.kind = b.kind) ⟨fun h => by
  cases a; cases b
  obtain ⟨h1, h2, h3⟩ := h
  cases h1; cases h2; cases h3; rfl, fun h => by rw [h]; exact ⟨rfl, rfl, rfl⟩⟩
/-- == of things -/
theorem th_eqv (t u : Th) : PyData.eqv (py t.d) (py u.d) = decide (t = u) := by
  obtain ⟨x, y, k⟩ := t
  obtain ⟨a, b, c⟩ := u
  show ((x == a) && ((y == b) && ((k == c) && true))) = _
  by_cases h : (⟨x, y, k⟩ : Th) = ⟨a, b, c⟩
  · injection h with h1 h2 h3
    subst h1 h2 h3
    simp
  · rw [decide_eq_false h]
    have : ¬ (x = a ∧ y = b ∧ k = c) := fun ⟨h1, h2, h3⟩ => h (by rw [h1, h2, h3])
    simp only [Bool.and_true, Bool.and_eq_false_iff, beq_eq_false_iff_ne]
    by_cases h1 : x = a
    · by_cases h2 : y = b
      · exact Or.inr (Or.inr fun h3 => this ⟨h1, h2, h3⟩)
      · exact Or.inr (Or.inl h2)
    · exact Or.inl h1
theorem ths_eqv : ∀ ts us : List Th, PyData.eqv (py (.tup (ts.map Th.d))) (py (.tup (us.map Th.d))) = decide (ts = us)
  | [], [] => rfl
  | [], u :: us => rfl
  | t :: ts, [] => rfl
  | t :: ts, u :: us => by
    have ih := ths_eqv ts us
    show (PyData.eqv (py t.d) (py u.d) && PyData.eqv (py (.tup (ts.map Th.d))) (py (.tup (us.map Th.d)))) = _
    rw [th_eqv, ih]
    by_cases h1 : t = u
    · by_cases h2 : ts = us
      · rw [h1, h2]; simp
      · simp [h1, h2]
    · simp [h1]
/-- the numbers of the things at a point -/
def idxs (x y : Int) : Nat → List Th → List Nat
  | _, [] => []
  | i, t :: r => if t.x = x ∧ t.y = y then i :: idxs x y (i + 1) r else idxs x y (i + 1) r
theorem num_head (x y : Int) : ∀ (ts : List Th) (i : Nat), valD (numsD i ts) [Sum.inl x, Sum.inl y] = ((idxs x y i ts).head?).map fun j => D.int (j : Nat)
  | [], i => rfl
  | a :: r, i => by
    by_cases h : a.x = x ∧ a.y = y
    · have : a.key = [Sum.inl x, Sum.inl y] := by unfold Th.key; rw [h.1, h.2]
      simp [numsD, valD, List.find?_cons, this, idxs, h]
    · have hk : ¬ a.key = [Sum.inl x, Sum.inl y] := fun e => h ((by
        have := (key_eq a ⟨x, y, ""⟩).mp e
        injection this with h1 h2
        exact ⟨h1.symm, h2.symm⟩))
      have e1 : valD (numsD i (a :: r)) [Sum.inl x, Sum.inl y] = valD (numsD (i + 1) r) [Sum.inl x, Sum.inl y] := by
        simp [numsD, valD, List.find?_cons, hk]
      rw [e1, num_head x y r (i + 1)]
      simp only [idxs, if_neg h]
/-- one thing left out, one turned -/
def lessT (n : Nat) (ts : List Th) : List Th := ts.take n ++ ts.drop (n + 1)
def otherK (k : Str) : Str := if k = "|" then "-" else "|"
def turnT (n : Nat) (t : Th) (ts : List Th) : List Th := ts.take n ++ (⟨t.x, t.y, otherK t.kind⟩ :: ts.drop (n + 1))
theorem split_at {n : Nat} {t : Th} {ts : List Th} (h : ts[n]? = some t) : ts = ts.take n ++ (t :: ts.drop (n + 1)) := by
  obtain ⟨hn, e⟩ := List.getElem?_eq_some_iff.mp h
  have h1 := List.drop_eq_getElem_cons hn
  rw [e] at h1
  rw [← h1, List.take_append_drop]
theorem ThsOk.less {w h : Int} {ts : List Th} (o : ThsOk w h ts) {n : Nat} {t : Th} (ht : ts[n]? = some t) : ThsOk w h (lessT n ts) := by
  have e := split_at ht
  refine ⟨fun u hu => ?_, ?_⟩
  · unfold lessT at hu
    rcases List.mem_append.mp hu with hu | hu
    · exact o.all u (List.mem_of_mem_take hu)
    · exact o.all u (List.mem_of_mem_drop hu)
  · have nd := o.nd
    rw [e, List.map_append, List.map_cons] at nd
    unfold lessT
    rw [List.map_append]
    exact nd.sublist (List.Sublist.append (List.Sublist.refl _) (List.sublist_cons_self _ _))
theorem less_len {ts : List Th} {n : Nat} {t : Th} (ht : ts[n]? = some t) : (lessT n ts).length + 1 = ts.length := by
  have e := congrArg List.length (split_at ht)
  unfold lessT
  rw [List.length_append, List.length_cons] at e
  rw [List.length_append]
  omega
theorem ThsOk.back {w h : Int} {ts : List Th} (o : ThsOk w h ts) {n : Nat} {t : Th} (ht : ts[n]? = some t) : ThsOk w h (lessT n ts ++ [t]) := by
  have e := split_at ht
  have hp : (lessT n ts ++ [t]).Perm ts := by
    rw [e]
    unfold lessT
    rw [← e, List.append_assoc]
    refine (List.Perm.append_left _ ?_).trans (List.Perm.of_eq e.symm)
    exact List.perm_append_singleton t _
  exact ⟨fun u hu => o.all u (hp.mem_iff.mp hu), (hp.map _).nodup_iff.mpr o.nd⟩
theorem Th.Ok.turn {w h : Int} {t : Th} (o : t.Ok w h) (hk : t.kind ≠ "o") : Th.Ok w h ⟨t.x, t.y, otherK t.kind⟩ := by
  rcases o with ⟨k, r⟩ | ⟨k, _⟩
  · refine Or.inl ⟨?_, r⟩
    show otherK t.kind = "|" ∨ otherK t.kind = "-"
    unfold otherK
    split
    · exact Or.inr rfl
    · exact Or.inl rfl
  · exact absurd k hk
theorem ThsOk.turn {w h : Int} {ts : List Th} (o : ThsOk w h ts) {n : Nat} {t : Th} (ht : ts[n]? = some t) (hk : t.kind ≠ "o") : ThsOk w h (turnT n t ts) := by
  have e := split_at ht
  refine ⟨fun u hu => ?_, ?_⟩
  · unfold turnT at hu
    rcases List.mem_append.mp hu with hu | hu
    · exact o.all u (List.mem_of_mem_take hu)
    · rcases List.mem_cons.mp hu with rfl | hu
      · exact (o.all t (List.mem_of_getElem? ht)).turn hk
      · exact o.all u (List.mem_of_mem_drop hu)
  · have nd := o.nd
    rw [e, List.map_append, List.map_cons] at nd
    unfold turnT
    rw [List.map_append, List.map_cons]
    exact nd
theorem turn_len {ts : List Th} {n : Nat} {t : Th} (ht : ts[n]? = some t) : (turnT n t ts).length = ts.length := by
  have e := congrArg List.length (split_at ht)
  unfold turnT
  rw [List.length_append, List.length_cons] at e ⊢
  omega
theorem ThsOk.sub {w h : Int} {ts us : List Th} (o : ThsOk w h ts) (s : us.Sublist ts) : ThsOk w h us :=
  ⟨fun u hu => o.all u (s.subset hu), o.nd.sublist (s.map _)⟩
theorem ThsOk.rev {w h : Int} {ts : List Th} (o : ThsOk w h ts) : ThsOk w h ts.reverse :=
  ⟨fun u hu => o.all u (List.mem_reverse.mp hu), ((List.reverse_perm ts).map _).nodup_iff.mpr o.nd⟩
theorem Rt.lstT {S S' : Store} {Q : DK} {l : Nat} {ds : List D} (hl : S.length ≤ l) (he : S'[l]? = some (.lst ds)) (hb : bndL S.length ds) (ho : ∀ m, m < S.length → S'[m]? = S[m]?) (q : Q (.lst ds) S) : Rt S Q (.loc l) S' := by
  refine Rt.cutTo (S'' := S) ⟨rfl, fun m o hm e => ?_⟩ (.lst hl he hb) q
  rw [ho m hm] at e
  exact Or.inl ⟨e, e⟩
theorem ths_ok {w h : Int} {ts : List Th} (o : ThsOk w h ts) : okD 12 (.tup (ts.map Th.d)) = true := by
  show (ts.map Th.d).all (okD 11) = true
  rw [List.all_eq_true]
  intro d hd
  obtain ⟨t, ht, rfl⟩ := List.mem_map.mp hd
  have hk : PyData.strOk t.kind = true := by
    rcases o.all t ht with ⟨h1 | h1, _⟩ | ⟨h1, _⟩ <;> (rw [h1]; decide +kernel)
  show (true && (true && (PyData.strOk t.kind && true))) = true
  rw [hk]; rfl
theorem cut_to {ds : List D} {n : Nat} : cutD ds none (some (n : Int)) = ds.take n := by
  unfold cutD
  have e1 : HT.sIx ds.length 0 none = 0 := rfl
  have e2 : HT.sIx ds.length ds.length (some (n : Int)) = min n ds.length := by
    show (if (n : Int) < 0 then ((n : Int) + (ds.length : Int)).toNat else min (n : Int).toNat ds.length) = _
    rw [if_neg (by omega)]; rfl
  rw [e1, e2, List.drop_zero, Nat.sub_zero]
  rw [← List.take_take, List.take_length]
theorem cut_from {ds : List D} {n : Nat} : cutD ds (some ((n : Int) + 1)) none = ds.drop (n + 1) := by
  unfold cutD
  have e1 : HT.sIx ds.length ds.length none = ds.length := rfl
  have e2 : HT.sIx ds.length 0 (some ((n : Int) + 1)) = min (n + 1) ds.length := by
    show (if (n : Int) + 1 < 0 then ((n : Int) + 1 + (ds.length : Int)).toNat else min ((n : Int) + 1).toNat ds.length) = _
    rw [if_neg (by omega)]; rfl
  rw [e1, e2]
  by_cases h : n + 1 ≤ ds.length
  · rw [Nat.min_eq_left h]
    exact List.take_of_length_le (by rw [List.length_drop]; exact Nat.le_refl _)
  · rw [Nat.min_eq_right (by omega), List.drop_of_length_le (Nat.le_refl _), List.drop_of_length_le (by omega), List.take_nil]
theorem turn_map {ts : List Th} {n : Nat} {t : Th} : (ts.map Th.d).take n ++ (D.tup [.int t.x, .int t.y, .str (otherK t.kind)] :: ((ts.map Th.d).drop (n + 1) ++ [])) = (turnT n t ts).map Th.d := by
  unfold turnT
  rw [List.append_nil, List.map_append, List.map_cons, List.map_take, List.map_drop]
  rfl
theorem less_map {ts : List Th} {n : Nat} : (ts.map Th.d).take n ++ ((ts.map Th.d).drop (n + 1) ++ []) = (lessT n ts).map Th.d := by
  unfold lessT
  rw [List.append_nil, List.map_append, List.map_take, List.map_drop]
theorem thT_len {w h : Int} {t : Th} (o : t.Ok w h) (w1 : 1 ≤ w) (w2 : w ≤ 1000000000000000) (h1 : 1 ≤ h) (h2 : h ≤ 1000000000000000) : (thT t).length ≤ 140 := by
  obtain ⟨b1, b2, b3, b4, b5⟩ := o.box w1 h1
  have b6 := o.kl
  have lx := len_int (i := t.x) (log2_small (by omega) (by decide))
  have ly := len_int (i := t.y) (log2_small (by omega) (by decide))
  have l2 : (Str.ofString ",").length = 1 := rfl
  unfold thT
  simp only [len_cat]
  omega
theorem sum_th {w h : Int} {ts : List Th} (fo : FlOk w h ts) : ((ts.map thT).map (·.length)).sum ≤ 5600 := by
  have hs := sum_le (n := 140) (ts.map thT) fun y hy => by
    obtain ⟨t, ht, rfl⟩ := List.mem_map.mp hy
    exact thT_len (fo.ok.all t ht) fo.w1 fo.w2 fo.h1 fo.h2
  have hl := fo.len
  rw [List.length_map] at hs
  omega
theorem lawT_len {w h : Int} {ts : List Th} (fo : FlOk w h ts) : (lawT w h ts).length ≤ 7000 := by
  have hs := sum_th fo
  have hl := fo.len
  have w1 := fo.w1
  have w2 := fo.w2
  have h1 := fo.h1
  have h2 := fo.h2
  have lw := len_int (i := w) (log2_small (by omega) (by decide))
  have lh := len_int (i := h) (log2_small (by omega) (by decide))
  have l2 : (Str.ofString "x").length = 1 := rfl
  have l3 : (Str.ofString ": ").length = 2 := rfl
  have hj := join_le (Str.ofString " ") (ts.map thT)
  have hsp : (Str.ofString " ").length = 1 := rfl
  rw [hsp, List.length_map] at hj
  unfold lawT sizeT
  split <;> simp only [len_cat] <;> omega
def thF : D → Option D
  | .tup [.int x, .int y, .str k] => some (.str (thT ⟨x, y, k⟩))
  | _ => none
theorem thF_map (ts : List Th) : (ts.map Th.d).filterMap thF = (ts.map thT).map D.str := by
  induction ts with
  | nil => rfl
  | cons t r ih => rw [List.map_cons, List.filterMap_cons_some (b := D.str (thT t)) (by rfl), ih, List.map_cons, List.map_cons]
theorem fine_th {w h : Int} {ts : List Th} (fo : FlOk w h ts) : ReprOk (.tup (ts.map Th.d)) := by
  have hk : ∀ t ∈ ts, fine t.d ∧ siz t.d ≤ 10 ∧ dpt t.d ≤ 1 := fun t ht => by
    obtain ⟨b1, b2, b3, b4, b5⟩ := (fo.ok.all t ht).box fo.w1 fo.h1
    have w2 := fo.w2
    have h2 := fo.h2
    have hk : PyData.strOk t.kind = true := by
      rcases fo.ok.all t ht with ⟨h1 | h1, _⟩ | ⟨h1, _⟩ <;> (rw [h1]; decide +kernel)
    have hz : t.kind.cps.size = 1 := (fo.ok.all t ht).kl
    have fi : ∀ i : Int, -4000000000000000 ≤ i → i ≤ 4000000000000000 → fine (.int i) := fun i a b => ⟨Int.lt_of_lt_of_le (by decide) a, Int.lt_of_le_of_lt b (by decide)⟩
    refine ⟨⟨fi _ (by omega) (by omega), fi _ (by omega) (by omega), hk, trivial⟩, ?_, Nat.le_of_ble_eq_true rfl⟩
    show (0 + 1 + (0 + 1 + (t.kind.cps.size + 1 + 0))) ≤ 10
    omega
  have hl := fo.len
  have key : ∀ us : List Th, (∀ t ∈ us, t ∈ ts) → fineL (us.map Th.d) ∧ sizL (us.map Th.d) ≤ 11 * us.length ∧ dptL (us.map Th.d) ≤ 1 := fun us => by
    induction us with
    | nil => exact fun _ => ⟨trivial, Nat.le_refl _, Nat.zero_le _⟩
    | cons t r ih =>
      intro hu
      obtain ⟨i1, i2, i3⟩ := ih fun u hu' => hu u (List.mem_cons_of_mem _ hu')
      obtain ⟨k1, k2, k3⟩ := hk t (hu t List.mem_cons_self)
      refine ⟨⟨k1, i1⟩, ?_, ?_⟩
      · show siz t.d + 1 + sizL (r.map Th.d) ≤ 11 * (r.length + 1)
        omega
      · show max (dpt t.d) (dptL (r.map Th.d)) ≤ 1
        omega
  obtain ⟨k1, k2, k3⟩ := key ts fun _ h => h
  exact ⟨k1, by show sizL _ ≤ 40000; omega, by show dptL _ + 1 ≤ 12; omega⟩
theorem FlOk.less {w h : Int} {ts : List Th} (fo : FlOk w h ts) {n : Nat} {t : Th} (ht : ts[n]? = some t) : FlOk w h (lessT n ts) :=
  ⟨fo.w1, fo.w2, fo.h1, fo.h2, fo.ok.less ht, by have := less_len ht; have := fo.len; omega⟩
theorem FlOk.back {w h : Int} {ts : List Th} (fo : FlOk w h ts) {n : Nat} {t : Th} (ht : ts[n]? = some t) : FlOk w h (lessT n ts ++ [t]) :=
  ⟨fo.w1, fo.w2, fo.h1, fo.h2, fo.ok.back ht, by have := less_len ht; have := fo.len; rw [List.length_append, List.length_singleton]; omega⟩
theorem FlOk.turn {w h : Int} {ts : List Th} (fo : FlOk w h ts) {n : Nat} {t : Th} (ht : ts[n]? = some t) (hk : t.kind ≠ "o") : FlOk w h (turnT n t ts) :=
  ⟨fo.w1, fo.w2, fo.h1, fo.h2, fo.ok.turn ht hk, by rw [turn_len ht]; exact fo.len⟩
theorem less_map2 {ts : List Th} {n : Nat} : (ts.map Th.d).take n ++ (ts.map Th.d).drop (n + 1) = (lessT n ts).map Th.d := by
  have := less_map (ts := ts) (n := n)
  rwa [List.append_nil] at this
def idxF (ts : List Th) (x y : Int) : D → Option D
  | .int k => if (ts[k.toNat]?.any fun t => decide (t.x = x ∧ t.y = y)) = true then some (.int k) else none
  | _ => none
theorem idx_run (ts : List Th) (x y : Int) : ∀ (us : List Th) (i : Nat), ts.drop i = us → ((List.range' i us.length).map fun j : Nat => D.int (j : Int)).filterMap (idxF ts x y) = (idxs x y i us).map fun j => D.int (j : Nat)
  | [], i, _ => rfl
  | t :: r, i, h => by
    have h0 : ts[i]? = some t := by
      have := congrArg (fun l => l[0]?) h
      rw [List.getElem?_drop] at this
      simpa using this
    have h1 : ts.drop (i + 1) = r := by
      have := congrArg List.tail h
      rw [List.tail_drop] at this
      simpa using this
    have ih := idx_run ts x y r (i + 1) h1
    rw [List.length_cons, List.range'_succ, List.map_cons]
    have hf : idxF ts x y (D.int (i : Int)) = if t.x = x ∧ t.y = y then some (.int (i : Int)) else none := by
      show (if (ts[((i : Nat) : Int).toNat]?.any fun t => decide (t.x = x ∧ t.y = y)) = true then some (D.int (i : Int)) else none) = _
      rw [Int.toNat_natCast, h0]
      simp
    by_cases hm : t.x = x ∧ t.y = y
    · rw [if_pos hm] at hf
      rw [List.filterMap_cons_some hf, ih]
      simp only [idxs, if_pos hm, List.map_cons]
    · rw [if_neg hm] at hf
      rw [List.filterMap_cons_none hf, ih]
      simp only [idxs, if_neg hm]
theorem idx_all (ts : List Th) (x y : Int) : (DL.intsFrom 0 ts.length).filterMap (idxF ts x y) = (idxs x y 0 ts).map fun j => D.int (j : Nat) := by
  have h := idx_run ts x y ts 0 List.drop_zero
  unfold DL.intsFrom
  rw [List.range_eq_range']
  have e : (fun i : Nat => D.int (0 + (i : Int))) = fun i : Nat => D.int (i : Int) := by funext i; rw [Int.zero_add]
  rw [e]
  exact h
theorem idxs_lt (x y : Int) : ∀ (us : List Th) (i : Nat), ∀ j ∈ idxs x y i us, j < i + us.length
  | [], _, _, h => nomatch h
  | t :: r, i, j, h => by
    have ih := idxs_lt x y r (i + 1) j
    rw [List.length_cons]
    unfold idxs at h
    split at h
    · rcases List.mem_cons.mp h with rfl | h
      · omega
      · have := ih h; omega
    · have := ih h; omega
def ptF : D → Option D
  | .tup [.int x, .int y, .str _] => some (.tup [.int x, .int y])
  | _ => none
/-- spots -/
def Spots (L : List D) : Prop := ∀ d ∈ L, ∃ x y : Int, d = .tup [.int x, .int y]
theorem Spots.snoc {L : List D} (h : Spots L) (x y : Int) : Spots (L ++ [.tup [.int x, .int y]]) := fun d hd => by
  rcases List.mem_append.mp hd with hd | hd
  · exact h d hd
  · rw [List.mem_singleton] at hd
    exact ⟨x, y, hd⟩
theorem ptF_spots : ∀ us : List Th, Spots ((us.map Th.d).filterMap ptF) ∧ ((us.map Th.d).filterMap ptF).length = us.length
  | [] => ⟨fun _ h => (nomatch h), rfl⟩
  | t :: r => by
    obtain ⟨h1, h2⟩ := ptF_spots r
    have e : ((t :: r).map Th.d).filterMap ptF = .tup [.int t.x, .int t.y] :: (r.map Th.d).filterMap ptF := rfl
    rw [e]
    exact ⟨fun d hd => (List.mem_cons.mp hd).elim (fun e => ⟨_, _, e⟩) fun hd => h1 d hd, by rw [List.length_cons, h2, List.length_cons]⟩
end K

namespace K
open PySem L2 DL
local macro_rules | `(tactic| walk_at "w") => `(tactic| (conv => whnf))
local macro_rules | `(tactic| walk_at "at") => `(tactic| first | assumption | (refine SrcStep.get (l := ?l0) (n := ?n0) (S := ?s0) ?h1 ?h2 ?h3; (case h1 => assumption); (case h2 => omega); (case h3 => walk_at "at")) | (refine set_same (o := ?oo) ?sm; (case sm => walk_at "at")) | (refine set_other ?sm ?sn; (case sn => omega); (case sm => walk_at "at")) | (exact getElem_push _ _) | (refine app_left ?sm; (case sm => walk_at "at")) | rfl)
local macro_rules | `(tactic| walk_at "get") => `(tactic| (refine Exists.intro ?wit (And.intro ?gt ?_); (case gt => walk_at "at")))
local macro_rules | `(tactic| walk_at "bool") => `(tactic| (refine And.intro (fun hcond => ?_) (fun hcond => ?_) <;> (first | (exact absurd hcond (by decide)) | (simp only [decide_eq_true_eq, decide_eq_false_iff_not, Bool.not_eq_true', Bool.not_eq_false', Int.not_lt, Int.not_le, inD_nil, inD_int_cons, Bool.or_eq_true, Bool.or_eq_false_iff, Bool.or_false, ne_eq, Decidable.not_not] at hcond) | skip)))
local macro_rules | `(tactic| walk_at "len") => `(tactic| (refine line_le6 ?_; (try simp only [len_cat, len_e]); omega))
local macro_rules | `(tactic| walk_at "cond") => `(tactic| first | assumption | rfl | exact True.intro | omega | (exact Nat.le_of_ble_eq_true rfl) | (refine mulS ?cm1 ?cm2 <;> omega) | (refine divS ?cm1 <;> omega) | (refine And.intro ?cd1 ?cd2 <;> decide) | (exact line_le (Nat.le_of_ble_eq_true rfl)) | (exact line_lt (Nat.le_of_ble_eq_true rfl)) | (refine' Exists.intro _ (Exists.intro _ (And.intro rfl ?cm1)); (case cm1 => walk_at "at")) | (exact log_le (by omega)) | walk_at "len" | solve_by_elim | fail "no cond")
local macro_rules | `(tactic| walk_at "src") => `(tactic| first | assumption | (refine SrcStep.srcAt (S := ?ss) ?st; (case st => assumption)) | (refine SrcAt.app ?st; (case st => walk_at "src")))
local macro_rules | `(tactic| walk_at "draw") => `(tactic| (refine' Exists.intro _ (Exists.intro _ (Exists.intro ?nn (And.intro rfl (And.intro ?d1 (And.intro ?d2 (And.intro ?d3 (fun r S' h0 h1 hst => ?_))))))); (case d1 => walk_at "src"); (case d2 => omega); (case d3 => omega)))
local macro_rules | `(tactic| walk_at "steps") => `(tactic| first | assumption | (refine SrcStep.trans (n := ?sn) (S1 := ?sm) ?sx ?sy; (case sy => assumption); (case sx => walk_at "steps")) | (refine SrcAt.refl ?sz; assumption))
local macro_rules | `(tactic| walk_at "side") => `(tactic| (refine And.intro ?sd ?_; (case sd => walk_at "cond")))
local macro_rules | `(tactic| walk_at "go1") => `(tactic| (conv => whnf) <;> (first | walk_at "get" | walk_at "bool" | walk_at "draw" | walk_at "side" | fail "no step"))
local macro_rules | `(tactic| walk_at "go") => `(tactic| (repeat' (walk_at "go1")); (all_goals try (conv => whnf)))

def spNumAt (C : Addr) : DSp := fun ds S Q E => ∃ (w h : Int) (ts : List Th) (sh : Str) (x y : Int), ds = [floorD C w h ts sh, .int x, .int y] ∧ FlOk w h ts ∧ Point w h x y ∧ Q ((((idxs x y 0 ts).head?).map fun j => D.int (j : Nat)).getD .non) S
theorem n_Floor_number_at {C : Addr} : ∀ ds S Q E, spNumAt C ds S Q E → ds.length = 3 := by
  rintro ds S Q E ⟨w, h, ts, sh, x, y, rfl, _⟩
  rfl
def spWith (C : Addr) : DSp := fun ds S Q E => ∃ (w h : Int) (ts : List Th) (sh : Str) (x y : Int) (k : Str), ds = [floorD C w h ts sh, .int x, .int y, .str k] ∧ FlOk w h (ts ++ [⟨x, y, k⟩]) ∧ ∀ sh2 : Str, sh2 = shownT w h (ts ++ [⟨x, y, k⟩]) → Q (floorD C w h (ts ++ [⟨x, y, k⟩]) sh2) S
theorem n_Floor_with_thing {C : Addr} : ∀ ds S Q E, spWith C ds S Q E → ds.length = 4 := by
  rintro ds S Q E ⟨w, h, ts, sh, x, y, k, rfl, _⟩
  rfl
def spLess (C : Addr) : DSp := fun ds S Q E => ∃ (w h : Int) (ts : List Th) (sh : Str) (n : Nat) (t : Th), ds = [floorD C w h ts sh, .int (n : Nat)] ∧ FlOk w h ts ∧ ts[n]? = some t ∧ ∀ sh2 : Str, sh2 = shownT w h (lessT n ts) → Q (floorD C w h (lessT n ts) sh2) S
theorem n_Floor_without {C : Addr} : ∀ ds S Q E, spLess C ds S Q E → ds.length = 2 := by
  rintro ds S Q E ⟨w, h, ts, sh, n, t, rfl, _⟩
  rfl
def spTurned (C : Addr) : DSp := fun ds S Q E => ∃ (w h : Int) (ts : List Th) (sh : Str) (n : Nat) (t : Th), ds = [floorD C w h ts sh, .int (n : Nat)] ∧ FlOk w h ts ∧ ts[n]? = some t ∧ t.kind ≠ "o" ∧ ∀ sh2 : Str, sh2 = shownT w h (turnT n t ts) → Q (floorD C w h (turnT n t ts) sh2) S
theorem n_Floor_turned {C : Addr} : ∀ ds S Q E, spTurned C ds S Q E → ds.length = 2 := by
  rintro ds S Q E ⟨w, h, ts, sh, n, t, rfl, _⟩
  rfl
def spFEq (C : Addr) : DSp := fun ds S Q E => (∃ (w h : Int) (ts : List Th) (sh : Str) (w2 h2 : Int) (us : List Th) (sh2 : Str), ds = [floorD C w h ts sh, floorD C w2 h2 us sh2] ∧ FlOk w h ts ∧ FlOk w2 h2 us ∧ Q (.bl (decide (w = w2 ∧ h = h2 ∧ ts = us))) S) ∨
  ∃ (w h : Int) (ts : List Th) (sh : Str) (xs : List D), ds = [floorD C w h ts sh, .tup xs] ∧ Q (.bl false) S
theorem n_Floor___eq__ {C : Addr} : ∀ ds S Q E, spFEq C ds S Q E → ds.length = 2 := by
  rintro ds S Q E (⟨w, h, ts, sh, w2, h2, us, sh2, rfl, _⟩ | ⟨w, h, ts, sh, xs, rfl, _⟩)
  · rfl
  · rfl
def spFLen (C : Addr) : DSp := fun ds S Q E => ∃ (w h : Int) (ts : List Th) (sh : Str), ds = [floorD C w h ts sh] ∧ Q (.int ts.length) S
theorem n_Floor___len__ {C : Addr} : ∀ ds S Q E, spFLen C ds S Q E → ds.length = 1 := by
  rintro ds S Q E ⟨w, h, ts, sh, rfl, _⟩
  rfl
def spFRepr (C : Addr) : DSp := fun ds S Q E => ∃ (w h : Int) (ts : List Th) (sh : Str), ds = [floorD C w h ts sh] ∧ Q (.str sh) S
theorem n_Floor___repr__ {C : Addr} : ∀ ds S Q E, spFRepr C ds S Q E → ds.length = 1 := by
  rintro ds S Q E ⟨w, h, ts, sh, rfl, _⟩
  rfl
section
variable {P : Program} {w : World} {K : PySem.W.Frag} {mg : Str → Option Value} {base : Heap} {A : Ads} {B : Fds}
theorem ok_Floor___len__ (T : Txt w K mg A B) : FnOk P w K mg base CX0 1 A.a_Floor___len__ B.a_Floor___len__ ["self"] (spOf K 1 (spFLen A.a_Floor)) := by
  refine dfn_ok T.F_Floor___len__ sc_Floor___len__ n_Floor___len__ (fun cdv Ar outer s H E hr => (ds_one (ds_ret (de_callB cd_len rfl T.z_len (by decide +kernel) (da_cons (de_fld (dv 0) T.cl_Floor T.n_Floor_things) da_nil))))) ?_
  rintro ds S Q E bd ⟨w, h, ts, sh, rfl, q⟩
  rw [show ts.length = (ts.map Th.d).length from (List.length_map ..).symm] at q
  walk_at "go"
  exact Rt.same (d := .int _) trivial q
theorem ok_Floor___repr__ (T : Txt w K mg A B) : FnOk P w K mg base CX0 1 A.a_Floor___repr__ B.a_Floor___repr__ ["self"] (spOf K 1 (spFRepr A.a_Floor)) := by
  refine dfn_ok T.F_Floor___repr__ sc_Floor___repr__ n_Floor___repr__ (fun cdv Ar outer s H E hr => (ds_one (ds_ret (de_callTy cd_str rfl T.z_str (by decide +kernel) (da_cons (de_fld (dv 0) T.cl_Floor T.n_Floor_shown) da_nil))))) ?_
  rintro ds S Q E bd ⟨w, h, ts, sh, rfl, q⟩
  walk_at "go"
  exact Rt.same (d := .str _) trivial q
theorem ok_Floor___eq__ (T : Txt w K mg A B) : FnOk P w K mg base CX0 1 A.a_Floor___eq__ B.a_Floor___eq__ ["self", "other"] (spOf K 2 (spFEq A.a_Floor)) := by
  refine dfn_ok T.F_Floor___eq__ sc_Floor___eq__ n_Floor___eq__ (fun cdv Ar outer s H E hr => (ds_cons (ds_if (dt_not (dt_val (de_callB (cd_isO T.oc_Floor T.ic_Floor) rfl T.z_isinstance (by decide +kernel) (da_cons (dv 1) (da_cons (de_globA rfl T.g_Floor rfl) da_nil))))) (ds_one (ds_ret de_bl)) ds_nil)
      (ds_one (ds_ret (de_and (de_cmp od_eqI (de_fld (dv 0) T.cl_Floor T.n_Floor_width) (de_fld (dv 1) T.cl_Floor T.n_Floor_width) (nomark _)) (de_and (de_cmp od_eqI (de_fld (dv 0) T.cl_Floor T.n_Floor_height) (de_fld (dv 1) T.cl_Floor T.n_Floor_height) (nomark _)) (de_one (de_cmp (od_eq hr.units) (de_fld (dv 0) T.cl_Floor T.n_Floor_things) (de_fld (dv 1) T.cl_Floor T.n_Floor_things) (nomark _))))))))) ?_
  rintro ds S Q E bd (⟨w, h, ts, sh, w2, h2, us, sh2, rfl, l1, l2, q⟩ | ⟨w, h, ts, sh, xs, rfl, q⟩)
  · walk_at "go"
    · rename_i c1 c2
      refine ⟨ths_ok l1.ok, ths_ok l2.ok, ?_⟩
      rw [ths_eqv]
      have e : decide (w = w2 ∧ h = h2 ∧ ts = us) = decide (ts = us) := by
        apply decide_eq_decide.mpr
        exact ⟨fun k => k.2.2, fun k => ⟨c1, c2, k⟩⟩
      rw [e] at q
      exact Rt.same (d := .bl _) trivial q
    · rename_i c1 c2
      rw [decide_eq_false fun k => c2 k.2.1] at q
      exact Rt.same (d := .bl _) trivial q
    · rename_i c1
      rw [decide_eq_false fun k => c1 k.1] at q
      exact Rt.same (d := .bl _) trivial q
  · walk_at "go"
    all_goals exact Rt.same (d := .bl _) trivial q
theorem ok_Floor_number_at (T : Txt w K mg A B) : FnOk P w K mg base CX0 2 A.a_Floor_number_at B.a_Floor_number_at ["self", "x", "y"] (spOf K 3 (spNumAt A.a_Floor)) := by
  refine dfn_ok T.F_Floor_number_at sc_Floor_number_at n_Floor_number_at (fun cdv Ar outer s H E hr => (ds_cons (ds_if (dt_not (dt_val (de_meth (dv 0) T.cl_Floor T.m_Floor_is_point (ok_Floor_is_point T) (hr.mono (by decide)) T.b_Floor_is_point .nil rpl_nil pass0 n_Floor_is_point (da_cons (dv 1) (da_cons (dv 2) da_nil))))) (ds_one (ds_never _)) ds_nil)
      (ds_one (ds_ret (de_dget1 (hu65 hr) (de_fld (dv 0) T.cl_Floor T.n_Floor_numbers) (de_tup (da_cons (dv 1) (da_cons (dv 2) da_nil))) ⟨by rfl, by rfl, by rfl, by rfl⟩))))) ?_
  rintro ds S Q E bd ⟨w, h, ts, sh, x, y, rfl, fo, pt, q⟩
  obtain ⟨f1, f2, f3, f4, f5, f6⟩ := fo
  rw [← num_head x y ts 0] at q
  walk_at "go"
  refine ⟨_, _, _, _, _, rfl, Or.inl ⟨_, rfl, ⟨rfl, rfl, rfl, rfl, rfl, rfl, f1, f2, f3, f4⟩⟩, fun b hb => ?_⟩
  have hb2 : b = true := hb.mpr pt
  subst hb2
  walk_at "go"
  refine Rt.same ?_ q
  rcases num_at x y ts 0 with ⟨e1, e2⟩ | ⟨j, t, e0, e1, e2, e3, e4⟩
  · rw [e1]; trivial
  · rw [e1]; trivial
theorem ok_Floor_with_thing (T : Txt w K mg A B) : FnOk P w K mg base CX0 5 A.a_Floor_with_thing B.a_Floor_with_thing ["self", "x", "y", "kind"] (spOf K 4 (spWith A.a_Floor)) := by
  refine dfn_ok T.F_Floor_with_thing sc_Floor_with_thing n_Floor_with_thing (fun cdv Ar outer s H E hr => (ds_one (ds_ret (de_gc (de_makeSG (n := 3) T.mk_Floor (ok_Floor___init__ T) (hr.mono (by decide)) pass0 rfl T.g_Floor (da_cons (de_fld (dv 0) T.cl_Floor T.n_Floor_width) (da_cons (de_fld (dv 0) T.cl_Floor T.n_Floor_height) (da_star (de_fld (dv 0) T.cl_Floor T.n_Floor_things) (da_cons (de_tup (da_cons (dv 1) (da_cons (dv 2) (da_cons (dv 3) da_nil)))) da_nil))))))))) ?_
  rintro ds S Q E bd ⟨w, h, ts, sh, x, y, k, rfl, fo, q⟩
  have hl := fo.len
  rw [List.length_append, List.length_singleton] at hl
  walk_at "go"
  refine ⟨⟨by simp only [List.length_cons, List.length_append, List.length_map, List.length_nil]; omega, by simp only [List.length_cons, List.length_append, List.length_map, List.length_nil]; omega⟩, S.length, w, h, ts ++ [⟨x, y, k⟩], by rw [List.map_append]; rfl, getElem_push _ _, ⟨fo.w1, fo.w2, fo.h1, fo.h2⟩, fo.ok, fo.len, fun sh2 hsh => ⟨rfl, ?_⟩⟩
  refine Rt.tree (fs := floorF w h (ts ++ [⟨x, y, k⟩]) sh2) (Nat.le_refl _) (List.getElem?_set_self (by rw [List.length_append]; exact Nat.lt_succ_self _)) (floor_bnd _) (fun m hm => ?_) ?_
  · rw [List.getElem?_set_ne (by omega), List.getElem?_append_left hm]
  walk_at "go"
  exact Rt.same (d := floorD _ _ _ _ _) (floor_bnd _) (q sh2 hsh)
theorem ok_Floor_without (T : Txt w K mg A B) : FnOk P w K mg base CX0 5 A.a_Floor_without B.a_Floor_without ["self", "number"] (spOf K 2 (spLess A.a_Floor)) := by
  refine dfn_ok T.F_Floor_without sc_Floor_without n_Floor_without (fun cdv Ar outer s H E hr => (ds_cons (ds_if (dt_not (dt_chain od_le od_lt de_int (dv 1) (de_callB cd_len rfl T.z_len (by decide +kernel) (da_cons (de_fld (dv 0) T.cl_Floor T.n_Floor_things) da_nil)))) (ds_one (ds_never _)) ds_nil)
      (ds_cons (ds_set (i := 2) sc_Floor_without.nd rfl (.inl rfl) (de_gc (de_lst (da_star (de_slT (de_fld (dv 0) T.cl_Floor T.n_Floor_things) do_none (do_some (dv 1))) (da_star (de_slT (de_fld (dv 0) T.cl_Floor T.n_Floor_things) (do_some (de_op od_add (dv 1) de_int)) do_none) da_nil)))))
      (ds_one (ds_ret (de_gc (de_makeSG (n := 3) T.mk_Floor (ok_Floor___init__ T) (hr.mono (by decide)) pass0 rfl T.g_Floor (da_cons (de_fld (dv 0) T.cl_Floor T.n_Floor_width) (da_cons (de_fld (dv 0) T.cl_Floor T.n_Floor_height) (da_star (dv 2) da_nil)))))))))) ?_
  rintro ds S Q E bd ⟨w, h, ts, sh, n, t, rfl, fo, ht, q⟩
  have hn := (List.getElem?_eq_some_iff.mp ht).1
  have hl := fo.len
  have hml : ((ts.map Th.d).length : Int) = ts.length := by rw [List.length_map]
  walk_at "go"
  · rename_i c1 c2
    exact absurd c2 (by omega)
  rotate_left
  · rename_i c1 c2
    exact absurd c1 (by omega)
  rw [cut_to, cut_from, less_map]
  have hll := less_len ht
  refine ⟨line_le (by rw [List.length_map]; omega), ?_⟩
  refine Rt.lstT (ds := (lessT n ts).map Th.d) (Nat.le_refl _) (getElem_push _ _) (bndL_map fun _ => ⟨trivial, trivial, trivial, trivial⟩) (fun m hm => List.getElem?_append_left hm) ?_
  walk_at "go"
  refine ⟨⟨by simp only [List.length_cons, List.length_append, List.length_map, List.length_nil]; omega, by simp only [List.length_cons, List.length_append, List.length_map, List.length_nil]; omega⟩, S.length, w, h, lessT n ts, by rw [List.append_nil]; rfl, getElem_push _ _, ⟨fo.w1, fo.w2, fo.h1, fo.h2⟩, fo.ok.less ht, by omega, fun sh2 hsh => ⟨rfl, ?_⟩⟩
  refine Rt.tree (fs := floorF w h (lessT n ts) sh2) (Nat.le_refl _) (List.getElem?_set_self (by rw [List.length_append]; exact Nat.lt_succ_self _)) (floor_bnd _) (fun m hm => ?_) ?_
  · rw [List.getElem?_set_ne (by omega), List.getElem?_append_left hm]
  walk_at "go"
  exact Rt.same (d := floorD _ _ _ _ _) (floor_bnd _) (q sh2 hsh)
theorem ok_Floor_turned (T : Txt w K mg A B) : FnOk P w K mg base CX0 5 A.a_Floor_turned B.a_Floor_turned ["self", "number"] (spOf K 2 (spTurned A.a_Floor)) := by
  refine dfn_ok T.F_Floor_turned sc_Floor_turned n_Floor_turned (fun cdv Ar outer s H E hr => (ds_cons (ds_if (DW.pt (dw_or (dt_not (dt_chain od_le od_lt de_int (dv 1) (de_callB cd_len rfl T.z_len (by decide +kernel) (da_cons (de_fld (dv 0) T.cl_Floor T.n_Floor_things) da_nil)))) (dw_or1 (dt_cmp od_eqI (de_ix ix_any (de_ix ix_any (de_fld (dv 0) T.cl_Floor T.n_Floor_things) (dv 1) (fun _ _ => rfl)) de_int (fun _ _ => rfl)) (de_globSE rfl T.g_DOOR) (nomark _))))) (ds_one (ds_never _)) ds_nil)
      (ds_cons (ds_asg (de_ix ix_any (de_fld (dv 0) T.cl_Floor T.n_Floor_things) (dv 1) (fun _ _ => rfl)) (dg_tup (n := 3) rfl (dgs_cons (dg_name (i := 2) sc_Floor_turned.nd rfl (.inl rfl)) (dgs_cons (dg_name (i := 3) sc_Floor_turned.nd rfl (.inl rfl)) (dgs_cons (dg_name (i := 4) sc_Floor_turned.nd rfl (.inl rfl)) dgs_nil)))))
      (ds_cons (ds_set (i := 5) sc_Floor_turned.nd rfl (.inl rfl) (de_gc (de_lst (da_star (de_slT (de_fld (dv 0) T.cl_Floor T.n_Floor_things) do_none (do_some (dv 1))) (da_cons (de_tup (da_cons (dv 2) (da_cons (dv 3) (da_cons (de_ix (ix_kGet T.kt_OTHER_KIND) (de_globA rfl T.g_OTHER_KIND rfl) (dv 4) (fun _ _ => rfl)) da_nil)))) (da_star (de_slT (de_fld (dv 0) T.cl_Floor T.n_Floor_things) (do_some (de_op od_add (dv 1) de_int)) do_none) da_nil))))))
      (ds_one (ds_ret (de_gc (de_makeSG (n := 3) T.mk_Floor (ok_Floor___init__ T) (hr.mono (by decide)) pass0 rfl T.g_Floor (da_cons (de_fld (dv 0) T.cl_Floor T.n_Floor_width) (da_cons (de_fld (dv 0) T.cl_Floor T.n_Floor_height) (da_star (dv 5) da_nil))))))))))) ?_
  rintro ds S Q E bd ⟨w, h, ts, sh, n, t, rfl, fo, ht, hk, q⟩
  have hn := (List.getElem?_eq_some_iff.mp ht).1
  have hl := fo.len
  have hml : ((ts.map Th.d).length : Int) = ts.length := by rw [List.length_map]
  have ha : atI (ts.map Th.d) ((n : Nat) : Int) = some t.d := atI_nat (by rw [List.getElem?_map, ht]; rfl)
  walk_at "go"
  · rename_i c1 c2 c3
    exact absurd c2 (by omega)
  · rename_i c1 c2 c3
    exact absurd c3 hk
  rotate_left
  · rename_i c1 c2 c3
    exact absurd c1 (by omega)
  have hlk : List.lookup t.kind [(Str.ofString "|", D.str (Str.ofString "-")), (Str.ofString "-", D.str (Str.ofString "|"))] = some (.str (otherK t.kind)) := by
    rcases (fo.ok.all t (List.mem_of_getElem? ht)) with ⟨h1 | h1, _⟩ | ⟨h1, _⟩
    · rw [h1]; rfl
    · rw [h1]; rfl
    · exact absurd h1 hk
  refine ⟨_, hlk, ?_⟩
  walk_at "go"
  rw [cut_to, cut_from, turn_map]
  have hll := turn_len ht
  refine ⟨line_le (by rw [List.length_map]; omega), ?_⟩
  refine Rt.lstT (ds := (turnT n t ts).map Th.d) (Nat.le_refl _) (getElem_push _ _) (bndL_map fun _ => ⟨trivial, trivial, trivial, trivial⟩) (fun m hm => List.getElem?_append_left hm) ?_
  walk_at "go"
  refine ⟨⟨by simp only [List.length_cons, List.length_append, List.length_map, List.length_nil]; omega, by simp only [List.length_cons, List.length_append, List.length_map, List.length_nil]; omega⟩, S.length, w, h, turnT n t ts, by rw [List.append_nil]; rfl, getElem_push _ _, ⟨fo.w1, fo.w2, fo.h1, fo.h2⟩, fo.ok.turn ht hk, by omega, fun sh2 hsh => ⟨rfl, ?_⟩⟩
  refine Rt.tree (fs := floorF w h (turnT n t ts) sh2) (Nat.le_refl _) (List.getElem?_set_self (by rw [List.length_append]; exact Nat.lt_succ_self _)) (floor_bnd _) (fun m hm => ?_) ?_
  · rw [List.getElem?_set_ne (by omega), List.getElem?_append_left hm]
  walk_at "go"
  exact Rt.same (d := floorD _ _ _ _ _) (floor_bnd _) (q sh2 hsh)
end
end K

namespace K
open PySem L2 DL
local macro_rules | `(tactic| walk_at "w") => `(tactic| (conv => whnf))
local macro_rules | `(tactic| walk_at "at") => `(tactic| first | assumption | (refine SrcStep.get (l := ?l0) (n := ?n0) (S := ?s0) ?h1 ?h2 ?h3; (case h1 => assumption); (case h2 => omega); (case h3 => walk_at "at")) | (refine set_same (o := ?oo) ?sm; (case sm => walk_at "at")) | (refine set_other ?sm ?sn; (case sn => omega); (case sm => walk_at "at")) | (exact getElem_push _ _) | (refine app_left ?sm; (case sm => walk_at "at")) | rfl)
local macro_rules | `(tactic| walk_at "get") => `(tactic| (refine Exists.intro ?wit (And.intro ?gt ?_); (case gt => walk_at "at")))
local macro_rules | `(tactic| walk_at "bool") => `(tactic| (refine And.intro (fun hcond => ?_) (fun hcond => ?_) <;> (first | (exact absurd hcond (by decide)) | (simp only [decide_eq_true_eq, decide_eq_false_iff_not, Bool.not_eq_true', Bool.not_eq_false', Int.not_lt, Int.not_le, inD_nil, inD_int_cons, Bool.or_eq_true, Bool.or_eq_false_iff, Bool.or_false, ne_eq, Decidable.not_not] at hcond) | skip)))
local macro_rules | `(tactic| walk_at "len") => `(tactic| (refine line_le6 ?_; (try simp only [len_cat, len_e]); omega))
local macro_rules | `(tactic| walk_at "cond") => `(tactic| first | assumption | rfl | exact True.intro | omega | (exact Nat.le_of_ble_eq_true rfl) | (refine mulS ?cm1 ?cm2 <;> omega) | (refine divS ?cm1 <;> omega) | (refine And.intro ?cd1 ?cd2 <;> decide) | (exact line_le (Nat.le_of_ble_eq_true rfl)) | (exact line_lt (Nat.le_of_ble_eq_true rfl)) | (refine' Exists.intro _ (Exists.intro _ (And.intro rfl ?cm1)); (case cm1 => walk_at "at")) | (exact log_le (by omega)) | walk_at "len" | solve_by_elim | fail "no cond")
local macro_rules | `(tactic| walk_at "src") => `(tactic| first | assumption | (refine SrcStep.srcAt (S := ?ss) ?st; (case st => assumption)) | (refine SrcAt.app ?st; (case st => walk_at "src")))
local macro_rules | `(tactic| walk_at "draw") => `(tactic| (refine' Exists.intro _ (Exists.intro _ (Exists.intro ?nn (And.intro rfl (And.intro ?d1 (And.intro ?d2 (And.intro ?d3 (fun r S' h0 h1 hst => ?_))))))); (case d1 => walk_at "src"); (case d2 => omega); (case d3 => omega)))
local macro_rules | `(tactic| walk_at "steps") => `(tactic| first | assumption | (refine SrcStep.trans (n := ?sn) (S1 := ?sm) ?sx ?sy; (case sy => assumption); (case sx => walk_at "steps")) | (refine SrcAt.refl ?sz; assumption))
local macro_rules | `(tactic| walk_at "side") => `(tactic| (refine And.intro ?sd ?_; (case sd => walk_at "cond")))
local macro_rules | `(tactic| walk_at "go1") => `(tactic| (conv => whnf) <;> (first | walk_at "get" | walk_at "bool" | walk_at "draw" | walk_at "side" | fail "no step"))
local macro_rules | `(tactic| walk_at "go") => `(tactic| (repeat' (walk_at "go1")); (all_goals try (conv => whnf)))

theorem fF {C : Prop} (h : false = true) : C := nomatch h
theorem tF {C : Prop} (h : true = false) : C := nomatch h
theorem str_self (s : Str) : PyData.eqv (py (.str s)) (py (.str s)) = true := by
  show (s == s) = true
  exact beq_self_eq_true s
theorem int_self (c : Int) : PyData.eqv (py (.int c)) (py (.int c)) = true := by
  show (c == c) = true
  exact beq_self_eq_true c
theorem sF {s : Str} {C : Prop} (h : PyData.eqv (py (.str s)) (py (.str s)) = false) : C := by rw [str_self] at h; cases h
theorem iF {c : Int} {C : Prop} (h : PyData.eqv (py (.int c)) (py (.int c)) = false) : C := by rw [int_self] at h; cases h
theorem pF {a b : Int} {C : Prop} (h : PyData.eqv (py (.tup [.int a, .int b])) (py (.tup [.int a, .int b])) = false) : C := by rw [pt_eqv, decide_eq_true ⟨rfl, rfl⟩] at h; cases h
local macro_rules | `(tactic| walk_at "no") => `(tactic| first
  | (rename_i hc0; first | exact fF hc0 | exact tF hc0 | exact sF hc0 | exact iF hc0 | exact pF hc0 | exact absurd trivial hc0 | exact absurd rfl hc0)
  | (rename_i hc0 hc1; first | exact fF hc0 | exact tF hc0 | exact sF hc0 | exact iF hc0 | exact pF hc0 | exact absurd trivial hc0 | exact absurd rfl hc0)
  | (rename_i hc0 hc1 hc2; first | exact fF hc0 | exact tF hc0 | exact sF hc0 | exact iF hc0 | exact pF hc0 | exact absurd trivial hc0 | exact absurd rfl hc0)
  | (rename_i hc0 hc1 hc2 hc3; first | exact fF hc0 | exact tF hc0 | exact sF hc0 | exact iF hc0 | exact pF hc0 | exact absurd trivial hc0 | exact absurd rfl hc0))
def spSame (C : Addr) : DSp := fun ds S Q E => ∃ (w h : Int) (ts : List Th) (sh : Str), ds = [floorD C w h ts sh, sizeD w h, .tup (ts.map Th.d)] ∧ FlOk w h ts ∧ sh = shownT w h ts ∧ Q (.bl true) S
theorem n__law_same {C : Addr} : ∀ ds S Q E, spSame C ds S Q E → ds.length = 3 := by
  rintro ds S Q E ⟨w, h, ts, sh, rfl, _⟩
  rfl
def spPts (C : Addr) : DSp := fun ds S Q E => ∃ (l : Nat) (w h : Int) (ts : List Th) (sh : Str) (n : Nat), ds = [.loc l, floorD C w h ts sh, sizeD w h, .tup (ts.map Th.d)] ∧ SrcAt S l n ∧ n < 50000000 ∧ FlOk w h ts ∧ ∀ S', SrcStep l (n + 12) S S' → Q (.bl true) S'
theorem n__law_points_right {C : Addr} : ∀ ds S Q E, spPts C ds S Q E → ds.length = 4 := by
  rintro ds S Q E ⟨l, w, h, ts, sh, n, rfl, _⟩
  rfl
def spChg (C : Addr) : DSp := fun ds S Q E => ∃ (l : Nat) (w h : Int) (ts : List Th) (sh : Str) (n : Nat), ds = [.loc l, floorD C w h ts sh, sizeD w h, .tup (ts.map Th.d)] ∧ SrcAt S l n ∧ n < 50000000 ∧ FlOk w h ts ∧ ts ≠ [] ∧ ∀ S', SrcStep l (n + 1) S S' → Q (.bl true) S'
theorem n__law_changes_right {C : Addr} : ∀ ds S Q E, spChg C ds S Q E → ds.length = 4 := by
  rintro ds S Q E ⟨l, w, h, ts, sh, n, rfl, _⟩
  rfl
section
variable {P : Program} {w : World} {K : PySem.W.Frag} {mg : Str → Option Value} {base : Heap} {A : Ads} {B : Fds}
theorem ok__law_same (T : Txt w K mg A B) : FnG P w K mg base 4 A.a_law_same B.a_law_same ["_law_floor", "_law_size", "_law_things"] (spOf K 3 (spSame A.a_Floor)) := by
  refine dfn_okG T.F__law_same sc__law_same n__law_same (fun cdv Ar outer s H E hG hr => (ds_cons (ds_if (DW.pt (dw_or (dt_cmp (od_ne hr.units) (de_tup (da_cons (de_fld (dv 0) T.cl_Floor T.n_Floor_width) (da_cons (de_fld (dv 0) T.cl_Floor T.n_Floor_height) da_nil))) (dv 1) (nomark _)) (dw_or (dt_cmp od_neI (de_callB (cd_reprT hG (hu65 hr)) rfl T.z_repr (by decide +kernel) (da_cons (de_fld (dv 0) T.cl_Floor T.n_Floor_things) da_nil)) (de_callB (cd_reprT hG (hu65 hr)) rfl T.z_repr (by decide +kernel) (da_cons (dv 2) da_nil)) (nomark _)) (dw_or1 (dt_cmp od_neI (de_callB (cd_lenO T.m_Floor___len__ (ok_Floor___len__ T) (hr.mono (by decide)) T.b_Floor___len__ pass0) rfl T.z_len (by decide +kernel) (da_cons (dv 0) da_nil)) (de_callB cd_len rfl T.z_len (by decide +kernel) (da_cons (dv 2) da_nil)) (nomark _)))))) (ds_one (ds_ret de_bl)) ds_nil)
      (ds_cons (ds_set (i := 3) sc__law_same.nd rfl (.inl rfl) (de_op od_catS (de_op od_catS (de_callTy cd_str rfl T.z_str (by decide +kernel) (da_cons (de_ix ix_any (dv 1) de_int (fun _ _ => rfl)) da_nil)) de_str) (de_callTy cd_str rfl T.z_str (by decide +kernel) (da_cons (de_ix ix_any (dv 1) de_int (fun _ _ => rfl)) da_nil))))
      (ds_cons (ds_mark 1 (ds_if (dt_cmp (od_ne hr.units) (dv 2) (de_tup da_nil) (nomark _)) (ds_one (ds_set (i := 3) sc__law_same.nd rfl (.inl rfl) (de_op od_catS (de_op od_catS (dv 3) de_str) (de_join de_str (de_gc (de_lc (own := [("_law_x", 4), ("_law_y", 5), ("_law_kind", 6)]) rfl sc__law_same.nd (di_tup (dv 2)) (blkOk_by (own := [("_law_x", 4), ("_law_y", 5), ("_law_kind", 6)]) (N := ["_law_floor", "_law_size", "_law_things", "_law_shown", "_law_x", "_law_y", "_law_kind"]) (sc := defScope s__law_same) (by decide +kernel)) (fun _ _ _ _ _ => (dg_tup (n := 3) rfl (dgs_cons (dg_name (i := 4) sc__law_same.nd rfl (.inl rfl)) (dgs_cons (dg_name (i := 5) sc__law_same.nd rfl (.inl rfl)) (dgs_cons (dg_name (i := 6) sc__law_same.nd rfl (.inl rfl)) dgs_nil))))) (fun _ _ _ _ _ => dts_nil) (fun _ _ _ _ _ => (de_op od_catS (de_op od_catS (de_op od_catS (de_callTy cd_str rfl T.z_str (by decide +kernel) (da_cons (dv 4) da_nil)) de_str) (de_callTy cd_str rfl T.z_str (by decide +kernel) (da_cons (dv 5) da_nil))) (dv 6))))))))) ds_nil))
      (ds_one (ds_ret (de_and (de_cmp od_eqI (de_callB (cd_reprO T.m_Floor___repr__ (ok_Floor___repr__ T) (hr.mono (by decide)) T.b_Floor___repr__ pass0) rfl T.z_repr (by decide +kernel) (da_cons (dv 0) da_nil)) (de_op od_catS (de_op od_catS de_str (dv 3)) de_str) (nomark _)) (de_one (de_cmp od_eqI (de_joined1 (de_fmtO T.fc_Floor T.m_Floor___repr__ (ok_Floor___repr__ T) (hr.mono (by decide)) T.b_Floor___repr__ pass0 (dv 0))) (de_op od_catS (de_op od_catS de_str (dv 3)) de_str) (nomark _)))))))))) ?_
  rintro ds S Q E bd ⟨w, h, ts, sh, rfl, fo, hsh, q⟩
  have hl := fo.len
  have rep : ReprOk (.tup (ts.map Th.d)) := fine_th fo
  have f1 := fo.w1
  have f2 := fo.w2
  have f3 := fo.h1
  have f4 := fo.h2
  walk_at "go"
  all_goals try (walk_at "no")
  have lw := len_int (i := w) (log2_small (by omega) (by decide))
  have lh := len_int (i := h) (log2_small (by omega) (by decide))
  have hml : (ts.map Th.d).length = ts.length := List.length_map ..
  have l1 : (Str.ofString "Floor(").length = 6 := rfl
  have l2 : (Str.ofString "x").length = 1 := rfl
  have l3 : (Str.ofString ": ").length = 2 := rfl
  have l4 : (Str.ofString ")").length = 1 := rfl
  refine ⟨w, h, ts, sh, rfl, ts.length, rfl, by omega, ?_⟩
  walk_at "go"
  all_goals try (walk_at "no")
  · rename_i c1
    exact absurd c1 (by rw [hml]; exact fun k => k rfl)
  refine mark_join (fun ρ' S1 => ∃ u4 u5 u6 : Option D, ρ' = [some (floorD A.a_Floor w h ts sh), some (sizeD w h), some (.tup (ts.map Th.d)), some (.str (lawT w h ts)), u4, u5, u6] ∧ S1 = S) (fun N hN => ?_) ?_
  · walk_at "go"
    refine ⟨ths_ok fo.ok, rfl, ?_⟩
    rw [show PyData.eqv (py (.tup (ts.map Th.d))) (py (.tup [])) = decide (ts = []) from ths_eqv ts []]
    by_cases hts : ts = []
    · rw [decide_eq_true hts]
      walk_at "go"
      all_goals try (walk_at "no")
      refine hN _ _ ⟨none, none, none, ?_, rfl⟩
      unfold lawT
      rw [if_pos hts]
      rfl
    · rw [decide_eq_false hts]
      walk_at "go"
      all_goals try (walk_at "no")
      refine ⟨⟨_, rfl⟩, ?_⟩
      refine comp_gc (ts.map Th.d) thF (fun P h => h) (fun x hx acc k hk => ?_) (line_le (by rw [List.length_map]; omega)) ?_ ?_
      · obtain ⟨t, ht, rfl⟩ := List.mem_map.mp hx
        obtain ⟨b1, b2, b3, b4, b5⟩ := (fo.ok.all t ht).box f1 f3
        have b6 := (fo.ok.all t ht).kl
        have l2 : (Str.ofString ",").length = 1 := rfl
        have lx := len_int (i := t.x) (log2_small (by omega) (by decide))
        have ly := len_int (i := t.y) (log2_small (by omega) (by decide))
        walk_at "go"
        exact hk
      · rw [thF_map]
        exact bndL_map fun _ => trivial
      · rw [thF_map]
        have hs := sum_th fo
        have hj := join_le (Str.ofString " ") (ts.map thT)
        have hsp : (Str.ofString " ").length = 1 := rfl
        have hsl : (ts.map thT).length = ts.length := List.length_map ..
        rw [hsp] at hj
        refine ⟨_, _, rfl, rfl, by rw [hsp]; omega, ?_⟩
        have hlw : lawT w h ts = sizeT w h ++ (Str.ofString ": ") ++ Txt.join (Str.ofString " ") (ts.map thT) := if_neg hts
        generalize Txt.join (Str.ofString " ") (ts.map thT) = jj at hj hlw ⊢
        walk_at "go"
        refine hN _ _ ⟨none, none, none, ?_, rfl⟩
        rw [hlw]
        rfl
  rintro ρ' S1 ⟨u4, u5, u6, rfl, rfl⟩
  have lq := lawT_len fo
  have hq := shown_law w h ts
  generalize lawT w h ts = q0 at lq hq ⊢
  walk_at "go"
  refine ⟨w, h, ts, sh, rfl, sh, rfl, ?_⟩
  walk_at "go"
  · refine ⟨w, h, ts, sh, rfl, sh, rfl, ?_⟩
    walk_at "go"
    rw [hsh, ← hq, decide_eq_true rfl]
    exact Rt.same (d := .bl true) trivial q
  · rename_i c1
    exact absurd (hsh.trans hq.symm) c1
theorem ok__law_points_right (T : Txt w K mg A B) : FnG P w K mg base 4 A.a_law_points_right B.a_law_points_right ["_law_source_here", "_law_floor", "_law_size", "_law_things"] (spOf K 4 (spPts A.a_Floor)) := by
  refine dfn_okG T.F__law_points_right sc__law_points_right n__law_points_right (fun cdv Ar outer s H E hG hr => (ds_cons (ds_setLc (i := 4) (own := [("_law_x", 5), ("_law_y", 6), ("_law_kind", 11)]) rfl sc__law_points_right.nd rfl rfl (sw_true rfl rfl rfl (by decide +kernel)) (di_tup (de_slT (dv 3) do_none (do_some de_int))) (blkOk_by (own := [("_law_x", 5), ("_law_y", 6), ("_law_kind", 11)]) (N := ["_law_source_here", "_law_floor", "_law_size", "_law_things", "_law_spots", "_law_x", "_law_y", "_law_number", "_law_inside", "_law_inner", "_law_due", "_law_kind"]) (sc := defScope s__law_points_right) (by decide +kernel)) (fun _ _ _ _ _ => (dg_tup (n := 3) rfl (dgs_cons (dg_name (i := 5) sc__law_points_right.nd rfl (.inl rfl)) (dgs_cons (dg_name (i := 6) sc__law_points_right.nd rfl (.inl rfl)) (dgs_cons (dg_name (i := 11) sc__law_points_right.nd rfl (.inl rfl)) dgs_nil))))) (fun _ _ _ _ _ => dts_nil) (fun _ _ _ _ _ => (de_tup (da_cons (dv 5) (da_cons (dv 6) da_nil)))))
      (ds_cons (ds_for PassesOwn.never rfl (di_tup (de_tup (da_cons (de_tup (da_cons de_int (da_cons de_int da_nil))) (da_cons (de_tup (da_cons de_int (da_cons de_int da_nil))) (da_cons (de_tup (da_cons de_int (da_cons de_int da_nil))) (da_cons (de_tup (da_cons (de_op od_mul de_int (de_ix ix_any (dv 2) de_int (fun _ _ => rfl))) (da_cons de_int da_nil))) (da_cons (de_tup (da_cons de_int (da_cons (de_op od_mul de_int (de_ix ix_any (dv 2) de_int (fun _ _ => rfl))) da_nil))) (da_cons (de_tup (da_cons (de_op od_add (de_op od_mul de_int (de_ix ix_any (dv 2) de_int (fun _ _ => rfl))) de_int) (da_cons de_int da_nil))) (da_cons (de_tup (da_cons (de_neg de_int) (da_cons de_int da_nil))) da_nil))))))))) (dg_tup (n := 2) rfl (dgs_cons (dg_name (i := 5) sc__law_points_right.nd rfl (.inr rfl)) (dgs_cons (dg_name (i := 6) sc__law_points_right.nd rfl (.inr rfl)) dgs_nil))) (ds_one (ds_expr (de_append (dv 4) (de_tup (da_cons (dv 5) (da_cons (dv 6) da_nil)))))))
      (ds_cons (ds_for PassesOwn.never rfl (di_rng1 rfl T.z_range (da_cons de_int da_nil)) (dg_name (i := 7) sc__law_points_right.nd rfl (.inl rfl)) (ds_one (ds_expr (de_append (dv 4) (de_tup (da_cons (de_call (ok__law_draw T) (hr.mono (by decide)) rfl T.g__law_draw T.k__law_draw T.b__law_draw .nil rpl_nil pass0 n__law_draw (da_cons (dv 0) (da_cons (de_op od_add (de_op od_mul de_int (de_ix ix_any (dv 2) de_int (fun _ _ => rfl))) de_int) da_nil))) (da_cons (de_call (ok__law_draw T) (hr.mono (by decide)) rfl T.g__law_draw T.k__law_draw T.b__law_draw .nil rpl_nil pass0 n__law_draw (da_cons (dv 0) (da_cons (de_op od_add (de_op od_mul de_int (de_ix ix_any (dv 2) de_int (fun _ _ => rfl))) de_int) da_nil))) da_nil)))))))
      (ds_cons (ds_forM PassesOwn.never rfl (dv 4) (dg_tup (n := 2) rfl (dgs_cons (dg_name (i := 5) sc__law_points_right.nd rfl (.inr rfl)) (dgs_cons (dg_name (i := 6) sc__law_points_right.nd rfl (.inr rfl)) dgs_nil))) (ds_cons (ds_mark 1 (ds_set (i := 8) sc__law_points_right.nd rfl (.inl rfl) (de_and (de_chain od_le od_le de_int (dv 5) (de_op od_mul de_int (de_ix ix_any (dv 2) de_int (fun _ _ => rfl)))) (de_and (de_chain od_le od_le de_int (dv 6) (de_op od_mul de_int (de_ix ix_any (dv 2) de_int (fun _ _ => rfl)))) (de_one (de_cmp od_eqI (de_op od_mod (de_op od_add (dv 5) (dv 6)) de_int) de_int (nomark _)))))))
      (ds_cons (ds_mark 2 (ds_set (i := 9) sc__law_points_right.nd rfl (.inl rfl) (de_and (dv 8) (de_and (de_chain od_lt od_lt de_int (dv 5) (de_op od_mul de_int (de_ix ix_any (dv 2) de_int (fun _ _ => rfl)))) (de_one (de_chain od_lt od_lt de_int (dv 6) (de_op od_mul de_int (de_ix ix_any (dv 2) de_int (fun _ _ => rfl)))))))))
      (ds_cons (ds_if (DW.pt (dw_or (dt_cmp od_neI (de_callB (cd_reprT hG (hu65 hr)) rfl T.z_repr (by decide +kernel) (da_cons (de_meth (dv 1) T.cl_Floor T.m_Floor_is_point (ok_Floor_is_point T) (hr.mono (by decide)) T.b_Floor_is_point .nil rpl_nil pass0 n_Floor_is_point (da_cons (dv 5) (da_cons (dv 6) da_nil))) da_nil)) (de_callB (cd_reprT hG (hu65 hr)) rfl T.z_repr (by decide +kernel) (da_cons (dv 8) da_nil)) (nomark _)) (dw_or1 (dt_cmp od_neI (de_callB (cd_reprT hG (hu65 hr)) rfl T.z_repr (by decide +kernel) (da_cons (de_meth (dv 1) T.cl_Floor T.m_Floor_is_inner (ok_Floor_is_inner T) (hr.mono (by decide)) T.b_Floor_is_inner .nil rpl_nil pass0 n_Floor_is_inner (da_cons (dv 5) (da_cons (dv 6) da_nil))) da_nil)) (de_callB (cd_reprT hG (hu65 hr)) rfl T.z_repr (by decide +kernel) (da_cons (dv 9) da_nil)) (nomark _))))) (ds_one (ds_ret de_bl)) ds_nil)
      (ds_cons (ds_setLcG (i := 10) (own := [("_law_number", 7)]) rfl sc__law_points_right.nd rfl rfl (sw_true rfl rfl rfl (by decide +kernel)) (di_rng1 rfl T.z_range (da_cons (de_callB cd_len rfl T.z_len (by decide +kernel) (da_cons (dv 3) da_nil)) da_nil)) (blkOk_by (own := [("_law_number", 7)]) (N := ["_law_source_here", "_law_floor", "_law_size", "_law_things", "_law_spots", "_law_x", "_law_y", "_law_number", "_law_inside", "_law_inner", "_law_due", "_law_kind"]) (sc := defScope s__law_points_right) (by decide +kernel)) (fun _ _ _ _ _ => (dg_name (i := 7) sc__law_points_right.nd rfl (.inl rfl))) (fun _ _ _ _ _ => (dts_one (dt_cmp (od_eq hr.units) (de_slT (de_ix ix_any (dv 3) (dv 7) (fun _ _ => rfl)) do_none (do_some de_int)) (de_tup (da_cons (dv 5) (da_cons (dv 6) da_nil))) (nomark _)))) (fun _ _ _ _ _ => (dv 7)))
      (ds_one (ds_if (DW.pt (dw_and (dt_val (dv 8)) (dw_and1 (dt_cmp od_neI (de_callB (cd_reprT hG (hu65 hr)) rfl T.z_repr (by decide +kernel) (da_cons (de_meth (dv 1) T.cl_Floor T.m_Floor_number_at (ok_Floor_number_at T) (hr.mono (by decide)) T.b_Floor_number_at .nil rpl_nil pass0 n_Floor_number_at (da_cons (dv 5) (da_cons (dv 6) da_nil))) da_nil)) (de_callB (cd_reprT hG (hu65 hr)) rfl T.z_repr (by decide +kernel) (da_cons (de_ifExp (dt_cmp (od_ne hr.units) (dv 10) (de_lst da_nil) (nomark _)) (de_ix ix_any (dv 10) de_int (fun _ _ => rfl)) de_non) da_nil)) (nomark _))))) (ds_one (ds_ret de_bl)) ds_nil)))))))
      (ds_one (ds_ret de_bl))))))) ?_
  rintro ds S Q E bd ⟨l, w, h, ts, sh, n, rfl, sa, hn, fo, q⟩
  have fo0 := fo
  obtain ⟨f1, f2, f3, f4, f5, f6⟩ := fo
  have hml : (ts.map Th.d).length = ts.length := List.length_map ..
  have hl1 : l < S.length := by
    obtain ⟨o, e, _⟩ := sa
    exact (List.getElem?_eq_some_iff.mp e).1
  walk_at "go"
  rw [show cutD (ts.map Th.d) none (some 9) = (ts.take 9).map Th.d from by rw [List.map_take]; exact cut_to (n := 9)]
  have hsp := ptF_spots (ts.take 9)
  have hl9 : (ts.take 9).length ≤ 9 := List.length_take_le ..
  refine compL_pure (S := S) ptF ((ts.take 9).map Th.d) [] ?_ (by rw [List.length_map]; exact line_le (by show 0 + _ ≤ 1000; omega)) ?_
  · intro d hd acc k hk
    obtain ⟨t, ht, rfl⟩ := List.mem_map.mp hd
    walk_at "go"
    exact hk
  rw [List.nil_append]
  generalize ((ts.take 9).map Th.d).filterMap ptF = L0 at hsp ⊢
  obtain ⟨hs0, hl0⟩ := hsp
  walk_at "go"
  refine forL_inv (fun k ρ' S1 => ∃ (L : List D) (u5 u6 u7 u8 u9 u10 : Option D), ρ' = [some (.loc l), some (floorD A.a_Floor w h ts sh), some (sizeD w h), some (.tup (ts.map Th.d)), some (.loc S.length), u5, u6, u7, u8, u9, u10, none] ∧ S1 = S ++ [.lst L] ∧ Spots L ∧ L.length ≤ 9 + k) _ 0 _ _ ⟨L0, none, none, none, none, none, none, rfl, rfl, hs0, by omega⟩ ?_ ?_
  · rintro j d ρ S1 hj ⟨L, u5, u6, u7, u8, u9, u10, rfl, rfl, hs, hl⟩ N hN
    rw [Nat.zero_add] at hl hN
    have hj7 : j < 7 := (List.getElem?_eq_some_iff.mp hj).1
    obtain ⟨x, y, rfl⟩ : ∃ x y : Int, d = .tup [.int x, .int y] := by
      match j, hj with
      | 0, hj => cases hj; exact ⟨_, _, rfl⟩
      | 1, hj => cases hj; exact ⟨_, _, rfl⟩
      | 2, hj => cases hj; exact ⟨_, _, rfl⟩
      | 3, hj => cases hj; exact ⟨_, _, rfl⟩
      | 4, hj => cases hj; exact ⟨_, _, rfl⟩
      | 5, hj => cases hj; exact ⟨_, _, rfl⟩
      | 6, hj => cases hj; exact ⟨_, _, rfl⟩
      | j + 7, hj => cases hj
    walk_at "go"
    rw [set_push]
    exact hN _ _ ⟨L ++ [.tup [.int x, .int y]], _, _, _, _, _, _, rfl, rfl, hs.snoc x y, by rw [List.length_append, List.length_singleton]; omega⟩
  rintro ρ S1 ⟨L, u5, u6, u7, u8, u9, u10, rfl, rfl, hs, hl⟩
  have hl : L.length ≤ 16 := hl
  walk_at "go"
  refine forL_inv (fun k ρ' S1 => ∃ (L : List D) (T1 : Store) (u5 u6 u7 u8 u9 u10 : Option D), ρ' = [some (.loc l), some (floorD A.a_Floor w h ts sh), some (sizeD w h), some (.tup (ts.map Th.d)), some (.loc S.length), u5, u6, u7, u8, u9, u10, none] ∧ SrcStep l (n + 2 * k) S T1 ∧ S1 = T1 ++ [.lst L] ∧ Spots L ∧ L.length ≤ 16 + k) _ 0 _ _ ⟨L, S, u5, u6, u7, u8, u9, u10, rfl, SrcAt.refl sa, rfl, hs, by omega⟩ ?_ ?_
  · rintro j d ρ S1 hj ⟨L, T1, u5, u6, u7, u8, u9, u10, rfl, st, rfl, hs, hl⟩ N hN
    rw [Nat.zero_add] at hl hN st
    have hj6 := (intsFrom_get hj).1
    have hlen := st.len
    have hl2 : l < T1.length := by omega
    have sa1 : SrcAt (T1 ++ [.lst L]) l (n + 2 * j) := st.srcAt.app
    walk_at "go"
    refine ⟨⟨_, _, rfl, by rw [← hlen]; exact getElem_push _ _⟩, ?_⟩
    walk_at "go"
    rename_i x S2 x0 x1 st1 y S3 y0 y1 st2
    obtain ⟨T2, st3, rfl⟩ := SrcStep.app hl2 (st1.trans st2)
    have st4 := st.trans st3
    have hlen4 := st4.len
    refine ⟨.lst L, by rw [← hlen4]; exact getElem_push _ _, ?_⟩
    walk_at "go"
    rw [← hlen4, set_push, hlen4]
    exact hN _ _ ⟨L ++ [.tup [.int x, .int y]], T2, _, _, _, _, _, _, rfl, st4.mono (by omega), rfl, hs.snoc x y, by rw [List.length_append, List.length_singleton]; omega⟩
  rintro ρ S1 ⟨L, T1, u5, u6, u7, u8, u9, u10, rfl, st, rfl, hs, hl⟩
  have hl : L.length ≤ 22 := hl
  have st : SrcStep l (n + 12) S T1 := st
  have hlen := st.len
  have hgX : ∀ ex, (T1 ++ ([Ob.lst L] ++ ex))[S.length]? = some (.lst L) := fun ex => by rw [← hlen, List.getElem?_append_right (Nat.le_refl _), Nat.sub_self]; rfl
  have hgL : (T1 ++ [Ob.lst L])[S.length]? = some (.lst L) := hgX []
  walk_at "go"
  refine forM_inv (fun k ρ' S2 => ∃ (u5 u6 u7 u8 u9 u10 : Option D), ρ' = [some (.loc l), some (floorD A.a_Floor w h ts sh), some (sizeD w h), some (.tup (ts.map Th.d)), some (.loc S.length), u5, u6, u7, u8, u9, u10, none] ∧ ∃ ex, S2 = T1 ++ ([.lst L] ++ ex)) (fun i ρ S2 hh => by obtain ⟨u5, u6, u7, u8, u9, u10, _, ex, h⟩ := hh; rw [h]; exact hgX ex) _ 0 _ _ ⟨_, _, _, _, _, _, rfl, [], rfl⟩ ?_ ?_
  · clear u5 u6 u7 u8 u9 u10
    rintro k d ρ S2 hk ⟨u5, u6, u7, u8, u9, u10, rfl, ex, hex⟩ N hN
    have hg2 : S2[S.length]? = some (.lst L) := by rw [hex]; exact hgX ex
    obtain ⟨x, y, rfl⟩ := hs d (List.mem_of_getElem? hk)
    walk_at "go"
    refine mark_join (fun ρ' S3 => ∃ (b : Bool), (b = true ↔ Point w h x y) ∧ ρ' = [some (.loc l), some (floorD A.a_Floor w h ts sh), some (sizeD w h), some (.tup (ts.map Th.d)), some (.loc S.length), some (.int x), some (.int y), u7, some (.bl b), u9, u10, none] ∧ S2 = S3) (fun N2 hN2 => ?_) ?_
    · walk_at "go"
      all_goals
        refine hN2 _ _ ⟨_, ?_, rfl, rfl⟩
        unfold Point
        simp only [decide_eq_true_eq, Bool.false_eq_true, false_iff]
        omega
    rintro ρ' S3 ⟨b1, hb1, rfl, rfl⟩
    walk_at "go"
    refine mark_join (fun ρ' S3 => ∃ (b : Bool), (b = true ↔ Inner w h x y) ∧ ρ' = [some (.loc l), some (floorD A.a_Floor w h ts sh), some (sizeD w h), some (.tup (ts.map Th.d)), some (.loc S.length), some (.int x), some (.int y), u7, some (.bl b1), some (.bl b), u10, none] ∧ S2 = S3) (fun N2 hN2 => ?_) ?_
    · unfold Point at hb1
      walk_at "go"
      all_goals
        refine hN2 _ _ ⟨_, ?_, rfl, rfl⟩
        unfold Inner
        (try subst b1)
        simp only [decide_eq_true_eq, Bool.false_eq_true, false_iff, true_iff] at hb1 ⊢
        omega
    rintro ρ' S3 ⟨b2, hb2, rfl, rfl⟩
    walk_at "go"
    refine ⟨_, _, _, _, _, rfl, Or.inl ⟨_, rfl, ⟨rfl, rfl, rfl, rfl, rfl, rfl, f1, f2, f3, f4⟩⟩, fun b hb => ?_⟩
    obtain rfl : b = b1 := Bool.eq_iff_iff.mpr (hb.trans hb1.symm)
    walk_at "go"
    all_goals try (walk_at "no")
    refine ⟨_, _, _, _, _, rfl, Or.inl ⟨_, rfl, ⟨rfl, rfl, rfl, rfl, rfl, rfl, f1, f2, f3, f4⟩⟩, fun b3 hb3 => ?_⟩
    obtain rfl : b3 = b2 := Bool.eq_iff_iff.mpr (hb3.trans hb2.symm)
    walk_at "go1"
    · rename_i c1
      walk_at "no"
    conv => whnf
    rw [hml]
    have hl40 : ts.length ≤ 40 := f6
    refine ⟨by omega, by omega, ?_⟩
    have hit : DL.intsFrom 0 ((ts.length : Int) - 0).toNat = DL.intsFrom 0 ts.length := by rw [Int.sub_zero, Int.toNat_natCast]
    have hli : (DL.intsFrom 0 ts.length).length = ts.length := by unfold DL.intsFrom; rw [List.length_map, List.length_range]
    refine compL_pure (S := S2) (idxF ts x y) (DL.intsFrom 0 ts.length) [] ?_ (by rw [hli]; exact line_le (by show 0 + _ ≤ 1000; omega)) ?_
    · intro d hd acc k hk
      obtain ⟨i, hi⟩ := List.mem_iff_getElem?.mp hd
      obtain ⟨hi1, rfl⟩ := intsFrom_get hi
      obtain ⟨t, ht⟩ : ∃ t, ts[i]? = some t := ⟨_, List.getElem?_eq_getElem hi1⟩
      have ha : atI (ts.map Th.d) (0 + (i : Int)) = some t.d := by rw [Int.zero_add]; exact atI_nat (by rw [List.getElem?_map, ht]; rfl)
      have hk2 : k (if t.x = x ∧ t.y = y then some (D.int (0 + (i : Int))) else none) (S2 ++ [Ob.lst acc]) := by
        have e : idxF ts x y (.int (0 + (i : Int))) = if t.x = x ∧ t.y = y then some (D.int (0 + (i : Int))) else none := by
          show (if (ts[(0 + (i : Int)).toNat]?.any fun t => decide (t.x = x ∧ t.y = y)) = true then some (D.int (0 + (i : Int))) else none) = _
          rw [Int.zero_add, Int.toNat_natCast, ht]
          simp
        rw [e] at hk
        exact hk
      walk_at "go1"
      conv => whnf
      refine ⟨line_le (Nat.le_of_ble_eq_true rfl), rfl, rfl, ?_⟩
      rw [show PyData.eqv (py (.tup (cutD [D.int t.x, D.int t.y, D.str t.kind] none (some 2)))) (py (.tup [.int x, .int y])) = decide (t.x = x ∧ t.y = y) from pt_eqv _ _ _ _]
      by_cases hm : t.x = x ∧ t.y = y
      · rw [decide_eq_true hm]
        rw [if_pos hm] at hk2
        walk_at "go"
        all_goals try (walk_at "no")
        exact hk2
      · rw [decide_eq_false hm]
        rw [if_neg hm] at hk2
        walk_at "go"
        all_goals try (walk_at "no")
        exact hk2
    rw [List.nil_append, idx_all]
    have hix := idxs_lt x y ts 0
    generalize hjs : idxs x y 0 ts = js at hix ⊢
    refine Rt.lstT (ds := js.map fun j => D.int (j : Nat)) (Nat.le_refl _) (getElem_push _ _) (bndL_map fun _ => trivial) (fun m hm => List.getElem?_append_left hm) ?_
    walk_at "go"
    rotate_left
    · exact hN _ _ ⟨_, _, _, _, _, _, rfl, ex, hex⟩
    rename_i hbt
    refine ⟨w, h, ts, sh, x, y, rfl, fo0, hb1.mp hbt, ?_⟩
    rw [hjs]
    cases js with
    | nil =>
      walk_at "go"
      all_goals try (walk_at "no")
      all_goals exact hN _ _ ⟨_, _, _, _, _, _, rfl, ex ++ [.lst []], by rw [hex]; simp only [List.append_assoc]⟩
    | cons j jr =>
      have hj40 := hix j List.mem_cons_self
      rw [Nat.zero_add] at hj40
      have j200 : (-2 ^ 200 : Int) < (j : Int) ∧ (j : Int) < 2 ^ 200 := ⟨Int.lt_of_lt_of_le (show (-2 ^ 200 : Int) < 0 by decide) (by omega), Int.lt_trans (show (j : Int) < 1000 by omega) (by decide)⟩
      conv => whnf
      refine ⟨j200, ?_⟩
      conv => whnf
      refine ⟨line_le (Nat.le_of_ble_eq_true rfl), ?_⟩
      conv => whnf
      refine ⟨_, getElem_push _ _, ?_⟩
      conv => whnf
      refine ⟨?_, rfl, ?_⟩
      · show ((j :: jr).map fun j : Nat => D.int (j : Int)).all (okD 11) = true
        rw [List.all_map]
        exact List.all_eq_true.mpr fun _ _ => rfl
      refine ⟨fun _ => ?_, fun hh => absurd (show true = false from hh) (by decide)⟩
      conv => whnf
      refine ⟨.int j, atI_nat (j := 0) rfl, ?_⟩
      conv => whnf
      refine ⟨j200, ?_⟩
      walk_at "go"
      all_goals try (walk_at "no")
      all_goals exact hN _ _ ⟨_, _, _, _, _, _, rfl, ex ++ [.lst []], by rw [hex]; simp only [List.append_assoc]⟩
  rintro ρ S2 ⟨u5, u6, u7, u8, u9, u10, rfl, ex, rfl⟩
  walk_at "go"
  exact Rt.srcs st trivial (q _ st)
theorem ok__law_changes_right (T : Txt w K mg A B) : FnG P w K mg base 7 A.a_law_changes_right B.a_law_changes_right ["_law_source_here", "_law_floor", "_law_size", "_law_things"] (spOf K 4 (spChg A.a_Floor)) := by
  refine dfn_okG T.F__law_changes_right sc__law_changes_right n__law_changes_right (fun cdv Ar outer s H E hG hr => (ds_cons (ds_set (i := 4) sc__law_changes_right.nd rfl (.inl rfl) (de_call (ok__law_draw T) (hr.mono (by decide)) rfl T.g__law_draw T.k__law_draw T.b__law_draw .nil rpl_nil pass0 n__law_draw (da_cons (dv 0) (da_cons (de_callB cd_len rfl T.z_len (by decide +kernel) (da_cons (dv 3) da_nil)) da_nil))))
      (ds_cons (ds_asg (de_ix ix_any (dv 3) (dv 4) (fun _ _ => rfl)) (dg_tup (n := 3) rfl (dgs_cons (dg_name (i := 5) sc__law_changes_right.nd rfl (.inl rfl)) (dgs_cons (dg_name (i := 6) sc__law_changes_right.nd rfl (.inl rfl)) (dgs_cons (dg_name (i := 7) sc__law_changes_right.nd rfl (.inl rfl)) dgs_nil)))))
      (ds_cons (ds_set (i := 8) sc__law_changes_right.nd rfl (.inl rfl) (de_op od_cat (de_slT (dv 3) do_none (do_some (dv 4))) (de_slT (dv 3) (do_some (de_op od_add (dv 4) de_int)) do_none)))
      (ds_cons (ds_if (dt_not (dt_val (de_callG hG (ok__law_same T) (hr.mono (by decide)) rfl T.g__law_same T.k__law_same T.b__law_same pass0 n__law_same (da_cons (de_meth (dv 1) T.cl_Floor T.m_Floor_without (ok_Floor_without T) (hr.mono (by decide)) T.b_Floor_without .nil rpl_nil pass0 n_Floor_without (da_cons (dv 4) da_nil)) (da_cons (dv 2) (da_cons (dv 8) da_nil)))))) (ds_one (ds_ret de_bl)) ds_nil)
      (ds_cons (ds_if (dt_not (dt_val (de_callG hG (ok__law_same T) (hr.mono (by decide)) rfl T.g__law_same T.k__law_same T.b__law_same pass0 n__law_same (da_cons (de_meth (de_meth (dv 1) T.cl_Floor T.m_Floor_without (ok_Floor_without T) (hr.mono (by decide)) T.b_Floor_without .nil rpl_nil pass0 n_Floor_without (da_cons (dv 4) da_nil)) T.cl_Floor T.m_Floor_with_thing (ok_Floor_with_thing T) (hr.mono (by decide)) T.b_Floor_with_thing .nil rpl_nil pass0 n_Floor_with_thing (da_cons (dv 5) (da_cons (dv 6) (da_cons (dv 7) da_nil)))) (da_cons (dv 2) (da_cons (de_op od_cat (dv 8) (de_tup (da_cons (de_ix ix_any (dv 3) (dv 4) (fun _ _ => rfl)) da_nil))) da_nil)))))) (ds_one (ds_ret de_bl)) ds_nil)
      (ds_cons (ds_if (dt_cmp od_eqI (dv 7) de_str (nomark _)) (ds_one (ds_ret de_bl)) ds_nil)
      (ds_cons (ds_set (i := 9) sc__law_changes_right.nd rfl (.inl rfl) (de_op od_cat (de_op od_cat (de_slT (dv 3) do_none (do_some (dv 4))) (de_tup (da_cons (de_tup (da_cons (dv 5) (da_cons (dv 6) (da_cons (de_gc (de_dget (hu65 hr) (de_disp (dps_cons de_str (dps_cons de_str dps_nil))) (dv 7) (by intro _ _; rfl))) da_nil)))) da_nil))) (de_slT (dv 3) (do_some (de_op od_add (dv 4) de_int)) do_none)))
      (ds_one (ds_ret (de_callG hG (ok__law_same T) (hr.mono (by decide)) rfl T.g__law_same T.k__law_same T.b__law_same pass0 n__law_same (da_cons (de_meth (dv 1) T.cl_Floor T.m_Floor_turned (ok_Floor_turned T) (hr.mono (by decide)) T.b_Floor_turned .nil rpl_nil pass0 n_Floor_turned (da_cons (dv 4) da_nil)) (da_cons (dv 2) (da_cons (dv 9) da_nil)))))))))))))) ?_
  rintro ds S Q E bd ⟨l, w, h, ts, sh, n, rfl, sa, hn, fo, hne, q⟩
  have hml : (ts.map Th.d).length = ts.length := List.length_map ..
  have hpos : 0 < ts.length := List.length_pos_iff.mpr hne
  have hl := fo.len
  walk_at "go"
  rename_i r S' r0 r1 st
  obtain ⟨i, rfl⟩ : ∃ i : Nat, r = (i : Int) := ⟨r.toNat, by omega⟩
  have hi : i < ts.length := by omega
  obtain ⟨t, ht⟩ : ∃ t, ts[i]? = some t := ⟨_, List.getElem?_eq_getElem hi⟩
  have ha : atI (ts.map Th.d) ((i : Nat) : Int) = some t.d := atI_nat (by rw [List.getElem?_map, ht]; rfl)
  have q2 := q S' st
  refine ⟨t.d, ha, ?_⟩
  walk_at "go"
  rw [cut_to, cut_from]
  have hll := less_len ht
  have hlm : ((lessT i ts).map Th.d).length = (lessT i ts).length := List.length_map ..
  have hld : ((ts.map Th.d).drop (i + 1)).length = ts.length - (i + 1) := by rw [List.length_drop, hml]
  have hlt : ((ts.map Th.d).take i).length = i := by rw [List.length_take, hml]; omega
  refine ⟨line_le (by omega), ?_⟩
  rw [less_map2]
  walk_at "go"
  refine ⟨w, h, ts, sh, i, t, rfl, fo, ht, fun sh2 hsh2 => ?_⟩
  walk_at "go"
  refine ⟨w, h, lessT i ts, sh2, rfl, fo.less ht, hsh2, ?_⟩
  walk_at "go"
  all_goals try (walk_at "no")
  refine ⟨w, h, ts, sh, i, t, rfl, fo, ht, fun sh3 hsh3 => ?_⟩
  walk_at "go"
  refine ⟨w, h, lessT i ts, sh3, t.x, t.y, t.kind, rfl, fo.back ht, fun sh4 hsh4 => ?_⟩
  walk_at "go"
  have e1 : (lessT i ts).map Th.d ++ [t.d] = (lessT i ts ++ [t]).map Th.d := by rw [List.map_append]; rfl
  refine ⟨line_le (by rw [hlm]; show _ + 1 ≤ _; omega), ?_⟩
  rw [e1]
  walk_at "go"
  refine ⟨w, h, lessT i ts ++ [t], sh4, rfl, fo.back ht, hsh4, ?_⟩
  walk_at "go"
  all_goals try (walk_at "no")
  · exact Rt.src st trivial q2
  rename_i hk
  have hlk : valD (dspK [Str.ofString "|", Str.ofString "-"] [D.str (Str.ofString "-"), D.str (Str.ofString "|")]) (Sum.inr t.kind) = some (.str (otherK t.kind)) := by
    rcases (fo.ok.all t (List.mem_of_getElem? ht)) with ⟨h1 | h1, _⟩ | ⟨h1, _⟩
    · rw [h1]; rfl
    · rw [h1]; rfl
    · exact absurd h1 hk
  refine ⟨_, hlk, ?_⟩
  refine Rt.same (d := .str _) trivial ?_
  walk_at "go"
  rw [cut_to]
  refine ⟨line_le (by show _ + 1 ≤ _; omega), ?_⟩
  walk_at "go"
  rw [cut_from]
  refine ⟨line_le (by rw [List.length_append, hlt, hld]; show i + 1 + _ ≤ _; omega), ?_⟩
  have e2 : (ts.map Th.d).take i ++ [D.tup [.int t.x, .int t.y, .str (otherK t.kind)]] ++ (ts.map Th.d).drop (i + 1) = (turnT i t ts).map Th.d := by
    rw [← turn_map, List.append_assoc, List.append_nil]
    rfl
  rw [e2]
  walk_at "go"
  refine ⟨w, h, ts, sh, i, t, rfl, fo, ht, hk, fun sh5 hsh5 => ?_⟩
  walk_at "go"
  refine ⟨w, h, turnT i t ts, sh5, rfl, fo.turn ht hk, hsh5, ?_⟩
  exact Rt.src st trivial q2
end
end K

namespace K
open PySem L2 DL
local macro_rules | `(tactic| walk_at "w") => `(tactic| (conv => whnf))
local macro_rules | `(tactic| walk_at "at") => `(tactic| first | assumption | (refine SrcStep.get (l := ?l0) (n := ?n0) (S := ?s0) ?h1 ?h2 ?h3; (case h1 => assumption); (case h2 => omega); (case h3 => walk_at "at")) | (refine set_same (o := ?oo) ?sm; (case sm => walk_at "at")) | (refine set_other ?sm ?sn; (case sn => omega); (case sm => walk_at "at")) | (exact getElem_push _ _) | (refine app_left ?sm; (case sm => walk_at "at")) | rfl)
local macro_rules | `(tactic| walk_at "get") => `(tactic| (refine Exists.intro ?wit (And.intro ?gt ?_); (case gt => walk_at "at")))
local macro_rules | `(tactic| walk_at "bool") => `(tactic| (refine And.intro (fun hcond => ?_) (fun hcond => ?_) <;> (first | (exact absurd hcond (by decide)) | (simp only [decide_eq_true_eq, decide_eq_false_iff_not, Bool.not_eq_true', Bool.not_eq_false', Int.not_lt, Int.not_le, inD_nil, inD_int_cons, Bool.or_eq_true, Bool.or_eq_false_iff, Bool.or_false, ne_eq, Decidable.not_not] at hcond) | skip)))
local macro_rules | `(tactic| walk_at "len") => `(tactic| (refine line_le6 ?_; (try simp only [len_cat, len_e]); omega))
local macro_rules | `(tactic| walk_at "cond") => `(tactic| first | assumption | rfl | exact True.intro | omega | (exact Nat.le_of_ble_eq_true rfl) | (refine mulS ?cm1 ?cm2 <;> omega) | (refine divS ?cm1 <;> omega) | (refine And.intro ?cd1 ?cd2 <;> decide) | (exact line_le (Nat.le_of_ble_eq_true rfl)) | (exact line_lt (Nat.le_of_ble_eq_true rfl)) | (refine' Exists.intro _ (Exists.intro _ (And.intro rfl ?cm1)); (case cm1 => walk_at "at")) | (exact log_le (by omega)) | walk_at "len" | solve_by_elim | fail "no cond")
local macro_rules | `(tactic| walk_at "src") => `(tactic| first | assumption | (refine SrcStep.srcAt (S := ?ss) ?st; (case st => assumption)) | (refine SrcAt.app ?st; (case st => walk_at "src")))
local macro_rules | `(tactic| walk_at "draw") => `(tactic| (refine' Exists.intro _ (Exists.intro _ (Exists.intro ?nn (And.intro rfl (And.intro ?d1 (And.intro ?d2 (And.intro ?d3 (fun r S' h0 h1 hst => ?_))))))); (case d1 => walk_at "src"); (case d2 => omega); (case d3 => omega)))
local macro_rules | `(tactic| walk_at "steps") => `(tactic| first | assumption | (refine SrcStep.trans (n := ?sn) (S1 := ?sm) ?sx ?sy; (case sy => assumption); (case sx => walk_at "steps")) | (refine SrcAt.refl ?sz; assumption))
local macro_rules | `(tactic| walk_at "side") => `(tactic| (refine And.intro ?sd ?_; (case sd => walk_at "cond")))
local macro_rules | `(tactic| walk_at "go1") => `(tactic| (conv => whnf) <;> (first | walk_at "get" | walk_at "bool" | walk_at "draw" | walk_at "side" | fail "no step"))
local macro_rules | `(tactic| walk_at "go") => `(tactic| (repeat' (walk_at "go1")); (all_goals try (conv => whnf)))

/-- the source has drawn, and there is something new behind -/
def SrcX (l m : Nat) (S S' : Store) : Prop := ∃ S1 ex, SrcStep l m S S1 ∧ S' = S1 ++ ex
section
variable {l m m' : Nat} {S S' S'' Y : Store}
theorem SrcX.srcAt (t : SrcX l m S S') : SrcAt S' l m := by
  obtain ⟨S1, ex, h, rfl⟩ := t
  exact h.srcAt.app
theorem SrcX.lt (t : SrcX l m S S') : l < S'.length := by
  obtain ⟨S1, ex, h, rfl⟩ := t
  obtain ⟨o, hl, ho, rfl⟩ := h
  rw [List.length_append, List.length_set]; omega
theorem SrcX.step (t : SrcX l m S S') (h : SrcStep l m' S' S'') : SrcX l m' S S'' := by
  obtain ⟨S1, ex, h1, rfl⟩ := t
  obtain ⟨o, hl, ho, e⟩ := h1
  obtain ⟨S2, h2, rfl⟩ := SrcStep.app (by rw [e, List.length_set]; exact hl) h
  exact ⟨S2, ex, SrcStep.trans ⟨o, hl, ho, e⟩ h2, rfl⟩
theorem SrcX.push (t : SrcX l m S S') : SrcX l m S (S' ++ Y) := by
  obtain ⟨S1, ex, h1, rfl⟩ := t
  exact ⟨S1, ex ++ Y, h1, by rw [List.append_assoc]⟩
theorem SrcX.mono (t : SrcX l m S S') (h : m ≤ m') : SrcX l m' S S' := by
  obtain ⟨S1, ex, h1, rfl⟩ := t
  exact ⟨S1, ex, h1.mono h, rfl⟩
theorem SrcX.refl (h : SrcAt S l m) : SrcX l m S S := ⟨S, [], SrcAt.refl h, (List.append_nil _).symm⟩
end
theorem SrcX.ext {m : Nat} {T0 S' : Store} {o : Ob} (h : SrcX T0.length m (T0 ++ [o]) S') : ∃ ex, S' = T0 ++ ex := by
  obtain ⟨S1, ex, ⟨o', hl, ho, rfl⟩, rfl⟩ := h
  exact ⟨[o'] ++ ex, by rw [set_push, List.append_assoc]⟩
theorem noTh {w h : Int} : ThsOk w h [] := ⟨fun _ h => (nomatch h), List.nodup_nil⟩
theorem flPlain {w h : Int} (b : 1 ≤ w ∧ w ≤ 1000000000000000 ∧ 1 ≤ h ∧ h ≤ 1000000000000000) : FlOk w h [] := ⟨b.1, b.2.1, b.2.2.1, b.2.2.2, noTh, by decide⟩
local macro_rules | `(tactic| walk_at "no") => `(tactic| first
  | (rename_i hc0; first | exact fF hc0 | exact tF hc0 | exact sF hc0 | exact iF hc0 | exact pF hc0 | exact absurd trivial hc0 | exact absurd rfl hc0)
  | (rename_i hc0 hc1; first | exact fF hc0 | exact tF hc0 | exact sF hc0 | exact iF hc0 | exact pF hc0 | exact absurd trivial hc0 | exact absurd rfl hc0)
  | (rename_i hc0 hc1 hc2; first | exact fF hc0 | exact tF hc0 | exact sF hc0 | exact iF hc0 | exact pF hc0 | exact absurd trivial hc0 | exact absurd rfl hc0)
  | (rename_i hc0 hc1 hc2 hc3; first | exact fF hc0 | exact tF hc0 | exact sF hc0 | exact iF hc0 | exact pF hc0 | exact absurd trivial hc0 | exact absurd rfl hc0))
def spLaw : DSp := fun ds S Q E => ∃ (ns : List Int), ds = [.scr ns] ∧ ns.length ≤ 63 ∧ Q (.bl true) S
theorem n_law : ∀ ds S Q E, spLaw ds S Q E → ds.length = 1 := by
  rintro ds S Q E ⟨ns, rfl, _⟩
  rfl
section
variable {P : Program} {w : World} {K : PySem.W.Frag} {mg : Str → Option Value} {base : Heap} {A : Ads} {B : Fds}
theorem ok_law (T : Txt w K mg A B) : FnG P w K mg base 11 A.a_law B.a_law ["_law_script"] (spOf K 1 spLaw) := by
  refine dfn_okG T.F_law sc_law n_law (fun cdv Ar outer s H E hG hr => (ds_cons (ds_for PassesOwn.never rfl (di_rng1 rfl T.z_range (da_cons (de_callB (cd_max2 rfl) rfl T.z_max (by decide +kernel) (da_cons de_int (da_cons (de_callB (cd_min2 rfl) rfl T.z_min (by decide +kernel) (da_cons de_int (da_cons (de_callB cd_len rfl T.z_len (by decide +kernel) (da_cons (dv 0) da_nil)) da_nil))) da_nil))) da_nil)) (dg_name (i := 1) sc_law.nd rfl (.inl rfl)) (ds_cons (ds_set (i := 2) sc_law.nd rfl (.inl rfl) (de_call (ok__law_source T) (hr.mono (by decide)) rfl T.g__law_source T.k__law_source T.b__law_source .nil rpl_nil pass0 n__law_source (da_cons (dv 0) (da_cons (dv 1) da_nil))))
      (ds_cons (ds_mark 1 (ds_set (i := 3) sc_law.nd rfl (.inl rfl) (de_call (ok__law_drawn_size T) (hr.mono (by decide)) rfl T.g__law_drawn_size T.k__law_drawn_size T.b__law_drawn_size .nil rpl_nil pass0 n__law_drawn_size (da_cons (dv 2) (da_cons (de_ix ix_any (de_lst (da_cons de_int (da_cons (de_op od_pow de_int de_int) da_nil))) (de_call (ok__law_draw T) (hr.mono (by decide)) rfl T.g__law_draw T.k__law_draw T.b__law_draw .nil rpl_nil pass0 n__law_draw (da_cons (dv 2) (da_cons de_int da_nil))) (fun _ _ => rfl)) da_nil)))))
      (ds_cons (ds_set (i := 4) sc_law.nd rfl (.inl rfl) (de_call (ok__law_drawn_things T) (hr.mono (by decide)) rfl T.g__law_drawn_things T.k__law_drawn_things T.b__law_drawn_things .nil rpl_nil pass0 n__law_drawn_things (da_cons (dv 2) (da_cons (dv 3) (da_cons de_int (da_cons de_int da_nil))))))
      (ds_cons (ds_set (i := 5) sc_law.nd rfl (.inl rfl) (de_cmeth (de_globA rfl T.g_Floor rfl) T.cr_Floor T.cm_Floor_of (ok_Floor_of T) (hr.mono (by decide)) T.b_Floor_of pass0 n_Floor_of (da_cons (de_ix ix_any (dv 3) de_int (fun _ _ => rfl)) (da_cons (de_ix ix_any (dv 3) de_int (fun _ _ => rfl)) (da_cons (dv 4) da_nil)))))
      (ds_cons (ds_if (DW.pt (dw_or (dt_not (dt_val (de_callG hG (ok__law_same T) (hr.mono (by decide)) rfl T.g__law_same T.k__law_same T.b__law_same pass0 n__law_same (da_cons (dv 5) (da_cons (dv 3) (da_cons (dv 4) da_nil)))))) (dw_or1 (dt_not (dt_val (de_callG hG (ok__law_points_right T) (hr.mono (by decide)) rfl T.g__law_points_right T.k__law_points_right T.b__law_points_right pass0 n__law_points_right (da_cons (dv 2) (da_cons (dv 5) (da_cons (dv 3) (da_cons (dv 4) da_nil)))))))))) (ds_one (ds_ret de_bl)) ds_nil)
      (ds_cons (ds_for PassesOwn.never rfl (di_tup (de_tup (da_cons (de_revT (dv 4)) (da_cons (de_slT (dv 4) (do_some de_int) do_none) (da_cons (de_call (ok__law_drawn_things T) (hr.mono (by decide)) rfl T.g__law_drawn_things T.k__law_drawn_things T.b__law_drawn_things .nil rpl_nil pass0 n__law_drawn_things (da_cons (dv 2) (da_cons (dv 3) (da_cons de_int (da_cons de_int da_nil))))) (da_cons (dv 4) da_nil)))))) (dg_name (i := 6) sc_law.nd rfl (.inl rfl)) (ds_cons (ds_set (i := 9) sc_law.nd rfl (.inl rfl) (de_cmp (od_eq hr.units) (dv 6) (dv 4) (nomark _)))
      (ds_cons (ds_set (i := 10) sc_law.nd rfl (.inl rfl) (de_cmeth (de_globA rfl T.g_Floor rfl) T.cr_Floor T.cm_Floor_of (ok_Floor_of T) (hr.mono (by decide)) T.b_Floor_of pass0 n_Floor_of (da_cons (de_ix ix_any (dv 3) de_int (fun _ _ => rfl)) (da_cons (de_ix ix_any (dv 3) de_int (fun _ _ => rfl)) (da_cons (dv 6) da_nil)))))
      (ds_one (ds_if (DW.pt (dw_or (dt_cmp (od_ne hr.units) (de_cmp (od_eqO T.oc_Floor T.m_Floor___eq__ (ok_Floor___eq__ T) (hr.mono (by decide)) T.b_Floor___eq__ pass0) (dv 5) (dv 10) (nomark _)) (dv 9) (nomark _)) (dw_or1 (dt_cmp (od_eq hr.units) (de_cmp (od_neO T.oc_Floor T.m_Floor___eq__ (ok_Floor___eq__ T) (hr.mono (by decide)) T.b_Floor___eq__ pass0) (dv 5) (dv 10) (nomark _)) (dv 9) (nomark _))))) (ds_one (ds_ret de_bl)) ds_nil)))))
      (ds_cons (ds_if (DW.pt (dw_or (dt_cmp (od_eqO T.oc_Floor T.m_Floor___eq__ (ok_Floor___eq__ T) (hr.mono (by decide)) T.b_Floor___eq__ pass0) (dv 5) (de_cmeth (de_globA rfl T.g_Floor rfl) T.cr_Floor T.cm_Floor_of (ok_Floor_of T) (hr.mono (by decide)) T.b_Floor_of pass0 n_Floor_of (da_cons (de_op od_add (de_op od_mod (de_ix ix_any (dv 3) de_int (fun _ _ => rfl)) (de_op od_pow de_int de_int)) de_int) (da_cons (de_ix ix_any (dv 3) de_int (fun _ _ => rfl)) (da_cons (de_tup da_nil) da_nil)))) (nomark _)) (dw_or (dt_cmp (od_eqO T.oc_Floor T.m_Floor___eq__ (ok_Floor___eq__ T) (hr.mono (by decide)) T.b_Floor___eq__ pass0) (dv 5) (dv 4) (nomark _)) (dw_or1 (dt_cmp (od_eqO T.oc_Floor T.m_Floor___eq__ (ok_Floor___eq__ T) (hr.mono (by decide)) T.b_Floor___eq__ pass0) (dv 5) (dv 3) (nomark _)))))) (ds_one (ds_ret de_bl)) ds_nil)
      (ds_cons (ds_mark 2 (ds_if (DW.pt (dw_and (dt_cmp od_neI (de_ix ix_any (dv 3) de_int (fun _ _ => rfl)) (de_ix ix_any (dv 3) de_int (fun _ _ => rfl)) (nomark _)) (dw_and1 (dt_cmp (od_eqO T.oc_Floor T.m_Floor___eq__ (ok_Floor___eq__ T) (hr.mono (by decide)) T.b_Floor___eq__ pass0) (de_gc (de_makeR (n := 3) T.mk_Floor (ok_Floor___init__ T) (hr.mono (by decide)) pass0 rfl T.g_Floor (da_cons (de_ix ix_any (dv 3) de_int (fun _ _ => rfl)) (da_cons (de_ix ix_any (dv 3) de_int (fun _ _ => rfl)) da_nil)))) (de_gc (de_makeR (n := 3) T.mk_Floor (ok_Floor___init__ T) (hr.mono (by decide)) pass0 rfl T.g_Floor (da_cons (de_ix ix_any (dv 3) de_int (fun _ _ => rfl)) (da_cons (de_ix ix_any (dv 3) de_int (fun _ _ => rfl)) da_nil)))) (nomark _))))) (ds_one (ds_ret de_bl)) ds_nil))
      (ds_cons (ds_mark 3 (ds_if (DW.pt (dw_and (dt_cmp (od_ne hr.units) (dv 4) (de_tup da_nil) (nomark _)) (dw_and1 (dt_not (dt_val (de_callG hG (ok__law_changes_right T) (hr.mono (by decide)) rfl T.g__law_changes_right T.k__law_changes_right T.b__law_changes_right pass0 n__law_changes_right (da_cons (dv 2) (da_cons (dv 5) (da_cons (dv 3) (da_cons (dv 4) da_nil)))))))))) (ds_one (ds_ret de_bl)) ds_nil))
      (ds_cons (ds_set (i := 7) sc_law.nd rfl (.inl rfl) (de_cmeth (de_globA rfl T.g_Floor rfl) T.cr_Floor T.cm_Floor_of (ok_Floor_of T) (hr.mono (by decide)) T.b_Floor_of pass0 n_Floor_of (da_cons (de_ix ix_any (dv 3) de_int (fun _ _ => rfl)) (da_cons (de_ix ix_any (dv 3) de_int (fun _ _ => rfl)) (da_cons (de_slT (dv 4) do_none (do_some de_int)) da_nil)))))
      (ds_cons (ds_mark 4 (ds_if (DW.pt (dw_and (dt_cmp (od_ne hr.units) (dv 4) (de_tup da_nil) (nomark _)) (dw_and1 (dt_cmp (od_neO T.oc_Floor T.m_Floor___eq__ (ok_Floor___eq__ T) (hr.mono (by decide)) T.b_Floor___eq__ pass0) (de_gc (de_makeR (n := 3) T.mk_Floor (ok_Floor___init__ T) (hr.mono (by decide)) pass0 rfl T.g_Floor (da_cons (de_ix ix_any (dv 3) de_int (fun _ _ => rfl)) (da_cons (de_ix ix_any (dv 3) de_int (fun _ _ => rfl)) (da_cons (de_ix ix_any (dv 4) de_int (fun _ _ => rfl)) da_nil))))) (dv 7) (nomark _))))) (ds_one (ds_ret de_bl)) ds_nil))
      (ds_cons (ds_set (i := 8) sc_law.nd rfl (.inl rfl) (dv 4))
      (ds_cons (ds_mark 5 (ds_if (dt_cmp od_gt (de_callB cd_len rfl T.z_len (by decide +kernel) (da_cons (dv 8) da_nil)) de_int (nomark _)) (ds_cons (ds_set (i := 11) sc_law.nd rfl (.inl rfl) (de_gc (de_makeR (n := 3) T.mk_Floor (ok_Floor___init__ T) (hr.mono (by decide)) pass0 rfl T.g_Floor (da_cons (de_ix ix_any (dv 3) de_int (fun _ _ => rfl)) (da_cons (de_ix ix_any (dv 3) de_int (fun _ _ => rfl)) (da_cons (de_ix ix_any (dv 8) de_int (fun _ _ => rfl)) (da_cons (de_ix ix_any (dv 8) de_int (fun _ _ => rfl)) (da_cons (de_ix ix_any (dv 8) de_int (fun _ _ => rfl)) (da_cons (de_ix ix_any (dv 8) de_int (fun _ _ => rfl)) (da_cons (de_ix ix_any (dv 8) de_int (fun _ _ => rfl)) (da_cons (de_ix ix_any (dv 8) de_int (fun _ _ => rfl)) (da_cons (de_ix ix_any (dv 8) de_int (fun _ _ => rfl)) (da_cons (de_ix ix_any (dv 8) de_int (fun _ _ => rfl)) da_nil)))))))))))))
      (ds_one (ds_if (dt_cmp (od_neO T.oc_Floor T.m_Floor___eq__ (ok_Floor___eq__ T) (hr.mono (by decide)) T.b_Floor___eq__ pass0) (dv 11) (de_cmeth (de_globA rfl T.g_Floor rfl) T.cr_Floor T.cm_Floor_of (ok_Floor_of T) (hr.mono (by decide)) T.b_Floor_of pass0 n_Floor_of (da_cons (de_ix ix_any (dv 3) de_int (fun _ _ => rfl)) (da_cons (de_ix ix_any (dv 3) de_int (fun _ _ => rfl)) (da_cons (de_slT (dv 8) do_none (do_some de_int)) da_nil)))) (nomark _)) (ds_one (ds_ret de_bl)) ds_nil))) ds_nil))
      (ds_one (ds_if (DW.pt (dw_or (dt_not (dt_val (de_callG hG (ok__law_same T) (hr.mono (by decide)) rfl T.g__law_same T.k__law_same T.b__law_same pass0 n__law_same (da_cons (dv 5) (da_cons (dv 3) (da_cons (dv 4) da_nil)))))) (dw_or1 (dt_not (dt_val (de_callG hG (ok__law_same T) (hr.mono (by decide)) rfl T.g__law_same T.k__law_same T.b__law_same pass0 n__law_same (da_cons (de_gc (de_makeR (n := 3) T.mk_Floor (ok_Floor___init__ T) (hr.mono (by decide)) pass0 rfl T.g_Floor (da_cons (de_ix ix_any (dv 3) de_int (fun _ _ => rfl)) (da_cons (de_ix ix_any (dv 3) de_int (fun _ _ => rfl)) da_nil)))) (da_cons (dv 3) (da_cons (de_tup da_nil) da_nil))))))))) (ds_one (ds_ret de_bl)) ds_nil))))))))))))))))
      (ds_one (ds_ret (de_cmp od_eqI (de_cvalE (d := D.int 40) (de_globA rfl T.g_Floor rfl) T.cr_Floor T.cv_Floor_MOST_THINGS (fun _ _ => rfl)) de_int (nomark _)))))) ?_
  rintro ds S Q E bd ⟨ns, rfl, hns, q⟩
  walk_at "go"
  refine forL_inv (fun k ρ' S' => ∃ (u1 u2 u3 u4 u5 u6 u7 u8 u9 u10 u11 : Option D) (ex : Store), ρ' = [some (.scr ns), u1, u2, u3, u4, u5, u6, u7, u8, u9, u10, u11] ∧ S' = S ++ ex) _ 0 _ _ ⟨none, none, none, none, none, none, none, none, none, none, none, [], rfl, (List.append_nil _).symm⟩ ?_ ?_
  · rintro j xx ρ S0 hj ⟨u1, u2, u3, u4, u5, u6, u7, u8, u9, u10, u11, ex, rfl, rfl⟩ N hN
    obtain ⟨hj1, rfl⟩ := intsFrom_get hj
    have hj2 : j < 1000 := by
      rw [List.length_map] at hj1
      split at hj1 <;> omega
    walk_at "go"
    refine ⟨ns, 0 + j, rfl, by omega, by omega, fun o ho => ?_⟩
    generalize hT : S ++ ex = T0
    have sa : SrcAt (T0 ++ [o]) T0.length 0 := ⟨o, getElem_push _ _, ho⟩
    have sx := SrcX.refl sa
    walk_at "go"
    refine mark_join (fun ρ' S1 => ∃ (w h : Int), (1 ≤ w ∧ w ≤ 1000000000000000 ∧ 1 ≤ h ∧ h ≤ 1000000000000000) ∧ ρ' = [some (.scr ns), some (.int (0 + j)), some (.loc T0.length), some (sizeD w h), u4, u5, u6, u7, u8, u9, u10, u11] ∧ SrcX T0.length 10 (T0 ++ [o]) S1) (fun N hN => ?_) ?_
    · walk_at "go"
      rename_i r1 Sa a1 a2 sta
      have hle : (T0 ++ [o]).length = T0.length + 1 := by rw [List.length_append]; rfl
      have ne : T0.length ≠ (T0 ++ [o]).length := by omega
      have sxa : SrcX T0.length 1 (T0 ++ [o]) Sa := sx.push.step sta
      have hr1 : r1 = 0 ∨ r1 = 1 := by omega
      rcases hr1 with rfl | rfl
      · walk_at "go"
        rename_i w h S2 w1 h1
        intro w2 h2 st2
        walk_at "go"
        exact hN _ _ ⟨w, h, ⟨w1, by omega, h1, by omega⟩, rfl, (sxa.step st2).mono (by omega)⟩
      · walk_at "go"
        refine ⟨T0.length, 1000000000000000, 1, rfl, sxa.srcAt, by omega, ⟨by decide, by decide⟩, fun w h S2 w1 h1 w2 h2 st2 => ?_⟩
        walk_at "go"
        exact hN _ _ ⟨w, h, ⟨w1, by omega, h1, by omega⟩, rfl, (sxa.step st2).mono (by omega)⟩
    rintro ρ' S1 ⟨w, h, bw, rfl, sx⟩
    have bw0 := bw
    obtain ⟨w1, w2, h1, h2⟩ := bw
    have sa := sx.srcAt
    walk_at "go"
    refine ⟨T0.length, w, h, 40, 4, 10, rfl, sa, by omega, bw0, ⟨by decide, by decide⟩, ⟨by decide, by decide⟩, fun ts S2 to tl st2 => ?_⟩
    have sx2 := sx.step st2
    have fo : FlOk w h ts := ⟨w1, w2, h1, h2, to, by omega⟩
    walk_at "go"
    refine ⟨w, h, ts, rfl, fo, fun sh hsh => ?_⟩
    walk_at "go"
    refine ⟨w, h, ts, sh, rfl, fo, hsh, ?_⟩
    walk_at "go"
    all_goals try (walk_at "no")
    refine ⟨T0.length, w, h, ts, sh, 1410, rfl, sx2.srcAt, by omega, fo, fun S3 st3 => ?_⟩
    have sx3 := sx2.step st3
    walk_at "go"
    all_goals try (walk_at "no")
    refine ⟨T0.length, w, h, 3, 2, 1422, rfl, sx3.srcAt, by omega, bw0, ⟨by decide, by decide⟩, ⟨by decide, by decide⟩, fun us S4 uo ul st4 => ?_⟩
    have sx4 := sx3.step st4
    have fou : FlOk w h us := ⟨w1, w2, h1, h2, uo, by omega⟩
    have for' : FlOk w h ts.reverse := ⟨w1, w2, h1, h2, to.rev, by rw [List.length_reverse]; omega⟩
    have fod : FlOk w h (ts.drop 1) := ⟨w1, w2, h1, h2, to.sub (List.drop_sublist 1 ts), by rw [List.length_drop]; omega⟩
    walk_at "go"
    refine forL_inv (fun k ρ' S' => ∃ (u6 u9 u10 : Option D), ρ' = [some (.scr ns), some (.int (0 + j)), some (.loc T0.length), some (sizeD w h), some (.tup (ts.map Th.d)), some (floorD A.a_Floor w h ts sh), u6, u7, u8, u9, u10, u11] ∧ S' = S4) _ 0 _ _ ⟨_, _, _, rfl, rfl⟩ ?_ ?_
    · rintro i d ρ S' hi ⟨u6, u9, u10, rfl, rfl⟩ N2 hN2
      obtain ⟨os, rfl, foo⟩ : ∃ os : List Th, d = .tup (os.map Th.d) ∧ FlOk w h os := by
        match i, hi with
        | 0, hi => cases hi; exact ⟨ts.reverse, by rw [List.map_reverse], for'⟩
        | 1, hi => cases hi; exact ⟨ts.drop 1, by rw [List.map_drop]; exact congrArg D.tup (cut_from (n := 0)), fod⟩
        | 2, hi => cases hi; exact ⟨us, rfl, fou⟩
        | 3, hi => cases hi; exact ⟨ts, rfl, fo⟩
        | i + 4, hi => cases hi
      walk_at "go"
      refine ⟨ths_ok foo.ok, ths_ok to, ?_⟩
      rw [ths_eqv]
      walk_at "go"
      refine ⟨w, h, os, rfl, foo, fun sh2 hsh2 => ?_⟩
      have e : decide (w = w ∧ h = h ∧ ts = os) = decide (os = ts) := decide_eq_decide.mpr ⟨fun k => k.2.2.symm, fun k => ⟨rfl, rfl, k.symm⟩⟩
      generalize hb : decide (os = ts) = b at e ⊢
      walk_at "go"
      refine Or.inl ⟨w, h, ts, sh, w, h, os, sh2, rfl, fo, foo, ?_⟩
      rw [e]
      have bb : PyData.eqv (py (.bl b)) (py (.bl b)) = true := by cases b <;> rfl
      cases b
      all_goals
        walk_at "go"
        all_goals try (walk_at "no")
        refine Or.inl ⟨w, h, ts, sh, w, h, os, sh2, rfl, fo, foo, ?_⟩
        rw [e]
        walk_at "go"
        all_goals try (walk_at "no")
        all_goals exact hN2 _ _ ⟨_, _, _, rfl, rfl⟩
    rintro ρ S' ⟨u6, u9, u10, rfl, rfl⟩
    walk_at "go"
    refine ⟨w % 10 ^ 15 + 1, h, [], rfl, ⟨by omega, by omega, h1, h2, noTh, by decide⟩, fun sh3 hsh3 => ?_⟩
    walk_at "go"
    refine Or.inl ⟨w, h, ts, sh, w % 10 ^ 15 + 1, h, [], sh3, rfl, fo, ⟨by omega, by omega, h1, h2, noTh, by decide⟩, ?_⟩
    rw [decide_eq_false (fun k => absurd k.1 (by omega))]
    walk_at "go"
    all_goals try (walk_at "no")
    refine Or.inr ⟨w, h, ts, sh, ts.map Th.d, rfl, ?_⟩
    walk_at "go"
    all_goals try (walk_at "no")
    refine Or.inr ⟨w, h, ts, sh, [.int w, .int h], rfl, ?_⟩
    walk_at "go"
    all_goals try (walk_at "no")
    refine mark_join (fun ρ' S2 => ρ' = [some (.scr ns), some (.int (0 + j)), some (.loc T0.length), some (sizeD w h), some (.tup (ts.map Th.d)), some (floorD A.a_Floor w h ts sh), u6, u7, u8, u9, u10, u11] ∧ S' = S2) (fun N2 hN2 => ?_) ?_
    · walk_at "go"
      rotate_left
      · exact hN2 _ _ ⟨rfl, rfl⟩
      rename_i hwh
      refine ⟨⟨Nat.le_of_ble_eq_true rfl, Nat.le_of_ble_eq_true rfl⟩, S'.length, w, h, [], rfl, getElem_push _ _, ⟨w1, w2, h1, h2⟩, noTh, by decide, fun sh4 hsh4 => ⟨rfl, ?_⟩⟩
      refine Rt.tree (fs := floorF w h [] sh4) (Nat.le_refl _) (List.getElem?_set_self (by rw [List.length_append]; exact Nat.lt_succ_self _)) (floor_bnd _) (fun m hm => ?_) ?_
      · rw [List.getElem?_set_ne (by omega), List.getElem?_append_left hm]
      walk_at "go"
      refine ⟨⟨Nat.le_of_ble_eq_true rfl, Nat.le_of_ble_eq_true rfl⟩, S'.length, h, w, [], rfl, getElem_push _ _, ⟨h1, h2, w1, w2⟩, noTh, by decide, fun sh5 hsh5 => ⟨rfl, ?_⟩⟩
      refine Rt.tree (fs := floorF h w [] sh5) (Nat.le_refl _) (List.getElem?_set_self (by rw [List.length_append]; exact Nat.lt_succ_self _)) (floor_bnd _) (fun m hm => ?_) ?_
      · rw [List.getElem?_set_ne (by omega), List.getElem?_append_left hm]
      walk_at "go"
      refine Or.inl ⟨w, h, [], sh4, h, w, [], sh5, rfl, ⟨w1, w2, h1, h2, noTh, by decide⟩, ⟨h1, h2, w1, w2, noTh, by decide⟩, ?_⟩
      rw [decide_eq_false (fun k => hwh k.1)]
      walk_at "go"
      all_goals try (walk_at "no")
      exact hN2 _ _ ⟨rfl, rfl⟩
    rintro ρ' S2 ⟨rfl, rfl⟩
    walk_at "go"
    refine mark_join (fun ρ' S2 => ρ' = [some (.scr ns), some (.int (0 + j)), some (.loc T0.length), some (sizeD w h), some (.tup (ts.map Th.d)), some (floorD A.a_Floor w h ts sh), u6, u7, u8, u9, u10, u11] ∧ SrcX T0.length 3000 (T0 ++ [o]) S2) (fun N2 hN2 => ?_) ?_
    · walk_at "go"
      refine ⟨ths_ok to, rfl, ?_⟩
      rw [show PyData.eqv (py (.tup (ts.map Th.d))) (py (.tup [])) = decide (ts = []) from ths_eqv ts []]
      by_cases hts : ts = []
      · rw [decide_eq_true hts]
        walk_at "go"
        all_goals try (walk_at "no")
        exact hN2 _ _ ⟨rfl, sx4.mono (by omega)⟩
      · rw [decide_eq_false hts]
        walk_at "go"
        all_goals try (walk_at "no")
        refine ⟨T0.length, w, h, ts, sh, 2822, rfl, sx4.srcAt, by omega, fo, hts, fun S5 st5 => ?_⟩
        walk_at "go"
        all_goals try (walk_at "no")
        exact hN2 _ _ ⟨rfl, (sx4.step st5).mono (by omega)⟩
    rintro ρ' S6 ⟨rfl, sx6⟩
    have fo1 : FlOk w h (ts.take 1) := ⟨w1, w2, h1, h2, to.sub (List.take_sublist 1 ts), by rw [List.length_take]; omega⟩
    have fo8 : FlOk w h (ts.take 8) := ⟨w1, w2, h1, h2, to.sub (List.take_sublist 8 ts), by rw [List.length_take]; omega⟩
    have hc1 : cutD (ts.map Th.d) none (some 1) = (ts.take 1).map Th.d := by rw [List.map_take]; exact cut_to (n := 1)
    have hc8 : cutD (ts.map Th.d) none (some 8) = (ts.take 8).map Th.d := by rw [List.map_take]; exact cut_to (n := 8)
    have hml : ((ts.map Th.d).length : Int) = ts.length := by rw [List.length_map]
    walk_at "go"
    rw [hc1]
    refine ⟨w, h, ts.take 1, rfl, fo1, fun sh6 hsh6 => ?_⟩
    walk_at "go"
    refine mark_join (fun ρ' S2 => ρ' = [some (.scr ns), some (.int (0 + j)), some (.loc T0.length), some (sizeD w h), some (.tup (ts.map Th.d)), some (floorD A.a_Floor w h ts sh), u6, some (floorD A.a_Floor w h (ts.take 1) sh6), u8, u9, u10, u11] ∧ S6 = S2) (fun N2 hN2 => ?_) ?_
    · walk_at "go"
      refine ⟨ths_ok to, rfl, ?_⟩
      rw [show PyData.eqv (py (.tup (ts.map Th.d))) (py (.tup [])) = decide (ts = []) from ths_eqv ts []]
      by_cases hts : ts = []
      · rw [decide_eq_true hts]
        walk_at "go"
        all_goals try (walk_at "no")
        exact hN2 _ _ ⟨rfl, rfl⟩
      · rw [decide_eq_false hts]
        walk_at "go"
        all_goals try (walk_at "no")
        obtain ⟨t, r, htr⟩ : ∃ t r, ts = t :: r := by
          cases ts with
          | nil => exact absurd rfl hts
          | cons t r => exact ⟨t, r, rfl⟩
        have hone : ts.take 1 = [t] := by rw [htr]; rfl
        have ha : atI (ts.map Th.d) 0 = some t.d := atI_nat (j := 0) (by rw [htr]; rfl)
        refine ⟨t.d, ha, ?_⟩
        walk_at "go"
        rw [hone] at fo1
        refine ⟨⟨Nat.le_of_ble_eq_true rfl, Nat.le_of_ble_eq_true rfl⟩, S6.length, w, h, [t], rfl, getElem_push _ _, ⟨w1, w2, h1, h2⟩, fo1.ok, Nat.le_of_ble_eq_true rfl, fun sh4 hsh4 => ⟨rfl, ?_⟩⟩
        refine Rt.tree (fs := floorF w h [t] sh4) (Nat.le_refl _) (List.getElem?_set_self (by rw [List.length_append]; exact Nat.lt_succ_self _)) (floor_bnd _) (fun m hm => ?_) ?_
        · rw [List.getElem?_set_ne (by omega), List.getElem?_append_left hm]
        walk_at "go"
        rw [hone]
        refine Or.inl ⟨w, h, [t], sh4, w, h, [t], sh6, rfl, fo1, fo1, ?_⟩
        rw [decide_eq_true ⟨rfl, rfl, rfl⟩]
        walk_at "go"
        all_goals try (walk_at "no")
        exact hN2 _ _ ⟨by rw [hone]; rfl, rfl⟩
    rintro ρ' S2 ⟨rfl, rfl⟩
    walk_at "go"
    refine mark_join (fun ρ' S2 => ∃ u11 : Option D, ρ' = [some (.scr ns), some (.int (0 + j)), some (.loc T0.length), some (sizeD w h), some (.tup (ts.map Th.d)), some (floorD A.a_Floor w h ts sh), u6, some (floorD A.a_Floor w h (ts.take 1) sh6), some (.tup (ts.map Th.d)), u9, u10, u11] ∧ S6 = S2) (fun N2 hN2 => ?_) ?_
    · walk_at "go"
      rotate_left
      · exact hN2 _ _ ⟨_, rfl, rfl⟩
      rename_i hlen
      obtain ⟨t0, t1, t2, t3, t4, t5, t6, t7, r, htr⟩ : ∃ t0 t1 t2 t3 t4 t5 t6 t7 r, ts = t0 :: t1 :: t2 :: t3 :: t4 :: t5 :: t6 :: t7 :: r := by
        have h8 : 8 ≤ ts.length := by omega
        match ts, h8 with
        | t0 :: t1 :: t2 :: t3 :: t4 :: t5 :: t6 :: t7 :: r, _ => exact ⟨_, _, _, _, _, _, _, _, r, rfl⟩
      have height : ts.take 8 = [t0, t1, t2, t3, t4, t5, t6, t7] := by rw [htr]; rfl
      have ha0 : atI (ts.map Th.d) 0 = some t0.d := atI_nat (j := 0) (by rw [htr]; rfl)
      have ha1 : atI (ts.map Th.d) 1 = some t1.d := atI_nat (j := 1) (by rw [htr]; rfl)
      have ha2 : atI (ts.map Th.d) 2 = some t2.d := atI_nat (j := 2) (by rw [htr]; rfl)
      have ha3 : atI (ts.map Th.d) 3 = some t3.d := atI_nat (j := 3) (by rw [htr]; rfl)
      have ha4 : atI (ts.map Th.d) 4 = some t4.d := atI_nat (j := 4) (by rw [htr]; rfl)
      have ha5 : atI (ts.map Th.d) 5 = some t5.d := atI_nat (j := 5) (by rw [htr]; rfl)
      have ha6 : atI (ts.map Th.d) 6 = some t6.d := atI_nat (j := 6) (by rw [htr]; rfl)
      have ha7 : atI (ts.map Th.d) 7 = some t7.d := atI_nat (j := 7) (by rw [htr]; rfl)
      rw [height] at fo8 hc8
      refine ⟨t0.d, ha0, ?_⟩
      walk_at "go"
      refine ⟨⟨Nat.le_of_ble_eq_true rfl, Nat.le_of_ble_eq_true rfl⟩, S6.length, w, h, [t0, t1, t2, t3, t4, t5, t6, t7], rfl, getElem_push _ _, ⟨w1, w2, h1, h2⟩, fo8.ok, Nat.le_of_ble_eq_true rfl, fun sh4 hsh4 => ⟨rfl, ?_⟩⟩
      refine Rt.tree (fs := floorF w h [t0, t1, t2, t3, t4, t5, t6, t7] sh4) (Nat.le_refl _) (List.getElem?_set_self (by rw [List.length_append]; exact Nat.lt_succ_self _)) (floor_bnd _) (fun m hm => ?_) ?_
      · rw [List.getElem?_set_ne (by omega), List.getElem?_append_left hm]
      walk_at "go"
      rw [hc8]
      refine ⟨w, h, _, rfl, fo8, fun sh7 hsh7 => ?_⟩
      walk_at "go"
      refine Or.inl ⟨w, h, _, sh4, w, h, _, sh7, rfl, fo8, fo8, ?_⟩
      rw [decide_eq_true ⟨rfl, rfl, rfl⟩]
      walk_at "go"
      all_goals try (walk_at "no")
      exact hN2 _ _ ⟨_, rfl, rfl⟩
    rintro ρ' S2 ⟨u11, rfl, rfl⟩
    walk_at "go"
    refine ⟨w, h, ts, sh, rfl, fo, hsh, ?_⟩
    walk_at "go"
    all_goals try (walk_at "no")
    refine ⟨⟨Nat.le_of_ble_eq_true rfl, Nat.le_of_ble_eq_true rfl⟩, S6.length, w, h, [], rfl, getElem_push _ _, ⟨w1, w2, h1, h2⟩, noTh, Nat.le_of_ble_eq_true rfl, fun sh4 hsh4 => ⟨rfl, ?_⟩⟩
    refine Rt.tree (fs := floorF w h [] sh4) (Nat.le_refl _) (List.getElem?_set_self (by rw [List.length_append]; exact Nat.lt_succ_self _)) (floor_bnd _) (fun m hm => ?_) ?_
    · rw [List.getElem?_set_ne (by omega), List.getElem?_append_left hm]
    walk_at "go"
    refine ⟨w, h, [], sh4, rfl, flPlain bw0, hsh4, ?_⟩
    walk_at "go"
    all_goals try (walk_at "no")
    obtain ⟨ex', he⟩ := sx6.ext
    exact hN _ _ ⟨_, _, _, _, _, _, _, _, _, _, _, ex ++ ex', rfl, by rw [he, ← hT, List.append_assoc]⟩
  · rintro ρ S5 ⟨u1, u2, u3, u4, u5, u6, u7, u8, u9, u10, u11, ex, rfl, rfl⟩
    walk_at "go"
    rw [decide_eq_true rfl]
    exact Rt.pure (d := .bl true) trivial q
end
end K

namespace K
open PySem L2 DL
theorem txt_of {w : World} {K : PySem.W.Frag} {h : Heap} {mg : Str → Option Value} (X : K.In h) (G : h.Ns mainGlobals mg) (s : KH.obsK cfg K = KH.valK cfg w) : ∃ A B, Txt w K mg A B := by
  have hx : (ex0 K && (ex1 K && true)) = true := KH.says_ex s
  obtain ⟨e0, hx⟩ := He.ba hx
  unfold ex0 at e0
  obtain ⟨z_abs, e0⟩ := He.ba e0
  replace z_abs := of_decide_eq_true z_abs
  obtain ⟨z_len, e0⟩ := He.ba e0
  replace z_len := of_decide_eq_true z_len
  obtain ⟨z_max, e0⟩ := He.ba e0
  replace z_max := of_decide_eq_true z_max
  obtain ⟨z_min, e0⟩ := He.ba e0
  replace z_min := of_decide_eq_true z_min
  obtain ⟨z_range, e0⟩ := He.ba e0
  replace z_range := of_decide_eq_true z_range
  obtain ⟨z_tuple, e0⟩ := He.ba e0
  replace z_tuple := of_decide_eq_true z_tuple
  obtain ⟨z_list, e0⟩ := He.ba e0
  replace z_list := of_decide_eq_true z_list
  obtain ⟨z_enumerate, e0⟩ := He.ba e0
  replace z_enumerate := of_decide_eq_true z_enumerate
  obtain ⟨z_repr, e0⟩ := He.ba e0
  replace z_repr := of_decide_eq_true z_repr
  obtain ⟨z_isinstance, e0⟩ := He.ba e0
  replace z_isinstance := of_decide_eq_true z_isinstance
  obtain ⟨z_str, e0⟩ := He.ba e0
  replace z_str := of_decide_eq_true z_str
  obtain ⟨nc_Floor, e0⟩ := He.ba e0
  replace nc_Floor := of_decide_eq_true nc_Floor
  obtain ⟨n__law_source, e0⟩ := He.ba e0
  replace n__law_source := of_decide_eq_true n__law_source
  obtain ⟨n__law_draw, e0⟩ := He.ba e0
  replace n__law_draw := of_decide_eq_true n__law_draw
  obtain ⟨n__law_drawn_size, e0⟩ := He.ba e0
  replace n__law_drawn_size := of_decide_eq_true n__law_drawn_size
  obtain ⟨n__law_shut_point, e0⟩ := He.ba e0
  replace n__law_shut_point := of_decide_eq_true n__law_shut_point
  obtain ⟨n__law_drawn_things, e0⟩ := He.ba e0
  replace n__law_drawn_things := of_decide_eq_true n__law_drawn_things
  obtain ⟨n_shown_text, e0⟩ := He.ba e0
  replace n_shown_text := of_decide_eq_true n_shown_text
  obtain ⟨a_Floor_is_point, e0⟩ := He.ba e0
  replace a_Floor_is_point := of_decide_eq_true a_Floor_is_point
  obtain ⟨i_Floor_is_point, e0⟩ := He.ba e0
  obtain ⟨a_Floor_is_inner, e0⟩ := He.ba e0
  replace a_Floor_is_inner := of_decide_eq_true a_Floor_is_inner
  obtain ⟨i_Floor_is_inner, e0⟩ := He.ba e0
  obtain ⟨a_Floor_may_stand, e0⟩ := He.ba e0
  replace a_Floor_may_stand := of_decide_eq_true a_Floor_may_stand
  obtain ⟨i_Floor_may_stand, e0⟩ := He.ba e0
  obtain ⟨a_Floor___init__, e0⟩ := He.ba e0
  replace a_Floor___init__ := of_decide_eq_true a_Floor___init__
  obtain ⟨i_Floor___init__, e0⟩ := He.ba e0
  obtain ⟨cmb_Floor_of, e0⟩ := He.ba e0
  obtain ⟨fi_Floor_of, e0⟩ := He.ba e0
  obtain ⟨a_Floor_number_at, e0⟩ := He.ba e0
  replace a_Floor_number_at := of_decide_eq_true a_Floor_number_at
  obtain ⟨i_Floor_number_at, e0⟩ := He.ba e0
  obtain ⟨a_Floor_with_thing, e0⟩ := He.ba e0
  replace a_Floor_with_thing := of_decide_eq_true a_Floor_with_thing
  obtain ⟨i_Floor_with_thing, e0⟩ := He.ba e0
  obtain ⟨a_Floor_without, e0⟩ := He.ba e0
  replace a_Floor_without := of_decide_eq_true a_Floor_without
  obtain ⟨i_Floor_without, e0⟩ := He.ba e0
  obtain ⟨a_Floor_turned, e0⟩ := He.ba e0
  replace a_Floor_turned := of_decide_eq_true a_Floor_turned
  obtain ⟨i_Floor_turned, e0⟩ := He.ba e0
  obtain ⟨a_Floor___eq__, e0⟩ := He.ba e0
  replace a_Floor___eq__ := of_decide_eq_true a_Floor___eq__
  obtain ⟨i_Floor___eq__, e0⟩ := He.ba e0
  obtain ⟨a_Floor___len__, e0⟩ := He.ba e0
  replace a_Floor___len__ := of_decide_eq_true a_Floor___len__
  obtain ⟨i_Floor___len__, e0⟩ := He.ba e0
  obtain ⟨a_Floor___repr__, e0⟩ := He.ba e0
  replace a_Floor___repr__ := of_decide_eq_true a_Floor___repr__
  obtain ⟨i_Floor___repr__, e0⟩ := He.ba e0
  obtain ⟨n__law_same, e0⟩ := He.ba e0
  replace n__law_same := of_decide_eq_true n__law_same
  obtain ⟨n__law_points_right, e0⟩ := He.ba e0
  replace n__law_points_right := of_decide_eq_true n__law_points_right
  obtain ⟨n__law_changes_right, e0⟩ := He.ba e0
  replace n__law_changes_right := of_decide_eq_true n__law_changes_right
  obtain ⟨n_law, e0⟩ := He.ba e0
  replace n_law := of_decide_eq_true n_law
  obtain ⟨pg_Floor, e0⟩ := He.ba e0
  obtain ⟨hd_Floor, e0⟩ := He.ba e0
  obtain ⟨po_Floor, e0⟩ := He.ba e0
  obtain ⟨sa_Floor, e0⟩ := He.ba e0
  replace sa_Floor := of_decide_eq_true sa_Floor
  obtain ⟨mk_Floor, e0⟩ := He.ba e0
  obtain ⟨kc_Floor, e0⟩ := He.ba e0
  obtain ⟨ia_Floor, e0⟩ := He.ba e0
  replace ia_Floor := of_decide_eq_true ia_Floor
  obtain ⟨ib_Floor, e0⟩ := He.ba e0
  replace ib_Floor := of_decide_eq_true ib_Floor
  obtain ⟨id_Floor, e0⟩ := He.ba e0
  replace id_Floor := of_decide_eq_true id_Floor
  obtain ⟨im_Floor, e0⟩ := He.ba e0
  replace im_Floor := of_decide_eq_true im_Floor
  obtain ⟨ont_Floor, e0⟩ := He.ba e0
  replace ont_Floor := of_decide_eq_true ont_Floor
  obtain ⟨okt_Floor, e0⟩ := He.ba e0
  replace okt_Floor := of_decide_eq_true okt_Floor
  obtain ⟨one_Floor, e0⟩ := He.ba e0
  replace one_Floor := of_decide_eq_true one_Floor
  obtain ⟨omo_Floor, e0⟩ := He.ba e0
  replace omo_Floor := of_decide_eq_true omo_Floor
  obtain ⟨e1, hx⟩ := He.ba hx
  unfold ex1 at e1
  obtain ⟨ohf_Floor, e1⟩ := He.ba e1
  replace ohf_Floor := of_decide_eq_true ohf_Floor
  obtain ⟨ohs_Floor, e1⟩ := He.ba e1
  replace ohs_Floor := of_decide_eq_true ohs_Floor
  obtain ⟨rd_Floor, e1⟩ := He.ba e1
  obtain ⟨ga_Floor, e1⟩ := He.ba e1
  replace ga_Floor := of_decide_eq_true ga_Floor
  obtain ⟨x_Floor_width, e1⟩ := He.ba e1
  replace x_Floor_width := of_decide_eq_true x_Floor_width
  obtain ⟨x_Floor_height, e1⟩ := He.ba e1
  replace x_Floor_height := of_decide_eq_true x_Floor_height
  obtain ⟨x_Floor_numbers, e1⟩ := He.ba e1
  replace x_Floor_numbers := of_decide_eq_true x_Floor_numbers
  obtain ⟨x_Floor_things, e1⟩ := He.ba e1
  replace x_Floor_things := of_decide_eq_true x_Floor_things
  obtain ⟨x_Floor_shown, e1⟩ := He.ba e1
  replace x_Floor_shown := of_decide_eq_true x_Floor_shown
  obtain ⟨nt_OTHER_KIND, e1⟩ := He.ba e1
  replace nt_OTHER_KIND := of_decide_eq_true nt_OTHER_KIND
  obtain ⟨tb_OTHER_KIND, e1⟩ := He.ba e1
  obtain ⟨nv_MOST_SIZE, e1⟩ := He.ba e1
  obtain ⟨nv_DOOR, e1⟩ := He.ba e1
  obtain ⟨vv_Floor_MOST_THINGS, e1⟩ := He.ba e1
  obtain ⟨d__law_source, F__law_source⟩ := KH.says_fn s 0 (d := ⟨.g "_law_source", "_law_source", "_law_source", s__law_source⟩) rfl
  obtain ⟨d__law_draw, F__law_draw⟩ := KH.says_fn s 1 (d := ⟨.g "_law_draw", "_law_draw", "_law_draw", s__law_draw⟩) rfl
  obtain ⟨d__law_drawn_size, F__law_drawn_size⟩ := KH.says_fn s 2 (d := ⟨.g "_law_drawn_size", "_law_drawn_size", "_law_drawn_size", s__law_drawn_size⟩) rfl
  obtain ⟨d__law_shut_point, F__law_shut_point⟩ := KH.says_fn s 3 (d := ⟨.g "_law_shut_point", "_law_shut_point", "_law_shut_point", s__law_shut_point⟩) rfl
  obtain ⟨d__law_drawn_things, F__law_drawn_things⟩ := KH.says_fn s 4 (d := ⟨.g "_law_drawn_things", "_law_drawn_things", "_law_drawn_things", s__law_drawn_things⟩) rfl
  obtain ⟨d_shown_text, F_shown_text⟩ := KH.says_fn s 5 (d := ⟨.g "shown_text", "shown_text", "shown_text", s_shown_text⟩) rfl
  obtain ⟨d_Floor_is_point, F_Floor_is_point⟩ := KH.says_fn s 6 (d := ⟨.m "Floor" "is_point", "is_point", "Floor.is_point", s_Floor_is_point⟩) rfl
  obtain ⟨d_Floor_is_inner, F_Floor_is_inner⟩ := KH.says_fn s 7 (d := ⟨.m "Floor" "is_inner", "is_inner", "Floor.is_inner", s_Floor_is_inner⟩) rfl
  obtain ⟨d_Floor_may_stand, F_Floor_may_stand⟩ := KH.says_fn s 8 (d := ⟨.m "Floor" "may_stand", "may_stand", "Floor.may_stand", s_Floor_may_stand⟩) rfl
  obtain ⟨d_Floor___init__, F_Floor___init__⟩ := KH.says_fn s 9 (d := ⟨.m "Floor" "__init__", "__init__", "Floor.__init__", s_Floor___init__⟩) rfl
  obtain ⟨d_Floor_of, F_Floor_of⟩ := KH.says_fn s 10 (d := ⟨.c "Floor" "of", "of", "Floor.of", s_Floor_of⟩) rfl
  obtain ⟨d_Floor_number_at, F_Floor_number_at⟩ := KH.says_fn s 11 (d := ⟨.m "Floor" "number_at", "number_at", "Floor.number_at", s_Floor_number_at⟩) rfl
  obtain ⟨d_Floor_with_thing, F_Floor_with_thing⟩ := KH.says_fn s 12 (d := ⟨.m "Floor" "with_thing", "with_thing", "Floor.with_thing", s_Floor_with_thing⟩) rfl
  obtain ⟨d_Floor_without, F_Floor_without⟩ := KH.says_fn s 13 (d := ⟨.m "Floor" "without", "without", "Floor.without", s_Floor_without⟩) rfl
  obtain ⟨d_Floor_turned, F_Floor_turned⟩ := KH.says_fn s 14 (d := ⟨.m "Floor" "turned", "turned", "Floor.turned", s_Floor_turned⟩) rfl
  obtain ⟨d_Floor___eq__, F_Floor___eq__⟩ := KH.says_fn s 15 (d := ⟨.m "Floor" "__eq__", "__eq__", "Floor.__eq__", s_Floor___eq__⟩) rfl
  obtain ⟨d_Floor___len__, F_Floor___len__⟩ := KH.says_fn s 16 (d := ⟨.m "Floor" "__len__", "__len__", "Floor.__len__", s_Floor___len__⟩) rfl
  obtain ⟨d_Floor___repr__, F_Floor___repr__⟩ := KH.says_fn s 17 (d := ⟨.m "Floor" "__repr__", "__repr__", "Floor.__repr__", s_Floor___repr__⟩) rfl
  obtain ⟨d__law_same, F__law_same⟩ := KH.says_fn s 18 (d := ⟨.g "_law_same", "_law_same", "_law_same", s__law_same⟩) rfl
  obtain ⟨d__law_points_right, F__law_points_right⟩ := KH.says_fn s 19 (d := ⟨.g "_law_points_right", "_law_points_right", "_law_points_right", s__law_points_right⟩) rfl
  obtain ⟨d__law_changes_right, F__law_changes_right⟩ := KH.says_fn s 20 (d := ⟨.g "_law_changes_right", "_law_changes_right", "_law_changes_right", s__law_changes_right⟩) rfl
  obtain ⟨d_law, F_law⟩ := KH.says_fn s 21 (d := ⟨.g "law", "law", "law", s_law⟩) rfl
  have kt_OTHER_KIND := KH.tab_of (KH.says_tab s 0 (t := ("OTHER_KIND", ["|", "-"])) rfl) tb_OTHER_KIND
  obtain ⟨tk_MOST_SIZE, nk_MOST_SIZE⟩ := KH.intB_ok nv_MOST_SIZE
  obtain ⟨tk_DOOR, nk_DOOR⟩ := KH.strB_ok nv_DOOR
  obtain ⟨u_MOST_THINGS, v1_MOST_THINGS, v2_MOST_THINGS⟩ := KH.clsValB_ok vv_Floor_MOST_THINGS
  obtain ⟨at_Floor_of, rc_Floor_of⟩ := KH.cmB_ok cmb_Floor_of
  exact ⟨⟨(He.ga K "Floor"),
    (He.ga K "_law_source"),
    (He.ga K "_law_draw"),
    (He.ga K "_law_drawn_size"),
    (He.ga K "_law_shut_point"),
    (He.ga K "_law_drawn_things"),
    (He.ga K "shown_text"),
    (He.ma K (He.ga K "Floor") "is_point"),
    (He.ma K (He.ga K "Floor") "is_inner"),
    (He.ma K (He.ga K "Floor") "may_stand"),
    (He.ma K (He.ga K "Floor") "__init__"),
    (KH.recAt K (KH.clsRec K (He.ga K "Floor") "of")),
    (He.ma K (He.ga K "Floor") "number_at"),
    (He.ma K (He.ga K "Floor") "with_thing"),
    (He.ma K (He.ga K "Floor") "without"),
    (He.ma K (He.ga K "Floor") "turned"),
    (He.ma K (He.ga K "Floor") "__eq__"),
    (He.ma K (He.ga K "Floor") "__len__"),
    (He.ma K (He.ga K "Floor") "__repr__"),
    (He.ga K "_law_same"),
    (He.ga K "_law_points_right"),
    (He.ga K "_law_changes_right"),
    (He.ga K "law"),
    (KH.clsRec K (He.ga K "Floor") "of"),
    (He.ga K "OTHER_KIND")⟩, ⟨d__law_source, d__law_draw, d__law_drawn_size, d__law_shut_point, d__law_drawn_things, d_shown_text, d_Floor_is_point, d_Floor_is_inner, d_Floor_may_stand, d_Floor___init__, d_Floor_of, d_Floor_number_at, d_Floor_with_thing, d_Floor_without, d_Floor_turned, d_Floor___eq__, d_Floor___len__, d_Floor___repr__, d__law_same, d__law_points_right, d__law_changes_right, d_law⟩, {
    z_abs := PySem.W.mg_none_of X G z_abs,
    z_len := PySem.W.mg_none_of X G z_len,
    z_max := PySem.W.mg_none_of X G z_max,
    z_min := PySem.W.mg_none_of X G z_min,
    z_range := PySem.W.mg_none_of X G z_range,
    z_tuple := PySem.W.mg_none_of X G z_tuple,
    z_list := PySem.W.mg_none_of X G z_list,
    z_enumerate := PySem.W.mg_none_of X G z_enumerate,
    z_repr := PySem.W.mg_none_of X G z_repr,
    z_isinstance := PySem.W.mg_none_of X G z_isinstance,
    z_str := PySem.W.mg_none_of X G z_str,
    F__law_source := F__law_source,
    b__law_source := F__law_source.binds (ps := ["_law_script", "_law_index"]) fun _ _ _ _ _ _ us hl => match us, hl with | [_, _], _ => rfl,
    g__law_source := PySem.W.mg_of X G n__law_source,
    k__law_source := F__law_source.kp,
    F__law_draw := F__law_draw,
    b__law_draw := F__law_draw.binds (ps := ["_law_source_here", "_law_bound"]) fun _ _ _ _ _ _ us hl => match us, hl with | [_, _], _ => rfl,
    g__law_draw := PySem.W.mg_of X G n__law_draw,
    k__law_draw := F__law_draw.kp,
    F__law_drawn_size := F__law_drawn_size,
    b__law_drawn_size := F__law_drawn_size.binds (ps := ["_law_source_here", "_law_most"]) fun _ _ _ _ _ _ us hl => match us, hl with | [_, _], _ => rfl,
    g__law_drawn_size := PySem.W.mg_of X G n__law_drawn_size,
    k__law_drawn_size := F__law_drawn_size.kp,
    F__law_shut_point := F__law_shut_point,
    b__law_shut_point := F__law_shut_point.binds (ps := ["_law_source_here", "_law_size"]) fun _ _ _ _ _ _ us hl => match us, hl with | [_, _], _ => rfl,
    g__law_shut_point := PySem.W.mg_of X G n__law_shut_point,
    k__law_shut_point := F__law_shut_point.kp,
    F__law_drawn_things := F__law_drawn_things,
    b__law_drawn_things := F__law_drawn_things.binds (ps := ["_law_source_here", "_law_size", "_law_most", "_law_doors"]) fun _ _ _ _ _ _ us hl => match us, hl with | [_, _, _, _], _ => rfl,
    g__law_drawn_things := PySem.W.mg_of X G n__law_drawn_things,
    k__law_drawn_things := F__law_drawn_things.kp,
    F_shown_text := F_shown_text,
    b_shown_text := F_shown_text.binds (ps := ["width", "height", "things"]) fun _ _ _ _ _ _ us hl => match us, hl with | [_, _, _], _ => rfl,
    g_shown_text := PySem.W.mg_of X G n_shown_text,
    k_shown_text := F_shown_text.kp,
    F_Floor_is_point := F_Floor_is_point,
    b_Floor_is_point := F_Floor_is_point.binds (ps := ["self", "x", "y"]) fun _ _ _ _ _ _ us hl => match us, hl with | [_, _, _], _ => rfl,
    m_Floor_is_point := ⟨a_Floor_is_point, i_Floor_is_point, F_Floor_is_point.kp⟩,
    F_Floor_is_inner := F_Floor_is_inner,
    b_Floor_is_inner := F_Floor_is_inner.binds (ps := ["self", "x", "y"]) fun _ _ _ _ _ _ us hl => match us, hl with | [_, _, _], _ => rfl,
    m_Floor_is_inner := ⟨a_Floor_is_inner, i_Floor_is_inner, F_Floor_is_inner.kp⟩,
    F_Floor_may_stand := F_Floor_may_stand,
    b_Floor_may_stand := F_Floor_may_stand.binds (ps := ["self", "x", "y", "kind"]) fun _ _ _ _ _ _ us hl => match us, hl with | [_, _, _, _], _ => rfl,
    m_Floor_may_stand := ⟨a_Floor_may_stand, i_Floor_may_stand, F_Floor_may_stand.kp⟩,
    F_Floor___init__ := F_Floor___init__,
    F_Floor_of := F_Floor_of,
    b_Floor_of := F_Floor_of.binds (ps := ["cls", "width", "height", "things"]) fun _ _ _ _ _ _ us hl => match us, hl with | [_, _, _, _], _ => rfl,
    cm_Floor_of := ⟨at_Floor_of, ⟨_, rc_Floor_of⟩, fi_Floor_of⟩,
    F_Floor_number_at := F_Floor_number_at,
    b_Floor_number_at := F_Floor_number_at.binds (ps := ["self", "x", "y"]) fun _ _ _ _ _ _ us hl => match us, hl with | [_, _, _], _ => rfl,
    m_Floor_number_at := ⟨a_Floor_number_at, i_Floor_number_at, F_Floor_number_at.kp⟩,
    F_Floor_with_thing := F_Floor_with_thing,
    b_Floor_with_thing := F_Floor_with_thing.binds (ps := ["self", "x", "y", "kind"]) fun _ _ _ _ _ _ us hl => match us, hl with | [_, _, _, _], _ => rfl,
    m_Floor_with_thing := ⟨a_Floor_with_thing, i_Floor_with_thing, F_Floor_with_thing.kp⟩,
    F_Floor_without := F_Floor_without,
    b_Floor_without := F_Floor_without.binds (ps := ["self", "number"]) fun _ _ _ _ _ _ us hl => match us, hl with | [_, _], _ => rfl,
    m_Floor_without := ⟨a_Floor_without, i_Floor_without, F_Floor_without.kp⟩,
    F_Floor_turned := F_Floor_turned,
    b_Floor_turned := F_Floor_turned.binds (ps := ["self", "number"]) fun _ _ _ _ _ _ us hl => match us, hl with | [_, _], _ => rfl,
    m_Floor_turned := ⟨a_Floor_turned, i_Floor_turned, F_Floor_turned.kp⟩,
    F_Floor___eq__ := F_Floor___eq__,
    b_Floor___eq__ := F_Floor___eq__.binds (ps := ["self", "other"]) fun _ _ _ _ _ _ us hl => match us, hl with | [_, _], _ => rfl,
    m_Floor___eq__ := ⟨a_Floor___eq__, i_Floor___eq__, F_Floor___eq__.kp⟩,
    F_Floor___len__ := F_Floor___len__,
    b_Floor___len__ := F_Floor___len__.binds (ps := ["self"]) fun _ _ _ _ _ _ us hl => match us, hl with | [_], _ => rfl,
    m_Floor___len__ := ⟨a_Floor___len__, i_Floor___len__, F_Floor___len__.kp⟩,
    F_Floor___repr__ := F_Floor___repr__,
    b_Floor___repr__ := F_Floor___repr__.binds (ps := ["self"]) fun _ _ _ _ _ _ us hl => match us, hl with | [_], _ => rfl,
    m_Floor___repr__ := ⟨a_Floor___repr__, i_Floor___repr__, F_Floor___repr__.kp⟩,
    F__law_same := F__law_same,
    b__law_same := F__law_same.binds (ps := ["_law_floor", "_law_size", "_law_things"]) fun _ _ _ _ _ _ us hl => match us, hl with | [_, _, _], _ => rfl,
    g__law_same := PySem.W.mg_of X G n__law_same,
    k__law_same := F__law_same.kp,
    F__law_points_right := F__law_points_right,
    b__law_points_right := F__law_points_right.binds (ps := ["_law_source_here", "_law_floor", "_law_size", "_law_things"]) fun _ _ _ _ _ _ us hl => match us, hl with | [_, _, _, _], _ => rfl,
    g__law_points_right := PySem.W.mg_of X G n__law_points_right,
    k__law_points_right := F__law_points_right.kp,
    F__law_changes_right := F__law_changes_right,
    b__law_changes_right := F__law_changes_right.binds (ps := ["_law_source_here", "_law_floor", "_law_size", "_law_things"]) fun _ _ _ _ _ _ us hl => match us, hl with | [_, _, _, _], _ => rfl,
    g__law_changes_right := PySem.W.mg_of X G n__law_changes_right,
    k__law_changes_right := F__law_changes_right.kp,
    F_law := F_law,
    b_law := F_law.binds (ps := ["_law_script"]) fun _ _ _ _ _ _ us hl => match us, hl with | [_], _ => rfl,
    g_law := PySem.W.mg_of X G n_law,
    k_law := F_law.kp,
    cl_Floor := ⟨pg_Floor, hd_Floor, po_Floor, sa_Floor⟩,
    g_Floor := PySem.W.mg_of X G nc_Floor,
    mk_Floor := ⟨mk_Floor, a_Floor___init__, i_Floor___init__, kc_Floor⟩,
    cr_Floor := ⟨rd_Floor, ga_Floor⟩,
    oc_Floor := ⟨ont_Floor, okt_Floor, one_Floor, omo_Floor⟩,
    fc_Floor := ⟨ohf_Floor, ohs_Floor, omo_Floor⟩,
    ic_Floor := ⟨⟨pg_Floor, hd_Floor, po_Floor, sa_Floor⟩, ia_Floor, ib_Floor, id_Floor, im_Floor, if_pos (beq_self_eq_true _)⟩,
    n_Floor_width := x_Floor_width,
    n_Floor_height := x_Floor_height,
    n_Floor_numbers := x_Floor_numbers,
    n_Floor_things := x_Floor_things,
    n_Floor_shown := x_Floor_shown,
    g_OTHER_KIND := PySem.W.mg_of X G nt_OTHER_KIND,
    kt_OTHER_KIND := kt_OTHER_KIND,
    g_MOST_SIZE := ⟨tk_MOST_SIZE, PySem.W.mg_of X G nk_MOST_SIZE⟩,
    g_DOOR := ⟨tk_DOOR, PySem.W.mg_of X G nk_DOOR⟩,
    cv_Floor_MOST_THINGS := ⟨u_MOST_THINGS, v1_MOST_THINGS, v2_MOST_THINGS⟩ }⟩
end K

namespace K
open PySem L2 DL
theorem facts {P : Program} {w : World} {K : PySem.W.Frag} {h : Heap} {mg : Str → Option Value} {fa : Addr} (X : K.In h) (G : h.Ns mainGlobals mg) (hfa : mg "law" = some (.ref fa)) (s : KH.obsK cfg K = KH.valK cfg w) :
    ∃ fd : FuncData, (∀ (s : Shared) (v : Value), BindsTo s fd ⟨[v], []⟩ [("_law_script", v)]) ∧ ∀ base : Heap, K.In base → base.Ns mainGlobals mg → FnG P w K mg base 11 fa fd ["_law_script"] (spOf K 1 spLaw) := by
  obtain ⟨A, B, T⟩ := txt_of X G s
  have e := hfa.symm.trans T.g_law
  cases e
  refine ⟨B.a_law, fun s v => ?_, fun base _ _ => ok_law T⟩
  obtain ⟨oc, od, kV, doc, pm, an, cdv, ct, osl, e, lk, hcd⟩ := T.F_law.ex
  rw [e]
  exact .of_eq rfl
theorem script_ok {K : PySem.W.Frag} {H : Hp} {a : Addr} {ns : List Int} (hl : ns.length ≤ 63) (hS : SqL K H a (ns.map V.int)) : spOf K 1 spLaw [.ref a] H (fun v _ => v = .bl true) fun _ _ _ => False := by
  refine ⟨rfl, [], [], [.scr ns], fun d _ => d = .bl true, noX, ⟨rfl, (fun l l' a h => nomatch h), (fun l a o h => nomatch h)⟩, ?_, ⟨ns, rfl, hl, rfl⟩, ?_, KX.no⟩
  · refine ⟨_, _, rfl, ⟨a, rfl, ?_⟩, rfl⟩
    rcases hS with h | h
    · exact Or.inl ⟨h, fun l e => nomatch e⟩
    · exact Or.inr h
  · rintro v H' α' d S' _ _ r rfl
    exact r
end K
open PySem PySem.W PySem.Calls PyProof.Rows
set_option maxHeartbeats 0 in
theorem PySem.Challenge.cw_farmirrors_k02_floors_holds : PySem.Challenge.rw_farmirrors_k02_floors.Holds := by
  w_on; o_law
  refine HandSHeadRun.head_any (r := OpenLaw.row PySem.Challenge.rw_farmirrors_k02_floors) (q := view (OpenLaw.row PySem.Challenge.rw_farmirrors_k02_floors).prog [25]) (H := KH.hookK K.cfg) (ob := KH.obK K.cfg) (M := 60000) (loose := K.names) (d := HandSHeadRun.topDef (OpenLaw.row PySem.Challenge.rw_farmirrors_k02_floors).prog 25) (kwd := []) (KH.obK_eq K.cfg)
    (by kernel_rfl) (fun s => by kernel_rfl) K.run (by kernel_rfl) (by kernel_rfl) (by kernel_rfl) (by rfl) (by first | assumption | decide +kernel) (by decide +kernel) ⟨rfl, rfl, rfl, rfl, rfl, by decide +kernel⟩ ?hw ?hc
  case hw => w_witness2
  case hc =>
    refine DL.walk_ofG (l := PySem.Challenge.rw_farmirrors_k02_floors) (n := 63) (k := 11) (x := "_law_script") rfl (by decide) (by kernel_rfl) ⟨rfl, by decide, by decide⟩ ?F
    intro w mg fa h Y G hmg0
    obtain ⟨K₀, KX, c⟩ := Y
    have hmg : mg ("law" : PySem.Str) = some (.ref fa) := by
      have e : (HandSHeadRun.topDef (OpenLaw.row PySem.Challenge.rw_farmirrors_k02_floors).prog 25).name = ("law" : PySem.Str) := by kernel_rfl
      rw [← e]
      exact hmg0
    obtain ⟨fd, hb, hF⟩ := K.facts (P := (PySem.Challenge.rw_farmirrors_k02_floors).prog) (w := w) KX G hmg c
    exact ⟨K₀, fd, DL.spOf K₀ 1 K.spLaw, KX, hb, fun H a ns hl _ hS => K.script_ok hl hS, hF⟩
#print axioms PySem.Challenge.cw_farmirrors_k02_floors_holds
