import PyProof.Rows.All
import Wide.All
import OpenK.AllK
import Wide.FinOn
import HandS.ForMost
import HandS.ForExc
import HandS.TupMul
import HandS.TupAny
import HandS.Deep
import HandS.Style
import HandS.IsInst
import HandS.Conv
import HandS.TupLen
import KE.SortData
import HandS.More
import HandS.Zip
import HandS.DictComp
import HandS.WordsExc
import HandS.Defaults
import HandS.Iter
import HandS.HeadHook4
import KE.KDictZip
import KE.KItemsList
import HandS.ExcValue
import HandS.TryMany
import HandS.ExcIs
import HandS.Head2
import HandS.HeadEnd
import PySem.Challenge.RW_windowwright_k58_whole_keys_to_names_in
set_option Elab.async false
set_option linter.all false
set_option maxRecDepth 100000
noncomputable section S0
namespace PL
open PySem PySem.Spec PyProof.Rows L2

/-- plain data: what a value is worth, without the heap -/
inductive D where
  | none
  | bool (b : Bool)
  | int (i : Int)
  | str (x : Str)
  | list (xs : List D)
  | flist (xs : List D)
  | tuple (xs : List D)
  | ftuple (xs : List D)
  | dict (kvs : List (Key × D))
  | dictT (kvs : List (List Key × D))
  | inst (C : Addr) (fs : List (Str × D))

/-- an answer: a value, an exception of a class, or no word -/
inductive R (α : Type) where
  | ok (a : α)
  | exc (C : Addr)
  | bad
namespace R
def bind {α β : Type} (x : R α) (f : α → R β) : R β := match x with
  | .ok a => f a
  | .exc C => .exc C
  | .bad => .bad
instance : Monad R where
  pure := R.ok
  bind := R.bind
@[simp] theorem ok_bind {α β : Type} (a : α) (f : α → R β) : (R.ok a >>= f) = f a := rfl
@[simp] theorem exc_bind {α β : Type} (C : Addr) (f : α → R β) : ((R.exc C : R α) >>= f) = R.exc C := rfl
@[simp] theorem bad_bind {α β : Type} (f : α → R β) : ((R.bad : R α) >>= f) = R.bad := rfl
@[simp] theorem pure_ok {α : Type} (a : α) : (pure a : R α) = R.ok a := rfl
theorem bind_assoc {α β γ : Type} (x : R α) (f : α → R β) (g : β → R γ) : ((x >>= f) >>= g) = (x >>= fun a => f a >>= g) := by
  cases x <;> rfl
end R

section
variable (K : PySem.W.Frag) (G : Hp)
mutual
/-- v stands for d, by what stands frozen in G -/
def Rep : D → V → Prop
  | .none, v => v = .non
  | .bool b, v => v = .bl b
  | .int i, v => v = .int i
  | .str x, v => v = .str x
  | .list ds, v => ∃ a xs, v = .ref a ∧ G a = some (.lst xs) ∧ RepAll ds xs
  | .flist ds, v => ∃ a xs, v = .ref a ∧ SqL K G a xs ∧ RepAll ds xs
  | .tuple ds, v => ∃ a xs, v = .ref a ∧ G a = some (.tup xs) ∧ RepAll ds xs
  | .ftuple ds, v => ∃ a xs, v = .ref a ∧ SqT K G a xs ∧ RepAll ds xs
  | .dict ks, v => ∃ a kvs, v = .ref a ∧ Rd G a (.dK kvs) ∧ RepK ks kvs
  | .dictT ks, v => ∃ a kvs, v = .ref a ∧ Rd G a (.dT kvs) ∧ RepT ks kvs
  | .inst C fs, v => ∃ a dx fvs, v = .ref a ∧ G a = some (.ins C dx fvs) ∧ RepF fs fvs
def RepAll : List D → List V → Prop
  | [], xs => xs = []
  | d :: ds, xs => ∃ v vs, xs = v :: vs ∧ Rep d v ∧ RepAll ds vs
def RepK : List (Key × D) → List (Key × V) → Prop
  | [], xs => xs = []
  | (k, d) :: ds, xs => ∃ v vs, xs = (k, v) :: vs ∧ Rep d v ∧ RepK ds vs
def RepT : List (List Key × D) → List (List Key × V) → Prop
  | [], xs => xs = []
  | (k, d) :: ds, xs => ∃ v vs, xs = (k, v) :: vs ∧ Rep d v ∧ RepT ds vs
def RepF : List (Str × D) → List (Str × V) → Prop
  | [], xs => xs = []
  | (k, d) :: ds, xs => ∃ v vs, xs = (k, v) :: vs ∧ Rep d v ∧ RepF ds vs
end
end

/-- what is frozen stays so -/
structure Le (G G' : Hp) : Prop where
  rd : ∀ a u, (∀ o w, u ≠ .frz o w) → Rd G a u → Rd G' a u
  ins : ∀ a C dx fs, G a = some (.ins C dx fs) → G' a = some (.ins C dx fs)
  lst : ∀ a xs, G a = some (.lst xs) → G' a = some (.lst xs)
  tup : ∀ a xs, G a = some (.tup xs) → G' a = some (.tup xs)
theorem Le.refl (G : Hp) : Le G G := ⟨fun _ _ _ h => h, fun _ _ _ _ h => h, fun _ _ h => h, fun _ _ h => h⟩
theorem Le.trans {G G1 G2 : Hp} (a : Le G G1) (b : Le G1 G2) : Le G G2 := ⟨fun c u n h => b.rd c u n (a.rd c u n h), fun c C dx fs h => b.ins c C dx fs (a.ins c C dx fs h), fun c xs h => b.lst c xs (a.lst c xs h), fun c xs h => b.tup c xs (a.tup c xs h)⟩
theorem Le.of {G G' : Hp} (h : ∀ a u, G a = some u → G' a = some u) : Le G G' := ⟨fun a u _ r => r.elim (fun e => .inl (h _ _ e)) fun ⟨o, e⟩ => .inr ⟨o, h _ _ e⟩, fun a C dx fs e => h _ _ e, fun a xs e => h _ _ e, fun a xs e => h _ _ e⟩
theorem Le.sqL {K : PySem.W.Frag} {G G' : Hp} (l : Le G G') {a : Addr} {xs : List V} (h : SqL K G a xs) : SqL K G' a xs := h.elim (fun r => .inl (l.rd _ _ (fun _ _ z => nomatch z) r)) .inr
theorem Le.sqT {K : PySem.W.Frag} {G G' : Hp} (l : Le G G') {a : Addr} {xs : List V} (h : SqT K G a xs) : SqT K G' a xs := h.elim (fun r => .inl (l.rd _ _ (fun _ _ z => nomatch z) r)) .inr

section
variable {K : PySem.W.Frag} {G G' : Hp}
mutual
theorem Rep.mono (l : Le G G') : ∀ (d : D) {v : V}, Rep K G d v → Rep K G' d v
  | .none, _, h => by rw [Rep] at h ⊢; exact h
  | .bool _, _, h => by rw [Rep] at h ⊢; exact h
  | .int _, _, h => by rw [Rep] at h ⊢; exact h
  | .str _, _, h => by rw [Rep] at h ⊢; exact h
  | .list ds, _, h => by
    rw [Rep] at h ⊢
    obtain ⟨a, xs, e, s, r⟩ := h
    exact ⟨a, xs, e, l.lst _ _ s, RepAll.mono l ds r⟩
  | .flist ds, _, h => by
    rw [Rep] at h ⊢
    obtain ⟨a, xs, e, s, r⟩ := h
    exact ⟨a, xs, e, l.sqL s, RepAll.mono l ds r⟩
  | .tuple ds, _, h => by
    rw [Rep] at h ⊢
    obtain ⟨a, xs, e, s, r⟩ := h
    exact ⟨a, xs, e, l.tup _ _ s, RepAll.mono l ds r⟩
  | .ftuple ds, _, h => by
    rw [Rep] at h ⊢
    obtain ⟨a, xs, e, s, r⟩ := h
    exact ⟨a, xs, e, l.sqT s, RepAll.mono l ds r⟩
  | .dict ds, _, h => by
    rw [Rep] at h ⊢
    obtain ⟨a, xs, e, s, r⟩ := h
    exact ⟨a, xs, e, l.rd _ _ (fun _ _ z => nomatch z) s, RepK.mono l ds r⟩
  | .dictT ds, _, h => by
    rw [Rep] at h ⊢
    obtain ⟨a, xs, e, s, r⟩ := h
    exact ⟨a, xs, e, l.rd _ _ (fun _ _ z => nomatch z) s, RepT.mono l ds r⟩
  | .inst C fs, _, h => by
    rw [Rep] at h ⊢
    obtain ⟨a, dx, xs, e, s, r⟩ := h
    exact ⟨a, dx, xs, e, l.ins _ _ _ _ s, RepF.mono l fs r⟩
theorem RepAll.mono (l : Le G G') : ∀ (ds : List D) {xs : List V}, RepAll K G ds xs → RepAll K G' ds xs
  | [], _, h => by rw [RepAll] at h ⊢; exact h
  | d :: ds, _, h => by
    rw [RepAll] at h ⊢
    obtain ⟨v, vs, e, r, t⟩ := h
    exact ⟨v, vs, e, Rep.mono l d r, RepAll.mono l ds t⟩
theorem RepK.mono (l : Le G G') : ∀ (ds : List (Key × D)) {xs : List (Key × V)}, RepK K G ds xs → RepK K G' ds xs
  | [], _, h => by rw [RepK] at h ⊢; exact h
  | (k, d) :: ds, _, h => by
    rw [RepK] at h ⊢
    obtain ⟨v, vs, e, r, t⟩ := h
    exact ⟨v, vs, e, Rep.mono l d r, RepK.mono l ds t⟩
theorem RepT.mono (l : Le G G') : ∀ (ds : List (List Key × D)) {xs : List (List Key × V)}, RepT K G ds xs → RepT K G' ds xs
  | [], _, h => by rw [RepT] at h ⊢; exact h
  | (k, d) :: ds, _, h => by
    rw [RepT] at h ⊢
    obtain ⟨v, vs, e, r, t⟩ := h
    exact ⟨v, vs, e, Rep.mono l d r, RepT.mono l ds t⟩
theorem RepF.mono (l : Le G G') : ∀ (ds : List (Str × D)) {xs : List (Str × V)}, RepF K G ds xs → RepF K G' ds xs
  | [], _, h => by rw [RepF] at h ⊢; exact h
  | (k, d) :: ds, _, h => by
    rw [RepF] at h ⊢
    obtain ⟨v, vs, e, r, t⟩ := h
    exact ⟨v, vs, e, Rep.mono l d r, RepF.mono l ds t⟩
end

theorem Rep.none_iff {v : V} : Rep K G .none v ↔ v = .non := by rw [Rep]
theorem Rep.bool_iff {b : Bool} {v : V} : Rep K G (.bool b) v ↔ v = .bl b := by rw [Rep]
theorem Rep.int_iff {i : Int} {v : V} : Rep K G (.int i) v ↔ v = .int i := by rw [Rep]
theorem Rep.str_iff {x : Str} {v : V} : Rep K G (.str x) v ↔ v = .str x := by rw [Rep]
theorem Rep.list_iff {ds : List D} {v : V} : Rep K G (.list ds) v ↔ ∃ a xs, v = .ref a ∧ G a = some (.lst xs) ∧ RepAll K G ds xs := by rw [Rep]
theorem Rep.flist_iff {ds : List D} {v : V} : Rep K G (.flist ds) v ↔ ∃ a xs, v = .ref a ∧ SqL K G a xs ∧ RepAll K G ds xs := by rw [Rep]
theorem Rep.tuple_iff {ds : List D} {v : V} : Rep K G (.tuple ds) v ↔ ∃ a xs, v = .ref a ∧ G a = some (.tup xs) ∧ RepAll K G ds xs := by rw [Rep]
theorem Rep.ftuple_iff {ds : List D} {v : V} : Rep K G (.ftuple ds) v ↔ ∃ a xs, v = .ref a ∧ SqT K G a xs ∧ RepAll K G ds xs := by rw [Rep]
theorem Rep.dict_iff {ds : List (Key × D)} {v : V} : Rep K G (.dict ds) v ↔ ∃ a xs, v = .ref a ∧ Rd G a (.dK xs) ∧ RepK K G ds xs := by rw [Rep]
theorem Rep.dictT_iff {ds : List (List Key × D)} {v : V} : Rep K G (.dictT ds) v ↔ ∃ a xs, v = .ref a ∧ Rd G a (.dT xs) ∧ RepT K G ds xs := by rw [Rep]
theorem Rep.inst_iff {C : Addr} {fs : List (Str × D)} {v : V} : Rep K G (.inst C fs) v ↔ ∃ a dx xs, v = .ref a ∧ G a = some (.ins C dx xs) ∧ RepF K G fs xs := by rw [Rep]
theorem RepAll.nil_iff {xs : List V} : RepAll K G [] xs ↔ xs = [] := by rw [RepAll]
theorem RepAll.cons_iff {d : D} {ds : List D} {xs : List V} : RepAll K G (d :: ds) xs ↔ ∃ v vs, xs = v :: vs ∧ Rep K G d v ∧ RepAll K G ds vs := by rw [RepAll]
theorem RepAll.nil : RepAll K G [] [] := RepAll.nil_iff.mpr rfl
theorem RepAll.cons {d : D} {ds : List D} {v : V} {vs : List V} (h : Rep K G d v) (t : RepAll K G ds vs) : RepAll K G (d :: ds) (v :: vs) := RepAll.cons_iff.mpr ⟨v, vs, rfl, h, t⟩
theorem RepAll.length : ∀ {ds : List D} {xs : List V}, RepAll K G ds xs → xs.length = ds.length
  | [], _, h => by rw [RepAll.nil_iff] at h; subst h; rfl
  | _ :: ds, _, h => by
    obtain ⟨v, vs, rfl, _, t⟩ := RepAll.cons_iff.mp h
    simp [RepAll.length t]
theorem RepAll.get : ∀ {ds : List D} {xs : List V} {i : Nat} {d : D}, RepAll K G ds xs → ds[i]? = some d → ∃ v, xs[i]? = some v ∧ Rep K G d v
  | [], _, _, _, _, e => by simp at e
  | d :: ds, _, 0, _, h, e => by
    obtain ⟨v, vs, rfl, r, t⟩ := RepAll.cons_iff.mp h
    simp at e; subst e
    exact ⟨v, rfl, r⟩
  | d :: ds, _, i + 1, _, h, e => by
    obtain ⟨v, vs, rfl, r, t⟩ := RepAll.cons_iff.mp h
    obtain ⟨w, e1, r1⟩ := RepAll.get (i := i) t (by simpa using e)
    exact ⟨w, by simpa using e1, r1⟩
theorem RepAll.append : ∀ {ds es : List D} {xs ys : List V}, RepAll K G ds xs → RepAll K G es ys → RepAll K G (ds ++ es) (xs ++ ys)
  | [], _, _, _, h, g => by rw [RepAll.nil_iff] at h; subst h; exact g
  | _ :: ds, _, _, _, h, g => by
    obtain ⟨v, vs, rfl, r, t⟩ := RepAll.cons_iff.mp h
    exact .cons r (RepAll.append t g)
theorem RepAll.take : ∀ {ds : List D} {xs : List V} (n : Nat), RepAll K G ds xs → RepAll K G (ds.take n) (xs.take n)
  | _, _, 0, _ => by simp only [List.take_zero]; exact .nil
  | [], _, n + 1, h => by rw [RepAll.nil_iff] at h; subst h; simp only [List.take_nil]; exact .nil
  | _ :: ds, _, n + 1, h => by
    obtain ⟨v, vs, rfl, r, t⟩ := RepAll.cons_iff.mp h
    exact .cons r (RepAll.take n t)
theorem RepAll.drop : ∀ {ds : List D} {xs : List V} (n : Nat), RepAll K G ds xs → RepAll K G (ds.drop n) (xs.drop n)
  | _, _, 0, h => h
  | [], _, n + 1, h => by rw [RepAll.nil_iff] at h; subst h; simp only [List.drop_nil]; exact .nil
  | _ :: ds, _, n + 1, h => by
    obtain ⟨v, vs, rfl, r, t⟩ := RepAll.cons_iff.mp h
    exact RepAll.drop n t
theorem RepAll.set {d : D} {v : V} (r : Rep K G d v) : ∀ {ds : List D} {xs : List V} (i : Nat), RepAll K G ds xs → RepAll K G (ds.set i d) (xs.set i v)
  | [], _, _, h => by rw [RepAll.nil_iff] at h; subst h; exact .nil
  | _ :: ds, _, 0, h => by
    obtain ⟨w, vs, rfl, _, t⟩ := RepAll.cons_iff.mp h
    exact .cons r t
  | _ :: ds, _, i + 1, h => by
    obtain ⟨w, vs, rfl, q, t⟩ := RepAll.cons_iff.mp h
    exact .cons q (RepAll.set r i t)
theorem RepAll.reverse : ∀ {ds : List D} {xs : List V}, RepAll K G ds xs → RepAll K G ds.reverse xs.reverse
  | [], _, h => by rw [RepAll.nil_iff] at h; subst h; exact .nil
  | _ :: ds, _, h => by
    obtain ⟨v, vs, rfl, r, t⟩ := RepAll.cons_iff.mp h
    simp only [List.reverse_cons]
    exact (RepAll.reverse t).append (.cons r .nil)
theorem RepAll.of_get : ∀ {ds : List D} {xs : List V}, xs.length = ds.length → (∀ (i : Nat) d v, ds[i]? = some d → xs[i]? = some v → Rep K G d v) → RepAll K G ds xs
  | [], [], _, _ => .nil
  | [], _ :: _, h, _ => by simp at h
  | _ :: _, [], h, _ => by simp at h
  | d :: ds, v :: vs, h, g => .cons (g 0 d v rfl rfl) (RepAll.of_get (by simpa using h) fun i d v e1 e2 => g (i + 1) d v (by simpa using e1) (by simpa using e2))
theorem RepAll.ints : ∀ (ns : List Int), RepAll K G (ns.map D.int) (ns.map V.int)
  | [] => .nil
  | n :: ns => .cons (Rep.int_iff.mpr rfl) (RepAll.ints ns)
theorem RepAll.ints_inv : ∀ {ns : List Int} {xs : List V}, RepAll K G (ns.map D.int) xs → xs = ns.map V.int
  | [], _, h => RepAll.nil_iff.mp h
  | n :: ns, _, h => by
    obtain ⟨v, vs, rfl, r, t⟩ := RepAll.cons_iff.mp h
    rw [Rep.int_iff.mp r, RepAll.ints_inv t]; rfl
theorem RepAll.bools_inv : ∀ {ns : List Bool} {xs : List V}, RepAll K G (ns.map D.bool) xs → xs = ns.map V.bl
  | [], _, h => RepAll.nil_iff.mp h
  | n :: ns, _, h => by
    obtain ⟨v, vs, rfl, r, t⟩ := RepAll.cons_iff.mp h
    rw [Rep.bool_iff.mp r, RepAll.bools_inv t]; rfl
theorem RepK.nil : RepK K G [] [] := by rw [RepK]
theorem RepK.cons_iff {k : Key} {d : D} {ds : List (Key × D)} {xs : List (Key × V)} : RepK K G ((k, d) :: ds) xs ↔ ∃ v vs, xs = (k, v) :: vs ∧ Rep K G d v ∧ RepK K G ds vs := by rw [RepK]
theorem RepT.nil : RepT K G [] [] := by rw [RepT]
theorem RepT.cons_iff {k : List Key} {d : D} {ds : List (List Key × D)} {xs : List (List Key × V)} : RepT K G ((k, d) :: ds) xs ↔ ∃ v vs, xs = (k, v) :: vs ∧ Rep K G d v ∧ RepT K G ds vs := by rw [RepT]
theorem RepF.cons_iff {k : Str} {d : D} {ds : List (Str × D)} {xs : List (Str × V)} : RepF K G ((k, d) :: ds) xs ↔ ∃ v vs, xs = (k, v) :: vs ∧ Rep K G d v ∧ RepF K G ds vs := by rw [RepF]
end

def Sub (G H : Hp) : Prop := ∀ a o, G a = some o → H a = some o
/-- behind an expression: all that was tracked stands; newly frozen is what is new, or a tuple -/
structure Stp (G H G' H' : Hp) : Prop where
  le : Le G G'
  keep : Same H H'
  new : ∀ a o, G' a = some o → (∃ u, G a = some u) ∨ H a = none ∨ ∃ xs, o = .tup xs
  sub : Sub G' H'
theorem Stp.refl {G H : Hp} (s : Sub G H) : Stp G H G H := ⟨.refl G, .refl H, fun a o e => .inl ⟨o, e⟩, s⟩
theorem Stp.trans {G H G1 H1 G2 H2 : Hp} (a : Stp G H G1 H1) (b : Stp G1 H1 G2 H2) : Stp G H G2 H2 := by
  refine ⟨a.le.trans b.le, a.keep.trans b.keep, fun c o e => ?_, b.sub⟩
  rcases b.new c o e with ⟨u, e1⟩ | e1 | e1
  · rcases a.new c u e1 with e2 | e2 | ⟨xs, e2⟩
    · exact .inl e2
    · exact .inr (.inl e2)
    · subst e2
      refine .inr (.inr ⟨xs, ?_⟩)
      have h1 := a.sub _ _ e1
      have h2 := b.keep _ _ h1
      have h3 := b.sub _ _ e
      rw [h2] at h3
      exact (Option.some.inj h3).symm
  · exact .inr (.inl (a.keep.free e1))
  · exact .inr (.inr e1)
/-- a new object, tracked, not frozen -/
theorem Stp.made {G H : Hp} (s : Sub G H) {p : Addr} {o : HO} (h : H p = none) : Stp G H G (upd H p o) :=
  ⟨.refl G, fun b u e => by rw [upd_ne (ne_of_none e h)]; exact e, fun a u e => .inl ⟨u, e⟩, fun a u e => by rw [upd_ne (ne_of_none (s _ _ e) h)]; exact s _ _ e⟩
/-- a new object, tracked and frozen -/
theorem Stp.frozen {G H : Hp} (s : Sub G H) {p : Addr} {o : HO} (h : H p = none) : Stp G H (upd G p o) (upd H p o) := by
  have hG : G p = none := by
    cases q : G p with
    | none => rfl
    | some u => rw [s _ _ q] at h; cases h
  refine ⟨.of fun a u e => by rw [upd_ne (ne_of_none e hG)]; exact e, fun b u e => by rw [upd_ne (ne_of_none e h)]; exact e, fun a u e => ?_, fun a u e => ?_⟩
  · by_cases q : a = p
    · subst q; exact .inr (.inl h)
    · rw [upd_ne q] at e; exact .inl ⟨u, e⟩
  · by_cases q : a = p
    · subst q; rw [upd_same] at e ⊢; exact e
    · rw [upd_ne q] at e ⊢; exact s _ _ e
/-- what stands new is frozen -/
theorem Stp.freeze {G H G' H' : Hp} (s : Stp G H G' H') {p : Addr} {o : HO} (h : H p = none) (e : H' p = some o) (n : G' p = none) : Stp G H (upd G' p o) H' := by
  refine ⟨s.le.trans (.of fun a u q => by rw [upd_ne (ne_of_none q n)]; exact q), s.keep, fun a u q => ?_, fun a u q => ?_⟩
  · by_cases z : a = p
    · subst z; exact .inr (.inl h)
    · rw [upd_ne z] at q; exact s.new a u q
  · by_cases z : a = p
    · subst z; rw [upd_same] at q; cases q; exact e
    · rw [upd_ne z] at q; exact s.sub _ _ q
/-- a tuple that stands is frozen -/
theorem Stp.freezeT {G H G' H' : Hp} (s : Stp G H G' H') {p : Addr} {xs : List V} (e : H' p = some (.tup xs)) : Stp G H (upd G' p (.tup xs)) H' := by
  refine ⟨s.le.trans (.of fun a u q => ?_), s.keep, fun a u q => ?_, fun a u q => ?_⟩
  · by_cases z : a = p
    · subst z
      rw [upd_same]
      rw [s.sub _ _ q] at e
      cases e; rfl
    · rw [upd_ne z]; exact q
  · by_cases z : a = p
    · subst z; rw [upd_same] at q; cases q; exact .inr (.inr ⟨_, rfl⟩)
    · rw [upd_ne z] at q; exact s.new a u q
  · by_cases z : a = p
    · subst z; rw [upd_same] at q; cases q; exact e
    · rw [upd_ne z] at q; exact s.sub _ _ q

inductive Cell where
  | un
  | fz (d : D)
  | ow (d : D)
abbrev Cells := List Cell
/-- an owned list or dict at a, its items frozen -/
def Own (K : PySem.W.Frag) (G H : Hp) (a : Addr) : D → Prop
  | .list ds => ∃ xs, H a = some (.lst xs) ∧ RepAll K G ds xs
  | .dict ks => ∃ kvs, H a = some (.dK kvs) ∧ RepK K G ks kvs
  | .dictT ks => ∃ kvs, H a = some (.dT kvs) ∧ RepT K G ks kvs
  | _ => False
theorem Own.at {K : PySem.W.Frag} {G H : Hp} {a : Addr} {d : D} (h : Own K G H a d) : ∃ o, H a = some o ∧ ∀ xs, o ≠ .tup xs := by
  cases d with
  | list ds => obtain ⟨xs, e, _⟩ := h; exact ⟨_, e, fun _ z => by cases z⟩
  | dict ds => obtain ⟨xs, e, _⟩ := h; exact ⟨_, e, fun _ z => by cases z⟩
  | dictT ds => obtain ⟨xs, e, _⟩ := h; exact ⟨_, e, fun _ z => by cases z⟩
  | _ => exact False.elim h
theorem Own.move {K : PySem.W.Frag} {G H G' H' : Hp} {a : Addr} {d : D} (h : Own K G H a d) (l : Le G G') (k : ∀ o, H a = some o → H' a = some o) : Own K G' H' a d := by
  cases d with
  | list ds => obtain ⟨xs, e, r⟩ := h; exact ⟨xs, k _ e, RepAll.mono l _ r⟩
  | dict ds => obtain ⟨xs, e, r⟩ := h; exact ⟨xs, k _ e, RepK.mono l _ r⟩
  | dictT ds => obtain ⟨xs, e, r⟩ := h; exact ⟨xs, k _ e, RepT.mono l _ r⟩
  | _ => exact False.elim h
/-- the slots stand for the cells -/
structure SR (K : PySem.W.Frag) (G H : Hp) (σ : L2.St) (env : Cells) : Prop where
  sub : Sub G H
  fz : ∀ (i : Nat) (d : D), env[i]? = some (.fz d) → ∃ v, σ[i]? = some (some v) ∧ Rep K G d v
  ow : ∀ (i : Nat) (d : D), env[i]? = some (.ow d) → ∃ a, σ[i]? = some (some (.ref a)) ∧ G a = none ∧ Own K G H a d
  apart : ∀ (i j : Nat) (d e : D) (a : Addr), i ≠ j → env[i]? = some (.ow d) → env[j]? = some (.ow e) → σ[i]? = some (some (.ref a)) → σ[j]? ≠ some (some (.ref a))
  len : σ.length = env.length
section
variable {K : PySem.W.Frag} {G H G' H' : Hp} {σ : L2.St} {env : Cells}
theorem SR.step (s : SR K G H σ env) (t : Stp G H G' H') : SR K G' H' σ env := by
  refine ⟨t.sub, fun i d e => ?_, fun i d e => ?_, s.apart, s.len⟩
  · obtain ⟨v, e1, r⟩ := s.fz i d e
    exact ⟨v, e1, r.mono t.le⟩
  · obtain ⟨a, e1, n, o⟩ := s.ow i d e
    refine ⟨a, e1, ?_, o.move t.le fun u q => t.keep _ _ q⟩
    obtain ⟨u, hu, nt⟩ := o.at
    cases q : G' a with
    | none => rfl
    | some u' =>
      rcases t.new a u' q with ⟨z, e2⟩ | e2 | ⟨xs, e2⟩
      · rw [n] at e2; cases e2
      · rw [hu] at e2; cases e2
      · have h1 := t.sub _ _ q
        rw [t.keep _ _ hu] at h1
        cases h1
        exact absurd e2 (nt xs)
end
end PL
end S0
noncomputable section S1
namespace PL
open PySem PySem.Spec PyProof.Rows L2

/-- what is wanted behind a piece of syntax that answers r -/
def Post {α β : Type} (G H : Hp) (W : WX) (σ : L2.St) (Rel : Hp → Hp → α → β → Prop) (r : R α) (Q : β → Hp → Prop) : Prop := match r with
  | .ok a => ∀ v G' H', Stp G H G' H' → Rel G' H' a v → Q v H'
  | .exc C => ∀ H', Same H H' → W (.ref C) none σ H'
  | .bad => False
section
variable {α β γ δ : Type} {G H G1 H1 : Hp} {W : WX} {σ : L2.St}
theorem Post.move {Rel : Hp → Hp → α → β → Prop} {r : R α} {Q : β → Hp → Prop} (h : Post G H W σ Rel r Q) (s : Stp G H G1 H1) : Post G1 H1 W σ Rel r Q := by
  cases r with
  | ok a => exact fun v G' H' s' r' => h v G' H' (s.trans s') r'
  | exc C => exact fun H' s' => h H' (s.keep.trans s')
  | bad => exact h
theorem Post.seq {Rel1 : Hp → Hp → α → β → Prop} {Rel2 : Hp → Hp → γ → δ → Prop} {x : R α} {k : α → R γ} {Q : δ → Hp → Prop} {Q1 : β → Hp → Prop} (h : Post G H W σ Rel2 (x >>= k) Q)
    (f : ∀ a v G1 H1, x = .ok a → Stp G H G1 H1 → Rel1 G1 H1 a v → Post G1 H1 W σ Rel2 (k a) Q → Q1 v H1) : Post G H W σ Rel1 x Q1 := by
  cases x with
  | ok a => exact fun v G' H' s r => f a v G' H' rfl s r (Post.move (r := k a) h s)
  | exc C => exact h
  | bad => exact h
theorem Post.imp {Rel1 : Hp → Hp → α → β → Prop} {Rel2 : Hp → Hp → α → δ → Prop} {x : R α} {Q : δ → Hp → Prop} {Q1 : β → Hp → Prop} (h : Post G H W σ Rel2 x Q)
    (f : ∀ a v G1 H1, x = .ok a → Stp G H G1 H1 → Rel1 G1 H1 a v → (∀ u G2 H2, Stp G1 H1 G2 H2 → Rel2 G2 H2 a u → Q u H2) → Q1 v H1) : Post G H W σ Rel1 x Q1 := by
  cases x with
  | ok a => exact fun v G' H' s r => f a v G' H' rfl s r fun u G2 H2 s2 r2 => h u G2 H2 (s.trans s2) r2
  | exc C => exact h
  | bad => exact h
end

section
variable (K : PySem.W.Frag)
abbrev RV : Hp → Hp → D → V → Prop := fun G _ d v => Rep K G d v
/-- borrowed: frozen, or an owned list or dict as it stands -/
def RB : Hp → Hp → D → V → Prop := fun G H d v => Rep K G d v ∨ ∃ a, v = .ref a ∧ G a = none ∧ Own K G H a d
abbrev RA : Hp → Hp → List D → List V → Prop := fun G _ ds vs => RepAll K G ds vs
abbrev RBs : Hp → Hp → List D → List V → Prop := fun G H ds vs => Paired (RB K G H) ds vs
abbrev RT : Hp → Hp → Bool → Bool → Prop := fun _ _ a b => a = b
/-- a new list or dict, not frozen -/
def RL (H0 : Hp) : Hp → Hp → D → V → Prop := fun G H d v => ∃ p, v = .ref p ∧ H0 p = none ∧ G p = none ∧ Own K G H p d
def tG {α β : Type} (W : WX) (Rel : Hp → Hp → Hp → α → β → Prop) (f : Cells → R α) : L2.St → Hp → (β → Hp → Prop) → Prop := fun σ H Q => ∃ G env, SR K G H σ env ∧ Post G H W σ (Rel H) (f env) Q
end
abbrev EV (X : Cx) (W : WX) (e : Expr) (f : Cells → R D) : Prop := PE X e (tG X.K W (fun _ => RV X.K) f)
abbrev EB (X : Cx) (W : WX) (e : Expr) (f : Cells → R D) : Prop := PE X e (tG X.K W (fun _ => RB X.K) f)
abbrev EL (X : Cx) (W : WX) (e : Expr) (f : Cells → R D) : Prop := PE X e (tG X.K W (RL X.K) f)
abbrev ET (X : Cx) (W : WX) (e : Expr) (f : Cells → R Bool) : Prop := PT X e (tG X.K W (fun _ => RT) f)
abbrev EW (X : Cx) (W : WX) (e : Expr) (f : Cells → R Bool) : Prop := PW X e (tG X.K W (fun _ => RT) f)
abbrev EA (X : Cx) (W : WX) (es : List Expr) (f : Cells → R (List D)) : Prop := PA X es (tG X.K W (fun _ => RA X.K) f)
abbrev EAB (X : Cx) (W : WX) (es : List Expr) (f : Cells → R (List D)) : Prop := PA X es (tG X.K W (fun _ => RBs X.K) f)

theorem PE.imp {X : Cx} {e : Expr} {t t' : TE} (h : PE X e t) (i : ∀ σ H Q, t' σ H Q → t σ H Q) : PE X e t' := ⟨fun pins s σ H Q I q => h.run pins s σ H Q I (i σ H Q q)⟩
theorem PT.imp {X : Cx} {e : Expr} {t t' : TT} (h : PT X e t) (i : ∀ σ H Q, t' σ H Q → t σ H Q) : PT X e t' := ⟨fun pins s σ H Q I q => h.run pins s σ H Q I (i σ H Q q)⟩
theorem PW.imp {X : Cx} {e : Expr} {t t' : TT} (h : PW X e t) (i : ∀ σ H Q, t' σ H Q → t σ H Q) : PW X e t' := ⟨fun wh pins s σ H Q I q => h.run wh pins s σ H Q I (i σ H Q q)⟩
theorem PA.imp {X : Cx} {es : List Expr} {t t' : TA} (h : PA X es t) (i : ∀ σ H Q, t' σ H Q → t σ H Q) : PA X es t' := ⟨fun pos pins s σ H Q I q => h.run pos pins s σ H Q I (i σ H Q q)⟩

section
variable {K : PySem.W.Frag} {G H G' H' : Hp} {a : Addr} {d : D} {v : V}
theorem Own.step (o : Own K G H a d) (n : G a = none) (t : Stp G H G' H') : G' a = none ∧ Own K G' H' a d := by
  refine ⟨?_, o.move t.le fun u q => t.keep _ _ q⟩
  obtain ⟨u, hu, nt⟩ := o.at
  cases q : G' a with
  | none => rfl
  | some u' =>
    rcases t.new a u' q with ⟨z, e2⟩ | e2 | ⟨xs, e2⟩
    · rw [n] at e2; cases e2
    · rw [hu] at e2; cases e2
    · have h1 := t.sub _ _ q
      rw [t.keep _ _ hu] at h1
      cases h1
      exact absurd e2 (nt xs)
theorem RB.step (r : RB K G H d v) (t : Stp G H G' H') : RB K G' H' d v := by
  rcases r with r | ⟨a, e, n, o⟩
  · exact .inl (r.mono t.le)
  · obtain ⟨n', o'⟩ := o.step n t
    exact .inr ⟨a, e, n', o'⟩
theorem RBs.step {ds : List D} {vs : List V} (r : RBs K G H ds vs) (t : Stp G H G' H') : RBs K G' H' ds vs := by
  induction r with
  | nil => exact .nil
  | cons h _ ih => exact .cons (RB.step h t) ih
theorem RBs.of {ds : List D} {vs : List V} (r : RepAll K G ds vs) : RBs K G H ds vs := by
  induction ds generalizing vs with
  | nil => rw [RepAll.nil_iff] at r; subst r; exact .nil
  | cons d ds ih =>
    obtain ⟨v, vs, rfl, h, t⟩ := RepAll.cons_iff.mp r
    exact .cons (.inl h) (ih t)
/-- flat things are frozen -/
theorem RB.flat (r : RB K G H d v) (f : ∀ xs, d ≠ .list xs) (f2 : ∀ xs, d ≠ .dict xs) (f3 : ∀ xs, d ≠ .dictT xs) : Rep K G d v := by
  rcases r with r | ⟨a, e, n, o⟩
  · exact r
  · cases d with
    | list xs => exact absurd rfl (f xs)
    | dict xs => exact absurd rfl (f2 xs)
    | dictT xs => exact absurd rfl (f3 xs)
    | _ => exact False.elim o
theorem RB.int {i : Int} (r : RB K G H (.int i) v) : v = .int i := Rep.int_iff.mp (r.flat (fun _ z => by cases z) (fun _ z => by cases z) (fun _ z => by cases z))
theorem RB.str {i : Str} (r : RB K G H (.str i) v) : v = .str i := Rep.str_iff.mp (r.flat (fun _ z => by cases z) (fun _ z => by cases z) (fun _ z => by cases z))
theorem RB.bool {i : Bool} (r : RB K G H (.bool i) v) : v = .bl i := Rep.bool_iff.mp (r.flat (fun _ z => by cases z) (fun _ z => by cases z) (fun _ z => by cases z))
theorem RB.none (r : RB K G H .none v) : v = .non := Rep.none_iff.mp (r.flat (fun _ z => by cases z) (fun _ z => by cases z) (fun _ z => by cases z))
theorem RB.tuple {ds : List D} (r : RB K G H (.tuple ds) v) : ∃ a xs, v = .ref a ∧ G a = some (.tup xs) ∧ RepAll K G ds xs := Rep.tuple_iff.mp (r.flat (fun _ z => by cases z) (fun _ z => by cases z) (fun _ z => by cases z))
theorem RB.ftuple {ds : List D} (r : RB K G H (.ftuple ds) v) : ∃ a xs, v = .ref a ∧ SqT K G a xs ∧ RepAll K G ds xs := Rep.ftuple_iff.mp (r.flat (fun _ z => by cases z) (fun _ z => by cases z) (fun _ z => by cases z))
theorem RB.flist {ds : List D} (r : RB K G H (.flist ds) v) : ∃ a xs, v = .ref a ∧ SqL K G a xs ∧ RepAll K G ds xs := Rep.flist_iff.mp (r.flat (fun _ z => by cases z) (fun _ z => by cases z) (fun _ z => by cases z))
theorem RB.list {ds : List D} (r : RB K G H (.list ds) v) (s : Sub G H) : ∃ a xs, v = .ref a ∧ H a = some (.lst xs) ∧ RepAll K G ds xs := by
  rcases r with r | ⟨a, e, n, xs, h, r⟩
  · obtain ⟨a, xs, e, h, r⟩ := Rep.list_iff.mp r
    exact ⟨a, xs, e, s _ _ h, r⟩
  · exact ⟨a, xs, e, h, r⟩
theorem Sub.rd (s : Sub G H) {a : Addr} {u : HO} (r : Rd G a u) : Rd H a u := r.elim (fun e => .inl (s _ _ e)) fun ⟨o, e⟩ => .inr ⟨o, s _ _ e⟩
theorem Sub.sqT (s : Sub G H) {a : Addr} {xs : List V} (h : SqT K G a xs) : SqT K H a xs := h.elim (fun r => .inl (s.rd r)) .inr
theorem Sub.sqL (s : Sub G H) {a : Addr} {xs : List V} (h : SqL K G a xs) : SqL K H a xs := h.elim (fun r => .inl (s.rd r)) .inr
theorem RB.dict {ds : List (Key × D)} (r : RB K G H (.dict ds) v) (s : Sub G H) : ∃ a xs, v = .ref a ∧ Rd H a (.dK xs) ∧ RepK K G ds xs := by
  rcases r with r | ⟨a, e, n, xs, h, r⟩
  · obtain ⟨a, xs, e, h, r⟩ := Rep.dict_iff.mp r
    exact ⟨a, xs, e, s.rd h, r⟩
  · exact ⟨a, xs, e, .inl h, r⟩
theorem RB.dictT {ds : List (List Key × D)} (r : RB K G H (.dictT ds) v) (s : Sub G H) : ∃ a xs, v = .ref a ∧ Rd H a (.dT xs) ∧ RepT K G ds xs := by
  rcases r with r | ⟨a, e, n, xs, h, r⟩
  · obtain ⟨a, xs, e, h, r⟩ := Rep.dictT_iff.mp r
    exact ⟨a, xs, e, s.rd h, r⟩
  · exact ⟨a, xs, e, .inl h, r⟩
end

section
variable {K : PySem.W.Frag} {G H : Hp} {W : WX} {σ : L2.St} {Q : VK}
theorem Post.here {d : D} {v : V} (h : Post G H W σ (RV K) (.ok d) Q) (s : Sub G H) (r : Rep K G d v) : Q v H := h v G H (.refl s) r
theorem Post.int {i : Int} (h : Post G H W σ (RV K) (.ok (.int i)) Q) (s : Sub G H) : Q (.int i) H := h.here s (Rep.int_iff.mpr rfl)
theorem Post.bool {i : Bool} (h : Post G H W σ (RV K) (.ok (.bool i)) Q) (s : Sub G H) : Q (.bl i) H := h.here s (Rep.bool_iff.mpr rfl)
theorem Post.str {i : Str} (h : Post G H W σ (RV K) (.ok (.str i)) Q) (s : Sub G H) : Q (.str i) H := h.here s (Rep.str_iff.mpr rfl)
theorem Post.newT {ds : List D} {xs : List V} (h : Post G H W σ (RV K) (.ok (.tuple ds)) Q) (s : Sub G H) (r : RepAll K G ds xs) {p : Addr} (n : H p = none) : Q (.ref p) (upd H p (.tup xs)) :=
  h _ _ _ (.frozen s n) (Rep.tuple_iff.mpr ⟨p, xs, rfl, upd_same, RepAll.mono (Stp.frozen s n).le _ r⟩)
theorem Post.newL {ds : List D} {xs : List V} (h : Post G H W σ (RV K) (.ok (.list ds)) Q) (s : Sub G H) (r : RepAll K G ds xs) {p : Addr} (n : H p = none) : Q (.ref p) (upd H p (.lst xs)) :=
  h _ _ _ (.frozen s n) (Rep.list_iff.mpr ⟨p, xs, rfl, upd_same, RepAll.mono (Stp.frozen s n).le _ r⟩)
theorem Post.newLo {ds : List D} {xs : List V} {H0 : Hp} (h : Post G H W σ (RL K H0) (.ok (.list ds)) Q) (s : Sub G H) (r : RepAll K G ds xs) {p : Addr} (n : H p = none) (n0 : H0 p = none) : Q (.ref p) (upd H p (.lst xs)) := by
  have st := Stp.made (o := HO.lst xs) s n
  refine h _ _ _ st ⟨p, rfl, n0, ?_, xs, upd_same, r⟩
  cases q : G p with
  | none => rfl
  | some u => rw [s _ _ q] at n; cases n
end

section
variable {X : Cx} {W : WX} {e : Expr} {es : List Expr} {f : Cells → R D}
theorem EB.of (h : EV X W e f) : EB X W e f := PE.imp h fun σ H Q ⟨G, env, S, P⟩ => ⟨G, env, S, P.imp fun a v G1 H1 _ s r k => k v G1 H1 (.refl s.sub) (.inl r)⟩
theorem EB.ofL (h : EL X W e f) : EB X W e f := PE.imp h fun σ H Q ⟨G, env, S, P⟩ => ⟨G, env, S, P.imp fun a v G1 H1 _ s ⟨p, e1, _, n, o⟩ k => k v G1 H1 (.refl s.sub) (.inr ⟨p, e1, n, o⟩)⟩
/-- what is new is frozen -/
theorem EV.ofL (h : EL X W e f) : EV X W e f := PE.imp h fun σ H Q ⟨G, env, S, P⟩ => ⟨G, env, S, by
  generalize f env = r at P ⊢
  cases r with
  | ok a =>
    intro v G1 H1 s ⟨p, e1, n0, n, o⟩
    subst e1
    cases a with
    | list ds =>
      obtain ⟨xs, hx, r⟩ := o
      have s2 := s.freeze n0 hx n
      exact P _ _ _ s2 (Rep.list_iff.mpr ⟨p, xs, rfl, upd_same, RepAll.mono (Le.of fun a u q => by rw [upd_ne (ne_of_none q n)]; exact q) _ r⟩)
    | dict ds =>
      obtain ⟨xs, hx, r⟩ := o
      have s2 := s.freeze n0 hx n
      exact P _ _ _ s2 (Rep.dict_iff.mpr ⟨p, xs, rfl, .inl upd_same, RepK.mono (Le.of fun a u q => by rw [upd_ne (ne_of_none q n)]; exact q) _ r⟩)
    | dictT ds =>
      obtain ⟨xs, hx, r⟩ := o
      have s2 := s.freeze n0 hx n
      exact P _ _ _ s2 (Rep.dictT_iff.mpr ⟨p, xs, rfl, .inl upd_same, RepT.mono (Le.of fun a u q => by rw [upd_ne (ne_of_none q n)]; exact q) _ r⟩)
    | _ => exact False.elim o
  | exc C => exact P
  | bad => exact P⟩

def rdV (i : Nat) (c : Cells) : R D := match c[i]? with
  | some (.fz d) => .ok d
  | _ => .bad
def rdB (i : Nat) (c : Cells) : R D := match c[i]? with
  | some (.fz d) => .ok d
  | some (.ow d) => .ok d
  | _ => .bad
theorem ev_name (i : Nat) {x : Str} {pos : Pos} (hN : X.N[i]? = some x) (hv : Vis X.env.scope x) (hd : (x == ("__debug__" : Str)) = false) (hcd : (x == ("__classdict__" : Str)) = false) : EV X W (.Name x pos) (rdV i) := by
  refine PE.imp (pe_var hN hv hd hcd) fun σ H Q ⟨G, env, S, P⟩ => ?_
  unfold rdV at P
  split at P
  · rename_i d e
    obtain ⟨v, e1, r⟩ := S.fz i d e
    exact ⟨v, e1, P.here S.sub r⟩
  · exact False.elim P
theorem eb_name (i : Nat) {x : Str} {pos : Pos} (hN : X.N[i]? = some x) (hv : Vis X.env.scope x) (hd : (x == ("__debug__" : Str)) = false) (hcd : (x == ("__classdict__" : Str)) = false) : EB X W (.Name x pos) (rdB i) := by
  refine PE.imp (pe_var hN hv hd hcd) fun σ H Q ⟨G, env, S, P⟩ => ?_
  unfold rdB at P
  split at P
  · rename_i d e
    obtain ⟨v, e1, r⟩ := S.fz i d e
    exact ⟨v, e1, P v G H (.refl S.sub) (.inl r)⟩
  · rename_i d e
    obtain ⟨a, e1, n, o⟩ := S.ow i d e
    exact ⟨_, e1, P _ G H (.refl S.sub) (.inr ⟨a, rfl, n, o⟩)⟩
  · exact False.elim P
theorem ev_int {i j pos} : EV X W (.Constant (.int i) j pos) (fun _ => .ok (.int i)) := PE.imp pe_int fun σ H Q ⟨G, env, S, P⟩ => P.int S.sub
theorem ev_bl {b j pos} : EV X W (.Constant (.bool b) j pos) (fun _ => .ok (.bool b)) := PE.imp pe_bl fun σ H Q ⟨G, env, S, P⟩ => P.bool S.sub
theorem ev_non {j pos} : EV X W (.Constant .none j pos) (fun _ => .ok .none) := PE.imp pe_non fun σ H Q ⟨G, env, S, P⟩ => P.here S.sub (Rep.none_iff.mpr rfl)
theorem ev_str {x j pos} : EV X W (.Constant (.str x) j pos) (fun _ => .ok (.str x)) := PE.imp pe_str fun σ H Q ⟨G, env, S, P⟩ => P.str S.sub
/-- a module's constant: what it stands for wherever the module stands -/
def GlobD (X : Cx) (x : Str) (d : D) : Prop := ∃ v u, X.mg x = some u ∧ RelV v u ∧ ∀ G, Rep X.K G d v
theorem ev_glob {x : Str} {d : D} {pos : Pos} (hg : Gl X x) (h : GlobD X x d) (hd : (x == ("__debug__" : Str)) = false) : EV X W (.Name x pos) (fun _ => .ok d) := by
  obtain ⟨v, u, hm, r, hr⟩ := h
  exact PE.imp (pe_glob hg hm r hd) fun σ H Q ⟨G, env, S, P⟩ => P.here S.sub (hr G)

/-- r carries out o -/
def Does2 (X : Cx) (W : WX) (r : R2) (o : D → D → R D) : Prop := ∀ {G H : Hp} {σ : L2.St} {Q : VK} {d e : D} {v u : V}, Sub G H → RB X.K G H d v → RB X.K G H e u → Post G H W σ (RV X.K) (o d e) Q → r v u H Q
def lift2 (o : D → D → R D) (f g : Cells → R D) : Cells → R D := fun c => f c >>= fun x => g c >>= fun y => o x y
theorem run2 {ta tb : TE} {r : R2} {o : D → D → R D} {f g : Cells → R D} (hr : Does2 X W r o) {σ : L2.St} {H : Hp} {Q : VK} (h : tG X.K W (fun _ => RV X.K) (lift2 o f g) σ H Q) :
    tOp r (tG X.K W (fun _ => RB X.K) f) (tG X.K W (fun _ => RB X.K) g) σ H Q := by
  obtain ⟨G, env, S, P⟩ := h
  refine ⟨G, env, S, Post.seq (Rel1 := RB X.K) (x := f env) (k := fun x => g env >>= fun y => o x y) P fun d v G1 H1 _ s1 r1 P1 => ?_⟩
  refine ⟨G1, env, S.step s1, Post.seq (Rel1 := RB X.K) (x := g env) (k := fun y => o d y) P1 fun e u G2 H2 _ s2 r2 P2 => ?_⟩
  exact hr s2.sub (r1.step s2) r2 P2
variable {a b : Expr} {g h : Cells → R D} {pos : Pos}
theorem ev_op {op : Operator} {r : R2} {o : D → D → R D} (ho : OpR X (binaryOp op) r) (hr : Does2 X W r o) (ha : EB X W a f) (hb : EB X W b g) : EV X W (.BinOp a op b pos) (lift2 o f g) :=
  PE.imp (pe_op ho ha hb) fun σ H Q q => run2 (ta := tG X.K W (fun _ => RB X.K) f) (tb := tG X.K W (fun _ => RB X.K) g) hr q
theorem ev_cmp {op : CmpOp} {r : R2} {o : D → D → R D} (ho : OpR X (compareOp op) r) (hr : Does2 X W r o) (ha : EB X W a f) (hb : EB X W b g) (hm : behindInMarks op b = false) : EV X W (.Compare a [op] [b] pos) (lift2 o f g) :=
  PE.imp (pe_cmpR ho ha hb hm) fun σ H Q q => run2 (ta := tG X.K W (fun _ => RB X.K) f) (tb := tG X.K W (fun _ => RB X.K) g) hr q
/-- a truth value wanted -/
def asB : D → R Bool
  | .bool b => .ok b
  | _ => .bad
theorem et_cmp {op : CmpOp} {r : R2} {o : D → D → R D} (ho : OpR X (compareOp op) r) (hr : Does2 X W r o) (ha : EB X W a f) (hb : EB X W b g) (hm : behindInMarks op b = false) : ET X W (.Compare a [op] [b] pos) (fun c => lift2 o f g c >>= asB) := by
  refine PT.imp (pt_cmpR ho ha hb hm) fun σ H Q q => ?_
  refine run2 (ta := tG X.K W (fun _ => RB X.K) f) (tb := tG X.K W (fun _ => RB X.K) g) hr ?_
  obtain ⟨G, env, S, P⟩ := q
  refine ⟨G, env, S, Post.seq (Rel1 := RV X.K) (x := lift2 o f g env) (k := asB) P fun d v G1 H1 _ s1 r1 P1 => ?_⟩
  cases d with
  | bool b => exact ⟨b, Rep.bool_iff.mp r1, P1 b G1 H1 (.refl s1.sub) rfl⟩
  | _ => exact False.elim P1
end
end PL
end S1
noncomputable section S2
namespace PL
open PySem PySem.Spec PyProof.Rows L2

def lim : Nat := 100000
theorem lim_le {n : Nat} (h : n ≤ lim) : n ≤ sizeLine := Nat.le_trans h (by decide)
def oAdd : D → D → R D
  | .int i, .int j => .ok (.int (i + j))
  | .str x, .str y => if x.length + y.length ≤ lim then .ok (.str (x ++ y)) else .bad
  | .list xs, .list ys => if xs.length + ys.length ≤ lim then .ok (.list (xs ++ ys)) else .bad
  | .tuple xs, .tuple ys => if xs.length + ys.length ≤ lim then .ok (.tuple (xs ++ ys)) else .bad
  | _, _ => .bad
def oSub : D → D → R D
  | .int i, .int j => .ok (.int (i - j))
  | _, _ => .bad
def big : Nat := 1000000000000000000
def oMul : D → D → R D
  | .int i, .int j => if i.natAbs ≤ big ∨ j.natAbs ≤ big then .ok (.int (i * j)) else .bad
  | .list xs, .int k => if xs.length * k.toNat ≤ lim ∧ k.natAbs ≤ lim then .ok (.list (List.replicate k.toNat xs).flatten) else .bad
  | _, _ => .bad
def oDiv : D → D → R D
  | .int i, .int j => if 0 < j ∧ j < 1073741824 then .ok (.int (i / j)) else .bad
  | _, _ => .bad
def oMod : D → D → R D
  | .int i, .int j => if 0 < j then .ok (.int (i % j)) else .bad
  | _, _ => .bad
def oPow : D → D → R D
  | .int i, .int j => if 0 ≤ j ∧ j ≤ 100 ∧ i.natAbs ≤ big then .ok (.int (i ^ j.toNat)) else .bad
  | _, _ => .bad

section
variable {X : Cx} {W : WX}
theorem op_addAll : OpR X (binaryOp .Add) (fun x y H Q => rI0 (fun i j => .int (i + j)) x y H Q ∨ ((∃ i j, x = .str i ∧ y = .str j ∧ i.length + j.length ≤ sizeLine ∧ Q (.str (i ++ j)) H) ∨ (rCat x y H Q ∨ rCatA X.K x y H Q))) := op_add.or (op_add_str.or (op_cat.or op_catA))
theorem does_add : Does2 X W (fun x y H Q => rI0 (fun i j => .int (i + j)) x y H Q ∨ ((∃ i j, x = .str i ∧ y = .str j ∧ i.length + j.length ≤ sizeLine ∧ Q (.str (i ++ j)) H) ∨ (rCat x y H Q ∨ rCatA X.K x y H Q))) oAdd := by
  intro G H σ Q d e v u s r1 r2 P
  unfold oAdd at P
  split at P
  · exact .inl ⟨_, _, r1.int, r2.int, P.int s⟩
  · split at P
    · rename_i h
      exact .inr (.inl ⟨_, _, r1.str, r2.str, lim_le h, P.str s⟩)
    · exact False.elim P
  · split at P
    · rename_i h
      obtain ⟨a, xs, rfl, ha, ra⟩ := r1.list s
      obtain ⟨b, ys, rfl, hb, rb⟩ := r2.list s
      exact .inr (.inr (.inl ⟨a, b, xs, ys, rfl, rfl, ha, hb, lim_le (by rw [ra.length, rb.length]; exact h), fun p n => P.newL s (ra.append rb) n⟩))
    · exact False.elim P
  · split at P
    · rename_i h
      obtain ⟨a, xs, rfl, ha, ra⟩ := r1.tuple
      obtain ⟨b, ys, rfl, hb, rb⟩ := r2.tuple
      have la := ra.length
      have lb := rb.length
      refine .inr (.inr (.inr ⟨a, b, xs, ys, rfl, rfl, .of (s _ _ ha), .of (s _ _ hb), lim_le (by rw [la, lb]; exact h), fun e => ?_, fun _ e => ?_, fun _ _ p n => P.newT s (ra.append rb) n⟩))
      · subst e
        rw [List.length_nil] at la
        rw [List.eq_nil_of_length_eq_zero la.symm, List.nil_append] at P
        exact P.here s (Rep.tuple_iff.mpr ⟨b, ys, rfl, hb, rb⟩)
      · subst e
        rw [List.length_nil] at lb
        rw [List.eq_nil_of_length_eq_zero lb.symm, List.append_nil] at P
        exact P.here s (Rep.tuple_iff.mpr ⟨a, xs, rfl, ha, ra⟩)
    · exact False.elim P
  · exact False.elim P
theorem does_sub : Does2 X W (rI0 fun i j => .int (i - j)) oSub := by
  intro G H σ Q d e v u s r1 r2 P
  unfold oSub at P
  split at P
  · exact ⟨_, _, r1.int, r2.int, P.int s⟩
  · exact False.elim P
theorem big_lt {i : Int} (h : i.natAbs ≤ big) : -(2 ^ 64) < i ∧ i < 2 ^ 64 := by
  unfold big at h
  omega
theorem op_mulAll : OpR X (binaryOp .Mult) (fun x y H Q => rI CMul (fun i j => .int (i * j)) x y H Q ∨ rRep x y H Q) := op_mul.or op_rep
theorem RepAll.rep {K : PySem.W.Frag} {G : Hp} {ds : List D} {xs : List V} (r : RepAll K G ds xs) : ∀ n, RepAll K G (List.replicate n ds).flatten (List.replicate n xs).flatten
  | 0 => .nil
  | n + 1 => by
    rw [List.replicate_succ, List.replicate_succ, List.flatten_cons, List.flatten_cons]
    exact r.append (RepAll.rep r n)
theorem does_mul : Does2 X W (fun x y H Q => rI CMul (fun i j => .int (i * j)) x y H Q ∨ rRep x y H Q) oMul := by
  intro G H σ Q d e v u s r1 r2 P
  unfold oMul at P
  split at P
  · split at P
    · rename_i h
      exact .inl ⟨_, _, r1.int, r2.int, h.imp big_lt big_lt, P.int s⟩
    · exact False.elim P
  · split at P
    · rename_i h
      obtain ⟨a, xs, rfl, ha, ra⟩ := r1.list s
      have h2 := h.2
      unfold lim at h2
      exact .inr ⟨a, _, xs, rfl, r2.int, ha, by omega, by omega, lim_le (by rw [ra.length]; exact h.1), fun p n => P.newL s (ra.rep _) n⟩
    · exact False.elim P
  · exact False.elim P
theorem does_div : Does2 X W (rI CDiv fun i j => .int (i / j)) oDiv := by
  intro G H σ Q d e v u s r1 r2 P
  unfold oDiv at P
  split at P
  · split at P
    · rename_i h
      exact ⟨_, _, r1.int, r2.int, h, P.int s⟩
    · exact False.elim P
  · exact False.elim P
theorem does_mod : Does2 X W (rI (fun _ j => 0 < j) fun i j => .int (i % j)) oMod := by
  intro G H σ Q d e v u s r1 r2 P
  unfold oMod at P
  split at P
  · split at P
    · rename_i h
      exact ⟨_, _, r1.int, r2.int, h, P.int s⟩
    · exact False.elim P
  · exact False.elim P
theorem does_pow : Does2 X W (rI CPow fun i j => .int (i ^ j.toNat)) oPow := by
  intro G H σ Q d e v u s r1 r2 P
  unfold oPow at P
  split at P
  · split at P
    · rename_i h
      have h3 := h.2.2
      unfold big at h3
      exact ⟨_, _, r1.int, r2.int, ⟨h.1, by omega, by omega⟩, P.int s⟩
    · exact False.elim P
  · exact False.elim P
end

mutual
def toPy : D → PyData
  | .none => .none
  | .bool b => .bool b
  | .int i => .int i
  | .str x => .str x
  | .list xs => .list (toPys xs)
  | .flist xs => .list (toPys xs)
  | .tuple xs => .tuple (toPys xs)
  | .ftuple xs => .tuple (toPys xs)
  | .dict _ => .dict []
  | .dictT _ => .dict []
  | .inst _ _ => .dict []
def toPys : List D → List PyData
  | [] => []
  | x :: xs => toPy x :: toPys xs
end
section
variable {K : PySem.W.Frag} {G H : Hp}
mutual
theorem Rep.dp (s : Sub G H) : ∀ (d : D) {v : V}, Rep K G d v → (toPy d).canLay0 = true → Dp K H v (toPy d)
  | .none, _, r, _ => by rw [Rep.none_iff.mp r, toPy]; exact .non
  | .bool b, _, r, _ => by rw [Rep.bool_iff.mp r, toPy]; exact .bl b
  | .int i, _, r, _ => by rw [Rep.int_iff.mp r, toPy]; exact .int i
  | .str x, _, r, _ => by rw [Rep.str_iff.mp r, toPy]; exact .str x
  | .list ds, _, r, c => by
    obtain ⟨a, xs, rfl, h, r⟩ := Rep.list_iff.mp r
    rw [toPy] at c ⊢
    exact .lst (.of (s _ _ h)) (RepAll.dp s ds r (by simpa [PyData.canLay0] using c))
  | .flist ds, _, r, c => by
    obtain ⟨a, xs, rfl, h, r⟩ := Rep.flist_iff.mp r
    rw [toPy] at c ⊢
    exact .lst (s.sqL h) (RepAll.dp s ds r (by simpa [PyData.canLay0] using c))
  | .tuple ds, _, r, c => by
    obtain ⟨a, xs, rfl, h, r⟩ := Rep.tuple_iff.mp r
    rw [toPy] at c ⊢
    exact .tup (.of (s _ _ h)) (RepAll.dp s ds r (by simpa [PyData.canLay0] using c))
  | .ftuple ds, _, r, c => by
    obtain ⟨a, xs, rfl, h, r⟩ := Rep.ftuple_iff.mp r
    rw [toPy] at c ⊢
    exact .tup (s.sqT h) (RepAll.dp s ds r (by simpa [PyData.canLay0] using c))
  | .dict ds, _, r, c => by rw [toPy] at c; simp [PyData.canLay0] at c
  | .dictT ds, _, r, c => by rw [toPy] at c; simp [PyData.canLay0] at c
  | .inst C fs, _, r, c => by rw [toPy] at c; simp [PyData.canLay0] at c
theorem RepAll.dp (s : Sub G H) : ∀ (ds : List D) {vs : List V}, RepAll K G ds vs → PyData.canLayAll0 (toPys ds) = true → DpAll K H vs (toPys ds)
  | [], _, r, _ => by rw [RepAll.nil_iff.mp r, toPys]; exact .nil
  | d :: ds, _, r, c => by
    obtain ⟨v, vs, rfl, h, t⟩ := RepAll.cons_iff.mp r
    rw [toPys] at c ⊢
    have c' : (toPy d).canLay0 = true ∧ PyData.canLayAll0 (toPys ds) = true := by simpa [PyData.canLayAll0] using c
    exact .cons (Rep.dp s d h c'.1) (RepAll.dp s ds t c'.2)
end
theorem RB.dp {d : D} {v : V} (r : RB K G H d v) (s : Sub G H) (c : (toPy d).canLay0 = true) : Dp K H v (toPy d) := by
  rcases r with r | ⟨a, e, n, o⟩
  · exact Rep.dp s d r c
  · cases d with
    | list ds =>
      obtain ⟨xs, h, r⟩ := o
      subst e
      rw [toPy] at c ⊢
      exact .lst (.of h) (RepAll.dp s ds r (by simpa [PyData.canLay0] using c))
    | dict ds => rw [toPy] at c; simp [PyData.canLay0] at c
    | dictT ds => rw [toPy] at c; simp [PyData.canLay0] at c
    | _ => exact False.elim o
end
/-- data that may be compared -/
def okD (d : D) : Bool := SeqAt.shaped (toPy d)
def eqD (d e : D) : Bool := PyData.eqv (toPy d) (toPy e)
def oEq (d e : D) : R D := if okD d = true ∧ okD e = true then .ok (.bool (eqD d e)) else .bad
def oNe (d e : D) : R D := if okD d = true ∧ okD e = true then .ok (.bool (!eqD d e)) else .bad
def oCmp (p : Int → Int → Bool) : D → D → R D
  | .int i, .int j => .ok (.bool (p i j))
  | _, _ => .bad
def strLt (x y : Str) : Bool := decide (x.cps.toList < y.cps.toList)
def oLt : D → D → R D
  | .int i, .int j => .ok (.bool (decide (i < j)))
  | .str i, .str j => .ok (.bool (strLt i j))
  | _, _ => .bad
def oLe : D → D → R D := oCmp fun i j => decide (i ≤ j)
def oGt : D → D → R D := oCmp fun i j => decide (j < i)
def oGe : D → D → R D := oCmp fun i j => decide (j ≤ i)
def flatD : D → Bool
  | .none => true
  | .bool _ => true
  | .int _ => true
  | .str _ => true
  | _ => false
def eqF (d e : D) : Bool := PyData.eqv (toPy d) (toPy e)
/-- an item of a list or tuple of flat things -/
def inSeq (d : D) (xs : List D) : R Bool := if flatD d = true ∧ xs.all flatD = true then .ok (xs.any fun y => eqF y d) else .bad
def keyOf : D → Option Key
  | .int i => some (.inl i)
  | .str x => some (.inr x)
  | _ => none
def keysOf : List D → Option (List Key)
  | [] => some []
  | d :: ds => match keyOf d, keysOf ds with
    | some k, some ks => some (k :: ks)
    | _, _ => none
def getK {κ : Type} [DecidableEq κ] (kvs : List (κ × D)) (k : κ) : Option D := (kvs.find? fun kv => decide (kv.1 = k)).map (·.2)
def dGet : D → D → R (Option D)
  | .dict kvs, d => match keyOf d with
    | some k => .ok (getK kvs k)
    | none => .bad
  | .dictT kvs, .tuple ds => match keysOf ds with
    | some k => .ok (getK kvs k)
    | none => .bad
  | _, _ => .bad
def isIn (d e : D) : R Bool := match e with
  | .list xs => inSeq d xs
  | .tuple xs => inSeq d xs
  | .ftuple xs => inSeq d xs
  | .str y => match d with
    | .str x => match x.cps.toList with
      | [c] => .ok (decide (c ∈ y.cps.toList))
      | _ => .bad
    | _ => .bad
  | e => dGet e d >>= fun o => .ok o.isSome
def oIn (d e : D) : R D := isIn d e >>= fun b => .ok (.bool b)
def oNotIn (d e : D) : R D := isIn d e >>= fun b => .ok (.bool (!b))
def isNone : D → Bool
  | .none => true
  | _ => false
def oIs (d e : D) : R D := match e with
  | .none => .ok (.bool (isNone d))
  | _ => .bad
def oIsNot (d e : D) : R D := match e with
  | .none => .ok (.bool (!isNone d))
  | _ => .bad
section
variable {X : Cx} {W : WX}
theorem does_eq : Does2 X W (rEqD X.K) oEq := by
  intro G H σ Q d e v u s r1 r2 P
  unfold oEq at P
  split at P
  · rename_i h
    exact ⟨_, _, r1.dp s (SeqAt.canLay_of_shaped h.1), r2.dp s (SeqAt.canLay_of_shaped h.2), h.1, h.2, P.bool s⟩
  · exact False.elim P
theorem does_ne : Does2 X W (rNeD X.K) oNe := by
  intro G H σ Q d e v u s r1 r2 P
  unfold oNe at P
  split at P
  · rename_i h
    exact ⟨_, _, r1.dp s (SeqAt.canLay_of_shaped h.1), r2.dp s (SeqAt.canLay_of_shaped h.2), h.1, h.2, P.bool s⟩
  · exact False.elim P
theorem op_ltAll : OpR X (compareOp .Lt) (fun x y H Q => rI0 (fun i j => .bl (decide (i < j))) x y H Q ∨ ∃ i j, x = .str i ∧ y = .str j ∧ Q (.bl (decide (i.cps.toList < j.cps.toList))) H) := op_lt.or op_lt_str
theorem does_lt : Does2 X W (fun x y H Q => rI0 (fun i j => .bl (decide (i < j))) x y H Q ∨ ∃ i j, x = .str i ∧ y = .str j ∧ Q (.bl (decide (i.cps.toList < j.cps.toList))) H) oLt := by
  intro G H σ Q d e v u s r1 r2 P
  unfold oLt at P
  split at P
  · exact .inl ⟨_, _, r1.int, r2.int, P.bool s⟩
  · exact .inr ⟨_, _, r1.str, r2.str, P.bool s⟩
  · exact False.elim P
theorem does_cmp {p : Int → Int → Bool} : Does2 X W (rI0 fun i j => .bl (p i j)) (oCmp p) := by
  intro G H σ Q d e v u s r1 r2 P
  unfold oCmp at P
  split at P
  · exact ⟨_, _, r1.int, r2.int, P.bool s⟩
  · exact False.elim P
theorem does_is : Does2 X W (fun x y H Q => y = .non ∧ Q (.bl (decide (x = .non))) H) oIs := by
  intro G H σ Q d e v u s r1 r2 P
  unfold oIs at P
  split at P
  · refine ⟨r2.none, ?_⟩
    have q : isNone d = decide (v = .non) := by
      cases d with
      | none => rw [r1.none]; rfl
      | bool b => rw [r1.bool]; rfl
      | int b => rw [r1.int]; rfl
      | str b => rw [r1.str]; rfl
      | list b => obtain ⟨a, xs, rfl, _⟩ := r1.list s; rfl
      | flist b => obtain ⟨a, xs, rfl, _⟩ := r1.flist; rfl
      | tuple b => obtain ⟨a, xs, rfl, _⟩ := r1.tuple; rfl
      | ftuple b => obtain ⟨a, xs, rfl, _⟩ := r1.ftuple; rfl
      | dict b => obtain ⟨a, xs, rfl, _⟩ := r1.dict s; rfl
      | dictT b => obtain ⟨a, xs, rfl, _⟩ := r1.dictT s; rfl
      | inst C fs =>
        rcases r1 with r | ⟨a, e, n, o⟩
        · obtain ⟨a, dx, xs, rfl, _⟩ := Rep.inst_iff.mp r; rfl
        · exact False.elim o
    rw [← q]
    exact P.bool s
  · exact False.elim P
theorem does_isNot : Does2 X W (fun x y H Q => y = .non ∧ Q (.bl (!decide (x = .non))) H) oIsNot := by
  intro G H σ Q d e v u s r1 r2 P
  unfold oIsNot at P
  split at P
  · have z := does_is (X := X) (W := W) (σ := σ) (Q := fun v H => v = .bl (isNone d) ∧ H = H) s r1 r2 (by unfold oIs; exact fun v G' H' _ r => ⟨Rep.bool_iff.mp r, rfl⟩)
    obtain ⟨e1, e2, _⟩ := z
    refine ⟨e1, ?_⟩
    have e3 : decide (v = .non) = isNone d := V.bl.inj e2
    rw [e3]
    exact P.bool s
  · exact False.elim P
end
end PL
end S2
noncomputable section S3
namespace PL
open PySem PySem.Spec PyProof.Rows L2

section
variable {K : PySem.W.Frag} {G H : Hp}
theorem keyOf_rep {d : D} {k : Key} {v : V} (e : keyOf d = some k) (r : Rep K G d v) : v = kV k := by
  unfold keyOf at e
  split at e
  · cases e; exact Rep.int_iff.mp r
  · cases e; exact Rep.str_iff.mp r
  · cases e
theorem keyOf_flat {d : D} {k : Key} {v : V} (e : keyOf d = some k) (r : RB K G H d v) : v = kV k := by
  unfold keyOf at e
  split at e
  · cases e; exact r.int
  · cases e; exact r.str
  · cases e
theorem keysOf_rep : ∀ {ds : List D} {ks : List Key} {vs : List V}, keysOf ds = some ks → RepAll K G ds vs → vs = ks.map kV
  | [], _, _, e, r => by cases e; exact RepAll.nil_iff.mp r
  | d :: ds, ks, vs, e, r => by
    obtain ⟨v, ws, rfl, h, t⟩ := RepAll.cons_iff.mp r
    unfold keysOf at e
    split at e
    · rename_i k ks' h1 h2
      cases e
      rw [keyOf_rep h1 h, keysOf_rep h2 t]; rfl
    · cases e
theorem getK_nil {κ : Type} [DecidableEq κ] (k : κ) : getK ([] : List (κ × D)) k = none := rfl
theorem getK_cons {κ : Type} [DecidableEq κ] (k k' : κ) (d : D) (r : List (κ × D)) : getK ((k', d) :: r) k = if k' = k then some d else getK r k := by
  unfold getK
  rw [List.find?_cons]
  by_cases h : k' = k
  · simp [h]
  · simp [h]
/-- two answers of one look -/
def RepO (K : PySem.W.Frag) (G : Hp) : Option D → Option V → Prop
  | some d, some v => Rep K G d v
  | none, none => True
  | _, _ => False
theorem RepK.val (k : Key) : ∀ {ds : List (Key × D)} {xs : List (Key × V)}, RepK K G ds xs → RepO K G (getK ds k) (valV xs k)
  | [], _, r => by rw [RepK] at r; subst r; trivial
  | (k', d) :: ds, _, r => by
    obtain ⟨v, vs, rfl, h, t⟩ := RepK.cons_iff.mp r
    rw [getK_cons]
    by_cases e : k' = k
    · rw [if_pos e, valV_pos e]; exact h
    · rw [if_neg e, valV_neg e]; exact RepK.val k t
theorem RepT.val (k : List Key) : ∀ {ds : List (List Key × D)} {xs : List (List Key × V)}, RepT K G ds xs → RepO K G (getK ds k) (valV xs k)
  | [], _, r => by rw [RepT] at r; subst r; trivial
  | (k', d) :: ds, _, r => by
    obtain ⟨v, vs, rfl, h, t⟩ := RepT.cons_iff.mp r
    rw [getK_cons]
    by_cases e : k' = k
    · rw [if_pos e, valV_pos e]; exact h
    · rw [if_neg e, valV_neg e]; exact RepT.val k t
/-- what a dict holds -/
theorem dGet_at {d e : D} {v u : V} {o : Option D} (s : Sub G H) (rd : RB K G H d v) (re : RB K G H e u) (h : dGet d e = .ok o) : ∃ a r, v = .ref a ∧ DGet H a u r ∧ RepO K G o r := by
  unfold dGet at h
  split at h
  · rename_i kvs e
    split at h
    · rename_i k hk
      obtain ⟨a, xs, rfl, ha, ra⟩ := rd.dict s
      cases h
      exact ⟨a, _, rfl, .inl ⟨xs, k, ha, keyOf_flat hk re, rfl⟩, ra.val k⟩
    · cases h
  · rename_i kvs ds
    split at h
    · rename_i k hk
      obtain ⟨a, xs, rfl, ha, ra⟩ := rd.dictT s
      obtain ⟨b, ys, rfl, hb, rb⟩ := re.tuple
      have q := keysOf_rep hk rb
      subst q
      cases h
      exact ⟨a, _, rfl, .inr ⟨xs, k, b, ha, rfl, s _ _ hb, rfl⟩, ra.val k⟩
    · cases h
  · cases h
theorem RepO.some_eq {o : Option D} {r : Option V} (h : RepO K G o r) : o.isSome = r.isSome := by
  cases o <;> cases r <;> first | rfl | exact False.elim h
end

section
variable {X : Cx} {W : WX}
def rDIn (n : Bool) : R2 := fun y x H Q => ∃ a o, x = .ref a ∧ DGet H a y o ∧ Q (.bl (if n = true then !o.isSome else o.isSome)) H
theorem op_dIn (hu : X.A.units + 64 < cLine) : OpR X (compareOp .In) (rDIn false) := by
  intro pins s σ H x y v u Q I r1 r2 h
  obtain ⟨a, o, rfl, g, q⟩ := h
  cases r2
  exact d_in (by omega) I g r1 fun s' I' => ⟨.bl o.isSome, H, I', rfl, q⟩
theorem op_dNotIn (hu : X.A.units + 64 < cLine) : OpR X (compareOp .NotIn) (rDIn true) := by
  intro pins s σ H x y v u Q I r1 r2 h
  obtain ⟨a, o, rfl, g, q⟩ := h
  cases r2
  exact d_notIn (by omega) I g r1 fun s' I' => ⟨.bl (!o.isSome), H, I', rfl, q⟩
def rSign (n : Bool) : R2 := fun x y H Q => ∃ (c : Nat) (z : Str), x = .str ⟨#[c]⟩ ∧ y = .str z ∧ Q (.bl (if n = true then !decide (c ∈ z.cps.toList) else decide (c ∈ z.cps.toList))) H
def rInAll (K : PySem.W.Frag) (n : Bool) : R2 := fun x y H Q => rIn K n x y H Q ∨ (rSign n x y H Q ∨ rDIn n x y H Q)
theorem op_inAll (hu : X.A.units + 64 < cLine) : OpR X (compareOp .In) (rInAll X.K false) := op_in_seq.or ((op_in_sign).or (op_dIn hu))
theorem op_notInAll (hu : X.A.units + 64 < cLine) : OpR X (compareOp .NotIn) (rInAll X.K true) := op_notIn_seq.or ((op_notIn_sign).or (op_dNotIn hu))
theorem flatD_rep {K : PySem.W.Frag} {G H : Hp} {d : D} {v : V} (f : flatD d = true) (r : RB K G H d v) : flatV v = true := by
  cases d with
  | none => rw [r.none]; rfl
  | bool b => rw [r.bool]; rfl
  | int b => rw [r.int]; rfl
  | str b => rw [r.str]; rfl
  | _ => cases f
theorem eqF_rep {K : PySem.W.Frag} {G H : Hp} {d e : D} {v u : V} (f : flatD d = true) (g : flatD e = true) (r : RB K G H d v) (q : RB K G H e u) : eqV v u = eqF d e := by
  unfold eqF
  cases d with
  | none => cases e with
    | none => rw [r.none, q.none]; rfl
    | bool b => rw [r.none, q.bool]; rfl
    | int b => rw [r.none, q.int]; rfl
    | str b => rw [r.none, q.str]; rfl
    | _ => cases g
  | bool c => cases e with
    | none => rw [r.bool, q.none]; rfl
    | bool b => rw [r.bool, q.bool]; rfl
    | int b => rw [r.bool, q.int]; rfl
    | str b => rw [r.bool, q.str]; rfl
    | _ => cases g
  | int c => cases e with
    | none => rw [r.int, q.none]; rfl
    | bool b => rw [r.int, q.bool]; rfl
    | int b => rw [r.int, q.int]; rfl
    | str b => rw [r.int, q.str]; rfl
    | _ => cases g
  | str c => cases e with
    | none => rw [r.str, q.none]; rfl
    | bool b => rw [r.str, q.bool]; rfl
    | int b => rw [r.str, q.int]; rfl
    | str b => rw [r.str, q.str]; rfl
    | _ => cases g
  | _ => cases f
theorem inSeq_rep {K : PySem.W.Frag} {G H : Hp} {d : D} {v : V} (f : flatD d = true) (r : RB K G H d v) : ∀ {ds : List D} {vs : List V}, ds.all flatD = true → RepAll K G ds vs → vs.all flatV = true ∧ inV v vs = ds.any fun y => eqF y d
  | [], _, _, t => by rw [RepAll.nil_iff.mp t]; exact ⟨rfl, rfl⟩
  | e :: ds, _, g, t => by
    obtain ⟨u, us, rfl, h, t⟩ := RepAll.cons_iff.mp t
    rw [List.all_cons, Bool.and_eq_true] at g
    obtain ⟨a1, a2⟩ := inSeq_rep f r g.2 t
    refine ⟨?_, ?_⟩
    · rw [List.all_cons, a1, flatD_rep (H := H) g.1 (.inl h)]; rfl
    · unfold inV at a2 ⊢
      rw [List.any_cons, List.any_cons, a2, eqF_rep g.1 f (.inl h) r]
theorem does_in1 {n : Bool} : Does2 X W (rInAll X.K n) (fun d e => isIn d e >>= fun b => .ok (.bool (if n = true then !b else b))) := by
  intro G H σ Q d e v u s r1 r2 P
  have seq : ∀ (xs : List D) (us : List V) (p : Addr), u = .ref p → (SqL X.K H p us ∨ SqT X.K H p us) → RepAll X.K G xs us → Post G H W σ (RV X.K) (inSeq d xs >>= fun b => .ok (.bool (if n = true then !b else b))) Q → rInAll X.K n v u H Q := by
    intro xs us p e hs hr P
    unfold inSeq at P
    split at P
    · rename_i h
      obtain ⟨a1, a2⟩ := inSeq_rep h.1 r1 h.2 hr
      refine .inl ⟨p, us, e, hs, flatD_rep h.1 r1, a1, ?_⟩
      have P' := P.bool s
      rw [← a2] at P'
      exact P'
    · exact False.elim P
  have dic : ∀ (f : D), RB X.K G H f u → Post G H W σ (RV X.K) ((dGet f d >>= fun o => R.ok o.isSome) >>= fun b => .ok (.bool (if n = true then !b else b))) Q → rInAll X.K n v u H Q := by
    intro f hf P
    cases hg : dGet f d with
    | ok o =>
      rw [hg] at P
      obtain ⟨a, r, eu, g, ro⟩ := dGet_at s hf r1 hg
      refine .inr (.inr ⟨a, r, eu, g, ?_⟩)
      rw [← ro.some_eq]
      exact P.bool s
    | exc C =>
      exfalso
      unfold dGet at hg
      split at hg
      · split at hg <;> cases hg
      · split at hg <;> cases hg
      · cases hg
    | bad => rw [hg] at P; exact False.elim P
  change Post G H W σ (RV X.K) (isIn d e >>= fun b => R.ok (D.bool (if n = true then !b else b))) Q at P
  unfold isIn at P
  cases e with
  | list xs => obtain ⟨a, us, e, h, r⟩ := r2.list s; exact seq xs us a e (.inl (.of h)) r P
  | tuple xs => obtain ⟨a, us, e, h, r⟩ := r2.tuple; exact seq xs us a e (.inr (.of (s _ _ h))) r P
  | ftuple xs => obtain ⟨a, us, e, h, r⟩ := r2.ftuple; exact seq xs us a e (.inr (s.sqT h)) r P
  | str y =>
    cases d with
    | str x =>
      simp only at P
      split at P
      · rename_i c hc
        refine .inr (.inl ⟨c, y, ?_, r2.str, P.bool s⟩)
        rw [r1.str]
        have q : x.cps = #[c] := by rw [← Array.toList_inj]; exact hc
        cases x
        simp only at q
        rw [q]
      · exact False.elim P
    | _ => exact False.elim P
  | none => exact dic _ r2 P
  | bool b => exact dic _ r2 P
  | int b => exact dic _ r2 P
  | flist b => exact dic _ r2 P
  | dict b => exact dic _ r2 P
  | dictT b => exact dic _ r2 P
  | inst C b => exact dic _ r2 P
theorem does_in : Does2 X W (rInAll X.K false) oIn := does_in1 (n := false)
theorem does_notIn : Does2 X W (rInAll X.K true) oNotIn := does_in1 (n := true)
end

def itemOf : D → D → R D
  | .list xs, .int i => match atI xs i with | some d => .ok d | none => .bad
  | .flist xs, .int i => match atI xs i with | some d => .ok d | none => .bad
  | .tuple xs, .int i => match atI xs i with | some d => .ok d | none => .bad
  | .ftuple xs, .int i => match atI xs i with | some d => .ok d | none => .bad
  | .str x, .int i => if x.length ≤ lim then (match atI x.cps.toList i with | some c => .ok (.str ⟨#[c]⟩) | none => .bad) else .bad
  | d, e => dGet d e >>= fun o => match o with | some d => .ok d | none => .bad
section
variable {X : Cx} {W : WX}
theorem atI_rep {K : PySem.W.Frag} {G : Hp} {ds : List D} {vs : List V} {i : Int} {d : D} (r : RepAll K G ds vs) (h : atI ds i = some d) : ∃ v, atI vs i = some v ∧ Rep K G d v := by
  unfold atI at h ⊢
  rw [r.length]
  cases e : ixN ds.length i with
  | none => rw [e] at h; cases h
  | some j =>
    rw [e] at h
    exact r.get h
def rDGet : R2 := fun x y H Q => ∃ a v, x = .ref a ∧ DGet H a y (some v) ∧ Q v H
theorem ix_dict (hu : X.A.units + 64 < cLine) : IxR X rDGet := by
  intro value slice pins s σ H x y v u Q I rx ry h hs
  obtain ⟨a, w, rfl, g, q⟩ := h
  cases rx
  have ty : s.TypeIs (.ref a) "dict" := dict_typeIs I g
  refine tail_any (ops := [.ref a, u]) ty (PySem.F.slot_dict_getitem.lookup) ?_ (by rw [hs])
  exact d_getItem (by omega) I g ry fun w' s' I' rw' => ⟨w, H, I', rw', q⟩
end
end PL
end S3
noncomputable section S4
namespace PL
open PySem PySem.Spec PyProof.Rows L2
section
variable {X : Cx} {W : WX} {a b e : Expr} {es : List Expr} {f g : Cells → R D} {pos : Pos}
def rItem (K : PySem.W.Frag) : R2 := fun x y H Q => rIx K x y H Q ∨ rDGet x y H Q
theorem ix_all (hu : X.A.units + 64 < cLine) : IxR X (rItem X.K) := ix_seq.or (ix_dict hu)
theorem does_item : Does2 X W (rItem X.K) itemOf := by
  intro G H σ Q d e v u s r1 r2 P
  unfold itemOf at P
  split at P
  · rename_i xs i
    obtain ⟨a, ws, rfl, h, r⟩ := r1.list s
    split at P
    · rename_i d hd
      obtain ⟨w, e1, r'⟩ := atI_rep r hd
      exact .inl (.inl ⟨a, ws, i, w, rfl, r2.int, .of h, e1, P.here s r'⟩)
    · exact False.elim P
  · rename_i xs i
    obtain ⟨a, ws, rfl, h, r⟩ := r1.flist
    split at P
    · rename_i d hd
      obtain ⟨w, e1, r'⟩ := atI_rep r hd
      exact .inl (.inl ⟨a, ws, i, w, rfl, r2.int, s.sqL h, e1, P.here s r'⟩)
    · exact False.elim P
  · rename_i xs i
    obtain ⟨a, ws, rfl, h, r⟩ := r1.tuple
    split at P
    · rename_i d hd
      obtain ⟨w, e1, r'⟩ := atI_rep r hd
      exact .inl (.inr (.inl ⟨a, ws, i, w, rfl, r2.int, .of (s _ _ h), e1, P.here s r'⟩))
    · exact False.elim P
  · rename_i xs i
    obtain ⟨a, ws, rfl, h, r⟩ := r1.ftuple
    split at P
    · rename_i d hd
      obtain ⟨w, e1, r'⟩ := atI_rep r hd
      exact .inl (.inr (.inl ⟨a, ws, i, w, rfl, r2.int, s.sqT h, e1, P.here s r'⟩))
    · exact False.elim P
  · rename_i x i
    split at P
    · rename_i hl
      split at P
      · rename_i c hc
        exact .inl (.inr (.inr ⟨x, i, c, r1.str, r2.int, lim_le hl, hc, P.str s⟩))
      · exact False.elim P
    · exact False.elim P
  · cases hg : dGet d e with
    | ok o =>
      rw [hg] at P
      obtain ⟨a, r, eu, g, ro⟩ := dGet_at s r1 r2 hg
      cases o with
      | none => exact False.elim P
      | some d' =>
        cases r with
        | none => exact False.elim ro
        | some w => exact .inr ⟨a, w, eu, g, P.here s ro⟩
    | exc C =>
      exfalso
      unfold dGet at hg
      split at hg
      · split at hg <;> cases hg
      · split at hg <;> cases hg
      · cases hg
    | bad => rw [hg] at P; exact False.elim P
theorem ev_item (hu : X.A.units + 64 < cLine) (ha : EB X W a f) (hb : EB X W b g) (hs : PlainIx b) : EV X W (.Subscript a b pos) (lift2 itemOf f g) :=
  PE.imp (pe_ix (ix_all hu) ha hb hs) fun σ H Q q => run2 (ta := tG X.K W (fun _ => RB X.K) f) (tb := tG X.K W (fun _ => RB X.K) g) does_item q

def cut {α : Type} (xs : List α) (lo hi : Option Int) : List α := (xs.drop (HT.sIx xs.length 0 lo)).take (HT.sIx xs.length xs.length hi - HT.sIx xs.length 0 lo)
theorem cut_rep {K : PySem.W.Frag} {G : Hp} {ds : List D} {vs : List V} (r : RepAll K G ds vs) (lo hi : Option Int) : RepAll K G (cut ds lo hi) (cutV vs lo hi) := by
  unfold cut cutV
  rw [r.length]
  exact (r.drop _).take _
abbrev EO (X : Cx) (W : WX) (e : Option Expr) (f : Cells → R (Option Int)) : Prop := PO X e (tG X.K W (fun _ _ _ a b => a = b) f)
def asI : D → R Int
  | .int i => .ok i
  | _ => .bad
theorem PO.imp {X : Cx} {e : Option Expr} {t t' : TO} (h : PO X e t) (i : ∀ σ H Q, t' σ H Q → t σ H Q) : PO X e t' := ⟨fun pins s σ H Q I q => h.run pins s σ H Q I (i σ H Q q)⟩
theorem eo_none : EO X W none (fun _ => .ok none) := PO.imp po_none fun σ H Q ⟨G, env, S, P⟩ => P none G H (.refl S.sub) rfl
theorem eo_some (h : EB X W e f) : EO X W (some e) (fun c => f c >>= fun d => asI d >>= fun i => .ok (some i)) := PO.imp (po_some h) fun σ H Q ⟨G, env, S, P⟩ => by
  refine ⟨G, env, S, Post.seq (Rel1 := RB X.K) (x := f env) (k := fun d => asI d >>= fun i => .ok (some i)) P fun d v G1 H1 _ s r P1 => ?_⟩
  cases d with
  | int i => exact ⟨i, r.int, P1 (some i) G1 H1 (.refl s.sub) rfl⟩
  | _ => exact False.elim P1
def oSlice (d : D) (lo hi : Option Int) : R D := match d with
  | .list xs => .ok (.list (cut xs lo hi))
  | .flist xs => .ok (.list (cut xs lo hi))
  | .tuple xs => .ok (.tuple (cut xs lo hi))
  | _ => .bad
theorem sl_all : SlR X (fun x lo hi H Q => rSlL X.K x lo hi H Q ∨ rSlA X.K x lo hi H Q) := sl_list.or sl_tupA
theorem does_slice {G H : Hp} {σ : L2.St} {Q : VK} {d : D} {v : V} {lo hi : Option Int} (s : Sub G H) (r1 : RB X.K G H d v) (P : Post G H W σ (RV X.K) (oSlice d lo hi) Q) : rSlL X.K v lo hi H Q ∨ rSlA X.K v lo hi H Q := by
  unfold oSlice at P
  split at P
  · obtain ⟨a, ws, rfl, h, r⟩ := r1.list s
    exact .inl ⟨a, ws, rfl, .of h, fun p n => P.newL s (cut_rep r lo hi) n⟩
  · obtain ⟨a, ws, rfl, h, r⟩ := r1.flist
    exact .inl ⟨a, ws, rfl, s.sqL h, fun p n => P.newL s (cut_rep r lo hi) n⟩
  · rename_i xs
    obtain ⟨a, ws, rfl, h, r⟩ := r1.tuple
    refine .inr ⟨a, ws, rfl, .of (s _ _ h), fun hw => ?_, fun _ p n => P.newT s (cut_rep r lo hi) n⟩
    have e : cut xs lo hi = xs := by
      unfold cut
      rw [← r.length, hw.1, hw.2]
      simp [r.length]
    rw [e] at P
    exact P.here s (Rep.tuple_iff.mpr ⟨a, ws, rfl, h, r⟩)
  · exact False.elim P
theorem ev_slice {lo hi : Option Expr} {fl fh : Cells → R (Option Int)} {p2 : Pos} (he : EB X W e f) (hl : EO X W lo fl) (hh : EO X W hi fh) : EV X W (.Subscript e (.Slice lo hi none p2) pos) (fun c => f c >>= fun d => fl c >>= fun l => fh c >>= fun h => oSlice d l h) :=
  PE.imp (pe_slice sl_all he hl hh) fun σ H Q ⟨G, env, S, P⟩ => by
    refine ⟨G, env, S, Post.seq (Rel1 := RB X.K) (x := f env) (k := fun d => fl env >>= fun l => fh env >>= fun h => oSlice d l h) P fun d v G1 H1 _ s1 r1 P1 => ?_⟩
    refine ⟨G1, env, S.step s1, Post.seq (Rel1 := fun _ _ a b => a = b) (x := fl env) (k := fun l => fh env >>= fun h => oSlice d l h) P1 fun l l' G2 H2 _ s2 r2 P2 => ?_⟩
    refine ⟨G2, env, (S.step s1).step s2, Post.seq (Rel1 := fun _ _ a b => a = b) (x := fh env) (k := fun h => oSlice d l h) P2 fun h h' G3 H3 _ s3 r3 P3 => ?_⟩
    subst r2 r3
    exact does_slice s3.sub ((r1.step s2).step s3) P3

theorem ea_nil : EA X W [] (fun _ => .ok []) := PA.imp pa_nil fun σ H Q ⟨G, env, S, P⟩ => P [] G H (.refl S.sub) .nil
theorem ea_cons {g : Cells → R (List D)} (ha : EV X W e f) (hr : EA X W es g) (hs : starEach (e :: es) X.env = (false, eval e X.env) :: starEach es X.env) : EA X W (e :: es) (fun c => f c >>= fun d => g c >>= fun ds => .ok (d :: ds)) :=
  PA.imp (pa_cons ha hr hs) fun σ H Q ⟨G, env, S, P⟩ => by
    refine ⟨G, env, S, Post.seq (Rel1 := RV X.K) (x := f env) (k := fun d => g env >>= fun ds => R.ok (d :: ds)) P fun d v G1 H1 _ s1 r1 P1 => ?_⟩
    refine ⟨G1, env, S.step s1, Post.seq (Rel1 := RA X.K) (x := g env) (k := fun ds => R.ok (d :: ds)) P1 fun ds vs G2 H2 _ s2 r2 P2 => ?_⟩
    exact P2 (v :: vs) G2 H2 (.refl s2.sub) (.cons (r1.mono s2.le) r2)
theorem eab_nil : EAB X W [] (fun _ => .ok []) := PA.imp pa_nil fun σ H Q ⟨G, env, S, P⟩ => P [] G H (.refl S.sub) .nil
theorem eab_cons {g : Cells → R (List D)} (ha : EB X W e f) (hr : EAB X W es g) (hs : starEach (e :: es) X.env = (false, eval e X.env) :: starEach es X.env) : EAB X W (e :: es) (fun c => f c >>= fun d => g c >>= fun ds => .ok (d :: ds)) :=
  PA.imp (pa_cons ha hr hs) fun σ H Q ⟨G, env, S, P⟩ => by
    refine ⟨G, env, S, Post.seq (Rel1 := RB X.K) (x := f env) (k := fun d => g env >>= fun ds => R.ok (d :: ds)) P fun d v G1 H1 _ s1 r1 P1 => ?_⟩
    refine ⟨G1, env, S.step s1, Post.seq (Rel1 := RBs X.K) (x := g env) (k := fun ds => R.ok (d :: ds)) P1 fun ds vs G2 H2 _ s2 r2 P2 => ?_⟩
    exact P2 (v :: vs) G2 H2 (.refl s2.sub) (.cons (r1.step s2) r2)
def mkTup (ds : List D) : R D := if ds.length ≤ lim then .ok (.tuple ds) else .bad
def mkLst (ds : List D) : R D := if ds.length ≤ lim then .ok (.list ds) else .bad
theorem ev_tup {x1} {g : Cells → R (List D)} (h : EA X W es g) : EV X W (.Tuple es x1 pos) (fun c => g c >>= mkTup) := PE.imp (pe_tup h) fun σ H Q ⟨G, env, S, P⟩ => by
  refine ⟨G, env, S, Post.seq (Rel1 := RA X.K) (x := g env) (k := mkTup) P fun ds vs G1 H1 _ s1 r1 P1 => ?_⟩
  unfold mkTup at P1
  split at P1
  · rename_i hl
    exact ⟨lim_le (by rw [r1.length]; exact hl), fun p n => P1.newT s1.sub r1 n⟩
  · exact False.elim P1
theorem el_lst {g : Cells → R (List D)} (h : EA X W es g) : EL X W (.List es pos) (fun c => g c >>= mkLst) := PE.imp (pe_lst h) fun σ H Q ⟨G, env, S, P⟩ => by
  refine ⟨G, env, S, Post.seq (Rel1 := RA X.K) (x := g env) (k := mkLst) P fun ds vs G1 H1 _ s1 r1 P1 => ?_⟩
  unfold mkLst at P1
  split at P1
  · rename_i hl
    exact ⟨lim_le (by rw [r1.length]; exact hl), fun p n => Post.newLo P1 s1.sub r1 n (s1.keep.free n)⟩
  · exact False.elim P1
theorem el_dictK : EL X W (.Dict [] [] pos) (fun _ => .ok (.dict [])) := PE.imp pe_dnewK fun σ H Q ⟨G, env, S, P⟩ p n => by
  refine P _ G (upd H p (.dK [])) (Stp.made S.sub n) ⟨p, rfl, n, ?_, [], upd_same, .nil⟩
  cases q : G p with
  | none => rfl
  | some u => rw [S.sub _ _ q] at n; cases n
theorem el_dictT : EL X W (.Dict [] [] pos) (fun _ => .ok (.dictT [])) := PE.imp pe_dnewT fun σ H Q ⟨G, env, S, P⟩ p n => by
  refine P _ G (upd H p (.dT [])) (Stp.made S.sub n) ⟨p, rfl, n, ?_, [], upd_same, .nil⟩
  cases q : G p with
  | none => rfl
  | some u => rw [S.sub _ _ q] at n; cases n

def DoesC (X : Cx) (W : WX) (r : List V → Hp → VK → Prop) (o : List D → R D) : Prop := ∀ {G H : Hp} {σ : L2.St} {Q : VK} {ds : List D} {vs : List V}, Sub G H → RBs X.K G H ds vs → Post G H W σ (RV X.K) (o ds) Q → r vs H Q
theorem ev_callB {id : String} {r : List V → Hp → VK → Prop} {o : List D → R D} {g : Cells → R (List D)} {x : Str} {p : Pos} (hc : CallR X (.builtin id) r) (hr : DoesC X W r o) (hg : Gl X x) (hm : X.mg x = none) (hv : bootBuiltins x = some (.builtin id)) (ha : EAB X W (e :: es) g)
    (hn : x ≠ "__name__") (hdb : (x == ("__debug__" : Str)) = false) (he : starEach (e :: es) X.env = (false, eval e X.env) :: starEach es X.env) (hpl : (backTo pos (starEach es X.env)).any (·.1) = false) : EV X W (.Call (.Name x p) (e :: es) [] pos) (fun c => g c >>= o) :=
  PE.imp (pe_callB hc hg hm hv ha hn hdb he hpl) fun σ H Q ⟨G, env, S, P⟩ => by
    refine ⟨G, env, S, Post.seq (Rel1 := RBs X.K) (x := g env) (k := o) P fun ds vs G1 H1 _ s1 r1 P1 => ?_⟩
    exact hr s1.sub r1 P1
theorem ev_callTy {id : String} {r : List V → Hp → VK → Prop} {o : List D → R D} {g : Cells → R (List D)} {x : Str} {p : Pos} (hc : CallR X (.type id) r) (hr : DoesC X W r o) (hg : Gl X x) (hm : X.mg x = none) (hv : bootBuiltins x = some (.type id)) (ha : EAB X W (e :: es) g)
    (hn : x ≠ "__name__") (hdb : (x == ("__debug__" : Str)) = false) (he : starEach (e :: es) X.env = (false, eval e X.env) :: starEach es X.env) (hpl : (backTo pos (starEach es X.env)).any (·.1) = false) : EV X W (.Call (.Name x p) (e :: es) [] pos) (fun c => g c >>= o) :=
  PE.imp (pe_callTy hc hg hm hv ha hn hdb he hpl) fun σ H Q ⟨G, env, S, P⟩ => by
    refine ⟨G, env, S, Post.seq (Rel1 := RBs X.K) (x := g env) (k := o) P fun ds vs G1 H1 _ s1 r1 P1 => ?_⟩
    exact hr s1.sub r1 P1
end
end PL
end S4
noncomputable section S5
namespace PL
open PySem PySem.Spec PyProof.Rows L2
section
variable {X : Cx} {W : WX}
theorem RBs.one {K : PySem.W.Frag} {G H : Hp} {d : D} {vs : List V} (r : RBs K G H [d] vs) : ∃ v, vs = [v] ∧ RB K G H d v := by
  cases r with
  | cons h t => cases t; exact ⟨_, rfl, h⟩
theorem RBs.two {K : PySem.W.Frag} {G H : Hp} {d e : D} {vs : List V} (r : RBs K G H [d, e] vs) : ∃ v u, vs = [v, u] ∧ RB K G H d v ∧ RB K G H e u := by
  cases r with
  | cons h t =>
    cases t with
    | cons h2 t2 => cases t2; exact ⟨_, _, rfl, h, h2⟩

def oLen : List D → R D
  | [.str x] => if x.length ≤ lim then .ok (.int x.length) else .bad
  | [.list xs] => .ok (.int xs.length)
  | [.flist xs] => .ok (.int xs.length)
  | [.tuple xs] => .ok (.int xs.length)
  | [.ftuple xs] => .ok (.int xs.length)
  | [.dict xs] => .ok (.int xs.length)
  | _ => .bad
def rLenAll (K : PySem.W.Frag) : List V → Hp → VK → Prop := fun xs H Q => (∃ x n, xs = [x] ∧ LenV K x H n ∧ Q (.int n) H) ∨ ∃ a kvs, xs = [V.ref a] ∧ Rd H a (.dK kvs) ∧ Q (.int kvs.length) H
theorem call_lenAll : CallR X (.builtin "len") (rLenAll X.K) := by
  intro pins s σ H xs us Q I r h
  rcases h with h | ⟨a, kvs, rfl, ha, q⟩
  · exact call_len pins s σ H xs us Q I r h
  · obtain ⟨u, rfl, ru⟩ := vals1 r
    cases ru
    exact d_len I ha fun t s' I' => ⟨.int kvs.length, H, I', ⟨t, rfl⟩, q⟩
theorem RepK.length {K : PySem.W.Frag} {G : Hp} : ∀ {ds : List (Key × D)} {xs : List (Key × V)}, RepK K G ds xs → xs.length = ds.length
  | [], _, h => by rw [RepK] at h; subst h; rfl
  | (k, d) :: ds, _, h => by
    obtain ⟨v, vs, rfl, _, t⟩ := RepK.cons_iff.mp h
    simp [RepK.length t]
theorem does_len : DoesC X W (rLenAll X.K) oLen := by
  intro G H σ Q ds vs s r P
  unfold oLen at P
  split at P
  · obtain ⟨v, rfl, q⟩ := r.one
    split at P
    · rename_i h
      rw [q.str]
      exact .inl ⟨_, _, rfl, ⟨lim_le h, rfl⟩, P.int s⟩
    · exact False.elim P
  · obtain ⟨v, rfl, q⟩ := r.one
    obtain ⟨a, xs, rfl, h, t⟩ := q.list s
    exact .inl ⟨_, _, rfl, .inl ⟨xs, .of h, rfl⟩, by rw [t.length]; exact P.int s⟩
  · obtain ⟨v, rfl, q⟩ := r.one
    obtain ⟨a, xs, rfl, h, t⟩ := q.flist
    exact .inl ⟨_, _, rfl, .inl ⟨xs, s.sqL h, rfl⟩, by rw [t.length]; exact P.int s⟩
  · obtain ⟨v, rfl, q⟩ := r.one
    obtain ⟨a, xs, rfl, h, t⟩ := q.tuple
    exact .inl ⟨_, _, rfl, .inr ⟨xs, .of (s _ _ h), rfl⟩, by rw [t.length]; exact P.int s⟩
  · obtain ⟨v, rfl, q⟩ := r.one
    obtain ⟨a, xs, rfl, h, t⟩ := q.ftuple
    exact .inl ⟨_, _, rfl, .inr ⟨xs, s.sqT h, rfl⟩, by rw [t.length]; exact P.int s⟩
  · obtain ⟨v, rfl, q⟩ := r.one
    obtain ⟨a, xs, rfl, h, t⟩ := q.dict s
    exact .inr ⟨a, xs, rfl, h, by rw [t.length]; exact P.int s⟩
  · exact False.elim P

def oAbs : List D → R D
  | [.int i] => .ok (.int (if i < 0 then -i else i))
  | _ => .bad
theorem does_abs : DoesC X W (fun xs H Q => ∃ i, xs = [.int i] ∧ Q (.int (if i < 0 then -i else i)) H) oAbs := by
  intro G H σ Q ds vs s r P
  unfold oAbs at P
  split at P
  · obtain ⟨v, rfl, q⟩ := r.one
    exact ⟨_, by rw [q.int], P.int s⟩
  · exact False.elim P
def maxI (ns : List Int) : Int := ns.foldl (fun a b => if b > a then b else a) (ns.headD 0)
def minI (ns : List Int) : Int := ns.foldl (fun a b => if b < a then b else a) (ns.headD 0)
def intsOf : List D → Option (List Int)
  | [] => some []
  | .int i :: ds => (intsOf ds).map (i :: ·)
  | _ :: _ => none
def boolsOf : List D → Option (List Bool)
  | [] => some []
  | .bool i :: ds => (boolsOf ds).map (i :: ·)
  | _ :: _ => none
theorem intsOf_eq : ∀ {ds : List D} {ns : List Int}, intsOf ds = some ns → ds = ns.map D.int
  | [], _, h => by cases h; rfl
  | d :: ds, ns, h => by
    unfold intsOf at h
    split at h
    · rename_i heq; cases heq
    · rename_i heq
      cases heq
      cases e : intsOf ds with
      | none => rw [e] at h; cases h
      | some ms =>
        rw [e] at h
        cases h
        rw [intsOf_eq e]; rfl
    · cases h
theorem intsOf_map : ∀ ns : List Int, intsOf (ns.map D.int) = some ns
  | [] => rfl
  | n :: ns => by rw [List.map_cons, intsOf, intsOf_map ns]; rfl
theorem boolsOf_eq : ∀ {ds : List D} {ns : List Bool}, boolsOf ds = some ns → ds = ns.map D.bool
  | [], _, h => by cases h; rfl
  | d :: ds, ns, h => by
    unfold boolsOf at h
    split at h
    · rename_i heq; cases heq
    · rename_i heq
      cases heq
      cases e : boolsOf ds with
      | none => rw [e] at h; cases h
      | some ms =>
        rw [e] at h
        cases h
        rw [boolsOf_eq e]; rfl
    · cases h
theorem boolsOf_map : ∀ ns : List Bool, boolsOf (ns.map D.bool) = some ns
  | [] => rfl
  | n :: ns => by rw [List.map_cons, boolsOf, boolsOf_map ns]; rfl
theorem foldMax : ∀ (ns : List Int) (a : Int), (ns.foldl (fun a b => if b > a then b else a) a = a ∨ ns.foldl (fun a b => if b > a then b else a) a ∈ ns) ∧ a ≤ ns.foldl (fun a b => if b > a then b else a) a ∧ ∀ y ∈ ns, y ≤ ns.foldl (fun a b => if b > a then b else a) a
  | [], a => ⟨.inl rfl, Int.le_refl _, fun _ h => by cases h⟩
  | n :: ns, a => by
    obtain ⟨h1, h2, h3⟩ := foldMax ns (if n > a then n else a)
    rw [List.foldl_cons]
    refine ⟨?_, ?_, fun y hy => ?_⟩
    · rcases h1 with h1 | h1
      · rw [h1]; split
        · exact .inr List.mem_cons_self
        · exact .inl rfl
      · exact .inr (List.mem_cons_of_mem _ h1)
    · refine Int.le_trans ?_ h2
      split <;> omega
    · rcases List.mem_cons.mp hy with rfl | hy
      · refine Int.le_trans ?_ h2
        split <;> omega
      · exact h3 y hy
theorem foldMin : ∀ (ns : List Int) (a : Int), (ns.foldl (fun a b => if b < a then b else a) a = a ∨ ns.foldl (fun a b => if b < a then b else a) a ∈ ns) ∧ ns.foldl (fun a b => if b < a then b else a) a ≤ a ∧ ∀ y ∈ ns, ns.foldl (fun a b => if b < a then b else a) a ≤ y
  | [], a => ⟨.inl rfl, Int.le_refl _, fun _ h => by cases h⟩
  | n :: ns, a => by
    obtain ⟨h1, h2, h3⟩ := foldMin ns (if n < a then n else a)
    rw [List.foldl_cons]
    refine ⟨?_, ?_, fun y hy => ?_⟩
    · rcases h1 with h1 | h1
      · rw [h1]; split
        · exact .inr List.mem_cons_self
        · exact .inl rfl
      · exact .inr (List.mem_cons_of_mem _ h1)
    · refine Int.le_trans h2 ?_
      split <;> omega
    · rcases List.mem_cons.mp hy with rfl | hy
      · refine Int.le_trans h2 ?_
        split <;> omega
      · exact h3 y hy
theorem maxI_spec {ns : List Int} (h : ns ≠ []) : maxI ns ∈ ns ∧ ∀ y ∈ ns, y ≤ maxI ns := by
  obtain ⟨h1, h2, h3⟩ := foldMax ns (ns.headD 0)
  refine ⟨?_, h3⟩
  rcases h1 with h1 | h1
  · unfold maxI; rw [h1]
    cases ns with
    | nil => exact absurd rfl h
    | cons n r => exact List.mem_cons_self
  · exact h1
theorem minI_spec {ns : List Int} (h : ns ≠ []) : minI ns ∈ ns ∧ ∀ y ∈ ns, minI ns ≤ y := by
  obtain ⟨h1, h2, h3⟩ := foldMin ns (ns.headD 0)
  refine ⟨?_, h3⟩
  rcases h1 with h1 | h1
  · unfold minI; rw [h1]
    cases ns with
    | nil => exact absurd rfl h
    | cons n r => exact List.mem_cons_self
  · exact h1
theorem max_unique {ns : List Int} {m m' : Int} (h : m ∈ ns) (h' : ∀ y ∈ ns, y ≤ m) (g : m' ∈ ns) (g' : ∀ y ∈ ns, y ≤ m') : m = m' := Int.le_antisymm (g' _ h) (h' _ g)
theorem min_unique {ns : List Int} {m m' : Int} (h : m ∈ ns) (h' : ∀ y ∈ ns, m ≤ y) (g : m' ∈ ns) (g' : ∀ y ∈ ns, m' ≤ y) : m = m' := Int.le_antisymm (h' _ g) (g' _ h)
/-- max, min: of two ints, of a list of ints -/
def oMax : List D → R D
  | [.int i, .int j] => .ok (.int (if j > i then j else i))
  | [.list xs] => match intsOf xs with
    | some ns => if ns = [] then .bad else .ok (.int (maxI ns))
    | none => .bad
  | _ => .bad
def oMin : List D → R D
  | [.int i, .int j] => .ok (.int (if j < i then j else i))
  | [.list xs] => match intsOf xs with
    | some ns => if ns = [] then .bad else .ok (.int (minI ns))
    | none => .bad
  | _ => .bad
theorem CallR.or {f : Value} {r r' : List V → Hp → VK → Prop} (h : CallR X f r) (h' : CallR X f r') : CallR X f (fun xs H Q => r xs H Q ∨ r' xs H Q) := by
  intro pins s σ H xs us Q I rv q
  rcases q with q | q
  · exact h pins s σ H xs us Q I rv q
  · exact h' pins s σ H xs us Q I rv q
theorem call_maxAll (hc : X.calm = true) : CallR X (.builtin "max") (fun xs H Q => (∃ i j, xs = [.int i, .int j] ∧ Q (.int (if j > i then j else i)) H) ∨ rMax X.K xs H Q) := CallR.or (call_max2 hc) (cr_max hc)
theorem call_minAll (hc : X.calm = true) : CallR X (.builtin "min") (fun xs H Q => (∃ i j, xs = [.int i, .int j] ∧ Q (.int (if j < i then j else i)) H) ∨ rMin X.K xs H Q) := CallR.or (call_min2 hc) (cr_min hc)
theorem does_max : DoesC X W (fun xs H Q => (∃ i j, xs = [.int i, .int j] ∧ Q (.int (if j > i then j else i)) H) ∨ rMax X.K xs H Q) oMax := by
  intro G H σ Q ds vs s r P
  unfold oMax at P
  split at P
  · obtain ⟨v, u, rfl, r1, r2⟩ := r.two
    exact .inl ⟨_, _, by rw [r1.int, r2.int], P.int s⟩
  · obtain ⟨v, rfl, q⟩ := r.one
    obtain ⟨a, ws, rfl, h, t⟩ := q.list s
    split at P
    · rename_i ns hn
      split at P
      · exact False.elim P
      · rename_i hne
        rw [intsOf_eq hn] at t
        refine .inr ⟨a, ns, rfl, .of (by rw [h, t.ints_inv]), List.length_pos_iff.mpr hne, fun m hm hle => ?_⟩
        have z := maxI_spec hne
        rw [max_unique hm hle z.1 z.2]
        exact P.int s
    · exact False.elim P
  · exact False.elim P
theorem does_min : DoesC X W (fun xs H Q => (∃ i j, xs = [.int i, .int j] ∧ Q (.int (if j < i then j else i)) H) ∨ rMin X.K xs H Q) oMin := by
  intro G H σ Q ds vs s r P
  unfold oMin at P
  split at P
  · obtain ⟨v, u, rfl, r1, r2⟩ := r.two
    exact .inl ⟨_, _, by rw [r1.int, r2.int], P.int s⟩
  · obtain ⟨v, rfl, q⟩ := r.one
    obtain ⟨a, ws, rfl, h, t⟩ := q.list s
    split at P
    · rename_i ns hn
      split at P
      · exact False.elim P
      · rename_i hne
        rw [intsOf_eq hn] at t
        refine .inr ⟨a, ns, rfl, .of (by rw [h, t.ints_inv]), List.length_pos_iff.mpr hne, fun m hm hle => ?_⟩
        have z := minI_spec hne
        rw [min_unique hm hle z.1 z.2]
        exact P.int s
    · exact False.elim P
  · exact False.elim P
def oInt : List D → R D
  | [.int i] => .ok (.int i)
  | [.bool b] => .ok (.int (if b then 1 else 0))
  | _ => .bad
theorem does_int : DoesC X W (fun xs H Q => (∃ i, xs = [.int i] ∧ Q (.int i) H) ∨ ∃ k, xs = [.bl k] ∧ Q (.int (if k then 1 else 0)) H) oInt := by
  intro G H σ Q ds vs s r P
  unfold oInt at P
  split at P
  · obtain ⟨v, rfl, q⟩ := r.one
    exact .inl ⟨_, by rw [q.int], P.int s⟩
  · obtain ⟨v, rfl, q⟩ := r.one
    exact .inr ⟨_, by rw [q.bool], P.int s⟩
  · exact False.elim P
def oSum : List D → R D
  | [.list xs] => match intsOf xs with
    | some ns => .ok (.int ns.sum)
    | none => .bad
  | [.tuple xs] => .bad
  | _ => .bad
theorem does_sum : DoesC X W (rSum X.K) oSum := by
  intro G H σ Q ds vs s r P
  unfold oSum at P
  split at P
  · obtain ⟨v, rfl, q⟩ := r.one
    obtain ⟨a, ws, rfl, h, t⟩ := q.list s
    split at P
    · rename_i ns hn
      rw [intsOf_eq hn] at t
      exact ⟨a, ns, rfl, .of (by rw [h, t.ints_inv]), P.int s⟩
    · exact False.elim P
  · exact False.elim P
  · exact False.elim P
def oAll : List D → R D
  | [.list xs] => match boolsOf xs with
    | some ns => .ok (.bool (ns.all id))
    | none => .bad
  | _ => .bad
def oAny : List D → R D
  | [.list xs] => match boolsOf xs with
    | some ns => .ok (.bool (ns.any id))
    | none => .bad
  | _ => .bad
theorem does_all : DoesC X W (rAll X.K) oAll := by
  intro G H σ Q ds vs s r P
  unfold oAll at P
  split at P
  · obtain ⟨v, rfl, q⟩ := r.one
    obtain ⟨a, ws, rfl, h, t⟩ := q.list s
    split at P
    · rename_i ns hn
      rw [boolsOf_eq hn] at t
      exact ⟨a, ns, rfl, .of (by rw [h, t.bools_inv]), P.bool s⟩
    · exact False.elim P
  · exact False.elim P
theorem does_any : DoesC X W (rAny X.K) oAny := by
  intro G H σ Q ds vs s r P
  unfold oAny at P
  split at P
  · obtain ⟨v, rfl, q⟩ := r.one
    obtain ⟨a, ws, rfl, h, t⟩ := q.list s
    split at P
    · rename_i ns hn
      rw [boolsOf_eq hn] at t
      exact ⟨a, ns, rfl, .of (by rw [h, t.bools_inv]), P.bool s⟩
    · exact False.elim P
  · exact False.elim P

def oList : List D → R D
  | [.list xs] => .ok (.list xs)
  | [.flist xs] => .ok (.list xs)
  | [.tuple xs] => .ok (.list xs)
  | [.ftuple xs] => .ok (.list xs)
  | _ => .bad
def oTuple : List D → R D
  | [.list xs] => .ok (.tuple xs)
  | [.flist xs] => .ok (.tuple xs)
  | [.tuple xs] => .ok (.tuple xs)
  | _ => .bad
theorem does_list : DoesC X W (fun xs H Q => ∃ p ys, xs = [.ref p] ∧ (SqL X.K H p ys ∨ SqT X.K H p ys) ∧ ∀ l, H l = none → Q (.ref l) (upd H l (.lst ys))) oList := by
  intro G H σ Q ds vs s r P
  unfold oList at P
  split at P
  · obtain ⟨v, rfl, q⟩ := r.one
    obtain ⟨a, ws, rfl, h, t⟩ := q.list s
    exact ⟨a, ws, rfl, .inl (.of h), fun l n => P.newL s t n⟩
  · obtain ⟨v, rfl, q⟩ := r.one
    obtain ⟨a, ws, rfl, h, t⟩ := q.flist
    exact ⟨a, ws, rfl, .inl (s.sqL h), fun l n => P.newL s t n⟩
  · obtain ⟨v, rfl, q⟩ := r.one
    obtain ⟨a, ws, rfl, h, t⟩ := q.tuple
    exact ⟨a, ws, rfl, .inr (.of (s _ _ h)), fun l n => P.newL s t n⟩
  · obtain ⟨v, rfl, q⟩ := r.one
    obtain ⟨a, ws, rfl, h, t⟩ := q.ftuple
    exact ⟨a, ws, rfl, .inr (s.sqT h), fun l n => P.newL s t n⟩
  · exact False.elim P
theorem does_tuple : DoesC X W (fun xs H Q => ∃ p ys, xs = [.ref p] ∧ ((SqL X.K H p ys ∧ ∀ l, H l = none → Q (.ref l) (upd H l (.tup ys))) ∨ (SqT X.K H p ys ∧ Q (.ref p) H))) oTuple := by
  intro G H σ Q ds vs s r P
  unfold oTuple at P
  split at P
  · obtain ⟨v, rfl, q⟩ := r.one
    obtain ⟨a, ws, rfl, h, t⟩ := q.list s
    exact ⟨a, ws, rfl, .inl ⟨.of h, fun l n => P.newT s t n⟩⟩
  · obtain ⟨v, rfl, q⟩ := r.one
    obtain ⟨a, ws, rfl, h, t⟩ := q.flist
    exact ⟨a, ws, rfl, .inl ⟨s.sqL h, fun l n => P.newT s t n⟩⟩
  · obtain ⟨v, rfl, q⟩ := r.one
    obtain ⟨a, ws, rfl, h, t⟩ := q.tuple
    exact ⟨a, ws, rfl, .inr ⟨.of (s _ _ h), P.here s (Rep.tuple_iff.mpr ⟨a, ws, rfl, h, t⟩)⟩⟩
  · exact False.elim P

def tyName : D → Option String
  | .none => some "NoneType"
  | .bool _ => some "bool"
  | .int _ => some "int"
  | .str _ => some "str"
  | .list _ => some "list"
  | .flist _ => none
  | .tuple _ => some "tuple"
  | .ftuple _ => some "tuple"
  | .dict _ => none
  | .dictT _ => none
  | .inst _ _ => none
theorem tyName_x {K : PySem.W.Frag} {G H : Hp} {d : D} {v : V} {n : String} (s : Sub G H) (r : RB K G H d v) (e : tyName d = some n) : TyX K H v (.type n) := by
  cases d with
  | none => cases e; rw [r.none]; exact .base .non
  | bool b => cases e; rw [r.bool]; exact .base (.bl b)
  | int b => cases e; rw [r.int]; exact .base (.int b)
  | str b => cases e; rw [r.str]; exact .base (.str b)
  | list b => cases e; obtain ⟨a, ws, rfl, h, _⟩ := r.list s; exact .base (.lst h)
  | tuple b => cases e; obtain ⟨a, ws, rfl, h, _⟩ := r.tuple; exact .base (.tup (s _ _ h))
  | ftuple b =>
    cases e
    obtain ⟨a, ws, rfl, h, _⟩ := r.ftuple
    rcases h with (h | ⟨o, h⟩) | ⟨o, its, n, h, c, _⟩
    · exact .base (.tup (s _ _ h))
    · exact .fTuple (s _ _ h)
    · exact .kTuple h c
  | _ => cases e
/-- isinstance(x, T), T a built-in type -/
def oIsi (T : String) (d : D) : R D := match tyName d with
  | some n => match kitB n T with
    | some b => .ok (.bool b)
    | none => .bad
  | none => .bad
theorem ev_isi {a : Expr} {f : Cells → R D} {T : String} {y x : Str} {p p2 pos : Pos} (ha : EB X W a f) (hg : Gl X x) (hm : X.mg x = none) (hv : bootBuiltins x = some (.builtin "isinstance")) (hg2 : Gl X y) (hm2 : X.mg y = none) (hv2 : bootBuiltins y = some (.type T))
    (hn : x ≠ "__name__") (hdb : (x == ("__debug__" : Str)) = false) (hn2 : y ≠ "__name__") (hdb2 : (y == ("__debug__" : Str)) = false)
    (he : starEach [a, .Name y p2] X.env = (false, eval a X.env) :: starEach [.Name y p2] X.env) (he2 : starEach [.Name y p2] X.env = (false, eval (.Name y p2) X.env) :: starEach [] X.env) (hpl : (backTo pos (starEach [.Name y p2] X.env)).any (·.1) = false) :
    EV X W (.Call (.Name x p) [a, .Name y p2] [] pos) (fun c => f c >>= oIsi T) :=
  PE.imp (pe_callB call_isi hg hm hv (pa_cons ha (pa_cons (pe_bltn (v := .ty T) hg2 hm2 hv2 rfl hn2 hdb2) pa_nil he2) he) hn hdb he hpl) fun σ H Q ⟨G, env, S, P⟩ => by
    refine ⟨G, env, S, Post.seq (Rel1 := RB X.K) (x := f env) (k := oIsi T) P fun d v G1 H1 _ s1 r1 P1 => ?_⟩
    unfold oIsi at P1
    split at P1
    · rename_i n hn
      split at P1
      · rename_i b hb
        exact ⟨v, .ty T, .type n, .type T, b, rfl, .ty T, tyName_x s1.sub r1 hn, kit_ty hb, P1.bool s1.sub⟩
      · exact False.elim P1
    · exact False.elim P1
end
end PL
end S5
noncomputable section S6
namespace PL
open PySem PySem.Spec PyProof.Rows L2
/-- data that sorted takes -/
def SortOk (ds : List D) : Prop := PySem.W.AllAlike (toPys ds) ∧ PySem.W.Sortable (toPys ds) ∧ (∀ d ∈ ds, (toPy d).depth ≤ 60) ∧ PyData.canLayAll0 (toPys ds) = true ∧ ds.length ≤ lim
noncomputable def sortD (ds : List D) : List D := ds.mergeSort (PySem.W.dataLe false toPy)
theorem toPys_map : ∀ ds : List D, toPys ds = ds.map toPy
  | [] => by rw [toPys]; rfl
  | d :: ds => by rw [toPys, toPys_map ds]; rfl
/-- pairs of a value and its datum, sorted -/
noncomputable def sortVD (l : List (V × D)) : List (V × D) := l.mergeSort (PySem.W.dataLe false fun p => toPy p.2)
theorem sortVD_snd (l : List (V × D)) : (sortVD l).map Prod.snd = sortD (l.map Prod.snd) := by
  unfold sortVD sortD
  exact PySem.W.sort_maps Prod.snd fun a _ b _ => rfl
theorem sortVD_mem {l : List (V × D)} {p : V × D} (h : p ∈ sortVD l) : p ∈ l := (List.mergeSort_perm _ _).mem_iff.mp h
section
variable {X : Cx} {W : WX} {pins : List (Addr × Obj)} {s : Shared} {σ : L2.St} {H : Hp}
theorem dp_each (I : Inv X pins σ H s) : ∀ {l : List (V × D)} {us : List Value}, (∀ p ∈ l, Dp X.K H p.1 (toPy p.2)) → Vals (l.map Prod.fst) us → PySem.W.EachIs (fun v (b : V × D) => ∃ as, Reads s.heap v (toPy b.2) as) us l ∧ PySem.W.EachIs (fun v (p : V × D) => RelV p.1 v) us l
  | [], _, _, r => by cases r; exact ⟨.nil, .nil⟩
  | p :: l, _, h, r => by
    cases r with
    | cons r1 r2 =>
      obtain ⟨a1, a2⟩ := dp_each I (fun q hq => h q (List.mem_cons_of_mem _ hq)) r2
      exact ⟨.cons (Dp.reads I _ _ _ (h p List.mem_cons_self) r1) a1, .cons r1 a2⟩
theorem each_vals : ∀ {l : List (V × D)} {us : List Value}, PySem.W.EachIs (fun v (p : V × D) => RelV p.1 v) us l → Vals (l.map Prod.fst) us
  | [], _, h => by cases h; exact .nil
  | p :: l, _, h => by cases h with | cons a t => exact .cons a (each_vals t)
mutual
theorem reads_lt {h : Heap} : ∀ (d : PyData) {v : Value} {as : List Addr}, d.canLay0 = true → Reads h v d as → ∀ a ∈ as, a < h.objs.size
  | .none, _, _, _, r => by cases r; intro a ha; cases ha
  | .bool _, _, _, _, r => by cases r; intro a ha; cases ha
  | .int _, _, _, _, r => by cases r; intro a ha; cases ha
  | .str _, _, _, _, r => by cases r; intro a ha; cases ha
  | .list xs, _, _, c, r => by
    cases r with
    | list h1 _ _ h4 =>
      intro a ha
      rcases List.mem_cons.mp ha with rfl | ha
      · exact Heap.lt_size h1
      · exact readsAll_lt xs (by simpa [PyData.canLay0] using c) h4 a ha
  | .tuple xs, _, _, c, r => by
    cases r with
    | tuple h1 _ _ h4 => exact readsAll_lt xs (by simpa [PyData.canLay0] using c) h4
  | .dict _, _, _, c, _ => by simp [PyData.canLay0] at c
theorem readsAll_lt {h : Heap} : ∀ (ds : List PyData) {vs : List Value} {as : List Addr}, PyData.canLayAll0 ds = true → ReadsAll h vs ds as → ∀ a ∈ as, a < h.objs.size
  | [], _, _, _, r => by cases r; intro a ha; cases ha
  | d :: ds, _, _, c, r => by
    have c' : d.canLay0 = true ∧ PyData.canLayAll0 ds = true := by simpa [PyData.canLayAll0] using c
    cases r with
    | cons h1 h2 =>
      intro a ha
      rcases List.mem_append.mp ha with ha | ha
      · exact reads_lt d c'.1 h1 a ha
      · exact readsAll_lt ds c'.2 h2 a ha
end
theorem canAll : ∀ {ds : List D}, PyData.canLayAll0 (toPys ds) = true → ∀ d ∈ ds, (toPy d).canLay0 = true
  | [], _, _, h => by cases h
  | d :: ds, c, e, h => by
    rw [toPys] at c
    have c' : (toPy d).canLay0 = true ∧ PyData.canLayAll0 (toPys ds) = true := by simpa [PyData.canLayAll0] using c
    rcases List.mem_cons.mp h with rfl | h
    · exact c'.1
    · exact canAll c'.2 e h
theorem each_mem {R S : Value → V × D → Prop} : ∀ {us : List Value} {l : List (V × D)}, PySem.W.EachIs R us l → (∀ p ∈ l, ∀ u, R u p → S u p) → PySem.W.EachIs S us l
  | _, [], h, _ => by cases h; exact .nil
  | _, p :: l, h, f => by
    cases h with
    | cons a t => exact .cons (f p List.mem_cons_self _ a) (each_mem t fun q hq => f q (List.mem_cons_of_mem _ hq))
theorem pys_all {l : List (V × D)} (ok : SortOk (l.map Prod.snd)) : PySem.W.AllAlike (l.map fun p => toPy p.2) ∧ PySem.W.Sortable (l.map fun p => toPy p.2) ∧ (∀ p ∈ l, (toPy p.2).depth ≤ 60) ∧ l.length ≤ lim := by
  obtain ⟨h1, h2, h3, _, h5⟩ := ok
  rw [toPys_map, List.map_map] at h1 h2
  refine ⟨h1, h2, fun p hp => h3 _ (List.mem_map.mpr ⟨p, hp, rfl⟩), ?_⟩
  rw [List.length_map] at h5
  exact h5
theorem size_in1 (A : Around) : A.in1.units = A.units + 1 := rfl
/-- the items have been collected: the new list is sorted -/
theorem sort_tail (hu : X.A.units + 64 < cLine) {h' : Heap} {tk : Nat} {acc : List Value} {l : List (V × D)} {Q : VK} {E : Value → Shared → Prop} (I1 : Inv X pins σ H { s with heap := h', toks := tk }) (ok : SortOk (l.map Prod.snd)) (hd : ∀ p ∈ l, Dp X.K H p.1 (toPy p.2)) (rv : Vals (l.map Prod.fst) acc)
    (q : ∀ p, H p = none → Q (.ref p) (upd H p (.lst ((sortVD l).map Prod.fst)))) :
    wpAny (model X.prog X.w) X.A.in1 (call (.builtin "list.sort") [.ref h'.objs.size]) (fun _ s2 => EP X pins σ Q (.ref h'.objs.size) s2) E { s with heap := h'.push (seqObj "list" acc.toArray 0), toks := tk } := by
  obtain ⟨k1, k2, k3, k4⟩ := pys_all ok
  have I2 : Inv X pins σ H { s with heap := h'.push (seqObj "list" acc.toArray 0), toks := tk } := I1.kept (t' := tk) fun b o e => Heap.get?_push_of_some _ e
  obtain ⟨e1, e2⟩ := dp_each I1 hd rv
  have hoL : (h'.push (seqObj "list" acc.toArray 0)).get? h'.objs.size = some (seqObj "list" acc.toArray 0) := Heap.get?_push_size _ rfl
  have er : PySem.W.EachIs (fun v (b : V × D) => ∃ as, Reads (h'.push (seqObj "list" acc.toArray 0)) v (toPy b.2) as ∧ h'.objs.size ∉ as) acc l := each_mem e1 fun b hb v ⟨as, r⟩ => ⟨as, PyProof.Rows.Reads.keeps (fun _ _ e => Heap.get?_push_of_some _ e) r, fun hm => absurd (reads_lt _ (canAll ok.2.2.2.1 _ (List.mem_map.mpr ⟨b, hb, rfl⟩)) r _ hm) (Nat.lt_irrefl _)⟩
  refine PySem.W.list_sort_data (s := { s with heap := h'.push (seqObj "list" acc.toArray 0), toks := tk }) (R := fun v (p : V × D) => RelV p.1 v) (enc := fun p : V × D => toPy p.2) hoL e2 er k1 k2 (Nat.le_trans k4 (by decide)) (fun p hp => ?_) fun out hlen ho => ?_
  · have := k3 p hp
    rw [size_in1]
    omega
  · obtain ⟨ep, he'⟩ := PyProof.Rows.sortedHeap_at (vs := acc) (out := out.toArray) hoL
    have rv' := each_vals ho
    have hl2 : ((sortVD l).map Prod.fst).length ≤ sizeLine := by
      rw [List.length_map]
      unfold sortVD
      rw [List.length_mergeSort]
      exact Nat.le_trans k4 (by decide)
    refine ⟨.ref h'.objs.size, upd H h'.objs.size (.lst ((sortVD l).map Prod.fst)), I1.laid (t' := tk) (fun b u e => ?_) (Nat.le_refl _)
      (show ObjOk X.prog X.w _ _ _ (.lst ((sortVD l).map Prod.fst)) from ⟨hl2, out, ep, rv', he'⟩), rfl, q _ (I1.hok.fresh (Nat.le_refl _))⟩
    have hb : b < h'.objs.size := Heap.lt_size e
    rw [PyProof.Rows.sortedHeap_old (Nat.ne_of_lt hb) (by rw [Heap.size_push]; exact Nat.lt_succ_of_lt hb)]
    exact Heap.get?_push_of_some _ e

theorem call_sortL (hu : X.A.units + 64 < cLine) : CallR X (.builtin "sorted") (fun vs H Q => ∃ (a : Addr) (l : List (V × D)), vs = [.ref a] ∧ SqL X.K H a (l.map Prod.fst) ∧ (∀ p ∈ l, Dp X.K H p.1 (toPy p.2)) ∧ SortOk (l.map Prod.snd) ∧ ∀ p, H p = none → Q (.ref p) (upd H p (.lst ((sortVD l).map Prod.fst)))) := by
  intro pins s σ H vs us Q I r h
  obtain ⟨a, l, rfl, hs, hd, ok, q⟩ := h
  obtain ⟨its, rv, hl, hz⟩ := I.list hs
  rw [Vals.ref1 r]
  obtain ⟨k1, k2, k3, k4⟩ := pys_all ok
  obtain ⟨e1, e2⟩ := dp_each I hd rv
  refine PySem.W.sorted_data (R := fun v (p : V × D) => RelV p.1 v) (enc := fun p : V × D => toPy p.2) hl.isList e2 e1 k1 k2 (Nat.le_trans k4 (by decide)) (fun p hp => by have := k3 p hp; omega) fun out hlen ho => ?_
  obtain ⟨ep, he'⟩ := PyProof.Rows.sortedAll_at s.heap its out.toArray
  have rv' := each_vals ho
  have hl2 : ((sortVD l).map Prod.fst).length ≤ sizeLine := by
    rw [List.length_map]
    unfold sortVD
    rw [List.length_mergeSort]
    exact Nat.le_trans k4 (by decide)
  exact ⟨.ref _, upd H (s.heap.objs.size + 1) (.lst ((sortVD l).map Prod.fst)), I.laid (t' := s.toks) (fun _ _ => PyProof.Rows.sortedAll_old) (Nat.le_succ _) ⟨hl2, out, ep, rv', he'⟩, rfl, q _ (I.hok.fresh (Nat.le_succ _))⟩
theorem call_sortDK (hc : X.calm = true) (hu : X.A.units + 64 < cLine) : CallR X (.builtin "sorted") (fun vs H Q => ∃ (a : Addr) (kvs : List (Key × V)) (l : List (V × D)), vs = [.ref a] ∧ Rd H a (.dK kvs) ∧ l.map Prod.fst = (kvs.map fun kv => kV kv.1) ∧ (∀ p ∈ l, Dp X.K H p.1 (toPy p.2)) ∧ SortOk (l.map Prod.snd) ∧ ∀ p, H p = none → Q (.ref p) (upd H p (.lst ((sortVD l).map Prod.fst)))) := by
  intro pins s σ H vs us Q I r h
  obtain ⟨a, kvs, l, rfl, hd, hk, hp, ok, q⟩ := h
  obtain ⟨u, eu, rx⟩ := vals1 r
  subst eu
  cases rx
  obtain ⟨z, lo, vs, rel, dd⟩ := dk_rd I.hok hd
  obtain ⟨ep, hat⟩ := dd.dictAt
  have hz : vs.length ≤ sizeLine := by rw [← rel.length]; exact z
  refine Calls.call_function_entry PyProof.Rows.kind_sorted PyProof.Rows.plain_sorted PyProof.Rows.entry_sorted (PyProof.Rows.args_sorted1 _) ?_
  unfold Builtin.«sorted»
  refine wpAny_bind (m := checkCount "sorted" 1 1 _) (wpAny_pure ?_)
  refine wpAny_bind (PySem.W.kdu_collect (A := X.A.in1) (PySem.W.kdl_dict (knd := mixKind X.prog X.w) (kvs := vs) (ep := ep) lo) (I.ok.hd hc) hat hz fun h' tk acc hk' hacc => ?_)
  have hal : acc.toList.length = vs.length := by rw [Array.length_toList, hacc.1]
  have rv : Vals (l.map Prod.fst) acc.toList := by
    have e : (l.map Prod.fst) = vs.map fun p => kV p.1 := by
      rw [hk]
      have e := congrArg (List.map kV) rel.keys
      rw [List.map_map, List.map_map] at e
      exact e
    rw [e]
    exact keys_at hal fun j v e => hacc.2 j v (by rw [← Array.getElem?_toList]; exact e)
  have I1 : Inv X pins σ H { s with heap := h', toks := tk } := I.kept hk'
  refine wpAny_bind (wpAny_newList ?_ (by rw [hal]; exact hz))
  show wpAny _ _ _ _ _ { s with heap := h'.push (seqObj "list" acc.toList.toArray 0), toks := tk }
  refine wpAny_bind (wpAny_holding (wpAny_mono (sort_tail (s := s) hu I1 ok hp rv q) (fun _ s2 hq => ?_) fun _ _ x => x))
  exact wpAny_pure ⟨_, rfl, hq⟩
theorem call_sortDT (hc : X.calm = true) (hu : X.A.units + 64 < cLine) : CallR X (.builtin "sorted") (fun vs H Q => ∃ (a : Addr) (kvs : List (List Key × V)) (es : List D), vs = [.ref a] ∧ Rd H a (.dT kvs) ∧ es.length = kvs.length ∧
    (∀ bs, IsKeys H kvs bs → ∀ p ∈ (bs.map V.ref).zip es, Dp X.K H p.1 (toPy p.2)) ∧ SortOk es ∧ ∀ p bs, IsKeys H kvs bs → H p = none → Q (.ref p) (upd H p (.lst ((sortVD ((bs.map V.ref).zip es)).map Prod.fst)))) := by
  intro pins s σ H xs us Q I r h
  obtain ⟨d, kvs, es', rfl, hd, hlen, hp, ok, q⟩ := h
  obtain ⟨u, rfl, rx⟩ := vals1 r
  cases rx
  obtain ⟨z, hs, ks, pr, o, es, ep, ho, hx, hdt, he, hn⟩ := (show ObjOk X.prog X.w H s.heap d (.dT kvs) from hd.ok I.hok)
  have l1 : es.size = ks.length := size_of_entries he
  have l2 : kvs.length = ks.length := Paired.length pr
  refine Calls.call_function_entry PyProof.Rows.kind_sorted PyProof.Rows.plain_sorted PyProof.Rows.entry_sorted (PyProof.Rows.args_sorted1 _) ?_
  unfold Builtin.«sorted»
  refine wpAny_bind (m := checkCount "sorted" 1 1 _) (wpAny_pure ?_)
  refine wpAny_bind (PySem.W.kdu_collect (A := X.A.in1) (kdl_raw hs hx hdt) (I.ok.hd hc) ho (by omega) fun h' tk acc' kp it => ?_)
  have ea : acc'.toList = ks.map fun x => Value.ref x.2.1 := by
    have hl : acc'.toList.length = ks.length := by rw [Array.length_toList, it.1]; exact l1
    apply List.ext_getElem?
    intro j
    rw [List.getElem?_map]
    cases hj : acc'.toList[j]? with
    | none =>
      have h1 := List.getElem?_eq_none_iff.mp hj
      rw [List.getElem?_eq_none (by omega)]
      all_goals rfl
    | some v =>
      obtain ⟨en, hen, hv⟩ := it.2 j v (by rw [← Array.getElem?_toList]; exact hj)
      have qe := entry_at he j
      rw [hen] at qe
      cases hb : ks[j]? with
      | none =>
        rw [hb] at qe
        exact nomatch (show some en = none from qe)
      | some b =>
        rw [hb] at qe
        have e2 : en = entryOfKey (tupleKind (mixKind X.prog X.w)) b := Option.some.inj qe
        rw [hv, e2]
        all_goals rfl
  have eb : acc'.toList = (ks.map fun x => x.2.1).map Value.ref := by rw [ea, List.map_map]; all_goals rfl
  have ik := isKeys_of pr
  have zl : ((ks.map fun x => x.2.1).map V.ref).length ≤ es'.length := by rw [List.length_map, List.length_map]; omega
  have zl2 : es'.length ≤ ((ks.map fun x => x.2.1).map V.ref).length := by rw [List.length_map, List.length_map]; omega
  have rv : Vals ((((ks.map fun x => x.2.1).map V.ref).zip es').map Prod.fst) acc'.toList := by rw [List.map_fst_zip zl, eb]; exact vals_refs _
  have e2 : (((ks.map fun x => x.2.1).map V.ref).zip es').map Prod.snd = es' := List.map_snd_zip zl2
  have I1 : Inv X pins σ H { s with heap := h', toks := tk } := I.kept kp
  refine wpAny_bind (wpAny_newList ?_ (by rw [Array.length_toList, it.1]; omega))
  show wpAny _ _ _ _ _ { s with heap := h'.push (seqObj "list" acc'.toList.toArray 0), toks := tk }
  refine wpAny_bind (wpAny_holding (wpAny_mono (sort_tail (s := s) hu I1 (by rw [e2]; exact ok) (hp _ ik) rv (fun p n => q p _ ik n)) (fun _ s2 hq => ?_) fun _ _ x => x))
  exact wpAny_pure ⟨_, rfl, hq⟩

def keyD : Key → D
  | .inl i => .int i
  | .inr x => .str x
theorem keyD_py (k : Key) : (toPy (keyD k)).canLay0 = true → True := fun _ => trivial
open Classical in
noncomputable def oSorted : List D → R D
  | [.list xs] => if SortOk xs then .ok (.list (sortD xs)) else .bad
  | [.dict kvs] => if SortOk (kvs.map fun p => keyD p.1) then .ok (.list (sortD (kvs.map fun p => keyD p.1))) else .bad
  | [.dictT kvs] => if SortOk (kvs.map fun p => .tuple (p.1.map keyD)) then .ok (.list (sortD (kvs.map fun p => .tuple (p.1.map keyD)))) else .bad
  | _ => .bad
def rSortAll (X : Cx) : List V → Hp → VK → Prop := fun vs H Q =>
  (∃ (a : Addr) (l : List (V × D)), vs = [.ref a] ∧ SqL X.K H a (l.map Prod.fst) ∧ (∀ p ∈ l, Dp X.K H p.1 (toPy p.2)) ∧ SortOk (l.map Prod.snd) ∧ ∀ p, H p = none → Q (.ref p) (upd H p (.lst ((sortVD l).map Prod.fst)))) ∨
  ((∃ (a : Addr) (kvs : List (Key × V)) (l : List (V × D)), vs = [.ref a] ∧ Rd H a (.dK kvs) ∧ l.map Prod.fst = (kvs.map fun kv => kV kv.1) ∧ (∀ p ∈ l, Dp X.K H p.1 (toPy p.2)) ∧ SortOk (l.map Prod.snd) ∧ ∀ p, H p = none → Q (.ref p) (upd H p (.lst ((sortVD l).map Prod.fst)))) ∨
  (∃ (a : Addr) (kvs : List (List Key × V)) (es : List D), vs = [.ref a] ∧ Rd H a (.dT kvs) ∧ es.length = kvs.length ∧
    (∀ bs, IsKeys H kvs bs → ∀ p ∈ (bs.map V.ref).zip es, Dp X.K H p.1 (toPy p.2)) ∧ SortOk es ∧ ∀ p bs, IsKeys H kvs bs → H p = none → Q (.ref p) (upd H p (.lst ((sortVD ((bs.map V.ref).zip es)).map Prod.fst)))))
theorem call_sortAll (hc : X.calm = true) (hu : X.A.units + 64 < cLine) : CallR X (.builtin "sorted") (rSortAll X) := CallR.or (call_sortL hu) (CallR.or (call_sortDK hc hu) (call_sortDT hc hu))
theorem rep_of_pairs {K : PySem.W.Frag} {G : Hp} : ∀ {l : List (V × D)}, (∀ p ∈ l, Rep K G p.2 p.1) → RepAll K G (l.map Prod.snd) (l.map Prod.fst)
  | [], _ => .nil
  | p :: l, h => .cons (h p List.mem_cons_self) (rep_of_pairs fun q hq => h q (List.mem_cons_of_mem _ hq))
theorem pairs_of_rep {K : PySem.W.Frag} {G : Hp} : ∀ {ds : List D} {vs : List V}, RepAll K G ds vs → (∀ p ∈ vs.zip ds, Rep K G p.2 p.1) ∧ (vs.zip ds).map Prod.fst = vs ∧ (vs.zip ds).map Prod.snd = ds
  | [], _, h => by rw [RepAll.nil_iff.mp h]; exact ⟨fun p hp => (by cases hp), rfl, rfl⟩
  | d :: ds, _, h => by
    obtain ⟨v, vs, rfl, r, t⟩ := RepAll.cons_iff.mp h
    obtain ⟨a1, a2, a3⟩ := pairs_of_rep t
    refine ⟨fun p hp => ?_, ?_, ?_⟩
    · rw [List.zip_cons_cons] at hp
      rcases List.mem_cons.mp hp with rfl | hp
      · exact r
      · exact a1 p hp
    · rw [List.zip_cons_cons, List.map_cons, a2]
    · rw [List.zip_cons_cons, List.map_cons, a3]
theorem sorted_rep {K : PySem.W.Frag} {G : Hp} {ds : List D} {vs : List V} (h : RepAll K G ds vs) : RepAll K G (sortD ds) ((sortVD (vs.zip ds)).map Prod.fst) := by
  obtain ⟨a1, a2, a3⟩ := pairs_of_rep h
  have z := rep_of_pairs (l := sortVD (vs.zip ds)) fun p hp => a1 p (sortVD_mem hp)
  rw [sortVD_snd, a3] at z
  exact z
theorem keyD_rep (K : PySem.W.Frag) (G : Hp) (k : Key) : Rep K G (keyD k) (kV k) := by
  cases k with
  | inl i => exact Rep.int_iff.mpr rfl
  | inr x => exact Rep.str_iff.mpr rfl
theorem keysD_rep (K : PySem.W.Frag) (G : Hp) : ∀ ks : List Key, RepAll K G (ks.map keyD) (ks.map kV)
  | [] => .nil
  | k :: ks => .cons (keyD_rep K G k) (keysD_rep K G ks)
theorem repK_keys {K : PySem.W.Frag} {G : Hp} : ∀ {ds : List (Key × D)} {xs : List (Key × V)}, RepK K G ds xs → RepAll K G (ds.map fun p => keyD p.1) (xs.map fun kv => kV kv.1)
  | [], _, h => by rw [RepK] at h; subst h; exact .nil
  | (k, d) :: ds, _, h => by
    obtain ⟨v, vs, rfl, r, t⟩ := RepK.cons_iff.mp h
    exact .cons (keyD_rep K G k) (repK_keys t)
theorem freezeTs {G H : Hp} : ∀ (bs : List (Addr × List V)), Sub G H → (∀ b ∈ bs, H b.1 = some (.tup b.2)) → ∃ G', Stp G H G' H ∧ ∀ b ∈ bs, G' b.1 = some (.tup b.2)
  | [], s, _ => ⟨G, .refl s, fun _ h => by cases h⟩
  | b :: bs, s, h => by
    obtain ⟨G1, s1, h1⟩ := freezeTs bs s fun c hc => h c (List.mem_cons_of_mem _ hc)
    have s2 := s1.freezeT (h b List.mem_cons_self)
    refine ⟨_, s2, fun c hc => ?_⟩
    rcases List.mem_cons.mp hc with rfl | hc
    · exact upd_same
    · by_cases e : c.1 = b.1
      · have e1 := h b List.mem_cons_self
        have e2 := h c (List.mem_cons_of_mem _ hc)
        rw [e, e1] at e2
        rw [e, upd_same]; exact e2
      · rw [upd_ne e]; exact h1 c hc
theorem repT_keys {K : PySem.W.Frag} {G H : Hp} : ∀ {ds : List (List Key × D)} {xs : List (List Key × V)} {bs : List Addr}, RepT K G ds xs → IsKeys H xs bs → (∀ b ∈ bs.zip (xs.map fun p => p.1.map kV), H b.1 = some (.tup b.2)) ∧
    ∀ G', (∀ b ∈ bs.zip (xs.map fun p => p.1.map kV), G' b.1 = some (.tup b.2)) → RepAll K G' (ds.map fun p => .tuple (p.1.map keyD)) (bs.map V.ref)
  | [], _, _, h, k => by rw [RepT] at h; subst h; cases k; exact ⟨fun b hb => (by cases hb), fun _ _ => .nil⟩
  | (k, d) :: ds, _, _, h, ks => by
    obtain ⟨v, vs, rfl, r, t⟩ := RepT.cons_iff.mp h
    cases ks with
    | cons h1 h2 =>
      obtain ⟨a1, a2⟩ := repT_keys t h2
      refine ⟨fun b hb => ?_, fun G' hG => ?_⟩
      · rcases List.mem_cons.mp hb with rfl | hb
        · exact h1
        · exact a1 b hb
      · exact .cons (Rep.tuple_iff.mpr ⟨_, _, rfl, hG _ List.mem_cons_self, keysD_rep K G' k⟩) (a2 G' fun b hb => hG b (List.mem_cons_of_mem _ hb))
theorem does_sorted : DoesC X W (rSortAll X) oSorted := by
  intro G H σ Q ds vs s r P
  unfold oSorted at P
  split at P
  · rename_i xs
    obtain ⟨v, rfl, q⟩ := r.one
    split at P
    · rename_i ok
      obtain ⟨a, ws, rfl, h, t⟩ := q.list s
      obtain ⟨a1, a2, a3⟩ := pairs_of_rep t
      refine .inl ⟨a, ws.zip xs, rfl, .of (by rw [a2]; exact h), fun p hp => Rep.dp s _ (a1 p hp) (canAll ok.2.2.2.1 _ ?_), by rw [a3]; exact ok, fun p n => P.newL s (sorted_rep t) n⟩
      rw [← a3]; exact List.mem_map.mpr ⟨p, hp, rfl⟩
    · exact False.elim P
  · rename_i xs
    obtain ⟨v, rfl, q⟩ := r.one
    split at P
    · rename_i ok
      obtain ⟨a, ws, rfl, h, t⟩ := q.dict s
      have t2 := repK_keys t
      obtain ⟨a1, a2, a3⟩ := pairs_of_rep t2
      refine .inr (.inl ⟨a, ws, (ws.map fun kv => kV kv.1).zip (xs.map fun p => keyD p.1), rfl, h, a2, fun p hp => Rep.dp s _ (a1 p hp) (canAll ok.2.2.2.1 _ ?_), by rw [a3]; exact ok, fun p n => P.newL s (sorted_rep t2) n⟩)
      rw [← a3]; exact List.mem_map.mpr ⟨p, hp, rfl⟩
    · exact False.elim P
  · rename_i xs
    obtain ⟨v, rfl, q⟩ := r.one
    split at P
    · rename_i ok
      obtain ⟨a, ws, rfl, h, t⟩ := q.dictT s
      refine .inr (.inr ⟨a, ws, xs.map fun p => .tuple (p.1.map keyD), rfl, h, ?_, fun bs hk p hp => ?_, ok, fun p bs hk n => ?_⟩)
      · rw [List.length_map]
        clear P ok h q r
        induction xs generalizing ws with
        | nil => rw [RepT] at t; subst t; rfl
        | cons x xs ih =>
          obtain ⟨k, d⟩ := x
          obtain ⟨v, vs, rfl, _, t⟩ := RepT.cons_iff.mp t
          simp [ih _ t]
      · obtain ⟨b1, b2⟩ := repT_keys t hk
        obtain ⟨G', s', hG⟩ := freezeTs _ s b1
        have t2 := b2 G' hG
        obtain ⟨a1, a2, a3⟩ := pairs_of_rep t2
        refine Rep.dp s'.sub _ (a1 p hp) (canAll ok.2.2.2.1 _ ?_)
        rw [← a3]; exact List.mem_map.mpr ⟨p, hp, rfl⟩
      · obtain ⟨b1, b2⟩ := repT_keys t hk
        obtain ⟨G', s', hG⟩ := freezeTs _ s b1
        exact (Post.move P s').newL s'.sub (sorted_rep (b2 G' hG)) n
    · exact False.elim P
  · exact False.elim P
end
end PL
end S6
noncomputable section S7
namespace PL
open PySem PySem.Spec PyProof.Rows L2
section
variable {X : Cx} {W : WX} {a b e : Expr} {es rest : List Expr} {f g h : Cells → R D} {pos : Pos}
theorem et_val (he : EV X W e f) (hp : ∀ whole, isTrue e X.env whole = (do let v ← whole; standAt e.pos; holding [v] (truthy v))) : ET X W e (fun c => f c >>= asB) :=
  PT.imp (pt_val he hp) fun σ H Q ⟨G, env, S, P⟩ => by
    refine ⟨G, env, S, Post.seq (Rel1 := RV X.K) (x := f env) (k := asB) P fun d v G1 H1 _ s1 r1 P1 => ?_⟩
    cases d with
    | bool b => exact ⟨b, Rep.bool_iff.mp r1, P1 b G1 H1 (.refl s1.sub) rfl⟩
    | _ => exact False.elim P1
def andT (f g : Cells → R Bool) : Cells → R Bool := fun c => f c >>= fun b => if b = true then g c else .ok false
def orT (f g : Cells → R Bool) : Cells → R Bool := fun c => f c >>= fun b => if b = true then .ok true else g c
def notT (f : Cells → R Bool) : Cells → R Bool := fun c => f c >>= fun b => .ok (!b)
variable {p q : Cells → R Bool}
theorem ew_and1 (ha : ET X W a p) : EW X W (.BoolOp .And [a] pos) p := pw_and1 ha
theorem ew_or1 (ha : ET X W a p) : EW X W (.BoolOp .Or [a] pos) p := pw_or1 ha
theorem ew_and (ha : ET X W a p) (hb : EW X W (.BoolOp .And (b :: rest) pos) q) : EW X W (.BoolOp .And (a :: b :: rest) pos) (andT p q) :=
  PW.imp (pw_and ha hb) fun σ H Q ⟨G, env, S, P⟩ => by
    refine ⟨G, env, S, Post.seq (Rel1 := RT) (x := p env) (k := fun b => if b = true then q env else .ok false) P fun d v G1 H1 _ s1 r1 P1 => ?_⟩
    subst r1
    cases d with
    | true => rw [if_pos rfl] at P1 ⊢; exact ⟨G1, env, S.step s1, P1⟩
    | false => exact P1 false G1 H1 (.refl s1.sub) rfl
theorem ew_or (ha : ET X W a p) (hb : EW X W (.BoolOp .Or (b :: rest) pos) q) : EW X W (.BoolOp .Or (a :: b :: rest) pos) (orT p q) :=
  PW.imp (pw_or ha hb) fun σ H Q ⟨G, env, S, P⟩ => by
    refine ⟨G, env, S, Post.seq (Rel1 := RT) (x := p env) (k := fun b => if b = true then .ok true else q env) P fun d v G1 H1 _ s1 r1 P1 => ?_⟩
    subst r1
    cases d with
    | false => exact ⟨G1, env, S.step s1, P1⟩
    | true => exact P1 true G1 H1 (.refl s1.sub) rfl
theorem et_w (h : EW X W e p) : ET X W e p := h.pt
theorem et_not (ha : ET X W a p) : ET X W (.UnaryOp .Not a pos) (notT p) :=
  PT.imp (pt_not ha) fun σ H Q ⟨G, env, S, P⟩ => by
    refine ⟨G, env, S, Post.seq (Rel1 := RT) (x := p env) (k := fun b => R.ok (!b)) P fun d v G1 H1 _ s1 r1 P1 => ?_⟩
    subst r1
    exact P1 (!d) G1 H1 (.refl s1.sub) rfl
def andV (f g : Cells → R D) : Cells → R D := fun c => f c >>= fun d => asB d >>= fun b => if b = true then g c else .ok (.bool false)
def orV (f g : Cells → R D) : Cells → R D := fun c => f c >>= fun d => asB d >>= fun b => if b = true then .ok (.bool true) else g c
def notV (f : Cells → R D) : Cells → R D := fun c => f c >>= fun d => asB d >>= fun b => .ok (.bool (!b))
theorem ev_one {op} (ha : EV X W a f) : EV X W (.BoolOp op [a] pos) f := pe_one ha
theorem ev_and (ha : EV X W a f) (hb : EV X W (.BoolOp .And (b :: rest) pos) g) : EV X W (.BoolOp .And (a :: b :: rest) pos) (andV f g) :=
  PE.imp (pe_and ha hb) fun σ H Q ⟨G, env, S, P⟩ => by
    refine ⟨G, env, S, Post.seq (Rel1 := RV X.K) (x := f env) (k := fun d => asB d >>= fun b => if b = true then g env else .ok (.bool false)) P fun d v G1 H1 _ s1 r1 P1 => ?_⟩
    cases d with
    | bool b =>
      refine ⟨b, Rep.bool_iff.mp r1, ?_⟩
      change Post G1 H1 W σ _ (if b = true then g env else R.ok (D.bool false)) Q at P1
      cases b with
      | true => rw [if_pos rfl] at P1 ⊢; exact ⟨G1, env, S.step s1, P1⟩
      | false => exact P1.bool s1.sub
    | _ => exact False.elim P1
theorem ev_or (ha : EV X W a f) (hb : EV X W (.BoolOp .Or (b :: rest) pos) g) : EV X W (.BoolOp .Or (a :: b :: rest) pos) (orV f g) :=
  PE.imp (pe_or ha hb) fun σ H Q ⟨G, env, S, P⟩ => by
    refine ⟨G, env, S, Post.seq (Rel1 := RV X.K) (x := f env) (k := fun d => asB d >>= fun b => if b = true then .ok (.bool true) else g env) P fun d v G1 H1 _ s1 r1 P1 => ?_⟩
    cases d with
    | bool b =>
      refine ⟨b, Rep.bool_iff.mp r1, ?_⟩
      change Post G1 H1 W σ _ (if b = true then R.ok (D.bool true) else g env) Q at P1
      cases b with
      | false => exact ⟨G1, env, S.step s1, P1⟩
      | true => exact P1.bool s1.sub
    | _ => exact False.elim P1
theorem ev_not (ha : EV X W a f) : EV X W (.UnaryOp .Not a pos) (notV f) :=
  PE.imp (pe_not ha) fun σ H Q ⟨G, env, S, P⟩ => by
    refine ⟨G, env, S, Post.seq (Rel1 := RV X.K) (x := f env) (k := fun d => asB d >>= fun b => R.ok (D.bool (!b))) P fun d v G1 H1 _ s1 r1 P1 => ?_⟩
    cases d with
    | bool b => exact ⟨b, Rep.bool_iff.mp r1, P1.bool s1.sub⟩
    | _ => exact False.elim P1
def ifV (p : Cells → R Bool) (f g : Cells → R D) : Cells → R D := fun c => p c >>= fun b => if b = true then f c else g c
theorem ev_ifExp {c : Expr} (hc : ET X W c p) (ha : EV X W a f) (hb : EV X W b g) : EV X W (.IfExp c a b pos) (ifV p f g) :=
  PE.imp (pe_ifExp hc ha hb) fun σ H Q ⟨G, env, S, P⟩ => by
    refine ⟨G, env, S, Post.seq (Rel1 := RT) (x := p env) (k := fun b => if b = true then f env else g env) P fun d v G1 H1 _ s1 r1 P1 => ?_⟩
    subst r1
    cases d with
    | true => rw [if_pos rfl] at P1 ⊢; exact ⟨G1, env, S.step s1, P1⟩
    | false => exact ⟨G1, env, S.step s1, P1⟩
def oNeg : D → R D
  | .int i => .ok (.int (-i))
  | _ => .bad
theorem ev_neg (ha : EB X W a f) : EV X W (.UnaryOp .USub a pos) (fun c => f c >>= oNeg) :=
  PE.imp (pe_un un_neg ha) fun σ H Q ⟨G, env, S, P⟩ => by
    refine ⟨G, env, S, Post.seq (Rel1 := RB X.K) (x := f env) (k := oNeg) P fun d v G1 H1 _ s1 r1 P1 => ?_⟩
    cases d with
    | int i => exact ⟨i, r1.int, P1.int s1.sub⟩
    | _ => exact False.elim P1
def chainV (o o' : D → D → R D) (f g h : Cells → R D) : Cells → R D := fun c => f c >>= fun x => g c >>= fun y => o x y >>= fun d => asB d >>= fun k => if k = true then h c >>= fun z => o' y z else .ok (.bool false)
theorem run_chain {r r' : R2} {o o' : D → D → R D} (hr : Does2 X W r o) (hr' : Does2 X W r' o') {σ : L2.St} {H : Hp} {Q : VK} (q : tG X.K W (fun _ => RV X.K) (chainV o o' f g h) σ H Q) :
    tChain r r' (tG X.K W (fun _ => RB X.K) f) (tG X.K W (fun _ => RB X.K) g) (tG X.K W (fun _ => RB X.K) h) σ H Q := by
  obtain ⟨G, env, S, P⟩ := q
  refine ⟨G, env, S, Post.seq (Rel1 := RB X.K) (x := f env) (k := fun x => g env >>= fun y => o x y >>= fun d => asB d >>= fun k => if k = true then h env >>= fun z => o' y z else .ok (.bool false)) P fun d v G1 H1 _ s1 r1 P1 => ?_⟩
  refine ⟨G1, env, S.step s1, Post.seq (Rel1 := RB X.K) (x := g env) (k := fun y => o d y >>= fun d => asB d >>= fun k => if k = true then h env >>= fun z => o' y z else .ok (.bool false)) P1 fun e u G2 H2 _ s2 r2 P2 => ?_⟩
  refine hr s2.sub (r1.step s2) r2 (Post.seq (Rel1 := RV X.K) (x := o d e) (k := fun d => asB d >>= fun k => if k = true then h env >>= fun z => o' e z else .ok (.bool false)) P2 fun k w G3 H3 _ s3 r3 P3 => ?_)
  cases k with
  | bool k =>
    refine ⟨k, Rep.bool_iff.mp r3, ?_⟩
    change Post G3 H3 W σ _ (if k = true then h env >>= fun z => o' e z else R.ok (D.bool false)) Q at P3
    cases k with
    | true =>
      rw [if_pos rfl] at P3 ⊢
      refine ⟨G3, env, ((S.step s1).step s2).step s3, Post.seq (Rel1 := RB X.K) (x := h env) (k := fun z => o' e z) P3 fun z w' G4 H4 _ s4 r4 P4 => ?_⟩
      exact hr' s4.sub ((r2.step s3).step s4) r4 P4
    | false => exact P3.bool s3.sub
  | _ => exact False.elim P3
variable {c : Expr}
theorem ev_chain {op op' : CmpOp} {r r' : R2} {o o' : D → D → R D} (ho : OpR X (compareOp op) r) (ho' : OpR X (compareOp op') r') (hr : Does2 X W r o) (hr' : Does2 X W r' o') (ha : EB X W a f) (hb : EB X W b g) (hc : EB X W c h) (hm : lastMarks [op, op'] [b, c] = false) :
    EV X W (.Compare a [op, op'] [b, c] pos) (chainV o o' f g h) := PE.imp (pe_chain ho ho' ha hb hc hm) fun σ H Q q => run_chain hr hr' q
theorem et_chain {op op' : CmpOp} {r r' : R2} {o o' : D → D → R D} (ho : OpR X (compareOp op) r) (ho' : OpR X (compareOp op') r') (hr : Does2 X W r o) (hr' : Does2 X W r' o') (ha : EB X W a f) (hb : EB X W b g) (hc : EB X W c h) (hm : lastMarks [op, op'] [b, c] = false) :
    ET X W (.Compare a [op, op'] [b, c] pos) (fun c => chainV o o' f g h c >>= asB) := PT.imp (pt_chain ho ho' ha hb hc hm) fun σ H Q q => by
  refine run_chain hr hr' ?_
  obtain ⟨G, env, S, P⟩ := q
  refine ⟨G, env, S, Post.seq (Rel1 := RV X.K) (x := chainV o o' f g h env) (k := asB) P fun d v G1 H1 _ s1 r1 P1 => ?_⟩
  cases d with
  | bool b => exact ⟨b, Rep.bool_iff.mp r1, P1 b G1 H1 (.refl s1.sub) rfl⟩
  | _ => exact False.elim P1
end
end PL
end S7
noncomputable section S8
namespace PL
open PySem PySem.Spec PyProof.Rows L2

/-- how a block ends -/
inductive Out where
  | nx (c : Cells)
  | rt (d : D)
  | bk (c : Cells)
  | ct (c : Cells)
/-- the state of a body: G0, H0 at its entry -/
structure SB (K : PySem.W.Frag) (G0 H0 G H : Hp) (σ : L2.St) (env : Cells) : Prop where
  sr : SR K G H σ env
  stp : Stp G0 H0 G H
  own : ∀ (i : Nat) (d : D) (a : Addr), env[i]? = some (.ow d) → σ[i]? = some (some (.ref a)) → H0 a = none
section
variable {K : PySem.W.Frag} {G0 H0 G H G' H' : Hp} {σ : L2.St} {env : Cells}
theorem SB.step (s : SB K G0 H0 G H σ env) (t : Stp G H G' H') : SB K G0 H0 G' H' σ env := ⟨s.sr.step t, s.stp.trans t, s.own⟩
theorem set_cell (env : Cells) (i j : Nat) (c e : Cell) (h : (env.set i c)[j]? = some e) : (j = i ∧ e = c) ∨ (j ≠ i ∧ env[j]? = some e) := by
  rw [List.getElem?_set] at h
  split at h
  · rename_i e1
    split at h
    · exact .inl ⟨e1.symm, (Option.some.inj h).symm⟩
    · cases h
  · rename_i e1
    exact .inr ⟨fun z => e1 z.symm, h⟩
theorem set_lt {α : Type} {l : List α} {i : Nat} {x y : α} (h : (l.set i x)[i]? = some y) : i < l.length := by
  by_cases q : i < l.length
  · exact q
  · rw [List.getElem?_eq_none (by simpa using q)] at h; cases h
/-- a frozen value in a slot -/
theorem SB.setFz (s : SB K G0 H0 G H σ env) {i : Nat} {d : D} {v : V} (r : Rep K G d v) : SB K G0 H0 G H (σ.set i (some v)) (env.set i (.fz d)) := by
  have old : ∀ (j : Nat) (e : Cell), j ≠ i → (env.set i (.fz d))[j]? = some e → env[j]? = some e := fun j e n h => by
    rcases set_cell _ _ _ _ _ h with ⟨z, _⟩ | ⟨_, z⟩
    · exact absurd z n
    · exact z
  have same : ∀ (j : Nat), j ≠ i → (σ.set i (some v))[j]? = σ[j]? := fun j n => List.getElem?_set_ne (Ne.symm n)
  have no : ∀ (j : Nat) (e : D), (env.set i (.fz d))[j]? = some (.ow e) → j ≠ i := fun j e h z => by
    subst z
    rcases set_cell _ _ _ _ _ h with ⟨_, z⟩ | ⟨z, _⟩
    · cases z
    · exact z rfl
  refine ⟨⟨s.sr.sub, fun j e h => ?_, fun j e h => ?_, fun j k e e' a n h h' q q' => ?_, ?_⟩, s.stp, fun j e a h q => ?_⟩
  · by_cases z : j = i
    · subst z
      have hl := set_lt h
      rcases set_cell _ _ _ _ _ h with ⟨_, z⟩ | ⟨z, _⟩
      · cases z
        exact ⟨v, List.getElem?_set_self (by rw [s.sr.len]; exact hl), r⟩
      · exact absurd rfl z
    · rw [same j z]; exact s.sr.fz j e (old j _ z h)
  · have n := no j e h
    rw [same j n]; exact s.sr.ow j e (old j _ n h)
  · have n1 := no j e h
    have n2 := no k e' h'
    rw [same j n1] at q
    rw [same k n2] at q'
    exact s.sr.apart j k e e' a n (old j _ n1 h) (old k _ n2 h') q q'
  · rw [List.length_set, List.length_set]; exact s.sr.len
  · have n := no j e h
    rw [same j n] at q
    exact s.own j e a (old j _ n h) q
/-- an owned one -/
theorem SB.setOw (s : SB K G0 H0 G H σ env) {i : Nat} {d : D} {p : Addr} (h0 : H0 p = none) (hG : G p = none) (o : Own K G H p d) (new : ∀ (j : Nat) (e : D), j ≠ i → env[j]? = some (.ow e) → σ[j]? ≠ some (some (.ref p))) :
    SB K G0 H0 G H (σ.set i (some (.ref p))) (env.set i (.ow d)) := by
  have old : ∀ (j : Nat) (e : Cell), j ≠ i → (env.set i (.ow d))[j]? = some e → env[j]? = some e := fun j e n h => by
    rcases set_cell _ _ _ _ _ h with ⟨z, _⟩ | ⟨_, z⟩
    · exact absurd z n
    · exact z
  have same : ∀ (j : Nat), j ≠ i → (σ.set i (some (V.ref p)))[j]? = σ[j]? := fun j n => List.getElem?_set_ne (Ne.symm n)
  have here : ∀ (e : Cell), (env.set i (.ow d))[i]? = some e → e = .ow d ∧ (σ.set i (some (V.ref p)))[i]? = some (some (.ref p)) := fun e h => by
    have hl := set_lt h
    rcases set_cell _ _ _ _ _ h with ⟨_, z⟩ | ⟨z, _⟩
    · exact ⟨z, List.getElem?_set_self (by rw [s.sr.len]; exact hl)⟩
    · exact absurd rfl z
  refine ⟨⟨s.sr.sub, fun j e h => ?_, fun j e h => ?_, fun j k e e' a n h h' q q' => ?_, ?_⟩, s.stp, fun j e a h q => ?_⟩
  · by_cases z : j = i
    · subst z; cases (here _ h).1
    · rw [same j z]; exact s.sr.fz j e (old j _ z h)
  · by_cases z : j = i
    · subst z
      obtain ⟨e1, e2⟩ := here _ h
      cases e1
      exact ⟨p, e2, hG, o⟩
    · rw [same j z]; exact s.sr.ow j e (old j _ z h)
  · by_cases z : j = i
    · subst z
      rw [(here _ h).2] at q
      cases q
      have n2 : k ≠ j := Ne.symm n
      rw [same k n2] at q'
      exact new k e' n2 (old k _ n2 h') q'
    · rw [same j z] at q
      by_cases z2 : k = i
      · subst z2
        rw [(here _ h').2] at q'
        cases q'
        exact new j e z (old j _ z h) q
      · rw [same k z2] at q'
        exact s.sr.apart j k e e' a n (old j _ z h) (old k _ z2 h') q q'
  · rw [List.length_set, List.length_set]; exact s.sr.len
  · by_cases z : j = i
    · subst z
      rw [(here _ h).2] at q
      cases q; exact h0
    · rw [same j z] at q
      exact s.own j e a (old j _ z h) q
/-- what is owned stands elsewhere than what was not tracked -/
theorem SB.fresh (s : SB K G0 H0 G H σ env) {H1 : Hp} {p : Addr} (n : H p = none) : ∀ (j : Nat) (e : D), env[j]? = some (.ow e) → σ[j]? ≠ some (some (.ref p)) := fun j e h q => by
  obtain ⟨a, e1, _, o⟩ := s.sr.ow j e h
  rw [q] at e1
  cases e1
  obtain ⟨u, hu, _⟩ := o.at
  rw [n] at hu; cases hu
/-- an owned thing is written -/
theorem SB.put (s : SB K G0 H0 G H σ env) {i : Nat} {d d' : D} {a : Addr} {o : HO} (h : env[i]? = some (.ow d)) (q : σ[i]? = some (some (.ref a))) (own : Own K G (upd H a o) a d') : SB K G0 H0 G (upd H a o) σ (env.set i (.ow d')) := by
  obtain ⟨a', e1, nG, ow⟩ := s.sr.ow i d h
  rw [q] at e1; cases e1
  have h0 := s.own i d a h q
  have il : i < env.length := (List.getElem?_eq_some_iff.mp h).1
  have sub : Sub G (upd H a o) := fun b u e => by
    rw [upd_ne (ne_of_none e nG)]; exact s.sr.sub _ _ e
  have old : ∀ (j : Nat) (e : Cell), j ≠ i → (env.set i (.ow d'))[j]? = some e → env[j]? = some e := fun j e n h => by
    rcases set_cell _ _ _ _ _ h with ⟨z, _⟩ | ⟨_, z⟩
    · exact absurd z n
    · exact z
  have here : ∀ (e : Cell), (env.set i (.ow d'))[i]? = some e → e = .ow d' := fun e h => by
    rcases set_cell _ _ _ _ _ h with ⟨_, z⟩ | ⟨z, _⟩
    · exact z
    · exact absurd rfl z
  refine ⟨⟨sub, fun j e hj => ?_, fun j e hj => ?_, fun j k e e' b n h1 h2 q1 q2 => ?_, ?_⟩, ⟨s.stp.le, fun b u e => ?_, s.stp.new, sub⟩, fun j e b hj qj => ?_⟩
  · by_cases z : j = i
    · subst z; cases here _ hj
    · exact s.sr.fz j e (old j _ z hj)
  · by_cases z : j = i
    · subst z
      cases here _ hj
      exact ⟨a, q, nG, own⟩
    · obtain ⟨b, eb, nb, ob⟩ := s.sr.ow j e (old j _ z hj)
      refine ⟨b, eb, nb, ob.move (.refl G) fun u hu => ?_⟩
      have ne : b ≠ a := fun w => by
        subst w
        exact s.sr.apart j i e d b z (old j _ z hj) h eb q
      rw [upd_ne ne]; exact hu
  · by_cases z : j = i
    · subst z
      have z2 : k ≠ j := Ne.symm n
      exact s.sr.apart j k d e' b n h (old k _ z2 h2) q1 q2
    · by_cases z2 : k = i
      · subst z2
        exact s.sr.apart j k e d b n (old j _ z h1) h q1 q2
      · exact s.sr.apart j k e e' b n (old j _ z h1) (old k _ z2 h2) q1 q2
  · rw [List.length_set]; exact s.sr.len
  · rw [upd_ne (ne_of_none e h0)]; exact s.stp.keep _ _ e
  · by_cases z : j = i
    · subst z; rw [q] at qj; cases qj; exact h0
    · exact s.own j e b (old j _ z hj) qj
/-- a slot forgotten -/
theorem SB.forget (s : SB K G0 H0 G H σ env) {i : Nat} {o : Option V} : SB K G0 H0 G H (σ.set i o) (env.set i .un) := by
  have old : ∀ (j : Nat) (e : Cell), e ≠ .un → (env.set i .un)[j]? = some e → j ≠ i ∧ env[j]? = some e := fun j e n h => by
    rcases set_cell _ _ _ _ _ h with ⟨_, z⟩ | z
    · exact absurd z n
    · exact z
  have same : ∀ (j : Nat), j ≠ i → (σ.set i o)[j]? = σ[j]? := fun j n => List.getElem?_set_ne (Ne.symm n)
  refine ⟨⟨s.sr.sub, fun j e h => ?_, fun j e h => ?_, fun j k e e' a n h h' q q' => ?_, ?_⟩, s.stp, fun j e a h q => ?_⟩
  · obtain ⟨n, h⟩ := old j _ (by intro z; cases z) h
    rw [same j n]; exact s.sr.fz j e h
  · obtain ⟨n, h⟩ := old j _ (by intro z; cases z) h
    rw [same j n]; exact s.sr.ow j e h
  · obtain ⟨n1, h⟩ := old j _ (by intro z; cases z) h
    obtain ⟨n2, h'⟩ := old k _ (by intro z; cases z) h'
    rw [same j n1] at q
    rw [same k n2] at q'
    exact s.sr.apart j k e e' a n h h' q q'
  · rw [List.length_set, List.length_set]; exact s.sr.len
  · obtain ⟨n, h⟩ := old j _ (by intro z; cases z) h
    rw [same j n] at q
    exact s.own j e a h q
/-- an owned thing is frozen: its slot keeps it, as it stands now -/
theorem SB.freeze (s : SB K G0 H0 G H σ env) {i : Nat} {d : D} (h : env[i]? = some (.ow d)) : ∃ G', Le G G' ∧ SB K G0 H0 G' H σ (env.set i (.fz d)) := by
  obtain ⟨a, e1, nG, ow⟩ := s.sr.ow i d h
  have h0 := s.own i d a h e1
  obtain ⟨o, ho, nt⟩ := ow.at
  have hle : Le G (upd G a o) := .of fun b u e => by rw [upd_ne (ne_of_none e nG)]; exact e
  have sub : Sub (upd G a o) H := fun b u e => by
    by_cases z : b = a
    · subst z; rw [upd_same] at e; cases e; exact ho
    · rw [upd_ne z] at e; exact s.sr.sub _ _ e
  have rep : Rep K (upd G a o) d (.ref a) := by
    cases d with
    | list ds =>
      obtain ⟨xs, hx, r⟩ := ow
      rw [ho] at hx; cases hx
      exact Rep.list_iff.mpr ⟨a, xs, rfl, upd_same, RepAll.mono hle _ r⟩
    | dict ds =>
      obtain ⟨xs, hx, r⟩ := ow
      rw [ho] at hx; cases hx
      exact Rep.dict_iff.mpr ⟨a, xs, rfl, .inl upd_same, RepK.mono hle _ r⟩
    | dictT ds =>
      obtain ⟨xs, hx, r⟩ := ow
      rw [ho] at hx; cases hx
      exact Rep.dictT_iff.mpr ⟨a, xs, rfl, .inl upd_same, RepT.mono hle _ r⟩
    | _ => exact False.elim ow
  have old : ∀ (j : Nat) (e : Cell), j ≠ i → (env.set i (.fz d))[j]? = some e → env[j]? = some e := fun j e n h => by
    rcases set_cell _ _ _ _ _ h with ⟨z, _⟩ | ⟨_, z⟩
    · exact absurd z n
    · exact z
  have no : ∀ (j : Nat) (e : D), (env.set i (.fz d))[j]? = some (.ow e) → j ≠ i := fun j e h z => by
    subst z
    rcases set_cell _ _ _ _ _ h with ⟨_, z⟩ | ⟨z, _⟩
    · cases z
    · exact z rfl
  refine ⟨upd G a o, hle, ⟨sub, fun j e hj => ?_, fun j e hj => ?_, fun j k e e' b n h1 h2 q1 q2 => ?_, ?_⟩, ⟨s.stp.le.trans hle, s.stp.keep, fun b u e => ?_, sub⟩, fun j e b hj qj => ?_⟩
  · by_cases z : j = i
    · subst z
      rcases set_cell _ _ _ _ _ hj with ⟨_, z⟩ | ⟨z, _⟩
      · cases z; exact ⟨_, e1, rep⟩
      · exact absurd rfl z
    · obtain ⟨v, ev, r⟩ := s.sr.fz j e (old j _ z hj)
      exact ⟨v, ev, r.mono hle⟩
  · have n := no j e hj
    obtain ⟨b, eb, nb, ob⟩ := s.sr.ow j e (old j _ n hj)
    have ne : b ≠ a := fun w => by
      subst w
      exact s.sr.apart j i e d b n (old j _ n hj) h eb e1
    exact ⟨b, eb, by rw [upd_ne ne]; exact nb, ob.move hle fun _ z => z⟩
  · exact s.sr.apart j k e e' b n (old j _ (no j e h1) h1) (old k _ (no k e' h2) h2) q1 q2
  · rw [List.length_set]; exact s.sr.len
  · by_cases z : b = a
    · subst z; exact .inr (.inl h0)
    · rw [upd_ne z] at e; exact s.stp.new b u e
  · exact s.own j e b (old j _ (no j e hj) hj) qj
end

/-- what is wanted behind a statement -/
def PostS (K : PySem.W.Frag) (G0 H0 G : Hp) (W : WX) (r : R Out) (D' : Ends) : Prop := match r with
  | .ok (.nx c) => ∀ σ' G' H', Le G G' → SB K G0 H0 G' H' σ' c → D'.nx σ' H'
  | .ok (.rt d) => ∀ v G' H', Stp G0 H0 G' H' → Rep K G' d v → D'.rt v H'
  | .ok (.bk c) => ∀ σ' G' H', Le G G' → SB K G0 H0 G' H' σ' c → D'.bk σ' H'
  | .ok (.ct c) => ∀ σ' G' H', Le G G' → SB K G0 H0 G' H' σ' c → D'.ct σ' H'
  | .exc C => ∀ σ' H', Same H0 H' → W (.ref C) none σ' H'
  | .bad => False
def tS (K : PySem.W.Frag) (W : WX) (f : Cells → R Out) : TS := fun D' σ H => ∃ G0 H0 G env, SB K G0 H0 G H σ env ∧ PostS K G0 H0 G W (f env) D'
abbrev ES (X : Cx) (W : WX) (st : Stmt) (f : Cells → R Out) : Prop := PS X st (tS X.K W f)
abbrev ESs (X : Cx) (W : WX) (st : List Stmt) (f : Cells → R Out) : Prop := PSs X st (tS X.K W f)
theorem PS.imp {X : Cx} {st : Stmt} {t t' : TS} (h : PS X st t) (i : ∀ D σ H, t' D σ H → t D σ H) : PS X st t' := ⟨fun pins s σ H D I q => h.run pins s σ H D I (i D σ H q)⟩
theorem PSs.imp {X : Cx} {st : List Stmt} {t t' : TS} (h : PSs X st t) (i : ∀ D σ H, t' D σ H → t D σ H) : PSs X st t' := ⟨fun pins s σ H D I q => h.run pins s σ H D I (i D σ H q)⟩
section
variable {K : PySem.W.Frag} {G0 H0 G H G' H' : Hp} {σ : L2.St} {env : Cells} {W : WX} {D' : Ends}
theorem PostS.le {r : R Out} (h : PostS K G0 H0 G W r D') (l : Le G G') : PostS K G0 H0 G' W r D' := by
  cases r with
  | ok o => cases o with
    | nx c => exact fun σ' G1 H1 l1 s => h σ' G1 H1 (l.trans l1) s
    | rt d => exact h
    | bk c => exact fun σ' G1 H1 l1 s => h σ' G1 H1 (l.trans l1) s
    | ct c => exact fun σ' G1 H1 l1 s => h σ' G1 H1 (l.trans l1) s
  | exc C => exact h
  | bad => exact h
/-- an expression within a statement -/
theorem PostS.seq {α β : Type} {Rel1 : Hp → Hp → α → β → Prop} {x : R α} {k : α → R Out} {Q1 : β → Hp → Prop} (s : SB K G0 H0 G H σ env) (h : PostS K G0 H0 G W (x >>= k) D')
    (f : ∀ a v G1 H1, x = .ok a → Stp G H G1 H1 → SB K G0 H0 G1 H1 σ env → Rel1 G1 H1 a v → PostS K G0 H0 G1 W (k a) D' → Q1 v H1) : Post G H W σ Rel1 x Q1 := by
  cases x with
  | ok a => exact fun v G1 H1 t r => f a v G1 H1 rfl t (s.step t) r (PostS.le h t.le)
  | exc C => exact fun H1 t => h σ H1 (s.stp.keep.trans t)
  | bad => exact h
end

def thenS (f g : Cells → R Out) : Cells → R Out := fun c => f c >>= fun o => match o with
  | .nx c' => g c'
  | o => .ok o
section
variable {X : Cx} {W : WX} {st : Stmt} {rest : List Stmt} {f g : Cells → R Out} {fe : Cells → R D} {e : Expr} {pos : Pos}
theorem ess_nil : ESs X W [] (fun c => .ok (.nx c)) := PSs.imp pss_nil fun D σ H ⟨G0, H0, G, env, S, P⟩ => P σ G H (.refl G) S
theorem ess_cons (h1 : ES X W st f) (h2 : ESs X W rest g) : ESs X W (st :: rest) (thenS f g) := PSs.imp (pss_cons h1 h2) fun D σ H ⟨G0, H0, G, env, S, P⟩ => by
  refine ⟨G0, H0, G, env, S, ?_⟩
  unfold thenS at P
  generalize f env = r at P ⊢
  cases r with
  | ok o => cases o with
    | nx c => exact fun σ' G' H' l s => ⟨G0, H0, G', c, s, PostS.le (r := g c) P l⟩
    | rt d => exact P
    | bk c => exact P
    | ct c => exact P
  | exc C => exact P
  | bad => exact P
theorem ess_one (h1 : ES X W st f) : ESs X W [st] f := pss_one h1
theorem es_pass : ES X W (.Pass pos) (fun c => .ok (.nx c)) := PS.imp ps_pass fun D σ H ⟨G0, H0, G, env, S, P⟩ => P σ G H (.refl G) S
theorem es_break : ES X W (.Break pos) (fun c => .ok (.bk c)) := PS.imp ps_break fun D σ H ⟨G0, H0, G, env, S, P⟩ => P σ G H (.refl G) S
theorem es_continue : ES X W (.Continue pos) (fun c => .ok (.ct c)) := PS.imp ps_continue fun D σ H ⟨G0, H0, G, env, S, P⟩ => P σ G H (.refl G) S
theorem es_drop (he : EV X W e fe) (hs : swapsWith e none pos.line X.env = pure false) : ES X W (.Expr e pos) (fun c => fe c >>= fun _ => .ok (.nx c)) := PS.imp (ps_expr he hs) fun D σ H ⟨G0, H0, G, env, S, P⟩ =>
  ⟨G, env, S.sr, PostS.seq (Rel1 := RV X.K) (x := fe env) (k := fun _ => .ok (.nx env)) S P fun d v G1 H1 _ s1 S1 r1 P1 => P1 σ G1 H1 (.refl G1) S1⟩
theorem es_ret (he : EV X W e fe) : ES X W (.Return (some e) pos) (fun c => fe c >>= fun d => .ok (.rt d)) := PS.imp (ps_ret he) fun D σ H ⟨G0, H0, G, env, S, P⟩ =>
  ⟨G, env, S.sr, PostS.seq (Rel1 := RV X.K) (x := fe env) (k := fun d => .ok (.rt d)) S P fun d v G1 H1 _ s1 S1 r1 P1 => P1 v G1 H1 S1.stp r1⟩
theorem es_retN : ES X W (.Return none pos) (fun _ => .ok (.rt .none)) := PS.imp ps_retN fun D σ H ⟨G0, H0, G, env, S, P⟩ => P .non G H S.stp (Rep.none_iff.mpr rfl)
theorem rdB_cases (i : Nat) (c : Cells) : rdB i c = .bad ∨ ∃ d, rdB i c = .ok d ∧ (c[i]? = some (.fz d) ∨ c[i]? = some (.ow d)) := by
  unfold rdB
  split
  · rename_i d h; exact .inr ⟨d, rfl, .inl h⟩
  · rename_i d h; exact .inr ⟨d, rfl, .inr h⟩
  · exact .inl rfl
/-- return x, x owned or not -/
theorem es_retName (i : Nat) {x : Str} {p : Pos} (hN : X.N[i]? = some x) (hv : Vis X.env.scope x) (hd : (x == ("__debug__" : Str)) = false) (hcd : (x == ("__classdict__" : Str)) = false) : ES X W (.Return (some (.Name x p)) pos) (fun c => rdB i c >>= fun d => .ok (.rt d)) :=
  PS.imp (ps_ret (pe_var hN hv hd hcd)) fun D σ H ⟨G0, H0, G, env, S, P⟩ => by
    change PostS X.K G0 H0 G W (rdB i env >>= fun d => .ok (.rt d)) D at P
    rcases rdB_cases i env with e | ⟨d, e, h | h⟩
    · rw [e] at P; exact False.elim P
    · rw [e] at P
      obtain ⟨v, e1, r⟩ := S.sr.fz i d h
      exact ⟨v, e1, P v G H S.stp r⟩
    · rw [e] at P
      obtain ⟨G', l, S'⟩ := S.freeze h
      have il : i < env.length := (List.getElem?_eq_some_iff.mp h).1
      obtain ⟨v, e1, r⟩ := S'.sr.fz i d (List.getElem?_set_self il)
      exact ⟨v, e1, P v G' H S'.stp r⟩
def ifS (p : Cells → R Bool) (f g : Cells → R Out) : Cells → R Out := fun c => p c >>= fun b => if b = true then f c else g c
theorem es_if {c : Expr} {a b : List Stmt} {p : Cells → R Bool} (hc : ET X W c p) (ha : ESs X W a f) (hb : ESs X W b g) : ES X W (.If c a b pos) (ifS p f g) := PS.imp (ps_if hc ha hb) fun D σ H ⟨G0, H0, G, env, S, P⟩ => by
  refine ⟨G, env, S.sr, PostS.seq (Rel1 := RT) (x := p env) (k := fun b => if b = true then f env else g env) S P fun b v G1 H1 _ s1 S1 r1 P1 => ?_⟩
  subst r1
  cases b with
  | true => rw [if_pos rfl] at P1 ⊢; exact ⟨G0, H0, G1, env, S1, P1⟩
  | false => exact ⟨G0, H0, G1, env, S1, P1⟩

/-- x = e -/
theorem es_set (i : Nat) {x : Str} {p : Pos} (hN : X.N.Nodup) (hi : X.N[i]? = some x) (hx : Loc X.env.scope x) (hf : X.fn x = true ∨ X.env.scope.names.lookup x = some .local) (he : EV X W e fe) (hs : swapsWith e (some (.Name x p)) pos.line X.env = pure false) :
    ES X W (.Assign [.Name x p] e pos) (fun c => fe c >>= fun d => .ok (.nx (c.set i (.fz d)))) := PS.imp (ps_set hN hi hx he hs hf) fun D σ H ⟨G0, H0, G, env, S, P⟩ =>
  ⟨G, env, S.sr, PostS.seq (Rel1 := RV X.K) (x := fe env) (k := fun d => .ok (.nx (env.set i (.fz d)))) S P fun d v G1 H1 _ s1 S1 r1 P1 => P1 _ G1 H1 (.refl G1) (S1.setFz r1)⟩
/-- x = [..], to be grown -/
theorem es_setO (i : Nat) {x : Str} {p : Pos} (hN : X.N.Nodup) (hi : X.N[i]? = some x) (hx : Loc X.env.scope x) (hf : X.fn x = true ∨ X.env.scope.names.lookup x = some .local) (he : EL X W e fe) (hs : swapsWith e (some (.Name x p)) pos.line X.env = pure false) :
    ES X W (.Assign [.Name x p] e pos) (fun c => fe c >>= fun d => .ok (.nx (c.set i (.ow d)))) := PS.imp (ps_set hN hi hx he hs hf) fun D σ H ⟨G0, H0, G, env, S, P⟩ =>
  ⟨G, env, S.sr, PostS.seq (Rel1 := RL X.K H) (x := fe env) (k := fun d => .ok (.nx (env.set i (.ow d)))) S P fun d v G1 H1 _ s1 S1 r1 P1 => by
    obtain ⟨q, rfl, n0, nG, o⟩ := r1
    exact P1 _ G1 H1 (.refl G1) (S1.setOw (S.stp.keep.free n0) nG o fun j e _ h => S.fresh (H1 := H) n0 j e h)⟩
/-- y = x, x owned: it is x's no more -/
theorem es_move (i j : Nat) {x y : Str} {p p2 : Pos} (hN : X.N.Nodup) (hi : X.N[i]? = some x) (hx : Loc X.env.scope x) (hf : X.fn x = true ∨ X.env.scope.names.lookup x = some .local) (hj : X.N[j]? = some y) (hv : Vis X.env.scope y) (hd : (y == ("__debug__" : Str)) = false) (hcd : (y == ("__classdict__" : Str)) = false)
    (hs : swapsWith (.Name y p2) (some (.Name x p)) pos.line X.env = pure false) :
    ES X W (.Assign [.Name x p] (.Name y p2) pos) (fun c => rdB j c >>= fun d => .ok (.nx ((c.set j (.fz d)).set i (.fz d)))) := PS.imp (ps_set hN hi hx (pe_var hj hv hd hcd) hs hf) fun D σ H ⟨G0, H0, G, env, S, P⟩ => by
    change PostS X.K G0 H0 G W (rdB j env >>= fun d => .ok (.nx ((env.set j (.fz d)).set i (.fz d)))) D at P
    rcases rdB_cases j env with e | ⟨d, e, h | h⟩
    · rw [e] at P; exact False.elim P
    · rw [e] at P
      have il : j < env.length := (List.getElem?_eq_some_iff.mp h).1
      obtain ⟨v, e1, r⟩ := S.sr.fz j d h
      have e2 : env.set j (.fz d) = env := List.ext_getElem? fun k => by
        rw [List.getElem?_set]
        split
        · rename_i e; subst e; rw [h]
        · rfl
      refine ⟨v, e1, P _ G H (.refl G) ?_⟩
      rw [e2]
      exact S.setFz r
    · rw [e] at P
      have il : j < env.length := (List.getElem?_eq_some_iff.mp h).1
      obtain ⟨G', l, S'⟩ := S.freeze h
      obtain ⟨v, e1, r⟩ := S'.sr.fz j d (List.getElem?_set_self il)
      exact ⟨v, e1, P _ G' H l (S'.setFz r)⟩
end
end PL
end S8
noncomputable section S9
namespace PL
open PySem PySem.Spec PyProof.Rows L2

/-- only the slots is differ -/
def Agree (is : List Nat) (σ σ' : L2.St) : Prop := σ'.length = σ.length ∧ ∀ j, j ∉ is → σ'[j]? = σ[j]?
theorem Agree.trans {is js : List Nat} {σ σ1 σ2 : L2.St} (a : Agree is σ σ1) (b : Agree js σ1 σ2) : Agree (is ++ js) σ σ2 :=
  ⟨b.1.trans a.1, fun j h => by
    rw [List.mem_append, not_or] at h
    exact (b.2 j h.2).trans (a.2 j h.1)⟩
def tGt (K : PySem.W.Frag) (is : List Nat) (gf : D → Cells → Option Cells) : TG := fun v σ H Q => ∃ G0 H0 G env d, SB K G0 H0 G H σ env ∧ Rep K G d v ∧ ∃ c, gf d env = some c ∧ ∀ σ', SB K G0 H0 G H σ' c → Agree is σ σ' → Q σ' H
def tGts (K : PySem.W.Frag) (is : List Nat) (gf : List D → Cells → Option Cells) : TGs := fun vs σ H Q => ∃ G0 H0 G env ds, SB K G0 H0 G H σ env ∧ RepAll K G ds vs ∧ ∃ c, gf ds env = some c ∧ ∀ σ', SB K G0 H0 G H σ' c → Agree is σ σ' → Q σ' H
abbrev EG (X : Cx) (tg : Expr) (is : List Nat) (gf : D → Cells → Option Cells) : Prop := PG X tg (tGt X.K is gf)
abbrev EGs (X : Cx) (ts : List Expr) (is : List Nat) (gf : List D → Cells → Option Cells) : Prop := PGs X ts (tGts X.K is gf)
theorem PG.imp {X : Cx} {e : Expr} {t t' : TG} (h : PG X e t) (i : ∀ v σ H Q, t' v σ H Q → t v σ H Q) : PG X e t' := ⟨fun pins s σ H v u Q I r q => h.run pins s σ H v u Q I r (i v σ H Q q)⟩
theorem PGs.imp {X : Cx} {e : List Expr} {t t' : TGs} (h : PGs X e t) (i : ∀ v σ H Q, t' v σ H Q → t v σ H Q) : PGs X e t' := ⟨fun pins s σ H v u Q I r q => h.run pins s σ H v u Q I r (i v σ H Q q)⟩
def gN (i : Nat) : D → Cells → Option Cells := fun d c => some (c.set i (.fz d))
def gsNil : List D → Cells → Option Cells := fun ds c => match ds with
  | [] => some c
  | _ => none
def gsCons (g : D → Cells → Option Cells) (gs : List D → Cells → Option Cells) : List D → Cells → Option Cells := fun ds c => match ds with
  | [] => none
  | d :: ds => match g d c with
    | some c' => gs ds c'
    | none => none
def gT (n : Nat) (gs : List D → Cells → Option Cells) : D → Cells → Option Cells := fun d c => match d with
  | .tuple ds => if ds.length = n then gs ds c else none
  | .ftuple ds => if ds.length = n then gs ds c else none
  | _ => none
section
variable {X : Cx} {W : WX} {e : Expr} {es : List Expr} {pos : Pos}
theorem eg_name (i : Nat) {x : Str} (hN : X.N.Nodup) (hi : X.N[i]? = some x) (hx : Loc X.env.scope x) (hf : X.fn x = true ∨ X.env.scope.names.lookup x = some .local) : EG X (.Name x pos) [i] (gN i) :=
  PG.imp (pg_name hN hi hx hf) fun v σ H Q ⟨G0, H0, G, env, d, S, r, c, e, q⟩ => by
    cases e
    exact q _ (S.setFz r) ⟨List.length_set, fun j hj => List.getElem?_set_ne (fun z => hj (by simp [z]))⟩
theorem egs_nil : EGs X [] [] gsNil := PGs.imp pgs_nil fun vs σ H Q ⟨G0, H0, G, env, ds, S, r, c, e, q⟩ => by
  cases ds with
  | nil =>
    cases e
    exact ⟨RepAll.nil_iff.mp r, q _ S ⟨rfl, fun _ _ => rfl⟩⟩
  | cons d ds => cases e
theorem egs_cons {g : D → Cells → Option Cells} {gs : List D → Cells → Option Cells} {is js : List Nat} (h1 : EG X e is g) (h2 : EGs X es js gs) (hs : (assignEach (e :: es) X.env).map (·.2) = assign e X.env :: (assignEach es X.env).map (·.2)) : EGs X (e :: es) (is ++ js) (gsCons g gs) :=
  PGs.imp (pgs_cons h1 h2 hs) fun vs σ H Q ⟨G0, H0, G, env, ds, S, r, c, e, q⟩ => by
    cases ds with
    | nil => cases e
    | cons d ds =>
      obtain ⟨v, ws, rfl, r1, r2⟩ := RepAll.cons_iff.mp r
      unfold gsCons at e
      cases eg : g d env with
      | some c1 =>
        simp only [eg] at e
        exact ⟨v, ws, rfl, G0, H0, G, env, d, S, r1, c1, eg, fun σ' S' a1 => ⟨G0, H0, G, c1, ds, S', r2, c, e, fun σ2 S2 a2 => q σ2 S2 (a1.trans a2)⟩⟩
      | none => simp only [eg] at e; cases e
theorem eg_tup {k : Nat} {n : Nat} {gs : List D → Cells → Option Cells} (hc : X.calm = true) {is : List Nat} (h : EGs X es is gs) (hn : (assignEach es X.env).length = n) (hst : (assignEach es X.env).findIdx? (·.1) = none) : EG X (.Tuple es k pos) is (gT n gs) :=
  PG.imp (pg_tup hc h hn hst) fun v σ H Q ⟨G0, H0, G, env, d, S, r, c, e, q⟩ => by
    unfold gT at e
    split at e
    · split at e
      · rename_i ds hl
        obtain ⟨a, xs, rfl, ha, ra⟩ := Rep.tuple_iff.mp r
        exact ⟨a, xs, rfl, .of (S.sr.sub _ _ ha), by rw [ra.length]; exact hl, G0, H0, G, env, ds, S, ra, c, e, q⟩
      · cases e
    · split at e
      · rename_i ds hl
        obtain ⟨a, xs, rfl, ha, ra⟩ := Rep.ftuple_iff.mp r
        exact ⟨a, xs, rfl, S.sr.sub.sqT ha, by rw [ra.length]; exact hl, G0, H0, G, env, ds, S, ra, c, e, q⟩
      · cases e
    · cases e
def ofO : Option Cells → R Out
  | some c => .ok (.nx c)
  | none => .bad
/-- target = e -/
theorem es_asg {tg : Expr} {fe : Cells → R D} {g : D → Cells → Option Cells} {is : List Nat} (he : EV X W e fe) (hg : EG X tg is g) (hs : swapsWithSole [tg] e pos.line X.env = pure false) (hw : swappedStores [tg] e X.env = pure none) (h1 : (assignEach [tg] X.env).map (·.2) = [assign tg X.env]) :
    ES X W (.Assign [tg] e pos) (fun c => fe c >>= fun d => ofO (g d c)) := PS.imp (ps_asg he hg hs hw h1) fun D σ H ⟨G0, H0, G, env, S, P⟩ =>
  ⟨G, env, S.sr, PostS.seq (Rel1 := RV X.K) (x := fe env) (k := fun d => ofO (g d env)) S P fun d v G1 H1 _ s1 S1 r1 P1 => by
    cases eg : g d env with
    | some c =>
      rw [eg] at P1
      exact ⟨G0, H0, G1, env, d, S1, r1, c, eg, fun σ' S' _ => P1 σ' G1 H1 (.refl G1) S'⟩
    | none => rw [eg] at P1; exact False.elim P1⟩

def RC (K : PySem.W.Frag) (H0 G H : Hp) : Cell → V → Prop
  | .un, _ => False
  | .fz d, v => Rep K G d v
  | .ow d, v => ∃ p, v = .ref p ∧ H0 p = none ∧ G p = none ∧ Own K G H p d
def isOw : Cell → Prop
  | .ow _ => True
  | _ => False
def RCs (K : PySem.W.Frag) (H0 G H : Hp) : List Cell → List V → Prop
  | [], vs => vs = []
  | c :: cs, vs => ∃ v r, vs = v :: r ∧ RC K H0 G H c v ∧ (isOw c → ∀ c' v', (c', v') ∈ cs.zip r → isOw c' → v' ≠ v) ∧ RCs K H0 G H cs r
abbrev EAC (X : Cx) (W : WX) (es : List Expr) (f : Cells → R (List Cell)) : Prop := PA X es (tG X.K W (RCs X.K) f)
theorem RC.later {K : PySem.W.Frag} {H0 H1 G H : Hp} (s : Same H0 H1) : ∀ {cs : List Cell} {vs : List V}, RCs K H1 G H cs vs → RCs K H0 G H cs vs
  | [], _, h => h
  | c :: cs, _, ⟨v, r, e, h1, h2, h3⟩ => ⟨v, r, e, by
    cases c with
    | un => exact h1
    | fz d => exact h1
    | ow d => obtain ⟨p, e, n, g, o⟩ := h1; exact ⟨p, e, s.free n, g, o⟩, h2, RC.later s h3⟩
theorem RCs.fresh {K : PySem.W.Frag} {H0 G H : Hp} {a : Addr} {o : HO} (h : H0 a = some o) : ∀ {cs : List Cell} {vs : List V}, RCs K H0 G H cs vs → ∀ c' v', (c', v') ∈ cs.zip vs → isOw c' → v' ≠ .ref a
  | [], _, e, c', v', hm, _ => by rw [show _ = [] from e] at hm; cases hm
  | c :: cs, _, ⟨v, r, e, h1, h2, h3⟩, c', v', hm, ow => by
    subst e
    rcases List.mem_cons.mp hm with z | z
    · cases z
      cases c with
      | un => exact False.elim ow
      | fz d => exact False.elim ow
      | ow d =>
        obtain ⟨p, e, n, _⟩ := h1
        intro z
        rw [e] at z
        cases z
        rw [h] at n; cases n
    · exact RCs.fresh h h3 c' v' z ow
theorem eac_nil : EAC X W [] (fun _ => .ok []) := PA.imp pa_nil fun σ H Q ⟨G, env, S, P⟩ => P [] G H (.refl S.sub) rfl
theorem eac_fz {f : Cells → R D} {g : Cells → R (List Cell)} (ha : EV X W e f) (hr : EAC X W es g) (hs : starEach (e :: es) X.env = (false, eval e X.env) :: starEach es X.env) : EAC X W (e :: es) (fun c => f c >>= fun d => g c >>= fun ds => .ok (.fz d :: ds)) :=
  PA.imp (pa_cons ha hr hs) fun σ H Q ⟨G, env, S, P⟩ => by
    refine ⟨G, env, S, Post.seq (Rel1 := RV X.K) (x := f env) (k := fun d => g env >>= fun ds => R.ok (Cell.fz d :: ds)) P fun d v G1 H1 _ s1 r1 P1 => ?_⟩
    refine ⟨G1, env, S.step s1, Post.seq (Rel1 := RCs X.K H1) (x := g env) (k := fun ds => R.ok (Cell.fz d :: ds)) P1 fun ds vs G2 H2 _ s2 r2 P2 => ?_⟩
    exact P2 (v :: vs) G2 H2 (.refl s2.sub) ⟨v, vs, rfl, r1.mono s2.le, fun z => False.elim z, RC.later s1.keep r2⟩
theorem eac_ow {f : Cells → R D} {g : Cells → R (List Cell)} (ha : EL X W e f) (hr : EAC X W es g) (hs : starEach (e :: es) X.env = (false, eval e X.env) :: starEach es X.env) : EAC X W (e :: es) (fun c => f c >>= fun d => g c >>= fun ds => .ok (.ow d :: ds)) :=
  PA.imp (pa_cons ha hr hs) fun σ H Q ⟨G, env, S, P⟩ => by
    refine ⟨G, env, S, Post.seq (Rel1 := RL X.K H) (x := f env) (k := fun d => g env >>= fun ds => R.ok (Cell.ow d :: ds)) P fun d v G1 H1 _ s1 r1 P1 => ?_⟩
    obtain ⟨p, rfl, n0, nG, o⟩ := r1
    obtain ⟨u, hu, _⟩ := o.at
    refine ⟨G1, env, S.step s1, Post.seq (Rel1 := RCs X.K H1) (x := g env) (k := fun ds => R.ok (Cell.ow d :: ds)) P1 fun ds vs G2 H2 _ s2 r2 P2 => ?_⟩
    obtain ⟨nG2, o2⟩ := o.step nG s2
    exact P2 _ G2 H2 (.refl s2.sub) ⟨_, vs, rfl, ⟨p, rfl, n0, nG2, o2⟩, fun _ => RCs.fresh hu r2, RC.later s1.keep r2⟩
/-- the cells go to the slots, one by one -/
def setCs : List Nat → List Cell → Cells → Option Cells
  | [], [], c => some c
  | i :: is, x :: xs, c => setCs is xs (c.set i x)
  | _, _, _ => none
def setVs : List Nat → List V → L2.St → L2.St
  | i :: is, v :: vs, σ => setVs is vs (σ.set i (some v))
  | _, _, σ => σ
theorem SB.setCs {K : PySem.W.Frag} {G0 H0 G H Hs : Hp} : ∀ {is : List Nat} {cs : List Cell} {vs : List V} {σ : L2.St} {env c : Cells}, SB K G0 H0 G H σ env → Same H0 Hs → RCs K Hs G H cs vs → (∀ (j : Nat) (e : D) c' v', env[j]? = some (.ow e) → (c', v') ∈ cs.zip vs → isOw c' → σ[j]? ≠ some (some v')) → PL.setCs is cs env = some c → SB K G0 H0 G H (setVs is vs σ) c ∧ vs.length = is.length
  | [], [], vs, σ, env, c, S, _, r, _, e => by
    cases e
    rw [show vs = [] from r]
    exact ⟨S, rfl⟩
  | i :: is, x :: xs, vs, σ, env, c, S, k, r, fr, e => by
    obtain ⟨v, r', rfl, h1, h2, h3⟩ := r
    have e' : PL.setCs is xs (env.set i x) = some c := e
    have step : SB K G0 H0 G H (σ.set i (some v)) (env.set i x) := by
      cases x with
      | un => exact False.elim h1
      | fz d => exact S.setFz h1
      | ow d =>
        obtain ⟨p, rfl, n0, nG, o⟩ := h1
        exact S.setOw (k.free n0) nG o fun j e _ hj => fr j e _ _ hj List.mem_cons_self trivial
    obtain ⟨a1, a2⟩ := SB.setCs (is := is) step k h3 (fun j e0 c' v' hj hm ow => by
      by_cases z : j = i
      · subst z
        have hl := set_lt hj
        have hx : x = .ow e0 := by
          rcases set_cell _ _ _ _ _ hj with ⟨_, z⟩ | ⟨z, _⟩
          · exact z.symm
          · exact absurd rfl z
        subst hx
        rw [List.getElem?_set_self (by rw [S.sr.len]; exact hl)]
        intro q
        cases q
        exact h2 trivial c' _ hm ow rfl
      · have hj' : env[j]? = some (.ow e0) := by
          rcases set_cell _ _ _ _ _ hj with ⟨w, _⟩ | ⟨_, w⟩
          · exact absurd w z
          · exact w
        rw [List.getElem?_set_ne (Ne.symm z)]
        exact fr j e0 c' v' hj' (List.mem_cons_of_mem _ hm) ow) e'
    exact ⟨a1, by simp [a2]⟩
  | [], x :: xs, _, _, _, _, _, _, _, _, e => by cases e
  | i :: is, [], _, _, _, _, _, _, _, _, e => by cases e
def parS (is : List Nat) (f : Cells → R (List Cell)) : Cells → R Out := fun c => f c >>= fun cs => ofO (setCs is cs c)
theorem par_run {is : List Nat} {f : Cells → R (List Cell)} {D' : Ends} {σ : L2.St} {H : Hp} (q : tS X.K W (parS is f) D' σ H) : tG X.K W (RCs X.K) f σ H (fun vs H1 => vs.length = is.length ∧ D'.nx (setVs is vs σ) H1) := by
  obtain ⟨G0, H0, G, env, S, P⟩ := q
  refine ⟨G, env, S.sr, PostS.seq (Rel1 := RCs X.K H) (x := f env) (k := fun cs => ofO (setCs is cs env)) S P fun cs vs G1 H1 _ s1 S1 r1 P1 => ?_⟩
  cases eg : setCs is cs env with
  | none => rw [eg] at P1; exact False.elim P1
  | some c =>
    rw [eg] at P1
    obtain ⟨a1, a2⟩ := S1.setCs S.stp.keep r1 (fun j e c' v' hj hm ow z => by
      obtain ⟨a, e1, _, o⟩ := S.sr.ow j e hj
      rw [z] at e1
      cases e1
      obtain ⟨u, hu, _⟩ := o.at
      exact RCs.fresh hu r1 c' _ hm ow rfl) eg
    exact ⟨a2, P1 _ G1 H1 (.refl G1) a1⟩
theorem es_par2 (i j : Nat) {x y : Str} {a b : Expr} {px py pt : Pos} {kt k2 pt2} {f : Cells → R (List Cell)} (hc : X.calm = true) (hN : X.N.Nodup) (hi : X.N[i]? = some x) (hj : X.N[j]? = some y) (hij : i ≠ j)
    (hx : X.env.scope.names.lookup x = some .local) (hy : X.env.scope.names.lookup y = some .local) (ha : EAC X W [a, b] f)
    (hw : swappedStores [.Tuple [.Name x px, .Name y py] kt pt] (.Tuple [a, b] k2 pt2) X.env = pure (some [x, y]))
    (hs : swapsWithSole [.Tuple [.Name x px, .Name y py] kt pt] (.Tuple [a, b] k2 pt2) pos.line X.env = pure false) :
    ES X W (.Assign [.Tuple [.Name x px, .Name y py] kt pt] (.Tuple [a, b] k2 pt2) pos) (parS [i, j] f) := PS.imp (ps_par hc hN hi hj hij hx hy ha hw hs) fun D σ H q => by
  obtain ⟨G, env, S, P⟩ := par_run q
  refine ⟨G, env, S, P.imp fun a v G1 H1 _ s r k => ?_⟩
  obtain ⟨e, z⟩ := k v G1 H1 (.refl s.sub) r
  match v, e with
  | [v, w], _ => exact ⟨v, w, rfl, z⟩
theorem es_par3 (i j l : Nat) {x y z : Str} {a b c : Expr} {px py pz pt : Pos} {kt k2 pt2} {f : Cells → R (List Cell)} (hc : X.calm = true) (hN : X.N.Nodup) (hi : X.N[i]? = some x) (hj : X.N[j]? = some y) (hl : X.N[l]? = some z) (hij : i ≠ j) (hil : i ≠ l) (hjl : j ≠ l)
    (hx : X.env.scope.names.lookup x = some .local) (hy : X.env.scope.names.lookup y = some .local) (hz : X.env.scope.names.lookup z = some .local) (ha : EAC X W [a, b, c] f)
    (hw : swappedStores [.Tuple [.Name x px, .Name y py, .Name z pz] kt pt] (.Tuple [a, b, c] k2 pt2) X.env = pure (some [x, y, z]))
    (hs : swapsWithSole [.Tuple [.Name x px, .Name y py, .Name z pz] kt pt] (.Tuple [a, b, c] k2 pt2) pos.line X.env = pure false) :
    ES X W (.Assign [.Tuple [.Name x px, .Name y py, .Name z pz] kt pt] (.Tuple [a, b, c] k2 pt2) pos) (parS [i, j, l] f) := PS.imp (ps_par3 hc hN hi hj hl hij hil hjl hx hy hz ha hw hs) fun D σ H q => by
  obtain ⟨G, env, S, P⟩ := par_run q
  refine ⟨G, env, S, P.imp fun a v G1 H1 _ s r k => ?_⟩
  obtain ⟨e, z⟩ := k v G1 H1 (.refl s.sub) r
  match v, e with
  | [v, w, u], _ => exact ⟨v, w, u, rfl, z⟩
/-- several names, one after another, of a tuple that was just laid -/
inductive Slots (X : Cx) : List Expr → List Nat → Prop
  | nil : Slots X [] []
  | cons {i : Nat} {x : Str} {p : Pos} {es : List Expr} {is : List Nat} (hi : X.N[i]? = some x) (hx : Loc X.env.scope x) (hf : X.fn x = true ∨ X.env.scope.names.lookup x = some .local)
      (hs : (assignEach (.Name x p :: es) X.env).map (·.2) = assign (.Name x p) X.env :: (assignEach es X.env).map (·.2)) (t : Slots X es is) : Slots X (.Name x p :: es) (i :: is)
theorem slots_pgs (hN : X.N.Nodup) : ∀ {es : List Expr} {is : List Nat}, Slots X es is → PGs X es (fun vs σ H Q => vs.length = is.length ∧ Q (setVs is vs σ) H)
  | _, _, .nil => PGs.imp pgs_nil fun vs σ H Q ⟨e, q⟩ => by
    match vs, e with
    | [], _ => exact ⟨rfl, q⟩
  | _, _, .cons hi hx hf hs t => PGs.imp (pgs_cons (pg_name hN hi hx hf) (slots_pgs hN t) hs) fun vs σ H Q ⟨e, q⟩ => by
    match vs, e with
    | v :: r, e => exact ⟨v, r, rfl, by simpa using e, q⟩
theorem es_parN (is : List Nat) {ts es : List Expr} {k k2 n : Nat} {p p2 : Pos} {f : Cells → R (List Cell)} (hc : X.calm = true) (hN : X.N.Nodup) (sl : Slots X ts is) (ha : EAC X W es f) (hn : (assignEach ts X.env).length = is.length) (hst : (assignEach ts X.env).findIdx? (·.1) = none)
    (hs : swapsWithSole [.Tuple ts k p] (.Tuple es k2 p2) pos.line X.env = pure false) (hw : swappedStores [.Tuple ts k p] (.Tuple es k2 p2) X.env = pure none) (h1 : (assignEach [.Tuple ts k p] X.env).map (·.2) = [assign (.Tuple ts k p) X.env]) (hlen : is.length ≤ lim) :
    ES X W (.Assign [.Tuple ts k p] (.Tuple es k2 p2) pos) (parS is f) := PS.imp (ps_asg (pe_tup ha) (pg_tup hc (slots_pgs hN sl) hn hst) hs hw h1) fun D σ H q => by
  obtain ⟨G0, H0, G, env, S, P⟩ := q
  refine ⟨G, env, S.sr, PostS.seq (Rel1 := RCs X.K H) (x := f env) (k := fun cs => ofO (setCs is cs env)) S P fun cs vs G1 H1 _ s1 S1 r1 P1 => ?_⟩
  cases eg : setCs is cs env with
  | none => rw [eg] at P1; exact False.elim P1
  | some c =>
    rw [eg] at P1
    obtain ⟨a1, a2⟩ := S1.setCs S.stp.keep r1 (fun j e c' v' hj hm ow z => by
      obtain ⟨a, e1, _, o⟩ := S.sr.ow j e hj
      rw [z] at e1
      cases e1
      obtain ⟨u, hu, _⟩ := o.at
      exact RCs.fresh hu r1 c' _ hm ow rfl) eg
    refine ⟨lim_le (by rw [a2]; exact hlen), fun t nt => ⟨t, vs, rfl, .of upd_same, a2, a2, ?_⟩⟩
    exact P1 _ G1 _ (.refl G1) (a1.step (Stp.made S1.sr.sub nt))
end
end PL
end S9
noncomputable section S10
namespace PL
open PySem PySem.Spec PyProof.Rows L2
def appS (i : Nat) (fe : Cells → R D) : Cells → R Out := fun c => match c[i]? with
  | some (.ow (.list xs)) => fe c >>= fun d => if xs.length < lim then .ok (.nx (c.set i (.ow (.list (xs ++ [d]))))) else .bad
  | _ => .bad
def extS (i : Nat) (fe : Cells → R D) : Cells → R Out := fun c => match c[i]? with
  | some (.ow (.list xs)) => fe c >>= fun d => match d with
    | .list ys => if xs.length + ys.length ≤ lim then .ok (.nx (c.set i (.ow (.list (xs ++ ys))))) else .bad
    | _ => .bad
  | _ => .bad
def putD {κ : Type} [DecidableEq κ] (kvs : List (κ × D)) (k : κ) (v : D) : List (κ × D) :=
  if kvs.any fun kv => decide (kv.1 = k) then kvs.map fun kv => if kv.1 = k then (kv.1, v) else kv else kvs ++ [(k, v)]
def dput (d0 k v : D) : R D := match d0 with
  | .dict kvs => match keyOf k with
    | some k => if kvs.length < lim then .ok (.dict (putD kvs k v)) else .bad
    | none => .bad
  | .dictT kvs => match k with
    | .tuple ds => match keysOf ds with
      | some k => if kvs.length < lim then .ok (.dictT (putD kvs k v)) else .bad
      | none => .bad
    | _ => .bad
  | _ => .bad
def dputS (i : Nat) (fv fk : Cells → R D) : Cells → R Out := fun c => fv c >>= fun v => match c[i]? with
  | some (.ow d0) => fk c >>= fun k => dput d0 k v >>= fun d => .ok (.nx (c.set i (.ow d)))
  | _ => .bad
def lputS (i : Nat) (fv fk : Cells → R D) : Cells → R Out := fun c => fv c >>= fun v => match c[i]? with
  | some (.ow (.list xs)) => fk c >>= fun k => match k with
    | .int j => match ixN xs.length j with
      | some n => .ok (.nx (c.set i (.ow (.list (xs.set n v)))))
      | none => .bad
    | _ => .bad
  | _ => .bad
def augS (i : Nat) (o : D → D → R D) (fe : Cells → R D) : Cells → R Out := fun c => rdV i c >>= fun x => fe c >>= fun y => o x y >>= fun d => .ok (.nx (c.set i (.fz d)))
section
variable {K : PySem.W.Frag} {G : Hp}
theorem RepK.any (k : Key) : ∀ {ds : List (Key × D)} {xs : List (Key × V)}, RepK K G ds xs → (xs.any fun kv => decide (kv.1 = k)) = ds.any fun kv => decide (kv.1 = k)
  | [], _, r => by rw [RepK] at r; subst r; rfl
  | (k', d) :: ds, _, r => by
    obtain ⟨v, vs, rfl, h, t⟩ := RepK.cons_iff.mp r
    rw [List.any_cons, List.any_cons, RepK.any k t]
theorem RepK.repl (k : Key) {d : D} {v : V} (r0 : Rep K G d v) : ∀ {ds : List (Key × D)} {xs : List (Key × V)}, RepK K G ds xs → RepK K G (ds.map fun kv => if kv.1 = k then (kv.1, d) else kv) (xs.map fun kv => if kv.1 = k then (kv.1, v) else kv)
  | [], _, r => by rw [RepK] at r; subst r; exact .nil
  | (k', e) :: ds, _, r => by
    obtain ⟨u, vs, rfl, h, t⟩ := RepK.cons_iff.mp r
    rw [List.map_cons, List.map_cons]
    by_cases e : k' = k
    · simp only [e, if_true]
      exact RepK.cons_iff.mpr ⟨_, _, rfl, r0, RepK.repl k r0 t⟩
    · simp only [e, if_false]
      exact RepK.cons_iff.mpr ⟨_, _, rfl, h, RepK.repl k r0 t⟩
theorem RepK.snoc {k : Key} {d : D} {v : V} (r0 : Rep K G d v) : ∀ {ds : List (Key × D)} {xs : List (Key × V)}, RepK K G ds xs → RepK K G (ds ++ [(k, d)]) (xs ++ [(k, v)])
  | [], _, r => by rw [RepK] at r; subst r; exact RepK.cons_iff.mpr ⟨_, _, rfl, r0, .nil⟩
  | (k', e) :: ds, _, r => by
    obtain ⟨u, vs, rfl, h, t⟩ := RepK.cons_iff.mp r
    exact RepK.cons_iff.mpr ⟨_, _, rfl, h, RepK.snoc r0 t⟩
theorem RepK.put {ds : List (Key × D)} {xs : List (Key × V)} (r : RepK K G ds xs) (k : Key) {d : D} {v : V} (r0 : Rep K G d v) : RepK K G (putD ds k d) (putK xs k v) := by
  unfold putD putK
  rw [r.any k]
  split
  · exact r.repl k r0
  · exact r.snoc r0
theorem RepT.any (k : List Key) : ∀ {ds : List (List Key × D)} {xs : List (List Key × V)}, RepT K G ds xs → (xs.any fun kv => decide (kv.1 = k)) = ds.any fun kv => decide (kv.1 = k)
  | [], _, r => by rw [RepT] at r; subst r; rfl
  | (k', d) :: ds, _, r => by
    obtain ⟨v, vs, rfl, h, t⟩ := RepT.cons_iff.mp r
    rw [List.any_cons, List.any_cons, RepT.any k t]
theorem RepT.repl (k : List Key) {d : D} {v : V} (r0 : Rep K G d v) : ∀ {ds : List (List Key × D)} {xs : List (List Key × V)}, RepT K G ds xs → RepT K G (ds.map fun kv => if kv.1 = k then (kv.1, d) else kv) (xs.map fun kv => if kv.1 = k then (kv.1, v) else kv)
  | [], _, r => by rw [RepT] at r; subst r; exact .nil
  | (k', e) :: ds, _, r => by
    obtain ⟨u, vs, rfl, h, t⟩ := RepT.cons_iff.mp r
    rw [List.map_cons, List.map_cons]
    by_cases e : k' = k
    · simp only [e, if_true]
      exact RepT.cons_iff.mpr ⟨_, _, rfl, r0, RepT.repl k r0 t⟩
    · simp only [e, if_false]
      exact RepT.cons_iff.mpr ⟨_, _, rfl, h, RepT.repl k r0 t⟩
theorem RepT.snoc {k : List Key} {d : D} {v : V} (r0 : Rep K G d v) : ∀ {ds : List (List Key × D)} {xs : List (List Key × V)}, RepT K G ds xs → RepT K G (ds ++ [(k, d)]) (xs ++ [(k, v)])
  | [], _, r => by rw [RepT] at r; subst r; exact RepT.cons_iff.mpr ⟨_, _, rfl, r0, .nil⟩
  | (k', e) :: ds, _, r => by
    obtain ⟨u, vs, rfl, h, t⟩ := RepT.cons_iff.mp r
    exact RepT.cons_iff.mpr ⟨_, _, rfl, h, RepT.snoc r0 t⟩
theorem RepT.put {ds : List (List Key × D)} {xs : List (List Key × V)} (r : RepT K G ds xs) (k : List Key) {d : D} {v : V} (r0 : Rep K G d v) : RepT K G (putD ds k d) (putK xs k v) := by
  unfold putD putK
  rw [r.any k]
  split
  · exact r.repl k r0
  · exact r.snoc r0
theorem RepT.length : ∀ {ds : List (List Key × D)} {xs : List (List Key × V)}, RepT K G ds xs → xs.length = ds.length
  | [], _, h => by rw [RepT] at h; subst h; rfl
  | (k, d) :: ds, _, h => by
    obtain ⟨v, vs, rfl, _, t⟩ := RepT.cons_iff.mp h
    simp [RepT.length t]
end
section
variable {X : Cx} {W : WX} {e : Expr} {fe fv fk : Cells → R D} {pos : Pos}
theorem lim_lt {n : Nat} (h : n < lim) : n < sizeLine := Nat.lt_of_lt_of_le h (by decide)
/-- x.append(e) -/
theorem es_append (i : Nat) {x : Str} {p apos cpos : Pos} (hN : X.N[i]? = some x) (hv : Vis X.env.scope x) (hd : (x == ("__debug__" : Str)) = false) (hcd : (x == ("__classdict__" : Str)) = false) (he : EV X W e fe) (hs0 : starEach [e] X.env = (false, eval e X.env) :: starEach [] X.env)
    (hbase : attributeBase (.Name x p) "append" X.env (eval (.Name x p) X.env) = eval (.Name x p) X.env)
    (hfew : ((backTo cpos (starEach [e] X.env)).all (fun x => !x.1) && (backToKw cpos (keywordEach [] X.env)).all (fun x => x.1.isSome) && decide ([e].length + ([] : List Keyword).length + (if ([] : List Keyword).isEmpty then 0 else 1) < 30)) = true)
    (hline : (apos.endLine == cpos.line) = true) (hs : swapsWith (.Call (.Attribute (.Name x p) "append" apos) [e] [] cpos) none pos.line X.env = pure false) :
    ES X W (.Expr (.Call (.Attribute (.Name x p) "append" apos) [e] [] cpos) pos) (appS i fe) :=
  PS.imp (ps_expr (pe_bm PySem.F.plainAttrs_list PySem.F.slot_list_append PySem.F.type_list_append mt_append (pe_var hN hv hd hcd) (pa_cons he pa_nil hs0) (hbase := hbase) (hfew := hfew) (hline := hline) (hs := hs0)) hs) fun D σ H ⟨G0, H0, G, env, S, P⟩ => by
    unfold appS at P
    split at P
    · rename_i xs h
      obtain ⟨a, e1, nG, o⟩ := S.sr.ow i _ h
      obtain ⟨vs, ha, ra⟩ := o
      refine ⟨.ref a, e1, .inl ⟨rfl, vs, .of ha⟩, G, env, S.sr, PostS.seq (Rel1 := RV X.K) (x := fe env) (k := fun d => if xs.length < lim then .ok (.nx (env.set i (.ow (.list (xs ++ [d]))))) else .bad) S P fun d v G1 H1 _ s1 S1 r1 P1 => ?_⟩
      split at P1
      · rename_i hl
        have ra1 := RepAll.mono s1.le _ ra
        exact ⟨a, vs, v, rfl, rfl, s1.keep _ _ ha, lim_lt (by rw [ra.length]; exact hl), P1 σ G1 _ (.refl G1) (S1.put h e1 ⟨_, upd_same, ra1.append (.cons r1 .nil)⟩)⟩
      · exact False.elim P1
    · exact False.elim P
/-- x.extend(e) -/
theorem es_extend (i : Nat) {x : Str} {p apos cpos : Pos} (hN : X.N[i]? = some x) (hv : Vis X.env.scope x) (hd : (x == ("__debug__" : Str)) = false) (hcd : (x == ("__classdict__" : Str)) = false) (he : EV X W e fe) (hs0 : starEach [e] X.env = (false, eval e X.env) :: starEach [] X.env)
    (hbase : attributeBase (.Name x p) "extend" X.env (eval (.Name x p) X.env) = eval (.Name x p) X.env)
    (hfew : ((backTo cpos (starEach [e] X.env)).all (fun x => !x.1) && (backToKw cpos (keywordEach [] X.env)).all (fun x => x.1.isSome) && decide ([e].length + ([] : List Keyword).length + (if ([] : List Keyword).isEmpty then 0 else 1) < 30)) = true)
    (hline : (apos.endLine == cpos.line) = true) (hs : swapsWith (.Call (.Attribute (.Name x p) "extend" apos) [e] [] cpos) none pos.line X.env = pure false) :
    ES X W (.Expr (.Call (.Attribute (.Name x p) "extend" apos) [e] [] cpos) pos) (extS i fe) :=
  PS.imp (ps_expr (pe_bm PySem.F.plainAttrs_list PySem.F.slot_list_extend PySem.F.type_list_extend mt_extend (pe_var hN hv hd hcd) (pa_cons he pa_nil hs0) (hbase := hbase) (hfew := hfew) (hline := hline) (hs := hs0)) hs) fun D σ H ⟨G0, H0, G, env, S, P⟩ => by
    unfold extS at P
    split at P
    · rename_i xs h
      obtain ⟨a, e1, nG, o⟩ := S.sr.ow i _ h
      obtain ⟨vs, ha, ra⟩ := o
      refine ⟨.ref a, e1, .inl ⟨rfl, vs, .of ha⟩, G, env, S.sr, PostS.seq (Rel1 := RV X.K) (x := fe env) (k := fun d => match d with
        | .list ys => if xs.length + ys.length ≤ lim then .ok (.nx (env.set i (.ow (.list (xs ++ ys))))) else .bad
        | _ => .bad) S P fun d v G1 H1 _ s1 S1 r1 P1 => ?_⟩
      cases d with
      | list ys =>
        simp only at P1
        split at P1
        · rename_i hl
          have ra1 := RepAll.mono s1.le _ ra
          obtain ⟨b, zs, rfl, hb, rb⟩ := Rep.list_iff.mp r1
          exact ⟨a, b, vs, zs, rfl, rfl, s1.keep _ _ ha, S1.sr.sub _ _ hb, lim_le (by rw [ra.length, rb.length]; exact hl), P1 σ G1 _ (.refl G1) (S1.put h e1 ⟨_, upd_same, ra1.append rb⟩)⟩
        · exact False.elim P1
      | _ => exact False.elim P1
    · exact False.elim P
/-- x[k] = e, x a dict that grows -/
theorem es_dput (i : Nat) {x : Str} {k : Expr} {p pos' : Pos} (hu : X.A.units + 64 < cLine) (hN : X.N[i]? = some x) (hv : Vis X.env.scope x) (hd : (x == ("__debug__" : Str)) = false) (hcd : (x == ("__classdict__" : Str)) = false) (he : EV X W e fv) (hk : EV X W k fk)
    (hs : swapsWith e (some (.Subscript (.Name x p) k pos')) pos.line X.env = pure false) : ES X W (.Assign [.Subscript (.Name x p) k pos'] e pos) (dputS i fv fk) :=
  PS.imp (ps_dput (by omega) (pe_var hN hv hd hcd) hk he hs) fun D σ H ⟨G0, H0, G, env, S, P⟩ => by
    refine ⟨G, env, S.sr, PostS.seq (Rel1 := RV X.K) (x := fv env) (k := fun v => match env[i]? with
      | some (.ow d0) => fk env >>= fun k => dput d0 k v >>= fun d => .ok (.nx (env.set i (.ow d)))
      | _ => .bad) S P fun d v G1 H1 _ s1 S1 r1 P1 => ?_⟩
    split at P1
    · rename_i d0 h
      obtain ⟨a, e1, nG, o⟩ := S1.sr.ow i _ h
      refine ⟨.ref a, e1, G1, env, S1.sr, PostS.seq (Rel1 := RV X.K) (x := fk env) (k := fun k => dput d0 k d >>= fun d => .ok (.nx (env.set i (.ow d)))) S1 P1 fun kd kv G2 H2 _ s2 S2 r2 P2 => ?_⟩
      obtain ⟨nG2, o2⟩ := o.step nG s2
      have r1' := Rep.mono s2.le _ r1
      unfold dput at P2
      split at P2
      · split at P2
        · rename_i kvs k' hk'
          split at P2
          · rename_i hl
            obtain ⟨ws, ha, ra⟩ := o2
            have ek := keyOf_rep hk' r2
            subst ek
            exact ⟨a, _, rfl, .k ha (lim_lt (by rw [ra.length]; exact hl)), P2 σ G2 _ (.refl G2) (S2.put h e1 ⟨_, upd_same, ra.put _ r1'⟩)⟩
          · exact False.elim P2
        · exact False.elim P2
      · split at P2
        · split at P2
          · rename_i kvs _ ds k' hk'
            split at P2
            · rename_i hl
              obtain ⟨ws, ha, ra⟩ := o2
              obtain ⟨b, us, rfl, hb, rb⟩ := Rep.tuple_iff.mp r2
              have ek := keysOf_rep hk' rb
              subst ek
              exact ⟨a, _, rfl, .t ha (S2.sr.sub _ _ hb) (lim_lt (by rw [ra.length]; exact hl)), P2 σ G2 _ (.refl G2) (S2.put h e1 ⟨_, upd_same, ra.put _ r1'⟩)⟩
            · exact False.elim P2
          · exact False.elim P2
        · exact False.elim P2
      · exact False.elim P2
    · exact False.elim P1
/-- x[k] = e, x a list -/
theorem es_lput (i : Nat) {x : Str} {k : Expr} {p pos' : Pos} (hN : X.N[i]? = some x) (hv : Vis X.env.scope x) (hd : (x == ("__debug__" : Str)) = false) (hcd : (x == ("__classdict__" : Str)) = false) (he : EV X W e fv) (hk : EV X W k fk)
    (ha : ∀ v, assign (.Subscript (.Name x p) k pos') X.env v = (do
      let ov ← holding [v] (eval (.Name x p) X.env)
      let iv ← holding [v, ov] (eval k X.env)
      standAt pos'
      holding [v, ov, iv] (setItem ov iv v)
      release [v, ov, iv] []))
    (hs : swapsWithSole [.Subscript (.Name x p) k pos'] e pos.line X.env = pure false) (hw : swappedStores [.Subscript (.Name x p) k pos'] e X.env = pure none) (h1 : (assignEach [.Subscript (.Name x p) k pos'] X.env).map (·.2) = [assign (.Subscript (.Name x p) k pos') X.env]) : ES X W (.Assign [.Subscript (.Name x p) k pos'] e pos) (lputS i fv fk) :=
  PS.imp (ps_asg he (pg_sub (pe_var hN hv hd hcd) hk set_list ha) hs hw h1) fun D σ H ⟨G0, H0, G, env, S, P⟩ => by
    refine ⟨G, env, S.sr, PostS.seq (Rel1 := RV X.K) (x := fv env) (k := fun v => match env[i]? with
      | some (.ow (.list xs)) => fk env >>= fun k => match k with
        | .int j => match ixN xs.length j with
          | some n => .ok (.nx (env.set i (.ow (.list (xs.set n v)))))
          | none => .bad
        | _ => .bad
      | _ => .bad) S P fun d v G1 H1 _ s1 S1 r1 P1 => ?_⟩
    split at P1
    · rename_i xs h
      obtain ⟨a, e1, nG, o⟩ := S1.sr.ow i _ h
      refine ⟨.ref a, e1, G1, env, S1.sr, PostS.seq (Rel1 := RV X.K) (x := fk env) (k := fun k => match k with
        | .int j => match ixN xs.length j with
          | some n => .ok (.nx (env.set i (.ow (.list (xs.set n d)))))
          | none => .bad
        | _ => .bad) S1 P1 fun kd kv G2 H2 _ s2 S2 r2 P2 => ?_⟩
      obtain ⟨nG2, ws, hw, ra⟩ := o.step nG s2
      have r1' := Rep.mono s2.le _ r1
      cases kd with
      | int j =>
        simp only at P2
        split at P2
        · rename_i n hn
          rw [Rep.int_iff.mp r2]
          exact ⟨a, ws, j, n, rfl, rfl, hw, by rw [ra.length]; exact hn, P2 σ G2 _ (.refl G2) (S2.put h e1 ⟨_, upd_same, RepAll.set r1' n ra⟩)⟩
        · exact False.elim P2
      | _ => exact False.elim P2
    · exact False.elim P1
theorem PIp.of {op : Operator} {r : R2} (ho : OpR X (inplaceOp op) r) : PIp X op r := fun pins s σ H x y v u Q I r1 r2 h => ho pins s σ H x y v u Q I r1 r2 h
/-- x op= e -/
theorem es_aug (i : Nat) {x : Str} {p : Pos} {op : Operator} {r : R2} {o : D → D → R D} (hN : X.N.Nodup) (hi : X.N[i]? = some x) (hx : Loc X.env.scope x) (hf : X.fn x = true ∨ X.env.scope.names.lookup x = some .local) (he : EV X W e fe) (ho : OpR X (inplaceOp op) r) (hr : Does2 X W r o) : ES X W (.AugAssign (.Name x p) op e pos) (augS i o fe) :=
  PS.imp (ps_aug hN hi hx he (PIp.of ho) hf) fun D σ H ⟨G0, H0, G, env, S, P⟩ => by
    change PostS X.K G0 H0 G W (rdV i env >>= fun x => fe env >>= fun y => o x y >>= fun d => .ok (.nx (env.set i (.fz d)))) D at P
    cases h : rdV i env with
    | bad => rw [h] at P; exact False.elim P
    | exc C =>
      unfold rdV at h
      split at h <;> cases h
    | ok d =>
      rw [h] at P
      have hd : env[i]? = some (.fz d) := by
        unfold rdV at h
        split at h
        · cases h; assumption
        · cases h
      obtain ⟨v, e1, r0⟩ := S.sr.fz i d hd
      refine ⟨v, e1, G, env, S.sr, PostS.seq (Rel1 := RV X.K) (x := fe env) (k := fun y => o d y >>= fun d => .ok (.nx (env.set i (.fz d)))) S P fun e u G1 H1 _ s1 S1 r1 P1 => ?_⟩
      refine hr s1.sub (.inl (Rep.mono s1.le _ r0)) (.inl r1) (PostS.seq (Rel1 := RV X.K) (x := o d e) (k := fun d => .ok (.nx (env.set i (.fz d)))) S1 P1 fun z w G2 H2 _ s2 S2 r2 P2 => ?_)
      exact P2 _ G2 H2 (.refl G2) (S2.setFz r2)
end
end PL
end S10
noncomputable section S11
namespace PL
open PySem PySem.Spec PyProof.Rows L2

/-- an iterator that gives the items one by one -/
structure ItRel (K : PySem.W.Frag) (G : Hp) (items : List D) (J : It) : Prop where
  go : ∀ (i : Nat) (G' H' : Hp), i < items.length → Le G G' → Sub G' H' → J.go i H'
  yld : ∀ (i : Nat) (d : D) (G' H' : Hp) (x : V) (H'' : Hp), items[i]? = some d → Le G G' → Sub G' H' → J.yld i H' x H'' → ∃ G'', Stp G' H' G'' H'' ∧ Rep K G'' d x
  stop : ∀ (G' H' : Hp), Le G G' → Sub G' H' → J.stop items.length H'
def tI (K : PySem.W.Frag) (W : WX) (f : Cells → R (List D)) : TI := fun σ H R' => ∃ G env, SR K G H σ env ∧ Post G H W σ (fun G1 _ items J => ItRel K G1 items J) (f env) R'
abbrev EI (X : Cx) (W : WX) (tg iter : Expr) (f : Cells → R (List D)) : Prop := PI X tg iter (tI X.K W f)
theorem PI.imp {X : Cx} {tg e : Expr} {t t' : TI} (h : PI X tg e t) (i : ∀ σ H Q, t' σ H Q → t σ H Q) : PI X tg e t' := ⟨fun pins s σ H Q I q => h.run pins s σ H Q I (i σ H Q q)⟩
section
variable {K : PySem.W.Frag} {G : Hp}
theorem itrel_list {a : Addr} {xs : List V} {ds : List D} (h : SqL K G a xs) (r : RepAll K G ds xs) : ItRel K G ds (Itl K a) := by
  refine ⟨fun i G' H' hi l s => ?_, fun i d G' H' x H'' hd l s hy => ?_, fun G' H' l s => ⟨xs, s.sqL (l.sqL h), by rw [r.length]; exact Nat.le_refl _⟩⟩
  · have hi' : i < xs.length := by rw [r.length]; exact hi
    exact ⟨xs, xs[i], s.sqL (l.sqL h), List.getElem?_eq_getElem hi'⟩
  · obtain ⟨e, hy⟩ := hy
    subst e
    obtain ⟨v, e1, r1⟩ := r.get hd
    have e2 := hy xs (s.sqL (l.sqL h))
    rw [e1] at e2
    cases e2
    exact ⟨G', .refl s, r1.mono l⟩
theorem itrel_tup {a : Addr} {xs : List V} {ds : List D} (h : SqT K G a xs) (r : RepAll K G ds xs) : ItRel K G ds (Itt K a) := by
  refine ⟨fun i G' H' hi l s => ?_, fun i d G' H' x H'' hd l s hy => ?_, fun G' H' l s => ⟨xs, s.sqT (l.sqT h), by rw [r.length]; exact Nat.le_refl _⟩⟩
  · have hi' : i < xs.length := by rw [r.length]; exact hi
    exact ⟨xs, xs[i], s.sqT (l.sqT h), List.getElem?_eq_getElem hi'⟩
  · obtain ⟨e, hy⟩ := hy
    subst e
    obtain ⟨v, e1, r1⟩ := r.get hd
    have e2 := hy xs (s.sqT (l.sqT h))
    rw [e1] at e2
    cases e2
    exact ⟨G', .refl s, r1.mono l⟩
def rangeD (lo : Int) (n : Nat) : List D := (List.range n).map fun (i : Nat) => D.int (lo + (i : Int))
theorem itrel_range {lo : Int} {n : Nat} : ItRel K G (rangeD lo n) (Itr lo n) := by
  have hl : (rangeD lo n).length = n := by unfold rangeD; rw [List.length_map, List.length_range]
  refine ⟨fun i G' H' hi l s => by rw [hl] at hi; exact hi, fun i d G' H' x H'' hd l s hy => ?_, fun G' H' l s => by rw [hl]; exact Nat.le_refl _⟩
  obtain ⟨e, ex⟩ := hy
  subst e ex
  unfold rangeD at hd
  rw [List.getElem?_map] at hd
  cases hr : (List.range n)[i]? with
  | none => rw [hr] at hd; cases hd
  | some j =>
    rw [hr] at hd
    have ej : j = i := by
      have := List.getElem?_eq_some_iff.mp hr
      obtain ⟨h1, h2⟩ := this
      rw [List.getElem_range] at h2
      exact h2.symm
    subst ej
    cases hd
    exact ⟨G', .refl s, Rep.int_iff.mpr rfl⟩
end
section
variable {X : Cx} {W : WX} {tg e : Expr} {fe : Cells → R D} {pos : Pos}
def asL : D → R (List D)
  | .list xs => .ok xs
  | .flist xs => .ok xs
  | _ => .bad
def asT : D → R (List D)
  | .tuple xs => .ok xs
  | .ftuple xs => .ok xs
  | _ => .bad
theorem ei_list (he : EV X W e fe) : EI X W tg e (fun c => fe c >>= asL) := PI.imp (pi_list he) fun σ H R' ⟨G, env, S, P⟩ => by
  refine ⟨G, env, S, Post.seq (Rel1 := RV X.K) (x := fe env) (k := asL) P fun d v G1 H1 _ s1 r1 P1 => ?_⟩
  cases d with
  | list xs =>
    obtain ⟨a, vs, rfl, h, r⟩ := Rep.list_iff.mp r1
    exact ⟨a, rfl, ⟨vs, .of (s1.sub _ _ h)⟩, P1 (Itl X.K a) G1 H1 (.refl s1.sub) (itrel_list (.of h) r)⟩
  | flist xs =>
    obtain ⟨a, vs, rfl, h, r⟩ := Rep.flist_iff.mp r1
    exact ⟨a, rfl, ⟨vs, s1.sub.sqL h⟩, P1 (Itl X.K a) G1 H1 (.refl s1.sub) (itrel_list h r)⟩
  | _ => exact False.elim P1
theorem ei_tup (he : EV X W e fe) : EI X W tg e (fun c => fe c >>= asT) := PI.imp (pi_tup he) fun σ H R' ⟨G, env, S, P⟩ => by
  refine ⟨G, env, S, Post.seq (Rel1 := RV X.K) (x := fe env) (k := asT) P fun d v G1 H1 _ s1 r1 P1 => ?_⟩
  cases d with
  | tuple xs =>
    obtain ⟨a, vs, rfl, h, r⟩ := Rep.tuple_iff.mp r1
    exact ⟨a, rfl, ⟨vs, .of (s1.sub _ _ h)⟩, P1 (Itt X.K a) G1 H1 (.refl s1.sub) (itrel_tup (.of h) r)⟩
  | ftuple xs =>
    obtain ⟨a, vs, rfl, h, r⟩ := Rep.ftuple_iff.mp r1
    exact ⟨a, rfl, ⟨vs, s1.sub.sqT h⟩, P1 (Itt X.K a) G1 H1 (.refl s1.sub) (itrel_tup h r)⟩
  | _ => exact False.elim P1
def rng1 : List D → R (List D)
  | [.int j] => if j.natAbs ≤ big then .ok (rangeD 0 j.toNat) else .bad
  | _ => .bad
def rng2 : List D → R (List D)
  | [.int i, .int j] => if i.natAbs ≤ big ∧ j.natAbs ≤ big then .ok (rangeD i (j - i).toNat) else .bad
  | _ => .bad
theorem ei_range1 {a : Expr} {g : Cells → R (List D)} {p : Pos} (hg : Gl X "range") (hm : X.mg "range" = none) (ha : EAB X W [a] g) (hs : starEach [a] X.env = [(false, eval a X.env)]) : EI X W tg (.Call (.Name "range" p) [a] [] pos) (fun c => g c >>= rng1) :=
  PI.imp (pi_range1 hg hm ha hs) fun σ H R' ⟨G, env, S, P⟩ => by
    refine ⟨G, env, S, Post.seq (Rel1 := RBs X.K) (x := g env) (k := rng1) P fun ds vs G1 H1 he0 s1 r1 P1 => ?_⟩
    clear he0
    unfold rng1 at P1
    split at P1
    · rename_i j
      split at P1
      · rename_i hb
        obtain ⟨v, rfl, q⟩ := RBs.one r1
        rw [q.int]
        unfold big at hb
        exact ⟨j, rfl, by omega, by omega, P1 _ G1 H1 (.refl s1.sub) itrel_range⟩
      · exact False.elim P1
    · exact False.elim P1
theorem ei_range2 {a b : Expr} {g : Cells → R (List D)} {p : Pos} (hg : Gl X "range") (hm : X.mg "range" = none) (ha : EAB X W [a, b] g) (hs : starEach [a, b] X.env = [(false, eval a X.env), (false, eval b X.env)]) (hs2 : starEach [b] X.env = [(false, eval b X.env)]) : EI X W tg (.Call (.Name "range" p) [a, b] [] pos) (fun c => g c >>= rng2) :=
  PI.imp (pi_range2 hg hm ha hs hs2) fun σ H R' ⟨G, env, S, P⟩ => by
    refine ⟨G, env, S, Post.seq (Rel1 := RBs X.K) (x := g env) (k := rng2) P fun ds vs G1 H1 he0 s1 r1 P1 => ?_⟩
    clear he0
    unfold rng2 at P1
    split at P1
    · rename_i i j
      split at P1
      · rename_i hb
        obtain ⟨v, u, rfl, q1, q2⟩ := RBs.two r1
        rw [q1.int, q2.int]
        have hb1 := hb.1
        have hb2 := hb.2
        unfold big at hb1 hb2
        exact ⟨i, j, rfl, ⟨by omega, by omega, by omega, by omega⟩, P1 _ G1 H1 (.refl s1.sub) itrel_range⟩
      · exact False.elim P1
    · exact False.elim P1
/-- sign by sign -/
def signsD (x : Str) : List D := x.cps.toList.map fun c => D.str ⟨#[c]⟩
def asS : D → R (List D)
  | .str x => .ok (signsD x)
  | _ => .bad
theorem ei_str (he : EV X W e fe) : EI X W tg e (fun c => fe c >>= asS) := PI.imp (pi_str he) fun σ H R' ⟨G, env, S, P⟩ => by
  refine ⟨G, env, S, Post.seq (Rel1 := RV X.K) (x := fe env) (k := asS) P fun d v G1 H1 _ s1 r1 P1 => ?_⟩
  cases d with
  | str x =>
    refine ⟨x, Rep.str_iff.mp r1, P1 (Its x) G1 H1 (.refl s1.sub) ?_⟩
    have hl : (signsD x).length = x.cps.size := by unfold signsD; rw [List.length_map, Array.length_toList]
    refine ⟨fun i G' H' hi l s => by rw [hl] at hi; exact hi, fun i d G' H' v H'' hd l s hy => ?_, fun G' H' l s => by rw [hl]; exact Nat.le_refl _⟩
    obtain ⟨e, c, hc, ev⟩ := hy
    subst e ev
    unfold signsD at hd
    rw [List.getElem?_map, Array.getElem?_toList, hc] at hd
    cases hd
    exact ⟨G', .refl s, Rep.str_iff.mpr rfl⟩
  | _ => exact False.elim P1
/-- zip of two lists -/
def zipD : List D → R (List D)
  | [.list xs, .list ys] => .ok ((xs.zip ys).map fun p => .tuple [p.1, p.2])
  | _ => .bad
theorem ei_zip {a b : Expr} {g : Cells → R (List D)} {p tpos : Pos} {elts : List Expr} {kk : Nat} (hg : Gl X "zip") (hm : X.mg "zip" = none) (ha : EA X W [a, b] g) (hs : starEach [a, b] X.env = (false, eval a X.env) :: starEach [b] X.env) (hs2 : (backTo pos (starEach [b] X.env)).any (·.1) = false) : EI X W (.Tuple elts kk tpos) (.Call (.Name "zip" p) [a, b] [] pos) (fun c => g c >>= zipD) :=
  PI.imp (pi_zip hg hm ha hs hs2) fun σ H R' ⟨G, env, S, P⟩ => by
    refine ⟨G, env, S, Post.seq (Rel1 := RA X.K) (x := g env) (k := zipD) P fun ds vs G1 H1 he0 s1 r1 P1 => ?_⟩
    clear he0
    unfold zipD at P1
    split at P1
    · rename_i xs ys
      obtain ⟨v, r, rfl, q1, r1⟩ := RepAll.cons_iff.mp r1
      obtain ⟨u, r, rfl, q2, r1⟩ := RepAll.cons_iff.mp r1
      rw [RepAll.nil_iff] at r1
      subst r1
      obtain ⟨a, vs, rfl, h1, t1⟩ := Rep.list_iff.mp q1
      obtain ⟨b, us, rfl, h2, t2⟩ := Rep.list_iff.mp q2
      refine ⟨a, b, vs, us, rfl, .of (s1.sub _ _ h1), .of (s1.sub _ _ h2), P1 (Itz X.K a b) G1 H1 (.refl s1.sub) ?_⟩
      have hl : ((xs.zip ys).map fun p => D.tuple [p.1, p.2]).length = min xs.length ys.length := by rw [List.length_map, List.length_zip]
      refine ⟨fun i G' H' hi l s => ?_, fun i d G' H' x H'' hd l s hy => ?_, fun G' H' l s => ?_⟩
      · rw [hl] at hi
        have i1 : i < vs.length := by rw [t1.length]; omega
        have i2 : i < us.length := by rw [t2.length]; omega
        exact ⟨vs, us, vs[i], us[i], .of (s _ _ (l.lst _ _ h1)), .of (s _ _ (l.lst _ _ h2)), List.getElem?_eq_getElem i1, List.getElem?_eq_getElem i2⟩
      · obtain ⟨T, x1, x2, rfl, nT, rfl, f1, f2⟩ := hy
        rw [List.getElem?_map] at hd
        cases hz : (xs.zip ys)[i]? with
        | none => rw [hz] at hd; cases hd
        | some pr =>
          rw [hz] at hd
          cases hd
          obtain ⟨d1, d2⟩ := pr
          obtain ⟨z1, z2⟩ := List.getElem?_zip_eq_some.mp hz
          obtain ⟨w1, e1, k1⟩ := t1.get z1
          obtain ⟨w2, e2, k2⟩ := t2.get z2
          have g1 := f1 vs (.of (s _ _ (l.lst _ _ h1)))
          have g2 := f2 us (.of (s _ _ (l.lst _ _ h2)))
          rw [e1] at g1
          rw [e2] at g2
          cases g1
          cases g2
          have st := Stp.frozen (o := HO.tup [x1, x2]) s nT
          exact ⟨_, st, Rep.tuple_iff.mpr ⟨T, _, rfl, upd_same, .cons ((k1.mono l).mono st.le) (.cons ((k2.mono l).mono st.le) .nil)⟩⟩
      · rw [hl]
        refine ⟨vs, us, .of (s _ _ (l.lst _ _ h1)), .of (s _ _ (l.lst _ _ h2)), ?_⟩
        have a1 := t1.length
        have a2 := t2.length
        omega
    · exact False.elim P1

def loopD (g : D → Cells → Option Cells) (body : Cells → R Out) : List D → Cells → R Out
  | [], c => .ok (.nx c)
  | d :: ds, c => match g d c with
    | none => .bad
    | some c1 => body c1 >>= fun o => match o with
      | .nx c2 => loopD g body ds c2
      | .ct c2 => loopD g body ds c2
      | .bk c2 => .ok (.nx c2)
      | .rt d => .ok (.rt d)
def forS (fi : Cells → R (List D)) (g : D → Cells → Option Cells) (body : Cells → R Out) : Cells → R Out := fun c => fi c >>= fun items => loopD g body items c
theorem es_for {iter : Expr} {body : List Stmt} {fi : Cells → R (List D)} {g : D → Cells → Option Cells} {fb : Cells → R Out} (hp : PassesOwn (model X.prog X.w) X.A X.env X.xe) (hc : X.calm = true) {is : List Nat} (hi : EI X W tg iter fi) (hg : EG X tg is g) (hb : ESs X W body fb)
    (hs : ∀ x, foldedSetIterable iter X.env x = pure x) : ES X W (.For tg iter body [] pos) (forS fi g fb) := PS.imp (ps_for hp hc hi hg hb hs) fun D' σ H ⟨G0, H0, G, env, S, P⟩ => by
  refine ⟨G, env, S.sr, PostS.seq (Rel1 := fun G1 _ items J => ItRel X.K G1 items J) (x := fi env) (k := fun items => loopD g fb items env) S P fun items J G1 H1 _ s1 S1 r1 P1 => ?_⟩
  refine ⟨fun i m σ2 H2 => ∃ G2 env2, SB X.K G0 H0 G2 H2 σ2 env2 ∧ Le G1 G2 ∧ m = items.length - i ∧ i ≤ items.length ∧ PostS X.K G0 H0 G2 W (loopD g fb (items.drop i) env2) D', ⟨items.length, G1, env, S1, .refl _, rfl, Nat.zero_le _, P1⟩, ?_⟩
  rintro i m σ2 H2 ⟨G2, env2, S2, l2, rfl, hi2, P2⟩
  by_cases hlt : i < items.length
  · have ed : items.drop i = items[i] :: items.drop (i + 1) := List.drop_eq_getElem_cons hlt
    rw [ed] at P2
    refine .inr ⟨r1.go i G2 H2 hlt l2 S2.sr.sub, fun σ3 H3 => ∃ G3 env3, SB X.K G0 H0 G3 H3 σ3 env3 ∧ Le G1 G3 ∧ PostS X.K G0 H0 G3 W (loopD g fb (items.drop (i + 1)) env3) D', fun σ3 H3 ⟨G3, env3, S3, l3, P3⟩ => ⟨items.length - (i + 1), by omega, G3, env3, S3, l3, rfl, hlt, P3⟩, fun x H3 hy => ?_⟩
    obtain ⟨G3, s3, r3⟩ := r1.yld i items[i] G2 H2 x H3 (List.getElem?_eq_getElem hlt) l2 S2.sr.sub hy
    have S3 := S2.step s3
    have P3 := PostS.le P2 s3.le
    unfold loopD at P3
    split at P3
    · exact False.elim P3
    · rename_i c1 hc1
      refine ⟨G0, H0, G3, env2, items[i], S3, r3, c1, hc1, fun σ4 S4 _ => ⟨G0, H0, G3, c1, S4, ?_⟩⟩
      generalize fb c1 = r at P3 ⊢
      cases r with
      | exc C => exact P3
      | bad => exact P3
      | ok o => cases o with
        | nx c2 => exact fun σ5 G5 H5 l5 S5 => ⟨G5, c2, S5, (l2.trans s3.le).trans l5, PostS.le (r := loopD g fb (items.drop (i + 1)) c2) P3 l5⟩
        | ct c2 => exact fun σ5 G5 H5 l5 S5 => ⟨G5, c2, S5, (l2.trans s3.le).trans l5, PostS.le (r := loopD g fb (items.drop (i + 1)) c2) P3 l5⟩
        | bk c2 => exact P3
        | rt d => exact P3
  · have e : i = items.length := by omega
    subst e
    rw [List.drop_length] at P2
    exact .inl ⟨r1.stop G2 H2 l2 S2.sr.sub, P2 σ2 G2 H2 (.refl _) S2⟩

def loopW (p : Cells → R Bool) (body : Cells → R Out) : Nat → Cells → R Out
  | 0, _ => .bad
  | n + 1, c => p c >>= fun b => if b = true then (body c >>= fun o => match o with
      | .nx c2 => loopW p body n c2
      | .ct c2 => loopW p body n c2
      | .bk c2 => .ok (.nx c2)
      | .rt d => .ok (.rt d)) else .ok (.nx c)
theorem es_while (n : Nat) {c : Expr} {body : List Stmt} {p : Cells → R Bool} {fb : Cells → R Out} (hp : PassesOwn (model X.prog X.w) X.A X.env X.xe) (hc : ET X W c p) (hb : ESs X W body fb) : ES X W (.While c body [] pos) (loopW p fb n) := PS.imp (ps_while hp hc hb) fun D' σ H ⟨G0, H0, G, env, S, P⟩ => by
  refine ⟨fun m σ2 H2 => ∃ G2 env2, SB X.K G0 H0 G2 H2 σ2 env2 ∧ PostS X.K G0 H0 G2 W (loopW p fb m env2) D', ⟨n, G, env, S, P⟩, ?_⟩
  rintro m σ2 H2 ⟨G2, env2, S2, P2⟩
  cases m with
  | zero => exact False.elim P2
  | succ m =>
    unfold loopW at P2
    refine ⟨G2, env2, S2.sr, PostS.seq (Rel1 := RT) (x := p env2) (k := fun b => if b = true then (fb env2 >>= fun o => match o with
      | .nx c2 => loopW p fb m c2
      | .ct c2 => loopW p fb m c2
      | .bk c2 => .ok (.nx c2)
      | .rt d => .ok (.rt d)) else .ok (.nx env2)) S2 P2 fun b v G3 H3 _ s3 S3 r3 P3 => ?_⟩
    subst r3
    cases b with
    | false => exact P3 σ2 G3 H3 (.refl _) S3
    | true =>
      rw [if_pos rfl] at P3 ⊢
      refine ⟨fun σ4 H4 => ∃ G4 env4, SB X.K G0 H0 G4 H4 σ4 env4 ∧ PostS X.K G0 H0 G4 W (loopW p fb m env4) D', fun σ4 H4 ⟨G4, env4, S4, P4⟩ => ⟨m, Nat.lt_succ_self _, G4, env4, S4, P4⟩, G0, H0, G3, env2, S3, ?_⟩
      generalize fb env2 = r at P3 ⊢
      cases r with
      | exc C => exact P3
      | bad => exact P3
      | ok o => cases o with
        | nx c2 => exact fun σ5 G5 H5 l5 S5 => ⟨G5, c2, S5, PostS.le (r := loopW p fb m c2) P3 l5⟩
        | ct c2 => exact fun σ5 G5 H5 l5 S5 => ⟨G5, c2, S5, PostS.le (r := loopW p fb m c2) P3 l5⟩
        | bk c2 => exact P3
        | rt d => exact P3
end
end PL
end S11
noncomputable section S12
namespace PL
open PySem PySem.Spec PyProof.Rows L2

/-- the comprehension's own slots are empty -/
def wipeC (c : Cells) : List Nat → Cells
  | [] => c
  | v :: vs => (wipeC c vs).set v .un
/-- within a block nothing is raised -/
def nox {α : Type} : R α → R α
  | .ok a => .ok a
  | _ => .bad
def W0 : WX := fun _ _ _ _ => False
def compL (g : D → Cells → Option Cells) (t : Cells → R Bool) (f : Cells → R D) : List D → Cells → R (List D)
  | [], _ => .ok []
  | d :: ds, c => match g d c with
    | none => .bad
    | some c1 => t c1 >>= fun b => if b = true then f c1 >>= fun y => compL g t f ds c >>= fun ys => .ok (y :: ys) else compL g t f ds c
def compV (vs : List Nat) (fi : Cells → R (List D)) (g : D → Cells → Option Cells) (t : Cells → R Bool) (f : Cells → R D) : Cells → R D := fun c => fi c >>= fun items => if items.length ≤ lim then nox (compL g t f items (wipeC c vs)) >>= fun ys => .ok (.list ys) else .bad
section
variable {K : PySem.W.Frag} {G H : Hp}
theorem wipe_get (σ : L2.St) (j : Nat) : ∀ vs : List Nat, (wipe σ vs)[j]? = if j ∈ vs ∧ j < σ.length then some none else σ[j]?
  | [] => by unfold wipe; simp
  | v :: vs => by
    unfold wipe
    rw [List.getElem?_set, wipe_length, wipe_get σ j vs]
    by_cases h : v = j
    · subst h
      by_cases hl : v < σ.length
      · simp [hl]
      · simp [hl]
    · have : ¬ j = v := fun z => h z.symm
      simp [h, this]
theorem wipeC_get (c : Cells) (j : Nat) : ∀ vs : List Nat, (wipeC c vs)[j]? = if j ∈ vs ∧ j < c.length then some .un else c[j]?
  | [] => by unfold wipeC; simp
  | v :: vs => by
    have hl : ∀ ws : List Nat, (wipeC c ws).length = c.length := fun ws => by
      induction ws with
      | nil => rfl
      | cons w ws ih => unfold wipeC; rw [List.length_set, ih]
    unfold wipeC
    rw [List.getElem?_set, hl, wipeC_get c j vs]
    by_cases h : v = j
    · subst h
      by_cases hl : v < c.length
      · simp [hl]
      · simp [hl]
    · have : ¬ j = v := fun z => h z.symm
      simp [h, this]
theorem wipeC_length (c : Cells) : ∀ vs : List Nat, (wipeC c vs).length = c.length
  | [] => rfl
  | v :: vs => by unfold wipeC; rw [List.length_set, wipeC_length c vs]
theorem wipe_agree {σ σ' : L2.St} {vs is : List Nat} (a : Agree is (wipe σ vs) σ') (h : ∀ i ∈ is, i ∈ vs) : wipe σ' vs = wipe σ vs := by
  have hl := a.1
  rw [wipe_length] at hl
  apply List.ext_getElem?
  intro j
  rw [wipe_get, wipe_get, hl]
  by_cases hj : j ∈ vs
  · by_cases hlt : j < σ.length
    · simp [hj, hlt]
    · simp [hj, hlt]
      omega
  · simp [hj]
    rw [a.2 j (fun z => hj (h j z)), wipe_get]
    simp [hj]
theorem SR.wipe {σ : L2.St} {env : Cells} (s : SR K G H σ env) (vs : List Nat) : SR K G H (L2.wipe σ vs) (wipeC env vs) := by
  have cell : ∀ (j : Nat) (e : Cell), e ≠ .un → (wipeC env vs)[j]? = some e → env[j]? = some e ∧ (L2.wipe σ vs)[j]? = σ[j]? := fun j e n h => by
    rw [wipeC_get] at h
    by_cases z : j ∈ vs ∧ j < env.length
    · rw [if_pos z] at h; cases h; exact absurd rfl n
    · rw [if_neg z] at h
      rw [wipe_get, s.len, if_neg z]
      exact ⟨h, rfl⟩
  refine ⟨s.sub, fun j e h => ?_, fun j e h => ?_, fun j k e e' a n h h' q q' => ?_, ?_⟩
  · obtain ⟨h, q⟩ := cell j _ (by intro z; cases z) h
    rw [q]; exact s.fz j e h
  · obtain ⟨h, q⟩ := cell j _ (by intro z; cases z) h
    rw [q]; exact s.ow j e h
  · obtain ⟨h, e1⟩ := cell j _ (by intro z; cases z) h
    obtain ⟨h', e2⟩ := cell k _ (by intro z; cases z) h'
    rw [e1] at q
    rw [e2] at q'
    exact s.apart j k e e' a n h h' q q'
  · rw [wipe_length, wipeC_length]; exact s.len
theorem Stp.wrote {G H G' H' : Hp} (s : Stp G H G' H') {p : Addr} {o : HO} (n : H p = none) (n' : G' p = none) : Stp G H G' (upd H' p o) :=
  ⟨s.le, fun b u e => by rw [upd_ne (ne_of_none e n)]; exact s.keep _ _ e, s.new, fun a u e => by rw [upd_ne (ne_of_none e n')]; exact s.sub _ _ e⟩
/-- a state without an entry -/
theorem SR.open {σ : L2.St} {env : Cells} (s : SR K G H σ env) : SB K (fun _ => none) (fun _ => none) G H σ env :=
  ⟨s, ⟨Le.of (fun _ _ h => (by cases h)), (fun _ _ h => (by cases h)), (fun _ _ _ => Or.inr (Or.inl rfl)), s.sub⟩, fun _ _ _ _ _ => rfl⟩
end
section
variable {X : Cx} {W : WX} {elt tg iter : Expr} {pos : Pos}
abbrev ETs (X : Cx) (W : WX) (ifs : List Expr) (t : Cells → R Bool) : Prop := PTs X ifs (tG X.K W (fun _ => RT) t)
theorem ets_nil : ETs X W [] (fun _ => .ok true) := ⟨fun pins s σ H Q I ⟨G, env, S, P⟩ => pts_nil.run pins s σ H Q I (P true G H (.refl S.sub) rfl)⟩
theorem ets_one {c : Expr} {t : Cells → R Bool} (h : ET X W c t) : ETs X W [c] t := pts_one h
/-- the loop of a comprehension, by its data -/
theorem comp_run {K : PySem.W.Frag} {fi : Cells → R (List D)} {g : D → Cells → Option Cells} {t : Cells → R Bool} {f : Cells → R D} {is vs : List Nat} (hv : ∀ i ∈ is, i ∈ vs) {σ : L2.St} {H : Hp} {Q : VK} {G : Hp} {env : Cells} (S : SR K G H σ env)
    (P : Post G H W σ (RL K H) (compV vs fi g t f env) Q) : tLc (tI K W fi) (tGt K is g) (tG K W0 (fun _ => RT) t) (tG K W0 (fun _ => RV K) f) vs σ H Q := by
  refine ⟨G, env, S, Post.seq (Rel1 := fun G1 _ items J => ItRel K G1 items J) (x := fi env) (k := fun items => if items.length ≤ lim then nox (compL g t f items (wipeC env vs)) >>= fun ys => .ok (D.list ys) else .bad) P fun items J G1 H1 _ s1 r1 P1 => ?_⟩
  intro A nD
  have nA0 : H A = none := s1.keep.free nD
  split at P1
  · rename_i hlen
    cases hc : compL g t f items (wipeC env vs) with
    | exc C => rw [hc] at P1; exact False.elim P1
    | bad => rw [hc] at P1; exact False.elim P1
    | ok ys =>
      rw [hc] at P1
      have nG : ∀ {G : Hp}, Sub G H1 → G A = none := fun {G} s => by
        cases q : G A with
        | none => rfl
        | some u => rw [s _ _ q] at nD; cases nD
      refine ⟨fun i m H2 => ∃ G2 acc accD rest, Stp G1 H1 G2 H2 ∧ G2 A = none ∧ H2 A = some (.lst acc) ∧ RepAll K G2 accD acc ∧ m = items.length - i ∧ i ≤ items.length ∧ accD.length ≤ i ∧ compL g t f (items.drop i) (wipeC env vs) = .ok rest ∧ ys = accD ++ rest, ⟨items.length, G1, [], [], ys, Stp.made s1.sub nD, nG s1.sub, upd_same, .nil, rfl, Nat.zero_le _, Nat.le_refl _, hc, rfl⟩, ?_⟩
      rintro i m H2 ⟨G2, acc, accDx, rest, s2, n2, h2, ra, rfl, hi, hal, hr, hys⟩
      by_cases hlt : i < items.length
      · have ed : items.drop i = items[i] :: items.drop (i + 1) := List.drop_eq_getElem_cons hlt
        rw [ed] at hr
        unfold compL at hr
        refine .inr ⟨r1.go i G2 H2 hlt s2.le s2.sub, fun H3 => ∃ G2 acc accD rest', Stp G1 H1 G2 H3 ∧ G2 A = none ∧ H3 A = some (.lst acc) ∧ RepAll K G2 accD acc ∧ accD.length ≤ i + 1 ∧ compL g t f (items.drop (i + 1)) (wipeC env vs) = .ok rest' ∧ ys = accD ++ rest', fun H3 ⟨G3, acc3, accD3, rest3, a1, a2, a3, a4, a5, a6, a7⟩ => ⟨items.length - (i + 1), by omega, G3, acc3, accD3, rest3, a1, a2, a3, a4, rfl, hlt, a5, a6, a7⟩, fun x H3 hy => ?_⟩
        obtain ⟨G3, s3, r3⟩ := r1.yld i items[i] G2 H2 x H3 (List.getElem?_eq_getElem hlt) s2.le s2.sub hy
        have keepA : ∀ {Ga Ha Gb Hb : Hp} {zs : List V}, Stp Ga Ha Gb Hb → Ga A = none → Ha A = some (.lst zs) → Gb A = none ∧ Hb A = some (.lst zs) := fun {Ga Ha Gb Hb zs} st n h => by
          refine ⟨?_, st.keep _ _ h⟩
          cases q : Gb A with
          | none => rfl
          | some u =>
            rcases st.new A u q with ⟨z, e2⟩ | e2 | ⟨xs, e2⟩
            · rw [n] at e2; cases e2
            · rw [h] at e2; cases e2
            · have h1 := st.sub _ _ q
              rw [st.keep _ _ h] at h1
              cases h1
              cases e2
        have S3 := (((S.step s1).step s2).step s3).wipe vs
        have k3 := keepA s3 n2 h2
        cases hg : g items[i] (wipeC env vs) with
        | none => rw [hg] at hr; cases hr
        | some c1 =>
          rw [hg] at hr
          have hr : (t c1 >>= fun b => if b = true then f c1 >>= fun y => compL g t f (items.drop (i + 1)) (wipeC env vs) >>= fun ys => .ok (y :: ys) else compL g t f (items.drop (i + 1)) (wipeC env vs)) = .ok rest := hr
          refine ⟨_, _, G3, wipeC env vs, items[i], S3.open, r3, c1, hg, fun σ4 S4 ag => ⟨wipe_agree ag hv, G3, c1, S4.sr, ?_⟩⟩
          cases ht : t c1 with
          | bad => rw [ht] at hr; cases hr
          | exc C => rw [ht] at hr; cases hr
          | ok b =>
            rw [ht] at hr
            intro b' G5 H5 s5 eb
            cases eb
            have k5 := keepA s5 k3.1 k3.2
            have st5 := (s2.trans s3).trans s5
            cases b with
            | false => exact ⟨G5, acc, accDx, rest, st5, k5.1, k5.2, RepAll.mono (s3.le.trans s5.le) _ ra, by omega, hr, hys⟩
            | true =>
              rw [if_pos rfl]
              refine ⟨G5, c1, S4.sr.step s5, ?_⟩
              have hr : (f c1 >>= fun y => compL g t f (items.drop (i + 1)) (wipeC env vs) >>= fun ys => .ok (y :: ys)) = .ok rest := hr
              cases hf : f c1 with
              | bad => rw [hf] at hr; cases hr
              | exc C => rw [hf] at hr; cases hr
              | ok y =>
                rw [hf] at hr
                have hr : (compL g t f (items.drop (i + 1)) (wipeC env vs) >>= fun ys => .ok (y :: ys)) = .ok rest := hr
                cases hl : compL g t f (items.drop (i + 1)) (wipeC env vs) with
                | bad => rw [hl] at hr; cases hr
                | exc C => rw [hl] at hr; cases hr
                | ok rest' =>
                  rw [hl] at hr
                  have hr : R.ok (y :: rest') = .ok rest := hr
                  cases hr
                  intro yv G6 H6 s6 r6
                  have k6 := keepA s6 k5.1 k5.2
                  have st6 := st5.trans s6
                  have ra6 := RepAll.mono ((s3.le.trans s5.le).trans s6.le) _ ra
                  refine ⟨acc, k6.2, ?_, G6, acc ++ [yv], accDx ++ [y], rest', ?_, k6.1, upd_same, ra6.append (.cons r6 .nil), by simp; omega, rfl, by rw [hys]; simp⟩
                  · rw [ra6.length]
                    exact lim_lt (by omega)
                  · exact st6.wrote nD k6.1
      · have e : i = items.length := by omega
        subst e
        rw [List.drop_length] at hr
        cases hr
        rw [List.append_nil] at hys
        subst hys
        refine .inl ⟨r1.stop G2 H2 s2.le s2.sub, ?_⟩
        exact P1 _ G2 H2 s2 ⟨A, rfl, nA0, n2, acc, h2, ra⟩
  · exact False.elim P1
end
section
variable {X : Cx} {W : WX} {elt tg iter : Expr} {ifs : List Expr} {scope : Scope} {pos : Pos} {fi : Cells → R (List D)} {g : D → Cells → Option Cells} {t : Cells → R Bool} {f : Cells → R D} {is : List Nat}
theorem el_lc {own : List (Str × Nat)} (hc : X.calm = true) (hN : X.N.Nodup) (ok : BlkOk X.N X.env.scope scope own) (hi : EI X W tg iter fi)
    (hg : ∀ (s : Shared) (H : Hp) (C : Addr) (cl : List (Str × Addr)) (fp : List Addr), EG (X.blk s H scope (compEnvC scope cl C X.env) fp) tg is g)
    (ht : ∀ (s : Shared) (H : Hp) (C : Addr) (cl : List (Str × Addr)) (fp : List Addr), ETs (X.blk s H scope (compEnvC scope cl C X.env) fp) W0 ifs t)
    (he : ∀ (s : Shared) (H : Hp) (C : Addr) (cl : List (Str × Addr)) (fp : List Addr), EV (X.blk s H scope (compEnvC scope cl C X.env) fp) W0 elt f)
    (hv : ∀ i ∈ is, i ∈ own.map (·.2)) (hs : ∀ x, foldedSetIterable iter X.env x = pure x) :
    EL X W (.ListComp elt [⟨tg, iter, ifs, 0⟩] scope pos) (compV (own.map (·.2)) fi g t f) :=
  PE.imp (pe_lc hc hN hi ok hg ht he hs) fun σ H Q ⟨G, env, S, P⟩ => comp_run hv S P
/-- name = [..] on one line -/
theorem es_setLc (i : Nat) {own : List (Str × Nat)} {y : Str} {py spos : Pos} (hc : X.calm = true) (hN : X.N.Nodup) (hy : X.N[i]? = some y) (hyl : X.env.scope.names.lookup y = some .local)
    (hsw : swapsWith (.ListComp elt [⟨tg, iter, ifs, 0⟩] scope pos) (some (.Name y py)) spos.line X.env = pure true) (ok : BlkOk X.N X.env.scope scope own) (hi : EI X W tg iter fi)
    (hg : ∀ (s : Shared) (H : Hp) (C : Addr) (cl : List (Str × Addr)) (fp : List Addr), EG (X.blk s H scope (compEnvC scope cl C X.env) fp) tg is g)
    (ht : ∀ (s : Shared) (H : Hp) (C : Addr) (cl : List (Str × Addr)) (fp : List Addr), ETs (X.blk s H scope (compEnvC scope cl C X.env) fp) W0 ifs t)
    (he : ∀ (s : Shared) (H : Hp) (C : Addr) (cl : List (Str × Addr)) (fp : List Addr), EV (X.blk s H scope (compEnvC scope cl C X.env) fp) W0 elt f)
    (hv : ∀ i ∈ is, i ∈ own.map (·.2)) (hs : ∀ x, foldedSetIterable iter X.env x = pure x) :
    ES X W (.Assign [.Name y py] (.ListComp elt [⟨tg, iter, ifs, 0⟩] scope pos) spos) (fun c => compV (own.map (·.2)) fi g t f c >>= fun d => .ok (.nx (c.set i (.ow d)))) :=
  PS.imp (ps_setLc hc hN hy hyl hsw hi ok hg ht he hs) fun D' σ H ⟨G0, H0, G, env, S, P⟩ => comp_run hv S.sr <|
    PostS.seq (Rel1 := RL X.K H) (x := compV (own.map (·.2)) fi g t f env) (k := fun d => .ok (.nx (env.set i (.ow d)))) S P fun d v G1 H1 _ s1 S1 r1 P1 => by
      obtain ⟨q, rfl, n0, nG, o⟩ := r1
      exact P1 _ G1 H1 (.refl G1) (S1.setOw (S.stp.keep.free n0) nG o fun j e _ h => S.fresh (H1 := H) n0 j e h)
end

def dstep (k v : D) (acc : List (Key × D)) : R (List (Key × D)) := match keyOf k with
  | some k => .ok (putD acc k v)
  | none => .bad
def compDL (g : D → Cells → Option Cells) (t : Cells → R Bool) (fk fv : Cells → R D) (c : Cells) : List D → List (Key × D) → R (List (Key × D))
  | [], acc => .ok acc
  | d :: ds, acc => match g d c with
    | none => .bad
    | some c1 => t c1 >>= fun b => if b = true then fk c1 >>= fun k => fv c1 >>= fun v => dstep k v acc >>= fun acc' => compDL g t fk fv c ds acc' else compDL g t fk fv c ds acc
def compDV (vs : List Nat) (fi : Cells → R (List D)) (g : D → Cells → Option Cells) (t : Cells → R Bool) (fk fv : Cells → R D) : Cells → R D := fun c => fi c >>= fun items => if items.length ≤ lim then nox (compDL g t fk fv (wipeC c vs) items []) >>= fun ys => .ok (.dict ys) else .bad
end PL
end S12
noncomputable section S13
namespace PL
open PySem PySem.Spec PyProof.Rows L2
theorem putD_len {κ : Type} [DecidableEq κ] (kvs : List (κ × D)) (k : κ) (v : D) : (putD kvs k v).length ≤ kvs.length + 1 := by
  unfold putD
  split <;> simp
theorem keyOf_repV {K : PySem.W.Frag} {G : Hp} {d : D} {k : Key} {v : V} (h : keyOf d = some k) (r : Rep K G d v) : v = kV k := by
  unfold keyOf at h
  split at h
  · cases h; rw [Rep.int_iff.mp r]; rfl
  · cases h; rw [Rep.str_iff.mp r]; rfl
  · cases h
theorem comp_runD {K : PySem.W.Frag} {W : WX} {fi : Cells → R (List D)} {g : D → Cells → Option Cells} {t : Cells → R Bool} {fk fv : Cells → R D} {is vs : List Nat} (hv : ∀ i ∈ is, i ∈ vs) {σ : L2.St} {H : Hp} {Q : VK} {G : Hp} {env : Cells} (S : SR K G H σ env)
    (P : Post G H W σ (RL K H) (compDV vs fi g t fk fv env) Q) : tDc (tI K W fi) (tGt K is g) (tG K W0 (fun _ => RT) t) (tG K W0 (fun _ => RV K) fk) (tG K W0 (fun _ => RV K) fv) vs σ H Q := by
  refine ⟨G, env, S, Post.seq (Rel1 := fun G1 _ items J => ItRel K G1 items J) (x := fi env) (k := fun items => if items.length ≤ lim then nox (compDL g t fk fv (wipeC env vs) items []) >>= fun ys => .ok (D.dict ys) else .bad) P fun items J G1 H1 _ s1 r1 P1 => ?_⟩
  intro A nD
  have nA0 : H A = none := s1.keep.free nD
  split at P1
  · rename_i hlen
    cases hc : compDL g t fk fv (wipeC env vs) items [] with
    | exc C => rw [hc] at P1; exact False.elim P1
    | bad => rw [hc] at P1; exact False.elim P1
    | ok ys =>
      rw [hc] at P1
      have nG : ∀ {G : Hp}, Sub G H1 → G A = none := fun {G} s => by
        cases q : G A with
        | none => rfl
        | some u => rw [s _ _ q] at nD; cases nD
      refine ⟨fun i m H2 => ∃ G2 acc accD, Stp G1 H1 G2 H2 ∧ G2 A = none ∧ H2 A = some (.dK acc) ∧ RepK K G2 accD acc ∧ m = items.length - i ∧ i ≤ items.length ∧ accD.length ≤ i ∧ compDL g t fk fv (wipeC env vs) (items.drop i) accD = .ok ys, ⟨items.length, G1, [], [], Stp.made s1.sub nD, nG s1.sub, upd_same, .nil, rfl, Nat.zero_le _, Nat.le_refl _, hc⟩, ?_⟩
      rintro i m H2 ⟨G2, acc, accDx, s2, n2, h2, ra, rfl, hi, hal, hr⟩
      by_cases hlt : i < items.length
      · have ed : items.drop i = items[i] :: items.drop (i + 1) := List.drop_eq_getElem_cons hlt
        rw [ed] at hr
        unfold compDL at hr
        refine .inr ⟨r1.go i G2 H2 hlt s2.le s2.sub, fun H3 => ∃ G2 acc accD, Stp G1 H1 G2 H3 ∧ G2 A = none ∧ H3 A = some (.dK acc) ∧ RepK K G2 accD acc ∧ accD.length ≤ i + 1 ∧ compDL g t fk fv (wipeC env vs) (items.drop (i + 1)) accD = .ok ys, fun H3 ⟨G3, acc3, accD3, a1, a2, a3, a4, a5, a6⟩ => ⟨items.length - (i + 1), by omega, G3, acc3, accD3, a1, a2, a3, a4, rfl, hlt, a5, a6⟩, fun x H3 hy => ?_⟩
        obtain ⟨G3, s3, r3⟩ := r1.yld i items[i] G2 H2 x H3 (List.getElem?_eq_getElem hlt) s2.le s2.sub hy
        have keepA : ∀ {Ga Ha Gb Hb : Hp} {zs : List (Key × V)}, Stp Ga Ha Gb Hb → Ga A = none → Ha A = some (.dK zs) → Gb A = none ∧ Hb A = some (.dK zs) := fun {Ga Ha Gb Hb zs} st n h => by
          refine ⟨?_, st.keep _ _ h⟩
          cases q : Gb A with
          | none => rfl
          | some u =>
            rcases st.new A u q with ⟨z, e2⟩ | e2 | ⟨xs, e2⟩
            · rw [n] at e2; cases e2
            · rw [h] at e2; cases e2
            · have h1 := st.sub _ _ q
              rw [st.keep _ _ h] at h1
              cases h1
              cases e2
        have S3 := (((S.step s1).step s2).step s3).wipe vs
        have k3 := keepA s3 n2 h2
        cases hg : g items[i] (wipeC env vs) with
        | none => rw [hg] at hr; cases hr
        | some c1 =>
          rw [hg] at hr
          have hr : (t c1 >>= fun b => if b = true then fk c1 >>= fun k => fv c1 >>= fun v => dstep k v accDx >>= fun acc' => compDL g t fk fv (wipeC env vs) (items.drop (i + 1)) acc' else compDL g t fk fv (wipeC env vs) (items.drop (i + 1)) accDx) = .ok ys := hr
          refine ⟨_, _, G3, wipeC env vs, items[i], S3.open, r3, c1, hg, fun σ4 S4 ag => ⟨wipe_agree ag hv, G3, c1, S4.sr, ?_⟩⟩
          cases ht : t c1 with
          | bad => rw [ht] at hr; cases hr
          | exc C => rw [ht] at hr; cases hr
          | ok b =>
            rw [ht] at hr
            intro b' G5 H5 s5 eb
            cases eb
            have k5 := keepA s5 k3.1 k3.2
            have st5 := (s2.trans s3).trans s5
            cases b with
            | false => exact ⟨G5, acc, accDx, st5, k5.1, k5.2, RepK.mono (s3.le.trans s5.le) _ ra, by omega, hr⟩
            | true =>
              rw [if_pos rfl]
              refine ⟨G5, c1, S4.sr.step s5, ?_⟩
              have hr : (fk c1 >>= fun k => fv c1 >>= fun v => dstep k v accDx >>= fun acc' => compDL g t fk fv (wipeC env vs) (items.drop (i + 1)) acc') = .ok ys := hr
              cases hf : fk c1 with
              | bad => rw [hf] at hr; cases hr
              | exc C => rw [hf] at hr; cases hr
              | ok kd =>
                rw [hf] at hr
                have hr : (fv c1 >>= fun v => dstep kd v accDx >>= fun acc' => compDL g t fk fv (wipeC env vs) (items.drop (i + 1)) acc') = .ok ys := hr
                intro kv G6 H6 s6 r6
                have k6 := keepA s6 k5.1 k5.2
                have st6 := st5.trans s6
                refine ⟨G6, c1, (S4.sr.step s5).step s6, ?_⟩
                cases hf2 : fv c1 with
                | bad => rw [hf2] at hr; cases hr
                | exc C => rw [hf2] at hr; cases hr
                | ok vd =>
                  rw [hf2] at hr
                  have hr : (dstep kd vd accDx >>= fun acc' => compDL g t fk fv (wipeC env vs) (items.drop (i + 1)) acc') = .ok ys := hr
                  intro vv G7 H7 s7 r7
                  have k7 := keepA s7 k6.1 k6.2
                  have st7 := st6.trans s7
                  have ra7 := RepK.mono (((s3.le.trans s5.le).trans s6.le).trans s7.le) _ ra
                  unfold dstep at hr
                  split at hr
                  · rename_i k hk
                    have hr : compDL g t fk fv (wipeC env vs) (items.drop (i + 1)) (putD accDx k vd) = .ok ys := hr
                    refine ⟨acc, k, keyOf_repV hk r6, k7.2, ?_, G7, putK acc k vv, putD accDx k vd, ?_, k7.1, upd_same, ra7.put k r7, ?_, hr⟩
                    · rw [ra7.length]
                      exact lim_lt (by omega)
                    · exact st7.wrote nD k7.1
                    · have := putD_len accDx k vd
                      omega
                  · cases hr
      · have e : i = items.length := by omega
        subst e
        rw [List.drop_length] at hr
        have hr : R.ok accDx = .ok ys := hr
        cases hr
        refine .inl ⟨r1.stop G2 H2 s2.le s2.sub, ?_⟩
        exact P1 _ G2 H2 s2 ⟨A, rfl, nA0, n2, acc, h2, ra⟩
  · exact False.elim P1
section
variable {X : Cx} {W : WX} {kx vx tg iter : Expr} {ifs : List Expr} {scope : Scope} {pos : Pos} {fi : Cells → R (List D)} {g : D → Cells → Option Cells} {t : Cells → R Bool} {fk fv : Cells → R D} {is : List Nat}
theorem el_dc {own : List (Str × Nat)} (hc : X.calm = true) (hN : X.N.Nodup) (ok : BlkOk X.N X.env.scope scope own) (hi : EI X W tg iter fi)
    (hg : ∀ (s : Shared) (H : Hp) (C : Addr) (cl : List (Str × Addr)) (fp : List Addr), EG (X.blk s H scope (compEnvC scope cl C X.env) fp) tg is g)
    (ht : ∀ (s : Shared) (H : Hp) (C : Addr) (cl : List (Str × Addr)) (fp : List Addr), ETs (X.blk s H scope (compEnvC scope cl C X.env) fp) W0 ifs t)
    (hk : ∀ (s : Shared) (H : Hp) (C : Addr) (cl : List (Str × Addr)) (fp : List Addr), EV (X.blk s H scope (compEnvC scope cl C X.env) fp) W0 kx fk)
    (he : ∀ (s : Shared) (H : Hp) (C : Addr) (cl : List (Str × Addr)) (fp : List Addr), EV (X.blk s H scope (compEnvC scope cl C X.env) fp) W0 vx fv)
    (hv : ∀ i ∈ is, i ∈ own.map (·.2)) (hs : ∀ x, foldedSetIterable iter X.env x = pure x) :
    EL X W (.DictComp kx vx [⟨tg, iter, ifs, 0⟩] scope pos) (compDV (own.map (·.2)) fi g t fk fv) :=
  PE.imp (pe_dc hc hN hi ok hg ht hk he hs) fun σ H Q ⟨G, env, S, P⟩ => comp_runD hv S P
end
end PL
end S13
noncomputable section S14
namespace PL
open PySem PySem.Spec PyProof.Rows L2
/-- what a def promises: m of the arguments' data -/
def spOf (K : PySem.W.Frag) (n : Nat) (m : List D → R D) : Sp := fun vs H Q E => vs.length = n ∧ ∃ G ds, Sub G H ∧ RepAll K G ds vs ∧ Post G H (fun cls d _ H => E cls d H) [] (RV K) (m ds) Q
abbrev WD (E : XK) : WX := fun cls d _ H => E cls d H
/-- the cells at the entry -/
def cellsN (N : List Str) (ds : List D) : Cells := ds.map Cell.fz ++ List.replicate (N.length - ds.length) .un
def endR : R Out → R D
  | .ok (.rt d) => .ok d
  | .ok (.nx _) => .ok .none
  | .ok _ => .bad
  | .exc C => .exc C
  | .bad => .bad
section
variable {P : Program} {w : World} {K : PySem.W.Frag} {mg : Str → Option Value} {base : Heap}
theorem SR.start {G H : Hp} {N : List Str} {ds : List D} {vs : List V} (s : Sub G H) (r : RepAll K G ds vs) : SR K G H (L2.start N vs) (cellsN N ds) := by
  have hl := r.length
  have hc : ∀ (j : Nat) (c : Cell), (cellsN N ds)[j]? = some c → (∃ d v, ds[j]? = some d ∧ c = .fz d ∧ vs[j]? = some v ∧ (L2.start N vs)[j]? = some (some v) ∧ Rep K G d v) ∨ c = .un := fun j c h => by
    unfold cellsN at h
    by_cases z : j < ds.length
    · rw [List.getElem?_append_left (by simpa using z), List.getElem?_map, List.getElem?_eq_getElem z] at h
      obtain ⟨v, e, rv⟩ := r.get (List.getElem?_eq_getElem z)
      refine .inl ⟨ds[j], v, List.getElem?_eq_getElem z, (Option.some.inj h).symm, e, ?_, rv⟩
      unfold L2.start
      rw [List.getElem?_append_left (by rw [List.length_map]; omega), List.getElem?_map, e]
      rfl
    · rw [List.getElem?_append_right (by simpa using z), List.getElem?_replicate] at h
      split at h
      · exact .inr (Option.some.inj h).symm
      · cases h
  refine ⟨s, fun j d h => ?_, fun j d h => ?_, fun j k d e a n h h' _ _ => ?_, ?_⟩
  · rcases hc j _ h with ⟨d', v, e1, e2, e3, e4, r⟩ | z
    · cases e2; exact ⟨v, e4, r⟩
    · cases z
  · rcases hc j _ h with ⟨d', v, e1, e2, e3, e4, r⟩ | z
    · cases e2
    · cases z
  · rcases hc j _ h with ⟨d', v, e1, e2, e3, e4, r⟩ | z
    · cases e2
    · cases z
  · unfold L2.start cellsN
    rw [List.length_append, List.length_append, List.length_map, List.length_map, List.length_replicate, List.length_replicate, hl]
theorem SB.start {G H : Hp} {N : List Str} {ds : List D} {vs : List V} (s : Sub G H) (r : RepAll K G ds vs) : SB K G H G H (L2.start N vs) (cellsN N ds) :=
  ⟨SR.start s r, .refl s, fun i d a h _ => by
    unfold cellsN at h
    by_cases z : i < ds.length
    · rw [List.getElem?_append_left (by simpa using z), List.getElem?_map, List.getElem?_eq_getElem z] at h
      cases h
    · rw [List.getElem?_append_right (by simpa using z), List.getElem?_replicate] at h
      split at h <;> cases h⟩
/-- THE RULE for a def -/
theorem fn_pl {x qual : Str} {st : Stmt} {f : Addr} {fd : FuncData} {N ps : List Str} {k : Nat} {fb : Cells → R Out} (F : FunD K x qual (defArgs st) (defBody st) (defScope st) [] [] f fd) (S : FnScope N ps (defScope st))
    (hb : ∀ (cdv : Value) (A : Around) (outer : List Env) (s : Shared) (H : Hp) (E : XK), Room k (A.deeper (envOfC qual (defScope st) s.heap.objs.size f cdv)) →
      ESs (cxOf (L2.CX P w) P w K mg base N qual (defScope st) f cdv A outer s H E) (WD E) (defBody st) fb) :
    FnOk P w K mg base (L2.CX P w) (k + 1) f fd ps (spOf K ps.length fun ds => endR (fb (cellsN N ds))) := by
  refine F.ok S (fun vs H Q E h => h.1) (fun cdv A outer s H vs Q E hr h => ?_)
  obtain ⟨hl, G, ds, sub, r, P⟩ := h
  refine ⟨_, hb cdv A outer s H E hr, G, H, G, cellsN N ds, .start sub r, ?_⟩
  change Post G H (WD E) [] (RV K) (endR (fb (cellsN N ds))) Q at P
  change PostS K G H G (WD E) (fb (cellsN N ds)) _
  generalize fb (cellsN N ds) = rr at P ⊢
  cases rr with
  | bad => exact P
  | exc C => exact fun σ' H' s => P H' s
  | ok o => cases o with
    | nx c => exact fun σ' G' H' l S' => P .non G' H' S'.stp (Rep.none_iff.mpr rfl)
    | rt d => exact fun v G' H' s r => P v G' H' s r
    | bk c => exact False.elim P
    | ct c => exact False.elim P
/-- a def by a known answer -/
theorem FnOk.to {k : Nat} {f : Addr} {fd : FuncData} {ps : List Str} {n : Nat} {m m' : List D → R D} {CX : CXT} (F : FnOk P w K mg base CX k f fd ps (spOf K n m)) (h : ∀ ds, ds.length = n → m' ds ≠ .bad → m ds = m' ds) : FnOk P w K mg base CX k f fd ps (spOf K n m') :=
  F.imp fun vs H Q E ⟨hl, G, ds, s, r, q⟩ => ⟨hl, G, ds, s, r, by
    have e : m' ds ≠ .bad := fun z => by rw [z] at q; exact q
    rw [h ds (r.length.symm.trans hl) e]; exact q⟩
end
section
variable {X : Cx} {W : WX} {e o : Expr} {es : List Expr} {pos : Pos} {fa : Cells → R (List D)}
def callD (n : Nat) (m : List D → R D) (fa : Cells → R (List D)) : Cells → R D := fun c => fa c >>= fun ds => if ds.length = n then m ds else .bad
theorem ev_call {k : Nat} {f : Addr} {fd : FuncData} {ps : List Str} {n : Nat} {m : List D → R D} {x : Str} {p : Pos} (F : FnOk X.prog X.w X.K X.mg X.base (L2.CX X.prog X.w) k f fd ps (spOf X.K n m)) (hr : Room k X.A) (hg : Gl X x) (hm : X.mg x = some (.ref f)) (hk : PySem.W.keepIn X.K (.ref f) = true) (hb : Binds X.K fd ps [])
    (tk : Takes X W) (ha : EA X W (e :: es) fa) (hdb : (x == ("__debug__" : Str)) = false) (he : starEach (e :: es) X.env = (false, eval e X.env) :: starEach es X.env) (hpl : (backTo pos (starEach es X.env)).any (·.1) = false) :
    EV X W (.Call (.Name x p) (e :: es) [] pos) (callD n m fa) := PE.imp (pe_callS F hr hg hm hk hb (fun σ => passAt tk σ) ha hdb he hpl) fun σ H Q ⟨G, env, S, P⟩ => by
  refine ⟨G, env, S, Post.seq (Rel1 := RA X.K) (x := fa env) (k := fun ds => if ds.length = n then m ds else .bad) P fun ds vs G1 H1 _ s1 r1 P1 => ?_⟩
  split at P1
  · rename_i hl
    refine ⟨r1.length.trans hl, G1, ds, s1.sub, r1, ?_⟩
    generalize m ds = rr at P1 ⊢
    cases rr with
    | ok d => exact P1
    | exc C => exact P1
    | bad => exact P1
  · exact False.elim P1
def fldD (C : Addr) (f : Str) : D → R D
  | .inst C' fs => if C' = C then (match fs.lookup f with | some d => .ok d | none => .bad) else .bad
  | _ => .bad
theorem RepF.get {K : PySem.W.Frag} {G : Hp} {f : Str} : ∀ {fs : List (Str × D)} {xs : List (Str × V)} {d : D}, RepF K G fs xs → fs.lookup f = some d → ∃ v, xs.lookup f = some v ∧ Rep K G d v
  | [], _, _, _, h => by cases h
  | (k, d) :: fs, _, d', r, h => by
    obtain ⟨v, vs, rfl, r1, r2⟩ := RepF.cons_iff.mp r
    rw [List.lookup_cons] at h ⊢
    cases e : f == k with
    | true => rw [e] at h; cases h; exact ⟨v, rfl, r1⟩
    | false => rw [e] at h; exact RepF.get r2 h
theorem RepF.no {K : PySem.W.Frag} {G : Hp} {f : Str} : ∀ {fs : List (Str × D)} {xs : List (Str × V)}, RepF K G fs xs → fs.lookup f = none → xs.lookup f = none
  | [], xs, r, _ => by
    have e : xs = [] := by rw [RepF] at r; exact r
    rw [e]; rfl
  | (k, d) :: fs, _, r, h => by
    obtain ⟨v, vs, rfl, r1, r2⟩ := RepF.cons_iff.mp r
    rw [List.lookup_cons] at h ⊢
    cases e : f == k with
    | true => rw [e] at h; cases h
    | false => rw [e] at h; exact RepF.no r2 h
theorem ev_fld {C : Addr} {f : Str} {fe : Cells → R D} (he : EV X W e fe) (c : Cls X.K C) (n : NoAttr X.K C f) (hb : attributeBase e f X.env (eval e X.env) = eval e X.env) : EV X W (.Attribute e f pos) (fun c => fe c >>= fldD C f) :=
  PE.imp (pe_fld he hb) fun σ H Q ⟨G, env, S, P⟩ => by
    refine ⟨G, env, S, Post.seq (Rel1 := RV X.K) (x := fe env) (k := fldD C f) P fun d v G1 H1 he0 s1 r1 P1 => ?_⟩
    clear he0
    unfold fldD at P1
    split at P1
    · rename_i C' fs
      split at P1
      · rename_i hC
        subst hC
        obtain ⟨a, dx, fvs, rfl, ha, rf⟩ := Rep.inst_iff.mp r1
        cases hl : fs.lookup f with
        | none => rw [hl] at P1; exact False.elim P1
        | some d =>
          rw [hl] at P1
          obtain ⟨v, e1, rv⟩ := rf.get hl
          exact ⟨a, C', dx, fvs, v, rfl, s1.sub _ _ ha, c, n, e1, P1.here s1.sub rv⟩
      · exact False.elim P1
    · exact False.elim P1
def noxD : R D → R D
  | .ok d => .ok d
  | _ => .bad
def methD (C : Addr) (m : Str) (n : Nat) (f : List D → R D) (fo : Cells → R D) (fa : Cells → R (List D)) : Cells → R D := fun c => fo c >>= fun d => match d with
  | .inst C' fs => if C' = C then (match fs.lookup m with
    | none => fa c >>= fun ds => if ds.length + 1 = n then noxD (f (.inst C' fs :: ds)) else .bad
    | some _ => .bad) else .bad
  | _ => .bad
theorem ev_meth {pl : Sem Bool} {k : Nat} {C f : Addr} {fd : FuncData} {ps : List Str} {n : Nat} {mf : List D → R D} {m : Str} {apos : Pos} {fo : Cells → R D} (ho : EV X W o fo) (c : Cls X.K C) (hm : Meth X.K C m f)
    (F : FnOk X.prog X.w X.K X.mg X.base (L2.CX X.prog X.w) k f fd ps (spOf X.K n mf)) (hr : Room k X.A) (hb : Binds X.K fd ps []) (ha : EA X W (e :: es) fa)
    (hst : starEach (e :: es) X.env = (false, eval e X.env) :: starEach es X.env) (hpl : (backTo pos (starEach es X.env)).any (·.1) = false)
    (ht : eval (.Call (.Attribute o m apos) (e :: es) [] pos) X.env = (do
      let ov ← eval o X.env
      standAt apos.atName
      let (f, first) ← holding [ov] (getMethod ov m pl)
      callWith pos f first (backTo pos (starEach (e :: es) X.env)) (backToKw pos (keywordEach [] X.env)))) :
    EV X W (.Call (.Attribute o m apos) (e :: es) [] pos) (methD C m n mf fo fa) := PE.imp (pe_meth (dvs := []) ho c hm F hr hb .nil passL ha hst hpl ht) fun σ H Q ⟨G, env, S, P⟩ => by
  refine ⟨G, env, S, Post.seq (Rel1 := RV X.K) (x := fo env) (k := fun d => match d with
  | .inst C' fs => if C' = C then (match fs.lookup m with
    | none => fa env >>= fun ds => if ds.length + 1 = n then noxD (mf (.inst C' fs :: ds)) else .bad
    | some _ => .bad) else .bad
  | _ => .bad) P fun d v G1 H1 he0 s1 r1 P1 => ?_⟩
  clear he0
  split at P1
  · rename_i C' fs
    split at P1
    · rename_i hC
      subst hC
      obtain ⟨a, dx, fvs, rfl, hA, rf⟩ := Rep.inst_iff.mp r1
      cases hl : fs.lookup m with
      | some d => rw [hl] at P1; exact False.elim P1
      | none =>
        rw [hl] at P1
        refine ⟨a, dx, fvs, rfl, s1.sub _ _ hA, rf.no hl, G1, env, S.step s1, Post.seq (Rel1 := RA X.K) (x := fa env) (k := fun ds => if ds.length + 1 = n then noxD (mf (.inst C' fs :: ds)) else .bad) P1 fun ds vs G2 H2 _ s2 r2 P2 => ?_⟩
        split at P2
        · rename_i hn
          refine ⟨by rw [List.append_nil]; show vs.length + 1 = n; rw [r2.length]; exact hn, G2, .inst C' fs :: ds, s2.sub, by rw [List.append_nil]; exact .cons (r1.mono s2.le) r2, ?_⟩
          generalize mf (.inst C' fs :: ds) = rr at P2 ⊢
          cases rr with
          | ok d => exact P2
          | exc C => exact False.elim P2
          | bad => exact P2
        · exact False.elim P2
    · exact False.elim P1
  · exact False.elim P1
def meth0D (C : Addr) (m : Str) (f : List D → R D) (fo : Cells → R D) : Cells → R D := fun c => fo c >>= fun d => match d with
  | .inst C' fs => if C' = C then (match fs.lookup m with
    | none => noxD (f [.inst C' fs])
    | some _ => .bad) else .bad
  | _ => .bad
theorem ev_meth0 {pl : Sem Bool} {k : Nat} {C f : Addr} {fd : FuncData} {ps : List Str} {mf : List D → R D} {m : Str} {apos : Pos} {fo : Cells → R D} (ho : EV X W o fo) (c : Cls X.K C) (hm : Meth X.K C m f)
    (F : FnOk X.prog X.w X.K X.mg X.base (L2.CX X.prog X.w) k f fd ps (spOf X.K 1 mf)) (hr : Room k X.A) (hb : Binds X.K fd ps [])
    (ht : eval (.Call (.Attribute o m apos) [] [] pos) X.env = (do
      let ov ← eval o X.env
      standAt apos.atName
      let (f, first) ← holding [ov] (getMethod ov m pl)
      callWith pos f first (backTo pos (starEach [] X.env)) (backToKw pos (keywordEach [] X.env)))) :
    EV X W (.Call (.Attribute o m apos) [] [] pos) (meth0D C m mf fo) := PE.imp (pe_meth0 (dvs := []) ho c hm F hr hb .nil passL ht) fun σ H Q ⟨G, env, S, P⟩ => by
  refine ⟨G, env, S, Post.seq (Rel1 := RV X.K) (x := fo env) (k := fun d => match d with
  | .inst C' fs => if C' = C then (match fs.lookup m with
    | none => noxD (mf [.inst C' fs])
    | some _ => .bad) else .bad
  | _ => .bad) P fun d v G1 H1 he0 s1 r1 P1 => ?_⟩
  clear he0
  split at P1
  · rename_i C' fs
    split at P1
    · rename_i hC
      subst hC
      obtain ⟨a, dx, fvs, rfl, hA, rf⟩ := Rep.inst_iff.mp r1
      cases hl : fs.lookup m with
      | some d => rw [hl] at P1; exact False.elim P1
      | none =>
        rw [hl] at P1
        refine ⟨a, dx, fvs, rfl, s1.sub _ _ hA, rf.no hl, rfl, G1, [.inst C' fs], s1.sub, .cons r1 .nil, ?_⟩
        change Post G1 H1 _ [] (RV X.K) (mf [.inst C' fs]) Q
        generalize mf [.inst C' fs] = rr at P1 ⊢
        cases rr with
        | ok d => exact P1
        | exc C => exact False.elim P1
        | bad => exact P1
    · exact False.elim P1
  · exact False.elim P1
end
end PL
end S14
noncomputable section S15
namespace PL
open PySem PySem.Spec PyProof.Rows L2
/-- within an __init__: the new instance x, its fields fs; slot 0 is self -/
structure SI (K : PySem.W.Frag) (C x : Addr) (G0 H0 G H : Hp) (σ : L2.St) (env : Cells) (fs : List (Str × D)) : Prop where
  sr : SR K G H σ env
  self : σ[0]? = some (some (.ref x))
  obj : ∃ dx fvs, H x = some (.ins C dx fvs) ∧ RepF K G fs fvs
  gx : G x = none
  hx : H0 x = none
  stp : Stp G0 H0 G H
def putFD (f : Str) (d : D) : List (Str × D) → List (Str × D)
  | [] => [(f, d)]
  | (g, e) :: r => if g = f then (f, d) :: r else (g, e) :: putFD f d r
theorem RepF.len {K : PySem.W.Frag} {G : Hp} : ∀ {fs : List (Str × D)} {xs : List (Str × V)}, RepF K G fs xs → xs.length = fs.length
  | [], xs, r => by
    have e : xs = [] := by rw [RepF] at r; exact r
    rw [e]; rfl
  | (k, d) :: fs, _, r => by
    obtain ⟨v, vs, rfl, r1, r2⟩ := RepF.cons_iff.mp r
    rw [List.length_cons, List.length_cons, RepF.len r2]
theorem RepF.putF {K : PySem.W.Frag} {G : Hp} {f : Str} {d : D} {v : V} (r0 : Rep K G d v) : ∀ {fs : List (Str × D)} {xs : List (Str × V)}, RepF K G fs xs → RepF K G (putFD f d fs) (L2.putF f v xs)
  | [], xs, r => by
    have e : xs = [] := by rw [RepF] at r; exact r
    subst e
    exact RepF.cons_iff.mpr ⟨v, [], rfl, r0, r⟩
  | (k, e) :: fs, _, r => by
    obtain ⟨u, us, rfl, r1, r2⟩ := RepF.cons_iff.mp r
    unfold putFD L2.putF
    by_cases z : k = f
    · rw [if_pos z, if_pos z, z]; exact RepF.cons_iff.mpr ⟨v, us, rfl, r0, r2⟩
    · rw [if_neg z, if_neg z]; exact RepF.cons_iff.mpr ⟨u, _, rfl, r1, RepF.putF r0 r2⟩
def initV : List (Str × (Cells → R D)) → Cells → List (Str × D) → R (List (Str × D))
  | [], _, fs => .ok fs
  | (f, fe) :: r, c, fs => fe c >>= fun d => initV r c (putFD f d fs)
def PostF (K : PySem.W.Frag) (C x : Addr) (G0 H0 G : Hp) (W : WX) (σ : L2.St) (env : Cells) (r : R (List (Str × D))) (D' : Ends) : Prop := match r with
  | .ok fs => ∀ G' H', Le G G' → SI K C x G0 H0 G' H' σ env fs → D'.nx σ H'
  | .exc C => ∀ σ' H', Same H0 H' → W (.ref C) none σ' H'
  | .bad => False
def tF (K : PySem.W.Frag) (C : Addr) (W : WX) (l : List (Str × (Cells → R D))) : TS := fun D' σ H => ∃ x G0 H0 G env fs, SI K C x G0 H0 G H σ env fs ∧ fs.length + l.length < 1000 ∧ PostF K C x G0 H0 G W σ env (initV l env fs) D'
abbrev EF (X : Cx) (W : WX) (C : Addr) (b : List Stmt) (l : List (Str × (Cells → R D))) : Prop := PSs X b (tF X.K C W l)
theorem putFD_len (f : Str) (d : D) : ∀ fs : List (Str × D), (putFD f d fs).length ≤ fs.length + 1
  | [] => by unfold putFD; simp
  | (g, e) :: r => by
    unfold putFD
    split
    · simp
    · have := putFD_len f d r
      simp only [List.length_cons]; omega
section
variable {X : Cx} {W : WX} {C : Addr}
theorem SI.step {K : PySem.W.Frag} {C x : Addr} {G0 H0 G H G1 H1 : Hp} {σ : L2.St} {env : Cells} {fs : List (Str × D)} (S : SI K C x G0 H0 G H σ env fs) (t : Stp G H G1 H1) : SI K C x G0 H0 G1 H1 σ env fs := by
  obtain ⟨dx, fvs, hx, rf⟩ := S.obj
  refine ⟨S.sr.step t, S.self, ⟨dx, fvs, t.keep _ _ hx, RepF.mono t.le _ rf⟩, ?_, S.hx, S.stp.trans t⟩
  cases q : G1 x with
  | none => rfl
  | some u =>
    rcases t.new x u q with ⟨z, e2⟩ | e2 | ⟨xs, e2⟩
    · rw [S.gx] at e2; cases e2
    · rw [hx] at e2; cases e2
    · have h1 := t.sub _ _ q
      rw [t.keep _ _ hx] at h1
      cases h1
      cases e2
theorem ef_nil : EF X W C [] [] := PSs.imp pss_nil fun D' σ H ⟨x, G0, H0, G, env, fs, S, _, P⟩ => P G H (.refl G) S
theorem ef_cons {y f : Str} {e : Expr} {p1 p2 pos : Pos} {fe : Cells → R D} {rest : List Stmt} {l : List (Str × (Cells → R D))} (hN : X.N[0]? = some y) (hv : Vis X.env.scope y) (hd : (y == ("__debug__" : Str)) = false) (hcd : (y == ("__classdict__" : Str)) = false)
    (c : Cls X.K C) (n : NoAttr X.K C f) (he : EV X W e fe) (hs : swapsWith e (some (.Attribute (.Name y p1) f p2)) pos.line X.env = pure false) (hr : EF X W C rest l) :
    EF X W C (.Assign [.Attribute (.Name y p1) f p2] e pos :: rest) ((f, fe) :: l) := PSs.imp (pss_cons (ps_fld (pe_var hN hv hd hcd) he hs) hr) fun D' σ H ⟨x, G0, H0, G, env, fs, S, hl, P⟩ => by
  refine ⟨G, env, S.sr, ?_⟩
  change PostF X.K C x G0 H0 G W σ env (fe env >>= fun d => initV l env (putFD f d fs)) D' at P
  cases he : fe env with
  | bad => rw [he] at P; exact False.elim P
  | exc C' => rw [he] at P; exact fun H1 s => P σ H1 (S.stp.keep.trans s)
  | ok d =>
    rw [he] at P
    intro v G1 H1 s1 r1
    have S1 := S.step s1
    obtain ⟨dx, fvs, hx, rf⟩ := S1.obj
    refine ⟨.ref x, S1.self, x, C, dx, fvs, rfl, hx, c, n, by rw [rf.len]; simp only [List.length_cons] at hl; omega, ?_⟩
    have t : Stp G0 H0 G1 (upd H1 x (.ins C dx (L2.putF f v fvs))) := S1.stp.wrote S.hx S1.gx
    have own : ∀ (i : Nat) (d : D), env[i]? = some (.ow d) → ∀ a, σ[i]? = some (some (.ref a)) → Own X.K G1 H1 a d → Own X.K G1 (upd H1 x (.ins C dx (L2.putF f v fvs))) a d := fun i d _ a _ o => by
      refine o.move (.refl _) fun u q => ?_
      by_cases z : a = x
      · subst z
        rw [hx] at q
        cases q
        exfalso
        cases d with
        | list _ => obtain ⟨_, e, _⟩ := o; rw [hx] at e; cases e
        | dict _ => obtain ⟨_, e, _⟩ := o; rw [hx] at e; cases e
        | dictT _ => obtain ⟨_, e, _⟩ := o; rw [hx] at e; cases e
        | _ => exact o
      · rw [upd_ne z]; exact q
    refine ⟨x, G0, H0, G1, env, putFD f d fs, ⟨⟨t.sub, S1.sr.fz, fun i d' h => ?_, S1.sr.apart, S1.sr.len⟩, S1.self, ⟨dx, _, upd_same, RepF.putF r1 rf⟩, S1.gx, S1.hx, t⟩, ?_, ?_⟩
    · obtain ⟨a, e1, n1, o1⟩ := S1.sr.ow i d' h
      exact ⟨a, e1, n1, own i d' h a e1 o1⟩
    · have := putFD_len f d fs
      simp only [List.length_cons] at hl; omega
    · change PostF X.K C x G0 H0 G W σ env (initV l env (putFD f d fs)) D' at P
      generalize initV l env (putFD f d fs) = rr at P ⊢
      cases rr with
      | ok fs' => exact fun G' H' l' S' => P G' H' (s1.le.trans l') S'
      | exc C' => exact P
      | bad => exact P
end
/-- what an __init__ promises -/
def spInit (K : PySem.W.Frag) (C : Addr) (n : Nat) (m : List D → R (List (Str × D))) : Sp := fun vs H Q E => vs.length = n + 1 ∧ ∃ x dx H0 G0 us ds, vs = .ref x :: us ∧ H = upd (upd H0 dx (.own x)) x (.ins C dx []) ∧ H0 x = none ∧ H0 dx = none ∧ dx ≠ x ∧ Sub G0 H0 ∧ RepAll K G0 ds us ∧ match m ds with
  | .ok fs => ∀ G' H' cx fvs, Stp G0 H0 G' H' → G' x = none → H' x = some (.ins C cx fvs) → RepF K G' fs fvs → Q .non H'
  | .exc C' => ∀ H', Same H0 H' → E (.ref C') none H'
  | .bad => False
section
variable {P : Program} {w : World} {K : PySem.W.Frag} {mg : Str → Option Value} {base : Heap}
theorem fn_init {x qual : Str} {st : Stmt} {f C : Addr} {fd : FuncData} {N ps : List Str} {k n : Nat} {l : List (Str × (Cells → R D))} (F : FunD K x qual (defArgs st) (defBody st) (defScope st) [] [] f fd) (S : FnScope N ps (defScope st)) (hn : ps.length = n + 1) (hl : l.length < 1000)
    (hb : ∀ (cdv : Value) (A : Around) (outer : List Env) (s : Shared) (H : Hp) (E : XK), Room k (A.deeper (envOfC qual (defScope st) s.heap.objs.size f cdv)) →
      EF (cxOf (L2.CX P w) P w K mg base N qual (defScope st) f cdv A outer s H E) (WD E) C (defBody st) l) :
    FnOk P w K mg base (L2.CX P w) (k + 1) f fd ps (spInit K C n fun ds => initV l (.un :: (cellsN N (.none :: ds)).drop 1) []) := by
  refine F.ok S (fun vs H Q E h => h.1.trans hn.symm) (fun cdv A outer s H vs Q E hr h => ?_)
  obtain ⟨hvl, a, dx, H0, G0, us, ds, rfl, rfl, hx, hdx, hne, sub, r, P⟩ := h
  have nG : ∀ {b : Addr}, H0 b = none → G0 b = none := fun {b} e => by
    cases q : G0 b with
    | none => rfl
    | some u => rw [sub _ _ q] at e; cases e
  have t1 : Stp G0 H0 G0 (upd H0 dx (.own a)) := .made sub hdx
  have t2 : Stp G0 H0 G0 (upd (upd H0 dx (.own a)) a (.ins C dx [])) := t1.wrote hx (nG hx)
  have S0 : SR K G0 (upd (upd H0 dx (.own a)) a (.ins C dx [])) (L2.start N (.ref a :: us)) (.un :: (cellsN N (.none :: ds)).drop 1) := by
    have q := SR.start (N := N) t2.sub (show RepAll K G0 (.none :: ds) (.non :: us) from .cons (Rep.none_iff.mpr rfl) r)
    have e1 : ∀ i : Nat, (L2.start N (.ref a :: us))[i + 1]? = (L2.start N (.non :: us))[i + 1]? := fun i => rfl
    have e2 : ∀ i : Nat, (Cell.un :: (cellsN N (.none :: ds)).drop 1)[i + 1]? = (cellsN N (.none :: ds))[i + 1]? := fun i => rfl
    refine ⟨q.sub, fun i d h => ?_, fun i d h => ?_, fun i j d e b n h1 h2 => ?_, ?_⟩
    · cases i with
      | zero => cases h
      | succ i => rw [e2] at h; rw [e1]; exact q.fz _ d h
    · cases i with
      | zero => cases h
      | succ i => rw [e2] at h; rw [e1]; exact q.ow _ d h
    · cases i with
      | zero => cases h1
      | succ i =>
        cases j with
        | zero => cases h2
        | succ j =>
          rw [e2] at h1 h2
          rw [e1, e1]
          exact q.apart _ _ d e b n h1 h2
    · have := q.len
      exact this
  refine ⟨_, hb cdv A outer s _ E hr, a, G0, H0, G0, _, [], ⟨S0, rfl, ⟨dx, [], upd_same, by rw [RepF]⟩, nG hx, hx, t2⟩, by simpa using hl, ?_⟩
  dsimp only at P
  generalize initV l (.un :: (cellsN N (.none :: ds)).drop 1) [] = rr at P ⊢
  cases rr with
  | bad => exact P
  | exc C' => exact fun σ' H' s => P H' s
  | ok fs =>
    intro G' H' _ S'
    obtain ⟨cx, fvs, e, rf⟩ := S'.obj
    exact P G' H' cx fvs S'.stp S'.gx e rf
end
section
variable {X : Cx} {W : WX} {e : Expr} {es : List Expr} {pos : Pos} {fa : Cells → R (List D)}
def makeD (C : Addr) (n : Nat) (m : List D → R (List (Str × D))) (fa : Cells → R (List D)) : Cells → R D := fun c => fa c >>= fun ds => if ds.length = n then (m ds >>= fun fs => .ok (D.inst C fs)) else .bad
theorem ev_make {k : Nat} {C f : Addr} {fd : FuncData} {ps : List Str} {n : Nat} {m : List D → R (List (Str × D))} {x : Str} {p : Pos} (M : Mk X.K C f) (F : FnOk X.prog X.w X.K X.mg X.base (L2.CX X.prog X.w) k f fd ps (spInit X.K C n m)) (hr : Room (k + 1) X.A) (hg : Gl X x) (hm : X.mg x = some (.ref C)) (hb : Binds X.K fd ps [])
    (tk : Takes X W) (hW : ∀ cls d σ σ' H, W cls d σ H → W cls d σ' H) (ha : EA X W (e :: es) fa) (hdb : (x == ("__debug__" : Str)) = false) (he : starEach (e :: es) X.env = (false, eval e X.env) :: starEach es X.env) (hpl : (backTo pos (starEach es X.env)).any (·.1) = false) :
    EV X W (.Call (.Name x p) (e :: es) [] pos) (makeD C n m fa) := PE.imp (pe_make (E := fun cls d H => W cls d [] H) (dvs := []) M F hr hg hm hb .nil (fun pins σ H s e s' I c => passes_call tk (fun cls d σ H h => hW cls d [] σ H h) pins σ H s e s' I c) ha hdb he hpl) fun σ H Q ⟨G, env, S, P⟩ => by
  refine ⟨G, env, S, Post.seq (Rel1 := RA X.K) (x := fa env) (k := fun ds => if ds.length = n then (m ds >>= fun fs => .ok (D.inst C fs)) else .bad) P fun ds vs G1 H1 _ s1 r1 P1 => ?_⟩
  intro a dx ha hdx hne
  split at P1
  · rename_i hl
    refine ⟨by rw [List.append_nil, List.length_cons, r1.length, hl], a, dx, H1, G1, vs, ds, by rw [List.append_nil], rfl, ha, hdx, hne, s1.sub, r1, ?_⟩
    cases hm' : m ds with
    | bad => rw [hm'] at P1; exact P1
    | exc C' => rw [hm'] at P1; exact fun H' s => hW _ _ _ _ _ (P1 H' s)
    | ok fs =>
      rw [hm'] at P1
      exact fun G' H' cx fvs t n1 e1 rf => ⟨rfl, P1 _ _ _ (t.freeze ha e1 n1) (Rep.inst_iff.mpr ⟨a, cx, fvs, rfl, upd_same, RepF.mono (.of fun b u q => by rw [upd_ne (ne_of_none q n1)]; exact q) _ rf⟩)⟩
  · exact False.elim P1
end
end PL
end S15
noncomputable section S16
namespace PL
open PySem PySem.Spec PyProof.Rows L2
/-- a thing that is only read: a slot, or a field of a slot's instance -/
structure RdE (X : Cx) (e : Expr) (f : Cells → R D) : Prop where
  ex : ∃ rd : L2.St → Hp → Option V, PE X e (fun σ H Q => ∃ v, rd σ H = some v ∧ Q v H) ∧ ∀ (G H : Hp) (σ : L2.St) (env : Cells), SR X.K G H σ env → (∃ d, f env = .ok d ∧ ∃ v, rd σ H = some v ∧ Rep X.K G d v ∧ ∀ (a : Addr) (z u : HO), H a = some z → (∀ C dx fs, z ≠ .ins C dx fs) → rd σ (upd H a u) = some v) ∨ f env = .bad
def rdS (i : Nat) (σ : L2.St) : Option V := match σ[i]? with
  | some (some v) => some v
  | _ => none
theorem rdS_iff {i : Nat} {σ : L2.St} {v : V} : rdS i σ = some v ↔ σ[i]? = some (some v) := by
  unfold rdS
  split
  · rename_i w h; rw [h]; simp
  · rename_i h
    constructor
    · intro e; cases e
    · intro e; exact absurd e (h v)
def rdF (C : Addr) (f : Str) (H : Hp) (v : V) : Option V := match v with
  | .ref a => (match H a with
    | some (.ins C' _ fs) => if C' = C then fs.lookup f else none
    | _ => none)
  | _ => none
theorem rdF_iff {C : Addr} {f : Str} {H : Hp} {v w : V} : rdF C f H v = some w ↔ ∃ a dx fs, v = .ref a ∧ H a = some (.ins C dx fs) ∧ fs.lookup f = some w := by
  unfold rdF
  constructor
  · intro e
    split at e
    · rename_i a
      split at e
      · rename_i C' dx fs h
        split at e
        · rename_i hC; subst hC; exact ⟨a, dx, fs, rfl, h, e⟩
        · cases e
      · cases e
    · cases e
  · rintro ⟨a, dx, fs, rfl, h, e⟩
    simp only [h, if_pos]
    exact e
theorem rd_name {X : Cx} (i : Nat) {x : Str} {pos : Pos} (hN : X.N[i]? = some x) (hv : Vis X.env.scope x) (hd : (x == ("__debug__" : Str)) = false) (hcd : (x == ("__classdict__" : Str)) = false) : RdE X (.Name x pos) (rdV i) :=
  ⟨fun σ _ => rdS i σ, PE.imp (pe_var hN hv hd hcd) fun σ H Q ⟨v, e, q⟩ => ⟨v, rdS_iff.mp e, q⟩, fun G H σ env S => by
    unfold rdV
    split
    · rename_i d e
      obtain ⟨v, e1, r⟩ := S.fz i d e
      exact .inl ⟨d, rfl, v, rdS_iff.mpr e1, r, fun _ _ _ _ _ => rdS_iff.mpr e1⟩
    · exact .inr rfl⟩
theorem rd_fld {X : Cx} (i : Nat) {x f : Str} {pos pos' : Pos} {C : Addr} (hN : X.N[i]? = some x) (hv : Vis X.env.scope x) (hd : (x == ("__debug__" : Str)) = false) (hcd : (x == ("__classdict__" : Str)) = false)
    (c : Cls X.K C) (n : NoAttr X.K C f) (hb : attributeBase (.Name x pos) f X.env (eval (.Name x pos) X.env) = eval (.Name x pos) X.env) : RdE X (.Attribute (.Name x pos) f pos') (fun c => rdV i c >>= fldD C f) := by
  refine ⟨fun σ H => (rdS i σ).bind (rdF C f H), PE.imp (pe_fld (pe_var hN hv hd hcd) hb) fun σ H Q ⟨v, e, q⟩ => ?_, fun G H σ env S => ?_⟩
  · obtain ⟨w, e1, e2⟩ := Option.bind_eq_some_iff.mp e
    obtain ⟨a, dx, fs, rfl, h, l⟩ := rdF_iff.mp e2
    exact ⟨.ref a, rdS_iff.mp e1, a, C, dx, fs, v, rfl, h, c, n, l, q⟩
  · unfold rdV
    split
    · rename_i d e
      obtain ⟨v, e1, r⟩ := S.fz i d e
      change (∃ d', fldD C f d = .ok d' ∧ _) ∨ fldD C f d = .bad
      unfold fldD
      split
      · rename_i C' fs
        split
        · rename_i hC
          subst hC
          obtain ⟨a, dx, fvs, rfl, hA, rf⟩ := Rep.inst_iff.mp r
          cases hl : fs.lookup f with
          | none => exact .inr rfl
          | some d' =>
            obtain ⟨u, eu, ru⟩ := rf.get hl
            refine .inl ⟨d', rfl, u, ?_, ru, fun b z w hz hne => ?_⟩
            · show (rdS i σ).bind (rdF C' f H) = some u
              rw [rdS_iff.mpr e1]
              exact rdF_iff.mpr ⟨a, dx, fvs, rfl, S.sub _ _ hA, eu⟩
            · show (rdS i σ).bind (rdF C' f (upd H b w)) = some u
              rw [rdS_iff.mpr e1]
              refine rdF_iff.mpr ⟨a, dx, fvs, rfl, ?_, eu⟩
              have nb : a ≠ b := fun q => by
                subst q
                rw [S.sub _ _ hA] at hz
                cases hz
                exact hne _ _ _ rfl
              rw [upd_ne nb]; exact S.sub _ _ hA
        · exact .inr rfl
      · exact .inr rfl
    · exact .inr rfl
section
variable {K : PySem.W.Frag} {G0 H0 G H : Hp} {σ : L2.St} {env : Cells} {d : Addr} {x z u : HO}
/-- x at d is u, perhaps locked; z is u locked -/
structure Lk (x z u : HO) : Prop where
  x : x = u ∨ ∃ o, x = .frz o u
  z : ∃ o, z = .frz o u
  u : ∃ kvs, u = .dK kvs
theorem Lk.is (l : Lk x z u) (y : HO) (h : y = x ∨ y = z) : y = u ∨ ∃ o, y = .frz o u := h.elim (fun e => e ▸ l.x) fun e => e ▸ .inr l.z
/-- two heaps that differ at d alone, where both bear u -/
theorem Le.lock (l : Lk x z u) {G G' : Hp} {y y' : HO} (hy : y = x ∨ y = z) (hy' : y' = x ∨ y' = z) (h : G d = some y) (h' : G' d = some y') (o : ∀ a, a ≠ d → G' a = G a) : Le G G' := by
  obtain ⟨kvs, eu⟩ := l.u
  have no : ∀ w, G d = some w → (∀ o v, w ≠ .frz o v) → w = u := fun w e n => by
    rw [h] at e; cases e
    rcases l.is y hy with q | ⟨o, q⟩
    · exact q
    · exact absurd q (n _ _)
  refine ⟨fun a w n r => ?_, fun a C dx fs e => ?_, fun a xs e => ?_, fun a xs e => ?_⟩
  · by_cases q : a = d
    · subst q
      have ew : w = u := by
        rcases r with e | ⟨o, e⟩
        · exact no w e n
        · rw [h] at e; cases e
          rcases l.is _ hy with q | ⟨o', q⟩
          · rw [eu] at q; cases q
          · cases q; rfl
      subst ew
      rcases l.is y' hy' with q | ⟨o', q⟩
      · exact .inl (by rw [h', q])
      · exact .inr ⟨o', by rw [h', q]⟩
    · rcases r with e | ⟨o', e⟩
      · exact .inl (by rw [o a q]; exact e)
      · exact .inr ⟨o', by rw [o a q]; exact e⟩
  · by_cases q : a = d
    · subst q
      have := no _ e (fun _ _ z => nomatch z)
      rw [eu] at this; cases this
    · rw [o a q]; exact e
  · by_cases q : a = d
    · subst q
      have := no _ e (fun _ _ z => nomatch z)
      rw [eu] at this; cases this
    · rw [o a q]; exact e
  · by_cases q : a = d
    · subst q
      have := no _ e (fun _ _ z => nomatch z)
      rw [eu] at this; cases this
    · rw [o a q]; exact e
theorem upd_other {H : Hp} {z : HO} : ∀ a, a ≠ d → upd H d z a = H a := fun a n => upd_ne n
theorem SB.lock (S : SB K G0 H0 G H σ env) (l : Lk x z u) (h : G d = some x) : Le G (upd G d z) ∧ SB K (upd G0 d z) (upd H0 d z) (upd G d z) (upd H d z) σ env := by
  have l1 : Le G (upd G d z) := Le.lock l (.inl rfl) (.inr rfl) h upd_same upd_other
  have hH := S.sr.sub _ _ h
  have sub : Sub (upd G d z) (upd H d z) := fun a o e => by
    by_cases q : a = d
    · subst q; rw [upd_same] at e ⊢; exact e
    · rw [upd_ne q] at e ⊢; exact S.sr.sub _ _ e
  have nd : ∀ {a : Addr}, G a = none → a ≠ d := fun {a} n q => by rw [q, h] at n; cases n
  have keep : ∀ (o : HO), H0 d = some o → o = x := fun o e => by
    have := S.stp.keep _ _ e
    rw [hH] at this; cases this; rfl
  refine ⟨l1, ⟨⟨sub, fun j e hj => ?_, fun j e hj => ?_, S.sr.apart, S.sr.len⟩, ⟨?_, fun a o e => ?_, fun a o e => ?_, sub⟩, fun i e a hi q => ?_⟩⟩
  · obtain ⟨v, e1, r⟩ := S.sr.fz j e hj
    exact ⟨v, e1, r.mono l1⟩
  · obtain ⟨a, e1, n, o⟩ := S.sr.ow j e hj
    have na := nd n
    exact ⟨a, e1, by rw [upd_ne na]; exact n, o.move l1 fun w q => by rw [upd_ne na]; exact q⟩
  · -- Le (upd G0 d z) (upd G d z)
    refine ⟨fun a w n r => ?_, fun a C dx fs e => ?_, fun a xs e => ?_, fun a xs e => ?_⟩
    · by_cases q : a = d
      · subst q
        rcases r with e | ⟨o, e⟩
        · rw [upd_same] at e; exact .inl (by rw [upd_same]; exact e)
        · rw [upd_same] at e; exact .inr ⟨o, by rw [upd_same]; exact e⟩
      · have r' : Rd G0 a w := r.elim (fun e => .inl (by rw [upd_ne q] at e; exact e)) fun ⟨o, e⟩ => .inr ⟨o, by rw [upd_ne q] at e; exact e⟩
        rcases S.stp.le.rd a w n r' with e | ⟨o, e⟩
        · exact .inl (by rw [upd_ne q]; exact e)
        · exact .inr ⟨o, by rw [upd_ne q]; exact e⟩
    · by_cases q : a = d
      · subst q; rw [upd_same] at e ⊢; exact e
      · rw [upd_ne q] at e ⊢; exact S.stp.le.ins _ _ _ _ e
    · by_cases q : a = d
      · subst q; rw [upd_same] at e ⊢; exact e
      · rw [upd_ne q] at e ⊢; exact S.stp.le.lst _ _ e
    · by_cases q : a = d
      · subst q; rw [upd_same] at e ⊢; exact e
      · rw [upd_ne q] at e ⊢; exact S.stp.le.tup _ _ e
  · by_cases q : a = d
    · subst q; rw [upd_same] at e ⊢; exact e
    · rw [upd_ne q] at e ⊢; exact S.stp.keep _ _ e
  · by_cases q : a = d
    · subst q; exact .inl ⟨z, upd_same⟩
    · rw [upd_ne q] at e
      rw [upd_ne q, upd_ne q]; exact S.stp.new a o e
  · obtain ⟨b, e1, n, o⟩ := S.sr.ow i e hi
    rw [q] at e1
    cases e1
    rw [upd_ne (nd n)]; exact S.own i e a hi q
theorem Stp.unlock {G2 H2 : Hp} (S : Stp G0 H0 G H) (l : Lk x z u) (h : G d = some x) (S2 : Stp (upd G0 d z) (upd H0 d z) G2 H2) :
    H2 d = some z ∧ G2 d = some z ∧ Le G2 (upd G2 d x) ∧ Stp G0 H0 (upd G2 d x) (upd H2 d x) := by
  have hH := S.sub _ _ h
  have e2 : H2 d = some z := S2.keep _ _ upd_same
  have g2 : G2 d = some z := by
    obtain ⟨kvs, eu⟩ := l.u
    obtain ⟨o, ez⟩ := l.z
    have r : Rd (upd G0 d z) d u := .inr ⟨o, by rw [upd_same, ez]⟩
    rcases S2.le.rd d u (fun _ _ w => by rw [eu] at w; cases w) r with e | ⟨o', e⟩
    · have := S2.sub _ _ e; rw [e2] at this; cases this; exact e
    · have := S2.sub _ _ e; rw [e2] at this; cases this; exact e
  have l3 : Le G2 (upd G2 d x) := Le.lock l (.inr rfl) (.inl rfl) g2 upd_same upd_other
  refine ⟨e2, g2, l3, ⟨fun a w n r => ?_, fun a C dx fs e => ?_, fun a xs e => ?_, fun a xs e => ?_⟩, fun a o e => ?_, fun a o e => ?_, fun a o e => ?_⟩
  · by_cases q : a = d
    · subst q
      rcases S.le.rd a w n r with e | ⟨o, e⟩
      · exact .inl (by rw [upd_same]; rw [h] at e; exact e)
      · exact .inr ⟨o, by rw [upd_same]; rw [h] at e; exact e⟩
    · have r' : Rd (upd G0 d z) a w := r.elim (fun e => .inl (by rw [upd_ne q]; exact e)) fun ⟨o, e⟩ => .inr ⟨o, by rw [upd_ne q]; exact e⟩
      rcases S2.le.rd a w n r' with e | ⟨o, e⟩
      · exact .inl (by rw [upd_ne q]; exact e)
      · exact .inr ⟨o, by rw [upd_ne q]; exact e⟩
  · by_cases q : a = d
    · subst q; rw [upd_same]; rw [← h]; exact S.le.ins _ _ _ _ e
    · rw [upd_ne q]; exact S2.le.ins _ _ _ _ (by rw [upd_ne q]; exact e)
  · by_cases q : a = d
    · subst q; rw [upd_same]; rw [← h]; exact S.le.lst _ _ e
    · rw [upd_ne q]; exact S2.le.lst _ _ (by rw [upd_ne q]; exact e)
  · by_cases q : a = d
    · subst q; rw [upd_same]; rw [← h]; exact S.le.tup _ _ e
    · rw [upd_ne q]; exact S2.le.tup _ _ (by rw [upd_ne q]; exact e)
  · by_cases q : a = d
    · subst q
      have := S.keep _ _ e
      rw [hH] at this; cases this
      exact upd_same
    · rw [upd_ne q]; exact S2.keep _ _ (by rw [upd_ne q]; exact e)
  · by_cases q : a = d
    · subst q
      rw [upd_same] at e; cases e
      exact S.new a x h
    · rw [upd_ne q] at e
      have := S2.new a o e
      rw [upd_ne q, upd_ne q] at this
      exact this
  · by_cases q : a = d
    · subst q; rw [upd_same] at e ⊢; exact e
    · rw [upd_ne q] at e ⊢; exact S2.sub _ _ e
theorem SB.unlock {G2 H2 : Hp} {σ' : L2.St} {c : Cells} (S : SB K G0 H0 G H σ env) (l : Lk x z u) (h : G d = some x) (l2 : Le (upd G d z) G2) (S2 : SB K (upd G0 d z) (upd H0 d z) G2 H2 σ' c) :
    H2 d = some z ∧ Le G (upd G2 d x) ∧ SB K G0 H0 (upd G2 d x) (upd H2 d x) σ' c := by
  obtain ⟨e2, g2, l3, st⟩ := Stp.unlock S.stp l h S2.stp
  have l4 : Le G (upd G2 d x) := ((Le.lock l (.inl rfl) (.inr rfl) h upd_same upd_other).trans l2).trans l3
  have nd : ∀ {a : Addr}, G2 a = none → a ≠ d := fun {a} n q => by rw [q, g2] at n; cases n
  refine ⟨e2, l4, ⟨⟨st.sub, fun j e hj => ?_, fun j e hj => ?_, S2.sr.apart, S2.sr.len⟩, st, fun i e a hi q => ?_⟩⟩
  · obtain ⟨v, e1, r⟩ := S2.sr.fz j e hj
    exact ⟨v, e1, r.mono l3⟩
  · obtain ⟨a, e1, n, o⟩ := S2.sr.ow j e hj
    have na := nd n
    exact ⟨a, e1, by rw [upd_ne na]; exact n, o.move l3 fun w q => by rw [upd_ne na]; exact q⟩
  · obtain ⟨b, e1, n, o⟩ := S2.sr.ow i e hi
    rw [q] at e1
    cases e1
    have := S2.own i e a hi q
    rw [upd_ne (nd n)] at this; exact this
/-- what is asked of an iterator within a body -/
structure ItRelS (K : PySem.W.Frag) (G0 H0 G1 : Hp) (items : List D) (J : It) : Prop where
  go : ∀ (i : Nat) (G' H' : Hp), i < items.length → Le G1 G' → Stp G0 H0 G' H' → J.go i H'
  yld : ∀ (i : Nat) (d : D) (G' H' : Hp) (x : V) (H'' : Hp), items[i]? = some d → Le G1 G' → Stp G0 H0 G' H' → J.yld i H' x H'' → ∃ G'', Stp G' H' G'' H'' ∧ Rep K G'' d x
  stop : ∀ (G' H' : Hp), Le G1 G' → Stp G0 H0 G' H' → J.stop items.length H'
/-- a for loop, by its data -/
theorem loop_run {W : WX} {g : D → Cells → Option Cells} {fb : Cells → R Out} {is : List Nat} {items : List D} {J : It} {G1 H1 : Hp} {D' : Ends} (r1 : ItRelS K G0 H0 G1 items J) (S1 : SB K G0 H0 G1 H1 σ env) (P1 : PostS K G0 H0 G1 W (loopD g fb items env) D') :
    ∃ W2 : Nat → Nat → L2.St → Hp → Prop, (∃ m, W2 0 m σ H1) ∧ ∀ i m σ H, W2 i m σ H →
  (J.stop i H ∧ D'.nx σ H) ∨ (J.go i H ∧ ∃ N : L2.St → Hp → Prop, (∀ σ' H', N σ' H' → ∃ m', m' < m ∧ W2 (i + 1) m' σ' H') ∧ ∀ x H', J.yld i H x H' → tGt K is g x σ H' fun σ2 H2 => tS K W fb { D' with nx := N, ct := N, bk := D'.nx } σ2 H2) := by
  refine ⟨fun i m σ2 H2 => ∃ G2 env2, SB K G0 H0 G2 H2 σ2 env2 ∧ Le G1 G2 ∧ m = items.length - i ∧ i ≤ items.length ∧ PostS K G0 H0 G2 W (loopD g fb (items.drop i) env2) D', ⟨items.length, G1, env, S1, .refl _, rfl, Nat.zero_le _, P1⟩, ?_⟩
  rintro i m σ2 H2 ⟨G2, env2, S2, l2, rfl, hi2, P2⟩
  by_cases hlt : i < items.length
  · have ed : items.drop i = items[i] :: items.drop (i + 1) := List.drop_eq_getElem_cons hlt
    rw [ed] at P2
    refine .inr ⟨r1.go i G2 H2 hlt l2 S2.stp, fun σ3 H3 => ∃ G3 env3, SB K G0 H0 G3 H3 σ3 env3 ∧ Le G1 G3 ∧ PostS K G0 H0 G3 W (loopD g fb (items.drop (i + 1)) env3) D', fun σ3 H3 ⟨G3, env3, S3, l3, P3⟩ => ⟨items.length - (i + 1), by omega, G3, env3, S3, l3, rfl, hlt, P3⟩, fun x H3 hy => ?_⟩
    obtain ⟨G3, s3, r3⟩ := r1.yld i items[i] G2 H2 x H3 (List.getElem?_eq_getElem hlt) l2 S2.stp hy
    have S3 := S2.step s3
    have P3 := PostS.le P2 s3.le
    unfold loopD at P3
    split at P3
    · exact False.elim P3
    · rename_i c1 hc1
      refine ⟨G0, H0, G3, env2, items[i], S3, r3, c1, hc1, fun σ4 S4 _ => ⟨G0, H0, G3, c1, S4, ?_⟩⟩
      generalize fb c1 = r at P3 ⊢
      cases r with
      | exc C => exact P3
      | bad => exact P3
      | ok o => cases o with
        | nx c2 => exact fun σ5 G5 H5 l5 S5 => ⟨G5, c2, S5, (l2.trans s3.le).trans l5, PostS.le (r := loopD g fb (items.drop (i + 1)) c2) P3 l5⟩
        | ct c2 => exact fun σ5 G5 H5 l5 S5 => ⟨G5, c2, S5, (l2.trans s3.le).trans l5, PostS.le (r := loopD g fb (items.drop (i + 1)) c2) P3 l5⟩
        | bk c2 => exact P3
        | rt d => exact P3
  · have e : i = items.length := by omega
    subst e
    rw [List.drop_length] at P2
    exact .inl ⟨r1.stop G2 H2 l2 S2.stp, P2 σ2 G2 H2 (.refl _) S2⟩
def keysD : D → R (List D)
  | .dict ks => .ok (ks.map fun p => keyD p.1)
  | _ => .bad
def noxO : R Out → R Out
  | .ok o => .ok o
  | _ => .bad
def forK (f : Cells → R D) (g : D → Cells → Option Cells) (fb : Cells → R Out) : Cells → R Out := fun c => f c >>= fun d => keysD d >>= fun ks => noxO (loopD g fb ks c)
theorem itrel_keys {a : Addr} {o : Obj} {ks : List (Key × D)} {kvs : List (Key × V)} {G1 : Hp} (hH : H0 a = some (.frz o (.dK kvs))) (r : RepK K G1 ks kvs) : ItRelS K G0 H0 G1 (ks.map fun p => keyD p.1) (Itk a o kvs) := by
  have hl : (ks.map fun p => keyD p.1).length = kvs.length := by rw [List.length_map, r.length]
  refine ⟨fun i G' H' hi l s => ⟨s.keep _ _ hH, by rw [← hl]; exact hi⟩, fun i d G' H' x H'' hd l s hy => ?_, fun G' H' l s => ⟨s.keep _ _ hH, by rw [hl]; exact Nat.le_refl _⟩⟩
  obtain ⟨rfl, k, v, hk, rfl⟩ := hy
  refine ⟨G', .refl s.sub, ?_⟩
  have ra : RepAll K G' (ks.map fun p => keyD p.1) (kvs.map fun p => kV p.1) := repK_keys (RepK.mono l _ r)
  obtain ⟨w, e, rw_⟩ := ra.get hd
  rw [List.getElem?_map, hk] at e
  cases e
  exact rw_
end
theorem PS.or {X : Cx} {st : Stmt} {t t' : TS} (h : PS X st t) (h' : PS X st t') : PS X st (fun D σ H => t D σ H ∨ t' D σ H) := ⟨fun pins s σ H D I q => q.elim (h.run pins s σ H D I) (h'.run pins s σ H D I)⟩
section
variable {X : Cx} {W : WX} {iter tg : Expr} {pos : Pos} {f : Cells → R D} {g : D → Cells → Option Cells} {fb : Cells → R Out} {body : List Stmt} {is : List Nat}
theorem es_forKeys (hp : PassesOwn (model X.prog X.w) X.A X.env X.xe) (hc : X.calm = true) (hi : RdE X iter f) (hg : EG X tg is g) (hb : ESs X W body fb)
    (hs : ∀ x, foldedSetIterable iter X.env x = pure x) : ES X W (.For tg iter body [] pos) (forK f g fb) := by
  obtain ⟨rd, he, hrd⟩ := hi.ex
  have p1 := ps_for (tb := tS X.K W fb) (pos := pos) hp hc (pi_keys (tg := tg) he) hg hb hs
  refine PS.imp (PS.or p1 (ps_lock p1)) fun D' σ H ⟨G0, H0, G, env, S, P⟩ => ?_
  have hne : f env ≠ .bad := fun eb => by
    change PostS X.K G0 H0 G W (f env >>= _) D' at P
    rw [eb] at P; exact P
  obtain ⟨d, ed, v, ev, r, st⟩ := (hrd G H σ env S.sr).resolve_right hne
  change PostS X.K G0 H0 G W (f env >>= fun d => keysD d >>= fun ks => noxO (loopD g fb ks env)) D' at P
  rw [ed] at P
  change PostS X.K G0 H0 G W (keysD d >>= fun ks => noxO (loopD g fb ks env)) D' at P
  cases d with
  | dict ks =>
    change PostS X.K G0 H0 G W (noxO (loopD g fb (ks.map fun p => keyD p.1) env)) D' at P
    obtain ⟨a, kvs, rfl, rA, rk⟩ := Rep.dict_iff.mp r
    have core : ∀ (x : HO) (o : Obj) (DL : Ends), G a = some x → Lk x (.frz o (.dK kvs)) (.dK kvs) →
        (∀ σ' H2, H2 a = some (.frz o (.dK kvs)) → D'.nx σ' (upd H2 a x) → DL.nx σ' H2) → (∀ v H2, H2 a = some (.frz o (.dK kvs)) → D'.rt v (upd H2 a x) → DL.rt v H2) →
        (∀ σ' H2, H2 a = some (.frz o (.dK kvs)) → D'.bk σ' (upd H2 a x) → DL.bk σ' H2) → (∀ σ' H2, H2 a = some (.frz o (.dK kvs)) → D'.ct σ' (upd H2 a x) → DL.ct σ' H2) →
        rd σ (upd H a (.frz o (.dK kvs))) = some (.ref a) → tFor (iKeys fun σ H Q => ∃ v, rd σ H = some v ∧ Q v H) (tGt X.K is g) (tS X.K W fb) DL σ (upd H a (.frz o (.dK kvs))) := by
      intro x o DL hG lk d1 d2 d3 d4 er
      have SL := (S.lock lk hG).2
      refine ⟨.ref a, er, a, o, rfl, .inl ⟨kvs, upd_same, ?_⟩⟩
      refine loop_run (G0 := upd G0 a (.frz o (.dK kvs))) (H0 := upd H0 a (.frz o (.dK kvs))) (itrel_keys upd_same (RepK.mono (S.lock lk hG).1 _ rk)) SL ?_
      generalize loopD g fb (ks.map fun p => keyD p.1) env = rr at P ⊢
      cases rr with
      | bad => exact False.elim P
      | exc C => exact False.elim P
      | ok oo => cases oo with
        | nx c =>
          intro σ' G' H' l' S'
          obtain ⟨e2, l4, S4⟩ := S.unlock lk hG l' S'
          exact d1 σ' H' e2 (P σ' _ _ l4 S4)
        | bk c =>
          intro σ' G' H' l' S'
          obtain ⟨e2, l4, S4⟩ := S.unlock lk hG l' S'
          exact d3 σ' H' e2 (P σ' _ _ l4 S4)
        | ct c =>
          intro σ' G' H' l' S'
          obtain ⟨e2, l4, S4⟩ := S.unlock lk hG l' S'
          exact d4 σ' H' e2 (P σ' _ _ l4 S4)
        | rt d =>
          intro v G' H' st' r'
          obtain ⟨e2, g2, l3, st4⟩ := Stp.unlock S.stp lk hG st'
          exact d2 v H' e2 (P v _ _ st4 (r'.mono l3))
    rcases rA with hA | ⟨o, hA⟩
    · refine .inr ⟨a, .dK kvs, S.sr.sub _ _ hA, True.intro, fun od => ?_⟩
      exact core (.dK kvs) od _ hA ⟨.inl rfl, ⟨od, rfl⟩, ⟨kvs, rfl⟩⟩ (fun σ' H2 e q => ⟨e, q⟩) (fun σ' H2 e q => ⟨e, q⟩) (fun σ' H2 e q => ⟨e, q⟩) (fun σ' H2 e q => ⟨e, q⟩) (st a (.dK kvs) _ (S.sr.sub _ _ hA) (fun _ _ _ z => nomatch z))
    · have hH := S.sr.sub _ _ hA
      have eH : ∀ {H2 : Hp}, H2 a = some (.frz o (.dK kvs)) → upd H2 a (.frz o (.dK kvs)) = H2 := fun {H2} e => by
        funext b
        by_cases q : b = a
        · subst q; rw [upd_same, e]
        · rw [upd_ne q]
      have := core (.frz o (.dK kvs)) o D' hA ⟨.inr ⟨o, rfl⟩, ⟨o, rfl⟩, ⟨kvs, rfl⟩⟩ (fun σ' H2 e q => by rw [eH e] at q; exact q) (fun σ' H2 e q => by rw [eH e] at q; exact q) (fun σ' H2 e q => by rw [eH e] at q; exact q) (fun σ' H2 e q => by rw [eH e] at q; exact q)
        (st a _ _ hH (fun _ _ _ z => nomatch z))
      rw [eH hH] at this
      exact .inl this
  | _ => exact False.elim P
end
end PL
end S16
noncomputable section S17
namespace PL
open PySem PySem.Spec PyProof.Rows L2
theorem tuple_mulW1 (l : Addr) (items : Array Value) (n : Nat) (dd : Option Addr) (sl : Array (Option Value)) (u : Tok) :
    Meets (Builtin.«tuple.__mul__» ⟨[.ref l, .int 1 u], []⟩) (fun _ R s => s.heap.get? l = some { cls := .type "tuple", dict := dd, data := .seq items n, slots := sl } ∧ R (.ok (.ret (Value.ref l))) s) :=
  .of_wp fun prog w A R s h => by
    obtain ⟨hp, g, d, tk, os⟩ := s
    obtain ⟨hl, h⟩ := h
    have f1 := AutoSeq1.idx_int
    wp_walk using wpAny_loadPart' hl
    exact ⟨_, rfl, h⟩
theorem tuple_mulW0 (l : Addr) (items : Array Value) (n : Nat) (dd : Option Addr) (sl : Array (Option Value)) (u : Tok) (c1 : items.isEmpty = false) :
    Meets (Builtin.«tuple.__mul__» ⟨[.ref l, .int 0 u], []⟩) (fun _ R s => s.heap.get? l = some { cls := .type "tuple", dict := dd, data := .seq items n, slots := sl } ∧
      R (.ok (.ret (Value.ref s.heap.objs.size))) { s with heap := s.heap.push { cls := Value.type "tuple", data := Data.seq #[] }, toks := s.toks }) :=
  .of_wp fun prog w A R s h => by
    obtain ⟨hp, g, d, tk, os⟩ := s
    obtain ⟨hl, h⟩ := h
    have f1 := AutoSeq1.idx_int
    wp_walk using wpAny_loadPart' hl
    exact ⟨_, rfl, h⟩
section
variable {X : Cx}
/-- tuple * 1 is the tuple itself -/
def rRepT1 (K : PySem.W.Frag) : R2 := fun x y H Q => ∃ l xs, x = .ref l ∧ y = .int 1 ∧ H l = some (.tup xs) ∧ Q (.ref l) H
theorem op_repT1 : OpR X (binaryOp .Mult) (rRepT1 X.K) := by
  intro pins s σ H x y v u Q I rx ry h
  obtain ⟨l, xs, rfl, rfl, hT, q⟩ := h
  cases rx
  obtain ⟨t, rfl⟩ := ry
  have hO : ObjOk X.prog X.w H s.heap l (.tup xs) := I.hok l _ hT
  obtain ⟨hz, its, r, ⟨cls, dd, data, sl⟩, ho, hc, n, hd⟩ := hO
  simp only at hc hd
  subst hc hd
  refine wpAny_binaryOp_repeat_ref (T := "tuple") (U := "int") (by decide) ⟨_, ho, rfl⟩ (fun s' => typeIs_int s' 1 t) noFill_tuple_mul F.fills_int_mul F.slot_int_rmul repeat_tuple F.slot_int_index.lookup
    (call_meets F.slot_int_rmul (typeIs_int s 1 t) F.entry_int_rmul (F.args_int_rmul_2 _ _) (int_rmul_tuple 1 t l its.toArray n dd sl)
      ⟨ho, rfl, ⟨_, ho, rfl⟩, call_meets F.slot_tuple_mul ⟨_, ho, rfl⟩ F.entry_tuple_mul (F.args_tuple_mul_2 _ _) (tuple_mulW1 l its.toArray n dd sl t) ⟨ho, ?_⟩⟩)
  exact ⟨.ref l, H, I, rfl, q⟩
/-- tuple * 0 -/
def rRepT0 (K : PySem.W.Frag) : R2 := fun x y H Q => ∃ l xs, x = .ref l ∧ y = .int 0 ∧ SqT K H l xs ∧ xs ≠ [] ∧ ∀ p, H p = none → Q (.ref p) (upd H p (.tup []))
theorem op_repT0 : OpR X (binaryOp .Mult) (rRepT0 X.K) := by
  intro pins s σ H x y v u Q I rx ry h
  obtain ⟨l, xs, rfl, rfl, hT, hne, q⟩ := h
  cases rx
  obtain ⟨t, rfl⟩ := ry
  obtain ⟨its, r, ⟨⟨cls, dd, data, sl⟩, ho, hc, n, hd⟩, hs⟩ := I.tuple hT
  simp only at hc hd
  subst hc hd
  have hle : its.length = xs.length := r.length.symm
  have hi : its.toArray.isEmpty = false := by
    cases its with
    | nil => exact absurd (List.eq_nil_of_length_eq_zero hle.symm) hne
    | cons a b => rfl
  refine wpAny_binaryOp_repeat_ref (T := "tuple") (U := "int") (by decide) ⟨_, ho, rfl⟩ (fun s' => typeIs_int s' 0 t) noFill_tuple_mul F.fills_int_mul F.slot_int_rmul repeat_tuple F.slot_int_index.lookup
    (call_meets F.slot_int_rmul (typeIs_int s 0 t) F.entry_int_rmul (F.args_int_rmul_2 _ _) (int_rmul_tuple 0 t l its.toArray n dd sl)
      ⟨ho, rfl, ⟨_, ho, rfl⟩, call_meets F.slot_tuple_mul ⟨_, ho, rfl⟩ F.entry_tuple_mul (F.args_tuple_mul_2 _ _) (tuple_mulW0 l its.toArray n dd sl t hi) ⟨ho, ?_⟩⟩)
  refine ⟨.ref s.heap.objs.size, _, I.laid (t' := s.toks) (o := .tup []) (fun b ob q => Heap.get?_push_of_some _ q) (Nat.le_refl _) ?_, rfl, q _ (I.hok.fresh (Nat.le_refl _))⟩
  exact ⟨Nat.zero_le _, _, .nil, IsTup.new _ _⟩
end
theorem pick_rev (its : List Value) : ((List.range its.length).filterMap fun (m : Nat) => its.toArray[(((its.length : Int) - 1) + (m : Int) * (-1)).toNat]?).toArray = its.reverse.toArray := by
  congr 1
  apply List.ext_getElem?
  intro i
  have e : (List.range its.length).filterMap (fun (m : Nat) => its.toArray[(((its.length : Int) - 1) + (m : Int) * (-1)).toNat]?) = (List.range its.length).map fun m => (its.reverse)[m]?.getD .none := by
    have h : ∀ (l : List Nat), (∀ m ∈ l, m < its.length) → l.filterMap (fun (m : Nat) => its.toArray[(((its.length : Int) - 1) + (m : Int) * (-1)).toNat]?) = l.map fun m => (its.reverse)[m]?.getD .none := by
      intro l
      induction l with
      | nil => intro _; rfl
      | cons m l ih =>
        intro hm
        have hm0 : m < its.length := hm m List.mem_cons_self
        have e1 : (((its.length : Int) - 1) + (m : Int) * (-1)).toNat = its.length - 1 - m := by omega
        have e2 : its.toArray[(((its.length : Int) - 1) + (m : Int) * (-1)).toNat]? = its.reverse[m]? := by
          rw [e1, List.getElem?_toArray, List.getElem?_reverse hm0]
        rw [List.filterMap_cons, e2, List.getElem?_eq_getElem (by rw [List.length_reverse]; exact hm0)]
        simp only [List.map_cons]
        rw [ih fun x hx => hm x (List.mem_cons_of_mem _ hx), List.getElem?_eq_getElem (by rw [List.length_reverse]; exact hm0)]
        rfl
    exact h _ fun m hm => List.mem_range.mp hm
  rw [e, List.getElem?_map]
  by_cases hi : i < its.length
  · rw [List.getElem?_range hi, List.getElem?_eq_getElem (by rw [List.length_reverse]; exact hi)]
    show some ((its.reverse[i]?).getD .none) = _
    rw [List.getElem?_eq_getElem (by rw [List.length_reverse]; exact hi)]
    rfl
  · rw [List.getElem?_eq_none (by rw [List.length_range]; omega), List.getElem?_eq_none (by rw [List.length_reverse]; omega)]
    rfl
section
variable {prog : Program} {w : World} {A : Around} {E : Value → Shared → Prop} {s : Shared}
theorem sliceApplied_rev {sl : Addr} {vs : Value} {n : Nat} {Q : Int × Int × Nat → Shared → Prop} (hs : s.heap.IsSliceOf sl .none .none vs) (ps : IsPart vs (some (-1)))
    (h : Q ((n : Int) - 1, -1, n) s) : wpAny (model prog w) A (Builtin.Slice.sliceApplied (.ref sl) (pure (n : Int))) Q E s := by
  obtain ⟨os, hos, hcs, hds⟩ := id hs
  unfold Builtin.Slice.sliceApplied Builtin.Slice.sliceFields
  refine wpAny_bind (wpAny_bind (wpAny_field hos hds (x := .none) rfl (wpAny_bind (wpAny_field hos hds (x := .none) rfl (wpAny_bind (wpAny_field hos hds (x := vs) rfl (wpAny_pure ?_)))))))
  refine wpAny_bind (HT.slicePart_ ps ?_)
  show wpAny _ _ (if ((-1 : Int) == 0) = true then _ else _) _ _ s
  rw [if_neg (by decide)]
  refine wpAny_bind (slicePart_none (wpAny_bind (slicePart_none (wpAny_bind (wpAny_pure ?_)))))
  show wpAny _ _ (match Builtin.Slice.sliceAdjust none none (-1) (n : Int) with | (lo, hi) => pure (lo, (-1 : Int), Builtin.Slice.slicePlaces lo hi (-1))) _ _ s
  have e1 : Builtin.Slice.sliceAdjust none none (-1) (n : Int) = ((n : Int) - 1, -1) := rfl
  rw [e1]
  show wpAny _ _ (pure ((n : Int) - 1, (-1 : Int), Builtin.Slice.slicePlaces ((n : Int) - 1) (-1) (-1))) _ _ s
  have e2 : Builtin.Slice.slicePlaces ((n : Int) - 1) (-1) (-1) = n := by
    unfold Builtin.Slice.slicePlaces
    rw [if_neg (by decide)]
    by_cases hn : n = 0
    · subst hn; rfl
    · rw [if_pos (by omega)]
      have : ((n : Int) - 1 - -1 - 1) / (- -1) = (n : Int) - 1 := by
        show ((n : Int) - 1 - -1 - 1) / 1 = (n : Int) - 1
        rw [Int.ediv_one]; omega
      rw [this]; omega
  rw [e2]
  exact wpAny_pure h
theorem getItem_tuple_rev {t sl : Addr} {its : List Value} {vs : Value} {Q : Value → Shared → Prop} (ht : IsTup s.heap t its.toArray) (hs : s.heap.IsSliceOf sl .none .none vs) (ps : IsPart vs (some (-1)))
    (h : Q (.ref s.heap.objs.size) { s with heap := s.heap.push { cls := .type "tuple", data := .seq its.reverse.toArray } }) (hsz : its.length ≤ sizeLine) : wpAny (model prog w) A (getItem (.ref t) (.ref sl)) Q E s := by
  have htake : sizeOk (.seq its.reverse.toArray) := by
    show its.reverse.toArray.size ≤ sizeLine
    rw [List.size_toArray, List.length_reverse]
    exact hsz
  obtain ⟨os, hos, hcs, hds⟩ := id hs
  have hTs : s.TypeIs (.ref sl) "slice" := ⟨os, hos, hcs⟩
  unfold getItem
  try with_reducible refine wpAny_holding ?_
  first | refine wpAny_bind (wpAny_pure ?_) | skip
  refine wpAny_bind (wpAny_sequenceKey ht.typeIs (by decide) ?_)
  refine wpAny_bind (wpAny_callSpecial?_slot (name := Str.ofString "__getitem__") ht.typeIs PyProof.Rows.slot_tuple_getitem
    (wpAny_call_entry PyProof.Rows.slot_tuple_getitem ht.typeIs entry_tuple_getitem ?_ (args_tuple_getitem _ _)))
  show wpAny _ _ (Builtin.Tuple.tupleItemsOf (.ref t) >>= _) _ _ s
  refine wpAny_bind (tupleItemsOf_ ht ?_)
  refine wpAny_bind (wpAny_typeOf hTs ?_)
  rw [if_pos (by decide)]
  refine wpAny_bind (sliceApplied_rev hs ps ?_)
  have hno : ¬ ((((its.toArray.size : Int) - 1) == 0 && (-1 : Int) == 1 && its.toArray.size == its.toArray.size) = true) := by
    intro q
    rw [Bool.and_eq_true, Bool.and_eq_true] at q
    exact absurd q.1.2 (by decide)
  show wpAny _ _ (if (((its.toArray.size : Int) - 1) == 0 && (-1 : Int) == 1 && its.toArray.size == its.toArray.size) = true then _ else _) _ _ s
  rw [if_neg hno]
  have e : ((List.range its.toArray.size).filterMap fun (k : Nat) => its.toArray[(((its.toArray.size : Int) - 1) + (k : Int) * (-1)).toNat]?).toArray = its.reverse.toArray := by
    have := pick_rev its
    rw [List.size_toArray]
    exact this
  rw [e]
  first
    | exact wpAny_bind (m := Builtin.Tuple.tupleExact _) (wpAny_newObj_type (wpAny_pure ⟨_, rfl, wpAny_pure h⟩) htake)
    | exact wpAny_bind (m := Builtin.Tuple.tupleExact _) (wpAny_newObj_type (wpAny_bind (wpAny_pure (wpAny_pure ⟨_, rfl, wpAny_pure h⟩))) htake)
    | exact wpAny_bind (wpAny_bind (m := Builtin.Tuple.tupleExact _) (wpAny_newObj_type (wpAny_pure (wpAny_pure ⟨_, rfl, wpAny_pure h⟩)) htake))
    | exact wpAny_bind (wpAny_bind (m := Builtin.Tuple.tupleExact _) (wpAny_newObj_type (wpAny_pure ⟨_, rfl, wpAny_pure h⟩) htake))
end
section
variable {X : Cx} {W : WX}
def tRevT (K : PySem.W.Frag) (te : TE) : TE := fun σ H Q => te σ H fun x H1 => ∃ a xs, x = .ref a ∧ SqT K H1 a xs ∧ ∀ p, H1 p = none → Q (.ref p) (upd H1 p (.tup xs.reverse))
theorem pe_revT {e : Expr} {te : TE} {k : Nat} {p1 p2 p3 pos : Pos} (he : PE X e te) : PE X (.Subscript e (.Slice none none (some (.UnaryOp .USub (.Constant (.int 1) k p1) p2)) p3) pos) (tRevT X.K te) := by
  refine ⟨fun pins s σ H Q I h => ?_⟩
  refine Subscript_ (thn (he.run pins s σ H _ I h) fun v s1 ⟨x, H1, I1, r1, q1⟩ => ?_)
  obtain ⟨a, xs, ex, hx, q⟩ := q1
  subst ex
  cases r1
  have hst : PO X (some (.UnaryOp .USub (.Constant (.int 1) k p1) p2)) (tPart (tUn (rU fun i => .int (-i)) (tC (.int 1)))) := po_some (pe_un un_neg pe_int)
  refine wpAny_Slice (thn (po_none.run pins s1 σ H1 (fun o H2 => o = none ∧ H2 = H1) I1 ⟨rfl, rfl⟩) fun vl s2 ⟨l, H2, I2, pl, el, e2⟩ => ?_)
  subst el e2
  refine thn (po_none.run pins s2 σ H2 (fun o H3 => o = none ∧ H3 = H2) I2 ⟨rfl, rfl⟩) fun vu s3 ⟨u, H3, I3, pu, eu, e3⟩ => ?_
  subst eu e3
  refine thn (hst.run pins s3 σ H3 (fun o H4 => o = some (-1) ∧ H4 = H3) I3 ⟨1, rfl, -1, rfl, rfl, rfl⟩) fun vs s4 ⟨o, H4, I4, ps, eo, e4⟩ => ?_
  subst eo e4
  cases pl
  cases pu
  have I5 : Inv X pins σ H4 { s4 with heap := s4.heap.push { cls := .type "slice", data := .fields #[.none, .none, vs] } } := I4.kept (t' := s4.toks) fun b ob q => Heap.get?_push_of_some _ q
  obtain ⟨its, r, ht, hz⟩ := I5.tuple hx
  show wpAny (model X.prog X.w) X.A (subscriptTail e (.Slice none none (some (.UnaryOp .USub (.Constant (.int 1) k p1) p2)) p3) (.ref a) (.ref s4.heap.objs.size)) (EP X pins σ Q) X.xe { s4 with heap := s4.heap.push { cls := .type "slice", data := .fields #[.none, .none, vs] } }
  refine tail_any (ops := [.ref a, .ref s4.heap.objs.size]) ht.typeIs PyProof.Rows.slot_tuple_getitem.lookup ?_ (by with_unfolding_all rfl)
  refine getItem_tuple_rev ht (Heap.IsSliceOf.new _ .none .none vs) ps ?_ (by rw [← r.length]; exact hz)
  refine ⟨.ref _, _, I5.laid (t' := s4.toks) (o := .tup xs.reverse) (fun b ob q => Heap.get?_push_of_some _ q) (Nat.le_refl _) ?_, rfl, q _ (I5.hok.fresh (Nat.le_refl _))⟩
  exact ⟨by rw [List.length_reverse]; exact hz, _, r.reverse, IsTup.new _ _⟩
theorem PE.or {e : Expr} {t t' : TE} (h : PE X e t) (h' : PE X e t') : PE X e (fun σ H Q => t σ H Q ∨ t' σ H Q) := ⟨fun pins s σ H Q I q => q.elim (h.run pins s σ H Q I) (h'.run pins s σ H Q I)⟩
def revD : D → R D
  | .list xs => .ok (.list xs.reverse)
  | .tuple xs => .ok (.tuple xs.reverse)
  | _ => .bad
theorem ev_rev {e : Expr} {fe : Cells → R D} {k : Nat} {p1 p2 p3 pos : Pos} (he : EV X W e fe) : EV X W (.Subscript e (.Slice none none (some (.UnaryOp .USub (.Constant (.int 1) k p1) p2)) p3) pos) (fun c => fe c >>= revD) := by
  let tt : TE := fun σ H Q => ∃ G env, SR X.K G H σ env ∧ Post G H W σ (RV X.K) (fe env >>= revD) Q
  refine PE.imp (PE.or (pe_revL (k := k) (p1 := p1) (p2 := p2) (p3 := p3) (pos := pos) he) (pe_revT he)) fun σ H Q ⟨G, env, S, P⟩ => ?_
  have P : Post G H W σ (RV X.K) (fe env >>= revD) Q := P
  cases hd : fe env with
  | bad => rw [hd] at P; exact False.elim P
  | exc C =>
    rw [hd] at P
    refine .inl ⟨G, env, S, ?_⟩
    rw [hd]; exact P
  | ok d =>
    rw [hd] at P
    cases d with
    | list xs =>
      refine .inl ⟨G, env, S, ?_⟩
      rw [hd]
      intro v G1 H1 s1 r1
      obtain ⟨a, vs, rfl, hA, ra⟩ := Rep.list_iff.mp r1
      have P1 : Post G1 H1 W σ (RV X.K) (.ok (.list xs.reverse)) Q := Post.move (r := .ok (D.list xs.reverse)) P s1
      exact ⟨a, vs, rfl, .inl (.inl (s1.sub _ _ hA)), fun p np => P1.newL s1.sub ra.reverse np⟩
    | tuple xs =>
      refine .inr ⟨G, env, S, ?_⟩
      rw [hd]
      intro v G1 H1 s1 r1
      obtain ⟨a, vs, rfl, hA, ra⟩ := Rep.tuple_iff.mp r1
      have P1 : Post G1 H1 W σ (RV X.K) (.ok (.tuple xs.reverse)) Q := Post.move (r := .ok (D.tuple xs.reverse)) P s1
      exact ⟨a, vs, rfl, .inl (.inl (s1.sub _ _ hA)), fun p np => P1.newT s1.sub ra.reverse np⟩
    | _ => exact False.elim P
end
end PL
end S17
noncomputable section S18
namespace PL
open PySem PySem.Spec PyProof.Rows L2
theorem glob_int {X : Cx} {x : Str} {i : Int} (h : ∃ t, X.mg x = some (.int i t)) : GlobD X x (.int i) := by
  obtain ⟨t, h⟩ := h
  exact ⟨.int i, _, h, ⟨t, rfl⟩, fun G => Rep.int_iff.mpr rfl⟩
theorem glob_str {X : Cx} {x z : Str} (h : ∃ t, X.mg x = some (.str z t)) : GlobD X x (.str z) := by
  obtain ⟨t, h⟩ := h
  exact ⟨.str z, _, h, ⟨t, rfl⟩, fun G => Rep.str_iff.mpr rfl⟩
/-- a plain value told by a name table -/
def dvD : He.Dv → D
  | .non => .none
  | .bl b => .bool b
  | .int i => .int i
  | .str x => .str x
  | _ => .none
def dvOk : He.Dv → Bool
  | .non => true
  | .bl _ => true
  | .int _ => true
  | .str _ => true
  | _ => false
theorem dv_rep {K : PySem.W.Frag} {G : Hp} {d : He.Dv} (h : dvOk d = true) : Rep K G (dvD d) (d.v K) := by
  cases d with
  | non => exact Rep.none_iff.mpr rfl
  | bl b => exact Rep.bool_iff.mpr rfl
  | int i => exact Rep.int_iff.mpr rfl
  | str x => exact Rep.str_iff.mpr rfl
  | _ => cases h
theorem dv_reps {K : PySem.W.Frag} {G : Hp} : ∀ {ds : List He.Dv}, ds.all dvOk = true → RepAll K G (ds.map dvD) (ds.map (He.Dv.v K))
  | [], _ => .nil
  | d :: ds, h => by
    obtain ⟨h1, h2⟩ := Bool.and_eq_true_iff.mp (show (dvOk d && ds.all dvOk) = true from h)
    exact .cons (dv_rep h1) (dv_reps h2)
theorem glob_tup {X : Cx} {x : Str} {vs : List He.Dv} (hm : X.mg x = some (.ref (He.ga X.K x))) (h : He.tupB X.K x vs = true) (hv : vs.all dvOk = true) : GlobD X x (.ftuple (vs.map dvD)) :=
  ⟨.ref (He.ga X.K x), _, hm, rfl, fun G => Rep.ftuple_iff.mpr ⟨_, _, rfl, He.tupB_ok h G, dv_reps hv⟩⟩
def kdGet (tab : List (Str × He.Dv)) : D → R D
  | .str z => match tab.lookup z with
    | some v => .ok (dvD v)
    | none => .bad
  | _ => .bad
section
variable {X : Cx} {W : WX}
theorem lookup_mem' {α : Type} {z : Str} {v : α} : ∀ {l : List (Str × α)}, l.lookup z = some v → (z, v) ∈ l
  | (k, w) :: r, h => by
    rw [List.lookup_cons] at h
    cases e : z == k with
    | true => rw [e] at h; cases h; rw [beq_iff_eq.mp e]; exact List.mem_cons_self
    | false => rw [e] at h; exact List.mem_cons_of_mem _ (lookup_mem' h)
def rKd (K : PySem.W.Frag) (d : Addr) : R2 := fun x y H Q => ∃ (z : Str) (u0 : Value) (v0 : V), x = .ref d ∧ y = .str z ∧ PySem.W.nsIn K d z = some (some u0) ∧ RelV v0 u0 ∧ Q v0 H
theorem ix_kd {d : Addr} {es : Array DictEntry} {n : Nat} (T : KDict X.K X.w d es n) : IxR X (rKd X.K d) := by
  intro value slice pins s σ H x y v u Q I rx ry h hs
  have h0 := h
  obtain ⟨z, u0, v0, rfl, rfl, e, r, q⟩ := h
  cases rx
  exact tail_any (ops := [.ref d, u]) (kd_type T I) (PySem.F.slot_dict_getitem.lookup) (op_item_kd T pins s σ H (.ref d) (.str z) (.ref d) u Q I rfl ry h0) (by rw [hs])
theorem ev_kd {x : Str} {d : Addr} {es : Array DictEntry} {n : Nat} {tab : List (Str × He.Dv)} {k : Expr} {fk : Cells → R D} {p pos : Pos} (hg : Gl X x) (hm : X.mg x = some (.ref d)) (T : KDict X.K X.w d es n) (hv : He.valsB X.K d tab = true) (ho : tab.all (fun q => dvOk q.2) = true)
    (hk : EV X W k fk) (hdb : (x == ("__debug__" : Str)) = false) (hx : PlainIx k) :
    EV X W (.Subscript (.Name x p) k pos) (fun c => fk c >>= kdGet tab) :=
  PE.imp (pe_ix (ix_kd T) (pe_glob (v := .ref d) hg hm rfl hdb) hk hx) fun σ H Q ⟨G, env, S, P⟩ => by
    refine ⟨G, env, S, Post.seq (Rel1 := RV X.K) (x := fk env) (k := kdGet tab) P fun kd v G1 H1 he0 s1 r1 P1 => ?_⟩
    clear he0
    unfold kdGet at P1
    split at P1
    · rename_i z
      cases hl : tab.lookup z with
      | none => rw [hl] at P1; exact False.elim P1
      | some w =>
        rw [hl] at P1
        have hm' := lookup_mem' hl
        obtain ⟨u0, e, r⟩ := He.valsB_ok hv hm'
        have ok := List.all_eq_true.mp ho _ hm'
        exact ⟨z, u0, w.v X.K, rfl, Rep.str_iff.mp r1, e, r, P1.here s1.sub (dv_rep ok)⟩
    · exact False.elim P1
end
def pairsV : List ((Cells → R D) × (Cells → R D)) → Cells → R (List (Key × D))
  | [], _ => .ok []
  | (fk, fv) :: r, c => fk c >>= fun k => fv c >>= fun v => match keyOf k with
    | some k => pairsV r c >>= fun l => .ok ((k, v) :: l)
    | none => .bad
def mergeD (l : List (Key × D)) : List (Key × D) := l.foldl (fun acc kv => putD acc kv.1 kv.2) []
def dispV (l : List ((Cells → R D) × (Cells → R D))) : Cells → R D := fun c => pairsV l c >>= fun kvs => .ok (.dict (mergeD kvs))
section
variable {X : Cx} {W : WX}
abbrev trsOf (X : Cx) (W : WX) (l : List ((Cells → R D) × (Cells → R D))) : List (TE × TE) := l.map fun q => (tG X.K W (fun _ => RV X.K) q.1, tG X.K W (fun _ => RV X.K) q.2)
theorem pairs_run {σ : L2.St} {env : Cells} {p : Addr} : ∀ (l : List ((Cells → R D) × (Cells → R D))) {G H : Hp} {α : Type} {k : List (Key × D) → R α} {Rel : Hp → Hp → α → V → Prop} {Q : V → Hp → Prop} {Q1 : List (V × V) → Hp → Prop}, SR X.K G H σ env → G p = none → H p = some (.dK []) →
    Post G H W σ Rel (pairsV l env >>= k) Q → (∀ G1 H1 (kvs : List (Key × D)) (vs : List (Key × V)), Stp G H G1 H1 → G1 p = none → H1 p = some (.dK []) → kvs.length = l.length → RepK X.K G1 kvs vs → pairsV l env = .ok kvs → Q1 (vs.map fun kv => (kV kv.1, kv.2)) H1) → tPairs (trsOf X W l) σ H Q1
  | [], G, H, _, k, Rel, Q, Q1, S, n, e, P, h => h G H [] [] (.refl S.sub) n e rfl .nil rfl
  | (fk, fv) :: l, G, H, _, k, Rel, Q, Q1, S, n, e, P, h => by
    have keep : ∀ {Ga Ha Gb Hb : Hp}, Stp Ga Ha Gb Hb → Ga p = none → Ha p = some (.dK []) → Gb p = none ∧ Hb p = some (.dK []) := fun {Ga Ha Gb Hb} st n h => by
      refine ⟨?_, st.keep _ _ h⟩
      cases q : Gb p with
      | none => rfl
      | some u =>
        rcases st.new p u q with ⟨z, e2⟩ | e2 | ⟨xs, e2⟩
        · rw [n] at e2; cases e2
        · rw [h] at e2; cases e2
        · have h1 := st.sub _ _ q
          rw [st.keep _ _ h] at h1
          cases h1
          cases e2
    have P : Post G H W σ Rel (fk env >>= fun kd => fv env >>= fun v => (match keyOf kd with
      | some k => pairsV l env >>= fun l => .ok ((k, v) :: l)
      | none => .bad) >>= k) Q := by
      have e : (pairsV ((fk, fv) :: l) env >>= k) = (fk env >>= fun kd => fv env >>= fun v => (match keyOf kd with
        | some k => pairsV l env >>= fun l => .ok ((k, v) :: l)
        | none => .bad) >>= k) := by
        show ((fk env >>= fun kd => fv env >>= fun v => (match keyOf kd with
          | some k => pairsV l env >>= fun l => .ok ((k, v) :: l)
          | none => .bad)) >>= k) = _
        rw [R.bind_assoc]
        congr 1
        funext kd
        rw [R.bind_assoc]
      rw [e] at P; exact P
    refine ⟨G, env, S, Post.seq (Rel1 := RV X.K) (x := fk env) (k := fun kd => fv env >>= fun v => (match keyOf kd with
      | some k => pairsV l env >>= fun l => .ok ((k, v) :: l)
      | none => .bad) >>= k) P fun kd kv G1 H1 q1 s1 r1 P1 => ?_⟩
    have k1 := keep s1 n e
    refine ⟨G1, env, S.step s1, Post.seq (Rel1 := RV X.K) (x := fv env) (k := fun v => (match keyOf kd with
      | some k => pairsV l env >>= fun l => .ok ((k, v) :: l)
      | none => .bad) >>= k) P1 fun vd vv G2 H2 q2 s2 r2 P2 => ?_⟩
    have k2 := keep s2 k1.1 k1.2
    cases hk : keyOf kd with
    | none => rw [hk] at P2; exact False.elim P2
    | some kk =>
      rw [hk] at P2
      have P3 : Post G2 H2 W σ Rel (pairsV l env >>= fun l => k ((kk, vd) :: l)) Q := by
        have e : ((pairsV l env >>= fun l => R.ok ((kk, vd) :: l)) >>= k) = (pairsV l env >>= fun l => k ((kk, vd) :: l)) := R.bind_assoc _ _ _
        rw [← e]; exact P2
      refine pairs_run l ((S.step s1).step s2) k2.1 k2.2 P3 fun G3 H3 kvs vs s3 n3 e3 hl rk q3 => ?_
      have hv := keyOf_rep hk r1
      rw [hv]
      exact h G3 H3 ((kk, vd) :: kvs) ((kk, vv) :: vs) ((s1.trans s2).trans s3) n3 e3 (by rw [List.length_cons, List.length_cons, hl]) (RepK.cons_iff.mpr ⟨vv, vs, rfl, r2.mono s3.le, rk⟩) (by unfold pairsV; rw [q1]; show (fv env >>= _) = _; rw [q2]; show (match keyOf kd with | some k => pairsV l env >>= fun l => R.ok ((k, vd) :: l) | none => .bad) = _; rw [hk]; show (pairsV l env >>= _) = _; rw [q3]; rfl)
theorem merge_rep {K : PySem.W.Frag} {G : Hp} : ∀ {ks : List (Key × D)} {vs : List (Key × V)} {a : List (Key × D)} {b : List (Key × V)}, RepK K G ks vs → RepK K G a b → RepK K G (ks.foldl (fun acc kv => putD acc kv.1 kv.2) a) (mergeK b vs)
  | [], vs, a, b, h, ha => by
    have e : vs = [] := by rw [RepK] at h; exact h
    subst e
    exact ha
  | (k, d) :: ks, _, a, b, h, ha => by
    obtain ⟨v, vs, rfl, r, t⟩ := RepK.cons_iff.mp h
    exact merge_rep (ks := ks) (vs := vs) t (ha.put k r)
theorem el_disp {pos : Pos} {keys : List (Option Expr)} {values : List Expr} {l : List ((Cells → R D) × (Cells → R D))} (h : PPs X pos keys values (trsOf X W l)) (hall : keys.all (·.isSome) = true) (hl : keys.length = values.length) (h0 : keys ≠ []) (h15 : keys.length ≤ 15) (hlen : l.length ≤ 15) :
    EL X W (.Dict keys values pos) (dispV l) := PE.imp (pe_disp h hall hl h0 h15) fun σ H Q ⟨G, env, S, P⟩ p np => by
  have nG : G p = none := by
    cases q : G p with
    | none => rfl
    | some u => rw [S.sub _ _ q] at np; cases np
  have s0 : Stp G H G (upd H p (.dK [])) := .made S.sub np
  refine pairs_run (k := fun kvs => R.ok (D.dict (mergeD kvs))) (Rel := RL X.K H) l (S.step s0) nG upd_same (Post.move (r := dispV l env) P s0) fun G1 H1 kvs vs s1 n1 e1 hk rk q => ⟨e1, vs, rfl, by rw [rk.length, hk]; exact hlen, ?_⟩
  have P : Post G H W σ (RL X.K H) (pairsV l env >>= fun kvs => R.ok (D.dict (mergeD kvs))) Q := P
  rw [q] at P
  exact P _ _ _ ((s0.trans s1).wrote np n1) ⟨p, rfl, np, n1, _, upd_same, merge_rep rk .nil⟩
/-- d.get(k, x) -/
def getD2 (d k x : D) : R D := match dGet d k with
  | .ok (some v) => .ok v
  | .ok none => .ok x
  | .exc C => .exc C
  | .bad => .bad
def isDictD : D → Bool
  | .dict _ => true
  | .dictT _ => true
  | _ => false
def getV (fo fk fx : Cells → R D) : Cells → R D := fun c => fo c >>= fun d => if isDictD d = true then fk c >>= fun k => fx c >>= fun x => getD2 d k x else .bad
theorem ev_get2 {o e f : Expr} {apos cpos : Pos} {fo fk fx : Cells → R D} (hu : X.A.units + 1 < cLine) (ho : EB X W o fo) (hk : EV X W e fk) (hx : EV X W f fx) (m : M2 X o "get" apos e f cpos) : EV X W (.Call (.Attribute o "get" apos) [e, f] [] cpos) (getV fo fk fx) :=
  PE.imp (pe_dget2 hu ho hk hx m) fun σ H Q ⟨G, env, S, P⟩ => by
    refine ⟨G, env, S, Post.seq (Rel1 := RB X.K) (x := fo env) (k := fun d => if isDictD d = true then fk env >>= fun k => fx env >>= fun x => getD2 d k x else .bad) P fun d v G1 H1 he0 s1 r1 P1 => ?_⟩
    clear he0
    split at P1
    · rename_i hd
      obtain ⟨a, rfl, ia⟩ : ∃ a, v = .ref a ∧ IsD H1 a := by
        cases d with
        | dict ks => obtain ⟨a, xs, rfl, ha, _⟩ := r1.dict s1.sub; exact ⟨a, rfl, .inl ⟨xs, ha⟩⟩
        | dictT ks => obtain ⟨a, xs, rfl, ha, _⟩ := r1.dictT s1.sub; exact ⟨a, rfl, .inr ⟨xs, ha⟩⟩
        | _ => cases hd
      refine ⟨a, rfl, ia, G1, env, S.step s1, Post.seq (Rel1 := RV X.K) (x := fk env) (k := fun k => fx env >>= fun x => getD2 d k x) P1 fun kd kv G2 H2 _ s2 r2 P2 => ?_⟩
      refine ⟨G2, env, (S.step s1).step s2, Post.seq (Rel1 := RV X.K) (x := fx env) (k := fun x => getD2 d kd x) P2 fun xd xv G3 H3 _ s3 r3 P3 => ?_⟩
      have rd := (r1.step s2).step s3
      unfold getD2 at P3
      cases hg : dGet d kd with
      | bad => rw [hg] at P3; exact False.elim P3
      | exc C =>
        exfalso
        unfold dGet at hg
        split at hg <;> (try split at hg) <;> cases hg
      | ok oo =>
        rw [hg] at P3
        obtain ⟨a', r, ea, g, ro⟩ := dGet_at s3.sub rd (.inl (r2.mono s3.le)) hg
        cases ea
        refine ⟨r, g, ?_⟩
        cases oo with
        | none =>
          cases r with
          | none => exact P3.here s3.sub r3
          | some w => exact False.elim ro
        | some w =>
          cases r with
          | none => exact False.elim ro
          | some w' => exact P3.here s3.sub ro
    · exact False.elim P1
theorem es_raise {C : Addr} {x m : Str} {j : Nat} {p p2 pos pos2 : Pos} (hc : X.calm = true) (tk : Takes X W) (q : PySem.W.excIn X.K C He.veBase "ValueError.__new__" = true ∧ PySem.W.keepIn X.K (.ref C) = true ∧ PySem.W.subIn X.K (.ref C) (.type "BaseException") = some true ∧ PySem.W.typeIn X.K (.ref C) = some (.type "type"))
    (gC : X.mg x = some (.ref C)) (hg : Gl X x) (hdb : (x == ("__debug__" : Str)) = false) : ES X W (.Raise (some (.Call (.Name x p) [.Constant (.str m) j p2] [] pos)) none pos2) (fun _ => .exc C) :=
  PS.imp (ps_raise hc tk (pmk_own PySem.F.excBase_ValueError q.1 gC q.2.1 (raises_own q.2.2.1 q.2.2.2) hg hdb)) fun D' σ H ⟨G0, H0, G, env, S, P⟩ => P σ H S.stp.keep
def oMul2 : D → D → R D
  | .tuple xs, .int k => if k = 1 then .ok (.tuple xs) else if k = 0 ∧ xs ≠ [] then .ok (.tuple []) else if xs ≠ [] ∧ 2 ≤ k ∧ k ≤ 1000 ∧ xs.length ≤ 1000 then .ok (.tuple (List.replicate k.toNat xs).flatten) else .bad
  | d, e => oMul d e
theorem op_mulAll2 : OpR X (binaryOp .Mult) (fun x y H Q => (rI CMul (fun i j => .int (i * j)) x y H Q ∨ rRep x y H Q) ∨ (rRepT X.K x y H Q ∨ (rRepT1 X.K x y H Q ∨ rRepT0 X.K x y H Q))) := op_mulAll.or (op_repT.or (op_repT1.or op_repT0))
theorem RepAll.ne_nil {K : PySem.W.Frag} {G : Hp} {ds : List D} {vs : List V} (r : RepAll K G ds vs) (h : ds ≠ []) : vs ≠ [] := fun z => by
  subst z
  have := r.length
  cases ds with
  | nil => exact h rfl
  | cons a b => cases this
theorem RepAll.flat {K : PySem.W.Frag} {G : Hp} {ds : List D} {vs : List V} (r : RepAll K G ds vs) : ∀ n : Nat, RepAll K G (List.replicate n ds).flatten (List.replicate n vs).flatten
  | 0 => .nil
  | n + 1 => by
    rw [List.replicate_succ, List.replicate_succ, List.flatten_cons, List.flatten_cons]
    exact r.append (RepAll.flat r n)
theorem does_mul2 : Does2 X W (fun x y H Q => (rI CMul (fun i j => .int (i * j)) x y H Q ∨ rRep x y H Q) ∨ (rRepT X.K x y H Q ∨ (rRepT1 X.K x y H Q ∨ rRepT0 X.K x y H Q))) oMul2 := by
  intro G H σ Q d e v u s r1 r2 P
  unfold oMul2 at P
  split at P
  · rename_i xs k
    obtain ⟨a, vs, rfl, hA, ra⟩ := r1.tuple
    have ek := r2.int
    subst ek
    split at P
    · rename_i h1
      subst h1
      exact .inr (.inr (.inl ⟨a, vs, rfl, rfl, s _ _ hA, P.here s (Rep.tuple_iff.mpr ⟨a, vs, rfl, hA, ra⟩)⟩))
    · split at P
      · rename_i h0
        obtain ⟨h0, hne⟩ := h0
        subst h0
        exact .inr (.inr (.inr ⟨a, vs, rfl, rfl, .of (s _ _ hA), ra.ne_nil hne, fun p np => P.newT s .nil np⟩))
      · split at P
        · rename_i h2
          obtain ⟨hne, h2, h3, h4⟩ := h2
          exact .inr (.inl ⟨a, k, vs, rfl, rfl, .of (s _ _ hA), ra.ne_nil hne, h2, h3, by rw [ra.length]; exact h4, fun p np => P.newT s (ra.flat _) np⟩)
        · exact False.elim P
  · exact .inl (does_mul s r1 r2 P)
end
end PL
end S18
noncomputable section S19
namespace PL
open PySem PySem.Spec PyProof.Rows L2
open PySem.Calls
/-- a zip that was drawn i times, its tuples still there -/
structure ZSt (h : Heap) (z TI TO i1 i2 l1 l2 S : Addr) (xs ys : Array Value) (i : Nat) : Prop where
  z : (∃ a b, IsZip h z TI TO .none ∧ IsPair h TO a b) ∨ ∃ T f oT, PySem.IsZipHeld h z TI TO T f ∧ h.get? T = some oT ∧ T ≠ z ∧ T ≠ i1 ∧ T ≠ i2 ∧ T ≠ S
  ti : IsPair h TI (.ref i1) (.ref i2)
  a1 : h.IsListIter i1 l1 i
  a2 : h.IsListIter i2 l2 i
  b1 : h.IsList l1 xs
  b2 : h.IsList l2 ys
structure ZAp (z TI TO i1 i2 l1 l2 S : Addr) : Prop where
  d : ZipApart z TI TO i1 i2 l1 l2
  sz : S ≠ z
  sTI : S ≠ TI
  sTO : S ≠ TO
  s1 : S ≠ i1
  s2 : S ≠ i2
  t1 : S ≠ l1
  t2 : S ≠ l2
theorem ZSt.keep {h h' : Heap} {z TI TO i1 i2 l1 l2 S : Addr} {xs ys : Array Value} {i : Nat} (x : ZSt h z TI TO i1 i2 l1 l2 S xs ys i) (D : ZAp z TI TO i1 i2 l1 l2 S) (hk : ∀ b o, b ≠ S → h.get? b = some o → h'.get? b = some o) : ZSt h' z TI TO i1 i2 l1 l2 S xs ys i := by
  refine ⟨?_, hk _ _ D.sTI.symm x.ti, x.a1.at fun o e => hk _ o D.s1.symm e, x.a2.at fun o e => hk _ o D.s2.symm e, x.b1.at fun o e => hk _ o D.t1.symm e, x.b2.at fun o e => hk _ o D.t2.symm e⟩
  rcases x.z with ⟨a, b, e1, e2⟩ | ⟨T, f, oT, e1, e2, n1, n2, n3, n4⟩
  · exact .inl ⟨a, b, hk _ _ D.sz.symm e1, hk _ _ D.sTO.symm e2⟩
  · exact .inr ⟨T, f, oT, hk _ _ D.sz.symm e1, hk _ _ n4 e2, n1, n2, n3, n4⟩
section
variable {prog : Program} {w : World} {A : Around} {E : Value → Shared → Prop} {s : Shared} {z TI TO i1 i2 l1 l2 S : Addr} {xs ys : Array Value} {i : Nat}
theorem zl_item {x y : Value} {Q : Option Value → Shared → Prop} (D : ZAp z TI TO i1 i2 l1 l2 S) (st : ZSt s.heap z TI TO i1 i2 l1 l2 S xs ys i) (hS : S < s.heap.objs.size) (hx : xs[i]? = some x) (hy : ys[i]? = some y)
    (hQ : ∀ h', ZSt h' z TI TO i1 i2 l1 l2 S xs ys (i + 1) → IsPair h' s.heap.objs.size x y → h'.objs.size = s.heap.objs.size + 1 → (∀ c o, c ≠ z → c ≠ TO → c ≠ i1 → c ≠ i2 → s.heap.get? c = some o → h'.get? c = some o) → Q (some (.ref s.heap.objs.size)) { s with heap := h' }) :
    wpAny (model prog w) A (pyNext (.ref z)) Q E s := by
  have lt : ∀ {b : Addr} {o : Obj}, s.heap.get? b = some o → s.heap.objs.size ≠ b := fun {b o} e => Nat.ne_of_gt (Heap.lt_size e)
  have g1 : s.heap.objs.size ≠ i1 := by obtain ⟨o, e, _⟩ := st.a1; exact lt e
  have g2 : s.heap.objs.size ≠ i2 := by obtain ⟨o, e, _⟩ := st.a2; exact lt e
  rcases st.z with ⟨a, b, e1, e2⟩ | ⟨T, f, oT, e1, e2, n1, n2, n3, n4⟩
  · refine wpAny_pyNext_zip_item D.d e1 st.ti e2 st.a1 st.a2 st.b1 st.b2 hx hy fun h' z1 z2 z3 z4 z5 z6 z7 => hQ h' ⟨.inr ⟨s.heap.objs.size, false, _, z1, z5, lt e1, g1, g2, Nat.ne_of_gt hS⟩, z7 _ _ D.d.TIz D.d.TITO D.d.TIi1 D.d.TIi2 st.ti, z3, z4, ?_, ?_⟩ z5 z6 z7
    · exact st.b1.at fun o e => z7 _ o D.d.l1z D.d.l1TO D.d.l1i1 D.d.l1i2 e
    · exact st.b2.at fun o e => z7 _ o D.d.l2z D.d.l2TO D.d.l2i1 D.d.l2i2 e
  · refine PySem.wpAny_pyNext_zip_item_held D.d e1 e2 st.ti st.a1 st.a2 st.b1 st.b2 hx hy fun h' z1 z3 z4 z5 z6 z7 => hQ h' ⟨.inr ⟨T, true, oT, z1, z7 _ _ n1 n2 n3 e2, n1, n2, n3, n4⟩, z7 _ _ D.d.TIz D.d.TIi1 D.d.TIi2 st.ti, z3, z4, ?_, ?_⟩ z5 z6 fun c o c1 _ c3 c4 e => z7 c o c1 c3 c4 e
    · exact st.b1.at fun o e => z7 _ o D.d.l1z D.d.l1i1 D.d.l1i2 e
    · exact st.b2.at fun o e => z7 _ o D.d.l2z D.d.l2i1 D.d.l2i2 e
theorem zl_done {Q : Option Value → Shared → Prop} (hh : A.handled = none) (D : ZAp z TI TO i1 i2 l1 l2 S) (st : ZSt s.heap z TI TO i1 i2 l1 l2 S xs ys i) (he : xs[i]? = none ∨ ys[i]? = none)
    (hQ : ∀ h', (∀ c o, c ≠ z → c ≠ TO → c ≠ i1 → c ≠ i2 → s.heap.get? c = some o → h'.get? c = some o) → Q none { s with heap := h' }) : wpAny (model prog w) A (pyNext (.ref z)) Q E s := by
  rcases st.z with ⟨a, b, e1, e2⟩ | ⟨T, f, oT, e1, e2, n1, n2, n3, n4⟩
  · exact wpAny_pyNext_zip_end hh D.d e1 st.ti e2 st.a1 st.a2 st.b1 st.b2 he fun h' hk => hQ h' hk
  · exact PySem.wpAny_pyNext_zip_end_held hh D.d e1 e2 st.ti st.a1 st.a2 st.b1 st.b2 he fun h' hk => hQ h' fun c o c1 _ c3 c4 e => hk c o c1 c3 c4 e
end
structure ZG (xs ys : Array Value) (lo : Addr) (h : Heap) (as : List Addr) : Prop where
  rise : as.Pairwise (· < ·)
  above : ∀ a ∈ as, lo < a
  pairs : ∀ (j : Nat) (a : Addr), as[j]? = some a → ∃ x y, xs[j]? = some x ∧ ys[j]? = some y ∧ IsPair h a x y
theorem ZG.there {xs ys : Array Value} {lo : Addr} {h : Heap} {as : List Addr} (g : ZG xs ys lo h as) {a : Addr} (ha : a ∈ as) : a < h.objs.size := by
  obtain ⟨j, hj⟩ := List.mem_iff_getElem?.mp ha
  obtain ⟨_, _, _, _, e⟩ := g.pairs j a hj
  exact Heap.lt_size e
section
variable {prog : Program} {w : World} {A : Around} {s : Shared} {R : Result → Shared → Prop} {z TI TO i1 i2 l1 l2 S : Addr} {xs ys : Array Value}
theorem zl_loop (hh : A.handled = none) (D : ZAp z TI TO i1 i2 l1 l2 S) (low : z < S ∧ TO < S ∧ i1 < S ∧ i2 < S) (res : Value) {h₁ : Heap} (n : Nat) (hn : n = min xs.size ys.size) (hns : n ≤ sizeLine)
    (hR : ∀ h' tk acc c as, (∀ b o, b ≠ S → b ≠ z → b ≠ TO → b ≠ i1 → b ≠ i2 → h₁.get? b = some o → h'.get? b = some o) → h'.get? S = some { cls := .type "list", dict := none, data := .seq acc c, slots := #[] } → as.length = n → ZG xs ys S h' as →
      acc.toList = as.map Value.ref → R (.ok (.ret res)) { s with heap := h', toks := tk }) :
    ∀ (k i : Nat) (h : Heap) (tk c : Nat) (acc : Array Value) (as : List Addr), n - i = k → i ≤ n → ZSt h z TI TO i1 i2 l1 l2 S xs ys i → (∀ b o, b ≠ S → b ≠ z → b ≠ TO → b ≠ i1 → b ≠ i2 → h₁.get? b = some o → h.get? b = some o) →
      h.get? S = some { cls := .type "list", dict := none, data := .seq acc c, slots := #[] } → acc.toList = as.map Value.ref → as.length = i → ZG xs ys S h as →
      codeAny (model prog w) A (.builtin "list.extend.loop" ⟨[.ref S, .ref z, res], []⟩) R { s with heap := h, toks := tk } := by
  intro k
  induction k with
  | zero =>
    intro i h tk c acc as hk hi hst hkeep hS hacc hal hG
    have hin : i = n := by omega
    refine codeAny_builtin PySem.F.entry_extend_loop ?_
    rw [Around.under_plainId PySem.F.plain_extend_loop _]
    show wpAny _ A.in1 (pyNext (.ref z) >>= _) _ _ _
    refine wpAny_bind (zl_done (s := { s with heap := h, toks := tk }) (A := A.in1) hh D hst ?_ fun h' hk' => ?_)
    · by_cases q : xs.size ≤ ys.size
      · exact .inl (Array.getElem?_eq_none (by omega))
      · exact .inr (Array.getElem?_eq_none (by omega))
    refine wpAny_pure (hR h' tk acc c as (fun b o h1 h2 h3 h4 h5 e => hk' b o h2 h3 h4 h5 (hkeep b o h1 h2 h3 h4 h5 e)) (hk' S _ D.sz D.sTO D.s1 D.s2 hS) (by omega) ⟨hG.rise, hG.above, fun j a hj => ?_⟩ hacc)
    obtain ⟨x, y, e1, e2, e3⟩ := hG.pairs j a hj
    have la := hG.above a (List.mem_of_getElem? hj)
    exact ⟨x, y, e1, e2, hk' a _ (Nat.ne_of_gt (Nat.lt_trans low.1 la)) (Nat.ne_of_gt (Nat.lt_trans low.2.1 la)) (Nat.ne_of_gt (Nat.lt_trans low.2.2.1 la)) (Nat.ne_of_gt (Nat.lt_trans low.2.2.2 la)) e3⟩
  | succ k ih =>
    intro i h tk c acc as hk hi hst hkeep hS hacc hal hG
    have h1' : i < xs.size := by omega
    have h2' : i < ys.size := by omega
    have hsz : acc.size = i := by rw [← Array.length_toList, hacc, List.length_map, hal]
    refine codeAny_builtin PySem.F.entry_extend_loop ?_
    rw [Around.under_plainId PySem.F.plain_extend_loop _]
    show wpAny _ A.in1 (pyNext (.ref z) >>= _) _ _ _
    refine wpAny_bind (zl_item (s := { s with heap := h, toks := tk }) D hst (Heap.lt_size hS) (Array.getElem?_eq_getElem h1') (Array.getElem?_eq_getElem h2') fun h' hst' ht hz hkp => ?_)
    dsimp only at ht hz hkp ⊢
    have hS' := hkp S _ D.sz D.sTO D.s1 D.s2 hS
    have up : ∀ b o, b ≠ S → h'.get? b = some o → (h'.update S (Obj.mapSeq (·.push (Value.ref h.objs.size)))).get? b = some o := fun b o hb e => (Heap.get?_update_other _ _ (Ne.symm hb)).trans e
    have hSl : S < h.objs.size := Heap.lt_size hS
    show wpAny _ A.in1 (updateSeq S (·.push (Value.ref h.objs.size)) >>= _) _ _ _
    refine wpAny_bind ?_
    refine wpAny_updateSeq hS' rfl (wpAny_pure ⟨plainId_quiet PySem.F.plain_extend_loop _, ih (i + 1) _ tk _ (acc.push (Value.ref h.objs.size)) (as ++ [h.objs.size]) (by omega) (by omega) (hst'.keep D up)
      (fun b o h1 h2 h3 h4 h5 e => up b o h1 (hkp b o h2 h3 h4 h5 (hkeep b o h1 h2 h3 h4 h5 e))) (Heap.get?_update_self _ hS' rfl) (by rw [Array.toList_push, hacc, List.map_append]; rfl) (by rw [List.length_append, hal]; rfl) ⟨?_, ?_, ?_⟩⟩) (by rw [hsz]; omega) (by show (acc.push (Value.ref h.objs.size)).size ≤ sizeLine + 1; rw [Array.size_push, hsz]; omega)
    · refine List.pairwise_append.mpr ⟨hG.rise, List.pairwise_singleton _ _, fun a ha b hb => ?_⟩
      rw [List.mem_singleton.mp hb]
      exact hG.there ha
    · intro a ha
      rcases List.mem_append.mp ha with ha | ha
      · exact hG.above a ha
      · rw [List.mem_singleton.mp ha]; exact hSl
    · intro j b hj
      rcases Nat.lt_trichotomy j as.length with h1 | h1 | h1
      · rw [List.getElem?_append_left h1] at hj
        obtain ⟨x', y', e1, e2, e3⟩ := hG.pairs j b hj
        have hb := hG.above b (List.mem_of_getElem? hj)
        exact ⟨x', y', e1, e2, up b _ (Nat.ne_of_gt hb) (hkp b _ (Nat.ne_of_gt (Nat.lt_trans low.1 hb)) (Nat.ne_of_gt (Nat.lt_trans low.2.1 hb)) (Nat.ne_of_gt (Nat.lt_trans low.2.2.1 hb)) (Nat.ne_of_gt (Nat.lt_trans low.2.2.2 hb)) e3)⟩
      · subst h1
        have hb : h.objs.size = b := by simpa using hj
        subst hb
        exact ⟨xs[i], ys[i], by rw [hal]; exact Array.getElem?_eq_getElem h1', by rw [hal]; exact Array.getElem?_eq_getElem h2', up _ _ (Nat.ne_of_gt hSl) ht⟩
      · have hnone : (as ++ [h.objs.size])[j]? = none := List.getElem?_eq_none (by rw [List.length_append, List.length_singleton]; omega)
        rw [hnone] at hj; cases hj
end

theorem zip_no_len : typeLookup (.type "zip") "__len__" = pure none := by rw [typeLookup_type, builtinLookup_eq_fast]; kernel_rfl
theorem zip_no_hint : typeLookup (.type "zip") "__length_hint__" = pure none := by rw [typeLookup_type, builtinLookup_eq_fast]; kernel_rfl
section
variable {prog : Program} {w : World} {A : Around} {E : Value → Shared → Prop} {s : Shared} {R : Result → Shared → Prop} {z TI TO i1 i2 l1 l2 : Addr} {xs ys : Array Value}
theorem zl_extend (hh : A.handled = none) (S : Addr) (D : ZAp z TI TO i1 i2 l1 l2 S) (low : z < S ∧ TO < S ∧ i1 < S ∧ i2 < S) (hst : ZSt s.heap z TI TO i1 i2 l1 l2 S xs ys 0) (hT : s.TypeIs (.ref z) "zip") (res : Value) (c₀ : Nat) (hS : s.heap.get? S = some { cls := .type "list", data := .seq #[] c₀ })
    (n : Nat) (hn : n = min xs.size ys.size) (hns : n ≤ sizeLine)
    (hself : ∀ (Q : Value → Shared → Prop) (E : Value → Shared → Prop), Q (.ref z) s → wpAny (model prog w) A.in1 (pyIter (.ref z)) Q E s)
    (hR : ∀ h' tk acc c as, (∀ b o, b ≠ S → b ≠ z → b ≠ TO → b ≠ i1 → b ≠ i2 → s.heap.get? b = some o → h'.get? b = some o) → h'.get? S = some { cls := .type "list", dict := none, data := .seq acc c, slots := #[] } → as.length = n → ZG xs ys S h' as →
      acc.toList = as.map Value.ref → R (.ok (.ret res)) { s with heap := h', toks := tk }) :
    wpAny (model prog w) A.in1 (Builtin.List.listExtendWith (.ref S) (.ref z) res)
      (fun fin s' => match fin with | .done f => R (.ok f) s' | .again c' => c'.quiet = true ∧ codeAny (model prog w) A c' R s') (fun e s' => R (.error e) s') s := by
  have key : ∀ (h : Heap) (c₁ tk : Nat), (∀ b o, b ≠ S → s.heap.get? b = some o → h.get? b = some o) → h.get? S = some { cls := .type "list", data := .seq #[] c₁ } →
      codeAny (model prog w) A (.builtin "list.extend.loop" ⟨[.ref S, .ref z, res], []⟩) R { s with heap := h, toks := tk } := by
    intro h c₁ tk hk hS₁
    exact zl_loop (s := s) (h₁ := s.heap) hh D low res n hn hns hR n 0 h tk c₁ #[] [] (Nat.sub_zero _) (Nat.zero_le _) (hst.keep D hk) (fun b o h1 _ _ _ _ e => hk b o h1 e) hS₁ rfl rfl
      ⟨List.Pairwise.nil, (fun _ ha => nomatch ha), (fun j a hj => by simp at hj)⟩
  unfold Builtin.List.listExtendWith
  refine wpAny_bind (wpAny_typeOf (T := "zip") hT ?_)
  have h1 : Builtin.List.listSameRef (.ref S) (.ref z) = false := by simp [Builtin.List.listSameRef, D.sz]
  have h2 : (Value.type "zip" == Value.type "list") = false := by decide
  have h3 : (Value.type "zip" == Value.type "tuple") = false := by decide
  simp only [h1, h2, h3, Bool.or_false, Bool.false_eq_true, if_false]
  refine wpAny_bind (hself _ _ ?_)
  refine wpAny_bind (wpAny_holding ?_)
  unfold Builtin.List.listLengthHint
  refine wpAny_bind (wpAny_specialOf hT zip_no_len ?_)
  show wpAny _ A.in1 (specialOf (Value.ref z) (Str.ofString "__length_hint__") >>= _) _ _ _
  refine wpAny_bind (wpAny_specialOf hT zip_no_hint ?_)
  refine wpAny_pure ?_
  show wpAny _ A.in1 (rule "list.extend.makes-room" >>= fun _ => Builtin.List.listTouch (.ref S) >>= fun _ =>
    again (.builtin "list.extend.loop" ⟨[.ref S, .ref z, res], []⟩)) _ _ _
  refine wpAny_bind (wpAny_rule ?_)
  refine wpAny_bind ?_
  show wpAny _ A.in1 (updateSeq S (·.push .none) >>= fun _ => updateSeq S (·.pop)) _ _ _
  refine wpAny_bind (wpAny_updateSeq hS rfl ?_)
  have hS₂ := Heap.get?_update_self (Obj.mapSeq (·.push Value.none)) hS rfl
  refine wpAny_updateSeq (hz := by seq_fits) hS₂ rfl ?_
  have hS₃ := Heap.get?_update_self (Obj.mapSeq (·.pop)) hS₂ rfl
  refine wpAny_pure ⟨plainId_quiet PySem.F.plain_extend_loop _, key _ _ s.toks (fun b o hb e => (Heap.get?_update_other _ _ (Ne.symm hb)).trans ((Heap.get?_update_other _ _ (Ne.symm hb)).trans e)) hS₃⟩
theorem zl_call {Q : Value → Shared → Prop} (hh : A.handled = none) (D : ZAp z TI TO i1 i2 l1 l2 s.heap.objs.size) (low : z < s.heap.objs.size ∧ TO < s.heap.objs.size ∧ i1 < s.heap.objs.size ∧ i2 < s.heap.objs.size) (hst : ZSt s.heap z TI TO i1 i2 l1 l2 s.heap.objs.size xs ys 0)
    (hz0 : IsZip s.heap z TI TO .none) (n : Nat) (hn : n = min xs.size ys.size) (hns : n ≤ sizeLine)
    (hQ : ∀ h' tk acc c as, (∀ b o, b ≠ z → b ≠ TO → b ≠ i1 → b ≠ i2 → s.heap.get? b = some o → h'.get? b = some o) → h'.get? s.heap.objs.size = some { cls := .type "list", dict := none, data := .seq acc c, slots := #[] } → as.length = n → ZG xs ys s.heap.objs.size h' as →
      acc.toList = as.map Value.ref → Q (.ref s.heap.objs.size) { s with heap := h', toks := tk }) :
    wpAny (model prog w) A (call (.type "list") [.ref z]) Q E s := by
  refine callType_codes (Q₁ := fun obj s₁ => obj = .ref s.heap.objs.size ∧ s₁ = { s with heap := s.heap.push { cls := .type "list", data := .seq #[] } }) PySem.F.called_list (PySem.F.typeCall_list_1 _) PySem.F.entry_list_init
    (code_list_new _ ⟨rfl, rfl⟩) fun obj s₁ h₁ => ?_
  obtain ⟨rfl, rfl⟩ := h₁
  have hS : (s.heap.push { cls := .type "list", data := .seq #[] }).get? s.heap.objs.size = some { cls := .type "list", data := .seq #[] } := Heap.get?_push_size _ rfl
  refine ⟨⟨_, hS, rfl⟩, PySem.F.args_list_init_2 _ _, ?_⟩
  show wpAny _ _ (do let old ← Builtin.List.listItems (.ref s.heap.objs.size); Builtin.List.listUpdate (.ref s.heap.objs.size) (fun _ => #[]); letGo old.toList.reverse; Builtin.List.listExtendWith (.ref s.heap.objs.size) (.ref z) .none) _ _ _
  refine wpAny_bind ?_
  unfold Builtin.List.listItems
  refine wpAny_bind (wpAny_seqItems hS rfl (wpAny_pure ?_))
  show wpAny _ _ (updateSeq s.heap.objs.size (fun _ => #[]) >>= fun _ => letGo (#[] : Array Value).toList.reverse >>= fun _ => Builtin.List.listExtendWith (.ref s.heap.objs.size) (.ref z) .none) _ _ _
  refine wpAny_bind (wpAny_updateSeq hS rfl ?_)
  have hS₂ := Heap.get?_update_self (Obj.mapSeq (fun _ => (#[] : Array Value))) hS rfl
  have oth : ∀ b o, b ≠ s.heap.objs.size → s.heap.get? b = some o → ((s.heap.push { cls := .type "list", data := .seq #[] }).update s.heap.objs.size (Obj.mapSeq (fun _ => (#[] : Array Value)))).get? b = some o :=
    fun b o hb e => (Heap.get?_update_other _ _ (Ne.symm hb)).trans (Heap.get?_push_of_some _ e)
  refine wpAny_bind (wpAny_letGo ?_)
  refine zl_extend (A := A.in1) hh s.heap.objs.size D low (hst.keep D oth) ⟨_, oth _ _ D.sz.symm hz0, rfl⟩ .none _ hS₂ n hn hns (fun Q E q => wpAny_pyIter_zip (oth _ _ D.sz.symm hz0) q) fun h' tk acc c as hk hS' hl hG hacc => ?_
  exact ⟨rfl, hQ h' tk acc c as (fun b o h2 h3 h4 h5 e => hk b o (Nat.ne_of_lt (Heap.lt_size e)) h2 h3 h4 h5 (oth b o (Nat.ne_of_lt (Heap.lt_size e)) e)) hS' hl hG hacc⟩
end

section
variable {X : Cx} {pins : List (Addr × Obj)} {σ : L2.St} {s : Shared} {t : Nat} {h' : Heap}
theorem lay_pairs : ∀ (l : List (Addr × V × V)) (p : Addr → Bool) (G : Heap) (H : Hp), Inv X pins σ H { s with heap := G, toks := t } → (∀ b, p b = true → G.get? b = h'.get? b) → (∀ b, p b = false → G.get? b = none) →
    (∀ q ∈ l, p q.1 = false ∧ H q.1 = none ∧ ∃ u v, RelV q.2.1 u ∧ RelV q.2.2 v ∧ IsPair h' q.1 u v) → (l.map (·.1)).Nodup →
    ∃ (p' : Addr → Bool) (G' : Heap) (H' : Hp), Inv X pins σ H' { s with heap := G', toks := t } ∧ (∀ b, p' b = true → G'.get? b = h'.get? b) ∧ (∀ b, p' b = false → G'.get? b = none) ∧ (∀ b o, H b = some o → H' b = some o) ∧
      (∀ q ∈ l, H' q.1 = some (.tup [q.2.1, q.2.2])) ∧ (∀ b, b ∉ l.map (·.1) → p b = false → p' b = false) ∧ ∀ b, b ∉ l.map (·.1) → H b = none → H' b = none
  | [], p, G, H, I, h1, h2, _, _ => ⟨p, G, H, I, h1, h2, (fun _ _ e => e), (fun q hq => by cases hq), (fun _ _ e => e), (fun _ _ e => e)⟩
  | (a, x, y) :: l, p, G, H, I, h1, h2, hl, nd => by
    obtain ⟨pa, na, u, v, ru, rv, hp⟩ := hl (a, x, y) List.mem_cons_self
    obtain ⟨G1, g1, g2⟩ := restrict h' fun b => p b || decide (b = a)
    have k : ∀ b o, G.get? b = some o → G1.get? b = some o := fun b o e => by
      have pb : p b = true := by
        cases q : p b with
        | true => rfl
        | false => rw [h2 b q] at e; cases e
      rw [g1 b (by rw [pb]; rfl), ← h1 b pb]; exact e
    have ga : G1.get? a = some { cls := .type "tuple", data := .seq #[u, v] } := by
      rw [g1 a (by simp)]; exact hp
    have I1 : Inv X pins σ (upd H a (.tup [x, y])) { s with heap := G1, toks := t } := by
      have := I.laidN (a := a) (o := .tup [x, y]) (h' := G1) (t' := t) k (h2 a pa) na ⟨(show 2 ≤ sizeLine by decide), [u, v], .cons ru (.cons rv .nil), ⟨_, ga, rfl, 0, rfl⟩⟩
      exact this
    obtain ⟨nda, nd'⟩ := List.nodup_cons.mp (show (a :: l.map (·.1)).Nodup from nd)
    have hl' : ∀ q ∈ l, (p q.1 || decide (q.1 = a)) = false ∧ upd H a (.tup [x, y]) q.1 = none ∧ ∃ u v, RelV q.2.1 u ∧ RelV q.2.2 v ∧ IsPair h' q.1 u v := fun q hq => by
      obtain ⟨e1, e2, e3⟩ := hl q (List.mem_cons_of_mem _ hq)
      have ne : q.1 ≠ a := fun e => nda (e ▸ List.mem_map_of_mem hq)
      exact ⟨by rw [e1, decide_eq_false ne]; rfl, by rw [upd_ne ne]; exact e2, e3⟩
    obtain ⟨p', G', H', I', b1, b2, b3, b4, b5, b6⟩ := lay_pairs l _ G1 _ I1 g1 g2 hl' nd'
    refine ⟨p', G', H', I', b1, b2, fun b o e => b3 b o (by rw [upd_ne (ne_of_none e na)]; exact e), fun q hq => ?_, fun b hb e => ?_, fun b hb e => ?_⟩
    · rcases List.mem_cons.mp hq with rfl | hq
      · exact b3 a _ upd_same
      · exact b4 q hq
    · have hb : ¬ (b = a ∨ b ∈ l.map (·.1)) := fun z => hb (List.mem_cons.mpr z)
      simp only [not_or] at hb
      exact b5 b hb.2 (by rw [e, decide_eq_false hb.1]; rfl)
    · have hb : ¬ (b = a ∨ b ∈ l.map (·.1)) := fun z => hb (List.mem_cons.mpr z)
      simp only [not_or] at hb
      exact b6 b hb.2 (by rw [upd_ne hb.1]; exact e)
end
theorem vals_refs : ∀ as : List Addr, Vals (as.map V.ref) (as.map Value.ref)
  | [] => .nil
  | c :: as => .cons rfl (vals_refs as)
/-- list(zip(a, b)) of two lists -/
def tListZip (K : PySem.W.Frag) (ta : TA) : TE := fun σ H Q => ta σ H fun vs H1 => ∃ a b xs ys, vs = [.ref a, .ref b] ∧ SqL K H1 a xs ∧ SqL K H1 b ys ∧
  ∀ (p : Addr) (as : List Addr) (H2 : Hp), H1 p = none → (∀ c ∈ as, H1 c = none) → as.length = min xs.length ys.length → (∀ c o, H1 c = some o → H2 c = some o) → H2 p = some (.lst (as.map V.ref)) →
    (∀ (j : Nat) (c : Addr), as[j]? = some c → ∃ x y, xs[j]? = some x ∧ ys[j]? = some y ∧ H2 c = some (.tup [x, y])) → Q (.ref p) H2
theorem pe_listZip {X : Cx} {e e2 : Expr} {ta : TA} {p0 p pos1 pos : Pos} (hgl : Gl X "list") (hml : X.mg "list" = none) (hgz : Gl X "zip") (hmz : X.mg "zip" = none) (hc : X.calm = true) (ha : PA X [e, e2] ta)
    (hs : starEach [e, e2] X.env = (false, eval e X.env) :: starEach [e2] X.env) (hpl : (backTo pos1 (starEach [e2] X.env)).any (·.1) = false)
    (hs0 : starEach [.Call (.Name "zip" p) [e, e2] [] pos1] X.env = (false, eval (.Call (.Name "zip" p) [e, e2] [] pos1) X.env) :: starEach [] X.env) :
    PE X (.Call (.Name "list" p0) [.Call (.Name "zip" p) [e, e2] [] pos1] [] pos) (tListZip X.K ta) := by
  refine ⟨fun pins s σ H Q I h => ?_⟩
  refine wpAny_Call_Name_kw (ld_blt I hgl hml PyProof.Rows.boot_list ?_)
  refine PyProof.Rows.callWith_type1 ?_ hs0 rfl
  rw [hs0]
  show wpAny _ _ (spliced ((false, eval (.Call (.Name "zip" p) [e, e2] [] pos1) X.env) :: backTo pos (starEach [] X.env))) _ _ s
  refine Calls.spliced_cons ?_
  refine wpAny_Call_Name_kw (ld_blt I hgz hmz PyProof.Rows.boot_zip (PyProof.Rows.callWith_type1 (thn (ha.run pos1 pins s σ H _ I h) fun us s1 ⟨vs, H1, I1, r1, q1⟩ => ?_) hs hpl))
  obtain ⟨a, b, xs, ys, ex, hqx, hqy, q⟩ := q1
  subst ex
  cases r1 with
  | cons r rr =>
    cases rr with
    | cons r' rr =>
      cases rr
      cases r
      cases r'
      obtain ⟨its, rv, p1, z1⟩ := I1.list hqx
      obtain ⟨its2, rv2, p2, z2⟩ := I1.list hqy
      have la : a < s1.heap.objs.size := p1.lt
      have lb : b < s1.heap.objs.size := p2.lt
      refine call_zip_2 p1.isList p2.isList fun h1 hz hTI hTO ha1 ha2 hsz hk => Calls.spliced_nil ?_
      have D0 := PySem.W.ktu_apart s1.heap.objs.size a b la lb
      have D : ZAp (s1.heap.objs.size + 4) (s1.heap.objs.size + 2) (s1.heap.objs.size + 3) s1.heap.objs.size (s1.heap.objs.size + 1) a b h1.objs.size := by
        rw [hsz]
        refine ⟨D0, ?_, ?_, ?_, ?_, ?_, ?_, ?_⟩
        · exact Nat.ne_of_gt (Nat.lt_succ_self _)
        · exact Nat.ne_of_gt (Nat.add_lt_add_left (by decide) _)
        · exact Nat.ne_of_gt (Nat.add_lt_add_left (by decide) _)
        · exact Nat.ne_of_gt (Nat.lt_add_of_pos_right (by decide))
        · exact Nat.ne_of_gt (Nat.add_lt_add_left (by decide) _)
        · exact Nat.ne_of_gt (Nat.lt_trans la (Nat.lt_add_of_pos_right (by decide)))
        · exact Nat.ne_of_gt (Nat.lt_trans lb (Nat.lt_add_of_pos_right (by decide)))
      have low : s1.heap.objs.size + 4 < h1.objs.size ∧ s1.heap.objs.size + 3 < h1.objs.size ∧ s1.heap.objs.size < h1.objs.size ∧ s1.heap.objs.size + 1 < h1.objs.size := by
        rw [hsz]
        exact ⟨Nat.add_lt_add_left (by decide) _, Nat.add_lt_add_left (by decide) _, Nat.lt_add_of_pos_right (by decide), Nat.add_lt_add_left (by decide) _⟩
      have lx := rv.length
      have ly := rv2.length
      refine zl_call (s := { s1 with heap := h1 }) (xs := its.toArray) (ys := its2.toArray) (I1.ok.hd hc) D low ⟨.inl ⟨_, _, hz, hTO⟩, hTI, ha1, ha2, p1.isList.at fun o e => hk _ o e, p2.isList.at fun o e => hk _ o e⟩ hz (min xs.length ys.length) (by rw [List.size_toArray, List.size_toArray, lx, ly]) (Nat.le_trans (Nat.min_le_left _ _) z1) fun h' tk acc c as hkeep hS hal hG hacc => ?_
      dsimp only at hS hG hkeep ⊢
      have lowS : s1.heap.objs.size ≤ h1.objs.size := by rw [hsz]; exact Nat.le_add_right _ _
      have old : ∀ c o, s1.heap.get? c = some o → h'.get? c = some o := fun c o e => by
        have lt : c < s1.heap.objs.size := Heap.lt_size e
        exact hkeep c o (Nat.ne_of_lt (Nat.lt_of_lt_of_le lt (Nat.le_add_right _ _))) (Nat.ne_of_lt (Nat.lt_of_lt_of_le lt (Nat.le_add_right _ _))) (Nat.ne_of_lt lt) (Nat.ne_of_lt (Nat.lt_of_lt_of_le lt (Nat.le_add_right _ _))) (hk c o e)
      obtain ⟨G0, g1, g2⟩ := restrict h' fun c => decide (c < s1.heap.objs.size)
      have I2 : Inv X pins σ H1 { s1 with heap := G0, toks := tk } := I1.kept fun c o e => by
        rw [g1 c (decide_eq_true (Heap.lt_size e))]; exact old c o e
      have hz2 : (xs.zip ys).length = as.length := by rw [List.length_zip, hal]
      have hm1 : (as.zip (xs.zip ys)).map (·.1) = as := List.map_fst_zip (Nat.le_of_eq hz2.symm)
      have ab : ∀ c ∈ as, s1.heap.objs.size ≤ c := fun c hc' => Nat.le_trans lowS (Nat.le_of_lt (hG.above c hc'))
      have each : ∀ q ∈ as.zip (xs.zip ys), ∃ j : Nat, as[j]? = some q.1 ∧ xs[j]? = some q.2.1 ∧ ys[j]? = some q.2.2 := fun q hq => by
        obtain ⟨j, hj⟩ := List.mem_iff_getElem?.mp hq
        obtain ⟨e1, e2⟩ := List.getElem?_zip_eq_some.mp hj
        obtain ⟨e3, e4⟩ := List.getElem?_zip_eq_some.mp e2
        exact ⟨j, e1, e3, e4⟩
      obtain ⟨p', G', H', I', b1, b2, b3, b4, b5, b6⟩ := lay_pairs (h' := h') (as.zip (xs.zip ys)) (fun c => decide (c < s1.heap.objs.size)) G0 H1 I2 g1 g2 (fun q hq => by
        obtain ⟨j, e1, e2, e3⟩ := each q hq
        obtain ⟨u, v, f1, f2, f3⟩ := hG.pairs j q.1 e1
        have hle := ab q.1 (List.mem_of_getElem? e1)
        obtain ⟨u', k1, k2⟩ := rv.get e2
        obtain ⟨v', k3, k4⟩ := rv2.get e3
        rw [List.getElem?_toArray] at f1 f2
        rw [f1] at k1
        rw [f2] at k3
        cases k1
        cases k3
        exact ⟨decide_eq_false (Nat.not_lt.mpr hle), I1.hok.fresh hle, u, v, k2, k4, f3⟩) (by rw [hm1]; exact hG.rise.imp fun h => Nat.ne_of_lt h)
      have Sn : h1.objs.size ∉ (as.zip (xs.zip ys)).map (·.1) := by
        rw [hm1]
        exact fun hm => Nat.lt_irrefl _ (hG.above _ hm)
      have H1S : H1 h1.objs.size = none := I1.hok.fresh lowS
      have gS : G'.get? h1.objs.size = none := b2 _ (b5 _ Sn (decide_eq_false (Nat.not_lt.mpr lowS)))
      have nS : H' h1.objs.size = none := b6 _ Sn H1S
      have rr : Vals (as.map V.ref) (as.map Value.ref) := vals_refs as
      have I3 : Inv X pins σ (upd H' h1.objs.size (.lst (as.map V.ref))) { s1 with heap := h', toks := tk } := by
        have hacc' : acc = (as.map Value.ref).toArray := by rw [← hacc]
        have := I'.laidN (a := h1.objs.size) (o := .lst (as.map V.ref)) (h' := h') (t' := tk) (fun c o e => by
          cases q : p' c with
          | true => rw [← b1 c q]; exact e
          | false => have e : G'.get? c = some o := e; rw [b2 c q] at e; cases e) gS nS ⟨by rw [List.length_map, hal]; exact Nat.le_trans (Nat.min_le_left _ _) z1, as.map Value.ref, c, rr, by rw [← hacc']; exact hS⟩
        exact this
      refine ⟨.ref h1.objs.size, _, I3, rfl, q h1.objs.size as _ H1S (fun d hd => I1.hok.fresh (ab d hd)) hal (fun d o e => ?_) upd_same fun j d hj => ?_⟩
      · rw [upd_ne (ne_of_none (b3 d o e) nS)]; exact b3 d o e
      · obtain ⟨u, v, f1, f2, f3⟩ := hG.pairs j d hj
        have hj' : j < as.length := (List.getElem?_eq_some_iff.mp hj).1
        have h1' : j < xs.length := by omega
        have h2' : j < ys.length := by omega
        have hq : (d, xs[j], ys[j]) ∈ as.zip (xs.zip ys) := List.mem_of_getElem? (i := j) (List.getElem?_zip_eq_some.mpr ⟨hj, List.getElem?_zip_eq_some.mpr ⟨List.getElem?_eq_getElem h1', List.getElem?_eq_getElem h2'⟩⟩)
        have e := b4 _ hq
        exact ⟨xs[j], ys[j], List.getElem?_eq_getElem h1', List.getElem?_eq_getElem h2', by rw [upd_ne (ne_of_none e nS)]; exact e⟩
def zipLD : List D → R D
  | [.list xs, .list ys] => .ok (.list (List.zipWith (fun x y => .tuple [x, y]) xs ys))
  | _ => .bad
theorem el_listZip {X : Cx} {W : WX} {e e2 : Expr} {fa : Cells → R (List D)} {p0 p pos1 pos : Pos} (hgl : Gl X "list") (hml : X.mg "list" = none) (hgz : Gl X "zip") (hmz : X.mg "zip" = none) (hc : X.calm = true) (ha : EA X W [e, e2] fa)
    (hs : starEach [e, e2] X.env = (false, eval e X.env) :: starEach [e2] X.env) (hpl : (backTo pos1 (starEach [e2] X.env)).any (·.1) = false)
    (hs0 : starEach [.Call (.Name "zip" p) [e, e2] [] pos1] X.env = (false, eval (.Call (.Name "zip" p) [e, e2] [] pos1) X.env) :: starEach [] X.env) :
    EL X W (.Call (.Name "list" p0) [.Call (.Name "zip" p) [e, e2] [] pos1] [] pos) (fun c => fa c >>= zipLD) :=
  PE.imp (pe_listZip hgl hml hgz hmz hc ha hs hpl hs0) fun σ H Q ⟨G, env, S, P⟩ => by
    refine ⟨G, env, S, Post.seq (Rel1 := RA X.K) (x := fa env) (k := zipLD) P fun ds vs G1 H1 he0 s1 r1 P1 => ?_⟩
    clear he0
    unfold zipLD at P1
    split at P1
    · rename_i xs ys
      obtain ⟨v, vs', rfl, q1, r2⟩ := RepAll.cons_iff.mp r1
      obtain ⟨v2, vs2, rfl, q2, r3⟩ := RepAll.cons_iff.mp r2
      rw [RepAll.nil_iff.mp r3]
      obtain ⟨a, us, rfl, hA, ra⟩ := Rep.list_iff.mp q1
      obtain ⟨b, ws, rfl, hB, rb⟩ := Rep.list_iff.mp q2
      refine ⟨a, b, us, ws, rfl, .inl (.inl (s1.sub _ _ hA)), .inl (.inl (s1.sub _ _ hB)), fun p as H2 np nas hl keep hp hit => ?_⟩
      have gn : ∀ {c : Addr}, H1 c = none → G1 c = none := fun {c} h => by
        cases q : G1 c with
        | none => rfl
        | some o => rw [s1.sub _ _ q] at h; cases h
      have tup : ∀ c ∈ as, ∃ x y, H2 c = some (.tup [x, y]) := fun c hc => by
        obtain ⟨j, hj⟩ := List.mem_iff_getElem?.mp hc
        obtain ⟨x, y, _, _, e⟩ := hit j c hj
        exact ⟨x, y, e⟩
      have np' : p ∉ as := fun hm => by
        obtain ⟨x, y, e⟩ := tup p hm
        rw [hp] at e; cases e
      let G2 : Hp := fun c => if c ∈ as then H2 c else G1 c
      have l2 : ∀ c o, G1 c = some o → G2 c = some o := fun c o e => by
        have : c ∉ as := fun hm => by rw [gn (nas c hm)] at e; cases e
        show (if c ∈ as then H2 c else G1 c) = some o
        rw [if_neg this]; exact e
      have st : Stp G1 H1 G2 H2 := by
        refine ⟨.of l2, keep, fun c o e => ?_, fun c o e => ?_⟩
        · change (if c ∈ as then H2 c else G1 c) = some o at e
          split at e
          · rename_i hm; exact .inr (.inl (nas c hm))
          · exact .inl ⟨o, e⟩
        · change (if c ∈ as then H2 c else G1 c) = some o at e
          split at e
          · exact e
          · exact keep _ _ (s1.sub _ _ e)
      refine P1 _ G2 H2 st ⟨p, rfl, ?_, ?_, as.map V.ref, hp, ?_⟩
      · cases q : H p with
        | none => rfl
        | some o => rw [s1.keep _ _ q] at np; cases np
      · show (if p ∈ as then H2 p else G1 p) = none
        rw [if_neg np']; exact gn np
      · have la := ra.length
        have lb := rb.length
        refine RepAll.of_get (by rw [List.length_map, List.length_zipWith, hl, la, lb]) fun i d v hd hv => ?_
        rw [List.getElem?_map] at hv
        obtain ⟨c, hc, rfl⟩ := Option.map_eq_some_iff.mp hv
        obtain ⟨x, y, e1, e2, e3⟩ := hit i c hc
        obtain ⟨dx, dy, f1, f2, rfl⟩ := List.getElem?_zipWith_eq_some.mp hd
        obtain ⟨v1, g1, k1⟩ := ra.get f1
        obtain ⟨v2, g2, k2⟩ := rb.get f2
        rw [e1] at g1
        rw [e2] at g2
        cases g1
        cases g2
        refine Rep.tuple_iff.mpr ⟨c, [x, y], rfl, ?_, .cons (k1.mono (.of l2)) (.cons (k2.mono (.of l2)) .nil)⟩
        show (if c ∈ as then H2 c else G1 c) = _
        rw [if_pos (List.mem_of_getElem? hc)]; exact e3
    · exact False.elim P1
end PL
end S19
noncomputable section S20
namespace PL
open PySem PySem.Spec PyProof.Rows L2
abbrev ClD : Type := Value × Option Nat × (Addr → Value → Option Addr → TS)
def asEnds (D : Ends) : Option Nat → Ends
  | none => D
  | some i => { nx := fun σ' H' => D.nx (σ'.set i none) H', rt := D.rt, bk := fun σ' H' => D.bk (σ'.set i none) H', ct := fun σ' H' => D.ct (σ'.set i none) H' }
def asSlots (σ : L2.St) (a : Addr) : Option Nat → L2.St
  | none => σ
  | some i => σ.set i (some (.ref a))
def wMix (K : PySem.W.Frag) (Wout : WX) (D : Ends) : List ClD → WX
  | [] => Wout
  | (c, i, ts) :: r => fun cls d σ H => ∃ b, PySem.W.exmOne K cls c = some b ∧ (b = true → ∀ a, H a = none → ts a cls d (asEnds D i) (asSlots σ a i) H) ∧ (b = false → wMix K Wout D r cls d σ H)
inductive HdsMix (X : Cx) : List ExceptHandler → List ClD → Prop
  | nil : HdsMix X [] []
  | cons {x : Str} {c : Value} {ts : Addr → Value → Option Addr → TS} {b₀ : Stmt} {suite : List Stmt} {np pos' : Pos} {hds : List ExceptHandler} {l : List ClD} (hc : Names X x c)
      (hsu : ∀ (a : Addr) (oe : Obj) (cls : Value) (d : Option Addr) (pn : List (Addr × Obj)), Zc cls d oe → (∃ vs, oe.data = .fields vs) → PSs (X.suite a ((a, oe) :: pn)) (b₀ :: suite) (ts a cls d)) (r : HdsMix X hds l) :
      HdsMix X (.ExceptHandler (some (.Name x np)) none (b₀ :: suite) pos' :: hds) ((c, none, ts) :: l)
  | as {x n : Str} {i : Nat} {c : Value} {ts : Addr → Value → Option Addr → TS} {b₀ : Stmt} {suite : List Stmt} {np pos' : Pos} {hds : List ExceptHandler} {l : List ClD} (hN : X.N.Nodup) (hi : X.N[i]? = some n) (hln : X.env.kindOf n = some .local) (hc : Names X x c)
      (hsu : ∀ (a : Addr) (oe : Obj) (cls : Value) (d : Option Addr) (pn : List (Addr × Obj)), Zc cls d oe → (∃ vs, oe.data = .fields vs) → PSs (X.suite a ((a, oe) :: pn)) (b₀ :: suite) (ts a cls d)) (r : HdsMix X hds l) :
      HdsMix X (.ExceptHandler (some (.Name x np)) (some n) (b₀ :: suite) pos' :: hds) ((c, some i, ts) :: l)
section
variable {X : Cx} {body : List Stmt} {h₀ : ExceptHandler} {hds : List ExceptHandler} {l : List ClD} {pos : Pos} {tb : WX → TS} {Wout : WX}
theorem ps_try_mix (hs : X.stack = X.env :: X.outer) (hf : X.env.frame = some X.env.locals) (tk : Takes X Wout)
    (hb : ∀ (W : WX) (pn : List (Addr × Obj)) (xe : Value → Shared → Prop), Takes (X.tr pn xe) W → PassesOwn (model X.prog X.w) X.A X.env xe → PSs (X.tr pn xe) body (tb W))
    (hh : HdsMix X (h₀ :: hds) l) : PS X (.Try body (h₀ :: hds) [] [] pos) (fun D σ H => tb (wMix X.K Wout D l) D σ H) := by
  refine ⟨fun pins s σ H D I h => ?_⟩
  have ok := I.ok
  have hfr : X.A.frames = some (X.env :: X.outer) := by rw [ok.frames, hs]
  refine wpAny_Try_except ?_
  refine wpAny_mono ((hb (wMix X.K Wout D l) (X.pn ++ pins) (fun e s₁ => wpAny (model X.prog X.w) X.A (noteFrame e X.env) (fun _ s₂ => wpAny (model X.prog X.w) X.A (setFlight e none) (fun _ s₃ =>
    wpAny (model X.prog X.w) X.A (handleBy e X.env (h₀ :: hds)) (SP X pins D) X.xe s₃) X.xe s₂) X.xe s₁) (fun u s' xx => ?_) PassesOwn.looking).run [] s σ H D (I.toTry _) h) (fun f s1 hsp => ?_) (fun e s1 he => he)
  · obtain ⟨a, B, sI, pins', σ', H', cls, d, rfl, J', nb, up, sky, na, os, ag, w⟩ := xx
    have J : Inv X pins σ' H' sI := J'.ofTry ok
    have sky' : Sky B (X.env :: X.outer) a (Zc cls d) X.env.locals s'.heap := by rw [← hs]; exact sky
    show wpAny (model X.prog X.w) X.A (noteFrame (.ref a) X.env) _ _ _
    refine Sky.land Zc.steady hfr hf sky' fun h3 fl3 up3 => ?_
    have J3 : Inv X pins σ' H' { s' with heap := h3 } := J.landed nb fl3.1 (up.trans up3) os ag
    obtain ⟨oe3, vs3, he3, hz3, hd3⟩ := fl3.there
    have notFr : ∀ {h : Heap} {o : Obj} {vs : Array Value}, h.FunFrames B (X.env :: X.outer) → h.get? a = some o → o.data = .fields vs → a ∉ frs (X.env :: X.outer) := fun {h o vs} ff e dd hm => by
      obtain ⟨_, o', e', hnf⟩ := ff.mem hm
      rw [e] at e'; cases e'
      exact hnf _ dd
    have nfr := notFr fl3.2.2.1 he3 hd3
    have nL : a ≠ X.env.locals := fun z => nfr (List.mem_filterMap.mpr ⟨X.env, List.mem_cons_self, by rw [hf, z]⟩)
    have nF : a ∉ X.fs := fun hm => by
      obtain ⟨e, he, q⟩ := List.mem_filterMap.mp hm
      exact nfr (List.mem_filterMap.mpr ⟨e, List.mem_cons_of_mem _ he, q⟩)
    have S3 := J3.suite he3 hd3 na nL nF
    have LT : PySem.W.Looks (model X.prog X.w) h3 (typeOf (.ref a)) cls := fun A Q E s k q => wpAny_typeOf_ref (k _ _ he3) (by rw [hz3.1]; exact q)
    have test : ∀ {x : Str} {c : Value} {np : Pos} {Q : Value → Shared → Prop} {E : Value → Shared → Prop}, Names X x c → Q c { s' with heap := h3 } → wpAny (model X.prog X.w) (X.A.mark (some (.ref a))) (eval (.Name x np) X.env) Q E { s' with heap := h3 } := fun {x c np Q E} hc q => by
      obtain ⟨hg, hdbg, hm | ⟨hm, hv, hnn⟩⟩ := hc
      · exact ld_glob (X := X.suite a ((a, oe3) :: (X.pn ++ pins))) S3 hg hm q hdbg
      · exact ld_blt (X := X.suite a ((a, oe3) :: (X.pn ++ pins))) S3 hg hm hv q hnn hdbg
    have go : ∀ {hds' : List ExceptHandler} {l' : List ClD}, HdsMix X hds' l' → wMix X.K Wout D l' cls d σ' H' →
        wpAny (model X.prog X.w) X.A (handleBy (.ref a) X.env hds') (SP X pins D) X.xe { s' with heap := h3 } := by
      intro hds' l' hk
      induction hk with
      | nil =>
        intro w
        refine wpAny_handleBy_nil ?_
        obtain ⟨k1, k2, k3, oe, vs, T, oT, ts', he, hz, hd, h1, hr⟩ := id fl3
        unfold PySem.passOn
        refine wpAny_bind (wpAny_field he hd h1 ?_)
        rw [if_neg (show ¬ ((Value.ref T == Value.none) = true) from by simp)]
        have fin : wpAny (model X.prog X.w) X.A (setFlight (.ref a) X.env.frame) (fun _ s4 => wpAny (model X.prog X.w) X.A (throw (.ref a) : Sem Flow) (SP X pins D) X.xe s4) X.xe { s' with heap := h3 } := by
          rw [hf]
          refine HandSPX.setFlight_upZ fl3 fun h4 hh4 up4 => wpAny_throw (tk _ _ ?_)
          exact ⟨a, B, sI, pins, σ', H', cls, d, rfl, J, nb, (up.trans up3).trans up4, .inr (.inr (by rw [hs]; exact hh4)), na, os, ag, w⟩
        first
          | exact wpAny_bind (wpAny_pure (wpAny_bind fin))
          | exact wpAny_bind fin
      | @cons x c ts b₀ suite np pos' hds2 l2 hc hsu r ih =>
        intro w
        obtain ⟨b, hb1, hyes, hno⟩ := w
        have LM := PySem.W.exm_one (M := model X.prog X.w) (J3.kIn) LT hb1
        refine wpAny_handleBy_cons (codeAny_handlers_test ?_) (by intro q; cases q)
        refine test hc (LM.here ?_)
        cases b with
        | true =>
          refine codeAny_handlers_suite ?_
          refine HandSPX.lands_againZ fl3 fun h4 fl4 up4 => ?_
          have J4 : Inv X pins σ' H' { s' with heap := h4 } := J.landed nb fl4.1 ((up.trans up3).trans up4) os ag
          obtain ⟨oe4, vs4, he4, hz4, hd4⟩ := fl4.there
          have S4 := J4.suite he4 hd4 na nL nF
          refine wpAny_mono ((hsu a oe4 cls d (X.pn ++ pins) hz4 ⟨_, hd4⟩).run [] _ _ H' _ S4 (hyes rfl a na)) (fun f s6 hsp => ?_) (fun _ _ z => False.elim z)
          cases f with
          | next => obtain ⟨σ6, H6, S6, q6⟩ := hsp; exact ⟨_, _, S6.unsuite ok, q6⟩
          | brk => obtain ⟨σ6, H6, S6, q6⟩ := hsp; exact ⟨_, _, S6.unsuite ok, q6⟩
          | cont => obtain ⟨σ6, H6, S6, q6⟩ := hsp; exact ⟨_, _, S6.unsuite ok, q6⟩
          | ret u => obtain ⟨v6, σ6, H6, S6, r6, q6⟩ := hsp; exact ⟨_, _, _, S6.unsuite ok, r6, q6⟩
        | false =>
          show wpAny _ X.A (handleBy (.ref a) X.env hds2) _ _ _
          exact ih (hno rfl)
      | @as x n i c ts b₀ suite np pos' hds2 l2 hN hi hln hc hsu r ih =>
        intro w
        obtain ⟨b, hb1, hyes, hno⟩ := w
        have LM := PySem.W.exm_one (M := model X.prog X.w) (J3.kIn) LT hb1
        refine wpAny_handleBy_cons (codeAny_handlers_test ?_) (by intro q; cases q)
        refine test hc (LM.here ?_)
        cases b with
        | true =>
          refine codeAny_handlers_suite_as ?_
          refine HandSPX.lands_againZ fl3 fun h4 fl4 up4 => ?_
          have J4 : Inv X pins σ' H' { s' with heap := h4 } := J.landed nb fl4.1 ((up.trans up3).trans up4) os ag
          obtain ⟨oe4, vs4, he4, hz4, hd4⟩ := fl4.there
          have S4 := J4.suite he4 hd4 na nL nF
          refine store_ok (X := X.suite a ((a, oe4) :: (X.pn ++ pins))) (v := .ref a) S4 hN hi (.inl hln) rfl (fun s5 S5 => ?_) (.inr hln)
          refine wpAny_mono ((hsu a oe4 cls d (X.pn ++ pins) hz4 ⟨_, hd4⟩).run [] s5 _ H' _ S5 (hyes rfl a na)) (fun f s6 hsp => ?_) (fun _ _ z => False.elim z)
          have end_ : ∀ {σ6 : L2.St} {H6 : Hp} {Q : Shared → Prop}, Inv (X.suite a ((a, oe4) :: (X.pn ++ pins))) [] σ6 H6 s6 → (∀ s7, Inv X pins (σ6.set i none) H6 s7 → Q s7) →
              wpAny (model X.prog X.w) X.A (do bindName X.env n .none; unbindBehindTheSuite X.env n pos') (fun _ s7 => Q s7) X.xe s6 := fun {σ6 H6 Q} S6 hq => gone_ok (S6.unsuite ok) hN hi hln hq
          cases f with
          | next => obtain ⟨σ6, H6, S6, q6⟩ := hsp; exact end_ S6 fun s7 J7 => ⟨_, _, J7, q6⟩
          | brk => obtain ⟨σ6, H6, S6, q6⟩ := hsp; exact end_ S6 fun s7 J7 => ⟨_, _, J7, q6⟩
          | cont => obtain ⟨σ6, H6, S6, q6⟩ := hsp; exact end_ S6 fun s7 J7 => ⟨_, _, J7, q6⟩
          | ret u => obtain ⟨v6, σ6, H6, S6, r6, q6⟩ := hsp; exact end_ S6 fun s7 J7 => ⟨_, _, _, J7, r6, q6⟩
        | false =>
          show wpAny _ X.A (handleBy (.ref a) X.env hds2) _ _ _
          exact ih (hno rfl)
    exact go hh w
  · cases f with
    | next => obtain ⟨σ', H', J', q⟩ := hsp; exact wpAny_execs_nil ⟨σ', H', J'.ofTry ok, q⟩
    | brk => obtain ⟨σ', H', J', q⟩ := hsp; exact ⟨σ', H', J'.ofTry ok, q⟩
    | cont => obtain ⟨σ', H', J', q⟩ := hsp; exact ⟨σ', H', J'.ofTry ok, q⟩
    | ret u => obtain ⟨v, σ', H', J', r, q⟩ := hsp; exact ⟨v, σ', H', J'.ofTry ok, r, q⟩
end
/-- except x: return "s" -/
def tsRet (f : Addr → Str) : Addr → Value → Option Addr → TS := fun _ cls d D σ H => ∃ C, cls = .ref C ∧ d = none ∧ D.rt (.str (f C)) H
/-- except x as n: return "s" if isinstance(n, y) else "t" -/
def tsIs (i : Nat) (K : PySem.W.Frag) (y : Addr) (f g : Str) : Addr → Value → Option Addr → TS := fun a cls d D σ H => ∃ (C : Addr) (σ0 : L2.St) (b : Bool), cls = .ref C ∧ d = none ∧ σ = σ0.set i (some (.ref a)) ∧ ExcC K C ∧ PySem.W.kitOne K (.ref C) (.ref y) = some b ∧ D.rt (.str (if b = true then f else g)) H
section
variable {X : Cx}
theorem suite_ret {a : Addr} {pn : List (Addr × Obj)} {cls : Value} {d : Option Addr} {z : Str} {j : Nat} {p pos : Pos} : PSs (X.suite a pn) [.Return (some (.Constant (.str z) j p)) pos] (tsRet (fun _ => z) a cls d) :=
  PSs.imp (pss_one (ps_ret pe_str)) fun D σ H ⟨C, _, _, q⟩ => q
theorem suite_is {a : Addr} {oe : Obj} {pn : List (Addr × Obj)} {cls : Value} {d : Option Addr} {n y z1 z2 : Str} {Y : Addr} {i j1 j2 : Nat} {p1 p2 p3 p4 p5 p6 p7 pos : Pos} (hz : Zc cls d oe) (hf : ∃ vs, oe.data = .fields vs)
    (hi : X.N[i]? = some n) (hv : Vis X.env.scope n) (hd : (n == ("__debug__" : Str)) = false) (hcd : (n == ("__classdict__" : Str)) = false) (hgi : Gl X "isinstance") (hmi : X.mg "isinstance" = none) (hgy : Gl X y) (hmy : X.mg y = some (.ref Y)) (hdy : (y == ("__debug__" : Str)) = false)
    (he : starEach [.Name n p1, .Name y p2] X.env = (false, eval (.Name n p1) X.env) :: starEach [.Name y p2] X.env) (he2 : starEach [.Name y p2] X.env = (false, eval (.Name y p2) X.env) :: starEach [] X.env) (hpl : (backTo p4 (starEach [.Name y p2] X.env)).any (·.1) = false) :
    PSs (X.suite a ((a, oe) :: pn)) [.Return (some (.IfExp (.Call (.Name "isinstance" p3) [.Name n p1, .Name y p2] [] p4) (.Constant (.str z1) j1 p5) (.Constant (.str z2) j2 p6) p7)) pos] (tsIs i X.K Y z1 z2 a cls d) := by
  refine ⟨fun pins s σ H D I ⟨C, σ0, b, e1, e2, e3, EC, k, q⟩ => ?_⟩
  subst e1 e2 e3
  have hlen := I.len
  have il : i < σ0.length := by
    have h1 : i < X.N.length := (List.getElem?_eq_some_iff.mp hi).1
    have h2 : (σ0.set i (some (V.ref a))).length = X.N.length := hlen
    rw [List.length_set] at h2
    omega
  have rule := pss_one (X := X.suite a ((a, oe) :: pn)) (ps_ret (pos := pos) (pe_ifExp (pos := p7) (pt_val (pe_callB (pos := p4) (p := p3) (call_isE EC hz hf) hgi hmi PyProof.Rows.boot_isinstance (pa_cons (pe_var (pos := p1) hi hv hd hcd) (pa_cons (pe_glob (v := .ref Y) (pos := p2) hgy hmy rfl hdy) pa_nil he2) he) (by decide) (by decide) he hpl) (fun _ => rfl))
    (pe_str (x := z1) (j := j1) (pos := p5)) (pe_str (x := z2) (j := j2) (pos := p6))))
  refine rule.run pins s _ H D I ?_
  refine ⟨.ref a, List.getElem?_set_self il, .ref Y, .ref Y, b, rfl, fun u hu => hu, k, b, rfl, ?_⟩
  cases b with
  | true => exact q
  | false => exact q
end
/-- which text is answered for which class -/
def noOw (c : Cells) : Bool := c.all fun x => match x with
  | .ow _ => false
  | _ => true
def tryS (fb : Cells → R Out) (hd : List (Addr × Str)) : Cells → R Out := fun c => if noOw c = true then (match fb c with
  | .exc C => match hd.lookup C with
    | some z => .ok (.rt (.str z))
    | none => .bad
  | r => r) else .bad
theorem lookup_memA {α : Type} {z : Addr} {v : α} : ∀ {l : List (Addr × α)}, l.lookup z = some v → (z, v) ∈ l
  | (k, w) :: r, h => by
    rw [List.lookup_cons] at h
    cases e : z == k with
    | true => rw [e] at h; cases h; rw [beq_iff_eq.mp e]; exact List.mem_cons_self
    | false => rw [e] at h; exact List.mem_cons_of_mem _ (lookup_memA h)
/-- the clauses answer z for C -/
inductive Ans (K : PySem.W.Frag) (C : Addr) (z : Str) : List ClD → Prop
  | ret {c : Value} {l : List ClD} (h : PySem.W.exmOne K (.ref C) c = some true) : Ans K C z ((c, none, tsRet fun _ => z) :: l)
  | is {c : Value} {i : Nat} {y : Addr} {f g : Str} {b : Bool} {l : List ClD} (h : PySem.W.exmOne K (.ref C) c = some true) (ec : ExcC K C) (hk : PySem.W.kitOne K (.ref C) (.ref y) = some b) (hz : (if b = true then f else g) = z) : Ans K C z ((c, some i, tsIs i K y f g) :: l)
  | next {c : Value} {i : Option Nat} {ts : Addr → Value → Option Addr → TS} {l : List ClD} (h : PySem.W.exmOne K (.ref C) c = some false) (r : Ans K C z l) : Ans K C z ((c, i, ts) :: l)
theorem Ans.w {K : PySem.W.Frag} {C : Addr} {z : Str} {l : List ClD} {Wout : WX} {D' : Ends} (a : Ans K C z l) (σ : L2.St) (H : Hp) (h : D'.rt (.str z) H) : wMix K Wout D' l (.ref C) none σ H := by
  induction a with
  | ret e => exact ⟨true, e, fun _ a _ => ⟨C, rfl, rfl, h⟩, (fun z => by cases z)⟩
  | is e ec hk hz => exact ⟨true, e, fun _ a _ => ⟨C, σ, _, rfl, rfl, rfl, ec, hk, by rw [hz]; exact h⟩, fun z => by cases z⟩
  | next e r ih => exact ⟨false, e, (fun z => by cases z), fun _ => ih⟩
theorem es_try {X : Cx} {W : WX} {body : List Stmt} {h₀ : ExceptHandler} {hds : List ExceptHandler} {l : List ClD} {pos : Pos} {fb : Cells → R Out} {hd : List (Addr × Str)} (hs : X.stack = X.env :: X.outer) (hf : X.env.frame = some X.env.locals) (tk : Takes X W)
    (hb : ∀ (W : WX) (pn : List (Addr × Obj)) (xe : Value → Shared → Prop), Takes (X.tr pn xe) W → PassesOwn (model X.prog X.w) X.A X.env xe → ESs (X.tr pn xe) W body fb)
    (hh : HdsMix X (h₀ :: hds) l) (ha : ∀ q ∈ hd, Ans X.K q.1 q.2 l) : ES X W (.Try body (h₀ :: hds) [] [] pos) (tryS fb hd) :=
  PS.imp (ps_try_mix (tb := fun W => tS X.K W fb) hs hf tk hb hh) fun D' σ H ⟨G0, H0, G, env, S, P⟩ => by
    unfold tryS at P
    split at P
    · rename_i hn
      have no : ∀ (i : Nat) (d : D), env[i]? ≠ some (.ow d) := fun i d e => by
        have := List.all_eq_true.mp hn _ (List.mem_of_getElem? e)
        cases this
      refine ⟨G, H, G, env, ⟨S.sr, .refl S.sr.sub, fun i d a e _ => absurd e (no i d)⟩, ?_⟩
      have back : ∀ {G' H' : Hp} {σ' : L2.St} {c : Cells}, SB X.K G H G' H' σ' c → SB X.K G0 H0 G' H' σ' c := fun {G' H' σ' c} s => ⟨s.sr, S.stp.trans s.stp, fun i d a e q => S.stp.keep.free (s.own i d a e q)⟩
      cases hr : fb env with
      | bad => rw [hr] at P; exact P
      | ok o =>
        rw [hr] at P
        cases o with
        | nx c => exact fun σ' G' H' l s => P σ' G' H' l (back s)
        | rt d => exact fun v G' H' s r => P v G' H' (S.stp.trans s) r
        | bk c => exact fun σ' G' H' l s => P σ' G' H' l (back s)
        | ct c => exact fun σ' G' H' l s => P σ' G' H' l (back s)
      | exc C =>
        rw [hr] at P
        cases hl : hd.lookup C with
        | none => simp only [hl] at P; exact False.elim P
        | some z =>
          simp only [hl] at P
          intro σ' H' sm
          refine (ha (C, z) (lookup_memA hl)).w σ' H' ?_
          have st : Stp G H G H' := ⟨.refl _, sm, (fun b o e => .inl ⟨o, e⟩), fun b o e => sm _ _ (S.sr.sub _ _ e)⟩
          exact P (.str z) G H' (S.stp.trans st) (Rep.str_iff.mpr rfl)
    · exact False.elim P
end PL
end S20
noncomputable section S21
namespace PL
open PySem PySem.Spec PyProof.Rows L2
/-- what the head tells -/
structure Top (fa : List He.Fa) (fn : List He.DefD) (ts : List He.Tab) (ex : PySem.W.Frag → Bool) (w : World) (K : PySem.W.Frag) (mg : Str → Option Value) : Prop where
  ex_ : ∃ h : Heap, K.In h ∧ h.Ns mainGlobals mg ∧ He.SaysX fa fn ts [] ex w h K
section
variable {fa : List He.Fa} {fn : List He.DefD} {ts : List He.Tab} {ex : PySem.W.Frag → Bool} {w : World} {K : PySem.W.Frag} {mg : Str → Option Value}
theorem Top.fact (T : Top fa fn ts ex w K mg) (i : Nat) {f : He.Fa} (h : fa[i]? = some f) : f.ok K = true := by
  obtain ⟨hp, X, G, c⟩ := T.ex_
  exact c.t.d.fact i h
theorem Top.glo (T : Top fa fn ts ex w K mg) (i : Nat) {x : Str} (h : fa[i]? = some (.glo x)) : mg x = some (.ref (He.ga K x)) := by
  obtain ⟨hp, X, G, c⟩ := T.ex_
  exact He.glo_ok X G (c.t.d.fact i h)
theorem Top.free (T : Top fa fn ts ex w K mg) (i : Nat) {x : Str} (h : fa[i]? = some (.free x)) : mg x = none := by
  obtain ⟨hp, X, G, c⟩ := T.ex_
  exact He.free_ok X G (c.t.d.fact i h)
theorem Top.int (T : Top fa fn ts ex w K mg) (i : Nat) {x : Str} {n : Int} (h : fa[i]? = some (.int x n)) : ∃ t, mg x = some (.int n t) := by
  obtain ⟨hp, X, G, c⟩ := T.ex_
  exact He.int_ok X G (c.t.d.fact i h)
theorem Top.str (T : Top fa fn ts ex w K mg) (i : Nat) {x z : Str} (h : fa[i]? = some (.str x z)) : ∃ t, mg x = some (.str z t) := by
  obtain ⟨hp, X, G, c⟩ := T.ex_
  exact He.str_ok X G (c.t.d.fact i h)
theorem Top.cls (T : Top fa fn ts ex w K mg) (i : Nat) {x : Str} (h : fa[i]? = some (.cls x)) : Cls K (He.ga K x) := He.cls_ok (T.fact i h)
theorem Top.noat (T : Top fa fn ts ex w K mg) (i : Nat) {x f : Str} (h : fa[i]? = some (.noat x f)) : NoAttr K (He.ga K x) f := He.noat_ok (T.fact i h)
theorem Top.meth (T : Top fa fn ts ex w K mg) (i : Nat) {x m : Str} (h : fa[i]? = some (.meth x m)) : Meth K (He.ga K x) m (He.ma K (He.ga K x) m) := He.meth_ok (T.fact i h)
theorem Top.mkr (T : Top fa fn ts ex w K mg) (i : Nat) {x : Str} (h : fa[i]? = some (.mkr x)) : Mk K (He.ga K x) (He.ma K (He.ga K x) "__init__") := He.mkr_ok (T.fact i h)
theorem Top.exc (T : Top fa fn ts ex w K mg) (i : Nat) {x : Str} (h : fa[i]? = some (.exc x)) : PySem.W.excIn K (He.ga K x) He.veBase "ValueError.__new__" = true ∧ PySem.W.keepIn K (.ref (He.ga K x)) = true ∧ PySem.W.subIn K (.ref (He.ga K x)) (.type "BaseException") = some true ∧ PySem.W.typeIn K (.ref (He.ga K x)) = some (.type "type") := He.exc_ok (T.fact i h)
theorem Top.exm (T : Top fa fn ts ex w K mg) (i : Nat) {x y : Str} {b : Bool} (h : fa[i]? = some (.exm x y b)) : PySem.W.exmOne K (.ref (He.ga K x)) (.ref (He.ga K y)) = some b := He.exm_ok (T.fact i h)
theorem Top.more (T : Top fa fn ts ex w K mg) : ex K = true := by
  obtain ⟨hp, X, G, c⟩ := T.ex_
  exact c.more
theorem Top.tab (T : Top fa fn ts ex w K mg) (i : Nat) {t : He.Tab} (h : ts[i]? = some t) : ∃ es n, KDict K w (t.1 K) es n := by
  obtain ⟨hp, X, G, c⟩ := T.ex_
  exact c.t.tab i h
theorem Top.def_ (T : Top fa fn ts ex w K mg) (i : Nat) {d : He.DefD} (h : fn[i]? = some d) : ∃ fd, FunD K d.name d.qual d.params d.body d.scope (d.dvs K) (d.kws K) (He.fAd K d.at_) fd := by
  obtain ⟨hp, X, G, c⟩ := T.ex_
  exact c.t.d.def_ i h
end
structure Cal (P : Program) (w : World) (K : PySem.W.Frag) (mg : Str → Option Value) (base : Heap) (k : Nat) (x : Str) (n : Nat) (m : List D → R D) : Prop where
  ex : ∃ (f : Addr) (fd : FuncData) (ps : List Str), FnOk P w K mg base (L2.CX P w) k f fd ps (spOf K n m) ∧ mg x = some (.ref f) ∧ PySem.W.keepIn K (.ref f) = true ∧ Binds K fd ps []
structure Met (P : Program) (w : World) (K : PySem.W.Frag) (mg : Str → Option Value) (base : Heap) (k : Nat) (C : Addr) (x : Str) (n : Nat) (m : List D → R D) : Prop where
  ex : ∃ (f : Addr) (fd : FuncData) (ps : List Str), FnOk P w K mg base (L2.CX P w) k f fd ps (spOf K n m) ∧ Meth K C x f ∧ Binds K fd ps []
structure Mak (P : Program) (w : World) (K : PySem.W.Frag) (mg : Str → Option Value) (base : Heap) (k : Nat) (x : Str) (C : Addr) (n : Nat) (m : List D → R (List (Str × D))) : Prop where
  ex : ∃ (f : Addr) (fd : FuncData) (ps : List Str), FnOk P w K mg base (L2.CX P w) k f fd ps (spInit K C n m) ∧ Mk K C f ∧ mg x = some (.ref C) ∧ Binds K fd ps []
section
variable {P : Program} {w : World} {K : PySem.W.Frag} {mg : Str → Option Value} {base : Heap} {j k n : Nat} {x : Str} {m m' : List D → R D} {C : Addr}
theorem Cal.mono (c : Cal P w K mg base j x n m) (h : j ≤ k) : Cal P w K mg base k x n m := by
  obtain ⟨f, fd, ps, F, r⟩ := c.ex
  exact ⟨f, fd, ps, F.mono h, r⟩
theorem Met.mono (c : Met P w K mg base j C x n m) (h : j ≤ k) : Met P w K mg base k C x n m := by
  obtain ⟨f, fd, ps, F, r⟩ := c.ex
  exact ⟨f, fd, ps, F.mono h, r⟩
theorem Mak.mono {m : List D → R (List (Str × D))} (c : Mak P w K mg base j x C n m) (h : j ≤ k) : Mak P w K mg base k x C n m := by
  obtain ⟨f, fd, ps, F, r⟩ := c.ex
  exact ⟨f, fd, ps, F.mono h, r⟩
/-- by a known answer -/
theorem Cal.to (c : Cal P w K mg base k x n m) (h : ∀ ds, ds.length = n → m' ds ≠ .bad → m ds = m' ds) : Cal P w K mg base k x n m' := by
  obtain ⟨f, fd, ps, F, r⟩ := c.ex
  exact ⟨f, fd, ps, FnOk.to F h, r⟩
theorem Met.to (c : Met P w K mg base k C x n m) (h : ∀ ds, ds.length = n → m' ds ≠ .bad → m ds = m' ds) : Met P w K mg base k C x n m' := by
  obtain ⟨f, fd, ps, F, r⟩ := c.ex
  exact ⟨f, fd, ps, FnOk.to F h, r⟩
variable {st : Stmt} {f : Addr} {fd : FuncData} {N ps : List Str} {fb : Cells → R Out}
theorem cal_mk (F : FunD K x x (defArgs st) (defBody st) (defScope st) [] [] f fd) (hm : mg x = some (.ref f))
    (hb : ∀ (kV doc pm : Value) (an : Option Addr) (cdv ct : Value) (us : List Value), us.length = ps.length → bindArgs (PySem.W.fnOf x x (defArgs st) (defBody st) (defScope st) .none kV doc pm an cdv ct) ⟨us, []⟩ = pure (ps.zip us)) (S : FnScope N ps (defScope st))
    (h : ∀ (cdv : Value) (A : Around) (outer : List Env) (s : Shared) (H : Hp) (E : XK), Room k (A.deeper (envOfC x (defScope st) s.heap.objs.size f cdv)) →
      ESs (cxOf (L2.CX P w) P w K mg base N x (defScope st) f cdv A outer s H E) (WD E) (defBody st) fb) : Cal P w K mg base (k + 1) x ps.length (fun ds => endR (fb (cellsN N ds))) :=
  ⟨f, fd, ps, fn_pl F S h, hm, F.kp, F.bindsN hb⟩
theorem met_mk {qual : Str} (F : FunD K x qual (defArgs st) (defBody st) (defScope st) [] [] f fd) (hm : Meth K C x f)
    (hb : ∀ (kV doc pm : Value) (an : Option Addr) (cdv ct : Value) (us : List Value), us.length = ps.length → bindArgs (PySem.W.fnOf x qual (defArgs st) (defBody st) (defScope st) .none kV doc pm an cdv ct) ⟨us, []⟩ = pure (ps.zip us)) (S : FnScope N ps (defScope st))
    (h : ∀ (cdv : Value) (A : Around) (outer : List Env) (s : Shared) (H : Hp) (E : XK), Room k (A.deeper (envOfC qual (defScope st) s.heap.objs.size f cdv)) →
      ESs (cxOf (L2.CX P w) P w K mg base N qual (defScope st) f cdv A outer s H E) (WD E) (defBody st) fb) : Met P w K mg base (k + 1) C x ps.length (fun ds => endR (fb (cellsN N ds))) :=
  ⟨f, fd, ps, fn_pl F S h, hm, F.bindsN hb⟩
theorem mak_mk {qual y : Str} {l : List (Str × (Cells → R D))} (F : FunD K x qual (defArgs st) (defBody st) (defScope st) [] [] f fd) (hM : Mk K C f) (hm : mg y = some (.ref C))
    (hb : ∀ (kV doc pm : Value) (an : Option Addr) (cdv ct : Value) (us : List Value), us.length = ps.length → bindArgs (PySem.W.fnOf x qual (defArgs st) (defBody st) (defScope st) .none kV doc pm an cdv ct) ⟨us, []⟩ = pure (ps.zip us)) (S : FnScope N ps (defScope st)) (hn : ps.length = n + 1) (hl : l.length < 1000)
    (h : ∀ (cdv : Value) (A : Around) (outer : List Env) (s : Shared) (H : Hp) (E : XK), Room k (A.deeper (envOfC qual (defScope st) s.heap.objs.size f cdv)) →
      EF (cxOf (L2.CX P w) P w K mg base N qual (defScope st) f cdv A outer s H E) (WD E) C (defBody st) l) : Mak P w K mg base (k + 1) y C n (fun ds => initV l (.un :: (cellsN N (.none :: ds)).drop 1) []) :=
  ⟨f, fd, ps, fn_init F S hn hl h, hM, hm, F.bindsN hb⟩
/-- a def of which nothing is known -/
theorem cal_bad (F : FunD K x x (defArgs st) (defBody st) (defScope st) [] [] f fd) (hm : mg x = some (.ref f))
    (hb : ∀ (kV doc pm : Value) (an : Option Addr) (cdv ct : Value) (us : List Value), us.length = ps.length → bindArgs (PySem.W.fnOf x x (defArgs st) (defBody st) (defScope st) .none kV doc pm an cdv ct) ⟨us, []⟩ = pure (ps.zip us)) : Cal P w K mg base k x ps.length (fun _ => .bad) :=
  ⟨f, fd, ps, ⟨fun vs H Q E h => h.1, fun A outer s H args us vs Q E hr he hb hv hs => by obtain ⟨_, G, ds, _, _, z⟩ := hs; exact False.elim z⟩, hm, F.kp, F.bindsN hb⟩
end
section
variable {X : Cx} {W : WX} {e o : Expr} {es : List Expr} {pos : Pos} {fa : Cells → R (List D)} {k n : Nat} {x : Str} {m : List D → R D}
theorem ev_cal {p : Pos} (c : Cal X.prog X.w X.K X.mg X.base k x n m) (hr : Room k X.A) (hg : Gl X x) (tk : Takes X W) (ha : EA X W (e :: es) fa) (hdb : (x == ("__debug__" : Str)) = false) (he : starEach (e :: es) X.env = (false, eval e X.env) :: starEach es X.env)
    (hpl : (backTo pos (starEach es X.env)).any (·.1) = false) : EV X W (.Call (.Name x p) (e :: es) [] pos) (callD n m fa) := by
  obtain ⟨f, fd, ps, F, hm, hk, hb⟩ := c.ex
  exact ev_call F hr hg hm hk hb tk ha hdb he hpl
theorem ev_met {pl : Sem Bool} {C : Addr} {apos : Pos} {fo : Cells → R D} (c : Met X.prog X.w X.K X.mg X.base k C x n m) (hC : Cls X.K C) (ho : EV X W o fo) (hr : Room k X.A) (ha : EA X W (e :: es) fa)
    (hst : starEach (e :: es) X.env = (false, eval e X.env) :: starEach es X.env) (hpl : (backTo pos (starEach es X.env)).any (·.1) = false)
    (ht : eval (.Call (.Attribute o x apos) (e :: es) [] pos) X.env = (do
      let ov ← eval o X.env
      standAt apos.atName
      let (f, first) ← holding [ov] (getMethod ov x pl)
      callWith pos f first (backTo pos (starEach (e :: es) X.env)) (backToKw pos (keywordEach [] X.env)))) :
    EV X W (.Call (.Attribute o x apos) (e :: es) [] pos) (methD C x n m fo fa) := by
  obtain ⟨f, fd, ps, F, hm, hb⟩ := c.ex
  exact ev_meth ho hC hm F hr hb ha hst hpl ht
theorem ev_met0 {pl : Sem Bool} {C : Addr} {apos : Pos} {fo : Cells → R D} (c : Met X.prog X.w X.K X.mg X.base k C x 1 m) (hC : Cls X.K C) (ho : EV X W o fo) (hr : Room k X.A)
    (ht : eval (.Call (.Attribute o x apos) [] [] pos) X.env = (do
      let ov ← eval o X.env
      standAt apos.atName
      let (f, first) ← holding [ov] (getMethod ov x pl)
      callWith pos f first (backTo pos (starEach [] X.env)) (backToKw pos (keywordEach [] X.env)))) :
    EV X W (.Call (.Attribute o x apos) [] [] pos) (meth0D C x m fo) := by
  obtain ⟨f, fd, ps, F, hm, hb⟩ := c.ex
  exact ev_meth0 ho hC hm F hr hb ht
theorem ev_mak {C : Addr} {p : Pos} {m : List D → R (List (Str × D))} (c : Mak X.prog X.w X.K X.mg X.base k x C n m) (hr : Room (k + 1) X.A) (hg : Gl X x) (tk : Takes X W) (hW : ∀ cls d σ σ' H, W cls d σ H → W cls d σ' H) (ha : EA X W (e :: es) fa) (hdb : (x == ("__debug__" : Str)) = false)
    (he : starEach (e :: es) X.env = (false, eval e X.env) :: starEach es X.env) (hpl : (backTo pos (starEach es X.env)).any (·.1) = false) : EV X W (.Call (.Name x p) (e :: es) [] pos) (makeD C n m fa) := by
  obtain ⟨f, fd, ps, F, M, hm, hb⟩ := c.ex
  exact ev_make M F hr hg hm hb tk hW ha hdb he hpl
end
end PL
end S21
noncomputable section S22
namespace PL
open PySem PySem.Spec PyProof.Rows L2
theorem b_len : bootBuiltins "len" = some (.builtin "len") := by decide +kernel
theorem b_abs : bootBuiltins "abs" = some (.builtin "abs") := by decide +kernel
theorem b_max : bootBuiltins "max" = some (.builtin "max") := by decide +kernel
theorem b_min : bootBuiltins "min" = some (.builtin "min") := by decide +kernel
theorem b_sum : bootBuiltins "sum" = some (.builtin "sum") := by decide +kernel
theorem b_all : bootBuiltins "all" = some (.builtin "all") := by decide +kernel
theorem b_any : bootBuiltins "any" = some (.builtin "any") := by decide +kernel
theorem b_sorted : bootBuiltins "sorted" = some (.builtin "sorted") := by decide +kernel
theorem b_int : bootBuiltins "int" = some (.type "int") := by decide +kernel
theorem b_list : bootBuiltins "list" = some (.type "list") := by decide +kernel
theorem b_tuple : bootBuiltins "tuple" = some (.type "tuple") := by decide +kernel
theorem b_isinstance : bootBuiltins "isinstance" = some (.builtin "isinstance") := by decide +kernel
theorem b_bool : bootBuiltins "bool" = some (.type "bool") := by decide +kernel
theorem b_str : bootBuiltins "str" = some (.type "str") := by decide +kernel
theorem b_dict : bootBuiltins "dict" = some (.type "dict") := by decide +kernel
theorem b_set : bootBuiltins "set" = some (.type "set") := by decide +kernel
section
variable {X : Cx} {W : WX} {e : Expr} {es : List Expr} {pos p : Pos} {g : Cells → R (List D)}
theorem eb_lenF (hc : X.calm = true) (hu : X.A.units + 64 < cLine) (hg : Gl X "len") (hm : X.mg "len" = none) (ha : EAB X W (e :: es) g) (he : starEach (e :: es) X.env = (false, eval e X.env) :: starEach es X.env) (hpl : (backTo pos (starEach es X.env)).any (·.1) = false) :
    EV X W (.Call (.Name "len" p) (e :: es) [] pos) (fun c => g c >>= oLen) := ev_callB call_lenAll does_len hg hm b_len ha (by decide) (by decide) he hpl
theorem eb_absF (hc : X.calm = true) (hu : X.A.units + 64 < cLine) (hg : Gl X "abs") (hm : X.mg "abs" = none) (ha : EAB X W (e :: es) g) (he : starEach (e :: es) X.env = (false, eval e X.env) :: starEach es X.env) (hpl : (backTo pos (starEach es X.env)).any (·.1) = false) :
    EV X W (.Call (.Name "abs" p) (e :: es) [] pos) (fun c => g c >>= oAbs) := ev_callB call_abs does_abs hg hm b_abs ha (by decide) (by decide) he hpl
theorem eb_maxF (hc : X.calm = true) (hu : X.A.units + 64 < cLine) (hg : Gl X "max") (hm : X.mg "max" = none) (ha : EAB X W (e :: es) g) (he : starEach (e :: es) X.env = (false, eval e X.env) :: starEach es X.env) (hpl : (backTo pos (starEach es X.env)).any (·.1) = false) :
    EV X W (.Call (.Name "max" p) (e :: es) [] pos) (fun c => g c >>= oMax) := ev_callB (call_maxAll hc) does_max hg hm b_max ha (by decide) (by decide) he hpl
theorem eb_minF (hc : X.calm = true) (hu : X.A.units + 64 < cLine) (hg : Gl X "min") (hm : X.mg "min" = none) (ha : EAB X W (e :: es) g) (he : starEach (e :: es) X.env = (false, eval e X.env) :: starEach es X.env) (hpl : (backTo pos (starEach es X.env)).any (·.1) = false) :
    EV X W (.Call (.Name "min" p) (e :: es) [] pos) (fun c => g c >>= oMin) := ev_callB (call_minAll hc) does_min hg hm b_min ha (by decide) (by decide) he hpl
theorem eb_sumF (hc : X.calm = true) (hu : X.A.units + 64 < cLine) (hg : Gl X "sum") (hm : X.mg "sum" = none) (ha : EAB X W (e :: es) g) (he : starEach (e :: es) X.env = (false, eval e X.env) :: starEach es X.env) (hpl : (backTo pos (starEach es X.env)).any (·.1) = false) :
    EV X W (.Call (.Name "sum" p) (e :: es) [] pos) (fun c => g c >>= oSum) := ev_callB (cr_sum hc) does_sum hg hm b_sum ha (by decide) (by decide) he hpl
theorem eb_allF (hc : X.calm = true) (hu : X.A.units + 64 < cLine) (hg : Gl X "all") (hm : X.mg "all" = none) (ha : EAB X W (e :: es) g) (he : starEach (e :: es) X.env = (false, eval e X.env) :: starEach es X.env) (hpl : (backTo pos (starEach es X.env)).any (·.1) = false) :
    EV X W (.Call (.Name "all" p) (e :: es) [] pos) (fun c => g c >>= oAll) := ev_callB (cr_all hc) does_all hg hm b_all ha (by decide) (by decide) he hpl
theorem eb_anyF (hc : X.calm = true) (hu : X.A.units + 64 < cLine) (hg : Gl X "any") (hm : X.mg "any" = none) (ha : EAB X W (e :: es) g) (he : starEach (e :: es) X.env = (false, eval e X.env) :: starEach es X.env) (hpl : (backTo pos (starEach es X.env)).any (·.1) = false) :
    EV X W (.Call (.Name "any" p) (e :: es) [] pos) (fun c => g c >>= oAny) := ev_callB (cr_any hc) does_any hg hm b_any ha (by decide) (by decide) he hpl
theorem eb_sortedF (hc : X.calm = true) (hu : X.A.units + 64 < cLine) (hg : Gl X "sorted") (hm : X.mg "sorted" = none) (ha : EAB X W (e :: es) g) (he : starEach (e :: es) X.env = (false, eval e X.env) :: starEach es X.env) (hpl : (backTo pos (starEach es X.env)).any (·.1) = false) :
    EV X W (.Call (.Name "sorted" p) (e :: es) [] pos) (fun c => g c >>= oSorted) := ev_callB (call_sortAll hc hu) does_sorted hg hm b_sorted ha (by decide) (by decide) he hpl
theorem eb_intF (hc : X.calm = true) (hu : X.A.units + 64 < cLine) (hg : Gl X "int") (hm : X.mg "int" = none) (ha : EAB X W (e :: es) g) (he : starEach (e :: es) X.env = (false, eval e X.env) :: starEach es X.env) (hpl : (backTo pos (starEach es X.env)).any (·.1) = false) :
    EV X W (.Call (.Name "int" p) (e :: es) [] pos) (fun c => g c >>= oInt) := ev_callTy call_int1 does_int hg hm b_int ha (by decide) (by decide) he hpl
theorem eb_listF (hc : X.calm = true) (hu : X.A.units + 64 < cLine) (hg : Gl X "list") (hm : X.mg "list" = none) (ha : EAB X W (e :: es) g) (he : starEach (e :: es) X.env = (false, eval e X.env) :: starEach es X.env) (hpl : (backTo pos (starEach es X.env)).any (·.1) = false) :
    EV X W (.Call (.Name "list" p) (e :: es) [] pos) (fun c => g c >>= oList) := ev_callTy call_list_of does_list hg hm b_list ha (by decide) (by decide) he hpl
theorem eb_tupleF (hc : X.calm = true) (hu : X.A.units + 64 < cLine) (hg : Gl X "tuple") (hm : X.mg "tuple" = none) (ha : EAB X W (e :: es) g) (he : starEach (e :: es) X.env = (false, eval e X.env) :: starEach es X.env) (hpl : (backTo pos (starEach es X.env)).any (·.1) = false) :
    EV X W (.Call (.Name "tuple" p) (e :: es) [] pos) (fun c => g c >>= oTuple) := ev_callTy call_tuple_of does_tuple hg hm b_tuple ha (by decide) (by decide) he hpl
end
theorem PI.or {X : Cx} {tg e : Expr} {t t' : TI} (h : PI X tg e t) (h' : PI X tg e t') : PI X tg e (fun σ H Q => t σ H Q ∨ t' σ H Q) := ⟨fun pins s σ H Q I q => q.elim (h.run pins s σ H Q I) (h'.run pins s σ H Q I)⟩
def asIt (d : D) : R (List D) := match d with
  | .str _ => asS d
  | .tuple _ => asT d
  | .ftuple _ => asT d
  | d => asL d
section
variable {X : Cx} {W : WX} {tg e : Expr} {fe : Cells → R D}
theorem ei_any (he : EV X W e fe) : EI X W tg e (fun c => fe c >>= asIt) :=
  PI.imp (PI.or (ei_list (tg := tg) he) (PI.or (ei_tup (tg := tg) he) (ei_str (tg := tg) he))) fun σ H R' ⟨G, env, S, P⟩ => by
    have P : Post G H W σ (fun G1 _ items J => ItRel X.K G1 items J) (fe env >>= asIt) R' := P
    have go : ∀ (k : D → R (List D)), (fe env >>= asIt) = (fe env >>= k) → tI X.K W (fun c => fe c >>= k) σ H R' := fun k e => ⟨G, env, S, by
      show Post G H W σ _ (fe env >>= k) R'
      rw [← e]; exact P⟩
    cases hd : fe env with
    | bad => rw [hd] at P; exact False.elim P
    | exc C => exact .inl (go asL (by rw [hd]; rfl))
    | ok d =>
      cases d with
      | str x => exact .inr (.inr (go asS (by rw [hd]; rfl)))
      | tuple x => exact .inr (.inl (go asT (by rw [hd]; rfl)))
      | ftuple x => exact .inr (.inl (go asT (by rw [hd]; rfl)))
      | _ => exact .inl (go asL (by rw [hd]; rfl))
end
section
variable {X : Cx} {W : WX} {elt tg iter : Expr} {ifs : List Expr} {scope : Scope} {pos : Pos} {fi : Cells → R (List D)} {g : D → Cells → Option Cells} {t : Cells → R Bool} {f : Cells → R D} {is : List Nat}
/-- name = [..] on one line, never to grow -/
theorem es_setLcF (i : Nat) {own : List (Str × Nat)} {y : Str} {py spos : Pos} (hc : X.calm = true) (hN : X.N.Nodup) (hy : X.N[i]? = some y) (hyl : X.env.scope.names.lookup y = some .local)
    (hsw : swapsWith (.ListComp elt [⟨tg, iter, ifs, 0⟩] scope pos) (some (.Name y py)) spos.line X.env = pure true) (ok : BlkOk X.N X.env.scope scope own) (hi : EI X W tg iter fi)
    (hg : ∀ (s : Shared) (H : Hp) (C : Addr) (cl : List (Str × Addr)) (fp : List Addr), EG (X.blk s H scope (compEnvC scope cl C X.env) fp) tg is g)
    (ht : ∀ (s : Shared) (H : Hp) (C : Addr) (cl : List (Str × Addr)) (fp : List Addr), ETs (X.blk s H scope (compEnvC scope cl C X.env) fp) W0 ifs t)
    (he : ∀ (s : Shared) (H : Hp) (C : Addr) (cl : List (Str × Addr)) (fp : List Addr), EV (X.blk s H scope (compEnvC scope cl C X.env) fp) W0 elt f)
    (hv : ∀ i ∈ is, i ∈ own.map (·.2)) (hs : ∀ x, foldedSetIterable iter X.env x = pure x) :
    ES X W (.Assign [.Name y py] (.ListComp elt [⟨tg, iter, ifs, 0⟩] scope pos) spos) (fun c => compV (own.map (·.2)) fi g t f c >>= fun d => .ok (.nx (c.set i (.fz d)))) :=
  PS.imp (ps_setLc hc hN hy hyl hsw hi ok hg ht he hs) fun D' σ H ⟨G0, H0, G, env, S, P⟩ => comp_run hv S.sr <|
    PostS.seq (Rel1 := RL X.K H) (x := compV (own.map (·.2)) fi g t f env) (k := fun d => .ok (.nx (env.set i (.fz d)))) S P fun d v G1 H1 _ s1 S1 r1 P1 => by
      obtain ⟨q, rfl, n0, nG, o⟩ := r1
      by_cases hl : i < env.length
      · have S2 := S1.setOw (i := i) (S.stp.keep.free n0) nG o fun j e _ h => S.fresh (H1 := H) n0 j e h
        obtain ⟨G2, l2, S3⟩ := S2.freeze (List.getElem?_set_self hl)
        rw [List.set_set] at S3
        exact P1 _ G2 H1 l2 S3
      · have e1 : ∀ x : Cell, env.set i x = env := fun x => List.set_eq_of_length_le (Nat.le_of_not_lt hl)
        have e2 : ∀ x : Option V, σ.set i x = σ := fun x => List.set_eq_of_length_le (by rw [S.sr.len]; exact Nat.le_of_not_lt hl)
        rw [e1] at P1
        show D'.nx (σ.set i (some (.ref q))) H1
        rw [e2]
        exact P1 _ G1 H1 (.refl G1) S1
end
end PL
end S22
noncomputable section S23
namespace PL
open PySem PySem.Spec PyProof.Rows L2
def exccB (K : PySem.W.Frag) (D : Addr) : Bool := He.eqO (PySem.W.findIn K (.ref D) "__getattribute__") (some (some (.builtin "BaseException.__getattribute__"))) && (He.eqO (PySem.W.findIn K (.ref D) "__getattr__") (some none) && (decide (PySem.W.subIn K (.ref D) (.type "BaseException") = some true) && (PySem.W.hasDictIn K D &&
  (He.eqO (PySem.W.findIn K (.ref D) "__class__") (some (some (.builtin "object.__class__"))) && (He.eqO (PySem.W.specialIn K (.builtin "object.__class__") "__get__") (some (some (.builtin "getset_descriptor.__get__"))) && (decide (PySem.W.takesIn K (.builtin "object.__class__") = some true) && decide (PySem.W.mroIn K D (.type "object") = some true)))))))
theorem exccB_ok {K : PySem.W.Frag} {D : Addr} (h : exccB K D = true) : ExcC K D := by
  obtain ⟨h1, h⟩ := He.ba h
  obtain ⟨h2, h⟩ := He.ba h
  obtain ⟨h3, h⟩ := He.ba h
  obtain ⟨h4, h⟩ := He.ba h
  obtain ⟨h5, h⟩ := He.ba h
  obtain ⟨h6, h⟩ := He.ba h
  obtain ⟨h7, h8⟩ := He.ba h
  exact ⟨He.eqO_ok h1, He.eqO_ok h2, of_decide_eq_true h3, h4, He.eqO_ok h5, He.eqO_ok h6, of_decide_eq_true h7, of_decide_eq_true h8⟩
theorem all_cons {K : PySem.W.Frag} {l : List ClD} {C : Addr} {z : Str} {hd : List (Addr × Str)} (h : Ans K C z l) (r : ∀ q ∈ hd, Ans K q.1 q.2 l) : ∀ q ∈ (C, z) :: hd, Ans K q.1 q.2 l := fun q hq => by
  rcases List.mem_cons.mp hq with rfl | hq
  · exact h
  · exact r q hq
def oAddI : D → D → R D
  | .int i, .int j => .ok (.int (i + j))
  | _, _ => .bad
theorem does_addI {X : Cx} {W : WX} : Does2 X W (rI0 fun i j => .int (i + j)) oAddI := by
  intro G H σ Q d e v u s r1 r2 P
  unfold oAddI at P
  split at P
  · exact ⟨_, _, r1.int, r2.int, P.int s⟩
  · exact False.elim P
end PL
end S23
noncomputable section S24
namespace PL
open PySem PySem.Spec PyProof.Rows L2
@[simp] theorem oIsi_int_none : oIsi "int" .none = .ok (.bool false) := by unfold oIsi tyName; rfl
@[simp] theorem oIsi_int_bool {b : Bool} : oIsi "int" (.bool b) = .ok (.bool true) := by unfold oIsi tyName; rfl
@[simp] theorem oIsi_int_int {i : Int} : oIsi "int" (.int i) = .ok (.bool true) := by unfold oIsi tyName; rfl
@[simp] theorem oIsi_int_str {x : Str} : oIsi "int" (.str x) = .ok (.bool false) := by unfold oIsi tyName; rfl
@[simp] theorem oIsi_int_list {xs : List D} : oIsi "int" (.list xs) = .ok (.bool false) := by unfold oIsi tyName; rfl
@[simp] theorem oIsi_int_tuple {xs : List D} : oIsi "int" (.tuple xs) = .ok (.bool false) := by unfold oIsi tyName; rfl
@[simp] theorem oIsi_int_ftuple {xs : List D} : oIsi "int" (.ftuple xs) = .ok (.bool false) := by unfold oIsi tyName; rfl
@[simp] theorem oIsi_str_none : oIsi "str" .none = .ok (.bool false) := by unfold oIsi tyName; rfl
@[simp] theorem oIsi_str_bool {b : Bool} : oIsi "str" (.bool b) = .ok (.bool false) := by unfold oIsi tyName; rfl
@[simp] theorem oIsi_str_int {i : Int} : oIsi "str" (.int i) = .ok (.bool false) := by unfold oIsi tyName; rfl
@[simp] theorem oIsi_str_str {x : Str} : oIsi "str" (.str x) = .ok (.bool true) := by unfold oIsi tyName; rfl
@[simp] theorem oIsi_str_list {xs : List D} : oIsi "str" (.list xs) = .ok (.bool false) := by unfold oIsi tyName; rfl
@[simp] theorem oIsi_str_tuple {xs : List D} : oIsi "str" (.tuple xs) = .ok (.bool false) := by unfold oIsi tyName; rfl
@[simp] theorem oIsi_str_ftuple {xs : List D} : oIsi "str" (.ftuple xs) = .ok (.bool false) := by unfold oIsi tyName; rfl
@[simp] theorem oIsi_bool_none : oIsi "bool" .none = .ok (.bool false) := by unfold oIsi tyName; rfl
@[simp] theorem oIsi_bool_bool {b : Bool} : oIsi "bool" (.bool b) = .ok (.bool true) := by unfold oIsi tyName; rfl
@[simp] theorem oIsi_bool_int {i : Int} : oIsi "bool" (.int i) = .ok (.bool false) := by unfold oIsi tyName; rfl
@[simp] theorem oIsi_bool_str {x : Str} : oIsi "bool" (.str x) = .ok (.bool false) := by unfold oIsi tyName; rfl
@[simp] theorem oIsi_bool_list {xs : List D} : oIsi "bool" (.list xs) = .ok (.bool false) := by unfold oIsi tyName; rfl
@[simp] theorem oIsi_bool_tuple {xs : List D} : oIsi "bool" (.tuple xs) = .ok (.bool false) := by unfold oIsi tyName; rfl
@[simp] theorem oIsi_bool_ftuple {xs : List D} : oIsi "bool" (.ftuple xs) = .ok (.bool false) := by unfold oIsi tyName; rfl
@[simp] theorem oIsi_tuple_none : oIsi "tuple" .none = .ok (.bool false) := by unfold oIsi tyName; rfl
@[simp] theorem oIsi_tuple_bool {b : Bool} : oIsi "tuple" (.bool b) = .ok (.bool false) := by unfold oIsi tyName; rfl
@[simp] theorem oIsi_tuple_int {i : Int} : oIsi "tuple" (.int i) = .ok (.bool false) := by unfold oIsi tyName; rfl
@[simp] theorem oIsi_tuple_str {x : Str} : oIsi "tuple" (.str x) = .ok (.bool false) := by unfold oIsi tyName; rfl
@[simp] theorem oIsi_tuple_list {xs : List D} : oIsi "tuple" (.list xs) = .ok (.bool false) := by unfold oIsi tyName; rfl
@[simp] theorem oIsi_tuple_tuple {xs : List D} : oIsi "tuple" (.tuple xs) = .ok (.bool true) := by unfold oIsi tyName; rfl
@[simp] theorem oIsi_tuple_ftuple {xs : List D} : oIsi "tuple" (.ftuple xs) = .ok (.bool true) := by unfold oIsi tyName; rfl
@[simp] theorem oIsi_list_none : oIsi "list" .none = .ok (.bool false) := by unfold oIsi tyName; rfl
@[simp] theorem oIsi_list_bool {b : Bool} : oIsi "list" (.bool b) = .ok (.bool false) := by unfold oIsi tyName; rfl
@[simp] theorem oIsi_list_int {i : Int} : oIsi "list" (.int i) = .ok (.bool false) := by unfold oIsi tyName; rfl
@[simp] theorem oIsi_list_str {x : Str} : oIsi "list" (.str x) = .ok (.bool false) := by unfold oIsi tyName; rfl
@[simp] theorem oIsi_list_list {xs : List D} : oIsi "list" (.list xs) = .ok (.bool true) := by unfold oIsi tyName; rfl
@[simp] theorem oIsi_list_tuple {xs : List D} : oIsi "list" (.tuple xs) = .ok (.bool false) := by unfold oIsi tyName; rfl
@[simp] theorem oIsi_list_ftuple {xs : List D} : oIsi "list" (.ftuple xs) = .ok (.bool false) := by unfold oIsi tyName; rfl
@[simp] theorem endR_rt {d : D} : endR (.ok (.rt d)) = .ok d := rfl
@[simp] theorem endR_nx {c : Cells} : endR (.ok (.nx c)) = .ok .none := rfl
@[simp] theorem endR_exc {C : Addr} : endR (.exc C) = .exc C := rfl
@[simp] theorem endR_bad : endR .bad = .bad := rfl
@[simp] theorem thenS_apply (f g : Cells → R Out) (c : Cells) : thenS f g c = (f c >>= fun o => match o with
  | .nx c' => g c'
  | o => .ok o) := rfl
@[simp] theorem ifS_apply (p : Cells → R Bool) (f g : Cells → R Out) (c : Cells) : ifS p f g c = (p c >>= fun b => if b = true then f c else g c) := rfl
@[simp] theorem lift2_apply (o : D → D → R D) (f g : Cells → R D) (c : Cells) : lift2 o f g c = (f c >>= fun x => g c >>= fun y => o x y) := rfl
@[simp] theorem andT_apply (f g : Cells → R Bool) (c : Cells) : andT f g c = (f c >>= fun b => if b = true then g c else .ok false) := rfl
@[simp] theorem orT_apply (f g : Cells → R Bool) (c : Cells) : orT f g c = (f c >>= fun b => if b = true then .ok true else g c) := rfl
@[simp] theorem notT_apply (f : Cells → R Bool) (c : Cells) : notT f c = (f c >>= fun b => .ok (!b)) := rfl
@[simp] theorem andV_apply (f g : Cells → R D) (c : Cells) : andV f g c = (f c >>= fun d => asB d >>= fun b => if b = true then g c else .ok (.bool false)) := rfl
@[simp] theorem orV_apply (f g : Cells → R D) (c : Cells) : orV f g c = (f c >>= fun d => asB d >>= fun b => if b = true then .ok (.bool true) else g c) := rfl
@[simp] theorem notV_apply (f : Cells → R D) (c : Cells) : notV f c = (f c >>= fun d => asB d >>= fun b => .ok (.bool (!b))) := rfl
@[simp] theorem ifV_apply (p : Cells → R Bool) (f g : Cells → R D) (c : Cells) : ifV p f g c = (p c >>= fun b => if b = true then f c else g c) := rfl
@[simp] theorem asB_bool {b : Bool} : asB (.bool b) = .ok b := rfl
@[simp] theorem asI_int {i : Int} : asI (.int i) = .ok i := rfl
@[simp] theorem forS_apply (fi : Cells → R (List D)) (g : D → Cells → Option Cells) (b : Cells → R Out) (c : Cells) : forS fi g b c = (fi c >>= fun items => loopD g b items c) := rfl
@[simp] theorem forK_apply (fi : Cells → R D) (g : D → Cells → Option Cells) (b : Cells → R Out) (c : Cells) : forK fi g b c = (fi c >>= fun d => keysD d >>= fun ks => noxO (loopD g b ks c)) := rfl
@[simp] theorem noxO_ok {o : Out} : noxO (.ok o) = .ok o := rfl
@[simp] theorem noxD_ok {d : D} : noxD (.ok d) = .ok d := rfl
@[simp] theorem nox_ok {α : Type} {a : α} : nox (R.ok a) = .ok a := rfl
@[simp] theorem compV_apply (vs : List Nat) (fi : Cells → R (List D)) (g : D → Cells → Option Cells) (t : Cells → R Bool) (f : Cells → R D) (c : Cells) : compV vs fi g t f c = (fi c >>= fun items => if items.length ≤ lim then nox (compL g t f items (wipeC c vs)) >>= fun ys => .ok (.list ys) else .bad) := rfl
@[simp] theorem compDV_apply (vs : List Nat) (fi : Cells → R (List D)) (g : D → Cells → Option Cells) (t : Cells → R Bool) (fk fv : Cells → R D) (c : Cells) : compDV vs fi g t fk fv c = (fi c >>= fun items => if items.length ≤ lim then nox (compDL g t fk fv (wipeC c vs) items []) >>= fun ys => .ok (.dict ys) else .bad) := rfl
@[simp] theorem callD_apply (n : Nat) (m : List D → R D) (fa : Cells → R (List D)) (c : Cells) : callD n m fa c = (fa c >>= fun ds => if ds.length = n then m ds else .bad) := rfl
@[simp] theorem makeD_apply (C : Addr) (n : Nat) (m : List D → R (List (Str × D))) (fa : Cells → R (List D)) (c : Cells) : makeD C n m fa c = (fa c >>= fun ds => if ds.length = n then (m ds >>= fun fs => .ok (D.inst C fs)) else .bad) := rfl
@[simp] theorem parS_apply (is : List Nat) (f : Cells → R (List Cell)) (c : Cells) : parS is f c = (f c >>= fun cs => ofO (setCs is cs c)) := rfl
@[simp] theorem ofO_some {c : Cells} : ofO (some c) = .ok (.nx c) := rfl
@[simp] theorem gN_apply (i : Nat) (d : D) (c : Cells) : gN i d c = some (c.set i (.fz d)) := rfl
@[simp] theorem gsNil_nil (c : Cells) : gsNil [] c = some c := rfl
@[simp] theorem gsCons_cons (g : D → Cells → Option Cells) (gs : List D → Cells → Option Cells) (d : D) (ds : List D) (c : Cells) : gsCons g gs (d :: ds) c = (match g d c with
  | some c' => gs ds c'
  | none => none) := rfl
@[simp] theorem gT_tuple (n : Nat) (gs : List D → Cells → Option Cells) (ds : List D) (c : Cells) : gT n gs (.tuple ds) c = if ds.length = n then gs ds c else none := rfl
@[simp] theorem setCs_nil (c : Cells) : setCs [] [] c = some c := rfl
@[simp] theorem setCs_cons (i : Nat) (is : List Nat) (x : Cell) (xs : List Cell) (c : Cells) : setCs (i :: is) (x :: xs) c = setCs is xs (c.set i x) := rfl
@[simp] theorem wipeC_nil (c : Cells) : wipeC c [] = c := rfl
@[simp] theorem wipeC_cons (c : Cells) (v : Nat) (vs : List Nat) : wipeC c (v :: vs) = (wipeC c vs).set v .un := rfl
@[simp] theorem oLe_int {i j : Int} : oLe (.int i) (.int j) = .ok (.bool (decide (i ≤ j))) := rfl
@[simp] theorem oGt_int {i j : Int} : oGt (.int i) (.int j) = .ok (.bool (decide (j < i))) := rfl
@[simp] theorem oGe_int {i j : Int} : oGe (.int i) (.int j) = .ok (.bool (decide (j ≤ i))) := rfl
@[simp] theorem oLt_int {i j : Int} : oLt (.int i) (.int j) = .ok (.bool (decide (i < j))) := rfl
@[simp] theorem oAdd_int {i j : Int} : oAdd (.int i) (.int j) = .ok (.int (i + j)) := rfl
@[simp] theorem oAddI_int {i j : Int} : oAddI (.int i) (.int j) = .ok (.int (i + j)) := rfl
@[simp] theorem oSub_int {i j : Int} : oSub (.int i) (.int j) = .ok (.int (i - j)) := rfl
@[simp] theorem oMul2_int {i j : Int} : oMul2 (.int i) (.int j) = if i.natAbs ≤ big ∨ j.natAbs ≤ big then .ok (.int (i * j)) else .bad := rfl
@[simp] theorem oDiv_int {i j : Int} : oDiv (.int i) (.int j) = if 0 < j ∧ j < 1073741824 then .ok (.int (i / j)) else .bad := rfl
@[simp] theorem oMod_int {i j : Int} : oMod (.int i) (.int j) = if 0 < j then .ok (.int (i % j)) else .bad := rfl
@[simp] theorem oNeg_int {i : Int} : oNeg (.int i) = .ok (.int (-i)) := rfl
@[simp] theorem oLen_list {xs : List D} : oLen [.list xs] = .ok (.int xs.length) := rfl
@[simp] theorem oLen_tuple {xs : List D} : oLen [.tuple xs] = .ok (.int xs.length) := rfl
@[simp] theorem oInt_int {i : Int} : oInt [.int i] = .ok (.int i) := rfl
@[simp] theorem oTuple_list {xs : List D} : oTuple [.list xs] = .ok (.tuple xs) := rfl
@[simp] theorem oTuple_tuple {xs : List D} : oTuple [.tuple xs] = .ok (.tuple xs) := rfl
@[simp] theorem oList_list {xs : List D} : oList [.list xs] = .ok (.list xs) := rfl
@[simp] theorem oList_tuple {xs : List D} : oList [.tuple xs] = .ok (.list xs) := rfl
@[simp] theorem asIt_list {xs : List D} : asIt (.list xs) = .ok xs := rfl
@[simp] theorem asIt_flist {xs : List D} : asIt (.flist xs) = .ok xs := rfl
@[simp] theorem asIt_tuple {xs : List D} : asIt (.tuple xs) = .ok xs := rfl
@[simp] theorem asIt_ftuple {xs : List D} : asIt (.ftuple xs) = .ok xs := rfl
@[simp] theorem asIt_str {x : Str} : asIt (.str x) = .ok (signsD x) := rfl
@[simp] theorem oIs_none {d : D} : oIs d .none = .ok (.bool (match d with | .none => true | _ => false)) := by cases d <;> rfl
@[simp] theorem oIsNot_none {d : D} : oIsNot d .none = .ok (.bool (!(match d with | .none => true | _ => false))) := by cases d <;> rfl
theorem R.ok_inj {α : Type} {a b : α} : (R.ok a = R.ok b) = (a = b) := by simp
theorem loop_nx {g : D → Cells → Option Cells} {fb : Cells → R Out} : ∀ {items : List D} (S : Nat → Cells) (j : Nat), (∀ (i : Nat) (d : D), items[i]? = some d → ∃ c1, g d (S (j + i)) = some c1 ∧ (fb c1 = .ok (.nx (S (j + i + 1))) ∨ fb c1 = .ok (.ct (S (j + i + 1))))) → loopD g fb items (S j) = .ok (.nx (S (j + items.length)))
  | [], S, j, _ => rfl
  | d :: ds, S, j, h => by
    obtain ⟨c1, e1, e2⟩ := h 0 d rfl
    have ih := loop_nx (g := g) (fb := fb) (items := ds) S (j + 1) fun i d' hd => by
      have := h (i + 1) d' hd
      rw [show j + (i + 1) = j + 1 + i by omega] at this
      exact this
    unfold loopD
    rw [show S (j + 0) = S j from rfl] at e1
    rw [e1]
    rcases e2 with e2 | e2
    · show (fb c1 >>= _) = _
      rw [e2]
      show loopD g fb ds (S (j + 0 + 1)) = _
      rw [show j + 0 + 1 = j + 1 from rfl, ih]
      congr 3
      simp; omega
    · show (fb c1 >>= _) = _
      rw [e2]
      show loopD g fb ds (S (j + 0 + 1)) = _
      rw [show j + 0 + 1 = j + 1 from rfl, ih]
      congr 3
      simp; omega
/-- a loop by what stays true -/
theorem loop_inv {g : D → Cells → Option Cells} {fb : Cells → R Out} (P : Nat → Cells → Prop) : ∀ {items : List D} {c : Cells} (j : Nat), P j c → (∀ (i : Nat) (d : D) (c : Cells), items[i]? = some d → P (j + i) c → ∃ c1, g d c = some c1 ∧ ∃ c2, (fb c1 = .ok (.nx c2) ∨ fb c1 = .ok (.ct c2)) ∧ P (j + i + 1) c2) → ∃ c', loopD g fb items c = .ok (.nx c') ∧ P (j + items.length) c'
  | [], c, j, h0, _ => ⟨c, rfl, h0⟩
  | d :: ds, c, j, h0, h => by
    obtain ⟨c1, e1, c2, e2, h2⟩ := h 0 d c rfl h0
    obtain ⟨c', e3, h3⟩ := loop_inv (g := g) (fb := fb) P (items := ds) (c := c2) (j + 1) h2 fun i d' c hd hc => by
      have := h (i + 1) d' c hd (by rw [show j + (i + 1) = j + 1 + i by omega]; exact hc)
      rw [show j + (i + 1) = j + 1 + i by omega] at this
      exact this
    refine ⟨c', ?_, by rw [show j + (d :: ds).length = j + 1 + ds.length by simp; omega]; exact h3⟩
    unfold loopD
    rw [e1]
    show (fb c1 >>= _) = _
    rcases e2 with e2 | e2 <;> (rw [e2]; exact e3)
/-- a loop that may return: either it goes through, or it returns at some turn -/
theorem loop_ret {g : D → Cells → Option Cells} {fb : Cells → R Out} (P : Nat → Cells → Prop) (Q : D → Prop) : ∀ {items : List D} {c : Cells} (j : Nat), P j c → (∀ (i : Nat) (d : D) (c : Cells), items[i]? = some d → P (j + i) c → ∃ c1, g d c = some c1 ∧ ((∃ c2, (fb c1 = .ok (.nx c2) ∨ fb c1 = .ok (.ct c2)) ∧ P (j + i + 1) c2) ∨ ∃ d', fb c1 = .ok (.rt d') ∧ Q d')) →
    (∃ c', loopD g fb items c = .ok (.nx c') ∧ P (j + items.length) c') ∨ ∃ d', loopD g fb items c = .ok (.rt d') ∧ Q d'
  | [], c, j, h0, _ => .inl ⟨c, rfl, h0⟩
  | d :: ds, c, j, h0, h => by
    obtain ⟨c1, e1, h1⟩ := h 0 d c rfl h0
    unfold loopD
    rw [e1]
    rcases h1 with ⟨c2, e2, h2⟩ | ⟨d', e2, hq⟩
    · have ih := loop_ret (g := g) (fb := fb) P Q (items := ds) (c := c2) (j + 1) h2 fun i d' c hd hc => by
        have := h (i + 1) d' c hd (by rw [show j + (i + 1) = j + 1 + i by omega]; exact hc)
        rw [show j + (i + 1) = j + 1 + i by omega] at this
        exact this
      have eq : (fb c1 >>= fun o => match o with
        | .nx c2 => loopD g fb ds c2
        | .ct c2 => loopD g fb ds c2
        | .bk c2 => .ok (.nx c2)
        | .rt d => .ok (.rt d)) = loopD g fb ds c2 := by rcases e2 with e2 | e2 <;> (rw [e2]; rfl)
      change (∃ c', (fb c1 >>= fun o => match o with
        | .nx c2 => loopD g fb ds c2
        | .ct c2 => loopD g fb ds c2
        | .bk c2 => .ok (.nx c2)
        | .rt d => .ok (.rt d)) = .ok (.nx c') ∧ _) ∨ ∃ d', (fb c1 >>= fun o => match o with
        | .nx c2 => loopD g fb ds c2
        | .ct c2 => loopD g fb ds c2
        | .bk c2 => .ok (.nx c2)
        | .rt d => .ok (.rt d)) = .ok (.rt d') ∧ Q d'
      rw [eq]
      rcases ih with ⟨c', e3, h3⟩ | h3
      · exact .inl ⟨c', e3, by rw [show j + (d :: ds).length = j + 1 + ds.length by simp; omega]; exact h3⟩
      · exact .inr h3
    · refine .inr ⟨d', ?_, hq⟩
      show (fb c1 >>= _) = _
      rw [e2]; rfl
theorem comp_map {g : D → Cells → Option Cells} {t : Cells → R Bool} {f : Cells → R D} {c : Cells} {α : Type} (p : α → Bool) (e : α → D) (h : α → D) : ∀ {as : List α}, (∀ a ∈ as, ∃ c1, g (e a) c = some c1 ∧ t c1 = .ok (p a) ∧ (p a = true → f c1 = .ok (h a))) → compL g t f (as.map e) c = .ok ((as.filter p).map h)
  | [], _ => rfl
  | a :: as, hh => by
    obtain ⟨c1, e1, e2, e3⟩ := hh a List.mem_cons_self
    have ih := comp_map (g := g) (t := t) (f := f) (c := c) p e h (as := as) fun b hb => hh b (List.mem_cons_of_mem _ hb)
    show (match g (e a) c with
      | none => R.bad
      | some c1 => t c1 >>= fun b => if b = true then f c1 >>= fun y => compL g t f (as.map e) c >>= fun ys => .ok (y :: ys) else compL g t f (as.map e) c) = _
    rw [e1]
    show (t c1 >>= _) = _
    rw [e2]
    show (if p a = true then f c1 >>= fun y => compL g t f (as.map e) c >>= fun ys => R.ok (y :: ys) else compL g t f (as.map e) c) = _
    cases q : p a with
    | false => rw [if_neg Bool.false_ne_true, ih, List.filter_cons_of_neg (by rw [q]; exact Bool.false_ne_true)]
    | true =>
      rw [if_pos rfl, e3 q, ih, List.filter_cons_of_pos q]
      rfl
theorem comp_all {g : D → Cells → Option Cells} {t : Cells → R Bool} {f : Cells → R D} {c : Cells} {α : Type} (e : α → D) (h : α → D) {as : List α} (hh : ∀ a ∈ as, ∃ c1, g (e a) c = some c1 ∧ t c1 = .ok true ∧ f c1 = .ok (h a)) : compL g t f (as.map e) c = .ok (as.map h) := by
  have := comp_map (g := g) (t := t) (f := f) (c := c) (fun _ => true) e h (as := as) fun a ha => by
    obtain ⟨c1, e1, e2, e3⟩ := hh a ha
    exact ⟨c1, e1, e2, fun _ => e3⟩
  rw [this, List.filter_eq_self.mpr fun _ _ => rfl]
@[simp] theorem intsOf_ints (ns : List Int) : intsOf (ns.map D.int) = some ns := intsOf_map ns
@[simp] theorem boolsOf_bools (ns : List Bool) : boolsOf (ns.map D.bool) = some ns := boolsOf_map ns
end PL
end S24
noncomputable section S25
namespace PL
open PySem PySem.Spec PyProof.Rows L2
mutual
def smp : D → Bool
  | .none => true
  | .int _ => true
  | .str x => PyData.canLay0 (.str x)
  | .list xs => smpAll xs
  | .tuple xs => smpAll xs
  | _ => false
def smpAll : List D → Bool
  | [] => true
  | d :: ds => smp d && smpAll ds
end
theorem toPys_cons (d : D) (ds : List D) : toPys (d :: ds) = toPy d :: toPys ds := by rw [toPys]
theorem toPys_nil : toPys [] = [] := by rw [toPys]
mutual
theorem smp_lay : ∀ d : D, smp d = true → (toPy d).canLay0 = true
  | .none, _ => by rw [toPy, PyData.canLay0]
  | .int _, _ => by rw [toPy, PyData.canLay0]
  | .str x, h => by rw [toPy]; rw [smp] at h; exact h
  | .list xs, h => by rw [toPy, PyData.canLay0]; rw [smp] at h; exact smps_lay xs h
  | .tuple xs, h => by rw [toPy, PyData.canLay0]; rw [smp] at h; exact smps_lay xs h
  | .bool _, h => by simp [smp] at h
  | .flist _, h => by simp [smp] at h
  | .ftuple _, h => by simp [smp] at h
  | .dict _, h => by simp [smp] at h
  | .dictT _, h => by simp [smp] at h
  | .inst _ _, h => by simp [smp] at h
theorem smps_lay : ∀ ds : List D, smpAll ds = true → PyData.canLayAll0 (toPys ds) = true
  | [], _ => by rw [toPys_nil, PyData.canLayAll0]
  | d :: ds, h => by
    rw [smpAll, Bool.and_eq_true] at h
    rw [toPys_cons, PyData.canLayAll0, smp_lay d h.1, smps_lay ds h.2]; rfl
end
mutual
theorem eqv_smp : ∀ (d e : D), smp d = true → smp e = true → (PyData.eqv (toPy d) (toPy e) = true ↔ d = e)
  | .none, e, _, h => by cases e <;> simp [toPy, PyData.eqv, smp] at h ⊢
  | .int i, e, _, h => by cases e <;> simp [toPy, PyData.eqv, smp] at h ⊢
  | .str x, e, _, h => by cases e <;> simp [toPy, PyData.eqv, smp] at h ⊢
  | .list xs, e, hd, h => by
    cases e with
    | list ys =>
      rw [smp] at hd h
      have := eqv_smps xs ys hd h
      simp only [toPy, PyData.eqv, D.list.injEq]; exact this
    | _ => simp [toPy, PyData.eqv, smp] at h ⊢
  | .tuple xs, e, hd, h => by
    cases e with
    | tuple ys =>
      rw [smp] at hd h
      have := eqv_smps xs ys hd h
      simp only [toPy, PyData.eqv, D.tuple.injEq]; exact this
    | _ => simp [toPy, PyData.eqv, smp] at h ⊢
  | .bool _, _, h, _ => by simp [smp] at h
  | .flist _, _, h, _ => by simp [smp] at h
  | .ftuple _, _, h, _ => by simp [smp] at h
  | .dict _, _, h, _ => by simp [smp] at h
  | .dictT _, _, h, _ => by simp [smp] at h
  | .inst _ _, _, h, _ => by simp [smp] at h
theorem eqv_smps : ∀ (ds es : List D), smpAll ds = true → smpAll es = true → (PyData.eqvAll (toPys ds) (toPys es) = true ↔ ds = es)
  | [], [], _, _ => by simp [toPys_nil, PyData.eqvAll]
  | [], e :: es, _, _ => by simp [toPys_nil, toPys_cons, PyData.eqvAll]
  | d :: ds, [], _, _ => by simp [toPys_nil, toPys_cons, PyData.eqvAll]
  | d :: ds, e :: es, h, h' => by
    rw [smpAll, Bool.and_eq_true] at h h'
    rw [toPys_cons, toPys_cons, PyData.eqvAll, Bool.and_eq_true, eqv_smp d e h.1 h'.1, eqv_smps ds es h.2 h'.2, List.cons.injEq]
end
theorem okD_smp {d : D} (h : smp d = true) (hd : (toPy d).depth ≤ 64) : okD d = true := by
  unfold okD SeqAt.shaped
  rw [smp_lay d h, decide_eq_true hd]; rfl
theorem oEq_smp {d e : D} (h : smp d = true) (h' : smp e = true) (hd : (toPy d).depth ≤ 64) (he : (toPy e).depth ≤ 64) : (d = e → oEq d e = .ok (.bool true) ∧ oNe d e = .ok (.bool false)) ∧ (d ≠ e → oEq d e = .ok (.bool false) ∧ oNe d e = .ok (.bool true)) := by
  have a := okD_smp h hd
  have b := okD_smp h' he
  have c := eqv_smp d e h h'
  unfold oEq oNe eqD
  rw [if_pos ⟨a, b⟩, if_pos ⟨a, b⟩]
  refine ⟨fun z => ?_, fun z => ?_⟩
  · rw [c.mpr z]; exact ⟨rfl, rfl⟩
  · have : PyData.eqv (toPy d) (toPy e) = false := by
      cases q : PyData.eqv (toPy d) (toPy e) with
      | false => rfl
      | true => exact absurd (c.mp q) z
    rw [this]; exact ⟨rfl, rfl⟩
@[simp] theorem oEq_int {i j : Int} : oEq (.int i) (.int j) = .ok (.bool (decide (i = j))) := by
  have := oEq_smp (d := .int i) (e := .int j) (by rw [smp]) (by rw [smp]) (by rw [toPy, PyData.depth]; omega) (by rw [toPy, PyData.depth]; omega)
  by_cases h : i = j
  · rw [(this.1 (by rw [h])).1, decide_eq_true h]
  · rw [(this.2 (by simpa using h)).1, decide_eq_false h]
@[simp] theorem oNe_int {i j : Int} : oNe (.int i) (.int j) = .ok (.bool (!decide (i = j))) := by
  have := oEq_smp (d := .int i) (e := .int j) (by rw [smp]) (by rw [smp]) (by rw [toPy, PyData.depth]; omega) (by rw [toPy, PyData.depth]; omega)
  by_cases h : i = j
  · rw [(this.1 (by rw [h])).2, decide_eq_true h]; rfl
  · rw [(this.2 (by simpa using h)).2, decide_eq_false h]; rfl
theorem oEq_str {x y : Str} (hx : PyData.canLay0 (.str x) = true) (hy : PyData.canLay0 (.str y) = true) : oEq (.str x) (.str y) = .ok (.bool (decide (x = y))) := by
  have := oEq_smp (d := .str x) (e := .str y) (by rw [smp]; exact hx) (by rw [smp]; exact hy) (by rw [toPy, PyData.depth]; omega) (by rw [toPy, PyData.depth]; omega)
  by_cases h : x = y
  · rw [(this.1 (by rw [h])).1, decide_eq_true h]
  · rw [(this.2 (by simpa using h)).1, decide_eq_false h]
theorem oNe_str {x y : Str} (hx : PyData.canLay0 (.str x) = true) (hy : PyData.canLay0 (.str y) = true) : oNe (.str x) (.str y) = .ok (.bool (!decide (x = y))) := by
  have := oEq_smp (d := .str x) (e := .str y) (by rw [smp]; exact hx) (by rw [smp]; exact hy) (by rw [toPy, PyData.depth]; omega) (by rw [toPy, PyData.depth]; omega)
  by_cases h : x = y
  · rw [(this.1 (by rw [h])).2, decide_eq_true h]; rfl
  · rw [(this.2 (by simpa using h)).2, decide_eq_false h]; rfl
end PL
end S25
noncomputable section S26
namespace PL
open PySem PySem.Spec PyProof.Rows L2
theorem loop_map {α : Type} {g : D → Cells → Option Cells} {fb : Cells → R Out} (e : α → D) (S : Nat → Cells) {as : List α} (h : ∀ (i : Nat) (a : α), as[i]? = some a → ∃ c1, g (e a) (S i) = some c1 ∧ fb c1 = .ok (.nx (S (i + 1)))) : loopD g fb (as.map e) (S 0) = .ok (.nx (S as.length)) := by
  have := loop_nx (g := g) (fb := fb) (items := as.map e) S 0 fun i d hd => by
    rw [List.getElem?_map] at hd
    obtain ⟨a, ha, rfl⟩ := Option.map_eq_some_iff.mp hd
    obtain ⟨c1, e1, e2⟩ := h i a ha
    rw [Nat.zero_add]
    exact ⟨c1, e1, .inl e2⟩
  rw [List.length_map, Nat.zero_add] at this
  exact this
/-- a loop that returns at its turn m -/
theorem loop_until {g : D → Cells → Option Cells} {fb : Cells → R Out} : ∀ {items : List D} (S : Nat → Cells) (m : Nat) (d : D), m < items.length → (∀ (i : Nat) (x : D), items[i]? = some x → i < m → ∃ c1, g x (S i) = some c1 ∧ fb c1 = .ok (.nx (S (i + 1)))) →
    (∀ x, items[m]? = some x → ∃ c1, g x (S m) = some c1 ∧ fb c1 = .ok (.rt d)) → loopD g fb items (S 0) = .ok (.rt d)
  | [], _, _, _, h, _, _ => absurd h (Nat.not_lt_zero _)
  | x :: xs, S, 0, d, _, _, h2 => by
    obtain ⟨c1, e1, e2⟩ := h2 x rfl
    unfold loopD
    rw [e1]
    show (fb c1 >>= _) = _
    rw [e2]; rfl
  | x :: xs, S, m + 1, d, h, h1, h2 => by
    obtain ⟨c1, e1, e2⟩ := h1 0 x rfl (Nat.succ_pos _)
    have ih := loop_until (g := g) (fb := fb) (items := xs) (fun i => S (i + 1)) m d (by simpa using h) (fun i y hy hi => h1 (i + 1) y hy (by omega)) (fun y hy => h2 y hy)
    unfold loopD
    rw [e1]
    show (fb c1 >>= _) = _
    rw [e2]
    exact ih
/-- a loop that looks for the first -/
theorem loop_find {α : Type} {g : D → Cells → Option Cells} {fb : Cells → R Out} (e : α → D) (hit : α → Bool) (out : α → D) (P : Cells → Prop) : ∀ {as : List α} {c : Cells}, P c → (∀ a ∈ as, ∀ c, P c → ∃ c1, g (e a) c = some c1 ∧ (hit a = true → fb c1 = .ok (.rt (out a))) ∧ (hit a = false → ∃ c2, fb c1 = .ok (.nx c2) ∧ P c2)) →
    (∃ a, as.find? hit = some a ∧ loopD g fb (as.map e) c = .ok (.rt (out a))) ∨ (as.find? hit = none ∧ ∃ c', loopD g fb (as.map e) c = .ok (.nx c') ∧ P c')
  | [], c, h0, _ => .inr ⟨rfl, c, rfl, h0⟩
  | a :: as, c, h0, h => by
    obtain ⟨c1, e1, h1, h2⟩ := h a List.mem_cons_self c h0
    rw [List.map_cons]
    unfold loopD
    rw [e1]
    cases q : hit a with
    | true =>
      refine .inl ⟨a, List.find?_cons_of_pos q, ?_⟩
      show (fb c1 >>= _) = _
      rw [h1 q]; rfl
    | false =>
      obtain ⟨c2, e2, p2⟩ := h2 q
      have ih := loop_find (g := g) (fb := fb) e hit out P (as := as) p2 fun b hb => h b (List.mem_cons_of_mem _ hb)
      rw [List.find?_cons_of_neg (by rw [q]; exact Bool.false_ne_true)]
      show (∃ x, _ ∧ (fb c1 >>= _) = _) ∨ (_ ∧ ∃ c', (fb c1 >>= _) = _ ∧ _)
      rw [e2]
      exact ih
theorem keyOf_keyD (k : Key) : keyOf (keyD k) = some k := by cases k <;> rfl
theorem putD_new {κ : Type} [DecidableEq κ] (kvs : List (κ × D)) (k : κ) (v : D) (h : k ∉ kvs.map (·.1)) : putD kvs k v = kvs ++ [(k, v)] := by
  unfold putD
  rw [if_neg]
  intro z
  obtain ⟨q, hq, e⟩ := List.any_eq_true.mp z
  exact h (List.mem_map.mpr ⟨q, hq, of_decide_eq_true e⟩)
theorem compD_map {α : Type} {g : D → Cells → Option Cells} {t : Cells → R Bool} {fk fv : Cells → R D} {c : Cells} (p : α → Bool) (e : α → D) (k : α → Key) (v : α → D) : ∀ {as : List α} (acc : List (Key × D)),
    (∀ a ∈ as, ∃ c1, g (e a) c = some c1 ∧ t c1 = .ok (p a) ∧ (p a = true → fk c1 = .ok (keyD (k a)) ∧ fv c1 = .ok (v a))) → (acc.map (·.1) ++ (as.filter p).map k).Nodup → compDL g t fk fv c (as.map e) acc = .ok (acc ++ (as.filter p).map fun a => (k a, v a))
  | [], acc, _, _ => by simp [compDL]
  | a :: as, acc, h, hn => by
    obtain ⟨c1, e1, e2, e3⟩ := h a List.mem_cons_self
    rw [List.map_cons]
    unfold compDL
    rw [e1]
    show (t c1 >>= _) = _
    rw [e2]
    cases q : p a with
    | false =>
      rw [List.filter_cons_of_neg (by rw [q]; exact Bool.false_ne_true)] at hn ⊢
      exact compD_map p e k v acc (fun b hb => h b (List.mem_cons_of_mem _ hb)) hn
    | true =>
      obtain ⟨k1, k2⟩ := e3 q
      rw [List.filter_cons_of_pos q] at hn ⊢
      rw [R.ok_bind, if_pos rfl, k1, R.ok_bind, k2, R.ok_bind]
      unfold dstep
      rw [keyOf_keyD]
      have hno : k a ∉ acc.map (·.1) := fun z => by
        rw [List.map_cons] at hn
        exact (List.nodup_append.mp hn).2.2 _ z _ List.mem_cons_self rfl
      show compDL g t fk fv c (as.map e) (putD acc (k a) (v a)) = _
      rw [putD_new _ _ _ hno]
      rw [compD_map p e k v (acc ++ [(k a, v a)]) (fun b hb => h b (List.mem_cons_of_mem _ hb)) (by
        rw [List.map_append, List.append_assoc]; exact hn)]
      rw [List.append_assoc]; rfl
theorem getK_mem {κ α : Type} [DecidableEq κ] (k : α → κ) (v : α → D) : ∀ (as : List α), (as.map k).Nodup → ∀ a ∈ as, getK (as.map fun a => (k a, v a)) (k a) = some (v a)
  | [], _, a, h => absurd h List.not_mem_nil
  | b :: as, hn, a, h => by
    rw [List.map_cons, List.nodup_cons] at hn
    unfold getK
    rw [List.map_cons]
    rcases List.mem_cons.mp h with z | z
    · subst z
      rw [List.find?_cons_of_pos (by simp)]; rfl
    · have hne : k b ≠ k a := fun q => hn.1 (List.mem_map.mpr ⟨a, z, q.symm⟩)
      rw [List.find?_cons_of_neg (by simpa using hne)]
      exact getK_mem k v as hn.2 a z
theorem getK_put {κ : Type} [DecidableEq κ] (kvs : List (κ × D)) (k k' : κ) (v : D) : getK (putD kvs k v) k' = if k = k' then some v else getK kvs k' := by
  unfold putD
  by_cases h : (kvs.any fun kv => decide (kv.1 = k)) = true
  · rw [if_pos h]
    induction kvs with
    | nil => simp at h
    | cons q kvs ih =>
      unfold getK at ih ⊢
      rw [List.map_cons]
      by_cases h1 : q.1 = k
      · rw [if_pos h1]
        by_cases h2 : k = k'
        · rw [List.find?_cons_of_pos (by simp [h1, h2]), if_pos h2]; rfl
        · have hq : ¬ q.1 = k' := fun z => h2 (h1.symm.trans z)
          rw [List.find?_cons_of_neg (by simpa using hq), List.find?_cons_of_neg (by simpa using hq), if_neg h2]
          by_cases h3 : (kvs.any fun kv => decide (kv.1 = k)) = true
          · have := ih h3
            rw [if_neg h2] at this; exact this
          · have e : (kvs.map fun kv => if kv.1 = k then (kv.1, v) else kv) = kvs := by
              rw [List.map_congr_left (g := id) fun a ha => ?_, List.map_id]
              have : ¬ a.1 = k := fun z => h3 (List.any_eq_true.mpr ⟨a, ha, decide_eq_true z⟩)
              rw [if_neg this]; rfl
            rw [e]
      · rw [if_neg h1]
        have h3 : (kvs.any fun kv => decide (kv.1 = k)) = true := by simpa [h1] using h
        have := ih h3
        by_cases h4 : q.1 = k'
        · have h2 : ¬ k = k' := fun z => h1 (h4.trans z.symm)
          rw [List.find?_cons_of_pos (by simpa using h4), List.find?_cons_of_pos (by simpa using h4), if_neg h2]
        · rw [List.find?_cons_of_neg (by simpa using h4), List.find?_cons_of_neg (by simpa using h4)]
          exact this
  · rw [if_neg h]
    unfold getK
    rw [List.find?_append]
    by_cases h2 : k = k'
    · have : kvs.find? (fun kv => decide (kv.1 = k')) = none := by
        rw [List.find?_eq_none]
        intro a ha z
        exact h (List.any_eq_true.mpr ⟨a, ha, by rw [h2]; exact z⟩)
      rw [this, if_pos h2]
      simp [h2]
    · rw [if_neg h2]
      simp [h2]
theorem putD_keys {κ : Type} [DecidableEq κ] (kvs : List (κ × D)) (k : κ) (v : D) : ∀ x, x ∈ (putD kvs k v).map (·.1) → x ∈ kvs.map (·.1) ∨ x = k := by
  intro x hx
  unfold putD at hx
  split at hx
  · left
    rw [List.map_map] at hx
    obtain ⟨q, hq, rfl⟩ := List.mem_map.mp hx
    refine List.mem_map.mpr ⟨q, hq, ?_⟩
    show q.1 = (if q.1 = k then (q.1, v) else q).1
    split <;> rfl
  · rw [List.map_append, List.mem_append] at hx
    rcases hx with h | h
    · exact .inl h
    · right; simpa using h
/-- sorted data is the same data in some order -/
theorem sortD_perm {α : Type} (f : α → D) (L : List α) : ∃ L' : List α, L'.Perm L ∧ sortD (L.map f) = L'.map f := by
  refine ⟨L.mergeSort (PySem.W.dataLe false fun a => toPy (f a)), List.mergeSort_perm _ _, ?_⟩
  unfold sortD
  exact (PySem.W.sort_maps f fun a _ b _ => rfl).symm
end PL
end S26
noncomputable section S27
namespace PL
open PySem PySem.Spec PyProof.Rows L2
def frz (i : Nat) (c : Cells) : Cells := match c[i]? with
  | some (.ow d) => c.set i (.fz d)
  | _ => c
def frzS (i : Nat) (f : Cells → R Out) : Cells → R Out := fun c => f (frz i c)
@[simp] theorem frzS_apply (i : Nat) (f : Cells → R Out) (c : Cells) : frzS i f c = f (frz i c) := rfl
theorem es_frz {X : Cx} {W : WX} {st : Stmt} {f : Cells → R Out} (i : Nat) (h : ES X W st f) : ES X W st (frzS i f) :=
  PS.imp h fun D' σ H ⟨G0, H0, G, env, S, P⟩ => by
    have P : PostS X.K G0 H0 G W (f (frz i env)) D' := P
    unfold frz at P
    split at P
    · rename_i d e
      obtain ⟨G', l, S'⟩ := S.freeze e
      exact ⟨G0, H0, G', _, S', PostS.le P l⟩
    · exact ⟨G0, H0, G, env, S, P⟩
end PL
end S27
noncomputable section S28
namespace PL
open PySem PySem.Spec PyProof.Rows L2
def pairsD : List D → Option (List (Key × D))
  | [] => some []
  | .tuple [k, v] :: ds => match keyOf k, pairsD ds with
    | some k, some l => some ((k, v) :: l)
    | _, _ => none
  | _ => none
def oDict : List D → R D
  | [.list xs] => match pairsD xs with
    | some l => .ok (.dict (mergeD l))
    | none => .bad
  | _ => .bad
section
variable {X : Cx} {W : WX} {e : Expr} {es : List Expr} {pos p : Pos} {g : Cells → R (List D)}
theorem pairsD_rep {K : PySem.W.Frag} {G H : Hp} (s : Sub G H) : ∀ {ds : List D} {us : List V} {l : List (Key × D)}, pairsD ds = some l → RepAll K G ds us → ∃ (ps : List Addr) (kvs : List (Key × V)), us = ps.map V.ref ∧ RepK K G l kvs ∧ Paired (fun p kv => SqT K H p [kV kv.1, kv.2]) ps kvs
  | [], us, l, h, r => by
    rw [pairsD] at h
    cases h
    rw [RepAll.nil_iff.mp r]
    exact ⟨[], [], rfl, .nil, .nil⟩
  | .tuple [k, v] :: ds, us, l, h, r => by
    rw [pairsD] at h
    obtain ⟨u, us', rfl, r1, t⟩ := RepAll.cons_iff.mp r
    cases hk : keyOf k with
    | none => rw [hk] at h; cases h
    | some kk =>
      cases hp : pairsD ds with
      | none => rw [hk, hp] at h; cases h
      | some l' =>
        rw [hk, hp] at h
        cases h
        obtain ⟨ps, kvs, e1, e2, e3⟩ := pairsD_rep s hp t
        obtain ⟨a, xs, rfl, hA, ra⟩ := Rep.tuple_iff.mp r1
        obtain ⟨u1, r2, rfl, q1, ra⟩ := RepAll.cons_iff.mp ra
        obtain ⟨u2, r3, rfl, q2, ra⟩ := RepAll.cons_iff.mp ra
        rw [RepAll.nil_iff.mp ra] at hA
        have hv := keyOf_rep hk q1
        rw [hv] at hA
        exact ⟨a :: ps, (kk, u2) :: kvs, by rw [e1]; rfl, RepK.cons_iff.mpr ⟨u2, kvs, rfl, q2, e2⟩, .cons (.of (s _ _ hA)) e3⟩
  | .none :: _, _, _, h, _ => by simp [pairsD] at h
  | .bool _ :: _, _, _, h, _ => by simp [pairsD] at h
  | .int _ :: _, _, _, h, _ => by simp [pairsD] at h
  | .str _ :: _, _, _, h, _ => by simp [pairsD] at h
  | .list _ :: _, _, _, h, _ => by simp [pairsD] at h
  | .flist _ :: _, _, _, h, _ => by simp [pairsD] at h
  | .ftuple _ :: _, _, _, h, _ => by simp [pairsD] at h
  | .dict _ :: _, _, _, h, _ => by simp [pairsD] at h
  | .dictT _ :: _, _, _, h, _ => by simp [pairsD] at h
  | .inst _ _ :: _, _, _, h, _ => by simp [pairsD] at h
  | .tuple [] :: _, _, _, h, _ => by simp [pairsD] at h
  | .tuple [_] :: _, _, _, h, _ => by simp [pairsD] at h
  | .tuple (_ :: _ :: _ :: _) :: _, _, _, h, _ => by simp [pairsD] at h
theorem does_dict : DoesC X W (fun xs H Q => ∃ (a : Addr) (ps : List Addr) (kvs : List (Key × V)), xs = [.ref a] ∧ SqL X.K H a (ps.map V.ref) ∧ Paired (fun p kv => SqT X.K H p [kV kv.1, kv.2]) ps kvs ∧
    ∀ p, H p = none → Q (.ref p) (upd H p (.dK (mergeK [] kvs)))) oDict := by
  intro G H σ Q ds vs s r P
  unfold oDict at P
  split at P
  · obtain ⟨v, rfl, q⟩ := r.one
    obtain ⟨a, ws, rfl, h, t⟩ := q.list s
    split at P
    · rename_i l hl
      obtain ⟨ps, kvs, rfl, rk, pr⟩ := pairsD_rep s hl t
      refine ⟨a, ps, kvs, rfl, .of h, pr, fun p n => ?_⟩
      have st := Stp.frozen (o := HO.dK (mergeK [] kvs)) s n
      exact P _ _ _ st (Rep.dict_iff.mpr ⟨p, _, rfl, .inl upd_same, RepK.mono st.le _ (merge_rep rk .nil)⟩)
    · exact False.elim P
  · exact False.elim P
theorem eb_dictF (hc : X.calm = true) (hu : X.A.units + 64 < cLine) (hg : Gl X "dict") (hm : X.mg "dict" = none) (ha : EAB X W (e :: es) g) (he : starEach (e :: es) X.env = (false, eval e X.env) :: starEach es X.env) (hpl : (backTo pos (starEach es X.env)).any (·.1) = false) :
    EV X W (.Call (.Name "dict" p) (e :: es) [] pos) (fun c => g c >>= oDict) := ev_callTy (call_dictP hc) does_dict hg hm b_dict ha (by decide) (by decide) he hpl
end
end PL
end S28
noncomputable section S29
namespace PL
open PySem PySem.Spec PyProof.Rows L2
theorem le_total {α : Type} (f : α → D) : PySem.W.TotalLe (PySem.W.dataLe false fun a => toPy (f a)) := PySem.W.sortLe_total _ _ _
theorem le_of_lt {α : Type} {f : α → D} {a b : α} (h : PySem.W.dataLt (toPy (f a)) (toPy (f b)) = true) : PySem.W.dataLe false (fun a => toPy (f a)) a b = true := by
  rcases (le_total f).total a b with z | z
  · exact z
  · rw [PySem.W.dataLe_eq] at z
    simp only [cond_false] at z
    rw [h] at z
    cases z
/-- a list in strict order is what sorted makes of any order of it -/
theorem sortD_eq {α : Type} (f : α → D) {L L' : List α} (hp : L'.Perm L) (hs : L'.Pairwise fun a b => PySem.W.dataLt (toPy (f a)) (toPy (f b)) = true) : sortD (L.map f) = L'.map f := by
  have h1 : sortD (L.map f) = (L.mergeSort (PySem.W.dataLe false fun a => toPy (f a))).map f := by
    unfold sortD
    exact (PySem.W.sort_maps f fun a _ b _ => rfl).symm
  rw [h1]
  congr 1
  have hperm : (L.mergeSort (PySem.W.dataLe false fun a => toPy (f a))).Perm L' := (List.mergeSort_perm _ _).trans hp.symm
  refine List.Perm.eq_of_pairwise (le := fun a b => PySem.W.dataLe false (fun a => toPy (f a)) a b = true) (fun a b ha hb h2 h3 => ?_) (PySem.W.sort_pairwise (le_total f) L) (hs.imp le_of_lt) hperm
  have ha' := hperm.mem_iff.mp ha
  apply Classical.byContradiction
  intro hne
  obtain ⟨i, hi, rfl⟩ := List.mem_iff_getElem.mp ha'
  obtain ⟨j, hj, rfl⟩ := List.mem_iff_getElem.mp hb
  have hij : i ≠ j := fun z => hne (by subst z; rfl)
  rw [List.pairwise_iff_getElem] at hs
  rw [PySem.W.dataLe_eq] at h2 h3
  simp only [cond_false] at h2 h3
  rcases Nat.lt_or_gt_of_ne hij with z | z
  · rw [hs i j hi hj z] at h3; cases h3
  · rw [hs j i hj hi z] at h2; cases h2
theorem lt_fst {x y : Int} (r r' : List PyData) (h : x < y) : PySem.W.dataLt (.tuple (.int x :: r)) (.tuple (.int y :: r')) = true := by
  rw [PySem.W.dataLt_tuple, PySem.W.dataLt_cons (by simp [PySem.W.alike])]
  have : PyData.eqv (.int x) (.int y) = false := by
    simp only [PyData.eqv, decide_eq_false_iff_not, beq_eq_false_iff_ne, ne_eq]; omega
  rw [this, if_neg Bool.false_ne_true, PySem.W.dataLt_int, decide_eq_true h]
/-- sorted texts depend on no order -/
theorem sortD_str {L M : List Str} (h : L.Perm M) : sortD (L.map D.str) = sortD (M.map D.str) := by
  have h1 : ∀ N : List Str, sortD (N.map D.str) = (N.mergeSort (PySem.W.dataLe false fun a => toPy (D.str a))).map D.str := fun N => by
    unfold sortD
    exact (PySem.W.sort_maps D.str fun a _ b _ => rfl).symm
  rw [h1, h1]
  congr 1
  have hperm : (L.mergeSort (PySem.W.dataLe false fun a => toPy (D.str a))).Perm (M.mergeSort (PySem.W.dataLe false fun a => toPy (D.str a))) := ((List.mergeSort_perm _ _).trans h).trans (List.mergeSort_perm _ _).symm
  refine List.Perm.eq_of_pairwise (le := fun a b => PySem.W.dataLe false (fun a => toPy (D.str a)) a b = true) (fun a b ha hb h2 h3 => ?_) (PySem.W.sort_pairwise (le_total D.str) L) (PySem.W.sort_pairwise (le_total D.str) M) hperm
  have e : (PySem.W.dataLe false fun a => toPy (D.str a)) = fun a b : Str => decide (a.cps.toList ≤ b.cps.toList) := by
    have := PySem.W.dataLe_str (fun a : Str => a)
    rw [← this]
    have hf : (fun a : Str => toPy (D.str a)) = fun b => PyData.str b := by funext a; rw [toPy]
    exact congrArg (PySem.W.dataLe false) hf
  rw [e] at h2 h3
  exact PySem.W.str_of_cps (List.le_antisymm (of_decide_eq_true h2) (of_decide_eq_true h3))
theorem strs_sortOk (L : List Str) (hl : L.length ≤ lim) (hs : ∀ x ∈ L, PyData.canLay0 (.str x) = true) : SortOk (L.map D.str) := by
  have he : ∀ x : Str, toPy (D.str x) = .str x := fun x => by rw [toPy]
  have hp : toPys (L.map D.str) = L.map fun x => toPy (D.str x) := by rw [toPys_map, List.map_map]; rfl
  refine ⟨?_, ?_, ?_, ?_, by rw [List.length_map]; exact hl⟩
  · rw [hp]
    refine PySem.W.AllAlike.of fun p q => ?_
    rw [he, he]
    simp [PySem.W.alike]
  · rw [hp]
    exact PySem.W.Sortable.others (enc := fun x => toPy (D.str x)) fun x => ⟨by show toPy (D.str x) ≠ .none; rw [he]; exact (fun z => nomatch z), fun xs => by show toPy (D.str x) ≠ .tuple xs; rw [he]; exact (fun z => nomatch z)⟩
  · intro d hd
    obtain ⟨p, _, rfl⟩ := List.mem_map.mp hd
    rw [he]
    simp [PyData.depth]
  · rw [hp]
    clear hp hl
    induction L with
    | nil => rfl
    | cons p L ih =>
      rw [List.map_cons, he, PyData.canLayAll0, ih fun q hq => hs q (List.mem_cons_of_mem _ hq), hs p List.mem_cons_self]
      rfl
theorem putD_nodup {κ : Type} [DecidableEq κ] (kvs : List (κ × D)) (k : κ) (v : D) (h : (kvs.map (·.1)).Nodup) : ((putD kvs k v).map (·.1)).Nodup := by
  by_cases hk : k ∈ kvs.map (·.1)
  · unfold putD
    have : (kvs.any fun kv => decide (kv.1 = k)) = true := by
      obtain ⟨q, hq, e⟩ := List.mem_map.mp hk
      exact List.any_eq_true.mpr ⟨q, hq, decide_eq_true e⟩
    rw [if_pos this, List.map_map]
    have e : (kvs.map ((fun kv : κ × D => kv.1) ∘ fun kv => if kv.1 = k then (kv.1, v) else kv)) = kvs.map (·.1) := by
      apply List.map_congr_left
      intro q _
      show (if q.1 = k then (q.1, v) else q).1 = q.1
      split <;> rfl
    rw [e]; exact h
  · rw [putD_new _ _ _ hk, List.map_append, List.nodup_append]
    exact ⟨h, by simp, fun a ha b hb z => hk (by
      rw [List.mem_singleton.mp hb] at z
      have z : a = k := z
      rw [← z]; exact ha)⟩
theorem if_max (i j : Int) : (if j > i then j else i) = max i j := by split <;> omega
theorem if_min (i j : Int) : (if j < i then j else i) = min i j := by split <;> omega
@[simp] theorem oMax_int {i j : Int} : oMax [.int i, .int j] = .ok (.int (max i j)) := by
  show R.ok (D.int (if j > i then j else i)) = _
  rw [if_max]
@[simp] theorem oMin_int {i j : Int} : oMin [.int i, .int j] = .ok (.int (min i j)) := by
  show R.ok (D.int (if j < i then j else i)) = _
  rw [if_min]
end PL
end S29
noncomputable section S30
namespace G58
open PySem PySem.Spec PyProof.Rows L2 PL
def top (i : Nat) : Stmt := PySem.Challenge.pw_windowwright_k58_whole_keys_to_names_in.main.body.getD i (.Pass ⟨0, 0, 0, 0⟩)
def tab_AXES : List (Str × He.Dv) := [("down", .int 1), ("left", .int 0), ("right", .int 0), ("up", .int 1)]
def tab_BACK : List (Str × He.Dv) := [("down", .str "up"), ("left", .str "right"), ("right", .str "left"), ("up", .str "down")]
def tup_FORTH : List He.Dv := [.str "down", .str "right"]
def tup_WAYS : List He.Dv := [.str "down", .str "left", .str "right", .str "up"]
def fa : List He.Fa := [.free "isinstance", .free "int", .free "bool", .glo "is_whole", .free "str", .free "len", .int "MOST_SIGNS" 8, .str "LETTERS" "abcdefghijklmnopqrstuvwxyz", .free "all", .glo "is_name", .free "tuple", .int "MOST_WEIGHT" 12, .glo "_is_part", .str "WIN" "win", .str "ROW" "row", .str "COL" "col", .str "TABS" "tabs", .glo "_is_tree", .free "list", .glo "inner_trees", .glo "names_of", .int "MOST_DEPTH" 8, .int "MOST_WINDOWS" 16, .glo "is_layout", .exc "BadLayout", .glo "BadLayout", .glo "check_layout", .int "MOST_SIDE" 1000, .glo "is_box", .exc "BadBox", .glo "BadBox", .glo "check_box", .free "sum", .free "range", .free "zip", .glo "sizes_of", .glo "inner_boxes", .glo "_placed", .free "sorted", .glo "placed", .cls "Sides", .noat "Sides" "box", .noat "Sides" "boxes", .mkr "Sides", .glo "Sides", .meth "Sides" "names", .glo "AXES", .glo "FORTH", .meth "Sides" "edge", .free "max", .free "min", .meth "Sides" "shared", .glo "BACK", .meth "Sides" "at_edge", .meth "Sides" "beside", .meth "Sides" "step", .glo "most_shared", .exc "NoWindow", .glo "NoWindow", .glo "check_name", .glo "WAYS", .exc "BadWay", .glo "BadWay", .glo "check_way", .glo "there_windows", .glo "beside", .glo "steps_to", .glo "not_back", .free "abs", .glo "_law_draws", .glo "_law_at", .glo "_law_called", .glo "_law_tree", .glo "_law_box", .glo "_law_sizes", .glo "_law_shown", .glo "_law_cells", .glo "_law_next", .glo "_law_beside", .glo "_law_most", .glo "_law_other_way", .glo "_law_drawn", .free "dict", .glo "law"]
def fn : List He.DefD := [
  ⟨("is_whole", none), "is_whole", "is_whole", defArgs (top 16), defBody (top 16), defScope (top 16), [], []⟩,
  ⟨("is_name", none), "is_name", "is_name", defArgs (top 17), defBody (top 17), defScope (top 17), [], []⟩,
  ⟨("_is_part", none), "_is_part", "_is_part", defArgs (top 18), defBody (top 18), defScope (top 18), [], []⟩,
  ⟨("_is_tree", none), "_is_tree", "_is_tree", defArgs (top 19), defBody (top 19), defScope (top 19), [], []⟩,
  ⟨("inner_trees", none), "inner_trees", "inner_trees", defArgs (top 20), defBody (top 20), defScope (top 20), [], []⟩,
  ⟨("names_of", none), "names_of", "names_of", defArgs (top 21), defBody (top 21), defScope (top 21), [], []⟩,
  ⟨("is_layout", none), "is_layout", "is_layout", defArgs (top 22), defBody (top 22), defScope (top 22), [], []⟩,
  ⟨("check_layout", none), "check_layout", "check_layout", defArgs (top 23), defBody (top 23), defScope (top 23), [], []⟩,
  ⟨("is_box", none), "is_box", "is_box", defArgs (top 26), defBody (top 26), defScope (top 26), [], []⟩,
  ⟨("check_box", none), "check_box", "check_box", defArgs (top 27), defBody (top 27), defScope (top 27), [], []⟩,
  ⟨("sizes_of", none), "sizes_of", "sizes_of", defArgs (top 28), defBody (top 28), defScope (top 28), [], []⟩,
  ⟨("inner_boxes", none), "inner_boxes", "inner_boxes", defArgs (top 29), defBody (top 29), defScope (top 29), [], []⟩,
  ⟨("_placed", none), "_placed", "_placed", defArgs (top 30), defBody (top 30), defScope (top 30), [], []⟩,
  ⟨("placed", none), "placed", "placed", defArgs (top 31), defBody (top 31), defScope (top 31), [], []⟩,
  ⟨("Sides", some "__init__"), "__init__", "Sides.__init__", defArgs (inClass (top 37) 0), defBody (inClass (top 37) 0), defScope (inClass (top 37) 0), [], []⟩,
  ⟨("Sides", some "names"), "names", "Sides.names", defArgs (inClass (top 37) 1), defBody (inClass (top 37) 1), defScope (inClass (top 37) 1), [], []⟩,
  ⟨("Sides", some "edge"), "edge", "Sides.edge", defArgs (inClass (top 37) 2), defBody (inClass (top 37) 2), defScope (inClass (top 37) 2), [], []⟩,
  ⟨("Sides", some "shared"), "shared", "Sides.shared", defArgs (inClass (top 37) 3), defBody (inClass (top 37) 3), defScope (inClass (top 37) 3), [], []⟩,
  ⟨("Sides", some "at_edge"), "at_edge", "Sides.at_edge", defArgs (inClass (top 37) 4), defBody (inClass (top 37) 4), defScope (inClass (top 37) 4), [], []⟩,
  ⟨("Sides", some "beside"), "beside", "Sides.beside", defArgs (inClass (top 37) 5), defBody (inClass (top 37) 5), defScope (inClass (top 37) 5), [], []⟩,
  ⟨("Sides", some "step"), "step", "Sides.step", defArgs (inClass (top 37) 6), defBody (inClass (top 37) 6), defScope (inClass (top 37) 6), [], []⟩,
  ⟨("most_shared", none), "most_shared", "most_shared", defArgs (top 38), defBody (top 38), defScope (top 38), [], []⟩,
  ⟨("check_name", none), "check_name", "check_name", defArgs (top 39), defBody (top 39), defScope (top 39), [], []⟩,
  ⟨("check_way", none), "check_way", "check_way", defArgs (top 40), defBody (top 40), defScope (top 40), [], []⟩,
  ⟨("there_windows", none), "there_windows", "there_windows", defArgs (top 41), defBody (top 41), defScope (top 41), [], []⟩,
  ⟨("beside", none), "beside", "beside", defArgs (top 42), defBody (top 42), defScope (top 42), [], []⟩,
  ⟨("steps_to", none), "steps_to", "steps_to", defArgs (top 43), defBody (top 43), defScope (top 43), [], []⟩,
  ⟨("not_back", none), "not_back", "not_back", defArgs (top 44), defBody (top 44), defScope (top 44), [], []⟩,
  ⟨("_law_draws", none), "_law_draws", "_law_draws", defArgs (top 46), defBody (top 46), defScope (top 46), [], []⟩,
  ⟨("_law_at", none), "_law_at", "_law_at", defArgs (top 47), defBody (top 47), defScope (top 47), [], []⟩,
  ⟨("_law_called", none), "_law_called", "_law_called", defArgs (top 48), defBody (top 48), defScope (top 48), [], []⟩,
  ⟨("_law_tree", none), "_law_tree", "_law_tree", defArgs (top 49), defBody (top 49), defScope (top 49), [], []⟩,
  ⟨("_law_box", none), "_law_box", "_law_box", defArgs (top 54), defBody (top 54), defScope (top 54), [], []⟩,
  ⟨("_law_sizes", none), "_law_sizes", "_law_sizes", defArgs (top 55), defBody (top 55), defScope (top 55), [], []⟩,
  ⟨("_law_shown", none), "_law_shown", "_law_shown", defArgs (top 56), defBody (top 56), defScope (top 56), [], []⟩,
  ⟨("_law_cells", none), "_law_cells", "_law_cells", defArgs (top 57), defBody (top 57), defScope (top 57), [], []⟩,
  ⟨("_law_next", none), "_law_next", "_law_next", defArgs (top 58), defBody (top 58), defScope (top 58), [], []⟩,
  ⟨("_law_beside", none), "_law_beside", "_law_beside", defArgs (top 59), defBody (top 59), defScope (top 59), [], []⟩,
  ⟨("_law_most", none), "_law_most", "_law_most", defArgs (top 60), defBody (top 60), defScope (top 60), [], []⟩,
  ⟨("_law_other_way", none), "_law_other_way", "_law_other_way", defArgs (top 61), defBody (top 61), defScope (top 61), [], []⟩,
  ⟨("_law_drawn", none), "_law_drawn", "_law_drawn", defArgs (top 62), defBody (top 62), defScope (top 62), [], []⟩,
  ⟨("law", none), "law", "law", defArgs (top 63), defBody (top 63), defScope (top 63), [], []⟩]
def ts : List He.Tab := [(fun K => He.ga K "AXES", tab_AXES.map (·.1)), (fun K => He.ga K "BACK", tab_BACK.map (·.1))]
def ex (K : PySem.W.Frag) : Bool := He.valsB K (He.ga K "AXES") tab_AXES && (He.valsB K (He.ga K "BACK") tab_BACK && (He.tupB K "FORTH" tup_FORTH && (He.tupB K "WAYS" tup_WAYS)))
section
variable {w : World} {K : PySem.W.Frag} {mg : Str → Option Value}
theorem T_val_AXES (T : Top fa fn ts ex w K mg) : He.valsB K (He.ga K "AXES") tab_AXES = true := (He.ba T.more).1
theorem T_val_BACK (T : Top fa fn ts ex w K mg) : He.valsB K (He.ga K "BACK") tab_BACK = true := (He.ba (He.ba T.more).2).1
theorem T_tup_FORTH (T : Top fa fn ts ex w K mg) : He.tupB K "FORTH" tup_FORTH = true := (He.ba (He.ba (He.ba T.more).2).2).1
theorem T_tup_WAYS (T : Top fa fn ts ex w K mg) : He.tupB K "WAYS" tup_WAYS = true := (He.ba (He.ba (He.ba T.more).2).2).2
end
theorem sc_is_whole : FnScope ["value", "least", "most"] ["value", "least", "most"] (defScope (top 16)) := ⟨rfl, rfl, rfl, by decide +kernel, rfl, by decide +kernel, by decide +kernel⟩
def f_is_whole  : Cells → R Out :=
    (fun (c : Cells) => (andV (fun (c : Cells) => (rdB 0) c >>= oIsi "int") (andV (notV (fun (c : Cells) => (rdB 0) c >>= oIsi "bool")) (chainV oLe oLe (rdB 1) (rdB 0) (rdB 2)))) c >>= fun d => R.ok (Out.rt d))
def a_is_whole  : List D → R D := fun ds => endR (f_is_whole  (cellsN ["value", "least", "most"] ds))
set_option maxHeartbeats 0 in
theorem k_is_whole {P : Program} {w : World} {K : PySem.W.Frag} {mg : Str → Option Value} {base : Heap} {k : Nat} (T : Top fa fn ts ex w K mg)    : Cal P w K mg base (k + 1) "is_whole" 3 (a_is_whole ) := by
  obtain ⟨fd, F⟩ := T.def_ 0 rfl
  exact cal_mk (ps := ["value", "least", "most"]) F (T.glo 3 rfl) (fun _ _ _ _ _ _ us hl => match us, hl with | [_, _, _], _ => rfl) sc_is_whole (fun cdv A outer s H E hr =>
    (ess_one (es_ret (ev_and (ev_isi (T := "int") (eb_name 0 rfl (.inl rfl) rfl rfl) rfl (T.free 0 rfl) b_isinstance rfl (T.free 1 rfl) b_int (by decide) rfl (by decide) rfl rfl rfl rfl) (ev_and (ev_not (ev_isi (T := "bool") (eb_name 0 rfl (.inl rfl) rfl rfl) rfl (T.free 0 rfl) b_isinstance rfl (T.free 2 rfl) b_bool (by decide) rfl (by decide) rfl rfl rfl rfl)) (ev_one (ev_chain op_le op_le does_cmp does_cmp (eb_name 1 rfl (.inl rfl) rfl rfl) (eb_name 0 rfl (.inl rfl) rfl rfl) (eb_name 2 rfl (.inl rfl) rfl rfl) rfl)))))))
theorem sc_is_name : FnScope ["value", "sign"] ["value"] (defScope (top 17)) := ⟨rfl, rfl, rfl, by decide +kernel, rfl, by decide +kernel, by decide +kernel⟩
def e_is_name_1  : Cells → R D :=
    (lift2 oIn (rdB 1) (fun (_ : Cells) => R.ok (D.str "abcdefghijklmnopqrstuvwxyz")))
def f_is_name  : Cells → R Out :=
    (fun (c : Cells) => (andV (fun (c : Cells) => (rdB 0) c >>= oIsi "str") (andV (chainV oLe oLe (fun (_ : Cells) => R.ok (D.int 1)) (fun (c : Cells) => (fun (c : Cells) => (rdB 0) c >>= fun d => (fun (_ : Cells) => R.ok ([] : List D)) c >>= fun ds => R.ok (d :: ds)) c >>= oLen) (fun (_ : Cells) => R.ok (D.int 8))) (fun (c : Cells) => (fun (c : Cells) => (compV [1] (fun (c : Cells) => (rdV 0) c >>= asIt) (gN 1) (fun (_ : Cells) => R.ok true) (e_is_name_1 )) c >>= fun d => (fun (_ : Cells) => R.ok ([] : List D)) c >>= fun ds => R.ok (d :: ds)) c >>= oAll))) c >>= fun d => R.ok (Out.rt d))
def a_is_name  : List D → R D := fun ds => endR (f_is_name  (cellsN ["value", "sign"] ds))
set_option maxHeartbeats 0 in
theorem k_is_name {P : Program} {w : World} {K : PySem.W.Frag} {mg : Str → Option Value} {base : Heap} {k : Nat} (T : Top fa fn ts ex w K mg)    : Cal P w K mg base (k + 1) "is_name" 1 (a_is_name ) := by
  obtain ⟨fd, F⟩ := T.def_ 1 rfl
  exact cal_mk (ps := ["value"]) F (T.glo 9 rfl) (fun _ _ _ _ _ _ us hl => match us, hl with | [_], _ => rfl) sc_is_name (fun cdv A outer s H E hr =>
    (ess_one (es_ret (ev_and (ev_isi (T := "str") (eb_name 0 rfl (.inl rfl) rfl rfl) rfl (T.free 0 rfl) b_isinstance rfl (T.free 4 rfl) b_str (by decide) rfl (by decide) rfl rfl rfl rfl) (ev_and (ev_chain op_le op_le does_cmp does_cmp (EB.of ev_int) (EB.of (eb_lenF rfl hr.units rfl (T.free 5 rfl) (eab_cons (eb_name 0 rfl (.inl rfl) rfl rfl) eab_nil rfl) rfl rfl)) (EB.of (ev_glob rfl (glob_int (T.int 6 rfl)) rfl)) rfl) (ev_one (eb_allF rfl hr.units rfl (T.free 8 rfl) (eab_cons (EB.ofL (el_lc (own := [("sign", 1)]) rfl sc_is_name.nd (blkOk_by (by kernel_rfl)) (ei_any (ev_name 0 rfl (.inl rfl) rfl rfl)) (fun _ _ _ _ _ => (eg_name 1 sc_is_name.nd rfl (.inl rfl) (.inr rfl))) (fun _ _ _ _ _ => ets_nil) (fun _ _ _ _ _ => (ev_cmp (op_inAll hr.units) does_in (eb_name 1 rfl (.inl rfl) rfl rfl) (EB.of (ev_glob rfl (glob_str (T.str 7 rfl)) rfl)) rfl)) (by decide) (fun _ => rfl))) eab_nil rfl) rfl rfl)))))))
theorem sc__is_part : FnScope ["value", "kind", "room"] ["value", "kind", "room"] (defScope (top 18)) := ⟨rfl, rfl, rfl, by decide +kernel, rfl, by decide +kernel, by decide +kernel⟩
def f__is_part (m_is_whole : List D → R D) (m__is_tree : List D → R D) : Cells → R Out :=
    (thenS (ifS (orT (notT (fun (c : Cells) => (fun (c : Cells) => (rdB 0) c >>= oIsi "tuple") c >>= asB)) (orT (fun (c : Cells) => (lift2 oNe (fun (c : Cells) => (fun (c : Cells) => (rdB 0) c >>= fun d => (fun (_ : Cells) => R.ok ([] : List D)) c >>= fun ds => R.ok (d :: ds)) c >>= oLen) (fun (_ : Cells) => R.ok (D.int 2))) c >>= asB) (notT (fun (c : Cells) => (callD 3 m_is_whole (fun (c : Cells) => (lift2 itemOf (rdB 0) (fun (_ : Cells) => R.ok (D.int 0))) c >>= fun d => (fun (c : Cells) => (fun (_ : Cells) => R.ok (D.int 1)) c >>= fun d => (fun (c : Cells) => (fun (_ : Cells) => R.ok (D.int 12)) c >>= fun d => (fun (_ : Cells) => R.ok ([] : List D)) c >>= fun ds => R.ok (d :: ds)) c >>= fun ds => R.ok (d :: ds)) c >>= fun ds => R.ok (d :: ds))) c >>= asB)))) (fun (c : Cells) => (fun (_ : Cells) => R.ok (D.bool false)) c >>= fun d => R.ok (Out.rt d))
    (fun (c : Cells) => R.ok (Out.nx c)))
    (fun (c : Cells) => (andV (callD 2 m__is_tree (fun (c : Cells) => (lift2 itemOf (rdB 0) (fun (_ : Cells) => R.ok (D.int 1))) c >>= fun d => (fun (c : Cells) => (rdV 2) c >>= fun d => (fun (_ : Cells) => R.ok ([] : List D)) c >>= fun ds => R.ok (d :: ds)) c >>= fun ds => R.ok (d :: ds))) (lift2 oNe (lift2 itemOf (lift2 itemOf (rdB 0) (fun (_ : Cells) => R.ok (D.int 1))) (fun (_ : Cells) => R.ok (D.int 0))) (rdB 1))) c >>= fun d => R.ok (Out.rt d)))
def a__is_part (m_is_whole : List D → R D) (m__is_tree : List D → R D) : List D → R D := fun ds => endR (f__is_part m_is_whole m__is_tree (cellsN ["value", "kind", "room"] ds))
set_option maxHeartbeats 0 in
theorem k__is_part {P : Program} {w : World} {K : PySem.W.Frag} {mg : Str → Option Value} {base : Heap} {k : Nat} {m_is_whole m__is_tree : List D → R D} (T : Top fa fn ts ex w K mg) (c_is_whole : Cal P w K mg base k "is_whole" 3 m_is_whole) (c__is_tree : Cal P w K mg base k "_is_tree" 2 m__is_tree)   : Cal P w K mg base (k + 1) "_is_part" 3 (a__is_part m_is_whole m__is_tree) := by
  obtain ⟨fd, F⟩ := T.def_ 2 rfl
  exact cal_mk (ps := ["value", "kind", "room"]) F (T.glo 12 rfl) (fun _ _ _ _ _ _ us hl => match us, hl with | [_, _, _], _ => rfl) sc__is_part (fun cdv A outer s H E hr =>
    (ess_cons (es_if (et_w (ew_or (et_not (et_val (ev_isi (T := "tuple") (eb_name 0 rfl (.inl rfl) rfl rfl) rfl (T.free 0 rfl) b_isinstance rfl (T.free 10 rfl) b_tuple (by decide) rfl (by decide) rfl rfl rfl rfl) (fun _ => rfl))) (ew_or (et_cmp (op_neD hr.units) does_ne (EB.of (eb_lenF rfl hr.units rfl (T.free 5 rfl) (eab_cons (eb_name 0 rfl (.inl rfl) rfl rfl) eab_nil rfl) rfl rfl)) (EB.of ev_int) rfl) (ew_or1 (et_not (et_val (ev_cal c_is_whole hr rfl (takes_of rfl rfl rfl rfl) (ea_cons (ev_item hr.units (eb_name 0 rfl (.inl rfl) rfl rfl) (EB.of ev_int) (fun _ _ => rfl)) (ea_cons ev_int (ea_cons (ev_glob rfl (glob_int (T.int 11 rfl)) rfl) ea_nil rfl) rfl) rfl) rfl rfl rfl) (fun _ => rfl))))))) (ess_one (es_ret ev_bl))
    ess_nil)
    (ess_one (es_ret (ev_and (ev_cal c__is_tree hr rfl (takes_of rfl rfl rfl rfl) (ea_cons (ev_item hr.units (eb_name 0 rfl (.inl rfl) rfl rfl) (EB.of ev_int) (fun _ _ => rfl)) (ea_cons (ev_name 2 rfl (.inl rfl) rfl rfl) ea_nil rfl) rfl) rfl rfl rfl) (ev_one (ev_cmp (op_neD hr.units) does_ne (EB.of (ev_item hr.units (EB.of (ev_item hr.units (eb_name 0 rfl (.inl rfl) rfl rfl) (EB.of ev_int) (fun _ _ => rfl))) (EB.of ev_int) (fun _ _ => rfl))) (eb_name 1 rfl (.inl rfl) rfl rfl) rfl)))))))
theorem sc__is_tree : FnScope ["value", "room", "one"] ["value", "room"] (defScope (top 19)) := ⟨rfl, rfl, rfl, by decide +kernel, rfl, by decide +kernel, by decide +kernel⟩
def e__is_tree_1 (m_is_name : List D → R D) (m__is_part : List D → R D) (m_is_whole : List D → R D) (m__is_tree : List D → R D) : Cells → R D :=
    (callD 3 m__is_part (fun (c : Cells) => (rdV 2) c >>= fun d => (fun (c : Cells) => (lift2 itemOf (rdB 0) (fun (_ : Cells) => R.ok (D.int 0))) c >>= fun d => (fun (c : Cells) => (lift2 oSub (rdB 1) (fun (_ : Cells) => R.ok (D.int 1))) c >>= fun d => (fun (_ : Cells) => R.ok ([] : List D)) c >>= fun ds => R.ok (d :: ds)) c >>= fun ds => R.ok (d :: ds)) c >>= fun ds => R.ok (d :: ds)))
def e__is_tree_2 (m_is_name : List D → R D) (m__is_part : List D → R D) (m_is_whole : List D → R D) (m__is_tree : List D → R D) : Cells → R D :=
    (andV (callD 2 m__is_tree (fun (c : Cells) => (rdV 2) c >>= fun d => (fun (c : Cells) => (lift2 oSub (rdB 1) (fun (_ : Cells) => R.ok (D.int 1))) c >>= fun d => (fun (_ : Cells) => R.ok ([] : List D)) c >>= fun ds => R.ok (d :: ds)) c >>= fun ds => R.ok (d :: ds))) (lift2 oNe (lift2 itemOf (rdB 2) (fun (_ : Cells) => R.ok (D.int 0))) (fun (_ : Cells) => R.ok (D.str "tabs"))))
def f__is_tree (m_is_name : List D → R D) (m__is_part : List D → R D) (m_is_whole : List D → R D) (m__is_tree : List D → R D) : Cells → R Out :=
    (thenS (ifS (orT (fun (c : Cells) => (lift2 oEq (rdB 1) (fun (_ : Cells) => R.ok (D.int 0))) c >>= asB) (orT (notT (fun (c : Cells) => (fun (c : Cells) => (rdB 0) c >>= oIsi "tuple") c >>= asB)) (orT (fun (c : Cells) => (lift2 oLt (fun (c : Cells) => (fun (c : Cells) => (rdB 0) c >>= fun d => (fun (_ : Cells) => R.ok ([] : List D)) c >>= fun ds => R.ok (d :: ds)) c >>= oLen) (fun (_ : Cells) => R.ok (D.int 2))) c >>= asB) (notT (fun (c : Cells) => (fun (c : Cells) => (lift2 itemOf (rdB 0) (fun (_ : Cells) => R.ok (D.int 0))) c >>= oIsi "str") c >>= asB))))) (fun (c : Cells) => (fun (_ : Cells) => R.ok (D.bool false)) c >>= fun d => R.ok (Out.rt d))
    (fun (c : Cells) => R.ok (Out.nx c)))
    (thenS (ifS (fun (c : Cells) => (lift2 oEq (lift2 itemOf (rdB 0) (fun (_ : Cells) => R.ok (D.int 0))) (fun (_ : Cells) => R.ok (D.str "win"))) c >>= asB) (fun (c : Cells) => (andV (lift2 oEq (fun (c : Cells) => (fun (c : Cells) => (rdB 0) c >>= fun d => (fun (_ : Cells) => R.ok ([] : List D)) c >>= fun ds => R.ok (d :: ds)) c >>= oLen) (fun (_ : Cells) => R.ok (D.int 2))) (callD 1 m_is_name (fun (c : Cells) => (lift2 itemOf (rdB 0) (fun (_ : Cells) => R.ok (D.int 1))) c >>= fun d => (fun (_ : Cells) => R.ok ([] : List D)) c >>= fun ds => R.ok (d :: ds)))) c >>= fun d => R.ok (Out.rt d))
    (fun (c : Cells) => R.ok (Out.nx c)))
    (thenS (ifS (fun (c : Cells) => (lift2 oIn (lift2 itemOf (rdB 0) (fun (_ : Cells) => R.ok (D.int 0))) (fun (c : Cells) => (fun (c : Cells) => (fun (_ : Cells) => R.ok (D.str "row")) c >>= fun d => (fun (c : Cells) => (fun (_ : Cells) => R.ok (D.str "col")) c >>= fun d => (fun (_ : Cells) => R.ok ([] : List D)) c >>= fun ds => R.ok (d :: ds)) c >>= fun ds => R.ok (d :: ds)) c >>= mkTup)) c >>= asB) (thenS (ifS (orT (fun (c : Cells) => (lift2 oNe (fun (c : Cells) => (fun (c : Cells) => (rdB 0) c >>= fun d => (fun (_ : Cells) => R.ok ([] : List D)) c >>= fun ds => R.ok (d :: ds)) c >>= oLen) (fun (_ : Cells) => R.ok (D.int 2))) c >>= asB) (orT (notT (fun (c : Cells) => (fun (c : Cells) => (lift2 itemOf (rdB 0) (fun (_ : Cells) => R.ok (D.int 1))) c >>= oIsi "tuple") c >>= asB)) (fun (c : Cells) => (lift2 oLt (fun (c : Cells) => (fun (c : Cells) => (lift2 itemOf (rdB 0) (fun (_ : Cells) => R.ok (D.int 1))) c >>= fun d => (fun (_ : Cells) => R.ok ([] : List D)) c >>= fun ds => R.ok (d :: ds)) c >>= oLen) (fun (_ : Cells) => R.ok (D.int 2))) c >>= asB))) (fun (c : Cells) => (fun (_ : Cells) => R.ok (D.bool false)) c >>= fun d => R.ok (Out.rt d))
    (fun (c : Cells) => R.ok (Out.nx c)))
    (fun (c : Cells) => (fun (c : Cells) => (fun (c : Cells) => (compV [2] (fun (c : Cells) => (lift2 itemOf (rdB 0) (fun (_ : Cells) => R.ok (D.int 1))) c >>= asIt) (gN 2) (fun (_ : Cells) => R.ok true) (e__is_tree_1 m_is_name m__is_part m_is_whole m__is_tree)) c >>= fun d => (fun (_ : Cells) => R.ok ([] : List D)) c >>= fun ds => R.ok (d :: ds)) c >>= oAll) c >>= fun d => R.ok (Out.rt d)))
    (fun (c : Cells) => R.ok (Out.nx c)))
    (thenS (ifS (orT (fun (c : Cells) => (lift2 oNe (lift2 itemOf (rdB 0) (fun (_ : Cells) => R.ok (D.int 0))) (fun (_ : Cells) => R.ok (D.str "tabs"))) c >>= asB) (orT (fun (c : Cells) => (lift2 oNe (fun (c : Cells) => (fun (c : Cells) => (rdB 0) c >>= fun d => (fun (_ : Cells) => R.ok ([] : List D)) c >>= fun ds => R.ok (d :: ds)) c >>= oLen) (fun (_ : Cells) => R.ok (D.int 3))) c >>= asB) (orT (notT (fun (c : Cells) => (fun (c : Cells) => (lift2 itemOf (rdB 0) (fun (_ : Cells) => R.ok (D.int 2))) c >>= oIsi "tuple") c >>= asB)) (fun (c : Cells) => (lift2 oEq (fun (c : Cells) => (fun (c : Cells) => (lift2 itemOf (rdB 0) (fun (_ : Cells) => R.ok (D.int 2))) c >>= fun d => (fun (_ : Cells) => R.ok ([] : List D)) c >>= fun ds => R.ok (d :: ds)) c >>= oLen) (fun (_ : Cells) => R.ok (D.int 0))) c >>= asB)))) (fun (c : Cells) => (fun (_ : Cells) => R.ok (D.bool false)) c >>= fun d => R.ok (Out.rt d))
    (fun (c : Cells) => R.ok (Out.nx c)))
    (thenS (ifS (notT (fun (c : Cells) => (callD 3 m_is_whole (fun (c : Cells) => (lift2 itemOf (rdB 0) (fun (_ : Cells) => R.ok (D.int 1))) c >>= fun d => (fun (c : Cells) => (fun (_ : Cells) => R.ok (D.int 0)) c >>= fun d => (fun (c : Cells) => (lift2 oSub (fun (c : Cells) => (fun (c : Cells) => (lift2 itemOf (rdB 0) (fun (_ : Cells) => R.ok (D.int 2))) c >>= fun d => (fun (_ : Cells) => R.ok ([] : List D)) c >>= fun ds => R.ok (d :: ds)) c >>= oLen) (fun (_ : Cells) => R.ok (D.int 1))) c >>= fun d => (fun (_ : Cells) => R.ok ([] : List D)) c >>= fun ds => R.ok (d :: ds)) c >>= fun ds => R.ok (d :: ds)) c >>= fun ds => R.ok (d :: ds))) c >>= asB)) (fun (c : Cells) => (fun (_ : Cells) => R.ok (D.bool false)) c >>= fun d => R.ok (Out.rt d))
    (fun (c : Cells) => R.ok (Out.nx c)))
    (fun (c : Cells) => (fun (c : Cells) => (fun (c : Cells) => (compV [2] (fun (c : Cells) => (lift2 itemOf (rdB 0) (fun (_ : Cells) => R.ok (D.int 2))) c >>= asIt) (gN 2) (fun (_ : Cells) => R.ok true) (e__is_tree_2 m_is_name m__is_part m_is_whole m__is_tree)) c >>= fun d => (fun (_ : Cells) => R.ok ([] : List D)) c >>= fun ds => R.ok (d :: ds)) c >>= oAll) c >>= fun d => R.ok (Out.rt d)))))))
def a__is_tree (m_is_name : List D → R D) (m__is_part : List D → R D) (m_is_whole : List D → R D) (m__is_tree : List D → R D) : List D → R D := fun ds => endR (f__is_tree m_is_name m__is_part m_is_whole m__is_tree (cellsN ["value", "room", "one"] ds))
set_option maxHeartbeats 0 in
theorem k__is_tree {P : Program} {w : World} {K : PySem.W.Frag} {mg : Str → Option Value} {base : Heap} {k : Nat} {m_is_name m__is_part m_is_whole m__is_tree : List D → R D} (T : Top fa fn ts ex w K mg) (c_is_name : Cal P w K mg base k "is_name" 1 m_is_name) (c__is_part : Cal P w K mg base k "_is_part" 3 m__is_part) (c_is_whole : Cal P w K mg base k "is_whole" 3 m_is_whole) (c__is_tree : Cal P w K mg base k "_is_tree" 2 m__is_tree)   : Cal P w K mg base (k + 1) "_is_tree" 2 (a__is_tree m_is_name m__is_part m_is_whole m__is_tree) := by
  obtain ⟨fd, F⟩ := T.def_ 3 rfl
  exact cal_mk (ps := ["value", "room"]) F (T.glo 17 rfl) (fun _ _ _ _ _ _ us hl => match us, hl with | [_, _], _ => rfl) sc__is_tree (fun cdv A outer s H E hr =>
    (ess_cons (es_if (et_w (ew_or (et_cmp (op_eqD hr.units) does_eq (eb_name 1 rfl (.inr (.inl rfl)) rfl rfl) (EB.of ev_int) rfl) (ew_or (et_not (et_val (ev_isi (T := "tuple") (eb_name 0 rfl (.inr (.inl rfl)) rfl rfl) rfl (T.free 0 rfl) b_isinstance rfl (T.free 10 rfl) b_tuple (by decide) rfl (by decide) rfl rfl rfl rfl) (fun _ => rfl))) (ew_or (et_cmp op_ltAll does_lt (EB.of (eb_lenF rfl hr.units rfl (T.free 5 rfl) (eab_cons (eb_name 0 rfl (.inr (.inl rfl)) rfl rfl) eab_nil rfl) rfl rfl)) (EB.of ev_int) rfl) (ew_or1 (et_not (et_val (ev_isi (T := "str") (EB.of (ev_item hr.units (eb_name 0 rfl (.inr (.inl rfl)) rfl rfl) (EB.of ev_int) (fun _ _ => rfl))) rfl (T.free 0 rfl) b_isinstance rfl (T.free 4 rfl) b_str (by decide) rfl (by decide) rfl rfl rfl rfl) (fun _ => rfl)))))))) (ess_one (es_ret ev_bl))
    ess_nil)
    (ess_cons (es_if (et_cmp (op_eqD hr.units) does_eq (EB.of (ev_item hr.units (eb_name 0 rfl (.inr (.inl rfl)) rfl rfl) (EB.of ev_int) (fun _ _ => rfl))) (EB.of (ev_glob rfl (glob_str (T.str 13 rfl)) rfl)) rfl) (ess_one (es_ret (ev_and (ev_cmp (op_eqD hr.units) does_eq (EB.of (eb_lenF rfl hr.units rfl (T.free 5 rfl) (eab_cons (eb_name 0 rfl (.inr (.inl rfl)) rfl rfl) eab_nil rfl) rfl rfl)) (EB.of ev_int) rfl) (ev_one (ev_cal c_is_name hr rfl (takes_of rfl rfl rfl rfl) (ea_cons (ev_item hr.units (eb_name 0 rfl (.inr (.inl rfl)) rfl rfl) (EB.of ev_int) (fun _ _ => rfl)) ea_nil rfl) rfl rfl rfl)))))
    ess_nil)
    (ess_cons (es_if (et_cmp (op_inAll hr.units) does_in (EB.of (ev_item hr.units (eb_name 0 rfl (.inr (.inl rfl)) rfl rfl) (EB.of ev_int) (fun _ _ => rfl))) (EB.of (ev_tup (ea_cons (ev_glob rfl (glob_str (T.str 14 rfl)) rfl) (ea_cons (ev_glob rfl (glob_str (T.str 15 rfl)) rfl) ea_nil rfl) rfl))) rfl) (ess_cons (es_if (et_w (ew_or (et_cmp (op_neD hr.units) does_ne (EB.of (eb_lenF rfl hr.units rfl (T.free 5 rfl) (eab_cons (eb_name 0 rfl (.inr (.inl rfl)) rfl rfl) eab_nil rfl) rfl rfl)) (EB.of ev_int) rfl) (ew_or (et_not (et_val (ev_isi (T := "tuple") (EB.of (ev_item hr.units (eb_name 0 rfl (.inr (.inl rfl)) rfl rfl) (EB.of ev_int) (fun _ _ => rfl))) rfl (T.free 0 rfl) b_isinstance rfl (T.free 10 rfl) b_tuple (by decide) rfl (by decide) rfl rfl rfl rfl) (fun _ => rfl))) (ew_or1 (et_cmp op_ltAll does_lt (EB.of (eb_lenF rfl hr.units rfl (T.free 5 rfl) (eab_cons (EB.of (ev_item hr.units (eb_name 0 rfl (.inr (.inl rfl)) rfl rfl) (EB.of ev_int) (fun _ _ => rfl))) eab_nil rfl) rfl rfl)) (EB.of ev_int) rfl))))) (ess_one (es_ret ev_bl))
    ess_nil)
    (ess_one (es_ret (eb_allF rfl hr.units rfl (T.free 8 rfl) (eab_cons (EB.ofL (el_lc (own := [("one", 2)]) rfl sc__is_tree.nd (blkOk_by (by kernel_rfl)) (ei_any (ev_item hr.units (eb_name 0 rfl (.inr (.inl rfl)) rfl rfl) (EB.of ev_int) (fun _ _ => rfl))) (fun _ _ _ _ _ => (eg_name 2 sc__is_tree.nd rfl (.inl rfl) (.inr rfl))) (fun _ _ _ _ _ => ets_nil) (fun _ _ _ _ _ => (ev_cal c__is_part hr rfl takes0 (ea_cons (ev_name 2 rfl (.inl rfl) rfl rfl) (ea_cons (ev_item hr.units (eb_name 0 rfl (.inr (.inl rfl)) rfl rfl) (EB.of ev_int) (fun _ _ => rfl)) (ea_cons (ev_op op_sub does_sub (eb_name 1 rfl (.inr (.inl rfl)) rfl rfl) (EB.of ev_int)) ea_nil rfl) rfl) rfl) rfl rfl rfl)) (by decide) (fun _ => rfl))) eab_nil rfl) rfl rfl))))
    ess_nil)
    (ess_cons (es_if (et_w (ew_or (et_cmp (op_neD hr.units) does_ne (EB.of (ev_item hr.units (eb_name 0 rfl (.inr (.inl rfl)) rfl rfl) (EB.of ev_int) (fun _ _ => rfl))) (EB.of (ev_glob rfl (glob_str (T.str 16 rfl)) rfl)) rfl) (ew_or (et_cmp (op_neD hr.units) does_ne (EB.of (eb_lenF rfl hr.units rfl (T.free 5 rfl) (eab_cons (eb_name 0 rfl (.inr (.inl rfl)) rfl rfl) eab_nil rfl) rfl rfl)) (EB.of ev_int) rfl) (ew_or (et_not (et_val (ev_isi (T := "tuple") (EB.of (ev_item hr.units (eb_name 0 rfl (.inr (.inl rfl)) rfl rfl) (EB.of ev_int) (fun _ _ => rfl))) rfl (T.free 0 rfl) b_isinstance rfl (T.free 10 rfl) b_tuple (by decide) rfl (by decide) rfl rfl rfl rfl) (fun _ => rfl))) (ew_or1 (et_cmp (op_eqD hr.units) does_eq (EB.of (eb_lenF rfl hr.units rfl (T.free 5 rfl) (eab_cons (EB.of (ev_item hr.units (eb_name 0 rfl (.inr (.inl rfl)) rfl rfl) (EB.of ev_int) (fun _ _ => rfl))) eab_nil rfl) rfl rfl)) (EB.of ev_int) rfl)))))) (ess_one (es_ret ev_bl))
    ess_nil)
    (ess_cons (es_if (et_not (et_val (ev_cal c_is_whole hr rfl (takes_of rfl rfl rfl rfl) (ea_cons (ev_item hr.units (eb_name 0 rfl (.inr (.inl rfl)) rfl rfl) (EB.of ev_int) (fun _ _ => rfl)) (ea_cons ev_int (ea_cons (ev_op op_sub does_sub (EB.of (eb_lenF rfl hr.units rfl (T.free 5 rfl) (eab_cons (EB.of (ev_item hr.units (eb_name 0 rfl (.inr (.inl rfl)) rfl rfl) (EB.of ev_int) (fun _ _ => rfl))) eab_nil rfl) rfl rfl)) (EB.of ev_int)) ea_nil rfl) rfl) rfl) rfl rfl rfl) (fun _ => rfl))) (ess_one (es_ret ev_bl))
    ess_nil)
    (ess_one (es_ret (eb_allF rfl hr.units rfl (T.free 8 rfl) (eab_cons (EB.ofL (el_lc (own := [("one", 2)]) rfl sc__is_tree.nd (blkOk_by (by kernel_rfl)) (ei_any (ev_item hr.units (eb_name 0 rfl (.inr (.inl rfl)) rfl rfl) (EB.of ev_int) (fun _ _ => rfl))) (fun _ _ _ _ _ => (eg_name 2 sc__is_tree.nd rfl (.inl rfl) (.inr rfl))) (fun _ _ _ _ _ => ets_nil) (fun _ _ _ _ _ => (ev_and (ev_cal c__is_tree hr rfl takes0 (ea_cons (ev_name 2 rfl (.inl rfl) rfl rfl) (ea_cons (ev_op op_sub does_sub (eb_name 1 rfl (.inr (.inl rfl)) rfl rfl) (EB.of ev_int)) ea_nil rfl) rfl) rfl rfl rfl) (ev_one (ev_cmp (op_neD hr.units) does_ne (EB.of (ev_item hr.units (eb_name 2 rfl (.inl rfl) rfl rfl) (EB.of ev_int) (fun _ _ => rfl))) (EB.of (ev_glob rfl (glob_str (T.str 16 rfl)) rfl)) rfl)))) (by decide) (fun _ => rfl))) eab_nil rfl) rfl rfl)))))))))
theorem sc_inner_trees : FnScope ["tree", "part"] ["tree"] (defScope (top 20)) := ⟨rfl, rfl, rfl, by decide +kernel, rfl, by decide +kernel, by decide +kernel⟩
def e_inner_trees_1  : Cells → R D :=
    (lift2 itemOf (rdB 1) (fun (_ : Cells) => R.ok (D.int 1)))
def f_inner_trees  : Cells → R Out :=
    (thenS (ifS (fun (c : Cells) => (lift2 oEq (lift2 itemOf (rdB 0) (fun (_ : Cells) => R.ok (D.int 0))) (fun (_ : Cells) => R.ok (D.str "win"))) c >>= asB) (fun (c : Cells) => (fun (c : Cells) => (fun (_ : Cells) => R.ok ([] : List D)) c >>= mkLst) c >>= fun d => R.ok (Out.rt d))
    (fun (c : Cells) => R.ok (Out.nx c)))
    (fun (c : Cells) => (ifV (fun (c : Cells) => (lift2 oEq (lift2 itemOf (rdB 0) (fun (_ : Cells) => R.ok (D.int 0))) (fun (_ : Cells) => R.ok (D.str "tabs"))) c >>= asB) (fun (c : Cells) => (fun (c : Cells) => (lift2 itemOf (rdB 0) (fun (_ : Cells) => R.ok (D.int 2))) c >>= fun d => (fun (_ : Cells) => R.ok ([] : List D)) c >>= fun ds => R.ok (d :: ds)) c >>= oList) (compV [1] (fun (c : Cells) => (lift2 itemOf (rdB 0) (fun (_ : Cells) => R.ok (D.int 1))) c >>= asIt) (gN 1) (fun (_ : Cells) => R.ok true) (e_inner_trees_1 ))) c >>= fun d => R.ok (Out.rt d)))
def a_inner_trees  : List D → R D := fun ds => endR (f_inner_trees  (cellsN ["tree", "part"] ds))
set_option maxHeartbeats 0 in
theorem k_inner_trees {P : Program} {w : World} {K : PySem.W.Frag} {mg : Str → Option Value} {base : Heap} {k : Nat} (T : Top fa fn ts ex w K mg)    : Cal P w K mg base (k + 1) "inner_trees" 1 (a_inner_trees ) := by
  obtain ⟨fd, F⟩ := T.def_ 4 rfl
  exact cal_mk (ps := ["tree"]) F (T.glo 19 rfl) (fun _ _ _ _ _ _ us hl => match us, hl with | [_], _ => rfl) sc_inner_trees (fun cdv A outer s H E hr =>
    (ess_cons (es_if (et_cmp (op_eqD hr.units) does_eq (EB.of (ev_item hr.units (eb_name 0 rfl (.inl rfl) rfl rfl) (EB.of ev_int) (fun _ _ => rfl))) (EB.of (ev_glob rfl (glob_str (T.str 13 rfl)) rfl)) rfl) (ess_one (es_ret (EV.ofL (el_lst ea_nil))))
    ess_nil)
    (ess_one (es_ret (ev_ifExp (et_cmp (op_eqD hr.units) does_eq (EB.of (ev_item hr.units (eb_name 0 rfl (.inl rfl) rfl rfl) (EB.of ev_int) (fun _ _ => rfl))) (EB.of (ev_glob rfl (glob_str (T.str 16 rfl)) rfl)) rfl) (eb_listF rfl hr.units rfl (T.free 18 rfl) (eab_cons (EB.of (ev_item hr.units (eb_name 0 rfl (.inl rfl) rfl rfl) (EB.of ev_int) (fun _ _ => rfl))) eab_nil rfl) rfl rfl) (EV.ofL (el_lc (own := [("part", 1)]) rfl sc_inner_trees.nd (blkOk_by (by kernel_rfl)) (ei_any (ev_item hr.units (eb_name 0 rfl (.inl rfl) rfl rfl) (EB.of ev_int) (fun _ _ => rfl))) (fun _ _ _ _ _ => (eg_name 1 sc_inner_trees.nd rfl (.inl rfl) (.inr rfl))) (fun _ _ _ _ _ => ets_nil) (fun _ _ _ _ _ => (ev_item hr.units (eb_name 1 rfl (.inl rfl) rfl rfl) (EB.of ev_int) (fun _ _ => rfl))) (by decide) (fun _ => rfl))))))))
theorem sc_names_of : FnScope ["tree", "names", "inner"] ["tree"] (defScope (top 21)) := ⟨rfl, rfl, rfl, by decide +kernel, rfl, by decide +kernel, by decide +kernel⟩
def b_names_of_1 (m_inner_trees : List D → R D) (m_names_of : List D → R D) : Cells → R Out :=
    (extS 1 (callD 1 m_names_of (fun (c : Cells) => (rdV 2) c >>= fun d => (fun (_ : Cells) => R.ok ([] : List D)) c >>= fun ds => R.ok (d :: ds))))
def f_names_of (m_inner_trees : List D → R D) (m_names_of : List D → R D) : Cells → R Out :=
    (thenS (ifS (fun (c : Cells) => (lift2 oEq (lift2 itemOf (rdB 0) (fun (_ : Cells) => R.ok (D.int 0))) (fun (_ : Cells) => R.ok (D.str "win"))) c >>= asB) (fun (c : Cells) => (fun (c : Cells) => (fun (c : Cells) => (lift2 itemOf (rdB 0) (fun (_ : Cells) => R.ok (D.int 1))) c >>= fun d => (fun (_ : Cells) => R.ok ([] : List D)) c >>= fun ds => R.ok (d :: ds)) c >>= mkLst) c >>= fun d => R.ok (Out.rt d))
    (fun (c : Cells) => R.ok (Out.nx c)))
    (thenS (fun (c : Cells) => (fun (c : Cells) => (fun (_ : Cells) => R.ok ([] : List D)) c >>= mkLst) c >>= fun d => R.ok (Out.nx (c.set 1 (Cell.ow d))))
    (thenS (forS (fun (c : Cells) => (callD 1 m_inner_trees (fun (c : Cells) => (rdV 0) c >>= fun d => (fun (_ : Cells) => R.ok ([] : List D)) c >>= fun ds => R.ok (d :: ds))) c >>= asIt) (gN 2)
    (b_names_of_1 m_inner_trees m_names_of))
    (fun (c : Cells) => rdB 1 c >>= fun d => R.ok (Out.rt d)))))
def a_names_of (m_inner_trees : List D → R D) (m_names_of : List D → R D) : List D → R D := fun ds => endR (f_names_of m_inner_trees m_names_of (cellsN ["tree", "names", "inner"] ds))
set_option maxHeartbeats 0 in
theorem k_names_of {P : Program} {w : World} {K : PySem.W.Frag} {mg : Str → Option Value} {base : Heap} {k : Nat} {m_inner_trees m_names_of : List D → R D} (T : Top fa fn ts ex w K mg) (c_inner_trees : Cal P w K mg base k "inner_trees" 1 m_inner_trees) (c_names_of : Cal P w K mg base k "names_of" 1 m_names_of)   : Cal P w K mg base (k + 1) "names_of" 1 (a_names_of m_inner_trees m_names_of) := by
  obtain ⟨fd, F⟩ := T.def_ 5 rfl
  exact cal_mk (ps := ["tree"]) F (T.glo 20 rfl) (fun _ _ _ _ _ _ us hl => match us, hl with | [_], _ => rfl) sc_names_of (fun cdv A outer s H E hr =>
    (ess_cons (es_if (et_cmp (op_eqD hr.units) does_eq (EB.of (ev_item hr.units (eb_name 0 rfl (.inl rfl) rfl rfl) (EB.of ev_int) (fun _ _ => rfl))) (EB.of (ev_glob rfl (glob_str (T.str 13 rfl)) rfl)) rfl) (ess_one (es_ret (EV.ofL (el_lst (ea_cons (ev_item hr.units (eb_name 0 rfl (.inl rfl) rfl rfl) (EB.of ev_int) (fun _ _ => rfl)) ea_nil rfl)))))
    ess_nil)
    (ess_cons (es_setO 1 sc_names_of.nd rfl (.inl rfl) (.inl rfl) (el_lst ea_nil) rfl)
    (ess_cons (es_for (passes_of rfl) rfl (ei_any (ev_cal c_inner_trees hr rfl (takes_of rfl rfl rfl rfl) (ea_cons (ev_name 0 rfl (.inl rfl) rfl rfl) ea_nil rfl) rfl rfl rfl)) (eg_name 2 sc_names_of.nd rfl (.inl rfl) (.inl rfl))
    (ess_one (es_extend 1 rfl (.inl rfl) rfl rfl (ev_cal c_names_of hr rfl (takes_of rfl rfl rfl rfl) (ea_cons (ev_name 2 rfl (.inl rfl) rfl rfl) ea_nil rfl) rfl rfl rfl) rfl rfl rfl rfl rfl)) (fun _ => rfl))
    (ess_one (es_retName 1 rfl (.inl rfl) rfl rfl))))))
theorem sc_is_layout : FnScope ["value", "names", "name"] ["value"] (defScope (top 22)) := ⟨rfl, rfl, rfl, by decide +kernel, rfl, by decide +kernel, by decide +kernel⟩
def e_is_layout_1 (m__is_tree : List D → R D) (m_names_of : List D → R D) : Cells → R D :=
    (rdV 2)
def e_is_layout_2 (m__is_tree : List D → R D) (m_names_of : List D → R D) : Cells → R D :=
    (fun (_ : Cells) => R.ok (D.bool true))
def f_is_layout (m__is_tree : List D → R D) (m_names_of : List D → R D) : Cells → R Out :=
    (thenS (ifS (notT (fun (c : Cells) => (callD 2 m__is_tree (fun (c : Cells) => (rdV 0) c >>= fun d => (fun (c : Cells) => (fun (_ : Cells) => R.ok (D.int 8)) c >>= fun d => (fun (_ : Cells) => R.ok ([] : List D)) c >>= fun ds => R.ok (d :: ds)) c >>= fun ds => R.ok (d :: ds))) c >>= asB)) (fun (c : Cells) => (fun (_ : Cells) => R.ok (D.bool false)) c >>= fun d => R.ok (Out.rt d))
    (fun (c : Cells) => R.ok (Out.nx c)))
    (thenS (fun (c : Cells) => (callD 1 m_names_of (fun (c : Cells) => (rdV 0) c >>= fun d => (fun (_ : Cells) => R.ok ([] : List D)) c >>= fun ds => R.ok (d :: ds))) c >>= fun d => R.ok (Out.nx (c.set 1 (Cell.fz d))))
    (fun (c : Cells) => (andV (lift2 oLe (fun (c : Cells) => (fun (c : Cells) => (rdB 1) c >>= fun d => (fun (_ : Cells) => R.ok ([] : List D)) c >>= fun ds => R.ok (d :: ds)) c >>= oLen) (fun (_ : Cells) => R.ok (D.int 16))) (lift2 oEq (fun (c : Cells) => (fun (c : Cells) => (compDV [2] (fun (c : Cells) => (rdV 1) c >>= asIt) (gN 2) (fun (_ : Cells) => R.ok true) (e_is_layout_1 m__is_tree m_names_of) (e_is_layout_2 m__is_tree m_names_of)) c >>= fun d => (fun (_ : Cells) => R.ok ([] : List D)) c >>= fun ds => R.ok (d :: ds)) c >>= oLen) (fun (c : Cells) => (fun (c : Cells) => (rdB 1) c >>= fun d => (fun (_ : Cells) => R.ok ([] : List D)) c >>= fun ds => R.ok (d :: ds)) c >>= oLen))) c >>= fun d => R.ok (Out.rt d))))
def a_is_layout (m__is_tree : List D → R D) (m_names_of : List D → R D) : List D → R D := fun ds => endR (f_is_layout m__is_tree m_names_of (cellsN ["value", "names", "name"] ds))
set_option maxHeartbeats 0 in
theorem k_is_layout {P : Program} {w : World} {K : PySem.W.Frag} {mg : Str → Option Value} {base : Heap} {k : Nat} {m__is_tree m_names_of : List D → R D} (T : Top fa fn ts ex w K mg) (c__is_tree : Cal P w K mg base k "_is_tree" 2 m__is_tree) (c_names_of : Cal P w K mg base k "names_of" 1 m_names_of)   : Cal P w K mg base (k + 1) "is_layout" 1 (a_is_layout m__is_tree m_names_of) := by
  obtain ⟨fd, F⟩ := T.def_ 6 rfl
  exact cal_mk (ps := ["value"]) F (T.glo 23 rfl) (fun _ _ _ _ _ _ us hl => match us, hl with | [_], _ => rfl) sc_is_layout (fun cdv A outer s H E hr =>
    (ess_cons (es_if (et_not (et_val (ev_cal c__is_tree hr rfl (takes_of rfl rfl rfl rfl) (ea_cons (ev_name 0 rfl (.inl rfl) rfl rfl) (ea_cons (ev_glob rfl (glob_int (T.int 21 rfl)) rfl) ea_nil rfl) rfl) rfl rfl rfl) (fun _ => rfl))) (ess_one (es_ret ev_bl))
    ess_nil)
    (ess_cons (es_set 1 sc_is_layout.nd rfl (.inl rfl) (.inl rfl) (ev_cal c_names_of hr rfl (takes_of rfl rfl rfl rfl) (ea_cons (ev_name 0 rfl (.inl rfl) rfl rfl) ea_nil rfl) rfl rfl rfl) rfl)
    (ess_one (es_ret (ev_and (ev_cmp op_le does_cmp (EB.of (eb_lenF rfl hr.units rfl (T.free 5 rfl) (eab_cons (eb_name 1 rfl (.inl rfl) rfl rfl) eab_nil rfl) rfl rfl)) (EB.of (ev_glob rfl (glob_int (T.int 22 rfl)) rfl)) rfl) (ev_one (ev_cmp (op_eqD hr.units) does_eq (EB.of (eb_lenF rfl hr.units rfl (T.free 5 rfl) (eab_cons (EB.ofL (el_dc (own := [("name", 2)]) rfl sc_is_layout.nd (blkOk_by (by kernel_rfl)) (ei_any (ev_name 1 rfl (.inl rfl) rfl rfl)) (fun _ _ _ _ _ => (eg_name 2 sc_is_layout.nd rfl (.inl rfl) (.inr rfl))) (fun _ _ _ _ _ => ets_nil) (fun _ _ _ _ _ => (ev_name 2 rfl (.inl rfl) rfl rfl)) (fun _ _ _ _ _ => ev_bl) (by decide) (fun _ => rfl))) eab_nil rfl) rfl rfl)) (EB.of (eb_lenF rfl hr.units rfl (T.free 5 rfl) (eab_cons (eb_name 1 rfl (.inl rfl) rfl rfl) eab_nil rfl) rfl rfl)) rfl))))))))
theorem sc_check_layout : FnScope ["layout"] ["layout"] (defScope (top 23)) := ⟨rfl, rfl, rfl, by decide +kernel, rfl, by decide +kernel, by decide +kernel⟩
def f_check_layout (K : PySem.W.Frag) (m_is_layout : List D → R D) : Cells → R Out :=
    (ifS (notT (fun (c : Cells) => (callD 1 m_is_layout (fun (c : Cells) => (rdV 0) c >>= fun d => (fun (_ : Cells) => R.ok ([] : List D)) c >>= fun ds => R.ok (d :: ds))) c >>= asB)) (fun (_ : Cells) => R.exc (He.ga K "BadLayout"))
    (fun (c : Cells) => R.ok (Out.nx c)))
def a_check_layout (K : PySem.W.Frag) (m_is_layout : List D → R D) : List D → R D := fun ds => endR (f_check_layout K m_is_layout (cellsN ["layout"] ds))
set_option maxHeartbeats 0 in
theorem k_check_layout {P : Program} {w : World} {K : PySem.W.Frag} {mg : Str → Option Value} {base : Heap} {k : Nat} {m_is_layout : List D → R D} (T : Top fa fn ts ex w K mg) (c_is_layout : Cal P w K mg base k "is_layout" 1 m_is_layout)   : Cal P w K mg base (k + 1) "check_layout" 1 (a_check_layout K m_is_layout) := by
  obtain ⟨fd, F⟩ := T.def_ 7 rfl
  exact cal_mk (ps := ["layout"]) F (T.glo 26 rfl) (fun _ _ _ _ _ _ us hl => match us, hl with | [_], _ => rfl) sc_check_layout (fun cdv A outer s H E hr =>
    (ess_one (es_if (et_not (et_val (ev_cal c_is_layout hr rfl (takes_of rfl rfl rfl rfl) (ea_cons (ev_name 0 rfl (.inl rfl) rfl rfl) ea_nil rfl) rfl rfl rfl) (fun _ => rfl))) (ess_one (es_raise rfl (takes_of rfl rfl rfl rfl) (T.exc 24 rfl) (T.glo 25 rfl) rfl rfl))
    ess_nil)))
theorem sc_is_box : FnScope ["value", "one"] ["value"] (defScope (top 26)) := ⟨rfl, rfl, rfl, by decide +kernel, rfl, by decide +kernel, by decide +kernel⟩
def e_is_box_1 (m_is_whole : List D → R D) : Cells → R D :=
    (callD 3 m_is_whole (fun (c : Cells) => (rdV 1) c >>= fun d => (fun (c : Cells) => (fun (_ : Cells) => R.ok (D.int 0)) c >>= fun d => (fun (c : Cells) => (fun (_ : Cells) => R.ok (D.int 1000)) c >>= fun d => (fun (_ : Cells) => R.ok ([] : List D)) c >>= fun ds => R.ok (d :: ds)) c >>= fun ds => R.ok (d :: ds)) c >>= fun ds => R.ok (d :: ds)))
def f_is_box (m_is_whole : List D → R D) : Cells → R Out :=
    (fun (c : Cells) => (andV (fun (c : Cells) => (rdB 0) c >>= oIsi "tuple") (andV (lift2 oEq (fun (c : Cells) => (fun (c : Cells) => (rdB 0) c >>= fun d => (fun (_ : Cells) => R.ok ([] : List D)) c >>= fun ds => R.ok (d :: ds)) c >>= oLen) (fun (_ : Cells) => R.ok (D.int 4))) (fun (c : Cells) => (fun (c : Cells) => (compV [1] (fun (c : Cells) => (rdV 0) c >>= asIt) (gN 1) (fun (_ : Cells) => R.ok true) (e_is_box_1 m_is_whole)) c >>= fun d => (fun (_ : Cells) => R.ok ([] : List D)) c >>= fun ds => R.ok (d :: ds)) c >>= oAll))) c >>= fun d => R.ok (Out.rt d))
def a_is_box (m_is_whole : List D → R D) : List D → R D := fun ds => endR (f_is_box m_is_whole (cellsN ["value", "one"] ds))
set_option maxHeartbeats 0 in
theorem k_is_box {P : Program} {w : World} {K : PySem.W.Frag} {mg : Str → Option Value} {base : Heap} {k : Nat} {m_is_whole : List D → R D} (T : Top fa fn ts ex w K mg) (c_is_whole : Cal P w K mg base k "is_whole" 3 m_is_whole)   : Cal P w K mg base (k + 1) "is_box" 1 (a_is_box m_is_whole) := by
  obtain ⟨fd, F⟩ := T.def_ 8 rfl
  exact cal_mk (ps := ["value"]) F (T.glo 28 rfl) (fun _ _ _ _ _ _ us hl => match us, hl with | [_], _ => rfl) sc_is_box (fun cdv A outer s H E hr =>
    (ess_one (es_ret (ev_and (ev_isi (T := "tuple") (eb_name 0 rfl (.inl rfl) rfl rfl) rfl (T.free 0 rfl) b_isinstance rfl (T.free 10 rfl) b_tuple (by decide) rfl (by decide) rfl rfl rfl rfl) (ev_and (ev_cmp (op_eqD hr.units) does_eq (EB.of (eb_lenF rfl hr.units rfl (T.free 5 rfl) (eab_cons (eb_name 0 rfl (.inl rfl) rfl rfl) eab_nil rfl) rfl rfl)) (EB.of ev_int) rfl) (ev_one (eb_allF rfl hr.units rfl (T.free 8 rfl) (eab_cons (EB.ofL (el_lc (own := [("one", 1)]) rfl sc_is_box.nd (blkOk_by (by kernel_rfl)) (ei_any (ev_name 0 rfl (.inl rfl) rfl rfl)) (fun _ _ _ _ _ => (eg_name 1 sc_is_box.nd rfl (.inl rfl) (.inr rfl))) (fun _ _ _ _ _ => ets_nil) (fun _ _ _ _ _ => (ev_cal c_is_whole hr rfl takes0 (ea_cons (ev_name 1 rfl (.inl rfl) rfl rfl) (ea_cons ev_int (ea_cons (ev_glob rfl (glob_int (T.int 27 rfl)) rfl) ea_nil rfl) rfl) rfl) rfl rfl rfl)) (by decide) (fun _ => rfl))) eab_nil rfl) rfl rfl)))))))
theorem sc_check_box : FnScope ["layout", "box"] ["layout", "box"] (defScope (top 27)) := ⟨rfl, rfl, rfl, by decide +kernel, rfl, by decide +kernel, by decide +kernel⟩
def f_check_box (K : PySem.W.Frag) (m_check_layout : List D → R D) (m_is_box : List D → R D) : Cells → R Out :=
    (thenS (fun (c : Cells) => (callD 1 m_check_layout (fun (c : Cells) => (rdV 0) c >>= fun d => (fun (_ : Cells) => R.ok ([] : List D)) c >>= fun ds => R.ok (d :: ds))) c >>= fun _ => R.ok (Out.nx c))
    (ifS (notT (fun (c : Cells) => (callD 1 m_is_box (fun (c : Cells) => (rdV 1) c >>= fun d => (fun (_ : Cells) => R.ok ([] : List D)) c >>= fun ds => R.ok (d :: ds))) c >>= asB)) (fun (_ : Cells) => R.exc (He.ga K "BadBox"))
    (fun (c : Cells) => R.ok (Out.nx c))))
def a_check_box (K : PySem.W.Frag) (m_check_layout : List D → R D) (m_is_box : List D → R D) : List D → R D := fun ds => endR (f_check_box K m_check_layout m_is_box (cellsN ["layout", "box"] ds))
set_option maxHeartbeats 0 in
theorem k_check_box {P : Program} {w : World} {K : PySem.W.Frag} {mg : Str → Option Value} {base : Heap} {k : Nat} {m_check_layout m_is_box : List D → R D} (T : Top fa fn ts ex w K mg) (c_check_layout : Cal P w K mg base k "check_layout" 1 m_check_layout) (c_is_box : Cal P w K mg base k "is_box" 1 m_is_box)   : Cal P w K mg base (k + 1) "check_box" 2 (a_check_box K m_check_layout m_is_box) := by
  obtain ⟨fd, F⟩ := T.def_ 9 rfl
  exact cal_mk (ps := ["layout", "box"]) F (T.glo 31 rfl) (fun _ _ _ _ _ _ us hl => match us, hl with | [_, _], _ => rfl) sc_check_box (fun cdv A outer s H E hr =>
    (ess_cons (es_drop (ev_cal c_check_layout hr rfl (takes_of rfl rfl rfl rfl) (ea_cons (ev_name 0 rfl (.inl rfl) rfl rfl) ea_nil rfl) rfl rfl rfl) rfl)
    (ess_one (es_if (et_not (et_val (ev_cal c_is_box hr rfl (takes_of rfl rfl rfl rfl) (ea_cons (ev_name 1 rfl (.inl rfl) rfl rfl) ea_nil rfl) rfl rfl rfl) (fun _ => rfl))) (ess_one (es_raise rfl (takes_of rfl rfl rfl rfl) (T.exc 29 rfl) (T.glo 30 rfl) rfl rfl))
    ess_nil))))
theorem sc_sizes_of : FnScope ["weights", "size", "total", "ends", "number", "begin", "end"] ["weights", "size"] (defScope (top 28)) := ⟨rfl, rfl, rfl, by decide +kernel, rfl, by decide +kernel, by decide +kernel⟩
def b_sizes_of_1  : Cells → R Out :=
    (appS 3 (lift2 oDiv (lift2 oMul2 (rdB 1) (fun (c : Cells) => (fun (c : Cells) => (fun (c : Cells) => (rdB 0) c >>= fun d => (fun (_ : Cells) => R.ok (none : Option Int)) c >>= fun l => (fun (c : Cells) => (lift2 oAdd (rdB 4) (fun (_ : Cells) => R.ok (D.int 1))) c >>= fun d => asI d >>= fun i => R.ok (some i)) c >>= fun h => oSlice d l h) c >>= fun d => (fun (_ : Cells) => R.ok ([] : List D)) c >>= fun ds => R.ok (d :: ds)) c >>= oSum)) (rdB 2)))
def e_sizes_of_1  : Cells → R D :=
    (lift2 oSub (rdB 6) (rdB 5))
def f_sizes_of  : Cells → R Out :=
    (thenS (fun (c : Cells) => (fun (c : Cells) => (fun (c : Cells) => (rdB 0) c >>= fun d => (fun (_ : Cells) => R.ok ([] : List D)) c >>= fun ds => R.ok (d :: ds)) c >>= oSum) c >>= fun d => R.ok (Out.nx (c.set 2 (Cell.fz d))))
    (thenS (fun (c : Cells) => (fun (c : Cells) => (fun (c : Cells) => (fun (_ : Cells) => R.ok (D.int 0)) c >>= fun d => (fun (_ : Cells) => R.ok ([] : List D)) c >>= fun ds => R.ok (d :: ds)) c >>= mkLst) c >>= fun d => R.ok (Out.nx (c.set 3 (Cell.ow d))))
    (thenS (forS (fun (c : Cells) => (fun (c : Cells) => (fun (c : Cells) => (fun (c : Cells) => (rdB 0) c >>= fun d => (fun (_ : Cells) => R.ok ([] : List D)) c >>= fun ds => R.ok (d :: ds)) c >>= oLen) c >>= fun d => (fun (_ : Cells) => R.ok ([] : List D)) c >>= fun ds => R.ok (d :: ds)) c >>= rng1) (gN 4)
    (b_sizes_of_1 ))
    (frzS 3 (fun (c : Cells) => (compV [5, 6] (fun (c : Cells) => (fun (c : Cells) => (rdV 3) c >>= fun d => (fun (c : Cells) => (fun (c : Cells) => (rdB 3) c >>= fun d => (fun (c : Cells) => (fun (_ : Cells) => R.ok (D.int 1)) c >>= fun d => asI d >>= fun i => R.ok (some i)) c >>= fun l => (fun (_ : Cells) => R.ok (none : Option Int)) c >>= fun h => oSlice d l h) c >>= fun d => (fun (_ : Cells) => R.ok ([] : List D)) c >>= fun ds => R.ok (d :: ds)) c >>= fun ds => R.ok (d :: ds)) c >>= zipD) (gT 2 (gsCons (gN 5) (gsCons (gN 6) gsNil))) (fun (_ : Cells) => R.ok true) (e_sizes_of_1 )) c >>= fun d => R.ok (Out.rt d))))))
def a_sizes_of  : List D → R D := fun ds => endR (f_sizes_of  (cellsN ["weights", "size", "total", "ends", "number", "begin", "end"] ds))
set_option maxHeartbeats 0 in
theorem k_sizes_of {P : Program} {w : World} {K : PySem.W.Frag} {mg : Str → Option Value} {base : Heap} {k : Nat} (T : Top fa fn ts ex w K mg)    : Cal P w K mg base (k + 1) "sizes_of" 2 (a_sizes_of ) := by
  obtain ⟨fd, F⟩ := T.def_ 10 rfl
  exact cal_mk (ps := ["weights", "size"]) F (T.glo 35 rfl) (fun _ _ _ _ _ _ us hl => match us, hl with | [_, _], _ => rfl) sc_sizes_of (fun cdv A outer s H E hr =>
    (ess_cons (es_set 2 sc_sizes_of.nd rfl (.inl rfl) (.inl rfl) (eb_sumF rfl hr.units rfl (T.free 32 rfl) (eab_cons (eb_name 0 rfl (.inl rfl) rfl rfl) eab_nil rfl) rfl rfl) rfl)
    (ess_cons (es_setO 3 sc_sizes_of.nd rfl (.inl rfl) (.inl rfl) (el_lst (ea_cons ev_int ea_nil rfl)) rfl)
    (ess_cons (es_for (passes_of rfl) rfl (ei_range1 rfl (T.free 33 rfl) (eab_cons (EB.of (eb_lenF rfl hr.units rfl (T.free 5 rfl) (eab_cons (eb_name 0 rfl (.inl rfl) rfl rfl) eab_nil rfl) rfl rfl)) eab_nil rfl) rfl) (eg_name 4 sc_sizes_of.nd rfl (.inl rfl) (.inl rfl))
    (ess_one (es_append 3 rfl (.inl rfl) rfl rfl (ev_op op_fdiv does_div (EB.of (ev_op op_mulAll2 does_mul2 (eb_name 1 rfl (.inl rfl) rfl rfl) (EB.of (eb_sumF rfl hr.units rfl (T.free 32 rfl) (eab_cons (EB.of (ev_slice (eb_name 0 rfl (.inl rfl) rfl rfl) eo_none (eo_some (EB.of (ev_op op_addAll does_add (eb_name 4 rfl (.inl rfl) rfl rfl) (EB.of ev_int)))))) eab_nil rfl) rfl rfl)))) (eb_name 2 rfl (.inl rfl) rfl rfl)) rfl rfl rfl rfl rfl)) (fun _ => rfl))
    (ess_one (es_frz 3 (es_ret (EV.ofL (el_lc (own := [("begin", 5), ("end", 6)]) rfl sc_sizes_of.nd (blkOk_by (by kernel_rfl)) (ei_zip rfl (T.free 34 rfl) (ea_cons (ev_name 3 rfl (.inl rfl) rfl rfl) (ea_cons (ev_slice (eb_name 3 rfl (.inl rfl) rfl rfl) (eo_some (EB.of ev_int)) eo_none) ea_nil rfl) rfl) rfl rfl) (fun _ _ _ _ _ => (eg_tup rfl (egs_cons (eg_name 5 sc_sizes_of.nd rfl (.inl rfl) (.inr rfl)) (egs_cons (eg_name 6 sc_sizes_of.nd rfl (.inl rfl) (.inr rfl)) egs_nil rfl) rfl) rfl rfl)) (fun _ _ _ _ _ => ets_nil) (fun _ _ _ _ _ => (ev_op op_sub does_sub (eb_name 6 rfl (.inl rfl) rfl rfl) (eb_name 5 rfl (.inl rfl) rfl rfl))) (by decide) (fun _ => rfl))))))))))
theorem sc_inner_boxes : FnScope ["tree", "box", "left", "top", "width", "height", "boxes", "size", "part"] ["tree", "box"] (defScope (top 29)) := ⟨rfl, rfl, rfl, by decide +kernel, rfl, by decide +kernel, by decide +kernel⟩
def e_inner_boxes_1 (m_sizes_of : List D → R D) : Cells → R D :=
    (lift2 itemOf (rdB 8) (fun (_ : Cells) => R.ok (D.int 0)))
def b_inner_boxes_1 (m_sizes_of : List D → R D) : Cells → R Out :=
    (thenS (appS 6 (fun (c : Cells) => (fun (c : Cells) => (rdV 2) c >>= fun d => (fun (c : Cells) => (rdV 3) c >>= fun d => (fun (c : Cells) => (rdV 7) c >>= fun d => (fun (c : Cells) => (rdV 5) c >>= fun d => (fun (_ : Cells) => R.ok ([] : List D)) c >>= fun ds => R.ok (d :: ds)) c >>= fun ds => R.ok (d :: ds)) c >>= fun ds => R.ok (d :: ds)) c >>= fun ds => R.ok (d :: ds)) c >>= mkTup))
    (augS 2 oAddI (rdV 7)))
def e_inner_boxes_2 (m_sizes_of : List D → R D) : Cells → R D :=
    (lift2 itemOf (rdB 8) (fun (_ : Cells) => R.ok (D.int 0)))
def b_inner_boxes_2 (m_sizes_of : List D → R D) : Cells → R Out :=
    (thenS (appS 6 (fun (c : Cells) => (fun (c : Cells) => (rdV 2) c >>= fun d => (fun (c : Cells) => (rdV 3) c >>= fun d => (fun (c : Cells) => (rdV 4) c >>= fun d => (fun (c : Cells) => (rdV 7) c >>= fun d => (fun (_ : Cells) => R.ok ([] : List D)) c >>= fun ds => R.ok (d :: ds)) c >>= fun ds => R.ok (d :: ds)) c >>= fun ds => R.ok (d :: ds)) c >>= fun ds => R.ok (d :: ds)) c >>= mkTup))
    (augS 3 oAddI (rdV 7)))
def f_inner_boxes (m_sizes_of : List D → R D) : Cells → R Out :=
    (thenS (fun (c : Cells) => (rdV 1) c >>= fun d => ofO ((gT 4 (gsCons (gN 2) (gsCons (gN 3) (gsCons (gN 4) (gsCons (gN 5) gsNil))))) d c))
    (thenS (ifS (fun (c : Cells) => (lift2 oEq (lift2 itemOf (rdB 0) (fun (_ : Cells) => R.ok (D.int 0))) (fun (_ : Cells) => R.ok (D.str "tabs"))) c >>= asB) (fun (c : Cells) => (lift2 oMul2 (fun (c : Cells) => (fun (c : Cells) => (rdV 1) c >>= fun d => (fun (_ : Cells) => R.ok ([] : List D)) c >>= fun ds => R.ok (d :: ds)) c >>= mkLst) (fun (c : Cells) => (fun (c : Cells) => (lift2 itemOf (rdB 0) (fun (_ : Cells) => R.ok (D.int 2))) c >>= fun d => (fun (_ : Cells) => R.ok ([] : List D)) c >>= fun ds => R.ok (d :: ds)) c >>= oLen)) c >>= fun d => R.ok (Out.rt d))
    (fun (c : Cells) => R.ok (Out.nx c)))
    (thenS (fun (c : Cells) => (fun (c : Cells) => (fun (_ : Cells) => R.ok ([] : List D)) c >>= mkLst) c >>= fun d => R.ok (Out.nx (c.set 6 (Cell.ow d))))
    (thenS (ifS (fun (c : Cells) => (lift2 oEq (lift2 itemOf (rdB 0) (fun (_ : Cells) => R.ok (D.int 0))) (fun (_ : Cells) => R.ok (D.str "row"))) c >>= asB) (forS (fun (c : Cells) => (callD 2 m_sizes_of (fun (c : Cells) => (compV [8] (fun (c : Cells) => (lift2 itemOf (rdB 0) (fun (_ : Cells) => R.ok (D.int 1))) c >>= asIt) (gN 8) (fun (_ : Cells) => R.ok true) (e_inner_boxes_1 m_sizes_of)) c >>= fun d => (fun (c : Cells) => (rdV 4) c >>= fun d => (fun (_ : Cells) => R.ok ([] : List D)) c >>= fun ds => R.ok (d :: ds)) c >>= fun ds => R.ok (d :: ds))) c >>= asIt) (gN 7)
    (b_inner_boxes_1 m_sizes_of))
    (ifS (fun (c : Cells) => (lift2 oEq (lift2 itemOf (rdB 0) (fun (_ : Cells) => R.ok (D.int 0))) (fun (_ : Cells) => R.ok (D.str "col"))) c >>= asB) (forS (fun (c : Cells) => (callD 2 m_sizes_of (fun (c : Cells) => (compV [8] (fun (c : Cells) => (lift2 itemOf (rdB 0) (fun (_ : Cells) => R.ok (D.int 1))) c >>= asIt) (gN 8) (fun (_ : Cells) => R.ok true) (e_inner_boxes_2 m_sizes_of)) c >>= fun d => (fun (c : Cells) => (rdV 5) c >>= fun d => (fun (_ : Cells) => R.ok ([] : List D)) c >>= fun ds => R.ok (d :: ds)) c >>= fun ds => R.ok (d :: ds))) c >>= asIt) (gN 7)
    (b_inner_boxes_2 m_sizes_of))
    (fun (c : Cells) => R.ok (Out.nx c))))
    (fun (c : Cells) => rdB 6 c >>= fun d => R.ok (Out.rt d))))))
def a_inner_boxes (m_sizes_of : List D → R D) : List D → R D := fun ds => endR (f_inner_boxes m_sizes_of (cellsN ["tree", "box", "left", "top", "width", "height", "boxes", "size", "part"] ds))
set_option maxHeartbeats 0 in
theorem k_inner_boxes {P : Program} {w : World} {K : PySem.W.Frag} {mg : Str → Option Value} {base : Heap} {k : Nat} {m_sizes_of : List D → R D} (T : Top fa fn ts ex w K mg) (c_sizes_of : Cal P w K mg base k "sizes_of" 2 m_sizes_of)   : Cal P w K mg base (k + 1) "inner_boxes" 2 (a_inner_boxes m_sizes_of) := by
  obtain ⟨fd, F⟩ := T.def_ 11 rfl
  exact cal_mk (ps := ["tree", "box"]) F (T.glo 36 rfl) (fun _ _ _ _ _ _ us hl => match us, hl with | [_, _], _ => rfl) sc_inner_boxes (fun cdv A outer s H E hr =>
    (ess_cons (es_asg (ev_name 1 rfl (.inl rfl) rfl rfl) (eg_tup rfl (egs_cons (eg_name 2 sc_inner_boxes.nd rfl (.inl rfl) (.inl rfl)) (egs_cons (eg_name 3 sc_inner_boxes.nd rfl (.inl rfl) (.inl rfl)) (egs_cons (eg_name 4 sc_inner_boxes.nd rfl (.inl rfl) (.inl rfl)) (egs_cons (eg_name 5 sc_inner_boxes.nd rfl (.inl rfl) (.inl rfl)) egs_nil rfl) rfl) rfl) rfl) rfl rfl) rfl rfl rfl)
    (ess_cons (es_if (et_cmp (op_eqD hr.units) does_eq (EB.of (ev_item hr.units (eb_name 0 rfl (.inl rfl) rfl rfl) (EB.of ev_int) (fun _ _ => rfl))) (EB.of (ev_glob rfl (glob_str (T.str 16 rfl)) rfl)) rfl) (ess_one (es_ret (ev_op op_mulAll2 does_mul2 (EB.ofL (el_lst (ea_cons (ev_name 1 rfl (.inl rfl) rfl rfl) ea_nil rfl))) (EB.of (eb_lenF rfl hr.units rfl (T.free 5 rfl) (eab_cons (EB.of (ev_item hr.units (eb_name 0 rfl (.inl rfl) rfl rfl) (EB.of ev_int) (fun _ _ => rfl))) eab_nil rfl) rfl rfl)))))
    ess_nil)
    (ess_cons (es_setO 6 sc_inner_boxes.nd rfl (.inl rfl) (.inl rfl) (el_lst ea_nil) rfl)
    (ess_cons (es_if (et_cmp (op_eqD hr.units) does_eq (EB.of (ev_item hr.units (eb_name 0 rfl (.inl rfl) rfl rfl) (EB.of ev_int) (fun _ _ => rfl))) (EB.of (ev_glob rfl (glob_str (T.str 14 rfl)) rfl)) rfl) (ess_one (es_for (passes_of rfl) rfl (ei_any (ev_cal c_sizes_of hr rfl (takes_of rfl rfl rfl rfl) (ea_cons (EV.ofL (el_lc (own := [("part", 8)]) rfl sc_inner_boxes.nd (blkOk_by (by kernel_rfl)) (ei_any (ev_item hr.units (eb_name 0 rfl (.inl rfl) rfl rfl) (EB.of ev_int) (fun _ _ => rfl))) (fun _ _ _ _ _ => (eg_name 8 sc_inner_boxes.nd rfl (.inl rfl) (.inr rfl))) (fun _ _ _ _ _ => ets_nil) (fun _ _ _ _ _ => (ev_item hr.units (eb_name 8 rfl (.inl rfl) rfl rfl) (EB.of ev_int) (fun _ _ => rfl))) (by decide) (fun _ => rfl))) (ea_cons (ev_name 4 rfl (.inl rfl) rfl rfl) ea_nil rfl) rfl) rfl rfl rfl)) (eg_name 7 sc_inner_boxes.nd rfl (.inl rfl) (.inl rfl))
    (ess_cons (es_append 6 rfl (.inl rfl) rfl rfl (ev_tup (ea_cons (ev_name 2 rfl (.inl rfl) rfl rfl) (ea_cons (ev_name 3 rfl (.inl rfl) rfl rfl) (ea_cons (ev_name 7 rfl (.inl rfl) rfl rfl) (ea_cons (ev_name 5 rfl (.inl rfl) rfl rfl) ea_nil rfl) rfl) rfl) rfl)) rfl rfl rfl rfl rfl)
    (ess_one (es_aug 2 sc_inner_boxes.nd rfl (.inl rfl) (.inl rfl) (ev_name 7 rfl (.inl rfl) rfl rfl) iop_add does_addI))) (fun _ => rfl)))
    (ess_one (es_if (et_cmp (op_eqD hr.units) does_eq (EB.of (ev_item hr.units (eb_name 0 rfl (.inl rfl) rfl rfl) (EB.of ev_int) (fun _ _ => rfl))) (EB.of (ev_glob rfl (glob_str (T.str 15 rfl)) rfl)) rfl) (ess_one (es_for (passes_of rfl) rfl (ei_any (ev_cal c_sizes_of hr rfl (takes_of rfl rfl rfl rfl) (ea_cons (EV.ofL (el_lc (own := [("part", 8)]) rfl sc_inner_boxes.nd (blkOk_by (by kernel_rfl)) (ei_any (ev_item hr.units (eb_name 0 rfl (.inl rfl) rfl rfl) (EB.of ev_int) (fun _ _ => rfl))) (fun _ _ _ _ _ => (eg_name 8 sc_inner_boxes.nd rfl (.inl rfl) (.inr rfl))) (fun _ _ _ _ _ => ets_nil) (fun _ _ _ _ _ => (ev_item hr.units (eb_name 8 rfl (.inl rfl) rfl rfl) (EB.of ev_int) (fun _ _ => rfl))) (by decide) (fun _ => rfl))) (ea_cons (ev_name 5 rfl (.inl rfl) rfl rfl) ea_nil rfl) rfl) rfl rfl rfl)) (eg_name 7 sc_inner_boxes.nd rfl (.inl rfl) (.inl rfl))
    (ess_cons (es_append 6 rfl (.inl rfl) rfl rfl (ev_tup (ea_cons (ev_name 2 rfl (.inl rfl) rfl rfl) (ea_cons (ev_name 3 rfl (.inl rfl) rfl rfl) (ea_cons (ev_name 4 rfl (.inl rfl) rfl rfl) (ea_cons (ev_name 7 rfl (.inl rfl) rfl rfl) ea_nil rfl) rfl) rfl) rfl)) rfl rfl rfl rfl rfl)
    (ess_one (es_aug 3 sc_inner_boxes.nd rfl (.inl rfl) (.inl rfl) (ev_name 7 rfl (.inl rfl) rfl rfl) iop_add does_addI))) (fun _ => rfl)))
    ess_nil)))
    (ess_one (es_retName 6 rfl (.inl rfl) rfl rfl)))))))
theorem sc__placed : FnScope ["tree", "box", "pairs", "rows", "inner", "own"] ["tree", "box"] (defScope (top 30)) := ⟨rfl, rfl, rfl, by decide +kernel, rfl, by decide +kernel, by decide +kernel⟩
def b__placed_1 (m_inner_trees : List D → R D) (m_inner_boxes : List D → R D) (m__placed : List D → R D) : Cells → R Out :=
    (extS 3 (callD 2 m__placed (fun (c : Cells) => (rdV 4) c >>= fun d => (fun (c : Cells) => (rdV 5) c >>= fun d => (fun (_ : Cells) => R.ok ([] : List D)) c >>= fun ds => R.ok (d :: ds)) c >>= fun ds => R.ok (d :: ds))))
def f__placed (m_inner_trees : List D → R D) (m_inner_boxes : List D → R D) (m__placed : List D → R D) : Cells → R Out :=
    (thenS (ifS (fun (c : Cells) => (lift2 oEq (lift2 itemOf (rdB 0) (fun (_ : Cells) => R.ok (D.int 0))) (fun (_ : Cells) => R.ok (D.str "win"))) c >>= asB) (fun (c : Cells) => (fun (c : Cells) => (fun (c : Cells) => (fun (c : Cells) => (fun (c : Cells) => (lift2 itemOf (rdB 0) (fun (_ : Cells) => R.ok (D.int 1))) c >>= fun d => (fun (c : Cells) => (rdV 1) c >>= fun d => (fun (_ : Cells) => R.ok ([] : List D)) c >>= fun ds => R.ok (d :: ds)) c >>= fun ds => R.ok (d :: ds)) c >>= mkTup) c >>= fun d => (fun (_ : Cells) => R.ok ([] : List D)) c >>= fun ds => R.ok (d :: ds)) c >>= mkLst) c >>= fun d => R.ok (Out.rt d))
    (fun (c : Cells) => R.ok (Out.nx c)))
    (thenS (fun (c : Cells) => (fun (c : Cells) => (fun (c : Cells) => (callD 1 m_inner_trees (fun (c : Cells) => (rdV 0) c >>= fun d => (fun (_ : Cells) => R.ok ([] : List D)) c >>= fun ds => R.ok (d :: ds))) c >>= fun d => (fun (c : Cells) => (callD 2 m_inner_boxes (fun (c : Cells) => (rdV 0) c >>= fun d => (fun (c : Cells) => (rdV 1) c >>= fun d => (fun (_ : Cells) => R.ok ([] : List D)) c >>= fun ds => R.ok (d :: ds)) c >>= fun ds => R.ok (d :: ds))) c >>= fun d => (fun (_ : Cells) => R.ok ([] : List D)) c >>= fun ds => R.ok (d :: ds)) c >>= fun ds => R.ok (d :: ds)) c >>= zipLD) c >>= fun d => R.ok (Out.nx (c.set 2 (Cell.fz d))))
    (thenS (fun (c : Cells) => (ifV (fun (c : Cells) => (lift2 oEq (lift2 itemOf (rdB 0) (fun (_ : Cells) => R.ok (D.int 0))) (fun (_ : Cells) => R.ok (D.str "tabs"))) c >>= asB) (fun (c : Cells) => (fun (c : Cells) => (lift2 itemOf (rdB 2) (lift2 itemOf (rdB 0) (fun (_ : Cells) => R.ok (D.int 1)))) c >>= fun d => (fun (_ : Cells) => R.ok ([] : List D)) c >>= fun ds => R.ok (d :: ds)) c >>= mkLst) (rdV 2)) c >>= fun d => R.ok (Out.nx (c.set 2 (Cell.fz d))))
    (thenS (fun (c : Cells) => (fun (c : Cells) => (fun (_ : Cells) => R.ok ([] : List D)) c >>= mkLst) c >>= fun d => R.ok (Out.nx (c.set 3 (Cell.ow d))))
    (thenS (forS (fun (c : Cells) => (rdV 2) c >>= asIt) (gT 2 (gsCons (gN 4) (gsCons (gN 5) gsNil)))
    (b__placed_1 m_inner_trees m_inner_boxes m__placed))
    (fun (c : Cells) => rdB 3 c >>= fun d => R.ok (Out.rt d)))))))
def a__placed (m_inner_trees : List D → R D) (m_inner_boxes : List D → R D) (m__placed : List D → R D) : List D → R D := fun ds => endR (f__placed m_inner_trees m_inner_boxes m__placed (cellsN ["tree", "box", "pairs", "rows", "inner", "own"] ds))
set_option maxHeartbeats 0 in
theorem k__placed {P : Program} {w : World} {K : PySem.W.Frag} {mg : Str → Option Value} {base : Heap} {k : Nat} {m_inner_trees m_inner_boxes m__placed : List D → R D} (T : Top fa fn ts ex w K mg) (c_inner_trees : Cal P w K mg base k "inner_trees" 1 m_inner_trees) (c_inner_boxes : Cal P w K mg base k "inner_boxes" 2 m_inner_boxes) (c__placed : Cal P w K mg base k "_placed" 2 m__placed)   : Cal P w K mg base (k + 1) "_placed" 2 (a__placed m_inner_trees m_inner_boxes m__placed) := by
  obtain ⟨fd, F⟩ := T.def_ 12 rfl
  exact cal_mk (ps := ["tree", "box"]) F (T.glo 37 rfl) (fun _ _ _ _ _ _ us hl => match us, hl with | [_, _], _ => rfl) sc__placed (fun cdv A outer s H E hr =>
    (ess_cons (es_if (et_cmp (op_eqD hr.units) does_eq (EB.of (ev_item hr.units (eb_name 0 rfl (.inl rfl) rfl rfl) (EB.of ev_int) (fun _ _ => rfl))) (EB.of (ev_glob rfl (glob_str (T.str 13 rfl)) rfl)) rfl) (ess_one (es_ret (EV.ofL (el_lst (ea_cons (ev_tup (ea_cons (ev_item hr.units (eb_name 0 rfl (.inl rfl) rfl rfl) (EB.of ev_int) (fun _ _ => rfl)) (ea_cons (ev_name 1 rfl (.inl rfl) rfl rfl) ea_nil rfl) rfl)) ea_nil rfl)))))
    ess_nil)
    (ess_cons (es_set 2 sc__placed.nd rfl (.inl rfl) (.inl rfl) (EV.ofL (el_listZip rfl (T.free 18 rfl) rfl (T.free 34 rfl) rfl (ea_cons (ev_cal c_inner_trees hr rfl (takes_of rfl rfl rfl rfl) (ea_cons (ev_name 0 rfl (.inl rfl) rfl rfl) ea_nil rfl) rfl rfl rfl) (ea_cons (ev_cal c_inner_boxes hr rfl (takes_of rfl rfl rfl rfl) (ea_cons (ev_name 0 rfl (.inl rfl) rfl rfl) (ea_cons (ev_name 1 rfl (.inl rfl) rfl rfl) ea_nil rfl) rfl) rfl rfl rfl) ea_nil rfl) rfl) rfl rfl rfl)) rfl)
    (ess_cons (es_set 2 sc__placed.nd rfl (.inl rfl) (.inl rfl) (ev_ifExp (et_cmp (op_eqD hr.units) does_eq (EB.of (ev_item hr.units (eb_name 0 rfl (.inl rfl) rfl rfl) (EB.of ev_int) (fun _ _ => rfl))) (EB.of (ev_glob rfl (glob_str (T.str 16 rfl)) rfl)) rfl) (EV.ofL (el_lst (ea_cons (ev_item hr.units (eb_name 2 rfl (.inl rfl) rfl rfl) (EB.of (ev_item hr.units (eb_name 0 rfl (.inl rfl) rfl rfl) (EB.of ev_int) (fun _ _ => rfl))) (fun _ _ => rfl)) ea_nil rfl))) (ev_name 2 rfl (.inl rfl) rfl rfl)) rfl)
    (ess_cons (es_setO 3 sc__placed.nd rfl (.inl rfl) (.inl rfl) (el_lst ea_nil) rfl)
    (ess_cons (es_for (passes_of rfl) rfl (ei_any (ev_name 2 rfl (.inl rfl) rfl rfl)) (eg_tup rfl (egs_cons (eg_name 4 sc__placed.nd rfl (.inl rfl) (.inl rfl)) (egs_cons (eg_name 5 sc__placed.nd rfl (.inl rfl) (.inl rfl)) egs_nil rfl) rfl) rfl rfl)
    (ess_one (es_extend 3 rfl (.inl rfl) rfl rfl (ev_cal c__placed hr rfl (takes_of rfl rfl rfl rfl) (ea_cons (ev_name 4 rfl (.inl rfl) rfl rfl) (ea_cons (ev_name 5 rfl (.inl rfl) rfl rfl) ea_nil rfl) rfl) rfl rfl rfl) rfl rfl rfl rfl rfl)) (fun _ => rfl))
    (ess_one (es_retName 3 rfl (.inl rfl) rfl rfl))))))))
theorem sc_placed : FnScope ["layout", "box"] ["layout", "box"] (defScope (top 31)) := ⟨rfl, rfl, rfl, by decide +kernel, rfl, by decide +kernel, by decide +kernel⟩
def f_placed (m_check_box : List D → R D) (m__placed : List D → R D) : Cells → R Out :=
    (thenS (fun (c : Cells) => (callD 2 m_check_box (fun (c : Cells) => (rdV 0) c >>= fun d => (fun (c : Cells) => (rdV 1) c >>= fun d => (fun (_ : Cells) => R.ok ([] : List D)) c >>= fun ds => R.ok (d :: ds)) c >>= fun ds => R.ok (d :: ds))) c >>= fun _ => R.ok (Out.nx c))
    (fun (c : Cells) => (fun (c : Cells) => (fun (c : Cells) => (fun (c : Cells) => (fun (c : Cells) => (callD 2 m__placed (fun (c : Cells) => (rdV 0) c >>= fun d => (fun (c : Cells) => (rdV 1) c >>= fun d => (fun (_ : Cells) => R.ok ([] : List D)) c >>= fun ds => R.ok (d :: ds)) c >>= fun ds => R.ok (d :: ds))) c >>= fun d => (fun (_ : Cells) => R.ok ([] : List D)) c >>= fun ds => R.ok (d :: ds)) c >>= oSorted) c >>= fun d => (fun (_ : Cells) => R.ok ([] : List D)) c >>= fun ds => R.ok (d :: ds)) c >>= oTuple) c >>= fun d => R.ok (Out.rt d)))
def a_placed (m_check_box : List D → R D) (m__placed : List D → R D) : List D → R D := fun ds => endR (f_placed m_check_box m__placed (cellsN ["layout", "box"] ds))
set_option maxHeartbeats 0 in
theorem k_placed {P : Program} {w : World} {K : PySem.W.Frag} {mg : Str → Option Value} {base : Heap} {k : Nat} {m_check_box m__placed : List D → R D} (T : Top fa fn ts ex w K mg) (c_check_box : Cal P w K mg base k "check_box" 2 m_check_box) (c__placed : Cal P w K mg base k "_placed" 2 m__placed)   : Cal P w K mg base (k + 1) "placed" 2 (a_placed m_check_box m__placed) := by
  obtain ⟨fd, F⟩ := T.def_ 13 rfl
  exact cal_mk (ps := ["layout", "box"]) F (T.glo 39 rfl) (fun _ _ _ _ _ _ us hl => match us, hl with | [_, _], _ => rfl) sc_placed (fun cdv A outer s H E hr =>
    (ess_cons (es_drop (ev_cal c_check_box hr rfl (takes_of rfl rfl rfl rfl) (ea_cons (ev_name 0 rfl (.inl rfl) rfl rfl) (ea_cons (ev_name 1 rfl (.inl rfl) rfl rfl) ea_nil rfl) rfl) rfl rfl rfl) rfl)
    (ess_one (es_ret (eb_tupleF rfl hr.units rfl (T.free 10 rfl) (eab_cons (EB.of (eb_sortedF rfl hr.units rfl (T.free 38 rfl) (eab_cons (EB.of (ev_cal c__placed hr rfl (takes_of rfl rfl rfl rfl) (ea_cons (ev_name 0 rfl (.inl rfl) rfl rfl) (ea_cons (ev_name 1 rfl (.inl rfl) rfl rfl) ea_nil rfl) rfl) rfl rfl rfl)) eab_nil rfl) rfl rfl)) eab_nil rfl) rfl rfl)))))
theorem sc_Sides : FnScope ["self", "layout", "box", "name", "own"] ["self", "layout", "box"] (defScope (inClass (top 37) 0)) := ⟨rfl, rfl, rfl, by decide +kernel, rfl, by decide +kernel, by decide +kernel⟩
def t_Sides_1 (m_placed : List D → R D) : Cells → R Bool :=
    (andT (fun (c : Cells) => (lift2 oGt (lift2 itemOf (rdB 4) (fun (_ : Cells) => R.ok (D.int 2))) (fun (_ : Cells) => R.ok (D.int 0))) c >>= asB) (fun (c : Cells) => (lift2 oGt (lift2 itemOf (rdB 4) (fun (_ : Cells) => R.ok (D.int 3))) (fun (_ : Cells) => R.ok (D.int 0))) c >>= asB))
def e_Sides_1 (m_placed : List D → R D) : Cells → R D :=
    (rdV 3)
def e_Sides_2 (m_placed : List D → R D) : Cells → R D :=
    (rdV 4)
def f_Sides (m_placed : List D → R D) : List (Str × (Cells → R D)) :=
    [("boxes", (compDV [3, 4] (fun (c : Cells) => (callD 2 m_placed (fun (c : Cells) => (rdV 1) c >>= fun d => (fun (c : Cells) => (rdV 2) c >>= fun d => (fun (_ : Cells) => R.ok ([] : List D)) c >>= fun ds => R.ok (d :: ds)) c >>= fun ds => R.ok (d :: ds))) c >>= asIt) (gT 2 (gsCons (gN 3) (gsCons (gN 4) gsNil))) (t_Sides_1 m_placed) (e_Sides_1 m_placed) (e_Sides_2 m_placed))), ("box", (rdV 2))]
def a_Sides (m_placed : List D → R D) : List D → R (List (Str × D)) := fun ds => initV (f_Sides m_placed) (.un :: (cellsN ["self", "layout", "box", "name", "own"] (.none :: ds)).drop 1) []
set_option maxHeartbeats 0 in
theorem k_Sides {P : Program} {w : World} {K : PySem.W.Frag} {mg : Str → Option Value} {base : Heap} {k : Nat} {m_placed : List D → R D} (T : Top fa fn ts ex w K mg) (c_placed : Cal P w K mg base k "placed" 2 m_placed) : Mak P w K mg base (k + 1) "Sides" (He.ga K "Sides") 2 (a_Sides m_placed) := by
  obtain ⟨fd, F⟩ := T.def_ 14 rfl
  exact mak_mk (ps := ["self", "layout", "box"]) F (T.mkr 43 rfl) (T.glo 44 rfl) (fun _ _ _ _ _ _ us hl => match us, hl with | [_, _, _], _ => rfl) sc_Sides rfl (show 2 < 1000 by decide) (fun cdv A outer s H E hr =>
    (ef_cons rfl (.inl rfl) rfl rfl (T.cls 40 rfl) (T.noat 42 rfl) (EV.ofL (el_dc (own := [("name", 3), ("own", 4)]) rfl sc_Sides.nd (blkOk_by (by kernel_rfl)) (ei_any (ev_cal c_placed hr rfl (takes_of rfl rfl rfl rfl) (ea_cons (ev_name 1 rfl (.inl rfl) rfl rfl) (ea_cons (ev_name 2 rfl (.inl rfl) rfl rfl) ea_nil rfl) rfl) rfl rfl rfl)) (fun _ _ _ _ _ => (eg_tup rfl (egs_cons (eg_name 3 sc_Sides.nd rfl (.inl rfl) (.inr rfl)) (egs_cons (eg_name 4 sc_Sides.nd rfl (.inl rfl) (.inr rfl)) egs_nil rfl) rfl) rfl rfl)) (fun _ _ _ _ _ => (ets_one (et_w (ew_and (et_cmp op_gt does_cmp (EB.of (ev_item hr.units (eb_name 4 rfl (.inl rfl) rfl rfl) (EB.of ev_int) (fun _ _ => rfl))) (EB.of ev_int) rfl) (ew_and1 (et_cmp op_gt does_cmp (EB.of (ev_item hr.units (eb_name 4 rfl (.inl rfl) rfl rfl) (EB.of ev_int) (fun _ _ => rfl))) (EB.of ev_int) rfl)))))) (fun _ _ _ _ _ => (ev_name 3 rfl (.inl rfl) rfl rfl)) (fun _ _ _ _ _ => (ev_name 4 rfl (.inl rfl) rfl rfl)) (by decide) (fun _ => rfl))) rfl (ef_cons rfl (.inl rfl) rfl rfl (T.cls 40 rfl) (T.noat 41 rfl) (ev_name 2 rfl (.inl rfl) rfl rfl) rfl ef_nil)))
theorem sc_names : FnScope ["self"] ["self"] (defScope (inClass (top 37) 1)) := ⟨rfl, rfl, rfl, by decide +kernel, rfl, by decide +kernel, by decide +kernel⟩
def f_names (K : PySem.W.Frag)  : Cells → R Out :=
    (fun (c : Cells) => (fun (c : Cells) => (fun (c : Cells) => (fun (c : Cells) => (rdV 0) c >>= fldD (He.ga K "Sides") "boxes") c >>= fun d => (fun (_ : Cells) => R.ok ([] : List D)) c >>= fun ds => R.ok (d :: ds)) c >>= oSorted) c >>= fun d => R.ok (Out.rt d))
def a_names (K : PySem.W.Frag)  : List D → R D := fun ds => endR (f_names K  (cellsN ["self"] ds))
set_option maxHeartbeats 0 in
theorem k_names {P : Program} {w : World} {K : PySem.W.Frag} {mg : Str → Option Value} {base : Heap} {k : Nat} (T : Top fa fn ts ex w K mg)    : Met P w K mg base (k + 1) (He.ga K "Sides") "names" 1 (a_names K ) := by
  obtain ⟨fd, F⟩ := T.def_ 15 rfl
  exact met_mk (ps := ["self"]) F (T.meth 45 rfl) (fun _ _ _ _ _ _ us hl => match us, hl with | [_], _ => rfl) sc_names (fun cdv A outer s H E hr =>
    (ess_one (es_ret (eb_sortedF rfl hr.units rfl (T.free 38 rfl) (eab_cons (EB.of (ev_fld (ev_name 0 rfl (.inl rfl) rfl rfl) (T.cls 40 rfl) (T.noat 42 rfl) rfl)) eab_nil rfl) rfl rfl))))
theorem sc_edge : FnScope ["self", "name", "way", "own", "axis"] ["self", "name", "way"] (defScope (inClass (top 37) 2)) := ⟨rfl, rfl, rfl, by decide +kernel, rfl, by decide +kernel, by decide +kernel⟩
def f_edge (K : PySem.W.Frag)  : Cells → R Out :=
    (thenS (parS [3, 4] (fun (c : Cells) => (lift2 itemOf (fun (c : Cells) => (rdV 0) c >>= fldD (He.ga K "Sides") "boxes") (rdB 1)) c >>= fun d => (fun (c : Cells) => (fun (c : Cells) => (rdV 2) c >>= kdGet tab_AXES) c >>= fun d => (fun (_ : Cells) => R.ok ([] : List Cell)) c >>= fun ds => R.ok (Cell.fz d :: ds)) c >>= fun ds => R.ok (Cell.fz d :: ds)))
    (fun (c : Cells) => (ifV (fun (c : Cells) => (lift2 oIn (rdB 2) (fun (_ : Cells) => R.ok (D.ftuple (tup_FORTH.map dvD)))) c >>= asB) (lift2 oAdd (lift2 itemOf (rdB 3) (rdB 4)) (lift2 itemOf (rdB 3) (lift2 oAdd (rdB 4) (fun (_ : Cells) => R.ok (D.int 2))))) (lift2 itemOf (rdB 3) (rdB 4))) c >>= fun d => R.ok (Out.rt d)))
def a_edge (K : PySem.W.Frag)  : List D → R D := fun ds => endR (f_edge K  (cellsN ["self", "name", "way", "own", "axis"] ds))
set_option maxHeartbeats 0 in
theorem k_edge {P : Program} {w : World} {K : PySem.W.Frag} {mg : Str → Option Value} {base : Heap} {k : Nat} (T : Top fa fn ts ex w K mg)    : Met P w K mg base (k + 1) (He.ga K "Sides") "edge" 3 (a_edge K ) := by
  obtain ⟨fd, F⟩ := T.def_ 16 rfl
  exact met_mk (ps := ["self", "name", "way"]) F (T.meth 48 rfl) (fun _ _ _ _ _ _ us hl => match us, hl with | [_, _, _], _ => rfl) sc_edge (fun cdv A outer s H E hr =>
    (ess_cons (es_par2 3 4 rfl sc_edge.nd rfl rfl (by decide) rfl rfl (eac_fz (ev_item hr.units (EB.of (ev_fld (ev_name 0 rfl (.inl rfl) rfl rfl) (T.cls 40 rfl) (T.noat 42 rfl) rfl)) (eb_name 1 rfl (.inl rfl) rfl rfl) (fun _ _ => rfl)) (eac_fz (ev_kd rfl (T.glo 46 rfl) (T.tab 0 rfl).choose_spec.choose_spec (T_val_AXES T) rfl (ev_name 2 rfl (.inl rfl) rfl rfl) rfl (fun _ _ => rfl)) eac_nil rfl) rfl) rfl rfl)
    (ess_one (es_ret (ev_ifExp (et_cmp (op_inAll hr.units) does_in (eb_name 2 rfl (.inl rfl) rfl rfl) (EB.of (ev_glob rfl (glob_tup (T.glo 47 rfl) (T_tup_FORTH T) rfl) rfl)) rfl) (ev_op op_addAll does_add (EB.of (ev_item hr.units (eb_name 3 rfl (.inl rfl) rfl rfl) (eb_name 4 rfl (.inl rfl) rfl rfl) (fun _ _ => rfl))) (EB.of (ev_item hr.units (eb_name 3 rfl (.inl rfl) rfl rfl) (EB.of (ev_op op_addAll does_add (eb_name 4 rfl (.inl rfl) rfl rfl) (EB.of ev_int))) (fun _ _ => rfl)))) (ev_item hr.units (eb_name 3 rfl (.inl rfl) rfl rfl) (eb_name 4 rfl (.inl rfl) rfl rfl) (fun _ _ => rfl)))))))
theorem sc_shared : FnScope ["self", "one", "other", "axis", "first", "second", "across", "begin", "end"] ["self", "one", "other", "axis"] (defScope (inClass (top 37) 3)) := ⟨rfl, rfl, rfl, by decide +kernel, rfl, by decide +kernel, by decide +kernel⟩
def f_shared (K : PySem.W.Frag)  : Cells → R Out :=
    (thenS (parS [4, 5] (fun (c : Cells) => (lift2 itemOf (fun (c : Cells) => (rdV 0) c >>= fldD (He.ga K "Sides") "boxes") (rdB 1)) c >>= fun d => (fun (c : Cells) => (lift2 itemOf (fun (c : Cells) => (rdV 0) c >>= fldD (He.ga K "Sides") "boxes") (rdB 2)) c >>= fun d => (fun (_ : Cells) => R.ok ([] : List Cell)) c >>= fun ds => R.ok (Cell.fz d :: ds)) c >>= fun ds => R.ok (Cell.fz d :: ds)))
    (thenS (fun (c : Cells) => (lift2 oSub (fun (_ : Cells) => R.ok (D.int 1)) (rdB 3)) c >>= fun d => R.ok (Out.nx (c.set 6 (Cell.fz d))))
    (thenS (fun (c : Cells) => (fun (c : Cells) => (fun (c : Cells) => (lift2 itemOf (rdB 4) (rdB 6)) c >>= fun d => (fun (c : Cells) => (lift2 itemOf (rdB 5) (rdB 6)) c >>= fun d => (fun (_ : Cells) => R.ok ([] : List D)) c >>= fun ds => R.ok (d :: ds)) c >>= fun ds => R.ok (d :: ds)) c >>= oMax) c >>= fun d => R.ok (Out.nx (c.set 7 (Cell.fz d))))
    (thenS (fun (c : Cells) => (fun (c : Cells) => (fun (c : Cells) => (lift2 oAdd (lift2 itemOf (rdB 4) (rdB 6)) (lift2 itemOf (rdB 4) (lift2 oAdd (rdB 6) (fun (_ : Cells) => R.ok (D.int 2))))) c >>= fun d => (fun (c : Cells) => (lift2 oAdd (lift2 itemOf (rdB 5) (rdB 6)) (lift2 itemOf (rdB 5) (lift2 oAdd (rdB 6) (fun (_ : Cells) => R.ok (D.int 2))))) c >>= fun d => (fun (_ : Cells) => R.ok ([] : List D)) c >>= fun ds => R.ok (d :: ds)) c >>= fun ds => R.ok (d :: ds)) c >>= oMin) c >>= fun d => R.ok (Out.nx (c.set 8 (Cell.fz d))))
    (fun (c : Cells) => (fun (c : Cells) => (fun (c : Cells) => (rdV 7) c >>= fun d => (fun (c : Cells) => (lift2 oSub (rdB 8) (rdB 7)) c >>= fun d => (fun (_ : Cells) => R.ok ([] : List D)) c >>= fun ds => R.ok (d :: ds)) c >>= fun ds => R.ok (d :: ds)) c >>= mkTup) c >>= fun d => R.ok (Out.rt d))))))
def a_shared (K : PySem.W.Frag)  : List D → R D := fun ds => endR (f_shared K  (cellsN ["self", "one", "other", "axis", "first", "second", "across", "begin", "end"] ds))
set_option maxHeartbeats 0 in
theorem k_shared {P : Program} {w : World} {K : PySem.W.Frag} {mg : Str → Option Value} {base : Heap} {k : Nat} (T : Top fa fn ts ex w K mg)    : Met P w K mg base (k + 1) (He.ga K "Sides") "shared" 4 (a_shared K ) := by
  obtain ⟨fd, F⟩ := T.def_ 17 rfl
  exact met_mk (ps := ["self", "one", "other", "axis"]) F (T.meth 51 rfl) (fun _ _ _ _ _ _ us hl => match us, hl with | [_, _, _, _], _ => rfl) sc_shared (fun cdv A outer s H E hr =>
    (ess_cons (es_par2 4 5 rfl sc_shared.nd rfl rfl (by decide) rfl rfl (eac_fz (ev_item hr.units (EB.of (ev_fld (ev_name 0 rfl (.inl rfl) rfl rfl) (T.cls 40 rfl) (T.noat 42 rfl) rfl)) (eb_name 1 rfl (.inl rfl) rfl rfl) (fun _ _ => rfl)) (eac_fz (ev_item hr.units (EB.of (ev_fld (ev_name 0 rfl (.inl rfl) rfl rfl) (T.cls 40 rfl) (T.noat 42 rfl) rfl)) (eb_name 2 rfl (.inl rfl) rfl rfl) (fun _ _ => rfl)) eac_nil rfl) rfl) rfl rfl)
    (ess_cons (es_set 6 sc_shared.nd rfl (.inl rfl) (.inl rfl) (ev_op op_sub does_sub (EB.of ev_int) (eb_name 3 rfl (.inl rfl) rfl rfl)) rfl)
    (ess_cons (es_set 7 sc_shared.nd rfl (.inl rfl) (.inl rfl) (eb_maxF rfl hr.units rfl (T.free 49 rfl) (eab_cons (EB.of (ev_item hr.units (eb_name 4 rfl (.inl rfl) rfl rfl) (eb_name 6 rfl (.inl rfl) rfl rfl) (fun _ _ => rfl))) (eab_cons (EB.of (ev_item hr.units (eb_name 5 rfl (.inl rfl) rfl rfl) (eb_name 6 rfl (.inl rfl) rfl rfl) (fun _ _ => rfl))) eab_nil rfl) rfl) rfl rfl) rfl)
    (ess_cons (es_set 8 sc_shared.nd rfl (.inl rfl) (.inl rfl) (eb_minF rfl hr.units rfl (T.free 50 rfl) (eab_cons (EB.of (ev_op op_addAll does_add (EB.of (ev_item hr.units (eb_name 4 rfl (.inl rfl) rfl rfl) (eb_name 6 rfl (.inl rfl) rfl rfl) (fun _ _ => rfl))) (EB.of (ev_item hr.units (eb_name 4 rfl (.inl rfl) rfl rfl) (EB.of (ev_op op_addAll does_add (eb_name 6 rfl (.inl rfl) rfl rfl) (EB.of ev_int))) (fun _ _ => rfl))))) (eab_cons (EB.of (ev_op op_addAll does_add (EB.of (ev_item hr.units (eb_name 5 rfl (.inl rfl) rfl rfl) (eb_name 6 rfl (.inl rfl) rfl rfl) (fun _ _ => rfl))) (EB.of (ev_item hr.units (eb_name 5 rfl (.inl rfl) rfl rfl) (EB.of (ev_op op_addAll does_add (eb_name 6 rfl (.inl rfl) rfl rfl) (EB.of ev_int))) (fun _ _ => rfl))))) eab_nil rfl) rfl) rfl rfl) rfl)
    (ess_one (es_ret (ev_tup (ea_cons (ev_name 7 rfl (.inl rfl) rfl rfl) (ea_cons (ev_op op_sub does_sub (eb_name 8 rfl (.inl rfl) rfl rfl) (eb_name 7 rfl (.inl rfl) rfl rfl)) ea_nil rfl) rfl)))))))))
theorem sc_at_edge : FnScope ["self", "name", "way", "at", "found", "other", "begin", "cells", "_begin"] ["self", "name", "way", "at"] (defScope (inClass (top 37) 4)) := ⟨rfl, rfl, rfl, by decide +kernel, rfl, by decide +kernel, by decide +kernel⟩
def b_at_edge_1 (K : PySem.W.Frag) (m_edge : List D → R D) (m_shared : List D → R D) : Cells → R Out :=
    (ifS (fun (c : Cells) => (lift2 oEq (methD (He.ga K "Sides") "edge" 3 m_edge (rdV 0) (fun (c : Cells) => (rdV 5) c >>= fun d => (fun (c : Cells) => (fun (c : Cells) => (rdV 2) c >>= kdGet tab_BACK) c >>= fun d => (fun (_ : Cells) => R.ok ([] : List D)) c >>= fun ds => R.ok (d :: ds)) c >>= fun ds => R.ok (d :: ds))) (rdB 3)) c >>= asB) (thenS (fun (c : Cells) => (methD (He.ga K "Sides") "shared" 4 m_shared (rdV 0) (fun (c : Cells) => (rdV 1) c >>= fun d => (fun (c : Cells) => (rdV 5) c >>= fun d => (fun (c : Cells) => (fun (c : Cells) => (rdV 2) c >>= kdGet tab_AXES) c >>= fun d => (fun (_ : Cells) => R.ok ([] : List D)) c >>= fun ds => R.ok (d :: ds)) c >>= fun ds => R.ok (d :: ds)) c >>= fun ds => R.ok (d :: ds))) c >>= fun d => ofO ((gT 2 (gsCons (gN 6) (gsCons (gN 7) gsNil))) d c))
    (ifS (fun (c : Cells) => (lift2 oGt (rdB 7) (fun (_ : Cells) => R.ok (D.int 0))) c >>= asB) (appS 4 (fun (c : Cells) => (fun (c : Cells) => (rdV 6) c >>= fun d => (fun (c : Cells) => (rdV 5) c >>= fun d => (fun (c : Cells) => (rdV 7) c >>= fun d => (fun (_ : Cells) => R.ok ([] : List D)) c >>= fun ds => R.ok (d :: ds)) c >>= fun ds => R.ok (d :: ds)) c >>= fun ds => R.ok (d :: ds)) c >>= mkTup))
    (fun (c : Cells) => R.ok (Out.nx c))))
    (fun (c : Cells) => R.ok (Out.nx c)))
def e_at_edge_1 (K : PySem.W.Frag) (m_edge : List D → R D) (m_shared : List D → R D) : Cells → R D :=
    (fun (c : Cells) => (fun (c : Cells) => (rdV 5) c >>= fun d => (fun (c : Cells) => (rdV 7) c >>= fun d => (fun (_ : Cells) => R.ok ([] : List D)) c >>= fun ds => R.ok (d :: ds)) c >>= fun ds => R.ok (d :: ds)) c >>= mkTup)
def f_at_edge (K : PySem.W.Frag) (m_edge : List D → R D) (m_shared : List D → R D) : Cells → R Out :=
    (thenS (fun (c : Cells) => (fun (c : Cells) => (fun (_ : Cells) => R.ok ([] : List D)) c >>= mkLst) c >>= fun d => R.ok (Out.nx (c.set 4 (Cell.ow d))))
    (thenS (forK (fun (c : Cells) => rdV 0 c >>= fldD (He.ga K "Sides") "boxes") (gN 5) (b_at_edge_1 K m_edge m_shared))
    (fun (c : Cells) => (compV [8, 5, 7] (fun (c : Cells) => (fun (c : Cells) => (fun (c : Cells) => (rdB 4) c >>= fun d => (fun (_ : Cells) => R.ok ([] : List D)) c >>= fun ds => R.ok (d :: ds)) c >>= oSorted) c >>= asIt) (gT 3 (gsCons (gN 8) (gsCons (gN 5) (gsCons (gN 7) gsNil)))) (fun (_ : Cells) => R.ok true) (e_at_edge_1 K m_edge m_shared)) c >>= fun d => R.ok (Out.rt d))))
def a_at_edge (K : PySem.W.Frag) (m_edge : List D → R D) (m_shared : List D → R D) : List D → R D := fun ds => endR (f_at_edge K m_edge m_shared (cellsN ["self", "name", "way", "at", "found", "other", "begin", "cells", "_begin"] ds))
set_option maxHeartbeats 0 in
theorem k_at_edge {P : Program} {w : World} {K : PySem.W.Frag} {mg : Str → Option Value} {base : Heap} {k : Nat} {m_edge m_shared : List D → R D} (T : Top fa fn ts ex w K mg)  (c_edge : Met P w K mg base k (He.ga K "Sides") "edge" 3 m_edge) (c_shared : Met P w K mg base k (He.ga K "Sides") "shared" 4 m_shared)  : Met P w K mg base (k + 1) (He.ga K "Sides") "at_edge" 4 (a_at_edge K m_edge m_shared) := by
  obtain ⟨fd, F⟩ := T.def_ 18 rfl
  exact met_mk (ps := ["self", "name", "way", "at"]) F (T.meth 53 rfl) (fun _ _ _ _ _ _ us hl => match us, hl with | [_, _, _, _], _ => rfl) sc_at_edge (fun cdv A outer s H E hr =>
    (ess_cons (es_setO 4 sc_at_edge.nd rfl (.inl rfl) (.inl rfl) (el_lst ea_nil) rfl)
    (ess_cons (es_forKeys (passes_of rfl) rfl (rd_fld 0 rfl (.inl rfl) rfl rfl (T.cls 40 rfl) (T.noat 42 rfl) rfl) (eg_name 5 sc_at_edge.nd rfl (.inl rfl) (.inl rfl)) (ess_one (es_if (et_cmp (op_eqD hr.units) does_eq (EB.of (ev_met (pl := _) c_edge (T.cls 40 rfl) (ev_name 0 rfl (.inl rfl) rfl rfl) hr (ea_cons (ev_name 5 rfl (.inl rfl) rfl rfl) (ea_cons (ev_kd rfl (T.glo 52 rfl) (T.tab 1 rfl).choose_spec.choose_spec (T_val_BACK T) rfl (ev_name 2 rfl (.inl rfl) rfl rfl) rfl (fun _ _ => rfl)) ea_nil rfl) rfl) rfl rfl rfl)) (eb_name 3 rfl (.inl rfl) rfl rfl) rfl) (ess_cons (es_asg (ev_met (pl := _) c_shared (T.cls 40 rfl) (ev_name 0 rfl (.inl rfl) rfl rfl) hr (ea_cons (ev_name 1 rfl (.inl rfl) rfl rfl) (ea_cons (ev_name 5 rfl (.inl rfl) rfl rfl) (ea_cons (ev_kd rfl (T.glo 46 rfl) (T.tab 0 rfl).choose_spec.choose_spec (T_val_AXES T) rfl (ev_name 2 rfl (.inl rfl) rfl rfl) rfl (fun _ _ => rfl)) ea_nil rfl) rfl) rfl) rfl rfl rfl) (eg_tup rfl (egs_cons (eg_name 6 sc_at_edge.nd rfl (.inl rfl) (.inl rfl)) (egs_cons (eg_name 7 sc_at_edge.nd rfl (.inl rfl) (.inl rfl)) egs_nil rfl) rfl) rfl rfl) rfl rfl rfl)
    (ess_one (es_if (et_cmp op_gt does_cmp (eb_name 7 rfl (.inl rfl) rfl rfl) (EB.of ev_int) rfl) (ess_one (es_append 4 rfl (.inl rfl) rfl rfl (ev_tup (ea_cons (ev_name 6 rfl (.inl rfl) rfl rfl) (ea_cons (ev_name 5 rfl (.inl rfl) rfl rfl) (ea_cons (ev_name 7 rfl (.inl rfl) rfl rfl) ea_nil rfl) rfl) rfl)) rfl rfl rfl rfl rfl))
    ess_nil)))
    ess_nil)) (fun _ => rfl))
    (ess_one (es_ret (EV.ofL (el_lc (own := [("_begin", 8), ("other", 5), ("cells", 7)]) rfl sc_at_edge.nd (blkOk_by (by kernel_rfl)) (ei_any (eb_sortedF rfl hr.units rfl (T.free 38 rfl) (eab_cons (eb_name 4 rfl (.inl rfl) rfl rfl) eab_nil rfl) rfl rfl)) (fun _ _ _ _ _ => (eg_tup rfl (egs_cons (eg_name 8 sc_at_edge.nd rfl (.inl rfl) (.inr rfl)) (egs_cons (eg_name 5 sc_at_edge.nd rfl (.inl rfl) (.inr rfl)) (egs_cons (eg_name 7 sc_at_edge.nd rfl (.inl rfl) (.inr rfl)) egs_nil rfl) rfl) rfl) rfl rfl)) (fun _ _ _ _ _ => ets_nil) (fun _ _ _ _ _ => (ev_tup (ea_cons (ev_name 5 rfl (.inl rfl) rfl rfl) (ea_cons (ev_name 7 rfl (.inl rfl) rfl rfl) ea_nil rfl) rfl))) (by decide) (fun _ => rfl))))))))
theorem sc_Me_beside : FnScope ["self", "name", "way", "pair"] ["self", "name", "way"] (defScope (inClass (top 37) 5)) := ⟨rfl, rfl, rfl, by decide +kernel, rfl, by decide +kernel, by decide +kernel⟩
def t_Me_beside_1 (K : PySem.W.Frag) (m_at_edge : List D → R D) (m_edge : List D → R D) : Cells → R Bool :=
    (fun (c : Cells) => (lift2 oNe (lift2 itemOf (rdB 3) (fun (_ : Cells) => R.ok (D.int 0))) (rdB 1)) c >>= asB)
def e_Me_beside_1 (K : PySem.W.Frag) (m_at_edge : List D → R D) (m_edge : List D → R D) : Cells → R D :=
    (rdV 3)
def f_Me_beside (K : PySem.W.Frag) (m_at_edge : List D → R D) (m_edge : List D → R D) : Cells → R Out :=
    (fun (c : Cells) => (compV [3] (fun (c : Cells) => (methD (He.ga K "Sides") "at_edge" 4 m_at_edge (rdV 0) (fun (c : Cells) => (rdV 1) c >>= fun d => (fun (c : Cells) => (rdV 2) c >>= fun d => (fun (c : Cells) => (methD (He.ga K "Sides") "edge" 3 m_edge (rdV 0) (fun (c : Cells) => (rdV 1) c >>= fun d => (fun (c : Cells) => (rdV 2) c >>= fun d => (fun (_ : Cells) => R.ok ([] : List D)) c >>= fun ds => R.ok (d :: ds)) c >>= fun ds => R.ok (d :: ds))) c >>= fun d => (fun (_ : Cells) => R.ok ([] : List D)) c >>= fun ds => R.ok (d :: ds)) c >>= fun ds => R.ok (d :: ds)) c >>= fun ds => R.ok (d :: ds))) c >>= asIt) (gN 3) (t_Me_beside_1 K m_at_edge m_edge) (e_Me_beside_1 K m_at_edge m_edge)) c >>= fun d => R.ok (Out.rt d))
def a_Me_beside (K : PySem.W.Frag) (m_at_edge : List D → R D) (m_edge : List D → R D) : List D → R D := fun ds => endR (f_Me_beside K m_at_edge m_edge (cellsN ["self", "name", "way", "pair"] ds))
set_option maxHeartbeats 0 in
theorem k_Me_beside {P : Program} {w : World} {K : PySem.W.Frag} {mg : Str → Option Value} {base : Heap} {k : Nat} {m_at_edge m_edge : List D → R D} (T : Top fa fn ts ex w K mg)  (c_at_edge : Met P w K mg base k (He.ga K "Sides") "at_edge" 4 m_at_edge) (c_edge : Met P w K mg base k (He.ga K "Sides") "edge" 3 m_edge)  : Met P w K mg base (k + 1) (He.ga K "Sides") "beside" 3 (a_Me_beside K m_at_edge m_edge) := by
  obtain ⟨fd, F⟩ := T.def_ 19 rfl
  exact met_mk (ps := ["self", "name", "way"]) F (T.meth 54 rfl) (fun _ _ _ _ _ _ us hl => match us, hl with | [_, _, _], _ => rfl) sc_Me_beside (fun cdv A outer s H E hr =>
    (ess_one (es_ret (EV.ofL (el_lc (own := [("pair", 3)]) rfl sc_Me_beside.nd (blkOk_by (by kernel_rfl)) (ei_any (ev_met (pl := _) c_at_edge (T.cls 40 rfl) (ev_name 0 rfl (.inl rfl) rfl rfl) hr (ea_cons (ev_name 1 rfl (.inr (.inl rfl)) rfl rfl) (ea_cons (ev_name 2 rfl (.inl rfl) rfl rfl) (ea_cons (ev_met (pl := _) c_edge (T.cls 40 rfl) (ev_name 0 rfl (.inl rfl) rfl rfl) hr (ea_cons (ev_name 1 rfl (.inr (.inl rfl)) rfl rfl) (ea_cons (ev_name 2 rfl (.inl rfl) rfl rfl) ea_nil rfl) rfl) rfl rfl rfl) ea_nil rfl) rfl) rfl) rfl rfl rfl)) (fun _ _ _ _ _ => (eg_name 3 sc_Me_beside.nd rfl (.inl rfl) (.inr rfl))) (fun _ _ _ _ _ => (ets_one (et_cmp (op_neD hr.units) does_ne (EB.of (ev_item hr.units (eb_name 3 rfl (.inl rfl) rfl rfl) (EB.of ev_int) (fun _ _ => rfl))) (eb_name 1 rfl (.inr (.inl rfl)) rfl rfl) rfl))) (fun _ _ _ _ _ => (ev_name 3 rfl (.inl rfl) rfl rfl)) (by decide) (fun _ => rfl))))))
theorem sc_step : FnScope ["self", "name", "way"] ["self", "name", "way"] (defScope (inClass (top 37) 6)) := ⟨rfl, rfl, rfl, by decide +kernel, rfl, by decide +kernel, by decide +kernel⟩
def f_step (K : PySem.W.Frag) (m_most_shared : List D → R D) (m_Me_beside : List D → R D) : Cells → R Out :=
    (fun (c : Cells) => (callD 1 m_most_shared (fun (c : Cells) => (methD (He.ga K "Sides") "beside" 3 m_Me_beside (rdV 0) (fun (c : Cells) => (rdV 1) c >>= fun d => (fun (c : Cells) => (rdV 2) c >>= fun d => (fun (_ : Cells) => R.ok ([] : List D)) c >>= fun ds => R.ok (d :: ds)) c >>= fun ds => R.ok (d :: ds))) c >>= fun d => (fun (_ : Cells) => R.ok ([] : List D)) c >>= fun ds => R.ok (d :: ds))) c >>= fun d => R.ok (Out.rt d))
def a_step (K : PySem.W.Frag) (m_most_shared : List D → R D) (m_Me_beside : List D → R D) : List D → R D := fun ds => endR (f_step K m_most_shared m_Me_beside (cellsN ["self", "name", "way"] ds))
set_option maxHeartbeats 0 in
theorem k_step {P : Program} {w : World} {K : PySem.W.Frag} {mg : Str → Option Value} {base : Heap} {k : Nat} {m_most_shared m_Me_beside : List D → R D} (T : Top fa fn ts ex w K mg) (c_most_shared : Cal P w K mg base k "most_shared" 1 m_most_shared) (c_Me_beside : Met P w K mg base k (He.ga K "Sides") "beside" 3 m_Me_beside)  : Met P w K mg base (k + 1) (He.ga K "Sides") "step" 3 (a_step K m_most_shared m_Me_beside) := by
  obtain ⟨fd, F⟩ := T.def_ 20 rfl
  exact met_mk (ps := ["self", "name", "way"]) F (T.meth 55 rfl) (fun _ _ _ _ _ _ us hl => match us, hl with | [_, _, _], _ => rfl) sc_step (fun cdv A outer s H E hr =>
    (ess_one (es_ret (ev_cal c_most_shared hr rfl (takes_of rfl rfl rfl rfl) (ea_cons (ev_met (pl := _) c_Me_beside (T.cls 40 rfl) (ev_name 0 rfl (.inl rfl) rfl rfl) hr (ea_cons (ev_name 1 rfl (.inl rfl) rfl rfl) (ea_cons (ev_name 2 rfl (.inl rfl) rfl rfl) ea_nil rfl) rfl) rfl rfl rfl) ea_nil rfl) rfl rfl rfl))))
theorem sc_most_shared : FnScope ["pairs", "best", "names", "_name", "cells", "name"] ["pairs"] (defScope (top 38)) := ⟨rfl, rfl, rfl, by decide +kernel, rfl, by decide +kernel, by decide +kernel⟩
def e_most_shared_1  : Cells → R D :=
    (rdV 4)
def t_most_shared_1  : Cells → R Bool :=
    (fun (c : Cells) => (lift2 oEq (rdB 4) (rdB 1)) c >>= asB)
def e_most_shared_2  : Cells → R D :=
    (rdV 5)
def f_most_shared  : Cells → R Out :=
    (thenS (fun (c : Cells) => (fun (c : Cells) => (fun (c : Cells) => (lift2 oAdd (compV [3, 4] (fun (c : Cells) => (rdV 0) c >>= asIt) (gT 2 (gsCons (gN 3) (gsCons (gN 4) gsNil))) (fun (_ : Cells) => R.ok true) (e_most_shared_1 )) (fun (c : Cells) => (fun (c : Cells) => (fun (_ : Cells) => R.ok (D.int 0)) c >>= fun d => (fun (_ : Cells) => R.ok ([] : List D)) c >>= fun ds => R.ok (d :: ds)) c >>= mkLst)) c >>= fun d => (fun (_ : Cells) => R.ok ([] : List D)) c >>= fun ds => R.ok (d :: ds)) c >>= oMax) c >>= fun d => R.ok (Out.nx (c.set 1 (Cell.fz d))))
    (thenS (fun (c : Cells) => (compV [5, 4] (fun (c : Cells) => (rdV 0) c >>= asIt) (gT 2 (gsCons (gN 5) (gsCons (gN 4) gsNil))) (t_most_shared_1 ) (e_most_shared_2 )) c >>= fun d => R.ok (Out.nx (c.set 2 (Cell.fz d))))
    (fun (c : Cells) => (ifV (fun (c : Cells) => (lift2 oGt (fun (c : Cells) => (fun (c : Cells) => (rdB 2) c >>= fun d => (fun (_ : Cells) => R.ok ([] : List D)) c >>= fun ds => R.ok (d :: ds)) c >>= oLen) (fun (_ : Cells) => R.ok (D.int 0))) c >>= asB) (lift2 itemOf (rdB 2) (fun (_ : Cells) => R.ok (D.int 0))) (fun (_ : Cells) => R.ok D.none)) c >>= fun d => R.ok (Out.rt d))))
def a_most_shared  : List D → R D := fun ds => endR (f_most_shared  (cellsN ["pairs", "best", "names", "_name", "cells", "name"] ds))
set_option maxHeartbeats 0 in
theorem k_most_shared {P : Program} {w : World} {K : PySem.W.Frag} {mg : Str → Option Value} {base : Heap} {k : Nat} (T : Top fa fn ts ex w K mg)    : Cal P w K mg base (k + 1) "most_shared" 1 (a_most_shared ) := by
  obtain ⟨fd, F⟩ := T.def_ 21 rfl
  exact cal_mk (ps := ["pairs"]) F (T.glo 56 rfl) (fun _ _ _ _ _ _ us hl => match us, hl with | [_], _ => rfl) sc_most_shared (fun cdv A outer s H E hr =>
    (ess_cons (es_set 1 sc_most_shared.nd rfl (.inr rfl) (.inl rfl) (eb_maxF rfl hr.units rfl (T.free 49 rfl) (eab_cons (EB.of (ev_op op_addAll does_add (EB.ofL (el_lc (own := [("_name", 3), ("cells", 4)]) rfl sc_most_shared.nd (blkOk_by (by kernel_rfl)) (ei_any (ev_name 0 rfl (.inl rfl) rfl rfl)) (fun _ _ _ _ _ => (eg_tup rfl (egs_cons (eg_name 3 sc_most_shared.nd rfl (.inl rfl) (.inr rfl)) (egs_cons (eg_name 4 sc_most_shared.nd rfl (.inl rfl) (.inr rfl)) egs_nil rfl) rfl) rfl rfl)) (fun _ _ _ _ _ => ets_nil) (fun _ _ _ _ _ => (ev_name 4 rfl (.inl rfl) rfl rfl)) (by decide) (fun _ => rfl))) (EB.ofL (el_lst (ea_cons ev_int ea_nil rfl))))) eab_nil rfl) rfl rfl) rfl)
    (ess_cons (es_setLcF 2 (own := [("name", 5), ("cells", 4)]) rfl sc_most_shared.nd rfl rfl (sw_true rfl rfl rfl rfl) (blkOk_by (by kernel_rfl)) (ei_any (ev_name 0 rfl (.inl rfl) rfl rfl)) (fun _ _ _ _ _ => (eg_tup rfl (egs_cons (eg_name 5 sc_most_shared.nd rfl (.inl rfl) (.inr rfl)) (egs_cons (eg_name 4 sc_most_shared.nd rfl (.inl rfl) (.inr rfl)) egs_nil rfl) rfl) rfl rfl)) (fun _ _ _ _ _ => (ets_one (et_cmp (op_eqD hr.units) does_eq (eb_name 4 rfl (.inl rfl) rfl rfl) (eb_name 1 rfl (.inr (.inl rfl)) rfl rfl) rfl))) (fun _ _ _ _ _ => (ev_name 5 rfl (.inl rfl) rfl rfl)) (by decide) (fun _ => rfl))
    (ess_one (es_ret (ev_ifExp (et_cmp op_gt does_cmp (EB.of (eb_lenF rfl hr.units rfl (T.free 5 rfl) (eab_cons (eb_name 2 rfl (.inl rfl) rfl rfl) eab_nil rfl) rfl rfl)) (EB.of ev_int) rfl) (ev_item hr.units (eb_name 2 rfl (.inl rfl) rfl rfl) (EB.of ev_int) (fun _ _ => rfl)) ev_non))))))
theorem sc_check_name : FnScope ["sides", "name"] ["sides", "name"] (defScope (top 39)) := ⟨rfl, rfl, rfl, by decide +kernel, rfl, by decide +kernel, by decide +kernel⟩
def f_check_name (K : PySem.W.Frag)  : Cells → R Out :=
    (ifS (orT (notT (fun (c : Cells) => (fun (c : Cells) => (rdB 1) c >>= oIsi "str") c >>= asB)) (fun (c : Cells) => (lift2 oNotIn (rdB 1) (fun (c : Cells) => (rdV 0) c >>= fldD (He.ga K "Sides") "boxes")) c >>= asB)) (fun (_ : Cells) => R.exc (He.ga K "NoWindow"))
    (fun (c : Cells) => R.ok (Out.nx c)))
def a_check_name (K : PySem.W.Frag)  : List D → R D := fun ds => endR (f_check_name K  (cellsN ["sides", "name"] ds))
set_option maxHeartbeats 0 in
theorem k_check_name {P : Program} {w : World} {K : PySem.W.Frag} {mg : Str → Option Value} {base : Heap} {k : Nat} (T : Top fa fn ts ex w K mg)    : Cal P w K mg base (k + 1) "check_name" 2 (a_check_name K ) := by
  obtain ⟨fd, F⟩ := T.def_ 22 rfl
  exact cal_mk (ps := ["sides", "name"]) F (T.glo 59 rfl) (fun _ _ _ _ _ _ us hl => match us, hl with | [_, _], _ => rfl) sc_check_name (fun cdv A outer s H E hr =>
    (ess_one (es_if (et_w (ew_or (et_not (et_val (ev_isi (T := "str") (eb_name 1 rfl (.inl rfl) rfl rfl) rfl (T.free 0 rfl) b_isinstance rfl (T.free 4 rfl) b_str (by decide) rfl (by decide) rfl rfl rfl rfl) (fun _ => rfl))) (ew_or1 (et_cmp (op_notInAll hr.units) does_notIn (eb_name 1 rfl (.inl rfl) rfl rfl) (EB.of (ev_fld (ev_name 0 rfl (.inl rfl) rfl rfl) (T.cls 40 rfl) (T.noat 42 rfl) rfl)) rfl)))) (ess_one (es_raise rfl (takes_of rfl rfl rfl rfl) (T.exc 57 rfl) (T.glo 58 rfl) rfl rfl))
    ess_nil)))
theorem sc_check_way : FnScope ["way"] ["way"] (defScope (top 40)) := ⟨rfl, rfl, rfl, by decide +kernel, rfl, by decide +kernel, by decide +kernel⟩
def f_check_way (K : PySem.W.Frag)  : Cells → R Out :=
    (ifS (orT (notT (fun (c : Cells) => (fun (c : Cells) => (rdB 0) c >>= oIsi "str") c >>= asB)) (fun (c : Cells) => (lift2 oNotIn (rdB 0) (fun (_ : Cells) => R.ok (D.ftuple (tup_WAYS.map dvD)))) c >>= asB)) (fun (_ : Cells) => R.exc (He.ga K "BadWay"))
    (fun (c : Cells) => R.ok (Out.nx c)))
def a_check_way (K : PySem.W.Frag)  : List D → R D := fun ds => endR (f_check_way K  (cellsN ["way"] ds))
set_option maxHeartbeats 0 in
theorem k_check_way {P : Program} {w : World} {K : PySem.W.Frag} {mg : Str → Option Value} {base : Heap} {k : Nat} (T : Top fa fn ts ex w K mg)    : Cal P w K mg base (k + 1) "check_way" 1 (a_check_way K ) := by
  obtain ⟨fd, F⟩ := T.def_ 23 rfl
  exact cal_mk (ps := ["way"]) F (T.glo 63 rfl) (fun _ _ _ _ _ _ us hl => match us, hl with | [_], _ => rfl) sc_check_way (fun cdv A outer s H E hr =>
    (ess_one (es_if (et_w (ew_or (et_not (et_val (ev_isi (T := "str") (eb_name 0 rfl (.inl rfl) rfl rfl) rfl (T.free 0 rfl) b_isinstance rfl (T.free 4 rfl) b_str (by decide) rfl (by decide) rfl rfl rfl rfl) (fun _ => rfl))) (ew_or1 (et_cmp (op_notInAll hr.units) does_notIn (eb_name 0 rfl (.inl rfl) rfl rfl) (EB.of (ev_glob rfl (glob_tup (T.glo 60 rfl) (T_tup_WAYS T) rfl) rfl)) rfl)))) (ess_one (es_raise rfl (takes_of rfl rfl rfl rfl) (T.exc 61 rfl) (T.glo 62 rfl) rfl rfl))
    ess_nil)))
theorem sc_there_windows : FnScope ["layout", "box"] ["layout", "box"] (defScope (top 41)) := ⟨rfl, rfl, rfl, by decide +kernel, rfl, by decide +kernel, by decide +kernel⟩
def f_there_windows (K : PySem.W.Frag) (m_names : List D → R D) (m_Sides : List D → R (List (Str × D))) : Cells → R Out :=
    (fun (c : Cells) => (fun (c : Cells) => (fun (c : Cells) => (meth0D (He.ga K "Sides") "names" m_names (makeD (He.ga K "Sides") 2 m_Sides (fun (c : Cells) => (rdV 0) c >>= fun d => (fun (c : Cells) => (rdV 1) c >>= fun d => (fun (_ : Cells) => R.ok ([] : List D)) c >>= fun ds => R.ok (d :: ds)) c >>= fun ds => R.ok (d :: ds)))) c >>= fun d => (fun (_ : Cells) => R.ok ([] : List D)) c >>= fun ds => R.ok (d :: ds)) c >>= oTuple) c >>= fun d => R.ok (Out.rt d))
def a_there_windows (K : PySem.W.Frag) (m_names : List D → R D) (m_Sides : List D → R (List (Str × D))) : List D → R D := fun ds => endR (f_there_windows K m_names m_Sides (cellsN ["layout", "box"] ds))
set_option maxHeartbeats 0 in
theorem k_there_windows {P : Program} {w : World} {K : PySem.W.Frag} {mg : Str → Option Value} {base : Heap} {k : Nat} {m_names : List D → R D} {m_Sides : List D → R (List (Str × D))} (T : Top fa fn ts ex w K mg)  (c_names : Met P w K mg base (k + 1) (He.ga K "Sides") "names" 1 m_names) (c_Sides : Mak P w K mg base k "Sides" (He.ga K "Sides") 2 m_Sides) : Cal P w K mg base ((k + 1) + 1) "there_windows" 2 (a_there_windows K m_names m_Sides) := by
  obtain ⟨fd, F⟩ := T.def_ 24 rfl
  exact cal_mk (ps := ["layout", "box"]) F (T.glo 64 rfl) (fun _ _ _ _ _ _ us hl => match us, hl with | [_, _], _ => rfl) sc_there_windows (fun cdv A outer s H E hr =>
    (ess_one (es_ret (eb_tupleF rfl hr.units rfl (T.free 10 rfl) (eab_cons (EB.of (ev_met0 (pl := _) c_names (T.cls 40 rfl) (ev_mak c_Sides hr rfl (takes_of rfl rfl rfl rfl) (fun _ _ _ _ _ h => h) (ea_cons (ev_name 0 rfl (.inl rfl) rfl rfl) (ea_cons (ev_name 1 rfl (.inl rfl) rfl rfl) ea_nil rfl) rfl) rfl rfl rfl) hr rfl)) eab_nil rfl) rfl rfl))))
theorem sc_beside : FnScope ["layout", "box", "name", "way", "sides"] ["layout", "box", "name", "way"] (defScope (top 42)) := ⟨rfl, rfl, rfl, by decide +kernel, rfl, by decide +kernel, by decide +kernel⟩
def f_beside (K : PySem.W.Frag) (m_check_name : List D → R D) (m_check_way : List D → R D) (m_Me_beside : List D → R D) (m_Sides : List D → R (List (Str × D))) : Cells → R Out :=
    (thenS (fun (c : Cells) => (makeD (He.ga K "Sides") 2 m_Sides (fun (c : Cells) => (rdV 0) c >>= fun d => (fun (c : Cells) => (rdV 1) c >>= fun d => (fun (_ : Cells) => R.ok ([] : List D)) c >>= fun ds => R.ok (d :: ds)) c >>= fun ds => R.ok (d :: ds))) c >>= fun d => R.ok (Out.nx (c.set 4 (Cell.fz d))))
    (thenS (fun (c : Cells) => (callD 2 m_check_name (fun (c : Cells) => (rdV 4) c >>= fun d => (fun (c : Cells) => (rdV 2) c >>= fun d => (fun (_ : Cells) => R.ok ([] : List D)) c >>= fun ds => R.ok (d :: ds)) c >>= fun ds => R.ok (d :: ds))) c >>= fun _ => R.ok (Out.nx c))
    (thenS (fun (c : Cells) => (callD 1 m_check_way (fun (c : Cells) => (rdV 3) c >>= fun d => (fun (_ : Cells) => R.ok ([] : List D)) c >>= fun ds => R.ok (d :: ds))) c >>= fun _ => R.ok (Out.nx c))
    (fun (c : Cells) => (fun (c : Cells) => (fun (c : Cells) => (methD (He.ga K "Sides") "beside" 3 m_Me_beside (rdV 4) (fun (c : Cells) => (rdV 2) c >>= fun d => (fun (c : Cells) => (rdV 3) c >>= fun d => (fun (_ : Cells) => R.ok ([] : List D)) c >>= fun ds => R.ok (d :: ds)) c >>= fun ds => R.ok (d :: ds))) c >>= fun d => (fun (_ : Cells) => R.ok ([] : List D)) c >>= fun ds => R.ok (d :: ds)) c >>= oTuple) c >>= fun d => R.ok (Out.rt d)))))
def a_beside (K : PySem.W.Frag) (m_check_name : List D → R D) (m_check_way : List D → R D) (m_Me_beside : List D → R D) (m_Sides : List D → R (List (Str × D))) : List D → R D := fun ds => endR (f_beside K m_check_name m_check_way m_Me_beside m_Sides (cellsN ["layout", "box", "name", "way", "sides"] ds))
set_option maxHeartbeats 0 in
theorem k_beside {P : Program} {w : World} {K : PySem.W.Frag} {mg : Str → Option Value} {base : Heap} {k : Nat} {m_check_name m_check_way m_Me_beside : List D → R D} {m_Sides : List D → R (List (Str × D))} (T : Top fa fn ts ex w K mg) (c_check_name : Cal P w K mg base (k + 1) "check_name" 2 m_check_name) (c_check_way : Cal P w K mg base (k + 1) "check_way" 1 m_check_way) (c_Me_beside : Met P w K mg base (k + 1) (He.ga K "Sides") "beside" 3 m_Me_beside) (c_Sides : Mak P w K mg base k "Sides" (He.ga K "Sides") 2 m_Sides) : Cal P w K mg base ((k + 1) + 1) "beside" 4 (a_beside K m_check_name m_check_way m_Me_beside m_Sides) := by
  obtain ⟨fd, F⟩ := T.def_ 25 rfl
  exact cal_mk (ps := ["layout", "box", "name", "way"]) F (T.glo 65 rfl) (fun _ _ _ _ _ _ us hl => match us, hl with | [_, _, _, _], _ => rfl) sc_beside (fun cdv A outer s H E hr =>
    (ess_cons (es_set 4 sc_beside.nd rfl (.inl rfl) (.inl rfl) (ev_mak c_Sides hr rfl (takes_of rfl rfl rfl rfl) (fun _ _ _ _ _ h => h) (ea_cons (ev_name 0 rfl (.inl rfl) rfl rfl) (ea_cons (ev_name 1 rfl (.inl rfl) rfl rfl) ea_nil rfl) rfl) rfl rfl rfl) rfl)
    (ess_cons (es_drop (ev_cal c_check_name hr rfl (takes_of rfl rfl rfl rfl) (ea_cons (ev_name 4 rfl (.inl rfl) rfl rfl) (ea_cons (ev_name 2 rfl (.inl rfl) rfl rfl) ea_nil rfl) rfl) rfl rfl rfl) rfl)
    (ess_cons (es_drop (ev_cal c_check_way hr rfl (takes_of rfl rfl rfl rfl) (ea_cons (ev_name 3 rfl (.inl rfl) rfl rfl) ea_nil rfl) rfl rfl rfl) rfl)
    (ess_one (es_ret (eb_tupleF rfl hr.units rfl (T.free 10 rfl) (eab_cons (EB.of (ev_met (pl := _) c_Me_beside (T.cls 40 rfl) (ev_name 4 rfl (.inl rfl) rfl rfl) hr (ea_cons (ev_name 2 rfl (.inl rfl) rfl rfl) (ea_cons (ev_name 3 rfl (.inl rfl) rfl rfl) ea_nil rfl) rfl) rfl rfl rfl)) eab_nil rfl) rfl rfl)))))))
theorem sc_steps_to : FnScope ["layout", "box", "name", "way", "sides"] ["layout", "box", "name", "way"] (defScope (top 43)) := ⟨rfl, rfl, rfl, by decide +kernel, rfl, by decide +kernel, by decide +kernel⟩
def f_steps_to (K : PySem.W.Frag) (m_check_name : List D → R D) (m_check_way : List D → R D) (m_step : List D → R D) (m_Sides : List D → R (List (Str × D))) : Cells → R Out :=
    (thenS (fun (c : Cells) => (makeD (He.ga K "Sides") 2 m_Sides (fun (c : Cells) => (rdV 0) c >>= fun d => (fun (c : Cells) => (rdV 1) c >>= fun d => (fun (_ : Cells) => R.ok ([] : List D)) c >>= fun ds => R.ok (d :: ds)) c >>= fun ds => R.ok (d :: ds))) c >>= fun d => R.ok (Out.nx (c.set 4 (Cell.fz d))))
    (thenS (fun (c : Cells) => (callD 2 m_check_name (fun (c : Cells) => (rdV 4) c >>= fun d => (fun (c : Cells) => (rdV 2) c >>= fun d => (fun (_ : Cells) => R.ok ([] : List D)) c >>= fun ds => R.ok (d :: ds)) c >>= fun ds => R.ok (d :: ds))) c >>= fun _ => R.ok (Out.nx c))
    (thenS (fun (c : Cells) => (callD 1 m_check_way (fun (c : Cells) => (rdV 3) c >>= fun d => (fun (_ : Cells) => R.ok ([] : List D)) c >>= fun ds => R.ok (d :: ds))) c >>= fun _ => R.ok (Out.nx c))
    (fun (c : Cells) => (methD (He.ga K "Sides") "step" 3 m_step (rdV 4) (fun (c : Cells) => (rdV 2) c >>= fun d => (fun (c : Cells) => (rdV 3) c >>= fun d => (fun (_ : Cells) => R.ok ([] : List D)) c >>= fun ds => R.ok (d :: ds)) c >>= fun ds => R.ok (d :: ds))) c >>= fun d => R.ok (Out.rt d)))))
def a_steps_to (K : PySem.W.Frag) (m_check_name : List D → R D) (m_check_way : List D → R D) (m_step : List D → R D) (m_Sides : List D → R (List (Str × D))) : List D → R D := fun ds => endR (f_steps_to K m_check_name m_check_way m_step m_Sides (cellsN ["layout", "box", "name", "way", "sides"] ds))
set_option maxHeartbeats 0 in
theorem k_steps_to {P : Program} {w : World} {K : PySem.W.Frag} {mg : Str → Option Value} {base : Heap} {k : Nat} {m_check_name m_check_way m_step : List D → R D} {m_Sides : List D → R (List (Str × D))} (T : Top fa fn ts ex w K mg) (c_check_name : Cal P w K mg base (k + 1) "check_name" 2 m_check_name) (c_check_way : Cal P w K mg base (k + 1) "check_way" 1 m_check_way) (c_step : Met P w K mg base (k + 1) (He.ga K "Sides") "step" 3 m_step) (c_Sides : Mak P w K mg base k "Sides" (He.ga K "Sides") 2 m_Sides) : Cal P w K mg base ((k + 1) + 1) "steps_to" 4 (a_steps_to K m_check_name m_check_way m_step m_Sides) := by
  obtain ⟨fd, F⟩ := T.def_ 26 rfl
  exact cal_mk (ps := ["layout", "box", "name", "way"]) F (T.glo 66 rfl) (fun _ _ _ _ _ _ us hl => match us, hl with | [_, _, _, _], _ => rfl) sc_steps_to (fun cdv A outer s H E hr =>
    (ess_cons (es_set 4 sc_steps_to.nd rfl (.inl rfl) (.inl rfl) (ev_mak c_Sides hr rfl (takes_of rfl rfl rfl rfl) (fun _ _ _ _ _ h => h) (ea_cons (ev_name 0 rfl (.inl rfl) rfl rfl) (ea_cons (ev_name 1 rfl (.inl rfl) rfl rfl) ea_nil rfl) rfl) rfl rfl rfl) rfl)
    (ess_cons (es_drop (ev_cal c_check_name hr rfl (takes_of rfl rfl rfl rfl) (ea_cons (ev_name 4 rfl (.inl rfl) rfl rfl) (ea_cons (ev_name 2 rfl (.inl rfl) rfl rfl) ea_nil rfl) rfl) rfl rfl rfl) rfl)
    (ess_cons (es_drop (ev_cal c_check_way hr rfl (takes_of rfl rfl rfl rfl) (ea_cons (ev_name 3 rfl (.inl rfl) rfl rfl) ea_nil rfl) rfl rfl rfl) rfl)
    (ess_one (es_ret (ev_met (pl := _) c_step (T.cls 40 rfl) (ev_name 4 rfl (.inl rfl) rfl rfl) hr (ea_cons (ev_name 2 rfl (.inl rfl) rfl rfl) (ea_cons (ev_name 3 rfl (.inl rfl) rfl rfl) ea_nil rfl) rfl) rfl rfl rfl)))))))
theorem sc_not_back : FnScope ["layout", "box", "sides", "found", "name", "way", "other"] ["layout", "box"] (defScope (top 44)) := ⟨rfl, rfl, rfl, by decide +kernel, rfl, by decide +kernel, by decide +kernel⟩
def b_not_back_1 (K : PySem.W.Frag) (m_names : List D → R D) (m_step : List D → R D) (m_Sides : List D → R (List (Str × D))) : Cells → R Out :=
    (thenS (fun (c : Cells) => (methD (He.ga K "Sides") "step" 3 m_step (rdV 2) (fun (c : Cells) => (rdV 4) c >>= fun d => (fun (c : Cells) => (rdV 5) c >>= fun d => (fun (_ : Cells) => R.ok ([] : List D)) c >>= fun ds => R.ok (d :: ds)) c >>= fun ds => R.ok (d :: ds))) c >>= fun d => R.ok (Out.nx (c.set 6 (Cell.fz d))))
    (ifS (andT (fun (c : Cells) => (lift2 oIsNot (rdB 6) (fun (_ : Cells) => R.ok D.none)) c >>= asB) (fun (c : Cells) => (lift2 oNe (methD (He.ga K "Sides") "step" 3 m_step (rdV 2) (fun (c : Cells) => (rdV 6) c >>= fun d => (fun (c : Cells) => (fun (c : Cells) => (rdV 5) c >>= kdGet tab_BACK) c >>= fun d => (fun (_ : Cells) => R.ok ([] : List D)) c >>= fun ds => R.ok (d :: ds)) c >>= fun ds => R.ok (d :: ds))) (rdB 4)) c >>= asB)) (appS 3 (fun (c : Cells) => (fun (c : Cells) => (rdV 4) c >>= fun d => (fun (c : Cells) => (rdV 5) c >>= fun d => (fun (c : Cells) => (rdV 6) c >>= fun d => (fun (_ : Cells) => R.ok ([] : List D)) c >>= fun ds => R.ok (d :: ds)) c >>= fun ds => R.ok (d :: ds)) c >>= fun ds => R.ok (d :: ds)) c >>= mkTup))
    (fun (c : Cells) => R.ok (Out.nx c))))
def b_not_back_2 (K : PySem.W.Frag) (m_names : List D → R D) (m_step : List D → R D) (m_Sides : List D → R (List (Str × D))) : Cells → R Out :=
    (forS (fun (c : Cells) => (fun (_ : Cells) => R.ok (D.ftuple (tup_WAYS.map dvD))) c >>= asIt) (gN 5)
    (b_not_back_1 K m_names m_step m_Sides))
def f_not_back (K : PySem.W.Frag) (m_names : List D → R D) (m_step : List D → R D) (m_Sides : List D → R (List (Str × D))) : Cells → R Out :=
    (thenS (fun (c : Cells) => (makeD (He.ga K "Sides") 2 m_Sides (fun (c : Cells) => (rdV 0) c >>= fun d => (fun (c : Cells) => (rdV 1) c >>= fun d => (fun (_ : Cells) => R.ok ([] : List D)) c >>= fun ds => R.ok (d :: ds)) c >>= fun ds => R.ok (d :: ds))) c >>= fun d => R.ok (Out.nx (c.set 2 (Cell.fz d))))
    (thenS (fun (c : Cells) => (fun (c : Cells) => (fun (_ : Cells) => R.ok ([] : List D)) c >>= mkLst) c >>= fun d => R.ok (Out.nx (c.set 3 (Cell.ow d))))
    (thenS (forS (fun (c : Cells) => (meth0D (He.ga K "Sides") "names" m_names (rdV 2)) c >>= asIt) (gN 4)
    (b_not_back_2 K m_names m_step m_Sides))
    (fun (c : Cells) => (fun (c : Cells) => (fun (c : Cells) => (rdB 3) c >>= fun d => (fun (_ : Cells) => R.ok ([] : List D)) c >>= fun ds => R.ok (d :: ds)) c >>= oTuple) c >>= fun d => R.ok (Out.rt d)))))
def a_not_back (K : PySem.W.Frag) (m_names : List D → R D) (m_step : List D → R D) (m_Sides : List D → R (List (Str × D))) : List D → R D := fun ds => endR (f_not_back K m_names m_step m_Sides (cellsN ["layout", "box", "sides", "found", "name", "way", "other"] ds))
set_option maxHeartbeats 0 in
theorem k_not_back {P : Program} {w : World} {K : PySem.W.Frag} {mg : Str → Option Value} {base : Heap} {k : Nat} {m_names m_step : List D → R D} {m_Sides : List D → R (List (Str × D))} (T : Top fa fn ts ex w K mg)  (c_names : Met P w K mg base (k + 1) (He.ga K "Sides") "names" 1 m_names) (c_step : Met P w K mg base (k + 1) (He.ga K "Sides") "step" 3 m_step) (c_Sides : Mak P w K mg base k "Sides" (He.ga K "Sides") 2 m_Sides) : Cal P w K mg base ((k + 1) + 1) "not_back" 2 (a_not_back K m_names m_step m_Sides) := by
  obtain ⟨fd, F⟩ := T.def_ 27 rfl
  exact cal_mk (ps := ["layout", "box"]) F (T.glo 67 rfl) (fun _ _ _ _ _ _ us hl => match us, hl with | [_, _], _ => rfl) sc_not_back (fun cdv A outer s H E hr =>
    (ess_cons (es_set 2 sc_not_back.nd rfl (.inl rfl) (.inl rfl) (ev_mak c_Sides hr rfl (takes_of rfl rfl rfl rfl) (fun _ _ _ _ _ h => h) (ea_cons (ev_name 0 rfl (.inl rfl) rfl rfl) (ea_cons (ev_name 1 rfl (.inl rfl) rfl rfl) ea_nil rfl) rfl) rfl rfl rfl) rfl)
    (ess_cons (es_setO 3 sc_not_back.nd rfl (.inl rfl) (.inl rfl) (el_lst ea_nil) rfl)
    (ess_cons (es_for (passes_of rfl) rfl (ei_any (ev_met0 (pl := _) c_names (T.cls 40 rfl) (ev_name 2 rfl (.inl rfl) rfl rfl) hr rfl)) (eg_name 4 sc_not_back.nd rfl (.inl rfl) (.inl rfl))
    (ess_one (es_for (passes_of rfl) rfl (ei_any (ev_glob rfl (glob_tup (T.glo 60 rfl) (T_tup_WAYS T) rfl) rfl)) (eg_name 5 sc_not_back.nd rfl (.inl rfl) (.inl rfl))
    (ess_cons (es_set 6 sc_not_back.nd rfl (.inl rfl) (.inl rfl) (ev_met (pl := _) c_step (T.cls 40 rfl) (ev_name 2 rfl (.inl rfl) rfl rfl) hr (ea_cons (ev_name 4 rfl (.inl rfl) rfl rfl) (ea_cons (ev_name 5 rfl (.inl rfl) rfl rfl) ea_nil rfl) rfl) rfl rfl rfl) rfl)
    (ess_one (es_if (et_w (ew_and (et_cmp op_notN does_isNot (eb_name 6 rfl (.inl rfl) rfl rfl) (EB.of ev_non) rfl) (ew_and1 (et_cmp (op_neD hr.units) does_ne (EB.of (ev_met (pl := _) c_step (T.cls 40 rfl) (ev_name 2 rfl (.inl rfl) rfl rfl) hr (ea_cons (ev_name 6 rfl (.inl rfl) rfl rfl) (ea_cons (ev_kd rfl (T.glo 52 rfl) (T.tab 1 rfl).choose_spec.choose_spec (T_val_BACK T) rfl (ev_name 5 rfl (.inl rfl) rfl rfl) rfl (fun _ _ => rfl)) ea_nil rfl) rfl) rfl rfl rfl)) (eb_name 4 rfl (.inl rfl) rfl rfl) rfl)))) (ess_one (es_append 3 rfl (.inl rfl) rfl rfl (ev_tup (ea_cons (ev_name 4 rfl (.inl rfl) rfl rfl) (ea_cons (ev_name 5 rfl (.inl rfl) rfl rfl) (ea_cons (ev_name 6 rfl (.inl rfl) rfl rfl) ea_nil rfl) rfl) rfl)) rfl rfl rfl rfl rfl))
    ess_nil))) (fun _ => rfl))) (fun _ => rfl))
    (ess_one (es_ret (eb_tupleF rfl hr.units rfl (T.free 10 rfl) (eab_cons (eb_name 3 rfl (.inl rfl) rfl rfl) eab_nil rfl) rfl rfl)))))))
theorem sc__law_draws : FnScope ["script", "many", "draws", "seed", "cell", "number", "k"] ["script", "many"] (defScope (top 46)) := ⟨rfl, rfl, rfl, by decide +kernel, rfl, by decide +kernel, by decide +kernel⟩
def b__law_draws_1  : Cells → R Out :=
    (ifS (fun (c : Cells) => (lift2 oGt (rdB 5) (fun (_ : Cells) => R.ok (D.int 0))) c >>= asB) (thenS (appS 2 (lift2 oMod (fun (c : Cells) => (fun (c : Cells) => (rdB 5) c >>= fun d => (fun (_ : Cells) => R.ok ([] : List D)) c >>= fun ds => R.ok (d :: ds)) c >>= oInt) (fun (_ : Cells) => R.ok (D.int 1009))))
    (fun (c : Cells) => (lift2 oDiv (rdB 5) (fun (_ : Cells) => R.ok (D.int 1009))) c >>= fun d => R.ok (Out.nx (c.set 5 (Cell.fz d)))))
    (fun (c : Cells) => R.ok (Out.nx c)))
def b__law_draws_2  : Cells → R Out :=
    (thenS (fun (c : Cells) => (fun (c : Cells) => (fun (c : Cells) => (rdB 4) c >>= fun d => (fun (_ : Cells) => R.ok ([] : List D)) c >>= fun ds => R.ok (d :: ds)) c >>= oAbs) c >>= fun d => R.ok (Out.nx (c.set 5 (Cell.fz d))))
    (thenS (fun (c : Cells) => (lift2 oMod (fun (c : Cells) => (fun (c : Cells) => (lift2 oAdd (lift2 oAdd (lift2 oMul2 (rdB 3) (fun (_ : Cells) => R.ok (D.int 48271))) (rdB 5)) (fun (_ : Cells) => R.ok (D.int 11))) c >>= fun d => (fun (_ : Cells) => R.ok ([] : List D)) c >>= fun ds => R.ok (d :: ds)) c >>= oInt) (fun (_ : Cells) => R.ok (D.int 2147483647))) c >>= fun d => R.ok (Out.nx (c.set 3 (Cell.fz d))))
    (ifS (fun (c : Cells) => (lift2 oGe (rdB 5) (lift2 oPow (fun (_ : Cells) => R.ok (D.int 10)) (fun (_ : Cells) => R.ok (D.int 18)))) c >>= asB) (forS (fun (c : Cells) => (fun (c : Cells) => (fun (_ : Cells) => R.ok (D.int 60)) c >>= fun d => (fun (_ : Cells) => R.ok ([] : List D)) c >>= fun ds => R.ok (d :: ds)) c >>= rng1) (gN 6)
    (b__law_draws_1 ))
    (appS 2 (lift2 oMod (lift2 oDiv (fun (c : Cells) => (fun (c : Cells) => (lift2 oAdd (lift2 oMul2 (rdB 3) (fun (_ : Cells) => R.ok (D.int 16807))) (fun (_ : Cells) => R.ok (D.int 5))) c >>= fun d => (fun (_ : Cells) => R.ok ([] : List D)) c >>= fun ds => R.ok (d :: ds)) c >>= oInt) (fun (_ : Cells) => R.ok (D.int 3))) (fun (_ : Cells) => R.ok (D.int 65521)))))))
def b__law_draws_3  : Cells → R Out :=
    (ifS (fun (c : Cells) => (lift2 oLt (fun (c : Cells) => (fun (c : Cells) => (rdB 2) c >>= fun d => (fun (_ : Cells) => R.ok ([] : List D)) c >>= fun ds => R.ok (d :: ds)) c >>= oLen) (rdB 1)) c >>= asB) (thenS (fun (c : Cells) => (lift2 oMod (fun (c : Cells) => (fun (c : Cells) => (lift2 oAdd (lift2 oAdd (lift2 oMul2 (rdB 3) (fun (_ : Cells) => R.ok (D.int 69621))) (rdB 6)) (fun (_ : Cells) => R.ok (D.int 1))) c >>= fun d => (fun (_ : Cells) => R.ok ([] : List D)) c >>= fun ds => R.ok (d :: ds)) c >>= oInt) (fun (_ : Cells) => R.ok (D.int 2147483647))) c >>= fun d => R.ok (Out.nx (c.set 3 (Cell.fz d))))
    (appS 2 (lift2 oMod (lift2 oDiv (fun (c : Cells) => (fun (c : Cells) => (rdB 3) c >>= fun d => (fun (_ : Cells) => R.ok ([] : List D)) c >>= fun ds => R.ok (d :: ds)) c >>= oInt) (fun (_ : Cells) => R.ok (D.int 7))) (fun (_ : Cells) => R.ok (D.int 65521)))))
    (fun (c : Cells) => R.ok (Out.nx c)))
def f__law_draws  : Cells → R Out :=
    (thenS (fun (c : Cells) => (fun (c : Cells) => (fun (_ : Cells) => R.ok ([] : List D)) c >>= mkLst) c >>= fun d => R.ok (Out.nx (c.set 2 (Cell.ow d))))
    (thenS (fun (c : Cells) => (fun (_ : Cells) => R.ok (D.int 7)) c >>= fun d => R.ok (Out.nx (c.set 3 (Cell.fz d))))
    (thenS (forS (fun (c : Cells) => (fun (c : Cells) => (rdB 0) c >>= fun d => (fun (_ : Cells) => R.ok (none : Option Int)) c >>= fun l => (fun (c : Cells) => (fun (_ : Cells) => R.ok (D.int 63)) c >>= fun d => asI d >>= fun i => R.ok (some i)) c >>= fun h => oSlice d l h) c >>= asIt) (gN 4)
    (b__law_draws_2 ))
    (thenS (forS (fun (c : Cells) => (fun (c : Cells) => (rdB 1) c >>= fun d => (fun (_ : Cells) => R.ok ([] : List D)) c >>= fun ds => R.ok (d :: ds)) c >>= rng1) (gN 6)
    (b__law_draws_3 ))
    (fun (c : Cells) => (fun (c : Cells) => (rdB 2) c >>= fun d => (fun (_ : Cells) => R.ok (none : Option Int)) c >>= fun l => (fun (c : Cells) => (rdB 1) c >>= fun d => asI d >>= fun i => R.ok (some i)) c >>= fun h => oSlice d l h) c >>= fun d => R.ok (Out.rt d))))))
def a__law_draws  : List D → R D := fun ds => endR (f__law_draws  (cellsN ["script", "many", "draws", "seed", "cell", "number", "k"] ds))
set_option maxHeartbeats 0 in
theorem k__law_draws {P : Program} {w : World} {K : PySem.W.Frag} {mg : Str → Option Value} {base : Heap} {k : Nat} (T : Top fa fn ts ex w K mg)    : Cal P w K mg base (k + 1) "_law_draws" 2 (a__law_draws ) := by
  obtain ⟨fd, F⟩ := T.def_ 28 rfl
  exact cal_mk (ps := ["script", "many"]) F (T.glo 69 rfl) (fun _ _ _ _ _ _ us hl => match us, hl with | [_, _], _ => rfl) sc__law_draws (fun cdv A outer s H E hr =>
    (ess_cons (es_setO 2 sc__law_draws.nd rfl (.inl rfl) (.inl rfl) (el_lst ea_nil) rfl)
    (ess_cons (es_set 3 sc__law_draws.nd rfl (.inl rfl) (.inl rfl) ev_int rfl)
    (ess_cons (es_for (passes_of rfl) rfl (ei_any (ev_slice (eb_name 0 rfl (.inl rfl) rfl rfl) eo_none (eo_some (EB.of ev_int)))) (eg_name 4 sc__law_draws.nd rfl (.inl rfl) (.inl rfl))
    (ess_cons (es_set 5 sc__law_draws.nd rfl (.inl rfl) (.inl rfl) (eb_absF rfl hr.units rfl (T.free 68 rfl) (eab_cons (eb_name 4 rfl (.inl rfl) rfl rfl) eab_nil rfl) rfl rfl) rfl)
    (ess_cons (es_set 3 sc__law_draws.nd rfl (.inl rfl) (.inl rfl) (ev_op op_mod does_mod (EB.of (eb_intF rfl hr.units rfl (T.free 1 rfl) (eab_cons (EB.of (ev_op op_addAll does_add (EB.of (ev_op op_addAll does_add (EB.of (ev_op op_mulAll2 does_mul2 (eb_name 3 rfl (.inl rfl) rfl rfl) (EB.of ev_int))) (eb_name 5 rfl (.inl rfl) rfl rfl))) (EB.of ev_int))) eab_nil rfl) rfl rfl)) (EB.of ev_int)) rfl)
    (ess_one (es_if (et_cmp op_ge does_cmp (eb_name 5 rfl (.inl rfl) rfl rfl) (EB.of (ev_op op_pow does_pow (EB.of ev_int) (EB.of ev_int))) rfl) (ess_one (es_for (passes_of rfl) rfl (ei_range1 rfl (T.free 33 rfl) (eab_cons (EB.of ev_int) eab_nil rfl) rfl) (eg_name 6 sc__law_draws.nd rfl (.inl rfl) (.inl rfl))
    (ess_one (es_if (et_cmp op_gt does_cmp (eb_name 5 rfl (.inl rfl) rfl rfl) (EB.of ev_int) rfl) (ess_cons (es_append 2 rfl (.inl rfl) rfl rfl (ev_op op_mod does_mod (EB.of (eb_intF rfl hr.units rfl (T.free 1 rfl) (eab_cons (eb_name 5 rfl (.inl rfl) rfl rfl) eab_nil rfl) rfl rfl)) (EB.of ev_int)) rfl rfl rfl rfl rfl)
    (ess_one (es_set 5 sc__law_draws.nd rfl (.inl rfl) (.inl rfl) (ev_op op_fdiv does_div (eb_name 5 rfl (.inl rfl) rfl rfl) (EB.of ev_int)) rfl)))
    ess_nil)) (fun _ => rfl)))
    (ess_one (es_append 2 rfl (.inl rfl) rfl rfl (ev_op op_mod does_mod (EB.of (ev_op op_fdiv does_div (EB.of (eb_intF rfl hr.units rfl (T.free 1 rfl) (eab_cons (EB.of (ev_op op_addAll does_add (EB.of (ev_op op_mulAll2 does_mul2 (eb_name 3 rfl (.inl rfl) rfl rfl) (EB.of ev_int))) (EB.of ev_int))) eab_nil rfl) rfl rfl)) (EB.of ev_int))) (EB.of ev_int)) rfl rfl rfl rfl rfl)))))) (fun _ => rfl))
    (ess_cons (es_for (passes_of rfl) rfl (ei_range1 rfl (T.free 33 rfl) (eab_cons (eb_name 1 rfl (.inl rfl) rfl rfl) eab_nil rfl) rfl) (eg_name 6 sc__law_draws.nd rfl (.inl rfl) (.inl rfl))
    (ess_one (es_if (et_cmp op_ltAll does_lt (EB.of (eb_lenF rfl hr.units rfl (T.free 5 rfl) (eab_cons (eb_name 2 rfl (.inl rfl) rfl rfl) eab_nil rfl) rfl rfl)) (eb_name 1 rfl (.inl rfl) rfl rfl) rfl) (ess_cons (es_set 3 sc__law_draws.nd rfl (.inl rfl) (.inl rfl) (ev_op op_mod does_mod (EB.of (eb_intF rfl hr.units rfl (T.free 1 rfl) (eab_cons (EB.of (ev_op op_addAll does_add (EB.of (ev_op op_addAll does_add (EB.of (ev_op op_mulAll2 does_mul2 (eb_name 3 rfl (.inl rfl) rfl rfl) (EB.of ev_int))) (eb_name 6 rfl (.inl rfl) rfl rfl))) (EB.of ev_int))) eab_nil rfl) rfl rfl)) (EB.of ev_int)) rfl)
    (ess_one (es_append 2 rfl (.inl rfl) rfl rfl (ev_op op_mod does_mod (EB.of (ev_op op_fdiv does_div (EB.of (eb_intF rfl hr.units rfl (T.free 1 rfl) (eab_cons (eb_name 3 rfl (.inl rfl) rfl rfl) eab_nil rfl) rfl rfl)) (EB.of ev_int))) (EB.of ev_int)) rfl rfl rfl rfl rfl)))
    ess_nil)) (fun _ => rfl))
    (ess_one (es_ret (ev_slice (eb_name 2 rfl (.inl rfl) rfl rfl) eo_none (eo_some (eb_name 1 rfl (.inl rfl) rfl rfl))))))))))
theorem sc__law_at : FnScope ["draws", "at"] ["draws", "at"] (defScope (top 47)) := ⟨rfl, rfl, rfl, by decide +kernel, rfl, by decide +kernel, by decide +kernel⟩
def f__law_at  : Cells → R Out :=
    (fun (c : Cells) => (lift2 oDiv (fun (c : Cells) => (fun (c : Cells) => (lift2 itemOf (rdB 0) (lift2 oMod (rdB 1) (fun (c : Cells) => (fun (c : Cells) => (rdB 0) c >>= fun d => (fun (_ : Cells) => R.ok ([] : List D)) c >>= fun ds => R.ok (d :: ds)) c >>= oLen))) c >>= fun d => (fun (_ : Cells) => R.ok ([] : List D)) c >>= fun ds => R.ok (d :: ds)) c >>= oInt) (lift2 oAdd (fun (_ : Cells) => R.ok (D.int 1)) (lift2 oDiv (rdB 1) (fun (c : Cells) => (fun (c : Cells) => (rdB 0) c >>= fun d => (fun (_ : Cells) => R.ok ([] : List D)) c >>= fun ds => R.ok (d :: ds)) c >>= oLen)))) c >>= fun d => R.ok (Out.rt d))
def a__law_at  : List D → R D := fun ds => endR (f__law_at  (cellsN ["draws", "at"] ds))
set_option maxHeartbeats 0 in
theorem k__law_at {P : Program} {w : World} {K : PySem.W.Frag} {mg : Str → Option Value} {base : Heap} {k : Nat} (T : Top fa fn ts ex w K mg)    : Cal P w K mg base (k + 1) "_law_at" 2 (a__law_at ) := by
  obtain ⟨fd, F⟩ := T.def_ 29 rfl
  exact cal_mk (ps := ["draws", "at"]) F (T.glo 70 rfl) (fun _ _ _ _ _ _ us hl => match us, hl with | [_, _], _ => rfl) sc__law_at (fun cdv A outer s H E hr =>
    (ess_one (es_ret (ev_op op_fdiv does_div (EB.of (eb_intF rfl hr.units rfl (T.free 1 rfl) (eab_cons (EB.of (ev_item hr.units (eb_name 0 rfl (.inl rfl) rfl rfl) (EB.of (ev_op op_mod does_mod (eb_name 1 rfl (.inl rfl) rfl rfl) (EB.of (eb_lenF rfl hr.units rfl (T.free 5 rfl) (eab_cons (eb_name 0 rfl (.inl rfl) rfl rfl) eab_nil rfl) rfl rfl)))) (fun _ _ => rfl))) eab_nil rfl) rfl rfl)) (EB.of (ev_op op_addAll does_add (EB.of ev_int) (EB.of (ev_op op_fdiv does_div (eb_name 1 rfl (.inl rfl) rfl rfl) (EB.of (eb_lenF rfl hr.units rfl (T.free 5 rfl) (eab_cons (eb_name 0 rfl (.inl rfl) rfl rfl) eab_nil rfl) rfl rfl))))))))))
theorem sc__law_called : FnScope ["number"] ["number"] (defScope (top 48)) := ⟨rfl, rfl, rfl, by decide +kernel, rfl, by decide +kernel, by decide +kernel⟩
def f__law_called  : Cells → R Out :=
    (fun (c : Cells) => (lift2 itemOf (fun (c : Cells) => (fun (c : Cells) => (fun (_ : Cells) => R.ok (D.str "m")) c >>= fun d => (fun (c : Cells) => (fun (_ : Cells) => R.ok (D.str "ab")) c >>= fun d => (fun (c : Cells) => (fun (_ : Cells) => R.ok (D.str "za")) c >>= fun d => (fun (c : Cells) => (fun (_ : Cells) => R.ok (D.str "aa")) c >>= fun d => (fun (c : Cells) => (fun (_ : Cells) => R.ok (D.str "c")) c >>= fun d => (fun (c : Cells) => (fun (_ : Cells) => R.ok (D.str "y")) c >>= fun d => (fun (c : Cells) => (fun (_ : Cells) => R.ok (D.str "b")) c >>= fun d => (fun (c : Cells) => (fun (_ : Cells) => R.ok (D.str "k")) c >>= fun d => (fun (c : Cells) => (fun (_ : Cells) => R.ok (D.str "xa")) c >>= fun d => (fun (c : Cells) => (fun (_ : Cells) => R.ok (D.str "o")) c >>= fun d => (fun (c : Cells) => (fun (_ : Cells) => R.ok (D.str "n")) c >>= fun d => (fun (c : Cells) => (fun (_ : Cells) => R.ok (D.str "abc")) c >>= fun d => (fun (c : Cells) => (fun (_ : Cells) => R.ok (D.str "h")) c >>= fun d => (fun (c : Cells) => (fun (_ : Cells) => R.ok (D.str "g")) c >>= fun d => (fun (c : Cells) => (fun (_ : Cells) => R.ok (D.str "f")) c >>= fun d => (fun (c : Cells) => (fun (_ : Cells) => R.ok (D.str "e")) c >>= fun d => (fun (_ : Cells) => R.ok ([] : List D)) c >>= fun ds => R.ok (d :: ds)) c >>= fun ds => R.ok (d :: ds)) c >>= fun ds => R.ok (d :: ds)) c >>= fun ds => R.ok (d :: ds)) c >>= fun ds => R.ok (d :: ds)) c >>= fun ds => R.ok (d :: ds)) c >>= fun ds => R.ok (d :: ds)) c >>= fun ds => R.ok (d :: ds)) c >>= fun ds => R.ok (d :: ds)) c >>= fun ds => R.ok (d :: ds)) c >>= fun ds => R.ok (d :: ds)) c >>= fun ds => R.ok (d :: ds)) c >>= fun ds => R.ok (d :: ds)) c >>= fun ds => R.ok (d :: ds)) c >>= fun ds => R.ok (d :: ds)) c >>= fun ds => R.ok (d :: ds)) c >>= mkTup) (rdB 0)) c >>= fun d => R.ok (Out.rt d))
def a__law_called  : List D → R D := fun ds => endR (f__law_called  (cellsN ["number"] ds))
set_option maxHeartbeats 0 in
theorem k__law_called {P : Program} {w : World} {K : PySem.W.Frag} {mg : Str → Option Value} {base : Heap} {k : Nat} (T : Top fa fn ts ex w K mg)    : Cal P w K mg base (k + 1) "_law_called" 1 (a__law_called ) := by
  obtain ⟨fd, F⟩ := T.def_ 30 rfl
  exact cal_mk (ps := ["number"]) F (T.glo 71 rfl) (fun _ _ _ _ _ _ us hl => match us, hl with | [_], _ => rfl) sc__law_called (fun cdv A outer s H E hr =>
    (ess_one (es_ret (ev_item hr.units (EB.of (ev_tup (ea_cons ev_str (ea_cons ev_str (ea_cons ev_str (ea_cons ev_str (ea_cons ev_str (ea_cons ev_str (ea_cons ev_str (ea_cons ev_str (ea_cons ev_str (ea_cons ev_str (ea_cons ev_str (ea_cons ev_str (ea_cons ev_str (ea_cons ev_str (ea_cons ev_str (ea_cons ev_str ea_nil rfl) rfl) rfl) rfl) rfl) rfl) rfl) rfl) rfl) rfl) rfl) rfl) rfl) rfl) rfl) rfl))) (eb_name 0 rfl (.inl rfl) rfl rfl) (fun _ _ => rfl)))))
theorem sc__law_tree : FnScope ["draws", "at", "deep", "outer", "used", "draw", "kinds", "kind", "many", "parts", "k", "weight", "tree"] ["draws", "at", "deep", "outer", "used"] (defScope (top 49)) := ⟨rfl, rfl, rfl, by decide +kernel, rfl, by decide +kernel, by decide +kernel⟩
def t__law_tree_1 (m__law_at : List D → R D) (m__law_called : List D → R D) (m__law_tree : List D → R D) : Cells → R Bool :=
    (fun (c : Cells) => (lift2 oNe (rdB 7) (rdB 3)) c >>= asB)
def e__law_tree_1 (m__law_at : List D → R D) (m__law_called : List D → R D) (m__law_tree : List D → R D) : Cells → R D :=
    (rdV 7)
def b__law_tree_1 (m__law_at : List D → R D) (m__law_called : List D → R D) (m__law_tree : List D → R D) : Cells → R Out :=
    (thenS (fun (c : Cells) => (lift2 oAdd (fun (_ : Cells) => R.ok (D.int 1)) (lift2 oMod (callD 2 m__law_at (fun (c : Cells) => (rdV 0) c >>= fun d => (fun (c : Cells) => (rdV 1) c >>= fun d => (fun (_ : Cells) => R.ok ([] : List D)) c >>= fun ds => R.ok (d :: ds)) c >>= fun ds => R.ok (d :: ds))) (fun (_ : Cells) => R.ok (D.int 12)))) c >>= fun d => R.ok (Out.nx (c.set 11 (Cell.fz d))))
    (thenS (fun (c : Cells) => (callD 5 m__law_tree (fun (c : Cells) => (rdV 0) c >>= fun d => (fun (c : Cells) => (lift2 oAdd (rdB 1) (fun (_ : Cells) => R.ok (D.int 1))) c >>= fun d => (fun (c : Cells) => (lift2 oSub (rdB 2) (fun (_ : Cells) => R.ok (D.int 1))) c >>= fun d => (fun (c : Cells) => (rdV 7) c >>= fun d => (fun (c : Cells) => (rdV 4) c >>= fun d => (fun (_ : Cells) => R.ok ([] : List D)) c >>= fun ds => R.ok (d :: ds)) c >>= fun ds => R.ok (d :: ds)) c >>= fun ds => R.ok (d :: ds)) c >>= fun ds => R.ok (d :: ds)) c >>= fun ds => R.ok (d :: ds))) c >>= fun d => ofO ((gT 3 (gsCons (gN 12) (gsCons (gN 1) (gsCons (gN 4) gsNil)))) d c))
    (appS 9 (ifV (fun (c : Cells) => (lift2 oEq (rdB 7) (fun (_ : Cells) => R.ok (D.str "tabs"))) c >>= asB) (rdV 12) (fun (c : Cells) => (fun (c : Cells) => (rdV 11) c >>= fun d => (fun (c : Cells) => (rdV 12) c >>= fun d => (fun (_ : Cells) => R.ok ([] : List D)) c >>= fun ds => R.ok (d :: ds)) c >>= fun ds => R.ok (d :: ds)) c >>= mkTup)))))
def f__law_tree (m__law_at : List D → R D) (m__law_called : List D → R D) (m__law_tree : List D → R D) : Cells → R Out :=
    (thenS (fun (c : Cells) => (callD 2 m__law_at (fun (c : Cells) => (rdV 0) c >>= fun d => (fun (c : Cells) => (rdV 1) c >>= fun d => (fun (_ : Cells) => R.ok ([] : List D)) c >>= fun ds => R.ok (d :: ds)) c >>= fun ds => R.ok (d :: ds))) c >>= fun d => R.ok (Out.nx (c.set 5 (Cell.fz d))))
    (thenS (fun (c : Cells) => (ifV (andT (fun (c : Cells) => (lift2 oGt (rdB 2) (fun (_ : Cells) => R.ok (D.int 0))) c >>= asB) (fun (c : Cells) => (lift2 oLt (rdB 4) (fun (_ : Cells) => R.ok (D.int 8))) c >>= asB)) (compV [7] (fun (c : Cells) => (fun (c : Cells) => (fun (c : Cells) => (fun (_ : Cells) => R.ok (D.str "row")) c >>= fun d => (fun (c : Cells) => (fun (_ : Cells) => R.ok (D.str "col")) c >>= fun d => (fun (c : Cells) => (fun (_ : Cells) => R.ok (D.str "row")) c >>= fun d => (fun (c : Cells) => (fun (_ : Cells) => R.ok (D.str "col")) c >>= fun d => (fun (c : Cells) => (fun (_ : Cells) => R.ok (D.str "tabs")) c >>= fun d => (fun (_ : Cells) => R.ok ([] : List D)) c >>= fun ds => R.ok (d :: ds)) c >>= fun ds => R.ok (d :: ds)) c >>= fun ds => R.ok (d :: ds)) c >>= fun ds => R.ok (d :: ds)) c >>= fun ds => R.ok (d :: ds)) c >>= mkLst) c >>= asIt) (gN 7) (t__law_tree_1 m__law_at m__law_called m__law_tree) (e__law_tree_1 m__law_at m__law_called m__law_tree)) (fun (c : Cells) => (fun (_ : Cells) => R.ok ([] : List D)) c >>= mkLst)) c >>= fun d => R.ok (Out.nx (c.set 6 (Cell.fz d))))
    (thenS (ifS (orT (fun (c : Cells) => (lift2 oEq (fun (c : Cells) => (fun (c : Cells) => (rdB 6) c >>= fun d => (fun (_ : Cells) => R.ok ([] : List D)) c >>= fun ds => R.ok (d :: ds)) c >>= oLen) (fun (_ : Cells) => R.ok (D.int 0))) c >>= asB) (fun (c : Cells) => (lift2 oEq (lift2 oMod (rdB 5) (fun (_ : Cells) => R.ok (D.int 5))) (fun (_ : Cells) => R.ok (D.int 0))) c >>= asB)) (fun (c : Cells) => (fun (c : Cells) => (fun (c : Cells) => (fun (c : Cells) => (fun (c : Cells) => (fun (_ : Cells) => R.ok (D.str "win")) c >>= fun d => (fun (c : Cells) => (callD 1 m__law_called (fun (c : Cells) => (rdV 4) c >>= fun d => (fun (_ : Cells) => R.ok ([] : List D)) c >>= fun ds => R.ok (d :: ds))) c >>= fun d => (fun (_ : Cells) => R.ok ([] : List D)) c >>= fun ds => R.ok (d :: ds)) c >>= fun ds => R.ok (d :: ds)) c >>= mkTup) c >>= fun d => (fun (c : Cells) => (lift2 oAdd (rdB 1) (fun (_ : Cells) => R.ok (D.int 1))) c >>= fun d => (fun (c : Cells) => (lift2 oAdd (rdB 4) (fun (_ : Cells) => R.ok (D.int 1))) c >>= fun d => (fun (_ : Cells) => R.ok ([] : List D)) c >>= fun ds => R.ok (d :: ds)) c >>= fun ds => R.ok (d :: ds)) c >>= fun ds => R.ok (d :: ds)) c >>= mkTup) c >>= fun d => R.ok (Out.rt d))
    (fun (c : Cells) => R.ok (Out.nx c)))
    (thenS (parS [7, 8, 9, 1] (fun (c : Cells) => (lift2 itemOf (rdB 6) (lift2 oMod (lift2 oDiv (rdB 5) (fun (_ : Cells) => R.ok (D.int 5))) (fun (c : Cells) => (fun (c : Cells) => (rdB 6) c >>= fun d => (fun (_ : Cells) => R.ok ([] : List D)) c >>= fun ds => R.ok (d :: ds)) c >>= oLen))) c >>= fun d => (fun (c : Cells) => (lift2 oAdd (fun (_ : Cells) => R.ok (D.int 1)) (lift2 oMod (lift2 oDiv (rdB 5) (fun (_ : Cells) => R.ok (D.int 30))) (fun (_ : Cells) => R.ok (D.int 3)))) c >>= fun d => (fun (c : Cells) => (fun (c : Cells) => (fun (_ : Cells) => R.ok ([] : List D)) c >>= mkLst) c >>= fun d => (fun (c : Cells) => (lift2 oAdd (rdB 1) (fun (_ : Cells) => R.ok (D.int 1))) c >>= fun d => (fun (_ : Cells) => R.ok ([] : List Cell)) c >>= fun ds => R.ok (Cell.fz d :: ds)) c >>= fun ds => R.ok (Cell.ow d :: ds)) c >>= fun ds => R.ok (Cell.fz d :: ds)) c >>= fun ds => R.ok (Cell.fz d :: ds)))
    (thenS (fun (c : Cells) => (ifV (fun (c : Cells) => (lift2 oEq (rdB 7) (fun (_ : Cells) => R.ok (D.str "tabs"))) c >>= asB) (rdV 8) (fun (c : Cells) => (fun (c : Cells) => (fun (_ : Cells) => R.ok (D.int 2)) c >>= fun d => (fun (c : Cells) => (rdB 8) c >>= fun d => (fun (_ : Cells) => R.ok ([] : List D)) c >>= fun ds => R.ok (d :: ds)) c >>= fun ds => R.ok (d :: ds)) c >>= oMax)) c >>= fun d => R.ok (Out.nx (c.set 8 (Cell.fz d))))
    (thenS (forS (fun (c : Cells) => (fun (c : Cells) => (rdB 8) c >>= fun d => (fun (_ : Cells) => R.ok ([] : List D)) c >>= fun ds => R.ok (d :: ds)) c >>= rng1) (gN 10)
    (b__law_tree_1 m__law_at m__law_called m__law_tree))
    (fun (c : Cells) => (fun (c : Cells) => (fun (c : Cells) => (ifV (fun (c : Cells) => (lift2 oEq (rdB 7) (fun (_ : Cells) => R.ok (D.str "tabs"))) c >>= asB) (fun (c : Cells) => (fun (c : Cells) => (rdV 7) c >>= fun d => (fun (c : Cells) => (lift2 oMod (lift2 oDiv (rdB 5) (fun (_ : Cells) => R.ok (D.int 7))) (rdB 8)) c >>= fun d => (fun (c : Cells) => (fun (c : Cells) => (fun (c : Cells) => (rdB 9) c >>= fun d => (fun (_ : Cells) => R.ok ([] : List D)) c >>= fun ds => R.ok (d :: ds)) c >>= oTuple) c >>= fun d => (fun (_ : Cells) => R.ok ([] : List D)) c >>= fun ds => R.ok (d :: ds)) c >>= fun ds => R.ok (d :: ds)) c >>= fun ds => R.ok (d :: ds)) c >>= mkTup) (fun (c : Cells) => (fun (c : Cells) => (rdV 7) c >>= fun d => (fun (c : Cells) => (fun (c : Cells) => (fun (c : Cells) => (rdB 9) c >>= fun d => (fun (_ : Cells) => R.ok ([] : List D)) c >>= fun ds => R.ok (d :: ds)) c >>= oTuple) c >>= fun d => (fun (_ : Cells) => R.ok ([] : List D)) c >>= fun ds => R.ok (d :: ds)) c >>= fun ds => R.ok (d :: ds)) c >>= mkTup)) c >>= fun d => (fun (c : Cells) => (rdV 1) c >>= fun d => (fun (c : Cells) => (rdV 4) c >>= fun d => (fun (_ : Cells) => R.ok ([] : List D)) c >>= fun ds => R.ok (d :: ds)) c >>= fun ds => R.ok (d :: ds)) c >>= fun ds => R.ok (d :: ds)) c >>= mkTup) c >>= fun d => R.ok (Out.rt d))))))))
def a__law_tree (m__law_at : List D → R D) (m__law_called : List D → R D) (m__law_tree : List D → R D) : List D → R D := fun ds => endR (f__law_tree m__law_at m__law_called m__law_tree (cellsN ["draws", "at", "deep", "outer", "used", "draw", "kinds", "kind", "many", "parts", "k", "weight", "tree"] ds))
set_option maxHeartbeats 0 in
theorem k__law_tree {P : Program} {w : World} {K : PySem.W.Frag} {mg : Str → Option Value} {base : Heap} {k : Nat} {m__law_at m__law_called m__law_tree : List D → R D} (T : Top fa fn ts ex w K mg) (c__law_at : Cal P w K mg base k "_law_at" 2 m__law_at) (c__law_called : Cal P w K mg base k "_law_called" 1 m__law_called) (c__law_tree : Cal P w K mg base k "_law_tree" 5 m__law_tree)   : Cal P w K mg base (k + 1) "_law_tree" 5 (a__law_tree m__law_at m__law_called m__law_tree) := by
  obtain ⟨fd, F⟩ := T.def_ 31 rfl
  exact cal_mk (ps := ["draws", "at", "deep", "outer", "used"]) F (T.glo 72 rfl) (fun _ _ _ _ _ _ us hl => match us, hl with | [_, _, _, _, _], _ => rfl) sc__law_tree (fun cdv A outer s H E hr =>
    (ess_cons (es_set 5 sc__law_tree.nd rfl (.inl rfl) (.inl rfl) (ev_cal c__law_at hr rfl (takes_of rfl rfl rfl rfl) (ea_cons (ev_name 0 rfl (.inl rfl) rfl rfl) (ea_cons (ev_name 1 rfl (.inl rfl) rfl rfl) ea_nil rfl) rfl) rfl rfl rfl) rfl)
    (ess_cons (es_set 6 sc__law_tree.nd rfl (.inl rfl) (.inl rfl) (ev_ifExp (et_w (ew_and (et_cmp op_gt does_cmp (eb_name 2 rfl (.inl rfl) rfl rfl) (EB.of ev_int) rfl) (ew_and1 (et_cmp op_ltAll does_lt (eb_name 4 rfl (.inl rfl) rfl rfl) (EB.of ev_int) rfl)))) (EV.ofL (el_lc (own := [("kind", 7)]) rfl sc__law_tree.nd (blkOk_by (by kernel_rfl)) (ei_any (EV.ofL (el_lst (ea_cons ev_str (ea_cons ev_str (ea_cons ev_str (ea_cons ev_str (ea_cons ev_str ea_nil rfl) rfl) rfl) rfl) rfl)))) (fun _ _ _ _ _ => (eg_name 7 sc__law_tree.nd rfl (.inl rfl) (.inr rfl))) (fun _ _ _ _ _ => (ets_one (et_cmp (op_neD hr.units) does_ne (eb_name 7 rfl (.inl rfl) rfl rfl) (eb_name 3 rfl (.inr (.inl rfl)) rfl rfl) rfl))) (fun _ _ _ _ _ => (ev_name 7 rfl (.inl rfl) rfl rfl)) (by decide) (fun _ => rfl))) (EV.ofL (el_lst ea_nil))) rfl)
    (ess_cons (es_if (et_w (ew_or (et_cmp (op_eqD hr.units) does_eq (EB.of (eb_lenF rfl hr.units rfl (T.free 5 rfl) (eab_cons (eb_name 6 rfl (.inl rfl) rfl rfl) eab_nil rfl) rfl rfl)) (EB.of ev_int) rfl) (ew_or1 (et_cmp (op_eqD hr.units) does_eq (EB.of (ev_op op_mod does_mod (eb_name 5 rfl (.inl rfl) rfl rfl) (EB.of ev_int))) (EB.of ev_int) rfl)))) (ess_one (es_ret (ev_tup (ea_cons (ev_tup (ea_cons ev_str (ea_cons (ev_cal c__law_called hr rfl (takes_of rfl rfl rfl rfl) (ea_cons (ev_name 4 rfl (.inl rfl) rfl rfl) ea_nil rfl) rfl rfl rfl) ea_nil rfl) rfl)) (ea_cons (ev_op op_addAll does_add (eb_name 1 rfl (.inl rfl) rfl rfl) (EB.of ev_int)) (ea_cons (ev_op op_addAll does_add (eb_name 4 rfl (.inl rfl) rfl rfl) (EB.of ev_int)) ea_nil rfl) rfl) rfl))))
    ess_nil)
    (ess_cons (es_parN (n := 0) [7, 8, 9, 1] rfl sc__law_tree.nd (Slots.cons rfl (.inl rfl) (.inl rfl) rfl (Slots.cons rfl (.inl rfl) (.inl rfl) rfl (Slots.cons rfl (.inl rfl) (.inl rfl) rfl (Slots.cons rfl (.inl rfl) (.inl rfl) rfl Slots.nil)))) (eac_fz (ev_item hr.units (eb_name 6 rfl (.inl rfl) rfl rfl) (EB.of (ev_op op_mod does_mod (EB.of (ev_op op_fdiv does_div (eb_name 5 rfl (.inl rfl) rfl rfl) (EB.of ev_int))) (EB.of (eb_lenF rfl hr.units rfl (T.free 5 rfl) (eab_cons (eb_name 6 rfl (.inl rfl) rfl rfl) eab_nil rfl) rfl rfl)))) (fun _ _ => rfl)) (eac_fz (ev_op op_addAll does_add (EB.of ev_int) (EB.of (ev_op op_mod does_mod (EB.of (ev_op op_fdiv does_div (eb_name 5 rfl (.inl rfl) rfl rfl) (EB.of ev_int))) (EB.of ev_int)))) (eac_ow (el_lst ea_nil) (eac_fz (ev_op op_addAll does_add (eb_name 1 rfl (.inl rfl) rfl rfl) (EB.of ev_int)) eac_nil rfl) rfl) rfl) rfl) rfl rfl rfl rfl rfl (by decide))
    (ess_cons (es_set 8 sc__law_tree.nd rfl (.inl rfl) (.inl rfl) (ev_ifExp (et_cmp (op_eqD hr.units) does_eq (eb_name 7 rfl (.inl rfl) rfl rfl) (EB.of ev_str) rfl) (ev_name 8 rfl (.inl rfl) rfl rfl) (eb_maxF rfl hr.units rfl (T.free 49 rfl) (eab_cons (EB.of ev_int) (eab_cons (eb_name 8 rfl (.inl rfl) rfl rfl) eab_nil rfl) rfl) rfl rfl)) rfl)
    (ess_cons (es_for (passes_of rfl) rfl (ei_range1 rfl (T.free 33 rfl) (eab_cons (eb_name 8 rfl (.inl rfl) rfl rfl) eab_nil rfl) rfl) (eg_name 10 sc__law_tree.nd rfl (.inl rfl) (.inl rfl))
    (ess_cons (es_set 11 sc__law_tree.nd rfl (.inl rfl) (.inl rfl) (ev_op op_addAll does_add (EB.of ev_int) (EB.of (ev_op op_mod does_mod (EB.of (ev_cal c__law_at hr rfl (takes_of rfl rfl rfl rfl) (ea_cons (ev_name 0 rfl (.inl rfl) rfl rfl) (ea_cons (ev_name 1 rfl (.inl rfl) rfl rfl) ea_nil rfl) rfl) rfl rfl rfl)) (EB.of ev_int)))) rfl)
    (ess_cons (es_asg (ev_cal c__law_tree hr rfl (takes_of rfl rfl rfl rfl) (ea_cons (ev_name 0 rfl (.inl rfl) rfl rfl) (ea_cons (ev_op op_addAll does_add (eb_name 1 rfl (.inl rfl) rfl rfl) (EB.of ev_int)) (ea_cons (ev_op op_sub does_sub (eb_name 2 rfl (.inl rfl) rfl rfl) (EB.of ev_int)) (ea_cons (ev_name 7 rfl (.inl rfl) rfl rfl) (ea_cons (ev_name 4 rfl (.inl rfl) rfl rfl) ea_nil rfl) rfl) rfl) rfl) rfl) rfl rfl rfl) (eg_tup rfl (egs_cons (eg_name 12 sc__law_tree.nd rfl (.inl rfl) (.inl rfl)) (egs_cons (eg_name 1 sc__law_tree.nd rfl (.inl rfl) (.inl rfl)) (egs_cons (eg_name 4 sc__law_tree.nd rfl (.inl rfl) (.inl rfl)) egs_nil rfl) rfl) rfl) rfl rfl) rfl rfl rfl)
    (ess_one (es_append 9 rfl (.inl rfl) rfl rfl (ev_ifExp (et_cmp (op_eqD hr.units) does_eq (eb_name 7 rfl (.inl rfl) rfl rfl) (EB.of ev_str) rfl) (ev_name 12 rfl (.inl rfl) rfl rfl) (ev_tup (ea_cons (ev_name 11 rfl (.inl rfl) rfl rfl) (ea_cons (ev_name 12 rfl (.inl rfl) rfl rfl) ea_nil rfl) rfl))) rfl rfl rfl rfl rfl)))) (fun _ => rfl))
    (ess_one (es_ret (ev_tup (ea_cons (ev_ifExp (et_cmp (op_eqD hr.units) does_eq (eb_name 7 rfl (.inl rfl) rfl rfl) (EB.of ev_str) rfl) (ev_tup (ea_cons (ev_name 7 rfl (.inl rfl) rfl rfl) (ea_cons (ev_op op_mod does_mod (EB.of (ev_op op_fdiv does_div (eb_name 5 rfl (.inl rfl) rfl rfl) (EB.of ev_int))) (eb_name 8 rfl (.inl rfl) rfl rfl)) (ea_cons (eb_tupleF rfl hr.units rfl (T.free 10 rfl) (eab_cons (eb_name 9 rfl (.inl rfl) rfl rfl) eab_nil rfl) rfl rfl) ea_nil rfl) rfl) rfl)) (ev_tup (ea_cons (ev_name 7 rfl (.inl rfl) rfl rfl) (ea_cons (eb_tupleF rfl hr.units rfl (T.free 10 rfl) (eab_cons (eb_name 9 rfl (.inl rfl) rfl rfl) eab_nil rfl) rfl rfl) ea_nil rfl) rfl))) (ea_cons (ev_name 1 rfl (.inl rfl) rfl rfl) (ea_cons (ev_name 4 rfl (.inl rfl) rfl rfl) ea_nil rfl) rfl) rfl)))))))))))
theorem sc__law_box : FnScope ["draws"] ["draws"] (defScope (top 54)) := ⟨rfl, rfl, rfl, by decide +kernel, rfl, by decide +kernel, by decide +kernel⟩
def f__law_box  : Cells → R Out :=
    (fun (c : Cells) => (fun (c : Cells) => (fun (c : Cells) => (lift2 oMod (fun (c : Cells) => (fun (c : Cells) => (lift2 itemOf (rdB 0) (fun (_ : Cells) => R.ok (D.int 0))) c >>= fun d => (fun (_ : Cells) => R.ok ([] : List D)) c >>= fun ds => R.ok (d :: ds)) c >>= oInt) (fun (_ : Cells) => R.ok (D.int 6))) c >>= fun d => (fun (c : Cells) => (lift2 oMod (fun (c : Cells) => (fun (c : Cells) => (lift2 itemOf (rdB 0) (fun (_ : Cells) => R.ok (D.int 1))) c >>= fun d => (fun (_ : Cells) => R.ok ([] : List D)) c >>= fun ds => R.ok (d :: ds)) c >>= oInt) (fun (_ : Cells) => R.ok (D.int 6))) c >>= fun d => (fun (c : Cells) => (lift2 oAdd (fun (_ : Cells) => R.ok (D.int 1)) (lift2 oMod (fun (c : Cells) => (fun (c : Cells) => (lift2 itemOf (rdB 0) (fun (_ : Cells) => R.ok (D.int 2))) c >>= fun d => (fun (_ : Cells) => R.ok ([] : List D)) c >>= fun ds => R.ok (d :: ds)) c >>= oInt) (lift2 itemOf (fun (c : Cells) => (fun (c : Cells) => (fun (_ : Cells) => R.ok (D.int 24)) c >>= fun d => (fun (c : Cells) => (fun (_ : Cells) => R.ok (D.int 9)) c >>= fun d => (fun (c : Cells) => (fun (_ : Cells) => R.ok (D.int 3)) c >>= fun d => (fun (_ : Cells) => R.ok ([] : List D)) c >>= fun ds => R.ok (d :: ds)) c >>= fun ds => R.ok (d :: ds)) c >>= fun ds => R.ok (d :: ds)) c >>= mkLst) (lift2 oMod (fun (c : Cells) => (fun (c : Cells) => (lift2 itemOf (rdB 0) (fun (_ : Cells) => R.ok (D.int 4))) c >>= fun d => (fun (_ : Cells) => R.ok ([] : List D)) c >>= fun ds => R.ok (d :: ds)) c >>= oInt) (fun (_ : Cells) => R.ok (D.int 3)))))) c >>= fun d => (fun (c : Cells) => (lift2 oAdd (fun (_ : Cells) => R.ok (D.int 1)) (lift2 oMod (fun (c : Cells) => (fun (c : Cells) => (lift2 itemOf (rdB 0) (fun (_ : Cells) => R.ok (D.int 3))) c >>= fun d => (fun (_ : Cells) => R.ok ([] : List D)) c >>= fun ds => R.ok (d :: ds)) c >>= oInt) (lift2 itemOf (fun (c : Cells) => (fun (c : Cells) => (fun (_ : Cells) => R.ok (D.int 24)) c >>= fun d => (fun (c : Cells) => (fun (_ : Cells) => R.ok (D.int 9)) c >>= fun d => (fun (c : Cells) => (fun (_ : Cells) => R.ok (D.int 3)) c >>= fun d => (fun (_ : Cells) => R.ok ([] : List D)) c >>= fun ds => R.ok (d :: ds)) c >>= fun ds => R.ok (d :: ds)) c >>= fun ds => R.ok (d :: ds)) c >>= mkLst) (lift2 oMod (lift2 oDiv (fun (c : Cells) => (fun (c : Cells) => (lift2 itemOf (rdB 0) (fun (_ : Cells) => R.ok (D.int 4))) c >>= fun d => (fun (_ : Cells) => R.ok ([] : List D)) c >>= fun ds => R.ok (d :: ds)) c >>= oInt) (fun (_ : Cells) => R.ok (D.int 3))) (fun (_ : Cells) => R.ok (D.int 3)))))) c >>= fun d => (fun (_ : Cells) => R.ok ([] : List D)) c >>= fun ds => R.ok (d :: ds)) c >>= fun ds => R.ok (d :: ds)) c >>= fun ds => R.ok (d :: ds)) c >>= fun ds => R.ok (d :: ds)) c >>= mkTup) c >>= fun d => R.ok (Out.rt d))
def a__law_box  : List D → R D := fun ds => endR (f__law_box  (cellsN ["draws"] ds))
set_option maxHeartbeats 0 in
theorem k__law_box {P : Program} {w : World} {K : PySem.W.Frag} {mg : Str → Option Value} {base : Heap} {k : Nat} (T : Top fa fn ts ex w K mg)    : Cal P w K mg base (k + 1) "_law_box" 1 (a__law_box ) := by
  obtain ⟨fd, F⟩ := T.def_ 32 rfl
  exact cal_mk (ps := ["draws"]) F (T.glo 73 rfl) (fun _ _ _ _ _ _ us hl => match us, hl with | [_], _ => rfl) sc__law_box (fun cdv A outer s H E hr =>
    (ess_one (es_ret (ev_tup (ea_cons (ev_op op_mod does_mod (EB.of (eb_intF rfl hr.units rfl (T.free 1 rfl) (eab_cons (EB.of (ev_item hr.units (eb_name 0 rfl (.inl rfl) rfl rfl) (EB.of ev_int) (fun _ _ => rfl))) eab_nil rfl) rfl rfl)) (EB.of ev_int)) (ea_cons (ev_op op_mod does_mod (EB.of (eb_intF rfl hr.units rfl (T.free 1 rfl) (eab_cons (EB.of (ev_item hr.units (eb_name 0 rfl (.inl rfl) rfl rfl) (EB.of ev_int) (fun _ _ => rfl))) eab_nil rfl) rfl rfl)) (EB.of ev_int)) (ea_cons (ev_op op_addAll does_add (EB.of ev_int) (EB.of (ev_op op_mod does_mod (EB.of (eb_intF rfl hr.units rfl (T.free 1 rfl) (eab_cons (EB.of (ev_item hr.units (eb_name 0 rfl (.inl rfl) rfl rfl) (EB.of ev_int) (fun _ _ => rfl))) eab_nil rfl) rfl rfl)) (EB.of (ev_item hr.units (EB.ofL (el_lst (ea_cons ev_int (ea_cons ev_int (ea_cons ev_int ea_nil rfl) rfl) rfl))) (EB.of (ev_op op_mod does_mod (EB.of (eb_intF rfl hr.units rfl (T.free 1 rfl) (eab_cons (EB.of (ev_item hr.units (eb_name 0 rfl (.inl rfl) rfl rfl) (EB.of ev_int) (fun _ _ => rfl))) eab_nil rfl) rfl rfl)) (EB.of ev_int))) (fun _ _ => rfl)))))) (ea_cons (ev_op op_addAll does_add (EB.of ev_int) (EB.of (ev_op op_mod does_mod (EB.of (eb_intF rfl hr.units rfl (T.free 1 rfl) (eab_cons (EB.of (ev_item hr.units (eb_name 0 rfl (.inl rfl) rfl rfl) (EB.of ev_int) (fun _ _ => rfl))) eab_nil rfl) rfl rfl)) (EB.of (ev_item hr.units (EB.ofL (el_lst (ea_cons ev_int (ea_cons ev_int (ea_cons ev_int ea_nil rfl) rfl) rfl))) (EB.of (ev_op op_mod does_mod (EB.of (ev_op op_fdiv does_div (EB.of (eb_intF rfl hr.units rfl (T.free 1 rfl) (eab_cons (EB.of (ev_item hr.units (eb_name 0 rfl (.inl rfl) rfl rfl) (EB.of ev_int) (fun _ _ => rfl))) eab_nil rfl) rfl rfl)) (EB.of ev_int))) (EB.of ev_int))) (fun _ _ => rfl)))))) ea_nil rfl) rfl) rfl) rfl)))))
theorem sc__law_sizes : FnScope ["weights", "size", "found", "done", "k", "end"] ["weights", "size"] (defScope (top 55)) := ⟨rfl, rfl, rfl, by decide +kernel, rfl, by decide +kernel, by decide +kernel⟩
def b__law_sizes_1  : Cells → R Out :=
    (thenS (fun (c : Cells) => (lift2 oDiv (lift2 oMul2 (rdB 1) (fun (c : Cells) => (fun (c : Cells) => (fun (c : Cells) => (rdB 0) c >>= fun d => (fun (_ : Cells) => R.ok (none : Option Int)) c >>= fun l => (fun (c : Cells) => (lift2 oAdd (rdB 4) (fun (_ : Cells) => R.ok (D.int 1))) c >>= fun d => asI d >>= fun i => R.ok (some i)) c >>= fun h => oSlice d l h) c >>= fun d => (fun (_ : Cells) => R.ok ([] : List D)) c >>= fun ds => R.ok (d :: ds)) c >>= oSum)) (fun (c : Cells) => (fun (c : Cells) => (rdB 0) c >>= fun d => (fun (_ : Cells) => R.ok ([] : List D)) c >>= fun ds => R.ok (d :: ds)) c >>= oSum)) c >>= fun d => R.ok (Out.nx (c.set 5 (Cell.fz d))))
    (parS [2, 3] (fun (c : Cells) => (lift2 oAdd (rdB 2) (fun (c : Cells) => (fun (c : Cells) => (lift2 oSub (rdB 5) (rdB 3)) c >>= fun d => (fun (_ : Cells) => R.ok ([] : List D)) c >>= fun ds => R.ok (d :: ds)) c >>= mkLst)) c >>= fun d => (fun (c : Cells) => (rdV 5) c >>= fun d => (fun (_ : Cells) => R.ok ([] : List Cell)) c >>= fun ds => R.ok (Cell.fz d :: ds)) c >>= fun ds => R.ok (Cell.fz d :: ds))))
def f__law_sizes  : Cells → R Out :=
    (thenS (parS [2, 3] (fun (c : Cells) => (fun (c : Cells) => (fun (_ : Cells) => R.ok ([] : List D)) c >>= mkLst) c >>= fun d => (fun (c : Cells) => (fun (_ : Cells) => R.ok (D.int 0)) c >>= fun d => (fun (_ : Cells) => R.ok ([] : List Cell)) c >>= fun ds => R.ok (Cell.fz d :: ds)) c >>= fun ds => R.ok (Cell.fz d :: ds)))
    (thenS (forS (fun (c : Cells) => (fun (c : Cells) => (fun (c : Cells) => (fun (c : Cells) => (rdB 0) c >>= fun d => (fun (_ : Cells) => R.ok ([] : List D)) c >>= fun ds => R.ok (d :: ds)) c >>= oLen) c >>= fun d => (fun (_ : Cells) => R.ok ([] : List D)) c >>= fun ds => R.ok (d :: ds)) c >>= rng1) (gN 4)
    (b__law_sizes_1 ))
    (fun (c : Cells) => rdB 2 c >>= fun d => R.ok (Out.rt d))))
def a__law_sizes  : List D → R D := fun ds => endR (f__law_sizes  (cellsN ["weights", "size", "found", "done", "k", "end"] ds))
set_option maxHeartbeats 0 in
theorem k__law_sizes {P : Program} {w : World} {K : PySem.W.Frag} {mg : Str → Option Value} {base : Heap} {k : Nat} (T : Top fa fn ts ex w K mg)    : Cal P w K mg base (k + 1) "_law_sizes" 2 (a__law_sizes ) := by
  obtain ⟨fd, F⟩ := T.def_ 33 rfl
  exact cal_mk (ps := ["weights", "size"]) F (T.glo 74 rfl) (fun _ _ _ _ _ _ us hl => match us, hl with | [_, _], _ => rfl) sc__law_sizes (fun cdv A outer s H E hr =>
    (ess_cons (es_par2 2 3 rfl sc__law_sizes.nd rfl rfl (by decide) rfl rfl (eac_fz (EV.ofL (el_lst ea_nil)) (eac_fz ev_int eac_nil rfl) rfl) rfl rfl)
    (ess_cons (es_for (passes_of rfl) rfl (ei_range1 rfl (T.free 33 rfl) (eab_cons (EB.of (eb_lenF rfl hr.units rfl (T.free 5 rfl) (eab_cons (eb_name 0 rfl (.inl rfl) rfl rfl) eab_nil rfl) rfl rfl)) eab_nil rfl) rfl) (eg_name 4 sc__law_sizes.nd rfl (.inl rfl) (.inl rfl))
    (ess_cons (es_set 5 sc__law_sizes.nd rfl (.inl rfl) (.inl rfl) (ev_op op_fdiv does_div (EB.of (ev_op op_mulAll2 does_mul2 (eb_name 1 rfl (.inl rfl) rfl rfl) (EB.of (eb_sumF rfl hr.units rfl (T.free 32 rfl) (eab_cons (EB.of (ev_slice (eb_name 0 rfl (.inl rfl) rfl rfl) eo_none (eo_some (EB.of (ev_op op_addAll does_add (eb_name 4 rfl (.inl rfl) rfl rfl) (EB.of ev_int)))))) eab_nil rfl) rfl rfl)))) (EB.of (eb_sumF rfl hr.units rfl (T.free 32 rfl) (eab_cons (eb_name 0 rfl (.inl rfl) rfl rfl) eab_nil rfl) rfl rfl))) rfl)
    (ess_one (es_par2 2 3 rfl sc__law_sizes.nd rfl rfl (by decide) rfl rfl (eac_fz (ev_op op_addAll does_add (eb_name 2 rfl (.inl rfl) rfl rfl) (EB.ofL (el_lst (ea_cons (ev_op op_sub does_sub (eb_name 5 rfl (.inl rfl) rfl rfl) (eb_name 3 rfl (.inl rfl) rfl rfl)) ea_nil rfl)))) (eac_fz (ev_name 5 rfl (.inl rfl) rfl rfl) eac_nil rfl) rfl) rfl rfl))) (fun _ => rfl))
    (ess_one (es_retName 2 rfl (.inl rfl) rfl rfl)))))
theorem sc__law_shown : FnScope ["tree", "box", "left", "top", "width", "height", "found", "k", "size", "own", "part"] ["tree", "box"] (defScope (top 56)) := ⟨rfl, rfl, rfl, by decide +kernel, rfl, by decide +kernel, by decide +kernel⟩
def e__law_shown_1 (m__law_shown : List D → R D) (m__law_sizes : List D → R D) : Cells → R D :=
    (lift2 itemOf (rdB 10) (fun (_ : Cells) => R.ok (D.int 0)))
def b__law_shown_1 (m__law_shown : List D → R D) (m__law_sizes : List D → R D) : Cells → R Out :=
    (thenS (fun (c : Cells) => (lift2 itemOf (callD 2 m__law_sizes (fun (c : Cells) => (compV [10] (fun (c : Cells) => (lift2 itemOf (rdB 0) (fun (_ : Cells) => R.ok (D.int 1))) c >>= asIt) (gN 10) (fun (_ : Cells) => R.ok true) (e__law_shown_1 m__law_shown m__law_sizes)) c >>= fun d => (fun (c : Cells) => (ifV (fun (c : Cells) => (lift2 oEq (lift2 itemOf (rdB 0) (fun (_ : Cells) => R.ok (D.int 0))) (fun (_ : Cells) => R.ok (D.str "row"))) c >>= asB) (rdV 4) (rdV 5)) c >>= fun d => (fun (_ : Cells) => R.ok ([] : List D)) c >>= fun ds => R.ok (d :: ds)) c >>= fun ds => R.ok (d :: ds))) (rdB 7)) c >>= fun d => R.ok (Out.nx (c.set 8 (Cell.fz d))))
    (thenS (fun (c : Cells) => (ifV (fun (c : Cells) => (lift2 oEq (lift2 itemOf (rdB 0) (fun (_ : Cells) => R.ok (D.int 0))) (fun (_ : Cells) => R.ok (D.str "row"))) c >>= asB) (fun (c : Cells) => (fun (c : Cells) => (rdV 2) c >>= fun d => (fun (c : Cells) => (rdV 3) c >>= fun d => (fun (c : Cells) => (rdV 8) c >>= fun d => (fun (c : Cells) => (rdV 5) c >>= fun d => (fun (_ : Cells) => R.ok ([] : List D)) c >>= fun ds => R.ok (d :: ds)) c >>= fun ds => R.ok (d :: ds)) c >>= fun ds => R.ok (d :: ds)) c >>= fun ds => R.ok (d :: ds)) c >>= mkTup) (fun (c : Cells) => (fun (c : Cells) => (rdV 2) c >>= fun d => (fun (c : Cells) => (rdV 3) c >>= fun d => (fun (c : Cells) => (rdV 4) c >>= fun d => (fun (c : Cells) => (rdV 8) c >>= fun d => (fun (_ : Cells) => R.ok ([] : List D)) c >>= fun ds => R.ok (d :: ds)) c >>= fun ds => R.ok (d :: ds)) c >>= fun ds => R.ok (d :: ds)) c >>= fun ds => R.ok (d :: ds)) c >>= mkTup)) c >>= fun d => R.ok (Out.nx (c.set 9 (Cell.fz d))))
    (thenS (fun (c : Cells) => (ifV (fun (c : Cells) => (lift2 oEq (lift2 itemOf (rdB 0) (fun (_ : Cells) => R.ok (D.int 0))) (fun (_ : Cells) => R.ok (D.str "row"))) c >>= asB) (fun (c : Cells) => (fun (c : Cells) => (lift2 oAdd (rdB 2) (rdB 8)) c >>= fun d => (fun (c : Cells) => (rdV 3) c >>= fun d => (fun (_ : Cells) => R.ok ([] : List D)) c >>= fun ds => R.ok (d :: ds)) c >>= fun ds => R.ok (d :: ds)) c >>= mkTup) (fun (c : Cells) => (fun (c : Cells) => (rdV 2) c >>= fun d => (fun (c : Cells) => (lift2 oAdd (rdB 3) (rdB 8)) c >>= fun d => (fun (_ : Cells) => R.ok ([] : List D)) c >>= fun ds => R.ok (d :: ds)) c >>= fun ds => R.ok (d :: ds)) c >>= mkTup)) c >>= fun d => ofO ((gT 2 (gsCons (gN 2) (gsCons (gN 3) gsNil))) d c))
    (fun (c : Cells) => (lift2 oAdd (rdB 6) (callD 2 m__law_shown (fun (c : Cells) => (lift2 itemOf (lift2 itemOf (lift2 itemOf (rdB 0) (fun (_ : Cells) => R.ok (D.int 1))) (rdB 7)) (fun (_ : Cells) => R.ok (D.int 1))) c >>= fun d => (fun (c : Cells) => (rdV 9) c >>= fun d => (fun (_ : Cells) => R.ok ([] : List D)) c >>= fun ds => R.ok (d :: ds)) c >>= fun ds => R.ok (d :: ds)))) c >>= fun d => R.ok (Out.nx (c.set 6 (Cell.fz d)))))))
def f__law_shown (m__law_shown : List D → R D) (m__law_sizes : List D → R D) : Cells → R Out :=
    (thenS (ifS (fun (c : Cells) => (lift2 oEq (lift2 itemOf (rdB 0) (fun (_ : Cells) => R.ok (D.int 0))) (fun (_ : Cells) => R.ok (D.str "win"))) c >>= asB) (fun (c : Cells) => (ifV (andT (fun (c : Cells) => (lift2 oGt (lift2 itemOf (rdB 1) (fun (_ : Cells) => R.ok (D.int 2))) (fun (_ : Cells) => R.ok (D.int 0))) c >>= asB) (fun (c : Cells) => (lift2 oGt (lift2 itemOf (rdB 1) (fun (_ : Cells) => R.ok (D.int 3))) (fun (_ : Cells) => R.ok (D.int 0))) c >>= asB)) (fun (c : Cells) => (fun (c : Cells) => (fun (c : Cells) => (fun (c : Cells) => (lift2 itemOf (rdB 0) (fun (_ : Cells) => R.ok (D.int 1))) c >>= fun d => (fun (c : Cells) => (rdV 1) c >>= fun d => (fun (_ : Cells) => R.ok ([] : List D)) c >>= fun ds => R.ok (d :: ds)) c >>= fun ds => R.ok (d :: ds)) c >>= mkTup) c >>= fun d => (fun (_ : Cells) => R.ok ([] : List D)) c >>= fun ds => R.ok (d :: ds)) c >>= mkLst) (fun (c : Cells) => (fun (_ : Cells) => R.ok ([] : List D)) c >>= mkLst)) c >>= fun d => R.ok (Out.rt d))
    (fun (c : Cells) => R.ok (Out.nx c)))
    (thenS (ifS (fun (c : Cells) => (lift2 oEq (lift2 itemOf (rdB 0) (fun (_ : Cells) => R.ok (D.int 0))) (fun (_ : Cells) => R.ok (D.str "tabs"))) c >>= asB) (fun (c : Cells) => (callD 2 m__law_shown (fun (c : Cells) => (lift2 itemOf (lift2 itemOf (rdB 0) (fun (_ : Cells) => R.ok (D.int 2))) (lift2 itemOf (rdB 0) (fun (_ : Cells) => R.ok (D.int 1)))) c >>= fun d => (fun (c : Cells) => (rdV 1) c >>= fun d => (fun (_ : Cells) => R.ok ([] : List D)) c >>= fun ds => R.ok (d :: ds)) c >>= fun ds => R.ok (d :: ds))) c >>= fun d => R.ok (Out.rt d))
    (fun (c : Cells) => R.ok (Out.nx c)))
    (thenS (fun (c : Cells) => (rdV 1) c >>= fun d => ofO ((gT 4 (gsCons (gN 2) (gsCons (gN 3) (gsCons (gN 4) (gsCons (gN 5) gsNil))))) d c))
    (thenS (fun (c : Cells) => (fun (c : Cells) => (fun (_ : Cells) => R.ok ([] : List D)) c >>= mkLst) c >>= fun d => R.ok (Out.nx (c.set 6 (Cell.fz d))))
    (thenS (forS (fun (c : Cells) => (fun (c : Cells) => (fun (c : Cells) => (fun (c : Cells) => (lift2 itemOf (rdB 0) (fun (_ : Cells) => R.ok (D.int 1))) c >>= fun d => (fun (_ : Cells) => R.ok ([] : List D)) c >>= fun ds => R.ok (d :: ds)) c >>= oLen) c >>= fun d => (fun (_ : Cells) => R.ok ([] : List D)) c >>= fun ds => R.ok (d :: ds)) c >>= rng1) (gN 7)
    (b__law_shown_1 m__law_shown m__law_sizes))
    (fun (c : Cells) => rdB 6 c >>= fun d => R.ok (Out.rt d)))))))
def a__law_shown (m__law_shown : List D → R D) (m__law_sizes : List D → R D) : List D → R D := fun ds => endR (f__law_shown m__law_shown m__law_sizes (cellsN ["tree", "box", "left", "top", "width", "height", "found", "k", "size", "own", "part"] ds))
set_option maxHeartbeats 0 in
theorem k__law_shown {P : Program} {w : World} {K : PySem.W.Frag} {mg : Str → Option Value} {base : Heap} {k : Nat} {m__law_shown m__law_sizes : List D → R D} (T : Top fa fn ts ex w K mg) (c__law_shown : Cal P w K mg base k "_law_shown" 2 m__law_shown) (c__law_sizes : Cal P w K mg base k "_law_sizes" 2 m__law_sizes)   : Cal P w K mg base (k + 1) "_law_shown" 2 (a__law_shown m__law_shown m__law_sizes) := by
  obtain ⟨fd, F⟩ := T.def_ 34 rfl
  exact cal_mk (ps := ["tree", "box"]) F (T.glo 75 rfl) (fun _ _ _ _ _ _ us hl => match us, hl with | [_, _], _ => rfl) sc__law_shown (fun cdv A outer s H E hr =>
    (ess_cons (es_if (et_cmp (op_eqD hr.units) does_eq (EB.of (ev_item hr.units (eb_name 0 rfl (.inl rfl) rfl rfl) (EB.of ev_int) (fun _ _ => rfl))) (EB.of ev_str) rfl) (ess_one (es_ret (ev_ifExp (et_w (ew_and (et_cmp op_gt does_cmp (EB.of (ev_item hr.units (eb_name 1 rfl (.inl rfl) rfl rfl) (EB.of ev_int) (fun _ _ => rfl))) (EB.of ev_int) rfl) (ew_and1 (et_cmp op_gt does_cmp (EB.of (ev_item hr.units (eb_name 1 rfl (.inl rfl) rfl rfl) (EB.of ev_int) (fun _ _ => rfl))) (EB.of ev_int) rfl)))) (EV.ofL (el_lst (ea_cons (ev_tup (ea_cons (ev_item hr.units (eb_name 0 rfl (.inl rfl) rfl rfl) (EB.of ev_int) (fun _ _ => rfl)) (ea_cons (ev_name 1 rfl (.inl rfl) rfl rfl) ea_nil rfl) rfl)) ea_nil rfl))) (EV.ofL (el_lst ea_nil)))))
    ess_nil)
    (ess_cons (es_if (et_cmp (op_eqD hr.units) does_eq (EB.of (ev_item hr.units (eb_name 0 rfl (.inl rfl) rfl rfl) (EB.of ev_int) (fun _ _ => rfl))) (EB.of ev_str) rfl) (ess_one (es_ret (ev_cal c__law_shown hr rfl (takes_of rfl rfl rfl rfl) (ea_cons (ev_item hr.units (EB.of (ev_item hr.units (eb_name 0 rfl (.inl rfl) rfl rfl) (EB.of ev_int) (fun _ _ => rfl))) (EB.of (ev_item hr.units (eb_name 0 rfl (.inl rfl) rfl rfl) (EB.of ev_int) (fun _ _ => rfl))) (fun _ _ => rfl)) (ea_cons (ev_name 1 rfl (.inl rfl) rfl rfl) ea_nil rfl) rfl) rfl rfl rfl)))
    ess_nil)
    (ess_cons (es_asg (ev_name 1 rfl (.inl rfl) rfl rfl) (eg_tup rfl (egs_cons (eg_name 2 sc__law_shown.nd rfl (.inl rfl) (.inl rfl)) (egs_cons (eg_name 3 sc__law_shown.nd rfl (.inl rfl) (.inl rfl)) (egs_cons (eg_name 4 sc__law_shown.nd rfl (.inl rfl) (.inl rfl)) (egs_cons (eg_name 5 sc__law_shown.nd rfl (.inl rfl) (.inl rfl)) egs_nil rfl) rfl) rfl) rfl) rfl rfl) rfl rfl rfl)
    (ess_cons (es_set 6 sc__law_shown.nd rfl (.inl rfl) (.inl rfl) (EV.ofL (el_lst ea_nil)) rfl)
    (ess_cons (es_for (passes_of rfl) rfl (ei_range1 rfl (T.free 33 rfl) (eab_cons (EB.of (eb_lenF rfl hr.units rfl (T.free 5 rfl) (eab_cons (EB.of (ev_item hr.units (eb_name 0 rfl (.inl rfl) rfl rfl) (EB.of ev_int) (fun _ _ => rfl))) eab_nil rfl) rfl rfl)) eab_nil rfl) rfl) (eg_name 7 sc__law_shown.nd rfl (.inl rfl) (.inl rfl))
    (ess_cons (es_set 8 sc__law_shown.nd rfl (.inl rfl) (.inl rfl) (ev_item hr.units (EB.of (ev_cal c__law_sizes hr rfl (takes_of rfl rfl rfl rfl) (ea_cons (EV.ofL (el_lc (own := [("part", 10)]) rfl sc__law_shown.nd (blkOk_by (by kernel_rfl)) (ei_any (ev_item hr.units (eb_name 0 rfl (.inl rfl) rfl rfl) (EB.of ev_int) (fun _ _ => rfl))) (fun _ _ _ _ _ => (eg_name 10 sc__law_shown.nd rfl (.inl rfl) (.inr rfl))) (fun _ _ _ _ _ => ets_nil) (fun _ _ _ _ _ => (ev_item hr.units (eb_name 10 rfl (.inl rfl) rfl rfl) (EB.of ev_int) (fun _ _ => rfl))) (by decide) (fun _ => rfl))) (ea_cons (ev_ifExp (et_cmp (op_eqD hr.units) does_eq (EB.of (ev_item hr.units (eb_name 0 rfl (.inl rfl) rfl rfl) (EB.of ev_int) (fun _ _ => rfl))) (EB.of ev_str) rfl) (ev_name 4 rfl (.inl rfl) rfl rfl) (ev_name 5 rfl (.inl rfl) rfl rfl)) ea_nil rfl) rfl) rfl rfl rfl)) (eb_name 7 rfl (.inl rfl) rfl rfl) (fun _ _ => rfl)) rfl)
    (ess_cons (es_set 9 sc__law_shown.nd rfl (.inl rfl) (.inl rfl) (ev_ifExp (et_cmp (op_eqD hr.units) does_eq (EB.of (ev_item hr.units (eb_name 0 rfl (.inl rfl) rfl rfl) (EB.of ev_int) (fun _ _ => rfl))) (EB.of ev_str) rfl) (ev_tup (ea_cons (ev_name 2 rfl (.inl rfl) rfl rfl) (ea_cons (ev_name 3 rfl (.inl rfl) rfl rfl) (ea_cons (ev_name 8 rfl (.inl rfl) rfl rfl) (ea_cons (ev_name 5 rfl (.inl rfl) rfl rfl) ea_nil rfl) rfl) rfl) rfl)) (ev_tup (ea_cons (ev_name 2 rfl (.inl rfl) rfl rfl) (ea_cons (ev_name 3 rfl (.inl rfl) rfl rfl) (ea_cons (ev_name 4 rfl (.inl rfl) rfl rfl) (ea_cons (ev_name 8 rfl (.inl rfl) rfl rfl) ea_nil rfl) rfl) rfl) rfl))) rfl)
    (ess_cons (es_asg (ev_ifExp (et_cmp (op_eqD hr.units) does_eq (EB.of (ev_item hr.units (eb_name 0 rfl (.inl rfl) rfl rfl) (EB.of ev_int) (fun _ _ => rfl))) (EB.of ev_str) rfl) (ev_tup (ea_cons (ev_op op_addAll does_add (eb_name 2 rfl (.inl rfl) rfl rfl) (eb_name 8 rfl (.inl rfl) rfl rfl)) (ea_cons (ev_name 3 rfl (.inl rfl) rfl rfl) ea_nil rfl) rfl)) (ev_tup (ea_cons (ev_name 2 rfl (.inl rfl) rfl rfl) (ea_cons (ev_op op_addAll does_add (eb_name 3 rfl (.inl rfl) rfl rfl) (eb_name 8 rfl (.inl rfl) rfl rfl)) ea_nil rfl) rfl))) (eg_tup rfl (egs_cons (eg_name 2 sc__law_shown.nd rfl (.inl rfl) (.inl rfl)) (egs_cons (eg_name 3 sc__law_shown.nd rfl (.inl rfl) (.inl rfl)) egs_nil rfl) rfl) rfl rfl) rfl rfl rfl)
    (ess_one (es_set 6 sc__law_shown.nd rfl (.inl rfl) (.inl rfl) (ev_op op_addAll does_add (eb_name 6 rfl (.inl rfl) rfl rfl) (EB.of (ev_cal c__law_shown hr rfl (takes_of rfl rfl rfl rfl) (ea_cons (ev_item hr.units (EB.of (ev_item hr.units (EB.of (ev_item hr.units (eb_name 0 rfl (.inl rfl) rfl rfl) (EB.of ev_int) (fun _ _ => rfl))) (eb_name 7 rfl (.inl rfl) rfl rfl) (fun _ _ => rfl))) (EB.of ev_int) (fun _ _ => rfl)) (ea_cons (ev_name 9 rfl (.inl rfl) rfl rfl) ea_nil rfl) rfl) rfl rfl rfl))) rfl))))) (fun _ => rfl))
    (ess_one (es_retName 6 rfl (.inl rfl) rfl rfl))))))))
theorem sc__law_cells : FnScope ["boxes", "found", "name", "box", "left", "top"] ["boxes"] (defScope (top 57)) := ⟨rfl, rfl, rfl, by decide +kernel, rfl, by decide +kernel, by decide +kernel⟩
def b__law_cells_1  : Cells → R Out :=
    (dputS 1 (rdV 2) (fun (c : Cells) => (fun (c : Cells) => (rdV 4) c >>= fun d => (fun (c : Cells) => (rdV 5) c >>= fun d => (fun (_ : Cells) => R.ok ([] : List D)) c >>= fun ds => R.ok (d :: ds)) c >>= fun ds => R.ok (d :: ds)) c >>= mkTup))
def b__law_cells_2  : Cells → R Out :=
    (forS (fun (c : Cells) => (fun (c : Cells) => (lift2 itemOf (rdB 3) (fun (_ : Cells) => R.ok (D.int 1))) c >>= fun d => (fun (c : Cells) => (lift2 oAdd (lift2 itemOf (rdB 3) (fun (_ : Cells) => R.ok (D.int 1))) (lift2 itemOf (rdB 3) (fun (_ : Cells) => R.ok (D.int 3)))) c >>= fun d => (fun (_ : Cells) => R.ok ([] : List D)) c >>= fun ds => R.ok (d :: ds)) c >>= fun ds => R.ok (d :: ds)) c >>= rng2) (gN 5)
    (b__law_cells_1 ))
def b__law_cells_3  : Cells → R Out :=
    (forS (fun (c : Cells) => (fun (c : Cells) => (lift2 itemOf (rdB 3) (fun (_ : Cells) => R.ok (D.int 0))) c >>= fun d => (fun (c : Cells) => (lift2 oAdd (lift2 itemOf (rdB 3) (fun (_ : Cells) => R.ok (D.int 0))) (lift2 itemOf (rdB 3) (fun (_ : Cells) => R.ok (D.int 2)))) c >>= fun d => (fun (_ : Cells) => R.ok ([] : List D)) c >>= fun ds => R.ok (d :: ds)) c >>= fun ds => R.ok (d :: ds)) c >>= rng2) (gN 4)
    (b__law_cells_2 ))
def f__law_cells  : Cells → R Out :=
    (thenS (fun (c : Cells) => (fun (_ : Cells) => R.ok (D.dictT [])) c >>= fun d => R.ok (Out.nx (c.set 1 (Cell.ow d))))
    (thenS (forS (fun (c : Cells) => (rdV 0) c >>= asIt) (gT 2 (gsCons (gN 2) (gsCons (gN 3) gsNil)))
    (b__law_cells_3 ))
    (fun (c : Cells) => rdB 1 c >>= fun d => R.ok (Out.rt d))))
def a__law_cells  : List D → R D := fun ds => endR (f__law_cells  (cellsN ["boxes", "found", "name", "box", "left", "top"] ds))
set_option maxHeartbeats 0 in
theorem k__law_cells {P : Program} {w : World} {K : PySem.W.Frag} {mg : Str → Option Value} {base : Heap} {k : Nat} (T : Top fa fn ts ex w K mg)    : Cal P w K mg base (k + 1) "_law_cells" 1 (a__law_cells ) := by
  obtain ⟨fd, F⟩ := T.def_ 35 rfl
  exact cal_mk (ps := ["boxes"]) F (T.glo 76 rfl) (fun _ _ _ _ _ _ us hl => match us, hl with | [_], _ => rfl) sc__law_cells (fun cdv A outer s H E hr =>
    (ess_cons (es_setO 1 sc__law_cells.nd rfl (.inl rfl) (.inl rfl) el_dictT rfl)
    (ess_cons (es_for (passes_of rfl) rfl (ei_any (ev_name 0 rfl (.inl rfl) rfl rfl)) (eg_tup rfl (egs_cons (eg_name 2 sc__law_cells.nd rfl (.inl rfl) (.inl rfl)) (egs_cons (eg_name 3 sc__law_cells.nd rfl (.inl rfl) (.inl rfl)) egs_nil rfl) rfl) rfl rfl)
    (ess_one (es_for (passes_of rfl) rfl (ei_range2 rfl (T.free 33 rfl) (eab_cons (EB.of (ev_item hr.units (eb_name 3 rfl (.inl rfl) rfl rfl) (EB.of ev_int) (fun _ _ => rfl))) (eab_cons (EB.of (ev_op op_addAll does_add (EB.of (ev_item hr.units (eb_name 3 rfl (.inl rfl) rfl rfl) (EB.of ev_int) (fun _ _ => rfl))) (EB.of (ev_item hr.units (eb_name 3 rfl (.inl rfl) rfl rfl) (EB.of ev_int) (fun _ _ => rfl))))) eab_nil rfl) rfl) rfl rfl) (eg_name 4 sc__law_cells.nd rfl (.inl rfl) (.inl rfl))
    (ess_one (es_for (passes_of rfl) rfl (ei_range2 rfl (T.free 33 rfl) (eab_cons (EB.of (ev_item hr.units (eb_name 3 rfl (.inl rfl) rfl rfl) (EB.of ev_int) (fun _ _ => rfl))) (eab_cons (EB.of (ev_op op_addAll does_add (EB.of (ev_item hr.units (eb_name 3 rfl (.inl rfl) rfl rfl) (EB.of ev_int) (fun _ _ => rfl))) (EB.of (ev_item hr.units (eb_name 3 rfl (.inl rfl) rfl rfl) (EB.of ev_int) (fun _ _ => rfl))))) eab_nil rfl) rfl) rfl rfl) (eg_name 5 sc__law_cells.nd rfl (.inl rfl) (.inl rfl))
    (ess_one (es_dput 1 hr.units rfl (.inl rfl) rfl rfl (ev_name 2 rfl (.inl rfl) rfl rfl) (ev_tup (ea_cons (ev_name 4 rfl (.inl rfl) rfl rfl) (ea_cons (ev_name 5 rfl (.inl rfl) rfl rfl) ea_nil rfl) rfl)) rfl)) (fun _ => rfl))) (fun _ => rfl))) (fun _ => rfl))
    (ess_one (es_retName 1 rfl (.inl rfl) rfl rfl)))))
theorem sc__law_next : FnScope ["cell", "way"] ["cell", "way"] (defScope (top 58)) := ⟨rfl, rfl, rfl, by decide +kernel, rfl, by decide +kernel, by decide +kernel⟩
def f__law_next  : Cells → R Out :=
    (fun (c : Cells) => (fun (c : Cells) => (fun (c : Cells) => (lift2 oAdd (lift2 itemOf (rdB 0) (fun (_ : Cells) => R.ok (D.int 0))) (getV (dispV [((fun (_ : Cells) => R.ok (D.str "left")), (fun (c : Cells) => (fun (_ : Cells) => R.ok (D.int 1)) c >>= oNeg)), ((fun (_ : Cells) => R.ok (D.str "right")), (fun (_ : Cells) => R.ok (D.int 1)))]) (rdV 1) (fun (_ : Cells) => R.ok (D.int 0)))) c >>= fun d => (fun (c : Cells) => (lift2 oAdd (lift2 itemOf (rdB 0) (fun (_ : Cells) => R.ok (D.int 1))) (getV (dispV [((fun (_ : Cells) => R.ok (D.str "up")), (fun (c : Cells) => (fun (_ : Cells) => R.ok (D.int 1)) c >>= oNeg)), ((fun (_ : Cells) => R.ok (D.str "down")), (fun (_ : Cells) => R.ok (D.int 1)))]) (rdV 1) (fun (_ : Cells) => R.ok (D.int 0)))) c >>= fun d => (fun (_ : Cells) => R.ok ([] : List D)) c >>= fun ds => R.ok (d :: ds)) c >>= fun ds => R.ok (d :: ds)) c >>= mkTup) c >>= fun d => R.ok (Out.rt d))
def a__law_next  : List D → R D := fun ds => endR (f__law_next  (cellsN ["cell", "way"] ds))
set_option maxHeartbeats 0 in
theorem k__law_next {P : Program} {w : World} {K : PySem.W.Frag} {mg : Str → Option Value} {base : Heap} {k : Nat} (T : Top fa fn ts ex w K mg)    : Cal P w K mg base (k + 1) "_law_next" 2 (a__law_next ) := by
  obtain ⟨fd, F⟩ := T.def_ 36 rfl
  exact cal_mk (ps := ["cell", "way"]) F (T.glo 77 rfl) (fun _ _ _ _ _ _ us hl => match us, hl with | [_, _], _ => rfl) sc__law_next (fun cdv A outer s H E hr =>
    (ess_one (es_ret (ev_tup (ea_cons (ev_op op_addAll does_add (EB.of (ev_item hr.units (eb_name 0 rfl (.inl rfl) rfl rfl) (EB.of ev_int) (fun _ _ => rfl))) (EB.of (ev_get2 (hu_of hr) (EB.ofL (el_disp (l := [((fun (_ : Cells) => R.ok (D.str "left")), (fun (c : Cells) => (fun (_ : Cells) => R.ok (D.int 1)) c >>= oNeg)), ((fun (_ : Cells) => R.ok (D.str "right")), (fun (_ : Cells) => R.ok (D.int 1)))]) (pps_cons ev_str (ev_neg (EB.of ev_int)) (pps_cons ev_str ev_int pps_nil)) rfl rfl (by simp) (by decide) (by decide))) (ev_name 1 rfl (.inl rfl) rfl rfl) ev_int ⟨rfl, rfl, rfl, rfl⟩))) (ea_cons (ev_op op_addAll does_add (EB.of (ev_item hr.units (eb_name 0 rfl (.inl rfl) rfl rfl) (EB.of ev_int) (fun _ _ => rfl))) (EB.of (ev_get2 (hu_of hr) (EB.ofL (el_disp (l := [((fun (_ : Cells) => R.ok (D.str "up")), (fun (c : Cells) => (fun (_ : Cells) => R.ok (D.int 1)) c >>= oNeg)), ((fun (_ : Cells) => R.ok (D.str "down")), (fun (_ : Cells) => R.ok (D.int 1)))]) (pps_cons ev_str (ev_neg (EB.of ev_int)) (pps_cons ev_str ev_int pps_nil)) rfl rfl (by simp) (by decide) (by decide))) (ev_name 1 rfl (.inl rfl) rfl rfl) ev_int ⟨rfl, rfl, rfl, rfl⟩))) ea_nil rfl) rfl)))))
theorem sc__law_beside : FnScope ["cells", "name", "way", "rows", "cell", "other", "found", "at"] ["cells", "name", "way"] (defScope (top 59)) := ⟨rfl, rfl, rfl, by decide +kernel, rfl, by decide +kernel, by decide +kernel⟩
def b__law_beside_1 (m__law_next : List D → R D) : Cells → R Out :=
    (thenS (fun (c : Cells) => (getV (rdB 0) (callD 2 m__law_next (fun (c : Cells) => (rdV 4) c >>= fun d => (fun (c : Cells) => (rdV 2) c >>= fun d => (fun (_ : Cells) => R.ok ([] : List D)) c >>= fun ds => R.ok (d :: ds)) c >>= fun ds => R.ok (d :: ds))) (rdV 1)) c >>= fun d => R.ok (Out.nx (c.set 5 (Cell.fz d))))
    (ifS (andT (fun (c : Cells) => (lift2 oEq (lift2 itemOf (rdB 0) (rdB 4)) (rdB 1)) c >>= asB) (fun (c : Cells) => (lift2 oNe (rdB 5) (rdB 1)) c >>= asB)) (appS 3 (fun (c : Cells) => (fun (c : Cells) => (ifV (fun (c : Cells) => (lift2 oIn (rdB 2) (fun (c : Cells) => (fun (c : Cells) => (fun (_ : Cells) => R.ok (D.str "left")) c >>= fun d => (fun (c : Cells) => (fun (_ : Cells) => R.ok (D.str "right")) c >>= fun d => (fun (_ : Cells) => R.ok ([] : List D)) c >>= fun ds => R.ok (d :: ds)) c >>= fun ds => R.ok (d :: ds)) c >>= mkTup)) c >>= asB) (lift2 itemOf (rdB 4) (fun (_ : Cells) => R.ok (D.int 1))) (lift2 itemOf (rdB 4) (fun (_ : Cells) => R.ok (D.int 0)))) c >>= fun d => (fun (c : Cells) => (rdV 5) c >>= fun d => (fun (_ : Cells) => R.ok ([] : List D)) c >>= fun ds => R.ok (d :: ds)) c >>= fun ds => R.ok (d :: ds)) c >>= mkTup))
    (fun (c : Cells) => R.ok (Out.nx c))))
def b__law_beside_2 (m__law_next : List D → R D) : Cells → R Out :=
    (ifS (andT (fun (c : Cells) => (lift2 oGt (fun (c : Cells) => (fun (c : Cells) => (rdB 6) c >>= fun d => (fun (_ : Cells) => R.ok ([] : List D)) c >>= fun ds => R.ok (d :: ds)) c >>= oLen) (fun (_ : Cells) => R.ok (D.int 0))) c >>= asB) (fun (c : Cells) => (lift2 oEq (lift2 itemOf (lift2 itemOf (rdB 6) (fun (c : Cells) => (fun (_ : Cells) => R.ok (D.int 1)) c >>= oNeg)) (fun (_ : Cells) => R.ok (D.int 0))) (rdB 5)) c >>= asB)) (lputS 6 (fun (c : Cells) => (fun (c : Cells) => (rdV 5) c >>= fun d => (fun (c : Cells) => (lift2 oAdd (lift2 itemOf (lift2 itemOf (rdB 6) (fun (c : Cells) => (fun (_ : Cells) => R.ok (D.int 1)) c >>= oNeg)) (fun (_ : Cells) => R.ok (D.int 1))) (fun (_ : Cells) => R.ok (D.int 1))) c >>= fun d => (fun (_ : Cells) => R.ok ([] : List D)) c >>= fun ds => R.ok (d :: ds)) c >>= fun ds => R.ok (d :: ds)) c >>= mkTup) (fun (c : Cells) => (fun (_ : Cells) => R.ok (D.int 1)) c >>= oNeg))
    (appS 6 (fun (c : Cells) => (fun (c : Cells) => (rdV 5) c >>= fun d => (fun (c : Cells) => (fun (_ : Cells) => R.ok (D.int 1)) c >>= fun d => (fun (_ : Cells) => R.ok ([] : List D)) c >>= fun ds => R.ok (d :: ds)) c >>= fun ds => R.ok (d :: ds)) c >>= mkTup)))
def f__law_beside (m__law_next : List D → R D) : Cells → R Out :=
    (thenS (fun (c : Cells) => (fun (c : Cells) => (fun (_ : Cells) => R.ok ([] : List D)) c >>= mkLst) c >>= fun d => R.ok (Out.nx (c.set 3 (Cell.ow d))))
    (thenS (forS (fun (c : Cells) => (fun (c : Cells) => (fun (c : Cells) => (rdB 0) c >>= fun d => (fun (_ : Cells) => R.ok ([] : List D)) c >>= fun ds => R.ok (d :: ds)) c >>= oSorted) c >>= asIt) (gN 4)
    (b__law_beside_1 m__law_next))
    (thenS (fun (c : Cells) => (fun (c : Cells) => (fun (_ : Cells) => R.ok ([] : List D)) c >>= mkLst) c >>= fun d => R.ok (Out.nx (c.set 6 (Cell.ow d))))
    (thenS (forS (fun (c : Cells) => (fun (c : Cells) => (fun (c : Cells) => (rdB 3) c >>= fun d => (fun (_ : Cells) => R.ok ([] : List D)) c >>= fun ds => R.ok (d :: ds)) c >>= oSorted) c >>= asIt) (gT 2 (gsCons (gN 7) (gsCons (gN 5) gsNil)))
    (b__law_beside_2 m__law_next))
    (fun (c : Cells) => rdB 6 c >>= fun d => R.ok (Out.rt d))))))
def a__law_beside (m__law_next : List D → R D) : List D → R D := fun ds => endR (f__law_beside m__law_next (cellsN ["cells", "name", "way", "rows", "cell", "other", "found", "at"] ds))
set_option maxHeartbeats 0 in
theorem k__law_beside {P : Program} {w : World} {K : PySem.W.Frag} {mg : Str → Option Value} {base : Heap} {k : Nat} {m__law_next : List D → R D} (T : Top fa fn ts ex w K mg) (c__law_next : Cal P w K mg base k "_law_next" 2 m__law_next)   : Cal P w K mg base (k + 1) "_law_beside" 3 (a__law_beside m__law_next) := by
  obtain ⟨fd, F⟩ := T.def_ 37 rfl
  exact cal_mk (ps := ["cells", "name", "way"]) F (T.glo 78 rfl) (fun _ _ _ _ _ _ us hl => match us, hl with | [_, _, _], _ => rfl) sc__law_beside (fun cdv A outer s H E hr =>
    (ess_cons (es_setO 3 sc__law_beside.nd rfl (.inl rfl) (.inl rfl) (el_lst ea_nil) rfl)
    (ess_cons (es_for (passes_of rfl) rfl (ei_any (eb_sortedF rfl hr.units rfl (T.free 38 rfl) (eab_cons (eb_name 0 rfl (.inl rfl) rfl rfl) eab_nil rfl) rfl rfl)) (eg_name 4 sc__law_beside.nd rfl (.inl rfl) (.inl rfl))
    (ess_cons (es_set 5 sc__law_beside.nd rfl (.inl rfl) (.inl rfl) (ev_get2 (hu_of hr) (eb_name 0 rfl (.inl rfl) rfl rfl) (ev_cal c__law_next hr rfl (takes_of rfl rfl rfl rfl) (ea_cons (ev_name 4 rfl (.inl rfl) rfl rfl) (ea_cons (ev_name 2 rfl (.inl rfl) rfl rfl) ea_nil rfl) rfl) rfl rfl rfl) (ev_name 1 rfl (.inl rfl) rfl rfl) ⟨rfl, rfl, rfl, rfl⟩) rfl)
    (ess_one (es_if (et_w (ew_and (et_cmp (op_eqD hr.units) does_eq (EB.of (ev_item hr.units (eb_name 0 rfl (.inl rfl) rfl rfl) (eb_name 4 rfl (.inl rfl) rfl rfl) (fun _ _ => rfl))) (eb_name 1 rfl (.inl rfl) rfl rfl) rfl) (ew_and1 (et_cmp (op_neD hr.units) does_ne (eb_name 5 rfl (.inl rfl) rfl rfl) (eb_name 1 rfl (.inl rfl) rfl rfl) rfl)))) (ess_one (es_append 3 rfl (.inl rfl) rfl rfl (ev_tup (ea_cons (ev_ifExp (et_cmp (op_inAll hr.units) does_in (eb_name 2 rfl (.inl rfl) rfl rfl) (EB.of (ev_tup (ea_cons ev_str (ea_cons ev_str ea_nil rfl) rfl))) rfl) (ev_item hr.units (eb_name 4 rfl (.inl rfl) rfl rfl) (EB.of ev_int) (fun _ _ => rfl)) (ev_item hr.units (eb_name 4 rfl (.inl rfl) rfl rfl) (EB.of ev_int) (fun _ _ => rfl))) (ea_cons (ev_name 5 rfl (.inl rfl) rfl rfl) ea_nil rfl) rfl)) rfl rfl rfl rfl rfl))
    ess_nil))) (fun _ => rfl))
    (ess_cons (es_setO 6 sc__law_beside.nd rfl (.inl rfl) (.inl rfl) (el_lst ea_nil) rfl)
    (ess_cons (es_for (passes_of rfl) rfl (ei_any (eb_sortedF rfl hr.units rfl (T.free 38 rfl) (eab_cons (eb_name 3 rfl (.inl rfl) rfl rfl) eab_nil rfl) rfl rfl)) (eg_tup rfl (egs_cons (eg_name 7 sc__law_beside.nd rfl (.inl rfl) (.inl rfl)) (egs_cons (eg_name 5 sc__law_beside.nd rfl (.inl rfl) (.inl rfl)) egs_nil rfl) rfl) rfl rfl)
    (ess_one (es_if (et_w (ew_and (et_cmp op_gt does_cmp (EB.of (eb_lenF rfl hr.units rfl (T.free 5 rfl) (eab_cons (eb_name 6 rfl (.inl rfl) rfl rfl) eab_nil rfl) rfl rfl)) (EB.of ev_int) rfl) (ew_and1 (et_cmp (op_eqD hr.units) does_eq (EB.of (ev_item hr.units (EB.of (ev_item hr.units (eb_name 6 rfl (.inl rfl) rfl rfl) (EB.of (ev_neg (EB.of ev_int))) (fun _ _ => rfl))) (EB.of ev_int) (fun _ _ => rfl))) (eb_name 5 rfl (.inl rfl) rfl rfl) rfl)))) (ess_one (es_lput 6 rfl (.inl rfl) rfl rfl (ev_tup (ea_cons (ev_name 5 rfl (.inl rfl) rfl rfl) (ea_cons (ev_op op_addAll does_add (EB.of (ev_item hr.units (EB.of (ev_item hr.units (eb_name 6 rfl (.inl rfl) rfl rfl) (EB.of (ev_neg (EB.of ev_int))) (fun _ _ => rfl))) (EB.of ev_int) (fun _ _ => rfl))) (EB.of ev_int)) ea_nil rfl) rfl)) (ev_neg (EB.of ev_int)) (fun _ => rfl) rfl rfl rfl))
    (ess_one (es_append 6 rfl (.inl rfl) rfl rfl (ev_tup (ea_cons (ev_name 5 rfl (.inl rfl) rfl rfl) (ea_cons ev_int ea_nil rfl) rfl)) rfl rfl rfl rfl rfl)))) (fun _ => rfl))
    (ess_one (es_retName 6 rfl (.inl rfl) rfl rfl)))))))
theorem sc__law_most : FnScope ["pairs", "most", "pair"] ["pairs"] (defScope (top 60)) := ⟨rfl, rfl, rfl, by decide +kernel, rfl, by decide +kernel, by decide +kernel⟩
def e__law_most_1  : Cells → R D :=
    (lift2 itemOf (rdB 2) (fun (_ : Cells) => R.ok (D.int 1)))
def t__law_most_1  : Cells → R Bool :=
    (fun (c : Cells) => (lift2 oEq (lift2 itemOf (rdB 2) (fun (_ : Cells) => R.ok (D.int 1))) (rdB 1)) c >>= asB)
def e__law_most_2  : Cells → R D :=
    (lift2 itemOf (rdB 2) (fun (_ : Cells) => R.ok (D.int 0)))
def f__law_most  : Cells → R Out :=
    (thenS (fun (c : Cells) => (fun (c : Cells) => (fun (c : Cells) => (lift2 oAdd (fun (c : Cells) => (fun (c : Cells) => (fun (_ : Cells) => R.ok (D.int 0)) c >>= fun d => (fun (_ : Cells) => R.ok ([] : List D)) c >>= fun ds => R.ok (d :: ds)) c >>= mkLst) (compV [2] (fun (c : Cells) => (rdV 0) c >>= asIt) (gN 2) (fun (_ : Cells) => R.ok true) (e__law_most_1 ))) c >>= fun d => (fun (_ : Cells) => R.ok ([] : List D)) c >>= fun ds => R.ok (d :: ds)) c >>= oMax) c >>= fun d => R.ok (Out.nx (c.set 1 (Cell.fz d))))
    (fun (c : Cells) => (ifV (fun (c : Cells) => (lift2 oGt (fun (c : Cells) => (fun (c : Cells) => (rdB 0) c >>= fun d => (fun (_ : Cells) => R.ok ([] : List D)) c >>= fun ds => R.ok (d :: ds)) c >>= oLen) (fun (_ : Cells) => R.ok (D.int 0))) c >>= asB) (lift2 itemOf (compV [2] (fun (c : Cells) => (rdV 0) c >>= asIt) (gN 2) (t__law_most_1 ) (e__law_most_2 )) (fun (_ : Cells) => R.ok (D.int 0))) (fun (_ : Cells) => R.ok D.none)) c >>= fun d => R.ok (Out.rt d)))
def a__law_most  : List D → R D := fun ds => endR (f__law_most  (cellsN ["pairs", "most", "pair"] ds))
set_option maxHeartbeats 0 in
theorem k__law_most {P : Program} {w : World} {K : PySem.W.Frag} {mg : Str → Option Value} {base : Heap} {k : Nat} (T : Top fa fn ts ex w K mg)    : Cal P w K mg base (k + 1) "_law_most" 1 (a__law_most ) := by
  obtain ⟨fd, F⟩ := T.def_ 38 rfl
  exact cal_mk (ps := ["pairs"]) F (T.glo 79 rfl) (fun _ _ _ _ _ _ us hl => match us, hl with | [_], _ => rfl) sc__law_most (fun cdv A outer s H E hr =>
    (ess_cons (es_set 1 sc__law_most.nd rfl (.inr rfl) (.inl rfl) (eb_maxF rfl hr.units rfl (T.free 49 rfl) (eab_cons (EB.of (ev_op op_addAll does_add (EB.ofL (el_lst (ea_cons ev_int ea_nil rfl))) (EB.ofL (el_lc (own := [("pair", 2)]) rfl sc__law_most.nd (blkOk_by (by kernel_rfl)) (ei_any (ev_name 0 rfl (.inl rfl) rfl rfl)) (fun _ _ _ _ _ => (eg_name 2 sc__law_most.nd rfl (.inl rfl) (.inr rfl))) (fun _ _ _ _ _ => ets_nil) (fun _ _ _ _ _ => (ev_item hr.units (eb_name 2 rfl (.inl rfl) rfl rfl) (EB.of ev_int) (fun _ _ => rfl))) (by decide) (fun _ => rfl))))) eab_nil rfl) rfl rfl) rfl)
    (ess_one (es_ret (ev_ifExp (et_cmp op_gt does_cmp (EB.of (eb_lenF rfl hr.units rfl (T.free 5 rfl) (eab_cons (eb_name 0 rfl (.inl rfl) rfl rfl) eab_nil rfl) rfl rfl)) (EB.of ev_int) rfl) (ev_item hr.units (EB.ofL (el_lc (own := [("pair", 2)]) rfl sc__law_most.nd (blkOk_by (by kernel_rfl)) (ei_any (ev_name 0 rfl (.inl rfl) rfl rfl)) (fun _ _ _ _ _ => (eg_name 2 sc__law_most.nd rfl (.inl rfl) (.inr rfl))) (fun _ _ _ _ _ => (ets_one (et_cmp (op_eqD hr.units) does_eq (EB.of (ev_item hr.units (eb_name 2 rfl (.inl rfl) rfl rfl) (EB.of ev_int) (fun _ _ => rfl))) (eb_name 1 rfl (.inr (.inl rfl)) rfl rfl) rfl))) (fun _ _ _ _ _ => (ev_item hr.units (eb_name 2 rfl (.inl rfl) rfl rfl) (EB.of ev_int) (fun _ _ => rfl))) (by decide) (fun _ => rfl))) (EB.of ev_int) (fun _ _ => rfl)) ev_non)))))
theorem sc__law_other_way : FnScope ["way"] ["way"] (defScope (top 61)) := ⟨rfl, rfl, rfl, by decide +kernel, rfl, by decide +kernel, by decide +kernel⟩
def f__law_other_way  : Cells → R Out :=
    (fun (c : Cells) => (lift2 itemOf (dispV [((fun (_ : Cells) => R.ok (D.str "down")), (fun (_ : Cells) => R.ok (D.str "up"))), ((fun (_ : Cells) => R.ok (D.str "left")), (fun (_ : Cells) => R.ok (D.str "right"))), ((fun (_ : Cells) => R.ok (D.str "right")), (fun (_ : Cells) => R.ok (D.str "left"))), ((fun (_ : Cells) => R.ok (D.str "up")), (fun (_ : Cells) => R.ok (D.str "down")))]) (rdB 0)) c >>= fun d => R.ok (Out.rt d))
def a__law_other_way  : List D → R D := fun ds => endR (f__law_other_way  (cellsN ["way"] ds))
set_option maxHeartbeats 0 in
theorem k__law_other_way {P : Program} {w : World} {K : PySem.W.Frag} {mg : Str → Option Value} {base : Heap} {k : Nat} (T : Top fa fn ts ex w K mg)    : Cal P w K mg base (k + 1) "_law_other_way" 1 (a__law_other_way ) := by
  obtain ⟨fd, F⟩ := T.def_ 39 rfl
  exact cal_mk (ps := ["way"]) F (T.glo 80 rfl) (fun _ _ _ _ _ _ us hl => match us, hl with | [_], _ => rfl) sc__law_other_way (fun cdv A outer s H E hr =>
    (ess_one (es_ret (ev_item hr.units (EB.ofL (el_disp (l := [((fun (_ : Cells) => R.ok (D.str "down")), (fun (_ : Cells) => R.ok (D.str "up"))), ((fun (_ : Cells) => R.ok (D.str "left")), (fun (_ : Cells) => R.ok (D.str "right"))), ((fun (_ : Cells) => R.ok (D.str "right")), (fun (_ : Cells) => R.ok (D.str "left"))), ((fun (_ : Cells) => R.ok (D.str "up")), (fun (_ : Cells) => R.ok (D.str "down")))]) (pps_cons ev_str ev_str (pps_cons ev_str ev_str (pps_cons ev_str ev_str (pps_cons ev_str ev_str pps_nil)))) rfl rfl (by simp) (by decide) (by decide))) (eb_name 0 rfl (.inl rfl) rfl rfl) (fun _ _ => rfl)))))
theorem sc__law_drawn : FnScope ["draws", "turn", "layout"] ["draws", "turn"] (defScope (top 62)) := ⟨rfl, rfl, rfl, by decide +kernel, rfl, by decide +kernel, by decide +kernel⟩
def f__law_drawn (m__law_tree : List D → R D) (m__law_box : List D → R D) : Cells → R Out :=
    (thenS (fun (c : Cells) => (lift2 itemOf (callD 5 m__law_tree (fun (c : Cells) => (lift2 oAdd (fun (c : Cells) => (rdB 0) c >>= fun d => (fun (c : Cells) => (lift2 oMul2 (fun (_ : Cells) => R.ok (D.int 9)) (rdB 1)) c >>= fun d => asI d >>= fun i => R.ok (some i)) c >>= fun l => (fun (_ : Cells) => R.ok (none : Option Int)) c >>= fun h => oSlice d l h) (fun (c : Cells) => (rdB 0) c >>= fun d => (fun (_ : Cells) => R.ok (none : Option Int)) c >>= fun l => (fun (c : Cells) => (lift2 oMul2 (fun (_ : Cells) => R.ok (D.int 9)) (rdB 1)) c >>= fun d => asI d >>= fun i => R.ok (some i)) c >>= fun h => oSlice d l h)) c >>= fun d => (fun (c : Cells) => (fun (_ : Cells) => R.ok (D.int 0)) c >>= fun d => (fun (c : Cells) => (lift2 itemOf (fun (c : Cells) => (fun (c : Cells) => (fun (_ : Cells) => R.ok (D.int 3)) c >>= fun d => (fun (c : Cells) => (fun (_ : Cells) => R.ok (D.int 4)) c >>= fun d => (fun (c : Cells) => (fun (_ : Cells) => R.ok (D.int 2)) c >>= fun d => (fun (c : Cells) => (fun (_ : Cells) => R.ok (D.int 4)) c >>= fun d => (fun (c : Cells) => (fun (_ : Cells) => R.ok (D.int 3)) c >>= fun d => (fun (c : Cells) => (fun (_ : Cells) => R.ok (D.int 4)) c >>= fun d => (fun (_ : Cells) => R.ok ([] : List D)) c >>= fun ds => R.ok (d :: ds)) c >>= fun ds => R.ok (d :: ds)) c >>= fun ds => R.ok (d :: ds)) c >>= fun ds => R.ok (d :: ds)) c >>= fun ds => R.ok (d :: ds)) c >>= fun ds => R.ok (d :: ds)) c >>= mkLst) (rdB 1)) c >>= fun d => (fun (c : Cells) => (fun (_ : Cells) => R.ok (D.str "")) c >>= fun d => (fun (c : Cells) => (fun (_ : Cells) => R.ok (D.int 0)) c >>= fun d => (fun (_ : Cells) => R.ok ([] : List D)) c >>= fun ds => R.ok (d :: ds)) c >>= fun ds => R.ok (d :: ds)) c >>= fun ds => R.ok (d :: ds)) c >>= fun ds => R.ok (d :: ds)) c >>= fun ds => R.ok (d :: ds))) (fun (_ : Cells) => R.ok (D.int 0))) c >>= fun d => R.ok (Out.nx (c.set 2 (Cell.fz d))))
    (fun (c : Cells) => (fun (c : Cells) => (fun (c : Cells) => (rdV 2) c >>= fun d => (fun (c : Cells) => (callD 1 m__law_box (fun (c : Cells) => (lift2 oAdd (fun (c : Cells) => (rdB 0) c >>= fun d => (fun (c : Cells) => (lift2 oAdd (lift2 oMul2 (fun (_ : Cells) => R.ok (D.int 7)) (rdB 1)) (fun (_ : Cells) => R.ok (D.int 2))) c >>= fun d => asI d >>= fun i => R.ok (some i)) c >>= fun l => (fun (_ : Cells) => R.ok (none : Option Int)) c >>= fun h => oSlice d l h) (rdB 0)) c >>= fun d => (fun (_ : Cells) => R.ok ([] : List D)) c >>= fun ds => R.ok (d :: ds))) c >>= fun d => (fun (_ : Cells) => R.ok ([] : List D)) c >>= fun ds => R.ok (d :: ds)) c >>= fun ds => R.ok (d :: ds)) c >>= mkTup) c >>= fun d => R.ok (Out.rt d)))
def a__law_drawn (m__law_tree : List D → R D) (m__law_box : List D → R D) : List D → R D := fun ds => endR (f__law_drawn m__law_tree m__law_box (cellsN ["draws", "turn", "layout"] ds))
set_option maxHeartbeats 0 in
theorem k__law_drawn {P : Program} {w : World} {K : PySem.W.Frag} {mg : Str → Option Value} {base : Heap} {k : Nat} {m__law_tree m__law_box : List D → R D} (T : Top fa fn ts ex w K mg) (c__law_tree : Cal P w K mg base k "_law_tree" 5 m__law_tree) (c__law_box : Cal P w K mg base k "_law_box" 1 m__law_box)   : Cal P w K mg base (k + 1) "_law_drawn" 2 (a__law_drawn m__law_tree m__law_box) := by
  obtain ⟨fd, F⟩ := T.def_ 40 rfl
  exact cal_mk (ps := ["draws", "turn"]) F (T.glo 81 rfl) (fun _ _ _ _ _ _ us hl => match us, hl with | [_, _], _ => rfl) sc__law_drawn (fun cdv A outer s H E hr =>
    (ess_cons (es_set 2 sc__law_drawn.nd rfl (.inl rfl) (.inl rfl) (ev_item hr.units (EB.of (ev_cal c__law_tree hr rfl (takes_of rfl rfl rfl rfl) (ea_cons (ev_op op_addAll does_add (EB.of (ev_slice (eb_name 0 rfl (.inl rfl) rfl rfl) (eo_some (EB.of (ev_op op_mulAll2 does_mul2 (EB.of ev_int) (eb_name 1 rfl (.inl rfl) rfl rfl)))) eo_none)) (EB.of (ev_slice (eb_name 0 rfl (.inl rfl) rfl rfl) eo_none (eo_some (EB.of (ev_op op_mulAll2 does_mul2 (EB.of ev_int) (eb_name 1 rfl (.inl rfl) rfl rfl))))))) (ea_cons ev_int (ea_cons (ev_item hr.units (EB.ofL (el_lst (ea_cons ev_int (ea_cons ev_int (ea_cons ev_int (ea_cons ev_int (ea_cons ev_int (ea_cons ev_int ea_nil rfl) rfl) rfl) rfl) rfl) rfl))) (eb_name 1 rfl (.inl rfl) rfl rfl) (fun _ _ => rfl)) (ea_cons ev_str (ea_cons ev_int ea_nil rfl) rfl) rfl) rfl) rfl) rfl rfl rfl)) (EB.of ev_int) (fun _ _ => rfl)) rfl)
    (ess_one (es_ret (ev_tup (ea_cons (ev_name 2 rfl (.inl rfl) rfl rfl) (ea_cons (ev_cal c__law_box hr rfl (takes_of rfl rfl rfl rfl) (ea_cons (ev_op op_addAll does_add (EB.of (ev_slice (eb_name 0 rfl (.inl rfl) rfl rfl) (eo_some (EB.of (ev_op op_addAll does_add (EB.of (ev_op op_mulAll2 does_mul2 (EB.of ev_int) (eb_name 1 rfl (.inl rfl) rfl rfl))) (EB.of ev_int)))) eo_none)) (eb_name 0 rfl (.inl rfl) rfl rfl)) ea_nil rfl) rfl rfl rfl) ea_nil rfl) rfl))))))
theorem sc_law : FnScope ["script", "draws", "turn", "layout", "box", "boxes", "cells", "names", "found", "is_plain", "name", "side", "pairs", "other", "pair", "one", "many"] ["script"] (defScope (top 63)) := ⟨rfl, rfl, rfl, by decide +kernel, rfl, by decide +kernel, by decide +kernel⟩
def e_law_1 (m__law_draws : List D → R D) (m__law_drawn : List D → R D) (m__law_shown : List D → R D) (m__law_cells : List D → R D) (m__law_beside : List D → R D) (m__law_most : List D → R D) (m_steps_to : List D → R D) (m__law_other_way : List D → R D) (m_beside : List D → R D) (m_not_back : List D → R D) (m_there_windows : List D → R D) : Cells → R D :=
    (lift2 itemOf (rdB 14) (fun (_ : Cells) => R.ok (D.int 0)))
def e_law_2 (m__law_draws : List D → R D) (m__law_drawn : List D → R D) (m__law_shown : List D → R D) (m__law_cells : List D → R D) (m__law_beside : List D → R D) (m__law_most : List D → R D) (m_steps_to : List D → R D) (m__law_other_way : List D → R D) (m_beside : List D → R D) (m_not_back : List D → R D) (m_there_windows : List D → R D) : Cells → R D :=
    (rdV 16)
def b_law_1 (m__law_draws : List D → R D) (m__law_drawn : List D → R D) (m__law_shown : List D → R D) (m__law_cells : List D → R D) (m__law_beside : List D → R D) (m__law_most : List D → R D) (m_steps_to : List D → R D) (m__law_other_way : List D → R D) (m_beside : List D → R D) (m_not_back : List D → R D) (m_there_windows : List D → R D) : Cells → R Out :=
    (thenS (fun (c : Cells) => (callD 3 m__law_beside (fun (c : Cells) => (rdV 6) c >>= fun d => (fun (c : Cells) => (rdV 10) c >>= fun d => (fun (c : Cells) => (rdV 11) c >>= fun d => (fun (_ : Cells) => R.ok ([] : List D)) c >>= fun ds => R.ok (d :: ds)) c >>= fun ds => R.ok (d :: ds)) c >>= fun ds => R.ok (d :: ds))) c >>= fun d => R.ok (Out.nx (c.set 12 (Cell.fz d))))
    (thenS (fun (c : Cells) => (callD 1 m__law_most (fun (c : Cells) => (rdV 12) c >>= fun d => (fun (_ : Cells) => R.ok ([] : List D)) c >>= fun ds => R.ok (d :: ds))) c >>= fun d => R.ok (Out.nx (c.set 13 (Cell.fz d))))
    (thenS (fun (c : Cells) => (andV (rdV 9) (lift2 oLt (fun (c : Cells) => (fun (c : Cells) => (rdB 12) c >>= fun d => (fun (_ : Cells) => R.ok ([] : List D)) c >>= fun ds => R.ok (d :: ds)) c >>= oLen) (fun (_ : Cells) => R.ok (D.int 2)))) c >>= fun d => R.ok (Out.nx (c.set 9 (Cell.fz d))))
    (thenS (ifS (fun (c : Cells) => (lift2 oNe (callD 4 m_steps_to (fun (c : Cells) => (rdV 3) c >>= fun d => (fun (c : Cells) => (rdV 4) c >>= fun d => (fun (c : Cells) => (rdV 10) c >>= fun d => (fun (c : Cells) => (rdV 11) c >>= fun d => (fun (_ : Cells) => R.ok ([] : List D)) c >>= fun ds => R.ok (d :: ds)) c >>= fun ds => R.ok (d :: ds)) c >>= fun ds => R.ok (d :: ds)) c >>= fun ds => R.ok (d :: ds))) (rdB 13)) c >>= asB) (fun (c : Cells) => (fun (_ : Cells) => R.ok (D.bool false)) c >>= fun d => R.ok (Out.rt d))
    (fun (c : Cells) => R.ok (Out.nx c)))
    (thenS (ifS (andT (fun (c : Cells) => (lift2 oIsNot (rdB 13) (fun (_ : Cells) => R.ok D.none)) c >>= asB) (fun (c : Cells) => (lift2 oNe (callD 1 m__law_most (fun (c : Cells) => (callD 3 m__law_beside (fun (c : Cells) => (rdV 6) c >>= fun d => (fun (c : Cells) => (rdV 13) c >>= fun d => (fun (c : Cells) => (callD 1 m__law_other_way (fun (c : Cells) => (rdV 11) c >>= fun d => (fun (_ : Cells) => R.ok ([] : List D)) c >>= fun ds => R.ok (d :: ds))) c >>= fun d => (fun (_ : Cells) => R.ok ([] : List D)) c >>= fun ds => R.ok (d :: ds)) c >>= fun ds => R.ok (d :: ds)) c >>= fun ds => R.ok (d :: ds))) c >>= fun d => (fun (_ : Cells) => R.ok ([] : List D)) c >>= fun ds => R.ok (d :: ds))) (rdB 10)) c >>= asB)) (appS 8 (fun (c : Cells) => (fun (c : Cells) => (rdV 10) c >>= fun d => (fun (c : Cells) => (rdV 11) c >>= fun d => (fun (c : Cells) => (rdV 13) c >>= fun d => (fun (_ : Cells) => R.ok ([] : List D)) c >>= fun ds => R.ok (d :: ds)) c >>= fun ds => R.ok (d :: ds)) c >>= fun ds => R.ok (d :: ds)) c >>= mkTup))
    (fun (c : Cells) => R.ok (Out.nx c)))
    (ifS (andT (fun (c : Cells) => (lift2 oIsNot (rdB 13) (fun (_ : Cells) => R.ok D.none)) c >>= asB) (fun (c : Cells) => (lift2 oNe (fun (c : Cells) => (fun (c : Cells) => (compV [15, 16] (fun (c : Cells) => (callD 4 m_beside (fun (c : Cells) => (rdV 3) c >>= fun d => (fun (c : Cells) => (rdV 4) c >>= fun d => (fun (c : Cells) => (rdV 10) c >>= fun d => (fun (c : Cells) => (rdV 11) c >>= fun d => (fun (_ : Cells) => R.ok ([] : List D)) c >>= fun ds => R.ok (d :: ds)) c >>= fun ds => R.ok (d :: ds)) c >>= fun ds => R.ok (d :: ds)) c >>= fun ds => R.ok (d :: ds))) c >>= asIt) (gT 2 (gsCons (gN 15) (gsCons (gN 16) gsNil))) (fun (_ : Cells) => R.ok true) (e_law_2 m__law_draws m__law_drawn m__law_shown m__law_cells m__law_beside m__law_most m_steps_to m__law_other_way m_beside m_not_back m_there_windows)) c >>= fun d => (fun (_ : Cells) => R.ok ([] : List D)) c >>= fun ds => R.ok (d :: ds)) c >>= oMax) (lift2 itemOf (fun (c : Cells) => (fun (c : Cells) => (rdB 12) c >>= fun d => (fun (_ : Cells) => R.ok ([] : List D)) c >>= fun ds => R.ok (d :: ds)) c >>= oDict) (rdB 13))) c >>= asB)) (fun (c : Cells) => (fun (_ : Cells) => R.ok (D.bool false)) c >>= fun d => R.ok (Out.rt d))
    (fun (c : Cells) => R.ok (Out.nx c))))))))
def b_law_2 (m__law_draws : List D → R D) (m__law_drawn : List D → R D) (m__law_shown : List D → R D) (m__law_cells : List D → R D) (m__law_beside : List D → R D) (m__law_most : List D → R D) (m_steps_to : List D → R D) (m__law_other_way : List D → R D) (m_beside : List D → R D) (m_not_back : List D → R D) (m_there_windows : List D → R D) : Cells → R Out :=
    (forS (fun (c : Cells) => (fun (c : Cells) => (fun (c : Cells) => (fun (_ : Cells) => R.ok (D.str "down")) c >>= fun d => (fun (c : Cells) => (fun (_ : Cells) => R.ok (D.str "left")) c >>= fun d => (fun (c : Cells) => (fun (_ : Cells) => R.ok (D.str "right")) c >>= fun d => (fun (c : Cells) => (fun (_ : Cells) => R.ok (D.str "up")) c >>= fun d => (fun (_ : Cells) => R.ok ([] : List D)) c >>= fun ds => R.ok (d :: ds)) c >>= fun ds => R.ok (d :: ds)) c >>= fun ds => R.ok (d :: ds)) c >>= fun ds => R.ok (d :: ds)) c >>= mkLst) c >>= asIt) (gN 11)
    (b_law_1 m__law_draws m__law_drawn m__law_shown m__law_cells m__law_beside m__law_most m_steps_to m__law_other_way m_beside m_not_back m_there_windows))
def b_law_3 (m__law_draws : List D → R D) (m__law_drawn : List D → R D) (m__law_shown : List D → R D) (m__law_cells : List D → R D) (m__law_beside : List D → R D) (m__law_most : List D → R D) (m_steps_to : List D → R D) (m__law_other_way : List D → R D) (m_beside : List D → R D) (m_not_back : List D → R D) (m_there_windows : List D → R D) : Cells → R Out :=
    (thenS (fun (c : Cells) => (callD 2 m__law_drawn (fun (c : Cells) => (rdV 1) c >>= fun d => (fun (c : Cells) => (rdV 2) c >>= fun d => (fun (_ : Cells) => R.ok ([] : List D)) c >>= fun ds => R.ok (d :: ds)) c >>= fun ds => R.ok (d :: ds))) c >>= fun d => ofO ((gT 2 (gsCons (gN 3) (gsCons (gN 4) gsNil))) d c))
    (thenS (fun (c : Cells) => (callD 2 m__law_shown (fun (c : Cells) => (rdV 3) c >>= fun d => (fun (c : Cells) => (rdV 4) c >>= fun d => (fun (_ : Cells) => R.ok ([] : List D)) c >>= fun ds => R.ok (d :: ds)) c >>= fun ds => R.ok (d :: ds))) c >>= fun d => R.ok (Out.nx (c.set 5 (Cell.fz d))))
    (thenS (parS [6, 7, 8, 9] (fun (c : Cells) => (callD 1 m__law_cells (fun (c : Cells) => (rdV 5) c >>= fun d => (fun (_ : Cells) => R.ok ([] : List D)) c >>= fun ds => R.ok (d :: ds))) c >>= fun d => (fun (c : Cells) => (fun (c : Cells) => (fun (c : Cells) => (compV [14] (fun (c : Cells) => (rdV 5) c >>= asIt) (gN 14) (fun (_ : Cells) => R.ok true) (e_law_1 m__law_draws m__law_drawn m__law_shown m__law_cells m__law_beside m__law_most m_steps_to m__law_other_way m_beside m_not_back m_there_windows)) c >>= fun d => (fun (_ : Cells) => R.ok ([] : List D)) c >>= fun ds => R.ok (d :: ds)) c >>= oSorted) c >>= fun d => (fun (c : Cells) => (fun (c : Cells) => (fun (_ : Cells) => R.ok ([] : List D)) c >>= mkLst) c >>= fun d => (fun (c : Cells) => (fun (_ : Cells) => R.ok (D.bool true)) c >>= fun d => (fun (_ : Cells) => R.ok ([] : List Cell)) c >>= fun ds => R.ok (Cell.fz d :: ds)) c >>= fun ds => R.ok (Cell.ow d :: ds)) c >>= fun ds => R.ok (Cell.fz d :: ds)) c >>= fun ds => R.ok (Cell.fz d :: ds)))
    (thenS (forS (fun (c : Cells) => (rdV 7) c >>= asIt) (gN 10)
    (b_law_2 m__law_draws m__law_drawn m__law_shown m__law_cells m__law_beside m__law_most m_steps_to m__law_other_way m_beside m_not_back m_there_windows))
    (ifS (orT (fun (c : Cells) => (lift2 oNe (callD 2 m_not_back (fun (c : Cells) => (rdV 3) c >>= fun d => (fun (c : Cells) => (rdV 4) c >>= fun d => (fun (_ : Cells) => R.ok ([] : List D)) c >>= fun ds => R.ok (d :: ds)) c >>= fun ds => R.ok (d :: ds))) (fun (c : Cells) => (fun (c : Cells) => (rdB 8) c >>= fun d => (fun (_ : Cells) => R.ok ([] : List D)) c >>= fun ds => R.ok (d :: ds)) c >>= oTuple)) c >>= asB) (orT (andT (fun (c : Cells) => (rdV 9) c >>= asB) (fun (c : Cells) => (lift2 oGt (fun (c : Cells) => (fun (c : Cells) => (rdB 8) c >>= fun d => (fun (_ : Cells) => R.ok ([] : List D)) c >>= fun ds => R.ok (d :: ds)) c >>= oLen) (fun (_ : Cells) => R.ok (D.int 0))) c >>= asB)) (fun (c : Cells) => (lift2 oNe (callD 2 m_there_windows (fun (c : Cells) => (rdV 3) c >>= fun d => (fun (c : Cells) => (rdV 4) c >>= fun d => (fun (_ : Cells) => R.ok ([] : List D)) c >>= fun ds => R.ok (d :: ds)) c >>= fun ds => R.ok (d :: ds))) (fun (c : Cells) => (fun (c : Cells) => (rdB 7) c >>= fun d => (fun (_ : Cells) => R.ok ([] : List D)) c >>= fun ds => R.ok (d :: ds)) c >>= oTuple)) c >>= asB))) (fun (c : Cells) => (fun (_ : Cells) => R.ok (D.bool false)) c >>= fun d => R.ok (Out.rt d))
    (fun (c : Cells) => R.ok (Out.nx c)))))))
def f_law (m__law_draws : List D → R D) (m__law_drawn : List D → R D) (m__law_shown : List D → R D) (m__law_cells : List D → R D) (m__law_beside : List D → R D) (m__law_most : List D → R D) (m_steps_to : List D → R D) (m__law_other_way : List D → R D) (m_beside : List D → R D) (m_not_back : List D → R D) (m_there_windows : List D → R D) : Cells → R Out :=
    (thenS (fun (c : Cells) => (callD 2 m__law_draws (fun (c : Cells) => (rdV 0) c >>= fun d => (fun (c : Cells) => (fun (_ : Cells) => R.ok (D.int 60)) c >>= fun d => (fun (_ : Cells) => R.ok ([] : List D)) c >>= fun ds => R.ok (d :: ds)) c >>= fun ds => R.ok (d :: ds))) c >>= fun d => R.ok (Out.nx (c.set 1 (Cell.fz d))))
    (thenS (forS (fun (c : Cells) => (fun (c : Cells) => (fun (_ : Cells) => R.ok (D.int 6)) c >>= fun d => (fun (_ : Cells) => R.ok ([] : List D)) c >>= fun ds => R.ok (d :: ds)) c >>= rng1) (gN 2)
    (b_law_3 m__law_draws m__law_drawn m__law_shown m__law_cells m__law_beside m__law_most m_steps_to m__law_other_way m_beside m_not_back m_there_windows))
    (thenS (fun (c : Cells) => (fun (c : Cells) => (fun (c : Cells) => (fun (_ : Cells) => R.ok (D.str "row")) c >>= fun d => (fun (c : Cells) => (fun (c : Cells) => (fun (c : Cells) => (fun (c : Cells) => (fun (c : Cells) => (fun (_ : Cells) => R.ok (D.int 1)) c >>= fun d => (fun (c : Cells) => (fun (c : Cells) => (fun (c : Cells) => (fun (_ : Cells) => R.ok (D.str "win")) c >>= fun d => (fun (c : Cells) => (fun (_ : Cells) => R.ok (D.str "a")) c >>= fun d => (fun (_ : Cells) => R.ok ([] : List D)) c >>= fun ds => R.ok (d :: ds)) c >>= fun ds => R.ok (d :: ds)) c >>= mkTup) c >>= fun d => (fun (_ : Cells) => R.ok ([] : List D)) c >>= fun ds => R.ok (d :: ds)) c >>= fun ds => R.ok (d :: ds)) c >>= mkTup) c >>= fun d => (fun (c : Cells) => (fun (c : Cells) => (fun (c : Cells) => (fun (_ : Cells) => R.ok (D.int 1)) c >>= fun d => (fun (c : Cells) => (fun (c : Cells) => (fun (c : Cells) => (fun (_ : Cells) => R.ok (D.str "col")) c >>= fun d => (fun (c : Cells) => (fun (c : Cells) => (fun (c : Cells) => (fun (c : Cells) => (fun (c : Cells) => (fun (_ : Cells) => R.ok (D.int 1)) c >>= fun d => (fun (c : Cells) => (fun (c : Cells) => (fun (c : Cells) => (fun (_ : Cells) => R.ok (D.str "win")) c >>= fun d => (fun (c : Cells) => (fun (_ : Cells) => R.ok (D.str "b")) c >>= fun d => (fun (_ : Cells) => R.ok ([] : List D)) c >>= fun ds => R.ok (d :: ds)) c >>= fun ds => R.ok (d :: ds)) c >>= mkTup) c >>= fun d => (fun (_ : Cells) => R.ok ([] : List D)) c >>= fun ds => R.ok (d :: ds)) c >>= fun ds => R.ok (d :: ds)) c >>= mkTup) c >>= fun d => (fun (c : Cells) => (fun (c : Cells) => (fun (c : Cells) => (fun (_ : Cells) => R.ok (D.int 1)) c >>= fun d => (fun (c : Cells) => (fun (c : Cells) => (fun (c : Cells) => (fun (_ : Cells) => R.ok (D.str "win")) c >>= fun d => (fun (c : Cells) => (fun (_ : Cells) => R.ok (D.str "c")) c >>= fun d => (fun (_ : Cells) => R.ok ([] : List D)) c >>= fun ds => R.ok (d :: ds)) c >>= fun ds => R.ok (d :: ds)) c >>= mkTup) c >>= fun d => (fun (_ : Cells) => R.ok ([] : List D)) c >>= fun ds => R.ok (d :: ds)) c >>= fun ds => R.ok (d :: ds)) c >>= mkTup) c >>= fun d => (fun (_ : Cells) => R.ok ([] : List D)) c >>= fun ds => R.ok (d :: ds)) c >>= fun ds => R.ok (d :: ds)) c >>= mkTup) c >>= fun d => (fun (_ : Cells) => R.ok ([] : List D)) c >>= fun ds => R.ok (d :: ds)) c >>= fun ds => R.ok (d :: ds)) c >>= mkTup) c >>= fun d => (fun (_ : Cells) => R.ok ([] : List D)) c >>= fun ds => R.ok (d :: ds)) c >>= fun ds => R.ok (d :: ds)) c >>= mkTup) c >>= fun d => (fun (_ : Cells) => R.ok ([] : List D)) c >>= fun ds => R.ok (d :: ds)) c >>= fun ds => R.ok (d :: ds)) c >>= mkTup) c >>= fun d => (fun (_ : Cells) => R.ok ([] : List D)) c >>= fun ds => R.ok (d :: ds)) c >>= fun ds => R.ok (d :: ds)) c >>= mkTup) c >>= fun d => R.ok (Out.nx (c.set 3 (Cell.fz d))))
    (thenS (fun (c : Cells) => (fun (c : Cells) => (fun (c : Cells) => (fun (_ : Cells) => R.ok (D.int 0)) c >>= fun d => (fun (c : Cells) => (fun (_ : Cells) => R.ok (D.int 0)) c >>= fun d => (fun (c : Cells) => (fun (_ : Cells) => R.ok (D.int 10)) c >>= fun d => (fun (c : Cells) => (fun (_ : Cells) => R.ok (D.int 10)) c >>= fun d => (fun (_ : Cells) => R.ok ([] : List D)) c >>= fun ds => R.ok (d :: ds)) c >>= fun ds => R.ok (d :: ds)) c >>= fun ds => R.ok (d :: ds)) c >>= fun ds => R.ok (d :: ds)) c >>= mkTup) c >>= fun d => R.ok (Out.nx (c.set 4 (Cell.fz d))))
    (fun (c : Cells) => (andV (lift2 oEq (callD 4 m_steps_to (fun (c : Cells) => (rdV 3) c >>= fun d => (fun (c : Cells) => (rdV 4) c >>= fun d => (fun (c : Cells) => (fun (_ : Cells) => R.ok (D.str "a")) c >>= fun d => (fun (c : Cells) => (fun (_ : Cells) => R.ok (D.str "right")) c >>= fun d => (fun (_ : Cells) => R.ok ([] : List D)) c >>= fun ds => R.ok (d :: ds)) c >>= fun ds => R.ok (d :: ds)) c >>= fun ds => R.ok (d :: ds)) c >>= fun ds => R.ok (d :: ds))) (fun (_ : Cells) => R.ok (D.str "b"))) (lift2 oEq (callD 2 m_not_back (fun (c : Cells) => (rdV 3) c >>= fun d => (fun (c : Cells) => (rdV 4) c >>= fun d => (fun (_ : Cells) => R.ok ([] : List D)) c >>= fun ds => R.ok (d :: ds)) c >>= fun ds => R.ok (d :: ds))) (fun (c : Cells) => (fun (c : Cells) => (fun (c : Cells) => (fun (c : Cells) => (fun (_ : Cells) => R.ok (D.str "c")) c >>= fun d => (fun (c : Cells) => (fun (_ : Cells) => R.ok (D.str "left")) c >>= fun d => (fun (c : Cells) => (fun (_ : Cells) => R.ok (D.str "a")) c >>= fun d => (fun (_ : Cells) => R.ok ([] : List D)) c >>= fun ds => R.ok (d :: ds)) c >>= fun ds => R.ok (d :: ds)) c >>= fun ds => R.ok (d :: ds)) c >>= mkTup) c >>= fun d => (fun (_ : Cells) => R.ok ([] : List D)) c >>= fun ds => R.ok (d :: ds)) c >>= mkTup))) c >>= fun d => R.ok (Out.rt d))))))
def a_law (m__law_draws : List D → R D) (m__law_drawn : List D → R D) (m__law_shown : List D → R D) (m__law_cells : List D → R D) (m__law_beside : List D → R D) (m__law_most : List D → R D) (m_steps_to : List D → R D) (m__law_other_way : List D → R D) (m_beside : List D → R D) (m_not_back : List D → R D) (m_there_windows : List D → R D) : List D → R D := fun ds => endR (f_law m__law_draws m__law_drawn m__law_shown m__law_cells m__law_beside m__law_most m_steps_to m__law_other_way m_beside m_not_back m_there_windows (cellsN ["script", "draws", "turn", "layout", "box", "boxes", "cells", "names", "found", "is_plain", "name", "side", "pairs", "other", "pair", "one", "many"] ds))
set_option maxHeartbeats 0 in
theorem fn_law {P : Program} {w : World} {K : PySem.W.Frag} {mg : Str → Option Value} {base : Heap} {k : Nat} {m__law_draws m__law_drawn m__law_shown m__law_cells m__law_beside m__law_most m_steps_to m__law_other_way m_beside m_not_back m_there_windows : List D → R D} {f : Addr} {fd : FuncData} (T : Top fa fn ts ex w K mg) (c__law_draws : Cal P w K mg base k "_law_draws" 2 m__law_draws) (c__law_drawn : Cal P w K mg base k "_law_drawn" 2 m__law_drawn) (c__law_shown : Cal P w K mg base k "_law_shown" 2 m__law_shown) (c__law_cells : Cal P w K mg base k "_law_cells" 1 m__law_cells) (c__law_beside : Cal P w K mg base k "_law_beside" 3 m__law_beside) (c__law_most : Cal P w K mg base k "_law_most" 1 m__law_most) (c_steps_to : Cal P w K mg base k "steps_to" 4 m_steps_to) (c__law_other_way : Cal P w K mg base k "_law_other_way" 1 m__law_other_way) (c_beside : Cal P w K mg base k "beside" 4 m_beside) (c_not_back : Cal P w K mg base k "not_back" 2 m_not_back) (c_there_windows : Cal P w K mg base k "there_windows" 2 m_there_windows)   (F : FunD K "law" "law" (defArgs (top 63)) (defBody (top 63)) (defScope (top 63)) [] [] f fd) : FnOk P w K mg base (L2.CX P w) (k + 1) f fd ["script"] (spOf K 1 (a_law m__law_draws m__law_drawn m__law_shown m__law_cells m__law_beside m__law_most m_steps_to m__law_other_way m_beside m_not_back m_there_windows)) :=
  fn_pl (ps := ["script"]) F sc_law (fun cdv A outer s H E hr =>
    (ess_cons (es_set 1 sc_law.nd rfl (.inl rfl) (.inl rfl) (ev_cal c__law_draws hr rfl (takes_of rfl rfl rfl rfl) (ea_cons (ev_name 0 rfl (.inl rfl) rfl rfl) (ea_cons ev_int ea_nil rfl) rfl) rfl rfl rfl) rfl)
    (ess_cons (es_for (passes_of rfl) rfl (ei_range1 rfl (T.free 33 rfl) (eab_cons (EB.of ev_int) eab_nil rfl) rfl) (eg_name 2 sc_law.nd rfl (.inl rfl) (.inl rfl))
    (ess_cons (es_asg (ev_cal c__law_drawn hr rfl (takes_of rfl rfl rfl rfl) (ea_cons (ev_name 1 rfl (.inl rfl) rfl rfl) (ea_cons (ev_name 2 rfl (.inl rfl) rfl rfl) ea_nil rfl) rfl) rfl rfl rfl) (eg_tup rfl (egs_cons (eg_name 3 sc_law.nd rfl (.inl rfl) (.inl rfl)) (egs_cons (eg_name 4 sc_law.nd rfl (.inl rfl) (.inl rfl)) egs_nil rfl) rfl) rfl rfl) rfl rfl rfl)
    (ess_cons (es_set 5 sc_law.nd rfl (.inl rfl) (.inl rfl) (ev_cal c__law_shown hr rfl (takes_of rfl rfl rfl rfl) (ea_cons (ev_name 3 rfl (.inl rfl) rfl rfl) (ea_cons (ev_name 4 rfl (.inl rfl) rfl rfl) ea_nil rfl) rfl) rfl rfl rfl) rfl)
    (ess_cons (es_parN (n := 0) [6, 7, 8, 9] rfl sc_law.nd (Slots.cons rfl (.inl rfl) (.inl rfl) rfl (Slots.cons rfl (.inl rfl) (.inl rfl) rfl (Slots.cons rfl (.inl rfl) (.inl rfl) rfl (Slots.cons rfl (.inl rfl) (.inl rfl) rfl Slots.nil)))) (eac_fz (ev_cal c__law_cells hr rfl (takes_of rfl rfl rfl rfl) (ea_cons (ev_name 5 rfl (.inl rfl) rfl rfl) ea_nil rfl) rfl rfl rfl) (eac_fz (eb_sortedF rfl hr.units rfl (T.free 38 rfl) (eab_cons (EB.ofL (el_lc (own := [("pair", 14)]) rfl sc_law.nd (blkOk_by (by kernel_rfl)) (ei_any (ev_name 5 rfl (.inl rfl) rfl rfl)) (fun _ _ _ _ _ => (eg_name 14 sc_law.nd rfl (.inl rfl) (.inr rfl))) (fun _ _ _ _ _ => ets_nil) (fun _ _ _ _ _ => (ev_item hr.units (eb_name 14 rfl (.inl rfl) rfl rfl) (EB.of ev_int) (fun _ _ => rfl))) (by decide) (fun _ => rfl))) eab_nil rfl) rfl rfl) (eac_ow (el_lst ea_nil) (eac_fz ev_bl eac_nil rfl) rfl) rfl) rfl) rfl rfl rfl rfl rfl (by decide))
    (ess_cons (es_for (passes_of rfl) rfl (ei_any (ev_name 7 rfl (.inl rfl) rfl rfl)) (eg_name 10 sc_law.nd rfl (.inl rfl) (.inl rfl))
    (ess_one (es_for (passes_of rfl) rfl (ei_any (EV.ofL (el_lst (ea_cons ev_str (ea_cons ev_str (ea_cons ev_str (ea_cons ev_str ea_nil rfl) rfl) rfl) rfl)))) (eg_name 11 sc_law.nd rfl (.inl rfl) (.inl rfl))
    (ess_cons (es_set 12 sc_law.nd rfl (.inl rfl) (.inl rfl) (ev_cal c__law_beside hr rfl (takes_of rfl rfl rfl rfl) (ea_cons (ev_name 6 rfl (.inl rfl) rfl rfl) (ea_cons (ev_name 10 rfl (.inl rfl) rfl rfl) (ea_cons (ev_name 11 rfl (.inl rfl) rfl rfl) ea_nil rfl) rfl) rfl) rfl rfl rfl) rfl)
    (ess_cons (es_set 13 sc_law.nd rfl (.inl rfl) (.inl rfl) (ev_cal c__law_most hr rfl (takes_of rfl rfl rfl rfl) (ea_cons (ev_name 12 rfl (.inl rfl) rfl rfl) ea_nil rfl) rfl rfl rfl) rfl)
    (ess_cons (es_set 9 sc_law.nd rfl (.inl rfl) (.inl rfl) (ev_and (ev_name 9 rfl (.inl rfl) rfl rfl) (ev_one (ev_cmp op_ltAll does_lt (EB.of (eb_lenF rfl hr.units rfl (T.free 5 rfl) (eab_cons (eb_name 12 rfl (.inl rfl) rfl rfl) eab_nil rfl) rfl rfl)) (EB.of ev_int) rfl))) rfl)
    (ess_cons (es_if (et_cmp (op_neD hr.units) does_ne (EB.of (ev_cal c_steps_to hr rfl (takes_of rfl rfl rfl rfl) (ea_cons (ev_name 3 rfl (.inl rfl) rfl rfl) (ea_cons (ev_name 4 rfl (.inl rfl) rfl rfl) (ea_cons (ev_name 10 rfl (.inl rfl) rfl rfl) (ea_cons (ev_name 11 rfl (.inl rfl) rfl rfl) ea_nil rfl) rfl) rfl) rfl) rfl rfl rfl)) (eb_name 13 rfl (.inl rfl) rfl rfl) rfl) (ess_one (es_ret ev_bl))
    ess_nil)
    (ess_cons (es_if (et_w (ew_and (et_cmp op_notN does_isNot (eb_name 13 rfl (.inl rfl) rfl rfl) (EB.of ev_non) rfl) (ew_and1 (et_cmp (op_neD hr.units) does_ne (EB.of (ev_cal c__law_most hr rfl (takes_of rfl rfl rfl rfl) (ea_cons (ev_cal c__law_beside hr rfl (takes_of rfl rfl rfl rfl) (ea_cons (ev_name 6 rfl (.inl rfl) rfl rfl) (ea_cons (ev_name 13 rfl (.inl rfl) rfl rfl) (ea_cons (ev_cal c__law_other_way hr rfl (takes_of rfl rfl rfl rfl) (ea_cons (ev_name 11 rfl (.inl rfl) rfl rfl) ea_nil rfl) rfl rfl rfl) ea_nil rfl) rfl) rfl) rfl rfl rfl) ea_nil rfl) rfl rfl rfl)) (eb_name 10 rfl (.inl rfl) rfl rfl) rfl)))) (ess_one (es_append 8 rfl (.inl rfl) rfl rfl (ev_tup (ea_cons (ev_name 10 rfl (.inl rfl) rfl rfl) (ea_cons (ev_name 11 rfl (.inl rfl) rfl rfl) (ea_cons (ev_name 13 rfl (.inl rfl) rfl rfl) ea_nil rfl) rfl) rfl)) rfl rfl rfl rfl rfl))
    ess_nil)
    (ess_one (es_if (et_w (ew_and (et_cmp op_notN does_isNot (eb_name 13 rfl (.inl rfl) rfl rfl) (EB.of ev_non) rfl) (ew_and1 (et_cmp (op_neD hr.units) does_ne (EB.of (eb_maxF rfl hr.units rfl (T.free 49 rfl) (eab_cons (EB.ofL (el_lc (own := [("one", 15), ("many", 16)]) rfl sc_law.nd (blkOk_by (by kernel_rfl)) (ei_any (ev_cal c_beside hr rfl (takes_of rfl rfl rfl rfl) (ea_cons (ev_name 3 rfl (.inl rfl) rfl rfl) (ea_cons (ev_name 4 rfl (.inl rfl) rfl rfl) (ea_cons (ev_name 10 rfl (.inl rfl) rfl rfl) (ea_cons (ev_name 11 rfl (.inl rfl) rfl rfl) ea_nil rfl) rfl) rfl) rfl) rfl rfl rfl)) (fun _ _ _ _ _ => (eg_tup rfl (egs_cons (eg_name 15 sc_law.nd rfl (.inl rfl) (.inr rfl)) (egs_cons (eg_name 16 sc_law.nd rfl (.inl rfl) (.inr rfl)) egs_nil rfl) rfl) rfl rfl)) (fun _ _ _ _ _ => ets_nil) (fun _ _ _ _ _ => (ev_name 16 rfl (.inl rfl) rfl rfl)) (by decide) (fun _ => rfl))) eab_nil rfl) rfl rfl)) (EB.of (ev_item hr.units (EB.of (eb_dictF rfl hr.units rfl (T.free 82 rfl) (eab_cons (eb_name 12 rfl (.inl rfl) rfl rfl) eab_nil rfl) rfl rfl)) (eb_name 13 rfl (.inl rfl) rfl rfl) (fun _ _ => rfl))) rfl)))) (ess_one (es_ret ev_bl))
    ess_nil))))))) (fun _ => rfl))) (fun _ => rfl))
    (ess_one (es_if (et_w (ew_or (et_cmp (op_neD hr.units) does_ne (EB.of (ev_cal c_not_back hr rfl (takes_of rfl rfl rfl rfl) (ea_cons (ev_name 3 rfl (.inl rfl) rfl rfl) (ea_cons (ev_name 4 rfl (.inl rfl) rfl rfl) ea_nil rfl) rfl) rfl rfl rfl)) (EB.of (eb_tupleF rfl hr.units rfl (T.free 10 rfl) (eab_cons (eb_name 8 rfl (.inl rfl) rfl rfl) eab_nil rfl) rfl rfl)) rfl) (ew_or (et_w (ew_and (et_val (ev_name 9 rfl (.inl rfl) rfl rfl) (fun _ => rfl)) (ew_and1 (et_cmp op_gt does_cmp (EB.of (eb_lenF rfl hr.units rfl (T.free 5 rfl) (eab_cons (eb_name 8 rfl (.inl rfl) rfl rfl) eab_nil rfl) rfl rfl)) (EB.of ev_int) rfl)))) (ew_or1 (et_cmp (op_neD hr.units) does_ne (EB.of (ev_cal c_there_windows hr rfl (takes_of rfl rfl rfl rfl) (ea_cons (ev_name 3 rfl (.inl rfl) rfl rfl) (ea_cons (ev_name 4 rfl (.inl rfl) rfl rfl) ea_nil rfl) rfl) rfl rfl rfl)) (EB.of (eb_tupleF rfl hr.units rfl (T.free 10 rfl) (eab_cons (eb_name 7 rfl (.inl rfl) rfl rfl) eab_nil rfl) rfl rfl)) rfl))))) (ess_one (es_ret ev_bl))
    ess_nil)))))) (fun _ => rfl))
    (ess_cons (es_set 3 sc_law.nd rfl (.inl rfl) (.inl rfl) (ev_tup (ea_cons ev_str (ea_cons (ev_tup (ea_cons (ev_tup (ea_cons ev_int (ea_cons (ev_tup (ea_cons ev_str (ea_cons ev_str ea_nil rfl) rfl)) ea_nil rfl) rfl)) (ea_cons (ev_tup (ea_cons ev_int (ea_cons (ev_tup (ea_cons ev_str (ea_cons (ev_tup (ea_cons (ev_tup (ea_cons ev_int (ea_cons (ev_tup (ea_cons ev_str (ea_cons ev_str ea_nil rfl) rfl)) ea_nil rfl) rfl)) (ea_cons (ev_tup (ea_cons ev_int (ea_cons (ev_tup (ea_cons ev_str (ea_cons ev_str ea_nil rfl) rfl)) ea_nil rfl) rfl)) ea_nil rfl) rfl)) ea_nil rfl) rfl)) ea_nil rfl) rfl)) ea_nil rfl) rfl)) ea_nil rfl) rfl)) rfl)
    (ess_cons (es_set 4 sc_law.nd rfl (.inl rfl) (.inl rfl) (ev_tup (ea_cons ev_int (ea_cons ev_int (ea_cons ev_int (ea_cons ev_int ea_nil rfl) rfl) rfl) rfl)) rfl)
    (ess_one (es_ret (ev_and (ev_cmp (op_eqD hr.units) does_eq (EB.of (ev_cal c_steps_to hr rfl (takes_of rfl rfl rfl rfl) (ea_cons (ev_name 3 rfl (.inl rfl) rfl rfl) (ea_cons (ev_name 4 rfl (.inl rfl) rfl rfl) (ea_cons ev_str (ea_cons ev_str ea_nil rfl) rfl) rfl) rfl) rfl rfl rfl)) (EB.of ev_str) rfl) (ev_one (ev_cmp (op_eqD hr.units) does_eq (EB.of (ev_cal c_not_back hr rfl (takes_of rfl rfl rfl rfl) (ea_cons (ev_name 3 rfl (.inl rfl) rfl rfl) (ea_cons (ev_name 4 rfl (.inl rfl) rfl rfl) ea_nil rfl) rfl) rfl rfl rfl)) (EB.of (ev_tup (ea_cons (ev_tup (ea_cons ev_str (ea_cons ev_str (ea_cons ev_str ea_nil rfl) rfl) rfl)) ea_nil rfl))) rfl))))))))))
def m__law_draws (K : PySem.W.Frag) : List D → R D := a__law_draws 
theorem c__law_draws {P : Program} {w : World} {K : PySem.W.Frag} {mg : Str → Option Value} {base : Heap} (T : Top fa fn ts ex w K mg) : Cal P w K mg base 1 "_law_draws" 2 (m__law_draws K) := k__law_draws (k := 0) T  
def m__law_at (K : PySem.W.Frag) : List D → R D := a__law_at 
theorem c__law_at {P : Program} {w : World} {K : PySem.W.Frag} {mg : Str → Option Value} {base : Heap} (T : Top fa fn ts ex w K mg) : Cal P w K mg base 1 "_law_at" 2 (m__law_at K) := k__law_at (k := 0) T  
def m__law_called (K : PySem.W.Frag) : List D → R D := a__law_called 
theorem c__law_called {P : Program} {w : World} {K : PySem.W.Frag} {mg : Str → Option Value} {base : Heap} (T : Top fa fn ts ex w K mg) : Cal P w K mg base 1 "_law_called" 1 (m__law_called K) := k__law_called (k := 0) T  
def r_law_tree (K : PySem.W.Frag) : Nat → (List D → R D)
  | 0 => fun _ => .bad
  | n + 1 => a__law_tree (m__law_at K) (m__law_called K) (r_law_tree K n)
def m__law_tree (K : PySem.W.Frag) : List D → R D := (r_law_tree K 20)
theorem z__law_tree {P : Program} {w : World} {K : PySem.W.Frag} {mg : Str → Option Value} {base : Heap} {k : Nat} (T : Top fa fn ts ex w K mg) : Cal P w K mg base k "_law_tree" 5 (fun _ => .bad) := by
  obtain ⟨fd, F⟩ := T.def_ 31 rfl
  exact cal_bad (st := (top 49)) (ps := ["draws", "at", "deep", "outer", "used"]) F (T.glo 72 rfl) (fun _ _ _ _ _ _ us hl => match us, hl with | [_, _, _, _, _], _ => rfl)
theorem cr_law_tree {P : Program} {w : World} {K : PySem.W.Frag} {mg : Str → Option Value} {base : Heap} (T : Top fa fn ts ex w K mg) : ∀ n : Nat, Cal P w K mg base (1 + n) "_law_tree" 5 (r_law_tree K n)
  | 0 => z__law_tree T
  | n + 1 => by
    have ih := cr_law_tree (P := P) (base := base) T n
    exact k__law_tree (k := 1 + n) T ((c__law_at T).mono (by omega)) ((c__law_called T).mono (by omega)) ih
theorem c__law_tree {P : Program} {w : World} {K : PySem.W.Frag} {mg : Str → Option Value} {base : Heap} (T : Top fa fn ts ex w K mg) : Cal P w K mg base 21 "_law_tree" 5 (m__law_tree K) := (cr_law_tree T 20)
def m__law_box (K : PySem.W.Frag) : List D → R D := a__law_box 
theorem c__law_box {P : Program} {w : World} {K : PySem.W.Frag} {mg : Str → Option Value} {base : Heap} (T : Top fa fn ts ex w K mg) : Cal P w K mg base 1 "_law_box" 1 (m__law_box K) := k__law_box (k := 0) T  
def m__law_drawn (K : PySem.W.Frag) : List D → R D := a__law_drawn (m__law_tree K) (m__law_box K)
theorem c__law_drawn {P : Program} {w : World} {K : PySem.W.Frag} {mg : Str → Option Value} {base : Heap} (T : Top fa fn ts ex w K mg) : Cal P w K mg base 22 "_law_drawn" 2 (m__law_drawn K) := k__law_drawn (k := 21) T ((c__law_tree T).mono (by decide)) ((c__law_box T).mono (by decide)) 
def m__law_sizes (K : PySem.W.Frag) : List D → R D := a__law_sizes 
theorem c__law_sizes {P : Program} {w : World} {K : PySem.W.Frag} {mg : Str → Option Value} {base : Heap} (T : Top fa fn ts ex w K mg) : Cal P w K mg base 1 "_law_sizes" 2 (m__law_sizes K) := k__law_sizes (k := 0) T  
def r_law_shown (K : PySem.W.Frag) : Nat → (List D → R D)
  | 0 => fun _ => .bad
  | n + 1 => a__law_shown (r_law_shown K n) (m__law_sizes K)
def m__law_shown (K : PySem.W.Frag) : List D → R D := (r_law_shown K 20)
theorem z__law_shown {P : Program} {w : World} {K : PySem.W.Frag} {mg : Str → Option Value} {base : Heap} {k : Nat} (T : Top fa fn ts ex w K mg) : Cal P w K mg base k "_law_shown" 2 (fun _ => .bad) := by
  obtain ⟨fd, F⟩ := T.def_ 34 rfl
  exact cal_bad (st := (top 56)) (ps := ["tree", "box"]) F (T.glo 75 rfl) (fun _ _ _ _ _ _ us hl => match us, hl with | [_, _], _ => rfl)
theorem cr_law_shown {P : Program} {w : World} {K : PySem.W.Frag} {mg : Str → Option Value} {base : Heap} (T : Top fa fn ts ex w K mg) : ∀ n : Nat, Cal P w K mg base (1 + n) "_law_shown" 2 (r_law_shown K n)
  | 0 => z__law_shown T
  | n + 1 => by
    have ih := cr_law_shown (P := P) (base := base) T n
    exact k__law_shown (k := 1 + n) T ih ((c__law_sizes T).mono (by omega))
theorem c__law_shown {P : Program} {w : World} {K : PySem.W.Frag} {mg : Str → Option Value} {base : Heap} (T : Top fa fn ts ex w K mg) : Cal P w K mg base 21 "_law_shown" 2 (m__law_shown K) := (cr_law_shown T 20)
def m__law_cells (K : PySem.W.Frag) : List D → R D := a__law_cells 
theorem c__law_cells {P : Program} {w : World} {K : PySem.W.Frag} {mg : Str → Option Value} {base : Heap} (T : Top fa fn ts ex w K mg) : Cal P w K mg base 1 "_law_cells" 1 (m__law_cells K) := k__law_cells (k := 0) T  
def m__law_next (K : PySem.W.Frag) : List D → R D := a__law_next 
theorem c__law_next {P : Program} {w : World} {K : PySem.W.Frag} {mg : Str → Option Value} {base : Heap} (T : Top fa fn ts ex w K mg) : Cal P w K mg base 1 "_law_next" 2 (m__law_next K) := k__law_next (k := 0) T  
def m__law_beside (K : PySem.W.Frag) : List D → R D := a__law_beside (m__law_next K)
theorem c__law_beside {P : Program} {w : World} {K : PySem.W.Frag} {mg : Str → Option Value} {base : Heap} (T : Top fa fn ts ex w K mg) : Cal P w K mg base 2 "_law_beside" 3 (m__law_beside K) := k__law_beside (k := 1) T ((c__law_next T).mono (by decide)) 
def m__law_most (K : PySem.W.Frag) : List D → R D := a__law_most 
theorem c__law_most {P : Program} {w : World} {K : PySem.W.Frag} {mg : Str → Option Value} {base : Heap} (T : Top fa fn ts ex w K mg) : Cal P w K mg base 1 "_law_most" 1 (m__law_most K) := k__law_most (k := 0) T  
def m_check_name (K : PySem.W.Frag) : List D → R D := a_check_name K
theorem c_check_name {P : Program} {w : World} {K : PySem.W.Frag} {mg : Str → Option Value} {base : Heap} (T : Top fa fn ts ex w K mg) : Cal P w K mg base 1 "check_name" 2 (m_check_name K) := k_check_name (k := 0) T  
def m_check_way (K : PySem.W.Frag) : List D → R D := a_check_way K
theorem c_check_way {P : Program} {w : World} {K : PySem.W.Frag} {mg : Str → Option Value} {base : Heap} (T : Top fa fn ts ex w K mg) : Cal P w K mg base 1 "check_way" 1 (m_check_way K) := k_check_way (k := 0) T  
def m_most_shared (K : PySem.W.Frag) : List D → R D := a_most_shared 
theorem c_most_shared {P : Program} {w : World} {K : PySem.W.Frag} {mg : Str → Option Value} {base : Heap} (T : Top fa fn ts ex w K mg) : Cal P w K mg base 1 "most_shared" 1 (m_most_shared K) := k_most_shared (k := 0) T  
def m_edge (K : PySem.W.Frag) : List D → R D := a_edge K
theorem c_edge {P : Program} {w : World} {K : PySem.W.Frag} {mg : Str → Option Value} {base : Heap} (T : Top fa fn ts ex w K mg) : Met P w K mg base 1 (He.ga K "Sides") "edge" 3 (m_edge K) := k_edge (k := 0) T  
def m_shared (K : PySem.W.Frag) : List D → R D := a_shared K
theorem c_shared {P : Program} {w : World} {K : PySem.W.Frag} {mg : Str → Option Value} {base : Heap} (T : Top fa fn ts ex w K mg) : Met P w K mg base 1 (He.ga K "Sides") "shared" 4 (m_shared K) := k_shared (k := 0) T  
def m_at_edge (K : PySem.W.Frag) : List D → R D := a_at_edge K (m_edge K) (m_shared K)
theorem c_at_edge {P : Program} {w : World} {K : PySem.W.Frag} {mg : Str → Option Value} {base : Heap} (T : Top fa fn ts ex w K mg) : Met P w K mg base 2 (He.ga K "Sides") "at_edge" 4 (m_at_edge K) := k_at_edge (k := 1) T ((c_edge T).mono (by decide)) ((c_shared T).mono (by decide)) 
def m_Me_beside (K : PySem.W.Frag) : List D → R D := a_Me_beside K (m_at_edge K) (m_edge K)
theorem c_Me_beside {P : Program} {w : World} {K : PySem.W.Frag} {mg : Str → Option Value} {base : Heap} (T : Top fa fn ts ex w K mg) : Met P w K mg base 3 (He.ga K "Sides") "beside" 3 (m_Me_beside K) := k_Me_beside (k := 2) T ((c_at_edge T).mono (by decide)) ((c_edge T).mono (by decide)) 
def m_step (K : PySem.W.Frag) : List D → R D := a_step K (m_most_shared K) (m_Me_beside K)
theorem c_step {P : Program} {w : World} {K : PySem.W.Frag} {mg : Str → Option Value} {base : Heap} (T : Top fa fn ts ex w K mg) : Met P w K mg base 4 (He.ga K "Sides") "step" 3 (m_step K) := k_step (k := 3) T ((c_most_shared T).mono (by decide)) ((c_Me_beside T).mono (by decide)) 
def m_is_name (K : PySem.W.Frag) : List D → R D := a_is_name 
theorem c_is_name {P : Program} {w : World} {K : PySem.W.Frag} {mg : Str → Option Value} {base : Heap} (T : Top fa fn ts ex w K mg) : Cal P w K mg base 1 "is_name" 1 (m_is_name K) := k_is_name (k := 0) T  
def m_is_whole (K : PySem.W.Frag) : List D → R D := a_is_whole 
theorem c_is_whole {P : Program} {w : World} {K : PySem.W.Frag} {mg : Str → Option Value} {base : Heap} (T : Top fa fn ts ex w K mg) : Cal P w K mg base 1 "is_whole" 3 (m_is_whole K) := k_is_whole (k := 0) T  
def r_is_tree_is_part (K : PySem.W.Frag) : Nat → (List D → R D) × (List D → R D)
  | 0 => (fun _ => .bad, fun _ => .bad)
  | n + 1 => (a__is_tree (m_is_name K) ((r_is_tree_is_part K n).2) (m_is_whole K) ((r_is_tree_is_part K n).1), a__is_part (m_is_whole K) ((r_is_tree_is_part K n).1))
def m__is_tree (K : PySem.W.Frag) : List D → R D := ((r_is_tree_is_part K 20).1)
theorem z__is_tree {P : Program} {w : World} {K : PySem.W.Frag} {mg : Str → Option Value} {base : Heap} {k : Nat} (T : Top fa fn ts ex w K mg) : Cal P w K mg base k "_is_tree" 2 (fun _ => .bad) := by
  obtain ⟨fd, F⟩ := T.def_ 3 rfl
  exact cal_bad (st := (top 19)) (ps := ["value", "room"]) F (T.glo 17 rfl) (fun _ _ _ _ _ _ us hl => match us, hl with | [_, _], _ => rfl)
def m__is_part (K : PySem.W.Frag) : List D → R D := ((r_is_tree_is_part K 20).2)
theorem z__is_part {P : Program} {w : World} {K : PySem.W.Frag} {mg : Str → Option Value} {base : Heap} {k : Nat} (T : Top fa fn ts ex w K mg) : Cal P w K mg base k "_is_part" 3 (fun _ => .bad) := by
  obtain ⟨fd, F⟩ := T.def_ 2 rfl
  exact cal_bad (st := (top 18)) (ps := ["value", "kind", "room"]) F (T.glo 12 rfl) (fun _ _ _ _ _ _ us hl => match us, hl with | [_, _, _], _ => rfl)
theorem cr_is_tree_is_part {P : Program} {w : World} {K : PySem.W.Frag} {mg : Str → Option Value} {base : Heap} (T : Top fa fn ts ex w K mg) : ∀ n : Nat, Cal P w K mg base (1 + n) "_is_tree" 2 ((r_is_tree_is_part K n).1) ∧ Cal P w K mg base (1 + n) "_is_part" 3 ((r_is_tree_is_part K n).2)
  | 0 => ⟨z__is_tree T, z__is_part T⟩
  | n + 1 => by
    have ih := cr_is_tree_is_part (P := P) (base := base) T n
    exact ⟨k__is_tree (k := 1 + n) T ((c_is_name T).mono (by omega)) ih.2 ((c_is_whole T).mono (by omega)) ih.1, k__is_part (k := 1 + n) T ((c_is_whole T).mono (by omega)) ih.1⟩
theorem c__is_tree {P : Program} {w : World} {K : PySem.W.Frag} {mg : Str → Option Value} {base : Heap} (T : Top fa fn ts ex w K mg) : Cal P w K mg base 21 "_is_tree" 2 (m__is_tree K) := (cr_is_tree_is_part T 20).1
theorem c__is_part {P : Program} {w : World} {K : PySem.W.Frag} {mg : Str → Option Value} {base : Heap} (T : Top fa fn ts ex w K mg) : Cal P w K mg base 21 "_is_part" 3 (m__is_part K) := (cr_is_tree_is_part T 20).2
def m_inner_trees (K : PySem.W.Frag) : List D → R D := a_inner_trees 
theorem c_inner_trees {P : Program} {w : World} {K : PySem.W.Frag} {mg : Str → Option Value} {base : Heap} (T : Top fa fn ts ex w K mg) : Cal P w K mg base 1 "inner_trees" 1 (m_inner_trees K) := k_inner_trees (k := 0) T  
def r_names_of (K : PySem.W.Frag) : Nat → (List D → R D)
  | 0 => fun _ => .bad
  | n + 1 => a_names_of (m_inner_trees K) (r_names_of K n)
def m_names_of (K : PySem.W.Frag) : List D → R D := (r_names_of K 20)
theorem z_names_of {P : Program} {w : World} {K : PySem.W.Frag} {mg : Str → Option Value} {base : Heap} {k : Nat} (T : Top fa fn ts ex w K mg) : Cal P w K mg base k "names_of" 1 (fun _ => .bad) := by
  obtain ⟨fd, F⟩ := T.def_ 5 rfl
  exact cal_bad (st := (top 21)) (ps := ["tree"]) F (T.glo 20 rfl) (fun _ _ _ _ _ _ us hl => match us, hl with | [_], _ => rfl)
theorem cr_names_of {P : Program} {w : World} {K : PySem.W.Frag} {mg : Str → Option Value} {base : Heap} (T : Top fa fn ts ex w K mg) : ∀ n : Nat, Cal P w K mg base (1 + n) "names_of" 1 (r_names_of K n)
  | 0 => z_names_of T
  | n + 1 => by
    have ih := cr_names_of (P := P) (base := base) T n
    exact k_names_of (k := 1 + n) T ((c_inner_trees T).mono (by omega)) ih
theorem c_names_of {P : Program} {w : World} {K : PySem.W.Frag} {mg : Str → Option Value} {base : Heap} (T : Top fa fn ts ex w K mg) : Cal P w K mg base 21 "names_of" 1 (m_names_of K) := (cr_names_of T 20)
def m_is_layout (K : PySem.W.Frag) : List D → R D := a_is_layout (m__is_tree K) (m_names_of K)
theorem c_is_layout {P : Program} {w : World} {K : PySem.W.Frag} {mg : Str → Option Value} {base : Heap} (T : Top fa fn ts ex w K mg) : Cal P w K mg base 22 "is_layout" 1 (m_is_layout K) := k_is_layout (k := 21) T ((c__is_tree T).mono (by decide)) ((c_names_of T).mono (by decide)) 
def m_check_layout (K : PySem.W.Frag) : List D → R D := a_check_layout K (m_is_layout K)
theorem c_check_layout {P : Program} {w : World} {K : PySem.W.Frag} {mg : Str → Option Value} {base : Heap} (T : Top fa fn ts ex w K mg) : Cal P w K mg base 23 "check_layout" 1 (m_check_layout K) := k_check_layout (k := 22) T ((c_is_layout T).mono (by decide)) 
def m_is_box (K : PySem.W.Frag) : List D → R D := a_is_box (m_is_whole K)
theorem c_is_box {P : Program} {w : World} {K : PySem.W.Frag} {mg : Str → Option Value} {base : Heap} (T : Top fa fn ts ex w K mg) : Cal P w K mg base 2 "is_box" 1 (m_is_box K) := k_is_box (k := 1) T ((c_is_whole T).mono (by decide)) 
def m_check_box (K : PySem.W.Frag) : List D → R D := a_check_box K (m_check_layout K) (m_is_box K)
theorem c_check_box {P : Program} {w : World} {K : PySem.W.Frag} {mg : Str → Option Value} {base : Heap} (T : Top fa fn ts ex w K mg) : Cal P w K mg base 24 "check_box" 2 (m_check_box K) := k_check_box (k := 23) T ((c_check_layout T).mono (by decide)) ((c_is_box T).mono (by decide)) 
def m_sizes_of (K : PySem.W.Frag) : List D → R D := a_sizes_of 
theorem c_sizes_of {P : Program} {w : World} {K : PySem.W.Frag} {mg : Str → Option Value} {base : Heap} (T : Top fa fn ts ex w K mg) : Cal P w K mg base 1 "sizes_of" 2 (m_sizes_of K) := k_sizes_of (k := 0) T  
def m_inner_boxes (K : PySem.W.Frag) : List D → R D := a_inner_boxes (m_sizes_of K)
theorem c_inner_boxes {P : Program} {w : World} {K : PySem.W.Frag} {mg : Str → Option Value} {base : Heap} (T : Top fa fn ts ex w K mg) : Cal P w K mg base 2 "inner_boxes" 2 (m_inner_boxes K) := k_inner_boxes (k := 1) T ((c_sizes_of T).mono (by decide)) 
def r_placed (K : PySem.W.Frag) : Nat → (List D → R D)
  | 0 => fun _ => .bad
  | n + 1 => a__placed (m_inner_trees K) (m_inner_boxes K) (r_placed K n)
def m__placed (K : PySem.W.Frag) : List D → R D := (r_placed K 20)
theorem z__placed {P : Program} {w : World} {K : PySem.W.Frag} {mg : Str → Option Value} {base : Heap} {k : Nat} (T : Top fa fn ts ex w K mg) : Cal P w K mg base k "_placed" 2 (fun _ => .bad) := by
  obtain ⟨fd, F⟩ := T.def_ 12 rfl
  exact cal_bad (st := (top 30)) (ps := ["tree", "box"]) F (T.glo 37 rfl) (fun _ _ _ _ _ _ us hl => match us, hl with | [_, _], _ => rfl)
theorem cr_placed {P : Program} {w : World} {K : PySem.W.Frag} {mg : Str → Option Value} {base : Heap} (T : Top fa fn ts ex w K mg) : ∀ n : Nat, Cal P w K mg base (2 + n) "_placed" 2 (r_placed K n)
  | 0 => z__placed T
  | n + 1 => by
    have ih := cr_placed (P := P) (base := base) T n
    exact k__placed (k := 2 + n) T ((c_inner_trees T).mono (by omega)) ((c_inner_boxes T).mono (by omega)) ih
theorem c__placed {P : Program} {w : World} {K : PySem.W.Frag} {mg : Str → Option Value} {base : Heap} (T : Top fa fn ts ex w K mg) : Cal P w K mg base 22 "_placed" 2 (m__placed K) := (cr_placed T 20)
def m_placed (K : PySem.W.Frag) : List D → R D := a_placed (m_check_box K) (m__placed K)
theorem c_placed {P : Program} {w : World} {K : PySem.W.Frag} {mg : Str → Option Value} {base : Heap} (T : Top fa fn ts ex w K mg) : Cal P w K mg base 25 "placed" 2 (m_placed K) := k_placed (k := 24) T ((c_check_box T).mono (by decide)) ((c__placed T).mono (by decide)) 
def m_Sides (K : PySem.W.Frag) : List D → R (List (Str × D)) := a_Sides (m_placed K)
theorem c_Sides {P : Program} {w : World} {K : PySem.W.Frag} {mg : Str → Option Value} {base : Heap} (T : Top fa fn ts ex w K mg) : Mak P w K mg base 26 "Sides" (He.ga K "Sides") 2 (m_Sides K) := k_Sides (k := 25) T ((c_placed T).mono (by decide)) 
def m_steps_to (K : PySem.W.Frag) : List D → R D := a_steps_to K (m_check_name K) (m_check_way K) (m_step K) (m_Sides K)
theorem c_steps_to {P : Program} {w : World} {K : PySem.W.Frag} {mg : Str → Option Value} {base : Heap} (T : Top fa fn ts ex w K mg) : Cal P w K mg base 28 "steps_to" 4 (m_steps_to K) := k_steps_to (k := 26) T ((c_check_name T).mono (by decide)) ((c_check_way T).mono (by decide)) ((c_step T).mono (by decide)) ((c_Sides T).mono (by decide))
def m__law_other_way (K : PySem.W.Frag) : List D → R D := a__law_other_way 
theorem c__law_other_way {P : Program} {w : World} {K : PySem.W.Frag} {mg : Str → Option Value} {base : Heap} (T : Top fa fn ts ex w K mg) : Cal P w K mg base 1 "_law_other_way" 1 (m__law_other_way K) := k__law_other_way (k := 0) T  
def m_beside (K : PySem.W.Frag) : List D → R D := a_beside K (m_check_name K) (m_check_way K) (m_Me_beside K) (m_Sides K)
theorem c_beside {P : Program} {w : World} {K : PySem.W.Frag} {mg : Str → Option Value} {base : Heap} (T : Top fa fn ts ex w K mg) : Cal P w K mg base 28 "beside" 4 (m_beside K) := k_beside (k := 26) T ((c_check_name T).mono (by decide)) ((c_check_way T).mono (by decide)) ((c_Me_beside T).mono (by decide)) ((c_Sides T).mono (by decide))
def m_names (K : PySem.W.Frag) : List D → R D := a_names K
theorem c_names {P : Program} {w : World} {K : PySem.W.Frag} {mg : Str → Option Value} {base : Heap} (T : Top fa fn ts ex w K mg) : Met P w K mg base 1 (He.ga K "Sides") "names" 1 (m_names K) := k_names (k := 0) T  
def m_not_back (K : PySem.W.Frag) : List D → R D := a_not_back K (m_names K) (m_step K) (m_Sides K)
theorem c_not_back {P : Program} {w : World} {K : PySem.W.Frag} {mg : Str → Option Value} {base : Heap} (T : Top fa fn ts ex w K mg) : Cal P w K mg base 28 "not_back" 2 (m_not_back K) := k_not_back (k := 26) T ((c_names T).mono (by decide)) ((c_step T).mono (by decide)) ((c_Sides T).mono (by decide))
def m_there_windows (K : PySem.W.Frag) : List D → R D := a_there_windows K (m_names K) (m_Sides K)
theorem c_there_windows {P : Program} {w : World} {K : PySem.W.Frag} {mg : Str → Option Value} {base : Heap} (T : Top fa fn ts ex w K mg) : Cal P w K mg base 28 "there_windows" 2 (m_there_windows K) := k_there_windows (k := 26) T ((c_names T).mono (by decide)) ((c_Sides T).mono (by decide))
def m_law (K : PySem.W.Frag) : List D → R D := a_law (m__law_draws K) (m__law_drawn K) (m__law_shown K) (m__law_cells K) (m__law_beside K) (m__law_most K) (m_steps_to K) (m__law_other_way K) (m_beside K) (m_not_back K) (m_there_windows K)
theorem law_fn {P : Program} {w : World} {K : PySem.W.Frag} {mg : Str → Option Value} {base : Heap} {f : Addr} {fd : FuncData} (T : Top fa fn ts ex w K mg) (F : FunD K "law" "law" (defArgs (top 63)) (defBody (top 63)) (defScope (top 63)) [] [] f fd) : FnOk P w K mg base (L2.CX P w) 29 f fd ["script"] (spOf K 1 (m_law K)) := fn_law (k := 28) T ((c__law_draws T).mono (by decide)) ((c__law_drawn T).mono (by decide)) ((c__law_shown T).mono (by decide)) ((c__law_cells T).mono (by decide)) ((c__law_beside T).mono (by decide)) ((c__law_most T).mono (by decide)) ((c_steps_to T).mono (by decide)) ((c__law_other_way T).mono (by decide)) ((c_beside T).mono (by decide)) ((c_not_back T).mono (by decide)) ((c_there_windows T).mono (by decide))  F
end G58
end S30
noncomputable section S31
namespace G58
open PySem PySem.Spec PyProof.Rows L2 PL
variable (K : PySem.W.Frag)
theorem atI_cast {α : Type} (xs : List α) (k : Nat) : atI xs (k : Int) = xs[k]? := by
  by_cases h : k < xs.length
  · exact (atI_nat (List.getElem?_eq_getElem h)).trans (List.getElem?_eq_getElem h).symm
  · unfold atI ixN
    rw [if_pos (by omega), if_neg (by omega), List.getElem?_eq_none (by omega)]
    rfl
theorem atI_int {α : Type} (xs : List α) (i : Int) (h : 0 ≤ i) : atI xs i = xs[i.toNat]? := by
  obtain ⟨k, rfl⟩ := Int.eq_ofNat_of_zero_le h
  exact atI_cast xs k
theorem is_whole_int (v lo hi : Int) : m_is_whole K [.int v, .int lo, .int hi] = .ok (.bool (decide (lo ≤ v ∧ v ≤ hi))) := by
  unfold m_is_whole a_is_whole f_is_whole
  simp [cellsN, rdB, chainV]
  by_cases h : lo ≤ v
  · simp [h]
  · simp [h]
theorem law_at_eq (ds : List Int) (hl : ds.length = 60) (i : Nat) (hi0 : i < 1000000) : m__law_at K [.list (ds.map D.int), .int i] = .ok (.int ((ds.getD (i % 60) 0) / (1 + ((i / 60 : Nat) : Int)))) := by
  unfold m__law_at a__law_at f__law_at
  have e : ((i : Int) % 60) = ((i % 60 : Nat) : Int) := by omega
  have hi : i % 60 < ds.length := by omega
  simp [cellsN, rdB, hl, itemOf]
  rw [e, atI_cast, List.getElem?_map, List.getElem?_eq_getElem hi]
  have c : 0 < 1 + (i : Int) / 60 ∧ 1 + (i : Int) / 60 < 1073741824 := by omega
  simp [oDiv, c]
def names16 : List Str := ["m", "ab", "za", "aa", "c", "y", "b", "k", "xa", "o", "n", "abc", "h", "g", "f", "e"]
def names17 : List Str := "a" :: names16
theorem law_called_ok (k : Nat) (h : k < 16) : m__law_called K [.int k] = .ok (.str (names16.getD k "")) := by
  unfold m__law_called a__law_called f__law_called
  have hk : k < names16.length := h
  have e : (([D.str "m", D.str "ab", D.str "za", D.str "aa", D.str "c", D.str "y", D.str "b", D.str "k", D.str "xa", D.str "o", D.str "n", D.str "abc", D.str "h", D.str "g", D.str "f", D.str "e"] : List D)[k]?) = some (D.str names16[k]) := by
    show (names16.map D.str)[k]? = _
    rw [List.getElem?_map, List.getElem?_eq_getElem hk]; rfl
  simp [cellsN, rdB, itemOf, mkTup, lim, atI_cast]
  rw [e]
  simp [hk]
end G58
end S31
noncomputable section S32
namespace G58
open PySem PySem.Spec PyProof.Rows L2 PL
variable (K : PySem.W.Frag)
/-- the state of _law_draws' loops -/
structure Dr (n : Nat) (s0 : D) (ds : List Int) (seed : Int) (c : Cells) : Prop where
  c : ∃ x4 x5 x6, c = [.fz s0, .fz (.int 60), .ow (.list (ds.map D.int)), .fz (.int seed), x4, x5, x6]
  s : 0 ≤ seed ∧ seed < 2147483647
  p : ∀ d ∈ ds, 0 ≤ d
  l : ds.length ≤ n
theorem range_get {m i : Nat} {d : D} (h : (rangeD 0 m)[i]? = some d) : i < m ∧ d = .int i := by
  unfold rangeD at h
  rw [List.getElem?_map] at h
  obtain ⟨j, hj, rfl⟩ := Option.map_eq_some_iff.mp h
  obtain ⟨h1, h2⟩ := List.getElem?_eq_some_iff.mp hj
  rw [List.getElem_range] at h2
  subst h2
  exact ⟨by simpa using h1, by simp⟩
theorem range_len (m : Nat) : (rangeD 0 m).length = m := by unfold rangeD; simp
theorem cut_to {α : Type} (xs : List α) (k : Nat) : cut xs none (some (k : Int)) = xs.take k := by
  unfold cut
  rw [HT.sIx_none, HT.sIx_nat, List.drop_zero, Nat.sub_zero]
  by_cases h : k ≤ xs.length
  · rw [Nat.min_eq_left h]
  · rw [Nat.min_eq_right (by omega), List.take_length, List.take_of_length_le (by omega)]
theorem cut_from {α : Type} (xs : List α) (k : Nat) : cut xs (some (k : Int)) none = xs.drop k := by
  unfold cut
  rw [HT.sIx_none, HT.sIx_nat]
  by_cases h : k ≤ xs.length
  · rw [Nat.min_eq_left h, List.take_of_length_le (by rw [List.length_drop]; omega)]
  · rw [Nat.min_eq_right (by omega), Nat.sub_self, List.take_zero, List.drop_eq_nil_of_le (by omega)]
theorem draws_inner (n m : Nat) (hn : n + m < lim) (s0 : D) (ds : List Int) (seed num : Int) (x4 x6 : Cell) (hs : 0 ≤ seed ∧ seed < 2147483647) (hp : ∀ d ∈ ds, 0 ≤ d) (hl : ds.length ≤ n) :
    ∃ (c' : Cells) (ds' : List Int), loopD (gN 6) b__law_draws_1 (rangeD 0 m) [.fz s0, .fz (.int 60), .ow (.list (ds.map D.int)), .fz (.int seed), x4, .fz (.int num), x6] = .ok (.nx c') ∧ Dr (n + m) s0 ds' seed c' := by
  have step : ∀ (i : Nat) (d : D) (c : Cells), (rangeD 0 m)[i]? = some d → (∃ (ds : List Int) (num : Int) (x6 : Cell), c = [.fz s0, .fz (.int 60), .ow (.list (ds.map D.int)), .fz (.int seed), x4, .fz (.int num), x6] ∧ (∀ d ∈ ds, 0 ≤ d) ∧ ds.length ≤ n + (0 + i)) →
      ∃ c1, gN 6 d c = some c1 ∧ ∃ c2, (b__law_draws_1 c1 = .ok (.nx c2) ∨ b__law_draws_1 c1 = .ok (.ct c2)) ∧ ∃ (ds : List Int) (num : Int) (x6 : Cell), c2 = [.fz s0, .fz (.int 60), .ow (.list (ds.map D.int)), .fz (.int seed), x4, .fz (.int num), x6] ∧ (∀ d ∈ ds, 0 ≤ d) ∧ ds.length ≤ n + (0 + i + 1) := by
    intro i d c hd ⟨ds, num, x6, ec, hp, hl⟩
    subst ec
    obtain ⟨hi, rfl⟩ := range_get hd
    refine ⟨_, rfl, ?_⟩
    have hll : ds.length < lim := by omega
    by_cases hq : 0 < num
    · refine ⟨[.fz s0, .fz (.int 60), .ow (.list ((ds ++ [num % 1009]).map D.int)), .fz (.int seed), x4, .fz (.int (num / 1009)), .fz (.int i)], .inl ?_, ds ++ [num % 1009], num / 1009, _, rfl, ?_, ?_⟩
      · unfold b__law_draws_1
        simp [appS, rdB, hq, hll]
      · intro d hd
        rcases List.mem_append.mp hd with h | h
        · exact hp d h
        · rw [List.mem_singleton.mp h]; omega
      · simp; omega
    · refine ⟨[.fz s0, .fz (.int 60), .ow (.list (ds.map D.int)), .fz (.int seed), x4, .fz (.int num), .fz (.int i)], .inl ?_, ds, num, _, rfl, hp, by omega⟩
      unfold b__law_draws_1
      simp [rdB, hq]
  obtain ⟨c', e, ds', num', x6', ec, h1, h2⟩ := loop_inv (g := gN 6) (fb := b__law_draws_1) (fun j c => ∃ (ds : List Int) (num : Int) (x6 : Cell), c = [.fz s0, .fz (.int 60), .ow (.list (ds.map D.int)), .fz (.int seed), x4, .fz (.int num), x6] ∧ (∀ d ∈ ds, 0 ≤ d) ∧ ds.length ≤ n + j) (items := rangeD 0 m) 0 ⟨ds, num, x6, rfl, hp, hl⟩ step
  rw [range_len, Nat.zero_add] at h2
  exact ⟨c', ds', e, ⟨x4, _, x6', ec⟩, hs, h1, h2⟩
theorem draws_outer (n : Nat) (hn : n + 61 < lim) (s0 : D) (ds : List Int) (seed cell : Int) (c : Cells) (h : Dr n s0 ds seed c) : ∃ (c1 c' : Cells) (ds' : List Int) (seed' : Int), gN 4 (.int cell) c = some c1 ∧ b__law_draws_2 c1 = .ok (.nx c') ∧ Dr (n + 60) s0 ds' seed' c' := by
  obtain ⟨⟨x4, x5, x6, rfl⟩, hs, hp, hl⟩ := h
  let num : Int := if cell < 0 then -cell else cell
  have hnum : num = if cell < 0 then -cell else cell := rfl
  let sd : Int := (seed * 48271 + num + 11) % 2147483647
  have hsd : 0 ≤ sd ∧ sd < 2147483647 := ⟨Int.emod_nonneg _ (by decide), Int.emod_lt_of_pos _ (by decide)⟩
  have hbig : (48271 : Nat) ≤ big := by decide
  have hbig2 : (16807 : Nat) ≤ big := by decide
  by_cases hq : (1000000000000000000 : Int) ≤ num
  · obtain ⟨c', ds', e, hd⟩ := draws_inner n 60 (by omega) s0 ds sd num (.fz (.int cell)) x6 hsd hp hl
    refine ⟨_, c', ds', sd, rfl, ?_, hd⟩
    unfold b__law_draws_2
    have eo : oPow (.int 10) (.int 18) = .ok (.int 1000000000000000000) := by rfl
    have er : rng1 [.int 60] = .ok (rangeD 0 60) := by rfl
    simp [rdB, oAbs, ← hnum, eo, hq, er, hbig]
    exact e
  · refine ⟨_, [.fz s0, .fz (.int 60), .ow (.list ((ds ++ [(sd * 16807 + 5) / 3 % 65521]).map D.int)), .fz (.int sd), .fz (.int cell), .fz (.int num), x6], ds ++ [(sd * 16807 + 5) / 3 % 65521], sd, rfl, ?_, ⟨_, _, _, rfl⟩, hsd, ?_, ?_⟩
    · unfold b__law_draws_2
      have eo : oPow (.int 10) (.int 18) = .ok (.int 1000000000000000000) := by rfl
      have hll : ds.length < lim := by omega
      simp [rdB, oAbs, ← hnum, eo, hq, appS, hll, hbig, hbig2]
      exact ⟨rfl, rfl⟩
    · intro d hd
      rcases List.mem_append.mp hd with h | h
      · exact hp d h
      · rw [List.mem_singleton.mp h]; omega
    · simp; omega
theorem draws_last (n : Nat) (hn : n + 1 < lim) (s0 : D) (ds : List Int) (seed : Int) (i : Nat) (hi : i < 60) (c : Cells) (h : Dr n s0 ds seed c) (hil : min i 60 ≤ ds.length) : ∃ (c1 c' : Cells) (ds' : List Int) (seed' : Int), gN 6 (.int i) c = some c1 ∧ b__law_draws_3 c1 = .ok (.nx c') ∧ Dr (n + 1) s0 ds' seed' c' ∧ min (i + 1) 60 ≤ ds'.length := by
  obtain ⟨⟨x4, x5, x6, rfl⟩, hs, hp, hl⟩ := h
  let sd : Int := (seed * 69621 + (i : Int) + 1) % 2147483647
  have hsd : 0 ≤ sd ∧ sd < 2147483647 := ⟨Int.emod_nonneg _ (by decide), Int.emod_lt_of_pos _ (by decide)⟩
  have hbig : (69621 : Nat) ≤ big := by decide
  have hll : ds.length < lim := by omega
  by_cases hq : (ds.length : Int) < 60
  · refine ⟨_, [.fz s0, .fz (.int 60), .ow (.list ((ds ++ [sd / 7 % 65521]).map D.int)), .fz (.int sd), x4, x5, .fz (.int i)], ds ++ [sd / 7 % 65521], sd, rfl, ?_, ⟨⟨_, _, _, rfl⟩, hsd, ?_, ?_⟩, ?_⟩
    · unfold b__law_draws_3
      simp [rdB, hq, appS, hll, hbig]
      exact ⟨rfl, rfl⟩
    · intro d hd
      rcases List.mem_append.mp hd with h | h
      · exact hp d h
      · rw [List.mem_singleton.mp h]; omega
    · simp; omega
    · simp; omega
  · refine ⟨_, [.fz s0, .fz (.int 60), .ow (.list (ds.map D.int)), .fz (.int seed), x4, x5, .fz (.int i)], ds, seed, rfl, ?_, ⟨⟨_, _, _, rfl⟩, hs, hp, by omega⟩, by omega⟩
    unfold b__law_draws_3
    simp [rdB, hq]
theorem law_draws_ok (ns : List Int) (hns : ns.length ≤ 63) : ∃ ds : List Int, ds.length = 60 ∧ (∀ d ∈ ds, 0 ≤ d) ∧ m__law_draws K [.flist (ns.map D.int), .int 60] = .ok (.list (ds.map D.int)) := by
  obtain ⟨c1, e1, ds1, sd1, h1⟩ := loop_inv (g := gN 4) (fb := b__law_draws_2) (fun j c => ∃ ds seed, Dr (60 * j) (.flist (ns.map D.int)) ds seed c) (items := ns.map D.int) (c := [.fz (.flist (ns.map D.int)), .fz (.int 60), .ow (.list []), .fz (.int 7), .un, .un, .un]) 0
    ⟨[], 7, ⟨_, _, _, rfl⟩, by decide, (fun d hd => by cases hd), Nat.zero_le _⟩ (fun i d c hd ⟨ds, seed, h⟩ => by
      rw [List.getElem?_map] at hd
      obtain ⟨cell, hc, rfl⟩ := Option.map_eq_some_iff.mp hd
      have hi := (List.getElem?_eq_some_iff.mp hc).1
      obtain ⟨c1, c', ds', seed', a1, a2, a3⟩ := draws_outer (60 * (0 + i)) (by unfold lim; omega) _ ds seed cell c h
      exact ⟨c1, a1, c', .inl a2, ds', seed', by rw [show 60 * (0 + i + 1) = 60 * (0 + i) + 60 by omega]; exact a3⟩)
  rw [List.length_map, Nat.zero_add] at h1
  obtain ⟨c2, e2, ds2, sd2, h2, hl2⟩ := loop_inv (g := gN 6) (fb := b__law_draws_3) (fun j c => ∃ ds seed, Dr (60 * ns.length + j) (.flist (ns.map D.int)) ds seed c ∧ min j 60 ≤ ds.length) (items := rangeD 0 60) (c := c1) 0
    ⟨ds1, sd1, h1, by omega⟩ (fun i d c hd ⟨ds, seed, h, hl⟩ => by
      obtain ⟨hi, rfl⟩ := range_get hd
      obtain ⟨c1, c', ds', seed', a1, a2, a3, a4⟩ := draws_last (60 * ns.length + (0 + i)) (by unfold lim; omega) _ ds seed i hi c h (by omega)
      exact ⟨c1, a1, c', .inl a2, ds', seed', a3, by omega⟩)
  rw [range_len, Nat.zero_add] at hl2
  obtain ⟨⟨x4, x5, x6, rfl⟩, _, hp, _⟩ := h2
  obtain ⟨⟨y4, y5, y6, rfl⟩, _, _, _⟩ := h1
  refine ⟨ds2.take 60, by rw [List.length_take]; omega, fun d hd => hp d (List.mem_of_mem_take hd), ?_⟩
  have ec : cut (ns.map D.int) none (some 63) = ns.map D.int := by
    rw [show (63 : Int) = ((63 : Nat) : Int) from rfl, cut_to, List.take_of_length_le (by simpa using hns)]
  have ec2 : ∀ xs : List D, cut xs none (some 60) = xs.take 60 := fun xs => cut_to xs 60
  unfold m__law_draws a__law_draws f__law_draws
  have er : rng1 [.int 60] = .ok (rangeD 0 60) := by rfl
  simp [cellsN, rdB, mkLst, oSlice, er, ec]
  rw [e1]
  simp [er]
  rw [e2]
  simp [ec2, List.map_take]
end G58
end S32
noncomputable section S33
namespace G58
open PySem PySem.Spec PyProof.Rows L2 PL
variable (K : PySem.W.Frag)
inductive Kd where
  | row | col | tabs
  deriving DecidableEq
inductive Nd (α : Type) where
  | win (x : Str)
  | grp (k : Kd) (f : Nat) (ps : List (Int × α))
def Tr : Nat → Type
  | 0 => Str
  | n + 1 => Nd (Tr n)
def kname : Kd → Str
  | .row => "row"
  | .col => "col"
  | .tabs => "tabs"
def wD (x : Str) : D := .tuple [.str "win", .str x]
def enc : (n : Nat) → Tr n → D
  | 0, x => wD x
  | n + 1, t => match (t : Nd (Tr n)) with
    | .win x => wD x
    | .grp .tabs f ps => .tuple [.str "tabs", .int f, .tuple (ps.map fun p => enc n p.2)]
    | .grp k _ ps => .tuple [.str (kname k), .tuple (ps.map fun p => .tuple [.int p.1, enc n p.2])]
def kindOf : (n : Nat) → Tr n → Option Kd
  | 0, _ => none
  | n + 1, t => match (t : Nd (Tr n)) with
    | .win _ => none
    | .grp k _ _ => some k
def namesT : (n : Nat) → Tr n → List Str
  | 0, x => [x]
  | n + 1, t => match (t : Nd (Tr n)) with
    | .win x => [x]
    | .grp _ _ ps => ps.flatMap fun p => namesT n p.2
def WF : (n : Nat) → Tr n → Prop
  | 0, x => x ∈ names17
  | n + 1, t => match (t : Nd (Tr n)) with
    | .win x => x ∈ names17
    | .grp k f ps => f < ps.length ∧ (k ≠ .tabs → 2 ≤ ps.length) ∧ ps.length ≤ 3 ∧ ∀ p ∈ ps, 1 ≤ p.1 ∧ p.1 ≤ 12 ∧ WF n p.2 ∧ kindOf n p.2 ≠ some k
def winT : (n : Nat) → Str → Tr n
  | 0, x => x
  | _ + 1, x => Nd.win x
theorem enc_win (n : Nat) (x : Str) : enc n (winT n x) = wD x := by cases n <;> rfl
theorem kind_win (n : Nat) (x : Str) : kindOf n (winT n x) = none := by cases n <;> rfl
theorem names_win (n : Nat) (x : Str) : namesT n (winT n x) = [x] := by cases n <;> rfl
theorem wf_win (n : Nat) {x : Str} (h : x ∈ names17) : WF n (winT n x) := by cases n <;> exact h
/-- what a drawn kind reads -/
def kinds5 : List Kd := [.row, .col, .row, .col, .tabs]
def outerD : Option Kd → Str
  | none => ""
  | some k => kname k
theorem lay_row : PyData.canLay0 (.str "row") = true := by decide +kernel
theorem lay_col : PyData.canLay0 (.str "col") = true := by decide +kernel
theorem lay_tabs : PyData.canLay0 (.str "tabs") = true := by decide +kernel
theorem lay_nil : PyData.canLay0 (.str "") = true := by decide +kernel
theorem lay_k : ∀ k : Kd, PyData.canLay0 (.str (kname k)) = true
  | .row => lay_row
  | .col => lay_col
  | .tabs => lay_tabs
theorem lay_o : ∀ o : Option Kd, PyData.canLay0 (.str (outerD o)) = true
  | none => lay_nil
  | some k => lay_k k
theorem kname_inj (k j : Kd) : kname k = kname j ↔ k = j := by cases k <;> cases j <;> decide
theorem kname_outer (k : Kd) (o : Option Kd) : kname k = outerD o ↔ o = some k := by
  cases o with
  | none => cases k <;> simp [outerD, kname] <;> decide
  | some j => simp only [outerD, kname_inj, Option.some.injEq]; exact eq_comm
/-- [kind for kind in [..] if kind != outer] -/
theorem tree_kinds (A B C : List D → R D) (o : Option Kd) (c : Cells) (x0 x1 x2 x4 x5 x6 x7 : Cell) (r : Cells) (hc : c = x0 :: x1 :: x2 :: .fz (.str (outerD o)) :: x4 :: x5 :: x6 :: x7 :: r) :
    compL (gN 7) (t__law_tree_1 A B C) (e__law_tree_1 A B C) (kinds5.map fun k => D.str (kname k)) c = .ok ((kinds5.filter fun k => !decide (o = some k)).map fun k => .str (kname k)) := by
  refine comp_map (fun k => !decide (o = some k)) (fun k => D.str (kname k)) (fun k => D.str (kname k)) fun k _ => ⟨_, rfl, ?_, fun _ => ?_⟩
  · subst hc
    unfold t__law_tree_1
    simp [rdB, oNe_str (lay_k k) (lay_o o), kname_outer]
  · subst hc
    unfold e__law_tree_1
    simp [rdV]
def partD (k : Kd) (n : Nat) (p : Int × Tr n) : D := if k = .tabs then enc n p.2 else .tuple [.int p.1, enc n p.2]
def cost : Nat → Nat
  | 0 => 1
  | n + 1 => 1 + 3 * (1 + cost n)
def ubound (n used : Nat) : Nat := if used < 8 then 8 + 2 * n else used + 1
/-- what is known of a drawn tree -/
structure Tree (n : Nat) (o : Option Kd) (a u : Nat) (t : Tr n) (a' u' : Nat) : Prop where
  wf : WF n t
  kind : ∀ k, o = some k → kindOf n t ≠ some k
  names : namesT n t = (names16.drop u).take (u' - u)
  lt : u < u'
  le : u' ≤ ubound n u
  at_ : a' ≤ a + cost n
/-- one turn of the loop -/
theorem tree_turn (A B C : List D → R D) (n : Nat) (dp : Int) (hdp : dp - 1 = n) (k : Kd) (dsD dD kD o : D) (a u : Nat) (many : Int) (w : Int) (hw : 0 ≤ w) (ps : List (Int × Tr n)) (i : Nat) (x10 x11 x12 : Cell) (t : Tr n) (a' u' : Nat) (hps : ps.length < lim)
    (hA : A [dsD, .int a] = .ok (.int w)) (hC : C [dsD, .int ((a + 1 : Nat) : Int), .int n, .str (kname k), .int u] = .ok (.tuple [enc n t, .int a', .int u'])) :
    ∃ c1, gN 10 (.int i) [.fz dsD, .fz (.int a), .fz (.int dp), .fz o, .fz (.int u), .fz dD, .fz kD, .fz (.str (kname k)), .fz (.int many), .ow (.list (ps.map (partD k n))), x10, x11, x12] = some c1 ∧
      b__law_tree_1 A B C c1 = .ok (.nx [.fz dsD, .fz (.int a'), .fz (.int dp), .fz o, .fz (.int u'), .fz dD, .fz kD, .fz (.str (kname k)), .fz (.int many), .ow (.list ((ps ++ [(1 + w % 12, t)]).map (partD k n))), .fz (.int i), .fz (.int (1 + w % 12)), .fz (enc n t)]) := by
  refine ⟨_, rfl, ?_⟩
  unfold b__law_tree_1
  have e1 := hdp
  have e2 : oEq (.str (kname k)) (.str "tabs") = .ok (.bool (decide (k = .tabs))) := by
    rw [oEq_str (lay_k k) lay_tabs]
    congr 2
    have := kname_inj k .tabs
    simp only [decide_eq_decide]; exact this
  have hC' : C [dsD, .int ((a : Int) + 1), .int n, .str (kname k), .int u] = .ok (.tuple [enc n t, .int a', .int u']) := hC
  by_cases hk : k = .tabs
  · subst hk
    simp [rdV, rdB, hA, hC', e1, e2, appS, hps, partD]
  · simp [rdV, rdB, hA, hC', e1, e2, appS, hps, partD, hk, mkTup, show (2 : Nat) ≤ lim by decide]
theorem seg_append (u u1 u2 : Nat) (h1 : u ≤ u1) (h2 : u1 ≤ u2) (L : List Str) : (L.drop u).take (u1 - u) ++ (L.drop u1).take (u2 - u1) = (L.drop u).take (u2 - u) := by
  have e : L.drop u1 = (L.drop u).drop (u1 - u) := by rw [List.drop_drop]; congr 1; omega
  rw [e, show u2 - u = (u1 - u) + (u2 - u1) by omega, List.take_add]
/-- the loop's state behind j children -/
structure TrSt (n : Nat) (k : Kd) (u0 a0 j : Nat) (ps : List (Int × Tr n)) (a u : Nat) : Prop where
  len : ps.length = j
  each : ∀ p ∈ ps, 1 ≤ p.1 ∧ p.1 ≤ 12 ∧ WF n p.2 ∧ kindOf n p.2 ≠ some k
  names : (ps.flatMap fun p => namesT n p.2) = (names16.drop u0).take (u - u0)
  ge : u0 + j ≤ u
  le : j = 0 ∧ u = u0 ∨ 1 ≤ j ∧ u ≤ 8 + 2 * n + (j - 1)
  at_ : a ≤ a0 + j * (1 + cost n)
theorem TrSt.next {n : Nat} {k : Kd} {u0 a0 j : Nat} {ps : List (Int × Tr n)} {a u : Nat} (s : TrSt n k u0 a0 j ps a u) (h8 : u0 < 8) {t : Tr n} {a' u' : Nat} (T : Tree n (some k) (a + 1) u t a' u') (w : Int) (hw : 0 ≤ w) : TrSt n k u0 a0 (j + 1) (ps ++ [(1 + w % 12, t)]) a' u' := by
  have hu := s.ge
  have hb : u' ≤ 8 + 2 * n + j := by
    have := T.le
    unfold ubound at this
    rcases s.le with ⟨h1, h2⟩ | ⟨h1, h2⟩
    · subst h1 h2
      rw [if_pos h8] at this; omega
    · split at this
      · omega
      · omega
  refine ⟨by rw [List.length_append, s.len]; rfl, fun p hp => ?_, ?_, ?_, .inr ⟨by omega, by omega⟩, ?_⟩
  · rcases List.mem_append.mp hp with h | h
    · exact s.each p h
    · rw [List.mem_singleton.mp h]
      exact ⟨by show 1 ≤ 1 + w % 12; omega, by show 1 + w % 12 ≤ 12; omega, T.wf, T.kind k rfl⟩
  · rw [List.flatMap_append, s.names]
    simp only [List.flatMap_cons, List.flatMap_nil, List.append_nil]
    rw [T.names]
    exact seg_append u0 u u' (by omega) (by have := T.lt; omega) _
  · have := T.lt; omega
  · have h1 := s.at_
    have h2 := T.at_
    rw [Nat.succ_mul]
    omega
end G58
end S33
noncomputable section S34
namespace G58
open PySem PySem.Spec PyProof.Rows L2 PL
variable (K : PySem.W.Frag)
theorem ubound_lt {n u : Nat} (h : ubound n u ≤ 16) : u < 16 := by unfold ubound at h; split at h <;> omega
theorem mem16 {k : Nat} (h : k < 16) : names16.getD k "" ∈ names16 := by
  have hk : k < names16.length := h
  rw [List.getD_eq_getElem?_getD, List.getElem?_eq_getElem hk]
  exact List.getElem_mem hk
theorem seg1 {u : Nat} (h : u < 16) : [names16.getD u ""] = (names16.drop u).take (u + 1 - u) := by
  have hk : u < names16.length := h
  rw [show u + 1 - u = 1 by omega, List.getD_eq_getElem?_getD, List.getElem?_eq_getElem hk, List.drop_eq_getElem_cons hk]
  rfl
theorem leaf_tree (n : Nat) (o : Option Kd) (a u : Nat) (h : ubound n u ≤ 16) : Tree n o a u (winT n (names16.getD u "")) (a + 1) (u + 1) := by
  have hu := ubound_lt h
  refine ⟨wf_win n (List.mem_cons_of_mem _ (mem16 hu)), fun k _ => ?_, ?_, by omega, ?_, ?_⟩
  · rw [kind_win]; exact fun z => nomatch z
  · rw [names_win]; exact seg1 hu
  · unfold ubound; split <;> omega
  · have : 1 ≤ cost n := by cases n <;> simp [cost] <;> omega
    omega
theorem kinds_list (o : Option Kd) : ∃ ks : List Kd, (kinds5.filter fun k => !decide (o = some k)) = ks ∧ ks ≠ [] ∧ ks.length ≤ 5 ∧ ∀ k ∈ ks, o ≠ some k := by
  refine ⟨_, rfl, ?_, ?_, fun k hk => ?_⟩
  · cases o with
    | none => decide
    | some k => cases k <;> decide
  · exact Nat.le_trans (List.length_filter_le _ _) (by decide)
  · have := (List.mem_filter.mp hk).2
    simpa using this
theorem oEq_tabs (k : Kd) : oEq (.str (kname k)) (.str "tabs") = .ok (.bool (decide (k = .tabs))) := by
  rw [oEq_str (lay_k k) lay_tabs]
  congr 2
  have := kname_inj k .tabs
  simp only [decide_eq_decide]; exact this
/-- the loop of a group -/
theorem tree_loop (A C : List D → R D) (B : List D → R D) (n : Nat) (hn : n ≤ 3) (dp : Int) (hdp : dp - 1 = n) (k : Kd) (dsD dD kD oD : D) (a u : Nat) (h8 : u < 8) (many : Nat) (hm : many ≤ 3) (L : Nat)
    (hA : ∀ i : Nat, i < L → ∃ w : Int, 0 ≤ w ∧ A [dsD, .int i] = .ok (.int w)) (hL : a + 3 * (1 + cost n) < L)
    (hC : ∀ a u : Nat, ubound n u ≤ 16 → a + cost n < L → ∃ (t : Tr n) (a' u' : Nat), C [dsD, .int a, .int n, .str (kname k), .int u] = .ok (.tuple [enc n t, .int a', .int u']) ∧ Tree n (some k) a u t a' u') (x10 x11 x12 : Cell) :
    ∃ (ps : List (Int × Tr n)) (a' u' : Nat) (z10 z11 z12 : Cell), loopD (gN 10) (b__law_tree_1 A B C) (rangeD 0 many) [.fz dsD, .fz (.int a), .fz (.int dp), .fz oD, .fz (.int u), .fz dD, .fz kD, .fz (.str (kname k)), .fz (.int many), .ow (.list []), x10, x11, x12] =
      .ok (.nx [.fz dsD, .fz (.int a'), .fz (.int dp), .fz oD, .fz (.int u'), .fz dD, .fz kD, .fz (.str (kname k)), .fz (.int many), .ow (.list (ps.map (partD k n))), z10, z11, z12]) ∧ TrSt n k u a many ps a' u' := by
  obtain ⟨c', e, ps, a', u', y10, y11, y12, rfl, h⟩ := loop_inv (g := gN 10) (fb := b__law_tree_1 A B C) (fun j c => ∃ (ps : List (Int × Tr n)) (a' u' : Nat) (x10 x11 x12 : Cell), c = [.fz dsD, .fz (.int a'), .fz (.int dp), .fz oD, .fz (.int u'), .fz dD, .fz kD, .fz (.str (kname k)), .fz (.int many), .ow (.list (ps.map (partD k n))), x10, x11, x12] ∧ TrSt n k u a j ps a' u')
    (items := rangeD 0 many) (c := [.fz dsD, .fz (.int a), .fz (.int dp), .fz oD, .fz (.int u), .fz dD, .fz kD, .fz (.str (kname k)), .fz (.int many), .ow (.list []), x10, x11, x12]) 0
    ⟨[], a, u, x10, x11, x12, rfl, ⟨rfl, (fun p hp => by cases hp), (by simp), Nat.le_refl _, .inl ⟨rfl, rfl⟩, by omega⟩⟩ (fun i d c hd ⟨ps, a', u', y10, y11, y12, ec, s⟩ => by
      subst ec
      obtain ⟨hi, rfl⟩ := range_get hd
      rw [Nat.zero_add] at s
      have hj := s.at_
      have hi2 : i * (1 + cost n) ≤ 2 * (1 + cost n) := Nat.mul_le_mul_right _ (by omega)
      obtain ⟨w, hw, eA⟩ := hA a' (by omega)
      have hub : ubound n u' ≤ 16 := by
        unfold ubound
        rcases s.le with ⟨z1, z2⟩ | ⟨z1, z2⟩
        · subst z2; rw [if_pos h8]; omega
        · split <;> omega
      obtain ⟨t, a2, u2, eC, T⟩ := hC (a' + 1) u' hub (by omega)
      have hlen : ps.length < lim := by rw [s.len]; unfold lim; omega
      obtain ⟨c1, e1, e2⟩ := tree_turn A B C n dp hdp k dsD dD kD oD a' u' many w hw ps i y10 y11 y12 t a2 u2 hlen eA eC
      exact ⟨c1, e1, _, .inl e2, _, a2, u2, _, _, _, rfl, by rw [Nat.zero_add]; exact s.next h8 T w hw⟩)
  rw [range_len, Nat.zero_add] at h
  exact ⟨ps, a', u', y10, y11, y12, e, h⟩
theorem law_tree_ok (ds : List Int) (hl : ds.length = 60) (hp : ∀ d ∈ ds, 0 ≤ d) : ∀ (n m : Nat), n < m → ∀ (a u : Nat) (o : Option Kd), ubound n u ≤ 16 → n ≤ 4 → a + cost n < 1000000 →
    ∃ (t : Tr n) (a' u' : Nat), r_law_tree K m [.list (ds.map D.int), .int a, .int n, .str (outerD o), .int u] = .ok (.tuple [enc n t, .int a', .int u']) ∧ Tree n o a u t a' u' := by
  intro n
  induction n with
  | zero =>
    intro m hm a u o hu _ ha
    obtain ⟨m, rfl⟩ : ∃ m', m = m' + 1 := ⟨m - 1, by omega⟩
    refine ⟨winT 0 (names16.getD u ""), a + 1, u + 1, ?_, leaf_tree 0 o a u hu⟩
    have hA := law_at_eq K ds hl a (by unfold cost at ha; omega)
    have hB := law_called_ok K u (ubound_lt hu)
    show a__law_tree (m__law_at K) (m__law_called K) (r_law_tree K m) _ = _
    unfold a__law_tree f__law_tree
    have l0 : (0 : Nat) ≤ lim := by decide
    have l2 : (2 : Nat) ≤ lim := by decide
    have l3 : (3 : Nat) ≤ lim := by decide
    rw [enc_win]
    simp [cellsN, rdV, rdB, hA, hB, mkLst, mkTup, l0, l2, l3, wD]
  | succ n ih =>
    intro m hm a u o hu hn4 ha
    obtain ⟨m, rfl⟩ : ∃ m', m = m' + 1 := ⟨m - 1, by omega⟩
    have hc1 : cost (n + 1) = 1 + 3 * (1 + cost n) := rfl
    have hA := law_at_eq K ds hl a (by omega)
    have hB := law_called_ok K u (ubound_lt hu)
    obtain ⟨dv, hdv⟩ : ∃ dv : Int, dv = (ds.getD (a % 60) 0) / (1 + ((a / 60 : Nat) : Int)) := ⟨_, rfl⟩
    rw [← hdv] at hA
    have hdv0 : 0 ≤ dv := by
      rw [hdv]
      refine Int.ediv_nonneg ?_ (by omega)
      rw [List.getD_eq_getElem?_getD, List.getElem?_eq_getElem (by omega)]
      exact hp _ (List.getElem_mem _)
    have l0 : (0 : Nat) ≤ lim := by decide
    have l2 : (2 : Nat) ≤ lim := by decide
    have l3 : (3 : Nat) ≤ lim := by decide
    have l5 : (5 : Nat) ≤ lim := by decide
    show ∃ t a' u', a__law_tree (m__law_at K) (m__law_called K) (r_law_tree K m) [.list (ds.map D.int), .int a, .int ((n + 1 : Nat) : Int), .str (outerD o), .int u] = _ ∧ _
    have hn1 : ((n + 1 : Nat) : Int) = (n : Int) + 1 := by omega
    rw [hn1]
    have hpos : 0 < (n : Int) + 1 := by omega
    by_cases h8 : u < 8
    · have h8' : (u : Int) < 8 := by omega
      obtain ⟨ks, hks, kne, kl5, kout⟩ := kinds_list o
      have hkk := tree_kinds (m__law_at K) (m__law_called K) (r_law_tree K m) o (Cell.fz (.list (ds.map D.int)) :: .fz (.int a) :: .fz (.int ((n : Int) + 1)) :: .fz (.str (outerD o)) :: .fz (.int u) :: .fz (.int dv) :: .un :: .un :: [.un, .un, .un, .un, .un]) _ _ _ _ _ _ _ _ rfl
      rw [hks] at hkk
      have hkk : compL (gN 7) (t__law_tree_1 (m__law_at K) (m__law_called K) (r_law_tree K m)) (e__law_tree_1 (m__law_at K) (m__law_called K) (r_law_tree K m)) [D.str "row", D.str "col", D.str "row", D.str "col", D.str "tabs"] [Cell.fz (.list (ds.map D.int)), .fz (.int a), .fz (.int ((n : Int) + 1)), .fz (.str (outerD o)), .fz (.int u), .fz (.int dv), .un, .un, .un, .un, .un, .un, .un] = .ok (ks.map fun k => .str (kname k)) := hkk
      have kl0 : ks.length ≠ 0 := fun z => kne (List.eq_nil_of_length_eq_zero z)
      have kl0' : ¬ ((ks.length : Int) = 0) := by omega
      by_cases h5 : dv % 5 = 0
      · refine ⟨winT (n + 1) (names16.getD u ""), a + 1, u + 1, ?_, leaf_tree (n + 1) o a u hu⟩
        unfold a__law_tree f__law_tree
        rw [enc_win]
        simp [cellsN, rdV, rdB, hA, hB, mkLst, mkTup, l0, l2, l3, l5, wD, hpos, h8', hkk, kl0', h5]
      · -- a group
        have hlpos : 0 < (ks.length : Int) := by omega
        obtain ⟨qi, hqi⟩ : ∃ qi : Nat, dv / 5 % (ks.length : Int) = qi := Int.eq_ofNat_of_zero_le (Int.emod_nonneg _ kl0')
        have hq1 : qi < ks.length := by
          have := Int.emod_lt_of_pos (dv / 5) hlpos
          omega
        obtain ⟨k, hk⟩ : ∃ k, k = ks[qi] := ⟨_, rfl⟩
        have hitem : itemOf (.list (ks.map fun k => .str (kname k))) (.int (qi : Int)) = .ok (.str (kname k)) := by
          show (match atI (ks.map fun k => D.str (kname k)) (qi : Int) with | some d => R.ok d | none => .bad) = _
          rw [atI_cast, List.getElem?_map, List.getElem?_eq_getElem hq1, hk]
          rfl
        have hko : o ≠ some k := kout k (by rw [hk]; exact List.getElem_mem _)
        obtain ⟨m0, hm0⟩ : ∃ m0 : Nat, 1 + dv / 30 % 3 = m0 := Int.eq_ofNat_of_zero_le (by omega)
        have hm3 : 1 ≤ m0 ∧ m0 ≤ 3 := by omega
        obtain ⟨many, hmany⟩ : ∃ many : Nat, many = if k = .tabs then m0 else max 2 m0 := ⟨_, rfl⟩
        have hmany3 : 1 ≤ many ∧ many ≤ 3 ∧ (k ≠ .tabs → 2 ≤ many) := by
          by_cases hkt : k = .tabs
          · rw [hmany, if_pos hkt]
            exact ⟨hm3.1, hm3.2, fun z => absurd hkt z⟩
          · rw [hmany, if_neg hkt]
            exact ⟨by omega, by omega, fun _ => by omega⟩
        have hmx : oMax [.int 2, .int (m0 : Int)] = .ok (.int ((max 2 m0 : Nat) : Int)) := by
          show R.ok (D.int (if (2:Int) < (m0:Int) then (m0:Int) else 2)) = _
          congr 2
          by_cases z : (2:Int) < (m0:Int)
          · rw [if_pos z]; omega
          · rw [if_neg z]; omega
        have hdp : ((n : Int) + 1) - 1 = n := by omega
        obtain ⟨ps, a', u', z10, z11, z12, eL, St⟩ := tree_loop (m__law_at K) (r_law_tree K m) (m__law_called K) n (by omega) ((n : Int) + 1) hdp k (.list (ds.map D.int)) (.int dv) (.list (ks.map fun k => .str (kname k))) (.str (outerD o)) (a + 1) u h8 many hmany3.2.1 1000000
          (fun i hi => ⟨_, (by
            refine Int.ediv_nonneg ?_ (by omega)
            rw [List.getD_eq_getElem?_getD, List.getElem?_eq_getElem (by omega)]
            exact hp _ (List.getElem_mem _)), law_at_eq K ds hl i hi⟩) (by omega)
          (fun a u hu ha => ih m (by omega) a u (some k) hu (by omega) ha) .un .un .un
        rw [show ((a + 1 : Nat) : Int) = (a : Int) + 1 from rfl] at eL
        have hlN : 0 < ks.length := by omega
        have hmN : 0 < many := by omega
        have hpl : ps.length ≤ lim := by rw [St.len]; unfold lim; omega
        have hrng : rng1 [.int (many : Int)] = .ok (rangeD 0 many) := by
          show (if (many : Int).natAbs ≤ big then R.ok (rangeD 0 (many : Int).toNat) else .bad) = _
          rw [if_pos (by unfold big; omega)]
          rfl
        have hmpos : 0 < (many : Int) := by omega
        obtain ⟨f, hf⟩ : ∃ f : Nat, dv / 7 % (many : Int) = f := Int.eq_ofNat_of_zero_le (Int.emod_nonneg _ (by omega))
        have hfl : f < many := by
          have := Int.emod_lt_of_pos (dv / 7) hmpos
          omega
        refine ⟨(Nd.grp k f ps : Nd (Tr n)), a', u', ?_, ?_⟩
        · unfold a__law_tree f__law_tree
          have hqm : (ks.length : Int) ≠ 0 := by omega
          by_cases hkt : k = .tabs
          · have hmm : many = m0 := by rw [hmany, if_pos hkt]
            subst hkt
            subst hmm
            simp [cellsN, rdV, rdB, hA, hB, mkLst, mkTup, l0, l2, l3, l5, hpos, h8', hkk, kl0', h5, hlpos, hqi, hitem, hm0, oEq_tabs, hrng, kne, eL, hf, oTuple, hpl, hlN, hmN]
            rfl
          · have hmm : many = max 2 m0 := by rw [hmany, if_neg hkt]
            rw [← hmm] at hmx
            simp [cellsN, rdV, rdB, hA, hB, mkLst, mkTup, l0, l2, l3, l5, hpos, h8', hkk, kl0', h5, hlpos, hqi, hitem, hm0, oEq_tabs, hrng, hkt, hmx, kne, eL, hf, oTuple, hpl, hlN, hmN]
            cases k with
            | tabs => exact absurd rfl hkt
            | row => rfl
            | col => rfl
        · refine ⟨?_, fun j hj => ?_, ?_, ?_, ?_, ?_⟩
          · show f < ps.length ∧ (k ≠ .tabs → 2 ≤ ps.length) ∧ ps.length ≤ 3 ∧ ∀ p ∈ ps, 1 ≤ p.1 ∧ p.1 ≤ 12 ∧ WF n p.2 ∧ kindOf n p.2 ≠ some k
            rw [St.len]
            exact ⟨hfl, hmany3.2.2, hmany3.2.1, St.each⟩
          · show some k ≠ some j
            intro z
            rw [hj, z] at hko
            exact hko rfl
          · exact St.names
          · have := St.ge
            omega
          · unfold ubound
            rw [if_pos h8]
            rcases St.le with ⟨z, _⟩ | ⟨z1, z2⟩
            · omega
            · omega
          · have h1 := St.at_
            have h2 : many * (1 + cost n) ≤ 3 * (1 + cost n) := Nat.mul_le_mul_right _ (by omega)
            omega
    · have h8' : ¬ (u : Int) < 8 := by omega
      refine ⟨winT (n + 1) (names16.getD u ""), a + 1, u + 1, ?_, leaf_tree (n + 1) o a u hu⟩
      unfold a__law_tree f__law_tree
      rw [enc_win]
      simp [cellsN, rdV, rdB, hA, hB, mkLst, mkTup, l0, l2, l3, wD, hpos, h8']
end G58
end S34
noncomputable section S35
namespace G58
open PySem PySem.Spec PyProof.Rows L2 PL
variable (K : PySem.W.Frag)
theorem three_item (x : Int) (h0 : 0 ≤ x) (h3 : x < 3) : ∃ s : Int, (s = 24 ∨ s = 9 ∨ s = 3) ∧ itemOf (.list [.int 24, .int 9, .int 3]) (.int x) = .ok (.int s) := by
  have : x = 0 ∨ x = 1 ∨ x = 2 := by omega
  rcases this with rfl | rfl | rfl
  · exact ⟨24, .inl rfl, rfl⟩
  · exact ⟨9, .inr (.inl rfl), rfl⟩
  · exact ⟨3, .inr (.inr rfl), rfl⟩
theorem item_nat (xs : List D) (k : Nat) (d : D) (h : xs[k]? = some d) : itemOf (.list xs) (.int (k : Int)) = .ok d := by
  show (match atI xs (k : Int) with | some d => R.ok d | none => .bad) = _
  rw [atI_cast, h]
/-- what is known of a drawn box -/
structure Bx (x y w h : Int) : Prop where
  x0 : 0 ≤ x
  x6 : x < 6
  y0 : 0 ≤ y
  y6 : y < 6
  w1 : 1 ≤ w
  w24 : w ≤ 24
  h1 : 1 ≤ h
  h24 : h ≤ 24
theorem law_box_ok (d0 d1 d2 d3 d4 : Int) (r : List Int) : ∃ x y w h : Int, Bx x y w h ∧ m__law_box K [.list ((d0 :: d1 :: d2 :: d3 :: d4 :: r).map D.int)] = .ok (.tuple [.int x, .int y, .int w, .int h]) := by
  obtain ⟨s1, hs1, e1⟩ := three_item (d4 % 3) (by omega) (by omega)
  obtain ⟨s2, hs2, e2⟩ := three_item (d4 / 3 % 3) (by omega) (by omega)
  have p1 : 0 < s1 := by omega
  have p2 : 0 < s2 := by omega
  have q1 := Int.emod_nonneg d2 (show s1 ≠ 0 by omega)
  have q2 := Int.emod_lt_of_pos d2 p1
  have q3 := Int.emod_nonneg d3 (show s2 ≠ 0 by omega)
  have q4 := Int.emod_lt_of_pos d3 p2
  refine ⟨d0 % 6, d1 % 6, 1 + d2 % s1, 1 + d3 % s2, ⟨by omega, by omega, by omega, by omega, by omega, by omega, by omega, by omega⟩, ?_⟩
  show a__law_box _ = _
  unfold a__law_box f__law_box
  have l1 : (1 : Nat) ≤ lim := by decide
  have l3 : (3 : Nat) ≤ lim := by decide
  have l4 : (4 : Nat) ≤ lim := by decide
  have i0 : itemOf (.list ((d0 :: d1 :: d2 :: d3 :: d4 :: r).map D.int)) (.int 0) = .ok (.int d0) := item_nat _ 0 _ rfl
  have i1 : itemOf (.list ((d0 :: d1 :: d2 :: d3 :: d4 :: r).map D.int)) (.int 1) = .ok (.int d1) := item_nat _ 1 _ rfl
  have i2 : itemOf (.list ((d0 :: d1 :: d2 :: d3 :: d4 :: r).map D.int)) (.int 2) = .ok (.int d2) := item_nat _ 2 _ rfl
  have i3 : itemOf (.list ((d0 :: d1 :: d2 :: d3 :: d4 :: r).map D.int)) (.int 3) = .ok (.int d3) := item_nat _ 3 _ rfl
  have i4 : itemOf (.list ((d0 :: d1 :: d2 :: d3 :: d4 :: r).map D.int)) (.int 4) = .ok (.int d4) := item_nat _ 4 _ rfl
  simp only [List.map_cons] at i0 i1 i2 i3 i4
  simp [cellsN, rdV, rdB, mkLst, mkTup, l1, l3, l4, i0, i1, i2, i3, i4, e1, e2, oInt, p1, p2]
end G58
end S35
noncomputable section S36
namespace G58
open PySem PySem.Spec PyProof.Rows L2 PL
variable (K : PySem.W.Frag)
theorem five (L : List Int) (h : 5 ≤ L.length) : ∃ a b c d e r, L = a :: b :: c :: d :: e :: r := by
  match L, h with
  | a :: b :: c :: d :: e :: r, _ => exact ⟨a, b, c, d, e, r, rfl⟩
theorem deep_item (t : Nat) (h : t < 6) : ∃ n : Nat, n ≤ 4 ∧ itemOf (.list [.int 3, .int 4, .int 2, .int 4, .int 3, .int 4]) (.int (t : Int)) = .ok (.int (n : Int)) := by
  have : t = 0 ∨ t = 1 ∨ t = 2 ∨ t = 3 ∨ t = 4 ∨ t = 5 := by omega
  rcases this with rfl | rfl | rfl | rfl | rfl | rfl
  · exact ⟨3, by omega, rfl⟩
  · exact ⟨4, by omega, rfl⟩
  · exact ⟨2, by omega, rfl⟩
  · exact ⟨4, by omega, rfl⟩
  · exact ⟨3, by omega, rfl⟩
  · exact ⟨4, by omega, rfl⟩
theorem law_drawn_ok (ds : List Int) (hl : ds.length = 60) (hp : ∀ d ∈ ds, 0 ≤ d) (t : Nat) (ht : t < 6) :
    ∃ (n : Nat) (T : Tr n) (x y w h : Int) (a' u' : Nat), Bx x y w h ∧ Tree n none 0 0 T a' u' ∧ n ≤ 4 ∧ m__law_drawn K [.list (ds.map D.int), .int t] = .ok (.tuple [enc n T, .tuple [.int x, .int y, .int w, .int h]]) := by
  obtain ⟨n, hn, en⟩ := deep_item t ht
  have hub : ubound n 0 ≤ 16 := by unfold ubound; rw [if_pos (by omega)]; omega
  have hcost : cost n ≤ 241 := by
    have : n = 0 ∨ n = 1 ∨ n = 2 ∨ n = 3 ∨ n = 4 := by omega
    rcases this with rfl | rfl | rfl | rfl | rfl <;> decide
  obtain ⟨T, a', u', eT, hT⟩ := law_tree_ok K (ds.drop (9 * t) ++ ds.take (9 * t)) (by rw [List.length_append, List.length_drop, List.length_take, hl]; omega)
    (fun d hd => hp d (by
      rcases List.mem_append.mp hd with z | z
      · exact List.mem_of_mem_drop z
      · exact List.mem_of_mem_take z)) n 20 (by omega) 0 0 none hub hn (by omega)
  obtain ⟨d0, d1, d2, d3, d4, r, e5⟩ := five (ds.drop (7 * t + 2) ++ ds) (by rw [List.length_append, hl]; omega)
  obtain ⟨x, y, w, h, hb, eB⟩ := law_box_ok K d0 d1 d2 d3 d4 r
  rw [← e5] at eB
  refine ⟨n, T, x, y, w, h, a', u', hb, hT, hn, ?_⟩
  have c1 : cut (ds.map D.int) (some (9 * (t : Int))) none = (ds.map D.int).drop (9 * t) := by
    have := cut_from (ds.map D.int) (9 * t)
    rw [Int.natCast_mul] at this
    exact this
  have c2 : cut (ds.map D.int) none (some (9 * (t : Int))) = (ds.map D.int).take (9 * t) := by
    have := cut_to (ds.map D.int) (9 * t)
    rw [Int.natCast_mul] at this
    exact this
  have c3 : cut (ds.map D.int) (some (7 * (t : Int) + 2)) none = (ds.map D.int).drop (7 * t + 2) := by
    have := cut_from (ds.map D.int) (7 * t + 2)
    rw [Int.natCast_add, Int.natCast_mul] at this
    exact this
  have l2 : (2 : Nat) ≤ lim := by decide
  have l6 : (6 : Nat) ≤ lim := by decide
  have o1 : oAdd (.list ((ds.map D.int).drop (9 * t))) (.list ((ds.map D.int).take (9 * t))) = .ok (.list ((ds.drop (9 * t) ++ ds.take (9 * t)).map D.int)) := by
    show (if _ then _ else _) = _
    rw [if_pos (by rw [List.length_drop, List.length_take, List.length_map, hl]; unfold lim; omega), List.map_append, List.map_drop, List.map_take]
  have o2 : oAdd (.list ((ds.map D.int).drop (7 * t + 2))) (.list (ds.map D.int)) = .ok (.list ((ds.drop (7 * t + 2) ++ ds).map D.int)) := by
    show (if _ then _ else _) = _
    rw [if_pos (by rw [List.length_drop, List.length_map, hl]; unfold lim; omega), List.map_append, List.map_drop]
  have u1 : oMul2 (.int 9) (.int t) = .ok (.int (9 * (t : Int))) := by
    show oMul (.int 9) (.int t) = _
    unfold oMul
    exact if_pos (.inl (by decide))
  have u2 : oMul2 (.int 7) (.int t) = .ok (.int (7 * (t : Int))) := by
    show oMul (.int 7) (.int t) = _
    unfold oMul
    exact if_pos (.inl (by decide))
  have eT' : m__law_tree K [.list ((ds.drop (9 * t) ++ ds.take (9 * t)).map D.int), .int 0, .int n, .str "", .int 0] = .ok (.tuple [enc n T, .int a', .int u']) := eT
  have i0 : itemOf (.tuple [enc n T, .int a', .int u']) (.int 0) = .ok (enc n T) := rfl
  show a__law_drawn _ _ _ = _
  unfold a__law_drawn f__law_drawn
  generalize m__law_tree K = MT at eT' ⊢
  generalize m__law_box K = MB at eB ⊢
  simp only [List.map_append, List.map_drop, List.map_take] at eT' eB o1 o2
  simp [cellsN, rdV, rdB, mkLst, mkTup, l2, l6, u1, u2, oSlice, c1, c2, c3, o1, o2, en, eT', eB, i0, asI]
end G58
end S36
noncomputable section S37
namespace G58
open PySem PySem.Spec PyProof.Rows L2 PL
variable (K : PySem.W.Frag)
theorem is_name_ok : ∀ x ∈ names17, m_is_name K [.str x] = .ok (.bool true) := by
  unfold names17
  repeat' first
    | exact fun _ h => absurd h List.not_mem_nil
    | refine List.forall_mem_cons.mpr ⟨?_, ?_⟩
    | rfl
def hdT (n : Nat) (t : Tr n) : Str := match kindOf n t with
  | none => "win"
  | some k => kname k
theorem enc_hd (n : Nat) (t : Tr n) : ∃ r, r ≠ [] ∧ enc n t = .tuple (.str (hdT n t) :: r) := by
  cases n with
  | zero => exact ⟨[.str t], by simp, rfl⟩
  | succ n =>
    match (t : Nd (Tr n)) with
    | .win x => exact ⟨[.str x], by simp, rfl⟩
    | .grp .tabs f ps => exact ⟨_, by simp, rfl⟩
    | .grp .row f ps => exact ⟨_, by simp, rfl⟩
    | .grp .col f ps => exact ⟨_, by simp, rfl⟩
end G58
end S37
noncomputable section S38
namespace G58
open PySem PySem.Spec PyProof.Rows L2 PL
variable (K : PySem.W.Frag)
theorem item_natT (xs : List D) (k : Nat) (d : D) (h : xs[k]? = some d) : itemOf (.tuple xs) (.int (k : Int)) = .ok d := by
  show (match atI xs (k : Int) with | some d => R.ok d | none => .bad) = _
  rw [atI_cast, h]
theorem is_part_ok (A : List D → R D) (w : Int) (h1 : 1 ≤ w) (h12 : w ≤ 12) (s k : Str) (r : List D) (room : Int) (hne : oNe (.str s) (.str k) = .ok (.bool true)) (hT : A [.tuple (.str s :: r), .int room] = .ok (.bool true)) :
    a__is_part (m_is_whole K) A [.tuple [.int w, .tuple (.str s :: r)], .str k, .int room] = .ok (.bool true) := by
  have hw := is_whole_int K w 1 12
  rw [show decide ((1 : Int) ≤ w ∧ w ≤ 12) = true from decide_eq_true ⟨h1, h12⟩] at hw
  have i0 : itemOf (.tuple [.int w, .tuple (.str s :: r)]) (.int 0) = .ok (.int w) := rfl
  have i1 : itemOf (.tuple [.int w, .tuple (.str s :: r)]) (.int 1) = .ok (.tuple (.str s :: r)) := rfl
  have i2 : itemOf (.tuple (.str s :: r)) (.int 0) = .ok (.str s) := item_natT _ 0 _ rfl
  have ty : oIsi "tuple" (.tuple [.int w, .tuple (.str s :: r)]) = .ok (.bool true) := rfl
  unfold a__is_part f__is_part
  simp [cellsN, rdV, rdB, hw, i0, i1, i2, ty, hne, hT]
end G58
end S38
noncomputable section S39
namespace G58
open PySem PySem.Spec PyProof.Rows L2 PL
variable (K : PySem.W.Frag)
theorem lay_win : PyData.canLay0 (.str "win") = true := by decide +kernel
theorem eq_ww : oEq (.str "win") (.str "win") = .ok (.bool true) := by
  rw [oEq_str lay_win lay_win]; rfl
theorem eq_kw (k : Kd) : oEq (.str (kname k)) (.str "win") = .ok (.bool false) := by
  rw [oEq_str (lay_k k) lay_win]; cases k <;> rfl
theorem is_tree_leaf (A B : List D → R D) (x : Str) (hx : x ∈ names17) (room : Int) (hr : room ≠ 0) :
    a__is_tree (m_is_name K) B (m_is_whole K) A [wD x, .int room] = .ok (.bool true) := by
  have hn := is_name_ok K x hx
  have i0 : itemOf (wD x) (.int 0) = .ok (.str "win") := rfl
  have i1 : itemOf (wD x) (.int 1) = .ok (.str x) := rfl
  have ty : oIsi "tuple" (wD x) = .ok (.bool true) := rfl
  have ts : oIsi "str" (.str "win") = .ok (.bool true) := rfl
  have ln : oLen [wD x] = .ok (.int 2) := rfl
  have ew := eq_ww
  unfold a__is_tree f__is_tree
  simp [cellsN, rdV, rdB, hn, i0, i1, ty, ts, ln, hr, ew]
end G58
end S39
noncomputable section S40
namespace G58
open PySem PySem.Spec PyProof.Rows L2 PL
variable (K : PySem.W.Frag)
theorem is_tree_rc (A B : List D → R D) (n : Nat) (k : Kd) (hk : k ≠ .tabs) (ps : List (Int × Tr n)) (h2 : 2 ≤ ps.length) (h3 : ps.length ≤ 3) (room : Int) (hr : room ≠ 0)
    (hB : ∀ p ∈ ps, B [.tuple [.int p.1, enc n p.2], .str (kname k), .int (room - 1)] = .ok (.bool true)) :
    a__is_tree (m_is_name K) B (m_is_whole K) A [.tuple [.str (kname k), .tuple (ps.map fun p => .tuple [.int p.1, enc n p.2])], .int room] = .ok (.bool true) := by
  obtain ⟨qs, hq⟩ : ∃ qs, qs = ps.map fun p => D.tuple [.int p.1, enc n p.2] := ⟨_, rfl⟩
  have hl : qs.length = ps.length := by rw [hq, List.length_map]
  rw [← hq]
  have i0 : itemOf (.tuple [.str (kname k), .tuple qs]) (.int 0) = .ok (.str (kname k)) := rfl
  have i1 : itemOf (.tuple [.str (kname k), .tuple qs]) (.int 1) = .ok (.tuple qs) := rfl
  have ty : oIsi "tuple" (.tuple [.str (kname k), .tuple qs]) = .ok (.bool true) := rfl
  have ty2 : oIsi "tuple" (.tuple qs) = .ok (.bool true) := rfl
  have ts : oIsi "str" (.str (kname k)) = .ok (.bool true) := rfl
  have ln : oLen [.tuple [.str (kname k), .tuple qs]] = .ok (.int 2) := rfl
  have ln2 : oLen [.tuple qs] = .ok (.int (qs.length : Int)) := rfl
  have nlt : ¬ ((qs.length : Int) < 2) := by omega
  have nlt2 : ¬ (qs.length < 2) := by omega
  have hin : oIn (.str (kname k)) (.tuple [.str "row", .str "col"]) = .ok (.bool true) := by
    cases k with
    | tabs => exact absurd rfl hk
    | row => kernel_rfl
    | col => kernel_rfl
  have l2 : (2 : Nat) ≤ lim := by decide
  have hql : qs.length ≤ lim := by rw [hl]; unfold lim; omega
  have hcomp : ∀ (c : Cells), c = [.fz (.tuple [.str (kname k), .tuple qs]), .fz (.int room), .un] → compL (gN 2) (fun _ => R.ok true) (e__is_tree_1 (m_is_name K) B (m_is_whole K) A) qs c = .ok (ps.map fun _ => D.bool true) := by
    intro c hc
    rw [hq]
    refine comp_all (fun p : Int × Tr n => D.tuple [.int p.1, enc n p.2]) (fun _ => D.bool true) fun p hp => ?_
    subst hc
    refine ⟨_, rfl, rfl, ?_⟩
    unfold e__is_tree_1
    have := hB p hp
    simp [rdV, rdB, i0, this]
  have hc := hcomp _ rfl
  have ek := eq_kw k
  have hall : oAll [.list (ps.map fun _ => D.bool true)] = .ok (.bool true) := by
    have e : (ps.map fun _ => D.bool true) = (ps.map fun _ => true).map D.bool := by rw [List.map_map]; rfl
    show (match boolsOf (ps.map fun _ => D.bool true) with | some ns => R.ok (D.bool (ns.all id)) | none => .bad) = _
    rw [e, boolsOf_bools]
    show R.ok (D.bool ((ps.map fun _ => true).all id)) = _
    rw [List.all_eq_true.mpr]
    intro b hb
    obtain ⟨_, _, rfl⟩ := List.mem_map.mp hb
    rfl
  generalize (ps.map fun _ => D.bool true) = BS at hc hall
  unfold a__is_tree f__is_tree
  simp [cellsN, rdV, rdB, i0, i1, ty, ty2, ts, ln, ln2, hr, ek, hin, nlt, nlt2, hc, hall, mkTup, l2, hql]
end G58
end S40
noncomputable section S41
namespace G58
open PySem PySem.Spec PyProof.Rows L2 PL
variable (K : PySem.W.Frag)
theorem hd_ne (n : Nat) (t : Tr n) (k : Kd) (h : kindOf n t ≠ some k) : oNe (.str (hdT n t)) (.str (kname k)) = .ok (.bool true) := by
  unfold hdT
  cases e : kindOf n t with
  | none =>
    show oNe (.str "win") (.str (kname k)) = _
    rw [oNe_str lay_win (lay_k k)]; cases k <;> rfl
  | some j =>
    show oNe (.str (kname j)) (.str (kname k)) = _
    rw [oNe_str (lay_k j) (lay_k k)]
    have : ¬ kname j = kname k := fun z => h (by rw [e, (kname_inj j k).mp z])
    rw [decide_eq_false this]; rfl
theorem all_true {α : Type} (ps : List α) : oAll [.list (ps.map fun _ => D.bool true)] = .ok (.bool true) := by
  have e : (ps.map fun _ => D.bool true) = (ps.map fun _ => true).map D.bool := by rw [List.map_map]; rfl
  show (match boolsOf (ps.map fun _ => D.bool true) with | some ns => R.ok (D.bool (ns.all id)) | none => .bad) = _
  rw [e, boolsOf_bools]
  show R.ok (D.bool ((ps.map fun _ => true).all id)) = _
  rw [List.all_eq_true.mpr]
  intro b hb
  obtain ⟨_, _, rfl⟩ := List.mem_map.mp hb
  rfl
theorem is_tree_tabs (A B : List D → R D) (n : Nat) (f : Nat) (ps : List (Int × Tr n)) (hf : f < ps.length) (h3 : ps.length ≤ 3) (room : Int) (hr : room ≠ 0)
    (hk : ∀ p ∈ ps, kindOf n p.2 ≠ some .tabs) (hA : ∀ p ∈ ps, A [enc n p.2, .int (room - 1)] = .ok (.bool true)) :
    a__is_tree (m_is_name K) B (m_is_whole K) A [.tuple [.str "tabs", .int f, .tuple (ps.map fun p => enc n p.2)], .int room] = .ok (.bool true) := by
  obtain ⟨qs, hq⟩ : ∃ qs, qs = ps.map fun p => enc n p.2 := ⟨_, rfl⟩
  have hl : qs.length = ps.length := by rw [hq, List.length_map]
  rw [← hq]
  have i0 : itemOf (.tuple [.str "tabs", .int f, .tuple qs]) (.int 0) = .ok (.str "tabs") := rfl
  have i1 : itemOf (.tuple [.str "tabs", .int f, .tuple qs]) (.int 1) = .ok (.int f) := rfl
  have i2 : itemOf (.tuple [.str "tabs", .int f, .tuple qs]) (.int 2) = .ok (.tuple qs) := rfl
  have ty : oIsi "tuple" (.tuple [.str "tabs", .int f, .tuple qs]) = .ok (.bool true) := rfl
  have ty2 : oIsi "tuple" (.tuple qs) = .ok (.bool true) := rfl
  have ts : oIsi "str" (.str "tabs") = .ok (.bool true) := rfl
  have ln : oLen [.tuple [.str "tabs", .int f, .tuple qs]] = .ok (.int 3) := rfl
  have ln2 : oLen [.tuple qs] = .ok (.int (qs.length : Int)) := rfl
  have nz : ¬ ((qs.length : Int) = 0) := by omega
  have nz2 : qs ≠ [] := by intro z; rw [z] at hl; simp at hl; omega
  have hin : oIn (.str "tabs") (.tuple [.str "row", .str "col"]) = .ok (.bool false) := by kernel_rfl
  have hne : oNe (.str "tabs") (.str "tabs") = .ok (.bool false) := by rw [oNe_str lay_tabs lay_tabs]; rfl
  have ek : oEq (.str "tabs") (.str "win") = .ok (.bool false) := eq_kw .tabs
  have hw := is_whole_int K f 0 ((qs.length : Int) - 1)
  rw [show decide ((0 : Int) ≤ f ∧ (f : Int) ≤ (qs.length : Int) - 1) = true from decide_eq_true ⟨by omega, by omega⟩] at hw
  have l2 : (2 : Nat) ≤ lim := by decide
  have hql : qs.length ≤ lim := by rw [hl]; unfold lim; omega
  have hcomp : ∀ (c : Cells), c = [.fz (.tuple [.str "tabs", .int f, .tuple qs]), .fz (.int room), .un] → compL (gN 2) (fun _ => R.ok true) (e__is_tree_2 (m_is_name K) B (m_is_whole K) A) qs c = .ok (ps.map fun _ => D.bool true) := by
    intro c hc
    rw [hq]
    refine comp_all (fun p : Int × Tr n => enc n p.2) (fun _ => D.bool true) fun p hp => ?_
    subst hc
    refine ⟨_, rfl, rfl, ?_⟩
    unfold e__is_tree_2
    have h1 := hA p hp
    have h2 := hd_ne n p.2 .tabs (hk p hp)
    have h2' : oNe (.str (hdT n p.2)) (.str "tabs") = .ok (.bool true) := h2
    obtain ⟨r, _, er⟩ := enc_hd n p.2
    rw [er] at h1 ⊢
    have i3 : itemOf (.tuple (.str (hdT n p.2) :: r)) (.int 0) = .ok (.str (hdT n p.2)) := item_natT _ 0 _ rfl
    simp [rdV, rdB, h1, h2', i3]
  have hc := hcomp _ rfl
  have hall := all_true ps
  generalize (ps.map fun _ => D.bool true) = BS at hc hall
  unfold a__is_tree f__is_tree
  simp [cellsN, rdV, rdB, i0, i1, i2, ty, ty2, ts, ln, ln2, hr, ek, hin, hne, nz, nz2, hw, hc, hall, mkTup, l2, hql]
end G58
end S41
noncomputable section S42
namespace G58
open PySem PySem.Spec PyProof.Rows L2 PL
variable (K : PySem.W.Frag)
theorem is_tree_ok : ∀ (n m : Nat), 2 * n + 1 ≤ m → ∀ (t : Tr n) (room : Nat), WF n t → n < room → (r_is_tree_is_part K m).1 [enc n t, .int room] = .ok (.bool true) := by
  intro n
  induction n with
  | zero =>
    intro m hm t room hw hr
    obtain ⟨m, rfl⟩ : ∃ m', m = m' + 1 := ⟨m - 1, by omega⟩
    exact is_tree_leaf K _ _ t hw room (by omega)
  | succ n ih =>
    intro m hm t room hw hr
    obtain ⟨m, rfl⟩ : ∃ m', m = m' + 2 := ⟨m - 2, by omega⟩
    have hr1 : ((room : Int) - 1) = ((room - 1 : Nat) : Int) := by omega
    revert hw
    match (t : Nd (Tr n)) with
    | .win x => exact fun hw => is_tree_leaf K _ _ x hw room (by omega)
    | .grp k f ps =>
      intro hw
      obtain ⟨hf, h2, h3, he⟩ := (hw : f < ps.length ∧ (k ≠ .tabs → 2 ≤ ps.length) ∧ ps.length ≤ 3 ∧ ∀ p ∈ ps, 1 ≤ p.1 ∧ p.1 ≤ 12 ∧ WF n p.2 ∧ kindOf n p.2 ≠ some k)
      by_cases hk : k = .tabs
      · subst hk
        refine is_tree_tabs K _ _ n f ps hf h3 room (by omega) (fun p hp => (he p hp).2.2.2) fun p hp => ?_
        rw [hr1]
        exact ih (m + 1) (by omega) p.2 (room - 1) (he p hp).2.2.1 (by omega)
      · have hB : ∀ p ∈ ps, (r_is_tree_is_part K (m + 1)).2 [.tuple [.int p.1, enc n p.2], .str (kname k), .int ((room : Int) - 1)] = .ok (.bool true) := by
          intro p hp
          obtain ⟨w1, w2, w3, w4⟩ := he p hp
          have h := ih m (by omega) p.2 (room - 1) w3 (by omega)
          rw [hr1]
          obtain ⟨r, _, er⟩ := enc_hd n p.2
          rw [er] at h ⊢
          exact is_part_ok K _ p.1 w1 w2 _ _ r _ (hd_ne n p.2 k w4) h
        have := is_tree_rc K (r_is_tree_is_part K (m + 1)).1 (r_is_tree_is_part K (m + 1)).2 n k hk ps (h2 hk) h3 room (by omega) hB
        cases k with
        | tabs => exact absurd rfl hk
        | row => exact this
        | col => exact this
end G58
end S42
noncomputable section S43
namespace G58
open PySem PySem.Spec PyProof.Rows L2 PL
variable (K : PySem.W.Frag)
theorem eq_kt (k : Kd) (hk : k ≠ .tabs) : oEq (.str (kname k)) (.str "tabs") = .ok (.bool false) := by
  rw [oEq_tabs, decide_eq_false hk]
theorem inner_rc (n : Nat) (k : Kd) (hk : k ≠ .tabs) (ps : List (Int × Tr n)) (h3 : ps.length ≤ 3) :
    m_inner_trees K [.tuple [.str (kname k), .tuple (ps.map fun p => .tuple [.int p.1, enc n p.2])]] = .ok (.list (ps.map fun p => enc n p.2)) := by
  obtain ⟨qs, hq⟩ : ∃ qs, qs = ps.map fun p => D.tuple [.int p.1, enc n p.2] := ⟨_, rfl⟩
  have hl : qs.length = ps.length := by rw [hq, List.length_map]
  rw [← hq]
  have i0 : itemOf (.tuple [.str (kname k), .tuple qs]) (.int 0) = .ok (.str (kname k)) := rfl
  have i1 : itemOf (.tuple [.str (kname k), .tuple qs]) (.int 1) = .ok (.tuple qs) := rfl
  have hql : qs.length ≤ lim := by rw [hl]; unfold lim; omega
  have hc : compL (gN 1) (fun _ => R.ok true) e_inner_trees_1 qs [.fz (.tuple [.str (kname k), .tuple qs]), .un] = .ok (ps.map fun p => enc n p.2) := by
    rw [hq]
    refine comp_all (fun p : Int × Tr n => D.tuple [.int p.1, enc n p.2]) (fun p => enc n p.2) fun p hp => ?_
    refine ⟨_, rfl, rfl, ?_⟩
    have i3 : itemOf (.tuple [.int p.1, enc n p.2]) (.int 1) = .ok (enc n p.2) := rfl
    unfold e_inner_trees_1
    simp [rdV, rdB, i3]
  have e1 := eq_kw k
  have e2 := eq_kt k hk
  show a_inner_trees _ = _
  unfold a_inner_trees f_inner_trees
  simp [cellsN, rdV, rdB, i0, i1, e1, e2, hc, hql]
end G58
end S43
noncomputable section S44
namespace G58
open PySem PySem.Spec PyProof.Rows L2 PL
variable (K : PySem.W.Frag)
theorem inner_tabs (f : Int) (qs : List D) : m_inner_trees K [.tuple [.str "tabs", .int f, .tuple qs]] = .ok (.list qs) := by
  have i0 : itemOf (.tuple [.str "tabs", .int f, .tuple qs]) (.int 0) = .ok (.str "tabs") := rfl
  have i2 : itemOf (.tuple [.str "tabs", .int f, .tuple qs]) (.int 2) = .ok (.tuple qs) := rfl
  have e1 : oEq (.str "tabs") (.str "win") = .ok (.bool false) := eq_kw .tabs
  have e2 : oEq (.str "tabs") (.str "tabs") = .ok (.bool true) := by rw [oEq_str lay_tabs lay_tabs]; rfl
  show a_inner_trees _ = _
  unfold a_inner_trees f_inner_trees
  simp [cellsN, rdV, rdB, i0, i2, e1, e2, oList]
end G58
end S44
noncomputable section S45
namespace G58
open PySem PySem.Spec PyProof.Rows L2 PL
structure Bo where
  x : Int
  y : Int
  w : Int
  h : Int
abbrev Ce := Int × Int
/-- a cell is in a box -/
def inB (b : Bo) (c : Ce) : Bool := decide (b.x ≤ c.1 ∧ c.1 < b.x + b.w ∧ b.y ≤ c.2 ∧ c.2 < b.y + b.h)
theorem inB_iff {b : Bo} {c : Ce} : inB b c = true ↔ b.x ≤ c.1 ∧ c.1 < b.x + b.w ∧ b.y ≤ c.2 ∧ c.2 < b.y + b.h := by
  unfold inB; exact decide_eq_true_iff
def posB (b : Bo) : Bool := decide (0 < b.w ∧ 0 < b.h)
/-- where the first k parts end -/
def eAt (ws : List Int) (size : Int) (k : Nat) : Int := size * (ws.take k).sum / ws.sum
def innerB (k : Kd) (ws : List Int) (b : Bo) : List Bo := match k with
  | .tabs => List.replicate ws.length b
  | .row => (List.range ws.length).map fun i => ⟨b.x + eAt ws b.w i, b.y, eAt ws b.w (i + 1) - eAt ws b.w i, b.h⟩
  | .col => (List.range ws.length).map fun i => ⟨b.x, b.y + eAt ws b.h i, b.w, eAt ws b.h (i + 1) - eAt ws b.h i⟩
def shownT : (n : Nat) → Tr n → Bo → List (Str × Bo)
  | 0, x, b => [(x, b)]
  | n + 1, t, b => match (t : Nd (Tr n)) with
    | .win x => [(x, b)]
    | .grp .tabs f ps => match ps[f]? with
      | some p => shownT n p.2 b
      | none => []
    | .grp k _ ps => (ps.zip (innerB k (ps.map (·.1)) b)).flatMap fun q => shownT n q.1.2 q.2
theorem sum_take_le (ws : List Int) (h : ∀ w ∈ ws, 0 ≤ w) (k : Nat) : (ws.take k).sum ≤ (ws.take (k + 1)).sum := by
  induction ws generalizing k with
  | nil => simp
  | cons w ws ih =>
    cases k with
    | zero =>
      have := h w List.mem_cons_self
      simp [this]
    | succ k =>
      have := ih (fun v hv => h v (List.mem_cons_of_mem _ hv)) k
      simp only [List.take_succ_cons, List.sum_cons]; omega
theorem sum_nonneg (ws : List Int) (h : ∀ w ∈ ws, 0 ≤ w) : 0 ≤ ws.sum := by
  induction ws with
  | nil => simp
  | cons w ws ih =>
    have := h w List.mem_cons_self
    have := ih (fun v hv => h v (List.mem_cons_of_mem _ hv))
    rw [List.sum_cons]; omega
theorem sum_pos (ws : List Int) (h : ∀ w ∈ ws, 1 ≤ w) (hn : ws ≠ []) : 0 < ws.sum := by
  cases ws with
  | nil => exact absurd rfl hn
  | cons w ws =>
    have := h w List.mem_cons_self
    have := sum_nonneg ws (fun v hv => by have := h v (List.mem_cons_of_mem _ hv); omega)
    rw [List.sum_cons]; omega
theorem eAt_zero (ws : List Int) (size : Int) : eAt ws size 0 = 0 := by unfold eAt; simp
theorem eAt_len (ws : List Int) (size : Int) (h : 0 < ws.sum) : eAt ws size ws.length = size := by
  unfold eAt
  rw [List.take_length]
  exact Int.mul_ediv_cancel _ (by omega)
theorem eAt_mono (ws : List Int) (size : Int) (hs : 0 ≤ size) (h : ∀ w ∈ ws, 0 ≤ w) (k : Nat) : eAt ws size k ≤ eAt ws size (k + 1) := by
  unfold eAt
  exact Int.ediv_le_ediv' (sum_nonneg ws h) (Int.mul_le_mul_of_nonneg_left (sum_take_le ws h k) hs)
where
  Int.ediv_le_ediv' {a b c : Int} (hc : 0 ≤ c) (h : a ≤ b) : a / c ≤ b / c := by
    rcases Int.lt_or_eq_of_le hc with z | z
    · exact Int.ediv_le_ediv z h
    · rw [← z]; simp
/-- how many boxes hold a cell -/
def cnt (L : List (Str × Bo)) (c : Ce) : Nat := L.countP fun p => inB p.2 c
theorem steps_count (f : Nat → Int) (hf : ∀ k, f k ≤ f (k + 1)) (z : Int) : ∀ m : Nat, ((List.range m).countP fun i => decide (f i ≤ z ∧ z < f (i + 1))) = if f 0 ≤ z ∧ z < f m then 1 else 0
  | 0 => by simp
  | m + 1 => by
    have ih := steps_count f hf z m
    have h0 : ∀ j : Nat, f 0 ≤ f j := fun j => by
      induction j with
      | zero => exact Int.le_refl _
      | succ j ihj => exact Int.le_trans ihj (hf j)
    have h1 := hf m
    have h2 := h0 m
    rw [List.range_succ, List.countP_append, ih, List.countP_singleton]
    by_cases a : f 0 ≤ z ∧ z < f m
    · rw [if_pos a, if_neg (by simp; omega), if_pos (by omega)]
    · rw [if_neg a]
      by_cases b : f m ≤ z ∧ z < f (m + 1)
      · rw [if_pos (by simpa using b), if_pos (by omega)]
      · rw [if_neg (by simpa using b), if_neg (by omega)]
theorem cnt_one (x : Str) (b : Bo) (c : Ce) : cnt [(x, b)] c = if inB b c = true then 1 else 0 := by
  unfold cnt; rw [List.countP_singleton]
theorem cnt_append (L M : List (Str × Bo)) (c : Ce) : cnt (L ++ M) c = cnt L c + cnt M c := List.countP_append
theorem cnt_flat {α : Type} (xs : List α) (g : α → List (Str × Bo)) (b : α → Bo) (c : Ce) (h : ∀ a ∈ xs, cnt (g a) c = if inB (b a) c = true then 1 else 0) : cnt (xs.flatMap g) c = xs.countP fun a => inB (b a) c := by
  induction xs with
  | nil => rfl
  | cons a xs ih =>
    rw [List.flatMap_cons, cnt_append, h a List.mem_cons_self, ih (fun a' h' => h a' (List.mem_cons_of_mem _ h')), List.countP_cons, Nat.add_comm]
theorem zip_countP {α β : Type} (p : β → Bool) : ∀ (xs : List α) (ys : List β), xs.length = ys.length → ((xs.zip ys).countP fun q => p q.2) = ys.countP p
  | [], [], _ => rfl
  | x :: xs, y :: ys, h => by
    rw [List.zip_cons_cons, List.countP_cons, List.countP_cons, zip_countP p xs ys (by simpa using h)]
theorem inner_len (k : Kd) (ws : List Int) (b : Bo) : (innerB k ws b).length = ws.length := by
  cases k <;> simp [innerB]
theorem inner_pos (k : Kd) (ws : List Int) (b : Bo) (hw : 0 ≤ b.w) (hh : 0 ≤ b.h) (hws : ∀ w ∈ ws, 0 ≤ w) : ∀ b' ∈ innerB k ws b, 0 ≤ b'.w ∧ 0 ≤ b'.h := by
  intro b' hb
  cases k with
  | tabs => rw [(List.mem_replicate.mp hb).2]; exact ⟨hw, hh⟩
  | row =>
    obtain ⟨i, hi, rfl⟩ := List.mem_map.mp hb
    have := eAt_mono ws b.w hw hws i
    exact ⟨by show 0 ≤ _ - _; omega, hh⟩
  | col =>
    obtain ⟨i, hi, rfl⟩ := List.mem_map.mp hb
    have := eAt_mono ws b.h hh hws i
    exact ⟨hw, by show 0 ≤ _ - _; omega⟩
theorem inner_count (k : Kd) (hk : k ≠ .tabs) (ws : List Int) (b : Bo) (hw : 0 ≤ b.w) (hh : 0 ≤ b.h) (hws : ∀ w ∈ ws, 1 ≤ w) (hn : ws ≠ []) (c : Ce) : ((innerB k ws b).countP fun b' => inB b' c) = if inB b c = true then 1 else 0 := by
  have h0 : ∀ w ∈ ws, 0 ≤ w := fun w h => by have := hws w h; omega
  have hs := sum_pos ws hws hn
  cases k with
  | tabs => exact absurd rfl hk
  | row =>
    show ((List.range ws.length).map _).countP _ = _
    rw [List.countP_map]
    by_cases hy : b.y ≤ c.2 ∧ c.2 < b.y + b.h
    · have e : ((fun b' => inB b' c) ∘ fun i => (⟨b.x + eAt ws b.w i, b.y, eAt ws b.w (i + 1) - eAt ws b.w i, b.h⟩ : Bo)) = fun i => decide (eAt ws b.w i ≤ c.1 - b.x ∧ c.1 - b.x < eAt ws b.w (i + 1)) := by
        funext i
        show decide _ = decide _
        rw [decide_eq_decide]
        show (_ ∧ _ ∧ _ ∧ _) ↔ _
        simp only []
        constructor <;> intro z <;> omega
      rw [e, steps_count (eAt ws b.w) (eAt_mono ws b.w hw h0), eAt_zero, eAt_len ws b.w hs]
      by_cases q : inB b c = true
      · rw [if_pos q, if_pos]; rw [inB_iff] at q; omega
      · rw [if_neg q, if_neg]; rw [inB_iff] at q; omega
    · rw [if_neg (by rw [inB_iff]; omega), List.countP_eq_zero]
      intro i _
      show ¬ (inB _ c = true)
      rw [inB_iff]
      intro z
      exact hy ⟨z.2.2.1, z.2.2.2⟩
  | col =>
    show ((List.range ws.length).map _).countP _ = _
    rw [List.countP_map]
    by_cases hy : b.x ≤ c.1 ∧ c.1 < b.x + b.w
    · have e : ((fun b' => inB b' c) ∘ fun i => (⟨b.x, b.y + eAt ws b.h i, b.w, eAt ws b.h (i + 1) - eAt ws b.h i⟩ : Bo)) = fun i => decide (eAt ws b.h i ≤ c.2 - b.y ∧ c.2 - b.y < eAt ws b.h (i + 1)) := by
        funext i
        show decide _ = decide _
        rw [decide_eq_decide]
        show (_ ∧ _ ∧ _ ∧ _) ↔ _
        simp only []
        constructor <;> intro z <;> omega
      rw [e, steps_count (eAt ws b.h) (eAt_mono ws b.h hh h0), eAt_zero, eAt_len ws b.h hs]
      by_cases q : inB b c = true
      · rw [if_pos q, if_pos]; rw [inB_iff] at q; omega
      · rw [if_neg q, if_neg]; rw [inB_iff] at q; omega
    · rw [if_neg (by rw [inB_iff]; omega), List.countP_eq_zero]
      intro i _
      show ¬ (inB _ c = true)
      rw [inB_iff]
      intro z
      exact hy ⟨z.1, z.2.1⟩
/-- each cell of the box is in just one window -/
theorem shown_count : ∀ (n : Nat) (t : Tr n) (b : Bo), WF n t → 0 ≤ b.w → 0 ≤ b.h → ∀ c : Ce, cnt (shownT n t b) c = if inB b c = true then 1 else 0 := by
  intro n
  induction n with
  | zero =>
    intro t b _ _ _ c
    exact cnt_one t b c
  | succ n ih =>
    intro t b hwf hw hh c
    revert hwf
    match (t : Nd (Tr n)) with
    | .win x =>
      intro _
      exact cnt_one x b c
    | .grp k f ps =>
      intro hwf
      obtain ⟨hf, h2, h3, he⟩ := (hwf : f < ps.length ∧ (k ≠ .tabs → 2 ≤ ps.length) ∧ ps.length ≤ 3 ∧ ∀ p ∈ ps, 1 ≤ p.1 ∧ p.1 ≤ 12 ∧ WF n p.2 ∧ kindOf n p.2 ≠ some k)
      by_cases hk : k = .tabs
      · subst hk
        have e : ps[f]? = some ps[f] := List.getElem?_eq_getElem hf
        show cnt (match ps[f]? with | some p => shownT n p.2 b | none => []) c = _
        rw [e]
        exact ih _ b (he _ (List.getElem_mem hf)).2.2.1 hw hh c
      · have h2' := h2 hk
        have hws : ∀ w ∈ ps.map (·.1), 1 ≤ w := fun w hw => by
          obtain ⟨p, hp, rfl⟩ := List.mem_map.mp hw
          exact (he p hp).1
        have hne : ps.map (·.1) ≠ [] := fun z => by
          have := congrArg List.length z
          simp at this
          rw [this] at h2'
          simp at h2'
        have hpos := inner_pos k (ps.map (·.1)) b hw hh (fun w h => by have := hws w h; omega)
        have e : shownT (n + 1) (Nd.grp k f ps : Nd (Tr n)) b = (ps.zip (innerB k (ps.map (·.1)) b)).flatMap fun q => shownT n q.1.2 q.2 := by
          cases k with
          | tabs => exact absurd rfl hk
          | row => rfl
          | col => rfl
        show cnt (shownT (n + 1) (Nd.grp k f ps : Nd (Tr n)) b) c = _
        rw [e, cnt_flat _ _ (fun q => q.2) c (fun q hq => ?_), zip_countP (fun b' => inB b' c) ps (innerB k (ps.map (·.1)) b) (by rw [inner_len, List.length_map]), inner_count k hk _ b hw hh hws hne]
        obtain ⟨m1, m2⟩ := List.of_mem_zip hq
        obtain ⟨p1, p2⟩ := hpos _ m2
        exact ih _ _ (he _ m1).2.2.1 p1 p2 c
end G58
end S45
noncomputable section S46
namespace G58
open PySem PySem.Spec PyProof.Rows L2 PL
/-- a drawn arrangement: boxes with names, each cell of the whole in just one -/
structure Arr (L : List (Str × Bo)) (b : Bo) : Prop where
  w : 0 ≤ b.w ∧ b.w ≤ 24
  h : 0 ≤ b.h ∧ b.h ≤ 24
  one : ∀ c, cnt L c = if inB b c = true then 1 else 0
  names : (L.map (·.1)).Nodup
def hit (L : List (Str × Bo)) (c : Ce) : Option (Str × Bo) := L.find? fun p => inB p.2 c
def win (L : List (Str × Bo)) (c : Ce) : Option Str := (hit L c).map (·.1)
theorem hit_mem {L : List (Str × Bo)} {c : Ce} {p : Str × Bo} (h : hit L c = some p) : p ∈ L ∧ inB p.2 c = true := by
  unfold hit at h
  exact ⟨List.mem_of_find?_eq_some h, by simpa using List.find?_some h⟩
theorem count_two {α : Type} (p : α → Bool) : ∀ (L : List α) (a b : α), a ∈ L → b ∈ L → p a = true → p b = true → a ≠ b → 2 ≤ L.countP p
  | [], _, _, ha, _, _, _, _ => absurd ha List.not_mem_nil
  | x :: xs, a, b, ha, hb, pa, pb, hab => by
    have one : ∀ c : α, c ∈ xs → p c = true → 1 ≤ xs.countP p := fun c hc pc => List.one_le_countP_iff.mpr ⟨c, hc, pc⟩
    rw [List.countP_cons]
    rcases List.mem_cons.mp ha with h1 | h1
    · rcases List.mem_cons.mp hb with h2 | h2
      · exact absurd (h1.trans h2.symm) hab
      · have := one b h2 pb
        rw [← h1, if_pos pa]; omega
    · rcases List.mem_cons.mp hb with h2 | h2
      · have := one a h1 pa
        rw [← h2, if_pos pb]; omega
      · have := count_two p xs a b h1 h2 pa pb hab
        omega
namespace Arr
variable {L : List (Str × Bo)} {b : Bo} (A : Arr L b)
include A
theorem uniq {c : Ce} {p q : Str × Bo} (hp : p ∈ L) (hq : q ∈ L) (h1 : inB p.2 c = true) (h2 : inB q.2 c = true) : p = q := by
  apply Classical.byContradiction
  intro hne
  have := count_two (fun p : Str × Bo => inB p.2 c) L p q hp hq h1 h2 hne
  have e := A.one c
  unfold cnt at e
  rw [e] at this
  split at this <;> omega
theorem hit_of {c : Ce} {p : Str × Bo} (hp : p ∈ L) (h : inB p.2 c = true) : hit L c = some p := by
  cases e : hit L c with
  | none => exact absurd h (by simpa using List.find?_eq_none.mp e p hp)
  | some q =>
    obtain ⟨m, i⟩ := hit_mem e
    rw [A.uniq m hp i h]
theorem hit_iff {c : Ce} : (∃ p, hit L c = some p) ↔ inB b c = true := by
  have e := A.one c
  constructor
  · intro ⟨p, hp⟩
    obtain ⟨m, i⟩ := hit_mem hp
    have : 1 ≤ cnt L c := List.one_le_countP_iff.mpr ⟨p, m, i⟩
    rw [e] at this
    split at this
    · assumption
    · omega
  · intro h
    rw [if_pos h] at e
    have : 1 ≤ cnt L c := by omega
    obtain ⟨p, m, i⟩ := List.one_le_countP_iff.mp this
    exact ⟨p, A.hit_of m i⟩
theorem win_isSome {c : Ce} : (win L c).isSome = inB b c := by
  cases e : hit L c with
  | none =>
    have : ¬ inB b c = true := fun z => by
      obtain ⟨p, hp⟩ := A.hit_iff.mpr z
      rw [e] at hp; cases hp
    unfold win; rw [e]; simp at this; simp [this]
  | some p =>
    have := A.hit_iff.mp ⟨p, e⟩
    unfold win; rw [e, this]; rfl
/-- windows of one name are one -/
theorem same {p q : Str × Bo} (hp : p ∈ L) (hq : q ∈ L) (h : p.1 = q.1) : p = q := by
  have aux : ∀ (M : List (Str × Bo)), (M.map (·.1)).Nodup → ∀ p ∈ M, ∀ q ∈ M, p.1 = q.1 → p = q := by
    intro M
    induction M with
    | nil => intro _ p hp; exact absurd hp List.not_mem_nil
    | cons a M ih =>
      intro hn p hp q hq h
      rw [List.map_cons, List.nodup_cons] at hn
      rcases List.mem_cons.mp hp with h1 | h1
      · rcases List.mem_cons.mp hq with h2 | h2
        · rw [h1, h2]
        · exact absurd (List.mem_map.mpr ⟨q, h2, by rw [← h, h1]⟩) hn.1
      · rcases List.mem_cons.mp hq with h2 | h2
        · exact absurd (List.mem_map.mpr ⟨p, h1, by rw [h, h2]⟩) hn.1
        · exact ih hn.2 p h1 q h2 h
  exact aux L A.names p hp q hq h
theorem win_hit {c d : Ce} {p : Str × Bo} (hc : hit L c = some p) (hd : win L d = win L c) : hit L d = some p := by
  unfold win at hd
  rw [hc] at hd
  cases e : hit L d with
  | none => rw [e] at hd; cases hd
  | some q =>
    rw [e] at hd
    have h := Option.some.inj hd
    rw [A.same (hit_mem e).1 (hit_mem hc).1 h]
/-- a window with cells lies in the box -/
theorem inside {p : Str × Bo} (hp : p ∈ L) {c : Ce} (h : inB p.2 c = true) : p.2.w ≤ 24 ∧ p.2.h ≤ 24 := by
  rw [inB_iff] at h
  have in_ : ∀ c, inB p.2 c = true → inB b c = true := fun c hc => A.hit_iff.mp ⟨p, A.hit_of hp hc⟩
  have a1 := in_ (p.2.x, p.2.y) (by rw [inB_iff]; simp only []; omega)
  have a2 := in_ (p.2.x + p.2.w - 1, p.2.y + p.2.h - 1) (by rw [inB_iff]; simp only []; omega)
  rw [inB_iff] at a1 a2
  simp only [] at a1 a2
  have := A.w
  have := A.h
  omega
end Arr
inductive Wy where
  | down | left | right | up
  deriving DecidableEq
def Wy.back : Wy → Wy
  | .down => .up
  | .left => .right
  | .right => .left
  | .up => .down
def nextC (c : Ce) : Wy → Ce
  | .down => (c.1, c.2 + 1)
  | .left => (c.1 - 1, c.2)
  | .right => (c.1 + 1, c.2)
  | .up => (c.1, c.2 - 1)
/-- the cell just beyond a box -/
def beyond (b : Bo) (c : Ce) : Wy → Ce
  | .down => (c.1, b.y + b.h)
  | .left => (b.x - 1, c.2)
  | .right => (b.x + b.w, c.2)
  | .up => (c.1, b.y - 1)
def move (L : List (Str × Bo)) (c : Ce) (w : Wy) : Option Ce := match hit L c with
  | none => none
  | some p => if (win L (beyond p.2 c w)).isSome = true then some (beyond p.2 c w) else none
def sameLine (c d : Ce) : Wy → Prop
  | .down => c.1 = d.1
  | .left => c.2 = d.2
  | .right => c.2 = d.2
  | .up => c.1 = d.1
/-- how many single steps lead out of a box -/
def dist (b : Bo) (c : Ce) : Wy → Int
  | .down => b.y + b.h - c.2
  | .left => c.1 - b.x + 1
  | .right => b.x + b.w - c.1
  | .up => c.2 - b.y + 1
def goC (c : Ce) (w : Wy) : Nat → Ce
  | 0 => c
  | n + 1 => nextC (goC c w n) w
theorem goC_eq (c : Ce) (w : Wy) (n : Nat) : goC c w n = (match w with
  | .down => (c.1, c.2 + (n : Int))
  | .left => (c.1 - (n : Int), c.2)
  | .right => (c.1 + (n : Int), c.2)
  | .up => (c.1, c.2 - (n : Int))) := by
  induction n with
  | zero => cases w <;> simp [goC]
  | succ n ih =>
    rw [goC, ih]
    cases w <;> simp only [nextC] <;> congr 1 <;> omega
theorem go_in {b : Bo} {c : Ce} (w : Wy) (h : inB b c = true) (n : Nat) (hn : (n : Int) < dist b c w) : inB b (goC c w n) = true := by
  rw [goC_eq]
  rw [inB_iff] at h ⊢
  cases w <;> simp only [dist] at hn <;> simp only [] <;> omega
theorem go_out {b : Bo} {c : Ce} (w : Wy) (n : Nat) (hn : (n : Int) = dist b c w) : goC c w n = beyond b c w := by
  rw [goC_eq]
  cases w <;> simp only [dist] at hn <;> simp only [beyond] <;> congr 1 <;> omega
theorem beyond_out {b : Bo} {c : Ce} (w : Wy) : inB b (beyond b c w) = false := by
  cases e : inB b (beyond b c w) with
  | false => rfl
  | true =>
    rw [inB_iff] at e
    cases w <;> simp only [beyond] at e <;> omega
theorem dist_pos {b : Bo} {c : Ce} (w : Wy) (h : inB b c = true) : 0 < dist b c w := by
  rw [inB_iff] at h
  cases w <;> simp only [dist] <;> omega
theorem dist_le {b : Bo} {c : Ce} (w : Wy) (h : inB b c = true) (hw : b.w ≤ 24) (hh : b.h ≤ 24) : dist b c w ≤ 24 := by
  rw [inB_iff] at h
  cases w <;> simp only [dist] <;> omega
namespace Arr
variable {L : List (Str × Bo)} {b : Bo} (A : Arr L b)
include A
theorem move_some {c c' : Ce} {w : Wy} (h : move L c w = some c') : ∃ p, hit L c = some p ∧ c' = beyond p.2 c w ∧ ∃ q, hit L c' = some q := by
  unfold move at h
  cases e : hit L c with
  | none => rw [e] at h; cases h
  | some p =>
    rw [e] at h
    simp only [] at h
    split at h
    · next z =>
      have := Option.some.inj h
      subst this
      refine ⟨p, rfl, rfl, ?_⟩
      rw [A.win_isSome] at z
      exact A.hit_iff.mpr z
    · cases h
/-- and back -/
theorem back {c c' g : Ce} {w : Wy} (h : move L c w = some c') (hg : win L g = win L c') (hl : sameLine g c w) :
    ∃ g', move L g w.back = some g' ∧ win L g' = win L c ∧ sameLine g' c w := by
  obtain ⟨p, hp, ec, q, hq⟩ := A.move_some h
  have hgq := A.win_hit hq hg
  obtain ⟨mp, ip⟩ := hit_mem hp
  obtain ⟨mq, iq⟩ := hit_mem hq
  obtain ⟨_, ig⟩ := hit_mem hgq
  have hout := @beyond_out p.2 c w
  rw [← ec] at hout
  have hne : p ≠ q := fun z => by rw [z, iq] at hout; cases hout
  -- the last cell of p by the way
  have key : inB p.2 (beyond q.2 g w.back) = true ∧ sameLine (beyond q.2 g w.back) c w := by
    have no : ∀ d, inB p.2 d = true → inB q.2 d = true → False := fun d h1 h2 => hne (A.uniq mp mq h1 h2)
    rw [inB_iff] at ip iq ig
    cases w with
    | down =>
      have e1 : ¬ (q.2.x ≤ c.1 ∧ c.1 < q.2.x + q.2.w ∧ q.2.y ≤ p.2.y + p.2.h - 1 ∧ p.2.y + p.2.h - 1 < q.2.y + q.2.h) := fun z => no (c.1, p.2.y + p.2.h - 1) (by rw [inB_iff]; simp only []; omega) (inB_iff.mpr z)
      have e2 : c' = (c.1, p.2.y + p.2.h) := ec
      have hl' : g.1 = c.1 := hl
      rw [e2] at iq
      simp only [] at iq
      refine ⟨?_, hl⟩
      show inB p.2 (g.1, q.2.y - 1) = true
      rw [inB_iff]; simp only []; omega
    | up =>
      have e1 : ¬ (q.2.x ≤ c.1 ∧ c.1 < q.2.x + q.2.w ∧ q.2.y ≤ p.2.y ∧ p.2.y < q.2.y + q.2.h) := fun z => no (c.1, p.2.y) (by rw [inB_iff]; simp only []; omega) (inB_iff.mpr z)
      have e2 : c' = (c.1, p.2.y - 1) := ec
      have hl' : g.1 = c.1 := hl
      rw [e2] at iq
      simp only [] at iq
      refine ⟨?_, hl⟩
      show inB p.2 (g.1, q.2.y + q.2.h) = true
      rw [inB_iff]; simp only []; omega
    | right =>
      have e1 : ¬ (q.2.x ≤ p.2.x + p.2.w - 1 ∧ p.2.x + p.2.w - 1 < q.2.x + q.2.w ∧ q.2.y ≤ c.2 ∧ c.2 < q.2.y + q.2.h) := fun z => no (p.2.x + p.2.w - 1, c.2) (by rw [inB_iff]; simp only []; omega) (inB_iff.mpr z)
      have e2 : c' = (p.2.x + p.2.w, c.2) := ec
      have hl' : g.2 = c.2 := hl
      rw [e2] at iq
      simp only [] at iq
      refine ⟨?_, hl⟩
      show inB p.2 (q.2.x - 1, g.2) = true
      rw [inB_iff]; simp only []; omega
    | left =>
      have e1 : ¬ (q.2.x ≤ p.2.x ∧ p.2.x < q.2.x + q.2.w ∧ q.2.y ≤ c.2 ∧ c.2 < q.2.y + q.2.h) := fun z => no (p.2.x, c.2) (by rw [inB_iff]; simp only []; omega) (inB_iff.mpr z)
      have e2 : c' = (p.2.x - 1, c.2) := ec
      have hl' : g.2 = c.2 := hl
      rw [e2] at iq
      simp only [] at iq
      refine ⟨?_, hl⟩
      show inB p.2 (q.2.x + q.2.w, g.2) = true
      rw [inB_iff]; simp only []; omega
  have hh := A.hit_of mp key.1
  refine ⟨beyond q.2 g w.back, ?_, ?_, key.2⟩
  · unfold move
    rw [hgq]
    have : (win L (beyond q.2 g w.back)).isSome = true := by unfold win; rw [hh]; rfl
    simp only [this, if_true]
  · unfold win; rw [hh, hp]
theorem move_line {c c' : Ce} {w : Wy} (h : move L c w = some c') : sameLine c' c w := by
  obtain ⟨p, hp, ec, _⟩ := A.move_some h
  subst ec
  cases w <;> rfl
end Arr
end G58
end S46
noncomputable section S47
namespace G58
open PySem PySem.Spec PyProof.Rows L2 PL
def nm (L : List (Str × Bo)) (c : Ce) : Str := (win L c).getD ""
def nxt (L : List (Str × Bo)) (c : Ce) (w : Wy) : Ce := (move L c w).getD c
def endC (L : List (Str × Bo)) : Ce → List Wy → Ce
  | c, [] => c
  | c, w :: ws => endC L (nxt L c w) ws
def rowN (L : List (Str × Bo)) : Ce → List Wy → List Str
  | c, [] => [nm L c]
  | c, w :: ws => nm L c :: rowN L (nxt L c w) ws
/-- k times by one way -/
def itC (L : List (Str × Bo)) (c : Ce) (w : Wy) : Nat → Ce
  | 0 => c
  | n + 1 => nxt L (itC L c w n) w
theorem itC_shift (L : List (Str × Bo)) (c : Ce) (w : Wy) : ∀ n, itC L (nxt L c w) w n = itC L c w (n + 1)
  | 0 => rfl
  | n + 1 => by
    show nxt L (itC L (nxt L c w) w n) w = nxt L (itC L c w (n + 1)) w
    rw [itC_shift L c w n]
theorem rowN_len (L : List (Str × Bo)) : ∀ (ws : List Wy) (c : Ce), (rowN L c ws).length = ws.length + 1
  | [], _ => rfl
  | w :: ws, c => by show (rowN L _ ws).length + 1 = _; rw [rowN_len L ws]; rfl
theorem rowN_rep (L : List (Str × Bo)) (w : Wy) : ∀ (n : Nat) (c : Ce), rowN L c (List.replicate n w) = (List.range (n + 1)).map fun k => nm L (itC L c w k)
  | 0, c => rfl
  | n + 1, c => by
    rw [List.replicate_succ]
    show nm L c :: rowN L (nxt L c w) (List.replicate n w) = _
    rw [rowN_rep L w n, List.range_succ_eq_map (n := n + 1), List.map_cons, List.map_map]
    show nm L c :: _ = nm L c :: _
    congr 1
    apply List.map_congr_left
    intro k _
    show nm L (itC L (nxt L c w) w k) = nm L (itC L c w (k + 1))
    rw [itC_shift]
theorem endC_rep (L : List (Str × Bo)) (w : Wy) : ∀ (n : Nat) (c : Ce), endC L c (List.replicate n w) = itC L c w n
  | 0, c => rfl
  | n + 1, c => by
    rw [List.replicate_succ]
    show endC L (nxt L c w) (List.replicate n w) = _
    rw [endC_rep L w n, itC_shift]
theorem rowN_append (L : List (Str × Bo)) : ∀ (ws vs : List Wy) (c : Ce), rowN L c (ws ++ vs) = (rowN L c ws).take ws.length ++ rowN L (endC L c ws) vs
  | [], vs, c => rfl
  | w :: ws, vs, c => by
    show nm L c :: rowN L (nxt L c w) (ws ++ vs) = _
    rw [rowN_append L ws vs]
    rfl
theorem sameLine_trans {a b c : Ce} {w : Wy} (h1 : sameLine a b w) (h2 : sameLine b c w) : sameLine a c w := by
  cases w <;> exact Eq.trans h1 h2
theorem sameLine_symm {a b : Ce} {w : Wy} (h1 : sameLine a b w) : sameLine b a w := by
  cases w <;> exact Eq.symm h1
namespace Arr
variable {L : List (Str × Bo)} {b : Bo} (A : Arr L b)
include A
theorem nxt_line (c : Ce) (w : Wy) : sameLine (nxt L c w) c w := by
  unfold nxt
  cases e : move L c w with
  | none => cases w <;> rfl
  | some c' => exact A.move_line e
theorem itC_line (c : Ce) (w : Wy) : ∀ n, sameLine (itC L c w n) c w
  | 0 => by cases w <;> rfl
  | n + 1 => sameLine_trans (A.nxt_line (itC L c w n) w) (itC_line c w n)
/-- forth and back -/
theorem back_it (c : Ce) (w : Wy) (s : Nat) (hs : ∀ k, k < s → (move L (itC L c w k) w).isSome = true) : ∀ k, k ≤ s → win L (itC L (itC L c w s) w.back k) = win L (itC L c w (s - k)) ∧ sameLine (itC L (itC L c w s) w.back k) c w
  | 0, _ => ⟨rfl, A.itC_line c w s⟩
  | k + 1, hk => by
    obtain ⟨ih1, ih2⟩ := back_it c w s hs k (by omega)
    obtain ⟨c', hc'⟩ := Option.isSome_iff_exists.mp (hs (s - (k + 1)) (by omega))
    have e : itC L c w (s - k) = c' := by
      rw [show s - k = (s - (k + 1)) + 1 by omega]
      show nxt L _ w = _
      unfold nxt; rw [hc']; rfl
    rw [e] at ih1
    obtain ⟨g', h1, h2, h3⟩ := A.back hc' ih1 (sameLine_trans ih2 (sameLine_symm (A.itC_line c w _)))
    have e2 : itC L (itC L c w s) w.back (k + 1) = g' := by
      show nxt L _ _ = _
      unfold nxt; rw [h1]; rfl
    rw [e2]
    exact ⟨h2, sameLine_trans h3 (A.itC_line c w _)⟩
theorem back_row (c : Ce) (w : Wy) (s : Nat) (hs : ∀ k, k < s → (move L (itC L c w k) w).isSome = true) :
    rowN L (itC L c w s) (List.replicate s w.back) = (rowN L c (List.replicate s w)).reverse := by
  rw [rowN_rep, rowN_rep]
  apply List.ext_getElem (by simp)
  intro i h1 h2
  simp only [List.length_map, List.length_range] at h1
  rw [List.getElem_reverse]
  simp only [List.getElem_map, List.getElem_range, List.length_map, List.length_range]
  unfold nm
  rw [(A.back_it c w s hs i (by omega)).1, show s + 1 - 1 - i = s - i by omega]
theorem there_back (c : Ce) (w : Wy) (s : Nat) (hs : ∀ k, k < s → (move L (itC L c w k) w).isSome = true) :
    rowN L c (List.replicate s w ++ List.replicate s w.back) = (rowN L c (List.replicate s w)).take s ++ (rowN L c (List.replicate s w)).reverse := by
  rw [rowN_append, endC_rep, A.back_row c w s hs, List.length_replicate]
/-- a step is taken just if the name changes -/
theorem moved_iff {c : Ce} {w : Wy} {p : Str × Bo} (hc : hit L c = some p) : (nm L (nxt L c w) ≠ nm L c) ↔ (move L c w).isSome = true := by
  constructor
  · intro h
    cases e : move L c w with
    | none => exact absurd (by unfold nxt; rw [e]; rfl) h
    | some c' => rfl
  · intro h hn
    obtain ⟨c', hc'⟩ := Option.isSome_iff_exists.mp h
    obtain ⟨p', hp', ec, q, hq⟩ := A.move_some hc'
    have e1 : nxt L c w = c' := by unfold nxt; rw [hc']; rfl
    rw [e1] at hn
    unfold nm win at hn
    rw [hq, hp'] at hn
    have hs : q = p' := A.same (hit_mem hq).1 (hit_mem hp').1 hn
    have i1 := (hit_mem hq).2
    have i2 := @beyond_out p'.2 c w
    rw [← ec, ← hs, i1] at i2
    cases i2
theorem it_hit (c : Ce) (w : Wy) (h : inB b c = true) : ∀ n, inB b (itC L c w n) = true
  | 0 => h
  | n + 1 => by
    show inB b (nxt L _ w) = true
    unfold nxt
    cases e : move L (itC L c w n) w with
    | none => exact it_hit c w h n
    | some c' =>
      obtain ⟨_, _, _, hq⟩ := A.move_some e
      exact A.hit_iff.mp hq
theorem stuck (c : Ce) (w : Wy) (k : Nat) (h : move L (itC L c w k) w = none) : ∀ j, k ≤ j → itC L c w j = itC L c w k := by
  intro j hj
  induction j with
  | zero => rw [show k = 0 by omega]
  | succ j ih =>
    by_cases e : k = j + 1
    · rw [e]
    · have := ih (by omega)
      show nxt L (itC L c w j) w = _
      rw [this]
      unfold nxt
      rw [h]; rfl
theorem all_moved (c : Ce) (w : Wy) (n : Nat) (h : (move L (itC L c w n) w).isSome = true) : ∀ k, k < n + 1 → (move L (itC L c w k) w).isSome = true := by
  intro k hk
  cases e : move L (itC L c w k) w with
  | some c' => rfl
  | none =>
    have := A.stuck c w k e n (by omega)
    rw [this, e] at h
    cases h
end Arr
end G58
end S47
noncomputable section S48
namespace G58
open PySem PySem.Spec PyProof.Rows L2 PL
variable (K : PySem.W.Frag)
theorem flat_len {α β : Type} (f : α → List β) (b : Nat) : ∀ (ps : List α), (∀ p ∈ ps, (f p).length ≤ b) → (ps.flatMap f).length ≤ ps.length * b
  | [], _ => by simp
  | p :: ps, h => by
    have := flat_len f b ps fun q hq => h q (List.mem_cons_of_mem _ hq)
    have := h p List.mem_cons_self
    rw [List.flatMap_cons, List.length_append, List.length_cons, Nat.succ_mul]
    omega
theorem names_len : ∀ (n : Nat) (t : Tr n), WF n t → (namesT n t).length ≤ 3 ^ n := by
  intro n
  induction n with
  | zero => intro t _; exact Nat.le_refl _
  | succ n ih =>
    intro t hwf
    have h1 : 1 ≤ 3 ^ (n + 1) := Nat.one_le_pow _ _ (by omega)
    revert hwf
    match (t : Nd (Tr n)) with
    | .win x => intro _; exact h1
    | .grp k f ps =>
      intro hwf
      obtain ⟨hf, h2, h3, he⟩ := (hwf : f < ps.length ∧ (k ≠ .tabs → 2 ≤ ps.length) ∧ ps.length ≤ 3 ∧ ∀ p ∈ ps, 1 ≤ p.1 ∧ p.1 ≤ 12 ∧ WF n p.2 ∧ kindOf n p.2 ≠ some k)
      have := flat_len (fun p : Int × Tr n => namesT n p.2) (3 ^ n) ps fun p hp => ih _ (he p hp).2.2.1
      show (ps.flatMap fun p => namesT n p.2).length ≤ 3 ^ (n + 1)
      rw [Nat.pow_succ]
      have h4 : ps.length * 3 ^ n ≤ 3 * 3 ^ n := Nat.mul_le_mul_right _ h3
      omega
theorem inner_all (n : Nat) (k : Kd) (f : Nat) (ps : List (Int × Tr n)) (h3 : ps.length ≤ 3) : m_inner_trees K [enc (n + 1) (Nd.grp k f ps : Nd (Tr n))] = .ok (.list (ps.map fun p => enc n p.2)) := by
  cases k with
  | tabs => exact inner_tabs K f _
  | row => exact inner_rc K n .row (fun z => nomatch z) ps h3
  | col => exact inner_rc K n .col (fun z => nomatch z) ps h3
theorem hd_item (n : Nat) (t : Tr n) : itemOf (enc n t) (.int 0) = .ok (.str (hdT n t)) := by
  obtain ⟨r, _, er⟩ := enc_hd n t
  rw [er]; exact item_natT _ 0 _ rfl
theorem pow3 {n : Nat} (h : n ≤ 4) : 3 ^ n ≤ 81 := by
  have : n = 0 ∨ n = 1 ∨ n = 2 ∨ n = 3 ∨ n = 4 := by omega
  rcases this with rfl | rfl | rfl | rfl | rfl <;> decide
theorem names_of_ok : ∀ (n m : Nat), n < m → n ≤ 4 → ∀ t : Tr n, WF n t → r_names_of K m [enc n t] = .ok (.list ((namesT n t).map D.str)) := by
  intro n
  induction n with
  | zero =>
    intro m hm _ t _
    obtain ⟨m, rfl⟩ : ∃ m', m = m' + 1 := ⟨m - 1, by omega⟩
    exact leaf m t
  | succ n ih =>
    intro m hm h4 t hwf
    obtain ⟨m, rfl⟩ : ∃ m', m = m' + 1 := ⟨m - 1, by omega⟩
    revert hwf
    match (t : Nd (Tr n)) with
    | .win x => intro _; exact leaf m x
    | .grp k f ps =>
      intro hwf
      obtain ⟨hf, h2, h3, he⟩ := (hwf : f < ps.length ∧ (k ≠ .tabs → 2 ≤ ps.length) ∧ ps.length ≤ 3 ∧ ∀ p ∈ ps, 1 ≤ p.1 ∧ p.1 ≤ 12 ∧ WF n p.2 ∧ kindOf n p.2 ≠ some k)
      have hin := inner_all K n k f ps h3
      have hhd : itemOf (enc (n + 1) (Nd.grp k f ps : Nd (Tr n))) (.int 0) = .ok (.str (kname k)) := hd_item (n + 1) (Nd.grp k f ps : Nd (Tr n))
      have ek := eq_kw k
      obtain ⟨T, hT⟩ : ∃ T, T = enc (n + 1) (Nd.grp k f ps : Nd (Tr n)) := ⟨_, rfl⟩
      have p3 := pow3 (n := n) (by omega)
      have step : ∀ (i : Nat) (d : D) (c : Cells), (ps.map fun p => enc n p.2)[i]? = some d → (∃ x, c = [.fz T, .ow (.list (((ps.take (0 + i)).flatMap fun p => namesT n p.2).map D.str)), x]) →
          ∃ c1, gN 2 d c = some c1 ∧ ∃ c2, (b_names_of_1 (m_inner_trees K) (r_names_of K m) c1 = .ok (.nx c2) ∨ b_names_of_1 (m_inner_trees K) (r_names_of K m) c1 = .ok (.ct c2)) ∧ ∃ x, c2 = [.fz T, .ow (.list (((ps.take (0 + i + 1)).flatMap fun p => namesT n p.2).map D.str)), x] := by
        intro i d c hd ⟨x, ec⟩
        subst ec
        rw [List.getElem?_map] at hd
        obtain ⟨p, hp, rfl⟩ := Option.map_eq_some_iff.mp hd
        have hm : p ∈ ps := List.mem_of_getElem? hp
        have e := ih m (by omega) (by omega) p.2 (he p hm).2.2.1
        have hi := (List.getElem?_eq_some_iff.mp hp).1
        have l1 : ((ps.take i).flatMap fun p => namesT n p.2).length ≤ 3 * 81 := by
          have := flat_len (fun p : Int × Tr n => namesT n p.2) 81 (ps.take i) fun q hq => Nat.le_trans (names_len n _ (he q (List.mem_of_mem_take hq)).2.2.1) p3
          have h5 : (ps.take i).length ≤ 3 := by rw [List.length_take]; omega
          have := Nat.mul_le_mul_right 81 h5
          omega
        have l2 := names_len n _ (he p hm).2.2.1
        have hl : ((ps.take i).flatMap fun p => namesT n p.2).length + (namesT n p.2).length ≤ lim := by unfold lim; omega
        refine ⟨_, rfl, [.fz T, .ow (.list (((ps.take (0 + i + 1)).flatMap fun p => namesT n p.2).map D.str)), .fz (enc n p.2)], .inl ?_, _, rfl⟩
        rw [Nat.zero_add, List.take_add_one, hp, List.flatMap_append]
        unfold b_names_of_1
        generalize (ps.take i).flatMap (fun p => namesT n p.2) = A at hl ⊢
        simp [extS, rdV, e, hl]
      obtain ⟨c', e, x, ec⟩ := loop_inv (g := gN 2) (fb := b_names_of_1 (m_inner_trees K) (r_names_of K m)) (fun j c => ∃ x, c = [.fz T, .ow (.list (((ps.take j).flatMap fun p => namesT n p.2).map D.str)), x]) (items := ps.map fun p => enc n p.2) (c := [.fz T, .ow (.list []), .un]) 0 ⟨.un, by simp⟩ step
      subst ec
      rw [List.length_map, Nat.zero_add, List.take_length] at e
      rw [← hT] at hin hhd
      show a_names_of _ _ [enc (n + 1) (Nd.grp k f ps : Nd (Tr n))] = _
      rw [← hT]
      have hin' : m_inner_trees K [T] = .ok (.list (ps.map fun p => enc n p.2)) := hin
      have l0 : (0 : Nat) ≤ lim := Nat.zero_le _
      unfold a_names_of f_names_of
      generalize (ps.map fun p => enc n p.2) = Q at hin' e
      generalize hN : (ps.flatMap fun p => namesT n p.2) = N at e
      have : namesT (n + 1) (Nd.grp k f ps : Nd (Tr n)) = N := hN
      rw [this]
      simp [cellsN, rdV, rdB, hhd, ek, hin', e, mkLst, l0]
where
  leaf (m : Nat) (x : Str) : a_names_of (m_inner_trees K) (r_names_of K m) [wD x] = .ok (.list [.str x]) := by
    have i0 : itemOf (wD x) (.int 0) = .ok (.str "win") := rfl
    have i1 : itemOf (wD x) (.int 1) = .ok (.str x) := rfl
    have ew := eq_ww
    have l1 : (1 : Nat) ≤ lim := by decide
    unfold a_names_of f_names_of
    simp [cellsN, rdV, rdB, i0, i1, ew, mkLst, l1]
theorem nodup16 : names16.Nodup := by decide +kernel
theorem names_nodup {n u u' : Nat} {t : Tr n} (h : namesT n t = (names16.drop u).take (u' - u)) : (namesT n t).Nodup := by
  rw [h]
  exact (nodup16.sublist (List.drop_sublist _ _)).sublist (List.take_sublist _ _)
theorem names_len16 {n u u' : Nat} {t : Tr n} (h : namesT n t = (names16.drop u).take (u' - u)) : (namesT n t).length ≤ 16 := by
  rw [h, List.length_take, List.length_drop]
  have : names16.length = 16 := rfl
  omega
theorem is_layout_ok (n : Nat) (hn : n ≤ 4) (t : Tr n) (hwf : WF n t) (hnd : (namesT n t).Nodup) (h16 : (namesT n t).length ≤ 16) : m_is_layout K [enc n t] = .ok (.bool true) := by
  have h1 : m__is_tree K [enc n t, .int 8] = .ok (.bool true) := is_tree_ok K n 20 (by omega) t 8 hwf (by omega)
  have h2 : m_names_of K [enc n t] = .ok (.list ((namesT n t).map D.str)) := names_of_ok K n 20 (by omega) hn t hwf
  generalize namesT n t = N at h2 hnd h16
  generalize enc n t = T at h1 h2
  have hc : compDL (gN 2) (fun _ => R.ok true) (e_is_layout_1 (m__is_tree K) (m_names_of K)) (e_is_layout_2 (m__is_tree K) (m_names_of K)) [.fz T, .fz (.list (N.map D.str)), .un] (N.map D.str) [] = .ok (N.map fun x => (.inr x, .bool true)) := by
    have := compD_map (g := gN 2) (t := fun _ => R.ok true) (fk := e_is_layout_1 (m__is_tree K) (m_names_of K)) (fv := e_is_layout_2 (m__is_tree K) (m_names_of K)) (c := [.fz T, .fz (.list (N.map D.str)), .un]) (fun _ => true) D.str (fun x => .inr x) (fun _ => .bool true) (as := N) []
      (fun x hx => ⟨_, rfl, rfl, fun _ => ⟨rfl, rfl⟩⟩) (by
        rw [List.filter_eq_self.mpr fun _ _ => rfl, List.map_nil, List.nil_append]
        exact List.Pairwise.map _ (fun a b h z => h (Sum.inr.inj z)) hnd)
    rw [List.filter_eq_self.mpr fun _ _ => rfl, List.nil_append] at this
    exact this
  have hl : N.length ≤ lim := by unfold lim; omega
  have hle : ((N.length : Int) ≤ 16) := by omega
  show a_is_layout _ _ _ = _
  unfold a_is_layout f_is_layout
  generalize m__is_tree K = A at *
  generalize m_names_of K = B at *
  have hol : oLen [.dict (N.map fun x => (Sum.inr x, D.bool true))] = .ok (.int (N.length : Int)) := by
    show R.ok (D.int _) = _
    rw [List.length_map]
  simp [cellsN, rdV, rdB, h1, h2, hc, hl, hle, hol]
theorem check_layout_ok (n : Nat) (hn : n ≤ 4) (t : Tr n) (hwf : WF n t) (hnd : (namesT n t).Nodup) (h16 : (namesT n t).length ≤ 16) : m_check_layout K [enc n t] = .ok .none := by
  have h := is_layout_ok K n hn t hwf hnd h16
  show a_check_layout _ _ _ = _
  unfold a_check_layout f_check_layout
  simp [cellsN, rdV, rdB, h]
def boD (b : Bo) : D := .tuple [.int b.x, .int b.y, .int b.w, .int b.h]
theorem is_box_ok (b : Bo) (h : 0 ≤ b.x ∧ b.x ≤ 1000 ∧ 0 ≤ b.y ∧ b.y ≤ 1000 ∧ 0 ≤ b.w ∧ b.w ≤ 1000 ∧ 0 ≤ b.h ∧ b.h ≤ 1000) : m_is_box K [boD b] = .ok (.bool true) := by
  have hw : ∀ v : Int, 0 ≤ v → v ≤ 1000 → m_is_whole K [.int v, .int 0, .int 1000] = .ok (.bool true) := fun v h0 h1 => by
    rw [is_whole_int, decide_eq_true ⟨h0, h1⟩]
  have hc : compL (gN 1) (fun _ => R.ok true) (e_is_box_1 (m_is_whole K)) [.int b.x, .int b.y, .int b.w, .int b.h] [.fz (boD b), .un] = .ok ([b.x, b.y, b.w, b.h].map fun _ => D.bool true) := by
    refine comp_all (as := [b.x, b.y, b.w, b.h]) D.int (fun _ => D.bool true) fun v hv => ⟨_, rfl, rfl, ?_⟩
    have : 0 ≤ v ∧ v ≤ 1000 := by
      simp only [List.mem_cons, List.not_mem_nil, or_false] at hv
      omega
    have := hw v this.1 this.2
    unfold e_is_box_1
    simp [rdV, this]
  have hall := all_true [b.x, b.y, b.w, b.h]
  have ty : oIsi "tuple" (boD b) = .ok (.bool true) := rfl
  have ln : oLen [boD b] = .ok (.int 4) := rfl
  have it : asIt (boD b) = .ok [.int b.x, .int b.y, .int b.w, .int b.h] := rfl
  have l4 : (4 : Nat) ≤ lim := by decide
  show a_is_box _ _ = _
  unfold a_is_box f_is_box
  generalize ([b.x, b.y, b.w, b.h].map fun _ => D.bool true) = Q at hc hall
  simp [cellsN, rdV, rdB, ty, ln, it, hc, hall, l4]
theorem check_box_ok (n : Nat) (hn : n ≤ 4) (t : Tr n) (hwf : WF n t) (hnd : (namesT n t).Nodup) (h16 : (namesT n t).length ≤ 16) (b : Bo) (h : 0 ≤ b.x ∧ b.x ≤ 1000 ∧ 0 ≤ b.y ∧ b.y ≤ 1000 ∧ 0 ≤ b.w ∧ b.w ≤ 1000 ∧ 0 ≤ b.h ∧ b.h ≤ 1000) : m_check_box K [enc n t, boD b] = .ok .none := by
  have h1 := check_layout_ok K n hn t hwf hnd h16
  have h2 := is_box_ok K b h
  show a_check_box _ _ _ _ = _
  unfold a_check_box f_check_box
  simp [cellsN, rdV, rdB, h1, h2]
end G58
end S48
noncomputable section S49
namespace G58
open PySem PySem.Spec PyProof.Rows L2 PL
variable (K : PySem.W.Frag)
theorem sum12 (ws : List Int) (h : ∀ w ∈ ws, 1 ≤ w ∧ w ≤ 12) : ws.sum ≤ 12 * ws.length := by
  induction ws with
  | nil => simp
  | cons w ws ih =>
    have := h w List.mem_cons_self
    have := ih fun v hv => h v (List.mem_cons_of_mem _ hv)
    rw [List.sum_cons, List.length_cons]; omega
theorem take_cast {α : Type} (xs : List α) (i : Nat) : cut xs none (some ((i : Int) + 1)) = xs.take (i + 1) := cut_to xs (i + 1)
/-- what sizes_of's ends are -/
def endsD (ws : List Int) (size : Int) (j : Nat) : List D := (List.range (j + 1)).map fun k => D.int (eAt ws size k)
theorem ends_snoc (ws : List Int) (size : Int) (j : Nat) : endsD ws size j ++ [D.int (eAt ws size (j + 1))] = endsD ws size (j + 1) := by
  unfold endsD
  rw [List.range_succ (n := j + 1), List.map_append]; rfl
def sizesI (ws : List Int) (size : Int) : List Int := (List.range ws.length).map fun k => eAt ws size (k + 1) - eAt ws size k
theorem sizes_of_ok (ws : List Int) (size : Int) (hne : ws ≠ []) (hl : ws.length ≤ 3) (hw : ∀ w ∈ ws, 1 ≤ w ∧ w ≤ 12) (h0 : 0 ≤ size) (h1 : size ≤ 1000) :
    m_sizes_of K [.list (ws.map D.int), .int size] = .ok (.list ((sizesI ws size).map D.int)) := by
  have hs := sum_pos ws (fun w h => (hw w h).1) hne
  have hs2 := sum12 ws hw
  have hs3 : ws.sum < 1073741824 := by omega
  have hsum : oSum [.list (ws.map D.int)] = .ok (.int ws.sum) := by
    show (match intsOf (ws.map D.int) with | some ns => R.ok (D.int ns.sum) | none => .bad) = _
    rw [intsOf_ints]
  have step : ∀ (i : Nat) (d : D) (c : Cells), (rangeD 0 ws.length)[i]? = some d → (∃ x, c = [.fz (.list (ws.map D.int)), .fz (.int size), .fz (.int ws.sum), .ow (.list (endsD ws size (0 + i))), x, .un, .un]) →
      ∃ c1, gN 4 d c = some c1 ∧ ∃ c2, (b_sizes_of_1 c1 = .ok (.nx c2) ∨ b_sizes_of_1 c1 = .ok (.ct c2)) ∧ ∃ x, c2 = [.fz (.list (ws.map D.int)), .fz (.int size), .fz (.int ws.sum), .ow (.list (endsD ws size (0 + i + 1))), x, .un, .un] := by
    intro i d c hd ⟨x, ec⟩
    subst ec
    obtain ⟨hi, rfl⟩ := range_get hd
    refine ⟨_, rfl, [.fz (.list (ws.map D.int)), .fz (.int size), .fz (.int ws.sum), .ow (.list (endsD ws size (0 + i + 1))), .fz (.int i), .un, .un], .inl ?_, _, rfl⟩
    have e1 : oSum [.list (List.take (i + 1) (ws.map D.int))] = .ok (.int (ws.take (i + 1)).sum) := by
      rw [← List.map_take]
      show (match intsOf ((ws.take (i + 1)).map D.int) with | some ns => R.ok (D.int ns.sum) | none => .bad) = _
      rw [intsOf_ints]
    have e2 : size.natAbs ≤ big := by unfold big; omega
    have e3 : (endsD ws size i).length < lim := by
      unfold endsD lim; rw [List.length_map, List.length_range]; omega
    have e4 := ends_snoc ws size i
    have e5 : eAt ws size (i + 1) = size * (ws.take (i + 1)).sum / ws.sum := rfl
    rw [e5] at e4
    rw [Nat.zero_add]
    unfold b_sizes_of_1
    simp [appS, rdB, oSlice, take_cast, e1, e2, hs, hs3, e3, e4]
  obtain ⟨c', e, x, ec⟩ := loop_inv (g := gN 4) (fb := b_sizes_of_1) (fun j c => ∃ x, c = [.fz (.list (ws.map D.int)), .fz (.int size), .fz (.int ws.sum), .ow (.list (endsD ws size j)), x, .un, .un]) (items := rangeD 0 ws.length)
    (c := [.fz (.list (ws.map D.int)), .fz (.int size), .fz (.int ws.sum), .ow (.list [.int 0]), .un, .un, .un]) 0 ⟨.un, by unfold endsD; simp [eAt_zero]⟩ step
  subst ec
  rw [range_len, Nat.zero_add] at e
  have hz : ((endsD ws size ws.length).zip ((endsD ws size ws.length).drop 1)).map (fun p => D.tuple [p.1, p.2]) = (List.range ws.length).map fun k => D.tuple [.int (eAt ws size k), .int (eAt ws size (k + 1))] := by
    unfold endsD
    apply List.ext_getElem
    · simp
    · intro i h1 h2
      simp [Nat.add_comm]
  have hcut : cut (endsD ws size ws.length) (some 1) none = (endsD ws size ws.length).drop 1 := cut_from _ 1
  have hzd : zipD [.list (endsD ws size ws.length), .list ((endsD ws size ws.length).drop 1)] = .ok ((List.range ws.length).map fun k => D.tuple [.int (eAt ws size k), .int (eAt ws size (k + 1))]) := by
    show R.ok _ = _
    rw [hz]
  have hcomp : ∀ E x, compL (gT 2 (gsCons (gN 5) (gsCons (gN 6) gsNil))) (fun _ => R.ok true) e_sizes_of_1 ((List.range ws.length).map fun k => D.tuple [.int (eAt ws size k), .int (eAt ws size (k + 1))]) [.fz (.list (ws.map D.int)), .fz (.int size), .fz (.int ws.sum), E, x, .un, .un] = .ok ((List.range ws.length).map fun k => .int (eAt ws size (k + 1) - eAt ws size k)) := by
    intro E x
    refine comp_all (fun k : Nat => D.tuple [.int (eAt ws size k), .int (eAt ws size (k + 1))]) (fun k => .int (eAt ws size (k + 1) - eAt ws size k)) fun k hk => ⟨_, rfl, rfl, ?_⟩
    unfold e_sizes_of_1
    simp [rdB]
  have hcomp := hcomp (.fz (.list (endsD ws size ws.length))) x
  have er : rng1 [.int (ws.length : Int)] = .ok (rangeD 0 ws.length) := by
    show (if (ws.length : Int).natAbs ≤ big then R.ok (rangeD 0 (ws.length : Int).toNat) else .bad) = _
    rw [if_pos (by unfold big; omega)]; rfl
  have hzl : ((List.range ws.length).map fun k => D.tuple [.int (eAt ws size k), .int (eAt ws size (k + 1))]).length ≤ lim := by
    rw [List.length_map, List.length_range]; unfold lim; omega
  have hres : (sizesI ws size).map D.int = (List.range ws.length).map fun k => .int (eAt ws size (k + 1) - eAt ws size k) := by
    unfold sizesI; rw [List.map_map]; rfl
  rw [hres]
  have l1 : (1 : Nat) ≤ lim := by decide
  show a_sizes_of _ = _
  unfold a_sizes_of f_sizes_of
  generalize ((List.range ws.length).map fun k => D.tuple [.int (eAt ws size k), .int (eAt ws size (k + 1))]) = Z at *
  generalize ((List.range ws.length).map fun k => D.int (eAt ws size (k + 1) - eAt ws size k)) = Y at *
  generalize endsD ws size ws.length = E at *
  rw [List.drop_one] at hzd hcut
  simp [cellsN, rdV, rdB, hsum, mkLst, l1, er, e, oSlice, hcut, hzd, hcomp, hzl, frz]
theorem eq_row (k : Kd) (hk : k ≠ .tabs) : oEq (.str (kname k)) (.str "row") = .ok (.bool (decide (k = .row))) := by
  rw [oEq_str (lay_k k) lay_row]
  congr 2
  have := kname_inj k .row
  simp only [decide_eq_decide]; exact this
theorem eq_col (k : Kd) (hk : k ≠ .tabs) : oEq (.str (kname k)) (.str "col") = .ok (.bool (decide (k = .col))) := by
  rw [oEq_str (lay_k k) lay_col]
  congr 2
  have := kname_inj k .col
  simp only [decide_eq_decide]; exact this
theorem inner_boxes_tabs (f : Int) (qs : List D) (hq : qs.length ≤ 3) (b : Bo) : m_inner_boxes K [.tuple [.str "tabs", .int f, .tuple qs], boD b] = .ok (.list (List.replicate qs.length (boD b))) := by
  have i0 : itemOf (.tuple [.str "tabs", .int f, .tuple qs]) (.int 0) = .ok (.str "tabs") := rfl
  have i2 : itemOf (.tuple [.str "tabs", .int f, .tuple qs]) (.int 2) = .ok (.tuple qs) := rfl
  have e2 : oEq (.str "tabs") (.str "tabs") = .ok (.bool true) := by rw [oEq_str lay_tabs lay_tabs]; rfl
  have ln : oLen [.tuple qs] = .ok (.int (qs.length : Int)) := rfl
  have hm : oMul2 (.list [boD b]) (.int (qs.length : Int)) = .ok (.list (List.replicate qs.length (boD b))) := by
    show (if [boD b].length * (qs.length : Int).toNat ≤ lim ∧ (qs.length : Int).natAbs ≤ lim then R.ok (D.list (List.replicate (qs.length : Int).toNat [boD b]).flatten) else .bad) = _
    rw [if_pos (by unfold lim; simp only [List.length_singleton]; omega)]
    congr 2
    simp
  have l1 : (1 : Nat) ≤ lim := by decide
  have hb : gT 4 (gsCons (gN 2) (gsCons (gN 3) (gsCons (gN 4) (gsCons (gN 5) gsNil)))) (boD b) [.fz (.tuple [.str "tabs", .int f, .tuple qs]), .fz (boD b), .un, .un, .un, .un, .un, .un, .un] = some [.fz (.tuple [.str "tabs", .int f, .tuple qs]), .fz (boD b), .fz (.int b.x), .fz (.int b.y), .fz (.int b.w), .fz (.int b.h), .un, .un, .un] := rfl
  show a_inner_boxes _ _ = _
  unfold a_inner_boxes f_inner_boxes
  simp [cellsN, rdV, rdB, i0, i2, e2, ln, hm, mkLst, l1, hb]
theorem sizes_get (ws : List Int) (size : Int) (i : Nat) (hi : i < ws.length) : (sizesI ws size)[i]? = some (eAt ws size (i + 1) - eAt ws size i) := by
  unfold sizesI
  rw [List.getElem?_map, List.getElem?_range hi]; rfl
theorem take_snoc {α : Type} (xs : List α) (i : Nat) (a : α) (h : xs[i]? = some a) : xs.take (i + 1) = xs.take i ++ [a] := by
  rw [List.take_add_one, h]; rfl
theorem inner_boxes_rc (n : Nat) (k : Kd) (hk : k ≠ .tabs) (ps : List (Int × Tr n)) (h2 : 2 ≤ ps.length) (h3 : ps.length ≤ 3) (hw : ∀ p ∈ ps, 1 ≤ p.1 ∧ p.1 ≤ 12) (b : Bo) (b0 : 0 ≤ b.w ∧ b.w ≤ 1000) (b1 : 0 ≤ b.h ∧ b.h ≤ 1000) :
    m_inner_boxes K [.tuple [.str (kname k), .tuple (ps.map fun p => .tuple [.int p.1, enc n p.2])], boD b] = .ok (.list ((innerB k (ps.map (·.1)) b).map boD)) := by
  obtain ⟨qs, hq⟩ : ∃ qs, qs = ps.map fun p => D.tuple [.int p.1, enc n p.2] := ⟨_, rfl⟩
  rw [← hq]
  have hl : qs.length = ps.length := by rw [hq, List.length_map]
  obtain ⟨ws, hws⟩ : ∃ ws, ws = ps.map (·.1) := ⟨_, rfl⟩
  rw [← hws]
  have hwl : ws.length = ps.length := by rw [hws, List.length_map]
  have hww : ∀ w ∈ ws, 1 ≤ w ∧ w ≤ 12 := fun w h => by
    rw [hws] at h
    obtain ⟨p, hp, rfl⟩ := List.mem_map.mp h
    exact hw p hp
  have hne : ws ≠ [] := fun z => by rw [z] at hwl; simp at hwl; omega
  have i0 : itemOf (.tuple [.str (kname k), .tuple qs]) (.int 0) = .ok (.str (kname k)) := rfl
  have i1 : itemOf (.tuple [.str (kname k), .tuple qs]) (.int 1) = .ok (.tuple qs) := rfl
  have ek := eq_kt k hk
  have er := eq_row k hk
  have ec := eq_col k hk
  have hql : qs.length ≤ lim := by unfold lim; omega
  have hb : gT 4 (gsCons (gN 2) (gsCons (gN 3) (gsCons (gN 4) (gsCons (gN 5) gsNil)))) (boD b) [.fz (.tuple [.str (kname k), .tuple qs]), .fz (boD b), .un, .un, .un, .un, .un, .un, .un] = some [.fz (.tuple [.str (kname k), .tuple qs]), .fz (boD b), .fz (.int b.x), .fz (.int b.y), .fz (.int b.w), .fz (.int b.h), .un, .un, .un] := rfl
  have l0 : (0 : Nat) ≤ lim := Nat.zero_le _
  have l4 : (4 : Nat) ≤ lim := by decide
  have hinlen := inner_len k ws b
  have hlow : ∀ i : Nat, i < ws.length → ((innerB k ws b).map boD).take i = ((innerB k ws b).take i).map boD := fun i _ => List.map_take.symm
  cases k with
  | tabs => exact absurd rfl hk
  | row =>
    have hcw : ∀ E, compL (gN 8) (fun _ => R.ok true) (e_inner_boxes_1 (m_sizes_of K)) qs [.fz (.tuple [.str (kname .row), .tuple qs]), .fz (boD b), .fz (.int b.x), .fz (.int b.y), .fz (.int b.w), .fz (.int b.h), E, .un, .un] = .ok (ws.map D.int) := by
      intro E
      rw [hq, hws, List.map_map]
      refine comp_all (fun p : Int × Tr n => D.tuple [.int p.1, enc n p.2]) (fun p => D.int p.1) fun p hp => ⟨_, rfl, rfl, ?_⟩
      have i3 : itemOf (.tuple [.int p.1, enc n p.2]) (.int 0) = .ok (.int p.1) := rfl
      unfold e_inner_boxes_1
      simp [rdB, i3]
    have hsz := sizes_of_ok K ws b.w hne (by omega) hww b0.1 b0.2
    have step : ∀ (i : Nat) (d : D) (c : Cells), ((sizesI ws b.w).map D.int)[i]? = some d → (∃ x, c = [.fz (.tuple [.str (kname .row), .tuple qs]), .fz (boD b), .fz (.int (b.x + eAt ws b.w (0 + i))), .fz (.int b.y), .fz (.int b.w), .fz (.int b.h), .ow (.list (((innerB .row ws b).take (0 + i)).map boD)), x, .un]) →
        ∃ c1, gN 7 d c = some c1 ∧ ∃ c2, (b_inner_boxes_1 (m_sizes_of K) c1 = .ok (.nx c2) ∨ b_inner_boxes_1 (m_sizes_of K) c1 = .ok (.ct c2)) ∧ ∃ x, c2 = [.fz (.tuple [.str (kname .row), .tuple qs]), .fz (boD b), .fz (.int (b.x + eAt ws b.w (0 + i + 1))), .fz (.int b.y), .fz (.int b.w), .fz (.int b.h), .ow (.list (((innerB .row ws b).take (0 + i + 1)).map boD)), x, .un] := by
      intro i d c hd ⟨x, ec⟩
      subst ec
      have hi : i < ws.length := by
        have := (List.getElem?_eq_some_iff.mp hd).1
        simpa [sizesI] using this
      rw [List.getElem?_map, sizes_get ws b.w i hi] at hd
      cases hd
      refine ⟨_, rfl, [.fz (.tuple [.str (kname .row), .tuple qs]), .fz (boD b), .fz (.int (b.x + eAt ws b.w (0 + i + 1))), .fz (.int b.y), .fz (.int b.w), .fz (.int b.h), .ow (.list (((innerB .row ws b).take (0 + i + 1)).map boD)), .fz (.int (eAt ws b.w (i + 1) - eAt ws b.w i)), .un], .inl ?_, _, rfl⟩
      rw [Nat.zero_add]
      have hg : (innerB .row ws b)[i]? = some ⟨b.x + eAt ws b.w i, b.y, eAt ws b.w (i + 1) - eAt ws b.w i, b.h⟩ := by
        show ((List.range ws.length).map _)[i]? = _
        rw [List.getElem?_map, List.getElem?_range hi]; rfl
      rw [take_snoc _ _ _ hg, List.map_append]
      have hll : (((innerB .row ws b).take i).map boD).length < lim := by
        rw [List.length_map, List.length_take]; unfold lim; omega
      generalize ((innerB .row ws b).take i).map boD = E at hll ⊢
      have ex : b.x + eAt ws b.w i + (eAt ws b.w (i + 1) - eAt ws b.w i) = b.x + eAt ws b.w (i + 1) := by omega
      unfold b_inner_boxes_1
      simp [appS, augS, rdV, mkTup, l4, hll, ex, boD]
    obtain ⟨c', e, x, ec'⟩ := loop_inv (g := gN 7) (fb := b_inner_boxes_1 (m_sizes_of K)) (fun j c => ∃ x, c = [.fz (.tuple [.str (kname .row), .tuple qs]), .fz (boD b), .fz (.int (b.x + eAt ws b.w j)), .fz (.int b.y), .fz (.int b.w), .fz (.int b.h), .ow (.list (((innerB .row ws b).take j).map boD)), x, .un]) (items := (sizesI ws b.w).map D.int)
      (c := [.fz (.tuple [.str (kname .row), .tuple qs]), .fz (boD b), .fz (.int b.x), .fz (.int b.y), .fz (.int b.w), .fz (.int b.h), .ow (.list []), .un, .un]) 0 ⟨.un, by simp [eAt_zero]⟩ step
    subst ec'
    have hsl : ((sizesI ws b.w).map D.int).length = ws.length := by simp [sizesI]
    rw [hsl, Nat.zero_add, ← hinlen, List.take_length] at e
    generalize (innerB Kd.row ws b).map boD = BS at e ⊢
    have hcw := hcw (.ow (.list []))
    show a_inner_boxes _ _ = _
    unfold a_inner_boxes f_inner_boxes
    simp [cellsN, rdV, rdB, i0, i1, ek, er, ec, hb, mkLst, l0, hql, hcw, hsz, e]
  | col =>
    have hcw : ∀ E, compL (gN 8) (fun _ => R.ok true) (e_inner_boxes_2 (m_sizes_of K)) qs [.fz (.tuple [.str (kname .col), .tuple qs]), .fz (boD b), .fz (.int b.x), .fz (.int b.y), .fz (.int b.w), .fz (.int b.h), E, .un, .un] = .ok (ws.map D.int) := by
      intro E
      rw [hq, hws, List.map_map]
      refine comp_all (fun p : Int × Tr n => D.tuple [.int p.1, enc n p.2]) (fun p => D.int p.1) fun p hp => ⟨_, rfl, rfl, ?_⟩
      have i3 : itemOf (.tuple [.int p.1, enc n p.2]) (.int 0) = .ok (.int p.1) := rfl
      unfold e_inner_boxes_2
      simp [rdB, i3]
    have hsz := sizes_of_ok K ws b.h hne (by omega) hww b1.1 b1.2
    have step : ∀ (i : Nat) (d : D) (c : Cells), ((sizesI ws b.h).map D.int)[i]? = some d → (∃ x, c = [.fz (.tuple [.str (kname .col), .tuple qs]), .fz (boD b), .fz (.int b.x), .fz (.int (b.y + eAt ws b.h (0 + i))), .fz (.int b.w), .fz (.int b.h), .ow (.list (((innerB .col ws b).take (0 + i)).map boD)), x, .un]) →
        ∃ c1, gN 7 d c = some c1 ∧ ∃ c2, (b_inner_boxes_2 (m_sizes_of K) c1 = .ok (.nx c2) ∨ b_inner_boxes_2 (m_sizes_of K) c1 = .ok (.ct c2)) ∧ ∃ x, c2 = [.fz (.tuple [.str (kname .col), .tuple qs]), .fz (boD b), .fz (.int b.x), .fz (.int (b.y + eAt ws b.h (0 + i + 1))), .fz (.int b.w), .fz (.int b.h), .ow (.list (((innerB .col ws b).take (0 + i + 1)).map boD)), x, .un] := by
      intro i d c hd ⟨x, ec⟩
      subst ec
      have hi : i < ws.length := by
        have := (List.getElem?_eq_some_iff.mp hd).1
        simpa [sizesI] using this
      rw [List.getElem?_map, sizes_get ws b.h i hi] at hd
      cases hd
      refine ⟨_, rfl, [.fz (.tuple [.str (kname .col), .tuple qs]), .fz (boD b), .fz (.int b.x), .fz (.int (b.y + eAt ws b.h (0 + i + 1))), .fz (.int b.w), .fz (.int b.h), .ow (.list (((innerB .col ws b).take (0 + i + 1)).map boD)), .fz (.int (eAt ws b.h (i + 1) - eAt ws b.h i)), .un], .inl ?_, _, rfl⟩
      rw [Nat.zero_add]
      have hg : (innerB .col ws b)[i]? = some ⟨b.x, b.y + eAt ws b.h i, b.w, eAt ws b.h (i + 1) - eAt ws b.h i⟩ := by
        show ((List.range ws.length).map _)[i]? = _
        rw [List.getElem?_map, List.getElem?_range hi]; rfl
      rw [take_snoc _ _ _ hg, List.map_append]
      have hll : (((innerB .col ws b).take i).map boD).length < lim := by
        rw [List.length_map, List.length_take]; unfold lim; omega
      generalize ((innerB .col ws b).take i).map boD = E at hll ⊢
      have ex : b.y + eAt ws b.h i + (eAt ws b.h (i + 1) - eAt ws b.h i) = b.y + eAt ws b.h (i + 1) := by omega
      unfold b_inner_boxes_2
      simp [appS, augS, rdV, mkTup, l4, hll, ex, boD]
    obtain ⟨c', e, x, ec'⟩ := loop_inv (g := gN 7) (fb := b_inner_boxes_2 (m_sizes_of K)) (fun j c => ∃ x, c = [.fz (.tuple [.str (kname .col), .tuple qs]), .fz (boD b), .fz (.int b.x), .fz (.int (b.y + eAt ws b.h j)), .fz (.int b.w), .fz (.int b.h), .ow (.list (((innerB .col ws b).take j).map boD)), x, .un]) (items := (sizesI ws b.h).map D.int)
      (c := [.fz (.tuple [.str (kname .col), .tuple qs]), .fz (boD b), .fz (.int b.x), .fz (.int b.y), .fz (.int b.w), .fz (.int b.h), .ow (.list []), .un, .un]) 0 ⟨.un, by simp [eAt_zero]⟩ step
    subst ec'
    have hsl : ((sizesI ws b.h).map D.int).length = ws.length := by simp [sizesI]
    rw [hsl, Nat.zero_add, ← hinlen, List.take_length] at e
    generalize (innerB Kd.col ws b).map boD = BS at e ⊢
    have hcw := hcw (.ow (.list []))
    show a_inner_boxes _ _ = _
    unfold a_inner_boxes f_inner_boxes
    simp [cellsN, rdV, rdB, i0, i1, ek, er, ec, hb, mkLst, l0, hql, hcw, hsz, e]
end G58
end S49
noncomputable section S50
namespace G58
open PySem PySem.Spec PyProof.Rows L2 PL
variable (K : PySem.W.Frag)
def rowD (p : Str × Bo) : D := .tuple [.str p.1, boD p.2]
theorem shown_len : ∀ (n : Nat) (t : Tr n), WF n t → ∀ b, (shownT n t b).length ≤ 3 ^ n := by
  intro n
  induction n with
  | zero => intro t _ b; exact Nat.le_refl _
  | succ n ih =>
    intro t hwf b
    have h1 : 1 ≤ 3 ^ (n + 1) := Nat.one_le_pow _ _ (by omega)
    revert hwf
    match (t : Nd (Tr n)) with
    | .win x => intro _; exact h1
    | .grp k f ps =>
      intro hwf
      obtain ⟨hf, h2, h3, he⟩ := (hwf : f < ps.length ∧ (k ≠ .tabs → 2 ≤ ps.length) ∧ ps.length ≤ 3 ∧ ∀ p ∈ ps, 1 ≤ p.1 ∧ p.1 ≤ 12 ∧ WF n p.2 ∧ kindOf n p.2 ≠ some k)
      rw [Nat.pow_succ]
      have hz : ∀ bs : List Bo, ((ps.zip bs).flatMap fun q => shownT n q.1.2 q.2).length ≤ 3 ^ n * 3 := by
        intro bs
        have h4 := flat_len (fun q : (Int × Tr n) × Bo => shownT n q.1.2 q.2) (3 ^ n) (ps.zip bs) fun q hq => ih _ (he _ (List.of_mem_zip hq).1).2.2.1 _
        have h5 : (ps.zip bs).length ≤ 3 := by rw [List.length_zip]; omega
        have h6 := Nat.mul_le_mul_right (3 ^ n) h5
        omega
      cases k with
      | tabs =>
        have e : ps[f]? = some ps[f] := List.getElem?_eq_getElem hf
        show (match ps[f]? with | some p => shownT n p.2 b | none => []).length ≤ _
        rw [e]
        have := ih _ (he _ (List.getElem_mem hf)).2.2.1 b
        show (shownT n ps[f].2 b).length ≤ _
        omega
      | row => exact hz _
      | col => exact hz _
theorem zipWith_map2 {α β : Type} (f : α → D) (g : β → D) : ∀ (xs : List α) (ys : List β), List.zipWith (fun x y => D.tuple [x, y]) (xs.map f) (ys.map g) = (xs.zip ys).map fun q => .tuple [f q.1, g q.2]
  | [], _ => rfl
  | _ :: _, [] => rfl
  | x :: xs, y :: ys => by
    show _ :: List.zipWith _ (xs.map f) (ys.map g) = _
    rw [zipWith_map2 f g xs ys]; rfl
theorem inner_pos2 (k : Kd) (ws : List Int) (b : Bo) (m : Int) (hw : 0 ≤ b.w ∧ b.w ≤ m) (hh : 0 ≤ b.h ∧ b.h ≤ m) (hws : ∀ w ∈ ws, 1 ≤ w) (hne : ws ≠ []) : ∀ b' ∈ innerB k ws b, (0 ≤ b'.w ∧ b'.w ≤ m) ∧ (0 ≤ b'.h ∧ b'.h ≤ m) := by
  have h0 : ∀ w ∈ ws, 0 ≤ w := fun w h => by have := hws w h; omega
  have hs := sum_pos ws hws hne
  have mono : ∀ (size : Int) (hz : 0 ≤ size) (i j : Nat), i ≤ j → eAt ws size i ≤ eAt ws size j := fun size hz i j hij => by
    induction j with
    | zero => rw [show i = 0 by omega]; exact Int.le_refl _
    | succ j ih =>
      by_cases e : i = j + 1
      · rw [e]; exact Int.le_refl _
      · exact Int.le_trans (ih (by omega)) (eAt_mono ws size hz h0 j)
  have bound : ∀ (size : Int) (hz : 0 ≤ size) (i : Nat), i < ws.length → 0 ≤ eAt ws size (i + 1) - eAt ws size i ∧ eAt ws size (i + 1) - eAt ws size i ≤ size := fun size hz i hi => by
    have a1 := eAt_mono ws size hz h0 i
    have a2 := mono size hz 0 i (by omega)
    have a3 := mono size hz (i + 1) ws.length (by omega)
    rw [eAt_zero] at a2
    rw [eAt_len ws size hs] at a3
    omega
  intro b' hb
  cases k with
  | tabs => rw [(List.mem_replicate.mp hb).2]; exact ⟨hw, hh⟩
  | row =>
    obtain ⟨i, hi, rfl⟩ := List.mem_map.mp hb
    have := bound b.w hw.1 i (by simpa using hi)
    exact ⟨⟨this.1, by show _ - _ ≤ m; omega⟩, hh⟩
  | col =>
    obtain ⟨i, hi, rfl⟩ := List.mem_map.mp hb
    have := bound b.h hh.1 i (by simpa using hi)
    exact ⟨hw, ⟨this.1, by show _ - _ ≤ m; omega⟩⟩
/-- the loop that joins what is placed within -/
theorem placed_loop (A B C : List D → R D) (T bD : D) (n : Nat) (zs : List ((Int × Tr n) × Bo)) (hz : zs.length ≤ 3) (hlen : ∀ q ∈ zs, (shownT n q.1.2 q.2).length ≤ 81)
    (hC : ∀ q ∈ zs, C [enc n q.1.2, boD q.2] = .ok (.list ((shownT n q.1.2 q.2).map rowD))) (x2 x4 x5 : Cell) :
    ∃ y4 y5, loopD (gT 2 (gsCons (gN 4) (gsCons (gN 5) gsNil))) (b__placed_1 A B C) (zs.map fun q => .tuple [enc n q.1.2, boD q.2]) [.fz T, .fz bD, x2, .ow (.list []), x4, x5] = .ok (.nx [.fz T, .fz bD, x2, .ow (.list ((zs.flatMap fun q => shownT n q.1.2 q.2).map rowD)), y4, y5]) := by
  obtain ⟨c', e, y4, y5, ec⟩ := loop_inv (g := gT 2 (gsCons (gN 4) (gsCons (gN 5) gsNil))) (fb := b__placed_1 A B C) (fun j c => ∃ y4 y5, c = [.fz T, .fz bD, x2, .ow (.list (((zs.take j).flatMap fun q => shownT n q.1.2 q.2).map rowD)), y4, y5])
    (items := zs.map fun q => .tuple [enc n q.1.2, boD q.2]) (c := [.fz T, .fz bD, x2, .ow (.list []), x4, x5]) 0 ⟨x4, x5, by simp⟩ (fun i d c hd ⟨y4, y5, ec⟩ => by
      subst ec
      rw [List.getElem?_map] at hd
      obtain ⟨q, hq, rfl⟩ := Option.map_eq_some_iff.mp hd
      have hm := List.mem_of_getElem? hq
      have hi := (List.getElem?_eq_some_iff.mp hq).1
      have e := hC q hm
      have l2 := hlen q hm
      have l1 : ((zs.take i).flatMap fun q => shownT n q.1.2 q.2).length ≤ 3 * 81 := by
        have := flat_len (fun q : (Int × Tr n) × Bo => shownT n q.1.2 q.2) 81 (zs.take i) fun q hq => hlen q (List.mem_of_mem_take hq)
        have h5 : (zs.take i).length ≤ 3 := by rw [List.length_take]; omega
        have := Nat.mul_le_mul_right 81 h5
        omega
      have hl : ((zs.take i).flatMap fun q => shownT n q.1.2 q.2).length + (shownT n q.1.2 q.2).length ≤ lim := by unfold lim; omega
      refine ⟨_, rfl, [.fz T, .fz bD, x2, .ow (.list (((zs.take (0 + i + 1)).flatMap fun q => shownT n q.1.2 q.2).map rowD)), .fz (enc n q.1.2), .fz (boD q.2)], .inl ?_, _, _, rfl⟩
      rw [Nat.zero_add, take_snoc _ _ _ hq, List.flatMap_append]
      generalize (zs.take i).flatMap (fun q => shownT n q.1.2 q.2) = E at hl ⊢
      unfold b__placed_1
      simp [extS, rdV, e, hl])
  subst ec
  rw [List.length_map, Nat.zero_add, List.take_length] at e
  exact ⟨y4, y5, e⟩
theorem placed_leaf (A B C : List D → R D) (x : Str) (b : Bo) : a__placed A B C [wD x, boD b] = .ok (.list ([(x, b)].map rowD)) := by
  have i0 : itemOf (wD x) (.int 0) = .ok (.str "win") := rfl
  have i1 : itemOf (wD x) (.int 1) = .ok (.str x) := rfl
  have ew := eq_ww
  have l1 : (1 : Nat) ≤ lim := by decide
  have l2 : (2 : Nat) ≤ lim := by decide
  unfold a__placed f__placed
  simp [cellsN, rdV, rdB, i0, i1, ew, mkLst, mkTup, l1, l2, rowD]
theorem placed_ok : ∀ (n m : Nat), n < m → n ≤ 4 → ∀ (t : Tr n) (b : Bo), WF n t → (0 ≤ b.w ∧ b.w ≤ 1000) → (0 ≤ b.h ∧ b.h ≤ 1000) → r_placed K m [enc n t, boD b] = .ok (.list ((shownT n t b).map rowD)) := by
  intro n
  induction n with
  | zero =>
    intro m hm _ t b _ _ _
    obtain ⟨m, rfl⟩ : ∃ m', m = m' + 1 := ⟨m - 1, by omega⟩
    exact placed_leaf _ _ _ t b
  | succ n ih =>
    intro m hm h4 t b hwf hw hh
    obtain ⟨m, rfl⟩ : ∃ m', m = m' + 1 := ⟨m - 1, by omega⟩
    revert hwf
    match (t : Nd (Tr n)) with
    | .win x => intro _; exact placed_leaf _ _ _ x b
    | .grp k f ps =>
      intro hwf
      obtain ⟨hf, h2, h3, he⟩ := (hwf : f < ps.length ∧ (k ≠ .tabs → 2 ≤ ps.length) ∧ ps.length ≤ 3 ∧ ∀ p ∈ ps, 1 ≤ p.1 ∧ p.1 ≤ 12 ∧ WF n p.2 ∧ kindOf n p.2 ≠ some k)
      have hin := inner_all K n k f ps h3
      have hhd : itemOf (enc (n + 1) (Nd.grp k f ps : Nd (Tr n))) (.int 0) = .ok (.str (kname k)) := hd_item (n + 1) (Nd.grp k f ps : Nd (Tr n))
      have ek := eq_kw k
      have et := oEq_tabs k
      have p3 := pow3 (n := n) (by omega)
      have hlen : ∀ p ∈ ps, ∀ b, (shownT n p.2 b).length ≤ 81 := fun p hp b => Nat.le_trans (shown_len n _ (he p hp).2.2.1 b) p3
      have l0 : (0 : Nat) ≤ lim := Nat.zero_le _
      have l1 : (1 : Nat) ≤ lim := by decide
      by_cases hk : k = .tabs
      · subst hk
        have e : ps[f]? = some ps[f] := List.getElem?_eq_getElem hf
        have hb := inner_boxes_tabs K f (ps.map fun p => enc n p.2) (by rw [List.length_map]; exact h3) b
        rw [List.length_map] at hb
        have hi1 : itemOf (D.tuple [.str "tabs", .int f, .tuple (ps.map fun p => enc n p.2)]) (.int 1) = .ok (.int f) := rfl
        have hz : zipLD [.list (ps.map fun p => enc n p.2), .list (List.replicate ps.length (boD b))] = .ok (.list (ps.map fun p => .tuple [enc n p.2, boD b])) := by
          show R.ok _ = _
          congr 2
          apply List.ext_getElem
          · simp
          · intro i a1 a2
            simp
        have hit : itemOf (.list (ps.map fun p => D.tuple [enc n p.2, boD b])) (.int (f : Int)) = .ok (.tuple [enc n ps[f].2, boD b]) := item_nat _ f _ (by rw [List.getElem?_map, e]; rfl)
        obtain ⟨y4, y5, el⟩ := placed_loop (m_inner_trees K) (m_inner_boxes K) (r_placed K m) (D.tuple [.str "tabs", .int f, .tuple (ps.map fun p => enc n p.2)]) (boD b) n [(ps[f], b)] (by simp)
          (fun q hq => by rw [List.mem_singleton.mp hq]; exact hlen _ (List.getElem_mem hf) b) (fun q hq => by
            rw [List.mem_singleton.mp hq]
            exact ih m (by omega) (by omega) _ b (he _ (List.getElem_mem hf)).2.2.1 hw hh) (.fz (.list [.tuple [enc n ps[f].2, boD b]])) .un .un
        have hres : shownT (n + 1) (Nd.grp .tabs f ps : Nd (Tr n)) b = shownT n ps[f].2 b := by
          show (match ps[f]? with | some p => shownT n p.2 b | none => []) = _
          rw [e]
        rw [hres]
        rw [List.flatMap_cons, List.flatMap_nil, List.append_nil] at el
        change loopD _ _ [.tuple [enc n ps[f].2, boD b]] _ = _ at el
        show a__placed _ _ _ [D.tuple [.str "tabs", .int f, .tuple (ps.map fun p => enc n p.2)], boD b] = _
        change m_inner_trees K [D.tuple [.str "tabs", .int f, .tuple (ps.map fun p => enc n p.2)]] = _ at hin
        change itemOf (D.tuple [.str "tabs", .int f, .tuple (ps.map fun p => enc n p.2)]) _ = _ at hhd
        generalize D.tuple [.str "tabs", .int f, .tuple (ps.map fun p => enc n p.2)] = T at *
        generalize (ps.map fun p => enc n p.2) = Q at *
        generalize (ps.map fun p => D.tuple [enc n p.2, boD b]) = Z at *
        generalize (shownT n ps[f].2 b).map rowD = W at *
        generalize enc n ps[f].2 = E at *
        unfold a__placed f__placed
        simp [cellsN, rdV, rdB, hhd, ek, et, hin, hb, hz, hi1, hit, mkLst, l0, l1, el]
      · have hws : ∀ w ∈ ps.map (·.1), 1 ≤ w := fun w hw => by
          obtain ⟨p, hp, rfl⟩ := List.mem_map.mp hw
          exact (he p hp).1
        have h2' := h2 hk
        have hne : ps.map (·.1) ≠ [] := fun z => by
          have := congrArg List.length z
          simp at this
          rw [this] at h2'
          simp at h2'
        have hb := inner_boxes_rc K n k hk ps h2' h3 (fun p hp => ⟨(he p hp).1, (he p hp).2.1⟩) b hw hh
        have hpos := inner_pos2 k (ps.map (·.1)) b 1000 hw hh hws hne
        have hz : zipLD [.list (ps.map fun p => enc n p.2), .list ((innerB k (ps.map (·.1)) b).map boD)] = .ok (.list ((ps.zip (innerB k (ps.map (·.1)) b)).map fun q => .tuple [enc n q.1.2, boD q.2])) := by
          show R.ok _ = _
          rw [zipWith_map2 (fun p : Int × Tr n => enc n p.2) boD]
        have hT : enc (n + 1) (Nd.grp k f ps : Nd (Tr n)) = .tuple [.str (kname k), .tuple (ps.map fun p => .tuple [.int p.1, enc n p.2])] := by
          cases k with
          | tabs => exact absurd rfl hk
          | row => rfl
          | col => rfl
        have hres : shownT (n + 1) (Nd.grp k f ps : Nd (Tr n)) b = (ps.zip (innerB k (ps.map (·.1)) b)).flatMap fun q => shownT n q.1.2 q.2 := by
          cases k with
          | tabs => exact absurd rfl hk
          | row => rfl
          | col => rfl
        obtain ⟨zs, hzs⟩ : ∃ zs, zs = ps.zip (innerB k (ps.map (·.1)) b) := ⟨_, rfl⟩
        rw [← hzs] at hz hres
        have hmem : ∀ q ∈ zs, q.1 ∈ ps ∧ q.2 ∈ innerB k (ps.map (·.1)) b := fun q hq => by rw [hzs] at hq; exact List.of_mem_zip hq
        obtain ⟨y4, y5, el⟩ := placed_loop (m_inner_trees K) (m_inner_boxes K) (r_placed K m) (enc (n + 1) (Nd.grp k f ps : Nd (Tr n))) (boD b) n zs (by rw [hzs, List.length_zip]; omega)
          (fun q hq => hlen _ (hmem q hq).1 _) (fun q hq => ih m (by omega) (by omega) _ _ (he _ (hmem q hq).1).2.2.1 (hpos _ (hmem q hq).2).1 (hpos _ (hmem q hq).2).2) (.fz (.list (zs.map fun q => .tuple [enc n q.1.2, boD q.2]))) .un .un
        rw [← hT] at hb
        rw [hres]
        show a__placed _ _ _ [enc (n + 1) (Nd.grp k f ps : Nd (Tr n)), boD b] = _
        generalize enc (n + 1) (Nd.grp k f ps : Nd (Tr n)) = T at *
        generalize (ps.map fun p => enc n p.2) = Q at *
        generalize (zs.map fun q => D.tuple [enc n q.1.2, boD q.2]) = Z at *
        generalize (zs.flatMap fun q => shownT n q.1.2 q.2).map rowD = W at *
        generalize (innerB k (ps.map (·.1)) b).map boD = Y at *
        unfold a__placed f__placed
        simp [cellsN, rdV, rdB, hhd, ek, et, hk, hin, hb, hz, mkLst, l0, l1, el]
/-- drawn rows may be sorted -/
theorem rows_sortOk (L : List (Str × Bo)) (hl : L.length ≤ lim) (hs : ∀ p ∈ L, PyData.canLay0 (.str p.1) = true) : SortOk (L.map rowD) := by
  have he : ∀ p : Str × Bo, toPy (rowD p) = .tuple [.str p.1, .tuple [.int p.2.x, .int p.2.y, .int p.2.w, .int p.2.h]] := fun p => by
    simp [rowD, boD, toPy, toPys]
  have hp : toPys (L.map rowD) = L.map fun p => toPy (rowD p) := by rw [toPys_map, List.map_map]; rfl
  refine ⟨?_, ?_, ?_, ?_, by rw [List.length_map]; exact hl⟩
  · rw [hp]
    refine PySem.W.AllAlike.of fun p q => ?_
    rw [he, he]
    simp [PySem.W.alike, PySem.W.alikeAll]
  · rw [hp]
    exact PySem.W.Sortable.tuples fun p => ⟨_, _, he p⟩
  · intro d hd
    obtain ⟨p, _, rfl⟩ := List.mem_map.mp hd
    rw [he]
    simp [PyData.depth, PyData.depthAll]
  · rw [hp]
    clear hp hl
    induction L with
    | nil => rfl
    | cons p L ih =>
      rw [List.map_cons, he, PyData.canLayAll0, ih fun q hq => hs q (List.mem_cons_of_mem _ hq)]
      simp [PyData.canLay0, PyData.canLayAll0]
      exact hs p List.mem_cons_self
end G58
end S50
noncomputable section S51
namespace G58
open PySem PySem.Spec PyProof.Rows L2 PL
variable (K : PySem.W.Frag)
theorem zip_sub {α β γ : Type} (f : α → β → List γ) (g : α → List γ) : ∀ (xs : List α) (ys : List β), (∀ x ∈ xs, ∀ y, (f x y).Sublist (g x)) → ((xs.zip ys).flatMap fun q => f q.1 q.2).Sublist (xs.flatMap g)
  | [], _, _ => by simp
  | x :: xs, [], _ => by simp
  | x :: xs, y :: ys, h => by
    rw [List.zip_cons_cons, List.flatMap_cons, List.flatMap_cons]
    exact (h x List.mem_cons_self y).append (zip_sub f g xs ys fun z hz => h z (List.mem_cons_of_mem _ hz))
theorem shown_sub : ∀ (n : Nat) (t : Tr n) (b : Bo), WF n t → ((shownT n t b).map (·.1)).Sublist (namesT n t) := by
  intro n
  induction n with
  | zero => intro t b _; exact List.Sublist.refl [t]
  | succ n ih =>
    intro t b hwf
    revert hwf
    match (t : Nd (Tr n)) with
    | .win x => intro _; exact List.Sublist.refl [x]
    | .grp k f ps =>
      intro hwf
      obtain ⟨hf, h2, h3, he⟩ := (hwf : f < ps.length ∧ (k ≠ .tabs → 2 ≤ ps.length) ∧ ps.length ≤ 3 ∧ ∀ p ∈ ps, 1 ≤ p.1 ∧ p.1 ≤ 12 ∧ WF n p.2 ∧ kindOf n p.2 ≠ some k)
      have hz : ∀ bs : List Bo, (((ps.zip bs).flatMap fun q => shownT n q.1.2 q.2).map (·.1)).Sublist (ps.flatMap fun p => namesT n p.2) := by
        intro bs
        rw [List.map_flatMap]
        exact zip_sub (fun (p : Int × Tr n) (b : Bo) => (shownT n p.2 b).map fun q : Str × Bo => q.1) (fun p : Int × Tr n => namesT n p.2) ps bs fun p hp b => ih _ _ (he p hp).2.2.1
      cases k with
      | tabs =>
        have e : ps[f]? = some ps[f] := List.getElem?_eq_getElem hf
        show ((match ps[f]? with | some p => shownT n p.2 b | none => []).map fun q : Str × Bo => q.1).Sublist (ps.flatMap fun p : Int × Tr n => namesT n p.2)
        rw [e]
        refine (ih _ b (he _ (List.getElem_mem hf)).2.2.1).trans ?_
        exact sub_flat (fun p : Int × Tr n => namesT n p.2) ps _ (List.getElem_mem hf)
      | row => exact hz _
      | col => exact hz _
where
  sub_flat {α β : Type} (g : α → List β) : ∀ (xs : List α) (a : α), a ∈ xs → (g a).Sublist (xs.flatMap g)
    | [], a, h => absurd h List.not_mem_nil
    | x :: xs, a, h => by
      rw [List.flatMap_cons]
      rcases List.mem_cons.mp h with z | z
      · rw [z]; exact List.sublist_append_left _ _
      · exact (sub_flat g xs a z).trans (List.sublist_append_right _ _)
def posR (p : Str × Bo) : Bool := posB p.2
theorem cnt_pos (L : List (Str × Bo)) (c : Ce) : cnt (L.filter posR) c = cnt L c := by
  unfold cnt
  rw [List.countP_filter]
  apply List.countP_congr
  intro p _
  have : inB p.2 c = true → posB p.2 = true := fun h => by
    rw [inB_iff] at h
    unfold posB
    exact decide_eq_true ⟨by omega, by omega⟩
  unfold posR
  cases h : inB p.2 c with
  | false => simp
  | true => simp [this h]
/-- a drawn tree in a drawn box -/
structure Drw (n : Nat) (t : Tr n) (b : Bo) : Prop where
  n4 : n ≤ 4
  wf : WF n t
  nd : (namesT n t).Nodup
  le : (namesT n t).length ≤ 16
  bx : Bx b.x b.y b.w b.h
theorem mk_arr {n : Nat} {t : Tr n} {b : Bo} (d : Drw n t b) {M : List (Str × Bo)} (hM : M.Perm ((shownT n t b).filter posR)) : Arr M b := by
  have bx := d.bx
  refine ⟨⟨by have := bx.w1; omega, bx.w24⟩, ⟨by have := bx.h1; omega, bx.h24⟩, fun c => ?_, ?_⟩
  · unfold cnt
    rw [hM.countP_eq]
    have := cnt_pos (shownT n t b) c
    unfold cnt at this
    rw [this]
    exact shown_count n t b d.wf (by have := bx.w1; omega) (by have := bx.h1; omega) c
  · rw [(hM.map (·.1)).nodup_iff]
    exact ((shown_sub n t b d.wf).nodup d.nd).sublist (List.filter_sublist.map _)
theorem win_perm {L M : List (Str × Bo)} {b : Bo} (A : Arr L b) (A' : Arr M b) (h : M.Perm L) (c : Ce) : hit M c = hit L c := by
  cases e : hit L c with
  | none =>
    cases e2 : hit M c with
    | none => rfl
    | some p =>
      obtain ⟨m, i⟩ := hit_mem e2
      rw [A.hit_of (h.mem_iff.mp m) i] at e
      cases e
  | some p =>
    obtain ⟨m, i⟩ := hit_mem e
    exact A'.hit_of (h.mem_iff.mpr m) i
theorem lay16 : ∀ x ∈ names17, PyData.canLay0 (.str x) = true := by
  unfold names17
  repeat' first
    | exact fun _ h => absurd h List.not_mem_nil
    | refine List.forall_mem_cons.mpr ⟨?_, ?_⟩
    | decide +kernel
theorem names_in16 : ∀ (n : Nat) (t : Tr n), WF n t → ∀ x ∈ namesT n t, x ∈ names17 := by
  intro n
  induction n with
  | zero => intro t h x hx; rw [List.mem_singleton.mp hx]; exact h
  | succ n ih =>
    intro t hwf x hx
    revert hwf hx
    match (t : Nd (Tr n)) with
    | .win y => intro h hx; rw [List.mem_singleton.mp hx]; exact h
    | .grp k f ps =>
      intro hwf hx
      obtain ⟨hf, h2, h3, he⟩ := (hwf : f < ps.length ∧ (k ≠ .tabs → 2 ≤ ps.length) ∧ ps.length ≤ 3 ∧ ∀ p ∈ ps, 1 ≤ p.1 ∧ p.1 ≤ 12 ∧ WF n p.2 ∧ kindOf n p.2 ≠ some k)
      obtain ⟨p, hp, hx⟩ := List.mem_flatMap.mp (show x ∈ ps.flatMap fun p => namesT n p.2 from hx)
      exact ih _ (he p hp).2.2.1 x hx
theorem placed_all {n : Nat} {t : Tr n} {b : Bo} (d : Drw n t b) : ∃ L' : List (Str × Bo), L'.Perm (shownT n t b) ∧ m_placed K [enc n t, boD b] = .ok (.tuple (L'.map rowD)) := by
  have bx := d.bx
  have h1 := check_box_ok K n d.n4 t d.wf d.nd d.le b ⟨bx.x0, by have := bx.x6; omega, bx.y0, by have := bx.y6; omega, by have := bx.w1; omega, by have := bx.w24; omega, by have := bx.h1; omega, by have := bx.h24; omega⟩
  have h2 : m__placed K [enc n t, boD b] = .ok (.list ((shownT n t b).map rowD)) := placed_ok K n 20 (by have := d.n4; omega) d.n4 t b d.wf ⟨by have := bx.w1; omega, by have := bx.w24; omega⟩ ⟨by have := bx.h1; omega, by have := bx.h24; omega⟩
  have hlen := Nat.le_trans (shown_len n t d.wf b) (pow3 d.n4)
  have hs : SortOk ((shownT n t b).map rowD) := rows_sortOk _ (by unfold lim; omega) fun p hp => lay16 _ (names_in16 n t d.wf _ ((shown_sub n t b d.wf).subset (List.mem_map.mpr ⟨p, hp, rfl⟩)))
  obtain ⟨L', hp, e⟩ := sortD_perm rowD (shownT n t b)
  refine ⟨L', hp, ?_⟩
  have hso : oSorted [.list ((shownT n t b).map rowD)] = .ok (.list (L'.map rowD)) := by
    simp [oSorted, hs, e]
  show a_placed _ _ _ = _
  unfold a_placed f_placed
  simp [cellsN, rdV, rdB, h1, h2, hso, oTuple]
def boxesD (M : List (Str × Bo)) : List (Key × D) := M.map fun p => (.inr p.1, boD p.2)
def sidesF (M : List (Str × Bo)) (b : Bo) : List (Str × D) := [("boxes", .dict (boxesD M)), ("box", boD b)]
def sidesD (M : List (Str × Bo)) (b : Bo) : D := .inst (He.ga K "Sides") (sidesF M b)
theorem sides_ok {n : Nat} {t : Tr n} {b : Bo} (d : Drw n t b) : ∃ M : List (Str × Bo), M.Perm ((shownT n t b).filter posR) ∧ m_Sides K [enc n t, boD b] = .ok (sidesF M b) := by
  obtain ⟨L', hp, e⟩ := placed_all K d
  refine ⟨L'.filter posR, hp.filter _, ?_⟩
  have A := mk_arr d (hp.filter posR)
  have hl : L'.length ≤ lim := by
    rw [hp.length_eq]
    have := Nat.le_trans (shown_len n t d.wf b) (pow3 d.n4)
    unfold lim; omega
  have hc : compDL (gT 2 (gsCons (gN 3) (gsCons (gN 4) gsNil))) (t_Sides_1 (m_placed K)) (e_Sides_1 (m_placed K)) (e_Sides_2 (m_placed K)) [.un, .fz (enc n t), .fz (boD b), .un, .un] (L'.map rowD) [] = .ok (boxesD (L'.filter posR)) := by
    have := compD_map (g := gT 2 (gsCons (gN 3) (gsCons (gN 4) gsNil))) (t := t_Sides_1 (m_placed K)) (fk := e_Sides_1 (m_placed K)) (fv := e_Sides_2 (m_placed K)) (c := [.un, .fz (enc n t), .fz (boD b), .un, .un]) posR rowD (fun p => .inr p.1) (fun p => boD p.2) (as := L') []
      (fun p hp => ⟨_, rfl, by
        have i2 : itemOf (boD p.2) (.int 2) = .ok (.int p.2.w) := rfl
        have i3 : itemOf (boD p.2) (.int 3) = .ok (.int p.2.h) := rfl
        unfold t_Sides_1
        simp [rdB, i2, i3, posR, posB]
        by_cases h : 0 < p.2.w <;> simp [h], fun _ => ⟨rfl, rfl⟩⟩) (by
        rw [List.map_nil, List.nil_append]
        have : ((L'.filter posR).map fun p => (Sum.inr p.1 : Key)) = ((L'.filter posR).map (·.1)).map Sum.inr := by rw [List.map_map]; rfl
        rw [this]
        exact List.Pairwise.map _ (fun a b h z => h (Sum.inr.inj z)) A.names)
    rw [List.nil_append] at this
    exact this
  show a_Sides _ _ = _
  unfold a_Sides f_Sides
  generalize m_placed K = P at *
  have hne : ¬ ("boxes" : Str) = "box" := by decide +kernel
  simp [cellsN, rdV, rdB, initV, e, hl, hc, putFD, sidesF, hne]
end G58
end S51
noncomputable section S52
namespace G58
open PySem PySem.Spec PyProof.Rows L2 PL
variable (K : PySem.W.Frag)
def ceD (c : Ce) : D := .tuple [.int c.1, .int c.2]
def wname : Wy → Str
  | .down => "down"
  | .left => "left"
  | .right => "right"
  | .up => "up"
theorem fld_boxes (M : List (Str × Bo)) (b : Bo) : fldD (He.ga K "Sides") "boxes" (sidesD K M b) = .ok (.dict (boxesD M)) := by
  show (if He.ga K "Sides" = He.ga K "Sides" then (match (sidesF M b).lookup ("boxes" : Str) with | some d => R.ok d | none => .bad) else .bad) = _
  rw [if_pos rfl]; rfl
theorem boxes_get {M : List (Str × Bo)} (hn : (M.map (·.1)).Nodup) {p : Str × Bo} (hp : p ∈ M) : itemOf (.dict (boxesD M)) (.str p.1) = .ok (boD p.2) := by
  have h := getK_mem (fun p : Str × Bo => (Sum.inr p.1 : Key)) (fun p => boD p.2) M (by
    have : (M.map fun p => (Sum.inr p.1 : Key)) = (M.map (·.1)).map Sum.inr := by rw [List.map_map]; rfl
    rw [this]
    exact List.Pairwise.map _ (fun a b h z => h (Sum.inr.inj z)) hn) p hp
  show (dGet (.dict (boxesD M)) (.str p.1) >>= _) = _
  show (R.ok (getK (boxesD M) (Sum.inr p.1)) >>= fun o => match o with | some d => R.ok d | none => R.bad) = _
  rw [show getK (boxesD M) (Sum.inr p.1) = some (boD p.2) from h]
  rfl
theorem axis_of (w : Wy) : kdGet tab_AXES (.str (wname w)) = .ok (.int (match w with | .down => 1 | .left => 0 | .right => 0 | .up => 1)) := by
  cases w <;> kernel_rfl
theorem forth_of (w : Wy) : oIn (.str (wname w)) (.ftuple (tup_FORTH.map dvD)) = .ok (.bool (match w with | .down => true | .left => false | .right => true | .up => false)) := by
  cases w <;> kernel_rfl
def edgeOf (b : Bo) : Wy → Int
  | .down => b.y + b.h
  | .left => b.x
  | .right => b.x + b.w
  | .up => b.y
theorem edge_ok {M : List (Str × Bo)} {b : Bo} (A : Arr M b) {p : Str × Bo} (hp : p ∈ M) (w : Wy) : m_edge K [sidesD K M b, .str p.1, .str (wname w)] = .ok (.int (edgeOf p.2 w)) := by
  have hf := fld_boxes K M b
  have hb := boxes_get A.names hp
  have ha := axis_of w
  have hi := forth_of w
  have i0 : itemOf (boD p.2) (.int 0) = .ok (.int p.2.x) := rfl
  have i1 : itemOf (boD p.2) (.int 1) = .ok (.int p.2.y) := rfl
  have i2 : itemOf (boD p.2) (.int 2) = .ok (.int p.2.w) := rfl
  have i3 : itemOf (boD p.2) (.int 3) = .ok (.int p.2.h) := rfl
  show a_edge _ _ = _
  unfold a_edge f_edge
  cases w <;> simp [cellsN, rdV, rdB, hf, hb, ha, hi, i0, i1, i2, i3, edgeOf]
end G58
end S52
noncomputable section S53
namespace G58
open PySem PySem.Spec PyProof.Rows L2 PL
variable (K : PySem.W.Frag)
theorem range_rng1 (m : Nat) (h : m < 1000000) : rng1 [.int (m : Int)] = .ok (rangeD 0 m) := by
  show (if (m : Int).natAbs ≤ big then R.ok (rangeD 0 (m : Int).toNat) else .bad) = _
  rw [if_pos (by unfold big; omega)]; rfl
theorem sizes_take (ws : List Int) (size : Int) (i : Nat) (hi : i < ws.length) : (sizesI ws size).take (i + 1) = (sizesI ws size).take i ++ [eAt ws size (i + 1) - eAt ws size i] := take_snoc _ _ _ (sizes_get ws size i hi)
theorem law_sizes_ok (ws : List Int) (size : Int) (hne : ws ≠ []) (hl : ws.length ≤ 3) (hw : ∀ w ∈ ws, 1 ≤ w ∧ w ≤ 12) (h0 : 0 ≤ size) (h1 : size ≤ 1000) :
    m__law_sizes K [.list (ws.map D.int), .int size] = .ok (.list ((sizesI ws size).map D.int)) := by
  have hs := sum_pos ws (fun w h => (hw w h).1) hne
  have hs2 := sum12 ws hw
  have hs3 : ws.sum < 1073741824 := by omega
  have hsum : oSum [.list (ws.map D.int)] = .ok (.int ws.sum) := by
    show (match intsOf (ws.map D.int) with | some ns => R.ok (D.int ns.sum) | none => .bad) = _
    rw [intsOf_ints]
  have step : ∀ (i : Nat) (d : D) (c : Cells), (rangeD 0 ws.length)[i]? = some d → (∃ x y, c = [.fz (.list (ws.map D.int)), .fz (.int size), .fz (.list (((sizesI ws size).take (0 + i)).map D.int)), .fz (.int (eAt ws size (0 + i))), x, y]) →
      ∃ c1, gN 4 d c = some c1 ∧ ∃ c2, (b__law_sizes_1 c1 = .ok (.nx c2) ∨ b__law_sizes_1 c1 = .ok (.ct c2)) ∧ ∃ x y, c2 = [.fz (.list (ws.map D.int)), .fz (.int size), .fz (.list (((sizesI ws size).take (0 + i + 1)).map D.int)), .fz (.int (eAt ws size (0 + i + 1))), x, y] := by
    intro i d c hd ⟨x, y, ec⟩
    subst ec
    obtain ⟨hi, rfl⟩ := range_get hd
    refine ⟨_, rfl, [.fz (.list (ws.map D.int)), .fz (.int size), .fz (.list (((sizesI ws size).take (0 + i + 1)).map D.int)), .fz (.int (eAt ws size (0 + i + 1))), .fz (.int i), .fz (.int (eAt ws size (i + 1)))], .inl ?_, _, _, rfl⟩
    have e1 : oSum [.list (List.take (i + 1) (ws.map D.int))] = .ok (.int (ws.take (i + 1)).sum) := by
      rw [← List.map_take]
      show (match intsOf ((ws.take (i + 1)).map D.int) with | some ns => R.ok (D.int ns.sum) | none => .bad) = _
      rw [intsOf_ints]
    have e2 : size.natAbs ≤ big := by unfold big; omega
    have e5 : size * (ws.take (i + 1)).sum / ws.sum = eAt ws size (i + 1) := rfl
    have l1 : (1 : Nat) ≤ lim := by decide
    rw [Nat.zero_add, sizes_take ws size i hi, List.map_append]
    have hll : (((sizesI ws size).take i).map D.int).length ≤ 3 := by
      rw [List.length_map, List.length_take]; omega
    generalize ((sizesI ws size).take i).map D.int = E at hll ⊢
    have oa : oAdd (.list E) (.list [.int (eAt ws size (i + 1) - eAt ws size i)]) = .ok (.list (E ++ [.int (eAt ws size (i + 1) - eAt ws size i)])) := by
      show (if _ then _ else _) = _
      rw [if_pos (by simp; unfold lim; omega)]
    unfold b__law_sizes_1
    simp [rdV, rdB, oSlice, take_cast, e1, e2, hs, hs3, hsum, e5, mkLst, l1, oa]
  obtain ⟨c', e, x, y, ec⟩ := loop_inv (g := gN 4) (fb := b__law_sizes_1) (fun j c => ∃ x y, c = [.fz (.list (ws.map D.int)), .fz (.int size), .fz (.list (((sizesI ws size).take j).map D.int)), .fz (.int (eAt ws size j)), x, y]) (items := rangeD 0 ws.length)
    (c := [.fz (.list (ws.map D.int)), .fz (.int size), .fz (.list []), .fz (.int 0), .un, .un]) 0 ⟨.un, .un, by simp [eAt_zero]⟩ step
  subst ec
  have hsl : (sizesI ws size).length = ws.length := by simp [sizesI]
  rw [range_len, Nat.zero_add, ← hsl, List.take_length] at e
  rw [hsl] at e
  have er := range_rng1 ws.length (by omega)
  have l0 : (0 : Nat) ≤ lim := Nat.zero_le _
  show a__law_sizes _ = _
  unfold a__law_sizes f__law_sizes
  generalize (sizesI ws size).map D.int = Z at *
  simp [cellsN, rdV, rdB, mkLst, l0, er, e]
theorem shown_leaf (A B : List D → R D) (x : Str) (b : Bo) : a__law_shown A B [wD x, boD b] = .ok (.list (([(x, b)].filter posR).map rowD)) := by
  have i0 : itemOf (wD x) (.int 0) = .ok (.str "win") := rfl
  have i1 : itemOf (wD x) (.int 1) = .ok (.str x) := rfl
  have j2 : itemOf (boD b) (.int 2) = .ok (.int b.w) := rfl
  have j3 : itemOf (boD b) (.int 3) = .ok (.int b.h) := rfl
  have ew := eq_ww
  have l0 : (0 : Nat) ≤ lim := Nat.zero_le _
  have l1 : (1 : Nat) ≤ lim := by decide
  have l2 : (2 : Nat) ≤ lim := by decide
  unfold a__law_shown f__law_shown
  by_cases hw : 0 < b.w
  · by_cases hh : 0 < b.h
    · have hp : posR (x, b) = true := decide_eq_true ⟨hw, hh⟩
      simp [cellsN, rdV, rdB, i0, i1, j2, j3, ew, mkLst, mkTup, l0, l1, l2, rowD, hw, hh, hp]
    · have hp : posR (x, b) = false := decide_eq_false fun z => hh z.2
      simp [cellsN, rdV, rdB, i0, i1, j2, j3, ew, mkLst, mkTup, l0, l1, l2, rowD, hw, hh, hp]
  · have hp : posR (x, b) = false := decide_eq_false fun z => hw z.1
    simp [cellsN, rdV, rdB, i0, i1, j2, j3, ew, mkLst, mkTup, l0, l1, l2, rowD, hw, hp]
def sizK (k : Kd) (b : Bo) : Int := match k with
  | .col => b.h
  | _ => b.w
def boxK (k : Kd) (ws : List Int) (b : Bo) (i : Nat) : Bo := match k with
  | .col => ⟨b.x, b.y + eAt ws b.h i, b.w, eAt ws b.h (i + 1) - eAt ws b.h i⟩
  | _ => ⟨b.x + eAt ws b.w i, b.y, eAt ws b.w (i + 1) - eAt ws b.w i, b.h⟩
def leftK (k : Kd) (ws : List Int) (b : Bo) (i : Nat) : Int := match k with
  | .col => b.x
  | _ => b.x + eAt ws b.w i
def topK (k : Kd) (ws : List Int) (b : Bo) (i : Nat) : Int := match k with
  | .col => b.y + eAt ws b.h i
  | _ => b.y
/-- one turn of the loop over the parts, row and column alike -/
theorem shown_turn (A B : List D → R D) (n : Nat) (k : Kd) (hk : k ≠ .tabs) (ps : List (Int × Tr n)) (h3 : ps.length ≤ 3) (b : Bo) (ws : List Int) (hws : ws = ps.map (·.1)) (i : Nat) (hi : i < ps.length) (acc : List (Str × Bo)) (hacc : acc.length ≤ 243) (p : Int × Tr n) (hp : ps[i]? = some p) (L : List (Str × Bo)) (hL : L.length ≤ 81)
    (bx : Bo) (hbx : bx = boxK k ws b i)
    (hA : A [enc n p.2, boD bx] = .ok (.list (L.map rowD)))
    (hB : ∀ size, size = sizK k b → B [.list (ws.map D.int), .int size] = .ok (.list ((sizesI ws size).map D.int))) (x7 x8 x9 x10 : Cell) :
    ∃ y8 y9, b__law_shown_1 A B [.fz (.tuple [.str (kname k), .tuple (ps.map fun p => .tuple [.int p.1, enc n p.2])]), .fz (boD b), .fz (.int (leftK k ws b i)), .fz (.int (topK k ws b i)), .fz (.int b.w), .fz (.int b.h), .fz (.list (acc.map rowD)), .fz (.int i), x8, x9, .un] =
      .ok (.nx [.fz (.tuple [.str (kname k), .tuple (ps.map fun p => .tuple [.int p.1, enc n p.2])]), .fz (boD b), .fz (.int (leftK k ws b (i + 1))), .fz (.int (topK k ws b (i + 1))), .fz (.int b.w), .fz (.int b.h), .fz (.list ((acc ++ L).map rowD)), .fz (.int i), y8, y9, .un]) := by
  obtain ⟨qs, hq⟩ : ∃ qs, qs = ps.map fun p => D.tuple [.int p.1, enc n p.2] := ⟨_, rfl⟩
  have hl : qs.length = ps.length := by rw [hq, List.length_map]
  have hwl : ws.length = ps.length := by rw [hws, List.length_map]
  have i0 : itemOf (.tuple [.str (kname k), .tuple qs]) (.int 0) = .ok (.str (kname k)) := rfl
  have i1 : itemOf (.tuple [.str (kname k), .tuple qs]) (.int 1) = .ok (.tuple qs) := rfl
  have i2 : itemOf (.tuple qs) (.int (i : Int)) = .ok (.tuple [.int p.1, enc n p.2]) := item_natT _ i _ (by rw [hq, List.getElem?_map, hp]; rfl)
  have i3 : itemOf (.tuple [.int p.1, enc n p.2]) (.int 1) = .ok (enc n p.2) := rfl
  have er := eq_row k hk
  have hql : qs.length ≤ lim := by unfold lim; omega
  have l2 : (2 : Nat) ≤ lim := by decide
  have l4 : (4 : Nat) ≤ lim := by decide
  have hcw : ∀ c0 c2 c3 c6 c8 c9 : Cell, compL (gN 10) (fun _ => R.ok true) (e__law_shown_1 A B) qs [c0, .fz (boD b), c2, c3, .fz (.int b.w), .fz (.int b.h), c6, .fz (.int i), c8, c9, .un] = .ok (ws.map D.int) := by
    intro c0 c2 c3 c6 c8 c9
    rw [hq, hws, List.map_map]
    refine comp_all (fun p : Int × Tr n => D.tuple [.int p.1, enc n p.2]) (fun p => D.int p.1) fun p hp => ⟨_, rfl, rfl, ?_⟩
    have i3 : itemOf (.tuple [.int p.1, enc n p.2]) (.int 0) = .ok (.int p.1) := rfl
    unfold e__law_shown_1
    simp [rdB, i3]
  have oa : oAdd (.list (acc.map rowD)) (.list (L.map rowD)) = .ok (.list ((acc ++ L).map rowD)) := by
    show (if _ then _ else _) = _
    rw [if_pos (by simp; unfold lim; omega), List.map_append]
  have hsz : ∀ size, itemOf (.list ((sizesI ws size).map D.int)) (.int (i : Int)) = .ok (.int (eAt ws size (i + 1) - eAt ws size i)) := fun size => item_nat _ i _ (by rw [List.getElem?_map, sizes_get ws size i (by omega)]; rfl)
  rw [← hq]
  cases k with
  | tabs => exact absurd rfl hk
  | row =>
    have hB := hB b.w rfl
    have hs := hsz b.w
    simp only [boxK] at hbx
    subst hbx
    have hA' : A [enc n p.2, .tuple [.int (b.x + eAt ws b.w i), .int b.y, .int (eAt ws b.w (i + 1) - eAt ws b.w i), .int b.h]] = .ok (.list (L.map rowD)) := hA
    have ex : b.x + eAt ws b.w i + (eAt ws b.w (i + 1) - eAt ws b.w i) = b.x + eAt ws b.w (i + 1) := by omega
    generalize (acc ++ L).map rowD = Z at oa ⊢
    generalize acc.map rowD = Y at oa ⊢
    generalize L.map rowD = X at oa hA' ⊢
    refine ⟨.fz (.int (eAt ws b.w (i + 1) - eAt ws b.w i)), .fz (.tuple [.int (b.x + eAt ws b.w i), .int b.y, .int (eAt ws b.w (i + 1) - eAt ws b.w i), .int b.h]), ?_⟩
    unfold b__law_shown_1
    simp [rdV, rdB, i0, i1, i2, i3, er, hql, hcw, hB, hs, mkTup, l2, l4, ex, hA', oa, leftK, topK]
  | col =>
    have hB := hB b.h rfl
    have hs := hsz b.h
    simp only [boxK] at hbx
    subst hbx
    have hA' : A [enc n p.2, .tuple [.int b.x, .int (b.y + eAt ws b.h i), .int b.w, .int (eAt ws b.h (i + 1) - eAt ws b.h i)]] = .ok (.list (L.map rowD)) := hA
    have ex : b.y + eAt ws b.h i + (eAt ws b.h (i + 1) - eAt ws b.h i) = b.y + eAt ws b.h (i + 1) := by omega
    generalize (acc ++ L).map rowD = Z at oa ⊢
    generalize acc.map rowD = Y at oa ⊢
    generalize L.map rowD = X at oa hA' ⊢
    refine ⟨.fz (.int (eAt ws b.h (i + 1) - eAt ws b.h i)), .fz (.tuple [.int b.x, .int (b.y + eAt ws b.h i), .int b.w, .int (eAt ws b.h (i + 1) - eAt ws b.h i)]), ?_⟩
    unfold b__law_shown_1
    simp [rdV, rdB, i0, i1, i2, i3, er, hql, hcw, hB, hs, mkTup, l2, l4, ex, hA', oa, leftK, topK]
theorem law_shown_ok : ∀ (n m : Nat), n < m → n ≤ 4 → ∀ (t : Tr n) (b : Bo), WF n t → (0 ≤ b.w ∧ b.w ≤ 1000) → (0 ≤ b.h ∧ b.h ≤ 1000) → r_law_shown K m [enc n t, boD b] = .ok (.list (((shownT n t b).filter posR).map rowD)) := by
  intro n
  induction n with
  | zero =>
    intro m hm _ t b _ _ _
    obtain ⟨m, rfl⟩ : ∃ m', m = m' + 1 := ⟨m - 1, by omega⟩
    exact shown_leaf _ _ t b
  | succ n ih =>
    intro m hm h4 t b hwf hw hh
    obtain ⟨m, rfl⟩ : ∃ m', m = m' + 1 := ⟨m - 1, by omega⟩
    revert hwf
    match (t : Nd (Tr n)) with
    | .win x => intro _; exact shown_leaf _ _ x b
    | .grp k f ps =>
      intro hwf
      obtain ⟨hf, h2, h3, he⟩ := (hwf : f < ps.length ∧ (k ≠ .tabs → 2 ≤ ps.length) ∧ ps.length ≤ 3 ∧ ∀ p ∈ ps, 1 ≤ p.1 ∧ p.1 ≤ 12 ∧ WF n p.2 ∧ kindOf n p.2 ≠ some k)
      have ek := eq_kw k
      have et := oEq_tabs k
      have p3 := pow3 (n := n) (by omega)
      have hlen : ∀ p ∈ ps, ∀ b, ((shownT n p.2 b).filter posR).length ≤ 81 := fun p hp b => Nat.le_trans (List.length_filter_le _ _) (Nat.le_trans (shown_len n _ (he p hp).2.2.1 b) p3)
      by_cases hk : k = .tabs
      · subst hk
        have e : ps[f]? = some ps[f] := List.getElem?_eq_getElem hf
        have ihf := ih m (by omega) (by omega) ps[f].2 b (he _ (List.getElem_mem hf)).2.2.1 hw hh
        obtain ⟨qs, hq⟩ : ∃ qs, qs = ps.map fun p => enc n p.2 := ⟨_, rfl⟩
        have i0 : itemOf (.tuple [.str "tabs", .int f, .tuple qs]) (.int 0) = .ok (.str "tabs") := rfl
        have i1 : itemOf (.tuple [.str "tabs", .int f, .tuple qs]) (.int 1) = .ok (.int f) := rfl
        have i2 : itemOf (.tuple [.str "tabs", .int f, .tuple qs]) (.int 2) = .ok (.tuple qs) := rfl
        have i3 : itemOf (.tuple qs) (.int (f : Int)) = .ok (enc n ps[f].2) := item_natT _ f _ (by rw [hq, List.getElem?_map, e]; rfl)
        have hres : shownT (n + 1) (Nd.grp .tabs f ps : Nd (Tr n)) b = shownT n ps[f].2 b := by
          show (match ps[f]? with | some p => shownT n p.2 b | none => []) = _
          rw [e]
        rw [hres]
        have ek : oEq (.str "tabs") (.str "win") = .ok (.bool false) := ek
        have et : oEq (.str "tabs") (.str "tabs") = .ok (.bool true) := et
        show a__law_shown _ _ [.tuple [.str "tabs", .int f, .tuple (ps.map fun p => enc n p.2)], boD b] = _
        rw [← hq]
        generalize ((shownT n ps[f].2 b).filter posR).map rowD = Z at *
        unfold a__law_shown f__law_shown
        simp [cellsN, rdV, rdB, i0, i1, i2, i3, ek, et, ihf]
      · have h2' := h2 hk
        obtain ⟨ws, hws⟩ : ∃ ws, ws = ps.map (·.1) := ⟨_, rfl⟩
        have hwl : ws.length = ps.length := by rw [hws, List.length_map]
        have hww : ∀ w ∈ ws, 1 ≤ w ∧ w ≤ 12 := fun w h => by
          rw [hws] at h
          obtain ⟨p, hp, rfl⟩ := List.mem_map.mp h
          exact ⟨(he p hp).1, (he p hp).2.1⟩
        have hne : ws ≠ [] := fun z => by rw [z] at hwl; simp at hwl; omega
        have hpos := inner_pos2 k ws b 1000 hw hh (fun w h => (hww w h).1) hne
        obtain ⟨zs, hzs⟩ : ∃ zs, zs = ps.zip (innerB k ws b) := ⟨_, rfl⟩
        have hzl : zs.length = ps.length := by rw [hzs, List.length_zip, inner_len, hwl, Nat.min_self]
        have hres : (shownT (n + 1) (Nd.grp k f ps : Nd (Tr n)) b).filter posR = zs.flatMap fun q => (shownT n q.1.2 q.2).filter posR := by
          have : shownT (n + 1) (Nd.grp k f ps : Nd (Tr n)) b = zs.flatMap fun q => shownT n q.1.2 q.2 := by
            rw [hzs, hws]
            cases k with
            | tabs => exact absurd rfl hk
            | row => rfl
            | col => rfl
          rw [this, List.filter_flatMap]
        have hT : enc (n + 1) (Nd.grp k f ps : Nd (Tr n)) = .tuple [.str (kname k), .tuple (ps.map fun p => .tuple [.int p.1, enc n p.2])] := by
          cases k with
          | tabs => exact absurd rfl hk
          | row => rfl
          | col => rfl
        have hB : ∀ size, size = sizK k b → m__law_sizes K [.list (ws.map D.int), .int size] = .ok (.list ((sizesI ws size).map D.int)) := fun size hs => by
          refine law_sizes_ok K ws size hne (by omega) hww ?_ ?_
          · rw [hs]; cases k <;> simp only [sizK] <;> omega
          · rw [hs]; cases k <;> simp only [sizK] <;> omega
        rw [hres]
        obtain ⟨c', e, y7, y8, y9, ec⟩ := loop_inv (g := gN 7) (fb := b__law_shown_1 (r_law_shown K m) (m__law_sizes K)) (fun j c => ∃ y7 y8 y9, c = [.fz (.tuple [.str (kname k), .tuple (ps.map fun p => .tuple [.int p.1, enc n p.2])]), .fz (boD b), .fz (.int (leftK k ws b j)), .fz (.int (topK k ws b j)), .fz (.int b.w), .fz (.int b.h), .fz (.list (((zs.take j).flatMap fun q => (shownT n q.1.2 q.2).filter posR).map rowD)), y7, y8, y9, .un])
          (items := rangeD 0 ps.length) (c := [.fz (.tuple [.str (kname k), .tuple (ps.map fun p => .tuple [.int p.1, enc n p.2])]), .fz (boD b), .fz (.int b.x), .fz (.int b.y), .fz (.int b.w), .fz (.int b.h), .fz (.list []), .un, .un, .un, .un]) 0 ⟨.un, .un, .un, by cases k <;> simp [eAt_zero, leftK, topK]⟩ (fun i d c hd ⟨y7, y8, y9, ec⟩ => by
            subst ec
            obtain ⟨hi, rfl⟩ := range_get hd
            have hp : ps[i]? = some ps[i] := List.getElem?_eq_getElem hi
            have hbl : i < (innerB k ws b).length := by rw [inner_len, hwl]; exact hi
            have hbg : (innerB k ws b)[i]? = some (innerB k ws b)[i] := List.getElem?_eq_getElem hbl
            have hz : zs[i]? = some (ps[i], (innerB k ws b)[i]) := by
              rw [hzs]; exact List.getElem?_zip_eq_some.mpr ⟨hp, hbg⟩
            have hbx : (innerB k ws b)[i] = boxK k ws b i := by
              cases k with
              | tabs => exact absurd rfl hk
              | row => simp [innerB, boxK]
              | col => simp [innerB, boxK]
            have hpp := hpos _ (List.getElem_mem hbl)
            have hA := ih m (by omega) (by omega) ps[i].2 (innerB k ws b)[i] (he _ (List.getElem_mem hi)).2.2.1 hpp.1 hpp.2
            have hacc : ((zs.take (0 + i)).flatMap fun q => (shownT n q.1.2 q.2).filter posR).length ≤ 243 := by
              have := flat_len (fun q : (Int × Tr n) × Bo => (shownT n q.1.2 q.2).filter posR) 81 (zs.take (0 + i)) fun q hq => hlen _ (by
                have := List.mem_of_mem_take hq
                rw [hzs] at this
                exact (List.of_mem_zip this).1) _
              have h5 : (zs.take (0 + i)).length ≤ 3 := by rw [List.length_take]; omega
              have := Nat.mul_le_mul_right 81 h5
              omega
            rw [Nat.zero_add] at hacc ⊢
            obtain ⟨z8, z9, e⟩ := shown_turn (r_law_shown K m) (m__law_sizes K) n k hk ps h3 b ws hws i hi _ hacc ps[i] hp _ (hlen _ (List.getElem_mem hi) _) _ hbx hA hB y7 y8 y9 .un
            refine ⟨_, rfl, _, .inl e, .fz (.int i), z8, z9, ?_⟩
            rw [take_snoc _ _ _ hz, List.flatMap_append]
            simp)
        subst ec
        rw [range_len, Nat.zero_add, ← hzl, List.take_length] at e
        rw [hzl] at e
        have er := range_rng1 ps.length (by omega)
        have hlen2 : oLen [.tuple (ps.map fun p => D.tuple [.int p.1, enc n p.2])] = .ok (.int (ps.length : Int)) := by
          show R.ok (D.int _) = _
          rw [List.length_map]
        show a__law_shown _ _ [enc (n + 1) (Nd.grp k f ps : Nd (Tr n)), boD b] = _
        rw [hT]
        generalize (ps.map fun p => D.tuple [.int p.1, enc n p.2]) = qs at *
        have i0 : itemOf (.tuple [.str (kname k), .tuple qs]) (.int 0) = .ok (.str (kname k)) := rfl
        have i1 : itemOf (.tuple [.str (kname k), .tuple qs]) (.int 1) = .ok (.tuple qs) := rfl
        have hb : gT 4 (gsCons (gN 2) (gsCons (gN 3) (gsCons (gN 4) (gsCons (gN 5) gsNil)))) (boD b) [.fz (.tuple [.str (kname k), .tuple qs]), .fz (boD b), .un, .un, .un, .un, .un, .un, .un, .un, .un] = some [.fz (.tuple [.str (kname k), .tuple qs]), .fz (boD b), .fz (.int b.x), .fz (.int b.y), .fz (.int b.w), .fz (.int b.h), .un, .un, .un, .un, .un] := rfl
        have l0 : (0 : Nat) ≤ lim := Nat.zero_le _
        generalize (zs.flatMap fun q => (shownT n q.1.2 q.2).filter posR).map rowD = Z at *
        unfold a__law_shown f__law_shown
        simp [cellsN, rdV, rdB, i0, i1, ek, et, hk, hb, mkLst, l0, hlen2, er, e]
end G58
end S53
noncomputable section S54
namespace G58
open PySem PySem.Spec PyProof.Rows L2 PL
variable (K : PySem.W.Frag)
def keyC (c : Ce) : List Key := [.inl c.1, .inl c.2]
theorem keyC_inj {c d : Ce} (h : keyC c = keyC d) : c = d := by
  unfold keyC at h
  have h1 := (List.cons.inj h).1
  have h2 := (List.cons.inj (List.cons.inj h).2).1
  exact Prod.ext (Sum.inl.inj h1) (Sum.inl.inj h2)
/-- the dict of the cells stands for a function -/
structure Cel (kvs : List (List Key × D)) (F : Ce → Option Str) (n : Nat) : Prop where
  get : ∀ c, getK kvs (keyC c) = (F c).map D.str
  keys : ∀ k ∈ kvs.map (·.1), ∃ c, k = keyC c ∧ (F c).isSome = true
  len : kvs.length ≤ n
  nd : (kvs.map (·.1)).Nodup
theorem Cel.congr {kvs : List (List Key × D)} {F F' : Ce → Option Str} {n n' : Nat} (g : Cel kvs F n) (h : ∀ c, F c = F' c) (hn : n ≤ n') : Cel kvs F' n' := by
  have : F = F' := funext h
  subst this
  exact ⟨g.get, g.keys, Nat.le_trans g.len hn, g.nd⟩
theorem Cel.put {kvs : List (List Key × D)} {F : Ce → Option Str} {n : Nat} (g : Cel kvs F n) (c0 : Ce) (x : Str) : Cel (putD kvs (keyC c0) (.str x)) (fun c => if c = c0 then some x else F c) (n + 1) := by
  refine ⟨fun c => ?_, fun k hk => ?_, Nat.le_trans (putD_len _ _ _) (Nat.succ_le_succ g.len), putD_nodup _ _ _ g.nd⟩
  · rw [getK_put]
    by_cases h : c = c0
    · rw [if_pos (by rw [h]), if_pos h]; rfl
    · rw [if_neg (fun z => h (keyC_inj z).symm), if_neg h]; exact g.get c
  · rcases putD_keys _ _ _ k hk with h | h
    · obtain ⟨c, e, s⟩ := g.keys k h
      refine ⟨c, e, ?_⟩
      by_cases z : c = c0
      · rw [if_pos z]; rfl
      · rw [if_neg z]; exact s
    · exact ⟨c0, h, by rw [if_pos rfl]; rfl⟩
theorem rangeD_get {lo : Int} {m i : Nat} {d : D} (h : (rangeD lo m)[i]? = some d) : i < m ∧ d = .int (lo + i) := by
  unfold rangeD at h
  rw [List.getElem?_map] at h
  obtain ⟨j, hj, rfl⟩ := Option.map_eq_some_iff.mp h
  obtain ⟨h1, h2⟩ := List.getElem?_eq_some_iff.mp hj
  rw [List.getElem_range] at h2
  subst h2
  exact ⟨by simpa using h1, rfl⟩
theorem rangeD_len (lo : Int) (m : Nat) : (rangeD lo m).length = m := by unfold rangeD; simp
/-- one column -/
theorem cells_col (B x3 : D) (nm : Str) (x0 y : Int) (h : Nat) (x5 : Cell) (kvs : List (List Key × D)) (F : Ce → Option Str) (n : Nat) (g : Cel kvs F n) (hn : n + h < lim) :
    ∃ kvs' x5', loopD (gN 5) b__law_cells_1 (rangeD y h) [.fz B, .ow (.dictT kvs), .fz (.str nm), .fz x3, .fz (.int x0), x5] = .ok (.nx [.fz B, .ow (.dictT kvs'), .fz (.str nm), .fz x3, .fz (.int x0), x5']) ∧
      Cel kvs' (fun c => if c.1 = x0 ∧ y ≤ c.2 ∧ c.2 < y + h then some nm else F c) (n + h) := by
  obtain ⟨c', e, kvs', x5', ec, g'⟩ := loop_inv (g := gN 5) (fb := b__law_cells_1) (fun j cs => ∃ kvs' x5', cs = [.fz B, .ow (.dictT kvs'), .fz (.str nm), .fz x3, .fz (.int x0), x5'] ∧ Cel kvs' (fun c => if c.1 = x0 ∧ y ≤ c.2 ∧ c.2 < y + j then some nm else F c) (n + j))
    (items := rangeD y h) (c := [.fz B, .ow (.dictT kvs), .fz (.str nm), .fz x3, .fz (.int x0), x5]) 0 ⟨kvs, x5, rfl, g.congr (fun c => by rw [if_neg]; omega) (Nat.le_refl _)⟩ (fun i d cs hd ⟨kvs', x5', ec, g'⟩ => by
      subst ec
      obtain ⟨hi, rfl⟩ := rangeD_get hd
      rw [Nat.zero_add] at g'
      have hl : kvs'.length < lim := by have := g'.len; omega
      have l2 : (2 : Nat) ≤ lim := by decide
      have hk : keysOf [.int x0, .int (y + i)] = some (keyC (x0, y + i)) := rfl
      refine ⟨_, rfl, [.fz B, .ow (.dictT (putD kvs' (keyC (x0, y + i)) (.str nm))), .fz (.str nm), .fz x3, .fz (.int x0), .fz (.int (y + i))], .inl ?_, _, _, rfl, ?_⟩
      · unfold b__law_cells_1
        simp [dputS, rdV, mkTup, l2, dput, hk, hl]
      · rw [Nat.zero_add]
        refine (g'.put (x0, y + i) nm).congr (fun c => ?_) (by omega)
        by_cases z : c = (x0, y + (i : Int))
        · rw [if_pos z, if_pos (by
            rw [z]
            exact ⟨rfl, by show y ≤ y + (i : Int); omega, by show y + (i : Int) < y + ((i + 1 : Nat) : Int); omega⟩)]
        · rw [if_neg z]
          by_cases q : c.1 = x0 ∧ y ≤ c.2 ∧ c.2 < y + (i : Int)
          · rw [if_pos q, if_pos (by omega)]
          · rw [if_neg q, if_neg]
            intro w
            apply z
            apply Prod.ext
            · exact w.1
            · show c.2 = y + i
              omega)
  subst ec
  rw [rangeD_len, Nat.zero_add] at g'
  exact ⟨kvs', x5', e, g'⟩
/-- one box -/
theorem cells_box (B : D) (nm : Str) (b : Bo) (hw : 0 ≤ b.w ∧ b.w ≤ 24) (hh : 0 ≤ b.h ∧ b.h ≤ 24) (hx : -1000000 ≤ b.x ∧ b.x ≤ 1000000) (hy : -1000000 ≤ b.y ∧ b.y ≤ 1000000) (x4 x5 : Cell) (kvs : List (List Key × D)) (F : Ce → Option Str) (n : Nat) (g : Cel kvs F n) (hn : n + 576 < lim) :
    ∃ kvs' x4' x5', b__law_cells_3 [.fz B, .ow (.dictT kvs), .fz (.str nm), .fz (boD b), x4, x5] = .ok (.nx [.fz B, .ow (.dictT kvs'), .fz (.str nm), .fz (boD b), x4', x5']) ∧
      Cel kvs' (fun c => if inB b c = true then some nm else F c) (n + 576) := by
  have j0 : itemOf (boD b) (.int 0) = .ok (.int b.x) := rfl
  have j1 : itemOf (boD b) (.int 1) = .ok (.int b.y) := rfl
  have j2 : itemOf (boD b) (.int 2) = .ok (.int b.w) := rfl
  have j3 : itemOf (boD b) (.int 3) = .ok (.int b.h) := rfl
  have r1 : rng2 [.int b.x, .int (b.x + b.w)] = .ok (rangeD b.x b.w.toNat) := by
    show (if _ then _ else _) = _
    rw [if_pos (by unfold big; omega), show b.x + b.w - b.x = b.w by omega]
  have r2 : rng2 [.int b.y, .int (b.y + b.h)] = .ok (rangeD b.y b.h.toNat) := by
    show (if _ then _ else _) = _
    rw [if_pos (by unfold big; omega), show b.y + b.h - b.y = b.h by omega]
  obtain ⟨c', e, kvs', x4', x5', ec, g'⟩ := loop_inv (g := gN 4) (fb := b__law_cells_2) (fun j cs => ∃ kvs' x4' x5', cs = [.fz B, .ow (.dictT kvs'), .fz (.str nm), .fz (boD b), x4', x5'] ∧ Cel kvs' (fun c => if (b.x ≤ c.1 ∧ c.1 < b.x + j) ∧ b.y ≤ c.2 ∧ c.2 < b.y + b.h then some nm else F c) (n + 24 * j))
    (items := rangeD b.x b.w.toNat) (c := [.fz B, .ow (.dictT kvs), .fz (.str nm), .fz (boD b), x4, x5]) 0 ⟨kvs, x4, x5, rfl, g.congr (fun c => by rw [if_neg]; omega) (Nat.le_refl _)⟩ (fun i d cs hd ⟨kvs', x4', x5', ec, g'⟩ => by
      subst ec
      obtain ⟨hi, rfl⟩ := rangeD_get hd
      rw [Nat.zero_add] at g'
      obtain ⟨kvs2, x52, e2, g2⟩ := cells_col B (boD b) nm (b.x + i) b.y b.h.toNat x5' kvs' _ _ g' (by omega)
      refine ⟨_, rfl, [.fz B, .ow (.dictT kvs2), .fz (.str nm), .fz (boD b), .fz (.int (b.x + i)), x52], .inl ?_, _, _, _, rfl, ?_⟩
      · unfold b__law_cells_2
        simp [rdV, rdB, j1, j3, r2, e2]
      · rw [Nat.zero_add]
        refine g2.congr (fun c => ?_) (by omega)
        by_cases z : c.1 = b.x + (i : Int) ∧ b.y ≤ c.2 ∧ c.2 < b.y + (b.h.toNat : Int)
        · rw [if_pos z, if_pos (by omega)]
        · rw [if_neg z]
          by_cases q : (b.x ≤ c.1 ∧ c.1 < b.x + (i : Int)) ∧ b.y ≤ c.2 ∧ c.2 < b.y + b.h
          · rw [if_pos q, if_pos (by omega)]
          · rw [if_neg q, if_neg (by omega)])
  subst ec
  rw [rangeD_len, Nat.zero_add] at g'
  refine ⟨kvs', x4', x5', ?_, g'.congr (fun c => ?_) (by omega)⟩
  · unfold b__law_cells_3
    simp [rdV, rdB, j0, j2, r1, e]
  · by_cases q : inB b c = true
    · rw [if_pos q, if_pos]
      rw [inB_iff] at q; omega
    · rw [if_neg q, if_neg]
      rw [inB_iff] at q; omega
def lastHit (L : List (Str × Bo)) (c : Ce) : Option Str := L.foldl (fun acc p => if inB p.2 c = true then some p.1 else acc) none
theorem lastHit_snoc (L : List (Str × Bo)) (p : Str × Bo) (c : Ce) : lastHit (L ++ [p]) c = if inB p.2 c = true then some p.1 else lastHit L c := by
  unfold lastHit; rw [List.foldl_append]; rfl
theorem Arr.lastHit_eq {L : List (Str × Bo)} {b : Bo} (A : Arr L b) (c : Ce) : lastHit L c = win L c := by
  have gen : ∀ (M : List (Str × Bo)) (acc : Option Str), (∀ p ∈ M, p ∈ L) → (M.foldl (fun acc p => if inB p.2 c = true then some p.1 else acc) acc) = if (∃ p ∈ M, inB p.2 c = true) then win L c else acc := by
    intro M
    induction M with
    | nil => intro acc _; rw [if_neg]; rfl
             intro ⟨p, h, _⟩; exact absurd h List.not_mem_nil
    | cons q M ih =>
      intro acc hm
      rw [List.foldl_cons, ih _ fun p hp => hm p (List.mem_cons_of_mem _ hp)]
      by_cases h1 : ∃ p ∈ M, inB p.2 c = true
      · obtain ⟨p, hp, i⟩ := h1
        rw [if_pos ⟨p, hp, i⟩, if_pos ⟨p, List.mem_cons_of_mem _ hp, i⟩]
      · rw [if_neg h1]
        by_cases h2 : inB q.2 c = true
        · rw [if_pos h2, if_pos ⟨q, List.mem_cons_self, h2⟩]
          unfold win
          rw [A.hit_of (hm q List.mem_cons_self) h2]; rfl
        · rw [if_neg h2, if_neg]
          intro ⟨p, hp, i⟩
          rcases List.mem_cons.mp hp with z | z
          · rw [z] at i; exact h2 i
          · exact h1 ⟨p, z, i⟩
  unfold lastHit
  rw [gen L none fun p hp => hp]
  by_cases h : ∃ p ∈ L, inB p.2 c = true
  · rw [if_pos h]
  · rw [if_neg h]
    cases e : hit L c with
    | none => unfold win; rw [e]; rfl
    | some p => exact absurd ⟨p, hit_mem e⟩ h
theorem law_cells_ok {L : List (Str × Bo)} {b : Bo} (A : Arr L b) (hl : L.length ≤ 81) (hp : ∀ p ∈ L, posR p = true) (hb : -1000 ≤ b.x ∧ b.x ≤ 1000 ∧ -1000 ≤ b.y ∧ b.y ≤ 1000) : ∃ kvs, m__law_cells K [.list (L.map rowD)] = .ok (.dictT kvs) ∧ Cel kvs (win L) 50000 := by
  obtain ⟨c', e, kvs, x2, x3, x4, x5, ec, g⟩ := loop_inv (g := gT 2 (gsCons (gN 2) (gsCons (gN 3) gsNil))) (fb := b__law_cells_3) (fun j cs => ∃ kvs x2 x3 x4 x5, cs = [.fz (.list (L.map rowD)), .ow (.dictT kvs), x2, x3, x4, x5] ∧ Cel kvs (lastHit (L.take j)) (576 * j))
    (items := L.map rowD) (c := [.fz (.list (L.map rowD)), .ow (.dictT []), .un, .un, .un, .un]) 0 ⟨[], .un, .un, .un, .un, rfl, ⟨fun c => rfl, fun k hk => absurd hk List.not_mem_nil, Nat.le_refl _, List.nodup_nil⟩⟩ (fun i d cs hd ⟨kvs, x2, x3, x4, x5, ec, g⟩ => by
      subst ec
      rw [List.getElem?_map] at hd
      obtain ⟨p, hpi, rfl⟩ := Option.map_eq_some_iff.mp hd
      have hm := List.mem_of_getElem? hpi
      have hi := (List.getElem?_eq_some_iff.mp hpi).1
      have hpos : 0 < p.2.w ∧ 0 < p.2.h := of_decide_eq_true (hp p hm)
      have in1 : inB p.2 (p.2.x, p.2.y) = true := by rw [inB_iff]; simp only []; omega
      have hin := A.inside hm in1
      have hb1 := A.hit_iff.mp ⟨p, A.hit_of hm in1⟩
      rw [inB_iff] at hb1
      simp only [] at hb1
      have hbw := A.w
      have hbh := A.h
      rw [Nat.zero_add] at g
      obtain ⟨kvs', x4', x5', e, g'⟩ := cells_box (.list (L.map rowD)) p.1 p.2 ⟨by omega, hin.1⟩ ⟨by omega, hin.2⟩ (by omega) (by omega) x4 x5 kvs _ _ g (by unfold lim; omega)
      refine ⟨[.fz (.list (L.map rowD)), .ow (.dictT kvs), .fz (.str p.1), .fz (boD p.2), x4, x5], rfl, _, .inl e, kvs', _, _, _, _, rfl, ?_⟩
      rw [Nat.zero_add, take_snoc _ _ _ hpi]
      refine g'.congr (fun c => ?_) (by omega)
      rw [lastHit_snoc])
  subst ec
  rw [List.length_map, Nat.zero_add, List.take_length] at g
  refine ⟨kvs, ?_, g.congr A.lastHit_eq (by omega)⟩
  show a__law_cells _ = _
  unfold a__law_cells f__law_cells
  simp [cellsN, rdV, rdB, e]
variable {kvs : List (List Key × D)} {L : List (Str × Bo)} {b : Bo}
theorem cells_get (g : Cel kvs (win L) 50000) (A : Arr L b) (c : Ce) (h : inB b c = true) : itemOf (.dictT kvs) (ceD c) = .ok (.str (nm L c)) := by
  obtain ⟨p, hp⟩ := A.hit_iff.mpr h
  have hn : win L c = some (nm L c) := by unfold nm win; rw [hp]; rfl
  have hg := g.get c
  rw [hn] at hg
  show (R.ok (getK kvs (keyC c)) >>= fun o => match o with | some d => R.ok d | none => R.bad) = _
  rw [hg]; rfl
theorem cells_in (g : Cel kvs (win L) 50000) (A : Arr L b) (c : Ce) : oNotIn (ceD c) (.dictT kvs) = .ok (.bool (!inB b c)) := by
  have hg := g.get c
  have hs := A.win_isSome (c := c)
  show (R.ok (getK kvs (keyC c)).isSome >>= fun b => R.ok (D.bool (!b))) = _
  rw [hg, Option.isSome_map, hs]; rfl
theorem keys_list : ∀ (ks : List (List Key)) (P : Ce → Prop), (∀ k ∈ ks, ∃ c, k = keyC c ∧ P c) → ∃ cs : List Ce, ks = cs.map keyC ∧ ∀ c ∈ cs, P c
  | [], _, _ => ⟨[], rfl, fun c h => absurd h List.not_mem_nil⟩
  | k :: ks, P, h => by
    obtain ⟨c, e, p⟩ := h k List.mem_cons_self
    obtain ⟨cs, e2, p2⟩ := keys_list ks P fun k hk => h k (List.mem_cons_of_mem _ hk)
    refine ⟨c :: cs, by rw [e, e2]; rfl, fun d hd => ?_⟩
    rcases List.mem_cons.mp hd with z | z
    · rw [z]; exact p
    · exact p2 d z
theorem cells_sortOk (cs : List Ce) (hl : cs.length ≤ lim) : SortOk (cs.map ceD) := by
  have he : ∀ c : Ce, toPy (ceD c) = .tuple [.int c.1, .int c.2] := fun c => by simp [ceD, toPy, toPys]
  have hp : toPys (cs.map ceD) = cs.map fun c => toPy (ceD c) := by rw [toPys_map, List.map_map]; rfl
  refine ⟨?_, ?_, ?_, ?_, by rw [List.length_map]; exact hl⟩
  · rw [hp]
    refine PySem.W.AllAlike.of fun p q => ?_
    rw [he, he]
    simp [PySem.W.alike, PySem.W.alikeAll]
  · rw [hp]
    exact PySem.W.Sortable.tuples fun p => ⟨_, _, he p⟩
  · intro d hd
    obtain ⟨p, _, rfl⟩ := List.mem_map.mp hd
    rw [he]
    simp [PyData.depth, PyData.depthAll]
  · rw [hp]
    clear hp hl
    induction cs with
    | nil => rfl
    | cons p cs ih =>
      rw [List.map_cons, he, PyData.canLayAll0, ih]
      simp [PyData.canLay0, PyData.canLayAll0]
theorem cells_sorted (g : Cel kvs (win L) 50000) (A : Arr L b) (hb : 0 < b.w ∧ 0 < b.h) : ∃ es : List Ce, oSorted [.dictT kvs] = .ok (.list (es.map ceD)) ∧ es ≠ [] ∧ es.length < 100000 ∧ (∀ c ∈ es, inB b c = true) ∧ es.Nodup ∧ ∀ c, inB b c = true → c ∈ es := by
  obtain ⟨cs, e, hc⟩ := keys_list (kvs.map (·.1)) (fun c => inB b c = true) fun k hk => by
    obtain ⟨c, e, s⟩ := g.keys k hk
    rw [A.win_isSome] at s
    exact ⟨c, e, s⟩
  have hlen : cs.length = kvs.length := by
    have := congrArg List.length e
    simpa using this.symm
  have hkl := g.len
  have em : (kvs.map fun p => D.tuple (p.1.map keyD)) = cs.map ceD := by
    have : (kvs.map fun p => D.tuple (p.1.map keyD)) = (kvs.map (·.1)).map fun k => D.tuple (k.map keyD) := by rw [List.map_map]; rfl
    rw [this, e, List.map_map]; rfl
  obtain ⟨es, hp, he⟩ := sortD_perm ceD cs
  have hnd : cs.Nodup := by
    have := g.nd
    rw [e] at this
    exact List.Pairwise.of_map keyC (fun a b h z => h (by rw [z])) this
  refine ⟨es, ?_, ?_, by rw [hp.length_eq]; omega, fun c h => hc c (hp.mem_iff.mp h), hp.nodup_iff.mpr hnd, fun c h => ?_⟩
  · have hso := cells_sortOk cs (by unfold lim; omega)
    simp only [oSorted, em, hso, if_true, he]
  · intro z
    rw [z] at hp
    have hcs : cs = [] := hp.symm.eq_nil
    have hk : kvs = [] := by
      rw [hcs] at hlen
      exact List.eq_nil_of_length_eq_zero hlen.symm
    have hg := g.get (b.x, b.y)
    have hs := A.win_isSome (c := (b.x, b.y))
    rw [show inB b (b.x, b.y) = true by rw [inB_iff]; simp only []; omega] at hs
    rw [hk] at hg
    cases q : win L (b.x, b.y) with
    | none => rw [q] at hs; cases hs
    | some x => rw [q] at hg; cases hg
  · rw [hp.mem_iff]
    have hs := A.win_isSome (c := c)
    rw [h] at hs
    obtain ⟨x, hx⟩ := Option.isSome_iff_exists.mp hs
    have hg := g.get c
    rw [hx] at hg
    have hk : keyC c ∈ kvs.map (·.1) := by
      unfold getK at hg
      obtain ⟨kv, hkv, _⟩ := Option.map_eq_some_iff.mp hg
      have h1 := List.mem_of_find?_eq_some hkv
      have h2 := List.find?_some hkv
      exact List.mem_map.mpr ⟨kv, h1, of_decide_eq_true h2⟩
    rw [e] at hk
    obtain ⟨c', hc', e'⟩ := List.mem_map.mp hk
    rw [← keyC_inj e']; exact hc'
end G58
end S54
noncomputable section S55
namespace G58
open PySem PySem.Spec PyProof.Rows L2 PL
variable (K : PySem.W.Frag)
def dxW : Wy → Int
  | .down => 0
  | .left => -1
  | .right => 1
  | .up => 0
def dyW : Wy → Int
  | .down => 1
  | .left => 0
  | .right => 0
  | .up => -1
theorem next_eq (c : Ce) (w : Wy) : nextC c w = (c.1 + dxW w, c.2 + dyW w) := by
  cases w <;> simp [nextC, dxW, dyW] <;> omega
theorem law_next_ok (c : Ce) (w : Wy) : m__law_next K [ceD c, .str (wname w)] = .ok (ceD (nextC c w)) := by
  rw [next_eq]
  cases w <;> kernel_rfl
theorem law_other_ok (w : Wy) : m__law_other_way K [.str (wname w)] = .ok (.str (wname w.back)) := by
  cases w <;> kernel_rfl
variable {kvs : List (List Key × D)} {L : List (Str × Bo)} {b : Bo}
theorem lay_nm (A : Arr L b) (hlay : ∀ p ∈ L, PyData.canLay0 (.str p.1) = true) {c : Ce} (h : inB b c = true) : PyData.canLay0 (.str (nm L c)) = true := by
  obtain ⟨p, hp⟩ := A.hit_iff.mpr h
  have hn : nm L c = p.1 := by unfold nm win; rw [hp]; rfl
  rw [hn]; exact hlay p (hit_mem hp).1
theorem nm_same (A : Arr L b) {c d : Ce} {p : Str × Bo} (hc : hit L c = some p) (hd : inB b d = true) : nm L d = nm L c ↔ inB p.2 d = true := by
  obtain ⟨q, hq⟩ := A.hit_iff.mpr hd
  have hnc : nm L c = p.1 := by unfold nm win; rw [hc]; rfl
  have hnd : nm L d = q.1 := by unfold nm win; rw [hq]; rfl
  rw [hnc, hnd]
  constructor
  · intro h
    rw [← A.same (hit_mem hq).1 (hit_mem hc).1 h]
    exact (hit_mem hq).2
  · intro h
    rw [A.uniq (hit_mem hq).1 (hit_mem hc).1 (hit_mem hq).2 h]
end G58
end S55
noncomputable section S56
namespace G58
open PySem PySem.Spec PyProof.Rows L2 PL
def loW (w : Wy) (b : Bo) : Int := match w with
  | .down => b.x
  | .left => b.y
  | .right => b.y
  | .up => b.x
def lnW (w : Wy) (b : Bo) : Int := match w with
  | .down => b.w
  | .left => b.h
  | .right => b.h
  | .up => b.w
def hiW (w : Wy) (b : Bo) : Int := loW w b + lnW w b
def alC (w : Wy) (c : Ce) : Int := match w with
  | .down => c.1
  | .left => c.2
  | .right => c.2
  | .up => c.1
/-- the cell beside a box, t along its side -/
def nb (b : Bo) (w : Wy) (t : Int) : Ce := beyond b (t, t) w
theorem alC_nb (b : Bo) (w : Wy) (t : Int) : alC w (nb b w t) = t := by cases w <;> rfl
/-- the cell of the box at its side -/
def sd (b : Bo) (w : Wy) (t : Int) : Ce := match w with
  | .down => (t, b.y + b.h - 1)
  | .left => (b.x, t)
  | .right => (b.x + b.w - 1, t)
  | .up => (t, b.y)
theorem sd_next (b : Bo) (w : Wy) (t : Int) : nextC (sd b w t) w = nb b w t := by
  cases w <;> simp only [sd, nextC, nb, beyond] <;> congr 1 <;> omega
theorem sd_al (b : Bo) (w : Wy) (t : Int) : alC w (sd b w t) = t := by cases w <;> rfl
theorem sd_in {b : Bo} {w : Wy} {t : Int} (hp : 0 < b.w ∧ 0 < b.h) (h : loW w b ≤ t ∧ t < hiW w b) : inB b (sd b w t) = true := by
  rw [inB_iff]
  unfold hiW at h
  cases w <;> simp only [loW, lnW] at h <;> simp only [sd] <;> omega
theorem in_al {b : Bo} {w : Wy} {c : Ce} (h : inB b c = true) : loW w b ≤ alC w c ∧ alC w c < hiW w b := by
  rw [inB_iff] at h
  unfold hiW
  cases w <;> simp only [loW, lnW, alC] <;> omega
/-- a cell of the box with a next cell outside is one at the side -/
theorem out_sd {b : Bo} {w : Wy} {c : Ce} (h : inB b c = true) (ho : ¬ inB b (nextC c w) = true) : c = sd b w (alC w c) := by
  rw [inB_iff] at h ho
  cases w <;> simp only [nextC] at ho <;> simp only [sd, alC] <;> apply Prod.ext <;> simp only [] <;> omega
theorem nb_out (b : Bo) (w : Wy) (t : Int) : inB b (nb b w t) = false := beyond_out w
/-- other windows at the side -/
def isN (p q : Bo) (w : Wy) : Prop := edgeOf q w.back = edgeOf p w
instance (p q : Bo) (w : Wy) : Decidable (isN p q w) := inferInstanceAs (Decidable (_ = _))
def bgN (p q : Bo) (w : Wy) : Int := max (loW w p) (loW w q)
def enN (p q : Bo) (w : Wy) : Int := min (hiW w p) (hiW w q)
theorem enN_lt {p q : Bo} {w : Wy} (h : enN p q w < hiW w p) : enN p q w = hiW w q := by unfold enN at h ⊢; omega
namespace Arr
variable {L : List (Str × Bo)} {b : Bo} (A : Arr L b)
include A
theorem nbr {p q : Str × Bo} (hp : p ∈ L) (hq : q ∈ L) (pp : 0 < p.2.w ∧ 0 < p.2.h) {w : Wy} {t : Int} (ht : loW w p.2 ≤ t ∧ t < hiW w p.2) :
    inB q.2 (nb p.2 w t) = true ↔ isN p.2 q.2 w ∧ (0 < q.2.w ∧ 0 < q.2.h) ∧ loW w q.2 ≤ t ∧ t < hiW w q.2 := by
  have hs := sd_in pp ht
  constructor
  · intro h
    have hne : p ≠ q := fun z => by
      rw [z, nb_out] at h; cases h
    have no : ¬ inB q.2 (sd p.2 w t) = true := fun z => hne (A.uniq hp hq hs z)
    rw [inB_iff] at h no
    unfold isN hiW
    cases w <;> simp only [nb, beyond] at h <;> simp only [sd] at no <;> simp only [edgeOf, Wy.back, loW, lnW] <;> omega
  · rintro ⟨h1, h2, h3⟩
    unfold isN at h1
    unfold hiW at h3
    rw [inB_iff]
    cases w <;> simp only [edgeOf, Wy.back, loW, lnW] at h1 h3 <;> simp only [nb, beyond] <;> omega
theorem in_b {p : Str × Bo} (hp : p ∈ L) {c : Ce} (h : inB p.2 c = true) : inB b c = true := A.hit_iff.mp ⟨p, A.hit_of hp h⟩
/-- beside all of a side, or none of it, lies in the box -/
theorem nb_all {p : Str × Bo} (hp : p ∈ L) (pp : 0 < p.2.w ∧ 0 < p.2.h) {w : Wy} {t u : Int} (ht : loW w p.2 ≤ t ∧ t < hiW w p.2) (hu : loW w p.2 ≤ u ∧ u < hiW w p.2) (h : inB b (nb p.2 w t) = true) : inB b (nb p.2 w u) = true := by
  have h1 := A.in_b hp (sd_in pp ht)
  have h2 := A.in_b hp (sd_in pp hu)
  rw [inB_iff] at h h1 h2 ⊢
  cases w <;> simp only [nb, beyond] at h ⊢ <;> simp only [sd] at h1 h2 <;> omega
end Arr
def wk (L : List (Str × Bo)) (p : Bo) (w : Wy) : Nat → Int → List (Int × Str × Int)
  | 0, _ => []
  | f + 1, t => if t < hiW w p then (match hit L (nb p w t) with
    | none => []
    | some q => (t, q.1, enN p q.2 w - t) :: wk L p w f (enN p q.2 w)) else []
/-- the runs of a row of names -/
def rleS (acc : List (Str × Int)) (o : Str) : List (Str × Int) := match acc.getLast? with
  | some q => if q.1 = o then acc.dropLast ++ [(o, q.2 + 1)] else acc ++ [(o, 1)]
  | none => acc ++ [(o, 1)]
theorem rle_more (acc : List (Str × Int)) (o : Str) (k : Int) : ∀ n : Nat, (List.replicate n o).foldl rleS (acc ++ [(o, k)]) = acc ++ [(o, k + n)]
  | 0 => by simp
  | n + 1 => by
    rw [List.replicate_succ, List.foldl_cons]
    have : rleS (acc ++ [(o, k)]) o = acc ++ [(o, k + 1)] := by unfold rleS; simp
    rw [this, rle_more acc o (k + 1) n]
    congr 3
    omega
theorem rle_run (acc : List (Str × Int)) (o : Str) (h : ∀ q, acc.getLast? = some q → q.1 ≠ o) (n : Nat) (hn : 0 < n) : (List.replicate n o).foldl rleS acc = acc ++ [(o, (n : Int))] := by
  obtain ⟨m, rfl⟩ : ∃ m, n = m + 1 := ⟨n - 1, by omega⟩
  rw [List.replicate_succ, List.foldl_cons]
  have : rleS acc o = acc ++ [(o, 1)] := by
    unfold rleS
    cases e : acc.getLast? with
    | none => rfl
    | some q =>
      have hh := h q e
      simp only [if_neg hh]
  rw [this, rle_more]
  congr 3
  omega
/-- the names beside a side, from t on -/
def nbNames (L : List (Str × Bo)) (p : Bo) (w : Wy) (t : Int) (n : Nat) : List Str := (List.range n).map fun (i : Nat) => nm L (nb p w (t + i))
theorem nbNames_add (L : List (Str × Bo)) (p : Bo) (w : Wy) (t : Int) (m n : Nat) : nbNames L p w t (m + n) = nbNames L p w t m ++ nbNames L p w (t + m) n := by
  unfold nbNames
  rw [List.range_add, List.map_append, List.map_map]
  congr 1
  apply List.map_congr_left
  intro i _
  show nm L (nb p w (t + ((m + i : Nat) : Int))) = _
  congr 2
  omega
/-- what is told of one window beside -/
def trip (p : Bo) (w : Wy) (q : Str × Bo) : Int × Str × Int := (bgN p q.2 w, q.1, enN p q.2 w - bgN p q.2 w)
def isB (p : Bo) (w : Wy) (q : Str × Bo) : Prop := isN p q.2 w ∧ 0 < enN p q.2 w - bgN p q.2 w
instance isB_dec (p : Bo) (w : Wy) (q : Str × Bo) : Decidable (isB p w q) := inferInstanceAs (Decidable (_ ∧ _))
namespace Arr
variable {L : List (Str × Bo)} {b : Bo} (A : Arr L b)
include A
/-- what is known of the window at t -/
theorem at_t {p : Str × Bo} (hp : p ∈ L) (pp : 0 < p.2.w ∧ 0 < p.2.h) {w : Wy} {t : Int} (ht : loW w p.2 ≤ t ∧ t < hiW w p.2) (hb : inB b (nb p.2 w t) = true) :
    ∃ q, hit L (nb p.2 w t) = some q ∧ q ∈ L ∧ isN p.2 q.2 w ∧ (0 < q.2.w ∧ 0 < q.2.h) ∧ loW w q.2 ≤ t ∧ t < hiW w q.2 := by
  obtain ⟨q, hq⟩ := A.hit_iff.mpr hb
  obtain ⟨m, i⟩ := hit_mem hq
  exact ⟨q, hq, m, (A.nbr hp m pp ht).mp i⟩
theorem hit_t {p q : Str × Bo} (hp : p ∈ L) (hq : q ∈ L) (pp : 0 < p.2.w ∧ 0 < p.2.h) {w : Wy} {t : Int} (ht : loW w p.2 ≤ t ∧ t < hiW w p.2) (h1 : isN p.2 q.2 w) (h2 : 0 < q.2.w ∧ 0 < q.2.h) (h3 : loW w q.2 ≤ t ∧ t < hiW w q.2) : hit L (nb p.2 w t) = some q :=
  A.hit_of hq ((A.nbr hp hq pp ht).mpr ⟨h1, h2, h3⟩)
theorem nm_hit {c : Ce} {q : Str × Bo} (h : hit L c = some q) : nm L c = q.1 := by unfold nm win; rw [h]; rfl
/-- the runs are what the walk tells -/
theorem rle_wk {p : Str × Bo} (hp : p ∈ L) (pp : 0 < p.2.w ∧ 0 < p.2.h) {w : Wy} (hb : inB b (nb p.2 w (loW w p.2)) = true) : ∀ (f : Nat) (t : Int) (acc : List (Str × Int)), loW w p.2 ≤ t → t ≤ hiW w p.2 → hiW w p.2 - t ≤ f → (t < hiW w p.2 → ∀ q, acc.getLast? = some q → q.1 ≠ nm L (nb p.2 w t)) →
    (nbNames L p.2 w t (hiW w p.2 - t).toNat).foldl rleS acc = acc ++ (wk L p.2 w f t).map fun x => (x.2.1, x.2.2)
  | 0, t, acc, h1, h2, h3, _ => by
    rw [show (hiW w p.2 - t).toNat = 0 by omega]
    simp [nbNames, wk]
  | f + 1, t, acc, h1, h2, h3, h4 => by
    by_cases ht : t < hiW w p.2
    · have hlo : loW w p.2 ≤ loW w p.2 ∧ loW w p.2 < hiW w p.2 := ⟨Int.le_refl _, by omega⟩
      obtain ⟨q, hq, mq, n1, n2, n3⟩ := A.at_t hp pp ⟨h1, ht⟩ (A.nb_all hp pp hlo ⟨h1, ht⟩ hb)
      have he : t < enN p.2 q.2 w ∧ enN p.2 q.2 w ≤ hiW w p.2 ∧ enN p.2 q.2 w ≤ hiW w q.2 := by unfold enN; omega
      unfold wk
      rw [if_pos ht, hq]
      simp only [List.map_cons]
      obtain ⟨m, hm⟩ : ∃ m : Nat, enN p.2 q.2 w - t = m := ⟨(enN p.2 q.2 w - t).toNat, by omega⟩
      rw [show (hiW w p.2 - t).toNat = m + (hiW w p.2 - enN p.2 q.2 w).toNat by omega, nbNames_add, List.foldl_append]
      have hrep : nbNames L p.2 w t m = List.replicate m q.1 := by
        unfold nbNames
        apply List.ext_getElem (by simp)
        intro i i1 i2
        simp only [List.length_map, List.length_range] at i1
        simp only [List.getElem_map, List.getElem_range, List.getElem_replicate]
        exact A.nm_hit (A.hit_t hp mq pp ⟨by omega, by omega⟩ n1 n2 ⟨by omega, by omega⟩)
      rw [hrep, rle_run acc q.1 (fun z hz => by rw [← A.nm_hit hq]; exact h4 ht z hz) m (by omega), show t + (m : Int) = enN p.2 q.2 w by omega,
        rle_wk hp pp hb f (enN p.2 q.2 w) (acc ++ [(q.1, (m : Int))]) (by omega) he.2.1 (by omega) (fun hlt z hz => ?_)]
      · rw [List.append_assoc, hm]; rfl
      · rw [List.getLast?_append, List.getLast?_singleton] at hz
        cases hz
        show q.1 ≠ _
        intro heq
        have htt : loW w p.2 ≤ enN p.2 q.2 w ∧ enN p.2 q.2 w < hiW w p.2 := ⟨by omega, hlt⟩
        obtain ⟨q', hq', mq', k1, k2, k3⟩ := A.at_t hp pp htt (A.nb_all hp pp hlo htt hb)
        rw [A.nm_hit hq'] at heq
        have := A.same mq mq' heq
        subst this
        have := enN_lt hlt
        omega
    · rw [show (hiW w p.2 - t).toNat = 0 by omega]
      unfold wk
      rw [if_neg ht]
      simp [nbNames]
theorem wk_mem {p : Str × Bo} (hp : p ∈ L) (pp : 0 < p.2.w ∧ 0 < p.2.h) {w : Wy} (hb : inB b (nb p.2 w (loW w p.2)) = true) : ∀ (f : Nat) (t : Int), loW w p.2 ≤ t → t ≤ hiW w p.2 → (t < hiW w p.2 → t = loW w p.2 ∨ ∀ q, hit L (nb p.2 w t) = some q → loW w q.2 = t) →
    ∀ x ∈ wk L p.2 w f t, t ≤ x.1 ∧ ∃ q ∈ L, isB p.2 w q ∧ x = trip p.2 w q
  | 0, t, _, _, _ => fun x hx => absurd hx List.not_mem_nil
  | f + 1, t, h1, h2, h3 => fun x hx => by
    unfold wk at hx
    split at hx
    · rename_i ht
      have hlo : loW w p.2 ≤ loW w p.2 ∧ loW w p.2 < hiW w p.2 := ⟨Int.le_refl _, by omega⟩
      obtain ⟨q, hq, mq, n1, n2, n3⟩ := A.at_t hp pp ⟨h1, ht⟩ (A.nb_all hp pp hlo ⟨h1, ht⟩ hb)
      have he : t < enN p.2 q.2 w ∧ enN p.2 q.2 w ≤ hiW w p.2 ∧ enN p.2 q.2 w ≤ hiW w q.2 := by unfold enN; omega
      rw [hq] at hx
      simp only [] at hx
      have hbg : bgN p.2 q.2 w = t := by
        unfold bgN
        rcases h3 ht with z | z
        · omega
        · have := z q hq
          omega
      rcases List.mem_cons.mp hx with z | z
      · refine ⟨by rw [z]; exact Int.le_refl _, q, mq, ⟨n1, by omega⟩, ?_⟩
        rw [z]; unfold trip; rw [hbg]
      · have hinv : enN p.2 q.2 w < hiW w p.2 → enN p.2 q.2 w = loW w p.2 ∨ ∀ q', hit L (nb p.2 w (enN p.2 q.2 w)) = some q' → loW w q'.2 = enN p.2 q.2 w := by
          intro hlt
          right
          intro q' hq'
          have htt : loW w p.2 ≤ enN p.2 q.2 w ∧ enN p.2 q.2 w < hiW w p.2 := ⟨by omega, hlt⟩
          obtain ⟨m', i'⟩ := hit_mem hq'
          obtain ⟨k1, k2, k3⟩ := (A.nbr hp m' pp htt).mp i'
          have e1 := enN_lt hlt
          apply Classical.byContradiction
          intro hne
          have hlt2 : loW w q'.2 < enN p.2 q.2 w := by omega
          have h5 := A.hit_t hp m' pp (w := w) (t := enN p.2 q.2 w - 1) ⟨by omega, by omega⟩ k1 k2 ⟨by omega, by omega⟩
          have h6 := A.hit_t hp mq pp (w := w) (t := enN p.2 q.2 w - 1) ⟨by omega, by omega⟩ n1 n2 ⟨by omega, by omega⟩
          rw [h5] at h6
          have h7 := Option.some.inj h6
          rw [h7] at k3
          omega
        obtain ⟨y1, y2⟩ := wk_mem hp pp hb f (enN p.2 q.2 w) (by omega) he.2.1 hinv x z
        exact ⟨by omega, y2⟩
    · exact absurd hx List.not_mem_nil
theorem wk_asc {p : Bo} {w : Wy} : ∀ (f : Nat) (t : Int), (∀ x ∈ wk L p w f t, t ≤ x.1) ∧ (wk L p w f t).Pairwise fun x y => x.1 < y.1
  | 0, t => ⟨fun x hx => absurd hx List.not_mem_nil, List.Pairwise.nil⟩
  | f + 1, t => by
    unfold wk
    split
    · rename_i ht
      cases hq : hit L (nb p w t) with
      | none => exact ⟨fun x hx => absurd hx List.not_mem_nil, List.Pairwise.nil⟩
      | some q =>
        obtain ⟨i1, i2⟩ := wk_asc (p := p) (w := w) f (enN p q.2 w)
        have he : t < enN p q.2 w := by
          obtain ⟨m, i⟩ := hit_mem hq
          have := in_al (w := w) i
          rw [alC_nb] at this
          unfold enN; omega
        refine ⟨fun x hx => ?_, List.Pairwise.cons (fun x hx => ?_) i2⟩
        · rcases List.mem_cons.mp hx with z | z
          · rw [z]; exact Int.le_refl _
          · have := i1 x z; omega
        · have := i1 x hx
          show t < x.1
          omega
    · exact ⟨fun x hx => absurd hx List.not_mem_nil, List.Pairwise.nil⟩
/-- each row of the side is told -/
theorem wk_cover {p : Str × Bo} (hp : p ∈ L) (pp : 0 < p.2.w ∧ 0 < p.2.h) {w : Wy} (hb : inB b (nb p.2 w (loW w p.2)) = true) : ∀ (f : Nat) (t r : Int), loW w p.2 ≤ t → t ≤ r → r < hiW w p.2 → hiW w p.2 - t ≤ f → ∃ x ∈ wk L p.2 w f t, x.2.1 = nm L (nb p.2 w r)
  | 0, t, r, _, _, _, _ => by omega
  | f + 1, t, r, h1, h2, h3, h4 => by
    have ht : t < hiW w p.2 := by omega
    have hlo : loW w p.2 ≤ loW w p.2 ∧ loW w p.2 < hiW w p.2 := ⟨Int.le_refl _, by omega⟩
    obtain ⟨q, hq, mq, n1, n2, n3⟩ := A.at_t hp pp ⟨h1, ht⟩ (A.nb_all hp pp hlo ⟨h1, ht⟩ hb)
    have he : t < enN p.2 q.2 w ∧ enN p.2 q.2 w ≤ hiW w p.2 ∧ enN p.2 q.2 w ≤ hiW w q.2 := by unfold enN; omega
    unfold wk
    rw [if_pos ht, hq]
    by_cases hr : r < enN p.2 q.2 w
    · refine ⟨_, List.mem_cons_self, ?_⟩
      show q.1 = _
      rw [A.nm_hit (A.hit_t hp mq pp ⟨by omega, h3⟩ n1 n2 ⟨by omega, by omega⟩)]
    · obtain ⟨x, hx, e⟩ := wk_cover hp pp hb f (enN p.2 q.2 w) r (by omega) (by omega) h3 (by omega)
      exact ⟨x, List.mem_cons_of_mem _ hx, e⟩
end Arr
/-- all that is beside, in order -/
def bes (L : List (Str × Bo)) (p : Bo) (w : Wy) : List (Int × Str × Int) := wk L p w (lnW w p).toNat (loW w p)
def foundB (M : List (Str × Bo)) (p : Bo) (w : Wy) : List (Int × Str × Int) := (M.filter fun q => decide (isB p w q)).map (trip p w)
namespace Arr
variable {L : List (Str × Bo)} {b : Bo} (A : Arr L b)
include A
theorem ln_pos {p : Bo} (pp : 0 < p.w ∧ 0 < p.h) (w : Wy) : 0 < lnW w p := by cases w <;> simp only [lnW] <;> omega
theorem bes_none {p : Str × Bo} {w : Wy} (hb : ¬ inB b (nb p.2 w (loW w p.2)) = true) : bes L p.2 w = [] := by
  have hn : hit L (nb p.2 w (loW w p.2)) = none := by
    cases e : hit L (nb p.2 w (loW w p.2)) with
    | none => rfl
    | some q => exact absurd (A.hit_iff.mp ⟨q, e⟩) hb
  unfold bes
  cases (lnW w p.2).toNat with
  | zero => rfl
  | succ f =>
    unfold wk
    rw [hn]
    split <;> rfl
theorem found_mem {p : Str × Bo} (hp : p ∈ L) (pp : 0 < p.2.w ∧ 0 < p.2.h) (pos : ∀ q ∈ L, 0 < q.2.w ∧ 0 < q.2.h) {w : Wy} {q : Str × Bo} (hq : q ∈ L) (h : isB p.2 w q) : inB b (nb p.2 w (loW w p.2)) = true ∧ trip p.2 w q ∈ bes L p.2 w := by
  obtain ⟨h1, h2⟩ := h
  have hln := A.ln_pos pp w
  have hbg : loW w p.2 ≤ bgN p.2 q.2 w ∧ bgN p.2 q.2 w < hiW w p.2 ∧ loW w q.2 ≤ bgN p.2 q.2 w ∧ bgN p.2 q.2 w < hiW w q.2 := by
    unfold bgN enN at h2
    unfold bgN
    omega
  have ht : loW w p.2 ≤ bgN p.2 q.2 w ∧ bgN p.2 q.2 w < hiW w p.2 := ⟨hbg.1, hbg.2.1⟩
  have hh := A.hit_t hp hq pp ht h1 (pos q hq) ⟨hbg.2.2.1, hbg.2.2.2⟩
  have hb0 := A.hit_iff.mp ⟨q, hh⟩
  have hlo : loW w p.2 ≤ loW w p.2 ∧ loW w p.2 < hiW w p.2 := ⟨Int.le_refl _, by omega⟩
  have hb := A.nb_all hp pp ht hlo hb0
  refine ⟨hb, ?_⟩
  obtain ⟨x, hx, e⟩ := A.wk_cover hp pp hb (lnW w p.2).toNat (loW w p.2) (bgN p.2 q.2 w) (Int.le_refl _) hbg.1 hbg.2.1 (by unfold hiW; omega)
  obtain ⟨_, q', mq', _, ex⟩ := A.wk_mem hp pp hb (lnW w p.2).toNat (loW w p.2) (Int.le_refl _) (by omega) (fun _ => .inl rfl) x hx
  rw [A.nm_hit hh, ex] at e
  have : q' = q := A.same mq' hq e
  subst this
  rw [← ex]; exact hx
theorem bes_sub {p : Str × Bo} (hp : p ∈ L) (pp : 0 < p.2.w ∧ 0 < p.2.h) {w : Wy} : ∀ x ∈ bes L p.2 w, ∃ q ∈ L, isB p.2 w q ∧ x = trip p.2 w q := by
  intro x hx
  by_cases hb : inB b (nb p.2 w (loW w p.2)) = true
  · have hln := A.ln_pos pp w
    exact (A.wk_mem hp pp hb _ _ (Int.le_refl _) (by unfold hiW; omega) (fun _ => .inl rfl) x hx).2
  · rw [A.bes_none hb] at hx
    exact absurd hx List.not_mem_nil
theorem bes_asc (p : Bo) (w : Wy) : (bes L p w).Pairwise fun x y => x.1 < y.1 := (A.wk_asc _ _).2
/-- the windows found are those that the walk tells -/
theorem bes_perm {M : List (Str × Bo)} (hM : M.Perm L) {p : Str × Bo} (hp : p ∈ L) (pp : 0 < p.2.w ∧ 0 < p.2.h) (pos : ∀ q ∈ L, 0 < q.2.w ∧ 0 < q.2.h) (w : Wy) : (bes L p.2 w).Perm (foundB M p.2 w) := by
  refine (List.perm_ext_iff_of_nodup ?_ ?_).mpr fun x => ⟨fun hx => ?_, fun hx => ?_⟩
  · exact (A.bes_asc p.2 w).imp fun h z => by rw [z] at h; omega
  · have hn : (M.map (·.1)).Nodup := (hM.map _).nodup_iff.mpr A.names
    have h2 : ((foundB M p.2 w).map fun x => x.2.1).Nodup := by
      unfold foundB
      rw [List.map_map]
      exact hn.sublist (List.filter_sublist.map _)
    exact List.Pairwise.of_map (fun x : Int × Str × Int => x.2.1) (fun a b h z => h (by rw [z])) h2
  · obtain ⟨q, mq, h1, e⟩ := A.bes_sub hp pp x hx
    exact List.mem_map.mpr ⟨q, List.mem_filter.mpr ⟨hM.mem_iff.mpr mq, decide_eq_true h1⟩, e.symm⟩
  · obtain ⟨q, mq, e⟩ := List.mem_map.mp hx
    obtain ⟨m1, m2⟩ := List.mem_filter.mp mq
    rw [← e]
    exact (A.found_mem hp pp pos (hM.mem_iff.mp m1) (of_decide_eq_true m2)).2
/-- what is beside one has it beside by the other way -/
theorem bes_back {p : Str × Bo} (hp : p ∈ L) (pos : ∀ q ∈ L, 0 < q.2.w ∧ 0 < q.2.h) (w : Wy) {x : Int × Str × Int} (hx : x ∈ bes L p.2 w) : ∃ q ∈ L, x.2.1 = q.1 ∧ (x.1, p.1, x.2.2) ∈ bes L q.2 w.back := by
  obtain ⟨q, mq, ⟨h1, h2⟩, e⟩ := A.bes_sub hp (pos p hp) x hx
  have hb1 : bgN q.2 p.2 w.back = bgN p.2 q.2 w := by
    unfold bgN
    cases w <;> simp only [Wy.back, loW] <;> omega
  have he1 : enN q.2 p.2 w.back = enN p.2 q.2 w := by
    unfold enN hiW
    cases w <;> simp only [Wy.back, loW, lnW] <;> omega
  have hB : isB q.2 w.back p := by
    refine ⟨?_, by rw [hb1, he1]; exact h2⟩
    unfold isN at h1 ⊢
    rw [show w.back.back = w by cases w <;> rfl]
    exact h1.symm
  have := (A.found_mem mq (pos q mq) pos hp hB).2
  refine ⟨q, mq, by rw [e]; rfl, ?_⟩
  have e2 : trip q.2 w.back p = (x.1, p.1, x.2.2) := by
    rw [e]; unfold trip; rw [hb1, he1]
  rw [← e2]; exact this
theorem bes_pos {p : Str × Bo} (hp : p ∈ L) (pp : 0 < p.2.w ∧ 0 < p.2.h) {w : Wy} : ∀ x ∈ bes L p.2 w, 0 < x.2.2 ∧ x.2.1 ≠ p.1 := by
  intro x hx
  obtain ⟨q, mq, ⟨h1, h2⟩, e⟩ := A.bes_sub hp pp x hx
  rw [e]
  refine ⟨h2, fun z => ?_⟩
  have : q = p := A.same mq hp z
  subst this
  unfold isN at h1
  cases w <;> simp only [edgeOf, Wy.back] at h1 <;> omega
end Arr
end G58
end S56
noncomputable section S57
namespace G58
open PySem PySem.Spec PyProof.Rows L2 PL
variable (K : PySem.W.Frag)
def optD (o : Option Str) : D := match o with
  | none => .none
  | some x => .str x
def acI (w : Wy) : Int := match w with
  | .down => 1
  | .left => 0
  | .right => 0
  | .up => 1
theorem axis_ac (w : Wy) : kdGet tab_AXES (.str (wname w)) = .ok (.int (acI w)) := by cases w <;> kernel_rfl
theorem back_of (w : Wy) : kdGet tab_BACK (.str (wname w)) = .ok (.str (wname w.back)) := by cases w <;> kernel_rfl
/-- a drawn arrangement as the program keeps it -/
structure Pos (M : List (Str × Bo)) (b : Bo) : Prop where
  arr : Arr M b
  pos : ∀ q ∈ M, 0 < q.2.w ∧ 0 < q.2.h
  lay : ∀ q ∈ M, PyData.canLay0 (.str q.1) = true
  len : M.length ≤ 81
theorem meth0_run (m : Str) (f : List D → R D) (fo : Cells → R D) (c : Cells) (M : List (Str × Bo)) (b : Bo) (d : D) (hm : (sidesF M b).lookup m = none) (h1 : fo c = .ok (sidesD K M b)) (h2 : f [sidesD K M b] = .ok d) : meth0D (He.ga K "Sides") m f fo c = .ok d := by
  unfold meth0D
  rw [h1, R.ok_bind]
  show (if He.ga K "Sides" = He.ga K "Sides" then (match (sidesF M b).lookup m with | none => noxD (f [sidesD K M b]) | some _ => .bad) else .bad) = _
  rw [if_pos rfl, hm]
  show noxD (f [sidesD K M b]) = _
  rw [h2]; rfl
theorem meth_run (m : Str) (n : Nat) (f : List D → R D) (fo : Cells → R D) (fa : Cells → R (List D)) (c : Cells) (M : List (Str × Bo)) (b : Bo) (d : D) (ds : List D) (hm : (sidesF M b).lookup m = none) (h1 : fo c = .ok (sidesD K M b)) (h3 : fa c = .ok ds) (hn : ds.length + 1 = n) (h2 : f (sidesD K M b :: ds) = .ok d) : methD (He.ga K "Sides") m n f fo fa c = .ok d := by
  unfold methD
  rw [h1, R.ok_bind]
  show (if He.ga K "Sides" = He.ga K "Sides" then (match (sidesF M b).lookup m with | none => fa c >>= fun ds => if ds.length + 1 = n then noxD (f (sidesD K M b :: ds)) else .bad | some _ => .bad) else .bad) = _
  rw [if_pos rfl, hm]
  show (fa c >>= fun ds => if ds.length + 1 = n then noxD (f (sidesD K M b :: ds)) else .bad) = _
  rw [h3, R.ok_bind, if_pos hn, h2]; rfl
theorem look_edge (M : List (Str × Bo)) (b : Bo) : (sidesF M b).lookup ("edge" : Str) = none := rfl
theorem look_shared (M : List (Str × Bo)) (b : Bo) : (sidesF M b).lookup ("shared" : Str) = none := rfl
theorem look_at (M : List (Str × Bo)) (b : Bo) : (sidesF M b).lookup ("at_edge" : Str) = none := rfl
theorem look_beside (M : List (Str × Bo)) (b : Bo) : (sidesF M b).lookup ("beside" : Str) = none := rfl
theorem look_step (M : List (Str × Bo)) (b : Bo) : (sidesF M b).lookup ("step" : Str) = none := rfl
theorem look_names (M : List (Str × Bo)) (b : Bo) : (sidesF M b).lookup ("names" : Str) = none := rfl
variable {K}
variable {M : List (Str × Bo)} {b : Bo}
theorem names_ok (P : Pos M b) : m_names K [sidesD K M b] = .ok (.list (sortD ((M.map (·.1)).map D.str))) := by
  have hf := fld_boxes K M b
  have hs := strs_sortOk (M.map (·.1)) (by rw [List.length_map]; have := P.len; unfold lim; omega) fun x hx => by
    obtain ⟨q, hq, rfl⟩ := List.mem_map.mp hx
    exact P.lay q hq
  have he : (boxesD M).map (fun p => keyD p.1) = (M.map (·.1)).map D.str := by
    unfold boxesD
    rw [List.map_map, List.map_map]; rfl
  have ho : oSorted [.dict (boxesD M)] = .ok (.list (sortD ((M.map (·.1)).map D.str))) := by
    simp only [oSorted, he, hs, if_true]
  show a_names _ _ = _
  unfold a_names f_names
  simp [cellsN, rdV, hf, ho]
theorem shared_ok (P : Pos M b) {p q : Str × Bo} (hp : p ∈ M) (hq : q ∈ M) (w : Wy) : m_shared K [sidesD K M b, .str p.1, .str q.1, .int (acI w)] = .ok (.tuple [.int (bgN p.2 q.2 w), .int (enN p.2 q.2 w - bgN p.2 q.2 w)]) := by
  have hf := fld_boxes K M b
  have hb := boxes_get P.arr.names hp
  have hb2 := boxes_get P.arr.names hq
  have i0 : ∀ b : Bo, itemOf (boD b) (.int 0) = .ok (.int b.x) := fun _ => rfl
  have i1 : ∀ b : Bo, itemOf (boD b) (.int 1) = .ok (.int b.y) := fun _ => rfl
  have i2 : ∀ b : Bo, itemOf (boD b) (.int 2) = .ok (.int b.w) := fun _ => rfl
  have i3 : ∀ b : Bo, itemOf (boD b) (.int 3) = .ok (.int b.h) := fun _ => rfl
  have l2 : (2 : Nat) ≤ lim := by decide
  show a_shared _ _ = _
  unfold a_shared f_shared
  cases w <;> simp [cellsN, rdV, rdB, hf, hb, hb2, acI, i0, i1, i2, i3, mkTup, l2, bgN, enN, hiW, loW, lnW]
def trD (x : Int × Str × Int) : D := .tuple [.int x.1, .str x.2.1, .int x.2.2]
def prD (x : Str × Int) : D := .tuple [.str x.1, .int x.2]
theorem found_snoc (M : List (Str × Bo)) (q : Str × Bo) (p : Bo) (w : Wy) : foundB (M ++ [q]) p w = foundB M p w ++ (if isB p w q then [trip p w q] else []) := by
  unfold foundB
  rw [List.filter_append, List.map_append]
  congr 1
  by_cases h : isB p w q
  · have d : decide (isB p w q) = true := decide_eq_true h
    rw [if_pos h]
    simp only [List.filter_cons, d, if_true, List.filter_nil, List.map_cons, List.map_nil]
  · have d : decide (isB p w q) = false := decide_eq_false h
    rw [if_neg h]
    simp [List.filter_cons, d]
theorem found_len (M : List (Str × Bo)) (p : Bo) (w : Wy) : (foundB M p w).length ≤ M.length := by
  unfold foundB
  rw [List.length_map]; exact List.length_filter_le _ _
theorem trs_sortOk (L : List (Int × Str × Int)) (hl : L.length ≤ lim) (hs : ∀ x ∈ L, PyData.canLay0 (.str x.2.1) = true) : SortOk (L.map trD) := by
  have he : ∀ x, toPy (trD x) = .tuple [.int x.1, .str x.2.1, .int x.2.2] := fun x => by simp [trD, toPy, toPys]
  have hp : toPys (L.map trD) = L.map fun x => toPy (trD x) := by rw [toPys_map, List.map_map]; rfl
  refine ⟨?_, ?_, ?_, ?_, by rw [List.length_map]; exact hl⟩
  · rw [hp]
    refine PySem.W.AllAlike.of fun p q => ?_
    rw [he, he]
    simp [PySem.W.alike, PySem.W.alikeAll]
  · rw [hp]
    exact PySem.W.Sortable.tuples fun p => ⟨_, _, he p⟩
  · intro d hd
    obtain ⟨p, _, rfl⟩ := List.mem_map.mp hd
    rw [he]
    simp [PyData.depth, PyData.depthAll]
  · rw [hp]
    clear hp hl
    induction L with
    | nil => rfl
    | cons p L ih =>
      rw [List.map_cons, he, PyData.canLayAll0, ih fun q hq => hs q (List.mem_cons_of_mem _ hq)]
      simp [PyData.canLay0, PyData.canLayAll0]
      exact hs p List.mem_cons_self
theorem eq_edges (p q : Bo) (w : Wy) : oEq (.int (edgeOf q w.back)) (.int (edgeOf p w)) = .ok (.bool (decide (isN p q w))) := by
  rw [oEq_int]; rfl
theorem at_edge_ok (P : Pos M b) {p : Str × Bo} (hp : p ∈ M) (w : Wy) : m_at_edge K [sidesD K M b, .str p.1, .str (wname w), .int (edgeOf p.2 w)] = .ok (.list ((bes M p.2 w).map fun x => prD x.2)) := by
  have hf := fld_boxes K M b
  have hk : keysD (.dict (boxesD M)) = .ok (M.map fun p => .str p.1) := by
    show R.ok _ = _
    unfold boxesD
    rw [List.map_map]; rfl
  have ha := axis_ac w
  have hbk := back_of w
  have l3 : (3 : Nat) ≤ lim := by decide
  have l2 : (2 : Nat) ≤ lim := by decide
  have l0 : (0 : Nat) ≤ lim := Nat.zero_le _
  obtain ⟨c', e, x5, x6, x7, ec⟩ := loop_inv (g := gN 5) (fb := b_at_edge_1 K (m_edge K) (m_shared K)) (fun j cs => ∃ x5 x6 x7, cs = [.fz (sidesD K M b), .fz (.str p.1), .fz (.str (wname w)), .fz (.int (edgeOf p.2 w)), .ow (.list ((foundB (M.take j) p.2 w).map trD)), x5, x6, x7, .un])
    (items := M.map fun p => .str p.1) (c := [.fz (sidesD K M b), .fz (.str p.1), .fz (.str (wname w)), .fz (.int (edgeOf p.2 w)), .ow (.list []), .un, .un, .un, .un]) 0 ⟨.un, .un, .un, rfl⟩ (fun i d cs hd ⟨x5, x6, x7, ec⟩ => by
      subst ec
      rw [List.getElem?_map] at hd
      obtain ⟨q, hq, rfl⟩ := Option.map_eq_some_iff.mp hd
      have mq := List.mem_of_getElem? hq
      have he := edge_ok K P.arr mq w.back
      have hs := shared_ok (K := K) P hp mq w
      have hee := eq_edges p.2 q.2 w
      have hme : ∀ (fo : Cells → R D) (fa : Cells → R (List D)) (cs : Cells), fo cs = .ok (sidesD K M b) → fa cs = .ok [.str q.1, .str (wname w.back)] → methD (He.ga K "Sides") "edge" 3 (m_edge K) fo fa cs = .ok (.int (edgeOf q.2 w.back)) := fun fo fa cs e1 e2 => meth_run K _ _ _ _ _ _ M b _ _ (look_edge M b) e1 e2 rfl he
      have hms : ∀ (fo : Cells → R D) (fa : Cells → R (List D)) (cs : Cells), fo cs = .ok (sidesD K M b) → fa cs = .ok [.str p.1, .str q.1, .int (acI w)] → methD (He.ga K "Sides") "shared" 4 (m_shared K) fo fa cs = .ok (.tuple [.int (bgN p.2 q.2 w), .int (enN p.2 q.2 w - bgN p.2 q.2 w)]) := fun fo fa cs e1 e2 => meth_run K _ _ _ _ _ _ M b _ _ (look_shared M b) e1 e2 rfl hs
      refine ⟨_, rfl, ?_⟩
      rw [Nat.zero_add, take_snoc _ _ _ hq, found_snoc]
      have hfl : ((foundB (M.take i) p.2 w).map trD).length < lim := by
        rw [List.length_map]
        have := found_len (M.take i) p.2 w
        rw [List.length_take] at this
        have := P.len
        unfold lim; omega
      generalize foundB (M.take i) p.2 w = F at hfl ⊢
      generalize sidesD K M b = S at *
      by_cases h1 : isN p.2 q.2 w
      · rw [decide_eq_true h1] at hee
        by_cases h2 : 0 < enN p.2 q.2 w - bgN p.2 q.2 w
        · have hB : isB p.2 w q := ⟨h1, h2⟩
          refine ⟨[.fz S, .fz (.str p.1), .fz (.str (wname w)), .fz (.int (edgeOf p.2 w)), .ow (.list ((F ++ [trip p.2 w q]).map trD)), .fz (.str q.1), .fz (.int (bgN p.2 q.2 w)), .fz (.int (enN p.2 q.2 w - bgN p.2 q.2 w)), .un], .inl ?_, _, _, _, by rw [if_pos hB]⟩
          rw [List.map_append]
          have ht : [trip p.2 w q].map trD = [.tuple [.int (bgN p.2 q.2 w), .str q.1, .int (enN p.2 q.2 w - bgN p.2 q.2 w)]] := rfl
          rw [ht]
          generalize F.map trD = FD at hfl ⊢
          generalize enN p.2 q.2 w - bgN p.2 q.2 w = E at *
          generalize bgN p.2 q.2 w = B at *
          unfold b_at_edge_1
          simp [rdV, rdB, hbk, hme, hee, ha, hms, h2, appS, mkTup, l3, hfl]
        · refine ⟨[.fz S, .fz (.str p.1), .fz (.str (wname w)), .fz (.int (edgeOf p.2 w)), .ow (.list (F.map trD)), .fz (.str q.1), .fz (.int (bgN p.2 q.2 w)), .fz (.int (enN p.2 q.2 w - bgN p.2 q.2 w)), .un], .inl ?_, _, _, _, by rw [if_neg (fun z : isB p.2 w q => h2 z.2), List.append_nil]⟩
          generalize F.map trD = FD at hfl ⊢
          generalize enN p.2 q.2 w - bgN p.2 q.2 w = E at *
          generalize bgN p.2 q.2 w = B at *
          unfold b_at_edge_1
          simp [rdV, rdB, hbk, hme, hee, ha, hms, h2]
      · rw [decide_eq_false h1] at hee
        refine ⟨[.fz S, .fz (.str p.1), .fz (.str (wname w)), .fz (.int (edgeOf p.2 w)), .ow (.list (F.map trD)), .fz (.str q.1), x6, x7, .un], .inl ?_, _, _, _, by rw [if_neg (fun z : isB p.2 w q => h1 z.1), List.append_nil]⟩
        generalize F.map trD = FD at hfl ⊢
        unfold b_at_edge_1
        simp [rdV, rdB, hbk, hme, hee])
  subst ec
  rw [List.length_map, Nat.zero_add, List.take_length] at e
  have hperm := P.arr.bes_perm (List.Perm.refl M) hp (P.pos p hp) P.pos w
  have hblen : (bes M p.2 w).length ≤ 81 := by
    rw [hperm.length_eq]
    exact Nat.le_trans (found_len M p.2 w) P.len
  have hso : SortOk ((foundB M p.2 w).map trD) := trs_sortOk _ (by rw [← hperm.length_eq]; unfold lim; omega) fun x hx => by
    obtain ⟨q, mq, _, ex⟩ := P.arr.bes_sub hp (P.pos p hp) x (hperm.mem_iff.mpr hx)
    rw [ex]; exact P.lay q mq
  have hsd : sortD ((foundB M p.2 w).map trD) = (bes M p.2 w).map trD := sortD_eq trD hperm ((P.arr.bes_asc p.2 w).imp fun {x y} h => by
    have he : ∀ x, toPy (trD x) = .tuple [.int x.1, .str x.2.1, .int x.2.2] := fun x => by simp [trD, toPy, toPys]
    rw [he, he]
    exact lt_fst _ _ h)
  have ho : oSorted [.list ((foundB M p.2 w).map trD)] = .ok (.list ((bes M p.2 w).map trD)) := by
    simp only [oSorted, hso, if_true, hsd]
  have hcomp : ∀ c0 c1 c2 c3 c4 c6 : Cell, compL (gT 3 (gsCons (gN 8) (gsCons (gN 5) (gsCons (gN 7) gsNil)))) (fun _ => R.ok true) (e_at_edge_1 K (m_edge K) (m_shared K)) ((bes M p.2 w).map trD) [c0, c1, c2, c3, c4, .un, c6, .un, .un] = .ok ((bes M p.2 w).map fun x => prD x.2) := by
    intro c0 c1 c2 c3 c4 c6
    refine comp_all trD (fun x => prD x.2) fun x hx => ⟨_, rfl, rfl, ?_⟩
    unfold e_at_edge_1
    simp [rdV, mkTup, l2, prD]
  have hbl : ((bes M p.2 w).map trD).length ≤ lim := by rw [List.length_map]; unfold lim; omega
  show a_at_edge _ _ _ _ = _
  unfold a_at_edge f_at_edge
  generalize (bes M p.2 w).map trD = B1 at *
  generalize ((bes M p.2 w).map fun x => prD x.2) = B2 at *
  generalize (foundB M p.2 w).map trD = F1 at *
  simp [cellsN, rdV, rdB, mkLst, l0, hf, hk, e, ho, hbl, hcomp]
theorem Me_beside_ok (P : Pos M b) {p : Str × Bo} (hp : p ∈ M) (w : Wy) : m_Me_beside K [sidesD K M b, .str p.1, .str (wname w)] = .ok (.list ((bes M p.2 w).map fun x => prD x.2)) := by
  have he := edge_ok K P.arr hp w
  have hat := at_edge_ok (K := K) P hp w
  have hme : ∀ (fo : Cells → R D) (fa : Cells → R (List D)) (cs : Cells), fo cs = .ok (sidesD K M b) → fa cs = .ok [.str p.1, .str (wname w)] → methD (He.ga K "Sides") "edge" 3 (m_edge K) fo fa cs = .ok (.int (edgeOf p.2 w)) := fun fo fa cs e1 e2 => meth_run K _ _ _ _ _ _ M b _ _ (look_edge M b) e1 e2 rfl he
  have hma : ∀ (fo : Cells → R D) (fa : Cells → R (List D)) (cs : Cells), fo cs = .ok (sidesD K M b) → fa cs = .ok [.str p.1, .str (wname w), .int (edgeOf p.2 w)] → methD (He.ga K "Sides") "at_edge" 4 (m_at_edge K) fo fa cs = .ok (.list ((bes M p.2 w).map fun x => prD x.2)) := fun fo fa cs e1 e2 => meth_run K _ _ _ _ _ _ M b _ _ (look_at M b) e1 e2 rfl hat
  have hperm := P.arr.bes_perm (List.Perm.refl M) hp (P.pos p hp) P.pos w
  have hbl : ((bes M p.2 w).map fun x => prD x.2).length ≤ lim := by
    rw [List.length_map, hperm.length_eq]
    have := found_len M p.2 w
    have := P.len
    unfold lim; omega
  have hcomp : compL (gN 3) (t_Me_beside_1 K (m_at_edge K) (m_edge K)) (e_Me_beside_1 K (m_at_edge K) (m_edge K)) ((bes M p.2 w).map fun x => prD x.2) [.fz (sidesD K M b), .fz (.str p.1), .fz (.str (wname w)), .un] = .ok ((bes M p.2 w).map fun x => prD x.2) := by
    refine comp_all (fun x : Int × Str × Int => prD x.2) (fun x => prD x.2) fun x hx => ⟨_, rfl, ?_, rfl⟩
    obtain ⟨q, mq, _, ex⟩ := P.arr.bes_sub hp (P.pos p hp) x hx
    have hne := (P.arr.bes_pos hp (P.pos p hp) x hx).2
    have hl : PyData.canLay0 (.str x.2.1) = true := by rw [ex]; exact P.lay q mq
    have ho := oNe_str hl (P.lay p hp)
    rw [decide_eq_false hne] at ho
    have i0 : itemOf (prD x.2) (.int 0) = .ok (.str x.2.1) := rfl
    unfold t_Me_beside_1
    simp [rdB, i0, ho]
  show a_Me_beside _ _ _ _ = _
  unfold a_Me_beside f_Me_beside
  generalize ((bes M p.2 w).map fun x => prD x.2) = B2 at *
  generalize sidesD K M b = S at *
  simp (maxDischargeDepth := 8) [cellsN, rdV, hme, hma, hbl, hcomp]
def most (P : List (Str × Int)) : Int := maxI ((P.map fun x : Str × Int => x.2) ++ [0])
def mostN (P : List (Str × Int)) : Option Str := (P.find? fun x => decide (x.2 = most P)).map (·.1)
theorem maxI_same {a b : List Int} (ha : a ≠ []) (h : ∀ x, x ∈ a ↔ x ∈ b) : maxI a = maxI b := by
  have hb : b ≠ [] := fun z => by
    cases a with
    | nil => exact ha rfl
    | cons x a =>
      have := (h x).mp List.mem_cons_self
      rw [z] at this
      exact absurd this List.not_mem_nil
  obtain ⟨m1, u1⟩ := maxI_spec ha
  obtain ⟨m2, u2⟩ := maxI_spec hb
  exact Int.le_antisymm (u2 _ ((h _).mp m1)) (u1 _ ((h _).mpr m2))
theorem most_mem {P : List (Str × Int)} (hne : P ≠ []) (hp : ∀ x ∈ P, 0 < x.2) : ∃ x ∈ P, x.2 = most P := by
  have h1 : (P.map fun x : Str × Int => x.2) ++ [0] ≠ [] := by simp
  obtain ⟨m, u⟩ := maxI_spec h1
  rcases List.mem_append.mp m with z | z
  · obtain ⟨x, hx, e⟩ := List.mem_map.mp z
    exact ⟨x, hx, e⟩
  · have h0 : most P = 0 := List.mem_singleton.mp z
    cases P with
    | nil => exact absurd rfl hne
    | cons x P =>
      have := u x.2 (List.mem_append_left _ (List.mem_map.mpr ⟨x, List.mem_cons_self, rfl⟩))
      have h2 := hp x List.mem_cons_self
      change x.2 ≤ most (x :: P) at this
      omega
theorem mostN_some {P : List (Str × Int)} (hne : P ≠ []) (hp : ∀ x ∈ P, 0 < x.2) : ∃ x ∈ P, mostN P = some x.1 ∧ x.2 = most P := by
  obtain ⟨x, hx, e⟩ := most_mem hne hp
  cases q : P.find? fun x => decide (x.2 = most P) with
  | none => exact absurd (decide_eq_true e) (by simpa using List.find?_eq_none.mp q x hx)
  | some y => exact ⟨y, List.mem_of_find?_eq_some q, by unfold mostN; rw [q]; rfl, of_decide_eq_true (by simpa using List.find?_some q)⟩
theorem find_head {α : Type} (p : α → Bool) (l : List α) : l.find? p = (l.filter p).head? := by
  rw [List.head?_filter]
theorem most_shared_ok (P : List (Str × Int)) (hl : P.length ≤ 81) (hp : ∀ x ∈ P, 0 < x.2) : m_most_shared K [.list (P.map prD)] = .ok (optD (mostN P)) := by
  have hpl : (P.map prD).length ≤ lim := by rw [List.length_map]; unfold lim; omega
  have c1 : ∀ x5, compL (gT 2 (gsCons (gN 3) (gsCons (gN 4) gsNil))) (fun _ => R.ok true) e_most_shared_1 (P.map prD) [.fz (.list (P.map prD)), .un, .un, .un, .un, x5] = .ok (P.map fun x : Str × Int => D.int x.2) := fun x5 =>
    comp_all prD (fun x : Str × Int => D.int x.2) fun x hx => ⟨_, rfl, rfl, rfl⟩
  have hm : oMax [.list (((P.map fun x : Str × Int => x.2) ++ [0]).map D.int)] = .ok (.int (most P)) := by
    show (match intsOf (((P.map fun x : Str × Int => x.2) ++ [0]).map D.int) with | some ns => if ns = [] then R.bad else R.ok (D.int (maxI ns)) | none => .bad) = _
    rw [intsOf_ints]
    show (if (P.map fun x : Str × Int => x.2) ++ [0] = [] then R.bad else R.ok (D.int (maxI ((P.map fun x : Str × Int => x.2) ++ [0])))) = _
    rw [if_neg (by simp)]; rfl
  have hadd : oAdd (.list (P.map fun x => D.int x.2)) (.list [.int 0]) = .ok (.list (((P.map fun x : Str × Int => x.2) ++ [0]).map D.int)) := by
    show (if _ then _ else _) = _
    rw [if_pos (by simp; unfold lim; omega), List.map_append, List.map_map]; rfl
  have c2 : compL (gT 2 (gsCons (gN 5) (gsCons (gN 4) gsNil))) t_most_shared_1 e_most_shared_2 (P.map prD) [.fz (.list (P.map prD)), .fz (.int (most P)), .un, .un, .un, .un] = .ok ((P.filter fun x => decide (x.2 = most P)).map fun x => .str x.1) := by
    refine comp_map (fun x => decide (x.2 = most P)) prD (fun x => .str x.1) fun x hx => ⟨_, rfl, ?_, fun _ => rfl⟩
    unfold t_most_shared_1
    simp [rdB]
  have l1 : (1 : Nat) ≤ lim := by decide
  have hfin : mostN P = ((P.filter fun x => decide (x.2 = most P)).head?).map (·.1) := by unfold mostN; rw [find_head]
  rw [hfin]
  show a_most_shared _ = _
  unfold a_most_shared f_most_shared
  generalize (P.filter fun x => decide (x.2 = most P)) = F at *
  generalize P.map prD = PD at *
  generalize ((P.map fun x : Str × Int => x.2) ++ [0]).map D.int = IL at *
  generalize (P.map fun x : Str × Int => D.int x.2) = CL at *
  cases F with
  | nil => simp [cellsN, rdV, rdB, hpl, c1, mkLst, l1, hadd, hm, c2, optD]
  | cons x F =>
    have i0 : itemOf (.list ((x :: F).map fun x => D.str x.1)) (.int 0) = .ok (.str x.1) := item_nat _ 0 _ rfl
    have hpos : (0 : Int) < ((((x :: F).map fun x => D.str x.1).length : Nat) : Int) := by rw [List.length_map, List.length_cons]; omega
    have hol : oLen [.list ((x :: F).map fun x => D.str x.1)] = .ok (.int ((((x :: F).map fun x => D.str x.1).length : Nat) : Int)) := rfl
    show _ = R.ok (D.str x.1)
    generalize ((x :: F).map fun x => D.str x.1) = FD at *
    have hpos' : 0 < FD.length := by omega
    simp [cellsN, rdV, rdB, hpl, c1, mkLst, l1, hadd, hm, c2, i0, hol, hpos, hpos']
end G58
end S57
noncomputable section S58
namespace G58
open PySem PySem.Spec PyProof.Rows L2 PL
variable {K : PySem.W.Frag}
variable {M L : List (Str × Bo)} {b : Bo}
theorem wk_of (h : hit M = hit L) (p : Bo) (w : Wy) : ∀ (f : Nat) (t : Int), wk M p w f t = wk L p w f t
  | 0, _ => rfl
  | f + 1, t => by
    unfold wk
    rw [h]
    split
    · cases hit L (nb p w t) with
      | none => rfl
      | some q => simp only [wk_of h p w f]
    · rfl
theorem bes_of (h : hit M = hit L) (p : Bo) (w : Wy) : bes M p w = bes L p w := wk_of h p w _ _
def besN (L : List (Str × Bo)) (x : Str) (w : Wy) : List (Str × Int) := match L.find? fun q => decide (q.1 = x) with
  | some p => (bes L p.2 w).map (·.2)
  | none => []
def stepN (L : List (Str × Bo)) (x : Str) (w : Wy) : Option Str := mostN (besN L x w)
theorem find_name (A : Arr L b) {p : Str × Bo} (hp : p ∈ L) : (L.find? fun q => decide (q.1 = p.1)) = some p := by
  cases e : L.find? fun q => decide (q.1 = p.1) with
  | none => exact absurd (decide_eq_true (rfl : p.1 = p.1)) (by simpa using List.find?_eq_none.mp e p hp)
  | some q =>
    have h1 := List.mem_of_find?_eq_some e
    have h2 : q.1 = p.1 := of_decide_eq_true (by simpa using List.find?_some e)
    rw [A.same h1 hp h2]
theorem besN_eq (A : Arr L b) {p : Str × Bo} (hp : p ∈ L) (w : Wy) : besN L p.1 w = (bes L p.2 w).map (·.2) := by
  unfold besN; rw [find_name A hp]
theorem besN_D (A : Arr L b) {p : Str × Bo} (hp : p ∈ L) (w : Wy) : (bes L p.2 w).map (fun x => prD x.2) = (besN L p.1 w).map prD := by
  rw [besN_eq A hp, List.map_map]; rfl
theorem besN_len (P : Pos L b) (x : Str) (w : Wy) : (besN L x w).length ≤ 81 := by
  unfold besN
  cases e : L.find? fun q => decide (q.1 = x) with
  | none => exact Nat.zero_le _
  | some p =>
    have hp := List.mem_of_find?_eq_some e
    show ((bes L p.2 w).map (·.2)).length ≤ 81
    rw [List.length_map, (P.arr.bes_perm (List.Perm.refl L) hp (P.pos p hp) P.pos w).length_eq]
    exact Nat.le_trans (found_len L p.2 w) P.len
theorem besN_mem (P : Pos L b) {x : Str} {w : Wy} {y : Str × Int} (h : y ∈ besN L x w) : 0 < y.2 ∧ y.1 ≠ x ∧ (∃ q ∈ L, q.1 = y.1) ∧ (x, y.2) ∈ besN L y.1 w.back := by
  unfold besN at h
  cases e : L.find? fun q => decide (q.1 = x) with
  | none => rw [e] at h; exact absurd h List.not_mem_nil
  | some p =>
    rw [e] at h
    have hp := List.mem_of_find?_eq_some e
    have hx : p.1 = x := of_decide_eq_true (by simpa using List.find?_some e)
    obtain ⟨z, hz, rfl⟩ := List.mem_map.mp h
    obtain ⟨h1, h2⟩ := P.arr.bes_pos hp (P.pos p hp) z hz
    obtain ⟨q, mq, e1, e2⟩ := P.arr.bes_back hp P.pos w hz
    refine ⟨h1, by rw [← hx]; exact h2, ⟨q, mq, e1.symm⟩, ?_⟩
    rw [e1, besN_eq P.arr mq, ← hx]
    exact List.mem_map.mpr ⟨_, e2, rfl⟩
theorem stepN_some (P : Pos L b) {x : Str} {w : Wy} {o : Str} (h : stepN L x w = some o) : ∃ c, (o, c) ∈ besN L x w ∧ c = most (besN L x w) := by
  have hne : besN L x w ≠ [] := fun z => by unfold stepN at h; rw [z] at h; cases h
  obtain ⟨y, hy, e, e2⟩ := mostN_some hne fun y hy => (besN_mem P hy).1
  unfold stepN at h
  rw [e] at h
  cases h
  exact ⟨y.2, hy, e2⟩
theorem stepN_in (P : Pos L b) {x : Str} {w : Wy} {o : Str} (h : stepN L x w = some o) : ∃ q ∈ L, q.1 = o := by
  obtain ⟨c, hc, _⟩ := stepN_some P h
  exact (besN_mem P hc).2.2.1
/-- where each has one beside it, all lead back -/
theorem plain_back (P : Pos L b) {x : Str} {w : Wy} {o : Str} (h : stepN L x w = some o) (h1 : (besN L o w.back).length < 2) : stepN L o w.back = some x := by
  obtain ⟨c, hc, _⟩ := stepN_some P h
  have hb := (besN_mem P hc).2.2.2
  have hne : besN L o w.back ≠ [] := fun z => by rw [z] at hb; exact absurd hb List.not_mem_nil
  obtain ⟨y, hy, e, _⟩ := mostN_some hne fun y hy => (besN_mem P hy).1
  unfold stepN
  rw [e]
  match hL : besN L o w.back, h1 with
  | [], _ => rw [hL] at hb; exact absurd hb List.not_mem_nil
  | [z], _ =>
    rw [hL] at hb hy
    have h2 := List.mem_singleton.mp hb
    have h3 := List.mem_singleton.mp hy
    rw [h3, ← h2]
  | _ :: _ :: _, h1 => simp at h1; omega
theorem step_ok (P : Pos M b) {x : Str} (hx : ∃ p ∈ M, p.1 = x) (w : Wy) : m_step K [sidesD K M b, .str x, .str (wname w)] = .ok (optD (stepN M x w)) := by
  obtain ⟨p, hp, rfl⟩ := hx
  have hb := Me_beside_ok (K := K) P hp w
  rw [besN_D P.arr hp] at hb
  have hm := most_shared_ok (K := K) (besN M p.1 w) (besN_len P p.1 w) fun y hy => (besN_mem P hy).1
  have hmb : ∀ (fo : Cells → R D) (fa : Cells → R (List D)) (cs : Cells), fo cs = .ok (sidesD K M b) → fa cs = .ok [.str p.1, .str (wname w)] → methD (He.ga K "Sides") "beside" 3 (m_Me_beside K) fo fa cs = .ok (.list ((besN M p.1 w).map prD)) := fun fo fa cs e1 e2 => meth_run K _ _ _ _ _ _ M b _ _ (look_beside M b) e1 e2 rfl hb
  show a_step _ _ _ _ = _
  unfold a_step f_step
  show _ = R.ok (optD (mostN (besN M p.1 w)))
  generalize (besN M p.1 w).map prD = Y at *
  generalize sidesD K M b = S at *
  simp [cellsN, rdV, hmb, hm]
theorem check_name_ok (P : Pos M b) {p : Str × Bo} (hp : p ∈ M) : m_check_name K [sidesD K M b, .str p.1] = .ok .none := by
  have hf := fld_boxes K M b
  have hn : oNotIn (.str p.1) (.dict (boxesD M)) = .ok (.bool false) := by
    have h := getK_mem (fun p : Str × Bo => (Sum.inr p.1 : Key)) (fun p => boD p.2) M (by
      have : (M.map fun p => (Sum.inr p.1 : Key)) = (M.map (·.1)).map Sum.inr := by rw [List.map_map]; rfl
      rw [this]
      exact List.Pairwise.map _ (fun a b h z => h (Sum.inr.inj z)) P.arr.names) p hp
    show (R.ok (getK (boxesD M) (Sum.inr p.1)).isSome >>= fun b => R.ok (D.bool (!b))) = _
    rw [show getK (boxesD M) (Sum.inr p.1) = some (boD p.2) from h]; rfl
  show a_check_name _ _ = _
  unfold a_check_name f_check_name
  simp [cellsN, rdV, rdB, hf, hn]
theorem check_way_ok (w : Wy) : m_check_way K [.str (wname w)] = .ok .none := by
  have hi : oNotIn (.str (wname w)) (.ftuple (tup_WAYS.map dvD)) = .ok (.bool false) := by cases w <;> kernel_rfl
  show a_check_way _ _ = _
  unfold a_check_way f_check_way
  simp [cellsN, rdV, rdB, hi]
/-- what the program's calls make of a drawn layout and box -/
structure Sd (K : PySem.W.Frag) (T bD : D) (M : List (Str × Bo)) (b : Bo) : Prop where
  ms : m_Sides K [T, bD] = .ok (sidesF M b)
  pos : Pos M b
section
variable {T bD : D} (S : Sd K T bD M b)
include S
theorem make_run (fa : Cells → R (List D)) (cs : Cells) (h : fa cs = .ok [T, bD]) : makeD (He.ga K "Sides") 2 (m_Sides K) fa cs = .ok (sidesD K M b) := by
  have h2 := S.ms
  simp only [makeD, h, R.ok_bind, h2]
  rfl
theorem there_windows_ok : m_there_windows K [T, bD] = .ok (.tuple (sortD ((M.map (·.1)).map D.str))) := by
  have hn := names_ok (K := K) S.pos
  have h0 : ∀ (fo : Cells → R D) (cs : Cells), fo cs = .ok (sidesD K M b) → meth0D (He.ga K "Sides") "names" (m_names K) fo cs = .ok (.list (sortD ((M.map (·.1)).map D.str))) := fun fo cs e1 => meth0_run K _ _ _ _ M b _ (look_names M b) e1 hn
  have hm := make_run S
  show a_there_windows _ _ _ _ = _
  unfold a_there_windows f_there_windows
  generalize sortD ((M.map (·.1)).map D.str) = N at *
  have e : ∀ fa cs, fa cs = .ok [T, bD] → meth0D (He.ga K "Sides") "names" (m_names K) (makeD (He.ga K "Sides") 2 (m_Sides K) fa) cs = .ok (.list N) := fun fa cs h => h0 _ _ (hm fa cs h)
  rw [show cellsN ["layout", "box"] [T, bD] = [.fz T, .fz bD] from rfl]
  simp only [e (fun c => rdV 0 c >>= fun d => (fun (c : Cells) => rdV 1 c >>= fun d => (fun (_ : Cells) => R.ok ([] : List D)) c >>= fun ds => R.ok (d :: ds)) c >>= fun ds => R.ok (d :: ds)) [.fz T, .fz bD] rfl]
  rfl
theorem beside_ok {p : Str × Bo} (hp : p ∈ M) (w : Wy) : m_beside K [T, bD, .str p.1, .str (wname w)] = .ok (.tuple ((besN M p.1 w).map prD)) := by
  have hb := Me_beside_ok (K := K) S.pos hp w
  rw [besN_D S.pos.arr hp] at hb
  have hmb : ∀ (fo : Cells → R D) (fa : Cells → R (List D)) (cs : Cells), fo cs = .ok (sidesD K M b) → fa cs = .ok [.str p.1, .str (wname w)] → methD (He.ga K "Sides") "beside" 3 (m_Me_beside K) fo fa cs = .ok (.list ((besN M p.1 w).map prD)) := fun fo fa cs e1 e2 => meth_run K _ _ _ _ _ _ M b _ _ (look_beside M b) e1 e2 rfl hb
  have hm := S.ms
  have e : ∀ C, D.inst C (sidesF M b) = D.inst C (sidesF M b) := fun _ => rfl
  have hn := check_name_ok (K := K) S.pos hp
  have hw := check_way_ok (K := K) w
  have es : sidesD K M b = .inst (He.ga K "Sides") (sidesF M b) := rfl
  show a_beside _ _ _ _ _ _ = _
  unfold a_beside f_beside
  generalize (besN M p.1 w).map prD = Y at *
  rw [es] at hmb hn
  simp [cellsN, rdV, hm, hn, hw, hmb]
theorem steps_to_ok {p : Str × Bo} (hp : p ∈ M) (w : Wy) : m_steps_to K [T, bD, .str p.1, .str (wname w)] = .ok (optD (stepN M p.1 w)) := by
  have hb := step_ok (K := K) S.pos ⟨p, hp, rfl⟩ w
  have hmb : ∀ (fo : Cells → R D) (fa : Cells → R (List D)) (cs : Cells), fo cs = .ok (sidesD K M b) → fa cs = .ok [.str p.1, .str (wname w)] → methD (He.ga K "Sides") "step" 3 (m_step K) fo fa cs = .ok (optD (stepN M p.1 w)) := fun fo fa cs e1 e2 => meth_run K _ _ _ _ _ _ M b _ _ (look_step M b) e1 e2 rfl hb
  have hm := S.ms
  have hn := check_name_ok (K := K) S.pos hp
  have hw := check_way_ok (K := K) w
  have es : sidesD K M b = .inst (He.ga K "Sides") (sidesF M b) := rfl
  show a_steps_to _ _ _ _ _ _ = _
  unfold a_steps_to f_steps_to
  generalize optD (stepN M p.1 w) = Y at *
  rw [es] at hmb hn
  simp [cellsN, rdV, hm, hn, hw, hmb]
end
def wys : List Wy := [.down, .left, .right, .up]
def backW (L : List (Str × Bo)) (x : Str) (w : Wy) : List (Str × Wy × Str) := match stepN L x w with
  | none => []
  | some o => if stepN L o w.back = some x then [] else [(x, w, o)]
def backX (L : List (Str × Bo)) (x : Str) : List (Str × Wy × Str) := wys.flatMap (backW L x)
def bkD (y : Str × Wy × Str) : D := .tuple [.str y.1, .str (wname y.2.1), .str y.2.2]
theorem backW_len (L : List (Str × Bo)) (x : Str) (w : Wy) : (backW L x w).length ≤ 1 := by
  unfold backW
  split
  · exact Nat.zero_le _
  · split
    · exact Nat.zero_le _
    · exact Nat.le_refl _
theorem backX_len (L : List (Str × Bo)) (x : Str) : (backX L x).length ≤ 4 := flat_len (backW L x) 1 wys fun w _ => backW_len L x w
theorem ne_opt (P : Pos L b) {x : Str} (hx : ∃ p ∈ L, p.1 = x) {o : Str} {w : Wy} : oNe (optD (stepN L o w)) (.str x) = .ok (.bool (!decide (stepN L o w = some x))) := by
  obtain ⟨p, hp, rfl⟩ := hx
  have hl := P.lay p hp
  cases h : stepN L o w with
  | none =>
    have := oEq_smp (d := .none) (e := .str p.1) (by rw [smp]) (by rw [smp]; exact hl) (by rw [toPy, PyData.depth]; omega) (by rw [toPy, PyData.depth]; omega)
    rw [show optD none = .none from rfl, (this.2 (fun z => nomatch z)).2]
    simp
  | some y =>
    obtain ⟨q, hq, rfl⟩ := stepN_in P h
    show oNe (.str q.1) (.str p.1) = _
    rw [oNe_str (P.lay q hq) hl]
    congr 3
    simp
theorem back_turn (P : Pos M b) {x : Str} (hx : ∃ p ∈ M, p.1 = x) (w : Wy) (F : List D) (hF : F.length < lim) (x0 x1 x6 : Cell) :
    ∃ y6, b_not_back_1 K (m_names K) (m_step K) (m_Sides K) [x0, x1, .fz (sidesD K M b), .ow (.list F), .fz (.str x), .fz (.str (wname w)), x6] = .ok (.nx [x0, x1, .fz (sidesD K M b), .ow (.list (F ++ (backW M x w).map bkD)), .fz (.str x), .fz (.str (wname w)), y6]) := by
  have h1 := step_ok (K := K) P hx w
  have hm1 : ∀ (fo : Cells → R D) (fa : Cells → R (List D)) (cs : Cells), fo cs = .ok (sidesD K M b) → fa cs = .ok [.str x, .str (wname w)] → methD (He.ga K "Sides") "step" 3 (m_step K) fo fa cs = .ok (optD (stepN M x w)) := fun fo fa cs e1 e2 => meth_run K _ _ _ _ _ _ M b _ _ (look_step M b) e1 e2 rfl h1
  have hbk := back_of w
  have l3 : (3 : Nat) ≤ lim := by decide
  refine ⟨.fz (optD (stepN M x w)), ?_⟩
  unfold backW
  cases h : stepN M x w with
  | none =>
    rw [h] at hm1
    have hm1 : ∀ (fo : Cells → R D) (fa : Cells → R (List D)) (cs : Cells), fo cs = .ok (sidesD K M b) → fa cs = .ok [.str x, .str (wname w)] → methD (He.ga K "Sides") "step" 3 (m_step K) fo fa cs = .ok .none := hm1
    show _ = R.ok (Out.nx [x0, x1, .fz (sidesD K M b), .ow (.list (F ++ ([] : List (Str × Wy × Str)).map bkD)), .fz (.str x), .fz (.str (wname w)), .fz .none])
    rw [List.map_nil, List.append_nil]
    generalize sidesD K M b = S at *
    unfold b_not_back_1
    simp [rdV, rdB, hm1]
  | some o =>
    rw [h] at hm1
    have hm1 : ∀ (fo : Cells → R D) (fa : Cells → R (List D)) (cs : Cells), fo cs = .ok (sidesD K M b) → fa cs = .ok [.str x, .str (wname w)] → methD (He.ga K "Sides") "step" 3 (m_step K) fo fa cs = .ok (.str o) := hm1
    have h2 := step_ok (K := K) P (stepN_in P h) w.back
    have hm2 : ∀ (fo : Cells → R D) (fa : Cells → R (List D)) (cs : Cells), fo cs = .ok (sidesD K M b) → fa cs = .ok [.str o, .str (wname w.back)] → methD (He.ga K "Sides") "step" 3 (m_step K) fo fa cs = .ok (optD (stepN M o w.back)) := fun fo fa cs e1 e2 => meth_run K _ _ _ _ _ _ M b _ _ (look_step M b) e1 e2 rfl h2
    have hne := ne_opt P hx (o := o) (w := w.back)
    have hoi : oIsNot (.str o) .none = .ok (.bool true) := rfl
    show _ = R.ok (Out.nx [x0, x1, .fz (sidesD K M b), .ow (.list (F ++ (if stepN M o w.back = some x then [] else [(x, w, o)]).map bkD)), .fz (.str x), .fz (.str (wname w)), .fz (.str o)])
    by_cases hq : stepN M o w.back = some x
    · rw [decide_eq_true hq] at hne
      rw [if_pos hq, List.map_nil, List.append_nil]
      generalize sidesD K M b = S at *
      generalize optD (stepN M o w.back) = O at *
      unfold b_not_back_1
      simp [rdV, rdB, hm1, hm2, hbk, hne]
    · rw [decide_eq_false hq] at hne
      rw [if_neg hq]
      show _ = R.ok (Out.nx [x0, x1, .fz (sidesD K M b), .ow (.list (F ++ [.tuple [.str x, .str (wname w), .str o]])), .fz (.str x), .fz (.str (wname w)), .fz (.str o)])
      generalize sidesD K M b = S at *
      generalize optD (stepN M o w.back) = O at *
      unfold b_not_back_1
      simp [rdV, rdB, hm1, hm2, hbk, hne, appS, mkTup, l3, hF]
theorem not_back_ok {T bD : D} (S : Sd K T bD M b) (N : List Str) (hN : N.Perm (M.map (·.1))) (hs : sortD ((M.map (·.1)).map D.str) = N.map D.str) : m_not_back K [T, bD] = .ok (.tuple ((N.flatMap (backX M)).map bkD)) := by
  have P := S.pos
  have hNl : N.length ≤ 81 := by rw [hN.length_eq, List.length_map]; exact P.len
  have hmem : ∀ x ∈ N, ∃ p ∈ M, p.1 = x := fun x hx => by
    obtain ⟨p, hp, e⟩ := List.mem_map.mp (hN.mem_iff.mp hx)
    exact ⟨p, hp, e⟩
  have hn := names_ok (K := K) P
  rw [hs] at hn
  have h0 : ∀ (fo : Cells → R D) (cs : Cells), fo cs = .ok (sidesD K M b) → meth0D (He.ga K "Sides") "names" (m_names K) fo cs = .ok (.list (N.map D.str)) := fun fo cs e1 => meth0_run K _ _ _ _ M b _ (look_names M b) e1 hn
  have inner : ∀ (x : Str), (∃ p ∈ M, p.1 = x) → ∀ (F : List D), F.length + 4 < lim → ∀ (x0 x1 x5 x6 : Cell), ∃ y5 y6, b_not_back_2 K (m_names K) (m_step K) (m_Sides K) [x0, x1, .fz (sidesD K M b), .ow (.list F), .fz (.str x), x5, x6] = .ok (.nx [x0, x1, .fz (sidesD K M b), .ow (.list (F ++ (backX M x).map bkD)), .fz (.str x), y5, y6]) := by
    intro x hx F hF x0 x1 x5 x6
    obtain ⟨c', e, y5, y6, ec⟩ := loop_inv (g := gN 5) (fb := b_not_back_1 K (m_names K) (m_step K) (m_Sides K)) (fun j cs => ∃ y5 y6, cs = [x0, x1, .fz (sidesD K M b), .ow (.list (F ++ ((wys.take j).flatMap (backW M x)).map bkD)), .fz (.str x), y5, y6])
      (items := wys.map fun w => .str (wname w)) (c := [x0, x1, .fz (sidesD K M b), .ow (.list F), .fz (.str x), x5, x6]) 0 ⟨x5, x6, by simp⟩ (fun i d cs hd ⟨y5, y6, ec⟩ => by
        subst ec
        rw [List.getElem?_map] at hd
        obtain ⟨w, hw, rfl⟩ := Option.map_eq_some_iff.mp hd
        have hl : (F ++ ((wys.take (0 + i)).flatMap (backW M x)).map bkD).length < lim := by
          have h1 := flat_len (backW M x) 1 (wys.take (0 + i)) fun w _ => backW_len M x w
          have h2 : (wys.take (0 + i)).length ≤ 4 := by rw [List.length_take]; exact Nat.min_le_right _ _
          rw [List.length_append, List.length_map]; omega
        obtain ⟨z6, e⟩ := back_turn (K := K) P hx w (F ++ ((wys.take (0 + i)).flatMap (backW M x)).map bkD) hl x0 x1 y6
        refine ⟨_, rfl, _, .inl e, .fz (.str (wname w)), z6, ?_⟩
        rw [Nat.zero_add, take_snoc _ _ _ hw, List.flatMap_append, List.map_append, List.append_assoc]
        simp)
    subst ec
    rw [List.length_map, Nat.zero_add, List.take_length] at e
    refine ⟨y5, y6, ?_⟩
    have hw : asIt (.ftuple (tup_WAYS.map dvD)) = .ok (wys.map fun w => .str (wname w)) := rfl
    unfold b_not_back_2
    generalize (wys.map fun w => D.str (wname w)) = WS at *
    simp only [forS_apply, R.ok_bind, hw]
    exact e
  obtain ⟨c', e, y4, y5, y6, ec⟩ := loop_inv (g := gN 4) (fb := b_not_back_2 K (m_names K) (m_step K) (m_Sides K)) (fun j cs => ∃ y4 y5 y6, cs = [.fz T, .fz bD, .fz (sidesD K M b), .ow (.list (((N.take j).flatMap (backX M)).map bkD)), y4, y5, y6])
    (items := N.map D.str) (c := [.fz T, .fz bD, .fz (sidesD K M b), .ow (.list []), .un, .un, .un]) 0 ⟨.un, .un, .un, by simp⟩ (fun i d cs hd ⟨y4, y5, y6, ec⟩ => by
      subst ec
      rw [List.getElem?_map] at hd
      obtain ⟨x, hx, rfl⟩ := Option.map_eq_some_iff.mp hd
      have hm := List.mem_of_getElem? hx
      have hl : (((N.take (0 + i)).flatMap (backX M)).map bkD).length + 4 < lim := by
        have h1 := flat_len (backX M) 4 (N.take (0 + i)) fun w _ => backX_len M w
        have h2 : (N.take (0 + i)).length ≤ 81 := by rw [List.length_take]; omega
        rw [List.length_map]; unfold lim; omega
      obtain ⟨z5, z6, e⟩ := inner x (hmem x hm) _ hl (.fz T) (.fz bD) y5 y6
      refine ⟨_, rfl, _, .inl e, .fz (.str x), z5, z6, ?_⟩
      rw [Nat.zero_add, take_snoc _ _ _ hx, List.flatMap_append, List.map_append]
      simp)
  subst ec
  rw [List.length_map, Nat.zero_add, List.take_length] at e
  have hm := S.ms
  have es : sidesD K M b = .inst (He.ga K "Sides") (sidesF M b) := rfl
  have l0 : (0 : Nat) ≤ lim := Nat.zero_le _
  show a_not_back _ _ _ _ _ = _
  unfold a_not_back f_not_back
  rw [es] at h0 e
  generalize (N.flatMap (backX M)).map bkD = Y at *
  generalize N.map D.str = NS at *
  simp [cellsN, rdV, rdB, hm, mkLst, l0, h0, e]
end G58
end S58
noncomputable section S59
namespace G58
open PySem PySem.Spec PyProof.Rows L2 PL
variable {K : PySem.W.Frag}
variable {L : List (Str × Bo)} {b : Bo} {kvs : List (List Key × D)}
theorem most_law (P : List (Str × Int)) : maxI (0 :: P.map fun x : Str × Int => x.2) = most P := maxI_same (by simp) fun x => by simp [or_comm]
theorem law_most_ok (P : List (Str × Int)) (hl : P.length ≤ 81) (hp : ∀ x ∈ P, 0 < x.2) : m__law_most K [.list (P.map prD)] = .ok (optD (mostN P)) := by
  have hpl : (P.map prD).length ≤ lim := by rw [List.length_map]; unfold lim; omega
  have c1 : compL (gN 2) (fun _ => R.ok true) e__law_most_1 (P.map prD) [.fz (.list (P.map prD)), .un, .un] = .ok (P.map fun x : Str × Int => D.int x.2) :=
    comp_all prD (fun x : Str × Int => D.int x.2) fun x hx => ⟨_, rfl, rfl, rfl⟩
  have hm : oMax [.list ((0 :: P.map fun x : Str × Int => x.2).map D.int)] = .ok (.int (most P)) := by
    show (match intsOf ((0 :: P.map fun x : Str × Int => x.2).map D.int) with | some ns => if ns = [] then R.bad else R.ok (D.int (maxI ns)) | none => .bad) = _
    rw [intsOf_ints]
    show (if (0 :: P.map fun x : Str × Int => x.2) = [] then R.bad else R.ok (D.int (maxI (0 :: P.map fun x : Str × Int => x.2)))) = _
    rw [if_neg (by simp), most_law]
  have hadd : oAdd (.list [.int 0]) (.list (P.map fun x => D.int x.2)) = .ok (.list ((0 :: P.map fun x : Str × Int => x.2).map D.int)) := by
    show (if _ then _ else _) = _
    rw [if_pos (by simp; unfold lim; omega), List.map_cons, List.map_map]; rfl
  have c2 : compL (gN 2) t__law_most_1 e__law_most_2 (P.map prD) [.fz (.list (P.map prD)), .fz (.int (most P)), .un] = .ok ((P.filter fun x => decide (x.2 = most P)).map fun x => .str x.1) := by
    refine comp_map (fun x => decide (x.2 = most P)) prD (fun x => .str x.1) fun x hx => ⟨_, rfl, ?_, fun _ => rfl⟩
    have i1 : itemOf (prD x) (.int 1) = .ok (.int x.2) := rfl
    unfold t__law_most_1
    simp [rdB, i1]
  have l1 : (1 : Nat) ≤ lim := by decide
  have hfin : mostN P = ((P.filter fun x => decide (x.2 = most P)).head?).map (·.1) := by unfold mostN; rw [find_head]
  show a__law_most _ = _
  unfold a__law_most f__law_most
  cases hP : P with
  | nil =>
    subst hP
    have hm : oMax [.list [.int 0]] = .ok (.int (most [])) := hm
    have hadd : oAdd (.list [.int 0]) (.list []) = .ok (.list [.int 0]) := hadd
    show _ = R.ok D.none
    simp [cellsN, rdV, rdB, mkLst, l1, hadd, hm, compL]
  | cons y P' =>
    rw [← hP]
    obtain ⟨x, hx, e⟩ := most_mem (P := P) (by rw [hP]; simp) hp
    have hF : (P.filter fun x => decide (x.2 = most P)) ≠ [] := fun z => by
      have : x ∈ P.filter fun x => decide (x.2 = most P) := List.mem_filter.mpr ⟨hx, decide_eq_true e⟩
      rw [z] at this
      exact absurd this List.not_mem_nil
    rw [hfin]
    have hposI : (0 : Int) < ((P.map prD).length : Nat) := by rw [hP, List.length_map, List.length_cons]; omega
    have hpos : 0 < (P.map prD).length := by omega
    have hol : oLen [.list (P.map prD)] = .ok (.int ((P.map prD).length : Nat)) := rfl
    clear hfin hx e
    generalize (P.filter fun x => decide (x.2 = most P)) = F at *
    generalize P.map prD = PD at *
    generalize (0 :: P.map fun x : Str × Int => x.2).map D.int = IL at *
    generalize (P.map fun x : Str × Int => D.int x.2) = CL at *
    cases F with
    | nil => exact absurd rfl hF
    | cons x F =>
      have i0 : itemOf (.list ((x :: F).map fun x => D.str x.1)) (.int 0) = .ok (.str x.1) := item_nat _ 0 _ rfl
      show _ = R.ok (D.str x.1)
      generalize ((x :: F).map fun x => D.str x.1) = FD at *
      simp [cellsN, rdV, rdB, hpl, c1, mkLst, l1, hadd, hm, c2, i0, hol, hpos, hposI]
def otherC (L : List (Str × Bo)) (x : Str) (w : Wy) (c : Ce) : Str := (win L (nextC c w)).getD x
def rowsOf (L : List (Str × Bo)) (x : Str) (w : Wy) (c : Ce) : List (Int × Str) := if nm L c = x ∧ otherC L x w c ≠ x then [(alC w c, otherC L x w c)] else []
def rwD (y : Int × Str) : D := .tuple [.int y.1, .str y.2]
def canon (L : List (Str × Bo)) (p : Bo) (w : Wy) : List (Int × Str) := (List.range (lnW w p).toNat).map fun (i : Nat) => (loW w p + (i : Int), nm L (nb p w (loW w p + i)))
theorem rowsOf_mem (A : Arr L b) {p : Str × Bo} (hp : p ∈ L) (pp : 0 < p.2.w ∧ 0 < p.2.h) {w : Wy} {c : Ce} (hc : inB b c = true) {y : Int × Str} (h : y ∈ rowsOf L p.1 w c) :
    c = sd p.2 w y.1 ∧ inB b (nb p.2 w y.1) = true ∧ (loW w p.2 ≤ y.1 ∧ y.1 < hiW w p.2) ∧ y.2 = nm L (nb p.2 w y.1) := by
  unfold rowsOf at h
  split at h
  · rename_i hh
    obtain ⟨h1, h2⟩ := hh
    rw [List.mem_singleton] at h
    subst h
    obtain ⟨q, hq⟩ := A.hit_iff.mpr hc
    rw [Arr.nm_hit A hq] at h1
    have : q = p := A.same (hit_mem hq).1 hp h1
    subst this
    have ic := (hit_mem hq).2
    cases e : win L (nextC c w) with
    | none => unfold otherC at h2; rw [e] at h2; exact absurd rfl h2
    | some o =>
      have ho : otherC L q.1 w c = o := by unfold otherC; rw [e]; rfl
      rw [ho] at h2 ⊢
      have hnb : inB b (nextC c w) = true := by
        have := A.win_isSome (c := nextC c w)
        rw [e] at this; exact this.symm
      obtain ⟨r, hr⟩ := A.hit_iff.mpr hnb
      have hro : r.1 = o := by unfold win at e; rw [hr] at e; exact Option.some.inj e
      have hnp : ¬ inB q.2 (nextC c w) = true := fun z => by
        have := A.uniq (hit_mem hr).1 hp (hit_mem hr).2 z
        rw [this] at hro
        exact h2 hro.symm
      have hsd := out_sd ic hnp
      have hnx : nextC c w = nb q.2 w (alC w c) := by
        have := sd_next q.2 w (alC w c)
        rw [← hsd] at this; exact this
      refine ⟨hsd, by rw [← hnx]; exact hnb, in_al ic, ?_⟩
      show o = nm L (nb q.2 w (alC w c))
      rw [← hnx, Arr.nm_hit A hr, hro]
  · exact absurd h List.not_mem_nil
theorem rowsOf_has (A : Arr L b) {p : Str × Bo} (hp : p ∈ L) (pp : 0 < p.2.w ∧ 0 < p.2.h) {w : Wy} {t : Int} (ht : loW w p.2 ≤ t ∧ t < hiW w p.2) (hb : inB b (nb p.2 w t) = true) :
    inB b (sd p.2 w t) = true ∧ (t, nm L (nb p.2 w t)) ∈ rowsOf L p.1 w (sd p.2 w t) := by
  have hs := sd_in pp ht
  refine ⟨A.in_b hp hs, ?_⟩
  obtain ⟨r, hr⟩ := A.hit_iff.mpr hb
  have h1 : nm L (sd p.2 w t) = p.1 := Arr.nm_hit A (A.hit_of hp hs)
  have h2 : otherC L p.1 w (sd p.2 w t) = nm L (nb p.2 w t) := by
    unfold otherC nm win
    rw [sd_next, hr]; rfl
  have h3 : nm L (nb p.2 w t) ≠ p.1 := fun z => by
    rw [Arr.nm_hit A hr] at z
    have := A.same (hit_mem hr).1 hp z
    have hi := (hit_mem hr).2
    rw [this, nb_out] at hi
    cases hi
  unfold rowsOf
  rw [h2, if_pos ⟨h1, h3⟩, sd_al]
  exact List.mem_singleton_self _
theorem nodup_flat {α β : Type} (f : α → List β) (key : β → α) (h1 : ∀ a, (f a).Nodup) : ∀ (es : List α), (∀ a ∈ es, ∀ y ∈ f a, key y = a) → es.Nodup → (es.flatMap f).Nodup
  | [], _, _ => List.nodup_nil
  | a :: es, h, hn => by
    rw [List.nodup_cons] at hn
    rw [List.flatMap_cons, List.nodup_append]
    refine ⟨h1 a, nodup_flat f key h1 es (fun c hc => h c (List.mem_cons_of_mem _ hc)) hn.2, fun y hy z hz hyz => ?_⟩
    obtain ⟨c, hc, hz⟩ := List.mem_flatMap.mp hz
    have e1 := h a List.mem_cons_self y hy
    have e2 := h c (List.mem_cons_of_mem _ hc) z hz
    rw [hyz, e2] at e1
    exact hn.1 (by rw [← e1]; exact hc)
theorem rows_perm (A : Arr L b) {p : Str × Bo} (hp : p ∈ L) (pp : 0 < p.2.w ∧ 0 < p.2.h) (w : Wy) (es : List Ce) (hin : ∀ c ∈ es, inB b c = true) (hnd : es.Nodup) (hall : ∀ c, inB b c = true → c ∈ es) :
    (if inB b (nb p.2 w (loW w p.2)) = true then canon L p.2 w else []).Perm (es.flatMap (rowsOf L p.1 w)) := by
  have hln := A.ln_pos pp w
  have hlo : loW w p.2 ≤ loW w p.2 ∧ loW w p.2 < hiW w p.2 := ⟨Int.le_refl _, by unfold hiW; omega⟩
  refine (List.perm_ext_iff_of_nodup ?_ ?_).mpr fun y => ⟨fun hy => ?_, fun hy => ?_⟩
  · split
    · unfold canon
      refine List.Pairwise.map _ (fun i j hij z => hij ?_) List.nodup_range
      have := (Prod.mk.inj z).1
      omega
    · exact List.nodup_nil
  · refine nodup_flat (rowsOf L p.1 w) (fun y => sd p.2 w y.1) (fun c => ?_) es (fun c hc y hy => (rowsOf_mem A hp pp (hin c hc) hy).1.symm) hnd
    unfold rowsOf
    split
    · simp
    · exact List.nodup_nil
  · split at hy
    · rename_i hb
      obtain ⟨i, hi, rfl⟩ := List.mem_map.mp hy
      rw [List.mem_range] at hi
      have ht : loW w p.2 ≤ loW w p.2 + (i : Int) ∧ loW w p.2 + (i : Int) < hiW w p.2 := ⟨by omega, by unfold hiW; omega⟩
      obtain ⟨h1, h2⟩ := rowsOf_has A hp pp ht (A.nb_all hp pp hlo ht hb)
      exact List.mem_flatMap.mpr ⟨_, hall _ h1, h2⟩
    · exact absurd hy List.not_mem_nil
  · obtain ⟨c, hc, hy⟩ := List.mem_flatMap.mp hy
    obtain ⟨_, h2, h3, h4⟩ := rowsOf_mem A hp pp (hin c hc) hy
    rw [if_pos (A.nb_all hp pp h3 hlo h2)]
    unfold canon
    refine List.mem_map.mpr ⟨(y.1 - loW w p.2).toNat, List.mem_range.mpr (by unfold hiW at h3; omega), ?_⟩
    have : loW w p.2 + ((y.1 - loW w p.2).toNat : Int) = y.1 := by omega
    rw [this, ← h4]
theorem canon_names (L : List (Str × Bo)) (p : Bo) (w : Wy) : (canon L p w).map (·.2) = nbNames L p w (loW w p) (lnW w p).toNat := by
  unfold canon nbNames
  rw [List.map_map]; rfl
theorem canon_asc (L : List (Str × Bo)) (p : Bo) (w : Wy) : (canon L p w).Pairwise fun x y => x.1 < y.1 := by
  unfold canon
  rw [List.pairwise_map]
  exact List.pairwise_lt_range.imp fun {i j} h => by
    show loW w p + (i : Int) < loW w p + (j : Int)
    omega
theorem rws_sortOk (R : List (Int × Str)) (hl : R.length ≤ lim) (hs : ∀ x ∈ R, PyData.canLay0 (.str x.2) = true) : SortOk (R.map rwD) := by
  have he : ∀ x, toPy (rwD x) = .tuple [.int x.1, .str x.2] := fun x => by simp [rwD, toPy, toPys]
  have hp : toPys (R.map rwD) = R.map fun x => toPy (rwD x) := by rw [toPys_map, List.map_map]; rfl
  refine ⟨?_, ?_, ?_, ?_, by rw [List.length_map]; exact hl⟩
  · rw [hp]
    refine PySem.W.AllAlike.of fun p q => ?_
    rw [he, he]
    simp [PySem.W.alike, PySem.W.alikeAll]
  · rw [hp]
    exact PySem.W.Sortable.tuples fun p => ⟨_, _, he p⟩
  · intro d hd
    obtain ⟨p, _, rfl⟩ := List.mem_map.mp hd
    rw [he]
    simp [PyData.depth, PyData.depthAll]
  · rw [hp]
    clear hp hl
    induction R with
    | nil => rfl
    | cons p R ih =>
      rw [List.map_cons, he, PyData.canLayAll0, ih fun q hq => hs q (List.mem_cons_of_mem _ hq)]
      simp [PyData.canLay0, PyData.canLayAll0]
      exact hs p List.mem_cons_self
theorem item_backL (xs : List D) (k : Nat) (d : D) (h : k + 1 ≤ xs.length) (e : xs[xs.length - (k + 1)]? = some d) : itemOf (.list xs) (.int (-((k : Int) + 1))) = .ok d := by
  have : atI xs (-((k : Int) + 1)) = some d := by
    unfold atI ixN
    rw [if_neg (by omega), if_pos (by omega)]
    show xs[(-((k : Int) + 1) + (xs.length : Int)).toNat]? = _
    rw [← e]
    congr 1
    omega
  show (match atI xs (-((k : Int) + 1)) with | some d => R.ok d | none => .bad) = _
  rw [this]
theorem rle_len (acc : List (Str × Int)) (o : Str) : (rleS acc o).length ≤ acc.length + 1 := by
  unfold rleS
  split
  · rename_i q h
    have hne : acc ≠ [] := fun z => by rw [z] at h; cases h
    split
    · rw [List.length_append, List.length_dropLast, List.length_singleton]; omega
    · simp
  · simp
/-- one row taken into the runs -/
theorem rle_turn (A : List D → R D) (x0 x1 x2 x3 x4 : Cell) (at_ : D) (acc : List (Str × Int)) (hacc : acc.length < 100) (hlay : ∀ q ∈ acc, PyData.canLay0 (.str q.1) = true) (o : Str) (ho : PyData.canLay0 (.str o) = true) :
    b__law_beside_2 A [x0, x1, x2, x3, x4, .fz (.str o), .ow (.list (acc.map prD)), .fz at_] = .ok (.nx [x0, x1, x2, x3, x4, .fz (.str o), .ow (.list ((rleS acc o).map prD)), .fz at_]) := by
  have l2 : (2 : Nat) ≤ lim := by decide
  have hll : (acc.map prD).length < lim := by rw [List.length_map]; unfold lim; omega
  rcases List.eq_nil_or_concat acc with z | ⟨I, q, z⟩
  · subst z
    have hr : rleS [] o = [(o, 1)] := rfl
    rw [hr]
    have l0 : (0 : Nat) < lim := by decide
    unfold b__law_beside_2
    simp [rdV, rdB, appS, mkTup, l2, l0, prD]
  · rw [List.concat_eq_append] at z
    subst z
    have hq := hlay q (List.mem_append_right _ (List.mem_singleton_self _))
    have hit : itemOf (.list ((I ++ [q]).map prD)) (.int (-1)) = .ok (prD q) := by
      refine item_backL _ 0 _ (by simp) ?_
      simp
    have i0 : itemOf (prD q) (.int 0) = .ok (.str q.1) := rfl
    have i1 : itemOf (prD q) (.int 1) = .ok (.int q.2) := rfl
    have heq := oEq_str hq ho
    have hposI : (0 : Int) < (((I ++ [q]).map prD).length : Nat) := by rw [List.length_map, List.length_append, List.length_singleton]; omega
    have hpos : 0 < ((I ++ [q]).map prD).length := by simp
    have hol : oLen [.list ((I ++ [q]).map prD)] = .ok (.int (((I ++ [q]).map prD).length : Nat)) := rfl
    have hix : ixN ((I ++ [q]).map prD).length (-1) = some I.length := by
      unfold ixN
      rw [if_neg (by omega), if_pos (by simp; omega)]
      simp
      omega
    have hset : ((I ++ [q]).map prD).set I.length (prD (o, q.2 + 1)) = (I ++ [(o, q.2 + 1)]).map prD := by
      rw [List.map_append, List.map_append]
      rw [List.set_append_right _ _ (by rw [List.length_map]; exact Nat.le_refl _), List.length_map, Nat.sub_self]
      rfl
    by_cases h : q.1 = o
    · rw [decide_eq_true h] at heq
      have hr : rleS (I ++ [q]) o = I ++ [(o, q.2 + 1)] := by
        unfold rleS
        simp [h]
      rw [hr, ← hset]
      have hpd : prD (o, q.2 + 1) = .tuple [.str o, .int (q.2 + 1)] := rfl
      rw [hpd]
      generalize (I ++ [q]).map prD = AD at *
      unfold b__law_beside_2
      simp [rdV, rdB, hol, hpos, hposI, hit, i0, i1, heq, lputS, mkTup, l2, hix]
    · rw [decide_eq_false h] at heq
      have hr : rleS (I ++ [q]) o = (I ++ [q]) ++ [(o, 1)] := by
        unfold rleS
        simp [h]
      rw [hr, List.map_append (l₂ := [(o, 1)])]
      show _ = R.ok (Out.nx [x0, x1, x2, x3, x4, .fz (.str o), .ow (.list ((I ++ [q]).map prD ++ [.tuple [.str o, .int 1]])), .fz at_])
      generalize (I ++ [q]).map prD = AD at *
      unfold b__law_beside_2
      simp [rdV, rdB, hol, hpos, hposI, hit, i0, i1, heq, appS, mkTup, l2, hll]
theorem law_beside_ok (g : Cel kvs (win L) 50000) (P : Pos L b) (hb0 : 0 < b.w ∧ 0 < b.h) {p : Str × Bo} (hp : p ∈ L) (w : Wy) : m__law_beside K [.dictT kvs, .str p.1, .str (wname w)] = .ok (.list ((besN L p.1 w).map prD)) := by
  have A := P.arr
  have pp := P.pos p hp
  obtain ⟨es, eso, hne, hel, hin, hnd, hall⟩ := cells_sorted g A hb0
  have hins := A.inside hp (sd_in pp (w := w) (t := loW w p.2) ⟨Int.le_refl _, by have := A.ln_pos pp w; unfold hiW; omega⟩)
  have hln24 : lnW w p.2 ≤ 24 := by cases w <;> simp only [lnW] <;> omega
  have l0 : (0 : Nat) ≤ lim := Nat.zero_le _
  have l2 : (2 : Nat) ≤ lim := by decide
  have hway : oIn (.str (wname w)) (.tuple [.str "left", .str "right"]) = .ok (.bool (match w with | .down => false | .left => true | .right => true | .up => false)) := by cases w <;> kernel_rfl
  -- the rows
  have loop1 : ∃ x4 x5, loopD (gN 4) (b__law_beside_1 (m__law_next K)) (es.map ceD) [.fz (.dictT kvs), .fz (.str p.1), .fz (.str (wname w)), .ow (.list []), .un, .un, .un, .un] = .ok (.nx [.fz (.dictT kvs), .fz (.str p.1), .fz (.str (wname w)), .ow (.list ((es.flatMap (rowsOf L p.1 w)).map rwD)), x4, x5, .un, .un]) := by
    obtain ⟨c', e, x4, x5, ec⟩ := loop_inv (g := gN 4) (fb := b__law_beside_1 (m__law_next K)) (fun j cs => ∃ x4 x5, cs = [.fz (.dictT kvs), .fz (.str p.1), .fz (.str (wname w)), .ow (.list (((es.take j).flatMap (rowsOf L p.1 w)).map rwD)), x4, x5, .un, .un])
      (items := es.map ceD) (c := [.fz (.dictT kvs), .fz (.str p.1), .fz (.str (wname w)), .ow (.list []), .un, .un, .un, .un]) 0 ⟨.un, .un, by simp⟩ (fun i d cs hd ⟨x4, x5, ec⟩ => by
        subst ec
        rw [List.getElem?_map] at hd
        obtain ⟨c, hc, rfl⟩ := Option.map_eq_some_iff.mp hd
        have hcb := hin c (List.mem_of_getElem? hc)
        have hn := law_next_ok K c w
        have hg := g.get (nextC c w)
        have hget : dGet (.dictT kvs) (ceD (nextC c w)) = .ok ((win L (nextC c w)).map D.str) := by
          show R.ok (getK kvs (keyC (nextC c w))) = _
          rw [hg]
        have hd2 : getD2 (.dictT kvs) (ceD (nextC c w)) (.str p.1) = .ok (.str (otherC L p.1 w c)) := by
          unfold getD2 otherC
          rw [hget]
          cases win L (nextC c w) <;> rfl
        have hcg := cells_get g A c hcb
        have hlc := lay_nm A P.lay hcb
        have hlo : PyData.canLay0 (.str (otherC L p.1 w c)) = true := by
          unfold otherC
          cases e : win L (nextC c w) with
          | none => exact P.lay p hp
          | some o =>
            have hnb : inB b (nextC c w) = true := by
              have := A.win_isSome (c := nextC c w)
              rw [e] at this; exact this.symm
            have := lay_nm A P.lay hnb
            unfold nm at this
            rw [e] at this; exact this
        have e1 := oEq_str hlc (P.lay p hp)
        have e2 := oNe_str hlo (P.lay p hp)
        have hdict : isDictD (.dictT kvs) = true := rfl
        have j0 : itemOf (ceD c) (.int 0) = .ok (.int c.1) := rfl
        have j1 : itemOf (ceD c) (.int 1) = .ok (.int c.2) := rfl
        have hfl : (((es.take i).flatMap (rowsOf L p.1 w)).map rwD).length < lim := by
          have h1 := flat_len (rowsOf L p.1 w) 1 (es.take i) fun c _ => by
            unfold rowsOf; split <;> simp
          have h2 : (es.take i).length ≤ es.length := by rw [List.length_take]; omega
          rw [List.length_map]; unfold lim; omega
        refine ⟨_, rfl, [.fz (.dictT kvs), .fz (.str p.1), .fz (.str (wname w)), .ow (.list (((es.take (0 + i + 1)).flatMap (rowsOf L p.1 w)).map rwD)), .fz (ceD c), .fz (.str (otherC L p.1 w c)), .un, .un], .inl ?_, _, _, rfl⟩
        rw [Nat.zero_add, take_snoc _ _ _ hc, List.flatMap_append, List.map_append, List.flatMap_cons, List.flatMap_nil, List.append_nil]
        generalize ((es.take i).flatMap (rowsOf L p.1 w)).map rwD = RD at hfl ⊢
        by_cases h1 : nm L c = p.1
        · rw [decide_eq_true h1] at e1
          by_cases h2 : otherC L p.1 w c = p.1
          · rw [decide_eq_true h2] at e2
            have hr : rowsOf L p.1 w c = [] := by unfold rowsOf; rw [if_neg (fun z => z.2 h2)]
            rw [hr, List.map_nil, List.append_nil]
            generalize ceD (nextC c w) = NX at *
            generalize otherC L p.1 w c = OT at *
            unfold b__law_beside_1
            simp [rdV, rdB, getV, hdict, hn, hd2, hcg, e1, e2]
          · rw [decide_eq_false h2] at e2
            have hr : rowsOf L p.1 w c = [(alC w c, otherC L p.1 w c)] := by unfold rowsOf; rw [if_pos ⟨h1, h2⟩]
            rw [hr]
            show _ = R.ok (Out.nx [.fz (.dictT kvs), .fz (.str p.1), .fz (.str (wname w)), .ow (.list (RD ++ [.tuple [.int (alC w c), .str (otherC L p.1 w c)]])), .fz (ceD c), .fz (.str (otherC L p.1 w c)), .un, .un])
            clear hr h2
            generalize ceD (nextC c w) = NX at *
            generalize otherC L p.1 w c = OT at *
            generalize hC : ceD c = C at *
            unfold b__law_beside_1
            cases w <;> simp only [] at hway <;> simp [rdV, rdB, getV, hdict, hn, hd2, hcg, e1, e2, hway, j0, j1, appS, mkTup, l2, hfl, alC]
        · rw [decide_eq_false h1] at e1
          have hr : rowsOf L p.1 w c = [] := by unfold rowsOf; rw [if_neg (fun z => h1 z.1)]
          rw [hr, List.map_nil, List.append_nil]
          generalize ceD (nextC c w) = NX at *
          generalize otherC L p.1 w c = OT at *
          unfold b__law_beside_1
          simp [rdV, rdB, getV, hdict, hn, hd2, hcg, e1])
    subst ec
    rw [List.length_map, Nat.zero_add, List.take_length] at e
    exact ⟨x4, x5, e⟩
  obtain ⟨x4, x5, loop1⟩ := loop1
  -- sorted
  obtain ⟨R0, hR0⟩ : ∃ R0, R0 = (if inB b (nb p.2 w (loW w p.2)) = true then canon L p.2 w else []) := ⟨_, rfl⟩
  have hperm := rows_perm A hp pp w es hin hnd hall
  rw [← hR0] at hperm
  have hclen : (canon L p.2 w).length ≤ 24 := by unfold canon; simp; omega
  have hRl : R0.length ≤ 24 := by rw [hR0]; split; exact hclen; exact Nat.zero_le _
  have hRlay : ∀ x ∈ R0, PyData.canLay0 (.str x.2) = true := fun x hx => by
    obtain ⟨c, hc, hy⟩ := List.mem_flatMap.mp (hperm.mem_iff.mp hx)
    obtain ⟨_, h2, h3, h4⟩ := rowsOf_mem A hp pp (hin c hc) hy
    rw [h4]; exact lay_nm A P.lay h2
  have hso : SortOk ((es.flatMap (rowsOf L p.1 w)).map rwD) := rws_sortOk _ (by rw [← hperm.length_eq]; unfold lim; omega) fun x hx => hRlay x (hperm.mem_iff.mpr hx)
  have hasc : R0.Pairwise fun x y => x.1 < y.1 := by
    rw [hR0]; split
    · exact canon_asc L p.2 w
    · exact List.Pairwise.nil
  have hsd : sortD ((es.flatMap (rowsOf L p.1 w)).map rwD) = R0.map rwD := sortD_eq rwD hperm (hasc.imp fun {x y} h => by
    have he : ∀ x, toPy (rwD x) = .tuple [.int x.1, .str x.2] := fun x => by simp [rwD, toPy, toPys]
    rw [he, he]
    exact lt_fst _ _ h)
  have ho : oSorted [.list ((es.flatMap (rowsOf L p.1 w)).map rwD)] = .ok (.list (R0.map rwD)) := by
    simp only [oSorted, hso, if_true, hsd]
  -- the runs
  have loop2 : ∀ x3, ∃ y5 y7, loopD (gT 2 (gsCons (gN 7) (gsCons (gN 5) gsNil))) (b__law_beside_2 (m__law_next K)) (R0.map rwD) [.fz (.dictT kvs), .fz (.str p.1), .fz (.str (wname w)), x3, x4, x5, .ow (.list []), .un] = .ok (.nx [.fz (.dictT kvs), .fz (.str p.1), .fz (.str (wname w)), x3, x4, y5, .ow (.list (((R0.map (·.2)).foldl rleS []).map prD)), y7]) := by
    intro x3
    obtain ⟨c', e, acc, y5, y7, ec, ea, _, _⟩ := loop_inv (g := gT 2 (gsCons (gN 7) (gsCons (gN 5) gsNil))) (fb := b__law_beside_2 (m__law_next K)) (fun j cs => ∃ acc y5 y7, cs = [.fz (.dictT kvs), .fz (.str p.1), .fz (.str (wname w)), x3, x4, y5, .ow (.list (acc.map prD)), y7] ∧ acc = ((R0.take j).map (·.2)).foldl rleS [] ∧ acc.length ≤ j ∧ ∀ q ∈ acc, PyData.canLay0 (.str q.1) = true)
      (items := R0.map rwD) (c := [.fz (.dictT kvs), .fz (.str p.1), .fz (.str (wname w)), x3, x4, x5, .ow (.list []), .un]) 0 ⟨[], x5, .un, rfl, rfl, Nat.le_refl _, fun q h => absurd h List.not_mem_nil⟩ (fun i d cs hd ⟨acc, y5, y7, ec, ea, el, elay⟩ => by
        subst ec
        rw [List.getElem?_map] at hd
        obtain ⟨y, hy, rfl⟩ := Option.map_eq_some_iff.mp hd
        have hi := (List.getElem?_eq_some_iff.mp hy).1
        have hyl := hRlay y (List.mem_of_getElem? hy)
        have et := rle_turn (m__law_next K) (.fz (.dictT kvs)) (.fz (.str p.1)) (.fz (.str (wname w))) x3 x4 (.int y.1) acc (by omega) elay y.2 hyl
        refine ⟨_, rfl, _, .inl et, rleS acc y.2, _, _, rfl, ?_, ?_, fun q hq => ?_⟩
        · rw [take_snoc R0 (0 + i) y (by rw [Nat.zero_add]; exact hy), List.map_append, List.foldl_append, ← ea]; rfl
        · have := rle_len acc y.2; omega
        · unfold rleS at hq
          split at hq
          · split at hq
            · rcases List.mem_append.mp hq with z | z
              · exact elay q (List.dropLast_subset _ z)
              · rw [List.mem_singleton.mp z]; exact hyl
            · rcases List.mem_append.mp hq with z | z
              · exact elay q z
              · rw [List.mem_singleton.mp z]; exact hyl
          · rcases List.mem_append.mp hq with z | z
            · exact elay q z
            · rw [List.mem_singleton.mp z]; exact hyl)
    subst ec
    rw [List.length_map, Nat.zero_add, List.take_length] at ea
    subst ea
    exact ⟨y5, y7, e⟩
  have hres : (R0.map (·.2)).foldl rleS [] = besN L p.1 w := by
    rw [besN_eq A hp, hR0]
    by_cases hb : inB b (nb p.2 w (loW w p.2)) = true
    · rw [if_pos hb, canon_names]
      have := A.rle_wk hp pp hb (lnW w p.2).toNat (loW w p.2) [] (Int.le_refl _) (by have := A.ln_pos pp w; unfold hiW; omega) (by unfold hiW; omega) (fun _ q h => by cases h)
      rw [show (hiW w p.2 - loW w p.2).toNat = (lnW w p.2).toNat by unfold hiW; congr 1; omega, List.nil_append] at this
      exact this
    · rw [if_neg hb, A.bes_none hb]; rfl
  rw [hres] at loop2
  obtain ⟨y5, y7, loop2⟩ := loop2 (.ow (.list ((es.flatMap (rowsOf L p.1 w)).map rwD)))
  show a__law_beside _ _ = _
  unfold a__law_beside f__law_beside
  clear hsd hso hres
  generalize (besN L p.1 w).map prD = Z at *
  generalize R0.map rwD = R1 at *
  generalize (es.flatMap (rowsOf L p.1 w)).map rwD = R2 at *
  generalize es.map ceD = ES at *
  simp [cellsN, rdV, rdB, mkLst, l0, eso, loop1, ho, loop2]
end G58
end S59
noncomputable section S60
namespace G58
open PySem PySem.Spec PyProof.Rows L2 PL
variable {K : PySem.W.Frag}
variable {M L : List (Str × Bo)} {b : Bo} {kvs : List (List Key × D)}
theorem besN_of (AM : Arr M b) (AL : Arr L b) (hM : M.Perm L) (hh : hit M = hit L) (x : Str) (w : Wy) : besN M x w = besN L x w := by
  unfold besN
  cases e : L.find? fun q => decide (q.1 = x) with
  | none =>
    have : (M.find? fun q => decide (q.1 = x)) = none := by
      rw [List.find?_eq_none] at e ⊢
      exact fun q hq => e q (hM.mem_iff.mp hq)
    rw [this]
  | some p =>
    have hp := List.mem_of_find?_eq_some e
    have hx : p.1 = x := of_decide_eq_true (by simpa using List.find?_some e)
    subst hx
    rw [find_name AM (hM.mem_iff.mpr hp)]
    show (bes M p.2 w).map (·.2) = (bes L p.2 w).map (·.2)
    rw [bes_of hh]
theorem stepN_of (AM : Arr M b) (AL : Arr L b) (hM : M.Perm L) (hh : hit M = hit L) : stepN M = stepN L := by
  funext x w; unfold stepN; rw [besN_of AM AL hM hh]
theorem backX_of (AM : Arr M b) (AL : Arr L b) (hM : M.Perm L) (hh : hit M = hit L) : backX M = backX L := by
  funext x; unfold backX
  congr 1
  funext w; unfold backW; rw [stepN_of AM AL hM hh]
theorem ne_self {d : D} (h : smp d = true) (hd : (toPy d).depth ≤ 64) : oNe d d = .ok (.bool false) := ((oEq_smp h h hd hd).1 rfl).2
theorem eq_self {d : D} (h : smp d = true) (hd : (toPy d).depth ≤ 64) : oEq d d = .ok (.bool true) := ((oEq_smp h h hd hd).1 rfl).1
theorem besN_nd (P : Pos L b) (x : Str) (w : Wy) : ((besN L x w).map (·.1)).Nodup := by
  unfold besN
  cases e : L.find? fun q => decide (q.1 = x) with
  | none => exact List.nodup_nil
  | some p =>
    have hp := List.mem_of_find?_eq_some e
    show (((bes L p.2 w).map (·.2)).map (·.1)).Nodup
    rw [List.map_map]
    have hperm := (P.arr.bes_perm (List.Perm.refl L) hp (P.pos p hp) P.pos w).map fun x : Int × Str × Int => x.2.1
    refine hperm.nodup_iff.mpr ?_
    unfold foundB
    rw [List.map_map]
    exact P.arr.names.sublist (List.filter_sublist.map _)
theorem merge_id : ∀ (l acc : List (Key × D)), ((acc ++ l).map (·.1)).Nodup → l.foldl (fun acc kv => putD acc kv.1 kv.2) acc = acc ++ l
  | [], acc, _ => by simp
  | kv :: l, acc, h => by
    rw [List.foldl_cons]
    have hno : kv.1 ∉ acc.map (·.1) := fun z => by
      rw [List.map_append, List.map_cons] at h
      exact (List.nodup_append.mp h).2.2 _ z _ List.mem_cons_self rfl
    rw [putD_new _ _ _ hno, merge_id l (acc ++ [(kv.1, kv.2)]) (by rw [List.append_assoc]; exact h), List.append_assoc]
    rfl
theorem pairs_prD : ∀ P : List (Str × Int), pairsD (P.map prD) = some (P.map fun x => ((Sum.inr x.1 : Key), D.int x.2))
  | [] => by rw [List.map_nil, pairsD]; rfl
  | x :: P => by
    rw [List.map_cons]
    show pairsD (.tuple [.str x.1, .int x.2] :: P.map prD) = _
    rw [pairsD, pairs_prD P]
    rfl
theorem dict_ok (P : List (Str × Int)) (h : (P.map (·.1)).Nodup) : oDict [.list (P.map prD)] = .ok (.dict (P.map fun x => ((Sum.inr x.1 : Key), D.int x.2))) := by
  show (match pairsD (P.map prD) with | some l => R.ok (D.dict (mergeD l)) | none => .bad) = _
  rw [pairs_prD]
  show R.ok (D.dict (mergeD _)) = _
  congr 2
  unfold mergeD
  rw [merge_id _ []]
  · rfl
  · rw [List.nil_append, List.map_map]
    have : (P.map ((fun kv : Key × D => kv.1) ∘ fun x => ((Sum.inr x.1 : Key), D.int x.2))) = (P.map (·.1)).map Sum.inr := by rw [List.map_map]; rfl
    rw [this]
    exact List.Pairwise.map _ (fun a b h z => h (Sum.inr.inj z)) h
theorem dict_get (P : List (Str × Int)) (h : (P.map (·.1)).Nodup) {y : Str × Int} (hy : y ∈ P) : itemOf (.dict (P.map fun x => ((Sum.inr x.1 : Key), D.int x.2))) (.str y.1) = .ok (.int y.2) := by
  have := getK_mem (fun x : Str × Int => (Sum.inr x.1 : Key)) (fun x => D.int x.2) P (by
    have : (P.map fun x => (Sum.inr x.1 : Key)) = (P.map (·.1)).map Sum.inr := by rw [List.map_map]; rfl
    rw [this]
    exact List.Pairwise.map _ (fun a b h z => h (Sum.inr.inj z)) h) y hy
  show (R.ok (getK _ (Sum.inr y.1)) >>= fun o => match o with | some d => R.ok d | none => R.bad) = _
  rw [this]; rfl
theorem max_most {P : List (Str × Int)} (hne : P ≠ []) (hp : ∀ x ∈ P, 0 < x.2) : maxI (P.map (·.2)) = most P := by
  obtain ⟨x, hx, e⟩ := most_mem hne hp
  obtain ⟨m1, u1⟩ := maxI_spec (ns := P.map (·.2)) (by simpa using hne)
  obtain ⟨_, u2⟩ := maxI_spec (ns := P.map (·.2) ++ [0]) (by simp)
  refine Int.le_antisymm (u2 _ (List.mem_append_left _ m1)) ?_
  rw [← e]
  exact u1 _ (List.mem_map.mpr ⟨x, hx, rfl⟩)
structure All (K : PySem.W.Frag) (T bD : D) (b : Bo) (L : List (Str × Bo)) (kvs : List (List Key × D)) : Prop where
  pos : Pos L b
  b0 : 0 < b.w ∧ 0 < b.h
  cel : Cel kvs (win L) 50000
  sd : ∃ M, Sd K T bD M b ∧ M.Perm L ∧ hit M = hit L
variable {T bD : D}
namespace All
variable (X : All K T bD b L kvs)
include X
theorem lbes {x : Str} (hx : ∃ p ∈ L, p.1 = x) (w : Wy) : m__law_beside K [.dictT kvs, .str x, .str (wname w)] = .ok (.list ((besN L x w).map prD)) := by
  obtain ⟨p, hp, rfl⟩ := hx
  exact law_beside_ok X.cel X.pos X.b0 hp w
theorem lmost (x : Str) (w : Wy) : m__law_most K [.list ((besN L x w).map prD)] = .ok (optD (stepN L x w)) := law_most_ok _ (besN_len X.pos x w) fun y hy => (besN_mem X.pos hy).1
theorem steps {x : Str} (hx : ∃ p ∈ L, p.1 = x) (w : Wy) : m_steps_to K [T, bD, .str x, .str (wname w)] = .ok (optD (stepN L x w)) := by
  obtain ⟨M, S, hM, hh⟩ := X.sd
  obtain ⟨p, hp, rfl⟩ := hx
  rw [← stepN_of S.pos.arr X.pos.arr hM hh]
  exact steps_to_ok S (hM.mem_iff.mpr hp) w
theorem bes {x : Str} (hx : ∃ p ∈ L, p.1 = x) (w : Wy) : m_beside K [T, bD, .str x, .str (wname w)] = .ok (.tuple ((besN L x w).map prD)) := by
  obtain ⟨M, S, hM, hh⟩ := X.sd
  obtain ⟨p, hp, rfl⟩ := hx
  rw [← besN_of S.pos.arr X.pos.arr hM hh]
  exact beside_ok S (hM.mem_iff.mpr hp) w
theorem ne_step (x : Str) (w : Wy) : oNe (optD (stepN L x w)) (optD (stepN L x w)) = .ok (.bool false) := by
  cases h : stepN L x w with
  | none => exact ne_self (by simp [optD, smp]) (by simp [optD, toPy, PyData.depth])
  | some o =>
    obtain ⟨q, hq, rfl⟩ := stepN_in X.pos h
    exact ne_self (by simp [optD, smp]; exact X.pos.lay q hq) (by simp [optD, toPy, PyData.depth])
end All
/-- one side of one window -/
theorem side_turn (X : All K T bD b L kvs) {x : Str} (hx : ∃ p ∈ L, p.1 = x) (w : Wy) (F : List D) (hF : F.length < lim) (ip : Bool) (A1 A2 A3 A4 A10 A11 : List D → R D) (x0 x1 x2 x5 x7 x12 x13 x14 x15 x16 : Cell) :
    ∃ y12 y13, b_law_1 A1 A2 A3 A4 (m__law_beside K) (m__law_most K) (m_steps_to K) (m__law_other_way K) (m_beside K) A10 A11 [x0, x1, x2, .fz T, .fz bD, x5, .fz (.dictT kvs), x7, .ow (.list F), .fz (.bool ip), .fz (.str x), .fz (.str (wname w)), x12, x13, x14, x15, x16] =
      .ok (.nx [x0, x1, x2, .fz T, .fz bD, x5, .fz (.dictT kvs), x7, .ow (.list (F ++ (backW L x w).map bkD)), .fz (.bool (ip && decide ((besN L x w).length < 2))), .fz (.str x), .fz (.str (wname w)), y12, y13, x14, x15, x16]) := by
  have e1 := X.lbes hx w
  have e2 := X.lmost x w
  have e3 := X.steps hx w
  have e4 := X.ne_step x w
  have e5 := X.bes hx w
  have e6 := law_other_ok K w
  have hol : oLen [.list ((besN L x w).map prD)] = .ok (.int ((besN L x w).length : Nat)) := by
    show R.ok (D.int _) = _
    rw [List.length_map]
  have hlt : decide (((besN L x w).length : Int) < 2) = decide ((besN L x w).length < 2) := by
    rw [decide_eq_decide]; omega
  have l3 : (3 : Nat) ≤ lim := by decide
  refine ⟨.fz (.list ((besN L x w).map prD)), .fz (optD (stepN L x w)), ?_⟩
  cases h : stepN L x w with
  | none =>
    rw [h] at e2 e3 e4
    have e2 : m__law_most K [.list ((besN L x w).map prD)] = .ok .none := e2
    have e3 : m_steps_to K [T, bD, .str x, .str (wname w)] = .ok .none := e3
    have e4 : oNe .none .none = .ok (.bool false) := e4
    have hb : backW L x w = [] := by unfold backW; rw [h]
    rw [hb, List.map_nil, List.append_nil, ← hlt]
    show _ = R.ok (Out.nx [x0, x1, x2, .fz T, .fz bD, x5, .fz (.dictT kvs), x7, .ow (.list F), .fz (.bool (ip && decide (((besN L x w).length : Int) < 2))), .fz (.str x), .fz (.str (wname w)), .fz (.list ((besN L x w).map prD)), .fz .none, x14, x15, x16])
    clear hb hlt
    generalize ((besN L x w).length : Int) = N at *
    generalize (besN L x w).map prD = Z at *
    unfold b_law_1
    cases ip <;> simp [rdV, rdB, e1, e2, e3, e4, hol]
  | some o =>
    rw [h] at e2 e3 e4
    have e2 : m__law_most K [.list ((besN L x w).map prD)] = .ok (.str o) := e2
    have e3 : m_steps_to K [T, bD, .str x, .str (wname w)] = .ok (.str o) := e3
    have e4 : oNe (.str o) (.str o) = .ok (.bool false) := e4
    have ho := stepN_in X.pos h
    have e7 := X.lbes ho w.back
    have e8 := X.lmost o w.back
    have e9 := ne_opt X.pos hx (o := o) (w := w.back)
    obtain ⟨cc, hc, hcm⟩ := stepN_some X.pos h
    have hne : besN L x w ≠ [] := fun z => by rw [z] at hc; exact absurd hc List.not_mem_nil
    have hpos : ∀ y ∈ besN L x w, 0 < y.2 := fun y hy => (besN_mem X.pos hy).1
    have hmx := max_most hne hpos
    have hcomp : ∀ c0 c1 c2 c3 c4 c5 c6 c7 c8 c9 c10 c11 c12 c13 c14 : Cell, compL (gT 2 (gsCons (gN 15) (gsCons (gN 16) gsNil))) (fun _ => R.ok true) (e_law_2 A1 A2 A3 A4 (m__law_beside K) (m__law_most K) (m_steps_to K) (m__law_other_way K) (m_beside K) A10 A11) ((besN L x w).map prD) [c0, c1, c2, c3, c4, c5, c6, c7, c8, c9, c10, c11, c12, c13, c14, .un, .un] = .ok (((besN L x w).map (·.2)).map D.int) := by
      intros
      rw [List.map_map]
      exact comp_all prD (fun y : Str × Int => D.int y.2) fun y hy => ⟨_, rfl, rfl, rfl⟩
    have hmax : oMax [.list (((besN L x w).map (·.2)).map D.int)] = .ok (.int (most (besN L x w))) := by
      show (match intsOf (((besN L x w).map (·.2)).map D.int) with | some ns => if ns = [] then R.bad else R.ok (D.int (maxI ns)) | none => .bad) = _
      rw [intsOf_ints]
      show (if (besN L x w).map (·.2) = [] then R.bad else R.ok (D.int (maxI ((besN L x w).map (·.2))))) = _
      rw [if_neg (by simpa using hne), hmx]
    have hdict := dict_ok (besN L x w) (besN_nd X.pos x w)
    have hget := dict_get (besN L x w) (besN_nd X.pos x w) hc
    have hget : itemOf (.dict ((besN L x w).map fun x => ((Sum.inr x.1 : Key), D.int x.2))) (.str o) = .ok (.int (most (besN L x w))) := by rw [← hcm]; exact hget
    have hbl : ((besN L x w).map prD).length ≤ lim := by
      rw [List.length_map]
      have := besN_len X.pos x w
      unfold lim; omega
    have hoi : oIsNot (.str o) .none = .ok (.bool true) := rfl
    have hnn := oNe_int (i := most (besN L x w)) (j := most (besN L x w))
    rw [decide_eq_true rfl] at hnn
    rw [← hlt]
    show _ = R.ok (Out.nx [x0, x1, x2, .fz T, .fz bD, x5, .fz (.dictT kvs), x7, .ow (.list (F ++ (backW L x w).map bkD)), .fz (.bool (ip && decide (((besN L x w).length : Int) < 2))), .fz (.str x), .fz (.str (wname w)), .fz (.list ((besN L x w).map prD)), .fz (.str o), x14, x15, x16])
    clear hlt hmx hne hpos hcm hc
    by_cases hq : stepN L o w.back = some x
    · have hb : backW L x w = [] := by
        unfold backW; rw [h]
        show (if stepN L o w.back = some x then [] else [(x, w, o)]) = _
        rw [if_pos hq]
      rw [decide_eq_true hq] at e9
      rw [hb, List.map_nil, List.append_nil]
      clear hb hq
      generalize ((besN L x w).length : Int) = N at *
      generalize ((besN L x w).map fun x => ((Sum.inr x.1 : Key), D.int x.2)) = DK at *
      generalize ((besN L x w).map (·.2)).map D.int = IS at *
      generalize most (besN L x w) = MO at *
      generalize (besN L x w).map prD = Z at *
      generalize (besN L o w.back).map prD = Z2 at *
      generalize optD (stepN L o w.back) = O at *
      unfold b_law_1
      cases ip <;> simp [rdV, rdB, e1, e2, e3, e4, e5, e6, e7, e8, e9, hol, hbl, hcomp, hmax, hdict, hget]
    · have hb : backW L x w = [(x, w, o)] := by
        unfold backW; rw [h]
        show (if stepN L o w.back = some x then [] else [(x, w, o)]) = _
        rw [if_neg hq]
      rw [decide_eq_false hq] at e9
      rw [hb]
      show _ = R.ok (Out.nx [x0, x1, x2, .fz T, .fz bD, x5, .fz (.dictT kvs), x7, .ow (.list (F ++ [.tuple [.str x, .str (wname w), .str o]])), .fz (.bool (ip && decide (((besN L x w).length : Int) < 2))), .fz (.str x), .fz (.str (wname w)), .fz (.list ((besN L x w).map prD)), .fz (.str o), x14, x15, x16])
      clear hb hq
      generalize ((besN L x w).length : Int) = N at *
      generalize ((besN L x w).map fun x => ((Sum.inr x.1 : Key), D.int x.2)) = DK at *
      generalize ((besN L x w).map (·.2)).map D.int = IS at *
      generalize most (besN L x w) = MO at *
      generalize (besN L x w).map prD = Z at *
      generalize (besN L o w.back).map prD = Z2 at *
      generalize optD (stepN L o w.back) = O at *
      unfold b_law_1
      cases ip <;> simp [rdV, rdB, e1, e2, e3, e4, e5, e6, e7, e8, e9, hol, hbl, hcomp, hmax, hdict, hget, appS, mkTup, l3, hF]
end G58
end S60
noncomputable section S61
namespace G58
open PySem PySem.Spec PyProof.Rows L2 PL
variable {K : PySem.W.Frag}
variable {M L : List (Str × Bo)} {b : Bo} {kvs : List (List Key × D)} {T bD : D}
def plainX (L : List (Str × Bo)) (x : Str) : Bool := wys.all fun w => decide ((besN L x w).length < 2)
/-- all sides of one window -/
theorem window_turn (X : All K T bD b L kvs) {x : Str} (hx : ∃ p ∈ L, p.1 = x) (F : List D) (hF : F.length + 4 < lim) (ip : Bool) (A1 A2 A3 A4 A10 A11 : List D → R D) (x0 x1 x2 x5 x7 x11 x12 x13 x14 x15 x16 : Cell) :
    ∃ y11 y12 y13, b_law_2 A1 A2 A3 A4 (m__law_beside K) (m__law_most K) (m_steps_to K) (m__law_other_way K) (m_beside K) A10 A11 [x0, x1, x2, .fz T, .fz bD, x5, .fz (.dictT kvs), x7, .ow (.list F), .fz (.bool ip), .fz (.str x), x11, x12, x13, x14, x15, x16] =
      .ok (.nx [x0, x1, x2, .fz T, .fz bD, x5, .fz (.dictT kvs), x7, .ow (.list (F ++ (backX L x).map bkD)), .fz (.bool (ip && plainX L x)), .fz (.str x), y11, y12, y13, x14, x15, x16]) := by
  obtain ⟨c', e, y11, y12, y13, ec⟩ := loop_inv (g := gN 11) (fb := b_law_1 A1 A2 A3 A4 (m__law_beside K) (m__law_most K) (m_steps_to K) (m__law_other_way K) (m_beside K) A10 A11)
    (fun j cs => ∃ y11 y12 y13, cs = [x0, x1, x2, .fz T, .fz bD, x5, .fz (.dictT kvs), x7, .ow (.list (F ++ ((wys.take j).flatMap (backW L x)).map bkD)), .fz (.bool (ip && (wys.take j).all fun w => decide ((besN L x w).length < 2))), .fz (.str x), y11, y12, y13, x14, x15, x16])
    (items := wys.map fun w => .str (wname w)) (c := [x0, x1, x2, .fz T, .fz bD, x5, .fz (.dictT kvs), x7, .ow (.list F), .fz (.bool ip), .fz (.str x), x11, x12, x13, x14, x15, x16]) 0 ⟨x11, x12, x13, by simp⟩ (fun i d cs hd ⟨y11, y12, y13, ec⟩ => by
      subst ec
      rw [List.getElem?_map] at hd
      obtain ⟨w, hw, rfl⟩ := Option.map_eq_some_iff.mp hd
      have hl : (F ++ ((wys.take (0 + i)).flatMap (backW L x)).map bkD).length < lim := by
        have h1 := flat_len (backW L x) 1 (wys.take (0 + i)) fun w _ => backW_len L x w
        have h2 : (wys.take (0 + i)).length ≤ 4 := by rw [List.length_take]; exact Nat.min_le_right _ _
        rw [List.length_append, List.length_map]; omega
      obtain ⟨z12, z13, e⟩ := side_turn X hx w (F ++ ((wys.take (0 + i)).flatMap (backW L x)).map bkD) hl (ip && (wys.take (0 + i)).all fun w => decide ((besN L x w).length < 2)) A1 A2 A3 A4 A10 A11 x0 x1 x2 x5 x7 y12 y13 x14 x15 x16
      refine ⟨_, rfl, _, .inl e, .fz (.str (wname w)), z12, z13, ?_⟩
      rw [Nat.zero_add, take_snoc _ _ _ hw, List.flatMap_append, List.map_append, List.append_assoc, List.all_append, Bool.and_assoc]
      simp)
  subst ec
  rw [List.length_map, Nat.zero_add, List.take_length] at e
  have hw : asIt (.list [.str "down", .str "left", .str "right", .str "up"]) = .ok (wys.map fun w => .str (wname w)) := rfl
  have l4 : (4 : Nat) ≤ lim := by decide
  refine ⟨y11, y12, y13, ?_⟩
  have e : loopD (gN 11) (b_law_1 A1 A2 A3 A4 (m__law_beside K) (m__law_most K) (m_steps_to K) (m__law_other_way K) (m_beside K) A10 A11) [.str "down", .str "left", .str "right", .str "up"] [x0, x1, x2, .fz T, .fz bD, x5, .fz (.dictT kvs), x7, .ow (.list F), .fz (.bool ip), .fz (.str x), x11, x12, x13, x14, x15, x16] = _ := e
  unfold b_law_2
  simp [mkLst, l4]
  exact e
theorem smp_bk (P : Pos L b) : ∀ (Y : List (Str × Wy × Str)), (∀ y ∈ Y, (∃ p ∈ L, p.1 = y.1) ∧ ∃ q ∈ L, q.1 = y.2.2) → smpAll (Y.map bkD) = true
  | [], _ => by simp [smpAll]
  | y :: Y, h => by
    obtain ⟨⟨p, hp, e1⟩, q, hq, e2⟩ := h y List.mem_cons_self
    have hw : PyData.canLay0 (.str (wname y.2.1)) = true := by cases y.2.1 <;> decide +kernel
    have h1 : PyData.canLay0 (.str y.1) = true := by rw [← e1]; exact P.lay p hp
    have h2 : PyData.canLay0 (.str y.2.2) = true := by rw [← e2]; exact P.lay q hq
    rw [List.map_cons, smpAll, smp_bk P Y fun z hz => h z (List.mem_cons_of_mem _ hz)]
    simp [bkD, smp, smpAll, h1, h2, hw]
theorem dep_bk : ∀ (Y : List (Str × Wy × Str)), PyData.depthAll (toPys (Y.map bkD)) ≤ 1
  | [] => by simp [toPys, PyData.depthAll]
  | y :: Y => by
    have := dep_bk Y
    rw [List.map_cons, toPys, PyData.depthAll]
    simp [bkD, toPy, toPys, PyData.depth, PyData.depthAll]
    omega
theorem smp_strs : ∀ (N : List Str), (∀ x ∈ N, PyData.canLay0 (.str x) = true) → smpAll (N.map D.str) = true
  | [], _ => by simp [smpAll]
  | x :: N, h => by
    rw [List.map_cons, smpAll, smp, h x List.mem_cons_self, smp_strs N fun y hy => h y (List.mem_cons_of_mem _ hy)]; rfl
theorem dep_strs (N : List Str) : (toPy (.tuple (N.map D.str))).depth ≤ 64 := by
  have : PyData.depthAll (toPys (N.map D.str)) = 0 := by
    induction N with
    | nil => simp [toPys, PyData.depthAll]
    | cons x N ih =>
      rw [List.map_cons, toPys, PyData.depthAll, ih]
      simp [toPy, PyData.depth]
  rw [toPy, PyData.depth, this]; omega
theorem back_in (P : Pos L b) {N : List Str} (hN : ∀ x ∈ N, ∃ p ∈ L, p.1 = x) : ∀ y ∈ N.flatMap (backX L), (∃ p ∈ L, p.1 = y.1) ∧ ∃ q ∈ L, q.1 = y.2.2 := by
  intro y hy
  obtain ⟨x, hx, hy⟩ := List.mem_flatMap.mp hy
  obtain ⟨w, _, hy⟩ := List.mem_flatMap.mp hy
  unfold backW at hy
  split at hy
  · exact absurd hy List.not_mem_nil
  · rename_i o ho
    split at hy
    · exact absurd hy List.not_mem_nil
    · rw [List.mem_singleton.mp hy]
      exact ⟨hN x hx, stepN_in P ho⟩
/-- where each has one beside it, nothing is told -/
theorem plain_nil (P : Pos L b) {N : List Str} (hN : N.Perm (L.map (·.1))) (h : N.all (plainX L) = true) : N.flatMap (backX L) = [] := by
  have hall : ∀ q ∈ L, ∀ w : Wy, (besN L q.1 w).length < 2 := fun q hq w => by
    have h1 := List.all_eq_true.mp h q.1 (hN.mem_iff.mpr (List.mem_map.mpr ⟨q, hq, rfl⟩))
    unfold plainX at h1
    have := List.all_eq_true.mp h1 w (by cases w <;> simp [wys])
    exact of_decide_eq_true this
  rw [List.flatMap_eq_nil_iff]
  intro x _
  unfold backX
  rw [List.flatMap_eq_nil_iff]
  intro w _
  unfold backW
  split
  · rfl
  · rename_i o ho
    obtain ⟨q, hq, e⟩ := stepN_in P ho
    rw [if_pos (plain_back P ho (by rw [← e]; exact hall q hq w.back))]
theorem names_exist (L : List (Str × Bo)) : ∃ N : List Str, N.Perm (L.map (·.1)) ∧ sortD ((L.map (·.1)).map D.str) = N.map D.str := sortD_perm D.str (L.map (·.1))
/-- one turn of the law -/
theorem law_turn (ds : List Int) (hl : ds.length = 60) (hp : ∀ d ∈ ds, 0 ≤ d) (t : Nat) (ht : t < 6) (x0 x3 x4 x5 x6 x7 x8 x9 x10 x11 x12 x13 x14 x15 x16 : Cell) (A1 : List D → R D) :
    ∃ y3 y4 y5 y6 y7 y8 y9 y10 y11 y12 y13 y14 y15 y16, b_law_3 A1 (m__law_drawn K) (m__law_shown K) (m__law_cells K) (m__law_beside K) (m__law_most K) (m_steps_to K) (m__law_other_way K) (m_beside K) (m_not_back K) (m_there_windows K)
      [x0, .fz (.list (ds.map D.int)), .fz (.int t), x3, x4, x5, x6, x7, x8, x9, x10, x11, x12, x13, x14, x15, x16] =
      .ok (.nx [x0, .fz (.list (ds.map D.int)), .fz (.int t), y3, y4, y5, y6, y7, y8, y9, y10, y11, y12, y13, y14, y15, y16]) := by
  obtain ⟨n, t0, x, y, w, h, a', u', hb, hT, hn, ed⟩ := law_drawn_ok K ds hl hp t ht
  obtain ⟨b, hbe⟩ : ∃ b : Bo, b = ⟨x, y, w, h⟩ := ⟨_, rfl⟩
  have hbd : D.tuple [.int x, .int y, .int w, .int h] = boD b := by rw [hbe]; rfl
  rw [hbd] at ed
  have bx : Bx b.x b.y b.w b.h := by rw [hbe]; exact hb
  have dw : Drw n t0 b := ⟨hn, hT.wf, names_nodup hT.names, names_len16 hT.names, bx⟩
  obtain ⟨M, hM, eM⟩ := sides_ok K dw
  have AM := mk_arr dw hM
  have AL : Arr ((shownT n t0 b).filter posR) b := mk_arr dw (List.Perm.refl _)
  have hlen : ((shownT n t0 b).filter posR).length ≤ 81 := Nat.le_trans (List.length_filter_le _ _) (Nat.le_trans (shown_len n t0 dw.wf b) (pow3 hn))
  obtain ⟨kvs, ec, g⟩ := law_cells_ok K AL hlen (fun p hp => (List.mem_filter.mp hp).2) (by have := bx.x0; have := bx.x6; have := bx.y0; have := bx.y6; omega)
  have es : m__law_shown K [enc n t0, boD b] = .ok (.list (((shownT n t0 b).filter posR).map rowD)) := law_shown_ok K n 20 (by omega) hn t0 b dw.wf ⟨by have := bx.w1; omega, by have := bx.w24; omega⟩ ⟨by have := bx.h1; omega, by have := bx.h24; omega⟩
  have PL : Pos ((shownT n t0 b).filter posR) b := ⟨AL, fun q hq => of_decide_eq_true (List.mem_filter.mp hq).2, fun p hp => lay16 _ (names_in16 n t0 dw.wf _ ((shown_sub n t0 b dw.wf).subset (List.mem_map.mpr ⟨p, (List.mem_filter.mp hp).1, rfl⟩))), hlen⟩
  have PM : Pos M b := ⟨AM, fun q hq => PL.pos q (hM.mem_iff.mp hq), fun q hq => PL.lay q (hM.mem_iff.mp hq), by rw [hM.length_eq]; exact hlen⟩
  have SM : Sd K (enc n t0) (boD b) M b := ⟨eM, PM⟩
  have hh : hit M = hit ((shownT n t0 b).filter posR) := funext fun c => win_perm AL AM hM c
  have X : All K (enc n t0) (boD b) b ((shownT n t0 b).filter posR) kvs := ⟨PL, ⟨by have := bx.w1; omega, by have := bx.h1; omega⟩, g, M, SM, hM, hh⟩
  obtain ⟨N, hN, hNs⟩ := names_exist ((shownT n t0 b).filter posR)
  have hMs : sortD ((M.map (·.1)).map D.str) = N.map D.str := by rw [← hNs]; exact sortD_str (hM.map _)
  have hNM : N.Perm (M.map (·.1)) := hN.trans (hM.map _).symm
  have enb := not_back_ok SM N hNM hMs
  rw [backX_of AM AL hM hh] at enb
  have etw := there_windows_ok SM
  rw [hMs] at etw
  generalize (shownT n t0 b).filter posR = L at *
  generalize enc n t0 = T at *
  have hNl : N.length ≤ 81 := by rw [hN.length_eq, List.length_map]; exact hlen
  have hmem : ∀ x ∈ N, ∃ p ∈ L, p.1 = x := fun x hx => by
    obtain ⟨p, hp, e⟩ := List.mem_map.mp (hN.mem_iff.mp hx)
    exact ⟨p, hp, e⟩
  have hNlay : ∀ x ∈ N, PyData.canLay0 (.str x) = true := fun x hx => by
    obtain ⟨p, hp, e⟩ := hmem x hx
    rw [← e]; exact PL.lay p hp
  have hlr : (L.map rowD).length ≤ lim := by rw [List.length_map]; unfold lim; omega
  have comp1 : ∀ c0 c1 c2 c3 c4 c5 c6 c7 c8 c9 c10 c11 c12 c13 c15 c16 : Cell, compL (gN 14) (fun _ => R.ok true) (e_law_1 A1 (m__law_drawn K) (m__law_shown K) (m__law_cells K) (m__law_beside K) (m__law_most K) (m_steps_to K) (m__law_other_way K) (m_beside K) (m_not_back K) (m_there_windows K)) (L.map rowD) [c0, c1, c2, c3, c4, c5, c6, c7, c8, c9, c10, c11, c12, c13, .un, c15, c16] = .ok ((L.map (·.1)).map D.str) := by
    intros
    rw [List.map_map]
    exact comp_all rowD (fun p : Str × Bo => D.str p.1) fun p hp => ⟨_, rfl, rfl, rfl⟩
  have hso : oSorted [.list ((L.map (·.1)).map D.str)] = .ok (.list (N.map D.str)) := by
    have hs := strs_sortOk (L.map (·.1)) (by rw [List.length_map]; unfold lim; omega) fun x hx => by
      obtain ⟨q, hq, rfl⟩ := List.mem_map.mp hx
      exact PL.lay q hq
    simp only [oSorted, hs, if_true, hNs]
  have loop1 : ∃ y10 y11 y12 y13, loopD (gN 10) (b_law_2 A1 (m__law_drawn K) (m__law_shown K) (m__law_cells K) (m__law_beside K) (m__law_most K) (m_steps_to K) (m__law_other_way K) (m_beside K) (m_not_back K) (m_there_windows K)) (N.map D.str) [x0, .fz (.list (ds.map D.int)), .fz (.int t), .fz T, .fz (boD b), .fz (.list (L.map rowD)), .fz (.dictT kvs), .fz (.list (N.map D.str)), .ow (.list []), .fz (.bool true), x10, x11, x12, x13, x14, x15, x16] =
      .ok (.nx [x0, .fz (.list (ds.map D.int)), .fz (.int t), .fz T, .fz (boD b), .fz (.list (L.map rowD)), .fz (.dictT kvs), .fz (.list (N.map D.str)), .ow (.list ((N.flatMap (backX L)).map bkD)), .fz (.bool (N.all (plainX L))), y10, y11, y12, y13, x14, x15, x16]) := by
    obtain ⟨c', e, y10, y11, y12, y13, ec'⟩ := loop_inv (g := gN 10) (fb := b_law_2 A1 (m__law_drawn K) (m__law_shown K) (m__law_cells K) (m__law_beside K) (m__law_most K) (m_steps_to K) (m__law_other_way K) (m_beside K) (m_not_back K) (m_there_windows K))
      (fun j c => ∃ y10 y11 y12 y13, c = [x0, .fz (.list (ds.map D.int)), .fz (.int t), .fz T, .fz (boD b), .fz (.list (L.map rowD)), .fz (.dictT kvs), .fz (.list (N.map D.str)), .ow (.list (((N.take j).flatMap (backX L)).map bkD)), .fz (.bool ((N.take j).all (plainX L))), y10, y11, y12, y13, x14, x15, x16]) (items := N.map D.str)
      (c := [x0, .fz (.list (ds.map D.int)), .fz (.int t), .fz T, .fz (boD b), .fz (.list (L.map rowD)), .fz (.dictT kvs), .fz (.list (N.map D.str)), .ow (.list []), .fz (.bool true), x10, x11, x12, x13, x14, x15, x16]) 0 ⟨x10, x11, x12, x13, by simp⟩ (fun i d c hd ⟨y10, y11, y12, y13, ec'⟩ => by
        subst ec'
        rw [List.getElem?_map] at hd
        obtain ⟨z, hz, rfl⟩ := Option.map_eq_some_iff.mp hd
        have hl : (((N.take (0 + i)).flatMap (backX L)).map bkD).length + 4 < lim := by
          have h1 := flat_len (backX L) 4 (N.take (0 + i)) fun w _ => backX_len L w
          have h2 : (N.take (0 + i)).length ≤ 81 := by rw [List.length_take]; omega
          rw [List.length_map]; unfold lim; omega
        obtain ⟨z11, z12, z13, e⟩ := window_turn X (hmem z (List.mem_of_getElem? hz)) _ hl ((N.take (0 + i)).all (plainX L)) A1 (m__law_drawn K) (m__law_shown K) (m__law_cells K) (m_not_back K) (m_there_windows K) x0 (.fz (.list (ds.map D.int))) (.fz (.int t)) (.fz (.list (L.map rowD))) (.fz (.list (N.map D.str))) y11 y12 y13 x14 x15 x16
        refine ⟨_, rfl, _, .inl e, .fz (.str z), z11, z12, z13, ?_⟩
        rw [Nat.zero_add, take_snoc _ _ _ hz, List.flatMap_append, List.map_append, List.all_append]
        simp)
    subst ec'
    rw [List.length_map, Nat.zero_add, List.take_length] at e
    exact ⟨_, _, _, _, e⟩
  obtain ⟨y10, y11, y12, y13, loop1⟩ := loop1
  have hin := back_in PL hmem
  have n1 : oNe (.tuple ((N.flatMap (backX L)).map bkD)) (.tuple ((N.flatMap (backX L)).map bkD)) = .ok (.bool false) :=
    ne_self (by rw [smp]; exact smp_bk PL _ hin) (by rw [toPy, PyData.depth]; have := dep_bk (N.flatMap (backX L)); omega)
  have n2 : oNe (.tuple (N.map D.str)) (.tuple (N.map D.str)) = .ok (.bool false) := ne_self (by rw [smp]; exact smp_strs N hNlay) (dep_strs N)
  have hpl : N.all (plainX L) = true → (N.flatMap (backX L)).map bkD = [] := fun z => by rw [plain_nil PL hN z]; rfl
  have l0 : (0 : Nat) ≤ lim := Nat.zero_le _
  refine ⟨.fz T, .fz (boD b), .fz (.list (L.map rowD)), .fz (.dictT kvs), .fz (.list (N.map D.str)), .ow (.list ((N.flatMap (backX L)).map bkD)), .fz (.bool (N.all (plainX L))), y10, y11, y12, y13, x14, x15, x16, ?_⟩
  clear hin hNs hMs hNM
  generalize boD b = BD at *
  generalize L.map rowD = LR at *
  generalize (L.map (·.1)).map D.str = LN at *
  generalize (N.flatMap (backX L)).map bkD = FB at *
  generalize N.all (plainX L) = IP at *
  generalize N.map D.str = NS at *
  generalize ds.map D.int = DS at *
  unfold b_law_3
  cases IP with
  | true =>
    have := hpl rfl
    subst this
    simp [rdV, rdB, ed, es, ec, hlr, comp1, hso, mkLst, l0, loop1, enb, n1, n2, etw]
  | false => simp [rdV, rdB, ed, es, ec, hlr, comp1, hso, mkLst, l0, loop1, enb, n1, n2, etw]
def lastT : Tr 2 := (Nd.grp .row 0 [(1, (Nd.win "a" : Nd (Tr 0))), (1, (Nd.grp .col 0 [(1, ("b" : Str)), (1, ("c" : Str))] : Nd (Tr 0)))] : Nd (Tr 1))
def lastB : Bo := ⟨0, 0, 10, 10⟩
def lastL : List (Str × Bo) := [("a", ⟨0, 0, 5, 10⟩), ("b", ⟨5, 0, 5, 5⟩), ("c", ⟨5, 5, 5, 5⟩)]
theorem last_drw : Drw 2 lastT lastB := by
  refine ⟨by omega, ?_, by show (["a", "b", "c"] : List Str).Nodup; decide +kernel, by show 3 ≤ 16; omega, ⟨by decide, by decide, by decide, by decide, by decide, by decide, by decide, by decide⟩⟩
  show (0 : Nat) < 2 ∧ (Kd.row ≠ .tabs → 2 ≤ 2) ∧ 2 ≤ 3 ∧ ∀ p ∈ ([(1, (Nd.win "a" : Nd (Tr 0))), (1, (Nd.grp .col 0 [(1, ("b" : Str)), (1, ("c" : Str))] : Nd (Tr 0)))] : List (Int × Tr 1)), 1 ≤ p.1 ∧ p.1 ≤ 12 ∧ WF 1 p.2 ∧ kindOf 1 p.2 ≠ some .row
  refine ⟨by omega, fun _ => by omega, by omega, fun p hp => ?_⟩
  rcases List.mem_cons.mp hp with z | z
  · subst z
    exact ⟨by show (1 : Int) ≤ 1; omega, by show (1 : Int) ≤ 12; omega, (by show ("a" : Str) ∈ names17; decide +kernel), fun z => nomatch z⟩
  · rw [List.mem_singleton.mp z]
    refine ⟨by show (1 : Int) ≤ 1; omega, by show (1 : Int) ≤ 12; omega, ?_, fun z => nomatch z⟩
    show (0 : Nat) < 2 ∧ (Kd.col ≠ .tabs → 2 ≤ 2) ∧ 2 ≤ 3 ∧ ∀ p ∈ ([(1, ("b" : Str)), (1, ("c" : Str))] : List (Int × Tr 0)), 1 ≤ p.1 ∧ p.1 ≤ 12 ∧ WF 0 p.2 ∧ kindOf 0 p.2 ≠ some .col
    refine ⟨by omega, fun _ => by omega, by omega, fun p hp => ?_⟩
    rcases List.mem_cons.mp hp with z | z
    · subst z
      exact ⟨by show (1 : Int) ≤ 1; omega, by show (1 : Int) ≤ 12; omega, (by show ("b" : Str) ∈ names17; decide +kernel), fun z => nomatch z⟩
    · rw [List.mem_singleton.mp z]
      exact ⟨by show (1 : Int) ≤ 1; omega, by show (1 : Int) ≤ 12; omega, (by show ("c" : Str) ∈ names17; decide +kernel), fun z => nomatch z⟩
theorem last_shown : (shownT 2 lastT lastB).filter posR = lastL := by kernel_rfl
theorem last_step : stepN lastL "a" .right = some "b" := by decide +kernel
theorem last_back : lastL.flatMap (fun p => backX lastL p.1) = [(("c" : Str), Wy.left, ("a" : Str))] := by kernel_rfl
theorem last_ok : m_steps_to K [enc 2 lastT, boD lastB, .str "a", .str "right"] = .ok (.str "b") ∧ m_not_back K [enc 2 lastT, boD lastB] = .ok (.tuple [.tuple [.str "c", .str "left", .str "a"]]) := by
  obtain ⟨M, hM, eM⟩ := sides_ok K last_drw
  have AM := mk_arr last_drw hM
  have AL : Arr ((shownT 2 lastT lastB).filter posR) lastB := mk_arr last_drw (List.Perm.refl _)
  have hlen : ((shownT 2 lastT lastB).filter posR).length ≤ 81 := by rw [last_shown]; decide
  have PL : Pos ((shownT 2 lastT lastB).filter posR) lastB := ⟨AL, fun q hq => of_decide_eq_true (List.mem_filter.mp hq).2, fun p hp => lay16 _ (names_in16 2 lastT last_drw.wf _ ((shown_sub 2 lastT lastB last_drw.wf).subset (List.mem_map.mpr ⟨p, (List.mem_filter.mp hp).1, rfl⟩))), hlen⟩
  have PM : Pos M lastB := ⟨AM, fun q hq => PL.pos q (hM.mem_iff.mp hq), fun q hq => PL.lay q (hM.mem_iff.mp hq), by rw [hM.length_eq]; exact hlen⟩
  have SM : Sd K (enc 2 lastT) (boD lastB) M lastB := ⟨eM, PM⟩
  have hh : hit M = hit ((shownT 2 lastT lastB).filter posR) := funext fun c => win_perm AL AM hM c
  rw [last_shown] at hM hh AL
  have ha : (("a", ⟨0, 0, 5, 10⟩) : Str × Bo) ∈ M := hM.mem_iff.mpr List.mem_cons_self
  obtain ⟨N, hN, hNs⟩ := names_exist M
  constructor
  · have := steps_to_ok SM ha .right
    rw [stepN_of AM AL hM hh] at this
    have e : m_steps_to K [enc 2 lastT, boD lastB, .str "a", .str "right"] = .ok (optD (stepN lastL "a" .right)) := this
    rw [e, last_step]; rfl
  · have := not_back_ok SM N hN hNs
    rw [backX_of AM AL hM hh] at this
    have h1 : (N.flatMap (backX lastL)).Perm [(("c" : Str), Wy.left, ("a" : Str))] := by
      rw [← last_back]
      have h2 := List.Perm.flatMap_right (backX lastL) (hN.trans (hM.map (·.1)))
      have h3 : (lastL.map (·.1)).flatMap (backX lastL) = lastL.flatMap fun p => backX lastL p.1 := by rw [List.flatMap_map]
      rw [← h3]; exact h2
    rw [this, h1.eq_singleton]
    rfl
theorem law_true (ns : List Int) (h : ns.length ≤ 63) : m_law K [.flist (ns.map D.int)] = .ok (.bool true) := by
  obtain ⟨ds, hl, hp, ed⟩ := law_draws_ok K ns h
  obtain ⟨c', e, y2, y3, y4, y5, y6, y7, y8, y9, y10, y11, y12, y13, y14, y15, y16, ec⟩ := loop_inv (g := gN 2) (fb := b_law_3 (m__law_draws K) (m__law_drawn K) (m__law_shown K) (m__law_cells K) (m__law_beside K) (m__law_most K) (m_steps_to K) (m__law_other_way K) (m_beside K) (m_not_back K) (m_there_windows K))
    (fun j c => ∃ y2 y3 y4 y5 y6 y7 y8 y9 y10 y11 y12 y13 y14 y15 y16, c = [.fz (.flist (ns.map D.int)), .fz (.list (ds.map D.int)), y2, y3, y4, y5, y6, y7, y8, y9, y10, y11, y12, y13, y14, y15, y16]) (items := rangeD 0 6)
    (c := [.fz (.flist (ns.map D.int)), .fz (.list (ds.map D.int)), .un, .un, .un, .un, .un, .un, .un, .un, .un, .un, .un, .un, .un, .un, .un]) 0 ⟨_, _, _, _, _, _, _, _, _, _, _, _, _, _, _, rfl⟩ (fun i d c hd ⟨y2, y3, y4, y5, y6, y7, y8, y9, y10, y11, y12, y13, y14, y15, y16, ec⟩ => by
      subst ec
      obtain ⟨hi, rfl⟩ := range_get hd
      obtain ⟨z3, z4, z5, z6, z7, z8, z9, z10, z11, z12, z13, z14, z15, z16, e⟩ := law_turn (K := K) ds hl hp i hi (.fz (.flist (ns.map D.int))) y3 y4 y5 y6 y7 y8 y9 y10 y11 y12 y13 y14 y15 y16 (m__law_draws K)
      exact ⟨_, rfl, _, .inl e, _, _, _, _, _, _, _, _, _, _, _, _, _, _, _, rfl⟩)
  subst ec
  have r6 : rng1 [.int 6] = .ok (rangeD 0 6) := by rfl
  obtain ⟨f1, f2⟩ := last_ok (K := K)
  have l1 : (1 : Nat) ≤ lim := by decide
  have l2 : (2 : Nat) ≤ lim := by decide
  have l3 : (3 : Nat) ≤ lim := by decide
  have l4 : (4 : Nat) ≤ lim := by decide
  have eT : enc 2 lastT = .tuple [.str "row", .tuple [.tuple [.int 1, .tuple [.str "win", .str "a"]], .tuple [.int 1, .tuple [.str "col", .tuple [.tuple [.int 1, .tuple [.str "win", .str "b"]], .tuple [.int 1, .tuple [.str "win", .str "c"]]]]]]] := rfl
  have eB : boD lastB = .tuple [.int 0, .int 0, .int 10, .int 10] := rfl
  rw [eT, eB] at f1 f2
  have lb : PyData.canLay0 (.str "b") = true := by decide +kernel
  have lc : PyData.canLay0 (.str "c") = true := by decide +kernel
  have la : PyData.canLay0 (.str "a") = true := by decide +kernel
  have ll : PyData.canLay0 (.str "left") = true := by decide +kernel
  have q1 : oEq (.str "b") (.str "b") = .ok (.bool true) := eq_self (by rw [smp]; exact lb) (by rw [toPy, PyData.depth]; omega)
  have q2 : oEq (.tuple [.tuple [.str "c", .str "left", .str "a"]]) (.tuple [.tuple [.str "c", .str "left", .str "a"]]) = .ok (.bool true) := eq_self (by simp [smp, smpAll, lc, la, ll]) (by simp [toPy, toPys, PyData.depth, PyData.depthAll])
  show a_law _ _ _ _ _ _ _ _ _ _ _ _ = _
  unfold a_law f_law
  simp [cellsN, rdV, rdB, ed, r6, e, mkTup, l1, l2, l3, l4, f1, f2, q1, q2]
end G58
end S61
noncomputable section S62
namespace G58
open PySem PySem.Spec PyProof.Rows L2 PL
theorem noCX {P : Program} {w : World} {H : Hp} {s : Shared} {e : Value} {s' : Shared} (h : L2.CX P w [] H s (fun _ _ _ => False) e s') : False := by
  obtain ⟨_, _, _, _, _, _, _, _, _, _, _, _, z⟩ := h
  exact z
def spLaw (K : PySem.W.Frag) : Sp := fun vs H Q _ => ∃ (a : Addr) (ns : List Int), vs = [.ref a] ∧ SqL K H a (ns.map V.int) ∧ ns.length ≤ 63 ∧ ∀ H', Q (.bl true) H'
theorem facts {w : World} {K : PySem.W.Frag} {h : Heap} {mg : Str → Option Value} {f : Addr} (X : K.In h) (G : h.Ns mainGlobals mg) (hfa : mg ("law" : Str) = some (.ref f)) (c : He.SaysX fa fn ts [] ex w h K) :
    ∃ fd : FuncData, (∀ (s : Shared) (v : Value), BindsTo s fd ⟨[v], []⟩ [("script", v)]) ∧ ∀ base : Heap, K.In base → base.Ns mainGlobals mg → FnOk (PySem.Challenge.rw_windowwright_k58_whole_keys_to_names_in).prog w K mg base (L2.CX (PySem.Challenge.rw_windowwright_k58_whole_keys_to_names_in).prog w) 29 f fd ["script"] (spLaw K) := by
  have T : Top fa fn ts ex w K mg := ⟨h, X, G, c⟩
  obtain ⟨fd, F⟩ := T.def_ 41 rfl
  have e := hfa.symm.trans (T.glo 83 rfl)
  cases e
  have b := FunD.bindsA (ps := ["script"]) F fun _ _ _ _ _ _ us hl => match us, hl with | [_], _ => rfl
  refine ⟨fd, fun s v => b s [v] rfl, fun base _ _ => ?_⟩
  refine (law_fn T F).imp fun vs H Q E ⟨a, ns, ev, hS, hl, q⟩ => ?_
  subst ev
  refine ⟨rfl, H, [.flist (ns.map D.int)], fun _ _ e => e, .cons (Rep.flist_iff.mpr ⟨a, _, rfl, hS, RepAll.ints ns⟩) .nil, ?_⟩
  rw [law_true ns hl]
  exact fun v G' H' _ r => by
    rw [Rep.bool_iff.mp r]; exact q H'
end G58
open PySem PySem.W PyProof.Rows
set_option maxHeartbeats 0 in
theorem PySem.Challenge.cw_windowwright_k58_whole_keys_to_names_in_holds : PySem.Challenge.rw_windowwright_k58_whole_keys_to_names_in.Holds := by
  w_on; o_law; k_head; (case hw => w_witness2)
  k_fill
  refine L2.walk_of (l := PySem.Challenge.rw_windowwright_k58_whole_keys_to_names_in) (n := 63) (k := 29) (x := "script") (CX := fun w => L2.CX (PySem.Challenge.rw_windowwright_k58_whole_keys_to_names_in).prog w) (sp := fun w => G58.spLaw _) rfl (by decide) rfl ⟨rfl, by decide, by decide⟩ (fun w h Y => PySem.W.kIn_of Y) ?F (fun _ _ a ns hl _ hS => ⟨a, ns, rfl, hS, hl, fun _ => rfl⟩) (fun _ _ _ _ _ h => G58.noCX h)
  case F =>
    intro w mg f h KX G hmg
    have hmg : mg ("law" : PySem.Str) = some (.ref f) := hmg
    refine G58.facts KX G hmg ⟨?c1, ?c2, (fun p hp => nomatch hp), (fun p hp => nomatch hp), (fun p hp => nomatch hp)⟩
    case c1 => (show He.obsT _ _ _ _ = He.valT _ _ _; kernel_rfl)
    case c2 => kernel_rfl
end S62
